import PyProof.Rows.All
import HandS.ForMost
import HandS.Exc
import HandS.Wide
import HandS.IsInst
import HandS.Flow
import HandS.Defaults
import HandS.Lambda
import HandS.EndBits
import HandS.EndTab
import HandS.ExcInit
import HandS.ExcField
import HandS.ExcIs
import HandS.TryMany
import HandS.OwnEq
import KE.KOpsOwn
import PyProof.InstEq
import HandS.Style
import HandS.WordsExc
import HandS.Set
import HandS.SetBool
import HandS.SetTxt0
import HandS.SetFor
import HandS.More
import HandS.Strs
import PyProof.Rows.SetFrom
import HandS.Comp
import KE.IntTextLaws
import HandS.Text
import HandS.Steps
import PySem.Challenge.RW_solidnames_k02_whole_texts_that_are_form
import PyProof.StrBlock2
import PyProof.SliceStr2
import HandS.RaiseMore
import HandS.Ends
set_option Elab.async false
set_option linter.all false
set_option maxRecDepth 100000
set_option maxHeartbeats 1000000
/-! CL: readings that compute: a step's reading reduces by itself where the values are told. Over HandS. -/
namespace CL
open PySem PySem.Spec PyProof.Rows L2

/-! ### weakening a reading -/
theorem PE_imp {X : Cx} {e : Expr} {t t' : TE} (h : PE X e t) (w : ∀ σ H Q, t' σ H Q → t σ H Q) : PE X e t' :=
  ⟨fun pins s σ H Q I q => h.run pins s σ H Q I (w σ H Q q)⟩
theorem PT_imp {X : Cx} {e : Expr} {t t' : TT} (h : PT X e t) (w : ∀ σ H Q, t' σ H Q → t σ H Q) : PT X e t' :=
  ⟨fun pins s σ H Q I q => h.run pins s σ H Q I (w σ H Q q)⟩
theorem PS_imp {X : Cx} {e : Stmt} {t t' : TS} (h : PS X e t) (w : ∀ D σ H, t' D σ H → t D σ H) : PS X e t' :=
  ⟨fun pins s σ H D I q => h.run pins s σ H D I (w D σ H q)⟩
theorem OpR_imp {X : Cx} {f : Value → Value → Sem Value} {r r' : R2} (h : OpR X f r) (w : ∀ x y H Q, r' x y H Q → r x y H Q) : OpR X f r' :=
  fun pins s σ H x y v u Q I rx ry q => h pins s σ H x y v u Q I rx ry (w x y H Q q)
theorem CallR_imp {X : Cx} {f : Value} {r r' : List V → Hp → VK → Prop} (h : CallR X f r) (w : ∀ xs H Q, r' xs H Q → r xs H Q) : CallR X f r' :=
  fun pins s σ H xs us Q I rx q => h pins s σ H xs us Q I rx (w xs H Q q)

/-! ### a reading closed upwards -/
def up (t : TE) : TE := fun σ H Q => ∃ R : VK, t σ H R ∧ ∀ x H1, R x H1 → Q x H1
theorem PE_up {X : Cx} {e : Expr} {t : TE} (h : PE X e t) : PE X e (up t) := ⟨fun pins s σ H Q I ⟨R, q, w⟩ =>
  thn (h.run pins s σ H R I q) fun u s1 ⟨x, H1, I1, r1, q1⟩ => ⟨x, H1, I1, r1, w x H1 q1⟩⟩
def upA (t : TA) : TA := fun σ H Q => ∃ R : List V → Hp → Prop, t σ H R ∧ ∀ x H1, R x H1 → Q x H1
theorem PA_up {X : Cx} {e : List Expr} {t : TA} (h : PA X e t) : PA X e (upA t) := ⟨fun pos pins s σ H Q I ⟨R, q, w⟩ =>
  thn (h.run pos pins s σ H R I q) fun u s1 ⟨x, H1, I1, r1, q1⟩ => ⟨x, H1, I1, r1, w x H1 q1⟩⟩

/-! ### names -/
def cVar (i : Nat) : TE := fun σ H Q => match σ[i]? with
  | some (some v) => Q v H
  | _ => False
section
variable {X : Cx}
theorem cv (i : Nat) {x : Str} {pos : Pos} (hN : X.N[i]? = some x := by rfl) (hv : Vis X.env.scope x := by first | exact Or.inl rfl | exact Or.inr (Or.inl rfl) | exact Or.inr (Or.inr rfl)) (hd : (x == ("__debug__" : Str)) = false := by decide)
    (hcd : (x == ("__classdict__" : Str)) = false := by decide) : PE X (.Name x pos) (cVar i) := PE_imp (pe_var hN hv hd hcd) fun σ H Q h => by
  unfold cVar at h
  split at h
  · rename_i v e
    exact ⟨v, e, h⟩
  · exact h.elim

/-! ### tests whose answer is open -/
end
theorem iteD {c A B : Prop} [Decidable c] (h1 : c → A) (h2 : ¬ c → B) : if decide c = true then A else B := by
  by_cases h : c
  · rw [if_pos (decide_eq_true h)]; exact h1 h
  · rw [if_neg (by rw [decide_eq_true_eq]; exact h)]; exact h2 h
theorem iteB {b : Bool} {A B : Prop} (h1 : b = true → A) (h2 : b = false → B) : if b = true then A else B := by
  cases b with
  | true => exact (if_pos rfl).mpr (h1 rfl)
  | false => rw [if_neg Bool.false_ne_true]; exact h2 rfl
section
variable {X : Cx}
/-! ### operators -/
def cI2 (g : Int → Int → V) : R2 := fun x y H Q => match x, y with
  | .int i, .int j => Q (g i j) H
  | _, _ => False
def cI2C (C : Int → Int → Prop) (g : Int → Int → V) : R2 := fun x y H Q => match x, y with
  | .int i, .int j => C i j ∧ Q (g i j) H
  | _, _ => False
theorem cI2_of {f : Value → Value → Sem Value} {g : Int → Int → V} (h : OpR X f (rI0 g)) : OpR X f (cI2 g) := OpR_imp h fun x y H Q q => by
  unfold cI2 at q
  split at q
  · exact ⟨_, _, rfl, rfl, q⟩
  · exact q.elim
theorem cI2C_of {f : Value → Value → Sem Value} {C : Int → Int → Prop} {g : Int → Int → V} (h : OpR X f (rI C g)) : OpR X f (cI2C C g) := OpR_imp h fun x y H Q q => by
  unfold cI2C at q
  split at q
  · exact ⟨_, _, rfl, rfl, q.1, q.2⟩
  · exact q.elim
theorem c_addI : OpR X (binaryOp .Add) (cI2 fun i j => .int (i + j)) := cI2_of op_add
theorem c_sub : OpR X (binaryOp .Sub) (cI2 fun i j => .int (i - j)) := cI2_of op_sub
/-- factors of at most two hundred figures -/
def FewF (i j : Int) : Prop := (-(10 ^ 200) ≤ i ∧ i ≤ 10 ^ 200) ∧ (-(10 ^ 200) ≤ j ∧ j ≤ 10 ^ 200)
theorem FewF.ok {i j : Int} (h : FewF i j) : CMulW i j := by
  obtain ⟨⟨a, b⟩, c, d⟩ := h
  have k : (10 : Nat) ^ 200 < 2 ^ 1000 := by decide +kernel
  have e : ((10 ^ 200 : Nat) : Int) = (10 : Int) ^ 200 := by norm_cast
  refine wide_mul (a := 1000) (b := 1000) (Nat.lt_of_le_of_lt ?_ k) (Nat.lt_of_le_of_lt ?_ k) (by decide) (by decide) (by decide)
  · rw [← e] at a b; omega
  · rw [← e] at c d; omega
theorem c_mul : OpR X (binaryOp .Mult) (cI2C FewF fun i j => .int (i * j)) := cI2C_of (OpR_imp op_mulW fun x y H Q ⟨i, j, e1, e2, h, q⟩ => ⟨i, j, e1, e2, h.ok, q⟩)
theorem c_mod : OpR X (binaryOp .Mod) (cI2C (fun _ j => 0 < j) fun i j => .int (i % j)) := cI2C_of op_mod
def FewD (_ j : Int) : Prop := 0 < j ∧ j ≤ 10 ^ 200
theorem FewD.ok {i j : Int} (h : FewD i j) : CDivW i j := by
  obtain ⟨a, b⟩ := h
  have k : (10 : Nat) ^ 200 < 2 ^ 1000 := by decide +kernel
  have e : ((10 ^ 200 : Nat) : Int) = (10 : Int) ^ 200 := by norm_cast
  refine wide_div a (b := 1000) (Nat.lt_of_le_of_lt ?_ k) (by decide) (by decide)
  rw [← e] at b; omega
theorem c_fdiv : OpR X (binaryOp .FloorDiv) (cI2C FewD fun i j => .int (i / j)) := cI2C_of (OpR_imp op_fdivW fun x y H Q ⟨i, j, e1, e2, h, q⟩ => ⟨i, j, e1, e2, h.ok, q⟩)
theorem c_lt : OpR X (compareOp .Lt) (cI2 fun i j => .bl (decide (i < j))) := cI2_of op_lt
theorem c_le : OpR X (compareOp .LtE) (cI2 fun i j => .bl (decide (i ≤ j))) := cI2_of op_le
theorem c_gt : OpR X (compareOp .Gt) (cI2 fun i j => .bl (decide (j < i))) := cI2_of op_gt
theorem c_ge : OpR X (compareOp .GtE) (cI2 fun i j => .bl (decide (j ≤ i))) := cI2_of op_ge
/-- a power that is written -/
theorem pe_pow {a n z : Int} {k1 k2 : Nat} {p1 p2 p3 : Pos} (h : CPow a n ∧ a ^ n.toNat = z) : PE X (.BinOp (.Constant (.int a) k1 p1) .Pow (.Constant (.int n) k2 p2) p3) (tC (.int z)) :=
  PE_imp (pe_op op_pow pe_int pe_int) fun σ H Q q => ⟨_, _, rfl, rfl, h.1, by show Q (.int (a ^ n.toNat)) H; rw [h.2]; exact q⟩
/-- a minus in front -/
def cNeg : V → Hp → VK → Prop := fun x H Q => match x with
  | .int i => Q (.int (-i)) H
  | _ => False
theorem c_neg : UnR X (unaryOp .USub) cNeg := fun pins s σ H x v Q I rx q => by
  unfold cNeg at q
  split at q
  · exact un_neg pins s σ H _ v Q I rx ⟨_, rfl, q⟩
  · exact q.elim

/-! ### tests -/
def cTest (t : TE) : TT := fun σ H Q => t σ H fun x H' => match x with
  | .bl k => Q k H'
  | _ => False
variable {a b : Expr} {ta tb : TE} {pos : Pos}
theorem bl_eq (Q : Bool → Hp → Prop) : (fun (x : V) (H' : Hp) => ∃ k, x = .bl k ∧ Q k H') = (fun x H' => match x with
  | .bl k => Q k H'
  | _ => False) := by
  funext x H'
  apply propext
  cases x <;> simp
theorem ct_cmp {op : CmpOp} {r : R2} (ho : OpR X (compareOp op) r) (ha : PE X a ta) (hb : PE X b tb) (hm : behindInMarks op b = false) : PT X (.Compare a [op] [b] pos) (cTest (tOp r ta tb)) :=
  PT_imp (pt_cmpR ho ha hb hm) fun σ H Q hw => by
    show tOp r ta tb σ H fun x H' => ∃ k, x = .bl k ∧ Q k H'
    rw [bl_eq]
    exact hw
/-- an expression whose value is a bool, as a test -/
theorem ct_val {e : Expr} {t : TE} (h : PE X e t) (he : ∀ whole, isTrue e X.env whole = (do let v ← whole; standAt e.pos; holding [v] (truthy v)) := by intro _; rfl) : PT X e (cTest t) :=
  PT_imp (pt_val h he) fun σ H Q hw => by
    show t σ H fun x H' => ∃ k, x = .bl k ∧ Q k H'
    rw [bl_eq]
    exact hw
/-- bools in a row, as values -/
def cAndV (ta tb : TE) : TE := fun σ H Q => ta σ H fun x H1 => match x with
  | .bl c => if c = true then tb σ H1 Q else Q (.bl false) H1
  | _ => False
def cOrV (ta tb : TE) : TE := fun σ H Q => ta σ H fun x H1 => match x with
  | .bl c => if c = true then Q (.bl true) H1 else tb σ H1 Q
  | _ => False
def cNotV (ta : TE) : TE := fun σ H Q => ta σ H fun x H1 => match x with
  | .bl c => Q (.bl (!c)) H1
  | _ => False
variable {rest : List Expr}
theorem c_and (ha : PE X a ta) (hb : PE X (.BoolOp .And (b :: rest) pos) tb) : PE X (.BoolOp .And (a :: b :: rest) pos) (cAndV ta tb) :=
  PE_imp (pe_and ha hb) fun σ H Q hw => by
    show ta σ H fun x H1 => ∃ c, x = .bl c ∧ (fun (c : Bool) (H1 : Hp) => if c = true then tb σ H1 Q else Q (.bl false) H1) c H1
    rw [bl_eq]
    exact hw
theorem c_or (ha : PE X a ta) (hb : PE X (.BoolOp .Or (b :: rest) pos) tb) : PE X (.BoolOp .Or (a :: b :: rest) pos) (cOrV ta tb) :=
  PE_imp (pe_or ha hb) fun σ H Q hw => by
    show ta σ H fun x H1 => ∃ c, x = .bl c ∧ (fun (c : Bool) (H1 : Hp) => if c = true then Q (.bl true) H1 else tb σ H1 Q) c H1
    rw [bl_eq]
    exact hw
theorem c_not (ha : PE X a ta) : PE X (.UnaryOp .Not a pos) (cNotV ta) :=
  PE_imp (pe_not ha) fun σ H Q hw => by
    show ta σ H fun x H1 => ∃ c, x = .bl c ∧ (fun (c : Bool) (H1 : Hp) => Q (.bl (!c)) H1) c H1
    rw [bl_eq]
    exact hw

/-! ### ways that join -/
/-- behind a statement whose ways meet: what holds there is said once -/
def tJoin (t u : TS) : TS := fun D σ H => ∃ W : L2.St → Hp → Prop, t { D with nx := W } σ H ∧ ∀ σ' H', W σ' H' → u D σ' H'
theorem pss_cut {st : Stmt} {rest : List Stmt} {t u : TS} (h1 : PS X st t) (h2 : PSs X rest u) : PSs X (st :: rest) (tJoin t u) := ⟨fun pins s σ H D I h => by
  obtain ⟨W, hm, hu⟩ := h
  refine wpAny_execs_cons (thn (h1.run pins s σ H { D with nx := W } I hm) fun f s1 q => ?_)
  cases f with
  | next =>
    obtain ⟨σ', H', I', q⟩ := q
    exact h2.run pins s1 σ' H' D I' (hu σ' H' q)
  | _ => exact q⟩

/-! ### built-in functions -/
def cInt1 : List V → Hp → VK → Prop := fun xs H Q => match xs with
  | [.int i] => Q (.int i) H
  | [.bl k] => Q (.int (if k then 1 else 0)) H
  | _ => False
theorem c_int : CallR X (.type "int") cInt1 := CallR_imp call_int1 fun xs H Q q => by
  unfold cInt1 at q
  split at q
  · exact .inl ⟨_, rfl, q⟩
  · exact .inr ⟨_, rfl, q⟩
  · exact q.elim
def cAbs : List V → Hp → VK → Prop := fun xs H Q => match xs with
  | [.int i] => Q (.int (i.natAbs : Int)) H
  | _ => False
theorem c_abs : CallR X (.builtin "abs") cAbs := CallR_imp call_abs fun xs H Q q => by
  unfold cAbs at q
  split at q
  · rename_i i
    refine ⟨_, rfl, ?_⟩
    have e : (if i < 0 then -i else i) = (i.natAbs : Int) := by split <;> omega
    rw [e]
    exact q
  · exact q.elim
def cI2L (g : Int → Int → Int) : List V → Hp → VK → Prop := fun xs H Q => match xs with
  | [.int i, .int j] => Q (.int (g i j)) H
  | _ => False
theorem c_max (hc : X.calm = true) : CallR X (.builtin "max") (cI2L fun i j => max i j) := CallR_imp (call_max2 hc) fun xs H Q q => by
  unfold cI2L at q
  split at q
  · rename_i i j
    refine ⟨_, _, rfl, ?_⟩
    have e : (if j > i then j else i) = max i j := by split <;> omega
    rw [e]
    exact q
  · exact q.elim
theorem c_min (hc : X.calm = true) : CallR X (.builtin "min") (cI2L fun i j => min i j) := CallR_imp (call_min2 hc) fun xs H Q q => by
  unfold cI2L at q
  split at q
  · rename_i i j
    refine ⟨_, _, rfl, ?_⟩
    have e : (if j < i then j else i) = min i j := by split <;> omega
    rw [e]
    exact q
  · exact q.elim
end

/-! ### a def of the text and its promise -/
structure FunAt (K : PySem.W.Frag) (mg : Str → Option Value) (x : Str) (st : Stmt) (ps : List Str) : Prop where
  ex : ∃ f fd, Fun K x x st f fd ∧ mg x = some (.ref f) ∧ Binds K fd ps []
structure DefOk (P : Program) (w : World) (K : PySem.W.Frag) (mg : Str → Option Value) (base : Heap) (CX : CXT) (k : Nat) (x : Str) (ps : List Str) (sp : Sp) : Prop where
  ex : ∃ f fd, FnOk P w K mg base CX k f fd ps sp ∧ mg x = some (.ref f) ∧ PySem.W.keepIn K (.ref f) = true ∧ Binds K fd ps []
section
variable {P : Program} {w : World} {K : PySem.W.Frag} {mg : Str → Option Value} {base : Heap} {x : Str} {st : Stmt} {N ps : List Str} {sp : Sp} {k j : Nat}
theorem FunAt.ok (A : FunAt K mg x st ps) (S : FnScope N ps (defScope st)) (len : ∀ vs H Q E, sp vs H Q E → vs.length = ps.length)
    (hbody : ∀ (f : Addr) (cdv : Value) (A : Around) (outer : List Env) (s : Shared) (H : Hp) (vs : List V) (Q : VK) (E : XK), Room k (A.deeper (envOfC x (defScope st) s.heap.objs.size f cdv)) → sp vs H Q E →
      ∃ t, PSs (cxOf CX0 P w K mg base N x (defScope st) f cdv A outer s H E).nox (defBody st) t ∧ t { nx := fun _ H' => Q .non H', rt := Q } (start N vs) H) : DefOk P w K mg base CX0 (k + 1) x ps sp := by
  obtain ⟨f, fd, F, g, b⟩ := A.ex
  exact ⟨f, fd, F.ok S len (hbody f), g, F.kp, b⟩
/-- a def that calls itself: by the depth -/
theorem FunAt.rec_ {sp : Nat → Sp} (A : FunAt K mg x st ps) (S : FnScope N ps (defScope st)) (h0 : ∀ vs H Q E, ¬ sp 0 vs H Q E) (len : ∀ n vs H Q E, sp n vs H Q E → vs.length = ps.length)
    (hbody : ∀ (n : Nat), DefOk P w K mg base CX0 (k + n) x ps (sp n) → ∀ (f : Addr) (cdv : Value) (A : Around) (outer : List Env) (s : Shared) (H : Hp) (vs : List V) (Q : VK) (E : XK), Room (k + n) (A.deeper (envOfC x (defScope st) s.heap.objs.size f cdv)) → sp (n + 1) vs H Q E →
      ∃ t, PSs (cxOf CX0 P w K mg base N x (defScope st) f cdv A outer s H E).nox (defBody st) t ∧ t { nx := fun _ H' => Q .non H', rt := Q } (start N vs) H) : ∀ n, DefOk P w K mg base CX0 (k + n) x ps (sp n) := by
  obtain ⟨f, fd, F, g, b⟩ := id A.ex
  intro n
  induction n with
  | zero => exact ⟨f, fd, ⟨fun _ _ _ _ h => (h0 _ _ _ _ h).elim, fun _ _ _ _ _ _ _ _ _ _ _ _ _ h => (h0 _ _ _ _ h).elim⟩, g, F.kp, b⟩
  | succ n ih => exact ⟨f, fd, F.ok S (len _) (hbody n ih f), g, F.kp, b⟩
theorem DefOk.imp {CX : CXT} {sp' : Sp} (D : DefOk P w K mg base CX k x ps sp) (h : ∀ vs H Q E, sp' vs H Q E → sp vs H Q E) : DefOk P w K mg base CX k x ps sp' := by
  obtain ⟨f, fd, F, r⟩ := D.ex
  exact ⟨f, fd, F.imp h, r⟩
theorem DefOk.mono {CX : CXT} (D : DefOk P w K mg base CX k x ps sp) (h : k ≤ j) : DefOk P w K mg base CX j x ps sp := by
  obtain ⟨f, fd, F, r⟩ := D.ex
  exact ⟨f, fd, F.mono h, r⟩
end
section
variable {X : Cx} {x : Str} {ps : List Str} {sp : Sp} {k j : Nat} {p pos : Pos} {e : Expr} {es : List Expr} {t : TA}
theorem pe_def (D : DefOk X.prog X.w X.K X.mg X.base CX0 k x ps sp) (hr : Room j X.A) (hj : k ≤ j) (ha : PA X (e :: es) t) (hg : Gl X x := by rfl) (hdb : (x == ("__debug__" : Str)) = false := by decide)
    (he : starEach (e :: es) X.env = (false, eval e X.env) :: starEach es X.env := by rfl) (hpl : (backTo pos (starEach es X.env)).any (·.1) = false := by rfl) :
    PE X (.Call (.Name x p) (e :: es) [] pos) (tCall sp [] E0 t) := by
  obtain ⟨f, fd, F, g, kp, b⟩ := D.ex
  exact pe_call F (hr.mono hj) hg g kp b .nil pass0 ha hdb he hpl
theorem pe_def0 (D : DefOk X.prog X.w X.K X.mg X.base CX0 k x ps sp) (hr : Room j X.A) (hj : k ≤ j) (hg : Gl X x := by rfl) (hdb : (x == ("__debug__" : Str)) = false := by decide) :
    PE X (.Call (.Name x p) [] [] pos) (tCall sp [] E0 tNil) := by
  obtain ⟨f, fd, F, g, kp, b⟩ := D.ex
  exact pe_call0 F (hr.mono hj) hg g kp b .nil pass0 hdb
end
end CL

set_option Elab.async false
set_option linter.all false
set_option maxRecDepth 100000
set_option maxHeartbeats 1000000
/-! Pen: the source of drawn numbers of the laws, its readings and promises. -/
namespace CL
open PySem PySem.Spec PyProof.Rows L2

abbrev kCells : Key := Sum.inr ("cells" : Str)
abbrev kBegun : Key := Sum.inr ("begun" : Str)
abbrev kRest : Key := Sum.inr ("rest" : Str)
abbrev penKvs (c : Addr) (b r : Int) : List (Key × V) := [(kCells, .ref c), (kBegun, .int b), (kRest, .int r)]
structure PenAt (H : Hp) (p c : Addr) (ns : List Int) (b r : Int) : Prop where
  dict : H p = some (.dK (penKvs c b r))
  cells : H c = some (.lst (ns.map V.int))
  len : ns.length ≤ 63
  b0 : 0 ≤ b
  r0 : 0 ≤ r
/-- all but p is as it was -/
structure But (p : Addr) (H H' : Hp) : Prop where
  keep : ∀ b o, b ≠ p → H b = some o → H' b = some o
  own : ∀ c b r, H p = some (.dK (penKvs c b r)) → ∃ b' r', H' p = some (.dK (penKvs c b' r'))
theorem But.refl {p : Addr} {H : Hp} : But p H H := ⟨fun _ _ _ h => h, fun _ b r h => ⟨b, r, h⟩⟩
theorem But.trans {p : Addr} {H H1 H2 : Hp} (a : But p H H1) (b : But p H1 H2) : But p H H2 := ⟨fun x o n h => b.keep x o n (a.keep x o n h), fun c x r h => by
  obtain ⟨x1, r1, h1⟩ := a.own c x r h
  exact b.own c x1 r1 h1⟩
theorem But.of {p : Addr} {H H' : Hp} (s : Same H H') : But p H H' := ⟨fun b o _ h => s b o h, fun _ b r h => ⟨b, r, s _ _ h⟩⟩
theorem penK1 : ¬ kCells = kBegun := by decide +kernel
theorem penK2 : ¬ kCells = kRest := by decide +kernel
theorem penK3 : ¬ kBegun = kRest := by decide +kernel
theorem pen_cells {c : Addr} {b r : Int} : valV (penKvs c b r) kCells = some (.ref c) := valV_pos rfl
theorem pen_begun {c : Addr} {b r : Int} : valV (penKvs c b r) kBegun = some (.int b) := by
  rw [valV_neg penK1]; exact valV_pos rfl
theorem pen_rest {c : Addr} {b r : Int} : valV (penKvs c b r) kRest = some (.int r) := by
  rw [valV_neg penK2, valV_neg penK3]; exact valV_pos rfl
theorem put_begun {c : Addr} {b r b' : Int} : putK (penKvs c b r) kBegun (.int b') = penKvs c b' r := by
  have h1 := penK1; have h3 : ¬ kRest = kBegun := fun e => penK3 e.symm
  unfold putK penKvs
  simp only [List.any_cons, List.map_cons, List.map_nil, decide_eq_false h1, decide_true, Bool.false_or, Bool.true_or, if_true, if_neg h1, if_neg h3]
theorem put_rest {c : Addr} {b r r' : Int} : putK (penKvs c b r) kRest (.int r') = penKvs c b r' := by
  have h2 := penK2; have h3 := penK3
  unfold putK penKvs
  simp only [List.any_cons, List.map_cons, List.map_nil, decide_eq_false h2, decide_eq_false h3, decide_true, Bool.false_or, Bool.true_or, if_true, if_neg h2, if_neg h3]
theorem PenAt.ne {H : Hp} {p c : Addr} {ns : List Int} {b r : Int} (h : PenAt H p c ns b r) : p ≠ c := ne_of h.dict h.cells (by intro z; cases z)
theorem PenAt.put {H : Hp} {p c : Addr} {ns : List Int} {b r b' r' : Int} (h : PenAt H p c ns b r) (h1 : 0 ≤ b') (h2 : 0 ≤ r') : PenAt (upd H p (.dK (penKvs c b' r'))) p c ns b' r' :=
  ⟨upd_same, by rw [upd_ne h.ne.symm]; exact h.cells, h.len, h1, h2⟩
theorem pen_inj {c c' : Addr} {b r b' r' : Int} (h : (HO.dK (penKvs c b r)) = .dK (penKvs c' b' r')) : c = c' := by
  injection h with h
  unfold penKvs at h
  injection h with h _
  injection h with _ h
  injection h
theorem But.put {H : Hp} {p c : Addr} {ns : List Int} {b r b' r' : Int} (P : PenAt H p c ns b r) : But p H (upd H p (.dK (penKvs c b' r'))) := ⟨fun b u n h => by rw [upd_ne n]; exact h, fun c' b1 r1 h => by
  have e := pen_inj (Option.some.inj (h.symm.trans P.dict))
  exact ⟨b', r', by rw [upd_same, e]⟩⟩
/-- the cells of the pen at p lie at c -/
def Cel (H : Hp) (p c : Addr) : Prop := ∃ b r, H p = some (.dK (penKvs c b r))
theorem Cel.but {H H' : Hp} {p c : Addr} (h : Cel H p c) (s : But p H H') : Cel H' p c := by
  obtain ⟨b, r, h⟩ := h
  exact s.own c b r h
theorem Cel.same {H H' : Hp} {p c : Addr} (h : Cel H p c) (s : Same H H') : Cel H' p c := by
  obtain ⟨b, r, h⟩ := h
  exact ⟨b, r, s _ _ h⟩
theorem Cel.at_ {H : Hp} {p c c' : Addr} {ns : List Int} {b r : Int} (h : Cel H p c) (P : PenAt H p c' ns b r) : c' = c := by
  obtain ⟨b1, r1, h⟩ := h
  exact pen_inj (Option.some.inj (P.dict.symm.trans h))
theorem PenAt.same {H H' : Hp} {p c : Addr} {ns : List Int} {b r : Int} (h : PenAt H p c ns b r) (s : Same H H') : PenAt H' p c ns b r := ⟨s _ _ h.dict, s _ _ h.cells, h.len, h.b0, h.r0⟩

section
variable {X : Cx} {o i value : Expr} {td tv : TE} {pos pos' : Pos}
/-- pen[..], by the key -/
def cPenGet (k : Nat) (td : TE) : TE := fun σ H Q => td σ H fun x H1 => match x with
  | .ref p => ∃ c ns b r, PenAt H1 p c ns b r ∧ Q (match k with | 0 => .ref c | 1 => .int b | _ => .int r) H1
  | _ => False
theorem pe_pget {z : Str} {k j : Nat} {kp : Pos} (hz : (z = "cells" ∧ k = 0) ∨ (z = "begun" ∧ k = 1) ∨ (z = "rest" ∧ k = 2)) (hu : X.A.units + 1 < cLine) (ho : PE X o td) : PE X (.Subscript o (.Constant (.str z) j kp) pos) (cPenGet k td) :=
  PE_imp (pe_dget hu (PE_up ho) pe_str (fun _ _ => rfl)) fun σ H Q h => ⟨_, h, fun x H1 q => by
    cases x with
    | ref p =>
      obtain ⟨c, ns, b, r, P, q⟩ := q
      show ∃ a v, V.ref p = .ref a ∧ DGet H1 a (.str z) (some v) ∧ Q v H1
      rcases hz with ⟨rfl, rfl⟩ | ⟨rfl, rfl⟩ | ⟨rfl, rfl⟩
      · exact ⟨p, _, rfl, by have := DGet.k (k := kCells) P.dict; rw [pen_cells] at this; exact this, q⟩
      · exact ⟨p, _, rfl, by have := DGet.k (k := kBegun) P.dict; rw [pen_begun] at this; exact this, q⟩
      · exact ⟨p, _, rfl, by have := DGet.k (k := kRest) P.dict; rw [pen_rest] at this; exact this, q⟩
    | _ => exact q.elim⟩
/-- pen["begun"] = .., pen["rest"] = .. -/
def cPenPut (k : Nat) (td tv : TE) : TS := fun D σ H => tv σ H fun v H1 => td σ H1 fun x H2 => match x, v with
  | .ref p, .int z => ∃ c ns b r, PenAt H2 p c ns b r ∧ 0 ≤ z ∧ ∀ H3, But p H2 H3 → PenAt H3 p c ns (if k = 1 then z else b) (if k = 1 then r else z) → D.nx σ H3
  | _, _ => False
theorem ps_pput {z : Str} {k j : Nat} {kp : Pos} (hz : (z = "begun" ∧ k = 1) ∨ (z = "rest" ∧ k = 2)) (hu : X.A.units + 1 < cLine) (ho : PE X o td) (hv : PE X value tv)
    (hs : swapsWith value (some (.Subscript o (.Constant (.str z) j kp) pos')) pos.line X.env = pure false := by rfl) : PS X (.Assign [.Subscript o (.Constant (.str z) j kp) pos'] value pos) (cPenPut k td tv) :=
  PS_imp (ps_dput hu (PE_up ho) pe_str (PE_up hv) hs) fun D σ H h => ⟨_, h, fun v H1 q => ⟨_, q, fun x H2 q => by
    show ∃ a H4, x = .ref a ∧ DPut H2 a (.str z) v H4 ∧ D.nx σ H4
    cases x with
    | ref p =>
      cases v with
      | int y =>
        obtain ⟨c, ns, b, r, P, h0, q⟩ := q
        have l3 : (penKvs c b r).length < sizeLine := by rw [sizeLine_eq]; exact (by decide : 3 < 16777216)
        rcases hz with ⟨rfl, rfl⟩ | ⟨rfl, rfl⟩
        · exact ⟨p, _, rfl, DPut.k (k := kBegun) P.dict l3, by rw [put_begun]; exact q _ (But.put P) (P.put h0 P.r0)⟩
        · exact ⟨p, _, rfl, DPut.k (k := kRest) P.dict l3, by rw [put_rest]; exact q _ (But.put P) (P.put P.b0 h0)⟩
      | _ => exact q.elim
    | _ => exact q.elim⟩⟩
/-- place, size = pen["begun"], len(pen["cells"]) goes by the list's length -/
def cLenL (K : PySem.W.Frag) : List V → Hp → VK → Prop := fun xs H Q => match xs with
  | [.ref p] => ∃ ys, (SqL K H p ys ∨ SqT K H p ys) ∧ Q (.int ys.length) H
  | _ => False
theorem c_lenL : CallR X (.builtin "len") (cLenL X.K) := CallR_imp call_len_seq fun xs H Q q => by
  unfold cLenL at q
  split at q
  · obtain ⟨ys, h, q⟩ := q
    exact ⟨_, ys, rfl, h, q⟩
  · exact q.elim
/-- xs[i], a list -/
def cIxL (K : PySem.W.Frag) : R2 := fun x y H Q => match x, y with
  | .ref p, .int i => ∃ xs v, SqL K H p xs ∧ atI xs i = some v ∧ Q v H
  | _, _ => False
theorem c_ixL : IxR X (cIxL X.K) := fun a b pins s σ H x y v u Q I rx ry q => by
  unfold cIxL at q
  split at q
  · obtain ⟨xs, z, h, e, q⟩ := q
    exact ix_list a b pins s σ H _ _ v u Q I rx ry ⟨_, xs, _, z, rfl, rfl, h, e, q⟩
  · exact q.elim
end

/-! ### what the drawing promises -/
/-- how great a number of choices may be, by the depth -/
def bigD : Nat → Int
  | 0 => 60000000
  | n + 1 => 60000000 * (bigD n - 1)
theorem bigD0 : ∀ n, 60000000 ≤ bigD n ∧ bigD n ≤ 60000000 ^ (n + 1)
  | 0 => ⟨by decide, by decide⟩
  | n + 1 => by
    have ⟨h, h'⟩ := bigD0 n
    refine ⟨by show (60000000 : Int) ≤ 60000000 * (bigD n - 1); omega, ?_⟩
    show 60000000 * (bigD n - 1) ≤ 60000000 ^ (n + 2)
    have : (60000000 : Int) ^ (n + 2) = 60000000 * 60000000 ^ (n + 1) := by rw [Int.pow_succ, Int.mul_comm]
    omega
theorem pyMod_small {x m : Int} (h : 0 < m) : 0 ≤ x % m ∧ x % m < m := ⟨Int.emod_nonneg _ (by omega), Int.emod_lt_of_pos _ h⟩
/-- the list's item at a place that is a remainder -/
theorem at_mod {ns : List Int} {x : Int} (h : 0 < ((ns.map V.int).length : Int)) : ∃ z, atI (ns.map V.int) (x % ((ns.map V.int).length : Int)) = some (.int z) := by
  have ⟨a, b⟩ := pyMod_small (x := x) h
  have hj : (x % ((ns.map V.int).length : Int)).toNat < ns.length := by rw [List.length_map] at a b ⊢; omega
  refine ⟨ns[(x % ((ns.map V.int).length : Int)).toNat], ?_⟩
  unfold atI ixN
  rw [if_pos a, if_pos b, Option.bind_some, List.getElem?_map, List.getElem?_eq_getElem hj]
  rfl
/-- the mixed number -/
def mix1 (t l : Int) : Int := (t % 4294967231 * 48271 + 30269 * l * l + 211) % 4294967279
def mix2 (m l : Int) : Int := (m * m + 69069 * m + 23 * l + 7) % 4294967291
def mix3 (m : Int) : Int := m * (m + 32771) % 4294967197 / 64
theorem mix1_b (t l : Int) : 0 ≤ mix1 t l ∧ mix1 t l < 4294967279 := pyMod_small (by decide)
theorem mix2_b (t l : Int) : 0 ≤ mix2 t l ∧ mix2 t l < 4294967291 := pyMod_small (by decide)
theorem mix3_b (t : Int) : 0 ≤ mix3 t ∧ mix3 t < 4294967197 := by
  have ⟨a, b⟩ := pyMod_small (x := t * (t + 32771)) (m := 4294967197) (by decide)
  unfold mix3
  omega
theorem lt0 {n : Int} (h : 0 < n := by decide) : 0 < n := h
theorem few_of {i j : Int} (a : -(10 ^ 100) ≤ i) (b : i ≤ 10 ^ 100) (c : -(10 ^ 100) ≤ j) (d : j ≤ 10 ^ 100) : FewF i j := ⟨⟨by omega, by omega⟩, by omega, by omega⟩
def spDraw : Nat → Sp
  | 0 => fun _ _ _ _ => False
  | n + 1 => fun vs H Q _ => match vs with
    | [.ref p, .int m] => ∃ c ns b r, PenAt H p c ns b r ∧ 0 < m ∧ m ≤ bigD n ∧ m ≤ 10 ^ 100 ∧ b + (n : Int) < 2 ^ 60 ∧
        ∀ v b' r' H', 0 ≤ v → v < m → b ≤ b' → b' ≤ b + n + 1 → PenAt H' p c ns b' r' → But p H H' → Q (.int v) H'
    | _ => False
/-- a pen that has room for k more cells -/
def PenB (H : Hp) (p : Addr) (k : Nat) : Prop := ∃ c ns b r, PenAt H p c ns b r ∧ b + (k : Int) < 2 ^ 60
theorem PenB.mono {H : Hp} {p : Addr} {j k : Nat} (h : PenB H p k) (l : j ≤ k) : PenB H p j := by
  obtain ⟨c, ns, b, r, P, q⟩ := h
  exact ⟨c, ns, b, r, P, by omega⟩
theorem PenB.same {H H' : Hp} {p : Addr} {k : Nat} (h : PenB H p k) (s : Same H H') : PenB H' p k := by
  obtain ⟨c, ns, b, r, P, q⟩ := h
  exact ⟨c, ns, b, r, P.same s, q⟩
theorem PenB.ne {H : Hp} {p a : Addr} {k : Nat} {o : HO} (h : PenB H p k) (e : H a = some o) (n : ∀ kvs, o ≠ .dK kvs) : a ≠ p := by
  obtain ⟨c, ns, b, r, P, q⟩ := h
  exact ne_of e P.dict (n _)
theorem same_new {H : Hp} {p : Addr} {o : HO} (h : H p = none) : Same H (upd H p o) := fun b u e => by rw [upd_ne (ne_of_none e h)]; exact e
theorem But.sq {K : PySem.W.Frag} {H H' : Hp} {p a : Addr} {k : Nat} {xs : List V} (s : But p H H') (P : PenB H p k) (h : SqL K H a xs) : SqL K H' a xs := by
  rcases h with (h | ⟨o, h⟩) | h
  · exact .inl (.inl (s.keep a _ (P.ne h (by intro _ z; cases z)) h))
  · exact .inl (.inr ⟨o, s.keep a _ (P.ne h (by intro _ z; cases z)) h⟩)
  · exact .inr h
theorem But.tq {K : PySem.W.Frag} {H H' : Hp} {p a : Addr} {k : Nat} {xs : List V} (s : But p H H') (P : PenB H p k) (h : SqT K H a xs) : SqT K H' a xs := by
  rcases h with (h | ⟨o, h⟩) | h
  · exact .inl (.inl (s.keep a _ (P.ne h (by intro _ z; cases z)) h))
  · exact .inl (.inr ⟨o, s.keep a _ (P.ne h (by intro _ z; cases z)) h⟩)
  · exact .inr h
theorem bigD4 : bigD 4 = 60000000 * (60000000 * (60000000 * (60000000 * (60000000 - 1) - 1) - 1) - 1) := rfl
/-- the drawing, from up to ten to the 38th choices -/
def spDr : Sp := fun vs H Q _ => match vs with
  | [.ref p, .int m] => ∃ k, PenB H p (k + 5) ∧ 0 < m ∧ m ≤ 10 ^ 38 ∧ ∀ v H', 0 ≤ v → v < m → PenB H' p k → But p H H' → Q (.int v) H'
  | _ => False
theorem spDr_of {vs : List V} {H : Hp} {Q : VK} {E : XK} (h : spDr vs H Q E) : spDraw 5 vs H Q E := by
  unfold spDr at h
  split at h
  · rename_i p m
    obtain ⟨k, ⟨c, ns, b, r, P, hb⟩, m0, mm, q⟩ := h
    refine ⟨c, ns, b, r, P, m0, by rw [bigD4]; omega, by omega, by show b + (4 : Int) < 2 ^ 60; omega, fun v b' r' H' v0 v1 b0 b1 P' s => q v H' v0 v1 ⟨c, ns, b', r', P', by have b2 : b' ≤ b + (4 : Int) + 1 := b1; omega⟩ s⟩
  · exact h.elim
/-- an item of a list -/
def spPick (K : PySem.W.Frag) : Sp := fun vs H Q _ => match vs with
  | [.ref p, .ref a] => ∃ k xs, PenB H p (k + 5) ∧ SqL K H a xs ∧ 0 < xs.length ∧ xs.length ≤ 10 ^ 20 ∧ ∀ v H', v ∈ xs → PenB H' p k → But p H H' → Q v H'
  | _ => False
/-- from -most to most -/
def spAround : Sp := fun vs H Q _ => match vs with
  | [.ref p, .int m] => ∃ k, PenB H p (k + 5) ∧ 0 ≤ m ∧ m ≤ 10 ^ 37 ∧ ∀ v H', -m ≤ v → v ≤ m → PenB H' p k → But p H H' → Q (.int v) H'
  | _ => False
def spGreat : Sp := fun vs H Q _ => match vs with
  | [.ref p, .int m] => ∃ k, PenB H p (k + 25) ∧ 0 ≤ m ∧ m ≤ 10 ^ 37 ∧ ∀ v H', -m ≤ v → v ≤ m → PenB H' p k → But p H H' → Q (.int v) H'
  | _ => False
theorem atI_mem {xs : List V} {x : Int} (h0 : 0 ≤ x) (h1 : x < (xs.length : Int)) : ∃ v, v ∈ xs ∧ atI xs x = some v := by
  have hj : x.toNat < xs.length := by omega
  refine ⟨xs[x.toNat], List.getElem_mem hj, ?_⟩
  unfold atI ixN
  rw [if_pos h0, if_pos h1, Option.bind_some, List.getElem?_eq_getElem hj]
end CL

set_option Elab.async false
set_option linter.all false
set_option maxRecDepth 100000
set_option maxHeartbeats 2000000
/-! G: promises of defs that are called where no text of a thing is being made (so that repr may be asked of lists, tuples, dicts within them). -/
namespace CL
open PySem PySem.Spec PyProof.Rows L2

/-- nothing is being shown around -/
abbrev Gd (A : Around) : Prop := A.guards = some []
structure FnG (P : Program) (w : World) (K : PySem.W.Frag) (mg : Str → Option Value) (base : Heap) (CX : CXT) (k : Nat) (f : Addr) (fd : FuncData) (ps : List Str) (sp : Sp) : Prop where
  len : ∀ vs H Q E, sp vs H Q E → vs.length = ps.length
  go : ∀ (A : Around) (outer : List Env) (s : Shared) (H : Hp) (args : Args) (us : List Value) (vs : List V) (Q : VK) (E : XK), Gd A → Room k A → Env0 P w K mg base A outer s H → BindsTo s fd args (ps.zip us) → Vals vs us → sp vs H Q E →
    codeAny (model P w) A (.call (.ref f) args) (CR CX outer P w H s Q E) s
section
variable {P : Program} {w : World} {K : PySem.W.Frag} {mg : Str → Option Value} {base : Heap} {CX : CXT} {j k : Nat} {f : Addr} {fd : FuncData} {ps : List Str} {sp sp' : Sp}
theorem FnG.of (F : FnOk P w K mg base CX k f fd ps sp) : FnG P w K mg base CX k f fd ps sp :=
  ⟨F.len, fun A outer s H args us vs Q E _ => F.run A outer s H args us vs Q E⟩
theorem FnG.mono (F : FnG P w K mg base CX j f fd ps sp) (h : j ≤ k) : FnG P w K mg base CX k f fd ps sp :=
  ⟨F.len, fun A outer s H args us vs Q E g hr => F.go A outer s H args us vs Q E g (hr.mono h)⟩
theorem FnG.imp (F : FnG P w K mg base CX k f fd ps sp) (h : ∀ vs H Q E, sp' vs H Q E → sp vs H Q E) : FnG P w K mg base CX k f fd ps sp' :=
  ⟨fun vs H Q E q => F.len vs H Q E (h _ _ _ _ q), fun A outer s H args us vs Q E g hr he hb hv hs => F.go A outer s H args us vs Q E g hr he hb hv (h _ _ _ _ hs)⟩
/-- the rule for a def's body, with what is around known -/
theorem fnG_of {name qual : Str} {params : Arguments} {body : List Stmt} {scope : Scope} {dV kV doc pm cdv ct oc : Value} {an od : Option Addr} {osl : Array (Option Value)} {N : List Str}
    (lk : K.lookup f = some ⟨oc, od, .func (PySem.W.fnOf name qual params body scope dV kV doc pm an cdv ct), osl⟩) (hcd : PySem.W.codeIn K cdv qual = true) (S : FnScope N ps scope) (len : ∀ vs H Q E, sp vs H Q E → vs.length = ps.length)
    (hbody : ∀ (A : Around) (outer : List Env) (s : Shared) (H : Hp) (vs : List V) (Q : VK) (E : XK), Gd A → Room k (A.deeper (envOfC qual scope s.heap.objs.size f cdv)) → sp vs H Q E →
      ∃ t, PSs (cxOf CX P w K mg base N qual scope f cdv A outer s H E) body t ∧ t { nx := fun _ H' => Q .non H', rt := Q } (start N vs) H) :
    FnG P w K mg base CX (k + 1) f (PySem.W.fnOf name qual params body scope dV kV doc pm an cdv ct) ps sp := by
  refine ⟨len, fun A outer s H args us vs Q E g hr e0 hb r hsp => ?_⟩
  have KX : K.In s.heap := e0.mod.kin.keeps fun b o e => (e0.bs b o e).1
  exact LamX.run_ofS lk hcd S hr e0 hb r (len _ _ _ _ hsp) fun hr' => hbody A outer s H vs Q E g hr' hsp
end
structure DefG (P : Program) (w : World) (K : PySem.W.Frag) (mg : Str → Option Value) (base : Heap) (CX : CXT) (k : Nat) (x : Str) (ps : List Str) (sp : Sp) : Prop where
  ex : ∃ f fd, FnG P w K mg base CX k f fd ps sp ∧ mg x = some (.ref f) ∧ PySem.W.keepIn K (.ref f) = true ∧ Binds K fd ps []
section
variable {P : Program} {w : World} {K : PySem.W.Frag} {mg : Str → Option Value} {base : Heap} {CX : CXT} {x : Str} {st : Stmt} {N ps : List Str} {sp : Sp} {k j : Nat}
theorem FunAt.okG (A : FunAt K mg x st ps) (S : FnScope N ps (defScope st)) (len : ∀ vs H Q E, sp vs H Q E → vs.length = ps.length)
    (hbody : ∀ (f : Addr) (cdv : Value) (A : Around) (outer : List Env) (s : Shared) (H : Hp) (vs : List V) (Q : VK) (E : XK), Gd A → Room k (A.deeper (envOfC x (defScope st) s.heap.objs.size f cdv)) → sp vs H Q E →
      ∃ t, PSs (cxOf CX0 P w K mg base N x (defScope st) f cdv A outer s H E).nox (defBody st) t ∧ t { nx := fun _ H' => Q .non H', rt := Q } (start N vs) H) : DefG P w K mg base CX0 (k + 1) x ps sp := by
  obtain ⟨f, fd, F, g, b⟩ := A.ex
  obtain ⟨oc, od, kV, doc, pm, an, cdv, ct, osl, rfl, lk, hcd⟩ := F.ex
  refine ⟨f, _, fnG_of lk hcd S len fun A outer s H vs Q E g hr hsp => ?_, g, F.kp, b⟩
  obtain ⟨t, h, q⟩ := hbody f cdv A outer s H vs Q E g hr hsp
  exact ⟨t, h.nox, q⟩
theorem DefG.of (D : DefOk P w K mg base CX k x ps sp) : DefG P w K mg base CX k x ps sp := by
  obtain ⟨f, fd, F, r⟩ := D.ex
  exact ⟨f, fd, .of F, r⟩
end
section
variable {X : Cx} {CX : CXT} {x : Str} {ps : List Str} {sp : Sp} {k j : Nat} {p pos : Pos} {e : Expr} {es : List Expr} {t : TA} {f : Addr} {fd : FuncData}
theorem run_fnG {E : XK} {pins : List (Addr × Obj)} {σ : L2.St} {H : Hp} {s : Shared} {Q : VK} {us : List Value} {vs : List V} (F : FnG X.prog X.w X.K X.mg X.base CX k f fd ps sp) (hg : Gd X.A) (hr : Room k X.A) (hb : Binds X.K fd ps []) (hx : Passes CX X E)
    (I : Inv X pins σ H s) (r : Vals vs us) (h : sp vs H Q E) : wpAny (model X.prog X.w) X.A (call (.ref f) us) (EP X pins σ Q) X.xe s := by
  have hl := F.len _ _ _ _ h
  have hb2 := hb s us I.kIn (by rw [List.append_nil, ← r.length]; exact hl)
  rw [List.append_nil] at hb2
  refine wpAny_call (codeAny_mono (F.go X.A X.stack s H ⟨us, []⟩ us vs Q E hg hr I.env0 hb2 r h) fun res s' hq => ?_)
  match res, hq with
  | .error e, hq => exact hx pins σ H s e s' I hq
  | .ok (.ret u), hq => exact I.after hq
  | .ok .next, hq => exact hq.elim
  | .ok .brk, hq => exact hq.elim
  | .ok .cont, hq => exact hq.elim
def tCallG (sp : Sp) (t : TA) : TE := fun σ H Q => t σ H fun vs H1 => sp vs H1 Q E0
theorem pe_defG (D : DefG X.prog X.w X.K X.mg X.base CX0 k x ps sp) (hG : Gd X.A) (hr : Room j X.A) (hj : k ≤ j) (ha : PA X (e :: es) t) (hg : Gl X x := by rfl) (hdb : (x == ("__debug__" : Str)) = false := by decide)
    (he : starEach (e :: es) X.env = (false, eval e X.env) :: starEach es X.env := by rfl) (hpl : (backTo pos (starEach es X.env)).any (·.1) = false := by rfl) :
    PE X (.Call (.Name x p) (e :: es) [] pos) (tCallG sp t) := by
  obtain ⟨f, fd, F, g, kp, b⟩ := D.ex
  refine ⟨fun pins s σ H Q I h => wpAny_Call_Name_kw (ld_glob I hg g ?_ hdb)⟩
  refine PySem.W.callWith_K (h₀ := X.base) I.ok.mod.kin kp (thn (ha.run pos pins s σ H _ I h) fun us s1 ⟨vs, H1, I1, r, q⟩ => ⟨I1.kIn, ?_⟩) he hpl
  exact run_fnG F hG (hr.mono hj) b pass0 I1 r q
end

/-! ### repr -/
mutual
/-- data as they stand in the abstract heap, dicts with them -/
inductive Dq (K : PySem.W.Frag) (H : Hp) : V → PyData → Prop
  | non : Dq K H .non .none
  | bl (b : Bool) : Dq K H (.bl b) (.bool b)
  | int (i : Int) : Dq K H (.int i) (.int i)
  | str (x : Str) : Dq K H (.str x) (.str x)
  | lst {a : Addr} {xs : List V} {ds : List PyData} : SqL K H a xs → DqA K H xs ds → Dq K H (.ref a) (.list ds)
  | tup {a : Addr} {xs : List V} {ds : List PyData} : SqT K H a xs → DqA K H xs ds → Dq K H (.ref a) (.tuple ds)
  | dic {a : Addr} {kvs : List (Key × V)} {ks vs : List PyData} : H a = some (.dK kvs) → DqA K H (kvs.map fun p => kV p.1) ks → DqA K H (kvs.map (·.2)) vs → Dq K H (.ref a) (.dict (ks.zip vs))
inductive DqA (K : PySem.W.Frag) (H : Hp) : List V → List PyData → Prop
  | nil : DqA K H [] []
  | cons {v : V} {vs : List V} {d : PyData} {ds : List PyData} : Dq K H v d → DqA K H vs ds → DqA K H (v :: vs) (d :: ds)
end
theorem DqA.length {K : PySem.W.Frag} {H : Hp} : ∀ {vs : List V} {ds : List PyData}, DqA K H vs ds → vs.length = ds.length
  | _, _, .nil => rfl
  | _, _, .cons _ t => by simp [DqA.length t]
mutual
/-- no list in it -/
def listFree : PyData → Bool
  | .list _ => false
  | .tuple xs => listFreeA xs
  | .dict kvs => listFreeD kvs
  | _ => true
def listFreeA : List PyData → Bool
  | [] => true
  | x :: r => listFree x && listFreeA r
def listFreeD : List (PyData × PyData) → Bool
  | [] => true
  | (k, v) :: r => listFree k && listFree v && listFreeD r
end
theorem listFreeD_zip : ∀ {ks vs : List PyData}, ks.length = vs.length → listFreeD (ks.zip vs) = true → listFreeA ks = true ∧ listFreeA vs = true
  | [], [], _, _ => ⟨rfl, rfl⟩
  | k :: ks, v :: vs, e, h => by
    have h' : (listFree k = true ∧ listFree v = true) ∧ listFreeD (ks.zip vs) = true := by simpa [listFreeD] using h
    have ⟨a, b⟩ := listFreeD_zip (ks := ks) (vs := vs) (by simpa using e) h'.2
    exact ⟨by simp [listFreeA, h'.1.1, a], by simp [listFreeA, h'.1.2, b]⟩
theorem pairs_vals {P : Program} {w : World} : ∀ {es : List DictEntry} {vs : List (Key × Value)} {kvs : List (Key × V)}, Pairs (mixKind P w) es vs → KV kvs vs →
    Vals (kvs.map fun p => kV p.1) (es.map (·.key)) ∧ Vals (kvs.map (·.2)) (es.map (·.val))
  | _, _, _, .nil, .nil => ⟨.nil, .nil⟩
  | _, _, _, .cons hk hv hp, .cons r t => by
    have ⟨a, b⟩ := pairs_vals hp t
    refine ⟨.cons ?_ a, .cons (by dsimp only; rw [hv]; exact r.2) b⟩
    rename_i e kv es kvs p ps
    rcases keyIs_shape (show keyIs kv.1 e.key = true from hk) with ⟨i, tk, e1, e2⟩ | ⟨x, tk, e1, e2⟩
    · show RelV (kV p.1) e.key
      rw [r.1, e1, e2]; exact ⟨tk, rfl⟩
    · show RelV (kV p.1) e.key
      rw [r.1, e1, e2]; exact ⟨tk, rfl⟩
section
variable {X : Cx} {pins : List (Addr × Obj)} {σ : L2.St} {H : Hp} {s : Shared}
mutual
theorem Dq.reads (I : Inv X pins σ H s) : ∀ {v : V} {d : PyData} {u : Value}, Dq X.K H v d → RelV v u → ∃ as, Reads s.heap u d as ∧ (listFree d = true → sysModules ∉ as)
  | _, _, _, .non, r => by cases r; exact ⟨_, .none, fun _ => by simp⟩
  | _, _, _, .bl b, r => by cases r; exact ⟨_, .bool b, fun _ => by simp⟩
  | _, _, _, .int i, r => by obtain ⟨t, rfl⟩ := r; exact ⟨_, .int i t, fun _ => by simp⟩
  | _, _, _, .str x, r => by obtain ⟨t, rfl⟩ := r; exact ⟨_, .str x t, fun _ => by simp⟩
  | _, _, _, .lst hs ha, r => by
    cases r
    obtain ⟨its, rv, ⟨o, n, ho, hc, _, hd⟩, _⟩ := I.list hs
    obtain ⟨as, hr, _⟩ := DqA.reads I ha rv
    exact ⟨_, .list ho hc hd hr, fun h => by simp [listFree] at h⟩
  | _, _, _, .tup hs ha, r => by
    cases r
    obtain ⟨its, rv, ⟨o, ho, hc, n, hd⟩, _⟩ := I.tuple hs
    obtain ⟨as, hr, hn⟩ := DqA.reads I ha rv
    exact ⟨_, .tuple ho hc hd hr, fun h => hn (by simpa [listFree] using h)⟩
  | _, _, _, @Dq.dic _ _ a kvs ks vs hs hk hv, r => by
    cases r
    obtain ⟨_, hsm, vs', rel, o, es, ep, ho, hx, hd, _, hp, _⟩ := I.hok a _ hs
    have ⟨r1, r2⟩ := pairs_vals hp rel
    obtain ⟨as, q1, n1⟩ := DqA.reads I hk r1
    obtain ⟨bs, q2, n2⟩ := DqA.reads I hv r2
    have el : ks.length = vs.length := by rw [← hk.length, ← hv.length, List.length_map, List.length_map]
    have e1 : (ks.zip vs).map (·.1) = ks := List.map_fst_zip (by omega)
    have e2 : (ks.zip vs).map (·.2) = vs := List.map_snd_zip (by omega)
    refine ⟨_, .dict ho hx.1 hd (by rw [e1]; exact q1) (by rw [e2]; exact q2), fun h => ?_⟩
    have ⟨f1, f2⟩ := listFreeD_zip el (by simpa [listFree] using h)
    have nm : sysModules ≠ a := fun z => by rw [z] at hsm; simp at hsm
    simp only [List.mem_append, List.mem_cons, not_or]
    exact ⟨⟨nm, n1 f1⟩, n2 f2⟩
theorem DqA.reads (I : Inv X pins σ H s) : ∀ {vs : List V} {ds : List PyData} {us : List Value}, DqA X.K H vs ds → Vals vs us → ∃ as, ReadsAll s.heap us ds as ∧ (listFreeA ds = true → sysModules ∉ as)
  | _, _, _, .nil, r => by cases r; exact ⟨_, .nil, fun _ => by simp⟩
  | _, _, _, .cons h1 h2, r => by
    cases r with
    | cons r1 r2 =>
      obtain ⟨as, q1, n1⟩ := Dq.reads I h1 r1
      obtain ⟨bs, q2, n2⟩ := DqA.reads I h2 r2
      refine ⟨_, .cons q1 q2, fun h => ?_⟩
      simp only [listFreeA, Bool.and_eq_true] at h
      simp only [List.mem_append, not_or]
      exact ⟨n1 h.1, n2 h.2⟩
end
/-- what may be shown -/
structure Fit (d : PyData) : Prop where
  sh : d.showable = true
  fr : d.hasDict = true → listFree d = true
  dp : d.depth ≤ 60
  lv : d.leavesShort 1930 = true
  wt : d.weight ≤ 8000
theorem Fit.sz {d : PyData} (h : Fit d) : d.shown.length ≤ sizeLine := by
  have := PyData.shown_le 1930 (by decide) d h.lv
  have w := h.wt
  rw [sizeLine_eq]
  have : (1930 + 2) * d.weight + 1930 ≤ 16777216 := by omega
  omega
def cRepr (K : PySem.W.Frag) : List V → Hp → VK → Prop := fun xs H Q => match xs with
  | [x] => ∃ d, Dq K H x d ∧ Fit d ∧ Q (.str d.shown) H
  | _ => False
theorem c_repr (hG : Gd X.A) (hu : X.A.units + 64 < cLine) : CallR X (.builtin "repr") (cRepr X.K) := by
  intro pins s σ H xs us Q I r q
  unfold cRepr at q
  split at q
  · rename_i x
    obtain ⟨d, hd, hf, q⟩ := q
    obtain ⟨u, rfl, rx⟩ := vals1 r
    cases hd with
    | non => cases rx; exact PySem.P.repr_of_none ⟨.str _, H, I.tok _, ⟨_, rfl⟩, q⟩
    | bl b => cases rx; exact PySem.P.repr_of_bool ⟨.str _, H, I.tok _, ⟨_, rfl⟩, q⟩
    | int i => obtain ⟨t, rfl⟩ := rx; exact PySem.P.repr_of_int (by simpa [PyData.showable] using hf.sh) ⟨.str _, H, I.tok _, ⟨_, rfl⟩, q⟩
    | str z => obtain ⟨t, rfl⟩ := rx; exact PySem.P.repr_of_str ⟨.str _, H, I.tok _, ⟨_, rfl⟩, q⟩ hf.sz
    | lst hs ha =>
      obtain ⟨as, hr, hn⟩ := Dq.reads I (.lst hs ha) rx
      cases rx
      exact repr_of_reads' hr hf.sh (fun h => hn (hf.fr h)) hG (by have := hf.dp; omega) (fun _ _ e => e) (fun h' u tk hk => ⟨.str _, H, I.kept (t' := tk) hk, ⟨_, rfl⟩, q⟩) hf.sz
    | tup hs ha =>
      obtain ⟨as, hr, hn⟩ := Dq.reads I (.tup hs ha) rx
      cases rx
      exact repr_of_reads' hr hf.sh (fun h => hn (hf.fr h)) hG (by have := hf.dp; omega) (fun _ _ e => e) (fun h' u tk hk => ⟨.str _, H, I.kept (t' := tk) hk, ⟨_, rfl⟩, q⟩) hf.sz
    | dic hs hk hv =>
      obtain ⟨as, hr, hn⟩ := Dq.reads I (.dic hs hk hv) rx
      cases rx
      exact repr_of_reads' hr hf.sh (fun h => hn (hf.fr h)) hG (by have := hf.dp; omega) (fun _ _ e => e) (fun h' u tk hk => ⟨.str _, H, I.kept (t' := tk) hk, ⟨_, rfl⟩, q⟩) hf.sz
  · exact q.elim
end
end CL

set_option Elab.async false
set_option linter.all false
set_option maxRecDepth 100000
set_option maxHeartbeats 2000000
/-! Top: from the run of a law's def at the caller's own place to the row's walk. -/
namespace CL
open PySem PySem.Spec PyProof.Rows L2 LamX

/-- what is handed to the law: the written part over the base, the tables empty, the script read -/
structure Start (P : Program) (w : World) (K : PySem.W.Frag) (mg : Str → Option Value) (cs : List (Addr × Addr)) (base : Heap) (s : Shared) (H : Hp) (a : Addr) (ns : List Int) : Prop where
  kin : K.In base
  glob : base.Ns mainGlobals mg
  tb : ∀ p ∈ cs, TabB base mg p.1 p.2
  tab : ∀ p ∈ cs, H p.2 = some (.tbl #[])
  script : SqL K H a (ns.map V.int)
  env : Env0 P w K mg base callerA [] s H
section
variable {P : Program} {w : World} {K : PySem.W.Frag} {mg mb : Str → Option Value} {fa a : Addr} {cs : List (Addr × Addr)} {s₁ : Shared} {vs : List Value} {ns : List Int}
/-- what is tracked at the start: the script (where it is no object of the module) and the tables -/
noncomputable def startH (K : PySem.W.Frag) (cs : List (Addr × Addr)) (a : Addr) (vs : List Value) (ns : List Int) : Hp := fun b =>
  if b = a ∧ K.lookup a = none then some (.frz { cls := .type "list", data := .seq vs.toArray } (.lst (ns.map V.int))) else if b ∈ cs.map (·.2) then some (.tbl #[]) else none
theorem top_run (KX : K.In s₁.heap) (hns : s₁.heap.Ns mainGlobals mg) (hb : s₁.heap.Ns builtinsNs mb) (hbb : ∀ x : Str, x ≠ "__name__" → mb x = bootBuiltins x) (hlim : s₁.heap.NoLimit) (hg : s₁.gens = #[])
    (hT : ∀ p ∈ cs, s₁.heap.get? p.2 = some { cls := .none, data := .fields #[] }) (nT : ∀ p ∈ cs, K.lookup p.2 = none) (C : ∀ p ∈ cs, PySem.W.CodeHd s₁.heap p.1 p.2)
    (hbm : ∃ (bm : Addr) (ob : Obj), mg "__builtins__" = some (.ref bm) ∧ bm ≠ builtinsNs ∧ s₁.heap.get? bm = some ob ∧ ob.cls = .type "module" ∧ ob.dict = some builtinsNs ∧ ob.data = .plain)
    (ha : s₁.heap.get? a = some { cls := .type "list", data := .seq vs.toArray }) (hi : IntsAre vs ns) (hl : ns.length ≤ sizeLine)
    (go : ∀ (base : Heap) (H : Hp), Start P w K mg cs base s₁ H a ns → codeAny (model P w) callerA (.call (.ref fa) ⟨[.ref a], []⟩) (CR CX0 [] P w H s₁ (fun v _ => v = .bl true) E0) s₁) :
    codeAny (model P w) callerA (.call (.ref fa) ⟨[.ref a], []⟩) (fun r s' => r = .ok (.ret (.bool true)) ∧ OldK s₁.heap s'.heap ∧ s'.os = s₁.os ∧ AllBare s'.gens) s₁ := by
  have rv := vals_ints hi
  have lv := hi.length
  have isT : ∀ b : Addr, b ∈ cs.map (·.2) → s₁.heap.get? b = some { cls := .none, data := .fields #[] } := fun b h => by
    obtain ⟨p, hp, e⟩ := List.mem_map.mp h
    exact e ▸ hT p hp
  have memT : ∀ p ∈ cs, p.2 ∈ cs.map (·.2) := fun p hp => List.mem_map.mpr ⟨p, hp, rfl⟩
  have aT : a ∉ cs.map (·.2) := fun z => by
    have q := congrArg Obj.data (Option.some.inj (ha.symm.trans (isT a z)))
    exact nomatch (show Data.seq vs.toArray _ = Data.fields #[] from q)
  -- the abstract heap, by cases
  have hH : ∀ b, (startH K cs a vs ns b = none) ∨ (b = a ∧ K.lookup a = none ∧ startH K cs a vs ns b = some (.frz { cls := .type "list", data := .seq vs.toArray } (.lst (ns.map V.int)))) ∨ (b ∈ cs.map (·.2) ∧ startH K cs a vs ns b = some (.tbl #[])) := fun b => by
    unfold startH
    by_cases h1 : b = a ∧ K.lookup a = none
    · exact .inr (.inl ⟨h1.1, h1.2, if_pos h1⟩)
    · by_cases h2 : b ∈ cs.map (·.2)
      · exact .inr (.inr ⟨h2, (if_neg h1).trans (if_pos h2)⟩)
      · exact .inl ((if_neg h1).trans (if_neg h2))
  have tabs : ∀ p ∈ cs, startH K cs a vs ns p.2 = some (.tbl #[]) := fun p hp => by
    have : ¬ (p.2 = a ∧ K.lookup a = none) := fun z => aT (z.1 ▸ memT p hp)
    unfold startH
    rw [if_neg this, if_pos (memT p hp)]
  have script : SqL K (startH K cs a vs ns) a (ns.map V.int) := by
    cases hk : K.lookup a with
    | none => exact .inl (.inr ⟨_, if_pos ⟨rfl, hk⟩⟩)
    | some o =>
      have e := KX a o hk
      rw [ha] at e
      cases e
      exact .inr ⟨_, vs.toArray, _, hk, rfl, rfl, rfl, by rw [List.size_toArray, lv]; exact hl, by simpa using rv⟩
  have hok : HOk P w (startH K cs a vs ns) s₁.heap := fun b u z => by
    rcases hH b with h | ⟨rfl, _, h⟩ | ⟨hm, h⟩
    · rw [h] at z; exact nomatch z
    · rw [h] at z
      cases z
      exact ⟨ha, by rw [List.length_map]; exact hl, vs, _, rv, ha⟩
    · rw [h] at z
      cases z
      exact isT b hm
  -- what is no list and no table is not tracked
  have free : ∀ {b : Addr} {o : Obj}, s₁.heap.get? b = some o → (∀ us n, o.data ≠ .seq us n) → o.data ≠ .fields #[] → startH K cs a vs ns b = none := fun {b o} e h1 h2 => by
    rcases hH b with h | ⟨rfl, _, _⟩ | ⟨hm, _⟩
    · exact h
    · rw [ha] at e
      cases e
      exact (h1 _ _ rfl).elim
    · rw [isT b hm] at e
      cases e
      exact (h2 rfl).elim
  have inB : ∀ {b : Addr} {o : Obj}, s₁.heap.get? b = some o → startH K cs a vs ns b = none → (hidT s₁.heap (startH K cs a vs ns)).get? b = some o := fun e n => hidT_get e n
  have nsB : ∀ {b : Addr} {m : Str → Option Value}, s₁.heap.Ns b m → (hidT s₁.heap (startH K cs a vs ns)).Ns b m := fun {b m} ⟨o, es, ep, e, d, r⟩ =>
    ⟨o, es, ep, inB e (free e (fun us n z => by rw [d] at z; exact nomatch z) fun z => by rw [d] at z; exact nomatch z), d, r⟩
  have kinB : K.In (hidT s₁.heap (startH K cs a vs ns)) := fun b o e => inB (KX b o e) (by
    rcases hH b with h | ⟨rfl, hn, _⟩ | ⟨hm, _⟩
    · exact h
    · rw [hn] at e; exact nomatch e
    · obtain ⟨p, hp, ep⟩ := List.mem_map.mp hm
      rw [← ep, nT p hp] at e
      exact nomatch e)
  have tbB : ∀ p ∈ cs, TabB (hidT s₁.heap (startH K cs a vs ns)) mg p.1 p.2 := fun p hp => by
    have hTp := hT p hp
    refine ⟨?_, ?_, fun z => ?_⟩
    · obtain ⟨o, us, file, tf, flags, tg, inF, text, tt, e1, r1, r2, r3, rr⟩ := C p hp
      refine ⟨o, us, file, tf, flags, tg, inF, text, tt, inB e1 (free e1 (fun _ _ z => ?_) fun z => ?_), r1, r2, r3, rr⟩
      · rw [r2] at z; exact nomatch z
      · rw [r2] at z
        cases z
        simp at r3
    · obtain ⟨bm, ob, b1, b2, b3, b4, b5, b6⟩ := hbm
      have n1 : bm ≠ mainGlobals := fun q => by
        obtain ⟨o, es, ep, e, hd, _⟩ := hns
        rw [q, e] at b3
        cases b3
        rw [hd] at b6
        exact nomatch b6
      have n2 : bm ≠ p.2 := fun q => by
        rw [q, hTp] at b3
        cases b3
        exact nomatch b6
      refine ⟨bm, ob, b1, b2, n1, n2, inB b3 (free b3 (fun _ _ z => ?_) fun z => ?_), b4, b5, b6⟩
      · rw [b6] at z; exact nomatch z
      · rw [b6] at z; exact nomatch z
    · obtain ⟨o, es, ep, e, hd, _⟩ := hns
      rw [z, hTp] at e
      cases e
      exact nomatch hd
  have env : Env0 P w K mg (hidT s₁.heap (startH K cs a vs ns)) callerA [] s₁ (startH K cs a vs ns) :=
    ⟨rfl, ⟨kinB, nsB hns, ⟨mb, nsB hb, hbb⟩, let ⟨mc, h1, h2⟩ := hlim; ⟨mc, nsB h1, h2⟩⟩, fun b o e => of_hidT e, Nat.le_of_eq (hidT_size _ _), trivial, fun b h => absurd (show b ∈ ([] : List Addr) from h) (by simp), hok, .of_eq hg⟩
  refine codeAny_mono (go _ _ ⟨kinB, nsB hns, tbB, tabs, script, env⟩) fun r s' h => ?_
  match r, h with
  | .error e, h => exact h.elim
  | .ok .next, h => exact h.elim
  | .ok .brk, h => exact h.elim
  | .ok .cont, h => exact h.elim
  | .ok (.ret u), ⟨v, H', os, bare, un, hok', r', (q : v = .bl true)⟩ =>
    subst q
    obtain rfl : u = Value.bool true := r'
    have key : ∀ b o, b ∉ cs.map (·.2) → s₁.heap.get? b = some o → s'.heap.get? b = some o := fun b o nb e => by
      rcases hH b with h | ⟨rfl, _, h⟩ | ⟨hm, _⟩
      · exact un.keep b o e h (by intro z; exact absurd (show b ∈ ([] : List Addr) from z) (by simp)) (by simp)
      · obtain ⟨e2, _⟩ := hok' b _ (un.frzs b _ _ h)
        rw [ha] at e
        cases e
        exact e2
      · exact absurd hm nb
    have grown : ∀ p ∈ cs, ∃ more : Array Value, s'.heap.get? p.2 = some { cls := .none, data := .fields more } := fun p hp => by
      obtain ⟨more, z⟩ := un.tbls p.2 #[] (tabs p hp)
      exact ⟨_, hok' p.2 _ z⟩
    refine ⟨rfl, ⟨fun b o e => ?_, fun b o e => ?_⟩, os, bare⟩
    · by_cases hm : b ∈ cs.map (·.2)
      · obtain ⟨p, hp, rfl⟩ := List.mem_map.mp hm
        obtain ⟨more, hmo⟩ := grown p hp
        rw [hT p hp] at e
        cases e
        exact .inr (.inl ⟨((C p hp).tab (hT p hp)).isCodeTable, rfl, #[], more, rfl, by rw [Array.empty_append]; exact hmo⟩)
      · exact .inl (key b o hm e)
    · by_cases hm : b ∈ cs.map (·.2)
      · obtain ⟨p, hp, rfl⟩ := List.mem_map.mp hm
        obtain ⟨more, hmo⟩ := grown p hp
        exact ⟨_, hmo⟩
      · exact ⟨o, key b o hm e⟩
end
/-- the row's walk, from the promise of its def -/
theorem top_walk {l : PySem.W.OpenLaw} {n k : Nat} {q : Program} {loose : List Str} {XP : (Str → Option Value) → Heap → Prop} {YP : World → Heap → Prop} {d : DefRec} {K : Params → PySem.W.Frag} {x : Str}
    (hn : l.most = some n) (hn2 : n ≤ sizeLine) (hdf : d.params.defaults = []) (hr : Room k callerA) (hY : ∀ (w : World) (h : Heap), YP w h → (K w.params).In h)
    (F : ∀ (w : World) (mg : Str → Option Value) (fa : Addr) (h : Heap), YP w h → XP mg h → (K w.params).In h → h.Ns mainGlobals mg → mg d.name = some (.ref fa) →
      ∃ (cs : List (Addr × Addr)) (fd : FuncData) (sp : Sp), (∀ p ∈ cs, h.get? p.2 = some { cls := .none, data := .fields #[] }) ∧ (∀ p ∈ cs, (K w.params).lookup p.2 = none) ∧ (∀ p ∈ cs, PySem.W.CodeHd h p.1 p.2) ∧ (∀ (s : Shared) (u : Value), BindsTo s fd ⟨[u], []⟩ [(x, u)]) ∧
        (∀ (H : Hp) (a : Addr) (ns : List Int), ns.length ≤ n → (∀ z ∈ ns, Builtin.Int.intBits z ≤ 1048576) → (∀ p ∈ cs, H p.2 = some (.tbl #[])) → SqL (K w.params) H a (ns.map V.int) → sp [.ref a] H (fun v _ => v = .bl true) E0) ∧
        ∀ base : Heap, (K w.params).In base → base.Ns mainGlobals mg → (∀ p ∈ cs, TabB base mg p.1 p.2) → FnG l.prog w (K w.params) mg base CX0 k fa fd [x] sp) :
    PySem.W.WalkO q loose XP YP l.row.toRowW d [] (fun f vs => PySem.call f vs) := by
  refine Att.attach_callB hn hdf fun w s₀ s₁ mg mb fa o pm cd doc a vs ns G Y ho hd hcd hmg hobj hints hlen hbits hg => ?_
  have KX := hY w _ Y
  obtain ⟨cs, fd, sp, hT, nT, C, hb, hsp, hF⟩ := F w mg fa _ Y G.X KX G.T.g hmg
  refine top_run KX G.T.g G.T.b G.T.builtins G.T.nolimit hg hT nT C G.T.bmain hobj hints (Nat.le_trans hlen hn2) fun base H S => ?_
  exact (hF base S.kin S.glob S.tb).go callerA [] s₁ H ⟨[.ref a], []⟩ [.ref a] [.ref a] _ _ rfl hr S.env (hb s₁ (.ref a)) (.cons rfl .nil) (hsp H a ns hlen hbits S.tab S.script)
end CL

set_option Elab.async false
set_option linter.all false
set_option maxRecDepth 100000
set_option maxHeartbeats 2000000
/-! Cls: isinstance, errors with a field, operators of instances: readings that compute. -/
namespace CL
open PySem PySem.Spec PyProof.Rows L2

/-! ### the kinds of built-in values -/
inductive BT | non | bool | int | str | list | tuple | dict
  deriving DecidableEq
def BT.nm : BT → String
  | .non => "NoneType" | .bool => "bool" | .int => "int" | .str => "str" | .list => "list" | .tuple => "tuple" | .dict => "dict"
def BT.sub : BT → BT → Bool
  | .non, .non => true | .bool, .bool => true | .bool, .int => true | .int, .int => true | .str, .str => true | .list, .list => true | .tuple, .tuple => true | .dict, .dict => true
  | _, _ => false
theorem BT.kit {K : PySem.W.Frag} : ∀ (a b : BT), PySem.W.kitOne K (.type a.nm) (.type b.nm) = some (a.sub b)
  | .non, b => by cases b <;> exact kit_ty (by decide +kernel)
  | .bool, b => by cases b <;> exact kit_ty (by decide +kernel)
  | .int, b => by cases b <;> exact kit_ty (by decide +kernel)
  | .str, b => by cases b <;> exact kit_ty (by decide +kernel)
  | .list, b => by cases b <;> exact kit_ty (by decide +kernel)
  | .tuple, b => by cases b <;> exact kit_ty (by decide +kernel)
  | .dict, b => by cases b <;> exact kit_ty (by decide +kernel)
/-- a value of a built-in kind -/
inductive BK (K : PySem.W.Frag) (H : Hp) : V → BT → Prop
  | non : BK K H .non .non
  | bl (b : Bool) : BK K H (.bl b) .bool
  | int (i : Int) : BK K H (.int i) .int
  | str (x : Str) : BK K H (.str x) .str
  | lst {a : Addr} {xs : List V} : SqL K H a xs → BK K H (.ref a) .list
  | tup {a : Addr} {xs : List V} : SqT K H a xs → BK K H (.ref a) .tuple
  | dic {a : Addr} {kvs : List (Key × V)} : H a = some (.dK kvs) → BK K H (.ref a) .dict
theorem BK.ty {K : PySem.W.Frag} {H : Hp} {x : V} {k : BT} (h : BK K H x k) : TyX K H x (.type k.nm) := by
  cases h with
  | non => exact .base .non
  | bl b => exact .base (.bl b)
  | int i => exact .base (.int i)
  | str z => exact .base (.str z)
  | lst h =>
    rcases h with (h | ⟨o, h⟩) | ⟨o, its, n, hk, hc, _⟩
    · exact .base (.lst h)
    · exact .base (.frz h)
    · exact .kList hk hc
  | tup h =>
    rcases h with (h | ⟨o, h⟩) | ⟨o, its, n, hk, hc, _⟩
    · exact .base (.tup h)
    · exact .fTuple h
    · exact .kTuple hk hc
  | dic h => exact .base (.dK h)
theorem Dq.bk {K : PySem.W.Frag} {H : Hp} {x : V} {d : PyData} (h : Dq K H x d) : ∃ k, BK K H x k := by
  cases h with
  | non => exact ⟨_, .non⟩
  | bl b => exact ⟨_, .bl b⟩
  | int i => exact ⟨_, .int i⟩
  | str z => exact ⟨_, .str z⟩
  | lst h _ => exact ⟨_, .lst h⟩
  | tup h _ => exact ⟨_, .tup h⟩
  | dic h _ _ => exact ⟨_, .dic h⟩
section
variable {X : Cx} {e : Expr} {te : TE} {p q pos : Pos}
/-- isinstance(e, T), T a built-in class -/
def cIsi (K : PySem.W.Frag) (m : BT) (te : TE) : TE := fun σ H Q => te σ H fun x H1 => match x with
  | .non => Q (.bl (BT.non.sub m)) H1
  | .bl _ => Q (.bl (BT.bool.sub m)) H1
  | .int _ => Q (.bl (BT.int.sub m)) H1
  | .str _ => Q (.bl (BT.str.sub m)) H1
  | x => ∃ k, BK K H1 x k ∧ Q (.bl (k.sub m)) H1
theorem pe_isi {m : BT} {T : Str} (hT : bootBuiltins T = some (.type m.nm)) (hmI : X.mg "isinstance" = none) (hmT : X.mg T = none) (hgI : Gl X "isinstance") (hgT : Gl X T) (he : PE X e te) (hn : T ≠ "__name__" := by decide) (hdb : (T == ("__debug__" : Str)) = false := by decide)
    (h1 : starEach [e, .Name T q] X.env = (false, eval e X.env) :: starEach [.Name T q] X.env := by rfl) (h2 : (backTo pos (starEach [.Name T q] X.env)).any (·.1) = false := by rfl)
    (h3 : starEach [.Name T q] X.env = (false, eval (.Name T q) X.env) :: starEach [] X.env := by rfl) :
    PE X (.Call (.Name "isinstance" p) [e, .Name T q] [] pos) (cIsi X.K m te) := by
  refine PE_imp (pe_callB call_isi hgI hmI (by decide +kernel) (pa_cons (PE_up he) (pa_cons (pe_bltn (v := .ty m.nm) hgT hmT hT rfl hn hdb) pa_nil h3) h1) (by decide) (by decide) h1 h2) fun σ H Q h => ⟨_, h, fun x H1 q => ?_⟩
  have go : ∀ k, BK X.K H1 x k → Q (.bl (k.sub m)) H1 → rIsi X.K [x, .ty m.nm] H1 Q := fun k hk hq => ⟨x, .ty m.nm, _, _, _, rfl, .ty _, hk.ty, BT.kit k m, hq⟩
  cases x with
  | non => exact go _ .non q
  | bl b => exact go _ (.bl b) q
  | int i => exact go _ (.int i) q
  | str z => exact go _ (.str z) q
  | _ => obtain ⟨k, hk, q⟩ := q; exact go k hk q
end

/-! ### instances of a class of the text -/
structure OwnC (K : PySem.W.Frag) (C : Addr) : Prop where
  cl : Cls K C
  ca : PySem.W.findIn K (.ref C) "__class__" = some (some (.builtin "object.__class__"))
  sp : PySem.W.specialIn K (.builtin "object.__class__") "__get__" = some (some (.builtin "getset_descriptor.__get__"))
  tk : PySem.W.takesIn K (.builtin "object.__class__") = some true
  mo : PySem.W.mroIn K C (.type "object") = some true
  ic : PySem.W.isClsIn K C = true
  ty : PySem.W.typeIn K (.ref C) = some (.type "type")
  nb : ∀ k : BT, PySem.W.subIn K (.type k.nm) (.ref C) = some false
theorem OwnC.kit {K : PySem.W.Frag} {C : Addr} (c : OwnC K C) (k : BT) : PySem.W.kitOne K (.type k.nm) (.ref C) = some false := by
  have h1 : ((PySem.W.clsIn K C).isSome && PySem.W.typeIn K (.ref C) == some (.type "type")) = true := by
    have := c.ic
    rw [c.ty, show (PySem.W.clsIn K C).isSome = true from c.ic]
    rfl
  show (if (Value.type k.nm == Value.ref C) = true then some true else if ((PySem.W.clsIn K C).isSome && PySem.W.typeIn K (.ref C) == some (.type "type")) = true then PySem.W.subIn K (.type k.nm) (.ref C) else none) = some false
  rw [if_neg (by intro z; cases beq_iff_eq.mp z), if_pos h1]
  exact c.nb k
theorem OwnC.self {K : PySem.W.Frag} {C : Addr} : PySem.W.kitOne K (.ref C) (.ref C) = some true := by
  unfold PySem.W.kitOne
  rw [if_pos (by simp)]
section
variable {X : Cx} {e : Expr} {te : TE} {p q pos : Pos} {C : Addr}
/-- isinstance(e, C), C of the text -/
def cIsO (K : PySem.W.Frag) (C : Addr) (te : TE) : TE := fun σ H Q => te σ H fun x H1 => match x with
  | .ref a => (∃ dx fs, H1 a = some (.ins C dx fs) ∧ Q (.bl true) H1) ∨ ∃ k, BK K H1 (.ref a) k ∧ Q (.bl false) H1
  | x => ∃ k, BK K H1 x k ∧ Q (.bl false) H1
theorem pe_isO {T : Str} (c : OwnC X.K C) (hmI : X.mg "isinstance" = none) (hmT : X.mg T = some (.ref C)) (hgI : Gl X "isinstance") (hgT : Gl X T) (he : PE X e te) (hdb : (T == ("__debug__" : Str)) = false := by decide)
    (h1 : starEach [e, .Name T q] X.env = (false, eval e X.env) :: starEach [.Name T q] X.env := by rfl) (h2 : (backTo pos (starEach [.Name T q] X.env)).any (·.1) = false := by rfl)
    (h3 : starEach [.Name T q] X.env = (false, eval (.Name T q) X.env) :: starEach [] X.env := by rfl) :
    PE X (.Call (.Name "isinstance" p) [e, .Name T q] [] pos) (cIsO X.K C te) := by
  refine PE_imp (pe_callB call_isi hgI hmI (by decide +kernel) (pa_cons (PE_up he) (pa_cons (pe_glob (v := .ref C) hgT hmT rfl hdb) pa_nil h3) h1) (by decide) (by decide) h1 h2) fun σ H Q h => ⟨_, h, fun x H1 q => ?_⟩
  have no : ∀ k, BK X.K H1 x k → Q (.bl false) H1 → rIsi X.K [x, .ref C] H1 Q := fun k hk hq => ⟨x, .ref C, _, _, _, rfl, .own _, hk.ty, c.kit k, hq⟩
  cases x with
  | ref a =>
    rcases q with ⟨dx, fs, ha, q⟩ | ⟨k, hk, q⟩
    · exact ⟨_, .ref C, _, _, _, rfl, .own _, .base (.ins ha c.cl c.ca c.sp c.tk c.mo), OwnC.self, q⟩
    · exact no k hk q
  | _ => obtain ⟨k, hk, q⟩ := q; exact no k hk q
end

/-! ### what a value's type is, for the model -/
theorem BK.looks {X : Cx} {pins : List (Addr × Obj)} {σ : L2.St} {H : Hp} {s : Shared} {M : Model} {x : V} {u : Value} {k : BT} (I : Inv X pins σ H s) (h : BK X.K H x k) (r : RelV x u) : PySem.W.Looks M s.heap (typeOf u) (.type k.nm) := by
  cases h with
  | non => cases r; exact .of_pure rfl
  | bl b => cases r; exact .of_pure rfl
  | int i => obtain ⟨t, rfl⟩ := r; exact .of_pure rfl
  | str z => obtain ⟨t, rfl⟩ := r; exact .of_pure rfl
  | lst h =>
    cases r
    obtain ⟨its, rv, ⟨o, n, ho, hc, _⟩, _⟩ := I.list h
    exact fun A Q E s k q => wpAny_typeOf_ref (k _ _ ho) (by rw [hc]; exact q)
  | tup h =>
    cases r
    obtain ⟨its, rv, ⟨o, ho, hc, _⟩, _⟩ := I.tuple h
    exact fun A Q E s k q => wpAny_typeOf_ref (k _ _ ho) (by rw [hc]; exact q)
  | dic h =>
    cases r
    obtain ⟨_, _, vs', rel, o, es, ep, ho, hx, _⟩ := I.hok _ _ h
    exact fun A Q E s k q => wpAny_typeOf_ref (k _ _ ho) (by rw [hx.1]; exact q)
/-- an operand beside an instance of the class at C: another one, or a built-in value -/
def Side (K : PySem.W.Frag) (C : Addr) (H : Hp) (y : V) : Prop := (∃ b dy gs, y = .ref b ∧ H b = some (.ins C dy gs)) ∨ ∃ k, BK K H y k
theorem Side.looks {X : Cx} {pins : List (Addr × Obj)} {σ : L2.St} {H : Hp} {s : Shared} {C : Addr} {y : V} {u : Value} (c : OwnC X.K C) (I : Inv X pins σ H s) (h : Side X.K C H y) (r : RelV y u) :
    ∃ tb, (∀ M : Model, PySem.W.Looks M s.heap (typeOf u) tb) ∧ PySem.W.notFirst X.K C tb = true := by
  rcases h with ⟨b, dy, gs, rfl, hb⟩ | ⟨k, hk⟩
  · cases r
    obtain ⟨mB, J, _⟩ := ins_get I.hok hb
    obtain ⟨od, J, _⟩ := J.look
    exact ⟨.ref C, fun M => J.type, by simp [PySem.W.notFirst]⟩
  · refine ⟨_, fun M => hk.looks I r, ?_⟩
    unfold PySem.W.notFirst
    rw [c.nb k]
    simp
theorem not_raised {P : Program} {w : World} {X : Cx} : Passes (L2.CX P w) X E0 := fun _ _ _ _ _ _ _ h => by
  obtain ⟨_, _, _, _, _, _, _, _, _, _, _, _, h⟩ := h
  exact h.elim
section
variable {X : Cx} {C f : Addr} {CX : CXT} {n : Nat} {fd : FuncData} {ps : List Str} {sp : Sp} {E : XK}
theorem run_at1 {pins : List (Addr × Obj)} {σ : L2.St} {H : Hp} {s : Shared} {Q : VK} {us : List Value} {vs : List V} (F : FnOk X.prog X.w X.K X.mg X.base CX n f fd ps sp) (hr : Room (n + 1) X.A) (hb : Binds X.K fd ps []) (hx : Passes CX X E)
    (I : Inv X pins σ H s) (r : Vals vs us) (h : sp vs H Q E) : wpAny (model X.prog X.w) X.A.in1 (call (.ref f) us) (EP X pins σ Q) X.xe s := by
  have hl := F.len _ _ _ _ h
  have hb2 := hb s us I.kIn (by rw [List.append_nil, ← r.length]; exact hl)
  rw [List.append_nil] at hb2
  refine wpAny_call (codeAny_mono (F.run X.A.in1 X.stack s H ⟨us, []⟩ us vs Q E hr.in1 I.env0.in1 hb2 r h) fun res s' hq => ?_)
  match res, hq with
  | .error e, hq => exact hx pins σ H s e s' I hq
  | .ok (.ret u), hq => exact I.after hq
  | .ok .next, hq => exact hq.elim
  | .ok .brk, hq => exact hq.elim
  | .ok .cont, hq => exact hq.elim
theorem cmp_back {Pq : Value → Shared → Prop} {z : V} {v : Value} {s' : Shared} (r : RelV z v) (h : Pq v s') : PySem.W.CmpBack Pq v s' := by
  cases z <;> first | (cases r; exact h) | (obtain ⟨t, rfl⟩ := r; exact h)
/-- x == y, x an instance: by its own __eq__ -/
def cEqO (K : PySem.W.Frag) (C : Addr) (sp : Sp) (E : XK) : R2 := fun x y H Q => match x with
  | .ref a => (∃ dx fs, H a = some (.ins C dx fs)) ∧ Side K C H y ∧ sp [.ref a, y] H Q E
  | _ => False
theorem c_eqO (c : OwnC X.K C) (hs : PySem.W.findIn X.K (.ref C) "__eq__" = some (some (.ref f))) (hf : PySem.W.isFn X.K (.ref f) = true) (F : FnOk X.prog X.w X.K X.mg X.base CX n f fd ps sp) (hr : Room n X.A) (hb : Binds X.K fd ps []) (hx : Passes CX X E) :
    OpR X (compareOp .Eq) (cEqO X.K C sp E) := by
  intro pins s σ H x y v u Q I rx ry h
  cases x with
  | ref a =>
    obtain ⟨⟨dx, fs, ha⟩, hy, q⟩ := h
    cases rx
    obtain ⟨mA, J, _⟩ := ins_get I.hok ha
    obtain ⟨od, J, _⟩ := J.look
    obtain ⟨m, hF⟩ := I.fr
    obtain ⟨tb, L, nf⟩ := hy.looks c I ry
    refine PySem.W.cmp_K (op := .Eq) (tb := tb) hr.units0 hF I.ok.mod.kin J (L _) nf hs hf ?_
    refine wpAny_mono (run_fn (us := [.ref a, u]) (vs := [.ref a, y]) (dvs := []) (ds := []) F hr hb .nil hx I (.cons rfl (.cons ry .nil)) q) (fun w s' z => ?_) fun _ _ z => z
    obtain ⟨z', H', I', rz, qz⟩ := z
    exact cmp_back rz ⟨z', H', I', rz, qz⟩
  | _ => exact h.elim
theorem ns_some {K : PySem.W.Frag} {h : Heap} {N : Addr} {mg : Str → Option Value} {n : Str} {v : Value} (X : K.In h) (G : h.Ns N mg) (e : PySem.W.nsIn K N n = some (some v)) : mg n = some v := by
  obtain ⟨o, es, ep, ho, hd, _, hf⟩ := G
  unfold PySem.W.nsIn at e
  split at e
  · rename_i l
    have := X _ _ l
    rw [ho] at this
    cases this
    cases hd
    split at e
    · rename_i en he
      have e' := Option.some.inj (Option.some.inj e)
      rw [← hf n, ← e']
      show (nsFind _ n) = _
      unfold nsFind findBy
      rw [← Array.find?_toList, he]
      rfl
    · split at e <;> cases e
  · cases e
/-- the class at C has an own __eq__ at f and no own __ne__ -/
structure NeC (K : PySem.W.Frag) (C f : Addr) : Prop where
  cls : ∃ nm q N bs hd sn sub ab col dd k0 k1 k2 k3 k5 nw, K.lookup C = some (excClassObj nm q C N bs [.type "object"] hd sn sub ab col dd k0 k1 k2 k3 k5 nw) ∧ PySem.W.nsOkIn K N = true ∧ PySem.W.nsIn K N "__eq__" = some (some (.ref f)) ∧ PySem.W.nsIn K N "__ne__" = some none
  fn : ∃ o, K.lookup f = some o ∧ o.cls = .type "function"
theorem NeC.own {K : PySem.W.Frag} {C f x : Addr} {h : Heap} {o : Obj} (c : NeC K C f) (X : K.In h) (hx : h.get? x = some o) (hc : o.cls = .ref C) : h.OwnEqNoNe x C f "object" [.type "object"] := by
  obtain ⟨nm, q, N, bs, hd, sn, sub, ab, col, dd, k0, k1, k2, k3, k5, nw, hC, hN, e1, e2⟩ := c.cls
  obtain ⟨of, hf, hfc⟩ := c.fn
  have G : h.Ns N (h.nsMap N) := .of_isNs (PySem.W.isNs_of_in X hN)
  exact ⟨o, of, nm, q, N, bs, hd, sn, sub, ab, col, dd, k0, k1, k2, k3, k5, nw, h.nsMap N, _, hx, hc, X _ _ hC, G, ns_some X G e1, X _ _ hf, hfc, PySem.F.cmp_object.mro, PySem.F.cmp_object.eq.lookup, PySem.W.ns_none_of X G e2⟩
/-- x != y, both instances of the class: not its own __eq__ -/
def cNeO (C : Addr) (sp : Sp) (E : XK) : R2 := fun x y H Q => match x, y with
  | .ref a, .ref b => (∃ dx fs, H a = some (.ins C dx fs)) ∧ (∃ dx fs, H b = some (.ins C dx fs)) ∧ sp [.ref a, .ref b] H (fun v H' => match v with
    | .bl k => Q (.bl (!k)) H'
    | _ => False) E
  | _, _ => False
theorem c_neO (c : NeC X.K C f) (F : FnOk X.prog X.w X.K X.mg X.base CX n f fd ps sp) (hr : Room (n + 1) X.A) (hb : Binds X.K fd ps []) (hx : Passes CX X E) : OpR X (compareOp .NotEq) (cNeO C sp E) := by
  intro pins s σ H x y v u Q I rx ry h
  unfold cNeO at h
  split at h
  · rename_i a b
    obtain ⟨⟨dx, fs, ha⟩, ⟨dy, gs, hb'⟩, q⟩ := h
    cases rx
    cases ry
    obtain ⟨mA, J, _⟩ := ins_get I.hok ha
    obtain ⟨od, J, _⟩ := J.look
    obtain ⟨mB, J', _⟩ := ins_get I.hok hb'
    obtain ⟨od', J', _⟩ := J'.look
    obtain ⟨hp, g, d, t, os⟩ := s
    refine compareOp_ne_ownEq PySem.F.cmp_object (c.own I.kIn J.at_ J.cls) J'.at_ J'.cls (by have := hr.units; omega) ?_
    refine wpAny_mono (run_at1 (us := [.ref a, .ref b]) (vs := [.ref a, .ref b]) F hr hb hx I (.cons rfl (.cons rfl .nil)) q) (fun w s' z => ?_) fun _ _ z => z
    obtain ⟨z', H', I', rz, qz⟩ := z
    split at qz
    · cases rz
      exact ⟨_, rfl, .bl _, H', I', rfl, qz⟩
    · exact qz.elim
  · exact h.elim
/-- -x, x an instance -/
def cNegO (C : Addr) (sp : Sp) (E : XK) : V → Hp → VK → Prop := fun x H Q => match x with
  | .ref a => (∃ dx fs, H a = some (.ins C dx fs)) ∧ sp [.ref a] H Q E
  | _ => False
theorem c_negO (hs : PySem.W.findIn X.K (.ref C) "__neg__" = some (some (.ref f))) (hf : PySem.W.isFn X.K (.ref f) = true) (F : FnOk X.prog X.w X.K X.mg X.base CX n f fd ps sp) (hr : Room n X.A) (hb : Binds X.K fd ps []) (hx : Passes CX X E) :
    UnR X (unaryOp .USub) (cNegO C sp E) := by
  intro pins s σ H x v Q I rx h
  cases x with
  | ref a =>
    obtain ⟨⟨dx, fs, ha⟩, q⟩ := h
    cases rx
    obtain ⟨mA, J, _⟩ := ins_get I.hok ha
    obtain ⟨od, J, _⟩ := J.look
    obtain ⟨m, hF⟩ := I.fr
    exact PySem.W.ksp_neg hF I.ok.mod.kin J hs hf (run_fn (us := [.ref a]) (vs := [.ref a]) (dvs := []) (ds := []) F hr hb .nil hx I (.cons rfl .nil) q)
  | _ => exact h.elim
end

/-! ### x op y, x an instance whose class defines the operator -/
section
open PySem.W
variable {prog : Program} {w : World} {A : Around} {E : Value → Shared → Prop} {s : Shared} {K : Frag} {x C L f : Addr} {ox : Obj} {od : Option Obj} {T : String}
theorem inst_bin {op : Operator} {b : Value} {fo ro rc : Option Value} {Q : Value → Shared → Prop} (X : K.In s.heap) (I : InstAt s.heap x ox C od) (hb : Looks (model prog w) s.heap (typeOf b) (.type T)) (hc : selfFirst K C = true)
    (hs : findIn K (.ref C) (PySem.dunder op.info.2) = some (some (.ref f))) (hf : isFn K (.ref f) = true) (hr : findIn K (.ref C) (dunderR op.info.2) = some rc) (hp : rc = none ∨ ∃ g : Addr, rc = some (.ref g))
    (h1 : findIn K (.type T) (PySem.dunder op.info.2) = some fo) (h2 : findIn K (.type T) (dunderR op.info.2) = some ro) (hsub : subIn K (.type T) (.ref C) = some false)
    (h : wpAny (model prog w) A (call (.ref f) [.ref x, b]) (PySem.W.CmpBack Q) E s) : wpAny (model prog w) A (binaryOp op (.ref x) b) Q E s := by
  obtain ⟨cd, rest, hcd, hm⟩ := ksp_first hc
  rcases hi : op.info with ⟨sym, nm'⟩
  simp only [hi] at hs hr h1 h2
  have one := ksp_try X I hs hf h
  obtain ⟨hh, g, d, tt, os⟩ := s
  have A1 : Looks (model prog w) hh (typeOf (.ref x)) (.ref C) := I.type
  have A2 : Looks (model prog w) hh (typeOf b) (.type T) := hb
  have A3 : Looks (model prog w) hh (fillsNumberSlot (.ref C) nm') true := fills_K X hcd hm hs
  have A4 : Looks (model prog w) hh (fillsNumberSlot (.type T) nm') ((fo.isSome && !isSeqSlot fo) || (ro.isSome && !isSeqSlot ro)) := ksp_fillsT X h1 h2
  have A5 : Looks (model prog w) hh (isSubtype (.type T) (.ref C)) false := looks_subIn X hsub
  have A6 : Looks (model prog w) hh (numberSlotInPython (.ref C) nm') true := ksp_inPy X hs hr hp
  have A7 : Looks (model prog w) hh (numberSlotInPython (.type T) nm') false := Looks.of_pure rfl
  have A8 : Looks (model prog w) hh (typeLookup (.type T) (dunderR nm')) ro := looks_findIn X h2
  generalize ((fo.isSome && !isSeqSlot fo) || (ro.isSome && !isSeqSlot ro)) = right at A4
  have hne : (Value.ref C == Value.type T) = false := Bool.eq_false_iff.mpr fun q => nomatch beq_iff_eq.mp q
  simp only [binaryOp, hi]
  refine wpAny_holding (wpAny_bind ?_)
  unfold binaryOp1
  refine wpAny_bind (A1.at (wpAny_bind (A2.at (wpAny_bind (A3.at ?_)))))
  simp only [hne, Bool.false_eq_true, if_false]
  cases right <;>
  · ksp_lk
    refine wpAny_mono one (fun r s' ⟨v, hv, hq⟩ => ?_) fun _ _ e => e
    subst hv
    ksp_lk
    exact hq
end
/-- what the class at C says of + -/
structure AddC (K : PySem.W.Frag) (C f : Addr) : Prop where
  fst : PySem.W.selfFirst K C = true
  add : PySem.W.findIn K (.ref C) "__add__" = some (some (.ref f))
  fn : PySem.W.isFn K (.ref f) = true
  radd : PySem.W.findIn K (.ref C) "__radd__" = some none
  bt : ∀ k : BT, ∃ fo ro, PySem.W.findIn K (.type k.nm) "__add__" = some fo ∧ PySem.W.findIn K (.type k.nm) "__radd__" = some ro
section
variable {X : Cx} {C f : Addr} {CX : CXT} {n : Nat} {fd : FuncData} {ps : List Str} {sp : Sp} {E : XK}
/-- x + y, x an instance, y a built-in value -/
def cAddO (K : PySem.W.Frag) (C : Addr) (sp : Sp) (E : XK) : R2 := fun x y H Q => match x with
  | .ref a => (∃ dx fs, H a = some (.ins C dx fs)) ∧ (∃ k, BK K H y k) ∧ sp [.ref a, y] H Q E
  | _ => False
theorem c_addO (c : OwnC X.K C) (ac : AddC X.K C f) (F : FnOk X.prog X.w X.K X.mg X.base CX n f fd ps sp) (hr : Room n X.A) (hb : Binds X.K fd ps []) (hx : Passes CX X E) : OpR X (binaryOp .Add) (cAddO X.K C sp E) := by
  intro pins s σ H x y v u Q I rx ry h
  cases x with
  | ref a =>
    obtain ⟨⟨dx, fs, ha⟩, ⟨k, hk⟩, q⟩ := h
    cases rx
    obtain ⟨mA, J, _⟩ := ins_get I.hok ha
    obtain ⟨od, J, _⟩ := J.look
    obtain ⟨fo, ro, h1, h2⟩ := ac.bt k
    refine inst_bin (op := .Add) I.kIn J (hk.looks I ry) ac.fst ac.add ac.fn ac.radd (.inl rfl) h1 h2 (c.nb k) ?_
    refine wpAny_mono (run_fn (us := [.ref a, u]) (vs := [.ref a, y]) (dvs := []) (ds := []) F hr hb .nil hx I (.cons rfl (.cons ry .nil)) q) (fun w s' z => ?_) fun _ _ z => z
    obtain ⟨z', H', I', rz, qz⟩ := z
    exact cmp_back rz ⟨z', H', I', rz, qz⟩
  | _ => exact h.elim
end
end CL

set_option Elab.async false
set_option linter.all false
set_option maxRecDepth 100000
set_option maxHeartbeats 2000000
/-! Err: own errors over ValueError, with one field or none. -/
namespace CL
open PySem PySem.Spec PyProof.Rows L2

/-! ### an error with one field -/
/-- C.__init__(self, v): ValueError.__init__(self, ..), self.f = v -/
def spErr (C : Addr) (f : Str) : Sp := fun vs H Q _ => match vs with
  | [.ref a, v] => H a = some (exo a C none) ∧ ∀ d, H d = none → d ≠ a → Q .non (upd (upd H d (exd d [(f, v)])) a (exo a C (some d)))
  | _ => False
/-- what is known of such a class -/
structure ErrC (P : Program) (w : World) (K : PySem.W.Frag) (mg : Str → Option Value) (base : Heap) (x : Str) (C : Addr) (f : Str) : Prop where
  ox : OexC K C
  g : mg x = some (.ref C)
  it : ∃ fI fd, PySem.W.findIn K (.ref C) "__init__" = some (some (.ref fI)) ∧ PySem.W.typeIn K (.ref fI) = some (.type "function") ∧ FnOk P w K mg base CX0 1 fI fd ["self", f] (spErr C f) ∧ Binds K fd ["self", f] []
section
variable {X : Cx} {C : Addr} {x f : Str} {e : Expr} {te : TE} {p pos pos2 : Pos} {W : WX}
def cRaise (C : Addr) (f : Str) (W : WX) (te : TE) : TS := fun _ σ H => te σ H fun v H1 => ∀ d H2, H1 d = none → Same H1 H2 → H2 d = some (.xd [(f, v)]) → W (.ref C) (some d) σ H2
theorem ps_raise1 (T : ErrC X.prog X.w X.K X.mg X.base x C f) (hc : X.calm = true) (hr : Room 2 X.A) (tk : Takes X W) (he : PE X e te) (hg : Gl X x := by rfl) (hdb : (x == ("__debug__" : Str)) = false := by decide)
    (h1 : starEach [e] X.env = (false, eval e X.env) :: starEach [] X.env := by rfl) (h2 : (backTo pos (starEach [] X.env)).any (·.1) = false := by rfl) :
    PS X (.Raise (some (.Call (.Name x p) [e] [] pos)) none pos2) (cRaise C f W te) := by
  obtain ⟨fI, fd, iC, tI, F, b⟩ := T.it
  refine PS_imp (ps_raise hc tk (pmk_oex T.ox iC tI F hr b .nil pass0 hg T.g (pa_cons (PE_up he) pa_nil h1) hdb h1 h2)) fun D σ H q => ⟨_, q, fun v H1 q => ⟨(by show (1 : Nat) ≤ 1000; decide), fun a na => ⟨upd_same, fun d nd da => ⟨rfl, d, [(f, v)], upd_same, ?_, ?_, ?_⟩⟩⟩⟩
  · rw [upd_ne da, upd_same]
  · rw [upd_ne da] at nd; exact nd
  · rw [upd_ne da] at nd
    refine q d _ nd (fun c o z => ?_) upd_same
    have c1 : c ≠ d := ne_of_none z nd
    have c2 : c ≠ a := ne_of_none z na
    rw [upd_ne c1, del_ne c2, upd_ne c2, upd_ne c1, upd_ne c2]
    exact z
end

/-! ### an error without a field -/
def spErr0 (C : Addr) : Sp := fun vs H Q _ => match vs with
  | [.ref a] => H a = some (exo a C none) ∧ Q .non H
  | _ => False
structure ErrC0 (P : Program) (w : World) (K : PySem.W.Frag) (mg : Str → Option Value) (base : Heap) (x : Str) (C : Addr) : Prop where
  ox : OexC K C
  g : mg x = some (.ref C)
  it : ∃ fI fd, PySem.W.findIn K (.ref C) "__init__" = some (some (.ref fI)) ∧ PySem.W.typeIn K (.ref fI) = some (.type "function") ∧ FnOk P w K mg base CX0 1 fI fd ["self"] (spErr0 C) ∧ Binds K fd ["self"] []
section
variable {X : Cx} {C : Addr} {x : Str} {p pos pos2 : Pos} {W : WX}
/-- the exception at a is let go: without a dict -/
theorem let_go {pins : List (Addr × Obj)} {σ : L2.St} {H1 H2 : Hp} {hp hp2 h2 : Heap} {g1 g2 : Array GenState} {d1 d2 : Drawn} {t1 t2 : Nat} {os1 os2 : OsState} {a : Addr} (I1 : Inv X pins σ H1 ⟨hp, g1, d1, t1, os1⟩)
    (ha : hp.objs.size ≤ a) (k : ∀ b o, hp.get? b = some o → hp2.get? b = some o) (un : Un (frs X.stack) [] (upd H1 a (exo a C none)) H2 hp2 h2) (hok : HOk X.prog X.w H2 h2) (ho : os2 = os1) (hb : AllBare g2) (ea : H2 a = some (exo a C none)) :
    ∃ (t0 : Addr) (G : Heap), Inv X pins σ (del H2 a) ⟨G, g2, d2, t2, os2⟩ ∧ (∀ b o, G.get? b = some o → h2.get? b = some o) ∧ G.get? a = none ∧ h2.get? a = some ({ cls := .ref C, dict := none, data := .fields #[.ref t0, .none, .none, .none, .bool false, .none] } : Obj) := by
  obtain ⟨t0, hoe⟩ := exo_at hok ea
  have hn : H1 a = none := I1.hok.fresh ha
  obtain ⟨G, gk', ge'⟩ := restrict h2 fun b => decide (b ≠ a)
  have gk : ∀ b, b ≠ a → G.get? b = h2.get? b := fun b h => gk' b (decide_eq_true h)
  have ge : G.get? a = none := ge' a (by simp)
  have na : ∀ {b : Addr} {o : Obj}, hp.get? b = some o → b ≠ a := fun {b o} z => Nat.ne_of_lt (Nat.lt_of_lt_of_le (Heap.lt_size z) ha)
  have up1 : ∀ {b : Addr}, b ≠ a → H1 b = none → upd H1 a (exo a C none) b = none := fun {b} h n => by rw [upd_ne h]; exact n
  have up2 : ∀ {b : Addr} {o : HO}, H1 b = some o → upd H1 a (exo a C none) b = some o := fun {b o} z => by rw [upd_ne (ne_of_none z hn)]; exact z
  have U : Un (frs X.stack) [] H1 (del H2 a) hp G := by
    refine ⟨fun b o z n hf hx => ?_, fun b o z n hf hx => ?_, fun b o z n hx => ?_, fun b o z hx => ?_, fun b xs z => ?_, fun b o v z => ?_, fun b ps z => ?_⟩
    · rw [gk b (na z)]; exact un.keep b o (k b o z) (up1 (na z) n) hf hx
    · rw [gk b (na z)]; exact un.slot b o (k b o z) (up1 (na z) n) hf hx
    · rw [del_ne (na z)]; exact un.free b o (k b o z) (up1 (na z) n) hx
    · rw [gk b (na z)]; exact un.there b o (k b o z) hx
    · rw [del_ne (ne_of_none z hn)]; exact un.tups b xs (up2 z)
    · rw [del_ne (ne_of_none z hn)]; exact un.frzs b o v (up2 z)
    · rw [del_ne (ne_of_none z hn)]; exact un.tbls b ps (up2 z)
  have hok3 : HOk X.prog X.w (del H2 a) G := fun b o z => by
    have hba : b ≠ a := fun e => by rw [e, del_same] at z; exact nomatch z
    rw [del_ne hba] at z
    have noa : ∀ {c : Addr}, H2 c = some (.own b) → c ≠ a := fun {c} hc => at_ne ea hc exo_own
    refine (hok b o z).stay (fun c v hc y => ?_) (fun c hc => by rw [del_ne (noa hc)]; exact hc) fun c xs hc => by rw [del_ne (at_ne ea hc exo_tup)]; exact hc
    have hca : c ≠ a := hc.elim (fun e => e ▸ hba) noa
    rw [gk c hca]
    exact y
  refine ⟨t0, G, I1.call' (ch := []) ho U hok3 hb (fun b z => absurd z (by simp)), fun b o z => ?_, ge, hoe⟩
  by_cases hba : b = a
  · rw [hba, ge] at z; exact nomatch z
  · exact (gk b hba).symm.trans z
theorem pmk_err0 (T : ErrC0 X.prog X.w X.K X.mg X.base x C) (hr : Room 2 X.A) (hg : Gl X x) (hdb : (x == ("__debug__" : Str)) = false := by decide) : PMk X (.Call (.Name x p) [] [] pos) (fun σ H Q => ∀ H2, Same H H2 → Q (.ref C) none H2) := by
  intro pins s σ H Q I h
  obtain ⟨fI, fd, iC, tI, F1, hb⟩ := T.it
  obtain ⟨nm, q, N, bs, bm, sn, sub, ab, col, dd, k0, k1, k2, k3, k5, hC, hbm⟩ := T.ox.cls
  refine wpAny_Call_Name_kw (ld_glob I hg T.g ?_ hdb)
  refine PySem.W.callWith_K0 I.kIn T.ox.kC ?_
  obtain ⟨hp, g, dr, tk, os⟩ := s
  have hsz : hp.objs.size ≤ hp.objs.size + 1 := Nat.le_succ _
  have kk : ∀ b o, hp.get? b = some o → ((hp.push (PySem.W.kdv_tup [])).push (PySem.HandSPX.excO C hp.objs.size)).get? b = some o := fun b o e => Heap.get?_push_of_some _ (Heap.get?_push_of_some _ e)
  have hget : ((hp.push (PySem.W.kdv_tup [])).push (PySem.HandSPX.excO C hp.objs.size)).get? (hp.objs.size + 1) = some (PySem.HandSPX.excO C hp.objs.size) := by heap_get
  have hn : H (hp.objs.size + 1) = none := I.hok.fresh hsz
  have I2 : Inv X pins σ (upd H (hp.objs.size + 1) (exo (hp.objs.size + 1) C none)) ⟨(hp.push (PySem.W.kdv_tup [])).push (PySem.HandSPX.excO C hp.objs.size), g, dr, tk, os⟩ :=
    I.laid (t' := tk) (a := hp.objs.size + 1) (o := exo (hp.objs.size + 1) C none) (h' := (hp.push (PySem.W.kdv_tup [])).push (PySem.HandSPX.excO C hp.objs.size)) kk hsz (exo_ok hget)
  have hsp : spErr0 C [.ref (hp.objs.size + 1)] (upd H (hp.objs.size + 1) (exo (hp.objs.size + 1) C none)) (fun v H2 => v = .non ∧ H2 = upd H (hp.objs.size + 1) (exo (hp.objs.size + 1) C none)) (fun _ _ _ => False) := ⟨upd_same, rfl, rfl⟩
  have hbt : BindsTo ⟨(hp.push (PySem.W.kdv_tup [])).push (PySem.HandSPX.excO C hp.objs.size), g, dr, tk, os⟩ fd ⟨[.ref (hp.objs.size + 1)], []⟩ ((["self"] : List Str).zip [.ref (hp.objs.size + 1)]) := hb _ [.ref (hp.objs.size + 1)] I2.kIn rfl
  show wpAny _ _ (call (.ref C) []) _ _ _
  refine wpAny_call (PySem.HandSPX.call_own F.excBase_ValueError (fun Y => PySem.HandSPX.refsVE_contains Y bm hbm) (I.kIn _ _ hC) (PySem.W.looks_findIn I.kIn iC) (fun self => PySem.W.bind_fn I.kIn self tI) (by rw [sizeLine_eq]; exact Nat.zero_le _)
    (codeAny_mono (F1.run _ X.stack _ _ ⟨[.ref (hp.objs.size + 1)], []⟩ [.ref (hp.objs.size + 1)] [.ref (hp.objs.size + 1)] _ (fun _ _ _ => False) (hr.make C [] []) (I2.env0.make C [] []) hbt (.cons rfl .nil) hsp) fun r s' hq => ?_))
  match r, hq with
  | .error er, hq => exact hq.elim
  | .ok .next, hq => exact hq.elim
  | .ok .brk, hq => exact hq.elim
  | .ok .cont, hq => exact hq.elim
  | .ok (.ret u), ⟨v, H2, os2, bare2, un2, hok2, rv, ev, eH⟩ =>
    subst ev
    subst eH
    obtain ⟨h2, g2, d2, t2, os'⟩ := s'
    obtain ⟨t0, G, J, kG, ge, hoe⟩ := let_go (d2 := d2) (t2 := t2) I hsz kk un2 hok2 os2 bare2 upd_same
    refine ⟨rv, hp.objs.size + 1, _, _, ⟨G, g2, d2, t2, os'⟩, _, .ref C, none, rfl, J, kG, ge, hoe, ⟨rfl, rfl⟩, rfl, rfl, del_same, rfl, bare2, raises_own T.ox.exC T.ox.tyC, h _ fun b o z => ?_⟩
    rw [del_ne (ne_of_none z hn), upd_ne (ne_of_none z hn)]
    exact z
def cRaise0 (C : Addr) (W : WX) : TS := fun _ σ H => ∀ H2, Same H H2 → W (.ref C) none σ H2
theorem ps_raise0 (T : ErrC0 X.prog X.w X.K X.mg X.base x C) (hc : X.calm = true) (hr : Room 2 X.A) (tk : Takes X W) (hg : Gl X x := by rfl) (hdb : (x == ("__debug__" : Str)) = false := by decide) :
    PS X (.Raise (some (.Call (.Name x p) [] [] pos)) none pos2) (cRaise0 C W) := ps_raise hc tk (pmk_err0 T hr hg hdb)
end
end CL

set_option Elab.async false
set_option linter.all false
set_option maxRecDepth 100000
set_option maxHeartbeats 2000000
/-! ExcV: a caught error of an own class: of which built-in class it is. -/
namespace CL
open PySem PySem.Spec PyProof.Rows L2
section
open PySem.W PySem.Calls
theorem exc_yes {K : Frag} {x D : Addr} {ox : Obj} {od : Option Obj} {T : String} (hs : subIn K (.ref D) (.type T) = some true) (hm : kitMeta T = true) : Answers (fun s => K.In s.heap ∧ InstAt s.heap x ox D od) (.ref x) (.type T) true := by
  intro dep tk prog w A R s hx
  obtain ⟨hp, gs, dr, n, os⟩ := s
  obtain ⟨⟨KX, J⟩, hq⟩ := hx
  have seen : Looks (model prog w) hp (typeOf (.ref x)) (.ref D) := J.type
  have kind : Looks (model prog w) hp (typeOf (.type T)) (.type "type") := Looks.of_pure (kitMeta_of hm)
  have ofT : Looks (model prog w) hp (isType (.type T)) true := Looks.of_pure rfl
  have inst : Looks (model prog w) hp (isInstance (.ref x) (.type T)) true := seen.andThen (looks_subIn KX hs)
  unfold Builtin.«isinstance.nested»
  refine wpAny_bind (seen.at ?_)
  rw [if_neg (show ¬ (Value.ref D == Value.type T) = true from fun z => nomatch beq_iff_eq.mp z)]
  refine wpAny_bind (kind.at ?_)
  rw [if_pos (by decide)]
  k_delta "plainIsInstance"
  refine wpAny_bind (wpAny_bind (ofT.at ?_))
  simp only [Bool.not_true, Bool.false_eq_true, if_false]
  refine wpAny_bind (inst.at ?_)
  simp only [if_true]
  first | exact wpAny_pure (wpAny_pure (hq n)) | exact wpAny_pure (hq n) | exact wpAny_bind (wpAny_pure (wpAny_pure (hq n)))
theorem exc_isi {K : Frag} {x D : Addr} {ox : Obj} {od : Option Obj} {T : String} {prog : Program} {w : World} {A : Around} {E : Value → Shared → Prop} {s : Shared} {Q : Value → Shared → Prop} (hs : subIn K (.ref D) (.type T) = some true) (hm : kitMeta T = true)
    (KX : K.In s.heap) (J : InstAt s.heap x ox D od) (h : ∀ tk, Q (.bool true) { s with toks := tk }) : wpAny (model prog w) A (call (.builtin "isinstance") [.ref x, .type T]) Q E s :=
  call_isinstance (S := fun _ R s => (K.In s.heap ∧ InstAt s.heap x ox D od) ∧ ∀ tk, R (.ok (.ret (.bool true))) { s with toks := tk })
    (fun prog w A R s z => isinstance_outer (exc_yes hs hm 0 _ prog w A R s z) (fun z => nomatch z)) ⟨⟨KX, J⟩, h⟩
end
section
variable {X : Cx} {a D : Addr} {oe : Obj} {cls : Value} {d : Option Addr} {pn : List (Addr × Obj)} {e : Expr} {te : TE} {p q pos : Pos}
/-- isinstance(e, T): the caught error at a is one -/
def cIsE (a : Addr) (cls : Value) (d : Option Addr) (K : PySem.W.Frag) (T : String) (te : TE) : TE := fun σ H Q => te σ H fun x H1 => x = .ref a ∧ (∃ D, cls = .ref D ∧ PySem.W.subIn K (.ref D) (.type T) = some true) ∧ (d = none ∨ ∃ dd fs, d = some dd ∧ H1 dd = some (.xd fs)) ∧ Q (.bl true) H1
theorem c_isE {T : String} (hm : PySem.W.kitMeta T = true) (hz : Zc cls d oe) (hf : ∃ vs, oe.data = .fields vs) : CallR (X.suite a ((a, oe) :: pn)) (.builtin "isinstance")
    (fun xs H Q => xs = [.ref a, .ty T] ∧ (∃ D, cls = .ref D ∧ PySem.W.subIn X.K (.ref D) (.type T) = some true) ∧ (d = none ∨ ∃ dd fs, d = some dd ∧ H dd = some (.xd fs)) ∧ Q (.bl true) H) := by
  intro pins s σ H xs us Q I r h
  obtain ⟨rfl, ⟨D, rfl, hs⟩, hd, k⟩ := h
  cases r with
  | cons rx rr =>
    cases rr with
    | cons rt rr =>
      cases rr
      cases rx
      cases rt
      obtain ⟨at_, _⟩ := I.pin (a, oe) (List.mem_append.mpr (.inl List.mem_cons_self))
      obtain ⟨vs, hv⟩ := hf
      have nc : PySem.W.notCls oe = true := by unfold PySem.W.notCls; rw [hv] <;> rfl
      have go : ∀ od, PySem.W.InstAt s.heap a oe D od → wpAny (model X.prog X.w) (X.suite a ((a, oe) :: pn)).A (call (.builtin "isinstance") [.ref a, .type T]) (EP (X.suite a ((a, oe) :: pn)) pins σ Q) (X.suite a ((a, oe) :: pn)).xe s := fun od J =>
        exc_isi hs hm I.kIn J fun tk => ⟨.bl true, H, I.kept (t' := tk) fun _ _ z => z, rfl, k⟩
      rcases hd with rfl | ⟨dd, fs, rfl, hx⟩
      · exact go none ⟨at_, hz.1, nc, by rw [hz.2]; trivial⟩
      · obtain ⟨mA, hns, _⟩ := (show ObjOk X.prog X.w H s.heap dd (.xd fs) from I.hok dd _ hx)
        obtain ⟨od, ho, _⟩ := lookIn_ns hns
        exact go (some od) ⟨at_, hz.1, nc, by rw [hz.2]; exact ho⟩
theorem pe_isE {T : Str} {T' : String} (hT : bootBuiltins T = some (.type T')) (hm : PySem.W.kitMeta T' = true) (hz : Zc cls d oe) (hf : ∃ vs, oe.data = .fields vs) (hmI : X.mg "isinstance" = none) (hmT : X.mg T = none) (hgI : Gl X "isinstance") (hgT : Gl X T)
    (he : PE (X.suite a ((a, oe) :: pn)) e te) (hn : T ≠ "__name__" := by decide) (hdb : (T == ("__debug__" : Str)) = false := by decide)
    (h1 : starEach [e, .Name T q] X.env = (false, eval e X.env) :: starEach [.Name T q] X.env := by rfl) (h2 : (backTo pos (starEach [.Name T q] X.env)).any (·.1) = false := by rfl)
    (h3 : starEach [.Name T q] X.env = (false, eval (.Name T q) X.env) :: starEach [] X.env := by rfl) :
    PE (X.suite a ((a, oe) :: pn)) (.Call (.Name "isinstance" p) [e, .Name T q] [] pos) (cIsE a cls d X.K T' te) := by
  refine PE_imp (pe_callB (X := X.suite a ((a, oe) :: pn)) (c_isE hm hz hf) hgI hmI (by decide +kernel) (pa_cons (PE_up he) (pa_cons (pe_bltn (v := .ty T') hgT hmT hT rfl hn hdb) pa_nil h3) h1) (by decide) (by decide) h1 h2) fun σ H Q h => ⟨_, h, fun x H1 q => ?_⟩
  obtain ⟨rfl, hc, hd, k⟩ := q
  exact ⟨rfl, hc, hd, k⟩
end
end CL

set_option Elab.async false
set_option linter.all false
set_option maxRecDepth 100000
set_option maxHeartbeats 2000000
/-! TryAs: several clauses, each «except C as n». -/
namespace CL
open PySem PySem.Spec PyProof.Rows L2

/-- the exception at a has come down in this frame -/
def Down (X : Cx) (pins : List (Addr × Obj)) (σ : L2.St) (H : Hp) (a : Addr) (cls : Value) (d : Option Addr) (s : Shared) : Prop :=
  ∃ (B : Heap) (sI : Shared), Inv X pins σ H sI ∧ (∀ b o, sI.heap.get? b = some o → b ∉ frs X.stack → B.get? b = some o) ∧ sI.heap.UpToSlots s.heap ∧
    HandSPX.FlyingZ B (X.env :: X.outer) a (Zc cls d) s.heap ∧ H a = none ∧ s.os = sI.os ∧ AllBare s.gens
section
variable {X : Cx} {pins : List (Addr × Obj)} {σ : L2.St} {H : Hp} {a : Addr} {cls : Value} {d : Option Addr} {s : Shared} {Wout : WX} {D : Ends}
theorem Down.inv (h : Down X pins σ H a cls d s) : Inv X pins σ H s := by
  obtain ⟨B, sI, I, nb, up, fl, _, os, ag⟩ := h
  exact I.landed nb fl.1 up os ag
theorem Down.again {Q : Unit → Shared → Prop} {A : Around} {E : Value → Shared → Prop} (h : Down X pins σ H a cls d s) (k : ∀ s', Down X pins σ H a cls d s' → Q () s') : wpAny (model X.prog X.w) A (setFlight (.ref a) none) Q E s := by
  obtain ⟨B, sI, I, nb, up, fl, na, os, ag⟩ := h
  exact HandSPX.lands_againZ fl fun h' fl' up' => k _ ⟨B, sI, I, nb, up.trans up', fl', na, os, ag⟩
/-- the exception's object, pinned while a clause's suite runs -/
theorem Down.pinned (h : Down X pins σ H a cls d s) (hf : X.env.frame = some X.env.locals) : ∃ oe, s.heap.get? a = some oe ∧ Zc cls d oe ∧ (∃ vs, oe.data = .fields vs) ∧ Inv (X.suite a ((a, oe) :: (X.pn ++ pins))) [] σ H s := by
  have J := h.inv
  obtain ⟨B, sI, I, nb, up, fl, na, os, ag⟩ := h
  obtain ⟨oe, vs, at_, zc, dv⟩ := fl.there
  have out : a ∉ frs (X.env :: X.outer) := fun hm => by
    obtain ⟨_, o2, e2, none2⟩ := Heap.FunFrames.mem fl.2.2.1 hm
    cases at_.symm.trans e2
    exact none2 _ dv
  refine ⟨oe, at_, zc, ⟨vs, dv⟩, J.suite at_ dv na (fun z => out (List.mem_filterMap.mpr ⟨X.env, List.mem_cons_self, hf.trans (congrArg some z.symm)⟩)) fun hm => ?_⟩
  obtain ⟨e, he, q⟩ := List.mem_filterMap.mp hm
  exact out (List.mem_filterMap.mpr ⟨e, List.mem_cons_of_mem _ he, q⟩)
/-- no clause is left: it flies on -/
theorem Down.out (h : Down X pins σ H a cls d s) (hs : X.stack = X.env :: X.outer) (hf : X.env.frame = some X.env.locals) (tk : Takes X Wout) (w : Wout cls d σ H) : wpAny (model X.prog X.w) X.A (handleBy (.ref a) X.env []) (SP X pins D) X.xe s := by
  obtain ⟨B, sI, I, nb, up, fl, na, os, ag⟩ := h
  have go : wpAny (model X.prog X.w) X.A (setFlight (.ref a) X.env.frame) (fun _ s4 => wpAny (model X.prog X.w) X.A (throw (.ref a) : Sem Flow) (SP X pins D) X.xe s4) X.xe s := by
    rw [hf]
    exact HandSPX.setFlight_upZ fl fun h4 held up4 => wpAny_throw (tk _ _ ⟨a, B, sI, pins, σ, H, cls, d, rfl, I, nb, up.trans up4, .inr (.inr (by rw [hs]; exact held)), na, os, ag, w⟩)
  obtain ⟨_, _, _, oe, vs, T, oT, ts, e1, _, e3, e4, _⟩ := fl
  refine wpAny_handleBy_nil ?_
  unfold PySem.passOn
  refine wpAny_bind (wpAny_field e1 e3 e4 ?_)
  rw [if_neg (show ¬ ((Value.ref T == Value.none) = true) by simp)]
  first | exact wpAny_bind (wpAny_pure (wpAny_bind go)) | exact wpAny_bind go
end
/-- what is wished of the ends of a clause: its name goes -/
abbrev offEnds (i : Nat) (D : Ends) : Ends := { nx := fun σ H => D.nx (σ.set i none) H, rt := D.rt, bk := fun σ H => D.bk (σ.set i none) H, ct := fun σ H => D.ct (σ.set i none) H }
/-- what the clauses wish of an exception, from the first on; i: the slot of a clause's name -/
def wAsMany (K : PySem.W.Frag) (i : Nat) (Wout : WX) (D : Ends) : List (Value × (Addr → Value → Option Addr → TS)) → WX
  | [] => Wout
  | (c, ts) :: r => fun cls d σ H => ∃ b, PySem.W.exmOne K cls c = some b ∧ (b = true → ∀ a, H a = none → ts a cls d (offEnds i D) (σ.set i (some (.ref a))) H) ∧ (b = false → wAsMany K i Wout D r cls d σ H)
inductive AsOk (X : Cx) (n : Str) : List ExceptHandler → List (Value × (Addr → Value → Option Addr → TS)) → Prop
  | nil : AsOk X n [] []
  | cons {x : Str} {c : Value} {ts : Addr → Value → Option Addr → TS} {st : Stmt} {suite : List Stmt} {np pos : Pos} {hds : List ExceptHandler} {l : List (Value × (Addr → Value → Option Addr → TS))} (hc : Names X x c)
      (hsu : ∀ (a : Addr) (oe : Obj) (cls : Value) (d : Option Addr) (pn : List (Addr × Obj)), Zc cls d oe → (∃ vs, oe.data = .fields vs) → PSs (X.suite a ((a, oe) :: pn)) (st :: suite) (ts a cls d)) (r : AsOk X n hds l) :
      AsOk X n (.ExceptHandler (some (.Name x np)) (some n) (st :: suite) pos :: hds) ((c, ts) :: l)
section
variable {X : Cx} {pins : List (Addr × Obj)} {σ : L2.St} {H : Hp} {a : Addr} {cls : Value} {d : Option Addr} {s : Shared} {Wout : WX} {D : Ends} {n : Str} {i : Nat}
theorem asks {x : Str} {c : Value} {np : Pos} {Q : Value → Shared → Prop} {E : Value → Shared → Prop} {a : Addr} {pn : List (Addr × Obj)} (hc : Names X x c) (S : Inv (X.suite a pn) [] σ H s) (q : Q c s) :
    wpAny (model X.prog X.w) (X.A.mark (some (.ref a))) (eval (.Name x np) X.env) Q E s := by
  obtain ⟨hg, hdb, hm | ⟨hm, hv, hn⟩⟩ := hc
  · exact ld_glob (X := X.suite a pn) S hg hm q hdb
  · exact ld_blt (X := X.suite a pn) S hg hm hv q hn hdb
theorem handled (hs : X.stack = X.env :: X.outer) (hf : X.env.frame = some X.env.locals) (hN : X.N.Nodup) (hi : X.N[i]? = some n) (hln : X.env.kindOf n = some .local) (tk : Takes X Wout) {hds : List ExceptHandler} {l : List (Value × (Addr → Value → Option Addr → TS))} (ok : AsOk X n hds l) :
    ∀ {s : Shared}, Down X pins σ H a cls d s → wAsMany X.K i Wout D l cls d σ H → wpAny (model X.prog X.w) X.A (handleBy (.ref a) X.env hds) (SP X pins D) X.xe s := by
  induction ok with
  | nil => exact fun L w => L.out hs hf tk w
  | @cons x c ts st suite np pos hds l hc hsu r ih =>
    intro s L w
    obtain ⟨b, hb, yes, no⟩ := w
    have J := L.inv
    obtain ⟨oe, at_, zc, dv, S⟩ := L.pinned hf
    have kind : PySem.W.Looks (model X.prog X.w) s.heap (typeOf (.ref a)) cls := fun A Q E s' k q => wpAny_typeOf_ref (k _ _ at_) (by rw [zc.1]; exact q)
    refine wpAny_handleBy_cons (codeAny_handlers_test (asks hc S ((PySem.W.exm_one (M := model X.prog X.w) J.kIn kind hb).here ?_))) (fun q => nomatch q)
    cases b with
    | false => exact ih L (no rfl)
    | true =>
      refine codeAny_handlers_suite_as (L.again fun s2 M => ?_)
      obtain ⟨oe2, at2, zc2, dv2, S2⟩ := M.pinned hf
      have na : H a = none := by obtain ⟨_, _, _, _, _, _, na, _⟩ := M; exact na
      refine store_ok (X := X.suite a ((a, oe2) :: (X.pn ++ pins))) (v := .ref a) S2 hN hi (.inl hln) rfl (fun s3 S3 => ?_) (.inr hln)
      have gone : ∀ {σ4 : L2.St} {H4 : Hp} {s4 : Shared} {R : Shared → Prop}, Inv (X.suite a ((a, oe2) :: (X.pn ++ pins))) [] σ4 H4 s4 → (∀ s5, Inv X pins (σ4.set i none) H4 s5 → R s5) →
          wpAny (model X.prog X.w) X.A (do bindName X.env n .none; unbindBehindTheSuite X.env n pos) (fun _ s5 => R s5) X.xe s4 := fun S4 k => gone_ok (S4.unsuite J.ok) hN hi hln k
      refine wpAny_mono ((hsu a oe2 cls d (X.pn ++ pins) zc2 dv2).run [] s3 _ H _ S3 (yes rfl a na)) (fun f s4 e => ?_) fun _ _ z => z.elim
      cases f with
      | ret u => obtain ⟨v, σ4, H4, S4, rv, q⟩ := e; exact gone S4 fun s5 J5 => ⟨v, _, _, J5, rv, q⟩
      | next => obtain ⟨σ4, H4, S4, q⟩ := e; exact gone S4 fun s5 J5 => ⟨_, _, J5, q⟩
      | brk => obtain ⟨σ4, H4, S4, q⟩ := e; exact gone S4 fun s5 J5 => ⟨_, _, J5, q⟩
      | cont => obtain ⟨σ4, H4, S4, q⟩ := e; exact gone S4 fun s5 J5 => ⟨_, _, J5, q⟩
/-- try: .. except C as n: .. except C' as n: .. -/
theorem ps_try_as_many {body : List Stmt} {h₀ : ExceptHandler} {hds : List ExceptHandler} {l : List (Value × (Addr → Value → Option Addr → TS))} {pos : Pos} {tb : WX → TS} (hs : X.stack = X.env :: X.outer) (hf : X.env.frame = some X.env.locals) (hN : X.N.Nodup) (hi : X.N[i]? = some n) (hln : X.env.kindOf n = some .local) (tk : Takes X Wout)
    (hb : ∀ (W : WX) (pn : List (Addr × Obj)) (xe : Value → Shared → Prop), Takes (X.tr pn xe) W → PassesOwn (model X.prog X.w) X.A X.env xe → PSs (X.tr pn xe) body (tb W)) (ok : AsOk X n (h₀ :: hds) l) :
    PS X (.Try body (h₀ :: hds) [] [] pos) (fun D σ H => tb (wAsMany X.K i Wout D l) D σ H) := by
  refine ⟨fun pins s σ H D I h => ?_⟩
  have xok := I.ok
  refine wpAny_Try_except ?_
  let xe : Value → Shared → Prop := fun e s₁ => wpAny (model X.prog X.w) X.A (noteFrame e X.env) (fun _ s₂ => wpAny (model X.prog X.w) X.A (setFlight e none) (fun _ s₃ => wpAny (model X.prog X.w) X.A (handleBy e X.env (h₀ :: hds)) (SP X pins D) X.xe s₃) X.xe s₂) X.xe s₁
  have tx : Takes (X.tr (X.pn ++ pins) xe) (wAsMany X.K i Wout D l) := fun u s2 x => by
    obtain ⟨a, B, sI, _, σ2, H2, cls, d, rfl, J, nb, up, sky, na, os, ag, w⟩ := x
    have sky2 : Sky B (X.env :: X.outer) a (Zc cls d) X.env.locals s2.heap := hs ▸ sky
    exact Sky.land Zc.steady (xok.frames.trans (congrArg some hs)) hf sky2 fun h3 fl up3 =>
      handled hs hf hN hi hln tk ok (s := { s2 with heap := h3 }) ⟨B, sI, J.ofTry xok, nb, up.trans up3, fl, na, os, ag⟩ w
  refine wpAny_mono ((hb _ (X.pn ++ pins) xe tx PassesOwn.looking).run [] s σ H D (I.toTry _) h) (fun f s1 e => ?_) fun _ _ z => z
  cases f with
  | next => obtain ⟨σ2, H2, J, q⟩ := e; exact wpAny_execs_nil ⟨σ2, H2, J.ofTry xok, q⟩
  | ret u => obtain ⟨v, σ2, H2, J, rv, q⟩ := e; exact ⟨v, σ2, H2, J.ofTry xok, rv, q⟩
  | brk => obtain ⟨σ2, H2, J, q⟩ := e; exact ⟨σ2, H2, J.ofTry xok, q⟩
  | cont => obtain ⟨σ2, H2, J, q⟩ := e; exact ⟨σ2, H2, J.ofTry xok, q⟩
end
end CL

set_option Elab.async false
set_option linter.all false
set_option maxRecDepth 100000
set_option maxHeartbeats 2000000
/-! Val: values of built-in kinds that stay what they are while numbers are drawn. -/
namespace CL
open PySem PySem.Spec PyProof.Rows L2

theorem strOk_text (s : String) : PyData.strOk (Str.ofString s) = true := by
  rw [Str.ofString_eq_toList]
  unfold PyData.strOk
  rw [Array.all_eq_true']
  intro n hn
  simp only [List.mem_toArray, List.mem_map] at hn
  obtain ⟨ch, _, rfl⟩ := hn
  have := ch.valid
  simp only [decide_eq_true_eq]
  unfold UInt32.isValidChar Nat.isValidChar at this
  show ch.val.toNat < _
  omega
theorem natAbs_log {i : Int} (h : i.natAbs ≤ 10 ^ 95) : i.natAbs.log2 < 1920 := by
  by_cases h0 : i.natAbs = 0
  · rw [h0]; decide
  · rw [Nat.log2_lt h0]
    exact Nat.lt_of_le_of_lt h (by decide +kernel)
theorem fit_int {i : Int} (h : i.natAbs ≤ 10 ^ 95) : Fit (.int i) := by
  have h1 := natAbs_log h
  refine ⟨by simp [PyData.showable, h1], fun z => by simp [PyData.hasDict] at z, by simp [PyData.depth], ?_, ?_⟩
  · have := int_text_len_1921 h1
    simp only [PyData.leavesShort, decide_eq_true_eq]
    show (Str.ofString (toString i)).length ≤ 1930
    omega
  · unfold PyData.weight
    split <;> omega
theorem Same.tq {K : PySem.W.Frag} {H H' : Hp} {a : Addr} {xs : List V} (s : Same H H') (h : SqT K H a xs) : SqT K H' a xs := by
  rcases h with (h | ⟨o, h⟩) | h
  · exact .inl (.inl (s a _ h))
  · exact .inl (.inr ⟨o, s a _ h⟩)
  · exact .inr h
mutual
theorem Dq.same {K : PySem.W.Frag} {H H' : Hp} (s : Same H H') : ∀ {v : V} {d : PyData}, Dq K H v d → Dq K H' v d
  | _, _, .non => .non
  | _, _, .bl b => .bl b
  | _, _, .int i => .int i
  | _, _, .str x => .str x
  | _, _, .lst h a => .lst (s.seq h) (DqA.same s a)
  | _, _, .tup h a => .tup (Same.tq s h) (DqA.same s a)
  | _, _, .dic h a b => .dic (s _ _ h) (DqA.same s a) (DqA.same s b)
theorem DqA.same {K : PySem.W.Frag} {H H' : Hp} (s : Same H H') : ∀ {v : List V} {d : List PyData}, DqA K H v d → DqA K H' v d
  | _, _, .nil => .nil
  | _, _, .cons a b => .cons (Dq.same s a) (DqA.same s b)
end
theorem BK.same {K : PySem.W.Frag} {H H' : Hp} {v : V} {k : BT} (s : Same H H') (h : BK K H v k) : BK K H' v k := by
  cases h with
  | non => exact .non
  | bl b => exact .bl b
  | int i => exact .int i
  | str x => exact .str x
  | lst h => exact .lst (s.seq h)
  | tup h => exact .tup (Same.tq s h)
  | dic h => exact .dic (s _ _ h)
/-- all but what M tells and the tables of code is as it was -/
def BN (M : Addr → Prop) (H H' : Hp) : Prop := ∀ b o, ¬ M b → H b = some o → (∀ ps, o ≠ .tbl ps) → H' b = some o
theorem BN.refl {M : Addr → Prop} {H : Hp} : BN M H H := fun _ _ _ h _ => h
theorem BN.trans {M : Addr → Prop} {H H1 H2 : Hp} (a : BN M H H1) (b : BN M H1 H2) : BN M H H2 := fun x o n h t => b x o n (a x o n h t) t
theorem BN.of {M : Addr → Prop} {H H' : Hp} (s : Same H H') : BN M H H' := fun b o _ h _ => s b o h
theorem BN.but {M : Addr → Prop} {p : Addr} {H H' : Hp} (m : M p) (s : But p H H') : BN M H H' := fun b o n h _ => s.keep b o (fun e => n (e ▸ m)) h
theorem BN.ext {M : Addr → Prop} {H H' : Hp} (s : LamX.ExtN H H') : BN M H H' := fun b o _ h t => s b o h t
theorem BN.upd {M : Addr → Prop} {p : Addr} {H : Hp} {o : HO} (m : M p) : BN M H (upd H p o) := fun b u n h _ => by
  have nb : b ≠ p := fun e => n (by rw [e]; exact m)
  rw [upd_ne nb]; exact h
/-- what may be altered stands already -/
def MOk (M : Addr → Prop) (H : Hp) : Prop := ∀ b, M b → H b ≠ none
theorem MOk.same {M : Addr → Prop} {H H' : Hp} (h : MOk M H) (s : Same H H') : MOk M H' := fun b m z => by
  cases e : H b with
  | none => exact h b m e
  | some o => rw [s b o e] at z; exact nomatch z
theorem MOk.new {M : Addr → Prop} {H : Hp} {a : Addr} (h : MOk M H) (n : H a = none) : ¬ M a := fun m => h a m n
theorem PenB.ext {p : Addr} {H H' : Hp} {k : Nat} (h : PenB H p k) (s : LamX.ExtN H H') : PenB H' p k := by
  obtain ⟨c, ns, b, r, P, q⟩ := h
  exact ⟨c, ns, b, r, ⟨s _ _ P.dict (fun _ z => nomatch z), s _ _ P.cells (fun _ z => nomatch z), P.len, P.b0, P.r0⟩, q⟩
theorem tabs_but {T : List (Addr × Str)} {p : Addr} {H H' : Hp} {k : Nat} (h : LamX.Tabs T H) (P : PenB H p k) (s : But p H H') : LamX.Tabs T H' := fun q hq => by
  obtain ⟨ps, h1, h2, h3⟩ := h q hq
  have np : ∀ {a : Addr} {o : HO}, H a = some o → (∀ kvs, o ≠ .dK kvs) → a ≠ p := fun {a o} e n => P.ne e n
  refine ⟨ps, s.keep _ _ (np h1 fun _ z => nomatch z) h1, h2, fun pos cv hc => ?_⟩
  obtain ⟨c, e1, e2⟩ := h3 pos cv hc
  exact ⟨c, e1, s.keep _ _ (np e2 fun _ z => nomatch z) e2⟩
theorem tabs_same {T : List (Addr × Str)} {H H' : Hp} (h : LamX.Tabs T H) (s : Same H H') : LamX.Tabs T H' := h.ext s
/-- v stands for the datum d, whatever the pen at p does -/
def Sv (K : PySem.W.Frag) (M : Addr → Prop) (H : Hp) (v : V) (d : PyData) : Prop := ∀ H', BN M H H' → Dq K H' v d
theorem Sv.bn {K : PySem.W.Frag} {M : Addr → Prop} {H H1 : Hp} {v : V} {d : PyData} (h : Sv K M H v d) (b : BN M H H1) : Sv K M H1 v d := fun H' c => h H' (b.trans c)
theorem Sv.but {K : PySem.W.Frag} {M : Addr → Prop} {p : Addr} {H H1 : Hp} {v : V} {d : PyData} (h : Sv K M H v d) (m : M p) (b : But p H H1) : Sv K M H1 v d := h.bn (.but m b)
theorem Sv.now {K : PySem.W.Frag} {M : Addr → Prop} {H : Hp} {v : V} {d : PyData} (h : Sv K M H v d) : Dq K H v d := h H BN.refl
def SvA (K : PySem.W.Frag) (M : Addr → Prop) (H : Hp) (vs : List V) (ds : List PyData) : Prop := ∀ H', BN M H H' → DqA K H' vs ds
theorem SvA.nil {K : PySem.W.Frag} {M : Addr → Prop} {H : Hp} : SvA K M H [] [] := fun _ _ => .nil
theorem SvA.cons {K : PySem.W.Frag} {M : Addr → Prop} {H : Hp} {v : V} {vs : List V} {d : PyData} {ds : List PyData} (a : Sv K M H v d) (b : SvA K M H vs ds) : SvA K M H (v :: vs) (d :: ds) := fun H' c => .cons (a H' c) (b H' c)
theorem SvA.bn {K : PySem.W.Frag} {M : Addr → Prop} {H H1 : Hp} {v : List V} {d : List PyData} (h : SvA K M H v d) (b : BN M H H1) : SvA K M H1 v d := fun H' c => h H' (b.trans c)
section
variable {K : PySem.W.Frag} {M : Addr → Prop} {a : Addr} {H : Hp} {vs : List V} {ds : List PyData}
theorem Sv.non : Sv K M H .non .none := fun _ _ => .non
theorem Sv.bl (b : Bool) : Sv K M H (.bl b) (.bool b) := fun _ _ => .bl b
theorem Sv.int (i : Int) : Sv K M H (.int i) (.int i) := fun _ _ => .int i
theorem Sv.str (x : Str) : Sv K M H (.str x) (.str x) := fun _ _ => .str x
theorem Sv.lst (P : MOk M H) (na : H a = none) (h : SvA K M H vs ds) : Sv K M (upd H a (.lst vs)) (.ref a) (.list ds) := fun H' b => by
  have np : ¬ M a := P.new na
  exact .lst (SqL.of (b a _ np upd_same (fun _ z => nomatch z))) (h H' ((BN.of (same_new na)).trans b))
theorem Sv.tup (P : MOk M H) (na : H a = none) (h : SvA K M H vs ds) : Sv K M (upd H a (.tup vs)) (.ref a) (.tuple ds) := fun H' b => by
  have np : ¬ M a := P.new na
  exact .tup (.inl (.inl (b a _ np upd_same (fun _ z => nomatch z)))) (h H' ((BN.of (same_new na)).trans b))
theorem Sv.dic {kvs : List (Key × V)} {ks : List PyData} (P : MOk M H) (na : H a = none) (h1 : SvA K M H (kvs.map fun p => kV p.1) ks) (h2 : SvA K M H (kvs.map (·.2)) ds) {H1 : Hp} (e : H1 a = some (.dK kvs)) (b1 : BN M H H1) : Sv K M H1 (.ref a) (.dict (ks.zip ds)) := fun H' b => by
  have np : ¬ M a := P.new na
  exact .dic (b a _ np e (fun _ z => nomatch z)) (h1 H' (b1.trans b)) (h2 H' (b1.trans b))
end
/-- a value that may be told -/
def OkV (K : PySem.W.Frag) (M : Addr → Prop) (H : Hp) (v : V) : Prop := ∃ d, Sv K M H v d ∧ Fit d ∧ PyData.strOk d.shown = true
theorem OkV.bn {K : PySem.W.Frag} {M : Addr → Prop} {H H1 : Hp} {v : V} (h : OkV K M H v) (b : BN M H H1) : OkV K M H1 v := by
  obtain ⟨d, s, r⟩ := h
  exact ⟨d, s.bn b, r⟩
theorem OkV.but {K : PySem.W.Frag} {M : Addr → Prop} {p : Addr} {H H1 : Hp} {v : V} (h : OkV K M H v) (m : M p) (b : But p H H1) : OkV K M H1 v := h.bn (.but m b)
theorem OkV.bk {K : PySem.W.Frag} {M : Addr → Prop} {H : Hp} {v : V} (h : OkV K M H v) : ∃ k, BK K H v k := by
  obtain ⟨d, s, r⟩ := h
  exact s.now.bk
theorem OkV.int {K : PySem.W.Frag} {M : Addr → Prop} {H : Hp} {i : Int} (h : i.natAbs ≤ 10 ^ 95) : OkV K M H (.int i) := ⟨_, .int i, fit_int h, strOk_text _⟩
/-- by a look at the datum -/
def fitB (d : PyData) : Bool := d.showable && ((!d.hasDict || listFree d) && (decide (d.depth ≤ 60) && (d.leavesShort 1930 && (decide (d.weight ≤ 8000) && PyData.strOk d.shown))))
theorem fitB_ok {d : PyData} (h : fitB d = true) : Fit d ∧ PyData.strOk d.shown = true := by
  simp only [fitB, Bool.and_eq_true, decide_eq_true_eq] at h
  obtain ⟨h1, h2, h3, h4, h5, h6⟩ := h
  refine ⟨⟨h1, fun z => ?_, h3, h4, h5⟩, h6⟩
  rw [z] at h2
  exact h2
theorem OkV.of {K : PySem.W.Frag} {M : Addr → Prop} {H : Hp} {v : V} {d : PyData} (s : Sv K M H v d) (h : fitB d = true := by decide +kernel) : OkV K M H v := ⟨d, s, fitB_ok h⟩
def AllV (K : PySem.W.Frag) (M : Addr → Prop) (H : Hp) (xs : List V) : Prop := ∀ v ∈ xs, OkV K M H v
section
variable {K : PySem.W.Frag} {M : Addr → Prop} {H H1 : Hp} {v : V} {xs ys : List V}
theorem AllV.nil : AllV K M H [] := fun _ h => nomatch h
theorem AllV.cons (a : OkV K M H v) (b : AllV K M H xs) : AllV K M H (v :: xs) := fun w h => by
  rcases List.mem_cons.mp h with rfl | h
  · exact a
  · exact b w h
theorem AllV.app (a : AllV K M H xs) (b : AllV K M H ys) : AllV K M H (xs ++ ys) := fun w h => (List.mem_append.mp h).elim (a w) (b w)
theorem AllV.bn (a : AllV K M H xs) (b : BN M H H1) : AllV K M H1 xs := fun w h => (a w h).bn b
theorem AllV.but {p : Addr} (a : AllV K M H xs) (m : M p) (b : But p H H1) : AllV K M H1 xs := fun w h => (a w h).but m b
end
end CL

set_option Elab.async false
set_option linter.all false
set_option maxRecDepth 100000
set_option maxHeartbeats 2000000
/-! LamC: defs that hand a lambda to another def: the def's code object is told. -/
namespace CL
open PySem PySem.Spec PyProof.Rows L2 LamX
structure FunC (K : PySem.W.Frag) (mg : Str → Option Value) (x : Str) (st : Stmt) (ps : List Str) (c : Addr) : Prop where
  ex : ∃ (f : Addr) (fd : FuncData) (oc : Value) (od : Option Addr) (kV doc pm : Value) (an : Option Addr) (ct : Value) (osl : Array (Option Value)),
    fd = PySem.W.fnOf x x (defArgs st) (defBody st) (defScope st) .none kV doc pm an (.ref c) ct ∧ K.lookup f = some ⟨oc, od, .func fd, osl⟩ ∧ PySem.W.codeIn K (.ref c) x = true ∧ mg x = some (.ref f) ∧ PySem.W.keepIn K (.ref f) = true ∧ Binds K fd ps []
/-- as DefG, the function object told -/
structure DefGL (P : Program) (w : World) (K : PySem.W.Frag) (mg : Str → Option Value) (base : Heap) (CX : CXT) (k : Nat) (x : Str) (ps : List Str) (sp : Sp) : Prop where
  ex : ∃ f fd, FnG P w K mg base CX k f fd ps sp ∧ mg x = some (.ref f) ∧ (∃ oc od osl, K.lookup f = some ⟨oc, od, .func fd, osl⟩) ∧ Binds K fd ps []
section
variable {P : Program} {w : World} {K : PySem.W.Frag} {mg : Str → Option Value} {base : Heap} {x : Str} {st : Stmt} {N ps : List Str} {sp : Sp} {k j : Nat} {c : Addr}
theorem FunC.okG (A : FunC K mg x st ps c) (S : FnScope N ps (defScope st)) (len : ∀ vs H Q E, sp vs H Q E → vs.length = ps.length)
    (hbody : ∀ (f : Addr) (A : Around) (outer : List Env) (s : Shared) (H : Hp) (vs : List V) (Q : VK) (E : XK), Gd A → Room k (A.deeper (envOfC x (defScope st) s.heap.objs.size f (.ref c))) → sp vs H Q E →
      ∃ t, PSs (cxOf CX0 P w K mg base N x (defScope st) f (.ref c) A outer s H E).nox (defBody st) t ∧ t { nx := fun _ H' => Q .non H', rt := Q } (start N vs) H) : DefG P w K mg base CX0 (k + 1) x ps sp := by
  obtain ⟨f, fd, oc, od, kV, doc, pm, an, ct, osl, rfl, lk, hcd, g, kp, b⟩ := A.ex
  refine ⟨f, _, fnG_of lk hcd S len fun A outer s H vs Q E hG hr hsp => ?_, g, kp, b⟩
  obtain ⟨t, h, q⟩ := hbody f A outer s H vs Q E hG hr hsp
  exact ⟨t, h.nox, q⟩
theorem FunC.okGL (A : FunC K mg x st ps c) (S : FnScope N ps (defScope st)) (len : ∀ vs H Q E, sp vs H Q E → vs.length = ps.length)
    (hbody : ∀ (f : Addr) (A : Around) (outer : List Env) (s : Shared) (H : Hp) (vs : List V) (Q : VK) (E : XK), Gd A → Room k (A.deeper (envOfC x (defScope st) s.heap.objs.size f (.ref c))) → sp vs H Q E →
      ∃ t, PSs (cxOf CX0 P w K mg base N x (defScope st) f (.ref c) A outer s H E).nox (defBody st) t ∧ t { nx := fun _ H' => Q .non H', rt := Q } (start N vs) H) : DefGL P w K mg base CX0 (k + 1) x ps sp := by
  obtain ⟨f, fd, oc, od, kV, doc, pm, an, ct, osl, rfl, lk, hcd, g, kp, b⟩ := A.ex
  refine ⟨f, _, fnG_of lk hcd S len fun A outer s H vs Q E hG hr hsp => ?_, g, ⟨_, _, _, lk⟩, b⟩
  obtain ⟨t, h, q⟩ := hbody f A outer s H vs Q E hG hr hsp
  exact ⟨t, h.nox, q⟩
end
section
variable {X : Cx}
/-- x(lambda: body), x a def of the text -/
theorem pe_lam {T : List (Addr × Str)} {TT : (XK → Hp → VK → Prop) → Hp → VK → Prop} {x a : Str} {st : Stmt} {c P : Addr} {k : Nat} {Ng : List Str} {params : Arguments} {body : Expr} {scope : Scope} {t : XK → TE} {p lpos pos : Pos}
    (F : FunAt X.K X.mg x st [a]) (hG : ∀ g cdg, GivesTo X Ng x (defScope st) g cdg (defBody st) a (X.env.qual ++ "<lambda>") TT) (Sg : FnScope Ng [a] (defScope st)) (TB : TabB X.base X.mg c P) (hcode : X.env.code = .ref c) (hr : Room (k + 2) X.A)
    (hmT : (P, X.env.qual ++ "<lambda>") ∈ T) (hu : ∀ p ∈ T, p.1 = P → p.2 = X.env.qual ++ "<lambda>") (L : LamS X.env.scope scope)
    (hbody : ∀ (A : Around) (outer : List Env) (s : Shared) (H : Hp) (E : XK) (f c' : Addr), Room k (A.deeper (lamEnv X scope s.heap.objs.size f c')) → PE (lamCx X A outer s H E scope f c') body (t E))
    (hNg : Ng[0]? = some a := by rfl) (hva : Vis (defScope st) a := by first | exact Or.inl rfl | exact Or.inr (Or.inl rfl) | exact Or.inr (Or.inr rfl)) (hg : Gl X x := by rfl) (hdef : defaultsOf params X.env = ([], []) := by rfl)
    (hbind : ∀ (q : Str) (cl : List (Str × Addr)) (pm cv ctv : Value), bindArgs (PySem.W.kla_fn "<lambda>" q params body scope cl pm cv ctv) ⟨[], []⟩ = pure [] := by intros; rfl)
    (hdb : (x == ("__debug__" : Str)) = false := by decide) (hd : (a == ("__debug__" : Str)) = false := by decide) (hcd : (a == ("__classdict__" : Str)) = false := by decide) :
    PE X (.Call (.Name x p) [.Lambda params body scope lpos] [] pos) (tLam T TT t) := by
  obtain ⟨f, fd, F, hm, hb⟩ := F.ex
  obtain ⟨oc, od, kV, doc, pm, an, cdv, ct, osl, rfl, lk, hcg⟩ := F.ex
  exact pe_lamcall hg hm F.kp lk hcg hb Sg hNg hva (hG f cdv) TB hcode hmT hu hr L hdef hbind hbody hdb hd hcd
/-- what the lambda's body calls may raise -/
theorem lam_passes {A : Around} {outer : List Env} {s : Shared} {H : Hp} {E : XK} {scope : Scope} {f c' : Addr} : Passes (L2.CX X.prog X.w) (lamCx X A outer s H E scope f c') E := passes_call (L2.takes_of (X := lamCx X A outer s H E scope f c') rfl rfl rfl rfl) (fun _ _ _ _ h => h)
end
end CL

set_option Elab.async false
set_option linter.all false
set_option maxRecDepth 100000
set_option maxHeartbeats 2000000
/-! Tx: sets of texts: add, sorted. -/
namespace TX
open PySem PySem.Spec PyProof.Rows L2 PySem.Froz

/-- one text more, if it is none of them -/
def tIns (k : Str) (l : List Str) : List Str := if k ∈ l then l else k :: l
theorem tIns_nodup {k : Str} {l : List Str} (h : l.Nodup) : (tIns k l).Nodup := by
  unfold tIns
  by_cases c : k ∈ l
  · rw [if_pos c]; exact h
  · rw [if_neg c]; exact List.nodup_cons.mpr ⟨c, h⟩
theorem tIns_mem {k x : Str} {l : List Str} : x ∈ tIns k l ↔ x = k ∨ x ∈ l := by
  unfold tIns
  by_cases c : k ∈ l
  · rw [if_pos c]; exact ⟨Or.inr, fun h => h.elim (fun e => e ▸ c) id⟩
  · rw [if_neg c]; exact List.mem_cons
theorem tIns_len (k : Str) (l : List Str) : (tIns k l).length ≤ l.length + 1 := by
  unfold tIns
  split
  · exact Nat.le_succ _
  · exact Nat.le_refl _
/-- all texts of a list, one behind another -/
def tAll : List Str → List Str → List Str
  | [], l => l
  | k :: r, l => tAll r (tIns k l)
theorem tAll_nodup : ∀ (xs : List Str) {l : List Str}, l.Nodup → (tAll xs l).Nodup
  | [], _, h => h
  | _ :: r, _, h => tAll_nodup r (tIns_nodup h)
theorem tAll_mem {x : Str} : ∀ (xs : List Str) {l : List Str}, x ∈ tAll xs l ↔ x ∈ xs ∨ x ∈ l
  | [], _ => by simp [tAll]
  | k :: r, l => by
    show x ∈ tAll r (tIns k l) ↔ _
    rw [tAll_mem r, tIns_mem, List.mem_cons]
    constructor
    · rintro (h | h | h)
      · exact .inl (.inr h)
      · exact .inl (.inl h)
      · exact .inr h
    · rintro ((h | h) | h)
      · exact .inr (.inl h)
      · exact .inl h
      · exact .inr (.inr h)
theorem tAll_len : ∀ (xs l : List Str), (tAll xs l).length ≤ l.length + xs.length
  | [], _ => Nat.le_refl _
  | k :: r, l => by
    have a := tAll_len r (tIns k l)
    have b := tIns_len k l
    show (tAll r (tIns k l)).length ≤ l.length + (r.length + 1)
    omega

theorem perm_by_mem {l m : List Str} (hd : l.Nodup) : (∀ x ∈ l, x ∈ m) → m.length = l.length → m.Perm l := by
  induction l generalizing m with
  | nil => intro _ e; rw [List.length_eq_zero_iff.mp e]
  | cons x r ih =>
    intro hm e
    obtain ⟨hx, hr⟩ := List.nodup_cons.mp hd
    have p := List.perm_cons_erase (hm x List.mem_cons_self)
    refine p.trans (List.Perm.cons x (ih hr (fun y hy => ?_) ?_))
    · refine (List.mem_erase_of_ne fun z => ?_).mpr (hm y (List.mem_cons_of_mem _ hy))
      exact hx (z ▸ hy)
    · have z := p.length_eq
      simp only [List.length_cons] at z e
      omega

section
variable {P : Program} {w : World}
theorem tail_ris {ep : Nat} {es : Array (Int × Value)} {t : SetTable} {b : Bool} (r : Ris t.place.toList) : Ris (tailTx ep es t b).2.2.place.toList := by
  unfold tailTx
  split
  · exact relayAll_ris ..
  · exact r
theorem tail_led {ep : Nat} {es : Array (Int × Value)} {t : SetTable} {b : Bool} : (tailTx ep es t b).2.2.led = t.led := by
  unfold tailTx
  split
  · exact relayAll_led ..
  · rfl
theorem grow_ris {i : Int} {v : Value} {D : SD} (r : Ris D.2.2.place.toList) : Ris (addTx i v D).2.2.place.toList := by
  have z := layNew_ris D.2.2 D.1 i v r
  refine tail_ris ?_
  split <;> exact z
theorem grow_led {i : Int} {v : Value} {D : SD} : (addTx i v D).2.2.led = D.2.2.led := by
  have z := layNew_led D.2.2 D.1 i v
  refine tail_led.trans ?_
  split <;> exact z

/-- the set of the texts l, each once, at a -/
def TxAt (P : Program) (w : World) (h : Heap) (a : Addr) (l : List Str) : Prop := ∃ D : SD, h.get? a = some (sObj "set" D) ∧ TxOk P w D l ∧ l.Nodup ∧
  Ris D.2.2.place.toList ∧ (w.params.followText "set-order" = true ∨ D.2.2.led = true) ∧ l.length < scanBound
theorem TxAt.keep {h h' : Heap} {a : Addr} {l : List Str} (R : TxAt P w h a l) (k : ∀ o, h.get? a = some o → h'.get? a = some o) : TxAt P w h' a l :=
  let ⟨D, e, r⟩ := R
  ⟨D, k _ e, r⟩
def noTx (w : World) : Obj := { cls := .type "set", dict := none, data := .set #[] 0 (.fresh 0 0 (!w.params.followText "set-order")) }
theorem TxAt.fresh {h : Heap} {a : Addr} (e : h.get? a = some (noTx w)) : TxAt P w h a [] := by
  refine ⟨(#[], 0, .fresh 0 0 (!w.params.followText "set-order")), e, TxOk.nil rfl, List.nodup_nil, List.Pairwise.nil, ?_, by decide⟩
  show _ ∨ (!w.params.followText "set-order") = true
  cases w.params.followText "set-order"
  · exact .inr rfl
  · exact .inl rfl

variable {A : Around} {E : Value → Shared → Prop} {s : Shared} {a : Addr} {l : List Str} {k : Str} {u : Tok}
theorem found_x {D : SD} {Q : Bool → Shared → Prop} (ho : s.heap.get? a = some (sObj "set" D)) (F : TxOk P w D l) (hk : k ∈ l) (hb : l.length < scanBound)
    (h : Q false s) : wpAny (model P w) A (setAddHashed a (.str k u) (hashStr w k)) Q E s := by
  obtain ⟨es, ep, t⟩ := D
  have hd : (sObj "set" (es, ep, t)).data = .set es ep t := rfl
  have fit : t.fits es.size = true := F.fit
  have els : ElemsOf (strKind P w) es.toList := F.el
  have sz : es.size = l.length := F.sz
  have own : (strKind P w).is k (.str k u) = true := is_str k u
  unfold setAddHashed setAddHashedIn
  refine wpAny_holding (wpAny_bind (wpAny_setState_of ho hd fit ?_))
  dsimp only
  rw [byScan_of rfl (by omega) els]
  simp only [↓reduceIte]
  unfold setAddByScan
  refine wpAny_bind (wpAny_bind (wpAny_rule (wpAny_bind (wpAny_setScan_of (knd := strKind P w) (k := k) own ho hd fit els ?_))))
  cases hr : List.findIdx? (fun e => (strKind P w).is k e.2) es.toList with
  | some j => exact wpAny_pure (wpAny_pure h)
  | none =>
    obtain ⟨e, he, q⟩ := (F.mem k).mp hk
    have c := List.findIdx?_eq_none_iff.mp hr e he
    rw [q] at c
    cases c
theorem put_x {Q : Bool → Shared → Prop} (R : TxAt P w s.heap a l) (room : l.length + 1 < scanBound)
    (h : ∀ b h', Heap.SameBut a s.heap h' → TxAt P w h' a (tIns k l) → Q b { s with heap := h' }) : wpAny (model P w) A (setAddHashed a (.str k u) (hashStr w k)) Q E s := by
  obtain ⟨D, ho, F, nd, ris, led, few⟩ := R
  by_cases c : k ∈ l
  · refine found_x ho F c few ?_
    refine h false s.heap (Heap.SameBut.refl a s.heap) ?_
    rw [tIns, if_pos c]
    exact ⟨D, ho, F, nd, ris, led, few⟩
  · refine add_x ho F c room (h true _ (Heap.SameBut.update s.heap a _) ?_)
    rw [tIns, if_neg c]
    exact ⟨_, get_upd _ ho rfl, add_ok u F, List.nodup_cons.mpr ⟨c, nd⟩, grow_ris ris, led.imp id fun z => grow_led.trans z, room⟩
/-- found.add(k) -/
theorem call_put {Q : Value → Shared → Prop} (R : TxAt P w s.heap a l) (room : l.length + 1 < scanBound)
    (h : ∀ h', Heap.SameBut a s.heap h' → TxAt P w h' a (tIns k l) → Q .none { s with heap := h', toks := s.toks + 1 }) :
    wpAny (model P w) A (call (.builtin "set.add") [.ref a, .str k u]) Q E s := by
  have R' := R
  obtain ⟨D, ho, _⟩ := R'
  have T : s.TypeIs (.ref a) "set" := ⟨_, ho, rfl⟩
  refine wpAny_call_entry F.slot_set_add T F.entry_set_add ?_ (F.args_set_add_2 _ _)
  unfold Builtin.«set.add» Builtin.Frozenset.oneOther
  simp only [List.isEmpty_nil, bind_assoc]
  unfold Builtin.Frozenset.addrOf setAdd
  refine wpAny_bind (wpAny_pure ?_)
  try dsimp only
  refine wpAny_bind (wpAny_pure ?_)
  try dsimp only
  refine wpAny_bind (wpAny_holding (wpAny_bind ((strKind P w).pyHash (k := k) (is_str k u) ?_)))
  refine put_x (s := { s with toks := s.toks + 1 }) R room fun b h' sb r => ?_
  show wpAny _ _ (ret Value.none) _ _ _
  exact wpAny_pure ⟨_, rfl, h h' sb r⟩

/-! ### sorted -/
def txOf : Value → Str
  | .str x _ => x
  | _ => Str.empty
theorem strs_by : ∀ (vs : List Value), (∀ v ∈ vs, ∃ x t, v = Value.str x t) → StrsAre vs (vs.map txOf)
  | [], _ => .nil
  | v :: r, h => by
    obtain ⟨x, t, e⟩ := h v List.mem_cons_self
    subst e
    exact .cons _ _ (strs_by r fun y hy => h y (List.mem_cons_of_mem _ hy))
theorem TxOk.strs {D : SD} (F : TxOk P w D l) : ∀ e ∈ D.1.toList, ∃ x t, e.2 = Value.str x t := fun e he => by
  obtain ⟨⟨x, q, _⟩, _⟩ := F.el e he
  obtain ⟨t, z⟩ := Value.isStrOf_shape (x := x) (v := e.2) q
  exact ⟨x, t, z⟩
theorem TxOk.keys {D : SD} (F : TxOk P w D l) (nd : l.Nodup) : ((D.1.toList.map (·.2)).map txOf).Perm l := by
  refine perm_by_mem nd (fun x hx => ?_) ?_
  · obtain ⟨e, he, q⟩ := (F.mem x).mp hx
    obtain ⟨t, z⟩ := Value.isStrOf_shape (x := x) (v := e.2) q
    refine List.mem_map.mpr ⟨e.2, List.mem_map.mpr ⟨e, he, rfl⟩, ?_⟩
    rw [z] <;> rfl
  · rw [List.length_map, List.length_map, Array.length_toList]
    exact F.sz
end

/-- the set of texts as a tracked thing -/
def TxO (P : Program) (w : World) (a : Addr) (l : List Str) : HO := .ext fun h => TxAt P w h a l
theorem txO_new {w : World} {P : Program} {H : Hp} {h : Heap} {a : Addr} {l : List Str} (R : TxAt P w h a l) : ObjOk P w H h a (TxO P w a l) := by
  have ⟨_, ho, _⟩ := R
  exact ⟨R, ⟨_, ho⟩, fun h1 h2 p k => TxAt.keep p k⟩
section
variable {X : Cx} {pins : List (Addr × Obj)} {σ : L2.St} {H : Hp} {s : Shared} {E : Value → Shared → Prop} {a : Addr} {l : List Str}
theorem txO_get (I : Inv X pins σ H s) (ha : H a = some (TxO X.prog X.w a l)) : TxAt X.prog X.w s.heap a l := (I.hok a _ ha).1
theorem addT_ok {k : Str} {u : Tok} {Q : Value → Shared → Prop} (I : Inv X pins σ H s) (ha : H a = some (TxO X.prog X.w a l)) (room : l.length + 1 < scanBound)
    (h : ∀ s', Inv X pins σ (upd H a (TxO X.prog X.w a (tIns k l))) s' → Q .none s') : wpAny (model X.prog X.w) X.A (call (.builtin "set.add") [.ref a, .str k u]) Q E s := by
  refine call_put (txO_get I ha) room fun h' sb new => ?_
  have he : ∃ o, h'.get? a = some o := by
    have ⟨_, ho, _⟩ := new
    exact ⟨_, ho⟩
  exact h _ (I.write (e := a) (t' := s.toks + 1) (by rw [ha]; trivial) (.inl rfl) (fun b o hb ho => (sb.2 b hb).trans ho) he (txO_new new))
/-- sorted(a set of texts), fewer than 64 -/
def rSortTx (P : Program) (w : World) : List V → Hp → VK → Prop := fun xs H Q => ∃ (a : Addr) (l : List Str), xs = [.ref a] ∧ H a = some (TxO P w a l) ∧ l.length < 64 ∧
  ∀ ys p, ys.Perm l → sortedS ys = true → H p = none → Q (.ref p) (upd H p (.lst (ys.map V.str)))
theorem cr_sortTx (hc : X.calm = true) : CallR X (.builtin "sorted") (rSortTx X.prog X.w) := by
  intro pins s σ H xs us Q I r h
  obtain ⟨a, l, rfl, ha, h64, q⟩ := h
  rw [Vals.ref1 r]
  obtain ⟨D, ho, F, nd, ris, led, few⟩ := txO_get I ha
  have sz : D.1.size = l.length := F.sz
  refine Calls.call_function_entry kind_sorted plain_sorted entry_sorted (args_sorted1 _) ?_
  unfold Builtin.«sorted»
  refine wpAny_bind (m := checkCount "sorted" 1 1 _) (wpAny_pure ?_)
  refine wpAny_bind (collect_set (A := X.A.in1) (I.ok.hd hc) (es := D.1) (ep := D.2.1) (t := D.2.2) ⟨_, ho, rfl, rfl⟩ F.fit (by omega) ris led fun s1 vs k1 hz g1 o1 pm => ?_)
  have all : ∀ v ∈ vs, ∃ x t, v = Value.str x t := fun v hv => by
    obtain ⟨e, he, z⟩ := List.mem_map.mp (pm.mem_iff.mp hv)
    rw [← z]
    exact TxOk.strs F e he
  have hS := strs_by vs all
  have pk : (vs.map txOf).Perm l := (pm.map txOf).trans (TxOk.keys F nd)
  have vl : vs.length < 64 := by
    have z := pk.length_eq
    rw [List.length_map] at z
    omega
  refine wpAny_bind (wpAny_newList ?_ (by rw [sizeLine_eq]; omega))
  have hoL : (s1.heap.push (seqObj "list" vs.toArray 0)).get? s1.heap.objs.size = some (seqObj "list" vs.toArray 0) := Heap.get?_push_size _ rfl
  refine wpAny_bind (wpAny_holding (wpAny_call_entry slot_list_sort ⟨_, hoL, rfl⟩ entry_list_sort
    (list_sort_treeK strKind_oneLt (s := { s1 with heap := s1.heap.push (seqObj "list" vs.toArray 0) }) hoL hS.keysOf (fun v₁ v₂ rest e => keyKind_strs (by rw [← e]; exact hS)) vl fun st' hp hs => ⟨_, rfl, ?_⟩)
    (args_list_sort _)))
  obtain ⟨ys, y1, y2, y3⟩ := sorted_out_str hS hp hs
  obtain ⟨c, hcell⟩ := sortedHeap_at (vs := vs) (out := (arrOf st').map (·.2)) hoL
  have yl : (ys.map V.str).length ≤ sizeLine := by
    rw [List.length_map, y2.length_eq, List.length_map]
    exact Nat.le_trans (Nat.le_of_lt vl) (by decide)
  have old : ∀ b o, s.heap.get? b = some o → (sortedHeap (s1.heap.push (seqObj "list" vs.toArray 0)) s1.heap.objs.size vs ((arrOf st').map (·.2))).get? b = some o := fun b o e => by
    have lt := Heap.lt_size (k1 b o e)
    rw [sortedHeap_old (Nat.ne_of_lt lt) (by rw [size_push']; exact Nat.lt_succ_of_lt lt)]
    exact Heap.get?_push_of_some _ (k1 b o e)
  have hn : H s1.heap.objs.size = none := I.hok.fresh hz
  have J : Inv X pins σ (upd H s1.heap.objs.size (.lst (ys.map V.str))) { s1 with heap := sortedHeap (s1.heap.push (seqObj "list" vs.toArray 0)) s1.heap.objs.size vs ((arrOf st').map (·.2)) } :=
    I.call' (ch := []) o1 (Un.laid old hz hn) (I.hok.laid old hz ⟨yl, ((arrOf st').map (·.2)).toList, c, vals_of_strs y1, by rw [Array.toArray_toList]; exact hcell⟩) (by rw [g1]; exact I.bare) (fun _ z => nomatch z)
  exact wpAny_pure ⟨_, rfl, .ref _, _, J, rfl, q ys _ (y2.trans pk) y3 hn⟩
end
end TX

set_option Elab.async false
set_option linter.all false
set_option maxRecDepth 100000
set_option maxHeartbeats 3200000
/-! Tx2: set(a list of texts). -/
namespace TX
open PySem PySem.Spec PyProof.Rows L2 PySem.Froz

theorem tAll_snoc {z : Str} : ∀ (xs : List Str) {l : List Str}, tAll (xs ++ [z]) l = tIns z (tAll xs l)
  | [], _ => rfl
  | _ :: r, _ => tAll_snoc r
theorem tAll_take {xs : List Str} {i : Nat} {z : Str} (e : xs[i]? = some z) : tAll (xs.take (i + 1)) [] = tIns z (tAll (xs.take i) []) := by
  rw [List.take_add_one, e]
  exact tAll_snoc _
section
variable {P : Program} {w : World} {A : Around} {E : Value → Shared → Prop} {s : Shared}
theorem fill_tx {I : Addr} {fp wr : List Addr} {G : Array GenState → Array GenState → Prop} {n : Nat} {Pv : Nat → Value → Prop} {St : Nat → Shared → Prop} {R : Result → Shared → Prop} (W : WalksS P w A.in1 I fp wr G n Pv St)
    (D : Addr) (hD : D ∉ fp) (xs : List Str) (hn : n = xs.length) (hb : xs.length + 1 < scanBound) (hv : ∀ i v, Pv i v → ∃ k t, xs[i]? = some k ∧ v = .str k t) :
    ∀ (m i : Nat) (s : Shared), n - i = m → i ≤ n → St i s → TxAt P w s.heap D (tAll (xs.take i) []) →
      (∀ s', Moved (D :: wr) G s s' → TxAt P w s'.heap D (tAll xs []) → R (.ok (.ret .none)) s') → codeAny (model P w) A (.builtin "set.update.loop" ⟨[.ref D, .ref I], []⟩) R s := by
  have nw : D ∉ wr := fun z => hD (W.sub _ z)
  have up : ∀ b ∈ wr, b ∈ D :: wr := fun b z => List.mem_cons_of_mem _ z
  intro m
  induction m with
  | zero =>
    intro i s e hi st R0 out
    have ei : i = n := by omega
    subst ei
    refine codeAny_builtin F.entry_set_update_loop ?_
    rw [Around.under_plainId F.plain_set_update_loop _]
    show wpAny _ A.in1 (pyNext (.ref I) >>= _) _ _ s
    refine wpAny_bind (W.done s _ _ st fun s' mv => ?_)
    show wpAny _ A.in1 (ret Value.none) _ _ s'
    rw [List.take_of_length_le (Nat.le_of_eq hn.symm)] at R0
    exact wpAny_pure (out s' (mv.mono up) (R0.keep fun o z => mv.heap D o nw z))
  | succ m ih =>
    intro i s e hi st R0 out
    have lt : i < n := by omega
    refine codeAny_builtin F.entry_set_update_loop ?_
    rw [Around.under_plainId F.plain_set_update_loop _]
    show wpAny _ A.in1 (pyNext (.ref I) >>= _) _ _ s
    refine wpAny_bind (W.item i s _ _ lt st fun v s' hp st' mv => ?_)
    obtain ⟨z, t, ez, rfl⟩ := hv i v hp
    have R1 : TxAt P w s'.heap D (tAll (xs.take i) []) := R0.keep fun o q => mv.heap D o nw q
    show wpAny _ A.in1 (holding [Value.str z t] (setAdd D (.str z t)) >>= _) _ _ s'
    refine wpAny_bind (wpAny_holding ?_)
    unfold setAdd
    refine wpAny_holding (wpAny_bind ((strKind P w).pyHash (k := z) (is_str z t) ?_))
    have few : (tAll (xs.take i) []).length + 1 < scanBound := by
      have q := tAll_len (xs.take i) []
      rw [List.length_take, List.length_nil] at q
      omega
    refine put_x (s := { s' with toks := s'.toks + 1 }) R1 few fun _ h' sb R2 => ?_
    rw [← tAll_take ez] at R2
    have other : ∀ b o, b ≠ D → s'.heap.get? b = some o → h'.get? b = some o := fun b o hb q => (sb.2 b hb).trans q
    refine wpAny_pure ⟨plainId_quiet F.plain_set_update_loop _, ih (i + 1) _ (by omega) lt (W.frame _ s' _ _ st' (Nat.le_succ _) fun b hb o q => other b o (fun c => hD (c ▸ hb)) q) R2 fun s'' mv2 R3 => ?_⟩
    refine out s'' (Moved.trans W.gtrans ((mv.mono up).then_heap (Nat.le_succ _) fun b o hb q => ?_) mv2) R3
    exact other b o (fun c => hb (c ▸ List.mem_cons_self)) q

theorem call_setTx {l : Addr} {items : Array Value} (xs : List Str) {Q : Value → Shared → Prop} (hh : A.handled = none) (hl : s.heap.IsList l items) (hi : StrsAre items.toList xs) (hb : xs.length + 1 < scanBound)
    (h : ∀ (h' : Heap) (tk : Nat), TxAt P w h' s.heap.objs.size (tAll xs []) → (∀ b o, s.heap.get? b = some o → h'.get? b = some o) → Q (.ref s.heap.objs.size) { s with heap := h', toks := tk }) :
    wpAny (model P w) A (call (.type "set") [.ref l]) Q E s := by
  have sz : items.size = xs.length := by
    rw [← Array.length_toList]
    exact StrsAre.len_eq hi
  obtain ⟨c, tl, hmro⟩ := F.called_set.mro
  have f1 := F.called_set.made
  have f2 := F.called_set.sub
  refine wpAny_call (codeAny_of_tree ?_)
  show wpAny _ _ (callAny (.type "set") _) _ _ _
  refine wpAny_pure ⟨Code.quiet_builtin _ (by decide +kernel), codeAny_builtin F.entry_type_call ?_⟩
  rw [Around.under_plain (weight_type_call_type "set" [.ref l] []) rfl]
  have f3 := F.called_set.notType
  have f4 := F.called_set.canCreate
  have f5 := F.typeCall_set_1 (.ref l)
  repeat (any_goals (first | assumption | wp_step))
  refine codeAny_mono (code_set_led1 (.ref l) (E := E) (Q₁ := fun o s₁ => o = .ref s.heap.objs.size ∧ s₁ = { s with heap := s.heap.push (noTx w) }) ⟨rfl, rfl⟩) fun r s₁ hr => ?_
  cases r with
  | error e => exact hr
  | ok fl =>
    cases fl with
    | ret obj =>
      obtain ⟨rfl, rfl⟩ := hr
      have own : (s.heap.push (noTx w)).get? s.heap.objs.size = some (noTx w) := Heap.get?_push_size _ rfl
      have T : Shared.TypeIs { s with heap := s.heap.push (noTx w) } (.ref s.heap.objs.size) "set" := ⟨_, own, rfl⟩
      have f6 := F.called_set.init.lookup
      have f7 := F.called_set.init.bind (.ref s.heap.objs.size)
      repeat (any_goals (first | assumption | wp_step))
      refine codeAny_mono (codeAny_call_builtin (R := wants (fun r s₂ => r = .none ∧ ∃ h' tk, s₂ = { s with heap := h', toks := tk } ∧ TxAt P w h' s.heap.objs.size (tAll xs []) ∧ (∀ b o, s.heap.get? b = some o → h'.get? b = some o)) E)
        F.called_set.init.plain F.entry_set_init (check_set_init_1 T ?_)) fun r₂ s₂ hr₂ => ?_
      · obtain ⟨ol, hol, hcl, nl, hdl⟩ := hl
        obtain ⟨cls, dd, data, sl⟩ := ol
        simp only at hcl hdl
        subst hcl; subst hdl
        have hol' : (s.heap.push (noTx w)).get? l = some { cls := .type "list", dict := dd, data := .seq items nl, slots := sl } := Heap.get?_push_of_some _ hol
        have g1 := F.sub_list_set
        have g2 := F.sub_list_frozenset
        have g3 : (Value.type "list" == Value.type "dict") = false := by decide
        have hl1 : (s.heap.push (noTx w)).IsList l items := ⟨_, hol', rfl, nl, rfl⟩
        unfold Builtin.«set.__init__» noKeywords Builtin.Frozenset.updateFrom
        generalize hPI : pyIter = PI
        wp_walk
        subst hPI
        refine wpAny_pyIter_list hl1 (wpAny_bind (wpAny_runValue ?_))
        have lt : l < s.heap.objs.size := Heap.lt_size hol
        have hh3 : A.in1.in1.in1.handled = none := by simp [hh]
        have sz1 : (s.heap.push (noTx w)).objs.size = s.heap.objs.size + 1 := size_push' _ _
        have nI : l ≠ (s.heap.push (noTx w)).objs.size := by rw [sz1]; exact Nat.ne_of_lt (Nat.lt_succ_of_lt lt)
        have nD : s.heap.objs.size ∉ [(s.heap.push (noTx w)).objs.size, l] := by
          rw [sz1]
          simp only [List.mem_cons, List.not_mem_nil, or_false, not_or]
          exact ⟨Nat.ne_of_lt (Nat.lt_succ_self _), Nat.ne_of_gt lt⟩
        have hv : ∀ (i : Nat) (v : Value), items[i]? = some v → ∃ k t, xs[i]? = some k ∧ v = .str k t := fun i v e => by
          have il : i < xs.length := by rw [← sz]; exact (Array.getElem?_eq_some_iff.mp e).1
          obtain ⟨t, q⟩ := SS.strs_at hi i v (by rw [Array.getElem?_toList]; exact e)
          refine ⟨xs[i], t, List.getElem?_eq_getElem il, ?_⟩
          rw [q, List.getD_eq_getElem?_getD, List.getElem?_eq_getElem il] <;> rfl
        refine fill_tx ((Walks.list hh3 _ l nI items).toS) s.heap.objs.size nD xs sz hb hv (items.size - 0) 0 _ (by omega) (Nat.zero_le _) ⟨⟨_, Heap.get?_push_size _ rfl, rfl, rfl⟩, (hl1.push _)⟩ ?start ?stop
        case start => exact TxAt.fresh (Heap.get?_push_of_some _ own)
        case stop =>
          intro s' mv R1
          obtain ⟨h', g', d', tk', os'⟩ := s'
          have eg : g' = s.gens := mv.gens
          have ed : d' = s.drawn := mv.drawn
          have eo : os' = s.os := mv.os
          subst eg; subst ed; subst eo
          show wpAny _ _ _ _ _ _
          refine wpAny_pure ?_
          show wpAny _ _ (ret Value.none) _ _ _
          refine wpAny_pure ⟨rfl, h', tk', rfl, R1, fun b o e => ?_⟩
          have lb : b < s.heap.objs.size := Heap.lt_size e
          refine mv.heap b o ?_ (Heap.get?_push_of_some _ (Heap.get?_push_of_some _ e))
          rw [sz1]
          simp only [List.mem_cons, List.not_mem_nil, or_false, not_or]
          exact ⟨Nat.ne_of_lt lb, Nat.ne_of_lt (Nat.lt_succ_of_lt lb)⟩
      · cases r₂ with
        | error e => exact hr₂
        | ok fl₂ =>
          cases fl₂ with
          | ret r =>
            obtain ⟨rfl, h', tk, rfl, R1, old⟩ := hr₂
            repeat (any_goals (first | assumption | wp_step))
            exact h _ _ R1 old
          | _ => exact hr₂.elim
    | _ => exact hr.elim
end
section
variable {X : Cx}
/-- set(texts) -/
def rSetTx (K : PySem.W.Frag) (P : Program) (w : World) : List V → Hp → VK → Prop := fun vs H Q => ∃ (a : Addr) (xs : List Str), vs = [.ref a] ∧ SqL K H a (xs.map V.str) ∧ xs.length + 1 < scanBound ∧
  ∀ p, H p = none → Q (.ref p) (upd H p (TxO P w p (tAll xs [])))
theorem cr_setTx (hc : X.calm = true) : CallR X (.type "set") (rSetTx X.K X.prog X.w) := by
  intro pins s σ H vs us Q I r h
  obtain ⟨a, xs, rfl, hs, hb, q⟩ := h
  rw [Vals.ref1 r]
  obtain ⟨its, rv, pl, _⟩ := I.list hs
  obtain ⟨o, n, ho, hk, hdn, hd⟩ := pl
  refine call_setTx xs (I.ok.hd hc) ⟨o, ho, hk, n, hd⟩ (strsAre_of rv) hb fun h' tk R1 old => ?_
  have lt : s.heap.objs.size < h'.objs.size := by
    obtain ⟨_, e, _⟩ := R1
    exact Heap.lt_size e
  exact ⟨.ref s.heap.objs.size, _, I.laid (t' := tk) old (Nat.le_refl _) (txO_new R1), rfl, q _ (I.hok.fresh (Nat.le_refl _))⟩
end
end TX

set_option Elab.async false
set_option linter.all false
set_option maxRecDepth 100000
set_option maxHeartbeats 2000000
/-! Tx3: {k for .. in ..}, a text each. -/
namespace TX
open PySem PySem.Spec PyProof.Rows L2 PpSet
section
variable {X : Cx}
/-- what a turn does with its text: D grows -/
def grows (P : Program) (w : World) (D : Addr) (Nx : Hp → Prop) : VK := fun y H => ∃ (k : Str) (l : List Str), y = .str k ∧ H D = some (TxO P w D l) ∧ l.length + 1 < scanBound ∧ Nx (upd H D (TxO P w D (tIns k l)))
/-- one turn -/
def turnT (P : Program) (w : World) (g : TG) (tt : TT) (te : TE) (vs : List Nat) (D : Addr) (Nx : Hp → Prop) : V → L2.St → Hp → Prop := fun x σ H =>
  g x (wipe σ vs) H fun σ2 H2 => wipe σ2 vs = wipe σ vs ∧ tt σ2 H2 fun b H3 => if b = true then te σ2 H3 (grows P w D Nx) else Nx H3
/-- {elt for target in iter if ..} -/
def tTc (P : Program) (w : World) (wi : TI) (g : TG) (tt : TT) (te : TE) (vs : List Nat) : TE := fun σ H Q => wi σ H fun J H1 => ∀ D, H1 D = none → ∃ W : Nat → Nat → Hp → Prop, (∃ m, W 0 m (upd H1 D (TxO P w D []))) ∧ ∀ i m H, W i m H →
  (J.stop i H ∧ Q (.ref D) H) ∨ (J.go i H ∧ ∃ Nx : Hp → Prop, (∀ H', Nx H' → ∃ m', m' < m ∧ W (i + 1) m' H') ∧ ∀ x H', J.yld i H x H' → turnT P w g tt te vs D Nx x σ H')

theorem tc_core {pins : List (Addr × Obj)} {s : Shared} {σ : L2.St} {H : Hp} {Q : VK} {elt tg iter : Expr} {ifs : List Expr} {scope : Scope} {own : List (PySem.Str × Nat)} {pos pos' : Pos} {wi : TI} {g : TG} {tt : TT} {te : TE} {use : Option (Value → Sem Unit)} {Qf : Value → Shared → Prop}
    (calm : X.calm = true) (once : X.N.Nodup) (I : Inv X pins σ H s) (hi : PI X tg iter wi) (ok : BlkOk X.N X.env.scope scope own)
    (hg : ∀ (s : Shared) (H : Hp) (C : Addr) (cl : List (PySem.Str × Addr)) (fp : List Addr), PG (X.blk s H scope (compEnvC scope cl C X.env) fp) tg g)
    (ht : ∀ (s : Shared) (H : Hp) (C : Addr) (cl : List (PySem.Str × Addr)) (fp : List Addr), PTs (X.blk s H scope (compEnvC scope cl C X.env) fp) ifs tt)
    (he : ∀ (s : Shared) (H : Hp) (C : Addr) (cl : List (PySem.Str × Addr)) (fp : List Addr), PE (X.blk s H scope (compEnvC scope cl C X.env) fp) elt te)
    (fold : ∀ x, foldedSetIterable iter X.env x = pure x) (h : tTc X.prog X.w wi g tt te (own.map (·.2)) σ H Q)
    (out : ∀ D C s' m H', Inv X pins σ H' s' → Q (.ref D) H' → s'.heap.Ns C m → FpOk X pins H' C → compPost (model X.prog X.w) X.A X.xe use Qf (.ref D) C (.ok .next) s') :
    wpAny (model X.prog X.w) X.A (comprehension (.SetComp elt [⟨tg, iter, ifs, 0⟩] scope pos) scope X.env pos' (newSet (.type "set")) false (eval iter X.env) use) Qf X.xe s := by
  have free : ∀ y ∈ scope.names, y.2 = .free → ∃ c, X.env.cells.lookup y.1 = some c := fun y hy e => (ok.free y hy e).elim (fun z => I.ok.has _ (.inl z)) (fun z => I.ok.has _ (.inr z))
  refine wpAny_comprehension_free (use := use) rfl fold (closure_ok free) ok.kind (fun y hy e => by rw [ok.uniq y hy, e])
    (thn (hi.run pins s σ H _ I h) fun xv s1 hx => thn hx fun itv s2 h2 => ?_)
  obtain ⟨it, fp, tn, J, H2, ei, I2, T, st2, f2, q⟩ := h2
  subst ei
  refine newSet_ok (newEnv_comp ?_)
  generalize eD : s2.heap.objs.size = D
  have vac : H2 D = none := I2.hok.fresh (Nat.le_of_eq eD)
  obtain ⟨W, ⟨m0, w0⟩, turn⟩ := q D vac
  generalize e3 : ({ s2 with heap := s2.heap.push { cls := .type "set", dict := none, data := .set #[] 0 (.fresh 0 0 (!X.w.params.followText "set-order")) } } : Shared) = s3
  have h3 : s3.heap = s2.heap.push (noTx X.w) := by rw [← e3] <;> rfl
  have grown : ∀ b o, s2.heap.get? b = some o → s3.heap.get? b = some o := fun b o e => by rw [h3]; exact Heap.get?_push_of_some _ e
  have I3 : Inv X pins σ (upd H2 D (TxO X.prog X.w D [])) s3 := by
    rw [← e3]
    refine I2.laid (t' := s2.toks) (fun b o e => Heap.get?_push_of_some _ e) (Nat.le_of_eq eD) (txO_new (TxAt.fresh ?_))
    rw [← eD]
    exact Heap.get?_push_size _ rfl
  have low : ∀ b ∈ fp, b < s2.heap.objs.size := fun b hb => let ⟨o, e, _⟩ := T.obj _ _ st2 b hb; Heap.lt_size e
  have f3 : ∀ b ∈ fp, FpOk X pins (upd H2 D (TxO X.prog X.w D [])) b ∧ b < s3.heap.objs.size := fun b hb => by
    have lt := low b hb
    refine ⟨⟨?_, (f2 b hb).2⟩, by rw [h3, Heap.size_push]; exact Nat.lt_succ_of_lt lt⟩
    rw [upd_ne (by rw [← eD]; exact Nat.ne_of_lt lt)]
    exact (f2 b hb).1
  have st3 : tn 0 s3.heap := T.keep _ _ _ st2 fun b _ o e => grown b o e
  have I4 := block_start I3 ok once f3
  have pg := hg s3 (upd H2 D (TxO X.prog X.w D [])) s3.heap.objs.size (cellsFrom (s3.heap.objs.size + 1) scope.names (cloFrom X.env.cells scope.names [])) fp
  have pt := ht s3 (upd H2 D (TxO X.prog X.w D [])) s3.heap.objs.size (cellsFrom (s3.heap.objs.size + 1) scope.names (cloFrom X.env.cells scope.names [])) fp
  have pe := he s3 (upd H2 D (TxO X.prog X.w D [])) s3.heap.objs.size (cellsFrom (s3.heap.objs.size + 1) scope.names (cloFrom X.env.cells scope.names [])) fp
  show codeAny _ _ (.compStart (.SetComp elt [⟨tg, iter, ifs, 0⟩] scope pos) 0 (.ref it) (.ref D) (compEnvC scope (cellsFrom (s3.heap.objs.size + 1) scope.names (cloFrom X.env.cells scope.names [])) s3.heap.objs.size X.env))
    (compPost (model X.prog X.w) X.A X.xe use Qf (.ref D) s3.heap.objs.size) { s3 with heap := pushCells (s3.heap.push { cls := .type "dict", data := .dict #[] }) scope.names }
  have bare : ∀ b ∈ fp, (upd H2 D (TxO X.prog X.w D [])) b = none := fun b hb => (f3 b hb).1.1
  generalize ece : compEnvC scope (cellsFrom (s3.heap.objs.size + 1) scope.names (cloFrom X.env.cells scope.names [])) s3.heap.objs.size X.env = ce at I4 pg pt pe ⊢
  have cl : ce.locals = s3.heap.objs.size := by rw [← ece] <;> rfl
  generalize eH3 : upd H2 D (TxO X.prog X.w D []) = H3 at I3 I4 pg pt pe w0 bare f3
  generalize e4 : ({ s3 with heap := pushCells (s3.heap.push { cls := .type "dict", data := .dict #[] }) scope.names } : Shared) = s4 at I4 ⊢
  have st4 : tn 0 s4.heap := T.keep _ _ _ st3 fun b _ o e => by rw [← e4]; exact pushCells_keeps _ _ _ _ (Heap.get?_push_of_some _ e)
  have own_fp : ∀ {σ' : L2.St} {H' : Hp} {s' : Shared}, Inv (X.blk s3 H3 scope ce fp) [] σ' H' s' → (∀ b ∈ fp, H' b = none) → ∀ b ∈ fp, FpOk (X.blk s3 H3 scope ce fp) [] H' b := fun {σ' H' s'} I' hn b hb =>
    ⟨hn b hb, (I'.ok.exf b hb).1, I'.ok.exfs b hb, .inl hb, fun x c e => (I'.ok.exf b hb).2 x c e, fun p hp => absurd (show p ∈ ([] : List (Addr × Obj)) ++ [] from hp) (by simp)⟩
  have loop : codeAny (model X.prog X.w) X.A (.compLoop (.SetComp elt [⟨tg, iter, ifs, 0⟩] scope pos) 0 (.ref it) (.ref D) ce) (compPost (model X.prog X.w) X.A X.xe use Qf (.ref D) s3.heap.objs.size) s4 := by
    refine compLoopS_any (fun n s' => ∃ i H', Inv (X.blk s3 H3 scope ce fp) [] (wipe σ (own.map (·.2))) H' s' ∧ tn i s'.heap ∧ (∀ b ∈ fp, H' b = none) ∧ W i n H') ?_ m0 ⟨0, H3, I4, st4, bare, w0⟩
    rintro n s5 ⟨i, H5, I5, st5, n5, w5⟩
    rcases turn i n H5 w5 with ⟨stop, qq⟩ | ⟨go, Nx, less, step⟩
    · refine thnF (T.done (X.blk s3 H3 scope ce fp) rfl rfl rfl calm i [] s5 _ H5 (fun _ _ => False) I5 (own_fp I5 n5) st5 stop) fun r s6 ⟨hr, I6⟩ => ?_
      subst hr
      have I7 : Inv X pins σ H5 s6 := I3.call' (ch := fp) I6.os I6.base I6.hok I6.bare fun b hb => ⟨(f3 b hb).1.2.2.2.1, (f3 b hb).1.2.1, (f3 b hb).1.2.2.2.2.1, (f3 b hb).1.2.2.2.2.2⟩
      have none5 : H5 s3.heap.objs.size = none := by
        have z : H5 ce.locals = none := I6.free
        rwa [cl] at z
      obtain ⟨m, hm, _⟩ := I6.loc
      have hm : s6.heap.Ns ce.locals m := hm
      rw [cl] at hm
      exact out D s3.heap.objs.size s6 m H5 I7 qq hm (I3.fpOk (Nat.le_refl _) none5)
    · refine thnF (T.item (X.blk s3 H3 scope ce fp) rfl rfl rfl calm i [] s5 _ H5 (fun _ _ => False) I5 (own_fp I5 n5) st5 go) fun r s6 ⟨u, hr, h6⟩ => ?_
      subst hr
      refine thnF h6 fun _ s7 ⟨x, H7, I7, r7, y7, st7, n7⟩ => ?_
      have I7p := I7.pinned (own_fp I7 n7) (T.obj _ _ st7)
      refine thnF (pg.run _ s7 _ H7 x u _ I7p r7 (step x H7 y7)) fun _ s8 ⟨σ8, H8, I8, hw8, q8⟩ => ?_
      refine thnF (pt.run _ s8 σ8 H8 _ I8 q8) fun b s9 ⟨H9, I9, q9⟩ => ?_
      have fin : ∀ {s' : Shared} {H' : Hp}, Inv (X.blk s3 H3 scope ce fp) ([] ++ pinsAt fp s7.heap) σ8 H' s' → Nx H' → ∃ m, m < n ∧ ∃ i H', Inv (X.blk s3 H3 scope ce fp) [] (wipe σ (own.map (·.2))) H' s' ∧ tn i s'.heap ∧ (∀ b ∈ fp, H' b = none) ∧ W i m H' := fun {s' H'} I' nx => by
        obtain ⟨m', hm, wm⟩ := less H' nx
        have stay : ∀ b ∈ fp, ∀ o, s7.heap.get? b = some o → s'.heap.get? b = some o ∧ H' b = none := fun b hb o e =>
          let z := I'.pin (b, o) (List.mem_append_right _ (List.mem_append_right _ (mem_pinsAt hb e)))
          ⟨z.1, z.2.1⟩
        have len : (wipe σ (own.map (·.2))).length = σ8.length := by rw [← hw8, wipe_length]
        refine ⟨m', hm, i + 1, H', (I'.unpinned (pins := [])).weak len (fun j v e => ?_), T.keep _ _ _ st7 fun b hb o e => (stay b hb o e).1, fun b hb => ?_, wm⟩
        · rw [← hw8] at e
          exact (wipe_some e).1
        · obtain ⟨o, e, _⟩ := T.obj _ _ st7 b hb
          exact (stay b hb o e).2
      cases b with
      | false =>
        simp only [Bool.false_eq_true, if_false] at q9 ⊢
        exact fin I9 q9
      | true =>
        simp only [if_true] at q9 ⊢
        refine thnF (pe.run _ s9 σ8 H9 _ I9 q9) fun z s10 ⟨yv, H10, I10, r10, k, l, ey, hD, few, nx⟩ => ?_
        subst ey
        obtain ⟨t, rfl⟩ := r10
        exact addT_ok (X := X.blk s3 H3 scope ce fp) I10 hD few fun s11 I11 => fin I11 nx
  exact codeAny_compStart_set loop (T.self X.A 0 _ _ _ st4 loop)
/-- as a value -/
theorem pe_tc {elt tg iter : Expr} {ifs : List Expr} {scope : Scope} {own : List (PySem.Str × Nat)} {pos : Pos} {wi : TI} {g : TG} {tt : TT} {te : TE} (calm : X.calm = true) (once : X.N.Nodup) (hi : PI X tg iter wi) (ok : BlkOk X.N X.env.scope scope own)
    (hg : ∀ (s : Shared) (H : Hp) (C : Addr) (cl : List (PySem.Str × Addr)) (fp : List Addr), PG (X.blk s H scope (compEnvC scope cl C X.env) fp) tg g)
    (ht : ∀ (s : Shared) (H : Hp) (C : Addr) (cl : List (PySem.Str × Addr)) (fp : List Addr), PTs (X.blk s H scope (compEnvC scope cl C X.env) fp) ifs tt)
    (he : ∀ (s : Shared) (H : Hp) (C : Addr) (cl : List (PySem.Str × Addr)) (fp : List Addr), PE (X.blk s H scope (compEnvC scope cl C X.env) fp) elt te)
    (fold : ∀ x, foldedSetIterable iter X.env x = pure x := by intro _; rfl) : PE X (.SetComp elt [⟨tg, iter, ifs, 0⟩] scope pos) (tTc X.prog X.w wi g tt te (own.map (·.2))) := by
  refine ⟨fun pins s σ H Q I h => ?_⟩
  rw [eval_SetComp]
  refine tc_core calm once I hi ok hg ht he fold h fun D C s' m H' I' q hn f => ⟨m, hn, fun h'' sb => ?_⟩
  obtain ⟨f0, f1, f2, f3, f4, f5⟩ := f
  exact ⟨.ref D, H', I'.turned (t' := s'.toks) (fun b o hb e => (sb.2 b hb).trans e) f0 f1 f3 f4 f5, rfl, q⟩
end
end TX

set_option Elab.async false
set_option linter.all false
set_option maxRecDepth 100000
set_option maxHeartbeats 2000000
/-! Tx4: {n for n in texts}. -/
namespace TX
open PySem PySem.Spec PyProof.Rows L2 CL
theorem tc_names {K : PySem.W.Frag} {P : Program} {w : World} {a D : Addr} {xs : List Str} {i : Nat} {σ : L2.St} {H1 : Hp} {Qd : Hp → Prop} (hs : H1 a = some (.lst (xs.map V.str))) (hD : H1 D = none) (hb : xs.length + 1 < scanBound)
    (hi : i < σ.length) (q : Qd (upd H1 D (TxO P w D (tAll xs [])))) :
    ∃ W : Nat → Nat → Hp → Prop, (∃ m, W 0 m (upd H1 D (TxO P w D []))) ∧ ∀ j m H, W j m H → ((Itl K a).stop j H ∧ Qd H) ∨
      ((Itl K a).go j H ∧ ∃ Nx : Hp → Prop, (∀ H', Nx H' → ∃ m', m' < m ∧ W (j + 1) m' H') ∧ ∀ x H', (Itl K a).yld j H x H' → turnT P w (gName i) tYes (cVar i) [i] D Nx x σ H') := by
  have na : a ≠ D := ne_of_none hs hD
  refine ⟨fun j m H => m = xs.length - j ∧ j ≤ xs.length ∧ H = upd H1 D (TxO P w D (tAll (xs.take j) [])), ⟨xs.length, rfl, Nat.zero_le _, rfl⟩, ?_⟩
  rintro j m H ⟨rfl, hj, rfl⟩
  have sq : SqL K (upd H1 D (TxO P w D (tAll (xs.take j) []))) a (xs.map V.str) := SqL.of (by rw [upd_ne na]; exact hs)
  by_cases c : j < xs.length
  · have e : (xs.map V.str)[j]? = some (.str xs[j]) := by rw [List.getElem?_map, List.getElem?_eq_getElem c] <;> rfl
    refine .inr ⟨⟨_, _, sq, e⟩, fun H' => H' = upd H1 D (TxO P w D (tAll (xs.take (j + 1)) [])), fun H' z => ⟨_, by omega, rfl, c, z⟩, fun x H' y => ?_⟩
    obtain ⟨rfl, y⟩ := y
    have ex := (y _ sq).symm.trans e
    cases ex
    refine ⟨?_, ?_⟩
    · show ((σ.set i none).set i (some _)).set i none = σ.set i none
      rw [List.set_set, List.set_set]
    · show cVar i ((σ.set i none).set i (some _)) _ _
      unfold cVar
      rw [List.set_set, List.getElem?_set_self hi]
      refine ⟨xs[j], tAll (xs.take j) [], rfl, upd_same, ?_, ?_⟩
      · have z := tAll_len (xs.take j) []
        rw [List.length_take, List.length_nil] at z
        omega
      · rw [tAll_take (List.getElem?_eq_getElem c), upd_upd]
  · have e : j = xs.length := by omega
    subst e
    rw [List.take_length] at sq ⊢
    refine .inl ⟨⟨_, sq, by rw [List.length_map]; exact Nat.le_refl _⟩, q⟩
end TX

set_option Elab.async false
set_option linter.all false
set_option maxRecDepth 100000
set_option maxHeartbeats 1000000
/-! Fm: reading a formula, in plain Lean: over the text's signs, by places. -/
namespace Fm
open PySem PySem.Spec L2
/-- the sign at a place -/
def cp (s : Str) (i : Nat) : Option Nat := s.cps[i]?
/-- one sign, or nothing behind the end -/
def one (s : Str) (i : Nat) : Str := match cp s i with
  | some c => ⟨#[c]⟩
  | none => ⟨#[]⟩
theorem cp_lt {s : Str} {i c : Nat} (h : cp s i = some c) : i < s.length := by
  unfold cp at h
  obtain ⟨h, _⟩ := Array.getElem?_eq_some_iff.mp h
  exact h
theorem cp_none {s : Str} {i : Nat} (h : s.length ≤ i) : cp s i = none := by
  unfold cp
  exact Array.getElem?_eq_none h
/-- the first place from i on that bears no blank -/
def skip (s : Str) (i : Nat) : Nat := if h : cp s i = some 32 then skip s (i + 1) else i
termination_by s.length - i
decreasing_by have := cp_lt h; omega
theorem skip_sp {s : Str} {i : Nat} (h : cp s i = some 32) : skip s i = skip s (i + 1) := by rw [skip, dif_pos h]
theorem skip_no {s : Str} {i : Nat} (h : ¬ cp s i = some 32) : skip s i = i := by rw [skip, dif_neg h]
theorem skip_le {s : Str} (i : Nat) : i ≤ skip s i := by
  rw [skip]
  split
  · rename_i h
    have := cp_lt h
    have := skip_le (s := s) (i + 1)
    omega
  · exact Nat.le_refl _
termination_by s.length - i
theorem skip_end {s : Str} (i : Nat) (hi : i ≤ s.length) : skip s i ≤ s.length := by
  rw [skip]
  split
  · rename_i h
    have := cp_lt h
    exact skip_end (s := s) (i + 1) (by omega)
  · exact hi
termination_by s.length - i
theorem skip_at {s : Str} (i : Nat) : ¬ cp s (skip s i) = some 32 := by
  rw [skip]
  split
  · rename_i h
    have := cp_lt h
    exact skip_at (s := s) (i + 1)
  · assumption
termination_by s.length - i
theorem skip_skip {s : Str} (i : Nat) : skip s (skip s i) = skip s i := skip_no (skip_at i)
def isD (c : Nat) : Bool := decide (48 ≤ c ∧ c ≤ 57)
def isL (c : Nat) : Bool := decide (97 ≤ c ∧ c ≤ 122)
/-- where the figures end that begin at b, or where they break the rules -/
def intEnd (s : Str) (b i : Nat) : Except Nat Nat :=
  if h : ∃ c, cp s i = some c ∧ isD c = true then (if i - b = 31 ∨ (cp s b = some 48 ∧ b < i) then .error i else intEnd s b (i + 1)) else .ok i
termination_by s.length - i
decreasing_by obtain ⟨c, h, _⟩ := h; have := cp_lt h; omega
def wordEnd (s : Str) (b i : Nat) : Except Nat Nat :=
  if h : ∃ c, cp s i = some c ∧ isL c = true then (if i - b = 8 then .error i else wordEnd s b (i + 1)) else .ok i
termination_by s.length - i
decreasing_by obtain ⟨c, h, _⟩ := h; have := cp_lt h; omega
/-- the text from b to i -/
def cut (s : Str) (b i : Nat) : Str := ⟨((s.cps.toList.drop b).take (i - b)).toArray⟩
inductive T where
  | num (n : Int)
  | nam (w : Str)
  | neg (t : T)
  | op (o : Str) (a b : T)
inductive R where
  | err (p : Nat)
  | ok (t : T) (i : Nat) (ns : List Str)
inductive Md where
  | sum
  | sl (t : T)
  | term
  | tl (t : T)
  | factor
  | word
  | pair (w : Str)
/-- the number that figures tell -/
def val (s : Str) : Int := ((NumText.digitsVal s.cps.toList : Nat) : Int)
def need (s : Str) (c : Nat) (i : Nat) (k : Nat → Option R) : Option R := if cp s (skip s i) = some c then k (skip s i + 1) else some (.err (skip s i))
/-- the reading, by a fuel that is the depth of calls as well -/
def parse (s : Str) : Nat → Md → Nat → List Str → Option R
  | 0, _, _, _ => none
  | f + 1, .sum, i, ns => match parse s f .term i ns with
    | some (.ok t j ms) => parse s f (.sl t) j ms
    | r => r
  | f + 1, .sl t, i, ns =>
    if cp s (skip s i) = some 43 ∨ cp s (skip s i) = some 45 then (match parse s f .term (skip s i + 1) ns with
      | some (.ok u j ms) => parse s f (.sl (.op (one s (skip s i)) t u)) j ms
      | r => r)
    else some (.ok t (skip s i) ns)
  | f + 1, .term, i, ns => match parse s f .factor i ns with
    | some (.ok t j ms) => parse s f (.tl t) j ms
    | r => r
  | f + 1, .tl t, i, ns =>
    if cp s (skip s i) = some 42 then (match parse s f .factor (skip s i + 1) ns with
      | some (.ok u j ms) => parse s f (.tl (.op "*" t u)) j ms
      | r => r)
    else if cp s (skip s i) = some 47 then (if cp s (skip s i + 1) = some 47 then (match parse s f .factor (skip s i + 2) ns with
        | some (.ok u j ms) => parse s f (.tl (.op "//" t u)) j ms
        | r => r)
      else some (.err (skip s i + 1)))
    else some (.ok t (skip s i) ns)
  | f + 1, .factor, i, ns =>
    match cp s (skip s i) with
    | none => some (.err (skip s i))
    | some c =>
      if c = 45 then (match parse s f .factor (skip s i + 1) ns with
        | some (.ok t j ms) => some (.ok (.neg t) j ms)
        | r => r)
      else if c = 40 then (match parse s f .sum (skip s i + 1) ns with
        | some (.ok t j ms) => need s 41 j fun k => some (.ok t k ms)
        | r => r)
      else if isD c = true then (match intEnd s (skip s i) (skip s i) with
        | .error p => some (.err p)
        | .ok e => some (.ok (.num (val (cut s (skip s i) e))) e ns))
      else if isL c = true then parse s f .word (skip s i) ns
      else some (.err (skip s i))
  | f + 1, .word, i, ns => match wordEnd s i i with
    | .error p => some (.err p)
    | .ok e =>
      if cut s i e = "min" ∨ cut s i e = "max" then parse s f (.pair (cut s i e)) e ns
      else if cut s i e = "self" then some (.err e)
      else some (.ok (.nam (cut s i e)) e (ns ++ [cut s i e]))
  | f + 1, .pair w, i, ns => need s 40 i fun i1 => match parse s f .sum i1 ns with
    | some (.ok a j ms) => need s 44 j fun i2 => (match parse s f .sum i2 ms with
      | some (.ok b k ls) => need s 41 k fun i3 => some (.ok (.op w a b) i3 ls)
      | r => r)
    | r => r
end Fm

set_option Elab.async false
set_option linter.all false
set_option maxRecDepth 100000
set_option maxHeartbeats 2000000
/-! Rd: tests that store a name and go on, methods that may raise, one-sign slices. -/
namespace CL
open PySem PySem.Spec PyProof.Rows L2
section
variable {X : Cx} {a b : Expr} {t : TTw} {u : TT} {pos : Pos}
/-- (x := e) .. and b -/
def wAnd (t : TTw) (u : TT) : TTw := fun σ H Q => t σ H fun c σ1 H1 => if c = true then u σ1 H1 fun d H2 => Q d σ1 H2 else Q false σ1 H1
theorem ptw_and2 (ha : PTw X a t) (hb : PT X b u) : PTw X (.BoolOp .And [a, b] pos) (wAnd t u) := ⟨fun pins s σ H Q I h => by
  refine isTrue_and (thn (ha.run pins s σ H _ I h) fun c s1 e => ?_)
  obtain ⟨σ1, H1, I1, q⟩ := e
  cases c with
  | false => exact ⟨σ1, H1, I1, q⟩
  | true => exact thn ((pw_and1 (pos := pos) hb).run _ pins s1 σ1 H1 (fun d H2 => Q d σ1 H2) I1 q) fun d s2 ⟨H2, I2, q2⟩ => ⟨σ1, H2, I2, q2⟩⟩
end
/-- room by the depth of calls, each counted once -/
structure Rm (n : Nat) (A : Around) : Prop where
  hd : A.handled = none
  dp : A.depth + n + 10 < recursionLimit
  un : A.units + 4 * n + 300 < cLine
theorem Rm.mono {j n : Nat} {A : Around} (r : Rm n A) (h : 3 * j ≤ n + 4) (h2 : j ≤ 20 := by omega) : Room j A := ⟨r.hd, by have := r.dp; omega, by have := r.un; omega⟩
theorem Rm.less {j n : Nat} {A : Around} (r : Rm n A) (h : j ≤ n) : Rm j A := ⟨r.hd, by have := r.dp; omega, by have := r.un; omega⟩
theorem Rm.deeper {n : Nat} {A : Around} (r : Rm (n + 1) A) (env : Env) : Rm n (A.deeper env) := ⟨r.hd, by have := r.dp; show A.depth + 1 + n + 10 < _; omega, by have := r.un; show A.units + 3 + 4 * n + 300 < _; omega⟩
theorem Rm.of {k n : Nat} {A : Around} (r : Room k A) (h : n + 5 ≤ 3 * k) (h2 : 4 * n + 100 ≤ 16 * k) : Rm n A := ⟨r.hd, by have := r.dp; omega, by have := r.un; omega⟩
/-- a def's promise, the room told by the depth -/
structure FnM (P : Program) (w : World) (K : PySem.W.Frag) (mg : Str → Option Value) (base : Heap) (CX : CXT) (n : Nat) (f : Addr) (fd : FuncData) (ps : List Str) (sp : Sp) : Prop where
  len : ∀ vs H Q E, sp vs H Q E → vs.length = ps.length
  go : ∀ (A : Around) (outer : List Env) (s : Shared) (H : Hp) (args : Args) (us : List Value) (vs : List V) (Q : VK) (E : XK), Rm n A → Env0 P w K mg base A outer s H → BindsTo s fd args (ps.zip us) → Vals vs us → sp vs H Q E →
    codeAny (model P w) A (.call (.ref f) args) (CR CX outer P w H s Q E) s
section
variable {P : Program} {w : World} {K : PySem.W.Frag} {mg : Str → Option Value} {base : Heap} {CX : CXT} {k n : Nat} {f : Addr} {fd : FuncData} {ps : List Str} {sp : Sp}
theorem FnM.of (F : FnOk P w K mg base CX k f fd ps sp) (h : 3 * k ≤ n + 4) (h2 : k ≤ 20 := by omega) : FnM P w K mg base CX n f fd ps sp :=
  ⟨F.len, fun A outer s H args us vs Q E r => F.run A outer s H args us vs Q E (r.mono h h2)⟩
theorem FnM.ok (F : FnM P w K mg base CX n f fd ps sp) (h : n + 5 ≤ 3 * k) (h2 : 4 * n + 100 ≤ 16 * k) : FnOk P w K mg base CX k f fd ps sp :=
  ⟨F.len, fun A outer s H args us vs Q E r => F.go A outer s H args us vs Q E (.of r h h2)⟩
theorem _root_.L2.Fun.okM {x qual : Str} {st : Stmt} {N : List Str} (F : Fun K x qual st f fd) (S : FnScope N ps (defScope st)) (len : ∀ vs H Q E, sp vs H Q E → vs.length = ps.length)
    (hbody : ∀ (cdv : Value) (A : Around) (outer : List Env) (s : Shared) (H : Hp) (vs : List V) (Q : VK) (E : XK), Rm n (A.deeper (envOfC qual (defScope st) s.heap.objs.size f cdv)) → sp vs H Q E →
      ∃ t, PSs (cxOf (L2.CX P w) P w K mg base N qual (defScope st) f cdv A outer s H E) (defBody st) t ∧ t { nx := fun _ H' => Q .non H', rt := Q } (start N vs) H) : FnM P w K mg base (L2.CX P w) (n + 1) f fd ps sp := by
  obtain ⟨oc, od, kV, doc, pm, an, cdv, ct, osl, rfl, lk, hcd⟩ := F.ex
  refine ⟨len, fun A outer s H args us vs Q E hr e0 hb r hsp => ?_⟩
  exact LamX.run_ofS (k := 0) lk hcd S (hr.mono (j := 1) (by omega)) e0 hb r (len _ _ _ _ hsp) fun _ => hbody cdv A outer s H vs Q E (hr.deeper _) hsp
end
/-- a method of the class at C, by its promise -/
structure MetG (P : Program) (w : World) (K : PySem.W.Frag) (mg : Str → Option Value) (base : Heap) (CX : CXT) (n : Nat) (C : Addr) (m : Str) (ps : List Str) (sp : Sp) : Prop where
  ex : ∃ f fd, Meth K C m f ∧ FnM P w K mg base CX n f fd ps sp ∧ Binds K fd ps []
section
variable {X : Cx} {CX : CXT} {k j n : Nat} {C f : Addr} {fd : FuncData} {m : Str} {ps : List Str} {sp : Sp} {o e : Expr} {es : List Expr} {ta : TE} {t : TA} {apos pos : Pos} {E : XK}
theorem run_fnM {pins : List (Addr × Obj)} {σ : L2.St} {H : Hp} {s : Shared} {Q : VK} {us : List Value} {vs : List V} (F : FnM X.prog X.w X.K X.mg X.base CX n f fd ps sp) (hr : Rm n X.A) (hb : Binds X.K fd ps []) (hx : Passes CX X E)
    (I : Inv X pins σ H s) (r : Vals vs us) (h : sp vs H Q E) : wpAny (model X.prog X.w) X.A (call (.ref f) us) (EP X pins σ Q) X.xe s := by
  have hl := F.len _ _ _ _ h
  have hb2 := hb s us I.kIn (by rw [List.append_nil, ← r.length]; exact hl)
  rw [List.append_nil] at hb2
  refine wpAny_call (codeAny_mono (F.go X.A X.stack s H ⟨us, []⟩ us vs Q E hr I.env0 hb2 r h) fun res s' hq => ?_)
  match res, hq with
  | .error e, hq => exact hx pins σ H s e s' I hq
  | .ok (.ret u), hq => exact I.after hq
  | .ok .next, hq => exact hq.elim
  | .ok .brk, hq => exact hq.elim
  | .ok .cont, hq => exact hq.elim
/-- o.m(..) -/
def tMethM (C : Addr) (m : Str) (sp : Sp) (E : XK) (ta : TE) (t : TA) : TE := fun σ H Q => ta σ H fun x H1 => ∃ a dx fs, x = .ref a ∧ H1 a = some (.ins C dx fs) ∧ fs.lookup m = none ∧ t σ H1 fun vs H2 => sp (x :: vs) H2 Q E
theorem pe_mg {pl : Sem Bool} (c : MetG X.prog X.w X.K X.mg X.base CX k C m ps sp) (cl : Cls X.K C) (hx : Passes CX X E) (hr : Rm j X.A) (hk : k ≤ j) (he : PE X o ta) (ha : PA X (e :: es) t)
    (hst : starEach (e :: es) X.env = (false, eval e X.env) :: starEach es X.env := by rfl) (hpl : (backTo pos (starEach es X.env)).any (·.1) = false := by rfl)
    (ht : eval (.Call (.Attribute o m apos) (e :: es) [] pos) X.env = (do
      let ov ← eval o X.env
      standAt apos.atName
      let (f, first) ← holding [ov] (getMethod ov m pl)
      callWith pos f first (backTo pos (starEach (e :: es) X.env)) (backToKw pos (keywordEach [] X.env))) := by rfl) :
    PE X (.Call (.Attribute o m apos) (e :: es) [] pos) (tMethM C m sp E ta t) := by
  obtain ⟨f, fd, M, F, b⟩ := c.ex
  refine ⟨fun pins s σ H Q I h => ?_⟩
  refine PySem.W.methodCall_KW (pl := pl) (thn (he.run pins s σ H _ I h) fun u s1 hh => ?_) ht
  obtain ⟨x, H1, I1, rx, a, dx, fs, ex, ea, l, q⟩ := hh
  subst ex
  obtain rfl : u = Value.ref a := rx
  refine getmeth_ok I1 ea cl M l ?_
  exact PySem.W.callWith_K (h₀ := X.base) (first := [.ref a]) I1.ok.mod.kin M.kp (thn (ha.run pos pins s1 σ H1 _ I1 q) fun us s2 ⟨vs, H2, I2, r2, q2⟩ => ⟨I2.kIn, run_fnM (us := .ref a :: us) (vs := .ref a :: vs) F (hr.less hk) b hx I2 (.cons rfl r2) q2⟩) hst hpl
theorem pe_mg0 {pl : Sem Bool} (c : MetG X.prog X.w X.K X.mg X.base CX k C m ps sp) (cl : Cls X.K C) (hx : Passes CX X E) (hr : Rm j X.A) (hk : k ≤ j) (he : PE X o ta)
    (ht : eval (.Call (.Attribute o m apos) [] [] pos) X.env = (do
      let ov ← eval o X.env
      standAt apos.atName
      let (f, first) ← holding [ov] (getMethod ov m pl)
      callWith pos f first (backTo pos (starEach [] X.env)) (backToKw pos (keywordEach [] X.env))) := by rfl) :
    PE X (.Call (.Attribute o m apos) [] [] pos) (tMethM C m sp E ta tNil) := by
  obtain ⟨f, fd, M, F, b⟩ := c.ex
  refine ⟨fun pins s σ H Q I h => ?_⟩
  refine PySem.W.methodCall_KW (pl := pl) (thn (he.run pins s σ H _ I h) fun u s1 hh => ?_) ht
  obtain ⟨x, H1, I1, rx, a, dx, fs, ex, ea, l, q⟩ := hh
  subst ex
  obtain rfl : u = Value.ref a := rx
  refine getmeth_ok I1 ea cl M l ?_
  exact PySem.W.callWith_K0 (first := [.ref a]) I1.kIn M.kp (run_fnM (us := [.ref a]) (vs := [.ref a]) F (hr.less hk) b hx I1 (.cons rfl .nil) q)
end
/-- t[i:i + 1] -/
theorem cut_one {s : Str} {i : Nat} : cutS s (some (i : Int)) (some ((i : Int) + 1)) = Fm.one s i := by
  unfold cutS Fm.one Fm.cp
  have e : ((i : Int) + 1) = ((i + 1 : Nat) : Int) := by omega
  rw [e, HT.sIx_nat, HT.sIx_nat]
  have hs : s.length = s.cps.size := rfl
  by_cases h : i < s.cps.size
  · rw [Array.getElem?_eq_getElem h]
    rw [Nat.min_eq_left (by omega), Nat.min_eq_left (by omega)]
    have : i + 1 - i = 1 := by omega
    rw [this, List.drop_eq_getElem_cons (by simpa using h)]
    simp
  · rw [Array.getElem?_eq_none (by omega)]
    rw [Nat.min_eq_right (by omega), Nat.min_eq_right (by omega)]
    simp
theorem cut_cut {s : Str} {b i : Nat} (h : i ≤ s.length) (hb : b ≤ i) : cutS s (some (b : Int)) (some (i : Int)) = Fm.cut s b i := by
  unfold cutS Fm.cut
  rw [HT.sIx_nat, HT.sIx_nat, Nat.min_eq_left (Nat.le_trans hb h), Nat.min_eq_left h]
end CL

set_option Elab.async false
set_option linter.all false
set_option maxRecDepth 100000
set_option maxHeartbeats 4000000
namespace Rk
open PySem PySem.Spec PyProof.Rows L2 CL Fm
def topS (i : Nat) : Stmt := PySem.Challenge.pw_solidnames_k02_whole_texts_that_are_form.main.body.getD i (.Pass ⟨0, 0, 0, 0⟩)
/-! ### the reader in the heap -/
def rdF (s : Str) (i : Nat) (l : Addr) : List (Str × V) := [("chars", .str s), ("spot", .int (i : Int)), ("found_names", .ref l)]
theorem rdF_at (s : Str) (i : Nat) (l : Addr) : (rdF s i l).lookup ("chars" : Str) = some (.str s) ∧ (rdF s i l).lookup ("spot" : Str) = some (.int i) ∧ (rdF s i l).lookup ("found_names" : Str) = some (.ref l) := by
  unfold rdF
  refine ⟨?_, ?_, ?_⟩ <;> rfl
theorem rdF_put (s : Str) (i j : Nat) (l : Addr) : putF "spot" (.int (j : Int)) (rdF s i l) = rdF s j l := by rfl
theorem rdF_no (s : Str) (i : Nat) (l : Addr) : ∀ m ∈ (["skip", "need", "whole", "read_sum", "read_term", "read_factor", "read_integer", "read_word", "read_pair"] : List Str), (rdF s i l).lookup m = none := by
  intro m hm
  simp only [List.mem_cons, List.not_mem_nil, or_false] at hm
  rcases hm with rfl | rfl | rfl | rfl | rfl | rfl | rfl | rfl | rfl <;> rfl
structure RdAt (C : Addr) (H : Hp) (a l : Addr) (s : Str) (i : Nat) (ns : List Str) : Prop where
  ins : ∃ dx, H a = some (.ins C dx (rdF s i l))
  lst : H l = some (.lst (ns.map V.str))
  few : ns.length ≤ i
/-- all but the reader and its list is as it was -/
def MB (a l : Addr) (H H' : Hp) : Prop := ∀ b o, b ≠ a → b ≠ l → H b = some o → H' b = some o
theorem MB.refl {a l : Addr} {H : Hp} : MB a l H H := fun _ _ _ _ h => h
theorem MB.trans {a l : Addr} {H H1 H2 : Hp} (x : MB a l H H1) (y : MB a l H1 H2) : MB a l H H2 := fun b o n m h => y b o n m (x b o n m h)
theorem MB.of {a l : Addr} {H H' : Hp} (x : Same H H') : MB a l H H' := fun b o _ _ h => x b o h
theorem RdAt.ne {C : Addr} {H : Hp} {a l : Addr} {s : Str} {i : Nat} {ns : List Str} (R : RdAt C H a l s i ns) : l ≠ a := by
  obtain ⟨dx, h⟩ := R.ins
  exact ne_of R.lst h (fun z => nomatch z)
theorem RdAt.put {C dx : Addr} {H : Hp} {a l : Addr} {s : Str} {i : Nat} {ns : List Str} (R : RdAt C H a l s i ns) (j : Nat) (h : i ≤ j := by omega) : RdAt C (upd H a (.ins C dx (rdF s j l))) a l s j ns ∧ MB a l H (upd H a (.ins C dx (rdF s j l))) :=
  ⟨⟨⟨dx, upd_same⟩, by rw [upd_ne R.ne]; exact R.lst, Nat.le_trans R.few h⟩, fun b o n _ h => by rw [upd_ne n]; exact h⟩
theorem RdAt.same {C : Addr} {H H' : Hp} {a l : Addr} {s : Str} {i : Nat} {ns : List Str} (R : RdAt C H a l s i ns) (z : Same H H') : RdAt C H' a l s i ns := by
  obtain ⟨dx, h⟩ := R.ins
  exact ⟨⟨dx, z _ _ h⟩, z _ _ R.lst, R.few⟩
section
variable {P : Program} {w : World} {K : PySem.W.Frag} {mg : Str → Option Value} {base : Heap} {C : Addr}
/-- the blanks are passed by; the next sign -/
def spSkip (C : Addr) : Sp := fun vs H Q _ => match vs with
  | [.ref a] => ∃ l s i ns, RdAt C H a l s i ns ∧ i ≤ s.length ∧ s.length ≤ 100 ∧ ∀ H', RdAt C H' a l s (skip s i) ns → MB a l H H' → Q (.str (one s (skip s i))) H'
  | _ => False
abbrev sSkip : Stmt := inClass (topS 11) 1
abbrev nSkip : List Str := ["self"]
abbrev pSkip : List Str := ["self"]
theorem scSkip : FnScope nSkip pSkip (defScope sSkip) := ⟨rfl, rfl, rfl, by decide +kernel, rfl, by decide +kernel, by decide +kernel⟩
theorem one_sp {s : Str} {i : Nat} : (V.str (one s i) = V.str " ") ↔ cp s i = some 32 := by
  unfold one
  constructor
  · intro h
    split at h
    · rename_i c hc
      rw [hc]
      injection h with h
      have : (#[c] : Array Nat) = #[32] := congrArg Str.cps h
      simpa using this
    · injection h with h
      exact absurd (congrArg (fun z => z.cps.size) h) (by decide)
  · intro h
    rw [h]
    rfl
theorem ok_skip {f : Addr} {fd : FuncData} (cl : Cls K C) (n1 : NoAttr K C "chars") (n2 : NoAttr K C "spot") (F : Fun K "skip" "Reader.skip" sSkip f fd) : FnOk P w K mg base CX0 1 f fd pSkip (spSkip C) := by
  refine F.ok scSkip (fun vs H Q E h => ?_) (fun cdv A outer s H vs Q E hr h => ?_)
  · unfold spSkip at h
    split at h
    · rfl
    · exact h.elim
  · refine ⟨_, (pss_cons (ps_while PassesOwn.never (ct_cmp op_eq (pe_slice sl_str (pe_fld (cv 0) rfl) (po_some (pe_fld (cv 0) rfl)) (po_some (pe_op c_addI (pe_fld (cv 0) rfl) pe_int))) pe_str (nomark _))
  (pss_one (ps_fldaug (cv 0) pe_int ip_add)))
  (pss_one (ps_ret (pe_slice sl_str (pe_fld (cv 0) rfl) (po_some (pe_fld (cv 0) rfl)) (po_some (pe_op c_addI (pe_fld (cv 0) rfl) pe_int)))))), ?_⟩
    unfold spSkip at h
    split at h
    · rename_i a
      obtain ⟨l, s, i, ns, R, hi, hn, q⟩ := h
      have sz : s.length ≤ sizeLine := Nat.le_trans hn (by decide)
      refine ⟨fun m σ H' => ∃ j, m = s.length - j ∧ j ≤ s.length ∧ i ≤ j ∧ skip s j = skip s i ∧ RdAt C H' a l s j ns ∧ MB a l H H' ∧ σ = [some (.ref a)], ⟨_, i, rfl, hi, Nat.le_refl _, rfl, R, MB.refl, rfl⟩, ?_⟩
      rintro m σ H1 ⟨j, rfl, hj, hij, hs, R1, M1, rfl⟩
      obtain ⟨dx, ha⟩ := R1.ins
      obtain ⟨r1, r2, r3⟩ := rdF_at s j l
      refine ⟨a, C, dx, _, _, rfl, ha, cl, n1, r1, a, C, dx, _, _, rfl, ha, cl, n2, r2, _, rfl, a, C, dx, _, _, rfl, ha, cl, n2, r2, _, rfl, s, rfl, sz, ?_⟩
      rw [cut_one]
      refine ⟨rfl, iteD (fun hsp => ?_) (fun hsp => ?_)⟩
      · have hc := one_sp.mp hsp
        have lt := cp_lt hc
        refine ⟨fun σ' H' => ∃ j', j' = j + 1 ∧ RdAt C H' a l s j' ns ∧ MB a l H H' ∧ σ' = [some (.ref a)], ?_, ?_⟩
        · rintro σ' H' ⟨j', rfl, R', M', rfl⟩
          exact ⟨_, by omega, j + 1, rfl, lt, by omega, (skip_sp hc).symm.trans hs, R', M', rfl⟩
        · have P1 := R1.put (dx := dx) (j + 1)
          exact ⟨a, C, dx, _, _, rfl, ha, cl, n2, r2, _, _, rfl, rfl, dx, _, ha, by show 3 < 1000; decide, j + 1, rfl, P1.1, M1.trans P1.2, rfl⟩
      · have hc : ¬ cp s j = some 32 := fun z => hsp (one_sp.mpr z)
        have ej := skip_no hc
        refine ⟨a, C, dx, _, _, rfl, ha, cl, n1, r1, a, C, dx, _, _, rfl, ha, cl, n2, r2, _, rfl, a, C, dx, _, _, rfl, ha, cl, n2, r2, _, rfl, s, rfl, sz, ?_⟩
        rw [cut_one]
        have e : skip s i = j := by rw [← hs, ej]
        rw [e] at q
        exact q H1 R1 M1
    · exact h.elim
end
end Rk

set_option Elab.async false
set_option linter.all false
set_option maxRecDepth 100000
set_option maxHeartbeats 4000000
namespace Rk
open PySem PySem.Spec PyProof.Rows L2 CL Fm
/-- the error of the text -/
def perr (Cp : Addr) (a l : Addr) (p : Nat) (H : Hp) (E : XK) : Prop := ∀ d H2, MB a l H H2 → H2 d = some (.xd [("index", .int (p : Int))]) → E (.ref Cp) (some d) H2
theorem perr.mb {Cp a l : Addr} {p : Nat} {H H1 : Hp} {E : XK} (h : perr Cp a l p H E) (m : MB a l H H1) : perr Cp a l p H1 E := fun d H2 m2 e => h d H2 (m.trans m2) e
def spNeed (C Cp : Addr) : Sp := fun vs H Q E => match vs with
  | [.ref a, .str z] => ∃ l s i ns c, z = ⟨#[c]⟩ ∧ RdAt C H a l s i ns ∧ i ≤ s.length ∧ s.length ≤ 100 ∧
    (if cp s (skip s i) = some c then ∀ H', RdAt C H' a l s (skip s i + 1) ns → MB a l H H' → Q .non H' else perr Cp a l (skip s i) H E)
  | _ => False
/-- a tree in the heap -/
inductive Tr (H : Hp) : V → T → Prop
  | num {b : Addr} {n : Int} : H b = some (.tup [.str "number", .int n]) → Tr H (.ref b) (.num n)
  | nam {b : Addr} {w : Str} : H b = some (.tup [.str "name", .str w]) → Tr H (.ref b) (.nam w)
  | neg {b : Addr} {v : V} {t : T} : H b = some (.tup [.str "minus", v]) → Tr H v t → Tr H (.ref b) (.neg t)
  | op {b : Addr} {o : Str} {v u : V} {t r : T} : H b = some (.tup [.str o, v, u]) → Tr H v t → Tr H u r → Tr H (.ref b) (.op o t r)
theorem Tr.mb {C a l : Addr} {s : Str} {i : Nat} {ns : List Str} {H H' : Hp} (R : RdAt C H a l s i ns) (m : MB a l H H') : ∀ {v : V} {t : T}, Tr H v t → Tr H' v t := by
  obtain ⟨dx, ha⟩ := R.ins
  have k : ∀ {b : Addr} {xs : List V}, H b = some (.tup xs) → H' b = some (.tup xs) := fun {b xs} h => m b _ (ne_of h ha fun z => nomatch z) (ne_of h R.lst fun z => nomatch z) h
  intro v t h
  induction h with
  | num h => exact .num (k h)
  | nam h => exact .nam (k h)
  | neg h _ i1 => exact .neg (k h) i1
  | op h _ _ i1 i2 => exact .op (k h) i1 i2
def rdRes (C Cp a l : Addr) (s : Str) (H : Hp) (Q : VK) (E : XK) : Option R → Prop
  | none => False
  | some (.err p) => perr Cp a l p H E
  | some (.ok t j ns) => ∀ v H', RdAt C H' a l s j ns → MB a l H H' → Tr H' v t → Q v H'
/-- what is read by a method without arguments -/
def spR (C Cp : Addr) (f : Nat) (md : Md) : Sp := fun vs H Q E => match vs with
  | [.ref a] => ∃ l s i ns, RdAt C H a l s i ns ∧ i ≤ s.length ∧ s.length ≤ 100 ∧ rdRes C Cp a l s H Q E (parse s f md i ns)
  | _ => False
/-- a word, at its first letter -/
def spWd (C Cp : Addr) (f : Nat) : Sp := fun vs H Q E => match vs with
  | [.ref a] => ∃ l s i ns c, cp s i = some c ∧ isL c = true ∧ RdAt C H a l s i ns ∧ i ≤ s.length ∧ s.length ≤ 100 ∧ rdRes C Cp a l s H Q E (parse s f .word i ns)
  | _ => False
def spW (C Cp : Addr) (f : Nat) : Sp := fun vs H Q E => match vs with
  | [.ref a, .str w] => ∃ l s i ns, RdAt C H a l s i ns ∧ i ≤ s.length ∧ s.length ≤ 100 ∧ rdRes C Cp a l s H Q E (parse s f (.pair w) i ns)
  | _ => False
def spInt (C Cp : Addr) : Sp := fun vs H Q E => match vs with
  | [.ref a] => ∃ l s i ns c, RdAt C H a l s i ns ∧ cp s i = some c ∧ isD c = true ∧ s.length ≤ 100 ∧ (match intEnd s i i with
    | .error p => perr Cp a l p H E
    | .ok e => ∀ v H', RdAt C H' a l s e ns → MB a l H H' → Tr H' v (.num (val (cut s i e))) → Q v H')
  | _ => False
/-- facts of the class and of the constants -/
structure Tf (P : Program) (w : World) (K : PySem.W.Frag) (mg : Str → Option Value) (base : Heap) (C Cp aP aR : Addr) : Prop where
  cl : Cls K C
  n1 : NoAttr K C "chars"
  n2 : NoAttr K C "spot"
  n3 : NoAttr K C "found_names"
  pe : ErrC P w K mg base "ParseError" Cp "index"
  skip : MetG P w K mg base CX0 3 C "skip" ["self"] (spSkip C)
  int : mg "int" = none
  dig : ∃ t, mg "DIGITS" = some (.str "0123456789" t)
  let_ : ∃ t, mg "LETTERS" = some (.str "abcdefghijklmnopqrstuvwxyz" t)
  md : ∃ t, mg "MAX_DIGITS" = some (.int 31 t)
  ml : ∃ t, mg "MAX_LETTERS" = some (.int 8 t)
  gP : mg "PAIRS" = some (.ref aP)
  gR : mg "RESERVED" = some (.ref aR)
  tP : ∀ H, SqT K H aP [.str "min", .str "max"]
  tR : ∀ H, SqT K H aR [.str "min", .str "max", .str "self"]
theorem one_eq {s : Str} {i c : Nat} : (V.str (one s i) = V.str ⟨#[c]⟩) ↔ cp s i = some c := by
  unfold one
  constructor
  · intro h
    split at h
    · rename_i c' hc
      rw [hc]
      injection h with h
      have : (#[c'] : Array Nat) = #[c] := congrArg Str.cps h
      simpa using this
    · injection h with h
      have := congrArg (fun z => z.cps.size) h
      simp at this
  · intro h
    rw [h]
theorem one_nil {s : Str} {i : Nat} : (V.str (one s i) = V.str "") ↔ cp s i = none := by
  unfold one
  constructor
  · intro h
    split at h
    · injection h with h
      have := congrArg (fun z => z.cps.size) h
      exact absurd this (by simp; decide)
    · assumption
  · intro h
    rw [h]
    rfl
section
variable {P : Program} {w : World} {K : PySem.W.Frag} {mg : Str → Option Value} {base : Heap} {C Cp aP aR : Addr}
abbrev sNeed : Stmt := inClass (topS 11) 2
abbrev nNeed : List Str := ["self", "sign"]
abbrev pNeed : List Str := ["self", "sign"]
theorem scNeed : FnScope nNeed pNeed (defScope sNeed) := ⟨rfl, rfl, rfl, by decide +kernel, rfl, by decide +kernel, by decide +kernel⟩
abbrev sRInt : Stmt := inClass (topS 11) 7
abbrev nRInt : List Str := ["self", "begin", "sign"]
abbrev pRInt : List Str := ["self"]
theorem scRInt : FnScope nRInt pRInt (defScope sRInt) := ⟨rfl, rfl, rfl, by decide +kernel, rfl, by decide +kernel, by decide +kernel⟩
theorem raise_at {a l : Addr} {p : Nat} {H H1 : Hp} {E : XK} (h : perr Cp a l p H E) (m : MB a l H H1) : ∀ d H2, H1 d = none → Same H1 H2 → H2 d = some (.xd [("index", .int (p : Int))]) → E (.ref Cp) (some d) H2 := fun d H2 _ s e => h d H2 (m.trans (.of s)) e
theorem ok_need {f : Addr} {fd : FuncData} (T : Tf P w K mg base C Cp aP aR) (F : Fun K "need" "Reader.need" sNeed f fd) : FnM P w K mg base (L2.CX P w) 10 f fd pNeed (spNeed C Cp) := by
  refine F.okM scNeed (fun vs H Q E h => ?_) (fun cdv A outer s H vs Q E hr h => ?_)
  · unfold spNeed at h
    split at h
    · rfl
    · exact h.elim
  · refine ⟨_, (pss_cons (ps_if (ct_cmp op_ne (pe_mg0 T.skip T.cl pass0 hr (by omega) (cv 0)) (cv 1) (nomark _))
  (pss_one (ps_raise1 T.pe rfl (hr.mono (by omega)) (L2.takes_of rfl rfl rfl rfl) (pe_fld (cv 0) rfl)))
  pss_nil)
  (pss_one (ps_fldaug (cv 0) pe_int ip_add))), ?_⟩
    unfold spNeed at h
    split at h
    · rename_i a z
      obtain ⟨l, s, i, ns, c, rfl, R, hi, hn, q⟩ := h
      obtain ⟨dx, ha⟩ := R.ins
      refine ⟨a, dx, _, rfl, ha, rdF_no s i l _ (by simp), l, s, i, ns, R, hi, hn, fun H1 R1 M1 => ⟨rfl, ?_⟩⟩
      obtain ⟨dx, ha1⟩ := R1.ins
      obtain ⟨r1, r2, r3⟩ := rdF_at s (skip s i) l
      by_cases hc : cp s (skip s i) = some c
      · rw [if_pos hc] at q
        rw [decide_eq_true (one_eq.mpr hc)]
        have P1 := R1.put (dx := dx) (skip s i + 1)
        exact ⟨a, C, dx, _, _, rfl, ha1, T.cl, T.n2, r2, _, _, rfl, rfl, dx, _, ha1, by show 3 < 1000; decide, q _ P1.1 (M1.trans P1.2)⟩
      · rw [if_neg hc] at q
        rw [decide_eq_false (fun z => hc (one_eq.mp z))]
        exact ⟨a, C, dx, _, _, rfl, ha1, T.cl, T.n2, r2, raise_at q M1⟩
    · exact h.elim
theorem isD_mem {c : Nat} : decide (c ∈ ("0123456789" : Str).cps.toList) = isD c := by
  rw [show ("0123456789" : Str).cps.toList = [48, 49, 50, 51, 52, 53, 54, 55, 56, 57] by decide +kernel]
  unfold isD
  rw [Bool.eq_iff_iff]
  simp only [List.mem_cons, List.not_mem_nil, or_false, decide_eq_true_eq]
  omega
theorem isL_mem {c : Nat} : decide (c ∈ ("abcdefghijklmnopqrstuvwxyz" : Str).cps.toList) = isL c := by
  rw [show ("abcdefghijklmnopqrstuvwxyz" : Str).cps.toList = [97, 98, 99, 100, 101, 102, 103, 104, 105, 106, 107, 108, 109, 110, 111, 112, 113, 114, 115, 116, 117, 118, 119, 120, 121, 122] by decide +kernel]
  unfold isL
  rw [Bool.eq_iff_iff]
  simp only [List.mem_cons, List.not_mem_nil, or_false, decide_eq_true_eq]
  omega
theorem cut_digits {s : Str} {i j : Nat} (hj : j ≤ s.length) (h : ∀ k, i ≤ k → k < j → ∃ c, cp s k = some c ∧ isD c = true) : NumText.AllDigits (cut s i j).cps.toList := by
  intro c hc
  have hc : c ∈ (s.cps.toList.drop i).take (j - i) := by simpa [cut] using hc
  obtain ⟨k, hk, e⟩ := List.mem_iff_getElem.mp hc
  have hk' : k < j - i := by have := hk; rw [List.length_take] at this; omega
  obtain ⟨c', h1, h2⟩ := h (i + k) (by omega) (by omega)
  have : c' = c := by
    unfold cp at h1
    rw [List.getElem_take, List.getElem_drop] at e
    obtain ⟨hh, h3⟩ := Array.getElem?_eq_some_iff.mp h1
    rw [← h3, ← e]
    simp
  rw [← this]
  exact of_decide_eq_true h2
theorem cut_len {s : Str} {i j : Nat} (hj : j ≤ s.length) : (cut s i j).length = j - i := by
  show (((s.cps.toList.drop i).take (j - i)).toArray).size = j - i
  rw [List.size_toArray, List.length_take, List.length_drop]
  have : s.cps.toList.length = s.length := by simp; rfl
  omega
theorem ok_int {f : Addr} {fd : FuncData} (T : Tf P w K mg base C Cp aP aR) (F : Fun K "read_integer" "Reader.read_integer" sRInt f fd) : FnM P w K mg base (L2.CX P w) 10 f fd pRInt (spInt C Cp) := by
  have B := T
  obtain ⟨_, hD⟩ := T.dig
  obtain ⟨_, hMD⟩ := T.md
  refine F.okM scRInt (fun vs H Q E h => ?_) (fun cdv A outer s H vs Q E hr h => ?_)
  · unfold spInt at h
    split at h
    · rfl
    · exact h.elim
  · refine ⟨_, (pss_cons (ps_set (i := 1) scRInt.nd rfl (.inl rfl) (pe_fld (cv 0) rfl))
  (pss_cons (ps_whileW (L2.passes_of rfl) (ptw_and2 (ptw_cmp op_ne (pew_named (i := 2) scRInt.nd rfl (.inl rfl) (pew_of (pe_slice sl_str (pe_fld (cv 0) rfl) (po_some (pe_fld (cv 0) rfl)) (po_some (pe_op c_addI (pe_fld (cv 0) rfl) pe_int))))) pe_str (nomark _)) (ct_cmp op_inS (cv 2) (pe_glob (v := .str "0123456789") (by rfl) hD ⟨_, rfl⟩) (by rfl)))
  (pss_cons (ps_if (PW.pt (pw_or (ct_cmp op_eq (pe_op c_sub (pe_fld (cv 0) rfl) (cv 1)) (pe_glob (v := .int 31) (by rfl) hMD ⟨_, rfl⟩) (nomark _)) (pw_or1 (PW.pt (pw_and (ct_cmp op_eq (pe_ix ix_str (pe_fld (cv 0) rfl) (cv 1) (fun _ _ => rfl)) pe_str (nomark _)) (pw_and1 (ct_cmp c_gt (pe_fld (cv 0) rfl) (cv 1) (nomark _))))))))
  (pss_one (ps_raise1 T.pe rfl (hr.mono (by omega)) (L2.takes_of rfl rfl rfl rfl) (pe_fld (cv 0) rfl)))
  pss_nil)
  (pss_one (ps_fldaug (cv 0) pe_int ip_add))) pss_nil)
  (pss_one (ps_ret (pe_tup (pa_cons pe_str (pa_cons (pe_callTy call_int_str (by rfl) B.int (by decide +kernel) (pa_cons (pe_slice sl_str (pe_fld (cv 0) rfl) (po_some (cv 1)) (po_some (pe_fld (cv 0) rfl))) pa_nil)) pa_nil))))))), ?_⟩
    unfold spInt at h
    split at h
    · rename_i a
      obtain ⟨l, s, i, ns, c0, R, hc0, hd0, hn, q⟩ := h
      have sz : s.length ≤ sizeLine := Nat.le_trans hn (by decide)
      have hi := cp_lt hc0
      obtain ⟨dx, ha⟩ := R.ins
      obtain ⟨r1, r2, r3⟩ := rdF_at s i l
      refine ⟨a, C, dx, _, _, rfl, ha, T.cl, T.n2, r2, ?_⟩
      refine ⟨fun m σ H' => ∃ j sg, m = s.length - j ∧ i ≤ j ∧ j ≤ s.length ∧ (∀ k, i ≤ k → k < j → ∃ c, cp s k = some c ∧ isD c = true) ∧ intEnd s i j = intEnd s i i ∧ RdAt C H' a l s j ns ∧ MB a l H H' ∧ σ = [some (.ref a), some (.int (i : Int)), sg], ⟨_, i, _, rfl, Nat.le_refl _, by omega, fun k h1 h2 => by omega, rfl, R, MB.refl, rfl⟩, ?_⟩
      rintro m σ H1 ⟨j, sg, rfl, hij, hjn, hd, he, R1, M1, rfl⟩
      obtain ⟨dx, ha1⟩ := R1.ins
      obtain ⟨r1, r2, r3⟩ := rdF_at s j l
      refine ⟨a, C, dx, _, _, rfl, ha1, T.cl, T.n1, r1, a, C, dx, _, _, rfl, ha1, T.cl, T.n2, r2, _, rfl, a, C, dx, _, _, rfl, ha1, T.cl, T.n2, r2, _, rfl, s, rfl, sz, ?_⟩
      rw [cut_one]
      refine ⟨rfl, _, rfl, ?_⟩
      cases hc : cp s j with
      | none =>
        rw [decide_eq_true (one_nil.mpr hc)]
        have nx : ¬ ∃ c, cp s j = some c ∧ isD c = true := fun ⟨c, h1, _⟩ => by rw [hc] at h1; exact nomatch h1
        have e2 : intEnd s i i = .ok j := he.symm.trans (by rw [intEnd, dif_neg nx])
        rw [e2] at q
        have ij : i < j := Nat.lt_of_le_of_ne hij fun z => nx (z ▸ ⟨c0, hc0, hd0⟩)
        refine ⟨a, C, dx, _, _, rfl, ha1, T.cl, T.n1, r1, _, rfl, a, C, dx, _, _, rfl, ha1, T.cl, T.n2, r2, _, rfl, s, rfl, sz, ?_⟩
        rw [cut_cut hjn hij]
        have cl := cut_len (i := i) hjn
        refine ⟨_, val (cut s i j), rfl, PySem.intText_digits (cut_digits hjn hd) (fun z => ?_) (by omega), by omega, by show 2 ≤ sizeLine; decide, fun v nv => q (.ref v) _ (R1.same (same_new nv)) (M1.trans (.of (same_new nv))) (.num upd_same)⟩
        have : (cut s i j).length = 0 := by show (cut s i j).cps.size = 0; rw [← Array.length_toList, z]; rfl
        omega
      | some c =>
        rw [decide_eq_false (fun z => by have := one_nil.mp z; rw [hc] at this; exact nomatch this)]
        refine ⟨c, _, one_eq.mpr hc, rfl, ?_⟩
        rw [isD_mem]
        cases hdc : isD c with
        | false =>
          have nx : ¬ ∃ c, cp s j = some c ∧ isD c = true := fun ⟨c', h1, h2⟩ => by
            rw [hc] at h1
            cases h1
            rw [hdc] at h2
            exact nomatch h2
          have e2 : intEnd s i i = .ok j := he.symm.trans (by rw [intEnd, dif_neg nx])
          rw [e2] at q
          have ij : i < j := Nat.lt_of_le_of_ne hij fun z => nx (z ▸ ⟨c0, hc0, hd0⟩)
          refine ⟨a, C, dx, _, _, rfl, ha1, T.cl, T.n1, r1, _, rfl, a, C, dx, _, _, rfl, ha1, T.cl, T.n2, r2, _, rfl, s, rfl, sz, ?_⟩
          rw [cut_cut hjn hij]
          have cl := cut_len (i := i) hjn
          refine ⟨_, val (cut s i j), rfl, PySem.intText_digits (cut_digits hjn hd) (fun z => ?_) (by omega), by omega, by show 2 ≤ sizeLine; decide, fun v nv => q (.ref v) _ (R1.same (same_new nv)) (M1.trans (.of (same_new nv))) (.num upd_same)⟩
          have : (cut s i j).length = 0 := by show (cut s i j).cps.size = 0; rw [← Array.length_toList, z]; rfl
          omega
        | true =>
          have yes : ∃ c, cp s j = some c ∧ isD c = true := ⟨c, hc, hdc⟩
          have lt := cp_lt hc
          have step : intEnd s i j = if j - i = 31 ∨ (cp s i = some 48 ∧ i < j) then .error j else intEnd s i (j + 1) := by rw [intEnd, dif_pos yes]
          have bad : (j - i = 31 ∨ (cp s i = some 48 ∧ i < j)) → perr Cp a l j H E := fun z => by
            rw [if_pos z] at step
            rw [← he, step] at q
            exact q
          refine ⟨fun σ' H' => ∃ j', j' = j + 1 ∧ RdAt C H' a l s j' ns ∧ MB a l H H' ∧ σ' = [some (.ref a), some (.int (i : Int)), some (.str (one s j))] ∧ ¬ (j - i = 31 ∨ (cp s i = some 48 ∧ i < j)), ?_, ?_⟩
          · rintro σ' H' ⟨j', rfl, R', M', rfl, nb⟩
            refine ⟨_, by omega, j + 1, _, rfl, by omega, lt, fun k h1 h2 => ?_, ?_, R', M', rfl⟩
            · by_cases hk : k = j
              · exact hk ▸ yes
              · exact hd k h1 (by omega)
            · rw [if_neg nb] at step
              rw [← step]; exact he
          · have fin : ¬ (j - i = 31 ∨ (cp s i = some 48 ∧ i < j)) → ∃ H', H' = upd H1 a (.ins C dx (rdF s (j + 1) l)) ∧ RdAt C H' a l s (j + 1) ns ∧ MB a l H H' := fun _ => by
              have P1 := R1.put (dx := dx) (j + 1)
              exact ⟨_, rfl, P1.1, M1.trans P1.2⟩
            refine ⟨a, C, dx, _, _, rfl, ha1, T.cl, T.n2, r2, rfl, iteD (fun h31 => ?_) (fun h31 => ?_)⟩
            · refine ⟨a, C, dx, _, _, rfl, ha1, T.cl, T.n2, r2, raise_at (bad (.inl ?_)) M1⟩
              injection h31 with h31
              omega
            · have n31 : ¬ j - i = 31 := fun z => h31 (congrArg V.int (by omega : (j : Int) - (i : Int) = 31))
              refine ⟨a, C, dx, _, _, rfl, ha1, T.cl, T.n1, r1, s, _, c0, rfl, rfl, sz, ?_, rfl, iteD (fun h0 => ?_) (fun h0 => ?_)⟩
              · unfold atI ixN
                have hl : s.cps.toList.length = s.length := by simp; rfl
                rw [if_pos (by omega), if_pos (by omega), Option.bind_some, Int.toNat_natCast]
                unfold cp at hc0
                simpa using hc0
              · have e0 : cp s i = some 48 := by
                  rw [hc0]
                  injection h0 with h0
                  have : (#[c0] : Array Nat) = #[48] := congrArg Str.cps h0
                  simpa using this
                refine ⟨a, C, dx, _, _, rfl, ha1, T.cl, T.n2, r2, iteD (fun hlt => ?_) (fun hlt => ?_)⟩
                · exact ⟨a, C, dx, _, _, rfl, ha1, T.cl, T.n2, r2, raise_at (bad (.inr ⟨e0, by omega⟩)) M1⟩
                · have nb : ¬ (j - i = 31 ∨ (cp s i = some 48 ∧ i < j)) := fun z => z.elim n31 fun z => hlt (by omega)
                  have P1 := R1.put (dx := dx) (j + 1)
                  exact ⟨a, C, dx, _, _, rfl, ha1, T.cl, T.n2, r2, _, _, rfl, rfl, dx, _, ha1, by show 3 < 1000; decide, j + 1, rfl, P1.1, M1.trans P1.2, rfl, nb⟩
              · have nb : ¬ (j - i = 31 ∨ (cp s i = some 48 ∧ i < j)) := fun z => z.elim n31 fun z => h0 (by
                  have := z.1
                  rw [hc0] at this
                  injection this with this
                  rw [this]
                  rfl)
                have P1 := R1.put (dx := dx) (j + 1)
                exact ⟨a, C, dx, _, _, rfl, ha1, T.cl, T.n2, r2, _, _, rfl, rfl, dx, _, ha1, by show 3 < 1000; decide, j + 1, rfl, P1.1, M1.trans P1.2, rfl, nb⟩
    · exact h.elim
end
end Rk

set_option Elab.async false
set_option linter.all false
set_option maxRecDepth 100000
set_option maxHeartbeats 4000000
namespace Rk
open PySem PySem.Spec PyProof.Rows L2 CL Fm
structure Tg (P : Program) (w : World) (K : PySem.W.Frag) (mg : Str → Option Value) (base : Heap) (C Cp aP aR : Addr) : Prop extends Tf P w K mg base C Cp aP aR where
  need : MetG P w K mg base (L2.CX P w) 10 C "need" ["self", "sign"] (spNeed C Cp)
  rint : MetG P w K mg base (L2.CX P w) 10 C "read_integer" ["self"] (spInt C Cp)
/-- the methods that read, by the depth -/
structure Ih (P : Program) (w : World) (K : PySem.W.Frag) (mg : Str → Option Value) (base : Heap) (C Cp : Addr) (f : Nat) : Prop where
  sum : MetG P w K mg base (L2.CX P w) (f + 11) C "read_sum" ["self"] (spR C Cp f .sum)
  term : MetG P w K mg base (L2.CX P w) (f + 11) C "read_term" ["self"] (spR C Cp f .term)
  factor : MetG P w K mg base (L2.CX P w) (f + 11) C "read_factor" ["self"] (spR C Cp f .factor)
  word : MetG P w K mg base (L2.CX P w) (f + 11) C "read_word" ["self"] (spWd C Cp f)
  pair : MetG P w K mg base (L2.CX P w) (f + 11) C "read_pair" ["self", "word"] (spW C Cp f)
/-- what is read ends within the text -/
theorem need_le {s : Str} {c i : Nat} {k : Nat → Option R} {t : T} {j : Nat} {ms : List Str} (h : Fm.need s c i k = some (.ok t j ms)) : ∃ i', i' ≤ s.length ∧ i ≤ i' ∧ k i' = some (.ok t j ms) := by
  unfold Fm.need at h
  split at h
  · rename_i hc
    have := cp_lt hc
    have := skip_le (s := s) i
    exact ⟨_, by omega, by omega, h⟩
  · cases h
theorem intEnd_le {s : Str} {b : Nat} : ∀ (n i e : Nat), n = s.length - i → i ≤ s.length → intEnd s b i = .ok e → i ≤ e ∧ e ≤ s.length := by
  intro n
  induction n with
  | zero =>
    intro i e hn hi h
    rw [intEnd] at h
    split at h
    · rename_i hx
      obtain ⟨c, hc, _⟩ := hx
      have := cp_lt hc
      omega
    · cases h
      exact ⟨Nat.le_refl _, hi⟩
  | succ n ih =>
    intro i e hn hi h
    rw [intEnd] at h
    split at h
    · split at h
      · cases h
      · have := ih (i + 1) e (by omega) (by omega) h
        omega
    · cases h
      exact ⟨Nat.le_refl _, hi⟩
theorem wordEnd_le {s : Str} {b : Nat} : ∀ (n i e : Nat), n = s.length - i → i ≤ s.length → wordEnd s b i = .ok e → i ≤ e ∧ e ≤ s.length := by
  intro n
  induction n with
  | zero =>
    intro i e hn hi h
    rw [wordEnd] at h
    split at h
    · rename_i hx
      obtain ⟨c, hc, _⟩ := hx
      have := cp_lt hc
      omega
    · cases h
      exact ⟨Nat.le_refl _, hi⟩
  | succ n ih =>
    intro i e hn hi h
    rw [wordEnd] at h
    split at h
    · split at h
      · cases h
      · have := ih (i + 1) e (by omega) (by omega) h
        omega
    · cases h
      exact ⟨Nat.le_refl _, hi⟩
theorem parse_le {s : Str} : ∀ (f : Nat) (md : Md) (i : Nat) (ns : List Str) (t : T) (j : Nat) (ms : List Str), i ≤ s.length → parse s f md i ns = some (.ok t j ms) → j ≤ s.length := by
  intro f
  induction f with
  | zero => intro md i ns t j ms hi h; cases md <;> cases h
  | succ f ih =>
    intro md i ns t j ms hi h
    have hsk := skip_end (s := s) i hi
    cases md with
    | sum =>
      simp only [parse] at h
      split at h
      · rename_i t1 j1 m1 h1
        exact ih _ _ _ _ _ _ (ih _ _ _ _ _ _ hi h1) h
      · rename_i hx
        exact ih _ _ _ _ _ _ hi h
    | sl t0 =>
      simp only [parse] at h
      split at h
      · rename_i hc
        have lt : skip s i < s.length := hc.elim cp_lt cp_lt
        split at h
        · rename_i u j1 m1 h1
          exact ih _ _ _ _ _ _ (ih _ _ _ _ _ _ lt h1) h
        · exact ih _ _ _ _ _ _ lt h
      · cases h
        exact hsk
    | term =>
      simp only [parse] at h
      split at h
      · rename_i t1 j1 m1 h1
        exact ih _ _ _ _ _ _ (ih _ _ _ _ _ _ hi h1) h
      · exact ih _ _ _ _ _ _ hi h
    | tl t0 =>
      simp only [parse] at h
      split at h
      · rename_i hc
        have lt := cp_lt hc
        split at h
        · rename_i u j1 m1 h1
          exact ih _ _ _ _ _ _ (ih _ _ _ _ _ _ lt h1) h
        · exact ih _ _ _ _ _ _ lt h
      · split at h
        · split at h
          · rename_i hc
            have lt := cp_lt hc
            split at h
            · rename_i u j1 m1 h1
              exact ih _ _ _ _ _ _ (ih _ _ _ _ _ _ (by omega) h1) h
            · exact ih _ _ _ _ _ _ (by omega) h
          · cases h
        · cases h
          exact hsk
    | factor =>
      simp only [parse] at h
      split at h
      · cases h
      · rename_i c hc
        have lt := cp_lt hc
        split at h
        · split at h
          · rename_i t1 j1 m1 h1
            cases h
            exact ih _ _ _ _ _ _ lt h1
          · exact ih _ _ _ _ _ _ lt h
        · split at h
          · split at h
            · rename_i t1 j1 m1 h1
              obtain ⟨i', l1, _, l3⟩ := need_le h
              cases l3
              exact l1
            · exact ih _ _ _ _ _ _ lt h
          · split at h
            · split at h
              · cases h
              · rename_i e he
                cases h
                exact (intEnd_le _ _ _ rfl hsk he).2
            · split at h
              · exact ih _ _ _ _ _ _ hsk h
              · cases h
    | word =>
      simp only [parse] at h
      split at h
      · cases h
      · rename_i e he
        have le := (wordEnd_le _ _ _ rfl hi he).2
        split at h
        · exact ih _ _ _ _ _ _ le h
        · split at h
          · cases h
          · cases h
            exact le
    | pair w =>
      simp only [parse] at h
      obtain ⟨i1, a1, _, h⟩ := need_le h
      split at h
      · rename_i t1 j1 m1 h1
        obtain ⟨i2, a2, _, h⟩ := need_le h
        split at h
        · rename_i t2 j2 m2 h2
          obtain ⟨i3, a3, _, h⟩ := need_le h
          cases h
          exact a3
        · exact ih _ _ _ _ _ _ a2 h
      · exact ih _ _ _ _ _ _ a1 h
theorem parse_mono {s : Str} : ∀ (g : Nat) (md : Md) (i : Nat) (ns : List Str) (r : R), parse s g md i ns = some r → parse s (g + 1) md i ns = some r := by
  intro g
  induction g with
  | zero => intro md i ns r h; cases md <;> cases h
  | succ g ih =>
    intro md i ns r h
    cases md with
    | sum =>
      rw [parse] at h ⊢
      cases h1 : parse s g .term i ns with
      | none => rw [h1] at h; cases h
      | some r1 =>
        rw [h1] at h
        rw [ih _ _ _ _ h1]
        cases r1 with
        | err p => exact h
        | ok t j ms => exact ih _ _ _ _ h
    | sl t0 =>
      rw [parse] at h ⊢
      split
      · rename_i hc
        rw [if_pos hc] at h
        cases h1 : parse s g .term (skip s i + 1) ns with
        | none => rw [h1] at h; cases h
        | some r1 =>
          rw [h1] at h
          rw [ih _ _ _ _ h1]
          cases r1 with
          | err p => exact h
          | ok t j ms => exact ih _ _ _ _ h
      · rename_i hc
        rw [if_neg hc] at h
        exact h
    | term =>
      rw [parse] at h ⊢
      cases h1 : parse s g .factor i ns with
      | none => rw [h1] at h; cases h
      | some r1 =>
        rw [h1] at h
        rw [ih _ _ _ _ h1]
        cases r1 with
        | err p => exact h
        | ok t j ms => exact ih _ _ _ _ h
    | tl t0 =>
      rw [parse] at h ⊢
      split
      · rename_i hc
        rw [if_pos hc] at h
        cases h1 : parse s g .factor (skip s i + 1) ns with
        | none => rw [h1] at h; cases h
        | some r1 =>
          rw [h1] at h
          rw [ih _ _ _ _ h1]
          cases r1 with
          | err p => exact h
          | ok t j ms => exact ih _ _ _ _ h
      · rename_i hc
        rw [if_neg hc] at h
        split
        · rename_i hd
          rw [if_pos hd] at h
          split
          · rename_i he
            rw [if_pos he] at h
            cases h1 : parse s g .factor (skip s i + 2) ns with
            | none => rw [h1] at h; cases h
            | some r1 =>
              rw [h1] at h
              rw [ih _ _ _ _ h1]
              cases r1 with
              | err p => exact h
              | ok t j ms => exact ih _ _ _ _ h
          · rename_i he
            rw [if_neg he] at h
            exact h
        · rename_i hd
          rw [if_neg hd] at h
          exact h
    | factor =>
      rw [parse] at h ⊢
      cases hc : cp s (skip s i) with
      | none => rw [hc] at h; exact h
      | some c =>
        rw [hc] at h
        dsimp only at h ⊢
        split
        · rename_i h45
          rw [if_pos h45] at h
          cases h1 : parse s g .factor (skip s i + 1) ns with
          | none => rw [h1] at h; cases h
          | some r1 =>
            rw [h1] at h
            rw [ih _ _ _ _ h1]
            exact h
        · rename_i h45
          rw [if_neg h45] at h
          split
          · rename_i h40
            rw [if_pos h40] at h
            cases h1 : parse s g .sum (skip s i + 1) ns with
            | none => rw [h1] at h; cases h
            | some r1 =>
              rw [h1] at h
              rw [ih _ _ _ _ h1]
              exact h
          · rename_i h40
            rw [if_neg h40] at h
            split
            · rename_i hd
              rw [if_pos hd] at h
              exact h
            · rename_i hd
              rw [if_neg hd] at h
              split
              · rename_i hl
                rw [if_pos hl] at h
                exact ih _ _ _ _ h
              · rename_i hl
                rw [if_neg hl] at h
                exact h
    | word =>
      rw [parse] at h ⊢
      cases he : wordEnd s i i with
      | error p => rw [he] at h; exact h
      | ok e =>
        rw [he] at h
        dsimp only at h ⊢
        split
        · rename_i hp
          rw [if_pos hp] at h
          exact ih _ _ _ _ h
        · rename_i hp
          rw [if_neg hp] at h
          exact h
    | pair w =>
      rw [parse] at h ⊢
      unfold Fm.need at h ⊢
      split
      · rename_i h40
        rw [if_pos h40] at h
        dsimp only at h ⊢
        cases h1 : parse s g .sum (skip s i + 1) ns with
        | none => rw [h1] at h; cases h
        | some r1 =>
          rw [h1] at h
          rw [ih _ _ _ _ h1]
          cases r1 with
          | err p => exact h
          | ok t j ms =>
            dsimp only at h ⊢
            split
            · rename_i h44
              rw [if_pos h44] at h
              cases h2 : parse s g .sum (skip s j + 1) ms with
              | none => rw [h2] at h; cases h
              | some r2 =>
                rw [h2] at h
                rw [ih _ _ _ _ h2]
                exact h
            · rename_i h44
              rw [if_neg h44] at h
              exact h
      · rename_i h40
        rw [if_neg h40] at h
        exact h
theorem parse_up {s : Str} {g f : Nat} (h : g ≤ f) {md : Md} {i : Nat} {ns : List Str} {r : R} (e : parse s g md i ns = some r) : parse s f md i ns = some r := by
  induction h with
  | refl => exact e
  | step _ ih => exact parse_mono _ _ _ _ _ ih
section
variable {P : Program} {w : World} {K : PySem.W.Frag} {mg : Str → Option Value} {base : Heap} {C Cp aP aR : Addr} {f : Nat}
abbrev sRSum : Stmt := inClass (topS 11) 4
abbrev nRSum : List Str := ["self", "tree", "sign"]
abbrev pRSum : List Str := ["self"]
theorem scRSum : FnScope nRSum pRSum (defScope sRSum) := ⟨rfl, rfl, rfl, by decide +kernel, rfl, by decide +kernel, by decide +kernel⟩
abbrev sRTerm : Stmt := inClass (topS 11) 5
abbrev nRTerm : List Str := ["self", "tree", "sign"]
abbrev pRTerm : List Str := ["self"]
theorem scRTerm : FnScope nRTerm pRTerm (defScope sRTerm) := ⟨rfl, rfl, rfl, by decide +kernel, rfl, by decide +kernel, by decide +kernel⟩
abbrev sRFac : Stmt := inClass (topS 11) 6
abbrev nRFac : List Str := ["self", "sign", "tree"]
abbrev pRFac : List Str := ["self"]
theorem scRFac : FnScope nRFac pRFac (defScope sRFac) := ⟨rfl, rfl, rfl, by decide +kernel, rfl, by decide +kernel, by decide +kernel⟩
abbrev sRWord : Stmt := inClass (topS 11) 8
abbrev nRWord : List Str := ["self", "begin", "sign", "word"]
abbrev pRWord : List Str := ["self"]
theorem scRWord : FnScope nRWord pRWord (defScope sRWord) := ⟨rfl, rfl, rfl, by decide +kernel, rfl, by decide +kernel, by decide +kernel⟩
abbrev sRPair : Stmt := inClass (topS 11) 9
abbrev nRPair : List Str := ["self", "word", "one", "other"]
abbrev pRPair : List Str := ["self", "word"]
theorem scRPair : FnScope nRPair pRPair (defScope sRPair) := ⟨rfl, rfl, rfl, by decide +kernel, rfl, by decide +kernel, by decide +kernel⟩
end
end Rk

set_option Elab.async false
set_option linter.all false
set_option maxRecDepth 100000
set_option maxHeartbeats 4000000
namespace Rk
open PySem PySem.Spec PyProof.Rows L2 CL Fm
theorem inV2 {s : Str} {i c d : Nat} : inV (.str (one s i)) [.str ⟨#[c]⟩, .str ⟨#[d]⟩] = decide (cp s i = some c ∨ cp s i = some d) := by
  have e : ∀ x : Nat, (⟨#[x]⟩ : Str) == one s i ↔ cp s i = some x := fun x => by
    rw [beq_iff_eq, eq_comm]
    constructor
    · intro h; exact one_eq.mp (congrArg V.str h)
    · intro h; exact V.str.inj (one_eq.mpr h)
  rw [Bool.eq_iff_iff]
  simp only [inV, List.any_cons, List.any_nil, Bool.or_false, eqV, Bool.or_eq_true, decide_eq_true_eq, e]
section
variable {P : Program} {w : World} {K : PySem.W.Frag} {mg : Str → Option Value} {base : Heap} {C Cp aP aR : Addr} {f : Nat}
theorem ok_sum {fn : Addr} {fd : FuncData} (T : Tg P w K mg base C Cp aP aR) (IH : Ih P w K mg base C Cp f) (F : Fun K "read_sum" "Reader.read_sum" sRSum fn fd) : FnM P w K mg base (L2.CX P w) (f + 12) fn fd pRSum (spR C Cp (f + 1) .sum) := by
  refine F.okM scRSum (fun vs H Q E h => ?_) (fun cdv A outer s H vs Q E hr h => ?_)
  · unfold spR at h
    split at h
    · rfl
    · exact h.elim
  · refine ⟨_, (pss_cons (ps_set (i := 1) scRSum.nd rfl (.inl rfl) (pe_mg0 IH.term T.cl (passes_call (L2.takes_of rfl rfl rfl rfl) (fun _ _ _ _ h => h)) hr (by omega) (cv 0)))
  (pss_cons (ps_whileW (L2.passes_of rfl) (ptw_cmp op_in_seq (pew_named (i := 2) scRSum.nd rfl (.inl rfl) (pew_of (pe_mg0 T.skip T.cl pass0 hr (by omega) (cv 0)))) (pe_tup (pa_cons pe_str (pa_cons pe_str pa_nil))) (by rfl))
  (pss_cons (ps_fldaug (cv 0) pe_int ip_add)
  (pss_one (ps_set (i := 1) scRSum.nd rfl (.inl rfl) (pe_tup (pa_cons (cv 2) (pa_cons (cv 1) (pa_cons (pe_mg0 IH.term T.cl (passes_call (L2.takes_of rfl rfl rfl rfl) (fun _ _ _ _ h => h)) hr (by omega) (cv 0)) pa_nil))))))) pss_nil)
  (pss_one (ps_ret (cv 1))))), ?_⟩
    unfold spR at h
    split at h
    · rename_i a
      obtain ⟨l, s, i, ns, R, hi, hn, q⟩ := h
      obtain ⟨dx, ha⟩ := R.ins
      refine ⟨a, dx, _, rfl, ha, rdF_no s i l _ (by simp), l, s, i, ns, R, hi, hn, ?_⟩
      cases ht : parse s f .term i ns with
      | none =>
        have e : parse s (f + 1) .sum i ns = none := by rw [parse, ht]
        rw [e] at q
        exact q.elim
      | some r =>
        cases r with
        | err p =>
          have e : parse s (f + 1) .sum i ns = some (.err p) := by rw [parse, ht]
          rw [e] at q
          exact q
        | ok t j ms =>
          have e : parse s (f + 1) .sum i ns = parse s f (.sl t) j ms := by rw [parse, ht]
          rw [e] at q
          intro v H1 R1 M1 tr1
          have hj := parse_le _ _ _ _ _ _ _ hi ht
          refine ⟨fun m σ H' => ∃ t' j' ms' v' sg, m ≤ f ∧ parse s m (.sl t') j' ms' = parse s f (.sl t) j ms ∧ j' ≤ s.length ∧ RdAt C H' a l s j' ms' ∧ MB a l H H' ∧ Tr H' v' t' ∧ σ = [some (.ref a), some v', sg], ⟨f, t, j, ms, v, _, Nat.le_refl _, rfl, hj, R1, M1, tr1, rfl⟩, ?_⟩
          rintro m σ H2 ⟨t', j', ms', v', sg, hm, hp, hj', R2, M2, tr2, rfl⟩
          cases m with
          | zero =>
            rw [← hp] at q
            exact q.elim
          | succ g =>
            obtain ⟨dx, ha2⟩ := R2.ins
            refine ⟨a, dx, _, rfl, ha2, rdF_no s j' l _ (by simp), l, s, j', ms', R2, hj', hn, fun H3 R3 M3 => ?_⟩
            refine ⟨by show 2 ≤ sizeLine; decide, fun tp ntp => ⟨tp, _, rfl, .inr (.inl (.inl upd_same)), rfl, rfl, _, rfl, ?_⟩⟩
            have s4 := same_new (o := .tup [.str "+", .str "-"]) ntp
            have R4 := R3.same s4
            have M4 := (M2.trans M3).trans (.of s4)
            have tr4 := (tr2.mb R2 M3).mb R3 (.of s4)
            obtain ⟨dx, ha4⟩ := R4.ins
            obtain ⟨r1, r2, r3⟩ := rdF_at s (skip s j') l
            show if inV (.str (one s (skip s j'))) [.str ⟨#[43]⟩, .str ⟨#[45]⟩] = true then _ else _
            rw [inV2]
            refine iteD (fun hc => ?_) (fun hc => ?_)
            · have lt : skip s j' < s.length := hc.elim cp_lt cp_lt
              have P5 := R4.put (dx := dx) (skip s j' + 1)
              refine ⟨fun σ' H' => ∃ t2 j2 ms2 v2 sg2, parse s g (.sl t2) j2 ms2 = parse s f (.sl t) j ms ∧ j2 ≤ s.length ∧ RdAt C H' a l s j2 ms2 ∧ MB a l H H' ∧ Tr H' v2 t2 ∧ σ' = [some (.ref a), some v2, sg2], ?_, ?_⟩
              · rintro σ' H' ⟨t2, j2, ms2, v2, sg2, x1, x2, x3, x4, x5, rfl⟩
                exact ⟨g, Nat.lt_succ_self _, t2, j2, ms2, v2, sg2, by omega, x1, x2, x3, x4, x5, rfl⟩
              · refine ⟨a, C, dx, _, _, rfl, ha4, T.cl, T.n2, r2, _, _, rfl, rfl, dx, _, ha4, by show 3 < 1000; decide, ?_⟩
                refine ⟨a, dx, _, rfl, upd_same, rdF_no s (skip s j' + 1) l _ (by simp), l, s, skip s j' + 1, ms', P5.1, lt, hn, ?_⟩
                cases h2 : parse s g .term (skip s j' + 1) ms' with
                | none =>
                  have e2 : parse s (g + 1) (.sl t') j' ms' = none := by rw [parse, if_pos hc, h2]
                  rw [← hp, e2] at q
                  exact q.elim
                | some r =>
                  rw [parse_up (by omega) h2]
                  cases r with
                  | err p =>
                    have e2 : parse s (g + 1) (.sl t') j' ms' = some (.err p) := by rw [parse, if_pos hc, h2]
                    rw [← hp, e2] at q
                    exact perr.mb q (M4.trans P5.2)
                  | ok u k ls =>
                    have e2 : parse s (g + 1) (.sl t') j' ms' = parse s g (.sl (.op (one s (skip s j')) t' u)) k ls := by rw [parse, if_pos hc, h2]
                    intro v6 H6 R6 M6 tr6
                    refine ⟨by show 3 ≤ sizeLine; decide, fun b nb => ?_⟩
                    have s7 := same_new (o := .tup [.str (one s (skip s j')), v', v6]) nb
                    have tr7 := ((tr4.mb R4 P5.2).mb P5.1 M6).mb R6 (.of s7)
                    exact ⟨_, k, ls, _, _, e2.symm.trans hp, parse_le _ _ _ _ _ _ _ lt h2, R6.same s7, ((M4.trans P5.2).trans M6).trans (.of s7), .op upd_same tr7 (tr6.mb R6 (.of s7)), rfl⟩
            · have e2 : parse s (g + 1) (.sl t') j' ms' = some (.ok t' (skip s j') ms') := by rw [parse, if_neg hc]
              rw [← hp, e2] at q
              exact q v' _ R4 M4 tr4
    · exact h.elim
theorem ok_term {fn : Addr} {fd : FuncData} (T : Tg P w K mg base C Cp aP aR) (IH : Ih P w K mg base C Cp f) (F : Fun K "read_term" "Reader.read_term" sRTerm fn fd) : FnM P w K mg base (L2.CX P w) (f + 12) fn fd pRTerm (spR C Cp (f + 1) .term) := by
  refine F.okM scRTerm (fun vs H Q E h => ?_) (fun cdv A outer s H vs Q E hr h => ?_)
  · unfold spR at h
    split at h
    · rfl
    · exact h.elim
  · refine ⟨_, (pss_cons (ps_set (i := 1) scRTerm.nd rfl (.inl rfl) (pe_mg0 IH.factor T.cl (passes_call (L2.takes_of rfl rfl rfl rfl) (fun _ _ _ _ h => h)) hr (by omega) (cv 0)))
  (pss_cons (ps_whileW (L2.passes_of rfl) (ptw_cmp op_in_seq (pew_named (i := 2) scRTerm.nd rfl (.inl rfl) (pew_of (pe_mg0 T.skip T.cl pass0 hr (by omega) (cv 0)))) (pe_tup (pa_cons pe_str (pa_cons pe_str pa_nil))) (by rfl))
  (pss_cons (ps_fldaug (cv 0) pe_int ip_add)
  (pss_cut (ps_if (ct_cmp op_eq (cv 2) pe_str (nomark _))
  (pss_cons (ps_if (ct_cmp op_ne (pe_slice sl_str (pe_fld (cv 0) rfl) (po_some (pe_fld (cv 0) rfl)) (po_some (pe_op c_addI (pe_fld (cv 0) rfl) pe_int))) pe_str (nomark _))
  (pss_one (ps_raise1 T.pe rfl (hr.mono (by omega)) (L2.takes_of rfl rfl rfl rfl) (pe_fld (cv 0) rfl)))
  pss_nil)
  (pss_one (ps_fldaug (cv 0) pe_int ip_add)))
  pss_nil)
  (pss_one (ps_set (i := 1) scRTerm.nd rfl (.inl rfl) (pe_tup (pa_cons (pe_ifExp (ct_cmp op_eq (cv 2) pe_str (nomark _)) pe_str pe_str) (pa_cons (cv 1) (pa_cons (pe_mg0 IH.factor T.cl (passes_call (L2.takes_of rfl rfl rfl rfl) (fun _ _ _ _ h => h)) hr (by omega) (cv 0)) pa_nil)))))))) pss_nil)
  (pss_one (ps_ret (cv 1))))), ?_⟩
    unfold spR at h
    split at h
    · rename_i a
      obtain ⟨l, s, i, ns, R, hi, hn, q⟩ := h
      have sz : s.length ≤ sizeLine := Nat.le_trans hn (by decide)
      obtain ⟨dx, ha⟩ := R.ins
      refine ⟨a, dx, _, rfl, ha, rdF_no s i l _ (by simp), l, s, i, ns, R, hi, hn, ?_⟩
      cases ht : parse s f .factor i ns with
      | none =>
        have e : parse s (f + 1) .term i ns = none := by rw [parse, ht]
        rw [e] at q
        exact q.elim
      | some r =>
        cases r with
        | err p =>
          have e : parse s (f + 1) .term i ns = some (.err p) := by rw [parse, ht]
          rw [e] at q
          exact q
        | ok t j ms =>
          have e : parse s (f + 1) .term i ns = parse s f (.tl t) j ms := by rw [parse, ht]
          rw [e] at q
          intro v H1 R1 M1 tr1
          have hj := parse_le _ _ _ _ _ _ _ hi ht
          refine ⟨fun m σ H' => ∃ t' j' ms' v' sg, m ≤ f ∧ parse s m (.tl t') j' ms' = parse s f (.tl t) j ms ∧ j' ≤ s.length ∧ RdAt C H' a l s j' ms' ∧ MB a l H H' ∧ Tr H' v' t' ∧ σ = [some (.ref a), some v', sg], ⟨f, t, j, ms, v, _, Nat.le_refl _, rfl, hj, R1, M1, tr1, rfl⟩, ?_⟩
          rintro m σ H2 ⟨t', j', ms', v', sg, hm, hp, hj', R2, M2, tr2, rfl⟩
          cases m with
          | zero =>
            rw [← hp] at q
            exact q.elim
          | succ g =>
            obtain ⟨dx, ha2⟩ := R2.ins
            refine ⟨a, dx, _, rfl, ha2, rdF_no s j' l _ (by simp), l, s, j', ms', R2, hj', hn, fun H3 R3 M3 => ?_⟩
            refine ⟨by show 2 ≤ sizeLine; decide, fun tp ntp => ⟨tp, _, rfl, .inr (.inl (.inl upd_same)), rfl, rfl, _, rfl, ?_⟩⟩
            have s4 := same_new (o := .tup [.str "*", .str "/"]) ntp
            have R4 := R3.same s4
            have M4 := (M2.trans M3).trans (.of s4)
            have tr4 := (tr2.mb R2 M3).mb R3 (.of s4)
            obtain ⟨dx, ha4⟩ := R4.ins
            obtain ⟨r1, r2, r3⟩ := rdF_at s (skip s j') l
            show if inV (.str (one s (skip s j'))) [.str ⟨#[42]⟩, .str ⟨#[47]⟩] = true then _ else _
            rw [inV2]
            refine iteD (fun hc => ?_) (fun hc => ?_)
            · have lt : skip s j' < s.length := hc.elim cp_lt cp_lt
              have P5 := R4.put (dx := dx) (skip s j' + 1)
              -- from the place behind the sign on
              have call : ∀ (p : Nat) (on : Str) (H5 : Hp), p ≤ s.length → RdAt C H5 a l s p ms' → MB a l H H5 → Tr H5 v' t' →
                  (parse s (g + 1) (.tl t') j' ms' = match parse s g .factor p ms' with
                    | some (.ok u k ls) => parse s g (.tl (.op on t' u)) k ls
                    | r => r) → ∀ (QQ : V → Hp → Prop), (∀ v6 H6 u k ls, RdAt C H6 a l s k ls → MB a l H H6 → k ≤ s.length → Tr H6 v' t' → Tr H6 v6 u → parse s g (.tl (.op on t' u)) k ls = parse s f (.tl t) j ms → QQ v6 H6) → rdRes C Cp a l s H5 QQ E (parse s f .factor p ms') := by
                intro p on H5 hp5 R5 M5 tr5 e2 QQ hQ
                cases h2 : parse s g .factor p ms' with
                | none =>
                  rw [h2] at e2
                  rw [← hp, e2] at q
                  exact q.elim
                | some r =>
                  rw [h2] at e2
                  rw [parse_up (by omega) h2]
                  cases r with
                  | err p =>
                    rw [← hp, e2] at q
                    exact perr.mb q M5
                  | ok u k ls =>
                    intro v6 H6 R6 M6 tr6
                    exact hQ v6 H6 u k ls R6 (M5.trans M6) (parse_le _ _ _ _ _ _ _ hp5 h2) (tr5.mb R5 M6) tr6 (e2.symm.trans hp)
              refine ⟨fun σ' H' => ∃ t2 j2 ms2 v2 sg2, parse s g (.tl t2) j2 ms2 = parse s f (.tl t) j ms ∧ j2 ≤ s.length ∧ RdAt C H' a l s j2 ms2 ∧ MB a l H H' ∧ Tr H' v2 t2 ∧ σ' = [some (.ref a), some v2, sg2], ?_, ?_⟩
              · rintro σ' H' ⟨t2, j2, ms2, v2, sg2, x1, x2, x3, x4, x5, rfl⟩
                exact ⟨g, Nat.lt_succ_self _, t2, j2, ms2, v2, sg2, by omega, x1, x2, x3, x4, x5, rfl⟩
              · refine ⟨a, C, dx, _, _, rfl, ha4, T.cl, T.n2, r2, _, _, rfl, rfl, dx, _, ha4, by show 3 < 1000; decide, ?_⟩
                obtain ⟨q1, q2, q3⟩ := rdF_at s (skip s j' + 1) l
                refine ⟨fun σ' H' => σ' = [some (.ref a), some v', some (.str (one s (skip s j')))] ∧ ∃ p, RdAt C H' a l s p ms' ∧ MB a l H H' ∧ Tr H' v' t' ∧ p ≤ s.length ∧ (cp s (skip s j') = some 42 ∧ p = skip s j' + 1 ∨ cp s (skip s j') = some 47 ∧ cp s (skip s j' + 1) = some 47 ∧ p = skip s j' + 2), ?_, ?_⟩
                · refine ⟨rfl, iteD (fun hs => ?_) (fun hs => ?_)⟩
                  · have c47 : cp s (skip s j') = some 47 := one_eq.mp hs
                    refine ⟨a, C, dx, _, _, rfl, upd_same, T.cl, T.n1, q1, a, C, dx, _, _, rfl, upd_same, T.cl, T.n2, q2, _, rfl, a, C, dx, _, _, rfl, upd_same, T.cl, T.n2, q2, _, rfl, s, rfl, sz, ?_⟩
                    rw [cut_one]
                    refine ⟨rfl, ?_⟩
                    by_cases hx : cp s (skip s j' + 1) = some 47
                    · rw [decide_eq_true (show V.str (one s (skip s j' + 1)) = V.str "/" from one_eq.mpr hx)]
                      have P6 := P5.1.put (dx := dx) (skip s j' + 2)
                      exact ⟨a, C, dx, _, _, rfl, upd_same, T.cl, T.n2, q2, _, _, rfl, rfl, dx, _, upd_same, by show 3 < 1000; decide, rfl, skip s j' + 2, P6.1, (M4.trans P5.2).trans P6.2, (tr4.mb R4 P5.2).mb P5.1 P6.2, cp_lt hx, .inr ⟨c47, hx, rfl⟩⟩
                    · rw [decide_eq_false (show ¬ V.str (one s (skip s j' + 1)) = V.str "/" from fun z => hx (one_eq.mp z))]
                      have e2 : parse s (g + 1) (.tl t') j' ms' = some (.err (skip s j' + 1)) := by rw [parse, if_neg (by rw [c47]; simp), if_pos c47, if_neg hx]
                      rw [← hp, e2] at q
                      exact ⟨a, C, dx, _, _, rfl, upd_same, T.cl, T.n2, q2, raise_at q (M4.trans P5.2)⟩
                  · have c42 : cp s (skip s j') = some 42 := hc.resolve_right fun z => hs (one_eq.mpr z)
                    exact ⟨rfl, skip s j' + 1, P5.1, M4.trans P5.2, tr4.mb R4 P5.2, lt, .inl ⟨c42, rfl⟩⟩
                · rintro σ' H6 ⟨rfl, p, R6, M6, tr6, hp6, hw⟩
                  obtain ⟨dx, ha6⟩ := R6.ins
                  rcases hw with ⟨c42, rfl⟩ | ⟨c47, cx, rfl⟩
                  · refine ⟨rfl, ?_⟩
                    rw [decide_eq_true (show V.str (one s (skip s j')) = V.str "*" from one_eq.mpr c42)]
                    refine ⟨a, dx, _, rfl, ha6, rdF_no s _ l _ (by simp), l, s, _, ms', R6, hp6, hn, call _ "*" H6 hp6 R6 M6 tr6 (by rw [parse, if_pos c42] <;> (rcases parse s g .factor (skip s j' + 1) ms' with _ | (_ | _) <;> rfl)) _ fun v7 H7 u k ls R7 M7 hk7 tr7 tr8 e7 => ⟨by show 3 ≤ sizeLine; decide, fun b nb => ?_⟩⟩
                    have s8 := same_new (o := .tup [.str "*", v', v7]) nb
                    exact ⟨_, k, ls, _, _, e7, hk7, R7.same s8, M7.trans (.of s8), .op upd_same (tr7.mb R7 (.of s8)) (tr8.mb R7 (.of s8)), rfl⟩
                  · refine ⟨rfl, ?_⟩
                    rw [decide_eq_false (show ¬ V.str (one s (skip s j')) = V.str "*" from fun z => by have := one_eq.mp z; rw [c47] at this; exact absurd this (by simp))]
                    refine ⟨a, dx, _, rfl, ha6, rdF_no s _ l _ (by simp), l, s, _, ms', R6, hp6, hn, call _ "//" H6 hp6 R6 M6 tr6 (by rw [parse, if_neg (by rw [c47]; simp), if_pos c47, if_pos cx] <;> (rcases parse s g .factor (skip s j' + 2) ms' with _ | (_ | _) <;> rfl)) _ fun v7 H7 u k ls R7 M7 hk7 tr7 tr8 e7 => ⟨by show 3 ≤ sizeLine; decide, fun b nb => ?_⟩⟩
                    have s8 := same_new (o := .tup [.str "//", v', v7]) nb
                    exact ⟨_, k, ls, _, _, e7, hk7, R7.same s8, M7.trans (.of s8), .op upd_same (tr7.mb R7 (.of s8)) (tr8.mb R7 (.of s8)), rfl⟩
            · have e2 : parse s (g + 1) (.tl t') j' ms' = some (.ok t' (skip s j') ms') := by rw [parse, if_neg (fun z => hc (.inl z)), if_neg (fun z => hc (.inr z))]
              rw [← hp, e2] at q
              exact q v' _ R4 M4 tr4
    · exact h.elim
end
end Rk

set_option Elab.async false
set_option linter.all false
set_option maxRecDepth 100000
set_option maxHeartbeats 4000000
set_option pp.maxSteps 100
namespace Rk
open PySem PySem.Spec PyProof.Rows L2 CL Fm
section
variable {P : Program} {w : World} {K : PySem.W.Frag} {mg : Str → Option Value} {base : Heap} {C Cp aP aR : Addr} {f : Nat}
theorem ok_factor {fn : Addr} {fd : FuncData} (T : Tg P w K mg base C Cp aP aR) (IH : Ih P w K mg base C Cp f) (F : Fun K "read_factor" "Reader.read_factor" sRFac fn fd) : FnM P w K mg base (L2.CX P w) (f + 12) fn fd pRFac (spR C Cp (f + 1) .factor) := by
  obtain ⟨_, hD⟩ := T.dig
  obtain ⟨_, hLt⟩ := T.let_
  refine F.okM scRFac (fun vs H Q E h => ?_) (fun cdv A outer s H vs Q E hr h => ?_)
  · unfold spR at h
    split at h
    · rfl
    · exact h.elim
  · refine ⟨_, (pss_cons (ps_set (i := 1) scRFac.nd rfl (.inl rfl) (pe_mg0 T.skip T.cl pass0 hr (by omega) (cv 0)))
  (pss_cons (ps_if (ct_cmp op_eq (cv 1) pe_str (nomark _))
  (pss_cons (ps_fldaug (cv 0) pe_int ip_add)
  (pss_one (ps_ret (pe_tup (pa_cons pe_str (pa_cons (pe_mg0 IH.factor T.cl (passes_call (L2.takes_of rfl rfl rfl rfl) (fun _ _ _ _ h => h)) hr (by omega) (cv 0)) pa_nil))))))
  pss_nil)
  (pss_cons (ps_if (ct_cmp op_eq (cv 1) pe_str (nomark _))
  (pss_cons (ps_fldaug (cv 0) pe_int ip_add)
  (pss_cons (ps_set (i := 2) scRFac.nd rfl (.inl rfl) (pe_mg0 IH.sum T.cl (passes_call (L2.takes_of rfl rfl rfl rfl) (fun _ _ _ _ h => h)) hr (by omega) (cv 0)))
  (pss_cons (ps_expr (pe_mg T.need T.cl (passes_call (L2.takes_of rfl rfl rfl rfl) (fun _ _ _ _ h => h)) hr (by omega) (cv 0) (pa_cons pe_str pa_nil)))
  (pss_one (ps_ret (cv 2))))))
  pss_nil)
  (pss_cons (ps_if (PW.pt (pw_and (ct_cmp op_ne (cv 1) pe_str (nomark _)) (pw_and1 (ct_cmp op_inS (cv 1) (pe_glob (v := .str "0123456789") (by rfl) hD ⟨_, rfl⟩) (by rfl)))))
  (pss_one (ps_ret (pe_mg0 T.rint T.cl (passes_call (L2.takes_of rfl rfl rfl rfl) (fun _ _ _ _ h => h)) hr (by omega) (cv 0))))
  pss_nil)
  (pss_cons (ps_if (PW.pt (pw_and (ct_cmp op_ne (cv 1) pe_str (nomark _)) (pw_and1 (ct_cmp op_inS (cv 1) (pe_glob (v := .str "abcdefghijklmnopqrstuvwxyz") (by rfl) hLt ⟨_, rfl⟩) (by rfl)))))
  (pss_one (ps_ret (pe_mg0 IH.word T.cl (passes_call (L2.takes_of rfl rfl rfl rfl) (fun _ _ _ _ h => h)) hr (by omega) (cv 0))))
  pss_nil)
  (pss_one (ps_raise1 T.pe rfl (hr.mono (by omega)) (L2.takes_of rfl rfl rfl rfl) (pe_fld (cv 0) rfl)))))))), ?_⟩
    unfold spR at h
    split at h
    · rename_i a
      obtain ⟨l, s, i, ns, R, hi, hn, q⟩ := h
      obtain ⟨dx, ha⟩ := R.ins
      refine ⟨a, dx, _, rfl, ha, rdF_no s i l _ (by simp), l, s, i, ns, R, hi, hn, fun H1 R1 M1 => ?_⟩
      obtain ⟨dx, ha1⟩ := R1.ins
      obtain ⟨r1, r2, r3⟩ := rdF_at s (skip s i) l
      have hsk := skip_end (s := s) i hi
      rw [parse] at q
      have P2 := R1.put (dx := dx) (skip s i + 1)
      refine ⟨rfl, iteD (fun hm => ?_) (fun hm => ⟨rfl, iteD (fun hb => ?_) (fun hb => ?_)⟩)⟩
      · have hc : cp s (skip s i) = some 45 := one_eq.mp hm
        have lt := cp_lt hc
        rw [hc] at q
        dsimp only at q
        rw [if_pos rfl] at q
        refine ⟨a, C, dx, _, _, rfl, ha1, T.cl, T.n2, r2, _, _, rfl, rfl, dx, _, ha1, by show 3 < 1000; decide, ?_⟩
        refine ⟨a, dx, _, rfl, upd_same, rdF_no s (skip s i + 1) l _ (by simp), l, s, skip s i + 1, ns, P2.1, lt, hn, ?_⟩
        cases h2 : parse s f .factor (skip s i + 1) ns with
        | none => rw [h2] at q; exact q.elim
        | some r =>
          rw [h2] at q
          cases r with
          | err p => exact perr.mb q (M1.trans P2.2)
          | ok t j ms =>
            intro v H3 R3 M3 tr3
            refine ⟨by show 2 ≤ sizeLine; decide, fun b nb => ?_⟩
            have s4 := same_new (o := .tup [.str "minus", v]) nb
            exact q _ _ (R3.same s4) (((M1.trans P2.2).trans M3).trans (.of s4)) (.neg upd_same (tr3.mb R3 (.of s4)))
      · have hc : cp s (skip s i) = some 40 := one_eq.mp hb
        have lt := cp_lt hc
        rw [hc] at q
        dsimp only at q
        rw [if_neg (by decide), if_pos rfl] at q
        refine ⟨a, C, dx, _, _, rfl, ha1, T.cl, T.n2, r2, _, _, rfl, rfl, dx, _, ha1, by show 3 < 1000; decide, ?_⟩
        refine ⟨a, dx, _, rfl, upd_same, rdF_no s (skip s i + 1) l _ (by simp), l, s, skip s i + 1, ns, P2.1, lt, hn, ?_⟩
        cases h2 : parse s f .sum (skip s i + 1) ns with
        | none => rw [h2] at q; exact q.elim
        | some r =>
          rw [h2] at q
          cases r with
          | err p => exact perr.mb q (M1.trans P2.2)
          | ok t j ms =>
            intro v H3 R3 M3 tr3
            have hj := parse_le _ _ _ _ _ _ _ lt h2
            obtain ⟨dx, ha3⟩ := R3.ins
            have M13 := (M1.trans P2.2).trans M3
            refine ⟨a, dx, _, rfl, ha3, rdF_no s j l _ (by simp), l, s, j, ms, 41, rfl, R3, hj, hn, ?_⟩
            dsimp only at q
            unfold Fm.need at q
            split
            · rename_i h41
              rw [if_pos h41] at q
              exact fun H4 R4 M4 => q v H4 R4 (M13.trans M4) (tr3.mb R3 M4)
            · rename_i h41
              rw [if_neg h41] at q
              exact perr.mb q M13
      · have n45 : ¬ cp s (skip s i) = some 45 := fun z => hm (one_eq.mpr z)
        have n40 : ¬ cp s (skip s i) = some 40 := fun z => hb (one_eq.mpr z)
        refine ⟨rfl, ?_⟩
        cases hc : cp s (skip s i) with
        | none =>
          rw [hc] at q
          rw [decide_eq_true (one_nil.mpr hc)]
          refine ⟨rfl, ?_⟩
          rw [decide_eq_true (one_nil.mpr hc)]
          exact ⟨a, C, dx, _, _, rfl, ha1, T.cl, T.n2, r2, raise_at q M1⟩
        | some c =>
          have c45 : ¬ c = 45 := fun z => n45 (z ▸ hc)
          have c40 : ¬ c = 40 := fun z => n40 (z ▸ hc)
          have nn : ¬ V.str (one s (skip s i)) = V.str "" := fun z => by have := one_nil.mp z; rw [hc] at this; exact nomatch this
          rw [hc] at q
          dsimp only at q
          rw [if_neg c45, if_neg c40] at q
          rw [decide_eq_false nn]
          refine ⟨c, _, one_eq.mpr hc, rfl, ?_⟩
          rw [isD_mem]
          cases hd : isD c with
          | true =>
            rw [hd, if_pos rfl] at q
            refine ⟨a, dx, _, rfl, ha1, rdF_no s (skip s i) l _ (by simp), l, s, skip s i, ns, c, R1, hc, hd, hn, ?_⟩
            cases he : intEnd s (skip s i) (skip s i) with
            | error p =>
              rw [he] at q
              exact perr.mb q M1
            | ok e =>
              rw [he] at q
              exact fun v H2 R2 M2 tr2 => q v H2 R2 (M1.trans M2) tr2
          | false =>
            rw [hd, if_neg Bool.false_ne_true] at q
            refine ⟨rfl, ?_⟩
            rw [decide_eq_false nn]
            refine ⟨c, _, one_eq.mpr hc, rfl, ?_⟩
            rw [isL_mem]
            cases hl : isL c with
            | true =>
              rw [hl, if_pos rfl] at q
              refine ⟨a, dx, _, rfl, ha1, rdF_no s (skip s i) l _ (by simp), l, s, skip s i, ns, c, hc, hl, R1, hsk, hn, ?_⟩
              cases h2 : parse s f .word (skip s i) ns with
              | none => rw [h2] at q; exact q.elim
              | some r =>
                rw [h2] at q
                cases r with
                | err p => exact perr.mb q M1
                | ok t j ms => exact fun v H2 R2 M2 tr2 => q v H2 R2 (M1.trans M2) tr2
            | false =>
              rw [hl, if_neg Bool.false_ne_true] at q
              exact ⟨a, C, dx, _, _, rfl, ha1, T.cl, T.n2, r2, raise_at q M1⟩
    · exact h.elim
theorem ok_pair {fn : Addr} {fd : FuncData} (T : Tg P w K mg base C Cp aP aR) (IH : Ih P w K mg base C Cp f) (F : Fun K "read_pair" "Reader.read_pair" sRPair fn fd) : FnM P w K mg base (L2.CX P w) (f + 12) fn fd pRPair (spW C Cp (f + 1)) := by
  refine F.okM scRPair (fun vs H Q E h => ?_) (fun cdv A outer s H vs Q E hr h => ?_)
  · unfold spW at h
    split at h
    · rfl
    · exact h.elim
  · refine ⟨_, (pss_cons (ps_expr (pe_mg T.need T.cl (passes_call (L2.takes_of rfl rfl rfl rfl) (fun _ _ _ _ h => h)) hr (by omega) (cv 0) (pa_cons pe_str pa_nil)))
  (pss_cons (ps_set (i := 2) scRPair.nd rfl (.inl rfl) (pe_mg0 IH.sum T.cl (passes_call (L2.takes_of rfl rfl rfl rfl) (fun _ _ _ _ h => h)) hr (by omega) (cv 0)))
  (pss_cons (ps_expr (pe_mg T.need T.cl (passes_call (L2.takes_of rfl rfl rfl rfl) (fun _ _ _ _ h => h)) hr (by omega) (cv 0) (pa_cons pe_str pa_nil)))
  (pss_cons (ps_set (i := 3) scRPair.nd rfl (.inl rfl) (pe_mg0 IH.sum T.cl (passes_call (L2.takes_of rfl rfl rfl rfl) (fun _ _ _ _ h => h)) hr (by omega) (cv 0)))
  (pss_cons (ps_expr (pe_mg T.need T.cl (passes_call (L2.takes_of rfl rfl rfl rfl) (fun _ _ _ _ h => h)) hr (by omega) (cv 0) (pa_cons pe_str pa_nil)))
  (pss_one (ps_ret (pe_tup (pa_cons (cv 1) (pa_cons (cv 2) (pa_cons (cv 3) pa_nil))))))))))), ?_⟩
    unfold spW at h
    split at h
    · rename_i a wd
      obtain ⟨l, s, i, ns, R, hi, hn, q⟩ := h
      obtain ⟨dx, ha⟩ := R.ins
      rw [parse] at q
      unfold Fm.need at q
      refine ⟨a, dx, _, rfl, ha, rdF_no s i l _ (by simp), l, s, i, ns, 40, rfl, R, hi, hn, ?_⟩
      by_cases h40 : cp s (skip s i) = some 40
      · rw [if_pos h40] at q ⊢
        dsimp only at q
        have l1 := cp_lt h40
        intro H1 R1 M1
        obtain ⟨dx, ha1⟩ := R1.ins
        refine ⟨a, dx, _, rfl, ha1, rdF_no s _ l _ (by simp), l, s, _, ns, R1, l1, hn, ?_⟩
        cases h1 : parse s f .sum (skip s i + 1) ns with
        | none => rw [h1] at q; exact q.elim
        | some r1 =>
          rw [h1] at q
          cases r1 with
          | err p => exact perr.mb q M1
          | ok t1 j1 m1 =>
            dsimp only at q
            have lj := parse_le _ _ _ _ _ _ _ l1 h1
            intro v2 H2 R2 M2 tr2
            obtain ⟨dx, ha2⟩ := R2.ins
            refine ⟨a, dx, _, rfl, ha2, rdF_no s _ l _ (by simp), l, s, _, m1, 44, rfl, R2, lj, hn, ?_⟩
            by_cases h44 : cp s (skip s j1) = some 44
            · rw [if_pos h44] at q ⊢
              have l2 := cp_lt h44
              intro H3 R3 M3
              obtain ⟨dx, ha3⟩ := R3.ins
              refine ⟨a, dx, _, rfl, ha3, rdF_no s _ l _ (by simp), l, s, _, m1, R3, l2, hn, ?_⟩
              cases h2 : parse s f .sum (skip s j1 + 1) m1 with
              | none => rw [h2] at q; exact q.elim
              | some r2 =>
                rw [h2] at q
                cases r2 with
                | err p => exact perr.mb q ((M1.trans M2).trans M3)
                | ok t2 j2 m2 =>
                  dsimp only at q
                  have lk := parse_le _ _ _ _ _ _ _ l2 h2
                  intro v4 H4 R4 M4 tr4
                  obtain ⟨dx, ha4⟩ := R4.ins
                  have M14 := ((M1.trans M2).trans M3).trans M4
                  refine ⟨a, dx, _, rfl, ha4, rdF_no s _ l _ (by simp), l, s, _, m2, 41, rfl, R4, lk, hn, ?_⟩
                  by_cases h41 : cp s (skip s j2) = some 41
                  · rw [if_pos h41] at q ⊢
                    intro H5 R5 M5
                    refine ⟨by show 3 ≤ sizeLine; decide, fun b nb => ?_⟩
                    have s6 := same_new (o := .tup [.str wd, v2, v4]) nb
                    exact q _ _ (R5.same s6) ((M14.trans M5).trans (.of s6)) (.op upd_same ((((tr2.mb R2 M3).mb R3 M4).mb R4 M5).mb R5 (.of s6)) ((tr4.mb R4 M5).mb R5 (.of s6)))
                  · rw [if_neg h41] at q ⊢
                    exact perr.mb q M14
            · rw [if_neg h44] at q ⊢
              exact perr.mb q (M1.trans M2)
      · rw [if_neg h40] at q ⊢
        exact q
    · exact h.elim
end
end Rk

set_option Elab.async false
set_option linter.all false
set_option maxRecDepth 100000
set_option maxHeartbeats 4000000
set_option pp.maxSteps 100
namespace Rk
open PySem PySem.Spec PyProof.Rows L2 CL Fm
theorem inV_pairs {w : Str} : inV (.str w) [.str "min", .str "max"] = decide (w = "min" ∨ w = "max") := by
  rw [Bool.eq_iff_iff]
  simp only [inV, List.any_cons, List.any_nil, Bool.or_false, eqV, Bool.or_eq_true, beq_iff_eq, decide_eq_true_eq]
  constructor
  · rintro (h | h)
    · exact .inl h.symm
    · exact .inr h.symm
  · rintro (h | h)
    · exact .inl h.symm
    · exact .inr h.symm
theorem inV_res {w : Str} (n : ¬ (w = "min" ∨ w = "max")) : inV (.str w) [.str "min", .str "max", .str "self"] = decide (w = "self") := by
  rw [Bool.eq_iff_iff]
  simp only [inV, List.any_cons, List.any_nil, Bool.or_false, eqV, Bool.or_eq_true, beq_iff_eq, decide_eq_true_eq]
  constructor
  · rintro (h | h | h)
    · exact absurd (.inl h.symm) n
    · exact absurd (.inr h.symm) n
    · exact h.symm
  · exact fun h => .inr (.inr h.symm)
section
variable {P : Program} {w : World} {K : PySem.W.Frag} {mg : Str → Option Value} {base : Heap} {C Cp aP aR : Addr} {f : Nat}
theorem ok_word {fn : Addr} {fd : FuncData} (T : Tg P w K mg base C Cp aP aR) (IH : Ih P w K mg base C Cp f) (F : Fun K "read_word" "Reader.read_word" sRWord fn fd) : FnM P w K mg base (L2.CX P w) (f + 12) fn fd pRWord (spWd C Cp (f + 1)) := by
  obtain ⟨_, hLt⟩ := T.let_
  obtain ⟨_, hML⟩ := T.ml
  refine F.okM scRWord (fun vs H Q E h => ?_) (fun cdv A outer s H vs Q E hr h => ?_)
  · unfold spWd at h
    split at h
    · rfl
    · exact h.elim
  · refine ⟨_, (pss_cons (ps_set (i := 1) scRWord.nd rfl (.inl rfl) (pe_fld (cv 0) rfl))
  (pss_cons (ps_whileW (L2.passes_of rfl) (ptw_and2 (ptw_cmp op_ne (pew_named (i := 2) scRWord.nd rfl (.inl rfl) (pew_of (pe_slice sl_str (pe_fld (cv 0) rfl) (po_some (pe_fld (cv 0) rfl)) (po_some (pe_op c_addI (pe_fld (cv 0) rfl) pe_int))))) pe_str (nomark _)) (ct_cmp op_inS (cv 2) (pe_glob (v := .str "abcdefghijklmnopqrstuvwxyz") (by rfl) hLt ⟨_, rfl⟩) (by rfl)))
  (pss_cons (ps_if (ct_cmp op_eq (pe_op c_sub (pe_fld (cv 0) rfl) (cv 1)) (pe_glob (v := .int 8) (by rfl) hML ⟨_, rfl⟩) (nomark _))
  (pss_one (ps_raise1 T.pe rfl (hr.mono (by omega)) (L2.takes_of rfl rfl rfl rfl) (pe_fld (cv 0) rfl)))
  pss_nil)
  (pss_one (ps_fldaug (cv 0) pe_int ip_add))) pss_nil)
  (pss_cons (ps_set (i := 3) scRWord.nd rfl (.inl rfl) (pe_slice sl_str (pe_fld (cv 0) rfl) (po_some (cv 1)) (po_some (pe_fld (cv 0) rfl))))
  (pss_cons (ps_if (ct_cmp op_in_seq (cv 3) (pe_glob (v := .ref aP) (by rfl) T.gP rfl) (by rfl))
  (pss_one (ps_ret (pe_mg IH.pair T.cl (passes_call (L2.takes_of rfl rfl rfl rfl) (fun _ _ _ _ h => h)) hr (by omega) (cv 0) (pa_cons (cv 3) pa_nil))))
  pss_nil)
  (pss_cons (ps_if (ct_cmp op_in_seq (cv 3) (pe_glob (v := .ref aR) (by rfl) T.gR rfl) (by rfl))
  (pss_one (ps_raise1 T.pe rfl (hr.mono (by omega)) (L2.takes_of rfl rfl rfl rfl) (pe_fld (cv 0) rfl)))
  pss_nil)
  (pss_cons (ps_expr (pe_bm PySem.F.plainAttrs_list PySem.F.slot_list_append PySem.F.type_list_append mt_append (pe_fld (cv 0) rfl) (pa_cons (cv 3) pa_nil)))
  (pss_one (ps_ret (pe_tup (pa_cons pe_str (pa_cons (cv 3) pa_nil))))))))))), ?_⟩
    unfold spWd at h
    split at h
    · rename_i a
      obtain ⟨l, s, i, ns, c0, hc0, hl0, R, hi, hn, q⟩ := h
      have sz : s.length ≤ sizeLine := Nat.le_trans hn (by decide)
      obtain ⟨dx, ha⟩ := R.ins
      obtain ⟨r1, r2, r3⟩ := rdF_at s i l
      rw [parse] at q
      refine ⟨a, C, dx, _, _, rfl, ha, T.cl, T.n2, r2, ?_⟩
      refine ⟨fun m σ H' => ∃ j sg, m = s.length - j ∧ i ≤ j ∧ j ≤ s.length ∧ wordEnd s i j = wordEnd s i i ∧ RdAt C H' a l s j ns ∧ MB a l H H' ∧ σ = [some (.ref a), some (.int (i : Int)), sg, none], ⟨_, i, _, rfl, Nat.le_refl _, hi, rfl, R, MB.refl, rfl⟩, ?_⟩
      rintro m σ H1 ⟨j, sg, rfl, hij, hjn, he, R1, M1, rfl⟩
      obtain ⟨dx, ha1⟩ := R1.ins
      obtain ⟨r1, r2, r3⟩ := rdF_at s j l
      -- behind the loop
      have tail : wordEnd s i j = .ok j → ∃ e, wordEnd s i i = .ok e ∧ e = j := fun hx => ⟨j, he.symm.trans hx, rfl⟩
      refine ⟨a, C, dx, _, _, rfl, ha1, T.cl, T.n1, r1, a, C, dx, _, _, rfl, ha1, T.cl, T.n2, r2, _, rfl, a, C, dx, _, _, rfl, ha1, T.cl, T.n2, r2, _, rfl, s, rfl, sz, ?_⟩
      rw [cut_one]
      refine ⟨rfl, _, rfl, ?_⟩
      cases hc : cp s j with
      | none =>
        rw [decide_eq_true (one_nil.mpr hc)]
        have nx : ¬ ∃ c, cp s j = some c ∧ isL c = true := fun ⟨c, h1, _⟩ => by rw [hc] at h1; exact nomatch h1
        have ij : i < j := Nat.lt_of_le_of_ne hij fun z => nx (z ▸ ⟨c0, hc0, hl0⟩)
        have e2 : wordEnd s i i = .ok j := he.symm.trans (by rw [wordEnd, dif_neg nx])
        rw [e2] at q
        dsimp only at q
        refine ⟨a, C, dx, _, _, rfl, ha1, T.cl, T.n1, r1, _, rfl, a, C, dx, _, _, rfl, ha1, T.cl, T.n2, r2, _, rfl, s, rfl, sz, ?_⟩
        rw [cut_cut hjn hij]
        refine ⟨aP, _, rfl, .inr (T.tP _), rfl, rfl, ?_⟩
        show if inV (.str (cut s i j)) [.str "min", .str "max"] = true then _ else _
        rw [inV_pairs]
        refine iteD (fun hp => ?_) (fun hp => ?_)
        · rw [if_pos hp] at q
          refine ⟨a, dx, _, rfl, ha1, rdF_no s _ l _ (by simp), l, s, j, ns, R1, hjn, hn, ?_⟩
          cases h2 : parse s f (.pair (cut s i j)) j ns with
          | none => rw [h2] at q; exact q.elim
          | some r =>
            rw [h2] at q
            cases r with
            | err p => exact perr.mb q M1
            | ok t k ms => exact fun v H2 R2 M2 tr2 => q v H2 R2 (M1.trans M2) tr2
        · rw [if_neg hp] at q
          refine ⟨aR, _, rfl, .inr (T.tR _), rfl, rfl, ?_⟩
          show if inV (.str (cut s i j)) [.str "min", .str "max", .str "self"] = true then _ else _
          rw [inV_res hp]
          refine iteD (fun hx => ?_) (fun hx => ?_)
          · rw [if_pos hx] at q
            exact ⟨a, C, dx, _, _, rfl, ha1, T.cl, T.n2, r2, raise_at q M1⟩
          · rw [if_neg hx] at q
            refine ⟨a, C, dx, _, _, rfl, ha1, T.cl, T.n3, r3, .inl ⟨rfl, _, SqL.of R1.lst⟩, l, _, _, rfl, rfl, R1.lst, ?_, ?_⟩
            · rw [List.length_map]; have := R1.few; exact Nat.lt_of_le_of_lt this (Nat.lt_of_le_of_lt (Nat.le_trans hjn hn) (by decide))
            · refine ⟨by show 2 ≤ sizeLine; decide, fun b nb => ?_⟩
              have s3 := same_new (o := .tup [.str "name", .str (cut s i j)]) nb
              have R2 : RdAt C (upd H1 l (.lst (ns.map V.str ++ [.str (cut s i j)]))) a l s j (ns ++ [cut s i j]) := ⟨⟨dx, by rw [upd_ne R1.ne.symm]; exact ha1⟩, by rw [upd_same, List.map_append]; rfl, by have := R.few; rw [List.length_append]; show ns.length + 1 ≤ j; omega⟩
              have M2 : MB a l H1 (upd H1 l (.lst (ns.map V.str ++ [.str (cut s i j)]))) := fun b o _ n h => by rw [upd_ne n]; exact h
              exact q _ _ (R2.same s3) ((M1.trans M2).trans (.of s3)) (.nam upd_same)
      | some c =>
        rw [decide_eq_false (fun z => by have := one_nil.mp z; rw [hc] at this; exact nomatch this)]
        refine ⟨c, _, one_eq.mpr hc, rfl, ?_⟩
        rw [isL_mem]
        cases hdc : isL c with
        | false =>
          have nx : ¬ ∃ c, cp s j = some c ∧ isL c = true := fun ⟨c', h1, h2⟩ => by
            rw [hc] at h1
            cases h1
            rw [hdc] at h2
            exact nomatch h2
          have ij : i < j := Nat.lt_of_le_of_ne hij fun z => nx (z ▸ ⟨c0, hc0, hl0⟩)
          have e2 : wordEnd s i i = .ok j := he.symm.trans (by rw [wordEnd, dif_neg nx])
          rw [e2] at q
          dsimp only at q
          refine ⟨a, C, dx, _, _, rfl, ha1, T.cl, T.n1, r1, _, rfl, a, C, dx, _, _, rfl, ha1, T.cl, T.n2, r2, _, rfl, s, rfl, sz, ?_⟩
          rw [cut_cut hjn hij]
          refine ⟨aP, _, rfl, .inr (T.tP _), rfl, rfl, ?_⟩
          show if inV (.str (cut s i j)) [.str "min", .str "max"] = true then _ else _
          rw [inV_pairs]
          refine iteD (fun hp => ?_) (fun hp => ?_)
          · rw [if_pos hp] at q
            refine ⟨a, dx, _, rfl, ha1, rdF_no s _ l _ (by simp), l, s, j, ns, R1, hjn, hn, ?_⟩
            cases h2 : parse s f (.pair (cut s i j)) j ns with
            | none => rw [h2] at q; exact q.elim
            | some r =>
              rw [h2] at q
              cases r with
              | err p => exact perr.mb q M1
              | ok t k ms => exact fun v H2 R2 M2 tr2 => q v H2 R2 (M1.trans M2) tr2
          · rw [if_neg hp] at q
            refine ⟨aR, _, rfl, .inr (T.tR _), rfl, rfl, ?_⟩
            show if inV (.str (cut s i j)) [.str "min", .str "max", .str "self"] = true then _ else _
            rw [inV_res hp]
            refine iteD (fun hx => ?_) (fun hx => ?_)
            · rw [if_pos hx] at q
              exact ⟨a, C, dx, _, _, rfl, ha1, T.cl, T.n2, r2, raise_at q M1⟩
            · rw [if_neg hx] at q
              refine ⟨a, C, dx, _, _, rfl, ha1, T.cl, T.n3, r3, .inl ⟨rfl, _, SqL.of R1.lst⟩, l, _, _, rfl, rfl, R1.lst, ?_, ?_⟩
              · rw [List.length_map]; have := R1.few; exact Nat.lt_of_le_of_lt this (Nat.lt_of_le_of_lt (Nat.le_trans hjn hn) (by decide))
              · refine ⟨by show 2 ≤ sizeLine; decide, fun b nb => ?_⟩
                have s3 := same_new (o := .tup [.str "name", .str (cut s i j)]) nb
                have R2 : RdAt C (upd H1 l (.lst (ns.map V.str ++ [.str (cut s i j)]))) a l s j (ns ++ [cut s i j]) := ⟨⟨dx, by rw [upd_ne R1.ne.symm]; exact ha1⟩, by rw [upd_same, List.map_append]; rfl, by have := R.few; rw [List.length_append]; show ns.length + 1 ≤ j; omega⟩
                have M2 : MB a l H1 (upd H1 l (.lst (ns.map V.str ++ [.str (cut s i j)]))) := fun b o _ n h => by rw [upd_ne n]; exact h
                exact q _ _ (R2.same s3) ((M1.trans M2).trans (.of s3)) (.nam upd_same)
        | true =>
          have yes : ∃ c, cp s j = some c ∧ isL c = true := ⟨c, hc, hdc⟩
          have lt := cp_lt hc
          have step : wordEnd s i j = if j - i = 8 then .error j else wordEnd s i (j + 1) := by rw [wordEnd, dif_pos yes]
          refine ⟨fun σ' H' => ∃ j', j' = j + 1 ∧ RdAt C H' a l s j' ns ∧ MB a l H H' ∧ σ' = [some (.ref a), some (.int (i : Int)), some (.str (one s j)), none] ∧ ¬ j - i = 8, ?_, ?_⟩
          · rintro σ' H' ⟨j', rfl, R', M', rfl, nb⟩
            refine ⟨_, by omega, j + 1, _, rfl, by omega, lt, ?_, R', M', rfl⟩
            rw [if_neg nb] at step
            rw [← step]; exact he
          · refine ⟨a, C, dx, _, _, rfl, ha1, T.cl, T.n2, r2, rfl, iteD (fun h8 => ?_) (fun h8 => ?_)⟩
            · refine ⟨a, C, dx, _, _, rfl, ha1, T.cl, T.n2, r2, raise_at ?_ M1⟩
              injection h8 with h8
              rw [if_pos (by omega)] at step
              rw [← he, step] at q
              exact q
            · have P1 := R1.put (dx := dx) (j + 1)
              exact ⟨a, C, dx, _, _, rfl, ha1, T.cl, T.n2, r2, _, _, rfl, rfl, dx, _, ha1, by show 3 < 1000; decide, j + 1, rfl, P1.1, M1.trans P1.2, rfl, fun z => h8 (congrArg V.int (by omega : (j : Int) - (i : Int) = 8))⟩
    · exact h.elim
end
end Rk

set_option Elab.async false
set_option linter.all false
set_option maxRecDepth 100000
set_option maxHeartbeats 4000000
set_option pp.maxSteps 100
namespace Rk
open PySem PySem.Spec PyProof.Rows L2 CL Fm
theorem need_ge {s : Str} {c i : Nat} {k : Nat → Option R} {t : T} {j : Nat} {ms : List Str} (h : Fm.need s c i k = some (.ok t j ms)) : ∃ i', i < i' ∧ k i' = some (.ok t j ms) := by
  unfold Fm.need at h
  split at h
  · have := skip_le (s := s) i
    exact ⟨_, by omega, h⟩
  · cases h
theorem intEnd_ge {s : Str} {b : Nat} : ∀ (n i e : Nat), n = s.length - i → intEnd s b i = .ok e → i ≤ e := by
  intro n
  induction n with
  | zero =>
    intro i e hn h
    rw [intEnd] at h
    split at h
    · rename_i hx
      obtain ⟨c, hc, _⟩ := hx
      have := cp_lt hc
      omega
    · cases h
      exact Nat.le_refl _
  | succ n ih =>
    intro i e hn h
    rw [intEnd] at h
    split at h
    · split at h
      · cases h
      · have := ih (i + 1) e (by omega) h
        omega
    · cases h
      exact Nat.le_refl _
theorem wordEnd_ge {s : Str} {b : Nat} : ∀ (n i e : Nat), n = s.length - i → wordEnd s b i = .ok e → i ≤ e := by
  intro n
  induction n with
  | zero =>
    intro i e hn h
    rw [wordEnd] at h
    split at h
    · rename_i hx
      obtain ⟨c, hc, _⟩ := hx
      have := cp_lt hc
      omega
    · cases h
      exact Nat.le_refl _
  | succ n ih =>
    intro i e hn h
    rw [wordEnd] at h
    split at h
    · split at h
      · cases h
      · have := ih (i + 1) e (by omega) h
        omega
    · cases h
      exact Nat.le_refl _
/-- the reading goes on, never back -/
theorem parse_ge {s : Str} : ∀ (f : Nat) (md : Md) (i : Nat) (ns : List Str) (t : T) (j : Nat) (ms : List Str), parse s f md i ns = some (.ok t j ms) → i ≤ j := by
  intro f
  induction f with
  | zero => intro md i ns t j ms h; cases md <;> cases h
  | succ f ih =>
    intro md i ns t j ms h
    have hsk := skip_le (s := s) i
    cases md with
    | sum =>
      simp only [parse] at h
      split at h
      · rename_i t1 j1 m1 h1
        have := ih _ _ _ _ _ _ h1
        have := ih _ _ _ _ _ _ h
        omega
      · exact ih _ _ _ _ _ _ h
    | sl t0 =>
      simp only [parse] at h
      split at h
      · split at h
        · rename_i u j1 m1 h1
          have := ih _ _ _ _ _ _ h1
          have := ih _ _ _ _ _ _ h
          omega
        · have := ih _ _ _ _ _ _ h
          omega
      · cases h
        exact hsk
    | term =>
      simp only [parse] at h
      split at h
      · rename_i t1 j1 m1 h1
        have := ih _ _ _ _ _ _ h1
        have := ih _ _ _ _ _ _ h
        omega
      · exact ih _ _ _ _ _ _ h
    | tl t0 =>
      simp only [parse] at h
      split at h
      · split at h
        · rename_i u j1 m1 h1
          have := ih _ _ _ _ _ _ h1
          have := ih _ _ _ _ _ _ h
          omega
        · have := ih _ _ _ _ _ _ h
          omega
      · split at h
        · split at h
          · split at h
            · rename_i u j1 m1 h1
              have := ih _ _ _ _ _ _ h1
              have := ih _ _ _ _ _ _ h
              omega
            · have := ih _ _ _ _ _ _ h
              omega
          · cases h
        · cases h
          exact hsk
    | factor =>
      simp only [parse] at h
      split at h
      · cases h
      · split at h
        · split at h
          · rename_i t1 j1 m1 h1
            cases h
            have := ih _ _ _ _ _ _ h1
            omega
          · have := ih _ _ _ _ _ _ h
            omega
        · split at h
          · split at h
            · rename_i t1 j1 m1 h1
              obtain ⟨i', l1, l3⟩ := need_ge h
              cases l3
              have := ih _ _ _ _ _ _ h1
              omega
            · have := ih _ _ _ _ _ _ h
              omega
          · split at h
            · split at h
              · cases h
              · rename_i e he
                cases h
                have := intEnd_ge _ _ _ rfl he
                omega
            · split at h
              · have := ih _ _ _ _ _ _ h
                omega
              · cases h
    | word =>
      simp only [parse] at h
      split at h
      · cases h
      · rename_i e he
        have le := wordEnd_ge _ _ _ rfl he
        split at h
        · have := ih _ _ _ _ _ _ h
          omega
        · split at h
          · cases h
          · cases h
            exact le
    | pair w =>
      simp only [parse] at h
      obtain ⟨i1, a1, h⟩ := need_ge h
      split at h
      · rename_i t1 j1 m1 h1
        obtain ⟨i2, a2, h⟩ := need_ge h
        split at h
        · rename_i t2 j2 m2 h2
          obtain ⟨i3, a3, h⟩ := need_ge h
          cases h
          have := ih _ _ _ _ _ _ h1
          have := ih _ _ _ _ _ _ h2
          omega
        · have := ih _ _ _ _ _ _ h1
          have := ih _ _ _ _ _ _ h
          omega
      · have := ih _ _ _ _ _ _ h
        omega
def _root_.Fm.Md.c : Md → Nat
  | .sum => 6
  | .sl _ => 3
  | .term => 5
  | .tl _ => 3
  | .factor => 4
  | .word => 3
  | .pair _ => 4
theorem cut3 {s : Str} {i e : Nat} (h : cut s i e = "min" ∨ cut s i e = "max") : i + 3 ≤ e ∧ i + 3 ≤ s.length := by
  have : (cut s i e).length = 3 := by rcases h with h | h <;> rw [h] <;> decide +kernel
  have h2 : (cut s i e).length = min (e - i) (s.length - i) := by
    show (((s.cps.toList.drop i).take (e - i)).toArray).size = _
    rw [List.size_toArray, List.length_take, List.length_drop]
    have : s.cps.toList.length = s.length := by simp; rfl
    rw [this]
  omega
/-- the fuel suffices -/
theorem parse_some {s : Str} : ∀ (f : Nat) (md : Md) (i : Nat) (ns : List Str), 3 * (s.length - i) + md.c ≤ f → (∀ w, md = .pair w → True) → parse s f md i ns ≠ none := by
  intro f
  induction f with
  | zero =>
    intro md i ns h
    cases md <;> (simp only [Fm.Md.c] at h; omega)
  | succ f ih =>
    intro md i ns hf _ h
    have hsk := skip_le (s := s) i
    cases md with
    | sum =>
      simp only [Fm.Md.c] at hf
      rw [parse] at h
      split at h
      · rename_i t1 j1 m1 h1
        have := parse_ge _ _ _ _ _ _ _ h1
        exact ih _ _ _ (by simp only [Fm.Md.c]; omega) (fun _ _ => trivial) h
      · exact ih _ _ _ (by simp only [Fm.Md.c]; omega) (fun _ _ => trivial) h
    | sl t0 =>
      simp only [Fm.Md.c] at hf
      rw [parse] at h
      split at h
      · rename_i hc
        have lt : skip s i < s.length := hc.elim cp_lt cp_lt
        split at h
        · rename_i u j1 m1 h1
          have := parse_ge _ _ _ _ _ _ _ h1
          exact ih _ _ _ (by simp only [Fm.Md.c]; omega) (fun _ _ => trivial) h
        · exact ih _ _ _ (by simp only [Fm.Md.c]; omega) (fun _ _ => trivial) h
      · cases h
    | term =>
      simp only [Fm.Md.c] at hf
      rw [parse] at h
      split at h
      · rename_i t1 j1 m1 h1
        have := parse_ge _ _ _ _ _ _ _ h1
        exact ih _ _ _ (by simp only [Fm.Md.c]; omega) (fun _ _ => trivial) h
      · exact ih _ _ _ (by simp only [Fm.Md.c]; omega) (fun _ _ => trivial) h
    | tl t0 =>
      simp only [Fm.Md.c] at hf
      rw [parse] at h
      split at h
      · rename_i hc
        have lt := cp_lt hc
        split at h
        · rename_i u j1 m1 h1
          have := parse_ge _ _ _ _ _ _ _ h1
          exact ih _ _ _ (by simp only [Fm.Md.c]; omega) (fun _ _ => trivial) h
        · exact ih _ _ _ (by simp only [Fm.Md.c]; omega) (fun _ _ => trivial) h
      · split at h
        · split at h
          · rename_i hc
            have lt := cp_lt hc
            split at h
            · rename_i u j1 m1 h1
              have := parse_ge _ _ _ _ _ _ _ h1
              exact ih _ _ _ (by simp only [Fm.Md.c]; omega) (fun _ _ => trivial) h
            · exact ih _ _ _ (by simp only [Fm.Md.c]; omega) (fun _ _ => trivial) h
          · cases h
        · cases h
    | factor =>
      simp only [Fm.Md.c] at hf
      rw [parse] at h
      split at h
      · cases h
      · rename_i c hc
        have lt := cp_lt hc
        split at h
        · split at h
          · cases h
          · exact ih _ _ _ (by simp only [Fm.Md.c]; omega) (fun _ _ => trivial) h
        · split at h
          · split at h
            · unfold Fm.need at h
              split at h <;> cases h
            · exact ih _ _ _ (by simp only [Fm.Md.c]; omega) (fun _ _ => trivial) h
          · split at h
            · split at h <;> cases h
            · split at h
              · exact ih _ _ _ (by simp only [Fm.Md.c]; omega) (fun _ _ => trivial) h
              · cases h
    | word =>
      simp only [Fm.Md.c] at hf
      rw [parse] at h
      split at h
      · cases h
      · rename_i e he
        split at h
        · rename_i hp
          have := cut3 hp
          exact ih _ _ _ (by simp only [Fm.Md.c]; omega) (fun _ _ => trivial) h
        · split at h <;> cases h
    | pair w =>
      simp only [Fm.Md.c] at hf
      rw [parse] at h
      unfold Fm.need at h
      split at h
      · rename_i h40
        have lt := cp_lt h40
        dsimp only at h
        split at h
        · rename_i t1 j1 m1 h1
          have := parse_ge _ _ _ _ _ _ _ h1
          split at h
          · rename_i h44
            have lt2 := cp_lt h44
            have := skip_le (s := s) j1
            split at h
            · split at h <;> cases h
            · exact ih _ _ _ (by simp only [Fm.Md.c]; omega) (fun _ _ => trivial) h
          · cases h
        · exact ih _ _ _ (by simp only [Fm.Md.c]; omega) (fun _ _ => trivial) h
      · cases h
end Rk

set_option Elab.async false
set_option linter.all false
set_option maxRecDepth 100000
set_option maxHeartbeats 4000000
set_option pp.maxSteps 100
namespace Rk
open PySem PySem.Spec PyProof.Rows L2 CL Fm
theorem spR0 {C Cp : Addr} {md : Md} {vs : List V} {H : Hp} {Q : VK} {E : XK} (h : spR C Cp 0 md vs H Q E) : False := by
  unfold spR at h
  split at h
  · obtain ⟨l, s, i, ns, _, _, _, h⟩ := h
    cases md <;> exact h
  · exact h
theorem spWd0 {C Cp : Addr} {vs : List V} {H : Hp} {Q : VK} {E : XK} (h : spWd C Cp 0 vs H Q E) : False := by
  unfold spWd at h
  split at h
  · obtain ⟨l, s, i, ns, c, _, _, _, _, _, h⟩ := h
    exact h
  · exact h
theorem spW0 {C Cp : Addr} {vs : List V} {H : Hp} {Q : VK} {E : XK} (h : spW C Cp 0 vs H Q E) : False := by
  unfold spW at h
  split at h
  · obtain ⟨l, s, i, ns, _, _, _, h⟩ := h
    exact h
  · exact h
/-- the defs of the reading methods -/
structure Ms (K : PySem.W.Frag) (C : Addr) : Prop where
  sum : ∃ f fd, Meth K C "read_sum" f ∧ Fun K "read_sum" "Reader.read_sum" sRSum f fd ∧ Binds K fd pRSum []
  term : ∃ f fd, Meth K C "read_term" f ∧ Fun K "read_term" "Reader.read_term" sRTerm f fd ∧ Binds K fd pRTerm []
  factor : ∃ f fd, Meth K C "read_factor" f ∧ Fun K "read_factor" "Reader.read_factor" sRFac f fd ∧ Binds K fd pRFac []
  word : ∃ f fd, Meth K C "read_word" f ∧ Fun K "read_word" "Reader.read_word" sRWord f fd ∧ Binds K fd pRWord []
  pair : ∃ f fd, Meth K C "read_pair" f ∧ Fun K "read_pair" "Reader.read_pair" sRPair f fd ∧ Binds K fd pRPair []
section
variable {P : Program} {w : World} {K : PySem.W.Frag} {mg : Str → Option Value} {base : Heap} {C Cp aP aR : Addr}
theorem ih_all (T : Tg P w K mg base C Cp aP aR) (M : Ms K C) : ∀ f, Ih P w K mg base C Cp f := by
  obtain ⟨f1, d1, m1, F1, b1⟩ := M.sum
  obtain ⟨f2, d2, m2, F2, b2⟩ := M.term
  obtain ⟨f3, d3, m3, F3, b3⟩ := M.factor
  obtain ⟨f4, d4, m4, F4, b4⟩ := M.word
  obtain ⟨f5, d5, m5, F5, b5⟩ := M.pair
  intro f
  induction f with
  | zero =>
    exact ⟨⟨f1, d1, m1, ⟨fun _ _ _ _ h => (spR0 h).elim, fun _ _ _ _ _ _ _ _ _ _ _ _ _ h => (spR0 h).elim⟩, b1⟩, ⟨f2, d2, m2, ⟨fun _ _ _ _ h => (spR0 h).elim, fun _ _ _ _ _ _ _ _ _ _ _ _ _ h => (spR0 h).elim⟩, b2⟩,
      ⟨f3, d3, m3, ⟨fun _ _ _ _ h => (spR0 h).elim, fun _ _ _ _ _ _ _ _ _ _ _ _ _ h => (spR0 h).elim⟩, b3⟩, ⟨f4, d4, m4, ⟨fun _ _ _ _ h => (spWd0 h).elim, fun _ _ _ _ _ _ _ _ _ _ _ _ _ h => (spWd0 h).elim⟩, b4⟩,
      ⟨f5, d5, m5, ⟨fun _ _ _ _ h => (spW0 h).elim, fun _ _ _ _ _ _ _ _ _ _ _ _ _ h => (spW0 h).elim⟩, b5⟩⟩
  | succ f ih => exact ⟨⟨f1, d1, m1, ok_sum T ih F1, b1⟩, ⟨f2, d2, m2, ok_term T ih F2, b2⟩, ⟨f3, d3, m3, ok_factor T ih F3, b3⟩, ⟨f4, d4, m4, ok_word T ih F4, b4⟩, ⟨f5, d5, m5, ok_pair T ih F5, b5⟩⟩
/-- the whole text -/
def wholeR (s : Str) : R := match parse s 306 .sum 0 [] with
  | some (.ok t j ms) => if cp s (skip s j) = none then .ok t (skip s j) ms else .err (skip s j)
  | some r => r
  | none => .err 0
def spWhole (C Cp : Addr) : Sp := fun vs H Q E => match vs with
  | [.ref a] => ∃ l s, RdAt C H a l s 0 [] ∧ s.length ≤ 100 ∧ rdRes C Cp a l s H Q E (some (wholeR s))
  | _ => False
def spRInit (C : Addr) : Sp := fun vs H Q _ => match vs with
  | [.ref a, .str s] => ∃ dx, H a = some (.ins C dx []) ∧ ∀ H' l, (∀ b o, b ≠ a → H b = some o → H' b = some o) → H l = none → RdAt C H' a l s 0 [] → Q .non H'
  | _ => False
abbrev sWhole : Stmt := inClass (topS 11) 3
abbrev nWhole : List Str := ["self", "tree"]
abbrev pWhole : List Str := ["self"]
theorem scWhole : FnScope nWhole pWhole (defScope sWhole) := ⟨rfl, rfl, rfl, by decide +kernel, rfl, by decide +kernel, by decide +kernel⟩
abbrev sRInit : Stmt := inClass (topS 11) 0
abbrev nRInit : List Str := ["self", "text"]
abbrev pRInit : List Str := ["self", "text"]
theorem scRInit : FnScope nRInit pRInit (defScope sRInit) := ⟨rfl, rfl, rfl, by decide +kernel, rfl, by decide +kernel, by decide +kernel⟩
theorem ok_whole {fn : Addr} {fd : FuncData} (T : Tg P w K mg base C Cp aP aR) (IH : Ih P w K mg base C Cp 306) (F : Fun K "whole" "Reader.whole" sWhole fn fd) : FnM P w K mg base (L2.CX P w) 320 fn fd pWhole (spWhole C Cp) := by
  refine F.okM scWhole (fun vs H Q E h => ?_) (fun cdv A outer s H vs Q E hr h => ?_)
  · unfold spWhole at h
    split at h
    · rfl
    · exact h.elim
  · refine ⟨_, (pss_cons (ps_set (i := 1) scWhole.nd rfl (.inl rfl) (pe_mg0 IH.sum T.cl (passes_call (L2.takes_of rfl rfl rfl rfl) (fun _ _ _ _ h => h)) hr (by omega) (cv 0)))
  (pss_cons (ps_if (ct_cmp op_ne (pe_mg0 T.skip T.cl pass0 hr (by omega) (cv 0)) pe_str (nomark _))
  (pss_one (ps_raise1 T.pe rfl (hr.mono (by omega)) (L2.takes_of rfl rfl rfl rfl) (pe_fld (cv 0) rfl)))
  pss_nil)
  (pss_one (ps_ret (cv 1))))), ?_⟩
    unfold spWhole at h
    split at h
    · rename_i a
      obtain ⟨l, s, R, hn, q⟩ := h
      obtain ⟨dx, ha⟩ := R.ins
      unfold wholeR at q
      refine ⟨a, dx, _, rfl, ha, rdF_no s 0 l _ (by simp), l, s, 0, [], R, Nat.zero_le _, hn, ?_⟩
      cases h1 : parse s 306 .sum 0 [] with
      | none => exact (parse_some 306 .sum 0 [] (by simp only [Fm.Md.c]; omega) (fun _ _ => trivial) h1).elim
      | some r =>
        rw [h1] at q
        cases r with
        | err p => exact q
        | ok t j ms =>
          dsimp only at q
          have hj := parse_le _ _ _ _ _ _ _ (Nat.zero_le _) h1
          intro v H1 R1 M1 tr1
          obtain ⟨dx, ha1⟩ := R1.ins
          refine ⟨a, dx, _, rfl, ha1, rdF_no s j l _ (by simp), l, s, j, ms, R1, hj, hn, fun H2 R2 M2 => ⟨rfl, ?_⟩⟩
          obtain ⟨dx, ha2⟩ := R2.ins
          obtain ⟨r1, r2, r3⟩ := rdF_at s (skip s j) l
          by_cases hc : cp s (skip s j) = none
          · rw [if_pos hc] at q
            rw [decide_eq_true (one_nil.mpr hc)]
            exact q v H2 R2 (M1.trans M2) (tr1.mb R1 M2)
          · rw [if_neg hc] at q
            rw [decide_eq_false (fun z => hc (one_nil.mp z))]
            exact ⟨a, C, dx, _, _, rfl, ha2, T.cl, T.n2, r2, raise_at q (M1.trans M2)⟩
    · exact h.elim
theorem ok_rinit {fn : Addr} {fd : FuncData} (cl : Cls K C) (n1 : NoAttr K C "chars") (n2 : NoAttr K C "spot") (n3 : NoAttr K C "found_names") (F : Fun K "__init__" "Reader.__init__" sRInit fn fd) : FnOk P w K mg base CX0 1 fn fd pRInit (spRInit C) := by
  refine F.ok scRInit (fun vs H Q E h => ?_) (fun cdv A outer s H vs Q E hr h => ?_)
  · unfold spRInit at h
    split at h
    · rfl
    · exact h.elim
  · refine ⟨_, (pss_cons (ps_fld (cv 0) (cv 1) rfl)
  (pss_cons (ps_fld (cv 0) pe_int rfl)
  (pss_one (ps_fld (cv 0) (pe_lst pa_nil) rfl)))), ?_⟩
    unfold spRInit at h
    split at h
    · rename_i a s
      obtain ⟨dx, ha, q⟩ := h
      refine ⟨a, C, dx, _, rfl, ha, cl, n1, by show 0 < 1000; decide, a, C, dx, _, rfl, upd_same, cl, n2, by show 1 < 1000; decide, ?_⟩
      refine ⟨by show 0 ≤ sizeLine; decide, fun l nl => ?_⟩
      have la : a ≠ l := ne_of_none upd_same nl
      have hla : H l = none := by
        rw [upd_ne la.symm, upd_ne la.symm] at nl
        exact nl
      refine ⟨a, C, dx, _, rfl, by rw [upd_ne la]; exact upd_same, cl, n3, by show 2 < 1000; decide, ?_⟩
      refine q _ l (fun b o n h => ?_) hla ⟨⟨dx, upd_same⟩, by rw [upd_ne la.symm]; exact upd_same, Nat.zero_le _⟩
      have nb : b ≠ l := ne_of_none h hla
      rw [upd_ne n, upd_ne nb, upd_ne n, upd_ne n]
      exact h
    · exact h.elim
end
end Rk

set_option Elab.async false
set_option linter.all false
set_option maxRecDepth 100000
set_option maxHeartbeats 4000000
set_option pp.maxSteps 100
namespace Rk
open PySem PySem.Spec PyProof.Rows L2 CL Fm
/-- nothing but a is altered -/
def Onl (a : Addr) (H H' : Hp) : Prop := ∀ b o, b ≠ a → H b = some o → H' b = some o
theorem Onl.refl {a : Addr} {H : Hp} : Onl a H H := fun _ _ _ h => h
theorem Onl.upd {a : Addr} {H : Hp} {o : HO} : Onl a H (upd H a o) := fun b o h z => by rw [upd_ne h]; exact z
theorem Onl.trans {a : Addr} {H H1 H2 : Hp} (x : Onl a H H1) (y : Onl a H1 H2) : Onl a H H2 := fun b o h z => y b o h (x b o h z)
theorem Onl.of {a : Addr} {H H' : Hp} (x : Same H H') : Onl a H H' := fun b o _ z => x b o z
theorem Onl.new {a b : Addr} {H : Hp} {o : HO} (h : H b = none) : Onl a H (L2.upd H b o) := .of (same_new h)
theorem Tr.on {H H' : Hp} (k : ∀ b xs, H b = some (.tup xs) → H' b = some (.tup xs)) {v : V} {t : T} (h : Tr H v t) : Tr H' v t := by
  induction h with
  | num h => exact .num (k _ _ h)
  | nam h => exact .nam (k _ _ h)
  | neg h _ i1 => exact .neg (k _ _ h) i1
  | op h _ _ i1 i2 => exact .op (k _ _ h) i1 i2
/-- the error of the class Cp with index p -/
def ferr (Cp a : Addr) (p : Nat) (H : Hp) (E : XK) : Prop := ∀ d H2, Onl a H H2 → H2 d = some (.xd [("index", .int (p : Int))]) → E (.ref Cp) (some d) H2
def isS : V → Bool
  | .str _ => true
  | _ => false
def frF (v : V) (l : Addr) (s : Str) (p : Addr) : List (Str × V) := [("tree", v), ("own_reads", .ref l), ("text", .str s), ("names", .ref p)]
/-- what is made of a text -/
def fmRes (CF Cp a : Addr) (s : Str) (H : Hp) (Q : VK) (E : XK) : R → Prop
  | .err p => ferr Cp a p H E
  | .ok t _ ns => (TX.tAll ns []).length < 64 ∧ ns.length ≤ 100 ∧ ∀ v l p ys H', Onl a H H' → (∃ dx, H' a = some (.ins CF dx (frF v l s p))) → Tr H' v t → H' l = some (.lst (ns.map V.str)) → H' p = some (.tup (ys.map V.str)) →
      ys.Perm (TX.tAll ns []) → sortedS ys = true → Q .non H'
def spFInit (K : PySem.W.Frag) (CF Cp : Addr) : Sp := fun vs H Q E => match vs with
  | [.ref a, x] => (∃ dx, H a = some (.ins CF dx [])) ∧ (∃ k, BK K H x k) ∧ (match x with
    | .str s => s.length ≤ sizeLine ∧ (if 100 < s.length then ferr Cp a 100 H E else fmRes CF Cp a s H Q E (wholeR s))
    | _ => ferr Cp a 0 H E)
  | _ => False
structure BlF (mg : Str → Option Value) : Prop where
  isinstance : mg "isinstance" = none
  str : mg "str" = none
  len : mg "len" = none
  tuple : mg "tuple" = none
  sorted : mg "sorted" = none
structure Fi (P : Program) (w : World) (K : PySem.W.Frag) (mg : Str → Option Value) (base : Heap) (C Cp CF fR : Addr) : Prop where
  B : BlF mg
  pe : ErrC P w K mg base "ParseError" Cp "index"
  mlen : ∃ t, mg "MAX_LENGTH" = some (.int 100 t)
  rg : mg "Reader" = some (.ref C)
  rm : Mk K C fR
  ri : ∃ fd, FnOk P w K mg base CX0 1 fR fd pRInit (spRInit C) ∧ Binds K fd pRInit []
  wh : MetG P w K mg base (L2.CX P w) 320 C "whole" ["self"] (spWhole C Cp)
  cl : Cls K C
  clF : Cls K CF
  f1 : NoAttr K CF "tree"
  f2 : NoAttr K CF "own_reads"
  f3 : NoAttr K CF "text"
  f4 : NoAttr K CF "names"
  f5 : NoAttr K C "found_names"
abbrev sFInit : Stmt := inClass (topS 12) 0
abbrev nFInit : List Str := ["self", "text", "reader", "name"]
abbrev pFInit : List Str := ["self", "text"]
theorem scFInit : FnScope nFInit pFInit (defScope sFInit) := ⟨rfl, rfl, rfl, by decide +kernel, rfl, by decide +kernel, by decide +kernel⟩
section
variable {P : Program} {w : World} {K : PySem.W.Frag} {mg : Str → Option Value} {base : Heap} {C Cp CF fR : Addr}
theorem ok_finit {fn : Addr} {fd : FuncData} (T : Fi P w K mg base C Cp CF fR) (F : Fun K "__init__" "Formula.__init__" sFInit fn fd) : FnOk P w K mg base (L2.CX P w) 111 fn fd pFInit (spFInit K CF Cp) := by
  have B := T.B
  obtain ⟨tm, hML⟩ := T.mlen
  obtain ⟨fdR, oR, bR⟩ := T.ri
  refine F.okX scFInit (fun vs H Q E h => ?_) (fun cdv A outer s H vs Q E hr h => ?_)
  · unfold spFInit at h
    split at h
    · rfl
    · exact h.elim
  · refine ⟨_, (pss_cons (ps_if (pt_not (ct_val (pe_isi (m := .str) (by decide +kernel) B.isinstance B.str (by rfl) (by rfl) (cv 1))))
  (pss_one (ps_raise1 T.pe rfl (hr.mono (by omega)) (L2.takes_of rfl rfl rfl rfl) pe_int))
  pss_nil)
  (pss_cons (ps_if (ct_cmp c_gt (pe_callB call_len_str (by rfl) B.len (by decide +kernel) (pa_cons (cv 1) pa_nil)) (pe_glob (v := .int 100) (by rfl) hML ⟨tm, rfl⟩) (nomark _))
  (pss_one (ps_raise1 T.pe rfl (hr.mono (by omega)) (L2.takes_of rfl rfl rfl rfl) (pe_glob (v := .int 100) (by rfl) hML ⟨tm, rfl⟩)))
  pss_nil)
  (pss_cons (ps_set (i := 2) scFInit.nd rfl (.inl rfl) (pe_make T.rm oR (hr.mono (by decide)) (by rfl) T.rg bR .nil pass0 (pa_cons (cv 1) pa_nil)))
  (pss_cons (ps_fld (cv 0) (pe_mg0 T.wh T.cl (passes_call (L2.takes_of rfl rfl rfl rfl) (fun _ _ _ _ h => h)) (Rm.of (n := 320) hr (by decide) (by decide)) (by decide) (cv 2)) rfl)
  (pss_cons (ps_fld (cv 0) (pe_fld (cv 2) rfl) rfl)
  (pss_cons (ps_fld (cv 0) (cv 1) rfl)
  (pss_one (ps_fld (cv 0) (pe_callTy call_tuple_of (by rfl) B.tuple (by decide +kernel) (pa_cons (pe_callB (TX.cr_sortTx (by rfl)) (by rfl) B.sorted (by decide +kernel) (pa_cons (TX.pe_tc (own := [("name", 3)]) (g := gName 3) (by rfl) scFInit.nd (pi_list (pe_fld (cv 2) rfl)) (blkOk_by (N := nFInit) (sc := (defScope sFInit)) (own := [("name", 3)]) (by decide +kernel)) (fun _ _ _ _ _ => pg_name (i := 3) scFInit.nd rfl (Or.inl rfl)) (fun _ _ _ _ _ => pts_nil) (fun _ _ _ _ _ => (cv 3))) pa_nil)) pa_nil)) rfl)))))))), ?_⟩
    unfold spFInit at h
    split at h
    · rename_i a x
      obtain ⟨⟨dx, ha⟩, ⟨kx, hx⟩, q⟩ := h
      have bad : ferr Cp a 0 H E → ∀ d H2, H d = none → Same H H2 → H2 d = some (.xd [("index", .int 0)]) → E (.ref Cp) (some d) H2 := fun q d H2 _ sm e => q d H2 (.of sm) e
      cases hx with
      | non => exact bad q
      | bl b => exact bad q
      | int i => exact bad q
      | lst h => exact ⟨_, .lst h, bad q⟩
      | tup h => exact ⟨_, .tup h, bad q⟩
      | dic h => exact ⟨_, .dic h, bad q⟩
      | str s =>
        obtain ⟨hz, q⟩ := q
        refine ⟨s, rfl, hz, ?_⟩
        by_cases hc : 100 < s.length
        · rw [if_pos hc] at q
          have : decide ((100 : Int) < (s.length : Int)) = true := decide_eq_true (by omega)
          show if decide ((100 : Int) < (s.length : Int)) = true then _ else _
          rw [if_pos this]
          exact fun d H2 _ sm e => q d H2 (.of sm) e
        · rw [if_neg hc] at q
          have : ¬ decide ((100 : Int) < (s.length : Int)) = true := fun z => hc (by have := of_decide_eq_true z; omega)
          show if decide ((100 : Int) < (s.length : Int)) = true then _ else _
          rw [if_neg this]
          intro x dy nx ny ne
          have xa : x ≠ a := fun z => by rw [z, ha] at nx; cases nx
          have ya : dy ≠ a := fun z => by rw [z, ha] at ny; cases ny
          refine ⟨dy, upd_same, fun H1 l k1 nl R1 => ⟨rfl, ?_⟩⟩
          have la : l ≠ a := fun z => by
            rw [z, upd_ne xa.symm, upd_ne ya.symm, ha] at nl
            cases nl
          have O1 : Onl a H H1 := fun b o n h => by
            have bx : b ≠ x := fun z => by rw [z, nx] at h; cases h
            have by_ : b ≠ dy := fun z => by rw [z, ny] at h; cases h
            exact k1 b o bx (by rw [upd_ne bx, upd_ne by_]; exact h)
          have a1 : H1 a = some (.ins CF dx []) := k1 a _ xa.symm (by rw [upd_ne xa.symm, upd_ne ya.symm]; exact ha)
          obtain ⟨d1, x1⟩ := R1.ins
          refine ⟨x, d1, _, rfl, x1, rdF_no s 0 l _ (by simp), l, s, R1, by omega, ?_⟩
          have O2 : ∀ {H2 : Hp}, MB x l H1 H2 → Onl a H H2 := fun m b o n h => by
            have z := O1 b o n h
            have bx : b ≠ x := fun z => by rw [z, nx] at h; cases h
            have bl : b ≠ l := fun z2 => by
              have by_ : b ≠ dy := fun z => by rw [z, ny] at h; cases h
              rw [← z2, upd_ne bx, upd_ne by_] at nl
              rw [nl] at h
              cases h
            exact m b o bx bl z
          cases hw : wholeR s with
          | err p =>
            rw [hw] at q
            exact fun d H2 m e => q d H2 (O2 m) e
          | ok t j ns =>
            rw [hw] at q
            obtain ⟨q1, q2, q⟩ := q
            intro v H2 R2 M2 t2
            have a2 : H2 a = some (.ins CF dx []) := M2 a _ xa.symm la.symm a1
            obtain ⟨d2, x2⟩ := R2.ins
            refine ⟨a, CF, dx, _, rfl, a2, T.clF, T.f1, by show 0 < 1000; decide, ?_⟩
            have nd : (ns.map V.str).length ≤ 100 := by rw [List.length_map]; exact q2
            refine ⟨x, C, d2, _, _, rfl, by rw [upd_ne xa]; exact x2, T.cl, T.f5, (rdF_at s j l).2.2, a, CF, dx, _, rfl, upd_same, T.clF, T.f2, by show 1 < 1000; decide, ?_⟩
            refine ⟨a, CF, dx, _, rfl, upd_same, T.clF, T.f3, by show 2 < 1000; decide, ?_⟩
            refine ⟨x, C, d2, _, _, rfl, by rw [upd_ne xa, upd_ne xa, upd_ne xa]; exact x2, T.cl, T.f5, (rdF_at s j l).2.2, l, rfl, ⟨_, SqL.of (by rw [upd_ne la, upd_ne la, upd_ne la]; exact R2.lst)⟩, fun D hD => ?_⟩
            have sb : ns.length + 1 < scanBound := Nat.lt_of_le_of_lt (Nat.succ_le_succ q2) (by decide)
            refine TX.tc_names (xs := ns) (by rw [upd_ne la, upd_ne la, upd_ne la]; exact R2.lst) hD sb (by show 3 < 4; decide) ?_
            refine ⟨D, _, rfl, upd_same, q1, fun ys p yp yo np => ?_⟩
            refine ⟨p, ys.map V.str, rfl, .inl ⟨SqL.of upd_same, fun pt npt => ?_⟩⟩
            have aD : a ≠ D := ne_of_none upd_same hD
            have lD : l ≠ D := ne_of_none (show _ = some _ by rw [upd_ne la, upd_ne la, upd_ne la]; exact R2.lst) hD
            have ap : a ≠ p := ne_of_none (show _ = some _ by rw [upd_ne aD]; exact upd_same) np
            have lp : l ≠ p := ne_of_none (show _ = some _ by rw [upd_ne lD, upd_ne la, upd_ne la, upd_ne la]; exact R2.lst) np
            have apt : a ≠ pt := ne_of_none (show _ = some _ by rw [upd_ne ap, upd_ne aD]; exact upd_same) npt
            have lpt : l ≠ pt := ne_of_none (show _ = some _ by rw [upd_ne lp, upd_ne lD, upd_ne la, upd_ne la, upd_ne la]; exact R2.lst) npt
            refine ⟨a, CF, dx, _, rfl, by rw [upd_ne apt, upd_ne ap, upd_ne aD]; exact upd_same, T.clF, T.f4, by show 3 < 1000; decide, ?_⟩
            have O3 : Onl a H2 (upd (upd (upd (upd (upd (upd H2 a _) a _) a _) D _) p (.lst (ys.map V.str))) pt (.tup (ys.map V.str))) :=
              ((((Onl.upd.trans Onl.upd).trans Onl.upd).trans (.new hD)).trans (.new np)).trans (.new npt)
            refine q v l pt ys _ (((O2 M2).trans O3).trans .upd) ⟨dx, upd_same⟩ ?_ ?_ ?_ yp yo
            · exact t2.on (fun b xs h => (O3.trans .upd) b _ (ne_of h a2 fun z => nomatch z) h)
            · rw [upd_ne la, upd_ne lpt, upd_ne lp, upd_ne lD, upd_ne la, upd_ne la, upd_ne la]; exact R2.lst
            · rw [upd_ne apt.symm]; exact upd_same
    · exact h.elim
end
end Rk

set_option Elab.async false
set_option linter.all false
set_option maxRecDepth 100000
set_option maxHeartbeats 1000000
/-! Mc: a machine that reads from left to right, with a stack of brackets; it agrees with parse. -/
namespace Fm
open PySem PySem.Spec L2
inductive Br where
  | one
  | pair
  | last
  deriving DecidableEq
/-- what is expected next -/
structure Ms where
  i : Nat
  w : Bool
  bs : List Br
  ns : List Str
/-- behind an operand, at the sign c -/
def beh (s : Str) (p c : Nat) (bs : List Br) (ns : List Str) : Ms ⊕ Nat :=
  if c = 43 ∨ c = 45 ∨ c = 42 then .inl ⟨p + 1, false, bs, ns⟩
  else if c = 47 then (if cp s (p + 1) = some 47 then .inl ⟨p + 2, false, bs, ns⟩ else .inr (p + 1))
  else if c = 44 ∧ bs.head? = some .pair then .inl ⟨p + 1, false, .last :: bs.tail, ns⟩
  else if c = 41 ∧ (bs.head? = some .one ∨ bs.head? = some .last) then .inl ⟨p + 1, true, bs.tail, ns⟩
  else .inr p
def wrd (s : Str) (p : Nat) (bs : List Br) (ns : List Str) : Ms ⊕ Nat := match wordEnd s p p with
  | .error e => .inr e
  | .ok e => if cut s p e = "min" ∨ cut s p e = "max" then (if cp s (skip s e) = some 40 then .inl ⟨skip s e + 1, false, .pair :: bs, ns⟩ else .inr (skip s e))
    else if cut s p e = "self" then .inr e else .inl ⟨e, true, bs, ns ++ [cut s p e]⟩
/-- where an operand is expected, at the sign c -/
def opd (s : Str) (p c : Nat) (bs : List Br) (ns : List Str) : Ms ⊕ Nat :=
  if c = 45 then .inl ⟨p + 1, false, bs, ns⟩
  else if c = 40 then .inl ⟨p + 1, false, .one :: bs, ns⟩
  else if isD c = true then (match intEnd s p p with
    | .error e => .inr e
    | .ok e => .inl ⟨e, true, bs, ns⟩)
  else if isL c = true then wrd s p bs ns
  else .inr p
/-- how it ends: the wrong place or none, and the names; by steps -/
inductive Ev (s : Str) : Ms → Option Nat → List Str → Prop
  | stop {m : Ms} : cp s (skip s m.i) = none → Ev s m (if m.w = true ∧ m.bs = [] then none else some (skip s m.i)) m.ns
  | bad {m : Ms} {c p : Nat} : cp s (skip s m.i) = some c → (if m.w = true then beh s (skip s m.i) c m.bs m.ns else opd s (skip s m.i) c m.bs m.ns) = .inr p → Ev s m (some p) m.ns
  | go {m m' : Ms} {c : Nat} {o : Option Nat} {ls : List Str} : cp s (skip s m.i) = some c → (if m.w = true then beh s (skip s m.i) c m.bs m.ns else opd s (skip s m.i) c m.bs m.ns) = .inl m' → Ev s m' o ls → Ev s m o ls
section
variable {s : Str} {i p c : Nat} {bs : List Br} {ns ms ls : List Str} {o : Option Nat} {t : T} {r : R}
/-- behind j there is no such sign -/
def no2 (s : Str) (j : Nat) : Prop := cp s (skip s j) ≠ some 42 ∧ cp s (skip s j) ≠ some 47
def no4 (s : Str) (j : Nat) : Prop := no2 s j ∧ cp s (skip s j) ≠ some 43 ∧ cp s (skip s j) ≠ some 45
def Agr (s : Str) (i : Nat) (w : Bool) (bs : List Br) (ns : List Str) (G : Nat → Prop) : R → Prop
  | .err p => ∃ ls, Ev s ⟨i, w, bs, ns⟩ (some p) ls
  | .ok _ j ms => G j ∧ ∀ o ls, Ev s ⟨j, true, bs, ms⟩ o ls → Ev s ⟨i, w, bs, ns⟩ o ls
theorem Ev.sk {w : Bool} (h : Ev s ⟨skip s i, w, bs, ns⟩ o ls) : Ev s ⟨i, w, bs, ns⟩ o ls := by
  generalize hm : (⟨skip s i, w, bs, ns⟩ : Ms) = m at h
  cases h with
  | stop h =>
    subst hm
    have h : cp s (skip s (skip s i)) = none := h
    rw [skip_skip] at h
    have z := Ev.stop (s := s) (m := ⟨i, w, bs, ns⟩) h
    show Ev s _ (if w = true ∧ bs = [] then none else some (skip s (skip s i))) _
    rw [skip_skip]
    exact z
  | bad h e =>
    subst hm
    dsimp only at h e
    rw [skip_skip] at h e
    exact Ev.bad (m := ⟨i, w, bs, ns⟩) h e
  | go h e k =>
    subst hm
    dsimp only at h e
    rw [skip_skip] at h e
    exact Ev.go (m := ⟨i, w, bs, ns⟩) h e k
theorem ev_beh {m' : Ms} (h : cp s (skip s i) = some c) (e : beh s (skip s i) c bs ns = .inl m') (k : Ev s m' o ls) : Ev s ⟨i, true, bs, ns⟩ o ls := .go (m := ⟨i, true, bs, ns⟩) h (by rw [if_pos rfl]; exact e) k
theorem ev_opd {m' : Ms} (h : cp s (skip s i) = some c) (e : opd s (skip s i) c bs ns = .inl m') (k : Ev s m' o ls) : Ev s ⟨i, false, bs, ns⟩ o ls := .go (m := ⟨i, false, bs, ns⟩) h (by rw [if_neg Bool.false_ne_true]; exact e) k
theorem bad_beh (h : cp s (skip s i) = some c) (e : beh s (skip s i) c bs ns = .inr p) : Ev s ⟨i, true, bs, ns⟩ (some p) ns := .bad (m := ⟨i, true, bs, ns⟩) h (by rw [if_pos rfl]; exact e)
theorem bad_opd (h : cp s (skip s i) = some c) (e : opd s (skip s i) c bs ns = .inr p) : Ev s ⟨i, false, bs, ns⟩ (some p) ns := .bad (m := ⟨i, false, bs, ns⟩) h (by rw [if_neg Bool.false_ne_true]; exact e)
/-- a closing sign that is not there -/
theorem bad_close {q : Br} (h : no4 s i) (hc : ¬ cp s (skip s i) = some (if q = .pair then 44 else 41)) : Ev s ⟨i, true, q :: bs, ns⟩ (some (skip s i)) ns := by
  obtain ⟨⟨h1, h2⟩, h3, h4⟩ := h
  cases hs : cp s (skip s i) with
  | none =>
    have z := Ev.stop (s := s) (m := ⟨i, true, q :: bs, ns⟩) hs
    rw [if_neg (fun z => nomatch z.2)] at z
    exact z
  | some c =>
    rw [hs] at h1 h2 h3 h4 hc
    refine bad_beh hs ?_
    unfold beh
    have n1 : ¬ (c = 43 ∨ c = 45 ∨ c = 42) := by
      rintro (z | z | z)
      · exact h3 (congrArg some z)
      · exact h4 (congrArg some z)
      · exact h1 (congrArg some z)
    rw [if_neg n1, if_neg (fun z => h2 (congrArg some z))]
    cases q with
    | pair =>
      rw [if_neg (fun z => hc (congrArg some z.1)), if_neg (fun z => by rcases z.2 with z | z <;> cases z)]
    | one =>
      rw [if_neg (fun z => by cases z.2), if_neg (fun z => hc (congrArg some z.1))]
    | last =>
      rw [if_neg (fun z => by cases z.2), if_neg (fun z => hc (congrArg some z.1))]
/-- from a place and a stack to another stack -/
def Agp (s : Str) (i : Nat) (b0 bs : List Br) (ns : List Str) : R → Prop
  | .err p => ∃ ls, Ev s ⟨i, false, b0, ns⟩ (some p) ls
  | .ok _ j ms => ∀ o ls, Ev s ⟨j, true, bs, ms⟩ o ls → Ev s ⟨i, false, b0, ns⟩ o ls
/-- the claim for one mode -/
def Cl (s : Str) (md : Md) (i : Nat) (bs : List Br) (ns : List Str) (r : R) : Prop := match md with
  | .sum => Agr s i false bs ns (no4 s) r
  | .term => Agr s i false bs ns (no2 s) r
  | .factor => Agr s i false bs ns (fun _ => True) r
  | .sl _ => no2 s i → Agr s i true bs ns (no4 s) r
  | .tl _ => Agr s i true bs ns (no2 s) r
  | .word => ∀ c, cp s i = some c → isL c = true → Agr s i false bs ns (fun _ => True) r
  | .pair _ => if cp s (skip s i) = some 40 then Agp s (skip s i + 1) (.pair :: bs) bs ns r else r = .err (skip s i)
theorem isL_no {c : Nat} (h : isL c = true) : c ≠ 45 ∧ c ≠ 40 ∧ isD c = false ∧ c ≠ 32 := by
  unfold isL at h
  have := of_decide_eq_true h
  refine ⟨by omega, by omega, ?_, by omega⟩
  unfold isD
  exact decide_eq_false (by omega)
theorem agr_ok {G : Nat → Prop} {w : Bool} {j : Nat} (h : Agr s i w bs ns G (.ok t j ms)) : G j ∧ ∀ o ls, Ev s ⟨j, true, bs, ms⟩ o ls → Ev s ⟨i, w, bs, ns⟩ o ls := h
theorem agr_err {G : Nat → Prop} {w : Bool} (h : Agr s i w bs ns G (.err p)) : ∃ ls, Ev s ⟨i, w, bs, ns⟩ (some p) ls := h
theorem cl_sum {j : Nat} (h : Cl s .sum i bs ns (.ok t j ms)) : no4 s j ∧ ∀ o ls, Ev s ⟨j, true, bs, ms⟩ o ls → Ev s ⟨i, false, bs, ns⟩ o ls := h
theorem cl_term {j : Nat} (h : Cl s .term i bs ns (.ok t j ms)) : no2 s j ∧ ∀ o ls, Ev s ⟨j, true, bs, ms⟩ o ls → Ev s ⟨i, false, bs, ns⟩ o ls := h
theorem cl_fac {j : Nat} (h : Cl s .factor i bs ns (.ok t j ms)) : True ∧ ∀ o ls, Ev s ⟨j, true, bs, ms⟩ o ls → Ev s ⟨i, false, bs, ns⟩ o ls := h
theorem cl_word {j : Nat} (h : Agr s i false bs ns (fun _ => True) (.ok t j ms)) : True ∧ ∀ o ls, Ev s ⟨j, true, bs, ms⟩ o ls → Ev s ⟨i, false, bs, ns⟩ o ls := h
theorem cl_err (h : Cl s .sum i bs ns (.err p) ∨ Cl s .term i bs ns (.err p) ∨ Cl s .factor i bs ns (.err p)) : ∃ ls, Ev s ⟨i, false, bs, ns⟩ (some p) ls := by
  rcases h with h | h | h <;> exact h
/-- a chain: the second is asked where the first ends -/
theorem agr_then {G G' : Nat → Prop} {w : Bool} {j : Nat} (h : ∀ o ls, Ev s ⟨j, true, bs, ms⟩ o ls → Ev s ⟨i, w, bs, ns⟩ o ls) (k : Agr s j true bs ms G r) : Agr s i w bs ns G r := by
  cases r with
  | err p => exact let ⟨ls, z⟩ := k; ⟨ls, h _ _ z⟩
  | ok t j ms => exact ⟨k.1, fun o ls z => h _ _ (k.2 o ls z)⟩
theorem agr_pre {G G' : Nat → Prop} {w w' : Bool} {i' : Nat} {b' : List Br} {q : List Str} (h : ∀ o ls, Ev s ⟨i', w', bs, q⟩ o ls → Ev s ⟨i, w, bs, ns⟩ o ls) (k : Agr s i' w' bs q G r) : Agr s i w bs ns G r := by
  cases r with
  | err p => exact let ⟨ls, z⟩ := k; ⟨ls, h _ _ z⟩
  | ok t j ms => exact ⟨k.1, fun o ls z => h _ _ (k.2 o ls z)⟩
theorem agree : ∀ (f : Nat) (md : Md) (i : Nat) (ns : List Str) (r : R), parse s f md i ns = some r → ∀ bs, Cl s md i bs ns r := by
  intro f
  induction f with
  | zero => intro md i ns r h; cases h
  | succ f ih =>
    intro md i ns r h bs
    cases md with
    | sum =>
      rw [parse] at h
      split at h
      · rename_i t j ms h1
        have a := cl_term (ih _ _ _ _ h1 bs)
        exact agr_then (G' := no2 s) a.2 (ih _ _ _ _ h bs a.1)
      · rename_i hno
        have a := ih _ _ _ _ h bs
        cases r with
        | err p => exact a
        | ok t j ms => exact (hno _ _ _ h).elim
    | sl t =>
      intro g
      rw [parse] at h
      split at h
      · rename_i hc
        have step : ∀ o ls, Ev s ⟨skip s i + 1, false, bs, ns⟩ o ls → Ev s ⟨i, true, bs, ns⟩ o ls := fun o ls z => by
          rcases hc with hc | hc
          · exact ev_beh hc (by rfl) z
          · exact ev_beh hc (by rfl) z
        split at h
        · rename_i u j ms h1
          have a := cl_term (ih _ _ _ _ h1 bs)
          exact agr_then (G' := no2 s) (fun o ls z => step o ls (a.2 o ls z)) (ih _ _ _ _ h bs a.1)
        · rename_i hno
          have a := ih _ _ _ _ h bs
          cases r with
          | err p => exact let ⟨ls, z⟩ := cl_err (.inr (.inl a)); ⟨ls, step _ _ z⟩
          | ok t j ms => exact (hno _ _ _ h).elim
      · rename_i hc
        cases h
        refine ⟨⟨?_, ?_⟩, fun o ls z => z.sk⟩
        · unfold no2 at g ⊢
          rw [skip_skip]; exact g
        · rw [skip_skip]
          exact ⟨fun z => hc (.inl z), fun z => hc (.inr z)⟩
    | term =>
      rw [parse] at h
      split at h
      · rename_i t j ms h1
        have a := cl_fac (ih _ _ _ _ h1 bs)
        exact agr_then (G' := no2 s) a.2 (ih _ _ _ _ h bs)
      · rename_i hno
        have a := ih _ _ _ _ h bs
        cases r with
        | err p => exact a
        | ok t j ms => exact (hno _ _ _ h).elim
    | tl t =>
      rw [parse] at h
      split at h
      · rename_i hc
        have step : ∀ o ls, Ev s ⟨skip s i + 1, false, bs, ns⟩ o ls → Ev s ⟨i, true, bs, ns⟩ o ls := fun o ls z => ev_beh hc (by rfl) z
        split at h
        · rename_i u j ms h1
          have a := cl_fac (ih _ _ _ _ h1 bs)
          exact agr_then (G' := no2 s) (fun o ls z => step o ls (a.2 o ls z)) (ih _ _ _ _ h bs)
        · rename_i hno
          have a := ih _ _ _ _ h bs
          cases r with
          | err p => exact let ⟨ls, z⟩ := cl_err (.inr (.inr a)); ⟨ls, step _ _ z⟩
          | ok t j ms => exact (hno _ _ _ h).elim
      · rename_i hn2
        split at h
        · rename_i hc
          split at h
          · rename_i hc2
            have step : ∀ o ls, Ev s ⟨skip s i + 2, false, bs, ns⟩ o ls → Ev s ⟨i, true, bs, ns⟩ o ls := fun o ls z => ev_beh hc (by unfold beh; rw [if_neg (by omega), if_pos rfl, if_pos hc2]) z
            split at h
            · rename_i u j ms h1
              have a := cl_fac (ih _ _ _ _ h1 bs)
              exact agr_then (G' := no2 s) (fun o ls z => step o ls (a.2 o ls z)) (ih _ _ _ _ h bs)
            · rename_i hno
              have a := ih _ _ _ _ h bs
              cases r with
              | err p => exact let ⟨ls, z⟩ := cl_err (.inr (.inr a)); ⟨ls, step _ _ z⟩
              | ok t j ms => exact (hno _ _ _ h).elim
          · rename_i hc2
            cases h
            exact ⟨_, bad_beh hc (by unfold beh; rw [if_neg (by omega), if_pos rfl, if_neg hc2])⟩
        · rename_i hn
          cases h
          refine ⟨?_, fun o ls z => z.sk⟩
          unfold no2
          rw [skip_skip]
          exact ⟨hn2, hn⟩
    | factor =>
      rw [parse] at h
      split at h
      · rename_i hc
        cases h
        have z := Ev.stop (s := s) (m := ⟨i, false, bs, ns⟩) hc
        rw [if_neg (fun z => Bool.false_ne_true z.1)] at z
        exact ⟨_, z⟩
      · rename_i c hc
        split at h
        · rename_i h45
          subst h45
          have step : ∀ o ls, Ev s ⟨skip s i + 1, false, bs, ns⟩ o ls → Ev s ⟨i, false, bs, ns⟩ o ls := fun o ls z => ev_opd hc (by rfl) z
          split at h
          · rename_i u j ms h1
            cases h
            have a := cl_fac (ih _ _ _ _ h1 bs)
            exact ⟨trivial, fun o ls z => step o ls (a.2 o ls z)⟩
          · rename_i hno
            have a := ih _ _ _ _ h bs
            cases r with
            | err p => exact let ⟨ls, z⟩ := cl_err (.inr (.inr a)); ⟨ls, step _ _ z⟩
            | ok t j ms => exact (hno _ _ _ h).elim
        · rename_i n45
          split at h
          · rename_i h40
            subst h40
            have step : ∀ o ls, Ev s ⟨skip s i + 1, false, .one :: bs, ns⟩ o ls → Ev s ⟨i, false, bs, ns⟩ o ls := fun o ls z => ev_opd hc (by rfl) z
            split at h
            · rename_i u j ms h1
              have a := cl_sum (ih _ _ _ _ h1 (.one :: bs))
              unfold need at h
              split at h
              · rename_i h41
                cases h
                exact ⟨trivial, fun o ls z => step o ls (a.2 o ls (ev_beh h41 (by rfl) z))⟩
              · rename_i h41
                cases h
                exact ⟨_, step _ _ (a.2 _ _ (bad_close a.1 h41))⟩
            · rename_i hno
              have a := ih _ _ _ _ h (.one :: bs)
              cases r with
              | err p => exact let ⟨ls, z⟩ := cl_err (.inl a); ⟨ls, step _ _ z⟩
              | ok t j ms => exact (hno _ _ _ h).elim
          · rename_i n40
            split at h
            · rename_i hd
              have eo : opd s (skip s i) c bs ns = (match intEnd s (skip s i) (skip s i) with | .error e => .inr e | .ok e => .inl ⟨e, true, bs, ns⟩) := by
                unfold opd
                rw [if_neg n45, if_neg n40, if_pos hd]
              split at h
              · rename_i p he
                rw [he] at eo
                cases h
                exact ⟨_, bad_opd hc eo⟩
              · rename_i e he
                rw [he] at eo
                cases h
                exact ⟨trivial, fun o ls z => ev_opd hc eo z⟩
            · rename_i nd
              split at h
              · rename_i hl
                have a := ih _ _ _ _ h bs c hc hl
                cases r with
                | err p => exact let ⟨ls, z⟩ := cl_err (.inl a); ⟨ls, z.sk⟩
                | ok t j ms => exact ⟨trivial, fun o ls z => (a.2 o ls z).sk⟩
              · rename_i nl
                cases h
                exact ⟨_, bad_opd hc (by unfold opd; rw [if_neg n45, if_neg n40, if_neg nd, if_neg nl])⟩
    | word =>
      intro c hc hl
      obtain ⟨n45, n40, nd, n32⟩ := isL_no hl
      have hs : skip s i = i := skip_no (by rw [hc]; intro z; exact n32 (Option.some.inj z))
      have eo : opd s i c bs ns = wrd s i bs ns := by
        unfold opd
        rw [if_neg n45, if_neg n40, nd, if_neg Bool.false_ne_true, if_pos hl]
      have hc' : cp s (skip s i) = some c := by rw [hs]; exact hc
      rw [parse] at h
      unfold wrd at eo
      split at h
      · rename_i p he
        rw [he] at eo
        cases h
        exact ⟨_, bad_opd hc' (by rw [hs]; exact eo)⟩
      · rename_i e he
        rw [he] at eo
        dsimp only at eo
        split at h
        · rename_i hp
          rw [if_pos hp] at eo
          have a : (if cp s (skip s e) = some 40 then Agp s (skip s e + 1) (.pair :: bs) bs ns r else r = .err (skip s e)) := ih _ _ _ _ h bs
          split at a
          · rename_i h40
            rw [if_pos h40] at eo
            cases r with
            | err p => exact let ⟨ls, z⟩ := (show ∃ ls, _ from a); ⟨ls, ev_opd hc' (by rw [hs]; exact eo) z⟩
            | ok t j ms => exact ⟨trivial, fun o ls z => ev_opd hc' (by rw [hs]; exact eo) ((show ∀ o ls, _ from a) o ls z)⟩
          · rename_i h40
            rw [if_neg h40] at eo
            subst a
            exact ⟨_, bad_opd hc' (by rw [hs]; exact eo)⟩
        · rename_i hp
          rw [if_neg hp] at eo
          split at h
          · rename_i hself
            rw [if_pos hself] at eo
            cases h
            exact ⟨_, bad_opd hc' (by rw [hs]; exact eo)⟩
          · rename_i hself
            rw [if_neg hself] at eo
            cases h
            exact ⟨trivial, fun o ls z => ev_opd hc' (by rw [hs]; exact eo) z⟩
    | pair w =>
      rw [parse] at h
      unfold need at h
      unfold Cl
      split at h
      · rename_i h40
        rw [if_pos h40]
        dsimp only at h
        split at h
        · rename_i t1 j1 m1 h1
          have a := cl_sum (ih _ _ _ _ h1 (.pair :: bs))
          split at h
          · rename_i h44
            have step : ∀ o ls, Ev s ⟨skip s j1 + 1, false, .last :: bs, m1⟩ o ls → Ev s ⟨skip s i + 1, false, .pair :: bs, ns⟩ o ls := fun o ls z => a.2 o ls (ev_beh h44 (by rfl) z)
            split at h
            · rename_i t2 j2 m2 h2
              have b := cl_sum (ih _ _ _ _ h2 (.last :: bs))
              split at h
              · rename_i h41
                cases h
                exact fun o ls z => step o ls (b.2 o ls (ev_beh h41 (by rfl) z))
              · rename_i h41
                cases h
                exact ⟨_, step _ _ (b.2 _ _ (bad_close b.1 h41))⟩
            · rename_i hno
              have b := ih _ _ _ _ h (.last :: bs)
              cases r with
              | err p => exact let ⟨ls, z⟩ := cl_err (.inl b); ⟨ls, step _ _ z⟩
              | ok t j ms => exact (hno _ _ _ h).elim
          · rename_i h44
            cases h
            exact ⟨_, a.2 _ _ (bad_close a.1 h44)⟩
        · rename_i hno
          have a := ih _ _ _ _ h (.pair :: bs)
          cases r with
          | err p => exact cl_err (.inl a)
          | ok t j ms => exact (hno _ _ _ h).elim
      · rename_i h40
        rw [if_neg h40]
        cases h
        rfl
end
end Fm

set_option Elab.async false
set_option linter.all false
set_option maxRecDepth 100000
set_option maxHeartbeats 1000000
/-! Mc2: a step goes on; how many names there are; the whole text. -/
namespace Fm
open PySem PySem.Spec L2 Rk
variable {s : Str}
theorem intEnd_gt {p c e : Nat} (hc : cp s p = some c) (hd : isD c = true) (h : intEnd s p p = .ok e) : p < e := by
  rw [intEnd, dif_pos ⟨c, hc, hd⟩, if_neg (by omega)] at h
  exact intEnd_ge _ _ _ rfl h
theorem wordEnd_gt {p c e : Nat} (hc : cp s p = some c) (hl : isL c = true) (h : wordEnd s p p = .ok e) : p < e := by
  rw [wordEnd, dif_pos ⟨c, hc, hl⟩, if_neg (by omega)] at h
  exact wordEnd_ge _ _ _ rfl h
def Ms.fine (m : Ms) : Prop := 2 * m.ns.length ≤ m.i + (if m.w = true then 1 else 0)
theorem step_ok {m m' : Ms} {c : Nat} (hc : cp s (skip s m.i) = some c) (e : (if m.w = true then beh s (skip s m.i) c m.bs m.ns else opd s (skip s m.i) c m.bs m.ns) = .inl m') :
    m.i < m'.i ∧ m'.i ≤ s.length ∧ (m.fine → m'.fine) := by
  have lt := cp_lt hc
  have le := skip_le (s := s) m.i
  unfold Ms.fine
  split at e
  · rename_i hw
    rw [if_pos hw]
    unfold beh at e
    split at e
    · cases e
      exact ⟨by dsimp only; omega, lt, fun h => by dsimp only; omega⟩
    · split at e
      · split at e
        · rename_i h2
          have := cp_lt h2
          cases e
          exact ⟨by dsimp only; omega, by dsimp only; omega, fun h => by dsimp only; omega⟩
        · cases e
      · split at e
        · cases e
          exact ⟨by dsimp only; omega, lt, fun h => by dsimp only; omega⟩
        · split at e
          · cases e
            exact ⟨by dsimp only; omega, lt, fun h => by dsimp only; rw [if_pos rfl]; omega⟩
          · cases e
  · rename_i hw
    rw [if_neg hw]
    unfold opd at e
    split at e
    · cases e
      exact ⟨by dsimp only; omega, lt, fun h => by dsimp only; omega⟩
    · split at e
      · cases e
        exact ⟨by dsimp only; omega, lt, fun h => by dsimp only; omega⟩
      · split at e
        · rename_i hd
          split at e
          · cases e
          · rename_i x hx
            have gt := intEnd_gt hc hd hx
            have le2 := intEnd_le _ _ _ rfl (Nat.le_of_lt lt) hx
            cases e
            exact ⟨by dsimp only; omega, le2.2, fun h => by dsimp only; omega⟩
        · split at e
          · rename_i hl
            unfold wrd at e
            split at e
            · cases e
            · rename_i x hx
              have gt := wordEnd_gt hc hl hx
              have le2 := wordEnd_le _ _ _ rfl (Nat.le_of_lt lt) hx
              have le3 := skip_le (s := s) x
              split at e
              · split at e
                · rename_i h40
                  have := cp_lt h40
                  cases e
                  exact ⟨by dsimp only; omega, by dsimp only; omega, fun h => by dsimp only; omega⟩
                · cases e
              · split at e
                · cases e
                · cases e
                  refine ⟨by dsimp only; omega, le2.2, fun h => ?_⟩
                  dsimp only
                  rw [if_pos rfl, List.length_append, List.length_singleton]
                  omega
          · cases e
theorem Ev.few {m : Ms} {o : Option Nat} {ls : List Str} (h : Ev s m o ls) : m.i ≤ s.length → m.fine → 2 * ls.length ≤ s.length + 1 := by
  induction h with
  | stop h =>
    intro hi hf
    unfold Ms.fine at hf
    split at hf <;> omega
  | bad h e =>
    intro hi hf
    unfold Ms.fine at hf
    split at hf <;> omega
  | go h e k ih =>
    intro hi hf
    have z := step_ok h e
    exact ih z.2.1 (z.2.2 hf)
/-- the machine's answer to a whole text -/
def EvW (s : Str) : R → Prop
  | .err p => ∃ ls, Ev s ⟨0, false, [], []⟩ (some p) ls
  | .ok _ _ ms => Ev s ⟨0, false, [], []⟩ none ms
theorem whole_ev (hs : s.length ≤ 100) : EvW s (wholeR s) := by
  unfold wholeR
  cases h1 : parse s 306 .sum 0 [] with
  | none => exact (parse_some 306 .sum 0 [] (by simp only [Fm.Md.c]; omega) (fun _ _ => trivial) h1).elim
  | some r =>
    have a := agree _ _ _ _ _ h1 []
    cases r with
    | err p => exact a
    | ok t j ms =>
      obtain ⟨⟨⟨g1, g2⟩, g3, g4⟩, k⟩ := cl_sum a
      dsimp only
      by_cases hc : cp s (skip s j) = none
      · rw [if_pos hc]
        have z := Ev.stop (s := s) (m := ⟨j, true, [], ms⟩) hc
        rw [if_pos ⟨rfl, rfl⟩] at z
        exact k _ _ z
      · rw [if_neg hc]
        cases hs : cp s (skip s j) with
        | none => exact (hc hs).elim
        | some c =>
          rw [hs] at g1 g2 g3 g4
          refine ⟨_, k _ _ (bad_beh hs ?_)⟩
          unfold beh
          rw [if_neg, if_neg (fun z => g2 (congrArg some z)), if_neg (fun z => by cases z.2), if_neg (fun z => by rcases z.2 with z | z <;> cases z)]
          rintro (z | z | z)
          · exact g3 (congrArg some z)
          · exact g4 (congrArg some z)
          · exact g1 (congrArg some z)
theorem ev_one {m : Ms} {o o' : Option Nat} {ls ls' : List Str} (h : Ev s m o ls) (h' : Ev s m o' ls') : o = o' ∧ ls = ls' := by
  induction h with
  | stop h =>
    cases h' with
    | stop h2 => exact ⟨rfl, rfl⟩
    | bad h2 e => rw [h] at h2; cases h2
    | go h2 e k => rw [h] at h2; cases h2
  | bad h e =>
    cases h' with
    | stop h2 => rw [h] at h2; cases h2
    | bad h2 e2 =>
      rw [h] at h2
      cases h2
      rw [e] at e2
      cases e2
      exact ⟨rfl, rfl⟩
    | go h2 e2 k =>
      rw [h] at h2
      cases h2
      rw [e] at e2
      cases e2
  | go h e k ih =>
    cases h' with
    | stop h2 => rw [h] at h2; cases h2
    | bad h2 e2 =>
      rw [h] at h2
      cases h2
      rw [e] at e2
      cases e2
    | go h2 e2 k2 =>
      rw [h] at h2
      cases h2
      rw [e] at e2
      cases e2
      exact ih k2
theorem names_few {t : T} {j : Nat} {ms : List Str} (hs : s.length ≤ 100) (h : wholeR s = .ok t j ms) : ms.length ≤ 50 := by
  have z := whole_ev hs
  rw [h] at z
  have := Ev.few (show Ev s ⟨0, false, [], []⟩ none ms from z) (Nat.zero_le _) (by unfold Ms.fine; simp)
  omega
end Fm

set_option Elab.async false
set_option linter.all false
set_option maxRecDepth 100000
set_option maxHeartbeats 1000000
/-! Mc3: runs of signs of a kind, at most so many. -/
namespace Fm
open PySem PySem.Spec L2 Rk
variable {s : Str}
/-- behind the signs of a kind, at most m of them -/
def runE (s : Str) (g : Nat → Bool) : Nat → Nat → Nat
  | 0, i => i
  | m + 1, i => match cp s i with
    | some c => if g c = true then runE s g m (i + 1) else i
    | none => i
theorem run_le {g : Nat → Bool} : ∀ (m i : Nat), i ≤ runE s g m i ∧ runE s g m i ≤ i + m ∧ (i ≤ s.length → runE s g m i ≤ s.length)
  | 0, i => ⟨Nat.le_refl _, Nat.le_refl _, id⟩
  | m + 1, i => by
    unfold runE
    cases hc : cp s i with
    | none => exact ⟨Nat.le_refl _, Nat.le_add_right _ _, id⟩
    | some c =>
      have lt := cp_lt hc
      have a := run_le (g := g) m (i + 1)
      dsimp only
      split
      · exact ⟨by omega, by omega, fun _ => a.2.2 (by omega)⟩
      · exact ⟨Nat.le_refl _, by omega, id⟩
theorem run_skip : ∀ (m i : Nat), s.length ≤ i + m → runE s (fun c => decide (c = 32)) m i = skip s i
  | 0, i, h => by
    rw [skip_no]
    · rfl
    · rw [cp_none (by omega)]
      intro z
      cases z
  | m + 1, i, h => by
    unfold runE
    cases hc : cp s i with
    | none =>
      rw [skip_no (by rw [hc]; intro z; cases z)]
    | some c =>
      dsimp only
      by_cases h32 : c = 32
      · rw [if_pos (decide_eq_true h32), skip_sp (by rw [hc, h32])]
        exact run_skip m (i + 1) (by omega)
      · rw [if_neg (fun z => h32 (of_decide_eq_true z)), skip_no (by rw [hc]; intro z; exact h32 (Option.some.inj z))]
/-- is there a sign of the kind? -/
def isAt (s : Str) (g : Nat → Bool) (i : Nat) : Bool := match cp s i with
  | some c => g c
  | none => false
theorem isAt_iff {g : Nat → Bool} {i : Nat} : isAt s g i = true ↔ ∃ c, cp s i = some c ∧ g c = true := by
  unfold isAt
  cases hc : cp s i with
  | none => exact ⟨(fun z => nomatch z), fun z => by obtain ⟨c, z, _⟩ := z; cases z⟩
  | some c => exact ⟨fun z => ⟨c, rfl, z⟩, fun z => by obtain ⟨c', e, z⟩ := z; cases e; exact z⟩
theorem run_int {b : Nat} (h0 : cp s b ≠ some 48) : ∀ (m i : Nat), b ≤ i → i - b + m = 31 → intEnd s b i = if isAt s isD (runE s isD m i) = true then .error (runE s isD m i) else .ok (runE s isD m i)
  | 0, i, hb, h => by
    rw [intEnd]
    show _ = if isAt s isD i = true then _ else _
    by_cases hx : isAt s isD i = true
    · rw [if_pos hx, dif_pos (isAt_iff.mp hx), if_pos (.inl (by omega))]
      rfl
    · rw [if_neg hx, dif_neg (fun z => hx (isAt_iff.mpr z))]
      rfl
  | m + 1, i, hb, h => by
    by_cases hx : isAt s isD i = true
    · obtain ⟨c, hc, hd⟩ := isAt_iff.mp hx
      have e : runE s isD (m + 1) i = runE s isD m (i + 1) := by
        rw [runE, hc]
        exact if_pos hd
      rw [e, intEnd, dif_pos ⟨c, hc, hd⟩, if_neg (by rintro (z | z); omega; exact h0 z.1)]
      exact run_int h0 m (i + 1) (by omega) (by omega)
    · have e : runE s isD (m + 1) i = i := by
        rw [runE]
        cases hc : cp s i with
        | none => rfl
        | some c => exact if_neg (fun z => hx (isAt_iff.mpr ⟨c, hc, z⟩))
      rw [e, if_neg hx, intEnd, dif_neg (fun z => hx (isAt_iff.mpr z))]
theorem run_word {b : Nat} : ∀ (m i : Nat), b ≤ i → i - b + m = 8 → wordEnd s b i = if isAt s isL (runE s isL m i) = true then .error (runE s isL m i) else .ok (runE s isL m i)
  | 0, i, hb, h => by
    rw [wordEnd]
    show _ = if isAt s isL i = true then _ else _
    by_cases hx : isAt s isL i = true
    · rw [if_pos hx, dif_pos (isAt_iff.mp hx), if_pos (by omega)]
      rfl
    · rw [if_neg hx, dif_neg (fun z => hx (isAt_iff.mpr z))]
      rfl
  | m + 1, i, hb, h => by
    by_cases hx : isAt s isL i = true
    · obtain ⟨c, hc, hd⟩ := isAt_iff.mp hx
      have e : runE s isL (m + 1) i = runE s isL m (i + 1) := by
        rw [runE, hc]
        exact if_pos hd
      rw [e, wordEnd, dif_pos ⟨c, hc, hd⟩, if_neg (by omega)]
      exact run_word m (i + 1) (by omega) (by omega)
    · have e : runE s isL (m + 1) i = i := by
        rw [runE]
        cases hc : cp s i with
        | none => rfl
        | some c => exact if_neg (fun z => hx (isAt_iff.mpr ⟨c, hc, z⟩))
      rw [e, if_neg hx, wordEnd, dif_neg (fun z => hx (isAt_iff.mpr z))]
/-- the law's way with an integer that begins at p -/
def figE (s : Str) (p : Nat) : Nat := if cp s p = some 48 then p + 1 else runE s isD 31 p
theorem int_law {p c : Nat} (hc : cp s p = some c) (hd : isD c = true) : intEnd s p p = if isAt s isD (figE s p) = true then .error (figE s p) else .ok (figE s p) := by
  unfold figE
  by_cases h : cp s p = some 48
  · rw [if_pos h, intEnd, dif_pos ⟨c, hc, hd⟩, if_neg (by omega), intEnd]
    by_cases hx : isAt s isD (p + 1) = true
    · rw [if_pos hx, dif_pos (isAt_iff.mp hx), if_pos (.inr ⟨h, Nat.lt_succ_self _⟩)]
    · rw [if_neg hx, dif_neg (fun z => hx (isAt_iff.mpr z))]
  · rw [if_neg h]
    exact run_int h 31 p (Nat.le_refl _) (by omega)
theorem word_law {p : Nat} : wordEnd s p p = if isAt s isL (runE s isL 8 p) = true then .error (runE s isL 8 p) else .ok (runE s isL 8 p) := run_word 8 p (Nat.le_refl _) (by omega)
end Fm

set_option Elab.async false
set_option linter.all false
set_option maxRecDepth 100000
set_option maxHeartbeats 4000000
set_option pp.maxSteps 100
namespace Rk
open PySem PySem.Spec PyProof.Rows L2 CL Fm
/-- is it one of these signs? -/
def inZ (z : Str) (c : Nat) : Bool := decide (c ∈ z.cps.toList)
def spRun : Sp := fun vs H Q _ => match vs with
  | [.str s, .int i, .str z, .int m] => ∃ n k : Nat, i = n ∧ m = k ∧ s.length ≤ sizeLine ∧ Q (.int (runE s (inZ z) k n : Nat)) H
  | _ => False
structure BlW (mg : Str → Option Value) : Prop where
  len : mg "len" = none
abbrev sRun : Stmt := topS 25
abbrev nRun : List Str := ["_law_text", "_law_at", "_law_signs", "_law_most", "_law_end"]
abbrev pRun : List Str := ["_law_text", "_law_at", "_law_signs", "_law_most"]
theorem scRun : FnScope nRun pRun (defScope sRun) := ⟨rfl, rfl, rfl, by decide +kernel, rfl, by decide +kernel, by decide +kernel⟩
section
variable {P : Program} {w : World} {K : PySem.W.Frag} {mg : Str → Option Value} {base : Heap}
theorem ok_run (B : BlW mg) (F : FunAt K mg "_law_run_of" sRun pRun) : DefOk P w K mg base CX0 1 "_law_run_of" pRun spRun := by
  refine F.ok scRun (fun vs H Q E h => ?_) (fun f cdv A outer s H vs Q E hr h => ?_)
  · unfold spRun at h
    split at h
    · rfl
    · exact h.elim
  · refine ⟨_, (pss_cons (ps_set (i := 4) scRun.nd rfl (.inl rfl) (cv 1))
  (pss_cons (ps_while PassesOwn.never (PW.pt (pw_and (ct_cmp c_lt (cv 4) (pe_callB call_len_str (by rfl) B.len (by decide +kernel) (pa_cons (cv 0) pa_nil)) (nomark _)) (pw_and (ct_cmp c_lt (cv 4) (pe_op c_addI (cv 1) (cv 3)) (nomark _)) (pw_and1 (ct_cmp op_inS (pe_ix ix_str (cv 0) (cv 4) (fun _ _ => rfl)) (cv 2) (by rfl))))))
  (pss_one (ps_set (i := 4) scRun.nd rfl (.inl rfl) (pe_op c_addI (cv 4) pe_int))))
  (pss_one (ps_ret (cv 4))))), ?_⟩
    unfold spRun at h
    split at h
    · rename_i s i z m
      obtain ⟨n, k, rfl, rfl, hz, q⟩ := h
      refine ⟨fun d σ H' => H' = H ∧ ∃ j : Nat, d = n + k - j ∧ n ≤ j ∧ j ≤ n + k ∧ runE s (inZ z) (n + k - j) j = runE s (inZ z) k n ∧ σ = [some (.str s), some (.int (n : Int)), some (.str z), some (.int (k : Int)), some (.int (j : Int))], ⟨_, rfl, n, rfl, Nat.le_refl _, by omega, by rw [Nat.add_sub_cancel_left], rfl⟩, ?_⟩
      rintro d σ H1 ⟨rfl, j, rfl, hj, hk, he, rfl⟩
      have stop : runE s (inZ z) (n + k - j) j = j → Q (.int (j : Int)) H1 := fun e => by
        rw [← he, e] at q
        exact q
      refine ⟨s, rfl, hz, ?_⟩
      show if decide ((j : Int) < (s.length : Int)) = true then _ else _
      by_cases h1 : j < s.length
      · rw [if_pos (decide_eq_true (by omega))]
        show if decide ((j : Int) < (n : Int) + (k : Int)) = true then _ else _
        by_cases h2 : j < n + k
        · rw [if_pos (decide_eq_true (by omega))]
          obtain ⟨c, hc⟩ : ∃ c, cp s j = some c := by
            unfold cp
            exact ⟨s.cps[j], Array.getElem?_eq_getElem h1⟩
          have ha : atI s.cps.toList (j : Int) = some c := by
            unfold atI ixN
            have hl : s.cps.toList.length = s.length := by simp; rfl
            rw [if_pos (by omega), if_pos (by omega), Option.bind_some, Int.toNat_natCast]
            unfold cp at hc
            simpa using hc
          obtain ⟨d, hd⟩ : ∃ d, n + k - j = d + 1 := ⟨n + k - j - 1, by omega⟩
          have e1 : runE s (inZ z) (n + k - j) j = if inZ z c = true then runE s (inZ z) d (j + 1) else j := by
            rw [hd, runE, hc]
          refine ⟨s, _, c, rfl, rfl, hz, ha, c, z, rfl, rfl, ?_⟩
          show if inZ z c = true then _ else _
          by_cases hi : inZ z c = true
          · rw [if_pos hi]
            rw [if_pos hi] at e1
            have e2 : n + k - (j + 1) = d := by omega
            refine ⟨fun σ' H' => H' = H1 ∧ σ' = [some (.str s), some (.int (n : Int)), some (.str z), some (.int (k : Int)), some (.int ((j + 1 : Nat) : Int))], ?_, ⟨rfl, rfl⟩⟩
            rintro σ' H' ⟨rfl, rfl⟩
            refine ⟨n + k - (j + 1), by omega, rfl, j + 1, rfl, by omega, by omega, ?_, rfl⟩
            rw [← he, e1, e2]
          · rw [if_neg hi]
            rw [if_neg hi] at e1
            exact stop e1
        · rw [if_neg (fun z => h2 (by have := of_decide_eq_true z; omega))]
          have e : n + k - j = 0 := by omega
          exact stop (by rw [e]; rfl)
      · rw [if_neg (fun z => h1 (by have := of_decide_eq_true z; omega))]
        refine stop ?_
        cases n + k - j with
        | zero => rfl
        | succ d => rw [runE, cp_none (by omega)]
    · exact h.elim
end
end Rk

set_option Elab.async false
set_option linter.all false
set_option maxRecDepth 100000
set_option maxHeartbeats 4000000
set_option pp.maxSteps 100
namespace Rk
open PySem PySem.Spec PyProof.Rows L2 CL Fm
def brS : Br → Str
  | .one => "one"
  | .pair => "pair"
  | .last => "last"
/-- the stack as a list, its head last -/
def brV (bs : List Br) : List V := bs.reverse.map fun b => V.str (brS b)
def wS (w : Bool) : Str := if w = true then "sign" else "operand"
/-- what a step tells: the word and the place, the stack changed -/
def told (l : Addr) (bs : List Br) (H : Hp) (Q : VK) : Fm.Ms ⊕ Nat → Prop
  | .inl m => ∀ t H', Onl l H H' → H' l = some (.lst (brV m.bs)) → H' t = some (.tup [.str (wS m.w), .int (m.i : Nat)]) → Q (.ref t) H'
  | .inr e => ∀ t H', Onl l H H' → H' l = some (.lst (brV bs)) → H' t = some (.tup [.str "wrong", .int (e : Nat)]) → Q (.ref t) H'
def spBeh : Sp := fun vs H Q _ => match vs with
  | [.str s, .int i, .ref l] => ∃ (p c : Nat) (bs : List Br), i = p ∧ cp s p = some c ∧ s.length ≤ sizeLine ∧ H l = some (.lst (brV bs)) ∧ bs.length < 1000 ∧ told l bs H Q (beh s p c bs [])
  | _ => False
def brD (L : List Br) : List PyData := L.map fun b => .str (brS b)
theorem br_dp {K : PySem.W.Frag} {H : Hp} : ∀ L : List Br, DpAll K H (L.map fun b => V.str (brS b)) (brD L)
  | [] => .nil
  | _ :: r => .cons (.str _) (br_dp r)
theorem br_lay : ∀ L : List Br, PyData.canLayAll0 (brD L) = true
  | [] => by rfl
  | b :: r => by
    show (PyData.canLay0 (.str (brS b)) && PyData.canLayAll0 (brD r)) = true
    rw [br_lay r, Bool.and_true]
    cases b <;> first | decide +kernel | (unfold PyData.canLay0; decide +kernel)
theorem br_depth : ∀ L : List Br, PyData.depthAll (brD L) = 0
  | [] => by rfl
  | b :: r => by
    show max 0 (PyData.depthAll (brD r)) = 0
    rw [br_depth r] <;> rfl
theorem br_sh (L : List Br) : SeqAt.shaped (.list (brD L)) = true := by
  show (PyData.canLayAll0 (brD L) && decide (PyData.depthAll (brD L) + 1 ≤ 64)) = true
  rw [br_lay, br_depth] <;> rfl
/-- the inner bracket's word -/
def inner : List Br → Str
  | [] => ""
  | b :: _ => brS b
theorem read_inner {K : PySem.W.Frag} {H : Hp} {x y : Option V} {tl : L2.St} {l : Addr} {bs : List Br} {Qk : VK} (hl : H l = some (.lst (brV bs))) (k : ∀ H1, H1 l = some (.lst (brV bs)) → Onl l H H1 → Qk (.str (inner bs)) H1) :
    tIf (cTest (tOp (rNeD K) (cVar 2) (tLst tNil))) (tOp (cIxL K) (cVar 2) (tUn cNeg (tC (.int 1)))) (tC (.str "")) (x :: y :: some (.ref l) :: tl) H Qk := by
  refine ⟨by show 0 ≤ sizeLine; decide, fun a na => ?_⟩
  have la : l ≠ a := ne_of_none hl na
  have hl1 : upd H a (.lst []) l = some (.lst (brV bs)) := by rw [upd_ne la]; exact hl
  have sm : Onl l H (upd H a (.lst [])) := .new na
  refine ⟨.list (brD bs.reverse), .list [], .lst (SqL.of hl1) (br_dp _), .lst (SqL.of upd_same) .nil, br_sh _, by rfl, ?_⟩
  have kk := k _ hl1 sm
  cases bs with
  | nil => exact kk
  | cons b r =>
    have en : (!PyData.eqv (.list (brD (b :: r).reverse)) (.list [])) = true := by
      have : brD (b :: r).reverse ≠ [] := by simp [brD]
      cases hq : brD (b :: r).reverse with
      | nil => exact absurd hq this
      | cons x y => rfl
    rw [en]
    show if true = true then _ else _
    rw [if_pos rfl]
    refine ⟨_, .str (brS b), SqL.of hl1, ?_, kk⟩
    show atI (brV (b :: r)) (-1) = _
    have e : brV (b :: r) = (brV r) ++ [V.str (brS b)] := by unfold brV; simp
    rw [e]
    unfold atI ixN
    simp
    have e2 : (-1 + (((brV r).length : Int) + 1)).toNat = (brV r).length := by omega
    rw [if_pos (by omega), Option.bind_some, e2]
    simp
theorem inner_pair {bs : List Br} : (V.str (inner bs) = V.str "pair") ↔ bs.head? = some .pair := by
  cases bs with
  | nil => exact ⟨fun z => absurd z (by decide +kernel), fun z => by cases z⟩
  | cons b r =>
    show (V.str (brS b) = V.str "pair") ↔ some b = some .pair
    cases b <;> decide +kernel
theorem inner_in {bs : List Br} : inV (.str (inner bs)) [.str "one", .str "last"] = true ↔ bs.head? = some .one ∨ bs.head? = some .last := by
  cases bs with
  | nil => exact ⟨fun z => absurd z (by decide +kernel), fun z => by rcases z with z | z <;> cases z⟩
  | cons b r =>
    show inV (.str (brS b)) [.str "one", .str "last"] = true ↔ some b = some .one ∨ some b = some .last
    cases b <;> decide +kernel
structure BlI (mg : Str → Option Value) : Prop where
  int : mg "int" = none
abbrev sBeh : Stmt := topS 27
abbrev nBeh : List Str := ["_law_text", "_law_at", "_law_brackets", "_law_sign", "_law_inner"]
abbrev pBeh : List Str := ["_law_text", "_law_at", "_law_brackets"]
theorem scBeh : FnScope nBeh pBeh (defScope sBeh) := ⟨rfl, rfl, rfl, by decide +kernel, rfl, by decide +kernel, by decide +kernel⟩
section
variable {P : Program} {w : World} {K : PySem.W.Frag} {mg : Str → Option Value} {base : Heap}
theorem ok_beh (B : BlI mg) (F : FunAt K mg "_law_behind" sBeh pBeh) : DefOk P w K mg base CX0 1 "_law_behind" pBeh spBeh := by
  refine F.ok scBeh (fun vs H Q E h => ?_) (fun f cdv A outer s H vs Q E hr h => ?_)
  · unfold spBeh at h
    split at h
    · rfl
    · exact h.elim
  · refine ⟨_, (pss_cons (ps_par (i := 3) (j := 4) rfl scBeh.nd rfl rfl (by decide) rfl rfl (pa_cons (pe_ix ix_str (cv 0) (cv 1) (fun _ _ => rfl)) (pa_cons (pe_ifExp (ct_cmp (op_neD hr.units) (cv 2) (pe_lst pa_nil) (nomark _)) (pe_ix c_ixL (cv 2) (pe_un c_neg pe_int) (fun _ _ => rfl)) pe_str) pa_nil)) (by rfl))
  (pss_cons (ps_if (ct_cmp op_inS (cv 3) pe_str (by rfl))
  (pss_one (ps_ret (pe_tup (pa_cons pe_str (pa_cons (pe_op c_addI (cv 1) pe_int) pa_nil)))))
  pss_nil)
  (pss_cons (ps_if (ct_cmp op_eq (cv 3) pe_str (nomark _))
  (pss_one (ps_ret (pe_tup (pa_cons (pe_ifExp (ct_cmp op_eq (pe_slice sl_str (cv 0) (po_some (pe_op c_addI (cv 1) pe_int)) (po_some (pe_op c_addI (cv 1) pe_int))) pe_str (nomark _)) pe_str pe_str) (pa_cons (pe_op c_addI (pe_op c_addI (cv 1) pe_int) (pe_callTy c_int (by rfl) B.int (by decide +kernel) (pa_cons (pe_cmpR op_eq (pe_slice sl_str (cv 0) (po_some (pe_op c_addI (cv 1) pe_int)) (po_some (pe_op c_addI (cv 1) pe_int))) pe_str (nomark _)) pa_nil))) pa_nil)))))
  pss_nil)
  (pss_cons (ps_if (PW.pt (pw_and (ct_cmp op_eq (cv 3) pe_str (nomark _)) (pw_and1 (ct_cmp op_eq (cv 4) pe_str (nomark _)))))
  (pss_cons (ps_asg pe_str (pg_sub (cv 2) (pe_un c_neg pe_int) set_list))
  (pss_one (ps_ret (pe_tup (pa_cons pe_str (pa_cons (pe_op c_addI (cv 1) pe_int) pa_nil))))))
  pss_nil)
  (pss_cons (ps_if (PW.pt (pw_and (ct_cmp op_eq (cv 3) pe_str (nomark _)) (pw_and1 (ct_cmp op_in_seq (cv 4) (pe_tup (pa_cons pe_str (pa_cons pe_str pa_nil))) (by rfl)))))
  (pss_cons (ps_expr (pe_bm0 PySem.F.plainAttrs_list PySem.F.slot_list_pop PySem.F.type_list_pop mt_pop (cv 2)))
  (pss_one (ps_ret (pe_tup (pa_cons pe_str (pa_cons (pe_op c_addI (cv 1) pe_int) pa_nil))))))
  pss_nil)
  (pss_one (ps_ret (pe_tup (pa_cons pe_str (pa_cons (cv 1) pa_nil)))))))))), ?_⟩
    unfold spBeh at h
    split at h
    · rename_i s i l
      obtain ⟨p, c, bs, rfl, hc, hz, hl, hb, q⟩ := h
      have ha : atI s.cps.toList (p : Int) = some c := by
        have h1 := cp_lt hc
        unfold atI ixN
        have hl : s.cps.toList.length = s.length := by simp; rfl
        rw [if_pos (by omega), if_pos (by omega), Option.bind_some, Int.toNat_natCast]
        unfold cp at hc
        simpa using hc
      refine ⟨s, _, c, rfl, rfl, hz, ha, ?_⟩
      refine read_inner (l := l) (bs := bs) hl fun H1 hl1 sm => ?_
      refine ⟨_, _, rfl, ?_⟩
      have fin : ∀ (m : Fm.Ms), beh s p c bs [] = .inl m → ∀ H2 t, H2 l = some (.lst (brV m.bs)) → Onl l H1 H2 → H2 t = none → Q (.ref t) (upd H2 t (.tup [.str (wS m.w), .int (m.i : Nat)])) := fun m e H2 t h2 o2 nt => by
        rw [e] at q
        have lt : l ≠ t := ne_of_none h2 nt
        exact q t _ ((sm.trans o2).trans (.new nt)) (by rw [upd_ne lt]; exact h2) upd_same
      have bad : ∀ (e : Nat), beh s p c bs [] = .inr e → ∀ H2 t, H2 l = some (.lst (brV bs)) → Onl l H1 H2 → H2 t = none → Q (.ref t) (upd H2 t (.tup [.str "wrong", .int (e : Nat)])) := fun e he H2 t h2 o2 nt => by
        rw [he] at q
        have lt : l ≠ t := ne_of_none h2 nt
        exact q t _ ((sm.trans o2).trans (.new nt)) (by rw [upd_ne lt]; exact h2) upd_same
      refine ⟨c, _, rfl, rfl, ?_⟩
      have d1 : decide (c ∈ ("+-*" : Str).cps.toList) = decide (c = 43 ∨ c = 45 ∨ c = 42) := by
        have : ("+-*" : Str).cps.toList = [43, 45, 42] := by decide +kernel
        rw [this]
        simp
      rw [d1]
      by_cases h1 : c = 43 ∨ c = 45 ∨ c = 42
      · rw [decide_eq_true h1]
        refine ⟨by show 2 ≤ sizeLine; decide, fun t nt => ?_⟩
        exact fin ⟨p + 1, false, bs, []⟩ (by unfold beh; rw [if_pos h1]) H1 t hl1 .refl nt
      · rw [decide_eq_false h1]
        show if (false = true) then _ else _
        rw [if_neg Bool.false_ne_true]
        refine ⟨rfl, iteD (fun hs => ?_) (fun hs => ?_)⟩
        · have c47 : c = 47 := by
            injection hs with hs
            have : (#[c] : Array Nat) = #[47] := congrArg Str.cps hs
            simpa using this
          have ec : cutS s (some ((p : Int) + 1)) (some ((p : Int) + 2)) = one s (p + 1) := by
            have z := cut_one (s := s) (i := p + 1)
            have e1 : (((p + 1 : Nat) : Int)) = (p : Int) + 1 := by omega
            have e2 : (((p + 1 : Nat) : Int)) + 1 = (p : Int) + 2 := by omega
            rw [e2, e1] at z
            exact z
          have sl : (V.str (one s (p + 1)) = V.str "/") ↔ cp s (p + 1) = some 47 := one_eq
          refine ⟨_, rfl, _, rfl, s, rfl, hz, ?_⟩
          rw [ec]
          refine ⟨rfl, iteD (fun h2 => ?_) (fun h2 => ?_)⟩
          · have c2 := sl.mp h2
            refine ⟨_, rfl, _, rfl, s, rfl, hz, ?_⟩
            rw [ec]
            refine ⟨rfl, ?_⟩
            rw [decide_eq_true h2]
            refine ⟨by show 2 ≤ sizeLine; decide, fun t nt => ?_⟩
            exact fin ⟨p + 2, false, bs, []⟩ (by unfold beh; rw [if_neg h1, if_pos c47, if_pos c2]) H1 t hl1 .refl nt
          · have c2 : ¬ cp s (p + 1) = some 47 := fun z => h2 (sl.mpr z)
            refine ⟨_, rfl, _, rfl, s, rfl, hz, ?_⟩
            rw [ec]
            refine ⟨rfl, ?_⟩
            rw [decide_eq_false h2]
            refine ⟨by show 2 ≤ sizeLine; decide, fun t nt => ?_⟩
            exact bad (p + 1) (by unfold beh; rw [if_neg h1, if_pos c47, if_neg c2]) H1 t hl1 .refl nt
        · have n47 : ¬ c = 47 := fun z => hs (by rw [z] <;> rfl)
          have ip := inner_pair (bs := bs)
          have i44 : (V.str ⟨#[c]⟩ = V.str ",") ↔ c = 44 := by
            constructor
            · intro h3
              injection h3 with h3
              have : (#[c] : Array Nat) = #[44] := congrArg Str.cps h3
              simpa using this
            · intro z
              rw [z] <;> rfl
          refine ⟨rfl, iteD (fun h3 => ⟨rfl, iteD (fun h4 => ?yes) (fun h4 => ?no)⟩) (fun h3 => ?no2)⟩
          case yes =>
            have c44 := i44.mp h3
            have hp := ip.mp h4
            cases bs with
            | nil => cases hp
            | cons b r =>
              cases hp
              have e : brV (.pair :: r) = (brV r) ++ [V.str "pair"] := by unfold brV; simp [brS]
              refine ⟨l, _, -1, (brV r).length, rfl, rfl, hl1, ?_, ?_⟩
              · rw [e]
                unfold ixN
                simp
                omega
              · refine ⟨by show 2 ≤ sizeLine; decide, fun t nt => ?_⟩
                refine fin ⟨p + 1, false, .last :: r, []⟩ (by unfold beh; rw [if_neg h1, if_neg n47, if_pos ⟨c44, rfl⟩]; rfl) _ t ?_ .upd nt
                rw [upd_same, e]
                simp [brV, brS]
          all_goals
            have n34 : ¬ (c = 44 ∧ bs.head? = some .pair) := fun z => by first | exact h3 (i44.mpr z.1) | exact h4 (ip.mpr z.2)
            refine ⟨rfl, iteD (fun h5 => ?_) (fun h5 => ?_)⟩
            · refine ⟨by show 2 ≤ sizeLine; decide, fun a na => ⟨a, _, rfl, .inr (.inl (.inl upd_same)), rfl, rfl, ?_⟩⟩
              have la : l ≠ a := ne_of_none hl1 na
              have hl2 : upd H1 a (.tup [.str "one", .str "last"]) l = some (.lst (brV bs)) := by rw [upd_ne la]; exact hl1
              have o2 : Onl l H1 (upd H1 a (.tup [.str "one", .str "last"])) := .new na
              show if inV (.str (inner bs)) [.str "one", .str "last"] = true then _ else _
              have i41 : c = 41 := by
                injection h5 with h5
                have : (#[c] : Array Nat) = #[41] := congrArg Str.cps h5
                simpa using this
              by_cases hi : bs.head? = some .one ∨ bs.head? = some .last
              · rw [if_pos (inner_in.mpr hi)]
                cases bs with
                | nil => rcases hi with z | z <;> cases z
                | cons b r =>
                  have e : brV (b :: r) = (brV r) ++ [V.str (brS b)] := by unfold brV; simp
                  refine ⟨.inl ⟨rfl, _, SqL.of hl2⟩, l, _, V.str (brS b), rfl, rfl, hl2, ?_, ?_⟩
                  · rw [e]; simp
                  · refine ⟨by show 2 ≤ sizeLine; decide, fun t nt => ?_⟩
                    refine fin ⟨p + 1, true, r, []⟩ (by unfold beh; rw [if_neg h1, if_neg n47, if_neg n34, if_pos ⟨i41, hi⟩]; rfl) _ t ?_ (o2.trans .upd) nt
                    rw [upd_same, e]
                    simp
              · rw [if_neg (fun z => hi (inner_in.mp z))]
                refine ⟨by show 2 ≤ sizeLine; decide, fun t nt => ?_⟩
                exact bad p (by unfold beh; rw [if_neg h1, if_neg n47, if_neg n34, if_neg (fun z => hi z.2)]) _ t hl2 o2 nt
            · refine ⟨by show 2 ≤ sizeLine; decide, fun t nt => ?_⟩
              exact bad p (by unfold beh; rw [if_neg h1, if_neg n47, if_neg n34, if_neg (fun z => h5 (by rw [z.1] <;> rfl))]) _ t hl1 .refl nt
    · exact h.elim
end
end Rk

set_option Elab.async false
set_option linter.all false
set_option maxRecDepth 100000
set_option maxHeartbeats 4000000
set_option pp.maxSteps 100
namespace Rk
open PySem PySem.Spec PyProof.Rows L2 CL Fm
/-- what a step at an operand tells: the word and the place, the stack and the names changed -/
def told2 (l rl : Addr) (bs : List Br) (ns : List Str) (H : Hp) (Q : VK) : Fm.Ms ⊕ Nat → Prop
  | .inl m => ∀ t H', MB l rl H H' → H' l = some (.lst (brV m.bs)) → H' rl = some (.lst (m.ns.map V.str)) → H' t = some (.tup [.str (wS m.w), .int (m.i : Nat)]) → Q (.ref t) H'
  | .inr e => ∀ t H', MB l rl H H' → H' l = some (.lst (brV bs)) → H' rl = some (.lst (ns.map V.str)) → H' t = some (.tup [.str "wrong", .int (e : Nat)]) → Q (.ref t) H'
def spOpe : Sp := fun vs H Q _ => match vs with
  | [.str s, .int i, .ref l, .ref rl] => ∃ (p c : Nat) (bs : List Br) (ns : List Str), i = p ∧ cp s p = some c ∧ (isD c = true ∨ isL c = true) ∧ s.length ≤ 100 ∧ l ≠ rl ∧ H l = some (.lst (brV bs)) ∧ bs.length < 1000 ∧
      H rl = some (.lst (ns.map V.str)) ∧ ns.length < 1000 ∧ told2 l rl bs ns H Q (opd s p c bs ns)
  | _ => False
abbrev sOpe : Stmt := topS 26
abbrev nOpe : List Str := ["_law_text", "_law_at", "_law_brackets", "_law_reads", "_law_figures", "_law_letters", "_law_end", "_law_word"]
abbrev pOpe : List Str := ["_law_text", "_law_at", "_law_brackets", "_law_reads"]
theorem scOpe : FnScope nOpe pOpe (defScope sOpe) := ⟨rfl, rfl, rfl, by decide +kernel, rfl, by decide +kernel, by decide +kernel⟩
section
variable {P : Program} {w : World} {K : PySem.W.Frag} {mg : Str → Option Value} {base : Heap}
theorem ok_ope (B : BlW mg) (R : ∀ base, DefOk P w K mg base CX0 1 "_law_run_of" pRun spRun) (F : FunAt K mg "_law_operand" sOpe pOpe) : DefOk P w K mg base CX0 2 "_law_operand" pOpe spOpe := by
  refine F.ok scOpe (fun vs H Q E h => ?_) (fun f cdv A outer s H vs Q E hr h => ?_)
  · unfold spOpe at h
    split at h
    · rfl
    · exact h.elim
  · have R := R base
    refine ⟨_, (pss_cons (ps_asg (pe_tup (pa_cons pe_str (pa_cons pe_str pa_nil))) (pg_tup (by rfl) (pgs_cons (pg_name (i := 4) scOpe.nd rfl (.inl rfl)) (pgs_cons (pg_name (i := 5) scOpe.nd rfl (.inl rfl)) pgs_nil))))
  (pss_cons (ps_if (ct_cmp op_inS (pe_ix ix_str (cv 0) (cv 1) (fun _ _ => rfl)) (cv 4) (by rfl))
  (pss_cons (ps_set (i := 6) scOpe.nd rfl (.inl rfl) (pe_ifExp (ct_cmp op_eq (pe_ix ix_str (cv 0) (cv 1) (fun _ _ => rfl)) pe_str (nomark _)) (pe_op c_addI (cv 1) pe_int) (pe_def R hr (by decide) (pa_cons (cv 0) (pa_cons (cv 1) (pa_cons (cv 4) (pa_cons pe_int pa_nil)))))))
  (pss_one (ps_ret (pe_tup (pa_cons (pe_ifExp (PW.pt (pw_and (ct_cmp c_lt (cv 6) (pe_callB call_len_str (by rfl) B.len (by decide +kernel) (pa_cons (cv 0) pa_nil)) (nomark _)) (pw_and1 (ct_cmp op_inS (pe_ix ix_str (cv 0) (cv 6) (fun _ _ => rfl)) (cv 4) (by rfl))))) pe_str pe_str) (pa_cons (cv 6) pa_nil))))))
  pss_nil)
  (pss_cons (ps_set (i := 6) scOpe.nd rfl (.inl rfl) (pe_def R hr (by decide) (pa_cons (cv 0) (pa_cons (cv 1) (pa_cons (cv 5) (pa_cons pe_int pa_nil))))))
  (pss_cons (ps_set (i := 7) scOpe.nd rfl (.inl rfl) (pe_slice sl_str (cv 0) (po_some (cv 1)) (po_some (cv 6))))
  (pss_cons (ps_if (PW.pt (pw_or (PW.pt (pw_and (ct_cmp c_lt (cv 6) (pe_callB call_len_str (by rfl) B.len (by decide +kernel) (pa_cons (cv 0) pa_nil)) (nomark _)) (pw_and1 (ct_cmp op_inS (pe_ix ix_str (cv 0) (cv 6) (fun _ _ => rfl)) (cv 5) (by rfl))))) (pw_or1 (ct_cmp op_eq (cv 7) pe_str (nomark _)))))
  (pss_one (ps_ret (pe_tup (pa_cons pe_str (pa_cons (cv 6) pa_nil)))))
  pss_nil)
  (pss_cons (ps_if (ct_cmp op_notIn_seq (cv 7) (pe_tup (pa_cons pe_str (pa_cons pe_str pa_nil))) (by rfl))
  (pss_cons (ps_expr (pe_bm PySem.F.plainAttrs_list PySem.F.slot_list_append PySem.F.type_list_append mt_append (cv 3) (pa_cons (cv 7) pa_nil)))
  (pss_one (ps_ret (pe_tup (pa_cons pe_str (pa_cons (cv 6) pa_nil))))))
  pss_nil)
  (pss_cons (ps_set (i := 6) scOpe.nd rfl (.inl rfl) (pe_def R hr (by decide) (pa_cons (cv 0) (pa_cons (cv 6) (pa_cons pe_str (pa_cons pe_int pa_nil))))))
  (pss_cons (ps_if (ct_cmp op_ne (pe_slice sl_str (cv 0) (po_some (cv 6)) (po_some (pe_op c_addI (cv 6) pe_int))) pe_str (nomark _))
  (pss_one (ps_ret (pe_tup (pa_cons pe_str (pa_cons (cv 6) pa_nil)))))
  pss_nil)
  (pss_cons (ps_expr (pe_bm PySem.F.plainAttrs_list PySem.F.slot_list_append PySem.F.type_list_append mt_append (cv 2) (pa_cons pe_str pa_nil)))
  (pss_one (ps_ret (pe_tup (pa_cons pe_str (pa_cons (pe_op c_addI (cv 6) pe_int) pa_nil)))))))))))))), ?_⟩
    unfold spOpe at h
    split at h
    · rename_i s i l rl
      obtain ⟨p, c, bs, ns, rfl, hc, hk, hz, hn, hl, hb, hrl, hm, q⟩ := h
      have sz : s.length ≤ sizeLine := Nat.le_trans hz (by decide)
      have atp : ∀ {j d : Nat}, cp s j = some d → atI s.cps.toList (j : Int) = some d := fun {j d} h => by
        have h1 := cp_lt h
        unfold atI ixN
        have hl : s.cps.toList.length = s.length := by simp; rfl
        rw [if_pos (by omega), if_pos (by omega), Option.bind_some, Int.toNat_natCast]
        unfold cp at h
        simpa using h
      refine ⟨by show 2 ≤ sizeLine; decide, fun a na => ⟨a, _, rfl, SqT.of upd_same, rfl, _, _, rfl, _, _, rfl, rfl, ?_⟩⟩
      have la : l ≠ a := ne_of_none hl na
      have ra : rl ≠ a := ne_of_none hrl na
      have hl1 : upd H a (.tup [.str "0123456789", .str "abcdefghijklmnopqrstuvwxyz"]) l = some (.lst (brV bs)) := by rw [upd_ne la]; exact hl
      have hr1 : upd H a (.tup [.str "0123456789", .str "abcdefghijklmnopqrstuvwxyz"]) rl = some (.lst (ns.map V.str)) := by rw [upd_ne ra]; exact hrl
      have sm : MB l rl H (upd H a (.tup [.str "0123456789", .str "abcdefghijklmnopqrstuvwxyz"])) := .of (same_new na)
      generalize upd H a (.tup [.str "0123456789", .str "abcdefghijklmnopqrstuvwxyz"]) = H1 at hl1 hr1 sm
      refine ⟨s, _, c, rfl, rfl, sz, atp hc, c, _, rfl, rfl, ?_⟩
      rw [isD_mem]
      have fin : ∀ (m : Fm.Ms), opd s p c bs ns = .inl m → ∀ H2 t, H2 l = some (.lst (brV m.bs)) → H2 rl = some (.lst (m.ns.map V.str)) → MB l rl H1 H2 → H2 t = none → Q (.ref t) (upd H2 t (.tup [.str (wS m.w), .int (m.i : Nat)])) := fun m e H2 t h2 h3 o2 nt => by
        rw [e] at q
        exact q t _ ((sm.trans o2).trans (.of (same_new nt))) (by rw [upd_ne (ne_of_none h2 nt)]; exact h2) (by rw [upd_ne (ne_of_none h3 nt)]; exact h3) upd_same
      have bad : ∀ (e : Nat), opd s p c bs ns = .inr e → ∀ H2 t, H2 l = some (.lst (brV bs)) → H2 rl = some (.lst (ns.map V.str)) → MB l rl H1 H2 → H2 t = none → Q (.ref t) (upd H2 t (.tup [.str "wrong", .int (e : Nat)])) := fun e he H2 t h2 h3 o2 nt => by
        rw [he] at q
        exact q t _ ((sm.trans o2).trans (.of (same_new nt))) (by rw [upd_ne (ne_of_none h2 nt)]; exact h2) (by rw [upd_ne (ne_of_none h3 nt)]; exact h3) upd_same
      cases hd : isD c with
      | true =>
        show if true = true then _ else _
        rw [if_pos rfl]
        have n45 : ¬ c = 45 := fun z => by rw [z] at hd; exact absurd hd (by decide)
        have n40 : ¬ c = 40 := fun z => by rw [z] at hd; exact absurd hd (by decide)
        have eo : opd s p c bs ns = (match intEnd s p p with | .error e => .inr e | .ok e => .inl ⟨e, true, bs, ns⟩) := by
          unfold opd
          rw [if_neg n45, if_neg n40, if_pos hd] <;> (cases intEnd s p p <;> rfl)
        rw [int_law hc hd] at eo
        have i48 : (V.str ⟨#[c]⟩ = V.str "0") ↔ cp s p = some 48 := by
          rw [hc]
          constructor
          · intro h3
            injection h3 with h3
            have : (#[c] : Array Nat) = #[48] := congrArg Str.cps h3
            have : c = 48 := by simpa using this
            rw [this]
          · intro z
            cases z
            rfl
        have zD : inZ "0123456789" = isD := funext fun c => isD_mem
        have fe : figE s p ≤ s.length := by
          have := cp_lt hc
          unfold figE
          split
          · omega
          · exact (run_le 31 p).2.2 (by omega)
        refine ⟨s, _, c, rfl, rfl, sz, atp hc, rfl, iteD (fun h0 => ?_) (fun h0 => ?_)⟩
        · have e : figE s p = p + 1 := by unfold figE; rw [if_pos (i48.mp h0)]
          rw [e] at eo
          refine ⟨s, rfl, sz, ?_⟩
          show if decide (((p + 1 : Nat) : Int) < (s.length : Int)) = true then _ else _
          by_cases hlt : p + 1 < s.length
          · rw [if_pos (decide_eq_true (by omega))]
            obtain ⟨d, hd2⟩ : ∃ d, cp s (p + 1) = some d := by
              unfold cp
              exact ⟨s.cps[p + 1], Array.getElem?_eq_getElem hlt⟩
            refine ⟨s, _, d, rfl, rfl, sz, atp hd2, d, _, rfl, rfl, ?_⟩
            rw [isD_mem]
            have ei : isAt s isD (p + 1) = isD d := by unfold isAt; rw [hd2]
            rw [ei] at eo
            cases hdd : isD d with
            | true =>
              rw [hdd, if_pos rfl] at eo
              show if true = true then _ else _
              rw [if_pos rfl]
              refine ⟨by show 2 ≤ sizeLine; decide, fun t nt => ?_⟩
              exact bad (p + 1) eo H1 t hl1 hr1 .refl nt
            | false =>
              rw [hdd, if_neg Bool.false_ne_true] at eo
              show if false = true then _ else _
              rw [if_neg Bool.false_ne_true]
              refine ⟨by show 2 ≤ sizeLine; decide, fun t nt => ?_⟩
              exact fin ⟨p + 1, true, bs, ns⟩ eo H1 t hl1 hr1 .refl nt
          · rw [if_neg (fun z => hlt (by have := of_decide_eq_true z; omega))]
            have ei : isAt s isD (p + 1) = false := by unfold isAt; rw [cp_none (by omega)]
            rw [ei, if_neg Bool.false_ne_true] at eo
            refine ⟨by show 2 ≤ sizeLine; decide, fun t nt => ?_⟩
            exact fin ⟨p + 1, true, bs, ns⟩ eo H1 t hl1 hr1 .refl nt
        · have e : figE s p = runE s isD 31 p := by unfold figE; rw [if_neg (fun z => h0 (i48.mpr z))]
          refine ⟨p, 31, rfl, rfl, sz, ?_⟩
          rw [zD, ← e]
          refine ⟨s, rfl, sz, ?_⟩
          show if decide (((figE s p : Nat) : Int) < (s.length : Int)) = true then _ else _
          by_cases hlt : figE s p < s.length
          · rw [if_pos (decide_eq_true (by omega))]
            obtain ⟨d, hd2⟩ : ∃ d, cp s (figE s p) = some d := by
              unfold cp
              exact ⟨s.cps[figE s p], Array.getElem?_eq_getElem hlt⟩
            refine ⟨s, _, d, rfl, rfl, sz, atp hd2, d, _, rfl, rfl, ?_⟩
            rw [isD_mem]
            have ei : isAt s isD (figE s p) = isD d := by unfold isAt; rw [hd2]
            rw [ei] at eo
            cases hdd : isD d with
            | true =>
              rw [hdd, if_pos rfl] at eo
              show if true = true then _ else _
              rw [if_pos rfl]
              refine ⟨by show 2 ≤ sizeLine; decide, fun t nt => ?_⟩
              exact bad (figE s p) eo H1 t hl1 hr1 .refl nt
            | false =>
              rw [hdd, if_neg Bool.false_ne_true] at eo
              show if false = true then _ else _
              rw [if_neg Bool.false_ne_true]
              refine ⟨by show 2 ≤ sizeLine; decide, fun t nt => ?_⟩
              exact fin ⟨figE s p, true, bs, ns⟩ eo H1 t hl1 hr1 .refl nt
          · rw [if_neg (fun z => hlt (by have := of_decide_eq_true z; omega))]
            have ei : isAt s isD (figE s p) = false := by unfold isAt; rw [cp_none (by omega)]
            rw [ei, if_neg Bool.false_ne_true] at eo
            refine ⟨by show 2 ≤ sizeLine; decide, fun t nt => ?_⟩
            exact fin ⟨figE s p, true, bs, ns⟩ eo H1 t hl1 hr1 .refl nt
      | false =>
        show if false = true then _ else _
        rw [if_neg Bool.false_ne_true]
        have hl8 : isL c = true := hk.resolve_left (by rw [hd]; exact Bool.false_ne_true)
        obtain ⟨n45, n40, _, _⟩ := isL_no hl8
        have eo : opd s p c bs ns = wrd s p bs ns := by
          unfold opd
          rw [if_neg n45, if_neg n40, hd, if_neg Bool.false_ne_true, if_pos hl8]
        unfold wrd at eo
        rw [word_law] at eo
        have zS : inZ " " = fun c => decide (c = 32) := funext fun c => by
          unfold inZ
          have : (" " : Str).cps.toList = [32] := by decide +kernel
          rw [this]
          simp
        have zL : inZ "abcdefghijklmnopqrstuvwxyz" = isL := funext fun c => isL_mem
        refine ⟨p, 8, rfl, rfl, sz, ?_⟩
        rw [zL]
        have lt := cp_lt hc
        have ee : runE s isL 8 p ≤ s.length ∧ p < runE s isL 8 p := by
          refine ⟨(run_le 8 p).2.2 (by omega), ?_⟩
          rw [runE, hc]
          dsimp only
          rw [if_pos hl8]
          exact (run_le 7 (p + 1)).1
        generalize runE s isL 8 p = e at eo ee
        refine ⟨_, rfl, _, rfl, s, rfl, sz, ?_⟩
        rw [cut_cut ee.1 (Nat.le_of_lt ee.2)]
        refine ⟨s, rfl, sz, ?_⟩
        show if decide ((e : Int) < (s.length : Int)) = true then _ else _
        by_cases hx : isAt s isL e = true
        · rw [if_pos hx] at eo
          obtain ⟨d, hd2, hld⟩ := isAt_iff.mp hx
          have := cp_lt hd2
          rw [if_pos (decide_eq_true (by omega))]
          refine ⟨s, _, d, rfl, rfl, sz, atp hd2, d, _, rfl, rfl, ?_⟩
          rw [isL_mem, hld]
          refine ⟨by show 2 ≤ sizeLine; decide, fun t nt => ?_⟩
          exact bad e eo H1 t hl1 hr1 .refl nt
        · rw [if_neg hx] at eo
          dsimp only at eo
          by_cases hlt : e < s.length
          case' pos =>
            obtain ⟨d, hd2⟩ : ∃ d, cp s e = some d := by
              unfold cp
              exact ⟨s.cps[e], Array.getElem?_eq_getElem hlt⟩
            have hld : isL d = false := by
              cases hq : isL d with
              | false => rfl
              | true => exact absurd (isAt_iff.mpr ⟨d, hd2, hq⟩) hx
            rw [if_pos (decide_eq_true (by omega))]
            refine ⟨s, _, d, rfl, rfl, sz, atp hd2, d, _, rfl, rfl, ?_⟩
            rw [isL_mem, hld]
          case' neg => rw [if_neg (fun z => hlt (by have := of_decide_eq_true z; omega))]
          all_goals
            refine ⟨rfl, iteD (fun h7 => ?_) (fun h7 => ?_)⟩
            · have h7 : cut s p e = "self" := by injection h7
              have n1 : ¬ (cut s p e = "min" ∨ cut s p e = "max") := fun z => by
                rw [h7] at z
                exact absurd z (by decide +kernel)
              rw [if_neg n1, if_pos h7] at eo
              refine ⟨by show 2 ≤ sizeLine; decide, fun t nt => ?_⟩
              exact bad e eo H1 t hl1 hr1 .refl nt
            · have h7 : ¬ cut s p e = "self" := fun z => h7 (congrArg V.str z)
              rw [if_neg h7] at eo
              refine ⟨by show 2 ≤ sizeLine; decide, fun b nb => ⟨b, _, rfl, .inr (.inl (.inl upd_same)), rfl, rfl, ?_⟩⟩
              have lb : l ≠ b := ne_of_none hl1 nb
              have rb : rl ≠ b := ne_of_none hr1 nb
              have hl2 : upd H1 b (.tup [.str "min", .str "max"]) l = some (.lst (brV bs)) := by rw [upd_ne lb]; exact hl1
              have hr2 : upd H1 b (.tup [.str "min", .str "max"]) rl = some (.lst (ns.map V.str)) := by rw [upd_ne rb]; exact hr1
              have o2 : MB l rl H1 (upd H1 b (.tup [.str "min", .str "max"])) := .of (same_new nb)
              show if (!inV (.str (cut s p e)) [.str "min", .str "max"]) = true then _ else _
              rw [inV_pairs]
              by_cases hp : cut s p e = "min" ∨ cut s p e = "max"
              · rw [if_pos hp] at eo
                rw [decide_eq_true hp]
                show if false = true then _ else _
                rw [if_neg Bool.false_ne_true]
                refine ⟨e, 100, rfl, rfl, sz, ?_⟩
                rw [zS, run_skip 100 e (by omega)]
                have se := skip_end (s := s) e ee.1
                generalize skip s e = k at eo se
                refine ⟨_, rfl, _, rfl, s, rfl, sz, ?_⟩
                rw [cut_one]
                refine ⟨rfl, ?_⟩
                show if (!decide (V.str (one s k) = V.str "(")) = true then _ else _
                have i40 : (V.str (one s k) = V.str "(") ↔ cp s k = some 40 := one_eq
                by_cases h40 : cp s k = some 40
                · rw [decide_eq_true (i40.mpr h40)]
                  rw [if_pos h40] at eo
                  show if false = true then _ else _
                  rw [if_neg Bool.false_ne_true]
                  refine ⟨.inl ⟨rfl, _, SqL.of hl2⟩, l, _, _, rfl, rfl, hl2, ?_, ?_⟩
                  · have : (brV bs).length = bs.length := by unfold brV; simp
                    rw [this]
                    exact Nat.lt_of_lt_of_le hb (by decide)
                  · refine ⟨by show 2 ≤ sizeLine; decide, fun t nt => ?_⟩
                    refine fin _ eo _ t ?_ ?_ (o2.trans fun b o n _ h => by rw [upd_ne n]; exact h) nt
                    · rw [upd_same]
                      unfold brV
                      simp [brS]
                    · rw [upd_ne hn.symm]; exact hr2
                · rw [decide_eq_false (fun z => h40 (i40.mp z))]
                  rw [if_neg h40] at eo
                  show if true = true then _ else _
                  rw [if_pos rfl]
                  refine ⟨by show 2 ≤ sizeLine; decide, fun t nt => ?_⟩
                  exact bad k eo _ t hl2 hr2 o2 nt
              · rw [if_neg hp] at eo
                rw [decide_eq_false hp]
                show if true = true then _ else _
                rw [if_pos rfl]
                refine ⟨.inl ⟨rfl, _, SqL.of hr2⟩, rl, _, _, rfl, rfl, hr2, ?_, ?_⟩
                · rw [List.length_map]
                  exact Nat.lt_of_lt_of_le hm (by decide)
                · refine ⟨by show 2 ≤ sizeLine; decide, fun t nt => ?_⟩
                  refine fin _ eo _ t ?_ ?_ (o2.trans fun b o _ n h => by rw [upd_ne n]; exact h) nt
                  · rw [upd_ne hn]; exact hl2
                  · rw [upd_same, List.map_append] <;> rfl
    · exact h.elim
end
end Rk

set_option Elab.async false
set_option linter.all false
set_option maxRecDepth 100000
set_option maxHeartbeats 4000000
set_option pp.maxSteps 100
namespace Rk
open PySem PySem.Spec PyProof.Rows L2 CL Fm
theorem Onl.via {a l : Addr} {H H1 H2 : Hp} (x : Onl a H H1) (y : ∀ b o, b ≠ a → b ≠ l → H1 b = some o → H2 b = some o) (n : H l = none) : Onl a H H2 := fun b o hb h => y b o hb (ne_of_none h n) (x b o hb h)
/-- the place as a value -/
def oV : Option Nat → V
  | none => .non
  | some p => .int (p : Nat)
def spWr : Sp := fun vs H Q _ => match vs with
  | [.str s, .ref rl] => s.length ≤ 100 ∧ H rl = some (.lst []) ∧ ∃ o ls, Ev s ⟨0, false, [], []⟩ o ls ∧ ∀ H', Onl rl H H' → H' rl = some (.lst (ls.map V.str)) → Q (oV o) H'
  | _ => False
/-- one step -/
def stp (s : Str) (m : Fm.Ms) (c : Nat) : Fm.Ms ⊕ Nat := if m.w = true then beh s (skip s m.i) c m.bs m.ns else opd s (skip s m.i) c m.bs m.ns
theorem ev_go {s : Str} {m m' : Fm.Ms} {c : Nat} {o : Option Nat} {ls : List Str} (h : Ev s m o ls) (hc : cp s (skip s m.i) = some c) (e : stp s m c = .inl m') : Ev s m' o ls := by
  unfold stp at e
  cases h with
  | stop h2 => rw [hc] at h2; cases h2
  | bad h2 e2 =>
    rw [hc] at h2
    cases h2
    rw [e] at e2
    cases e2
  | go h2 e2 k =>
    rw [hc] at h2
    cases h2
    rw [e] at e2
    cases e2
    exact k
theorem ev_bad {s : Str} {m : Fm.Ms} {c p : Nat} {o : Option Nat} {ls : List Str} (h : Ev s m o ls) (hc : cp s (skip s m.i) = some c) (e : stp s m c = .inr p) : o = some p ∧ ls = m.ns := ev_one h (.bad hc e)
theorem beh_ns {s : Str} {p c : Nat} {bs : List Br} {ns : List Str} : beh s p c bs ns = (match beh s p c bs [] with
    | .inl m => .inl ⟨m.i, m.w, m.bs, ns⟩
    | .inr e => .inr e) := by
  unfold beh
  by_cases h1 : c = 43 ∨ c = 45 ∨ c = 42
  · simp only [if_pos h1]
  · by_cases h2 : c = 47
    · by_cases h3 : cp s (p + 1) = some 47
      · simp only [if_neg h1, if_pos h2, if_pos h3]
      · simp only [if_neg h1, if_pos h2, if_neg h3]
    · by_cases h3 : c = 44 ∧ bs.head? = some .pair
      · simp only [if_neg h1, if_neg h2, if_pos h3]
      · by_cases h4 : c = 41 ∧ (bs.head? = some .one ∨ bs.head? = some .last)
        · simp only [if_neg h1, if_neg h2, if_neg h3, if_pos h4]
        · simp only [if_neg h1, if_neg h2, if_neg h3, if_neg h4]
theorem beh_len {s : Str} {p c : Nat} {bs : List Br} {ns : List Str} {m : Fm.Ms} (e : beh s p c bs ns = .inl m) : m.bs.length ≤ bs.length + 1 := by
  unfold beh at e
  split at e
  · cases e; dsimp only; omega
  · split at e
    · split at e
      · cases e; dsimp only; omega
      · cases e
    · split at e
      · cases e; dsimp only; rw [List.length_cons, List.length_tail]; omega
      · split at e
        · cases e; dsimp only; rw [List.length_tail]; omega
        · cases e
theorem opd_len {s : Str} {p c : Nat} {bs : List Br} {ns : List Str} {m : Fm.Ms} (e : opd s p c bs ns = .inl m) : m.bs.length ≤ bs.length + 1 := by
  unfold opd at e
  split at e
  · cases e; dsimp only; omega
  · split at e
    · cases e; dsimp only; rw [List.length_cons]; omega
    · split at e
      · split at e
        · cases e
        · cases e; dsimp only; omega
      · split at e
        · unfold wrd at e
          split at e
          · cases e
          · split at e
            · split at e
              · cases e; dsimp only; rw [List.length_cons]; omega
              · cases e
            · split at e
              · cases e
              · cases e; dsimp only; omega
        · cases e
theorem stp_len {s : Str} {m m' : Fm.Ms} {c : Nat} (e : stp s m c = .inl m') : m'.bs.length ≤ m.bs.length + 1 := by
  unfold stp at e
  split at e
  · exact beh_len e
  · exact opd_len e
theorem mem_ob {c : Nat} : decide (c ∈ ("(-" : Str).cps.toList) = decide (c = 40 ∨ c = 45) := by
  rw [show ("(-" : Str).cps.toList = [40, 45] by decide +kernel]
  rw [Bool.eq_iff_iff]
  simp only [List.mem_cons, List.not_mem_nil, or_false, decide_eq_true_eq]
theorem mem_fl {c : Nat} : decide (c ∈ ("0123456789abcdefghijklmnopqrstuvwxyz" : Str).cps.toList) = (isD c || isL c) := by
  rw [show ("0123456789abcdefghijklmnopqrstuvwxyz" : Str).cps.toList = ("0123456789" : Str).cps.toList ++ ("abcdefghijklmnopqrstuvwxyz" : Str).cps.toList by decide +kernel, ← isD_mem, ← isL_mem, Bool.eq_iff_iff, Bool.or_eq_true]
  simp only [List.mem_append, decide_eq_true_eq]
theorem wS_sign {w : Bool} : V.str (wS w) = V.str "sign" ↔ w = true := by cases w <;> decide +kernel
theorem wS_wrong {w : Bool} : ¬ V.str (wS w) = V.str "wrong" := by cases w <;> decide +kernel
theorem brD_nil {bs : List Br} : PyData.eqv (.list (brD bs.reverse)) (.list []) = decide (bs = []) := by
  cases bs with
  | nil => rfl
  | cons b r =>
    have : brD (b :: r).reverse ≠ [] := by simp [brD]
    cases hq : brD (b :: r).reverse with
    | nil => exact absurd hq this
    | cons x y => rfl
def WrI (s : Str) (rl l : Addr) (H : Hp) (o : Option Nat) (ls : List Str) : Nat → L2.St → Hp → Prop := fun d σ Hx => ∃ (m : Fm.Ms) (e5 : Option V), d = s.length + 1 - m.i ∧ m.i ≤ s.length ∧ m.fine ∧ m.bs.length ≤ m.i ∧ Ev s m o ls ∧ Onl rl H Hx ∧
  Hx l = some (.lst (brV m.bs)) ∧ Hx rl = some (.lst (m.ns.map V.str)) ∧ σ = [some (.str s), some (.ref rl), some (.int (m.i : Nat)), some (.str (wS m.w)), some (.ref l), e5]
abbrev sWr : Stmt := topS 28
abbrev nWr : List Str := ["_law_text", "_law_reads", "_law_at", "_law_wanted", "_law_brackets", "_law_sign"]
abbrev pWr : List Str := ["_law_text", "_law_reads"]
theorem scWr : FnScope nWr pWr (defScope sWr) := ⟨rfl, rfl, rfl, by decide +kernel, rfl, by decide +kernel, by decide +kernel⟩
section
variable {P : Program} {w : World} {K : PySem.W.Frag} {mg : Str → Option Value} {base : Heap}
theorem ok_wr (B : BlW mg) (R : DefOk P w K mg base CX0 1 "_law_run_of" pRun spRun) (DB : DefOk P w K mg base CX0 1 "_law_behind" pBeh spBeh) (DO : DefOk P w K mg base CX0 2 "_law_operand" pOpe spOpe) (F : FunAt K mg "_law_wrong_at" sWr pWr) : DefOk P w K mg base CX0 3 "_law_wrong_at" pWr spWr := by
  refine F.ok scWr (fun vs H Q E h => ?_) (fun f cdv A outer s H vs Q E hr h => ?_)
  · unfold spWr at h
    split at h
    · rfl
    · exact h.elim
  · refine ⟨_, (pss_cons (ps_par3 (i := 2) (j := 3) (l := 4) rfl scWr.nd rfl rfl rfl (by decide) (by decide) (by decide) rfl rfl rfl (pa_cons pe_int (pa_cons pe_str (pa_cons (pe_lst pa_nil) pa_nil))) (by rfl))
  (pss_cons (ps_while PassesOwn.never (ct_cmp c_le (cv 2) (pe_callB call_len_str (by rfl) B.len (by decide +kernel) (pa_cons (cv 0) pa_nil)) (nomark _))
  (pss_cons (ps_set (i := 2) scWr.nd rfl (.inl rfl) (pe_def R hr (by decide) (pa_cons (cv 0) (pa_cons (cv 2) (pa_cons pe_str (pa_cons pe_int pa_nil))))))
  (pss_cons (ps_set (i := 5) scWr.nd rfl (.inl rfl) (pe_slice sl_str (cv 0) (po_some (cv 2)) (po_some (pe_op c_addI (cv 2) pe_int))))
  (pss_cons (ps_if (ct_cmp op_eq (cv 5) pe_str (nomark _))
  (pss_one (ps_ret (pe_ifExp (PW.pt (pw_and (ct_cmp op_eq (cv 3) pe_str (nomark _)) (pw_and1 (ct_cmp (op_eqD hr.units) (cv 4) (pe_lst pa_nil) (nomark _))))) pe_non (cv 2))))
  pss_nil)
  (pss_cut (ps_if (ct_cmp op_eq (cv 3) pe_str (nomark _))
  (pss_one (ps_asg (pe_def DB hr (by decide) (pa_cons (cv 0) (pa_cons (cv 2) (pa_cons (cv 4) pa_nil)))) (pg_tup (by rfl) (pgs_cons (pg_name (i := 3) scWr.nd rfl (.inl rfl)) (pgs_cons (pg_name (i := 2) scWr.nd rfl (.inl rfl)) pgs_nil)))))
  (pss_one (ps_if (ct_cmp op_inS (cv 5) pe_str (by rfl))
  (pss_cut (ps_if (ct_cmp op_eq (cv 5) pe_str (nomark _))
  (pss_one (ps_expr (pe_bm PySem.F.plainAttrs_list PySem.F.slot_list_append PySem.F.type_list_append mt_append (cv 4) (pa_cons pe_str pa_nil))))
  pss_nil)
  (pss_one (ps_set (i := 2) scWr.nd rfl (.inl rfl) (pe_op c_addI (cv 2) pe_int))))
  (pss_one (ps_if (ct_cmp op_inS (cv 5) pe_str (by rfl))
  (pss_one (ps_asg (pe_def DO hr (by decide) (pa_cons (cv 0) (pa_cons (cv 2) (pa_cons (cv 4) (pa_cons (cv 1) pa_nil))))) (pg_tup (by rfl) (pgs_cons (pg_name (i := 3) scWr.nd rfl (.inl rfl)) (pgs_cons (pg_name (i := 2) scWr.nd rfl (.inl rfl)) pgs_nil)))))
  (pss_one (ps_ret (cv 2))))))))
  (pss_one (ps_if (ct_cmp op_eq (cv 3) pe_str (nomark _))
  (pss_one (ps_ret (cv 2)))
  pss_nil)))))))
  (pss_one (ps_ret (cv 2))))), ?_⟩
    unfold spWr at h
    split at h
    · rename_i s rl
      obtain ⟨hz, hr0, o, ls, ev, q⟩ := h
      have sz : s.length ≤ sizeLine := Nat.le_trans hz (by decide)
      refine ⟨by show 0 ≤ sizeLine; decide, fun l nl => ⟨_, _, _, rfl, ?_⟩⟩
      have rl_ne : rl ≠ l := ne_of_none hr0 nl
      refine ⟨WrI s rl l H o ls, ⟨_, ⟨0, false, [], []⟩, _, rfl, Nat.zero_le _, Nat.zero_le _, Nat.zero_le _, ev, .new nl, upd_same, by rw [upd_ne rl_ne]; exact hr0, rfl⟩, ?_⟩
      rintro d σ Hx ⟨m, e5, rfl, hi, hf, hb, ev, onl, hl, hrl, rfl⟩
      refine ⟨s, rfl, sz, ?_⟩
      show if decide (((m.i : Nat) : Int) ≤ (s.length : Int)) = true then _ else _
      rw [if_pos (decide_eq_true (by omega))]
      refine ⟨fun σ' H' => ∃ d', d' < s.length + 1 - m.i ∧ WrI s rl l H o ls d' σ' H', fun σ' H' h => h, ?_⟩
      have zS : inZ " " = fun c => decide (c = 32) := funext fun c => by
        unfold inZ
        have : (" " : Str).cps.toList = [32] := by decide +kernel
        rw [this]
        simp
      refine ⟨m.i, 100, rfl, rfl, sz, ?_⟩
      rw [zS, run_skip 100 m.i (by omega)]
      have kle := skip_end (s := s) m.i hi
      refine ⟨_, rfl, _, rfl, s, rfl, sz, ?_⟩
      rw [cut_one]
      cases hc : cp s (skip s m.i) with
      | none =>
        have e1 : one s (skip s m.i) = "" := by
          unfold one
          rw [hc]
          rfl
        obtain ⟨ho, hls⟩ := ev_one ev (.stop hc)
        subst ho
        subst hls
        refine ⟨rfl, ?_⟩
        show if decide (V.str (one s (skip s m.i)) = V.str "") = true then _ else _
        rw [e1, if_pos (decide_eq_true rfl)]
        refine ⟨rfl, iteD (fun hw => ?_) (fun hw => ?_)⟩
        · have hw := wS_sign.mp hw
          refine ⟨by show 0 ≤ sizeLine; decide, fun a na => ⟨.list (brD m.bs.reverse), .list [], .lst (SqL.of (by rw [upd_ne (ne_of_none hl na)]; exact hl)) (br_dp _), .lst (SqL.of upd_same) .nil, br_sh _, by rfl, ?_⟩⟩
          have on2 : Onl rl H (upd Hx a (.lst [])) := onl.trans (.new na)
          have hrl2 : upd Hx a (.lst []) rl = some (.lst (m.ns.map V.str)) := by rw [upd_ne (ne_of_none hrl na)]; exact hrl
          rw [brD_nil]
          have z := q _ on2 hrl2
          by_cases hbs : m.bs = []
          · rw [if_pos ⟨hw, hbs⟩] at z
            rw [decide_eq_true hbs]
            exact z
          · rw [if_neg (fun z => hbs z.2)] at z
            rw [decide_eq_false hbs]
            exact z
        · have hw : ¬ m.w = true := fun z => hw (wS_sign.mpr z)
          have z := q _ onl hrl
          rw [if_neg (fun z => hw z.1)] at z
          exact z
      | some c =>
        have e1 : one s (skip s m.i) = ⟨#[c]⟩ := by
          unfold one
          rw [hc]
        rw [e1]
        refine ⟨rfl, iteD (fun h => ?_) (fun _ => ?_)⟩
        · injection h with h
          have h2 : (#[c] : Array Nat) = ("" : Str).cps := congrArg Str.cps h
          have h3 := congrArg Array.size h2
          rw [show ("" : Str).cps.size = 0 by decide +kernel] at h3
          exact absurd (show 1 = 0 from h3) (by decide)
        · -- what the step tells
          refine ⟨fun σ' H' => (∃ m', stp s m c = .inl m' ∧ Onl rl H H' ∧ H' l = some (.lst (brV m'.bs)) ∧ H' rl = some (.lst (m'.ns.map V.str)) ∧ σ' = [some (.str s), some (.ref rl), some (.int (m'.i : Nat)), some (.str (wS m'.w)), some (.ref l), some (.str ⟨#[c]⟩)]) ∨
            (∃ p : Nat, stp s m c = .inr p ∧ Onl rl H H' ∧ H' rl = some (.lst (m.ns.map V.str)) ∧ σ' = [some (.str s), some (.ref rl), some (.int (p : Nat)), some (.str "wrong"), some (.ref l), some (.str ⟨#[c]⟩)]), ?_, ?_⟩
          · refine ⟨rfl, iteD (fun hw => ?_) (fun hw => ?_)⟩
            · have hw := wS_sign.mp hw
              have es : stp s m c = beh s (skip s m.i) c m.bs m.ns := by unfold stp; rw [if_pos hw]
              refine ⟨skip s m.i, c, m.bs, rfl, hc, sz, hl, by omega, ?_⟩
              rw [beh_ns] at es
              cases hbh : beh s (skip s m.i) c m.bs [] with
              | inl m' =>
                rw [hbh] at es
                intro t H' on h1 h2
                refine ⟨t, _, rfl, SqT.of h2, rfl, _, _, rfl, _, _, rfl, rfl, ?_⟩
                exact .inl ⟨_, es, onl.via (fun b x _ n h => on b x n h) nl, h1, on _ _ rl_ne hrl, rfl⟩
              | inr p =>
                rw [hbh] at es
                intro t H' on h1 h2
                refine ⟨t, _, rfl, SqT.of h2, rfl, _, _, rfl, _, _, rfl, rfl, ?_⟩
                exact .inr ⟨_, es, onl.via (fun b x _ n h => on b x n h) nl, on _ _ rl_ne hrl, rfl⟩
            · have hw : ¬ m.w = true := fun z => hw (wS_sign.mpr z)
              have es : stp s m c = opd s (skip s m.i) c m.bs m.ns := by unfold stp; rw [if_neg hw]
              refine ⟨c, _, rfl, rfl, ?_⟩
              rw [mem_ob]
              have hwf : m.w = false := Bool.eq_false_iff.mpr hw
              by_cases h1 : c = 40 ∨ c = 45
              · rw [decide_eq_true h1]
                show if true = true then _ else _
                rw [if_pos rfl]
                have n40 : c ≠ 40 → c = 45 := fun n => h1.resolve_left n
                refine ⟨fun σ' H' => Onl rl H H' ∧ H' rl = some (.lst (m.ns.map V.str)) ∧ H' l = some (.lst (brV (if c = 40 then .one :: m.bs else m.bs))) ∧ σ' = [some (.str s), some (.ref rl), some (.int (skip s m.i : Nat)), some (.str (wS m.w)), some (.ref l), some (.str ⟨#[c]⟩)], ?_, ?_⟩
                · have i40 : (V.str ⟨#[c]⟩ = V.str "(") ↔ c = 40 := by
                    constructor
                    · intro h3
                      injection h3 with h3
                      have : (#[c] : Array Nat) = #[40] := congrArg Str.cps h3
                      simpa using this
                    · intro z
                      rw [z] <;> rfl
                  refine ⟨rfl, iteD (fun h => ?_) (fun h => ?_)⟩
                  · refine ⟨.inl ⟨rfl, _, SqL.of hl⟩, l, _, _, rfl, rfl, hl, ?_, ?_⟩
                    · have : (brV m.bs).length = m.bs.length := by unfold brV; simp
                      rw [this]
                      exact Nat.lt_of_le_of_lt (show m.bs.length ≤ 100 by omega) (by decide)
                    · refine ⟨onl.via (fun b x _ n h => by rw [upd_ne n]; exact h) nl, by rw [upd_ne rl_ne]; exact hrl, ?_, rfl⟩
                      rw [upd_same, if_pos (i40.mp h)]
                      unfold brV
                      simp [brS]
                  · exact ⟨onl, hrl, by rw [if_neg (fun z => h (i40.mpr z))]; exact hl, rfl⟩
                · rintro σ' H' ⟨on, g2, g1, rfl⟩
                  refine .inl ⟨⟨skip s m.i + 1, false, if c = 40 then .one :: m.bs else m.bs, m.ns⟩, ?_, on, g1, g2, by rw [hwf] <;> rfl⟩
                  rw [es]
                  unfold opd
                  by_cases h45 : c = 45
                  · rw [if_pos h45, if_neg (by omega)]
                  · rw [if_neg h45, if_pos (show c = 40 by omega), if_pos (show c = 40 by omega)]
              · rw [decide_eq_false h1]
                show if false = true then _ else _
                rw [if_neg Bool.false_ne_true]
                refine ⟨c, _, rfl, rfl, ?_⟩
                rw [mem_fl]
                cases hk : (isD c || isL c) with
                | true =>
                  show if true = true then _ else _
                  rw [if_pos rfl]
                  have hk := Bool.or_eq_true_iff.mp hk
                  have hf' : 2 * m.ns.length ≤ m.i := by
                    unfold Fm.Ms.fine at hf
                    rw [if_neg hw] at hf
                    exact hf
                  refine ⟨skip s m.i, c, m.bs, m.ns, rfl, hc, hk, hz, rl_ne.symm, hl, by omega, hrl, by omega, ?_⟩
                  cases ho : opd s (skip s m.i) c m.bs m.ns with
                  | inl m' =>
                    rw [ho] at es
                    intro t H' mb g1 g2 g3
                    refine ⟨t, _, rfl, SqT.of g3, rfl, _, _, rfl, _, _, rfl, rfl, ?_⟩
                    exact .inl ⟨m', es, onl.via (fun b x n1 n2 h => mb b x n2 n1 h) nl, g1, g2, rfl⟩
                  | inr p =>
                    rw [ho] at es
                    intro t H' mb g1 g2 g3
                    refine ⟨t, _, rfl, SqT.of g3, rfl, _, _, rfl, _, _, rfl, rfl, ?_⟩
                    exact .inr ⟨p, es, onl.via (fun b x n1 n2 h => mb b x n2 n1 h) nl, g2, rfl⟩
                | false =>
                  show if false = true then _ else _
                  rw [if_neg Bool.false_ne_true]
                  have hk := Bool.or_eq_false_iff.mp hk
                  have e2 : stp s m c = .inr (skip s m.i) := by
                    rw [es]
                    unfold opd
                    rw [if_neg (fun z => h1 (.inr z)), if_neg (fun z => h1 (.inl z)), hk.1, hk.2, if_neg Bool.false_ne_true, if_neg Bool.false_ne_true]
                  obtain ⟨rfl, rfl⟩ := ev_bad ev hc e2
                  exact q _ onl hrl
          · rintro σ' H' (⟨m', e, on, h1, h2, rfl⟩ | ⟨p, e, on, h2, rfl⟩)
            · refine ⟨rfl, iteD (fun h => absurd h wS_wrong) (fun _ => ?_)⟩
              have z := step_ok hc e
              have zl := stp_len e
              exact ⟨s.length + 1 - m'.i, by omega, m', _, rfl, z.2.1, z.2.2 hf, by omega, ev_go ev hc e, on, h1, h2, rfl⟩
            · obtain ⟨rfl, rfl⟩ := ev_bad ev hc e
              exact ⟨rfl, q _ on h2⟩
    · exact h.elim
end
end Rk

set_option Elab.async false
set_option linter.all false
set_option maxRecDepth 100000
set_option maxHeartbeats 2000000
/-! TxtOp: a text times a number, the two signs of a text turned round. -/
namespace CL
open PySem PySem.Spec PyProof.Rows L2
/-- how often a text -/
def repT (z : Str) (n : Nat) : Str := ⟨(List.replicate n z.cps.toList).flatten.toArray⟩
theorem repT_len (z : Str) (n : Nat) : (repT z n).length = n * z.length := by
  unfold repT
  show ((List.replicate n z.cps.toList).flatten.toArray).size = _
  rw [List.size_toArray, List.length_flatten, List.map_replicate, List.sum_replicate_nat]
  rfl
theorem foldl_app (x : Array Nat) : ∀ (n : Nat) (a : Array Nat), (List.replicate n x).foldl (· ++ ·) a = a ++ (List.replicate n x.toList).flatten.toArray
  | 0, a => by simp
  | n + 1, a => by
    rw [List.replicate_succ, List.foldl_cons, foldl_app x n, List.replicate_succ, List.flatten_cons]
    apply Array.toList_inj.mp
    simp
theorem mul_rep (z : Str) (n : Int) : Txt.mul z n = repT z n.toNat := by
  unfold Txt.mul repT
  by_cases h : n < 1
  · rw [if_pos h]
    have : n.toNat = 0 := by omega
    rw [this]
    rfl
  · rw [if_neg h]
    by_cases h2 : (n == 1 || z.length == 0) = true
    · rw [if_pos h2]
      rw [Bool.or_eq_true] at h2
      rcases h2 with h2 | h2
      · have : n = 1 := eq_of_beq h2
        subst this
        show z = ⟨(List.replicate 1 z.cps.toList).flatten.toArray⟩
        simp
      · have h3 : z.cps = #[] := Array.size_eq_zero_iff.mp (eq_of_beq h2)
        show z = _
        cases z with
        | mk c =>
          dsimp only at h3
          subst h3
          congr 1
          apply Array.toList_inj.mp
          simp
    · rw [if_neg h2]
      congr 1
      rw [foldl_app]
      simp
def rRepS : R2 := fun x y H Q => ∃ (z : Str) (k : Int), x = .str z ∧ y = .int k ∧ k ≤ 100000 ∧ -100000 ≤ k ∧ z.length ≤ 100 ∧ Q (.str (repT z k.toNat)) H
theorem op_repS {X : Cx} : OpR X (binaryOp .Mult) rRepS := by
  intro pins s σ H x y v u Q I rx ry h
  obtain ⟨z, k, rfl, rfl, h1, h2, h3, q⟩ := h
  obtain ⟨t, rfl⟩ := rx
  obtain ⟨t', rfl⟩ := ry
  have hm : z.length * k.toNat ≤ 100 * 100000 := Nat.mul_le_mul h3 (by omega)
  refine SB.mul ⟨?_, fun n1 _ => ?_, fun n1 _ => ?_⟩ fun t' tk => ⟨.str (Txt.mul z k), H, I.tok _, ⟨_, rfl⟩, ?_⟩
  · rw [Bool.or_eq_false_iff]
    exact ⟨decide_eq_false (by omega), decide_eq_false (by omega)⟩
  · have : (100 : Int) ≤ (2 ^ 63 - 1) / k := by
      rw [Int.le_ediv_iff_mul_le (by omega)]
      omega
    omega
  · unfold Builtin.Str.tooLong
    exact decide_eq_false (by rw [sizeLine_eq]; omega)
  · rw [mul_rep]
    exact q
/-- t[::-1] of at most two signs -/
def tRevS (te : TE) : TE := fun σ H Q => te σ H fun x H1 => ∃ z, x = .str z ∧ z.length ≤ 2 ∧ ∀ y : Str, y.length ≤ 2 → (∀ c ∈ y.cps.toList, c ∈ z.cps.toList) → Q (.str y) H1
theorem rev2 {z : Str} (h : z.length ≤ 2) : ((PySem.slicePicked z none none (some (-1, t))).filterMap (z.cps[·]?)).length ≤ 2 := by
  refine Nat.le_trans (List.length_filterMap_le _ _) ?_
  unfold PySem.slicePicked
  show (Builtin.Str.strSliceIndices none none (-1) z.length).length ≤ 2
  have : z.length = 0 ∨ z.length = 1 ∨ z.length = 2 := by omega
  rcases this with e | e | e <;> rw [e] <;> decide
theorem pe_revS {X : Cx} {e : Expr} {te : TE} {k : Nat} {p1 p2 p3 pos : Pos} (he : PE X e te) : PE X (.Subscript e (.Slice none none (some (.UnaryOp .USub (.Constant (.int 1) k p1) p2)) p3) pos) (tRevS te) := by
  refine ⟨fun pins s σ H Q I h => ?_⟩
  refine Subscript_ (thn (he.run pins s σ H _ I h) fun v s1 ⟨x, H1, I1, r1, q1⟩ => ?_)
  obtain ⟨z, ex, hz, q⟩ := q1
  subst ex
  obtain ⟨t, rfl⟩ := r1
  have hst : PO X (some (.UnaryOp .USub (.Constant (.int 1) k p1) p2)) (tPart (tUn (rU fun i => .int (-i)) (tC (.int 1)))) := po_some (pe_un un_neg pe_int)
  refine wpAny_Slice (thn (po_none.run pins s1 σ H1 (fun o H2 => o = none ∧ H2 = H1) I1 ⟨rfl, rfl⟩) fun vl s2 ⟨l, H2, I2, pl, el, e2⟩ => ?_)
  subst el e2
  refine thn (po_none.run pins s2 σ H2 (fun o H3 => o = none ∧ H3 = H2) I2 ⟨rfl, rfl⟩) fun vu s3 ⟨u, H3, I3, pu, eu, e3⟩ => ?_
  subst eu e3
  refine thn (hst.run pins s3 σ H3 (fun o H4 => o = some (-1) ∧ H4 = H3) I3 ⟨1, rfl, -1, rfl, rfl, rfl⟩) fun vs s4 ⟨o, H4, I4, ps, eo, e4⟩ => ?_
  subst eo e4
  have I5 : Inv X pins σ H4 { s4 with heap := s4.heap.push { cls := .type "slice", data := .fields #[vl, vu, vs] } } := I4.kept (t' := s4.toks) fun b ob q => Heap.get?_push_of_some _ q
  show wpAny (model X.prog X.w) X.A (subscriptTail e (.Slice none none (some (.UnaryOp .USub (.Constant (.int 1) k p1) p2)) p3) (.str z t) (.ref s4.heap.objs.size)) (EP X pins σ Q) X.xe { s4 with heap := s4.heap.push { cls := .type "slice", data := .fields #[vl, vu, vs] } }
  refine tail_any (ops := [.ref s4.heap.objs.size, .str z t]) (typeIs_str _ _ _) (F.slot_str_getitem.lookup) ?_ (by with_unfolding_all rfl)
  obtain ⟨l', rfl, hl⟩ := IsPart.raw pl
  obtain ⟨u', rfl, hu⟩ := IsPart.raw pu
  obtain ⟨s', rfl, hs⟩ := IsPart.raw ps
  have l0 : l' = none := by cases l' with
    | none => rfl
    | some a => cases hl
  have u0 : u' = none := by cases u' with
    | none => rfl
    | some a => cases hu
  subst l0 u0
  obtain ⟨t2, rfl⟩ : ∃ t2, s' = some (-1, t2) := by
    cases s' with
    | none => cases hs
    | some a =>
      cases a with
      | mk a b =>
        have : a = -1 := by injection hs
        exact ⟨b, by rw [this]⟩
  refine wpAny_getItem_str_slice (l := none) (u := none) (st := some (-1, t2)) ⟨_, Heap.get?_push_size _ rfl, rfl, rfl⟩ rfl ?_
  unfold PySem.sliceMade
  show Made.post (if ((-1 : Int) == 1 && _) = true then _ else _) _ _
  rw [show ((-1 : Int) == 1) = false from rfl, Bool.false_and, if_neg Bool.false_ne_true]
  have hlen := rev2 (t := t2) hz
  have hy : (⟨((PySem.slicePicked z none none (some (-1, t2))).filterMap (z.cps[·]?)).toArray⟩ : Str).length ≤ 2 := by
    show (((PySem.slicePicked z none none (some (-1, t2))).filterMap (z.cps[·]?)).toArray).size ≤ 2
    rw [List.size_toArray]
    exact hlen
  refine ⟨Nat.le_trans hy (by decide), .str _, H4, I5.tok _, ⟨_, rfl⟩, q _ hy fun c hc => ?_⟩
  have hc : c ∈ ((PySem.slicePicked z none none (some (-1, t2))).filterMap (z.cps[·]?)) := hc
  obtain ⟨i, _, hi⟩ := List.mem_filterMap.mp hc
  obtain ⟨hlt, e⟩ := Array.getElem?_eq_some_iff.mp hi
  rw [← e]
  simp
end CL

set_option Elab.async false
set_option linter.all false
set_option maxRecDepth 100000
set_option maxHeartbeats 4000000
namespace Rk
open PySem PySem.Spec PyProof.Rows L2 CL
structure Blt (mg : Str → Option Value) : Prop where
  int : mg "int" = none
  len : mg "len" = none
  abs : mg "abs" = none
  max : mg "max" = none
  min : mg "min" = none
section
variable {P : Program} {w : World} {K : PySem.W.Frag} {mg : Str → Option Value} {base : Heap}
abbrev sDraw : Stmt := topS 15
abbrev nDraw : List Str := ["_law_pen_here", "_law_many", "_law_digit", "_law_place", "_law_size", "_law_told_here", "_law_mixed"]
abbrev pDraw : List Str := ["_law_pen_here", "_law_many"]
theorem scDraw : FnScope nDraw pDraw (defScope sDraw) := ⟨rfl, rfl, rfl, by decide +kernel, rfl, by decide +kernel, by decide +kernel⟩
theorem ok_draw (B : Blt mg) (F : FunAt K mg "_law_draw" sDraw pDraw) : ∀ n, DefOk P w K mg base CX0 (0 + n) "_law_draw" pDraw (spDraw n) := by
  refine F.rec_ scDraw (fun _ _ _ _ h => h) (fun n vs H Q E h => ?_) (fun n ih f cdv A outer s H vs Q E hr h => ?_)
  · cases n with
    | zero => exact h.elim
    | succ n =>
      unfold spDraw at h
      dsimp only at h
      split at h
      · rfl
      · exact h.elim
  · have hu := hu_of hr
    refine ⟨_, (pss_cons (ps_if (ct_cmp c_gt (pe_pget (k := 2) (.inr (.inr ⟨rfl, rfl⟩)) hu (cv 0)) pe_int (nomark _))
  (pss_cons (ps_set (i := 2) scDraw.nd rfl (.inl rfl) (pe_op c_mod (pe_callTy c_int (by rfl) B.int (by decide +kernel) (pa_cons (pe_pget (k := 2) (.inr (.inr ⟨rfl, rfl⟩)) hu (cv 0)) pa_nil)) (cv 1)))
  (pss_cons (ps_pput (k := 2) (.inr ⟨rfl, rfl⟩) hu (cv 0) (pe_op c_fdiv (pe_pget (k := 2) (.inr (.inr ⟨rfl, rfl⟩)) hu (cv 0)) (cv 1)))
  (pss_one (ps_ret (cv 2)))))
  pss_nil)
  (pss_cons (ps_par (i := 3) (j := 4) rfl scDraw.nd rfl rfl (by decide) rfl rfl (pa_cons (pe_pget (k := 1) (.inr (.inl ⟨rfl, rfl⟩)) hu (cv 0)) (pa_cons (pe_callB c_lenL (by rfl) B.len (by decide +kernel) (pa_cons (pe_pget (k := 0) (.inl ⟨rfl, rfl⟩) hu (cv 0)) pa_nil)) pa_nil)) (by rfl))
  (pss_cons (ps_pput (k := 1) (.inl ⟨rfl, rfl⟩) hu (cv 0) (pe_op c_addI (cv 3) pe_int))
  (pss_cut (ps_set (i := 5) scDraw.nd rfl (.inl rfl) (pe_ifExp (ct_cmp c_gt (cv 4) pe_int (nomark _)) (pe_ix c_ixL (pe_pget (k := 0) (.inl ⟨rfl, rfl⟩) hu (cv 0)) (pe_op c_mod (pe_callTy c_int (by rfl) B.int (by decide +kernel) (pa_cons (cv 3) pa_nil)) (cv 4)) (fun _ _ => rfl)) (pe_op c_addI (pe_op c_mul pe_int (cv 3)) pe_int)))
  (pss_cons (ps_if (PW.pt (pw_and (ct_cmp c_lt (cv 3) (cv 4) (nomark _)) (pw_and1 (ct_cmp c_ge (pe_callB c_abs (by rfl) B.abs (by decide +kernel) (pa_cons (cv 5) pa_nil)) (pe_pow (z := 1000000000000000000) ⟨⟨by decide, by decide, by decide⟩, by decide +kernel⟩) (nomark _)))))
  (pss_cons (ps_pput (k := 2) (.inr ⟨rfl, rfl⟩) hu (cv 0) (pe_op c_fdiv (pe_op c_sub (pe_callB c_abs (by rfl) B.abs (by decide +kernel) (pa_cons (cv 5) pa_nil)) (pe_pow (z := 1000000000000000000) ⟨⟨by decide, by decide, by decide⟩, by decide +kernel⟩)) (cv 1)))
  (pss_one (ps_ret (pe_op c_mod (pe_op c_sub (pe_callB c_abs (by rfl) B.abs (by decide +kernel) (pa_cons (cv 5) pa_nil)) (pe_pow (z := 1000000000000000000) ⟨⟨by decide, by decide, by decide⟩, by decide +kernel⟩)) (cv 1)))))
  pss_nil)
  (pss_cut (ps_set (i := 6) scDraw.nd rfl (.inl rfl) (pe_op c_mod (pe_callTy c_int (by rfl) B.int (by decide +kernel) (pa_cons (pe_op c_addI (pe_op c_addI (pe_op c_mul (pe_op c_mod (pe_callTy c_int (by rfl) B.int (by decide +kernel) (pa_cons (cv 5) pa_nil)) pe_int) pe_int) (pe_op c_mul (pe_op c_mul pe_int (cv 3)) (cv 3))) pe_int) pa_nil)) pe_int))
  (pss_cut (ps_set (i := 6) scDraw.nd rfl (.inl rfl) (pe_op c_mod (pe_callTy c_int (by rfl) B.int (by decide +kernel) (pa_cons (pe_op c_addI (pe_op c_addI (pe_op c_addI (pe_op c_mul (cv 6) (cv 6)) (pe_op c_mul pe_int (cv 6))) (pe_op c_mul pe_int (cv 3))) pe_int) pa_nil)) pe_int))
  (pss_cut (ps_set (i := 6) scDraw.nd rfl (.inl rfl) (pe_op c_fdiv (pe_op c_mod (pe_callTy c_int (by rfl) B.int (by decide +kernel) (pa_cons (pe_op c_mul (cv 6) (pe_op c_addI (cv 6) pe_int)) pa_nil)) pe_int) pe_int))
  (pss_cut (ps_if (ct_cmp c_gt (cv 1) pe_int (nomark _))
  (pss_one (ps_set (i := 6) scDraw.nd rfl (.inl rfl) (pe_op c_addI (pe_op c_mod (pe_callTy c_int (by rfl) B.int (by decide +kernel) (pa_cons (cv 6) pa_nil)) pe_int) (pe_op c_mul pe_int (pe_def ih hr (by omega) (pa_cons (cv 0) (pa_cons (pe_op c_addI (pe_op c_fdiv (cv 1) pe_int) pe_int) pa_nil)))))))
  pss_nil)
  (pss_one (ps_ret (pe_op c_mod (pe_callTy c_int (by rfl) B.int (by decide +kernel) (pa_cons (cv 6) pa_nil)) (cv 1))))))))))))), ?_⟩
    unfold spDraw at h
    dsimp only at h
    split at h
    · rename_i p m
      obtain ⟨c, ns, b, r, P, m0, mb, mm, hb, k⟩ := h
      have B0 := bigD0 n
      refine ⟨c, ns, b, r, P, iteD (fun h1 => ?_) (fun h1 => ?_)⟩
      · -- the rest's next figure
        have ⟨e1, e2⟩ := pyMod_small (x := r) m0
        refine ⟨c, ns, b, r, P, m0, c, ns, b, r, P, ⟨m0, by omega⟩, c, ns, b, r, P, Int.ediv_nonneg P.r0 (by omega), fun H3 s3 P3 => ?_⟩
        exact k _ _ _ _ e1 e2 (Int.le_refl _) (by omega) P3 s3
      · -- a new cell
        have hns : ((ns.map V.int).length : Int) ≤ 63 := by rw [List.length_map]; have := P.len; omega
        refine ⟨c, ns, b, r, P, c, ns, b, r, P, ns.map V.int, .inl (SqL.of P.cells), _, _, rfl, c, ns, b, r, P, (by have := P.b0; omega), fun H1 s1 P1 => ?_⟩
        have P1 : PenAt H1 p c ns (b + 1) r := P1
        -- what is told
        refine ⟨fun σ' H' => H1 = H' ∧ ∃ z : Int, σ' = [some (.ref p), some (.int m), none, some (.int b), some (.int ((ns.map V.int).length : Int)), some (.int z), none], iteD (fun h2 => ?_) (fun h2 => ?_), ?_⟩
        · obtain ⟨z, hz⟩ := at_mod (x := b) h2
          exact ⟨c, ns, b + 1, r, P1, h2, ns.map V.int, _, SqL.of P1.cells, hz, rfl, z, rfl⟩
        · exact ⟨few_of (by omega) (by omega) (by have := P.b0; omega) (by omega), rfl, _, rfl⟩
        · rintro σ' H' ⟨rfl, z, rfl⟩
          refine (fun hrest => iteD (fun h3 => iteD (fun h4 => ?A) (fun _ => hrest)) (fun _ => iteF hrest)) ?R
          case A =>
            -- a great one
            have ⟨e1, e2⟩ := pyMod_small (x := (z.natAbs : Int) - 1000000000000000000) m0
            refine ⟨⟨m0, by omega⟩, c, ns, b + 1, r, P1, Int.ediv_nonneg (by omega) (by omega), fun H2 s2 P2 => ⟨m0, ?_⟩⟩
            exact k _ _ _ _ e1 e2 (by omega) (by omega) P2 (s1.trans s2)
          case R =>
            have b0 := P.b0
            have sl : ∀ y : Int, [some (V.ref p), some (.int m), none, some (.int b), some (.int ((ns.map V.int).length : Int)), some (.int z), some (.int y)] = [some (V.ref p), some (.int m), none, some (.int b), some (.int ((ns.map V.int).length : Int)), some (.int z), some (.int y)] := fun _ => rfl
            refine ⟨fun σ' H' => H1 = H' ∧ ∃ y : Int, 0 ≤ y ∧ y < 4294967279 ∧ σ' = [some (.ref p), some (.int m), none, some (.int b), some (.int ((ns.map V.int).length : Int)), some (.int z), some (.int y)], ?_, ?_⟩
            · have ⟨i1, i2⟩ := mix1_b z b
              have ⟨a1, a2⟩ := pyMod_small (x := z) (m := 4294967231) (by decide)
              exact ⟨lt0, few_of (by omega) (by omega) (by decide) (by decide), few_of (by decide) (by decide) (by omega) (by omega), few_of (by omega) (by omega) (by omega) (by omega), lt0, rfl, _, i1, i2, rfl⟩
            rintro σ' H' ⟨rfl, y, y1, y2, rfl⟩
            refine ⟨fun σ' H' => H1 = H' ∧ ∃ y : Int, 0 ≤ y ∧ y < 4294967291 ∧ σ' = [some (.ref p), some (.int m), none, some (.int b), some (.int ((ns.map V.int).length : Int)), some (.int z), some (.int y)], ?_, ?_⟩
            · have ⟨i1, i2⟩ := mix2_b y b
              exact ⟨few_of (by omega) (by omega) (by omega) (by omega), few_of (by decide) (by decide) (by omega) (by omega), few_of (by decide) (by decide) (by omega) (by omega), lt0, rfl, _, i1, i2, rfl⟩
            rintro σ' H' ⟨rfl, u, u1, u2, rfl⟩
            refine ⟨fun σ' H' => H1 = H' ∧ ∃ y : Int, 0 ≤ y ∧ y < 4294967197 ∧ σ' = [some (.ref p), some (.int m), none, some (.int b), some (.int ((ns.map V.int).length : Int)), some (.int z), some (.int y)], ?_, ?_⟩
            · have ⟨i1, i2⟩ := mix3_b u
              exact ⟨few_of (by omega) (by omega) (by omega) (by omega), lt0, ⟨lt0, by decide⟩, rfl, _, i1, i2, rfl⟩
            rintro σ' H' ⟨rfl, x, x1, x2, rfl⟩
            -- the recursion
            refine ⟨fun σ' H' => But p H1 H' ∧ ∃ (y b' r' : Int), b + 1 ≤ b' ∧ b' ≤ b + n + 1 ∧ PenAt H' p c ns b' r' ∧ σ' = [some (.ref p), some (.int m), none, some (.int b), some (.int ((ns.map V.int).length : Int)), some (.int z), some (.int y)], iteD (fun h5 => ?_) (fun h5 => ⟨But.refl, x, b + 1, r, Int.le_refl _, by omega, P1, rfl⟩), ?_⟩
            · refine ⟨lt0, ⟨lt0, by decide⟩, ?_⟩
              cases n with
              | zero => exact absurd (show m ≤ 60000000 from mb) (by omega)
              | succ n =>
                have mb' : m ≤ 60000000 * (bigD n - 1) := mb
                refine ⟨c, ns, b + 1, r, P1, by omega, by omega, by omega, by omega, fun v b' r' H2 v0 v1 b1 b2 P2 s2 => ⟨few_of (by decide) (by decide) (by omega) (by omega), s2, _, b', r', b1, by omega, P2, rfl⟩⟩
            · rintro σ' H2 ⟨s2, y, b', r', b1, b2, P2, rfl⟩
              have ⟨e1, e2⟩ := pyMod_small (x := y) m0
              exact ⟨m0, k _ _ _ _ e1 e2 (by omega) (by omega) P2 (s1.trans s2)⟩
    · exact h.elim
abbrev sPick : Stmt := topS 16
abbrev nPick : List Str := ["_law_pen_here", "_law_options"]
abbrev pPick : List Str := ["_law_pen_here", "_law_options"]
theorem scPick : FnScope nPick pPick (defScope sPick) := ⟨rfl, rfl, rfl, by decide +kernel, rfl, by decide +kernel, by decide +kernel⟩
abbrev sAround : Stmt := topS 17
abbrev nAround : List Str := ["_law_pen_here", "_law_most"]
abbrev pAround : List Str := ["_law_pen_here", "_law_most"]
theorem scAround : FnScope nAround pAround (defScope sAround) := ⟨rfl, rfl, rfl, by decide +kernel, rfl, by decide +kernel, by decide +kernel⟩
abbrev sGreat : Stmt := topS 18
abbrev nGreat : List Str := ["_law_pen_here", "_law_most", "_law_some"]
abbrev pGreat : List Str := ["_law_pen_here", "_law_most"]
theorem scGreat : FnScope nGreat pGreat (defScope sGreat) := ⟨rfl, rfl, rfl, by decide +kernel, rfl, by decide +kernel, by decide +kernel⟩
theorem ok_dr (B : Blt mg) (F : FunAt K mg "_law_draw" sDraw pDraw) : DefOk P w K mg base CX0 5 "_law_draw" pDraw spDr := (ok_draw B F 5).imp fun _ _ _ _ => spDr_of
theorem ok_pick (B : Blt mg) (D : ∀ base, DefOk P w K mg base CX0 5 "_law_draw" pDraw spDr) (F : FunAt K mg "_law_pick" sPick pPick) : DefOk P w K mg base CX0 6 "_law_pick" pPick (spPick K) := by
  refine F.ok scPick (fun vs H Q E h => ?_) (fun f cdv A outer s H vs Q E hr h => ?_)
  · unfold spPick at h
    split at h
    · rfl
    · exact h.elim
  · have hu := hu_of hr
    refine ⟨_, (pss_one (ps_ret (pe_ix c_ixL (cv 1) (pe_def (D _) hr (by decide) (pa_cons (cv 0) (pa_cons (pe_callB c_lenL (by rfl) B.len (by decide +kernel) (pa_cons (cv 1) pa_nil)) pa_nil))) (fun _ _ => rfl)))), ?_⟩
    unfold spPick at h
    split at h
    · rename_i p a
      obtain ⟨k, xs, P, hx, l0, l1, q⟩ := h
      refine ⟨xs, .inl hx, k, P, by omega, by omega, fun v H' v0 v1 P' s' => ?_⟩
      obtain ⟨z, hz, e⟩ := atI_mem (xs := xs) v0 v1
      exact ⟨xs, z, s'.sq P hx, e, q z H' hz P' s'⟩
    · exact h.elim
theorem ok_around (B : Blt mg) (D : ∀ base, DefOk P w K mg base CX0 5 "_law_draw" pDraw spDr) (F : FunAt K mg "_law_around" sAround pAround) : DefOk P w K mg base CX0 6 "_law_around" pAround spAround := by
  refine F.ok scAround (fun vs H Q E h => ?_) (fun f cdv A outer s H vs Q E hr h => ?_)
  · unfold spAround at h
    split at h
    · rfl
    · exact h.elim
  · have hu := hu_of hr
    refine ⟨_, (pss_one (ps_ret (pe_op c_sub (pe_def (D _) hr (by decide) (pa_cons (cv 0) (pa_cons (pe_op c_addI (pe_op c_mul pe_int (cv 1)) pe_int) pa_nil))) (cv 1)))), ?_⟩
    unfold spAround at h
    split at h
    · rename_i p m
      obtain ⟨k, P, m0, m1, q⟩ := h
      refine ⟨few_of (by omega) (by omega) (by omega) (by omega), k, P, by omega, by omega, fun v H' v0 v1 P' s' => ?_⟩
      exact q _ H' (by omega) (by omega) P' s'
    · exact h.elim
theorem ok_great (B : Blt mg) (D : ∀ base, DefOk P w K mg base CX0 5 "_law_draw" pDraw spDr) (DA : ∀ base, DefOk P w K mg base CX0 6 "_law_around" pAround spAround) (DP : ∀ base, DefOk P w K mg base CX0 6 "_law_pick" pPick (spPick K))
    (F : FunAt K mg "_law_great" sGreat pGreat) : DefOk P w K mg base CX0 7 "_law_great" pGreat spGreat := by
  refine F.ok scGreat (fun vs H Q E h => ?_) (fun f cdv A outer s H vs Q E hr h => ?_)
  · unfold spGreat at h
    split at h
    · rfl
    · exact h.elim
  · have hu := hu_of hr
    refine ⟨_, (pss_cons (ps_set (i := 2) scGreat.nd rfl (.inl rfl) (pe_lst (pa_cons (pe_def (DA _) hr (by decide) (pa_cons (cv 0) (pa_cons pe_int pa_nil))) (pa_cons (pe_def (DA _) hr (by decide) (pa_cons (cv 0) (pa_cons (cv 1) pa_nil))) (pa_cons (pe_op c_sub (cv 1) (pe_def (D _) hr (by decide) (pa_cons (cv 0) (pa_cons pe_int pa_nil)))) (pa_cons (pe_op c_sub (pe_def (D _) hr (by decide) (pa_cons (cv 0) (pa_cons pe_int pa_nil))) (cv 1)) pa_nil))))))
  (pss_one (ps_ret (pe_callB (c_max rfl) (by rfl) B.max (by decide +kernel) (pa_cons (pe_op c_sub pe_int (cv 1)) (pa_cons (pe_callB (c_min rfl) (by rfl) B.min (by decide +kernel) (pa_cons (cv 1) (pa_cons (pe_def (DP _) hr (by decide) (pa_cons (cv 0) (pa_cons (cv 2) pa_nil))) pa_nil))) pa_nil)))))), ?_⟩
    unfold spGreat at h
    split at h
    · rename_i p m
      obtain ⟨k, P, m0, m1, q⟩ := h
      refine ⟨k + 20, P, by decide, by decide, fun v1 H1 a1 b1 P1 s1 => ⟨k + 15, P1, m0, m1, fun v2 H2 a2 b2 P2 s2 => ⟨k + 10, P2, by decide, by decide, fun v3 H3 a3 b3 P3 s3 => ⟨k + 5, P3, by decide, by decide, fun v4 H4 a4 b4 P4 s4 => ?_⟩⟩⟩⟩
      refine ⟨by show 4 ≤ sizeLine; decide, fun l hl => ?_⟩
      refine ⟨k, _, P4.same (same_new hl), SqL.of upd_same, by show 0 < 4; decide, by show 4 ≤ _; decide, fun v H5 hv P5 s5 => ?_⟩
      have hz : ∃ z : Int, v = .int z := by
        simp only [List.mem_cons, List.not_mem_nil, or_false] at hv
        rcases hv with rfl | rfl | rfl | rfl <;> exact ⟨_, rfl⟩
      obtain ⟨z, rfl⟩ := hz
      exact q _ H5 (by dsimp only; omega) (by dsimp only; omega) P5 ((((s1.trans s2).trans s3).trans s4).trans ((But.of (same_new hl)).trans s5))
    · exact h.elim
end
end Rk

set_option Elab.async false
set_option linter.all false
set_option maxRecDepth 100000
set_option maxHeartbeats 2000000
/-! Tex: trees and their texts; signs that are signs. -/
namespace Fm
open PySem PySem.Spec PyProof.Rows L2 CL
def gapS (g : Nat) : Str := repT " " g
def dep : T → Nat
  | .num _ => 0
  | .nam _ => 0
  | .neg t => dep t + 1
  | .op _ a b => max (dep a) (dep b) + 1
/-- a parameter's name -/
structure Wd (w : Str) : Prop where
  lets : ∀ c ∈ w.cps.toList, isL c = true
  ne : 1 ≤ w.length
  few : w.length ≤ 8
  n1 : w ≠ "min"
  n2 : w ≠ "max"
  n3 : w ≠ "self"
def ops : List Str := ["+", "-", "*", "//", "min", "max"]
def TOk (ws : List Str) : T → Prop
  | .num n => 0 ≤ n ∧ n ≤ 10 ^ 30 + 2
  | .nam w => w ∈ ws
  | .neg t => TOk ws t
  | .op o a b => o ∈ ops ∧ TOk ws a ∧ TOk ws b
/-- s is a text of t, of a level: 0 a sum, 1 a term, 2 a factor -/
inductive Tex : T → Nat → Str → Prop
  | num {n : Int} : Tex (.num n) 2 (toString n : String)
  | nam {w : Str} : Tex (.nam w) 2 w
  | neg {t : T} {l g : Nat} {s : Str} : Tex t l s → 2 ≤ l → Tex (.neg t) 2 ("-" ++ gapS g ++ s)
  | pair {o : Str} {a b : T} {la lb g0 g1 g2 g3 g4 : Nat} {sa sb : Str} : o = "min" ∨ o = "max" → Tex a la sa → Tex b lb sb → Tex (.op o a b) 2 (o ++ gapS g0 ++ "(" ++ (gapS g1 ++ sa ++ gapS g2 ++ "," ++ (gapS g3 ++ sb ++ gapS g4)) ++ ")")
  | sum {o : Str} {a b : T} {la lb g0 g1 : Nat} {sa sb : Str} : o = "+" ∨ o = "-" → Tex a la sa → Tex b lb sb → 1 ≤ lb → Tex (.op o a b) 0 (sa ++ (gapS g0 ++ o ++ gapS g1) ++ sb)
  | term {o : Str} {a b : T} {la lb g0 g1 : Nat} {sa sb : Str} : o = "*" ∨ o = "//" → Tex a la sa → 1 ≤ la → Tex b lb sb → 2 ≤ lb → Tex (.op o a b) 1 (sa ++ (gapS g0 ++ o ++ gapS g1) ++ sb)
  | br {t : T} {l g1 g2 : Nat} {s : Str} : Tex t l s → Tex t 2 ("(" ++ gapS g1 ++ s ++ gapS g2 ++ ")")
def xB : Nat → Nat
  | 0 => 40
  | d + 1 => xB d + xB d + 40
theorem xB_mono : ∀ {a b : Nat}, a ≤ b → xB a ≤ xB b
  | a, 0, h => by rw [Nat.le_zero.mp h]; exact Nat.le_refl _
  | a, b + 1, h => by
    rcases Nat.lt_or_ge a (b + 1) with z | z
    · have := xB_mono (a := a) (b := b) (by omega)
      show xB a ≤ xB b + xB b + 40
      omega
    · have : a = b + 1 := by omega
      rw [this]; exact Nat.le_refl _
theorem gap_len (g : Nat) : (gapS g).length = g := by
  unfold gapS
  rw [repT_len]
  have : (" " : Str).length = 1 := by decide +kernel
  rw [this, Nat.mul_one]
theorem app_len (a b : Str) : (a ++ b).length = a.length + b.length := by
  rw [TL.len_tl, TL.len_tl, TL.len_tl, TL.tl_append, List.length_append]
/-- signs -/
def So (s : Str) : Prop := ∀ c ∈ s.cps.toList, c < 1114112
theorem So.ok {s : Str} (h : So s) : PyData.strOk s = true := by
  unfold PyData.strOk
  rw [Array.all_eq_true']
  intro c hc
  exact decide_eq_true (h c (by simpa using hc))
theorem So.of {s : Str} (h : PyData.strOk s = true) : So s := by
  unfold PyData.strOk at h
  rw [Array.all_eq_true'] at h
  intro c hc
  exact of_decide_eq_true (h c (by simpa using hc))
theorem So.lit (s : String) : So s := .of (strOk_text s)
theorem So.app {a b : Str} (h1 : So a) (h2 : So b) : So (a ++ b) := fun c hc => by
  have hc : c ∈ TL.tl (a ++ b) := hc
  rw [TL.tl_append] at hc
  rcases List.mem_append.mp hc with z | z
  · exact h1 c z
  · exact h2 c z
theorem So.rep {a : Str} (h : So a) (n : Nat) : So (repT a n) := fun c hc => by
  have hc : c ∈ (List.replicate n a.cps.toList).flatten := hc
  obtain ⟨l, hl, hc⟩ := List.mem_flatten.mp hc
  rw [(List.mem_replicate.mp hl).2] at hc
  exact h c hc
theorem So.cut {a : Str} (h : So a) (lo hi : Option Int) : So (cutS a lo hi) := fun c hc => by
  have hc : c ∈ (a.cps.toList.drop (HT.sIx a.length 0 lo)).take (HT.sIx a.length a.length hi - HT.sIx a.length 0 lo) := hc
  exact h c (List.mem_of_mem_drop (List.mem_of_mem_take hc))
theorem So.gap (g : Nat) : So (gapS g) := (So.lit " ").rep g
theorem So.wd {w : Str} (h : Wd w) : So w := fun c hc => by
  have := h.lets c hc
  unfold isL at this
  have := of_decide_eq_true this
  omega
theorem ops_so {o : Str} (h : o ∈ ops) : So o := by
  simp only [ops, List.mem_cons, List.not_mem_nil, or_false] at h
  rcases h with rfl | rfl | rfl | rfl | rfl | rfl <;> exact .lit _
theorem Tex.so {ws : List Str} (hw : ∀ w ∈ ws, Wd w) {t : T} {l : Nat} {s : Str} (h : Tex t l s) : TOk ws t → So s := by
  induction h with
  | num => intro _; exact .lit _
  | nam => intro k; exact .wd (hw _ k)
  | neg _ _ ih => intro k; exact ((So.lit _).app (.gap _)).app (ih k)
  | pair _ _ _ i1 i2 => intro k; exact ((((ops_so k.1).app (.gap _)).app (.lit _)).app (((((So.gap _).app (i1 k.2.1)).app (.gap _)).app (.lit _)).app (((So.gap _).app (i2 k.2.2)).app (.gap _)))).app (.lit _)
  | sum _ _ _ _ i1 i2 => intro k; exact ((i1 k.2.1).app (((So.gap _).app (ops_so k.1)).app (.gap _))).app (i2 k.2.2)
  | term _ _ _ _ _ i1 i2 => intro k; exact ((i1 k.2.1).app (((So.gap _).app (ops_so k.1)).app (.gap _))).app (i2 k.2.2)
  | br _ ih => intro k; exact ((((So.lit _).app (.gap _)).app (ih k)).app (.gap _)).app (.lit _)
/-- a tree of the law's in the heap -/
inductive LTr (H : Hp) : V → T → Prop
  | num {a : Addr} {n : Int} : H a = some (.tup [.str "number", .int n]) → LTr H (.ref a) (.num n)
  | nam {a : Addr} {w : Str} : H a = some (.tup [.str "name", .str w]) → LTr H (.ref a) (.nam w)
  | neg {a : Addr} {v : V} {t : T} : H a = some (.tup [.str "minus", v]) → LTr H v t → LTr H (.ref a) (.neg t)
  | op {a : Addr} {o : Str} {v u : V} {t r : T} : H a = some (.tup [.str o, v, u]) → LTr H v t → LTr H u r → LTr H (.ref a) (.op o t r)
theorem LTr.on {H H' : Hp} (k : ∀ b xs, H b = some (.tup xs) → H' b = some (.tup xs)) {v : V} {t : T} (h : LTr H v t) : LTr H' v t := by
  induction h with
  | num h => exact .num (k _ _ h)
  | nam h => exact .nam (k _ _ h)
  | neg h _ i1 => exact .neg (k _ _ h) i1
  | op h _ _ i1 i2 => exact .op (k _ _ h) i1 i2
theorem LTr.same {H H' : Hp} (k : Same H H') {v : V} {t : T} (h : LTr H v t) : LTr H' v t := h.on fun b xs e => k _ _ e
theorem LTr.but {H H' : Hp} {p : Addr} {k : Nat} (P : PenB H p k) (s : But p H H') {v : V} {t : T} (h : LTr H v t) : LTr H' v t := h.on fun b xs e => s.keep b _ (P.ne e fun _ z => nomatch z) e
/-- few figures -/
theorem num_len {n : Int} (h0 : 0 ≤ n) (h1 : n ≤ 10 ^ 30 + 2) : (Str.ofString (toString n)).length ≤ 32 := by
  have := int_text_length_le10 (a := n) (k := 31) (by decide) (by omega)
  rw [PySem.ofString_length]
  exact this
end Fm

set_option Elab.async false
set_option linter.all false
set_option maxRecDepth 100000
set_option maxHeartbeats 4000000
set_option pp.maxSteps 200
namespace Rk
open PySem PySem.Spec PyProof.Rows L2 CL Fm
/-- a sign of a text -/
def spPickS : Sp := fun vs H Q _ => match vs with
  | [.ref p, .str z] => ∃ k, PenB H p (k + 5) ∧ 0 < z.length ∧ z.length ≤ 1000 ∧ ∀ (c : Nat) H', c ∈ z.cps.toList → PenB H' p k → But p H H' → Q (.str ⟨#[c]⟩) H'
  | _ => False
theorem at_text {z : Str} {v : Int} (h0 : 0 ≤ v) (h1 : v < (z.length : Int)) : ∃ c, c ∈ z.cps.toList ∧ atI z.cps.toList v = some c := by
  have hl : z.cps.toList.length = z.length := by simp; rfl
  have hj : v.toNat < z.cps.toList.length := by omega
  refine ⟨z.cps.toList[v.toNat], List.getElem_mem hj, ?_⟩
  unfold atI ixN
  rw [if_pos h0, if_pos (by omega), Option.bind_some, List.getElem?_eq_getElem hj]
theorem _root_.CL.But.lst {p D : Addr} {k : Nat} {H H' : Hp} {o : HO} (P : PenB H p k) (b : But p H H') (n : H D = none) : But p H (upd H' D o) := by
  have np : p ≠ D := by
    obtain ⟨c, ns, b, r, P, _⟩ := P
    exact ne_of_none P.dict n
  exact ⟨fun x o hx h => by rw [upd_ne (ne_of_none h n)]; exact b.keep x o hx h, fun c x r h => by rw [upd_ne np]; exact b.2 c x r h⟩
theorem _root_.CL.PenB.lst {p D : Addr} {k : Nat} {H' : Hp} {xs : List V} {o : HO} (P : PenB H' p k) (e : H' D = some (.lst xs)) (n : ∀ c, Cel H' p c → c ≠ D) : PenB (upd H' D o) p k := by
  obtain ⟨c, ns, b, r, P, hb⟩ := P
  have np : p ≠ D := ne_of P.dict e fun z => nomatch z
  have nc : c ≠ D := n c ⟨b, r, P.dict⟩
  exact ⟨c, ns, b, r, ⟨by rw [upd_ne np]; exact P.dict, by rw [upd_ne nc]; exact P.cells, P.len, P.b0, P.r0⟩, hb⟩
/-- a list that was made behind the pen is none of its parts -/
theorem cel_ne {p D : Addr} {k : Nat} {H H' : Hp} (P : PenB H p k) (b : But p H H') (n : H D = none) : ∀ c, Cel H' p c → c ≠ D := fun c hc => by
  obtain ⟨c0, ns, b0, r, P, _⟩ := P
  have h0 : Cel H p c0 := ⟨b0, r, P.dict⟩
  obtain ⟨x, y, e1⟩ := h0.but b
  obtain ⟨x2, y2, e2⟩ := hc
  rw [e1] at e2
  have := pen_inj (Option.some.inj e2)
  rw [← this]
  exact ne_of_none P.cells n
theorem _root_.CL.But.none {p D : Addr} {k : Nat} {H H' : Hp} (P : PenB H p k) (b : But p H H') (n : H' D = none) : H D = none := by
  cases h : H D with
  | none => rfl
  | some o =>
    by_cases hp : D = p
    · obtain ⟨c, ns, bb, r, P, _⟩ := P
      obtain ⟨x, y, e⟩ := b.own c bb r P.dict
      rw [hp, e] at n
      cases n
    · rw [b.keep D o hp h] at n
      cases n
theorem joinL_mem {S : List Nat} {c : Nat} : ∀ {ps : List (List Nat)}, c ∈ TL.joinL S ps → c ∈ S ∨ ∃ p ∈ ps, c ∈ p
  | [], h => nomatch h
  | [p], h => .inr ⟨p, by simp, h⟩
  | p :: q :: r, h => by
    have h : c ∈ p ++ (S ++ TL.joinL S (q :: r)) := h
    rcases List.mem_append.mp h with z | z
    · exact .inr ⟨p, by simp, z⟩
    · rcases List.mem_append.mp z with z | z
      · exact .inl z
      · rcases joinL_mem z with z | ⟨x, hx, z⟩
        · exact .inl z
        · exact .inr ⟨x, List.mem_cons_of_mem _ hx, z⟩
theorem joinL_len {S : List Nat} : ∀ {ps : List (List Nat)}, (TL.joinL S ps).length ≤ (ps.map List.length).sum + ps.length * S.length
  | [] => Nat.zero_le _
  | [p] => by show p.length ≤ _; simp
  | p :: q :: r => by
    have := joinL_len (S := S) (ps := q :: r)
    show (p ++ (S ++ TL.joinL S (q :: r))).length ≤ _
    rw [List.length_append, List.length_append, List.map_cons, List.sum_cons, List.length_cons, Nat.succ_mul]
    omega
theorem inV_three {w : Str} : inV (.str w) [.str "min", .str "max", .str "self"] = decide (w = "min" ∨ w = "max" ∨ w = "self") := by
  rw [Bool.eq_iff_iff]
  simp only [inV, List.any_cons, List.any_nil, Bool.or_false, eqV, Bool.or_eq_true, beq_iff_eq, decide_eq_true_eq]
  constructor
  · rintro (h | h | h)
    · exact .inl h.symm
    · exact .inr (.inl h.symm)
    · exact .inr (.inr h.symm)
  · rintro (h | h | h)
    · exact .inl h.symm
    · exact .inr (.inl h.symm)
    · exact .inr (.inr h.symm)
/-- names -/
def spNames : Sp := fun vs H Q _ => match vs with
  | [.ref p, .int m] => ∃ k, PenB H p (k + 45) ∧ 0 ≤ m ∧ m ≤ 100 ∧ ∀ l (ws : List Str) H', H' l = some (.lst (ws.map V.str)) → H l = none → (∀ w ∈ ws, Wd w) → ws.length ≤ 26 → PenB H' p k → But p H H' → Q (.ref l) H'
  | _ => False
/-- some spaces -/
def spGap : Sp := fun vs H Q _ => match vs with
  | [.ref p, .int m] => ∃ k, PenB H p (k + 10) ∧ 1 ≤ m ∧ m ≤ 3 ∧ ∀ g H', g ≤ 2 → PenB H' p k → But p H H' → Q (.str (gapS g)) H'
  | _ => False
structure BltN (mg : Str → Option Value) : Prop extends Blt mg where
  range : mg "range" = none
abbrev sNames : Stmt := topS 19
abbrev nNames : List Str := ["_law_pen_here", "_law_many", "_law_letters", "_law_stem", "_law_k", "_law_front", "_law_step", "_law_found", "_law_own", "_law_name"]
abbrev pNames : List Str := ["_law_pen_here", "_law_many"]
theorem scNames : FnScope nNames pNames (defScope sNames) := ⟨rfl, rfl, rfl, by decide +kernel, rfl, by decide +kernel, by decide +kernel⟩
abbrev sGap : Stmt := topS 22
abbrev nGap : List Str := ["_law_pen_here", "_law_many"]
abbrev pGap : List Str := ["_law_pen_here", "_law_many"]
theorem scGap : FnScope nGap pGap (defScope sGap) := ⟨rfl, rfl, rfl, by decide +kernel, rfl, by decide +kernel, by decide +kernel⟩
section
variable {P : Program} {w : World} {K : PySem.W.Frag} {mg : Str → Option Value} {base : Heap}
theorem ok_pickS (B : Blt mg) (D : ∀ base, DefOk P w K mg base CX0 5 "_law_draw" pDraw spDr) (F : FunAt K mg "_law_pick" sPick pPick) : DefOk P w K mg base CX0 6 "_law_pick" pPick spPickS := by
  refine F.ok scPick (fun vs H Q E h => ?_) (fun f cdv A outer s H vs Q E hr h => ?_)
  · unfold spPickS at h
    split at h
    · rfl
    · exact h.elim
  · have hu := hu_of hr
    refine ⟨_, (pss_one (ps_ret (pe_ix ix_str (cv 1) (pe_def (D _) hr (by decide) (pa_cons (cv 0) (pa_cons (pe_callB call_len_str (by rfl) B.len (by decide +kernel) (pa_cons (cv 1) pa_nil)) pa_nil))) (fun _ _ => rfl)))), ?_⟩
    unfold spPickS at h
    split at h
    · rename_i p z
      obtain ⟨k, P, l0, l1, q⟩ := h
      have sz : z.length ≤ sizeLine := Nat.le_trans l1 (by decide)
      refine ⟨z, rfl, sz, k, P, by omega, by omega, fun v H' v0 v1 P' s' => ?_⟩
      obtain ⟨c, hc, e⟩ := at_text v0 v1
      exact ⟨z, v, c, rfl, rfl, sz, e, q c H' hc P' s'⟩
    · exact h.elim
theorem ok_gap (B : Blt mg) (D : ∀ base, DefOk P w K mg base CX0 5 "_law_draw" pDraw spDr) (DP : ∀ base, DefOk P w K mg base CX0 6 "_law_pick" pPick (spPick K)) (F : FunAt K mg "_law_gap" sGap pGap) : DefOk P w K mg base CX0 7 "_law_gap" pGap spGap := by
  refine F.ok scGap (fun vs H Q E h => ?_) (fun f cdv A outer s H vs Q E hr h => ?_)
  · unfold spGap at h
    split at h
    · rfl
    · exact h.elim
  · have hu := hu_of hr
    refine ⟨_, (pss_one (ps_ret (pe_op op_repS pe_str (pe_def (DP _) hr (by decide) (pa_cons (cv 0) (pa_cons (pe_lst (pa_cons pe_int (pa_cons pe_int (pa_cons (pe_def (D _) hr (by decide) (pa_cons (cv 0) (pa_cons (cv 1) pa_nil))) pa_nil)))) pa_nil)))))), ?_⟩
    unfold spGap at h
    split at h
    · rename_i p m
      obtain ⟨k, P, m0, m1, q⟩ := h
      refine ⟨k + 5, P, by omega, by omega, fun v H1 v0 v1 P1 s1 => ⟨by show 3 ≤ sizeLine; decide, fun l nl => ?_⟩⟩
      refine ⟨k, _, P1.same (same_new nl), SqL.of upd_same, by show 0 < 3; decide, by show 3 ≤ _; decide, fun x H2 hx P2 s2 => ?_⟩
      have hz : ∃ g : Nat, x = .int (g : Int) ∧ g ≤ 2 := by
        simp only [List.mem_cons, List.not_mem_nil, or_false] at hx
        rcases hx with rfl | rfl | rfl
        · exact ⟨0, rfl, by omega⟩
        · exact ⟨0, rfl, by omega⟩
        · exact ⟨v.toNat, by rw [Int.toNat_of_nonneg v0], by omega⟩
      obtain ⟨g, rfl, hg⟩ := hz
      refine ⟨_, _, rfl, rfl, by omega, by omega, by decide +kernel, ?_⟩
      rw [Int.toNat_natCast]
      exact q g H2 hg P2 ((s1.trans (But.of (same_new nl))).trans s2)
    · exact h.elim
theorem ok_names (B : BltN mg) (D : ∀ base, DefOk P w K mg base CX0 5 "_law_draw" pDraw spDr) (DP : ∀ base, DefOk P w K mg base CX0 6 "_law_pick" pPick (spPick K)) (DPS : ∀ base, DefOk P w K mg base CX0 6 "_law_pick" pPick spPickS) (F : FunAt K mg "_law_names" sNames pNames) : DefOk P w K mg base CX0 7 "_law_names" pNames spNames := by
  refine F.ok scNames (fun vs H Q E h => ?_) (fun f cdv A outer s H vs Q E hr h => ?_)
  · unfold spNames at h
    split at h
    · rfl
    · exact h.elim
  · have hu := hu_of hr
    refine ⟨_, (pss_cons (ps_set (i := 2) scNames.nd rfl (.inr rfl) pe_str)
  (pss_cons (ps_set (i := 3) scNames.nd rfl (.inl rfl) (pe_join pe_str (pe_lc (own := [("_law_k", 4)]) (g := gName 4) (by rfl) scNames.nd (pi_range1 (by rfl) B.range (pa_cons (pe_def (D _) hr (by decide) (pa_cons (cv 0) (pa_cons pe_int pa_nil))) pa_nil)) (blkOk_by (N := nNames) (sc := (defScope sNames)) (own := [("_law_k", 4)]) (by decide +kernel)) (fun _ _ _ _ _ => pg_name (i := 4) scNames.nd rfl (Or.inl rfl)) (fun _ _ _ _ _ => pts_nil) (fun _ _ _ _ _ => (pe_def (DPS _) hr (by decide) (pa_cons (cv 0) (pa_cons (cv 2) pa_nil)))))))
  (pss_cons (ps_par (i := 5) (j := 6) rfl scNames.nd rfl rfl (by decide) rfl rfl (pa_cons (pe_def (D _) hr (by decide) (pa_cons (cv 0) (pa_cons pe_int pa_nil))) (pa_cons (pe_def (DP _) hr (by decide) (pa_cons (cv 0) (pa_cons (pe_lst (pa_cons pe_int (pa_cons pe_int (pa_cons pe_int (pa_cons pe_int (pa_cons pe_int (pa_cons pe_int (pa_cons pe_int (pa_cons pe_int (pa_cons pe_int (pa_cons pe_int (pa_cons pe_int (pa_cons pe_int pa_nil))))))))))))) pa_nil))) pa_nil)) (by rfl))
  (pss_cons (ps_set (i := 7) scNames.nd rfl (.inl rfl) (pe_lst pa_nil))
  (pss_cons (ps_for PassesOwn.never rfl (pi_range1 (by rfl) B.range (pa_cons pe_int pa_nil)) (pg_name (i := 4) scNames.nd rfl (.inl rfl))
  (pss_cons (ps_set (i := 8) scNames.nd rfl (.inl rfl) (pe_ix ix_str (cv 2) (pe_op c_mod (pe_callTy c_int (by rfl) B.int (by decide +kernel) (pa_cons (pe_op c_addI (cv 5) (pe_op c_mul (cv 6) (cv 4))) pa_nil)) pe_int) (fun _ _ => rfl)))
  (pss_cons (ps_set (i := 9) scNames.nd rfl (.inl rfl) (pe_ix c_ixL (pe_lst (pa_cons (pe_op op_add_str (cv 3) (cv 8)) (pa_cons (pe_op op_add_str (cv 8) (cv 3)) pa_nil))) (pe_op c_mod (pe_callB call_len_str (by rfl) B.len (by decide +kernel) (pa_cons (cv 3) pa_nil)) pe_int) (fun _ _ => rfl)))
  (pss_one (ps_if (ct_cmp op_notIn_seq (cv 9) (pe_tup (pa_cons pe_str (pa_cons pe_str (pa_cons pe_str pa_nil)))) (by rfl))
  (pss_one (ps_expr (pe_bm PySem.F.plainAttrs_list PySem.F.slot_list_append PySem.F.type_list_append mt_append (cv 7) (pa_cons (cv 9) pa_nil))))
  pss_nil)))))
  (pss_one (ps_ret (pe_slice sl_list (cv 7) po_none (po_some (cv 1)))))))))), ?_⟩
    unfold spNames at h
    split at h
    · rename_i p m
      obtain ⟨k, P, m0, m1, q⟩ := h
      refine ⟨⟨_, rfl⟩, k + 40, P, by decide, by decide, fun n H1 n0 n1 P1 b1 => ⟨n, rfl, by omega, by omega, fun D1 nD => ?_⟩⟩
      refine lc_range (n := n.toNat) (fun i H' => ∃ ys : List Str, H' D1 = some (.lst (ys.map V.str)) ∧ ys.length = i ∧ (∀ y ∈ ys, y.length = 1 ∧ ∀ c ∈ y.cps.toList, isL c = true) ∧ PenB H' p (k + 10 + 5 * (6 - i)) ∧ But p H1 H') ⟨[], upd_same, rfl, (fun _ h => nomatch h), (P1.same (same_new nD)).mono (by omega), .of (same_new nD)⟩ ?turn ?rest
      case turn =>
        rintro i H2 hi ⟨ys, hD, hl, hy, P2, b2⟩
        refine ⟨rfl, ?_⟩
        refine ⟨k + 10 + 5 * (6 - (i + 1)), P2.mono (by omega), by decide +kernel, by decide +kernel, fun c H3 hc P3 b3 => ?_⟩
        have hD3 := b3.keep _ _ (P2.ne hD fun _ z => nomatch z) hD
        have hc : isL c = true := by rw [← isL_mem]; exact decide_eq_true hc
        refine ⟨_, hD3, by rw [List.length_map]; exact Nat.lt_of_le_of_lt (show ys.length ≤ 6 by omega) (by decide), ys ++ [⟨#[c]⟩], by rw [upd_same, List.map_append] <;> rfl, by simp [hl], fun y hy' => ?_, P3.lst hD3 (cel_ne P1 (b2.trans b3) nD), (b2.trans b3).lst P1 nD⟩
        rcases List.mem_append.mp hy' with z | z
        · exact hy y z
        · rw [List.mem_singleton.mp z]
          exact ⟨rfl, fun d hd => by rw [List.mem_singleton.mp (show d ∈ [c] from hd)]; exact hc⟩
      case rest =>
        rintro H2 ⟨ys, hD, hl, hy, P2, b2⟩
        have sum : (ys.map (·.length)).sum ≤ 6 := by
          have : (ys.map (·.length)).sum = ys.length := by
            clear hD hl
            induction ys with
            | nil => rfl
            | cons a r ih => rw [List.map_cons, List.sum_cons, List.length_cons, (hy a (by simp)).1, ih (fun y h => hy y (List.mem_cons_of_mem _ h))]; omega
          omega
        have e0 : ("" : Str).length = 0 := by decide +kernel
        refine ⟨_, D1, ys, rfl, rfl, .inl (SqL.of hD), by rw [e0]; omega, ?_⟩
        have hst : ∀ c ∈ (Txt.join "" ys).cps.toList, isL c = true := fun c hc => by
          rw [TL.join_eq] at hc
          have hc : c ∈ TL.tl (PySem.Str.join "" ys) := hc
          rw [TL.tl_join] at hc
          rcases joinL_mem hc with z | ⟨x, hx, z⟩
          · exact absurd z (by rw [show TL.tl ("" : Str) = [] by decide +kernel]; simp)
          · obtain ⟨y, hy2, rfl⟩ := List.mem_map.mp hx
            exact (hy y hy2).2 c z
        have hsl : (Txt.join "" ys).length ≤ 6 := by
          rw [TL.join_eq, TL.len_tl, TL.tl_join]
          refine Nat.le_trans joinL_len ?_
          rw [show TL.tl ("" : Str) = [] by decide +kernel, List.map_map]
          have : (List.map (List.length ∘ TL.tl) ys) = ys.map (·.length) := by
            apply List.map_congr_left
            intro y _
            exact (TL.len_tl y).symm
          rw [this]
          simp only [List.length_nil, Nat.mul_zero, Nat.add_zero]
          exact sum
        generalize Txt.join "" ys = stem at hst hsl
        refine ⟨k + 5, P2.mono (by omega), by decide, by decide, fun fr H3 f0 f1 P3 b3 => ⟨by show 12 ≤ sizeLine; decide, fun l2 nl2 => ⟨k, _, P3.same (same_new nl2), SqL.of upd_same, by show 0 < 12; decide, by show 12 ≤ 10 ^ 20; decide, fun x H4 hx P4 b4 => ?_⟩⟩⟩
        obtain ⟨st, rfl, s0, s1⟩ : ∃ st : Int, x = .int st ∧ 0 ≤ st ∧ st ≤ 25 := by
          simp only [List.mem_cons, List.not_mem_nil, or_false] at hx
          rcases hx with rfl | rfl | rfl | rfl | rfl | rfl | rfl | rfl | rfl | rfl | rfl | rfl <;> exact ⟨_, rfl, by decide, by decide⟩
        have bb := ((b1.trans b2).trans (b3.trans (But.of (same_new (o := .lst [V.int 1, .int 3, .int 5, .int 7, .int 9, .int 11, .int 15, .int 17, .int 19, .int 21, .int 23, .int 25]) nl2)))).trans b4
        refine ⟨_, _, rfl, ?_⟩
        refine ⟨by show 0 ≤ sizeLine; decide, fun l nl => ?_⟩
        have nlH := bb.none P nl
        have l26 : ("abcdefghijklmnopqrstuvwxyz" : Str).length = 26 := by decide +kernel
        refine ⟨26, rfl, by decide, by decide, for_range (n := 26) (fun i σ H' => ∃ e4 e8 e9, ∃ ws : List Str, σ = [some (.ref p), some (.int m), some (.str "abcdefghijklmnopqrstuvwxyz"), some (.str stem), e4, some (.int fr), some (.int st), some (.ref l), e8, e9] ∧ H' l = some (.lst (ws.map V.str)) ∧ ws.length ≤ i ∧ (∀ w ∈ ws, Wd w) ∧ PenB H' p k ∧ But p H H')
          ⟨_, _, _, [], rfl, upd_same, Nat.le_refl _, (fun _ h => nomatch h), P4.same (same_new nl), bb.lst P nlH⟩ ?turn2 ?rest2⟩
        case turn2 =>
          rintro i σ H5 hi ⟨e4, e8, e9, ws, rfl, hl, hn, hw, P5, b5⟩
          have sti : 0 ≤ st * (0 + (i : Int)) := Int.mul_nonneg s0 (by omega)
          obtain ⟨c, hc, ec⟩ := at_text (z := "abcdefghijklmnopqrstuvwxyz") (v := (fr + st * (0 + (i : Int))) % 26) (by omega) (by rw [l26]; omega)
          have hc : isL c = true := by rw [← isL_mem]; exact decide_eq_true hc
          refine ⟨few_of (by omega) (by omega) (by omega) (by omega), lt0, _, _, c, rfl, rfl, by decide +kernel, ec, ?_⟩
          have o1 : (⟨#[c]⟩ : Str).length = 1 := rfl
          have sz : stem.length ≤ sizeLine := Nat.le_trans hsl (by decide)
          have z7 : stem.length + (⟨#[c]⟩ : Str).length ≤ sizeLine := Nat.le_trans (show _ ≤ 7 by omega) (by decide)
          refine ⟨_, _, rfl, rfl, z7, _, _, rfl, rfl, by rw [Nat.add_comm]; exact z7, by show 2 ≤ sizeLine; decide, fun l3 nl3 => ?_⟩
          obtain ⟨v, hv, ev⟩ := atI_mem (xs := [V.str (stem ++ ⟨#[c]⟩), .str (⟨#[c]⟩ ++ stem)]) (x := (stem.length : Int) % 2) (by omega) (by show _ < ((2 : Nat) : Int); omega)
          refine ⟨stem, rfl, sz, lt0, _, v, SqL.of upd_same, ev, ?_⟩
          obtain ⟨nm, rfl, n1, n2, n3⟩ : ∃ nm : Str, v = .str nm ∧ (∀ d ∈ nm.cps.toList, isL d = true) ∧ 1 ≤ nm.length ∧ nm.length ≤ 8 := by
            have both : ∀ d, d ∈ TL.tl stem ∨ d ∈ TL.tl (⟨#[c]⟩ : Str) → isL d = true := fun d hd => by
              rcases hd with z | z
              · exact hst d z
              · rw [List.mem_singleton.mp (show d ∈ [c] from z)]; exact hc
            simp only [List.mem_cons, List.not_mem_nil, or_false] at hv
            rcases hv with rfl | rfl
            · refine ⟨_, rfl, fun d hd => ?_, by rw [app_len]; omega, by rw [app_len]; omega⟩
              have hd : d ∈ TL.tl (stem ++ ⟨#[c]⟩) := hd
              rw [TL.tl_append] at hd
              exact both d (List.mem_append.mp hd)
            · refine ⟨_, rfl, fun d hd => ?_, by rw [app_len]; omega, by rw [app_len]; omega⟩
              have hd : d ∈ TL.tl (⟨#[c]⟩ ++ stem) := hd
              rw [TL.tl_append] at hd
              exact both d (List.mem_append.mp hd).symm
          have b6 := b5.trans (But.of (same_new (o := .lst [V.str (stem ++ ⟨#[c]⟩), .str (⟨#[c]⟩ ++ stem)]) nl3))
          refine ⟨by show 3 ≤ sizeLine; decide, fun b nb => ⟨b, _, rfl, .inr (.inl (.inl upd_same)), rfl, rfl, ?_⟩⟩
          have b7 := b6.trans (But.of (same_new (o := .tup [V.str "min", .str "max", .str "self"]) nb))
          have P7 := (P5.same (same_new (o := .lst [V.str (stem ++ ⟨#[c]⟩), .str (⟨#[c]⟩ ++ stem)]) nl3)).same (same_new (o := .tup [V.str "min", .str "max", .str "self"]) nb)
          have hl7 := same_new (o := .tup [V.str "min", .str "max", .str "self"]) nb _ _ (same_new (o := .lst [V.str (stem ++ ⟨#[c]⟩), .str (⟨#[c]⟩ ++ stem)]) nl3 _ _ hl)
          show if (!inV (.str nm) [.str "min", .str "max", .str "self"]) = true then _ else _
          rw [inV_three]
          by_cases hp : nm = "min" ∨ nm = "max" ∨ nm = "self"
          · rw [decide_eq_true hp]
            show if false = true then _ else _
            rw [if_neg Bool.false_ne_true]
            exact ⟨_, _, _, ws, rfl, hl7, by omega, hw, P7, b7⟩
          · rw [decide_eq_false hp]
            show if true = true then _ else _
            rw [if_pos rfl]
            refine ⟨.inl ⟨rfl, _, SqL.of hl7⟩, l, _, _, rfl, rfl, hl7, by rw [List.length_map]; exact Nat.lt_of_le_of_lt (show ws.length ≤ 26 by omega) (by decide), ?_⟩
            refine ⟨_, _, _, ws ++ [nm], rfl, by rw [upd_same, List.map_append] <;> rfl, by simp; omega, fun w hw2 => ?_, P7.lst hl7 (cel_ne P b7 nlH), b7.lst P nlH⟩
            rcases List.mem_append.mp hw2 with z | z
            · exact hw w z
            · rw [List.mem_singleton.mp z]
              exact ⟨n1, n2, n3, fun z => hp (.inl z), fun z => hp (.inr (.inl z)), fun z => hp (.inr (.inr z))⟩
        case rest2 =>
          rintro σ H6 ⟨e4, e8, e9, ws, rfl, hl, hn, hw, P6, b6⟩
          refine ⟨m, rfl, l, ws.map V.str, rfl, SqL.of hl, fun l' nl' => ?_⟩
          refine q l' ((ws.drop (HT.sIx (ws.map V.str).length 0 none)).take (HT.sIx (ws.map V.str).length (ws.map V.str).length (some m) - HT.sIx (ws.map V.str).length 0 none)) _ ?_ (b6.none P nl') (fun w h => hw w (List.mem_of_mem_drop (List.mem_of_mem_take h))) ?_ (P6.same (same_new nl')) (b6.trans (.of (same_new nl')))
          · rw [upd_same, List.map_take, List.map_drop] <;> rfl
          · rw [List.length_take, List.length_drop]; omega
    · exact h.elim
end
end Rk

set_option Elab.async false
set_option linter.all false
set_option maxRecDepth 100000
set_option maxHeartbeats 4000000
set_option pp.maxSteps 200
namespace CL
open PySem PySem.Spec PyProof.Rows L2
/-- a test, what holds behind it said once -/
def tTest (t : TT) : TT := fun σ H Q => ∃ W : Bool → Hp → Prop, t σ H W ∧ ∀ b H1, W b H1 → Q b H1
theorem pt_cut {X : Cx} {e : Expr} {t : TT} (h : PT X e t) : PT X e (tTest t) := ⟨fun pins s σ H Q I ⟨W, q, w⟩ =>
  thn (h.run pins s σ H W I q) fun b s1 ⟨H1, I1, q1⟩ => ⟨H1, I1, w b H1 q1⟩⟩
end CL
namespace Rk
open PySem PySem.Spec PyProof.Rows L2 CL Fm
def tC : Nat → Nat
  | 0 => 0
  | n + 1 => 50 + (tC n + tC n)
/-- a drawn tree -/
def spTree (K : PySem.W.Frag) (n : Nat) : Sp := fun vs H Q _ => match vs with
  | [.ref p, .int d, .ref l] => ∃ k, ∃ ws : List Str, PenB H p (k + tC n) ∧ 0 ≤ d ∧ d < n ∧ SqL K H l (ws.map V.str) ∧ (∀ w ∈ ws, Wd w) ∧ ws.length ≤ 26 ∧ ∀ v t H', LTr H' v t → TOk ws t → (dep t : Int) ≤ d → PenB H' p k → But p H H' → Q v H'
  | _ => False
def stD (L : List Str) : List PyData := L.map fun b => .str b
theorem st_dp {K : PySem.W.Frag} {H : Hp} : ∀ L : List Str, DpAll K H (L.map V.str) (stD L)
  | [] => .nil
  | _ :: r => .cons (.str _) (st_dp r)
theorem st_sh {L : List Str} (h : ∀ w ∈ L, So w) : SeqAt.shaped (.list (stD L)) = true := by
  have a : PyData.canLayAll0 (stD L) = true ∧ PyData.depthAll (stD L) = 0 := by
    induction L with
    | nil => exact ⟨rfl, rfl⟩
    | cons w r ih =>
      obtain ⟨i1, i2⟩ := ih fun x hx => h x (List.mem_cons_of_mem _ hx)
      have hw := (h w (by simp)).ok
      unfold stD at i1 i2 ⊢
      refine ⟨?_, ?_⟩
      · rw [List.map_cons]
        simp only [PyData.canLayAll0, PyData.canLay0, hw, i1, Bool.and_self]
      · rw [List.map_cons]
        simp only [PyData.depthAll, PyData.depth, i2, Nat.max_self]
  simp only [SeqAt.shaped, PyData.canLay0, PyData.depth, a.1, a.2, Bool.true_and]
  decide
theorem st_nil {L : List Str} : PyData.eqv (.list (stD L)) (.list []) = decide (L = []) := by
  cases L with
  | nil => rfl
  | cons b r => rfl
abbrev sTree : Stmt := topS 21
abbrev nTree : List Str := ["_law_pen_here", "_law_deep", "_law_words", "_law_way", "_law_sign"]
abbrev pTree : List Str := ["_law_pen_here", "_law_deep", "_law_words"]
theorem scTree : FnScope nTree pTree (defScope sTree) := ⟨rfl, rfl, rfl, by decide +kernel, rfl, by decide +kernel, by decide +kernel⟩
section
variable {P : Program} {w : World} {K : PySem.W.Frag} {mg : Str → Option Value} {base : Heap}
theorem ok_tree (B : BltN mg) (D : ∀ base, DefOk P w K mg base CX0 5 "_law_draw" pDraw spDr) (DP : ∀ base, DefOk P w K mg base CX0 6 "_law_pick" pPick (spPick K)) (DG : ∀ base, DefOk P w K mg base CX0 7 "_law_great" pGreat spGreat) (F : FunAt K mg "_law_tree" sTree pTree) :
    ∀ n, DefOk P w K mg base CX0 (7 + n) "_law_tree" pTree (spTree K n) := by
  refine F.rec_ scTree (fun vs H Q E h => ?_) (fun n vs H Q E h => ?_) (fun n ih f cdv A outer s H vs Q E hr h => ?_)
  · unfold spTree at h
    split at h
    · obtain ⟨k, ws, _, h0, h1, _⟩ := h
      omega
    · exact h.elim
  · unfold spTree at h
    split at h
    · rfl
    · exact h.elim
  · have hu := hu_of hr
    refine ⟨_, (pss_cut (ps_set (i := 3) scTree.nd rfl (.inl rfl) (pe_ifExp (ct_cmp c_gt (cv 1) pe_int (nomark _)) (pe_def (D _) hr (by omega) (pa_cons (cv 0) (pa_cons pe_int pa_nil))) (pe_def (D _) hr (by omega) (pa_cons (cv 0) (pa_cons pe_int pa_nil)))))
  (pss_cons (ps_if (pt_cut (PW.pt (pw_or (ct_cmp c_lt (cv 3) pe_int (nomark _)) (pw_or1 (PW.pt (pw_and (ct_cmp c_lt (cv 3) pe_int (nomark _)) (pw_and1 (ct_cmp (op_eqD hr.units) (cv 2) (pe_lst pa_nil) (nomark _)))))))))
  (pss_one (ps_ret (pe_tup (pa_cons pe_str (pa_cons (pe_def (DP _) hr (by omega) (pa_cons (cv 0) (pa_cons (pe_lst (pa_cons (pe_def (D _) hr (by omega) (pa_cons (cv 0) (pa_cons pe_int pa_nil))) (pa_cons (pe_def (D _) hr (by omega) (pa_cons (cv 0) (pa_cons pe_int pa_nil))) (pa_cons (pe_callB c_abs (by rfl) B.abs (by decide +kernel) (pa_cons (pe_def (DG _) hr (by omega) (pa_cons (cv 0) (pa_cons (pe_op c_addI (pe_pow (z := 1000000000000000000000000000000) ⟨⟨by decide, by decide, by decide⟩, by decide +kernel⟩) pe_int) pa_nil))) pa_nil)) pa_nil)))) pa_nil))) pa_nil)))))
  pss_nil)
  (pss_cons (ps_if (ct_cmp c_lt (cv 3) pe_int (nomark _))
  (pss_one (ps_ret (pe_tup (pa_cons pe_str (pa_cons (pe_def (DP _) hr (by omega) (pa_cons (cv 0) (pa_cons (cv 2) pa_nil))) pa_nil)))))
  pss_nil)
  (pss_cons (ps_if (ct_cmp op_eq (cv 3) pe_int (nomark _))
  (pss_one (ps_ret (pe_tup (pa_cons pe_str (pa_cons (pe_def ih hr (by omega) (pa_cons (cv 0) (pa_cons (pe_op c_sub (cv 1) pe_int) (pa_cons (cv 2) pa_nil)))) pa_nil)))))
  pss_nil)
  (pss_cons (ps_set (i := 4) scTree.nd rfl (.inl rfl) (pe_ix c_ixL (pe_lst (pa_cons pe_str (pa_cons pe_str (pa_cons pe_str (pa_cons pe_str (pa_cons pe_str (pa_cons pe_str (pa_cons pe_str (pa_cons pe_str (pa_cons pe_str pa_nil)))))))))) (pe_op c_sub (cv 3) pe_int) (fun _ _ => rfl)))
  (pss_one (ps_ret (pe_tup (pa_cons (cv 4) (pa_cons (pe_def ih hr (by omega) (pa_cons (cv 0) (pa_cons (pe_op c_sub (cv 1) pe_int) (pa_cons (cv 2) pa_nil)))) (pa_cons (pe_def ih hr (by omega) (pa_cons (cv 0) (pa_cons (pe_op c_sub (cv 1) pe_int) (pa_cons (cv 2) pa_nil)))) pa_nil))))))))))), ?_⟩
    unfold spTree at h
    split at h
    · rename_i p d l
      obtain ⟨k, ws, P, d0, d1, hS, hw, hn, q⟩ := h
      have P : PenB H p (k + (tC n + tC n) + 45 + 5) := P.mono (by show _ ≤ k + (50 + (tC n + tC n)); omega)
      obtain ⟨kk, hkk⟩ : ∃ kk, kk = k + (tC n + tC n) := ⟨_, rfl⟩
      rw [← hkk] at P
      refine ⟨fun σ' H' => ∃ wy : Int, σ' = [some (.ref p), some (.int d), some (.ref l), some (.int wy), none] ∧ 0 ≤ wy ∧ wy < 14 ∧ (d = 0 → wy < 4) ∧ PenB H' p (kk + 45) ∧ But p H H', iteD (fun h1 => ?_) (fun h1 => ?_), ?_⟩
      · exact ⟨kk + 45, P, by decide, by decide, fun v H1 v0 v1 P1 b1 => ⟨v, rfl, v0, v1, fun z => absurd z (by omega), P1, b1⟩⟩
      · exact ⟨kk + 45, P, by decide, by decide, fun v H1 v0 v1 P1 b1 => ⟨v, rfl, v0, by omega, fun z => v1, P1, b1⟩⟩
      · rintro σ' H1 ⟨wy, rfl, w0, w1, wd, P1, b1⟩
        have S1 := b1.sq P hS
        refine ⟨fun b H' => (b = false → 2 ≤ wy ∧ (wy < 4 → ws ≠ [])) ∧ PenB H' p (kk + 45) ∧ But p H H', ?_, ?_⟩
        · refine iteD (fun h1 => ⟨fun z => absurd z (by decide), P1, b1⟩) (fun h1 => iteD (fun h2 => ?_) (fun h2 => ⟨fun _ => ⟨by omega, fun z => absurd z h2⟩, P1, b1⟩))
          refine ⟨by show 0 ≤ sizeLine; decide, fun a na => ⟨.list (stD ws), .list [], .lst ((But.of (same_new na)).sq P1 S1) (st_dp _), .lst (SqL.of upd_same) .nil, st_sh fun w h => .wd (hw w h), by rfl, ?_⟩⟩
          rw [st_nil]
          exact ⟨fun z => ⟨by omega, fun _ => of_decide_eq_false z⟩, P1.same (same_new na), b1.trans (.of (same_new na))⟩
        · rintro b H2 ⟨hb, P2, b2⟩
          have S2 := b2.sq P hS
          refine iteB (fun hb1 => ?_) (fun hb1 => ?_)
          · refine ⟨kk + 40, P2, by decide, by decide, fun a H3 a0 a1 P3 b3 => ⟨kk + 35, P3, by decide, by decide, fun c H4 c0 c1 P4 b4 => ⟨kk + 10, P4, by decide, by decide, fun g H5 g0 g1 P5 b5 => ?_⟩⟩⟩
            refine ⟨by show 3 ≤ sizeLine; decide, fun l2 nl2 => ⟨kk + 5, _, P5.same (same_new nl2), SqL.of upd_same, by show 0 < 3; decide, by show 3 ≤ _; decide, fun x H6 hx P6 b6 => ?_⟩⟩
            obtain ⟨m, rfl, m0, m1⟩ : ∃ m : Int, x = .int m ∧ 0 ≤ m ∧ m ≤ 10 ^ 30 + 2 := by
              simp only [List.mem_cons, List.not_mem_nil, or_false] at hx
              rcases hx with rfl | rfl | rfl
              · exact ⟨_, rfl, by omega, by omega⟩
              · exact ⟨_, rfl, by omega, by omega⟩
              · exact ⟨_, rfl, by omega, by omega⟩
            refine ⟨by show 2 ≤ sizeLine; decide, fun t nt => ?_⟩
            exact q _ (.num m) _ (.num upd_same) ⟨m0, m1⟩ (by show (0 : Int) ≤ d; omega) ((P6.same (same_new nt)).mono (by omega)) (((((b2.trans b3).trans b4).trans b5).trans ((But.of (same_new nl2)).trans b6)).trans (.of (same_new nt)))
          · obtain ⟨w2, wn⟩ := hb hb1
            refine iteD (fun h4 => ?_) (fun h4 => ?_)
            · have ne := wn h4
              refine ⟨kk + 40, _, P2, S2, by rw [List.length_map]; exact List.length_pos_iff.mpr ne, by rw [List.length_map]; exact Nat.le_trans hn (by decide), fun x H3 hx P3 b3 => ?_⟩
              obtain ⟨nm, hnm, rfl⟩ := List.mem_map.mp hx
              refine ⟨by show 2 ≤ sizeLine; decide, fun t nt => ?_⟩
              exact q _ (.nam nm) _ (.nam upd_same) hnm (by show (0 : Int) ≤ d; omega) ((P3.same (same_new nt)).mono (by omega)) ((b2.trans b3).trans (.of (same_new nt)))
            · have dn : d ≠ 0 := fun z => h4 (wd z)
              refine ⟨rfl, iteD (fun h5 => ?_) (fun h5 => ?_)⟩
              · refine ⟨k, ws, P2.mono (by omega), by omega, by omega, S2, hw, hn, fun v t H3 lt tk td P3 b3 => ⟨by show 2 ≤ sizeLine; decide, fun a na => ?_⟩⟩
                exact q _ (.neg t) _ (.neg upd_same (lt.same (same_new na))) tk (by show (((dep t + 1 : Nat)) : Int) ≤ d; omega) (P3.same (same_new na)) ((b2.trans b3).trans (.of (same_new na)))
              · have h5 : wy ≠ 4 := fun z => h5 (by rw [z])
                refine ⟨by show 9 ≤ sizeLine; decide, fun l2 nl2 => ?_⟩
                obtain ⟨v, hv, ev⟩ := atI_mem (xs := [V.str "+", .str "+", .str "-", .str "-", .str "*", .str "*", .str "//", .str "min", .str "max"]) (x := wy - 5) (by omega) (by show _ < ((9 : Nat) : Int); omega)
                refine ⟨_, v, SqL.of upd_same, ev, ?_⟩
                obtain ⟨o, rfl, ho⟩ : ∃ o, v = .str o ∧ o ∈ ops := by
                  simp only [List.mem_cons, List.not_mem_nil, or_false] at hv
                  rcases hv with rfl | rfl | rfl | rfl | rfl | rfl | rfl | rfl | rfl <;> exact ⟨_, rfl, by simp [ops]⟩
                have b3 := b2.trans (But.of (same_new (o := .lst [V.str "+", .str "+", .str "-", .str "-", .str "*", .str "*", .str "//", .str "min", .str "max"]) nl2))
                have P3 := P2.same (same_new (o := .lst [V.str "+", .str "+", .str "-", .str "-", .str "*", .str "*", .str "//", .str "min", .str "max"]) nl2)
                refine ⟨k + tC n, ws, P3.mono (by omega), by omega, by omega, b3.sq P hS, hw, hn, fun v t H4 lt tk td P4 b4 => ?_⟩
                refine ⟨k, ws, P4, by omega, by omega, (b3.trans b4).sq P hS, hw, hn, fun v' t' H5 lt' tk' td' P5 b5 => ⟨by show 3 ≤ sizeLine; decide, fun a na => ?_⟩⟩
                exact q _ (.op o t t') _ (.op upd_same ((lt.but P4 b5).same (same_new na)) (lt'.same (same_new na))) ⟨ho, tk, tk'⟩ (by show (((max (dep t) (dep t') + 1 : Nat)) : Int) ≤ d; omega) (P5.same (same_new na)) (((b3.trans b4).trans b5).trans (.of (same_new na)))
    · exact h.elim
end
end Rk

set_option Elab.async false
set_option linter.all false
set_option maxRecDepth 100000
set_option maxHeartbeats 4000000
set_option pp.maxSteps 200
namespace Rk
open PySem PySem.Spec PyProof.Rows L2 CL Fm
def cStr : List V → Hp → VK → Prop := fun xs H Q => match xs with
  | [.int i] => i.natAbs.log2 < 1920 ∧ Q (.str (toString i : String)) H
  | [.str a] => Q (.str a) H
  | _ => False
theorem c_str {X : Cx} : CallR X (.type "str") cStr := fun pins s σ H xs us Q I r q => by
  unfold cStr at q
  split at q
  · exact call_str_int pins s σ H _ us Q I r ⟨_, rfl, q.1, q.2⟩
  · exact SkE.call_str_str pins s σ H _ us Q I r ⟨_, rfl, q⟩
  · exact q.elim
theorem cInt_bl {k : Bool} {n : Int} {H : Hp} {Q : VK} (e : (if k = true then (1 : Int) else 0) = n) (q : Q (.int n) H) : cInt1 [.bl k] H Q := by
  show Q (.int (if k = true then 1 else 0)) H
  rw [e]
  exact q
def xC : Nat → Nat
  | 0 => 0
  | n + 1 => 80 + (xC n + xC n)
/-- a text of a tree -/
def spText (K : PySem.W.Frag) (n : Nat) : Sp := fun vs H Q _ => match vs with
  | [.ref p, v, .int lv, .int m] => ∃ k t, ∃ ws : List Str, PenB H p (k + xC n) ∧ LTr H v t ∧ dep t < n ∧ dep t ≤ 10 ∧ TOk ws t ∧ (∀ w ∈ ws, Wd w) ∧ 0 ≤ lv ∧ lv ≤ 2 ∧ 1 ≤ m ∧ m ≤ 3 ∧
      ∀ s (l : Nat) H', Tex t l s → lv ≤ (l : Int) → s.length ≤ xB (dep t) → PenB H' p k → But p H H' → Q (.str s) H'
  | _ => False
theorem ops_tests {o : Str} (h : o ∈ ops) : inV (.str o) [.str "number", .str "name"] = false ∧ (¬ V.str o = V.str "minus") ∧ inV (.str o) [.str "min", .str "max"] = decide (o = "min" ∨ o = "max") ∧ inV (.str o) [.str "*", .str "//"] = decide (o = "*" ∨ o = "//") ∧ o.length ≤ 3 := by
  simp only [ops, List.mem_cons, List.not_mem_nil, or_false] at h
  rcases h with rfl | rfl | rfl | rfl | rfl | rfl <;> decide +kernel
theorem ops_way {o : Str} (h : o ∈ ops) (n1 : ¬ (o = "min" ∨ o = "max")) (n2 : ¬ (o = "*" ∨ o = "//")) : o = "+" ∨ o = "-" := by
  simp only [ops, List.mem_cons, List.not_mem_nil, or_false] at h
  rcases h with h | h | h | h | h | h
  · exact .inl h
  · exact .inr h
  · exact absurd (.inl h) n2
  · exact absurd (.inr h) n2
  · exact absurd (.inl h) n1
  · exact absurd (.inr h) n1
/-- a part of a pair -/
def Pt (t : T) (y : Str) : Prop := ∃ g s g' l, y = gapS g ++ s ++ gapS g' ∧ Tex t l s ∧ y.length ≤ xB (dep t) + 4
def Pts (a b : T) (i : Nat) (ys : List Str) : Prop := (i = 0 ∧ ys = []) ∨ (∃ y, i = 1 ∧ ys = [y] ∧ Pt a y) ∨ (∃ y z, i = 2 ∧ ys = [y, z] ∧ Pt a y ∧ Pt b z)
structure BltT (mg : Str → Option Value) : Prop extends BltN mg where
  str : mg "str" = none
abbrev sTextOf : Stmt := topS 23
abbrev nTextOf : List Str := ["_law_pen_here", "_law_tree_here", "_law_level", "_law_many", "_law_text", "_law_own", "_law_parts", "_law_part", "_law_sign"]
abbrev pTextOf : List Str := ["_law_pen_here", "_law_tree_here", "_law_level", "_law_many"]
theorem scTextOf : FnScope nTextOf pTextOf (defScope sTextOf) := ⟨rfl, rfl, rfl, by decide +kernel, rfl, by decide +kernel, by decide +kernel⟩
section
variable {P : Program} {w : World} {K : PySem.W.Frag} {mg : Str → Option Value} {base : Heap}
theorem ok_text (B : BltT mg) (D : ∀ base, DefOk P w K mg base CX0 5 "_law_draw" pDraw spDr) (DGap : ∀ base, DefOk P w K mg base CX0 7 "_law_gap" pGap spGap) (F : FunAt K mg "_law_text_of" sTextOf pTextOf) :
    ∀ n, DefOk P w K mg base CX0 (7 + n) "_law_text_of" pTextOf (spText K n) := by
  refine F.rec_ scTextOf (fun vs H Q E h => ?_) (fun n vs H Q E h => ?_) (fun n ih f cdv A outer s H vs Q E hr h => ?_)
  · unfold spText at h
    split at h
    · obtain ⟨k, t, ws, _, _, h1, _⟩ := h
      omega
    · exact h.elim
  · unfold spText at h
    split at h
    · rfl
    · exact h.elim
  · have hu := hu_of hr
    refine ⟨_, (pss_cut (ps_if (ct_cmp op_in_seq (pe_ix ix_tup (cv 1) pe_int (fun _ _ => rfl)) (pe_tup (pa_cons pe_str (pa_cons pe_str pa_nil))) (by rfl))
  (pss_one (ps_par (i := 4) (j := 5) rfl scTextOf.nd rfl rfl (by decide) rfl rfl (pa_cons (pe_callTy c_str (by rfl) B.str (by decide +kernel) (pa_cons (pe_ix ix_tup (cv 1) pe_int (fun _ _ => rfl)) pa_nil)) (pa_cons pe_int pa_nil)) (by rfl)))
  (pss_one (ps_if (ct_cmp op_eq (pe_ix ix_tup (cv 1) pe_int (fun _ _ => rfl)) pe_str (nomark _))
  (pss_one (ps_par (i := 4) (j := 5) rfl scTextOf.nd rfl rfl (by decide) rfl rfl (pa_cons (pe_op op_add_str (pe_op op_add_str pe_str (pe_def (DGap _) hr (by omega) (pa_cons (cv 0) (pa_cons (cv 3) pa_nil)))) (pe_def ih hr (by omega) (pa_cons (cv 0) (pa_cons (pe_ix ix_tup (cv 1) pe_int (fun _ _ => rfl)) (pa_cons pe_int (pa_cons (cv 3) pa_nil)))))) (pa_cons pe_int pa_nil)) (by rfl)))
  (pss_one (ps_if (ct_cmp op_in_seq (pe_ix ix_tup (cv 1) pe_int (fun _ _ => rfl)) (pe_tup (pa_cons pe_str (pa_cons pe_str pa_nil))) (by rfl))
  (pss_cons (ps_setLc (i := 6) (own := [("_law_part", 7)]) (g := gName 7) (by rfl) scTextOf.nd rfl rfl (sw_true rfl rfl rfl (by decide +kernel)) (pi_tup (pe_slice sl_tup (cv 1) (po_some pe_int) po_none)) (blkOk_by (N := nTextOf) (sc := (defScope sTextOf)) (own := [("_law_part", 7)]) (by decide +kernel)) (fun _ _ _ _ _ => pg_name (i := 7) scTextOf.nd rfl (Or.inl rfl)) (fun _ _ _ _ _ => pts_nil) (fun _ _ _ _ _ => (pe_op op_add_str (pe_op op_add_str (pe_def (DGap _) hr (by omega) (pa_cons (cv 0) (pa_cons (cv 3) pa_nil))) (pe_def ih hr (by omega) (pa_cons (cv 0) (pa_cons (cv 7) (pa_cons pe_int (pa_cons (cv 3) pa_nil)))))) (pe_def (DGap _) hr (by omega) (pa_cons (cv 0) (pa_cons (cv 3) pa_nil))))))
  (pss_one (ps_par (i := 4) (j := 5) rfl scTextOf.nd rfl rfl (by decide) rfl rfl (pa_cons (pe_op op_add_str (pe_op op_add_str (pe_op op_add_str (pe_op op_add_str (pe_ix ix_tup (cv 1) pe_int (fun _ _ => rfl)) (pe_def (DGap _) hr (by omega) (pa_cons (cv 0) (pa_cons (cv 3) pa_nil)))) pe_str) (pe_join pe_str (cv 6))) pe_str) (pa_cons pe_int pa_nil)) (by rfl))))
  (pss_cons (ps_set (i := 5) scTextOf.nd rfl (.inl rfl) (PE_up (pe_callTy c_int (by rfl) B.int (by decide +kernel) (pa_cons (pe_cmpR op_in_seq (pe_ix ix_tup (cv 1) pe_int (fun _ _ => rfl)) (pe_tup (pa_cons pe_str (pa_cons pe_str pa_nil))) (by rfl)) pa_nil))))
  (pss_cons (ps_set (i := 8) scTextOf.nd rfl (.inl rfl) (pe_op op_add_str (pe_op op_add_str (pe_def (DGap _) hr (by omega) (pa_cons (cv 0) (pa_cons (cv 3) pa_nil))) (pe_ix ix_tup (cv 1) pe_int (fun _ _ => rfl))) (pe_def (DGap _) hr (by omega) (pa_cons (cv 0) (pa_cons (cv 3) pa_nil)))))
  (pss_one (ps_set (i := 4) scTextOf.nd rfl (.inl rfl) (pe_op op_add_str (pe_op op_add_str (pe_def ih hr (by omega) (pa_cons (cv 0) (pa_cons (pe_ix ix_tup (cv 1) pe_int (fun _ _ => rfl)) (pa_cons (cv 5) (pa_cons (cv 3) pa_nil))))) (cv 8)) (pe_def ih hr (by omega) (pa_cons (cv 0) (pa_cons (pe_ix ix_tup (cv 1) pe_int (fun _ _ => rfl)) (pa_cons (pe_op c_addI (cv 5) pe_int) (pa_cons (cv 3) pa_nil)))))))))))))))
  (pss_cons (ps_if (pt_cut (PW.pt (pw_or (ct_cmp c_lt (cv 5) (cv 2) (nomark _)) (pw_or1 (ct_cmp op_eq (pe_def (D _) hr (by omega) (pa_cons (cv 0) (pa_cons pe_int pa_nil))) pe_int (nomark _))))))
  (pss_one (ps_ret (pe_op op_add_str (pe_op op_add_str (pe_op op_add_str (pe_op op_add_str pe_str (pe_def (DGap _) hr (by omega) (pa_cons (cv 0) (pa_cons (cv 3) pa_nil)))) (cv 4)) (pe_def (DGap _) hr (by omega) (pa_cons (cv 0) (pa_cons (cv 3) pa_nil)))) pe_str)))
  pss_nil)
  (pss_one (ps_ret (cv 4))))), ?_⟩
    unfold spText at h
    split at h
    · rename_i p v lv m
      obtain ⟨k, t, ws, P, lt, hd, hd10, tk, hw, l0, l2, m0, m1, q⟩ := h
      have P : PenB H p (k + (xC n + xC n) + 80) := P.mono (by show _ ≤ k + (80 + (xC n + xC n)); omega)
      have hX : xB (dep t) ≤ 100000 := Nat.le_trans (xB_mono hd10) (by decide)
      have hY : ∀ a, a ≤ 200000 → a ≤ sizeLine := fun a h => Nat.le_trans h (by decide)
      have u1 : ("(" : Str).length = 1 := by decide +kernel
      have u2 : (")" : Str).length = 1 := by decide +kernel
      have u3 : ("-" : Str).length = 1 := by decide +kernel
      have u4 : ("," : Str).length = 1 := by decide +kernel
      refine ⟨fun σ' H' => ∃ s, ∃ l : Nat, ∃ e6 e7 e8, σ' = [some (.ref p), some v, some (.int lv), some (.int m), some (.str s), some (.int (l : Int)), e6, e7, e8] ∧ Tex t l s ∧ s.length + 6 ≤ xB (dep t) ∧ PenB H' p (k + 25) ∧ But p H H', ?first, ?second⟩
      case second =>
        rintro σ' H1 ⟨s, l, e6, e7, e8, rfl, tx, hs, P1, b1⟩
        refine ⟨fun b H' => (b = false → lv ≤ (l : Int)) ∧ PenB H' p (k + 20) ∧ But p H H', ?_, ?_⟩
        · refine iteD (fun h1 => ⟨fun z => absurd z (by decide), P1.mono (by omega), b1⟩) (fun h1 => ⟨k + 20, P1, by decide, by decide, fun v H2 v0 v1 P2 b2 => ⟨rfl, fun _ => by omega, P2, b1.trans b2⟩⟩)
        · rintro b H2 ⟨hb, P2, b2⟩
          refine iteB (fun hb1 => ?_) (fun hb1 => q s l H2 tx (hb hb1) (by omega) (P2.mono (by omega)) b2)
          refine ⟨k + 10, P2, m0, m1, fun g1 H3 hg1 P3 b3 => ⟨_, _, rfl, rfl, hY _ (by rw [u1, gap_len]; omega), _, _, rfl, rfl, hY _ (by rw [app_len, u1, gap_len]; omega), ?_⟩⟩
          refine ⟨k, P3, m0, m1, fun g2 H4 hg2 P4 b4 => ⟨_, _, rfl, rfl, hY _ (by rw [app_len, app_len, u1, gap_len, gap_len]; omega), _, _, rfl, rfl, hY _ (by rw [app_len, app_len, app_len, u1, u2, gap_len, gap_len]; omega), ?_⟩⟩
          exact q _ 2 H4 (.br tx) (by omega) (by rw [app_len, app_len, app_len, app_len, u1, u2, gap_len, gap_len]; omega) P4 ((b2.trans b3).trans b4)
      case first =>
        cases lt with
        | @num a n0 e =>
          refine ⟨a, _, 0, .str "number", rfl, rfl, SqT.of e, rfl, by show 2 ≤ sizeLine; decide, fun b nb => ⟨b, _, rfl, .inr (.inl (.inl upd_same)), rfl, rfl, ?_⟩⟩
          show if inV (.str "number") [.str "number", .str "name"] = true then _ else _
          rw [if_pos (by decide +kernel)]
          refine ⟨a, _, 1, .int n0, rfl, rfl, SqT.of (same_new nb _ _ e), rfl, natAbs_log (by have := tk.1; have := tk.2; omega), _, _, rfl, ?_⟩
          refine ⟨_, 2, _, _, _, rfl, .num, ?_, (P.same (same_new nb)).mono (by omega), .of (same_new nb)⟩
          have := num_len tk.1 tk.2
          show _ ≤ 40
          omega
        | @nam a w0 e =>
          refine ⟨a, _, 0, .str "name", rfl, rfl, SqT.of e, rfl, by show 2 ≤ sizeLine; decide, fun b nb => ⟨b, _, rfl, .inr (.inl (.inl upd_same)), rfl, rfl, ?_⟩⟩
          show if inV (.str "name") [.str "number", .str "name"] = true then _ else _
          rw [if_pos (by decide +kernel)]
          refine ⟨a, _, 1, .str w0, rfl, rfl, SqT.of (same_new nb _ _ e), rfl, _, _, rfl, ?_⟩
          refine ⟨_, 2, _, _, _, rfl, .nam, ?_, (P.same (same_new nb)).mono (by omega), .of (same_new nb)⟩
          have := (hw _ tk).few
          show _ ≤ 40
          omega
        | @neg a v' t' e lt' =>
          refine ⟨a, _, 0, .str "minus", rfl, rfl, SqT.of e, rfl, by show 2 ≤ sizeLine; decide, fun b nb => ⟨b, _, rfl, .inr (.inl (.inl upd_same)), rfl, rfl, ?_⟩⟩
          show if inV (.str "minus") [.str "number", .str "name"] = true then _ else _
          rw [if_neg (by decide +kernel)]
          have e1 := same_new (o := .tup [V.str "number", .str "name"]) nb _ _ e
          refine ⟨a, _, 0, .str "minus", rfl, rfl, SqT.of e1, rfl, rfl, ?_⟩
          show if decide (V.str "minus" = V.str "minus") = true then _ else _
          rw [if_pos (decide_eq_true rfl)]
          have hdt : dep t' < n := by have : dep t' + 1 < n + 1 := hd; omega
          have hdt10 : dep t' + 1 ≤ 10 := hd10
          have hXt : xB (dep t') + xB (dep t') + 40 ≤ 100000 := hX
          refine ⟨k + (xC n + xC n) + 70, P.same (same_new nb), m0, m1, fun g H2 hg P2 b2 => ⟨_, _, rfl, rfl, hY _ (by rw [u3, gap_len]; omega), ?_⟩⟩
          have bb := (But.of (same_new (o := .tup [V.str "number", .str "name"]) nb)).trans b2
          refine ⟨a, _, 1, v', rfl, rfl, SqT.of (bb.keep _ _ (P.ne e fun _ z => nomatch z) e), rfl, ?_⟩
          refine ⟨k + 25, t', ws, P2.mono (by omega), lt'.but P bb, hdt, by omega, tk, hw, by decide, by decide, m0, m1, fun s l H3 tx hl hs P3 b3 => ⟨_, _, rfl, rfl, hY _ (by rw [app_len, u3, gap_len]; omega), _, _, rfl, ?_⟩⟩
          refine ⟨_, 2, _, _, _, rfl, .neg tx (by omega), ?_, P3, bb.trans b3⟩
          rw [app_len, app_len, u3, gap_len]
          show _ ≤ xB (dep t') + xB (dep t') + 40
          omega
        | @op a o v1 v2 t1 t2 e lt1 lt2 =>
          obtain ⟨x1, x2, x3, x4, ol⟩ := ops_tests tk.1
          have hd1 : dep t1 < n := by have : max (dep t1) (dep t2) + 1 < n + 1 := hd; omega
          have hd2 : dep t2 < n := by have : max (dep t1) (dep t2) + 1 < n + 1 := hd; omega
          have hdm : max (dep t1) (dep t2) + 1 ≤ 10 := hd10
          have xm1 := xB_mono (show dep t1 ≤ max (dep t1) (dep t2) by omega)
          have xm2 := xB_mono (show dep t2 ≤ max (dep t1) (dep t2) by omega)
          have hXt : xB (max (dep t1) (dep t2)) + xB (max (dep t1) (dep t2)) + 40 ≤ 100000 := hX
          refine ⟨a, _, 0, .str o, rfl, rfl, SqT.of e, rfl, by show 2 ≤ sizeLine; decide, fun b nb => ⟨b, _, rfl, .inr (.inl (.inl upd_same)), rfl, rfl, ?_⟩⟩
          show if inV (.str o) [.str "number", .str "name"] = true then _ else _
          rw [if_neg (by rw [x1]; exact Bool.false_ne_true)]
          have sb := same_new (o := .tup [V.str "number", .str "name"]) nb
          refine ⟨a, _, 0, .str o, rfl, rfl, SqT.of (sb _ _ e), rfl, rfl, ?_⟩
          show if decide (V.str o = V.str "minus") = true then _ else _
          rw [if_neg (fun z => x2 (of_decide_eq_true z))]
          refine ⟨a, _, 0, .str o, rfl, rfl, SqT.of (sb _ _ e), rfl, by show 2 ≤ sizeLine; decide, fun c nc => ⟨c, _, rfl, .inr (.inl (.inl upd_same)), rfl, rfl, ?_⟩⟩
          show if inV (.str o) [.str "min", .str "max"] = true then _ else _
          rw [x3]
          have sc := sb.trans (same_new (o := .tup [V.str "min", .str "max"]) nc)
          generalize upd (upd H b (.tup [V.str "number", .str "name"])) c (.tup [V.str "min", .str "max"]) = H1 at sc
          by_cases hp : o = "min" ∨ o = "max"
          · rw [if_pos (decide_eq_true hp)]
            have e1 := sc _ _ e
            have P1 := P.same sc
            refine ⟨1, rfl, a, _, rfl, SqT.of e1, by show ¬(HT.sIx 3 0 (some 1) = 0 ∧ HT.sIx 3 3 none = 3); decide, fun tp ntp => ⟨tp, rfl, ⟨_, SqT.of upd_same⟩, fun D1 nD => ?_⟩⟩
            have st := same_new (o := .tup (cutV [V.str o, v1, v2] (some 1) none)) ntp
            have htp : upd H1 tp (.tup (cutV [V.str o, v1, v2] (some 1) none)) tp = some (.tup [v1, v2]) := upd_same
            generalize upd H1 tp (.tup (cutV [V.str o, v1, v2] (some 1) none)) = H2 at st htp nD
            have S2 := sc.trans st
            have P2 := P1.same st
            refine lc_tup (a := tp) (xs := [v1, v2]) (fun i H' => ∃ ys : List Str, H' D1 = some (.lst (ys.map V.str)) ∧ Pts t1 t2 i ys ∧ PenB H' p (k + 35 + (2 - i) * (xC n + 20)) ∧ But p H2 H') ⟨[], upd_same, .inl ⟨rfl, rfl⟩, (P2.same (same_new nD)).mono (by show _ ≤ k + (xC n + xC n) + 80; omega), .of (same_new nD)⟩
              (fun i H' hi ⟨ys, g1, g2, g3, g4⟩ => SqT.of (g4.keep _ _ (P2.ne htp fun _ z => nomatch z) htp)) ?turn ?rest
            case turn =>
              rintro i x H3 hx ⟨ys, g1, g2, P3, b3⟩
              have hi : i < 2 := by
                have := (List.getElem?_eq_some_iff.mp hx).1
                exact this
              refine ⟨rfl, ?_⟩
              obtain ⟨kk, hkk⟩ : ∃ kk, kk = k + 35 + (2 - (i + 1)) * (xC n + 20) := ⟨_, rfl⟩
              rw [← hkk]
              have P3 : PenB H3 p (kk + (xC n + 20)) := P3.mono (by
                have : (2 - i) = (2 - (i + 1)) + 1 := by omega
                rw [hkk, this, Nat.succ_mul]
                omega)
              obtain ⟨tt, ltt, dtt, dt10, tkt, xtt, fin⟩ : ∃ tt, LTr H2 x tt ∧ dep tt < n ∧ dep tt ≤ 9 ∧ TOk ws tt ∧ xB (dep tt) ≤ xB (max (dep t1) (dep t2)) ∧ ∀ y, Pt tt y → Pts t1 t2 (i + 1) (ys ++ [y]) := by
                have : i = 0 ∨ i = 1 := by omega
                rcases this with rfl | rfl
                · have : x = v1 := (Option.some.inj hx).symm
                  subst this
                  refine ⟨t1, lt1.same S2, hd1, by omega, tk.2.1, xm1, fun y hy => ?_⟩
                  rcases g2 with ⟨_, rfl⟩ | ⟨y, z, _⟩ | ⟨y, z, w, _⟩
                  · exact .inr (.inl ⟨y, rfl, rfl, hy⟩)
                  · cases z
                  · cases w
                · have : x = v2 := (Option.some.inj hx).symm
                  subst this
                  refine ⟨t2, lt2.same S2, hd2, by omega, tk.2.2, xm2, fun z hz => ?_⟩
                  rcases g2 with ⟨w, _⟩ | ⟨y, _, rfl, hy⟩ | ⟨y, z, w, _⟩
                  · cases w
                  · exact .inr (.inr ⟨y, z, rfl, rfl, hy, hz⟩)
                  · cases w
              refine ⟨kk + xC n + 10, P3.mono (by omega), m0, m1, fun ga H4 ha P4 b4 => ?_⟩
              refine ⟨kk + 10, tt, ws, P4.mono (by omega), ltt.but P2 (b3.trans b4), dtt, by omega, tkt, hw, by decide, by decide, m0, m1, fun s l H5 tx hl hs P5 b5 => ⟨_, _, rfl, rfl, hY _ (by rw [gap_len]; omega), ?_⟩⟩
              refine ⟨kk, P5, m0, m1, fun gb H6 hb P6 b6 => ⟨_, _, rfl, rfl, hY _ (by rw [app_len, gap_len, gap_len]; omega), ?_⟩⟩
              have b36 := b3.trans ((b4.trans b5).trans b6)
              have g16 := ((b4.trans b5).trans b6).keep _ _ (P3.ne g1 fun _ z => nomatch z) g1
              refine ⟨_, g16, ?_, ys ++ [gapS ga ++ s ++ gapS gb], by rw [upd_same, List.map_append] <;> rfl, fin _ ⟨ga, s, gb, l, rfl, tx, by rw [app_len, app_len, gap_len, gap_len]; omega⟩, P6.lst g16 (cel_ne P2 b36 nD), b36.lst P2 nD⟩
              rw [List.length_map]
              refine Nat.lt_of_le_of_lt (show ys.length ≤ 2 from ?_) (by decide)
              rcases g2 with ⟨_, rfl⟩ | ⟨y, _, rfl, _⟩ | ⟨y, z, _, rfl, _⟩ <;> simp
            case rest =>
              rintro H3 ⟨ys, g1, g2, P3, b3⟩
              obtain ⟨y1, y2, rfl, ⟨ga, sa, gb, la, rfl, ta, hla⟩, ⟨gc, sc', gd, lb, rfl, tb, hlb⟩⟩ : ∃ y z, ys = [y, z] ∧ Pt t1 y ∧ Pt t2 z := by
                rcases g2 with ⟨w, _⟩ | ⟨y, w, _⟩ | ⟨y, z, _, e, r⟩
                · cases w
                · cases w
                · exact ⟨y, z, e, r⟩
              have S3 := S2
              have e3 := (st.trans (Same.refl _)) _ _ e1
              have e3 := b3.keep _ _ (P2.ne e3 fun _ z => nomatch z) e3
              refine ⟨a, _, 0, .str o, rfl, rfl, SqT.of e3, rfl, ?_⟩
              refine ⟨k + 25, P3.mono (by omega), m0, m1, fun g0 H4 hg P4 b4 => ⟨_, _, rfl, rfl, hY _ (by rw [gap_len]; omega), _, _, rfl, rfl, hY _ (by rw [app_len, gap_len, u1]; omega), ⟨_, rfl⟩, ?_⟩⟩
              have g14 := b4.keep _ _ (P3.ne g1 fun _ z => nomatch z) g1
              have jl : Txt.join "," [gapS ga ++ sa ++ gapS gb, gapS gc ++ sc' ++ gapS gd] = gapS ga ++ sa ++ gapS gb ++ "," ++ (gapS gc ++ sc' ++ gapS gd) := by rw [TL.join_eq] <;> rfl
              refine ⟨_, D1, [gapS ga ++ sa ++ gapS gb, gapS gc ++ sc' ++ gapS gd], rfl, rfl, .inl (SqL.of g14), ?_, ?_⟩
              · simp only [List.map_cons, List.map_nil, List.sum_cons, List.sum_nil, List.length_cons, List.length_nil]
                rw [u4]
                omega
              · rw [jl]
                have jn : (gapS ga ++ sa ++ gapS gb ++ "," ++ (gapS gc ++ sc' ++ gapS gd)).length ≤ xB (dep t1) + xB (dep t2) + 9 := by
                  rw [app_len, app_len, u4]
                  omega
                refine ⟨_, _, rfl, rfl, hY _ (by rw [app_len, app_len, gap_len, u1]; omega), _, _, rfl, rfl, hY _ (by rw [app_len, app_len, app_len, gap_len, u1, u2]; omega), _, _, rfl, ?_⟩
                refine ⟨_, 2, _, _, _, rfl, .pair hp ta tb, ?_, P4, (((But.of S2).trans b3).trans b4)⟩
                rw [app_len, app_len, app_len, app_len, gap_len, u1, u2]
                show _ ≤ xB (max (dep t1) (dep t2)) + xB (max (dep t1) (dep t2)) + 40
                omega
          · rw [if_neg (fun z => hp (of_decide_eq_true z))]
            have e1 := sc _ _ e
            have P1 := P.same sc
            obtain ⟨ow, how, how1, fin⟩ : ∃ ow : Nat, (if inV (.str o) [.str "*", .str "//"] = true then (1 : Int) else 0) = (ow : Int) ∧ ow ≤ 1 ∧ ∀ la lb g0 g1 sa sb, Tex t1 la sa → ow ≤ la → Tex t2 lb sb → ow + 1 ≤ lb → Tex (.op o t1 t2) ow (sa ++ (gapS g0 ++ o ++ gapS g1) ++ sb) := by
              rw [x4]
              by_cases ht : o = "*" ∨ o = "//"
              · refine ⟨1, by rw [if_pos (decide_eq_true ht)] <;> rfl, Nat.le_refl _, fun la lb g0 g1 sa sb h1 h2 h3 h4 => .term ht h1 h2 h3 h4⟩
              · refine ⟨0, by rw [if_neg (fun z => ht (of_decide_eq_true z))] <;> rfl, by omega, fun la lb g0 g1 sa sb h1 h2 h3 h4 => .sum (ops_way tk.1 hp ht) h1 h3 h4⟩
            refine ⟨fun x H' => x = .int (ow : Int) ∧ Same H H', ⟨a, _, 0, .str o, rfl, rfl, SqT.of e1, rfl, by show 2 ≤ sizeLine; decide, fun d nd => ⟨d, _, rfl, .inr (.inl (.inl upd_same)), rfl, rfl, congrArg V.int how, sc.trans (same_new nd)⟩⟩, ?_⟩
            rintro _ H2 ⟨rfl, sd⟩
            have P2 := P.same sd
            have e2 := sd _ _ e
            have sz3 : ∀ g0 g1, g0 ≤ 2 → g1 ≤ 2 → (gapS g0 ++ o ++ gapS g1).length ≤ 7 := fun g0 g1 h0 h1 => by rw [app_len, app_len, gap_len, gap_len]; omega
            refine ⟨k + (xC n + xC n) + 45, P2.mono (by omega), m0, m1, fun g0 H3 hg0 P3 b3 => ?_⟩
            have e3 := b3.keep _ _ (P2.ne e2 fun _ z => nomatch z) e2
            refine ⟨a, _, 0, .str o, rfl, rfl, SqT.of e3, rfl, _, _, rfl, rfl, hY _ (by rw [gap_len]; omega), ?_⟩
            refine ⟨k + (xC n + xC n) + 35, P3, m0, m1, fun g1 H4 hg1 P4 b4 => ⟨_, _, rfl, rfl, hY _ (by rw [app_len, gap_len, gap_len]; omega), ?_⟩⟩
            have e4 := b4.keep _ _ (P3.ne e3 fun _ z => nomatch z) e3
            have lsg := sz3 g0 g1 hg0 hg1
            have bb := b3.trans b4
            refine ⟨a, _, 1, v1, rfl, rfl, SqT.of e4, rfl, ?_⟩
            refine ⟨k + xC n + 35, t1, ws, P4.mono (by omega), (lt1.same sd).but P2 bb, hd1, by omega, tk.2.1, hw, by omega, by omega, m0, m1, fun sa la H5 txa hla hsa P5 b5 => ⟨_, _, rfl, rfl, hY _ (by omega), ?_⟩⟩
            have e5 := b5.keep _ _ (P4.ne e4 fun _ z => nomatch z) e4
            refine ⟨a, _, 2, v2, rfl, rfl, SqT.of e5, rfl, ?_⟩
            refine ⟨k + 25, t2, ws, P5.mono (by omega), (lt2.same sd).but P2 (bb.trans b5), hd2, by omega, tk.2.2, hw, by omega, by omega, m0, m1, fun sb lb H6 txb hlb hsb P6 b6 => ⟨_, _, rfl, rfl, hY _ (by rw [app_len]; omega), ?_⟩⟩
            refine ⟨_, ow, _, _, _, rfl, fin la lb g0 g1 sa sb txa (by omega) txb (by omega), ?_, P6, (((But.of sd).trans bb).trans b5).trans b6⟩
            rw [app_len, app_len]
            show _ ≤ xB (max (dep t1) (dep t2)) + xB (max (dep t1) (dep t2)) + 40
            omega
    · exact h.elim
end
end Rk

set_option Elab.async false
set_option linter.all false
set_option maxRecDepth 100000
set_option maxHeartbeats 4000000
set_option pp.maxSteps 200
namespace Rk
open PySem PySem.Spec PyProof.Rows L2 CL Fm
/-- a whole text of a tree -/
def FTex (t : T) (s : Str) : Prop := ∃ s' l, Tex t l s' ∧ (s = s' ∨ ∃ g g', s = gapS g ++ s' ++ gapS g')
theorem FTex.so {ws : List Str} (hw : ∀ w ∈ ws, Wd w) {t : T} {s : Str} (h : FTex t s) (k : TOk ws t) : So s := by
  obtain ⟨s', l, h, rfl | ⟨g, g', rfl⟩⟩ := h
  · exact h.so hw k
  · exact ((So.gap _).app (h.so hw k)).app (.gap _)
/-- a tree and its text -/
def spForm (K : PySem.W.Frag) : Sp := fun vs H Q _ => match vs with
  | [.ref p, .int d, .ref l] => ∃ k, ∃ ws : List Str, PenB H p (k + 20000) ∧ 0 ≤ d ∧ d ≤ 4 ∧ SqL K H l (ws.map V.str) ∧ (∀ w ∈ ws, Wd w) ∧ ws.length ≤ 26 ∧
      ∀ a v t s H', H' a = some (.tup [v, .str s]) → LTr H' v t → TOk ws t → dep t ≤ 4 → FTex t s → s.length ≤ 100 → PenB H' p k → But p H H' → Q (.ref a) H'
  | _ => False
def FI (p l : Addr) (d : Int) (mn : Int) (k : Nat) (ws : List Str) (H : Hp) : Nat → L2.St → Hp → Prop := fun m σ H' => ∃ v t s, m = dep t ∧ σ = [some (.ref p), some (.int d), some (.ref l), some v, some (.int mn), some (.str s)] ∧ LTr H' v t ∧ TOk ws t ∧ dep t ≤ 4 ∧
  FTex t s ∧ s.length ≤ xB (dep t) + 4 ∧ PenB H' p (k + dep t * 3000) ∧ But p H H'
abbrev sForm : Stmt := topS 24
abbrev nForm : List Str := ["_law_pen_here", "_law_deep", "_law_words", "_law_tree_here", "_law_many", "_law_text"]
abbrev pForm : List Str := ["_law_pen_here", "_law_deep", "_law_words"]
theorem scForm : FnScope nForm pForm (defScope sForm) := ⟨rfl, rfl, rfl, by decide +kernel, rfl, by decide +kernel, by decide +kernel⟩
section
variable {P : Program} {w : World} {K : PySem.W.Frag} {mg : Str → Option Value} {base : Heap}
structure BltF (mg : Str → Option Value) : Prop extends BltT mg where
  isinstance : mg "isinstance" = none
  tuple : mg "tuple" = none
theorem ok_form (B : BltF mg) (DP : ∀ base, DefOk P w K mg base CX0 6 "_law_pick" pPick (spPick K)) (DGap : ∀ base, DefOk P w K mg base CX0 7 "_law_gap" pGap spGap) (DT : ∀ base, DefOk P w K mg base CX0 12 "_law_tree" pTree (spTree K 5))
    (DX : ∀ base, DefOk P w K mg base CX0 12 "_law_text_of" pTextOf (spText K 5)) (F : FunAt K mg "_law_formula" sForm pForm) : DefOk P w K mg base CX0 13 "_law_formula" pForm (spForm K) := by
  refine F.ok scForm (fun vs H Q E h => ?_) (fun f cdv A outer s H vs Q E hr h => ?_)
  · unfold spForm at h
    split at h
    · rfl
    · exact h.elim
  · have hu := hu_of hr
    refine ⟨_, (pss_cons (ps_par (i := 3) (j := 4) rfl scForm.nd rfl rfl (by decide) rfl rfl (pa_cons (pe_def (DT _) hr (by decide) (pa_cons (cv 0) (pa_cons (cv 1) (pa_cons (cv 2) pa_nil)))) (pa_cons (pe_def (DP _) hr (by decide) (pa_cons (cv 0) (pa_cons (pe_lst (pa_cons pe_int (pa_cons pe_int pa_nil))) pa_nil))) pa_nil)) (by rfl))
  (pss_cons (ps_set (i := 5) scForm.nd rfl (.inl rfl) (pe_op op_add_str (pe_op op_add_str (pe_def (DGap _) hr (by decide) (pa_cons (cv 0) (pa_cons (cv 4) pa_nil))) (pe_def (DX _) hr (by decide) (pa_cons (cv 0) (pa_cons (cv 3) (pa_cons pe_int (pa_cons (cv 4) pa_nil)))))) (pe_def (DGap _) hr (by decide) (pa_cons (cv 0) (pa_cons (cv 4) pa_nil)))))
  (pss_cons (ps_while PassesOwn.never (ct_cmp c_gt (pe_callB call_len_str (by rfl) B.len (by decide +kernel) (pa_cons (cv 5) pa_nil)) pe_int (nomark _))
  (pss_cons (ps_set (i := 3) scForm.nd rfl (.inl rfl) (pe_ifExp (ct_val (pe_isi (m := .tuple) (by decide +kernel) B.isinstance B.tuple (by rfl) (by rfl) (pe_ix ix_tup (cv 3) pe_int (fun _ _ => rfl)))) (pe_ix ix_tup (cv 3) pe_int (fun _ _ => rfl)) (pe_tup (pa_cons pe_str (pa_cons pe_int pa_nil)))))
  (pss_one (ps_set (i := 5) scForm.nd rfl (.inl rfl) (pe_def (DX _) hr (by decide) (pa_cons (cv 0) (pa_cons (cv 3) (pa_cons pe_int (pa_cons pe_int pa_nil)))))))))
  (pss_one (ps_ret (pe_tup (pa_cons (cv 3) (pa_cons (cv 5) pa_nil)))))))), ?_⟩
    unfold spForm at h
    split at h
    · rename_i p d l
      obtain ⟨k, ws, P, d0, d1, hS, hw, hn, q⟩ := h
      have t5 : tC 5 = 1550 := by decide
      have x5 : xC 5 = 2480 := by decide
      have hY : ∀ a, a ≤ 200000 → a ≤ sizeLine := fun a h => Nat.le_trans h (by decide)
      have hX4 : ∀ {a}, a ≤ 4 → xB a ≤ 2000 := fun h => Nat.le_trans (xB_mono h) (by decide)
      refine ⟨k + 18000, ws, P.mono (by omega), d0, by show d < ((5 : Nat) : Int); omega, hS, hw, hn, fun v t H1 lt tk td P1 b1 => ⟨by show 2 ≤ sizeLine; decide, fun l2 nl2 => ?_⟩⟩
      refine ⟨k + 17995, _, P1.same (same_new nl2), SqL.of upd_same, by show 0 < 2; decide, by show 2 ≤ _; decide, fun x H2 hx P2 b2 => ?_⟩
      have b12 := b1.trans ((But.of (same_new (o := .lst [V.int 1, .int 3]) nl2)).trans b2)
      have bt := (But.of (same_new (o := .lst [V.int 1, .int 3]) nl2)).trans b2
      obtain ⟨m, rfl, m0, m1⟩ : ∃ m : Int, x = .int m ∧ 1 ≤ m ∧ m ≤ 3 := by
        simp only [List.mem_cons, List.not_mem_nil, or_false] at hx
        rcases hx with rfl | rfl
        · exact ⟨_, rfl, by decide, by decide⟩
        · exact ⟨_, rfl, by decide, by decide⟩
      refine ⟨_, _, rfl, ?_⟩
      have td4 : dep t ≤ 4 := by omega
      have lt2 := lt.but P1 bt
      refine ⟨k + 17985, P2, m0, m1, fun g H3 hg P3 b3 => ?_⟩
      refine ⟨k + 15000, t, ws, P3.mono (by omega), lt2.but P2 b3, by omega, by omega, tk, hw, by decide, by decide, m0, m1, fun s ll H4 tx _ hs P4 b4 => ⟨_, _, rfl, rfl, hY _ (by rw [gap_len]; have := hX4 td4; omega), ?_⟩⟩
      refine ⟨k + 14990, P4, m0, m1, fun g' H5 hg' P5 b5 => ⟨_, _, rfl, rfl, hY _ (by rw [app_len, gap_len, gap_len]; have := hX4 td4; omega), ?_⟩⟩
      have b35 := (b3.trans b4).trans b5
      refine ⟨FI p l d m k ws H, ⟨_, v, t, _, rfl, rfl, lt2.but P2 b35, tk, td4, ⟨s, ll, tx, .inr ⟨g, g', rfl⟩⟩, by rw [app_len, app_len, gap_len, gap_len]; omega, P5.mono (by omega), b12.trans b35⟩, ?_⟩
      rintro _ σ Hx ⟨v, t, s, rfl, rfl, lt, tk, td, tx, hs, Px, bx⟩
      have h4 := hX4 td
      refine ⟨s, rfl, hY _ (by omega), ?_⟩
      show if decide ((100 : Int) < (s.length : Int)) = true then _ else _
      by_cases h : 100 < s.length
      · rw [if_pos (decide_eq_true (by omega))]
        refine ⟨fun σ' H' => ∃ d', d' < dep t ∧ FI p l d m k ws H d' σ' H', fun σ' H' h => h, ?_⟩
        obtain ⟨a, xs, v1, t1, rfl, e, a1, lt1, tk1, dt1⟩ : ∃ a xs v1 t1, v = .ref a ∧ Hx a = some (.tup xs) ∧ atI xs 1 = some v1 ∧ LTr Hx v1 t1 ∧ TOk ws t1 ∧ dep t1 < dep t := by
          cases lt with
          | num e => have : xB 0 = 40 := rfl; simp only [dep] at hs; omega
          | nam e => have : xB 0 = 40 := rfl; simp only [dep] at hs; omega
          | neg e lt' => exact ⟨_, _, _, _, rfl, e, rfl, lt', tk, by simp only [dep]; omega⟩
          | op e lt1 lt2 => exact ⟨_, _, _, _, rfl, e, rfl, lt1, tk.2.1, by simp only [dep]; omega⟩
        obtain ⟨b1, xs1, rfl, e1⟩ : ∃ b xs1, v1 = .ref b ∧ Hx b = some (.tup xs1) := by
          cases lt1 with
          | num e => exact ⟨_, _, rfl, e⟩
          | nam e => exact ⟨_, _, rfl, e⟩
          | neg e _ => exact ⟨_, _, rfl, e⟩
          | op e _ _ => exact ⟨_, _, rfl, e⟩
        refine ⟨a, _, 1, .ref b1, rfl, rfl, SqT.of e, a1, .tuple, .tup (SqT.of e1), ?_⟩
        refine ⟨a, _, 1, .ref b1, rfl, rfl, SqT.of e, a1, ?_⟩
        have mul : dep t * 3000 ≥ (dep t1 + 1) * 3000 := Nat.mul_le_mul_right _ (by omega)
        refine ⟨k + dep t1 * 3000, t1, ws, Px.mono (by omega), lt1, by omega, by omega, tk1, hw, by decide, by decide, by decide, by decide, fun s1 ll1 H6 tx1 _ hs1 P6 b6 => ?_⟩
        exact ⟨dep t1, dt1, _, t1, s1, rfl, rfl, lt1.but Px b6, tk1, by omega, ⟨s1, ll1, tx1, .inl rfl⟩, by omega, P6, bx.trans b6⟩
      · rw [if_neg (fun z => h (by have := of_decide_eq_true z; omega))]
        refine ⟨by show 2 ≤ sizeLine; decide, fun a na => ?_⟩
        exact q a v t s _ upd_same (lt.same (same_new na)) tk td tx (by omega) ((Px.same (same_new na)).mono (by omega)) (bx.trans (.of (same_new na)))
    · exact h.elim
end
end Rk

set_option Elab.async false
set_option linter.all false
set_option maxRecDepth 100000
set_option maxHeartbeats 4000000
set_option pp.maxSteps 200
namespace Rk
open PySem PySem.Spec PyProof.Rows L2 CL Fm
theorem cutS_hi {s : Str} {n : Int} (h : 0 ≤ n) : ((cutS s none (some n)).length : Int) ≤ n ∧ (cutS s none (some n)).length ≤ s.length := by
  obtain ⟨k, rfl⟩ := Int.eq_ofNat_of_zero_le h
  refine ⟨?_, cutS_length _ _ _⟩
  have : (cutS s none (some ((k : Nat) : Int))).length ≤ k := by
    show (((s.cps.toList.drop (HT.sIx s.length 0 none)).take (HT.sIx s.length s.length (some (k : Int)) - HT.sIx s.length 0 none)).toArray).size ≤ k
    rw [List.size_toArray, List.length_take, HT.sIx_nat, HT.sIx_none]
    omega
  exact Int.ofNat_le.mpr this
theorem cutS_lo {s : Str} {n : Int} (h : 0 ≤ n) : (cutS s (some n) none).length ≤ s.length - n.toNat := by
  obtain ⟨k, rfl⟩ := Int.eq_ofNat_of_zero_le h
  rw [Int.toNat_natCast]
  show (((s.cps.toList.drop (HT.sIx s.length 0 (some (k : Int)))).take (HT.sIx s.length s.length none - HT.sIx s.length 0 (some (k : Int)))).toArray).size ≤ s.length - k
  rw [List.size_toArray, List.length_take, HT.sIx_nat, HT.sIx_none]
  omega
theorem cutS_two {s : Str} {n : Int} (h : 0 ≤ n) : (cutS s (some n) (some (n + 2))).length ≤ 2 := by
  obtain ⟨k, rfl⟩ := Int.eq_ofNat_of_zero_le h
  have e : ((k : Int) + 2) = ((k + 2 : Nat) : Int) := by omega
  rw [e]
  show (((s.cps.toList.drop (HT.sIx s.length 0 (some (k : Int)))).take (HT.sIx s.length s.length (some ((k + 2 : Nat) : Int)) - HT.sIx s.length 0 (some (k : Int)))).toArray).size ≤ 2
  rw [List.size_toArray, List.length_take, HT.sIx_nat, HT.sIx_nat]
  omega
/-- a text with one change -/
def spBent : Sp := fun vs H Q _ => match vs with
  | [.ref p, .str s, .str z] => ∃ k, PenB H p (k + 20) ∧ So s ∧ So z ∧ 0 < z.length ∧ z.length ≤ 1000 ∧ s.length ≤ 10000 ∧ ∀ s' H', So s' → s'.length ≤ s.length + 3 → PenB H' p k → But p H H' → Q (.str s') H'
  | _ => False
def Gs (v : V) : Prop := ∃ s, v = .str s ∧ So s ∧ s.length ≤ 5000
def spLong : Sp := fun vs H Q _ => match vs with
  | [.ref p] => ∃ k, PenB H p (k + 15) ∧ ∀ s H', So s → s.length ≤ 5000 → PenB H' p k → But p H H' → Q (.str s) H'
  | _ => False
abbrev sBent : Stmt := topS 29
abbrev nBent : List Str := ["_law_pen_here", "_law_text", "_law_near", "_law_at", "_law_way", "_law_wide", "_law_sign"]
abbrev pBent : List Str := ["_law_pen_here", "_law_text", "_law_near"]
theorem scBent : FnScope nBent pBent (defScope sBent) := ⟨rfl, rfl, rfl, by decide +kernel, rfl, by decide +kernel, by decide +kernel⟩
abbrev sLong : Stmt := topS 32
abbrev nLong : List Str := ["_law_pen_here", "_law_many", "_law_some"]
abbrev pLong : List Str := ["_law_pen_here"]
theorem scLong : FnScope nLong pLong (defScope sLong) := ⟨rfl, rfl, rfl, by decide +kernel, rfl, by decide +kernel, by decide +kernel⟩
section
variable {P : Program} {w : World} {K : PySem.W.Frag} {mg : Str → Option Value} {base : Heap}
theorem ok_bent (B : Blt mg) (D : ∀ base, DefOk P w K mg base CX0 5 "_law_draw" pDraw spDr) (DP : ∀ base, DefOk P w K mg base CX0 6 "_law_pick" pPick (spPick K)) (DPS : ∀ base, DefOk P w K mg base CX0 6 "_law_pick" pPick spPickS) (F : FunAt K mg "_law_bent" sBent pBent) : DefOk P w K mg base CX0 7 "_law_bent" pBent spBent := by
  refine F.ok scBent (fun vs H Q E h => ?_) (fun f cdv A outer s H vs Q E hr h => ?_)
  · unfold spBent at h
    split at h
    · rfl
    · exact h.elim
  · have hu := hu_of hr
    refine ⟨_, (pss_cons (ps_par (i := 3) (j := 4) rfl scBent.nd rfl rfl (by decide) rfl rfl (pa_cons (pe_def (D _) hr (by decide) (pa_cons (cv 0) (pa_cons (pe_op c_addI (pe_callB call_len_str (by rfl) B.len (by decide +kernel) (pa_cons (cv 1) pa_nil)) pe_int) pa_nil))) (pa_cons (pe_def (D _) hr (by decide) (pa_cons (cv 0) (pa_cons pe_int pa_nil))) pa_nil)) (by rfl))
  (pss_cons (ps_set (i := 5) scBent.nd rfl (.inl rfl) pe_str)
  (pss_cons (ps_set (i := 6) scBent.nd rfl (.inl rfl) (pe_def (DPS _) hr (by decide) (pa_cons (cv 0) (pa_cons (pe_def (DP _) hr (by decide) (pa_cons (cv 0) (pa_cons (pe_lst (pa_cons (cv 2) (pa_cons (cv 2) (pa_cons (cv 5) pa_nil)))) pa_nil))) pa_nil))))
  (pss_cons (ps_if (ct_cmp c_lt (cv 4) pe_int (nomark _))
  (pss_one (ps_ret (pe_op op_add_str (pe_op op_add_str (pe_slice sl_str (cv 1) po_none (po_some (cv 3))) (cv 6)) (pe_slice sl_str (cv 1) (po_some (pe_op c_addI (cv 3) (pe_op c_fdiv (cv 4) pe_int))) po_none))))
  pss_nil)
  (pss_cons (ps_if (ct_cmp op_eq (cv 4) pe_int (nomark _))
  (pss_one (ps_ret (pe_op op_add_str (pe_slice sl_str (cv 1) po_none (po_some (cv 3))) (pe_slice sl_str (cv 1) (po_some (pe_op c_addI (cv 3) pe_int)) po_none))))
  pss_nil)
  (pss_cons (ps_if (ct_cmp op_eq (cv 4) pe_int (nomark _))
  (pss_one (ps_ret (pe_op op_add_str (pe_op op_add_str (pe_slice sl_str (cv 1) po_none (po_some (cv 3))) (pe_revS (pe_slice sl_str (cv 1) (po_some (cv 3)) (po_some (pe_op c_addI (cv 3) pe_int))))) (pe_slice sl_str (cv 1) (po_some (pe_op c_addI (cv 3) pe_int)) po_none))))
  pss_nil)
  (pss_one (ps_ret (pe_ifExp (ct_cmp op_eq (cv 4) pe_int (nomark _)) (pe_op op_add_str (pe_slice sl_str (cv 1) po_none (po_some (cv 3))) (pe_slice sl_str (cv 1) (po_some (pe_callB (c_max rfl) (by rfl) B.max (by decide +kernel) (pa_cons pe_int (pa_cons (pe_op c_sub (cv 3) pe_int) pa_nil)))) po_none)) (pe_slice sl_str (cv 1) po_none (po_some (cv 3)))))))))))), ?_⟩
    unfold spBent at h
    split at h
    · rename_i p s z
      obtain ⟨k, P, so, soz, z0, z1, sl, q⟩ := h
      have sz : s.length ≤ sizeLine := Nat.le_trans sl (by decide)
      have hY : ∀ a, a ≤ 200000 → a ≤ sizeLine := fun a h => Nat.le_trans h (by decide)
      refine ⟨s, rfl, sz, k + 15, P, by omega, by omega, fun a H1 a0 a1 P1 b1 => ⟨k + 10, P1, by decide, by decide, fun wy H2 w0 w1 P2 b2 => ⟨_, _, rfl, ?_⟩⟩⟩
      refine ⟨by show 3 ≤ sizeLine; decide, fun l nl => ⟨k + 5, _, P2.same (same_new nl), SqL.of upd_same, by show 0 < 3; decide, by show 3 ≤ _; decide, fun x H3 hx P3 b3 => ?_⟩⟩
      have b13 := (b1.trans b2).trans ((But.of (same_new nl)).trans b3)
      obtain ⟨y, rfl, soy, y0, y1⟩ : ∃ y, x = .str y ∧ So y ∧ 0 < y.length ∧ y.length ≤ 1000 := by
        simp only [List.mem_cons, List.not_mem_nil, or_false] at hx
        rcases hx with rfl | rfl | rfl
        · exact ⟨_, rfl, soz, z0, z1⟩
        · exact ⟨_, rfl, soz, z0, z1⟩
        · exact ⟨_, rfl, So.lit _, by decide +kernel, by decide +kernel⟩
      refine ⟨k, P3, y0, y1, fun c H4 hc P4 b4 => ?_⟩
      have bb := b13.trans b4
      have soc : So (⟨#[c]⟩ : Str) := fun d hd => by rw [List.mem_singleton.mp (show d ∈ [c] from hd)]; exact soy c hc
      have lc : (⟨#[c]⟩ : Str).length = 1 := rfl
      have c1 := cutS_hi (s := s) (n := a) a0
      refine iteD (fun h4 => ?_) (fun h4 => ⟨rfl, iteD (fun h5 => ?_) (fun h5 => ⟨rfl, iteD (fun h6 => ?_) (fun h6 => ⟨rfl, iteD (fun h7 => ?_) (fun h7 => ?_)⟩)⟩)⟩)
      · have c2 := cutS_lo (s := s) (n := a + wy / 2) (by omega)
        refine ⟨a, rfl, s, rfl, sz, _, _, rfl, rfl, hY _ (by omega), ⟨by decide, by decide⟩, _, rfl, s, rfl, sz, _, _, rfl, rfl, hY _ (by rw [app_len]; omega), ?_⟩
        exact q _ H4 (((so.cut _ _).app soc).app (so.cut _ _)) (by rw [app_len, app_len]; omega) P4 bb
      · have c2 := cutS_lo (s := s) (n := a + 1) (by omega)
        refine ⟨a, rfl, s, rfl, sz, _, rfl, s, rfl, sz, _, _, rfl, rfl, hY _ (by omega), ?_⟩
        exact q _ H4 ((so.cut _ _).app (so.cut _ _)) (by rw [app_len]; omega) P4 bb
      · have c2 := cutS_lo (s := s) (n := a + 2) (by omega)
        refine ⟨a, rfl, s, rfl, sz, a, rfl, _, rfl, s, rfl, sz, _, rfl, cutS_two a0, fun y hy hm => ⟨_, _, rfl, rfl, hY _ (by omega), _, rfl, s, rfl, sz, _, _, rfl, rfl, hY _ (by rw [app_len]; omega), ?_⟩⟩
        exact q _ H4 (((so.cut _ _).app fun c hc => so.cut _ _ c (hm c hc)).app (so.cut _ _)) (by rw [app_len, app_len]; omega) P4 bb
      · have c2 := cutS_lo (s := s) (n := max 0 (a - 3)) (by omega)
        refine ⟨a, rfl, s, rfl, sz, max 0 (a - 3), rfl, s, rfl, sz, _, _, rfl, rfl, hY _ (by omega), ?_⟩
        exact q _ H4 ((so.cut _ _).app (so.cut _ _)) (by rw [app_len]; omega) P4 bb
      · refine ⟨a, rfl, s, rfl, sz, ?_⟩
        exact q _ H4 (so.cut _ _) (by omega) P4 bb
    · exact h.elim
theorem ok_long (DP : ∀ base, DefOk P w K mg base CX0 6 "_law_pick" pPick (spPick K)) (F : FunAt K mg "_law_long" sLong pLong) : DefOk P w K mg base CX0 7 "_law_long" pLong spLong := by
  refine F.ok scLong (fun vs H Q E h => ?_) (fun f cdv A outer s H vs Q E hr h => ?_)
  · unfold spLong at h
    split at h
    · rfl
    · exact h.elim
  · have hu := hu_of hr
    refine ⟨_, (pss_cons (ps_set (i := 1) scLong.nd rfl (.inl rfl) (pe_def (DP _) hr (by decide) (pa_cons (cv 0) (pa_cons (pe_lst (pa_cons pe_int (pa_cons pe_int (pa_cons pe_int (pa_cons pe_int (pa_cons pe_int pa_nil)))))) pa_nil))))
  (pss_cons (ps_set (i := 2) scLong.nd rfl (.inl rfl) (pe_lst (pa_cons (pe_op op_add_str pe_str (pe_op op_repS pe_str (cv 1))) (pa_cons (pe_op op_repS pe_str (cv 1)) (pa_cons (pe_op op_repS pe_str (cv 1)) (pa_cons (pe_op op_repS pe_str pe_int) (pa_cons (pe_op op_repS pe_str (pe_def (DP _) hr (by decide) (pa_cons (cv 0) (pa_cons (pe_lst (pa_cons pe_int (pa_cons pe_int (pa_cons pe_int (pa_cons pe_int pa_nil))))) pa_nil)))) pa_nil)))))))
  (pss_cons (ps_set (i := 2) scLong.nd rfl (.inl rfl) (pe_op op_cat (cv 2) (pe_lst (pa_cons (pe_op op_add_str (pe_op op_add_str (pe_op op_repS pe_str (cv 1)) pe_str) (pe_op op_repS pe_str (cv 1))) (pa_cons (pe_op op_repS pe_str (pe_op c_addI (cv 1) pe_int)) (pa_cons (pe_op op_add_str (pe_op op_repS pe_str (pe_op c_addI (cv 1) pe_int)) pe_str) (pa_cons (pe_op op_add_str (pe_op op_repS pe_str pe_int) pe_str) pa_nil)))))))
  (pss_cons (ps_set (i := 2) scLong.nd rfl (.inl rfl) (pe_op op_cat (cv 2) (pe_lst (pa_cons (pe_op op_repS pe_str (pe_op c_addI (cv 1) pe_int)) (pa_cons (pe_op op_add_str (pe_op op_add_str pe_str (pe_op op_repS pe_str (pe_op c_addI (cv 1) pe_int))) pe_str) (pa_cons pe_str pa_nil))))))
  (pss_cons (ps_set (i := 2) scLong.nd rfl (.inl rfl) (pe_op op_cat (cv 2) (pe_lst (pa_cons pe_str (pa_cons pe_str (pa_cons pe_str (pa_cons pe_str pa_nil)))))))
  (pss_one (ps_ret (pe_def (DP _) hr (by decide) (pa_cons (cv 0) (pa_cons (pe_op op_cat (cv 2) (pe_lst (pa_cons pe_str (pa_cons pe_str (pa_cons pe_str (pa_cons pe_str (pa_cons pe_str (pa_cons pe_str (pa_cons pe_str (pa_cons pe_str (pa_cons pe_str (pa_cons pe_str pa_nil)))))))))))) pa_nil)))))))))), ?_⟩
    unfold spLong at h
    split at h
    · rename_i p
      obtain ⟨k, P, q⟩ := h
      have hY : ∀ a, a ≤ 200000 → a ≤ sizeLine := fun a h => Nat.le_trans h (by decide)
      have q1 : ("1" : Str).length = 1 := by decide +kernel
      have q2 : ("0" : Str).length = 1 := by decide +kernel
      have q3 : ("9" : Str).length = 1 := by decide +kernel
      have q4 : ("7" : Str).length = 1 := by decide +kernel
      have q5 : ("a" : Str).length = 1 := by decide +kernel
      have q6 : ("(" : Str).length = 1 := by decide +kernel
      have q7 : (")" : Str).length = 1 := by decide +kernel
      have q8 : ("-" : Str).length = 1 := by decide +kernel
      have q9 : ("min" : Str).length = 3 := by decide +kernel
      have qa : ("(1,2)" : Str).length = 5 := by decide +kernel
      have qb : (" " : Str).length = 1 := by decide +kernel
      have qc : ("2" : Str).length = 1 := by decide +kernel
      have gl : ∀ s : String, s.length ≤ 5000 → Gs (.str s) := fun s h => ⟨_, rfl, .lit s, by rw [PySem.ofString_length]; exact h⟩
      refine ⟨by show 5 ≤ sizeLine; decide, fun l1 n1 => ⟨k + 10, _, P.same (same_new n1), SqL.of upd_same, by show 0 < 5; decide, by show 5 ≤ _; decide, fun x H1 hx P1 b1 => ?_⟩⟩
      obtain ⟨m, rfl, m0, m1⟩ : ∃ m : Int, x = .int m ∧ 29 ≤ m ∧ m ≤ 33 := by
        simp only [List.mem_cons, List.not_mem_nil, or_false] at hx
        rcases hx with rfl | rfl | rfl | rfl | rfl <;> exact ⟨_, rfl, by decide, by decide⟩
      have bA := (But.of (same_new n1)).trans b1
      refine ⟨_, _, rfl, rfl, by omega, by omega, by rw [q2]; decide, _, _, rfl, rfl, hY _ (by rw [repT_len, q1, q2]; omega), _, _, rfl, rfl, by omega, by omega, by rw [q3]; decide, _, _, rfl, rfl, by omega, by omega, by rw [q2]; decide, _, _, rfl, rfl, by decide, by decide, by rw [q4]; decide, ?_⟩
      refine ⟨by show 4 ≤ sizeLine; decide, fun l2 n2 => ⟨k + 5, _, P1.same (same_new n2), SqL.of upd_same, by show 0 < 4; decide, by show 4 ≤ _; decide, fun x H2 hx P2 b2 => ?_⟩⟩
      obtain ⟨j, rfl, j0, j1⟩ : ∃ m : Int, x = .int m ∧ 7 ≤ m ∧ m ≤ 10 := by
        simp only [List.mem_cons, List.not_mem_nil, or_false] at hx
        rcases hx with rfl | rfl | rfl | rfl <;> exact ⟨_, rfl, by decide, by decide⟩
      have bB := bA.trans ((But.of (same_new n2)).trans b2)
      refine ⟨_, _, rfl, rfl, by omega, by omega, by rw [q5]; decide, by show 5 ≤ sizeLine; decide, fun l3 n3 => ?_⟩
      refine ⟨_, _, rfl, rfl, by omega, by omega, by rw [q6]; decide, _, _, rfl, rfl, hY _ (by rw [repT_len, q6, q1]; omega), _, _, rfl, rfl, by omega, by omega, by rw [q7]; decide, _, _, rfl, rfl, hY _ (by rw [app_len, repT_len, repT_len, q6, q1, q7]; omega), ?_⟩
      refine ⟨_, m + 68, rfl, rfl, by omega, by omega, by rw [q8]; decide, _, m + 66, rfl, rfl, by omega, by omega, by rw [q8]; decide, _, _, rfl, rfl, hY _ (by rw [repT_len, q8, q1]; omega), _, _, rfl, rfl, by decide, by decide, by rw [q9]; decide, _, _, rfl, rfl, hY _ (by rw [repT_len, q9, qa]; decide), by show 4 ≤ sizeLine; decide, fun l4 n4 => ?_⟩
      refine ⟨l3, l4, _, _, rfl, rfl, same_new n4 _ _ upd_same, upd_same, by show 9 ≤ sizeLine; decide, fun l5 n5 => ?_⟩
      refine ⟨_, m + 69, rfl, rfl, by omega, by omega, by rw [qb]; decide, _, m + 67, rfl, rfl, by omega, by omega, by rw [qb]; decide, _, _, rfl, rfl, hY _ (by rw [repT_len, q1, qb]; omega), _, _, rfl, rfl, hY _ (by rw [app_len, repT_len, q1, qb, qc]; omega), by show 3 ≤ sizeLine; decide, fun l6 n6 => ?_⟩
      refine ⟨l5, l6, _, _, rfl, rfl, same_new n6 _ _ upd_same, upd_same, by show 12 ≤ sizeLine; decide, fun l7 n7 => ?_⟩
      refine ⟨by show 4 ≤ sizeLine; decide, fun l8 n8 => ?_⟩
      refine ⟨l7, l8, _, _, rfl, rfl, same_new n8 _ _ upd_same, upd_same, by show 16 ≤ sizeLine; decide, fun l9 n9 => ?_⟩
      refine ⟨by show 10 ≤ sizeLine; decide, fun la na => ?_⟩
      refine ⟨l9, la, _, _, rfl, rfl, same_new na _ _ upd_same, upd_same, by show 26 ≤ sizeLine; decide, fun lb nb => ?_⟩
      refine ⟨k, _, P2.same (((((((((same_new n3).trans (same_new n4)).trans (same_new n5)).trans (same_new n6)).trans (same_new n7)).trans (same_new n8)).trans (same_new n9)).trans (same_new na)).trans (same_new nb)), SqL.of upd_same, by show 0 < 26; decide, by show 26 ≤ _; decide, fun x H3 hx P3 b3 => ?_⟩
      obtain ⟨s, rfl, so, sl⟩ : Gs x := by
        simp only [List.mem_append, List.mem_cons, List.not_mem_nil, or_false] at hx
        rcases hx with ((((h | h | h | h | h) | h | h | h | h) | h | h | h) | h | h | h | h) | h | h | h | h | h | h | h | h | h | h
        · exact ⟨_, h, (So.lit _).app ((So.lit _).rep _), by simp only [app_len, repT_len, q1, q2, q3, q4, q5, q6, q7, q8, q9, qa, qb, qc]; omega⟩
        · exact ⟨_, h, ((So.lit _).rep _), by simp only [app_len, repT_len, q1, q2, q3, q4, q5, q6, q7, q8, q9, qa, qb, qc]; omega⟩
        · exact ⟨_, h, ((So.lit _).rep _), by simp only [app_len, repT_len, q1, q2, q3, q4, q5, q6, q7, q8, q9, qa, qb, qc]; omega⟩
        · exact ⟨_, h, ((So.lit _).rep _), by simp only [app_len, repT_len, q1, q2, q3, q4, q5, q6, q7, q8, q9, qa, qb, qc]; omega⟩
        · exact ⟨_, h, ((So.lit _).rep _), by simp only [app_len, repT_len, q1, q2, q3, q4, q5, q6, q7, q8, q9, qa, qb, qc]; omega⟩
        · exact ⟨_, h, (((So.lit _).rep _).app (So.lit _)).app ((So.lit _).rep _), by simp only [app_len, repT_len, q1, q2, q3, q4, q5, q6, q7, q8, q9, qa, qb, qc]; omega⟩
        · exact ⟨_, h, ((So.lit _).rep _), by simp only [app_len, repT_len, q1, q2, q3, q4, q5, q6, q7, q8, q9, qa, qb, qc]; omega⟩
        · exact ⟨_, h, ((So.lit _).rep _).app (So.lit _), by simp only [app_len, repT_len, q1, q2, q3, q4, q5, q6, q7, q8, q9, qa, qb, qc]; omega⟩
        · exact ⟨_, h, ((So.lit _).rep _).app (So.lit _), by simp only [app_len, repT_len, q1, q2, q3, q4, q5, q6, q7, q8, q9, qa, qb, qc]; omega⟩
        · exact ⟨_, h, ((So.lit _).rep _), by simp only [app_len, repT_len, q1, q2, q3, q4, q5, q6, q7, q8, q9, qa, qb, qc]; omega⟩
        · exact ⟨_, h, ((So.lit _).app ((So.lit _).rep _)).app (So.lit _), by simp only [app_len, repT_len, q1, q2, q3, q4, q5, q6, q7, q8, q9, qa, qb, qc]; omega⟩
        · exact ⟨_, h, So.lit _, by rw [PySem.ofString_length]; decide⟩
        · exact ⟨_, h, So.lit _, by rw [PySem.ofString_length]; decide⟩
        · exact ⟨_, h, So.lit _, by rw [PySem.ofString_length]; decide⟩
        · exact ⟨_, h, So.lit _, by rw [PySem.ofString_length]; decide⟩
        · exact ⟨_, h, So.lit _, by rw [PySem.ofString_length]; decide⟩
        · exact ⟨_, h, So.lit _, by rw [PySem.ofString_length]; decide⟩
        · exact ⟨_, h, So.lit _, by rw [PySem.ofString_length]; decide⟩
        · exact ⟨_, h, So.lit _, by rw [PySem.ofString_length]; decide⟩
        · exact ⟨_, h, So.lit _, by rw [PySem.ofString_length]; decide⟩
        · exact ⟨_, h, So.lit _, by rw [PySem.ofString_length]; decide⟩
        · exact ⟨_, h, So.lit _, by rw [PySem.ofString_length]; decide⟩
        · exact ⟨_, h, So.lit _, by rw [PySem.ofString_length]; decide⟩
        · exact ⟨_, h, So.lit _, by rw [PySem.ofString_length]; decide⟩
        · exact ⟨_, h, So.lit _, by rw [PySem.ofString_length]; decide⟩
        · exact ⟨_, h, So.lit _, by rw [PySem.ofString_length]; decide⟩
      exact q s H3 so sl P3 ((bB.trans (.of (((((((((same_new n3).trans (same_new n4)).trans (same_new n5)).trans (same_new n6)).trans (same_new n7)).trans (same_new n8)).trans (same_new n9)).trans (same_new na)).trans (same_new nb)))).trans b3)
    · exact h.elim
end
end Rk

set_option Elab.async false
set_option linter.all false
set_option maxRecDepth 100000
set_option maxHeartbeats 4000000
namespace Rk
open PySem PySem.Spec PyProof.Rows L2 CL
/-- a value of any kind -/
def spOdd (K : PySem.W.Frag) : Sp := fun vs H Q _ => match vs with
  | [.ref p] => ∃ k, ∃ M : Addr → Prop, PenB H p (k + 5) ∧ M p ∧ MOk M H ∧ ∀ v H', OkV K M H' v → PenB H' p k → But p H H' → Q v H'
  | _ => False
section
variable {P : Program} {w : World} {K : PySem.W.Frag} {mg : Str → Option Value} {base : Heap}
abbrev sOdd : Stmt := topS 20
abbrev nOdd : List Str := ["_law_pen_here", "_law_some"]
abbrev pOdd : List Str := ["_law_pen_here"]
theorem scOdd : FnScope nOdd pOdd (defScope sOdd) := ⟨rfl, rfl, rfl, by decide +kernel, rfl, by decide +kernel, by decide +kernel⟩
theorem ok_odd (DP : DefOk P w K mg base CX0 6 "_law_pick" pPick (spPick K)) (F : FunAt K mg "_law_odd" sOdd pOdd) : DefOk P w K mg base CX0 7 "_law_odd" pOdd (spOdd K) := by
  refine F.ok scOdd (fun vs H Q E h => ?_) (fun f cdv A outer s H vs Q E hr h => ?_)
  · unfold spOdd at h
    split at h
    · rfl
    · exact h.elim
  · have hu := hu_of hr
    refine ⟨_, (pss_cons (ps_set (i := 1) scOdd.nd rfl (.inl rfl) (pe_lst (pa_cons pe_non (pa_cons pe_bl (pa_cons pe_bl (pa_cons pe_int (pa_cons pe_int (pa_cons (pe_un c_neg pe_int) (pa_cons pe_int (pa_cons pe_int (pa_cons (pe_pow (z := 1000000000000000000000000000000) ⟨⟨by decide, by decide, by decide⟩, by decide +kernel⟩) (pa_cons (pe_op c_addI (pe_pow (z := 1000000000000000000000000000000) ⟨⟨by decide, by decide, by decide⟩, by decide +kernel⟩) pe_int) (pa_cons (pe_op c_sub (pe_un c_neg (pe_pow (z := 1000000000000000000000000000000) ⟨⟨by decide, by decide, by decide⟩, by decide +kernel⟩)) pe_int) (pa_cons (pe_op c_mul (pe_pow (z := 100000000000000000000000000000000000000000000000000) ⟨⟨by decide, by decide, by decide⟩, by decide +kernel⟩) (pe_pow (z := 10000000000000000000000000000000000000000) ⟨⟨by decide, by decide, by decide⟩, by decide +kernel⟩)) pa_nil))))))))))))))
  (pss_cons (ps_set (i := 1) scOdd.nd rfl (.inl rfl) (pe_op op_cat (cv 1) (pe_lst (pa_cons pe_str (pa_cons pe_str (pa_cons pe_str (pa_cons pe_str (pa_cons pe_str (pa_cons pe_str (pa_cons pe_str (pa_cons pe_str (pa_cons pe_str (pa_cons pe_str (pa_cons pe_str (pa_cons pe_str (pa_cons (pe_tup pa_nil) (pa_cons (pe_lst pa_nil) (pa_cons pe_dnewK (pa_cons (pe_tup (pa_cons pe_str pa_nil)) pa_nil)))))))))))))))))))
  (pss_one (ps_ret (pe_def DP hr (by decide) (pa_cons (cv 0) (pa_cons (pe_op op_cat (cv 1) (pe_lst (pa_cons (pe_lst (pa_cons pe_str pa_nil)) (pa_cons (pe_tup (pa_cons pe_int (pa_cons pe_int pa_nil))) (pa_cons (pe_tup (pa_cons pe_int (pa_cons pe_int (pa_cons pe_int pa_nil)))) (pa_cons (pe_disp (pps_cons pe_str pe_int pps_nil) (by rfl) (by rfl) (by simp) (by decide)) (pa_cons (pe_lst (pa_cons pe_non pa_nil)) (pa_cons (pe_tup (pa_cons pe_non (pa_cons pe_str pa_nil))) (pa_cons (pe_tup (pa_cons (pe_tup (pa_cons pe_int (pa_cons pe_int (pa_cons pe_int pa_nil)))) (pa_cons (pe_tup (pa_cons pe_int (pa_cons pe_int (pa_cons pe_int pa_nil)))) pa_nil))) pa_nil))))))))) pa_nil))))))), ?_⟩
    unfold spOdd at h
    split at h
    · rename_i p
      obtain ⟨k, M, P, mp, m, q⟩ := h
      refine ⟨few_of (by decide) (by decide) (by decide) (by decide), by show 12 ≤ sizeLine; decide, fun a1 na1 => ?_⟩
      let G1 : Hp := upd H a1 (.lst [.non, .bl true, .bl false, .int 0, .int 1, .int (-1), .int 2, .int 7, .int 1000000000000000000000000000000, .int (1000000000000000000000000000000 + 1), .int (-1000000000000000000000000000000 - 1), .int (100000000000000000000000000000000000000000000000000 * 10000000000000000000000000000000000000000)])
      have s1 : Same H G1 := same_new na1
      have m1 : MOk M G1 := m.same s1
      refine ⟨by show 0 ≤ sizeLine; decide, fun t1 nt1 => ?_⟩
      let G2 : Hp := upd G1 t1 (.tup [])
      have s2 : Same G1 G2 := same_new nt1
      have m2 : MOk M G2 := m1.same s2
      have ot1 : OkV K M G2 (.ref t1) := OkV.of (Sv.tup m1 nt1 SvA.nil)
      refine ⟨by show 0 ≤ sizeLine; decide, fun t2 nt2 => ?_⟩
      let G3 : Hp := upd G2 t2 (.lst [])
      have s3 : Same G2 G3 := same_new nt2
      have m3 : MOk M G3 := m2.same s3
      have ot2 : OkV K M G3 (.ref t2) := OkV.of (Sv.lst m2 nt2 SvA.nil)
      intro t3 nt3
      let G4 : Hp := upd G3 t3 (.dK [])
      have s4 : Same G3 G4 := same_new nt3
      have m4 : MOk M G4 := m3.same s4
      have ot3 : OkV K M G4 (.ref t3) := OkV.of (Sv.dic (kvs := []) m3 nt3 SvA.nil SvA.nil upd_same (BN.of (same_new nt3)))
      refine ⟨by show 1 ≤ sizeLine; decide, fun t4 nt4 => ?_⟩
      let G5 : Hp := upd G4 t4 (.tup [.str "a"])
      have s5 : Same G4 G5 := same_new nt4
      have m5 : MOk M G5 := m4.same s5
      have ot4 : OkV K M G5 (.ref t4) := OkV.of (Sv.tup m4 nt4 (SvA.cons (Sv.str _) SvA.nil))
      refine ⟨by show 16 ≤ sizeLine; decide, fun l2 nl2 => ?_⟩
      let G6 : Hp := upd G5 l2 (.lst [.str "", .str "a", .str "0", .str "ab cd", .str "A", .str "abcdefghi", .str "min", .str "self", .str "x", .str "y", .str "z", .str "+x", .ref t1, .ref t2, .ref t3, .ref t4])
      have s6 : Same G5 G6 := same_new nl2
      have m6 : MOk M G6 := m5.same s6
      refine ⟨a1, l2, [.non, .bl true, .bl false, .int 0, .int 1, .int (-1), .int 2, .int 7, .int 1000000000000000000000000000000, .int (1000000000000000000000000000000 + 1), .int (-1000000000000000000000000000000 - 1), .int (100000000000000000000000000000000000000000000000000 * 10000000000000000000000000000000000000000)], [.str "", .str "a", .str "0", .str "ab cd", .str "A", .str "abcdefghi", .str "min", .str "self", .str "x", .str "y", .str "z", .str "+x", .ref t1, .ref t2, .ref t3, .ref t4], rfl, rfl, (s2.trans (s3.trans (s4.trans (s5.trans (s6.trans (Same.refl _)))))) a1 _ upd_same, upd_same, by show 28 ≤ sizeLine; decide, fun l3 nl3 => ?_⟩
      let G7 : Hp := upd G6 l3 (.lst ([.non, .bl true, .bl false, .int 0, .int 1, .int (-1), .int 2, .int 7, .int 1000000000000000000000000000000, .int (1000000000000000000000000000000 + 1), .int (-1000000000000000000000000000000 - 1), .int (100000000000000000000000000000000000000000000000000 * 10000000000000000000000000000000000000000)] ++ [.str "", .str "a", .str "0", .str "ab cd", .str "A", .str "abcdefghi", .str "min", .str "self", .str "x", .str "y", .str "z", .str "+x", .ref t1, .ref t2, .ref t3, .ref t4]))
      have s7 : Same G6 G7 := same_new nl3
      have m7 : MOk M G7 := m6.same s7
      refine ⟨by show 1 ≤ sizeLine; decide, fun u1 nu1 => ?_⟩
      let G8 : Hp := upd G7 u1 (.lst [.str "a"])
      have s8 : Same G7 G8 := same_new nu1
      have m8 : MOk M G8 := m7.same s8
      have ou1 : OkV K M G8 (.ref u1) := OkV.of (Sv.lst m7 nu1 (SvA.cons (Sv.str _) SvA.nil))
      refine ⟨by show 2 ≤ sizeLine; decide, fun u2 nu2 => ?_⟩
      let G9 : Hp := upd G8 u2 (.tup [.int 0, .int 1])
      have s9 : Same G8 G9 := same_new nu2
      have m9 : MOk M G9 := m8.same s9
      have ou2 : OkV K M G9 (.ref u2) := OkV.of (Sv.tup m8 nu2 (SvA.cons (Sv.int _) (SvA.cons (Sv.int _) SvA.nil)))
      refine ⟨by show 3 ≤ sizeLine; decide, fun u3 nu3 => ?_⟩
      let G10 : Hp := upd G9 u3 (.tup [.int 0, .int 0, .int 0])
      have s10 : Same G9 G10 := same_new nu3
      have m10 : MOk M G10 := m9.same s10
      have ou3 : OkV K M G10 (.ref u3) := OkV.of (Sv.tup m9 nu3 (SvA.cons (Sv.int _) (SvA.cons (Sv.int _) (SvA.cons (Sv.int _) SvA.nil))))
      intro u4 nu4
      let G11 : Hp := upd G10 u4 (.dK [])
      have s11 : Same G10 G11 := same_new nu4
      have m11 : MOk M G11 := m10.same s11
      refine ⟨upd_same, [(.inr "a", .int 1)], rfl, by show 1 ≤ 15; decide, ?_⟩
      let G12 : Hp := upd G11 u4 (.dK [(.inr "a", .int 1)])
      have s12b : Same G10 G12 := fun b o z => by have nb := ne_of_none z nu4; show upd (upd _ u4 _) u4 _ b = _; rw [upd_ne nb, upd_ne nb]; exact z
      have m12 : MOk M G12 := m10.same s12b
      have ou4 : OkV K M G12 (.ref u4) := OkV.of (Sv.dic (kvs := [(.inr "a", .int 1)]) m10 nu4 (SvA.cons (Sv.str _) SvA.nil) (SvA.cons (Sv.int _) SvA.nil) upd_same (BN.of s12b))
      refine ⟨by show 1 ≤ sizeLine; decide, fun u5 nu5 => ?_⟩
      let G13 : Hp := upd G12 u5 (.lst [.non])
      have s13 : Same G12 G13 := same_new nu5
      have m13 : MOk M G13 := m12.same s13
      have ou5 : OkV K M G13 (.ref u5) := OkV.of (Sv.lst m12 nu5 (SvA.cons Sv.non SvA.nil))
      refine ⟨by show 2 ≤ sizeLine; decide, fun u6 nu6 => ?_⟩
      let G14 : Hp := upd G13 u6 (.tup [.non, .str "a"])
      have s14 : Same G13 G14 := same_new nu6
      have m14 : MOk M G14 := m13.same s14
      have ou6 : OkV K M G14 (.ref u6) := OkV.of (Sv.tup m13 nu6 (SvA.cons Sv.non (SvA.cons (Sv.str _) SvA.nil)))
      refine ⟨by show 3 ≤ sizeLine; decide, fun u7 nu7 => ?_⟩
      let G15 : Hp := upd G14 u7 (.tup [.int 0, .int 0, .int 0])
      have s15 : Same G14 G15 := same_new nu7
      have m15 : MOk M G15 := m14.same s15
      have ou7 : OkV K M G15 (.ref u7) := OkV.of (Sv.tup m14 nu7 (SvA.cons (Sv.int _) (SvA.cons (Sv.int _) (SvA.cons (Sv.int _) SvA.nil))))
      refine ⟨by show 3 ≤ sizeLine; decide, fun u8 nu8 => ?_⟩
      let G16 : Hp := upd G15 u8 (.tup [.int 1, .int 1, .int 1])
      have s16 : Same G15 G16 := same_new nu8
      have m16 : MOk M G16 := m15.same s16
      have ou8 : OkV K M G16 (.ref u8) := OkV.of (Sv.tup m15 nu8 (SvA.cons (Sv.int _) (SvA.cons (Sv.int _) (SvA.cons (Sv.int _) SvA.nil))))
      refine ⟨by show 2 ≤ sizeLine; decide, fun u9 nu9 => ?_⟩
      have v7 : Sv K M G16 (.ref u7) (.tuple [.int 0, .int 0, .int 0]) := (Sv.tup m14 nu7 (SvA.cons (Sv.int _) (SvA.cons (Sv.int _) (SvA.cons (Sv.int _) SvA.nil)))).bn (BN.of (s16.trans (Same.refl _)))
      have v8 : Sv K M G16 (.ref u8) (.tuple [.int 1, .int 1, .int 1]) := (Sv.tup m15 nu8 (SvA.cons (Sv.int _) (SvA.cons (Sv.int _) (SvA.cons (Sv.int _) SvA.nil)))).bn (BN.of (Same.refl _))
      let G17 : Hp := upd G16 u9 (.tup [.ref u7, .ref u8])
      have s17 : Same G16 G17 := same_new nu9
      have m17 : MOk M G17 := m16.same s17
      have ou9 : OkV K M G17 (.ref u9) := OkV.of (Sv.tup m16 nu9 (SvA.cons v7 (SvA.cons v8 SvA.nil)))
      refine ⟨by show 7 ≤ sizeLine; decide, fun l4 nl4 => ?_⟩
      let G18 : Hp := upd G17 l4 (.lst [.ref u1, .ref u2, .ref u3, .ref u4, .ref u5, .ref u6, .ref u9])
      have s18 : Same G17 G18 := same_new nl4
      have m18 : MOk M G18 := m17.same s18
      refine ⟨l3, l4, [.non, .bl true, .bl false, .int 0, .int 1, .int (-1), .int 2, .int 7, .int 1000000000000000000000000000000, .int (1000000000000000000000000000000 + 1), .int (-1000000000000000000000000000000 - 1), .int (100000000000000000000000000000000000000000000000000 * 10000000000000000000000000000000000000000)] ++ [.str "", .str "a", .str "0", .str "ab cd", .str "A", .str "abcdefghi", .str "min", .str "self", .str "x", .str "y", .str "z", .str "+x", .ref t1, .ref t2, .ref t3, .ref t4], [.ref u1, .ref u2, .ref u3, .ref u4, .ref u5, .ref u6, .ref u9], rfl, rfl, (s8.trans (s9.trans (s10.trans (s12b.trans (s13.trans (s14.trans (s15.trans (s16.trans (s17.trans (s18.trans (Same.refl _))))))))))) l3 _ upd_same, upd_same, by show 35 ≤ sizeLine; decide, fun l5 nl5 => ?_⟩
      let G19 : Hp := upd G18 l5 (.lst ([.non, .bl true, .bl false, .int 0, .int 1, .int (-1), .int 2, .int 7, .int 1000000000000000000000000000000, .int (1000000000000000000000000000000 + 1), .int (-1000000000000000000000000000000 - 1), .int (100000000000000000000000000000000000000000000000000 * 10000000000000000000000000000000000000000)] ++ [.str "", .str "a", .str "0", .str "ab cd", .str "A", .str "abcdefghi", .str "min", .str "self", .str "x", .str "y", .str "z", .str "+x", .ref t1, .ref t2, .ref t3, .ref t4] ++ [.ref u1, .ref u2, .ref u3, .ref u4, .ref u5, .ref u6, .ref u9]))
      have s19 : Same G18 G19 := same_new nl5
      have m19 : MOk M G19 := m18.same s19
      have A : AllV K M G19 ([.non, .bl true, .bl false, .int 0, .int 1, .int (-1), .int 2, .int 7, .int 1000000000000000000000000000000, .int (1000000000000000000000000000000 + 1), .int (-1000000000000000000000000000000 - 1), .int (100000000000000000000000000000000000000000000000000 * 10000000000000000000000000000000000000000)] ++ [.str "", .str "a", .str "0", .str "ab cd", .str "A", .str "abcdefghi", .str "min", .str "self", .str "x", .str "y", .str "z", .str "+x", .ref t1, .ref t2, .ref t3, .ref t4] ++ [.ref u1, .ref u2, .ref u3, .ref u4, .ref u5, .ref u6, .ref u9]) := (((AllV.cons (OkV.of Sv.non)
          (AllV.cons (OkV.of (Sv.bl _))
          (AllV.cons (OkV.of (Sv.bl _))
          (AllV.cons (OkV.of (Sv.int _))
          (AllV.cons (OkV.of (Sv.int _))
          (AllV.cons (OkV.of (Sv.int _))
          (AllV.cons (OkV.of (Sv.int _))
          (AllV.cons (OkV.of (Sv.int _))
          (AllV.cons (OkV.of (Sv.int _))
          (AllV.cons (OkV.of (Sv.int _))
          (AllV.cons (OkV.of (Sv.int _))
          (AllV.cons (OkV.of (Sv.int _))
          AllV.nil))))))))))))).app (AllV.cons (OkV.of (Sv.str _))
          (AllV.cons (OkV.of (Sv.str _))
          (AllV.cons (OkV.of (Sv.str _))
          (AllV.cons (OkV.of (Sv.str _))
          (AllV.cons (OkV.of (Sv.str _))
          (AllV.cons (OkV.of (Sv.str _))
          (AllV.cons (OkV.of (Sv.str _))
          (AllV.cons (OkV.of (Sv.str _))
          (AllV.cons (OkV.of (Sv.str _))
          (AllV.cons (OkV.of (Sv.str _))
          (AllV.cons (OkV.of (Sv.str _))
          (AllV.cons (OkV.of (Sv.str _))
          (AllV.cons (ot1.bn (BN.of (s3.trans (s4.trans (s5.trans (s6.trans (s7.trans (s8.trans (s9.trans (s10.trans (s12b.trans (s13.trans (s14.trans (s15.trans (s16.trans (s17.trans (s18.trans (s19.trans (Same.refl _)))))))))))))))))))
          (AllV.cons (ot2.bn (BN.of (s4.trans (s5.trans (s6.trans (s7.trans (s8.trans (s9.trans (s10.trans (s12b.trans (s13.trans (s14.trans (s15.trans (s16.trans (s17.trans (s18.trans (s19.trans (Same.refl _))))))))))))))))))
          (AllV.cons (ot3.bn (BN.of (s5.trans (s6.trans (s7.trans (s8.trans (s9.trans (s10.trans (s12b.trans (s13.trans (s14.trans (s15.trans (s16.trans (s17.trans (s18.trans (s19.trans (Same.refl _)))))))))))))))))
          (AllV.cons (ot4.bn (BN.of (s6.trans (s7.trans (s8.trans (s9.trans (s10.trans (s12b.trans (s13.trans (s14.trans (s15.trans (s16.trans (s17.trans (s18.trans (s19.trans (Same.refl _))))))))))))))))
          AllV.nil))))))))))))))))).app (AllV.cons (ou1.bn (BN.of (s9.trans (s10.trans (s12b.trans (s13.trans (s14.trans (s15.trans (s16.trans (s17.trans (s18.trans (s19.trans (Same.refl _)))))))))))))
          (AllV.cons (ou2.bn (BN.of (s10.trans (s12b.trans (s13.trans (s14.trans (s15.trans (s16.trans (s17.trans (s18.trans (s19.trans (Same.refl _))))))))))))
          (AllV.cons (ou3.bn (BN.of (s12b.trans (s13.trans (s14.trans (s15.trans (s16.trans (s17.trans (s18.trans (s19.trans (Same.refl _)))))))))))
          (AllV.cons (ou4.bn (BN.of (s13.trans (s14.trans (s15.trans (s16.trans (s17.trans (s18.trans (s19.trans (Same.refl _))))))))))
          (AllV.cons (ou5.bn (BN.of (s14.trans (s15.trans (s16.trans (s17.trans (s18.trans (s19.trans (Same.refl _)))))))))
          (AllV.cons (ou6.bn (BN.of (s15.trans (s16.trans (s17.trans (s18.trans (s19.trans (Same.refl _))))))))
          (AllV.cons (ou9.bn (BN.of (s18.trans (s19.trans (Same.refl _)))))
          AllV.nil)))))))
      have S0 := (s1.trans (s2.trans (s3.trans (s4.trans (s5.trans (s6.trans (s7.trans (s8.trans (s9.trans (s10.trans (s12b.trans (s13.trans (s14.trans (s15.trans (s16.trans (s17.trans (s18.trans (s19.trans (Same.refl _)))))))))))))))))))
      exact ⟨k, _, P.same S0, SqL.of upd_same, by show 0 < 35; decide, by show 35 ≤ 10 ^ 20; decide, fun v H' hv P' b => q v H' ((A v hv).but mp b) P' ((But.of S0).trans b)⟩
    · exact h.elim
end
end Rk

set_option Elab.async false
set_option linter.all false
set_option maxRecDepth 100000
set_option maxHeartbeats 2000000
/-! Keep: a caught error that a name keeps behind the clause: except C as n: m = n, and what follows. -/
namespace CL
open PySem PySem.Spec PyProof.Rows L2
section
variable {X : Cx} {a C D : Addr} {oe : Obj} {cls : Value} {d : Option Addr} {pn : List (Addr × Obj)} {xe : Value → Shared → Prop} {e : Expr} {te : TE} {p q pos : Pos} {n : Str}
theorem pe_xfK (T : XfC X.K C) (hno : PySem.W.findIn X.K (.ref C) n = some none) (hz : Zc cls d oe) (hf : ∃ vs, oe.data = .fields vs) (he : PE (X.tr ((a, oe) :: pn) xe) e te) (hb : attributeBase e n X.env (eval e X.env) = eval e X.env := by rfl) :
    PE (X.tr ((a, oe) :: pn) xe) (.Attribute e n pos) (tXf a cls d C n te) := by
  refine ⟨fun pins s σ H Q I h => ?_⟩
  refine attr_of hb (thn (he.run pins s σ H _ I h) fun u s1 hh => ?_)
  obtain ⟨x, H1, I1, rx, ex, ec, dd, fs, v, ed, ea, l, q⟩ := hh
  subst ex
  obtain rfl : u = Value.ref a := rx
  subst ec
  subst ed
  obtain ⟨ha, _⟩ := I1.pin (a, oe) (List.mem_append_left _ List.mem_cons_self)
  obtain ⟨vs, hd⟩ := hf
  have hx : ObjOk X.prog X.w H1 s1.heap dd (.xd fs) := I1.hok dd _ ea
  obtain ⟨mA, hns, hr⟩ := hx
  obtain ⟨od, ho, hl⟩ := lookIn_ns hns
  obtain ⟨u, hu, ru⟩ := RelO.some_of (v := v) (o := mA n) (by rw [← l]; exact hr n)
  have J : PySem.W.InstAt s1.heap a oe C (some od) := ⟨ha, hz.1, by unfold PySem.W.notCls; rw [hd] <;> rfl, by rw [hz.2]; exact ho⟩
  exact HandSPX.exc_get I1.kIn J T.ga T.gg T.exC (PySem.W.findObj_own T.hdC hno rfl (by rw [hl, hu])) (handed_of ru) ⟨v, H1, I1.tok _, ru, q⟩
theorem c_isEK {T : String} (hm : PySem.W.kitMeta T = true) (hz : Zc cls d oe) (hf : ∃ vs, oe.data = .fields vs) : CallR (X.tr ((a, oe) :: pn) xe) (.builtin "isinstance")
    (fun xs H Q => xs = [.ref a, .ty T] ∧ (∃ D, cls = .ref D ∧ PySem.W.subIn X.K (.ref D) (.type T) = some true) ∧ (d = none ∨ ∃ dd fs, d = some dd ∧ H dd = some (.xd fs)) ∧ Q (.bl true) H) := by
  intro pins s σ H xs us Q I r h
  obtain ⟨rfl, ⟨D, rfl, hs⟩, hd, k⟩ := h
  cases r with
  | cons rx rr =>
    cases rr with
    | cons rt rr =>
      cases rr
      cases rx
      cases rt
      obtain ⟨at_, _⟩ := I.pin (a, oe) (List.mem_append.mpr (.inl List.mem_cons_self))
      obtain ⟨vs, hv⟩ := hf
      have nc : PySem.W.notCls oe = true := by unfold PySem.W.notCls; rw [hv] <;> rfl
      have go : ∀ od, PySem.W.InstAt s.heap a oe D od → wpAny (model X.prog X.w) (X.tr ((a, oe) :: pn) xe).A (call (.builtin "isinstance") [.ref a, .type T]) (EP (X.tr ((a, oe) :: pn) xe) pins σ Q) (X.tr ((a, oe) :: pn) xe).xe s := fun od J =>
        exc_isi hs hm I.kIn J fun tk => ⟨.bl true, H, I.kept (t' := tk) fun _ _ z => z, rfl, k⟩
      rcases hd with rfl | ⟨dd, fs, rfl, hx⟩
      · exact go none ⟨at_, hz.1, nc, by rw [hz.2]; trivial⟩
      · obtain ⟨mA, hns, _⟩ := (show ObjOk X.prog X.w H s.heap dd (.xd fs) from I.hok dd _ hx)
        obtain ⟨od, ho, _⟩ := lookIn_ns hns
        exact go (some od) ⟨at_, hz.1, nc, by rw [hz.2]; exact ho⟩
theorem pe_isEK {T : Str} {T' : String} (hT : bootBuiltins T = some (.type T')) (hm : PySem.W.kitMeta T' = true) (hz : Zc cls d oe) (hf : ∃ vs, oe.data = .fields vs) (hmI : X.mg "isinstance" = none) (hmT : X.mg T = none) (hgI : Gl X "isinstance") (hgT : Gl X T)
    (he : PE (X.tr ((a, oe) :: pn) xe) e te) (hn : T ≠ "__name__" := by decide) (hdb : (T == ("__debug__" : Str)) = false := by decide)
    (h1 : starEach [e, .Name T q] X.env = (false, eval e X.env) :: starEach [.Name T q] X.env := by rfl) (h2 : (backTo pos (starEach [.Name T q] X.env)).any (·.1) = false := by rfl)
    (h3 : starEach [.Name T q] X.env = (false, eval (.Name T q) X.env) :: starEach [] X.env := by rfl) :
    PE (X.tr ((a, oe) :: pn) xe) (.Call (.Name "isinstance" p) [e, .Name T q] [] pos) (cIsE a cls d X.K T' te) := by
  refine PE_imp (pe_callB (X := X.tr ((a, oe) :: pn) xe) (c_isEK hm hz hf) hgI hmI (by decide +kernel) (pa_cons (PE_up he) (pa_cons (pe_bltn (v := .ty T') hgT hmT hT rfl hn hdb) pa_nil h3) h1) (by decide) (by decide) h1 h2) fun σ H Q h => ⟨_, h, fun x H1 q => ?_⟩
  obtain ⟨rfl, hc, hd, k⟩ := q
  exact ⟨rfl, hc, hd, k⟩
end
/-- what is wished of an exception: the clause, then what follows -/
def wKeep (K : PySem.W.Frag) (c : Value) (i : Nat) (ts u1 : Addr → Value → Option Addr → TS) (Wout : WX) (D : Ends) : WX := fun cls d σ H => ∃ b, PySem.W.exmOne K cls c = some b ∧
  (b = true → ∀ a, H a = none → ts a cls d { nx := fun σ' H' => u1 a cls d D (σ'.set i none) H', rt := D.rt, bk := fun σ' H' => D.bk (σ'.set i none) H', ct := fun σ' H' => D.ct (σ'.set i none) H' } (σ.set i (some (.ref a))) H) ∧ (b = false → Wout cls d σ H)
section
variable {X : Cx} {pins : List (Addr × Obj)} {σ : L2.St} {H : Hp} {s : Shared} {Wout : WX} {n x : Str} {i : Nat} {c : Value}
theorem Inv.keepPin {a : Addr} {pn' : List (Addr × Obj)} (I : Inv (X.suite a pn') [] σ H s) (ok : X.Ok) : Inv (X.tr pn' X.xe) [] σ H s :=
  ⟨ok.toTry _ _, I.os, I.bare, I.base, I.loc, I.cell, I.free, I.freeC, fun p hp => I.pin p hp, I.hok, I.len⟩
theorem Inv.dropPin {q : Addr × Obj} {pn' : List (Addr × Obj)} {xe : Value → Shared → Prop} (I : Inv (X.tr (q :: (X.pn ++ pins)) xe) pn' σ H s) (ok : X.Ok) : Inv X pins σ H s :=
  ⟨ok, I.os, I.bare, I.base, I.loc, I.cell, I.free, I.freeC, fun p hp => I.pin p (List.mem_append_left _ (List.mem_cons_of_mem _ hp)), I.hok, I.len⟩
/-- try: body; except C as n: suite; and the rest -/
theorem pss_try_keep {body suite rest : List Stmt} {b₀ : Stmt} {np pos' pos : Pos} {tb : WX → TS} {ts u1 : Addr → Value → Option Addr → TS} {u0 : TS} (hs : X.stack = X.env :: X.outer) (hf : X.env.frame = some X.env.locals) (hN : X.N.Nodup) (hi : X.N[i]? = some n) (hln : X.env.kindOf n = some .local)
    (hc : Names X x c) (tk : Takes X Wout)
    (hb : ∀ (W : WX) (pn : List (Addr × Obj)) (xe : Value → Shared → Prop), Takes (X.tr pn xe) W → PassesOwn (model X.prog X.w) X.A X.env xe → PSs (X.tr pn xe) body (tb W))
    (hsu : ∀ (a : Addr) (oe : Obj) (cls : Value) (d : Option Addr) (pn : List (Addr × Obj)), Zc cls d oe → (∃ vs, oe.data = .fields vs) → PSs (X.suite a ((a, oe) :: pn)) (b₀ :: suite) (ts a cls d))
    (h0 : PSs X rest u0) (h1 : ∀ (a : Addr) (oe : Obj) (cls : Value) (d : Option Addr) (pn : List (Addr × Obj)), Zc cls d oe → (∃ vs, oe.data = .fields vs) → PSs (X.tr ((a, oe) :: pn) X.xe) rest (u1 a cls d)) :
    PSs X (.Try body [.ExceptHandler (some (.Name x np)) (some n) (b₀ :: suite) pos'] [] [] pos :: rest) (fun D σ H => tb (wKeep X.K c i ts u1 Wout D) { D with nx := u0 D } σ H) := by
  refine ⟨fun pins s σ H D I h => ?_⟩
  have xok := I.ok
  refine wpAny_execs_cons (wpAny_Try_except ?_)
  let R : Flow → Shared → Prop := fun f s' => match f with
    | .next => wpAny (model X.prog X.w) X.A (execs rest X.env) (SP X pins D) X.xe s'
    | f => SP X pins D f s'
  let xe : Value → Shared → Prop := fun e s₁ => wpAny (model X.prog X.w) X.A (noteFrame e X.env) (fun _ s₂ => wpAny (model X.prog X.w) X.A (setFlight e none) (fun _ s₃ => wpAny (model X.prog X.w) X.A (handleBy e X.env [.ExceptHandler (some (.Name x np)) (some n) (b₀ :: suite) pos']) R X.xe s₃) X.xe s₂) X.xe s₁
  have handled : ∀ {σ : L2.St} {H : Hp} {a : Addr} {cls : Value} {d : Option Addr} {s : Shared}, Down X pins σ H a cls d s → wKeep X.K c i ts u1 Wout D cls d σ H → wpAny (model X.prog X.w) X.A (handleBy (.ref a) X.env [.ExceptHandler (some (.Name x np)) (some n) (b₀ :: suite) pos']) R X.xe s := by
    intro σ H a cls d s L w
    obtain ⟨b, hb2, yes, no⟩ := w
    have J := L.inv
    obtain ⟨oe, at_, zc, dv, S⟩ := L.pinned hf
    have kind : PySem.W.Looks (model X.prog X.w) s.heap (typeOf (.ref a)) cls := fun A Q E s' k q => wpAny_typeOf_ref (k _ _ at_) (by rw [zc.1]; exact q)
    refine wpAny_handleBy_cons (codeAny_handlers_test (asks hc S ((PySem.W.exm_one (M := model X.prog X.w) J.kIn kind hb2).here ?_))) (fun q => nomatch q)
    cases b with
    | false =>
      refine wpAny_mono (L.out hs hf tk (no rfl) (D := { D with nx := fun _ _ => False })) (fun f s' e => ?_) fun _ _ z => z
      cases f with
      | next =>
        obtain ⟨σ2, H2, J2, q⟩ := e
        exact q.elim
      | _ => exact e
    | true =>
      refine codeAny_handlers_suite_as (L.again fun s2 M => ?_)
      obtain ⟨oe2, at2, zc2, dv2, S2⟩ := M.pinned hf
      have na : H a = none := by obtain ⟨_, _, _, _, _, _, na, _⟩ := M; exact na
      refine store_ok (X := X.suite a ((a, oe2) :: (X.pn ++ pins))) (v := .ref a) S2 hN hi (.inl hln) rfl (fun s3 S3 => ?_) (.inr hln)
      have gone : ∀ {σ4 : L2.St} {H4 : Hp} {s4 : Shared} {R : Shared → Prop}, Inv (X.suite a ((a, oe2) :: (X.pn ++ pins))) [] σ4 H4 s4 → (∀ s5, Inv X pins (σ4.set i none) H4 s5 → R s5) →
          wpAny (model X.prog X.w) X.A (do bindName X.env n .none; unbindBehindTheSuite X.env n pos') (fun _ s5 => R s5) X.xe s4 := fun S4 k => gone_ok (S4.unsuite J.ok) hN hi hln k
      have goneK : ∀ {σ4 : L2.St} {H4 : Hp} {s4 : Shared} {R : Shared → Prop}, Inv (X.suite a ((a, oe2) :: (X.pn ++ pins))) [] σ4 H4 s4 → (∀ s5, Inv (X.tr ((a, oe2) :: (X.pn ++ pins)) X.xe) [] (σ4.set i none) H4 s5 → R s5) →
          wpAny (model X.prog X.w) X.A (do bindName X.env n .none; unbindBehindTheSuite X.env n pos') (fun _ s5 => R s5) X.xe s4 := fun S4 k => gone_ok (X := X.tr ((a, oe2) :: (X.pn ++ pins)) X.xe) (Inv.keepPin S4 J.ok) hN hi hln k
      refine wpAny_mono ((hsu a oe2 cls d (X.pn ++ pins) zc2 dv2).run [] s3 _ H _ S3 (yes rfl a na)) (fun f s4 e => ?_) fun _ _ z => z.elim
      cases f with
      | ret u => obtain ⟨v, σ4, H4, S4, rv, q⟩ := e; exact gone S4 fun s5 J5 => ⟨v, _, _, J5, rv, q⟩
      | next =>
        obtain ⟨σ4, H4, S4, q⟩ := e
        refine goneK S4 fun s5 J5 => ?_
        refine wpAny_mono ((h1 a oe2 cls d (X.pn ++ pins) zc2 dv2).run [] s5 _ H4 D J5 q) (fun f s6 e => ?_) fun _ _ z => z
        cases f with
        | next => obtain ⟨σ6, H6, J6, q6⟩ := e; exact ⟨_, _, Inv.dropPin J6 J.ok, q6⟩
        | ret u => obtain ⟨v, σ6, H6, J6, rv, q6⟩ := e; exact ⟨v, _, _, Inv.dropPin J6 J.ok, rv, q6⟩
        | brk => obtain ⟨σ6, H6, J6, q6⟩ := e; exact ⟨_, _, Inv.dropPin J6 J.ok, q6⟩
        | cont => obtain ⟨σ6, H6, J6, q6⟩ := e; exact ⟨_, _, Inv.dropPin J6 J.ok, q6⟩
      | brk => obtain ⟨σ4, H4, S4, q⟩ := e; exact gone S4 fun s5 J5 => ⟨_, _, J5, q⟩
      | cont => obtain ⟨σ4, H4, S4, q⟩ := e; exact gone S4 fun s5 J5 => ⟨_, _, J5, q⟩
  have tx : Takes (X.tr (X.pn ++ pins) xe) (wKeep X.K c i ts u1 Wout D) := fun u s2 x => by
    obtain ⟨a, B, sI, _, σ2, H2, cls, d, rfl, J, nb, up, sky, na, os, ag, w⟩ := x
    have sky2 : Sky B (X.env :: X.outer) a (Zc cls d) X.env.locals s2.heap := hs ▸ sky
    exact Sky.land Zc.steady (xok.frames.trans (congrArg some hs)) hf sky2 fun h3 fl up3 =>
      handled (s := { s2 with heap := h3 }) ⟨B, sI, J.ofTry xok, nb, up.trans up3, fl, na, os, ag⟩ w
  refine wpAny_mono ((hb _ (X.pn ++ pins) xe tx PassesOwn.looking).run [] s σ H { D with nx := u0 D } (I.toTry _) h) (fun f s1 e => ?_) fun _ _ z => z
  cases f with
  | next => obtain ⟨σ2, H2, J, q⟩ := e; exact wpAny_execs_nil (h0.run pins s1 σ2 H2 D (J.ofTry xok) q)
  | ret u => obtain ⟨v, σ2, H2, J, rv, q⟩ := e; exact ⟨v, σ2, H2, J.ofTry xok, rv, q⟩
  | brk => obtain ⟨σ2, H2, J, q⟩ := e; exact ⟨σ2, H2, J.ofTry xok, q⟩
  | cont => obtain ⟨σ2, H2, J, q⟩ := e; exact ⟨σ2, H2, J.ofTry xok, q⟩
end
end CL

set_option Elab.async false
set_option linter.all false
set_option maxRecDepth 100000
set_option maxHeartbeats 4000000
set_option pp.maxSteps 200
namespace Rk
open PySem PySem.Spec PyProof.Rows L2 CL Fm
def duS (s : Str) : Nat ⊕ List Str := if 100 < s.length then .inl 100 else (match wholeR s with
    | .err p => .inl p
    | .ok _ _ ns => .inr ns)
/-- what is due for a value -/
def duR : V → Nat ⊕ List Str
  | .str s => duS s
  | _ => .inl 0
def wrongL (p : Nat) : HO := .lst [.str "wrong", .int (p : Nat), .bl true]
def resO (H : Hp) (Q : VK) : Nat ⊕ List Str → Prop
  | .inl p => ∀ l H', Same H H' → H' l = some (wrongL p) → Q (.ref l) H'
  | .inr ns => ∀ l ys H', Same H H' → H' l = some (.tup (ys.map V.str)) → ys.Perm (TX.tAll ns []) → sortedS ys = true → Q (.ref l) H'
def spRes (K : PySem.W.Frag) : Sp := fun vs H Q _ => match vs with
  | [x] => (∃ k, BK K H x k) ∧ (∀ s, x = .str s → s.length ≤ sizeLine) ∧ resO H Q (duR x)
  | _ => False
abbrev sDue : Stmt := topS 30
abbrev nDue : List Str := ["_law_thing", "_law_reads", "_law_place"]
abbrev pDue : List Str := ["_law_thing"]
theorem scDue : FnScope nDue pDue (defScope sDue) := ⟨rfl, rfl, rfl, by decide +kernel, rfl, by decide +kernel, by decide +kernel⟩
abbrev sTold : Stmt := topS 31
abbrev nTold : List Str := ["_law_thing", "_law_caught", "e"]
abbrev pTold : List Str := ["_law_thing"]
theorem scTold : FnScope nTold pTold (defScope sTold) := ⟨rfl, rfl, rfl, by decide +kernel, rfl, by decide +kernel, by decide +kernel⟩
structure BltD (mg : Str → Option Value) : Prop where
  isinstance : mg "isinstance" = none
  str : mg "str" = none
  len : mg "len" = none
  tuple : mg "tuple" = none
  sorted : mg "sorted" = none
  set : mg "set" = none
section
variable {P : Program} {w : World} {K : PySem.W.Frag} {mg : Str → Option Value} {base : Heap}
theorem ok_due (B : BltD mg) (DW : DefOk P w K mg base CX0 3 "_law_wrong_at" pWr spWr) (F : FunAt K mg "_law_due" sDue pDue) : DefOk P w K mg base CX0 4 "_law_due" pDue (spRes K) := by
  refine F.ok scDue (fun vs H Q E h => ?_) (fun f cdv A outer s H vs Q E hr h => ?_)
  · unfold spRes at h
    split at h
    · rfl
    · exact h.elim
  · refine ⟨_, (pss_cons (ps_if (pt_not (ct_val (pe_isi (m := .str) (by decide +kernel) B.isinstance B.str (by rfl) (by rfl) (cv 0))))
  (pss_one (ps_ret (pe_lst (pa_cons pe_str (pa_cons pe_int (pa_cons pe_bl pa_nil))))))
  pss_nil)
  (pss_cons (ps_if (ct_cmp c_gt (pe_callB call_len_str (by rfl) B.len (by decide +kernel) (pa_cons (cv 0) pa_nil)) pe_int (nomark _))
  (pss_one (ps_ret (pe_lst (pa_cons pe_str (pa_cons pe_int (pa_cons pe_bl pa_nil))))))
  pss_nil)
  (pss_cons (ps_set (i := 1) scDue.nd rfl (.inl rfl) (pe_lst pa_nil))
  (pss_cons (ps_set (i := 2) scDue.nd rfl (.inl rfl) (pe_def DW hr (by decide) (pa_cons (cv 0) (pa_cons (cv 1) pa_nil))))
  (pss_one (ps_ret (pe_ifExp (ct_cmp op_isN (cv 2) pe_non (nomark _)) (pe_callTy call_tuple_of (by rfl) B.tuple (by decide +kernel) (pa_cons (pe_callB (TX.cr_sortTx (by rfl)) (by rfl) B.sorted (by decide +kernel) (pa_cons (pe_callTy (TX.cr_setTx (by rfl)) (by rfl) B.set (by decide +kernel) (pa_cons (cv 1) pa_nil)) pa_nil)) pa_nil)) (pe_lst (pa_cons pe_str (pa_cons (cv 2) (pa_cons pe_bl pa_nil))))))))))), ?_⟩
    unfold spRes at h
    split at h
    · rename_i x
      obtain ⟨⟨kx, hx⟩, hz, q⟩ := h
      have bad : resO H Q (.inl 0) → 3 ≤ sizeLine ∧ ∀ l, H l = none → Q (.ref l) (upd H l (.lst [.str "wrong", .int 0, .bl true])) := fun q => ⟨by decide, fun l nl => q l _ (same_new nl) upd_same⟩
      cases hx with
      | non => exact bad q
      | bl b => exact bad q
      | int i => exact bad q
      | lst h => exact ⟨_, .lst h, bad q⟩
      | tup h => exact ⟨_, .tup h, bad q⟩
      | dic h => exact ⟨_, .dic h, bad q⟩
      | str s =>
        have hz := hz s rfl
        have q : resO H Q (duS s) := q
        unfold duS at q
        refine ⟨s, rfl, hz, ?_⟩
        show if decide ((100 : Int) < (s.length : Int)) = true then _ else _
        by_cases hc : 100 < s.length
        · rw [if_pos hc] at q
          rw [if_pos (decide_eq_true (by omega))]
          exact ⟨by decide, fun l nl => q l _ (same_new nl) upd_same⟩
        · rw [if_neg hc] at q
          rw [if_neg (fun z => hc (by have := of_decide_eq_true z; omega))]
          have h100 : s.length ≤ 100 := by omega
          refine ⟨by show 0 ≤ sizeLine; decide, fun l nl => ?_⟩
          have wev := whole_ev h100
          have sm : ∀ {H'}, Onl l (upd H l (.lst [])) H' → Same H H' := fun on b o h => on b o (ne_of_none h nl) (by rw [upd_ne (ne_of_none h nl)]; exact h)
          cases hw : wholeR s with
          | err p =>
            rw [hw] at wev q
            obtain ⟨ls, ev⟩ := wev
            refine ⟨h100, upd_same, some p, ls, ev, fun H1 on hl => ⟨rfl, ?_⟩⟩
            show if decide (V.int (p : Nat) = V.non) = true then _ else _
            rw [if_neg (fun z => by have := of_decide_eq_true z; cases this)]
            exact ⟨by show 3 ≤ sizeLine; decide, fun l2 nl2 => q l2 _ ((sm on).trans (same_new nl2)) upd_same⟩
          | ok t j ms =>
            rw [hw] at wev q
            have few := names_few h100 hw
            refine ⟨h100, upd_same, none, ms, wev, fun H1 on hl => ⟨rfl, ?_⟩⟩
            show if decide (V.non = V.non) = true then _ else _
            rw [if_pos (decide_eq_true rfl)]
            have tl := TX.tAll_len ms []
            refine ⟨l, ms, rfl, SqL.of hl, Nat.lt_of_le_of_lt (show ms.length + 1 ≤ 51 by omega) (by decide), fun D nD => ⟨D, _, rfl, upd_same, by simp only [List.length_nil] at tl; omega, fun ys p yp yo np => ⟨p, ys.map V.str, rfl, .inl ⟨SqL.of upd_same, fun pt npt => ?_⟩⟩⟩⟩
            exact q pt ys _ ((((sm on).trans (same_new nD)).trans (same_new np)).trans (same_new npt)) upd_same yp yo
    · exact h.elim
/-- facts of the classes -/
structure Tl (P : Program) (w : World) (K : PySem.W.Frag) (mg : Str → Option Value) (base : Heap) (CF Cp fF : Addr) : Prop where
  gF : mg "Formula" = some (.ref CF)
  gP : mg "ParseError" = some (.ref Cp)
  mkF : Mk K CF fF
  ini : ∃ fd, FnOk P w K mg base (L2.CX P w) 111 fF fd pFInit (spFInit K CF Cp) ∧ Binds K fd pFInit []
  cl : Cls K CF
  nm : NoAttr K CF "names"
  xf : XfC K Cp
  ni : PySem.W.findIn K (.ref Cp) "index" = some none
  ve : PySem.W.subIn K (.ref Cp) (.type "ValueError") = some true
  em : PySem.W.exmOne K (.ref Cp) (.ref Cp) = some true
  isinstance : mg "isinstance" = none
  ValueError : mg "ValueError" = none
theorem ok_told {CF Cp fF : Addr} (T : Tl P w K mg base CF Cp fF) (F : FunAt K mg "_law_told" sTold pTold) : DefOk P w K mg base CX0 113 "_law_told" pTold (spRes K) := by
  obtain ⟨fdF, oF, bF⟩ := T.ini
  refine F.ok scTold (fun vs H Q E h => ?_) (fun f cdv A outer s H vs Q E hr h => ?_)
  · unfold spRes at h
    split at h
    · rfl
    · exact h.elim
  · refine ⟨_, pss_cons (ps_set (i := 1) scTold.nd rfl (.inl rfl) pe_non) (pss_try_keep (i := 2) (n := "e") (c := .ref Cp) (X := (cxOf CX0 P w K mg base nTold "_law_told" (defScope sTold) f cdv A outer s H E).nox)
      (tb := fun W D σ H => ∃ Ech : XK, (∀ cls d σ' H', Ech cls d H' → σ'.length = 3 → W cls d σ' H') ∧ tRet (tFld K (tMake CF (spFInit K CF Cp) [] Ech (tCons (cVar 0) tNil)) "names") D σ H) (u0 := fun _ _ _ => False)
      rfl rfl scTold.nd rfl rfl ⟨by rfl, by decide, .inl T.gP⟩ LamX.takes0 (fun W pn xe tk _ => ?body) (fun a oe cls d pn hz hf => pss_one (ps_set (i := 1) scTold.nd rfl (.inl rfl) (cv 2)))
      ⟨fun _ _ _ _ _ _ h => h.elim⟩
      (fun a oe cls d pn hz hf => pss_one (ps_ret (pe_lst (pa_cons pe_str (pa_cons (pe_xfK T.xf T.ni hz hf (cv 1)) (pa_cons (pe_isEK (T' := "ValueError") (by decide +kernel) (by decide +kernel) hz hf T.isinstance T.ValueError (by rfl) (by rfl) (cv 1)) pa_nil))))))), ?rest⟩
    case body =>
      refine ⟨fun pins s' σ H' D I h' => ?_⟩
      obtain ⟨Ech, hW, h3⟩ := h'
      have tk2 : Takes ((cxOf CX0 P w K mg base nTold "_law_told" (defScope sTold) f cdv A outer s H E).nox.tr pn xe) (fun cls d σ H => σ.length = 3 → W cls d σ H) := fun u s2 x => by
        obtain ⟨a, B, sI, p2, σ2, H2, cls, d, rfl, J, nb, up, sky, na, os, ag, w⟩ := x
        exact tk _ _ ⟨a, B, sI, p2, σ2, H2, cls, d, rfl, J, nb, up, sky, na, os, ag, w J.len⟩
      exact (pss_one (ps_ret (pe_fld (pe_make T.mkF oF (hr.mono (by decide)) (by rfl) T.gF bF .nil (passes_call (E := Ech) tk2 (fun cls d σ H h l => hW cls d σ H h l)) (pa_cons (cv 0) pa_nil)) rfl))).run pins s' σ H' D I h3
    case rest =>
      unfold spRes at h
      split at h
      · rename_i x
        obtain ⟨⟨kx, hx⟩, hz, q⟩ := h
        refine ⟨fun cls d H2 => ∃ dd, ∃ p : Nat, cls = .ref Cp ∧ d = some dd ∧ H2 dd = some (.xd [("index", .int (p : Int))]) ∧ Same H H2 ∧ duR x = .inl p, ?_, ?_⟩
        · rintro cls d σ' H2 ⟨dd, p, rfl, rfl, hd, sm, du⟩ l3
          obtain ⟨s0, s1, s2, rfl⟩ : ∃ x y z, σ' = [x, y, z] := by
            match σ', l3 with
            | [x, y, z], _ => exact ⟨x, y, z, rfl⟩
          refine ⟨true, T.em, fun _ a na => ?_, fun z => nomatch z⟩
          rw [du] at q
          refine ⟨rfl, rfl, dd, _, .int (p : Int), rfl, hd, rfl, rfl, ⟨Cp, rfl, T.ve⟩, .inr ⟨dd, _, rfl, hd⟩, by show 3 ≤ sizeLine; decide, fun l nl => ?_⟩
          exact q l _ (sm.trans (same_new nl)) upd_same
        · intro a dx na ndx ne
          have S1 : Same H (upd (upd H dx (.own a)) a (.ins CF dx [])) := fun b o h => by
            rw [upd_ne (ne_of_none h na), upd_ne (ne_of_none h ndx)]; exact h
          have sm : ∀ {H'}, Onl a (upd (upd H dx (.own a)) a (.ins CF dx [])) H' → Same H H' := fun on b o h => on b o (ne_of_none h na) (S1 b o h)
          refine ⟨⟨dx, upd_same⟩, ⟨kx, hx.same S1⟩, ?_⟩
          cases hx with
          | str s =>
            refine ⟨hz s rfl, ?_⟩
            have q : resO H Q (duS s) := q
            unfold duS at q
            by_cases hc : 100 < s.length
            · rw [if_pos hc] at q ⊢
              exact fun d H2 on e => ⟨d, 100, rfl, rfl, e, sm on, by show duS s = _; unfold duS; rw [if_pos hc]⟩
            · rw [if_neg hc] at q ⊢
              cases hw : wholeR s with
              | err p => exact fun d H2 on e => ⟨d, p, rfl, rfl, e, sm on, by show duS s = _; unfold duS; rw [if_neg hc, hw]⟩
              | ok t j ms =>
                rw [hw] at q
                have few := names_few (by omega) hw
                have tl := TX.tAll_len ms []
                refine ⟨by simp only [List.length_nil] at tl; omega, by omega, fun v l p ys H2 on ⟨dx2, hi⟩ tr hl hp yp yo => ⟨rfl, a, CF, dx2, _, .ref p, rfl, hi, T.cl, T.nm, rfl, ?_⟩⟩
                exact q p ys H2 (sm on) hp yp yo
          | _ => exact fun d H2 on e => ⟨d, 0, rfl, rfl, e, sm on, rfl⟩
      · exact h.elim
end
end Rk

set_option Elab.async false
set_option linter.all false
set_option maxRecDepth 100000
set_option maxHeartbeats 1000000
/-! Mc4: how far an error lies, what names are; sorted lists of the same things. -/
namespace Fm
open PySem PySem.Spec PyProof.Rows L2 Rk CL
variable {s : Str}
theorem intErr {b : Nat} : ∀ (n i e : Nat), n = s.length - i → intEnd s b i = .error e → e < s.length := by
  intro n
  induction n with
  | zero =>
    intro i e hn h
    rw [intEnd, dif_neg] at h
    · cases h
    · rintro ⟨c, hc, _⟩
      have := cp_lt hc
      omega
  | succ n ih =>
    intro i e hn h
    rw [intEnd] at h
    split at h
    · rename_i hx
      obtain ⟨c, hc, _⟩ := hx
      have := cp_lt hc
      split at h
      · cases h; exact this
      · exact ih (i + 1) e (by omega) h
    · cases h
theorem wordErr {b : Nat} : ∀ (n i e : Nat), n = s.length - i → wordEnd s b i = .error e → e < s.length := by
  intro n
  induction n with
  | zero =>
    intro i e hn h
    rw [wordEnd, dif_neg] at h
    · cases h
    · rintro ⟨c, hc, _⟩
      have := cp_lt hc
      omega
  | succ n ih =>
    intro i e hn h
    rw [wordEnd] at h
    split at h
    · rename_i hx
      obtain ⟨c, hc, _⟩ := hx
      have := cp_lt hc
      split at h
      · cases h; exact this
      · exact ih (i + 1) e (by omega) h
    · cases h
/-- the letters of a word -/
def Lets (s : Str) (b e : Nat) : Prop := ∀ j, b ≤ j → j < e → ∃ c, cp s j = some c ∧ isL c = true
theorem wordLets {b : Nat} : ∀ (n i e : Nat), n = s.length - i → b ≤ i → i ≤ b + 8 → Lets s b i → wordEnd s b i = .ok e → Lets s b e ∧ e ≤ b + 8 := by
  intro n
  induction n with
  | zero =>
    intro i e hn hb h8 hl h
    rw [wordEnd, dif_neg] at h
    · cases h; exact ⟨hl, h8⟩
    · rintro ⟨c, hc, _⟩
      have := cp_lt hc
      omega
  | succ n ih =>
    intro i e hn hb h8 hl h
    rw [wordEnd] at h
    split at h
    · rename_i hx
      obtain ⟨c, hc, hd⟩ := hx
      have := cp_lt hc
      split at h
      · cases h
      · refine ih (i + 1) e (by omega) (by omega) (by omega) (fun j h1 h2 => ?_) h
        by_cases hj : j = i
        · exact ⟨c, by rw [hj]; exact hc, hd⟩
        · exact hl j h1 (by omega)
    · cases h; exact ⟨hl, h8⟩
/-- a short word of letters -/
def Ww (w : Str) : Prop := (∀ c ∈ w.cps.toList, isL c = true) ∧ w.length ≤ 8
theorem cut_ww {b e : Nat} (h : Lets s b e) (h8 : e ≤ b + 8) : Ww (cut s b e) := by
  refine ⟨fun c hc => ?_, ?_⟩
  · have hc : c ∈ (s.cps.toList.drop b).take (e - b) := hc
    obtain ⟨i, hi, e1⟩ := List.getElem_of_mem hc
    rw [List.getElem_take, List.getElem_drop] at e1
    have hi2 : i < e - b := by rw [List.length_take] at hi; omega
    obtain ⟨d, hd, hl⟩ := h (b + i) (by omega) (by omega)
    have : c = d := by
      unfold cp at hd
      obtain ⟨hlt, e2⟩ := Array.getElem?_eq_some_iff.mp hd
      rw [← e1, ← e2]
      simp
    rw [this]
    exact hl
  · show (((s.cps.toList.drop b).take (e - b)).toArray).size ≤ 8
    rw [List.size_toArray, List.length_take]
    omega
theorem Ev.names {m : Ms} {o : Option Nat} {ls : List Str} (h : Ev s m o ls) : (∀ w ∈ m.ns, Ww w) → ∀ w ∈ ls, Ww w := by
  induction h with
  | stop h => exact id
  | bad h e => exact id
  | @go m m' c o ls hc e k ih =>
    intro hm
    refine ih ?_
    split at e
    · unfold beh at e
      split at e
      · cases e; exact hm
      · split at e
        · split at e
          · cases e; exact hm
          · cases e
        · split at e
          · cases e; exact hm
          · split at e
            · cases e; exact hm
            · cases e
    · unfold opd at e
      split at e
      · cases e; exact hm
      · split at e
        · cases e; exact hm
        · split at e
          · split at e
            · cases e
            · cases e; exact hm
          · split at e
            · unfold wrd at e
              split at e
              · cases e
              · rename_i x hx
                have z := wordLets _ _ _ rfl (Nat.le_refl _) (by omega) (fun j h1 h2 => by omega) hx
                split at e
                · split at e
                  · cases e; exact hm
                  · cases e
                · split at e
                  · cases e
                  · cases e
                    intro w hw
                    rcases List.mem_append.mp hw with h | h
                    · exact hm w h
                    · rw [List.mem_singleton.mp h]
                      exact cut_ww z.1 z.2
            · cases e
theorem Ev.far {m : Ms} {o : Option Nat} {ls : List Str} (h : Ev s m o ls) : m.i ≤ s.length → ∀ p, o = some p → p ≤ s.length := by
  induction h with
  | @stop m h =>
    intro hi p hp
    split at hp
    · cases hp
    · cases hp; exact skip_end _ hi
  | @bad m c q hc e =>
    intro hi p hp
    cases hp
    have lt := cp_lt hc
    split at e
    · unfold beh at e
      split at e
      · cases e
      · split at e
        · split at e
          · cases e
          · cases e; omega
        · split at e
          · cases e
          · split at e
            · cases e
            · cases e; omega
    · unfold opd at e
      split at e
      · cases e
      · split at e
        · cases e
        · split at e
          · split at e
            · rename_i x hx
              cases e
              exact Nat.le_of_lt (intErr _ _ _ rfl hx)
            · cases e
          · split at e
            · unfold wrd at e
              split at e
              · rename_i x hx
                cases e
                exact Nat.le_of_lt (wordErr _ _ _ rfl hx)
              · rename_i x hx
                have le2 := wordEnd_le _ _ _ rfl (Nat.le_of_lt lt) hx
                split at e
                · split at e
                  · cases e
                  · cases e
                    exact skip_end _ le2.2
                · split at e
                  · cases e; exact le2.2
                  · cases e
            · cases e; omega
  | @go m m' c o ls hc e k ih =>
    intro hi
    exact ih (step_ok hc e).2.1
theorem rising_pw : ∀ {r : List Str} {p : Str}, risingS p r = true → (p :: r).Pairwise (fun a b => ¬ b.cps.toList < a.cps.toList)
  | [], p, _ => by simp
  | x :: r, p, h => by
    have h : (!ltCps x.cps.toList p.cps.toList && risingS x r) = true := h
    rw [Bool.and_eq_true] at h
    obtain ⟨h1, h2⟩ := h
    have ih := rising_pw h2
    have h1 : ¬ x.cps.toList < p.cps.toList := by
      rw [ltCps_eq] at h1
      simpa using h1
    refine List.Pairwise.cons (fun y hy => ?_) ih
    rcases List.mem_cons.mp hy with rfl | hy
    · exact h1
    · have h3 := List.rel_of_pairwise_cons ih hy
      exact List.not_lt.mpr (List.le_trans (List.not_lt.mp h1) (List.not_lt.mp h3))
theorem sorted_pw : ∀ {l : List Str}, sortedS l = true → l.Pairwise (fun a b => ¬ b.cps.toList < a.cps.toList)
  | [], _ => .nil
  | x :: r, h => rising_pw h
theorem sort_one {l m : List Str} (h1 : sortedS l = true) (h2 : sortedS m = true) (p : l.Perm m) : l = m := by
  refine List.Perm.eq_of_pairwise (le := fun a b : Str => ¬ b.cps.toList < a.cps.toList) (fun a b _ _ ha hb => ?_) (sorted_pw h1) (sorted_pw h2) p
  exact TL.ext_tl (List.le_antisymm (List.not_lt.mp ha) (List.not_lt.mp hb))
end Fm

set_option Elab.async false
set_option linter.all false
set_option maxRecDepth 100000
set_option maxHeartbeats 8000000
set_option pp.maxSteps 200
namespace Rk
open PySem PySem.Spec PyProof.Rows L2 CL Fm
structure BltY (mg : Str → Option Value) : Prop where
  list : mg "list" = none
  range : mg "range" = none
  repr : mg "repr" = none
def spPen (K : PySem.W.Frag) : Sp := fun vs H Q _ => match vs with
  | [.ref a] => ∃ ns : List Int, SqL K H a (ns.map V.int) ∧ ns.length ≤ 63 ∧ ∀ p H', Same H H' → PenB H' p (2 ^ 59) → Q (.ref p) H'
  | _ => False
abbrev sPen : Stmt := topS 14
abbrev nPen : List Str := ["_law_script"]
abbrev pPen : List Str := ["_law_script"]
theorem scPen : FnScope nPen pPen (defScope sPen) := ⟨rfl, rfl, rfl, by decide +kernel, rfl, by decide +kernel, by decide +kernel⟩
section
variable {P : Program} {w : World} {K : PySem.W.Frag} {mg : Str → Option Value} {base : Heap}
theorem ok_pen (B : BltY mg) (F : FunAt K mg "_law_pen" sPen pPen) : DefOk P w K mg base CX0 1 "_law_pen" pPen (spPen K) := by
  refine F.ok scPen (fun vs H Q E h => ?_) (fun f cdv A outer s H vs Q E hr h => ?_)
  · unfold spPen at h
    split at h
    · rfl
    · exact h.elim
  · refine ⟨_, (pss_one (ps_ret (pe_disp (pps_cons pe_str (pe_callTy call_list_of (by rfl) B.list (by decide +kernel) (pa_cons (pe_slice sl_list (cv 0) po_none (po_some pe_int)) pa_nil)) (pps_cons pe_str pe_int (pps_cons pe_str pe_int pps_nil))) (by rfl) (by rfl) (by simp) (by decide)))), ?_⟩
    unfold spPen at h
    split at h
    · rename_i a
      obtain ⟨ns, hs, hl, q⟩ := h
      intro p hp
      have s0 := same_new (o := .dK []) hp
      refine ⟨63, rfl, a, _, rfl, s0.seq hs, fun l hl => ⟨l, _, rfl, .inl (SqL.of upd_same), fun c hc => ?_⟩⟩
      have s1 := same_new (o := .lst (cutV (ns.map V.int) none (some 63))) hl
      have s2 := same_new (o := .lst (cutV (ns.map V.int) none (some 63))) hc
      refine ⟨s2 p _ (s1 p _ upd_same), [(kCells, .ref c), (kBegun, .int 0), (kRest, .int 0)], rfl, by show 3 ≤ 15; decide, ?_⟩
      have hb : ∀ b o, H b = some o → b ≠ p ∧ b ≠ l ∧ b ≠ c := fun b o z => ⟨ne_of_none z hp, ne_of_none (s0 b o z) hl, ne_of_none (s1 b o (s0 b o z)) hc⟩
      obtain ⟨ms, hm, hml⟩ : ∃ ms : List Int, cutV (ns.map V.int) none (some 63) = ms.map V.int ∧ ms.length ≤ 63 := by
        refine ⟨(ns.drop _).take _, by unfold cutV; rw [List.map_take, List.map_drop], ?_⟩
        rw [List.length_take, List.length_drop]
        omega
      have pc : p ≠ c := ne_of_none (s1 p _ upd_same) hc
      refine q p _ (fun b o z => ?_) ⟨c, ms, 0, 0, ⟨upd_same, ?_, hml, by decide, by decide⟩, by decide⟩
      · obtain ⟨n1, n2, n3⟩ := hb b o z
        rw [upd_ne n1]
        exact s2 b o (s1 b o (s0 b o z))
      · rw [upd_ne pc.symm, upd_same, hm]
    · exact h.elim
end
/-! ### what is shown -/
theorem fit_str {s : Str} (so : So s) (h : s.length ≤ 8000) : Fit (.str s) := by
  refine ⟨rfl, (fun z => nomatch z), by simp [PyData.depth], ?_, h⟩
  unfold PyData.leavesShort
  rw [List.all_eq_true]
  intro c hc
  exact decide_eq_true (Nat.lt_trans (so c hc) (by decide))
theorem fit_wrong : ∀ p : Fin 101, fitB (.list [.str "wrong", .int ((p.val : Nat) : Int), .bool true]) = true := by decide +kernel
theorem fit_w {p : Nat} (h : p ≤ 100) : Fit (.list [.str "wrong", .int (p : Nat), .bool true]) := (fitB_ok (fit_wrong ⟨p, by omega⟩)).1
theorem fit_names {ys : List Str} (h : ∀ y ∈ ys, Ww y) (hn : ys.length ≤ 50) : Fit (.tuple (ys.map .str)) := by
  have a : PyData.showableAll (ys.map .str) = true ∧ listFreeA (ys.map .str) = true ∧ PyData.depthAll (ys.map .str) = 0 ∧ PyData.leavesShortAll 1930 (ys.map .str) = true ∧ PyData.weightAll (ys.map .str) ≤ 9 * ys.length := by
    clear hn
    induction ys with
    | nil => exact ⟨rfl, rfl, rfl, rfl, Nat.le_refl _⟩
    | cons y r ih =>
      obtain ⟨i1, i2, i3, i4, i5⟩ := ih fun x hx => h x (List.mem_cons_of_mem _ hx)
      have hy := h y (by simp)
      have f : Fit (.str y) := fit_str (fun c hc => by
        have := hy.1 c hc
        unfold isL at this
        have := of_decide_eq_true this
        omega) (by have := hy.2; omega)
      rw [List.map_cons]
      refine ⟨?_, ?_, ?_, ?_, ?_⟩
      · simp only [PyData.showableAll, PyData.showable, i1, Bool.and_self]
      · simp only [listFreeA, listFree, i2, Bool.and_self]
      · simp only [PyData.depthAll, PyData.depth, i3, Nat.max_self]
      · simp only [PyData.leavesShortAll, f.lv, i4, Bool.and_self]
      · simp only [PyData.weightAll, PyData.weight, List.length_cons]
        have h8 : y.cps.size ≤ 8 := hy.2
        omega
  obtain ⟨a1, a2, a3, a4, a5⟩ := a
  refine ⟨a1, fun _ => a2, ?_, a4, ?_⟩
  · simp only [PyData.depth, a3]
    decide
  · show PyData.weightAll _ ≤ 8000
    omega
theorem dqa_str {K : PySem.W.Frag} {H : Hp} : ∀ ys : List Str, DqA K H (ys.map V.str) (ys.map .str)
  | [] => .nil
  | _ :: r => .cons (.str _) (dqa_str r)
theorem du_few : ∀ {x : V} {p : Nat}, duR x = .inl p → p ≤ 100 := by
  intro x p h
  cases x with
  | str s =>
    have h : duS s = .inl p := h
    unfold duS at h
    split at h
    · cases h; exact Nat.le_refl _
    · rename_i hc
      have wev := whole_ev (s := s) (by omega)
      cases hw : wholeR s with
      | err q =>
        rw [hw] at h wev
        cases h
        obtain ⟨ls, ev⟩ := wev
        have := ev.far (Nat.zero_le _) _ rfl
        omega
      | ok t j ms => rw [hw] at h; cases h
  | _ => cases h; exact Nat.zero_le _
theorem du_names : ∀ {x : V} {ns : List Str}, duR x = .inr ns → (∀ w ∈ ns, Ww w) ∧ ns.length ≤ 50 := by
  intro x ns h
  cases x with
  | str s =>
    have h : duS s = .inr ns := h
    unfold duS at h
    split at h
    · cases h
    · rename_i hc
      have wev := whole_ev (s := s) (by omega)
      cases hw : wholeR s with
      | err q => rw [hw] at h; cases h
      | ok t j ms =>
        rw [hw] at h wev
        cases h
        exact ⟨Ev.names wev (fun _ h => nomatch h), names_few (by omega) hw⟩
  | _ => cases h
/-- a value that may be shown, as long as but the pen is altered -/
def Fine (K : PySem.W.Frag) (p : Addr) (Ho : Hp) (x : V) : Prop := ∃ d, Sv K (fun b => b = p) Ho x d ∧ Fit d
theorem Fine.str {K : PySem.W.Frag} {p : Addr} {Ho : Hp} {s : Str} (so : So s) (h : s.length ≤ 8000) : Fine K p Ho (.str s) := ⟨_, .str s, fit_str so h⟩
theorem Fine.len {K : PySem.W.Frag} {p : Addr} {Ho : Hp} {s : Str} (h : Fine K p Ho (.str s)) : s.length ≤ sizeLine := by
  obtain ⟨d, sv, f⟩ := h
  have z := sv.now
  cases z
  have : s.length ≤ 8000 := f.wt
  exact Nat.le_trans this (by decide)
end Rk

set_option Elab.async false
set_option linter.all false
set_option maxRecDepth 100000
set_option maxHeartbeats 8000000
set_option pp.maxSteps 200
namespace Rk
open PySem PySem.Spec PyProof.Rows L2 CL Fm
abbrev sLaw : Stmt := topS 33
abbrev nLaw : List Str := ["_law_script", "_law_pen_here", "_law_near", "_law_bout", "_law_words", "_law_text", "_law_things", "_law_thing", "_law_kept"]
abbrev pLaw : List Str := ["_law_script"]
theorem scLaw : FnScope nLaw pLaw (defScope sLaw) := ⟨rfl, rfl, rfl, by decide +kernel, rfl, by decide +kernel, by decide +kernel⟩
theorem _root_.CL.PenB.neL {H : Hp} {p a : Addr} {k : Nat} {xs : List V} (h : PenB H p k) (e : H a = some (.lst xs)) : a ≠ p := h.ne e fun _ z => nomatch z
def spLaw (K : PySem.W.Frag) : Sp := fun vs H Q _ => match vs with
  | [.ref a] => ∃ ns : List Int, SqL K H a (ns.map V.int) ∧ ns.length ≤ 63 ∧ ∀ H', Q (.bl true) H'
  | _ => False
section
variable {P : Program} {w : World} {K : PySem.W.Frag} {mg : Str → Option Value} {base : Heap}
theorem fun_okG {x qual : Str} {st : Stmt} {N ps : List Str} {sp : Sp} {k : Nat} {f : Addr} {fd : FuncData} (F : Fun K x qual st f fd) (S : FnScope N ps (defScope st)) (len : ∀ vs H Q E, sp vs H Q E → vs.length = ps.length)
    (hbody : ∀ (cdv : Value) (A : Around) (outer : List Env) (s : Shared) (H : Hp) (vs : List V) (Q : VK) (E : XK), Gd A → Room k (A.deeper (envOfC qual (defScope st) s.heap.objs.size f cdv)) → sp vs H Q E →
      ∃ t, PSs (cxOf CX0 P w K mg base N qual (defScope st) f cdv A outer s H E).nox (defBody st) t ∧ t { nx := fun _ H' => Q .non H', rt := Q } (start N vs) H) : FnG P w K mg base CX0 (k + 1) f fd ps sp := by
  obtain ⟨oc, od, kV, doc, pm, an, cdv, ct, osl, rfl, lk, hcd⟩ := F.ex
  refine fnG_of lk hcd S len fun A outer s H vs Q E g hr hsp => ?_
  obtain ⟨t, h, q⟩ := hbody cdv A outer s H vs Q E g hr hsp
  exact ⟨t, h.nox, q⟩
theorem ok_law {f : Addr} {fd : FuncData} (B : BltY mg) (DPen : DefOk P w K mg base CX0 1 "_law_pen" pPen (spPen K)) (D : DefOk P w K mg base CX0 5 "_law_draw" pDraw spDr) (DP : DefOk P w K mg base CX0 6 "_law_pick" pPick (spPick K)) (DN : DefOk P w K mg base CX0 7 "_law_names" pNames spNames)
    (DF : DefOk P w K mg base CX0 13 "_law_formula" pForm (spForm K)) (DL : DefOk P w K mg base CX0 7 "_law_long" pLong spLong) (DB : DefOk P w K mg base CX0 7 "_law_bent" pBent spBent) (DO : DefOk P w K mg base CX0 7 "_law_odd" pOdd (spOdd K))
    (DT : DefOk P w K mg base CX0 113 "_law_told" pTold (spRes K)) (DD : DefOk P w K mg base CX0 4 "_law_due" pDue (spRes K)) (F : Fun K "law" "law" sLaw f fd) : FnG P w K mg base CX0 115 f fd pLaw (spLaw K) := by
  refine fun_okG F scLaw (fun vs H Q E h => ?_) (fun cdv A outer s H vs Q E hG hr h => ?_)
  · unfold spLaw at h
    split at h
    · rfl
    · exact h.elim
  · have hu := hu_of hr
    refine ⟨_, (pss_cons (ps_set (i := 1) scLaw.nd rfl (.inl rfl) (pe_def DPen hr (by decide) (pa_cons (cv 0) pa_nil)))
  (pss_cons (ps_set (i := 2) scLaw.nd rfl (.inl rfl) pe_str)
  (pss_cons (ps_for PassesOwn.never rfl (pi_range1 (by rfl) B.range (pa_cons pe_int pa_nil)) (pg_name (i := 3) scLaw.nd rfl (.inl rfl))
  (pss_cons (ps_set (i := 4) scLaw.nd rfl (.inl rfl) (pe_def DN hr (by decide) (pa_cons (cv 1) (pa_cons (pe_def D hr (by decide) (pa_cons (cv 1) (pa_cons pe_int pa_nil))) pa_nil))))
  (pss_cons (ps_set (i := 5) scLaw.nd rfl (.inl rfl) (pe_def DP hr (by decide) (pa_cons (cv 1) (pa_cons (pe_op op_cat (pe_op op_rep (pe_lst (pa_cons (pe_ix ix_tup (pe_def DF hr (by decide) (pa_cons (cv 1) (pa_cons (pe_def D hr (by decide) (pa_cons (cv 1) (pa_cons pe_int pa_nil))) (pa_cons (cv 4) pa_nil)))) pe_int (fun _ _ => rfl)) pa_nil)) pe_int) (pe_lst (pa_cons (pe_def DL hr (by decide) (pa_cons (cv 1) pa_nil)) pa_nil))) pa_nil))))
  (pss_cons (ps_set (i := 6) scLaw.nd rfl (.inl rfl) (pe_lst (pa_cons (cv 5) (pa_cons (pe_def DB hr (by decide) (pa_cons (cv 1) (pa_cons (cv 5) (pa_cons (cv 2) pa_nil)))) (pa_cons (pe_def DO hr (by decide) (pa_cons (cv 1) pa_nil)) pa_nil)))))
  (pss_cons (ps_expr (pe_bm PySem.F.plainAttrs_list PySem.F.slot_list_append PySem.F.type_list_append mt_append (cv 6) (pa_cons (pe_def DP hr (by decide) (pa_cons (cv 1) (pa_cons (pe_lst (pa_cons pe_str (pa_cons pe_str (pa_cons pe_str (pa_cons pe_str (pa_cons pe_str (pa_cons pe_str (pa_cons pe_str (pa_cons pe_str pa_nil))))))))) pa_nil))) pa_nil)))
  (pss_cons (ps_expr (pe_bm PySem.F.plainAttrs_list PySem.F.slot_list_append PySem.F.type_list_append mt_append (cv 6) (pa_cons (pe_def DB hr (by decide) (pa_cons (cv 1) (pa_cons (pe_ix c_ixL (cv 6) pe_int (fun _ _ => rfl)) (pa_cons (cv 2) pa_nil)))) pa_nil)))
  (pss_cons (ps_expr (pe_bm PySem.F.plainAttrs_list PySem.F.slot_list_append PySem.F.type_list_append mt_append (cv 6) (pa_cons (pe_def DB hr (by decide) (pa_cons (cv 1) (pa_cons (pe_ix c_ixL (cv 6) pe_int (fun _ _ => rfl)) (pa_cons (cv 2) pa_nil)))) pa_nil)))
  (pss_cons (ps_expr (pe_bm PySem.F.plainAttrs_list PySem.F.slot_list_append PySem.F.type_list_append mt_append (cv 6) (pa_cons (pe_op op_add_str pe_str (cv 5)) pa_nil)))
  (pss_one (ps_for PassesOwn.never rfl (pi_list (cv 6)) (pg_name (i := 7) scLaw.nd rfl (.inl rfl))
  (pss_cons (ps_set (i := 8) scLaw.nd rfl (.inl rfl) (pe_callB (c_repr (by exact hG) (by exact hr.units)) (by rfl) B.repr (by decide +kernel) (pa_cons (cv 7) pa_nil)))
  (pss_one (ps_if (pt_cut (PW.pt (pw_or (ct_cmp op_ne (pe_callB (c_repr (by exact hG) (by exact hr.units)) (by rfl) B.repr (by decide +kernel) (pa_cons (pe_def DT hr (by decide) (pa_cons (cv 7) pa_nil)) pa_nil)) (pe_callB (c_repr (by exact hG) (by exact hr.units)) (by rfl) B.repr (by decide +kernel) (pa_cons (pe_def DD hr (by decide) (pa_cons (cv 7) pa_nil)) pa_nil)) (nomark _)) (pw_or1 (ct_cmp op_ne (pe_callB (c_repr (by exact hG) (by exact hr.units)) (by rfl) B.repr (by decide +kernel) (pa_cons (cv 7) pa_nil)) (cv 8) (nomark _))))))
  (pss_one (ps_ret pe_bl))
  pss_nil)))))))))))))
  (pss_one (ps_ret pe_bl))))), ?_⟩
    unfold spLaw at h
    split at h
    · rename_i a
      obtain ⟨ns, hS, hl, q⟩ := h
      refine ⟨ns, hS, hl, fun p H1 s1 P1 => ?_⟩
      refine ⟨24, rfl, by decide, by decide, for_range (n := 24) (fun r σ H' => (∃ e3 e4 e5 e6 e7 e8, σ = [some (.ref a), some (.ref p), some (.str "0123456789()+-*/, abminxself"), e3, e4, e5, e6, e7, e8]) ∧ PenB H' p ((24 - r) * 30000 + 1)) ⟨⟨_, _, _, _, _, _, rfl⟩, P1.mono (by decide)⟩ ?turn (fun σ H hP => q H)⟩
      rintro r σ H2 hr24 ⟨⟨e3, e4, e5, e6, e7, e8, rfl⟩, P2⟩
      obtain ⟨kk, hkk⟩ : ∃ kk, kk = (24 - (r + 1)) * 30000 + 1 := ⟨_, rfl⟩
      rw [← hkk]
      have P2 : PenB H2 p (kk + 29995 + 5) := P2.mono (by omega)
      refine ⟨kk + 29995, P2, by decide, by decide, fun m H3 m0 m1 P3 b3 => ?_⟩
      refine ⟨kk + 29900, P3.mono (by omega), m0, by omega, fun lw ws H4 hlw _ hw hn P4 b4 => ?_⟩
      refine ⟨kk + 29895, P4, by decide, by decide, fun d H5 d0 d1 P5 b5 => ?_⟩
      refine ⟨kk + 9000, ws, P5.mono (by omega), d0, by omega, b5.sq P4 (SqL.of hlw), hw, hn, fun fa v t s H6 hfa lt tk td ft sl P6 b6 => ?_⟩
      have so1 := ft.so hw tk
      refine ⟨fa, _, 1, .str s, rfl, rfl, SqT.of hfa, rfl, by show 1 ≤ sizeLine; decide, fun l1 n1 => ?_⟩
      refine ⟨l1, 3, _, rfl, rfl, upd_same, by decide, by decide, by show 1 * 3 ≤ sizeLine; decide, fun l2 n2 => ?_⟩
      have hl2 : upd (upd H6 l1 (.lst [V.str s])) l2 (.lst (List.replicate (3 : Int).toNat [V.str s]).flatten) l2 = some (.lst [V.str s, V.str s, V.str s]) := upd_same
      have Pg := (P6.same (same_new (o := .lst [V.str s]) n1)).same (same_new (o := .lst (List.replicate (3 : Int).toNat [V.str s]).flatten) n2)
      refine ⟨kk + 8985, Pg, fun s2 H7 so2 sl2 P7 b7 => ⟨by show 1 ≤ sizeLine; decide, fun l3 n3 => ?_⟩⟩
      refine ⟨l2, l3, _, _, rfl, rfl, same_new n3 _ _ (b7.keep l2 _ (Pg.neL hl2) hl2), upd_same, by show 4 ≤ sizeLine; decide, fun l4 n4 => ?_⟩
      refine ⟨kk + 8980, _, (P7.same (same_new n3)).same (same_new n4), SqL.of upd_same, by show 0 < 4; decide, by show 4 ≤ _; decide, fun x H8 hx P8 b8 => ?_⟩
      obtain ⟨tx, rfl, sot, tl⟩ : Gs x := by
        have : x = .str s ∨ x = .str s2 := by
          have hx : x ∈ [V.str s, .str s, .str s] ++ [V.str s2] := hx
          simp only [List.cons_append, List.nil_append, List.mem_cons, List.not_mem_nil, or_false] at hx
          rcases hx with h | h | h | h
          · exact .inl h
          · exact .inl h
          · exact .inl h
          · exact .inr h
        rcases this with h | h
        · exact ⟨s, h, so1, by omega⟩
        · exact ⟨s2, h, so2, sl2⟩
      have nr : So "0123456789()+-*/, abminxself" ∧ 0 < ("0123456789()+-*/, abminxself" : Str).length ∧ ("0123456789()+-*/, abminxself" : Str).length ≤ 1000 := ⟨.lit _, by decide +kernel, by decide +kernel⟩
      refine ⟨kk + 8960, P8, sot, nr.1, nr.2.1, nr.2.2, by omega, fun t1 H9 so3 sl3 P9 b9 => ?_⟩
      refine ⟨kk + 8955, fun b => b = p, P9, rfl, (fun b hb => by
        obtain ⟨c2, ns, b2, r, P, _⟩ := P9
        rw [hb, P.dict]; exact fun z => nomatch z), fun od Ho hod Po bo => ⟨by show 3 ≤ sizeLine; decide, fun l nl => ?_⟩⟩
      have fo : Fine K p Ho od := by
        obtain ⟨d, sv, f, _⟩ := hod
        exact ⟨d, sv, f⟩
      have f0 : Fine K p Ho (.str tx) := .str sot (by omega)
      have f1 : Fine K p Ho (.str t1) := .str so3 (by omega)
      -- the first one more
      have hl0 : upd Ho l (.lst [.str tx, .str t1, od]) l = some (.lst [.str tx, .str t1, od]) := upd_same
      have Pl0 := Po.same (same_new (o := .lst [.str tx, .str t1, od]) nl)
      have bl0 : But p Ho (upd Ho l (.lst [.str tx, .str t1, od])) := .of (same_new nl)
      generalize upd Ho l (.lst [.str tx, .str t1, od]) = G0 at hl0 Pl0 bl0
      refine ⟨.inl ⟨rfl, _, SqL.of hl0⟩, by show 8 ≤ sizeLine; decide, fun l5 n5 => ?_⟩
      refine ⟨kk + 8950, _, Pl0.same (same_new n5), SqL.of upd_same, by show 0 < 8; decide, by show 8 ≤ _; decide, fun y H11 hy P11 b11 => ?_⟩
      obtain ⟨c3, rfl, soc, cl⟩ : Gs y := by
        simp only [List.mem_cons, List.not_mem_nil, or_false] at hy
        rcases hy with h | h | h | h | h | h | h | h <;> exact ⟨_, h, .lit _, by rw [PySem.ofString_length]; decide⟩
      have bb1 := bl0.trans ((But.of (same_new n5)).trans b11)
      have lnp : l ≠ p := Pl0.neL hl0
      have hl1 := b11.keep l _ lnp (same_new n5 _ _ hl0)
      refine ⟨l, _, _, rfl, rfl, hl1, by show 3 < sizeLine; decide, ?_⟩
      have bb2 := bb1.lst Po nl (o := .lst ([.str tx, .str t1, od] ++ [.str c3]))
      have Pl1 := P11.lst hl1 (cel_ne Po bb1 nl) (o := .lst ([.str tx, .str t1, od] ++ [.str c3]))
      have hl2 : upd H11 l (.lst ([.str tx, .str t1, od] ++ [.str c3])) l = some (.lst [.str tx, .str t1, od, .str c3]) := upd_same
      generalize upd H11 l (.lst ([.str tx, .str t1, od] ++ [.str c3])) = G1 at bb2 Pl1 hl2
      -- the second one
      refine ⟨.inl ⟨rfl, _, SqL.of hl2⟩, _, .str t1, SqL.of hl2, rfl, ?_⟩
      refine ⟨kk + 8930, Pl1, so3, nr.1, nr.2.1, nr.2.2, by omega, fun t2 H12 so4 sl4 P12 b12 => ?_⟩
      have bb3 := bb2.trans b12
      have hl3 := b12.keep l _ lnp hl2
      refine ⟨l, _, _, rfl, rfl, hl3, by show 4 < sizeLine; decide, ?_⟩
      have bb4 := bb3.lst Po nl (o := .lst ([.str tx, .str t1, od, .str c3] ++ [.str t2]))
      have Pl2 := P12.lst hl3 (cel_ne Po bb3 nl) (o := .lst ([.str tx, .str t1, od, .str c3] ++ [.str t2]))
      have hl4 : upd H12 l (.lst ([.str tx, .str t1, od, .str c3] ++ [.str t2])) l = some (.lst [.str tx, .str t1, od, .str c3, .str t2]) := upd_same
      generalize upd H12 l (.lst ([.str tx, .str t1, od, .str c3] ++ [.str t2])) = G2 at bb4 Pl2 hl4
      -- the third one
      refine ⟨.inl ⟨rfl, _, SqL.of hl4⟩, _, .str t2, SqL.of hl4, rfl, ?_⟩
      refine ⟨kk + 8910, Pl2, so4, nr.1, nr.2.1, nr.2.2, by omega, fun t3 H13 so5 sl5 P13 b13 => ?_⟩
      have bb5 := bb4.trans b13
      have hl5 := b13.keep l _ lnp hl4
      refine ⟨l, _, _, rfl, rfl, hl5, by show 5 < sizeLine; decide, ?_⟩
      have bb6 := bb5.lst Po nl (o := .lst ([.str tx, .str t1, od, .str c3, .str t2] ++ [.str t3]))
      have Pl3 := P13.lst hl5 (cel_ne Po bb5 nl) (o := .lst ([.str tx, .str t1, od, .str c3, .str t2] ++ [.str t3]))
      have hl6 : upd H13 l (.lst ([.str tx, .str t1, od, .str c3, .str t2] ++ [.str t3])) l = some (.lst [.str tx, .str t1, od, .str c3, .str t2, .str t3]) := upd_same
      generalize upd H13 l (.lst ([.str tx, .str t1, od, .str c3, .str t2] ++ [.str t3])) = G3 at bb6 Pl3 hl6
      -- the last one
      have x1 : ("x" : Str).length = 1 := by decide +kernel
      refine ⟨.inl ⟨rfl, _, SqL.of hl6⟩, _, _, rfl, rfl, Nat.le_trans (show _ ≤ 5001 by rw [x1]; omega) (by decide), l, _, _, rfl, rfl, hl6, by show 6 < sizeLine; decide, ?_⟩
      have bb7 := bb6.lst Po nl (o := .lst ([.str tx, .str t1, od, .str c3, .str t2, .str t3] ++ [.str ("x" ++ tx)]))
      have Pl4 := Pl3.lst hl6 (cel_ne Po bb6 nl) (o := .lst ([.str tx, .str t1, od, .str c3, .str t2, .str t3] ++ [.str ("x" ++ tx)]))
      have hl7 : upd G3 l (.lst ([.str tx, .str t1, od, .str c3, .str t2, .str t3] ++ [.str ("x" ++ tx)])) l = some (.lst [.str tx, .str t1, od, .str c3, .str t2, .str t3, .str ("x" ++ tx)]) := upd_same
      generalize upd G3 l (.lst ([.str tx, .str t1, od, .str c3, .str t2, .str t3] ++ [.str ("x" ++ tx)])) = G4 at bb7 Pl4 hl7
      have all : ∀ x ∈ [V.str tx, .str t1, od, .str c3, .str t2, .str t3, .str ("x" ++ tx)], Fine K p Ho x := fun x hx => by
        simp only [List.mem_cons, List.not_mem_nil, or_false] at hx
        rcases hx with rfl | rfl | rfl | rfl | rfl | rfl | rfl
        · exact f0
        · exact f1
        · exact fo
        · exact .str soc (by omega)
        · exact .str so4 (by omega)
        · exact .str so5 (by omega)
        · exact .str ((So.lit _).app sot) (by rw [app_len, x1]; omega)
      refine ⟨l, rfl, ⟨_, SqL.of hl7⟩, for_list (xs := [V.str tx, .str t1, od, .str c3, .str t2, .str t3, .str ("x" ++ tx)]) (fun i σ H' => (∃ e3 e7 e8, σ = [some (.ref a), some (.ref p), some (.str "0123456789()+-*/, abminxself"), e3, some (.ref lw), some (.str tx), some (.ref l), e7, e8]) ∧ H' l = some (.lst [V.str tx, .str t1, od, .str c3, .str t2, .str t3, .str ("x" ++ tx)]) ∧ PenB H' p kk ∧ But p Ho H')
        ⟨⟨_, _, _, rfl⟩, hl7, Pl4.mono (by omega), bb7⟩ (fun i σ H' _ h => SqL.of h.2.1) ?each ?done⟩
      case done =>
        rintro σ H' ⟨⟨e3, e7, e8, rfl⟩, _, PP, _⟩
        exact ⟨⟨_, _, _, _, _, _, rfl⟩, PP⟩
      case each =>
        rintro i x σ H' hx ⟨⟨e3, e7, e8, rfl⟩, hl', PP, bb⟩
        have mem := List.mem_of_getElem? hx
        have fx := all x mem
        have hlen : ∀ s, x = .str s → s.length ≤ sizeLine := fun s e => Fine.len (e ▸ fx)
        obtain ⟨d, sv, fd⟩ := fx
        have dq : ∀ {H2}, Same H' H2 → Dq K H2 x d := fun s2 => sv _ ((BN.but (M := fun b => b = p) rfl bb).trans (.of s2))
        refine ⟨d, dq (Same.refl _), fd, ?_⟩
        refine ⟨fun b H2 => b = false ∧ Same H' H2, ?_, ?_⟩
        · refine ⟨(dq (Same.refl _)).bk, hlen, ?_⟩
          cases hdu : duR x with
          | inl n =>
            intro l1 H1 s1 h1
            have few := du_few hdu
            refine ⟨.list [.str "wrong", .int (n : Nat), .bool true], .lst (SqL.of h1) (.cons (.str _) (.cons (.int _) (.cons (.bl _) .nil))), fit_w few, ?_⟩
            refine ⟨(dq s1).bk, hlen, ?_⟩
            rw [hdu]
            intro l2 H2 s2 h2
            refine ⟨.list [.str "wrong", .int (n : Nat), .bool true], .lst (SqL.of h2) (.cons (.str _) (.cons (.int _) (.cons (.bl _) .nil))), fit_w few, rfl, ?_⟩
            rw [decide_eq_true rfl]
            show if false = true then _ else _
            rw [if_neg Bool.false_ne_true]
            refine ⟨d, dq (s1.trans s2), fd, rfl, ?_, s1.trans s2⟩
            rw [decide_eq_true rfl] <;> rfl
          | inr ns =>
            intro l1 ys H1 s1 h1 yp yo
            obtain ⟨hw1, hn1⟩ := du_names hdu
            have tl := TX.tAll_len ns []
            have hy : ∀ y ∈ ys, Ww y := fun y hy => by
              have := (TX.tAll_mem ns).mp (yp.mem_iff.mp hy)
              rcases this with h | h
              · exact hw1 y h
              · cases h
            have hyn : ys.length ≤ 50 := by
              rw [yp.length_eq]
              simp only [List.length_nil] at tl
              omega
            refine ⟨.tuple (ys.map .str), .tup (SqT.of h1) (dqa_str ys), fit_names hy hyn, ?_⟩
            refine ⟨(dq s1).bk, hlen, ?_⟩
            rw [hdu]
            intro l2 zs H2 s2 h2 zp zo
            have e : zs = ys := sort_one zo yo (zp.trans yp.symm)
            subst e
            refine ⟨.tuple (zs.map .str), .tup (SqT.of h2) (dqa_str zs), fit_names hy hyn, rfl, ?_⟩
            rw [decide_eq_true rfl]
            show if false = true then _ else _
            rw [if_neg Bool.false_ne_true]
            refine ⟨d, dq (s1.trans s2), fd, rfl, ?_, s1.trans s2⟩
            rw [decide_eq_true rfl] <;> rfl
        · rintro b H2 ⟨rfl, s2⟩
          show if false = true then _ else _
          rw [if_neg Bool.false_ne_true]
          exact ⟨⟨_, _, _, rfl⟩, s2 _ _ hl', PP.same s2, bb.trans (.of s2)⟩
    · exact h.elim
end
end Rk

set_option Elab.async false
set_option linter.all false
set_option maxRecDepth 100000
set_option maxHeartbeats 4000000
namespace Rk
open PySem PySem.Spec PyProof.Rows L2 CL Fm
abbrev sPeI : Stmt := inClass (topS 2) 0
abbrev nPeI : List Str := ["self", "index"]
abbrev pPeI : List Str := ["self", "index"]
theorem scPeI : FnScope nPeI pPeI (defScope sPeI) := ⟨rfl, rfl, rfl, by decide +kernel, rfl, by decide +kernel, by decide +kernel⟩
section
variable {P : Program} {w : World} {K : PySem.W.Frag} {mg : Str → Option Value} {base : Heap}
abbrev VeInit (K : PySem.W.Frag) : Prop := PySem.W.findCls K (.type "ValueError") (.type "type") "__init__" = some (.val (.builtin "ValueError.__init__"))
theorem ok_PeI {C fI : Addr} {fd : FuncData} (hV : mg "ValueError" = none) (vV : VeInit K) (ox : OexC K C) (nv : PySem.W.findIn K (.ref C) "index" = some none) (F : Fun K "__init__" "ParseError.__init__" sPeI fI fd) :
    FnOk P w K mg base CX0 1 fI fd ["self", "index"] (spErr C "index") := by
  refine F.ok scPeI (fun vs H Q E h => ?_) (fun cdv A outer s H vs Q E hr h => ?_)
  · unfold spErr at h
    split at h
    · rfl
    · exact h.elim
  · refine ⟨_, (pss_cons (ps_expr (pe_veinit (by rfl) hV vV (pa_cons (cv 0) (pa_cons pe_str pa_nil))))
  (pss_one (ps_ost (cv 0) (cv 1)))), ?_⟩
    unfold spErr at h
    split at h
    · rename_i a v
      obtain ⟨ha, q⟩ := h
      exact ⟨a, C, _, rfl, by show (1 : Nat) ≤ 1000; decide, ox, ha, a, C, rfl, ox, nv, .inl ⟨ha, q⟩⟩
    · exact h.elim
end
end Rk

set_option Elab.async false
set_option linter.all false
set_option maxRecDepth 100000
set_option maxHeartbeats 8000000
namespace Rk
open PySem PySem.Spec PyProof.Rows L2 CL Fm
theorem all_mk {P : Program} {w : World} {K : PySem.W.Frag} {h : Heap} {mg : Str → Option Value} {fa : Addr} {f1 : Addr}
    {od1 an1 : Option Addr}
    {sl1 : Array (Option Value)}
    {oc1 kV1 dc1 pm1 ct1 cd1 : Value}
    {f2 : Addr}
    {od2 an2 : Option Addr}
    {sl2 : Array (Option Value)}
    {oc2 kV2 dc2 pm2 ct2 cd2 : Value}
    {f3 : Addr}
    {od3 an3 : Option Addr}
    {sl3 : Array (Option Value)}
    {oc3 kV3 dc3 pm3 ct3 cd3 : Value}
    {f4 : Addr}
    {od4 an4 : Option Addr}
    {sl4 : Array (Option Value)}
    {oc4 kV4 dc4 pm4 ct4 cd4 : Value}
    {f5 : Addr}
    {od5 an5 : Option Addr}
    {sl5 : Array (Option Value)}
    {oc5 kV5 dc5 pm5 ct5 cd5 : Value}
    {f6 : Addr}
    {od6 an6 : Option Addr}
    {sl6 : Array (Option Value)}
    {oc6 kV6 dc6 pm6 ct6 cd6 : Value}
    {f7 : Addr}
    {od7 an7 : Option Addr}
    {sl7 : Array (Option Value)}
    {oc7 kV7 dc7 pm7 ct7 cd7 : Value}
    {f8 : Addr}
    {od8 an8 : Option Addr}
    {sl8 : Array (Option Value)}
    {oc8 kV8 dc8 pm8 ct8 cd8 : Value}
    {f9 : Addr}
    {od9 an9 : Option Addr}
    {sl9 : Array (Option Value)}
    {oc9 kV9 dc9 pm9 ct9 cd9 : Value}
    {f10 : Addr}
    {od10 an10 : Option Addr}
    {sl10 : Array (Option Value)}
    {oc10 kV10 dc10 pm10 ct10 cd10 : Value}
    {f11 : Addr}
    {od11 an11 : Option Addr}
    {sl11 : Array (Option Value)}
    {oc11 kV11 dc11 pm11 ct11 cd11 : Value}
    {f12 : Addr}
    {od12 an12 : Option Addr}
    {sl12 : Array (Option Value)}
    {oc12 kV12 dc12 pm12 ct12 cd12 : Value}
    {f13 : Addr}
    {od13 an13 : Option Addr}
    {sl13 : Array (Option Value)}
    {oc13 kV13 dc13 pm13 ct13 cd13 : Value}
    {f14 : Addr}
    {od14 an14 : Option Addr}
    {sl14 : Array (Option Value)}
    {oc14 kV14 dc14 pm14 ct14 cd14 : Value}
    {f15 : Addr}
    {od15 an15 : Option Addr}
    {sl15 : Array (Option Value)}
    {oc15 kV15 dc15 pm15 ct15 cd15 : Value}
    {f16 : Addr}
    {od16 an16 : Option Addr}
    {sl16 : Array (Option Value)}
    {oc16 kV16 dc16 pm16 ct16 cd16 : Value}
    {f17 : Addr}
    {od17 an17 : Option Addr}
    {sl17 : Array (Option Value)}
    {oc17 kV17 dc17 pm17 ct17 cd17 : Value}
    {f18 : Addr}
    {od18 an18 : Option Addr}
    {sl18 : Array (Option Value)}
    {oc18 kV18 dc18 pm18 ct18 cd18 : Value}
    {f19 : Addr}
    {od19 an19 : Option Addr}
    {sl19 : Array (Option Value)}
    {oc19 kV19 dc19 pm19 ct19 cd19 : Value}
    {f20 : Addr}
    {od20 an20 : Option Addr}
    {sl20 : Array (Option Value)}
    {oc20 kV20 dc20 pm20 ct20 cd20 : Value}
    {tkD : Tok}
    {tkL : Tok}
    {tkMD : Tok}
    {tkML : Tok}
    {tkM : Tok}
    {tP : Addr}
    {dtP : Option Addr}
    {itP : Array Value}
    {ntP : Nat}
    {stP : Array (Option Value)}
    {tR : Addr}
    {dtR : Option Addr}
    {itR : Array Value}
    {ntR : Nat}
    {stR : Array (Option Value)}
    {CeP NeP : Addr}
    {nmeP qeP : Str}
    {bseP bmeP sueP : List Value}
    {sneP : List Str}
    {abeP : Bool}
    {coeP : Option Bool}
    {ddeP : Option Addr}
    {kaeP kbeP kceP kdeP keeP : Option Value}
    {feP : Addr}
    {odeP aneP : Option Addr}
    {sleP : Array (Option Value)}
    {oceP kVeP dceP pmeP cteP cdeP : Value}
    {CQ : Addr}
    {fr0 : Addr}
    {odr0 anr0 : Option Addr}
    {slr0 : Array (Option Value)}
    {ocr0 kVr0 dcr0 pmr0 ctr0 cdr0 : Value}
    {fr1 : Addr}
    {odr1 anr1 : Option Addr}
    {slr1 : Array (Option Value)}
    {ocr1 kVr1 dcr1 pmr1 ctr1 cdr1 : Value}
    {fr2 : Addr}
    {odr2 anr2 : Option Addr}
    {slr2 : Array (Option Value)}
    {ocr2 kVr2 dcr2 pmr2 ctr2 cdr2 : Value}
    {fr3 : Addr}
    {odr3 anr3 : Option Addr}
    {slr3 : Array (Option Value)}
    {ocr3 kVr3 dcr3 pmr3 ctr3 cdr3 : Value}
    {fr4 : Addr}
    {odr4 anr4 : Option Addr}
    {slr4 : Array (Option Value)}
    {ocr4 kVr4 dcr4 pmr4 ctr4 cdr4 : Value}
    {fr5 : Addr}
    {odr5 anr5 : Option Addr}
    {slr5 : Array (Option Value)}
    {ocr5 kVr5 dcr5 pmr5 ctr5 cdr5 : Value}
    {fr6 : Addr}
    {odr6 anr6 : Option Addr}
    {slr6 : Array (Option Value)}
    {ocr6 kVr6 dcr6 pmr6 ctr6 cdr6 : Value}
    {fr7 : Addr}
    {odr7 anr7 : Option Addr}
    {slr7 : Array (Option Value)}
    {ocr7 kVr7 dcr7 pmr7 ctr7 cdr7 : Value}
    {fr8 : Addr}
    {odr8 anr8 : Option Addr}
    {slr8 : Array (Option Value)}
    {ocr8 kVr8 dcr8 pmr8 ctr8 cdr8 : Value}
    {fr9 : Addr}
    {odr9 anr9 : Option Addr}
    {slr9 : Array (Option Value)}
    {ocr9 kVr9 dcr9 pmr9 ctr9 cdr9 : Value}
    {CF : Addr}
    {fq0 : Addr}
    {odq0 anq0 : Option Addr}
    {slq0 : Array (Option Value)}
    {ocq0 kVq0 dcq0 pmq0 ctq0 cdq0 : Value} (X : K.In h) (G : h.Ns mainGlobals mg) (hfa : mg "law" = some (.ref fa))
    (n_isinstance : PySem.W.nsIn K mainGlobals "isinstance" = some none)
    (n_int : PySem.W.nsIn K mainGlobals "int" = some none)
    (n_str : PySem.W.nsIn K mainGlobals "str" = some none)
    (n_len : PySem.W.nsIn K mainGlobals "len" = some none)
    (n_tuple : PySem.W.nsIn K mainGlobals "tuple" = some none)
    (n_sorted : PySem.W.nsIn K mainGlobals "sorted" = some none)
    (n_set : PySem.W.nsIn K mainGlobals "set" = some none)
    (n_abs : PySem.W.nsIn K mainGlobals "abs" = some none)
    (n_max : PySem.W.nsIn K mainGlobals "max" = some none)
    (n_min : PySem.W.nsIn K mainGlobals "min" = some none)
    (n_range : PySem.W.nsIn K mainGlobals "range" = some none)
    (n_list : PySem.W.nsIn K mainGlobals "list" = some none)
    (n_repr : PySem.W.nsIn K mainGlobals "repr" = some none)
    (n_ValueError : PySem.W.nsIn K mainGlobals "ValueError" = some none)
    (a1 : PySem.W.nsIn K mainGlobals "_law_run_of" = some (some (.ref f1)))
    (l1 : K.lookup f1 = some ⟨oc1, od1, .func (PySem.W.fnOf "_law_run_of" "_law_run_of" (defArgs sRun) (defBody sRun) (defScope sRun) .none kV1 dc1 pm1 an1 cd1 ct1), sl1⟩)
    (c1 : PySem.W.codeIn K cd1 "_law_run_of" = true)
    (k1 : PySem.W.keepIn K (.ref f1) = true)
    (a2 : PySem.W.nsIn K mainGlobals "_law_behind" = some (some (.ref f2)))
    (l2 : K.lookup f2 = some ⟨oc2, od2, .func (PySem.W.fnOf "_law_behind" "_law_behind" (defArgs sBeh) (defBody sBeh) (defScope sBeh) .none kV2 dc2 pm2 an2 cd2 ct2), sl2⟩)
    (c2 : PySem.W.codeIn K cd2 "_law_behind" = true)
    (k2 : PySem.W.keepIn K (.ref f2) = true)
    (a3 : PySem.W.nsIn K mainGlobals "_law_operand" = some (some (.ref f3)))
    (l3 : K.lookup f3 = some ⟨oc3, od3, .func (PySem.W.fnOf "_law_operand" "_law_operand" (defArgs sOpe) (defBody sOpe) (defScope sOpe) .none kV3 dc3 pm3 an3 cd3 ct3), sl3⟩)
    (c3 : PySem.W.codeIn K cd3 "_law_operand" = true)
    (k3 : PySem.W.keepIn K (.ref f3) = true)
    (a4 : PySem.W.nsIn K mainGlobals "_law_wrong_at" = some (some (.ref f4)))
    (l4 : K.lookup f4 = some ⟨oc4, od4, .func (PySem.W.fnOf "_law_wrong_at" "_law_wrong_at" (defArgs sWr) (defBody sWr) (defScope sWr) .none kV4 dc4 pm4 an4 cd4 ct4), sl4⟩)
    (c4 : PySem.W.codeIn K cd4 "_law_wrong_at" = true)
    (k4 : PySem.W.keepIn K (.ref f4) = true)
    (a5 : PySem.W.nsIn K mainGlobals "_law_draw" = some (some (.ref f5)))
    (l5 : K.lookup f5 = some ⟨oc5, od5, .func (PySem.W.fnOf "_law_draw" "_law_draw" (defArgs sDraw) (defBody sDraw) (defScope sDraw) .none kV5 dc5 pm5 an5 cd5 ct5), sl5⟩)
    (c5 : PySem.W.codeIn K cd5 "_law_draw" = true)
    (k5 : PySem.W.keepIn K (.ref f5) = true)
    (a6 : PySem.W.nsIn K mainGlobals "_law_pick" = some (some (.ref f6)))
    (l6 : K.lookup f6 = some ⟨oc6, od6, .func (PySem.W.fnOf "_law_pick" "_law_pick" (defArgs sPick) (defBody sPick) (defScope sPick) .none kV6 dc6 pm6 an6 cd6 ct6), sl6⟩)
    (c6 : PySem.W.codeIn K cd6 "_law_pick" = true)
    (k6 : PySem.W.keepIn K (.ref f6) = true)
    (a7 : PySem.W.nsIn K mainGlobals "_law_around" = some (some (.ref f7)))
    (l7 : K.lookup f7 = some ⟨oc7, od7, .func (PySem.W.fnOf "_law_around" "_law_around" (defArgs sAround) (defBody sAround) (defScope sAround) .none kV7 dc7 pm7 an7 cd7 ct7), sl7⟩)
    (c7 : PySem.W.codeIn K cd7 "_law_around" = true)
    (k7 : PySem.W.keepIn K (.ref f7) = true)
    (a8 : PySem.W.nsIn K mainGlobals "_law_great" = some (some (.ref f8)))
    (l8 : K.lookup f8 = some ⟨oc8, od8, .func (PySem.W.fnOf "_law_great" "_law_great" (defArgs sGreat) (defBody sGreat) (defScope sGreat) .none kV8 dc8 pm8 an8 cd8 ct8), sl8⟩)
    (c8 : PySem.W.codeIn K cd8 "_law_great" = true)
    (k8 : PySem.W.keepIn K (.ref f8) = true)
    (a9 : PySem.W.nsIn K mainGlobals "_law_names" = some (some (.ref f9)))
    (l9 : K.lookup f9 = some ⟨oc9, od9, .func (PySem.W.fnOf "_law_names" "_law_names" (defArgs sNames) (defBody sNames) (defScope sNames) .none kV9 dc9 pm9 an9 cd9 ct9), sl9⟩)
    (c9 : PySem.W.codeIn K cd9 "_law_names" = true)
    (k9 : PySem.W.keepIn K (.ref f9) = true)
    (a10 : PySem.W.nsIn K mainGlobals "_law_gap" = some (some (.ref f10)))
    (l10 : K.lookup f10 = some ⟨oc10, od10, .func (PySem.W.fnOf "_law_gap" "_law_gap" (defArgs sGap) (defBody sGap) (defScope sGap) .none kV10 dc10 pm10 an10 cd10 ct10), sl10⟩)
    (c10 : PySem.W.codeIn K cd10 "_law_gap" = true)
    (k10 : PySem.W.keepIn K (.ref f10) = true)
    (a11 : PySem.W.nsIn K mainGlobals "_law_tree" = some (some (.ref f11)))
    (l11 : K.lookup f11 = some ⟨oc11, od11, .func (PySem.W.fnOf "_law_tree" "_law_tree" (defArgs sTree) (defBody sTree) (defScope sTree) .none kV11 dc11 pm11 an11 cd11 ct11), sl11⟩)
    (c11 : PySem.W.codeIn K cd11 "_law_tree" = true)
    (k11 : PySem.W.keepIn K (.ref f11) = true)
    (a12 : PySem.W.nsIn K mainGlobals "_law_text_of" = some (some (.ref f12)))
    (l12 : K.lookup f12 = some ⟨oc12, od12, .func (PySem.W.fnOf "_law_text_of" "_law_text_of" (defArgs sTextOf) (defBody sTextOf) (defScope sTextOf) .none kV12 dc12 pm12 an12 cd12 ct12), sl12⟩)
    (c12 : PySem.W.codeIn K cd12 "_law_text_of" = true)
    (k12 : PySem.W.keepIn K (.ref f12) = true)
    (a13 : PySem.W.nsIn K mainGlobals "_law_formula" = some (some (.ref f13)))
    (l13 : K.lookup f13 = some ⟨oc13, od13, .func (PySem.W.fnOf "_law_formula" "_law_formula" (defArgs sForm) (defBody sForm) (defScope sForm) .none kV13 dc13 pm13 an13 cd13 ct13), sl13⟩)
    (c13 : PySem.W.codeIn K cd13 "_law_formula" = true)
    (k13 : PySem.W.keepIn K (.ref f13) = true)
    (a14 : PySem.W.nsIn K mainGlobals "_law_bent" = some (some (.ref f14)))
    (l14 : K.lookup f14 = some ⟨oc14, od14, .func (PySem.W.fnOf "_law_bent" "_law_bent" (defArgs sBent) (defBody sBent) (defScope sBent) .none kV14 dc14 pm14 an14 cd14 ct14), sl14⟩)
    (c14 : PySem.W.codeIn K cd14 "_law_bent" = true)
    (k14 : PySem.W.keepIn K (.ref f14) = true)
    (a15 : PySem.W.nsIn K mainGlobals "_law_long" = some (some (.ref f15)))
    (l15 : K.lookup f15 = some ⟨oc15, od15, .func (PySem.W.fnOf "_law_long" "_law_long" (defArgs sLong) (defBody sLong) (defScope sLong) .none kV15 dc15 pm15 an15 cd15 ct15), sl15⟩)
    (c15 : PySem.W.codeIn K cd15 "_law_long" = true)
    (k15 : PySem.W.keepIn K (.ref f15) = true)
    (a16 : PySem.W.nsIn K mainGlobals "_law_odd" = some (some (.ref f16)))
    (l16 : K.lookup f16 = some ⟨oc16, od16, .func (PySem.W.fnOf "_law_odd" "_law_odd" (defArgs sOdd) (defBody sOdd) (defScope sOdd) .none kV16 dc16 pm16 an16 cd16 ct16), sl16⟩)
    (c16 : PySem.W.codeIn K cd16 "_law_odd" = true)
    (k16 : PySem.W.keepIn K (.ref f16) = true)
    (a17 : PySem.W.nsIn K mainGlobals "_law_told" = some (some (.ref f17)))
    (l17 : K.lookup f17 = some ⟨oc17, od17, .func (PySem.W.fnOf "_law_told" "_law_told" (defArgs sTold) (defBody sTold) (defScope sTold) .none kV17 dc17 pm17 an17 cd17 ct17), sl17⟩)
    (c17 : PySem.W.codeIn K cd17 "_law_told" = true)
    (k17 : PySem.W.keepIn K (.ref f17) = true)
    (a18 : PySem.W.nsIn K mainGlobals "_law_due" = some (some (.ref f18)))
    (l18 : K.lookup f18 = some ⟨oc18, od18, .func (PySem.W.fnOf "_law_due" "_law_due" (defArgs sDue) (defBody sDue) (defScope sDue) .none kV18 dc18 pm18 an18 cd18 ct18), sl18⟩)
    (c18 : PySem.W.codeIn K cd18 "_law_due" = true)
    (k18 : PySem.W.keepIn K (.ref f18) = true)
    (a19 : PySem.W.nsIn K mainGlobals "_law_pen" = some (some (.ref f19)))
    (l19 : K.lookup f19 = some ⟨oc19, od19, .func (PySem.W.fnOf "_law_pen" "_law_pen" (defArgs sPen) (defBody sPen) (defScope sPen) .none kV19 dc19 pm19 an19 cd19 ct19), sl19⟩)
    (c19 : PySem.W.codeIn K cd19 "_law_pen" = true)
    (k19 : PySem.W.keepIn K (.ref f19) = true)
    (a20 : PySem.W.nsIn K mainGlobals "law" = some (some (.ref f20)))
    (l20 : K.lookup f20 = some ⟨oc20, od20, .func (PySem.W.fnOf "law" "law" (defArgs sLaw) (defBody sLaw) (defScope sLaw) .none kV20 dc20 pm20 an20 cd20 ct20), sl20⟩)
    (c20 : PySem.W.codeIn K cd20 "law" = true)
    (k20 : PySem.W.keepIn K (.ref f20) = true)
    (kD : PySem.W.nsIn K mainGlobals "DIGITS" = some (some (.str "0123456789" tkD)))
    (kL : PySem.W.nsIn K mainGlobals "LETTERS" = some (some (.str "abcdefghijklmnopqrstuvwxyz" tkL)))
    (kMD : PySem.W.nsIn K mainGlobals "MAX_DIGITS" = some (some (.int 31 tkMD)))
    (kML : PySem.W.nsIn K mainGlobals "MAX_LETTERS" = some (some (.int 8 tkML)))
    (kM : PySem.W.nsIn K mainGlobals "MAX_LENGTH" = some (some (.int 100 tkM)))
    (atP : PySem.W.nsIn K mainGlobals "PAIRS" = some (some (.ref tP)))
    (ltP : K.lookup tP = some ⟨.type "tuple", dtP, .seq itP ntP, stP⟩)
    (ztP : itP.size ≤ sizeLine)
    (vtP : Vals [V.str "min", V.str "max"] itP.toList)
    (atR : PySem.W.nsIn K mainGlobals "RESERVED" = some (some (.ref tR)))
    (ltR : K.lookup tR = some ⟨.type "tuple", dtR, .seq itR ntR, stR⟩)
    (ztR : itR.size ≤ sizeLine)
    (vtR : Vals [V.str "min", V.str "max", V.str "self"] itR.toList)
    (vV : PySem.W.findCls K (.type "ValueError") (.type "type") "__init__" = some (.val (.builtin "ValueError.__init__")))
    (geP : PySem.W.nsIn K mainGlobals "ParseError" = some (some (.ref CeP)))
    (lceP : K.lookup CeP = some (excClassObj nmeP qeP CeP NeP bseP bmeP true sneP sueP abeP coeP ddeP kaeP kbeP kceP kdeP keeP "ValueError.__new__"))
    (rveP : PySem.HandSPX.refsVE bmeP = true)
    (saeP : PySem.W.findIn K (.ref CeP) "__setattr__" = some (some (.builtin "object.__setattr__")))
    (beeP : PySem.W.subIn K (.ref CeP) (.type "BaseException") = some true)
    (veeP : PySem.W.subIn K (.ref CeP) (.type "ValueError") = some true)
    (tyeP : PySem.W.typeIn K (.ref CeP) = some (.type "type"))
    (ke_eP : PySem.W.keepIn K (.ref CeP) = true)
    (gaeP : PySem.W.findIn K (.ref CeP) "__getattribute__" = some (some (.builtin "BaseException.__getattribute__")))
    (ggeP : PySem.W.findIn K (.ref CeP) "__getattr__" = some none)
    (hdeP : PySem.W.hasDictIn K CeP = true)
    (nveP : PySem.W.findIn K (.ref CeP) "index" = some none)
    (sueP_ : PySem.W.subIn K (.ref CeP) (.ref CeP) = some true)
    (aeP : PySem.W.findIn K (.ref CeP) "__init__" = some (some (.ref feP)))
    (leP : K.lookup feP = some ⟨oceP, odeP, .func (PySem.W.fnOf "__init__" "ParseError.__init__" (defArgs sPeI) (defBody sPeI) (defScope sPeI) .none kVeP dceP pmeP aneP cdeP cteP), sleP⟩)
    (ceP : PySem.W.codeIn K cdeP "ParseError.__init__" = true)
    (keP : PySem.W.keepIn K (.ref feP) = true)
    (tfeP : PySem.W.typeIn K (.ref feP) = some (.type "function"))
    (gCQ : PySem.W.nsIn K mainGlobals "Reader" = some (some (.ref CQ)))
    (pgQ : PySem.W.plainGet K CQ Str.empty = true)
    (hiQ : PySem.W.hasDictIn K CQ = true)
    (poQ : PySem.W.plainOver K CQ = true)
    (scQ : PySem.W.findIn K (.ref CQ) "__setattr__" = some (some (.builtin "object.__setattr__")))
    (mkQ : PySem.W.makesIn K CQ = true)
    (kpQ : PySem.W.keepIn K (.ref CQ) = true)
    (naQ_chars : PySem.W.findIn K (.ref CQ) "chars" = some none)
    (naQ_spot : PySem.W.findIn K (.ref CQ) "spot" = some none)
    (naQ_found_names : PySem.W.findIn K (.ref CQ) "found_names" = some none)
    (ar0 : PySem.W.findIn K (.ref CQ) "__init__" = some (some (.ref fr0)))
    (lr0 : K.lookup fr0 = some ⟨ocr0, odr0, .func (PySem.W.fnOf "__init__" "Reader.__init__" (defArgs sRInit) (defBody sRInit) (defScope sRInit) .none kVr0 dcr0 pmr0 anr0 cdr0 ctr0), slr0⟩)
    (cr0 : PySem.W.codeIn K cdr0 "Reader.__init__" = true)
    (kr0 : PySem.W.keepIn K (.ref fr0) = true)
    (ir0 : PySem.W.isFn K (.ref fr0) = true)
    (ar1 : PySem.W.findIn K (.ref CQ) "skip" = some (some (.ref fr1)))
    (lr1 : K.lookup fr1 = some ⟨ocr1, odr1, .func (PySem.W.fnOf "skip" "Reader.skip" (defArgs sSkip) (defBody sSkip) (defScope sSkip) .none kVr1 dcr1 pmr1 anr1 cdr1 ctr1), slr1⟩)
    (cr1 : PySem.W.codeIn K cdr1 "Reader.skip" = true)
    (kr1 : PySem.W.keepIn K (.ref fr1) = true)
    (ir1 : PySem.W.isFn K (.ref fr1) = true)
    (ar2 : PySem.W.findIn K (.ref CQ) "need" = some (some (.ref fr2)))
    (lr2 : K.lookup fr2 = some ⟨ocr2, odr2, .func (PySem.W.fnOf "need" "Reader.need" (defArgs sNeed) (defBody sNeed) (defScope sNeed) .none kVr2 dcr2 pmr2 anr2 cdr2 ctr2), slr2⟩)
    (cr2 : PySem.W.codeIn K cdr2 "Reader.need" = true)
    (kr2 : PySem.W.keepIn K (.ref fr2) = true)
    (ir2 : PySem.W.isFn K (.ref fr2) = true)
    (ar3 : PySem.W.findIn K (.ref CQ) "whole" = some (some (.ref fr3)))
    (lr3 : K.lookup fr3 = some ⟨ocr3, odr3, .func (PySem.W.fnOf "whole" "Reader.whole" (defArgs sWhole) (defBody sWhole) (defScope sWhole) .none kVr3 dcr3 pmr3 anr3 cdr3 ctr3), slr3⟩)
    (cr3 : PySem.W.codeIn K cdr3 "Reader.whole" = true)
    (kr3 : PySem.W.keepIn K (.ref fr3) = true)
    (ir3 : PySem.W.isFn K (.ref fr3) = true)
    (ar4 : PySem.W.findIn K (.ref CQ) "read_sum" = some (some (.ref fr4)))
    (lr4 : K.lookup fr4 = some ⟨ocr4, odr4, .func (PySem.W.fnOf "read_sum" "Reader.read_sum" (defArgs sRSum) (defBody sRSum) (defScope sRSum) .none kVr4 dcr4 pmr4 anr4 cdr4 ctr4), slr4⟩)
    (cr4 : PySem.W.codeIn K cdr4 "Reader.read_sum" = true)
    (kr4 : PySem.W.keepIn K (.ref fr4) = true)
    (ir4 : PySem.W.isFn K (.ref fr4) = true)
    (ar5 : PySem.W.findIn K (.ref CQ) "read_term" = some (some (.ref fr5)))
    (lr5 : K.lookup fr5 = some ⟨ocr5, odr5, .func (PySem.W.fnOf "read_term" "Reader.read_term" (defArgs sRTerm) (defBody sRTerm) (defScope sRTerm) .none kVr5 dcr5 pmr5 anr5 cdr5 ctr5), slr5⟩)
    (cr5 : PySem.W.codeIn K cdr5 "Reader.read_term" = true)
    (kr5 : PySem.W.keepIn K (.ref fr5) = true)
    (ir5 : PySem.W.isFn K (.ref fr5) = true)
    (ar6 : PySem.W.findIn K (.ref CQ) "read_factor" = some (some (.ref fr6)))
    (lr6 : K.lookup fr6 = some ⟨ocr6, odr6, .func (PySem.W.fnOf "read_factor" "Reader.read_factor" (defArgs sRFac) (defBody sRFac) (defScope sRFac) .none kVr6 dcr6 pmr6 anr6 cdr6 ctr6), slr6⟩)
    (cr6 : PySem.W.codeIn K cdr6 "Reader.read_factor" = true)
    (kr6 : PySem.W.keepIn K (.ref fr6) = true)
    (ir6 : PySem.W.isFn K (.ref fr6) = true)
    (ar7 : PySem.W.findIn K (.ref CQ) "read_integer" = some (some (.ref fr7)))
    (lr7 : K.lookup fr7 = some ⟨ocr7, odr7, .func (PySem.W.fnOf "read_integer" "Reader.read_integer" (defArgs sRInt) (defBody sRInt) (defScope sRInt) .none kVr7 dcr7 pmr7 anr7 cdr7 ctr7), slr7⟩)
    (cr7 : PySem.W.codeIn K cdr7 "Reader.read_integer" = true)
    (kr7 : PySem.W.keepIn K (.ref fr7) = true)
    (ir7 : PySem.W.isFn K (.ref fr7) = true)
    (ar8 : PySem.W.findIn K (.ref CQ) "read_word" = some (some (.ref fr8)))
    (lr8 : K.lookup fr8 = some ⟨ocr8, odr8, .func (PySem.W.fnOf "read_word" "Reader.read_word" (defArgs sRWord) (defBody sRWord) (defScope sRWord) .none kVr8 dcr8 pmr8 anr8 cdr8 ctr8), slr8⟩)
    (cr8 : PySem.W.codeIn K cdr8 "Reader.read_word" = true)
    (kr8 : PySem.W.keepIn K (.ref fr8) = true)
    (ir8 : PySem.W.isFn K (.ref fr8) = true)
    (ar9 : PySem.W.findIn K (.ref CQ) "read_pair" = some (some (.ref fr9)))
    (lr9 : K.lookup fr9 = some ⟨ocr9, odr9, .func (PySem.W.fnOf "read_pair" "Reader.read_pair" (defArgs sRPair) (defBody sRPair) (defScope sRPair) .none kVr9 dcr9 pmr9 anr9 cdr9 ctr9), slr9⟩)
    (cr9 : PySem.W.codeIn K cdr9 "Reader.read_pair" = true)
    (kr9 : PySem.W.keepIn K (.ref fr9) = true)
    (ir9 : PySem.W.isFn K (.ref fr9) = true)
    (gCF : PySem.W.nsIn K mainGlobals "Formula" = some (some (.ref CF)))
    (pgF : PySem.W.plainGet K CF Str.empty = true)
    (hiF : PySem.W.hasDictIn K CF = true)
    (poF : PySem.W.plainOver K CF = true)
    (scF : PySem.W.findIn K (.ref CF) "__setattr__" = some (some (.builtin "object.__setattr__")))
    (mkF : PySem.W.makesIn K CF = true)
    (kpF : PySem.W.keepIn K (.ref CF) = true)
    (naF_tree : PySem.W.findIn K (.ref CF) "tree" = some none)
    (naF_own_reads : PySem.W.findIn K (.ref CF) "own_reads" = some none)
    (naF_text : PySem.W.findIn K (.ref CF) "text" = some none)
    (naF_names : PySem.W.findIn K (.ref CF) "names" = some none)
    (aq0 : PySem.W.findIn K (.ref CF) "__init__" = some (some (.ref fq0)))
    (lq0 : K.lookup fq0 = some ⟨ocq0, odq0, .func (PySem.W.fnOf "__init__" "Formula.__init__" (defArgs sFInit) (defBody sFInit) (defScope sFInit) .none kVq0 dcq0 pmq0 anq0 cdq0 ctq0), slq0⟩)
    (cq0 : PySem.W.codeIn K cdq0 "Formula.__init__" = true)
    (kq0 : PySem.W.keepIn K (.ref fq0) = true)
    (iq0 : PySem.W.isFn K (.ref fq0) = true)
    : ∃ (cs : List (Addr × Addr)) (fd : FuncData) (sp : Sp), (∀ p ∈ cs, h.get? p.2 = some { cls := .none, data := .fields #[] }) ∧ (∀ p ∈ cs, K.lookup p.2 = none) ∧ (∀ p ∈ cs, PySem.W.CodeHd h p.1 p.2) ∧ (∀ (s : Shared) (u : Value), BindsTo s fd ⟨[u], []⟩ [("_law_script", u)]) ∧
      (∀ (H : Hp) (a : Addr) (ns : List Int), ns.length ≤ 63 → (∀ z ∈ ns, Builtin.Int.intBits z ≤ 1048576) → (∀ p ∈ cs, H p.2 = some (.tbl #[])) → SqL K H a (ns.map V.int) → sp [.ref a] H (fun v _ => v = .bl true) E0) ∧
      ∀ base : Heap, K.In base → base.Ns mainGlobals mg → (∀ p ∈ cs, LamX.TabB base mg p.1 p.2) → FnG P w K mg base CX0 115 fa fd ["_law_script"] sp := by
  have F1 : Fun K "_law_run_of" "_law_run_of" sRun f1 _ := fun_mk l1 c1 k1
  have b1 : Binds K _ pRun [] := F1.binds (ps := pRun) fun _ _ _ _ _ _ us hl => match us, hl with | [_, _, _, _], _ => rfl
  have A1 : FunAt K mg "_law_run_of" sRun pRun := ⟨_, _, F1, PySem.W.mg_of X G a1, b1⟩
  have F2 : Fun K "_law_behind" "_law_behind" sBeh f2 _ := fun_mk l2 c2 k2
  have b2 : Binds K _ pBeh [] := F2.binds (ps := pBeh) fun _ _ _ _ _ _ us hl => match us, hl with | [_, _, _], _ => rfl
  have A2 : FunAt K mg "_law_behind" sBeh pBeh := ⟨_, _, F2, PySem.W.mg_of X G a2, b2⟩
  have F3 : Fun K "_law_operand" "_law_operand" sOpe f3 _ := fun_mk l3 c3 k3
  have b3 : Binds K _ pOpe [] := F3.binds (ps := pOpe) fun _ _ _ _ _ _ us hl => match us, hl with | [_, _, _, _], _ => rfl
  have A3 : FunAt K mg "_law_operand" sOpe pOpe := ⟨_, _, F3, PySem.W.mg_of X G a3, b3⟩
  have F4 : Fun K "_law_wrong_at" "_law_wrong_at" sWr f4 _ := fun_mk l4 c4 k4
  have b4 : Binds K _ pWr [] := F4.binds (ps := pWr) fun _ _ _ _ _ _ us hl => match us, hl with | [_, _], _ => rfl
  have A4 : FunAt K mg "_law_wrong_at" sWr pWr := ⟨_, _, F4, PySem.W.mg_of X G a4, b4⟩
  have F5 : Fun K "_law_draw" "_law_draw" sDraw f5 _ := fun_mk l5 c5 k5
  have b5 : Binds K _ pDraw [] := F5.binds (ps := pDraw) fun _ _ _ _ _ _ us hl => match us, hl with | [_, _], _ => rfl
  have A5 : FunAt K mg "_law_draw" sDraw pDraw := ⟨_, _, F5, PySem.W.mg_of X G a5, b5⟩
  have F6 : Fun K "_law_pick" "_law_pick" sPick f6 _ := fun_mk l6 c6 k6
  have b6 : Binds K _ pPick [] := F6.binds (ps := pPick) fun _ _ _ _ _ _ us hl => match us, hl with | [_, _], _ => rfl
  have A6 : FunAt K mg "_law_pick" sPick pPick := ⟨_, _, F6, PySem.W.mg_of X G a6, b6⟩
  have F7 : Fun K "_law_around" "_law_around" sAround f7 _ := fun_mk l7 c7 k7
  have b7 : Binds K _ pAround [] := F7.binds (ps := pAround) fun _ _ _ _ _ _ us hl => match us, hl with | [_, _], _ => rfl
  have A7 : FunAt K mg "_law_around" sAround pAround := ⟨_, _, F7, PySem.W.mg_of X G a7, b7⟩
  have F8 : Fun K "_law_great" "_law_great" sGreat f8 _ := fun_mk l8 c8 k8
  have b8 : Binds K _ pGreat [] := F8.binds (ps := pGreat) fun _ _ _ _ _ _ us hl => match us, hl with | [_, _], _ => rfl
  have A8 : FunAt K mg "_law_great" sGreat pGreat := ⟨_, _, F8, PySem.W.mg_of X G a8, b8⟩
  have F9 : Fun K "_law_names" "_law_names" sNames f9 _ := fun_mk l9 c9 k9
  have b9 : Binds K _ pNames [] := F9.binds (ps := pNames) fun _ _ _ _ _ _ us hl => match us, hl with | [_, _], _ => rfl
  have A9 : FunAt K mg "_law_names" sNames pNames := ⟨_, _, F9, PySem.W.mg_of X G a9, b9⟩
  have F10 : Fun K "_law_gap" "_law_gap" sGap f10 _ := fun_mk l10 c10 k10
  have b10 : Binds K _ pGap [] := F10.binds (ps := pGap) fun _ _ _ _ _ _ us hl => match us, hl with | [_, _], _ => rfl
  have A10 : FunAt K mg "_law_gap" sGap pGap := ⟨_, _, F10, PySem.W.mg_of X G a10, b10⟩
  have F11 : Fun K "_law_tree" "_law_tree" sTree f11 _ := fun_mk l11 c11 k11
  have b11 : Binds K _ pTree [] := F11.binds (ps := pTree) fun _ _ _ _ _ _ us hl => match us, hl with | [_, _, _], _ => rfl
  have A11 : FunAt K mg "_law_tree" sTree pTree := ⟨_, _, F11, PySem.W.mg_of X G a11, b11⟩
  have F12 : Fun K "_law_text_of" "_law_text_of" sTextOf f12 _ := fun_mk l12 c12 k12
  have b12 : Binds K _ pTextOf [] := F12.binds (ps := pTextOf) fun _ _ _ _ _ _ us hl => match us, hl with | [_, _, _, _], _ => rfl
  have A12 : FunAt K mg "_law_text_of" sTextOf pTextOf := ⟨_, _, F12, PySem.W.mg_of X G a12, b12⟩
  have F13 : Fun K "_law_formula" "_law_formula" sForm f13 _ := fun_mk l13 c13 k13
  have b13 : Binds K _ pForm [] := F13.binds (ps := pForm) fun _ _ _ _ _ _ us hl => match us, hl with | [_, _, _], _ => rfl
  have A13 : FunAt K mg "_law_formula" sForm pForm := ⟨_, _, F13, PySem.W.mg_of X G a13, b13⟩
  have F14 : Fun K "_law_bent" "_law_bent" sBent f14 _ := fun_mk l14 c14 k14
  have b14 : Binds K _ pBent [] := F14.binds (ps := pBent) fun _ _ _ _ _ _ us hl => match us, hl with | [_, _, _], _ => rfl
  have A14 : FunAt K mg "_law_bent" sBent pBent := ⟨_, _, F14, PySem.W.mg_of X G a14, b14⟩
  have F15 : Fun K "_law_long" "_law_long" sLong f15 _ := fun_mk l15 c15 k15
  have b15 : Binds K _ pLong [] := F15.binds (ps := pLong) fun _ _ _ _ _ _ us hl => match us, hl with | [_], _ => rfl
  have A15 : FunAt K mg "_law_long" sLong pLong := ⟨_, _, F15, PySem.W.mg_of X G a15, b15⟩
  have F16 : Fun K "_law_odd" "_law_odd" sOdd f16 _ := fun_mk l16 c16 k16
  have b16 : Binds K _ pOdd [] := F16.binds (ps := pOdd) fun _ _ _ _ _ _ us hl => match us, hl with | [_], _ => rfl
  have A16 : FunAt K mg "_law_odd" sOdd pOdd := ⟨_, _, F16, PySem.W.mg_of X G a16, b16⟩
  have F17 : Fun K "_law_told" "_law_told" sTold f17 _ := fun_mk l17 c17 k17
  have b17 : Binds K _ pTold [] := F17.binds (ps := pTold) fun _ _ _ _ _ _ us hl => match us, hl with | [_], _ => rfl
  have A17 : FunAt K mg "_law_told" sTold pTold := ⟨_, _, F17, PySem.W.mg_of X G a17, b17⟩
  have F18 : Fun K "_law_due" "_law_due" sDue f18 _ := fun_mk l18 c18 k18
  have b18 : Binds K _ pDue [] := F18.binds (ps := pDue) fun _ _ _ _ _ _ us hl => match us, hl with | [_], _ => rfl
  have A18 : FunAt K mg "_law_due" sDue pDue := ⟨_, _, F18, PySem.W.mg_of X G a18, b18⟩
  have F19 : Fun K "_law_pen" "_law_pen" sPen f19 _ := fun_mk l19 c19 k19
  have b19 : Binds K _ pPen [] := F19.binds (ps := pPen) fun _ _ _ _ _ _ us hl => match us, hl with | [_], _ => rfl
  have A19 : FunAt K mg "_law_pen" sPen pPen := ⟨_, _, F19, PySem.W.mg_of X G a19, b19⟩
  have F20 : Fun K "law" "law" sLaw f20 _ := fun_mk l20 c20 k20
  have b20 : Binds K _ pLaw [] := F20.binds (ps := pLaw) fun _ _ _ _ _ _ us hl => match us, hl with | [_], _ => rfl
  have A20 : FunAt K mg "law" sLaw pLaw := ⟨_, _, F20, PySem.W.mg_of X G a20, b20⟩
  have TP : ∀ Hx, SqT K Hx tP [V.str "min", V.str "max"] := fun _ => .inr ⟨_, itP, _, ltP, rfl, rfl, ztP, vtP⟩
  have TR : ∀ Hx, SqT K Hx tR [V.str "min", V.str "max", V.str "self"] := fun _ => .inr ⟨_, itR, _, ltR, rfl, rfl, ztR, vtR⟩
  have FeP : Fun K "__init__" "ParseError.__init__" sPeI feP _ := fun_mk leP ceP keP
  have beP : Binds K _ pPeI [] := FeP.binds (ps := pPeI) fun _ _ _ _ _ _ us hl => match us, hl with | [_, _], _ => rfl
  have oxeP : OexC K CeP := ⟨⟨_, _, _, _, _, _, _, _, _, _, _, _, _, _, _, lceP, rveP⟩, saeP, beeP, tyeP, ke_eP⟩
  have emeP := PySem.W.exm_ref beeP hdeP tyeP sueP_
  have Fr0 : Fun K "__init__" "Reader.__init__" sRInit fr0 _ := fun_mk lr0 cr0 kr0
  have br0 : Binds K _ pRInit [] := Fr0.binds (ps := pRInit) fun _ _ _ _ _ _ us hl => match us, hl with | [_, _], _ => rfl
  have Fr1 : Fun K "skip" "Reader.skip" sSkip fr1 _ := fun_mk lr1 cr1 kr1
  have br1 : Binds K _ pSkip [] := Fr1.binds (ps := pSkip) fun _ _ _ _ _ _ us hl => match us, hl with | [_], _ => rfl
  have Fr2 : Fun K "need" "Reader.need" sNeed fr2 _ := fun_mk lr2 cr2 kr2
  have br2 : Binds K _ pNeed [] := Fr2.binds (ps := pNeed) fun _ _ _ _ _ _ us hl => match us, hl with | [_, _], _ => rfl
  have Fr3 : Fun K "whole" "Reader.whole" sWhole fr3 _ := fun_mk lr3 cr3 kr3
  have br3 : Binds K _ pWhole [] := Fr3.binds (ps := pWhole) fun _ _ _ _ _ _ us hl => match us, hl with | [_], _ => rfl
  have Fr4 : Fun K "read_sum" "Reader.read_sum" sRSum fr4 _ := fun_mk lr4 cr4 kr4
  have br4 : Binds K _ pRSum [] := Fr4.binds (ps := pRSum) fun _ _ _ _ _ _ us hl => match us, hl with | [_], _ => rfl
  have Fr5 : Fun K "read_term" "Reader.read_term" sRTerm fr5 _ := fun_mk lr5 cr5 kr5
  have br5 : Binds K _ pRTerm [] := Fr5.binds (ps := pRTerm) fun _ _ _ _ _ _ us hl => match us, hl with | [_], _ => rfl
  have Fr6 : Fun K "read_factor" "Reader.read_factor" sRFac fr6 _ := fun_mk lr6 cr6 kr6
  have br6 : Binds K _ pRFac [] := Fr6.binds (ps := pRFac) fun _ _ _ _ _ _ us hl => match us, hl with | [_], _ => rfl
  have Fr7 : Fun K "read_integer" "Reader.read_integer" sRInt fr7 _ := fun_mk lr7 cr7 kr7
  have br7 : Binds K _ pRInt [] := Fr7.binds (ps := pRInt) fun _ _ _ _ _ _ us hl => match us, hl with | [_], _ => rfl
  have Fr8 : Fun K "read_word" "Reader.read_word" sRWord fr8 _ := fun_mk lr8 cr8 kr8
  have br8 : Binds K _ pRWord [] := Fr8.binds (ps := pRWord) fun _ _ _ _ _ _ us hl => match us, hl with | [_], _ => rfl
  have Fr9 : Fun K "read_pair" "Reader.read_pair" sRPair fr9 _ := fun_mk lr9 cr9 kr9
  have br9 : Binds K _ pRPair [] := Fr9.binds (ps := pRPair) fun _ _ _ _ _ _ us hl => match us, hl with | [_, _], _ => rfl
  have clQ : Cls K CQ := ⟨pgQ, hiQ, poQ, scQ⟩
  have Fq0 : Fun K "__init__" "Formula.__init__" sFInit fq0 _ := fun_mk lq0 cq0 kq0
  have bq0 : Binds K _ pFInit [] := Fq0.binds (ps := pFInit) fun _ _ _ _ _ _ us hl => match us, hl with | [_, _], _ => rfl
  have clF : Cls K CF := ⟨pgF, hiF, poF, scF⟩
  have nL : mg "len" = none := PySem.W.mg_none_of X G n_len
  have BA : Blt mg := ⟨PySem.W.mg_none_of X G n_int, nL, PySem.W.mg_none_of X G n_abs, PySem.W.mg_none_of X G n_max, PySem.W.mg_none_of X G n_min⟩
  have BN : BltN mg := ⟨BA, PySem.W.mg_none_of X G n_range⟩
  have BT : BltT mg := ⟨BN, PySem.W.mg_none_of X G n_str⟩
  have BF : BltF mg := ⟨BT, PySem.W.mg_none_of X G n_isinstance, PySem.W.mg_none_of X G n_tuple⟩
  have BD : BltD mg := ⟨PySem.W.mg_none_of X G n_isinstance, PySem.W.mg_none_of X G n_str, nL, PySem.W.mg_none_of X G n_tuple, PySem.W.mg_none_of X G n_sorted, PySem.W.mg_none_of X G n_set⟩
  have BY : BltY mg := ⟨PySem.W.mg_none_of X G n_list, PySem.W.mg_none_of X G n_range, PySem.W.mg_none_of X G n_repr⟩
  have BFi : BlF mg := ⟨PySem.W.mg_none_of X G n_isinstance, PySem.W.mg_none_of X G n_str, nL, PySem.W.mg_none_of X G n_tuple, PySem.W.mg_none_of X G n_sorted⟩
  have ef := hfa.symm.trans (PySem.W.mg_of X G a20)
  cases ef
  refine ⟨[], _, spLaw K, (fun p hp => nomatch hp), (fun p hp => nomatch hp), (fun p hp => nomatch hp), (fun s u => .of_eq (fd := PySem.W.fnOf "law" "law" (defArgs sLaw) (defBody sLaw) (defScope sLaw) .none kV20 dc20 pm20 an20 cd20 ct20) rfl), fun H a ns hn _ _ hS => ⟨ns, hS, hn, fun _ => rfl⟩, fun base KB GB _ => ?_⟩
  have vI0 := PySem.W.mg_none_of X G n_ValueError
  have EP : ErrC P w K mg base "ParseError" CeP "index" := ⟨oxeP, PySem.W.mg_of X G geP, feP, _, aeP, tfeP, ok_PeI vI0 vV oxeP nveP FeP, beP⟩
  have mSk : MetG P w K mg base CX0 3 CQ "skip" ["self"] (spSkip CQ) := ⟨_, _, ⟨ar1, ir1, kr1⟩, .of (ok_skip clQ naQ_chars naQ_spot Fr1) (by decide), br1⟩
  have T : Tf P w K mg base CQ CeP tP tR := ⟨clQ, naQ_chars, naQ_spot, naQ_found_names, EP, mSk, PySem.W.mg_none_of X G n_int, ⟨_, PySem.W.mg_of X G kD⟩, ⟨_, PySem.W.mg_of X G kL⟩, ⟨_, PySem.W.mg_of X G kMD⟩, ⟨_, PySem.W.mg_of X G kML⟩, PySem.W.mg_of X G atP, PySem.W.mg_of X G atR, TP, TR⟩
  have TG : Tg P w K mg base CQ CeP tP tR := { T with need := ⟨_, _, ⟨ar2, ir2, kr2⟩, ok_need T Fr2, br2⟩, rint := ⟨_, _, ⟨ar7, ir7, kr7⟩, ok_int T Fr7, br7⟩ }
  have M : Rk.Ms K CQ := ⟨⟨_, _, ⟨ar4, ir4, kr4⟩, Fr4, br4⟩, ⟨_, _, ⟨ar5, ir5, kr5⟩, Fr5, br5⟩, ⟨_, _, ⟨ar6, ir6, kr6⟩, Fr6, br6⟩, ⟨_, _, ⟨ar8, ir8, kr8⟩, Fr8, br8⟩, ⟨_, _, ⟨ar9, ir9, kr9⟩, Fr9, br9⟩⟩
  have mW : MetG P w K mg base (L2.CX P w) 320 CQ "whole" ["self"] (spWhole CQ CeP) := ⟨_, _, ⟨ar3, ir3, kr3⟩, ok_whole TG (ih_all TG M 306) Fr3, br3⟩
  have FI : Fi P w K mg base CQ CeP CF fr0 := ⟨BFi, EP, ⟨_, PySem.W.mg_of X G kM⟩, PySem.W.mg_of X G gCQ, ⟨mkQ, ar0, ir0, kpQ⟩, ⟨_, ok_rinit clQ naQ_chars naQ_spot naQ_found_names Fr0, br0⟩, mW, clQ, clF, naF_tree, naF_own_reads, naF_text, naF_names, naQ_found_names⟩
  have TL : Tl P w K mg base CF CeP fq0 := ⟨PySem.W.mg_of X G gCF, PySem.W.mg_of X G geP, ⟨mkF, aq0, iq0, kpF⟩, ⟨_, ok_finit FI Fq0, bq0⟩, clF, naF_names, ⟨gaeP, ggeP, beeP, hdeP⟩, nveP, veeP, emeP, PySem.W.mg_none_of X G n_isinstance, vI0⟩
  have BW : BlW mg := ⟨nL⟩
  have R := fun base => ok_run (P := P) (w := w) (base := base) BW A1
  have DBe := ok_beh (P := P) (w := w) (base := base) ⟨PySem.W.mg_none_of X G n_int⟩ A2
  have DOp := ok_ope (P := P) (w := w) (base := base) BW R A3
  have DWr := ok_wr (P := P) (w := w) (base := base) BW (R base) DBe DOp A4
  have DD := fun base => ok_dr (P := P) (w := w) (base := base) BA A5
  have DP := fun base => ok_pick (P := P) (w := w) (base := base) BA DD A6
  have DPS := fun base => ok_pickS (P := P) (w := w) (base := base) BA DD A6
  have DA := fun base => ok_around (P := P) (w := w) (base := base) BA DD A7
  have DG := fun base => ok_great (P := P) (w := w) (base := base) BA DD DA DP A8
  have DN := ok_names (P := P) (w := w) (base := base) BN DD DP DPS A9
  have DGap := fun base => ok_gap (P := P) (w := w) (base := base) BA DD DP A10
  have DT := fun base => ok_tree (P := P) (w := w) (base := base) BN DD DP DG A11 5
  have DX := fun base => ok_text (P := P) (w := w) (base := base) BT DD DGap A12 5
  have DF := ok_form (P := P) (w := w) (base := base) BF DP DGap DT DX A13
  have DB := ok_bent (P := P) (w := w) (base := base) BA DD DP DPS A14
  have DL := ok_long (P := P) (w := w) (base := base) DP A15
  have DO := ok_odd (P := P) (w := w) (base := base) (DP base) A16
  have DTo := ok_told (P := P) (w := w) (base := base) TL A17
  have DDu := ok_due (P := P) (w := w) (base := base) BD DWr A18
  exact ok_law BY (ok_pen BY A19) (DD base) (DP base) DN DF DL DB DO DTo DDu F20
end Rk

set_option Elab.async false
set_option linter.all false
open PySem PySem.W PySem.Calls PyProof.Rows
set_option maxRecDepth 100000 in
set_option maxHeartbeats 16000000 in
theorem PySem.Challenge.cw_solidnames_k02_whole_texts_that_are_form_holds : PySem.Challenge.rw_solidnames_k02_whole_texts_that_are_form.Holds := by
  w_on; o_law; k_head; (case hw => w_witness2)
  k_fill
  refine CL.top_walk (l := PySem.Challenge.rw_solidnames_k02_whole_texts_that_are_form) (n := 63) (k := 115) (x := "_law_script") rfl (by decide) rfl ⟨rfl, by decide, by decide⟩ (fun w h Y => PySem.W.kIn_of Y) ?F
  case F =>
    intro w mg fa h Y XP KX G hmg
    refine' Rk.all_mk KX G hmg ?n_isinstance ?n_int ?n_str ?n_len ?n_tuple ?n_sorted ?n_set ?n_abs ?n_max ?n_min ?n_range ?n_list ?n_repr ?n_ValueError ?a1 ?l1 ?c1 ?k1 ?a2 ?l2 ?c2 ?k2 ?a3 ?l3 ?c3 ?k3 ?a4 ?l4 ?c4 ?k4 ?a5 ?l5 ?c5 ?k5 ?a6 ?l6 ?c6 ?k6 ?a7 ?l7 ?c7 ?k7 ?a8 ?l8 ?c8 ?k8 ?a9 ?l9 ?c9 ?k9 ?a10 ?l10 ?c10 ?k10 ?a11 ?l11 ?c11 ?k11 ?a12 ?l12 ?c12 ?k12 ?a13 ?l13 ?c13 ?k13 ?a14 ?l14 ?c14 ?k14 ?a15 ?l15 ?c15 ?k15 ?a16 ?l16 ?c16 ?k16 ?a17 ?l17 ?c17 ?k17 ?a18 ?l18 ?c18 ?k18 ?a19 ?l19 ?c19 ?k19 ?a20 ?l20 ?c20 ?k20 ?kD ?kL ?kMD ?kML ?kM ?atP ?ltP ?ztP ?vtP ?atR ?ltR ?ztR ?vtR ?vV ?geP ?lceP ?rveP ?saeP ?beeP ?veeP ?tyeP ?ke_eP ?gaeP ?ggeP ?hdeP ?nveP ?sueP_ ?aeP ?leP ?ceP ?keP ?tfeP ?gCQ ?pgQ ?hiQ ?poQ ?scQ ?mkQ ?kpQ ?naQ_chars ?naQ_spot ?naQ_found_names ?ar0 ?lr0 ?cr0 ?kr0 ?ir0 ?ar1 ?lr1 ?cr1 ?kr1 ?ir1 ?ar2 ?lr2 ?cr2 ?kr2 ?ir2 ?ar3 ?lr3 ?cr3 ?kr3 ?ir3 ?ar4 ?lr4 ?cr4 ?kr4 ?ir4 ?ar5 ?lr5 ?cr5 ?kr5 ?ir5 ?ar6 ?lr6 ?cr6 ?kr6 ?ir6 ?ar7 ?lr7 ?cr7 ?kr7 ?ir7 ?ar8 ?lr8 ?cr8 ?kr8 ?ir8 ?ar9 ?lr9 ?cr9 ?kr9 ?ir9 ?gCF ?pgF ?hiF ?poF ?scF ?mkF ?kpF ?naF_tree ?naF_own_reads ?naF_text ?naF_names ?aq0 ?lq0 ?cq0 ?kq0 ?iq0
    (case n_isinstance => k_is)
    (case n_int => k_is)
    (case n_str => k_is)
    (case n_len => k_is)
    (case n_tuple => k_is)
    (case n_sorted => k_is)
    (case n_set => k_is)
    (case n_abs => k_is)
    (case n_max => k_is)
    (case n_min => k_is)
    (case n_range => k_is)
    (case n_list => k_is)
    (case n_repr => k_is)
    (case n_ValueError => k_is)
    (case a1 => k_is)
    (case l1 => k_is)
    (case c1 => k_is)
    (case k1 => k_is)
    (case a2 => k_is)
    (case l2 => k_is)
    (case c2 => k_is)
    (case k2 => k_is)
    (case a3 => k_is)
    (case l3 => k_is)
    (case c3 => k_is)
    (case k3 => k_is)
    (case a4 => k_is)
    (case l4 => k_is)
    (case c4 => k_is)
    (case k4 => k_is)
    (case a5 => k_is)
    (case l5 => k_is)
    (case c5 => k_is)
    (case k5 => k_is)
    (case a6 => k_is)
    (case l6 => k_is)
    (case c6 => k_is)
    (case k6 => k_is)
    (case a7 => k_is)
    (case l7 => k_is)
    (case c7 => k_is)
    (case k7 => k_is)
    (case a8 => k_is)
    (case l8 => k_is)
    (case c8 => k_is)
    (case k8 => k_is)
    (case a9 => k_is)
    (case l9 => k_is)
    (case c9 => k_is)
    (case k9 => k_is)
    (case a10 => k_is)
    (case l10 => k_is)
    (case c10 => k_is)
    (case k10 => k_is)
    (case a11 => k_is)
    (case l11 => k_is)
    (case c11 => k_is)
    (case k11 => k_is)
    (case a12 => k_is)
    (case l12 => k_is)
    (case c12 => k_is)
    (case k12 => k_is)
    (case a13 => k_is)
    (case l13 => k_is)
    (case c13 => k_is)
    (case k13 => k_is)
    (case a14 => k_is)
    (case l14 => k_is)
    (case c14 => k_is)
    (case k14 => k_is)
    (case a15 => k_is)
    (case l15 => k_is)
    (case c15 => k_is)
    (case k15 => k_is)
    (case a16 => k_is)
    (case l16 => k_is)
    (case c16 => k_is)
    (case k16 => k_is)
    (case a17 => k_is)
    (case l17 => k_is)
    (case c17 => k_is)
    (case k17 => k_is)
    (case a18 => k_is)
    (case l18 => k_is)
    (case c18 => k_is)
    (case k18 => k_is)
    (case a19 => k_is)
    (case l19 => k_is)
    (case c19 => k_is)
    (case k19 => k_is)
    (case a20 => k_is)
    (case l20 => k_is)
    (case c20 => k_is)
    (case k20 => k_is)
    (case kD => k_is)
    (case kL => k_is)
    (case kMD => k_is)
    (case kML => k_is)
    (case kM => k_is)
    (case atP => k_is)
    (case ltP => k_is)
    (case ztP => decide)
    (case vtP => exact (.cons ⟨_, rfl⟩ (.cons ⟨_, rfl⟩ .nil)))
    (case atR => k_is)
    (case ltR => k_is)
    (case ztR => decide)
    (case vtR => exact (.cons ⟨_, rfl⟩ (.cons ⟨_, rfl⟩ (.cons ⟨_, rfl⟩ .nil))))
    (case vV => k_is)
    (case geP => k_is)
    (case lceP => k_is)
    (case rveP => rfl)
    (case saeP => k_is)
    (case beeP => k_is)
    (case veeP => k_is)
    (case tyeP => k_is)
    (case ke_eP => k_is)
    (case gaeP => k_is)
    (case ggeP => k_is)
    (case hdeP => k_is)
    (case nveP => k_is)
    (case sueP_ => first | rfl | k_is)
    (case aeP => k_is)
    (case leP => k_is)
    (case ceP => k_is)
    (case keP => k_is)
    (case tfeP => k_is)
    (case gCQ => k_is)
    (case pgQ => k_is)
    (case hiQ => k_is)
    (case poQ => k_is)
    (case scQ => k_is)
    (case mkQ => k_is)
    (case kpQ => k_is)
    (case naQ_chars => k_is)
    (case naQ_spot => k_is)
    (case naQ_found_names => k_is)
    (case ar0 => k_is)
    (case lr0 => k_is)
    (case cr0 => k_is)
    (case kr0 => k_is)
    (case ir0 => k_is)
    (case ar1 => k_is)
    (case lr1 => k_is)
    (case cr1 => k_is)
    (case kr1 => k_is)
    (case ir1 => k_is)
    (case ar2 => k_is)
    (case lr2 => k_is)
    (case cr2 => k_is)
    (case kr2 => k_is)
    (case ir2 => k_is)
    (case ar3 => k_is)
    (case lr3 => k_is)
    (case cr3 => k_is)
    (case kr3 => k_is)
    (case ir3 => k_is)
    (case ar4 => k_is)
    (case lr4 => k_is)
    (case cr4 => k_is)
    (case kr4 => k_is)
    (case ir4 => k_is)
    (case ar5 => k_is)
    (case lr5 => k_is)
    (case cr5 => k_is)
    (case kr5 => k_is)
    (case ir5 => k_is)
    (case ar6 => k_is)
    (case lr6 => k_is)
    (case cr6 => k_is)
    (case kr6 => k_is)
    (case ir6 => k_is)
    (case ar7 => k_is)
    (case lr7 => k_is)
    (case cr7 => k_is)
    (case kr7 => k_is)
    (case ir7 => k_is)
    (case ar8 => k_is)
    (case lr8 => k_is)
    (case cr8 => k_is)
    (case kr8 => k_is)
    (case ir8 => k_is)
    (case ar9 => k_is)
    (case lr9 => k_is)
    (case cr9 => k_is)
    (case kr9 => k_is)
    (case ir9 => k_is)
    (case gCF => k_is)
    (case pgF => k_is)
    (case hiF => k_is)
    (case poF => k_is)
    (case scF => k_is)
    (case mkF => k_is)
    (case kpF => k_is)
    (case naF_tree => k_is)
    (case naF_own_reads => k_is)
    (case naF_text => k_is)
    (case naF_names => k_is)
    (case aq0 => k_is)
    (case lq0 => k_is)
    (case cq0 => k_is)
    (case kq0 => k_is)
    (case iq0 => k_is)
