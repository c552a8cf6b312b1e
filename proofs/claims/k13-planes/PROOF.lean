import PyProof.Rows.All
import HandS.ForMost
import HandS.Exc
import HandS.Wide
import HandS.IsInst
import HandS.Flow
import HandS.Defaults
import HandS.Lambda
import HandS.EndBits
import HandS.EndTab
import HandS.ExcInit
import HandS.ExcField
import HandS.ExcIs
import HandS.TryMany
import HandS.OwnEq
import KE.KOpsOwn
import PyProof.InstEq
import HandS.Style
import HandS.WordsExc
import PySem.Challenge.RW_solidnames_k13_planes_as_objects
import HandS.More
import HandS.Comp
import HandS.Dict
import HandS.Ends
set_option Elab.async false
set_option linter.all false
set_option maxRecDepth 100000
set_option maxHeartbeats 1000000
/-! CL: readings that compute: a step's reading reduces by itself where the values are told. Over HandS. -/
namespace CL
open PySem PySem.Spec PyProof.Rows L2

/-! ### weakening a reading -/
theorem PE_imp {X : Cx} {e : Expr} {t t' : TE} (h : PE X e t) (w : ∀ σ H Q, t' σ H Q → t σ H Q) : PE X e t' :=
  ⟨fun pins s σ H Q I q => h.run pins s σ H Q I (w σ H Q q)⟩
theorem PT_imp {X : Cx} {e : Expr} {t t' : TT} (h : PT X e t) (w : ∀ σ H Q, t' σ H Q → t σ H Q) : PT X e t' :=
  ⟨fun pins s σ H Q I q => h.run pins s σ H Q I (w σ H Q q)⟩
theorem PS_imp {X : Cx} {e : Stmt} {t t' : TS} (h : PS X e t) (w : ∀ D σ H, t' D σ H → t D σ H) : PS X e t' :=
  ⟨fun pins s σ H D I q => h.run pins s σ H D I (w D σ H q)⟩
theorem OpR_imp {X : Cx} {f : Value → Value → Sem Value} {r r' : R2} (h : OpR X f r) (w : ∀ x y H Q, r' x y H Q → r x y H Q) : OpR X f r' :=
  fun pins s σ H x y v u Q I rx ry q => h pins s σ H x y v u Q I rx ry (w x y H Q q)
theorem CallR_imp {X : Cx} {f : Value} {r r' : List V → Hp → VK → Prop} (h : CallR X f r) (w : ∀ xs H Q, r' xs H Q → r xs H Q) : CallR X f r' :=
  fun pins s σ H xs us Q I rx q => h pins s σ H xs us Q I rx (w xs H Q q)

/-! ### a reading closed upwards -/
def up (t : TE) : TE := fun σ H Q => ∃ R : VK, t σ H R ∧ ∀ x H1, R x H1 → Q x H1
theorem PE_up {X : Cx} {e : Expr} {t : TE} (h : PE X e t) : PE X e (up t) := ⟨fun pins s σ H Q I ⟨R, q, w⟩ =>
  thn (h.run pins s σ H R I q) fun u s1 ⟨x, H1, I1, r1, q1⟩ => ⟨x, H1, I1, r1, w x H1 q1⟩⟩
def upA (t : TA) : TA := fun σ H Q => ∃ R : List V → Hp → Prop, t σ H R ∧ ∀ x H1, R x H1 → Q x H1
theorem PA_up {X : Cx} {e : List Expr} {t : TA} (h : PA X e t) : PA X e (upA t) := ⟨fun pos pins s σ H Q I ⟨R, q, w⟩ =>
  thn (h.run pos pins s σ H R I q) fun u s1 ⟨x, H1, I1, r1, q1⟩ => ⟨x, H1, I1, r1, w x H1 q1⟩⟩

/-! ### names -/
def cVar (i : Nat) : TE := fun σ H Q => match σ[i]? with
  | some (some v) => Q v H
  | _ => False
section
variable {X : Cx}
theorem cv (i : Nat) {x : Str} {pos : Pos} (hN : X.N[i]? = some x := by rfl) (hv : Vis X.env.scope x := by first | exact Or.inl rfl | exact Or.inr (Or.inl rfl) | exact Or.inr (Or.inr rfl)) (hd : (x == ("__debug__" : Str)) = false := by decide)
    (hcd : (x == ("__classdict__" : Str)) = false := by decide) : PE X (.Name x pos) (cVar i) := PE_imp (pe_var hN hv hd hcd) fun σ H Q h => by
  unfold cVar at h
  split at h
  · rename_i v e
    exact ⟨v, e, h⟩
  · exact h.elim

/-! ### tests whose answer is open -/
end
theorem iteD {c A B : Prop} [Decidable c] (h1 : c → A) (h2 : ¬ c → B) : if decide c = true then A else B := by
  by_cases h : c
  · rw [if_pos (decide_eq_true h)]; exact h1 h
  · rw [if_neg (by rw [decide_eq_true_eq]; exact h)]; exact h2 h
theorem iteB {b : Bool} {A B : Prop} (h1 : b = true → A) (h2 : b = false → B) : if b = true then A else B := by
  cases b with
  | true => exact (if_pos rfl).mpr (h1 rfl)
  | false => rw [if_neg Bool.false_ne_true]; exact h2 rfl
section
variable {X : Cx}
/-! ### operators -/
def cI2 (g : Int → Int → V) : R2 := fun x y H Q => match x, y with
  | .int i, .int j => Q (g i j) H
  | _, _ => False
def cI2C (C : Int → Int → Prop) (g : Int → Int → V) : R2 := fun x y H Q => match x, y with
  | .int i, .int j => C i j ∧ Q (g i j) H
  | _, _ => False
theorem cI2_of {f : Value → Value → Sem Value} {g : Int → Int → V} (h : OpR X f (rI0 g)) : OpR X f (cI2 g) := OpR_imp h fun x y H Q q => by
  unfold cI2 at q
  split at q
  · exact ⟨_, _, rfl, rfl, q⟩
  · exact q.elim
theorem cI2C_of {f : Value → Value → Sem Value} {C : Int → Int → Prop} {g : Int → Int → V} (h : OpR X f (rI C g)) : OpR X f (cI2C C g) := OpR_imp h fun x y H Q q => by
  unfold cI2C at q
  split at q
  · exact ⟨_, _, rfl, rfl, q.1, q.2⟩
  · exact q.elim
theorem c_addI : OpR X (binaryOp .Add) (cI2 fun i j => .int (i + j)) := cI2_of op_add
theorem c_sub : OpR X (binaryOp .Sub) (cI2 fun i j => .int (i - j)) := cI2_of op_sub
/-- factors of at most two hundred figures -/
def FewF (i j : Int) : Prop := (-(10 ^ 200) ≤ i ∧ i ≤ 10 ^ 200) ∧ (-(10 ^ 200) ≤ j ∧ j ≤ 10 ^ 200)
theorem FewF.ok {i j : Int} (h : FewF i j) : CMulW i j := by
  obtain ⟨⟨a, b⟩, c, d⟩ := h
  have k : (10 : Nat) ^ 200 < 2 ^ 1000 := by decide +kernel
  have e : ((10 ^ 200 : Nat) : Int) = (10 : Int) ^ 200 := by norm_cast
  refine wide_mul (a := 1000) (b := 1000) (Nat.lt_of_le_of_lt ?_ k) (Nat.lt_of_le_of_lt ?_ k) (by decide) (by decide) (by decide)
  · rw [← e] at a b; omega
  · rw [← e] at c d; omega
theorem c_mul : OpR X (binaryOp .Mult) (cI2C FewF fun i j => .int (i * j)) := cI2C_of (OpR_imp op_mulW fun x y H Q ⟨i, j, e1, e2, h, q⟩ => ⟨i, j, e1, e2, h.ok, q⟩)
theorem c_mod : OpR X (binaryOp .Mod) (cI2C (fun _ j => 0 < j) fun i j => .int (i % j)) := cI2C_of op_mod
def FewD (_ j : Int) : Prop := 0 < j ∧ j ≤ 10 ^ 200
theorem FewD.ok {i j : Int} (h : FewD i j) : CDivW i j := by
  obtain ⟨a, b⟩ := h
  have k : (10 : Nat) ^ 200 < 2 ^ 1000 := by decide +kernel
  have e : ((10 ^ 200 : Nat) : Int) = (10 : Int) ^ 200 := by norm_cast
  refine wide_div a (b := 1000) (Nat.lt_of_le_of_lt ?_ k) (by decide) (by decide)
  rw [← e] at b; omega
theorem c_fdiv : OpR X (binaryOp .FloorDiv) (cI2C FewD fun i j => .int (i / j)) := cI2C_of (OpR_imp op_fdivW fun x y H Q ⟨i, j, e1, e2, h, q⟩ => ⟨i, j, e1, e2, h.ok, q⟩)
theorem c_lt : OpR X (compareOp .Lt) (cI2 fun i j => .bl (decide (i < j))) := cI2_of op_lt
theorem c_le : OpR X (compareOp .LtE) (cI2 fun i j => .bl (decide (i ≤ j))) := cI2_of op_le
theorem c_gt : OpR X (compareOp .Gt) (cI2 fun i j => .bl (decide (j < i))) := cI2_of op_gt
theorem c_ge : OpR X (compareOp .GtE) (cI2 fun i j => .bl (decide (j ≤ i))) := cI2_of op_ge
/-- a power that is written -/
theorem pe_pow {a n z : Int} {k1 k2 : Nat} {p1 p2 p3 : Pos} (h : CPow a n ∧ a ^ n.toNat = z) : PE X (.BinOp (.Constant (.int a) k1 p1) .Pow (.Constant (.int n) k2 p2) p3) (tC (.int z)) :=
  PE_imp (pe_op op_pow pe_int pe_int) fun σ H Q q => ⟨_, _, rfl, rfl, h.1, by show Q (.int (a ^ n.toNat)) H; rw [h.2]; exact q⟩
/-- a minus in front -/
def cNeg : V → Hp → VK → Prop := fun x H Q => match x with
  | .int i => Q (.int (-i)) H
  | _ => False
theorem c_neg : UnR X (unaryOp .USub) cNeg := fun pins s σ H x v Q I rx q => by
  unfold cNeg at q
  split at q
  · exact un_neg pins s σ H _ v Q I rx ⟨_, rfl, q⟩
  · exact q.elim

/-! ### tests -/
def cTest (t : TE) : TT := fun σ H Q => t σ H fun x H' => match x with
  | .bl k => Q k H'
  | _ => False
variable {a b : Expr} {ta tb : TE} {pos : Pos}
theorem bl_eq (Q : Bool → Hp → Prop) : (fun (x : V) (H' : Hp) => ∃ k, x = .bl k ∧ Q k H') = (fun x H' => match x with
  | .bl k => Q k H'
  | _ => False) := by
  funext x H'
  apply propext
  cases x <;> simp
theorem ct_cmp {op : CmpOp} {r : R2} (ho : OpR X (compareOp op) r) (ha : PE X a ta) (hb : PE X b tb) (hm : behindInMarks op b = false) : PT X (.Compare a [op] [b] pos) (cTest (tOp r ta tb)) :=
  PT_imp (pt_cmpR ho ha hb hm) fun σ H Q hw => by
    show tOp r ta tb σ H fun x H' => ∃ k, x = .bl k ∧ Q k H'
    rw [bl_eq]
    exact hw
/-- an expression whose value is a bool, as a test -/
theorem ct_val {e : Expr} {t : TE} (h : PE X e t) (he : ∀ whole, isTrue e X.env whole = (do let v ← whole; standAt e.pos; holding [v] (truthy v)) := by intro _; rfl) : PT X e (cTest t) :=
  PT_imp (pt_val h he) fun σ H Q hw => by
    show t σ H fun x H' => ∃ k, x = .bl k ∧ Q k H'
    rw [bl_eq]
    exact hw
/-- bools in a row, as values -/
def cAndV (ta tb : TE) : TE := fun σ H Q => ta σ H fun x H1 => match x with
  | .bl c => if c = true then tb σ H1 Q else Q (.bl false) H1
  | _ => False
def cOrV (ta tb : TE) : TE := fun σ H Q => ta σ H fun x H1 => match x with
  | .bl c => if c = true then Q (.bl true) H1 else tb σ H1 Q
  | _ => False
def cNotV (ta : TE) : TE := fun σ H Q => ta σ H fun x H1 => match x with
  | .bl c => Q (.bl (!c)) H1
  | _ => False
variable {rest : List Expr}
theorem c_and (ha : PE X a ta) (hb : PE X (.BoolOp .And (b :: rest) pos) tb) : PE X (.BoolOp .And (a :: b :: rest) pos) (cAndV ta tb) :=
  PE_imp (pe_and ha hb) fun σ H Q hw => by
    show ta σ H fun x H1 => ∃ c, x = .bl c ∧ (fun (c : Bool) (H1 : Hp) => if c = true then tb σ H1 Q else Q (.bl false) H1) c H1
    rw [bl_eq]
    exact hw
theorem c_or (ha : PE X a ta) (hb : PE X (.BoolOp .Or (b :: rest) pos) tb) : PE X (.BoolOp .Or (a :: b :: rest) pos) (cOrV ta tb) :=
  PE_imp (pe_or ha hb) fun σ H Q hw => by
    show ta σ H fun x H1 => ∃ c, x = .bl c ∧ (fun (c : Bool) (H1 : Hp) => if c = true then Q (.bl true) H1 else tb σ H1 Q) c H1
    rw [bl_eq]
    exact hw
theorem c_not (ha : PE X a ta) : PE X (.UnaryOp .Not a pos) (cNotV ta) :=
  PE_imp (pe_not ha) fun σ H Q hw => by
    show ta σ H fun x H1 => ∃ c, x = .bl c ∧ (fun (c : Bool) (H1 : Hp) => Q (.bl (!c)) H1) c H1
    rw [bl_eq]
    exact hw

/-! ### ways that join -/
/-- behind a statement whose ways meet: what holds there is said once -/
def tJoin (t u : TS) : TS := fun D σ H => ∃ W : L2.St → Hp → Prop, t { D with nx := W } σ H ∧ ∀ σ' H', W σ' H' → u D σ' H'
theorem pss_cut {st : Stmt} {rest : List Stmt} {t u : TS} (h1 : PS X st t) (h2 : PSs X rest u) : PSs X (st :: rest) (tJoin t u) := ⟨fun pins s σ H D I h => by
  obtain ⟨W, hm, hu⟩ := h
  refine wpAny_execs_cons (thn (h1.run pins s σ H { D with nx := W } I hm) fun f s1 q => ?_)
  cases f with
  | next =>
    obtain ⟨σ', H', I', q⟩ := q
    exact h2.run pins s1 σ' H' D I' (hu σ' H' q)
  | _ => exact q⟩

/-! ### built-in functions -/
def cInt1 : List V → Hp → VK → Prop := fun xs H Q => match xs with
  | [.int i] => Q (.int i) H
  | [.bl k] => Q (.int (if k then 1 else 0)) H
  | _ => False
theorem c_int : CallR X (.type "int") cInt1 := CallR_imp call_int1 fun xs H Q q => by
  unfold cInt1 at q
  split at q
  · exact .inl ⟨_, rfl, q⟩
  · exact .inr ⟨_, rfl, q⟩
  · exact q.elim
def cAbs : List V → Hp → VK → Prop := fun xs H Q => match xs with
  | [.int i] => Q (.int (i.natAbs : Int)) H
  | _ => False
theorem c_abs : CallR X (.builtin "abs") cAbs := CallR_imp call_abs fun xs H Q q => by
  unfold cAbs at q
  split at q
  · rename_i i
    refine ⟨_, rfl, ?_⟩
    have e : (if i < 0 then -i else i) = (i.natAbs : Int) := by split <;> omega
    rw [e]
    exact q
  · exact q.elim
def cI2L (g : Int → Int → Int) : List V → Hp → VK → Prop := fun xs H Q => match xs with
  | [.int i, .int j] => Q (.int (g i j)) H
  | _ => False
theorem c_max (hc : X.calm = true) : CallR X (.builtin "max") (cI2L fun i j => max i j) := CallR_imp (call_max2 hc) fun xs H Q q => by
  unfold cI2L at q
  split at q
  · rename_i i j
    refine ⟨_, _, rfl, ?_⟩
    have e : (if j > i then j else i) = max i j := by split <;> omega
    rw [e]
    exact q
  · exact q.elim
theorem c_min (hc : X.calm = true) : CallR X (.builtin "min") (cI2L fun i j => min i j) := CallR_imp (call_min2 hc) fun xs H Q q => by
  unfold cI2L at q
  split at q
  · rename_i i j
    refine ⟨_, _, rfl, ?_⟩
    have e : (if j < i then j else i) = min i j := by split <;> omega
    rw [e]
    exact q
  · exact q.elim
end

/-! ### a def of the text and its promise -/
structure FunAt (K : PySem.W.Frag) (mg : Str → Option Value) (x : Str) (st : Stmt) (ps : List Str) : Prop where
  ex : ∃ f fd, Fun K x x st f fd ∧ mg x = some (.ref f) ∧ Binds K fd ps []
structure DefOk (P : Program) (w : World) (K : PySem.W.Frag) (mg : Str → Option Value) (base : Heap) (CX : CXT) (k : Nat) (x : Str) (ps : List Str) (sp : Sp) : Prop where
  ex : ∃ f fd, FnOk P w K mg base CX k f fd ps sp ∧ mg x = some (.ref f) ∧ PySem.W.keepIn K (.ref f) = true ∧ Binds K fd ps []
section
variable {P : Program} {w : World} {K : PySem.W.Frag} {mg : Str → Option Value} {base : Heap} {x : Str} {st : Stmt} {N ps : List Str} {sp : Sp} {k j : Nat}
theorem FunAt.ok (A : FunAt K mg x st ps) (S : FnScope N ps (defScope st)) (len : ∀ vs H Q E, sp vs H Q E → vs.length = ps.length)
    (hbody : ∀ (f : Addr) (cdv : Value) (A : Around) (outer : List Env) (s : Shared) (H : Hp) (vs : List V) (Q : VK) (E : XK), Room k (A.deeper (envOfC x (defScope st) s.heap.objs.size f cdv)) → sp vs H Q E →
      ∃ t, PSs (cxOf CX0 P w K mg base N x (defScope st) f cdv A outer s H E).nox (defBody st) t ∧ t { nx := fun _ H' => Q .non H', rt := Q } (start N vs) H) : DefOk P w K mg base CX0 (k + 1) x ps sp := by
  obtain ⟨f, fd, F, g, b⟩ := A.ex
  exact ⟨f, fd, F.ok S len (hbody f), g, F.kp, b⟩
/-- a def that calls itself: by the depth -/
theorem FunAt.rec_ {sp : Nat → Sp} (A : FunAt K mg x st ps) (S : FnScope N ps (defScope st)) (h0 : ∀ vs H Q E, ¬ sp 0 vs H Q E) (len : ∀ n vs H Q E, sp n vs H Q E → vs.length = ps.length)
    (hbody : ∀ (n : Nat), DefOk P w K mg base CX0 (k + n) x ps (sp n) → ∀ (f : Addr) (cdv : Value) (A : Around) (outer : List Env) (s : Shared) (H : Hp) (vs : List V) (Q : VK) (E : XK), Room (k + n) (A.deeper (envOfC x (defScope st) s.heap.objs.size f cdv)) → sp (n + 1) vs H Q E →
      ∃ t, PSs (cxOf CX0 P w K mg base N x (defScope st) f cdv A outer s H E).nox (defBody st) t ∧ t { nx := fun _ H' => Q .non H', rt := Q } (start N vs) H) : ∀ n, DefOk P w K mg base CX0 (k + n) x ps (sp n) := by
  obtain ⟨f, fd, F, g, b⟩ := id A.ex
  intro n
  induction n with
  | zero => exact ⟨f, fd, ⟨fun _ _ _ _ h => (h0 _ _ _ _ h).elim, fun _ _ _ _ _ _ _ _ _ _ _ _ _ h => (h0 _ _ _ _ h).elim⟩, g, F.kp, b⟩
  | succ n ih => exact ⟨f, fd, F.ok S (len _) (hbody n ih f), g, F.kp, b⟩
theorem DefOk.imp {CX : CXT} {sp' : Sp} (D : DefOk P w K mg base CX k x ps sp) (h : ∀ vs H Q E, sp' vs H Q E → sp vs H Q E) : DefOk P w K mg base CX k x ps sp' := by
  obtain ⟨f, fd, F, r⟩ := D.ex
  exact ⟨f, fd, F.imp h, r⟩
theorem DefOk.mono {CX : CXT} (D : DefOk P w K mg base CX k x ps sp) (h : k ≤ j) : DefOk P w K mg base CX j x ps sp := by
  obtain ⟨f, fd, F, r⟩ := D.ex
  exact ⟨f, fd, F.mono h, r⟩
end
section
variable {X : Cx} {x : Str} {ps : List Str} {sp : Sp} {k j : Nat} {p pos : Pos} {e : Expr} {es : List Expr} {t : TA}
theorem pe_def (D : DefOk X.prog X.w X.K X.mg X.base CX0 k x ps sp) (hr : Room j X.A) (hj : k ≤ j) (ha : PA X (e :: es) t) (hg : Gl X x := by rfl) (hdb : (x == ("__debug__" : Str)) = false := by decide)
    (he : starEach (e :: es) X.env = (false, eval e X.env) :: starEach es X.env := by rfl) (hpl : (backTo pos (starEach es X.env)).any (·.1) = false := by rfl) :
    PE X (.Call (.Name x p) (e :: es) [] pos) (tCall sp [] E0 t) := by
  obtain ⟨f, fd, F, g, kp, b⟩ := D.ex
  exact pe_call F (hr.mono hj) hg g kp b .nil pass0 ha hdb he hpl
theorem pe_def0 (D : DefOk X.prog X.w X.K X.mg X.base CX0 k x ps sp) (hr : Room j X.A) (hj : k ≤ j) (hg : Gl X x := by rfl) (hdb : (x == ("__debug__" : Str)) = false := by decide) :
    PE X (.Call (.Name x p) [] [] pos) (tCall sp [] E0 tNil) := by
  obtain ⟨f, fd, F, g, kp, b⟩ := D.ex
  exact pe_call0 F (hr.mono hj) hg g kp b .nil pass0 hdb
end
end CL

set_option Elab.async false
set_option linter.all false
set_option maxRecDepth 100000
set_option maxHeartbeats 1000000
/-! Pen: the source of drawn numbers of the laws, its readings and promises. -/
namespace CL
open PySem PySem.Spec PyProof.Rows L2

abbrev kCells : Key := Sum.inr ("cells" : Str)
abbrev kBegun : Key := Sum.inr ("begun" : Str)
abbrev kRest : Key := Sum.inr ("rest" : Str)
abbrev penKvs (c : Addr) (b r : Int) : List (Key × V) := [(kCells, .ref c), (kBegun, .int b), (kRest, .int r)]
structure PenAt (H : Hp) (p c : Addr) (ns : List Int) (b r : Int) : Prop where
  dict : H p = some (.dK (penKvs c b r))
  cells : H c = some (.lst (ns.map V.int))
  len : ns.length ≤ 63
  b0 : 0 ≤ b
  r0 : 0 ≤ r
/-- all but p is as it was -/
structure But (p : Addr) (H H' : Hp) : Prop where
  keep : ∀ b o, b ≠ p → H b = some o → H' b = some o
  own : ∀ c b r, H p = some (.dK (penKvs c b r)) → ∃ b' r', H' p = some (.dK (penKvs c b' r'))
theorem But.refl {p : Addr} {H : Hp} : But p H H := ⟨fun _ _ _ h => h, fun _ b r h => ⟨b, r, h⟩⟩
theorem But.trans {p : Addr} {H H1 H2 : Hp} (a : But p H H1) (b : But p H1 H2) : But p H H2 := ⟨fun x o n h => b.keep x o n (a.keep x o n h), fun c x r h => by
  obtain ⟨x1, r1, h1⟩ := a.own c x r h
  exact b.own c x1 r1 h1⟩
theorem But.of {p : Addr} {H H' : Hp} (s : Same H H') : But p H H' := ⟨fun b o _ h => s b o h, fun _ b r h => ⟨b, r, s _ _ h⟩⟩
theorem penK1 : ¬ kCells = kBegun := by decide +kernel
theorem penK2 : ¬ kCells = kRest := by decide +kernel
theorem penK3 : ¬ kBegun = kRest := by decide +kernel
theorem pen_cells {c : Addr} {b r : Int} : valV (penKvs c b r) kCells = some (.ref c) := valV_pos rfl
theorem pen_begun {c : Addr} {b r : Int} : valV (penKvs c b r) kBegun = some (.int b) := by
  rw [valV_neg penK1]; exact valV_pos rfl
theorem pen_rest {c : Addr} {b r : Int} : valV (penKvs c b r) kRest = some (.int r) := by
  rw [valV_neg penK2, valV_neg penK3]; exact valV_pos rfl
theorem put_begun {c : Addr} {b r b' : Int} : putK (penKvs c b r) kBegun (.int b') = penKvs c b' r := by
  have h1 := penK1; have h3 : ¬ kRest = kBegun := fun e => penK3 e.symm
  unfold putK penKvs
  simp only [List.any_cons, List.map_cons, List.map_nil, decide_eq_false h1, decide_true, Bool.false_or, Bool.true_or, if_true, if_neg h1, if_neg h3]
theorem put_rest {c : Addr} {b r r' : Int} : putK (penKvs c b r) kRest (.int r') = penKvs c b r' := by
  have h2 := penK2; have h3 := penK3
  unfold putK penKvs
  simp only [List.any_cons, List.map_cons, List.map_nil, decide_eq_false h2, decide_eq_false h3, decide_true, Bool.false_or, Bool.true_or, if_true, if_neg h2, if_neg h3]
theorem PenAt.ne {H : Hp} {p c : Addr} {ns : List Int} {b r : Int} (h : PenAt H p c ns b r) : p ≠ c := ne_of h.dict h.cells (by intro z; cases z)
theorem PenAt.put {H : Hp} {p c : Addr} {ns : List Int} {b r b' r' : Int} (h : PenAt H p c ns b r) (h1 : 0 ≤ b') (h2 : 0 ≤ r') : PenAt (upd H p (.dK (penKvs c b' r'))) p c ns b' r' :=
  ⟨upd_same, by rw [upd_ne h.ne.symm]; exact h.cells, h.len, h1, h2⟩
theorem pen_inj {c c' : Addr} {b r b' r' : Int} (h : (HO.dK (penKvs c b r)) = .dK (penKvs c' b' r')) : c = c' := by
  injection h with h
  unfold penKvs at h
  injection h with h _
  injection h with _ h
  injection h
theorem But.put {H : Hp} {p c : Addr} {ns : List Int} {b r b' r' : Int} (P : PenAt H p c ns b r) : But p H (upd H p (.dK (penKvs c b' r'))) := ⟨fun b u n h => by rw [upd_ne n]; exact h, fun c' b1 r1 h => by
  have e := pen_inj (Option.some.inj (h.symm.trans P.dict))
  exact ⟨b', r', by rw [upd_same, e]⟩⟩
/-- the cells of the pen at p lie at c -/
def Cel (H : Hp) (p c : Addr) : Prop := ∃ b r, H p = some (.dK (penKvs c b r))
theorem Cel.but {H H' : Hp} {p c : Addr} (h : Cel H p c) (s : But p H H') : Cel H' p c := by
  obtain ⟨b, r, h⟩ := h
  exact s.own c b r h
theorem Cel.same {H H' : Hp} {p c : Addr} (h : Cel H p c) (s : Same H H') : Cel H' p c := by
  obtain ⟨b, r, h⟩ := h
  exact ⟨b, r, s _ _ h⟩
theorem Cel.at_ {H : Hp} {p c c' : Addr} {ns : List Int} {b r : Int} (h : Cel H p c) (P : PenAt H p c' ns b r) : c' = c := by
  obtain ⟨b1, r1, h⟩ := h
  exact pen_inj (Option.some.inj (P.dict.symm.trans h))
theorem PenAt.same {H H' : Hp} {p c : Addr} {ns : List Int} {b r : Int} (h : PenAt H p c ns b r) (s : Same H H') : PenAt H' p c ns b r := ⟨s _ _ h.dict, s _ _ h.cells, h.len, h.b0, h.r0⟩

section
variable {X : Cx} {o i value : Expr} {td tv : TE} {pos pos' : Pos}
/-- pen[..], by the key -/
def cPenGet (k : Nat) (td : TE) : TE := fun σ H Q => td σ H fun x H1 => match x with
  | .ref p => ∃ c ns b r, PenAt H1 p c ns b r ∧ Q (match k with | 0 => .ref c | 1 => .int b | _ => .int r) H1
  | _ => False
theorem pe_pget {z : Str} {k j : Nat} {kp : Pos} (hz : (z = "cells" ∧ k = 0) ∨ (z = "begun" ∧ k = 1) ∨ (z = "rest" ∧ k = 2)) (hu : X.A.units + 1 < cLine) (ho : PE X o td) : PE X (.Subscript o (.Constant (.str z) j kp) pos) (cPenGet k td) :=
  PE_imp (pe_dget hu (PE_up ho) pe_str (fun _ _ => rfl)) fun σ H Q h => ⟨_, h, fun x H1 q => by
    cases x with
    | ref p =>
      obtain ⟨c, ns, b, r, P, q⟩ := q
      show ∃ a v, V.ref p = .ref a ∧ DGet H1 a (.str z) (some v) ∧ Q v H1
      rcases hz with ⟨rfl, rfl⟩ | ⟨rfl, rfl⟩ | ⟨rfl, rfl⟩
      · exact ⟨p, _, rfl, by have := DGet.k (k := kCells) P.dict; rw [pen_cells] at this; exact this, q⟩
      · exact ⟨p, _, rfl, by have := DGet.k (k := kBegun) P.dict; rw [pen_begun] at this; exact this, q⟩
      · exact ⟨p, _, rfl, by have := DGet.k (k := kRest) P.dict; rw [pen_rest] at this; exact this, q⟩
    | _ => exact q.elim⟩
/-- pen["begun"] = .., pen["rest"] = .. -/
def cPenPut (k : Nat) (td tv : TE) : TS := fun D σ H => tv σ H fun v H1 => td σ H1 fun x H2 => match x, v with
  | .ref p, .int z => ∃ c ns b r, PenAt H2 p c ns b r ∧ 0 ≤ z ∧ ∀ H3, But p H2 H3 → PenAt H3 p c ns (if k = 1 then z else b) (if k = 1 then r else z) → D.nx σ H3
  | _, _ => False
theorem ps_pput {z : Str} {k j : Nat} {kp : Pos} (hz : (z = "begun" ∧ k = 1) ∨ (z = "rest" ∧ k = 2)) (hu : X.A.units + 1 < cLine) (ho : PE X o td) (hv : PE X value tv)
    (hs : swapsWith value (some (.Subscript o (.Constant (.str z) j kp) pos')) pos.line X.env = pure false := by rfl) : PS X (.Assign [.Subscript o (.Constant (.str z) j kp) pos'] value pos) (cPenPut k td tv) :=
  PS_imp (ps_dput hu (PE_up ho) pe_str (PE_up hv) hs) fun D σ H h => ⟨_, h, fun v H1 q => ⟨_, q, fun x H2 q => by
    show ∃ a H4, x = .ref a ∧ DPut H2 a (.str z) v H4 ∧ D.nx σ H4
    cases x with
    | ref p =>
      cases v with
      | int y =>
        obtain ⟨c, ns, b, r, P, h0, q⟩ := q
        have l3 : (penKvs c b r).length < sizeLine := by rw [sizeLine_eq]; exact (by decide : 3 < 16777216)
        rcases hz with ⟨rfl, rfl⟩ | ⟨rfl, rfl⟩
        · exact ⟨p, _, rfl, DPut.k (k := kBegun) P.dict l3, by rw [put_begun]; exact q _ (But.put P) (P.put h0 P.r0)⟩
        · exact ⟨p, _, rfl, DPut.k (k := kRest) P.dict l3, by rw [put_rest]; exact q _ (But.put P) (P.put P.b0 h0)⟩
      | _ => exact q.elim
    | _ => exact q.elim⟩⟩
/-- place, size = pen["begun"], len(pen["cells"]) goes by the list's length -/
def cLenL (K : PySem.W.Frag) : List V → Hp → VK → Prop := fun xs H Q => match xs with
  | [.ref p] => ∃ ys, (SqL K H p ys ∨ SqT K H p ys) ∧ Q (.int ys.length) H
  | _ => False
theorem c_lenL : CallR X (.builtin "len") (cLenL X.K) := CallR_imp call_len_seq fun xs H Q q => by
  unfold cLenL at q
  split at q
  · obtain ⟨ys, h, q⟩ := q
    exact ⟨_, ys, rfl, h, q⟩
  · exact q.elim
/-- xs[i], a list -/
def cIxL (K : PySem.W.Frag) : R2 := fun x y H Q => match x, y with
  | .ref p, .int i => ∃ xs v, SqL K H p xs ∧ atI xs i = some v ∧ Q v H
  | _, _ => False
theorem c_ixL : IxR X (cIxL X.K) := fun a b pins s σ H x y v u Q I rx ry q => by
  unfold cIxL at q
  split at q
  · obtain ⟨xs, z, h, e, q⟩ := q
    exact ix_list a b pins s σ H _ _ v u Q I rx ry ⟨_, xs, _, z, rfl, rfl, h, e, q⟩
  · exact q.elim
end

/-! ### what the drawing promises -/
/-- how great a number of choices may be, by the depth -/
def bigD : Nat → Int
  | 0 => 60000000
  | n + 1 => 60000000 * (bigD n - 1)
theorem bigD0 : ∀ n, 60000000 ≤ bigD n ∧ bigD n ≤ 60000000 ^ (n + 1)
  | 0 => ⟨by decide, by decide⟩
  | n + 1 => by
    have ⟨h, h'⟩ := bigD0 n
    refine ⟨by show (60000000 : Int) ≤ 60000000 * (bigD n - 1); omega, ?_⟩
    show 60000000 * (bigD n - 1) ≤ 60000000 ^ (n + 2)
    have : (60000000 : Int) ^ (n + 2) = 60000000 * 60000000 ^ (n + 1) := by rw [Int.pow_succ, Int.mul_comm]
    omega
theorem pyMod_small {x m : Int} (h : 0 < m) : 0 ≤ x % m ∧ x % m < m := ⟨Int.emod_nonneg _ (by omega), Int.emod_lt_of_pos _ h⟩
/-- the list's item at a place that is a remainder -/
theorem at_mod {ns : List Int} {x : Int} (h : 0 < ((ns.map V.int).length : Int)) : ∃ z, atI (ns.map V.int) (x % ((ns.map V.int).length : Int)) = some (.int z) := by
  have ⟨a, b⟩ := pyMod_small (x := x) h
  have hj : (x % ((ns.map V.int).length : Int)).toNat < ns.length := by rw [List.length_map] at a b ⊢; omega
  refine ⟨ns[(x % ((ns.map V.int).length : Int)).toNat], ?_⟩
  unfold atI ixN
  rw [if_pos a, if_pos b, Option.bind_some, List.getElem?_map, List.getElem?_eq_getElem hj]
  rfl
/-- the mixed number -/
def mix1 (t l : Int) : Int := (t % 4294967231 * 48271 + 30269 * l * l + 211) % 4294967279
def mix2 (m l : Int) : Int := (m * m + 69069 * m + 23 * l + 7) % 4294967291
def mix3 (m : Int) : Int := m * (m + 32771) % 4294967197 / 64
theorem mix1_b (t l : Int) : 0 ≤ mix1 t l ∧ mix1 t l < 4294967279 := pyMod_small (by decide)
theorem mix2_b (t l : Int) : 0 ≤ mix2 t l ∧ mix2 t l < 4294967291 := pyMod_small (by decide)
theorem mix3_b (t : Int) : 0 ≤ mix3 t ∧ mix3 t < 4294967197 := by
  have ⟨a, b⟩ := pyMod_small (x := t * (t + 32771)) (m := 4294967197) (by decide)
  unfold mix3
  omega
theorem lt0 {n : Int} (h : 0 < n := by decide) : 0 < n := h
theorem few_of {i j : Int} (a : -(10 ^ 100) ≤ i) (b : i ≤ 10 ^ 100) (c : -(10 ^ 100) ≤ j) (d : j ≤ 10 ^ 100) : FewF i j := ⟨⟨by omega, by omega⟩, by omega, by omega⟩
def spDraw : Nat → Sp
  | 0 => fun _ _ _ _ => False
  | n + 1 => fun vs H Q _ => match vs with
    | [.ref p, .int m] => ∃ c ns b r, PenAt H p c ns b r ∧ 0 < m ∧ m ≤ bigD n ∧ m ≤ 10 ^ 100 ∧ b + (n : Int) < 2 ^ 60 ∧
        ∀ v b' r' H', 0 ≤ v → v < m → b ≤ b' → b' ≤ b + n + 1 → PenAt H' p c ns b' r' → But p H H' → Q (.int v) H'
    | _ => False
/-- a pen that has room for k more cells -/
def PenB (H : Hp) (p : Addr) (k : Nat) : Prop := ∃ c ns b r, PenAt H p c ns b r ∧ b + (k : Int) < 2 ^ 60
theorem PenB.mono {H : Hp} {p : Addr} {j k : Nat} (h : PenB H p k) (l : j ≤ k) : PenB H p j := by
  obtain ⟨c, ns, b, r, P, q⟩ := h
  exact ⟨c, ns, b, r, P, by omega⟩
theorem PenB.same {H H' : Hp} {p : Addr} {k : Nat} (h : PenB H p k) (s : Same H H') : PenB H' p k := by
  obtain ⟨c, ns, b, r, P, q⟩ := h
  exact ⟨c, ns, b, r, P.same s, q⟩
theorem PenB.ne {H : Hp} {p a : Addr} {k : Nat} {o : HO} (h : PenB H p k) (e : H a = some o) (n : ∀ kvs, o ≠ .dK kvs) : a ≠ p := by
  obtain ⟨c, ns, b, r, P, q⟩ := h
  exact ne_of e P.dict (n _)
theorem same_new {H : Hp} {p : Addr} {o : HO} (h : H p = none) : Same H (upd H p o) := fun b u e => by rw [upd_ne (ne_of_none e h)]; exact e
theorem But.sq {K : PySem.W.Frag} {H H' : Hp} {p a : Addr} {k : Nat} {xs : List V} (s : But p H H') (P : PenB H p k) (h : SqL K H a xs) : SqL K H' a xs := by
  rcases h with (h | ⟨o, h⟩) | h
  · exact .inl (.inl (s.keep a _ (P.ne h (by intro _ z; cases z)) h))
  · exact .inl (.inr ⟨o, s.keep a _ (P.ne h (by intro _ z; cases z)) h⟩)
  · exact .inr h
theorem But.tq {K : PySem.W.Frag} {H H' : Hp} {p a : Addr} {k : Nat} {xs : List V} (s : But p H H') (P : PenB H p k) (h : SqT K H a xs) : SqT K H' a xs := by
  rcases h with (h | ⟨o, h⟩) | h
  · exact .inl (.inl (s.keep a _ (P.ne h (by intro _ z; cases z)) h))
  · exact .inl (.inr ⟨o, s.keep a _ (P.ne h (by intro _ z; cases z)) h⟩)
  · exact .inr h
theorem bigD4 : bigD 4 = 60000000 * (60000000 * (60000000 * (60000000 * (60000000 - 1) - 1) - 1) - 1) := rfl
/-- the drawing, from up to ten to the 38th choices -/
def spDr : Sp := fun vs H Q _ => match vs with
  | [.ref p, .int m] => ∃ k, PenB H p (k + 5) ∧ 0 < m ∧ m ≤ 10 ^ 38 ∧ ∀ v H', 0 ≤ v → v < m → PenB H' p k → But p H H' → Q (.int v) H'
  | _ => False
theorem spDr_of {vs : List V} {H : Hp} {Q : VK} {E : XK} (h : spDr vs H Q E) : spDraw 5 vs H Q E := by
  unfold spDr at h
  split at h
  · rename_i p m
    obtain ⟨k, ⟨c, ns, b, r, P, hb⟩, m0, mm, q⟩ := h
    refine ⟨c, ns, b, r, P, m0, by rw [bigD4]; omega, by omega, by show b + (4 : Int) < 2 ^ 60; omega, fun v b' r' H' v0 v1 b0 b1 P' s => q v H' v0 v1 ⟨c, ns, b', r', P', by have b2 : b' ≤ b + (4 : Int) + 1 := b1; omega⟩ s⟩
  · exact h.elim
/-- an item of a list -/
def spPick (K : PySem.W.Frag) : Sp := fun vs H Q _ => match vs with
  | [.ref p, .ref a] => ∃ k xs, PenB H p (k + 5) ∧ SqL K H a xs ∧ 0 < xs.length ∧ xs.length ≤ 10 ^ 20 ∧ ∀ v H', v ∈ xs → PenB H' p k → But p H H' → Q v H'
  | _ => False
/-- from -most to most -/
def spAround : Sp := fun vs H Q _ => match vs with
  | [.ref p, .int m] => ∃ k, PenB H p (k + 5) ∧ 0 ≤ m ∧ m ≤ 10 ^ 37 ∧ ∀ v H', -m ≤ v → v ≤ m → PenB H' p k → But p H H' → Q (.int v) H'
  | _ => False
def spGreat : Sp := fun vs H Q _ => match vs with
  | [.ref p, .int m] => ∃ k, PenB H p (k + 25) ∧ 0 ≤ m ∧ m ≤ 10 ^ 37 ∧ ∀ v H', -m ≤ v → v ≤ m → PenB H' p k → But p H H' → Q (.int v) H'
  | _ => False
theorem atI_mem {xs : List V} {x : Int} (h0 : 0 ≤ x) (h1 : x < (xs.length : Int)) : ∃ v, v ∈ xs ∧ atI xs x = some v := by
  have hj : x.toNat < xs.length := by omega
  refine ⟨xs[x.toNat], List.getElem_mem hj, ?_⟩
  unfold atI ixN
  rw [if_pos h0, if_pos h1, Option.bind_some, List.getElem?_eq_getElem hj]
end CL

set_option Elab.async false
set_option linter.all false
set_option maxRecDepth 100000
set_option maxHeartbeats 2000000
/-! G: promises of defs that are called where no text of a thing is being made (so that repr may be asked of lists, tuples, dicts within them). -/
namespace CL
open PySem PySem.Spec PyProof.Rows L2

/-- nothing is being shown around -/
abbrev Gd (A : Around) : Prop := A.guards = some []
structure FnG (P : Program) (w : World) (K : PySem.W.Frag) (mg : Str → Option Value) (base : Heap) (CX : CXT) (k : Nat) (f : Addr) (fd : FuncData) (ps : List Str) (sp : Sp) : Prop where
  len : ∀ vs H Q E, sp vs H Q E → vs.length = ps.length
  go : ∀ (A : Around) (outer : List Env) (s : Shared) (H : Hp) (args : Args) (us : List Value) (vs : List V) (Q : VK) (E : XK), Gd A → Room k A → Env0 P w K mg base A outer s H → BindsTo s fd args (ps.zip us) → Vals vs us → sp vs H Q E →
    codeAny (model P w) A (.call (.ref f) args) (CR CX outer P w H s Q E) s
section
variable {P : Program} {w : World} {K : PySem.W.Frag} {mg : Str → Option Value} {base : Heap} {CX : CXT} {j k : Nat} {f : Addr} {fd : FuncData} {ps : List Str} {sp sp' : Sp}
theorem FnG.of (F : FnOk P w K mg base CX k f fd ps sp) : FnG P w K mg base CX k f fd ps sp :=
  ⟨F.len, fun A outer s H args us vs Q E _ => F.run A outer s H args us vs Q E⟩
theorem FnG.mono (F : FnG P w K mg base CX j f fd ps sp) (h : j ≤ k) : FnG P w K mg base CX k f fd ps sp :=
  ⟨F.len, fun A outer s H args us vs Q E g hr => F.go A outer s H args us vs Q E g (hr.mono h)⟩
theorem FnG.imp (F : FnG P w K mg base CX k f fd ps sp) (h : ∀ vs H Q E, sp' vs H Q E → sp vs H Q E) : FnG P w K mg base CX k f fd ps sp' :=
  ⟨fun vs H Q E q => F.len vs H Q E (h _ _ _ _ q), fun A outer s H args us vs Q E g hr he hb hv hs => F.go A outer s H args us vs Q E g hr he hb hv (h _ _ _ _ hs)⟩
/-- the rule for a def's body, with what is around known -/
theorem fnG_of {name qual : Str} {params : Arguments} {body : List Stmt} {scope : Scope} {dV kV doc pm cdv ct oc : Value} {an od : Option Addr} {osl : Array (Option Value)} {N : List Str}
    (lk : K.lookup f = some ⟨oc, od, .func (PySem.W.fnOf name qual params body scope dV kV doc pm an cdv ct), osl⟩) (hcd : PySem.W.codeIn K cdv qual = true) (S : FnScope N ps scope) (len : ∀ vs H Q E, sp vs H Q E → vs.length = ps.length)
    (hbody : ∀ (A : Around) (outer : List Env) (s : Shared) (H : Hp) (vs : List V) (Q : VK) (E : XK), Gd A → Room k (A.deeper (envOfC qual scope s.heap.objs.size f cdv)) → sp vs H Q E →
      ∃ t, PSs (cxOf CX P w K mg base N qual scope f cdv A outer s H E) body t ∧ t { nx := fun _ H' => Q .non H', rt := Q } (start N vs) H) :
    FnG P w K mg base CX (k + 1) f (PySem.W.fnOf name qual params body scope dV kV doc pm an cdv ct) ps sp := by
  refine ⟨len, fun A outer s H args us vs Q E g hr e0 hb r hsp => ?_⟩
  have KX : K.In s.heap := e0.mod.kin.keeps fun b o e => (e0.bs b o e).1
  exact LamX.run_ofS lk hcd S hr e0 hb r (len _ _ _ _ hsp) fun hr' => hbody A outer s H vs Q E g hr' hsp
end
structure DefG (P : Program) (w : World) (K : PySem.W.Frag) (mg : Str → Option Value) (base : Heap) (CX : CXT) (k : Nat) (x : Str) (ps : List Str) (sp : Sp) : Prop where
  ex : ∃ f fd, FnG P w K mg base CX k f fd ps sp ∧ mg x = some (.ref f) ∧ PySem.W.keepIn K (.ref f) = true ∧ Binds K fd ps []
section
variable {P : Program} {w : World} {K : PySem.W.Frag} {mg : Str → Option Value} {base : Heap} {CX : CXT} {x : Str} {st : Stmt} {N ps : List Str} {sp : Sp} {k j : Nat}
theorem FunAt.okG (A : FunAt K mg x st ps) (S : FnScope N ps (defScope st)) (len : ∀ vs H Q E, sp vs H Q E → vs.length = ps.length)
    (hbody : ∀ (f : Addr) (cdv : Value) (A : Around) (outer : List Env) (s : Shared) (H : Hp) (vs : List V) (Q : VK) (E : XK), Gd A → Room k (A.deeper (envOfC x (defScope st) s.heap.objs.size f cdv)) → sp vs H Q E →
      ∃ t, PSs (cxOf CX0 P w K mg base N x (defScope st) f cdv A outer s H E).nox (defBody st) t ∧ t { nx := fun _ H' => Q .non H', rt := Q } (start N vs) H) : DefG P w K mg base CX0 (k + 1) x ps sp := by
  obtain ⟨f, fd, F, g, b⟩ := A.ex
  obtain ⟨oc, od, kV, doc, pm, an, cdv, ct, osl, rfl, lk, hcd⟩ := F.ex
  refine ⟨f, _, fnG_of lk hcd S len fun A outer s H vs Q E g hr hsp => ?_, g, F.kp, b⟩
  obtain ⟨t, h, q⟩ := hbody f cdv A outer s H vs Q E g hr hsp
  exact ⟨t, h.nox, q⟩
theorem DefG.of (D : DefOk P w K mg base CX k x ps sp) : DefG P w K mg base CX k x ps sp := by
  obtain ⟨f, fd, F, r⟩ := D.ex
  exact ⟨f, fd, .of F, r⟩
end
section
variable {X : Cx} {CX : CXT} {x : Str} {ps : List Str} {sp : Sp} {k j : Nat} {p pos : Pos} {e : Expr} {es : List Expr} {t : TA} {f : Addr} {fd : FuncData}
theorem run_fnG {E : XK} {pins : List (Addr × Obj)} {σ : L2.St} {H : Hp} {s : Shared} {Q : VK} {us : List Value} {vs : List V} (F : FnG X.prog X.w X.K X.mg X.base CX k f fd ps sp) (hg : Gd X.A) (hr : Room k X.A) (hb : Binds X.K fd ps []) (hx : Passes CX X E)
    (I : Inv X pins σ H s) (r : Vals vs us) (h : sp vs H Q E) : wpAny (model X.prog X.w) X.A (call (.ref f) us) (EP X pins σ Q) X.xe s := by
  have hl := F.len _ _ _ _ h
  have hb2 := hb s us I.kIn (by rw [List.append_nil, ← r.length]; exact hl)
  rw [List.append_nil] at hb2
  refine wpAny_call (codeAny_mono (F.go X.A X.stack s H ⟨us, []⟩ us vs Q E hg hr I.env0 hb2 r h) fun res s' hq => ?_)
  match res, hq with
  | .error e, hq => exact hx pins σ H s e s' I hq
  | .ok (.ret u), hq => exact I.after hq
  | .ok .next, hq => exact hq.elim
  | .ok .brk, hq => exact hq.elim
  | .ok .cont, hq => exact hq.elim
def tCallG (sp : Sp) (t : TA) : TE := fun σ H Q => t σ H fun vs H1 => sp vs H1 Q E0
theorem pe_defG (D : DefG X.prog X.w X.K X.mg X.base CX0 k x ps sp) (hG : Gd X.A) (hr : Room j X.A) (hj : k ≤ j) (ha : PA X (e :: es) t) (hg : Gl X x := by rfl) (hdb : (x == ("__debug__" : Str)) = false := by decide)
    (he : starEach (e :: es) X.env = (false, eval e X.env) :: starEach es X.env := by rfl) (hpl : (backTo pos (starEach es X.env)).any (·.1) = false := by rfl) :
    PE X (.Call (.Name x p) (e :: es) [] pos) (tCallG sp t) := by
  obtain ⟨f, fd, F, g, kp, b⟩ := D.ex
  refine ⟨fun pins s σ H Q I h => wpAny_Call_Name_kw (ld_glob I hg g ?_ hdb)⟩
  refine PySem.W.callWith_K (h₀ := X.base) I.ok.mod.kin kp (thn (ha.run pos pins s σ H _ I h) fun us s1 ⟨vs, H1, I1, r, q⟩ => ⟨I1.kIn, ?_⟩) he hpl
  exact run_fnG F hG (hr.mono hj) b pass0 I1 r q
end

/-! ### repr -/
mutual
/-- data as they stand in the abstract heap, dicts with them -/
inductive Dq (K : PySem.W.Frag) (H : Hp) : V → PyData → Prop
  | non : Dq K H .non .none
  | bl (b : Bool) : Dq K H (.bl b) (.bool b)
  | int (i : Int) : Dq K H (.int i) (.int i)
  | str (x : Str) : Dq K H (.str x) (.str x)
  | lst {a : Addr} {xs : List V} {ds : List PyData} : SqL K H a xs → DqA K H xs ds → Dq K H (.ref a) (.list ds)
  | tup {a : Addr} {xs : List V} {ds : List PyData} : SqT K H a xs → DqA K H xs ds → Dq K H (.ref a) (.tuple ds)
  | dic {a : Addr} {kvs : List (Key × V)} {ks vs : List PyData} : H a = some (.dK kvs) → DqA K H (kvs.map fun p => kV p.1) ks → DqA K H (kvs.map (·.2)) vs → Dq K H (.ref a) (.dict (ks.zip vs))
inductive DqA (K : PySem.W.Frag) (H : Hp) : List V → List PyData → Prop
  | nil : DqA K H [] []
  | cons {v : V} {vs : List V} {d : PyData} {ds : List PyData} : Dq K H v d → DqA K H vs ds → DqA K H (v :: vs) (d :: ds)
end
theorem DqA.length {K : PySem.W.Frag} {H : Hp} : ∀ {vs : List V} {ds : List PyData}, DqA K H vs ds → vs.length = ds.length
  | _, _, .nil => rfl
  | _, _, .cons _ t => by simp [DqA.length t]
mutual
/-- no list in it -/
def listFree : PyData → Bool
  | .list _ => false
  | .tuple xs => listFreeA xs
  | .dict kvs => listFreeD kvs
  | _ => true
def listFreeA : List PyData → Bool
  | [] => true
  | x :: r => listFree x && listFreeA r
def listFreeD : List (PyData × PyData) → Bool
  | [] => true
  | (k, v) :: r => listFree k && listFree v && listFreeD r
end
theorem listFreeD_zip : ∀ {ks vs : List PyData}, ks.length = vs.length → listFreeD (ks.zip vs) = true → listFreeA ks = true ∧ listFreeA vs = true
  | [], [], _, _ => ⟨rfl, rfl⟩
  | k :: ks, v :: vs, e, h => by
    have h' : (listFree k = true ∧ listFree v = true) ∧ listFreeD (ks.zip vs) = true := by simpa [listFreeD] using h
    have ⟨a, b⟩ := listFreeD_zip (ks := ks) (vs := vs) (by simpa using e) h'.2
    exact ⟨by simp [listFreeA, h'.1.1, a], by simp [listFreeA, h'.1.2, b]⟩
theorem pairs_vals {P : Program} {w : World} : ∀ {es : List DictEntry} {vs : List (Key × Value)} {kvs : List (Key × V)}, Pairs (mixKind P w) es vs → KV kvs vs →
    Vals (kvs.map fun p => kV p.1) (es.map (·.key)) ∧ Vals (kvs.map (·.2)) (es.map (·.val))
  | _, _, _, .nil, .nil => ⟨.nil, .nil⟩
  | _, _, _, .cons hk hv hp, .cons r t => by
    have ⟨a, b⟩ := pairs_vals hp t
    refine ⟨.cons ?_ a, .cons (by dsimp only; rw [hv]; exact r.2) b⟩
    rename_i e kv es kvs p ps
    rcases keyIs_shape (show keyIs kv.1 e.key = true from hk) with ⟨i, tk, e1, e2⟩ | ⟨x, tk, e1, e2⟩
    · show RelV (kV p.1) e.key
      rw [r.1, e1, e2]; exact ⟨tk, rfl⟩
    · show RelV (kV p.1) e.key
      rw [r.1, e1, e2]; exact ⟨tk, rfl⟩
section
variable {X : Cx} {pins : List (Addr × Obj)} {σ : L2.St} {H : Hp} {s : Shared}
mutual
theorem Dq.reads (I : Inv X pins σ H s) : ∀ {v : V} {d : PyData} {u : Value}, Dq X.K H v d → RelV v u → ∃ as, Reads s.heap u d as ∧ (listFree d = true → sysModules ∉ as)
  | _, _, _, .non, r => by cases r; exact ⟨_, .none, fun _ => by simp⟩
  | _, _, _, .bl b, r => by cases r; exact ⟨_, .bool b, fun _ => by simp⟩
  | _, _, _, .int i, r => by obtain ⟨t, rfl⟩ := r; exact ⟨_, .int i t, fun _ => by simp⟩
  | _, _, _, .str x, r => by obtain ⟨t, rfl⟩ := r; exact ⟨_, .str x t, fun _ => by simp⟩
  | _, _, _, .lst hs ha, r => by
    cases r
    obtain ⟨its, rv, ⟨o, n, ho, hc, _, hd⟩, _⟩ := I.list hs
    obtain ⟨as, hr, _⟩ := DqA.reads I ha rv
    exact ⟨_, .list ho hc hd hr, fun h => by simp [listFree] at h⟩
  | _, _, _, .tup hs ha, r => by
    cases r
    obtain ⟨its, rv, ⟨o, ho, hc, n, hd⟩, _⟩ := I.tuple hs
    obtain ⟨as, hr, hn⟩ := DqA.reads I ha rv
    exact ⟨_, .tuple ho hc hd hr, fun h => hn (by simpa [listFree] using h)⟩
  | _, _, _, @Dq.dic _ _ a kvs ks vs hs hk hv, r => by
    cases r
    obtain ⟨_, hsm, vs', rel, o, es, ep, ho, hx, hd, _, hp, _⟩ := I.hok a _ hs
    have ⟨r1, r2⟩ := pairs_vals hp rel
    obtain ⟨as, q1, n1⟩ := DqA.reads I hk r1
    obtain ⟨bs, q2, n2⟩ := DqA.reads I hv r2
    have el : ks.length = vs.length := by rw [← hk.length, ← hv.length, List.length_map, List.length_map]
    have e1 : (ks.zip vs).map (·.1) = ks := List.map_fst_zip (by omega)
    have e2 : (ks.zip vs).map (·.2) = vs := List.map_snd_zip (by omega)
    refine ⟨_, .dict ho hx.1 hd (by rw [e1]; exact q1) (by rw [e2]; exact q2), fun h => ?_⟩
    have ⟨f1, f2⟩ := listFreeD_zip el (by simpa [listFree] using h)
    have nm : sysModules ≠ a := fun z => by rw [z] at hsm; simp at hsm
    simp only [List.mem_append, List.mem_cons, not_or]
    exact ⟨⟨nm, n1 f1⟩, n2 f2⟩
theorem DqA.reads (I : Inv X pins σ H s) : ∀ {vs : List V} {ds : List PyData} {us : List Value}, DqA X.K H vs ds → Vals vs us → ∃ as, ReadsAll s.heap us ds as ∧ (listFreeA ds = true → sysModules ∉ as)
  | _, _, _, .nil, r => by cases r; exact ⟨_, .nil, fun _ => by simp⟩
  | _, _, _, .cons h1 h2, r => by
    cases r with
    | cons r1 r2 =>
      obtain ⟨as, q1, n1⟩ := Dq.reads I h1 r1
      obtain ⟨bs, q2, n2⟩ := DqA.reads I h2 r2
      refine ⟨_, .cons q1 q2, fun h => ?_⟩
      simp only [listFreeA, Bool.and_eq_true] at h
      simp only [List.mem_append, not_or]
      exact ⟨n1 h.1, n2 h.2⟩
end
/-- what may be shown -/
structure Fit (d : PyData) : Prop where
  sh : d.showable = true
  fr : d.hasDict = true → listFree d = true
  dp : d.depth ≤ 60
  lv : d.leavesShort 1930 = true
  wt : d.weight ≤ 8000
theorem Fit.sz {d : PyData} (h : Fit d) : d.shown.length ≤ sizeLine := by
  have := PyData.shown_le 1930 (by decide) d h.lv
  have w := h.wt
  rw [sizeLine_eq]
  have : (1930 + 2) * d.weight + 1930 ≤ 16777216 := by omega
  omega
def cRepr (K : PySem.W.Frag) : List V → Hp → VK → Prop := fun xs H Q => match xs with
  | [x] => ∃ d, Dq K H x d ∧ Fit d ∧ Q (.str d.shown) H
  | _ => False
theorem c_repr (hG : Gd X.A) (hu : X.A.units + 64 < cLine) : CallR X (.builtin "repr") (cRepr X.K) := by
  intro pins s σ H xs us Q I r q
  unfold cRepr at q
  split at q
  · rename_i x
    obtain ⟨d, hd, hf, q⟩ := q
    obtain ⟨u, rfl, rx⟩ := vals1 r
    cases hd with
    | non => cases rx; exact PySem.P.repr_of_none ⟨.str _, H, I.tok _, ⟨_, rfl⟩, q⟩
    | bl b => cases rx; exact PySem.P.repr_of_bool ⟨.str _, H, I.tok _, ⟨_, rfl⟩, q⟩
    | int i => obtain ⟨t, rfl⟩ := rx; exact PySem.P.repr_of_int (by simpa [PyData.showable] using hf.sh) ⟨.str _, H, I.tok _, ⟨_, rfl⟩, q⟩
    | str z => obtain ⟨t, rfl⟩ := rx; exact PySem.P.repr_of_str ⟨.str _, H, I.tok _, ⟨_, rfl⟩, q⟩ hf.sz
    | lst hs ha =>
      obtain ⟨as, hr, hn⟩ := Dq.reads I (.lst hs ha) rx
      cases rx
      exact repr_of_reads' hr hf.sh (fun h => hn (hf.fr h)) hG (by have := hf.dp; omega) (fun _ _ e => e) (fun h' u tk hk => ⟨.str _, H, I.kept (t' := tk) hk, ⟨_, rfl⟩, q⟩) hf.sz
    | tup hs ha =>
      obtain ⟨as, hr, hn⟩ := Dq.reads I (.tup hs ha) rx
      cases rx
      exact repr_of_reads' hr hf.sh (fun h => hn (hf.fr h)) hG (by have := hf.dp; omega) (fun _ _ e => e) (fun h' u tk hk => ⟨.str _, H, I.kept (t' := tk) hk, ⟨_, rfl⟩, q⟩) hf.sz
    | dic hs hk hv =>
      obtain ⟨as, hr, hn⟩ := Dq.reads I (.dic hs hk hv) rx
      cases rx
      exact repr_of_reads' hr hf.sh (fun h => hn (hf.fr h)) hG (by have := hf.dp; omega) (fun _ _ e => e) (fun h' u tk hk => ⟨.str _, H, I.kept (t' := tk) hk, ⟨_, rfl⟩, q⟩) hf.sz
  · exact q.elim
end
end CL

set_option Elab.async false
set_option linter.all false
set_option maxRecDepth 100000
set_option maxHeartbeats 2000000
/-! Top: from the run of a law's def at the caller's own place to the row's walk. -/
namespace CL
open PySem PySem.Spec PyProof.Rows L2 LamX

/-- what is handed to the law: the written part over the base, the tables empty, the script read -/
structure Start (P : Program) (w : World) (K : PySem.W.Frag) (mg : Str → Option Value) (cs : List (Addr × Addr)) (base : Heap) (s : Shared) (H : Hp) (a : Addr) (ns : List Int) : Prop where
  kin : K.In base
  glob : base.Ns mainGlobals mg
  tb : ∀ p ∈ cs, TabB base mg p.1 p.2
  tab : ∀ p ∈ cs, H p.2 = some (.tbl #[])
  script : SqL K H a (ns.map V.int)
  env : Env0 P w K mg base callerA [] s H
section
variable {P : Program} {w : World} {K : PySem.W.Frag} {mg mb : Str → Option Value} {fa a : Addr} {cs : List (Addr × Addr)} {s₁ : Shared} {vs : List Value} {ns : List Int}
/-- what is tracked at the start: the script (where it is no object of the module) and the tables -/
noncomputable def startH (K : PySem.W.Frag) (cs : List (Addr × Addr)) (a : Addr) (vs : List Value) (ns : List Int) : Hp := fun b =>
  if b = a ∧ K.lookup a = none then some (.frz { cls := .type "list", data := .seq vs.toArray } (.lst (ns.map V.int))) else if b ∈ cs.map (·.2) then some (.tbl #[]) else none
theorem top_run (KX : K.In s₁.heap) (hns : s₁.heap.Ns mainGlobals mg) (hb : s₁.heap.Ns builtinsNs mb) (hbb : ∀ x : Str, x ≠ "__name__" → mb x = bootBuiltins x) (hlim : s₁.heap.NoLimit) (hg : s₁.gens = #[])
    (hT : ∀ p ∈ cs, s₁.heap.get? p.2 = some { cls := .none, data := .fields #[] }) (nT : ∀ p ∈ cs, K.lookup p.2 = none) (C : ∀ p ∈ cs, PySem.W.CodeHd s₁.heap p.1 p.2)
    (hbm : ∃ (bm : Addr) (ob : Obj), mg "__builtins__" = some (.ref bm) ∧ bm ≠ builtinsNs ∧ s₁.heap.get? bm = some ob ∧ ob.cls = .type "module" ∧ ob.dict = some builtinsNs ∧ ob.data = .plain)
    (ha : s₁.heap.get? a = some { cls := .type "list", data := .seq vs.toArray }) (hi : IntsAre vs ns) (hl : ns.length ≤ sizeLine)
    (go : ∀ (base : Heap) (H : Hp), Start P w K mg cs base s₁ H a ns → codeAny (model P w) callerA (.call (.ref fa) ⟨[.ref a], []⟩) (CR CX0 [] P w H s₁ (fun v _ => v = .bl true) E0) s₁) :
    codeAny (model P w) callerA (.call (.ref fa) ⟨[.ref a], []⟩) (fun r s' => r = .ok (.ret (.bool true)) ∧ OldK s₁.heap s'.heap ∧ s'.os = s₁.os ∧ AllBare s'.gens) s₁ := by
  have rv := vals_ints hi
  have lv := hi.length
  have isT : ∀ b : Addr, b ∈ cs.map (·.2) → s₁.heap.get? b = some { cls := .none, data := .fields #[] } := fun b h => by
    obtain ⟨p, hp, e⟩ := List.mem_map.mp h
    exact e ▸ hT p hp
  have memT : ∀ p ∈ cs, p.2 ∈ cs.map (·.2) := fun p hp => List.mem_map.mpr ⟨p, hp, rfl⟩
  have aT : a ∉ cs.map (·.2) := fun z => by
    have q := congrArg Obj.data (Option.some.inj (ha.symm.trans (isT a z)))
    exact nomatch (show Data.seq vs.toArray _ = Data.fields #[] from q)
  -- the abstract heap, by cases
  have hH : ∀ b, (startH K cs a vs ns b = none) ∨ (b = a ∧ K.lookup a = none ∧ startH K cs a vs ns b = some (.frz { cls := .type "list", data := .seq vs.toArray } (.lst (ns.map V.int)))) ∨ (b ∈ cs.map (·.2) ∧ startH K cs a vs ns b = some (.tbl #[])) := fun b => by
    unfold startH
    by_cases h1 : b = a ∧ K.lookup a = none
    · exact .inr (.inl ⟨h1.1, h1.2, if_pos h1⟩)
    · by_cases h2 : b ∈ cs.map (·.2)
      · exact .inr (.inr ⟨h2, (if_neg h1).trans (if_pos h2)⟩)
      · exact .inl ((if_neg h1).trans (if_neg h2))
  have tabs : ∀ p ∈ cs, startH K cs a vs ns p.2 = some (.tbl #[]) := fun p hp => by
    have : ¬ (p.2 = a ∧ K.lookup a = none) := fun z => aT (z.1 ▸ memT p hp)
    unfold startH
    rw [if_neg this, if_pos (memT p hp)]
  have script : SqL K (startH K cs a vs ns) a (ns.map V.int) := by
    cases hk : K.lookup a with
    | none => exact .inl (.inr ⟨_, if_pos ⟨rfl, hk⟩⟩)
    | some o =>
      have e := KX a o hk
      rw [ha] at e
      cases e
      exact .inr ⟨_, vs.toArray, _, hk, rfl, rfl, rfl, by rw [List.size_toArray, lv]; exact hl, by simpa using rv⟩
  have hok : HOk P w (startH K cs a vs ns) s₁.heap := fun b u z => by
    rcases hH b with h | ⟨rfl, _, h⟩ | ⟨hm, h⟩
    · rw [h] at z; exact nomatch z
    · rw [h] at z
      cases z
      exact ⟨ha, by rw [List.length_map]; exact hl, vs, _, rv, ha⟩
    · rw [h] at z
      cases z
      exact isT b hm
  -- what is no list and no table is not tracked
  have free : ∀ {b : Addr} {o : Obj}, s₁.heap.get? b = some o → (∀ us n, o.data ≠ .seq us n) → o.data ≠ .fields #[] → startH K cs a vs ns b = none := fun {b o} e h1 h2 => by
    rcases hH b with h | ⟨rfl, _, _⟩ | ⟨hm, _⟩
    · exact h
    · rw [ha] at e
      cases e
      exact (h1 _ _ rfl).elim
    · rw [isT b hm] at e
      cases e
      exact (h2 rfl).elim
  have inB : ∀ {b : Addr} {o : Obj}, s₁.heap.get? b = some o → startH K cs a vs ns b = none → (hidT s₁.heap (startH K cs a vs ns)).get? b = some o := fun e n => hidT_get e n
  have nsB : ∀ {b : Addr} {m : Str → Option Value}, s₁.heap.Ns b m → (hidT s₁.heap (startH K cs a vs ns)).Ns b m := fun {b m} ⟨o, es, ep, e, d, r⟩ =>
    ⟨o, es, ep, inB e (free e (fun us n z => by rw [d] at z; exact nomatch z) fun z => by rw [d] at z; exact nomatch z), d, r⟩
  have kinB : K.In (hidT s₁.heap (startH K cs a vs ns)) := fun b o e => inB (KX b o e) (by
    rcases hH b with h | ⟨rfl, hn, _⟩ | ⟨hm, _⟩
    · exact h
    · rw [hn] at e; exact nomatch e
    · obtain ⟨p, hp, ep⟩ := List.mem_map.mp hm
      rw [← ep, nT p hp] at e
      exact nomatch e)
  have tbB : ∀ p ∈ cs, TabB (hidT s₁.heap (startH K cs a vs ns)) mg p.1 p.2 := fun p hp => by
    have hTp := hT p hp
    refine ⟨?_, ?_, fun z => ?_⟩
    · obtain ⟨o, us, file, tf, flags, tg, inF, text, tt, e1, r1, r2, r3, rr⟩ := C p hp
      refine ⟨o, us, file, tf, flags, tg, inF, text, tt, inB e1 (free e1 (fun _ _ z => ?_) fun z => ?_), r1, r2, r3, rr⟩
      · rw [r2] at z; exact nomatch z
      · rw [r2] at z
        cases z
        simp at r3
    · obtain ⟨bm, ob, b1, b2, b3, b4, b5, b6⟩ := hbm
      have n1 : bm ≠ mainGlobals := fun q => by
        obtain ⟨o, es, ep, e, hd, _⟩ := hns
        rw [q, e] at b3
        cases b3
        rw [hd] at b6
        exact nomatch b6
      have n2 : bm ≠ p.2 := fun q => by
        rw [q, hTp] at b3
        cases b3
        exact nomatch b6
      refine ⟨bm, ob, b1, b2, n1, n2, inB b3 (free b3 (fun _ _ z => ?_) fun z => ?_), b4, b5, b6⟩
      · rw [b6] at z; exact nomatch z
      · rw [b6] at z; exact nomatch z
    · obtain ⟨o, es, ep, e, hd, _⟩ := hns
      rw [z, hTp] at e
      cases e
      exact nomatch hd
  have env : Env0 P w K mg (hidT s₁.heap (startH K cs a vs ns)) callerA [] s₁ (startH K cs a vs ns) :=
    ⟨rfl, ⟨kinB, nsB hns, ⟨mb, nsB hb, hbb⟩, let ⟨mc, h1, h2⟩ := hlim; ⟨mc, nsB h1, h2⟩⟩, fun b o e => of_hidT e, Nat.le_of_eq (hidT_size _ _), trivial, fun b h => absurd (show b ∈ ([] : List Addr) from h) (by simp), hok, .of_eq hg⟩
  refine codeAny_mono (go _ _ ⟨kinB, nsB hns, tbB, tabs, script, env⟩) fun r s' h => ?_
  match r, h with
  | .error e, h => exact h.elim
  | .ok .next, h => exact h.elim
  | .ok .brk, h => exact h.elim
  | .ok .cont, h => exact h.elim
  | .ok (.ret u), ⟨v, H', os, bare, un, hok', r', (q : v = .bl true)⟩ =>
    subst q
    obtain rfl : u = Value.bool true := r'
    have key : ∀ b o, b ∉ cs.map (·.2) → s₁.heap.get? b = some o → s'.heap.get? b = some o := fun b o nb e => by
      rcases hH b with h | ⟨rfl, _, h⟩ | ⟨hm, _⟩
      · exact un.keep b o e h (by intro z; exact absurd (show b ∈ ([] : List Addr) from z) (by simp)) (by simp)
      · obtain ⟨e2, _⟩ := hok' b _ (un.frzs b _ _ h)
        rw [ha] at e
        cases e
        exact e2
      · exact absurd hm nb
    have grown : ∀ p ∈ cs, ∃ more : Array Value, s'.heap.get? p.2 = some { cls := .none, data := .fields more } := fun p hp => by
      obtain ⟨more, z⟩ := un.tbls p.2 #[] (tabs p hp)
      exact ⟨_, hok' p.2 _ z⟩
    refine ⟨rfl, ⟨fun b o e => ?_, fun b o e => ?_⟩, os, bare⟩
    · by_cases hm : b ∈ cs.map (·.2)
      · obtain ⟨p, hp, rfl⟩ := List.mem_map.mp hm
        obtain ⟨more, hmo⟩ := grown p hp
        rw [hT p hp] at e
        cases e
        exact .inr (.inl ⟨((C p hp).tab (hT p hp)).isCodeTable, rfl, #[], more, rfl, by rw [Array.empty_append]; exact hmo⟩)
      · exact .inl (key b o hm e)
    · by_cases hm : b ∈ cs.map (·.2)
      · obtain ⟨p, hp, rfl⟩ := List.mem_map.mp hm
        obtain ⟨more, hmo⟩ := grown p hp
        exact ⟨_, hmo⟩
      · exact ⟨o, key b o hm e⟩
end
/-- the row's walk, from the promise of its def -/
theorem top_walk {l : PySem.W.OpenLaw} {n k : Nat} {q : Program} {loose : List Str} {XP : (Str → Option Value) → Heap → Prop} {YP : World → Heap → Prop} {d : DefRec} {K : Params → PySem.W.Frag} {x : Str}
    (hn : l.most = some n) (hn2 : n ≤ sizeLine) (hdf : d.params.defaults = []) (hr : Room k callerA) (hY : ∀ (w : World) (h : Heap), YP w h → (K w.params).In h)
    (F : ∀ (w : World) (mg : Str → Option Value) (fa : Addr) (h : Heap), YP w h → XP mg h → (K w.params).In h → h.Ns mainGlobals mg → mg d.name = some (.ref fa) →
      ∃ (cs : List (Addr × Addr)) (fd : FuncData) (sp : Sp), (∀ p ∈ cs, h.get? p.2 = some { cls := .none, data := .fields #[] }) ∧ (∀ p ∈ cs, (K w.params).lookup p.2 = none) ∧ (∀ p ∈ cs, PySem.W.CodeHd h p.1 p.2) ∧ (∀ (s : Shared) (u : Value), BindsTo s fd ⟨[u], []⟩ [(x, u)]) ∧
        (∀ (H : Hp) (a : Addr) (ns : List Int), ns.length ≤ n → (∀ z ∈ ns, Builtin.Int.intBits z ≤ 1048576) → (∀ p ∈ cs, H p.2 = some (.tbl #[])) → SqL (K w.params) H a (ns.map V.int) → sp [.ref a] H (fun v _ => v = .bl true) E0) ∧
        ∀ base : Heap, (K w.params).In base → base.Ns mainGlobals mg → (∀ p ∈ cs, TabB base mg p.1 p.2) → FnG l.prog w (K w.params) mg base CX0 k fa fd [x] sp) :
    PySem.W.WalkO q loose XP YP l.row.toRowW d [] (fun f vs => PySem.call f vs) := by
  refine Att.attach_callB hn hdf fun w s₀ s₁ mg mb fa o pm cd doc a vs ns G Y ho hd hcd hmg hobj hints hlen hbits hg => ?_
  have KX := hY w _ Y
  obtain ⟨cs, fd, sp, hT, nT, C, hb, hsp, hF⟩ := F w mg fa _ Y G.X KX G.T.g hmg
  refine top_run KX G.T.g G.T.b G.T.builtins G.T.nolimit hg hT nT C G.T.bmain hobj hints (Nat.le_trans hlen hn2) fun base H S => ?_
  exact (hF base S.kin S.glob S.tb).go callerA [] s₁ H ⟨[.ref a], []⟩ [.ref a] [.ref a] _ _ rfl hr S.env (hb s₁ (.ref a)) (.cons rfl .nil) (hsp H a ns hlen hbits S.tab S.script)
end CL

set_option Elab.async false
set_option linter.all false
set_option maxRecDepth 100000
set_option maxHeartbeats 2000000
/-! Cls: isinstance, errors with a field, operators of instances: readings that compute. -/
namespace CL
open PySem PySem.Spec PyProof.Rows L2

/-! ### the kinds of built-in values -/
inductive BT | non | bool | int | str | list | tuple | dict
  deriving DecidableEq
def BT.nm : BT → String
  | .non => "NoneType" | .bool => "bool" | .int => "int" | .str => "str" | .list => "list" | .tuple => "tuple" | .dict => "dict"
def BT.sub : BT → BT → Bool
  | .non, .non => true | .bool, .bool => true | .bool, .int => true | .int, .int => true | .str, .str => true | .list, .list => true | .tuple, .tuple => true | .dict, .dict => true
  | _, _ => false
theorem BT.kit {K : PySem.W.Frag} : ∀ (a b : BT), PySem.W.kitOne K (.type a.nm) (.type b.nm) = some (a.sub b)
  | .non, b => by cases b <;> exact kit_ty (by decide +kernel)
  | .bool, b => by cases b <;> exact kit_ty (by decide +kernel)
  | .int, b => by cases b <;> exact kit_ty (by decide +kernel)
  | .str, b => by cases b <;> exact kit_ty (by decide +kernel)
  | .list, b => by cases b <;> exact kit_ty (by decide +kernel)
  | .tuple, b => by cases b <;> exact kit_ty (by decide +kernel)
  | .dict, b => by cases b <;> exact kit_ty (by decide +kernel)
/-- a value of a built-in kind -/
inductive BK (K : PySem.W.Frag) (H : Hp) : V → BT → Prop
  | non : BK K H .non .non
  | bl (b : Bool) : BK K H (.bl b) .bool
  | int (i : Int) : BK K H (.int i) .int
  | str (x : Str) : BK K H (.str x) .str
  | lst {a : Addr} {xs : List V} : SqL K H a xs → BK K H (.ref a) .list
  | tup {a : Addr} {xs : List V} : SqT K H a xs → BK K H (.ref a) .tuple
  | dic {a : Addr} {kvs : List (Key × V)} : H a = some (.dK kvs) → BK K H (.ref a) .dict
theorem BK.ty {K : PySem.W.Frag} {H : Hp} {x : V} {k : BT} (h : BK K H x k) : TyX K H x (.type k.nm) := by
  cases h with
  | non => exact .base .non
  | bl b => exact .base (.bl b)
  | int i => exact .base (.int i)
  | str z => exact .base (.str z)
  | lst h =>
    rcases h with (h | ⟨o, h⟩) | ⟨o, its, n, hk, hc, _⟩
    · exact .base (.lst h)
    · exact .base (.frz h)
    · exact .kList hk hc
  | tup h =>
    rcases h with (h | ⟨o, h⟩) | ⟨o, its, n, hk, hc, _⟩
    · exact .base (.tup h)
    · exact .fTuple h
    · exact .kTuple hk hc
  | dic h => exact .base (.dK h)
theorem Dq.bk {K : PySem.W.Frag} {H : Hp} {x : V} {d : PyData} (h : Dq K H x d) : ∃ k, BK K H x k := by
  cases h with
  | non => exact ⟨_, .non⟩
  | bl b => exact ⟨_, .bl b⟩
  | int i => exact ⟨_, .int i⟩
  | str z => exact ⟨_, .str z⟩
  | lst h _ => exact ⟨_, .lst h⟩
  | tup h _ => exact ⟨_, .tup h⟩
  | dic h _ _ => exact ⟨_, .dic h⟩
section
variable {X : Cx} {e : Expr} {te : TE} {p q pos : Pos}
/-- isinstance(e, T), T a built-in class -/
def cIsi (K : PySem.W.Frag) (m : BT) (te : TE) : TE := fun σ H Q => te σ H fun x H1 => match x with
  | .non => Q (.bl (BT.non.sub m)) H1
  | .bl _ => Q (.bl (BT.bool.sub m)) H1
  | .int _ => Q (.bl (BT.int.sub m)) H1
  | .str _ => Q (.bl (BT.str.sub m)) H1
  | x => ∃ k, BK K H1 x k ∧ Q (.bl (k.sub m)) H1
theorem pe_isi {m : BT} {T : Str} (hT : bootBuiltins T = some (.type m.nm)) (hmI : X.mg "isinstance" = none) (hmT : X.mg T = none) (hgI : Gl X "isinstance") (hgT : Gl X T) (he : PE X e te) (hn : T ≠ "__name__" := by decide) (hdb : (T == ("__debug__" : Str)) = false := by decide)
    (h1 : starEach [e, .Name T q] X.env = (false, eval e X.env) :: starEach [.Name T q] X.env := by rfl) (h2 : (backTo pos (starEach [.Name T q] X.env)).any (·.1) = false := by rfl)
    (h3 : starEach [.Name T q] X.env = (false, eval (.Name T q) X.env) :: starEach [] X.env := by rfl) :
    PE X (.Call (.Name "isinstance" p) [e, .Name T q] [] pos) (cIsi X.K m te) := by
  refine PE_imp (pe_callB call_isi hgI hmI (by decide +kernel) (pa_cons (PE_up he) (pa_cons (pe_bltn (v := .ty m.nm) hgT hmT hT rfl hn hdb) pa_nil h3) h1) (by decide) (by decide) h1 h2) fun σ H Q h => ⟨_, h, fun x H1 q => ?_⟩
  have go : ∀ k, BK X.K H1 x k → Q (.bl (k.sub m)) H1 → rIsi X.K [x, .ty m.nm] H1 Q := fun k hk hq => ⟨x, .ty m.nm, _, _, _, rfl, .ty _, hk.ty, BT.kit k m, hq⟩
  cases x with
  | non => exact go _ .non q
  | bl b => exact go _ (.bl b) q
  | int i => exact go _ (.int i) q
  | str z => exact go _ (.str z) q
  | _ => obtain ⟨k, hk, q⟩ := q; exact go k hk q
end

/-! ### instances of a class of the text -/
structure OwnC (K : PySem.W.Frag) (C : Addr) : Prop where
  cl : Cls K C
  ca : PySem.W.findIn K (.ref C) "__class__" = some (some (.builtin "object.__class__"))
  sp : PySem.W.specialIn K (.builtin "object.__class__") "__get__" = some (some (.builtin "getset_descriptor.__get__"))
  tk : PySem.W.takesIn K (.builtin "object.__class__") = some true
  mo : PySem.W.mroIn K C (.type "object") = some true
  ic : PySem.W.isClsIn K C = true
  ty : PySem.W.typeIn K (.ref C) = some (.type "type")
  nb : ∀ k : BT, PySem.W.subIn K (.type k.nm) (.ref C) = some false
theorem OwnC.kit {K : PySem.W.Frag} {C : Addr} (c : OwnC K C) (k : BT) : PySem.W.kitOne K (.type k.nm) (.ref C) = some false := by
  have h1 : ((PySem.W.clsIn K C).isSome && PySem.W.typeIn K (.ref C) == some (.type "type")) = true := by
    have := c.ic
    rw [c.ty, show (PySem.W.clsIn K C).isSome = true from c.ic]
    rfl
  show (if (Value.type k.nm == Value.ref C) = true then some true else if ((PySem.W.clsIn K C).isSome && PySem.W.typeIn K (.ref C) == some (.type "type")) = true then PySem.W.subIn K (.type k.nm) (.ref C) else none) = some false
  rw [if_neg (by intro z; cases beq_iff_eq.mp z), if_pos h1]
  exact c.nb k
theorem OwnC.self {K : PySem.W.Frag} {C : Addr} : PySem.W.kitOne K (.ref C) (.ref C) = some true := by
  unfold PySem.W.kitOne
  rw [if_pos (by simp)]
section
variable {X : Cx} {e : Expr} {te : TE} {p q pos : Pos} {C : Addr}
/-- isinstance(e, C), C of the text -/
def cIsO (K : PySem.W.Frag) (C : Addr) (te : TE) : TE := fun σ H Q => te σ H fun x H1 => match x with
  | .ref a => (∃ dx fs, H1 a = some (.ins C dx fs) ∧ Q (.bl true) H1) ∨ ∃ k, BK K H1 (.ref a) k ∧ Q (.bl false) H1
  | x => ∃ k, BK K H1 x k ∧ Q (.bl false) H1
theorem pe_isO {T : Str} (c : OwnC X.K C) (hmI : X.mg "isinstance" = none) (hmT : X.mg T = some (.ref C)) (hgI : Gl X "isinstance") (hgT : Gl X T) (he : PE X e te) (hdb : (T == ("__debug__" : Str)) = false := by decide)
    (h1 : starEach [e, .Name T q] X.env = (false, eval e X.env) :: starEach [.Name T q] X.env := by rfl) (h2 : (backTo pos (starEach [.Name T q] X.env)).any (·.1) = false := by rfl)
    (h3 : starEach [.Name T q] X.env = (false, eval (.Name T q) X.env) :: starEach [] X.env := by rfl) :
    PE X (.Call (.Name "isinstance" p) [e, .Name T q] [] pos) (cIsO X.K C te) := by
  refine PE_imp (pe_callB call_isi hgI hmI (by decide +kernel) (pa_cons (PE_up he) (pa_cons (pe_glob (v := .ref C) hgT hmT rfl hdb) pa_nil h3) h1) (by decide) (by decide) h1 h2) fun σ H Q h => ⟨_, h, fun x H1 q => ?_⟩
  have no : ∀ k, BK X.K H1 x k → Q (.bl false) H1 → rIsi X.K [x, .ref C] H1 Q := fun k hk hq => ⟨x, .ref C, _, _, _, rfl, .own _, hk.ty, c.kit k, hq⟩
  cases x with
  | ref a =>
    rcases q with ⟨dx, fs, ha, q⟩ | ⟨k, hk, q⟩
    · exact ⟨_, .ref C, _, _, _, rfl, .own _, .base (.ins ha c.cl c.ca c.sp c.tk c.mo), OwnC.self, q⟩
    · exact no k hk q
  | _ => obtain ⟨k, hk, q⟩ := q; exact no k hk q
end

/-! ### what a value's type is, for the model -/
theorem BK.looks {X : Cx} {pins : List (Addr × Obj)} {σ : L2.St} {H : Hp} {s : Shared} {M : Model} {x : V} {u : Value} {k : BT} (I : Inv X pins σ H s) (h : BK X.K H x k) (r : RelV x u) : PySem.W.Looks M s.heap (typeOf u) (.type k.nm) := by
  cases h with
  | non => cases r; exact .of_pure rfl
  | bl b => cases r; exact .of_pure rfl
  | int i => obtain ⟨t, rfl⟩ := r; exact .of_pure rfl
  | str z => obtain ⟨t, rfl⟩ := r; exact .of_pure rfl
  | lst h =>
    cases r
    obtain ⟨its, rv, ⟨o, n, ho, hc, _⟩, _⟩ := I.list h
    exact fun A Q E s k q => wpAny_typeOf_ref (k _ _ ho) (by rw [hc]; exact q)
  | tup h =>
    cases r
    obtain ⟨its, rv, ⟨o, ho, hc, _⟩, _⟩ := I.tuple h
    exact fun A Q E s k q => wpAny_typeOf_ref (k _ _ ho) (by rw [hc]; exact q)
  | dic h =>
    cases r
    obtain ⟨_, _, vs', rel, o, es, ep, ho, hx, _⟩ := I.hok _ _ h
    exact fun A Q E s k q => wpAny_typeOf_ref (k _ _ ho) (by rw [hx.1]; exact q)
/-- an operand beside an instance of the class at C: another one, or a built-in value -/
def Side (K : PySem.W.Frag) (C : Addr) (H : Hp) (y : V) : Prop := (∃ b dy gs, y = .ref b ∧ H b = some (.ins C dy gs)) ∨ ∃ k, BK K H y k
theorem Side.looks {X : Cx} {pins : List (Addr × Obj)} {σ : L2.St} {H : Hp} {s : Shared} {C : Addr} {y : V} {u : Value} (c : OwnC X.K C) (I : Inv X pins σ H s) (h : Side X.K C H y) (r : RelV y u) :
    ∃ tb, (∀ M : Model, PySem.W.Looks M s.heap (typeOf u) tb) ∧ PySem.W.notFirst X.K C tb = true := by
  rcases h with ⟨b, dy, gs, rfl, hb⟩ | ⟨k, hk⟩
  · cases r
    obtain ⟨mB, J, _⟩ := ins_get I.hok hb
    obtain ⟨od, J, _⟩ := J.look
    exact ⟨.ref C, fun M => J.type, by simp [PySem.W.notFirst]⟩
  · refine ⟨_, fun M => hk.looks I r, ?_⟩
    unfold PySem.W.notFirst
    rw [c.nb k]
    simp
theorem not_raised {P : Program} {w : World} {X : Cx} : Passes (L2.CX P w) X E0 := fun _ _ _ _ _ _ _ h => by
  obtain ⟨_, _, _, _, _, _, _, _, _, _, _, _, h⟩ := h
  exact h.elim
section
variable {X : Cx} {C f : Addr} {CX : CXT} {n : Nat} {fd : FuncData} {ps : List Str} {sp : Sp} {E : XK}
theorem run_at1 {pins : List (Addr × Obj)} {σ : L2.St} {H : Hp} {s : Shared} {Q : VK} {us : List Value} {vs : List V} (F : FnOk X.prog X.w X.K X.mg X.base CX n f fd ps sp) (hr : Room (n + 1) X.A) (hb : Binds X.K fd ps []) (hx : Passes CX X E)
    (I : Inv X pins σ H s) (r : Vals vs us) (h : sp vs H Q E) : wpAny (model X.prog X.w) X.A.in1 (call (.ref f) us) (EP X pins σ Q) X.xe s := by
  have hl := F.len _ _ _ _ h
  have hb2 := hb s us I.kIn (by rw [List.append_nil, ← r.length]; exact hl)
  rw [List.append_nil] at hb2
  refine wpAny_call (codeAny_mono (F.run X.A.in1 X.stack s H ⟨us, []⟩ us vs Q E hr.in1 I.env0.in1 hb2 r h) fun res s' hq => ?_)
  match res, hq with
  | .error e, hq => exact hx pins σ H s e s' I hq
  | .ok (.ret u), hq => exact I.after hq
  | .ok .next, hq => exact hq.elim
  | .ok .brk, hq => exact hq.elim
  | .ok .cont, hq => exact hq.elim
theorem cmp_back {Pq : Value → Shared → Prop} {z : V} {v : Value} {s' : Shared} (r : RelV z v) (h : Pq v s') : PySem.W.CmpBack Pq v s' := by
  cases z <;> first | (cases r; exact h) | (obtain ⟨t, rfl⟩ := r; exact h)
/-- x == y, x an instance: by its own __eq__ -/
def cEqO (K : PySem.W.Frag) (C : Addr) (sp : Sp) (E : XK) : R2 := fun x y H Q => match x with
  | .ref a => (∃ dx fs, H a = some (.ins C dx fs)) ∧ Side K C H y ∧ sp [.ref a, y] H Q E
  | _ => False
theorem c_eqO (c : OwnC X.K C) (hs : PySem.W.findIn X.K (.ref C) "__eq__" = some (some (.ref f))) (hf : PySem.W.isFn X.K (.ref f) = true) (F : FnOk X.prog X.w X.K X.mg X.base CX n f fd ps sp) (hr : Room n X.A) (hb : Binds X.K fd ps []) (hx : Passes CX X E) :
    OpR X (compareOp .Eq) (cEqO X.K C sp E) := by
  intro pins s σ H x y v u Q I rx ry h
  cases x with
  | ref a =>
    obtain ⟨⟨dx, fs, ha⟩, hy, q⟩ := h
    cases rx
    obtain ⟨mA, J, _⟩ := ins_get I.hok ha
    obtain ⟨od, J, _⟩ := J.look
    obtain ⟨m, hF⟩ := I.fr
    obtain ⟨tb, L, nf⟩ := hy.looks c I ry
    refine PySem.W.cmp_K (op := .Eq) (tb := tb) hr.units0 hF I.ok.mod.kin J (L _) nf hs hf ?_
    refine wpAny_mono (run_fn (us := [.ref a, u]) (vs := [.ref a, y]) (dvs := []) (ds := []) F hr hb .nil hx I (.cons rfl (.cons ry .nil)) q) (fun w s' z => ?_) fun _ _ z => z
    obtain ⟨z', H', I', rz, qz⟩ := z
    exact cmp_back rz ⟨z', H', I', rz, qz⟩
  | _ => exact h.elim
theorem ns_some {K : PySem.W.Frag} {h : Heap} {N : Addr} {mg : Str → Option Value} {n : Str} {v : Value} (X : K.In h) (G : h.Ns N mg) (e : PySem.W.nsIn K N n = some (some v)) : mg n = some v := by
  obtain ⟨o, es, ep, ho, hd, _, hf⟩ := G
  unfold PySem.W.nsIn at e
  split at e
  · rename_i l
    have := X _ _ l
    rw [ho] at this
    cases this
    cases hd
    split at e
    · rename_i en he
      have e' := Option.some.inj (Option.some.inj e)
      rw [← hf n, ← e']
      show (nsFind _ n) = _
      unfold nsFind findBy
      rw [← Array.find?_toList, he]
      rfl
    · split at e <;> cases e
  · cases e
/-- the class at C has an own __eq__ at f and no own __ne__ -/
structure NeC (K : PySem.W.Frag) (C f : Addr) : Prop where
  cls : ∃ nm q N bs hd sn sub ab col dd k0 k1 k2 k3 k5 nw, K.lookup C = some (excClassObj nm q C N bs [.type "object"] hd sn sub ab col dd k0 k1 k2 k3 k5 nw) ∧ PySem.W.nsOkIn K N = true ∧ PySem.W.nsIn K N "__eq__" = some (some (.ref f)) ∧ PySem.W.nsIn K N "__ne__" = some none
  fn : ∃ o, K.lookup f = some o ∧ o.cls = .type "function"
theorem NeC.own {K : PySem.W.Frag} {C f x : Addr} {h : Heap} {o : Obj} (c : NeC K C f) (X : K.In h) (hx : h.get? x = some o) (hc : o.cls = .ref C) : h.OwnEqNoNe x C f "object" [.type "object"] := by
  obtain ⟨nm, q, N, bs, hd, sn, sub, ab, col, dd, k0, k1, k2, k3, k5, nw, hC, hN, e1, e2⟩ := c.cls
  obtain ⟨of, hf, hfc⟩ := c.fn
  have G : h.Ns N (h.nsMap N) := .of_isNs (PySem.W.isNs_of_in X hN)
  exact ⟨o, of, nm, q, N, bs, hd, sn, sub, ab, col, dd, k0, k1, k2, k3, k5, nw, h.nsMap N, _, hx, hc, X _ _ hC, G, ns_some X G e1, X _ _ hf, hfc, PySem.F.cmp_object.mro, PySem.F.cmp_object.eq.lookup, PySem.W.ns_none_of X G e2⟩
/-- x != y, both instances of the class: not its own __eq__ -/
def cNeO (C : Addr) (sp : Sp) (E : XK) : R2 := fun x y H Q => match x, y with
  | .ref a, .ref b => (∃ dx fs, H a = some (.ins C dx fs)) ∧ (∃ dx fs, H b = some (.ins C dx fs)) ∧ sp [.ref a, .ref b] H (fun v H' => match v with
    | .bl k => Q (.bl (!k)) H'
    | _ => False) E
  | _, _ => False
theorem c_neO (c : NeC X.K C f) (F : FnOk X.prog X.w X.K X.mg X.base CX n f fd ps sp) (hr : Room (n + 1) X.A) (hb : Binds X.K fd ps []) (hx : Passes CX X E) : OpR X (compareOp .NotEq) (cNeO C sp E) := by
  intro pins s σ H x y v u Q I rx ry h
  unfold cNeO at h
  split at h
  · rename_i a b
    obtain ⟨⟨dx, fs, ha⟩, ⟨dy, gs, hb'⟩, q⟩ := h
    cases rx
    cases ry
    obtain ⟨mA, J, _⟩ := ins_get I.hok ha
    obtain ⟨od, J, _⟩ := J.look
    obtain ⟨mB, J', _⟩ := ins_get I.hok hb'
    obtain ⟨od', J', _⟩ := J'.look
    obtain ⟨hp, g, d, t, os⟩ := s
    refine compareOp_ne_ownEq PySem.F.cmp_object (c.own I.kIn J.at_ J.cls) J'.at_ J'.cls (by have := hr.units; omega) ?_
    refine wpAny_mono (run_at1 (us := [.ref a, .ref b]) (vs := [.ref a, .ref b]) F hr hb hx I (.cons rfl (.cons rfl .nil)) q) (fun w s' z => ?_) fun _ _ z => z
    obtain ⟨z', H', I', rz, qz⟩ := z
    split at qz
    · cases rz
      exact ⟨_, rfl, .bl _, H', I', rfl, qz⟩
    · exact qz.elim
  · exact h.elim
/-- -x, x an instance -/
def cNegO (C : Addr) (sp : Sp) (E : XK) : V → Hp → VK → Prop := fun x H Q => match x with
  | .ref a => (∃ dx fs, H a = some (.ins C dx fs)) ∧ sp [.ref a] H Q E
  | _ => False
theorem c_negO (hs : PySem.W.findIn X.K (.ref C) "__neg__" = some (some (.ref f))) (hf : PySem.W.isFn X.K (.ref f) = true) (F : FnOk X.prog X.w X.K X.mg X.base CX n f fd ps sp) (hr : Room n X.A) (hb : Binds X.K fd ps []) (hx : Passes CX X E) :
    UnR X (unaryOp .USub) (cNegO C sp E) := by
  intro pins s σ H x v Q I rx h
  cases x with
  | ref a =>
    obtain ⟨⟨dx, fs, ha⟩, q⟩ := h
    cases rx
    obtain ⟨mA, J, _⟩ := ins_get I.hok ha
    obtain ⟨od, J, _⟩ := J.look
    obtain ⟨m, hF⟩ := I.fr
    exact PySem.W.ksp_neg hF I.ok.mod.kin J hs hf (run_fn (us := [.ref a]) (vs := [.ref a]) (dvs := []) (ds := []) F hr hb .nil hx I (.cons rfl .nil) q)
  | _ => exact h.elim
end

/-! ### x op y, x an instance whose class defines the operator -/
section
open PySem.W
variable {prog : Program} {w : World} {A : Around} {E : Value → Shared → Prop} {s : Shared} {K : Frag} {x C L f : Addr} {ox : Obj} {od : Option Obj} {T : String}
theorem inst_bin {op : Operator} {b : Value} {fo ro rc : Option Value} {Q : Value → Shared → Prop} (X : K.In s.heap) (I : InstAt s.heap x ox C od) (hb : Looks (model prog w) s.heap (typeOf b) (.type T)) (hc : selfFirst K C = true)
    (hs : findIn K (.ref C) (PySem.dunder op.info.2) = some (some (.ref f))) (hf : isFn K (.ref f) = true) (hr : findIn K (.ref C) (dunderR op.info.2) = some rc) (hp : rc = none ∨ ∃ g : Addr, rc = some (.ref g))
    (h1 : findIn K (.type T) (PySem.dunder op.info.2) = some fo) (h2 : findIn K (.type T) (dunderR op.info.2) = some ro) (hsub : subIn K (.type T) (.ref C) = some false)
    (h : wpAny (model prog w) A (call (.ref f) [.ref x, b]) (PySem.W.CmpBack Q) E s) : wpAny (model prog w) A (binaryOp op (.ref x) b) Q E s := by
  obtain ⟨cd, rest, hcd, hm⟩ := ksp_first hc
  rcases hi : op.info with ⟨sym, nm'⟩
  simp only [hi] at hs hr h1 h2
  have one := ksp_try X I hs hf h
  obtain ⟨hh, g, d, tt, os⟩ := s
  have A1 : Looks (model prog w) hh (typeOf (.ref x)) (.ref C) := I.type
  have A2 : Looks (model prog w) hh (typeOf b) (.type T) := hb
  have A3 : Looks (model prog w) hh (fillsNumberSlot (.ref C) nm') true := fills_K X hcd hm hs
  have A4 : Looks (model prog w) hh (fillsNumberSlot (.type T) nm') ((fo.isSome && !isSeqSlot fo) || (ro.isSome && !isSeqSlot ro)) := ksp_fillsT X h1 h2
  have A5 : Looks (model prog w) hh (isSubtype (.type T) (.ref C)) false := looks_subIn X hsub
  have A6 : Looks (model prog w) hh (numberSlotInPython (.ref C) nm') true := ksp_inPy X hs hr hp
  have A7 : Looks (model prog w) hh (numberSlotInPython (.type T) nm') false := Looks.of_pure rfl
  have A8 : Looks (model prog w) hh (typeLookup (.type T) (dunderR nm')) ro := looks_findIn X h2
  generalize ((fo.isSome && !isSeqSlot fo) || (ro.isSome && !isSeqSlot ro)) = right at A4
  have hne : (Value.ref C == Value.type T) = false := Bool.eq_false_iff.mpr fun q => nomatch beq_iff_eq.mp q
  simp only [binaryOp, hi]
  refine wpAny_holding (wpAny_bind ?_)
  unfold binaryOp1
  refine wpAny_bind (A1.at (wpAny_bind (A2.at (wpAny_bind (A3.at ?_)))))
  simp only [hne, Bool.false_eq_true, if_false]
  cases right <;>
  · ksp_lk
    refine wpAny_mono one (fun r s' ⟨v, hv, hq⟩ => ?_) fun _ _ e => e
    subst hv
    ksp_lk
    exact hq
end
/-- what the class at C says of + -/
structure AddC (K : PySem.W.Frag) (C f : Addr) : Prop where
  fst : PySem.W.selfFirst K C = true
  add : PySem.W.findIn K (.ref C) "__add__" = some (some (.ref f))
  fn : PySem.W.isFn K (.ref f) = true
  radd : PySem.W.findIn K (.ref C) "__radd__" = some none
  bt : ∀ k : BT, ∃ fo ro, PySem.W.findIn K (.type k.nm) "__add__" = some fo ∧ PySem.W.findIn K (.type k.nm) "__radd__" = some ro
section
variable {X : Cx} {C f : Addr} {CX : CXT} {n : Nat} {fd : FuncData} {ps : List Str} {sp : Sp} {E : XK}
/-- x + y, x an instance, y a built-in value -/
def cAddO (K : PySem.W.Frag) (C : Addr) (sp : Sp) (E : XK) : R2 := fun x y H Q => match x with
  | .ref a => (∃ dx fs, H a = some (.ins C dx fs)) ∧ (∃ k, BK K H y k) ∧ sp [.ref a, y] H Q E
  | _ => False
theorem c_addO (c : OwnC X.K C) (ac : AddC X.K C f) (F : FnOk X.prog X.w X.K X.mg X.base CX n f fd ps sp) (hr : Room n X.A) (hb : Binds X.K fd ps []) (hx : Passes CX X E) : OpR X (binaryOp .Add) (cAddO X.K C sp E) := by
  intro pins s σ H x y v u Q I rx ry h
  cases x with
  | ref a =>
    obtain ⟨⟨dx, fs, ha⟩, ⟨k, hk⟩, q⟩ := h
    cases rx
    obtain ⟨mA, J, _⟩ := ins_get I.hok ha
    obtain ⟨od, J, _⟩ := J.look
    obtain ⟨fo, ro, h1, h2⟩ := ac.bt k
    refine inst_bin (op := .Add) I.kIn J (hk.looks I ry) ac.fst ac.add ac.fn ac.radd (.inl rfl) h1 h2 (c.nb k) ?_
    refine wpAny_mono (run_fn (us := [.ref a, u]) (vs := [.ref a, y]) (dvs := []) (ds := []) F hr hb .nil hx I (.cons rfl (.cons ry .nil)) q) (fun w s' z => ?_) fun _ _ z => z
    obtain ⟨z', H', I', rz, qz⟩ := z
    exact cmp_back rz ⟨z', H', I', rz, qz⟩
  | _ => exact h.elim
end
end CL

set_option Elab.async false
set_option linter.all false
set_option maxRecDepth 100000
set_option maxHeartbeats 2000000
/-! Err: own errors over ValueError, with one field or none. -/
namespace CL
open PySem PySem.Spec PyProof.Rows L2

/-! ### an error with one field -/
/-- C.__init__(self, v): ValueError.__init__(self, ..), self.f = v -/
def spErr (C : Addr) (f : Str) : Sp := fun vs H Q _ => match vs with
  | [.ref a, v] => H a = some (exo a C none) ∧ ∀ d, H d = none → d ≠ a → Q .non (upd (upd H d (exd d [(f, v)])) a (exo a C (some d)))
  | _ => False
/-- what is known of such a class -/
structure ErrC (P : Program) (w : World) (K : PySem.W.Frag) (mg : Str → Option Value) (base : Heap) (x : Str) (C : Addr) (f : Str) : Prop where
  ox : OexC K C
  g : mg x = some (.ref C)
  it : ∃ fI fd, PySem.W.findIn K (.ref C) "__init__" = some (some (.ref fI)) ∧ PySem.W.typeIn K (.ref fI) = some (.type "function") ∧ FnOk P w K mg base CX0 1 fI fd ["self", f] (spErr C f) ∧ Binds K fd ["self", f] []
section
variable {X : Cx} {C : Addr} {x f : Str} {e : Expr} {te : TE} {p pos pos2 : Pos} {W : WX}
def cRaise (C : Addr) (f : Str) (W : WX) (te : TE) : TS := fun _ σ H => te σ H fun v H1 => ∀ d H2, H1 d = none → Same H1 H2 → H2 d = some (.xd [(f, v)]) → W (.ref C) (some d) σ H2
theorem ps_raise1 (T : ErrC X.prog X.w X.K X.mg X.base x C f) (hc : X.calm = true) (hr : Room 2 X.A) (tk : Takes X W) (he : PE X e te) (hg : Gl X x := by rfl) (hdb : (x == ("__debug__" : Str)) = false := by decide)
    (h1 : starEach [e] X.env = (false, eval e X.env) :: starEach [] X.env := by rfl) (h2 : (backTo pos (starEach [] X.env)).any (·.1) = false := by rfl) :
    PS X (.Raise (some (.Call (.Name x p) [e] [] pos)) none pos2) (cRaise C f W te) := by
  obtain ⟨fI, fd, iC, tI, F, b⟩ := T.it
  refine PS_imp (ps_raise hc tk (pmk_oex T.ox iC tI F hr b .nil pass0 hg T.g (pa_cons (PE_up he) pa_nil h1) hdb h1 h2)) fun D σ H q => ⟨_, q, fun v H1 q => ⟨(by show (1 : Nat) ≤ 1000; decide), fun a na => ⟨upd_same, fun d nd da => ⟨rfl, d, [(f, v)], upd_same, ?_, ?_, ?_⟩⟩⟩⟩
  · rw [upd_ne da, upd_same]
  · rw [upd_ne da] at nd; exact nd
  · rw [upd_ne da] at nd
    refine q d _ nd (fun c o z => ?_) upd_same
    have c1 : c ≠ d := ne_of_none z nd
    have c2 : c ≠ a := ne_of_none z na
    rw [upd_ne c1, del_ne c2, upd_ne c2, upd_ne c1, upd_ne c2]
    exact z
end

/-! ### an error without a field -/
def spErr0 (C : Addr) : Sp := fun vs H Q _ => match vs with
  | [.ref a] => H a = some (exo a C none) ∧ Q .non H
  | _ => False
structure ErrC0 (P : Program) (w : World) (K : PySem.W.Frag) (mg : Str → Option Value) (base : Heap) (x : Str) (C : Addr) : Prop where
  ox : OexC K C
  g : mg x = some (.ref C)
  it : ∃ fI fd, PySem.W.findIn K (.ref C) "__init__" = some (some (.ref fI)) ∧ PySem.W.typeIn K (.ref fI) = some (.type "function") ∧ FnOk P w K mg base CX0 1 fI fd ["self"] (spErr0 C) ∧ Binds K fd ["self"] []
section
variable {X : Cx} {C : Addr} {x : Str} {p pos pos2 : Pos} {W : WX}
/-- the exception at a is let go: without a dict -/
theorem let_go {pins : List (Addr × Obj)} {σ : L2.St} {H1 H2 : Hp} {hp hp2 h2 : Heap} {g1 g2 : Array GenState} {d1 d2 : Drawn} {t1 t2 : Nat} {os1 os2 : OsState} {a : Addr} (I1 : Inv X pins σ H1 ⟨hp, g1, d1, t1, os1⟩)
    (ha : hp.objs.size ≤ a) (k : ∀ b o, hp.get? b = some o → hp2.get? b = some o) (un : Un (frs X.stack) [] (upd H1 a (exo a C none)) H2 hp2 h2) (hok : HOk X.prog X.w H2 h2) (ho : os2 = os1) (hb : AllBare g2) (ea : H2 a = some (exo a C none)) :
    ∃ (t0 : Addr) (G : Heap), Inv X pins σ (del H2 a) ⟨G, g2, d2, t2, os2⟩ ∧ (∀ b o, G.get? b = some o → h2.get? b = some o) ∧ G.get? a = none ∧ h2.get? a = some ({ cls := .ref C, dict := none, data := .fields #[.ref t0, .none, .none, .none, .bool false, .none] } : Obj) := by
  obtain ⟨t0, hoe⟩ := exo_at hok ea
  have hn : H1 a = none := I1.hok.fresh ha
  obtain ⟨G, gk', ge'⟩ := restrict h2 fun b => decide (b ≠ a)
  have gk : ∀ b, b ≠ a → G.get? b = h2.get? b := fun b h => gk' b (decide_eq_true h)
  have ge : G.get? a = none := ge' a (by simp)
  have na : ∀ {b : Addr} {o : Obj}, hp.get? b = some o → b ≠ a := fun {b o} z => Nat.ne_of_lt (Nat.lt_of_lt_of_le (Heap.lt_size z) ha)
  have up1 : ∀ {b : Addr}, b ≠ a → H1 b = none → upd H1 a (exo a C none) b = none := fun {b} h n => by rw [upd_ne h]; exact n
  have up2 : ∀ {b : Addr} {o : HO}, H1 b = some o → upd H1 a (exo a C none) b = some o := fun {b o} z => by rw [upd_ne (ne_of_none z hn)]; exact z
  have U : Un (frs X.stack) [] H1 (del H2 a) hp G := by
    refine ⟨fun b o z n hf hx => ?_, fun b o z n hf hx => ?_, fun b o z n hx => ?_, fun b o z hx => ?_, fun b xs z => ?_, fun b o v z => ?_, fun b ps z => ?_⟩
    · rw [gk b (na z)]; exact un.keep b o (k b o z) (up1 (na z) n) hf hx
    · rw [gk b (na z)]; exact un.slot b o (k b o z) (up1 (na z) n) hf hx
    · rw [del_ne (na z)]; exact un.free b o (k b o z) (up1 (na z) n) hx
    · rw [gk b (na z)]; exact un.there b o (k b o z) hx
    · rw [del_ne (ne_of_none z hn)]; exact un.tups b xs (up2 z)
    · rw [del_ne (ne_of_none z hn)]; exact un.frzs b o v (up2 z)
    · rw [del_ne (ne_of_none z hn)]; exact un.tbls b ps (up2 z)
  have hok3 : HOk X.prog X.w (del H2 a) G := fun b o z => by
    have hba : b ≠ a := fun e => by rw [e, del_same] at z; exact nomatch z
    rw [del_ne hba] at z
    have noa : ∀ {c : Addr}, H2 c = some (.own b) → c ≠ a := fun {c} hc => at_ne ea hc exo_own
    refine (hok b o z).stay (fun c v hc y => ?_) (fun c hc => by rw [del_ne (noa hc)]; exact hc) fun c xs hc => by rw [del_ne (at_ne ea hc exo_tup)]; exact hc
    have hca : c ≠ a := hc.elim (fun e => e ▸ hba) noa
    rw [gk c hca]
    exact y
  refine ⟨t0, G, I1.call' (ch := []) ho U hok3 hb (fun b z => absurd z (by simp)), fun b o z => ?_, ge, hoe⟩
  by_cases hba : b = a
  · rw [hba, ge] at z; exact nomatch z
  · exact (gk b hba).symm.trans z
theorem pmk_err0 (T : ErrC0 X.prog X.w X.K X.mg X.base x C) (hr : Room 2 X.A) (hg : Gl X x) (hdb : (x == ("__debug__" : Str)) = false := by decide) : PMk X (.Call (.Name x p) [] [] pos) (fun σ H Q => ∀ H2, Same H H2 → Q (.ref C) none H2) := by
  intro pins s σ H Q I h
  obtain ⟨fI, fd, iC, tI, F1, hb⟩ := T.it
  obtain ⟨nm, q, N, bs, bm, sn, sub, ab, col, dd, k0, k1, k2, k3, k5, hC, hbm⟩ := T.ox.cls
  refine wpAny_Call_Name_kw (ld_glob I hg T.g ?_ hdb)
  refine PySem.W.callWith_K0 I.kIn T.ox.kC ?_
  obtain ⟨hp, g, dr, tk, os⟩ := s
  have hsz : hp.objs.size ≤ hp.objs.size + 1 := Nat.le_succ _
  have kk : ∀ b o, hp.get? b = some o → ((hp.push (PySem.W.kdv_tup [])).push (PySem.HandSPX.excO C hp.objs.size)).get? b = some o := fun b o e => Heap.get?_push_of_some _ (Heap.get?_push_of_some _ e)
  have hget : ((hp.push (PySem.W.kdv_tup [])).push (PySem.HandSPX.excO C hp.objs.size)).get? (hp.objs.size + 1) = some (PySem.HandSPX.excO C hp.objs.size) := by heap_get
  have hn : H (hp.objs.size + 1) = none := I.hok.fresh hsz
  have I2 : Inv X pins σ (upd H (hp.objs.size + 1) (exo (hp.objs.size + 1) C none)) ⟨(hp.push (PySem.W.kdv_tup [])).push (PySem.HandSPX.excO C hp.objs.size), g, dr, tk, os⟩ :=
    I.laid (t' := tk) (a := hp.objs.size + 1) (o := exo (hp.objs.size + 1) C none) (h' := (hp.push (PySem.W.kdv_tup [])).push (PySem.HandSPX.excO C hp.objs.size)) kk hsz (exo_ok hget)
  have hsp : spErr0 C [.ref (hp.objs.size + 1)] (upd H (hp.objs.size + 1) (exo (hp.objs.size + 1) C none)) (fun v H2 => v = .non ∧ H2 = upd H (hp.objs.size + 1) (exo (hp.objs.size + 1) C none)) (fun _ _ _ => False) := ⟨upd_same, rfl, rfl⟩
  have hbt : BindsTo ⟨(hp.push (PySem.W.kdv_tup [])).push (PySem.HandSPX.excO C hp.objs.size), g, dr, tk, os⟩ fd ⟨[.ref (hp.objs.size + 1)], []⟩ ((["self"] : List Str).zip [.ref (hp.objs.size + 1)]) := hb _ [.ref (hp.objs.size + 1)] I2.kIn rfl
  show wpAny _ _ (call (.ref C) []) _ _ _
  refine wpAny_call (PySem.HandSPX.call_own F.excBase_ValueError (fun Y => PySem.HandSPX.refsVE_contains Y bm hbm) (I.kIn _ _ hC) (PySem.W.looks_findIn I.kIn iC) (fun self => PySem.W.bind_fn I.kIn self tI) (by rw [sizeLine_eq]; exact Nat.zero_le _)
    (codeAny_mono (F1.run _ X.stack _ _ ⟨[.ref (hp.objs.size + 1)], []⟩ [.ref (hp.objs.size + 1)] [.ref (hp.objs.size + 1)] _ (fun _ _ _ => False) (hr.make C [] []) (I2.env0.make C [] []) hbt (.cons rfl .nil) hsp) fun r s' hq => ?_))
  match r, hq with
  | .error er, hq => exact hq.elim
  | .ok .next, hq => exact hq.elim
  | .ok .brk, hq => exact hq.elim
  | .ok .cont, hq => exact hq.elim
  | .ok (.ret u), ⟨v, H2, os2, bare2, un2, hok2, rv, ev, eH⟩ =>
    subst ev
    subst eH
    obtain ⟨h2, g2, d2, t2, os'⟩ := s'
    obtain ⟨t0, G, J, kG, ge, hoe⟩ := let_go (d2 := d2) (t2 := t2) I hsz kk un2 hok2 os2 bare2 upd_same
    refine ⟨rv, hp.objs.size + 1, _, _, ⟨G, g2, d2, t2, os'⟩, _, .ref C, none, rfl, J, kG, ge, hoe, ⟨rfl, rfl⟩, rfl, rfl, del_same, rfl, bare2, raises_own T.ox.exC T.ox.tyC, h _ fun b o z => ?_⟩
    rw [del_ne (ne_of_none z hn), upd_ne (ne_of_none z hn)]
    exact z
def cRaise0 (C : Addr) (W : WX) : TS := fun _ σ H => ∀ H2, Same H H2 → W (.ref C) none σ H2
theorem ps_raise0 (T : ErrC0 X.prog X.w X.K X.mg X.base x C) (hc : X.calm = true) (hr : Room 2 X.A) (tk : Takes X W) (hg : Gl X x := by rfl) (hdb : (x == ("__debug__" : Str)) = false := by decide) :
    PS X (.Raise (some (.Call (.Name x p) [] [] pos)) none pos2) (cRaise0 C W) := ps_raise hc tk (pmk_err0 T hr hg hdb)
end
end CL

set_option Elab.async false
set_option linter.all false
set_option maxRecDepth 100000
set_option maxHeartbeats 2000000
/-! ExcV: a caught error of an own class: of which built-in class it is. -/
namespace CL
open PySem PySem.Spec PyProof.Rows L2
section
open PySem.W PySem.Calls
theorem exc_yes {K : Frag} {x D : Addr} {ox : Obj} {od : Option Obj} {T : String} (hs : subIn K (.ref D) (.type T) = some true) (hm : kitMeta T = true) : Answers (fun s => K.In s.heap ∧ InstAt s.heap x ox D od) (.ref x) (.type T) true := by
  intro dep tk prog w A R s hx
  obtain ⟨hp, gs, dr, n, os⟩ := s
  obtain ⟨⟨KX, J⟩, hq⟩ := hx
  have seen : Looks (model prog w) hp (typeOf (.ref x)) (.ref D) := J.type
  have kind : Looks (model prog w) hp (typeOf (.type T)) (.type "type") := Looks.of_pure (kitMeta_of hm)
  have ofT : Looks (model prog w) hp (isType (.type T)) true := Looks.of_pure rfl
  have inst : Looks (model prog w) hp (isInstance (.ref x) (.type T)) true := seen.andThen (looks_subIn KX hs)
  unfold Builtin.«isinstance.nested»
  refine wpAny_bind (seen.at ?_)
  rw [if_neg (show ¬ (Value.ref D == Value.type T) = true from fun z => nomatch beq_iff_eq.mp z)]
  refine wpAny_bind (kind.at ?_)
  rw [if_pos (by decide)]
  k_delta "plainIsInstance"
  refine wpAny_bind (wpAny_bind (ofT.at ?_))
  simp only [Bool.not_true, Bool.false_eq_true, if_false]
  refine wpAny_bind (inst.at ?_)
  simp only [if_true]
  first | exact wpAny_pure (wpAny_pure (hq n)) | exact wpAny_pure (hq n) | exact wpAny_bind (wpAny_pure (wpAny_pure (hq n)))
theorem exc_isi {K : Frag} {x D : Addr} {ox : Obj} {od : Option Obj} {T : String} {prog : Program} {w : World} {A : Around} {E : Value → Shared → Prop} {s : Shared} {Q : Value → Shared → Prop} (hs : subIn K (.ref D) (.type T) = some true) (hm : kitMeta T = true)
    (KX : K.In s.heap) (J : InstAt s.heap x ox D od) (h : ∀ tk, Q (.bool true) { s with toks := tk }) : wpAny (model prog w) A (call (.builtin "isinstance") [.ref x, .type T]) Q E s :=
  call_isinstance (S := fun _ R s => (K.In s.heap ∧ InstAt s.heap x ox D od) ∧ ∀ tk, R (.ok (.ret (.bool true))) { s with toks := tk })
    (fun prog w A R s z => isinstance_outer (exc_yes hs hm 0 _ prog w A R s z) (fun z => nomatch z)) ⟨⟨KX, J⟩, h⟩
end
section
variable {X : Cx} {a D : Addr} {oe : Obj} {cls : Value} {d : Option Addr} {pn : List (Addr × Obj)} {e : Expr} {te : TE} {p q pos : Pos}
/-- isinstance(e, T): the caught error at a is one -/
def cIsE (a : Addr) (cls : Value) (d : Option Addr) (K : PySem.W.Frag) (T : String) (te : TE) : TE := fun σ H Q => te σ H fun x H1 => x = .ref a ∧ (∃ D, cls = .ref D ∧ PySem.W.subIn K (.ref D) (.type T) = some true) ∧ (d = none ∨ ∃ dd fs, d = some dd ∧ H1 dd = some (.xd fs)) ∧ Q (.bl true) H1
theorem c_isE {T : String} (hm : PySem.W.kitMeta T = true) (hz : Zc cls d oe) (hf : ∃ vs, oe.data = .fields vs) : CallR (X.suite a ((a, oe) :: pn)) (.builtin "isinstance")
    (fun xs H Q => xs = [.ref a, .ty T] ∧ (∃ D, cls = .ref D ∧ PySem.W.subIn X.K (.ref D) (.type T) = some true) ∧ (d = none ∨ ∃ dd fs, d = some dd ∧ H dd = some (.xd fs)) ∧ Q (.bl true) H) := by
  intro pins s σ H xs us Q I r h
  obtain ⟨rfl, ⟨D, rfl, hs⟩, hd, k⟩ := h
  cases r with
  | cons rx rr =>
    cases rr with
    | cons rt rr =>
      cases rr
      cases rx
      cases rt
      obtain ⟨at_, _⟩ := I.pin (a, oe) (List.mem_append.mpr (.inl List.mem_cons_self))
      obtain ⟨vs, hv⟩ := hf
      have nc : PySem.W.notCls oe = true := by unfold PySem.W.notCls; rw [hv] <;> rfl
      have go : ∀ od, PySem.W.InstAt s.heap a oe D od → wpAny (model X.prog X.w) (X.suite a ((a, oe) :: pn)).A (call (.builtin "isinstance") [.ref a, .type T]) (EP (X.suite a ((a, oe) :: pn)) pins σ Q) (X.suite a ((a, oe) :: pn)).xe s := fun od J =>
        exc_isi hs hm I.kIn J fun tk => ⟨.bl true, H, I.kept (t' := tk) fun _ _ z => z, rfl, k⟩
      rcases hd with rfl | ⟨dd, fs, rfl, hx⟩
      · exact go none ⟨at_, hz.1, nc, by rw [hz.2]; trivial⟩
      · obtain ⟨mA, hns, _⟩ := (show ObjOk X.prog X.w H s.heap dd (.xd fs) from I.hok dd _ hx)
        obtain ⟨od, ho, _⟩ := lookIn_ns hns
        exact go (some od) ⟨at_, hz.1, nc, by rw [hz.2]; exact ho⟩
theorem pe_isE {T : Str} {T' : String} (hT : bootBuiltins T = some (.type T')) (hm : PySem.W.kitMeta T' = true) (hz : Zc cls d oe) (hf : ∃ vs, oe.data = .fields vs) (hmI : X.mg "isinstance" = none) (hmT : X.mg T = none) (hgI : Gl X "isinstance") (hgT : Gl X T)
    (he : PE (X.suite a ((a, oe) :: pn)) e te) (hn : T ≠ "__name__" := by decide) (hdb : (T == ("__debug__" : Str)) = false := by decide)
    (h1 : starEach [e, .Name T q] X.env = (false, eval e X.env) :: starEach [.Name T q] X.env := by rfl) (h2 : (backTo pos (starEach [.Name T q] X.env)).any (·.1) = false := by rfl)
    (h3 : starEach [.Name T q] X.env = (false, eval (.Name T q) X.env) :: starEach [] X.env := by rfl) :
    PE (X.suite a ((a, oe) :: pn)) (.Call (.Name "isinstance" p) [e, .Name T q] [] pos) (cIsE a cls d X.K T' te) := by
  refine PE_imp (pe_callB (X := X.suite a ((a, oe) :: pn)) (c_isE hm hz hf) hgI hmI (by decide +kernel) (pa_cons (PE_up he) (pa_cons (pe_bltn (v := .ty T') hgT hmT hT rfl hn hdb) pa_nil h3) h1) (by decide) (by decide) h1 h2) fun σ H Q h => ⟨_, h, fun x H1 q => ?_⟩
  obtain ⟨rfl, hc, hd, k⟩ := q
  exact ⟨rfl, hc, hd, k⟩
end
end CL

set_option Elab.async false
set_option linter.all false
set_option maxRecDepth 100000
set_option maxHeartbeats 2000000
/-! TryAs: several clauses, each «except C as n». -/
namespace CL
open PySem PySem.Spec PyProof.Rows L2

/-- the exception at a has come down in this frame -/
def Down (X : Cx) (pins : List (Addr × Obj)) (σ : L2.St) (H : Hp) (a : Addr) (cls : Value) (d : Option Addr) (s : Shared) : Prop :=
  ∃ (B : Heap) (sI : Shared), Inv X pins σ H sI ∧ (∀ b o, sI.heap.get? b = some o → b ∉ frs X.stack → B.get? b = some o) ∧ sI.heap.UpToSlots s.heap ∧
    HandSPX.FlyingZ B (X.env :: X.outer) a (Zc cls d) s.heap ∧ H a = none ∧ s.os = sI.os ∧ AllBare s.gens
section
variable {X : Cx} {pins : List (Addr × Obj)} {σ : L2.St} {H : Hp} {a : Addr} {cls : Value} {d : Option Addr} {s : Shared} {Wout : WX} {D : Ends}
theorem Down.inv (h : Down X pins σ H a cls d s) : Inv X pins σ H s := by
  obtain ⟨B, sI, I, nb, up, fl, _, os, ag⟩ := h
  exact I.landed nb fl.1 up os ag
theorem Down.again {Q : Unit → Shared → Prop} {A : Around} {E : Value → Shared → Prop} (h : Down X pins σ H a cls d s) (k : ∀ s', Down X pins σ H a cls d s' → Q () s') : wpAny (model X.prog X.w) A (setFlight (.ref a) none) Q E s := by
  obtain ⟨B, sI, I, nb, up, fl, na, os, ag⟩ := h
  exact HandSPX.lands_againZ fl fun h' fl' up' => k _ ⟨B, sI, I, nb, up.trans up', fl', na, os, ag⟩
/-- the exception's object, pinned while a clause's suite runs -/
theorem Down.pinned (h : Down X pins σ H a cls d s) (hf : X.env.frame = some X.env.locals) : ∃ oe, s.heap.get? a = some oe ∧ Zc cls d oe ∧ (∃ vs, oe.data = .fields vs) ∧ Inv (X.suite a ((a, oe) :: (X.pn ++ pins))) [] σ H s := by
  have J := h.inv
  obtain ⟨B, sI, I, nb, up, fl, na, os, ag⟩ := h
  obtain ⟨oe, vs, at_, zc, dv⟩ := fl.there
  have out : a ∉ frs (X.env :: X.outer) := fun hm => by
    obtain ⟨_, o2, e2, none2⟩ := Heap.FunFrames.mem fl.2.2.1 hm
    cases at_.symm.trans e2
    exact none2 _ dv
  refine ⟨oe, at_, zc, ⟨vs, dv⟩, J.suite at_ dv na (fun z => out (List.mem_filterMap.mpr ⟨X.env, List.mem_cons_self, hf.trans (congrArg some z.symm)⟩)) fun hm => ?_⟩
  obtain ⟨e, he, q⟩ := List.mem_filterMap.mp hm
  exact out (List.mem_filterMap.mpr ⟨e, List.mem_cons_of_mem _ he, q⟩)
/-- no clause is left: it flies on -/
theorem Down.out (h : Down X pins σ H a cls d s) (hs : X.stack = X.env :: X.outer) (hf : X.env.frame = some X.env.locals) (tk : Takes X Wout) (w : Wout cls d σ H) : wpAny (model X.prog X.w) X.A (handleBy (.ref a) X.env []) (SP X pins D) X.xe s := by
  obtain ⟨B, sI, I, nb, up, fl, na, os, ag⟩ := h
  have go : wpAny (model X.prog X.w) X.A (setFlight (.ref a) X.env.frame) (fun _ s4 => wpAny (model X.prog X.w) X.A (throw (.ref a) : Sem Flow) (SP X pins D) X.xe s4) X.xe s := by
    rw [hf]
    exact HandSPX.setFlight_upZ fl fun h4 held up4 => wpAny_throw (tk _ _ ⟨a, B, sI, pins, σ, H, cls, d, rfl, I, nb, up.trans up4, .inr (.inr (by rw [hs]; exact held)), na, os, ag, w⟩)
  obtain ⟨_, _, _, oe, vs, T, oT, ts, e1, _, e3, e4, _⟩ := fl
  refine wpAny_handleBy_nil ?_
  unfold PySem.passOn
  refine wpAny_bind (wpAny_field e1 e3 e4 ?_)
  rw [if_neg (show ¬ ((Value.ref T == Value.none) = true) by simp)]
  first | exact wpAny_bind (wpAny_pure (wpAny_bind go)) | exact wpAny_bind go
end
/-- what is wished of the ends of a clause: its name goes -/
abbrev offEnds (i : Nat) (D : Ends) : Ends := { nx := fun σ H => D.nx (σ.set i none) H, rt := D.rt, bk := fun σ H => D.bk (σ.set i none) H, ct := fun σ H => D.ct (σ.set i none) H }
/-- what the clauses wish of an exception, from the first on; i: the slot of a clause's name -/
def wAsMany (K : PySem.W.Frag) (i : Nat) (Wout : WX) (D : Ends) : List (Value × (Addr → Value → Option Addr → TS)) → WX
  | [] => Wout
  | (c, ts) :: r => fun cls d σ H => ∃ b, PySem.W.exmOne K cls c = some b ∧ (b = true → ∀ a, H a = none → ts a cls d (offEnds i D) (σ.set i (some (.ref a))) H) ∧ (b = false → wAsMany K i Wout D r cls d σ H)
inductive AsOk (X : Cx) (n : Str) : List ExceptHandler → List (Value × (Addr → Value → Option Addr → TS)) → Prop
  | nil : AsOk X n [] []
  | cons {x : Str} {c : Value} {ts : Addr → Value → Option Addr → TS} {st : Stmt} {suite : List Stmt} {np pos : Pos} {hds : List ExceptHandler} {l : List (Value × (Addr → Value → Option Addr → TS))} (hc : Names X x c)
      (hsu : ∀ (a : Addr) (oe : Obj) (cls : Value) (d : Option Addr) (pn : List (Addr × Obj)), Zc cls d oe → (∃ vs, oe.data = .fields vs) → PSs (X.suite a ((a, oe) :: pn)) (st :: suite) (ts a cls d)) (r : AsOk X n hds l) :
      AsOk X n (.ExceptHandler (some (.Name x np)) (some n) (st :: suite) pos :: hds) ((c, ts) :: l)
section
variable {X : Cx} {pins : List (Addr × Obj)} {σ : L2.St} {H : Hp} {a : Addr} {cls : Value} {d : Option Addr} {s : Shared} {Wout : WX} {D : Ends} {n : Str} {i : Nat}
theorem asks {x : Str} {c : Value} {np : Pos} {Q : Value → Shared → Prop} {E : Value → Shared → Prop} {a : Addr} {pn : List (Addr × Obj)} (hc : Names X x c) (S : Inv (X.suite a pn) [] σ H s) (q : Q c s) :
    wpAny (model X.prog X.w) (X.A.mark (some (.ref a))) (eval (.Name x np) X.env) Q E s := by
  obtain ⟨hg, hdb, hm | ⟨hm, hv, hn⟩⟩ := hc
  · exact ld_glob (X := X.suite a pn) S hg hm q hdb
  · exact ld_blt (X := X.suite a pn) S hg hm hv q hn hdb
theorem handled (hs : X.stack = X.env :: X.outer) (hf : X.env.frame = some X.env.locals) (hN : X.N.Nodup) (hi : X.N[i]? = some n) (hln : X.env.kindOf n = some .local) (tk : Takes X Wout) {hds : List ExceptHandler} {l : List (Value × (Addr → Value → Option Addr → TS))} (ok : AsOk X n hds l) :
    ∀ {s : Shared}, Down X pins σ H a cls d s → wAsMany X.K i Wout D l cls d σ H → wpAny (model X.prog X.w) X.A (handleBy (.ref a) X.env hds) (SP X pins D) X.xe s := by
  induction ok with
  | nil => exact fun L w => L.out hs hf tk w
  | @cons x c ts st suite np pos hds l hc hsu r ih =>
    intro s L w
    obtain ⟨b, hb, yes, no⟩ := w
    have J := L.inv
    obtain ⟨oe, at_, zc, dv, S⟩ := L.pinned hf
    have kind : PySem.W.Looks (model X.prog X.w) s.heap (typeOf (.ref a)) cls := fun A Q E s' k q => wpAny_typeOf_ref (k _ _ at_) (by rw [zc.1]; exact q)
    refine wpAny_handleBy_cons (codeAny_handlers_test (asks hc S ((PySem.W.exm_one (M := model X.prog X.w) J.kIn kind hb).here ?_))) (fun q => nomatch q)
    cases b with
    | false => exact ih L (no rfl)
    | true =>
      refine codeAny_handlers_suite_as (L.again fun s2 M => ?_)
      obtain ⟨oe2, at2, zc2, dv2, S2⟩ := M.pinned hf
      have na : H a = none := by obtain ⟨_, _, _, _, _, _, na, _⟩ := M; exact na
      refine store_ok (X := X.suite a ((a, oe2) :: (X.pn ++ pins))) (v := .ref a) S2 hN hi (.inl hln) rfl (fun s3 S3 => ?_) (.inr hln)
      have gone : ∀ {σ4 : L2.St} {H4 : Hp} {s4 : Shared} {R : Shared → Prop}, Inv (X.suite a ((a, oe2) :: (X.pn ++ pins))) [] σ4 H4 s4 → (∀ s5, Inv X pins (σ4.set i none) H4 s5 → R s5) →
          wpAny (model X.prog X.w) X.A (do bindName X.env n .none; unbindBehindTheSuite X.env n pos) (fun _ s5 => R s5) X.xe s4 := fun S4 k => gone_ok (S4.unsuite J.ok) hN hi hln k
      refine wpAny_mono ((hsu a oe2 cls d (X.pn ++ pins) zc2 dv2).run [] s3 _ H _ S3 (yes rfl a na)) (fun f s4 e => ?_) fun _ _ z => z.elim
      cases f with
      | ret u => obtain ⟨v, σ4, H4, S4, rv, q⟩ := e; exact gone S4 fun s5 J5 => ⟨v, _, _, J5, rv, q⟩
      | next => obtain ⟨σ4, H4, S4, q⟩ := e; exact gone S4 fun s5 J5 => ⟨_, _, J5, q⟩
      | brk => obtain ⟨σ4, H4, S4, q⟩ := e; exact gone S4 fun s5 J5 => ⟨_, _, J5, q⟩
      | cont => obtain ⟨σ4, H4, S4, q⟩ := e; exact gone S4 fun s5 J5 => ⟨_, _, J5, q⟩
/-- try: .. except C as n: .. except C' as n: .. -/
theorem ps_try_as_many {body : List Stmt} {h₀ : ExceptHandler} {hds : List ExceptHandler} {l : List (Value × (Addr → Value → Option Addr → TS))} {pos : Pos} {tb : WX → TS} (hs : X.stack = X.env :: X.outer) (hf : X.env.frame = some X.env.locals) (hN : X.N.Nodup) (hi : X.N[i]? = some n) (hln : X.env.kindOf n = some .local) (tk : Takes X Wout)
    (hb : ∀ (W : WX) (pn : List (Addr × Obj)) (xe : Value → Shared → Prop), Takes (X.tr pn xe) W → PassesOwn (model X.prog X.w) X.A X.env xe → PSs (X.tr pn xe) body (tb W)) (ok : AsOk X n (h₀ :: hds) l) :
    PS X (.Try body (h₀ :: hds) [] [] pos) (fun D σ H => tb (wAsMany X.K i Wout D l) D σ H) := by
  refine ⟨fun pins s σ H D I h => ?_⟩
  have xok := I.ok
  refine wpAny_Try_except ?_
  let xe : Value → Shared → Prop := fun e s₁ => wpAny (model X.prog X.w) X.A (noteFrame e X.env) (fun _ s₂ => wpAny (model X.prog X.w) X.A (setFlight e none) (fun _ s₃ => wpAny (model X.prog X.w) X.A (handleBy e X.env (h₀ :: hds)) (SP X pins D) X.xe s₃) X.xe s₂) X.xe s₁
  have tx : Takes (X.tr (X.pn ++ pins) xe) (wAsMany X.K i Wout D l) := fun u s2 x => by
    obtain ⟨a, B, sI, _, σ2, H2, cls, d, rfl, J, nb, up, sky, na, os, ag, w⟩ := x
    have sky2 : Sky B (X.env :: X.outer) a (Zc cls d) X.env.locals s2.heap := hs ▸ sky
    exact Sky.land Zc.steady (xok.frames.trans (congrArg some hs)) hf sky2 fun h3 fl up3 =>
      handled hs hf hN hi hln tk ok (s := { s2 with heap := h3 }) ⟨B, sI, J.ofTry xok, nb, up.trans up3, fl, na, os, ag⟩ w
  refine wpAny_mono ((hb _ (X.pn ++ pins) xe tx PassesOwn.looking).run [] s σ H D (I.toTry _) h) (fun f s1 e => ?_) fun _ _ z => z
  cases f with
  | next => obtain ⟨σ2, H2, J, q⟩ := e; exact wpAny_execs_nil ⟨σ2, H2, J.ofTry xok, q⟩
  | ret u => obtain ⟨v, σ2, H2, J, rv, q⟩ := e; exact ⟨v, σ2, H2, J.ofTry xok, rv, q⟩
  | brk => obtain ⟨σ2, H2, J, q⟩ := e; exact ⟨σ2, H2, J.ofTry xok, q⟩
  | cont => obtain ⟨σ2, H2, J, q⟩ := e; exact ⟨σ2, H2, J.ofTry xok, q⟩
end
end CL

set_option Elab.async false
set_option linter.all false
set_option maxRecDepth 100000
set_option maxHeartbeats 2000000
/-! Val: values of built-in kinds that stay what they are while numbers are drawn. -/
namespace CL
open PySem PySem.Spec PyProof.Rows L2

theorem strOk_text (s : String) : PyData.strOk (Str.ofString s) = true := by
  rw [Str.ofString_eq_toList]
  unfold PyData.strOk
  rw [Array.all_eq_true']
  intro n hn
  simp only [List.mem_toArray, List.mem_map] at hn
  obtain ⟨ch, _, rfl⟩ := hn
  have := ch.valid
  simp only [decide_eq_true_eq]
  unfold UInt32.isValidChar Nat.isValidChar at this
  show ch.val.toNat < _
  omega
theorem natAbs_log {i : Int} (h : i.natAbs ≤ 10 ^ 95) : i.natAbs.log2 < 1920 := by
  by_cases h0 : i.natAbs = 0
  · rw [h0]; decide
  · rw [Nat.log2_lt h0]
    exact Nat.lt_of_le_of_lt h (by decide +kernel)
theorem fit_int {i : Int} (h : i.natAbs ≤ 10 ^ 95) : Fit (.int i) := by
  have h1 := natAbs_log h
  refine ⟨by simp [PyData.showable, h1], fun z => by simp [PyData.hasDict] at z, by simp [PyData.depth], ?_, ?_⟩
  · have := int_text_len_1921 h1
    simp only [PyData.leavesShort, decide_eq_true_eq]
    show (Str.ofString (toString i)).length ≤ 1930
    omega
  · unfold PyData.weight
    split <;> omega
theorem Same.tq {K : PySem.W.Frag} {H H' : Hp} {a : Addr} {xs : List V} (s : Same H H') (h : SqT K H a xs) : SqT K H' a xs := by
  rcases h with (h | ⟨o, h⟩) | h
  · exact .inl (.inl (s a _ h))
  · exact .inl (.inr ⟨o, s a _ h⟩)
  · exact .inr h
mutual
theorem Dq.same {K : PySem.W.Frag} {H H' : Hp} (s : Same H H') : ∀ {v : V} {d : PyData}, Dq K H v d → Dq K H' v d
  | _, _, .non => .non
  | _, _, .bl b => .bl b
  | _, _, .int i => .int i
  | _, _, .str x => .str x
  | _, _, .lst h a => .lst (s.seq h) (DqA.same s a)
  | _, _, .tup h a => .tup (Same.tq s h) (DqA.same s a)
  | _, _, .dic h a b => .dic (s _ _ h) (DqA.same s a) (DqA.same s b)
theorem DqA.same {K : PySem.W.Frag} {H H' : Hp} (s : Same H H') : ∀ {v : List V} {d : List PyData}, DqA K H v d → DqA K H' v d
  | _, _, .nil => .nil
  | _, _, .cons a b => .cons (Dq.same s a) (DqA.same s b)
end
theorem BK.same {K : PySem.W.Frag} {H H' : Hp} {v : V} {k : BT} (s : Same H H') (h : BK K H v k) : BK K H' v k := by
  cases h with
  | non => exact .non
  | bl b => exact .bl b
  | int i => exact .int i
  | str x => exact .str x
  | lst h => exact .lst (s.seq h)
  | tup h => exact .tup (Same.tq s h)
  | dic h => exact .dic (s _ _ h)
/-- all but what M tells and the tables of code is as it was -/
def BN (M : Addr → Prop) (H H' : Hp) : Prop := ∀ b o, ¬ M b → H b = some o → (∀ ps, o ≠ .tbl ps) → H' b = some o
theorem BN.refl {M : Addr → Prop} {H : Hp} : BN M H H := fun _ _ _ h _ => h
theorem BN.trans {M : Addr → Prop} {H H1 H2 : Hp} (a : BN M H H1) (b : BN M H1 H2) : BN M H H2 := fun x o n h t => b x o n (a x o n h t) t
theorem BN.of {M : Addr → Prop} {H H' : Hp} (s : Same H H') : BN M H H' := fun b o _ h _ => s b o h
theorem BN.but {M : Addr → Prop} {p : Addr} {H H' : Hp} (m : M p) (s : But p H H') : BN M H H' := fun b o n h _ => s.keep b o (fun e => n (e ▸ m)) h
theorem BN.ext {M : Addr → Prop} {H H' : Hp} (s : LamX.ExtN H H') : BN M H H' := fun b o _ h t => s b o h t
theorem BN.upd {M : Addr → Prop} {p : Addr} {H : Hp} {o : HO} (m : M p) : BN M H (upd H p o) := fun b u n h _ => by
  have nb : b ≠ p := fun e => n (by rw [e]; exact m)
  rw [upd_ne nb]; exact h
/-- what may be altered stands already -/
def MOk (M : Addr → Prop) (H : Hp) : Prop := ∀ b, M b → H b ≠ none
theorem MOk.same {M : Addr → Prop} {H H' : Hp} (h : MOk M H) (s : Same H H') : MOk M H' := fun b m z => by
  cases e : H b with
  | none => exact h b m e
  | some o => rw [s b o e] at z; exact nomatch z
theorem MOk.new {M : Addr → Prop} {H : Hp} {a : Addr} (h : MOk M H) (n : H a = none) : ¬ M a := fun m => h a m n
theorem PenB.ext {p : Addr} {H H' : Hp} {k : Nat} (h : PenB H p k) (s : LamX.ExtN H H') : PenB H' p k := by
  obtain ⟨c, ns, b, r, P, q⟩ := h
  exact ⟨c, ns, b, r, ⟨s _ _ P.dict (fun _ z => nomatch z), s _ _ P.cells (fun _ z => nomatch z), P.len, P.b0, P.r0⟩, q⟩
theorem tabs_but {T : List (Addr × Str)} {p : Addr} {H H' : Hp} {k : Nat} (h : LamX.Tabs T H) (P : PenB H p k) (s : But p H H') : LamX.Tabs T H' := fun q hq => by
  obtain ⟨ps, h1, h2, h3⟩ := h q hq
  have np : ∀ {a : Addr} {o : HO}, H a = some o → (∀ kvs, o ≠ .dK kvs) → a ≠ p := fun {a o} e n => P.ne e n
  refine ⟨ps, s.keep _ _ (np h1 fun _ z => nomatch z) h1, h2, fun pos cv hc => ?_⟩
  obtain ⟨c, e1, e2⟩ := h3 pos cv hc
  exact ⟨c, e1, s.keep _ _ (np e2 fun _ z => nomatch z) e2⟩
theorem tabs_same {T : List (Addr × Str)} {H H' : Hp} (h : LamX.Tabs T H) (s : Same H H') : LamX.Tabs T H' := h.ext s
/-- v stands for the datum d, whatever the pen at p does -/
def Sv (K : PySem.W.Frag) (M : Addr → Prop) (H : Hp) (v : V) (d : PyData) : Prop := ∀ H', BN M H H' → Dq K H' v d
theorem Sv.bn {K : PySem.W.Frag} {M : Addr → Prop} {H H1 : Hp} {v : V} {d : PyData} (h : Sv K M H v d) (b : BN M H H1) : Sv K M H1 v d := fun H' c => h H' (b.trans c)
theorem Sv.but {K : PySem.W.Frag} {M : Addr → Prop} {p : Addr} {H H1 : Hp} {v : V} {d : PyData} (h : Sv K M H v d) (m : M p) (b : But p H H1) : Sv K M H1 v d := h.bn (.but m b)
theorem Sv.now {K : PySem.W.Frag} {M : Addr → Prop} {H : Hp} {v : V} {d : PyData} (h : Sv K M H v d) : Dq K H v d := h H BN.refl
def SvA (K : PySem.W.Frag) (M : Addr → Prop) (H : Hp) (vs : List V) (ds : List PyData) : Prop := ∀ H', BN M H H' → DqA K H' vs ds
theorem SvA.nil {K : PySem.W.Frag} {M : Addr → Prop} {H : Hp} : SvA K M H [] [] := fun _ _ => .nil
theorem SvA.cons {K : PySem.W.Frag} {M : Addr → Prop} {H : Hp} {v : V} {vs : List V} {d : PyData} {ds : List PyData} (a : Sv K M H v d) (b : SvA K M H vs ds) : SvA K M H (v :: vs) (d :: ds) := fun H' c => .cons (a H' c) (b H' c)
theorem SvA.bn {K : PySem.W.Frag} {M : Addr → Prop} {H H1 : Hp} {v : List V} {d : List PyData} (h : SvA K M H v d) (b : BN M H H1) : SvA K M H1 v d := fun H' c => h H' (b.trans c)
section
variable {K : PySem.W.Frag} {M : Addr → Prop} {a : Addr} {H : Hp} {vs : List V} {ds : List PyData}
theorem Sv.non : Sv K M H .non .none := fun _ _ => .non
theorem Sv.bl (b : Bool) : Sv K M H (.bl b) (.bool b) := fun _ _ => .bl b
theorem Sv.int (i : Int) : Sv K M H (.int i) (.int i) := fun _ _ => .int i
theorem Sv.str (x : Str) : Sv K M H (.str x) (.str x) := fun _ _ => .str x
theorem Sv.lst (P : MOk M H) (na : H a = none) (h : SvA K M H vs ds) : Sv K M (upd H a (.lst vs)) (.ref a) (.list ds) := fun H' b => by
  have np : ¬ M a := P.new na
  exact .lst (SqL.of (b a _ np upd_same (fun _ z => nomatch z))) (h H' ((BN.of (same_new na)).trans b))
theorem Sv.tup (P : MOk M H) (na : H a = none) (h : SvA K M H vs ds) : Sv K M (upd H a (.tup vs)) (.ref a) (.tuple ds) := fun H' b => by
  have np : ¬ M a := P.new na
  exact .tup (.inl (.inl (b a _ np upd_same (fun _ z => nomatch z)))) (h H' ((BN.of (same_new na)).trans b))
theorem Sv.dic {kvs : List (Key × V)} {ks : List PyData} (P : MOk M H) (na : H a = none) (h1 : SvA K M H (kvs.map fun p => kV p.1) ks) (h2 : SvA K M H (kvs.map (·.2)) ds) {H1 : Hp} (e : H1 a = some (.dK kvs)) (b1 : BN M H H1) : Sv K M H1 (.ref a) (.dict (ks.zip ds)) := fun H' b => by
  have np : ¬ M a := P.new na
  exact .dic (b a _ np e (fun _ z => nomatch z)) (h1 H' (b1.trans b)) (h2 H' (b1.trans b))
end
/-- a value that may be told -/
def OkV (K : PySem.W.Frag) (M : Addr → Prop) (H : Hp) (v : V) : Prop := ∃ d, Sv K M H v d ∧ Fit d ∧ PyData.strOk d.shown = true
theorem OkV.bn {K : PySem.W.Frag} {M : Addr → Prop} {H H1 : Hp} {v : V} (h : OkV K M H v) (b : BN M H H1) : OkV K M H1 v := by
  obtain ⟨d, s, r⟩ := h
  exact ⟨d, s.bn b, r⟩
theorem OkV.but {K : PySem.W.Frag} {M : Addr → Prop} {p : Addr} {H H1 : Hp} {v : V} (h : OkV K M H v) (m : M p) (b : But p H H1) : OkV K M H1 v := h.bn (.but m b)
theorem OkV.bk {K : PySem.W.Frag} {M : Addr → Prop} {H : Hp} {v : V} (h : OkV K M H v) : ∃ k, BK K H v k := by
  obtain ⟨d, s, r⟩ := h
  exact s.now.bk
theorem OkV.int {K : PySem.W.Frag} {M : Addr → Prop} {H : Hp} {i : Int} (h : i.natAbs ≤ 10 ^ 95) : OkV K M H (.int i) := ⟨_, .int i, fit_int h, strOk_text _⟩
/-- by a look at the datum -/
def fitB (d : PyData) : Bool := d.showable && ((!d.hasDict || listFree d) && (decide (d.depth ≤ 60) && (d.leavesShort 1930 && (decide (d.weight ≤ 8000) && PyData.strOk d.shown))))
theorem fitB_ok {d : PyData} (h : fitB d = true) : Fit d ∧ PyData.strOk d.shown = true := by
  simp only [fitB, Bool.and_eq_true, decide_eq_true_eq] at h
  obtain ⟨h1, h2, h3, h4, h5, h6⟩ := h
  refine ⟨⟨h1, fun z => ?_, h3, h4, h5⟩, h6⟩
  rw [z] at h2
  exact h2
theorem OkV.of {K : PySem.W.Frag} {M : Addr → Prop} {H : Hp} {v : V} {d : PyData} (s : Sv K M H v d) (h : fitB d = true := by decide +kernel) : OkV K M H v := ⟨d, s, fitB_ok h⟩
def AllV (K : PySem.W.Frag) (M : Addr → Prop) (H : Hp) (xs : List V) : Prop := ∀ v ∈ xs, OkV K M H v
section
variable {K : PySem.W.Frag} {M : Addr → Prop} {H H1 : Hp} {v : V} {xs ys : List V}
theorem AllV.nil : AllV K M H [] := fun _ h => nomatch h
theorem AllV.cons (a : OkV K M H v) (b : AllV K M H xs) : AllV K M H (v :: xs) := fun w h => by
  rcases List.mem_cons.mp h with rfl | h
  · exact a
  · exact b w h
theorem AllV.app (a : AllV K M H xs) (b : AllV K M H ys) : AllV K M H (xs ++ ys) := fun w h => (List.mem_append.mp h).elim (a w) (b w)
theorem AllV.bn (a : AllV K M H xs) (b : BN M H H1) : AllV K M H1 xs := fun w h => (a w h).bn b
theorem AllV.but {p : Addr} (a : AllV K M H xs) (m : M p) (b : But p H H1) : AllV K M H1 xs := fun w h => (a w h).but m b
end
end CL

set_option Elab.async false
set_option linter.all false
set_option maxRecDepth 100000
set_option maxHeartbeats 2000000
/-! LamC: defs that hand a lambda to another def: the def's code object is told. -/
namespace CL
open PySem PySem.Spec PyProof.Rows L2 LamX
structure FunC (K : PySem.W.Frag) (mg : Str → Option Value) (x : Str) (st : Stmt) (ps : List Str) (c : Addr) : Prop where
  ex : ∃ (f : Addr) (fd : FuncData) (oc : Value) (od : Option Addr) (kV doc pm : Value) (an : Option Addr) (ct : Value) (osl : Array (Option Value)),
    fd = PySem.W.fnOf x x (defArgs st) (defBody st) (defScope st) .none kV doc pm an (.ref c) ct ∧ K.lookup f = some ⟨oc, od, .func fd, osl⟩ ∧ PySem.W.codeIn K (.ref c) x = true ∧ mg x = some (.ref f) ∧ PySem.W.keepIn K (.ref f) = true ∧ Binds K fd ps []
/-- as DefG, the function object told -/
structure DefGL (P : Program) (w : World) (K : PySem.W.Frag) (mg : Str → Option Value) (base : Heap) (CX : CXT) (k : Nat) (x : Str) (ps : List Str) (sp : Sp) : Prop where
  ex : ∃ f fd, FnG P w K mg base CX k f fd ps sp ∧ mg x = some (.ref f) ∧ (∃ oc od osl, K.lookup f = some ⟨oc, od, .func fd, osl⟩) ∧ Binds K fd ps []
section
variable {P : Program} {w : World} {K : PySem.W.Frag} {mg : Str → Option Value} {base : Heap} {x : Str} {st : Stmt} {N ps : List Str} {sp : Sp} {k j : Nat} {c : Addr}
theorem FunC.okG (A : FunC K mg x st ps c) (S : FnScope N ps (defScope st)) (len : ∀ vs H Q E, sp vs H Q E → vs.length = ps.length)
    (hbody : ∀ (f : Addr) (A : Around) (outer : List Env) (s : Shared) (H : Hp) (vs : List V) (Q : VK) (E : XK), Gd A → Room k (A.deeper (envOfC x (defScope st) s.heap.objs.size f (.ref c))) → sp vs H Q E →
      ∃ t, PSs (cxOf CX0 P w K mg base N x (defScope st) f (.ref c) A outer s H E).nox (defBody st) t ∧ t { nx := fun _ H' => Q .non H', rt := Q } (start N vs) H) : DefG P w K mg base CX0 (k + 1) x ps sp := by
  obtain ⟨f, fd, oc, od, kV, doc, pm, an, ct, osl, rfl, lk, hcd, g, kp, b⟩ := A.ex
  refine ⟨f, _, fnG_of lk hcd S len fun A outer s H vs Q E hG hr hsp => ?_, g, kp, b⟩
  obtain ⟨t, h, q⟩ := hbody f A outer s H vs Q E hG hr hsp
  exact ⟨t, h.nox, q⟩
theorem FunC.okGL (A : FunC K mg x st ps c) (S : FnScope N ps (defScope st)) (len : ∀ vs H Q E, sp vs H Q E → vs.length = ps.length)
    (hbody : ∀ (f : Addr) (A : Around) (outer : List Env) (s : Shared) (H : Hp) (vs : List V) (Q : VK) (E : XK), Gd A → Room k (A.deeper (envOfC x (defScope st) s.heap.objs.size f (.ref c))) → sp vs H Q E →
      ∃ t, PSs (cxOf CX0 P w K mg base N x (defScope st) f (.ref c) A outer s H E).nox (defBody st) t ∧ t { nx := fun _ H' => Q .non H', rt := Q } (start N vs) H) : DefGL P w K mg base CX0 (k + 1) x ps sp := by
  obtain ⟨f, fd, oc, od, kV, doc, pm, an, ct, osl, rfl, lk, hcd, g, kp, b⟩ := A.ex
  refine ⟨f, _, fnG_of lk hcd S len fun A outer s H vs Q E hG hr hsp => ?_, g, ⟨_, _, _, lk⟩, b⟩
  obtain ⟨t, h, q⟩ := hbody f A outer s H vs Q E hG hr hsp
  exact ⟨t, h.nox, q⟩
end
section
variable {X : Cx}
/-- x(lambda: body), x a def of the text -/
theorem pe_lam {T : List (Addr × Str)} {TT : (XK → Hp → VK → Prop) → Hp → VK → Prop} {x a : Str} {st : Stmt} {c P : Addr} {k : Nat} {Ng : List Str} {params : Arguments} {body : Expr} {scope : Scope} {t : XK → TE} {p lpos pos : Pos}
    (F : FunAt X.K X.mg x st [a]) (hG : ∀ g cdg, GivesTo X Ng x (defScope st) g cdg (defBody st) a (X.env.qual ++ "<lambda>") TT) (Sg : FnScope Ng [a] (defScope st)) (TB : TabB X.base X.mg c P) (hcode : X.env.code = .ref c) (hr : Room (k + 2) X.A)
    (hmT : (P, X.env.qual ++ "<lambda>") ∈ T) (hu : ∀ p ∈ T, p.1 = P → p.2 = X.env.qual ++ "<lambda>") (L : LamS X.env.scope scope)
    (hbody : ∀ (A : Around) (outer : List Env) (s : Shared) (H : Hp) (E : XK) (f c' : Addr), Room k (A.deeper (lamEnv X scope s.heap.objs.size f c')) → PE (lamCx X A outer s H E scope f c') body (t E))
    (hNg : Ng[0]? = some a := by rfl) (hva : Vis (defScope st) a := by first | exact Or.inl rfl | exact Or.inr (Or.inl rfl) | exact Or.inr (Or.inr rfl)) (hg : Gl X x := by rfl) (hdef : defaultsOf params X.env = ([], []) := by rfl)
    (hbind : ∀ (q : Str) (cl : List (Str × Addr)) (pm cv ctv : Value), bindArgs (PySem.W.kla_fn "<lambda>" q params body scope cl pm cv ctv) ⟨[], []⟩ = pure [] := by intros; rfl)
    (hdb : (x == ("__debug__" : Str)) = false := by decide) (hd : (a == ("__debug__" : Str)) = false := by decide) (hcd : (a == ("__classdict__" : Str)) = false := by decide) :
    PE X (.Call (.Name x p) [.Lambda params body scope lpos] [] pos) (tLam T TT t) := by
  obtain ⟨f, fd, F, hm, hb⟩ := F.ex
  obtain ⟨oc, od, kV, doc, pm, an, cdv, ct, osl, rfl, lk, hcg⟩ := F.ex
  exact pe_lamcall hg hm F.kp lk hcg hb Sg hNg hva (hG f cdv) TB hcode hmT hu hr L hdef hbind hbody hdb hd hcd
/-- what the lambda's body calls may raise -/
theorem lam_passes {A : Around} {outer : List Env} {s : Shared} {H : Hp} {E : XK} {scope : Scope} {f c' : Addr} : Passes (L2.CX X.prog X.w) (lamCx X A outer s H E scope f c') E := passes_call (L2.takes_of (X := lamCx X A outer s H E scope f c') rfl rfl rfl rfl) (fun _ _ _ _ h => h)
end
end CL

set_option Elab.async false
set_option linter.all false
set_option maxRecDepth 100000
set_option maxHeartbeats 4000000
namespace K13
open PySem PySem.Spec PyProof.Rows L2 CL
def topS (i : Nat) : Stmt := PySem.Challenge.pw_solidnames_k13_planes_as_objects.main.body.getD i (.Pass ⟨0, 0, 0, 0⟩)
structure Blt (mg : Str → Option Value) : Prop where
  int : mg "int" = none
  len : mg "len" = none
  abs : mg "abs" = none
  max : mg "max" = none
  min : mg "min" = none
section
variable {P : Program} {w : World} {K : PySem.W.Frag} {mg : Str → Option Value} {base : Heap}
abbrev sDraw : Stmt := topS 15
abbrev nDraw : List Str := ["_law_pen_here", "_law_many", "_law_digit", "_law_place", "_law_size", "_law_told", "_law_mixed"]
abbrev pDraw : List Str := ["_law_pen_here", "_law_many"]
theorem scDraw : FnScope nDraw pDraw (defScope sDraw) := ⟨rfl, rfl, rfl, by decide +kernel, rfl, by decide +kernel, by decide +kernel⟩
theorem ok_draw (B : Blt mg) (F : FunAt K mg "_law_draw" sDraw pDraw) : ∀ n, DefOk P w K mg base CX0 (0 + n) "_law_draw" pDraw (spDraw n) := by
  refine F.rec_ scDraw (fun _ _ _ _ h => h) (fun n vs H Q E h => ?_) (fun n ih f cdv A outer s H vs Q E hr h => ?_)
  · cases n with
    | zero => exact h.elim
    | succ n =>
      unfold spDraw at h
      dsimp only at h
      split at h
      · rfl
      · exact h.elim
  · have hu := hu_of hr
    refine ⟨_, (pss_cons (ps_if (ct_cmp c_gt (pe_pget (k := 2) (.inr (.inr ⟨rfl, rfl⟩)) hu (cv 0)) pe_int (nomark _))
  (pss_cons (ps_set (i := 2) scDraw.nd rfl (.inl rfl) (pe_op c_mod (pe_callTy c_int (by rfl) B.int (by decide +kernel) (pa_cons (pe_pget (k := 2) (.inr (.inr ⟨rfl, rfl⟩)) hu (cv 0)) pa_nil)) (cv 1)))
  (pss_cons (ps_pput (k := 2) (.inr ⟨rfl, rfl⟩) hu (cv 0) (pe_op c_fdiv (pe_pget (k := 2) (.inr (.inr ⟨rfl, rfl⟩)) hu (cv 0)) (cv 1)))
  (pss_one (ps_ret (cv 2)))))
  pss_nil)
  (pss_cons (ps_par (i := 3) (j := 4) rfl scDraw.nd rfl rfl (by decide) rfl rfl (pa_cons (pe_pget (k := 1) (.inr (.inl ⟨rfl, rfl⟩)) hu (cv 0)) (pa_cons (pe_callB c_lenL (by rfl) B.len (by decide +kernel) (pa_cons (pe_pget (k := 0) (.inl ⟨rfl, rfl⟩) hu (cv 0)) pa_nil)) pa_nil)) (by rfl))
  (pss_cons (ps_pput (k := 1) (.inl ⟨rfl, rfl⟩) hu (cv 0) (pe_op c_addI (cv 3) pe_int))
  (pss_cons (ps_set (i := 5) scDraw.nd rfl (.inl rfl) (pe_op c_addI (pe_op c_mul pe_int (cv 3)) pe_int))
  (pss_cut (ps_if (ct_cmp c_gt (cv 4) pe_int (nomark _))
  (pss_one (ps_set (i := 5) scDraw.nd rfl (.inl rfl) (pe_ix c_ixL (pe_pget (k := 0) (.inl ⟨rfl, rfl⟩) hu (cv 0)) (pe_op c_mod (pe_callTy c_int (by rfl) B.int (by decide +kernel) (pa_cons (cv 3) pa_nil)) (cv 4)) (fun _ _ => rfl))))
  pss_nil)
  (pss_cons (ps_if (PW.pt (pw_and (ct_cmp c_lt (cv 3) (cv 4) (nomark _)) (pw_and1 (ct_cmp c_ge (pe_callB c_abs (by rfl) B.abs (by decide +kernel) (pa_cons (cv 5) pa_nil)) (pe_pow (z := 1000000000000000000) ⟨⟨by decide, by decide, by decide⟩, by decide +kernel⟩) (nomark _)))))
  (pss_cons (ps_pput (k := 2) (.inr ⟨rfl, rfl⟩) hu (cv 0) (pe_op c_fdiv (pe_op c_sub (pe_callB c_abs (by rfl) B.abs (by decide +kernel) (pa_cons (cv 5) pa_nil)) (pe_pow (z := 1000000000000000000) ⟨⟨by decide, by decide, by decide⟩, by decide +kernel⟩)) (cv 1)))
  (pss_one (ps_ret (pe_op c_mod (pe_op c_sub (pe_callB c_abs (by rfl) B.abs (by decide +kernel) (pa_cons (cv 5) pa_nil)) (pe_pow (z := 1000000000000000000) ⟨⟨by decide, by decide, by decide⟩, by decide +kernel⟩)) (cv 1)))))
  pss_nil)
  (pss_cut (ps_set (i := 6) scDraw.nd rfl (.inl rfl) (pe_op c_mod (pe_callTy c_int (by rfl) B.int (by decide +kernel) (pa_cons (pe_op c_addI (pe_op c_addI (pe_op c_mul (pe_op c_mod (pe_callTy c_int (by rfl) B.int (by decide +kernel) (pa_cons (cv 5) pa_nil)) pe_int) pe_int) (pe_op c_mul (pe_op c_mul pe_int (cv 3)) (cv 3))) pe_int) pa_nil)) pe_int))
  (pss_cut (ps_set (i := 6) scDraw.nd rfl (.inl rfl) (pe_op c_mod (pe_callTy c_int (by rfl) B.int (by decide +kernel) (pa_cons (pe_op c_addI (pe_op c_addI (pe_op c_addI (pe_op c_mul (cv 6) (cv 6)) (pe_op c_mul pe_int (cv 6))) (pe_op c_mul pe_int (cv 3))) pe_int) pa_nil)) pe_int))
  (pss_cut (ps_set (i := 6) scDraw.nd rfl (.inl rfl) (pe_op c_fdiv (pe_op c_mod (pe_callTy c_int (by rfl) B.int (by decide +kernel) (pa_cons (pe_op c_mul (cv 6) (pe_op c_addI (cv 6) pe_int)) pa_nil)) pe_int) pe_int))
  (pss_cut (ps_if (ct_cmp c_gt (cv 1) pe_int (nomark _))
  (pss_one (ps_set (i := 6) scDraw.nd rfl (.inl rfl) (pe_op c_addI (pe_op c_mod (pe_callTy c_int (by rfl) B.int (by decide +kernel) (pa_cons (cv 6) pa_nil)) pe_int) (pe_op c_mul pe_int (pe_def ih hr (by omega) (pa_cons (cv 0) (pa_cons (pe_op c_addI (pe_op c_fdiv (cv 1) pe_int) pe_int) pa_nil)))))))
  pss_nil)
  (pss_one (ps_ret (pe_op c_mod (pe_callTy c_int (by rfl) B.int (by decide +kernel) (pa_cons (cv 6) pa_nil)) (cv 1)))))))))))))), ?_⟩
    unfold spDraw at h
    dsimp only at h
    split at h
    · rename_i p m
      obtain ⟨c, ns, b, r, P, m0, mb, mm, hb, k⟩ := h
      have B0 := bigD0 n
      refine ⟨c, ns, b, r, P, iteD (fun h1 => ?_) (fun h1 => ?_)⟩
      · -- the rest's next figure
        have ⟨e1, e2⟩ := pyMod_small (x := r) m0
        refine ⟨c, ns, b, r, P, m0, c, ns, b, r, P, ⟨m0, by omega⟩, c, ns, b, r, P, Int.ediv_nonneg P.r0 (by omega), fun H3 s3 P3 => ?_⟩
        exact k _ _ _ _ e1 e2 (Int.le_refl _) (by omega) P3 s3
      · -- a new cell
        have hns : ((ns.map V.int).length : Int) ≤ 63 := by rw [List.length_map]; have := P.len; omega
        refine ⟨c, ns, b, r, P, c, ns, b, r, P, ns.map V.int, .inl (SqL.of P.cells), _, _, rfl, c, ns, b, r, P, (by have := P.b0; omega), fun H1 s1 P1 => ?_⟩
        have P1 : PenAt H1 p c ns (b + 1) r := P1
        refine ⟨few_of (by omega) (by omega) (by have := P.b0; omega) (by omega), ?_⟩
        -- what is told
        refine ⟨fun σ' H' => H1 = H' ∧ ∃ z : Int, σ' = [some (.ref p), some (.int m), none, some (.int b), some (.int ((ns.map V.int).length : Int)), some (.int z), none], iteD (fun h2 => ?_) (fun h2 => ⟨rfl, _, rfl⟩), ?_⟩
        · obtain ⟨z, hz⟩ := at_mod (x := b) h2
          exact ⟨c, ns, b + 1, r, P1, h2, ns.map V.int, _, SqL.of P1.cells, hz, rfl, z, rfl⟩
        · rintro σ' H' ⟨rfl, z, rfl⟩
          refine (fun hrest => iteD (fun h3 => iteD (fun h4 => ?A) (fun _ => hrest)) (fun _ => iteF hrest)) ?R
          case A =>
            -- a great one
            have ⟨e1, e2⟩ := pyMod_small (x := (z.natAbs : Int) - 1000000000000000000) m0
            refine ⟨⟨m0, by omega⟩, c, ns, b + 1, r, P1, Int.ediv_nonneg (by omega) (by omega), fun H2 s2 P2 => ⟨m0, ?_⟩⟩
            exact k _ _ _ _ e1 e2 (by omega) (by omega) P2 (s1.trans s2)
          case R =>
            have b0 := P.b0
            have sl : ∀ y : Int, [some (V.ref p), some (.int m), none, some (.int b), some (.int ((ns.map V.int).length : Int)), some (.int z), some (.int y)] = [some (V.ref p), some (.int m), none, some (.int b), some (.int ((ns.map V.int).length : Int)), some (.int z), some (.int y)] := fun _ => rfl
            refine ⟨fun σ' H' => H1 = H' ∧ ∃ y : Int, 0 ≤ y ∧ y < 4294967279 ∧ σ' = [some (.ref p), some (.int m), none, some (.int b), some (.int ((ns.map V.int).length : Int)), some (.int z), some (.int y)], ?_, ?_⟩
            · have ⟨i1, i2⟩ := mix1_b z b
              have ⟨a1, a2⟩ := pyMod_small (x := z) (m := 4294967231) (by decide)
              exact ⟨lt0, few_of (by omega) (by omega) (by decide) (by decide), few_of (by decide) (by decide) (by omega) (by omega), few_of (by omega) (by omega) (by omega) (by omega), lt0, rfl, _, i1, i2, rfl⟩
            rintro σ' H' ⟨rfl, y, y1, y2, rfl⟩
            refine ⟨fun σ' H' => H1 = H' ∧ ∃ y : Int, 0 ≤ y ∧ y < 4294967291 ∧ σ' = [some (.ref p), some (.int m), none, some (.int b), some (.int ((ns.map V.int).length : Int)), some (.int z), some (.int y)], ?_, ?_⟩
            · have ⟨i1, i2⟩ := mix2_b y b
              exact ⟨few_of (by omega) (by omega) (by omega) (by omega), few_of (by decide) (by decide) (by omega) (by omega), few_of (by decide) (by decide) (by omega) (by omega), lt0, rfl, _, i1, i2, rfl⟩
            rintro σ' H' ⟨rfl, u, u1, u2, rfl⟩
            refine ⟨fun σ' H' => H1 = H' ∧ ∃ y : Int, 0 ≤ y ∧ y < 4294967197 ∧ σ' = [some (.ref p), some (.int m), none, some (.int b), some (.int ((ns.map V.int).length : Int)), some (.int z), some (.int y)], ?_, ?_⟩
            · have ⟨i1, i2⟩ := mix3_b u
              exact ⟨few_of (by omega) (by omega) (by omega) (by omega), lt0, ⟨lt0, by decide⟩, rfl, _, i1, i2, rfl⟩
            rintro σ' H' ⟨rfl, x, x1, x2, rfl⟩
            -- the recursion
            refine ⟨fun σ' H' => But p H1 H' ∧ ∃ (y b' r' : Int), b + 1 ≤ b' ∧ b' ≤ b + n + 1 ∧ PenAt H' p c ns b' r' ∧ σ' = [some (.ref p), some (.int m), none, some (.int b), some (.int ((ns.map V.int).length : Int)), some (.int z), some (.int y)], iteD (fun h5 => ?_) (fun h5 => ⟨But.refl, x, b + 1, r, Int.le_refl _, by omega, P1, rfl⟩), ?_⟩
            · refine ⟨lt0, ⟨lt0, by decide⟩, ?_⟩
              cases n with
              | zero => exact absurd (show m ≤ 60000000 from mb) (by omega)
              | succ n =>
                have mb' : m ≤ 60000000 * (bigD n - 1) := mb
                refine ⟨c, ns, b + 1, r, P1, by omega, by omega, by omega, by omega, fun v b' r' H2 v0 v1 b1 b2 P2 s2 => ⟨few_of (by decide) (by decide) (by omega) (by omega), s2, _, b', r', b1, by omega, P2, rfl⟩⟩
            · rintro σ' H2 ⟨s2, y, b', r', b1, b2, P2, rfl⟩
              have ⟨e1, e2⟩ := pyMod_small (x := y) m0
              exact ⟨m0, k _ _ _ _ e1 e2 (by omega) (by omega) P2 (s1.trans s2)⟩
    · exact h.elim
abbrev sPick : Stmt := topS 16
abbrev nPick : List Str := ["_law_pen_here", "_law_options"]
abbrev pPick : List Str := ["_law_pen_here", "_law_options"]
theorem scPick : FnScope nPick pPick (defScope sPick) := ⟨rfl, rfl, rfl, by decide +kernel, rfl, by decide +kernel, by decide +kernel⟩
abbrev sAround : Stmt := topS 17
abbrev nAround : List Str := ["_law_pen_here", "_law_most"]
abbrev pAround : List Str := ["_law_pen_here", "_law_most"]
theorem scAround : FnScope nAround pAround (defScope sAround) := ⟨rfl, rfl, rfl, by decide +kernel, rfl, by decide +kernel, by decide +kernel⟩
abbrev sGreat : Stmt := topS 18
abbrev nGreat : List Str := ["_law_pen_here", "_law_most", "_law_some"]
abbrev pGreat : List Str := ["_law_pen_here", "_law_most"]
theorem scGreat : FnScope nGreat pGreat (defScope sGreat) := ⟨rfl, rfl, rfl, by decide +kernel, rfl, by decide +kernel, by decide +kernel⟩
theorem ok_dr (B : Blt mg) (F : FunAt K mg "_law_draw" sDraw pDraw) : DefOk P w K mg base CX0 5 "_law_draw" pDraw spDr := (ok_draw B F 5).imp fun _ _ _ _ => spDr_of
theorem ok_pick (B : Blt mg) (D : ∀ base, DefOk P w K mg base CX0 5 "_law_draw" pDraw spDr) (F : FunAt K mg "_law_pick" sPick pPick) : DefOk P w K mg base CX0 6 "_law_pick" pPick (spPick K) := by
  refine F.ok scPick (fun vs H Q E h => ?_) (fun f cdv A outer s H vs Q E hr h => ?_)
  · unfold spPick at h
    split at h
    · rfl
    · exact h.elim
  · have hu := hu_of hr
    refine ⟨_, (pss_one (ps_ret (pe_ix c_ixL (cv 1) (pe_def (D _) hr (by decide) (pa_cons (cv 0) (pa_cons (pe_callB c_lenL (by rfl) B.len (by decide +kernel) (pa_cons (cv 1) pa_nil)) pa_nil))) (fun _ _ => rfl)))), ?_⟩
    unfold spPick at h
    split at h
    · rename_i p a
      obtain ⟨k, xs, P, hx, l0, l1, q⟩ := h
      refine ⟨xs, .inl hx, k, P, by omega, by omega, fun v H' v0 v1 P' s' => ?_⟩
      obtain ⟨z, hz, e⟩ := atI_mem (xs := xs) v0 v1
      exact ⟨xs, z, s'.sq P hx, e, q z H' hz P' s'⟩
    · exact h.elim
theorem ok_around (B : Blt mg) (D : ∀ base, DefOk P w K mg base CX0 5 "_law_draw" pDraw spDr) (F : FunAt K mg "_law_around" sAround pAround) : DefOk P w K mg base CX0 6 "_law_around" pAround spAround := by
  refine F.ok scAround (fun vs H Q E h => ?_) (fun f cdv A outer s H vs Q E hr h => ?_)
  · unfold spAround at h
    split at h
    · rfl
    · exact h.elim
  · have hu := hu_of hr
    refine ⟨_, (pss_one (ps_ret (pe_op c_sub (pe_def (D _) hr (by decide) (pa_cons (cv 0) (pa_cons (pe_op c_addI (pe_op c_mul pe_int (cv 1)) pe_int) pa_nil))) (cv 1)))), ?_⟩
    unfold spAround at h
    split at h
    · rename_i p m
      obtain ⟨k, P, m0, m1, q⟩ := h
      refine ⟨few_of (by omega) (by omega) (by omega) (by omega), k, P, by omega, by omega, fun v H' v0 v1 P' s' => ?_⟩
      exact q _ H' (by omega) (by omega) P' s'
    · exact h.elim
theorem ok_great (B : Blt mg) (D : ∀ base, DefOk P w K mg base CX0 5 "_law_draw" pDraw spDr) (DA : ∀ base, DefOk P w K mg base CX0 6 "_law_around" pAround spAround) (DP : ∀ base, DefOk P w K mg base CX0 6 "_law_pick" pPick (spPick K))
    (F : FunAt K mg "_law_great" sGreat pGreat) : DefOk P w K mg base CX0 7 "_law_great" pGreat spGreat := by
  refine F.ok scGreat (fun vs H Q E h => ?_) (fun f cdv A outer s H vs Q E hr h => ?_)
  · unfold spGreat at h
    split at h
    · rfl
    · exact h.elim
  · have hu := hu_of hr
    refine ⟨_, (pss_cons (ps_set (i := 2) scGreat.nd rfl (.inl rfl) (pe_lst (pa_cons (pe_def (DA _) hr (by decide) (pa_cons (cv 0) (pa_cons pe_int pa_nil))) (pa_cons (pe_def (DA _) hr (by decide) (pa_cons (cv 0) (pa_cons (cv 1) pa_nil))) (pa_cons (pe_op c_sub (cv 1) (pe_def (D _) hr (by decide) (pa_cons (cv 0) (pa_cons pe_int pa_nil)))) (pa_cons (pe_op c_sub (pe_def (D _) hr (by decide) (pa_cons (cv 0) (pa_cons pe_int pa_nil))) (cv 1)) pa_nil))))))
  (pss_one (ps_ret (pe_callB (c_max rfl) (by rfl) B.max (by decide +kernel) (pa_cons (pe_op c_sub pe_int (cv 1)) (pa_cons (pe_callB (c_min rfl) (by rfl) B.min (by decide +kernel) (pa_cons (cv 1) (pa_cons (pe_def (DP _) hr (by decide) (pa_cons (cv 0) (pa_cons (cv 2) pa_nil))) pa_nil))) pa_nil)))))), ?_⟩
    unfold spGreat at h
    split at h
    · rename_i p m
      obtain ⟨k, P, m0, m1, q⟩ := h
      refine ⟨k + 20, P, by decide, by decide, fun v1 H1 a1 b1 P1 s1 => ⟨k + 15, P1, m0, m1, fun v2 H2 a2 b2 P2 s2 => ⟨k + 10, P2, by decide, by decide, fun v3 H3 a3 b3 P3 s3 => ⟨k + 5, P3, by decide, by decide, fun v4 H4 a4 b4 P4 s4 => ?_⟩⟩⟩⟩
      refine ⟨by show 4 ≤ sizeLine; decide, fun l hl => ?_⟩
      refine ⟨k, _, P4.same (same_new hl), SqL.of upd_same, by show 0 < 4; decide, by show 4 ≤ _; decide, fun v H5 hv P5 s5 => ?_⟩
      have hz : ∃ z : Int, v = .int z := by
        simp only [List.mem_cons, List.not_mem_nil, or_false] at hv
        rcases hv with rfl | rfl | rfl | rfl <;> exact ⟨_, rfl⟩
      obtain ⟨z, rfl⟩ := hz
      exact q _ H5 (by dsimp only; omega) (by dsimp only; omega) P5 ((((s1.trans s2).trans s3).trans s4).trans ((But.of (same_new hl)).trans s5))
    · exact h.elim
end
end K13

set_option Elab.async false
set_option linter.all false
set_option maxRecDepth 100000
set_option maxHeartbeats 4000000
namespace K13
open PySem PySem.Spec PyProof.Rows L2 CL
/-! ### what is an integer, a coordinate, an axis, a front -/
def isI : V → Bool
  | .int _ => true
  | _ => false
def coB : V → Bool
  | .int i => decide ((i.natAbs : Int) ≤ 1000000000000000000000000000000)
  | _ => false
def axB : V → Bool
  | .str s => inV (.str s) [.str "x", .str "y", .str "z"]
  | _ => false
def frB : V → Bool
  | .int i => inV (.int i) [.int 1, .int (-1)]
  | _ => false
def Bks (K : PySem.W.Frag) (H : Hp) (x : V) : Prop := ∃ k, BK K H x k
/-- for a test of any built-in value -/
def spIsI (K : PySem.W.Frag) : Sp := fun vs H Q _ => match vs with
  | [x] => Bks K H x ∧ Q (.bl (isI x)) H
  | _ => False
def spCo (K : PySem.W.Frag) : Sp := fun vs H Q _ => match vs with
  | [x] => Bks K H x ∧ Q (.bl (coB x)) H
  | _ => False
/-- the names of the package's built-ins, not rebound -/
structure BltP (mg : Str → Option Value) : Prop where
  isinstance : mg "isinstance" = none
  int : mg "int" = none
  bool : mg "bool" = none
  str : mg "str" = none
  abs : mg "abs" = none
  tuple : mg "tuple" = none
  ValueError : mg "ValueError" = none
section
variable {P : Program} {w : World} {K : PySem.W.Frag} {mg : Str → Option Value} {base : Heap}
abbrev sIsInt : Stmt := topS 8
abbrev nIsInt : List Str := ["value"]
abbrev pIsInt : List Str := ["value"]
theorem scIsInt : FnScope nIsInt pIsInt (defScope sIsInt) := ⟨rfl, rfl, rfl, by decide +kernel, rfl, by decide +kernel, by decide +kernel⟩
abbrev sIsCo : Stmt := topS 11
abbrev nIsCo : List Str := ["value"]
abbrev pIsCo : List Str := ["value"]
theorem scIsCo : FnScope nIsCo pIsCo (defScope sIsCo) := ⟨rfl, rfl, rfl, by decide +kernel, rfl, by decide +kernel, by decide +kernel⟩
abbrev sAxI : Stmt := inClass (topS 1) 0
abbrev nAxI : List Str := ["self", "value"]
abbrev pAxI : List Str := ["self", "value"]
theorem scAxI : FnScope nAxI pAxI (defScope sAxI) := ⟨rfl, rfl, rfl, by decide +kernel, rfl, by decide +kernel, by decide +kernel⟩
abbrev sNumI : Stmt := inClass (topS 2) 0
abbrev nNumI : List Str := ["self", "value"]
abbrev pNumI : List Str := ["self", "value"]
theorem scNumI : FnScope nNumI pNumI (defScope sNumI) := ⟨rfl, rfl, rfl, by decide +kernel, rfl, by decide +kernel, by decide +kernel⟩
abbrev sFroI : Stmt := inClass (topS 4) 0
abbrev nFroI : List Str := ["self", "value"]
abbrev pFroI : List Str := ["self", "value"]
theorem scFroI : FnScope nFroI pFroI (defScope sFroI) := ⟨rfl, rfl, rfl, by decide +kernel, rfl, by decide +kernel, by decide +kernel⟩
abbrev sBndI : Stmt := inClass (topS 3) 0
abbrev nBndI : List Str := ["self"]
abbrev pBndI : List Str := ["self"]
theorem scBndI : FnScope nBndI pBndI (defScope sBndI) := ⟨rfl, rfl, rfl, by decide +kernel, rfl, by decide +kernel, by decide +kernel⟩
theorem ok_isint (B : BltP mg) (F : FunAt K mg "is_integer" sIsInt pIsInt) : DefOk P w K mg base CX0 1 "is_integer" pIsInt (spIsI K) := by
  refine F.ok scIsInt (fun vs H Q E h => ?_) (fun f cdv A outer s H vs Q E hr h => ?_)
  · unfold spIsI at h
    split at h
    · rfl
    · exact h.elim
  · refine ⟨_, (pss_one (ps_ret (c_and (pe_isi (m := .int) (by decide +kernel) B.isinstance B.int (by rfl) (by rfl) (cv 0)) (pe_one (c_not (pe_isi (m := .bool) (by decide +kernel) B.isinstance B.bool (by rfl) (by rfl) (cv 0))))))), ?_⟩
    unfold spIsI at h
    split at h
    · rename_i x
      obtain ⟨⟨k, hk⟩, q⟩ := h
      cases hk with
      | lst h => exact ⟨_, .lst h, q⟩
      | tup h => exact ⟨_, .tup h, q⟩
      | dic h => exact ⟨_, .dic h, q⟩
      | _ => exact q
    · exact h.elim
theorem ok_isco (B : BltP mg) (D : ∀ base, DefOk P w K mg base CX0 1 "is_integer" pIsInt (spIsI K)) {tl : Tok} (L : mg "LIMIT" = some (.int 1000000000000000000000000000000 tl)) (F : FunAt K mg "is_coordinate" sIsCo pIsCo) : DefOk P w K mg base CX0 2 "is_coordinate" pIsCo (spCo K) := by
  refine F.ok scIsCo (fun vs H Q E h => ?_) (fun f cdv A outer s H vs Q E hr h => ?_)
  · unfold spCo at h
    split at h
    · rfl
    · exact h.elim
  · refine ⟨_, (pss_one (ps_ret (c_and (pe_def (D _) hr (by decide) (pa_cons (cv 0) pa_nil)) (pe_one (pe_cmpR c_le (pe_callB c_abs (by rfl) B.abs (by decide +kernel) (pa_cons (cv 0) pa_nil)) (pe_glob (v := .int 1000000000000000000000000000000) (by rfl) L ⟨tl, rfl⟩) (nomark _)))))), ?_⟩
    unfold spCo at h
    split at h
    · rename_i x
      obtain ⟨⟨k, hk⟩, q⟩ := h
      refine ⟨⟨k, hk⟩, ?_⟩
      cases hk <;> exact q
    · exact h.elim
/-! ### the errors -/
abbrev VeInit (K : PySem.W.Frag) : Prop := PySem.W.findCls K (.type "ValueError") (.type "type") "__init__" = some (.val (.builtin "ValueError.__init__"))
theorem ok_AxI {C fI : Addr} {fd : FuncData} (hV : mg "ValueError" = none) (vV : VeInit K) (ox : OexC K C) (nv : PySem.W.findIn K (.ref C) "value" = some none) (F : Fun K "__init__" "InvalidAxis.__init__" sAxI fI fd) :
    FnOk P w K mg base CX0 1 fI fd ["self", "value"] (spErr C "value") := by
  refine F.ok scAxI (fun vs H Q E h => ?_) (fun cdv A outer s H vs Q E hr h => ?_)
  · unfold spErr at h
    split at h
    · rfl
    · exact h.elim
  · refine ⟨_, (pss_cons (ps_expr (pe_veinit (by rfl) hV vV (pa_cons (cv 0) (pa_cons pe_str pa_nil))))
  (pss_one (ps_ost (cv 0) (cv 1)))), ?_⟩
    unfold spErr at h
    split at h
    · rename_i a v
      obtain ⟨ha, q⟩ := h
      exact ⟨a, C, _, rfl, by show (1 : Nat) ≤ 1000; decide, ox, ha, a, C, rfl, ox, nv, .inl ⟨ha, q⟩⟩
    · exact h.elim
theorem ok_NumI {C fI : Addr} {fd : FuncData} (hV : mg "ValueError" = none) (vV : VeInit K) (ox : OexC K C) (nv : PySem.W.findIn K (.ref C) "value" = some none) (F : Fun K "__init__" "InvalidNumber.__init__" sNumI fI fd) :
    FnOk P w K mg base CX0 1 fI fd ["self", "value"] (spErr C "value") := by
  refine F.ok scNumI (fun vs H Q E h => ?_) (fun cdv A outer s H vs Q E hr h => ?_)
  · unfold spErr at h
    split at h
    · rfl
    · exact h.elim
  · refine ⟨_, (pss_cons (ps_expr (pe_veinit (by rfl) hV vV (pa_cons (cv 0) (pa_cons pe_str pa_nil))))
  (pss_one (ps_ost (cv 0) (cv 1)))), ?_⟩
    unfold spErr at h
    split at h
    · rename_i a v
      obtain ⟨ha, q⟩ := h
      exact ⟨a, C, _, rfl, by show (1 : Nat) ≤ 1000; decide, ox, ha, a, C, rfl, ox, nv, .inl ⟨ha, q⟩⟩
    · exact h.elim
theorem ok_FroI {C fI : Addr} {fd : FuncData} (hV : mg "ValueError" = none) (vV : VeInit K) (ox : OexC K C) (nv : PySem.W.findIn K (.ref C) "value" = some none) (F : Fun K "__init__" "InvalidFront.__init__" sFroI fI fd) :
    FnOk P w K mg base CX0 1 fI fd ["self", "value"] (spErr C "value") := by
  refine F.ok scFroI (fun vs H Q E h => ?_) (fun cdv A outer s H vs Q E hr h => ?_)
  · unfold spErr at h
    split at h
    · rfl
    · exact h.elim
  · refine ⟨_, (pss_cons (ps_expr (pe_veinit (by rfl) hV vV (pa_cons (cv 0) (pa_cons pe_str pa_nil))))
  (pss_one (ps_ost (cv 0) (cv 1)))), ?_⟩
    unfold spErr at h
    split at h
    · rename_i a v
      obtain ⟨ha, q⟩ := h
      exact ⟨a, C, _, rfl, by show (1 : Nat) ≤ 1000; decide, ox, ha, a, C, rfl, ox, nv, .inl ⟨ha, q⟩⟩
    · exact h.elim
theorem ok_BndI {C fI : Addr} {fd : FuncData} (hV : mg "ValueError" = none) (vV : VeInit K) (ox : OexC K C) (F : Fun K "__init__" "OutOfBounds.__init__" sBndI fI fd) :
    FnOk P w K mg base CX0 1 fI fd ["self"] (spErr0 C) := by
  refine F.ok scBndI (fun vs H Q E h => ?_) (fun cdv A outer s H vs Q E hr h => ?_)
  · unfold spErr0 at h
    split at h
    · rfl
    · exact h.elim
  · refine ⟨_, (pss_one (ps_expr (pe_veinit (by rfl) hV vV (pa_cons (cv 0) (pa_cons pe_str pa_nil))))), ?_⟩
    unfold spErr0 at h
    split at h
    · rename_i a
      obtain ⟨ha, q⟩ := h
      exact ⟨a, C, _, rfl, by show (1 : Nat) ≤ 1000; decide, ox, ha, q⟩
    · exact h.elim
end
end K13

set_option Elab.async false
set_option linter.all false
set_option maxRecDepth 100000
set_option maxHeartbeats 4000000
namespace K13
open PySem PySem.Spec PyProof.Rows L2 CL
/-- the addresses of the package's things -/
structure Ad where
  pl : Addr
  fI : Addr
  aX : Addr
  aN : Addr
  aF : Addr
  aB : Addr
  dd : Addr
  dx : Addr
  dy : Addr
  dz : Addr
  axs : Addr
def Ad.dir (c : Ad) : V → V
  | .str s => if s = "x" then .ref c.dx else if s = "y" then .ref c.dy else .ref c.dz
  | _ => .non
/-- nothing but a is altered -/
def Onl (a : Addr) (H H' : Hp) : Prop := ∀ b o, b ≠ a → H b = some o → H' b = some o
theorem Onl.upd {a : Addr} {H : Hp} {o : HO} : Onl a H (upd H a o) := fun b o h z => by rw [upd_ne h]; exact z
theorem Onl.trans {a : Addr} {H H1 H2 : Hp} (x : Onl a H H1) (y : Onl a H1 H2) : Onl a H H2 := fun b o h z => y b o h (x b o h z)
theorem Onl.of {a : Addr} {H H' : Hp} (x : Same H H') : Onl a H H' := fun b o _ z => x b o z
theorem putF_le {f : Str} {v : V} : ∀ {fs : List (Str × V)} {n : Nat}, fs.length ≤ n → (putF f v fs).length ≤ n + 1
  | [], n, _ => by show 1 ≤ n + 1; omega
  | (g, x) :: r, n, h => by
    unfold putF
    split
    · exact Nat.le_succ_of_le h
    · cases n with
      | zero => exact absurd h (by simp)
      | succ n => exact Nat.succ_le_succ (putF_le (Nat.le_of_succ_le_succ h))
def plF (x y z d : V) : List (Str × V) := putF "directions" d (putF "front" z (putF "at" y (putF "axis" x [])))
theorem plF_at (x y z d : V) : (plF x y z d).lookup ("axis" : Str) = some x ∧ (plF x y z d).lookup ("at" : Str) = some y ∧ (plF x y z d).lookup ("front" : Str) = some z ∧ (plF x y z d).lookup ("directions" : Str) = some d ∧
    (plF x y z d).lookup ("point_at" : Str) = none := by
  unfold plF
  refine ⟨?_, ?_, ?_, ?_, ?_⟩ <;> simp only [lookup_putF] <;> rfl
/-- the error of a class with the value -/
def errW (C : Addr) (v : V) (H : Hp) (E : XK) : Prop := ∀ d H2, H d = none → Same H H2 → H2 d = some (.xd [("value", v)]) → E (.ref C) (some d) H2
def plWay (c : Ad) (x y z : V) (H : Hp) (ok : Prop) (E : XK) : Prop :=
  if axB x = true then if coB y = true then if frB z = true then ok else errW c.aF z H E else errW c.aN y H E else errW c.aX x H E
def spInit (K : PySem.W.Frag) (c : Ad) : Sp := fun vs H Q E => match vs with
  | [.ref a, x, y, z] => (∃ dx, H a = some (.ins c.pl dx []) ∧ Bks K H x ∧ Bks K H y ∧ Bks K H z ∧
    plWay c x y z H (∀ H', Onl a H H' → H' a = some (.ins c.pl dx (plF x y z (c.dir x))) → Q .non H') E)
  | _ => False
structure Tx (P : Program) (w : World) (K : PySem.W.Frag) (mg : Str → Option Value) (base : Heap) (c : Ad) : Prop where
  B : BltP mg
  lim : ∃ tl, mg "LIMIT" = some (.int 1000000000000000000000000000000 tl)
  axg : mg "AXES" = some (.ref c.axs)
  axt : ∀ H, SqT K H c.axs [.str "x", .str "y", .str "z"]
  dig : mg "DIRECTIONS" = some (.ref c.dd)
  kx : KDct K w c.dd "x" (.ref c.dx)
  ky : KDct K w c.dd "y" (.ref c.dy)
  kz : KDct K w c.dd "z" (.ref c.dz)
  tx : ∀ H, SqT K H c.dx [.str "y", .str "z"]
  ty : ∀ H, SqT K H c.dy [.str "z", .str "x"]
  tz : ∀ H, SqT K H c.dz [.str "x", .str "y"]
  eX : ErrC P w K mg base "InvalidAxis" c.aX "value"
  eN : ErrC P w K mg base "InvalidNumber" c.aN "value"
  eF : ErrC P w K mg base "InvalidFront" c.aF "value"
  eB : ErrC0 P w K mg base "OutOfBounds" c.aB
  isI : DefOk P w K mg base CX0 1 "is_integer" ["value"] (spIsI K)
  isC : DefOk P w K mg base CX0 2 "is_coordinate" ["value"] (spCo K)
  own : OwnC K c.pl
  plg : mg "Plane" = some (.ref c.pl)
  mkp : Mk K c.pl c.fI
  nA : NoAttr K c.pl "axis"
  nT : NoAttr K c.pl "at"
  nF : NoAttr K c.pl "front"
  nD : NoAttr K c.pl "directions"
theorem axB_str {s : Str} (h : axB (.str s) = true) : s = "x" ∨ s = "y" ∨ s = "z" := by
  simp only [axB, inV, List.any_cons, List.any_nil, Bool.or_false, eqV, Bool.or_eq_true, beq_iff_eq] at h
  rcases h with h | h | h
  · exact .inl h.symm
  · exact .inr (.inl h.symm)
  · exact .inr (.inr h.symm)
theorem Tx.kd {P : Program} {w : World} {K : PySem.W.Frag} {mg : Str → Option Value} {base : Heap} {c : Ad} (T : Tx P w K mg base c) {s : Str} (h : axB (.str s) = true) : KDct K w c.dd s (c.dir (.str s)) := by
  rcases axB_str h with rfl | rfl | rfl
  · exact T.kx
  · exact T.ky
  · exact T.kz
theorem _root_.CL.BK.int_of {K : PySem.W.Frag} {H : Hp} {x : V} {k : BT} (h : BK K H x k) (e : isI x = true) : ∃ i, x = .int i := by
  cases h <;> first | exact ⟨_, rfl⟩ | exact absurd e Bool.false_ne_true
section
variable {P : Program} {w : World} {K : PySem.W.Frag} {mg : Str → Option Value} {base : Heap} {c : Ad}
abbrev sPlI : Stmt := inClass (topS 12) 0
abbrev nPlI : List Str := ["self", "axis", "at", "front"]
abbrev pPlI : List Str := ["self", "axis", "at", "front"]
theorem scPlI : FnScope nPlI pPlI (defScope sPlI) := ⟨rfl, rfl, rfl, by decide +kernel, rfl, by decide +kernel, by decide +kernel⟩
theorem ok_PlI {fI : Addr} {fd : FuncData} {qual : Str} (T : Tx P w K mg base c) {dvs : List V} {kws : List (Str × V)} (F : FunD K "__init__" "Plane.__init__" (defArgs sPlI) (defBody sPlI) (defScope sPlI) dvs kws fI fd) :
    FnOk P w K mg base (L2.CX P w) 4 fI fd pPlI (spInit K c) := by
  have B := T.B
  obtain ⟨tl, hL⟩ := T.lim
  refine F.ok scPlI (fun vs H Q E h => ?_) (fun cdv A outer s H vs Q E hr h => ?_)
  · unfold spInit at h
    split at h
    · rfl
    · exact h.elim
  · refine ⟨_, (pss_cons (ps_if (PW.pt (pw_or (pt_not (ct_val (pe_isi (m := .str) (by decide +kernel) B.isinstance B.str (by rfl) (by rfl) (cv 1)))) (pw_or1 (ct_cmp op_notIn_seq (cv 1) (pe_glob (v := .ref c.axs) (by rfl) T.axg rfl) (by rfl)))))
  (pss_one (ps_raise1 T.eX rfl (hr.mono (by decide)) (L2.takes_of rfl rfl rfl rfl) (cv 1)))
  pss_nil)
  (pss_cons (ps_if (pt_not (ct_val (pe_def T.isC hr (by decide) (pa_cons (cv 2) pa_nil))))
  (pss_one (ps_raise1 T.eN rfl (hr.mono (by decide)) (L2.takes_of rfl rfl rfl rfl) (cv 2)))
  pss_nil)
  (pss_cons (ps_if (PW.pt (pw_or (pt_not (ct_val (pe_def T.isI hr (by decide) (pa_cons (cv 3) pa_nil)))) (pw_or1 (ct_cmp op_notIn_seq (cv 3) (pe_tup (pa_cons pe_int (pa_cons (pe_un c_neg pe_int) pa_nil))) (by rfl)))))
  (pss_one (ps_raise1 T.eF rfl (hr.mono (by decide)) (L2.takes_of rfl rfl rfl rfl) (cv 3)))
  pss_nil)
  (pss_cons (ps_fld (cv 0) (cv 1) rfl)
  (pss_cons (ps_fld (cv 0) (cv 2) rfl)
  (pss_cons (ps_fld (cv 0) (cv 3) rfl)
  (pss_one (ps_fld (cv 0) (pe_ix ix_kdict (pe_glob (v := .ref c.dd) (by rfl) T.dig rfl) (cv 1) (fun _ _ => rfl)) rfl)))))))), ?_⟩
    unfold spInit at h
    split at h
    · rename_i a x y z
      obtain ⟨dx, ha, ⟨kx, hx⟩, ⟨ky, hy⟩, ⟨kz, hz⟩, q⟩ := h
      unfold plWay at q
      cases hx with
      | str s =>
        refine ⟨c.axs, _, rfl, .inr (T.axt _), rfl, rfl, ?_⟩
        show if (!(axB (.str s))) = true then _ else _
        cases hax : axB (.str s) with
        | false =>
          rw [hax] at q
          exact q
        | true =>
          rw [hax] at q
          refine ⟨⟨ky, hy⟩, ?_⟩
          show if (!(coB y)) = true then _ else _
          cases hco : coB y with
          | false =>
            rw [hco] at q
            exact q
          | true =>
            rw [hco] at q
            refine ⟨⟨kz, hz⟩, ?_⟩
            show if (!(isI z)) = true then _ else _
            cases hi : isI z with
            | false =>
              have : frB z = false := by cases hz <;> first | rfl | exact absurd hi (by simp [isI])
              rw [this] at q
              exact q
            | true =>
              obtain ⟨i, rfl⟩ := hz.int_of hi
              refine ⟨by show 2 ≤ sizeLine; decide, fun p hp => ⟨p, _, rfl, .inr (.inl (.inl upd_same)), rfl, rfl, ?_⟩⟩
              have sn := same_new (o := .tup [.int 1, .int (-1)]) hp
              show if (!(frB (.int i))) = true then _ else _
              cases hf : frB (.int i) with
              | false =>
                rw [hf] at q
                exact fun d H2 hd s2 e => q d H2 (sn.free hd) (sn.trans s2) e
              | true =>
                rw [hf] at q
                have ha1 := sn a _ ha
                refine ⟨a, c.pl, dx, _, rfl, ha1, T.own.cl, T.nA, by decide, a, c.pl, dx, _, rfl, upd_same, T.own.cl, T.nT, Nat.lt_of_le_of_lt (putF_le (n := 0) (Nat.le_refl _)) (by decide), a, c.pl, dx, _, rfl, upd_same, T.own.cl, T.nF, Nat.lt_of_le_of_lt (putF_le (n := 1) (putF_le (n := 0) (Nat.le_refl _))) (by decide), ?_⟩
                refine ⟨c.dd, s, c.dir (.str s), rfl, rfl, T.kd hax, a, c.pl, dx, _, rfl, upd_same, T.own.cl, T.nD, Nat.lt_of_le_of_lt (putF_le (n := 2) (putF_le (n := 1) (putF_le (n := 0) (Nat.le_refl _)))) (by decide), ?_⟩
                exact q _ ((Onl.of sn).trans (Onl.upd.trans (Onl.upd.trans (Onl.upd.trans Onl.upd)))) upd_same
      | lst h => exact ⟨_, .lst h, q⟩
      | tup h => exact ⟨_, .tup h, q⟩
      | dic h => exact ⟨_, .dic h, q⟩
      | _ => exact q
    · exact h.elim
end
end K13

set_option Elab.async false
set_option linter.all false
set_option maxRecDepth 100000
set_option maxHeartbeats 4000000
namespace K13
open PySem PySem.Spec PyProof.Rows L2 CL
/-- a plane in the heap -/
def IsPl (c : Ad) (H : Hp) (a : Addr) (x y z : V) : Prop := ∃ dx, H a = some (.ins c.pl dx (plF x y z (c.dir x)))
def ptOf (s : Str) (y u v : V) : List V := if s = "x" then [y, u, v] else if s = "y" then [v, y, u] else [u, v, y]
def spPt (K : PySem.W.Frag) (c : Ad) : Sp := fun vs H Q _ => match vs with
  | [.ref a, u, v] => ∃ s y z, IsPl c H a (.str s) y z ∧ axB (.str s) = true ∧ ∀ p H', Same H H' → SqT K H' p (ptOf s y u v) → Q (.ref p) H'
  | _ => False
theorem dget_of {H : Hp} {a : Addr} {kvs : List (Key × V)} {k : Key} {v : V} (e : H a = some (.dK kvs)) (h : valV kvs k = some v) : DGet H a (kV k) (some v) := h ▸ DGet.k e
section
variable {P : Program} {w : World} {K : PySem.W.Frag} {mg : Str → Option Value} {base : Heap} {c : Ad}
abbrev sPlP : Stmt := inClass (topS 12) 1
abbrev nPlP : List Str := ["self", "u", "v", "first", "second", "found", "axis"]
abbrev pPlP : List Str := ["self", "u", "v"]
theorem scPlP : FnScope nPlP pPlP (defScope sPlP) := ⟨rfl, rfl, rfl, by decide +kernel, rfl, by decide +kernel, by decide +kernel⟩
theorem ok_PlP {f : Addr} {fd : FuncData} (T : Tx P w K mg base c) (F : Fun K "point_at" "Plane.point_at" sPlP f fd) : FnOk P w K mg base CX0 1 f fd pPlP (spPt K c) := by
  have B := T.B
  refine F.ok scPlP (fun vs H Q E h => ?_) (fun cdv A outer s H vs Q E hr h => ?_)
  · unfold spPt at h
    split at h
    · rfl
    · exact h.elim
  · have hu := hu_of hr
    refine ⟨_, (pss_cons (ps_asg (pe_fld (cv 0) rfl) (pg_tup (by rfl) (pgs_cons (pg_name (i := 3) scPlP.nd rfl (.inl rfl)) (pgs_cons (pg_name (i := 4) scPlP.nd rfl (.inl rfl)) pgs_nil))))
  (pss_cons (ps_set (i := 5) scPlP.nd rfl (.inr rfl) (pe_disp (pps_cons (pe_fld (cv 0) rfl) (pe_fld (cv 0) rfl) (pps_cons (cv 3) (cv 1) (pps_cons (cv 4) (cv 2) pps_nil))) (by rfl) (by rfl) (by simp) (by decide)))
  (pss_one (ps_ret (pe_callTy call_tuple_of (by rfl) B.tuple (by decide +kernel) (pa_cons (pe_lc (own := [("axis", 6)]) (g := gName 6) (by rfl) scPlP.nd (pi_tup (pe_glob (v := .ref c.axs) (by rfl) T.axg rfl)) (blkOk_by (N := nPlP) (sc := (defScope sPlP)) (own := [("axis", 6)]) (by decide +kernel)) (fun _ _ _ _ _ => pg_name (i := 6) scPlP.nd rfl (Or.inl rfl)) (fun _ _ _ _ _ => pts_nil) (fun _ _ _ _ _ => (pe_dget hu (cv 5) (cv 6) (fun _ _ => rfl)))) pa_nil)))))), ?_⟩
    unfold spPt at h
    split at h
    · rename_i a u v
      obtain ⟨s, y, z, ⟨dx, ha⟩, hs, q⟩ := h
      obtain ⟨l1, l2, l3, l4, _⟩ := plF_at (.str s) y z (c.dir (.str s))
      rcases axB_str hs with rfl | rfl | rfl
      · refine ⟨a, c.pl, dx, _, _, rfl, ha, T.own.cl, T.nD, l4, c.dx, _, rfl, T.tx _, rfl, _, _, rfl, _, _, rfl, rfl, fun p hp => ?_⟩
        have sn := same_new (o := .dK []) hp
        refine ⟨a, c.pl, dx, _, _, rfl, sn a _ ha, T.own.cl, T.nA, l1, a, c.pl, dx, _, _, rfl, sn a _ ha, T.own.cl, T.nT, l2, ?_⟩
        refine ⟨upd_same, [(.inr "x", y), (.inr "y", u), (.inr "z", v)], rfl, by show 3 ≤ 15; decide, ?_⟩
        refine ⟨c.axs, rfl, ⟨_, T.axt _⟩, fun D hD => ?_⟩
        refine lc_tup (xs := [.str "x", .str "y", .str "z"]) (Pv := fun i H' => H' p = some (.dK [(.inr "x", y), (.inr "y", u), (.inr "z", v)]) ∧ H' D = some (.lst ([y, u, v].take i)) ∧ Same H H') ⟨?_, upd_same, ?_⟩ (fun _ _ _ _ => T.axt _) (fun i x H' hx hP => ?_) (fun H' hP => ?_)
        · have : p ≠ D := ne_of_none upd_same hD
          rw [upd_ne this, upd_same]
          rfl
        · exact fun b o z => by
            have hb : b ≠ p := ne_of_none z hp
            have hb2 : b ≠ D := ne_of_none (H := upd (upd H p (.dK [])) p _) (by rw [upd_ne hb, upd_ne hb]; exact z) hD
            rw [upd_ne hb2, upd_ne hb, upd_ne hb]; exact z
        · obtain ⟨h1, h2, h3⟩ := hP
          have pD : p ≠ D := ne_of_none upd_same hD
          have fin : ∀ (ys : List V), Same H (upd H' D (.lst ys)) := fun ys b o z => by
            have hb : b ≠ p := ne_of_none z hp
            have hb2 : b ≠ D := ne_of_none (H := upd (upd H p (.dK [])) p _) (by rw [upd_ne hb, upd_ne hb]; exact z) hD
            rw [upd_ne hb2]; exact h3 b o z
          rcases i with _ | _ | _ | i
          · cases hx
            exact ⟨rfl, p, y, rfl, (dget_of (k := .inr "x") h1 (by rfl)), [], h2, by decide, by rw [upd_ne pD]; exact h1, upd_same, fin _⟩
          · cases hx
            exact ⟨rfl, p, u, rfl, (dget_of (k := .inr "y") h1 (by rfl)), _, h2, by show 1 < sizeLine; decide, by rw [upd_ne pD]; exact h1, upd_same, fin _⟩
          · cases hx
            exact ⟨rfl, p, v, rfl, (dget_of (k := .inr "z") h1 (by rfl)), _, h2, by show 2 < sizeLine; decide, by rw [upd_ne pD]; exact h1, upd_same, fin _⟩
          · cases hx
        · obtain ⟨h1, h2, h3⟩ := hP
          refine ⟨D, _, rfl, .inl ⟨SqL.of h2, fun l hl => ?_⟩⟩
          exact q l _ (h3.trans (same_new hl)) (.inl (.inl upd_same))
      · refine ⟨a, c.pl, dx, _, _, rfl, ha, T.own.cl, T.nD, l4, c.dy, _, rfl, T.ty _, rfl, _, _, rfl, _, _, rfl, rfl, fun p hp => ?_⟩
        have sn := same_new (o := .dK []) hp
        refine ⟨a, c.pl, dx, _, _, rfl, sn a _ ha, T.own.cl, T.nA, l1, a, c.pl, dx, _, _, rfl, sn a _ ha, T.own.cl, T.nT, l2, ?_⟩
        refine ⟨upd_same, [(.inr "y", y), (.inr "z", u), (.inr "x", v)], rfl, by show 3 ≤ 15; decide, ?_⟩
        refine ⟨c.axs, rfl, ⟨_, T.axt _⟩, fun D hD => ?_⟩
        refine lc_tup (xs := [.str "x", .str "y", .str "z"]) (Pv := fun i H' => H' p = some (.dK [(.inr "y", y), (.inr "z", u), (.inr "x", v)]) ∧ H' D = some (.lst ([v, y, u].take i)) ∧ Same H H') ⟨?_, upd_same, ?_⟩ (fun _ _ _ _ => T.axt _) (fun i x H' hx hP => ?_) (fun H' hP => ?_)
        · have : p ≠ D := ne_of_none upd_same hD
          rw [upd_ne this, upd_same]
          rfl
        · exact fun b o z => by
            have hb : b ≠ p := ne_of_none z hp
            have hb2 : b ≠ D := ne_of_none (H := upd (upd H p (.dK [])) p _) (by rw [upd_ne hb, upd_ne hb]; exact z) hD
            rw [upd_ne hb2, upd_ne hb, upd_ne hb]; exact z
        · obtain ⟨h1, h2, h3⟩ := hP
          have pD : p ≠ D := ne_of_none upd_same hD
          have fin : ∀ (ys : List V), Same H (upd H' D (.lst ys)) := fun ys b o z => by
            have hb : b ≠ p := ne_of_none z hp
            have hb2 : b ≠ D := ne_of_none (H := upd (upd H p (.dK [])) p _) (by rw [upd_ne hb, upd_ne hb]; exact z) hD
            rw [upd_ne hb2]; exact h3 b o z
          rcases i with _ | _ | _ | i
          · cases hx
            exact ⟨rfl, p, v, rfl, (dget_of (k := .inr "x") h1 (by rfl)), [], h2, by decide, by rw [upd_ne pD]; exact h1, upd_same, fin _⟩
          · cases hx
            exact ⟨rfl, p, y, rfl, (dget_of (k := .inr "y") h1 (by rfl)), _, h2, by show 1 < sizeLine; decide, by rw [upd_ne pD]; exact h1, upd_same, fin _⟩
          · cases hx
            exact ⟨rfl, p, u, rfl, (dget_of (k := .inr "z") h1 (by rfl)), _, h2, by show 2 < sizeLine; decide, by rw [upd_ne pD]; exact h1, upd_same, fin _⟩
          · cases hx
        · obtain ⟨h1, h2, h3⟩ := hP
          refine ⟨D, _, rfl, .inl ⟨SqL.of h2, fun l hl => ?_⟩⟩
          exact q l _ (h3.trans (same_new hl)) (.inl (.inl upd_same))
      · refine ⟨a, c.pl, dx, _, _, rfl, ha, T.own.cl, T.nD, l4, c.dz, _, rfl, T.tz _, rfl, _, _, rfl, _, _, rfl, rfl, fun p hp => ?_⟩
        have sn := same_new (o := .dK []) hp
        refine ⟨a, c.pl, dx, _, _, rfl, sn a _ ha, T.own.cl, T.nA, l1, a, c.pl, dx, _, _, rfl, sn a _ ha, T.own.cl, T.nT, l2, ?_⟩
        refine ⟨upd_same, [(.inr "z", y), (.inr "x", u), (.inr "y", v)], rfl, by show 3 ≤ 15; decide, ?_⟩
        refine ⟨c.axs, rfl, ⟨_, T.axt _⟩, fun D hD => ?_⟩
        refine lc_tup (xs := [.str "x", .str "y", .str "z"]) (Pv := fun i H' => H' p = some (.dK [(.inr "z", y), (.inr "x", u), (.inr "y", v)]) ∧ H' D = some (.lst ([u, v, y].take i)) ∧ Same H H') ⟨?_, upd_same, ?_⟩ (fun _ _ _ _ => T.axt _) (fun i x H' hx hP => ?_) (fun H' hP => ?_)
        · have : p ≠ D := ne_of_none upd_same hD
          rw [upd_ne this, upd_same]
          rfl
        · exact fun b o z => by
            have hb : b ≠ p := ne_of_none z hp
            have hb2 : b ≠ D := ne_of_none (H := upd (upd H p (.dK [])) p _) (by rw [upd_ne hb, upd_ne hb]; exact z) hD
            rw [upd_ne hb2, upd_ne hb, upd_ne hb]; exact z
        · obtain ⟨h1, h2, h3⟩ := hP
          have pD : p ≠ D := ne_of_none upd_same hD
          have fin : ∀ (ys : List V), Same H (upd H' D (.lst ys)) := fun ys b o z => by
            have hb : b ≠ p := ne_of_none z hp
            have hb2 : b ≠ D := ne_of_none (H := upd (upd H p (.dK [])) p _) (by rw [upd_ne hb, upd_ne hb]; exact z) hD
            rw [upd_ne hb2]; exact h3 b o z
          rcases i with _ | _ | _ | i
          · cases hx
            exact ⟨rfl, p, u, rfl, (dget_of (k := .inr "x") h1 (by rfl)), [], h2, by decide, by rw [upd_ne pD]; exact h1, upd_same, fin _⟩
          · cases hx
            exact ⟨rfl, p, v, rfl, (dget_of (k := .inr "y") h1 (by rfl)), _, h2, by show 1 < sizeLine; decide, by rw [upd_ne pD]; exact h1, upd_same, fin _⟩
          · cases hx
            exact ⟨rfl, p, y, rfl, (dget_of (k := .inr "z") h1 (by rfl)), _, h2, by show 2 < sizeLine; decide, by rw [upd_ne pD]; exact h1, upd_same, fin _⟩
          · cases hx
        · obtain ⟨h1, h2, h3⟩ := hP
          refine ⟨D, _, rfl, .inl ⟨SqL.of h2, fun l hl => ?_⟩⟩
          exact q l _ (h3.trans (same_new hl)) (.inl (.inl upd_same))
    · exact h.elim
end
end K13

set_option Elab.async false
set_option linter.all false
set_option maxRecDepth 100000
set_option maxHeartbeats 4000000
namespace K13
open PySem PySem.Spec PyProof.Rows L2 CL
def spEq (K : PySem.W.Frag) (c : Ad) : Sp := fun vs H Q _ => match vs with
  | [.ref a, y] => ∃ s i j, axB (.str s) = true ∧ IsPl c H a (.str s) (.int i) (.int j) ∧ ((∃ b s' i' j', axB (.str s') = true ∧ y = .ref b ∧ IsPl c H b (.str s') (.int i') (.int j') ∧ ∀ H', Same H H' → Q (.bl (decide (s = s' ∧ i = i' ∧ j = j'))) H') ∨ (Bks K H y ∧ Q (.bl false) H))
  | _ => False
/-- what a new plane is -/
def NewPl (c : Ad) (H : Hp) (x y z : V) (Q : VK) : Prop := ∀ p H', Same H H' → H p = none → IsPl c H' p x y z → Q (.ref p) H'
def spNeg (c : Ad) : Sp := fun vs H Q _ => match vs with
  | [.ref a] => ∃ s i j, IsPl c H a (.str s) (.int i) (.int j) ∧ axB (.str s) = true ∧ coB (.int i) = true ∧ frB (.int j) = true ∧ NewPl c H (.str s) (.int i) (.int (-j)) Q
  | _ => False
def spAdd (K : PySem.W.Frag) (c : Ad) : Sp := fun vs H Q E => match vs with
  | [.ref a, y] => ∃ s i j, IsPl c H a (.str s) (.int i) (.int j) ∧ axB (.str s) = true ∧ coB (.int i) = true ∧ frB (.int j) = true ∧ Bks K H y ∧
    (match y with
      | .int n => (-(10 ^ 95) ≤ n ∧ n ≤ 10 ^ 95) ∧ (if coB (.int (i + j * n)) = true then NewPl c H (.str s) (.int (i + j * n)) (.int j) Q else ∀ H2, Same H H2 → E (.ref c.aB) none H2)
      | y => errW c.aN y H E)
  | _ => False
theorem eqv3 {s s' : Str} {i i' j j' : Int} : PyData.eqv (.tuple [.str s, .int i, .int j]) (.tuple [.str s', .int i', .int j']) = decide (s = s' ∧ i = i' ∧ j = j') := by
  rw [Bool.eq_iff_iff]
  simp [PyData.eqv, PyData.eqvAll]
theorem shp3 {s : Str} {i j : Int} (h : axB (.str s) = true) : SeqAt.shaped (.tuple [.str s, .int i, .int j]) = true := by
  rcases axB_str h with rfl | rfl | rfl <;> (simp [SeqAt.shaped, PyData.canLay0, PyData.canLayAll0, PyData.depth, PyData.depthAll]; decide +kernel)
theorem frB_j {j : Int} (h : frB (.int j) = true) : j = 1 ∨ j = -1 := by
  simp only [frB, inV, List.any_cons, List.any_nil, Bool.or_false, eqV, Bool.or_eq_true, beq_iff_eq] at h
  omega
section
variable {P : Program} {w : World} {K : PySem.W.Frag} {mg : Str → Option Value} {base : Heap} {c : Ad}
abbrev sPlE : Stmt := inClass (topS 12) 2
abbrev nPlE : List Str := ["self", "other"]
abbrev pPlE : List Str := ["self", "other"]
theorem scPlE : FnScope nPlE pPlE (defScope sPlE) := ⟨rfl, rfl, rfl, by decide +kernel, rfl, by decide +kernel, by decide +kernel⟩
abbrev sPlN : Stmt := inClass (topS 12) 3
abbrev nPlN : List Str := ["self"]
abbrev pPlN : List Str := ["self"]
theorem scPlN : FnScope nPlN pPlN (defScope sPlN) := ⟨rfl, rfl, rfl, by decide +kernel, rfl, by decide +kernel, by decide +kernel⟩
abbrev sPlA : Stmt := inClass (topS 12) 4
abbrev nPlA : List Str := ["self", "number", "at"]
abbrev pPlA : List Str := ["self", "number"]
theorem scPlA : FnScope nPlA pPlA (defScope sPlA) := ⟨rfl, rfl, rfl, by decide +kernel, rfl, by decide +kernel, by decide +kernel⟩
theorem ok_PlE {f : Addr} {fd : FuncData} (T : Tx P w K mg base c) (F : Fun K "__eq__" "Plane.__eq__" sPlE f fd) : FnOk P w K mg base CX0 1 f fd pPlE (spEq K c) := by
  have B := T.B
  refine F.ok scPlE (fun vs H Q E h => ?_) (fun cdv A outer s H vs Q E hr h => ?_)
  · unfold spEq at h
    split at h
    · rfl
    · exact h.elim
  · have hu := hu_of hr
    refine ⟨_, (pss_cons (ps_if (pt_not (ct_val (pe_isO T.own B.isinstance T.plg (by rfl) (by rfl) (cv 1))))
  (pss_one (ps_ret pe_bl))
  pss_nil)
  (pss_one (ps_ret (pe_cmpR (op_eqD hr.units) (pe_tup (pa_cons (pe_fld (cv 0) rfl) (pa_cons (pe_fld (cv 0) rfl) (pa_cons (pe_fld (cv 0) rfl) pa_nil)))) (pe_tup (pa_cons (pe_fld (cv 1) rfl) (pa_cons (pe_fld (cv 1) rfl) (pa_cons (pe_fld (cv 1) rfl) pa_nil)))) (nomark _))))), ?_⟩
    unfold spEq at h
    split at h
    · rename_i a y
      obtain ⟨s, i, j, hs, ⟨dx, ha⟩, h⟩ := h
      obtain ⟨l1, l2, l3, l4, _⟩ := plF_at (.str s) (.int i) (.int j) (c.dir (.str s))
      rcases h with ⟨b, s', i', j', hs', rfl, ⟨dy, hb⟩, q⟩ | ⟨⟨k, hk⟩, q⟩
      · obtain ⟨m1, m2, m3, m4, _⟩ := plF_at (.str s') (.int i') (.int j') (c.dir (.str s'))
        refine .inl ⟨_, _, hb, ?_⟩
        refine ⟨a, c.pl, dx, _, _, rfl, ha, T.own.cl, T.nA, l1, a, c.pl, dx, _, _, rfl, ha, T.own.cl, T.nT, l2, a, c.pl, dx, _, _, rfl, ha, T.own.cl, T.nF, l3, by show 3 ≤ sizeLine; decide, fun p hp => ?_⟩
        have sn := same_new (o := .tup [.str s, .int i, .int j]) hp
        refine ⟨b, c.pl, dy, _, _, rfl, sn b _ hb, T.own.cl, T.nA, m1, b, c.pl, dy, _, _, rfl, sn b _ hb, T.own.cl, T.nT, m2, b, c.pl, dy, _, _, rfl, sn b _ hb, T.own.cl, T.nF, m3, by show 3 ≤ sizeLine; decide, fun p2 hp2 => ?_⟩
        have sn2 := same_new (o := .tup [.str s', .int i', .int j']) hp2
        refine ⟨.tuple [.str s, .int i, .int j], .tuple [.str s', .int i', .int j'], .tup (.inl (.inl (sn2 p _ upd_same))) (.cons (.str _) (.cons (.int _) (.cons (.int _) .nil))), .tup (.inl (.inl upd_same)) (.cons (.str _) (.cons (.int _) (.cons (.int _) .nil))), shp3 hs, shp3 hs', ?_⟩
        rw [eqv3]
        exact q _ (sn.trans sn2)
      · cases y with
        | ref b => exact .inr ⟨k, hk, q⟩
        | _ => exact ⟨k, hk, q⟩
    · exact h.elim
theorem ok_PlN {f fI : Addr} {fd fdI : FuncData} (T : Tx P w K mg base c) (I : FnOk P w K mg base (L2.CX P w) 4 c.fI fdI pPlI (spInit K c)) (bI : Binds K fdI pPlI []) (F : Fun K "__neg__" "Plane.__neg__" sPlN f fd) : FnOk P w K mg base CX0 6 f fd pPlN (spNeg c) := by
  refine F.ok scPlN (fun vs H Q E h => ?_) (fun cdv A outer s H vs Q E hr h => ?_)
  · unfold spNeg at h
    split at h
    · rfl
    · exact h.elim
  · refine ⟨_, (pss_one (ps_ret (pe_make T.mkp I (hr.mono (by decide)) (by rfl) T.plg bI .nil not_raised (pa_cons (pe_fld (cv 0) rfl) (pa_cons (pe_fld (cv 0) rfl) (pa_cons (pe_un c_neg (pe_fld (cv 0) rfl)) pa_nil)))))), ?_⟩
    unfold spNeg at h
    split at h
    · rename_i a
      obtain ⟨s, i, j, ⟨dx, ha⟩, hs, hi, hj, q⟩ := h
      obtain ⟨l1, l2, l3, l4, _⟩ := plF_at (.str s) (.int i) (.int j) (c.dir (.str s))
      refine ⟨a, c.pl, dx, _, _, rfl, ha, T.own.cl, T.nA, l1, a, c.pl, dx, _, _, rfl, ha, T.own.cl, T.nT, l2, a, c.pl, dx, _, _, rfl, ha, T.own.cl, T.nF, l3, fun p dp hp hd hne => ?_⟩
      refine ⟨dp, upd_same, ⟨_, .str _⟩, ⟨_, .int _⟩, ⟨_, .int _⟩, ?_⟩
      have hj2 : frB (.int (-j)) = true := by
        rcases frB_j hj with rfl | rfl <;> rfl
      unfold plWay
      rw [if_pos hs, if_pos hi, if_pos hj2]
      refine fun H' ho hp' => ⟨rfl, q p H' (fun b o z => ?_) hp ⟨dp, hp'⟩⟩
      have n1 := ne_of_none z hp
      have n2 := ne_of_none z hd
      exact ho b o n1 (by rw [upd_ne n1, upd_ne n2]; exact z)
    · exact h.elim
theorem ok_PlA {f fI : Addr} {fd fdI : FuncData} (T : Tx P w K mg base c) (I : FnOk P w K mg base (L2.CX P w) 4 c.fI fdI pPlI (spInit K c)) (bI : Binds K fdI pPlI []) (F : Fun K "__add__" "Plane.__add__" sPlA f fd) : FnOk P w K mg base (L2.CX P w) 6 f fd pPlA (spAdd K c) := by
  have B := T.B
  obtain ⟨tl, hL⟩ := T.lim
  refine F.okX scPlA (fun vs H Q E h => ?_) (fun cdv A outer s H vs Q E hr h => ?_)
  · unfold spAdd at h
    split at h
    · rfl
    · exact h.elim
  · refine ⟨_, (pss_cons (ps_if (pt_not (ct_val (pe_def T.isI hr (by decide) (pa_cons (cv 1) pa_nil))))
  (pss_one (ps_raise1 T.eN rfl (hr.mono (by decide)) (L2.takes_of rfl rfl rfl rfl) (cv 1)))
  pss_nil)
  (pss_cons (ps_set (i := 2) scPlA.nd rfl (.inl rfl) (pe_op c_addI (pe_fld (cv 0) rfl) (pe_op c_mul (pe_fld (cv 0) rfl) (cv 1))))
  (pss_cons (ps_if (ct_cmp c_gt (pe_callB c_abs (by rfl) B.abs (by decide +kernel) (pa_cons (cv 2) pa_nil)) (pe_glob (v := .int 1000000000000000000000000000000) (by rfl) hL ⟨tl, rfl⟩) (nomark _))
  (pss_one (ps_raise0 T.eB rfl (hr.mono (by decide)) (L2.takes_of rfl rfl rfl rfl) (by rfl)))
  pss_nil)
  (pss_one (ps_ret (pe_make T.mkp I (hr.mono (by decide)) (by rfl) T.plg bI .nil not_raised (pa_cons (pe_fld (cv 0) rfl) (pa_cons (cv 2) (pa_cons (pe_fld (cv 0) rfl) pa_nil))))))))), ?_⟩
    unfold spAdd at h
    split at h
    · rename_i a y
      obtain ⟨s, i, j, ⟨dx, ha⟩, hs, hi, hj, ⟨k, hk⟩, q⟩ := h
      obtain ⟨l1, l2, l3, l4, _⟩ := plF_at (.str s) (.int i) (.int j) (c.dir (.str s))
      refine ⟨⟨k, hk⟩, ?_⟩
      cases hk with
      | int n =>
        obtain ⟨⟨n1, n2⟩, q⟩ := q
        have hj' := frB_j hj
        have hi' : (i.natAbs : Int) ≤ 1000000000000000000000000000000 := of_decide_eq_true hi
        refine ⟨a, c.pl, dx, _, _, rfl, ha, T.own.cl, T.nT, l2, a, c.pl, dx, _, _, rfl, ha, T.own.cl, T.nF, l3, few_of (by omega) (by omega) (by omega) (by omega), iteD (fun hb => ?_) (fun hb => ?_)⟩
        · have e : coB (.int (i + j * n)) = false := decide_eq_false (by show ¬ ((i + j * n).natAbs : Int) ≤ _; omega)
          rw [e, if_neg Bool.false_ne_true] at q
          exact q
        · have e : coB (.int (i + j * n)) = true := decide_eq_true (by show ((i + j * n).natAbs : Int) ≤ _; omega)
          rw [if_pos e] at q
          refine ⟨a, c.pl, dx, _, _, rfl, ha, T.own.cl, T.nA, l1, a, c.pl, dx, _, _, rfl, ha, T.own.cl, T.nF, l3, fun p dp hp hd hne => ?_⟩
          refine ⟨dp, upd_same, ⟨_, .str _⟩, ⟨_, .int _⟩, ⟨_, .int _⟩, ?_⟩
          unfold plWay
          rw [if_pos hs, if_pos e, if_pos hj]
          refine fun H' ho hp' => ⟨rfl, q p H' (fun b o z => ?_) hp ⟨dp, hp'⟩⟩
          have n1 := ne_of_none z hp
          have n2 := ne_of_none z hd
          exact ho b o n1 (by rw [upd_ne n1, upd_ne n2]; exact z)
      | _ => exact q
    · exact h.elim
end
end K13

set_option Elab.async false
set_option linter.all false
set_option maxRecDepth 100000
set_option maxHeartbeats 4000000
namespace K13
open PySem PySem.Spec PyProof.Rows L2 CL LamX
/-- what the law's catching def asks of the errors' classes -/
structure Rx (K : PySem.W.Frag) (mg : Str → Option Value) (c : Ad) : Prop where
  repr : mg "repr" = none
  isinstance : mg "isinstance" = none
  ValueError : mg "ValueError" = none
  gX : mg "InvalidAxis" = some (.ref c.aX)
  gN : mg "InvalidNumber" = some (.ref c.aN)
  gF : mg "InvalidFront" = some (.ref c.aF)
  gB : mg "OutOfBounds" = some (.ref c.aB)
  xX : XfC K c.aX
  xN : XfC K c.aN
  xF : XfC K c.aF
  nX : PySem.W.findIn K (.ref c.aX) "value" = some none
  nN : PySem.W.findIn K (.ref c.aN) "value" = some none
  nF : PySem.W.findIn K (.ref c.aF) "value" = some none
  vX : PySem.W.subIn K (.ref c.aX) (.type "ValueError") = some true
  vN : PySem.W.subIn K (.ref c.aN) (.type "ValueError") = some true
  vF : PySem.W.subIn K (.ref c.aF) (.type "ValueError") = some true
  vB : PySem.W.subIn K (.ref c.aB) (.type "ValueError") = some true
  eXX : PySem.W.exmOne K (.ref c.aX) (.ref c.aX) = some true
  eNX : PySem.W.exmOne K (.ref c.aN) (.ref c.aX) = some false
  eNN : PySem.W.exmOne K (.ref c.aN) (.ref c.aN) = some true
  eFX : PySem.W.exmOne K (.ref c.aF) (.ref c.aX) = some false
  eFN : PySem.W.exmOne K (.ref c.aF) (.ref c.aN) = some false
  eFF : PySem.W.exmOne K (.ref c.aF) (.ref c.aF) = some true
  eBX : PySem.W.exmOne K (.ref c.aB) (.ref c.aX) = some false
  eBN : PySem.W.exmOne K (.ref c.aB) (.ref c.aN) = some false
  eBF : PySem.W.exmOne K (.ref c.aB) (.ref c.aF) = some false
  eBB : PySem.W.exmOne K (.ref c.aB) (.ref c.aB) = some true
/-- the list told of an error -/
def told (wd : Str) (x : Str) : HO := .lst [.str wd, .str x, .bl true]
/-- what is told of an error that the call lets out -/
def refE (K : PySem.W.Frag) (c : Ad) (Q : VK) : XK := fun cls d H =>
  (∃ C wd dd v dat, ((C = c.aX ∧ wd = "axis") ∨ (C = c.aN ∧ wd = "number") ∨ (C = c.aF ∧ wd = "front")) ∧ cls = .ref C ∧ d = some dd ∧ H dd = some (.xd [("value", v)]) ∧ Dq K H v dat ∧ Fit dat ∧ ∀ l, H l = none → Q (.ref l) (upd H l (told wd dat.shown))) ∨
  (cls = .ref c.aB ∧ d = none ∧ ∀ l, H l = none → Q (.ref l) (upd H l (told "bounds" "")))
def TTref (K : PySem.W.Frag) (c : Ad) : (XK → Hp → VK → Prop) → Hp → VK → Prop := fun tl H Q => tl (refE K c Q) H fun _ H' => Q .non H'
abbrev sRef : Stmt := topS 20
abbrev nRef : List Str := ["_law_call", "e"]
abbrev pRef : List Str := ["_law_call"]
theorem scRef : FnScope nRef pRef (defScope sRef) := ⟨rfl, rfl, rfl, by decide +kernel, rfl, by decide +kernel, by decide +kernel⟩
theorem c_reprS {Z : Cx} {a : Addr} {oe : Obj} {pn : List (Addr × Obj)} (hG : Gd Z.A) (hu : Z.A.units + 64 < cLine) : CallR (Z.suite a ((a, oe) :: pn)) (.builtin "repr") (cRepr Z.K) := c_repr (X := Z.suite a ((a, oe) :: pn)) hG hu
theorem ref_gives {X : Cx} {c : Ad} {g : Addr} {cdg : Value} {q : Str} (R : Rx X.K X.mg c) (hG : Gd X.A) (hr : Room 1 X.A) :
    GivesTo X nRef "_law_refused" (defScope sRef) g cdg (defBody sRef) "_law_call" q (TTref X.K c) := by
  intro f c' s H Q tl act hc h
  have hr0 : ∀ e, Room 0 (X.A.deeper e) := fun e => hr.deeper e
  refine ⟨_, pss_cons (ps_try_as_many (i := 1) (n := "e") (X := (cxOf C8.CX0 X.prog X.w X.K X.mg X.base nRef "_law_refused" (defScope sRef) g cdg X.A X.stack s H C8.E0).nox)
      (tb := fun W D σ H => ∃ Ech : XK, (∀ cls d σ' H', Ech cls d H' → σ'.length = 2 → W cls d σ' H') ∧ σ[0]? = some (some (.ref f)) ∧ H c' = some (CodeO c' q) ∧ tl Ech H fun _ H' => D.nx σ H')
      (l := [(.ref c.aX, _), (.ref c.aN, _), (.ref c.aF, _), (.ref c.aB, _)])
      rfl rfl scRef.nd rfl rfl LamX.takes0 (fun W pn xe tk _ => ?body)
      (.cons ⟨by rfl, by decide, .inl R.gX⟩ (fun a oe cls d pn hz hf => pss_one (ps_ret (pe_lst (pa_cons pe_str (pa_cons (pe_callB (c_reprS (by exact hG) (by exact (hr0 _).units)) (by rfl) R.repr (by decide +kernel) (pa_cons (pe_xf R.xX R.nX hz hf (cv 1)) pa_nil)) (pa_cons (pe_isE (T' := "ValueError") (by decide +kernel) (by decide +kernel) hz hf R.isinstance R.ValueError (by rfl) (by rfl) (cv 1)) pa_nil))))))
      (.cons ⟨by rfl, by decide, .inl R.gN⟩ (fun a oe cls d pn hz hf => pss_one (ps_ret (pe_lst (pa_cons pe_str (pa_cons (pe_callB (c_reprS (by exact hG) (by exact (hr0 _).units)) (by rfl) R.repr (by decide +kernel) (pa_cons (pe_xf R.xN R.nN hz hf (cv 1)) pa_nil)) (pa_cons (pe_isE (T' := "ValueError") (by decide +kernel) (by decide +kernel) hz hf R.isinstance R.ValueError (by rfl) (by rfl) (cv 1)) pa_nil))))))
      (.cons ⟨by rfl, by decide, .inl R.gF⟩ (fun a oe cls d pn hz hf => pss_one (ps_ret (pe_lst (pa_cons pe_str (pa_cons (pe_callB (c_reprS (by exact hG) (by exact (hr0 _).units)) (by rfl) R.repr (by decide +kernel) (pa_cons (pe_xf R.xF R.nF hz hf (cv 1)) pa_nil)) (pa_cons (pe_isE (T' := "ValueError") (by decide +kernel) (by decide +kernel) hz hf R.isinstance R.ValueError (by rfl) (by rfl) (cv 1)) pa_nil))))))
      (.cons ⟨by rfl, by decide, .inl R.gB⟩ (fun a oe cls d pn hz hf => pss_one (ps_ret (pe_lst (pa_cons pe_str (pa_cons pe_str (pa_cons (pe_isE (T' := "ValueError") (by decide +kernel) (by decide +kernel) hz hf R.isinstance R.ValueError (by rfl) (by rfl) (cv 1)) pa_nil))))))
      .nil)))))
    (pss_one (ps_ret pe_non)), ?rest⟩
  case body =>
    refine ⟨fun pins s' σ H' D I h' => ?_⟩
    obtain ⟨Ech, hW, h1, h2, h3⟩ := h'
    have tk2 : Takes ((cxOf C8.CX0 X.prog X.w X.K X.mg X.base nRef "_law_refused" (defScope sRef) g cdg X.A X.stack s H C8.E0).tr pn xe) (fun cls d σ H => σ.length = 2 → W cls d σ H) := fun u s2 x => by
      obtain ⟨a, B, sI, p2, σ2, H2, cls, d, rfl, J, nb, up, sky, na, os, ag, w⟩ := x
      exact tk _ _ ⟨a, B, sI, p2, σ2, H2, cls, d, rfl, J, nb, up, sky, na, os, ag, w J.len⟩
    exact (pss_one (ps_expr (act _ pn xe Ech _ _ tk2 hW))).run pins s' σ H' D I ⟨h1, h2, h3⟩
  case rest =>
    refine ⟨refE X.K c Q, fun cls d σ' H' e l2 => ?_, rfl, hc, h⟩
    obtain ⟨s0, s1, rfl⟩ : ∃ x y, σ' = [x, y] := by
      match σ', l2 with
      | [x, y], _ => exact ⟨x, y, rfl⟩
    have no : ∀ {A : Prop}, false = true → A := fun z => nomatch z
    have nt : ∀ {A : Prop}, true = false → A := fun z => nomatch z
    have sz : 3 ≤ sizeLine := by decide
    rcases e with ⟨C, wd, dd, v, dat, ⟨rfl, rfl⟩ | ⟨rfl, rfl⟩ | ⟨rfl, rfl⟩, rfl, rfl, hx, hd, hf, k⟩ | ⟨rfl, rfl, k⟩
    · exact ⟨true, R.eXX, fun _ a na => ⟨rfl, rfl, dd, _, v, rfl, hx, rfl, dat, hd, hf, rfl, ⟨c.aX, rfl, R.vX⟩, .inr ⟨dd, _, rfl, hx⟩, sz, k⟩, nt⟩
    · exact ⟨false, R.eNX, no, fun _ => ⟨true, R.eNN, fun _ a na => ⟨rfl, rfl, dd, _, v, rfl, hx, rfl, dat, hd, hf, rfl, ⟨c.aN, rfl, R.vN⟩, .inr ⟨dd, _, rfl, hx⟩, sz, k⟩, nt⟩⟩
    · exact ⟨false, R.eFX, no, fun _ => ⟨false, R.eFN, no, fun _ => ⟨true, R.eFF, fun _ a na => ⟨rfl, rfl, dd, _, v, rfl, hx, rfl, dat, hd, hf, rfl, ⟨c.aF, rfl, R.vF⟩, .inr ⟨dd, _, rfl, hx⟩, sz, k⟩, nt⟩⟩⟩
    · exact ⟨false, R.eBX, no, fun _ => ⟨false, R.eBN, no, fun _ => ⟨false, R.eBF, no, fun _ => ⟨true, R.eBB, fun _ a na => ⟨rfl, ⟨c.aB, rfl, R.vB⟩, .inl rfl, sz, k⟩, nt⟩⟩⟩⟩
end K13

set_option Elab.async false
set_option linter.all false
set_option maxRecDepth 100000
set_option maxHeartbeats 4000000
namespace K13
open PySem PySem.Spec PyProof.Rows L2 CL
/-- the law's built-ins, not rebound -/
structure BltL (mg : Str → Option Value) : Prop where
  isinstance : mg "isinstance" = none
  int : mg "int" = none
  bool : mg "bool" = none
  str : mg "str" = none
  abs : mg "abs" = none
  repr : mg "repr" = none
  list : mg "list" = none
  range : mg "range" = none
def dueOf (x y z : V) : Option (Str × V) := if axB x = true then if coB y = true then if frB z = true then none else some ("front", z) else some ("number", y) else some ("axis", x)
/-- the answer that is due -/
def dueW (o : Option Str) (wd : Str) (H : Hp) (Q : VK) : Prop := match o with
  | none => ∀ H', Same H H' → Q .non H'
  | some x => ∀ l H', Same H H' → H' l = some (told wd x) → Q (.ref l) H'
def spDue (K : PySem.W.Frag) : Sp := fun vs H Q _ => match vs with
  | [x, y, z] => ∃ dx dy dz, Dq K H x dx ∧ Fit dx ∧ Dq K H y dy ∧ Fit dy ∧ Dq K H z dz ∧ Fit dz ∧
    (if axB x = true then if coB y = true then if frB z = true then ∀ H', Same H H' → Q .non H' else dueW (some dz.shown) "front" H Q else dueW (some dy.shown) "number" H Q else dueW (some dx.shown) "axis" H Q)
  | _ => False
def spPen (K : PySem.W.Frag) : Sp := fun vs H Q _ => match vs with
  | [.ref a] => ∃ ns : List Int, SqL K H a (ns.map V.int) ∧ ns.length ≤ 63 ∧ ∀ p H', Same H H' → PenB H' p (2 ^ 59) → Q (.ref p) H'
  | _ => False
theorem frB_abs {i : Int} : decide (V.int (i.natAbs : Int) = V.int 1) = frB (.int i) := by
  rw [Bool.eq_iff_iff]
  simp only [decide_eq_true_eq, V.int.injEq, frB, inV, List.any_cons, List.any_nil, Bool.or_false, eqV, Bool.or_eq_true, beq_iff_eq]
  omega
section
variable {P : Program} {w : World} {K : PySem.W.Frag} {mg : Str → Option Value} {base : Heap}
abbrev sPen : Stmt := topS 14
abbrev nPen : List Str := ["_law_script"]
abbrev pPen : List Str := ["_law_script"]
theorem scPen : FnScope nPen pPen (defScope sPen) := ⟨rfl, rfl, rfl, by decide +kernel, rfl, by decide +kernel, by decide +kernel⟩
abbrev sLInt : Stmt := topS 21
abbrev nLInt : List Str := ["_law_value"]
abbrev pLInt : List Str := ["_law_value"]
theorem scLInt : FnScope nLInt pLInt (defScope sLInt) := ⟨rfl, rfl, rfl, by decide +kernel, rfl, by decide +kernel, by decide +kernel⟩
abbrev sDue : Stmt := topS 22
abbrev nDue : List Str := ["_law_axis", "_law_place", "_law_front"]
abbrev pDue : List Str := ["_law_axis", "_law_place", "_law_front"]
theorem scDue : FnScope nDue pDue (defScope sDue) := ⟨rfl, rfl, rfl, by decide +kernel, rfl, by decide +kernel, by decide +kernel⟩
theorem ok_lint (B : BltL mg) (F : FunAt K mg "_law_is_int" sLInt pLInt) : DefOk P w K mg base CX0 1 "_law_is_int" pLInt (spIsI K) := by
  refine F.ok scLInt (fun vs H Q E h => ?_) (fun f cdv A outer s H vs Q E hr h => ?_)
  · unfold spIsI at h
    split at h
    · rfl
    · exact h.elim
  · refine ⟨_, (pss_one (ps_ret (c_and (pe_isi (m := .int) (by decide +kernel) B.isinstance B.int (by rfl) (by rfl) (cv 0)) (pe_one (c_not (pe_isi (m := .bool) (by decide +kernel) B.isinstance B.bool (by rfl) (by rfl) (cv 0))))))), ?_⟩
    unfold spIsI at h
    split at h
    · rename_i x
      obtain ⟨⟨k, hk⟩, q⟩ := h
      cases hk with
      | lst h => exact ⟨_, .lst h, q⟩
      | tup h => exact ⟨_, .tup h, q⟩
      | dic h => exact ⟨_, .dic h, q⟩
      | _ => exact q
    · exact h.elim
theorem ok_pen (B : BltL mg) (F : FunAt K mg "_law_pen" sPen pPen) : DefOk P w K mg base CX0 1 "_law_pen" pPen (spPen K) := by
  refine F.ok scPen (fun vs H Q E h => ?_) (fun f cdv A outer s H vs Q E hr h => ?_)
  · unfold spPen at h
    split at h
    · rfl
    · exact h.elim
  · refine ⟨_, (pss_one (ps_ret (pe_disp (pps_cons pe_str (pe_callTy call_list_of (by rfl) B.list (by decide +kernel) (pa_cons (pe_slice sl_list (cv 0) po_none (po_some pe_int)) pa_nil)) (pps_cons pe_str pe_int (pps_cons pe_str pe_int pps_nil))) (by rfl) (by rfl) (by simp) (by decide)))), ?_⟩
    unfold spPen at h
    split at h
    · rename_i a
      obtain ⟨ns, hs, hl, q⟩ := h
      intro p hp
      have s0 := same_new (o := .dK []) hp
      refine ⟨63, rfl, a, _, rfl, s0.seq hs, fun l hl => ⟨l, _, rfl, .inl (SqL.of upd_same), fun c hc => ?_⟩⟩
      have s1 := same_new (o := .lst (cutV (ns.map V.int) none (some 63))) hl
      have s2 := same_new (o := .lst (cutV (ns.map V.int) none (some 63))) hc
      refine ⟨s2 p _ (s1 p _ upd_same), [(kCells, .ref c), (kBegun, .int 0), (kRest, .int 0)], rfl, by show 3 ≤ 15; decide, ?_⟩
      have hb : ∀ b o, H b = some o → b ≠ p ∧ b ≠ l ∧ b ≠ c := fun b o z => ⟨ne_of_none z hp, ne_of_none (s0 b o z) hl, ne_of_none (s1 b o (s0 b o z)) hc⟩
      obtain ⟨ms, hm, hml⟩ : ∃ ms : List Int, cutV (ns.map V.int) none (some 63) = ms.map V.int ∧ ms.length ≤ 63 := by
        refine ⟨(ns.drop _).take _, by unfold cutV; rw [List.map_take, List.map_drop], ?_⟩
        rw [List.length_take, List.length_drop]
        omega
      have pc : p ≠ c := ne_of_none (s1 p _ upd_same) hc
      refine q p _ (fun b o z => ?_) ⟨c, ms, 0, 0, ⟨upd_same, ?_, hml, by decide, by decide⟩, by decide⟩
      · obtain ⟨n1, n2, n3⟩ := hb b o z
        rw [upd_ne n1]
        exact s2 b o (s1 b o (s0 b o z))
      · rw [upd_ne pc.symm, upd_same, hm]
    · exact h.elim
theorem ok_due (B : BltL mg) (DI : DefOk P w K mg base CX0 1 "_law_is_int" pLInt (spIsI K)) (F : FunAt K mg "_law_due" sDue pDue) : DefG P w K mg base CX0 2 "_law_due" pDue (spDue K) := by
  refine F.okG scDue (fun vs H Q E h => ?_) (fun f cdv A outer s H vs Q E hG hr h => ?_)
  · unfold spDue at h
    split at h
    · rfl
    · exact h.elim
  · refine ⟨_, (pss_cons (ps_if (PW.pt (pw_or (pt_not (ct_val (pe_isi (m := .str) (by decide +kernel) B.isinstance B.str (by rfl) (by rfl) (cv 0)))) (pw_or1 (ct_cmp op_notIn_seq (cv 0) (pe_tup (pa_cons pe_str (pa_cons pe_str (pa_cons pe_str pa_nil)))) (by rfl)))))
  (pss_one (ps_ret (pe_lst (pa_cons pe_str (pa_cons (pe_callB (c_repr (by exact hG) (by exact hr.units)) (by rfl) B.repr (by decide +kernel) (pa_cons (cv 0) pa_nil)) (pa_cons pe_bl pa_nil))))))
  pss_nil)
  (pss_cons (ps_if (PW.pt (pw_or (pt_not (ct_val (pe_def DI hr (by decide) (pa_cons (cv 1) pa_nil)))) (pw_or1 (ct_cmp c_gt (pe_callB c_abs (by rfl) B.abs (by decide +kernel) (pa_cons (cv 1) pa_nil)) (pe_pow (z := 1000000000000000000000000000000) ⟨⟨by decide, by decide, by decide⟩, by decide +kernel⟩) (nomark _)))))
  (pss_one (ps_ret (pe_lst (pa_cons pe_str (pa_cons (pe_callB (c_repr (by exact hG) (by exact hr.units)) (by rfl) B.repr (by decide +kernel) (pa_cons (cv 1) pa_nil)) (pa_cons pe_bl pa_nil))))))
  pss_nil)
  (pss_one (ps_ret (pe_ifExp (PW.pt (pw_and (ct_val (pe_def DI hr (by decide) (pa_cons (cv 2) pa_nil))) (pw_and1 (ct_cmp op_eq (pe_callB c_abs (by rfl) B.abs (by decide +kernel) (pa_cons (cv 2) pa_nil)) pe_int (nomark _))))) pe_non (pe_lst (pa_cons pe_str (pa_cons (pe_callB (c_repr (by exact hG) (by exact hr.units)) (by rfl) B.repr (by decide +kernel) (pa_cons (cv 2) pa_nil)) (pa_cons pe_bl pa_nil))))))))), ?_⟩
    unfold spDue at h
    split at h
    · rename_i x y z
      obtain ⟨dx, dy, dz, hx, fx, hy, fy, hz, fz, q⟩ := h
      have sz : 3 ≤ sizeLine := by decide
      obtain ⟨kx, bx⟩ := hx.bk
      obtain ⟨ky, by_⟩ := hy.bk
      obtain ⟨kz, bz⟩ := hz.bk
      -- the first answer
      have bad1 : axB x = false → ∀ H1, Same H H1 → ∃ d, Dq K H1 x d ∧ Fit d ∧ (3 ≤ sizeLine ∧ ∀ p, H1 p = none → Q (.ref p) (upd H1 p (.lst [.str "axis", .str d.shown, .bl true]))) := fun e H1 s1 => by
        rw [e, if_neg Bool.false_ne_true] at q
        exact ⟨dx, Dq.same s1 hx, fx, sz, fun p hp => q p _ (s1.trans (same_new hp)) upd_same⟩
      have lst : ∀ (H1 : Hp) (wd : Str) (v : V) (d : PyData), Same H H1 → Dq K H v d → Fit d → dueW (some d.shown) wd H Q → ∃ d, Dq K H1 v d ∧ Fit d ∧ (3 ≤ sizeLine ∧ ∀ p, H1 p = none → Q (.ref p) (upd H1 p (.lst [.str wd, .str d.shown, .bl true]))) := fun H1 wd v d s1 hd fd q =>
        ⟨d, Dq.same s1 hd, fd, sz, fun p hp => q p _ (s1.trans (same_new hp)) upd_same⟩
      cases bx with
      | str s =>
        refine ⟨sz, fun p hp => ⟨p, _, rfl, .inr (.inl (.inl upd_same)), rfl, rfl, ?_⟩⟩
        have s1 := same_new (o := .tup [.str "x", .str "y", .str "z"]) hp
        show if (!(axB (.str s))) = true then _ else _
        cases e : axB (.str s) with
        | false => exact bad1 e _ s1
        | true =>
          rw [e, if_pos rfl] at q
          refine ⟨⟨ky, BK.same s1 by_⟩, ?_⟩
          show if (!(isI y)) = true then _ else _
          cases ey : isI y with
          | false =>
            have : coB y = false := by cases by_ <;> first | rfl | exact absurd ey (by simp [isI])
            rw [this, if_neg Bool.false_ne_true] at q
            exact lst _ "number" _ _ s1 hy fy q
          | true =>
            obtain ⟨i, rfl⟩ := by_.int_of ey
            refine iteD (fun hb => ?_) (fun hb => ?_)
            · have : coB (.int i) = false := decide_eq_false (by omega)
              rw [this, if_neg Bool.false_ne_true] at q
              exact lst _ "number" _ _ s1 hy fy q
            · have : coB (.int i) = true := decide_eq_true (by omega)
              rw [this, if_pos rfl] at q
              refine ⟨⟨kz, BK.same s1 bz⟩, ?_⟩
              show if (isI z) = true then _ else _
              cases ez : isI z with
              | false =>
                have : frB z = false := by cases bz <;> first | rfl | exact absurd ez (by simp [isI])
                rw [this, if_neg Bool.false_ne_true] at q
                exact lst _ "front" _ _ s1 hz fz q
              | true =>
                obtain ⟨j, rfl⟩ := bz.int_of ez
                refine ⟨rfl, ?_⟩
                show if (decide (V.int (j.natAbs : Int) = V.int 1)) = true then _ else _
                rw [frB_abs]
                cases ef : frB (.int j) with
                | false =>
                  rw [ef, if_neg Bool.false_ne_true] at q
                  exact lst _ "front" _ _ s1 hz fz q
                | true =>
                  rw [ef, if_pos rfl] at q
                  exact q _ s1
      | lst h => exact ⟨_, .lst h, bad1 rfl _ (Same.refl _)⟩
      | tup h => exact ⟨_, .tup h, bad1 rfl _ (Same.refl _)⟩
      | dic h => exact ⟨_, .dic h, bad1 rfl _ (Same.refl _)⟩
      | _ => exact bad1 rfl _ (Same.refl _)
    · exact h.elim
end
end K13

set_option Elab.async false
set_option linter.all false
set_option maxRecDepth 100000
set_option maxHeartbeats 4000000
namespace K13
open PySem PySem.Spec PyProof.Rows L2 CL
/-- a value of any kind -/
def spOdd (K : PySem.W.Frag) : Sp := fun vs H Q _ => match vs with
  | [.ref p] => ∃ k, ∃ M : Addr → Prop, PenB H p (k + 5) ∧ M p ∧ MOk M H ∧ ∀ v H', OkV K M H' v → PenB H' p k → But p H H' → Q v H'
  | _ => False
section
variable {P : Program} {w : World} {K : PySem.W.Frag} {mg : Str → Option Value} {base : Heap}
abbrev sOdd : Stmt := topS 19
abbrev nOdd : List Str := ["_law_pen_here", "_law_some"]
abbrev pOdd : List Str := ["_law_pen_here"]
theorem scOdd : FnScope nOdd pOdd (defScope sOdd) := ⟨rfl, rfl, rfl, by decide +kernel, rfl, by decide +kernel, by decide +kernel⟩
theorem ok_odd (DP : DefOk P w K mg base CX0 6 "_law_pick" pPick (spPick K)) (F : FunAt K mg "_law_odd" sOdd pOdd) : DefOk P w K mg base CX0 7 "_law_odd" pOdd (spOdd K) := by
  refine F.ok scOdd (fun vs H Q E h => ?_) (fun f cdv A outer s H vs Q E hr h => ?_)
  · unfold spOdd at h
    split at h
    · rfl
    · exact h.elim
  · have hu := hu_of hr
    refine ⟨_, (pss_cons (ps_set (i := 1) scOdd.nd rfl (.inl rfl) (pe_lst (pa_cons pe_non (pa_cons pe_bl (pa_cons pe_bl (pa_cons pe_int (pa_cons pe_int (pa_cons (pe_un c_neg pe_int) (pa_cons pe_int (pa_cons pe_int (pa_cons (pe_pow (z := 1000000000000000000000000000000) ⟨⟨by decide, by decide, by decide⟩, by decide +kernel⟩) (pa_cons (pe_op c_addI (pe_pow (z := 1000000000000000000000000000000) ⟨⟨by decide, by decide, by decide⟩, by decide +kernel⟩) pe_int) (pa_cons (pe_op c_sub (pe_un c_neg (pe_pow (z := 1000000000000000000000000000000) ⟨⟨by decide, by decide, by decide⟩, by decide +kernel⟩)) pe_int) (pa_cons (pe_op c_mul (pe_pow (z := 100000000000000000000000000000000000000000000000000) ⟨⟨by decide, by decide, by decide⟩, by decide +kernel⟩) (pe_pow (z := 10000000000000000000000000000000000000000) ⟨⟨by decide, by decide, by decide⟩, by decide +kernel⟩)) pa_nil))))))))))))))
  (pss_cons (ps_set (i := 1) scOdd.nd rfl (.inl rfl) (pe_op op_cat (cv 1) (pe_lst (pa_cons pe_str (pa_cons pe_str (pa_cons pe_str (pa_cons pe_str (pa_cons pe_str (pa_cons pe_str (pa_cons pe_str (pa_cons pe_str (pa_cons pe_str (pa_cons pe_str (pa_cons pe_str (pa_cons pe_str (pa_cons (pe_tup pa_nil) (pa_cons (pe_lst pa_nil) (pa_cons pe_dnewK (pa_cons (pe_tup (pa_cons pe_str pa_nil)) pa_nil)))))))))))))))))))
  (pss_one (ps_ret (pe_def DP hr (by decide) (pa_cons (cv 0) (pa_cons (pe_op op_cat (cv 1) (pe_lst (pa_cons (pe_lst (pa_cons pe_str pa_nil)) (pa_cons (pe_tup (pa_cons pe_int (pa_cons pe_int pa_nil))) (pa_cons (pe_tup (pa_cons pe_int (pa_cons pe_int (pa_cons pe_int pa_nil)))) (pa_cons (pe_disp (pps_cons pe_str pe_int pps_nil) (by rfl) (by rfl) (by simp) (by decide)) (pa_cons (pe_lst (pa_cons pe_non pa_nil)) (pa_cons (pe_tup (pa_cons pe_non (pa_cons pe_str pa_nil))) (pa_cons (pe_tup (pa_cons (pe_tup (pa_cons pe_int (pa_cons pe_int (pa_cons pe_int pa_nil)))) (pa_cons (pe_tup (pa_cons pe_int (pa_cons pe_int (pa_cons pe_int pa_nil)))) pa_nil))) pa_nil))))))))) pa_nil))))))), ?_⟩
    unfold spOdd at h
    split at h
    · rename_i p
      obtain ⟨k, M, P, mp, m, q⟩ := h
      refine ⟨few_of (by decide) (by decide) (by decide) (by decide), by show 12 ≤ sizeLine; decide, fun a1 na1 => ?_⟩
      let G1 : Hp := upd H a1 (.lst [.non, .bl true, .bl false, .int 0, .int 1, .int (-1), .int 2, .int 7, .int 1000000000000000000000000000000, .int (1000000000000000000000000000000 + 1), .int (-1000000000000000000000000000000 - 1), .int (100000000000000000000000000000000000000000000000000 * 10000000000000000000000000000000000000000)])
      have s1 : Same H G1 := same_new na1
      have m1 : MOk M G1 := m.same s1
      refine ⟨by show 0 ≤ sizeLine; decide, fun t1 nt1 => ?_⟩
      let G2 : Hp := upd G1 t1 (.tup [])
      have s2 : Same G1 G2 := same_new nt1
      have m2 : MOk M G2 := m1.same s2
      have ot1 : OkV K M G2 (.ref t1) := OkV.of (Sv.tup m1 nt1 SvA.nil)
      refine ⟨by show 0 ≤ sizeLine; decide, fun t2 nt2 => ?_⟩
      let G3 : Hp := upd G2 t2 (.lst [])
      have s3 : Same G2 G3 := same_new nt2
      have m3 : MOk M G3 := m2.same s3
      have ot2 : OkV K M G3 (.ref t2) := OkV.of (Sv.lst m2 nt2 SvA.nil)
      intro t3 nt3
      let G4 : Hp := upd G3 t3 (.dK [])
      have s4 : Same G3 G4 := same_new nt3
      have m4 : MOk M G4 := m3.same s4
      have ot3 : OkV K M G4 (.ref t3) := OkV.of (Sv.dic (kvs := []) m3 nt3 SvA.nil SvA.nil upd_same (BN.of (same_new nt3)))
      refine ⟨by show 1 ≤ sizeLine; decide, fun t4 nt4 => ?_⟩
      let G5 : Hp := upd G4 t4 (.tup [.str "a"])
      have s5 : Same G4 G5 := same_new nt4
      have m5 : MOk M G5 := m4.same s5
      have ot4 : OkV K M G5 (.ref t4) := OkV.of (Sv.tup m4 nt4 (SvA.cons (Sv.str _) SvA.nil))
      refine ⟨by show 16 ≤ sizeLine; decide, fun l2 nl2 => ?_⟩
      let G6 : Hp := upd G5 l2 (.lst [.str "", .str "a", .str "0", .str "ab cd", .str "A", .str "abcdefghi", .str "min", .str "self", .str "x", .str "y", .str "z", .str "+x", .ref t1, .ref t2, .ref t3, .ref t4])
      have s6 : Same G5 G6 := same_new nl2
      have m6 : MOk M G6 := m5.same s6
      refine ⟨a1, l2, [.non, .bl true, .bl false, .int 0, .int 1, .int (-1), .int 2, .int 7, .int 1000000000000000000000000000000, .int (1000000000000000000000000000000 + 1), .int (-1000000000000000000000000000000 - 1), .int (100000000000000000000000000000000000000000000000000 * 10000000000000000000000000000000000000000)], [.str "", .str "a", .str "0", .str "ab cd", .str "A", .str "abcdefghi", .str "min", .str "self", .str "x", .str "y", .str "z", .str "+x", .ref t1, .ref t2, .ref t3, .ref t4], rfl, rfl, (s2.trans (s3.trans (s4.trans (s5.trans (s6.trans (Same.refl _)))))) a1 _ upd_same, upd_same, by show 28 ≤ sizeLine; decide, fun l3 nl3 => ?_⟩
      let G7 : Hp := upd G6 l3 (.lst ([.non, .bl true, .bl false, .int 0, .int 1, .int (-1), .int 2, .int 7, .int 1000000000000000000000000000000, .int (1000000000000000000000000000000 + 1), .int (-1000000000000000000000000000000 - 1), .int (100000000000000000000000000000000000000000000000000 * 10000000000000000000000000000000000000000)] ++ [.str "", .str "a", .str "0", .str "ab cd", .str "A", .str "abcdefghi", .str "min", .str "self", .str "x", .str "y", .str "z", .str "+x", .ref t1, .ref t2, .ref t3, .ref t4]))
      have s7 : Same G6 G7 := same_new nl3
      have m7 : MOk M G7 := m6.same s7
      refine ⟨by show 1 ≤ sizeLine; decide, fun u1 nu1 => ?_⟩
      let G8 : Hp := upd G7 u1 (.lst [.str "a"])
      have s8 : Same G7 G8 := same_new nu1
      have m8 : MOk M G8 := m7.same s8
      have ou1 : OkV K M G8 (.ref u1) := OkV.of (Sv.lst m7 nu1 (SvA.cons (Sv.str _) SvA.nil))
      refine ⟨by show 2 ≤ sizeLine; decide, fun u2 nu2 => ?_⟩
      let G9 : Hp := upd G8 u2 (.tup [.int 0, .int 1])
      have s9 : Same G8 G9 := same_new nu2
      have m9 : MOk M G9 := m8.same s9
      have ou2 : OkV K M G9 (.ref u2) := OkV.of (Sv.tup m8 nu2 (SvA.cons (Sv.int _) (SvA.cons (Sv.int _) SvA.nil)))
      refine ⟨by show 3 ≤ sizeLine; decide, fun u3 nu3 => ?_⟩
      let G10 : Hp := upd G9 u3 (.tup [.int 0, .int 0, .int 0])
      have s10 : Same G9 G10 := same_new nu3
      have m10 : MOk M G10 := m9.same s10
      have ou3 : OkV K M G10 (.ref u3) := OkV.of (Sv.tup m9 nu3 (SvA.cons (Sv.int _) (SvA.cons (Sv.int _) (SvA.cons (Sv.int _) SvA.nil))))
      intro u4 nu4
      let G11 : Hp := upd G10 u4 (.dK [])
      have s11 : Same G10 G11 := same_new nu4
      have m11 : MOk M G11 := m10.same s11
      refine ⟨upd_same, [(.inr "a", .int 1)], rfl, by show 1 ≤ 15; decide, ?_⟩
      let G12 : Hp := upd G11 u4 (.dK [(.inr "a", .int 1)])
      have s12b : Same G10 G12 := fun b o z => by have nb := ne_of_none z nu4; show upd (upd _ u4 _) u4 _ b = _; rw [upd_ne nb, upd_ne nb]; exact z
      have m12 : MOk M G12 := m10.same s12b
      have ou4 : OkV K M G12 (.ref u4) := OkV.of (Sv.dic (kvs := [(.inr "a", .int 1)]) m10 nu4 (SvA.cons (Sv.str _) SvA.nil) (SvA.cons (Sv.int _) SvA.nil) upd_same (BN.of s12b))
      refine ⟨by show 1 ≤ sizeLine; decide, fun u5 nu5 => ?_⟩
      let G13 : Hp := upd G12 u5 (.lst [.non])
      have s13 : Same G12 G13 := same_new nu5
      have m13 : MOk M G13 := m12.same s13
      have ou5 : OkV K M G13 (.ref u5) := OkV.of (Sv.lst m12 nu5 (SvA.cons Sv.non SvA.nil))
      refine ⟨by show 2 ≤ sizeLine; decide, fun u6 nu6 => ?_⟩
      let G14 : Hp := upd G13 u6 (.tup [.non, .str "a"])
      have s14 : Same G13 G14 := same_new nu6
      have m14 : MOk M G14 := m13.same s14
      have ou6 : OkV K M G14 (.ref u6) := OkV.of (Sv.tup m13 nu6 (SvA.cons Sv.non (SvA.cons (Sv.str _) SvA.nil)))
      refine ⟨by show 3 ≤ sizeLine; decide, fun u7 nu7 => ?_⟩
      let G15 : Hp := upd G14 u7 (.tup [.int 0, .int 0, .int 0])
      have s15 : Same G14 G15 := same_new nu7
      have m15 : MOk M G15 := m14.same s15
      have ou7 : OkV K M G15 (.ref u7) := OkV.of (Sv.tup m14 nu7 (SvA.cons (Sv.int _) (SvA.cons (Sv.int _) (SvA.cons (Sv.int _) SvA.nil))))
      refine ⟨by show 3 ≤ sizeLine; decide, fun u8 nu8 => ?_⟩
      let G16 : Hp := upd G15 u8 (.tup [.int 1, .int 1, .int 1])
      have s16 : Same G15 G16 := same_new nu8
      have m16 : MOk M G16 := m15.same s16
      have ou8 : OkV K M G16 (.ref u8) := OkV.of (Sv.tup m15 nu8 (SvA.cons (Sv.int _) (SvA.cons (Sv.int _) (SvA.cons (Sv.int _) SvA.nil))))
      refine ⟨by show 2 ≤ sizeLine; decide, fun u9 nu9 => ?_⟩
      have v7 : Sv K M G16 (.ref u7) (.tuple [.int 0, .int 0, .int 0]) := (Sv.tup m14 nu7 (SvA.cons (Sv.int _) (SvA.cons (Sv.int _) (SvA.cons (Sv.int _) SvA.nil)))).bn (BN.of (s16.trans (Same.refl _)))
      have v8 : Sv K M G16 (.ref u8) (.tuple [.int 1, .int 1, .int 1]) := (Sv.tup m15 nu8 (SvA.cons (Sv.int _) (SvA.cons (Sv.int _) (SvA.cons (Sv.int _) SvA.nil)))).bn (BN.of (Same.refl _))
      let G17 : Hp := upd G16 u9 (.tup [.ref u7, .ref u8])
      have s17 : Same G16 G17 := same_new nu9
      have m17 : MOk M G17 := m16.same s17
      have ou9 : OkV K M G17 (.ref u9) := OkV.of (Sv.tup m16 nu9 (SvA.cons v7 (SvA.cons v8 SvA.nil)))
      refine ⟨by show 7 ≤ sizeLine; decide, fun l4 nl4 => ?_⟩
      let G18 : Hp := upd G17 l4 (.lst [.ref u1, .ref u2, .ref u3, .ref u4, .ref u5, .ref u6, .ref u9])
      have s18 : Same G17 G18 := same_new nl4
      have m18 : MOk M G18 := m17.same s18
      refine ⟨l3, l4, [.non, .bl true, .bl false, .int 0, .int 1, .int (-1), .int 2, .int 7, .int 1000000000000000000000000000000, .int (1000000000000000000000000000000 + 1), .int (-1000000000000000000000000000000 - 1), .int (100000000000000000000000000000000000000000000000000 * 10000000000000000000000000000000000000000)] ++ [.str "", .str "a", .str "0", .str "ab cd", .str "A", .str "abcdefghi", .str "min", .str "self", .str "x", .str "y", .str "z", .str "+x", .ref t1, .ref t2, .ref t3, .ref t4], [.ref u1, .ref u2, .ref u3, .ref u4, .ref u5, .ref u6, .ref u9], rfl, rfl, (s8.trans (s9.trans (s10.trans (s12b.trans (s13.trans (s14.trans (s15.trans (s16.trans (s17.trans (s18.trans (Same.refl _))))))))))) l3 _ upd_same, upd_same, by show 35 ≤ sizeLine; decide, fun l5 nl5 => ?_⟩
      let G19 : Hp := upd G18 l5 (.lst ([.non, .bl true, .bl false, .int 0, .int 1, .int (-1), .int 2, .int 7, .int 1000000000000000000000000000000, .int (1000000000000000000000000000000 + 1), .int (-1000000000000000000000000000000 - 1), .int (100000000000000000000000000000000000000000000000000 * 10000000000000000000000000000000000000000)] ++ [.str "", .str "a", .str "0", .str "ab cd", .str "A", .str "abcdefghi", .str "min", .str "self", .str "x", .str "y", .str "z", .str "+x", .ref t1, .ref t2, .ref t3, .ref t4] ++ [.ref u1, .ref u2, .ref u3, .ref u4, .ref u5, .ref u6, .ref u9]))
      have s19 : Same G18 G19 := same_new nl5
      have m19 : MOk M G19 := m18.same s19
      have A : AllV K M G19 ([.non, .bl true, .bl false, .int 0, .int 1, .int (-1), .int 2, .int 7, .int 1000000000000000000000000000000, .int (1000000000000000000000000000000 + 1), .int (-1000000000000000000000000000000 - 1), .int (100000000000000000000000000000000000000000000000000 * 10000000000000000000000000000000000000000)] ++ [.str "", .str "a", .str "0", .str "ab cd", .str "A", .str "abcdefghi", .str "min", .str "self", .str "x", .str "y", .str "z", .str "+x", .ref t1, .ref t2, .ref t3, .ref t4] ++ [.ref u1, .ref u2, .ref u3, .ref u4, .ref u5, .ref u6, .ref u9]) := (((AllV.cons (OkV.of Sv.non)
          (AllV.cons (OkV.of (Sv.bl _))
          (AllV.cons (OkV.of (Sv.bl _))
          (AllV.cons (OkV.of (Sv.int _))
          (AllV.cons (OkV.of (Sv.int _))
          (AllV.cons (OkV.of (Sv.int _))
          (AllV.cons (OkV.of (Sv.int _))
          (AllV.cons (OkV.of (Sv.int _))
          (AllV.cons (OkV.of (Sv.int _))
          (AllV.cons (OkV.of (Sv.int _))
          (AllV.cons (OkV.of (Sv.int _))
          (AllV.cons (OkV.of (Sv.int _))
          AllV.nil))))))))))))).app (AllV.cons (OkV.of (Sv.str _))
          (AllV.cons (OkV.of (Sv.str _))
          (AllV.cons (OkV.of (Sv.str _))
          (AllV.cons (OkV.of (Sv.str _))
          (AllV.cons (OkV.of (Sv.str _))
          (AllV.cons (OkV.of (Sv.str _))
          (AllV.cons (OkV.of (Sv.str _))
          (AllV.cons (OkV.of (Sv.str _))
          (AllV.cons (OkV.of (Sv.str _))
          (AllV.cons (OkV.of (Sv.str _))
          (AllV.cons (OkV.of (Sv.str _))
          (AllV.cons (OkV.of (Sv.str _))
          (AllV.cons (ot1.bn (BN.of (s3.trans (s4.trans (s5.trans (s6.trans (s7.trans (s8.trans (s9.trans (s10.trans (s12b.trans (s13.trans (s14.trans (s15.trans (s16.trans (s17.trans (s18.trans (s19.trans (Same.refl _)))))))))))))))))))
          (AllV.cons (ot2.bn (BN.of (s4.trans (s5.trans (s6.trans (s7.trans (s8.trans (s9.trans (s10.trans (s12b.trans (s13.trans (s14.trans (s15.trans (s16.trans (s17.trans (s18.trans (s19.trans (Same.refl _))))))))))))))))))
          (AllV.cons (ot3.bn (BN.of (s5.trans (s6.trans (s7.trans (s8.trans (s9.trans (s10.trans (s12b.trans (s13.trans (s14.trans (s15.trans (s16.trans (s17.trans (s18.trans (s19.trans (Same.refl _)))))))))))))))))
          (AllV.cons (ot4.bn (BN.of (s6.trans (s7.trans (s8.trans (s9.trans (s10.trans (s12b.trans (s13.trans (s14.trans (s15.trans (s16.trans (s17.trans (s18.trans (s19.trans (Same.refl _))))))))))))))))
          AllV.nil))))))))))))))))).app (AllV.cons (ou1.bn (BN.of (s9.trans (s10.trans (s12b.trans (s13.trans (s14.trans (s15.trans (s16.trans (s17.trans (s18.trans (s19.trans (Same.refl _)))))))))))))
          (AllV.cons (ou2.bn (BN.of (s10.trans (s12b.trans (s13.trans (s14.trans (s15.trans (s16.trans (s17.trans (s18.trans (s19.trans (Same.refl _))))))))))))
          (AllV.cons (ou3.bn (BN.of (s12b.trans (s13.trans (s14.trans (s15.trans (s16.trans (s17.trans (s18.trans (s19.trans (Same.refl _)))))))))))
          (AllV.cons (ou4.bn (BN.of (s13.trans (s14.trans (s15.trans (s16.trans (s17.trans (s18.trans (s19.trans (Same.refl _))))))))))
          (AllV.cons (ou5.bn (BN.of (s14.trans (s15.trans (s16.trans (s17.trans (s18.trans (s19.trans (Same.refl _)))))))))
          (AllV.cons (ou6.bn (BN.of (s15.trans (s16.trans (s17.trans (s18.trans (s19.trans (Same.refl _))))))))
          (AllV.cons (ou9.bn (BN.of (s18.trans (s19.trans (Same.refl _)))))
          AllV.nil)))))))
      have S0 := (s1.trans (s2.trans (s3.trans (s4.trans (s5.trans (s6.trans (s7.trans (s8.trans (s9.trans (s10.trans (s12b.trans (s13.trans (s14.trans (s15.trans (s16.trans (s17.trans (s18.trans (s19.trans (Same.refl _)))))))))))))))))))
      exact ⟨k, _, P.same S0, SqL.of upd_same, by show 0 < 35; decide, by show 35 ≤ 10 ^ 20; decide, fun v H' hv P' b => q v H' ((A v hv).but mp b) P' ((But.of S0).trans b)⟩
    · exact h.elim
end
end K13

set_option Elab.async false
set_option linter.all false
set_option maxRecDepth 100000
set_option maxHeartbeats 4000000
namespace K13
open PySem PySem.Spec PyProof.Rows L2 CL LamX
abbrev sRt : Stmt := topS 23
abbrev nRt : List Str := ["_law_pen_here", "_law_plane", "_law_axis", "_law_place", "_law_front", "_law_u", "_law_v", "_law_step", "_law_ends", "_law_due_here", "_law_moved"]
abbrev pRt : List Str := ["_law_pen_here", "_law_plane", "_law_axis", "_law_place", "_law_front"]
theorem scRt : FnScope nRt pRt (defScope sRt) := ⟨rfl, rfl, rfl, by decide +kernel, rfl, by decide +kernel, by decide +kernel⟩
abbrev sLaw : Stmt := topS 24
abbrev nLaw : List Str := ["_law_script", "_law_pen_here", "_law_turn", "_law_axis", "_law_place", "_law_front", "_law_plane", "_law_some", "_law_k", "_law_value"]
abbrev pLaw : List Str := ["_law_script"]
theorem scLaw : FnScope nLaw pLaw (defScope sLaw) := ⟨rfl, rfl, rfl, by decide +kernel, rfl, by decide +kernel, by decide +kernel⟩
/-- the two defs that hand out lambdas: their code objects and tables -/
structure Tb where
  c1 : Addr
  P1 : Addr
  c2 : Addr
  P2 : Addr
def qR : Str := (envOfC "_law_right" (defScope sRt) 0 0 .none).qual ++ "<lambda>"
def qL : Str := (envOfC "law" (defScope sLaw) 0 0 .none).qual ++ "<lambda>"
def Tb.T (t : Tb) : List (Addr × Str) := [(t.P1, qR), (t.P2, qL)]
structure TbOk (base : Heap) (mg : Str → Option Value) (t : Tb) : Prop where
  ne : t.P1 ≠ t.P2
  b1 : TabB base mg t.c1 t.P1
  b2 : TabB base mg t.c2 t.P2
theorem Tb.memR (t : Tb) : (t.P1, qR) ∈ t.T := List.mem_cons_self
theorem Tb.memL (t : Tb) : (t.P2, qL) ∈ t.T := List.mem_cons_of_mem _ List.mem_cons_self
theorem Tb.uniR {t : Tb} (h : t.P1 ≠ t.P2) : ∀ p ∈ t.T, p.1 = t.P1 → p.2 = qR := fun p hp e => by
  rcases List.mem_cons.mp hp with rfl | hp
  · rfl
  · rcases List.mem_cons.mp hp with rfl | hp
    · exact absurd e.symm h
    · exact nomatch hp
theorem Tb.uniL {t : Tb} (h : t.P1 ≠ t.P2) : ∀ p ∈ t.T, p.1 = t.P2 → p.2 = qL := fun p hp e => by
  rcases List.mem_cons.mp hp with rfl | hp
  · exact absurd e h
  · rcases List.mem_cons.mp hp with rfl | hp
    · rfl
    · exact nomatch hp
/-- all that is known of the package's defs and classes -/
structure Pt (P : Program) (w : World) (K : PySem.W.Frag) (mg : Str → Option Value) (base : Heap) (c : Ad) : Prop where
  T : Tx P w K mg base c
  R : Rx K mg c
  B : BltL mg
  rF : FunAt K mg "_law_refused" sRef pRef
  init : ∃ fd ds, FnOk P w K mg base (L2.CX P w) 4 c.fI fd pPlI (spInit K c) ∧ Binds K fd pPlI [] ∧ Vals [.int 1] ds ∧ Binds K fd pPlI ds
  pt : ∃ f fd, Meth K c.pl "point_at" f ∧ FnOk P w K mg base CX0 1 f fd pPlP (spPt K c) ∧ Binds K fd pPlP []
  eq : ∃ f fd, PySem.W.findIn K (.ref c.pl) "__eq__" = some (some (.ref f)) ∧ PySem.W.isFn K (.ref f) = true ∧ NeC K c.pl f ∧ FnOk P w K mg base CX0 1 f fd pPlE (spEq K c) ∧ Binds K fd pPlE []
  ng : ∃ f fd, PySem.W.findIn K (.ref c.pl) "__neg__" = some (some (.ref f)) ∧ PySem.W.isFn K (.ref f) = true ∧ FnOk P w K mg base CX0 6 f fd pPlN (spNeg c) ∧ Binds K fd pPlN []
  ad : ∃ f fd, AddC K c.pl f ∧ FnOk P w K mg base (L2.CX P w) 6 f fd pPlA (spAdd K c) ∧ Binds K fd pPlA []
theorem make_good {K : PySem.W.Frag} {c : Ad} {s : Str} {i j : Int} {H : Hp} {Q : VK} {E : XK} (hs : axB (.str s) = true) (hi : coB (.int i) = true) (hj : frB (.int j) = true) (q : NewPl c H (.str s) (.int i) (.int j) Q) :
    ∀ x dx, H x = none → H dx = none → dx ≠ x → spInit K c [.ref x, .str s, .int i, .int j] (upd (upd H dx (.own x)) x (.ins c.pl dx [])) (fun v H2 => v = .non ∧ Q (.ref x) H2) E := fun x dp hp hd _ => by
  refine ⟨dp, upd_same, ⟨_, .str _⟩, ⟨_, .int _⟩, ⟨_, .int _⟩, ?_⟩
  unfold plWay
  rw [if_pos hs, if_pos hi, if_pos hj]
  refine fun H' ho hp' => ⟨rfl, q x H' (fun b o z => ?_) hp ⟨dp, hp'⟩⟩
  have n1 := ne_of_none z hp
  have n2 := ne_of_none z hd
  exact ho b o n1 (by rw [upd_ne n1, upd_ne n2]; exact z)
theorem tMake_good {K : PySem.W.Frag} {c : Ad} {s : Str} {i j : Int} {H : Hp} {Q : VK} {E : XK} {ta : TA} {σ : L2.St} (hta : ∀ R : List V → Hp → Prop, R [.str s, .int i, .int j] H → ta σ H R) (hs : axB (.str s) = true) (hi : coB (.int i) = true) (hj : frB (.int j) = true) (q : NewPl c H (.str s) (.int i) (.int j) Q) :
    tMake c.pl (spInit K c) [] E ta σ H Q := hta _ (make_good hs hi hj q)
def sel {α : Type} (s : Str) (x y z : α) : α := if s = "x" then x else if s = "y" then y else z
theorem neS {x : V} {A B : Prop} (h : B) : if (!decide (x = x)) = true then A else B := by
  rw [decide_eq_true rfl]; exact h
theorem disp_same {H H' : Hp} {p : Addr} {o : HO} (np : H p = none) (s : Same (upd H p (.dK [])) H') : Same H (upd H' p o) := fun b o z => by
  have nb := ne_of_none z np
  rw [upd_ne nb]
  exact s b o (by rw [upd_ne nb]; exact z)
theorem disp_at {H : Hp} {p t : Addr} {o o' : HO} (n : t ≠ p) (h : H t = some o') : upd H p o t = some o' := by rw [upd_ne n]; exact h
theorem disp3 {H : Hp} {p t1 t2 t3 : Addr} (o1 o2 o3 o : HO) (np : H p = none) (n1 : upd H p (.dK []) t1 = none) (n2 : upd (upd H p (.dK [])) t1 o1 t2 = none) (n3 : upd (upd (upd H p (.dK [])) t1 o1) t2 o2 t3 = none) :
    upd (upd (upd (upd H p (.dK [])) t1 o1) t2 o2) t3 o3 p = some (.dK []) ∧ Same H (upd (upd (upd (upd (upd H p (.dK [])) t1 o1) t2 o2) t3 o3) p o) ∧ upd (upd (upd (upd (upd H p (.dK [])) t1 o1) t2 o2) t3 o3) p o t1 = some o1 ∧
      upd (upd (upd (upd (upd H p (.dK [])) t1 o1) t2 o2) t3 o3) p o t2 = some o2 ∧ upd (upd (upd (upd (upd H p (.dK [])) t1 o1) t2 o2) t3 o3) p o t3 = some o3 := by
  have z1 := same_new (o := o1) n1
  have z2 := same_new (o := o2) n2
  have z3 := same_new (o := o3) n3
  have m1 : t1 ≠ p := (ne_of_none upd_same n1).symm
  have m2 : t2 ≠ p := (ne_of_none (z1 _ _ upd_same) n2).symm
  have m3 : t3 ≠ p := (ne_of_none (z2 _ _ (z1 _ _ upd_same)) n3).symm
  exact ⟨z3 _ _ (z2 _ _ (z1 _ _ upd_same)), disp_same np ((z1.trans z2).trans z3), disp_at m1 (z3 _ _ (z2 _ _ upd_same)), disp_at m2 (z3 _ _ upd_same), disp_at m3 upd_same⟩
theorem dget3 {H : Hp} {a : Addr} {s : Str} {x y z : V} (e : H a = some (.dK [(.inr "x", x), (.inr "y", y), (.inr "z", z)])) (hs : axB (.str s) = true) : DGet H a (.str s) (some (sel s x y z)) := by
  rcases axB_str hs with rfl | rfl | rfl
  · exact dget_of (k := .inr "x") e (by rfl)
  · exact dget_of (k := .inr "y") e (by rfl)
  · exact dget_of (k := .inr "z") e (by rfl)
/-- what stays while the law looks at a plane -/
structure Bd (c : Ad) (t : Tb) (p a : Addr) (s : Str) (i j : Int) (k : Nat) (H0 H : Hp) : Prop where
  pl : IsPl c H a (.str s) (.int i) (.int j)
  P : PenB H p k
  b : BN (· = p) H0 H
  tb : Tabs t.T H
section
variable {c : Ad} {t : Tb} {p a : Addr} {s : Str} {i j : Int} {k k' : Nat} {H0 H H' : Hp}
theorem IsPl.same {x y z : V} (h : IsPl c H a x y z) (s : Same H H') : IsPl c H' a x y z := by
  obtain ⟨dx, h⟩ := h
  exact ⟨dx, s _ _ h⟩
theorem IsPl.bn {x y z : V} (h : IsPl c H a x y z) (P : PenB H p k) (s : BN (· = p) H H') : IsPl c H' a x y z := by
  obtain ⟨dx, h⟩ := h
  exact ⟨dx, s _ _ (P.ne h fun _ z => nomatch z) h fun _ z => nomatch z⟩
theorem Bd.same (h : Bd c t p a s i j k H0 H) (z : Same H H') : Bd c t p a s i j k H0 H' := ⟨h.pl.same z, h.P.same z, h.b.trans (.of z), tabs_same h.tb z⟩
theorem Bd.new (h : Bd c t p a s i j k H0 H) {l : Addr} (n : H l = none) (o : HO) : Bd c t p a s i j k H0 (upd H l o) := h.same (same_new n)
theorem Bd.but (h : Bd c t p a s i j k H0 H) (z : But p H H') (P : PenB H' p k') : Bd c t p a s i j k' H0 H' := ⟨h.pl.bn h.P (.but rfl z), P, h.b.trans (.but rfl z), tabs_but h.tb h.P z⟩
theorem Bd.ext (h : Bd c t p a s i j k H0 H) (z : ExtN H H') (tb : Tabs t.T H') : Bd c t p a s i j k H0 H' := ⟨h.pl.bn h.P (.ext z), h.P.ext z, h.b.trans (.ext z), tb⟩
end
theorem fit_ints {i j k : Int} (h1 : i.natAbs ≤ 10 ^ 95) (h2 : j.natAbs ≤ 10 ^ 95) (h3 : k.natAbs ≤ 10 ^ 95) : Fit (.tuple [.int i, .int j, .int k]) := by
  have a := fit_int h1
  have b := fit_int h2
  have d := fit_int h3
  refine ⟨?_, fun z => ?_, ?_, ?_, ?_⟩
  · simp [PyData.showable, PyData.showableAll] at *; exact ⟨natAbs_log h1, natAbs_log h2, natAbs_log h3⟩
  · simp [PyData.hasDict, PyData.hasDictAll] at z
  · simp [PyData.depth, PyData.depthAll]
  · have := a.lv; have := b.lv; have := d.lv
    simp only [PyData.leavesShort, PyData.leavesShortAll, Bool.and_true, Bool.and_eq_true] at *
    exact ⟨a.lv, b.lv, d.lv⟩
  · have := natAbs_log h1; have := natAbs_log h2; have := natAbs_log h3
    simp only [PyData.weight, PyData.weightAll]
    split <;> split <;> split <;> omega
theorem fit_sij {s : Str} {i j : Int} (hs : axB (.str s) = true) (h2 : i.natAbs ≤ 10 ^ 95) (h3 : j.natAbs ≤ 10 ^ 95) : Fit (.list [.str s, .int i, .int j]) := by
  have b := fit_int h2
  have d := fit_int h3
  have a : Fit (.str s) := by
    rcases axB_str hs with rfl | rfl | rfl <;> exact (fitB_ok (by decide +kernel)).1
  have hw : s.cps.size = 1 := by rcases axB_str hs with rfl | rfl | rfl <;> decide +kernel
  refine ⟨?_, fun z => ?_, ?_, ?_, ?_⟩
  · simp [PyData.showable, PyData.showableAll] at *; exact ⟨natAbs_log h2, natAbs_log h3⟩
  · simp [PyData.hasDict, PyData.hasDictAll] at z
  · simp [PyData.depth, PyData.depthAll]
  · simp only [PyData.leavesShort, PyData.leavesShortAll, Bool.and_true, Bool.and_eq_true] at *
    exact ⟨a.lv, b.lv, d.lv⟩
  · have := natAbs_log h2; have := natAbs_log h3
    simp only [PyData.weight, PyData.weightAll]
    split <;> split <;> omega
theorem dirs_eq {P : Program} {w : World} {K : PySem.W.Frag} {mg : Str → Option Value} {base : Heap} {c : Ad} {s : Str} {H : Hp} {t1 t2 t3 : Addr} (T : Tx P w K mg base c) (hs : axB (.str s) = true)
    (e1 : H t1 = some (.tup [.str "y", .str "z"])) (e2 : H t2 = some (.tup [.str "z", .str "x"])) (e3 : H t3 = some (.tup [.str "x", .str "y"])) : ∃ d, Dp K H (c.dir (.str s)) d ∧ Dp K H (sel s (V.ref t1) (.ref t2) (.ref t3)) d ∧ SeqAt.shaped d = true ∧ PyData.eqv d d = true := by
  rcases axB_str hs with e | e | e <;> subst e
  · exact ⟨.tuple [.str "y", .str "z"], .tup (T.tx _) (.cons (.str _) (.cons (.str _) .nil)), .tup (.of e1) (.cons (.str _) (.cons (.str _) .nil)), by decide +kernel, by decide +kernel⟩
  · exact ⟨.tuple [.str "z", .str "x"], .tup (T.ty _) (.cons (.str _) (.cons (.str _) .nil)), .tup (.of e2) (.cons (.str _) (.cons (.str _) .nil)), by decide +kernel, by decide +kernel⟩
  · exact ⟨.tuple [.str "x", .str "y"], .tup (T.tz _) (.cons (.str _) (.cons (.str _) .nil)), .tup (.of e3) (.cons (.str _) (.cons (.str _) .nil)), by decide +kernel, by decide +kernel⟩
theorem due_eq {K : PySem.W.Frag} {s : Str} {H : Hp} {y1 y2 y3 : Addr} {i u v : Int} (hs : axB (.str s) = true) (bi : i.natAbs ≤ 10 ^ 95) (bu : u.natAbs ≤ 10 ^ 95) (bv : v.natAbs ≤ 10 ^ 95)
    (e1 : H y1 = some (.tup [.int i, .int u, .int v])) (e2 : H y2 = some (.tup [.int v, .int i, .int u])) (e3 : H y3 = some (.tup [.int u, .int v, .int i])) :
    ∃ ds, (∀ Hx, DqA K Hx (ptOf s (.int i) (.int u) (.int v)) ds) ∧ Dq K H (sel s (V.ref y1) (.ref y2) (.ref y3)) (.tuple ds) ∧ Fit (.tuple ds) := by
  rcases axB_str hs with e | e | e <;> subst e
  · exact ⟨[.int i, .int u, .int v], fun _ => .cons (.int _) (.cons (.int _) (.cons (.int _) .nil)), .tup (.of e1) (.cons (.int _) (.cons (.int _) (.cons (.int _) .nil))), fit_ints bi bu bv⟩
  · exact ⟨[.int v, .int i, .int u], fun _ => .cons (.int _) (.cons (.int _) (.cons (.int _) .nil)), .tup (.of e2) (.cons (.int _) (.cons (.int _) (.cons (.int _) .nil))), fit_ints bv bi bu⟩
  · exact ⟨[.int u, .int v, .int i], fun _ => .cons (.int _) (.cons (.int _) (.cons (.int _) .nil)), .tup (.of e3) (.cons (.int _) (.cons (.int _) (.cons (.int _) .nil))), fit_ints bu bv bi⟩
def spRight (c : Ad) (t : Tb) : Sp := fun vs H Q _ => match vs with
  | [.ref p, .ref a, .str s, .int i, .int j] => ∃ k, Bd c t p a s i j (k + 100) H H ∧ axB (.str s) = true ∧ coB (.int i) = true ∧ frB (.int j) = true ∧ ∀ H', Bd c t p a s i j k H H' → Q (.bl true) H'
  | _ => False
section
variable {P : Program} {w : World} {K : PySem.W.Frag} {mg : Str → Option Value} {base : Heap} {c : Ad} {t : Tb}
theorem ok_right (G : Pt P w K mg base c) (S : TbOk base mg t) (DD : DefOk P w K mg base CX0 5 "_law_draw" pDraw spDr) (DP : DefOk P w K mg base CX0 6 "_law_pick" pPick (spPick K)) (DA : DefOk P w K mg base CX0 6 "_law_around" pAround spAround)
    (DGr : DefOk P w K mg base CX0 7 "_law_great" pGreat spGreat) (F : FunC K mg "_law_right" sRt pRt t.c1) : DefG P w K mg base CX0 13 "_law_right" pRt (spRight c t) := by
  have B := G.B
  obtain ⟨fdI, dsI, okI, bI, vI, bI1⟩ := G.init
  obtain ⟨fP, fdP, mP, okP, bP⟩ := G.pt
  obtain ⟨fE, fdE, eF, eI, ne, okE, bE⟩ := G.eq
  obtain ⟨fN, fdN, nF, nI, okN, bN⟩ := G.ng
  obtain ⟨fA, fdA, aC, okA, bA⟩ := G.ad
  refine F.okG scRt (fun vs H Q E h => ?_) (fun f A outer s H vs Q E hG hr h => ?_)
  · unfold spRight at h
    split at h
    · rfl
    · exact h.elim
  · have hu := hu_of hr
    refine ⟨_, (pss_cons (ps_asg (pe_tup (pa_cons (pe_def DGr hr (by decide) (pa_cons (cv 0) (pa_cons (pe_pow (z := 1000000000000000000000000000000) ⟨⟨by decide, by decide, by decide⟩, by decide +kernel⟩) pa_nil))) (pa_cons (pe_def DA hr (by decide) (pa_cons (cv 0) (pa_cons pe_int pa_nil))) (pa_cons (pe_def DGr hr (by decide) (pa_cons (cv 0) (pa_cons (pe_pow (z := 1000000000000000000000000000000) ⟨⟨by decide, by decide, by decide⟩, by decide +kernel⟩) pa_nil))) pa_nil)))) (pg_tup (by rfl) (pgs_cons (pg_name (i := 5) scRt.nd rfl (.inl rfl)) (pgs_cons (pg_name (i := 6) scRt.nd rfl (.inl rfl)) (pgs_cons (pg_name (i := 7) scRt.nd rfl (.inr rfl)) pgs_nil)))))
  (pss_cut (ps_if (ct_cmp op_eq (pe_def DD hr (by decide) (pa_cons (cv 0) (pa_cons pe_int pa_nil))) pe_int (nomark _))
  (pss_cons (ps_set (i := 8) scRt.nd rfl (.inl rfl) (pe_lst (pa_cons (pe_op c_sub (pe_pow (z := 1000000000000000000000000000000) ⟨⟨by decide, by decide, by decide⟩, by decide +kernel⟩) (cv 3)) (pa_cons (pe_op c_sub (pe_op c_sub pe_int (pe_pow (z := 1000000000000000000000000000000) ⟨⟨by decide, by decide, by decide⟩, by decide +kernel⟩)) (cv 3)) (pa_cons (pe_op c_mul pe_int (pe_pow (z := 1000000000000000000000000000000) ⟨⟨by decide, by decide, by decide⟩, by decide +kernel⟩)) (pa_cons (pe_op c_sub pe_int (pe_op c_mul pe_int (pe_pow (z := 1000000000000000000000000000000) ⟨⟨by decide, by decide, by decide⟩, by decide +kernel⟩))) (pa_cons (pe_op c_mul (pe_pow (z := 100000000000000000000000000000000000000000000000000) ⟨⟨by decide, by decide, by decide⟩, by decide +kernel⟩) (pe_pow (z := 10000000000000000000000000000000000000000) ⟨⟨by decide, by decide, by decide⟩, by decide +kernel⟩)) pa_nil)))))))
  (pss_one (ps_set (i := 7) scRt.nd rfl (.inr rfl) (pe_op c_addI (pe_op c_mul (cv 4) (pe_def DP hr (by decide) (pa_cons (cv 0) (pa_cons (cv 8) pa_nil)))) (pe_def DA hr (by decide) (pa_cons (cv 0) (pa_cons pe_int pa_nil)))))))
  pss_nil)
  (pss_cons (ps_if (ct_cmp op_ne (pe_callB (c_repr (by exact hG) (by exact hr.units)) (by rfl) B.repr (by decide +kernel) (pa_cons (pe_lst (pa_cons (pe_fld (cv 1) rfl) (pa_cons (pe_fld (cv 1) rfl) (pa_cons (pe_fld (cv 1) rfl) pa_nil)))) pa_nil)) (pe_callB (c_repr (by exact hG) (by exact hr.units)) (by rfl) B.repr (by decide +kernel) (pa_cons (pe_lst (pa_cons (cv 2) (pa_cons (cv 3) (pa_cons (cv 4) pa_nil)))) pa_nil)) (nomark _))
  (pss_one (ps_ret pe_bl))
  pss_nil)
  (pss_cons (ps_if (ct_cmp (op_neD (by exact hr.units)) (pe_fld (cv 1) rfl) (pe_dget hu (pe_disp (pps_cons pe_str (pe_tup (pa_cons pe_str (pa_cons pe_str pa_nil))) (pps_cons pe_str (pe_tup (pa_cons pe_str (pa_cons pe_str pa_nil))) (pps_cons pe_str (pe_tup (pa_cons pe_str (pa_cons pe_str pa_nil))) pps_nil))) (by rfl) (by rfl) (by simp) (by decide)) (cv 2) (fun _ _ => rfl)) (nomark _))
  (pss_one (ps_ret pe_bl))
  pss_nil)
  (pss_cons (ps_set (i := 9) scRt.nd rfl (.inl rfl) (pe_dget hu (pe_disp (pps_cons pe_str (pe_tup (pa_cons (cv 3) (pa_cons (cv 5) (pa_cons (cv 6) pa_nil)))) (pps_cons pe_str (pe_tup (pa_cons (cv 6) (pa_cons (cv 3) (pa_cons (cv 5) pa_nil)))) (pps_cons pe_str (pe_tup (pa_cons (cv 5) (pa_cons (cv 6) (pa_cons (cv 3) pa_nil)))) pps_nil))) (by rfl) (by rfl) (by simp) (by decide)) (cv 2) (fun _ _ => rfl)))
  (pss_cons (ps_if (ct_cmp op_ne (pe_callB (c_repr (by exact hG) (by exact hr.units)) (by rfl) B.repr (by decide +kernel) (pa_cons (pe_meth (cv 1) G.T.own.cl mP okP (hr.mono (by decide)) bP .nil pass0 (pa_cons (cv 5) (pa_cons (cv 6) pa_nil)) rfl rfl rfl) pa_nil)) (pe_callB (c_repr (by exact hG) (by exact hr.units)) (by rfl) B.repr (by decide +kernel) (pa_cons (cv 9) pa_nil)) (nomark _))
  (pss_one (ps_ret pe_bl))
  pss_nil)
  (pss_cons (ps_if (PW.pt (pw_or (ct_cmp (c_neO ne okE (hr.mono (by decide)) bE pass0) (pe_un (c_negO nF nI okN (hr.mono (by decide)) bN pass0) (cv 1)) (pe_make G.T.mkp okI (hr.mono (by decide)) (by rfl) G.T.plg bI .nil not_raised (pa_cons (cv 2) (pa_cons (cv 3) (pa_cons (pe_op c_sub pe_int (cv 4)) pa_nil)))) (nomark _)) (pw_or (ct_cmp (c_eqO G.T.own eF eI okE (hr.mono (by decide)) bE pass0) (pe_un (c_negO nF nI okN (hr.mono (by decide)) bN pass0) (cv 1)) (cv 1) (nomark _)) (pw_or1 (ct_cmp (c_neO ne okE (hr.mono (by decide)) bE pass0) (pe_un (c_negO nF nI okN (hr.mono (by decide)) bN pass0) (pe_un (c_negO nF nI okN (hr.mono (by decide)) bN pass0) (cv 1))) (cv 1) (nomark _))))))
  (pss_one (ps_ret pe_bl))
  pss_nil)
  (pss_cons (ps_if (ct_cmp c_gt (pe_callB c_abs (by rfl) B.abs (by decide +kernel) (pa_cons (pe_op c_addI (cv 3) (pe_op c_mul (cv 4) (cv 7))) pa_nil)) (pe_pow (z := 1000000000000000000000000000000) ⟨⟨by decide, by decide, by decide⟩, by decide +kernel⟩) (nomark _))
  (pss_one (ps_ret (pe_cmpR (op_eqD (by exact hr.units)) (pe_lam (T := t.T) (k := 8) G.rF (fun _ _ => ref_gives G.R (by exact hG) (hr.mono (by decide))) scRef S.b1 rfl (hr.mono (by decide)) t.memR (Tb.uniR S.ne) (lamS_by (sc := defScope sRt) (by decide +kernel)) (fun A outer s H E f c' hr2 => pe_op (show OpR _ (binaryOp .Add) (cAddO K c.pl (spAdd K c) E) from c_addO G.T.own aC okA (hr2.mono (by decide)) bA lam_passes) (cv 1) (cv 7))) (pe_lst (pa_cons pe_str (pa_cons pe_str (pa_cons pe_bl pa_nil)))) (nomark _))))
  pss_nil)
  (pss_cons (ps_set (i := 10) scRt.nd rfl (.inl rfl) (pe_op (c_addO G.T.own aC okA (hr.mono (by decide)) bA not_raised) (cv 1) (cv 7)))
  (pss_cons (ps_if (ct_cmp (op_neD (by exact hr.units)) (pe_tup (pa_cons (pe_fld (cv 10) rfl) (pa_cons (pe_fld (cv 10) rfl) (pa_cons (pe_fld (cv 10) rfl) pa_nil)))) (pe_tup (pa_cons (cv 2) (pa_cons (pe_op c_addI (cv 3) (pe_op c_mul (cv 4) (cv 7))) (pa_cons (cv 4) pa_nil)))) (nomark _))
  (pss_one (ps_ret pe_bl))
  pss_nil)
  (pss_one (ps_ret (pe_cmpR op_eq (pe_cmpR (c_eqO G.T.own eF eI okE (hr.mono (by decide)) bE pass0) (cv 10) (cv 1) (nomark _)) (pe_cmpR op_eq (cv 7) pe_int (nomark _)) (nomark _)))))))))))))), ?_⟩
    unfold spRight at h
    split at h
    · rename_i p a s i j
      obtain ⟨k, D, hs, hi, hj, q⟩ := h
      have hi' : (i.natAbs : Int) ≤ 1000000000000000000000000000000 := of_decide_eq_true hi
      have hj' := frB_j hj
      have sz2 : 2 ≤ sizeLine := by decide
      have sz3 : 3 ≤ sizeLine := by decide
      refine ⟨k + 75, D.P, by decide, by decide, fun u H1 u1 u2 P1 b1 => ⟨k + 70, P1, by decide, by decide, fun v H2 v1 v2 P2 b2 => ⟨k + 45, P2, by decide, by decide, fun st H3 w1 w2 P3 b3 => ⟨sz3, fun tp ntp => ?_⟩⟩⟩⟩
      have D3 := ((D.but b1 P1).but b2 P2).but b3 P3
      have D4 := D3.same (same_new (o := .tup [.int u, .int v, .int st]) ntp)
      refine ⟨tp, _, rfl, .inl (.inl upd_same), rfl, _, _, rfl, _, _, rfl, _, _, rfl, rfl, ?_⟩
      refine ⟨fun σ' H' => ∃ (z : Int) (e : Option V), z.natAbs ≤ 10 ^ 92 ∧ Bd c t p a s i j (k + 20) H H' ∧ σ' = [some (.ref p), some (.ref a), some (.str s), some (.int i), some (.int j), some (.int u), some (.int v), some (.int z), e, none, none], ?_, ?_⟩
      · refine ⟨k + 40, D4.P, by decide, by decide, fun d H5 d1 d2 P5 b5 => ⟨rfl, iteD (fun _ => ?_) (fun _ => ?_)⟩⟩
        · have D5 := D4.but b5 P5
          refine ⟨few_of (by decide) (by decide) (by decide) (by decide), few_of (by decide) (by decide) (by decide) (by decide), few_of (by decide) (by decide) (by decide) (by decide), by show 5 ≤ sizeLine; decide, fun l nl => ?_⟩
          have D6 := D5.new nl
          refine ⟨k + 35, _, (D6 _).P, SqL.of upd_same, by show 0 < 5; decide, by show 5 ≤ 10 ^ 20; decide, fun x H7 hx P7 b7 => ?_⟩
          have D7 := (D6 _).but b7 P7
          obtain ⟨z, rfl, hz⟩ : ∃ z : Int, x = .int z ∧ z.natAbs ≤ 10 ^ 91 := by
            simp only [List.mem_cons, List.not_mem_nil, or_false] at hx
            rcases hx with rfl | rfl | rfl | rfl | rfl
            · exact ⟨_, rfl, by omega⟩
            · exact ⟨_, rfl, by omega⟩
            · exact ⟨_, rfl, by decide⟩
            · exact ⟨_, rfl, by decide⟩
            · exact ⟨_, rfl, by decide⟩
          refine ⟨few_of (by omega) (by omega) (by omega) (by omega), k + 30, D7.P, by decide, by decide, fun r H8 r1 r2 P8 b8 => ?_⟩
          have D8 := D7.but b8 P8
          refine ⟨j * z + r, _, ?_, ⟨D8.pl, D8.P.mono (by omega), D8.b, D8.tb⟩, rfl⟩
          rcases hj' with rfl | rfl <;> omega
        · have D5 := D4.but b5 P5
          exact ⟨st, _, by omega, ⟨D5.pl, D5.P.mono (by omega), D5.b, D5.tb⟩, rfl⟩
      rintro σ' H9 ⟨z, e8, hz, D9, rfl⟩
      obtain ⟨l1, l2, l3, l4, l5⟩ := plF_at (.str s) (.int i) (.int j) (c.dir (.str s))
      have fl : Fit (.list [.str s, .int i, .int j]) := fit_sij hs (by omega) (by omega)
      obtain ⟨dx, ha9⟩ := D9.pl
      -- the plane's axis, place, front
      refine ⟨a, c.pl, dx, _, _, rfl, ha9, G.T.own.cl, G.T.nA, l1, a, c.pl, dx, _, _, rfl, ha9, G.T.own.cl, G.T.nT, l2, a, c.pl, dx, _, _, rfl, ha9, G.T.own.cl, G.T.nF, l3, sz3, fun q1 nq1 => ⟨.list [.str s, .int i, .int j], .lst (SqL.of upd_same) (.cons (.str _) (.cons (.int _) (.cons (.int _) .nil))), fl, sz3, fun q2 nq2 =>
        ⟨.list [.str s, .int i, .int j], .lst (SqL.of upd_same) (.cons (.str _) (.cons (.int _) (.cons (.int _) .nil))), fl, rfl, neS ?_⟩⟩⟩
      have D11 := (D9.new nq1 (.lst [.str s, .int i, .int j])).new nq2 (.lst [.str s, .int i, .int j])
      obtain ⟨dx, ha11⟩ := D11.pl
      -- its directions
      refine ⟨a, c.pl, dx, _, _, rfl, ha11, G.T.own.cl, G.T.nD, l4, fun dd ndd => ⟨sz2, fun t1 nt1 => ⟨sz2, fun t2 nt2 => ⟨sz2, fun t3 nt3 => ?_⟩⟩⟩⟩
      obtain ⟨zp, zs, e1, e2, e3⟩ := disp3 (.tup [.str "y", .str "z"]) (.tup [.str "z", .str "x"]) (.tup [.str "x", .str "y"]) (.dK [(.inr "x", .ref t1), (.inr "y", .ref t2), (.inr "z", .ref t3)]) ndd nt1 nt2 nt3
      refine ⟨zp, [(.inr "x", .ref t1), (.inr "y", .ref t2), (.inr "z", .ref t3)], rfl, by show 3 ≤ 15; decide, dd, _, rfl, dget3 upd_same hs, ?_⟩
      have D12 := D11.same zs
      obtain ⟨d1, f1, f2, f3, f4⟩ := dirs_eq G.T hs e1 e2 e3
      refine ⟨d1, d1, f1, f2, f3, f3, ?_⟩
      show if (!(PyData.eqv d1 d1)) = true then _ else _
      rw [f4]
      refine iteF ?_
      clear f1 f2 f3 f4 e1 e2 e3 zp zs
      -- the point that is due
      refine (fun (dq : Addr) ndq => ⟨sz3, fun y1 ny1 => ⟨sz3, fun y2 ny2 => ⟨sz3, fun y3 ny3 => ?_⟩⟩⟩)
      obtain ⟨zp, zs, e1, e2, e3⟩ := disp3 (.tup [.int i, .int u, .int v]) (.tup [.int v, .int i, .int u]) (.tup [.int u, .int v, .int i]) (.dK [(.inr "x", .ref y1), (.inr "y", .ref y2), (.inr "z", .ref y3)]) ndq ny1 ny2 ny3
      refine ⟨zp, [(.inr "x", .ref y1), (.inr "y", .ref y2), (.inr "z", .ref y3)], rfl, by show 3 ≤ 15; decide, dq, _, rfl, dget3 upd_same hs, ?_⟩
      have D13 := D12.same zs
      obtain ⟨ds, g1, g2, g3⟩ := due_eq (K := K) hs (show i.natAbs ≤ 10 ^ 95 by omega) (show u.natAbs ≤ 10 ^ 95 by omega) (show v.natAbs ≤ 10 ^ 95 by omega) e1 e2 e3
      obtain ⟨dx, ha13⟩ := D13.pl
      refine ⟨a, dx, _, rfl, ha13, l5, s, .int i, .int j, ⟨dx, ha13⟩, hs, fun q3 H14 s14 hq3 => ⟨.tuple ds, .tup hq3 (g1 _), g3, .tuple ds, Dq.same s14 g2, g3, rfl, neS ?_⟩⟩
      have D14 := D13.same s14
      obtain ⟨dx, ha14⟩ := D14.pl
      have hjn : frB (.int (-j)) = true := by rcases hj' with rfl | rfl <;> rfl
      -- the other front
      refine ⟨⟨_, _, ha14⟩, s, i, j, D14.pl, hs, hi, hj, fun m1 H15 s15 nm1 pl1 => ?_⟩
      have D15 := D14.same s15
      refine tMake_good (s := s) (i := i) (j := 0 - j) (fun _ h => h) hs hi (by rw [Int.zero_sub]; exact hjn) fun m2 H16 s16 nm2 pl2 => ?_
      have D16 := D15.same s16
      obtain ⟨dx1, hm1⟩ := id (pl1.same s16)
      obtain ⟨dx2, hm2⟩ := id pl2
      refine ⟨⟨_, _, hm1⟩, ⟨_, _, hm2⟩, s, i, -j, hs, ⟨_, hm1⟩, .inl ⟨m2, s, i, 0 - j, hs, rfl, ⟨_, hm2⟩, fun H17 s17 => ?_⟩⟩
      have D17 := D16.same s17
      rw [show decide (s = s ∧ i = i ∧ -j = 0 - j) = true from decide_eq_true ⟨rfl, rfl, by omega⟩]
      refine iteF ?_
      obtain ⟨dx, ha17⟩ := D17.pl
      refine ⟨⟨_, _, ha17⟩, s, i, j, D17.pl, hs, hi, hj, fun m3 H18 s18 nm3 pl3 => ?_⟩
      have D18 := D17.same s18
      obtain ⟨dx3, hm3⟩ := id pl3
      obtain ⟨dx, ha18⟩ := D18.pl
      refine ⟨⟨_, _, hm3⟩, .inl ⟨_, _, _, rfl, ha18⟩, s, i, -j, hs, ⟨_, hm3⟩, .inl ⟨a, s, i, j, hs, rfl, ⟨_, ha18⟩, fun H19 s19 => ?_⟩⟩
      have D19 := D18.same s19
      rw [show decide (s = s ∧ i = i ∧ -j = j) = false from decide_eq_false (by omega)]
      refine iteF ?_
      obtain ⟨dx, ha19⟩ := D19.pl
      refine ⟨⟨_, _, ha19⟩, s, i, j, D19.pl, hs, hi, hj, fun m4 H20 s20 nm4 pl4 => ?_⟩
      have D20 := D19.same s20
      obtain ⟨dx4, hm4⟩ := id pl4
      refine ⟨⟨_, _, hm4⟩, s, i, -j, pl4, hs, hi, hjn, fun m5 H21 s21 nm5 pl5 => ?_⟩
      have D21 := D20.same s21
      obtain ⟨dx5, hm5⟩ := id pl5
      obtain ⟨dx, ha21⟩ := D21.pl
      refine ⟨⟨_, _, hm5⟩, ⟨_, _, ha21⟩, s, i, - -j, hs, ⟨_, hm5⟩, .inl ⟨a, s, i, j, hs, rfl, ⟨_, ha21⟩, fun H22 s22 => ?_⟩⟩
      have D22 := D21.same s22
      rw [show decide (s = s ∧ i = i ∧ - -j = j) = true from decide_eq_true ⟨rfl, rfl, by omega⟩]
      refine iteF ?_
      -- moved forward
      have fz : FewF j z := few_of (by omega) (by omega) (by omega) (by omega)
      have hzb : -(10 ^ 95) ≤ z ∧ z ≤ 10 ^ 95 := ⟨by omega, by omega⟩
      obtain ⟨dx, ha22⟩ := D22.pl
      refine ⟨fz, iteD (fun hb => ?_) (fun hb => ?_)⟩
      · refine ⟨D22.tb, fun H23 x23 tb23 => ?_⟩
        have D23 := D22.ext x23 tb23
        obtain ⟨dx, ha23⟩ := D23.pl
        refine ⟨⟨_, _, ha23⟩, ⟨_, .int _⟩, s, i, j, D23.pl, hs, hi, hj, ⟨_, .int _⟩, hzb, ?_⟩
        have e : coB (.int (i + j * z)) = false := decide_eq_false (by show ¬ ((i + j * z).natAbs : Int) ≤ _; omega)
        rw [e, if_neg Bool.false_ne_true]
        refine fun H24 s24 => .inr ⟨rfl, rfl, fun l nl => ⟨sz3, fun l2 nl2 => ?_⟩⟩
        have D24 := D23.same s24
        have D25 := (D24.new nl (told "bounds" "")).new nl2 (.lst [.str "bounds", .str "", .bl true])
        refine ⟨.list [.str "bounds", .str "", .bool true], .list [.str "bounds", .str "", .bool true], .lst (SqL.of (same_new nl2 l _ upd_same)) (.cons (.str _) (.cons (.str _) (.cons (.bl _) .nil))), .lst (SqL.of upd_same) (.cons (.str _) (.cons (.str _) (.cons (.bl _) .nil))), by decide +kernel, by decide +kernel, ?_⟩
        rw [show PyData.eqv (.list [.str "bounds", .str "", .bool true]) (.list [.str "bounds", .str "", .bool true]) = true by decide +kernel]
        exact q _ ⟨D25.pl, D25.P.mono (by omega), D25.b, D25.tb⟩
      · refine ⟨⟨_, _, ha22⟩, ⟨_, .int _⟩, s, i, j, D22.pl, hs, hi, hj, ⟨_, .int _⟩, hzb, ?_⟩
        have e : coB (.int (i + j * z)) = true := decide_eq_true (by show ((i + j * z).natAbs : Int) ≤ _; omega)
        rw [if_pos e]
        intro m H23 s23 nm pm
        have D23 := D22.same s23
        obtain ⟨k1, k2, k3, k4, _⟩ := plF_at (.str s) (.int (i + j * z)) (.int j) (c.dir (.str s))
        obtain ⟨dm, hm⟩ := id pm
        refine ⟨m, c.pl, dm, _, _, rfl, hm, G.T.own.cl, G.T.nA, k1, m, c.pl, dm, _, _, rfl, hm, G.T.own.cl, G.T.nT, k2, m, c.pl, dm, _, _, rfl, hm, G.T.own.cl, G.T.nF, k3, sz3, fun x1 nx1 => ⟨fz, sz3, fun x2 nx2 => ?_⟩⟩
        have D25 := (D23.new nx1 (.tup [.str s, .int (i + j * z), .int j])).new nx2 (.tup [.str s, .int (i + j * z), .int j])
        have pm25 := (pm.same (same_new (o := .tup [.str s, .int (i + j * z), .int j]) nx1)).same (same_new (o := .tup [.str s, .int (i + j * z), .int j]) nx2)
        refine ⟨.tuple [.str s, .int (i + j * z), .int j], .tuple [.str s, .int (i + j * z), .int j], .tup (.of (same_new nx2 _ _ upd_same)) (.cons (.str _) (.cons (.int _) (.cons (.int _) .nil))), .tup (.of upd_same) (.cons (.str _) (.cons (.int _) (.cons (.int _) .nil))), shp3 hs, shp3 hs, ?_⟩
        rw [eqv3, decide_eq_true (show s = s ∧ i + j * z = i + j * z ∧ j = j from ⟨rfl, rfl, rfl⟩)]
        refine iteF ?_
        obtain ⟨dm, hm⟩ := id pm25
        obtain ⟨dx, ha25⟩ := D25.pl
        refine ⟨⟨_, _, hm⟩, .inl ⟨_, _, _, rfl, ha25⟩, s, i + j * z, j, hs, pm25, .inl ⟨a, s, i, j, hs, rfl, D25.pl, fun H26 s26 => ⟨rfl, rfl, ?_⟩⟩⟩
        have D26 := D25.same s26
        have eb : decide (s = s ∧ i + j * z = i ∧ j = j) = decide (V.int z = V.int 0) := by
          rw [Bool.eq_iff_iff]
          simp only [decide_eq_true_eq, V.int.injEq]
          constructor
          · rintro ⟨_, h2, _⟩
            rcases hj' with rfl | rfl <;> omega
          · rintro rfl
            exact ⟨trivial, by omega, trivial⟩
        rw [eb, decide_eq_true rfl]
        exact q _ ⟨D26.pl, D26.P.mono (by omega), D26.b, D26.tb⟩
    · exact h.elim
end
end K13

set_option Elab.async false
set_option linter.all false
set_option maxRecDepth 100000
set_option maxHeartbeats 8000000
namespace K13
open PySem PySem.Spec PyProof.Rows L2 CL LamX
def spLaw (K : PySem.W.Frag) (t : Tb) : Sp := fun vs H Q _ => match vs with
  | [.ref a] => ∃ ns : List Int, SqL K H a (ns.map V.int) ∧ ns.length ≤ 63 ∧ Tabs t.T H ∧ ∀ H', Q (.bl true) H'
  | _ => False
/-- what stays of a turn's plane -/
structure Lw (c : Ad) (t : Tb) (p m : Addr) (s : Str) (i j : Int) (k : Nat) (H : Hp) : Prop where
  pl : IsPl c H m (.str s) (.int i) (.int j)
  P : PenB H p k
  tb : Tabs t.T H
section
variable {c : Ad} {t : Tb} {p m l : Addr} {s : Str} {i j : Int} {k k' : Nat} {H H' : Hp} {xs ys : List V}
theorem Lw.same (h : Lw c t p m s i j k H) (z : Same H H') : Lw c t p m s i j k H' := ⟨h.pl.same z, h.P.same z, tabs_same h.tb z⟩
theorem Lw.new (h : Lw c t p m s i j k H) {l : Addr} (n : H l = none) (o : HO) : Lw c t p m s i j k (upd H l o) := h.same (same_new n)
theorem Lw.but (h : Lw c t p m s i j k H) (z : But p H H') (P : PenB H' p k') : Lw c t p m s i j k' H' := ⟨h.pl.bn h.P (.but rfl z), P, tabs_but h.tb h.P z⟩
theorem Lw.ext (h : Lw c t p m s i j k H) (z : ExtN H H') (tb : Tabs t.T H') : Lw c t p m s i j k H' := ⟨h.pl.bn h.P (.ext z), h.P.ext z, tb⟩
theorem Lw.mono (h : Lw c t p m s i j k H) (z : k' ≤ k) : Lw c t p m s i j k' H := ⟨h.pl, h.P.mono z, h.tb⟩
/-- a list that is no part of these is altered -/
theorem Lw.set {cc : Addr} (h : Lw c t p m s i j k H) (e : H l = some (.lst xs)) (hc : Cel H p cc) (n : cc ≠ l) : Lw c t p m s i j k (upd H l (.lst ys)) := by
  have hne : ∀ {a : Addr} {o : HO}, H a = some o → (∀ zs, o ≠ .lst zs) → upd H l (.lst ys) a = some o := fun {a o} z q => by
    have : a ≠ l := fun w => by rw [w, e] at z; exact q _ (Option.some.inj z).symm
    rw [upd_ne this]; exact z
  refine ⟨?_, ?_, ?_⟩
  · obtain ⟨dx, z⟩ := h.pl
    exact ⟨dx, hne z fun _ w => nomatch w⟩
  · obtain ⟨c2, ns, b, r, P, hb⟩ := h.P
    have : c2 ≠ l := by rw [hc.at_ P]; exact n
    exact ⟨c2, ns, b, r, ⟨hne P.dict (fun _ w => nomatch w), by rw [upd_ne this]; exact P.cells, P.len, P.b0, P.r0⟩, hb⟩
  · intro q hq
    obtain ⟨ps, h1, h2, h3⟩ := h.tb q hq
    refine ⟨ps, hne h1 (fun _ w => nomatch w), h2, fun pos cv hc => ?_⟩
    obtain ⟨cc, e1, e2⟩ := h3 pos cv hc
    exact ⟨cc, e1, hne e2 (fun _ w => nomatch w)⟩
end
theorem mok2 {p l : Addr} {k : Nat} {H : Hp} {o : HO} (P : PenB H p k) (e : H l = some o) : MOk (fun b => b = p ∨ b = l) H := fun b hb => by
  rcases hb with rfl | rfl
  · obtain ⟨c, ns, b, r, P, _⟩ := P
    rw [P.dict]; exact fun z => nomatch z
  · rw [e]; exact fun z => nomatch z
theorem tMake_def {K : PySem.W.Frag} {c : Ad} {s : Str} {i : Int} {H : Hp} {Q : VK} {E : XK} {ta : TA} {σ : L2.St} (hta : ∀ R : List V → Hp → Prop, R [.str s, .int i] H → ta σ H R) (hs : axB (.str s) = true) (hi : coB (.int i) = true) (q : NewPl c H (.str s) (.int i) (.int 1) Q) :
    tMake c.pl (spInit K c) [.int 1] E ta σ H Q := hta _ (make_good hs hi (by rfl) q)
theorem seq_make {K : PySem.W.Frag} {c : Ad} {s : Str} {i j : Int} {H : Hp} {E : XK} {ta : TA} {σ : L2.St} {g : TG} {B : TS} {D : Ends} (hta : ∀ R : List V → Hp → Prop, R [.str s, .int i, .int j] H → ta σ H R) (hs : axB (.str s) = true) (hi : coB (.int i) = true) (hj : frB (.int j) = true)
    (q : NewPl c H (.str s) (.int i) (.int j) fun v H1 => g v σ H1 fun σ2 H2 => B D σ2 H2) : tSeq (tAsg (tMake c.pl (spInit K c) [] E ta) g) B D σ H := by
  have h : tMake c.pl (spInit K c) [] E ta σ H (fun v H1 => g v σ H1 fun σ2 H2 => B D σ2 H2) := tMake_good hta hs hi hj q
  exact h
theorem op_make {K : PySem.W.Frag} {c : Ad} {s : Str} {i : Int} {H : Hp} {Q : VK} {E : XK} {ta : TA} {tb : TE} {r : R2} {σ : L2.St} (hta : ∀ R : List V → Hp → Prop, R [.str s, .int i] H → ta σ H R) (hs : axB (.str s) = true) (hi : coB (.int i) = true)
    (q : NewPl c H (.str s) (.int i) (.int 1) fun v H1 => tb σ H1 fun y H2 => r v y H2 Q) : tOp r (tMake c.pl (spInit K c) [.int 1] E ta) tb σ H Q := by
  have h : tMake c.pl (spInit K c) [.int 1] E ta σ H (fun v H1 => tb σ H1 fun y H2 => r v y H2 Q) := tMake_def hta hs hi q
  exact h
theorem op_make2 {K : PySem.W.Frag} {c : Ad} {s : Str} {i : Int} {H : Hp} {Q : VK} {E : XK} {ta : TA} {tb tc : TE} {r r2 : R2} {σ : L2.St} (hta : ∀ R : List V → Hp → Prop, R [.str s, .int i] H → ta σ H R) (hs : axB (.str s) = true) (hi : coB (.int i) = true)
    (q : NewPl c H (.str s) (.int i) (.int 1) fun v H1 => tb σ H1 fun y H2 => r v y H2 fun u H3 => tc σ H3 fun w H4 => r2 u w H4 Q) : tOp r2 (tOp r (tMake c.pl (spInit K c) [.int 1] E ta) tb) tc σ H Q := by
  have h : tOp r (tMake c.pl (spInit K c) [.int 1] E ta) tb σ H (fun u H3 => tc σ H3 fun w H4 => r2 u w H4 Q) := op_make hta hs hi q
  exact h
/-- the first test of two, its reading told apart -/
theorem seq_or {t1 : TE} {T2 : TT} {A B C : TS} {D : Ends} {σ : L2.St} {H : Hp} {r : R2} {tc : TE} (q : ∀ Q : VK, (∀ (k : Bool) (H' : Hp), (if k = true then (if true = true then A { D with nx := C D } σ H' else B { D with nx := C D } σ H') else T2 σ H' fun b H6 => if b = true then A { D with nx := C D } σ H6 else B { D with nx := C D } σ H6) → Q (.bl k) H') → tOp r t1 tc σ H Q) :
    tSeq (tIfS (tOr (cTest (tOp r t1 tc)) T2) A B) C D σ H := by
  have h := q (fun v H' => match v with
    | .bl k => if k = true then (if true = true then A { D with nx := C D } σ H' else B { D with nx := C D } σ H') else T2 σ H' fun b H6 => if b = true then A { D with nx := C D } σ H6 else B { D with nx := C D } σ H6
    | _ => False) fun k H' z => z
  exact h
/-- a test that says no, whatever way it was come to -/
theorem seq_pass {t1 tc : TE} {A C : TS} {D : Ends} {σ : L2.St} {H : Hp} {r : R2} (R : Hp → Prop) (q : ∀ Q : VK, (∀ H', R H' → Q (.bl false) H') → tOp r t1 tc σ H Q) (k : ∀ H', R H' → C D σ H') :
    tSeq (tIfS (cTest (tOp r t1 tc)) A (fun D σ H => D.nx σ H)) C D σ H := by
  have h := q (fun v H' => match v with
    | .bl k => if k = true then A { D with nx := C D } σ H' else C D σ H'
    | _ => False) fun H' z => (k H' z)
  exact h
theorem shpT {wd x : Str} (h1 : PyData.strOk wd = true) (h2 : PyData.strOk x = true) : SeqAt.shaped (.list [.str wd, .str x, .bool true]) = true := by
  simp [SeqAt.shaped, PyData.canLay0, PyData.canLayAll0, PyData.depth, PyData.depthAll, h1, h2]
theorem eqvT {wd x : Str} : PyData.eqv (.list [.str wd, .str x, .bool true]) (.list [.str wd, .str x, .bool true]) = true := by
  simp [PyData.eqv, PyData.eqvAll]
theorem dpT {K : PySem.W.Frag} {H : Hp} {l : Addr} {wd x : Str} (e : H l = some (told wd x)) : Dp K H (.ref l) (.list [.str wd, .str x, .bool true]) := .lst (SqL.of e) (.cons (.str _) (.cons (.str _) (.cons (.bl _) .nil)))
theorem add_bad {K : PySem.W.Frag} {c : Ad} {a : Addr} {v : V} {H : Hp} {Q : VK} {E : XK} {s : Str} {i j : Int} (pl : IsPl c H a (.str s) (.int i) (.int j)) (hs : axB (.str s) = true) (hi : coB (.int i) = true) (hj : frB (.int j) = true) (hb : Bks K H v) (n : isI v = false) (e : errW c.aN v H E) :
    spAdd K c [.ref a, v] H Q E := by
  refine ⟨s, i, j, pl, hs, hi, hj, hb, ?_⟩
  cases v <;> first | exact e | exact absurd n (by simp [isI])
theorem mem3 {s : V} (h : s ∈ [V.str "x", .str "y", .str "z"]) : ∃ z, s = .str z ∧ axB (.str z) = true := by
  simp only [List.mem_cons, List.not_mem_nil, or_false] at h
  rcases h with rfl | rfl | rfl <;> exact ⟨_, rfl, by rfl⟩
theorem mem2 {s : V} (h : s ∈ [V.int 1, .int (-1)]) : ∃ z, s = .int z ∧ frB (.int z) = true := by
  simp only [List.mem_cons, List.not_mem_nil, or_false] at h
  rcases h with rfl | rfl <;> exact ⟨_, rfl, by rfl⟩
theorem ixN3 {g : Int} (h0 : 0 ≤ g) (h1 : g < 3) {xs : List V} (hl : xs.length = 3) : ixN xs.length g = some g.toNat := by
  unfold ixN
  rw [if_pos h0, if_pos (by rw [hl]; omega)]
section
variable {P : Program} {w : World} {K : PySem.W.Frag} {mg : Str → Option Value} {base : Heap} {c : Ad} {t : Tb}
theorem ok_law (G : Pt P w K mg base c) (S : TbOk base mg t) (DPen : DefOk P w K mg base CX0 1 "_law_pen" pPen (spPen K)) (DI : DefOk P w K mg base CX0 1 "_law_is_int" pLInt (spIsI K)) (DD : DefOk P w K mg base CX0 5 "_law_draw" pDraw spDr)
    (DP : DefOk P w K mg base CX0 6 "_law_pick" pPick (spPick K)) (DGr : DefOk P w K mg base CX0 7 "_law_great" pGreat spGreat) (DO : DefOk P w K mg base CX0 7 "_law_odd" pOdd (spOdd K)) (DDue : DefG P w K mg base CX0 2 "_law_due" pDue (spDue K))
    (DR : DefG P w K mg base CX0 13 "_law_right" pRt (spRight c t)) (F : FunC K mg "law" sLaw pLaw t.c2) : DefGL P w K mg base CX0 15 "law" pLaw (spLaw K t) := by
  have B := G.B
  obtain ⟨fdI, dsI, okI, bI, vI, bI1⟩ := G.init
  obtain ⟨fE, fdE, eF, eI, ne, okE, bE⟩ := G.eq
  obtain ⟨fA, fdA, aC, okA, bA⟩ := G.ad
  refine F.okGL scLaw (fun vs H Q E h => ?_) (fun f A outer s H vs Q E hG hr h => ?_)
  · unfold spLaw at h
    split at h
    · rfl
    · exact h.elim
  · have hu := hu_of hr
    refine ⟨_, (pss_cons (ps_set (i := 1) scLaw.nd rfl (.inl rfl) (pe_def DPen hr (by decide) (pa_cons (cv 0) pa_nil)))
  (pss_cons (ps_for PassesOwn.never rfl (pi_range1 (by rfl) B.range (pa_cons pe_int pa_nil)) (pg_name (i := 2) scLaw.nd rfl (.inl rfl))
  (pss_cons (ps_par3 (i := 3) (j := 4) (l := 5) rfl scLaw.nd rfl rfl rfl (by decide) (by decide) (by decide) rfl rfl rfl (pa_cons (pe_def DP hr (by decide) (pa_cons (cv 1) (pa_cons (pe_lst (pa_cons pe_str (pa_cons pe_str (pa_cons pe_str pa_nil)))) pa_nil))) (pa_cons (pe_def DGr hr (by decide) (pa_cons (cv 1) (pa_cons (pe_pow (z := 1000000000000000000000000000000) ⟨⟨by decide, by decide, by decide⟩, by decide +kernel⟩) pa_nil))) (pa_cons (pe_def DP hr (by decide) (pa_cons (cv 1) (pa_cons (pe_lst (pa_cons pe_int (pa_cons (pe_un c_neg pe_int) pa_nil))) pa_nil))) pa_nil))) (by rfl))
  (pss_cons (ps_set (i := 6) scLaw.nd rfl (.inr rfl) (pe_make G.T.mkp okI (hr.mono (by decide)) (by rfl) G.T.plg bI .nil not_raised (pa_cons (cv 3) (pa_cons (cv 4) (pa_cons (cv 5) pa_nil)))))
  (pss_cons (ps_if (pt_not (ct_val (pe_defG DR (by exact hG) hr (by decide) (pa_cons (cv 1) (pa_cons (cv 6) (pa_cons (cv 3) (pa_cons (cv 4) (pa_cons (cv 5) pa_nil))))))))
  (pss_one (ps_ret pe_bl))
  pss_nil)
  (pss_cons (ps_if (PW.pt (pw_or (ct_cmp op_ne (pe_cmpR (c_eqO G.T.own eF eI okE (hr.mono (by decide)) bE pass0) (pe_make G.T.mkp okI (hr.mono (by decide)) (by rfl) G.T.plg bI1 vI not_raised (pa_cons (cv 3) (pa_cons (cv 4) pa_nil))) (cv 6) (nomark _)) (pe_cmpR op_eq (cv 5) pe_int (nomark _)) (nomark _)) (pw_or1 (ct_cmp (c_eqO G.T.own eF eI okE (hr.mono (by decide)) bE pass0) (cv 6) (pe_tup (pa_cons (cv 3) (pa_cons (cv 4) (pa_cons (cv 5) pa_nil)))) (nomark _)))))
  (pss_one (ps_ret pe_bl))
  pss_nil)
  (pss_cons (ps_set (i := 7) scLaw.nd rfl (.inr rfl) (pe_lst (pa_cons (cv 3) (pa_cons (cv 4) (pa_cons (cv 5) pa_nil)))))
  (pss_cons (ps_for PassesOwn.never rfl (pi_range1 (by rfl) B.range (pa_cons (pe_op c_addI pe_int (pe_def DD hr (by decide) (pa_cons (cv 1) (pa_cons pe_int pa_nil)))) pa_nil)) (pg_name (i := 8) scLaw.nd rfl (.inl rfl))
  (pss_one (ps_asg (pe_def DP hr (by decide) (pa_cons (cv 1) (pa_cons (pe_lst (pa_cons (pe_def DO hr (by decide) (pa_cons (cv 1) pa_nil)) (pa_cons (pe_op c_addI (pe_pow (z := 1000000000000000000000000000000) ⟨⟨by decide, by decide, by decide⟩, by decide +kernel⟩) pe_int) (pa_cons pe_int (pa_cons pe_int (pa_cons pe_str pa_nil)))))) pa_nil))) (pg_sub (cv 7) (pe_def DD hr (by decide) (pa_cons (cv 1) (pa_cons pe_int pa_nil))) set_list))))
  (pss_cons (ps_if (ct_cmp (op_neD (by exact hr.units)) (pe_lam (T := t.T) (k := 8) G.rF (fun _ _ => ref_gives G.R (by exact hG) (hr.mono (by decide))) scRef S.b2 rfl (hr.mono (by decide)) t.memL (Tb.uniL S.ne) (lamS_by (sc := defScope sLaw) (by decide +kernel)) (fun A outer s H E f c' hr2 => (show PE _ _ (tMake c.pl (spInit K c) [] E (tCons (tOp (cIxL K) (cVar 7) (tC (.int 0))) (tCons (tOp (cIxL K) (cVar 7) (tC (.int 1))) (tCons (tOp (cIxL K) (cVar 7) (tC (.int 2))) tNil)))) from pe_make G.T.mkp okI (hr2.mono (by decide)) (by rfl) G.T.plg bI .nil lam_passes (pa_cons (pe_ix c_ixL (cv 7) pe_int (fun _ _ => rfl)) (pa_cons (pe_ix c_ixL (cv 7) pe_int (fun _ _ => rfl)) (pa_cons (pe_ix c_ixL (cv 7) pe_int (fun _ _ => rfl)) pa_nil)))))) (pe_defG DDue (by exact hG) hr (by decide) (pa_cons (pe_ix c_ixL (cv 7) pe_int (fun _ _ => rfl)) (pa_cons (pe_ix c_ixL (cv 7) pe_int (fun _ _ => rfl)) (pa_cons (pe_ix c_ixL (cv 7) pe_int (fun _ _ => rfl)) pa_nil)))) (nomark _))
  (pss_one (ps_ret pe_bl))
  pss_nil)
  (pss_cons (ps_set (i := 9) scLaw.nd rfl (.inr rfl) (pe_def DO hr (by decide) (pa_cons (cv 1) pa_nil)))
  (pss_one (ps_if (PW.pt (pw_and (pt_not (ct_val (pe_def DI hr (by decide) (pa_cons (cv 9) pa_nil)))) (pw_and1 (ct_cmp (op_neD (by exact hr.units)) (pe_lam (T := t.T) (k := 8) G.rF (fun _ _ => ref_gives G.R (by exact hG) (hr.mono (by decide))) scRef S.b2 rfl (hr.mono (by decide)) t.memL (Tb.uniL S.ne) (lamS_by (sc := defScope sLaw) (by decide +kernel)) (fun A outer s H E f c' hr2 => pe_op (show OpR _ (binaryOp .Add) (cAddO K c.pl (spAdd K c) E) from c_addO G.T.own aC okA (hr2.mono (by decide)) bA lam_passes) (cv 6) (cv 9))) (pe_lst (pa_cons pe_str (pa_cons (pe_callB (c_repr (by exact hG) (by exact hr.units)) (by rfl) B.repr (by decide +kernel) (pa_cons (cv 9) pa_nil)) (pa_cons pe_bl pa_nil)))) (nomark _)))))
  (pss_one (ps_ret pe_bl))
  pss_nil)))))))))))
  (pss_one (ps_ret pe_bl)))), ?_⟩
    unfold spLaw at h
    split at h
    · rename_i a
      obtain ⟨ns, hS, hl, hT, q⟩ := h
      refine ⟨ns, hS, hl, fun p H1 s1 P1 => ?_⟩
      refine ⟨9, rfl, by decide, by decide, for_range (n := 9) (fun i σ H => (∃ e2 e3 e4 e5 e6 e7 e8 e9, σ = [some (.ref a), some (.ref p), e2, e3, e4, e5, e6, e7, e8, e9]) ∧ PenB H p ((9 - i) * 1000 + 1) ∧ Tabs t.T H) ⟨⟨_, _, _, _, _, _, _, _, rfl⟩, P1.mono (by decide), tabs_same hT s1⟩ ?turn (fun σ H hP => q H)⟩
      rintro rr σ H2 hr9 ⟨⟨e2, e3, e4, e5, e6, e7, e8, e9, rfl⟩, P2, T2⟩
      obtain ⟨kk, hkk⟩ : ∃ kk, kk = (9 - (rr + 1)) * 1000 + 1 := ⟨_, rfl⟩
      rw [← hkk]
      have P2 : PenB H2 p (kk + 995 + 5) := P2.mono (by omega)
      have sz3 : 3 ≤ sizeLine := by decide
      refine ⟨sz3, fun l1 nl1 => ⟨kk + 995, _, P2.same (same_new nl1), SqL.of upd_same, by show 0 < 3; decide, by show 3 ≤ 10 ^ 20; decide, fun x H3 hx P3 b3 => ?_⟩⟩
      have T3 := tabs_but (tabs_same T2 (same_new (o := .lst [.str "x", .str "y", .str "z"]) nl1)) (P2.same (same_new nl1)) b3
      obtain ⟨s, rfl, hs⟩ := mem3 hx
      refine ⟨kk + 970, P3, by decide, by decide, fun i H4 i1 i2 P4 b4 => ⟨by show 2 ≤ sizeLine; decide, fun l2 nl2 => ⟨kk + 965, _, P4.same (same_new nl2), SqL.of upd_same, by show 0 < 2; decide, by show 2 ≤ 10 ^ 20; decide, fun y H5 hy P5 b5 => ?_⟩⟩⟩
      have T4 := tabs_but T3 P3 b4
      have T5 := tabs_but (tabs_same T4 (same_new (o := .lst [.int 1, .int (-1)]) nl2)) (P4.same (same_new nl2)) b5
      obtain ⟨j, rfl, hj⟩ := mem2 hy
      have hj' := frB_j hj
      have hi : coB (.int i) = true := decide_eq_true (by omega)
      refine ⟨_, _, _, rfl, ?_⟩
      dsimp only
      refine seq_make (s := s) (i := i) (j := j) (fun _ h => h) hs hi hj fun m H6 s6 nm pm => ?_
      have T6 := tabs_same T5 s6
      -- the plane tells what it should
      refine ⟨kk + 865, ⟨pm, P5.same s6, BN.refl, T6⟩, hs, hi, hj, fun H7 D7 => iteF ?_⟩
      have L7 : Lw c t p m s i j (kk + 865) H7 := ⟨D7.pl, D7.P, D7.tb⟩
      -- by default in front
      unfold tNext
      dsimp only
      refine seq_or fun QQ hQ => op_make2 (s := s) (i := i) (fun _ h => h) hs hi fun m2 H8 s8 nm2 pm2 => ?_
      have L8 := L7.same s8
      obtain ⟨dm, hm⟩ := id L8.pl
      obtain ⟨dm2, hm2⟩ := id pm2
      refine ⟨⟨_, _, hm2⟩, .inl ⟨_, _, _, rfl, hm⟩, s, i, 1, hs, pm2, .inl ⟨m, s, i, j, hs, rfl, L8.pl, fun H9 s9 => ⟨rfl, rfl, ?_⟩⟩⟩
      have L9 := L8.same s9
      rw [show decide (s = s ∧ i = i ∧ 1 = j) = decide (V.int j = V.int 1) by
        rw [Bool.eq_iff_iff]
        simp only [decide_eq_true_eq, V.int.injEq]
        exact ⟨fun z => z.2.2.symm, fun z => ⟨trivial, trivial, z.symm⟩⟩]
      refine hQ _ _ (neS ?_)
      refine ⟨sz3, fun tp ntp => ?_⟩
      have L10 := L9.new ntp (.tup [.str s, .int i, .int j])
      obtain ⟨dm, hm⟩ := id L10.pl
      refine ⟨⟨_, _, hm⟩, .inr ⟨.tuple, .tup (.of upd_same)⟩, s, i, j, hs, L10.pl, .inr ⟨⟨.tuple, .tup (.of upd_same)⟩, iteF ?_⟩⟩
      -- three things of any kind
      refine ⟨sz3, fun l nl => ?_⟩
      have L11 := L10.new nl (.lst [.str s, .int i, .int j])
      have hl11 : upd (upd H9 tp (.tup [.str s, .int i, .int j])) l (.lst [.str s, .int i, .int j]) l = some (.lst [.str s, .int i, .int j]) := upd_same
      obtain ⟨cc, hcc, ccl⟩ : ∃ cc, Cel (upd (upd H9 tp (.tup [.str s, .int i, .int j])) l (.lst [.str s, .int i, .int j])) p cc ∧ cc ≠ l := by
        obtain ⟨cc, ns, b, r, P, _⟩ := L10.P
        exact ⟨cc, ⟨b, r, (P.same (same_new nl)).dict⟩, ne_of_none P.cells nl⟩
      have A11 : AllV K (fun b => b = p ∨ b = l) (upd (upd H9 tp (.tup [.str s, .int i, .int j])) l (.lst [.str s, .int i, .int j])) [.str s, .int i, .int j] := by
        refine .cons ?_ (.cons (.int (by omega)) (.cons (.int (by omega)) .nil))
        rcases axB_str hs with rfl | rfl | rfl <;> exact OkV.of (Sv.str _)
      refine ⟨kk + 860, L11.P, by decide, by decide, fun d H12 d1 d2 P12 b12 => ⟨1 + d, rfl, by omega, by omega, ?_⟩⟩
      have L12 := L11.but b12 P12
      have lnp : l ≠ p := L11.P.ne hl11 (fun _ z => nomatch z)
      have hl12 := b12.keep l _ lnp hl11
      refine for_range (n := (1 + d).toNat) (fun r σ H => (∃ e8 xs, σ = [some (.ref a), some (.ref p), some (.int (0 + (rr : Int))), some (.str s), some (.int i), some (.int j), some (.ref m), some (.ref l), e8, e9] ∧ H l = some (.lst xs) ∧ xs.length = 3 ∧ AllV K (fun b => b = p ∨ b = l) H xs) ∧ Cel H p cc ∧ Lw c t p m s i j (kk + 600 + 20 * (2 - r)) H)
        ⟨⟨_, _, rfl, hl12, rfl, A11.but (.inl rfl) b12⟩, hcc.but b12, L12.mono (by omega)⟩ ?turn2 ?rest2
      case turn2 =>
        rintro r σ H13 hr2 ⟨⟨e8, xs, rfl, hl13, len, A13⟩, hc13, L13⟩
        have hr2' : r < 2 := by omega
        obtain ⟨k3, hk3⟩ : ∃ k3, k3 = kk + 600 + 20 * (2 - (r + 1)) := ⟨_, rfl⟩
        rw [← hk3]
        have L13 : Lw c t p m s i j (k3 + 15 + 5) H13 := L13.mono (by omega)
        refine ⟨k3 + 15, fun b => b = p ∨ b = l, L13.P, .inl rfl, mok2 L13.P hl13, fun v H14 hv P14 b14 => ⟨by show 5 ≤ sizeLine; decide, fun l3 nl3 => ?_⟩⟩
        have L14 := (L13.but b14 P14).new nl3 (.lst [v, .int (1000000000000000000000000000000 + 1), .int 0, .int 2, .str "X"])
        have sn := same_new (o := .lst [v, .int (1000000000000000000000000000000 + 1), .int 0, .int 2, .str "X"]) nl3
        have A14 : AllV K (fun b => b = p ∨ b = l) (upd H14 l3 (.lst [v, .int (1000000000000000000000000000000 + 1), .int 0, .int 2, .str "X"])) [v, .int (1000000000000000000000000000000 + 1), .int 0, .int 2, .str "X"] :=
          .cons (hv.bn (.of sn)) (.cons (.int (by decide)) (.cons (.int (by decide)) (.cons (.int (by decide)) (.cons (OkV.of (Sv.str _)) .nil))))
        have hl14 := sn _ _ (b14.keep l _ lnp hl13)
        refine ⟨k3 + 10, _, L14.P, SqL.of upd_same, by show 0 < 5; decide, by show 5 ≤ 10 ^ 20; decide, fun y H15 hy P15 b15 => ?_⟩
        have L15 := L14.but b15 P15
        have hl15 := b15.keep l _ lnp hl14
        refine ⟨k3 + 5, L15.P, by decide, by decide, fun g H16 g1 g2 P16 b16 => ?_⟩
        have L16 := L15.but b16 P16
        have hl16 := b16.keep l _ lnp hl15
        have hc16 := (((hc13.but b14).same sn).but b15).but b16
        refine ⟨l, xs, g, g.toNat, rfl, rfl, hl16, ixN3 g1 g2 len, ?_⟩
        have oy : OkV K (fun b => b = p ∨ b = l) H16 y := ((A14 y hy).but (.inl rfl) b15).but (.inl rfl) b16
        have ox : AllV K (fun b => b = p ∨ b = l) H16 xs := (((A13.but (.inl rfl) b14).bn (.of sn)).but (.inl rfl) b15).but (.inl rfl) b16
        refine ⟨⟨_, _, rfl, upd_same, by rw [List.length_set]; exact len, fun w hw => ?_⟩, ?_, (L16.set hl16 hc16 ccl).mono (by omega)⟩
        · rcases List.mem_or_eq_of_mem_set hw with hw | rfl
          · exact (ox w hw).bn (.upd (.inr rfl))
          · exact oy.bn (.upd (.inr rfl))
        · obtain ⟨b, r, hd⟩ := hc16
          exact ⟨b, r, by rw [upd_ne lnp.symm]; exact hd⟩
      case rest2 =>
        rintro σ H17 ⟨⟨e8, xs, rfl, hl17, len, A17⟩, hc17, L17⟩
        dsimp only
        refine seq_pass (Lw c t p m s i j (kk + 600)) (fun QQ hrest => ?cases) (fun H22 L22 => ?after)
        case cases =>
          obtain ⟨x1, x2, x3, rfl⟩ : ∃ x y z, xs = [x, y, z] := by
            match xs, len with
            | [x, y, z], _ => exact ⟨x, y, z, rfl⟩
          obtain ⟨y1, v1, f1, g1⟩ := A17 x1 (by simp)
          obtain ⟨y2, v2, f2, g2⟩ := A17 x2 (by simp)
          obtain ⟨y3, v3, f3, g3⟩ := A17 x3 (by simp)
          have L17 : Lw c t p m s i j (kk + 600) H17 := L17.mono (by omega)
          refine ⟨L17.tb, fun H18 xN T18 => ?_⟩
          have L18 := L17.ext xN T18
          have hl18 := xN _ _ hl17 (fun _ z => nomatch z)
          have w1 := v1.bn (.ext xN)
          have w2 := v2.bn (.ext xN)
          have w3 := v3.bn (.ext xN)
          refine ⟨_, x1, SqL.of hl18, rfl, _, x2, SqL.of hl18, rfl, _, x3, SqL.of hl18, rfl, fun px dx npx ndx hne => ?_⟩
          have smk : Same H18 (upd (upd H18 dx (.own px)) px (.ins c.pl dx [])) := fun b o z => by
            have n1 := ne_of_none z npx
            have n2 := ne_of_none z ndx
            rw [upd_ne n1, upd_ne n2]; exact z
          refine ⟨dx, upd_same, (w1.bn (.of smk)).now.bk, (w2.bn (.of smk)).now.bk, (w3.bn (.of smk)).now.bk, ?_⟩
          -- what is due, in every case
          have dueA : ∀ (H : Hp), Same H18 H → SqL K H l [x1, x2, x3] ∧ Dq K H x1 y1 ∧ Dq K H x2 y2 ∧ Dq K H x3 y3 := fun H z => ⟨SqL.of (z _ _ hl18), (w1.bn (.of z)).now, (w2.bn (.of z)).now, (w3.bn (.of z)).now⟩
          unfold plWay
          cases ex : axB x1 with
          | false =>
            rw [if_neg Bool.false_ne_true]
            refine fun d H19 nd s19 e19 => .inl ⟨c.aX, "axis", d, x1, y1, .inl ⟨rfl, rfl⟩, rfl, rfl, e19, (dueA _ (smk.trans s19)).2.1, f1, fun lr nlr => ?_⟩
            have s20 := (smk.trans s19).trans (same_new (o := told "axis" y1.shown) nlr)
            obtain ⟨q1, q2, q3, q4⟩ := dueA _ s20
            refine ⟨_, x1, q1, rfl, _, x2, q1, rfl, _, x3, q1, rfl, y1, y2, y3, q2, f1, q3, f2, q4, f3, ?_⟩
            rw [ex, if_neg Bool.false_ne_true]
            refine fun l2 H21 s21 hl2 => ⟨_, _, dpT (s21 _ _ upd_same), dpT hl2, shpT (strOk_text _) g1, shpT (strOk_text _) g1, ?_⟩
            rw [eqvT]
            exact (hrest _ (L18.same (s20.trans s21)))
          | true =>
            rw [if_pos rfl]
            cases ey : coB x2 with
            | false =>
              rw [if_neg Bool.false_ne_true]
              refine fun d H19 nd s19 e19 => .inl ⟨c.aN, "number", d, x2, y2, .inr (.inl ⟨rfl, rfl⟩), rfl, rfl, e19, (dueA _ (smk.trans s19)).2.2.1, f2, fun lr nlr => ?_⟩
              have s20 := (smk.trans s19).trans (same_new (o := told "number" y2.shown) nlr)
              obtain ⟨q1, q2, q3, q4⟩ := dueA _ s20
              refine ⟨_, x1, q1, rfl, _, x2, q1, rfl, _, x3, q1, rfl, y1, y2, y3, q2, f1, q3, f2, q4, f3, ?_⟩
              rw [ex, if_pos rfl, ey, if_neg Bool.false_ne_true]
              refine fun l2 H21 s21 hl2 => ⟨_, _, dpT (s21 _ _ upd_same), dpT hl2, shpT (strOk_text _) g2, shpT (strOk_text _) g2, ?_⟩
              rw [eqvT]
              exact (hrest _ (L18.same (s20.trans s21)))
            | true =>
              rw [if_pos rfl]
              cases ez : frB x3 with
              | false =>
                rw [if_neg Bool.false_ne_true]
                refine fun d H19 nd s19 e19 => .inl ⟨c.aF, "front", d, x3, y3, .inr (.inr ⟨rfl, rfl⟩), rfl, rfl, e19, (dueA _ (smk.trans s19)).2.2.2, f3, fun lr nlr => ?_⟩
                have s20 := (smk.trans s19).trans (same_new (o := told "front" y3.shown) nlr)
                obtain ⟨q1, q2, q3, q4⟩ := dueA _ s20
                refine ⟨_, x1, q1, rfl, _, x2, q1, rfl, _, x3, q1, rfl, y1, y2, y3, q2, f1, q3, f2, q4, f3, ?_⟩
                rw [ex, if_pos rfl, ey, if_pos rfl, ez, if_neg Bool.false_ne_true]
                refine fun l2 H21 s21 hl2 => ⟨_, _, dpT (s21 _ _ upd_same), dpT hl2, shpT (strOk_text _) g3, shpT (strOk_text _) g3, ?_⟩
                rw [eqvT]
                exact (hrest _ (L18.same (s20.trans s21)))
              | true =>
                rw [if_pos rfl]
                refine fun H19 o19 e19 => ⟨rfl, ?_⟩
                have s19 : Same H18 H19 := fun b o z => by
                  have n1 := ne_of_none z npx
                  have n2 := ne_of_none z ndx
                  exact o19 b o n1 (by rw [upd_ne n1, upd_ne n2]; exact z)
                obtain ⟨q1, q2, q3, q4⟩ := dueA _ s19
                refine ⟨_, x1, q1, rfl, _, x2, q1, rfl, _, x3, q1, rfl, y1, y2, y3, q2, f1, q3, f2, q4, f3, ?_⟩
                rw [ex, if_pos rfl, ey, if_pos rfl, ez, if_pos rfl]
                refine fun H21 s21 => ⟨.none, .none, .non, .non, by rfl, by rfl, ?_⟩
                exact (hrest _ (L18.same (s19.trans s21)))
        case after =>
          have m22 : MOk (fun b => b = p) H22 := fun b hb => by
            obtain ⟨c2, ns, b2, r, P, _⟩ := L22.P
            rw [hb, P.dict]; exact fun z => nomatch z
          refine ⟨kk + 595, fun b => b = p, L22.P, rfl, m22, fun v H23 hv P23 b23 => ⟨hv.bk, ?_⟩⟩
          have L23 := L22.but b23 P23
          cases hI : isI v with
          | true =>
            exact ⟨⟨_, _, _, _, _, _, _, _, rfl⟩, L23.P.mono (by omega), L23.tb⟩
          | false =>
            refine ⟨L23.tb, fun H24 xN T24 => ?_⟩
            have L24 := L23.ext xN T24
            have hv24 := hv.bn (.ext xN)
            obtain ⟨dm, hm⟩ := id L24.pl
            obtain ⟨dv, sv, fv, gv⟩ := hv24
            refine ⟨⟨_, _, hm⟩, sv.now.bk, add_bad L24.pl hs hi hj sv.now.bk hI fun d H25 nd s25 e25 => .inl ⟨c.aN, "number", d, v, dv, .inr (.inl ⟨rfl, rfl⟩), rfl, rfl, e25, (sv.bn (.of s25)).now, fv, fun lr nlr => ?_⟩⟩
            have s26 := s25.trans (same_new (o := told "number" dv.shown) nlr)
            refine ⟨dv, (sv.bn (.of s26)).now, fv, sz3, fun l2 nl2 => ?_⟩
            have s27 := s26.trans (same_new (o := told "number" dv.shown) nl2)
            refine ⟨_, _, dpT (same_new (o := told "number" dv.shown) nl2 _ _ upd_same), dpT upd_same, shpT (strOk_text _) gv, shpT (strOk_text _) gv, ?_⟩
            rw [eqvT]
            have L27 := L24.same s27
            exact ⟨⟨_, _, _, _, _, _, _, _, rfl⟩, L27.P.mono (by omega), L27.tb⟩
    · exact h.elim
end
end K13

set_option Elab.async false
set_option linter.all false
set_option maxRecDepth 100000
set_option maxHeartbeats 8000000
namespace K13
open PySem PySem.Spec PyProof.Rows L2 CL LamX
theorem limit_of {h : Heap} {v : Value} {i : Int} (r : PySem.W.ReadsLit h v (.int i) []) : ∃ t, v = .int i t := by
  cases r
  exact ⟨_, rfl⟩
theorem all_mk {P : Program} {w : World} {K : PySem.W.Frag} {h : Heap} {mg : Str → Option Value} {fa : Addr} {f1 : Addr}
    {od1 an1 : Option Addr}
    {sl1 : Array (Option Value)}
    {oc1 kV1 dc1 pm1 ct1 cd1 : Value}
    {f2 : Addr}
    {od2 an2 : Option Addr}
    {sl2 : Array (Option Value)}
    {oc2 kV2 dc2 pm2 ct2 cd2 : Value}
    {f3 : Addr}
    {od3 an3 : Option Addr}
    {sl3 : Array (Option Value)}
    {oc3 kV3 dc3 pm3 ct3 cd3 : Value}
    {f4 : Addr}
    {od4 an4 : Option Addr}
    {sl4 : Array (Option Value)}
    {oc4 kV4 dc4 pm4 ct4 cd4 : Value}
    {f5 : Addr}
    {od5 an5 : Option Addr}
    {sl5 : Array (Option Value)}
    {oc5 kV5 dc5 pm5 ct5 cd5 : Value}
    {f6 : Addr}
    {od6 an6 : Option Addr}
    {sl6 : Array (Option Value)}
    {oc6 kV6 dc6 pm6 ct6 cd6 : Value}
    {f7 : Addr}
    {od7 an7 : Option Addr}
    {sl7 : Array (Option Value)}
    {oc7 kV7 dc7 pm7 ct7 cd7 : Value}
    {f8 : Addr}
    {od8 an8 : Option Addr}
    {sl8 : Array (Option Value)}
    {oc8 kV8 dc8 pm8 ct8 cd8 : Value}
    {f9 : Addr}
    {od9 an9 : Option Addr}
    {sl9 : Array (Option Value)}
    {oc9 kV9 dc9 pm9 ct9 cd9 : Value}
    {f10 : Addr}
    {od10 an10 : Option Addr}
    {sl10 : Array (Option Value)}
    {oc10 kV10 dc10 pm10 ct10 cd10 : Value}
    {f11 : Addr}
    {od11 an11 : Option Addr}
    {sl11 : Array (Option Value)}
    {oc11 kV11 dc11 pm11 ct11 cd11 : Value}
    {ca1 Pa1 ca2 Pa2 : Addr}
    {f12 : Addr}
    {od12 an12 : Option Addr}
    {sl12 : Array (Option Value)}
    {oc12 kV12 dc12 pm12 ct12 : Value}
    {vs12 : Array Value}
    {dk12 : Option Addr}
    {sk12 : Array (Option Value)}
    {fi12 : Str}
    {tf12 tg12 tt12 : Tok}
    {fg12 tx12 : Int}
    {bb12 : Bool}
    {f13 : Addr}
    {od13 an13 : Option Addr}
    {sl13 : Array (Option Value)}
    {oc13 kV13 dc13 pm13 ct13 : Value}
    {vs13 : Array Value}
    {dk13 : Option Addr}
    {sk13 : Array (Option Value)}
    {fi13 : Str}
    {tf13 tg13 tt13 : Tok}
    {fg13 tx13 : Int}
    {bb13 : Bool}
    {tA : Addr}
    {dtA : Option Addr}
    {itA : Array Value}
    {ntA : Nat}
    {stA : Array (Option Value)}
    {tX : Addr}
    {dtX : Option Addr}
    {itX : Array Value}
    {ntX : Nat}
    {stX : Array (Option Value)}
    {dd : Addr}
    {es : Array DictEntry}
    {nd : Nat}
    {tY : Addr}
    {dtY : Option Addr}
    {itY : Array Value}
    {ntY : Nat}
    {stY : Array (Option Value)}
    {tZ : Addr}
    {dtZ : Option Addr}
    {itZ : Array Value}
    {ntZ : Nat}
    {stZ : Array (Option Value)}
    {CeX NeX : Addr}
    {nmeX qeX : Str}
    {bseX bmeX sueX : List Value}
    {sneX : List Str}
    {abeX : Bool}
    {coeX : Option Bool}
    {ddeX : Option Addr}
    {kaeX kbeX kceX kdeX keeX : Option Value}
    {feX : Addr}
    {odeX aneX : Option Addr}
    {sleX : Array (Option Value)}
    {oceX kVeX dceX pmeX cteX cdeX : Value}
    {CeN NeN : Addr}
    {nmeN qeN : Str}
    {bseN bmeN sueN : List Value}
    {sneN : List Str}
    {abeN : Bool}
    {coeN : Option Bool}
    {ddeN : Option Addr}
    {kaeN kbeN kceN kdeN keeN : Option Value}
    {feN : Addr}
    {odeN aneN : Option Addr}
    {sleN : Array (Option Value)}
    {oceN kVeN dceN pmeN cteN cdeN : Value}
    {CeF NeF : Addr}
    {nmeF qeF : Str}
    {bseF bmeF sueF : List Value}
    {sneF : List Str}
    {abeF : Bool}
    {coeF : Option Bool}
    {ddeF : Option Addr}
    {kaeF kbeF kceF kdeF keeF : Option Value}
    {feF : Addr}
    {odeF aneF : Option Addr}
    {sleF : Array (Option Value)}
    {oceF kVeF dceF pmeF cteF cdeF : Value}
    {CeB NeB : Addr}
    {nmeB qeB : Str}
    {bseB bmeB sueB : List Value}
    {sneB : List Str}
    {abeB : Bool}
    {coeB : Option Bool}
    {ddeB : Option Addr}
    {kaeB kbeB kceB kdeB keeB : Option Value}
    {feB : Addr}
    {odeB aneB : Option Addr}
    {sleB : Array (Option Value)}
    {oceB kVeB dceB pmeB cteB cdeB : Value}
    {C NC : Addr}
    {nmC qC : Str}
    {bsC suC : List Value}
    {snC : List Str}
    {hdC abC : Bool}
    {coC : Option Bool}
    {ddC : Option Addr}
    {kaC kbC kcC kdC keC : Option Value}
    {nwC : String}
    {fI TI : Addr}
    {odI anI dTI : Option Addr}
    {slI sTI : Array (Option Value)}
    {ocI kVI dcI pmI cdI ctI : Value}
    {tkI : Tok}
    {nTI : Nat}
    {fP : Addr}
    {odP anP : Option Addr}
    {slP : Array (Option Value)}
    {ocP kVP dcP pmP ctP cdP : Value}
    {fE : Addr}
    {odE anE : Option Addr}
    {slE : Array (Option Value)}
    {ocE kVE dcE pmE ctE cdE : Value}
    {fN : Addr}
    {odN anN : Option Addr}
    {slN : Array (Option Value)}
    {ocN kVN dcN pmN ctN cdN : Value}
    {fD : Addr}
    {odD anD : Option Addr}
    {slD : Array (Option Value)}
    {ocD kVD dcD pmD ctD cdD : Value}
    {fo_non ro_non : Option Value}
    {fo_bool ro_bool : Option Value}
    {fo_int ro_int : Option Value}
    {fo_str ro_str : Option Value}
    {fo_list ro_list : Option Value}
    {fo_tuple ro_tuple : Option Value}
    {fo_dict ro_dict : Option Value}
    {ts : List Addr} (X : K.In h) (G : h.Ns mainGlobals mg) (hfa : mg "law" = some (.ref fa)) (hL : ∃ tl, mg "LIMIT" = some (.int 1000000000000000000000000000000 tl)) (hT : ∀ q ∈ ts, h.get? q = some (PySem.W.tabObj #[]))
    (n_isinstance : PySem.W.nsIn K mainGlobals "isinstance" = some none)
    (n_int : PySem.W.nsIn K mainGlobals "int" = some none)
    (n_bool : PySem.W.nsIn K mainGlobals "bool" = some none)
    (n_str : PySem.W.nsIn K mainGlobals "str" = some none)
    (n_abs : PySem.W.nsIn K mainGlobals "abs" = some none)
    (n_tuple : PySem.W.nsIn K mainGlobals "tuple" = some none)
    (n_ValueError : PySem.W.nsIn K mainGlobals "ValueError" = some none)
    (n_repr : PySem.W.nsIn K mainGlobals "repr" = some none)
    (n_list : PySem.W.nsIn K mainGlobals "list" = some none)
    (n_range : PySem.W.nsIn K mainGlobals "range" = some none)
    (n_len : PySem.W.nsIn K mainGlobals "len" = some none)
    (n_max : PySem.W.nsIn K mainGlobals "max" = some none)
    (n_min : PySem.W.nsIn K mainGlobals "min" = some none)
    (a1 : PySem.W.nsIn K mainGlobals "is_integer" = some (some (.ref f1)))
    (l1 : K.lookup f1 = some ⟨oc1, od1, .func (PySem.W.fnOf "is_integer" "is_integer" (defArgs sIsInt) (defBody sIsInt) (defScope sIsInt) .none kV1 dc1 pm1 an1 cd1 ct1), sl1⟩)
    (c1 : PySem.W.codeIn K cd1 "is_integer" = true)
    (k1 : PySem.W.keepIn K (.ref f1) = true)
    (a2 : PySem.W.nsIn K mainGlobals "is_coordinate" = some (some (.ref f2)))
    (l2 : K.lookup f2 = some ⟨oc2, od2, .func (PySem.W.fnOf "is_coordinate" "is_coordinate" (defArgs sIsCo) (defBody sIsCo) (defScope sIsCo) .none kV2 dc2 pm2 an2 cd2 ct2), sl2⟩)
    (c2 : PySem.W.codeIn K cd2 "is_coordinate" = true)
    (k2 : PySem.W.keepIn K (.ref f2) = true)
    (a3 : PySem.W.nsIn K mainGlobals "_law_pen" = some (some (.ref f3)))
    (l3 : K.lookup f3 = some ⟨oc3, od3, .func (PySem.W.fnOf "_law_pen" "_law_pen" (defArgs sPen) (defBody sPen) (defScope sPen) .none kV3 dc3 pm3 an3 cd3 ct3), sl3⟩)
    (c3 : PySem.W.codeIn K cd3 "_law_pen" = true)
    (k3 : PySem.W.keepIn K (.ref f3) = true)
    (a4 : PySem.W.nsIn K mainGlobals "_law_draw" = some (some (.ref f4)))
    (l4 : K.lookup f4 = some ⟨oc4, od4, .func (PySem.W.fnOf "_law_draw" "_law_draw" (defArgs sDraw) (defBody sDraw) (defScope sDraw) .none kV4 dc4 pm4 an4 cd4 ct4), sl4⟩)
    (c4 : PySem.W.codeIn K cd4 "_law_draw" = true)
    (k4 : PySem.W.keepIn K (.ref f4) = true)
    (a5 : PySem.W.nsIn K mainGlobals "_law_pick" = some (some (.ref f5)))
    (l5 : K.lookup f5 = some ⟨oc5, od5, .func (PySem.W.fnOf "_law_pick" "_law_pick" (defArgs sPick) (defBody sPick) (defScope sPick) .none kV5 dc5 pm5 an5 cd5 ct5), sl5⟩)
    (c5 : PySem.W.codeIn K cd5 "_law_pick" = true)
    (k5 : PySem.W.keepIn K (.ref f5) = true)
    (a6 : PySem.W.nsIn K mainGlobals "_law_around" = some (some (.ref f6)))
    (l6 : K.lookup f6 = some ⟨oc6, od6, .func (PySem.W.fnOf "_law_around" "_law_around" (defArgs sAround) (defBody sAround) (defScope sAround) .none kV6 dc6 pm6 an6 cd6 ct6), sl6⟩)
    (c6 : PySem.W.codeIn K cd6 "_law_around" = true)
    (k6 : PySem.W.keepIn K (.ref f6) = true)
    (a7 : PySem.W.nsIn K mainGlobals "_law_great" = some (some (.ref f7)))
    (l7 : K.lookup f7 = some ⟨oc7, od7, .func (PySem.W.fnOf "_law_great" "_law_great" (defArgs sGreat) (defBody sGreat) (defScope sGreat) .none kV7 dc7 pm7 an7 cd7 ct7), sl7⟩)
    (c7 : PySem.W.codeIn K cd7 "_law_great" = true)
    (k7 : PySem.W.keepIn K (.ref f7) = true)
    (a8 : PySem.W.nsIn K mainGlobals "_law_odd" = some (some (.ref f8)))
    (l8 : K.lookup f8 = some ⟨oc8, od8, .func (PySem.W.fnOf "_law_odd" "_law_odd" (defArgs sOdd) (defBody sOdd) (defScope sOdd) .none kV8 dc8 pm8 an8 cd8 ct8), sl8⟩)
    (c8 : PySem.W.codeIn K cd8 "_law_odd" = true)
    (k8 : PySem.W.keepIn K (.ref f8) = true)
    (a9 : PySem.W.nsIn K mainGlobals "_law_refused" = some (some (.ref f9)))
    (l9 : K.lookup f9 = some ⟨oc9, od9, .func (PySem.W.fnOf "_law_refused" "_law_refused" (defArgs sRef) (defBody sRef) (defScope sRef) .none kV9 dc9 pm9 an9 cd9 ct9), sl9⟩)
    (c9 : PySem.W.codeIn K cd9 "_law_refused" = true)
    (k9 : PySem.W.keepIn K (.ref f9) = true)
    (a10 : PySem.W.nsIn K mainGlobals "_law_is_int" = some (some (.ref f10)))
    (l10 : K.lookup f10 = some ⟨oc10, od10, .func (PySem.W.fnOf "_law_is_int" "_law_is_int" (defArgs sLInt) (defBody sLInt) (defScope sLInt) .none kV10 dc10 pm10 an10 cd10 ct10), sl10⟩)
    (c10 : PySem.W.codeIn K cd10 "_law_is_int" = true)
    (k10 : PySem.W.keepIn K (.ref f10) = true)
    (a11 : PySem.W.nsIn K mainGlobals "_law_due" = some (some (.ref f11)))
    (l11 : K.lookup f11 = some ⟨oc11, od11, .func (PySem.W.fnOf "_law_due" "_law_due" (defArgs sDue) (defBody sDue) (defScope sDue) .none kV11 dc11 pm11 an11 cd11 ct11), sl11⟩)
    (c11 : PySem.W.codeIn K cd11 "_law_due" = true)
    (k11 : PySem.W.keepIn K (.ref f11) = true)
    (a12 : PySem.W.nsIn K mainGlobals "_law_right" = some (some (.ref f12)))
    (l12 : K.lookup f12 = some ⟨oc12, od12, .func (PySem.W.fnOf "_law_right" "_law_right" (defArgs sRt) (defBody sRt) (defScope sRt) .none kV12 dc12 pm12 an12 (.ref ca1) ct12), sl12⟩)
    (c12 : PySem.W.codeIn K (.ref ca1) "_law_right" = true)
    (k12 : PySem.W.keepIn K (.ref f12) = true)
    (lk12 : K.lookup ca1 = some ⟨.type "code", dk12, .fields vs12, sk12⟩)
    (h1112 : vs12[11]? = some (.ref Pa1))
    (h1212 : vs12.getD 11 .none = .ref Pa1)
    (h1812 : vs12.getD 18 .none = .str fi12 tf12)
    (h712 : vs12.getD 7 .none = .int fg12 tg12)
    (h912 : vs12.getD 9 .none = .bool bb12)
    (h1012 : vs12.getD 10 .none = .int tx12 tt12)
    (hn12 : ca1 ≠ Pa1)
    (nl12 : K.lookup Pa1 = none)
    (mt12 : Pa1 ∈ ts)
    (a13 : PySem.W.nsIn K mainGlobals "law" = some (some (.ref f13)))
    (l13 : K.lookup f13 = some ⟨oc13, od13, .func (PySem.W.fnOf "law" "law" (defArgs sLaw) (defBody sLaw) (defScope sLaw) .none kV13 dc13 pm13 an13 (.ref ca2) ct13), sl13⟩)
    (c13 : PySem.W.codeIn K (.ref ca2) "law" = true)
    (k13 : PySem.W.keepIn K (.ref f13) = true)
    (lk13 : K.lookup ca2 = some ⟨.type "code", dk13, .fields vs13, sk13⟩)
    (h1113 : vs13[11]? = some (.ref Pa2))
    (h1213 : vs13.getD 11 .none = .ref Pa2)
    (h1813 : vs13.getD 18 .none = .str fi13 tf13)
    (h713 : vs13.getD 7 .none = .int fg13 tg13)
    (h913 : vs13.getD 9 .none = .bool bb13)
    (h1013 : vs13.getD 10 .none = .int tx13 tt13)
    (hn13 : ca2 ≠ Pa2)
    (nl13 : K.lookup Pa2 = none)
    (mt13 : Pa2 ∈ ts)
    (nP : Pa1 ≠ Pa2)
    (atA : PySem.W.nsIn K mainGlobals "AXES" = some (some (.ref tA)))
    (ltA : K.lookup tA = some ⟨.type "tuple", dtA, .seq itA ntA, stA⟩)
    (ztA : itA.size ≤ sizeLine)
    (vtA : Vals [V.str "x", V.str "y", V.str "z"] itA.toList)
    (atD : PySem.W.nsIn K mainGlobals "DIRECTIONS" = some (some (.ref dd)))
    (ld : K.lookup dd = some ⟨.type "dict", none, .dict es nd, #[]⟩)
    (kd : PySem.W.KeysLit w.params es.toList)
    (atX : PySem.W.nsIn K dd "x" = some (some (.ref tX)))
    (ltX : K.lookup tX = some ⟨.type "tuple", dtX, .seq itX ntX, stX⟩)
    (ztX : itX.size ≤ sizeLine)
    (vtX : Vals [V.str "y", V.str "z"] itX.toList)
    (atY : PySem.W.nsIn K dd "y" = some (some (.ref tY)))
    (ltY : K.lookup tY = some ⟨.type "tuple", dtY, .seq itY ntY, stY⟩)
    (ztY : itY.size ≤ sizeLine)
    (vtY : Vals [V.str "z", V.str "x"] itY.toList)
    (atZ : PySem.W.nsIn K dd "z" = some (some (.ref tZ)))
    (ltZ : K.lookup tZ = some ⟨.type "tuple", dtZ, .seq itZ ntZ, stZ⟩)
    (ztZ : itZ.size ≤ sizeLine)
    (vtZ : Vals [V.str "x", V.str "y"] itZ.toList)
    (vV : PySem.W.findCls K (.type "ValueError") (.type "type") "__init__" = some (.val (.builtin "ValueError.__init__")))
    (geX : PySem.W.nsIn K mainGlobals "InvalidAxis" = some (some (.ref CeX)))
    (lceX : K.lookup CeX = some (excClassObj nmeX qeX CeX NeX bseX bmeX true sneX sueX abeX coeX ddeX kaeX kbeX kceX kdeX keeX "ValueError.__new__"))
    (rveX : PySem.HandSPX.refsVE bmeX = true)
    (saeX : PySem.W.findIn K (.ref CeX) "__setattr__" = some (some (.builtin "object.__setattr__")))
    (beeX : PySem.W.subIn K (.ref CeX) (.type "BaseException") = some true)
    (veeX : PySem.W.subIn K (.ref CeX) (.type "ValueError") = some true)
    (tyeX : PySem.W.typeIn K (.ref CeX) = some (.type "type"))
    (ke_eX : PySem.W.keepIn K (.ref CeX) = true)
    (gaeX : PySem.W.findIn K (.ref CeX) "__getattribute__" = some (some (.builtin "BaseException.__getattribute__")))
    (ggeX : PySem.W.findIn K (.ref CeX) "__getattr__" = some none)
    (hdeX : PySem.W.hasDictIn K CeX = true)
    (nveX : PySem.W.findIn K (.ref CeX) "value" = some none)
    (aeX : PySem.W.findIn K (.ref CeX) "__init__" = some (some (.ref feX)))
    (leX : K.lookup feX = some ⟨oceX, odeX, .func (PySem.W.fnOf "__init__" "InvalidAxis.__init__" (defArgs sAxI) (defBody sAxI) (defScope sAxI) .none kVeX dceX pmeX aneX cdeX cteX), sleX⟩)
    (ceX : PySem.W.codeIn K cdeX "InvalidAxis.__init__" = true)
    (keX : PySem.W.keepIn K (.ref feX) = true)
    (tfeX : PySem.W.typeIn K (.ref feX) = some (.type "function"))
    (geN : PySem.W.nsIn K mainGlobals "InvalidNumber" = some (some (.ref CeN)))
    (lceN : K.lookup CeN = some (excClassObj nmeN qeN CeN NeN bseN bmeN true sneN sueN abeN coeN ddeN kaeN kbeN kceN kdeN keeN "ValueError.__new__"))
    (rveN : PySem.HandSPX.refsVE bmeN = true)
    (saeN : PySem.W.findIn K (.ref CeN) "__setattr__" = some (some (.builtin "object.__setattr__")))
    (beeN : PySem.W.subIn K (.ref CeN) (.type "BaseException") = some true)
    (veeN : PySem.W.subIn K (.ref CeN) (.type "ValueError") = some true)
    (tyeN : PySem.W.typeIn K (.ref CeN) = some (.type "type"))
    (ke_eN : PySem.W.keepIn K (.ref CeN) = true)
    (gaeN : PySem.W.findIn K (.ref CeN) "__getattribute__" = some (some (.builtin "BaseException.__getattribute__")))
    (ggeN : PySem.W.findIn K (.ref CeN) "__getattr__" = some none)
    (hdeN : PySem.W.hasDictIn K CeN = true)
    (nveN : PySem.W.findIn K (.ref CeN) "value" = some none)
    (aeN : PySem.W.findIn K (.ref CeN) "__init__" = some (some (.ref feN)))
    (leN : K.lookup feN = some ⟨oceN, odeN, .func (PySem.W.fnOf "__init__" "InvalidNumber.__init__" (defArgs sNumI) (defBody sNumI) (defScope sNumI) .none kVeN dceN pmeN aneN cdeN cteN), sleN⟩)
    (ceN : PySem.W.codeIn K cdeN "InvalidNumber.__init__" = true)
    (keN : PySem.W.keepIn K (.ref feN) = true)
    (tfeN : PySem.W.typeIn K (.ref feN) = some (.type "function"))
    (geF : PySem.W.nsIn K mainGlobals "InvalidFront" = some (some (.ref CeF)))
    (lceF : K.lookup CeF = some (excClassObj nmeF qeF CeF NeF bseF bmeF true sneF sueF abeF coeF ddeF kaeF kbeF kceF kdeF keeF "ValueError.__new__"))
    (rveF : PySem.HandSPX.refsVE bmeF = true)
    (saeF : PySem.W.findIn K (.ref CeF) "__setattr__" = some (some (.builtin "object.__setattr__")))
    (beeF : PySem.W.subIn K (.ref CeF) (.type "BaseException") = some true)
    (veeF : PySem.W.subIn K (.ref CeF) (.type "ValueError") = some true)
    (tyeF : PySem.W.typeIn K (.ref CeF) = some (.type "type"))
    (ke_eF : PySem.W.keepIn K (.ref CeF) = true)
    (gaeF : PySem.W.findIn K (.ref CeF) "__getattribute__" = some (some (.builtin "BaseException.__getattribute__")))
    (ggeF : PySem.W.findIn K (.ref CeF) "__getattr__" = some none)
    (hdeF : PySem.W.hasDictIn K CeF = true)
    (nveF : PySem.W.findIn K (.ref CeF) "value" = some none)
    (aeF : PySem.W.findIn K (.ref CeF) "__init__" = some (some (.ref feF)))
    (leF : K.lookup feF = some ⟨oceF, odeF, .func (PySem.W.fnOf "__init__" "InvalidFront.__init__" (defArgs sFroI) (defBody sFroI) (defScope sFroI) .none kVeF dceF pmeF aneF cdeF cteF), sleF⟩)
    (ceF : PySem.W.codeIn K cdeF "InvalidFront.__init__" = true)
    (keF : PySem.W.keepIn K (.ref feF) = true)
    (tfeF : PySem.W.typeIn K (.ref feF) = some (.type "function"))
    (geB : PySem.W.nsIn K mainGlobals "OutOfBounds" = some (some (.ref CeB)))
    (lceB : K.lookup CeB = some (excClassObj nmeB qeB CeB NeB bseB bmeB true sneB sueB abeB coeB ddeB kaeB kbeB kceB kdeB keeB "ValueError.__new__"))
    (rveB : PySem.HandSPX.refsVE bmeB = true)
    (saeB : PySem.W.findIn K (.ref CeB) "__setattr__" = some (some (.builtin "object.__setattr__")))
    (beeB : PySem.W.subIn K (.ref CeB) (.type "BaseException") = some true)
    (veeB : PySem.W.subIn K (.ref CeB) (.type "ValueError") = some true)
    (tyeB : PySem.W.typeIn K (.ref CeB) = some (.type "type"))
    (ke_eB : PySem.W.keepIn K (.ref CeB) = true)
    (gaeB : PySem.W.findIn K (.ref CeB) "__getattribute__" = some (some (.builtin "BaseException.__getattribute__")))
    (ggeB : PySem.W.findIn K (.ref CeB) "__getattr__" = some none)
    (hdeB : PySem.W.hasDictIn K CeB = true)
    (aeB : PySem.W.findIn K (.ref CeB) "__init__" = some (some (.ref feB)))
    (leB : K.lookup feB = some ⟨oceB, odeB, .func (PySem.W.fnOf "__init__" "OutOfBounds.__init__" (defArgs sBndI) (defBody sBndI) (defScope sBndI) .none kVeB dceB pmeB aneB cdeB cteB), sleB⟩)
    (ceB : PySem.W.codeIn K cdeB "OutOfBounds.__init__" = true)
    (keB : PySem.W.keepIn K (.ref feB) = true)
    (tfeB : PySem.W.typeIn K (.ref feB) = some (.type "function"))
    (sueXeX : PySem.W.subIn K (.ref CeX) (.ref CeX) = some true)
    (sueNeX : PySem.W.subIn K (.ref CeN) (.ref CeX) = some false)
    (sueNeN : PySem.W.subIn K (.ref CeN) (.ref CeN) = some true)
    (sueFeX : PySem.W.subIn K (.ref CeF) (.ref CeX) = some false)
    (sueFeN : PySem.W.subIn K (.ref CeF) (.ref CeN) = some false)
    (sueFeF : PySem.W.subIn K (.ref CeF) (.ref CeF) = some true)
    (sueBeX : PySem.W.subIn K (.ref CeB) (.ref CeX) = some false)
    (sueBeN : PySem.W.subIn K (.ref CeB) (.ref CeN) = some false)
    (sueBeF : PySem.W.subIn K (.ref CeB) (.ref CeF) = some false)
    (sueBeB : PySem.W.subIn K (.ref CeB) (.ref CeB) = some true)
    (gC : PySem.W.nsIn K mainGlobals "Plane" = some (some (.ref C)))
    (pgC : PySem.W.plainGet K C Str.empty = true)
    (hdic : PySem.W.hasDictIn K C = true)
    (poC : PySem.W.plainOver K C = true)
    (saC : PySem.W.findIn K (.ref C) "__setattr__" = some (some (.builtin "object.__setattr__")))
    (caC : PySem.W.findIn K (.ref C) "__class__" = some (some (.builtin "object.__class__")))
    (spC : PySem.W.specialIn K (.builtin "object.__class__") "__get__" = some (some (.builtin "getset_descriptor.__get__")))
    (tkC : PySem.W.takesIn K (.builtin "object.__class__") = some true)
    (moC : PySem.W.mroIn K C (.type "object") = some true)
    (icC : PySem.W.isClsIn K C = true)
    (tyC : PySem.W.typeIn K (.ref C) = some (.type "type"))
    (nb_non : PySem.W.subIn K (.type "NoneType") (.ref C) = some false)
    (nb_bool : PySem.W.subIn K (.type "bool") (.ref C) = some false)
    (nb_int : PySem.W.subIn K (.type "int") (.ref C) = some false)
    (nb_str : PySem.W.subIn K (.type "str") (.ref C) = some false)
    (nb_list : PySem.W.subIn K (.type "list") (.ref C) = some false)
    (nb_tuple : PySem.W.subIn K (.type "tuple") (.ref C) = some false)
    (nb_dict : PySem.W.subIn K (.type "dict") (.ref C) = some false)
    (mkC : PySem.W.makesIn K C = true)
    (kpC : PySem.W.keepIn K (.ref C) = true)
    (na_axis : PySem.W.findIn K (.ref C) "axis" = some none)
    (na_at : PySem.W.findIn K (.ref C) "at" = some none)
    (na_front : PySem.W.findIn K (.ref C) "front" = some none)
    (na_directions : PySem.W.findIn K (.ref C) "directions" = some none)
    (aI : PySem.W.findIn K (.ref C) "__init__" = some (some (.ref fI)))
    (iI : PySem.W.isFn K (.ref fI) = true)
    (lI : K.lookup fI = some ⟨ocI, odI, .func (PySem.W.fnOf "__init__" "Plane.__init__" (defArgs sPlI) (defBody sPlI) (defScope sPlI) (.ref TI) kVI dcI pmI anI cdI ctI), slI⟩)
    (cI : PySem.W.codeIn K cdI "Plane.__init__" = true)
    (kI : PySem.W.keepIn K (.ref fI) = true)
    (lTI : K.lookup TI = some ⟨.type "tuple", dTI, .seq [Value.int 1 tkI].toArray nTI, sTI⟩)
    (aP : PySem.W.findIn K (.ref C) "point_at" = some (some (.ref fP)))
    (lP : K.lookup fP = some ⟨ocP, odP, .func (PySem.W.fnOf "point_at" "Plane.point_at" (defArgs sPlP) (defBody sPlP) (defScope sPlP) .none kVP dcP pmP anP cdP ctP), slP⟩)
    (cP : PySem.W.codeIn K cdP "Plane.point_at" = true)
    (kP : PySem.W.keepIn K (.ref fP) = true)
    (iP : PySem.W.isFn K (.ref fP) = true)
    (aE : PySem.W.findIn K (.ref C) "__eq__" = some (some (.ref fE)))
    (lE : K.lookup fE = some ⟨ocE, odE, .func (PySem.W.fnOf "__eq__" "Plane.__eq__" (defArgs sPlE) (defBody sPlE) (defScope sPlE) .none kVE dcE pmE anE cdE ctE), slE⟩)
    (cE : PySem.W.codeIn K cdE "Plane.__eq__" = true)
    (kE : PySem.W.keepIn K (.ref fE) = true)
    (iE : PySem.W.isFn K (.ref fE) = true)
    (aN : PySem.W.findIn K (.ref C) "__neg__" = some (some (.ref fN)))
    (lN : K.lookup fN = some ⟨ocN, odN, .func (PySem.W.fnOf "__neg__" "Plane.__neg__" (defArgs sPlN) (defBody sPlN) (defScope sPlN) .none kVN dcN pmN anN cdN ctN), slN⟩)
    (cN : PySem.W.codeIn K cdN "Plane.__neg__" = true)
    (kN : PySem.W.keepIn K (.ref fN) = true)
    (iN : PySem.W.isFn K (.ref fN) = true)
    (aD : PySem.W.findIn K (.ref C) "__add__" = some (some (.ref fD)))
    (lD : K.lookup fD = some ⟨ocD, odD, .func (PySem.W.fnOf "__add__" "Plane.__add__" (defArgs sPlA) (defBody sPlA) (defScope sPlA) .none kVD dcD pmD anD cdD ctD), slD⟩)
    (cD : PySem.W.codeIn K cdD "Plane.__add__" = true)
    (kD : PySem.W.keepIn K (.ref fD) = true)
    (iD : PySem.W.isFn K (.ref fD) = true)
    (lC : K.lookup C = some (excClassObj nmC qC C NC bsC [.type "object"] hdC snC suC abC coC ddC kaC kbC kcC kdC keC nwC))
    (nsC : PySem.W.nsOkIn K NC = true)
    (neqC : PySem.W.nsIn K NC "__eq__" = some (some (.ref fE)))
    (nneC : PySem.W.nsIn K NC "__ne__" = some none)
    (ocE_ : ocE = .type "function")
    (sfC : PySem.W.selfFirst K C = true)
    (raC : PySem.W.findIn K (.ref C) "__radd__" = some none)
    (fo1_non : PySem.W.findIn K (.type "NoneType") "__add__" = some fo_non)
    (ro1_non : PySem.W.findIn K (.type "NoneType") "__radd__" = some ro_non)
    (fo1_bool : PySem.W.findIn K (.type "bool") "__add__" = some fo_bool)
    (ro1_bool : PySem.W.findIn K (.type "bool") "__radd__" = some ro_bool)
    (fo1_int : PySem.W.findIn K (.type "int") "__add__" = some fo_int)
    (ro1_int : PySem.W.findIn K (.type "int") "__radd__" = some ro_int)
    (fo1_str : PySem.W.findIn K (.type "str") "__add__" = some fo_str)
    (ro1_str : PySem.W.findIn K (.type "str") "__radd__" = some ro_str)
    (fo1_list : PySem.W.findIn K (.type "list") "__add__" = some fo_list)
    (ro1_list : PySem.W.findIn K (.type "list") "__radd__" = some ro_list)
    (fo1_tuple : PySem.W.findIn K (.type "tuple") "__add__" = some fo_tuple)
    (ro1_tuple : PySem.W.findIn K (.type "tuple") "__radd__" = some ro_tuple)
    (fo1_dict : PySem.W.findIn K (.type "dict") "__add__" = some fo_dict)
    (ro1_dict : PySem.W.findIn K (.type "dict") "__radd__" = some ro_dict)
    : ∃ (cs : List (Addr × Addr)) (fd : FuncData) (sp : Sp), (∀ p ∈ cs, h.get? p.2 = some { cls := .none, data := .fields #[] }) ∧ (∀ p ∈ cs, K.lookup p.2 = none) ∧ (∀ p ∈ cs, PySem.W.CodeHd h p.1 p.2) ∧ (∀ (s : Shared) (u : Value), BindsTo s fd ⟨[u], []⟩ [("_law_script", u)]) ∧
      (∀ (H : Hp) (a : Addr) (ns : List Int), ns.length ≤ 63 → (∀ z ∈ ns, Builtin.Int.intBits z ≤ 1048576) → (∀ p ∈ cs, H p.2 = some (.tbl #[])) → SqL K H a (ns.map V.int) → sp [.ref a] H (fun v _ => v = .bl true) E0) ∧
      ∀ base : Heap, K.In base → base.Ns mainGlobals mg → (∀ p ∈ cs, TabB base mg p.1 p.2) → FnG P w K mg base CX0 15 fa fd ["_law_script"] sp := by
  have F1 : Fun K "is_integer" "is_integer" sIsInt f1 _ := fun_mk l1 c1 k1
  have b1 : Binds K _ pIsInt [] := F1.binds (ps := pIsInt) fun _ _ _ _ _ _ us hl => match us, hl with | [_], _ => rfl
  have A1 : FunAt K mg "is_integer" sIsInt pIsInt := ⟨_, _, F1, PySem.W.mg_of X G a1, b1⟩
  have F2 : Fun K "is_coordinate" "is_coordinate" sIsCo f2 _ := fun_mk l2 c2 k2
  have b2 : Binds K _ pIsCo [] := F2.binds (ps := pIsCo) fun _ _ _ _ _ _ us hl => match us, hl with | [_], _ => rfl
  have A2 : FunAt K mg "is_coordinate" sIsCo pIsCo := ⟨_, _, F2, PySem.W.mg_of X G a2, b2⟩
  have F3 : Fun K "_law_pen" "_law_pen" sPen f3 _ := fun_mk l3 c3 k3
  have b3 : Binds K _ pPen [] := F3.binds (ps := pPen) fun _ _ _ _ _ _ us hl => match us, hl with | [_], _ => rfl
  have A3 : FunAt K mg "_law_pen" sPen pPen := ⟨_, _, F3, PySem.W.mg_of X G a3, b3⟩
  have F4 : Fun K "_law_draw" "_law_draw" sDraw f4 _ := fun_mk l4 c4 k4
  have b4 : Binds K _ pDraw [] := F4.binds (ps := pDraw) fun _ _ _ _ _ _ us hl => match us, hl with | [_, _], _ => rfl
  have A4 : FunAt K mg "_law_draw" sDraw pDraw := ⟨_, _, F4, PySem.W.mg_of X G a4, b4⟩
  have F5 : Fun K "_law_pick" "_law_pick" sPick f5 _ := fun_mk l5 c5 k5
  have b5 : Binds K _ pPick [] := F5.binds (ps := pPick) fun _ _ _ _ _ _ us hl => match us, hl with | [_, _], _ => rfl
  have A5 : FunAt K mg "_law_pick" sPick pPick := ⟨_, _, F5, PySem.W.mg_of X G a5, b5⟩
  have F6 : Fun K "_law_around" "_law_around" sAround f6 _ := fun_mk l6 c6 k6
  have b6 : Binds K _ pAround [] := F6.binds (ps := pAround) fun _ _ _ _ _ _ us hl => match us, hl with | [_, _], _ => rfl
  have A6 : FunAt K mg "_law_around" sAround pAround := ⟨_, _, F6, PySem.W.mg_of X G a6, b6⟩
  have F7 : Fun K "_law_great" "_law_great" sGreat f7 _ := fun_mk l7 c7 k7
  have b7 : Binds K _ pGreat [] := F7.binds (ps := pGreat) fun _ _ _ _ _ _ us hl => match us, hl with | [_, _], _ => rfl
  have A7 : FunAt K mg "_law_great" sGreat pGreat := ⟨_, _, F7, PySem.W.mg_of X G a7, b7⟩
  have F8 : Fun K "_law_odd" "_law_odd" sOdd f8 _ := fun_mk l8 c8 k8
  have b8 : Binds K _ pOdd [] := F8.binds (ps := pOdd) fun _ _ _ _ _ _ us hl => match us, hl with | [_], _ => rfl
  have A8 : FunAt K mg "_law_odd" sOdd pOdd := ⟨_, _, F8, PySem.W.mg_of X G a8, b8⟩
  have F9 : Fun K "_law_refused" "_law_refused" sRef f9 _ := fun_mk l9 c9 k9
  have b9 : Binds K _ pRef [] := F9.binds (ps := pRef) fun _ _ _ _ _ _ us hl => match us, hl with | [_], _ => rfl
  have A9 : FunAt K mg "_law_refused" sRef pRef := ⟨_, _, F9, PySem.W.mg_of X G a9, b9⟩
  have F10 : Fun K "_law_is_int" "_law_is_int" sLInt f10 _ := fun_mk l10 c10 k10
  have b10 : Binds K _ pLInt [] := F10.binds (ps := pLInt) fun _ _ _ _ _ _ us hl => match us, hl with | [_], _ => rfl
  have A10 : FunAt K mg "_law_is_int" sLInt pLInt := ⟨_, _, F10, PySem.W.mg_of X G a10, b10⟩
  have F11 : Fun K "_law_due" "_law_due" sDue f11 _ := fun_mk l11 c11 k11
  have b11 : Binds K _ pDue [] := F11.binds (ps := pDue) fun _ _ _ _ _ _ us hl => match us, hl with | [_, _, _], _ => rfl
  have A11 : FunAt K mg "_law_due" sDue pDue := ⟨_, _, F11, PySem.W.mg_of X G a11, b11⟩
  have F12 : Fun K "_law_right" "_law_right" sRt f12 _ := fun_mk l12 c12 k12
  have b12 : Binds K _ pRt [] := F12.binds (ps := pRt) fun _ _ _ _ _ _ us hl => match us, hl with | [_, _, _, _, _], _ => rfl
  have A12 : FunC K mg "_law_right" sRt pRt ca1 := ⟨f12, _, _, _, _, _, _, _, _, _, rfl, l12, c12, PySem.W.mg_of X G a12, k12, b12⟩
  have CH12 : PySem.W.CodeHd h ca1 Pa1 := ⟨_, _, _, _, _, _, _, _, _, X _ _ lk12, rfl, rfl, h1112, h1212, h1812, h712, h912, h1012, hn12⟩
  have F13 : Fun K "law" "law" sLaw f13 _ := fun_mk l13 c13 k13
  have b13 : Binds K _ pLaw [] := F13.binds (ps := pLaw) fun _ _ _ _ _ _ us hl => match us, hl with | [_], _ => rfl
  have A13 : FunC K mg "law" sLaw pLaw ca2 := ⟨f13, _, _, _, _, _, _, _, _, _, rfl, l13, c13, PySem.W.mg_of X G a13, k13, b13⟩
  have CH13 : PySem.W.CodeHd h ca2 Pa2 := ⟨_, _, _, _, _, _, _, _, _, X _ _ lk13, rfl, rfl, h1113, h1213, h1813, h713, h913, h1013, hn13⟩
  have TA : ∀ Hx, SqT K Hx tA [V.str "x", V.str "y", V.str "z"] := fun _ => .inr ⟨_, itA, _, ltA, rfl, rfl, ztA, vtA⟩
  have TX : ∀ Hx, SqT K Hx tX [V.str "y", V.str "z"] := fun _ => .inr ⟨_, itX, _, ltX, rfl, rfl, ztX, vtX⟩
  have TY : ∀ Hx, SqT K Hx tY [V.str "z", V.str "x"] := fun _ => .inr ⟨_, itY, _, ltY, rfl, rfl, ztY, vtY⟩
  have TZ : ∀ Hx, SqT K Hx tZ [V.str "x", V.str "y"] := fun _ => .inr ⟨_, itZ, _, ltZ, rfl, rfl, ztZ, vtZ⟩
  have FeX : Fun K "__init__" "InvalidAxis.__init__" sAxI feX _ := fun_mk leX ceX keX
  have beX : Binds K _ pAxI [] := FeX.binds (ps := pAxI) fun _ _ _ _ _ _ us hl => match us, hl with | [_, _], _ => rfl
  have oxeX : OexC K CeX := ⟨⟨_, _, _, _, _, _, _, _, _, _, _, _, _, _, _, lceX, rveX⟩, saeX, beeX, tyeX, ke_eX⟩
  have FeN : Fun K "__init__" "InvalidNumber.__init__" sNumI feN _ := fun_mk leN ceN keN
  have beN : Binds K _ pNumI [] := FeN.binds (ps := pNumI) fun _ _ _ _ _ _ us hl => match us, hl with | [_, _], _ => rfl
  have oxeN : OexC K CeN := ⟨⟨_, _, _, _, _, _, _, _, _, _, _, _, _, _, _, lceN, rveN⟩, saeN, beeN, tyeN, ke_eN⟩
  have FeF : Fun K "__init__" "InvalidFront.__init__" sFroI feF _ := fun_mk leF ceF keF
  have beF : Binds K _ pFroI [] := FeF.binds (ps := pFroI) fun _ _ _ _ _ _ us hl => match us, hl with | [_, _], _ => rfl
  have oxeF : OexC K CeF := ⟨⟨_, _, _, _, _, _, _, _, _, _, _, _, _, _, _, lceF, rveF⟩, saeF, beeF, tyeF, ke_eF⟩
  have FeB : Fun K "__init__" "OutOfBounds.__init__" sBndI feB _ := fun_mk leB ceB keB
  have beB : Binds K _ pBndI [] := FeB.binds (ps := pBndI) fun _ _ _ _ _ _ us hl => match us, hl with | [_], _ => rfl
  have oxeB : OexC K CeB := ⟨⟨_, _, _, _, _, _, _, _, _, _, _, _, _, _, _, lceB, rveB⟩, saeB, beeB, tyeB, ke_eB⟩
  have emeXeX := PySem.W.exm_ref beeX hdeX tyeX sueXeX
  have emeNeX := PySem.W.exm_ref beeX hdeX tyeX sueNeX
  have emeNeN := PySem.W.exm_ref beeN hdeN tyeN sueNeN
  have emeFeX := PySem.W.exm_ref beeX hdeX tyeX sueFeX
  have emeFeN := PySem.W.exm_ref beeN hdeN tyeN sueFeN
  have emeFeF := PySem.W.exm_ref beeF hdeF tyeF sueFeF
  have emeBeX := PySem.W.exm_ref beeX hdeX tyeX sueBeX
  have emeBeN := PySem.W.exm_ref beeN hdeN tyeN sueBeN
  have emeBeF := PySem.W.exm_ref beeF hdeF tyeF sueBeF
  have emeBeB := PySem.W.exm_ref beeB hdeB tyeB sueBeB
  have FI : FunD K "__init__" "Plane.__init__" (defArgs sPlI) (defBody sPlI) (defScope sPlI) [V.int 1] [] fI _ := ⟨⟨ocI, odI, .ref TI, kVI, dcI, pmI, anI, cdI, ctI, slI, rfl, lI, cI, .inr ⟨by simp, TI, _, [Value.int 1 tkI], nTI, rfl, lTI, rfl, .cons ⟨_, rfl⟩ .nil⟩, .inl rfl⟩, kI⟩
  obtain ⟨dsI, vI, bI1⟩ := FI.binds1 (ps := pPlI) 3 0 (by simp) rfl fun T kV doc pm an cdv ct us its hu hi => match us, its, hu, hi with | [_, _, _], [_], _, _ => ⟨_, rfl, rfl⟩
  obtain ⟨dsJ, vJ, bJ⟩ := FI.binds1 (ps := pPlI) 4 1 (by simp) rfl fun T kV doc pm an cdv ct us its hu hi => match us, its, hu, hi with | [_, _, _, _], [_], _, _ => ⟨_, rfl, rfl⟩
  obtain rfl : dsJ = [] := List.eq_nil_of_length_eq_zero (Paired.length vJ).symm
  have bI := bJ
  have vI : Vals [V.int 1] dsI := vI
  have FP : Fun K "point_at" "Plane.point_at" sPlP fP _ := fun_mk lP cP kP
  have bP : Binds K _ pPlP [] := FP.binds (ps := pPlP) fun _ _ _ _ _ _ us hl => match us, hl with | [_, _, _], _ => rfl
  have FE : Fun K "__eq__" "Plane.__eq__" sPlE fE _ := fun_mk lE cE kE
  have bE : Binds K _ pPlE [] := FE.binds (ps := pPlE) fun _ _ _ _ _ _ us hl => match us, hl with | [_, _], _ => rfl
  have FN : Fun K "__neg__" "Plane.__neg__" sPlN fN _ := fun_mk lN cN kN
  have bN : Binds K _ pPlN [] := FN.binds (ps := pPlN) fun _ _ _ _ _ _ us hl => match us, hl with | [_], _ => rfl
  have FD : Fun K "__add__" "Plane.__add__" sPlA fD _ := fun_mk lD cD kD
  have bD : Binds K _ pPlA [] := FD.binds (ps := pPlA) fun _ _ _ _ _ _ us hl => match us, hl with | [_, _], _ => rfl
  have BA : Blt mg := ⟨PySem.W.mg_none_of X G n_int, PySem.W.mg_none_of X G n_len, PySem.W.mg_none_of X G n_abs, PySem.W.mg_none_of X G n_max, PySem.W.mg_none_of X G n_min⟩
  have BP : BltP mg := ⟨PySem.W.mg_none_of X G n_isinstance, PySem.W.mg_none_of X G n_int, PySem.W.mg_none_of X G n_bool, PySem.W.mg_none_of X G n_str, PySem.W.mg_none_of X G n_abs, PySem.W.mg_none_of X G n_tuple, PySem.W.mg_none_of X G n_ValueError⟩
  have BL : BltL mg := ⟨PySem.W.mg_none_of X G n_isinstance, PySem.W.mg_none_of X G n_int, PySem.W.mg_none_of X G n_bool, PySem.W.mg_none_of X G n_str, PySem.W.mg_none_of X G n_abs, PySem.W.mg_none_of X G n_repr, PySem.W.mg_none_of X G n_list, PySem.W.mg_none_of X G n_range⟩
  obtain ⟨tl, hL'⟩ := id hL
  let c : Ad := ⟨C, fI, CeX, CeN, CeF, CeB, dd, tX, tY, tZ, tA⟩
  let t : Tb := ⟨ca1, Pa1, ca2, Pa2⟩
  have own : OwnC K C := ⟨⟨pgC, hdic, poC, saC⟩, caC, spC, tkC, moC, icC, tyC, fun k => by cases k <;> assumption⟩
  have RX : Rx K mg c := ⟨PySem.W.mg_none_of X G n_repr, PySem.W.mg_none_of X G n_isinstance, PySem.W.mg_none_of X G n_ValueError, PySem.W.mg_of X G geX, PySem.W.mg_of X G geN, PySem.W.mg_of X G geF, PySem.W.mg_of X G geB, ⟨gaeX, ggeX, beeX, hdeX⟩, ⟨gaeN, ggeN, beeN, hdeN⟩, ⟨gaeF, ggeF, beeF, hdeF⟩, nveX, nveN, nveF, veeX, veeN, veeF, veeB, emeXeX, emeNeX, emeNeN, emeFeX, emeFeN, emeFeF, emeBeX, emeBeN, emeBeF, emeBeB⟩
  have aC : AddC K C fD := ⟨sfC, aD, iD, raC, fun k => by
    cases k
    · exact ⟨_, _, fo1_non, ro1_non⟩
    · exact ⟨_, _, fo1_bool, ro1_bool⟩
    · exact ⟨_, _, fo1_int, ro1_int⟩
    · exact ⟨_, _, fo1_str, ro1_str⟩
    · exact ⟨_, _, fo1_list, ro1_list⟩
    · exact ⟨_, _, fo1_tuple, ro1_tuple⟩
    · exact ⟨_, _, fo1_dict, ro1_dict⟩⟩
  have neC : NeC K C fE := ⟨⟨_, _, _, _, _, _, _, _, _, _, _, _, _, _, _, _, lC, nsC, neqC, nneC⟩, ⟨_, lE, ocE_⟩⟩
  have ef := hfa.symm.trans (PySem.W.mg_of X G a13)
  cases ef
  refine ⟨[(ca1, Pa1), (ca2, Pa2)], _, spLaw K t, fun p hp => ?_, fun p hp => ?_, fun p hp => ?_, fun s u => .of_eq (fd := PySem.W.fnOf "law" "law" (defArgs sLaw) (defBody sLaw) (defScope sLaw) .none kV13 dc13 pm13 an13 (.ref ca2) ct13) rfl, fun H a ns hn _ hH hS => ?_, fun base KB GB TB => ?_⟩
  · simp only [List.mem_cons, List.not_mem_nil, or_false] at hp
    rcases hp with rfl | rfl
    · exact hT _ mt12
    · exact hT _ mt13
  · simp only [List.mem_cons, List.not_mem_nil, or_false] at hp
    rcases hp with rfl | rfl
    · exact nl12
    · exact nl13
  · simp only [List.mem_cons, List.not_mem_nil, or_false] at hp
    rcases hp with rfl | rfl
    · exact CH12
    · exact CH13
  · refine ⟨ns, hS, hn, fun q hq => ?_, fun _ => rfl⟩
    simp only [Tb.T, List.mem_cons, List.not_mem_nil, or_false] at hq
    rcases hq with rfl | rfl
    · exact .nil (hH (ca1, Pa1) (by simp))
    · exact .nil (hH (ca2, Pa2) (by simp))
  · have S : TbOk base mg t := ⟨nP, TB (ca1, Pa1) (by simp), TB (ca2, Pa2) (by simp)⟩
    have vI0 := PySem.W.mg_none_of X G n_ValueError
    have EX : ErrC P w K mg base "InvalidAxis" CeX "value" := ⟨oxeX, PySem.W.mg_of X G geX, feX, _, aeX, tfeX, ok_AxI vI0 vV oxeX nveX FeX, beX⟩
    have EN : ErrC P w K mg base "InvalidNumber" CeN "value" := ⟨oxeN, PySem.W.mg_of X G geN, feN, _, aeN, tfeN, ok_NumI vI0 vV oxeN nveN FeN, beN⟩
    have EF : ErrC P w K mg base "InvalidFront" CeF "value" := ⟨oxeF, PySem.W.mg_of X G geF, feF, _, aeF, tfeF, ok_FroI vI0 vV oxeF nveF FeF, beF⟩
    have EB : ErrC0 P w K mg base "OutOfBounds" CeB := ⟨oxeB, PySem.W.mg_of X G geB, feB, _, aeB, tfeB, ok_BndI vI0 vV oxeB FeB, beB⟩
    have D1 := fun base => ok_isint (P := P) (w := w) (base := base) BP A1
    have D2 := ok_isco (P := P) (w := w) (base := base) BP D1 hL' A2
    have T : Tx P w K mg base c := ⟨BP, hL, PySem.W.mg_of X G atA, TA, PySem.W.mg_of X G atD, ⟨es, nd, _, ld, kd, atX, rfl⟩, ⟨es, nd, _, ld, kd, atY, rfl⟩, ⟨es, nd, _, ld, kd, atZ, rfl⟩, TX, TY, TZ, EX, EN, EF, EB, D1 base, D2, own, PySem.W.mg_of X G gC, ⟨mkC, aI, iI, kpC⟩, na_axis, na_at, na_front, na_directions⟩
    have okI := ok_PlI (P := P) (w := w) (base := base) (c := c) (qual := "Plane.__init__") T FI
    have PT : Pt P w K mg base c := ⟨T, RX, BL, A9, ⟨_, dsI, okI, bI, vI, bI1⟩, ⟨fP, _, ⟨aP, iP, kP⟩, ok_PlP T FP, bP⟩, ⟨fE, _, aE, iE, neC, ok_PlE T FE, bE⟩, ⟨fN, _, aN, iN, ok_PlN (fI := fI) T okI bI FN, bN⟩, ⟨fD, _, aC, ok_PlA (fI := fI) T okI bI FD, bD⟩⟩
    have DD := fun base => ok_dr (P := P) (w := w) (base := base) BA A4
    have DP := fun base => ok_pick (P := P) (w := w) (base := base) BA DD A5
    have DA := fun base => ok_around (P := P) (w := w) (base := base) BA DD A6
    have DGr := ok_great (P := P) (w := w) (base := base) BA DD DA DP A7
    have DI := ok_lint (P := P) (w := w) (base := base) BL A10
    have DR := ok_right PT S (DD base) (DP base) (DA base) DGr A12
    obtain ⟨f', fd', FG, g', ⟨oc', od', sl', lk'⟩, _⟩ := (ok_law PT S (ok_pen BL A3) DI (DD base) (DP base) DGr (ok_odd (DP base) A8) (ok_due BL DI A11) DR A13).ex
    cases g'.symm.trans (PySem.W.mg_of X G a13)
    cases lk'.symm.trans l13
    exact FG
end K13

set_option Elab.async false
set_option linter.all false
open PySem PySem.W PySem.Calls PyProof.Rows
set_option maxRecDepth 100000 in
set_option maxHeartbeats 16000000 in
theorem PySem.Challenge.cw_solidnames_k13_planes_as_objects_holds : PySem.Challenge.rw_solidnames_k13_planes_as_objects.Holds := by
  w_on; o_law; k_head; (case hw => w_witness2)
  k_fill
  refine CL.top_walk (l := PySem.Challenge.rw_solidnames_k13_planes_as_objects) (n := 63) (k := 15) (x := "_law_script") rfl (by decide) rfl ⟨rfl, by decide, by decide⟩ (fun w h Y => PySem.W.km_in_of Y) ?F
  case F =>
    intro w mg fa h Y XP KX G hmg
    have hL : ∃ tl, mg "LIMIT" = some (.int 1000000000000000000000000000000 tl) := by
      obtain ⟨v, e, r⟩ := XP.2.val ("LIMIT", .int 1000000000000000000000000000000) List.mem_cons_self
      obtain ⟨tl, rfl⟩ := K13.limit_of r
      exact ⟨tl, e⟩
    refine' K13.all_mk KX G hmg hL (PySem.W.km_tabs_of Y) ?n_isinstance ?n_int ?n_bool ?n_str ?n_abs ?n_tuple ?n_ValueError ?n_repr ?n_list ?n_range ?n_len ?n_max ?n_min ?a1 ?l1 ?c1 ?k1 ?a2 ?l2 ?c2 ?k2 ?a3 ?l3 ?c3 ?k3 ?a4 ?l4 ?c4 ?k4 ?a5 ?l5 ?c5 ?k5 ?a6 ?l6 ?c6 ?k6 ?a7 ?l7 ?c7 ?k7 ?a8 ?l8 ?c8 ?k8 ?a9 ?l9 ?c9 ?k9 ?a10 ?l10 ?c10 ?k10 ?a11 ?l11 ?c11 ?k11 ?a12 ?l12 ?c12 ?k12 ?lk12 ?h1112 ?h1212 ?h1812 ?h712 ?h912 ?h1012 ?hn12 ?nl12 ?mt12 ?a13 ?l13 ?c13 ?k13 ?lk13 ?h1113 ?h1213 ?h1813 ?h713 ?h913 ?h1013 ?hn13 ?nl13 ?mt13 ?nP ?atA ?ltA ?ztA ?vtA ?atD ?ld ?kd ?atX ?ltX ?ztX ?vtX ?atY ?ltY ?ztY ?vtY ?atZ ?ltZ ?ztZ ?vtZ ?vV ?geX ?lceX ?rveX ?saeX ?beeX ?veeX ?tyeX ?ke_eX ?gaeX ?ggeX ?hdeX ?nveX ?aeX ?leX ?ceX ?keX ?tfeX ?geN ?lceN ?rveN ?saeN ?beeN ?veeN ?tyeN ?ke_eN ?gaeN ?ggeN ?hdeN ?nveN ?aeN ?leN ?ceN ?keN ?tfeN ?geF ?lceF ?rveF ?saeF ?beeF ?veeF ?tyeF ?ke_eF ?gaeF ?ggeF ?hdeF ?nveF ?aeF ?leF ?ceF ?keF ?tfeF ?geB ?lceB ?rveB ?saeB ?beeB ?veeB ?tyeB ?ke_eB ?gaeB ?ggeB ?hdeB ?aeB ?leB ?ceB ?keB ?tfeB ?sueXeX ?sueNeX ?sueNeN ?sueFeX ?sueFeN ?sueFeF ?sueBeX ?sueBeN ?sueBeF ?sueBeB ?gC ?pgC ?hdic ?poC ?saC ?caC ?spC ?tkC ?moC ?icC ?tyC ?nb_non ?nb_bool ?nb_int ?nb_str ?nb_list ?nb_tuple ?nb_dict ?mkC ?kpC ?na_axis ?na_at ?na_front ?na_directions ?aI ?iI ?lI ?cI ?kI ?lTI ?aP ?lP ?cP ?kP ?iP ?aE ?lE ?cE ?kE ?iE ?aN ?lN ?cN ?kN ?iN ?aD ?lD ?cD ?kD ?iD ?lC ?nsC ?neqC ?nneC ?ocE_ ?sfC ?raC ?fo1_non ?ro1_non ?fo1_bool ?ro1_bool ?fo1_int ?ro1_int ?fo1_str ?ro1_str ?fo1_list ?ro1_list ?fo1_tuple ?ro1_tuple ?fo1_dict ?ro1_dict
    (case n_isinstance => k_is)
    (case n_int => k_is)
    (case n_bool => k_is)
    (case n_str => k_is)
    (case n_abs => k_is)
    (case n_tuple => k_is)
    (case n_ValueError => k_is)
    (case n_repr => k_is)
    (case n_list => k_is)
    (case n_range => k_is)
    (case n_len => k_is)
    (case n_max => k_is)
    (case n_min => k_is)
    (case a1 => k_is)
    (case l1 => k_is)
    (case c1 => k_is)
    (case k1 => k_is)
    (case a2 => k_is)
    (case l2 => k_is)
    (case c2 => k_is)
    (case k2 => k_is)
    (case a3 => k_is)
    (case l3 => k_is)
    (case c3 => k_is)
    (case k3 => k_is)
    (case a4 => k_is)
    (case l4 => k_is)
    (case c4 => k_is)
    (case k4 => k_is)
    (case a5 => k_is)
    (case l5 => k_is)
    (case c5 => k_is)
    (case k5 => k_is)
    (case a6 => k_is)
    (case l6 => k_is)
    (case c6 => k_is)
    (case k6 => k_is)
    (case a7 => k_is)
    (case l7 => k_is)
    (case c7 => k_is)
    (case k7 => k_is)
    (case a8 => k_is)
    (case l8 => k_is)
    (case c8 => k_is)
    (case k8 => k_is)
    (case a9 => k_is)
    (case l9 => k_is)
    (case c9 => k_is)
    (case k9 => k_is)
    (case a10 => k_is)
    (case l10 => k_is)
    (case c10 => k_is)
    (case k10 => k_is)
    (case a11 => k_is)
    (case l11 => k_is)
    (case c11 => k_is)
    (case k11 => k_is)
    (case a12 => k_is)
    (case l12 => k_is)
    (case c12 => k_is)
    (case k12 => k_is)
    (case lk12 => k_is)
    (case h1112 => rfl)
    (case h1212 => rfl)
    (case h1812 => rfl)
    (case h712 => rfl)
    (case h912 => rfl)
    (case h1012 => rfl)
    (case hn12 => decide)
    (case nl12 => first | rfl | kernel_rfl)
    (case mt12 => decide)
    (case a13 => k_is)
    (case l13 => k_is)
    (case c13 => k_is)
    (case k13 => k_is)
    (case lk13 => k_is)
    (case h1113 => rfl)
    (case h1213 => rfl)
    (case h1813 => rfl)
    (case h713 => rfl)
    (case h913 => rfl)
    (case h1013 => rfl)
    (case hn13 => decide)
    (case nl13 => first | rfl | kernel_rfl)
    (case mt13 => decide)
    (case nP => decide)
    (case atA => k_is)
    (case ltA => k_is)
    (case ztA => decide)
    (case vtA => exact (.cons ⟨_, rfl⟩ (.cons ⟨_, rfl⟩ (.cons ⟨_, rfl⟩ .nil))))
    (case atD => k_is)
    (case ld => k_is)
    (case kd => exact ⟨⟨_, _, rfl, rfl⟩, ⟨_, _, rfl, rfl⟩, ⟨_, _, rfl, rfl⟩, trivial⟩)
    (case atX => k_is)
    (case ltX => k_is)
    (case ztX => decide)
    (case vtX => exact (.cons ⟨_, rfl⟩ (.cons ⟨_, rfl⟩ .nil)))
    (case atY => k_is)
    (case ltY => k_is)
    (case ztY => decide)
    (case vtY => exact (.cons ⟨_, rfl⟩ (.cons ⟨_, rfl⟩ .nil)))
    (case atZ => k_is)
    (case ltZ => k_is)
    (case ztZ => decide)
    (case vtZ => exact (.cons ⟨_, rfl⟩ (.cons ⟨_, rfl⟩ .nil)))
    (case vV => k_is)
    (case geX => k_is)
    (case lceX => k_is)
    (case rveX => rfl)
    (case saeX => k_is)
    (case beeX => k_is)
    (case veeX => k_is)
    (case tyeX => k_is)
    (case ke_eX => k_is)
    (case gaeX => k_is)
    (case ggeX => k_is)
    (case hdeX => k_is)
    (case nveX => k_is)
    (case aeX => k_is)
    (case leX => k_is)
    (case ceX => k_is)
    (case keX => k_is)
    (case tfeX => k_is)
    (case geN => k_is)
    (case lceN => k_is)
    (case rveN => rfl)
    (case saeN => k_is)
    (case beeN => k_is)
    (case veeN => k_is)
    (case tyeN => k_is)
    (case ke_eN => k_is)
    (case gaeN => k_is)
    (case ggeN => k_is)
    (case hdeN => k_is)
    (case nveN => k_is)
    (case aeN => k_is)
    (case leN => k_is)
    (case ceN => k_is)
    (case keN => k_is)
    (case tfeN => k_is)
    (case geF => k_is)
    (case lceF => k_is)
    (case rveF => rfl)
    (case saeF => k_is)
    (case beeF => k_is)
    (case veeF => k_is)
    (case tyeF => k_is)
    (case ke_eF => k_is)
    (case gaeF => k_is)
    (case ggeF => k_is)
    (case hdeF => k_is)
    (case nveF => k_is)
    (case aeF => k_is)
    (case leF => k_is)
    (case ceF => k_is)
    (case keF => k_is)
    (case tfeF => k_is)
    (case geB => k_is)
    (case lceB => k_is)
    (case rveB => rfl)
    (case saeB => k_is)
    (case beeB => k_is)
    (case veeB => k_is)
    (case tyeB => k_is)
    (case ke_eB => k_is)
    (case gaeB => k_is)
    (case ggeB => k_is)
    (case hdeB => k_is)
    (case aeB => k_is)
    (case leB => k_is)
    (case ceB => k_is)
    (case keB => k_is)
    (case tfeB => k_is)
    (case sueXeX => first | rfl | k_is)
    (case sueNeX => k_is)
    (case sueNeN => first | rfl | k_is)
    (case sueFeX => k_is)
    (case sueFeN => k_is)
    (case sueFeF => first | rfl | k_is)
    (case sueBeX => k_is)
    (case sueBeN => k_is)
    (case sueBeF => k_is)
    (case sueBeB => first | rfl | k_is)
    (case gC => k_is)
    (case pgC => k_is)
    (case hdic => k_is)
    (case poC => k_is)
    (case saC => k_is)
    (case caC => k_is)
    (case spC => k_is)
    (case tkC => k_is)
    (case moC => k_is)
    (case icC => k_is)
    (case tyC => k_is)
    (case nb_non => k_is)
    (case nb_bool => k_is)
    (case nb_int => k_is)
    (case nb_str => k_is)
    (case nb_list => k_is)
    (case nb_tuple => k_is)
    (case nb_dict => k_is)
    (case mkC => k_is)
    (case kpC => k_is)
    (case na_axis => k_is)
    (case na_at => k_is)
    (case na_front => k_is)
    (case na_directions => k_is)
    (case aI => k_is)
    (case iI => k_is)
    (case lI => k_is)
    (case cI => k_is)
    (case kI => k_is)
    (case lTI => k_is)
    (case aP => k_is)
    (case lP => k_is)
    (case cP => k_is)
    (case kP => k_is)
    (case iP => k_is)
    (case aE => k_is)
    (case lE => k_is)
    (case cE => k_is)
    (case kE => k_is)
    (case iE => k_is)
    (case aN => k_is)
    (case lN => k_is)
    (case cN => k_is)
    (case kN => k_is)
    (case iN => k_is)
    (case aD => k_is)
    (case lD => k_is)
    (case cD => k_is)
    (case kD => k_is)
    (case iD => k_is)
    (case lC => k_is)
    (case nsC => first | rfl | kernel_rfl)
    (case neqC => k_is)
    (case nneC => k_is)
    (case ocE_ => rfl)
    (case sfC => k_is)
    (case raC => k_is)
    (case fo1_non => k_is)
    (case ro1_non => k_is)
    (case fo1_bool => k_is)
    (case ro1_bool => k_is)
    (case fo1_int => k_is)
    (case ro1_int => k_is)
    (case fo1_str => k_is)
    (case ro1_str => k_is)
    (case fo1_list => k_is)
    (case ro1_list => k_is)
    (case fo1_tuple => k_is)
    (case ro1_tuple => k_is)
    (case fo1_dict => k_is)
    (case ro1_dict => k_is)
