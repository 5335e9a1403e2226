import PyProof.Rows.All
import Wide.All
import OpenK.AllK
import Wide.FinOn
import HandS.ForMost
import HandS.IsInst
import HandS.Flow
import HandS.Wide
import HandS.Style
import HandS.RaiseMore
import HandS.Steps
import PySem.Challenge.RW_blockshanded_k01_names
set_option Elab.async false
set_option linter.all false
set_option maxRecDepth 100000
set_option maxHeartbeats 2000000
/-! Functional readings: rules whose readings compute by the values' kinds. -/
namespace U
open PySem PySem.Spec PyProof.Rows L2
section
variable {X : Cx} {a b c e : Expr} {ta tb tc te t t' : TE} {pos : Pos}
theorem imp (h : PE X e t) (f : ∀ σ H Q, t' σ H Q → t σ H Q) : PE X e t' := ⟨fun pins s σ H Q I q => h.run pins s σ H Q I (f σ H Q q)⟩
theorem opImp {f : Value → Value → Sem Value} {r r' : R2} (h : OpR X f r) (g : ∀ x y H Q, r' x y H Q → r x y H Q) : OpR X f r' :=
  fun pins s σ H x y v u Q I rx ry q => h pins s σ H x y v u Q I rx ry (g x y H Q q)
theorem callImp {f : Value} {r r' : List V → Hp → VK → Prop} (h : CallR X f r) (g : ∀ xs H Q, r' xs H Q → r xs H Q) : CallR X f r' :=
  fun pins s σ H xs us Q I rx q => h pins s σ H xs us Q I rx (g xs H Q q)
/-- several rules of one operation, chosen by the values -/
theorem opCases {f : Value → Value → Sem Value} {r : R2} (h : ∀ x y H Q, r x y H Q → ∃ r' : R2, OpR X f r' ∧ r' x y H Q) : OpR X f r :=
  fun pins s σ H x y v u Q I rx ry q => let ⟨_, o, q'⟩ := h x y H Q q; o pins s σ H x y v u Q I rx ry q'
theorem callCases {f : Value} {r : List V → Hp → VK → Prop} (h : ∀ xs H Q, r xs H Q → ∃ r' : List V → Hp → VK → Prop, CallR X f r' ∧ r' xs H Q) : CallR X f r :=
  fun pins s σ H xs us Q I rx q => let ⟨_, o, q'⟩ := h xs H Q q; o pins s σ H xs us Q I rx q'

/-! ### names -/
def fVar (i : Nat) : TE := fun σ H Q => match σ[i]? with | some (some v) => Q v H | _ => False
theorem n (i : Nat) {x : Str} {pos : Pos} (hN : X.N[i]? = some x := by rfl) (hv : Vis X.env.scope x := by first | exact Or.inl rfl | exact Or.inr (Or.inl rfl) | exact Or.inr (Or.inr rfl))
    (hd : (x == ("__debug__" : Str)) = false := by decide) (hcd : (x == ("__classdict__" : Str)) = false := by decide) : PE X (.Name x pos) (fVar i) :=
  imp (pe_var hN hv hd hcd) fun σ H Q h => by
    unfold fVar at h
    split at h
    · rename_i v e
      exact ⟨v, e, h⟩
    · exact h.elim

/-! ### arithmetic -/
def fAdd : R2 := fun x y H Q => match x, y with
  | .int i, .int j => Q (.int (i + j)) H
  | .int i, .bl k => Q (.int (i + b2i k)) H
  | .str a, .str b => a.length + b.length ≤ sizeLine ∧ Q (.str (a ++ b)) H
  | .ref l, .ref r => rCat (.ref l) (.ref r) H Q
  | _, _ => False
theorem o_add : OpR X (binaryOp .Add) fAdd := opCases fun x y H Q h => by
  cases x <;> cases y <;> first | exact h.elim | skip
  · exact ⟨_, op_add_ib, _, _, rfl, rfl, h⟩
  · exact ⟨_, op_add, _, _, rfl, rfl, h⟩
  · exact ⟨_, op_add_str, _, _, rfl, rfl, h.1, h.2⟩
  · exact ⟨_, op_cat, h⟩
def fAddT (K : PySem.W.Frag) : R2 := rCatT K
theorem o_addT : OpR X (binaryOp .Add) (fAddT X.K) := op_catT
def fSub : R2 := fun x y H Q => match x, y with
  | .int i, .int j => Q (.int (i - j)) H
  | _, _ => False
theorem o_sub : OpR X (binaryOp .Sub) fSub := opCases fun x y H Q h => by
  cases x <;> cases y <;> first | exact h.elim | exact ⟨_, op_sub, _, _, rfl, rfl, h⟩
def fMul : R2 := fun x y H Q => match x, y with
  | .int i, .int j => CMul i j ∧ Q (.int (i * j)) H
  | .ref l, .int k => rRep (.ref l) (.int k) H Q
  | _, _ => False
theorem o_mul : OpR X (binaryOp .Mult) fMul := opCases fun x y H Q h => by
  cases x <;> cases y <;> first | exact h.elim | exact ⟨_, op_mul, _, _, rfl, rfl, h.1, h.2⟩ | exact ⟨_, op_rep, h⟩
def fDiv : R2 := fun x y H Q => match x, y with
  | .int i, .int j => CDiv i j ∧ Q (.int (i / j)) H
  | _, _ => False
theorem o_div : OpR X (binaryOp .FloorDiv) fDiv := opCases fun x y H Q h => by
  cases x <;> cases y <;> first | exact h.elim | exact ⟨_, op_fdiv, _, _, rfl, rfl, h.1, h.2⟩
def fMod : R2 := fun x y H Q => match x, y with
  | .int i, .int j => 0 < j ∧ Q (.int (i % j)) H
  | _, _ => False
theorem o_mod : OpR X (binaryOp .Mod) fMod := opCases fun x y H Q h => by
  cases x <;> cases y <;> first | exact h.elim | exact ⟨_, op_mod, _, _, rfl, rfl, h.1, h.2⟩
/-- a written power of written numbers -/
def CPowW (i j : Int) : Prop := 0 ≤ j ∧ (Builtin.Int.intBits i : Int) * j ≤ 2 ^ 27
theorem op_powW : OpR X (binaryOp .Pow) (rI CPowW fun i j => .int (i ^ j.toNat)) := opI fun _ _ _ _ _ _ _ hc q => pow_int hc.1 hc.2 q
def fPow : R2 := fun x y H Q => match x, y with
  | .int i, .int j => CPowW i j ∧ Q (.int (i ^ j.toNat)) H
  | _, _ => False
theorem o_pow : OpR X (binaryOp .Pow) fPow := opCases fun x y H Q h => by
  cases x <;> cases y <;> first | exact h.elim | exact ⟨_, op_powW, _, _, rfl, rfl, h.1, h.2⟩

/-! ### comparisons -/
def fLt : R2 := fun x y H Q => match x, y with
  | .int i, .int j => Q (.bl (decide (i < j))) H
  | .str a, .str b => Q (.bl (decide (a.cps.toList < b.cps.toList))) H
  | _, _ => False
def fLe : R2 := fun x y H Q => match x, y with
  | .int i, .int j => Q (.bl (decide (i ≤ j))) H
  | .str a, .str b => Q (.bl (!decide (b.cps.toList < a.cps.toList))) H
  | _, _ => False
def fGt : R2 := fun x y H Q => match x, y with
  | .int i, .int j => Q (.bl (decide (j < i))) H
  | .str a, .str b => Q (.bl (decide (b.cps.toList < a.cps.toList))) H
  | _, _ => False
def fGe : R2 := fun x y H Q => match x, y with
  | .int i, .int j => Q (.bl (decide (j ≤ i))) H
  | .str a, .str b => Q (.bl (!decide (a.cps.toList < b.cps.toList))) H
  | _, _ => False
theorem o_lt : OpR X (compareOp .Lt) fLt := opCases fun x y H Q h => by
  cases x <;> cases y <;> first | exact h.elim | exact ⟨_, op_lt, _, _, rfl, rfl, h⟩ | exact ⟨_, op_lt_str, _, _, rfl, rfl, h⟩
theorem o_le : OpR X (compareOp .LtE) fLe := opCases fun x y H Q h => by
  cases x <;> cases y <;> first | exact h.elim | exact ⟨_, op_le, _, _, rfl, rfl, h⟩ | exact ⟨_, op_le_str, _, _, rfl, rfl, h⟩
theorem o_gt : OpR X (compareOp .Gt) fGt := opCases fun x y H Q h => by
  cases x <;> cases y <;> first | exact h.elim | exact ⟨_, op_gt, _, _, rfl, rfl, h⟩ | exact ⟨_, op_gt_str, _, _, rfl, rfl, h⟩
theorem o_ge : OpR X (compareOp .GtE) fGe := opCases fun x y H Q h => by
  cases x <;> cases y <;> first | exact h.elim | exact ⟨_, op_ge, _, _, rfl, rfl, h⟩ | exact ⟨_, op_ge_str, _, _, rfl, rfl, h⟩
/-- == of two scalars at once; of data by what it holds -/
def fEq (K : PySem.W.Frag) : R2 := fun x y H Q => match x, y with
  | .int i, .int j => Q (.bl (decide (i = j))) H
  | .str a, .str b => Q (.bl (decide (a = b))) H
  | .bl a, .bl b => Q (.bl (decide (a = b))) H
  | _, _ => rEqD K x y H Q
def fNe (K : PySem.W.Frag) : R2 := fun x y H Q => match x, y with
  | .int i, .int j => Q (.bl (!decide (i = j))) H
  | .str a, .str b => Q (.bl (!decide (a = b))) H
  | .bl a, .bl b => Q (.bl (!decide (a = b))) H
  | _, _ => rNeD K x y H Q
theorem dI {i j : Int} : decide (V.int i = V.int j) = decide (i = j) := by simp
theorem dS {i j : Str} : decide (V.str i = V.str j) = decide (i = j) := by simp
theorem dB {i j : Bool} : decide (V.bl i = V.bl j) = decide (i = j) := by simp
theorem o_eq (hu : X.A.units + 64 < cLine) : OpR X (compareOp .Eq) (fEq X.K) := opCases fun x y H Q h => by
  cases x <;> cases y <;> first | exact ⟨_, op_eqD hu, h⟩ | exact ⟨_, op_eq, rfl, by rw [dI]; exact h⟩ | exact ⟨_, op_eq, rfl, by rw [dS]; exact h⟩ | exact ⟨_, op_eq, rfl, by rw [dB]; exact h⟩
theorem o_ne (hu : X.A.units + 64 < cLine) : OpR X (compareOp .NotEq) (fNe X.K) := opCases fun x y H Q h => by
  cases x <;> cases y <;> first | exact ⟨_, op_neD hu, h⟩ | exact ⟨_, op_ne, rfl, by rw [dI]; exact h⟩ | exact ⟨_, op_ne, rfl, by rw [dS]; exact h⟩ | exact ⟨_, op_ne, rfl, by rw [dB]; exact h⟩
def fIsN : R2 := fun x y H Q => match y with
  | .non => Q (.bl (decide (x = .non))) H
  | _ => False
def fNotN : R2 := fun x y H Q => match y with
  | .non => Q (.bl (!decide (x = .non))) H
  | _ => False
theorem o_isN : OpR X (compareOp .Is) fIsN := opCases fun x y H Q h => by
  cases y <;> first | exact h.elim | exact ⟨_, op_isN, rfl, h⟩
theorem o_notN : OpR X (compareOp .IsNot) fNotN := opCases fun x y H Q h => by
  cases y <;> first | exact h.elim | exact ⟨_, op_notN, rfl, h⟩

/-! ### tests -/
def fTest (t : TE) : TT := fun σ H Q => t σ H fun x H' => match x with
  | .bl k => Q k H'
  | _ => False
theorem fTest_eq : fTest = tTest := by
  funext t σ H Q
  show t σ H _ = t σ H _
  congr 1
  funext x H'
  cases x <;> simp
theorem fTestB_eq : fTest = tB := by
  funext t σ H Q
  show t σ H _ = t σ H _
  congr 1
  funext x H'
  cases x <;> simp
/-- a comparison as a test, as a value -/
theorem tcm {op : CmpOp} {r : R2} (ho : OpR X (compareOp op) r) (ha : PE X a ta) (hb : PE X b tb) (hm : behindInMarks op b = false := by first | exact nomark _ | rfl) : PT X (.Compare a [op] [b] pos) (fTest (tOp r ta tb)) := by
  rw [fTest_eq]; exact pt_cmpR ho ha hb hm
theorem ecm {op : CmpOp} {r : R2} (ho : OpR X (compareOp op) r) (ha : PE X a ta) (hb : PE X b tb) (hm : behindInMarks op b = false := by first | exact nomark _ | rfl) : PE X (.Compare a [op] [b] pos) (tOp r ta tb) := pe_cmpR ho ha hb hm
def fChain (r r' : R2) (ta tb tc : TE) : TE := fun σ H Q => ta σ H fun x H1 => tb σ H1 fun y H2 => r x y H2 fun z H3 => match z with
  | .bl k => if k = true then tc σ H3 fun w' H4 => r' y w' H4 Q else Q (.bl false) H3
  | _ => False
theorem fChain_eq : fChain = tChain := by
  funext r r' ta tb tc σ H Q
  show ta σ H _ = ta σ H _
  congr 1
  funext x H1
  show tb σ H1 _ = tb σ H1 _
  congr 1
  funext y H2
  show r x y H2 _ = r x y H2 _
  congr 1
  funext z H3
  cases z <;> simp
theorem ech {op op' : CmpOp} {r r' : R2} (ho : OpR X (compareOp op) r) (ho' : OpR X (compareOp op') r') (ha : PE X a ta) (hb : PE X b tb) (hc : PE X c tc) (hm : lastMarks [op, op'] [b, c] = false := by rfl) :
    PE X (.Compare a [op, op'] [b, c] pos) (fChain r r' ta tb tc) := by
  rw [fChain_eq]; exact pe_chain ho ho' ha hb hc hm
theorem tch {op op' : CmpOp} {r r' : R2} (ho : OpR X (compareOp op) r) (ho' : OpR X (compareOp op') r') (ha : PE X a ta) (hb : PE X b tb) (hc : PE X c tc) (hm : lastMarks [op, op'] [b, c] = false := by rfl) :
    PT X (.Compare a [op, op'] [b, c] pos) (fTest (fChain r r' ta tb tc)) := by
  rw [fChain_eq, fTest_eq]; exact pt_chain ho ho' ha hb hc hm
/-- any value as a test -/
def fTru (K : PySem.W.Frag) (t : TE) : TT := fun σ H Q => t σ H fun x H' => match x with
  | .bl k => Q k H'
  | .non => Q false H'
  | .int i => Q (i != 0) H'
  | .str y => y.length ≤ sizeLine ∧ Q ((y.length : Int) != 0) H'
  | x => ∃ k, TruV K x H' k ∧ Q k H'
theorem fTru_eq {K : PySem.W.Frag} {t : TE} : fTru K t = fun σ H Q => t σ H fun x H' => ∃ k, TruV K x H' k ∧ Q k H' := by
  funext σ H Q
  show t σ H _ = t σ H _
  congr 1
  funext x H'
  cases x <;> first | (apply propext; exact ⟨fun ⟨h1, h2⟩ => ⟨_, ⟨h1, rfl⟩, h2⟩, fun ⟨k, ⟨h1, h2⟩, h3⟩ => ⟨h1, h2 ▸ h3⟩⟩) | simp [TruV]
theorem tv (ha : PE X a ta) (he : ∀ whole, isTrue a X.env whole = (do let v ← whole; standAt a.pos; holding [v] (truthy v)) := by intro _; rfl) : PT X a (fTru X.K ta) := by
  rw [fTru_eq]; exact pt_truth ha he
/-! ### values of and, or, not whose parts are bools -/
def fAndV (ta tb : TE) : TE := fun σ H Q => ta σ H fun x H1 => match x with
  | .bl c => if c = true then tb σ H1 Q else Q (.bl false) H1
  | _ => False
def fOrV (ta tb : TE) : TE := fun σ H Q => ta σ H fun x H1 => match x with
  | .bl c => if c = true then Q (.bl true) H1 else tb σ H1 Q
  | _ => False
def fNotV (ta : TE) : TE := fun σ H Q => ta σ H fun x H1 => match x with
  | .bl c => Q (.bl (!c)) H1
  | _ => False
theorem fAndV_eq : fAndV = tAndV := by
  funext ta tb σ H Q
  show ta σ H _ = ta σ H _
  congr 1
  funext x H1
  cases x <;> simp
theorem fOrV_eq : fOrV = tOrV := by
  funext ta tb σ H Q
  show ta σ H _ = ta σ H _
  congr 1
  funext x H1
  cases x <;> simp
theorem fNotV_eq : fNotV = tNotV := by
  funext ta σ H Q
  show ta σ H _ = ta σ H _
  congr 1
  funext x H1
  cases x <;> simp
variable {rest : List Expr}
theorem eand (ha : PE X a ta) (hb : PE X (.BoolOp .And (b :: rest) pos) tb) : PE X (.BoolOp .And (a :: b :: rest) pos) (fAndV ta tb) := by rw [fAndV_eq]; exact pe_and ha hb
theorem eor (ha : PE X a ta) (hb : PE X (.BoolOp .Or (b :: rest) pos) tb) : PE X (.BoolOp .Or (a :: b :: rest) pos) (fOrV ta tb) := by rw [fOrV_eq]; exact pe_or ha hb
theorem enot (ha : PE X a ta) : PE X (.UnaryOp .Not a pos) (fNotV ta) := by rw [fNotV_eq]; exact pe_not ha
/-! ### calls of built-ins -/
def fAbs : List V → Hp → VK → Prop := fun xs H Q => match xs with
  | [.int i] => Q (.int (if i < 0 then -i else i)) H
  | _ => False
theorem c_abs : CallR X (.builtin "abs") fAbs := callImp call_abs fun xs H Q h => by
  unfold fAbs at h; split at h
  · exact ⟨_, rfl, h⟩
  · exact h.elim
def fMax : List V → Hp → VK → Prop := fun xs H Q => match xs with
  | [.int i, .int j] => Q (.int (if j > i then j else i)) H
  | _ => False
theorem c_max (hc : X.calm = true) : CallR X (.builtin "max") fMax := callImp (call_max2 hc) fun xs H Q h => by
  unfold fMax at h; split at h
  · exact ⟨_, _, rfl, h⟩
  · exact h.elim
def fMin : List V → Hp → VK → Prop := fun xs H Q => match xs with
  | [.int i, .int j] => Q (.int (if j < i then j else i)) H
  | _ => False
theorem c_min (hc : X.calm = true) : CallR X (.builtin "min") fMin := callImp (call_min2 hc) fun xs H Q h => by
  unfold fMin at h; split at h
  · exact ⟨_, _, rfl, h⟩
  · exact h.elim
def fInt : List V → Hp → VK → Prop := fun xs H Q => match xs with
  | [.int i] => Q (.int i) H
  | [.bl k] => Q (.int (if k then 1 else 0)) H
  | _ => False
theorem c_int : CallR X (.type "int") fInt := callImp call_int1 fun xs H Q h => by
  unfold fInt at h; split at h
  · exact .inl ⟨_, rfl, h⟩
  · exact .inr ⟨_, rfl, h⟩
  · exact h.elim
def fLen (K : PySem.W.Frag) : List V → Hp → VK → Prop := fun xs H Q => match xs with
  | [.str y] => y.length ≤ sizeLine ∧ Q (.int y.length) H
  | [.ref p] => ∃ n : Nat, ((∃ xs, SqL K H p xs ∧ n = xs.length) ∨ ∃ xs, SqT K H p xs ∧ n = xs.length) ∧ Q (.int n) H
  | _ => False
theorem c_len : CallR X (.builtin "len") (fLen X.K) := callImp call_len fun xs H Q h => by
  unfold fLen at h; split at h
  · exact ⟨_, _, rfl, ⟨h.1, rfl⟩, h.2⟩
  · obtain ⟨n, h1, h2⟩ := h
    exact ⟨_, n, rfl, h1, h2⟩
  · exact h.elim
/-! ### statements -/
theorem set (i : Nat) {x : Str} {pos' : Pos} {te : TE} (hN : X.N.Nodup) (he : PE X e te) (hi : X.N[i]? = some x := by rfl) (hx : Loc X.env.scope x := by first | exact Or.inl rfl | exact Or.inr rfl) (hs : swapsWith e (some (.Name x pos')) pos.line X.env = pure false := by rfl)
    (hf : X.fn x = true ∨ X.env.scope.names.lookup x = some .local := by first | exact .inl rfl | exact .inr rfl) : PS X (.Assign [.Name x pos'] e pos) (tAsg te (gName i)) := ps_set hN hi hx he hs hf
theorem gn (i : Nat) {x : Str} {pos : Pos} (hN : X.N.Nodup) (hi : X.N[i]? = some x := by rfl) (hx : Loc X.env.scope x := by first | exact Or.inl rfl | exact Or.inr rfl)
    (hf : X.fn x = true ∨ X.env.scope.names.lookup x = some .local := by first | exact .inl rfl | exact .inr rfl) : PG X (.Name x pos) (gName i) := pg_name hN hi hx hf
/-- o[i] = v on a list -/
def fSetL : V → V → V → Hp → (Hp → Prop) → Prop := fun o i v H Q => match o, i with
  | .ref p, .int k => ∃ xs j, H p = some (.lst xs) ∧ ixN xs.length k = some j ∧ Q (upd H p (.lst (xs.set j v)))
  | _, _ => False
theorem s_list : PSet X fSetL := fun pins s σ H o i v ov iv u Q I r1 r2 r3 h => by
  cases o <;> cases i <;> first | exact h.elim | skip
  obtain ⟨xs, j, h1, h2, h3⟩ := h
  exact set_list pins s σ H _ _ v ov iv u Q I r1 r2 r3 ⟨_, xs, _, j, rfl, rfl, h1, h2, h3⟩
/-- xs[i]: a list, a tuple, a text -/
def fIx (K : PySem.W.Frag) : R2 := fun x y H Q => match x, y with
  | .str z, .int i => z.length ≤ sizeLine ∧ ∃ c, atI z.cps.toList i = some c ∧ Q (.str ⟨#[c]⟩) H
  | .ref p, .int i => ∃ xs v, (SqL K H p xs ∨ SqT K H p xs) ∧ atI xs i = some v ∧ Q v H
  | _, _ => False
theorem x_seq : IxR X (fIx X.K) := fun value slice pins s σ H x y v u Q I rx ry h hs => by
  cases x <;> cases y <;> first | exact h.elim | skip
  · obtain ⟨h1, c, h2, h3⟩ := h
    exact ix_str value slice pins s σ H _ _ v u Q I rx ry ⟨_, _, c, rfl, rfl, h1, h2, h3⟩ hs
  · obtain ⟨xs, z, h1 | h1, h2, h3⟩ := h
    · exact ix_list value slice pins s σ H _ _ v u Q I rx ry ⟨_, xs, _, z, rfl, rfl, h1, h2, h3⟩ hs
    · exact ix_tup value slice pins s σ H _ _ v u Q I rx ry ⟨_, xs, _, z, rfl, rfl, h1, h2, h3⟩ hs
theorem ix (ha : PE X a ta) (hb : PE X b tb) (hs : PlainIx b := by exact fun _ _ => rfl) : PE X (.Subscript a b pos) (tOp (fIx X.K) ta tb) := pe_ix x_seq ha hb hs
end
/-! ### a promise by what is asked and what is given -/
def Pr (pre : List V → Hp → Prop) (post : List V → Hp → V → Hp → Prop) : Sp := fun vs H Q _ => pre vs H ∧ ∀ v H', post vs H v H' → Q v H'

/-! ### built-ins by their names -/
theorem b_len : bootBuiltins "len" = some (.builtin "len") := by decide +kernel
theorem b_abs : bootBuiltins "abs" = some (.builtin "abs") := by decide +kernel
theorem b_max : bootBuiltins "max" = some (.builtin "max") := by decide +kernel
theorem b_min : bootBuiltins "min" = some (.builtin "min") := by decide +kernel
theorem b_repr : bootBuiltins "repr" = some (.builtin "repr") := by decide +kernel
theorem b_isinstance : bootBuiltins "isinstance" = some (.builtin "isinstance") := by decide +kernel
theorem b_all : bootBuiltins "all" = some (.builtin "all") := by decide +kernel
theorem b_any : bootBuiltins "any" = some (.builtin "any") := by decide +kernel
theorem b_sum : bootBuiltins "sum" = some (.builtin "sum") := by decide +kernel
theorem b_sorted : bootBuiltins "sorted" = some (.builtin "sorted") := by decide +kernel
theorem b_int : bootBuiltins "int" = some (.type "int") := by decide +kernel
theorem b_str : bootBuiltins "str" = some (.type "str") := by decide +kernel
theorem b_bool : bootBuiltins "bool" = some (.type "bool") := by decide +kernel
theorem b_tuple : bootBuiltins "tuple" = some (.type "tuple") := by decide +kernel
theorem b_list : bootBuiltins "list" = some (.type "list") := by decide +kernel
theorem b_dict : bootBuiltins "dict" = some (.type "dict") := by decide +kernel
theorem b_set : bootBuiltins "set" = some (.type "set") := by decide +kernel
theorem b_zip : bootBuiltins "zip" = some (.type "zip") := by decide +kernel
theorem b_enumerate : bootBuiltins "enumerate" = some (.type "enumerate") := by decide +kernel
section
variable {X : Cx} {e : Expr} {es : List Expr} {t : TA} {p pos : Pos} {x : Str}
theorem e_ty {T : String} (m : X.mg x = none) (hv : bootBuiltins x = some (.type T)) (hg : Gl X x := by rfl) (hn : x ≠ "__name__" := by decide) (hd : (x == ("__debug__" : Str)) = false := by decide) : PE X (.Name x pos) (tC (.ty T)) := pe_bltn hg m hv rfl hn hd
theorem e_len (m : X.mg "len" = none) (ha : PA X (e :: es) t) (hg : Gl X "len" := by rfl) (he : starEach (e :: es) X.env = (false, eval e X.env) :: starEach es X.env := by rfl) (hpl : (backTo pos (starEach es X.env)).any (·.1) = false := by rfl) : PE X (.Call (.Name "len" p) (e :: es) [] pos) (tCB (fLen X.K) t) := pe_callB c_len hg m b_len ha (he := he) (hpl := hpl)
theorem e_abs (m : X.mg "abs" = none) (ha : PA X (e :: es) t) (hg : Gl X "abs" := by rfl) (he : starEach (e :: es) X.env = (false, eval e X.env) :: starEach es X.env := by rfl) (hpl : (backTo pos (starEach es X.env)).any (·.1) = false := by rfl) : PE X (.Call (.Name "abs" p) (e :: es) [] pos) (tCB fAbs t) := pe_callB c_abs hg m b_abs ha (he := he) (hpl := hpl)
theorem e_max (m : X.mg "max" = none) (ha : PA X (e :: es) t) (hc : X.calm = true := by rfl) (hg : Gl X "max" := by rfl) (he : starEach (e :: es) X.env = (false, eval e X.env) :: starEach es X.env := by rfl) (hpl : (backTo pos (starEach es X.env)).any (·.1) = false := by rfl) : PE X (.Call (.Name "max" p) (e :: es) [] pos) (tCB fMax t) := pe_callB (c_max hc) hg m b_max ha (he := he) (hpl := hpl)
theorem e_min (m : X.mg "min" = none) (ha : PA X (e :: es) t) (hc : X.calm = true := by rfl) (hg : Gl X "min" := by rfl) (he : starEach (e :: es) X.env = (false, eval e X.env) :: starEach es X.env := by rfl) (hpl : (backTo pos (starEach es X.env)).any (·.1) = false := by rfl) : PE X (.Call (.Name "min" p) (e :: es) [] pos) (tCB fMin t) := pe_callB (c_min hc) hg m b_min ha (he := he) (hpl := hpl)
theorem e_int (m : X.mg "int" = none) (ha : PA X (e :: es) t) (hg : Gl X "int" := by rfl) (he : starEach (e :: es) X.env = (false, eval e X.env) :: starEach es X.env := by rfl) (hpl : (backTo pos (starEach es X.env)).any (·.1) = false := by rfl) : PE X (.Call (.Name "int" p) (e :: es) [] pos) (tCB fInt t) := pe_callTy c_int hg m b_int ha (he := he) (hpl := hpl)
/-- repr of scalars -/
def fRepr : List V → Hp → VK → Prop := fun xs H Q => match xs with
  | [.bl k] => Q (.str (if k then "True" else "False")) H
  | [.int i] => i.natAbs.log2 < 1920 ∧ Q (.str (toString i)) H
  | [.non] => Q (.str "None") H
  | _ => False
theorem call_repr_bl : CallR X (.builtin "repr") (fun xs H Q => ∃ b, xs = [.bl b] ∧ Q (.str (if b then "True" else "False")) H) := by
  intro pins s σ H xs us Q I r h
  obtain ⟨b, rfl, q⟩ := h
  obtain ⟨u, rfl, rfl⟩ := vals1 r
  exact PySem.P.repr_of_bool ⟨.str _, H, I.tok _, ⟨_, rfl⟩, q⟩
theorem call_repr_non : CallR X (.builtin "repr") (fun xs H Q => xs = [.non] ∧ Q (.str "None") H) := by
  intro pins s σ H xs us Q I r h
  obtain ⟨rfl, q⟩ := h
  obtain ⟨u, rfl, rfl⟩ := vals1 r
  exact PySem.P.repr_of_none ⟨.str _, H, I.tok _, ⟨_, rfl⟩, q⟩
theorem c_repr : CallR X (.builtin "repr") fRepr := callCases fun xs H Q h => by
  unfold fRepr at h; split at h
  · exact ⟨_, call_repr_bl, _, rfl, h⟩
  · exact ⟨_, SkE.call_repr_int, _, rfl, h.1, h.2⟩
  · exact ⟨_, call_repr_non, rfl, h⟩
  · exact h.elim
theorem e_repr (m : X.mg "repr" = none) (ha : PA X (e :: es) t) (hg : Gl X "repr" := by rfl) (he : starEach (e :: es) X.env = (false, eval e X.env) :: starEach es X.env := by rfl) (hpl : (backTo pos (starEach es X.env)).any (·.1) = false := by rfl) : PE X (.Call (.Name "repr" p) (e :: es) [] pos) (tCB fRepr t) := pe_callB c_repr hg m b_repr ha (he := he) (hpl := hpl)
/-- isinstance(x, a built-in type) -/
def isK (a T : String) : Bool := a == T || (a == "bool" && T == "int")
def kinds : List String := ["NoneType", "bool", "int", "str", "list", "tuple", "dict"]
theorem kinds_ok : (kinds.all fun a => kinds.all fun T => kitB a T == some (isK a T)) = true := by decide +kernel
theorem kit_ok {K : PySem.W.Frag} {a T : String} (ha : kinds.contains a = true) (hT : kinds.contains T = true) : PySem.W.kitOne K (.type a) (.type T) = some (isK a T) := by
  have h := List.all_eq_true.mp kinds_ok a (List.contains_iff_mem.mp ha)
  have h2 := List.all_eq_true.mp h T (List.contains_iff_mem.mp hT)
  exact kit_ty (eq_of_beq h2)
def fIsi (K : PySem.W.Frag) : List V → Hp → VK → Prop := fun xs H Q => match xs with
  | [.non, .ty T] => kinds.contains T = true ∧ Q (.bl (isK "NoneType" T)) H
  | [.bl _, .ty T] => kinds.contains T = true ∧ Q (.bl (isK "bool" T)) H
  | [.int _, .ty T] => kinds.contains T = true ∧ Q (.bl (isK "int" T)) H
  | [.str _, .ty T] => kinds.contains T = true ∧ Q (.bl (isK "str" T)) H
  | [.ref p, .ty T] => ∃ a, kinds.contains a = true ∧ kinds.contains T = true ∧ TyX K H (.ref p) (.type a) ∧ Q (.bl (isK a T)) H
  | _ => False
theorem c_isi : CallR X (.builtin "isinstance") (fIsi X.K) := callImp call_isi fun xs H Q h => by
  unfold fIsi at h; split at h
  · exact ⟨_, _, _, _, _, rfl, .ty _, .base .non, kit_ok (by decide) h.1, h.2⟩
  · exact ⟨_, _, _, _, _, rfl, .ty _, .base (.bl _), kit_ok (by decide) h.1, h.2⟩
  · exact ⟨_, _, _, _, _, rfl, .ty _, .base (.int _), kit_ok (by decide) h.1, h.2⟩
  · exact ⟨_, _, _, _, _, rfl, .ty _, .base (.str _), kit_ok (by decide) h.1, h.2⟩
  · obtain ⟨a, h1, h2, h3, h4⟩ := h
    exact ⟨_, _, _, _, _, rfl, .ty _, h3, kit_ok h1 h2, h4⟩
  · exact h.elim
theorem e_isinstance (m : X.mg "isinstance" = none) (ha : PA X (e :: es) t) (hg : Gl X "isinstance" := by rfl) (he : starEach (e :: es) X.env = (false, eval e X.env) :: starEach es X.env := by rfl) (hpl : (backTo pos (starEach es X.env)).any (·.1) = false := by rfl) : PE X (.Call (.Name "isinstance" p) (e :: es) [] pos) (tCB (fIsi X.K) t) := pe_callB c_isi hg m b_isinstance ha (he := he) (hpl := hpl)
theorem e_all (m : X.mg "all" = none) (ha : PA X (e :: es) t) (hc : X.calm = true := by rfl) (hg : Gl X "all" := by rfl) (he : starEach (e :: es) X.env = (false, eval e X.env) :: starEach es X.env := by rfl) (hpl : (backTo pos (starEach es X.env)).any (·.1) = false := by rfl) : PE X (.Call (.Name "all" p) (e :: es) [] pos) (tCB (rAll X.K) t) := pe_callB (cr_all hc) hg m b_all ha (he := he) (hpl := hpl)
/-- in, not in: a text in a text, a flat value in a list or tuple of flat ones -/
def fIn (K : PySem.W.Frag) : R2 := fun x y H Q => match x, y with
  | .str i, .str j => Q (.bl (!(Builtin.Str.occurrences j i 0 j.length 1).isEmpty)) H
  | x, .ref p => ∃ xs, (SqL K H p xs ∨ SqT K H p xs) ∧ flatV x = true ∧ xs.all flatV = true ∧ Q (.bl (inV x xs)) H
  | _, _ => False
theorem o_in : OpR X (compareOp .In) (fIn X.K) := opCases fun x y H Q h => by
  unfold fIn at h; split at h
  · exact ⟨_, op_in_str, _, _, rfl, rfl, h⟩
  · obtain ⟨xs, h1, h2, h3, h4⟩ := h
    exact ⟨_, op_in_seq, _, xs, rfl, h1, h2, h3, h4⟩
  · exact h.elim
def fNIn (K : PySem.W.Frag) : R2 := fun x y H Q => match x, y with
  | .str i, .str j => Q (.bl (!(!(Builtin.Str.occurrences j i 0 j.length 1).isEmpty))) H
  | x, .ref p => ∃ xs, (SqL K H p xs ∨ SqT K H p xs) ∧ flatV x = true ∧ xs.all flatV = true ∧ Q (.bl (!inV x xs)) H
  | _, _ => False
theorem o_nin : OpR X (compareOp .NotIn) (fNIn X.K) := opCases fun x y H Q h => by
  unfold fNIn at h; split at h
  · exact ⟨_, op_notin_str, _, _, rfl, rfl, h⟩
  · obtain ⟨xs, h1, h2, h3, h4⟩ := h
    exact ⟨_, op_notIn_seq, _, xs, rfl, h1, h2, h3, h4⟩
  · exact h.elim
def fSl (K : PySem.W.Frag) : V → Option Int → Option Int → Hp → VK → Prop := fun x lo hi H Q => match x with
  | .str z => z.length ≤ sizeLine ∧ Q (.str (cutS z lo hi)) H
  | .ref p => rSlL K (.ref p) lo hi H Q ∨ rSlT K (.ref p) lo hi H Q
  | _ => False
theorem slCases {r : V → Option Int → Option Int → Hp → VK → Prop} (h : ∀ x lo hi H Q, r x lo hi H Q → ∃ r' : V → Option Int → Option Int → Hp → VK → Prop, SlR X r' ∧ r' x lo hi H Q) : SlR X r := by
  intro pins s σ H x v vl vu lo hi sl Q I rx hs pl pu q
  obtain ⟨r', o, q'⟩ := h x lo hi H Q q
  exact o pins s σ H x v vl vu lo hi sl Q I rx hs pl pu q'
theorem sl_any : SlR X (fSl X.K) := slCases fun x lo hi H Q h => by
  unfold fSl at h; split at h
  · exact ⟨_, sl_str, _, rfl, h.1, h.2⟩
  · rcases h with h | h
    · exact ⟨_, sl_list, h⟩
    · exact ⟨_, sl_tup, h⟩
  · exact h.elim
def fPart (t : TE) : TO := fun σ H Q => t σ H fun x H1 => match x with
  | .int i => Q (some i) H1
  | _ => False
theorem fPart_eq : fPart = tPart := by
  funext t σ H Q
  show t σ H _ = t σ H _
  congr 1
  funext x H'
  cases x <;> simp
theorem posome {te : TE} {e : Expr} (h : PE X e te) : PO X (some e) (fPart te) := by rw [fPart_eq]; exact po_some h
end
/-! ### the defs of a text -/
/-- the def st stands under the name x -/
structure HasDef (K : PySem.W.Frag) (x : Str) (st : Stmt) : Prop where
  ex : ∃ f fd, Fun K x x st f fd ∧ PySem.W.nsIn K mainGlobals x = some (some (.ref f))
theorem has_mk {K : PySem.W.Frag} {x : Str} {st : Stmt} {f : Addr} {oc : Value} {od an : Option Addr} {osl : Array (Option Value)} {kV doc pm cdv ct : Value} (a : PySem.W.nsIn K mainGlobals x = some (some (.ref f)))
    (l : K.lookup f = some ⟨oc, od, .func (PySem.W.fnOf x x (defArgs st) (defBody st) (defScope st) .none kV doc pm an cdv ct), osl⟩) (c : PySem.W.codeIn K cdv x = true) (k : PySem.W.keepIn K (.ref f) = true) : HasDef K x st := ⟨_, _, fun_mk l c k, a⟩
/-- what the module's names hold -/
structure MgOf (K : PySem.W.Frag) (mg : Str → Option Value) : Prop where
  of : ∀ x v, PySem.W.nsIn K mainGlobals x = some v → mg x = v
theorem MgOf.mk' {K : PySem.W.Frag} {h : Heap} {mg : Str → Option Value} (X : K.In h) (G : h.Ns mainGlobals mg) : MgOf K mg := ⟨fun x v e => by
  cases v with
  | none => exact PySem.W.mg_none_of X G e
  | some v => exact PySem.W.mg_of X G e⟩
/-- a def that keeps its promise -/
structure Known (P : Program) (w : World) (K : PySem.W.Frag) (mg : Str → Option Value) (base : Heap) (CX : CXT) (x : Str) (k : Nat) (ps : List Str) (sp : Sp) : Prop where
  ex : ∃ f fd, FnOk P w K mg base CX k f fd ps sp ∧ mg x = some (.ref f) ∧ PySem.W.keepIn K (.ref f) = true ∧ Binds K fd ps []
theorem Known.imp {P : Program} {w : World} {K : PySem.W.Frag} {mg : Str → Option Value} {base : Heap} {CX : CXT} {x : Str} {k : Nat} {ps : List Str} {sp sp' : Sp} (D : Known P w K mg base CX x k ps sp) (h : ∀ vs H Q E, sp' vs H Q E → sp vs H Q E) : Known P w K mg base CX x k ps sp' := by
  obtain ⟨f, fd, F, r⟩ := D.ex
  exact ⟨f, fd, F.imp h, r⟩
theorem Known.of {P : Program} {w : World} {K : PySem.W.Frag} {mg : Str → Option Value} {base : Heap} {x : Str} {st : Stmt} {N ps : List Str} {k : Nat} {sp : Sp} (F : HasDef K x st) (M : MgOf K mg) (S : FnScope N ps (defScope st))
    (hb : ∀ (kV doc pm : Value) (an : Option Addr) (cdv ct : Value) (us : List Value), us.length = ps.length → bindArgs (PySem.W.fnOf x x (defArgs st) (defBody st) (defScope st) .none kV doc pm an cdv ct) ⟨us, []⟩ = pure (ps.zip us))
    (len : ∀ vs H Q E, sp vs H Q E → vs.length = ps.length)
    (hbody : ∀ (f : Addr) (cdv : Value) (A : Around) (outer : List Env) (s : Shared) (H : Hp) (vs : List V) (Q : VK) (E : XK), Room k (A.deeper (envOfC x (defScope st) s.heap.objs.size f cdv)) → sp vs H Q E →
      ∃ t, PSs (cxOf CX0 P w K mg base N x (defScope st) f cdv A outer s H E).nox (defBody st) t ∧ t { nx := fun _ H' => Q .non H', rt := Q } (start N vs) H) : Known P w K mg base CX0 x (k + 1) ps sp := by
  obtain ⟨f, fd, F, e⟩ := F.ex
  exact ⟨f, fd, F.ok S len (hbody f), M.of _ _ e, F.kp, F.binds hb⟩
section
variable {X : Cx} {CX : CXT} {k : Nat} {ps : List Str} {sp : Sp} {E : XK} {x : Str} {p pos : Pos} {e : Expr} {es : List Expr} {t : TA}
def fCall (sp : Sp) (E : XK) (t : TA) : TE := fun σ H Q => t σ H fun vs H1 => sp vs H1 Q E
theorem callX (D : Known X.prog X.w X.K X.mg X.base CX x k ps sp) (hr : Room k X.A) (hx : Passes CX X E) (ha : PA X (e :: es) t) (hg : Gl X x := by rfl) (hdb : (x == ("__debug__" : Str)) = false := by decide)
    (he : starEach (e :: es) X.env = (false, eval e X.env) :: starEach es X.env := by rfl) (hpl : (backTo pos (starEach es X.env)).any (·.1) = false := by rfl) : PE X (.Call (.Name x p) (e :: es) [] pos) (fCall sp E t) := by
  obtain ⟨f, fd, F, m, kp, b⟩ := D.ex
  have h : tCall sp [] E t = fCall sp E t := by
    funext σ H Q
    show t σ H (fun vs H1 => sp (vs ++ []) H1 Q E) = _
    simp only [List.append_nil]
    rfl
  rw [← h]
  exact pe_call F hr hg m kp b .nil hx ha hdb he hpl
theorem call (D : Known X.prog X.w X.K X.mg X.base CX0 x k ps sp) (hr : Room k X.A) (ha : PA X (e :: es) t) (hg : Gl X x := by rfl) (hdb : (x == ("__debug__" : Str)) = false := by decide)
    (he : starEach (e :: es) X.env = (false, eval e X.env) :: starEach es X.env := by rfl) (hpl : (backTo pos (starEach es X.env)).any (·.1) = false := by rfl) : PE X (.Call (.Name x p) (e :: es) [] pos) (fCall sp E0 t) := callX D hr pass0 ha hg hdb he hpl
end
/-! ### walks and comprehensions over a text -/
theorem lc_str {x : Str} {g : TG} {tt : TT} {te : TE} {vs : List Nat} {σ : L2.St} {H1 : Hp} {D : Addr} {Qd : Hp → Prop} (Pv : Nat → Hp → Prop) (h0 : Pv 0 (upd H1 D (.lst [])))
    (hs : ∀ i c H, x.cps.toList[i]? = some c → Pv i H → g (.str ⟨#[c]⟩) (wipe σ vs) H fun σ2 H2 => wipe σ2 vs = wipe σ vs ∧ tt σ2 H2 fun b H3 =>
      if b = true then te σ2 H3 fun y H4 => ∃ acc, H4 D = some (.lst acc) ∧ acc.length < sizeLine ∧ Pv (i + 1) (upd H4 D (.lst (acc ++ [y]))) else Pv (i + 1) H3) (hd : ∀ H, Pv x.cps.toList.length H → Qd H) :
    ∃ W : Nat → Nat → Hp → Prop, (∃ m, W 0 m (upd H1 D (.lst []))) ∧ ∀ i m H, W i m H →
      ((Its x).stop i H ∧ Qd H) ∨ ((Its x).go i H ∧ ∃ Nx : Hp → Prop, (∀ H', Nx H' → ∃ m', m' < m ∧ W (i + 1) m' H') ∧ ∀ x' H', (Its x).yld i H x' H' → g x' (wipe σ vs) H' fun σ2 H2 => wipe σ2 vs = wipe σ vs ∧ tt σ2 H2 fun b H3 =>
        if b = true then te σ2 H3 fun y H4 => ∃ acc, H4 D = some (.lst acc) ∧ acc.length < sizeLine ∧ Nx (upd H4 D (.lst (acc ++ [y]))) else Nx H3) := by
  have hsz : x.cps.toList.length = x.cps.size := Array.length_toList
  refine ⟨fun i m H => m = x.cps.toList.length - i ∧ i ≤ x.cps.toList.length ∧ Pv i H, ⟨x.cps.toList.length, by simp, Nat.zero_le _, h0⟩, ?_⟩
  rintro i m H ⟨rfl, hi, p⟩
  by_cases hlt : i < x.cps.toList.length
  · refine .inr ⟨by show i < x.cps.size; omega, Pv (i + 1), fun H' p' => ⟨x.cps.toList.length - (i + 1), by omega, rfl, hlt, p'⟩, fun x' H' y => ?_⟩
    obtain ⟨e, c, hc, y⟩ := y
    subst e y
    exact hs i c _ (by rw [Array.getElem?_toList]; exact hc) p
  · have e : i = x.cps.toList.length := by omega
    subst e
    exact .inl ⟨by show x.cps.size ≤ _; omega, hd H p⟩
/-! ### constants of a module -/
section
variable {X : Cx} {pos : Pos} {x : Str}
theorem e_gs {z : Str} (h : ∃ t, X.mg x = some (.str z t)) (hg : Gl X x := by rfl) (hd : (x == ("__debug__" : Str)) = false := by decide) : PE X (.Name x pos) (tC (.str z)) := let ⟨_, e⟩ := h; pe_glob hg e ⟨_, rfl⟩ hd
theorem e_gi {z : Int} (h : ∃ t, X.mg x = some (.int z t)) (hg : Gl X x := by rfl) (hd : (x == ("__debug__" : Str)) = false := by decide) : PE X (.Name x pos) (tC (.int z)) := let ⟨_, e⟩ := h; pe_glob hg e ⟨_, rfl⟩ hd
end
theorem ifT {c A B : Prop} [Decidable c] (h : c) (a : A) : if c then A else B := by rw [if_pos h]; exact a
theorem ifF {c A B : Prop} [Decidable c] (h : ¬ c) (b : B) : if c then A else B := by rw [if_neg h]; exact b
/-! ### data: lists of texts, ints, bools -/
theorem dp_strs {K : PySem.W.Frag} {H : Hp} : ∀ zs : List Str, DpAll K H (zs.map V.str) (zs.map PyData.str)
  | [] => .nil
  | z :: zs => .cons (.str z) (dp_strs zs)
theorem dp_ints {K : PySem.W.Frag} {H : Hp} : ∀ zs : List Int, DpAll K H (zs.map V.int) (zs.map PyData.int)
  | [] => .nil
  | z :: zs => .cons (.int z) (dp_ints zs)
theorem dp_bls {K : PySem.W.Frag} {H : Hp} : ∀ zs : List Bool, DpAll K H (zs.map V.bl) (zs.map PyData.bool)
  | [] => .nil
  | z :: zs => .cons (.bl z) (dp_bls zs)
/-- data at most so deep, with signs that are signs -/
def flatD : PyData → Bool
  | .none | .bool _ | .int _ => true
  | .str x => PyData.strOk x
  | _ => false
theorem can_flat : ∀ {ds : List PyData}, ds.all flatD = true → PyData.canLayAll0 ds = true
  | [], _ => rfl
  | d :: ds, h => by
    rw [List.all_cons, Bool.and_eq_true] at h
    unfold PyData.canLayAll0
    rw [can_flat h.2, Bool.and_true]
    cases d <;> first | rfl | exact h.1 | exact absurd h.1 (by simp [flatD])
theorem depth_flat : ∀ {ds : List PyData}, ds.all flatD = true → PyData.depthAll ds = 0
  | [], _ => rfl
  | d :: ds, h => by
    rw [List.all_cons, Bool.and_eq_true] at h
    unfold PyData.depthAll
    rw [depth_flat h.2]
    cases d <;> first | rfl | exact absurd h.1 (by simp [flatD])
theorem shaped_list {ds : List PyData} (h : ds.all flatD = true) : SeqAt.shaped (.list ds) = true := by
  unfold SeqAt.shaped
  rw [show PyData.canLay0 (.list ds) = PyData.canLayAll0 ds from by unfold PyData.canLay0; rfl, can_flat h, Bool.true_and]
  refine decide_eq_true ?_
  show PyData.depthAll ds + 1 ≤ 64
  rw [depth_flat h]
  omega
theorem shaped_tuple {ds : List PyData} (h : ds.all flatD = true) : SeqAt.shaped (.tuple ds) = true := by
  unfold SeqAt.shaped
  rw [show PyData.canLay0 (.tuple ds) = PyData.canLayAll0 ds from by unfold PyData.canLay0; rfl, can_flat h, Bool.true_and]
  refine decide_eq_true ?_
  show PyData.depthAll ds + 1 ≤ 64
  rw [depth_flat h]
  omega
theorem eqv_nil (ds : List PyData) : PyData.eqv (.list ds) (.list []) = ds.isEmpty := by
  unfold PyData.eqv
  cases ds <;> rfl
/-! ### one step of a reading -/
theorem s_sq {t1 t2 : TS} {D : Ends} {σ : L2.St} {H : Hp} (h : t1 { D with nx := t2 D } σ H) : tSeq t1 t2 D σ H := h
theorem s_as {te : TE} {g : TG} {D : Ends} {σ : L2.St} {H : Hp} (h : te σ H fun x H1 => g x σ H1 D.nx) : tAsg te g D σ H := h
theorem s_rt {te : TE} {D : Ends} {σ : L2.St} {H : Hp} (h : te σ H D.rt) : tRet te D σ H := h
theorem s_dr {te : TE} {D : Ends} {σ : L2.St} {H : Hp} (h : te σ H fun _ H1 => D.nx σ H1) : tDrop te D σ H := h
theorem s_if {c : TT} {t u : TS} {D : Ends} {σ : L2.St} {H : Hp} (h : c σ H fun b H1 => if b = true then t D σ H1 else u D σ H1) : tIfS c t u D σ H := h
theorem s_op {r : R2} {ta tb : TE} {σ : L2.St} {H : Hp} {Q : VK} (h : ta σ H fun x H1 => tb σ H1 fun y H2 => r x y H2 Q) : tOp r ta tb σ H Q := h
theorem s_va {i : Nat} {v : V} {σ : L2.St} {H : Hp} {Q : VK} (e : σ[i]? = some (some v)) (h : Q v H) : fVar i σ H Q := by unfold fVar; rw [e]; exact h
theorem s_cs {ta : TE} {tr : TA} {σ : L2.St} {H : Hp} {Q : List V → Hp → Prop} (h : ta σ H fun x H1 => tr σ H1 fun xs H2 => Q (x :: xs) H2) : tCons ta tr σ H Q := h
theorem s_te {t : TE} {σ : L2.St} {H : Hp} {Q : Bool → Hp → Prop} (h : t σ H fun x H' => match x with | .bl k => Q k H' | _ => False) : fTest t σ H Q := h
theorem s_cb {r : List V → Hp → VK → Prop} {t : TA} {σ : L2.St} {H : Hp} {Q : VK} (h : t σ H fun vs H1 => r vs H1 Q) : tCB r t σ H Q := h
theorem s_ca {sp : Sp} {E : XK} {t : TA} {σ : L2.St} {H : Hp} {Q : VK} (h : t σ H fun vs H1 => sp vs H1 Q E) : fCall sp E t σ H Q := h
theorem s_st {te : TE} {i : Nat} {D : Ends} {σ : L2.St} {H : Hp} (h : te σ H fun x H1 => D.nx (σ.set i (some x)) H1) : tAsg te (gName i) D σ H := h
theorem q_st {te : TE} {i : Nat} {u : TS} {D : Ends} {σ : L2.St} {H : Hp} (h : te σ H fun x H1 => u D (σ.set i (some x)) H1) : tSeq (tAsg te (gName i)) u D σ H := h
theorem q_as {te : TE} {g : TG} {u : TS} {D : Ends} {σ : L2.St} {H : Hp} (h : te σ H fun x H1 => g x σ H1 (u D)) : tSeq (tAsg te g) u D σ H := h
theorem q_dr {te : TE} {u : TS} {D : Ends} {σ : L2.St} {H : Hp} (h : te σ H fun _ H1 => u D σ H1) : tSeq (tDrop te) u D σ H := h
theorem q_if {c : TT} {t u v : TS} {D : Ends} {σ : L2.St} {H : Hp} (h : c σ H fun b H1 => if b = true then t { D with nx := v D } σ H1 else u { D with nx := v D } σ H1) : tSeq (tIfS c t u) v D σ H := h
/-- an if without else whose body returns -/
theorem q_ifr {c : TT} {te : TE} {v : TS} {D : Ends} {σ : L2.St} {H : Hp} (h : c σ H fun b H1 => if b = true then te σ H1 D.rt else v D σ H1) : tSeq (tIfS c (tRet te) tNext) v D σ H := h
theorem q_pa {i j : Nat} {ta tb : TE} {u : TS} {D : Ends} {σ : L2.St} {H : Hp} (h : ta σ H fun x H1 => tb σ H1 fun y H2 => u D ((σ.set i (some x)).set j (some y)) H2) : tSeq (tPar i j (tCons ta (tCons tb tNil))) u D σ H := by
  show ta σ H _
  have e : (fun x H1 => tb σ H1 fun y H2 => u D ((σ.set i (some x)).set j (some y)) H2) = (fun x H1 => tb σ H1 fun y H2 => ∃ v w, [x, y] = [v, w] ∧ u D ((σ.set i (some v)).set j (some w)) H2) := by
    funext x H1
    congr 1
    funext y H2
    exact propext ⟨fun q => ⟨_, _, rfl, q⟩, fun ⟨v, w, e, q⟩ => by cases e; exact q⟩
  rw [e] at h
  exact h
/-! ### the end of a law's row -/
theorem ok_of {P : Program} {w : World} {K : PySem.W.Frag} {mg : Str → Option Value} {base : Heap} {x : Str} {st : Stmt} {N ps : List Str} {k : Nat} {sp : Sp} {f : Addr} {fd : FuncData} (F : Fun K x x st f fd) (S : FnScope N ps (defScope st))
    (len : ∀ vs H Q E, sp vs H Q E → vs.length = ps.length)
    (hbody : ∀ (f : Addr) (cdv : Value) (A : Around) (outer : List Env) (s : Shared) (H : Hp) (vs : List V) (Q : VK) (E : XK), Room k (A.deeper (envOfC x (defScope st) s.heap.objs.size f cdv)) → sp vs H Q E →
      ∃ t, PSs (cxOf CX0 P w K mg base N x (defScope st) f cdv A outer s H E).nox (defBody st) t ∧ t { nx := fun _ H' => Q .non H', rt := Q } (start N vs) H) : FnOk P w K mg base CX0 (k + 1) f fd ps sp := F.ok S len (hbody f)
theorem walk_law {l : PySem.W.OpenLaw} {n k : Nat} {q : Program} {loose : List Str} {XP : (Str → Option Value) → Heap → Prop} {YP : World → Heap → Prop} {d : DefRec} {K : Params → PySem.W.Frag} {x : Str} {st : Stmt} {sp : PySem.W.Frag → Sp}
    (hn : l.most = some n) (hn2 : n ≤ sizeLine) (hdf : d.params.defaults = []) (hr : Room k callerA) (hnm : d.name = "law") (hY : ∀ (w : World) (h : Heap), YP w h → (K w.params).In h)
    (hb : ∀ (kV doc pm : Value) (an : Option Addr) (cdv ct : Value) (us : List Value), us.length = ([x] : List Str).length → bindArgs (PySem.W.fnOf "law" "law" (defArgs st) (defBody st) (defScope st) .none kV doc pm an cdv ct) ⟨us, []⟩ = pure (([x] : List Str).zip us))
    (F : ∀ (w : World) (mg : Str → Option Value) (h : Heap), (K w.params).In h → h.Ns mainGlobals mg → HasDef (K w.params) "law" st ∧ ∀ (f : Addr) (fd : FuncData) (base : Heap), (K w.params).In base → base.Ns mainGlobals mg → Fun (K w.params) "law" "law" st f fd → FnOk l.prog w (K w.params) mg base CX0 k f fd [x] (sp (K w.params)))
    (hsp : ∀ (K : PySem.W.Frag) (H : Hp) (a : Addr) (ns : List Int), ns.length ≤ n → Only H → SqL K H a (ns.map V.int) → sp K [.ref a] H (fun v _ => v = .bl true) fun _ _ _ => False) :
    PySem.W.WalkO q loose XP YP l.row.toRowW d [] (fun f vs => PySem.call f vs) := by
  refine L2.walk_of (n := n) (k := k) (x := x) (CX := fun _ => CX0) (sp := fun w => sp (K w.params)) hn hn2 hdf hr hY (fun w mg fa h X G hfa => ?_) (fun w H a ns h1 h2 h3 => hsp _ H a ns h1 h2 h3) fun _ _ _ _ _ z => z
  obtain ⟨D, G2⟩ := F w mg h X G
  obtain ⟨f, fd, Fn, e⟩ := D.ex
  have e1 := PySem.W.mg_of X G e
  rw [hnm, e1] at hfa
  cases hfa
  obtain ⟨oc, od, kV, doc, pm, an, cdv, ct, osl, e2, _⟩ := Fn.ex
  refine ⟨fd, fun s v => ?_, fun base X' G' => G2 _ _ base X' G' Fn⟩
  rw [e2]
  exact .of_eq (hb kV doc pm an cdv ct [v] rfl)
theorem cst_str {K : PySem.W.Frag} {x z : Str} {t : Tok} (a : PySem.W.nsIn K mainGlobals x = some (some (.str z t))) : ∃ t, PySem.W.nsIn K mainGlobals x = some (some (.str z t)) := ⟨t, a⟩
theorem cst_int {K : PySem.W.Frag} {x : Str} {z : Int} {t : Tok} (a : PySem.W.nsIn K mainGlobals x = some (some (.int z t))) : ∃ t, PySem.W.nsIn K mainGlobals x = some (some (.int z t)) := ⟨t, a⟩
end U
set_option Elab.async false
set_option linter.all false
set_option maxRecDepth 100000
set_option maxHeartbeats 4000000
namespace K01
open PySem PySem.Spec PyProof.Rows L2 U
def top (i : Nat) : Stmt := PySem.Challenge.pw_blockshanded_k01_names.main.body.getD i (.Pass ⟨0, 0, 0, 0⟩)
abbrev s_is_name : Stmt := top 3
abbrev s__law_numbers : Stmt := top 5
abbrev s__law_cast : Stmt := top 6
abbrev s__law_pick : Stmt := top 7
abbrev s__law_is_word : Stmt := top 8
abbrev s__law_odd_one : Stmt := top 9
abbrev s__law_right : Stmt := top 10
abbrev s_law : Stmt := top 11
abbrev N_is_name : List Str := ["value", "letter"]
theorem sc_is_name : FnScope N_is_name ["value"] (defScope s_is_name) := ⟨rfl, rfl, rfl, by decide +kernel, rfl, by decide +kernel, by decide +kernel⟩
abbrev N__law_numbers : List Str := ["_law_script", "_law_at", "_law_cell", "_law_whole", "_law_mixed"]
theorem sc__law_numbers : FnScope N__law_numbers ["_law_script", "_law_at"] (defScope s__law_numbers) := ⟨rfl, rfl, rfl, by decide +kernel, rfl, by decide +kernel, by decide +kernel⟩
abbrev N__law_cast : List Str := ["_law_die", "_law_total", "_law_found", "_law_one", "_law_two"]
theorem sc__law_cast : FnScope N__law_cast ["_law_die", "_law_total"] (defScope s__law_cast) := ⟨rfl, rfl, rfl, by decide +kernel, rfl, by decide +kernel, by decide +kernel⟩
abbrev N__law_pick : List Str := ["_law_die", "_law_items"]
theorem sc__law_pick : FnScope N__law_pick ["_law_die", "_law_items"] (defScope s__law_pick) := ⟨rfl, rfl, rfl, by decide +kernel, rfl, by decide +kernel, by decide +kernel⟩
abbrev N__law_is_word : List Str := ["_law_value", "_law_one"]
theorem sc__law_is_word : FnScope N__law_is_word ["_law_value"] (defScope s__law_is_word) := ⟨rfl, rfl, rfl, by decide +kernel, rfl, by decide +kernel, by decide +kernel⟩
abbrev N__law_odd_one : List Str := ["_law_die", "_law_some"]
theorem sc__law_odd_one : FnScope N__law_odd_one ["_law_die"] (defScope s__law_odd_one) := ⟨rfl, rfl, rfl, by decide +kernel, rfl, by decide +kernel, by decide +kernel⟩
abbrev N__law_right : List Str := ["_law_die", "_law_letters", "_law_word", "_law_at", "_law_odd", "_law_some", "_law_value", "_law_turn"]
theorem sc__law_right : FnScope N__law_right ["_law_die"] (defScope s__law_right) := ⟨rfl, rfl, rfl, by decide +kernel, rfl, by decide +kernel, by decide +kernel⟩
abbrev N_law : List Str := ["_law_script", "_law_at", "_law_die", "_law_turn", "_law_told", "_law_word"]
theorem sc_law : FnScope N_law ["_law_script"] (defScope s_law) := ⟨rfl, rfl, rfl, by decide +kernel, rfl, by decide +kernel, by decide +kernel⟩
structure Facts (K : PySem.W.Frag) : Prop where
  d_is_name : HasDef K "is_name" s_is_name
  d__law_numbers : HasDef K "_law_numbers" s__law_numbers
  d__law_cast : HasDef K "_law_cast" s__law_cast
  d__law_pick : HasDef K "_law_pick" s__law_pick
  d__law_is_word : HasDef K "_law_is_word" s__law_is_word
  d__law_odd_one : HasDef K "_law_odd_one" s__law_odd_one
  d__law_right : HasDef K "_law_right" s__law_right
  d_law : HasDef K "law" s_law
  z_all : PySem.W.nsIn K mainGlobals "all" = some none
  z_isinstance : PySem.W.nsIn K mainGlobals "isinstance" = some none
  z_str : PySem.W.nsIn K mainGlobals "str" = some none
  z_len : PySem.W.nsIn K mainGlobals "len" = some none
  z_int : PySem.W.nsIn K mainGlobals "int" = some none
  z_max : PySem.W.nsIn K mainGlobals "max" = some none
  z_abs : PySem.W.nsIn K mainGlobals "abs" = some none
  z_repr : PySem.W.nsIn K mainGlobals "repr" = some none
  z_range : PySem.W.nsIn K mainGlobals "range" = some none
  z_min : PySem.W.nsIn K mainGlobals "min" = some none
  c_LETTERS : ∃ t, PySem.W.nsIn K mainGlobals "LETTERS" = some (some (.str "abcdefghijklmnopqrstuvwxyz" t))
  c_MAX_LETTERS : ∃ t, PySem.W.nsIn K mainGlobals "MAX_LETTERS" = some (some (.int 8 t))
/-- the built-ins' names are free; the module's constants -/
structure Zs (K : PySem.W.Frag) (mg : Str → Option Value) : Prop where
  all : mg "all" = none
  isinstance : mg "isinstance" = none
  str : mg "str" = none
  len : mg "len" = none
  int : mg "int" = none
  max : mg "max" = none
  abs : mg "abs" = none
  repr : mg "repr" = none
  range : mg "range" = none
  min : mg "min" = none
  c_LETTERS : ∃ t, mg "LETTERS" = some (.str "abcdefghijklmnopqrstuvwxyz" t)
  c_MAX_LETTERS : ∃ t, mg "MAX_LETTERS" = some (.int 8 t)
theorem zs_of {K : PySem.W.Frag} {mg : Str → Option Value} (A : Facts K) (M : MgOf K mg) : Zs K mg where
  all := M.of _ _ A.z_all
  isinstance := M.of _ _ A.z_isinstance
  str := M.of _ _ A.z_str
  len := M.of _ _ A.z_len
  int := M.of _ _ A.z_int
  max := M.of _ _ A.z_max
  abs := M.of _ _ A.z_abs
  repr := M.of _ _ A.z_repr
  range := M.of _ _ A.z_range
  min := M.of _ _ A.z_min
  c_LETTERS := let ⟨_, e⟩ := A.c_LETTERS; ⟨_, M.of _ _ e⟩
  c_MAX_LETTERS := let ⟨_, e⟩ := A.c_MAX_LETTERS; ⟨_, M.of _ _ e⟩
theorem cmul_mod {x j k : Int} (h : 0 < k) (h2 : k ≤ 2 ^ 64) : CMul (x % k) j := .inl ⟨by have := Int.emod_nonneg x (show k ≠ 0 by omega); omega, Int.lt_of_lt_of_le (Int.emod_lt_of_pos x h) h2⟩
theorem small1000' {n : Nat} (h : n < 100000) : n ≤ sizeLine := by rw [sizeLine_eq]; omega
/-! ### the die -/
def Die (d : Addr) (H : Hp) : Prop := ∃ a b c : Int, H d = some (.lst [.int a, .int b, .int c])
/-- all but d stands -/
def Keep (d : Addr) (H H' : Hp) : Prop := ∀ b o, b ≠ d → H b = some o → H' b = some o
theorem Keep.refl (d : Addr) (H : Hp) : Keep d H H := fun _ _ _ h => h
theorem Keep.trans {d : Addr} {H H1 H2 : Hp} (a : Keep d H H1) (b : Keep d H1 H2) : Keep d H H2 := fun c o n h => b c o n (a c o n h)
theorem Keep.at {d : Addr} {H : Hp} {o : HO} : Keep d H (upd H d o) := fun c u n h => by rw [upd_ne n]; exact h
theorem Keep.new {d p : Addr} {H : Hp} {o : HO} (h : H p = none) : Keep d H (upd H p o) := fun c u n e => by rw [upd_ne (ne_of_none e h)]; exact e
theorem Keep.seq {K : PySem.W.Frag} {d p : Addr} {H H' : Hp} {xs : List V} (k : Keep d H H') (n : p ≠ d) (h : SqL K H p xs) : SqL K H' p xs := by
  rcases h with (h | ⟨o, h⟩) | h
  · exact .inl (.inl (k _ _ n h))
  · exact .inl (.inr ⟨o, k _ _ n h⟩)
  · exact .inr h
def spNumbers (K : PySem.W.Frag) : Sp := fun vs H Q _ => ∃ (a : Addr) (ns : List Int) (i : Int), vs = [.ref a, .int i] ∧ SqL K H a (ns.map V.int) ∧ ns.length ≤ 63 ∧ 0 ≤ i ∧ i < 1000 ∧
  ∀ d H', H d = none → Die d H' → Keep d H H' → Q (.ref d) H'
def spCast : Sp := fun vs H Q _ => ∃ (d : Addr) (n : Int), vs = [.ref d, .int n] ∧ Die d H ∧ 0 < n ∧ n < 1073741824 ∧ ∀ r H', 0 ≤ r → r < n → Die d H' → Keep d H H' → Q (.int r) H'
def spPick (K : PySem.W.Frag) : Sp := fun vs H Q _ => ∃ (d : Addr) (x : V), vs = [.ref d, x] ∧ Die d H ∧
  ((∃ p xs, x = .ref p ∧ SqL K H p xs ∧ p ≠ d ∧ 0 < xs.length ∧ xs.length < 1073741824 ∧ ∀ y H', y ∈ xs → Die d H' → Keep d H H' → Q y H') ∨
   (∃ z : Str, x = .str z ∧ 0 < z.length ∧ z.length < 100000 ∧ ∀ c H', c ∈ z.cps.toList → Die d H' → Keep d H H' → Q (.str ⟨#[c]⟩) H'))
/-! ### values of all kinds -/
def Asc (z : Str) : Prop := ∀ c ∈ z.cps.toList, c < 128
def Kind (K : PySem.W.Frag) (v : V) (H : Hp) : Prop := match v with
  | .non => True
  | .bl _ => True
  | .int _ => True
  | .str z => z.length ≤ 1000 ∧ Asc z
  | .ref p => ∃ T, (T = "list" ∨ T = "tuple" ∨ T = "dict") ∧ ∃ o, H p = some o ∧ (∀ H', H' p = some o → TyX K H' (.ref p) (.type T))
  | _ => False
theorem Kind.keep {K : PySem.W.Frag} {v : V} {H H' : Hp} (s : ∀ p o, v = .ref p → H p = some o → H' p = some o) (h : Kind K v H) : Kind K v H' := by
  cases v with
  | ref p =>
    obtain ⟨T, hT, o, h1, h2⟩ := h
    exact ⟨T, hT, o, s p o rfl h1, h2⟩
  | _ => exact h
/-- whether a value is a name -/
def nameZ (z : Str) : Bool := decide (0 < z.cps.toList.length) && decide (z.cps.toList.length ≤ 8) && z.cps.toList.all fun c => decide (97 ≤ c) && decide (c ≤ 122)
def nameV : V → Bool
  | .str z => nameZ z
  | _ => false
theorem letters (c : Nat) : decide (c ∈ ("abcdefghijklmnopqrstuvwxyz" : Str).cps.toList) = (decide (97 ≤ c) && decide (c ≤ 122)) := by
  by_cases h : c < 128
  · exact (show ∀ c : Fin 128, decide (c.val ∈ ("abcdefghijklmnopqrstuvwxyz" : Str).cps.toList) = (decide (97 ≤ c.val) && decide (c.val ≤ 122)) by decide +kernel) ⟨c, h⟩
  · rw [decide_eq_false (show ¬ c ≤ 122 by omega), Bool.and_false]
    refine decide_eq_false fun m => h ?_
    exact (show ∀ c ∈ ("abcdefghijklmnopqrstuvwxyz" : Str).cps.toList, c < 128 by decide +kernel) c m
def spName (K : PySem.W.Frag) : Sp := fun vs H Q _ => ∃ x, vs = [x] ∧ Kind K x H ∧ ∀ H', Same H H' → Q (.bl (nameV x)) H'
section
variable {P : Program} {w : World} {K : PySem.W.Frag} {mg : Str → Option Value} {base : Heap}
theorem D_numbers (F : HasDef K "_law_numbers" s__law_numbers) (M : MgOf K mg) (Z : Zs K mg) : Known P w K mg base CX0 "_law_numbers" 1 ["_law_script", "_law_at"] (spNumbers K) := by
  refine Known.of F M sc__law_numbers (fun _ _ _ _ _ _ us hl => match us, hl with | [_, _], _ => rfl) (fun vs H Q E h => ?_) (fun f cdv A outer s H vs Q E hr h => ?_)
  · obtain ⟨a, ns, i, rfl, _⟩ := h
    rfl
  · obtain ⟨a, ns, i, rfl, hS, hlen, h0, hi, k⟩ := h
    obtain ⟨i, rfl⟩ : ∃ j : Nat, i = (j : Int) := ⟨i.toNat, by omega⟩
    have hu := hr.units
    have nd := sc__law_numbers.nd
    refine ⟨_, (pss_cons (set 2 nd (pe_ifExp (tcm o_lt (n 1) (e_len Z.len (pa_cons (n 0) pa_nil))) (ix (n 0) (n 1)) (pe_op o_add (pe_op o_mul pe_int (n 1)) pe_int)))
      (pss_cons (set 3 nd (pe_op o_mod (e_int Z.int (pa_cons (e_abs Z.abs (pa_cons (n 2) pa_nil)) pa_nil)) (pe_op o_pow (pe_op o_pow pe_int pe_int) pe_int)))
      (pss_cons (set 4 nd (pe_op o_add (pe_op o_add (pe_op o_add (pe_op o_mul (n 3) pe_int) (pe_op o_mul pe_int (n 1))) (pe_op o_mul pe_int (e_int Z.int (pa_cons (ecm o_lt (n 2) pe_int) pa_nil)))) pe_int))
      (pss_one (ps_ret (pe_lst (pa_cons (e_max Z.max (pa_cons pe_int (pa_cons (pe_op o_sub (n 3) (pe_op o_pow pe_int pe_int)) pa_nil))) (pa_cons (pe_op o_mod (e_int Z.int (pa_cons (n 4) pa_nil)) pe_int) (pa_cons pe_int pa_nil))))))))), ?_⟩
    refine ⟨(ns.map V.int).length, .inl ⟨_, hS, rfl⟩, ?_⟩
    refine ite2 (fun c => ?_) (fun c => ⟨.inl (by omega), ?_⟩)
    · have c1 := of_decide_eq_true c
      rw [List.length_map] at c1
      have c2 : i < ns.length := by omega
      refine ⟨_, _, .inl hS, atI_nat (v := V.int ns[i]) (by rw [List.getElem?_map, List.getElem?_eq_getElem c2]; rfl), ?_⟩
      refine ⟨⟨by decide, by decide⟩, ⟨by decide, by decide⟩, by decide, ?_⟩
      refine ⟨.inr (by omega), .inl (by omega), .inl (by omega), ?_⟩
      refine ⟨⟨by decide, by decide⟩, by decide, (by show 3 ≤ sizeLine; decide), fun d hd => ?_⟩
      exact k d _ hd ⟨_, _, _, upd_same⟩ (.new hd)
    · refine ⟨⟨by decide, by decide⟩, ⟨by decide, by decide⟩, by decide, ?_⟩
      refine ⟨.inr (by omega), .inl (by omega), .inl (by omega), ?_⟩
      refine ⟨⟨by decide, by decide⟩, by decide, (by show 3 ≤ sizeLine; decide), fun d hd => ?_⟩
      exact k d _ hd ⟨_, _, _, upd_same⟩ (.new hd)
theorem D_cast (F : HasDef K "_law_cast" s__law_cast) (M : MgOf K mg) (Z : Zs K mg) : Known P w K mg base CX0 "_law_cast" 1 ["_law_die", "_law_total"] spCast := by
  refine Known.of F M sc__law_cast (fun _ _ _ _ _ _ us hl => match us, hl with | [_, _], _ => rfl) (fun vs H Q E h => ?_) (fun f cdv A outer s H vs Q E hr h => ?_)
  · obtain ⟨d, m, rfl, _⟩ := h
    rfl
  · obtain ⟨d, m, rfl, ⟨a, b, c, hd⟩, h0, h1, k⟩ := h
    have hu := hr.units
    have nd := sc__law_cast.nd
    refine ⟨_, (pss_cons (ps_if (tcm o_gt (ix (n 0) pe_int) pe_int) (pss_cons (set 2 nd (pe_op o_mod (e_int Z.int (pa_cons (ix (n 0) pe_int) pa_nil)) (n 1)))
      (pss_cons (ps_asg (pe_op o_div (ix (n 0) pe_int) (n 1)) (pg_sub (n 0) pe_int s_list))
      (pss_one (ps_ret (n 2))))) pss_nil)
      (pss_cons (ps_asg (pe_op o_add (ix (n 0) pe_int) pe_int) (pg_sub (n 0) pe_int s_list))
      (pss_cons (set 3 nd (pe_op o_mod (e_int Z.int (pa_cons (pe_op o_add (ix (n 0) pe_int) (pe_op o_mul pe_int (ix (n 0) pe_int))) pa_nil)) pe_int))
      (pss_cons (set 4 nd (pe_op o_add (pe_op o_mul (pe_op o_mod (e_int Z.int (pa_cons (pe_op o_mul (n 3) (n 3)) pa_nil)) pe_int) (n 3)) (pe_op o_mul pe_int (ix (n 0) pe_int))))
      (pss_one (ps_ret (pe_op o_mod (e_int Z.int (pa_cons (pe_op o_div (pe_op o_mod (e_int Z.int (pa_cons (pe_op o_add (n 4) (ix (n 0) pe_int)) pa_nil)) pe_int) pe_int) pa_nil)) (n 1)))))))), ?_⟩
    refine ⟨_, _, .inl (SqL.of hd), rfl, ite2 (fun c0 => ?_) (fun c0 => ?_)⟩
    · refine ⟨_, _, .inl (SqL.of hd), rfl, h0, ?_⟩
      refine ⟨_, _, .inl (SqL.of hd), rfl, ⟨h0, h1⟩, _, _, hd, rfl, ?_⟩
      exact k _ _ (Int.emod_nonneg _ (by omega)) (Int.emod_lt_of_pos _ h0) ⟨_, _, _, upd_same⟩ .at
    · refine ⟨_, _, .inl (SqL.of hd), rfl, _, _, hd, rfl, ?_⟩
      refine ⟨_, _, .inl (SqL.of upd_same), rfl, _, _, .inl (SqL.of upd_same), rfl, .inl ⟨by decide, by decide⟩, by decide, ?_⟩
      refine ⟨cmul_mod (by decide) (by decide), by decide, cmul_mod (by decide) (by decide), _, _, .inl (SqL.of upd_same), rfl, .inl ⟨by decide, by decide⟩, ?_⟩
      refine ⟨_, _, .inl (SqL.of upd_same), rfl, by decide, ⟨by decide, by decide⟩, h0, ?_⟩
      exact k _ _ (Int.emod_nonneg _ (by omega)) (Int.emod_lt_of_pos _ h0) ⟨_, _, _, upd_same⟩ .at
theorem D_pick (F : HasDef K "_law_pick" s__law_pick) (M : MgOf K mg) (Z : Zs K mg) (D__law_cast : Known P w K mg base CX0 "_law_cast" 1 ["_law_die", "_law_total"] spCast) : Known P w K mg base CX0 "_law_pick" 2 ["_law_die", "_law_items"] (spPick K) := by
  refine Known.of F M sc__law_pick (fun _ _ _ _ _ _ us hl => match us, hl with | [_, _], _ => rfl) (fun vs H Q E h => ?_) (fun f cdv A outer s H vs Q E hr h => ?_)
  · obtain ⟨d, x, rfl, _⟩ := h
    rfl
  · have hu := hr.units
    have nd := sc__law_pick.nd
    refine ⟨_, (pss_one (ps_ret (ix (n 1) (call D__law_cast (hr.mono (by decide)) (pa_cons (n 0) (pa_cons (e_len Z.len (pa_cons (n 1) pa_nil)) pa_nil)))))), ?_⟩
    obtain ⟨d, x, rfl, hd, ⟨p, xs, rfl, hS, hp, h0, h1, k⟩ | ⟨z, rfl, h0, h1, k⟩⟩ := h
    · refine ⟨xs.length, .inl ⟨_, hS, rfl⟩, d, _, rfl, hd, by omega, by omega, fun r H' r0 r1 hd' kp => ?_⟩
      obtain ⟨j, rfl⟩ : ∃ j : Nat, r = (j : Int) := ⟨r.toNat, by omega⟩
      have hj : j < xs.length := by omega
      refine ⟨_, xs[j], .inl (kp.seq hp hS), atI_nat (List.getElem?_eq_getElem hj), ?_⟩
      exact k _ _ (List.getElem_mem hj) hd' kp
    · have hz : z.length ≤ sizeLine := small1000' h1
      refine ⟨hz, d, _, rfl, hd, by omega, by omega, fun r H' r0 r1 hd' kp => ?_⟩
      obtain ⟨j, rfl⟩ : ∃ j : Nat, r = (j : Int) := ⟨r.toNat, by omega⟩
      have hj : j < z.cps.toList.length := by rw [Array.length_toList]; have : z.length = z.cps.size := rfl; omega
      exact ⟨hz, _, atI_nat (List.getElem?_eq_getElem hj), k _ _ (List.getElem_mem hj) hd' kp⟩
theorem D_isname (F : HasDef K "is_name" s_is_name) (M : MgOf K mg) (Z : Zs K mg) : Known P w K mg base CX0 "is_name" 1 ["value"] (spName K) := by
  refine Known.of F M sc_is_name (fun _ _ _ _ _ _ us hl => match us, hl with | [_], _ => rfl) (fun vs H Q E h => ?_) (fun f cdv A outer s H vs Q E hr h => ?_)
  · obtain ⟨x, rfl, _⟩ := h
    rfl
  · obtain ⟨x, rfl, hk, k⟩ := h
    have hu := hr.units
    have nd := sc_is_name.nd
    refine ⟨_, (pss_cons (ps_if (PW.pt (pw_or (pt_not (tv (e_isinstance Z.isinstance (pa_cons (n 0) (pa_cons (e_ty Z.str b_str) pa_nil))))) (pw_or1 (pt_not (tch o_lt o_le pe_int (e_len Z.len (pa_cons (n 0) pa_nil)) (e_gi Z.c_MAX_LETTERS)))))) (pss_one (ps_ret pe_bl)) pss_nil)
      (pss_one (ps_ret (e_all Z.all (pa_cons (pe_lc (own := [("letter", 1)]) rfl nd (pi_str (n 0)) (blkOk_by (own := [("letter", 1)]) (N := N_is_name) (sc := defScope s_is_name) (by decide +kernel)) (fun _ _ _ _ _ => (gn 1 nd)) (fun _ _ _ _ _ => pts_nil) (fun _ _ _ _ _ => (ecm op_inS (n 1) (e_gs Z.c_LETTERS)))) pa_nil))))), ?_⟩
    have no : ∀ (y : V), nameV y = false → (∀ H', Same H H' → Q (.bl (nameV y)) H') → Q (.bl false) H := fun y e k => by
      have h := k H (Same.refl H)
      rw [e] at h
      exact h
    cases x with
    | non => exact ⟨by decide, ifT (by decide) (no _ rfl k)⟩
    | bl b => exact ⟨by decide, ifT (by decide) (no _ rfl k)⟩
    | int i => exact ⟨by decide, ifT (by decide) (no _ rfl k)⟩
    | ref p =>
      obtain ⟨T, hT, o, h1, h2⟩ := hk
      rcases hT with rfl | rfl | rfl
      · exact ⟨_, by decide, by decide, h2 H h1, ifT (by decide) (no _ rfl k)⟩
      · exact ⟨_, by decide, by decide, h2 H h1, ifT (by decide) (no _ rfl k)⟩
      · exact ⟨_, by decide, by decide, h2 H h1, ifT (by decide) (no _ rfl k)⟩
    | str z =>
      obtain ⟨hz, ha⟩ := hk
      have hzl : z.length ≤ sizeLine := small1000' (by omega)
      have el : z.length = z.cps.toList.length := Array.length_toList.symm
      refine ⟨by decide, ifF (by decide) ⟨hzl, ite2 (fun c1 => ?_) (fun c1 => ?_)⟩⟩
      · have c1' := of_decide_eq_true c1
        refine ite2 (fun c2 => ?_) (fun c2 => ?_)
        · refine no _ ?_ k
          have c3 : ¬ (z.cps.toList.length ≤ 8) := by
            intro h
            rw [decide_eq_true (by omega)] at c2
            cases c2
          show nameZ z = false
          unfold nameZ
          rw [decide_eq_false c3]
          simp
        · have c3 : (z.length : Int) ≤ 8 := by
            apply Classical.byContradiction
            intro h
            exact c2 (by rw [decide_eq_false h]; rfl)
          refine ⟨z, rfl, fun D hD => lc_str (fun i H' => H' = upd H D (.lst ((z.cps.toList.take i).map fun c => V.bl (decide (c ∈ ("abcdefghijklmnopqrstuvwxyz" : Str).cps.toList))))) rfl ?_ ?_⟩
          · rintro i c H' hi rfl
            have hil : i < z.cps.toList.length := (List.getElem?_eq_some_iff.mp hi).1
            refine ⟨rfl, _, _, rfl, rfl, _, upd_same, ?_, ?_⟩
            · rw [List.length_map, List.length_take]
              exact Nat.lt_of_lt_of_le (by omega) (small1000' (show 1000 < 100000 by omega))
            · rw [upd_upd, List.take_add_one, hi, List.map_append]
              rfl
          · rintro H' rfl
            refine ⟨D, z.cps.toList.map fun c => decide (c ∈ ("abcdefghijklmnopqrstuvwxyz" : Str).cps.toList), rfl, .inl (.inl ?_), ?_⟩
            · rw [upd_same, List.take_length, List.map_map]
              rfl
            · have e : ((z.cps.toList.map fun c => decide (c ∈ ("abcdefghijklmnopqrstuvwxyz" : Str).cps.toList)).all id) = nameV (.str z) := by
                show _ = nameZ z
                unfold nameZ
                rw [decide_eq_true (show 0 < z.cps.toList.length by omega), decide_eq_true (show z.cps.toList.length ≤ 8 by omega), Bool.true_and, Bool.true_and, List.all_map]
                congr 1
                funext c
                exact letters c
              show Q (.bl _) _
              rw [e]
              exact k _ fun b o hb => by rw [upd_ne (ne_of_none hb hD)]; exact hb
      · refine ifT (by rfl) (no _ ?_ k)
        have c3 : ¬ (0 < z.cps.toList.length) := fun h => c1 (decide_eq_true (by omega))
        show nameZ z = false
        unfold nameZ
        rw [decide_eq_false c3]
        rfl
    | _ => exact hk.elim
/-- the signs of a text that are no letters -/
def offs (l : List Nat) : List Nat := l.filter fun c => !(decide (97 ≤ c) && decide (c ≤ 122))
theorem lt_sign (a b : Nat) : decide ([a] < [b]) = decide (a < b) := by
  have : ([a] < [b]) ↔ a < b := by simp [List.cons_lt_cons_iff]
  simp only [this]
theorem D_isword (F : HasDef K "_law_is_word" s__law_is_word) (M : MgOf K mg) (Z : Zs K mg) : Known P w K mg base CX0 "_law_is_word" 1 ["_law_value"] (spName K) := by
  refine Known.of F M sc__law_is_word (fun _ _ _ _ _ _ us hl => match us, hl with | [_], _ => rfl) (fun vs H Q E h => ?_) (fun f cdv A outer s H vs Q E hr h => ?_)
  · obtain ⟨x, rfl, _⟩ := h
    rfl
  · obtain ⟨x, rfl, hk, k⟩ := h
    have hu := hr.units
    have nd := sc__law_is_word.nd
    refine ⟨_, (pss_cons (ps_if (PW.pt (pw_or (pt_not (tv (e_isinstance Z.isinstance (pa_cons (n 0) (pa_cons (e_ty Z.str b_str) pa_nil))))) (pw_or1 (pt_not (tch o_le o_le pe_int (e_len Z.len (pa_cons (n 0) pa_nil)) pe_int))))) (pss_one (ps_ret pe_bl)) pss_nil)
      (pss_one (ps_ret (ecm (o_eq hu) (pe_lc (own := [("_law_one", 1)]) rfl nd (pi_str (n 0)) (blkOk_by (own := [("_law_one", 1)]) (N := N__law_is_word) (sc := defScope s__law_is_word) (by decide +kernel)) (fun _ _ _ _ _ => (gn 1 nd)) (fun _ _ _ _ _ => pts_one (pt_not (tch o_le o_le pe_str (n 1) pe_str))) (fun _ _ _ _ _ => (n 1))) (pe_lst pa_nil))))), ?_⟩
    have no : ∀ (y : V), nameV y = false → (∀ H', Same H H' → Q (.bl (nameV y)) H') → Q (.bl false) H := fun y e k => by
      have h := k H (Same.refl H)
      rw [e] at h
      exact h
    cases x with
    | non => exact ⟨by decide, ifT (by decide) (no _ rfl k)⟩
    | bl b => exact ⟨by decide, ifT (by decide) (no _ rfl k)⟩
    | int i => exact ⟨by decide, ifT (by decide) (no _ rfl k)⟩
    | ref p =>
      obtain ⟨T, hT, o, h1, h2⟩ := hk
      rcases hT with rfl | rfl | rfl
      · exact ⟨_, by decide, by decide, h2 H h1, ifT (by decide) (no _ rfl k)⟩
      · exact ⟨_, by decide, by decide, h2 H h1, ifT (by decide) (no _ rfl k)⟩
      · exact ⟨_, by decide, by decide, h2 H h1, ifT (by decide) (no _ rfl k)⟩
    | str z =>
      obtain ⟨hz, ha⟩ := hk
      have hzl : z.length ≤ sizeLine := small1000' (by omega)
      have el : z.length = z.cps.toList.length := Array.length_toList.symm
      refine ⟨by decide, ifF (by decide) ⟨hzl, ite2 (fun c1 => ?_) (fun c1 => ?_)⟩⟩
      · have c1' := of_decide_eq_true c1
        refine ite2 (fun c2 => ?_) (fun c2 => ?_)
        · refine no _ ?_ k
          have c3 : ¬ (z.cps.toList.length ≤ 8) := by
            intro h
            rw [decide_eq_true (by omega)] at c2
            cases c2
          show nameZ z = false
          unfold nameZ
          rw [decide_eq_false c3]
          simp
        · have c3 : (z.length : Int) ≤ 8 := by
            apply Classical.byContradiction
            intro h
            exact c2 (by rw [decide_eq_false h]; rfl)
          refine ⟨z, rfl, fun D hD => lc_str (fun i H' => H' = upd H D (.lst ((offs (z.cps.toList.take i)).map fun c => V.str ⟨#[c]⟩))) rfl ?_ ?_⟩
          · rintro i c H' hi rfl
            have hil : i < z.cps.toList.length := (List.getElem?_eq_some_iff.mp hi).1
            have hof : offs (z.cps.toList.take (i + 1)) = offs (z.cps.toList.take i) ++ offs [c] := by
              unfold offs
              rw [List.take_add_one, hi, List.filter_append]
              rfl
            have hlen : ((offs (z.cps.toList.take i)).map fun c => V.str ⟨#[c]⟩).length < sizeLine := by
              rw [List.length_map]
              refine Nat.lt_of_le_of_lt (List.length_filter_le _ _) ?_
              rw [List.length_take]
              exact Nat.lt_of_lt_of_le (by omega) (small1000' (show 1000 < 100000 by omega))
            refine ⟨rfl, ite2 (fun d1 => ?_) (fun d1 => ?_)⟩
            · have d1' : 97 ≤ c := by
                have d1 : (!decide ([c] < [97])) = true := d1
                have : decide ([c] < [97]) = false := by simpa only [Bool.not_eq_true'] using d1
                rw [lt_sign] at this
                have := of_decide_eq_false this
                omega
              refine ite2 (fun d2 => ?_) (fun d2 => ?_)
              · refine ⟨_, upd_same, hlen, ?_⟩
                have d2' : ¬ c ≤ 122 := by
                  have d2 : (!(!decide ([122] < [c]))) = true := d2
                  have : decide ([122] < [c]) = true := by rwa [Bool.not_not] at d2
                  rw [lt_sign] at this
                  have := of_decide_eq_true this
                  omega
                rw [upd_upd, hof, List.map_append]
                have : offs [c] = [c] := by simp [offs, d2']
                rw [this]
                rfl
              · have d2' : c ≤ 122 := by
                  have d2 : ¬ (!(!decide ([122] < [c]))) = true := d2
                  have : decide ([122] < [c]) = false := by rw [Bool.not_not] at d2; exact eq_false_of_ne_true d2
                  rw [lt_sign] at this
                  have := of_decide_eq_false this
                  omega
                show upd H D _ = upd H D _
                rw [hof]
                have : offs [c] = [] := by simp [offs, d1', d2']
                rw [this, List.append_nil]
            · have d1' : ¬ 97 ≤ c := by
                have d1 : ¬ (!decide ([c] < [97])) = true := d1
                have : decide ([c] < [97]) = true := by cases h : decide ([c] < [97]) <;> simp [h] at d1; rfl
                rw [lt_sign] at this
                have := of_decide_eq_true this
                omega
              refine ⟨_, upd_same, hlen, ?_⟩
              rw [upd_upd, hof, List.map_append]
              have : offs [c] = [c] := by simp [offs, d1']
              rw [this]
              rfl
          · rintro H' rfl
            refine ⟨(by show 0 ≤ sizeLine; decide), fun p hp => ?_⟩
            have hpD : D ≠ p := fun e => by rw [e, upd_same] at hp; cases hp
            have hmm : ∀ l : List Nat, (l.map fun c => V.str ⟨#[c]⟩) = (l.map fun c => (⟨#[c]⟩ : Str)).map V.str := fun l => by rw [List.map_map]; rfl
            refine ⟨.list (((offs z.cps.toList).map fun c => (⟨#[c]⟩ : Str)).map PyData.str), .list [], .lst (.inl (.inl ?_)) (dp_strs _), .lst (.inl (.inl upd_same)) .nil, shaped_list ?_, shaped_list rfl, ?_⟩
            · rw [upd_ne hpD, upd_same, List.take_length, hmm]
            · rw [List.all_eq_true]
              intro d hd
              rw [List.map_map, List.mem_map] at hd
              obtain ⟨c, hc, rfl⟩ := hd
              have := ha c (List.mem_filter.mp hc).1
              show PyData.strOk _ = true
              simp [PyData.strOk]
              omega
            · rw [eqv_nil]
              have e : ((((offs z.cps.toList).map fun c => (⟨#[c]⟩ : Str)).map PyData.str).isEmpty) = nameV (.str z) := by
                show _ = nameZ z
                unfold nameZ
                rw [decide_eq_true (show 0 < z.cps.toList.length by omega), decide_eq_true (show z.cps.toList.length ≤ 8 by omega), Bool.true_and, Bool.true_and]
                unfold offs
                rw [Bool.eq_iff_iff, List.isEmpty_iff, List.map_eq_nil_iff, List.map_eq_nil_iff, List.filter_eq_nil_iff, List.all_eq_true]
                refine forall_congr' fun c => forall_congr' fun _ => ?_
                cases (decide (97 ≤ c) && decide (c ≤ 122)) <;> simp
              rw [e]
              refine k _ fun b o hb => ?_
              have n1 : b ≠ D := ne_of_none hb hD
              have n2 : b ≠ p := fun e => by rw [e] at hb; rw [← e, upd_ne n1, e, hb] at hp; cases hp
              rw [upd_ne n2, upd_ne n1]; exact hb
      · refine ifT (by rfl) (no _ ?_ k)
        have c3 : ¬ (0 < z.cps.toList.length) := fun h => c1 (decide_eq_true (by omega))
        show nameZ z = false
        unfold nameZ
        rw [decide_eq_false c3]
        rfl
    | _ => exact hk.elim
/-! ### displays of values of all kinds -/
/-- te gives a value of some kind; an object is a new one -/
def EvK (K : PySem.W.Frag) (te : TE) : Prop := ∀ σ H (Q : VK), (∀ v H', Same H H' → Kind K v H' → (∀ p, v = .ref p → H p = none) → Q v H') → te σ H Q
def EvKs (K : PySem.W.Frag) (m : Nat) (ta : TA) : Prop := ∀ σ H (Q : List V → Hp → Prop), (∀ vs H', Same H H' → vs.length = m → (∀ v ∈ vs, Kind K v H') → (∀ v ∈ vs, ∀ p, v = .ref p → H p = none) → Q vs H') → ta σ H Q
theorem ek_c {v : V} (h : ∀ H, Kind K v H) (hn : ∀ p, v ≠ .ref p) : EvK K (tC v) := fun σ H Q q => q v H (Same.refl H) (h H) fun p e => absurd e (hn p)
theorem ek_neg {i : Int} : EvK K (tUn (rU fun i => .int (-i)) (tC (.int i))) := fun σ H Q q => ⟨i, rfl, q _ H (Same.refl H) trivial fun p e => nomatch e⟩
theorem ek_pow {i j : Int} (h : CPowW i j) : EvK K (tOp fPow (tC (.int i)) (tC (.int j))) := fun σ H Q q => ⟨h, q _ H (Same.refl H) trivial fun p e => nomatch e⟩
theorem eks_nil : EvKs K 0 tNil := fun σ H Q q => q [] H (Same.refl H) rfl (fun v hv => nomatch hv) fun v hv => nomatch hv
theorem eks_cons {m : Nat} {te : TE} {ta : TA} (h1 : EvK K te) (h2 : EvKs K m ta) : EvKs K (m + 1) (tCons te ta) := fun σ H Q q =>
  h1 σ H _ fun v H1 s1 k1 n1 => h2 σ H1 _ fun vs H2 s2 l2 k2 n2 => q (v :: vs) H2 (s1.trans s2) (by rw [List.length_cons, l2])
    (fun u hu => by
      rcases List.mem_cons.mp hu with rfl | hu
      · exact k1.keep fun p o _ e => s2 p o e
      · exact k2 u hu)
    (fun u hu p e => by
      rcases List.mem_cons.mp hu with rfl | hu
      · exact n1 p e
      · exact s1.free (n2 u hu p e))
theorem Same.new {H : Hp} {p : Addr} {o : HO} (h : H p = none) : Same H (upd H p o) := fun c u e => by rw [upd_ne (ne_of_none e h)]; exact e
theorem ek_tup {m : Nat} {ta : TA} (h : EvKs K m ta) (hm : m ≤ 100) : EvK K (tTup ta) := fun σ H Q q =>
  h σ H _ fun vs H1 s1 l1 k1 n1 => ⟨small1000' (by omega), fun p hp => q (.ref p) _ (s1.trans (Same.new hp)) ⟨"tuple", .inr (.inl rfl), _, upd_same, fun H' e => .base (.tup e)⟩ fun p' e => by cases e; exact s1.free hp⟩
theorem ek_lst {m : Nat} {ta : TA} (h : EvKs K m ta) (hm : m ≤ 100) : EvK K (tLst ta) := fun σ H Q q =>
  h σ H _ fun vs H1 s1 l1 k1 n1 => ⟨small1000' (by omega), fun p hp => q (.ref p) _ (s1.trans (Same.new hp)) ⟨"list", .inl rfl, _, upd_same, fun H' e => .base (.lst e)⟩ fun p' e => by cases e; exact s1.free hp⟩
theorem ek_dnew : EvK K tDNewK := fun σ H Q q p hp => q (.ref p) _ (Same.new hp) ⟨"dict", .inr (.inr rfl), _, upd_same, fun H' e => .base (.dK e)⟩ fun p' e => by cases e; exact hp
theorem lst_step {m : Nat} {t : TA} {σ : L2.St} {H : Hp} {Q : VK} (h : EvKs K m t) (hm : m ≤ 100) (k : ∀ p vs H', Same H H' → vs.length = m → (∀ v ∈ vs, Kind K v H') → (∀ v ∈ vs, ∀ p, v = .ref p → H p = none) → H' p = none → Q (.ref p) (upd H' p (.lst vs))) : tLst t σ H Q :=
  h σ H _ fun vs H1 s1 l1 k1 n1 => ⟨small1000' (by omega), fun p hp => k p vs H1 s1 l1 k1 n1 hp⟩
theorem asc_lit {z : Str} (h : (decide (z.length ≤ 1000) && z.cps.toList.all fun c => decide (c < 128)) = true) : z.length ≤ 1000 ∧ Asc z := by
  rw [Bool.and_eq_true, List.all_eq_true] at h
  exact ⟨of_decide_eq_true h.1, fun c hc => of_decide_eq_true (h.2 c hc)⟩
def spOdd (K : PySem.W.Frag) : Sp := fun vs H Q _ => ∃ d, vs = [.ref d] ∧ Die d H ∧ ∀ v H', Die d H' → Keep d H H' → Kind K v H' → (∀ p, v = .ref p → p ≠ d) → Q v H'
theorem D_odd (F : HasDef K "_law_odd_one" s__law_odd_one) (M : MgOf K mg) (Z : Zs K mg) (D__law_pick : Known P w K mg base CX0 "_law_pick" 2 ["_law_die", "_law_items"] (spPick K)) : Known P w K mg base CX0 "_law_odd_one" 3 ["_law_die"] (spOdd K) := by
  refine Known.of F M sc__law_odd_one (fun _ _ _ _ _ _ us hl => match us, hl with | [_], _ => rfl) (fun vs H Q E h => ?_) (fun f cdv A outer s H vs Q E hr h => ?_)
  · obtain ⟨x, rfl, _⟩ := h
    rfl
  · obtain ⟨d, rfl, hd, k⟩ := h
    have hu := hr.units
    have nd := sc__law_odd_one.nd
    refine ⟨_, (pss_cons (set 1 nd (pe_lst (pa_cons pe_non (pa_cons pe_int (pa_cons pe_int (pa_cons pe_int (pa_cons pe_int (pa_cons (pe_un un_neg pe_int) (pa_cons pe_bl (pa_cons pe_bl (pa_cons pe_str (pa_cons pe_str (pa_cons pe_str (pa_cons pe_str (pa_cons (pe_tup pa_nil) (pa_cons (pe_tup (pa_cons pe_int pa_nil)) (pa_cons (pe_tup (pa_cons pe_int (pa_cons pe_int pa_nil))) (pa_cons (pe_tup (pa_cons pe_str pa_nil)) (pa_cons (pe_lst (pa_cons pe_int pa_nil)) (pa_cons (pe_dnewK) (pa_cons pe_str pa_nil)))))))))))))))))))))
      (pss_cons (set 1 nd (pe_op o_add (n 1) (pe_lst (pa_cons (pe_op o_pow pe_int pe_int) (pa_cons (pe_tup (pa_cons pe_non pa_nil)) (pa_cons (pe_tup (pa_cons pe_str (pa_cons pe_str pa_nil))) (pa_cons (pe_tup (pa_cons pe_str (pa_cons pe_str pa_nil))) (pa_cons (pe_tup (pa_cons pe_str (pa_cons pe_str pa_nil))) (pa_cons (pe_tup (pa_cons pe_str (pa_cons pe_str pa_nil))) (pa_cons (pe_lst (pa_cons pe_str pa_nil)) (pa_cons (pe_tup (pa_cons pe_str pa_nil)) pa_nil)))))))))))
      (pss_one (ps_ret (call D__law_pick (hr.mono (by decide)) (pa_cons (n 0) (pa_cons (n 1) pa_nil))))))), ?_⟩
    refine q_st (lst_step (K := K) (m := 19) ?_ (by decide) fun p1 vs1 H1 s1 l1 k1 n1 f1 => ?_)
    ·
      exact (eks_cons (ek_c (fun _ => trivial) (fun _ => nofun)) (eks_cons (ek_c (fun _ => trivial) (fun _ => nofun)) (eks_cons (ek_c (fun _ => trivial) (fun _ => nofun)) (eks_cons (ek_c (fun _ => trivial) (fun _ => nofun)) (eks_cons (ek_c (fun _ => trivial) (fun _ => nofun)) (eks_cons ek_neg (eks_cons (ek_c (fun _ => trivial) (fun _ => nofun)) (eks_cons (ek_c (fun _ => trivial) (fun _ => nofun)) (eks_cons (ek_c (fun _ => asc_lit (by decide)) (fun _ => nofun)) (eks_cons (ek_c (fun _ => asc_lit (by decide)) (fun _ => nofun)) (eks_cons (ek_c (fun _ => asc_lit (by decide)) (fun _ => nofun)) (eks_cons (ek_c (fun _ => asc_lit (by decide)) (fun _ => nofun)) (eks_cons (ek_tup eks_nil (by decide)) (eks_cons (ek_tup (eks_cons (ek_c (fun _ => trivial) (fun _ => nofun)) eks_nil) (by decide)) (eks_cons (ek_tup (eks_cons (ek_c (fun _ => trivial) (fun _ => nofun)) (eks_cons (ek_c (fun _ => trivial) (fun _ => nofun)) eks_nil)) (by decide)) (eks_cons (ek_tup (eks_cons (ek_c (fun _ => asc_lit (by decide)) (fun _ => nofun)) eks_nil) (by decide)) (eks_cons (ek_lst (eks_cons (ek_c (fun _ => trivial) (fun _ => nofun)) eks_nil) (by decide)) (eks_cons ek_dnew (eks_cons (ek_c (fun _ => asc_lit (by decide)) (fun _ => nofun)) eks_nil)))))))))))))))))))
    refine q_st (s_op (s_va rfl (lst_step (K := K) (m := 8) ?_ (by decide) fun p2 vs2 H2 s2 l2 k2 n2 f2 => ?_)))
    ·
      exact (eks_cons (ek_pow ⟨by decide, by decide⟩) (eks_cons (ek_tup (eks_cons (ek_c (fun _ => trivial) (fun _ => nofun)) eks_nil) (by decide)) (eks_cons (ek_tup (eks_cons (ek_c (fun _ => asc_lit (by decide)) (fun _ => nofun)) (eks_cons (ek_c (fun _ => asc_lit (by decide)) (fun _ => nofun)) eks_nil)) (by decide)) (eks_cons (ek_tup (eks_cons (ek_c (fun _ => asc_lit (by decide)) (fun _ => nofun)) (eks_cons (ek_c (fun _ => asc_lit (by decide)) (fun _ => nofun)) eks_nil)) (by decide)) (eks_cons (ek_tup (eks_cons (ek_c (fun _ => asc_lit (by decide)) (fun _ => nofun)) (eks_cons (ek_c (fun _ => asc_lit (by decide)) (fun _ => nofun)) eks_nil)) (by decide)) (eks_cons (ek_tup (eks_cons (ek_c (fun _ => asc_lit (by decide)) (fun _ => nofun)) (eks_cons (ek_c (fun _ => asc_lit (by decide)) (fun _ => nofun)) eks_nil)) (by decide)) (eks_cons (ek_lst (eks_cons (ek_c (fun _ => asc_lit (by decide)) (fun _ => nofun)) eks_nil) (by decide)) (eks_cons (ek_tup (eks_cons (ek_c (fun _ => asc_lit (by decide)) (fun _ => nofun)) eks_nil) (by decide)) eks_nil))))))))
    have e1 : H2 p1 = some (.lst vs1) := s2 _ _ upd_same
    have n21 : p1 ≠ p2 := ne_of_none e1 f2
    refine ⟨p1, p2, vs1, vs2, rfl, rfl, by rw [upd_ne n21]; exact e1, upd_same, small1000' (by omega), fun p hp => ?_⟩
    have hd0 : d ≠ p1 := by obtain ⟨a, b, c, e⟩ := hd; exact ne_of_none (s1 _ _ e) f1
    have s3 : Same H (upd (upd H2 p2 (.lst vs2)) p (.lst (vs1 ++ vs2))) := ((s1.trans (Same.new f1)).trans s2).trans ((Same.new f2).trans (Same.new hp))
    have s13 : Same H1 (upd (upd H2 p2 (.lst vs2)) p (.lst (vs1 ++ vs2))) := ((Same.new f1).trans s2).trans ((Same.new f2).trans (Same.new hp))
    have s23 : Same H2 (upd (upd H2 p2 (.lst vs2)) p (.lst (vs1 ++ vs2))) := (Same.new f2).trans (Same.new hp)
    obtain ⟨a, b, c, e⟩ := hd
    have hd3 := s3 _ _ e
    have hpd : p ≠ d := (ne_of_none ((Same.new f2) _ _ (s2 _ _ (by rw [upd_ne hd0]; exact s1 _ _ e))) hp).symm
    refine ⟨d, _, rfl, ⟨a, b, c, hd3⟩, .inl ⟨p, _, rfl, SqL.of upd_same, hpd, by rw [List.length_append]; omega, by rw [List.length_append]; omega, fun y H' hy hd' kp => ?_⟩⟩
    have hyn : ∀ q, y = .ref q → q ≠ d := fun q e2 z => by
      subst e2 z
      rcases List.mem_append.mp hy with h1 | h1
      · rw [n1 _ h1 _ rfl] at e; cases e
      · have := n2 _ h1 _ rfl
        rw [upd_ne hd0, s1 _ _ e] at this; cases this
    refine k y H' hd' (fun b o hb hbo => kp b o hb (s3 b o hbo)) ?_ hyn
    rcases List.mem_append.mp hy with h1 | h1
    · exact (k1 y h1).keep fun q o e2 h => kp q o (hyn q e2) (s13 q o h)
    · exact (k2 y h1).keep fun q o e2 h => kp q o (hyn q e2) (s23 q o h)
/-! ### one turn -/
theorem Keep.mut {d p : Addr} {H H' : Hp} {o : HO} (k : Keep d H H') (h : H p = none) : Keep d H (upd H' p o) := fun c u n e => by rw [upd_ne (ne_of_none e h)]; exact k c u n e
theorem joinL_signs : ∀ cs : List Nat, TL.joinL [] (cs.map fun c => [c]) = cs
  | [] => rfl
  | [c] => rfl
  | c :: e :: r => by
    have ih := joinL_signs (e :: r)
    show [c] ++ ([] ++ TL.joinL [] ((e :: r).map fun c => [c])) = _
    rw [ih]
    rfl
theorem join_signs (cs : List Nat) : (Txt.join "" (cs.map fun c => (⟨#[c]⟩ : Str))).cps.toList = cs := by
  rw [TL.join_eq]
  show TL.tl (Str.join "" _) = cs
  rw [TL.tl_join, List.map_map]
  exact joinL_signs cs
def okS : V → Bool
  | .str z => decide (z.length ≤ 2) && z.cps.toList.all fun c => decide (c < 128)
  | _ => false
theorem asc_app {x y : Str} (h1 : Asc x) (h2 : Asc y) : Asc (x ++ y) := fun c hc => by
  have : c ∈ x.cps.toList ++ y.cps.toList := by
    have e : (x ++ y).cps.toList = x.cps.toList ++ y.cps.toList := TL.tl_append x y
    rwa [e] at hc
  rcases List.mem_append.mp this with h | h
  · exact h1 c h
  · exact h2 c h
theorem asc_cut {x : Str} (h : Asc x) (lo hi : Option Int) : Asc (cutS x lo hi) := fun c hc => h c (List.mem_of_mem_drop (List.mem_of_mem_take (by simpa [cutS] using hc)))
theorem asc_up {x : Str} (h : Asc x) : Asc (Txt.upper x) ∧ (Txt.upper x).length = x.length := by
  rw [upper_ascii h]
  refine ⟨fun c hc => ?_, ?_⟩
  · obtain ⟨e, he, rfl⟩ : ∃ e, e ∈ x.cps.toList ∧ up1 e = c := by simpa using hc
    have := h e he
    unfold up1
    split <;> omega
  · show (x.cps.map up1).size = x.cps.size
    simp
theorem len_app (x y : Str) : (x ++ y).length = x.length + y.length := by
  show (x.cps ++ y.cps).size = _
  simp
  rfl
def spRight : Sp := fun vs H Q _ => ∃ d, vs = [.ref d] ∧ Die d H ∧ ∀ H', Die d H' → Keep d H H' → Q (.bl true) H'
theorem D_right (F : HasDef K "_law_right" s__law_right) (M : MgOf K mg) (Z : Zs K mg) (D__law_cast : Known P w K mg base CX0 "_law_cast" 1 ["_law_die", "_law_total"] spCast) (D__law_pick : Known P w K mg base CX0 "_law_pick" 2 ["_law_die", "_law_items"] (spPick K))
    (D_is_name : Known P w K mg base CX0 "is_name" 1 ["value"] (spName K)) (D__law_is_word : Known P w K mg base CX0 "_law_is_word" 1 ["_law_value"] (spName K)) (D__law_odd_one : Known P w K mg base CX0 "_law_odd_one" 3 ["_law_die"] (spOdd K)) :
    Known P w K mg base CX0 "_law_right" 4 ["_law_die"] spRight := by
  refine Known.of F M sc__law_right (fun _ _ _ _ _ _ us hl => match us, hl with | [_], _ => rfl) (fun vs H Q E h => ?_) (fun f cdv A outer s H vs Q E hr h => ?_)
  · obtain ⟨x, rfl, _⟩ := h
    rfl
  · obtain ⟨d, rfl, hd, k⟩ := h
    have hu := hr.units
    have nd := sc__law_right.nd
    refine ⟨_, (pss_cons (set 1 nd pe_str)
      (pss_cons (set 2 nd (pe_join pe_str (pe_lc (own := [("_law_turn", 7)]) rfl nd (pi_range1 (by rfl) Z.range (pa_cons (call D__law_cast (hr.mono (by decide)) (pa_cons (n 0) (pa_cons pe_int pa_nil))) pa_nil)) (blkOk_by (own := [("_law_turn", 7)]) (N := N__law_right) (sc := defScope s__law_right) (by decide +kernel)) (fun _ _ _ _ _ => (gn 7 nd)) (fun _ _ _ _ _ => pts_nil) (fun _ _ _ _ _ => (call D__law_pick (hr.mono (by decide)) (pa_cons (n 0) (pa_cons (n 1) pa_nil)))))))
      (pss_cons (ps_par (i := 3) (j := 4) rfl nd rfl rfl (by decide) rfl rfl (pa_cons (call D__law_cast (hr.mono (by decide)) (pa_cons (n 0) (pa_cons (pe_op o_add (e_len Z.len (pa_cons (n 2) pa_nil)) pe_int) pa_nil))) (pa_cons (call D__law_pick (hr.mono (by decide)) (pa_cons (n 0) (pa_cons (pe_lst (pa_cons pe_str (pa_cons pe_str (pa_cons pe_str (pa_cons pe_str (pa_cons pe_str (pa_cons pe_str (pa_cons pe_str (pa_cons pe_str (pa_cons pe_str (pa_cons pe_str pa_nil))))))))))) pa_nil))) pa_nil)) (by rfl))
      (pss_cons (set 5 nd (pe_lst (pa_cons (n 2) (pa_cons (pe_op o_add (pe_op o_add (pe_slice sl_any (n 2) po_none (posome (n 3))) (n 4)) (pe_slice sl_any (n 2) (posome (n 3)) po_none)) (pa_cons (pe_slice sl_any (n 2) po_none (posome (n 3))) (pa_cons (pe_upper (n 2)) (pa_cons (pe_op o_add (n 2) (n 2)) (pa_cons (pe_lst (pa_cons (n 2) pa_nil)) (pa_cons (pe_tup (pa_cons (n 2) pa_nil)) (pa_cons (call D__law_odd_one (hr.mono (by decide)) (pa_cons (n 0) pa_nil)) pa_nil))))))))))
      (pss_cons (ps_for PassesOwn.never rfl (pi_list (n 5)) (gn 6 nd) (pss_one (ps_if (tcm (o_ne hu) (e_repr Z.repr (pa_cons (call D_is_name (hr.mono (by decide)) (pa_cons (n 6) pa_nil)) pa_nil)) (e_repr Z.repr (pa_cons (call D__law_is_word (hr.mono (by decide)) (pa_cons (n 6) pa_nil)) pa_nil))) (pss_one (ps_ret pe_bl)) pss_nil)))
      (pss_one (ps_ret pe_bl))))))), ?_⟩
    have hdn : ∀ {H' : Hp} {p : Addr}, Die d H' → H' p = none → p ≠ d := fun h e => by obtain ⟨a, b, c, e'⟩ := h; exact (ne_of_none e' e).symm
    -- the word
    refine q_st (q_st ?_)
    refine ⟨⟨_, rfl⟩, d, 10, rfl, hd, by omega, by omega, fun r H1 r0 r1 hd1 kp1 => ⟨_, rfl, by omega, by omega, fun D hD => lc_range (lo := 0) (n := r.toNat) (fun i H' => ∃ cs : List Nat, cs.length = i ∧ (∀ c ∈ cs, c < 128) ∧ H' D = some (.lst (cs.map fun c => V.str ⟨#[c]⟩)) ∧ Die d H' ∧ Keep d H H')
      ⟨[], rfl, fun c hc => (nomatch hc), upd_same, ?_, kp1.trans (.new hD)⟩ ?_ ?_⟩⟩
    · obtain ⟨a, b, c, e⟩ := hd1
      exact ⟨a, b, c, by rw [upd_ne (hdn ⟨a, b, c, e⟩ hD).symm]; exact e⟩
    · rintro i H' hi ⟨cs, rfl, hc, hD', hd', kp'⟩
      refine ⟨rfl, d, _, rfl, hd', .inr ⟨_, rfl, by decide, by decide, fun c H2 hc2 hd2 kp2 => ?_⟩⟩
      have hDd : D ≠ d := hdn hd1 hD
      refine ⟨_, kp2 D _ hDd hD', by rw [List.length_map]; exact Nat.lt_of_lt_of_le (show cs.length < 100 by omega) (small1000' (by omega)), cs ++ [c], by rw [List.length_append]; rfl, fun e he => ?_, ?_, ?_, (kp'.trans kp2).mut ?_⟩
      · rcases List.mem_append.mp he with h | h
        · exact hc e h
        · rw [List.mem_singleton.mp h]
          exact (show ∀ c ∈ ("abcdefghijklmnopqrstuvwxyz" : Str).cps.toList, c < 128 by decide +kernel) c hc2
      · rw [upd_same, List.map_append]
        rfl
      · obtain ⟨a, b, c, e⟩ := hd2
        exact ⟨a, b, c, by rw [upd_ne hDd.symm]; exact e⟩
      · cases q : H D with
        | none => rfl
        | some o => rw [kp1 D o hDd q] at hD; cases hD
    · rintro H' ⟨cs, hl, hc, hD', hd', kp'⟩
      have hmm : (cs.map fun c => V.str ⟨#[c]⟩) = (cs.map fun c => (⟨#[c]⟩ : Str)).map V.str := by rw [List.map_map]; rfl
      rw [hmm] at hD'
      refine ⟨_, D, _, rfl, rfl, .inl (SqL.of hD'), ?_, ?_⟩
      · have h0 : ∀ cs : List Nat, (((cs.map fun c => (⟨#[c]⟩ : Str)).map (·.length)).sum) = cs.length := fun cs => by
          induction cs with
          | nil => rfl
          | cons c r ih => rw [List.map_cons, List.map_cons, List.sum_cons, ih, List.length_cons]; show 1 + r.length = _; omega
        rw [h0, show ("" : Str).length = 0 from rfl, Nat.mul_zero]
        omega
      generalize hz : Txt.join "" (cs.map fun c => (⟨#[c]⟩ : Str)) = z
      have hzl : z.cps.toList = cs := by rw [← hz]; exact join_signs cs
      have hzn : z.length = cs.length := by rw [← hzl]; exact Array.length_toList.symm
      have hza : Asc z := fun c h => hc c (by rwa [hzl] at h)
      have hz9 : z.length ≤ 9 := by omega
      have hzs : z.length ≤ sizeLine := small1000' (by omega)
      -- a place, a sign or two
      refine q_pa ?_
      refine ⟨hzs, d, _, rfl, hd', by omega, by omega, fun at_ H2 a0 a1 hd2 kp2 => ?_⟩
      refine ⟨(by show 10 ≤ sizeLine; decide), fun p hp => ⟨d, _, rfl, ?_, .inl ⟨p, _, rfl, SqL.of upd_same, hdn hd2 hp, by decide, by decide, fun y H3 hy hd3 kp3 => ?_⟩⟩⟩
      · obtain ⟨a, b, c, e⟩ := hd2
        exact ⟨a, b, c, by rw [upd_ne (hdn ⟨a, b, c, e⟩ hp).symm]; exact e⟩
      have hyo : okS y = true := (List.all_eq_true.mp (by decide +kernel : (([V.str "A", V.str " ", V.str "0", V.str "_", V.str "-", V.str "{", V.str "`", V.str "\n", V.str "z", V.str "aa"] : List V).all okS) = true)) y hy
      cases y with
      | str o =>
        unfold okS at hyo
        rw [Bool.and_eq_true, List.all_eq_true] at hyo
        have ho2 : o.length ≤ 2 := of_decide_eq_true hyo.1
        have hoa : Asc o := fun c h => of_decide_eq_true (hyo.2 c h)
        have c1 := cutS_length z none (some at_)
        have c2 := cutS_length z (some at_) none
        have a1 := asc_cut hza none (some at_)
        have a2 := asc_cut hza (some at_) none
        have hup := asc_up hza
        have sl : ∀ {m : Nat}, m ≤ 1000 → m ≤ sizeLine := fun h => small1000' (by omega)
        have kp13 : Keep d H H3 := ((kp'.trans kp2).trans (.new hp)).trans kp3
        refine q_st ⟨hzs, sl (by omega), hzs, sl (by rw [len_app]; omega), hzs, ⟨_, rfl⟩, _, rfl, rfl, by omega, sl (by omega), ?_⟩
        refine ⟨sl (show 1 ≤ 1000 by omega), fun p6 h6 => ⟨sl (show 1 ≤ 1000 by omega), fun p7 h7 => ⟨d, rfl, ?_, fun v H4 hd4 kp4 hkv hnv => ⟨sl (show 8 ≤ 1000 by omega), fun ps hps => ?_⟩⟩⟩⟩
        · obtain ⟨a, b, c, e⟩ := hd3
          have n6 := hdn ⟨a, b, c, e⟩ h6
          refine ⟨a, b, c, ?_⟩
          have e6 : (upd H3 p6 (.lst [.str z])) d = some (.lst [.int a, .int b, .int c]) := by rw [upd_ne n6.symm]; exact e
          rw [upd_ne (ne_of_none e6 h7)]
          exact e6
        have n6 : p6 ≠ d := hdn hd3 h6
        have h73 : H3 p7 = none := (Same.new h6).free h7
        have n7 : p7 ≠ d := hdn hd3 h73
        have n67 : p6 ≠ p7 := ne_of_none upd_same h7
        have e6 : H4 p6 = some (.lst [.str z]) := kp4 _ _ n6 (by rw [upd_ne n67]; exact upd_same)
        have e7 : H4 p7 = some (.tup [.str z]) := kp4 _ _ n7 upd_same
        have kp14 : Keep d H H4 := fun b u hb e => kp4 b u hb ((Same.new h7) _ _ ((Same.new h6) _ _ (kp13 b u hb e)))
        have kall : ∀ y, y ∈ ([V.str z, V.str (cutS z none (some at_) ++ o ++ cutS z (some at_) none), V.str (cutS z none (some at_)), V.str (Txt.upper z), V.str (z ++ z), .ref p6, .ref p7, v] : List V) → Kind K y H4 := by
          intro y hy
          simp only [List.mem_cons, List.not_mem_nil, or_false] at hy
          rcases hy with rfl | rfl | rfl | rfl | rfl | rfl | rfl | rfl
          · exact ⟨by omega, hza⟩
          · exact ⟨by rw [len_app, len_app]; omega, asc_app (asc_app a1 hoa) a2⟩
          · exact ⟨by omega, a1⟩
          · exact ⟨by omega, hup.1⟩
          · exact ⟨by rw [len_app]; omega, asc_app hza hza⟩
          · exact ⟨"list", .inl rfl, _, e6, fun H' e => .base (.lst e)⟩
          · exact ⟨"tuple", .inr (.inl rfl), _, e7, fun H' e => .base (.tup e)⟩
          · exact hkv
        generalize hxs : ([V.str z, V.str (cutS z none (some at_) ++ o ++ cutS z (some at_) none), V.str (cutS z none (some at_)), V.str (Txt.upper z), V.str (z ++ z), .ref p6, .ref p7, v] : List V) = xs at kall
        refine ⟨ps, rfl, ⟨_, SqL.of upd_same⟩, for_list (K := K) (a := ps) (xs := xs) (fun i σ H' => (∃ u, σ = [some (.ref d), some (.str "abcdefghijklmnopqrstuvwxyz"), some (.str z), some (.int at_), some (.str o), some (.ref ps), u, none]) ∧ Same (upd H4 ps (.lst xs)) H') ?_ ?_ ?_ ?_⟩
        · exact ⟨⟨none, rfl⟩, Same.refl _⟩
        · rintro i σ H' _ ⟨_, s⟩
          exact SqL.of (s _ _ upd_same)
        · rintro i y σ H' hi ⟨⟨u, rfl⟩, s⟩
          have hy := kall y (List.mem_of_getElem? hi)
          have s4 : Same H4 H' := (Same.new hps).trans s
          refine ⟨y, rfl, hy.keep fun p o _ e => s4 p o e, fun H5 s5 => ⟨y, rfl, hy.keep fun p o _ e => (s4.trans s5) p o e, fun H6 s6 => ?_⟩⟩
          refine iteNS rfl ?_
          exact ⟨⟨some y, rfl⟩, (s.trans s5).trans s6⟩
        · rintro σ H' ⟨⟨u, rfl⟩, s⟩
          have s4 : Same H4 H' := (Same.new hps).trans s
          obtain ⟨a, b, c, e⟩ := hd4
          exact k H' ⟨a, b, c, s4 _ _ e⟩ fun b u hb e => s4 _ _ (kp14 b u hb e)
      | _ => cases hyo
/-! ### the law -/
def spLaw (K : PySem.W.Frag) : Sp := fun vs H Q _ => ∃ (a : Addr) (ns : List Int), vs = [.ref a] ∧ SqL K H a (ns.map V.int) ∧ ns.length ≤ 63 ∧ ∀ H', Q (.bl true) H'
def told : List Str := ["a", "zzzzzzzz", "aaaaaaaaa", "", "block", "Run", "a1", "blocking"]
theorem D_law {f : Addr} {fd : FuncData} (F : Fun K "law" "law" s_law f fd) (M : MgOf K mg) (Z : Zs K mg) (D__law_numbers : Known P w K mg base CX0 "_law_numbers" 1 ["_law_script", "_law_at"] (spNumbers K))
    (D__law_right : Known P w K mg base CX0 "_law_right" 4 ["_law_die"] spRight) (D_is_name : Known P w K mg base CX0 "is_name" 1 ["value"] (spName K)) : FnOk P w K mg base CX0 5 f fd ["_law_script"] (spLaw K) := by
  refine ok_of F sc_law (fun vs H Q E h => ?_) (fun f cdv A outer s H vs Q E hr h => ?_)
  · obtain ⟨a, ns, rfl, _⟩ := h
    rfl
  · obtain ⟨a, ns, rfl, hS, hlen, k⟩ := h
    have hu := hr.units
    have nd := sc_law.nd
    refine ⟨_, (pss_cons (ps_for PassesOwn.never rfl (pi_range1 (by rfl) Z.range (pa_cons (e_max Z.max (pa_cons pe_int (pa_cons (e_min Z.min (pa_cons pe_int (pa_cons (e_len Z.len (pa_cons (n 0) pa_nil)) pa_nil))) pa_nil))) pa_nil)) (gn 1 nd) (pss_cons (set 2 nd (call D__law_numbers (hr.mono (by decide)) (pa_cons (n 0) (pa_cons (n 1) pa_nil))))
      (pss_one (ps_for PassesOwn.never rfl (pi_range1 (by rfl) Z.range (pa_cons pe_int pa_nil)) (gn 3 nd) (pss_one (ps_if (pt_not (tv (call D__law_right (hr.mono (by decide)) (pa_cons (n 2) pa_nil)))) (pss_one (ps_ret pe_bl)) pss_nil))))))
      (pss_cons (ps_setLc (i := 4) (own := [("_law_word", 5)]) rfl nd rfl rfl (sw_true rfl rfl rfl (by decide +kernel)) (pi_tup (pe_tup (pa_cons pe_str (pa_cons pe_str (pa_cons pe_str (pa_cons pe_str (pa_cons pe_str (pa_cons pe_str (pa_cons pe_str (pa_cons pe_str pa_nil)))))))))) (blkOk_by (own := [("_law_word", 5)]) (N := N_law) (sc := defScope s_law) (by decide +kernel)) (fun _ _ _ _ _ => (gn 5 nd)) (fun _ _ _ _ _ => pts_nil) (fun _ _ _ _ _ => (call D_is_name (hr.mono (by decide)) (pa_cons (n 5) pa_nil))))
      (pss_one (ps_ret (ecm (o_eq hu) (n 4) (pe_lst (pa_cons pe_bl (pa_cons pe_bl (pa_cons pe_bl (pa_cons pe_bl (pa_cons pe_bl (pa_cons pe_bl (pa_cons pe_bl (pa_cons pe_bl pa_nil)))))))))))))), ?_⟩
    refine ⟨(ns.map V.int).length, .inl ⟨_, hS, rfl⟩, ?_⟩
    have hl63 : (((ns.map V.int).length : Nat) : Int) ≤ 63 := by rw [List.length_map]; omega
    refine ⟨_, rfl, ?_, ?_, for_range (lo := 0) (n := _) (fun i σ H' => (∃ u v t, σ = [some (.ref a), u, v, t, none, none]) ∧ Same H H') ⟨⟨_, _, _, rfl⟩, Same.refl H⟩ ?_ ?_⟩
    · split <;> split <;> omega
    · split <;> split <;> omega
    · rintro i σ H' hi ⟨⟨u, v, t, rfl⟩, s1⟩
      have hi8 : i < 1000 := by
        revert hi
        split <;> split <;> omega
      refine ⟨a, ns, _, rfl, s1.seq hS, hlen, by omega, by omega, fun d H1 hdn hd kp => ?_⟩
      have s2 : Same H' H1 := fun b o e => kp b o (ne_of_none e hdn) e
      refine ⟨6, rfl, by decide, by decide, for_range (lo := 0) (n := 6) (fun j σ H2 => (∃ t, σ = [some (.ref a), some (.int (0 + (i : Int))), some (.ref d), t, none, none]) ∧ Keep d H1 H2 ∧ Die d H2) ⟨⟨_, rfl⟩, Keep.refl d H1, hd⟩ ?_ ?_⟩
      · rintro j σ H2 hj ⟨⟨t, rfl⟩, kp2, hd2⟩
        exact ⟨d, rfl, hd2, fun H3 hd3 kp3 => ⟨⟨_, rfl⟩, kp2.trans kp3, hd3⟩⟩
      · rintro σ H2 ⟨⟨t, rfl⟩, kp2, hd2⟩
        exact ⟨⟨_, _, _, rfl⟩, fun b o e => kp2 b o (ne_of_none (s1 b o e) hdn) (s2 b o (s1 b o e))⟩
    · rintro σ H' ⟨⟨u, v, t, rfl⟩, s1⟩
      refine ⟨(by show 8 ≤ sizeLine; decide), fun p hp => ⟨p, rfl, ⟨_, SqT.of upd_same⟩, fun D hD => lc_tup (K := K) (a := p) (xs := told.map V.str) (fun i H2 => H2 p = some (.tup (told.map V.str)) ∧ H2 D = some (.lst ((told.take i).map fun z => V.bl (nameZ z)))) ⟨?_, upd_same⟩ ?_ ?_ ?_⟩⟩
      · rw [upd_ne (ne_of_none upd_same hD)]
        exact upd_same
      · rintro i H2 _ ⟨h1, _⟩
        exact SqT.of h1
      · rintro i y H2 hi ⟨h1, h2⟩
        rw [List.getElem?_map] at hi
        cases e : told[i]? with
        | none => rw [e] at hi; cases hi
        | some z =>
          rw [e] at hi
          cases hi
          have hz : z.length ≤ 1000 ∧ Asc z := by
            have hm := List.mem_of_getElem? e
            exact asc_lit ((List.all_eq_true.mp (by decide +kernel : (told.all fun z => decide (z.length ≤ 1000) && z.cps.toList.all fun c => decide (c < 128)) = true)) z hm)
          refine ⟨rfl, .str z, rfl, hz, fun H3 s3 => ⟨_, s3 _ _ h2, ?_, ?_, ?_⟩⟩
          · rw [List.length_map]
            exact Nat.lt_of_le_of_lt (List.length_take_le _ _) (Nat.lt_of_le_of_lt (by have := (List.getElem?_eq_some_iff.mp e).1; have : told.length = 8 := rfl; omega : i ≤ 8) (Nat.lt_of_lt_of_le (show 8 < 100 by omega) (small1000' (by omega))))
          · rw [upd_ne (ne_of h1 h2 (by intro z; cases z))]
            exact s3 _ _ h1
          · rw [upd_same, List.take_add_one, e, List.map_append]
            rfl
      · rintro H2 ⟨h1, h2⟩
        refine ⟨(by show 8 ≤ sizeLine; decide), fun q hq => ?_⟩
        have n1 : D ≠ q := ne_of_none h2 hq
        have e0 : ((told.take (told.map V.str).length).map fun z => V.bl (nameZ z)) = ([true, true, false, false, true, false, false, true] : List Bool).map V.bl := by decide +kernel
        rw [e0] at h2
        refine ⟨.list (([true, true, false, false, true, false, false, true] : List Bool).map PyData.bool), .list (([true, true, false, false, true, false, false, true] : List Bool).map PyData.bool), .lst (.inl (.inl (by rw [upd_ne n1]; exact h2))) (dp_bls _), .lst (.inl (.inl upd_same)) (dp_bls [true, true, false, false, true, false, false, true]), by decide +kernel, by decide +kernel, ?_⟩
        have e1 : PyData.eqv (.list (([true, true, false, false, true, false, false, true] : List Bool).map PyData.bool)) (.list (([true, true, false, false, true, false, false, true] : List Bool).map PyData.bool)) = true := by decide +kernel
        rw [e1]
        exact k _
end
/-! ### the end -/
theorem all_ok {P : Program} {w : World} {K : PySem.W.Frag} {mg : Str → Option Value} {h base : Heap} (A : Facts K) (X : K.In h) (G : h.Ns mainGlobals mg) {f : Addr} {fd : FuncData} (F : Fun K "law" "law" s_law f fd) : FnOk P w K mg base CX0 5 f fd ["_law_script"] (spLaw K) := by
  have M := MgOf.mk' X G
  have Z := zs_of A M
  have c := D_cast (P := P) (w := w) (base := base) A.d__law_cast M Z
  have p := D_pick A.d__law_pick M Z c
  have n := D_isname (P := P) (w := w) (base := base) A.d_is_name M Z
  exact D_law F M Z (D_numbers A.d__law_numbers M Z) (D_right A.d__law_right M Z c p n (D_isword A.d__law_is_word M Z) (D_odd A.d__law_odd_one M Z p)) n
theorem fin {P : Program} {w : World} {K : PySem.W.Frag} {mg : Str → Option Value} {h : Heap} (X : K.In h) (G : h.Ns mainGlobals mg) (A : Facts K) :
    HasDef K "law" s_law ∧ ∀ (f : Addr) (fd : FuncData) (base : Heap), K.In base → base.Ns mainGlobals mg → Fun K "law" "law" s_law f fd → FnOk P w K mg base CX0 5 f fd ["_law_script"] (spLaw K) :=
  ⟨A.d_law, fun _ _ _ _ _ F => all_ok A X G F⟩
end K01
open PySem PySem.W PyProof.Rows
set_option maxRecDepth 100000 in
set_option maxHeartbeats 0 in
theorem PySem.Challenge.cw_blockshanded_k01_names_holds : PySem.Challenge.rw_blockshanded_k01_names.Holds := by
  w_on; o_law; k_head; (case hw => w_witness2)
  k_fill
  refine U.walk_law (l := PySem.Challenge.rw_blockshanded_k01_names) (n := 63) (k := 5) (x := "_law_script") (st := K01.s_law) (sp := K01.spLaw) rfl (by decide) rfl ⟨rfl, by decide, by decide⟩ rfl (fun w h Y => PySem.W.kIn_of Y) (fun _ _ _ _ _ _ us hl => match us, hl with | [_], _ => rfl) ?F (fun K H a ns hl _ hS => ⟨a, ns, rfl, hS, hl, fun _ => rfl⟩)
  case F =>
    intro w mg h KX G
    refine K01.fin KX G ?A
    constructor
    case d_is_name => (refine' U.has_mk ?a ?l ?c ?k; (case a => k_is); (case l => k_is); (case c => k_is); (case k => k_is))
    case d__law_numbers => (refine' U.has_mk ?a ?l ?c ?k; (case a => k_is); (case l => k_is); (case c => k_is); (case k => k_is))
    case d__law_cast => (refine' U.has_mk ?a ?l ?c ?k; (case a => k_is); (case l => k_is); (case c => k_is); (case k => k_is))
    case d__law_pick => (refine' U.has_mk ?a ?l ?c ?k; (case a => k_is); (case l => k_is); (case c => k_is); (case k => k_is))
    case d__law_is_word => (refine' U.has_mk ?a ?l ?c ?k; (case a => k_is); (case l => k_is); (case c => k_is); (case k => k_is))
    case d__law_odd_one => (refine' U.has_mk ?a ?l ?c ?k; (case a => k_is); (case l => k_is); (case c => k_is); (case k => k_is))
    case d__law_right => (refine' U.has_mk ?a ?l ?c ?k; (case a => k_is); (case l => k_is); (case c => k_is); (case k => k_is))
    case d_law => (refine' U.has_mk ?a ?l ?c ?k; (case a => k_is); (case l => k_is); (case c => k_is); (case k => k_is))
    case z_all => k_is
    case z_isinstance => k_is
    case z_str => k_is
    case z_len => k_is
    case z_int => k_is
    case z_max => k_is
    case z_abs => k_is
    case z_repr => k_is
    case z_range => k_is
    case z_min => k_is
    case c_LETTERS => (refine' U.cst_str ?e; (case e => k_is))
    case c_MAX_LETTERS => (refine' U.cst_int ?e; (case e => k_is))
#print axioms PySem.Challenge.cw_blockshanded_k01_names_holds
