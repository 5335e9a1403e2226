import PyProof.Rows.All
import Wide.All
import OpenK.AllK
import Wide.FinOn
import HandS.ForMost
import HandS.IsInst
import HandS.Flow
import HandS.Wide
import HandS.Style
import HandS.RaiseMore
import HandS.Steps
import HandS.MakeKwOnly
import HandS.Property
import HandS.OwnEq
import HandS.MethStar
import HandS.TupSets
import HandS.Deep
import HandS.FStr
import HandS.Zip
import HandS.TupAny
import HandS.TupMul
import PyProof.Rows.SeqMore
import PyProof.ListMulAny
import HandS.TryOnly
import HandS.WideBits
import HandS.Conv
import PyProof.WalksMore
import PySem.Challenge.RW_blockshanded_k20_relations_by_their_pair
set_option Elab.async false
set_option linter.all false
set_option maxRecDepth 100000
set_option maxHeartbeats 2000000
/-! Functional readings: rules whose readings compute by the values' kinds. -/
namespace U
open PySem PySem.Spec PyProof.Rows L2
section
variable {X : Cx} {a b c e : Expr} {ta tb tc te t t' : TE} {pos : Pos}
theorem imp (h : PE X e t) (f : ∀ σ H Q, t' σ H Q → t σ H Q) : PE X e t' := ⟨fun pins s σ H Q I q => h.run pins s σ H Q I (f σ H Q q)⟩
theorem opImp {f : Value → Value → Sem Value} {r r' : R2} (h : OpR X f r) (g : ∀ x y H Q, r' x y H Q → r x y H Q) : OpR X f r' :=
  fun pins s σ H x y v u Q I rx ry q => h pins s σ H x y v u Q I rx ry (g x y H Q q)
theorem callImp {f : Value} {r r' : List V → Hp → VK → Prop} (h : CallR X f r) (g : ∀ xs H Q, r' xs H Q → r xs H Q) : CallR X f r' :=
  fun pins s σ H xs us Q I rx q => h pins s σ H xs us Q I rx (g xs H Q q)
/-- several rules of one operation, chosen by the values -/
theorem opCases {f : Value → Value → Sem Value} {r : R2} (h : ∀ x y H Q, r x y H Q → ∃ r' : R2, OpR X f r' ∧ r' x y H Q) : OpR X f r :=
  fun pins s σ H x y v u Q I rx ry q => let ⟨_, o, q'⟩ := h x y H Q q; o pins s σ H x y v u Q I rx ry q'
theorem callCases {f : Value} {r : List V → Hp → VK → Prop} (h : ∀ xs H Q, r xs H Q → ∃ r' : List V → Hp → VK → Prop, CallR X f r' ∧ r' xs H Q) : CallR X f r :=
  fun pins s σ H xs us Q I rx q => let ⟨_, o, q'⟩ := h xs H Q q; o pins s σ H xs us Q I rx q'

/-! ### names -/
def fVar (i : Nat) : TE := fun σ H Q => match σ[i]? with | some (some v) => Q v H | _ => False
theorem n (i : Nat) {x : Str} {pos : Pos} (hN : X.N[i]? = some x := by rfl) (hv : Vis X.env.scope x := by first | exact Or.inl rfl | exact Or.inr (Or.inl rfl) | exact Or.inr (Or.inr rfl))
    (hd : (x == ("__debug__" : Str)) = false := by decide) (hcd : (x == ("__classdict__" : Str)) = false := by decide) : PE X (.Name x pos) (fVar i) :=
  imp (pe_var hN hv hd hcd) fun σ H Q h => by
    unfold fVar at h
    split at h
    · rename_i v e
      exact ⟨v, e, h⟩
    · exact h.elim

/-! ### arithmetic -/
def fAdd : R2 := fun x y H Q => match x, y with
  | .int i, .int j => Q (.int (i + j)) H
  | .int i, .bl k => Q (.int (i + b2i k)) H
  | .str a, .str b => a.length + b.length ≤ sizeLine ∧ Q (.str (a ++ b)) H
  | .ref l, .ref r => rCat (.ref l) (.ref r) H Q
  | _, _ => False
theorem o_add : OpR X (binaryOp .Add) fAdd := opCases fun x y H Q h => by
  cases x <;> cases y <;> first | exact h.elim | skip
  · exact ⟨_, op_add_ib, _, _, rfl, rfl, h⟩
  · exact ⟨_, op_add, _, _, rfl, rfl, h⟩
  · exact ⟨_, op_add_str, _, _, rfl, rfl, h.1, h.2⟩
  · exact ⟨_, op_cat, h⟩
def fAddT (K : PySem.W.Frag) : R2 := rCatT K
theorem o_addT : OpR X (binaryOp .Add) (fAddT X.K) := op_catT
def fSub : R2 := fun x y H Q => match x, y with
  | .int i, .int j => Q (.int (i - j)) H
  | _, _ => False
theorem o_sub : OpR X (binaryOp .Sub) fSub := opCases fun x y H Q h => by
  cases x <;> cases y <;> first | exact h.elim | exact ⟨_, op_sub, _, _, rfl, rfl, h⟩
def fMul : R2 := fun x y H Q => match x, y with
  | .int i, .int j => CMul i j ∧ Q (.int (i * j)) H
  | .ref l, .int k => rRep (.ref l) (.int k) H Q
  | _, _ => False
theorem o_mul : OpR X (binaryOp .Mult) fMul := opCases fun x y H Q h => by
  cases x <;> cases y <;> first | exact h.elim | exact ⟨_, op_mul, _, _, rfl, rfl, h.1, h.2⟩ | exact ⟨_, op_rep, h⟩
def fDiv : R2 := fun x y H Q => match x, y with
  | .int i, .int j => CDiv i j ∧ Q (.int (i / j)) H
  | _, _ => False
theorem o_div : OpR X (binaryOp .FloorDiv) fDiv := opCases fun x y H Q h => by
  cases x <;> cases y <;> first | exact h.elim | exact ⟨_, op_fdiv, _, _, rfl, rfl, h.1, h.2⟩
def fMod : R2 := fun x y H Q => match x, y with
  | .int i, .int j => 0 < j ∧ Q (.int (i % j)) H
  | _, _ => False
theorem o_mod : OpR X (binaryOp .Mod) fMod := opCases fun x y H Q h => by
  cases x <;> cases y <;> first | exact h.elim | exact ⟨_, op_mod, _, _, rfl, rfl, h.1, h.2⟩
/-- a written power of written numbers -/
def CPowW (i j : Int) : Prop := 0 ≤ j ∧ (Builtin.Int.intBits i : Int) * j ≤ 2 ^ 27
theorem op_powW : OpR X (binaryOp .Pow) (rI CPowW fun i j => .int (i ^ j.toNat)) := opI fun _ _ _ _ _ _ _ hc q => pow_int hc.1 hc.2 q
def fPow : R2 := fun x y H Q => match x, y with
  | .int i, .int j => CPowW i j ∧ Q (.int (i ^ j.toNat)) H
  | _, _ => False
theorem o_pow : OpR X (binaryOp .Pow) fPow := opCases fun x y H Q h => by
  cases x <;> cases y <;> first | exact h.elim | exact ⟨_, op_powW, _, _, rfl, rfl, h.1, h.2⟩

/-! ### comparisons -/
def fLt : R2 := fun x y H Q => match x, y with
  | .int i, .int j => Q (.bl (decide (i < j))) H
  | .str a, .str b => Q (.bl (decide (a.cps.toList < b.cps.toList))) H
  | _, _ => False
def fLe : R2 := fun x y H Q => match x, y with
  | .int i, .int j => Q (.bl (decide (i ≤ j))) H
  | .str a, .str b => Q (.bl (!decide (b.cps.toList < a.cps.toList))) H
  | _, _ => False
def fGt : R2 := fun x y H Q => match x, y with
  | .int i, .int j => Q (.bl (decide (j < i))) H
  | .str a, .str b => Q (.bl (decide (b.cps.toList < a.cps.toList))) H
  | _, _ => False
def fGe : R2 := fun x y H Q => match x, y with
  | .int i, .int j => Q (.bl (decide (j ≤ i))) H
  | .str a, .str b => Q (.bl (!decide (a.cps.toList < b.cps.toList))) H
  | _, _ => False
theorem o_lt : OpR X (compareOp .Lt) fLt := opCases fun x y H Q h => by
  cases x <;> cases y <;> first | exact h.elim | exact ⟨_, op_lt, _, _, rfl, rfl, h⟩ | exact ⟨_, op_lt_str, _, _, rfl, rfl, h⟩
theorem o_le : OpR X (compareOp .LtE) fLe := opCases fun x y H Q h => by
  cases x <;> cases y <;> first | exact h.elim | exact ⟨_, op_le, _, _, rfl, rfl, h⟩ | exact ⟨_, op_le_str, _, _, rfl, rfl, h⟩
theorem o_gt : OpR X (compareOp .Gt) fGt := opCases fun x y H Q h => by
  cases x <;> cases y <;> first | exact h.elim | exact ⟨_, op_gt, _, _, rfl, rfl, h⟩ | exact ⟨_, op_gt_str, _, _, rfl, rfl, h⟩
theorem o_ge : OpR X (compareOp .GtE) fGe := opCases fun x y H Q h => by
  cases x <;> cases y <;> first | exact h.elim | exact ⟨_, op_ge, _, _, rfl, rfl, h⟩ | exact ⟨_, op_ge_str, _, _, rfl, rfl, h⟩
/-- == of two scalars at once; of data by what it holds -/
def fEq (K : PySem.W.Frag) : R2 := fun x y H Q => match x, y with
  | .int i, .int j => Q (.bl (decide (i = j))) H
  | .str a, .str b => Q (.bl (decide (a = b))) H
  | .bl a, .bl b => Q (.bl (decide (a = b))) H
  | _, _ => rEqD K x y H Q
def fNe (K : PySem.W.Frag) : R2 := fun x y H Q => match x, y with
  | .int i, .int j => Q (.bl (!decide (i = j))) H
  | .str a, .str b => Q (.bl (!decide (a = b))) H
  | .bl a, .bl b => Q (.bl (!decide (a = b))) H
  | _, _ => rNeD K x y H Q
theorem dI {i j : Int} : decide (V.int i = V.int j) = decide (i = j) := by simp
theorem dS {i j : Str} : decide (V.str i = V.str j) = decide (i = j) := by simp
theorem dB {i j : Bool} : decide (V.bl i = V.bl j) = decide (i = j) := by simp
theorem o_eq (hu : X.A.units + 64 < cLine) : OpR X (compareOp .Eq) (fEq X.K) := opCases fun x y H Q h => by
  cases x <;> cases y <;> first | exact ⟨_, op_eqD hu, h⟩ | exact ⟨_, op_eq, rfl, by rw [dI]; exact h⟩ | exact ⟨_, op_eq, rfl, by rw [dS]; exact h⟩ | exact ⟨_, op_eq, rfl, by rw [dB]; exact h⟩
theorem o_ne (hu : X.A.units + 64 < cLine) : OpR X (compareOp .NotEq) (fNe X.K) := opCases fun x y H Q h => by
  cases x <;> cases y <;> first | exact ⟨_, op_neD hu, h⟩ | exact ⟨_, op_ne, rfl, by rw [dI]; exact h⟩ | exact ⟨_, op_ne, rfl, by rw [dS]; exact h⟩ | exact ⟨_, op_ne, rfl, by rw [dB]; exact h⟩
def fIsN : R2 := fun x y H Q => match y with
  | .non => Q (.bl (decide (x = .non))) H
  | _ => False
def fNotN : R2 := fun x y H Q => match y with
  | .non => Q (.bl (!decide (x = .non))) H
  | _ => False
theorem o_isN : OpR X (compareOp .Is) fIsN := opCases fun x y H Q h => by
  cases y <;> first | exact h.elim | exact ⟨_, op_isN, rfl, h⟩
theorem o_notN : OpR X (compareOp .IsNot) fNotN := opCases fun x y H Q h => by
  cases y <;> first | exact h.elim | exact ⟨_, op_notN, rfl, h⟩

/-! ### tests -/
def fTest (t : TE) : TT := fun σ H Q => t σ H fun x H' => match x with
  | .bl k => Q k H'
  | _ => False
theorem fTest_eq : fTest = tTest := by
  funext t σ H Q
  show t σ H _ = t σ H _
  congr 1
  funext x H'
  cases x <;> simp
theorem fTestB_eq : fTest = tB := by
  funext t σ H Q
  show t σ H _ = t σ H _
  congr 1
  funext x H'
  cases x <;> simp
/-- a comparison as a test, as a value -/
theorem tcm {op : CmpOp} {r : R2} (ho : OpR X (compareOp op) r) (ha : PE X a ta) (hb : PE X b tb) (hm : behindInMarks op b = false := by first | exact nomark _ | rfl) : PT X (.Compare a [op] [b] pos) (fTest (tOp r ta tb)) := by
  rw [fTest_eq]; exact pt_cmpR ho ha hb hm
theorem ecm {op : CmpOp} {r : R2} (ho : OpR X (compareOp op) r) (ha : PE X a ta) (hb : PE X b tb) (hm : behindInMarks op b = false := by first | exact nomark _ | rfl) : PE X (.Compare a [op] [b] pos) (tOp r ta tb) := pe_cmpR ho ha hb hm
def fChain (r r' : R2) (ta tb tc : TE) : TE := fun σ H Q => ta σ H fun x H1 => tb σ H1 fun y H2 => r x y H2 fun z H3 => match z with
  | .bl k => if k = true then tc σ H3 fun w' H4 => r' y w' H4 Q else Q (.bl false) H3
  | _ => False
theorem fChain_eq : fChain = tChain := by
  funext r r' ta tb tc σ H Q
  show ta σ H _ = ta σ H _
  congr 1
  funext x H1
  show tb σ H1 _ = tb σ H1 _
  congr 1
  funext y H2
  show r x y H2 _ = r x y H2 _
  congr 1
  funext z H3
  cases z <;> simp
theorem ech {op op' : CmpOp} {r r' : R2} (ho : OpR X (compareOp op) r) (ho' : OpR X (compareOp op') r') (ha : PE X a ta) (hb : PE X b tb) (hc : PE X c tc) (hm : lastMarks [op, op'] [b, c] = false := by rfl) :
    PE X (.Compare a [op, op'] [b, c] pos) (fChain r r' ta tb tc) := by
  rw [fChain_eq]; exact pe_chain ho ho' ha hb hc hm
theorem tch {op op' : CmpOp} {r r' : R2} (ho : OpR X (compareOp op) r) (ho' : OpR X (compareOp op') r') (ha : PE X a ta) (hb : PE X b tb) (hc : PE X c tc) (hm : lastMarks [op, op'] [b, c] = false := by rfl) :
    PT X (.Compare a [op, op'] [b, c] pos) (fTest (fChain r r' ta tb tc)) := by
  rw [fChain_eq, fTest_eq]; exact pt_chain ho ho' ha hb hc hm
/-- any value as a test -/
def fTru (K : PySem.W.Frag) (t : TE) : TT := fun σ H Q => t σ H fun x H' => match x with
  | .bl k => Q k H'
  | .non => Q false H'
  | .int i => Q (i != 0) H'
  | .str y => y.length ≤ sizeLine ∧ Q ((y.length : Int) != 0) H'
  | x => ∃ k, TruV K x H' k ∧ Q k H'
theorem fTru_eq {K : PySem.W.Frag} {t : TE} : fTru K t = fun σ H Q => t σ H fun x H' => ∃ k, TruV K x H' k ∧ Q k H' := by
  funext σ H Q
  show t σ H _ = t σ H _
  congr 1
  funext x H'
  cases x <;> first | (apply propext; exact ⟨fun ⟨h1, h2⟩ => ⟨_, ⟨h1, rfl⟩, h2⟩, fun ⟨k, ⟨h1, h2⟩, h3⟩ => ⟨h1, h2 ▸ h3⟩⟩) | simp [TruV]
theorem tv (ha : PE X a ta) (he : ∀ whole, isTrue a X.env whole = (do let v ← whole; standAt a.pos; holding [v] (truthy v)) := by intro _; rfl) : PT X a (fTru X.K ta) := by
  rw [fTru_eq]; exact pt_truth ha he
/-! ### values of and, or, not whose parts are bools -/
def fAndV (ta tb : TE) : TE := fun σ H Q => ta σ H fun x H1 => match x with
  | .bl c => if c = true then tb σ H1 Q else Q (.bl false) H1
  | _ => False
def fOrV (ta tb : TE) : TE := fun σ H Q => ta σ H fun x H1 => match x with
  | .bl c => if c = true then Q (.bl true) H1 else tb σ H1 Q
  | _ => False
def fNotV (ta : TE) : TE := fun σ H Q => ta σ H fun x H1 => match x with
  | .bl c => Q (.bl (!c)) H1
  | _ => False
theorem fAndV_eq : fAndV = tAndV := by
  funext ta tb σ H Q
  show ta σ H _ = ta σ H _
  congr 1
  funext x H1
  cases x <;> simp
theorem fOrV_eq : fOrV = tOrV := by
  funext ta tb σ H Q
  show ta σ H _ = ta σ H _
  congr 1
  funext x H1
  cases x <;> simp
theorem fNotV_eq : fNotV = tNotV := by
  funext ta σ H Q
  show ta σ H _ = ta σ H _
  congr 1
  funext x H1
  cases x <;> simp
variable {rest : List Expr}
theorem eand (ha : PE X a ta) (hb : PE X (.BoolOp .And (b :: rest) pos) tb) : PE X (.BoolOp .And (a :: b :: rest) pos) (fAndV ta tb) := by rw [fAndV_eq]; exact pe_and ha hb
theorem eor (ha : PE X a ta) (hb : PE X (.BoolOp .Or (b :: rest) pos) tb) : PE X (.BoolOp .Or (a :: b :: rest) pos) (fOrV ta tb) := by rw [fOrV_eq]; exact pe_or ha hb
theorem enot (ha : PE X a ta) : PE X (.UnaryOp .Not a pos) (fNotV ta) := by rw [fNotV_eq]; exact pe_not ha
/-! ### calls of built-ins -/
def fAbs : List V → Hp → VK → Prop := fun xs H Q => match xs with
  | [.int i] => Q (.int (if i < 0 then -i else i)) H
  | _ => False
theorem c_abs : CallR X (.builtin "abs") fAbs := callImp call_abs fun xs H Q h => by
  unfold fAbs at h; split at h
  · exact ⟨_, rfl, h⟩
  · exact h.elim
def fMax : List V → Hp → VK → Prop := fun xs H Q => match xs with
  | [.int i, .int j] => Q (.int (if j > i then j else i)) H
  | _ => False
theorem c_max (hc : X.calm = true) : CallR X (.builtin "max") fMax := callImp (call_max2 hc) fun xs H Q h => by
  unfold fMax at h; split at h
  · exact ⟨_, _, rfl, h⟩
  · exact h.elim
def fMin : List V → Hp → VK → Prop := fun xs H Q => match xs with
  | [.int i, .int j] => Q (.int (if j < i then j else i)) H
  | _ => False
theorem c_min (hc : X.calm = true) : CallR X (.builtin "min") fMin := callImp (call_min2 hc) fun xs H Q h => by
  unfold fMin at h; split at h
  · exact ⟨_, _, rfl, h⟩
  · exact h.elim
def fInt : List V → Hp → VK → Prop := fun xs H Q => match xs with
  | [.int i] => Q (.int i) H
  | [.bl k] => Q (.int (if k then 1 else 0)) H
  | _ => False
theorem c_int : CallR X (.type "int") fInt := callImp call_int1 fun xs H Q h => by
  unfold fInt at h; split at h
  · exact .inl ⟨_, rfl, h⟩
  · exact .inr ⟨_, rfl, h⟩
  · exact h.elim
def fLen (K : PySem.W.Frag) : List V → Hp → VK → Prop := fun xs H Q => match xs with
  | [.str y] => y.length ≤ sizeLine ∧ Q (.int y.length) H
  | [.ref p] => ∃ n : Nat, ((∃ xs, SqL K H p xs ∧ n = xs.length) ∨ ∃ xs, SqT K H p xs ∧ n = xs.length) ∧ Q (.int n) H
  | _ => False
theorem c_len : CallR X (.builtin "len") (fLen X.K) := callImp call_len fun xs H Q h => by
  unfold fLen at h; split at h
  · exact ⟨_, _, rfl, ⟨h.1, rfl⟩, h.2⟩
  · obtain ⟨n, h1, h2⟩ := h
    exact ⟨_, n, rfl, h1, h2⟩
  · exact h.elim
/-! ### statements -/
theorem set (i : Nat) {x : Str} {pos' : Pos} {te : TE} (hN : X.N.Nodup) (he : PE X e te) (hi : X.N[i]? = some x := by rfl) (hx : Loc X.env.scope x := by first | exact Or.inl rfl | exact Or.inr rfl) (hs : swapsWith e (some (.Name x pos')) pos.line X.env = pure false := by rfl)
    (hf : X.fn x = true ∨ X.env.scope.names.lookup x = some .local := by first | exact .inl rfl | exact .inr rfl) : PS X (.Assign [.Name x pos'] e pos) (tAsg te (gName i)) := ps_set hN hi hx he hs hf
theorem gn (i : Nat) {x : Str} {pos : Pos} (hN : X.N.Nodup) (hi : X.N[i]? = some x := by rfl) (hx : Loc X.env.scope x := by first | exact Or.inl rfl | exact Or.inr rfl)
    (hf : X.fn x = true ∨ X.env.scope.names.lookup x = some .local := by first | exact .inl rfl | exact .inr rfl) : PG X (.Name x pos) (gName i) := pg_name hN hi hx hf
/-- o[i] = v on a list -/
def fSetL : V → V → V → Hp → (Hp → Prop) → Prop := fun o i v H Q => match o, i with
  | .ref p, .int k => ∃ xs j, H p = some (.lst xs) ∧ ixN xs.length k = some j ∧ Q (upd H p (.lst (xs.set j v)))
  | _, _ => False
theorem s_list : PSet X fSetL := fun pins s σ H o i v ov iv u Q I r1 r2 r3 h => by
  cases o <;> cases i <;> first | exact h.elim | skip
  obtain ⟨xs, j, h1, h2, h3⟩ := h
  exact set_list pins s σ H _ _ v ov iv u Q I r1 r2 r3 ⟨_, xs, _, j, rfl, rfl, h1, h2, h3⟩
/-- xs[i]: a list, a tuple, a text -/
def fIx (K : PySem.W.Frag) : R2 := fun x y H Q => match x, y with
  | .str z, .int i => z.length ≤ sizeLine ∧ ∃ c, atI z.cps.toList i = some c ∧ Q (.str ⟨#[c]⟩) H
  | .ref p, .int i => ∃ xs v, (SqL K H p xs ∨ SqT K H p xs) ∧ atI xs i = some v ∧ Q v H
  | _, _ => False
theorem x_seq : IxR X (fIx X.K) := fun value slice pins s σ H x y v u Q I rx ry h hs => by
  cases x <;> cases y <;> first | exact h.elim | skip
  · obtain ⟨h1, c, h2, h3⟩ := h
    exact ix_str value slice pins s σ H _ _ v u Q I rx ry ⟨_, _, c, rfl, rfl, h1, h2, h3⟩ hs
  · obtain ⟨xs, z, h1 | h1, h2, h3⟩ := h
    · exact ix_list value slice pins s σ H _ _ v u Q I rx ry ⟨_, xs, _, z, rfl, rfl, h1, h2, h3⟩ hs
    · exact ix_tup value slice pins s σ H _ _ v u Q I rx ry ⟨_, xs, _, z, rfl, rfl, h1, h2, h3⟩ hs
theorem ix (ha : PE X a ta) (hb : PE X b tb) (hs : PlainIx b := by exact fun _ _ => rfl) : PE X (.Subscript a b pos) (tOp (fIx X.K) ta tb) := pe_ix x_seq ha hb hs
end
/-! ### a promise by what is asked and what is given -/
def Pr (pre : List V → Hp → Prop) (post : List V → Hp → V → Hp → Prop) : Sp := fun vs H Q _ => pre vs H ∧ ∀ v H', post vs H v H' → Q v H'

/-! ### built-ins by their names -/
theorem b_len : bootBuiltins "len" = some (.builtin "len") := by decide +kernel
theorem b_abs : bootBuiltins "abs" = some (.builtin "abs") := by decide +kernel
theorem b_max : bootBuiltins "max" = some (.builtin "max") := by decide +kernel
theorem b_min : bootBuiltins "min" = some (.builtin "min") := by decide +kernel
theorem b_repr : bootBuiltins "repr" = some (.builtin "repr") := by decide +kernel
theorem b_isinstance : bootBuiltins "isinstance" = some (.builtin "isinstance") := by decide +kernel
theorem b_all : bootBuiltins "all" = some (.builtin "all") := by decide +kernel
theorem b_any : bootBuiltins "any" = some (.builtin "any") := by decide +kernel
theorem b_sum : bootBuiltins "sum" = some (.builtin "sum") := by decide +kernel
theorem b_sorted : bootBuiltins "sorted" = some (.builtin "sorted") := by decide +kernel
theorem b_int : bootBuiltins "int" = some (.type "int") := by decide +kernel
theorem b_str : bootBuiltins "str" = some (.type "str") := by decide +kernel
theorem b_bool : bootBuiltins "bool" = some (.type "bool") := by decide +kernel
theorem b_tuple : bootBuiltins "tuple" = some (.type "tuple") := by decide +kernel
theorem b_list : bootBuiltins "list" = some (.type "list") := by decide +kernel
theorem b_dict : bootBuiltins "dict" = some (.type "dict") := by decide +kernel
theorem b_set : bootBuiltins "set" = some (.type "set") := by decide +kernel
theorem b_zip : bootBuiltins "zip" = some (.type "zip") := by decide +kernel
theorem b_enumerate : bootBuiltins "enumerate" = some (.type "enumerate") := by decide +kernel
section
variable {X : Cx} {e : Expr} {es : List Expr} {t : TA} {p pos : Pos} {x : Str}
theorem e_ty {T : String} (m : X.mg x = none) (hv : bootBuiltins x = some (.type T)) (hg : Gl X x := by rfl) (hn : x ≠ "__name__" := by decide) (hd : (x == ("__debug__" : Str)) = false := by decide) : PE X (.Name x pos) (tC (.ty T)) := pe_bltn hg m hv rfl hn hd
theorem e_len (m : X.mg "len" = none) (ha : PA X (e :: es) t) (hg : Gl X "len" := by rfl) (he : starEach (e :: es) X.env = (false, eval e X.env) :: starEach es X.env := by rfl) (hpl : (backTo pos (starEach es X.env)).any (·.1) = false := by rfl) : PE X (.Call (.Name "len" p) (e :: es) [] pos) (tCB (fLen X.K) t) := pe_callB c_len hg m b_len ha (he := he) (hpl := hpl)
theorem e_abs (m : X.mg "abs" = none) (ha : PA X (e :: es) t) (hg : Gl X "abs" := by rfl) (he : starEach (e :: es) X.env = (false, eval e X.env) :: starEach es X.env := by rfl) (hpl : (backTo pos (starEach es X.env)).any (·.1) = false := by rfl) : PE X (.Call (.Name "abs" p) (e :: es) [] pos) (tCB fAbs t) := pe_callB c_abs hg m b_abs ha (he := he) (hpl := hpl)
theorem e_max (m : X.mg "max" = none) (ha : PA X (e :: es) t) (hc : X.calm = true := by rfl) (hg : Gl X "max" := by rfl) (he : starEach (e :: es) X.env = (false, eval e X.env) :: starEach es X.env := by rfl) (hpl : (backTo pos (starEach es X.env)).any (·.1) = false := by rfl) : PE X (.Call (.Name "max" p) (e :: es) [] pos) (tCB fMax t) := pe_callB (c_max hc) hg m b_max ha (he := he) (hpl := hpl)
theorem e_min (m : X.mg "min" = none) (ha : PA X (e :: es) t) (hc : X.calm = true := by rfl) (hg : Gl X "min" := by rfl) (he : starEach (e :: es) X.env = (false, eval e X.env) :: starEach es X.env := by rfl) (hpl : (backTo pos (starEach es X.env)).any (·.1) = false := by rfl) : PE X (.Call (.Name "min" p) (e :: es) [] pos) (tCB fMin t) := pe_callB (c_min hc) hg m b_min ha (he := he) (hpl := hpl)
theorem e_int (m : X.mg "int" = none) (ha : PA X (e :: es) t) (hg : Gl X "int" := by rfl) (he : starEach (e :: es) X.env = (false, eval e X.env) :: starEach es X.env := by rfl) (hpl : (backTo pos (starEach es X.env)).any (·.1) = false := by rfl) : PE X (.Call (.Name "int" p) (e :: es) [] pos) (tCB fInt t) := pe_callTy c_int hg m b_int ha (he := he) (hpl := hpl)
/-- repr of scalars -/
def fRepr : List V → Hp → VK → Prop := fun xs H Q => match xs with
  | [.bl k] => Q (.str (if k then "True" else "False")) H
  | [.int i] => i.natAbs.log2 < 1920 ∧ Q (.str (toString i)) H
  | [.non] => Q (.str "None") H
  | _ => False
theorem call_repr_bl : CallR X (.builtin "repr") (fun xs H Q => ∃ b, xs = [.bl b] ∧ Q (.str (if b then "True" else "False")) H) := by
  intro pins s σ H xs us Q I r h
  obtain ⟨b, rfl, q⟩ := h
  obtain ⟨u, rfl, rfl⟩ := vals1 r
  exact PySem.P.repr_of_bool ⟨.str _, H, I.tok _, ⟨_, rfl⟩, q⟩
theorem call_repr_non : CallR X (.builtin "repr") (fun xs H Q => xs = [.non] ∧ Q (.str "None") H) := by
  intro pins s σ H xs us Q I r h
  obtain ⟨rfl, q⟩ := h
  obtain ⟨u, rfl, rfl⟩ := vals1 r
  exact PySem.P.repr_of_none ⟨.str _, H, I.tok _, ⟨_, rfl⟩, q⟩
theorem c_repr : CallR X (.builtin "repr") fRepr := callCases fun xs H Q h => by
  unfold fRepr at h; split at h
  · exact ⟨_, call_repr_bl, _, rfl, h⟩
  · exact ⟨_, SkE.call_repr_int, _, rfl, h.1, h.2⟩
  · exact ⟨_, call_repr_non, rfl, h⟩
  · exact h.elim
theorem e_repr (m : X.mg "repr" = none) (ha : PA X (e :: es) t) (hg : Gl X "repr" := by rfl) (he : starEach (e :: es) X.env = (false, eval e X.env) :: starEach es X.env := by rfl) (hpl : (backTo pos (starEach es X.env)).any (·.1) = false := by rfl) : PE X (.Call (.Name "repr" p) (e :: es) [] pos) (tCB fRepr t) := pe_callB c_repr hg m b_repr ha (he := he) (hpl := hpl)
/-- isinstance(x, a built-in type) -/
def isK (a T : String) : Bool := a == T || (a == "bool" && T == "int")
def kinds : List String := ["NoneType", "bool", "int", "str", "list", "tuple", "dict"]
theorem kinds_ok : (kinds.all fun a => kinds.all fun T => kitB a T == some (isK a T)) = true := by decide +kernel
theorem kit_ok {K : PySem.W.Frag} {a T : String} (ha : kinds.contains a = true) (hT : kinds.contains T = true) : PySem.W.kitOne K (.type a) (.type T) = some (isK a T) := by
  have h := List.all_eq_true.mp kinds_ok a (List.contains_iff_mem.mp ha)
  have h2 := List.all_eq_true.mp h T (List.contains_iff_mem.mp hT)
  exact kit_ty (eq_of_beq h2)
def fIsi (K : PySem.W.Frag) : List V → Hp → VK → Prop := fun xs H Q => match xs with
  | [.non, .ty T] => kinds.contains T = true ∧ Q (.bl (isK "NoneType" T)) H
  | [.bl _, .ty T] => kinds.contains T = true ∧ Q (.bl (isK "bool" T)) H
  | [.int _, .ty T] => kinds.contains T = true ∧ Q (.bl (isK "int" T)) H
  | [.str _, .ty T] => kinds.contains T = true ∧ Q (.bl (isK "str" T)) H
  | [.ref p, .ty T] => ∃ a, kinds.contains a = true ∧ kinds.contains T = true ∧ TyX K H (.ref p) (.type a) ∧ Q (.bl (isK a T)) H
  | _ => False
theorem c_isi : CallR X (.builtin "isinstance") (fIsi X.K) := callImp call_isi fun xs H Q h => by
  unfold fIsi at h; split at h
  · exact ⟨_, _, _, _, _, rfl, .ty _, .base .non, kit_ok (by decide) h.1, h.2⟩
  · exact ⟨_, _, _, _, _, rfl, .ty _, .base (.bl _), kit_ok (by decide) h.1, h.2⟩
  · exact ⟨_, _, _, _, _, rfl, .ty _, .base (.int _), kit_ok (by decide) h.1, h.2⟩
  · exact ⟨_, _, _, _, _, rfl, .ty _, .base (.str _), kit_ok (by decide) h.1, h.2⟩
  · obtain ⟨a, h1, h2, h3, h4⟩ := h
    exact ⟨_, _, _, _, _, rfl, .ty _, h3, kit_ok h1 h2, h4⟩
  · exact h.elim
theorem e_isinstance (m : X.mg "isinstance" = none) (ha : PA X (e :: es) t) (hg : Gl X "isinstance" := by rfl) (he : starEach (e :: es) X.env = (false, eval e X.env) :: starEach es X.env := by rfl) (hpl : (backTo pos (starEach es X.env)).any (·.1) = false := by rfl) : PE X (.Call (.Name "isinstance" p) (e :: es) [] pos) (tCB (fIsi X.K) t) := pe_callB c_isi hg m b_isinstance ha (he := he) (hpl := hpl)
theorem e_all (m : X.mg "all" = none) (ha : PA X (e :: es) t) (hc : X.calm = true := by rfl) (hg : Gl X "all" := by rfl) (he : starEach (e :: es) X.env = (false, eval e X.env) :: starEach es X.env := by rfl) (hpl : (backTo pos (starEach es X.env)).any (·.1) = false := by rfl) : PE X (.Call (.Name "all" p) (e :: es) [] pos) (tCB (rAll X.K) t) := pe_callB (cr_all hc) hg m b_all ha (he := he) (hpl := hpl)
/-- in, not in: a text in a text, a flat value in a list or tuple of flat ones -/
def fIn (K : PySem.W.Frag) : R2 := fun x y H Q => match x, y with
  | .str i, .str j => Q (.bl (!(Builtin.Str.occurrences j i 0 j.length 1).isEmpty)) H
  | x, .ref p => ∃ xs, (SqL K H p xs ∨ SqT K H p xs) ∧ flatV x = true ∧ xs.all flatV = true ∧ Q (.bl (inV x xs)) H
  | _, _ => False
theorem o_in : OpR X (compareOp .In) (fIn X.K) := opCases fun x y H Q h => by
  unfold fIn at h; split at h
  · exact ⟨_, op_in_str, _, _, rfl, rfl, h⟩
  · obtain ⟨xs, h1, h2, h3, h4⟩ := h
    exact ⟨_, op_in_seq, _, xs, rfl, h1, h2, h3, h4⟩
  · exact h.elim
def fNIn (K : PySem.W.Frag) : R2 := fun x y H Q => match x, y with
  | .str i, .str j => Q (.bl (!(!(Builtin.Str.occurrences j i 0 j.length 1).isEmpty))) H
  | x, .ref p => ∃ xs, (SqL K H p xs ∨ SqT K H p xs) ∧ flatV x = true ∧ xs.all flatV = true ∧ Q (.bl (!inV x xs)) H
  | _, _ => False
theorem o_nin : OpR X (compareOp .NotIn) (fNIn X.K) := opCases fun x y H Q h => by
  unfold fNIn at h; split at h
  · exact ⟨_, op_notin_str, _, _, rfl, rfl, h⟩
  · obtain ⟨xs, h1, h2, h3, h4⟩ := h
    exact ⟨_, op_notIn_seq, _, xs, rfl, h1, h2, h3, h4⟩
  · exact h.elim
def fSl (K : PySem.W.Frag) : V → Option Int → Option Int → Hp → VK → Prop := fun x lo hi H Q => match x with
  | .str z => z.length ≤ sizeLine ∧ Q (.str (cutS z lo hi)) H
  | .ref p => rSlL K (.ref p) lo hi H Q ∨ rSlT K (.ref p) lo hi H Q
  | _ => False
theorem slCases {r : V → Option Int → Option Int → Hp → VK → Prop} (h : ∀ x lo hi H Q, r x lo hi H Q → ∃ r' : V → Option Int → Option Int → Hp → VK → Prop, SlR X r' ∧ r' x lo hi H Q) : SlR X r := by
  intro pins s σ H x v vl vu lo hi sl Q I rx hs pl pu q
  obtain ⟨r', o, q'⟩ := h x lo hi H Q q
  exact o pins s σ H x v vl vu lo hi sl Q I rx hs pl pu q'
theorem sl_any : SlR X (fSl X.K) := slCases fun x lo hi H Q h => by
  unfold fSl at h; split at h
  · exact ⟨_, sl_str, _, rfl, h.1, h.2⟩
  · rcases h with h | h
    · exact ⟨_, sl_list, h⟩
    · exact ⟨_, sl_tup, h⟩
  · exact h.elim
def fPart (t : TE) : TO := fun σ H Q => t σ H fun x H1 => match x with
  | .int i => Q (some i) H1
  | _ => False
theorem fPart_eq : fPart = tPart := by
  funext t σ H Q
  show t σ H _ = t σ H _
  congr 1
  funext x H'
  cases x <;> simp
theorem posome {te : TE} {e : Expr} (h : PE X e te) : PO X (some e) (fPart te) := by rw [fPart_eq]; exact po_some h
end
/-! ### the defs of a text -/
/-- the def st stands under the name x -/
structure HasDef (K : PySem.W.Frag) (x : Str) (st : Stmt) : Prop where
  ex : ∃ f fd, Fun K x x st f fd ∧ PySem.W.nsIn K mainGlobals x = some (some (.ref f))
theorem has_mk {K : PySem.W.Frag} {x : Str} {st : Stmt} {f : Addr} {oc : Value} {od an : Option Addr} {osl : Array (Option Value)} {kV doc pm cdv ct : Value} (a : PySem.W.nsIn K mainGlobals x = some (some (.ref f)))
    (l : K.lookup f = some ⟨oc, od, .func (PySem.W.fnOf x x (defArgs st) (defBody st) (defScope st) .none kV doc pm an cdv ct), osl⟩) (c : PySem.W.codeIn K cdv x = true) (k : PySem.W.keepIn K (.ref f) = true) : HasDef K x st := ⟨_, _, fun_mk l c k, a⟩
/-- what the module's names hold -/
structure MgOf (K : PySem.W.Frag) (mg : Str → Option Value) : Prop where
  of : ∀ x v, PySem.W.nsIn K mainGlobals x = some v → mg x = v
theorem MgOf.mk' {K : PySem.W.Frag} {h : Heap} {mg : Str → Option Value} (X : K.In h) (G : h.Ns mainGlobals mg) : MgOf K mg := ⟨fun x v e => by
  cases v with
  | none => exact PySem.W.mg_none_of X G e
  | some v => exact PySem.W.mg_of X G e⟩
/-- a def that keeps its promise -/
structure Known (P : Program) (w : World) (K : PySem.W.Frag) (mg : Str → Option Value) (base : Heap) (CX : CXT) (x : Str) (k : Nat) (ps : List Str) (sp : Sp) : Prop where
  ex : ∃ f fd, FnOk P w K mg base CX k f fd ps sp ∧ mg x = some (.ref f) ∧ PySem.W.keepIn K (.ref f) = true ∧ Binds K fd ps []
theorem Known.imp {P : Program} {w : World} {K : PySem.W.Frag} {mg : Str → Option Value} {base : Heap} {CX : CXT} {x : Str} {k : Nat} {ps : List Str} {sp sp' : Sp} (D : Known P w K mg base CX x k ps sp) (h : ∀ vs H Q E, sp' vs H Q E → sp vs H Q E) : Known P w K mg base CX x k ps sp' := by
  obtain ⟨f, fd, F, r⟩ := D.ex
  exact ⟨f, fd, F.imp h, r⟩
theorem Known.of {P : Program} {w : World} {K : PySem.W.Frag} {mg : Str → Option Value} {base : Heap} {x : Str} {st : Stmt} {N ps : List Str} {k : Nat} {sp : Sp} (F : HasDef K x st) (M : MgOf K mg) (S : FnScope N ps (defScope st))
    (hb : ∀ (kV doc pm : Value) (an : Option Addr) (cdv ct : Value) (us : List Value), us.length = ps.length → bindArgs (PySem.W.fnOf x x (defArgs st) (defBody st) (defScope st) .none kV doc pm an cdv ct) ⟨us, []⟩ = pure (ps.zip us))
    (len : ∀ vs H Q E, sp vs H Q E → vs.length = ps.length)
    (hbody : ∀ (f : Addr) (cdv : Value) (A : Around) (outer : List Env) (s : Shared) (H : Hp) (vs : List V) (Q : VK) (E : XK), Room k (A.deeper (envOfC x (defScope st) s.heap.objs.size f cdv)) → sp vs H Q E →
      ∃ t, PSs (cxOf CX0 P w K mg base N x (defScope st) f cdv A outer s H E).nox (defBody st) t ∧ t { nx := fun _ H' => Q .non H', rt := Q } (start N vs) H) : Known P w K mg base CX0 x (k + 1) ps sp := by
  obtain ⟨f, fd, F, e⟩ := F.ex
  exact ⟨f, fd, F.ok S len (hbody f), M.of _ _ e, F.kp, F.binds hb⟩
section
variable {X : Cx} {CX : CXT} {k : Nat} {ps : List Str} {sp : Sp} {E : XK} {x : Str} {p pos : Pos} {e : Expr} {es : List Expr} {t : TA}
def fCall (sp : Sp) (E : XK) (t : TA) : TE := fun σ H Q => t σ H fun vs H1 => sp vs H1 Q E
theorem callX (D : Known X.prog X.w X.K X.mg X.base CX x k ps sp) (hr : Room k X.A) (hx : Passes CX X E) (ha : PA X (e :: es) t) (hg : Gl X x := by rfl) (hdb : (x == ("__debug__" : Str)) = false := by decide)
    (he : starEach (e :: es) X.env = (false, eval e X.env) :: starEach es X.env := by rfl) (hpl : (backTo pos (starEach es X.env)).any (·.1) = false := by rfl) : PE X (.Call (.Name x p) (e :: es) [] pos) (fCall sp E t) := by
  obtain ⟨f, fd, F, m, kp, b⟩ := D.ex
  have h : tCall sp [] E t = fCall sp E t := by
    funext σ H Q
    show t σ H (fun vs H1 => sp (vs ++ []) H1 Q E) = _
    simp only [List.append_nil]
    rfl
  rw [← h]
  exact pe_call F hr hg m kp b .nil hx ha hdb he hpl
theorem call (D : Known X.prog X.w X.K X.mg X.base CX0 x k ps sp) (hr : Room k X.A) (ha : PA X (e :: es) t) (hg : Gl X x := by rfl) (hdb : (x == ("__debug__" : Str)) = false := by decide)
    (he : starEach (e :: es) X.env = (false, eval e X.env) :: starEach es X.env := by rfl) (hpl : (backTo pos (starEach es X.env)).any (·.1) = false := by rfl) : PE X (.Call (.Name x p) (e :: es) [] pos) (fCall sp E0 t) := callX D hr pass0 ha hg hdb he hpl
end
/-! ### walks and comprehensions over a text -/
theorem lc_str {x : Str} {g : TG} {tt : TT} {te : TE} {vs : List Nat} {σ : L2.St} {H1 : Hp} {D : Addr} {Qd : Hp → Prop} (Pv : Nat → Hp → Prop) (h0 : Pv 0 (upd H1 D (.lst [])))
    (hs : ∀ i c H, x.cps.toList[i]? = some c → Pv i H → g (.str ⟨#[c]⟩) (wipe σ vs) H fun σ2 H2 => wipe σ2 vs = wipe σ vs ∧ tt σ2 H2 fun b H3 =>
      if b = true then te σ2 H3 fun y H4 => ∃ acc, H4 D = some (.lst acc) ∧ acc.length < sizeLine ∧ Pv (i + 1) (upd H4 D (.lst (acc ++ [y]))) else Pv (i + 1) H3) (hd : ∀ H, Pv x.cps.toList.length H → Qd H) :
    ∃ W : Nat → Nat → Hp → Prop, (∃ m, W 0 m (upd H1 D (.lst []))) ∧ ∀ i m H, W i m H →
      ((Its x).stop i H ∧ Qd H) ∨ ((Its x).go i H ∧ ∃ Nx : Hp → Prop, (∀ H', Nx H' → ∃ m', m' < m ∧ W (i + 1) m' H') ∧ ∀ x' H', (Its x).yld i H x' H' → g x' (wipe σ vs) H' fun σ2 H2 => wipe σ2 vs = wipe σ vs ∧ tt σ2 H2 fun b H3 =>
        if b = true then te σ2 H3 fun y H4 => ∃ acc, H4 D = some (.lst acc) ∧ acc.length < sizeLine ∧ Nx (upd H4 D (.lst (acc ++ [y]))) else Nx H3) := by
  have hsz : x.cps.toList.length = x.cps.size := Array.length_toList
  refine ⟨fun i m H => m = x.cps.toList.length - i ∧ i ≤ x.cps.toList.length ∧ Pv i H, ⟨x.cps.toList.length, by simp, Nat.zero_le _, h0⟩, ?_⟩
  rintro i m H ⟨rfl, hi, p⟩
  by_cases hlt : i < x.cps.toList.length
  · refine .inr ⟨by show i < x.cps.size; omega, Pv (i + 1), fun H' p' => ⟨x.cps.toList.length - (i + 1), by omega, rfl, hlt, p'⟩, fun x' H' y => ?_⟩
    obtain ⟨e, c, hc, y⟩ := y
    subst e y
    exact hs i c _ (by rw [Array.getElem?_toList]; exact hc) p
  · have e : i = x.cps.toList.length := by omega
    subst e
    exact .inl ⟨by show x.cps.size ≤ _; omega, hd H p⟩
/-! ### constants of a module -/
section
variable {X : Cx} {pos : Pos} {x : Str}
theorem e_gs {z : Str} (h : ∃ t, X.mg x = some (.str z t)) (hg : Gl X x := by rfl) (hd : (x == ("__debug__" : Str)) = false := by decide) : PE X (.Name x pos) (tC (.str z)) := let ⟨_, e⟩ := h; pe_glob hg e ⟨_, rfl⟩ hd
theorem e_gi {z : Int} (h : ∃ t, X.mg x = some (.int z t)) (hg : Gl X x := by rfl) (hd : (x == ("__debug__" : Str)) = false := by decide) : PE X (.Name x pos) (tC (.int z)) := let ⟨_, e⟩ := h; pe_glob hg e ⟨_, rfl⟩ hd
end
theorem ifT {c A B : Prop} [Decidable c] (h : c) (a : A) : if c then A else B := by rw [if_pos h]; exact a
theorem ifF {c A B : Prop} [Decidable c] (h : ¬ c) (b : B) : if c then A else B := by rw [if_neg h]; exact b
/-! ### data: lists of texts, ints, bools -/
theorem dp_strs {K : PySem.W.Frag} {H : Hp} : ∀ zs : List Str, DpAll K H (zs.map V.str) (zs.map PyData.str)
  | [] => .nil
  | z :: zs => .cons (.str z) (dp_strs zs)
theorem dp_ints {K : PySem.W.Frag} {H : Hp} : ∀ zs : List Int, DpAll K H (zs.map V.int) (zs.map PyData.int)
  | [] => .nil
  | z :: zs => .cons (.int z) (dp_ints zs)
theorem dp_bls {K : PySem.W.Frag} {H : Hp} : ∀ zs : List Bool, DpAll K H (zs.map V.bl) (zs.map PyData.bool)
  | [] => .nil
  | z :: zs => .cons (.bl z) (dp_bls zs)
/-- data at most so deep, with signs that are signs -/
def flatD : PyData → Bool
  | .none | .bool _ | .int _ => true
  | .str x => PyData.strOk x
  | _ => false
theorem can_flat : ∀ {ds : List PyData}, ds.all flatD = true → PyData.canLayAll0 ds = true
  | [], _ => rfl
  | d :: ds, h => by
    rw [List.all_cons, Bool.and_eq_true] at h
    unfold PyData.canLayAll0
    rw [can_flat h.2, Bool.and_true]
    cases d <;> first | rfl | exact h.1 | exact absurd h.1 (by simp [flatD])
theorem depth_flat : ∀ {ds : List PyData}, ds.all flatD = true → PyData.depthAll ds = 0
  | [], _ => rfl
  | d :: ds, h => by
    rw [List.all_cons, Bool.and_eq_true] at h
    unfold PyData.depthAll
    rw [depth_flat h.2]
    cases d <;> first | rfl | exact absurd h.1 (by simp [flatD])
theorem shaped_list {ds : List PyData} (h : ds.all flatD = true) : SeqAt.shaped (.list ds) = true := by
  unfold SeqAt.shaped
  rw [show PyData.canLay0 (.list ds) = PyData.canLayAll0 ds from by unfold PyData.canLay0; rfl, can_flat h, Bool.true_and]
  refine decide_eq_true ?_
  show PyData.depthAll ds + 1 ≤ 64
  rw [depth_flat h]
  omega
theorem shaped_tuple {ds : List PyData} (h : ds.all flatD = true) : SeqAt.shaped (.tuple ds) = true := by
  unfold SeqAt.shaped
  rw [show PyData.canLay0 (.tuple ds) = PyData.canLayAll0 ds from by unfold PyData.canLay0; rfl, can_flat h, Bool.true_and]
  refine decide_eq_true ?_
  show PyData.depthAll ds + 1 ≤ 64
  rw [depth_flat h]
  omega
theorem eqv_nil (ds : List PyData) : PyData.eqv (.list ds) (.list []) = ds.isEmpty := by
  unfold PyData.eqv
  cases ds <;> rfl
/-! ### one step of a reading -/
theorem s_sq {t1 t2 : TS} {D : Ends} {σ : L2.St} {H : Hp} (h : t1 { D with nx := t2 D } σ H) : tSeq t1 t2 D σ H := h
theorem s_as {te : TE} {g : TG} {D : Ends} {σ : L2.St} {H : Hp} (h : te σ H fun x H1 => g x σ H1 D.nx) : tAsg te g D σ H := h
theorem s_rt {te : TE} {D : Ends} {σ : L2.St} {H : Hp} (h : te σ H D.rt) : tRet te D σ H := h
theorem s_dr {te : TE} {D : Ends} {σ : L2.St} {H : Hp} (h : te σ H fun _ H1 => D.nx σ H1) : tDrop te D σ H := h
theorem s_if {c : TT} {t u : TS} {D : Ends} {σ : L2.St} {H : Hp} (h : c σ H fun b H1 => if b = true then t D σ H1 else u D σ H1) : tIfS c t u D σ H := h
theorem s_op {r : R2} {ta tb : TE} {σ : L2.St} {H : Hp} {Q : VK} (h : ta σ H fun x H1 => tb σ H1 fun y H2 => r x y H2 Q) : tOp r ta tb σ H Q := h
theorem s_va {i : Nat} {v : V} {σ : L2.St} {H : Hp} {Q : VK} (e : σ[i]? = some (some v)) (h : Q v H) : fVar i σ H Q := by unfold fVar; rw [e]; exact h
theorem s_cs {ta : TE} {tr : TA} {σ : L2.St} {H : Hp} {Q : List V → Hp → Prop} (h : ta σ H fun x H1 => tr σ H1 fun xs H2 => Q (x :: xs) H2) : tCons ta tr σ H Q := h
theorem s_te {t : TE} {σ : L2.St} {H : Hp} {Q : Bool → Hp → Prop} (h : t σ H fun x H' => match x with | .bl k => Q k H' | _ => False) : fTest t σ H Q := h
theorem s_cb {r : List V → Hp → VK → Prop} {t : TA} {σ : L2.St} {H : Hp} {Q : VK} (h : t σ H fun vs H1 => r vs H1 Q) : tCB r t σ H Q := h
theorem s_ca {sp : Sp} {E : XK} {t : TA} {σ : L2.St} {H : Hp} {Q : VK} (h : t σ H fun vs H1 => sp vs H1 Q E) : fCall sp E t σ H Q := h
theorem s_st {te : TE} {i : Nat} {D : Ends} {σ : L2.St} {H : Hp} (h : te σ H fun x H1 => D.nx (σ.set i (some x)) H1) : tAsg te (gName i) D σ H := h
theorem q_st {te : TE} {i : Nat} {u : TS} {D : Ends} {σ : L2.St} {H : Hp} (h : te σ H fun x H1 => u D (σ.set i (some x)) H1) : tSeq (tAsg te (gName i)) u D σ H := h
theorem q_as {te : TE} {g : TG} {u : TS} {D : Ends} {σ : L2.St} {H : Hp} (h : te σ H fun x H1 => g x σ H1 (u D)) : tSeq (tAsg te g) u D σ H := h
theorem q_dr {te : TE} {u : TS} {D : Ends} {σ : L2.St} {H : Hp} (h : te σ H fun _ H1 => u D σ H1) : tSeq (tDrop te) u D σ H := h
theorem q_if {c : TT} {t u v : TS} {D : Ends} {σ : L2.St} {H : Hp} (h : c σ H fun b H1 => if b = true then t { D with nx := v D } σ H1 else u { D with nx := v D } σ H1) : tSeq (tIfS c t u) v D σ H := h
/-- an if without else whose body returns -/
theorem q_ifr {c : TT} {te : TE} {v : TS} {D : Ends} {σ : L2.St} {H : Hp} (h : c σ H fun b H1 => if b = true then te σ H1 D.rt else v D σ H1) : tSeq (tIfS c (tRet te) tNext) v D σ H := h
theorem q_pa {i j : Nat} {ta tb : TE} {u : TS} {D : Ends} {σ : L2.St} {H : Hp} (h : ta σ H fun x H1 => tb σ H1 fun y H2 => u D ((σ.set i (some x)).set j (some y)) H2) : tSeq (tPar i j (tCons ta (tCons tb tNil))) u D σ H := by
  show ta σ H _
  have e : (fun x H1 => tb σ H1 fun y H2 => u D ((σ.set i (some x)).set j (some y)) H2) = (fun x H1 => tb σ H1 fun y H2 => ∃ v w, [x, y] = [v, w] ∧ u D ((σ.set i (some v)).set j (some w)) H2) := by
    funext x H1
    congr 1
    funext y H2
    exact propext ⟨fun q => ⟨_, _, rfl, q⟩, fun ⟨v, w, e, q⟩ => by cases e; exact q⟩
  rw [e] at h
  exact h
/-! ### the end of a law's row -/
theorem ok_of {P : Program} {w : World} {K : PySem.W.Frag} {mg : Str → Option Value} {base : Heap} {x : Str} {st : Stmt} {N ps : List Str} {k : Nat} {sp : Sp} {f : Addr} {fd : FuncData} (F : Fun K x x st f fd) (S : FnScope N ps (defScope st))
    (len : ∀ vs H Q E, sp vs H Q E → vs.length = ps.length)
    (hbody : ∀ (f : Addr) (cdv : Value) (A : Around) (outer : List Env) (s : Shared) (H : Hp) (vs : List V) (Q : VK) (E : XK), Room k (A.deeper (envOfC x (defScope st) s.heap.objs.size f cdv)) → sp vs H Q E →
      ∃ t, PSs (cxOf CX0 P w K mg base N x (defScope st) f cdv A outer s H E).nox (defBody st) t ∧ t { nx := fun _ H' => Q .non H', rt := Q } (start N vs) H) : FnOk P w K mg base CX0 (k + 1) f fd ps sp := F.ok S len (hbody f)
theorem walk_law {l : PySem.W.OpenLaw} {n k : Nat} {q : Program} {loose : List Str} {XP : (Str → Option Value) → Heap → Prop} {YP : World → Heap → Prop} {d : DefRec} {K : Params → PySem.W.Frag} {x : Str} {st : Stmt} {sp : PySem.W.Frag → Sp}
    (hn : l.most = some n) (hn2 : n ≤ sizeLine) (hdf : d.params.defaults = []) (hr : Room k callerA) (hnm : d.name = "law") (hY : ∀ (w : World) (h : Heap), YP w h → (K w.params).In h)
    (hb : ∀ (kV doc pm : Value) (an : Option Addr) (cdv ct : Value) (us : List Value), us.length = ([x] : List Str).length → bindArgs (PySem.W.fnOf "law" "law" (defArgs st) (defBody st) (defScope st) .none kV doc pm an cdv ct) ⟨us, []⟩ = pure (([x] : List Str).zip us))
    (F : ∀ (w : World) (mg : Str → Option Value) (h : Heap), (K w.params).In h → h.Ns mainGlobals mg → HasDef (K w.params) "law" st ∧ ∀ (f : Addr) (fd : FuncData) (base : Heap), (K w.params).In base → base.Ns mainGlobals mg → Fun (K w.params) "law" "law" st f fd → FnOk l.prog w (K w.params) mg base CX0 k f fd [x] (sp (K w.params)))
    (hsp : ∀ (K : PySem.W.Frag) (H : Hp) (a : Addr) (ns : List Int), ns.length ≤ n → Only H → SqL K H a (ns.map V.int) → sp K [.ref a] H (fun v _ => v = .bl true) fun _ _ _ => False) :
    PySem.W.WalkO q loose XP YP l.row.toRowW d [] (fun f vs => PySem.call f vs) := by
  refine L2.walk_of (n := n) (k := k) (x := x) (CX := fun _ => CX0) (sp := fun w => sp (K w.params)) hn hn2 hdf hr hY (fun w mg fa h X G hfa => ?_) (fun w H a ns h1 h2 h3 => hsp _ H a ns h1 h2 h3) fun _ _ _ _ _ z => z
  obtain ⟨D, G2⟩ := F w mg h X G
  obtain ⟨f, fd, Fn, e⟩ := D.ex
  have e1 := PySem.W.mg_of X G e
  rw [hnm, e1] at hfa
  cases hfa
  obtain ⟨oc, od, kV, doc, pm, an, cdv, ct, osl, e2, _⟩ := Fn.ex
  refine ⟨fd, fun s v => ?_, fun base X' G' => G2 _ _ base X' G' Fn⟩
  rw [e2]
  exact .of_eq (hb kV doc pm an cdv ct [v] rfl)
theorem cst_str {K : PySem.W.Frag} {x z : Str} {t : Tok} (a : PySem.W.nsIn K mainGlobals x = some (some (.str z t))) : ∃ t, PySem.W.nsIn K mainGlobals x = some (some (.str z t)) := ⟨t, a⟩
theorem cst_int {K : PySem.W.Frag} {x : Str} {z : Int} {t : Tok} (a : PySem.W.nsIn K mainGlobals x = some (some (.int z t))) : ∃ t, PySem.W.nsIn K mainGlobals x = some (some (.int z t)) := ⟨t, a⟩
end U
set_option Elab.async false
set_option linter.all false
set_option maxRecDepth 100000
set_option maxHeartbeats 2000000
/-! Classes of the text, data that stands still. -/
namespace U
open PySem PySem.Spec PyProof.Rows L2
/-! ### what is never changed again may be locked for good -/
def fFrz (t : TE) : TE := fun σ H Q => t σ H fun v H1 => match v with
  | .ref p => (∃ u, H1 p = some u ∧ Mut (some u) ∧ ∀ od, Q (.ref p) (upd H1 p (.frz od u))) ∨ Q (.ref p) H1
  | v => Q v H1
section
variable {X : Cx} {e : Expr} {t : TE}
theorem frz (h : PE X e t) : PE X e (fFrz t) := by
  refine ⟨fun pins s σ H Q I q => ?_⟩
  refine thn (h.run pins s σ H _ I q) fun u s1 ⟨v, H1, I1, r, q1⟩ => ?_
  cases v with
  | ref p =>
    rcases q1 with ⟨u', hp, mu, q1⟩ | q1
    · obtain ⟨od, I2⟩ := I1.lock hp mu
      exact ⟨_, _, I2, r, q1 od⟩
    · exact ⟨_, _, I1, r, q1⟩
  | _ => exact ⟨_, _, I1, r, q1⟩
end
/-- an object that stands still: a tuple, what is locked -/
def Stb : HO → Prop
  | .tup _ => True
  | .frz _ _ => True
  | .ins _ _ _ => True
  | _ => False
/-- what stands still stands -/
def Stab (H H' : Hp) : Prop := ∀ b o, Stb o → H b = some o → H' b = some o
theorem Stab.refl (H : Hp) : Stab H H := fun _ _ _ h => h
theorem Stab.trans {H H1 H2 : Hp} (a : Stab H H1) (b : Stab H1 H2) : Stab H H2 := fun c o n h => b c o n (a c o n h)
theorem Stab.new {H : Hp} {p : Addr} {o : HO} (h : H p = none) : Stab H (upd H p o) := fun b u _ e => by rw [upd_ne (ne_of_none e h)]; exact e
theorem Stab.mut {H : Hp} {p : Addr} {o u : HO} (h : H p = some u) (hu : ¬ Stb u) : Stab H (upd H p o) := fun b v sv e => by
  rw [upd_ne (fun z => hu (by rw [z, h] at e; cases e; exact sv))]; exact e
theorem _root_.L2.Same.stab {H H' : Hp} (s : Same H H') : Stab H H' := fun b o _ h => s b o h
theorem Stab.seqT {K : PySem.W.Frag} {H H' : Hp} {a : Addr} {xs : List V} (s : Stab H H') (h : SqT K H a xs) : SqT K H' a xs := by
  rcases h with (h | ⟨o, h⟩) | h
  · exact .inl (.inl (s _ _ trivial h))
  · exact .inl (.inr ⟨o, s _ _ trivial h⟩)
  · exact .inr h
/-- a list that stands still -/
def Lk (H : Hp) (a : Addr) (xs : List V) : Prop := ∃ o, H a = some (.frz o (.lst xs))
theorem Lk.seq {K : PySem.W.Frag} {H : Hp} {a : Addr} {xs : List V} (h : Lk H a xs) : SqL K H a xs := .inl (.inr h)
theorem Stab.lk {H H' : Hp} {a : Addr} {xs : List V} (s : Stab H H') (h : Lk H a xs) : Lk H' a xs := let ⟨o, h⟩ := h; ⟨o, s _ _ trivial h⟩
/-! ### data that stands still -/
mutual
inductive Rp (K : PySem.W.Frag) (H : Hp) : V → PyData → Prop
  | non : Rp K H .non .none
  | bl (b : Bool) : Rp K H (.bl b) (.bool b)
  | int (i : Int) : Rp K H (.int i) (.int i)
  | str (x : Str) : Rp K H (.str x) (.str x)
  | lst {a : Addr} {xs : List V} {ds : List PyData} : Lk H a xs → RpAll K H xs ds → Rp K H (.ref a) (.list ds)
  | tup {a : Addr} {xs : List V} {ds : List PyData} : SqT K H a xs → RpAll K H xs ds → Rp K H (.ref a) (.tuple ds)
inductive RpAll (K : PySem.W.Frag) (H : Hp) : List V → List PyData → Prop
  | nil : RpAll K H [] []
  | cons {v : V} {vs : List V} {d : PyData} {ds : List PyData} : Rp K H v d → RpAll K H vs ds → RpAll K H (v :: vs) (d :: ds)
end
section
variable {K : PySem.W.Frag} {H H' : Hp}
mutual
theorem Rp.mono (s : Stab H H') : ∀ {v : V} {d : PyData}, Rp K H v d → Rp K H' v d
  | _, _, .non => .non
  | _, _, .bl b => .bl b
  | _, _, .int i => .int i
  | _, _, .str x => .str x
  | _, _, .lst h k => .lst (s.lk h) (RpAll.mono s k)
  | _, _, .tup h k => .tup (s.seqT h) (RpAll.mono s k)
theorem RpAll.mono (s : Stab H H') : ∀ {vs : List V} {ds : List PyData}, RpAll K H vs ds → RpAll K H' vs ds
  | _, _, .nil => .nil
  | _, _, .cons h k => .cons (Rp.mono s h) (RpAll.mono s k)
end
mutual
theorem Rp.dp : ∀ {v : V} {d : PyData}, Rp K H v d → Dp K H v d
  | _, _, .non => .non
  | _, _, .bl b => .bl b
  | _, _, .int i => .int i
  | _, _, .str x => .str x
  | _, _, .lst h k => .lst h.seq (RpAll.dp k)
  | _, _, .tup h k => .tup h (RpAll.dp k)
theorem RpAll.dp : ∀ {vs : List V} {ds : List PyData}, RpAll K H vs ds → DpAll K H vs ds
  | _, _, .nil => .nil
  | _, _, .cons h k => .cons (Rp.dp h) (RpAll.dp k)
end
theorem RpAll.length : ∀ {vs : List V} {ds : List PyData}, RpAll K H vs ds → vs.length = ds.length
  | _, _, .nil => rfl
  | _, _, .cons _ k => by rw [List.length_cons, List.length_cons, k.length]
theorem RpAll.get : ∀ {vs : List V} {ds : List PyData} {i : Nat} {v : V}, RpAll K H vs ds → vs[i]? = some v → ∃ d, ds[i]? = some d ∧ Rp K H v d
  | _, _, 0, _, .cons h _, e => by cases e; exact ⟨_, rfl, h⟩
  | _, _, i + 1, _, .cons _ k, e => RpAll.get (i := i) k e
  | _, _, _, _, .nil, e => by simp at e
theorem RpAll.get' : ∀ {vs : List V} {ds : List PyData} {i : Nat} {d : PyData}, RpAll K H vs ds → ds[i]? = some d → ∃ v, vs[i]? = some v ∧ Rp K H v d
  | _, _, 0, _, .cons h _, e => by cases e; exact ⟨_, rfl, h⟩
  | _, _, i + 1, _, .cons _ k, e => RpAll.get' (i := i) k e
  | _, _, _, _, .nil, e => by simp at e
theorem RpAll.append : ∀ {vs ws : List V} {ds es : List PyData}, RpAll K H vs ds → RpAll K H ws es → RpAll K H (vs ++ ws) (ds ++ es)
  | _, _, _, _, .nil, k => k
  | _, _, _, _, .cons h t, k => .cons h (RpAll.append t k)
theorem RpAll.one {v : V} {d : PyData} (h : Rp K H v d) : RpAll K H [v] [d] := .cons h .nil
theorem RpAll.ints : ∀ {vs : List V} {ns : List Int}, RpAll K H vs (ns.map PyData.int) → vs = ns.map V.int
  | _, [], .nil => rfl
  | _, n :: ns, .cons h k => by cases h; rw [RpAll.ints k]; rfl
theorem rp_ints : ∀ ns : List Int, RpAll K H (ns.map V.int) (ns.map PyData.int)
  | [] => .nil
  | n :: ns => .cons (.int n) (rp_ints ns)
theorem rp_list {v : V} {ds : List PyData} (h : Rp K H v (.list ds)) : ∃ a xs, v = .ref a ∧ Lk H a xs ∧ RpAll K H xs ds := by
  cases h with
  | lst h k => exact ⟨_, _, rfl, h, k⟩
theorem rp_tup {v : V} {ds : List PyData} (h : Rp K H v (.tuple ds)) : ∃ a xs, v = .ref a ∧ SqT K H a xs ∧ RpAll K H xs ds := by
  cases h with
  | tup h k => exact ⟨_, _, rfl, h, k⟩
theorem rp_pair {v : V} {i j : Int} (h : Rp K H v (.tuple [.int i, .int j])) : ∃ a, v = .ref a ∧ SqT K H a [.int i, .int j] := by
  obtain ⟨a, xs, rfl, h1, h2⟩ := rp_tup h
  cases h2 with
  | cons p q =>
    cases q with
    | cons p' q' =>
      cases q'
      cases p
      cases p'
      exact ⟨a, rfl, h1⟩
end
/-! ### a class of the text -/
structure HasCls (K : PySem.W.Frag) (x : Str) (C : Addr) : Prop where
  at_ : PySem.W.nsIn K mainGlobals x = some (some (.ref C))
  cl : Cls K C
  mks : PySem.W.makesIn K C = true
  kc : PySem.W.keepIn K (.ref C) = true
  ha : PySem.W.findIn K (.ref C) "__class__" = some (some (.builtin "object.__class__"))
  hn : PySem.W.specialIn K (.builtin "object.__class__") "__get__" = some (some (.builtin "getset_descriptor.__get__"))
  tk : PySem.W.takesIn K (.builtin "object.__class__") = some true
  hm : PySem.W.mroIn K C (.type "object") = some true
  self : PySem.W.kitOne K (.ref C) (.ref C) = some true
theorem HasCls.mk' {K : PySem.W.Frag} {x : Str} {C : Addr} (a : PySem.W.nsIn K mainGlobals x = some (some (.ref C))) (pg : PySem.W.plainGet K C Str.empty = true) (hd : PySem.W.hasDictIn K C = true) (po : PySem.W.plainOver K C = true)
    (sa : PySem.W.findIn K (.ref C) "__setattr__" = some (some (.builtin "object.__setattr__"))) (mk : PySem.W.makesIn K C = true) (kc : PySem.W.keepIn K (.ref C) = true) (ha : PySem.W.findIn K (.ref C) "__class__" = some (some (.builtin "object.__class__")))
    (hn : PySem.W.specialIn K (.builtin "object.__class__") "__get__" = some (some (.builtin "getset_descriptor.__get__"))) (tk : PySem.W.takesIn K (.builtin "object.__class__") = some true) (hm : PySem.W.mroIn K C (.type "object") = some true) : HasCls K x C := ⟨a, ⟨pg, hd, po, sa⟩, mk, kc, ha, hn, tk, hm, by unfold PySem.W.kitOne; rw [if_pos (by simp)]⟩
/-- a method -/
structure HasMeth (K : PySem.W.Frag) (C : Addr) (m qual : Str) (st : Stmt) : Prop where
  ex : ∃ f fd, Fun K m qual st f fd ∧ BMeth K C m f
theorem meth_mk {K : PySem.W.Frag} {C : Addr} {m qual : Str} {st : Stmt} {f : Addr} {oc : Value} {od an : Option Addr} {osl : Array (Option Value)} {kV doc pm cdv ct : Value} (a : PySem.W.findIn K (.ref C) m = some (some (.ref f))) (i : PySem.W.isFn K (.ref f) = true)
    (l : K.lookup f = some ⟨oc, od, .func (PySem.W.fnOf m qual (defArgs st) (defBody st) (defScope st) .none kV doc pm an cdv ct), osl⟩) (c : PySem.W.codeIn K cdv qual = true) (k : PySem.W.keepIn K (.ref f) = true)
    (gf : PySem.W.specialIn K (.ref f) "__get__" = some (some (.builtin "function.__get__"))) (tk : PySem.W.takesIn K (.ref f) = some false) (fi : PySem.W.fnIn K f = true) (cp : PySem.W.copiedNames.contains m = false) : HasMeth K C m qual st :=
  ⟨_, _, fun_mk l c k, ⟨⟨a, i, k⟩, gf, tk, cp, fi⟩⟩
structure KnownM (P : Program) (w : World) (K : PySem.W.Frag) (mg : Str → Option Value) (base : Heap) (CX : CXT) (C : Addr) (m : Str) (k : Nat) (ps : List Str) (sp : Sp) : Prop where
  ex : ∃ f fd, FnOk P w K mg base CX k f fd ps sp ∧ BMeth K C m f ∧ Binds K fd ps []
theorem KnownM.of {P : Program} {w : World} {K : PySem.W.Frag} {mg : Str → Option Value} {base : Heap} {C : Addr} {m qual : Str} {st : Stmt} {N ps : List Str} {k : Nat} {sp : Sp} (F : HasMeth K C m qual st) (S : FnScope N ps (defScope st))
    (hb : ∀ (kV doc pm : Value) (an : Option Addr) (cdv ct : Value) (us : List Value), us.length = ps.length → bindArgs (PySem.W.fnOf m qual (defArgs st) (defBody st) (defScope st) .none kV doc pm an cdv ct) ⟨us, []⟩ = pure (ps.zip us))
    (len : ∀ vs H Q E, sp vs H Q E → vs.length = ps.length)
    (hbody : ∀ (f : Addr) (cdv : Value) (A : Around) (outer : List Env) (s : Shared) (H : Hp) (vs : List V) (Q : VK) (E : XK), Room k (A.deeper (envOfC qual (defScope st) s.heap.objs.size f cdv)) → sp vs H Q E →
      ∃ t, PSs (cxOf CX0 P w K mg base N qual (defScope st) f cdv A outer s H E).nox (defBody st) t ∧ t { nx := fun _ H' => Q .non H', rt := Q } (start N vs) H) : KnownM P w K mg base CX0 C m (k + 1) ps sp := by
  obtain ⟨f, fd, F, e⟩ := F.ex
  exact ⟨f, fd, F.ok S len (hbody f), e, F.binds hb⟩
section
variable {X : Cx} {CX : CXT} {k : Nat} {C : Addr} {ps : List Str} {sp : Sp} {E : XK} {f m x : Str} {p apos pos : Pos} {e e1 e2 o : Expr} {es : List Expr} {ta t1 t2 : TE} {t : TA}
def fFld (C : Addr) (f : Str) (ta : TE) : TE := fun σ H Q => ta σ H fun x H1 => match x with
  | .ref a => ∃ dx fs v, H1 a = some (.ins C dx fs) ∧ fs.lookup f = some v ∧ Q v H1
  | _ => False
theorem fld (c : Cls X.K C) (n : NoAttr X.K C f) (he : PE X e ta) (hb : attributeBase e f X.env (eval e X.env) = eval e X.env := by rfl) : PE X (.Attribute e f pos) (fFld C f ta) := by
  refine ⟨fun pins s σ H Q I h => ?_⟩
  refine attr_of hb (thn (he.run pins s σ H _ I h) fun u s1 ⟨x, H1, I1, rx, q⟩ => ?_)
  cases x <;> first | exact q.elim | skip
  obtain ⟨dx, fs, v, ea, l, q⟩ := q
  obtain rfl : u = Value.ref _ := rx
  exact getattr_ok I1 ea c n l fun u' s2 I2 ru => ⟨v, H1, I2, ru, q⟩
/-- o.f = e -/
def fSto (C : Addr) (f : Str) (ta tv : TE) : TS := fun D σ H => tv σ H fun y H1 => ta σ H1 fun x H2 => match x with
  | .ref a => ∃ dx fs, H2 a = some (.ins C dx fs) ∧ fs.length < 1000 ∧ D.nx σ (upd H2 a (.ins C dx (putF f y fs)))
  | _ => False
theorem sto {value : Expr} {pos' : Pos} {tv : TE} (c : Cls X.K C) (n : NoAttr X.K C f) (hv : PE X value tv) (ha : PE X o ta) (hs : swapsWith value (some (.Attribute o f pos')) pos.line X.env = pure false := by rfl) : PS X (.Assign [.Attribute o f pos'] value pos) (fSto C f ta tv) := by
  refine ⟨fun pins s σ H D I h => ?_⟩
  refine plainObj_wpAny_Assign_Attribute (thn (hv.run pins s σ H _ I h) fun u s1 ⟨y, H1, I1, ry, q⟩ => thn (ha.run pins s1 σ H1 _ I1 q) fun ov s2 ⟨x, H2, I2, rx, q2⟩ => ?_) hs
  cases x <;> first | exact q2.elim | skip
  obtain ⟨dx, fs, ea, l, q2⟩ := q2
  obtain rfl : ov = Value.ref _ := rx
  exact setattr_ok I2 ea c n l ry fun s3 I3 => ⟨σ, _, I3, q2⟩
/-- o.m(e, ..) -/
def fMeth (C : Addr) (m : Str) (sp : Sp) (E : XK) (ta : TE) (t : TA) : TE := fun σ H Q => ta σ H fun x H1 => match x with
  | .ref a => ∃ dx fs, H1 a = some (.ins C dx fs) ∧ fs.lookup m = none ∧ t σ H1 fun vs H2 => sp (.ref a :: vs) H2 Q E
  | _ => False
theorem methX {pl : Sem Bool} (D : KnownM X.prog X.w X.K X.mg X.base CX C m k ps sp) (c : Cls X.K C) (hr : Room k X.A) (hx : Passes CX X E) (he : PE X o ta) (ha : PA X (e :: es) t)
    (hst : starEach (e :: es) X.env = (false, eval e X.env) :: starEach es X.env := by rfl) (hpl : (backTo pos (starEach es X.env)).any (·.1) = false := by rfl)
    (ht : eval (.Call (.Attribute o m apos) (e :: es) [] pos) X.env = (do
      let ov ← eval o X.env
      standAt apos.atName
      let (f, first) ← holding [ov] (getMethod ov m pl)
      callWith pos f first (backTo pos (starEach (e :: es) X.env)) (backToKw pos (keywordEach [] X.env))) := by rfl) :
    PE X (.Call (.Attribute o m apos) (e :: es) [] pos) (fMeth C m sp E ta t) := by
  obtain ⟨f, fd, F, B, b⟩ := D.ex
  refine ⟨fun pins s σ H Q I h => ?_⟩
  refine PySem.W.methodCall_KW (pl := pl) (thn (he.run pins s σ H _ I h) fun u s1 ⟨x, H1, I1, rx, q⟩ => ?_) ht
  cases x <;> first | exact q.elim | skip
  obtain ⟨dx, fs, ea, l, q⟩ := q
  obtain rfl : u = Value.ref _ := rx
  refine getmeth_ok I1 ea c B.mt l ?_
  refine PySem.W.callWith_K (first := [.ref _]) (h₀ := X.base) I.ok.mod.kin B.mt.kp (thn (ha.run pos pins s1 σ H1 _ I1 q) fun us s2 ⟨vs, H2, I2, r, q2⟩ => ⟨I2.kIn, ?_⟩) hst hpl
  refine run_fn (us := .ref _ :: us) (vs := .ref _ :: vs) (dvs := []) (ds := []) F hr b .nil hx I2 (.cons rfl r) ?_
  rw [List.append_nil]
  exact q2
theorem methX0 {pl : Sem Bool} (D : KnownM X.prog X.w X.K X.mg X.base CX C m k ps sp) (c : Cls X.K C) (hr : Room k X.A) (hx : Passes CX X E) (he : PE X o ta)
    (ht : eval (.Call (.Attribute o m apos) [] [] pos) X.env = (do
      let ov ← eval o X.env
      standAt apos.atName
      let (f, first) ← holding [ov] (getMethod ov m pl)
      callWith pos f first (backTo pos (starEach [] X.env)) (backToKw pos (keywordEach [] X.env))) := by rfl) :
    PE X (.Call (.Attribute o m apos) [] [] pos) (fMeth C m sp E ta tNil) := by
  obtain ⟨f, fd, F, B, b⟩ := D.ex
  refine ⟨fun pins s σ H Q I h => ?_⟩
  refine PySem.W.methodCall_KW (pl := pl) (thn (he.run pins s σ H _ I h) fun u s1 ⟨x, H1, I1, rx, q⟩ => ?_) ht
  cases x <;> first | exact q.elim | skip
  obtain ⟨dx, fs, ea, l, q⟩ := q
  obtain rfl : u = Value.ref _ := rx
  refine getmeth_ok I1 ea c B.mt l ?_
  exact PySem.W.callWith_K0 (first := [.ref _]) I1.kIn B.mt.kp (run_fn (us := [.ref _]) (vs := [.ref _]) (dvs := []) (ds := []) F hr b .nil hx I1 (.cons rfl .nil) (by rw [List.append_nil]; exact q))
theorem meth {pl : Sem Bool} (D : KnownM X.prog X.w X.K X.mg X.base CX0 C m k ps sp) (c : Cls X.K C) (hr : Room k X.A) (he : PE X o ta) (ha : PA X (e :: es) t)
    (hst : starEach (e :: es) X.env = (false, eval e X.env) :: starEach es X.env := by rfl) (hpl : (backTo pos (starEach es X.env)).any (·.1) = false := by rfl)
    (ht : eval (.Call (.Attribute o m apos) (e :: es) [] pos) X.env = (do
      let ov ← eval o X.env
      standAt apos.atName
      let (f, first) ← holding [ov] (getMethod ov m pl)
      callWith pos f first (backTo pos (starEach (e :: es) X.env)) (backToKw pos (keywordEach [] X.env))) := by rfl) :
    PE X (.Call (.Attribute o m apos) (e :: es) [] pos) (fMeth C m sp E0 ta t) := methX D c hr pass0 he ha hst hpl ht
theorem meth0 {pl : Sem Bool} (D : KnownM X.prog X.w X.K X.mg X.base CX0 C m k ps sp) (c : Cls X.K C) (hr : Room k X.A) (he : PE X o ta)
    (ht : eval (.Call (.Attribute o m apos) [] [] pos) X.env = (do
      let ov ← eval o X.env
      standAt apos.atName
      let (f, first) ← holding [ov] (getMethod ov m pl)
      callWith pos f first (backTo pos (starEach [] X.env)) (backToKw pos (keywordEach [] X.env))) := by rfl) :
    PE X (.Call (.Attribute o m apos) [] [] pos) (fMeth C m sp E0 ta tNil) := methX0 D c hr pass0 he ht
/-- o.m(e, *y) -/
def fMethSB (K : PySem.W.Frag) (C : Addr) (m : Str) (sp : Sp) (E : XK) (ta t1 t2 : TE) : TE := fun σ H Q => ta σ H fun x H1 => match x with
  | .ref a => ∃ dx fs, H1 a = some (.ins C dx fs) ∧ fs.lookup m = none ∧ ∀ q g, H1 q = none → t1 σ (upd H1 q (.met g a)) fun y1 H2 => t2 σ H2 fun y2 H3 => match y2 with
    | .ref b => ∃ vs, (SqT K H3 b vs ∨ SqL K H3 b vs) ∧ H3 q = some (.met g a) ∧ sp (.ref a :: y1 :: vs) H3 Q E
    | _ => False
  | _ => False
theorem fnR_of {P : Program} {w : World} {K : PySem.W.Frag} {mg : Str → Option Value} {base : Heap} {CX : CXT} {k : Nat} {f : Addr} {fd : FuncData} {ps : List Str} {sp : Sp} (F : FnOk P w K mg base CX k f fd ps sp) (b : Binds K fd ps []) : FnR P w K mg base CX k f sp :=
  (F.raw b .nil).imp fun vs H Q E q => by rw [List.append_nil]; exact q
theorem methSB (D : KnownM X.prog X.w X.K X.mg X.base CX0 C m k ps sp) (c : Cls X.K C) (hr : Room k X.A) (he : PE X o ta) (h1 : PE X e1 t1) (h2 : PE X e2 t2) (hbase : attributeBase o m X.env (eval o X.env) = eval o X.env := by rfl)
    (hst : starEach [e1, .Starred e2 p] X.env = [(false, eval e1 X.env), (true, eval e2 X.env)] := by rfl) : PE X (.Call (.Attribute o m apos) [e1, .Starred e2 p] [] pos) (fMethSB X.K C m sp E0 ta t1 t2) := by
  obtain ⟨g, fd, F, B, b⟩ := D.ex
  refine ⟨fun pins s σ H Q I h => ?_⟩
  refine starcall2_of hbase hst (thn (he.run pins s σ H _ I h) fun u s1 ⟨x, H1, I1, rx, q⟩ => ?_)
  cases x <;> first | exact q.elim | skip
  rename_i a
  obtain ⟨dx, fs, ea, l, q⟩ := q
  obtain rfl : u = Value.ref a := rx
  refine getbound_ok I1 ea c B l fun q1 s2 hq1 I2 => ?_
  refine PySem.W.ks_call (P := PySem.W.MethP X.K q1 g (.ref a)) rfl (PySem.W.keeps_M B.fi) (Calls.evalArgs_plain (Calls.spliced_cons (thn (h1.run pins s2 σ _ _ I2 (q q1 g hq1)) fun v1 s3 ⟨y1, H2, I3, ry1, q2⟩ =>
    PySem.W.ks_spliced (thn (h2.run pins s3 σ H2 _ I3 q2) fun v2 s4 ⟨y2, H3, I4, ry2, q3⟩ => ?_))))
  cases y2 <;> first | exact q3.elim | skip
  rename_i t
  obtain ⟨vs, ht, hm, hsp⟩ := q3
  obtain rfl : v2 = Value.ref t := ry2
  refine StX.star_any I4 ht fun us s5 I5 rv => Calls.spliced_nil ?_
  show PySem.W.MethP X.K q1 g (.ref a) s5.heap ∧ wpAny (model X.prog X.w) X.A (PySem.call (.ref q1) (v1 :: (us ++ [])) []) (EP X pins σ Q) X.xe s5
  rw [List.append_nil]
  exact ⟨met_P I5 hm, wpAny_call (PySem.W.method_call (met_P I5 hm).1 (run_fnR (us := Value.ref a :: v1 :: us) (vs := V.ref a :: y1 :: vs) (fnR_of F b) hr pass0 I5 (.cons rfl (.cons ry1 rv)) hsp))⟩
/-- o.m(*y) -/
theorem starcall1_of {M : Model} {A : Around} {E : Value → Shared → Prop} {s : Shared} {env : Env} {o e2 : Expr} {m : Str} {p apos pos : Pos} {Q : Value → Shared → Prop} (hbase : attributeBase o m env (eval o env) = eval o env)
    (hst : starEach [.Starred e2 p] env = [(true, eval e2 env)])
    (h : wpAny M A (eval o env) (fun ov s₁ => wpAny M A (getAttr ov m true) (fun f s₂ => wpAny M A (callWith pos f [] (backTo pos [(true, eval e2 env)]) []) Q E s₂) E s₁) E s) :
    wpAny M A (eval (.Call (.Attribute o m apos) [.Starred e2 p] [] pos) env) Q E s := by
  have hke : backToKw pos (keywordEach [] env) = [] := rfl
  have hform : methodCallForm ([Expr.Starred e2 p].length + ([] : List Keyword).length) (backTo pos [(true, eval e2 env)]) [] = false := rfl
  have hpos : methodCallPos false o env apos pos = pure pos := rfl
  have hcal : ∀ ov, calleeOf false o env ov m = (getAttr ov m true >>= fun v => pure (v, [])) := fun _ => rfl
  rw [arm_eval_Call, hbase, hst, hke]
  refine wpAny_bind (wpAny_mono h (fun ov s₁ h₁ => ?_) fun _ _ x => x)
  refine wpAny_bind (wpAny_standAt ?_)
  unfold methodCall
  rw [hform, hpos, hcal]
  refine wpAny_bind (wpAny_holding (wpAny_bind (wpAny_mono h₁ (fun f s₂ h₂ => wpAny_pure ?_) fun _ _ x => x)))
  exact wpAny_bind (wpAny_pure h₂)
def fMethS (K : PySem.W.Frag) (C : Addr) (m : Str) (sp : Sp) (E : XK) (ta t2 : TE) : TE := fun σ H Q => ta σ H fun x H1 => match x with
  | .ref a => ∃ dx fs, H1 a = some (.ins C dx fs) ∧ fs.lookup m = none ∧ ∀ q g, H1 q = none → t2 σ (upd H1 q (.met g a)) fun y2 H3 => match y2 with
    | .ref b => ∃ vs, (SqT K H3 b vs ∨ SqL K H3 b vs) ∧ H3 q = some (.met g a) ∧ sp (.ref a :: vs) H3 Q E
    | _ => False
  | _ => False
theorem methS (D : KnownM X.prog X.w X.K X.mg X.base CX0 C m k ps sp) (c : Cls X.K C) (hr : Room k X.A) (he : PE X o ta) (h2 : PE X e2 t2) (hbase : attributeBase o m X.env (eval o X.env) = eval o X.env := by rfl)
    (hst : starEach [.Starred e2 p] X.env = [(true, eval e2 X.env)] := by rfl) : PE X (.Call (.Attribute o m apos) [.Starred e2 p] [] pos) (fMethS X.K C m sp E0 ta t2) := by
  obtain ⟨g, fd, F, B, b⟩ := D.ex
  refine ⟨fun pins s σ H Q I h => ?_⟩
  refine starcall1_of hbase hst (thn (he.run pins s σ H _ I h) fun u s1 ⟨x, H1, I1, rx, q⟩ => ?_)
  cases x <;> first | exact q.elim | skip
  rename_i a
  obtain ⟨dx, fs, ea, l, q⟩ := q
  obtain rfl : u = Value.ref a := rx
  refine getbound_ok I1 ea c B l fun q1 s2 hq1 I2 => ?_
  refine PySem.W.ks_call (P := PySem.W.MethP X.K q1 g (.ref a)) rfl (PySem.W.keeps_M B.fi) (PySem.W.ks_lone (thn (h2.run pins s2 σ _ _ I2 (q q1 g hq1)) fun v2 s4 ⟨y2, H3, I4, ry2, q3⟩ => ?_))
  cases y2 <;> first | exact q3.elim | skip
  rename_i t
  obtain ⟨vs, ht, hm, hsp⟩ := q3
  obtain rfl : v2 = Value.ref t := ry2
  refine StX.star_any I4 ht fun us s5 I5 rv => ?_
  exact ⟨met_P I5 hm, wpAny_call (PySem.W.method_call (met_P I5 hm).1 (run_fnR (us := Value.ref a :: us) (vs := V.ref a :: vs) (fnR_of F b) hr pass0 I5 (.cons rfl rv) hsp))⟩
end
/-! ### == and != by an own __eq__ -/
section
open PySem.W
variable {prog : Program} {w : World} {A : Around} {E : Value → Shared → Prop} {s : Shared} {K : Frag} {x C L f : Addr} {h₀ : Heap} {m : Str → Option Value} {ox : Obj} {od : Option Obj} {b tb : Value}
theorem boundB_K {M : Model} {name : Str} {id T : String} {args : List Value} {Q : Option Value → Shared → Prop} (X : K.In s.heap) (I : InstAt s.heap x ox C od) (hs : findIn K (.ref C) name = some (some (.builtin id))) (S : Slot T name id)
    (h : wpAny M A (PySem.call (.builtin id) (.ref x :: args)) (fun v => Q (some v)) E s) : wpAny M A (callSpecialIfBound? (.ref x) name args) Q E s := by
  simp only [callSpecialIfBound?, bindSpecialIfBound?]
  refine wpAny_holding (wpAny_bind (wpAny_bind (wpAny_bind (I.type.here ((looks_findIn X hs).here ?_)))))
  refine wpAny_bind (wpAny_askSetting (wpAny_ite ?_))
  have fin : wpAny M A (PySem.call (.builtin id) ([.ref x] ++ args) >>= fun v => pure (some v)) Q E s := wpAny_bind (wpAny_mono h (fun v s' h' => wpAny_pure h') fun _ _ h' => h')
  simp only [S.bind]
  split
  · exact wpAny_bind (wpAny_pure (wpAny_pure fin))
  · exact wpAny_tryCatch (wpAny_bind (wpAny_pure (wpAny_pure fin)))
theorem ne_K {Q : Value → Shared → Prop} (hu : A.units + 1 < cLine) (F : Fr h₀ L s.heap m) (X₀ : K.In h₀) (I : InstAt s.heap x ox C od) (hb : Looks (model prog w) s.heap (typeOf b) tb) (hn : notFirst K C tb = true)
    (hne : findIn K (.ref C) "__ne__" = some (some (.builtin "object.__ne__"))) (hs : findIn K (.ref C) "__eq__" = some (some (.ref f))) (hf : isFn K (.ref f) = true) (hm : mroIn K C (.type "object") = some true)
    (h : wpAny (model prog w) A.in1 (PySem.call (.ref f) [.ref x, b]) (fun v s' => ∃ k, v = .bool k ∧ Q (.bool (!k)) s') E s) : wpAny (model prog w) A (richCompare .NotEq (.ref x) b) Q E s := by
  have X := X₀.keeps F.keep
  have hob : Looks (model prog w) s.heap (isInstance (.ref x) (.type "object")) true := I.type.andThen (looks_mroIn X hm)
  have one : wpAny (model prog w) A (tryCompare (.ref x) "__ne__" b) (fun r s' => ∃ v, r = some v ∧ Q v s') E s := by
    unfold tryCompare
    refine wpAny_bind (boundB_K X I hne PySem.F.slot_object_ne (wpAny_call (codeAny_call_builtin PySem.F.slot_object_ne.plain PySem.F.cmpEntry_ne (check_slot PySem.F.cmpKind_ne PySem.F.cmpSplit_ne hob (PySem.F.cmpArgs_ne _ _) ?_))))
    unfold Builtin.«object.__ne__»
    refine wpAny_bind (wpAny_of_eq (a := ((Value.ref x : Value), [b])) (by first | rfl | kernel_rfl) ?_)
    refine wpAny_bind (wpAny_cRoomFor (by show A.units + 1 < cLine; exact hu) ?_)
    refine wpAny_bind (ifBound_K X I hs hf (wpAny_mono h (fun v s' hv => ?_) fun _ _ e => e))
    obtain ⟨k, rfl, hq⟩ := hv
    show wpAny _ _ (truthy (.bool k) >>= _) _ _ _
    refine wpAny_bind (wpAny_truthy_bool ?_)
    exact wpAny_pure (wpAny_pure ⟨_, rfl, hq⟩)
  unfold richCompare
  simp only [oneThing_ref]
  refine wpAny_holding (wpAny_bind (wpAny_cRoomFor (by omega) ?_))
  refine wpAny_bind (I.type.here (wpAny_bind (hb.here ?_)))
  split
  · rename_i q
    have e : subIn K tb (.ref C) = some false := by
      rcases Bool.or_eq_true_iff.mp hn with e | e
      · rw [beq_iff_eq.mp e] at q; simp at q
      · exact beq_iff_eq.mp e
    refine wpAny_bind ((looks_subIn X e).here ?_)
    simp only [Bool.false_eq_true, if_false]
    refine wpAny_bind (wpAny_mono one (fun r s' z => ?_) fun _ _ e => e)
    obtain ⟨v, rfl, hq⟩ := z
    exact wpAny_pure hq
  · refine wpAny_bind (wpAny_pure ?_)
    simp only [Bool.false_eq_true, if_false]
    refine wpAny_bind (wpAny_mono one (fun r s' z => ?_) fun _ _ e => e)
    obtain ⟨v, rfl, hq⟩ := z
    exact wpAny_pure hq
end
/-- the kind of the right side: notFirst of it -/
def rEqO (K : PySem.W.Frag) (C : Addr) (sp : Sp) (neg : Bool) : R2 := fun x y H Q => match x with
  | .ref a => ∃ dx fs t, H a = some (.ins C dx fs) ∧ TyX K H y t ∧ PySem.W.notFirst K C t = true ∧ sp [.ref a, y] H (fun v H' => match v with
    | .bl k => Q (.bl (if neg then !k else k)) H'
    | _ => False) E0
  | _ => False
section
variable {X : Cx} {C : Addr} {k : Nat} {ps : List Str} {sp : Sp}
/-- the type of a value as isinstance's rules know it is its type -/
theorem ty_looks {pins : List (Addr × Obj)} {σ : L2.St} {H : Hp} {s : Shared} {y : V} {u t : Value} (I : Inv X pins σ H s) (ry : RelV y u) (ty : TyX X.K H y t) : PySem.W.Looks (model X.prog X.w) s.heap (typeOf u) t := by
  obtain ⟨P, Z, p, _⟩ := kit_of I ry ty
  exact Z.ty _ _ I.kIn p
theorem o_eqO (D : KnownM X.prog X.w X.K X.mg X.base CX0 C "__eq__" k ps sp) (hr : Room k X.A) : OpR X (compareOp .Eq) (rEqO X.K C sp false) := by
  intro pins s σ H x y v u Q I rx ry h
  cases x <;> first | exact h.elim | skip
  rename_i a
  obtain ⟨dx, fs, t, ha, ty, hn, q⟩ := h
  obtain rfl : v = Value.ref a := rx
  obtain ⟨g, fd, F, B, b⟩ := D.ex
  obtain ⟨mA, J, _⟩ := ins_get I.hok ha
  obtain ⟨od, J, _⟩ := J.look
  obtain ⟨m, hF⟩ := I.fr
  refine PySem.W.cmp_K (op := .Eq) hr.units0 hF I.ok.mod.kin J (ty_looks I ry ty) hn B.mt.at_ B.mt.fn ?_
  refine wpAny_mono (run_fn (us := [.ref a, u]) (vs := [.ref a, y]) (dvs := []) (ds := []) F hr b .nil pass0 I (.cons rfl (.cons ry .nil)) (by rw [List.append_nil]; exact q)) (fun w' s' q' => ?_) fun _ _ z => z
  obtain ⟨z, H', I', rz, q'⟩ := q'
  cases z <;> first | exact q'.elim | skip
  obtain rfl := (show w' = Value.bool _ from rz)
  exact ⟨.bl _, H', I', rfl, q'⟩
theorem o_neO (D : KnownM X.prog X.w X.K X.mg X.base CX0 C "__eq__" k ps sp) (hne : PySem.W.findIn X.K (.ref C) "__ne__" = some (some (.builtin "object.__ne__"))) (hm : PySem.W.mroIn X.K C (.type "object") = some true) (hr : Room (k + 1) X.A) : OpR X (compareOp .NotEq) (rEqO X.K C sp true) := by
  intro pins s σ H x y v u Q I rx ry h
  cases x <;> first | exact h.elim | skip
  rename_i a
  obtain ⟨dx, fs, t, ha, ty, hn, q⟩ := h
  obtain rfl : v = Value.ref a := rx
  obtain ⟨g, fd, F, B, b⟩ := D.ex
  obtain ⟨mA, J, _⟩ := ins_get I.hok ha
  obtain ⟨od, J, _⟩ := J.look
  obtain ⟨m, hF⟩ := I.fr
  refine ne_K (by have := hr.units; omega) hF I.ok.mod.kin J (ty_looks I ry ty) hn hne B.mt.at_ B.mt.fn hm ?_
  have r2 : Vals [V.ref a, y] [Value.ref a, u] := .cons rfl (.cons ry .nil)
  have hl := F.len _ _ _ _ q
  have hb2 : BindsTo s fd ⟨[.ref a, u], []⟩ (ps.zip [.ref a, u]) := by
    have := b s [.ref a, u] I.kIn (by simpa using hl)
    simpa using this
  refine wpAny_call (codeAny_mono (F.run X.A.in1 X.stack s H ⟨[.ref a, u], []⟩ [.ref a, u] [.ref a, y] _ E0 hr.in1 I.env0.in1 hb2 r2 q) fun r s' hq => ?_)
  cases r with
  | error e => exact False.elim hq
  | ok fl =>
    cases fl with
    | ret w' =>
      obtain ⟨z, H', I', rz, q'⟩ := I.after hq
      cases z <;> first | exact q'.elim | skip
      obtain rfl := (show w' = Value.bool _ from rz)
      exact ⟨_, rfl, .bl _, H', I', rfl, q'⟩
    | next => exact False.elim hq
    | brk => exact False.elim hq
    | cont => exact False.elim hq
/-- str(o) by an own __str__ -/
theorem c_strO (D : KnownM X.prog X.w X.K X.mg X.base CX0 C "__str__" k ps sp) (hr : Room (k + 2) X.A) : CallR X (.type "str") (fun xs H Q => ∃ a dx fs, xs = [.ref a] ∧ H a = some (.ins C dx fs) ∧ sp [.ref a] H (fun v H' => match v with
    | .str z => Q (.str z) H'
    | _ => False) E0) := by
  intro pins s σ H xs us Q I r h
  obtain ⟨a, dx, fs, rfl, ha, q⟩ := h
  rw [Vals.ref1 r]
  obtain ⟨g, fd, F, B, b⟩ := D.ex
  obtain ⟨mA, J, _⟩ := ins_get I.hok ha
  obtain ⟨od, J, _⟩ := J.look
  have r2 : Vals [V.ref a] [Value.ref a] := .cons rfl .nil
  have hl := F.len _ _ _ _ q
  have hb2 : BindsTo s fd ⟨[.ref a], []⟩ (ps.zip [.ref a]) := by
    have := b s [.ref a] I.kIn (by simpa using hl)
    simpa using this
  refine PySem.W.kso_call hr.in1.in1.units0 I.kIn J B.mt.at_ B.mt.fn (wpAny_call (codeAny_mono (F.run X.A.in1.in1 X.stack s H ⟨[.ref a], []⟩ [.ref a] [.ref a] _ E0 hr.in1.in1 I.env0.in1.in1 hb2 r2 q) fun r s' hq => ?_))
  cases r with
  | error e => exact False.elim hq
  | ok fl =>
    cases fl with
    | ret w' =>
      obtain ⟨z, H', I', rz, q'⟩ := I.after hq
      cases z <;> first | exact q'.elim | skip
      obtain ⟨tk, rfl⟩ := (show ∃ tk, w' = Value.str _ tk from rz)
      exact ⟨.str _, H', I', ⟨_, rfl⟩, q'⟩
    | next => exact False.elim hq
    | brk => exact False.elim hq
    | cont => exact False.elim hq
end
end U
set_option Elab.async false
set_option linter.all false
set_option maxRecDepth 100000
set_option maxHeartbeats 2000000
/-! Readings over plain data: what never changes is data (Da), what changes stands in a small memory (Mm). -/
namespace U
open PySem PySem.Spec PyProof.Rows L2
/-- plain data; a thing that changes is an address -/
inductive Da where
  | non | bl (b : Bool) | int (i : Int) | str (x : Str) | ty (n : String)
  | lst (xs : List Da) | tup (xs : List Da) | obj (C : Addr) (fs : List (Str × Da)) | ref (a : Addr) | dct (kvs : List (Key × Da))
/-- what changes: a list, an instance -/
inductive MO where
  | lst (xs : List Da) | ins (C : Addr) (fs : List (Str × Da)) | dct (kvs : List (Key × Da))
abbrev Mm := Addr → Option MO
abbrev De := List (Option Da)
abbrev DK := Da → Mm → Prop
/-- an exception: its class, its attributes -/
abbrev DX := Value → List (Str × Da) → Mm → Prop
def mput (M : Mm) (a : Addr) (o : MO) : Mm := fun b => if b = a then some o else M b
def mdel (M : Mm) (a : Addr) : Mm := fun b => if b = a then none else M b
theorem mput_same {M : Mm} {a : Addr} {o : MO} : mput M a o a = some o := by unfold mput; rw [if_pos rfl]
theorem mput_ne {M : Mm} {a b : Addr} {o : MO} (h : b ≠ a) : mput M a o b = M b := by unfold mput; rw [if_neg h]
theorem mput_put {M : Mm} {a : Addr} {o u : MO} : mput (mput M a o) a u = mput M a u := by
  funext b; unfold mput; split <;> rfl
theorem mdel_put {M : Mm} {a : Addr} {o : MO} (h : M a = none) : mdel (mput M a o) a = M := by
  funext b; unfold mdel mput; split
  · rename_i e; rw [e, h]
  · rfl
theorem mput_get {M : Mm} {a : Addr} {o : MO} (h : M a = some o) : mput M a o = M := by
  funext b; unfold mput; split
  · rename_i e; rw [e, h]
  · rfl
def putD (f : Str) (v : Da) : List (Str × Da) → List (Str × Da)
  | [] => [(f, v)]
  | (g, x) :: r => if g = f then (g, v) :: r else (g, x) :: putD f v r
/-! ### data in the heap -/
def Sl (K : PySem.W.Frag) (W : Addr → Prop) (H : Hp) (a : Addr) (vs : List V) : Prop := (W a ∧ Rd H a (.lst vs)) ∨ SqL K (fun _ => none) a vs
def Sp' (K : PySem.W.Frag) (W : Addr → Prop) (H : Hp) (a : Addr) (vs : List V) : Prop := (W a ∧ Rd H a (.tup vs)) ∨ SqT K (fun _ => none) a vs
mutual
inductive RD (K : PySem.W.Frag) (W : Addr → Prop) (H : Hp) : V → Da → Prop
  | non : RD K W H .non .non
  | bl (b : Bool) : RD K W H (.bl b) (.bl b)
  | int (i : Int) : RD K W H (.int i) (.int i)
  | str (x : Str) : RD K W H (.str x) (.str x)
  | ty (n : String) : RD K W H (.ty n) (.ty n)
  | lst {a : Addr} {vs : List V} {ds : List Da} : Sl K W H a vs → RDs K W H vs ds → RD K W H (.ref a) (.lst ds)
  | tup {a : Addr} {vs : List V} {ds : List Da} : Sp' K W H a vs → RDs K W H vs ds → RD K W H (.ref a) (.tup ds)
  | obj {a C dx : Addr} {vs : List (Str × V)} {fs : List (Str × Da)} : W a → H a = some (.ins C dx vs) → RF K W H vs fs → RD K W H (.ref a) (.obj C fs)
  | ref (a : Addr) : RD K W H (.ref a) (.ref a)
  | dct {a : Addr} {vs : List (Key × V)} {ds : List (Key × Da)} : W a → H a = some (.dK vs) → RK K W H vs ds → RD K W H (.ref a) (.dct ds)
inductive RDs (K : PySem.W.Frag) (W : Addr → Prop) (H : Hp) : List V → List Da → Prop
  | nil : RDs K W H [] []
  | cons {v : V} {vs : List V} {d : Da} {ds : List Da} : RD K W H v d → RDs K W H vs ds → RDs K W H (v :: vs) (d :: ds)
inductive RF (K : PySem.W.Frag) (W : Addr → Prop) (H : Hp) : List (Str × V) → List (Str × Da) → Prop
  | nil : RF K W H [] []
  | cons {f : Str} {v : V} {vs : List (Str × V)} {d : Da} {ds : List (Str × Da)} : RD K W H v d → RF K W H vs ds → RF K W H ((f, v) :: vs) ((f, d) :: ds)
inductive RK (K : PySem.W.Frag) (W : Addr → Prop) (H : Hp) : List (Key × V) → List (Key × Da) → Prop
  | nil : RK K W H [] []
  | cons {f : Key} {v : V} {vs : List (Key × V)} {d : Da} {ds : List (Key × Da)} : RD K W H v d → RK K W H vs ds → RK K W H ((f, v) :: vs) ((f, d) :: ds)
end
/-- the heap grows: what is settled or another's stands -/
structure Grow (F W : Addr → Prop) (H : Hp) (W' : Addr → Prop) (H' : Hp) : Prop where
  w : ∀ a, W a → W' a
  h : ∀ a, W a → H' a = H a
  f : ∀ a, F a → H' a = H a
theorem Grow.refl {F W : Addr → Prop} {H : Hp} : Grow F W H W H := ⟨fun _ h => h, fun _ _ => rfl, fun _ _ => rfl⟩
theorem Grow.trans {F W W1 W2 : Addr → Prop} {H H1 H2 : Hp} (a : Grow F W H W1 H1) (b : Grow F W1 H1 W2 H2) : Grow F W H W2 H2 :=
  ⟨fun c h => b.w c (a.w c h), fun c h => (b.h c (a.w c h)).trans (a.h c h), fun c h => (b.f c h).trans (a.f c h)⟩
theorem Grow.less {F F' W W' : Addr → Prop} {H H' : Hp} (g : Grow F' W H W' H') (h : ∀ a, F a → F' a) : Grow F W H W' H' := ⟨g.w, g.h, fun a q => g.f a (h a q)⟩
section
variable {K : PySem.W.Frag} {F W W' : Addr → Prop} {H H' : Hp} {a : Addr}
theorem rd_mono {u : HO} (e : H' a = H a) (h : Rd H a u) : Rd H' a u := by unfold Rd at *; rw [e]; exact h
theorem Sl.mono {vs : List V} (g : Grow F W H W' H') : Sl K W H a vs → Sl K W' H' a vs
  | .inl ⟨w, h⟩ => .inl ⟨g.w _ w, rd_mono (g.h _ w) h⟩
  | .inr h => .inr h
theorem Sp'.mono {vs : List V} (g : Grow F W H W' H') : Sp' K W H a vs → Sp' K W' H' a vs
  | .inl ⟨w, h⟩ => .inl ⟨g.w _ w, rd_mono (g.h _ w) h⟩
  | .inr h => .inr h
theorem Sl.sq {vs : List V} : Sl K W H a vs → SqL K H a vs
  | .inl ⟨_, h⟩ => .inl h
  | .inr (.inl (.inl h)) => nomatch h
  | .inr (.inl (.inr ⟨_, h⟩)) => nomatch h
  | .inr (.inr h) => .inr h
theorem Sp'.sq {vs : List V} : Sp' K W H a vs → SqT K H a vs
  | .inl ⟨_, h⟩ => .inl h
  | .inr (.inl (.inl h)) => nomatch h
  | .inr (.inl (.inr ⟨_, h⟩)) => nomatch h
  | .inr (.inr h) => .inr h
mutual
theorem RD.mono (g : Grow F W H W' H') : ∀ {v : V} {d : Da}, RD K W H v d → RD K W' H' v d
  | _, _, .non => .non
  | _, _, .bl b => .bl b
  | _, _, .int i => .int i
  | _, _, .str x => .str x
  | _, _, .ty x => .ty x
  | _, _, .ref x => .ref x
  | _, _, .lst h k => .lst (h.mono g) (RDs.mono g k)
  | _, _, .tup h k => .tup (h.mono g) (RDs.mono g k)
  | _, _, .obj w h k => .obj (g.w _ w) ((g.h _ w).trans h) (RF.mono g k)
  | _, _, .dct w h k => .dct (g.w _ w) ((g.h _ w).trans h) (RK.mono g k)
theorem RDs.mono (g : Grow F W H W' H') : ∀ {vs : List V} {ds : List Da}, RDs K W H vs ds → RDs K W' H' vs ds
  | _, _, .nil => .nil
  | _, _, .cons h k => .cons (RD.mono g h) (RDs.mono g k)
theorem RF.mono (g : Grow F W H W' H') : ∀ {vs : List (Str × V)} {ds : List (Str × Da)}, RF K W H vs ds → RF K W' H' vs ds
  | _, _, .nil => .nil
  | _, _, .cons h k => .cons (RD.mono g h) (RF.mono g k)
theorem RK.mono (g : Grow F W H W' H') : ∀ {vs : List (Key × V)} {ds : List (Key × Da)}, RK K W H vs ds → RK K W' H' vs ds
  | _, _, .nil => .nil
  | _, _, .cons h k => .cons (RD.mono g h) (RK.mono g k)
end
theorem RDs.length : ∀ {vs : List V} {ds : List Da}, RDs K W H vs ds → vs.length = ds.length
  | _, _, .nil => rfl
  | _, _, .cons _ k => by rw [List.length_cons, List.length_cons, k.length]
theorem RDs.get : ∀ {vs : List V} {ds : List Da} {i : Nat} {d : Da}, RDs K W H vs ds → ds[i]? = some d → ∃ v, vs[i]? = some v ∧ RD K W H v d
  | _, _, 0, _, .cons h _, e => by cases e; exact ⟨_, rfl, h⟩
  | _, _, i + 1, _, .cons _ k, e => RDs.get (i := i) k e
  | _, _, _, _, .nil, e => by simp at e
theorem RDs.append : ∀ {vs ws : List V} {ds es : List Da}, RDs K W H vs ds → RDs K W H ws es → RDs K W H (vs ++ ws) (ds ++ es)
  | _, _, _, _, .nil, k => k
  | _, _, _, _, .cons h t, k => .cons h (RDs.append t k)
theorem RDs.take : ∀ {vs : List V} {ds : List Da} (n : Nat), RDs K W H vs ds → RDs K W H (vs.take n) (ds.take n)
  | _, _, 0, _ => .nil
  | _, _, _ + 1, .nil => .nil
  | _, _, n + 1, .cons h k => .cons h (RDs.take n k)
theorem RDs.drop : ∀ {vs : List V} {ds : List Da} (n : Nat), RDs K W H vs ds → RDs K W H (vs.drop n) (ds.drop n)
  | _, _, 0, h => h
  | _, _, _ + 1, .nil => .nil
  | _, _, n + 1, .cons _ k => RDs.drop n k
theorem RDs.set : ∀ {vs : List V} {ds : List Da} {v : V} {d : Da} (n : Nat), RDs K W H vs ds → RD K W H v d → RDs K W H (vs.set n v) (ds.set n d)
  | _, _, _, _, _, .nil, _ => .nil
  | _, _, _, _, 0, .cons _ k, r => .cons r k
  | _, _, _, _, n + 1, .cons h k, r => .cons h (RDs.set n k r)
theorem RDs.erase : ∀ {vs : List V} {ds : List Da} (n : Nat), RDs K W H vs ds → RDs K W H (vs.eraseIdx n) (ds.eraseIdx n)
  | _, _, _, .nil => .nil
  | _, _, 0, .cons _ k => k
  | _, _, n + 1, .cons h k => .cons h (RDs.erase n k)
theorem RDs.dropLast : ∀ {vs : List V} {ds : List Da}, RDs K W H vs ds → RDs K W H vs.dropLast ds.dropLast
  | _, _, .nil => .nil
  | _, _, .cons _ .nil => .nil
  | _, _, .cons h (.cons h' k) => .cons h (RDs.dropLast (.cons h' k))
theorem RDs.ints : ∀ {vs : List V} {ns : List Int}, RDs K W H vs (ns.map Da.int) → vs = ns.map V.int
  | _, [], .nil => rfl
  | _, n :: ns, .cons h k => by cases h; rw [RDs.ints k]; rfl
theorem RDs.strs : ∀ {vs : List V} {ns : List Str}, RDs K W H vs (ns.map Da.str) → vs = ns.map V.str
  | _, [], .nil => rfl
  | _, n :: ns, .cons h k => by cases h; rw [RDs.strs k]; rfl
theorem RDs.bls : ∀ {vs : List V} {ns : List Bool}, RDs K W H vs (ns.map Da.bl) → vs = ns.map V.bl
  | _, [], .nil => rfl
  | _, n :: ns, .cons h k => by cases h; rw [RDs.bls k]; rfl
theorem RF.get : ∀ {vs : List (Str × V)} {fs : List (Str × Da)} {f : Str} {d : Da}, RF K W H vs fs → fs.lookup f = some d → ∃ v, vs.lookup f = some v ∧ RD K W H v d
  | _, _, _, _, .nil, e => by simp at e
  | _, _, f, d, .cons (f := g) h k, e => by
    rw [List.lookup_cons] at e ⊢
    cases q : (f == g) with
    | true => rw [q] at e; cases e; exact ⟨_, rfl, h⟩
    | false => rw [q] at e; exact RF.get k e
theorem RF.none : ∀ {vs : List (Str × V)} {fs : List (Str × Da)} {f : Str}, RF K W H vs fs → fs.lookup f = none → vs.lookup f = none
  | _, _, _, .nil, e => rfl
  | _, _, f, .cons (f := g) h k, e => by
    rw [List.lookup_cons] at e ⊢
    cases q : (f == g) with
    | true => rw [q] at e; cases e
    | false => rw [q] at e; exact RF.none k e
theorem RF.length : ∀ {vs : List (Str × V)} {fs : List (Str × Da)}, RF K W H vs fs → vs.length = fs.length
  | _, _, .nil => rfl
  | _, _, .cons _ k => by rw [List.length_cons, List.length_cons, k.length]
theorem RF.put : ∀ {vs : List (Str × V)} {fs : List (Str × Da)} {f : Str} {v : V} {d : Da}, RF K W H vs fs → RD K W H v d → RF K W H (putF f v vs) (putD f d fs)
  | _, _, _, _, _, .nil, r => .cons r .nil
  | _, _, f, _, _, .cons (f := g) h k, r => by
    unfold putF putD
    split
    · exact .cons r k
    · exact .cons h (RF.put k r)
end
/-- a thing of the memory -/
inductive MR (K : PySem.W.Frag) (W : Addr → Prop) (H : Hp) : MO → HO → Prop
  | lst {xs : List Da} {vs : List V} : RDs K W H vs xs → MR K W H (.lst xs) (.lst vs)
  | ins {C dx : Addr} {fs : List (Str × Da)} {vs : List (Str × V)} : RF K W H vs fs → MR K W H (.ins C fs) (.ins C dx vs)
  | dct {ds : List (Key × Da)} {vs : List (Key × V)} : RK K W H vs ds → MR K W H (.dct ds) (.dK vs)
theorem MR.mono {K : PySem.W.Frag} {F W W' : Addr → Prop} {H H' : Hp} (g : Grow F W H W' H') {o : MO} {u : HO} (h : MR K W H o u) : MR K W' H' o u := by
  cases h with
  | lst h => exact .lst (h.mono g)
  | ins h => exact .ins (h.mono g)
  | dct h => exact .dct (h.mono g)
theorem MR.mut {K : PySem.W.Frag} {W : Addr → Prop} {H : Hp} {o : MO} {u : HO} (h : MR K W H o u) : Mut (some u) := by
  cases h <;> exact trivial
structure Stt (K : PySem.W.Frag) (F W : Addr → Prop) (M : Mm) (H : Hp) : Prop where
  wf : ∀ a, W a → ∃ o, H a = some o
  fr : ∀ a, F a → ¬ W a ∧ M a = none ∧ ∃ o, H a = some o
  dis : ∀ a o, M a = some o → ¬ W a
  mem : ∀ a o, M a = some o → ∃ u, H a = some u ∧ MR K W H o u
def wadd (W : Addr → Prop) (p : Addr) : Addr → Prop := fun a => a = p ∨ W a
section
variable {K : PySem.W.Frag} {F W W' : Addr → Prop} {H H' : Hp} {M : Mm} {p : Addr}
theorem Stt.freeM (s : Stt K F W M H) (h : H p = none) : M p = none := by
  cases e : M p with
  | none => rfl
  | some o => obtain ⟨u, q, _⟩ := s.mem _ _ e; rw [h] at q; cases q
theorem Stt.freeW (s : Stt K F W M H) (h : H p = none) : ¬ W p := fun w => by obtain ⟨o, q⟩ := s.wf _ w; rw [h] at q; cases q
theorem Stt.freeF (s : Stt K F W M H) (h : H p = none) : ¬ F p := fun w => by obtain ⟨_, _, o, q⟩ := s.fr _ w; rw [h] at q; cases q
theorem Stt.neW (s : Stt K F W M H) (h : H p = none) {a : Addr} (w : W a) : a ≠ p := fun e => s.freeW h (e ▸ w)
theorem Stt.neF (s : Stt K F W M H) (h : H p = none) {a : Addr} (w : F a) : a ≠ p := fun e => s.freeF h (e ▸ w)
theorem grow_new {o : HO} (s : Stt K F W M H) (h : H p = none) : Grow F W H W (upd H p o) :=
  ⟨fun _ h => h, fun a w => upd_ne (s.neW h w), fun a w => upd_ne (s.neF h w)⟩
/-- junk -/
theorem Stt.junk (s : Stt K F W M H) (h : H p = none) (o : HO) : Stt K F W M (upd H p o) where
  wf := fun a w => by
    by_cases e : a = p
    · subst e; exact ⟨o, upd_same⟩
    · rw [upd_ne e]; exact s.wf a w
  fr := fun a w => ⟨(s.fr a w).1, (s.fr a w).2.1, by rw [upd_ne (s.neF h w)]; exact (s.fr a w).2.2⟩
  dis := s.dis
  mem := fun a u e => by
    obtain ⟨v, q, r⟩ := s.mem a u e
    exact ⟨v, by rw [upd_ne (ne_of_none q h)]; exact q, r.mono (grow_new s h)⟩
/-- a new settled thing -/
theorem Stt.new (s : Stt K F W M H) (h : H p = none) (o : HO) : Stt K F (wadd W p) M (upd H p o) ∧ Grow F W H (wadd W p) (upd H p o) := by
  have g : Grow F W H (wadd W p) (upd H p o) := ⟨fun _ h => .inr h, (grow_new s h).h, (grow_new s h).f⟩
  refine ⟨⟨fun a w => ?_, fun a w => ⟨?_, (s.fr a w).2.1, by rw [upd_ne (s.neF h w)]; exact (s.fr a w).2.2⟩, fun a u e w => ?_, fun a u e => ?_⟩, g⟩
  · rcases w with w | w
    · subst w; exact ⟨o, upd_same⟩
    · rw [upd_ne (s.neW h w)]; exact s.wf a w
  · rintro (e | e)
    · exact s.freeF h (e ▸ w)
    · exact (s.fr a w).1 e
  · rcases w with w | w
    · subst w; rw [s.freeM h] at e; cases e
    · exact s.dis a u e w
  · obtain ⟨v, q, r⟩ := s.mem a u e
    exact ⟨v, by rw [upd_ne (ne_of_none q h)]; exact q, r.mono g⟩
/-- a new thing of the memory -/
theorem Stt.newM (s : Stt K F W M H) (h : H p = none) {o : HO} {u : MO} (r : MR K W H u o) : Stt K F W (mput M p u) (upd H p o) := by
  refine ⟨fun a w => ?_, fun a w => ⟨(s.fr a w).1, ?_, by rw [upd_ne (s.neF h w)]; exact (s.fr a w).2.2⟩, fun a v e w => ?_, fun a v e => ?_⟩
  · rw [upd_ne (s.neW h w)]; exact s.wf a w
  · rw [mput_ne (s.neF h w)]; exact (s.fr a w).2.1
  · by_cases q : a = p
    · subst q; exact s.freeW h w
    · rw [mput_ne q] at e; exact s.dis a v e w
  · by_cases q : a = p
    · subst q; rw [mput_same] at e; cases e; exact ⟨o, upd_same, r.mono (grow_new s h)⟩
    · rw [mput_ne q] at e
      obtain ⟨x, q', r'⟩ := s.mem a v e
      exact ⟨x, by rw [upd_ne q]; exact q', r'.mono (grow_new s h)⟩
theorem grow_put {o : HO} {v : MO} (s : Stt K F W M H) (h : M p = some v) : Grow F W H W (upd H p o) :=
  ⟨fun _ h => h, fun a w => upd_ne (fun e => s.dis _ _ h (e ▸ w)), fun a w => upd_ne (fun e => by subst e; rw [(s.fr a w).2.1] at h; cases h)⟩
/-- a thing of the memory changes -/
theorem Stt.put (s : Stt K F W M H) {v : MO} (h : M p = some v) {o : HO} {u : MO} (r : MR K W H u o) : Stt K F W (mput M p u) (upd H p o) := by
  have g := grow_put (o := o) s h
  refine ⟨fun a w => ?_, fun a w => ?_, fun a v' e w => ?_, fun a v' e => ?_⟩
  · rw [g.h a w]; exact s.wf a w
  · have ne : a ≠ p := fun e => by subst e; rw [(s.fr a w).2.1] at h; cases h
    exact ⟨(s.fr a w).1, by rw [mput_ne ne]; exact (s.fr a w).2.1, by rw [upd_ne ne]; exact (s.fr a w).2.2⟩
  · by_cases q : a = p
    · subst q; exact s.dis _ _ h w
    · rw [mput_ne q] at e; exact s.dis a v' e w
  · by_cases q : a = p
    · subst q; rw [mput_same] at e; cases e; exact ⟨o, upd_same, r.mono g⟩
    · rw [mput_ne q] at e
      obtain ⟨x, q', r'⟩ := s.mem a v' e
      exact ⟨x, by rw [upd_ne q]; exact q', r'.mono g⟩
/-- a thing of the memory changes no more -/
theorem Stt.settle (s : Stt K F W M H) {v : MO} (h : M p = some v) : Stt K F (wadd W p) (mdel M p) H ∧ Grow F W H (wadd W p) H := by
  have g : Grow F W H (wadd W p) H := ⟨fun _ h => .inr h, fun _ _ => rfl, fun _ _ => rfl⟩
  refine ⟨⟨fun a w => ?_, fun a w => ⟨?_, ?_, (s.fr a w).2.2⟩, fun a u e w => ?_, fun a u e => ?_⟩, g⟩
  · rcases w with w | w
    · subst w; obtain ⟨u, q, _⟩ := s.mem _ _ h; exact ⟨u, q⟩
    · exact s.wf a w
  · rintro (e | e)
    · subst e; rw [(s.fr a w).2.1] at h; cases h
    · exact (s.fr a w).1 e
  · unfold mdel; split
    · rfl
    · exact (s.fr a w).2.1
  · unfold mdel at e
    split at e
    · cases e
    · rename_i ne
      rcases w with w | w
      · exact ne w
      · exact s.dis a u e w
  · unfold mdel at e
    split at e
    · cases e
    · obtain ⟨x, q', r'⟩ := s.mem a u e
      exact ⟨x, q', r'.mono g⟩
/-- a thing of the memory is forgotten -/
theorem Stt.forget (s : Stt K F W M H) {M' : Mm} (h : ∀ a o, M' a = some o → M a = some o) : Stt K F W M' H :=
  ⟨s.wf, fun a w => ⟨(s.fr a w).1, (by
    cases e : M' a with
    | none => rfl
    | some o => have q := h a o e; rw [(s.fr a w).2.1] at q; cases q), (s.fr a w).2.2⟩, fun a o e => s.dis a o (h a o e), fun a o e => s.mem a o (h a o e)⟩
end
end U
set_option Elab.async false
set_option linter.all false
set_option maxRecDepth 100000
set_option maxHeartbeats 2000000
/-! Readings over plain data: the rules. -/
namespace U
open PySem PySem.Spec PyProof.Rows L2
abbrev World1 := Addr → Prop
abbrev Er := De → List (Option V) → Prop
/-- the names' values -/
def EnvO (K : PySem.W.Frag) (W : Addr → Prop) (H : Hp) : Option Da → Option V → Prop
  | none, _ => True
  | some d, ov => ∃ v, ov = some v ∧ RD K W H v d
abbrev EnvR (K : PySem.W.Frag) (W : Addr → Prop) (H : Hp) : De → L2.St → Prop := Paired (EnvO K W H)
theorem EnvO.mono {K : PySem.W.Frag} {F W W' : Addr → Prop} {H H' : Hp} (g : Grow F W H W' H') : ∀ {a : Option Da} {b : Option V}, EnvO K W H a b → EnvO K W' H' a b
  | none, _, _ => trivial
  | some _, _, ⟨v, e, r⟩ => ⟨v, e, r.mono g⟩
theorem EnvR.mono {K : PySem.W.Frag} {F W W' : Addr → Prop} {H H' : Hp} (g : Grow F W H W' H') : ∀ {δ : De} {σ : L2.St}, EnvR K W H δ σ → EnvR K W' H' δ σ
  | _, _, .nil => .nil
  | _, _, .cons h t => .cons (h.mono g) (EnvR.mono g t)
theorem EnvR.get {K : PySem.W.Frag} {W : Addr → Prop} {H : Hp} : ∀ {δ : De} {σ : L2.St} {i : Nat} {d : Da}, EnvR K W H δ σ → δ[i]? = some (some d) → ∃ v, σ[i]? = some (some v) ∧ RD K W H v d
  | _, _, _, _, .nil, e => by simp at e
  | _, _, 0, d, .cons h _, e => by
    simp at e; subst e
    obtain ⟨v, e, r⟩ := h
    exact ⟨v, by simp [e], r⟩
  | _, _, i + 1, d, .cons _ t, e => by
    obtain ⟨v, h1, h2⟩ := EnvR.get (i := i) t (by simpa using e)
    exact ⟨v, by simpa using h1, h2⟩
theorem EnvR.set {K : PySem.W.Frag} {W : Addr → Prop} {H : Hp} {v : V} {d : Da} (r : RD K W H v d) : ∀ {δ : De} {σ : L2.St} (i : Nat), EnvR K W H δ σ → EnvR K W H (δ.set i (some d)) (σ.set i (some v))
  | _, _, _, .nil => .nil
  | _, _, 0, .cons _ t => .cons ⟨v, rfl, r⟩ t
  | _, _, i + 1, .cons h t => .cons h (EnvR.set r i t)
theorem EnvR.del {K : PySem.W.Frag} {W : Addr → Prop} {H : Hp} : ∀ {δ : De} {σ : L2.St} (i : Nat), EnvR K W H δ σ → EnvR K W H (δ.set i none) (σ.set i none)
  | _, _, _, .nil => .nil
  | _, _, 0, .cons _ t => .cons trivial t
  | _, _, i + 1, .cons h t => .cons h (EnvR.del i t)
theorem EnvR.drop1 {K : PySem.W.Frag} {W : Addr → Prop} {H : Hp} : ∀ {δ : De} {σ : L2.St} (i : Nat), EnvR K W H δ σ → EnvR K W H (δ.set i none) σ
  | _, _, _, .nil => .nil
  | _, _, 0, .cons _ t => .cons trivial t
  | _, _, i + 1, .cons h t => .cons h (EnvR.drop1 i t)
/-- the end: what is related, grown -/
def Kt {α β : Type} (R : (Addr → Prop) → Hp → α → β → Prop) (K : PySem.W.Frag) (F W : Addr → Prop) (H : Hp) (Qd : β → Mm → Prop) (Q : α → Hp → Prop) : Prop :=
  ∀ v H' W' d M', Grow F W H W' H' → Stt K F W' M' H' → R W' H' v d → Qd d M' → Q v H'
theorem Kt.mono {α β : Type} {R : (Addr → Prop) → Hp → α → β → Prop} {K : PySem.W.Frag} {F W W1 : Addr → Prop} {H H1 : Hp} {Qd : β → Mm → Prop} {Q : α → Hp → Prop} (g : Grow F W H W1 H1) (k : Kt R K F W H Qd Q) : Kt R K F W1 H1 Qd Q :=
  fun v H' W' d M' g' => k v H' W' d M' (g.trans g')
abbrev DR (β : Type) := De → Mm → (β → Mm → Prop) → Prop
/-- a reading over data as a reading -/
def Li {α β : Type} (R : (Addr → Prop) → Hp → α → β → Prop) (K : PySem.W.Frag) (f : DR β) : L2.St → Hp → (α → Hp → Prop) → Prop := fun σ H Q =>
  ∃ δ F W M Qd, EnvR K W H δ σ ∧ Stt K F W M H ∧ f δ M Qd ∧ Kt R K F W H Qd Q
abbrev DTE := DR Da
abbrev DTT := DR Bool
abbrev DTA := DR (List Da)
abbrev rE (K : PySem.W.Frag) : (Addr → Prop) → Hp → V → Da → Prop := RD K
abbrev rT : (Addr → Prop) → Hp → Bool → Bool → Prop := fun _ _ a b => a = b
abbrev rA (K : PySem.W.Frag) : (Addr → Prop) → Hp → List V → List Da → Prop := RDs K
def DE (X : Cx) (e : Expr) (f : DTE) : Prop := PE X e (Li (rE X.K) X.K f)
def DT (X : Cx) (e : Expr) (f : DTT) : Prop := PT X e (Li rT X.K f)
def DW (X : Cx) (e : Expr) (f : DTT) : Prop := PW X e (Li rT X.K f)
def DA (X : Cx) (es : List Expr) (f : DTA) : Prop := PA X es (Li (rA X.K) X.K f)
/-- what is ready at once -/
theorem Kt.now {α β : Type} {R : (Addr → Prop) → Hp → α → β → Prop} {K : PySem.W.Frag} {F W : Addr → Prop} {M : Mm} {H : Hp} {Qd : β → Mm → Prop} {Q : α → Hp → Prop} (k : Kt R K F W H Qd Q) (s : Stt K F W M H) {v : α} {d : β} (r : R W H v d) (q : Qd d M) : Q v H :=
  k v H W d M .refl s r q
/-- one reading, then another -/
theorem Li.bind {α β γ ε : Type} {R : (Addr → Prop) → Hp → α → β → Prop} {R' : (Addr → Prop) → Hp → γ → ε → Prop} {K : PySem.W.Frag} {f : DR β} {g : β → DR ε} {σ : L2.St} {H : Hp} {Q : γ → Hp → Prop} {C : α → Hp → Prop}
    (h : Li R' K (fun δ M Q => f δ M fun x M1 => g x δ M1 Q) σ H Q) (c : ∀ v H1 d, (∃ W1, R W1 H1 v d ∧ ∃ δ F M Qd, EnvR K W1 H1 δ σ ∧ Stt K F W1 M H1 ∧ g d δ M Qd ∧ Kt R' K F W1 H1 Qd Q) → C v H1) : Li R K f σ H C := by
  obtain ⟨δ, F, W, M, Qd, e, s, h, k⟩ := h
  exact ⟨δ, F, W, M, _, e, s, h, fun v H1 W1 d M1 g1 s1 r1 q1 => c v H1 d ⟨W1, r1, δ, F, M1, Qd, e.mono g1, s1, q1, k.mono g1⟩⟩
section
variable {X : Cx} {a b c e : Expr} {es rest : List Expr} {fa fb fc f : DTE} {ft fu : DTT} {fs : DTA} {pos p : Pos}
theorem pt_imp {t t' : TT} (h : PT X e t) (f : ∀ σ H Q, t' σ H Q → t σ H Q) : PT X e t' := ⟨fun pins s σ H Q I q => h.run pins s σ H Q I (f σ H Q q)⟩
theorem pw_imp {t t' : TT} (h : PW X e t) (f : ∀ σ H Q, t' σ H Q → t σ H Q) : PW X e t' := ⟨fun wh pins s σ H Q I q => h.run wh pins s σ H Q I (f σ H Q q)⟩
theorem pa_imp {t t' : TA} (h : PA X es t) (f : ∀ σ H Q, t' σ H Q → t σ H Q) : PA X es t' := ⟨fun po pins s σ H Q I q => h.run po pins s σ H Q I (f σ H Q q)⟩
/-! ### names, constants -/
def gVar (i : Nat) : DTE := fun δ M Q => match δ[i]? with | some (some v) => Q v M | _ => False
theorem dn (i : Nat) {x : Str} {pos : Pos} (hN : X.N[i]? = some x := by rfl) (hv : Vis X.env.scope x := by first | exact Or.inl rfl | exact Or.inr (Or.inl rfl) | exact Or.inr (Or.inr rfl))
    (hd : (x == ("__debug__" : Str)) = false := by decide) (hcd : (x == ("__classdict__" : Str)) = false := by decide) : DE X (.Name x pos) (gVar i) :=
  imp (pe_var hN hv hd hcd) fun σ H Q ⟨δ, F, W, M, Qd, e, s, h, k⟩ => by
    unfold gVar at h
    split at h
    · rename_i d q
      obtain ⟨v, q', r⟩ := e.get q
      exact ⟨v, q', k.now s r h⟩
    · exact h.elim
def gC (d : Da) : DTE := fun _ M Q => Q d M
theorem d_const {v : V} {d : Da} (h : PE X e (tC v)) (r : ∀ W H, RD X.K W H v d) : DE X e (gC d) := imp h fun σ H Q ⟨δ, F, W, M, Qd, e, s, h, k⟩ => k.now s (r W H) h
theorem d_int {i j pos} : DE X (.Constant (.int i) j pos) (gC (.int i)) := d_const pe_int fun _ _ => .int _
theorem d_bl {b j pos} : DE X (.Constant (.bool b) j pos) (gC (.bl b)) := d_const pe_bl fun _ _ => .bl _
theorem d_non {j pos} : DE X (.Constant .none j pos) (gC .non) := d_const pe_non fun _ _ => .non
theorem d_str {x j pos} : DE X (.Constant (.str x) j pos) (gC (.str x)) := d_const pe_str fun _ _ => .str _
theorem d_ty {T : String} {x : Str} (m : X.mg x = none) (hv : bootBuiltins x = some (.type T)) (hg : Gl X x := by rfl) (hn : x ≠ "__name__" := by decide) (hd : (x == ("__debug__" : Str)) = false := by decide) : DE X (.Name x pos) (gC (.ty T)) := d_const (e_ty m hv hg hn hd) fun _ _ => .ty _
theorem d_glob {x : Str} {a : Addr} (hm : X.mg x = some (.ref a)) (hg : Gl X x := by rfl) (hd : (x == ("__debug__" : Str)) = false := by decide) : DE X (.Name x pos) (gC (.ref a)) := d_const (v := .ref a) (pe_glob hg hm rfl hd) fun _ _ => .ref _
theorem d_gs {x z : Str} (h : ∃ t, X.mg x = some (.str z t)) (hg : Gl X x := by rfl) (hd : (x == ("__debug__" : Str)) = false := by decide) : DE X (.Name x pos) (gC (.str z)) := d_const (e_gs h hg hd) fun _ _ => .str _
theorem d_gi {x : Str} {z : Int} (h : ∃ t, X.mg x = some (.int z t)) (hg : Gl X x := by rfl) (hd : (x == ("__debug__" : Str)) = false := by decide) : DE X (.Name x pos) (gC (.int z)) := d_const (e_gi h hg hd) fun _ _ => .int _
/-! ### operations -/
abbrev D2 := Da → Da → Mm → DK → Prop
def L2o (K : PySem.W.Frag) (g : D2) : R2 := fun x y H Q => ∃ F W M d e Qd, RD K W H x d ∧ RD K W H y e ∧ Stt K F W M H ∧ g d e M Qd ∧ Kt (rE K) K F W H Qd Q
def DO (X : Cx) (f : Value → Value → Sem Value) (g : D2) : Prop := OpR X f (L2o X.K g)
def gOp (g : D2) (fa fb : DTE) : DTE := fun δ M Q => fa δ M fun x M1 => fb δ M1 fun y M2 => g x y M2 Q
theorem li_op {K : PySem.W.Frag} {g : D2} {σ : L2.St} {H : Hp} {Q : VK} (h : Li (rE K) K (gOp g fa fb) σ H Q) : tOp (L2o K g) (Li (rE K) K fa) (Li (rE K) K fb) σ H Q := by
  obtain ⟨δ, F, W, M, Qd, e, s, h, k⟩ := h
  exact ⟨δ, F, W, M, _, e, s, h, fun v H1 W1 d M1 g1 s1 r1 q1 => ⟨δ, F, W1, M1, _, e.mono g1, s1, q1, fun u H2 W2 d2 M2 g2 s2 r2 q2 => ⟨F, W2, M2, d, d2, Qd, r1.mono g2, r2, s2, q2, k.mono (g1.trans g2)⟩⟩⟩
theorem d_op {op : Operator} {g : D2} (ho : DO X (binaryOp op) g) (ha : DE X a fa) (hb : DE X b fb) : DE X (.BinOp a op b pos) (gOp g fa fb) := imp (pe_op ho ha hb) fun _ _ _ h => li_op h
/-- an operation of scalars -/
theorem do_imp {f : Value → Value → Sem Value} {g : D2} (h : ∀ x y H Q, L2o X.K g x y H Q → ∃ r : R2, OpR X f r ∧ r x y H Q) : DO X f g := opCases h
/-- a size that is small enough -/
def Sz (n : Nat) : Prop := Nat.ble n 1000000 = true
theorem sz {n : Nat} (h : n ≤ 1000000) : Sz n := Nat.ble_eq.mpr h
theorem Sz.le {n : Nat} (h : Sz n) : n ≤ 1000000 := Nat.ble_eq.mp h
theorem Sz.ok {n : Nat} (h : Sz n) : n ≤ sizeLine := by have := h.le; rw [sizeLine_eq]; omega
/-- a new settled row -/
theorem Kt.newL {K : PySem.W.Frag} {F W : Addr → Prop} {M : Mm} {H : Hp} {Qd : DK} {Q : VK} {q : Addr} {vs : List V} {ds : List Da} (k : Kt (rE K) K F W H Qd Q) (s : Stt K F W M H) (h : H q = none) (r : RDs K W H vs ds) (z : Qd (.lst ds) M) : Q (.ref q) (upd H q (.lst vs)) := by
  obtain ⟨s1, g1⟩ := s.new h (.lst vs)
  exact (k.mono g1).now s1 (.lst (.inl ⟨.inl rfl, .inl upd_same⟩) (r.mono g1)) z
theorem Kt.newT {K : PySem.W.Frag} {F W : Addr → Prop} {M : Mm} {H : Hp} {Qd : DK} {Q : VK} {q : Addr} {vs : List V} {ds : List Da} (k : Kt (rE K) K F W H Qd Q) (s : Stt K F W M H) (h : H q = none) (r : RDs K W H vs ds) (z : Qd (.tup ds) M) : Q (.ref q) (upd H q (.tup vs)) := by
  obtain ⟨s1, g1⟩ := s.new h (.tup vs)
  exact (k.mono g1).now s1 (.tup (.inl ⟨.inl rfl, .inl upd_same⟩) (r.mono g1)) z
theorem Kt.newM {K : PySem.W.Frag} {F W : Addr → Prop} {M : Mm} {H : Hp} {Qd : DK} {Q : VK} {q : Addr} {vs : List V} {ds : List Da} (k : Kt (rE K) K F W H Qd Q) (s : Stt K F W M H) (h : H q = none) (r : RDs K W H vs ds) (z : ∀ p, M p = none → Qd (.ref p) (mput M p (.lst ds))) : Q (.ref q) (upd H q (.lst vs)) :=
  (k.mono (grow_new s h)).now (s.newM h (.lst r)) (.ref q) (z q (s.freeM h))
/-- list + list, whatever they are -/
def rCatL (K : PySem.W.Frag) : R2 := fun x y H Q => ∃ l b xs zs, x = .ref l ∧ y = .ref b ∧ SqL K H l xs ∧ SqL K H b zs ∧ xs.length + zs.length ≤ sizeLine ∧ ∀ p, H p = none → Q (.ref p) (upd H p (.lst (xs ++ zs)))
theorem op_catL : OpR X (binaryOp .Add) (rCatL X.K) := by
  intro pins s σ H x y v u Q I rx ry h
  obtain ⟨l, b, xs, zs, rfl, rfl, hH, hB, hz, q⟩ := h
  cases rx
  cases ry
  obtain ⟨its, r, ⟨⟨cls, dd, data, sl⟩, n, ho, hc, _, hd⟩, h1⟩ := I.list hH
  obtain ⟨its2, r2, ⟨⟨cls2, dd2, data2, sl2⟩, n2, ho2, hc2, _, hd2⟩, h2⟩ := I.list hB
  simp only at hc hd hc2 hd2
  subst hc hd hc2 hd2
  have l1 := r.length
  have l2 := r2.length
  refine concat_meets ⟨_, ho, rfl⟩ ⟨_, ho2, rfl⟩ noFill_list_add seq_list_add PySem.F.slot_list_add PySem.F.entry_list_add (PySem.F.args_list_add_2 _ _) (PyProof.Rows.list_addW l b its.toArray its2.toArray n n2 _ _ sl sl2 (by rw [List.size_toArray, List.size_toArray]; omega)) ⟨ho, ho2, ?_⟩
  have ea : its.toArray ++ its2.toArray = (its ++ its2).toArray := by simp
  rw [ea]
  exact ⟨.ref _, _, I.lnew (t' := s.toks) (r.append r2) (by rw [List.length_append]; omega), rfl, q _ I.fresh⟩
/-- what a row's items are -/
def lstK (x : Da) (M : Mm) (k : List Da → Prop) : Prop := match x with
  | .lst xs => k xs
  | .ref p => ∃ xs, M p = some (.lst xs) ∧ k xs
  | _ => False
theorem lst_of {K : PySem.W.Frag} {F W : Addr → Prop} {H : Hp} {M : Mm} {v : V} {d : Da} (s : Stt K F W M H) (r : RD K W H v d) {k : List Da → Prop} (h : lstK d M k) : ∃ a vs ds, v = .ref a ∧ SqL K H a vs ∧ RDs K W H vs ds ∧ k ds := by
  cases r with
  | lst hs rv => exact ⟨_, _, _, rfl, hs.sq, rv, h⟩
  | ref p =>
    obtain ⟨xs, hm, h⟩ := h
    obtain ⟨u, hu, mr⟩ := s.mem _ _ hm
    cases mr with
    | lst rv => exact ⟨_, _, _, rfl, SqL.of hu, rv, h⟩
  | _ => exact h.elim
def hAdd : D2 := fun x y M Q => match x, y with
  | .int i, .int j => Q (.int (i + j)) M
  | .int i, .bl k => Q (.int (i + b2i k)) M
  | .str a, .str b => a.length + b.length ≤ sizeLine ∧ Q (.str (a ++ b)) M
  | .tup xs, .tup ys => Sz (xs.length + ys.length) ∧ Q (.tup (xs ++ ys)) M
  | .lst xs, y => lstK y M fun ys => Sz (xs.length + ys.length) ∧ Q (.lst (xs ++ ys)) M
  | .ref p, y => ∃ xs, M p = some (.lst xs) ∧ lstK y M fun ys => Sz (xs.length + ys.length) ∧ Q (.lst (xs ++ ys)) M
  | _, _ => False
theorem o_dadd : DO X (binaryOp .Add) hAdd := do_imp fun x y H Q ⟨F, W, M, d, e, Qd, r1, r2, s, h, k⟩ => by
  unfold hAdd at h
  split at h
  · cases r1; cases r2; exact ⟨_, o_add, k.now s (.int _) h⟩
  · cases r1; cases r2; exact ⟨_, o_add, k.now s (.int _) h⟩
  · cases r1; cases r2; exact ⟨_, o_add, h.1, k.now s (.str _) h.2⟩
  · cases r1 with
    | @tup a vs _ hs rv =>
      cases r2 with
      | @tup b ws _ ht rw_ =>
        refine ⟨_, op_catA, _, _, vs, ws, rfl, rfl, hs.sq, ht.sq, by rw [rv.length, rw_.length]; exact h.1.ok, fun e => ?_, fun _ e => ?_, fun _ _ p hp => ?_⟩
        · subst e
          cases rv
          exact k.now s (.tup ht rw_) h.2
        · subst e
          cases rw_
          have q := h.2
          rw [List.append_nil] at q
          exact k.now s (.tup hs rv) q
        · exact k.newT s hp (rv.append rw_) h.2
  · cases r1 with
    | lst hs rv =>
      obtain ⟨b, ws, ds, rfl, ht, rw_, hz, q⟩ := lst_of s r2 h
      exact ⟨_, op_catL, _, b, _, ws, rfl, rfl, hs.sq, ht, by rw [rv.length, rw_.length]; exact hz.ok, fun p hp => k.newL s hp (rv.append rw_) q⟩
  · cases r1
    obtain ⟨xs, hm, h⟩ := h
    obtain ⟨a, vs, ds, e1, hs, rv, hz, q⟩ := lst_of (k := fun ds => ds = xs ∧ lstK e M fun ys => Sz (ds.length + ys.length) ∧ Qd (.lst (ds ++ ys)) M) s (.ref _) ⟨xs, hm, rfl, h⟩
    cases e1
    obtain ⟨b, ws, es, rfl, ht, rw_, hz2, q2⟩ := lst_of s r2 q
    exact ⟨_, op_catL, _, b, _, ws, rfl, rfl, hs, ht, by rw [rv.length, rw_.length]; exact hz2.ok, fun p hp => k.newL s hp (rv.append rw_) q2⟩
  · exact h.elim
def hSub : D2 := fun x y M Q => match x, y with
  | .int i, .int j => Q (.int (i - j)) M
  | _, _ => False
theorem o_dsub : DO X (binaryOp .Sub) hSub := do_imp fun x y H Q ⟨F, W, M, d, e, Qd, r1, r2, s, h, k⟩ => by
  refine ⟨_, o_sub, ?_⟩
  cases r1 <;> cases r2 <;> first | exact h.elim | exact k.now s (.int _) h
theorem RDs.flat_rep {K : PySem.W.Frag} {W : Addr → Prop} {H : Hp} {vs : List V} {ds : List Da} (r : RDs K W H vs ds) : ∀ n : Nat, RDs K W H (List.replicate n vs).flatten (List.replicate n ds).flatten
  | 0 => .nil
  | n + 1 => by
    rw [List.replicate_succ, List.replicate_succ, List.flatten_cons, List.flatten_cons]
    exact r.append (RDs.flat_rep r n)
def rRepL (K : PySem.W.Frag) : R2 := fun x y H Q => ∃ l k xs, x = .ref l ∧ y = .int k ∧ SqL K H l xs ∧ -(2 ^ 63) ≤ k ∧ k < 2 ^ 63 ∧ xs.length * k.toNat ≤ sizeLine ∧
  ∀ p, H p = none → Q (.ref p) (upd H p (.lst (List.replicate k.toNat xs).flatten))
theorem op_repL : OpR X (binaryOp .Mult) (rRepL X.K) := by
  intro pins s σ H x y v u Q I rx ry h
  obtain ⟨l, k, xs, rfl, rfl, hH, h1, h2, hz, q⟩ := h
  cases rx
  obtain ⟨t, rfl⟩ := ry
  obtain ⟨its, r, ⟨⟨cls, dd, data, sl⟩, n, e, hc, _, hd⟩, _⟩ := I.list hH
  simp only at hc hd
  subst hc hd
  have hl := r.length
  have hlen : its.toArray.size * k.toNat ≤ sizeLine := by rw [List.size_toArray, ← hl]; exact hz
  have hcap : ¬ its.toArray.size * k.toNat > (2 ^ 63 - 1) / 8 := by
    have : (sizeLine : Nat) ≤ (2 ^ 63 - 1) / 8 := by decide
    omega
  have hfit : ¬ (!Builtin.List.listFitsIndex k) = true := by
    rw [fitsIndex_both h1 h2]
    exact Bool.false_ne_true
  have hlong : ¬ Builtin.List.listTooLong (its.toArray.size * k.toNat) = true := by
    rw [notLongL hlen]
    exact Bool.false_ne_true
  have hnew : List.foldl (fun x1 x2 => x1 ++ x2) #[] (List.replicate (if its.toArray.isEmpty = true then 0 else k.toNat) its.toArray) = (List.replicate k.toNat its).flatten.toArray := by
    have f0 : ∀ m : Nat, List.foldl (fun x1 x2 => x1 ++ x2) #[] (List.replicate m its.toArray) = (List.replicate m its).flatten.toArray := fun m => by
      have := foldl_rep its m []
      rw [List.nil_append] at this
      exact this
    rw [f0]
    cases its with
    | nil => simp
    | cons a r' => rw [if_neg (by simp)]
  refine wpAny_binaryOp_repeat_ref (T := "list") (U := "int") (by decide) ⟨_, e, rfl⟩ (fun s' => typeIs_int s' k t) noFill_list_mul F.fills_int_mul F.slot_int_rmul repeat_list F.slot_int_index.lookup
    (call_meets F.slot_int_rmul (typeIs_int s k t) F.entry_int_rmul (F.args_int_rmul_2 _ _) (lm_int_rmul_list_any k t l its.toArray n _ sl)
      ⟨e, rfl, ⟨_, e, rfl⟩, call_meets F.slot_list_mul ⟨_, e, rfl⟩ F.entry_list_mul (F.args_list_mul_2 _ _) (lm_list_mul_any l its.toArray n _ sl k t hfit hcap hlong) ⟨e, ?_⟩⟩)
  rw [hnew]
  exact ⟨.ref _, _, I.lnew (t' := s.toks) (r.rep k.toNat) (by rw [PyProof.Rows.lm_len_rep_flat, Nat.mul_comm]; exact hz), rfl, q _ I.fresh⟩
def hMul : D2 := fun x y M Q => match x, y with
  | .int i, .int j => CMul i j ∧ Q (.int (i * j)) M
  | .tup xs, .int k => xs ≠ [] ∧ 2 ≤ k ∧ k ≤ 1000 ∧ xs.length ≤ 1000 ∧ Q (.tup (List.replicate k.toNat xs).flatten) M
  | .lst xs, .int k => k ≤ 1000 ∧ -1000 ≤ k ∧ xs.length ≤ 1000 ∧ Q (.lst (List.replicate k.toNat xs).flatten) M
  | _, _ => False
theorem o_dmul : DO X (binaryOp .Mult) hMul := do_imp fun x y H Q ⟨F, W, M, d, e, Qd, r1, r2, s, h, k⟩ => by
  unfold hMul at h
  split at h
  · cases r1; cases r2; exact ⟨_, o_mul, h.1, k.now s (.int _) h.2⟩
  · cases r1 with
    | @tup a vs _ hs rv =>
      cases r2
      exact ⟨_, op_repT, _, _, vs, rfl, rfl, hs.sq, fun e => h.1 (by subst e; cases rv; rfl), h.2.1, h.2.2.1, by rw [rv.length]; exact h.2.2.2.1, fun p hp => k.newT s hp (rv.flat_rep _) h.2.2.2.2⟩
  · cases r1 with
    | @lst a vs _ hs rv =>
      cases r2
      obtain ⟨h1, h2, h3, q⟩ := h
      have key : ∀ j : Int, j ≤ 1000 → vs.length * j.toNat ≤ sizeLine := fun j hj => by
        rw [rv.length, sizeLine_eq]
        have := Nat.mul_le_mul h3 (show j.toNat ≤ 1000 by omega)
        omega
      exact ⟨_, op_repL, _, _, vs, rfl, rfl, hs.sq, by omega, by omega, key _ h1, fun p hp => k.newL s hp (rv.flat_rep _) q⟩
  · exact h.elim
def hDiv : D2 := fun x y M Q => match x, y with
  | .int i, .int j => CDiv i j ∧ Q (.int (i / j)) M
  | _, _ => False
theorem o_ddiv : DO X (binaryOp .FloorDiv) hDiv := do_imp fun x y H Q ⟨F, W, M, d, e, Qd, r1, r2, s, h, k⟩ => by
  refine ⟨_, o_div, ?_⟩
  cases r1 <;> cases r2 <;> first | exact h.elim | exact ⟨h.1, k.now s (.int _) h.2⟩
def hMod : D2 := fun x y M Q => match x, y with
  | .int i, .int j => 0 < j ∧ Q (.int (i % j)) M
  | _, _ => False
theorem o_dmod : DO X (binaryOp .Mod) hMod := do_imp fun x y H Q ⟨F, W, M, d, e, Qd, r1, r2, s, h, k⟩ => by
  refine ⟨_, o_mod, ?_⟩
  cases r1 <;> cases r2 <;> first | exact h.elim | exact ⟨h.1, k.now s (.int _) h.2⟩
def hPow : D2 := fun x y M Q => match x, y with
  | .int i, .int j => CPowW i j ∧ Q (.int (i ^ j.toNat)) M
  | _, _ => False
theorem o_dpow : DO X (binaryOp .Pow) hPow := do_imp fun x y H Q ⟨F, W, M, d, e, Qd, r1, r2, s, h, k⟩ => by
  refine ⟨_, o_pow, ?_⟩
  cases r1 <;> cases r2 <;> first | exact h.elim | exact ⟨h.1, k.now s (.int _) h.2⟩
def hOr : D2 := fun x y M Q => match x, y with
  | .int i, .int j => Q (.int (Builtin.bitOr i j)) M
  | _, _ => False
theorem o_dor : DO X (binaryOp .BitOr) hOr := do_imp fun x y H Q ⟨F, W, M, d, e, Qd, r1, r2, s, h, k⟩ => by
  refine ⟨_, op_or, ?_⟩
  cases r1 <;> cases r2 <;> first | exact h.elim | exact ⟨_, _, rfl, rfl, k.now s (.int _) h⟩
def hAnd : D2 := fun x y M Q => match x, y with
  | .int i, .int j => Q (.int (Builtin.bitAnd i j)) M
  | _, _ => False
theorem o_dand : DO X (binaryOp .BitAnd) hAnd := do_imp fun x y H Q ⟨F, W, M, d, e, Qd, r1, r2, s, h, k⟩ => by
  refine ⟨_, op_and, ?_⟩
  cases r1 <;> cases r2 <;> first | exact h.elim | exact ⟨_, _, rfl, rfl, k.now s (.int _) h⟩
def hXor : D2 := fun x y M Q => match x, y with
  | .int i, .int j => Q (.int (Builtin.bitXor i j)) M
  | _, _ => False
theorem o_dxor : DO X (binaryOp .BitXor) hXor := do_imp fun x y H Q ⟨F, W, M, d, e, Qd, r1, r2, s, h, k⟩ => by
  refine ⟨_, op_xor, ?_⟩
  cases r1 <;> cases r2 <;> first | exact h.elim | exact ⟨_, _, rfl, rfl, k.now s (.int _) h⟩
def gNeg (f : DTE) : DTE := fun δ M Q => f δ M fun x M1 => match x with
  | .int i => Q (.int (-i)) M1
  | _ => False
theorem d_neg (h : DE X e f) : DE X (.UnaryOp .USub e pos) (gNeg f) := imp (pe_un un_neg h) fun σ H Q ⟨δ, F, W, M, Qd, ev, s, h, k⟩ =>
  ⟨δ, F, W, M, _, ev, s, h, fun v H1 W1 d M1 g1 s1 r1 q1 => by
    cases r1 <;> first | exact q1.elim | exact ⟨_, rfl, (k.mono g1).now s1 (.int _) q1⟩⟩
/-! ### data as the library has it -/
mutual
def toP : Da → PyData
  | .non => .none
  | .bl b => .bool b
  | .int i => .int i
  | .str x => .str x
  | .ty _ => .none
  | .lst xs => .list (toPs xs)
  | .tup xs => .tuple (toPs xs)
  | .obj _ _ => .none
  | .ref _ => .none
  | .dct _ => .none
def toPs : List Da → List PyData
  | [] => []
  | x :: xs => toP x :: toPs xs
end
mutual
/-- data without things that change -/
def pure? : Da → Bool
  | .lst xs => pures? xs
  | .tup xs => pures? xs
  | .obj _ _ => false
  | .ref _ => false
  | .ty _ => false
  | .dct _ => false
  | _ => true
def pures? : List Da → Bool
  | [] => true
  | x :: xs => pure? x && pures? xs
end
mutual
theorem RD.dp {K : PySem.W.Frag} {W : Addr → Prop} {H : Hp} : ∀ {v : V} {d : Da}, RD K W H v d → pure? d = true → Dp K H v (toP d)
  | _, _, .non, _ => .non
  | _, _, .bl b, _ => .bl b
  | _, _, .int i, _ => .int i
  | _, _, .str x, _ => .str x
  | _, _, .ty x, h => nomatch h
  | _, _, .ref x, h => nomatch h
  | _, _, .lst h k, q => .lst h.sq (RDs.dp k q)
  | _, _, .tup h k, q => .tup h.sq (RDs.dp k q)
  | _, _, .obj _ _ _, h => nomatch h
  | _, _, .dct _ _ _, h => nomatch h
theorem RDs.dp {K : PySem.W.Frag} {W : Addr → Prop} {H : Hp} : ∀ {vs : List V} {ds : List Da}, RDs K W H vs ds → pures? ds = true → DpAll K H vs (toPs ds)
  | _, _, .nil, _ => .nil
  | _, _, .cons h k, q => by
    have q' := (Bool.and_eq_true_iff.mp q)
    exact .cons (RD.dp h q'.1) (RDs.dp k q'.2)
end
def eqD (x y : Da) : Bool := PyData.eqv (toP x) (toP y)
/-- what == may be asked -/
def okD (x : Da) : Bool := pure? x && SeqAt.shaped (toP x)
theorem okD.pure {x : Da} (h : okD x = true) : pure? x = true := (Bool.and_eq_true_iff.mp h).1
theorem okD.shp {x : Da} (h : okD x = true) : SeqAt.shaped (toP x) = true := (Bool.and_eq_true_iff.mp h).2
def hEq : D2 := fun x y M Q => match x, y with
  | .int i, .int j => Q (.bl (decide (i = j))) M
  | .str a, .str b => Q (.bl (decide (a = b))) M
  | .bl a, .bl b => Q (.bl (decide (a = b))) M
  | x, y => okD x = true ∧ okD y = true ∧ Q (.bl (eqD x y)) M
def hNe : D2 := fun x y M Q => match x, y with
  | .int i, .int j => Q (.bl (!decide (i = j))) M
  | .str a, .str b => Q (.bl (!decide (a = b))) M
  | .bl a, .bl b => Q (.bl (!decide (a = b))) M
  | x, y => okD x = true ∧ okD y = true ∧ Q (.bl (!eqD x y)) M
theorem o_deq (hu : X.A.units + 64 < cLine) : DO X (compareOp .Eq) hEq := do_imp fun x y H Q ⟨F, W, M, d, e, Qd, r1, r2, s, h, k⟩ => by
  have gen : okD d = true ∧ okD e = true ∧ Qd (.bl (eqD d e)) M → ∃ r : R2, OpR X (compareOp .Eq) r ∧ r x y H Q := fun ⟨h1, h2, h3⟩ =>
    ⟨_, op_eqD hu, _, _, r1.dp (okD.pure h1), r2.dp (okD.pure h2), okD.shp h1, okD.shp h2, k.now s (.bl _) h3⟩
  have sc : ∀ {b : Bool}, OpR X (compareOp .Eq) (fEq X.K) := o_eq hu
  unfold hEq at h
  split at h
  · cases r1; cases r2; exact ⟨_, o_eq hu, k.now s (.bl _) h⟩
  · cases r1; cases r2; exact ⟨_, o_eq hu, k.now s (.bl _) h⟩
  · cases r1; cases r2; exact ⟨_, o_eq hu, k.now s (.bl _) h⟩
  · exact gen h
theorem o_dne (hu : X.A.units + 64 < cLine) : DO X (compareOp .NotEq) hNe := do_imp fun x y H Q ⟨F, W, M, d, e, Qd, r1, r2, s, h, k⟩ => by
  have gen : okD d = true ∧ okD e = true ∧ Qd (.bl (!eqD d e)) M → ∃ r : R2, OpR X (compareOp .NotEq) r ∧ r x y H Q := fun ⟨h1, h2, h3⟩ =>
    ⟨_, op_neD hu, _, _, r1.dp (okD.pure h1), r2.dp (okD.pure h2), okD.shp h1, okD.shp h2, k.now s (.bl _) h3⟩
  unfold hNe at h
  split at h
  · cases r1; cases r2; exact ⟨_, o_ne hu, k.now s (.bl _) h⟩
  · cases r1; cases r2; exact ⟨_, o_ne hu, k.now s (.bl _) h⟩
  · cases r1; cases r2; exact ⟨_, o_ne hu, k.now s (.bl _) h⟩
  · exact gen h
def hLt : D2 := fun x y M Q => match x, y with
  | .int i, .int j => Q (.bl (decide (i < j))) M
  | .str a, .str b => Q (.bl (decide (a.cps.toList < b.cps.toList))) M
  | _, _ => False
def hLe : D2 := fun x y M Q => match x, y with
  | .int i, .int j => Q (.bl (decide (i ≤ j))) M
  | .str a, .str b => Q (.bl (!decide (b.cps.toList < a.cps.toList))) M
  | _, _ => False
def hGt : D2 := fun x y M Q => match x, y with
  | .int i, .int j => Q (.bl (decide (j < i))) M
  | .str a, .str b => Q (.bl (decide (b.cps.toList < a.cps.toList))) M
  | _, _ => False
def hGe : D2 := fun x y M Q => match x, y with
  | .int i, .int j => Q (.bl (decide (j ≤ i))) M
  | .str a, .str b => Q (.bl (!decide (a.cps.toList < b.cps.toList))) M
  | _, _ => False
theorem o_dlt : DO X (compareOp .Lt) hLt := do_imp fun x y H Q ⟨F, W, M, d, e, Qd, r1, r2, s, h, k⟩ => by
  refine ⟨_, o_lt, ?_⟩
  cases r1 <;> cases r2 <;> first | exact h.elim | exact k.now s (.bl _) h
theorem o_dle : DO X (compareOp .LtE) hLe := do_imp fun x y H Q ⟨F, W, M, d, e, Qd, r1, r2, s, h, k⟩ => by
  refine ⟨_, o_le, ?_⟩
  cases r1 <;> cases r2 <;> first | exact h.elim | exact k.now s (.bl _) h
theorem o_dgt : DO X (compareOp .Gt) hGt := do_imp fun x y H Q ⟨F, W, M, d, e, Qd, r1, r2, s, h, k⟩ => by
  refine ⟨_, o_gt, ?_⟩
  cases r1 <;> cases r2 <;> first | exact h.elim | exact k.now s (.bl _) h
theorem o_dge : DO X (compareOp .GtE) hGe := do_imp fun x y H Q ⟨F, W, M, d, e, Qd, r1, r2, s, h, k⟩ => by
  refine ⟨_, o_ge, ?_⟩
  cases r1 <;> cases r2 <;> first | exact h.elim | exact k.now s (.bl _) h
def isNon : Da → Bool
  | .non => true
  | _ => false
theorem RD.isNon {K : PySem.W.Frag} {W : Addr → Prop} {H : Hp} {v : V} {d : Da} (r : RD K W H v d) : decide (v = .non) = isNon d := by cases r <;> rfl
def hIsN : D2 := fun x y M Q => match y with
  | .non => Q (.bl (isNon x)) M
  | _ => False
def hNotN : D2 := fun x y M Q => match y with
  | .non => Q (.bl (!isNon x)) M
  | _ => False
theorem o_disN : DO X (compareOp .Is) hIsN := do_imp fun x y H Q ⟨F, W, M, d, e, Qd, r1, r2, s, h, k⟩ => by
  refine ⟨_, o_isN, ?_⟩
  cases r2 <;> first | exact h.elim | skip
  show Q (.bl _) H
  rw [r1.isNon]; exact k.now s (.bl _) h
theorem o_dnotN : DO X (compareOp .IsNot) hNotN := do_imp fun x y H Q ⟨F, W, M, d, e, Qd, r1, r2, s, h, k⟩ => by
  refine ⟨_, o_notN, ?_⟩
  cases r2 <;> first | exact h.elim | skip
  show Q (.bl _) H
  rw [r1.isNon]; exact k.now s (.bl _) h
/-! ### in -/
def subS (i j : Str) : Bool := !(Builtin.Str.occurrences j i 0 j.length 1).isEmpty
/-- scalars -/
def flatA : Da → Bool
  | .non | .bl _ | .int _ | .str _ => true
  | _ => false
theorem flatA_all : ∀ {ds : List Da}, ds.all flatA = true → pures? ds = true
  | [], _ => rfl
  | d :: ds, h => by
    rw [List.all_cons, Bool.and_eq_true] at h
    show (pure? d && pures? ds) = true
    rw [flatA_all h.2, Bool.and_true]
    cases d <;> first | rfl | exact absurd h.1 (by simp [flatA])
theorem toPs_eq : ∀ ds : List Da, toPs ds = ds.map toP
  | [] => rfl
  | d :: ds => by rw [List.map_cons, ← toPs_eq ds]; rfl
/-- x in a row: by what == says -/
def inD (x : Da) (xs : List Da) : Bool := xs.any fun z => eqD z x
theorem RD.flat {K : PySem.W.Frag} {W : Addr → Prop} {H : Hp} {v : V} {d : Da} (r : RD K W H v d) (h : flatA d = true) : flatV v = true := by
  cases r <;> first | rfl | exact absurd h (by simp [flatA])
theorem RDs.flat {K : PySem.W.Frag} {W : Addr → Prop} {H : Hp} : ∀ {vs : List V} {ds : List Da}, RDs K W H vs ds → ds.all flatA = true → vs.all flatV = true
  | _, _, .nil, _ => rfl
  | _, _, .cons h k, q => by
    rw [List.all_cons, Bool.and_eq_true] at q ⊢
    exact ⟨h.flat q.1, RDs.flat k q.2⟩
theorem eqV_D {K : PySem.W.Frag} {W : Addr → Prop} {H : Hp} {v u : V} {d e : Da} (r : RD K W H v d) (q : RD K W H u e) (h1 : flatA d = true) (h2 : flatA e = true) : eqV v u = eqD d e := by
  cases r <;> first | exact absurd (show false = true from h1) Bool.false_ne_true | skip
  all_goals (cases q <;> first | exact absurd (show false = true from h2) Bool.false_ne_true | rfl | skip)
theorem inV_D {K : PySem.W.Frag} {W : Addr → Prop} {H : Hp} {v : V} {d : Da} (r : RD K W H v d) (h1 : flatA d = true) : ∀ {vs : List V} {ds : List Da}, RDs K W H vs ds → ds.all flatA = true → inV v vs = inD d ds
  | _, _, .nil, _ => rfl
  | _, _, .cons h k, q => by
    rw [List.all_cons, Bool.and_eq_true] at q
    have := inV_D r h1 k q.2
    unfold inV inD at this ⊢
    rw [List.any_cons, List.any_cons, eqV_D h r q.1 h1, this]
def flat2 (x : Da) (xs : List Da) : Bool := flatA x && xs.all flatA
def hInG (neg : Bool) : D2 := fun x y M Q => match x, y with
  | .str i, .str j => Q (.bl (if neg then !subS i j else subS i j)) M
  | x, .lst xs => (flat2 x xs || okD x && okD (.lst xs)) = true ∧ Q (.bl (if neg then !inD x xs else inD x xs)) M
  | x, .tup xs => flat2 x xs = true ∧ Q (.bl (if neg then !inD x xs else inD x xs)) M
  | x, .ref p => ∃ xs, M p = some (.lst xs) ∧ flat2 x xs = true ∧ Q (.bl (if neg then !inD x xs else inD x xs)) M
  | _, _ => False
theorem inD_list {d : Da} {ds : List Da} : (toPs ds).any (fun z => PyData.eqv z (toP d)) = inD d ds := by
  rw [toPs_eq, List.any_map]; rfl
theorem hIn_core {neg : Bool} (hu : X.A.units + 65 < cLine) {x y : V} {H : Hp} {Q : VK} {F W : Addr → Prop} {M : Mm} {d e : Da} {Qd : DK} (r1 : RD X.K W H x d) (r2 : RD X.K W H y e) (s : Stt X.K F W M H) (h : hInG neg d e M Qd) (k : Kt (rE X.K) X.K F W H Qd Q) :
    (∃ i j, x = .str i ∧ y = .str j ∧ Q (.bl (if neg then !subS i j else subS i j)) H) ∨ rIn X.K neg x y H Q ∨ (if neg then rNotInD X.K x y H Q else rInD X.K x y H Q) := by
  have fl : ∀ {a : Addr} {vs : List V} {ds : List Da}, y = .ref a → (SqL X.K H a vs ∨ SqT X.K H a vs) → RDs X.K W H vs ds → flat2 d ds = true → Qd (.bl (if neg then !inD d ds else inD d ds)) M → rIn X.K neg x y H Q := fun {a vs ds} ey hs rv f q => by
    have f' := Bool.and_eq_true_iff.mp f
    refine ⟨a, vs, ey, hs, r1.flat f'.1, rv.flat f'.2, ?_⟩
    rw [inV_D r1 f'.1 rv f'.2]
    exact k.now s (.bl _) q
  unfold hInG at h
  split at h
  · cases r1; cases r2; exact .inl ⟨_, _, rfl, rfl, k.now s (.bl _) h⟩
  · cases r2 with
    | lst hs rv =>
      obtain ⟨h1, h2⟩ := h
      rcases Bool.or_eq_true_iff.mp h1 with h1 | h1
      · exact .inr (.inl (fl rfl (.inl hs.sq) rv h1 h2))
      · have h1' := Bool.and_eq_true_iff.mp h1
        refine .inr (.inr ?_)
        cases neg with
        | true => exact ⟨_, _, r1.dp (okD.pure h1'.1), (RD.lst hs rv).dp (okD.pure h1'.2), okD.shp h1'.1, okD.shp h1'.2, by rw [inD_list]; exact k.now s (.bl _) h2⟩
        | false => exact ⟨_, _, r1.dp (okD.pure h1'.1), (RD.lst hs rv).dp (okD.pure h1'.2), okD.shp h1'.1, okD.shp h1'.2, by rw [inD_list]; exact k.now s (.bl _) h2⟩
  · cases r2 with
    | tup hs rv => exact .inr (.inl (fl rfl (.inr hs.sq) rv h.1 h.2))
  · cases r2 with
    | ref p =>
      obtain ⟨xs, hm, h1, h2⟩ := h
      obtain ⟨u, hu, mr⟩ := s.mem _ _ hm
      cases mr with
      | lst rv => exact .inr (.inl (fl rfl (.inl (SqL.of hu)) rv h1 h2))
  · exact h.elim
def hIn : D2 := hInG false
def hNin : D2 := hInG true
theorem o_din (hu : X.A.units + 65 < cLine) : DO X (compareOp .In) hIn := do_imp fun x y H Q ⟨F, W, M, d, e, Qd, r1, r2, s, h, k⟩ => by
  rcases hIn_core hu r1 r2 s h k with h | h | h
  · exact ⟨_, op_in_str, h⟩
  · exact ⟨_, op_in_seq, h⟩
  · exact ⟨_, op_inD hu, h⟩
theorem o_dnin (hu : X.A.units + 65 < cLine) : DO X (compareOp .NotIn) hNin := do_imp fun x y H Q ⟨F, W, M, d, e, Qd, r1, r2, s, h, k⟩ => by
  rcases hIn_core hu r1 r2 s h k with h | h | h
  · exact ⟨_, op_notin_str, h⟩
  · exact ⟨_, op_notIn_seq, h⟩
  · exact ⟨_, op_notInD hu, h⟩
/-! ### tests -/
def gTst (f : DTE) : DTT := fun δ M Q => f δ M fun x M1 => match x with
  | .bl k => Q k M1
  | _ => False
theorem li_tst {K : PySem.W.Frag} {f : DTE} {σ : L2.St} {H : Hp} {Q : Bool → Hp → Prop} (h : Li rT K (gTst f) σ H Q) : fTest (Li (rE K) K f) σ H Q := by
  obtain ⟨δ, F, W, M, Qd, e, s, h, k⟩ := h
  exact ⟨δ, F, W, M, _, e, s, h, fun v H1 W1 d M1 g1 s1 r1 q1 => by
    cases r1 <;> first | exact q1.elim | exact (k.mono g1).now s1 rfl q1⟩
theorem d_tcm {op : CmpOp} {g : D2} (ho : DO X (compareOp op) g) (ha : DE X a fa) (hb : DE X b fb) (hm : behindInMarks op b = false := by first | exact nomark _ | rfl) : DT X (.Compare a [op] [b] pos) (gTst (gOp g fa fb)) :=
  pt_imp (tcm ho ha hb hm) fun σ H Q ⟨δ, F, W, M, Qd, e, s, h, k⟩ => li_op ⟨δ, F, W, M, _, e, s, h, fun v H1 W1 d M1 g1 s1 r1 q1 => by
    cases r1 <;> first | exact q1.elim | exact (k.mono g1).now s1 rfl q1⟩
theorem d_ecm {op : CmpOp} {g : D2} (ho : DO X (compareOp op) g) (ha : DE X a fa) (hb : DE X b fb) (hm : behindInMarks op b = false := by first | exact nomark _ | rfl) : DE X (.Compare a [op] [b] pos) (gOp g fa fb) :=
  imp (ecm ho ha hb hm) fun _ _ _ h => li_op h
def gCh (g g' : D2) (fa fb fc : DTE) : DTE := fun δ M Q => fa δ M fun x M1 => fb δ M1 fun y M2 => g x y M2 fun z M3 => match z with
  | .bl k => if k = true then fc δ M3 fun w M4 => g' y w M4 Q else Q (.bl false) M3
  | _ => False
theorem li_ch {K : PySem.W.Frag} {g g' : D2} {σ : L2.St} {H : Hp} {Q : VK} (h : Li (rE K) K (gCh g g' fa fb fc) σ H Q) : fChain (L2o K g) (L2o K g') (Li (rE K) K fa) (Li (rE K) K fb) (Li (rE K) K fc) σ H Q := by
  obtain ⟨δ, F, W, M, Qd, e, s, h, k⟩ := h
  refine ⟨δ, F, W, M, _, e, s, h, fun v H1 W1 d M1 g1 s1 r1 q1 => ⟨δ, F, W1, M1, _, e.mono g1, s1, q1, fun u H2 W2 d2 M2 g2 s2 r2 q2 => ⟨F, W2, M2, d, d2, _, r1.mono g2, r2, s2, q2, fun z H3 W3 d3 M3 g3 s3 r3 q3 => ?_⟩⟩⟩
  cases r3 <;> first | exact q3.elim | skip
  rename_i c
  cases c with
  | true => exact ⟨δ, F, W3, M3, _, e.mono (g1.trans (g2.trans g3)), s3, q3, fun w H4 W4 d4 M4 g4 s4 r4 q4 => ⟨F, W4, M4, d2, d4, Qd, r2.mono (g3.trans g4), r4, s4, q4, k.mono (g1.trans (g2.trans (g3.trans g4)))⟩⟩
  | false => exact (k.mono (g1.trans (g2.trans g3))).now s3 (.bl _) q3
theorem d_ech {op op' : CmpOp} {g g' : D2} (ho : DO X (compareOp op) g) (ho' : DO X (compareOp op') g') (ha : DE X a fa) (hb : DE X b fb) (hc : DE X c fc) (hm : lastMarks [op, op'] [b, c] = false := by rfl) :
    DE X (.Compare a [op, op'] [b, c] pos) (gCh g g' fa fb fc) := imp (ech ho ho' ha hb hc hm) fun _ _ _ h => li_ch h
theorem d_tch {op op' : CmpOp} {g g' : D2} (ho : DO X (compareOp op) g) (ho' : DO X (compareOp op') g') (ha : DE X a fa) (hb : DE X b fb) (hc : DE X c fc) (hm : lastMarks [op, op'] [b, c] = false := by rfl) :
    DT X (.Compare a [op, op'] [b, c] pos) (gTst (gCh g g' fa fb fc)) := pt_imp (tch ho ho' ha hb hc hm) fun σ H Q ⟨δ, F, W, M, Qd, e, s, h, k⟩ => li_ch ⟨δ, F, W, M, _, e, s, h, fun v H1 W1 d M1 g1 s1 r1 q1 => by
    cases r1 <;> first | exact q1.elim | exact (k.mono g1).now s1 rfl q1⟩
/-- any value as a test -/
def gTru (f : DTE) : DTT := fun δ M Q => f δ M fun x M1 => match x with
  | .bl k => Q k M1
  | .non => Q false M1
  | .int i => Q (i != 0) M1
  | .str y => y.length ≤ sizeLine ∧ Q ((y.length : Int) != 0) M1
  | .lst xs => Q (!xs.isEmpty) M1
  | .tup xs => Q (!xs.isEmpty) M1
  | .ref p => ∃ xs, M1 p = some (.lst xs) ∧ Q (!xs.isEmpty) M1
  | _ => False
theorem RDs.emp {K : PySem.W.Frag} {W : Addr → Prop} {H : Hp} {vs : List V} {ds : List Da} (r : RDs K W H vs ds) : (!vs.isEmpty) = !ds.isEmpty := by cases r <;> rfl
theorem d_tv (ha : DE X e f) (he : ∀ whole, isTrue e X.env whole = (do let v ← whole; standAt e.pos; holding [v] (truthy v)) := by intro _; rfl) : DT X e (gTru f) :=
  pt_imp (tv ha he) fun σ H Q ⟨δ, F, W, M, Qd, ev, s, h, k⟩ => ⟨δ, F, W, M, _, ev, s, h, fun v H1 W1 d M1 g1 s1 r1 q1 => by
    have k1 := k.mono g1
    cases r1 with
    | non => exact k1.now s1 rfl q1
    | bl b => exact k1.now s1 rfl q1
    | int b => exact k1.now s1 rfl q1
    | str b => exact ⟨q1.1, k1.now s1 rfl q1.2⟩
    | lst hs rv => exact ⟨_, .inl ⟨_, hs.sq, rv.emp.symm⟩, k1.now s1 rfl q1⟩
    | tup hs rv => exact ⟨_, .inr (.inl ⟨_, hs.sq, rv.emp.symm⟩), k1.now s1 rfl q1⟩
    | ref p =>
      obtain ⟨xs, hm, q⟩ := q1
      obtain ⟨u, hu, mr⟩ := s1.mem _ _ hm
      cases mr with
      | lst rv => exact ⟨_, .inl ⟨_, SqL.of hu, rv.emp.symm⟩, k1.now s1 rfl q⟩
    | _ => exact q1.elim⟩
/-! ### and, or, not, if -/
def gAnd (t u : DTT) : DTT := fun δ M Q => t δ M fun c M1 => if c = true then u δ M1 Q else Q false M1
def gOr (t u : DTT) : DTT := fun δ M Q => t δ M fun c M1 => if c = true then Q true M1 else u δ M1 Q
def gNot (t : DTT) : DTT := fun δ M Q => t δ M fun c M1 => Q (!c) M1
theorem d_and1 (ha : DT X a ft) : DW X (.BoolOp .And [a] pos) ft := pw_and1 ha
theorem d_or1 (ha : DT X a ft) : DW X (.BoolOp .Or [a] pos) ft := pw_or1 ha
theorem d_and (ha : DT X a ft) (hb : DW X (.BoolOp .And (b :: rest) pos) fu) : DW X (.BoolOp .And (a :: b :: rest) pos) (gAnd ft fu) :=
  pw_imp (pw_and ha hb) fun σ H Q ⟨δ, F, W, M, Qd, ev, s, h, k⟩ => ⟨δ, F, W, M, _, ev, s, h, fun v H1 W1 d M1 g1 s1 r1 q1 => by
    cases r1
    cases v with
    | true => exact ⟨δ, F, W1, M1, Qd, ev.mono g1, s1, q1, k.mono g1⟩
    | false => exact (k.mono g1).now s1 rfl q1⟩
theorem d_or (ha : DT X a ft) (hb : DW X (.BoolOp .Or (b :: rest) pos) fu) : DW X (.BoolOp .Or (a :: b :: rest) pos) (gOr ft fu) :=
  pw_imp (pw_or ha hb) fun σ H Q ⟨δ, F, W, M, Qd, ev, s, h, k⟩ => ⟨δ, F, W, M, _, ev, s, h, fun v H1 W1 d M1 g1 s1 r1 q1 => by
    cases r1
    cases v with
    | false => exact ⟨δ, F, W1, M1, Qd, ev.mono g1, s1, q1, k.mono g1⟩
    | true => exact (k.mono g1).now s1 rfl q1⟩
theorem d_w (h : DW X e ft) : DT X e ft := PW.pt h
theorem d_tnot (ha : DT X a ft) : DT X (.UnaryOp .Not a pos) (gNot ft) := pt_imp (pt_not ha) fun σ H Q ⟨δ, F, W, M, Qd, ev, s, h, k⟩ => ⟨δ, F, W, M, _, ev, s, h, fun v H1 W1 d M1 g1 s1 r1 q1 => by
    cases r1
    exact (k.mono g1).now s1 rfl q1⟩
def gAndV (fa fb : DTE) : DTE := fun δ M Q => fa δ M fun x M1 => match x with
  | .bl c => if c = true then fb δ M1 Q else Q (.bl false) M1
  | _ => False
def gOrV (fa fb : DTE) : DTE := fun δ M Q => fa δ M fun x M1 => match x with
  | .bl c => if c = true then Q (.bl true) M1 else fb δ M1 Q
  | _ => False
def gNotV (fa : DTE) : DTE := fun δ M Q => fa δ M fun x M1 => match x with
  | .bl c => Q (.bl (!c)) M1
  | _ => False
theorem d_one {op} (h : DE X a f) : DE X (.BoolOp op [a] pos) f := pe_one h
theorem d_eand (ha : DE X a fa) (hb : DE X (.BoolOp .And (b :: rest) pos) fb) : DE X (.BoolOp .And (a :: b :: rest) pos) (gAndV fa fb) :=
  imp (eand ha hb) fun σ H Q ⟨δ, F, W, M, Qd, ev, s, h, k⟩ => ⟨δ, F, W, M, _, ev, s, h, fun v H1 W1 d M1 g1 s1 r1 q1 => by
    cases r1 <;> first | exact q1.elim | skip
    rename_i c
    cases c with
    | true => exact ⟨δ, F, W1, M1, Qd, ev.mono g1, s1, q1, k.mono g1⟩
    | false => exact (k.mono g1).now s1 (.bl _) q1⟩
theorem d_eor (ha : DE X a fa) (hb : DE X (.BoolOp .Or (b :: rest) pos) fb) : DE X (.BoolOp .Or (a :: b :: rest) pos) (gOrV fa fb) :=
  imp (eor ha hb) fun σ H Q ⟨δ, F, W, M, Qd, ev, s, h, k⟩ => ⟨δ, F, W, M, _, ev, s, h, fun v H1 W1 d M1 g1 s1 r1 q1 => by
    cases r1 <;> first | exact q1.elim | skip
    rename_i c
    cases c with
    | false => exact ⟨δ, F, W1, M1, Qd, ev.mono g1, s1, q1, k.mono g1⟩
    | true => exact (k.mono g1).now s1 (.bl _) q1⟩
theorem d_enot (ha : DE X a fa) : DE X (.UnaryOp .Not a pos) (gNotV fa) := imp (enot ha) fun σ H Q ⟨δ, F, W, M, Qd, ev, s, h, k⟩ => ⟨δ, F, W, M, _, ev, s, h, fun v H1 W1 d M1 g1 s1 r1 q1 => by
    cases r1 <;> first | exact q1.elim | exact (k.mono g1).now s1 (.bl _) q1⟩
def gIf (t : DTT) (fa fb : DTE) : DTE := fun δ M Q => t δ M fun c M1 => if c = true then fa δ M1 Q else fb δ M1 Q
theorem d_if (hc : DT X c ft) (ha : DE X a fa) (hb : DE X b fb) : DE X (.IfExp c a b pos) (gIf ft fa fb) := imp (pe_ifExp hc ha hb) fun σ H Q ⟨δ, F, W, M, Qd, ev, s, h, k⟩ => ⟨δ, F, W, M, _, ev, s, h, fun v H1 W1 d M1 g1 s1 r1 q1 => by
    cases r1
    cases v with
    | true => exact ⟨δ, F, W1, M1, Qd, ev.mono g1, s1, q1, k.mono g1⟩
    | false => exact ⟨δ, F, W1, M1, Qd, ev.mono g1, s1, q1, k.mono g1⟩⟩
end
end U
set_option Elab.async false
set_option linter.all false
set_option maxRecDepth 100000
set_option maxHeartbeats 2000000
/-! Readings over plain data: rows, calls, statements. -/
namespace U
open PySem PySem.Spec PyProof.Rows L2
/-- what a row holds -/
def itemsK (x : Da) (M : Mm) (k : List Da → Prop) : Prop := match x with
  | .lst xs => k xs
  | .tup xs => k xs
  | .ref p => ∃ xs, M p = some (.lst xs) ∧ k xs
  | _ => False
section
variable {K : PySem.W.Frag} {F W : Addr → Prop} {H : Hp} {M : Mm}
theorem Stt.list (s : Stt K F W M H) {p : Addr} {xs : List Da} (h : M p = some (.lst xs)) : ∃ vs, H p = some (.lst vs) ∧ RDs K W H vs xs := by
  obtain ⟨u, hu, mr⟩ := s.mem _ _ h
  cases mr with
  | lst rv => exact ⟨_, hu, rv⟩
theorem items_of {v : V} {d : Da} (s : Stt K F W M H) (r : RD K W H v d) {k : List Da → Prop} (h : itemsK d M k) : ∃ a vs ds, v = .ref a ∧ (SqL K H a vs ∨ SqT K H a vs) ∧ RDs K W H vs ds ∧ k ds := by
  cases r with
  | lst hs rv => exact ⟨_, _, _, rfl, .inl hs.sq, rv, h⟩
  | tup hs rv => exact ⟨_, _, _, rfl, .inr hs.sq, rv, h⟩
  | ref p =>
    obtain ⟨xs, hm, h⟩ := h
    obtain ⟨vs, hv, rv⟩ := s.list hm
    exact ⟨_, _, _, rfl, .inl (SqL.of hv), rv, h⟩
  | _ => exact h.elim
end
section
variable {X : Cx} {a b c e : Expr} {es rest : List Expr} {fa fb fc f : DTE} {ft fu : DTT} {fs : DTA} {pos p : Pos}
/-! ### arguments -/
def gNil : DTA := fun _ M Q => Q [] M
def gCons (fa : DTE) (fs : DTA) : DTA := fun δ M Q => fa δ M fun x M1 => fs δ M1 fun xs M2 => Q (x :: xs) M2
def gStar (fa : DTE) (fs : DTA) : DTA := fun δ M Q => fa δ M fun x M1 => itemsK x M1 fun ys => fs δ M1 fun xs M2 => Q (ys ++ xs) M2
theorem d_nil : DA X [] gNil := pa_imp pa_nil fun σ H Q ⟨δ, F, W, M, Qd, ev, s, h, k⟩ => k.now s .nil h
theorem d_cons (ha : DE X e f) (hr : DA X es fs) (hs : starEach (e :: es) X.env = (false, eval e X.env) :: starEach es X.env := by rfl) : DA X (e :: es) (gCons f fs) :=
  pa_imp (pa_cons ha hr hs) fun σ H Q ⟨δ, F, W, M, Qd, ev, s, h, k⟩ => ⟨δ, F, W, M, _, ev, s, h, fun v H1 W1 d M1 g1 s1 r1 q1 => ⟨δ, F, W1, M1, _, ev.mono g1, s1, q1, fun vs H2 W2 ds M2 g2 s2 r2 q2 =>
    (k.mono (g1.trans g2)).now s2 (.cons (r1.mono g2) r2) q2⟩⟩
theorem d_star (ha : DE X e f) (hr : DA X es fs) (hs : starEach (.Starred e p :: es) X.env = (true, eval e X.env) :: starEach es X.env := by rfl) : DA X (.Starred e p :: es) (gStar f fs) :=
  pa_imp (StX.pa_star ha hr hs) fun σ H Q ⟨δ, F, W, M, Qd, ev, s, h, k⟩ => ⟨δ, F, W, M, _, ev, s, h, fun v H1 W1 d M1 g1 s1 r1 q1 => by
    obtain ⟨a, vs, ds, rfl, hs, rv, q⟩ := items_of s1 r1 q1
    exact ⟨a, vs, rfl, hs.symm, δ, F, W1, M1, _, ev.mono g1, s1, q, fun ws H2 W2 es M2 g2 s2 r2 q2 => (k.mono (g1.trans g2)).now s2 ((rv.mono g2).append r2) q2⟩⟩
/-! ### displays -/
def gTup (fs : DTA) : DTE := fun δ M Q => fs δ M fun xs M1 => Sz xs.length ∧ Q (.tup xs) M1
def gLst (fs : DTA) : DTE := fun δ M Q => fs δ M fun xs M1 => Sz xs.length ∧ Q (.lst xs) M1
def gLstM (fs : DTA) : DTE := fun δ M Q => fs δ M fun xs M1 => Sz xs.length ∧ ∀ p, M1 p = none → Q (.ref p) (mput M1 p (.lst xs))
theorem d_tup {x1} (h : DA X es fs) : DE X (.Tuple es x1 pos) (gTup fs) := imp (pe_tup h) fun σ H Q ⟨δ, F, W, M, Qd, ev, s, h, k⟩ => ⟨δ, F, W, M, _, ev, s, h, fun vs H1 W1 ds M1 g1 s1 r1 q1 =>
  ⟨by rw [RDs.length r1]; exact q1.1.ok, fun p hp => (k.mono g1).newT s1 hp r1 q1.2⟩⟩
theorem d_lst (h : DA X es fs) : DE X (.List es pos) (gLst fs) := imp (pe_lst h) fun σ H Q ⟨δ, F, W, M, Qd, ev, s, h, k⟩ => ⟨δ, F, W, M, _, ev, s, h, fun vs H1 W1 ds M1 g1 s1 r1 q1 =>
  ⟨by rw [RDs.length r1]; exact q1.1.ok, fun p hp => (k.mono g1).newL s1 hp r1 q1.2⟩⟩
theorem d_lstM (h : DA X es fs) : DE X (.List es pos) (gLstM fs) := imp (pe_lst h) fun σ H Q ⟨δ, F, W, M, Qd, ev, s, h, k⟩ => ⟨δ, F, W, M, _, ev, s, h, fun vs H1 W1 ds M1 g1 s1 r1 q1 =>
  ⟨by rw [RDs.length r1]; exact q1.1.ok, fun p hp => (k.mono g1).newM s1 hp r1 q1.2⟩⟩
/-- a row of the memory that changes no more -/
def gStl (f : DTE) : DTE := fun δ M Q => f δ M fun x M1 => match x with
  | .ref p => ∃ xs, M1 p = some (.lst xs) ∧ Q (.lst xs) (mdel M1 p)
  | x => Q x M1
theorem d_stl (h : DE X e f) : DE X e (gStl f) := imp h fun σ H Q ⟨δ, F, W, M, Qd, ev, s, h, k⟩ => ⟨δ, F, W, M, _, ev, s, h, fun v H1 W1 d M1 g1 s1 r1 q1 => by
  cases r1 with
  | ref p =>
    obtain ⟨xs, hm, q⟩ := q1
    obtain ⟨s2, g2⟩ := s1.settle hm
    obtain ⟨vs, hv, rv⟩ := s1.list hm
    exact (k.mono (g1.trans g2)).now s2 (.lst (.inl ⟨.inl rfl, .inl hv⟩) (rv.mono g2)) q
  | non => exact (k.mono g1).now s1 .non q1
  | bl b => exact (k.mono g1).now s1 (.bl b) q1
  | int b => exact (k.mono g1).now s1 (.int b) q1
  | str b => exact (k.mono g1).now s1 (.str b) q1
  | ty b => exact (k.mono g1).now s1 (.ty b) q1
  | lst a b => exact (k.mono g1).now s1 (.lst a b) q1
  | tup a b => exact (k.mono g1).now s1 (.tup a b) q1
  | obj a b c => exact (k.mono g1).now s1 (.obj a b c) q1
  | dct a b c => exact (k.mono g1).now s1 (.dct a b c) q1⟩
/-! ### x[i], x[i:j] -/
theorem atI_rel {K : PySem.W.Frag} {W : Addr → Prop} {H : Hp} {vs : List V} {ds : List Da} {i : Int} {d : Da} (r : RDs K W H vs ds) (h : atI ds i = some d) : ∃ v, atI vs i = some v ∧ RD K W H v d := by
  unfold atI at h ⊢
  rw [r.length]
  cases e : ixN ds.length i with
  | none => rw [e] at h; cases h
  | some j => rw [e] at h; exact r.get h
def hIx : D2 := fun x y M Q => match x, y with
  | .str z, .int i => Sz z.length ∧ ∃ c, atI z.cps.toList i = some c ∧ Q (.str ⟨#[c]⟩) M
  | .lst xs, .int i => ∃ v, atI xs i = some v ∧ Q v M
  | .tup xs, .int i => ∃ v, atI xs i = some v ∧ Q v M
  | .ref p, .int i => ∃ xs v, M p = some (.lst xs) ∧ atI xs i = some v ∧ Q v M
  | _, _ => False
theorem d_ix (ha : DE X a fa) (hb : DE X b fb) (hs : PlainIx b := by exact fun _ _ => rfl) : DE X (.Subscript a b pos) (gOp hIx fa fb) := imp (ix ha hb hs) fun σ H Q h => by
  obtain ⟨δ, F, W, M, Qd, ev, s, h, k⟩ := h
  refine ⟨δ, F, W, M, _, ev, s, h, fun v H1 W1 d M1 g1 s1 r1 q1 => ⟨δ, F, W1, M1, _, ev.mono g1, s1, q1, fun u H2 W2 e M2 g2 s2 r2 q2 => ?_⟩⟩
  have k2 := k.mono (g1.trans g2)
  have r1' := r1.mono g2
  unfold hIx at q2
  split at q2
  · cases r1'; cases r2
    obtain ⟨hz, c, hc, q⟩ := q2
    exact ⟨hz.ok, c, hc, k2.now s2 (.str _) q⟩
  · cases r1' with
    | lst hs rv =>
      cases r2
      obtain ⟨x, hx, q⟩ := q2
      obtain ⟨y, hy, ry⟩ := atI_rel rv hx
      exact ⟨_, y, .inl hs.sq, hy, k2.now s2 ry q⟩
  · cases r1' with
    | tup hs rv =>
      cases r2
      obtain ⟨x, hx, q⟩ := q2
      obtain ⟨y, hy, ry⟩ := atI_rel rv hx
      exact ⟨_, y, .inr hs.sq, hy, k2.now s2 ry q⟩
  · cases r1' with
    | ref p =>
      cases r2
      obtain ⟨xs, x, hm, hx, q⟩ := q2
      obtain ⟨vs, hv, rv⟩ := s2.list hm
      obtain ⟨y, hy, ry⟩ := atI_rel rv hx
      exact ⟨_, y, .inl (SqL.of hv), hy, k2.now s2 ry q⟩
  · exact q2.elim
def cutD {α : Type} (xs : List α) (lo hi : Option Int) : List α := (xs.drop (HT.sIx xs.length 0 lo)).take (HT.sIx xs.length xs.length hi - HT.sIx xs.length 0 lo)
theorem cut_rel {K : PySem.W.Frag} {W : Addr → Prop} {H : Hp} {vs : List V} {ds : List Da} (r : RDs K W H vs ds) (lo hi : Option Int) : RDs K W H (cutV vs lo hi) (cutD ds lo hi) := by
  unfold cutV cutD
  rw [r.length]
  exact (r.drop _).take _
abbrev DTO := DR (Option Int)
def rO : (Addr → Prop) → Hp → Option Int → Option Int → Prop := fun _ _ a b => a = b
def DP (X : Cx) (e : Option Expr) (f : DTO) : Prop := PO X e (Li rO X.K f)
theorem po_imp {e : Option Expr} {t t' : TO} (h : PO X e t) (f : ∀ σ H Q, t' σ H Q → t σ H Q) : PO X e t' := by
  obtain ⟨h⟩ := h
  exact ⟨fun pins s σ H Q I q => h pins s σ H Q I (f σ H Q q)⟩
def gNoP : DTO := fun _ M Q => Q none M
def gPart (f : DTE) : DTO := fun δ M Q => f δ M fun x M1 => match x with
  | .int i => Q (some i) M1
  | _ => False
theorem d_pnone : DP X none gNoP := po_imp po_none fun σ H Q ⟨δ, F, W, M, Qd, ev, s, h, k⟩ => k.now s rfl h
theorem d_psome (h : DE X e f) : DP X (some e) (gPart f) := po_imp (posome h) fun σ H Q ⟨δ, F, W, M, Qd, ev, s, h, k⟩ => ⟨δ, F, W, M, _, ev, s, h, fun v H1 W1 d M1 g1 s1 r1 q1 => by
  cases r1 <;> first | exact q1.elim | exact (k.mono g1).now s1 rfl q1⟩
def hSl (x : Da) (lo hi : Option Int) (M : Mm) (Q : DK) : Prop := match x with
  | .str z => Sz z.length ∧ Q (.str (cutS z lo hi)) M
  | .lst xs => Q (.lst (cutD xs lo hi)) M
  | .tup xs => Q (.tup (cutD xs lo hi)) M
  | .ref p => ∃ xs, M p = some (.lst xs) ∧ Q (.lst (cutD xs lo hi)) M
  | _ => False
def gSl (f : DTE) (l h : DTO) : DTE := fun δ M Q => f δ M fun x M1 => l δ M1 fun lo M2 => h δ M2 fun hi M3 => hSl x lo hi M3 Q
theorem cutD_whole {α : Type} {xs : List α} {lo hi : Option Int} (h : HT.sIx xs.length 0 lo = 0 ∧ HT.sIx xs.length xs.length hi = xs.length) : cutD xs lo hi = xs := by
  unfold cutD
  rw [h.1, h.2]
  simp
def fSlA (K : PySem.W.Frag) : V → Option Int → Option Int → Hp → VK → Prop := fun x lo hi H Q => match x with
  | .str z => z.length ≤ sizeLine ∧ Q (.str (cutS z lo hi)) H
  | .ref p => rSlL K (.ref p) lo hi H Q ∨ rSlA K (.ref p) lo hi H Q
  | _ => False
theorem sl_anyA : SlR X (fSlA X.K) := slCases fun x lo hi H Q h => by
  unfold fSlA at h; split at h
  · exact ⟨_, sl_str, _, rfl, h.1, h.2⟩
  · rcases h with h | h
    · exact ⟨_, sl_list, h⟩
    · exact ⟨_, sl_tupA, h⟩
  · exact h.elim
theorem d_sl {lo hi : Option Expr} {l h : DTO} {p2 : Pos} (he : DE X e f) (hl : DP X lo l) (hh : DP X hi h) : DE X (.Subscript e (.Slice lo hi none p2) pos) (gSl f l h) := imp (pe_slice sl_anyA he hl hh) fun σ H Q hq => by
  obtain ⟨δ, F, W, M, Qd, ev, s, hq, k⟩ := hq
  refine ⟨δ, F, W, M, _, ev, s, hq, fun v H1 W1 d M1 g1 s1 r1 q1 => ⟨δ, F, W1, M1, _, ev.mono g1, s1, q1, fun a1 H2 W2 b1 M2 g2 s2 e2 q2 => ⟨δ, F, W2, M2, _, ev.mono (g1.trans g2), s2, q2, fun a2 H3 W3 b2 M3 g3 s3 e3 q3 => ?_⟩⟩⟩
  cases e2
  cases e3
  have k3 := k.mono (g1.trans (g2.trans g3))
  have r3 := r1.mono (g2.trans g3)
  unfold hSl at q3
  split at q3
  · cases r3
    exact ⟨q3.1.ok, k3.now s3 (.str _) q3.2⟩
  · cases r3 with
    | lst hs rv => exact .inl ⟨_, _, rfl, hs.sq, fun p hp => k3.newL s3 hp (cut_rel rv _ _) q3⟩
  · cases r3 with
    | tup hs rv =>
      refine .inr ⟨_, _, rfl, hs.sq, fun hw => ?_, fun _ p hp => k3.newT s3 hp (cut_rel rv _ _) q3⟩
      rw [cutD_whole (by rw [← rv.length]; exact hw)] at q3
      exact k3.now s3 (.tup hs rv) q3
  · cases r3 with
    | ref p =>
      obtain ⟨xs, hm, q⟩ := q3
      obtain ⟨vs, hv, rv⟩ := s3.list hm
      exact .inl ⟨_, _, rfl, SqL.of hv, fun p hp => k3.newL s3 hp (cut_rel rv _ _) q⟩
  · exact q3.elim
end
end U
set_option Elab.async false
set_option linter.all false
set_option maxRecDepth 100000
set_option maxHeartbeats 2000000
/-! Readings over plain data: built-ins, statements. -/
namespace U
open PySem PySem.Spec PyProof.Rows L2
abbrev DC := List Da → Mm → DK → Prop
def L2c (K : PySem.W.Frag) (g : DC) : List V → Hp → VK → Prop := fun xs H Q => ∃ F W M ds Qd, RDs K W H xs ds ∧ Stt K F W M H ∧ g ds M Qd ∧ Kt (rE K) K F W H Qd Q
def gBi (g : DC) (fs : DTA) : DTE := fun δ M Q => fs δ M fun ds M1 => g ds M1 Q
def CD (X : Cx) (f : Value) (g : DC) : Prop := CallR X f (L2c X.K g)
section
variable {X : Cx} {a b c e : Expr} {es rest : List Expr} {fa fb fc f : DTE} {ft fu : DTT} {fs : DTA} {pos p : Pos} {g : DC}
theorem li_cb {K : PySem.W.Frag} {σ : L2.St} {H : Hp} {Q : VK} (h : Li (rE K) K (gBi g fs) σ H Q) : tCB (L2c K g) (Li (rA K) K fs) σ H Q := by
  obtain ⟨δ, F, W, M, Qd, ev, s, h, k⟩ := h
  exact ⟨δ, F, W, M, _, ev, s, h, fun vs H1 W1 ds M1 g1 s1 r1 q1 => ⟨F, W1, M1, ds, Qd, r1, s1, q1, k.mono g1⟩⟩
theorem d_b {x : Str} {id : String} (m : X.mg x = none) (hv : bootBuiltins x = some (.builtin id)) (hc : CD X (.builtin id) g) (ha : DA X (e :: es) fs) (hg : Gl X x := by rfl) (hn : x ≠ "__name__" := by decide) (hdb : (x == ("__debug__" : Str)) = false := by decide)
    (he : starEach (e :: es) X.env = (false, eval e X.env) :: starEach es X.env := by rfl) (hpl : (backTo pos (starEach es X.env)).any (·.1) = false := by rfl) : DE X (.Call (.Name x p) (e :: es) [] pos) (gBi g fs) :=
  imp (pe_callB hc hg m hv ha hn hdb he hpl) fun _ _ _ h => li_cb h
theorem d_t {x : Str} {T : String} (m : X.mg x = none) (hv : bootBuiltins x = some (.type T)) (hc : CD X (.type T) g) (ha : DA X (e :: es) fs) (hg : Gl X x := by rfl) (hn : x ≠ "__name__" := by decide) (hdb : (x == ("__debug__" : Str)) = false := by decide)
    (he : starEach (e :: es) X.env = (false, eval e X.env) :: starEach es X.env := by rfl) (hpl : (backTo pos (starEach es X.env)).any (·.1) = false := by rfl) : DE X (.Call (.Name x p) (e :: es) [] pos) (gBi g fs) :=
  imp (pe_callTy hc hg m hv ha hn hdb he hpl) fun _ _ _ h => li_cb h
theorem cd_imp {f : Value} (h : ∀ xs H Q, L2c X.K g xs H Q → ∃ r : List V → Hp → VK → Prop, CallR X f r ∧ r xs H Q) : CD X f g := callCases h
theorem RDs.one {K : PySem.W.Frag} {W : Addr → Prop} {H : Hp} {vs : List V} {d : Da} (r : RDs K W H vs [d]) : ∃ v, vs = [v] ∧ RD K W H v d := by
  cases r with
  | cons h k => cases k; exact ⟨_, rfl, h⟩
theorem RDs.two {K : PySem.W.Frag} {W : Addr → Prop} {H : Hp} {vs : List V} {d e : Da} (r : RDs K W H vs [d, e]) : ∃ v u, vs = [v, u] ∧ RD K W H v d ∧ RD K W H u e := by
  cases r with
  | cons h k =>
    obtain ⟨u, rfl, q⟩ := k.one
    exact ⟨_, _, rfl, h, q⟩
def kLen : DC := fun xs M Q => match xs with
  | [.str y] => Sz y.length ∧ Q (.int y.length) M
  | [.lst xs] => Q (.int xs.length) M
  | [.tup xs] => Q (.int xs.length) M
  | [.ref p] => ∃ xs, M p = some (.lst xs) ∧ Q (.int xs.length) M
  | _ => False
theorem c_dlen : CD X (.builtin "len") kLen := cd_imp fun vs H Q ⟨F, W, M, ds, Qd, r, s, h, k⟩ => by
  refine ⟨_, c_len, ?_⟩
  unfold kLen at h
  split at h
  · obtain ⟨v, rfl, r1⟩ := r.one; cases r1
    exact ⟨h.1.ok, k.now s (.int _) h.2⟩
  · obtain ⟨v, rfl, r1⟩ := r.one
    cases r1 with
    | lst hs rv => exact ⟨_, .inl ⟨_, hs.sq, rfl⟩, by rw [rv.length]; exact k.now s (.int _) h⟩
  · obtain ⟨v, rfl, r1⟩ := r.one
    cases r1 with
    | tup hs rv => exact ⟨_, .inr ⟨_, hs.sq, rfl⟩, by rw [rv.length]; exact k.now s (.int _) h⟩
  · obtain ⟨v, rfl, r1⟩ := r.one
    cases r1 with
    | ref p =>
      obtain ⟨xs, hm, q⟩ := h
      obtain ⟨vs, hv, rv⟩ := s.list hm
      exact ⟨_, .inl ⟨_, SqL.of hv, rfl⟩, by rw [rv.length]; exact k.now s (.int _) q⟩
  · exact h.elim
def kAbs : DC := fun xs M Q => match xs with
  | [.int i] => Q (.int (if i < 0 then -i else i)) M
  | _ => False
theorem c_dabs : CD X (.builtin "abs") kAbs := cd_imp fun vs H Q ⟨F, W, M, ds, Qd, r, s, h, k⟩ => by
  refine ⟨_, c_abs, ?_⟩
  unfold kAbs at h
  split at h
  · obtain ⟨v, rfl, r1⟩ := r.one; cases r1; exact k.now s (.int _) h
  · exact h.elim
def kMax : DC := fun xs M Q => match xs with
  | [.int i, .int j] => Q (.int (if j > i then j else i)) M
  | _ => False
theorem c_dmax (hc : X.calm = true) : CD X (.builtin "max") kMax := cd_imp fun vs H Q ⟨F, W, M, ds, Qd, r, s, h, k⟩ => by
  refine ⟨_, c_max hc, ?_⟩
  unfold kMax at h
  split at h
  · obtain ⟨v, u, rfl, r1, r2⟩ := r.two; cases r1; cases r2; exact k.now s (.int _) h
  · exact h.elim
def kMin : DC := fun xs M Q => match xs with
  | [.int i, .int j] => Q (.int (if j < i then j else i)) M
  | _ => False
theorem c_dmin (hc : X.calm = true) : CD X (.builtin "min") kMin := cd_imp fun vs H Q ⟨F, W, M, ds, Qd, r, s, h, k⟩ => by
  refine ⟨_, c_min hc, ?_⟩
  unfold kMin at h
  split at h
  · obtain ⟨v, u, rfl, r1, r2⟩ := r.two; cases r1; cases r2; exact k.now s (.int _) h
  · exact h.elim
def kInt : DC := fun xs M Q => match xs with
  | [.int i] => Q (.int i) M
  | [.bl b] => Q (.int (if b then 1 else 0)) M
  | _ => False
theorem c_dint : CD X (.type "int") kInt := cd_imp fun vs H Q ⟨F, W, M, ds, Qd, r, s, h, k⟩ => by
  refine ⟨_, c_int, ?_⟩
  unfold kInt at h
  split at h
  · obtain ⟨v, rfl, r1⟩ := r.one; cases r1; exact k.now s (.int _) h
  · obtain ⟨v, rfl, r1⟩ := r.one; cases r1; exact k.now s (.int _) h
  · exact h.elim
/-- ints, bools, texts in a row -/
def asInts : List Da → Option (List Int)
  | [] => some []
  | .int i :: r => (asInts r).map (i :: ·)
  | _ :: _ => none
def asBls : List Da → Option (List Bool)
  | [] => some []
  | .bl i :: r => (asBls r).map (i :: ·)
  | _ :: _ => none
theorem asInts_map : ∀ ns : List Int, asInts (ns.map Da.int) = some ns
  | [] => rfl
  | n :: ns => by show (asInts (ns.map Da.int)).map _ = _; rw [asInts_map ns]; rfl
theorem asBls_map : ∀ ns : List Bool, asBls (ns.map Da.bl) = some ns
  | [] => rfl
  | n :: ns => by show (asBls (ns.map Da.bl)).map _ = _; rw [asBls_map ns]; rfl
theorem asInts_of : ∀ {ds : List Da} {ns : List Int}, asInts ds = some ns → ds = ns.map Da.int
  | [], ns, h => by cases h; rfl
  | d :: ds, ns, h => by
    cases d with
    | int i =>
      cases e : asInts ds with
      | none => rw [asInts, e] at h; cases h
      | some ms => rw [asInts, e] at h; cases h; rw [asInts_of e]; rfl
    | _ => cases (show none = some ns from h)
theorem asBls_of : ∀ {ds : List Da} {ns : List Bool}, asBls ds = some ns → ds = ns.map Da.bl
  | [], ns, h => by cases h; rfl
  | d :: ds, ns, h => by
    cases d with
    | bl i =>
      cases e : asBls ds with
      | none => rw [asBls, e] at h; cases h
      | some ms => rw [asBls, e] at h; cases h; rw [asBls_of e]; rfl
    | _ => cases (show none = some ns from h)
def kAll : DC := fun xs M Q => match xs with
  | [.lst ds] => ∃ bs, asBls ds = some bs ∧ Q (.bl (bs.all id)) M
  | _ => False
theorem c_dall (hc : X.calm = true) : CD X (.builtin "all") kAll := cd_imp fun vs H Q ⟨F, W, M, ds, Qd, r, s, h, k⟩ => by
  refine ⟨_, cr_all hc, ?_⟩
  unfold kAll at h
  split at h
  · obtain ⟨v, rfl, r1⟩ := r.one
    obtain ⟨bs, hb, q⟩ := h
    cases r1 with
    | lst hs rv => rw [asBls_of hb] at rv; rw [rv.bls] at hs; exact ⟨_, bs, rfl, hs.sq, k.now s (.bl _) q⟩
  · exact h.elim
def kAny : DC := fun xs M Q => match xs with
  | [.lst ds] => ∃ bs, asBls ds = some bs ∧ Q (.bl (bs.any id)) M
  | _ => False
theorem c_dany (hc : X.calm = true) : CD X (.builtin "any") kAny := cd_imp fun vs H Q ⟨F, W, M, ds, Qd, r, s, h, k⟩ => by
  refine ⟨_, cr_any hc, ?_⟩
  unfold kAny at h
  split at h
  · obtain ⟨v, rfl, r1⟩ := r.one
    obtain ⟨bs, hb, q⟩ := h
    cases r1 with
    | lst hs rv => rw [asBls_of hb] at rv; rw [rv.bls] at hs; exact ⟨_, bs, rfl, hs.sq, k.now s (.bl _) q⟩
  · exact h.elim
def kSum : DC := fun xs M Q => match xs with
  | [.lst ds] => ∃ ns, asInts ds = some ns ∧ Q (.int ns.sum) M
  | _ => False
theorem c_dsum (hc : X.calm = true) : CD X (.builtin "sum") kSum := cd_imp fun vs H Q ⟨F, W, M, ds, Qd, r, s, h, k⟩ => by
  refine ⟨_, cr_sum hc, ?_⟩
  unfold kSum at h
  split at h
  · obtain ⟨v, rfl, r1⟩ := r.one
    obtain ⟨bs, hb, q⟩ := h
    cases r1 with
    | lst hs rv => rw [asInts_of hb] at rv; rw [rv.ints] at hs; exact ⟨_, bs, rfl, hs.sq, k.now s (.int _) q⟩
  · exact h.elim
def kTuple : DC := fun xs M Q => match xs with
  | [x] => itemsK x M fun ds => Q (.tup ds) M
  | _ => False
theorem c_dtuple : CD X (.type "tuple") kTuple := cd_imp fun vs H Q ⟨F, W, M, ds, Qd, r, s, h, k⟩ => by
  refine ⟨_, call_tuple_of, ?_⟩
  unfold kTuple at h
  split at h
  · obtain ⟨v, rfl, r1⟩ := r.one
    cases r1 with
    | lst hs rv => exact ⟨_, _, rfl, .inl ⟨hs.sq, fun l hl => k.newT s hl rv h⟩⟩
    | tup hs rv => exact ⟨_, _, rfl, .inr ⟨hs.sq, k.now s (.tup hs rv) h⟩⟩
    | ref p =>
      obtain ⟨xs, hm, q⟩ := h
      obtain ⟨vs, hv, rv⟩ := s.list hm
      exact ⟨_, _, rfl, .inl ⟨SqL.of hv, fun l hl => k.newT s hl rv q⟩⟩
    | _ => exact h.elim
  · exact h.elim
def kList : DC := fun xs M Q => match xs with
  | [x] => itemsK x M fun ds => Q (.lst ds) M
  | _ => False
def kListM : DC := fun xs M Q => match xs with
  | [x] => itemsK x M fun ds => ∀ p, M p = none → Q (.ref p) (mput M p (.lst ds))
  | _ => False
theorem c_dlist : CD X (.type "list") kList := cd_imp fun vs H Q ⟨F, W, M, ds, Qd, r, s, h, k⟩ => by
  refine ⟨_, call_list_of, ?_⟩
  unfold kList at h
  split at h
  · obtain ⟨v, rfl, r1⟩ := r.one
    obtain ⟨a, vs, ds, rfl, hs, rv, q⟩ := items_of s r1 h
    exact ⟨a, vs, rfl, hs, fun l hl => k.newL s hl rv q⟩
  · exact h.elim
theorem c_dlistM : CD X (.type "list") kListM := cd_imp fun vs H Q ⟨F, W, M, ds, Qd, r, s, h, k⟩ => by
  refine ⟨_, call_list_of, ?_⟩
  unfold kListM at h
  split at h
  · obtain ⟨v, rfl, r1⟩ := r.one
    obtain ⟨a, vs, ds, rfl, hs, rv, q⟩ := items_of s r1 h
    exact ⟨a, vs, rfl, hs, fun l hl => k.newM s hl rv q⟩
  · exact h.elim
/-! ### methods of lists -/
/-- x.append(y), x.pop(i) .. -/
def hAppend (x : Da) (xs : List Da) (M : Mm) (Q : DK) : Prop := match x, xs with
  | .ref p, [y] => ∃ ds, M p = some (.lst ds) ∧ Sz ds.length ∧ Q .non (mput M p (.lst (ds ++ [y])))
  | _, _ => False
def hExtend (x : Da) (xs : List Da) (M : Mm) (Q : DK) : Prop := match x, xs with
  | .ref p, [.ref b] => ∃ ds es, M p = some (.lst ds) ∧ M b = some (.lst es) ∧ Sz (ds.length + es.length) ∧ Q .non (mput (mdel M b) p (.lst (ds ++ es)))
  | .ref p, [.lst es] => ∃ ds, M p = some (.lst ds) ∧ Sz (ds.length + es.length) ∧ Q .non (mput M p (.lst (ds ++ es)))
  | _, _ => False
/-- extend by any list -/
theorem list_extendW (l : Addr) (items : Array Value) (n : Nat) (b : Addr) (items2 : Array Value) (n2 : Nat) (dd2 : Option Addr) (sl2 : Array (Option Value)) (hc0 : ¬(!items.isEmpty && Builtin.List.listTooLong (items.size + items2.size)) = true) (hc1 : items.size ≤ sizeLine) (hs2 : items.size + items2.size ≤ sizeLine + 1) :
    Meets (Builtin.«list.extend» ⟨[.ref l, .ref b], []⟩) (fun _ R s => s.heap.get? l = some { cls := .type "list", dict := none, data := .seq items n, slots := #[] } ∧ s.heap.get? b = some { cls := .type "list", dict := dd2, data := .seq items2 n2, slots := sl2 } ∧ R (.ok (.ret Value.none)) { s with heap := s.heap.update l (Obj.mapSeq fun x => x ++ items2), toks := s.toks }) :=
  .of_wp fun prog w A R s h => by
    obtain ⟨hp, g, d, tk, os⟩ := s; obtain ⟨hl, hb, h⟩ := h; have f1 := AutoSeq1.idx_int; have f2 := AutoSeq1.sub_tuple_tuple; have f3 := AutoSeq1.sub_list_list; have f4 := AutoSeq1.sub_tuple_list; have f5 := AutoSeq1.sub_list_tuple
    have hz' : (items ++ items2).size ≤ sizeLine + 1 := by rw [Array.size_append]; exact hs2
    wp_walk using (wpAny_updateSeq hl rfl (hz := hc1) (_hz' := hz')), wpAny_loadPart' hl, wpAny_loadPart' hb; exact ⟨_, rfl, h⟩
def rExtendL (K : PySem.W.Frag) : V → List V → Hp → VK → Prop := fun x vs H Q => ∃ l b xs zs, x = .ref l ∧ vs = [.ref b] ∧ H l = some (.lst xs) ∧ SqL K H b zs ∧ xs.length + zs.length ≤ sizeLine ∧ Q .non (upd H l (.lst (xs ++ zs)))
theorem mt_extendL : MtM X "list.extend" (rExtendL X.K) := by
  intro pins s σ H x vs v us Q I rx rv h
  obtain ⟨l, b, xs, zs, rfl, rfl, hH, hB, hz, q⟩ := h
  cases rx
  obtain ⟨u, rfl, ru⟩ := rv.one
  cases ru
  obtain ⟨z, its, n, r, hl, e⟩ := I.lstM hH
  obtain ⟨its2, r2, ⟨⟨cls2, dd2, data2, sl2⟩, n2, e2, hc2, _, hd2⟩, _⟩ := I.list hB
  simp only at hc2 hd2
  subst hc2 hd2
  have hl2 := r2.length
  have hsz : its.toArray.size + its2.toArray.size ≤ sizeLine := by rw [List.size_toArray, List.size_toArray]; omega
  have hlong : ¬ (!its.toArray.isEmpty && Builtin.List.listTooLong (its.toArray.size + its2.toArray.size)) = true := by
    rw [notLongL hsz, Bool.and_false]
    exact Bool.false_ne_true
  refine call_meets F.slot_list_extend ⟨_, e, rfl⟩ F.entry_list_extend (F.args_list_extend_2 _ _)
    (list_extendW l its.toArray n b its2.toArray n2 _ sl2 hlong (by rw [List.size_toArray]; omega) (by omega)) ⟨e, e2, ?_⟩
  refine ⟨.non, _, I.lset (its' := its ++ its2) hH e (by simp) (r.append r2) ?_, rfl, q⟩
  rw [List.length_append]
  omega
def hPopAt (x : Da) (xs : List Da) (M : Mm) (Q : DK) : Prop := match x, xs with
  | .ref p, [.int i] => ∃ ds k y, M p = some (.lst ds) ∧ (-(2 ^ 63) ≤ i ∧ i < 2 ^ 63) ∧ seqIndex? i ds.length = some k ∧ ds[k]? = some y ∧ Q y (mput M p (.lst (ds.eraseIdx k)))
  | _, _ => False
def hPop (x : Da) (xs : List Da) (M : Mm) (Q : DK) : Prop := match x, xs with
  | .ref p, [] => ∃ ds y, M p = some (.lst ds) ∧ ds[ds.length - 1]? = some y ∧ Q y (mput M p (.lst ds.dropLast))
  | _, _ => False
def gMe (g : Da → List Da → Mm → DK → Prop) (f : DTE) (fs : DTA) : DTE := fun δ M Q => f δ M fun x M1 => (∃ p ds, x = .ref p ∧ M1 p = some (.lst ds)) ∧ fs δ M1 fun xs M2 => g x xs M2 Q
def L2m (K : PySem.W.Frag) (g : Da → List Da → Mm → DK → Prop) : V → List V → Hp → VK → Prop := fun x xs H Q => ∃ F W M d ds Qd, RD K W H x d ∧ RDs K W H xs ds ∧ Stt K F W M H ∧ g d ds M Qd ∧ Kt (rE K) K F W H Qd Q
theorem mtImp {id : String} {r r' : V → List V → Hp → VK → Prop} (h : MtR X id r) (f : ∀ x xs H Q, r' x xs H Q → r x xs H Q) : MtR X id r' := fun pins s σ H x xs v us Q I rx rv q => h pins s σ H x xs v us Q I rx rv (f x xs H Q q)
theorem Kt.putL {K : PySem.W.Frag} {F W : Addr → Prop} {M : Mm} {H : Hp} {Qd : DK} {Q : VK} {q : Addr} {vs : List V} {ds : List Da} {o : MO} {v : V} {d : Da} (k : Kt (rE K) K F W H Qd Q) (s : Stt K F W M H) (h : M q = some o) (r : RDs K W H vs ds) (rv : RD K W H v d) (z : Qd d (mput M q (.lst ds))) : Q v (upd H q (.lst vs)) :=
  (k.mono (grow_put s h)).now (s.put h (.lst r)) (rv.mono (grow_put s h)) z
theorem mt_dappend (h : MtR X "list.append" rAppend) : MtR X "list.append" (L2m X.K hAppend) := mtImp h fun x xs H Q ⟨F, W, M, d, ds, Qd, r, rs, s, q, k⟩ => by
  unfold hAppend at q
  split at q
  · cases r
    obtain ⟨y, rfl, ry⟩ := rs.one
    obtain ⟨es, hm, hz, q⟩ := q
    obtain ⟨vs, hv, rv⟩ := s.list hm
    exact ⟨_, vs, y, rfl, rfl, hv, by rw [rv.length]; have := hz.le; rw [sizeLine_eq]; omega, k.putL s hm (rv.append (.cons ry .nil)) .non q⟩
  · exact q.elim
theorem mt_dextend (h : MtR X "list.extend" (rExtendL X.K)) : MtR X "list.extend" (L2m X.K hExtend) := mtImp h fun x xs H Q ⟨F, W, M, d, ds, Qd, r, rs, s, q, k⟩ => by
  unfold hExtend at q
  split at q
  · cases r
    rename_i p b
    obtain ⟨y, rfl, ry⟩ := rs.one
    cases ry
    obtain ⟨ds, es, hm, hb, hz, q⟩ := q
    obtain ⟨vs, hv, rv⟩ := s.list hm
    obtain ⟨ws, hw, rw'⟩ := s.list hb
    refine ⟨_, _, vs, ws, rfl, rfl, hv, SqL.of hw, by rw [rv.length, rw'.length]; exact hz.ok, ?_⟩
    have s2 := s.put hm (o := .lst (vs ++ ws)) (.lst (rv.append rw'))
    refine (k.mono (grow_put s hm)).now (s2.forget fun a o e => ?_) .non q
    unfold mput mdel at e
    unfold mput
    split at e
    · rename_i ea; rw [if_pos ea]; exact e
    · rename_i ea
      rw [if_neg ea]
      split at e
      · cases e
      · exact e
  · cases r
    obtain ⟨y, rfl, ry⟩ := rs.one
    cases ry with
    | lst hs rw' =>
      obtain ⟨ds, hm, hz, q⟩ := q
      obtain ⟨vs, hv, rv⟩ := s.list hm
      refine ⟨_, _, vs, _, rfl, rfl, hv, hs.sq, by rw [rv.length, rw'.length]; exact hz.ok, ?_⟩
      exact k.putL s hm (rv.append rw') .non q
  · exact q.elim
theorem mt_dpop (h : MtR X "list.pop" rPop) : MtR X "list.pop" (L2m X.K hPop) := mtImp h fun x xs H Q ⟨F, W, M, d, ds, Qd, r, rs, s, q, k⟩ => by
  unfold hPop at q
  split at q
  · cases r
    cases rs
    obtain ⟨ds, y, hm, hy, q⟩ := q
    obtain ⟨vs, hv, rv⟩ := s.list hm
    obtain ⟨u, hu, ru⟩ := rv.get hy
    exact ⟨_, vs, u, rfl, rfl, hv, by rw [rv.length]; exact hu, k.putL s hm rv.dropLast ru q⟩
  · exact q.elim
theorem mt_dpopAt (h : MtR X "list.pop" rPopAt) : MtR X "list.pop" (L2m X.K hPopAt) := mtImp h fun x xs H Q ⟨F, W, M, d, ds, Qd, r, rs, s, q, k⟩ => by
  unfold hPopAt at q
  split at q
  · cases r
    obtain ⟨i, rfl, ri⟩ := rs.one
    cases ri
    obtain ⟨ds, kk, y, hm, ⟨h1, h2⟩, hs, hy, q⟩ := q
    obtain ⟨vs, hv, rv⟩ := s.list hm
    obtain ⟨u, hu, ru⟩ := rv.get hy
    exact ⟨_, vs, _, kk, u, rfl, rfl, hv, h1, h2, by rw [rv.length]; exact hs, hu, k.putL s hm (rv.erase _) ru q⟩
  · exact q.elim
variable {o : Expr} {apos cpos : Pos} {name : Str} {id : String} {gm : Da → List Da → Mm → DK → Prop}
theorem li_me {K : PySem.W.Frag} {σ : L2.St} {H : Hp} {Q : VK} (h : Li (rE K) K (gMe gm f fs) σ H Q) : tBM K "list" (L2m K gm) (Li (rE K) K f) (Li (rA K) K fs) σ H Q := by
  obtain ⟨δ, F, W, M, Qd, ev, s, h, k⟩ := h
  refine ⟨δ, F, W, M, _, ev, s, h, fun v H1 W1 d M1 g1 s1 r1 q1 => ?_⟩
  obtain ⟨⟨p, ds, rfl, hm⟩, q1⟩ := q1
  cases r1
  obtain ⟨vs, hv, rv⟩ := s1.list hm
  exact ⟨.inl ⟨rfl, vs, SqL.of hv⟩, δ, F, W1, M1, _, ev.mono g1, s1, q1, fun us H2 W2 es M2 g2 s2 r2 q2 => ⟨F, W2, M2, _, es, Qd, .ref p, r2, s2, q2, k.mono (g1.trans g2)⟩⟩
theorem d_me (slot : Slot "list" name id) (hty : typeOf (.builtin id) = pure (.type "method_descriptor")) (hm : MtR X id (L2m X.K gm)) (ho : DE X o f) (ha : DA X (e :: es) fs)
    (hbase : attributeBase o name X.env (eval o X.env) = eval o X.env := by rfl)
    (hfew : ((backTo cpos (starEach (e :: es) X.env)).all (fun x => !x.1) && (backToKw cpos (keywordEach [] X.env)).all (fun x => x.1.isSome)
      && decide ((e :: es).length + ([] : List Keyword).length + (if ([] : List Keyword).isEmpty then 0 else 1) < 30)) = true := by rfl)
    (hline : (apos.endLine == cpos.line) = true := by rfl) (hs : starEach (e :: es) X.env = (false, eval e X.env) :: starEach es X.env := by rfl) (hplain : (backTo cpos (starEach es X.env)).any (·.1) = false := by rfl) :
    DE X (.Call (.Attribute o name apos) (e :: es) [] cpos) (gMe gm f fs) := imp (pe_bm PySem.F.plainAttrs_list slot hty hm ho ha hbase hfew hline hs hplain) fun _ _ _ h => li_me h
theorem d_append (ho : DE X o f) (ha : DA X (e :: es) fs)
    (hbase : attributeBase o "append" X.env (eval o X.env) = eval o X.env := by rfl)
    (hfew : ((backTo cpos (starEach (e :: es) X.env)).all (fun x => !x.1) && (backToKw cpos (keywordEach [] X.env)).all (fun x => x.1.isSome)
      && decide ((e :: es).length + ([] : List Keyword).length + (if ([] : List Keyword).isEmpty then 0 else 1) < 30)) = true := by rfl)
    (hline : (apos.endLine == cpos.line) = true := by rfl) (hs : starEach (e :: es) X.env = (false, eval e X.env) :: starEach es X.env := by rfl) (hplain : (backTo cpos (starEach es X.env)).any (·.1) = false := by rfl) :
    DE X (.Call (.Attribute o "append" apos) (e :: es) [] cpos) (gMe hAppend f fs) := d_me PySem.F.slot_list_append PySem.F.type_list_append (mt_dappend mt_append) ho ha hbase hfew hline hs hplain
theorem d_extend (ho : DE X o f) (ha : DA X (e :: es) fs)
    (hbase : attributeBase o "extend" X.env (eval o X.env) = eval o X.env := by rfl)
    (hfew : ((backTo cpos (starEach (e :: es) X.env)).all (fun x => !x.1) && (backToKw cpos (keywordEach [] X.env)).all (fun x => x.1.isSome)
      && decide ((e :: es).length + ([] : List Keyword).length + (if ([] : List Keyword).isEmpty then 0 else 1) < 30)) = true := by rfl)
    (hline : (apos.endLine == cpos.line) = true := by rfl) (hs : starEach (e :: es) X.env = (false, eval e X.env) :: starEach es X.env := by rfl) (hplain : (backTo cpos (starEach es X.env)).any (·.1) = false := by rfl) :
    DE X (.Call (.Attribute o "extend" apos) (e :: es) [] cpos) (gMe hExtend f fs) := d_me PySem.F.slot_list_extend PySem.F.type_list_extend (mt_dextend mt_extendL) ho ha hbase hfew hline hs hplain
theorem d_popAt (ho : DE X o f) (ha : DA X (e :: es) fs)
    (hbase : attributeBase o "pop" X.env (eval o X.env) = eval o X.env := by rfl)
    (hfew : ((backTo cpos (starEach (e :: es) X.env)).all (fun x => !x.1) && (backToKw cpos (keywordEach [] X.env)).all (fun x => x.1.isSome)
      && decide ((e :: es).length + ([] : List Keyword).length + (if ([] : List Keyword).isEmpty then 0 else 1) < 30)) = true := by rfl)
    (hline : (apos.endLine == cpos.line) = true := by rfl) (hs : starEach (e :: es) X.env = (false, eval e X.env) :: starEach es X.env := by rfl) (hplain : (backTo cpos (starEach es X.env)).any (·.1) = false := by rfl) :
    DE X (.Call (.Attribute o "pop" apos) (e :: es) [] cpos) (gMe hPopAt f fs) := d_me PySem.F.slot_list_pop PySem.F.type_list_pop (mt_dpopAt mt_popAt) ho ha hbase hfew hline hs hplain
def gMe0 (g : Da → List Da → Mm → DK → Prop) (f : DTE) : DTE := fun δ M Q => f δ M fun x M1 => (∃ p ds, x = .ref p ∧ M1 p = some (.lst ds)) ∧ g x [] M1 Q
theorem d_pop (ho : DE X o f) (hbase : attributeBase o "pop" X.env (eval o X.env) = eval o X.env := by rfl) (hline : (apos.endLine == cpos.line) = true := by rfl) : DE X (.Call (.Attribute o "pop" apos) [] [] cpos) (gMe0 hPop f) :=
  imp (pe_bm0 PySem.F.plainAttrs_list PySem.F.slot_list_pop PySem.F.type_list_pop (mt_dpop mt_pop) ho hbase hline) fun σ H Q ⟨δ, F, W, M, Qd, ev, s, h, k⟩ => by
    refine ⟨δ, F, W, M, _, ev, s, h, fun v H1 W1 d M1 g1 s1 r1 q1 => ?_⟩
    obtain ⟨⟨p, ds, rfl, hm⟩, q1⟩ := q1
    cases r1
    obtain ⟨vs, hv, rv⟩ := s1.list hm
    exact ⟨.inl ⟨rfl, vs, SqL.of hv⟩, F, W1, M1, _, [], Qd, .ref p, .nil, s1, q1, k.mono g1⟩
end
/-! ### statements -/
structure DEnds where
  nx : De → Mm → Prop
  rt : DK
  bk : De → Mm → Prop := fun _ _ => False
  ct : De → Mm → Prop := fun _ _ => False
abbrev DTS := DEnds → De → Mm → Prop
def KE (K : PySem.W.Frag) (F W : Addr → Prop) (H : Hp) (Qd : De → Mm → Prop) (Q : L2.St → Hp → Prop) : Prop :=
  ∀ σ H' W' δ M', Grow F W H W' H' → Stt K F W' M' H' → EnvR K W' H' δ σ → Qd δ M' → Q σ H'
theorem KE.mono {K : PySem.W.Frag} {F W W1 : Addr → Prop} {H H1 : Hp} {Qd : De → Mm → Prop} {Q : L2.St → Hp → Prop} (g : Grow F W H W1 H1) (k : KE K F W H Qd Q) : KE K F W1 H1 Qd Q :=
  fun v H' W' d M' g' => k v H' W' d M' (g.trans g')
theorem KE.now {K : PySem.W.Frag} {F W : Addr → Prop} {H : Hp} {M : Mm} {Qd : De → Mm → Prop} {Q : L2.St → Hp → Prop} {σ : L2.St} {δ : De} (k : KE K F W H Qd Q) (s : Stt K F W M H) (e : EnvR K W H δ σ) (q : Qd δ M) : Q σ H := k σ H W δ M .refl s e q
structure KS (K : PySem.W.Frag) (F W : Addr → Prop) (H : Hp) (Dd : DEnds) (D : Ends) : Prop where
  nx : KE K F W H Dd.nx D.nx
  rt : Kt (rE K) K F W H Dd.rt D.rt
  bk : KE K F W H Dd.bk D.bk
  ct : KE K F W H Dd.ct D.ct
theorem KS.mono {K : PySem.W.Frag} {F W W1 : Addr → Prop} {H H1 : Hp} {Dd : DEnds} {D : Ends} (g : Grow F W H W1 H1) (k : KS K F W H Dd D) : KS K F W1 H1 Dd D := ⟨k.nx.mono g, k.rt.mono g, k.bk.mono g, k.ct.mono g⟩
def LS (K : PySem.W.Frag) (f : DTS) : TS := fun D σ H => ∃ δ F W M Dd, EnvR K W H δ σ ∧ Stt K F W M H ∧ f Dd δ M ∧ KS K F W H Dd D
def DS (X : Cx) (st : Stmt) (f : DTS) : Prop := PS X st (LS X.K f)
def DB (X : Cx) (st : List Stmt) (f : DTS) : Prop := PSs X st (LS X.K f)
theorem ps_imp {X : Cx} {st : Stmt} {t t' : TS} (h : PS X st t) (f : ∀ D σ H, t' D σ H → t D σ H) : PS X st t' := ⟨fun pins s σ H D I q => h.run pins s σ H D I (f D σ H q)⟩
theorem pss_imp {X : Cx} {st : List Stmt} {t t' : TS} (h : PSs X st t) (f : ∀ D σ H, t' D σ H → t D σ H) : PSs X st t' := ⟨fun pins s σ H D I q => h.run pins s σ H D I (f D σ H q)⟩
section
variable {X : Cx} {a b c e : Expr} {es : List Expr} {st : Stmt} {rest body : List Stmt} {fa fb fc f : DTE} {ft fu : DTT} {fs : DTA} {pos p : Pos} {t u : DTS}
def hNext : DTS := fun D δ M => D.nx δ M
def hSeq (t u : DTS) : DTS := fun D δ M => t { D with nx := u D } δ M
theorem z_nil : DB X [] hNext := pss_imp pss_nil fun D σ H ⟨δ, F, W, M, Dd, ev, s, h, k⟩ => k.nx.now s ev h
theorem z_one (h : DS X st t) : DB X [st] t := pss_one h
theorem z_cons (h1 : DS X st t) (h2 : DB X rest u) : DB X (st :: rest) (hSeq t u) := pss_imp (pss_cons h1 h2) fun D σ H ⟨δ, F, W, M, Dd, ev, s, h, k⟩ =>
  ⟨δ, F, W, M, _, ev, s, h, fun σ' H' W' δ' M' g s' e' q => ⟨δ', F, W', M', Dd, e', s', q, k.mono g⟩, k.rt, k.bk, k.ct⟩
theorem z_pass : DS X (.Pass pos) hNext := ps_imp ps_pass fun D σ H ⟨δ, F, W, M, Dd, ev, s, h, k⟩ => k.nx.now s ev h
def hBrk : DTS := fun D δ M => D.bk δ M
def hCnt : DTS := fun D δ M => D.ct δ M
theorem z_brk : DS X (.Break pos) hBrk := ps_imp ps_break fun D σ H ⟨δ, F, W, M, Dd, ev, s, h, k⟩ => k.bk.now s ev h
theorem z_cnt : DS X (.Continue pos) hCnt := ps_imp ps_continue fun D σ H ⟨δ, F, W, M, Dd, ev, s, h, k⟩ => k.ct.now s ev h
theorem z_doc {x j pos pos'} : DS X (.Expr (.Constant (.str x) j pos) pos') hNext := ps_imp ps_doc fun D σ H ⟨δ, F, W, M, Dd, ev, s, h, k⟩ => k.nx.now s ev h
def hDrop (f : DTE) : DTS := fun D δ M => f δ M fun _ M1 => D.nx δ M1
theorem z_expr (he : DE X e f) (hs : swapsWith e none pos.line X.env = pure false := by rfl) : DS X (.Expr e pos) (hDrop f) := ps_imp (ps_expr he hs) fun D σ H ⟨δ, F, W, M, Dd, ev, s, h, k⟩ =>
  ⟨δ, F, W, M, _, ev, s, h, fun v H1 W1 d M1 g1 s1 r1 q1 => (k.nx.mono g1).now s1 (ev.mono g1) q1⟩
def hRet (f : DTE) : DTS := fun D δ M => f δ M D.rt
theorem z_ret (he : DE X e f) : DS X (.Return (some e) pos) (hRet f) := ps_imp (ps_ret he) fun D σ H ⟨δ, F, W, M, Dd, ev, s, h, k⟩ => ⟨δ, F, W, M, _, ev, s, h, k.rt⟩
def hRetN : DTS := fun D _ M => D.rt .non M
theorem z_retN : DS X (.Return none pos) hRetN := ps_imp ps_retN fun D σ H ⟨δ, F, W, M, Dd, ev, s, h, k⟩ => k.rt.now s .non h
def hIf (c : DTT) (t u : DTS) : DTS := fun D δ M => c δ M fun b M1 => if b = true then t D δ M1 else u D δ M1
theorem z_if {a b : List Stmt} (hc : DT X c ft) (ha : DB X a t) (hb : DB X b u) : DS X (.If c a b pos) (hIf ft t u) := ps_imp (ps_if hc ha hb) fun D σ H ⟨δ, F, W, M, Dd, ev, s, h, k⟩ =>
  ⟨δ, F, W, M, _, ev, s, h, fun v H1 W1 d M1 g1 s1 r1 q1 => by
    cases r1
    cases v with
    | true => exact ⟨δ, F, W1, M1, Dd, ev.mono g1, s1, q1, k.mono g1⟩
    | false => exact ⟨δ, F, W1, M1, Dd, ev.mono g1, s1, q1, k.mono g1⟩⟩
def hNever : DTS := fun _ _ _ => False
theorem z_never : DS X st hNever := ps_imp ps_never fun D σ H ⟨δ, F, W, M, Dd, ev, s, h, k⟩ => h.elim
theorem b_never : DB X rest hNever := pss_imp pss_never fun D σ H ⟨δ, F, W, M, Dd, ev, s, h, k⟩ => h.elim
/-! ### targets -/
abbrev DTG := Da → De → Mm → (De → Mm → Prop) → Prop
abbrev DTGs := List Da → De → Mm → (De → Mm → Prop) → Prop
def LG (K : PySem.W.Frag) (g : DTG) : TG := fun v σ H Q => ∃ δ F W M d Qd, EnvR K W H δ σ ∧ Stt K F W M H ∧ RD K W H v d ∧ g d δ M Qd ∧ KE K F W H Qd Q
def LGs (K : PySem.W.Frag) (g : DTGs) : TGs := fun vs σ H Q => ∃ δ F W M ds Qd, EnvR K W H δ σ ∧ Stt K F W M H ∧ RDs K W H vs ds ∧ g ds δ M Qd ∧ KE K F W H Qd Q
def DG (X : Cx) (t : Expr) (g : DTG) : Prop := PG X t (LG X.K g)
def DGs (X : Cx) (ts : List Expr) (g : DTGs) : Prop := PGs X ts (LGs X.K g)
theorem pg_imp {tg : Expr} {t t' : TG} (h : PG X tg t) (f : ∀ v σ H Q, t' v σ H Q → t v σ H Q) : PG X tg t' := ⟨fun pins s σ H v u Q I r q => h.run pins s σ H v u Q I r (f v σ H Q q)⟩
theorem pgs_imp {tg : List Expr} {t t' : TGs} (h : PGs X tg t) (f : ∀ v σ H Q, t' v σ H Q → t v σ H Q) : PGs X tg t' := ⟨fun pins s σ H v u Q I r q => h.run pins s σ H v u Q I r (f v σ H Q q)⟩
def hName (i : Nat) : DTG := fun d δ M Q => Q (δ.set i (some d)) M
theorem t_n (i : Nat) {x : Str} {pos : Pos} (hN : X.N.Nodup) (hi : X.N[i]? = some x := by rfl) (hx : Loc X.env.scope x := by first | exact Or.inl rfl | exact Or.inr rfl)
    (hf : X.fn x = true ∨ X.env.scope.names.lookup x = some .local := by first | exact .inl rfl | exact .inr rfl) : DG X (.Name x pos) (hName i) :=
  pg_imp (gn i hN hi hx hf) fun v σ H Q ⟨δ, F, W, M, d, Qd, ev, s, r, h, k⟩ => k.now s (ev.set r i) h
def hGnil : DTGs := fun ds δ M Q => match ds with
  | [] => Q δ M
  | _ => False
def hGcons (g : DTG) (gs : DTGs) : DTGs := fun ds δ M Q => match ds with
  | d :: ds => g d δ M fun δ1 M1 => gs ds δ1 M1 Q
  | [] => False
theorem t_nil : DGs X [] hGnil := pgs_imp pgs_nil fun vs σ H Q ⟨δ, F, W, M, ds, Qd, ev, s, r, h, k⟩ => by
  cases r with
  | nil => exact ⟨rfl, k.now s ev h⟩
  | cons _ _ => exact h.elim
theorem t_cons {g : DTG} {gs : DTGs} (h1 : DG X e g) (h2 : DGs X es gs) (hs : (assignEach (e :: es) X.env).map (·.2) = assign e X.env :: (assignEach es X.env).map (·.2) := by rfl) : DGs X (e :: es) (hGcons g gs) :=
  pgs_imp (pgs_cons h1 h2 hs) fun vs σ H Q ⟨δ, F, W, M, ds, Qd, ev, s, r, h, k⟩ => by
    cases r with
    | nil => exact h.elim
    | cons r rr => exact ⟨_, _, rfl, δ, F, W, M, _, _, ev, s, r, h, fun σ' H' W' δ' M' g' s' e' q => ⟨δ', F, W', M', _, Qd, e', s', rr.mono g', q, k.mono g'⟩⟩
def hGtup (n : Nat) (g : DTGs) : DTG := fun d δ M Q => match d with
  | .tup ds => ds.length = n ∧ g ds δ M Q
  | .lst ds => ds.length = n ∧ g ds δ M Q
  | .ref p => ∃ ds, M p = some (.lst ds) ∧ ds.length = n ∧ g ds δ M Q
  | _ => False
/-- several targets of either a tuple or a list -/
theorem pgCases {tg : Expr} {t : TG} (h : ∀ v σ H Q, t v σ H Q → ∃ t' : TG, PG X tg t' ∧ t' v σ H Q) : PG X tg t :=
  ⟨fun pins s σ H v u Q I r q => let ⟨_, o, q'⟩ := h v σ H Q q; o.run pins s σ H v u Q I r q'⟩
theorem t_tup {k : Nat} {g : DTGs} {n : Nat} (hc : X.calm = true) (h : DGs X es g) (hn : (assignEach es X.env).length = n := by rfl) (hst : (assignEach es X.env).findIdx? (·.1) = none := by rfl) : DG X (.Tuple es k pos) (hGtup n g) :=
  pgCases fun v σ H Q ⟨δ, F, W, M, d, Qd, ev, s, r, hq, k⟩ => by
    cases r with
    | tup hs rv => exact ⟨_, pg_tup hc h hn hst, _, _, rfl, hs.sq, by rw [rv.length]; exact hq.1, δ, F, W, M, _, Qd, ev, s, rv, hq.2, k⟩
    | lst hs rv => exact ⟨_, pg_lst hc h hn hst, _, _, rfl, hs.sq, by rw [rv.length]; exact hq.1, δ, F, W, M, _, Qd, ev, s, rv, hq.2, k⟩
    | ref p =>
      obtain ⟨ds, hm, h1, h2⟩ := hq
      obtain ⟨vs, hv, rv⟩ := s.list hm
      exact ⟨_, pg_lst hc h hn hst, _, _, rfl, SqL.of hv, by rw [rv.length]; exact h1, δ, F, W, M, _, Qd, ev, s, rv, h2, k⟩
    | _ => exact hq.elim
/-- p[i] = v on a list of the memory -/
def hSubT (fo fi : DTE) : DTG := fun d δ M Q => fo δ M fun o M1 => fi δ M1 fun i M2 => match o, i with
  | .ref p, .int k => ∃ xs j, M2 p = some (.lst xs) ∧ ixN xs.length k = some j ∧ Q δ (mput M2 p (.lst (xs.set j d)))
  | _, _ => False
theorem t_sub {o i : Expr} {fo fi : DTE} (ho : DE X o fo) (hi : DE X i fi)
    (ha : ∀ v, assign (.Subscript o i pos) X.env v = (do
      let ov ← holding [v] (eval o X.env)
      let iv ← holding [v, ov] (eval i X.env)
      standAt pos
      holding [v, ov, iv] (setItem ov iv v)
      release [v, ov, iv] []) := by intro _; rfl) : DG X (.Subscript o i pos) (hSubT fo fi) := pg_imp (pg_sub ho hi s_list ha) fun v σ H Q ⟨δ, F, W, M, d, Qd, ev, s, r, h, k⟩ =>
  ⟨δ, F, W, M, _, ev, s, h, fun v1 H1 W1 d1 M1 g1 s1 r1 q1 => ⟨δ, F, W1, M1, _, ev.mono g1, s1, q1, fun v2 H2 W2 d2 M2 g2 s2 r2 q2 => by
    have r1' := r1.mono g2
    cases r1' <;> cases r2 <;> first | exact q2.elim | skip
    rename_i p j
    obtain ⟨xs, n, hm, hn, q⟩ := q2
    obtain ⟨vs, hv, rv⟩ := s2.list hm
    have g3 := grow_put (o := .lst (vs.set n v)) s2 hm
    exact ⟨vs, n, hv, by rw [rv.length]; exact hn, (k.mono ((g1.trans g2).trans g3)).now (s2.put hm (.lst (rv.set n (r.mono (g1.trans g2))))) (ev.mono ((g1.trans g2).trans g3)) q⟩⟩⟩
def hAsg (f : DTE) (g : DTG) : DTS := fun D δ M => f δ M fun d M1 => g d δ M1 D.nx
theorem z_asg {tg : Expr} {g : DTG} (he : DE X e f) (hg : DG X tg g) (hs : swapsWithSole [tg] e pos.line X.env = pure false := by rfl) (hw : swappedStores [tg] e X.env = pure none := by rfl)
    (h1 : (assignEach [tg] X.env).map (·.2) = [assign tg X.env] := by rfl) : DS X (.Assign [tg] e pos) (hAsg f g) := ps_imp (ps_asg he hg hs hw h1) fun D σ H ⟨δ, F, W, M, Dd, ev, s, h, k⟩ =>
  ⟨δ, F, W, M, _, ev, s, h, fun v H1 W1 d M1 g1 s1 r1 q1 => ⟨δ, F, W1, M1, d, _, ev.mono g1, s1, r1, q1, k.nx.mono g1⟩⟩
theorem z_set (i : Nat) {x : Str} {pos' : Pos} (hN : X.N.Nodup) (he : DE X e f) (hi : X.N[i]? = some x := by rfl) (hx : Loc X.env.scope x := by first | exact Or.inl rfl | exact Or.inr rfl) (hs : swapsWith e (some (.Name x pos')) pos.line X.env = pure false := by rfl)
    (hf : X.fn x = true ∨ X.env.scope.names.lookup x = some .local := by first | exact .inl rfl | exact .inr rfl) : DS X (.Assign [.Name x pos'] e pos) (hAsg f (hName i)) := ps_imp (set i hN he hi hx hs hf) fun D σ H ⟨δ, F, W, M, Dd, ev, s, h, k⟩ =>
  ⟨δ, F, W, M, _, ev, s, h, fun v H1 W1 d M1 g1 s1 r1 q1 => (k.nx.mono g1).now s1 ((ev.mono g1).set r1 i) q1⟩
/-- x, y = a, b -/
def hPar (i j : Nat) (fs : DTA) : DTS := fun D δ M => fs δ M fun ds M1 => match ds with
  | [d, e] => D.nx ((δ.set i (some d)).set j (some e)) M1
  | _ => False
theorem li_par {i j : Nat} {D : Ends} {σ : L2.St} {H : Hp} (h : LS X.K (hPar i j fs) D σ H) : tPar i j (Li (rA X.K) X.K fs) D σ H := by
  obtain ⟨δ, F, W, M, Dd, ev, s, h, k⟩ := h
  refine ⟨δ, F, W, M, _, ev, s, h, fun v H1 W1 d M1 g1 s1 r1 q1 => ?_⟩
  split at q1
  · obtain ⟨x, y, rfl, rx, ry⟩ := r1.two
    exact ⟨x, y, rfl, (k.nx.mono g1).now s1 (((ev.mono g1).set rx i).set ry j) q1⟩
  · exact q1.elim
/-- x op= e -/
def hAug (i : Nat) (f : DTE) (g : D2) : DTS := fun D δ M => match δ[i]? with
  | some (some x) => f δ M fun y M1 => g x y M1 fun z M2 => D.nx (δ.set i (some z)) M2
  | _ => False
theorem z_aug {i : Nat} {x : Str} {op : Operator} {g : D2} {pos' : Pos} (hN : X.N.Nodup) (hi : X.N[i]? = some x) (hx : Loc X.env.scope x) (he : DE X e f) (ho : PIp X op (L2o X.K g)) (hf : X.fn x = true ∨ X.env.scope.names.lookup x = some .local := by first | exact .inl rfl | exact .inr rfl | assumption) :
    DS X (.AugAssign (.Name x pos') op e pos) (hAug i f g) := ps_imp (ps_aug hN hi hx he ho hf) fun D σ H ⟨δ, F, W, M, Dd, ev, s, h, k⟩ => by
  unfold hAug at h
  split at h
  · rename_i d q
    obtain ⟨v, hv, r⟩ := ev.get q
    exact ⟨v, hv, δ, F, W, M, _, ev, s, h, fun y H1 W1 e1 M1 g1 s1 r1 q1 => ⟨F, W1, M1, d, e1, _, r.mono g1, r1, s1, q1, fun z H2 W2 e2 M2 g2 s2 r2 q2 => (k.nx.mono (g1.trans g2)).now s2 ((ev.mono (g1.trans g2)).set r2 i) q2⟩⟩
  · exact h.elim
theorem ipImp {op : Operator} {t t' : TIp} (h : PIp X op t) (f : ∀ x y H Q, t' x y H Q → t x y H Q) : PIp X op t' := fun pins s σ H x y v u Q I r1 r2 q => h pins s σ H x y v u Q I r1 r2 (f x y H Q q)
def hIadd : D2 := fun x y M Q => match x, y with
  | .int i, .int j => Q (.int (i + j)) M
  | _, _ => False
theorem i_add : PIp X .Add (L2o X.K hIadd) := ipImp ip_add fun x y H Q ⟨F, W, M, d, e, Qd, r1, r2, s, h, k⟩ => by
  cases r1 <;> cases r2 <;> first | exact h.elim | exact ⟨_, _, rfl, rfl, k.now s (.int _) h⟩
theorem i_sub : PIp X .Sub (L2o X.K U.hSub) := ipImp ip_sub fun x y H Q ⟨F, W, M, d, e, Qd, r1, r2, s, h, k⟩ => by
  cases r1 <;> cases r2 <;> first | exact h.elim | exact ⟨_, _, rfl, rfl, k.now s (.int _) h⟩
end
end U
set_option Elab.async false
set_option linter.all false
set_option maxRecDepth 100000
set_option maxHeartbeats 2000000
/-! Readings over plain data: loops, comprehensions. -/
namespace U
open PySem PySem.Spec PyProof.Rows L2
abbrev NoF : Addr → Prop := fun _ => False
theorem Grow.noF {F W W' : Addr → Prop} {H H' : Hp} (g : Grow F W H W' H') : Grow NoF W H W' H' := ⟨g.w, g.h, fun _ z => z.elim⟩
/-- the iterator yields these -/
def ItR (K : PySem.W.Frag) (W : Addr → Prop) (H : Hp) (J : It) (ds : List Da) : Prop :=
  ∀ F' W' H' M', Grow NoF W H W' H' → Stt K F' W' M' H' →
    (∀ i d, ds[i]? = some d → J.go i H' ∧ ∀ x H'', J.yld i H' x H'' → ∃ W'', Grow F' W' H' W'' H'' ∧ Stt K F' W'' M' H'' ∧ RD K W'' H'' x d) ∧ ∀ i, ds.length ≤ i → J.stop i H'
theorem ItR.mono {K : PySem.W.Frag} {F W W1 : Addr → Prop} {H H1 : Hp} {J : It} {ds : List Da} (g : Grow F W H W1 H1) (h : ItR K W H J ds) : ItR K W1 H1 J ds :=
  fun F' W' H' M' g' s => h F' W' H' M' (g.noF.trans g') s
theorem it_list {K : PySem.W.Frag} {W : Addr → Prop} {H : Hp} {a : Addr} {vs : List V} {ds : List Da} (hs : Sl K W H a vs) (rv : RDs K W H vs ds) : ItR K W H (Itl K a) ds := fun F' W' H' M' g s => by
  have q := (hs.mono g).sq
  have rv' := rv.mono g
  refine ⟨fun i d hd => ?_, fun i hi => ⟨vs, q, by rw [rv'.length]; exact hi⟩⟩
  obtain ⟨v, hv, r⟩ := rv'.get hd
  refine ⟨⟨vs, v, q, hv⟩, fun x H'' y => ?_⟩
  obtain ⟨rfl, y⟩ := y
  have e := y vs q
  rw [hv] at e
  cases e
  exact ⟨W', .refl, s, r⟩
theorem it_tup {K : PySem.W.Frag} {W : Addr → Prop} {H : Hp} {a : Addr} {vs : List V} {ds : List Da} (hs : Sp' K W H a vs) (rv : RDs K W H vs ds) : ItR K W H (Itt K a) ds := fun F' W' H' M' g s => by
  have q := (hs.mono g).sq
  have rv' := rv.mono g
  refine ⟨fun i d hd => ?_, fun i hi => ⟨vs, q, by rw [rv'.length]; exact hi⟩⟩
  obtain ⟨v, hv, r⟩ := rv'.get hd
  refine ⟨⟨vs, v, q, hv⟩, fun x H'' y => ?_⟩
  obtain ⟨rfl, y⟩ := y
  have e := y vs q
  rw [hv] at e
  cases e
  exact ⟨W', .refl, s, r⟩
/-- lo, lo + 1, .. -/
def rngD (lo : Int) (n : Nat) : List Da := (List.range n).map fun i => Da.int (lo + (i : Nat))
theorem it_rng {K : PySem.W.Frag} {W : Addr → Prop} {H : Hp} (lo : Int) (n : Nat) : ItR K W H (Itr lo n) (rngD lo n) := fun F' W' H' M' g s => by
  have hl : (rngD lo n).length = n := by unfold rngD; rw [List.length_map, List.length_range]
  refine ⟨fun i d hd => ?_, fun i hi => by rw [hl] at hi; exact hi⟩
  have hi : i < n := by have := (List.getElem?_eq_some_iff.mp hd).1; rw [hl] at this; exact this
  refine ⟨hi, fun x H'' y => ?_⟩
  obtain ⟨rfl, rfl⟩ := y
  unfold rngD at hd
  rw [List.getElem?_map, List.getElem?_range hi] at hd
  cases hd
  exact ⟨W', .refl, s, .int _⟩
def chrD (x : Str) : List Da := x.cps.toList.map fun c => Da.str ⟨#[c]⟩
theorem it_str {K : PySem.W.Frag} {W : Addr → Prop} {H : Hp} (x : Str) : ItR K W H (Its x) (chrD x) := fun F' W' H' M' g s => by
  have hl : (chrD x).length = x.cps.size := by unfold chrD; rw [List.length_map]; exact Array.length_toList
  refine ⟨fun i d hd => ?_, fun i hi => by rw [hl] at hi; exact hi⟩
  have hi : i < x.cps.size := by have := (List.getElem?_eq_some_iff.mp hd).1; rw [hl] at this; exact this
  refine ⟨hi, fun y H'' z => ?_⟩
  obtain ⟨rfl, c, hc, rfl⟩ := z
  unfold chrD at hd
  rw [List.getElem?_map, Array.getElem?_toList, hc] at hd
  cases hd
  exact ⟨W', .refl, s, .str _⟩
/-- pairs of a number and an item -/
def enumD (n : Nat) : List Da → List Da
  | [] => []
  | d :: ds => .tup [.int (n : Int), d] :: enumD (n + 1) ds
theorem enumD_get : ∀ {ds : List Da} {n i : Nat} {e : Da}, (enumD n ds)[i]? = some e → ∃ d, ds[i]? = some d ∧ e = .tup [.int ((n + i : Nat) : Int), d]
  | [], _, _, _, h => by simp [enumD] at h
  | d :: ds, n, 0, e, h => by
    simp [enumD] at h
    exact ⟨d, rfl, h.symm⟩
  | d :: ds, n, i + 1, e, h => by
    have h' : (enumD (n + 1) ds)[i]? = some e := by simpa [enumD] using h
    obtain ⟨x, hx, rfl⟩ := enumD_get h'
    exact ⟨x, by simpa using hx, by rw [show n + 1 + i = n + (i + 1) by omega]⟩
theorem enumD_length : ∀ (ds : List Da) (n : Nat), (enumD n ds).length = ds.length
  | [], _ => rfl
  | d :: ds, n => by rw [enumD, List.length_cons, List.length_cons, enumD_length ds]
theorem it_enum {K : PySem.W.Frag} {W : Addr → Prop} {H : Hp} {a : Addr} {vs : List V} {ds : List Da} (hs : Sl K W H a vs) (rv : RDs K W H vs ds) : ItR K W H (Ite K a) (enumD 0 ds) := fun F' W' H' M' g s => by
  have q := (hs.mono g).sq
  have rv' := rv.mono g
  refine ⟨fun i d hd => ?_, fun i hi => ⟨vs, q, by rw [rv'.length]; rw [enumD_length] at hi; exact hi⟩⟩
  obtain ⟨e, he, rfl⟩ := enumD_get hd
  obtain ⟨v, hv, r⟩ := rv'.get he
  refine ⟨⟨vs, v, q, hv⟩, fun x H'' y => ?_⟩
  obtain ⟨T, z, rfl, hT, rfl, y⟩ := y
  have ey := y vs q
  rw [hv] at ey
  cases ey
  obtain ⟨s2, g2⟩ := s.new hT (.tup [.int (i : Nat), v])
  exact ⟨_, g2, s2, .tup (.inl ⟨.inl rfl, .inl upd_same⟩) (.cons (by rw [Nat.zero_add]; exact .int _) (.cons (r.mono g2) .nil))⟩
def zipD : List Da → List Da → List Da
  | d :: ds, e :: es => .tup [d, e] :: zipD ds es
  | _, _ => []
theorem zipD_get : ∀ {ds es : List Da} {i : Nat} {x : Da}, (zipD ds es)[i]? = some x → ∃ d e, ds[i]? = some d ∧ es[i]? = some e ∧ x = .tup [d, e]
  | [], _, _, _, h => by simp [zipD] at h
  | _ :: _, [], _, _, h => by simp [zipD] at h
  | d :: ds, e :: es, 0, x, h => by
    simp [zipD] at h
    exact ⟨d, e, rfl, rfl, h.symm⟩
  | d :: ds, e :: es, i + 1, x, h => by
    obtain ⟨y, z, h1, h2, h3⟩ := zipD_get (ds := ds) (es := es) (i := i) (by simpa [zipD] using h)
    exact ⟨y, z, by simpa using h1, by simpa using h2, h3⟩
theorem zipD_length : ∀ (ds es : List Da), (zipD ds es).length = min ds.length es.length
  | [], es => by simp [zipD]
  | _ :: _, [] => by simp [zipD]
  | d :: ds, e :: es => by rw [zipD, List.length_cons, List.length_cons, List.length_cons, zipD_length ds es]; omega
theorem it_zipT {K : PySem.W.Frag} {W : Addr → Prop} {H : Hp} {a b : Addr} {vs ws : List V} {ds es : List Da} (hs : Sp' K W H a vs) (rv : RDs K W H vs ds) (ht : Sp' K W H b ws) (rw_ : RDs K W H ws es) : ItR K W H (RZ.ItzT K a b) (zipD ds es) := fun F' W' H' M' g s => by
  have q := (hs.mono g).sq
  have q2 := (ht.mono g).sq
  have rv' := rv.mono g
  have rw' := rw_.mono g
  refine ⟨fun i d hd => ?_, fun i hi => ⟨vs, ws, q, q2, by rw [rv'.length, rw'.length]; rw [zipD_length] at hi; omega⟩⟩
  obtain ⟨x, y, hx, hy, rfl⟩ := zipD_get hd
  obtain ⟨v, hv, r⟩ := rv'.get hx
  obtain ⟨u, hu, r2⟩ := rw'.get hy
  refine ⟨⟨vs, ws, v, u, q, q2, hv, hu⟩, fun z H'' y => ?_⟩
  obtain ⟨T, x1, y1, rfl, hT, rfl, z1, z2⟩ := y
  have e1 := z1 vs q
  rw [hv] at e1
  cases e1
  have e2 := z2 ws q2
  rw [hu] at e2
  cases e2
  obtain ⟨s2, g2⟩ := s.new hT (.tup [v, u])
  exact ⟨_, g2, s2, .tup (.inl ⟨.inl rfl, .inl upd_same⟩) (.cons (r.mono g2) (.cons (r2.mono g2) .nil))⟩
theorem it_zipL {K : PySem.W.Frag} {W : Addr → Prop} {H : Hp} {a b : Addr} {vs ws : List V} {ds es : List Da} (hs : Sl K W H a vs) (rv : RDs K W H vs ds) (ht : Sl K W H b ws) (rw_ : RDs K W H ws es) : ItR K W H (Itz K a b) (zipD ds es) := fun F' W' H' M' g s => by
  have q := (hs.mono g).sq
  have q2 := (ht.mono g).sq
  have rv' := rv.mono g
  have rw' := rw_.mono g
  refine ⟨fun i d hd => ?_, fun i hi => ⟨vs, ws, q, q2, by rw [rv'.length, rw'.length]; rw [zipD_length] at hi; omega⟩⟩
  obtain ⟨x, y, hx, hy, rfl⟩ := zipD_get hd
  obtain ⟨v, hv, r⟩ := rv'.get hx
  obtain ⟨u, hu, r2⟩ := rw'.get hy
  refine ⟨⟨vs, ws, v, u, q, q2, hv, hu⟩, fun z H'' y => ?_⟩
  obtain ⟨T, x1, y1, rfl, hT, rfl, z1, z2⟩ := y
  have e1 := z1 vs q
  rw [hv] at e1
  cases e1
  have e2 := z2 ws q2
  rw [hu] at e2
  cases e2
  obtain ⟨s2, g2⟩ := s.new hT (.tup [v, u])
  exact ⟨_, g2, s2, .tup (.inl ⟨.inl rfl, .inl upd_same⟩) (.cons (r.mono g2) (.cons (r2.mono g2) .nil))⟩
/-! ### what is walked -/
abbrev DTI := DR (List Da)
def LI (K : PySem.W.Frag) (f : DTI) : TI := fun σ H R => ∃ δ F W M Qd, EnvR K W H δ σ ∧ Stt K F W M H ∧ f δ M Qd ∧ ∀ J H' W' M' ds, Grow F W H W' H' → Stt K F W' M' H' → ItR K W' H' J ds → Qd ds M' → R J H'
def DI (X : Cx) (tg iter : Expr) (f : DTI) : Prop := PI X tg iter (LI X.K f)
theorem pi_imp {X : Cx} {tg e : Expr} {t t' : TI} (h : PI X tg e t) (f : ∀ σ H R, t' σ H R → t σ H R) : PI X tg e t' := ⟨fun pins s σ H R I q => h.run pins s σ H R I (f σ H R q)⟩
section
variable {X : Cx} {tg a b c e : Expr} {es : List Expr} {st : Stmt} {rest body : List Stmt} {fa fb fc f : DTE} {ft fu : DTT} {fs : DTA} {pos p : Pos} {t u : DTS} {di : DTI}
/-- any row, a text -/
def iAny (K : PySem.W.Frag) (tl : TE) : TI := fun σ H R => tl σ H fun x H1 => match x with
  | .str z => R (Its z) H1
  | .ref a => ((∃ xs, SqL K H1 a xs) ∧ R (Itl K a) H1) ∨ ((∃ xs, SqT K H1 a xs) ∧ R (Itt K a) H1)
  | _ => False
theorem pi_any {l : Expr} {tl : TE} (hl : PE X l tl) : PI X tg l (iAny X.K tl) := by
  refine ⟨fun pins s σ H R I h => ?_⟩
  refine thn (hl.run pins s σ H _ I h) fun v s1 ⟨x, H1, I1, r1, q1⟩ => ?_
  cases x <;> first | exact q1.elim | skip
  · rename_i z
    obtain ⟨t, rfl⟩ := r1
    cases ha : z.cps.all (· < 128)
    · exact wpAny_pyIter_wide ha (pi_one (tk := s1.toks) I1 _ (turn_str _ z t "str_iterator" (.inr rfl)) ⟨_, Heap.get?_push_size _ rfl, rfl, rfl⟩ q1)
    · exact wpAny_pyIter_ascii ha (pi_one (tk := s1.toks) I1 _ (turn_str _ z t "str_ascii_iterator" (.inl rfl)) ⟨_, Heap.get?_push_size _ rfl, rfl, rfl⟩ q1)
  · rename_i a
    cases r1
    rcases q1 with ⟨⟨xs, hq⟩, q⟩ | ⟨⟨xs, hq⟩, q⟩
    · obtain ⟨its, rv, p, hz⟩ := I1.list hq
      refine wpAny_pyIter_list p.isList ?_
      refine ⟨s1.heap.objs.size, [s1.heap.objs.size], _, _, H1, rfl, I1.kept (t' := s1.toks) fun b o e => Heap.get?_push_of_some _ e, turn_list a _, ⟨_, Heap.get?_push_size _ rfl, rfl, rfl⟩, fun b hb => ?_, q⟩
      have e : b = s1.heap.objs.size := by simpa using hb
      subst e
      exact I1.fpOk (Nat.le_refl _) (I1.hok.fresh (Nat.le_refl _))
    · obtain ⟨its, rv, p, hz⟩ := I1.tuple hq
      refine wpAny_pyIter_tuple (show s1.heap.IsTuple a its.toArray from p) ?_
      refine ⟨s1.heap.objs.size, [s1.heap.objs.size], _, _, H1, rfl, I1.kept (t' := s1.toks) fun b o e => Heap.get?_push_of_some _ e, turn_tuple a _, ⟨_, Heap.get?_push_size _ rfl, rfl, rfl⟩, fun b hb => ?_, q⟩
      have e : b = s1.heap.objs.size := by simpa using hb
      subst e
      exact I1.fpOk (Nat.le_refl _) (I1.hok.fresh (Nat.le_refl _))
def gIt (f : DTE) : DTI := fun δ M Q => f δ M fun x M1 => match x with
  | .lst ds => Q ds M1
  | .tup ds => Q ds M1
  | .str z => Q (chrD z) M1
  | .ref p => ∃ ds, M1 p = some (.lst ds) ∧ Q ds (mdel M1 p)
  | _ => False
theorem d_it (h : DE X e f) : DI X tg e (gIt f) := pi_imp (pi_any h) fun σ H R ⟨δ, F, W, M, Qd, ev, s, h, k⟩ => ⟨δ, F, W, M, _, ev, s, h, fun v H1 W1 d M1 g1 s1 r1 q1 => by
  cases r1 with
  | lst hs rv => exact .inl ⟨⟨_, hs.sq⟩, k _ _ W1 M1 _ g1 s1 (it_list hs rv) q1⟩
  | tup hs rv => exact .inr ⟨⟨_, hs.sq⟩, k _ _ W1 M1 _ g1 s1 (it_tup hs rv) q1⟩
  | str z => exact k _ _ W1 M1 _ g1 s1 (it_str z) q1
  | ref p =>
    obtain ⟨ds, hm, q⟩ := q1
    obtain ⟨s2, g2⟩ := s1.settle hm
    obtain ⟨vs, hv, rv⟩ := s1.list hm
    exact .inl ⟨⟨_, SqL.of hv⟩, k _ _ _ _ _ (g1.trans g2) s2 (it_list (.inl ⟨.inl rfl, .inl hv⟩) (rv.mono g2)) q⟩
  | _ => exact q1.elim⟩
/-- a range -/
def Rok (i : Int) : Prop := -(2 ^ 62) ≤ i ∧ i < 2 ^ 62
def gRg1 (fs : DTA) : DTI := fun δ M Q => fs δ M fun ds M1 => match ds with
  | [.int j] => Rok j ∧ Q (rngD 0 j.toNat) M1
  | _ => False
def gRg2 (fs : DTA) : DTI := fun δ M Q => fs δ M fun ds M1 => match ds with
  | [.int i, .int j] => (Rok i ∧ Rok j) ∧ Q (rngD i (j - i).toNat) M1
  | _ => False
theorem d_rg1 (hm : X.mg "range" = none) (ha : DA X [a] fs) (hg : Gl X "range" := by rfl) (hs : starEach [a] X.env = [(false, eval a X.env)] := by rfl) : DI X tg (.Call (.Name "range" p) [a] [] pos) (gRg1 fs) :=
  pi_imp (pi_range1 hg hm ha hs) fun σ H R ⟨δ, F, W, M, Qd, ev, s, h, k⟩ => ⟨δ, F, W, M, _, ev, s, h, fun vs H1 W1 ds M1 g1 s1 r1 q1 => by
    split at q1
    · obtain ⟨v, rfl, r⟩ := r1.one
      cases r
      exact ⟨_, rfl, q1.1.1, q1.1.2, k _ _ W1 M1 _ g1 s1 (it_rng _ _) q1.2⟩
    · exact q1.elim⟩
theorem d_rg2 (hm : X.mg "range" = none) (ha : DA X [a, b] fs) (hg : Gl X "range" := by rfl) (hs : starEach [a, b] X.env = [(false, eval a X.env), (false, eval b X.env)] := by rfl) (hs2 : starEach [b] X.env = [(false, eval b X.env)] := by rfl) : DI X tg (.Call (.Name "range" p) [a, b] [] pos) (gRg2 fs) :=
  pi_imp (pi_range2 hg hm ha hs hs2) fun σ H R ⟨δ, F, W, M, Qd, ev, s, h, k⟩ => ⟨δ, F, W, M, _, ev, s, h, fun vs H1 W1 ds M1 g1 s1 r1 q1 => by
    split at q1
    · obtain ⟨v, u, rfl, r, r'⟩ := r1.two
      cases r
      cases r'
      exact ⟨_, _, rfl, ⟨q1.1.1.1, q1.1.1.2, q1.1.2.1, q1.1.2.2⟩, k _ _ W1 M1 _ g1 s1 (it_rng _ _) q1.2⟩
    · exact q1.elim⟩
/-! ### for, while -/
def forD (g : DTG) (tb : DTS) (D : DEnds) : List Da → De → Mm → Prop
  | [], δ, M => D.nx δ M
  | d :: ds, δ, M => g d δ M fun δ2 M2 => tb { D with nx := forD g tb D ds, ct := forD g tb D ds, bk := D.nx } δ2 M2
def hFor (di : DTI) (g : DTG) (tb : DTS) : DTS := fun D δ M => di δ M fun ds M1 => forD g tb D ds δ M1
theorem z_for {g : DTG} {tb : DTS} (hp : PassesOwn (model X.prog X.w) X.A X.env X.xe) (hc : X.calm = true) (hi : DI X tg e di) (hg : DG X tg g) (hb : DB X body tb)
    (hs : ∀ x, foldedSetIterable e X.env x = pure x := by intro _; rfl) : DS X (.For tg e body [] pos) (hFor di g tb) := ps_imp (ps_for hp hc hi hg hb hs) fun D σ H ⟨δ, F, W, M, Dd, ev, s, h, k⟩ => by
  refine ⟨δ, F, W, M, _, ev, s, h, fun J H1 W1 M1 ds g1 s1 ij q => ?_⟩
  let Pv : Nat → L2.St → Hp → Prop := fun i σ H => ∃ δ W2 M2, Grow F W1 H1 W2 H ∧ Stt X.K F W2 M2 H ∧ EnvR X.K W2 H δ σ ∧ forD g tb Dd (ds.drop i) δ M2
  refine ⟨fun i m σ H => m = ds.length - i ∧ i ≤ ds.length ∧ Pv i σ H, ⟨ds.length, by simp, Nat.zero_le _, δ, W1, M1, .refl, s1, ev.mono g1, q⟩, ?_⟩
  rintro i m σ2 H2 ⟨rfl, hi, δ2, W2, M2, g2, s2, ev2, q2⟩
  obtain ⟨go, stop⟩ := ij F W2 H2 M2 g2.noF s2
  by_cases hlt : i < ds.length
  · have hd : ds[i]? = some ds[i] := List.getElem?_eq_getElem hlt
    obtain ⟨go1, go2⟩ := go i _ hd
    refine .inr ⟨go1, Pv (i + 1), fun σ' H' p' => ⟨ds.length - (i + 1), by omega, rfl, hlt, p'⟩, fun x H3 y => ?_⟩
    obtain ⟨W3, g3, s3, r3⟩ := go2 x H3 y
    rw [List.drop_eq_getElem_cons hlt] at q2
    refine ⟨δ2, F, W3, M2, _, _, ev2.mono g3, s3, r3, q2, fun σ4 H4 W4 δ4 M4 g4 s4 e4 q4 => ?_⟩
    have gg := g2.trans (g3.trans g4)
    have nx : KE X.K F W4 H4 (forD g tb Dd (ds.drop (i + 1))) (Pv (i + 1)) := fun σ5 H5 W5 δ5 M5 g5 s5 e5 q5 => ⟨δ5, W5, M5, gg.trans g5, s5, e5, q5⟩
    exact ⟨δ4, F, W4, M4, _, e4, s4, q4, nx, (k.mono (g1.trans gg)).rt, (k.mono (g1.trans gg)).nx, nx⟩
  · have e : i = ds.length := by omega
    subst e
    rw [List.drop_length] at q2
    exact .inl ⟨stop _ (Nat.le_refl _), (k.nx.mono (g1.trans g2)).now s2 ev2 q2⟩
def whD (c : DTT) (tb : DTS) (D : DEnds) : Nat → De → Mm → Prop
  | 0, _, _ => False
  | n + 1, δ, M => c δ M fun b M1 => if b = true then tb { D with nx := whD c tb D n, ct := whD c tb D n, bk := D.nx } δ M1 else D.nx δ M1
def hWhile (c : DTT) (tb : DTS) : DTS := fun D δ M => ∃ n, whD c tb D n δ M
theorem z_while {tb : DTS} (hp : PassesOwn (model X.prog X.w) X.A X.env X.xe) (hc : DT X c ft) (hb : DB X body tb) : DS X (.While c body [] pos) (hWhile ft tb) := ps_imp (ps_while hp hc hb) fun D σ H ⟨δ, F, W, M, Dd, ev, s, ⟨n, h⟩, k⟩ => by
  let Pv : Nat → L2.St → Hp → Prop := fun i σ H1 => ∃ δ W2 M2, Grow F W H W2 H1 ∧ Stt X.K F W2 M2 H1 ∧ EnvR X.K W2 H1 δ σ ∧ whD ft tb Dd i δ M2
  refine ⟨Pv, ⟨n, δ, W, M, .refl, s, ev, h⟩, ?_⟩
  rintro m σ2 H2 ⟨δ2, W2, M2, g2, s2, ev2, q2⟩
  cases m with
  | zero => exact q2.elim
  | succ m =>
    refine ⟨δ2, F, W2, M2, _, ev2, s2, q2, fun b H3 W3 d M3 g3 s3 r3 q3 => ?_⟩
    cases r3
    have gg := g2.trans g3
    cases b with
    | true =>
      have nx : KE X.K F W3 H3 (whD ft tb Dd m) (Pv m) := fun σ5 H5 W5 δ5 M5 g5 s5 e5 q5 => ⟨δ5, W5, M5, gg.trans g5, s5, e5, q5⟩
      exact ⟨Pv m, fun σ' H' p => ⟨m, Nat.lt_succ_self _, p⟩, δ2, F, W3, M3, _, ev2.mono g3, s3, q3, nx, (k.mono gg).rt, (k.mono gg).nx, nx⟩
    | false => exact (k.nx.mono gg).now s3 (ev2.mono g3) q3
end
end U
set_option Elab.async false
set_option linter.all false
set_option maxRecDepth 100000
set_option maxHeartbeats 2000000
/-! Readings over plain data: comprehensions. -/
namespace U
open PySem PySem.Spec PyProof.Rows L2
/-- a comprehension's target: a name, a tuple of names -/
inductive CT where
  | n (i : Nat) | t (is : List Nat)
def CT.slots : CT → List Nat
  | .n i => [i]
  | .t is => is
def setsV : List Nat → TGs
  | [] => L2.gNil
  | i :: is => L2.gCons (L2.gName i) (setsV is)
def CT.tg (K : PySem.W.Frag) : CT → TG
  | .n i => gName i
  | .t is => L2.gTup K is.length (setsV is)
/-- the slots set -/
def setsD : List Nat → List Da → De → De
  | i :: is, d :: ds, δ => setsD is ds (δ.set i (some d))
  | _, _, δ => δ
def CT.ok : CT → Da → Prop
  | .n _, _ => True
  | .t is, .tup ds => ds.length = is.length
  | .t _, _ => False
def CT.set : CT → Da → De → De
  | .n i, d, δ => δ.set i (some d)
  | .t is, .tup ds, δ => setsD is ds δ
  | .t _, _, δ => δ
def wipeD (δ : De) : List Nat → De
  | [] => δ
  | v :: vs => (wipeD δ vs).set v none
theorem EnvR.wipe {K : PySem.W.Frag} {W : Addr → Prop} {H : Hp} {δ : De} {σ : L2.St} (e : EnvR K W H δ σ) : ∀ vs : List Nat, EnvR K W H (wipeD δ vs) (wipe σ vs)
  | [] => e
  | v :: vs => (EnvR.wipe e vs).del v
theorem wipe_set_in {x : Option V} {i : Nat} : ∀ {vs : List Nat} {σ : L2.St}, i ∈ vs → wipe (σ.set i x) vs = wipe σ vs
  | [], _, h => by simp at h
  | v :: vs, σ, h => by
    show (wipe (σ.set i x) vs).set v none = (wipe σ vs).set v none
    by_cases hm : i ∈ vs
    · rw [wipe_set_in hm]
    · have e : i = v := by
        rcases List.mem_cons.mp h with e | e
        · exact e
        · exact absurd e hm
      subst e
      have : ∀ (ws : List Nat) (σ : L2.St), i ∉ ws → wipe (σ.set i x) ws = (wipe σ ws).set i x := by
        intro ws
        induction ws with
        | nil => intro σ _; rfl
        | cons w ws ih =>
          intro σ hn
          have hn' : ¬ i = w ∧ i ∉ ws := by simpa using hn
          show (wipe (σ.set i x) ws).set w none = ((wipe σ ws).set w none).set i x
          rw [ih σ hn'.2, List.set_comm _ _ hn'.1]
      rw [this vs σ hm, List.set_set]
theorem wipe_wipe : ∀ (vs ws : List Nat) (σ : L2.St), (∀ v ∈ vs, v ∈ ws) → wipe (wipe σ vs) ws = wipe σ ws
  | [], _, _, _ => rfl
  | v :: vs, ws, σ, h => by
    show wipe ((wipe σ vs).set v none) ws = _
    rw [wipe_set_in (h v List.mem_cons_self), wipe_wipe vs ws σ fun u hu => h u (List.mem_cons_of_mem _ hu)]
section
variable {K : PySem.W.Frag} {W : Addr → Prop} {H : Hp}
theorem setsV_ok {ws : List Nat} : ∀ {is : List Nat} {vs : List V} {ds : List Da} {δ : De} {σ : L2.St} {Q : L2.St → Hp → Prop}, (∀ i ∈ is, i ∈ ws) → ds.length = is.length → RDs K W H vs ds → EnvR K W H δ σ →
    (∀ σ2, wipe σ2 ws = wipe σ ws → EnvR K W H (setsD is ds δ) σ2 → Q σ2 H) → setsV is vs σ H Q
  | [], vs, ds, δ, σ, Q, _, hl, rv, ev, q => by
    have : ds = [] := List.eq_nil_of_length_eq_zero hl
    subst this
    cases rv with
    | nil => exact ⟨rfl, q σ rfl ev⟩
  | i :: is, vs, ds, δ, σ, Q, hm, hl, rv, ev, q => by
    cases rv with
    | nil => simp at hl
    | cons r rr =>
      refine ⟨_, _, rfl, ?_⟩
      refine setsV_ok (fun j hj => hm j (List.mem_cons_of_mem _ hj)) (by simpa using hl) rr (ev.set r i) fun σ2 e1 e2 => q σ2 ?_ e2
      rw [e1, wipe_set_in (hm i List.mem_cons_self)]
theorem ct_ok {c : CT} {ws : List Nat} {v : V} {d : Da} {δ : De} {σ : L2.St} {Q : L2.St → Hp → Prop} (hm : ∀ i ∈ c.slots, i ∈ ws) (ho : c.ok d) (r : RD K W H v d) (ev : EnvR K W H δ σ)
    (q : ∀ σ2, wipe σ2 ws = wipe σ ws → EnvR K W H (c.set d δ) σ2 → Q σ2 H) : c.tg K v σ H Q := by
  cases c with
  | n i => exact q _ (wipe_set_in (hm i (by simp [CT.slots]))) (ev.set r i)
  | t is =>
    cases d with
    | tup ds =>
      cases r with
      | tup hs rv => exact ⟨_, _, rfl, hs.sq, by rw [rv.length]; exact ho, setsV_ok hm ho rv ev q⟩
    | _ => exact ho.elim
end
/-- [te for c in .. if tt] -/
def lcD (c : CT) (tt : DTT) (te : DTE) (δ : De) : List Da → (List Da → Mm → Prop) → Mm → Prop
  | [], k, M => k [] M
  | d :: ds, k, M => c.ok d ∧ tt (c.set d δ) M fun b M2 => if b = true then te (c.set d δ) M2 fun y M3 => lcD c tt te δ ds (fun ys M4 => k (y :: ys) M4) M3 else lcD c tt te δ ds k M2
def gYes : DTT := fun _ M Q => Q true M
def gLc (di : DTI) (c : CT) (tt : DTT) (te : DTE) (vs : List Nat) : DTE := fun δ M Q => di δ M fun ds M1 => Sz ds.length ∧ lcD c tt te (wipeD δ vs) ds (fun ys M2 => Q (.lst ys) M2) M1
def gLcM (di : DTI) (c : CT) (tt : DTT) (te : DTE) (vs : List Nat) : DTE := fun δ M Q => di δ M fun ds M1 => Sz ds.length ∧ lcD c tt te (wipeD δ vs) ds (fun ys M2 => ∀ p, M2 p = none → Q (.ref p) (mput M2 p (.lst ys))) M1
/-- with one more address of another's -/
def fadd (F : Addr → Prop) (p : Addr) : Addr → Prop := fun a => a = p ∨ F a
section
variable {K : PySem.W.Frag} {F W : Addr → Prop} {H : Hp} {M : Mm} {p : Addr}
theorem Stt.addF (s : Stt K F W M H) (h : H p = none) (o : HO) : Stt K (fadd F p) W M (upd H p o) := by
  have s2 := s.junk h o
  refine ⟨s2.wf, fun a w => ?_, s2.dis, s2.mem⟩
  rcases w with w | w
  · subst w; exact ⟨s.freeW h, s.freeM h, _, upd_same⟩
  · exact s2.fr a w
/-- another's thing is changed by its owner -/
theorem Stt.chgF (s : Stt K (fadd F p) W M H) (o : HO) : Stt K (fadd F p) W M (upd H p o) ∧ Grow NoF W H W (upd H p o) := by
  have hp := s.fr p (.inl rfl)
  have g : Grow NoF W H W (upd H p o) := ⟨fun _ h => h, fun a w => upd_ne (fun e => hp.1 (e ▸ w)), fun _ z => z.elim⟩
  refine ⟨⟨fun a w => ?_, fun a w => ⟨(s.fr a w).1, (s.fr a w).2.1, ?_⟩, s.dis, fun a u e => ?_⟩, g⟩
  · rw [g.h a w]; exact s.wf a w
  · by_cases e : a = p
    · subst e; exact ⟨o, upd_same⟩
    · rw [upd_ne e]; exact (s.fr a w).2.2
  · have ne : a ≠ p := fun z => by subst z; rw [hp.2.1] at e; cases e
    obtain ⟨x, q, r⟩ := s.mem a u e
    exact ⟨x, by rw [upd_ne ne]; exact q, r.mono g⟩
/-- .. becomes settled, or a thing of the memory -/
theorem Stt.endW (s : Stt K (fadd F p) W M H) (hF : ¬ F p) : Stt K F (wadd W p) M H ∧ Grow F W H (wadd W p) H := by
  obtain ⟨h1, h2, o, h3⟩ := s.fr p (.inl rfl)
  have g : Grow F W H (wadd W p) H := ⟨fun _ h => .inr h, fun _ _ => rfl, fun _ _ => rfl⟩
  refine ⟨⟨fun a w => ?_, fun a w => ⟨?_, (s.fr a (.inr w)).2.1, (s.fr a (.inr w)).2.2⟩, fun a u e w => ?_, fun a u e => ?_⟩, g⟩
  · rcases w with w | w
    · subst w; exact ⟨o, h3⟩
    · exact s.wf a w
  · rintro (e | e)
    · subst e; exact hF w
    · exact (s.fr a (.inr w)).1 e
  · rcases w with w | w
    · subst w; rw [h2] at e; cases e
    · exact s.dis a u e w
  · obtain ⟨x, q, r⟩ := s.mem a u e
    exact ⟨x, q, r.mono g⟩
theorem Stt.endM (s : Stt K (fadd F p) W M H) (hF : ¬ F p) {u : MO} {o : HO} (ho : H p = some o) (r : MR K W H u o) : Stt K F W (mput M p u) H := by
  obtain ⟨h1, h2, _⟩ := s.fr p (.inl rfl)
  refine ⟨s.wf, fun a w => ⟨(s.fr a (.inr w)).1, ?_, (s.fr a (.inr w)).2.2⟩, fun a v e w => ?_, fun a v e => ?_⟩
  · rw [mput_ne (show a ≠ p from fun e => hF (e ▸ w))]; exact (s.fr a (.inr w)).2.1
  · by_cases q : a = p
    · subst q; exact h1 w
    · rw [mput_ne q] at e; exact s.dis a v e w
  · by_cases q : a = p
    · subst q; rw [mput_same] at e; cases e; exact ⟨o, ho, r⟩
    · rw [mput_ne q] at e; exact s.mem a v e
end
/-- a grown heap, but for one address that was free -/
theorem grow_drop {F W W' W2 : Addr → Prop} {H H1 H2 : Hp} {p : Addr} (g : Grow F W H W' H1) (g2 : Grow (fadd F p) W' H1 W2 H2) : Grow F W H W2 H2 := g.trans (g2.less fun a h => .inr h)
section
variable {X : Cx} {tg elt iter : Expr} {ifs : List Expr} {scope : Scope} {own : List (Str × Nat)} {pos spos py : Pos} {di : DTI} {c : CT} {tt : DTT} {te : DTE} {y : Str} {i : Nat}
theorem li_lc {K : PySem.W.Frag} {vs : List Nat} (hv : ∀ i ∈ c.slots, i ∈ vs) {σ : L2.St} {H : Hp} {Q : VK} (M2 : Bool) (h : Li (rE K) K (if M2 = true then gLcM di c tt te vs else gLc di c tt te vs) σ H Q) : tLc (LI K di) (c.tg K) (Li rT K tt) (Li (rE K) K te) vs σ H Q := by
  obtain ⟨δ, F, W, M, Qd, ev, s, h, k⟩ := h
  -- the wanted end, of the row
  have h' : di δ M fun ds M1 => Sz ds.length ∧ lcD c tt te (wipeD δ vs) ds (fun ys M2' => if M2 = true then ∀ p, M2' p = none → Qd (.ref p) (mput M2' p (.lst ys)) else Qd (.lst ys) M2') M1 := by
    cases M2 <;> exact h
  clear h
  refine ⟨δ, F, W, M, _, ev, s, h', fun J H1 W1 M1 ds g1 s1 ij ⟨hz, q⟩ D hD => ?_⟩
  have hFD : ¬ F D := s1.freeF hD
  let Kf : List Da → Mm → Prop := fun ys M2' => if M2 = true then ∀ p, M2' p = none → Qd (.ref p) (mput M2' p (.lst ys)) else Qd (.lst ys) M2'
  let Pv : Nat → Hp → Prop := fun i H2 => ∃ W2 Md ac acc, Grow F W1 H1 W2 H2 ∧ Stt K (fadd F D) W2 Md H2 ∧ H2 D = some (.lst ac) ∧ RDs K W2 H2 ac acc ∧ acc.length ≤ i ∧ lcD c tt te (wipeD δ vs) (ds.drop i) (fun ys M4 => Kf (acc ++ ys) M4) Md
  refine ⟨fun i m H2 => m = ds.length - i ∧ i ≤ ds.length ∧ Pv i H2, ⟨ds.length, by simp, Nat.zero_le _, W1, M1, [], [], grow_new s1 hD, s1.addF hD _, upd_same, .nil, Nat.le_refl _, q⟩, ?_⟩
  rintro i m H2 ⟨rfl, hi, W2, Md, ac, acc, g2, s2, hac, rac, hal, q2⟩
  obtain ⟨go, stop⟩ := ij (fadd F D) W2 H2 Md g2.noF s2
  by_cases hlt : i < ds.length
  · have hd : ds[i]? = some ds[i] := List.getElem?_eq_getElem hlt
    obtain ⟨go1, go2⟩ := go i _ hd
    refine .inr ⟨go1, Pv (i + 1), fun H' p' => ⟨ds.length - (i + 1), by omega, rfl, hlt, p'⟩, fun x H3 y => ?_⟩
    obtain ⟨W3, g3, s3, r3⟩ := go2 x H3 y
    rw [List.drop_eq_getElem_cons hlt] at q2
    obtain ⟨ok, q2⟩ := q2
    have e3 : EnvR K W3 H3 (wipeD δ vs) (wipe σ vs) := (ev.mono (grow_drop (g1.trans g2) g3)).wipe vs
    refine ct_ok hv ok r3 e3 fun σ2 hw ev2 => ⟨by rw [hw, wipe_wipe vs vs σ fun _ h => h], _, fadd F D, W3, Md, _, ev2, s3, q2, fun b H4 W4 b' M4 g4 s4 eb q4 => ?_⟩
    cases eb
    have gg := g3.trans g4
    cases b with
    | false =>
      refine ⟨W4, M4, ac, acc, grow_drop g2 gg, s4, ?_, rac.mono gg, Nat.le_succ_of_le hal, q4⟩
      rw [gg.f D (.inl rfl)]; exact hac
    | true =>
      refine ⟨_, fadd F D, W4, M4, _, ev2.mono g4, s4, q4, fun v H5 W5 d M5 g5 s5 r5 q5 => ⟨ac, ?_, ?_, ?_⟩⟩
      · rw [(gg.trans g5).f D (.inl rfl)]; exact hac
      · rw [rac.length]; have := hz.le; rw [sizeLine_eq]; omega
      · obtain ⟨s6, g6⟩ := s5.chgF (.lst (ac ++ [v]))
        have g7 : Grow F W2 H2 W5 H5 := (gg.trans g5).less fun a h => .inr h
        refine ⟨W5, M5, ac ++ [v], acc ++ [d], ?_, s6, upd_same, ((rac.mono (gg.trans g5)).append (.cons r5 .nil)).mono g6, by rw [List.length_append, List.length_singleton]; omega, ?_⟩
        · have g8 := g2.trans g7
          refine ⟨g8.w, fun a w => ?_, fun a w => ?_⟩
          · rw [upd_ne (s1.neW hD w)]; exact g8.h a w
          · rw [upd_ne (s1.neF hD w)]; exact g8.f a w
        · have e : (fun ys M4 => Kf (acc ++ [d] ++ ys) M4) = fun ys M4 => Kf (acc ++ d :: ys) M4 := by funext ys M4; rw [List.append_assoc]; rfl
          rw [e]; exact q5
  · have e : i = ds.length := by omega
    subst e
    rw [List.drop_length] at q2
    have q3 : Kf acc Md := by have : Kf (acc ++ []) Md := q2; rwa [List.append_nil] at this
    refine .inl ⟨stop _ (Nat.le_refl _), ?_⟩
    cases M2 with
    | true =>
      have q4 : ∀ p, Md p = none → Qd (.ref p) (mput Md p (.lst acc)) := q3
      exact (k.mono (g1.trans g2)).now (s2.endM hFD hac (.lst rac)) (.ref D) (q4 D (s2.fr D (.inl rfl)).2.1)
    | false =>
      obtain ⟨s3, g3⟩ := s2.endW hFD
      exact (k.mono ((g1.trans g2).trans g3)).now s3 (.lst (.inl ⟨.inl rfl, .inl hac⟩) (rac.mono g3)) q3
/-- the tests of a comprehension -/
def DTs (X : Cx) (ifs : List Expr) (f : DTT) : Prop := PTs X ifs (Li rT X.K f)
theorem d_ts0 : DTs X [] gYes := ⟨fun pins s σ H Q I ⟨δ, F, W, M, Qd, ev, st, h, k⟩ => pts_nil.run pins s σ H Q I (k.now st rfl h)⟩
theorem d_ts1 {e : Expr} (h : DT X e tt) : DTs X [e] tt := pts_one h
section
variable (hc : X.calm = true) (hN : X.N.Nodup) (hi : DI X tg iter di) (ok : BlkOk X.N X.env.scope scope own)
    (hg : ∀ (s : Shared) (H : Hp) (C : Addr) (cl : List (Str × Addr)) (fp : List Addr), PG (X.blk s H scope (compEnvC scope cl C X.env) fp) tg (c.tg X.K)) (ht : ∀ (s : Shared) (H : Hp) (C : Addr) (cl : List (Str × Addr)) (fp : List Addr), DTs (X.blk s H scope (compEnvC scope cl C X.env) fp) ifs tt)
    (he : ∀ (s : Shared) (H : Hp) (C : Addr) (cl : List (Str × Addr)) (fp : List Addr), DE (X.blk s H scope (compEnvC scope cl C X.env) fp) elt te)
include hc hN hi ok hg ht he in
theorem d_lc (hv : ∀ i ∈ c.slots, i ∈ own.map (·.2) := by decide) (hs : ∀ x, foldedSetIterable iter X.env x = pure x := by intro _; rfl) :
    DE X (.ListComp elt [⟨tg, iter, ifs, 0⟩] scope pos) (gLc di c tt te (own.map (·.2))) := imp (pe_lc (wi := LI X.K di) (g := c.tg X.K) (tt := Li rT X.K tt) (te := Li (rE X.K) X.K te) hc hN hi ok hg ht he hs) fun σ H Q h => li_lc hv false h
include hc hN hi ok hg ht he in
theorem d_lcM (hv : ∀ i ∈ c.slots, i ∈ own.map (·.2) := by decide) (hs : ∀ x, foldedSetIterable iter X.env x = pure x := by intro _; rfl) :
    DE X (.ListComp elt [⟨tg, iter, ifs, 0⟩] scope pos) (gLcM di c tt te (own.map (·.2))) := imp (pe_lc (wi := LI X.K di) (g := c.tg X.K) (tt := Li rT X.K tt) (te := Li (rE X.K) X.K te) hc hN hi ok hg ht he hs) fun σ H Q h => li_lc hv true h
end
theorem li_set {K : PySem.W.Frag} {t : TE} {f : DTE} {D : Ends} {σ : L2.St} {H : Hp} (hf : ∀ σ H Q, Li (rE K) K f σ H Q → t σ H Q) (h : LS K (hAsg f (hName i)) D σ H) : tAsg t (L2.gName i) D σ H := by
  obtain ⟨δ, F, W, M, Dd, ev, s, h, k⟩ := h
  exact hf _ _ _ ⟨δ, F, W, M, _, ev, s, h, fun v H1 W1 d M1 g1 s1 r1 q1 => (k.nx.mono g1).now s1 ((ev.mono g1).set r1 i) q1⟩
section
variable (hc : X.calm = true) (hN : X.N.Nodup) (hy : X.N[i]? = some y) (hyl : X.env.scope.names.lookup y = some .local) (hsw : swapsWith (.ListComp elt [⟨tg, iter, ifs, 0⟩] scope pos) (some (.Name y py)) spos.line X.env = pure true)
    (hi : DI X tg iter di) (ok : BlkOk X.N X.env.scope scope own)
    (hg : ∀ (s : Shared) (H : Hp) (C : Addr) (cl : List (Str × Addr)) (fp : List Addr), PG (X.blk s H scope (compEnvC scope cl C X.env) fp) tg (c.tg X.K)) (ht : ∀ (s : Shared) (H : Hp) (C : Addr) (cl : List (Str × Addr)) (fp : List Addr), DTs (X.blk s H scope (compEnvC scope cl C X.env) fp) ifs tt)
    (he : ∀ (s : Shared) (H : Hp) (C : Addr) (cl : List (Str × Addr)) (fp : List Addr), DE (X.blk s H scope (compEnvC scope cl C X.env) fp) elt te)
include hc hN hy hyl hsw hi ok hg ht he in
theorem z_setLc (hv : ∀ i ∈ c.slots, i ∈ own.map (·.2) := by decide) (hs : ∀ x, foldedSetIterable iter X.env x = pure x := by intro _; rfl) :
    DS X (.Assign [.Name y py] (.ListComp elt [⟨tg, iter, ifs, 0⟩] scope pos) spos) (hAsg (gLc di c tt te (own.map (·.2))) (hName i)) :=
  ps_imp (ps_setLc (wi := LI X.K di) (g := c.tg X.K) (tt := Li rT X.K tt) (te := Li (rE X.K) X.K te) hc hN hy hyl hsw hi ok hg ht he hs) fun D σ H h => li_set (fun σ H Q h => li_lc hv false h) h
include hc hN hy hyl hsw hi ok hg ht he in
theorem z_setLcM (hv : ∀ i ∈ c.slots, i ∈ own.map (·.2) := by decide) (hs : ∀ x, foldedSetIterable iter X.env x = pure x := by intro _; rfl) :
    DS X (.Assign [.Name y py] (.ListComp elt [⟨tg, iter, ifs, 0⟩] scope pos) spos) (hAsg (gLcM di c tt te (own.map (·.2))) (hName i)) :=
  ps_imp (ps_setLc (wi := LI X.K di) (g := c.tg X.K) (tt := Li rT X.K tt) (te := Li (rE X.K) X.K te) hc hN hy hyl hsw hi ok hg ht he hs) fun D σ H h => li_set (fun σ H Q h => li_lc hv true h) h
end
/-! ### two fors -/
def Sq (n : Nat) : Prop := Nat.ble n 5000 = true
def Sr (n : Nat) : Prop := Nat.ble n 3000 = true
theorem sq {n : Nat} (h : n ≤ 5000) : Sq n := Nat.ble_eq.mpr h
theorem Sq.le {n : Nat} (h : Sq n) : n ≤ 5000 := Nat.ble_eq.mp h
theorem sr {n : Nat} (h : n ≤ 3000) : Sr n := Nat.ble_eq.mpr h
theorem Sr.le {n : Nat} (h : Sr n) : n ≤ 3000 := Nat.ble_eq.mp h
def lc2D (c : CT) (tt : DTT) (di1 : DTI) (c1 : CT) (tt1 : DTT) (te : DTE) (vs1 : List Nat) (δ : De) : List Da → (List Da → Mm → Prop) → Mm → Prop
  | [], k, M => k [] M
  | d :: ds, k, M => c.ok d ∧ tt (c.set d δ) M fun b M2 => if b = true then di1 (c.set d δ) M2 fun es M3 => Sr es.length ∧ lcD c1 tt1 te (wipeD (c.set d δ) vs1) es (fun ys M4 => lc2D c tt di1 c1 tt1 te vs1 δ ds (fun zs M5 => k (ys ++ zs) M5) M4) M3
      else lc2D c tt di1 c1 tt1 te vs1 δ ds k M2
def gLc2 (di : DTI) (c : CT) (tt : DTT) (di1 : DTI) (c1 : CT) (tt1 : DTT) (te : DTE) (vs vs1 : List Nat) : DTE := fun δ M Q => di δ M fun ds M1 => Sq ds.length ∧ lc2D c tt di1 c1 tt1 te vs1 (wipeD δ vs) ds (fun ys M2 => Q (.lst ys) M2) M1
theorem li_lc2 {K : PySem.W.Frag} {vs vs1 : List Nat} {c1 : CT} {tt1 : DTT} {di1 : DTI} (hv : ∀ i ∈ c.slots, i ∈ vs) (hv1 : ∀ i ∈ c1.slots, i ∈ vs1) {σ : L2.St} {H : Hp} {Q : VK} (h : Li (rE K) K (gLc2 di c tt di1 c1 tt1 te vs vs1) σ H Q) :
    tLc2 (LI K di) (c.tg K) (Li rT K tt) (LI K di1) (c1.tg K) (Li rT K tt1) (Li (rE K) K te) vs vs1 σ H Q := by
  obtain ⟨δ, F, W, M, Qd, ev, s, h, k⟩ := h
  refine ⟨δ, F, W, M, _, ev, s, h, fun J H1 W1 M1 ds g1 s1 ij ⟨hz, q⟩ D hD => ?_⟩
  have hFD : ¬ F D := s1.freeF hD
  let Kf : List Da → Mm → Prop := fun ys M2' => Qd (.lst ys) M2'
  let L2D := fun (ds : List Da) (k : List Da → Mm → Prop) => lc2D c tt di1 c1 tt1 te vs1 (wipeD δ vs) ds k
  let Pv : Nat → Hp → Prop := fun i H2 => ∃ W2 Md ac acc, Grow F W1 H1 W2 H2 ∧ Stt K (fadd F D) W2 Md H2 ∧ H2 D = some (.lst ac) ∧ RDs K W2 H2 ac acc ∧ acc.length ≤ i * 3000 ∧ L2D (ds.drop i) (fun ys M4 => Kf (acc ++ ys) M4) Md
  refine ⟨fun i m H2 => m = ds.length - i ∧ i ≤ ds.length ∧ Pv i H2, ⟨ds.length, by simp, Nat.zero_le _, W1, M1, [], [], grow_new s1 hD, s1.addF hD _, upd_same, .nil, Nat.zero_le _, q⟩, ?_⟩
  rintro i m H2 ⟨rfl, hi, W2, Md, ac, acc, g2, s2, hac, rac, hal, q2⟩
  obtain ⟨go, stop⟩ := ij (fadd F D) W2 H2 Md g2.noF s2
  by_cases hlt : i < ds.length
  · have hd : ds[i]? = some ds[i] := List.getElem?_eq_getElem hlt
    obtain ⟨go1, go2⟩ := go i _ hd
    refine .inr ⟨go1, Pv (i + 1), fun H' p' => ⟨ds.length - (i + 1), by omega, rfl, hlt, p'⟩, fun x H3 y => ?_⟩
    obtain ⟨W3, g3, s3, r3⟩ := go2 x H3 y
    rw [List.drop_eq_getElem_cons hlt] at q2
    obtain ⟨ok, q2⟩ := q2
    have e3 : EnvR K W3 H3 (wipeD δ vs) (wipe σ vs) := (ev.mono (grow_drop (g1.trans g2) g3)).wipe vs
    refine ct_ok hv ok r3 e3 fun σ2 hw ev2 => ⟨by rw [hw, wipe_wipe vs vs σ fun _ h => h], _, fadd F D, W3, Md, _, ev2, s3, q2, fun b H4 W4 b' M4 g4 s4 eb q4 => ?_⟩
    cases eb
    have gg := g3.trans g4
    cases b with
    | false =>
      refine ⟨W4, M4, ac, acc, grow_drop g2 gg, s4, ?_, rac.mono gg, by omega, q4⟩
      rw [gg.f D (.inl rfl)]; exact hac
    | true =>
      refine ⟨_, fadd F D, W4, M4, _, ev2.mono g4, s4, q4, fun J1 H5 W5 M5 es g5 s5 ij1 q5 => ?_⟩
      obtain ⟨hz1, q5⟩ := q5
      have g25 := gg.trans g5
      let Pw : Nat → Hp → Prop := fun j H6 => ∃ W6 Md ac acc, Grow F W1 H1 W6 H6 ∧ Grow NoF W5 H5 W6 H6 ∧ Stt K (fadd F D) W6 Md H6 ∧ H6 D = some (.lst ac) ∧ RDs K W6 H6 ac acc ∧ acc.length ≤ i * 3000 + j ∧
        lcD c1 tt1 te (wipeD (c.set ds[i] (wipeD δ vs)) vs1) (es.drop j) (fun ys M4 => L2D (ds.drop (i + 1)) (fun zs M5 => Kf (acc ++ (ys ++ zs)) M5) M4) Md
      refine ⟨fun j n H6 => n = es.length - j ∧ j ≤ es.length ∧ Pw j H6, ⟨es.length, by simp, Nat.zero_le _, W5, M5, ac, acc, grow_drop g2 g25, .refl, s5, by rw [g25.f D (.inl rfl)]; exact hac, rac.mono g25, by omega, q5⟩, ?_⟩
      rintro j n H6 ⟨rfl, hj, W6, Md6, ac6, acc6, g6, gn6, s6, hac6, rac6, hal6, q6⟩
      obtain ⟨go', stop'⟩ := ij1 (fadd F D) W6 H6 Md6 gn6 s6
      by_cases hlt1 : j < es.length
      · have hd1 : es[j]? = some es[j] := List.getElem?_eq_getElem hlt1
        obtain ⟨go3, go4⟩ := go' j _ hd1
        refine .inr ⟨go3, Pw (j + 1), fun H' p' => ⟨es.length - (j + 1), by omega, rfl, hlt1, p'⟩, fun x H7 y => ?_⟩
        obtain ⟨W7, g7, s7, r7⟩ := go4 x H7 y
        rw [List.drop_eq_getElem_cons hlt1] at q6
        obtain ⟨ok1, q6⟩ := q6
        have e7 : EnvR K W7 H7 (wipeD (c.set ds[i] (wipeD δ vs)) vs1) (wipe σ2 vs1) := (((ev2.mono (g4.trans g5)).mono gn6).mono g7).wipe vs1
        refine ct_ok hv1 ok1 r7 e7 fun σ3 hw3 ev3 => ⟨by rw [hw3, wipe_wipe vs1 vs1 σ2 fun _ h => h], _, fadd F D, W7, Md6, _, ev3, s7, q6, fun b H8 W8 b' M8 g8 s8 eb q8 => ?_⟩
        cases eb
        have g78 := g7.trans g8
        cases b with
        | false =>
          refine ⟨W8, M8, ac6, acc6, grow_drop g6 g78, gn6.trans g78.noF, s8, ?_, rac6.mono g78, by omega, q8⟩
          rw [g78.f D (.inl rfl)]; exact hac6
        | true =>
          refine ⟨_, fadd F D, W8, M8, _, ev3.mono g8, s8, q8, fun v H9 W9 d M9 g9 s9 r9 q9 => ⟨ac6, ?_, ?_, ?_⟩⟩
          · rw [(g78.trans g9).f D (.inl rfl)]; exact hac6
          · rw [rac6.length]; have := hz.le; have := hz1.le; rw [sizeLine_eq]; omega
          · obtain ⟨s10, g10⟩ := s9.chgF (.lst (ac6 ++ [v]))
            have g11 : Grow F W6 H6 W9 H9 := (g78.trans g9).less fun a h => .inr h
            refine ⟨W9, M9, ac6 ++ [v], acc6 ++ [d], ?_, (gn6.trans (g78.trans g9).noF).trans g10, s10, upd_same, ((rac6.mono (g78.trans g9)).append (.cons r9 .nil)).mono g10, by rw [List.length_append, List.length_singleton]; omega, ?_⟩
            · have g12 := g6.trans g11
              refine ⟨g12.w, fun a w => ?_, fun a w => ?_⟩
              · rw [upd_ne (s1.neW hD w)]; exact g12.h a w
              · rw [upd_ne (s1.neF hD w)]; exact g12.f a w
            · have e : (fun ys M4 => L2D (ds.drop (i + 1)) (fun zs M5 => Kf (acc6 ++ [d] ++ (ys ++ zs)) M5) M4) = fun ys M4 => L2D (ds.drop (i + 1)) (fun zs M5 => Kf (acc6 ++ (d :: ys ++ zs)) M5) M4 := by
                funext ys M4
                congr 1
                funext zs M5
                rw [List.append_assoc]; rfl
              rw [e]; exact q9
      · have e : j = es.length := by omega
        subst e
        rw [List.drop_length] at q6
        refine .inl ⟨stop' _ (Nat.le_refl _), W6, Md6, ac6, acc6, g6, s6, hac6, rac6, ?_, q6⟩
        have := hz1.le
        omega
  · have e : i = ds.length := by omega
    subst e
    rw [List.drop_length] at q2
    have q3 : Kf acc Md := by have : Kf (acc ++ []) Md := q2; rwa [List.append_nil] at this
    obtain ⟨s3, g3⟩ := s2.endW hFD
    exact .inl ⟨stop _ (Nat.le_refl _), (k.mono ((g1.trans g2).trans g3)).now s3 (.lst (.inl ⟨.inl rfl, .inl hac⟩) (rac.mono g3)) q3⟩
section
variable {tg1 iter1 : Expr} {ifs1 : List Expr} {vs1 : List Nat} {di1 : DTI} {c1 : CT} {tt1 : DTT} (hc : X.calm = true) (hN : X.N.Nodup) (hi : DI X tg iter di) (ok : BlkOk X.N X.env.scope scope own) (hvs : ∀ i ∈ vs1, i ∈ own.map (·.2))
    (hg : ∀ (s : Shared) (H : Hp) (C : Addr) (cl : List (Str × Addr)) (fp : List Addr), PG (X.blk s H scope (compEnvC scope cl C X.env) fp) tg (c.tg X.K)) (ht : ∀ (s : Shared) (H : Hp) (C : Addr) (cl : List (Str × Addr)) (fp : List Addr), DTs (X.blk s H scope (compEnvC scope cl C X.env) fp) ifs tt)
    (hi1 : ∀ (s : Shared) (H : Hp) (C : Addr) (cl : List (Str × Addr)) (fp : List Addr), DI (X.blk s H scope (compEnvC scope cl C X.env) fp) tg1 iter1 di1)
    (hg1 : ∀ (s : Shared) (H : Hp) (C : Addr) (cl : List (Str × Addr)) (fp : List Addr), PG (X.blk s H scope (compEnvC scope cl C X.env) fp) tg1 (c1.tg X.K)) (ht1 : ∀ (s : Shared) (H : Hp) (C : Addr) (cl : List (Str × Addr)) (fp : List Addr), DTs (X.blk s H scope (compEnvC scope cl C X.env) fp) ifs1 tt1)
    (he : ∀ (s : Shared) (H : Hp) (C : Addr) (cl : List (Str × Addr)) (fp : List Addr), DE (X.blk s H scope (compEnvC scope cl C X.env) fp) elt te)
include hc hN hi ok hvs hg ht hi1 hg1 ht1 he in
theorem d_lc2 (hv : ∀ i ∈ c.slots, i ∈ own.map (·.2) := by decide) (hv1 : ∀ i ∈ c1.slots, i ∈ vs1 := by decide) (hs : ∀ x, foldedSetIterable iter X.env x = pure x := by intro _; rfl) (hs1 : ∀ env x, foldedSetIterable iter1 env x = pure x := by intro _ _; rfl) :
    DE X (.ListComp elt [⟨tg, iter, ifs, 0⟩, ⟨tg1, iter1, ifs1, 0⟩] scope pos) (gLc2 di c tt di1 c1 tt1 te (own.map (·.2)) vs1) := imp (pe_lc2 (wi := LI X.K di) (g := c.tg X.K) (tt := Li rT X.K tt) (wi1 := LI X.K di1) (g1 := c1.tg X.K) (tt1 := Li rT X.K tt1) (te := Li (rE X.K) X.K te) hc hN hi ok hvs hg ht hi1 hg1 ht1 he hs hs1) fun σ H Q h => li_lc2 hv hv1 h
include hc hN hi ok hvs hg ht hi1 hg1 ht1 he in
theorem z_setLc2 (hy : X.N[i]? = some y) (hyl : X.env.scope.names.lookup y = some .local) (hsw : swapsWith (.ListComp elt [⟨tg, iter, ifs, 0⟩, ⟨tg1, iter1, ifs1, 0⟩] scope pos) (some (.Name y py)) spos.line X.env = pure true)
    (hv : ∀ i ∈ c.slots, i ∈ own.map (·.2) := by decide) (hv1 : ∀ i ∈ c1.slots, i ∈ vs1 := by decide) (hs : ∀ x, foldedSetIterable iter X.env x = pure x := by intro _; rfl) (hs1 : ∀ env x, foldedSetIterable iter1 env x = pure x := by intro _ _; rfl) :
    DS X (.Assign [.Name y py] (.ListComp elt [⟨tg, iter, ifs, 0⟩, ⟨tg1, iter1, ifs1, 0⟩] scope pos) spos) (hAsg (gLc2 di c tt di1 c1 tt1 te (own.map (·.2)) vs1) (hName i)) :=
  ps_imp (ps_setLc2 (wi := LI X.K di) (g := c.tg X.K) (tt := Li rT X.K tt) (wi1 := LI X.K di1) (g1 := c1.tg X.K) (tt1 := Li rT X.K tt1) (te := Li (rE X.K) X.K te) hc hN hy hyl hsw hi ok hvs hg ht hi1 hg1 ht1 he hs hs1) fun D σ H h => li_set (fun σ H Q h => li_lc2 hv hv1 h) h
end
end
end U
set_option Elab.async false
set_option linter.all false
set_option maxRecDepth 100000
set_option maxHeartbeats 2000000
/-! Readings over plain data: defs, calls, classes. -/
namespace U
open PySem PySem.Spec PyProof.Rows L2
/-- a def's promise over data -/
abbrev DSp := List Da → Mm → DK → DX → Prop
def X0 : DX := fun _ _ _ => False
/-- an exception's attributes -/
def XR (K : PySem.W.Frag) (W : Addr → Prop) (H : Hp) : Option Addr → List (Str × Da) → Prop
  | none, fs => fs = []
  | some a, fs => ∃ vs, H a = some (.xd vs) ∧ RF K W H vs fs
def KX (K : PySem.W.Frag) (F W : Addr → Prop) (H : Hp) (Ed : DX) (E : XK) : Prop :=
  ∀ cls d H' W' fs M', Grow F W H W' H' → Stt K F W' M' H' → XR K W' H' d fs → Ed cls fs M' → E cls d H'
def LSp (K : PySem.W.Frag) (sp : DSp) : Sp := fun vs H Q E => ∃ F W M ds Qd Ed, RDs K W H vs ds ∧ Stt K F W M H ∧ sp ds M Qd Ed ∧ Kt (rE K) K F W H Qd Q ∧ KX K F W H Ed E
def startD (N : List Str) (ds : List Da) : De := ds.map some ++ List.replicate (N.length - ds.length) none
theorem env_start {K : PySem.W.Frag} {W : Addr → Prop} {H : Hp} (N : List Str) {vs : List V} {ds : List Da} (r : RDs K W H vs ds) : EnvR K W H (startD N ds) (start N vs) := by
  have h1 : ∀ (n : Nat), EnvR K W H (List.replicate n none) (List.replicate n none) := fun n => by
    induction n with
    | zero => exact .nil
    | succ n ih => exact .cons trivial ih
  have h2 : ∀ {vs : List V} {ds : List Da} (n : Nat), RDs K W H vs ds → EnvR K W H (ds.map some ++ List.replicate n none) (vs.map some ++ List.replicate n none) := by
    intro vs
    induction vs with
    | nil => intro ds n r; cases r; exact h1 n
    | cons v vs ih =>
      intro ds n r
      cases r with
      | cons h k => exact .cons ⟨v, rfl, h⟩ (ih n k)
  unfold startD L2.start
  rw [r.length]
  exact h2 _ r
/-- the body's ends -/
def bodyE (Q : DK) : DEnds := { nx := fun _ M => Q .non M, rt := Q }
theorem ls_body {K : PySem.W.Frag} {F W : Addr → Prop} {M : Mm} {H : Hp} {N : List Str} {vs : List V} {ds : List Da} {Qd : DK} {Q : VK} {t : DTS} (r : RDs K W H vs ds) (s : Stt K F W M H) (k : Kt (rE K) K F W H Qd Q) (h : t (bodyE Qd) (startD N ds) M) :
    LS K t { nx := fun _ H' => Q .non H', rt := Q } (start N vs) H :=
  ⟨_, F, W, M, _, env_start N r, s, h, fun σ H' W' δ M' g s' e q => k _ _ _ _ _ g s' .non q, k, fun _ _ _ _ _ _ _ _ z => z.elim, fun _ _ _ _ _ _ _ _ z => z.elim⟩
abbrev KnD (P : Program) (w : World) (K : PySem.W.Frag) (mg : Str → Option Value) (base : Heap) (x : Str) (k : Nat) (ps : List Str) (sp : DSp) : Prop := Known P w K mg base CX0 x k ps (LSp K sp)
abbrev KnMD (P : Program) (w : World) (K : PySem.W.Frag) (mg : Str → Option Value) (base : Heap) (C : Addr) (m : Str) (k : Nat) (ps : List Str) (sp : DSp) : Prop := KnownM P w K mg base CX0 C m k ps (LSp K sp)
theorem lsp_len {K : PySem.W.Frag} {sp : DSp} {n : Nat} (len : ∀ ds M Q E, sp ds M Q E → ds.length = n) : ∀ vs H Q E, LSp K sp vs H Q E → vs.length = n := fun vs H Q E ⟨F, W, M, ds, Qd, Ed, r, s, h, _⟩ => by rw [r.length]; exact len _ _ _ _ h
theorem KnD.of {P : Program} {w : World} {K : PySem.W.Frag} {mg : Str → Option Value} {base : Heap} {x : Str} {st : Stmt} {N ps : List Str} {k : Nat} {sp : DSp} (F : HasDef K x st) (M : MgOf K mg) (S : FnScope N ps (defScope st))
    (hb : ∀ (kV doc pm : Value) (an : Option Addr) (cdv ct : Value) (us : List Value), us.length = ps.length → bindArgs (PySem.W.fnOf x x (defArgs st) (defBody st) (defScope st) .none kV doc pm an cdv ct) ⟨us, []⟩ = pure (ps.zip us))
    (len : ∀ ds M Q E, sp ds M Q E → ds.length = ps.length)
    (hbody : ∀ (f : Addr) (cdv : Value) (A : Around) (outer : List Env) (s : Shared) (H : Hp) (E : XK), Room k (A.deeper (envOfC x (defScope st) s.heap.objs.size f cdv)) →
      ∃ t, DB (cxOf CX0 P w K mg base N x (defScope st) f cdv A outer s H E).nox (defBody st) t ∧ ∀ ds M Q Ed, sp ds M Q Ed → t (bodyE Q) (startD N ds) M) : KnD P w K mg base x (k + 1) ps sp :=
  Known.of F M S hb (lsp_len len) fun f cdv A outer s H vs Q E hr ⟨F, W, M, ds, Qd, Ed, r, st, h, kk, kx⟩ => by
    obtain ⟨t, d, q⟩ := hbody f cdv A outer s H E hr
    exact ⟨_, d, ls_body r st kk (q ds M Qd Ed h)⟩
theorem KnMD.of {P : Program} {w : World} {K : PySem.W.Frag} {mg : Str → Option Value} {base : Heap} {C : Addr} {m qual : Str} {st : Stmt} {N ps : List Str} {k : Nat} {sp : DSp} (F : HasMeth K C m qual st) (S : FnScope N ps (defScope st))
    (hb : ∀ (kV doc pm : Value) (an : Option Addr) (cdv ct : Value) (us : List Value), us.length = ps.length → bindArgs (PySem.W.fnOf m qual (defArgs st) (defBody st) (defScope st) .none kV doc pm an cdv ct) ⟨us, []⟩ = pure (ps.zip us))
    (len : ∀ ds M Q E, sp ds M Q E → ds.length = ps.length)
    (hbody : ∀ (f : Addr) (cdv : Value) (A : Around) (outer : List Env) (s : Shared) (H : Hp) (E : XK), Room k (A.deeper (envOfC qual (defScope st) s.heap.objs.size f cdv)) →
      ∃ t, DB (cxOf CX0 P w K mg base N qual (defScope st) f cdv A outer s H E).nox (defBody st) t ∧ ∀ ds M Q Ed, sp ds M Q Ed → t (bodyE Q) (startD N ds) M) : KnMD P w K mg base C m (k + 1) ps sp :=
  KnownM.of F S hb (lsp_len len) fun f cdv A outer s H vs Q E hr ⟨F, W, M, ds, Qd, Ed, r, st, h, kk, kx⟩ => by
    obtain ⟨t, d, q⟩ := hbody f cdv A outer s H E hr
    exact ⟨_, d, ls_body r st kk (q ds M Qd Ed h)⟩
theorem fnok_of {P : Program} {w : World} {K : PySem.W.Frag} {mg : Str → Option Value} {base : Heap} {x : Str} {st : Stmt} {N ps : List Str} {k : Nat} {sp : DSp} {f : Addr} {fd : FuncData} (F : Fun K x x st f fd) (S : FnScope N ps (defScope st))
    (len : ∀ ds M Q E, sp ds M Q E → ds.length = ps.length)
    (hbody : ∀ (f : Addr) (cdv : Value) (A : Around) (outer : List Env) (s : Shared) (H : Hp) (E : XK), Room k (A.deeper (envOfC x (defScope st) s.heap.objs.size f cdv)) →
      ∃ t, DB (cxOf CX0 P w K mg base N x (defScope st) f cdv A outer s H E).nox (defBody st) t ∧ ∀ ds M Q Ed, sp ds M Q Ed → t (bodyE Q) (startD N ds) M) : FnOk P w K mg base CX0 (k + 1) f fd ps (LSp K sp) :=
  ok_of F S (lsp_len len) fun f cdv A outer s H vs Q E hr ⟨F, W, M, ds, Qd, Ed, r, st, h, kk, kx⟩ => by
    obtain ⟨t, d, q⟩ := hbody f cdv A outer s H E hr
    exact ⟨_, d, ls_body r st kk (q ds M Qd Ed h)⟩
section
variable {X : Cx} {k : Nat} {ps : List Str} {sp : DSp} {x m f : Str} {p pos apos : Pos} {a b e e1 e2 o : Expr} {es : List Expr} {fs : DTA} {C : Addr} {fa f1 f2 : DTE}
/-! ### calls -/
def gCall (sp : DSp) (fs : DTA) : DTE := fun δ M Q => fs δ M fun ds M1 => sp ds M1 Q X0
theorem d_call (D : KnD X.prog X.w X.K X.mg X.base x k ps sp) (hr : Room k X.A) (ha : DA X (e :: es) fs) (hg : Gl X x := by rfl) (hdb : (x == ("__debug__" : Str)) = false := by decide)
    (he : starEach (e :: es) X.env = (false, eval e X.env) :: starEach es X.env := by rfl) (hpl : (backTo pos (starEach es X.env)).any (·.1) = false := by rfl) : DE X (.Call (.Name x p) (e :: es) [] pos) (gCall sp fs) :=
  imp (U.call D hr ha hg hdb he hpl) fun σ H Q ⟨δ, F, W, M, Qd, ev, s, h, kk⟩ => ⟨δ, F, W, M, _, ev, s, h, fun vs H1 W1 ds M1 g1 s1 r1 q1 => ⟨F, W1, M1, ds, Qd, X0, r1, s1, q1, kk.mono g1, fun _ _ _ _ _ _ _ _ _ z => z.elim⟩⟩
/-! ### attributes -/
/-- what an instance holds -/
def objK (C : Addr) (x : Da) (M : Mm) (k : List (Str × Da) → Prop) : Prop := match x with
  | .obj C' fs => C' = C ∧ k fs
  | .ref p => ∃ fs, M p = some (.ins C fs) ∧ k fs
  | _ => False
theorem obj_of {K : PySem.W.Frag} {F W : Addr → Prop} {M : Mm} {H : Hp} {v : V} {d : Da} (s : Stt K F W M H) (r : RD K W H v d) {k : List (Str × Da) → Prop} (h : objK C d M k) : ∃ a dx vs fs, v = .ref a ∧ H a = some (.ins C dx vs) ∧ RF K W H vs fs ∧ k fs := by
  cases r with
  | obj w hs rv =>
    obtain ⟨rfl, h⟩ := h
    exact ⟨_, _, _, _, rfl, hs, rv, h⟩
  | ref p =>
    obtain ⟨fs, hm, h⟩ := h
    obtain ⟨u, hu, mr⟩ := s.mem _ _ hm
    cases mr with
    | ins rv => exact ⟨_, _, _, _, rfl, hu, rv, h⟩
  | _ => exact h.elim
def gFld (C : Addr) (f : Str) (fa : DTE) : DTE := fun δ M Q => fa δ M fun x M1 => objK C x M1 fun fs => ∃ v, fs.lookup f = some v ∧ Q v M1
theorem d_fld (c : Cls X.K C) (n : NoAttr X.K C f) (he : DE X e fa) (hb : attributeBase e f X.env (eval e X.env) = eval e X.env := by rfl) : DE X (.Attribute e f pos) (gFld C f fa) :=
  imp (fld c n he hb) fun σ H Q ⟨δ, F, W, M, Qd, ev, s, h, kk⟩ => ⟨δ, F, W, M, _, ev, s, h, fun v H1 W1 d M1 g1 s1 r1 q1 => by
    obtain ⟨a, dx, vs, fs, rfl, ha, rv, z, hz, q⟩ := obj_of s1 r1 q1
    obtain ⟨u, hu, ru⟩ := rv.get hz
    exact ⟨dx, vs, u, ha, hu, (kk.mono g1).now s1 ru q⟩⟩
/-- o.f = e -/
def hSto (C : Addr) (f : Str) (fa fv : DTE) : DTS := fun D δ M => fv δ M fun y M1 => fa δ M1 fun x M2 => match x with
  | .ref p => ∃ fs, M2 p = some (.ins C fs) ∧ Nat.blt fs.length 1000 = true ∧ D.nx δ (mput M2 p (.ins C (putD f y fs)))
  | _ => False
theorem z_sto {value : Expr} {pos' : Pos} {fv : DTE} (c : Cls X.K C) (n : NoAttr X.K C f) (hv : DE X value fv) (ha : DE X o fa) (hs : swapsWith value (some (.Attribute o f pos')) pos.line X.env = pure false := by rfl) : DS X (.Assign [.Attribute o f pos'] value pos) (hSto C f fa fv) :=
  ps_imp (sto c n hv ha hs) fun D σ H ⟨δ, F, W, M, Dd, ev, s, h, kk⟩ => ⟨δ, F, W, M, _, ev, s, h, fun y H1 W1 d M1 g1 s1 r1 q1 => ⟨δ, F, W1, M1, _, ev.mono g1, s1, q1, fun x H2 W2 d2 M2 g2 s2 r2 q2 => by
    cases r2 <;> first | exact q2.elim | skip
    rename_i p
    obtain ⟨fs, hm, hl, q⟩ := q2
    obtain ⟨u, hu, mr⟩ := s2.mem _ _ hm
    cases mr with
    | @ins _ dx _ vs rv =>
      have g3 := grow_put (o := .ins C dx (putF f y vs)) s2 hm
      exact ⟨_, _, hu, by rw [rv.length]; exact Nat.blt_eq.mp hl, (kk.nx.mono ((g1.trans g2).trans g3)).now (s2.put hm (.ins (rv.put (r1.mono g2)))) (ev.mono ((g1.trans g2).trans g3)) q⟩⟩⟩
/-! ### methods -/
def gMeth (C : Addr) (m : Str) (sp : DSp) (fa : DTE) (fs : DTA) : DTE := fun δ M Q => fa δ M fun x M1 => objK C x M1 (fun gs => gs.lookup m = none) ∧ fs δ M1 fun ds M2 => sp (x :: ds) M2 Q X0
theorem li_meth {K : PySem.W.Frag} {σ : L2.St} {H : Hp} {Q : VK} (h : Li (rE K) K (gMeth C m sp fa fs) σ H Q) : fMeth C m (LSp K sp) E0 (Li (rE K) K fa) (Li (rA K) K fs) σ H Q := by
  obtain ⟨δ, F, W, M, Qd, ev, s, h, kk⟩ := h
  refine ⟨δ, F, W, M, _, ev, s, h, fun v H1 W1 d M1 g1 s1 r1 q1 => ?_⟩
  obtain ⟨a, dx, vs, gs, rfl, ha, rv, hn⟩ := obj_of s1 r1 q1.1
  exact ⟨dx, vs, ha, rv.none hn, δ, F, W1, M1, _, ev.mono g1, s1, q1.2, fun us H2 W2 ds M2 g2 s2 r2 q2 => ⟨F, W2, M2, _, Qd, X0, .cons (r1.mono g2) r2, s2, q2, kk.mono (g1.trans g2), fun _ _ _ _ _ _ _ _ _ z => z.elim⟩⟩
theorem d_meth {pl : Sem Bool} (D : KnMD X.prog X.w X.K X.mg X.base C m k ps sp) (c : Cls X.K C) (hr : Room k X.A) (he : DE X o fa) (ha : DA X (e :: es) fs)
    (hst : starEach (e :: es) X.env = (false, eval e X.env) :: starEach es X.env := by rfl) (hpl : (backTo pos (starEach es X.env)).any (·.1) = false := by rfl)
    (ht : eval (.Call (.Attribute o m apos) (e :: es) [] pos) X.env = (do
      let ov ← eval o X.env
      standAt apos.atName
      let (f, first) ← holding [ov] (getMethod ov m pl)
      callWith pos f first (backTo pos (starEach (e :: es) X.env)) (backToKw pos (keywordEach [] X.env))) := by rfl) :
    DE X (.Call (.Attribute o m apos) (e :: es) [] pos) (gMeth C m sp fa fs) := imp (U.meth D c hr he ha hst hpl ht) fun _ _ _ h => li_meth h
theorem d_meth0 {pl : Sem Bool} (D : KnMD X.prog X.w X.K X.mg X.base C m k ps sp) (c : Cls X.K C) (hr : Room k X.A) (he : DE X o fa)
    (ht : eval (.Call (.Attribute o m apos) [] [] pos) X.env = (do
      let ov ← eval o X.env
      standAt apos.atName
      let (f, first) ← holding [ov] (getMethod ov m pl)
      callWith pos f first (backTo pos (starEach [] X.env)) (backToKw pos (keywordEach [] X.env))) := by rfl) :
    DE X (.Call (.Attribute o m apos) [] [] pos) (gMeth C m sp fa gNil) := imp (U.meth0 D c hr he ht) fun σ H Q h => by
  obtain ⟨δ, F, W, M, Qd, ev, s, h, kk⟩ := h
  refine ⟨δ, F, W, M, _, ev, s, h, fun v H1 W1 d M1 g1 s1 r1 q1 => ?_⟩
  obtain ⟨a, dx, vs, gs, rfl, ha, rv, hn⟩ := obj_of s1 r1 q1.1
  exact ⟨dx, vs, ha, rv.none hn, F, W1, M1, _, Qd, X0, .cons r1 .nil, s1, q1.2, kk.mono g1, fun _ _ _ _ _ _ _ _ _ z => z.elim⟩
/-- o.m(e, *y), o.m(*y) -/
def gMethSB (C : Addr) (m : Str) (sp : DSp) (fa f1 f2 : DTE) : DTE := fun δ M Q => fa δ M fun x M1 => objK C x M1 (fun gs => gs.lookup m = none) ∧ f1 δ M1 fun y M2 => f2 δ M2 fun z M3 => itemsK z M3 fun ds => sp (x :: y :: ds) M3 Q X0
def gMethS (C : Addr) (m : Str) (sp : DSp) (fa f2 : DTE) : DTE := fun δ M Q => fa δ M fun x M1 => objK C x M1 (fun gs => gs.lookup m = none) ∧ f2 δ M1 fun z M3 => itemsK z M3 fun ds => sp (x :: ds) M3 Q X0
theorem Stt.lessF {K : PySem.W.Frag} {F F' W : Addr → Prop} {M : Mm} {H : Hp} (s : Stt K F' W M H) (h : ∀ a, F a → F' a) : Stt K F W M H := ⟨s.wf, fun a w => s.fr a (h a w), s.dis, s.mem⟩
theorem d_methSB (D : KnMD X.prog X.w X.K X.mg X.base C m k ps sp) (c : Cls X.K C) (hr : Room k X.A) (he : DE X o fa) (h1 : DE X e1 f1) (h2 : DE X e2 f2) (hbase : attributeBase o m X.env (eval o X.env) = eval o X.env := by rfl)
    (hst : starEach [e1, .Starred e2 p] X.env = [(false, eval e1 X.env), (true, eval e2 X.env)] := by rfl) : DE X (.Call (.Attribute o m apos) [e1, .Starred e2 p] [] pos) (gMethSB C m sp fa f1 f2) :=
  imp (methSB D c hr he h1 h2 hbase hst) fun σ H Q ⟨δ, F, W, M, Qd, ev, s, h, kk⟩ => by
    refine ⟨δ, F, W, M, _, ev, s, h, fun v H1 W1 d M1 g1 s1 r1 q1 => ?_⟩
    obtain ⟨a, dx, vs, gs, rfl, ha, rv, hn⟩ := obj_of s1 r1 q1.1
    refine ⟨dx, vs, ha, rv.none hn, fun q g hq => ?_⟩
    have s1' := s1.addF hq (.met g a)
    have g1' : Grow F W1 H1 W1 (upd H1 q (.met g a)) := grow_new s1 hq
    refine ⟨δ, fadd F q, W1, M1, _, (ev.mono g1).mono g1', s1', q1.2, fun y H2 W2 dy M2 g2 s2 r2 q2 => ⟨δ, fadd F q, W2, M2, _, ((ev.mono g1).mono g1').mono g2, s2, q2, fun z H3 W3 dz M3 g3 s3 r3 q3 => ?_⟩⟩
    obtain ⟨b, ws, ds, rfl, hs, rws, q3⟩ := items_of s3 r3 q3
    have gf : Grow F W H W3 H3 := (g1.trans g1').trans ((g2.trans g3).less fun _ h => .inr h)
    exact ⟨ws, hs.symm, by rw [(g2.trans g3).f q (.inl rfl)]; exact upd_same, F, W3, M3, _, Qd, X0, .cons ((r1.mono g1').mono (g2.trans g3)) (.cons (r2.mono g3) rws), s3.lessF fun _ h => .inr h, q3, kk.mono gf, fun _ _ _ _ _ _ _ _ _ z => z.elim⟩
theorem d_methS (D : KnMD X.prog X.w X.K X.mg X.base C m k ps sp) (c : Cls X.K C) (hr : Room k X.A) (he : DE X o fa) (h2 : DE X e2 f2) (hbase : attributeBase o m X.env (eval o X.env) = eval o X.env := by rfl)
    (hst : starEach [.Starred e2 p] X.env = [(true, eval e2 X.env)] := by rfl) : DE X (.Call (.Attribute o m apos) [.Starred e2 p] [] pos) (gMethS C m sp fa f2) :=
  imp (methS D c hr he h2 hbase hst) fun σ H Q ⟨δ, F, W, M, Qd, ev, s, h, kk⟩ => by
    refine ⟨δ, F, W, M, _, ev, s, h, fun v H1 W1 d M1 g1 s1 r1 q1 => ?_⟩
    obtain ⟨a, dx, vs, gs, rfl, ha, rv, hn⟩ := obj_of s1 r1 q1.1
    refine ⟨dx, vs, ha, rv.none hn, fun q g hq => ?_⟩
    have s1' := s1.addF hq (.met g a)
    have g1' : Grow F W1 H1 W1 (upd H1 q (.met g a)) := grow_new s1 hq
    refine ⟨δ, fadd F q, W1, M1, _, (ev.mono g1).mono g1', s1', q1.2, fun z H3 W3 dz M3 g3 s3 r3 q3 => ?_⟩
    obtain ⟨b, ws, ds, rfl, hs, rws, q3⟩ := items_of s3 r3 q3
    have gf : Grow F W H W3 H3 := (g1.trans g1').trans (g3.less fun _ h => .inr h)
    exact ⟨ws, hs.symm, by rw [g3.f q (.inl rfl)]; exact upd_same, F, W3, M3, _, Qd, X0, .cons ((r1.mono g1').mono g3) rws, s3.lessF fun _ h => .inr h, q3, kk.mono gf, fun _ _ _ _ _ _ _ _ _ z => z.elim⟩
end
/-! ### properties -/
structure HasProp (K : PySem.W.Frag) (C : Addr) (m qual : Str) (st : Stmt) : Prop where
  ex : ∃ p g fd, Fun K m qual st g fd ∧ PropOf K C m p g
theorem prop_mk {K : PySem.W.Frag} {C p g : Addr} {m qual : Str} {st : Stmt} {oc : Value} {od an : Option Addr} {osl : Array (Option Value)} {kV doc pm cdv ct : Value} {rest : List Value} (a : PySem.W.findIn K (.ref C) m = some (some (.ref p)))
    (b : PySem.W.specialIn K (.ref p) "__get__" = some (some (.builtin "property.__get__"))) (t : PySem.W.takesIn K (.ref p) = some true) (r : PySem.W.recIn K p "property" = some (.ref g :: rest))
    (l : K.lookup g = some ⟨oc, od, .func (PySem.W.fnOf m qual (defArgs st) (defBody st) (defScope st) .none kV doc pm an cdv ct), osl⟩) (c : PySem.W.codeIn K cdv qual = true) (k : PySem.W.keepIn K (.ref g) = true) : HasProp K C m qual st :=
  ⟨p, g, _, fun_mk l c k, a, b, t, _, r⟩
structure KnPD (P : Program) (w : World) (K : PySem.W.Frag) (mg : Str → Option Value) (base : Heap) (C : Addr) (m : Str) (k : Nat) (ps : List Str) (sp : DSp) : Prop where
  ex : ∃ p g fd, FnOk P w K mg base CX0 k g fd ps (LSp K sp) ∧ PropOf K C m p g ∧ Binds K fd ps []
theorem KnPD.of {P : Program} {w : World} {K : PySem.W.Frag} {mg : Str → Option Value} {base : Heap} {C : Addr} {m qual : Str} {st : Stmt} {N ps : List Str} {k : Nat} {sp : DSp} (F : HasProp K C m qual st) (S : FnScope N ps (defScope st))
    (hb : ∀ (kV doc pm : Value) (an : Option Addr) (cdv ct : Value) (us : List Value), us.length = ps.length → bindArgs (PySem.W.fnOf m qual (defArgs st) (defBody st) (defScope st) .none kV doc pm an cdv ct) ⟨us, []⟩ = pure (ps.zip us))
    (len : ∀ ds M Q E, sp ds M Q E → ds.length = ps.length)
    (hbody : ∀ (f : Addr) (cdv : Value) (A : Around) (outer : List Env) (s : Shared) (H : Hp) (E : XK), Room k (A.deeper (envOfC qual (defScope st) s.heap.objs.size f cdv)) →
      ∃ t, DB (cxOf CX0 P w K mg base N qual (defScope st) f cdv A outer s H E).nox (defBody st) t ∧ ∀ ds M Q Ed, sp ds M Q Ed → t (bodyE Q) (startD N ds) M) : KnPD P w K mg base C m (k + 1) ps sp := by
  obtain ⟨p, g, fd, F, pr⟩ := F.ex
  exact ⟨p, g, fd, F.ok S (lsp_len len) (fun cdv A outer s H vs Q E hr ⟨F, W, M, ds, Qd, Ed, r, st, h, kk, kx⟩ => by
    obtain ⟨t, d, q⟩ := hbody g cdv A outer s H E hr
    exact ⟨_, d, ls_body r st kk (q ds M Qd Ed h)⟩), pr, F.binds hb⟩
section
variable {X : Cx} {k : Nat} {ps : List Str} {sp : DSp} {x m f : Str} {p pos apos : Pos} {a b e e1 e2 o : Expr} {es : List Expr} {fs : DTA} {C : Addr} {fa f1 f2 : DTE}
def gProp (C : Addr) (sp : DSp) (fa : DTE) : DTE := fun δ M Q => fa δ M fun x M1 => objK C x M1 (fun _ => True) ∧ sp [x] M1 Q X0
theorem d_prop (D : KnPD X.prog X.w X.K X.mg X.base C f k ps sp) (c : Cls X.K C) (hr : Room (k + 1) X.A) (he : DE X e fa) (hab : attributeBase e f X.env (eval e X.env) = eval e X.env := by rfl) : DE X (.Attribute e f pos) (gProp C sp fa) := by
  obtain ⟨p, g, fd, F, pr, b⟩ := D.ex
  refine imp (pe_prop he c pr F hr b .nil pass0 hab) fun σ H Q ⟨δ, F, W, M, Qd, ev, s, h, kk⟩ => ⟨δ, F, W, M, _, ev, s, h, fun v H1 W1 d M1 g1 s1 r1 q1 => ?_⟩
  obtain ⟨a, dx, vs, gs, rfl, ha, rv, _⟩ := obj_of s1 r1 q1.1
  exact ⟨a, dx, vs, rfl, ha, F, W1, M1, _, Qd, X0, .cons r1 .nil, s1, q1.2, kk.mono g1, fun _ _ _ _ _ _ _ _ _ z => z.elim⟩
/-! ### a new instance -/
/-- .. that changes no more once it is made -/
def gMakeS (C : Addr) (sp : DSp) (gV : List Da → List Da → List Da) (fs fk : DTA) : DTE := fun δ M Q => fs δ M fun ds M1 => fk δ M1 fun zs M2 => ∀ p, M2 p = none → sp (gV (.ref p :: ds) zs) (mput M2 p (.ins C [])) (fun v M3 => v = .non ∧ ∃ gs, M3 p = some (.ins C gs) ∧ Q (.obj C gs) (mdel M3 p)) X0
def gMake (C : Addr) (sp : DSp) (gV : List Da → List Da → List Da) (fs fk : DTA) : DTE := fun δ M Q => fs δ M fun ds M1 => fk δ M1 fun zs M2 => ∀ p, M2 p = none → sp (gV (.ref p :: ds) zs) (mput M2 p (.ins C [])) (fun v M3 => v = .non ∧ Q (.ref p) M3) X0
theorem make_end {K : PySem.W.Frag} {F W : Addr → Prop} {M : Mm} {H : Hp} {Q : VK} {Qd : DK} {vs : List V} {gd : List Da} {a dx : Addr} (s : Stt K F W M H) (ha : H a = none) (hd : H dx = none) (hx : dx ≠ a) (kk : Kt (rE K) K F W H Qd Q)
    (rg : ∀ {W' H'}, Grow F W H W' H' → RDs K W' H' vs gd) (st : Bool)
    (h : sp gd (mput M a (.ins C [])) (fun v M3 => v = .non ∧ (if st = true then ∃ gs, M3 a = some (.ins C gs) ∧ Qd (.obj C gs) (mdel M3 a) else Qd (.ref a) M3)) X0) :
    LSp K sp vs (upd (upd H dx (.own a)) a (.ins C dx [])) (fun v H2 => v = .non ∧ Q (.ref a) H2) E0 := by
  have s1 := s.junk hd (.own a)
  have ha1 : (upd H dx (.own a)) a = none := by rw [upd_ne (Ne.symm hx)]; exact ha
  have s2 := s1.newM ha1 (o := .ins C dx []) (u := .ins C []) (.ins .nil)
  have g2 : Grow F W H W (upd (upd H dx (.own a)) a (.ins C dx [])) := (grow_new s hd).trans (grow_new s1 ha1)
  refine ⟨F, W, _, gd, _, X0, rg g2, s2, h, fun v H3 W3 d M3 g3 s3 r3 q3 => ?_, fun _ _ _ _ _ _ _ _ _ z => z.elim⟩
  obtain ⟨rfl, q3⟩ := q3
  cases r3
  refine ⟨rfl, ?_⟩
  cases st with
  | true =>
    obtain ⟨gs, hm, q⟩ := q3
    obtain ⟨u, hu, mr⟩ := s3.mem _ _ hm
    obtain ⟨s4, g4⟩ := s3.settle hm
    cases mr with
    | ins rv => exact (kk.mono ((g2.trans g3).trans g4)).now s4 (.obj (.inl rfl) hu (rv.mono g4)) q
  | false => exact (kk.mono (g2.trans g3)).now s3 (.ref a) q3
def idV {α : Type} (xs : List α) (_ : List α) : List α := xs
theorem d_make (M : MgOf X.K X.mg) (c : HasCls X.K x C) (D : KnMD X.prog X.w X.K X.mg X.base C "__init__" k ps sp) (hr : Room (k + 1) X.A) (ha : DA X (e :: es) fs) (hg : Gl X x := by rfl) (hdb : (x == ("__debug__" : Str)) = false := by decide)
    (he : starEach (e :: es) X.env = (false, eval e X.env) :: starEach es X.env := by rfl) (hpl : (backTo pos (starEach es X.env)).any (·.1) = false := by rfl) : DE X (.Call (.Name x p) (e :: es) [] pos) (gMakeS C sp idV fs gNil) := by
  obtain ⟨f, fd, F, B, b⟩ := D.ex
  refine imp (pe_make ⟨c.mks, B.mt.at_, B.mt.fn, c.kc⟩ F hr hg (M.of _ _ c.at_) b .nil pass0 ha hdb he hpl) fun σ H Q ⟨δ, F, W, M, Qd, ev, s, h, kk⟩ => ⟨δ, F, W, M, _, ev, s, h, fun vs H1 W1 ds M1 g1 s1 r1 q1 => fun a dx h1 h2 h3 => ?_⟩
  rw [List.append_nil]
  exact make_end s1 h1 h2 h3 (kk.mono g1) (gd := .ref a :: ds) (fun g => .cons (.ref a) (r1.mono g)) true (q1 a (s1.freeM h1))
end
/-! ### __init__ with one keyword of its own -/
structure HasInitK (K : PySem.W.Frag) (C : Addr) (qual : Str) (st : Stmt) (kws : List (Str × V)) : Prop where
  ex : ∃ f fd, FunD K "__init__" qual (defArgs st) (defBody st) (defScope st) [] kws f fd ∧ BMeth K C "__init__" f
theorem initk_mk {K : PySem.W.Frag} {C f D : Addr} {qual kw : Str} {v : V} {u : Value} {st : Stmt} {oc : Value} {od an : Option Addr} {osl : Array (Option Value)} {doc pm cdv ct : Value} (a : PySem.W.findIn K (.ref C) "__init__" = some (some (.ref f))) (i : PySem.W.isFn K (.ref f) = true)
    (l : K.lookup f = some ⟨oc, od, .func (PySem.W.fnOf "__init__" qual (defArgs st) (defBody st) (defScope st) .none (.ref D) doc pm an cdv ct), osl⟩) (c : PySem.W.codeIn K cdv qual = true) (k : PySem.W.keepIn K (.ref f) = true)
    (gf : PySem.W.specialIn K (.ref f) "__get__" = some (some (.builtin "function.__get__"))) (tk : PySem.W.takesIn K (.ref f) = some false) (fi : PySem.W.fnIn K f = true) (kd : PySem.W.nsIn K D kw = some (some u)) (ru : RelV v u) (cp : PySem.W.copiedNames.contains "__init__" = false) : HasInitK K C qual st [(kw, v)] :=
  ⟨f, _, ⟨⟨oc, od, _, _, doc, pm, an, cdv, ct, osl, rfl, l, c, .inl ⟨rfl, rfl⟩, .inr ⟨D, rfl, fun q hq => by cases hq with | head => exact ⟨u, kd, ru⟩ | tail _ h => cases h⟩⟩, k⟩, ⟨⟨a, i, k⟩, gf, tk, cp, fi⟩⟩
/-- a promise of an __init__ with keywords ks behind n positional parameters -/
structure KnK (P : Program) (w : World) (K : PySem.W.Frag) (mg : Str → Option Value) (base : Heap) (C : Addr) (k : Nat) (ps : List Str) (n : Nat) (ks : List Str) (dvs : List V) (sp : DSp) : Prop where
  ex : ∃ f fd, FnOk P w K mg base CX0 k f fd ps (LSp K sp) ∧ BMeth K C "__init__" f ∧ (∃ ds, Vals dvs ds ∧ Binds K fd ps ds) ∧ KBn K fd ps n ks (fun us ws => us ++ ws) (fun vs zs => vs ++ zs)
theorem KnK.of {P : Program} {w : World} {K : PySem.W.Frag} {mg : Str → Option Value} {base : Heap} {C : Addr} {qual : Str} {st : Stmt} {N ps : List Str} {k n : Nat} {ks : List Str} {kws : List (Str × V)} {sp : DSp} (F : HasInitK K C qual st kws) (S : FnScope N ps (defScope st)) (hk : kws ≠ []) (hn : n + kws.length = ps.length)
    (h1 : ∀ (D : Addr) (doc pm : Value) (an : Option Addr) (cdv ct : Value) (us zs : List Value), us.length = n → zs.length = kws.length →
      KwChain D ((kws.map (·.1)).zip zs) (bindArgs (PySem.W.fnOf "__init__" qual (defArgs st) (defBody st) (defScope st) .none (.ref D) doc pm an cdv ct) ⟨us, []⟩) (ps.zip (us ++ zs)))
    (h2 : ∀ (D : Addr) (doc pm : Value) (an : Option Addr) (cdv ct : Value) (us ws : List Value), us.length = n → ws.length = ks.length →
      bindArgs (PySem.W.fnOf "__init__" qual (defArgs st) (defBody st) (defScope st) .none (.ref D) doc pm an cdv ct) ⟨us, ks.zip ws⟩ = pure (ps.zip (us ++ ws)))
    (len : ∀ ds M Q E, sp ds M Q E → ds.length = ps.length)
    (hbody : ∀ (f : Addr) (cdv : Value) (A : Around) (outer : List Env) (s : Shared) (H : Hp) (E : XK), Room k (A.deeper (envOfC qual (defScope st) s.heap.objs.size f cdv)) →
      ∃ t, DB (cxOf CX0 P w K mg base N qual (defScope st) f cdv A outer s H E).nox (defBody st) t ∧ ∀ ds M Q Ed, sp ds M Q Ed → t (bodyE Q) (startD N ds) M) : KnK P w K mg base C (k + 1) ps n ks (kws.map (·.2)) sp := by
  obtain ⟨f, fd, F, B⟩ := F.ex
  refine ⟨f, fd, F.ok S (lsp_len len) (fun cdv A outer s H vs Q E hr ⟨F, W, M, ds, Qd, Ed, r, st, h, kk, kx⟩ => by
    obtain ⟨t, d, q⟩ := hbody f cdv A outer s H E hr
    exact ⟨_, PSs.nox d, ls_body r st kk (q ds M Qd Ed h)⟩), B, F.binds0 n hk hn h1, ?_⟩
  obtain ⟨mv, kb⟩ := F.kbinds0 (ps := ps) n ks [] (fun us _ ws => us ++ ws) hk (fun q hq => nomatch hq) (fun r1 _ r3 => r1.append r3) fun D doc pm an cdv ct us mv ws l1 l2 l3 => h2 D doc pm an cdv ct us ws l1 l3
  exact kb
section
variable {X : Cx} {k n : Nat} {ps ks : List Str} {sp : DSp} {x : Str} {p pos : Pos} {e : Expr} {es : List Expr} {kws : List Keyword} {fs fk : DTA} {C : Addr} {dvs : List V} {dfl : List Da}
/-- keyword arguments -/
def DKw (X : Cx) (kws : List Keyword) (f : DTA) : Prop := PK X kws (Li (rA X.K) X.K f)
theorem pk_imp {t t' : TA} (h : PK X kws t) (f : ∀ σ H Q, t' σ H Q → t σ H Q) : PK X kws t' := ⟨fun po pins s σ H Q I q => h.run po pins s σ H Q I (f σ H Q q)⟩
theorem d_knil : DKw X [] gNil := pk_imp pk_nil fun σ H Q ⟨δ, F, W, M, Qd, ev, s, h, k⟩ => k.now s .nil h
theorem d_kcons {f : DTE} {nm : Option Str} {kpos : Pos} (ha : DE X e f) (hr : DKw X kws fk) : DKw X (⟨nm, e, kpos⟩ :: kws) (gCons f fk) :=
  pk_imp (pk_cons ha hr) fun σ H Q ⟨δ, F, W, M, Qd, ev, s, h, k⟩ => ⟨δ, F, W, M, _, ev, s, h, fun v H1 W1 d M1 g1 s1 r1 q1 => ⟨δ, F, W1, M1, _, ev.mono g1, s1, q1, fun vs H2 W2 ds M2 g2 s2 r2 q2 =>
    (k.mono (g1.trans g2)).now s2 (.cons (r1.mono g2) r2) q2⟩⟩
def appD (dfl : List Da) (xs _ : List Da) : List Da := xs ++ dfl
def catD (xs zs : List Da) : List Da := xs ++ zs
theorem d_makeD (M : MgOf X.K X.mg) (c : HasCls X.K x C) (D : KnK X.prog X.w X.K X.mg X.base C k ps n ks dvs sp) (hd : ∀ W H, RDs X.K W H dvs dfl) (hr : Room (k + 1) X.A) (ha : DA X (e :: es) fs) (hg : Gl X x := by rfl) (hdb : (x == ("__debug__" : Str)) = false := by decide)
    (he : starEach (e :: es) X.env = (false, eval e X.env) :: starEach es X.env := by rfl) (hpl : (backTo pos (starEach es X.env)).any (·.1) = false := by rfl) : DE X (.Call (.Name x p) (e :: es) [] pos) (gMakeS C sp (appD dfl) fs gNil) := by
  obtain ⟨f, fd, F, B, ⟨us, hu, b⟩, _⟩ := D.ex
  refine imp (pe_make ⟨c.mks, B.mt.at_, B.mt.fn, c.kc⟩ F hr hg (M.of _ _ c.at_) b hu pass0 ha hdb he hpl) fun σ H Q ⟨δ, F, W, M, Qd, ev, s, h, kk⟩ => ⟨δ, F, W, M, _, ev, s, h, fun vs H1 W1 ds M1 g1 s1 r1 q1 => fun a dx h1 h2 h3 => ?_⟩
  exact make_end s1 h1 h2 h3 (kk.mono g1) (gd := .ref a :: (ds ++ dfl)) (fun g => .cons (.ref a) ((r1.mono g).append (hd _ _))) true (q1 a (s1.freeM h1))
def gMakeK (C : Addr) (n m : Nat) (sp : DSp) (fs fk : DTA) : DTE := fun δ M Q => fs δ M fun ds M1 => fk δ M1 fun zs M2 => ds.length = n ∧ zs.length = m ∧ ∀ p, M2 p = none → sp (.ref p :: (ds ++ zs)) (mput M2 p (.ins C [])) (fun v M3 => v = .non ∧ ∃ gs, M3 p = some (.ins C gs) ∧ Q (.obj C gs) (mdel M3 p)) X0
theorem d_makeK (M : MgOf X.K X.mg) (c : HasCls X.K x C) (D : KnK X.prog X.w X.K X.mg X.base C k ps (n + 1) ks dvs sp) (hr : Room (k + 1) X.A) (ha : DA X (e :: es) fs) (hkw : DKw X kws fk) (hg : Gl X x := by rfl)
    (hall : (backToKw pos (keywordEach kws X.env)).all (·.1.isSome) = true := by rfl) (hks : (backToKw pos (keywordEach kws X.env)).filterMap (·.1) = ks := by rfl) (hdb : (x == ("__debug__" : Str)) = false := by decide)
    (he : starEach (e :: es) X.env = (false, eval e X.env) :: starEach es X.env := by rfl) (hpl : ((backTo pos (starEach (e :: es) X.env)).any (·.1) || (backToKw pos (keywordEach kws X.env)).any (·.1.isNone)) = false := by rfl) :
    DE X (.Call (.Name x p) (e :: es) kws pos) (gMakeK C n ks.length sp fs fk) := by
  obtain ⟨f, fd, F, B, _, kb⟩ := D.ex
  refine imp (pe_makeK ⟨c.mks, B.mt.at_, B.mt.fn, c.kc⟩ F hr hg (M.of _ _ c.at_) kb pass0 ha hkw hall hks hdb he hpl) fun σ H Q ⟨δ, F, W, M, Qd, ev, s, h, kk⟩ => ⟨δ, F, W, M, _, ev, s, h, fun vs H1 W1 ds M1 g1 s1 r1 q1 =>
    ⟨δ, F, W1, M1, _, ev.mono g1, s1, q1, fun zs H2 W2 es2 M2 g2 s2 r2 q2 => ⟨by rw [r1.length]; exact q2.1, by rw [r2.length]; exact q2.2.1, fun a dx h1 h2 h3 => ?_⟩⟩⟩
  exact make_end s2 h1 h2 h3 (kk.mono (g1.trans g2)) (gd := .ref a :: (ds ++ es2)) (fun g => .cons (.ref a) (((r1.mono g2).mono g).append (r2.mono g))) true (q2.2.2 a (s2.freeM h1))
end
end U
set_option Elab.async false
set_option linter.all false
set_option maxRecDepth 100000
set_option maxHeartbeats 2000000
/-! Readings over plain data: isinstance, own ==, texts, sorted sets. -/
namespace U
open PySem PySem.Spec PyProof.Rows L2
/-- the type's name -/
def tyS : Da → String
  | .non => "NoneType"
  | .bl _ => "bool"
  | .int _ => "int"
  | .str _ => "str"
  | .lst _ => "list"
  | .tup _ => "tuple"
  | .dct _ => "dict"
  | _ => ""
/-- what isinstance rules want of a class of the text -/
structure IsC (K : PySem.W.Frag) (C : Addr) : Prop where
  cl : Cls K C
  ha : PySem.W.findIn K (.ref C) "__class__" = some (some (.builtin "object.__class__"))
  hn : PySem.W.specialIn K (.builtin "object.__class__") "__get__" = some (some (.builtin "getset_descriptor.__get__"))
  tk : PySem.W.takesIn K (.builtin "object.__class__") = some true
  hm : PySem.W.mroIn K C (.type "object") = some true
theorem HasCls.isC {K : PySem.W.Frag} {x : Str} {C : Addr} (c : HasCls K x C) : IsC K C := ⟨c.cl, c.ha, c.hn, c.tk, c.hm⟩
section
variable {K : PySem.W.Frag} {F W : Addr → Prop} {M : Mm} {H : Hp}
theorem ty_lst {a : Addr} {vs : List V} : Sl K W H a vs → TyX K H (.ref a) (.type "list")
  | .inl ⟨_, .inl h⟩ => .base (.lst h)
  | .inl ⟨_, .inr ⟨_, h⟩⟩ => .base (.frz h)
  | .inr (.inl (.inl h)) => nomatch h
  | .inr (.inl (.inr ⟨_, h⟩)) => nomatch h
  | .inr (.inr ⟨_, _, _, h1, h2, _⟩) => .kList h1 h2
theorem ty_tup {a : Addr} {vs : List V} : Sp' K W H a vs → TyX K H (.ref a) (.type "tuple")
  | .inl ⟨_, .inl h⟩ => .base (.tup h)
  | .inl ⟨_, .inr ⟨_, h⟩⟩ => .fTuple h
  | .inr (.inl (.inl h)) => nomatch h
  | .inr (.inl (.inr ⟨_, h⟩)) => nomatch h
  | .inr (.inr ⟨_, _, _, h1, h2, _⟩) => .kTuple h1 h2
theorem ty_ins {a C dx : Addr} {vs : List (Str × V)} (c : IsC K C) (h : H a = some (.ins C dx vs)) : TyX K H (.ref a) (.ref C) := .base (.ins h c.cl c.ha c.hn c.tk c.hm)
/-- the type as a value: a built-in one, or a class of the text -/
def tyK (K : PySem.W.Frag) (x : Da) (M : Mm) (k : Value → Prop) : Prop := match x with
  | .obj C _ => IsC K C ∧ k (.ref C)
  | .ref p => (∃ xs, M p = some (.lst xs) ∧ k (.type "list")) ∨ (∃ xs, M p = some (.dct xs) ∧ k (.type "dict")) ∨ ∃ C fs, M p = some (.ins C fs) ∧ IsC K C ∧ k (.ref C)
  | .ty _ => False
  | x => k (.type (tyS x))
theorem ty_of {v : V} {d : Da} (s : Stt K F W M H) (r : RD K W H v d) {k : Value → Prop} (h : tyK K d M k) : ∃ t, TyX K H v t ∧ k t := by
  cases r with
  | non => exact ⟨_, .base .non, h⟩
  | bl b => exact ⟨_, .base (.bl b), h⟩
  | int b => exact ⟨_, .base (.int b), h⟩
  | str b => exact ⟨_, .base (.str b), h⟩
  | ty b => exact h.elim
  | lst hs rv => exact ⟨_, ty_lst hs, h⟩
  | tup hs rv => exact ⟨_, ty_tup hs, h⟩
  | obj w hs rv => exact ⟨_, ty_ins h.1 hs, h.2⟩
  | dct w hs rv => exact ⟨_, .base (.dK hs), h⟩
  | ref p =>
    rcases h with ⟨xs, hm, h⟩ | ⟨xs, hm, h⟩ | ⟨C, fs, hm, c, h⟩
    · obtain ⟨vs, hv, _⟩ := s.list hm
      exact ⟨_, .base (.lst hv), h⟩
    · obtain ⟨u, hu, mr⟩ := s.mem _ _ hm
      cases mr with
      | dct rv => exact ⟨_, .base (.dK hu), h⟩
    · obtain ⟨u, hu, mr⟩ := s.mem _ _ hm
      cases mr with
      | ins rv => exact ⟨_, ty_ins c hu, h⟩
end
/-- isinstance, one class -/
def kIsi (K : PySem.W.Frag) : DC := fun xs M Q => match xs with
  | [.non, .ty T] => kinds.contains T = true ∧ Q (.bl (isK "NoneType" T)) M
  | [.bl _, .ty T] => kinds.contains T = true ∧ Q (.bl (isK "bool" T)) M
  | [.int _, .ty T] => kinds.contains T = true ∧ Q (.bl (isK "int" T)) M
  | [.str _, .ty T] => kinds.contains T = true ∧ Q (.bl (isK "str" T)) M
  | [.lst _, .ty T] => kinds.contains T = true ∧ Q (.bl (isK "list" T)) M
  | [.tup _, .ty T] => kinds.contains T = true ∧ Q (.bl (isK "tuple" T)) M
  | [.dct _, .ty T] => kinds.contains T = true ∧ Q (.bl (isK "dict" T)) M
  | [x, .ty T] => tyK K x M fun t => ∃ b, PySem.W.kitOne K t (.type T) = some b ∧ Q (.bl b) M
  | [x, .ref C] => tyK K x M fun t => ∃ b, PySem.W.kitOne K t (.ref C) = some b ∧ Q (.bl b) M
  | _ => False
section
variable {X : Cx} {k : Nat} {ps : List Str} {sp : DSp} {x m f : Str} {p pos apos : Pos} {a b e e1 e2 o : Expr} {es : List Expr} {fs : DTA} {C : Addr} {fa f1 f2 : DTE} {g : DC}
theorem c_disi : CD X (.builtin "isinstance") (kIsi X.K) := cd_imp fun vs H Q ⟨F, W, M, ds, Qd, r, s, h, k⟩ => by
  refine ⟨_, call_isi, ?_⟩
  have go : ∀ {v c : V} {d e : Da} {T : Value} {b : Bool} {t : Value}, vs = [v, c] → TyX X.K H v t → ClsV c T → PySem.W.kitOne X.K t T = some b → Qd (.bl b) M → rIsi X.K vs H Q := fun e1 ty cc e2 q => ⟨_, _, _, _, _, e1, cc, ty, e2, k.now s (.bl _) q⟩
  unfold kIsi at h
  split at h
  · obtain ⟨v, u, rfl, r1, r2⟩ := r.two; cases r1; cases r2; exact go (d := .non) (e := .non) rfl (.base .non) (.ty _) (kit_ok (by decide) h.1) h.2
  · obtain ⟨v, u, rfl, r1, r2⟩ := r.two; cases r1; cases r2; exact go (d := .non) (e := .non) rfl (.base (.bl _)) (.ty _) (kit_ok (by decide) h.1) h.2
  · obtain ⟨v, u, rfl, r1, r2⟩ := r.two; cases r1; cases r2; exact go (d := .non) (e := .non) rfl (.base (.int _)) (.ty _) (kit_ok (by decide) h.1) h.2
  · obtain ⟨v, u, rfl, r1, r2⟩ := r.two; cases r1; cases r2; exact go (d := .non) (e := .non) rfl (.base (.str _)) (.ty _) (kit_ok (by decide) h.1) h.2
  · obtain ⟨v, u, rfl, r1, r2⟩ := r.two
    cases r2
    cases r1 with
    | lst hs rv => exact go (d := .non) (e := .non) rfl (ty_lst hs) (.ty _) (kit_ok (by decide) h.1) h.2
  · obtain ⟨v, u, rfl, r1, r2⟩ := r.two
    cases r2
    cases r1 with
    | tup hs rv => exact go (d := .non) (e := .non) rfl (ty_tup hs) (.ty _) (kit_ok (by decide) h.1) h.2
  · obtain ⟨v, u, rfl, r1, r2⟩ := r.two
    cases r2
    cases r1 with
    | dct w hs rv => exact go (d := .non) (e := .non) rfl (.base (.dK hs)) (.ty _) (kit_ok (by decide) h.1) h.2
  · obtain ⟨v, u, rfl, r1, r2⟩ := r.two
    cases r2
    obtain ⟨t, ty, b, e, q⟩ := ty_of s r1 h
    exact go (d := .non) (e := .non) rfl ty (.ty _) e q
  · obtain ⟨v, u, rfl, r1, r2⟩ := r.two
    cases r2
    obtain ⟨t, ty, b, e, q⟩ := ty_of s r1 h
    exact go (d := .non) (e := .non) rfl ty (.own _) e q
  · exact h.elim
/-! ### == and != by an own __eq__ -/
def hEqO (K : PySem.W.Frag) (C : Addr) (sp : DSp) (neg : Bool) : D2 := fun x y M Q => objK C x M (fun _ => True) ∧ tyK K y M fun t => PySem.W.notFirst K C t = true ∧ sp [x, y] M (fun v M1 => match v with
  | .bl k => Q (.bl (if neg then !k else k)) M1
  | _ => False) X0
theorem hEqO_ok {K : PySem.W.Frag} {neg : Bool} {x y : V} {H : Hp} {Q : VK} (h : L2o K (hEqO K C sp neg) x y H Q) : rEqO K C (LSp K sp) neg x y H Q := by
  obtain ⟨F, W, M, d, e, Qd, r1, r2, s, ⟨h1, h2⟩, kk⟩ := h
  obtain ⟨a, dx, vs, fs, rfl, ha, rv, _⟩ := obj_of s r1 h1
  obtain ⟨t, ty, hn, q⟩ := ty_of s r2 h2
  refine ⟨dx, vs, t, ha, ty, hn, F, W, M, _, _, X0, .cons r1 (.cons r2 .nil), s, q, fun v H1 W1 d1 M1 g1 s1 r3 q1 => ?_, fun _ _ _ _ _ _ _ _ _ z => z.elim⟩
  cases r3 <;> first | exact q1.elim | exact (kk.mono g1).now s1 (.bl _) q1
theorem o_deqO (D : KnMD X.prog X.w X.K X.mg X.base C "__eq__" k ps sp) (hr : Room k X.A) : DO X (compareOp .Eq) (hEqO X.K C sp false) := opImp (o_eqO D hr) fun _ _ _ _ h => hEqO_ok h
theorem o_dneO (D : KnMD X.prog X.w X.K X.mg X.base C "__eq__" k ps sp) (hne : PySem.W.findIn X.K (.ref C) "__ne__" = some (some (.builtin "object.__ne__"))) (hm : PySem.W.mroIn X.K C (.type "object") = some true) (hr : Room (k + 1) X.A) : DO X (compareOp .NotEq) (hEqO X.K C sp true) :=
  opImp (o_neO D hne hm hr) fun _ _ _ _ h => hEqO_ok h
/-! ### f'..', str -/
def gFmt (f : DTE) : DTE := fun δ M Q => f δ M fun x M1 => match x with
  | .str y => Sz y.length ∧ Q (.str y) M1
  | .int i => i.natAbs.log2 < 1920 ∧ Q (.str (toString i)) M1
  | _ => False
theorem d_fmt (he : DE X e fa) : DE X (.FormattedValue e (-1) none pos) (gFmt fa) := imp (pe_fmt he) fun σ H Q ⟨δ, F, W, M, Qd, ev, s, h, kk⟩ => ⟨δ, F, W, M, _, ev, s, h, fun v H1 W1 d M1 g1 s1 r1 q1 => by
  cases r1 <;> first | exact q1.elim | skip
  · exact .inr ⟨_, rfl, q1.1, (kk.mono g1).now s1 (.str _) q1.2⟩
  · exact .inl ⟨_, rfl, q1.1.ok, (kk.mono g1).now s1 (.str _) q1.2⟩⟩
inductive DJ (X : Cx) : List Expr → List DTE → Prop where
  | nil : DJ X [] []
  | cons {e : Expr} {t : DTE} {es : List Expr} {ts : List DTE} (h : DE X e t) (r : DJ X es ts) : DJ X (e :: es) (t :: ts)
/-- the texts one behind the other -/
def gJs : List DTE → Str → De → Mm → (Str → Mm → Prop) → Prop
  | [], acc, _, M, Q => Q acc M
  | t :: ts, acc, δ, M, Q => t δ M fun x M1 => match x with
    | .str y => Sz (acc ++ y).length ∧ gJs ts (acc ++ y) δ M1 Q
    | _ => False
def gJ (ts : List DTE) : DTE := fun δ M Q => gJs ts Str.empty δ M fun z M1 => Q (.str z) M1
theorem d_joined {v1 v2 : Expr} {rest : List Expr} {ts : List DTE} (h : DJ X (v1 :: v2 :: rest) ts) : DE X (.JoinedStr (v1 :: v2 :: rest) pos) (gJ ts) := by
  have pj : ∀ {es : List Expr} {ts : List DTE}, DJ X es ts → PJ X es (ts.map fun t => Li (rE X.K) X.K t) := fun d => by
    induction d with
    | nil => exact .nil
    | cons h r ih => exact .cons h ih
  have run : ∀ (ts : List DTE) (acc : Str) (δ : De) (σ : L2.St) (F W : Addr → Prop) (M : Mm) (H : Hp) (Qd : DK) (Q : VK), EnvR X.K W H δ σ → Stt X.K F W M H → gJs ts acc δ M (fun z M1 => Qd (.str z) M1) → Kt (rE X.K) X.K F W H Qd Q →
      tJs (ts.map fun t => Li (rE X.K) X.K t) acc σ H fun out H1 => Q (.str out) H1 := by
    intro ts
    induction ts with
    | nil => intro acc δ σ F W M H Qd Q ev s h kk; exact kk.now s (.str _) h
    | cons t ts ih =>
      intro acc δ σ F W M H Qd Q ev s h kk
      refine ⟨δ, F, W, M, _, ev, s, h, fun v H1 W1 d M1 g1 s1 r1 q1 => ?_⟩
      cases r1 <;> first | exact q1.elim | skip
      exact ⟨_, rfl, q1.1.ok, ih _ δ σ F W1 M1 H1 Qd Q (ev.mono g1) s1 q1.2 (kk.mono g1)⟩
  exact imp (pe_joined (pj h)) fun σ H Q ⟨δ, F, W, M, Qd, ev, s, h, kk⟩ => run ts _ δ σ F W M H Qd Q ev s h kk
/-- str of ints and texts, str(o) of an own __str__ -/
def kStr : DC := fun xs M Q => match xs with
  | [.int i] => i.natAbs.log2 < 1920 ∧ Q (.str (toString i)) M
  | _ => False
def kStrO (C : Addr) (sp : DSp) : DC := fun xs M Q => match xs with
  | [x] => objK C x M (fun _ => True) ∧ sp [x] M (fun v M1 => match v with
    | .str z => Q (.str z) M1
    | _ => False) X0
  | _ => False
theorem c_dstrO (D : KnMD X.prog X.w X.K X.mg X.base C "__str__" k ps sp) (hr : Room (k + 2) X.A) : CD X (.type "str") (kStrO C sp) := cd_imp fun vs H Q ⟨F, W, M, ds, Qd, r, s, h, kk⟩ => by
  refine ⟨_, c_strO D hr, ?_⟩
  unfold kStrO at h
  split at h
  · obtain ⟨v, rfl, r1⟩ := r.one
    obtain ⟨a, dx, vs, fs, rfl, ha, rv, _⟩ := obj_of s r1 h.1
    refine ⟨a, dx, vs, rfl, ha, F, W, M, _, _, X0, .cons r1 .nil, s, h.2, fun v H1 W1 d1 M1 g1 s1 r3 q1 => ?_, fun _ _ _ _ _ _ _ _ _ z => z.elim⟩
    cases r3 <;> first | exact q1.elim | exact (kk.mono g1).now s1 (.str _) q1
  · exact h.elim
/-! ### sorted(set(a list of tuples of ints)) -/
def tupI (ns : List Int) : Da := .tup (ns.map Da.int)
def asTups : List Da → Option (List (List Int))
  | [] => some []
  | .tup ds :: r => (asInts ds).bind fun ns => (asTups r).map (ns :: ·)
  | _ :: _ => none
theorem asTups_map : ∀ ms : List (List Int), asTups (ms.map tupI) = some ms
  | [] => rfl
  | m :: ms => by
    show (asInts (m.map Da.int)).bind (fun ns => (asTups (ms.map tupI)).map (ns :: ·)) = _
    rw [asInts_map, asTups_map ms]; rfl
theorem asTups_of : ∀ {ds : List Da} {ms : List (List Int)}, asTups ds = some ms → ds = ms.map tupI
  | [], ms, h => by cases h; rfl
  | d :: ds, ms, h => by
    cases d with
    | tup es =>
      have h' : (asInts es).bind (fun ns => (asTups ds).map (ns :: ·)) = some ms := h
      cases e1 : asInts es with
      | none => rw [e1] at h'; cases h'
      | some ns =>
        cases e2 : asTups ds with
        | none => rw [e1, e2] at h'; cases h'
        | some ms' => rw [e1, e2] at h'; cases h'; rw [asTups_of e2, asInts_of e1]; rfl
    | _ => cases (show none = some ms from h)
theorem RDs.tups {K : PySem.W.Frag} {W : Addr → Prop} {H : Hp} : ∀ {vs : List V} {ms : List (List Int)}, RDs K W H vs (ms.map tupI) → ∃ ks : List (Addr × List Int), vs = ks.map (fun p => V.ref p.1) ∧ ms = ks.map (·.2) ∧ ∀ p ∈ ks, Sp' K W H p.1 (p.2.map V.int)
  | _, [], .nil => ⟨[], rfl, rfl, fun p hp => nomatch hp⟩
  | _, m :: ms, .cons h k => by
    obtain ⟨ks, e1, e2, e3⟩ := RDs.tups k
    cases h with
    | @tup a vs _ hs rv =>
      rw [rv.ints] at hs
      exact ⟨(a, m) :: ks, by rw [e1]; rfl, by rw [e2]; rfl, fun p hp => by
        rcases List.mem_cons.mp hp with e | e
        · rw [e]; exact hs
        · exact e3 p e⟩
theorem rds_tups {K : PySem.W.Frag} {W : Addr → Prop} {H : Hp} : ∀ (ks : List (Addr × List Int)), (∀ p ∈ ks, Sp' K W H p.1 (p.2.map V.int)) → RDs K W H (ks.map fun p => V.ref p.1) ((ks.map (·.2)).map tupI)
  | [], _ => .nil
  | (a, m) :: ks, h => by
    have ri : ∀ ns : List Int, RDs K W H (ns.map V.int) (ns.map Da.int) := fun ns => by
      induction ns with
      | nil => exact .nil
      | cons n ns ih => exact .cons (.int n) ih
    exact .cons (.tup (h (a, m) List.mem_cons_self) (ri m)) (rds_tups ks fun p hp => h p (List.mem_cons_of_mem _ hp))
/-- d: their length, B: their bound -/
structure gSoSe (d : Nat) (B : Int) (f : DTE) (δ : De) (M : Mm) (Q : DK) : Prop where
  run : f δ M fun x M1 => match x with
  | .lst ds => ∃ ms, asTups ds = some ms ∧ ms.length < 64 ∧ (∀ m ∈ ms, m.length = d ∧ TS.Bd B m) ∧
    ∀ ns : List (List Int), ns.Nodup → (∀ m, m ∈ ns ↔ m ∈ ms) → ns.Pairwise (fun q r => TS.code B q ≤ TS.code B r) → Q (.lst (ns.map tupI)) M1
  | _ => False
theorem d_sose {d : Nat} {B : Int} {pp qp pos2 : Pos} (hd : 1 ≤ d) (hc : X.calm = true) (hu : X.A.units + 64 < cLine) (m1 : X.mg "sorted" = none) (m2 : X.mg "set" = none) (he : DE X e fa) (hg1 : Gl X "sorted" := by rfl) (hg2 : Gl X "set" := by rfl)
    (h1 : starEach [.Call (.Name "set" qp) [e] [] pos2] X.env = (false, eval (.Call (.Name "set" qp) [e] [] pos2) X.env) :: starEach [] X.env := by rfl) (h2 : starEach [e] X.env = (false, eval e X.env) :: starEach [] X.env := by rfl) :
    DE X (.Call (.Name "sorted" pp) [.Call (.Name "set" qp) [e] [] pos2] [] pos) (gSoSe d B fa) := by
  refine imp (pe_callB (cr_sortedT hc) hg1 m1 b_sorted (pa_cons (pe_callTy (cr_setOfT hc hu) hg2 m2 b_set (pa_cons he pa_nil h2) (he := h2)) pa_nil h1) (he := h1)) fun σ H Q ⟨δ, F, W, M, Qd, ev, s, h, kk⟩ => ⟨δ, F, W, M, _, ev, s, h.run, fun v H1 W1 x M1 g1 s1 r1 q1 => ?_⟩
  cases r1 <;> first | exact q1.elim | skip
  rename_i a vs ds hs rv
  obtain ⟨ms, hm, hl, hb, q⟩ := q1
  rw [asTups_of hm] at rv
  obtain ⟨ks, rfl, rfl, hk⟩ := rv.tups
  refine ⟨a, ks, rfl, hs.sq, fun p hp => (hk p hp).sq, by rw [List.length_map] at hl; exact hl, fun b L hb0 hL1 hL2 => ?_⟩
  have s2 := s1.junk hb0 (SetTO X.prog X.w b L)
  have g2 : Grow F W1 H1 W1 (upd H1 b (SetTO X.prog X.w b L)) := grow_new s1 hb0
  refine ⟨b, L, d, B, rfl, upd_same, fun p hp => ((hk p (hL1 p hp)).mono g2).sq, hd, fun p hp => hb _ (List.mem_map_of_mem (hL1 p hp)), fun L' p hp hn hl' hs' hpf => ?_⟩
  refine (kk.mono (g1.trans g2)).newL s2 hpf (ds := (L'.map (·.2)).map tupI) ?_ ?_
  · exact rds_tups L' fun p hp' => (hk p (hL1 p (hp.mem_iff.mp hp'))).mono g2
  · refine q _ hn (fun m => ?_) (List.pairwise_map.mpr hs')
    constructor
    · intro h
      obtain ⟨p, hp1, rfl⟩ := List.mem_map.mp h
      exact List.mem_map_of_mem (hL1 p (hp.mem_iff.mp hp1))
    · intro h
      obtain ⟨p, hp1, rfl⟩ := List.mem_map.mp h
      obtain ⟨r, hr1, hr2⟩ := List.mem_map.mp (hL2 p hp1)
      exact hr2 ▸ List.mem_map_of_mem (hp.mem_iff.mpr hr1)
end
end U
set_option Elab.async false
set_option linter.all false
set_option maxRecDepth 100000
set_option maxHeartbeats 2000000
/-! Readings over plain data: helpers for walks. -/
namespace U
open PySem PySem.Spec PyProof.Rows L2
theorem noattr_mk {K : PySem.W.Frag} {C : Addr} {f : Str} (a : PySem.W.findIn K (.ref C) f = some none) : NoAttr K C f := a
theorem hu_of {k : Nat} {A : Around} (r : Room k A) : A.units + 64 < cLine := by have := r.un; omega
theorem hu1_of {k : Nat} {A : Around} (r : Room k A) : A.units + 65 < cLine := by have := r.un; omega
section
variable {X : Cx} {fs : DTA}
def hPar3 (i j k : Nat) (fs : DTA) : DTS := fun D δ M => fs δ M fun ds M1 => match ds with
  | [d, e, f] => D.nx (((δ.set i (some d)).set j (some e)).set k (some f)) M1
  | _ => False
theorem li_par3 {i j k : Nat} {D : Ends} {σ : L2.St} {H : Hp} (h : LS X.K (hPar3 i j k fs) D σ H) : tPar3 i j k (Li (rA X.K) X.K fs) D σ H := by
  obtain ⟨δ, F, W, M, Dd, ev, s, h, kk⟩ := h
  refine ⟨δ, F, W, M, _, ev, s, h, fun v H1 W1 d M1 g1 s1 r1 q1 => ?_⟩
  split at q1
  · cases r1 with
    | cons rx r1 =>
      obtain ⟨y, z, rfl, ry, rz⟩ := r1.two
      exact ⟨_, y, z, rfl, (kk.nx.mono g1).now s1 ((((ev.mono g1).set rx i).set ry j).set rz k) q1⟩
  · exact q1.elim
theorem z_par3 {i j l : Nat} {x y z : Str} {a b c : Expr} {px py pz pt pos : Pos} {kt k2 pt2} (hc : X.calm = true) (hN : X.N.Nodup) (hi : X.N[i]? = some x) (hj : X.N[j]? = some y) (hl : X.N[l]? = some z) (hij : i ≠ j) (hil : i ≠ l) (hjl : j ≠ l)
    (hx : X.env.scope.names.lookup x = some .local) (hy : X.env.scope.names.lookup y = some .local) (hz : X.env.scope.names.lookup z = some .local) (ha : DA X [a, b, c] fs)
    (hw : swappedStores [.Tuple [.Name x px, .Name y py, .Name z pz] kt pt] (.Tuple [a, b, c] k2 pt2) X.env = pure (some [x, y, z]))
    (hs : swapsWithSole [.Tuple [.Name x px, .Name y py, .Name z pz] kt pt] (.Tuple [a, b, c] k2 pt2) pos.line X.env = pure false := by rfl) :
    DS X (.Assign [.Tuple [.Name x px, .Name y py, .Name z pz] kt pt] (.Tuple [a, b, c] k2 pt2) pos) (hPar3 i j l fs) := ps_imp (ps_par3 hc hN hi hj hl hij hil hjl hx hy hz ha hw hs) fun _ _ _ h => li_par3 h
end
theorem asInts_fun {α : Type} (g : α → Int) (l : List α) : asInts (l.map fun x => Da.int (g x)) = some (l.map g) := by
  rw [show (l.map fun x => Da.int (g x)) = (l.map g).map Da.int from by rw [List.map_map]; rfl]
  exact asInts_map _
theorem asBls_fun {α : Type} (g : α → Bool) (l : List α) : asBls (l.map fun x => Da.bl (g x)) = some (l.map g) := by
  rw [show (l.map fun x => Da.bl (g x)) = (l.map g).map Da.bl from by rw [List.map_map]; rfl]
  exact asBls_map _
theorem asTups_fun {α : Type} (g : α → List Int) (l : List α) : asTups (l.map fun x => tupI (g x)) = some (l.map g) := by
  rw [show (l.map fun x => tupI (g x)) = (l.map g).map tupI from by rw [List.map_map]; rfl]
  exact asTups_map _
/-- a loop over what was numbers -/
theorem forD_map {α : Type} {g : DTG} {tb : DTS} {D : DEnds} {f : α → Da} (I : List α → De → Mm → Prop)
    (hs : ∀ x l δ M, I (x :: l) δ M → (∀ δ' M', I l δ' M' → forD g tb D (l.map f) δ' M') → g (f x) δ M fun δ2 M2 => tb { D with nx := forD g tb D (l.map f), ct := forD g tb D (l.map f), bk := D.nx } δ2 M2)
    (hn : ∀ δ M, I [] δ M → D.nx δ M) : ∀ {l : List α} {δ : De} {M : Mm}, I l δ M → forD g tb D (l.map f) δ M
  | [], δ, M, h => hn δ M h
  | x :: l, δ, M, h => hs x l δ M h fun δ' M' h' => forD_map I hs hn h'
/-- a loop over data -/
theorem forD_ind {g : DTG} {tb : DTS} {D : DEnds} (I : List Da → De → Mm → Prop)
    (hs : ∀ x l δ M, I (x :: l) δ M → (∀ δ' M', I l δ' M' → forD g tb D l δ' M') → g x δ M fun δ2 M2 => tb { D with nx := forD g tb D l, ct := forD g tb D l, bk := D.nx } δ2 M2)
    (hn : ∀ δ M, I [] δ M → D.nx δ M) : ∀ {l : List Da} {δ : De} {M : Mm}, I l δ M → forD g tb D l δ M
  | [], δ, M, h => hn δ M h
  | x :: l, δ, M, h => hs x l δ M h fun δ' M' h' => forD_ind I hs hn h'
theorem rngD0 (n : Nat) : rngD 0 n = (List.range n).map fun i : Nat => Da.int (i : Int) := by
  unfold rngD
  congr 1
  funext i
  rw [Int.zero_add]
theorem rngD0' {j : Int} {n : Nat} (h : j = n) : rngD 0 j.toNat = (List.range n).map fun i : Nat => Da.int (i : Int) := by
  subst h
  exact rngD0 n
theorem rok {i : Int} (h1 : -1000000 ≤ i) (h2 : i ≤ 1000000) : Rok i := ⟨by omega, by omega⟩
/-- a comprehension that changes nothing -/
theorem lcD_pure {c : CT} {tt : DTT} {te : DTE} {δ : De} {M : Mm} (p : Da → Bool) (f : Da → Da) : ∀ {ds : List Da} {k : List Da → Mm → Prop}, (∀ d ∈ ds, c.ok d ∧ ∀ Q : Bool → Mm → Prop, Q (p d) M → tt (c.set d δ) M Q) →
    (∀ d ∈ ds, p d = true → ∀ Q : DK, Q (f d) M → te (c.set d δ) M Q) → k ((ds.filter p).map f) M → lcD c tt te δ ds k M
  | [], k, _, _, h => h
  | d :: ds, k, h1, h2, h => by
    obtain ⟨o, t⟩ := h1 d List.mem_cons_self
    refine ⟨o, t _ ?_⟩
    have r1 : ∀ e ∈ ds, c.ok e ∧ ∀ Q : Bool → Mm → Prop, Q (p e) M → tt (c.set e δ) M Q := fun e he => h1 e (List.mem_cons_of_mem _ he)
    have r2 : ∀ e ∈ ds, p e = true → ∀ Q : DK, Q (f e) M → te (c.set e δ) M Q := fun e he => h2 e (List.mem_cons_of_mem _ he)
    cases e : p d with
    | true =>
      rw [List.filter_cons_of_pos e, List.map_cons] at h
      exact h2 d List.mem_cons_self e _ (lcD_pure p f r1 r2 h)
    | false =>
      rw [List.filter_cons_of_neg (by rw [e]; exact Bool.false_ne_true)] at h
      exact lcD_pure p f r1 r2 h
/-- .. over what was something else -/
theorem lcD_map {α : Type} {c : CT} {tt : DTT} {te : DTE} {δ : De} {M : Mm} {g : α → Da} (p : α → Bool) (f : α → Da) : ∀ {l : List α} {k : List Da → Mm → Prop}, (∀ x ∈ l, c.ok (g x) ∧ ∀ Q : Bool → Mm → Prop, Q (p x) M → tt (c.set (g x) δ) M Q) →
    (∀ x ∈ l, p x = true → ∀ Q : DK, Q (f x) M → te (c.set (g x) δ) M Q) → k ((l.filter p).map f) M → lcD c tt te δ (l.map g) k M
  | [], k, _, _, h => h
  | x :: l, k, h1, h2, h => by
    obtain ⟨o, t⟩ := h1 x List.mem_cons_self
    refine ⟨o, t _ ?_⟩
    have r1 : ∀ e ∈ l, c.ok (g e) ∧ ∀ Q : Bool → Mm → Prop, Q (p e) M → tt (c.set (g e) δ) M Q := fun e he => h1 e (List.mem_cons_of_mem _ he)
    have r2 : ∀ e ∈ l, p e = true → ∀ Q : DK, Q (f e) M → te (c.set (g e) δ) M Q := fun e he => h2 e (List.mem_cons_of_mem _ he)
    cases e : p x with
    | true =>
      rw [List.filter_cons_of_pos e, List.map_cons] at h
      exact h2 x List.mem_cons_self e _ (lcD_map p f r1 r2 h)
    | false =>
      rw [List.filter_cons_of_neg (by rw [e]; exact Bool.false_ne_true)] at h
      exact lcD_map p f r1 r2 h
/-- .. without a test -/
theorem lcD_all {α : Type} {c : CT} {te : DTE} {δ : De} {M : Mm} {g : α → Da} (f : α → Da) {l : List α} {k : List Da → Mm → Prop} (h1 : ∀ x ∈ l, c.ok (g x)) (h2 : ∀ x ∈ l, ∀ Q : DK, Q (f x) M → te (c.set (g x) δ) M Q)
    (h : k (l.map f) M) : lcD c gYes te δ (l.map g) k M :=
  lcD_map (fun _ => true) f (fun x hx => ⟨h1 x hx, fun Q q => q⟩) (fun x hx _ => h2 x hx) (by rw [List.filter_eq_self.mpr (fun _ _ => rfl)]; exact h)
/-- one that may change the memory: I by what is still to come and what was made -/
theorem lcD_st {α : Type} {c : CT} {te : DTE} {δ : De} {g : α → Da} {k : List Da → Mm → Prop} (I : List α → List Da → Mm → Prop) (ho : ∀ x, c.ok (g x))
    (hs : ∀ x l acc M, I (x :: l) acc M → ∀ Q : DK, (∀ y M', I l (acc ++ [y]) M' → Q y M') → te (c.set (g x) δ) M Q) (hn : ∀ acc M, I [] acc M → k acc M) : ∀ {l : List α} {acc : List Da} {M : Mm}, I l acc M → lcD c gYes te δ (l.map g) (fun ys M' => k (acc ++ ys) M') M
  | [], acc, M, h => by
    show k (acc ++ []) M
    rw [List.append_nil]; exact hn acc M h
  | x :: l, acc, M, h => ⟨ho x, hs x l acc M h _ fun y M' h' => by
      have e : (fun ys M' => k (acc ++ y :: ys) M') = fun ys M' => k ((acc ++ [y]) ++ ys) M' := by funext ys M'; rw [List.append_assoc]; rfl
      show lcD c gYes te δ (l.map g) (fun ys M' => k (acc ++ y :: ys) M') M'
      rw [e]
      exact lcD_st I ho hs hn h'⟩
/-- a loop over numbers from 0 on: I by how many are done -/
theorem forD_rng {g : DTG} {tb : DTS} {D : DEnds} {n : Nat} (I : Nat → De → Mm → Prop)
    (hs : ∀ (j : Nat) δ M (NX : De → Mm → Prop), j < n → I j δ M → (∀ δ' M', I (j + 1) δ' M' → NX δ' M') → g (.int (j : Int)) δ M fun δ2 M2 => tb { D with nx := NX, ct := NX, bk := D.nx } δ2 M2)
    (hn : ∀ δ M, I n δ M → D.nx δ M) {δ : De} {M : Mm} (h : I 0 δ M) : forD g tb D (rngD 0 n) δ M := by
  rw [rngD0, List.range_eq_range']
  have go : ∀ (k j : Nat) δ M, j + k = n → I j δ M → forD g tb D ((List.range' j k).map fun i : Nat => Da.int (i : Int)) δ M := by
    intro k
    induction k with
    | zero => intro j δ M e h; have e : j = n := by omega
              subst e; exact hn δ M h
    | succ k ih => intro j δ M e h; exact hs j δ M _ (by omega) h fun δ' M' h' => ih (j + 1) δ' M' (by omega) h'
  exact go n 0 δ M (by omega) h
/-- a loop over a list -/
theorem forD_lst {α : Type} {g : DTG} {tb : DTS} {D : DEnds} {f : α → Da} {l : List α} (I : Nat → De → Mm → Prop)
    (hs : ∀ (j : Nat) x δ M (NX : De → Mm → Prop), l[j]? = some x → I j δ M → (∀ δ' M', I (j + 1) δ' M' → NX δ' M') → g (f x) δ M fun δ2 M2 => tb { D with nx := NX, ct := NX, bk := D.nx } δ2 M2)
    (hn : ∀ δ M, I l.length δ M → D.nx δ M) {δ : De} {M : Mm} (h : I 0 δ M) : forD g tb D (l.map f) δ M := by
  have go : ∀ (k : List α) (j : Nat) δ M, j ≤ l.length → l.drop j = k → I j δ M → forD g tb D (k.map f) δ M := by
    intro k
    induction k with
    | nil =>
      intro j δ M hl e h
      have e2 : j = l.length := by
        have := congrArg List.length e
        rw [List.length_drop] at this
        simp at this
        omega
      subst e2; exact hn δ M h
    | cons x k ih =>
      intro j δ M hl e h
      have hj : j < l.length := by
        apply Classical.byContradiction
        intro z
        rw [List.drop_eq_nil_of_le (by omega)] at e
        cases e
      rw [List.drop_eq_getElem_cons hj] at e
      cases e
      exact hs j _ δ M _ (List.getElem?_eq_getElem hj) h fun δ' M' h' => ih (j + 1) δ' M' hj rfl h'
  exact go l 0 δ M (Nat.zero_le _) rfl h
/-! ### == -/
mutual
theorem eqD_refl : ∀ x : Da, PyData.eqv (toP x) (toP x) = true
  | .non => by simp [toP, PyData.eqv]
  | .bl b => by simp [toP, PyData.eqv]
  | .int i => by simp [toP, PyData.eqv]
  | .str x => by simp [toP, PyData.eqv]
  | .ty x => by simp [toP, PyData.eqv]
  | .obj C x => by simp [toP, PyData.eqv]
  | .ref x => by simp [toP, PyData.eqv]
  | .dct x => by simp [toP, PyData.eqv]
  | .lst xs => by simp only [toP, PyData.eqv]; exact eqDs_refl xs
  | .tup xs => by simp only [toP, PyData.eqv]; exact eqDs_refl xs
theorem eqDs_refl : ∀ xs : List Da, PyData.eqvAll (toPs xs) (toPs xs) = true
  | [] => by simp [toPs, PyData.eqvAll]
  | x :: xs => by simp only [toPs, PyData.eqvAll, Bool.and_eq_true]; exact ⟨eqD_refl x, eqDs_refl xs⟩
end
theorem eqD_same (x : Da) : eqD x x = true := eqD_refl x
theorem flatD_ints : ∀ ns : List Int, (toPs (ns.map Da.int)).all flatD = true
  | [] => rfl
  | n :: ns => by
    show (flatD (.int n) && (toPs (ns.map Da.int)).all flatD) = true
    rw [flatD_ints ns]; rfl
theorem pures_ints : ∀ ns : List Int, pures? (ns.map Da.int) = true
  | [] => rfl
  | n :: ns => by
    show (true && pures? (ns.map Da.int)) = true
    rw [pures_ints ns]; rfl
theorem okD_ints (ns : List Int) : okD (.lst (ns.map Da.int)) = true := by
  unfold okD
  rw [show pure? (.lst (ns.map Da.int)) = true from pures_ints ns, Bool.true_and]
  exact shaped_list (flatD_ints ns)
theorem okD_tup (ns : List Int) : okD (.tup (ns.map Da.int)) = true := by
  unfold okD
  rw [show pure? (.tup (ns.map Da.int)) = true from pures_ints ns, Bool.true_and]
  exact shaped_tuple (flatD_ints ns)
/-! ### the head -/
theorem rds_ints {K : PySem.W.Frag} {W : Addr → Prop} {H : Hp} : ∀ ns : List Int, RDs K W H (ns.map V.int) (ns.map Da.int)
  | [] => .nil
  | n :: ns => .cons (.int n) (rds_ints ns)
theorem start_state {K : PySem.W.Frag} {H : Hp} {a : Addr} {ns : List Int} (hS : SqL K H a (ns.map V.int)) : Stt K NoF (fun b => ∃ o, H b = some o) (fun _ => none) H ∧ RDs K (fun b => ∃ o, H b = some o) H [.ref a] [.lst (ns.map Da.int)] := by
  refine ⟨⟨fun a w => w, fun a w => w.elim, fun a o e => (nomatch e), fun a o e => (nomatch e)⟩, .cons (.lst (vs := ns.map V.int) ?_ (rds_ints ns)) .nil⟩
  rcases hS with h | h
  · refine .inl ⟨?_, h⟩
    rcases h with h | ⟨o, h⟩
    · exact ⟨_, h⟩
    · exact ⟨_, h⟩
  · exact .inr (.inr h)
/-- the law's promise -/
def spLawD : DSp := fun ds M Q _ => ∃ ns : List Int, ds = [.lst (ns.map Da.int)] ∧ ns.length ≤ 63 ∧ ∀ M', Q (.bl true) M'
theorem ex1 {α : Type} {a : α} : ∃ x, x = a := ⟨a, rfl⟩
end U
set_option Elab.async false
set_option linter.all false
set_option maxRecDepth 100000
set_option maxHeartbeats 2000000
/-! Relations as numbers: their bits. -/
namespace U
open PySem PySem.Spec PyProof.Rows L2
/-- the number with these bits below N -/
def ofB (f : Nat → Bool) : Nat → Nat
  | 0 => 0
  | n + 1 => ofB f n + if f n = true then 2 ^ n else 0
theorem ofB_lt (f : Nat → Bool) : ∀ n, ofB f n < 2 ^ n
  | 0 => Nat.one_pos
  | n + 1 => by
    have := ofB_lt f n
    unfold ofB
    rw [Nat.pow_succ]
    split <;> omega
theorem testBit_ofB (f : Nat → Bool) : ∀ n k, (ofB f n).testBit k = (decide (k < n) && f k)
  | 0, k => by simp [ofB]
  | n + 1, k => by
    have ih := testBit_ofB f n k
    have lt := ofB_lt f n
    unfold ofB
    cases h : f n with
    | false =>
      rw [if_neg (by decide), Nat.add_zero, ih]
      by_cases e : k = n
      · subst e; simp [h]
      · have : decide (k < n + 1) = decide (k < n) := by congr 1; apply propext; omega
        rw [this]
    | true =>
      rw [if_pos rfl, Nat.add_comm]
      by_cases e : k = n
      · subst e
        rw [Nat.testBit_two_pow_add_eq, Nat.testBit_lt_two_pow lt]
        simp [h]
      · by_cases l : k < n
        · rw [Nat.testBit_two_pow_add_gt l, ih]
          have : decide (k < n + 1) = decide (k < n) := by congr 1; apply propext; omega
          rw [this]
        · have hk : n + 1 ≤ k := by omega
          have : 2 ^ n + ofB f n < 2 ^ k := by
            have h1 : 2 ^ (n + 1) ≤ 2 ^ k := Nat.pow_le_pow_right (by decide) hk
            rw [Nat.pow_succ] at h1
            omega
          rw [Nat.testBit_lt_two_pow this]
          have : decide (k < n + 1) = false := decide_eq_false (by omega)
          rw [this]
          rfl
theorem ofB_congr {f g : Nat → Bool} : ∀ {n}, (∀ k < n, f k = g k) → ofB f n = ofB g n
  | 0, _ => rfl
  | n + 1, h => by unfold ofB; rw [ofB_congr fun k hk => h k (by omega), h n (by omega)]
/-- a number by its bits -/
theorem ofB_self {r n : Nat} (h : r < 2 ^ n) : ofB (fun k => r.testBit k) n = r := by
  apply Nat.eq_of_testBit_eq
  intro k
  rw [testBit_ofB]
  by_cases l : k < n
  · rw [decide_eq_true l, Bool.true_and]
  · rw [decide_eq_false l, Bool.false_and, Nat.testBit_lt_two_pow (Nat.lt_of_lt_of_le h (Nat.pow_le_pow_right (by decide) (by omega)))]
theorem bits_eq {a b n : Nat} (ha : a < 2 ^ n) (hb : b < 2 ^ n) (h : ∀ k < n, a.testBit k = b.testBit k) : a = b := by
  apply Nat.eq_of_testBit_eq
  intro k
  by_cases l : k < n
  · exact h k l
  · have hp : 2 ^ n ≤ 2 ^ k := Nat.pow_le_pow_right (by decide) (by omega)
    rw [Nat.testBit_lt_two_pow (Nat.lt_of_lt_of_le ha hp), Nat.testBit_lt_two_pow (Nat.lt_of_lt_of_le hb hp)]
theorem has_bit (r k : Nat) : decide ((r : Int) / ((2 ^ k : Nat) : Int) % 2 = 1) = r.testBit k := by
  rw [Nat.testBit_eq_decide_div_mod_eq]
  congr 1
  apply propext
  have : ((r : Int) / ((2 ^ k : Nat) : Int)) % 2 = ((r / 2 ^ k % 2 : Nat) : Int) := by simp
  rw [this]
  omega
theorem or_bits {n a b : Nat} (ha : a < 2 ^ n) (hb : b < 2 ^ n) : a ||| b < 2 ^ n := Nat.or_lt_two_pow ha hb
/-- different bits, added -/
theorem sum_pow : ∀ {cs : List Nat} {n : Nat}, cs.Nodup → (∀ c ∈ cs, c < n) → (cs.map (2 ^ ·)).sum = ofB (fun k => cs.contains k) n
  | [], n, _, _ => by
    have : ∀ n, ofB (fun k => ([] : List Nat).contains k) n = 0 := fun n => by
      induction n with
      | zero => rfl
      | succ n ih => unfold ofB; rw [ih]; rfl
    rw [this]; rfl
  | c :: cs, n, nd, h => by
    have nd' := List.nodup_cons.mp nd
    rw [List.map_cons, List.sum_cons, sum_pow nd'.2 fun d hd => h d (List.mem_cons_of_mem _ hd)]
    have hc : c < n := h c List.mem_cons_self
    have key : ∀ m, c < m → 2 ^ c + ofB (fun k => cs.contains k) m = ofB (fun k => (c :: cs).contains k) m := by
      intro m
      induction m with
      | zero => intro z; omega
      | succ m ih =>
        intro hm
        unfold ofB
        by_cases e : c = m
        · subst e
          have h1 : cs.contains c = false := by simpa using nd'.1
          have h2 : (c :: cs).contains c = true := by simp
          rw [h1, h2, if_neg (by decide), if_pos rfl, Nat.add_zero]
          have : ofB (fun k => (c :: cs).contains k) c = ofB (fun k => cs.contains k) c := ofB_congr fun k hk => by
            have : (k == c) = false := by simpa using Nat.ne_of_lt hk
            rw [List.contains_cons, this, Bool.false_or]
          rw [this]
          omega
        · have h1 : (c :: cs).contains m = cs.contains m := by
            have : (m == c) = false := by simpa using fun z => e z.symm
            rw [List.contains_cons, this, Bool.false_or]
          rw [h1, ← ih (by omega)]
          omega
    exact key n hc
theorem sum_int (cs : List Nat) : (cs.map fun c => ((2 ^ c : Nat) : Int)).sum = (((cs.map (2 ^ ·)).sum : Nat) : Int) := by
  induction cs with
  | nil => rfl
  | cons c cs ih => rw [List.map_cons, List.sum_cons, ih, List.map_cons, List.sum_cons, Int.natCast_add]
/-! ### relations of n modes and E ends -/
def led (n E a b m e : Nat) : Bool := (e == n && a.testBit (m * E + e)) || (List.range n).any fun v => a.testBit (m * E + v) && b.testBit (v * E + e)
def aft (n E a b : Nat) : Nat := ofB (fun k => led n E a b (k / E) (k % E)) (n * E)
def sam (n E : Nat) : Nat := ofB (fun k => k / E == k % E) (n * E)
theorem cell_le {n E m e : Nat} (hm : m < n) (he : e < E) : m * E + e < n * E := by
  have h1 : m * E ≤ (n - 1) * E := Nat.mul_le_mul_right _ (by omega)
  have h2 : (n - 1) * E + E = n * E := by rw [← Nat.succ_mul]; congr 1; omega
  omega
theorem cell_div {E m e : Nat} (he : e < E) : (m * E + e) / E = m := by rw [Nat.mul_comm, Nat.mul_add_div (by omega), Nat.div_eq_of_lt he, Nat.add_zero]
theorem cell_mod {E m e : Nat} (he : e < E) : (m * E + e) % E = e := by rw [Nat.mul_comm, Nat.mul_add_mod, Nat.mod_eq_of_lt he]
theorem led_iff {n E a b m e : Nat} : led n E a b m e = true ↔ (e = n ∧ a.testBit (m * E + e) = true) ∨ ∃ v, v < n ∧ a.testBit (m * E + v) = true ∧ b.testBit (v * E + e) = true := by
  unfold led
  simp only [Bool.or_eq_true, Bool.and_eq_true, List.any_eq_true, List.mem_range, beq_iff_eq]
theorem aft_lt {n E a b : Nat} : aft n E a b < 2 ^ (n * E) := ofB_lt _ _
theorem sam_lt {n E : Nat} : sam n E < 2 ^ (n * E) := ofB_lt _ _
theorem aft_bit {n E a b m e : Nat} (hm : m < n) (he : e < E) : (aft n E a b).testBit (m * E + e) = led n E a b m e := by
  unfold aft
  rw [testBit_ofB, decide_eq_true (cell_le hm he), Bool.true_and, cell_div he, cell_mod he]
theorem sam_bit {n E m e : Nat} (hm : m < n) (he : e < E) : (sam n E).testBit (m * E + e) = (m == e) := by
  unfold sam
  rw [testBit_ofB, decide_eq_true (cell_le hm he), Bool.true_and, cell_div he, cell_mod he]
/-- equal cell by cell -/
theorem cells_eq {n E a b : Nat} (hE : 0 < E) (ha : a < 2 ^ (n * E)) (hb : b < 2 ^ (n * E)) (h : ∀ m e, m < n → e < E → (a.testBit (m * E + e) = true ↔ b.testBit (m * E + e) = true)) : a = b := by
  refine bits_eq ha hb fun k hk => ?_
  have h1 : k / E < n := (Nat.div_lt_iff_lt_mul hE).mpr hk
  have h2 := Nat.mod_lt k hE
  have h3 := h _ _ h1 h2
  have e : k / E * E + k % E = k := by rw [Nat.mul_comm]; exact Nat.div_add_mod k E
  rw [e] at h3
  cases c : a.testBit k <;> cases d : b.testBit k <;> simp_all
section
variable {n E a b c : Nat} (hE : 0 < E) (hn : n ≤ E)
include hE hn
theorem aft_assoc : aft n E (aft n E a b) c = aft n E a (aft n E b c) := by
  refine cells_eq hE aft_lt aft_lt fun m e hm he => ?_
  rw [aft_bit hm he, aft_bit hm he, led_iff, led_iff]
  constructor
  · rintro (⟨h1, h2⟩ | ⟨v, h1, h2, h3⟩)
    · rw [aft_bit hm he, led_iff] at h2
      rcases h2 with h2 | ⟨u, h4, h5, h6⟩
      · exact .inl h2
      · exact .inr ⟨u, h4, h5, by rw [aft_bit h4 he, led_iff]; exact .inl ⟨h1, h6⟩⟩
    · rw [aft_bit hm (by omega), led_iff] at h2
      rcases h2 with h2 | ⟨u, h4, h5, h6⟩
      · omega
      · exact .inr ⟨u, h4, h5, by rw [aft_bit h4 he, led_iff]; exact .inr ⟨v, h1, h6, h3⟩⟩
  · rintro (h | ⟨u, h1, h2, h3⟩)
    · exact .inl ⟨h.1, by rw [aft_bit hm he, led_iff]; exact .inl h⟩
    · rw [aft_bit h1 he, led_iff] at h3
      rcases h3 with h3 | ⟨v, h4, h5, h6⟩
      · exact .inl ⟨h3.1, by rw [aft_bit hm he, led_iff]; exact .inr ⟨u, h1, h2, h3.2⟩⟩
      · exact .inr ⟨v, h4, by rw [aft_bit hm (by omega), led_iff]; exact .inr ⟨u, h1, h2, h5⟩, h6⟩
theorem aft_same (hn1 : E ≤ n + 1) (ha : a < 2 ^ (n * E)) : aft n E a (sam n E) = a := by
  refine cells_eq hE aft_lt ha fun m e hm he => ?_
  rw [aft_bit hm he, led_iff]
  constructor
  · rintro (h | ⟨v, h1, h2, h3⟩)
    · exact h.2
    · rw [sam_bit h1 he] at h3
      have : v = e := by simpa using h3
      subst this
      exact h2
  · intro h
    by_cases l : e < n
    · exact .inr ⟨e, l, h, by rw [sam_bit l he]; simp⟩
    · exact .inl ⟨by omega, h⟩
theorem same_aft (ha : a < 2 ^ (n * E)) : aft n E (sam n E) a = a := by
  refine cells_eq hE aft_lt ha fun m e hm he => ?_
  rw [aft_bit hm he, led_iff]
  constructor
  · rintro (⟨h1, h2⟩ | ⟨v, h1, h2, h3⟩)
    · rw [sam_bit hm he] at h2
      have : m = e := by simpa using h2
      omega
    · rw [sam_bit hm (by omega)] at h2
      have : m = v := by simpa using h2
      subst this
      exact h3
  · intro h
    exact .inr ⟨m, hm, by rw [sam_bit hm (by omega)]; simp, h⟩
theorem aft_or (hb : b < 2 ^ (n * E)) (hc : c < 2 ^ (n * E)) : aft n E a (b ||| c) = aft n E a b ||| aft n E a c := by
  refine cells_eq hE aft_lt (or_bits aft_lt aft_lt) fun m e hm he => ?_
  rw [Nat.testBit_or, aft_bit hm he, aft_bit hm he, aft_bit hm he, Bool.or_eq_true, led_iff, led_iff, led_iff]
  constructor
  · rintro (h | ⟨v, h1, h2, h3⟩)
    · exact .inl (.inl h)
    · rw [Nat.testBit_or, Bool.or_eq_true] at h3
      rcases h3 with h3 | h3
      · exact .inl (.inr ⟨v, h1, h2, h3⟩)
      · exact .inr (.inr ⟨v, h1, h2, h3⟩)
  · rintro ((h | ⟨v, h1, h2, h3⟩) | (h | ⟨v, h1, h2, h3⟩))
    · exact .inl h
    · exact .inr ⟨v, h1, h2, by rw [Nat.testBit_or, h3, Bool.true_or]⟩
    · exact .inl h
    · exact .inr ⟨v, h1, h2, by rw [Nat.testBit_or, h3, Bool.or_true]⟩
theorem or_aft : aft n E (a ||| b) c = aft n E a c ||| aft n E b c := by
  refine cells_eq hE aft_lt (or_bits aft_lt aft_lt) fun m e hm he => ?_
  rw [Nat.testBit_or, aft_bit hm he, aft_bit hm he, aft_bit hm he, Bool.or_eq_true, led_iff, led_iff, led_iff]
  constructor
  · rintro (⟨h, h2⟩ | ⟨v, h1, h2, h3⟩)
    · rw [Nat.testBit_or, Bool.or_eq_true] at h2
      rcases h2 with h2 | h2
      · exact .inl (.inl ⟨h, h2⟩)
      · exact .inr (.inl ⟨h, h2⟩)
    · rw [Nat.testBit_or, Bool.or_eq_true] at h2
      rcases h2 with h2 | h2
      · exact .inl (.inr ⟨v, h1, h2, h3⟩)
      · exact .inr (.inr ⟨v, h1, h2, h3⟩)
  · rintro ((h | ⟨v, h1, h2, h3⟩) | (h | ⟨v, h1, h2, h3⟩))
    · exact .inl ⟨h.1, by rw [Nat.testBit_or, h.2, Bool.true_or]⟩
    · exact .inr ⟨v, h1, by rw [Nat.testBit_or, h2, Bool.true_or], h3⟩
    · exact .inl ⟨h.1, by rw [Nat.testBit_or, h.2, Bool.or_true]⟩
    · exact .inr ⟨v, h1, by rw [Nat.testBit_or, h2, Bool.or_true], h3⟩
/-- what is done at the watched end -/
def dne (n E a : Nat) : Nat := ofB (fun k => a.testBit k && (k % E == n)) (n * E)
omit hn hE in
theorem dne_lt : dne n E a < 2 ^ (n * E) := ofB_lt _ _
omit hn hE in
theorem dne_bit {m e : Nat} (hm : m < n) (he : e < E) : (dne n E a).testBit (m * E + e) = (a.testBit (m * E + e) && (e == n)) := by
  unfold dne
  rw [testBit_ofB, decide_eq_true (cell_le hm he), Bool.true_and, cell_mod he]
theorem dne_within : dne n E a ||| aft n E a b = aft n E a b := by
  refine cells_eq hE (or_bits dne_lt aft_lt) aft_lt fun m e hm he => ?_
  rw [Nat.testBit_or, Bool.or_eq_true, dne_bit hm he, aft_bit hm he, led_iff]
  constructor
  · rintro (h | h)
    · rw [Bool.and_eq_true] at h
      exact .inl ⟨by simpa using h.2, h.1⟩
    · exact h
  · exact .inr
theorem aft_zero : aft n E a 0 = dne n E a := by
  refine cells_eq hE aft_lt dne_lt fun m e hm he => ?_
  rw [dne_bit hm he, aft_bit hm he, led_iff, Bool.and_eq_true]
  constructor
  · rintro (h | ⟨v, h1, h2, h3⟩)
    · exact ⟨h.2, by simpa using h.1⟩
    · rw [Nat.zero_testBit] at h3; cases h3
  · rintro ⟨h1, h2⟩
    exact .inl ⟨by simpa using h2, h1⟩
theorem zero_aft : aft n E 0 a = 0 := by
  refine cells_eq hE aft_lt (Nat.pow_pos (by decide)) fun m e hm he => ?_
  rw [aft_bit hm he, led_iff, Nat.zero_testBit]
  constructor
  · rintro (h | ⟨v, h1, h2, h3⟩)
    · exact h.2
    · rw [Nat.zero_testBit] at h2; cases h2
  · intro h; cases h
end
theorem nodup_le : ∀ {n : Nat} {cs : List Nat}, cs.Nodup → (∀ c ∈ cs, c < n) → cs.length ≤ n
  | 0, [], _, _ => Nat.le_refl _
  | 0, c :: cs, _, h => absurd (h c List.mem_cons_self) (by omega)
  | n + 1, cs, nd, h => by
    have ih := nodup_le (n := n) (cs := cs.erase n) (nd.erase n) fun c hc => by
      have := (nd.mem_erase_iff).mp hc
      have := h c this.2
      omega
    by_cases hm : n ∈ cs
    · rw [List.length_erase_of_mem hm] at ih; omega
    · rw [List.erase_of_not_mem hm] at ih; omega
theorem sum_len {α : Type} {f : α → List Nat} {b : Nat} : ∀ {l : List α}, (∀ x ∈ l, (f x).length ≤ b) → (l.flatMap f).length ≤ b * l.length
  | [], _ => by simp
  | x :: l, h => by
    rw [List.flatMap_cons, List.length_append, List.length_cons, Nat.mul_succ]
    have h1 := h x List.mem_cons_self
    have h2 := sum_len (f := f) (l := l) fun y hy => h y (List.mem_cons_of_mem _ hy)
    omega
theorem bit_lt {a k n : Nat} (ha : a < 2 ^ n) (h : a.testBit k = true) : k < n := by
  apply Classical.byContradiction
  intro z
  have hp : 2 ^ n ≤ 2 ^ k := Nat.pow_le_pow_right (by decide) (by omega)
  rw [Nat.testBit_lt_two_pow (Nat.lt_of_lt_of_le ha hp)] at h
  cases h
theorem div_mod (k E : Nat) : k / E * E + k % E = k := by rw [Nat.mul_comm]; exact Nat.div_add_mod k E
end U
set_option Elab.async false
set_option linter.all false
set_option maxRecDepth 100000
set_option maxHeartbeats 2000000
/-! Readings over plain data: more of rows, dicts, repr. -/
namespace U
open PySem PySem.Spec PyProof.Rows L2
section
variable {X : Cx} {a b c e : Expr} {es rest : List Expr} {fa fb fc f : DTE} {fs : DTA} {pos p : Pos}
/-- {} that changes no more -/
def gDct0 : DTE := fun _ M Q => Q (.dct []) M
def gDct0M : DTE := fun _ M Q => ∀ p, M p = none → Q (.ref p) (mput M p (.dct []))
theorem d_dct0 : DE X (.Dict [] [] pos) gDct0 := imp pe_dnewK fun σ H Q ⟨δ, F, W, M, Qd, ev, s, h, k⟩ => fun p hp => by
  obtain ⟨s1, g1⟩ := s.new hp (.dK [])
  exact (k.mono g1).now s1 (.dct (.inl rfl) upd_same .nil) h
theorem d_dct0M : DE X (.Dict [] [] pos) gDct0M := imp pe_dnewK fun σ H Q ⟨δ, F, W, M, Qd, ev, s, h, k⟩ => fun p hp =>
  (k.mono (grow_new s hp)).now (s.newM hp (.dct .nil)) (.ref p) (h p (s.freeM hp))
/-- repr of scalars -/
def kRepr : DC := fun xs M Q => match xs with
  | [.bl k] => Q (.str (if k then "True" else "False")) M
  | [.int i] => i.natAbs.log2 < 1920 ∧ Q (.str (toString i)) M
  | [.non] => Q (.str "None") M
  | _ => False
theorem c_drepr : CD X (.builtin "repr") kRepr := cd_imp fun vs H Q ⟨F, W, M, ds, Qd, r, s, h, k⟩ => by
  refine ⟨_, c_repr, ?_⟩
  unfold kRepr at h
  split at h
  · obtain ⟨v, rfl, r1⟩ := r.one; cases r1; exact k.now s (.str _) h
  · obtain ⟨v, rfl, r1⟩ := r.one; cases r1; exact ⟨h.1, k.now s (.str _) h.2⟩
  · obtain ⟨v, rfl, r1⟩ := r.one; cases r1; exact k.now s (.str _) h
  · exact h.elim
end
/-- two fors that change nothing -/
theorem lc2D_all {α β : Type} {c c1 : CT} {di1 : DTI} {te : DTE} {vs1 : List Nat} {δ : De} {M : Mm} {g : α → Da} (inn : α → List β) (h : β → Da) (f : α → β → Da) : ∀ {l : List α} {k : List Da → Mm → Prop},
    (∀ x ∈ l, c.ok (g x) ∧ Sr (inn x).length ∧ ∀ Q : List Da → Mm → Prop, Q ((inn x).map h) M → di1 (c.set (g x) δ) M Q) →
    (∀ x ∈ l, ∀ y ∈ inn x, c1.ok (h y) ∧ ∀ Q : DK, Q (f x y) M → te (c1.set (h y) (wipeD (c.set (g x) δ) vs1)) M Q) →
    k (l.flatMap fun x => (inn x).map (f x)) M → lc2D c gYes di1 c1 gYes te vs1 δ (l.map g) k M
  | [], k, _, _, q => q
  | x :: l, k, h1, h2, q => by
    obtain ⟨o, z, t⟩ := h1 x List.mem_cons_self
    refine ⟨o, t _ ⟨by rw [List.length_map]; exact z, ?_⟩⟩
    refine lcD_all (f x) (fun y hy => (h2 x List.mem_cons_self y hy).1) (fun y hy => (h2 x List.mem_cons_self y hy).2) ?_
    refine lc2D_all inn h f (fun y hy => h1 y (List.mem_cons_of_mem _ hy)) (fun y hy => h2 y (List.mem_cons_of_mem _ hy)) ?_
    rw [List.flatMap_cons] at q
    exact q
end U
set_option Elab.async false
set_option linter.all false
set_option maxRecDepth 100000
set_option maxHeartbeats 2000000
/-! Tables of relations, plain. -/
namespace U
theorem wit_tr {x y z : Nat} (h : x ||| y = y) (k : y ||| z = z) : x ||| z = z := by
  rw [← k, ← Nat.or_assoc, h]
def monoB (N : Nat) (ts : List Nat) : Bool := (List.range (2 ^ N)).all fun r => (List.range N).all fun k => decide (ts.getD r 0 ||| ts.getD (r ||| 2 ^ k) 0 = ts.getD (r ||| 2 ^ k) 0)
/-- by all pairs -/
def monoA (N : Nat) (ts : List Nat) : Bool := (List.range (2 ^ N)).all fun a => (List.range (2 ^ N)).all fun b => !(decide (a ||| b = b) && !decide (ts.getD a 0 ||| ts.getD b 0 = ts.getD b 0))
theorem monoB_iff {N : Nat} {ts : List Nat} : monoB N ts = true ↔ ∀ r < 2 ^ N, ∀ k < N, ts.getD r 0 ||| ts.getD (r ||| 2 ^ k) 0 = ts.getD (r ||| 2 ^ k) 0 := by
  unfold monoB
  simp only [List.all_eq_true, List.mem_range, decide_eq_true_eq]
theorem monoA_iff {N : Nat} {ts : List Nat} : monoA N ts = true ↔ ∀ a < 2 ^ N, ∀ b < 2 ^ N, a ||| b = b → ts.getD a 0 ||| ts.getD b 0 = ts.getD b 0 := by
  unfold monoA
  simp only [List.all_eq_true, List.mem_range, Bool.not_eq_true', Bool.and_eq_false_iff, decide_eq_false_iff_not, Bool.not_eq_false', decide_eq_true_eq]
  constructor
  · intro h a ha b hb e
    rcases h a ha b hb with z | z
    · exact absurd e z
    · exact z
  · intro h a ha b hb
    by_cases e : a ||| b = b
    · exact .inr (h a ha b hb e)
    · exact .inl e
theorem or_self_pow (r k : Nat) : r ||| (r ||| 2 ^ k) = r ||| 2 ^ k := by rw [← Nat.or_assoc, Nat.or_self]
theorem mono_eq (N : Nat) (ts : List Nat) : monoB N ts = monoA N ts := by
  rw [Bool.eq_iff_iff, monoB_iff, monoA_iff]
  constructor
  · intro h a ha b hb e
    have go : ∀ k, k ≤ N → ts.getD a 0 ||| ts.getD (a ||| ofB b.testBit k) 0 = ts.getD (a ||| ofB b.testBit k) 0 := by
      intro k
      induction k with
      | zero => intro _; show ts.getD a 0 ||| ts.getD (a ||| 0) 0 = ts.getD (a ||| 0) 0; rw [Nat.or_zero, Nat.or_self]
      | succ k ih =>
        intro hk
        have ih := ih (by omega)
        unfold ofB
        cases c : b.testBit k with
        | false => rw [if_neg (by decide), Nat.add_zero]; exact ih
        | true =>
          rw [if_pos rfl]
          have lt := ofB_lt b.testBit k
          have ek : ofB b.testBit k + 2 ^ k = ofB b.testBit k ||| 2 ^ k := by
            rw [Nat.add_comm, Nat.or_comm]
            exact Nat.two_pow_add_eq_or_of_lt lt 1 |> fun z => by simpa using z
          rw [ek, ← Nat.or_assoc]
          refine wit_tr ih (h _ ?_ k (by omega))
          exact Nat.or_lt_two_pow ha (Nat.lt_of_lt_of_le lt (Nat.pow_le_pow_right (by decide) (by omega)))
    have := go N (Nat.le_refl _)
    rw [ofB_self hb, e] at this
    exact this
  · intro h r hr k hk
    refine h r hr _ (Nat.or_lt_two_pow hr (Nat.pow_lt_pow_right (by decide) hk)) (or_self_pow r k)
/-- one around another -/
def compT (ts us : List Nat) : List Nat := us.map fun u => ts.getD u 0
theorem compT_get {ts us : List Nat} {r : Nat} (h : r < us.length) : (compT ts us).getD r 0 = ts.getD (us.getD r 0) 0 := by
  unfold compT
  rw [List.getD_eq_getElem?_getD, List.getElem?_map, List.getElem?_eq_getElem h, List.getD_eq_getElem?_getD (l := us), List.getElem?_eq_getElem h]
  rfl
theorem compT_assoc {N : Nat} {as bs cs : List Nat} (hb : bs.length = 2 ^ N) (hc : ∀ c ∈ cs, c < 2 ^ N) : compT (compT as bs) cs = compT as (compT bs cs) := by
  unfold compT
  rw [List.map_map]
  apply List.map_congr_left
  intro c h
  exact compT_get (by rw [hb]; exact hc c h)
theorem compT_mono {N : Nat} {as bs : List Nat} (hb : bs.length = 2 ^ N) (hb2 : ∀ b ∈ bs, b < 2 ^ N) (h1 : monoA N as = true) (h2 : monoA N bs = true) : monoA N (compT as bs) = true := by
  rw [monoA_iff] at *
  intro x hx y hy e
  have g : ∀ z < 2 ^ N, bs.getD z 0 < 2 ^ N := fun z hz => by
    rw [List.getD_eq_getElem?_getD, List.getElem?_eq_getElem (by omega)]
    exact hb2 _ (List.getElem_mem _)
  rw [compT_get (by omega), compT_get (by omega)]
  exact h1 _ (g x hx) _ (g y hy) (h2 x hx y hy e)
theorem or_le_iff {a b : Nat} : a ||| b = b ↔ ∀ k, a.testBit k = true → b.testBit k = true := by
  constructor
  · intro e k h
    rw [← e, Nat.testBit_or, h, Bool.true_or]
  · intro h
    apply Nat.eq_of_testBit_eq
    intro k
    rw [Nat.testBit_or]
    cases c : a.testBit k with
    | false => rw [Bool.false_or]
    | true => rw [h k c]; rfl
end U
set_option Elab.async false
set_option linter.all false
set_option maxRecDepth 100000
set_option maxHeartbeats 2000000
/-! == of plain data, what is forgotten. -/
namespace U
open PySem PySem.Spec PyProof.Rows L2
/-! ### what == may be asked, by the depth -/
structure okN (n : Nat) (x : Da) : Prop where
  p : pure? x = true
  c : PyData.canLay0 (toP x) = true
  d : PyData.depth (toP x) ≤ n
theorem okN.ok {n : Nat} {x : Da} (h : okN n x) (hn : n ≤ 64) : okD x = true := by
  unfold okD SeqAt.shaped
  rw [h.p, h.c, Bool.true_and, Bool.true_and]
  exact decide_eq_true (Nat.le_trans h.d hn)
theorem okN.mono {n m : Nat} {x : Da} (h : okN n x) (k : n ≤ m) : okN m x := ⟨h.p, h.c, Nat.le_trans h.d k⟩
theorem okN_non {n : Nat} : okN n .non := ⟨rfl, by simp [toP, PyData.canLay0], by simp [toP, PyData.depth]⟩
theorem okN_int {n : Nat} {i : Int} : okN n (.int i) := ⟨rfl, by simp [toP, PyData.canLay0], by simp [toP, PyData.depth]⟩
theorem okN_bl {n : Nat} {b : Bool} : okN n (.bl b) := ⟨rfl, by simp [toP, PyData.canLay0], by simp [toP, PyData.depth]⟩
theorem okN_str {n : Nat} {x : Str} (h : PyData.strOk x = true) : okN n (.str x) := ⟨rfl, by simp [toP, PyData.canLay0, h], by simp [toP, PyData.depth]⟩
theorem okNs {n : Nat} : ∀ {xs : List Da}, (∀ x ∈ xs, okN n x) → pures? xs = true ∧ PyData.canLayAll0 (toPs xs) = true ∧ PyData.depthAll (toPs xs) ≤ n
  | [], _ => ⟨rfl, by simp [toPs, PyData.canLayAll0], by simp [toPs, PyData.depthAll]⟩
  | x :: xs, h => by
    obtain ⟨h1, h2, h3⟩ := okNs (xs := xs) fun y hy => h y (List.mem_cons_of_mem _ hy)
    have hx := h x List.mem_cons_self
    refine ⟨?_, ?_, ?_⟩
    · show (pure? x && pures? xs) = true; rw [hx.p, h1]; rfl
    · simp only [toPs, PyData.canLayAll0, hx.c, h2, Bool.and_self]
    · have hd := hx.d
      simp only [toPs, PyData.depthAll]
      omega
theorem okN_tup {n : Nat} {xs : List Da} (h : ∀ x ∈ xs, okN n x) : okN (n + 1) (.tup xs) := by
  obtain ⟨h1, h2, h3⟩ := okNs h
  refine ⟨h1, ?_, ?_⟩
  · simp only [toP, PyData.canLay0, h2]
  · simp only [toP, PyData.depth]; omega
theorem okN_lst {n : Nat} {xs : List Da} (h : ∀ x ∈ xs, okN n x) : okN (n + 1) (.lst xs) := by
  obtain ⟨h1, h2, h3⟩ := okNs h
  refine ⟨h1, ?_, ?_⟩
  · simp only [toP, PyData.canLay0, h2]
  · simp only [toP, PyData.depth]; omega
theorem okN_ints {n : Nat} (ns : List Int) : ∀ x ∈ ns.map Da.int, okN n x := fun x hx => by
  obtain ⟨i, _, rfl⟩ := List.mem_map.mp hx; exact okN_int
theorem okN_tupI {n : Nat} (ns : List Int) : okN (n + 1) (tupI ns) := okN_tup (okN_ints ns)
theorem okD_tups {α : Type} (g : α → List Int) (l : List α) : okD (.lst (l.map fun x => tupI (g x))) = true := (okN_lst (n := 1) fun x hx => by
  obtain ⟨i, _, rfl⟩ := List.mem_map.mp hx; exact okN_tupI _).ok (by decide)
/-! ### plain data: == is equality -/
mutual
def plD : Da → Bool
  | .non | .int _ | .str _ => true
  | .lst xs => plDs xs
  | .tup xs => plDs xs
  | _ => false
def plDs : List Da → Bool
  | [] => true
  | x :: xs => plD x && plDs xs
end
mutual
theorem eqP_iff : ∀ {x y : Da}, plD x = true → plD y = true → (PyData.eqv (toP x) (toP y) = true ↔ x = y)
  | .non, y, _, h => by cases y <;> simp_all [plD, toP, PyData.eqv]
  | .int i, y, _, h => by cases y <;> simp_all [plD, toP, PyData.eqv]
  | .str i, y, _, h => by cases y <;> simp_all [plD, toP, PyData.eqv]
  | .lst xs, y, h1, h => by
    cases y with
    | lst ys => simp only [toP, PyData.eqv, Da.lst.injEq]; exact eqPs_iff h1 h
    | _ => simp_all [plD, toP, PyData.eqv]
  | .tup xs, y, h1, h => by
    cases y with
    | tup ys => simp only [toP, PyData.eqv, Da.tup.injEq]; exact eqPs_iff h1 h
    | _ => simp_all [plD, toP, PyData.eqv]
  | .bl _, _, h, _ => by simp [plD] at h
  | .ty _, _, h, _ => by simp [plD] at h
  | .obj _ _, _, h, _ => by simp [plD] at h
  | .ref _, _, h, _ => by simp [plD] at h
  | .dct _, _, h, _ => by simp [plD] at h
theorem eqPs_iff : ∀ {xs ys : List Da}, plDs xs = true → plDs ys = true → (PyData.eqvAll (toPs xs) (toPs ys) = true ↔ xs = ys)
  | [], [], _, _ => by simp [toPs, PyData.eqvAll]
  | [], y :: ys, _, _ => by simp [toPs, PyData.eqvAll]
  | x :: xs, [], _, _ => by simp [toPs, PyData.eqvAll]
  | x :: xs, y :: ys, h1, h2 => by
    have a := Bool.and_eq_true_iff.mp (show (plD x && plDs xs) = true from h1)
    have b := Bool.and_eq_true_iff.mp (show (plD y && plDs ys) = true from h2)
    simp only [toPs, PyData.eqvAll, Bool.and_eq_true, List.cons.injEq]
    rw [eqP_iff a.1 b.1, eqPs_iff a.2 b.2]
end
theorem eqD_iff {x y : Da} (h1 : plD x = true) (h2 : plD y = true) : eqD x y = true ↔ x = y := eqP_iff h1 h2
theorem eqD_dec {x y : Da} {p : Prop} [Decidable p] (h1 : plD x = true) (h2 : plD y = true) (h : x = y ↔ p) : eqD x y = decide p := by
  rw [Bool.eq_iff_iff, eqD_iff h1 h2, h, decide_eq_true_eq]
theorem plDs_of {xs : List Da} (h : ∀ x ∈ xs, plD x = true) : plDs xs = true := by
  induction xs with
  | nil => rfl
  | cons x xs ih =>
    show (plD x && plDs xs) = true
    rw [h x List.mem_cons_self, ih fun y hy => h y (List.mem_cons_of_mem _ hy)]; rfl
theorem plDs_ints (ns : List Int) : plDs (ns.map Da.int) = true := plDs_of fun x hx => by obtain ⟨i, _, rfl⟩ := List.mem_map.mp hx; rfl
theorem map_int_inj : ∀ {ns ms : List Int}, ns.map Da.int = ms.map Da.int → ns = ms
  | [], [], _ => rfl
  | n :: ns, m :: ms, h => by
    simp only [List.map_cons, List.cons.injEq, Da.int.injEq] at h
    rw [h.1, map_int_inj h.2]
  | [], _ :: _, h => by simp at h
  | _ :: _, [], h => by simp at h
theorem tupI_inj {ns ms : List Int} (h : tupI ns = tupI ms) : ns = ms := by
  unfold tupI at h
  exact map_int_inj (Da.tup.inj h)
theorem eqD_tupI (ns ms : List Int) : eqD (tupI ns) (tupI ms) = decide (ns = ms) := eqD_dec (plDs_ints ns) (plDs_ints ms) ⟨tupI_inj, fun e => by rw [e]⟩
/-! ### what is forgotten at a return -/
def Sub (M2 M1 : Mm) : Prop := ∀ a o, M2 a = some o → M1 a = some o
section
variable {X : Cx} {e : Expr} {f : DTE} {pos : Pos}
def hRetF (f : DTE) : DTS := fun D δ M => f δ M fun x M1 => ∃ M2, Sub M2 M1 ∧ D.rt x M2
theorem z_retF (he : DE X e f) : DS X (.Return (some e) pos) (hRetF f) := ps_imp (ps_ret he) fun D σ H ⟨δ, F, W, M, Dd, ev, s, h, k⟩ =>
  ⟨δ, F, W, M, _, ev, s, h, fun v H1 W1 d M1 g1 s1 r1 ⟨M2, sb, q⟩ => k.rt v H1 W1 d M2 g1 (s1.forget sb) r1 q⟩
def hDropF (t : DTS) : DTS := fun D δ M => ∃ M2, Sub M2 M ∧ t D δ M2
theorem z_forget {st : Stmt} {t : DTS} (h : DS X st t) : DS X st (hDropF t) := ps_imp h fun D σ H ⟨δ, F, W, M, Dd, ev, s, ⟨M2, sb, h⟩, k⟩ => ⟨δ, F, W, M2, Dd, ev, s.forget sb, h, k⟩
end
/-! ### list(range(n)), tuple(range(n)) -/
theorem rds_fun {K : PySem.W.Frag} {W : Addr → Prop} {H : Hp} {α : Type} (f : α → Int) : ∀ l : List α, RDs K W H (l.map fun i => V.int (f i)) (l.map fun i => Da.int (f i))
  | [] => .nil
  | _ :: l => .cons (.int _) (rds_fun f l)
def gLstRg (f : DTE) : DTE := fun δ M Q => f δ M fun x M1 => match x with
  | .int n => (0 ≤ n ∧ n ≤ 5000) ∧ Q (.lst (rngD 0 n.toNat)) M1
  | _ => False
def gTupRg (f : DTE) : DTE := fun δ M Q => f δ M fun x M1 => match x with
  | .int n => (0 ≤ n ∧ n ≤ 5000) ∧ Q (.tup (rngD 0 n.toNat)) M1
  | _ => False
section
variable {X : Cx} {a : Expr} {f : DTE} {pos pos2 p p2 : Pos}
theorem rg_ok {n : Int} (h : 0 ≤ n ∧ n ≤ 5000) : RgOk 0 n := ⟨by decide, by decide, by omega, by omega, by omega⟩
theorem rg_rds {K : PySem.W.Frag} {W : Addr → Prop} {H : Hp} {n : Int} : RDs K W H (rgV 0 n) (rngD 0 n.toNat) := by
  unfold rgV rngD
  rw [Int.sub_zero]
  exact rds_fun (fun i : Nat => (0 : Int) + (i : Nat)) _
theorem d_lstRg (hc : X.calm = true) (m1 : X.mg "list" = none) (m2 : X.mg "range" = none) (ha : DE X a f) (hg1 : Gl X "list" := by rfl) (hg2 : Gl X "range" := by rfl) (na : starEach [a] X.env = (false, eval a X.env) :: starEach [] X.env := by rfl)
    (na2 : starEach [.Call (.Name "range" p2) [a] [] pos2] X.env = (false, eval (.Call (.Name "range" p2) [a] [] pos2) X.env) :: starEach [] X.env := by rfl) : DE X (.Call (.Name "list" p) [.Call (.Name "range" p2) [a] [] pos2] [] pos) (gLstRg f) :=
  imp (pe_listRg hc hg1 m1 (prg_1 hg2 m2 ha na) na2) fun σ H Q ⟨δ, F, W, M, Qd, ev, s, h, k⟩ => ⟨δ, F, W, M, _, ev, s, h, fun v H1 W1 d M1 g1 s1 r1 q1 => by
    cases r1 <;> first | exact q1.elim | skip
    exact ⟨_, rfl, rg_ok q1.1, fun q hq => (k.mono g1).newL s1 hq rg_rds q1.2⟩⟩
theorem d_tupRg (hc : X.calm = true) (m1 : X.mg "tuple" = none) (m2 : X.mg "range" = none) (ha : DE X a f) (hg1 : Gl X "tuple" := by rfl) (hg2 : Gl X "range" := by rfl) (na : starEach [a] X.env = (false, eval a X.env) :: starEach [] X.env := by rfl)
    (na2 : starEach [.Call (.Name "range" p2) [a] [] pos2] X.env = (false, eval (.Call (.Name "range" p2) [a] [] pos2) X.env) :: starEach [] X.env := by rfl) : DE X (.Call (.Name "tuple" p) [.Call (.Name "range" p2) [a] [] pos2] [] pos) (gTupRg f) :=
  imp (pe_tupRg hc hg1 m1 (prg_1 hg2 m2 ha na) na2) fun σ H Q ⟨δ, F, W, M, Qd, ev, s, h, k⟩ => ⟨δ, F, W, M, _, ev, s, h, fun v H1 W1 d M1 g1 s1 r1 q1 => by
    cases r1 <;> first | exact q1.elim | skip
    exact ⟨_, rfl, rg_ok q1.1, fun q hq => (k.mono g1).newT s1 hq rg_rds q1.2⟩⟩
end
/-- all but d stands, maybe more -/
def Kx (d : Addr) (M M' : Mm) : Prop := ∀ p o, p ≠ d → M p = some o → M' p = some o
theorem Kx.refl {d : Addr} {M : Mm} : Kx d M M := fun _ _ _ h => h
theorem Kx.trans {d : Addr} {M M1 M2 : Mm} (a : Kx d M M1) (b : Kx d M1 M2) : Kx d M M2 := fun p o h q => b p o h (a p o h q)
theorem Kx.put {d p : Addr} {M M' : Mm} {o : MO} (a : Kx d M M') (h : M' p = none) : Kx d M (mput M' p o) := fun q u n e => by
  rw [mput_ne (fun z => by subst z; rw [a q u n e] at h; cases h)]; exact a q u n e
/-- something that was not there is changed -/
theorem Kx.chg {d p : Addr} {M M' : Mm} {o : MO} (a : Kx d M M') (h : M p = none) : Kx d M (mput M' p o) := fun q u n e => by
  rw [mput_ne (fun z => by subst z; rw [h] at e; cases e)]; exact a q u n e
theorem Kx.del {d p : Addr} {M M' : Mm} (a : Kx d M M') (h : M p = none) : Kx d M (mdel M' p) := fun q u n e => by
  unfold mdel
  rw [if_neg (fun z => by subst z; rw [h] at e; cases e)]; exact a q u n e
theorem Kx.of {d : Addr} {M M' : Mm} (h : ∀ p, p ≠ d → M' p = M p) : Kx d M M' := fun p o n e => (h p n).trans e
theorem mdel_ne {M : Mm} {a b : Addr} (h : b ≠ a) : mdel M a b = M b := by unfold mdel; rw [if_neg h]
/-- a comprehension that may change the memory -/
theorem lcD_st0 {α : Type} {c : CT} {te : DTE} {δ : De} {g : α → Da} {k : List Da → Mm → Prop} (I : List α → List Da → Mm → Prop) {l : List α} {M : Mm} (h : I l [] M) (ho : ∀ x, c.ok (g x))
    (hs : ∀ x l acc M, I (x :: l) acc M → ∀ Q : DK, (∀ y M', I l (acc ++ [y]) M' → Q y M') → te (c.set (g x) δ) M Q) (hn : ∀ acc M, I [] acc M → k acc M) : lcD c gYes te δ (l.map g) k M :=
  lcD_st (acc := []) I ho hs hn h
theorem Kx.back {d : Addr} {M M' : Mm} (a : Kx d M M') : ∃ M2, Sub M2 M' ∧ (∀ p, p ≠ d → M2 p = M p) ∧ M2 d = M' d := by
  refine ⟨fun p => if p = d then M' d else M p, fun p o h => ?_, fun p h => if_neg h, if_pos rfl⟩
  by_cases e : p = d
  · simp only [if_pos e] at h; rw [e]; exact h
  · simp only [if_neg e] at h; exact a p o e h
end U
set_option Elab.async false
set_option linter.all false
set_option maxRecDepth 100000
set_option maxHeartbeats 2000000
/-! set(x) of a tuple of tuples of ints. -/
namespace US0
open PySem PySem.Spec PyProof.Rows L2
section
variable {P : Program} {w : World} {A : Around} {E : Value → Shared → Prop} {s : Shared}
theorem call_set_tupsT {l : Addr} {items : Array Value} (ks : List (Addr × List Int)) {Q : Value → Shared → Prop} (hh : A.handled = none) (hl : s.heap.IsTuple l items) (hit : items.toList = ks.map fun p => Value.ref p.1)
    (hk : ∀ p ∈ ks, IsT P w s.heap p.2 p.1) (hfew : ks.length < 64) (hu : A.units + 3 < cLine)
    (h : ∀ (h' : Heap) (tk : Nat) L es ep t, SetTR P w h' s.heap.objs.size L es ep t → Got ks ks.length L → (∀ b o, s.heap.get? b = some o → h'.get? b = some o) → Q (.ref s.heap.objs.size) { s with heap := h', toks := tk }) :
    wpAny (model P w) A (call (.type "set") [.ref l]) Q E s := by
  have hisz : items.size = ks.length := by
    have q := congrArg List.length hit
    rw [Array.length_toList, List.length_map] at q
    exact q
  obtain ⟨c, tl, hmro⟩ := F.called_set.mro
  have hmade := F.called_set.made
  have hsub := F.called_set.sub
  refine wpAny_call (codeAny_of_tree ?_)
  show wpAny _ _ (callAny (.type "set") _) _ _ _
  refine wpAny_pure ⟨Code.quiet_builtin _ (by decide +kernel), codeAny_builtin F.entry_type_call ?_⟩
  rw [Around.under_plain (weight_type_call_type "set" [.ref l] []) rfl]
  have h1 := F.called_set.notType
  have h2 := F.called_set.canCreate
  have hct := F.typeCall_set_1 (.ref l)
  repeat (any_goals (first | assumption | wp_step))

  refine codeAny_mono (code_set_led1 (.ref l) (E := E) (Q₁ := fun obj s₁ => obj = .ref s.heap.objs.size ∧ s₁ = { s with heap := s.heap.push { cls := .type "set", dict := none, data := .set #[] 0 (.fresh 0 0 (!w.params.followText "set-order")) } }) ⟨rfl, rfl⟩) fun r s₁ hr => ?_
  cases r with
  | error e => exact hr
  | ok fl =>
    cases fl with
    | ret obj =>
      obtain ⟨rfl, rfl⟩ := hr
      have hS : (s.heap.push { cls := .type "set", dict := none, data := .set #[] 0 (.fresh 0 0 (!w.params.followText "set-order")) }).get? s.heap.objs.size = some { cls := .type "set", dict := none, data := .set #[] 0 (.fresh 0 0 (!w.params.followText "set-order")) } := Heap.get?_push_size _ rfl
      have hT : Shared.TypeIs { s with heap := s.heap.push { cls := .type "set", dict := none, data := .set #[] 0 (.fresh 0 0 (!w.params.followText "set-order")) } } (.ref s.heap.objs.size) "set" := ⟨_, hS, rfl⟩
      have hli := F.called_set.init.lookup
      have hbi := F.called_set.init.bind (.ref s.heap.objs.size)
      repeat (any_goals (first | assumption | wp_step))

      refine codeAny_mono (codeAny_call_builtin (R := wants (fun r s₂ => r = .none ∧ ∃ h' tk L es ep t, s₂ = { s with heap := h', toks := tk } ∧ SetTR P w h' s.heap.objs.size L es ep t ∧ Got ks ks.length L ∧
          (∀ b o, s.heap.get? b = some o → h'.get? b = some o)) E) F.called_set.init.plain F.entry_set_init (check_set_init_1 hT ?_)) fun r₂ s₂ hr₂ => ?_
      · obtain ⟨ol, hol, hcl, nl, hdl⟩ := hl
        obtain ⟨ocls, odict, odata, oslots⟩ := ol
        simp only at hcl hdl
        subst hcl; subst hdl
        have hol' : (s.heap.push { cls := .type "set", dict := none, data := .set #[] 0 (.fresh 0 0 (!w.params.followText "set-order")) }).get? l = some { cls := .type "tuple", dict := odict, data := .seq items nl, slots := oslots } := Heap.get?_push_of_some _ hol
        have hsls := F.sub_tuple_set
        have hslf := F.sub_tuple_frozenset
        have hne : (Value.type "tuple" == Value.type "dict") = false := by decide
        have hl1 : (s.heap.push { cls := .type "set", dict := none, data := .set #[] 0 (.fresh 0 0 (!w.params.followText "set-order")) }).IsTuple l items := ⟨_, hol', rfl, nl, rfl⟩
        unfold Builtin.«set.__init__» noKeywords Builtin.Frozenset.updateFrom
        generalize hPI : pyIter = PI
        wp_walk
        subst hPI

        refine wpAny_pyIter_tuple hl1 ?_
        refine wpAny_bind (wpAny_runValue ?_)
        have hlS : l < s.heap.objs.size := Heap.lt_size hol
        have hh3 : A.in1.in1.in1.handled = none := by simp [hh]
        have hz1 : (s.heap.push { cls := .type "set", dict := none, data := .set #[] 0 (.fresh 0 0 (!w.params.followText "set-order")) }).objs.size = s.heap.objs.size + 1 := Heap.size_push ..
        have hneI : l ≠ (s.heap.push { cls := .type "set", dict := none, data := .set #[] 0 (.fresh 0 0 (!w.params.followText "set-order")) }).objs.size := by
          rw [Heap.size_push]; exact Nat.ne_of_lt (Nat.lt_succ_of_lt hlS)
        have hSf : s.heap.objs.size ∉ [(s.heap.push { cls := .type "set", dict := none, data := .set #[] 0 (.fresh 0 0 (!w.params.followText "set-order")) }).objs.size, l] := by
          rw [Heap.size_push]; simp only [List.mem_cons, List.mem_singleton, List.not_mem_nil, or_false, not_or]
          exact ⟨Nat.ne_of_lt (Nat.lt_succ_self _), Nat.ne_of_gt hlS⟩
        have hval : ∀ (i : Nat) (v : Value), items[i]? = some v → ∃ p, ks[i]? = some p ∧ v = .ref p.1 := fun i v hv => by
          have q : items.toList[i]? = some v := by rw [Array.getElem?_toList]; exact hv
          rw [hit, List.getElem?_map] at q
          cases hq : ks[i]? with
          | none => rw [hq] at q; cases q
          | some p =>
            rw [hq] at q
            exact ⟨p, rfl, (Option.some.inj q).symm⟩
        have none_of : ∀ b, s.heap.objs.size ≤ b → s.heap.get? b = none := fun b hb => by
          cases q : s.heap.get? b with
          | none => rfl
          | some o => exact absurd (Nat.lt_of_lt_of_le (Heap.lt_size q) hb) (Nat.lt_irrefl _)
        refine set_update_tups ((Walks.tuple hh3 _ l hneI items).toS) s.heap.objs.size
          hSf ks hisz hfew hval s.heap hk (none_of _ (Nat.le_refl _)) (fun b hb => none_of b (by
            rw [List.mem_singleton.mp hb, Heap.size_push]
            exact Nat.le_succ _)) hu (items.size - 0) 0 _ (by omega) (Nat.zero_le _)
          ⟨⟨_, Heap.get?_push_size _ rfl, rfl, rfl⟩, (hl1.push _)⟩ (fun b o e => Heap.get?_push_of_some _ (Heap.get?_push_of_some _ e)) ?hS0 ?hR
        case hS0 =>
          have hget : ((s.heap.push { cls := .type "set", dict := none, data := .set #[] 0 (.fresh 0 0 (!w.params.followText "set-order")) }).push { cls := .type "tuple_iterator", data := .fields #[.ref l, .int 0 0] }).get? s.heap.objs.size
              = some { cls := .type "set", dict := none, data := .set #[] 0 (.fresh 0 0 (!w.params.followText "set-order")) } := Heap.get?_push_of_some _ hS
          exact ⟨[], #[], 0, _, setTR_fresh hget, Got.zero ks⟩
        case hR =>
          intro s' L es ep t hm hS' g' hkp
          obtain ⟨h', g2, d', tk', os'⟩ := s'
          have eg : g2 = s.gens := hm.gens
          have ed : d' = s.drawn := hm.drawn
          have eo : os' = s.os := hm.os
          subst eg; subst ed; subst eo
          show wpAny _ _ _ _ _ _
          refine wpAny_pure ?_
          show wpAny _ _ (ret Value.none) _ _ _
          rw [hisz] at g'
          exact wpAny_pure ⟨rfl, h', tk', L, es, ep, t, rfl, hS', g', hkp⟩

      · cases r₂ with
        | error e => exact hr₂
        | ok fl₂ =>
          cases fl₂ with
          | ret r =>
            obtain ⟨rfl, h', tk, L, es, ep, t, rfl, hS', g', hk'⟩ := hr₂
            repeat (any_goals (first | assumption | wp_step))
            exact h _ _ _ _ _ _ hS' g' hk'
          | _ => exact hr₂.elim
    | _ => exact hr.elim

end
end US0
set_option Elab.async false
set_option linter.all false
set_option maxRecDepth 100000
set_option maxHeartbeats 2000000
/-! len(set(a tuple of tuples of ints)); own str over data. -/
namespace U
open PySem PySem.Spec PyProof.Rows L2
section
variable {X : Cx} {a : Expr} {f : DTE} {p p2 q pos : Pos}
def gLenSet (f : DTE) : DTE := fun δ M Q => f δ M fun x M1 => match x with
  | .tup ds => ∃ ms, asTups ds = some ms ∧ ms.length < 64 ∧ ∀ ns : List (List Int), ns.Nodup → (∀ m, m ∈ ns ↔ m ∈ ms) → Q (.int (ns.length : Nat)) M1
  | _ => False
theorem d_lenSet (hc : X.calm = true) (hu : X.A.units + 64 < cLine) (hm : X.mg "len" = none) (hm2 : X.mg "set" = none) (ha : DE X a f) (hg : Gl X "len" := by rfl) (hg2 : Gl X "set" := by rfl)
    (na : starEach [a] X.env = (false, eval a X.env) :: starEach [] X.env := by rfl) : DE X (.Call (.Name "len" p) [.Call (.Name "set" p2) [a] [] q] [] pos) (gLenSet f) := by
  refine ⟨fun pins s σ H Q I ⟨δ, F, W, M, Qd, ev, st, h, k⟩ => ?_⟩
  refine Call_ (ld_blt I hg hm PySem.boot_len ?_)
  refine PyProof.Rows.callWith_builtin1 (PyProof.Rows.args_cons ?_ rfl) rfl rfl
  refine Call_ (ld_blt I hg2 hm2 PyProof.Rows.boot_set ?_)
  refine PyProof.Rows.callWith_type1 (PyProof.Rows.args_cons (thn (ha.run pins s σ H (fun x H1 => ∃ W1 d M1, Grow F W H W1 H1 ∧ Stt X.K F W1 M1 H1 ∧ RD X.K W1 H1 x d ∧ (match d with
    | .tup ds => ∃ ms, asTups ds = some ms ∧ ms.length < 64 ∧ ∀ ns : List (List Int), ns.Nodup → (∀ m, m ∈ ns ↔ m ∈ ms) → Qd (.int (ns.length : Nat)) M1
    | _ => False)) I ⟨δ, F, W, M, _, ev, st, h, fun v H1 W1 d M1 g1 s1 r1 q1 => ⟨W1, d, M1, g1, s1, r1, q1⟩⟩) fun v s1 ⟨x, H1, I1, rv, q1⟩ => PyProof.Rows.args_nil ?_) na) na rfl
  obtain ⟨W1, d, M1, g1, s2, r1, q1⟩ := q1
  cases r1 <;> first | exact q1.elim | skip
  rename_i b vs ds hs rvs
  obtain ⟨ms, hm1, hl, q1⟩ := q1
  obtain rfl : v = Value.ref b := rv
  rw [asTups_of hm1] at rvs
  obtain ⟨ks, rfl, rfl, hk⟩ := rvs.tups
  obtain ⟨its, rv2, pl, hz⟩ := I1.tuple hs.sq
  have hn : H1 s1.heap.objs.size = none := I1.hok.fresh (Nat.le_refl _)
  rw [List.length_map] at hl
  refine US0.call_set_tupsT (P := X.prog) (w := X.w) ks (I1.ok.hd hc) pl (by simpa using refs_of_vals rv2) (fun p hp => I1.isT (hk p hp).sq) hl (by omega) fun h' tk L es ep t R g kk => ?_
  refine PyProof.Rows.args_nil ?_
  obtain ⟨o, ho, hex, hd⟩ := R.ob
  have hsz : es.size = L.length := SetTR.size (s := { s1 with heap := h', toks := tk }) R
  have hfew := R.few
  have I2 : Inv X pins σ H1 { s1 with heap := h', toks := tk } := I1.kept kk
  refine call_len_set ho hex hd (SetTR.fits (s := { s1 with heap := h', toks := tk }) R) (by omega) ⟨.int L.length, H1, I2.tok _, ⟨_, by rw [hsz]⟩, ?_⟩
  have fin := q1 (L.map (·.2)) R.nd fun m => ⟨fun hm => ?_, fun hm => ?_⟩
  · rw [List.length_map] at fin
    exact (k.mono g1).now s2 (.int _) fin
  · obtain ⟨p, hp, rfl⟩ := List.mem_map.mp hm
    exact List.mem_map_of_mem (List.mem_of_mem_take (g.sub p hp))
  · obtain ⟨p, hp, rfl⟩ := List.mem_map.mp hm
    exact g.all p (by rw [List.take_length]; exact hp)
end
end U
namespace U
open PySem PySem.Spec PyProof.Rows L2
section
variable {X : Cx}
def kStrA : DC := fun xs M Q => match xs with
  | [.int i] => i.natAbs.log2 < 1920 ∧ Q (.str (toString i)) M
  | [.str a] => Q (.str a) M
  | _ => False
theorem c_dstr : CD X (.type "str") kStrA := cd_imp fun vs H Q ⟨F, W, M, ds, Qd, r, s, h, k⟩ => by
  unfold kStrA at h
  split at h
  · obtain ⟨v, rfl, r1⟩ := r.one; cases r1; exact ⟨_, call_str_int, _, rfl, h.1, k.now s (.str _) h.2⟩
  · obtain ⟨v, rfl, r1⟩ := r.one; cases r1; exact ⟨_, SkE.call_str_str, _, rfl, k.now s (.str _) h⟩
  · exact h.elim
end
theorem perm_len {α : Type} {as bs : List α} (h1 : as.Nodup) (h2 : bs.Nodup) (h : ∀ m, m ∈ as ↔ m ∈ bs) : as.length = bs.length := ((List.perm_ext_iff_of_nodup h1 h2).mpr h).length_eq
end U
namespace U
open L2
theorem ixN_nat' {n i : Nat} (h : i < n) : ixN n (i : Nat) = some i := by
  unfold ixN
  rw [if_pos (Int.natCast_nonneg _), if_pos (by omega)]
  rfl
theorem map_erase {α β : Type} (g : α → β) : ∀ (l : List α) (k : Nat), (l.map g).eraseIdx k = (l.eraseIdx k).map g
  | [], _ => rfl
  | _ :: _, 0 => rfl
  | x :: l, k + 1 => by simp [map_erase g l k]
theorem perm_erase {α : Type} : ∀ {l : List α} {k : Nat} {x : α}, l[k]? = some x → (x :: l.eraseIdx k).Perm l
  | [], k, x, h => by simp at h
  | y :: l, 0, x, h => by simp at h; subst h; exact .refl _
  | y :: l, k + 1, x, h => by
    have := perm_erase (l := l) (k := k) (x := x) (by simpa using h)
    exact (List.Perm.swap y x _).trans (this.cons y)
end U
namespace U
open PySem PySem.Spec PyProof.Rows L2
section
variable {X : Cx} {e : Expr} {f : DTE} {ft : DTT} {st : Stmt} {t : DTS}
/-! ### ways joined: what holds of the value behind them -/
def gCut (f : DTE) : DTE := fun δ M Q => ∃ P : DK, f δ M P ∧ ∀ v M1, P v M1 → Q v M1
theorem d_cut (h : DE X e f) : DE X e (gCut f) := imp h fun σ H Q ⟨δ, F, W, M, Qd, ev, s, ⟨P, h, hp⟩, k⟩ =>
  ⟨δ, F, W, M, P, ev, s, h, fun v H' W' d M' g s r q => k v H' W' d M' g s r (hp d M' q)⟩
def gCutT (f : DTT) : DTT := fun δ M Q => ∃ P : Bool → Mm → Prop, f δ M P ∧ ∀ v M1, P v M1 → Q v M1
theorem d_cutT (h : DT X e ft) : DT X e (gCutT ft) := pt_imp h fun σ H Q ⟨δ, F, W, M, Qd, ev, s, ⟨P, h, hp⟩, k⟩ =>
  ⟨δ, F, W, M, P, ev, s, h, fun v H' W' d M' g s r q => k v H' W' d M' g s r (hp d M' q)⟩
def hCut (t : DTS) : DTS := fun D δ M => ∃ P : De → Mm → Prop, t { D with nx := P } δ M ∧ ∀ δ' M', P δ' M' → D.nx δ' M'
theorem z_cut (h : DS X st t) : DS X st (hCut t) := ps_imp h fun D σ H ⟨δ, F, W, M, Dd, ev, s, ⟨P, h, hp⟩, k⟩ =>
  ⟨δ, F, W, M, { Dd with nx := P }, ev, s, h, fun σ H' W' δ' M' g s e q => k.nx σ H' W' δ' M' g s e (hp δ' M' q), k.rt, k.bk, k.ct⟩
end
end U
namespace U
open PySem
theorem kit_mk {K : PySem.W.Frag} {T : String} {C : Addr} {x} {r : Bool} (a : PySem.W.clsIn K C = some x) (b : PySem.W.typeIn K (.ref C) = some (.type "type")) (c : PySem.W.subIn K (.type T) (.ref C) = some r) : PySem.W.kitOne K (.type T) (.ref C) = some r := by
  unfold PySem.W.kitOne PySem.W.kitCls
  rw [if_neg (by simp)]
  simp only [a, b]
  rw [if_pos (by simp)]
  exact c
/-- of another class of the text -/
theorem kit_mkR {K : PySem.W.Frag} {D C : Addr} {x} {r : Bool} (n : (D == C) = false) (a : PySem.W.clsIn K C = some x) (b : PySem.W.typeIn K (.ref C) = some (.type "type")) (c : PySem.W.subIn K (.ref D) (.ref C) = some r) : PySem.W.kitOne K (.ref D) (.ref C) = some r := by
  unfold PySem.W.kitOne PySem.W.kitCls
  rw [if_neg (by
    intro h
    have : D = C := by simpa using h
    subst this
    simp at n)]
  simp only [a, b]
  rw [if_pos (by simp)]
  exact c
end U
set_option Elab.async false
set_option linter.all false
set_option maxRecDepth 100000
set_option maxHeartbeats 4000000

namespace K20
open PySem PySem.Spec PyProof.Rows L2 U
def top (i : Nat) : Stmt := PySem.Challenge.pw_blockshanded_k20_relations_by_their_pair.main.body.getD i (.Pass ⟨0, 0, 0, 0⟩)
abbrev s__wall : Stmt := top 0
abbrev s_is_integer : Stmt := top 2
abbrev s_is_from : Stmt := top 3
abbrev s_InvalidNumber___init__ : Stmt := inClass (top 8) 0
abbrev s_Space___init__ : Stmt := inClass (top 11) 0
abbrev s_Space_modes : Stmt := inClass (top 11) 1
abbrev s_Space_watched : Stmt := inClass (top 11) 2
abbrev s_Space_ends : Stmt := inClass (top 11) 3
abbrev s_Space_size : Stmt := inClass (top 11) 4
abbrev s_Space_same : Stmt := inClass (top 11) 5
abbrev s_Space_bit : Stmt := inClass (top 11) 6
abbrev s_Space_has : Stmt := inClass (top 11) 7
abbrev s_Space_is_relation : Stmt := inClass (top 11) 8
abbrev s_Space_require_relation : Stmt := inClass (top 11) 9
abbrev s_Space_pairs : Stmt := inClass (top 11) 10
abbrev s_Space_is_pair : Stmt := inClass (top 11) 11
abbrev s_Space_relation : Stmt := inClass (top 11) 12
abbrev s_Space_after : Stmt := inClass (top 11) 13
abbrev s_Space_is_led : Stmt := inClass (top 11) 14
abbrev s_Space_followed : Stmt := inClass (top 11) 15
abbrev s_Space_either : Stmt := inClass (top 11) 16
abbrev s_Space_is_within : Stmt := inClass (top 11) 17
abbrev s_Space_is_table : Stmt := inClass (top 11) 18
abbrev s_Space_require_table : Stmt := inClass (top 11) 19
abbrev s_Space_is_monotone : Stmt := inClass (top 11) 20
abbrev s_Space_composed : Stmt := inClass (top 11) 21
abbrev s_Space___eq__ : Stmt := inClass (top 11) 22
abbrev s_Space___str__ : Stmt := inClass (top 11) 23
abbrev s__law_urn : Stmt := top 13
abbrev s__law_take : Stmt := top 14
abbrev s__law_one : Stmt := top 15
abbrev s__law_some : Stmt := top 16
abbrev s__law_pairs : Stmt := top 17
abbrev s__law_bits : Stmt := top 18
abbrev s__law_then : Stmt := top 19
abbrev s__law_within : Stmt := top 20
abbrev s__law_sizes : Stmt := top 21
abbrev s__law_right : Stmt := top 22
abbrev s_law : Stmt := top 23
abbrev N_is_integer : List Str := ["value"]
theorem sc_is_integer : FnScope N_is_integer ["value"] (defScope s_is_integer) := ⟨rfl, rfl, rfl, by decide +kernel, rfl, by decide +kernel, by decide +kernel⟩
abbrev N_is_from : List Str := ["value", "first", "last"]
theorem sc_is_from : FnScope N_is_from ["value", "first", "last"] (defScope s_is_from) := ⟨rfl, rfl, rfl, by decide +kernel, rfl, by decide +kernel, by decide +kernel⟩
abbrev N_Space___init__ : List Str := ["self", "modes", "watched", "powers", "turn", "mode"]
theorem sc_Space___init__ : FnScope N_Space___init__ ["self", "modes", "watched"] (defScope s_Space___init__) := ⟨rfl, rfl, rfl, by decide +kernel, rfl, by decide +kernel, by decide +kernel⟩
abbrev N_Space_modes : List Str := ["self"]
theorem sc_Space_modes : FnScope N_Space_modes ["self"] (defScope s_Space_modes) := ⟨rfl, rfl, rfl, by decide +kernel, rfl, by decide +kernel, by decide +kernel⟩
abbrev N_Space_watched : List Str := ["self"]
theorem sc_Space_watched : FnScope N_Space_watched ["self"] (defScope s_Space_watched) := ⟨rfl, rfl, rfl, by decide +kernel, rfl, by decide +kernel, by decide +kernel⟩
abbrev N_Space_ends : List Str := ["self"]
theorem sc_Space_ends : FnScope N_Space_ends ["self"] (defScope s_Space_ends) := ⟨rfl, rfl, rfl, by decide +kernel, rfl, by decide +kernel, by decide +kernel⟩
abbrev N_Space_size : List Str := ["self"]
theorem sc_Space_size : FnScope N_Space_size ["self"] (defScope s_Space_size) := ⟨rfl, rfl, rfl, by decide +kernel, rfl, by decide +kernel, by decide +kernel⟩
abbrev N_Space_same : List Str := ["self"]
theorem sc_Space_same : FnScope N_Space_same ["self"] (defScope s_Space_same) := ⟨rfl, rfl, rfl, by decide +kernel, rfl, by decide +kernel, by decide +kernel⟩
abbrev N_Space_bit : List Str := ["self", "mode", "end"]
theorem sc_Space_bit : FnScope N_Space_bit ["self", "mode", "end"] (defScope s_Space_bit) := ⟨rfl, rfl, rfl, by decide +kernel, rfl, by decide +kernel, by decide +kernel⟩
abbrev N_Space_has : List Str := ["self", "relation", "mode", "end"]
theorem sc_Space_has : FnScope N_Space_has ["self", "relation", "mode", "end"] (defScope s_Space_has) := ⟨rfl, rfl, rfl, by decide +kernel, rfl, by decide +kernel, by decide +kernel⟩
abbrev N_Space_is_relation : List Str := ["self", "value"]
theorem sc_Space_is_relation : FnScope N_Space_is_relation ["self", "value"] (defScope s_Space_is_relation) := ⟨rfl, rfl, rfl, by decide +kernel, rfl, by decide +kernel, by decide +kernel⟩
abbrev N_Space_require_relation : List Str := ["self", "value"]
theorem sc_Space_require_relation : FnScope N_Space_require_relation ["self", "value"] (defScope s_Space_require_relation) := ⟨rfl, rfl, rfl, by decide +kernel, rfl, by decide +kernel, by decide +kernel⟩
abbrev N_Space_pairs : List Str := ["self", "relation", "every", "mode", "end", "pair"]
theorem sc_Space_pairs : FnScope N_Space_pairs ["self", "relation"] (defScope s_Space_pairs) := ⟨rfl, rfl, rfl, by decide +kernel, rfl, by decide +kernel, by decide +kernel⟩
abbrev N_Space_is_pair : List Str := ["self", "value"]
theorem sc_Space_is_pair : FnScope N_Space_is_pair ["self", "value"] (defScope s_Space_is_pair) := ⟨rfl, rfl, rfl, by decide +kernel, rfl, by decide +kernel, by decide +kernel⟩
abbrev N_Space_relation : List Str := ["self", "pairs", "pair"]
theorem sc_Space_relation : FnScope N_Space_relation ["self", "pairs"] (defScope s_Space_relation) := ⟨rfl, rfl, rfl, by decide +kernel, rfl, by decide +kernel, by decide +kernel⟩
abbrev N_Space_either : List Str := ["self", "one", "other"]
theorem sc_Space_either : FnScope N_Space_either ["self", "one", "other"] (defScope s_Space_either) := ⟨rfl, rfl, rfl, by decide +kernel, rfl, by decide +kernel, by decide +kernel⟩
abbrev N_Space_is_within : List Str := ["self", "one", "other"]
theorem sc_Space_is_within : FnScope N_Space_is_within ["self", "one", "other"] (defScope s_Space_is_within) := ⟨rfl, rfl, rfl, by decide +kernel, rfl, by decide +kernel, by decide +kernel⟩
abbrev N_Space___eq__ : List Str := ["self", "other"]
theorem sc_Space___eq__ : FnScope N_Space___eq__ ["self", "other"] (defScope s_Space___eq__) := ⟨rfl, rfl, rfl, by decide +kernel, rfl, by decide +kernel, by decide +kernel⟩
abbrev N_Space___str__ : List Str := ["self"]
theorem sc_Space___str__ : FnScope N_Space___str__ ["self"] (defScope s_Space___str__) := ⟨rfl, rfl, rfl, by decide +kernel, rfl, by decide +kernel, by decide +kernel⟩
abbrev N__law_urn : List Str := ["_law_script", "_law_at", "_law_cell", "_law_great", "_law_seed"]
theorem sc__law_urn : FnScope N__law_urn ["_law_script", "_law_at"] (defScope s__law_urn) := ⟨rfl, rfl, rfl, by decide +kernel, rfl, by decide +kernel, by decide +kernel⟩
abbrev N__law_take : List Str := ["_law_urn_here", "_law_total", "_law_found", "_law_one_here", "_law_two", "_law_three"]
theorem sc__law_take : FnScope N__law_take ["_law_urn_here", "_law_total"] (defScope s__law_take) := ⟨rfl, rfl, rfl, by decide +kernel, rfl, by decide +kernel, by decide +kernel⟩
abbrev N__law_some : List Str := ["_law_urn_here", "_law_items", "_law_lots", "_law_stock", "_law_found", "_law_turn"]
theorem sc__law_some : FnScope N__law_some ["_law_urn_here", "_law_items", "_law_lots"] (defScope s__law_some) := ⟨rfl, rfl, rfl, by decide +kernel, rfl, by decide +kernel, by decide +kernel⟩
abbrev N__law_pairs : List Str := ["_law_ends_here", "_law_relation", "_law_found", "_law_rest", "_law_at", "_law_turn"]
theorem sc__law_pairs : FnScope N__law_pairs ["_law_ends_here", "_law_relation"] (defScope s__law_pairs) := ⟨rfl, rfl, rfl, by decide +kernel, rfl, by decide +kernel, by decide +kernel⟩
abbrev N__law_bits : List Str := ["_law_ends_here", "_law_pairs_here", "_law_powers", "_law_mode", "_law_end"]
theorem sc__law_bits : FnScope N__law_bits ["_law_ends_here", "_law_pairs_here"] (defScope s__law_bits) := ⟨rfl, rfl, rfl, by decide +kernel, rfl, by decide +kernel, by decide +kernel⟩
abbrev N__law_within : List Str := ["_law_one_here", "_law_other", "_law_pair"]
theorem sc__law_within : FnScope N__law_within ["_law_one_here", "_law_other"] (defScope s__law_within) := ⟨rfl, rfl, rfl, by decide +kernel, rfl, by decide +kernel, by decide +kernel⟩
abbrev N__law_sizes : List Str := ["_law_modes", "_law_watched", "_law_ends_here"]
theorem sc__law_sizes : FnScope N__law_sizes ["_law_modes", "_law_watched"] (defScope s__law_sizes) := ⟨rfl, rfl, rfl, by decide +kernel, rfl, by decide +kernel, by decide +kernel⟩
abbrev N__law_right : List Str := ["_law_urn_here", "_law_modes", "_law_watched", "_law_space", "_law_sizes_here", "_law_text", "_law_turn", "_law_one_here", "_law_other", "_law_first", "_law_second", "_law_mode"]
theorem sc__law_right : FnScope N__law_right ["_law_urn_here"] (defScope s__law_right) := ⟨rfl, rfl, rfl, by decide +kernel, rfl, by decide +kernel, by decide +kernel⟩
abbrev N_law : List Str := ["_law_script", "_law_at", "_law_urn_here", "_law_turn", "_law_told"]
theorem sc_law : FnScope N_law ["_law_script"] (defScope s_law) := ⟨rfl, rfl, rfl, by decide +kernel, rfl, by decide +kernel, by decide +kernel⟩
structure Facts (K : PySem.W.Frag) (C_Space : Addr) : Prop where
  cls_Space : HasCls K "Space" C_Space
  d_is_integer : HasDef K "is_integer" s_is_integer
  d_is_from : HasDef K "is_from" s_is_from
  d__law_urn : HasDef K "_law_urn" s__law_urn
  d__law_take : HasDef K "_law_take" s__law_take
  d__law_some : HasDef K "_law_some" s__law_some
  d__law_pairs : HasDef K "_law_pairs" s__law_pairs
  d__law_bits : HasDef K "_law_bits" s__law_bits
  d__law_within : HasDef K "_law_within" s__law_within
  d__law_sizes : HasDef K "_law_sizes" s__law_sizes
  d__law_right : HasDef K "_law_right" s__law_right
  d_law : HasDef K "law" s_law
  i_Space : HasInitK K C_Space "Space.__init__" s_Space___init__ [("watched", (.bl false))]
  p_Space_modes : HasProp K C_Space "modes" "Space.modes" s_Space_modes
  p_Space_watched : HasProp K C_Space "watched" "Space.watched" s_Space_watched
  p_Space_ends : HasProp K C_Space "ends" "Space.ends" s_Space_ends
  p_Space_size : HasProp K C_Space "size" "Space.size" s_Space_size
  p_Space_same : HasProp K C_Space "same" "Space.same" s_Space_same
  m_Space_bit : HasMeth K C_Space "bit" "Space.bit" s_Space_bit
  m_Space_has : HasMeth K C_Space "has" "Space.has" s_Space_has
  m_Space_is_relation : HasMeth K C_Space "is_relation" "Space.is_relation" s_Space_is_relation
  m_Space_require_relation : HasMeth K C_Space "require_relation" "Space.require_relation" s_Space_require_relation
  m_Space_pairs : HasMeth K C_Space "pairs" "Space.pairs" s_Space_pairs
  m_Space_is_pair : HasMeth K C_Space "is_pair" "Space.is_pair" s_Space_is_pair
  m_Space_relation : HasMeth K C_Space "relation" "Space.relation" s_Space_relation
  m_Space_either : HasMeth K C_Space "either" "Space.either" s_Space_either
  m_Space_is_within : HasMeth K C_Space "is_within" "Space.is_within" s_Space_is_within
  m_Space___eq__ : HasMeth K C_Space "__eq__" "Space.__eq__" s_Space___eq__
  m_Space___str__ : HasMeth K C_Space "__str__" "Space.__str__" s_Space___str__
  n_Space_own_modes : NoAttr K C_Space "own_modes"
  n_Space_own_watched : NoAttr K C_Space "own_watched"
  n_Space_own_ends : NoAttr K C_Space "own_ends"
  n_Space_own_powers : NoAttr K C_Space "own_powers"
  n_Space_own_size : NoAttr K C_Space "own_size"
  n_Space_own_same : NoAttr K C_Space "own_same"
  ne_Space : PySem.W.findIn K (.ref C_Space) "__ne__" = some (some (.builtin "object.__ne__"))
  nfT : PySem.W.notFirst K C_Space (.type "tuple") = true
  kitT : PySem.W.kitOne K (.type "tuple") (.ref C_Space) = some false
  z_abs : PySem.W.nsIn K mainGlobals "abs" = some none
  z_all : PySem.W.nsIn K mainGlobals "all" = some none
  z_bool : PySem.W.nsIn K mainGlobals "bool" = some none
  z_int : PySem.W.nsIn K mainGlobals "int" = some none
  z_isinstance : PySem.W.nsIn K mainGlobals "isinstance" = some none
  z_len : PySem.W.nsIn K mainGlobals "len" = some none
  z_list : PySem.W.nsIn K mainGlobals "list" = some none
  z_max : PySem.W.nsIn K mainGlobals "max" = some none
  z_min : PySem.W.nsIn K mainGlobals "min" = some none
  z_range : PySem.W.nsIn K mainGlobals "range" = some none
  z_repr : PySem.W.nsIn K mainGlobals "repr" = some none
  z_set : PySem.W.nsIn K mainGlobals "set" = some none
  z_sorted : PySem.W.nsIn K mainGlobals "sorted" = some none
  z_str : PySem.W.nsIn K mainGlobals "str" = some none
  z_sum : PySem.W.nsIn K mainGlobals "sum" = some none
  z_tuple : PySem.W.nsIn K mainGlobals "tuple" = some none
  c_MAX_MODES : ∃ t, PySem.W.nsIn K mainGlobals "MAX_MODES" = some (some (.int 3 t))
/-- the built-ins' names are free; the module's constants -/
structure Zs (mg : Str → Option Value) : Prop where
  abs : mg "abs" = none
  all : mg "all" = none
  bool : mg "bool" = none
  int : mg "int" = none
  isinstance : mg "isinstance" = none
  len : mg "len" = none
  list : mg "list" = none
  max : mg "max" = none
  min : mg "min" = none
  range : mg "range" = none
  repr : mg "repr" = none
  set : mg "set" = none
  sorted : mg "sorted" = none
  str : mg "str" = none
  sum : mg "sum" = none
  tuple : mg "tuple" = none
  c_MAX_MODES : ∃ t, mg "MAX_MODES" = some (.int 3 t)
theorem zs_of {K : PySem.W.Frag} {mg : Str → Option Value} {C_Space : Addr} (A : Facts K C_Space) (M : MgOf K mg) : Zs mg where
  abs := M.of _ _ A.z_abs
  all := M.of _ _ A.z_all
  bool := M.of _ _ A.z_bool
  int := M.of _ _ A.z_int
  isinstance := M.of _ _ A.z_isinstance
  len := M.of _ _ A.z_len
  list := M.of _ _ A.z_list
  max := M.of _ _ A.z_max
  min := M.of _ _ A.z_min
  range := M.of _ _ A.z_range
  repr := M.of _ _ A.z_repr
  set := M.of _ _ A.z_set
  sorted := M.of _ _ A.z_sorted
  str := M.of _ _ A.z_str
  sum := M.of _ _ A.z_sum
  tuple := M.of _ _ A.z_tuple
  c_MAX_MODES := let ⟨_, e⟩ := A.c_MAX_MODES; ⟨_, M.of _ _ e⟩
theorem small1000' {n : Nat} (h : n < 100000) : n ≤ sizeLine := by rw [sizeLine_eq]; omega
theorem cmul_mod {x j k : Int} (h : 0 < k) (h2 : k ≤ 2 ^ 64) : CMul (x % k) j := .inl ⟨by have := Int.emod_nonneg x (show k ≠ 0 by omega); omega, Int.lt_of_lt_of_le (Int.emod_lt_of_pos x h) h2⟩
/-! ### the urn -/
def Urn (d : Addr) (M : Mm) : Prop := ∃ a b c : Int, M d = some (.lst [.int a, .int b, .int c])
def Km (d : Addr) (M M' : Mm) : Prop := ∀ p, p ≠ d → M' p = M p
theorem Km.refl {d : Addr} {M : Mm} : Km d M M := fun _ _ => rfl
theorem Km.trans {d : Addr} {M M1 M2 : Mm} (a : Km d M M1) (b : Km d M1 M2) : Km d M M2 := fun p h => (b p h).trans (a p h)
theorem Km.put {d : Addr} {M M' : Mm} {o : MO} (a : Km d M M') : Km d M (mput M' d o) := fun p h => (mput_ne h).trans (a p h)
def spUrn : DSp := fun ds M Q _ => ∃ (ns : List Int) (i : Nat), ds = [.lst (ns.map Da.int), .int i] ∧ ns.length ≤ 63 ∧ i < 1000 ∧ ∀ d a b c, M d = none → Q (.ref d) (mput M d (.lst [.int a, .int b, .int c]))
def spTake : DSp := fun ds M Q _ => ∃ (d : Addr) (n : Nat), ds = [.ref d, .int n] ∧ Urn d M ∧ 0 < n ∧ n < 1073741824 ∧ ∀ (r : Nat) M', r < n → Urn d M' → Km d M M' → Q (.int r) M'
section
variable {P : Program} {w : World} {K : PySem.W.Frag} {mg : Str → Option Value} {base : Heap} {C_Space : Addr}
theorem D__law_urn (A : Facts K C_Space) (M : MgOf K mg) (Z : Zs mg) : KnD P w K mg base "_law_urn" 1 ["_law_script", "_law_at"] spUrn := by
  refine KnD.of A.d__law_urn M sc__law_urn (fun _ _ _ _ _ _ us hl => match us, hl with | [_, _], _ => rfl) (fun ds M Q E ⟨_, _, h, _⟩ => by rw [h]; rfl) (fun f cdv A0 outer s H E hr => ?_)
  have nd := sc__law_urn.nd
  refine ⟨_, (z_cons (z_set 2 nd (d_if (d_tcm o_dlt (dn 1) (d_b Z.len b_len c_dlen (d_cons (dn 0) d_nil))) (d_ix (dn 0) (dn 1)) (d_op o_dadd (d_op o_dmul d_int (dn 1)) d_int)))
      (z_cons (z_set 3 nd (d_op o_dmod (d_t Z.int b_int c_dint (d_cons (d_b Z.abs b_abs c_dabs (d_cons (dn 2) d_nil)) d_nil)) (d_op o_dpow (d_op o_dpow d_int d_int) d_int)))
      (z_cons (z_set 4 nd (d_op o_dmod (d_t Z.int b_int c_dint (d_cons (d_op o_dadd (d_op o_dadd (d_op o_dadd (d_op o_dmul (dn 3) d_int) (d_op o_dmul d_int (dn 1))) (d_op o_dmul d_int (d_t Z.int b_int c_dint (d_cons (d_ecm o_dlt (dn 2) d_int) d_nil)))) d_int) d_nil)) d_int))
      (z_one (z_ret (d_lstM (d_cons (d_b Z.max b_max (c_dmax rfl) (d_cons d_int (d_cons (d_op o_dsub (dn 3) (d_op o_dpow d_int d_int)) d_nil))) (d_cons (dn 4) (d_cons d_int d_nil))))))))), ?_⟩
  rintro ds M Q Ed ⟨ns, i, rfl, hl, hi, k⟩
  refine ite2 (fun c => ?_) (fun c => ⟨.inl (by omega), ?_⟩)
  · have c1 : i < ns.length := by
      have := of_decide_eq_true c
      rw [List.length_map] at this
      omega
    refine ⟨_, atI_nat (v := Da.int ns[i]) (by rw [List.getElem?_map, List.getElem?_eq_getElem c1]; rfl), ?_⟩
    refine ⟨⟨by decide, by decide⟩, ⟨by decide, by decide⟩, by decide, ?_⟩
    refine ⟨.inr (by omega), .inl (by omega), .inl (by omega), by decide, ?_⟩
    exact ⟨⟨by decide, by decide⟩, rfl, fun d hd => k d _ _ _ hd⟩
  · refine ⟨⟨by decide, by decide⟩, ⟨by decide, by decide⟩, by decide, ?_⟩
    refine ⟨.inr (by omega), .inl (by omega), .inl (by omega), by decide, ?_⟩
    exact ⟨⟨by decide, by decide⟩, rfl, fun d hd => k d _ _ _ hd⟩
theorem D__law_take (A : Facts K C_Space) (M : MgOf K mg) (Z : Zs mg) : KnD P w K mg base "_law_take" 1 ["_law_urn_here", "_law_total"] spTake := by
  refine KnD.of A.d__law_take M sc__law_take (fun _ _ _ _ _ _ us hl => match us, hl with | [_, _], _ => rfl) (fun ds M Q E ⟨_, _, h, _⟩ => by rw [h]; rfl) (fun f cdv A0 outer s H E hr => ?_)
  have nd := sc__law_take.nd
  refine ⟨_, (z_cons (z_if (d_tcm o_dgt (d_ix (dn 0) d_int) d_int) (z_cons (z_set 2 nd (d_op o_dmod (d_t Z.int b_int c_dint (d_cons (d_ix (dn 0) d_int) d_nil)) (dn 1)))
      (z_cons (z_asg (d_op o_ddiv (d_ix (dn 0) d_int) (dn 1)) (t_sub (dn 0) d_int))
      (z_one (z_ret (dn 2))))) z_nil)
      (z_cons (z_asg (d_op o_dadd (d_ix (dn 0) d_int) d_int) (t_sub (dn 0) d_int))
      (z_cons (z_set 3 nd (d_op o_dmod (d_t Z.int b_int c_dint (d_cons (d_op o_dadd (d_ix (dn 0) d_int) (d_op o_dmul d_int (d_ix (dn 0) d_int))) d_nil)) d_int))
      (z_cons (z_set 4 nd (d_op o_dmod (d_t Z.int b_int c_dint (d_cons (d_op o_dadd (d_op o_dmul (dn 3) (dn 3)) (d_op o_dmul d_int (d_ix (dn 0) d_int))) d_nil)) d_int))
      (z_cons (z_set 5 nd (d_op o_dmod (d_t Z.int b_int c_dint (d_cons (d_op o_dadd (d_op o_dmul (dn 4) (dn 4)) (dn 3)) d_nil)) d_int))
      (z_one (z_ret (d_op o_dmod (d_t Z.int b_int c_dint (d_cons (d_op o_ddiv (dn 5) d_int) d_nil)) (dn 1))))))))), ?_⟩
  rintro ds M Q Ed ⟨d, n, rfl, ⟨a, b, c, hd⟩, h0, h1, k⟩
  have h0' : (0 : Int) < n := by omega
  have rr : ∀ x : Int, ∃ r : Nat, x % n = r ∧ r < n := fun x => ⟨(x % n).toNat, by
    have := Int.emod_nonneg x (show (n : Int) ≠ 0 by omega); omega, by
    have := Int.emod_nonneg x (show (n : Int) ≠ 0 by omega); have := Int.emod_lt_of_pos x h0'; omega⟩
  refine ⟨_, _, hd, rfl, ite2 (fun c0 => ?_) (fun c0 => ?_)⟩
  · refine ⟨_, _, hd, rfl, h0', ?_⟩
    refine ⟨_, _, hd, rfl, ⟨h0', by omega⟩, _, _, hd, rfl, ?_⟩
    obtain ⟨r, e, hr'⟩ := rr a
    show Q (.int (a % n)) _
    rw [e]
    exact k r _ hr' ⟨_, _, _, mput_same⟩ Km.refl.put
  · refine ⟨_, _, hd, rfl, _, _, hd, rfl, ?_⟩
    refine ⟨_, _, mput_same, rfl, _, _, mput_same, rfl, .inl ⟨by decide, by decide⟩, by decide, ?_⟩
    refine ⟨cmul_mod (by decide) (by decide), _, _, mput_same, rfl, .inl ⟨by decide, by decide⟩, by decide, cmul_mod (by decide) (by decide), by decide, ⟨by decide, by decide⟩, h0', ?_⟩
    refine (fun (x : Int) => ?_ : ∀ x : Int, Q (.int (x % n)) _) _
    obtain ⟨r, e, hr'⟩ := rr x
    rw [e]
    exact k r _ hr' ⟨_, _, _, mput_same⟩ Km.refl.put
end

/-! ### integers -/
def isI : Da → Bool
  | .int _ => true
  | _ => false
def okV : Da → Prop
  | .non | .bl _ | .int _ | .str _ | .lst _ | .tup _ | .dct _ => True
  | _ => False
def isFr (x : Da) (a b : Int) : Bool := match x with
  | .int i => decide (a ≤ i) && decide (i ≤ b)
  | _ => false
def spIsInt : DSp := fun ds M Q _ => ∃ x, ds = [x] ∧ okV x ∧ Q (.bl (isI x)) M
def spIsFrom : DSp := fun ds M Q _ => ∃ x a b, ds = [x, .int a, .int b] ∧ okV x ∧ Q (.bl (isFr x a b)) M
/-! ### spaces -/
def endsN (n : Nat) (w : Bool) : Nat := n + if w then 1 else 0
def pows (N : Nat) : List Da := (List.range (N + 1)).map fun k => Da.int ((2 ^ k : Nat) : Int)
def spcF (n : Nat) (w : Bool) : List (Str × Da) := [("own_modes", .int (n : Int)), ("own_watched", .bl w), ("own_ends", .int (endsN n w : Nat)), ("own_powers", .lst (pows (n * endsN n w))), ("own_size", .int ((2 ^ (n * endsN n w) : Nat) : Int)), ("own_same", .int (sam n (endsN n w) : Nat))]
def Spc (C : Addr) (n : Nat) (w : Bool) : Da := .obj C (spcF n w)
def OkN (n : Nat) : Prop := 1 ≤ n ∧ n ≤ 3
def spInit (C : Addr) : DSp := fun ds M Q _ => ∃ p n w, ds = [.ref p, .int (n : Nat), .bl w] ∧ OkN n ∧ M p = some (.ins C []) ∧ Q .non (mput M p (.ins C (spcF n w)))
theorem sz_of {n : Nat} (h : n ≤ 100) : Sz n := sz (by omega)
theorem E_le {n : Nat} {w : Bool} (h : OkN n) : n ≤ endsN n w ∧ endsN n w ≤ 4 ∧ n * endsN n w ≤ 12 := by
  obtain ⟨h1, h2⟩ := h
  have : n = 1 ∨ n = 2 ∨ n = 3 := by omega
  rcases this with rfl | rfl | rfl <;> cases w <;> decide
theorem pows_len (N : Nat) : (pows N).length = N + 1 := by unfold pows; rw [List.length_map, List.length_range]
theorem pows_get {N k : Nat} (h : k ≤ N) : (pows N)[k]? = some (.int ((2 ^ k : Nat) : Int)) := by
  unfold pows
  rw [List.getElem?_map, List.getElem?_range (by omega)]
  rfl
theorem pows_at {N k : Nat} (h : k ≤ N) : atI (pows N) (k : Nat) = some (.int ((2 ^ k : Nat) : Int)) := atI_nat (pows_get h)
theorem pows_last (N : Nat) : atI (pows N) (-1) = some (.int ((2 ^ N : Nat) : Int)) := by
  unfold atI ixN
  rw [if_neg (by decide), if_pos (by rw [pows_len]; omega), pows_len]
  have : ((-1 : Int) + ((N + 1 : Nat) : Int)).toNat = N := by omega
  show (pows N)[_]? = _
  rw [this]
  exact pows_get (Nat.le_refl _)
theorem pows_snoc (N : Nat) : pows N ++ [.int (((2 ^ N : Nat) : Int) * 2)] = pows (N + 1) := by
  unfold pows
  rw [List.range_succ (n := N + 1), List.map_append]
  show _ ++ [Da.int _] = _ ++ [Da.int ((2 ^ (N + 1) : Nat) : Int)]
  rw [show ((2 ^ (N + 1) : Nat) : Int) = ((2 ^ N : Nat) : Int) * 2 from by rw [Nat.pow_succ]; omega]
section
variable {P : Program} {w : World} {K : PySem.W.Frag} {mg : Str → Option Value} {base : Heap} {C_Space : Addr}
theorem D_is_integer (A : Facts K C_Space) (M : MgOf K mg) (Z : Zs mg) : KnD P w K mg base "is_integer" 1 ["value"] spIsInt := by
  refine KnD.of A.d_is_integer M sc_is_integer (fun _ _ _ _ _ _ us hl => match us, hl with | [_], _ => rfl) (fun ds M Q E ⟨_, h, _⟩ => by rw [h]; rfl) (fun f cdv A0 outer s H E hr => ?_)
  have nd := sc_is_integer.nd
  refine ⟨_, (z_one (z_ret (d_eand (d_b Z.isinstance b_isinstance c_disi (d_cons (dn 0) (d_cons (d_ty Z.int b_int) d_nil))) (d_one (d_enot (d_b Z.isinstance b_isinstance c_disi (d_cons (dn 0) (d_cons (d_ty Z.bool b_bool) d_nil)))))))), ?_⟩
  rintro ds M Q Ed ⟨x, rfl, ok, k⟩
  cases x with
  | non => exact ⟨by decide, ifF (by decide) k⟩
  | bl b => exact ⟨by decide, ifT (by decide) ⟨by decide, k⟩⟩
  | int b => exact ⟨by decide, ifT (by decide) ⟨by decide, k⟩⟩
  | str b => exact ⟨by decide, ifF (by decide) k⟩
  | lst b => exact ⟨by decide, ifF (by decide) k⟩
  | tup b => exact ⟨by decide, ifF (by decide) k⟩
  | dct b => exact ⟨by decide, ifF (by decide) k⟩
  | _ => exact False.elim ok
theorem D_is_from (A : Facts K C_Space) (M : MgOf K mg) (Z : Zs mg) (D_is_integer : KnD P w K mg base "is_integer" 1 ["value"] spIsInt) : KnD P w K mg base "is_from" 2 ["value", "first", "last"] spIsFrom := by
  refine KnD.of A.d_is_from M sc_is_from (fun _ _ _ _ _ _ us hl => match us, hl with | [_, _, _], _ => rfl) (fun ds M Q E ⟨_, _, _, h, _⟩ => by rw [h]; rfl) (fun f cdv A0 outer s H E hr => ?_)
  have nd := sc_is_from.nd
  refine ⟨_, (z_one (z_ret (d_eand (d_call D_is_integer (hr.mono (by decide)) (d_cons (dn 0) d_nil)) (d_one (d_ech o_dle o_dle (dn 1) (dn 0) (dn 2)))))), ?_⟩
  rintro ds M Q Ed ⟨x, a, b, rfl, ok, k⟩
  refine ⟨x, rfl, ok, ?_⟩
  cases x <;> first | exact ok.elim | exact k | skip
  rename_i i
  cases c : decide (a ≤ i) with
  | true =>
    have e : isFr (.int i) a b = decide (i ≤ b) := by show (decide (a ≤ i) && decide (i ≤ b)) = _; rw [c, Bool.true_and]
    rw [e] at k
    exact ifT rfl (ifT c k)
  | false =>
    have e : isFr (.int i) a b = false := by show (decide (a ≤ i) && decide (i ≤ b)) = _; rw [c, Bool.false_and]
    rw [e] at k
    exact ifT rfl (ifF (by rw [c]; exact Bool.false_ne_true) k)
theorem D_Space___init__ (A : Facts K C_Space) (M : MgOf K mg) (Z : Zs mg) (D_is_from : KnD P w K mg base "is_from" 2 ["value", "first", "last"] spIsFrom) : KnK P w K mg base C_Space 3 ["self", "modes", "watched"] 2 ["watched"] [.bl false] (spInit C_Space) := by
  refine KnK.of A.i_Space sc_Space___init__ (by decide) rfl (fun D doc pm an cdv ct us zs l1 l2 => match us, l1, zs, l2 with | [_, _], _, [_], _ => ⟨_, _, _, _, _, _, rfl, rfl, rfl⟩)
    (fun D doc pm an cdv ct us ws l1 l2 => match us, l1, ws, l2 with | [_, _], _, [_], _ => rfl) (fun ds M Q E ⟨_, _, _, h, _⟩ => by rw [h]; rfl) (fun f cdv A0 outer s H E hr => ?_)
  have nd := sc_Space___init__.nd
  refine ⟨_, (z_cons (z_if (d_tnot (d_tv (d_call D_is_from (hr.mono (by decide)) (d_cons (dn 1) (d_cons d_int (d_cons (d_gi Z.c_MAX_MODES) d_nil)))))) (z_one z_never) z_nil)
      (z_cons (z_if (d_tnot (d_tv (d_b Z.isinstance b_isinstance c_disi (d_cons (dn 2) (d_cons (d_ty Z.bool b_bool) d_nil))))) (z_one z_never) z_nil)
      (z_cons (z_sto A.cls_Space.cl A.n_Space_own_modes (dn 1) (dn 0))
      (z_cons (z_sto A.cls_Space.cl A.n_Space_own_watched (dn 2) (dn 0))
      (z_cons (z_sto A.cls_Space.cl A.n_Space_own_ends (d_op o_dadd (dn 1) (d_if (d_tv (dn 2)) d_int d_int)) (dn 0))
      (z_cons (z_set 3 nd (d_lst (d_cons d_int d_nil)))
      (z_cons (z_for PassesOwn.never rfl (d_rg1 Z.range (d_cons (d_op o_dmul (dn 1) (d_fld A.cls_Space.cl A.n_Space_own_ends (dn 0))) d_nil)) (t_n 4 nd) (z_one (z_set 3 nd (d_lst (d_star (dn 3) (d_cons (d_op o_dmul (d_ix (dn 3) (d_neg d_int)) d_int) d_nil))))))
      (z_cons (z_sto A.cls_Space.cl A.n_Space_own_powers (dn 3) (dn 0))
      (z_cons (z_sto A.cls_Space.cl A.n_Space_own_size (d_ix (dn 3) (d_neg d_int)) (dn 0))
      (z_one (z_sto A.cls_Space.cl A.n_Space_own_same (d_b Z.sum b_sum (c_dsum rfl) (d_cons (d_lc (own := [("mode", 5)]) (c := (.n 5)) rfl nd (d_rg1 Z.range (d_cons (dn 1) d_nil)) (blkOk_by (own := [("mode", 5)]) (N := N_Space___init__) (sc := defScope s_Space___init__) (by decide +kernel)) (fun _ _ _ _ _ => (gn 5 nd)) (fun _ _ _ _ _ => d_ts0) (fun _ _ _ _ _ => (d_ix (dn 3) (d_op o_dadd (d_op o_dmul (dn 5) (d_fld A.cls_Space.cl A.n_Space_own_ends (dn 0))) (dn 5))))) d_nil)) (dn 0)))))))))))), ?_⟩
  rintro ds M Q Ed ⟨p, n, w, rfl, hn, hp, k⟩
  have e1 : isFr (.int (n : Int)) 1 3 = true := by
    show (decide _ && decide _) = true
    rw [decide_eq_true (by have := hn.1; omega), decide_eq_true (by have := hn.2; omega)]; rfl
  obtain ⟨el1, el2, el3⟩ := E_le (w := w) hn
  refine ⟨_, _, _, rfl, trivial, ?_⟩
  rw [show isFr _ _ _ = true from e1]
  refine ⟨by decide, ifF (by decide) ?_⟩
  refine ⟨_, hp, rfl, ?_⟩
  refine ⟨_, mput_same, rfl, ?_⟩
  -- the number of ends
  have ends : ∀ {Q : DK} {M : Mm}, Q (.int (endsN n w : Nat)) M → (if w = true then Q (.int ((n : Int) + 1)) M else Q (.int ((n : Int) + 0)) M) := fun {Q M} q => by cases w <;> exact q
  have st : ∀ (Q : DK), Q (.int (endsN n w : Nat)) (mput (mput M p (.ins C_Space (putD "own_modes" (.int (n : Int)) []))) p (.ins C_Space (putD "own_watched" (.bl w) (putD "own_modes" (.int (n : Int)) [])))) →
      gOp hAdd (gVar 1) (gIf (gTru (gVar 2)) (gC (.int 1)) (gC (.int 0))) [some (.ref p), some (.int (n : Int)), some (.bl w), none, none, none] (mput (mput M p (.ins C_Space (putD "own_modes" (.int (n : Int)) []))) p (.ins C_Space (putD "own_watched" (.bl w) (putD "own_modes" (.int (n : Int)) [])))) Q := fun Q q => by cases w <;> exact q
  refine st _ ?_
  refine ⟨_, mput_same, rfl, ?_⟩
  refine ⟨rfl, ?_⟩
  refine ⟨_, mput_same, _, rfl, .inl (by have := hn.2; omega), rok (by omega) (by have : ((n : Int) * (endsN n w : Nat)) = ((n * endsN n w : Nat) : Int) := rfl; omega), ?_⟩
  refine forD_rng (n := n * endsN n w) (fun j δ M' => ∃ u, δ = [some (.ref p), some (.int (n : Int)), some (.bl w), some (.lst (pows j)), u, none] ∧ M' = mput (mput (mput M p (.ins C_Space (putD "own_modes" (.int (n : Int)) []))) p (.ins C_Space (putD "own_watched" (.bl w) (putD "own_modes" (.int (n : Int)) [])))) p (.ins C_Space (putD "own_ends" (.int (endsN n w : Nat)) (putD "own_watched" (.bl w) (putD "own_modes" (.int (n : Int)) []))))) ?_ ?_ ⟨none, rfl, rfl⟩
  · rintro j δ M' NX hj ⟨u, rfl, rfl⟩ nx
    refine ⟨_, pows_last j, .inr ⟨by decide, by decide⟩, sz_of ?_, nx _ _ ⟨some (.int (j : Int)), ?_, rfl⟩⟩
    · show (pows j ++ [_]).length ≤ 100
      rw [List.length_append, pows_len, List.length_singleton]; omega
    · show _ = [some (Da.ref p), some (Da.int (n : Int)), some (Da.bl w), some (Da.lst (pows (j + 1))), _, none]
      rw [← pows_snoc]
      rfl
  · rintro δ M' ⟨u, rfl, rfl⟩
    refine ⟨_, mput_same, rfl, ?_⟩
    refine ⟨_, pows_last _, _, mput_same, rfl, ?_⟩
    refine ⟨rok (by omega) (by have := hn.2; omega), ?_⟩
    rw [rngD0' (n := n) rfl]
    refine ⟨sz_of (by rw [List.length_map, List.length_range]; have := hn.2; omega), lcD_all (fun i : Nat => Da.int ((2 ^ (i * endsN n w + i) : Nat) : Int)) (fun _ _ => trivial) (fun i hi Q q => ?_) ?_⟩
    · have hi := List.mem_range.mp hi
      refine ⟨_, mput_same, _, rfl, .inl (by have := hn.2; omega), _, pows_at (k := i * endsN n w + i) ?_, q⟩
      have h1 : i * endsN n w ≤ (n - 1) * endsN n w := Nat.mul_le_mul_right _ (by omega)
      have h2 : (n - 1) * endsN n w + endsN n w = n * endsN n w := by
        rw [← Nat.succ_mul]; congr 1; have := hn.1; omega
      omega
    · refine ⟨_, asInts_fun _ _, _, mput_same, rfl, ?_⟩
      have es : ((List.range n).map fun i => ((2 ^ (i * endsN n w + i) : Nat) : Int)).sum = ((sam n (endsN n w) : Nat) : Int) := by
        obtain ⟨h1, h2⟩ := hn
        have : n = 1 ∨ n = 2 ∨ n = 3 := by omega
        rcases this with rfl | rfl | rfl <;> cases w <;> decide
      rw [es]
      simp only [mput_put]
      exact k
def spIsRel (C : Addr) : DSp := fun ds M Q _ => ∃ (n : Nat) (w : Bool) (x : Da), ds = [Spc C n w, x] ∧ OkN n ∧ okV x ∧ Q (.bl (isFr x 0 (((2 ^ (n * endsN n w) : Nat) : Int) - 1))) M
section
variable (A : Facts K C_Space) (M : MgOf K mg) (Z : Zs mg)
include A M Z
theorem D_Space_is_relation (D_is_from : KnD P w K mg base "is_from" 2 ["value", "first", "last"] spIsFrom) : KnMD P w K mg base C_Space "is_relation" 3 ["self", "value"] (spIsRel C_Space) := by
  refine KnMD.of A.m_Space_is_relation sc_Space_is_relation (fun _ _ _ _ _ _ us hl => match us, hl with | [_, _], _ => rfl) (fun ds M Q E ⟨_, _, _, h, _⟩ => by rw [h]; rfl) (fun f cdv A0 outer s H E hr => ?_)
  have nd := sc_Space_is_relation.nd
  refine ⟨_, (z_one (z_ret (d_call D_is_from (hr.mono (by decide)) (d_cons (dn 1) (d_cons d_int (d_cons (d_op o_dsub (d_fld A.cls_Space.cl A.n_Space_own_size (dn 0)) d_int) d_nil)))))), ?_⟩
  rintro ds M Q Ed ⟨n, w, x, rfl, hn, ok, q⟩
  exact ⟨rfl, _, rfl, x, 0, _, rfl, ok, q⟩
end
end

section
variable {P : Program} {w : World} {K : PySem.W.Frag} {mg : Str → Option Value} {base : Heap} {C_Space : Addr}
/-! ### one relation after another -/
/-- a space with n modes, watched or not -/
def spBit (C : Addr) : DSp := fun ds M Q _ => ∃ (n : Nat) (w : Bool) (m e : Nat), ds = [Spc C n w, .int m, .int e] ∧ OkN n ∧ m * endsN n w + e ≤ n * endsN n w ∧ Q (.int ((2 ^ (m * endsN n w + e) : Nat) : Int)) M
def spHas (C : Addr) : DSp := fun ds M Q _ => ∃ (n : Nat) (w : Bool) (r m e : Nat), ds = [Spc C n w, .int r, .int m, .int e] ∧ OkN n ∧ m * endsN n w + e ≤ n * endsN n w ∧ Q (.bl (r.testBit (m * endsN n w + e))) M
def spReqRel (C : Addr) : DSp := fun ds M Q _ => ∃ (n : Nat) (w : Bool) (r : Nat), ds = [Spc C n w, .int r] ∧ OkN n ∧ r < 2 ^ (n * endsN n w) ∧ Q .non M
def spLed (C : Addr) : DSp := fun ds M Q _ => ∃ (n : Nat) (w : Bool) (a b m e : Nat), ds = [Spc C n w, .int a, .int b, .int m, .int e] ∧ OkN n ∧ m < n ∧ e < endsN n w ∧ Q (.bl (led n (endsN n w) a b m e)) M
def spAfter (C : Addr) : DSp := fun ds M Q _ => ∃ (n : Nat) (w : Bool) (a b : Nat), ds = [Spc C n w, .int a, .int b] ∧ OkN n ∧ Q (.int (aft n (endsN n w) a b : Nat)) M
def spFollowed (C : Addr) : DSp := fun ds M Q _ => ∃ (n : Nat) (w : Bool) (a b : Nat), ds = [Spc C n w, .int a, .int b] ∧ OkN n ∧ a < 2 ^ (n * endsN n w) ∧ b < 2 ^ (n * endsN n w) ∧ Q (.int (aft n (endsN n w) a b : Nat)) M
def spEither (C : Addr) : DSp := fun ds M Q _ => ∃ (n : Nat) (w : Bool) (a b : Nat), ds = [Spc C n w, .int a, .int b] ∧ OkN n ∧ a < 2 ^ (n * endsN n w) ∧ b < 2 ^ (n * endsN n w) ∧ Q (.int (a ||| b : Nat)) M
def spWithin (C : Addr) : DSp := fun ds M Q _ => ∃ (n : Nat) (w : Bool) (a b : Nat), ds = [Spc C n w, .int a, .int b] ∧ OkN n ∧ a < 2 ^ (n * endsN n w) ∧ b < 2 ^ (n * endsN n w) ∧ Q (.bl (decide (a ||| b = b))) M
def spSame (C : Addr) : DSp := fun ds M Q _ => ∃ (n : Nat) (w : Bool), ds = [Spc C n w] ∧ Q (.int (sam n (endsN n w) : Nat)) M
theorem pow_lt {k : Nat} (h : k ≤ 12) : 0 < ((2 ^ k : Nat) : Int) ∧ ((2 ^ k : Nat) : Int) < 1073741824 := by
  have h1 : 2 ^ k ≤ 2 ^ 12 := Nat.pow_le_pow_right (by decide) h
  have h2 : 0 < 2 ^ k := Nat.pow_pos (by decide)
  have e : (2 : Nat) ^ 12 = 4096 := by decide
  omega
theorem bit_or (a b : Nat) : Builtin.bitOr (a : Int) (b : Int) = ((a ||| b : Nat) : Int) := by
  rw [bitOr_nn (Int.natCast_nonneg _) (Int.natCast_nonneg _)]; rfl
section
variable (A : Facts K C_Space) (M : MgOf K mg) (Z : Zs mg)
include A M Z
theorem D_Space_bit : KnMD P w K mg base C_Space "bit" 1 ["self", "mode", "end"] (spBit C_Space) := by
  refine KnMD.of A.m_Space_bit sc_Space_bit (fun _ _ _ _ _ _ us hl => match us, hl with | [_, _, _], _ => rfl) (fun ds M Q E ⟨_, _, _, _, h, _⟩ => by rw [h]; rfl) (fun f cdv A0 outer s H E hr => ?_)
  have nd := sc_Space_bit.nd
  refine ⟨_, (z_one (z_ret (d_ix (d_fld A.cls_Space.cl A.n_Space_own_powers (dn 0)) (d_op o_dadd (d_op o_dmul (dn 1) (d_fld A.cls_Space.cl A.n_Space_own_ends (dn 0))) (dn 2))))), ?_⟩
  rintro ds M Q Ed ⟨n, w, m, e, rfl, hn, hk, q⟩
  obtain ⟨_, el2, el3⟩ := E_le (w := w) hn
  refine ⟨rfl, _, rfl, ⟨rfl, _, rfl, .inr (by omega), _, pows_at hk, q⟩⟩
theorem D_Space_has (D_Space_bit : KnMD P w K mg base C_Space "bit" 1 ["self", "mode", "end"] (spBit C_Space)) : KnMD P w K mg base C_Space "has" 2 ["self", "relation", "mode", "end"] (spHas C_Space) := by
  refine KnMD.of A.m_Space_has sc_Space_has (fun _ _ _ _ _ _ us hl => match us, hl with | [_, _, _, _], _ => rfl) (fun ds M Q E ⟨_, _, _, _, _, h, _⟩ => by rw [h]; rfl) (fun f cdv A0 outer s H E hr => ?_)
  have hu := U.hu_of hr
  have nd := sc_Space_has.nd
  refine ⟨_, (z_one (z_ret (d_ecm (o_deq hu) (d_op o_dmod (d_op o_ddiv (dn 1) (d_meth D_Space_bit A.cls_Space.cl (hr.mono (by decide)) (dn 0) (d_cons (dn 2) (d_cons (dn 3) d_nil)))) d_int) d_int))), ?_⟩
  rintro ds M Q Ed ⟨n, w, r, m, e, rfl, hn, hk, q⟩
  obtain ⟨_, el2, el3⟩ := E_le (w := w) hn
  refine ⟨⟨rfl, rfl⟩, n, w, m, e, rfl, hn, hk, pow_lt (by omega), by decide, ?_⟩
  rw [← has_bit] at q
  exact q
theorem D_Space_require_relation (D_Space_is_relation : KnMD P w K mg base C_Space "is_relation" 3 ["self", "value"] (spIsRel C_Space)) : KnMD P w K mg base C_Space "require_relation" 4 ["self", "value"] (spReqRel C_Space) := by
  refine KnMD.of A.m_Space_require_relation sc_Space_require_relation (fun _ _ _ _ _ _ us hl => match us, hl with | [_, _], _ => rfl) (fun ds M Q E ⟨_, _, _, h, _⟩ => by rw [h]; rfl) (fun f cdv A0 outer s H E hr => ?_)
  have nd := sc_Space_require_relation.nd
  refine ⟨_, (z_one (z_if (d_tnot (d_tv (d_meth D_Space_is_relation A.cls_Space.cl (hr.mono (by decide)) (dn 0) (d_cons (dn 1) d_nil)))) (z_one z_never) z_nil)), ?_⟩
  rintro ds M Q Ed ⟨n, w, r, rfl, hn, hr', q⟩
  have e : isFr (.int (r : Int)) 0 (((2 ^ (n * endsN n w) : Nat) : Int) - 1) = true := by
    simp only [isFr]
    rw [decide_eq_true (by omega), decide_eq_true (by omega)]; rfl
  refine ⟨⟨rfl, rfl⟩, n, w, _, rfl, hn, trivial, ?_⟩
  rw [show isFr _ _ _ = true from e]
  exact q
theorem D_Space_either (D_Space_require_relation : KnMD P w K mg base C_Space "require_relation" 4 ["self", "value"] (spReqRel C_Space)) : KnMD P w K mg base C_Space "either" 5 ["self", "one", "other"] (spEither C_Space) := by
  refine KnMD.of A.m_Space_either sc_Space_either (fun _ _ _ _ _ _ us hl => match us, hl with | [_, _, _], _ => rfl) (fun ds M Q E ⟨_, _, _, _, h, _⟩ => by rw [h]; rfl) (fun f cdv A0 outer s H E hr => ?_)
  have nd := sc_Space_either.nd
  refine ⟨_, (z_cons (z_expr (d_meth D_Space_require_relation A.cls_Space.cl (hr.mono (by decide)) (dn 0) (d_cons (dn 1) d_nil)))
      (z_cons (z_expr (d_meth D_Space_require_relation A.cls_Space.cl (hr.mono (by decide)) (dn 0) (d_cons (dn 2) d_nil)))
      (z_one (z_ret (d_op o_dor (dn 1) (dn 2)))))), ?_⟩
  rintro ds M Q Ed ⟨n, w, a, b, rfl, hn, ha, hb, q⟩
  refine ⟨⟨rfl, rfl⟩, n, w, a, rfl, hn, ha, ⟨rfl, rfl⟩, n, w, b, rfl, hn, hb, ?_⟩
  rw [← bit_or] at q
  exact q
theorem D_Space_is_within (D_Space_require_relation : KnMD P w K mg base C_Space "require_relation" 4 ["self", "value"] (spReqRel C_Space)) : KnMD P w K mg base C_Space "is_within" 5 ["self", "one", "other"] (spWithin C_Space) := by
  refine KnMD.of A.m_Space_is_within sc_Space_is_within (fun _ _ _ _ _ _ us hl => match us, hl with | [_, _, _], _ => rfl) (fun ds M Q E ⟨_, _, _, _, h, _⟩ => by rw [h]; rfl) (fun f cdv A0 outer s H E hr => ?_)
  have hu := U.hu_of hr
  have nd := sc_Space_is_within.nd
  refine ⟨_, (z_cons (z_expr (d_meth D_Space_require_relation A.cls_Space.cl (hr.mono (by decide)) (dn 0) (d_cons (dn 1) d_nil)))
      (z_cons (z_expr (d_meth D_Space_require_relation A.cls_Space.cl (hr.mono (by decide)) (dn 0) (d_cons (dn 2) d_nil)))
      (z_one (z_ret (d_ecm (o_deq hu) (d_op o_dor (dn 1) (dn 2)) (dn 2)))))), ?_⟩
  rintro ds M Q Ed ⟨n, w, a, b, rfl, hn, ha, hb, q⟩
  refine ⟨⟨rfl, rfl⟩, n, w, a, rfl, hn, ha, ⟨rfl, rfl⟩, n, w, b, rfl, hn, hb, ?_⟩
  have e : decide (a ||| b = b) = decide (Builtin.bitOr (a : Int) (b : Int) = (b : Int)) := by
    rw [bit_or]
    congr 1
    apply propext
    omega
  rw [e] at q
  exact q
theorem D_Space_same : KnPD P w K mg base C_Space "same" 1 ["self"] (spSame C_Space) := by
  refine KnPD.of A.p_Space_same sc_Space_same (fun _ _ _ _ _ _ us hl => match us, hl with | [_], _ => rfl) (fun ds M Q E ⟨_, _, h, _⟩ => by rw [h]; rfl) (fun f cdv A0 outer s H E hr => ?_)
  have nd := sc_Space_same.nd
  refine ⟨_, (z_one (z_ret (d_fld A.cls_Space.cl A.n_Space_own_same (dn 0)))), ?_⟩
  rintro ds M Q Ed ⟨n, w, rfl, q⟩
  exact ⟨rfl, _, rfl, q⟩
end
end

/-! ### the law's own pairs: cells as codes -/
def pr (E k : Nat) : List Int := [((k / E : Nat) : Int), ((k % E : Nat) : Int)]
/-- the cells of a relation -/
def cel (r : Nat) : List Nat := (List.range 12).filter r.testBit
def celN (r j : Nat) : List Nat := (List.range j).filter r.testBit
def rowD (E : Nat) (ks : List Nat) : Da := .lst (ks.map fun k => tupI (pr E k))
theorem cel_mem {r k : Nat} : k ∈ cel r ↔ k < 12 ∧ r.testBit k = true := by unfold cel; rw [List.mem_filter, List.mem_range]
theorem cel_len (r : Nat) : (cel r).length ≤ 12 := by
  unfold cel
  have := List.length_filter_le r.testBit (List.range 12)
  rw [List.length_range] at this
  exact this
theorem celN_succ (r j : Nat) : celN r (j + 1) = celN r j ++ if r.testBit j = true then [j] else [] := by
  unfold celN
  rw [List.range_succ, List.filter_append]
  congr 1
  cases h : r.testBit j <;> simp [h]
theorem celN_len (r j : Nat) : (celN r j).length ≤ j := by
  unfold celN
  have := List.length_filter_le r.testBit (List.range j)
  rw [List.length_range] at this
  exact this
def Ok4 (E : Nat) : Prop := 1 ≤ E ∧ E ≤ 4
def spPairs : DSp := fun ds M Q _ => ∃ (E r : Nat), ds = [.int E, .int r] ∧ Ok4 E ∧ Q (rowD E (cel r)) M
def spBits : DSp := fun ds M Q _ => ∃ (E : Nat) (ks : List Nat), ds = [.int E, rowD E ks] ∧ Ok4 E ∧ ks.length < 64 ∧ (∀ k ∈ ks, k < 12) ∧ Q (.int (ofB (fun k => ks.contains k) 12 : Nat)) M
def spThen : DSp := fun ds M Q _ => ∃ (n E a b : Nat), ds = [.int n, .int E, rowD E (cel a), rowD E (cel b)] ∧ Ok4 E ∧ n ≤ E ∧ n ≤ 3 ∧ n * E ≤ 12 ∧ a < 2 ^ (n * E) ∧ b < 2 ^ (n * E) ∧
  ∀ ks : List Nat, ks.length < 64 → (∀ k, k ∈ ks ↔ k < n * E ∧ led n E a b (k / E) (k % E) = true) → Q (rowD E ks) M
def spSizes : DSp := fun ds M Q _ => ∃ (n : Nat) (w : Bool), ds = [.int n, .bl w] ∧ OkN n ∧ Q (.lst [.int (endsN n w : Nat), .int ((2 ^ (n * endsN n w) : Nat) : Int)]) M
theorem pr_ok {E k : Nat} (hE : Ok4 E) (hk : k < 12) : (pr E k).length = 2 ∧ TS.Bd 64 (pr E k) := by
  refine ⟨rfl, fun m hm => ?_⟩
  have h1 : k / E ≤ k := Nat.div_le_self _ _
  have h2 := Nat.mod_lt k hE.1
  have h3 := hE.2
  unfold pr at hm
  simp only [List.mem_cons, List.not_mem_nil, or_false] at hm
  rcases hm with rfl | rfl
  · exact ⟨Int.natCast_nonneg _, by show ((k / E : Nat) : Int) < ((64 : Nat) : Int); exact Int.ofNat_lt.mpr (by omega)⟩
  · exact ⟨Int.natCast_nonneg _, by show ((k % E : Nat) : Int) < ((64 : Nat) : Int); exact Int.ofNat_lt.mpr (by omega)⟩
theorem pr_inj {E k l : Nat} (h : pr E k = pr E l) : k = l := by
  unfold pr at h
  have h' := List.cons.inj h
  have h2 := List.cons.inj h'.2
  have e1 : k / E = l / E := by have := h'.1; omega
  have e2 : k % E = l % E := by have := h2.1; omega
  rw [← Nat.div_add_mod k E, e1, e2, Nat.div_add_mod]
/-- a list of such pairs, by codes -/
theorem codes_get {E : Nat} {ks : List Nat} : ∀ {ns : List (List Int)}, (∀ m ∈ ns, m ∈ ks.map (pr E)) → ∃ ls : List Nat, ns = ls.map (pr E) ∧ ∀ l ∈ ls, l ∈ ks
  | [], _ => ⟨[], rfl, fun l h => nomatch h⟩
  | m :: ns, h => by
    obtain ⟨ls, e, hl⟩ := codes_get fun m hm => h m (List.mem_cons_of_mem _ hm)
    obtain ⟨k, hk, rfl⟩ := List.mem_map.mp (h m List.mem_cons_self)
    exact ⟨k :: ls, by rw [e]; rfl, fun l hl' => by
      rcases List.mem_cons.mp hl' with e | e
      · rw [e]; exact hk
      · exact hl l e⟩
/-- what sorted(set(..)) gives of such pairs -/
theorem sose_codes {E : Nat} {ks : List Nat} (hE : Ok4 E) (hl : ks.length < 64) (hk : ∀ k ∈ ks, k < 12) {M : Mm} {Q : DK} (h : ∀ ls : List Nat, ls.Nodup → (∀ l, l ∈ ls ↔ l ∈ ks) → Q (rowD E ls) M) {f : DTE} {δ : De} {M0 : Mm} (hf : ∀ C : DK, C (rowD E ks) M → f δ M0 C) : gSoSe 2 64 f δ M0 Q := by
  refine ⟨hf _ ⟨ks.map (pr E), asTups_fun (pr E) ks, by rw [List.length_map]; exact hl, fun m hm => ?_, fun ns nd hm _ => ?_⟩⟩
  · obtain ⟨k, hk', rfl⟩ := List.mem_map.mp hm
    exact pr_ok hE (hk k hk')
  · obtain ⟨ls, rfl, hls⟩ := codes_get fun m h => (hm m).mp h
    have e : ((ls.map (pr E)).map tupI) = ls.map fun k => tupI (pr E k) := by rw [List.map_map]; rfl
    show Q (.lst ((ls.map (pr E)).map tupI)) M
    rw [e]
    refine h ls (List.Pairwise.of_map (pr E) (fun a b h e => h (congrArg _ e)) nd) fun l => ⟨hls l, fun hl => ?_⟩
    obtain ⟨k, hk1, hk2⟩ := List.mem_map.mp ((hm _).mpr (List.mem_map_of_mem (f := pr E) hl))
    exact pr_inj hk2 ▸ hk1
theorem half_pow (r j : Nat) : ((r / 2 ^ j : Nat) : Int) / 2 = ((r / 2 ^ (j + 1) : Nat) : Int) := by
  have : r / 2 ^ (j + 1) = r / 2 ^ j / 2 := by rw [Nat.pow_succ, Nat.div_div_eq_div_mul]
  omega
theorem bit_mod (r j : Nat) : decide (((r / 2 ^ j : Nat) : Int) % 2 = 1) = r.testBit j := by
  rw [Nat.testBit_eq_decide_div_mod_eq]
  congr 1
  apply propext
  omega
theorem powD : ([.int 1, .int 2, .int 4, .int 8, .int 16, .int 32, .int 64, .int 128, .int 256, .int 512, .int 1024, .int 2048] : List Da) = (List.range 12).map fun k => Da.int ((2 ^ k : Nat) : Int) := rfl
theorem powD' : ([.int 1, .int 2, .int 4, .int 8, .int 16, .int 32, .int 64, .int 128, .int 256, .int 512, .int 1024, .int 2048, .int 4096] : List Da) = (List.range 13).map fun k => Da.int ((2 ^ k : Nat) : Int) := rfl
theorem pow_at {N k : Nat} (h : k < N) : atI ((List.range N).map fun k => Da.int ((2 ^ k : Nat) : Int)) (k : Nat) = some (.int ((2 ^ k : Nat) : Int)) :=
  atI_nat (by rw [List.getElem?_map, List.getElem?_range h]; rfl)
section
variable {P : Program} {w : World} {K : PySem.W.Frag} {mg : Str → Option Value} {base : Heap} {C_Space : Addr}
variable (A : Facts K C_Space) (M : MgOf K mg) (Z : Zs mg)
include A M Z
theorem D__law_pairs : KnD P w K mg base "_law_pairs" 1 ["_law_ends_here", "_law_relation"] spPairs := by
  refine KnD.of A.d__law_pairs M sc__law_pairs (fun _ _ _ _ _ _ us hl => match us, hl with | [_, _], _ => rfl) (fun ds M Q E ⟨_, _, h, _⟩ => by rw [h]; rfl) (fun f cdv A0 outer s H E hr => ?_)
  have hu := U.hu_of hr
  have nd := sc__law_pairs.nd
  refine ⟨_, (z_cons (z_par3 (i := 2) (j := 3) (l := 4) rfl nd rfl rfl rfl (by decide) (by decide) (by decide) rfl rfl rfl (d_cons (d_lstM d_nil) (d_cons (dn 1) (d_cons d_int d_nil))) (by rfl))
      (z_cons (z_for PassesOwn.never rfl (d_rg1 Z.range (d_cons d_int d_nil)) (t_n 5 nd) (z_cons (z_if (d_tcm (o_deq hu) (d_op o_dmod (dn 3) d_int) d_int) (z_one (z_expr (d_append (dn 2) (d_cons (d_tup (d_cons (d_op o_ddiv (dn 4) (dn 0)) (d_cons (d_op o_dmod (dn 4) (dn 0)) d_nil))) d_nil)))) z_nil)
      (z_one (ps_imp (ps_par (i := 3) (j := 4) rfl nd rfl rfl (by decide) rfl rfl (d_cons (d_op o_ddiv (dn 3) d_int) (d_cons (d_op o_dadd (dn 4) d_int) d_nil)) (by rfl)) fun _ _ _ h => li_par h))))
      (z_one (z_ret (d_stl (dn 2)))))), ?_⟩
  rintro ds M Q Ed ⟨E, r, rfl, hE, q⟩
  refine ⟨rfl, fun p hp => ?_⟩
  refine ⟨rok (by omega) (by omega), ?_⟩
  refine forD_rng (n := 12) (fun j δ M' => ∃ u, δ = [some (.int (E : Int)), some (.int (r : Int)), some (.ref p), some (.int ((r / 2 ^ j : Nat) : Int)), some (.int (j : Int)), u] ∧ M' = mput M p (.lst ((celN r j).map fun k => tupI (pr E k)))) ?_ ?_ ⟨none, by rw [Nat.pow_zero, Nat.div_one]; rfl, rfl⟩
  · rintro j δ M' NX hj ⟨u, rfl, rfl⟩ nx
    refine ⟨by decide, ?_⟩
    have fin : ∀ M2, M2 = mput M p (.lst ((celN r (j + 1)).map fun k => tupI (pr E k))) → NX [some (.int (E : Int)), some (.int (r : Int)), some (.ref p), some (.int (((r / 2 ^ j : Nat) : Int) / 2)), some (.int ((j : Int) + 1)), some (.int (j : Int))] M2 := fun M2 e => nx _ _ ⟨_, by rw [half_pow]; rfl, e⟩
    refine ite2 (fun c => ?_) (fun c => ?_)
    · rw [bit_mod] at c
      refine ⟨⟨p, _, rfl, mput_same⟩, ⟨by have := hE.1; omega, by have := hE.2; omega⟩, by have := hE.1; omega, rfl, ?_⟩
      refine ⟨_, mput_same, sz_of (by rw [List.length_map]; have := celN_len r j; omega), ?_⟩
      refine ⟨⟨by decide, by decide⟩, fin _ ?_⟩
      rw [mput_put, celN_succ, if_pos c, List.map_append]
      rfl
    · rw [bit_mod] at c
      refine ⟨⟨by decide, by decide⟩, fin _ ?_⟩
      rw [celN_succ, if_neg c, List.append_nil]
  · rintro δ M' ⟨u, rfl, rfl⟩
    refine ⟨_, mput_same, ?_⟩
    rw [mdel_put hp]
    exact q
theorem D__law_bits : KnD P w K mg base "_law_bits" 1 ["_law_ends_here", "_law_pairs_here"] spBits := by
  refine KnD.of A.d__law_bits M sc__law_bits (fun _ _ _ _ _ _ us hl => match us, hl with | [_, _], _ => rfl) (fun ds M Q E ⟨_, _, h, _⟩ => by rw [h]; rfl) (fun f cdv A0 outer s H E hr => ?_)
  have hu := U.hu_of hr
  have nd := sc__law_bits.nd
  refine ⟨_, (z_cons (z_set 2 nd (d_tup (d_cons d_int (d_cons d_int (d_cons d_int (d_cons d_int (d_cons d_int (d_cons d_int (d_cons d_int (d_cons d_int (d_cons d_int (d_cons d_int (d_cons d_int (d_cons d_int d_nil))))))))))))))
      (z_one (z_ret (d_b Z.sum b_sum (c_dsum rfl) (d_cons (d_lc (own := [("_law_mode", 3), ("_law_end", 4)]) (c := (.t [3, 4])) rfl nd (d_it (d_sose (d := 2) (B := 64) (by decide) rfl hu Z.sorted Z.set (d_stl (dn 1)))) (blkOk_by (own := [("_law_mode", 3), ("_law_end", 4)]) (N := N__law_bits) (sc := defScope s__law_bits) (by decide +kernel)) (fun _ _ _ _ _ => (pg_tup rfl (pgs_cons (gn 3 nd) (pgs_cons (gn 4 nd) pgs_nil)))) (fun _ _ _ _ _ => d_ts0) (fun _ _ _ _ _ => (d_ix (dn 2) (d_op o_dadd (d_op o_dmul (dn 3) (dn 0)) (dn 4))))) d_nil))))), ?_⟩
  rintro ds M Q Ed ⟨E, ks, rfl, hE, hl, hk, q⟩
  refine ⟨rfl, ?_⟩
  have key : ∀ Q' : DK, (∀ ls : List Nat, ls.Nodup → (∀ l, l ∈ ls ↔ l ∈ ks) → Q' (rowD E ls) M) → gSoSe 2 64 (gStl (gVar 1)) [some (.int (E : Int)), some (rowD E ks), some (.tup [.int 1, .int 2, .int 4, .int 8, .int 16, .int 32, .int 64, .int 128, .int 256, .int 512, .int 1024, .int 2048]), none, none] M Q' := fun Q' h => sose_codes hE hl hk h fun C c => c
  refine key _ fun ls nd hls => ?_
  have hlen : ls.length ≤ 12 := nodup_le nd fun c hc => hk c ((hls c).mp hc)
  refine ⟨sz_of (by rw [List.length_map]; omega), lcD_all (fun k : Nat => Da.int ((2 ^ k : Nat) : Int)) (fun _ _ => rfl) (fun k hk' Q q => ?_) ?_⟩
  · have h12 := hk k ((hls k).mp hk')
    refine ⟨.inr (by have := hE.2; omega), ?_⟩
    have e : ((k / E : Nat) : Int) * (E : Int) + ((k % E : Nat) : Int) = (k : Int) := by
      have := Nat.div_add_mod k E
      rw [Nat.mul_comm] at this
      omega
    refine ⟨_, ?_, q⟩
    rw [e, powD]
    exact pow_at h12
  · refine ⟨_, asInts_fun _ _, ?_⟩
    rw [sum_int, sum_pow nd fun c hc => hk c ((hls c).mp hc)]
    have : (fun k => ls.contains k) = fun k => ks.contains k := by
      funext k
      have := hls k
      rw [Bool.eq_iff_iff]
      simpa using this
    rw [this]
    exact q
theorem D__law_sizes : KnD P w K mg base "_law_sizes" 1 ["_law_modes", "_law_watched"] spSizes := by
  refine KnD.of A.d__law_sizes M sc__law_sizes (fun _ _ _ _ _ _ us hl => match us, hl with | [_, _], _ => rfl) (fun ds M Q E ⟨_, _, h, _⟩ => by rw [h]; rfl) (fun f cdv A0 outer s H E hr => ?_)
  have nd := sc__law_sizes.nd
  refine ⟨_, (z_cons (z_set 2 nd (d_op o_dadd (dn 0) (d_t Z.int b_int c_dint (d_cons (dn 1) d_nil))))
      (z_one (z_ret (d_lst (d_cons (dn 2) (d_cons (d_ix (d_tup (d_cons d_int (d_cons d_int (d_cons d_int (d_cons d_int (d_cons d_int (d_cons d_int (d_cons d_int (d_cons d_int (d_cons d_int (d_cons d_int (d_cons d_int (d_cons d_int (d_cons d_int d_nil)))))))))))))) (d_op o_dmul (dn 0) (dn 2))) d_nil)))))), ?_⟩
  rintro ds M Q Ed ⟨n, w, rfl, hn, q⟩
  obtain ⟨_, el2, el3⟩ := E_le (w := w) hn
  have key : ∀ {x : Int}, x = ((endsN n w : Nat) : Int) → atI ([.int 1, .int 2, .int 4, .int 8, .int 16, .int 32, .int 64, .int 128, .int 256, .int 512, .int 1024, .int 2048, .int 4096] : List Da) ((n : Int) * x) = some (.int ((2 ^ (n * endsN n w) : Nat) : Int)) := fun e => by
    rw [e, powD']
    exact pow_at (k := n * endsN n w) (by omega)
  cases w
  · exact ⟨rfl, .inl (by have := hn.2; omega), _, key rfl, rfl, q⟩
  · exact ⟨rfl, .inl (by have := hn.2; omega), _, key rfl, rfl, q⟩
end

/-! ### rows of scalars -/
def okT : Da → Prop
  | .tup xs => Sz xs.length ∧ ∀ y ∈ xs, okV y
  | x => okV x

/-! ### what a space tells -/
def spModes (C : Addr) : DSp := fun ds M Q _ => ∃ (n : Nat) (w : Bool), ds = [Spc C n w] ∧ Q (.int (n : Nat)) M
def spWatched (C : Addr) : DSp := fun ds M Q _ => ∃ (n : Nat) (w : Bool), ds = [Spc C n w] ∧ Q (.bl w) M
def spEnds (C : Addr) : DSp := fun ds M Q _ => ∃ (n : Nat) (w : Bool), ds = [Spc C n w] ∧ Q (.int (endsN n w : Nat)) M
def spSize (C : Addr) : DSp := fun ds M Q _ => ∃ (n : Nat) (w : Bool), ds = [Spc C n w] ∧ Q (.int ((2 ^ (n * endsN n w) : Nat) : Int)) M
theorem D_Space_modes {P : Program} {w : World} {K : PySem.W.Frag} {mg : Str → Option Value} {base : Heap} {C_Space : Addr} (A : Facts K C_Space) (M : MgOf K mg) (Z : Zs mg)  : KnPD P w K mg base C_Space "modes" 1 ["self"] (spModes C_Space) := by
  refine KnPD.of A.p_Space_modes sc_Space_modes (fun _ _ _ _ _ _ us hl => match us, hl with | [_], _ => rfl) (fun ds M Q E ⟨_, _, h, _⟩ => by rw [h]; rfl) (fun f cdv A0 outer s H E hr => ?_)
  have hu := U.hu_of hr
  have hu1 := U.hu1_of hr
  have nd := sc_Space_modes.nd
  refine ⟨_, (z_one (z_ret (d_fld A.cls_Space.cl A.n_Space_own_modes (dn 0)))), ?_⟩
  rintro ds M Q Ed ⟨n, w, rfl, q⟩
  exact ⟨rfl, _, rfl, q⟩
theorem D_Space_watched {P : Program} {w : World} {K : PySem.W.Frag} {mg : Str → Option Value} {base : Heap} {C_Space : Addr} (A : Facts K C_Space) (M : MgOf K mg) (Z : Zs mg)  : KnPD P w K mg base C_Space "watched" 1 ["self"] (spWatched C_Space) := by
  refine KnPD.of A.p_Space_watched sc_Space_watched (fun _ _ _ _ _ _ us hl => match us, hl with | [_], _ => rfl) (fun ds M Q E ⟨_, _, h, _⟩ => by rw [h]; rfl) (fun f cdv A0 outer s H E hr => ?_)
  have hu := U.hu_of hr
  have hu1 := U.hu1_of hr
  have nd := sc_Space_watched.nd
  refine ⟨_, (z_one (z_ret (d_fld A.cls_Space.cl A.n_Space_own_watched (dn 0)))), ?_⟩
  rintro ds M Q Ed ⟨n, w, rfl, q⟩
  exact ⟨rfl, _, rfl, q⟩
theorem D_Space_ends {P : Program} {w : World} {K : PySem.W.Frag} {mg : Str → Option Value} {base : Heap} {C_Space : Addr} (A : Facts K C_Space) (M : MgOf K mg) (Z : Zs mg)  : KnPD P w K mg base C_Space "ends" 1 ["self"] (spEnds C_Space) := by
  refine KnPD.of A.p_Space_ends sc_Space_ends (fun _ _ _ _ _ _ us hl => match us, hl with | [_], _ => rfl) (fun ds M Q E ⟨_, _, h, _⟩ => by rw [h]; rfl) (fun f cdv A0 outer s H E hr => ?_)
  have hu := U.hu_of hr
  have hu1 := U.hu1_of hr
  have nd := sc_Space_ends.nd
  refine ⟨_, (z_one (z_ret (d_fld A.cls_Space.cl A.n_Space_own_ends (dn 0)))), ?_⟩
  rintro ds M Q Ed ⟨n, w, rfl, q⟩
  exact ⟨rfl, _, rfl, q⟩
theorem D_Space_size {P : Program} {w : World} {K : PySem.W.Frag} {mg : Str → Option Value} {base : Heap} {C_Space : Addr} (A : Facts K C_Space) (M : MgOf K mg) (Z : Zs mg)  : KnPD P w K mg base C_Space "size" 1 ["self"] (spSize C_Space) := by
  refine KnPD.of A.p_Space_size sc_Space_size (fun _ _ _ _ _ _ us hl => match us, hl with | [_], _ => rfl) (fun ds M Q E ⟨_, _, h, _⟩ => by rw [h]; rfl) (fun f cdv A0 outer s H E hr => ?_)
  have hu := U.hu_of hr
  have hu1 := U.hu1_of hr
  have nd := sc_Space_size.nd
  refine ⟨_, (z_one (z_ret (d_fld A.cls_Space.cl A.n_Space_own_size (dn 0)))), ?_⟩
  rintro ds M Q Ed ⟨n, w, rfl, q⟩
  exact ⟨rfl, _, rfl, q⟩
/-- all cells, row by row -/
theorem cells_list (E : Nat) (hE : 0 < E) : ∀ n, ((List.range n).flatMap fun m : Nat => (List.range E).map fun e : Nat => tupI [(m : Int), (e : Int)]) = (List.range (n * E)).map fun k => tupI (pr E k)
  | 0 => by simp
  | n + 1 => by
    rw [List.range_succ, List.flatMap_append, cells_list E hE n, Nat.succ_mul, List.range_add, List.map_append]
    congr 1
    rw [List.flatMap_singleton, List.map_map]
    apply List.map_congr_left
    intro e he
    have he := List.mem_range.mp he
    show _ = tupI (pr E (n * E + e))
    unfold pr
    rw [cell_div he, cell_mod he]
theorem cel_N {r N : Nat} (h : r < 2 ^ N) (hN : N ≤ 12) : (List.range N).filter r.testBit = cel r := by
  unfold cel
  obtain ⟨j, hj⟩ := Nat.le.dest hN
  have e : (12 : Nat) = N + j := hj.symm
  rw [show List.range 12 = List.range (N + j) from by rw [← e], List.range_add, List.filter_append]
  have : ((List.range j).map fun x => N + x).filter r.testBit = [] := by
    rw [List.filter_eq_nil_iff]
    intro k hk hb
    obtain ⟨x, _, rfl⟩ := List.mem_map.mp hk
    have := bit_lt h hb
    omega
  rw [this, List.append_nil]
def tupR (E : Nat) (ks : List Nat) : Da := .tup (ks.map fun k => tupI (pr E k))
def spPairsM (C : Addr) : DSp := fun ds M Q _ => ∃ (n : Nat) (w : Bool) (r : Nat), ds = [Spc C n w, .int r] ∧ OkN n ∧ r < 2 ^ (n * endsN n w) ∧ Q (tupR (endsN n w) (cel r)) M
theorem D_Space_pairs {P : Program} {w : World} {K : PySem.W.Frag} {mg : Str → Option Value} {base : Heap} {C_Space : Addr} (A : Facts K C_Space) (M : MgOf K mg) (Z : Zs mg) (D_Space_require_relation : KnMD P w K mg base C_Space "require_relation" 4 ["self", "value"] (spReqRel C_Space)) (D_Space_has : KnMD P w K mg base C_Space "has" 2 ["self", "relation", "mode", "end"] (spHas C_Space)) : KnMD P w K mg base C_Space "pairs" 5 ["self", "relation"] (spPairsM C_Space) := by
  refine KnMD.of A.m_Space_pairs sc_Space_pairs (fun _ _ _ _ _ _ us hl => match us, hl with | [_, _], _ => rfl) (fun ds M Q E ⟨_, _, _, h, _⟩ => by rw [h]; rfl) (fun f cdv A0 outer s H E hr => ?_)
  have hu := U.hu_of hr
  have hu1 := U.hu1_of hr
  have nd := sc_Space_pairs.nd
  refine ⟨_, (z_cons (z_expr (d_meth D_Space_require_relation A.cls_Space.cl (hr.mono (by decide)) (dn 0) (d_cons (dn 1) d_nil)))
      (z_cons (z_setLc2 (i := 2) (own := [("mode", 3), ("end", 4)]) (c := (.n 3)) (c1 := (.n 4)) (vs1 := [4]) rfl nd (d_rg1 Z.range (d_cons (d_fld A.cls_Space.cl A.n_Space_own_modes (dn 0)) d_nil)) (blkOk_by (own := [("mode", 3), ("end", 4)]) (N := N_Space_pairs) (sc := defScope s_Space_pairs) (by decide +kernel)) (by decide) (fun _ _ _ _ _ => (gn 3 nd)) (fun _ _ _ _ _ => d_ts0) (fun _ _ _ _ _ => (d_rg1 Z.range (d_cons (d_fld A.cls_Space.cl A.n_Space_own_ends (dn 0)) d_nil))) (fun _ _ _ _ _ => (gn 4 nd)) (fun _ _ _ _ _ => d_ts0) (fun _ _ _ _ _ => (d_tup (d_cons (dn 3) (d_cons (dn 4) d_nil)))) rfl rfl (sw_true rfl rfl rfl (by decide +kernel)))
      (z_one (z_ret (d_t Z.tuple b_tuple c_dtuple (d_cons (d_lc (own := [("pair", 5)]) (c := (.n 5)) rfl nd (d_it (dn 2)) (blkOk_by (own := [("pair", 5)]) (N := N_Space_pairs) (sc := defScope s_Space_pairs) (by decide +kernel)) (fun _ _ _ _ _ => (gn 5 nd)) (fun _ _ _ _ _ => (d_ts1 (d_tv (d_methSB D_Space_has A.cls_Space.cl (hr.mono (by decide)) (dn 0) (dn 1) (dn 5))))) (fun _ _ _ _ _ => (dn 5))) d_nil)))))), ?_⟩
  rintro ds M Q Ed ⟨n, w, r, rfl, hn, hr, q⟩
  obtain ⟨el1, el2, el3⟩ := E_le (w := w) hn
  have hE0 : 0 < endsN n w := by have := hn.1; omega
  refine ⟨⟨rfl, rfl⟩, n, w, r, rfl, hn, hr, ?_⟩
  refine ⟨rfl, _, rfl, rok (by omega) (by have := hn.2; omega), ?_⟩
  rw [rngD0' (n := n) rfl]
  refine ⟨sq (by rw [List.length_map, List.length_range]; have := hn.2; omega), ?_⟩
  refine lc2D_all (inn := fun _ : Nat => List.range (endsN n w)) (h := fun e : Nat => Da.int (e : Int)) (f := fun (m e : Nat) => tupI [(m : Int), (e : Int)]) (fun m hm => ⟨trivial, sr (by rw [List.length_range]; omega), fun Q q => ⟨rfl, _, rfl, rok (by omega) (by omega), ?_⟩⟩) (fun m hm e he => ⟨trivial, fun Q q => ⟨rfl, q⟩⟩) ?_
  · rw [rngD0' (n := endsN n w) rfl]
    exact q
  · rw [cells_list _ hE0]
    refine ⟨sz (by rw [List.length_map, List.length_range]; omega), lcD_map r.testBit (fun k => tupI (pr (endsN n w) k)) (fun k hk => ⟨trivial, fun Q q => ?_⟩) (fun k hk _ Q q => q) ?_⟩
    · have hk := List.mem_range.mp hk
      refine ⟨⟨rfl, rfl⟩, n, w, r, k / endsN n w, k % endsN n w, rfl, hn, by rw [div_mod]; omega, ?_⟩
      rw [div_mod]
      exact q
    · rw [cel_N hr el3]
      exact q
/-- a pair of a mode and an end -/
def isPrB (n E : Nat) : Da → Bool
  | .tup [a, b] => isFr a 0 ((n : Int) - 1) && isFr b 0 ((E : Int) - 1)
  | _ => false
def spIsPair (C : Addr) : DSp := fun ds M Q _ => ∃ (n : Nat) (w : Bool) (x : Da), ds = [Spc C n w, x] ∧ okT x ∧ Q (.bl (isPrB n (endsN n w) x)) M
theorem D_Space_is_pair {P : Program} {w : World} {K : PySem.W.Frag} {mg : Str → Option Value} {base : Heap} {C_Space : Addr} (A : Facts K C_Space) (M : MgOf K mg) (Z : Zs mg) (D_is_from : KnD P w K mg base "is_from" 2 ["value", "first", "last"] spIsFrom) : KnMD P w K mg base C_Space "is_pair" 3 ["self", "value"] (spIsPair C_Space) := by
  refine KnMD.of A.m_Space_is_pair sc_Space_is_pair (fun _ _ _ _ _ _ us hl => match us, hl with | [_, _], _ => rfl) (fun ds M Q E ⟨_, _, _, h, _⟩ => by rw [h]; rfl) (fun f cdv A0 outer s H E hr => ?_)
  have hu := U.hu_of hr
  have hu1 := U.hu1_of hr
  have nd := sc_Space_is_pair.nd
  refine ⟨_, (z_cons (z_if (d_w (d_or (d_tnot (d_tv (d_b Z.isinstance b_isinstance c_disi (d_cons (dn 1) (d_cons (d_ty Z.tuple b_tuple) d_nil))))) (d_or1 (d_tcm (o_dne hu) (d_b Z.len b_len c_dlen (d_cons (dn 1) d_nil)) d_int)))) (z_one (z_ret d_bl)) z_nil)
      (z_one (z_ret (d_eand (d_call D_is_from (hr.mono (by decide)) (d_cons (d_ix (dn 1) d_int) (d_cons d_int (d_cons (d_op o_dsub (d_fld A.cls_Space.cl A.n_Space_own_modes (dn 0)) d_int) d_nil)))) (d_one (d_call D_is_from (hr.mono (by decide)) (d_cons (d_ix (dn 1) d_int) (d_cons d_int (d_cons (d_op o_dsub (d_fld A.cls_Space.cl A.n_Space_own_ends (dn 0)) d_int) d_nil))))))))), ?_⟩
  rintro ds M Q Ed ⟨n, w, x, rfl, ok, q⟩
  cases x with
  | non => exact ⟨by decide, ifT (by decide) q⟩
  | bl b => exact ⟨by decide, ifT (by decide) q⟩
  | int b => exact ⟨by decide, ifT (by decide) q⟩
  | str b => exact ⟨by decide, ifT (by decide) q⟩
  | lst b => exact ⟨by decide, ifT (by decide) q⟩
  | dct b => exact ⟨by decide, ifT (by decide) q⟩
  | tup xs =>
    refine ⟨by decide, ifF (by decide) ?_⟩
    match xs, ok with
    | [], _ => exact q
    | [a], _ => exact q
    | a :: b :: c :: l, _ => exact q
    | [a, b], ok =>
      have ka := ok.2 a (by simp)
      have kb := ok.2 b (by simp)
      refine ⟨_, rfl, rfl, _, rfl, a, 0, _, rfl, ka, ?_⟩
      have e : isPrB n (endsN n w) (.tup [a, b]) = (isFr a 0 ((n : Int) - 1) && isFr b 0 ((endsN n w : Int) - 1)) := rfl
      rw [e] at q
      cases c : isFr a 0 ((n : Int) - 1) with
      | true =>
        rw [c, Bool.true_and] at q
        exact ifT rfl ⟨_, rfl, rfl, _, rfl, b, 0, _, rfl, kb, q⟩
      | false =>
        rw [c, Bool.false_and] at q
        exact ifF (by decide) q
  | _ => exact ok.elim
theorem isPr_ok {n E k : Nat} (hE : 0 < E) (h : k < n * E) : isPrB n E (tupI (pr E k)) = true := by
  have h1 : k / E < n := (Nat.div_lt_iff_lt_mul hE).mpr h
  have h2 := Nat.mod_lt k hE
  show (isFr (.int _) _ _ && isFr (.int _) _ _) = true
  simp only [isFr, Bool.and_eq_true, decide_eq_true_eq]
  generalize k / E = a at *
  generalize k % E = b at *
  omega
def spRelation (C : Addr) : DSp := fun ds M Q _ => ∃ (n : Nat) (w : Bool) (ks : List Nat), ds = [Spc C n w, tupR (endsN n w) ks] ∧ OkN n ∧ ks.Nodup ∧ (∀ k ∈ ks, k < n * endsN n w) ∧ Q (.int (ofB (fun k => ks.contains k) (n * endsN n w) : Nat)) M
theorem pr_nodup {E : Nat} {ks : List Nat} (h : ks.Nodup) : (ks.map (pr E)).Nodup := List.Pairwise.map _ (fun _ _ hne e => hne (pr_inj e)) h
theorem D_Space_relation {P : Program} {w : World} {K : PySem.W.Frag} {mg : Str → Option Value} {base : Heap} {C_Space : Addr} (A : Facts K C_Space) (M : MgOf K mg) (Z : Zs mg) (D_Space_is_pair : KnMD P w K mg base C_Space "is_pair" 3 ["self", "value"] (spIsPair C_Space)) (D_Space_bit : KnMD P w K mg base C_Space "bit" 1 ["self", "mode", "end"] (spBit C_Space)) : KnMD P w K mg base C_Space "relation" 4 ["self", "pairs"] (spRelation C_Space) := by
  refine KnMD.of A.m_Space_relation sc_Space_relation (fun _ _ _ _ _ _ us hl => match us, hl with | [_, _], _ => rfl) (fun ds M Q E ⟨_, _, _, h, _⟩ => by rw [h]; rfl) (fun f cdv A0 outer s H E hr => ?_)
  have hu := U.hu_of hr
  have hu1 := U.hu1_of hr
  have nd := sc_Space_relation.nd
  refine ⟨_, (z_cons (z_if (d_w (d_or (d_tnot (d_tv (d_b Z.isinstance b_isinstance c_disi (d_cons (dn 1) (d_cons (d_ty Z.tuple b_tuple) d_nil))))) (d_or1 (d_tnot (d_tv (d_b Z.all b_all (c_dall rfl) (d_cons (d_lc (own := [("pair", 2)]) (c := (.n 2)) rfl nd (d_it (dn 1)) (blkOk_by (own := [("pair", 2)]) (N := N_Space_relation) (sc := defScope s_Space_relation) (by decide +kernel)) (fun _ _ _ _ _ => (gn 2 nd)) (fun _ _ _ _ _ => d_ts0) (fun _ _ _ _ _ => (d_meth D_Space_is_pair A.cls_Space.cl (hr.mono (by decide)) (dn 0) (d_cons (dn 2) d_nil)))) d_nil))))))) (z_one z_never) z_nil)
      (z_cons (z_if (d_tcm (o_dne hu) (d_lenSet rfl hu Z.len Z.set (dn 1)) (d_b Z.len b_len c_dlen (d_cons (dn 1) d_nil))) (z_one z_never) z_nil)
      (z_one (z_ret (d_b Z.sum b_sum (c_dsum rfl) (d_cons (d_lc (own := [("pair", 2)]) (c := (.n 2)) rfl nd (d_it (dn 1)) (blkOk_by (own := [("pair", 2)]) (N := N_Space_relation) (sc := defScope s_Space_relation) (by decide +kernel)) (fun _ _ _ _ _ => (gn 2 nd)) (fun _ _ _ _ _ => d_ts0) (fun _ _ _ _ _ => (d_methS D_Space_bit A.cls_Space.cl (hr.mono (by decide)) (dn 0) (dn 2)))) d_nil)))))), ?_⟩
  rintro ds M Q Ed ⟨n, w, ks, rfl, hn, nd', hk, q⟩
  obtain ⟨el1, el2, el3⟩ := E_le (w := w) hn
  have hE0 : 0 < endsN n w := by have := hn.1; omega
  have hl : ks.length ≤ 12 := Nat.le_trans (nodup_le nd' hk) el3
  refine ⟨by decide, ifF (by decide) ?_⟩
  refine ⟨sz (by rw [List.length_map]; omega), lcD_all (fun k => Da.bl true) (fun k hk => trivial) (fun k hk' Q q => ⟨⟨rfl, rfl⟩, n, w, _, rfl, ⟨rfl, fun y hy => ?_⟩, ?_⟩) ?_⟩
  · rcases List.mem_cons.mp hy with rfl | hy
    · trivial
    · rw [List.mem_singleton.mp hy]; trivial
  · rw [isPr_ok hE0 (hk k hk')]; exact q
  · refine ⟨_, asBls_fun _ _, ?_⟩
    have e : (ks.map fun _ => true).all id = true := by rw [List.all_map]; simp
    show if (!(List.all _ _)) = true then _ else _
    rw [e]
    refine ifF (by decide) ?_
    refine ⟨_, asTups_fun (pr (endsN n w)) ks, by rw [List.length_map]; omega, fun ns hns hm => ?_⟩
    have el : ns.length = ks.length := by rw [perm_len hns (pr_nodup nd') hm, List.length_map]
    refine ifF ?_ ?_
    · rw [List.length_map, el]; simp
    · refine ⟨sz (by rw [List.length_map]; omega), lcD_all (fun k : Nat => Da.int ((2 ^ k : Nat) : Int)) (fun _ _ => trivial) (fun k hk' Q q => ⟨⟨rfl, rfl⟩, n, w, k / endsN n w, k % endsN n w, rfl, hn, by rw [div_mod]; have := hk k hk'; omega, by rw [div_mod]; exact q⟩) ?_⟩
      refine ⟨_, asInts_fun _ _, ?_⟩
      rw [sum_int, sum_pow nd' hk]
      exact q
/-- equal spaces -/
def spEqS (C : Addr) : DSp := fun ds M Q _ => ∃ (n : Nat) (w : Bool) (y : Da) (b : Bool), ds = [Spc C n w, y] ∧ ((∃ n' w', y = Spc C n' w' ∧ b = (decide (n = n') && decide (w = w'))) ∨ (∃ xs, y = .tup xs ∧ b = false)) ∧ Q (.bl b) M
theorem D_Space___eq__ {P : Program} {w : World} {K : PySem.W.Frag} {mg : Str → Option Value} {base : Heap} {C_Space : Addr} (A : Facts K C_Space) (M : MgOf K mg) (Z : Zs mg)  : KnMD P w K mg base C_Space "__eq__" 1 ["self", "other"] (spEqS C_Space) := by
  refine KnMD.of A.m_Space___eq__ sc_Space___eq__ (fun _ _ _ _ _ _ us hl => match us, hl with | [_, _], _ => rfl) (fun ds M Q E ⟨_, _, _, _, h, _⟩ => by rw [h]; rfl) (fun f cdv A0 outer s H E hr => ?_)
  have hu := U.hu_of hr
  have hu1 := U.hu1_of hr
  have nd := sc_Space___eq__.nd
  refine ⟨_, (z_one (z_ret (d_eand (d_b Z.isinstance b_isinstance c_disi (d_cons (dn 1) (d_cons (d_glob (M.of _ _ A.cls_Space.at_)) d_nil))) (d_eand (d_ecm (o_deq hu) (d_fld A.cls_Space.cl A.n_Space_own_modes (dn 0)) (d_fld A.cls_Space.cl A.n_Space_own_modes (dn 1))) (d_one (d_ecm (o_deq hu) (d_fld A.cls_Space.cl A.n_Space_own_watched (dn 0)) (d_fld A.cls_Space.cl A.n_Space_own_watched (dn 1)))))))), ?_⟩
  rintro ds M Q Ed ⟨n, w, y, b, rfl, h, q⟩
  rcases h with ⟨n', w', rfl, rfl⟩ | ⟨xs, rfl, rfl⟩
  · refine ⟨A.cls_Space.isC, _, A.cls_Space.self, ?_⟩
    refine ⟨rfl, _, rfl, rfl, _, rfl, ite2 (fun c => ?_) (fun c => ?_)⟩
    · have c : n = n' := by have := of_decide_eq_true c; omega
      rw [decide_eq_true c, Bool.true_and] at q
      exact ⟨rfl, _, rfl, rfl, _, rfl, q⟩
    · have c' : ¬ n = n' := fun z => c (decide_eq_true (by omega))
      rw [decide_eq_false c', Bool.false_and] at q
      exact q
  · exact ⟨_, A.kitT, q⟩
abbrev iS (i : Int) : Str := Str.ofString (toString i)
theorem ite_app {α : Type} {w : Bool} {f : α → Prop} {a b : α} (h : f (if w then a else b)) : if w = true then f a else f b := by cases w <;> exact h
theorem tupR_ok (E : Nat) (ks : List Nat) : okD (tupR E ks) = true := (okN_tup (n := 1) fun x hx => by
  obtain ⟨i, _, rfl⟩ := List.mem_map.mp hx; exact okN_tupI _).ok (by decide)
def spTxt (n : Nat) (w : Bool) : Str := Str.empty ++ iS ((2 ^ (n * endsN n w) : Nat) : Int) ++ (" relations of " : Str) ++ iS (n : Int) ++ (" modes" : Str) ++ (if w then (", watched" : Str) else ("" : Str))
def spStrS (C : Addr) : DSp := fun ds M Q _ => ∃ (n : Nat) (w : Bool), ds = [Spc C n w] ∧ OkN n ∧ Q (.str (spTxt n w)) M
theorem n_cases {n : Nat} (h : OkN n) {p : Nat → Prop} (h1 : p 1) (h2 : p 2) (h3 : p 3) : p n := by
  obtain ⟨a, b⟩ := h
  have : n = 1 ∨ n = 2 ∨ n = 3 := by omega
  rcases this with rfl | rfl | rfl
  · exact h1
  · exact h2
  · exact h3
theorem D_Space___str__ {P : Program} {w : World} {K : PySem.W.Frag} {mg : Str → Option Value} {base : Heap} {C_Space : Addr} (A : Facts K C_Space) (M : MgOf K mg) (Z : Zs mg)  : KnMD P w K mg base C_Space "__str__" 1 ["self"] (spStrS C_Space) := by
  refine KnMD.of A.m_Space___str__ sc_Space___str__ (fun _ _ _ _ _ _ us hl => match us, hl with | [_], _ => rfl) (fun ds M Q E ⟨_, _, h, _⟩ => by rw [h]; rfl) (fun f cdv A0 outer s H E hr => ?_)
  have hu := U.hu_of hr
  have hu1 := U.hu1_of hr
  have nd := sc_Space___str__.nd
  refine ⟨_, (z_one (z_ret (d_joined (DJ.cons (d_fmt (d_fld A.cls_Space.cl A.n_Space_own_size (dn 0))) (DJ.cons d_str (DJ.cons (d_fmt (d_fld A.cls_Space.cl A.n_Space_own_modes (dn 0))) (DJ.cons d_str (DJ.cons (d_fmt (d_if (d_tv (d_fld A.cls_Space.cl A.n_Space_own_watched (dn 0))) d_str d_str)) DJ.nil)))))))), ?_⟩
  rintro ds M Q Ed ⟨n, w, rfl, hn, q⟩
  have : n = 1 ∨ n = 2 ∨ n = 3 := by have := hn.1; have := hn.2; omega
  have k : ∀ {m : Nat}, Nat.ble m 1000000 = true → Sz m := fun h => h
  rcases this with rfl | rfl | rfl <;> cases w <;> exact ⟨rfl, _, rfl, by decide +kernel, k (by decide +kernel), k (by decide +kernel), rfl, _, rfl, by decide +kernel, k (by decide +kernel), k (by decide +kernel), rfl, _, rfl, k (by decide +kernel), k (by decide +kernel), q⟩

end K20
set_option Elab.async false
set_option linter.all false
set_option maxRecDepth 100000
set_option maxHeartbeats 4000000

namespace K20
open PySem PySem.Spec PyProof.Rows L2 U
/-! ### pairs, within; one of the items -/
theorem rowD_plD (E : Nat) (ks : List Nat) : plD (rowD E ks) = true := plDs_of fun x hx => by
  obtain ⟨k, _, rfl⟩ := List.mem_map.mp hx; exact plDs_ints _
theorem inD_row {E k : Nat} {ks : List Nat} : inD (tupI (pr E k)) (ks.map fun k => tupI (pr E k)) = ks.contains k := by
  unfold inD
  rw [List.any_map, Bool.eq_iff_iff, List.any_eq_true, List.contains_iff_mem]
  constructor
  · rintro ⟨l, hl, h⟩
    simp only [Function.comp, eqD_tupI, decide_eq_true_eq] at h
    exact pr_inj h ▸ hl
  · intro h
    exact ⟨k, h, by simp only [Function.comp, eqD_tupI, decide_eq_true_eq]⟩
theorem cel_within {a b : Nat} (ha : a < 2 ^ 12) : ((cel a).filter fun k => !(cel b).contains k).isEmpty = decide (a ||| b = b) := by
  rw [Bool.eq_iff_iff, decide_eq_true_eq, or_le_iff, List.isEmpty_iff, List.filter_eq_nil_iff]
  constructor
  · intro h k hk
    have := h k (cel_mem.mpr ⟨bit_lt ha hk, hk⟩)
    simp only [Bool.not_eq_true', Bool.not_eq_false, List.contains_iff_mem] at this
    exact (cel_mem.mp this).2
  · intro h k hk
    simp only [Bool.not_eq_true', Bool.not_eq_false, List.contains_iff_mem]
    have := cel_mem.mp hk
    exact cel_mem.mpr ⟨this.1, h k this.2⟩
theorem eqD_nil (xs : List Da) : eqD (.lst xs) (.lst []) = xs.isEmpty := by
  unfold eqD
  cases xs <;> simp [toP, toPs, PyData.eqv, PyData.eqvAll]
def spWithinL : DSp := fun ds M Q _ => ∃ (E a b : Nat), ds = [rowD E (cel a), rowD E (cel b)] ∧ Ok4 E ∧ a < 2 ^ 12 ∧ Q (.bl (decide (a ||| b = b))) M
theorem D__law_within {P : Program} {w : World} {K : PySem.W.Frag} {mg : Str → Option Value} {base : Heap} {C_Space : Addr} (A : Facts K C_Space) (M : MgOf K mg) (Z : Zs mg)  : KnD P w K mg base "_law_within" 1 ["_law_one_here", "_law_other"] spWithinL := by
  refine KnD.of A.d__law_within M sc__law_within (fun _ _ _ _ _ _ us hl => match us, hl with | [_, _], _ => rfl) (fun ds M Q E ⟨_, _, _, h, _⟩ => by rw [h]; rfl) (fun f cdv A0 outer s H E hr => ?_)
  have hu := U.hu_of hr
  have hu1 := U.hu1_of hr
  have nd := sc__law_within.nd
  refine ⟨_, (z_one (z_ret (d_ecm (o_deq hu) (d_lc (own := [("_law_pair", 2)]) (c := (.n 2)) rfl nd (d_it (dn 0)) (blkOk_by (own := [("_law_pair", 2)]) (N := N__law_within) (sc := defScope s__law_within) (by decide +kernel)) (fun _ _ _ _ _ => (gn 2 nd)) (fun _ _ _ _ _ => (d_ts1 (d_tcm (o_dnin hu1) (dn 2) (dn 1)))) (fun _ _ _ _ _ => (dn 2))) (d_lst d_nil)))), ?_⟩
  rintro ds M Q Ed ⟨E, a, b, rfl, hE, ha, q⟩
  refine ⟨sz (by rw [List.length_map]; have := cel_len a; omega), lcD_map (fun k => !(cel b).contains k) (fun k => tupI (pr E k)) (fun k hk => ⟨trivial, fun Q q => ?_⟩) (fun k hk _ Q q => q) ?_⟩
  · refine ⟨?_, ?_⟩
    · rw [okD_tups, (okN_tupI (n := 1) _).ok (by decide)]; simp
    · show Q (!inD _ _) M
      rw [inD_row]; exact q
  · refine ⟨rfl, okD_tups _ _, by decide, ?_⟩
    rw [eqD_nil, List.isEmpty_map, cel_within ha]
    exact q

def spSome : DSp := fun ds M Q _ => ∃ (d : Addr) (l : List Nat) (g : Nat → Da) (m : Nat), ds = [.ref d, .lst (l.map g), .int (m : Nat)] ∧ m = l.length ∧ Urn d M ∧ l.length < 64 ∧ ∀ (l' : List Nat) (M' : Mm), l'.Perm l → Urn d M' → Km d M M' → Q (.lst (l'.map g)) M'
theorem D__law_some {P : Program} {w : World} {K : PySem.W.Frag} {mg : Str → Option Value} {base : Heap} {C_Space : Addr} (A : Facts K C_Space) (M : MgOf K mg) (Z : Zs mg) (D__law_take : KnD P w K mg base "_law_take" 1 ["_law_urn_here", "_law_total"] spTake) : KnD P w K mg base "_law_some" 2 ["_law_urn_here", "_law_items", "_law_lots"] spSome := by
  refine KnD.of A.d__law_some M sc__law_some (fun _ _ _ _ _ _ us hl => match us, hl with | [_, _, _], _ => rfl) (fun ds M Q E ⟨_, _, _, _, h, _⟩ => by rw [h]; rfl) (fun f cdv A0 outer s H E hr => ?_)
  have hu := U.hu_of hr
  have hu1 := U.hu1_of hr
  have nd := sc__law_some.nd
  refine ⟨_, (z_cons (ps_imp (ps_par (i := 3) (j := 4) rfl nd rfl rfl (by decide) rfl rfl (d_cons (d_t Z.list b_list c_dlistM (d_cons (dn 1) d_nil)) (d_cons (d_lstM d_nil) d_nil)) (by rfl)) fun _ _ _ h => li_par h)
      (z_cons (z_for PassesOwn.never rfl (d_rg1 Z.range (d_cons (d_b Z.min b_min (c_dmin rfl) (d_cons (dn 2) (d_cons (d_b Z.len b_len c_dlen (d_cons (dn 1) d_nil)) d_nil))) d_nil)) (t_n 5 nd) (z_one (z_expr (d_append (dn 4) (d_cons (d_popAt (dn 3) (d_cons (d_call D__law_take (hr.mono (by decide)) (d_cons (dn 0) (d_cons (d_b Z.len b_len c_dlen (d_cons (dn 3) d_nil)) d_nil))) d_nil)) d_nil)))))
      (z_one (z_retF (d_stl (dn 4)))))), ?_⟩
  rintro ds M Q Ed ⟨d, l, g, _, rfl, rfl, hd, hl, q⟩
  refine fun p hp => ⟨rfl, fun p' hp' => ?_⟩
  have hpp : p ≠ p' := fun e => by rw [← e, mput_same] at hp'; cases hp'
  have hpd : d ≠ p := fun e => by obtain ⟨_, _, _, z⟩ := hd; rw [← e, z] at hp; cases hp
  have hpd' : d ≠ p' := fun e => by obtain ⟨_, _, _, z⟩ := hd; rw [← e, mput_ne hpd, z] at hp'; cases hp'
  have hpM' : M p' = none := by rw [mput_ne (Ne.symm hpp)] at hp'; exact hp'
  have e : (if (((l.map g).length : Nat) : Int) < ((l.length : Nat) : Int) then (((l.map g).length : Nat) : Int) else ((l.length : Nat) : Int)) = (l.length : Nat) := by rw [List.length_map]; split <;> rfl
  refine ⟨rok (by rw [e]; omega) (by rw [e]; omega), ?_⟩
  rw [e]
  refine forD_rng (n := l.length) (fun j δ M' => (∃ u, δ = [some (.ref d), some (.lst (l.map g)), some (.int (l.length : Nat)), some (.ref p), some (.ref p'), u]) ∧ Urn d M' ∧ Kx d M M' ∧ ∃ s f : List Nat, M' p = some (.lst (s.map g)) ∧ M' p' = some (.lst (f.map g)) ∧ (f ++ s).Perm l ∧ f.length = j) ?_ ?_
    ⟨⟨none, rfl⟩, ?_, (Kx.refl.put hp).put hp', l, [], by rw [mput_ne hpp]; exact mput_same, mput_same, .refl _, rfl⟩
  · rintro j δ M' NX hj ⟨⟨u, rfl⟩, hu1, kx, s, f, hs, hf, pm, hfl⟩ nx
    have hlen := pm.length_eq
    rw [List.length_append] at hlen
    refine ⟨⟨p', _, rfl, hf⟩, ⟨p, _, rfl, hs⟩, _, hs, d, (s.map g).length, rfl, hu1, by rw [List.length_map]; omega, by rw [List.length_map]; omega, fun r M2 hr hu2 km2 => ?_⟩
    rw [List.length_map] at hr
    have hx : s[r]? = some s[r] := List.getElem?_eq_getElem hr
    refine ⟨_, r, g s[r], (km2 p (Ne.symm hpd)).trans hs, ⟨by omega, by omega⟩, (ixN_seq (ixN_nat' (by rw [List.length_map]; exact hr))).1, by rw [List.getElem?_map, hx]; rfl, _, by rw [mput_ne (Ne.symm hpp)]; exact (km2 p' (Ne.symm hpd')).trans hf, sz (by rw [List.length_map]; omega), nx _ _ ⟨⟨_, rfl⟩, ?_, ((kx.trans (Kx.of km2)).chg ?_).chg hpM', s.eraseIdx r, f ++ [s[r]], ?_, ?_, ?_, ?_⟩⟩
    · obtain ⟨a, b, c, z⟩ := hu2
      exact ⟨a, b, c, by rw [mput_ne hpd', mput_ne hpd]; exact z⟩
    · exact hp
    · rw [mput_ne hpp, mput_same, map_erase]
    · rw [mput_same, List.map_append]; rfl
    · rw [List.append_assoc]
      exact ((perm_erase hx).append_left f).trans pm
    · rw [List.length_append]; simp; omega
  · rintro δ M' ⟨⟨u, rfl⟩, hu1, kx, s, f, hs, hf, pm, hfl⟩
    have hlen := pm.length_eq
    rw [List.length_append] at hlen
    have es : s = [] := List.eq_nil_of_length_eq_zero (by omega)
    subst es
    rw [List.append_nil] at pm
    obtain ⟨M2, sb, km, ed⟩ := (kx.del hpM').back
    obtain ⟨a, b, c, z⟩ := hu1
    exact ⟨_, hf, M2, sb, q f M2 pm ⟨a, b, c, by rw [ed, mdel_ne hpd']; exact z⟩ km⟩
  · obtain ⟨a, b, c, z⟩ := hd
    exact ⟨a, b, c, by rw [mput_ne hpd', mput_ne hpd]; exact z⟩
theorem sam_eq {n E : Nat} (hn : n ≤ E) (hE : 0 < E) (hc : n * E ≤ 12) : ofB (fun k => ((List.range n).map fun m => m * E + m).contains k) 12 = sam n E := by
  refine bits_eq (n := 12) (ofB_lt _ _) (Nat.lt_of_lt_of_le sam_lt (Nat.pow_le_pow_right (by decide) hc)) fun k hk => ?_
  unfold sam
  rw [testBit_ofB, testBit_ofB, decide_eq_true hk, Bool.true_and, Bool.eq_iff_iff, List.contains_iff_mem, List.mem_map, Bool.and_eq_true, decide_eq_true_eq, beq_iff_eq]
  constructor
  · rintro ⟨m, hm, rfl⟩
    have hm := List.mem_range.mp hm
    exact ⟨cell_le hm (by omega), by rw [cell_div (by omega), cell_mod (by omega)]⟩
  · rintro ⟨h1, h2⟩
    refine ⟨k / E, List.mem_range.mpr ((Nat.div_lt_iff_lt_mul hE).mpr h1), ?_⟩
    have := div_mod k E
    rw [← h2] at this
    exact this
theorem or_eq {a b : Nat} (ha : a < 2 ^ 12) (hb : b < 2 ^ 12) : ofB (fun k => (cel a ++ cel b).contains k) 12 = a ||| b := by
  refine bits_eq (n := 12) (ofB_lt _ _) (Nat.or_lt_two_pow ha hb) fun k hk => ?_
  rw [testBit_ofB, decide_eq_true hk, Bool.true_and, Nat.testBit_or, Bool.eq_iff_iff, List.contains_iff_mem, List.mem_append, cel_mem, cel_mem, Bool.or_eq_true]
  simp [hk]
theorem back_eq {a N : Nat} {l : List Nat} (ha : a < 2 ^ N) (hN : N ≤ 12) (h : l.Perm (cel a)) : ofB (fun k => l.contains k) N = a := by
  refine bits_eq (n := N) (ofB_lt _ _) ha fun k hk => ?_
  rw [testBit_ofB, decide_eq_true hk, Bool.true_and, Bool.eq_iff_iff, List.contains_iff_mem, h.mem_iff, cel_mem]
  simp; omega
theorem cel_nodup (a : Nat) : (cel a).Nodup := List.nodup_range.filter _
theorem ofB_none (N : Nat) : ofB (fun k => ([] : List Nat).contains k) N = 0 := by
  induction N with
  | zero => rfl
  | succ n ih => rw [ofB, ih]; rfl
theorem txt_eq {n : Nat} (w : Bool) (h : OkN n) : ((((iS ((2 ^ (n * endsN n w) : Nat) : Int) ++ (" relations of " : Str)) ++ iS (n : Int)) ++ (" modes" : Str)) ++ (if w then (", watched" : Str) else ("" : Str))) = spTxt n w := by
  refine n_cases (p := fun n => ((((iS ((2 ^ (n * endsN n w) : Nat) : Int) ++ (" relations of " : Str)) ++ iS (n : Int)) ++ (" modes" : Str)) ++ (if w then (", watched" : Str) else ("" : Str))) = spTxt n w) h ?_ ?_ ?_ <;> cases w <;> decide +kernel
def sizD (E N : Nat) : Da := .lst [.int (E : Nat), .int ((2 ^ N : Nat) : Int)]
theorem ite_str {w : Bool} {A : Da} {M : Mm} {K : DK} {a b : Str} (h : hAdd A (.str (if w then a else b)) M K) : if w = true then hAdd A (.str a) M K else hAdd A (.str b) M K := by cases w <;> exact h
def spRightS : DSp := fun ds M Q _ => ∃ d, ds = [.ref d] ∧ Urn d M ∧ ∀ M', Urn d M' → Km d M M' → Q (.bl true) M'
theorem D__law_right {P : Program} {w : World} {K : PySem.W.Frag} {mg : Str → Option Value} {base : Heap} {C_Space : Addr} (A : Facts K C_Space) (M : MgOf K mg) (Z : Zs mg) (D__law_take : KnD P w K mg base "_law_take" 1 ["_law_urn_here", "_law_total"] spTake) (D_Space___init__ : KnK P w K mg base C_Space 3 ["self", "modes", "watched"] 2 ["watched"] [.bl false] (spInit C_Space)) (D__law_sizes : KnD P w K mg base "_law_sizes" 1 ["_law_modes", "_law_watched"] spSizes) (D_Space_modes : KnPD P w K mg base C_Space "modes" 1 ["self"] (spModes C_Space)) (D_Space_watched : KnPD P w K mg base C_Space "watched" 1 ["self"] (spWatched C_Space)) (D_Space_ends : KnPD P w K mg base C_Space "ends" 1 ["self"] (spEnds C_Space)) (D_Space_size : KnPD P w K mg base C_Space "size" 1 ["self"] (spSize C_Space)) (D_Space_same : KnPD P w K mg base C_Space "same" 1 ["self"] (spSame C_Space)) (D__law_bits : KnD P w K mg base "_law_bits" 1 ["_law_ends_here", "_law_pairs_here"] spBits) (D_Space___str__ : KnMD P w K mg base C_Space "__str__" 1 ["self"] (spStrS C_Space)) (D_Space___eq__ : KnMD P w K mg base C_Space "__eq__" 1 ["self", "other"] (spEqS C_Space)) (D__law_pairs : KnD P w K mg base "_law_pairs" 1 ["_law_ends_here", "_law_relation"] spPairs) (D_Space_pairs : KnMD P w K mg base C_Space "pairs" 5 ["self", "relation"] (spPairsM C_Space)) (D_Space_relation : KnMD P w K mg base C_Space "relation" 4 ["self", "pairs"] (spRelation C_Space)) (D__law_some : KnD P w K mg base "_law_some" 2 ["_law_urn_here", "_law_items", "_law_lots"] spSome) (D_Space_either : KnMD P w K mg base C_Space "either" 5 ["self", "one", "other"] (spEither C_Space)) (D_Space_is_within : KnMD P w K mg base C_Space "is_within" 5 ["self", "one", "other"] (spWithin C_Space)) (D__law_within : KnD P w K mg base "_law_within" 1 ["_law_one_here", "_law_other"] spWithinL) : KnD P w K mg base "_law_right" 9 ["_law_urn_here"] spRightS := by
  refine KnD.of A.d__law_right M sc__law_right (fun _ _ _ _ _ _ us hl => match us, hl with | [_], _ => rfl) (fun ds M Q E ⟨_, h, _⟩ => by rw [h]; rfl) (fun f cdv A0 outer s H E hr => ?_)
  have hu := U.hu_of hr
  have hu1 := U.hu1_of hr
  have nd := sc__law_right.nd
  refine ⟨_, (z_cons (ps_imp (ps_par (i := 1) (j := 2) rfl nd rfl rfl (by decide) rfl rfl (d_cons (d_op o_dadd d_int (d_call D__law_take (hr.mono (by decide)) (d_cons (dn 0) (d_cons d_int d_nil)))) (d_cons (d_ecm (o_deq hu) (d_call D__law_take (hr.mono (by decide)) (d_cons (dn 0) (d_cons d_int d_nil))) d_int) d_nil)) (by rfl)) fun _ _ _ h => li_par h)
      (z_cons (ps_imp (ps_par (i := 3) (j := 4) rfl nd rfl rfl (by decide) rfl rfl (d_cons (d_makeK M A.cls_Space D_Space___init__ (hr.mono (by decide)) (d_cons (dn 1) d_nil) (d_kcons (dn 2) d_knil)) (d_cons (d_call D__law_sizes (hr.mono (by decide)) (d_cons (dn 1) (d_cons (dn 2) d_nil))) d_nil)) (by rfl)) fun _ _ _ h => li_par h)
      (z_cons (z_if (d_tcm (o_dne hu) (d_lst (d_cons (d_prop D_Space_modes A.cls_Space.cl (hr.mono (by decide)) (dn 3)) (d_cons (d_prop D_Space_watched A.cls_Space.cl (hr.mono (by decide)) (dn 3)) (d_cons (d_prop D_Space_ends A.cls_Space.cl (hr.mono (by decide)) (dn 3)) (d_cons (d_prop D_Space_size A.cls_Space.cl (hr.mono (by decide)) (dn 3)) d_nil))))) (d_op o_dadd (d_lst (d_cons (dn 1) (d_cons (dn 2) d_nil))) (dn 4))) (z_one (z_ret d_bl)) z_nil)
      (z_cons (z_if (d_tcm (o_dne hu) (d_prop D_Space_same A.cls_Space.cl (hr.mono (by decide)) (dn 3)) (d_call D__law_bits (hr.mono (by decide)) (d_cons (d_ix (dn 4) d_int) (d_cons (d_lc (own := [("_law_mode", 11)]) (c := (.n 11)) rfl nd (d_rg1 Z.range (d_cons (dn 1) d_nil)) (blkOk_by (own := [("_law_mode", 11)]) (N := N__law_right) (sc := defScope s__law_right) (by decide +kernel)) (fun _ _ _ _ _ => (gn 11 nd)) (fun _ _ _ _ _ => d_ts0) (fun _ _ _ _ _ => (d_tup (d_cons (dn 11) (d_cons (dn 11) d_nil))))) d_nil)))) (z_one (z_ret d_bl)) z_nil)
      (z_cons (z_set 5 nd (d_op o_dadd (d_op o_dadd (d_op o_dadd (d_op o_dadd (d_t Z.str b_str c_dstr (d_cons (d_ix (dn 4) d_int) d_nil)) d_str) (d_t Z.str b_str c_dstr (d_cons (dn 1) d_nil))) d_str) (d_cut (d_if (d_tv (dn 2)) d_str d_str))))
      (z_cons (z_if (d_w (d_or (d_tcm (o_dne hu) (d_t Z.str b_str (c_dstrO D_Space___str__ (hr.mono (by decide))) (d_cons (dn 3) d_nil)) (dn 5)) (d_or (d_tcm (o_dneO D_Space___eq__ A.ne_Space A.cls_Space.hm (hr.mono (by decide))) (dn 3) (d_makeK M A.cls_Space D_Space___init__ (hr.mono (by decide)) (d_cons (dn 1) d_nil) (d_kcons (dn 2) d_knil))) (d_or1 (d_tcm (o_deqO D_Space___eq__ (hr.mono (by decide))) (dn 3) (d_makeK M A.cls_Space D_Space___init__ (hr.mono (by decide)) (d_cons (dn 1) d_nil) (d_kcons (d_enot (dn 2)) d_knil))))))) (z_one (z_ret d_bl)) z_nil)
      (z_cons (z_for PassesOwn.never rfl (d_rg1 Z.range (d_cons d_int d_nil)) (t_n 6 nd) (z_cons (ps_imp (ps_par (i := 7) (j := 8) rfl nd rfl rfl (by decide) rfl rfl (d_cons (d_call D__law_take (hr.mono (by decide)) (d_cons (dn 0) (d_cons (d_ix (dn 4) d_int) d_nil))) (d_cons (d_call D__law_take (hr.mono (by decide)) (d_cons (dn 0) (d_cons (d_ix (dn 4) d_int) d_nil))) d_nil)) (by rfl)) fun _ _ _ h => li_par h)
      (z_cons (ps_imp (ps_par (i := 9) (j := 10) rfl nd rfl rfl (by decide) rfl rfl (d_cons (d_call D__law_pairs (hr.mono (by decide)) (d_cons (d_ix (dn 4) d_int) (d_cons (dn 7) d_nil))) (d_cons (d_call D__law_pairs (hr.mono (by decide)) (d_cons (d_ix (dn 4) d_int) (d_cons (dn 8) d_nil))) d_nil)) (by rfl)) fun _ _ _ h => li_par h)
      (z_cons (z_if (d_w (d_or (d_tcm (o_dne hu) (d_meth D_Space_pairs A.cls_Space.cl (hr.mono (by decide)) (dn 3) (d_cons (dn 7) d_nil)) (d_t Z.tuple b_tuple c_dtuple (d_cons (dn 9) d_nil))) (d_or1 (d_tcm (o_dne hu) (d_meth D_Space_relation A.cls_Space.cl (hr.mono (by decide)) (dn 3) (d_cons (d_t Z.tuple b_tuple c_dtuple (d_cons (d_call D__law_some (hr.mono (by decide)) (d_cons (dn 0) (d_cons (dn 9) (d_cons (d_b Z.len b_len c_dlen (d_cons (dn 9) d_nil)) d_nil)))) d_nil)) d_nil)) (dn 7))))) (z_one (z_ret d_bl)) z_nil)
      (z_cons (z_if (d_tcm (o_dne hu) (d_meth D_Space_either A.cls_Space.cl (hr.mono (by decide)) (dn 3) (d_cons (dn 7) (d_cons (dn 8) d_nil))) (d_call D__law_bits (hr.mono (by decide)) (d_cons (d_ix (dn 4) d_int) (d_cons (d_op o_dadd (dn 9) (dn 10)) d_nil)))) (z_one (z_ret d_bl)) z_nil)
      (z_one (z_if (d_tcm (o_dne hu) (d_b Z.repr b_repr c_drepr (d_cons (d_meth D_Space_is_within A.cls_Space.cl (hr.mono (by decide)) (dn 3) (d_cons (dn 7) (d_cons (dn 8) d_nil))) d_nil)) (d_b Z.repr b_repr c_drepr (d_cons (d_call D__law_within (hr.mono (by decide)) (d_cons (dn 9) (d_cons (dn 10) d_nil))) d_nil))) (z_one (z_ret d_bl)) z_nil)))))))
      (z_one (z_ret (d_eand (d_ecm (o_deq hu) (d_meth D_Space_relation A.cls_Space.cl (hr.mono (by decide)) (dn 3) (d_cons (d_tup d_nil) d_nil)) d_int) (d_eand (d_ecm (o_dneO D_Space___eq__ A.ne_Space A.cls_Space.hm (hr.mono (by decide))) (dn 3) (d_tup (d_cons (dn 1) (d_cons (dn 2) d_nil)))) (d_one (d_ecm (o_deq hu) (d_meth D_Space_pairs A.cls_Space.cl (hr.mono (by decide)) (dn 3) (d_cons d_int d_nil)) (d_tup d_nil)))))))))))))), ?_⟩
  rintro ds M Q Ed ⟨d, rfl, hd, q⟩
  refine ⟨d, 3, rfl, hd, by decide, by decide, fun r1 M1 hr1 hd1 km1 => ⟨d, 2, rfl, hd1, by decide, by decide, fun r2 M2 hr2 hd2 km2 => ?_⟩⟩
  have hn : OkN (1 + r1) := ⟨by omega, by omega⟩
  generalize hn' : 1 + r1 = n at hn
  have en : (1 : Int) + (r1 : Int) = (n : Int) := by omega
  rw [en]
  refine ⟨rfl, rfl, fun p hp => ⟨p, n, decide ((r2 : Int) = 0), rfl, hn, mput_same, rfl, _, mput_same, ?_⟩⟩
  rw [mput_put, mdel_put hp]
  generalize decide ((r2 : Int) = 0) = w
  obtain ⟨el1, el2, el3⟩ := E_le (w := w) hn
  have hE : Ok4 (endsN n w) := ⟨by have := hn.1; omega, el2⟩
  have hE0 : 0 < endsN n w := hE.1
  have hp1 : 0 < 2 ^ (n * endsN n w) := Nat.pow_pos (by decide)
  have hp2 : 2 ^ (n * endsN n w) ≤ 4096 := Nat.le_trans (Nat.pow_le_pow_right (by decide) el3) (by decide)
  have h12 : ∀ {a : Nat}, a < 2 ^ (n * endsN n w) → a < 2 ^ 12 := fun h => Nat.lt_of_lt_of_le h (Nat.pow_le_pow_right (by decide) el3)
  have nn : ∀ {x : Str}, ¬ (!decide (x = x)) = true := by intro x; simp
  have ni : ∀ {x : Int}, ¬ (!decide (x = x)) = true := by intro x; simp
  have nd2 : ∀ {x : Da}, ¬ (!eqD x x) = true := by intro x; rw [eqD_same]; decide
  refine ⟨n, w, rfl, hn, ?_⟩
  -- its numbers
  have ok4 : okD (.lst [.int (n : Int), .bl w, .int (endsN n w : Nat), .int ((2 ^ (n * endsN n w) : Nat) : Int)]) = true := (okN_lst (n := 0) (fun x hx => by
    simp only [List.mem_cons, List.not_mem_nil, or_false] at hx
    rcases hx with rfl | rfl | rfl | rfl
    · exact okN_int
    · exact okN_bl
    · exact okN_int
    · exact okN_int)).ok (by decide)
  refine ⟨⟨rfl, trivial⟩, n, w, rfl, ⟨rfl, trivial⟩, n, w, rfl, ⟨rfl, trivial⟩, n, w, rfl, ⟨rfl, trivial⟩, n, w, rfl, rfl, rfl, rfl, ok4, ok4, ifF nd2 ?_⟩
  refine ⟨⟨rfl, trivial⟩, n, w, rfl, _, rfl, rok (by omega) (by have := hn.2; omega), ?_⟩
  rw [rngD0' (n := n) rfl]
  refine ⟨sz (by rw [List.length_map, List.length_range]; have := hn.2; omega), lcD_all (fun m : Nat => tupI (pr (endsN n w) (m * endsN n w + m))) (fun _ _ => trivial) (fun m hm Q q => ⟨rfl, ?_⟩) ?_⟩
  · have hm := List.mem_range.mp hm
    have e : tupI (pr (endsN n w) (m * endsN n w + m)) = .tup [.int (m : Int), .int (m : Int)] := by
      unfold tupI pr
      rw [cell_div (by omega), cell_mod (by omega)]
      rfl
    rw [e] at q
    exact q
  refine ⟨endsN n w, (List.range n).map fun m => m * endsN n w + m, ?_, hE, by rw [List.length_map, List.length_range]; have := hn.2; omega, fun k hk => ?_, ?_⟩
  · unfold rowD; rw [List.map_map]; rfl
  · obtain ⟨m, hm, rfl⟩ := List.mem_map.mp hk
    have hm := List.mem_range.mp hm
    have := cell_le hm (show m < endsN n w by omega)
    omega
  rw [sam_eq el1 hE0 el3]
  refine ifF ni ?_
  -- its text
  have l1 : ((2 ^ (n * endsN n w) : Nat) : Int).natAbs.log2 < 1920 := by
    have : (((2 ^ (n * endsN n w) : Nat) : Int).natAbs).log2 ≤ 12 := by
      rw [Int.natAbs_natCast, Nat.log2_two_pow]; exact el3
    omega
  have l2 : ((n : Int)).natAbs.log2 < 1920 := by
    refine n_cases (p := fun n => ((n : Int)).natAbs.log2 < 1920) hn ?_ ?_ ?_ <;> decide +kernel
  have szl : ∀ a b : Str, a.length + b.length ≤ 1000 → a.length + b.length ≤ sizeLine := fun a b h => by rw [sizeLine_eq]; omega
  have la : (iS ((2 ^ (n * endsN n w) : Nat) : Int)).length + ((" relations of " : Str)).length ≤ 1000 := by
    refine n_cases (p := fun n => (iS ((2 ^ (n * endsN n w) : Nat) : Int)).length + ((" relations of " : Str)).length ≤ 1000) hn ?_ ?_ ?_ <;> cases w <;> decide +kernel
  have lb : (iS ((2 ^ (n * endsN n w) : Nat) : Int) ++ (" relations of " : Str)).length + (iS (n : Int)).length ≤ 1000 := by
    refine n_cases (p := fun n => (iS ((2 ^ (n * endsN n w) : Nat) : Int) ++ (" relations of " : Str)).length + (iS (n : Int)).length ≤ 1000) hn ?_ ?_ ?_ <;> cases w <;> decide +kernel
  have lc : (iS ((2 ^ (n * endsN n w) : Nat) : Int) ++ (" relations of " : Str) ++ iS (n : Int)).length + ((" modes" : Str)).length ≤ 1000 := by
    refine n_cases (p := fun n => (iS ((2 ^ (n * endsN n w) : Nat) : Int) ++ (" relations of " : Str) ++ iS (n : Int)).length + ((" modes" : Str)).length ≤ 1000) hn ?_ ?_ ?_ <;> cases w <;> decide +kernel
  have ld : (iS ((2 ^ (n * endsN n w) : Nat) : Int) ++ (" relations of " : Str) ++ iS (n : Int) ++ (" modes" : Str)).length + ((if w then (", watched" : Str) else ("" : Str))).length ≤ 1000 := by
    refine n_cases (p := fun n => (iS ((2 ^ (n * endsN n w) : Nat) : Int) ++ (" relations of " : Str) ++ iS (n : Int) ++ (" modes" : Str)).length + ((if w then (", watched" : Str) else ("" : Str))).length ≤ 1000) hn ?_ ?_ ?_ <;> cases w <;> decide +kernel
  have tx := txt_eq w hn
  refine ⟨_, rfl, l1, szl _ _ la, l2, szl _ _ lb, szl _ _ lc, ?_⟩
  refine ⟨fun v M1 => v = .str (if w then (", watched" : Str) else ("" : Str)) ∧ M1 = M2, by cases w <;> exact ⟨rfl, rfl⟩, ?_⟩
  rintro _ M9 ⟨rfl, e9⟩
  rw [e9]
  refine ⟨szl _ _ ld, ?_⟩
  have nfS : PySem.W.notFirst K C_Space (.ref C_Space) = true := by simp [PySem.W.notFirst]
  refine ⟨⟨rfl, trivial⟩, n, w, rfl, hn, ifF (by rw [← tx]; exact nn) ?_⟩
  refine ⟨rfl, rfl, fun p hp => ⟨p, n, w, rfl, hn, mput_same, rfl, _, mput_same, ?_⟩⟩
  rw [mput_put, mdel_put hp]
  refine ⟨⟨rfl, trivial⟩, A.cls_Space.isC, nfS, n, w, _, _, rfl, .inl ⟨n, w, rfl, rfl⟩, ifF (by simp) ?_⟩
  refine ⟨rfl, rfl, fun p hp => ⟨p, n, !w, rfl, hn, mput_same, rfl, _, mput_same, ?_⟩⟩
  rw [mput_put, mdel_put hp]
  refine ⟨⟨rfl, trivial⟩, A.cls_Space.isC, nfS, n, w, _, _, rfl, .inl ⟨n, !w, rfl, rfl⟩, ifF (by cases w <;> simp) ?_⟩
  refine ⟨rok (by decide) (by decide), ?_⟩
  refine forD_rng (n := 6) (fun j δ M' => (∃ u5 u6 u7 u8 u9 u10, δ = [some (.ref d), some (.int (n : Int)), some (.bl w), some (Spc C_Space n w), some (sizD (endsN n w) (n * endsN n w)), u5, u6, u7, u8, u9, u10, none]) ∧ Urn d M' ∧ Km d M2 M') ?_ ?_ ⟨⟨_, none, none, none, none, none, rfl⟩, hd2, Km.refl⟩
  · rintro j δ M' NX hj ⟨⟨u5, u6, u7, u8, u9, u10, rfl⟩, hd', km'⟩ nx
    refine ⟨_, rfl, d, 2 ^ (n * endsN n w), rfl, hd', hp1, by omega, fun a M3 ha hd3 km3 => ⟨_, rfl, d, 2 ^ (n * endsN n w), rfl, hd3, hp1, by omega, fun b M4 hb hd4 km4 => ?_⟩⟩
    refine ⟨_, rfl, endsN n w, a, rfl, hE, _, rfl, endsN n w, b, rfl, hE, ?_⟩
    refine ⟨⟨rfl, rfl⟩, n, w, a, rfl, hn, ha, tupR_ok _ _, tupR_ok _ _, ifF nd2 ?_⟩
    refine ⟨⟨rfl, rfl⟩, d, cel a, (fun k => tupI (pr (endsN n w) k)), _, rfl, by rw [List.length_map], hd4, by have := cel_len a; omega, fun l' M5 pm hd5 km5 => ⟨n, w, l', rfl, hn, pm.nodup_iff.mpr (cel_nodup a), fun k hk => bit_lt ha (cel_mem.mp (pm.mem_iff.mp hk)).2, ?_⟩⟩
    refine ifF (by rw [back_eq ha el3 pm]; exact ni) ?_
    have c1 := cel_len a
    have c2 := cel_len b
    refine ⟨⟨rfl, rfl⟩, n, w, a, b, rfl, hn, ha, hb, _, rfl, sz (by rw [List.length_map, List.length_map]; omega), endsN n w, cel a ++ cel b, by unfold rowD; rw [List.map_append], hE, by rw [List.length_append]; omega, fun k hk => ?_, ifF (by rw [or_eq (h12 ha) (h12 hb)]; exact ni) ?_⟩
    · rcases List.mem_append.mp hk with hk | hk
      · exact (cel_mem.mp hk).1
      · exact (cel_mem.mp hk).1
    refine ⟨⟨rfl, rfl⟩, n, w, a, b, rfl, hn, ha, hb, endsN n w, a, b, rfl, hE, h12 ha, ifF nn (nx _ _ ⟨⟨_, _, _, _, _, _, rfl⟩, hd5, ((km'.trans km3).trans km4).trans km5⟩)⟩
  · rintro δ M' ⟨⟨u5, u6, u7, u8, u9, u10, rfl⟩, hd', km'⟩
    refine ⟨⟨rfl, rfl⟩, rfl, n, w, [], rfl, hn, List.nodup_nil, (fun k hk => nomatch hk), ifT (by rw [ofB_none]; rfl) ?_⟩
    refine ⟨rfl, ⟨rfl, trivial⟩, A.nfT, n, w, _, _, rfl, .inr ⟨_, rfl, rfl⟩, ?_⟩
    refine ⟨⟨rfl, rfl⟩, n, w, 0, rfl, hn, hp1, rfl, tupR_ok _ _, by decide, ?_⟩
    have e : eqD (tupR (endsN n w) (cel 0)) (.tup []) = true := by
      rw [show cel 0 = [] from by decide]
      exact eqD_same _
    have qq := q M' hd' ((km1.trans km2).trans km')
    rw [← e] at qq
    exact qq

end K20
set_option Elab.async false
set_option linter.all false
set_option maxRecDepth 100000
set_option maxHeartbeats 4000000

namespace K20
open PySem PySem.Spec PyProof.Rows L2 U
theorem D_law {P : Program} {w : World} {K : PySem.W.Frag} {mg : Str → Option Value} {base : Heap} {C_Space : Addr} (A : Facts K C_Space) (M : MgOf K mg) (Z : Zs mg) {f : Addr} {fd : FuncData} (F : Fun K "law" "law" s_law f fd)
  (D__law_urn : KnD P w K mg base "_law_urn" 1 ["_law_script", "_law_at"] spUrn) (D__law_right : KnD P w K mg base "_law_right" 9 ["_law_urn_here"] spRightS) (D_Space___init__ : KnK P w K mg base C_Space 3 ["self", "modes", "watched"] 2 ["watched"] [.bl false] (spInit C_Space)) (D_Space_size : KnPD P w K mg base C_Space "size" 1 ["self"] (spSize C_Space)) (D_Space_pairs : KnMD P w K mg base C_Space "pairs" 5 ["self", "relation"] (spPairsM C_Space)) (D_Space_relation : KnMD P w K mg base C_Space "relation" 4 ["self", "pairs"] (spRelation C_Space)) : FnOk P w K mg base CX0 10 f fd ["_law_script"] (LSp K spLawD) := by
  refine fnok_of F sc_law (fun ds M Q E ⟨_, h, _⟩ => by rw [h]; rfl) (fun f cdv A0 outer s H E hr => ?_)
  have hu := U.hu_of hr
  have nd := sc_law.nd
  refine ⟨_, (z_cons (z_for PassesOwn.never rfl (d_rg1 Z.range (d_cons (d_b Z.max b_max (c_dmax rfl) (d_cons d_int (d_cons (d_b Z.min b_min (c_dmin rfl) (d_cons d_int (d_cons (d_b Z.len b_len c_dlen (d_cons (dn 0) d_nil)) d_nil))) d_nil))) d_nil)) (t_n 1 nd) (z_cons (z_set 2 nd (d_call D__law_urn (hr.mono (by decide)) (d_cons (dn 0) (d_cons (dn 1) d_nil))))
      (z_one (z_for PassesOwn.never rfl (d_rg1 Z.range (d_cons d_int d_nil)) (t_n 3 nd) (z_one (z_if (d_tnot (d_tv (d_call D__law_right (hr.mono (by decide)) (d_cons (dn 2) d_nil)))) (z_one (z_ret d_bl)) z_nil))))))
      (z_cons (z_set 4 nd (d_lst (d_cons (d_prop D_Space_size A.cls_Space.cl (hr.mono (by decide)) (d_makeK M A.cls_Space D_Space___init__ (hr.mono (by decide)) (d_cons d_int d_nil) (d_kcons d_bl d_knil))) (d_cons (d_ix (d_meth D_Space_pairs A.cls_Space.cl (hr.mono (by decide)) (d_makeD (dfl := [.bl false]) M A.cls_Space D_Space___init__ (fun _ _ => .cons (.bl _) .nil) (hr.mono (by decide)) (d_cons d_int d_nil)) (d_cons d_int d_nil)) (d_neg d_int)) (d_cons (d_meth D_Space_relation A.cls_Space.cl (hr.mono (by decide)) (d_makeK M A.cls_Space D_Space___init__ (hr.mono (by decide)) (d_cons d_int d_nil) (d_kcons d_bl d_knil)) (d_cons (d_tup (d_cons (d_tup (d_cons d_int (d_cons d_int d_nil))) (d_cons (d_tup (d_cons d_int (d_cons d_int d_nil))) d_nil))) d_nil)) d_nil)))))
      (z_one (z_ret (d_eand (d_ecm (o_deq hu) (dn 4) (d_lst (d_cons d_int (d_cons (d_tup (d_cons d_int (d_cons d_int d_nil))) (d_cons d_int d_nil))))) (d_one (d_ecm (o_deq hu) (d_meth D_Space_pairs A.cls_Space.cl (hr.mono (by decide)) (d_makeK M A.cls_Space D_Space___init__ (hr.mono (by decide)) (d_cons d_int d_nil) (d_kcons d_bl d_knil)) (d_cons d_int d_nil)) (d_tup (d_cons (d_tup (d_cons d_int (d_cons d_int d_nil))) (d_cons (d_tup (d_cons d_int (d_cons d_int d_nil))) d_nil)))))))))), ?_⟩
  rintro ds M Q Ed ⟨ns, rfl, hl, q⟩
  obtain ⟨k, hk, hk2⟩ : ∃ k : Nat, (if (if (((ns.map Da.int).length : Nat) : Int) < 8 then (((ns.map Da.int).length : Nat) : Int) else 8) > 1 then (if (((ns.map Da.int).length : Nat) : Int) < 8 then (((ns.map Da.int).length : Nat) : Int) else 8) else 1) = (k : Int) ∧ k ≤ 8 := by
    refine ⟨(if (if (((ns.map Da.int).length : Nat) : Int) < 8 then (((ns.map Da.int).length : Nat) : Int) else 8) > 1 then (if (((ns.map Da.int).length : Nat) : Int) < 8 then (((ns.map Da.int).length : Nat) : Int) else 8) else 1).toNat, ?_, ?_⟩
    · rw [Int.toNat_of_nonneg]
      split <;> split <;> omega
    · split <;> split <;> omega
  have o1 : OkN 1 := ⟨by decide, by decide⟩
  have o2 : OkN 2 := ⟨by decide, by decide⟩
  have o3 : OkN 3 := ⟨by decide, by decide⟩
  refine ⟨rok (by rw [hk]; omega) (by rw [hk]; omega), ?_⟩
  rw [hk]
  refine forD_rng (n := k) (fun j δ M' => ∃ u v t, δ = [some (.lst (ns.map Da.int)), u, v, t, none]) ?_ ?_ ⟨none, none, none, rfl⟩
  · rintro j δ M' NX hj ⟨u, v, t, rfl⟩ nx
    refine ⟨ns, j, rfl, hl, by omega, fun d a b c hd => ?_⟩
    refine ⟨rok (by decide) (by decide), ?_⟩
    refine forD_rng (n := 4) (fun i δ M'' => (∃ t, δ = [some (.lst (ns.map Da.int)), some (.int (j : Int)), some (.ref d), t, none]) ∧ Urn d M'') ?_ ?_ ⟨⟨t, rfl⟩, _, _, _, mput_same⟩
    · rintro i δ M'' NX' hi ⟨⟨t, rfl⟩, hd'⟩ nx'
      exact ⟨d, rfl, hd', fun M3 hd3 _ => nx' _ _ ⟨⟨_, rfl⟩, hd3⟩⟩
    · rintro δ M'' ⟨⟨t, rfl⟩, _⟩
      exact nx _ _ ⟨_, _, _, rfl⟩
  · rintro δ M' ⟨u, v, t, rfl⟩
    have d1 : cel 511 = [0, 1, 2, 3, 4, 5, 6, 7, 8] := by decide
    have d2 : cel 3 = [0, 1] := by decide
    have d3 : ofB (fun k => [5, 0].contains k) (2 * endsN 2 true) = 33 := by decide
    refine ⟨rfl, rfl, fun p hp => ⟨p, 3, true, rfl, o3, mput_same, rfl, _, mput_same, ⟨rfl, trivial⟩, 3, true, rfl, ?_⟩⟩
    rw [mput_put, mdel_put hp]
    refine fun p hp => ⟨p, 3, false, rfl, o3, mput_same, rfl, _, mput_same, ?_⟩
    rw [mput_put, mdel_put hp]
    refine ⟨⟨rfl, rfl⟩, 3, false, 511, rfl, o3, by decide, ?_⟩
    rw [d1]
    refine ⟨_, rfl, rfl, rfl, fun p hp => ⟨p, 2, true, rfl, o2, mput_same, rfl, _, mput_same, ?_⟩⟩
    rw [mput_put, mdel_put hp]
    refine ⟨⟨rfl, rfl⟩, rfl, rfl, rfl, 2, true, [5, 0], rfl, o2, by decide, by decide, ?_⟩
    rw [d3]
    have ok3 : ∀ x ∈ ([.int 4096, .tup [.int 2, .int 2], .int 33] : List Da), okN 1 x := fun x hx => by
      simp only [List.mem_cons, List.not_mem_nil, or_false] at hx
      rcases hx with rfl | rfl | rfl
      · exact okN_int
      · exact okN_tupI [2, 2]
      · exact okN_int
    refine ⟨rfl, rfl, rfl, (okN_lst ok3).ok (by decide), (okN_lst ok3).ok (by decide), ifT (eqD_same (.lst [.int 4096, .tup [.int 2, .int 2], .int 33])) ?_⟩
    refine ⟨rfl, rfl, fun p hp => ⟨p, 1, true, rfl, o1, mput_same, rfl, _, mput_same, ?_⟩⟩
    rw [mput_put, mdel_put hp]
    refine ⟨⟨rfl, rfl⟩, 1, true, 3, rfl, o1, by decide, ?_⟩
    rw [d2]
    refine ⟨rfl, rfl, rfl, tupR_ok 2 [0, 1], tupR_ok 2 [0, 1], ?_⟩
    have qq := fun M' => q M'
    rw [← eqD_same (tupR 2 [0, 1])] at qq
    exact qq _
/-! ### the end -/
theorem all_ok {P : Program} {w : World} {K : PySem.W.Frag} {mg : Str → Option Value} {h base : Heap} {C_Space : Addr} (A : Facts K C_Space) (X : K.In h) (G : h.Ns mainGlobals mg)
    {f : Addr} {fd : FuncData} (F : Fun K "law" "law" s_law f fd) : FnOk P w K mg base CX0 10 f fd ["_law_script"] (LSp K spLawD) := by
  have M := MgOf.mk' X G
  have Z := zs_of A M
  have d__law_urn := D__law_urn (P := P) (w := w) (base := base) A M Z 
  have d__law_take := D__law_take (P := P) (w := w) (base := base) A M Z 
  have d_is_integer := D_is_integer (P := P) (w := w) (base := base) A M Z 
  have d_is_from := D_is_from (P := P) (w := w) (base := base) A M Z d_is_integer
  have d_Space___init__ := D_Space___init__ (P := P) (w := w) (base := base) A M Z d_is_from
  have d_Space_is_relation := D_Space_is_relation (P := P) (w := w) (base := base) A M Z d_is_from
  have d_Space_bit := D_Space_bit (P := P) (w := w) (base := base) A M Z 
  have d_Space_has := D_Space_has (P := P) (w := w) (base := base) A M Z d_Space_bit
  have d_Space_require_relation := D_Space_require_relation (P := P) (w := w) (base := base) A M Z d_Space_is_relation
  have d_Space_either := D_Space_either (P := P) (w := w) (base := base) A M Z d_Space_require_relation
  have d_Space_is_within := D_Space_is_within (P := P) (w := w) (base := base) A M Z d_Space_require_relation
  have d_Space_same := D_Space_same (P := P) (w := w) (base := base) A M Z 
  have d__law_pairs := D__law_pairs (P := P) (w := w) (base := base) A M Z 
  have d__law_bits := D__law_bits (P := P) (w := w) (base := base) A M Z 
  have d__law_sizes := D__law_sizes (P := P) (w := w) (base := base) A M Z 
  have d_Space_modes := D_Space_modes (P := P) (w := w) (base := base) A M Z 
  have d_Space_watched := D_Space_watched (P := P) (w := w) (base := base) A M Z 
  have d_Space_ends := D_Space_ends (P := P) (w := w) (base := base) A M Z 
  have d_Space_size := D_Space_size (P := P) (w := w) (base := base) A M Z 
  have d_Space_pairs := D_Space_pairs (P := P) (w := w) (base := base) A M Z d_Space_require_relation d_Space_has
  have d_Space_is_pair := D_Space_is_pair (P := P) (w := w) (base := base) A M Z d_is_from
  have d_Space_relation := D_Space_relation (P := P) (w := w) (base := base) A M Z d_Space_is_pair d_Space_bit
  have d_Space___eq__ := D_Space___eq__ (P := P) (w := w) (base := base) A M Z 
  have d_Space___str__ := D_Space___str__ (P := P) (w := w) (base := base) A M Z 
  have d__law_within := D__law_within (P := P) (w := w) (base := base) A M Z 
  have d__law_some := D__law_some (P := P) (w := w) (base := base) A M Z d__law_take
  have d__law_right := D__law_right (P := P) (w := w) (base := base) A M Z d__law_take d_Space___init__ d__law_sizes d_Space_modes d_Space_watched d_Space_ends d_Space_size d_Space_same d__law_bits d_Space___str__ d_Space___eq__ d__law_pairs d_Space_pairs d_Space_relation d__law_some d_Space_either d_Space_is_within d__law_within
  exact D_law A M Z F d__law_urn d__law_right d_Space___init__ d_Space_size d_Space_pairs d_Space_relation
theorem law_start {K : PySem.W.Frag} {H : Hp} {a : Addr} {ns : List Int} (hl : ns.length ≤ 63) (hS : SqL K H a (ns.map V.int)) : LSp K spLawD [.ref a] H (fun v _ => v = .bl true) fun _ _ _ => False := by
  obtain ⟨s, r⟩ := start_state hS
  refine ⟨NoF, _, _, _, fun d _ => d = .bl true, X0, r, s, ⟨ns, rfl, hl, fun _ => rfl⟩, fun v H' W' d M' g s' r q => ?_, fun _ _ _ _ _ _ _ _ _ z => z.elim⟩
  subst q
  cases r
  rfl
theorem fin {P : Program} {w : World} {K : PySem.W.Frag} {mg : Str → Option Value} {h : Heap} (X : K.In h) (G : h.Ns mainGlobals mg) (A : ∃ C_Space, Facts K C_Space) :
    HasDef K "law" s_law ∧ ∀ (f : Addr) (fd : FuncData) (base : Heap), K.In base → base.Ns mainGlobals mg → Fun K "law" "law" s_law f fd → FnOk P w K mg base CX0 10 f fd ["_law_script"] (LSp K spLawD) := by
  obtain ⟨C, A⟩ := A
  exact ⟨A.d_law, fun _ _ base _ _ F => all_ok A X G F⟩

end K20
open PySem PySem.W PyProof.Rows
set_option maxRecDepth 100000 in
set_option maxHeartbeats 0 in
theorem PySem.Challenge.cw_blockshanded_k20_relations_by_their_pair_holds : PySem.Challenge.rw_blockshanded_k20_relations_by_their_pair.Holds := by
  w_on; o_law; k_head; (case hw => w_witness2)
  k_fill
  refine U.walk_law (l := PySem.Challenge.rw_blockshanded_k20_relations_by_their_pair) (n := 63) (k := 10) (x := "_law_script") (st := K20.s_law) (sp := fun K => U.LSp K U.spLawD) rfl (by decide) rfl ⟨rfl, by decide, by decide⟩ rfl (fun w h Y => PySem.W.kIn_of Y) (fun _ _ _ _ _ _ us hl => match us, hl with | [_], _ => rfl) ?F (fun K H a ns hl _ hS => K20.law_start hl hS)
  case F =>
    intro w mg h KX G
    refine K20.fin KX G ?A
    refine' ⟨_, ?f⟩
    case f =>
      constructor
      case cls_Space => (refine' U.HasCls.mk' ?qa ?qb ?qc ?qd ?qe ?qf ?qg ?qh ?qi ?qj ?qk; (case qa => k_is); (case qb => k_is); (case qc => k_is); (case qd => k_is); (case qe => k_is); (case qf => k_is); (case qg => k_is); (case qh => k_is); (case qi => k_is); (case qj => k_is); (case qk => k_is))
      case d_is_integer => (refine' U.has_mk ?qa ?ql ?qc ?qk; (case qa => k_is); (case ql => k_is); (case qc => k_is); (case qk => k_is))
      case d_is_from => (refine' U.has_mk ?qa ?ql ?qc ?qk; (case qa => k_is); (case ql => k_is); (case qc => k_is); (case qk => k_is))
      case d__law_urn => (refine' U.has_mk ?qa ?ql ?qc ?qk; (case qa => k_is); (case ql => k_is); (case qc => k_is); (case qk => k_is))
      case d__law_take => (refine' U.has_mk ?qa ?ql ?qc ?qk; (case qa => k_is); (case ql => k_is); (case qc => k_is); (case qk => k_is))
      case d__law_some => (refine' U.has_mk ?qa ?ql ?qc ?qk; (case qa => k_is); (case ql => k_is); (case qc => k_is); (case qk => k_is))
      case d__law_pairs => (refine' U.has_mk ?qa ?ql ?qc ?qk; (case qa => k_is); (case ql => k_is); (case qc => k_is); (case qk => k_is))
      case d__law_bits => (refine' U.has_mk ?qa ?ql ?qc ?qk; (case qa => k_is); (case ql => k_is); (case qc => k_is); (case qk => k_is))
      case d__law_within => (refine' U.has_mk ?qa ?ql ?qc ?qk; (case qa => k_is); (case ql => k_is); (case qc => k_is); (case qk => k_is))
      case d__law_sizes => (refine' U.has_mk ?qa ?ql ?qc ?qk; (case qa => k_is); (case ql => k_is); (case qc => k_is); (case qk => k_is))
      case d__law_right => (refine' U.has_mk ?qa ?ql ?qc ?qk; (case qa => k_is); (case ql => k_is); (case qc => k_is); (case qk => k_is))
      case d_law => (refine' U.has_mk ?qa ?ql ?qc ?qk; (case qa => k_is); (case ql => k_is); (case qc => k_is); (case qk => k_is))
      case i_Space => (refine' U.initk_mk ?qa ?qi ?ql ?qc ?qk ?qg ?qt ?qf ?qd ?qr ?qp; (case qa => k_is); (case qi => k_is); (case ql => k_is); (case qc => k_is); (case qk => k_is); (case qg => k_is); (case qt => k_is); (case qf => k_is); (case qd => k_is); (case qr => rfl); (case qp => decide +kernel))
      case p_Space_modes => (refine' U.prop_mk ?qa ?qb ?qt ?qr ?ql ?qc ?qk; (case qa => k_is); (case qb => k_is); (case qt => k_is); (case qr => k_is); (case ql => k_is); (case qc => k_is); (case qk => k_is))
      case p_Space_watched => (refine' U.prop_mk ?qa ?qb ?qt ?qr ?ql ?qc ?qk; (case qa => k_is); (case qb => k_is); (case qt => k_is); (case qr => k_is); (case ql => k_is); (case qc => k_is); (case qk => k_is))
      case p_Space_ends => (refine' U.prop_mk ?qa ?qb ?qt ?qr ?ql ?qc ?qk; (case qa => k_is); (case qb => k_is); (case qt => k_is); (case qr => k_is); (case ql => k_is); (case qc => k_is); (case qk => k_is))
      case p_Space_size => (refine' U.prop_mk ?qa ?qb ?qt ?qr ?ql ?qc ?qk; (case qa => k_is); (case qb => k_is); (case qt => k_is); (case qr => k_is); (case ql => k_is); (case qc => k_is); (case qk => k_is))
      case p_Space_same => (refine' U.prop_mk ?qa ?qb ?qt ?qr ?ql ?qc ?qk; (case qa => k_is); (case qb => k_is); (case qt => k_is); (case qr => k_is); (case ql => k_is); (case qc => k_is); (case qk => k_is))
      case m_Space_bit => (refine' U.meth_mk ?qa ?qi ?ql ?qc ?qk ?qg ?qt ?qf ?qp; (case qa => k_is); (case qi => k_is); (case ql => k_is); (case qc => k_is); (case qk => k_is); (case qg => k_is); (case qt => k_is); (case qf => k_is); (case qp => decide +kernel))
      case m_Space_has => (refine' U.meth_mk ?qa ?qi ?ql ?qc ?qk ?qg ?qt ?qf ?qp; (case qa => k_is); (case qi => k_is); (case ql => k_is); (case qc => k_is); (case qk => k_is); (case qg => k_is); (case qt => k_is); (case qf => k_is); (case qp => decide +kernel))
      case m_Space_is_relation => (refine' U.meth_mk ?qa ?qi ?ql ?qc ?qk ?qg ?qt ?qf ?qp; (case qa => k_is); (case qi => k_is); (case ql => k_is); (case qc => k_is); (case qk => k_is); (case qg => k_is); (case qt => k_is); (case qf => k_is); (case qp => decide +kernel))
      case m_Space_require_relation => (refine' U.meth_mk ?qa ?qi ?ql ?qc ?qk ?qg ?qt ?qf ?qp; (case qa => k_is); (case qi => k_is); (case ql => k_is); (case qc => k_is); (case qk => k_is); (case qg => k_is); (case qt => k_is); (case qf => k_is); (case qp => decide +kernel))
      case m_Space_pairs => (refine' U.meth_mk ?qa ?qi ?ql ?qc ?qk ?qg ?qt ?qf ?qp; (case qa => k_is); (case qi => k_is); (case ql => k_is); (case qc => k_is); (case qk => k_is); (case qg => k_is); (case qt => k_is); (case qf => k_is); (case qp => decide +kernel))
      case m_Space_is_pair => (refine' U.meth_mk ?qa ?qi ?ql ?qc ?qk ?qg ?qt ?qf ?qp; (case qa => k_is); (case qi => k_is); (case ql => k_is); (case qc => k_is); (case qk => k_is); (case qg => k_is); (case qt => k_is); (case qf => k_is); (case qp => decide +kernel))
      case m_Space_relation => (refine' U.meth_mk ?qa ?qi ?ql ?qc ?qk ?qg ?qt ?qf ?qp; (case qa => k_is); (case qi => k_is); (case ql => k_is); (case qc => k_is); (case qk => k_is); (case qg => k_is); (case qt => k_is); (case qf => k_is); (case qp => decide +kernel))
      case m_Space_either => (refine' U.meth_mk ?qa ?qi ?ql ?qc ?qk ?qg ?qt ?qf ?qp; (case qa => k_is); (case qi => k_is); (case ql => k_is); (case qc => k_is); (case qk => k_is); (case qg => k_is); (case qt => k_is); (case qf => k_is); (case qp => decide +kernel))
      case m_Space_is_within => (refine' U.meth_mk ?qa ?qi ?ql ?qc ?qk ?qg ?qt ?qf ?qp; (case qa => k_is); (case qi => k_is); (case ql => k_is); (case qc => k_is); (case qk => k_is); (case qg => k_is); (case qt => k_is); (case qf => k_is); (case qp => decide +kernel))
      case m_Space___eq__ => (refine' U.meth_mk ?qa ?qi ?ql ?qc ?qk ?qg ?qt ?qf ?qp; (case qa => k_is); (case qi => k_is); (case ql => k_is); (case qc => k_is); (case qk => k_is); (case qg => k_is); (case qt => k_is); (case qf => k_is); (case qp => decide +kernel))
      case m_Space___str__ => (refine' U.meth_mk ?qa ?qi ?ql ?qc ?qk ?qg ?qt ?qf ?qp; (case qa => k_is); (case qi => k_is); (case ql => k_is); (case qc => k_is); (case qk => k_is); (case qg => k_is); (case qt => k_is); (case qf => k_is); (case qp => decide +kernel))
      case n_Space_own_modes => (refine' U.noattr_mk ?qa; (case qa => k_is))
      case n_Space_own_watched => (refine' U.noattr_mk ?qa; (case qa => k_is))
      case n_Space_own_ends => (refine' U.noattr_mk ?qa; (case qa => k_is))
      case n_Space_own_powers => (refine' U.noattr_mk ?qa; (case qa => k_is))
      case n_Space_own_size => (refine' U.noattr_mk ?qa; (case qa => k_is))
      case n_Space_own_same => (refine' U.noattr_mk ?qa; (case qa => k_is))
      case ne_Space => (k_is)
      case nfT => (k_is)
      case kitT => (refine' U.kit_mk ?qa ?qb ?qc; (case qa => k_is); (case qb => k_is); (case qc => k_is))
      case z_abs => (k_is)
      case z_all => (k_is)
      case z_bool => (k_is)
      case z_int => (k_is)
      case z_isinstance => (k_is)
      case z_len => (k_is)
      case z_list => (k_is)
      case z_max => (k_is)
      case z_min => (k_is)
      case z_range => (k_is)
      case z_repr => (k_is)
      case z_set => (k_is)
      case z_sorted => (k_is)
      case z_str => (k_is)
      case z_sum => (k_is)
      case z_tuple => (k_is)
      case c_MAX_MODES => (refine' U.cst_int ?qe; (case qe => k_is))
#print axioms PySem.Challenge.cw_blockshanded_k20_relations_by_their_pair_holds
