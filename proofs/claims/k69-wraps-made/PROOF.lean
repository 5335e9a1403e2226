import PyProof.Rows.All
import Wide.All
import OpenK.AllK
import Wide.FinOn
import HandS.ForMost
import HandS.IsInst
import HandS.Flow
import HandS.Wide
import HandS.Style
import HandS.RaiseMore
import HandS.Steps
import HandS.MakeKwOnly
import HandS.Property
import HandS.OwnEq
import HandS.MethStar
import HandS.TupSets
import HandS.Deep
import HandS.FStr
import HandS.TupAny
import HandS.TupMul
import HandS.Conv
import HandS.Zip
import HandS.Lambda
import PyProof.Rows.SeqMore
import PyProof.ListMulAny
import HandS.TryOnly
import HandS.Exc
import HandS.WideBits
import PyProof.WalksMore
import KE.KUnpackStar
import HandS.SetBool
import HandS.SetFor
import HandS.More
import HandS.Dict
import PyProof.AttrMissHeap
import PyProof.NeKinds
import HandS.ExcOwn
import HandS.Small
import HandS.TryMany
import HandS.WordsExc
import HandS.EndTab
import HandS.HeadWalk
import HandS.DictComp
import HandS.ClsMeth
import HandS.Star
import PyProof.Rows.SortShellAny
import PyProof.EqKinds
import PyProof.Claim2Refuses
import KE.KExcInit
import HandS.ExcInit
import HandS.ExcField
import PyProof.RulesRaise
import PyProof.FactsTree
import HandS.ExcIs
import KE.GoesMore
import KE.GoesEnum
import PySem.Challenge.RW_blockshanded_k69_wraps_made
set_option Elab.async false
set_option linter.all false
set_option maxRecDepth 100000
set_option maxHeartbeats 2000000
namespace U
open PySem PySem.Spec PyProof.Rows L2
section
variable {X : Cx} {a b c e : Expr} {ta tb tc te t t' : TE} {pos : Pos}
theorem imp (h : PE X e t) (f : ∀ σ H Q, t' σ H Q → t σ H Q) : PE X e t' := ⟨fun pins s σ H Q I q => h.run pins s σ H Q I (f σ H Q q)⟩
theorem callImp {f : Value} {r r' : List V → Hp → VK → Prop} (h : CallR X f r) (g : ∀ xs H Q, r' xs H Q → r xs H Q) : CallR X f r' :=
  fun pins s σ H xs us Q I rx q => h pins s σ H xs us Q I rx (g xs H Q q)
/-- several rules of one operation, chosen by the values -/
theorem opCases {f : Value → Value → Sem Value} {r : R2} (h : ∀ x y H Q, r x y H Q → ∃ r' : R2, OpR X f r' ∧ r' x y H Q) : OpR X f r :=
  fun pins s σ H x y v u Q I rx ry q => let ⟨_, o, q'⟩ := h x y H Q q; o pins s σ H x y v u Q I rx ry q'
theorem callCases {f : Value} {r : List V → Hp → VK → Prop} (h : ∀ xs H Q, r xs H Q → ∃ r' : List V → Hp → VK → Prop, CallR X f r' ∧ r' xs H Q) : CallR X f r :=
  fun pins s σ H xs us Q I rx q => let ⟨_, o, q'⟩ := h xs H Q q; o pins s σ H xs us Q I rx q'

def fVar (i : Nat) : TE := fun σ H Q => match σ[i]? with | some (some v) => Q v H | _ => False
theorem n (i : Nat) {x : Str} {pos : Pos} (hN : X.N[i]? = some x := by rfl) (hv : Vis X.env.scope x := by first | exact Or.inl rfl | exact Or.inr (Or.inl rfl) | exact Or.inr (Or.inr rfl))
    (hd : (x == ("__debug__" : Str)) = false := by decide) (hcd : (x == ("__classdict__" : Str)) = false := by decide) : PE X (.Name x pos) (fVar i) :=
  imp (pe_var hN hv hd hcd) fun σ H Q h => by
    unfold fVar at h
    split at h
    · rename_i v e
      exact ⟨v, e, h⟩
    · exact h.elim

def fAdd : R2 := fun x y H Q => match x, y with
  | .int i, .int j => Q (.int (i + j)) H
  | .int i, .bl k => Q (.int (i + b2i k)) H
  | .str a, .str b => a.length + b.length ≤ sizeLine ∧ Q (.str (a ++ b)) H
  | .ref l, .ref r => rCat (.ref l) (.ref r) H Q
  | _, _ => False
theorem o_add : OpR X (binaryOp .Add) fAdd := opCases fun x y H Q h => by
  cases x <;> cases y <;> first | exact h.elim | skip
  · exact ⟨_, op_add_ib, _, _, rfl, rfl, h⟩
  · exact ⟨_, op_add, _, _, rfl, rfl, h⟩
  · exact ⟨_, op_add_str, _, _, rfl, rfl, h.1, h.2⟩
  · exact ⟨_, op_cat, h⟩
def fSub : R2 := fun x y H Q => match x, y with
  | .int i, .int j => Q (.int (i - j)) H
  | _, _ => False
theorem o_sub : OpR X (binaryOp .Sub) fSub := opCases fun x y H Q h => by
  cases x <;> cases y <;> first | exact h.elim | exact ⟨_, op_sub, _, _, rfl, rfl, h⟩
def fMul : R2 := fun x y H Q => match x, y with
  | .int i, .int j => CMul i j ∧ Q (.int (i * j)) H
  | .ref l, .int k => rRep (.ref l) (.int k) H Q
  | _, _ => False
theorem o_mul : OpR X (binaryOp .Mult) fMul := opCases fun x y H Q h => by
  cases x <;> cases y <;> first | exact h.elim | exact ⟨_, op_mul, _, _, rfl, rfl, h.1, h.2⟩ | exact ⟨_, op_rep, h⟩
def fDiv : R2 := fun x y H Q => match x, y with
  | .int i, .int j => CDiv i j ∧ Q (.int (i / j)) H
  | _, _ => False
theorem o_div : OpR X (binaryOp .FloorDiv) fDiv := opCases fun x y H Q h => by
  cases x <;> cases y <;> first | exact h.elim | exact ⟨_, op_fdiv, _, _, rfl, rfl, h.1, h.2⟩
def fMod : R2 := fun x y H Q => match x, y with
  | .int i, .int j => 0 < j ∧ Q (.int (i % j)) H
  | _, _ => False
theorem o_mod : OpR X (binaryOp .Mod) fMod := opCases fun x y H Q h => by
  cases x <;> cases y <;> first | exact h.elim | exact ⟨_, op_mod, _, _, rfl, rfl, h.1, h.2⟩
/-- a written power of written numbers -/
def CPowW (i j : Int) : Prop := 0 ≤ j ∧ (Builtin.Int.intBits i : Int) * j ≤ 2 ^ 27
theorem op_powW : OpR X (binaryOp .Pow) (rI CPowW fun i j => .int (i ^ j.toNat)) := opI fun _ _ _ _ _ _ _ hc q => pow_int hc.1 hc.2 q
def fPow : R2 := fun x y H Q => match x, y with
  | .int i, .int j => CPowW i j ∧ Q (.int (i ^ j.toNat)) H
  | _, _ => False
theorem o_pow : OpR X (binaryOp .Pow) fPow := opCases fun x y H Q h => by
  cases x <;> cases y <;> first | exact h.elim | exact ⟨_, op_powW, _, _, rfl, rfl, h.1, h.2⟩

def fLt : R2 := fun x y H Q => match x, y with
  | .int i, .int j => Q (.bl (decide (i < j))) H
  | .str a, .str b => Q (.bl (decide (a.cps.toList < b.cps.toList))) H
  | _, _ => False
def fLe : R2 := fun x y H Q => match x, y with
  | .int i, .int j => Q (.bl (decide (i ≤ j))) H
  | .str a, .str b => Q (.bl (!decide (b.cps.toList < a.cps.toList))) H
  | _, _ => False
def fGt : R2 := fun x y H Q => match x, y with
  | .int i, .int j => Q (.bl (decide (j < i))) H
  | .str a, .str b => Q (.bl (decide (b.cps.toList < a.cps.toList))) H
  | _, _ => False
theorem o_lt : OpR X (compareOp .Lt) fLt := opCases fun x y H Q h => by
  cases x <;> cases y <;> first | exact h.elim | exact ⟨_, op_lt, _, _, rfl, rfl, h⟩ | exact ⟨_, op_lt_str, _, _, rfl, rfl, h⟩
theorem o_le : OpR X (compareOp .LtE) fLe := opCases fun x y H Q h => by
  cases x <;> cases y <;> first | exact h.elim | exact ⟨_, op_le, _, _, rfl, rfl, h⟩ | exact ⟨_, op_le_str, _, _, rfl, rfl, h⟩
theorem o_gt : OpR X (compareOp .Gt) fGt := opCases fun x y H Q h => by
  cases x <;> cases y <;> first | exact h.elim | exact ⟨_, op_gt, _, _, rfl, rfl, h⟩ | exact ⟨_, op_gt_str, _, _, rfl, rfl, h⟩
/-- == of two scalars at once; of data by what it holds -/
def fEq (K : PySem.W.Frag) : R2 := fun x y H Q => match x, y with
  | .int i, .int j => Q (.bl (decide (i = j))) H
  | .str a, .str b => Q (.bl (decide (a = b))) H
  | .bl a, .bl b => Q (.bl (decide (a = b))) H
  | _, _ => rEqD K x y H Q
def fNe (K : PySem.W.Frag) : R2 := fun x y H Q => match x, y with
  | .int i, .int j => Q (.bl (!decide (i = j))) H
  | .str a, .str b => Q (.bl (!decide (a = b))) H
  | .bl a, .bl b => Q (.bl (!decide (a = b))) H
  | _, _ => rNeD K x y H Q
theorem dI {i j : Int} : decide (V.int i = V.int j) = decide (i = j) := by simp
theorem dS {i j : Str} : decide (V.str i = V.str j) = decide (i = j) := by simp
theorem dB {i j : Bool} : decide (V.bl i = V.bl j) = decide (i = j) := by simp
theorem o_eq (hu : X.A.units + 64 < cLine) : OpR X (compareOp .Eq) (fEq X.K) := opCases fun x y H Q h => by
  cases x <;> cases y <;> first | exact ⟨_, op_eqD hu, h⟩ | exact ⟨_, op_eq, rfl, by rw [dI]; exact h⟩ | exact ⟨_, op_eq, rfl, by rw [dS]; exact h⟩ | exact ⟨_, op_eq, rfl, by rw [dB]; exact h⟩
theorem o_ne (hu : X.A.units + 64 < cLine) : OpR X (compareOp .NotEq) (fNe X.K) := opCases fun x y H Q h => by
  cases x <;> cases y <;> first | exact ⟨_, op_neD hu, h⟩ | exact ⟨_, op_ne, rfl, by rw [dI]; exact h⟩ | exact ⟨_, op_ne, rfl, by rw [dS]; exact h⟩ | exact ⟨_, op_ne, rfl, by rw [dB]; exact h⟩
def fIsN : R2 := fun x y H Q => match y with
  | .non => Q (.bl (decide (x = .non))) H
  | _ => False
def fNotN : R2 := fun x y H Q => match y with
  | .non => Q (.bl (!decide (x = .non))) H
  | _ => False
theorem o_isN : OpR X (compareOp .Is) fIsN := opCases fun x y H Q h => by
  cases y <;> first | exact h.elim | exact ⟨_, op_isN, rfl, h⟩
theorem o_notN : OpR X (compareOp .IsNot) fNotN := opCases fun x y H Q h => by
  cases y <;> first | exact h.elim | exact ⟨_, op_notN, rfl, h⟩

def fTest (t : TE) : TT := fun σ H Q => t σ H fun x H' => match x with
  | .bl k => Q k H'
  | _ => False
theorem fTest_eq : fTest = tTest := by
  funext t σ H Q
  show t σ H _ = t σ H _
  congr 1
  funext x H'
  cases x <;> simp
/-- a comparison as a test, as a value -/
theorem tcm {op : CmpOp} {r : R2} (ho : OpR X (compareOp op) r) (ha : PE X a ta) (hb : PE X b tb) (hm : behindInMarks op b = false := by first | exact nomark _ | rfl) : PT X (.Compare a [op] [b] pos) (fTest (tOp r ta tb)) := by
  rw [fTest_eq]; exact pt_cmpR ho ha hb hm
theorem ecm {op : CmpOp} {r : R2} (ho : OpR X (compareOp op) r) (ha : PE X a ta) (hb : PE X b tb) (hm : behindInMarks op b = false := by first | exact nomark _ | rfl) : PE X (.Compare a [op] [b] pos) (tOp r ta tb) := pe_cmpR ho ha hb hm
def fChain (r r' : R2) (ta tb tc : TE) : TE := fun σ H Q => ta σ H fun x H1 => tb σ H1 fun y H2 => r x y H2 fun z H3 => match z with
  | .bl k => if k = true then tc σ H3 fun w' H4 => r' y w' H4 Q else Q (.bl false) H3
  | _ => False
theorem fChain_eq : fChain = tChain := by
  funext r r' ta tb tc σ H Q
  show ta σ H _ = ta σ H _
  congr 1
  funext x H1
  show tb σ H1 _ = tb σ H1 _
  congr 1
  funext y H2
  show r x y H2 _ = r x y H2 _
  congr 1
  funext z H3
  cases z <;> simp
theorem ech {op op' : CmpOp} {r r' : R2} (ho : OpR X (compareOp op) r) (ho' : OpR X (compareOp op') r') (ha : PE X a ta) (hb : PE X b tb) (hc : PE X c tc) (hm : lastMarks [op, op'] [b, c] = false := by rfl) :
    PE X (.Compare a [op, op'] [b, c] pos) (fChain r r' ta tb tc) := by
  rw [fChain_eq]; exact pe_chain ho ho' ha hb hc hm
theorem tch {op op' : CmpOp} {r r' : R2} (ho : OpR X (compareOp op) r) (ho' : OpR X (compareOp op') r') (ha : PE X a ta) (hb : PE X b tb) (hc : PE X c tc) (hm : lastMarks [op, op'] [b, c] = false := by rfl) :
    PT X (.Compare a [op, op'] [b, c] pos) (fTest (fChain r r' ta tb tc)) := by
  rw [fChain_eq, fTest_eq]; exact pt_chain ho ho' ha hb hc hm
/-- any value as a test -/
def fTru (K : PySem.W.Frag) (t : TE) : TT := fun σ H Q => t σ H fun x H' => match x with
  | .bl k => Q k H'
  | .non => Q false H'
  | .int i => Q (i != 0) H'
  | .str y => y.length ≤ sizeLine ∧ Q ((y.length : Int) != 0) H'
  | x => ∃ k, TruV K x H' k ∧ Q k H'
theorem fTru_eq {K : PySem.W.Frag} {t : TE} : fTru K t = fun σ H Q => t σ H fun x H' => ∃ k, TruV K x H' k ∧ Q k H' := by
  funext σ H Q
  show t σ H _ = t σ H _
  congr 1
  funext x H'
  cases x <;> first | (apply propext; exact ⟨fun ⟨h1, h2⟩ => ⟨_, ⟨h1, rfl⟩, h2⟩, fun ⟨k, ⟨h1, h2⟩, h3⟩ => ⟨h1, h2 ▸ h3⟩⟩) | simp [TruV]
theorem tv (ha : PE X a ta) (he : ∀ whole, isTrue a X.env whole = (do let v ← whole; standAt a.pos; holding [v] (truthy v)) := by intro _; rfl) : PT X a (fTru X.K ta) := by
  rw [fTru_eq]; exact pt_truth ha he
def fAndV (ta tb : TE) : TE := fun σ H Q => ta σ H fun x H1 => match x with
  | .bl c => if c = true then tb σ H1 Q else Q (.bl false) H1
  | _ => False
def fOrV (ta tb : TE) : TE := fun σ H Q => ta σ H fun x H1 => match x with
  | .bl c => if c = true then Q (.bl true) H1 else tb σ H1 Q
  | _ => False
def fNotV (ta : TE) : TE := fun σ H Q => ta σ H fun x H1 => match x with
  | .bl c => Q (.bl (!c)) H1
  | _ => False
theorem fAndV_eq : fAndV = tAndV := by
  funext ta tb σ H Q
  show ta σ H _ = ta σ H _
  congr 1
  funext x H1
  cases x <;> simp
theorem fOrV_eq : fOrV = tOrV := by
  funext ta tb σ H Q
  show ta σ H _ = ta σ H _
  congr 1
  funext x H1
  cases x <;> simp
theorem fNotV_eq : fNotV = tNotV := by
  funext ta σ H Q
  show ta σ H _ = ta σ H _
  congr 1
  funext x H1
  cases x <;> simp
variable {rest : List Expr}
theorem eand (ha : PE X a ta) (hb : PE X (.BoolOp .And (b :: rest) pos) tb) : PE X (.BoolOp .And (a :: b :: rest) pos) (fAndV ta tb) := by rw [fAndV_eq]; exact pe_and ha hb
theorem eor (ha : PE X a ta) (hb : PE X (.BoolOp .Or (b :: rest) pos) tb) : PE X (.BoolOp .Or (a :: b :: rest) pos) (fOrV ta tb) := by rw [fOrV_eq]; exact pe_or ha hb
theorem enot (ha : PE X a ta) : PE X (.UnaryOp .Not a pos) (fNotV ta) := by rw [fNotV_eq]; exact pe_not ha
def fAbs : List V → Hp → VK → Prop := fun xs H Q => match xs with
  | [.int i] => Q (.int (if i < 0 then -i else i)) H
  | _ => False
theorem c_abs : CallR X (.builtin "abs") fAbs := callImp call_abs fun xs H Q h => by
  unfold fAbs at h; split at h
  · exact ⟨_, rfl, h⟩
  · exact h.elim
def fMax : List V → Hp → VK → Prop := fun xs H Q => match xs with
  | [.int i, .int j] => Q (.int (if j > i then j else i)) H
  | _ => False
theorem c_max (hc : X.calm = true) : CallR X (.builtin "max") fMax := callImp (call_max2 hc) fun xs H Q h => by
  unfold fMax at h; split at h
  · exact ⟨_, _, rfl, h⟩
  · exact h.elim
def fMin : List V → Hp → VK → Prop := fun xs H Q => match xs with
  | [.int i, .int j] => Q (.int (if j < i then j else i)) H
  | _ => False
theorem c_min (hc : X.calm = true) : CallR X (.builtin "min") fMin := callImp (call_min2 hc) fun xs H Q h => by
  unfold fMin at h; split at h
  · exact ⟨_, _, rfl, h⟩
  · exact h.elim
def fInt : List V → Hp → VK → Prop := fun xs H Q => match xs with
  | [.int i] => Q (.int i) H
  | [.bl k] => Q (.int (if k then 1 else 0)) H
  | _ => False
theorem c_int : CallR X (.type "int") fInt := callImp call_int1 fun xs H Q h => by
  unfold fInt at h; split at h
  · exact .inl ⟨_, rfl, h⟩
  · exact .inr ⟨_, rfl, h⟩
  · exact h.elim
def fLen (K : PySem.W.Frag) : List V → Hp → VK → Prop := fun xs H Q => match xs with
  | [.str y] => y.length ≤ sizeLine ∧ Q (.int y.length) H
  | [.ref p] => ∃ n : Nat, ((∃ xs, SqL K H p xs ∧ n = xs.length) ∨ ∃ xs, SqT K H p xs ∧ n = xs.length) ∧ Q (.int n) H
  | _ => False
theorem c_len : CallR X (.builtin "len") (fLen X.K) := callImp call_len fun xs H Q h => by
  unfold fLen at h; split at h
  · exact ⟨_, _, rfl, ⟨h.1, rfl⟩, h.2⟩
  · obtain ⟨n, h1, h2⟩ := h
    exact ⟨_, n, rfl, h1, h2⟩
  · exact h.elim
theorem set (i : Nat) {x : Str} {pos' : Pos} {te : TE} (hN : X.N.Nodup) (he : PE X e te) (hi : X.N[i]? = some x := by rfl) (hx : Loc X.env.scope x := by first | exact Or.inl rfl | exact Or.inr rfl) (hs : swapsWith e (some (.Name x pos')) pos.line X.env = pure false := by rfl)
    (hf : X.fn x = true ∨ X.env.scope.names.lookup x = some .local := by first | exact .inl rfl | exact .inr rfl) : PS X (.Assign [.Name x pos'] e pos) (tAsg te (gName i)) := ps_set hN hi hx he hs hf
theorem gn (i : Nat) {x : Str} {pos : Pos} (hN : X.N.Nodup) (hi : X.N[i]? = some x := by rfl) (hx : Loc X.env.scope x := by first | exact Or.inl rfl | exact Or.inr rfl)
    (hf : X.fn x = true ∨ X.env.scope.names.lookup x = some .local := by first | exact .inl rfl | exact .inr rfl) : PG X (.Name x pos) (gName i) := pg_name hN hi hx hf
/-- o[i] = v on a list -/
def fSetL : V → V → V → Hp → (Hp → Prop) → Prop := fun o i v H Q => match o, i with
  | .ref p, .int k => ∃ xs j, H p = some (.lst xs) ∧ ixN xs.length k = some j ∧ Q (upd H p (.lst (xs.set j v)))
  | _, _ => False
theorem s_list : PSet X fSetL := fun pins s σ H o i v ov iv u Q I r1 r2 r3 h => by
  cases o <;> cases i <;> first | exact h.elim | skip
  obtain ⟨xs, j, h1, h2, h3⟩ := h
  exact set_list pins s σ H _ _ v ov iv u Q I r1 r2 r3 ⟨_, xs, _, j, rfl, rfl, h1, h2, h3⟩
/-- xs[i]: a list, a tuple, a text -/
def fIx (K : PySem.W.Frag) : R2 := fun x y H Q => match x, y with
  | .str z, .int i => z.length ≤ sizeLine ∧ ∃ c, atI z.cps.toList i = some c ∧ Q (.str ⟨#[c]⟩) H
  | .ref p, .int i => ∃ xs v, (SqL K H p xs ∨ SqT K H p xs) ∧ atI xs i = some v ∧ Q v H
  | _, _ => False
theorem x_seq : IxR X (fIx X.K) := fun value slice pins s σ H x y v u Q I rx ry h hs => by
  cases x <;> cases y <;> first | exact h.elim | skip
  · obtain ⟨h1, c, h2, h3⟩ := h
    exact ix_str value slice pins s σ H _ _ v u Q I rx ry ⟨_, _, c, rfl, rfl, h1, h2, h3⟩ hs
  · obtain ⟨xs, z, h1 | h1, h2, h3⟩ := h
    · exact ix_list value slice pins s σ H _ _ v u Q I rx ry ⟨_, xs, _, z, rfl, rfl, h1, h2, h3⟩ hs
    · exact ix_tup value slice pins s σ H _ _ v u Q I rx ry ⟨_, xs, _, z, rfl, rfl, h1, h2, h3⟩ hs
theorem ix (ha : PE X a ta) (hb : PE X b tb) (hs : PlainIx b := by exact fun _ _ => rfl) : PE X (.Subscript a b pos) (tOp (fIx X.K) ta tb) := pe_ix x_seq ha hb hs
end
theorem b_len : bootBuiltins "len" = some (.builtin "len") := by decide +kernel
theorem b_abs : bootBuiltins "abs" = some (.builtin "abs") := by decide +kernel
theorem b_max : bootBuiltins "max" = some (.builtin "max") := by decide +kernel
theorem b_min : bootBuiltins "min" = some (.builtin "min") := by decide +kernel
theorem b_repr : bootBuiltins "repr" = some (.builtin "repr") := by decide +kernel
theorem b_isinstance : bootBuiltins "isinstance" = some (.builtin "isinstance") := by decide +kernel
theorem b_all : bootBuiltins "all" = some (.builtin "all") := by decide +kernel
theorem b_any : bootBuiltins "any" = some (.builtin "any") := by decide +kernel
theorem b_sum : bootBuiltins "sum" = some (.builtin "sum") := by decide +kernel
theorem b_int : bootBuiltins "int" = some (.type "int") := by decide +kernel
theorem b_str : bootBuiltins "str" = some (.type "str") := by decide +kernel
theorem b_bool : bootBuiltins "bool" = some (.type "bool") := by decide +kernel
theorem b_tuple : bootBuiltins "tuple" = some (.type "tuple") := by decide +kernel
theorem b_list : bootBuiltins "list" = some (.type "list") := by decide +kernel
theorem b_dict : bootBuiltins "dict" = some (.type "dict") := by decide +kernel
section
variable {X : Cx} {e : Expr} {es : List Expr} {t : TA} {p pos : Pos} {x : Str}
theorem e_ty {T : String} (m : X.mg x = none) (hv : bootBuiltins x = some (.type T)) (hg : Gl X x := by rfl) (hn : x ≠ "__name__" := by decide) (hd : (x == ("__debug__" : Str)) = false := by decide) : PE X (.Name x pos) (tC (.ty T)) := pe_bltn hg m hv rfl hn hd
/-- repr of scalars -/
def fRepr : List V → Hp → VK → Prop := fun xs H Q => match xs with
  | [.bl k] => Q (.str (if k then "True" else "False")) H
  | [.int i] => i.natAbs.log2 < 1920 ∧ Q (.str (toString i)) H
  | [.non] => Q (.str "None") H
  | _ => False
theorem call_repr_bl : CallR X (.builtin "repr") (fun xs H Q => ∃ b, xs = [.bl b] ∧ Q (.str (if b then "True" else "False")) H) := by
  intro pins s σ H xs us Q I r h
  obtain ⟨b, rfl, q⟩ := h
  obtain ⟨u, rfl, rfl⟩ := vals1 r
  exact PySem.P.repr_of_bool ⟨.str _, H, I.tok _, ⟨_, rfl⟩, q⟩
theorem call_repr_non : CallR X (.builtin "repr") (fun xs H Q => xs = [.non] ∧ Q (.str "None") H) := by
  intro pins s σ H xs us Q I r h
  obtain ⟨rfl, q⟩ := h
  obtain ⟨u, rfl, rfl⟩ := vals1 r
  exact PySem.P.repr_of_none ⟨.str _, H, I.tok _, ⟨_, rfl⟩, q⟩
theorem c_repr : CallR X (.builtin "repr") fRepr := callCases fun xs H Q h => by
  unfold fRepr at h; split at h
  · exact ⟨_, call_repr_bl, _, rfl, h⟩
  · exact ⟨_, SkE.call_repr_int, _, rfl, h.1, h.2⟩
  · exact ⟨_, call_repr_non, rfl, h⟩
  · exact h.elim
/-- isinstance(x, a built-in type) -/
def isK (a T : String) : Bool := a == T || (a == "bool" && T == "int")
def kinds : List String := ["NoneType", "bool", "int", "str", "list", "tuple", "dict"]
theorem kinds_ok : (kinds.all fun a => kinds.all fun T => kitB a T == some (isK a T)) = true := by decide +kernel
theorem kit_ok {K : PySem.W.Frag} {a T : String} (ha : kinds.contains a = true) (hT : kinds.contains T = true) : PySem.W.kitOne K (.type a) (.type T) = some (isK a T) := by
  have h := List.all_eq_true.mp kinds_ok a (List.contains_iff_mem.mp ha)
  have h2 := List.all_eq_true.mp h T (List.contains_iff_mem.mp hT)
  exact kit_ty (eq_of_beq h2)
theorem slCases {r : V → Option Int → Option Int → Hp → VK → Prop} (h : ∀ x lo hi H Q, r x lo hi H Q → ∃ r' : V → Option Int → Option Int → Hp → VK → Prop, SlR X r' ∧ r' x lo hi H Q) : SlR X r := by
  intro pins s σ H x v vl vu lo hi sl Q I rx hs pl pu q
  obtain ⟨r', o, q'⟩ := h x lo hi H Q q
  exact o pins s σ H x v vl vu lo hi sl Q I rx hs pl pu q'
def fPart (t : TE) : TO := fun σ H Q => t σ H fun x H1 => match x with
  | .int i => Q (some i) H1
  | _ => False
theorem fPart_eq : fPart = tPart := by
  funext t σ H Q
  show t σ H _ = t σ H _
  congr 1
  funext x H'
  cases x <;> simp
theorem posome {te : TE} {e : Expr} (h : PE X e te) : PO X (some e) (fPart te) := by rw [fPart_eq]; exact po_some h
end
/-- the def st stands under the name x -/
structure HasDef (K : PySem.W.Frag) (x : Str) (st : Stmt) : Prop where
  ex : ∃ f fd, Fun K x x st f fd ∧ PySem.W.nsIn K mainGlobals x = some (some (.ref f))
theorem has_mk {K : PySem.W.Frag} {x : Str} {st : Stmt} {f : Addr} {oc : Value} {od an : Option Addr} {osl : Array (Option Value)} {kV doc pm cdv ct : Value} (a : PySem.W.nsIn K mainGlobals x = some (some (.ref f)))
    (l : K.lookup f = some ⟨oc, od, .func (PySem.W.fnOf x x (defArgs st) (defBody st) (defScope st) .none kV doc pm an cdv ct), osl⟩) (c : PySem.W.codeIn K cdv x = true) (k : PySem.W.keepIn K (.ref f) = true) : HasDef K x st := ⟨_, _, fun_mk l c k, a⟩
/-- what the module's names hold -/
structure MgOf (K : PySem.W.Frag) (mg : Str → Option Value) : Prop where
  of : ∀ x v, PySem.W.nsIn K mainGlobals x = some v → mg x = v
theorem MgOf.mk' {K : PySem.W.Frag} {h : Heap} {mg : Str → Option Value} (X : K.In h) (G : h.Ns mainGlobals mg) : MgOf K mg := ⟨fun x v e => by
  cases v with
  | none => exact PySem.W.mg_none_of X G e
  | some v => exact PySem.W.mg_of X G e⟩
/-- a def that keeps its promise -/
structure Known (P : Program) (w : World) (K : PySem.W.Frag) (mg : Str → Option Value) (base : Heap) (CX : CXT) (x : Str) (k : Nat) (ps : List Str) (sp : Sp) : Prop where
  ex : ∃ f fd, FnOk P w K mg base CX k f fd ps sp ∧ mg x = some (.ref f) ∧ PySem.W.keepIn K (.ref f) = true ∧ Binds K fd ps []
theorem Known.imp {P : Program} {w : World} {K : PySem.W.Frag} {mg : Str → Option Value} {base : Heap} {CX : CXT} {x : Str} {k : Nat} {ps : List Str} {sp sp' : Sp} (D : Known P w K mg base CX x k ps sp) (h : ∀ vs H Q E, sp' vs H Q E → sp vs H Q E) : Known P w K mg base CX x k ps sp' := by
  obtain ⟨f, fd, F, r⟩ := D.ex
  exact ⟨f, fd, F.imp h, r⟩
theorem Known.of {P : Program} {w : World} {K : PySem.W.Frag} {mg : Str → Option Value} {base : Heap} {x : Str} {st : Stmt} {N ps : List Str} {k : Nat} {sp : Sp} (F : HasDef K x st) (M : MgOf K mg) (S : FnScope N ps (defScope st))
    (hb : ∀ (kV doc pm : Value) (an : Option Addr) (cdv ct : Value) (us : List Value), us.length = ps.length → bindArgs (PySem.W.fnOf x x (defArgs st) (defBody st) (defScope st) .none kV doc pm an cdv ct) ⟨us, []⟩ = pure (ps.zip us))
    (len : ∀ vs H Q E, sp vs H Q E → vs.length = ps.length)
    (hbody : ∀ (f : Addr) (cdv : Value) (A : Around) (outer : List Env) (s : Shared) (H : Hp) (vs : List V) (Q : VK) (E : XK), Room k (A.deeper (envOfC x (defScope st) s.heap.objs.size f cdv)) → sp vs H Q E →
      ∃ t, PSs (cxOf CX0 P w K mg base N x (defScope st) f cdv A outer s H E).nox (defBody st) t ∧ t { nx := fun _ H' => Q .non H', rt := Q } (start N vs) H) : Known P w K mg base CX0 x (k + 1) ps sp := by
  obtain ⟨f, fd, F, e⟩ := F.ex
  exact ⟨f, fd, F.ok S len (hbody f), M.of _ _ e, F.kp, F.binds hb⟩
section
variable {X : Cx} {CX : CXT} {k : Nat} {ps : List Str} {sp : Sp} {E : XK} {x : Str} {p pos : Pos} {e : Expr} {es : List Expr} {t : TA}
def fCall (sp : Sp) (E : XK) (t : TA) : TE := fun σ H Q => t σ H fun vs H1 => sp vs H1 Q E
theorem callX (D : Known X.prog X.w X.K X.mg X.base CX x k ps sp) (hr : Room k X.A) (hx : Passes CX X E) (ha : PA X (e :: es) t) (hg : Gl X x := by rfl) (hdb : (x == ("__debug__" : Str)) = false := by decide)
    (he : starEach (e :: es) X.env = (false, eval e X.env) :: starEach es X.env := by rfl) (hpl : (backTo pos (starEach es X.env)).any (·.1) = false := by rfl) : PE X (.Call (.Name x p) (e :: es) [] pos) (fCall sp E t) := by
  obtain ⟨f, fd, F, m, kp, b⟩ := D.ex
  have h : tCall sp [] E t = fCall sp E t := by
    funext σ H Q
    show t σ H (fun vs H1 => sp (vs ++ []) H1 Q E) = _
    simp only [List.append_nil]
    rfl
  rw [← h]
  exact pe_call F hr hg m kp b .nil hx ha hdb he hpl
theorem call (D : Known X.prog X.w X.K X.mg X.base CX0 x k ps sp) (hr : Room k X.A) (ha : PA X (e :: es) t) (hg : Gl X x := by rfl) (hdb : (x == ("__debug__" : Str)) = false := by decide)
    (he : starEach (e :: es) X.env = (false, eval e X.env) :: starEach es X.env := by rfl) (hpl : (backTo pos (starEach es X.env)).any (·.1) = false := by rfl) : PE X (.Call (.Name x p) (e :: es) [] pos) (fCall sp E0 t) := callX D hr pass0 ha hg hdb he hpl
end
section
variable {X : Cx} {pos : Pos} {x : Str}
theorem e_gs {z : Str} (h : ∃ t, X.mg x = some (.str z t)) (hg : Gl X x := by rfl) (hd : (x == ("__debug__" : Str)) = false := by decide) : PE X (.Name x pos) (tC (.str z)) := let ⟨_, e⟩ := h; pe_glob hg e ⟨_, rfl⟩ hd
theorem e_gi {z : Int} (h : ∃ t, X.mg x = some (.int z t)) (hg : Gl X x := by rfl) (hd : (x == ("__debug__" : Str)) = false := by decide) : PE X (.Name x pos) (tC (.int z)) := let ⟨_, e⟩ := h; pe_glob hg e ⟨_, rfl⟩ hd
end
theorem ifT {c A B : Prop} [Decidable c] (h : c) (a : A) : if c then A else B := by rw [if_pos h]; exact a
theorem ifF {c A B : Prop} [Decidable c] (h : ¬ c) (b : B) : if c then A else B := by rw [if_neg h]; exact b
theorem ok_of {P : Program} {w : World} {K : PySem.W.Frag} {mg : Str → Option Value} {base : Heap} {x : Str} {st : Stmt} {N ps : List Str} {k : Nat} {sp : Sp} {f : Addr} {fd : FuncData} (F : Fun K x x st f fd) (S : FnScope N ps (defScope st))
    (len : ∀ vs H Q E, sp vs H Q E → vs.length = ps.length)
    (hbody : ∀ (f : Addr) (cdv : Value) (A : Around) (outer : List Env) (s : Shared) (H : Hp) (vs : List V) (Q : VK) (E : XK), Room k (A.deeper (envOfC x (defScope st) s.heap.objs.size f cdv)) → sp vs H Q E →
      ∃ t, PSs (cxOf CX0 P w K mg base N x (defScope st) f cdv A outer s H E).nox (defBody st) t ∧ t { nx := fun _ H' => Q .non H', rt := Q } (start N vs) H) : FnOk P w K mg base CX0 (k + 1) f fd ps sp := F.ok S len (hbody f)
theorem walk_law {l : PySem.W.OpenLaw} {n k : Nat} {q : Program} {loose : List Str} {XP : (Str → Option Value) → Heap → Prop} {YP : World → Heap → Prop} {d : DefRec} {K : Params → PySem.W.Frag} {x : Str} {st : Stmt} {sp : PySem.W.Frag → Sp}
    (hn : l.most = some n) (hn2 : n ≤ sizeLine) (hdf : d.params.defaults = []) (hr : Room k callerA) (hnm : d.name = "law") (hY : ∀ (w : World) (h : Heap), YP w h → (K w.params).In h)
    (hb : ∀ (kV doc pm : Value) (an : Option Addr) (cdv ct : Value) (us : List Value), us.length = ([x] : List Str).length → bindArgs (PySem.W.fnOf "law" "law" (defArgs st) (defBody st) (defScope st) .none kV doc pm an cdv ct) ⟨us, []⟩ = pure (([x] : List Str).zip us))
    (F : ∀ (w : World) (mg : Str → Option Value) (h : Heap), (K w.params).In h → h.Ns mainGlobals mg → HasDef (K w.params) "law" st ∧ ∀ (f : Addr) (fd : FuncData) (base : Heap), (K w.params).In base → base.Ns mainGlobals mg → Fun (K w.params) "law" "law" st f fd → FnOk l.prog w (K w.params) mg base CX0 k f fd [x] (sp (K w.params)))
    (hsp : ∀ (K : PySem.W.Frag) (H : Hp) (a : Addr) (ns : List Int), ns.length ≤ n → Only H → SqL K H a (ns.map V.int) → sp K [.ref a] H (fun v _ => v = .bl true) fun _ _ _ => False) :
    PySem.W.WalkO q loose XP YP l.row.toRowW d [] (fun f vs => PySem.call f vs) := by
  refine L2.walk_of (n := n) (k := k) (x := x) (CX := fun _ => CX0) (sp := fun w => sp (K w.params)) hn hn2 hdf hr hY (fun w mg fa h X G hfa => ?_) (fun w H a ns h1 h2 h3 => hsp _ H a ns h1 h2 h3) fun _ _ _ _ _ z => z
  obtain ⟨D, G2⟩ := F w mg h X G
  obtain ⟨f, fd, Fn, e⟩ := D.ex
  have e1 := PySem.W.mg_of X G e
  rw [hnm, e1] at hfa
  cases hfa
  obtain ⟨oc, od, kV, doc, pm, an, cdv, ct, osl, e2, _⟩ := Fn.ex
  refine ⟨fd, fun s v => ?_, fun base X' G' => G2 _ _ base X' G' Fn⟩
  rw [e2]
  exact .of_eq (hb kV doc pm an cdv ct [v] rfl)
theorem cst_str {K : PySem.W.Frag} {x z : Str} {t : Tok} (a : PySem.W.nsIn K mainGlobals x = some (some (.str z t))) : ∃ t, PySem.W.nsIn K mainGlobals x = some (some (.str z t)) := ⟨t, a⟩
theorem cst_int {K : PySem.W.Frag} {x : Str} {z : Int} {t : Tok} (a : PySem.W.nsIn K mainGlobals x = some (some (.int z t))) : ∃ t, PySem.W.nsIn K mainGlobals x = some (some (.int z t)) := ⟨t, a⟩
end U
set_option Elab.async false
set_option linter.all false
set_option maxRecDepth 100000
set_option maxHeartbeats 2000000
namespace U
open PySem PySem.Spec PyProof.Rows L2
def fFrz (t : TE) : TE := fun σ H Q => t σ H fun v H1 => match v with
  | .ref p => (∃ u, H1 p = some u ∧ Mut (some u) ∧ ∀ od, Q (.ref p) (upd H1 p (.frz od u))) ∨ Q (.ref p) H1
  | v => Q v H1
section
variable {X : Cx} {e : Expr} {t : TE}
theorem frz (h : PE X e t) : PE X e (fFrz t) := by
  refine ⟨fun pins s σ H Q I q => ?_⟩
  refine thn (h.run pins s σ H _ I q) fun u s1 ⟨v, H1, I1, r, q1⟩ => ?_
  cases v with
  | ref p =>
    rcases q1 with ⟨u', hp, mu, q1⟩ | q1
    · obtain ⟨od, I2⟩ := I1.lock hp mu
      exact ⟨_, _, I2, r, q1 od⟩
    · exact ⟨_, _, I1, r, q1⟩
  | _ => exact ⟨_, _, I1, r, q1⟩
end
/-- an object that stands still: a tuple, what is locked -/
def Stb : HO → Prop
  | .tup _ => True
  | .frz _ _ => True
  | .ins _ _ _ => True
  | _ => False
/-- what stands still stands -/
def Stab (H H' : Hp) : Prop := ∀ b o, Stb o → H b = some o → H' b = some o
theorem Stab.refl (H : Hp) : Stab H H := fun _ _ _ h => h
theorem Stab.trans {H H1 H2 : Hp} (a : Stab H H1) (b : Stab H1 H2) : Stab H H2 := fun c o n h => b c o n (a c o n h)
theorem Stab.new {H : Hp} {p : Addr} {o : HO} (h : H p = none) : Stab H (upd H p o) := fun b u _ e => by rw [upd_ne (ne_of_none e h)]; exact e
theorem Stab.mut {H : Hp} {p : Addr} {o u : HO} (h : H p = some u) (hu : ¬ Stb u) : Stab H (upd H p o) := fun b v sv e => by
  rw [upd_ne (fun z => hu (by rw [z, h] at e; cases e; exact sv))]; exact e
theorem Stab.seqT {K : PySem.W.Frag} {H H' : Hp} {a : Addr} {xs : List V} (s : Stab H H') (h : SqT K H a xs) : SqT K H' a xs := by
  rcases h with (h | ⟨o, h⟩) | h
  · exact .inl (.inl (s _ _ trivial h))
  · exact .inl (.inr ⟨o, s _ _ trivial h⟩)
  · exact .inr h
/-- a list that stands still -/
def Lk (H : Hp) (a : Addr) (xs : List V) : Prop := ∃ o, H a = some (.frz o (.lst xs))
theorem Lk.seq {K : PySem.W.Frag} {H : Hp} {a : Addr} {xs : List V} (h : Lk H a xs) : SqL K H a xs := .inl (.inr h)
theorem Stab.lk {H H' : Hp} {a : Addr} {xs : List V} (s : Stab H H') (h : Lk H a xs) : Lk H' a xs := let ⟨o, h⟩ := h; ⟨o, s _ _ trivial h⟩
mutual
inductive Rp (K : PySem.W.Frag) (H : Hp) : V → PyData → Prop
  | non : Rp K H .non .none
  | bl (b : Bool) : Rp K H (.bl b) (.bool b)
  | int (i : Int) : Rp K H (.int i) (.int i)
  | str (x : Str) : Rp K H (.str x) (.str x)
  | lst {a : Addr} {xs : List V} {ds : List PyData} : Lk H a xs → RpAll K H xs ds → Rp K H (.ref a) (.list ds)
  | tup {a : Addr} {xs : List V} {ds : List PyData} : SqT K H a xs → RpAll K H xs ds → Rp K H (.ref a) (.tuple ds)
inductive RpAll (K : PySem.W.Frag) (H : Hp) : List V → List PyData → Prop
  | nil : RpAll K H [] []
  | cons {v : V} {vs : List V} {d : PyData} {ds : List PyData} : Rp K H v d → RpAll K H vs ds → RpAll K H (v :: vs) (d :: ds)
end
section
variable {K : PySem.W.Frag} {H H' : Hp}
mutual
theorem Rp.mono (s : Stab H H') : ∀ {v : V} {d : PyData}, Rp K H v d → Rp K H' v d
  | _, _, .non => .non
  | _, _, .bl b => .bl b
  | _, _, .int i => .int i
  | _, _, .str x => .str x
  | _, _, .lst h k => .lst (s.lk h) (RpAll.mono s k)
  | _, _, .tup h k => .tup (s.seqT h) (RpAll.mono s k)
theorem RpAll.mono (s : Stab H H') : ∀ {vs : List V} {ds : List PyData}, RpAll K H vs ds → RpAll K H' vs ds
  | _, _, .nil => .nil
  | _, _, .cons h k => .cons (Rp.mono s h) (RpAll.mono s k)
end
mutual
theorem Rp.dp : ∀ {v : V} {d : PyData}, Rp K H v d → Dp K H v d
  | _, _, .non => .non
  | _, _, .bl b => .bl b
  | _, _, .int i => .int i
  | _, _, .str x => .str x
  | _, _, .lst h k => .lst h.seq (RpAll.dp k)
  | _, _, .tup h k => .tup h (RpAll.dp k)
theorem RpAll.dp : ∀ {vs : List V} {ds : List PyData}, RpAll K H vs ds → DpAll K H vs ds
  | _, _, .nil => .nil
  | _, _, .cons h k => .cons (Rp.dp h) (RpAll.dp k)
end
theorem RpAll.length : ∀ {vs : List V} {ds : List PyData}, RpAll K H vs ds → vs.length = ds.length
  | _, _, .nil => rfl
  | _, _, .cons _ k => by rw [List.length_cons, List.length_cons, k.length]
theorem RpAll.get : ∀ {vs : List V} {ds : List PyData} {i : Nat} {v : V}, RpAll K H vs ds → vs[i]? = some v → ∃ d, ds[i]? = some d ∧ Rp K H v d
  | _, _, 0, _, .cons h _, e => by cases e; exact ⟨_, rfl, h⟩
  | _, _, i + 1, _, .cons _ k, e => RpAll.get (i := i) k e
  | _, _, _, _, .nil, e => by simp at e
theorem RpAll.append : ∀ {vs ws : List V} {ds es : List PyData}, RpAll K H vs ds → RpAll K H ws es → RpAll K H (vs ++ ws) (ds ++ es)
  | _, _, _, _, .nil, k => k
  | _, _, _, _, .cons h t, k => .cons h (RpAll.append t k)
theorem RpAll.one {v : V} {d : PyData} (h : Rp K H v d) : RpAll K H [v] [d] := .cons h .nil
theorem RpAll.ints : ∀ {vs : List V} {ns : List Int}, RpAll K H vs (ns.map PyData.int) → vs = ns.map V.int
  | _, [], .nil => rfl
  | _, n :: ns, .cons h k => by cases h; rw [RpAll.ints k]; rfl
end
structure HasCls (K : PySem.W.Frag) (x : Str) (C : Addr) : Prop where
  at_ : PySem.W.nsIn K mainGlobals x = some (some (.ref C))
  cl : Cls K C
  mks : PySem.W.makesIn K C = true
  kc : PySem.W.keepIn K (.ref C) = true
  ha : PySem.W.findIn K (.ref C) "__class__" = some (some (.builtin "object.__class__"))
  hn : PySem.W.specialIn K (.builtin "object.__class__") "__get__" = some (some (.builtin "getset_descriptor.__get__"))
  tk : PySem.W.takesIn K (.builtin "object.__class__") = some true
  hm : PySem.W.mroIn K C (.type "object") = some true
  self : PySem.W.kitOne K (.ref C) (.ref C) = some true
theorem HasCls.mk' {K : PySem.W.Frag} {x : Str} {C : Addr} (a : PySem.W.nsIn K mainGlobals x = some (some (.ref C))) (pg : PySem.W.plainGet K C Str.empty = true) (hd : PySem.W.hasDictIn K C = true) (po : PySem.W.plainOver K C = true)
    (sa : PySem.W.findIn K (.ref C) "__setattr__" = some (some (.builtin "object.__setattr__"))) (mk : PySem.W.makesIn K C = true) (kc : PySem.W.keepIn K (.ref C) = true) (ha : PySem.W.findIn K (.ref C) "__class__" = some (some (.builtin "object.__class__")))
    (hn : PySem.W.specialIn K (.builtin "object.__class__") "__get__" = some (some (.builtin "getset_descriptor.__get__"))) (tk : PySem.W.takesIn K (.builtin "object.__class__") = some true) (hm : PySem.W.mroIn K C (.type "object") = some true) : HasCls K x C := ⟨a, ⟨pg, hd, po, sa⟩, mk, kc, ha, hn, tk, hm, by unfold PySem.W.kitOne; rw [if_pos (by simp)]⟩
/-- a method -/
structure HasMeth (K : PySem.W.Frag) (C : Addr) (m qual : Str) (st : Stmt) : Prop where
  ex : ∃ f fd, Fun K m qual st f fd ∧ BMeth K C m f
theorem meth_mk {K : PySem.W.Frag} {C : Addr} {m qual : Str} {st : Stmt} {f : Addr} {oc : Value} {od an : Option Addr} {osl : Array (Option Value)} {kV doc pm cdv ct : Value} (a : PySem.W.findIn K (.ref C) m = some (some (.ref f))) (i : PySem.W.isFn K (.ref f) = true)
    (l : K.lookup f = some ⟨oc, od, .func (PySem.W.fnOf m qual (defArgs st) (defBody st) (defScope st) .none kV doc pm an cdv ct), osl⟩) (c : PySem.W.codeIn K cdv qual = true) (k : PySem.W.keepIn K (.ref f) = true)
    (gf : PySem.W.specialIn K (.ref f) "__get__" = some (some (.builtin "function.__get__"))) (tk : PySem.W.takesIn K (.ref f) = some false) (fi : PySem.W.fnIn K f = true) (cp : PySem.W.copiedNames.contains m = false) : HasMeth K C m qual st :=
  ⟨_, _, fun_mk l c k, ⟨⟨a, i, k⟩, gf, tk, cp, fi⟩⟩
structure KnownM (P : Program) (w : World) (K : PySem.W.Frag) (mg : Str → Option Value) (base : Heap) (CX : CXT) (C : Addr) (m : Str) (k : Nat) (ps : List Str) (sp : Sp) : Prop where
  ex : ∃ f fd, FnOk P w K mg base CX k f fd ps sp ∧ BMeth K C m f ∧ Binds K fd ps []
theorem KnownM.of {P : Program} {w : World} {K : PySem.W.Frag} {mg : Str → Option Value} {base : Heap} {C : Addr} {m qual : Str} {st : Stmt} {N ps : List Str} {k : Nat} {sp : Sp} (F : HasMeth K C m qual st) (S : FnScope N ps (defScope st))
    (hb : ∀ (kV doc pm : Value) (an : Option Addr) (cdv ct : Value) (us : List Value), us.length = ps.length → bindArgs (PySem.W.fnOf m qual (defArgs st) (defBody st) (defScope st) .none kV doc pm an cdv ct) ⟨us, []⟩ = pure (ps.zip us))
    (len : ∀ vs H Q E, sp vs H Q E → vs.length = ps.length)
    (hbody : ∀ (f : Addr) (cdv : Value) (A : Around) (outer : List Env) (s : Shared) (H : Hp) (vs : List V) (Q : VK) (E : XK), Room k (A.deeper (envOfC qual (defScope st) s.heap.objs.size f cdv)) → sp vs H Q E →
      ∃ t, PSs (cxOf CX0 P w K mg base N qual (defScope st) f cdv A outer s H E).nox (defBody st) t ∧ t { nx := fun _ H' => Q .non H', rt := Q } (start N vs) H) : KnownM P w K mg base CX0 C m (k + 1) ps sp := by
  obtain ⟨f, fd, F, e⟩ := F.ex
  exact ⟨f, fd, F.ok S len (hbody f), e, F.binds hb⟩
section
variable {X : Cx} {CX : CXT} {k : Nat} {C : Addr} {ps : List Str} {sp : Sp} {E : XK} {f m x : Str} {p apos pos : Pos} {e e1 e2 o : Expr} {es : List Expr} {ta t1 t2 : TE} {t : TA}
def fFld (C : Addr) (f : Str) (ta : TE) : TE := fun σ H Q => ta σ H fun x H1 => match x with
  | .ref a => ∃ dx fs v, H1 a = some (.ins C dx fs) ∧ fs.lookup f = some v ∧ Q v H1
  | _ => False
theorem fld (c : Cls X.K C) (n : NoAttr X.K C f) (he : PE X e ta) (hb : attributeBase e f X.env (eval e X.env) = eval e X.env := by rfl) : PE X (.Attribute e f pos) (fFld C f ta) := by
  refine ⟨fun pins s σ H Q I h => ?_⟩
  refine attr_of hb (thn (he.run pins s σ H _ I h) fun u s1 ⟨x, H1, I1, rx, q⟩ => ?_)
  cases x <;> first | exact q.elim | skip
  obtain ⟨dx, fs, v, ea, l, q⟩ := q
  obtain rfl : u = Value.ref _ := rx
  exact getattr_ok I1 ea c n l fun u' s2 I2 ru => ⟨v, H1, I2, ru, q⟩
/-- o.f = e -/
def fSto (C : Addr) (f : Str) (ta tv : TE) : TS := fun D σ H => tv σ H fun y H1 => ta σ H1 fun x H2 => match x with
  | .ref a => ∃ dx fs, H2 a = some (.ins C dx fs) ∧ fs.length < 1000 ∧ D.nx σ (upd H2 a (.ins C dx (putF f y fs)))
  | _ => False
theorem sto {value : Expr} {pos' : Pos} {tv : TE} (c : Cls X.K C) (n : NoAttr X.K C f) (hv : PE X value tv) (ha : PE X o ta) (hs : swapsWith value (some (.Attribute o f pos')) pos.line X.env = pure false := by rfl) : PS X (.Assign [.Attribute o f pos'] value pos) (fSto C f ta tv) := by
  refine ⟨fun pins s σ H D I h => ?_⟩
  refine plainObj_wpAny_Assign_Attribute (thn (hv.run pins s σ H _ I h) fun u s1 ⟨y, H1, I1, ry, q⟩ => thn (ha.run pins s1 σ H1 _ I1 q) fun ov s2 ⟨x, H2, I2, rx, q2⟩ => ?_) hs
  cases x <;> first | exact q2.elim | skip
  obtain ⟨dx, fs, ea, l, q2⟩ := q2
  obtain rfl : ov = Value.ref _ := rx
  exact setattr_ok I2 ea c n l ry fun s3 I3 => ⟨σ, _, I3, q2⟩
/-- o.m(e, ..) -/
def fMeth (C : Addr) (m : Str) (sp : Sp) (E : XK) (ta : TE) (t : TA) : TE := fun σ H Q => ta σ H fun x H1 => match x with
  | .ref a => ∃ dx fs, H1 a = some (.ins C dx fs) ∧ fs.lookup m = none ∧ t σ H1 fun vs H2 => sp (.ref a :: vs) H2 Q E
  | _ => False
theorem methX {pl : Sem Bool} (D : KnownM X.prog X.w X.K X.mg X.base CX C m k ps sp) (c : Cls X.K C) (hr : Room k X.A) (hx : Passes CX X E) (he : PE X o ta) (ha : PA X (e :: es) t)
    (hst : starEach (e :: es) X.env = (false, eval e X.env) :: starEach es X.env := by rfl) (hpl : (backTo pos (starEach es X.env)).any (·.1) = false := by rfl)
    (ht : eval (.Call (.Attribute o m apos) (e :: es) [] pos) X.env = (do
      let ov ← eval o X.env
      standAt apos.atName
      let (f, first) ← holding [ov] (getMethod ov m pl)
      callWith pos f first (backTo pos (starEach (e :: es) X.env)) (backToKw pos (keywordEach [] X.env))) := by rfl) :
    PE X (.Call (.Attribute o m apos) (e :: es) [] pos) (fMeth C m sp E ta t) := by
  obtain ⟨f, fd, F, B, b⟩ := D.ex
  refine ⟨fun pins s σ H Q I h => ?_⟩
  refine PySem.W.methodCall_KW (pl := pl) (thn (he.run pins s σ H _ I h) fun u s1 ⟨x, H1, I1, rx, q⟩ => ?_) ht
  cases x <;> first | exact q.elim | skip
  obtain ⟨dx, fs, ea, l, q⟩ := q
  obtain rfl : u = Value.ref _ := rx
  refine getmeth_ok I1 ea c B.mt l ?_
  refine PySem.W.callWith_K (first := [.ref _]) (h₀ := X.base) I.ok.mod.kin B.mt.kp (thn (ha.run pos pins s1 σ H1 _ I1 q) fun us s2 ⟨vs, H2, I2, r, q2⟩ => ⟨I2.kIn, ?_⟩) hst hpl
  refine run_fn (us := .ref _ :: us) (vs := .ref _ :: vs) (dvs := []) (ds := []) F hr b .nil hx I2 (.cons rfl r) ?_
  rw [List.append_nil]
  exact q2
theorem meth {pl : Sem Bool} (D : KnownM X.prog X.w X.K X.mg X.base CX0 C m k ps sp) (c : Cls X.K C) (hr : Room k X.A) (he : PE X o ta) (ha : PA X (e :: es) t)
    (hst : starEach (e :: es) X.env = (false, eval e X.env) :: starEach es X.env := by rfl) (hpl : (backTo pos (starEach es X.env)).any (·.1) = false := by rfl)
    (ht : eval (.Call (.Attribute o m apos) (e :: es) [] pos) X.env = (do
      let ov ← eval o X.env
      standAt apos.atName
      let (f, first) ← holding [ov] (getMethod ov m pl)
      callWith pos f first (backTo pos (starEach (e :: es) X.env)) (backToKw pos (keywordEach [] X.env))) := by rfl) :
    PE X (.Call (.Attribute o m apos) (e :: es) [] pos) (fMeth C m sp E0 ta t) := methX D c hr pass0 he ha hst hpl ht
/-- o.m(e, *y) -/
def fMethSB (K : PySem.W.Frag) (C : Addr) (m : Str) (sp : Sp) (E : XK) (ta t1 t2 : TE) : TE := fun σ H Q => ta σ H fun x H1 => match x with
  | .ref a => ∃ dx fs, H1 a = some (.ins C dx fs) ∧ fs.lookup m = none ∧ ∀ q g, H1 q = none → t1 σ (upd H1 q (.met g a)) fun y1 H2 => t2 σ H2 fun y2 H3 => match y2 with
    | .ref b => ∃ vs, (SqT K H3 b vs ∨ SqL K H3 b vs) ∧ H3 q = some (.met g a) ∧ sp (.ref a :: y1 :: vs) H3 Q E
    | _ => False
  | _ => False
theorem fnR_of {P : Program} {w : World} {K : PySem.W.Frag} {mg : Str → Option Value} {base : Heap} {CX : CXT} {k : Nat} {f : Addr} {fd : FuncData} {ps : List Str} {sp : Sp} (F : FnOk P w K mg base CX k f fd ps sp) (b : Binds K fd ps []) : FnR P w K mg base CX k f sp :=
  (F.raw b .nil).imp fun vs H Q E q => by rw [List.append_nil]; exact q
theorem methSB (D : KnownM X.prog X.w X.K X.mg X.base CX0 C m k ps sp) (c : Cls X.K C) (hr : Room k X.A) (he : PE X o ta) (h1 : PE X e1 t1) (h2 : PE X e2 t2) (hbase : attributeBase o m X.env (eval o X.env) = eval o X.env := by rfl)
    (hst : starEach [e1, .Starred e2 p] X.env = [(false, eval e1 X.env), (true, eval e2 X.env)] := by rfl) : PE X (.Call (.Attribute o m apos) [e1, .Starred e2 p] [] pos) (fMethSB X.K C m sp E0 ta t1 t2) := by
  obtain ⟨g, fd, F, B, b⟩ := D.ex
  refine ⟨fun pins s σ H Q I h => ?_⟩
  refine starcall2_of hbase hst (thn (he.run pins s σ H _ I h) fun u s1 ⟨x, H1, I1, rx, q⟩ => ?_)
  cases x <;> first | exact q.elim | skip
  rename_i a
  obtain ⟨dx, fs, ea, l, q⟩ := q
  obtain rfl : u = Value.ref a := rx
  refine getbound_ok I1 ea c B l fun q1 s2 hq1 I2 => ?_
  refine PySem.W.ks_call (P := PySem.W.MethP X.K q1 g (.ref a)) rfl (PySem.W.keeps_M B.fi) (Calls.evalArgs_plain (Calls.spliced_cons (thn (h1.run pins s2 σ _ _ I2 (q q1 g hq1)) fun v1 s3 ⟨y1, H2, I3, ry1, q2⟩ =>
    PySem.W.ks_spliced (thn (h2.run pins s3 σ H2 _ I3 q2) fun v2 s4 ⟨y2, H3, I4, ry2, q3⟩ => ?_))))
  cases y2 <;> first | exact q3.elim | skip
  rename_i t
  obtain ⟨vs, ht, hm, hsp⟩ := q3
  obtain rfl : v2 = Value.ref t := ry2
  refine StX.star_any I4 ht fun us s5 I5 rv => Calls.spliced_nil ?_
  show PySem.W.MethP X.K q1 g (.ref a) s5.heap ∧ wpAny (model X.prog X.w) X.A (PySem.call (.ref q1) (v1 :: (us ++ [])) []) (EP X pins σ Q) X.xe s5
  rw [List.append_nil]
  exact ⟨met_P I5 hm, wpAny_call (PySem.W.method_call (met_P I5 hm).1 (run_fnR (us := Value.ref a :: v1 :: us) (vs := V.ref a :: y1 :: vs) (fnR_of F b) hr pass0 I5 (.cons rfl (.cons ry1 rv)) hsp))⟩
end
section
open PySem.W
variable {prog : Program} {w : World} {A : Around} {E : Value → Shared → Prop} {s : Shared} {K : Frag} {x C L f : Addr} {h₀ : Heap} {m : Str → Option Value} {ox : Obj} {od : Option Obj} {b tb : Value}
end
section
variable {X : Cx} {C : Addr} {k : Nat} {ps : List Str} {sp : Sp}
end
end U
set_option Elab.async false
set_option linter.all false
set_option maxRecDepth 100000
set_option maxHeartbeats 4000000
namespace U
open PySem PySem.Spec PyProof.Rows L2 HT
section
variable {X : Cx} {es : List Expr} {t : TA} {pos : Pos}
def tTupF (t : TA) : TE := fun σ H Q => t σ H fun xs H1 => xs.length ≤ sizeLine ∧ ∀ p, H1 p = none → ∀ o : Obj, o.dict = none → Q (.ref p) (upd H1 p (.frz o (.tup xs)))
theorem pe_tupF {x1} (h : PA X es t) : PE X (.Tuple es x1 pos) (tTupF t) := by
  refine ⟨fun pins s σ H Q I hq => ?_⟩
  refine wpAny_Tuple_spliced (thn (h.run pos pins s σ H _ I hq) fun us s1 ⟨xs, H1, I1, r, z, q⟩ => ⟨by rw [← r.length]; exact z, ?_⟩)
  have hf : H1 s1.heap.objs.size = none := I1.hok.fresh (Nat.le_refl _)
  refine ⟨.ref s1.heap.objs.size, upd H1 s1.heap.objs.size (.frz { cls := .type "tuple", data := .seq us.toArray } (.tup xs)), I1.laid (t' := s1.toks) (fun b u e => Heap.get?_push_of_some _ e) (Nat.le_refl _) ?_, rfl, q _ hf _ rfl⟩
  exact ⟨Heap.get?_push_size _ rfl, z, us, r, ⟨_, Heap.get?_push_size _ rfl, rfl, _, rfl⟩⟩
def rCatTF (K : PySem.W.Frag) : R2 := fun x y H Q => ∃ a b xs ys, x = .ref a ∧ y = .ref b ∧ SqT K H a xs ∧ SqT K H b ys ∧ xs ≠ [] ∧ xs.length + ys.length ≤ sizeLine ∧
  (ys = [] → Q (.ref a) H) ∧ (ys ≠ [] → ∀ p, H p = none → ∀ o : Obj, o.dict = none → Q (.ref p) (upd H p (.frz o (.tup (xs ++ ys)))))
theorem op_catTF : OpR X (binaryOp .Add) (rCatTF X.K) := by
  intro pins s σ H x y v u Q I rx ry h
  obtain ⟨a, b, xs, ys, rfl, rfl, ha, hb, hx, hz, q1, q2⟩ := h
  cases rx
  cases ry
  obtain ⟨its, r1, p1, _⟩ := I.tuple ha
  obtain ⟨its2, r2, p2, _⟩ := I.tuple hb
  refine HT.cat_tup p1 p2 (fun z => hx (r1.nil_iff.mp z)) (fun z => ⟨.ref a, H, I, rfl, q1 (r2.nil_iff.mp z)⟩) (fun z => ?_) (by rw [← r1.length, ← r2.length]; exact hz)
  refine ⟨.ref s.heap.objs.size, _, I.laid (t' := s.toks) (o := .frz { cls := .type "tuple", data := .seq (its ++ its2).toArray } (.tup (xs ++ ys))) (fun b ob q => Heap.get?_push_of_some _ q) (Nat.le_refl _) ?_, rfl, q2 (fun w => z (r2.nil_iff.mpr w)) _ (I.hok.fresh (Nat.le_refl _)) _ rfl⟩
  exact ⟨Heap.get?_push_size _ rfl, by rw [List.length_append]; exact hz, _, r1.append r2, IsTup.new _ _⟩
def rCatAF (K : PySem.W.Frag) : R2 := fun x y H Q => ∃ a b xs ys, x = .ref a ∧ y = .ref b ∧ SqT K H a xs ∧ SqT K H b ys ∧ xs.length + ys.length ≤ sizeLine ∧
  (xs = [] → Q (.ref b) H) ∧ (xs ≠ [] → ys = [] → Q (.ref a) H) ∧ (xs ≠ [] → ys ≠ [] → ∀ p, H p = none → ∀ o : Obj, o.dict = none → Q (.ref p) (upd H p (.frz o (.tup (xs ++ ys)))))
theorem op_catAF : OpR X (binaryOp .Add) (rCatAF X.K) := by
  intro pins s σ H x y v u Q I rx ry h
  obtain ⟨a, b, xs, ys, rfl, rfl, ha, hb, hz, q0, q1, q2⟩ := h
  by_cases hx : xs = []
  · subst hx
    cases rx
    cases ry
    obtain ⟨its, r1, p1, _⟩ := I.tuple ha
    obtain ⟨its2, r2, p2, _⟩ := I.tuple hb
    cases r1
    exact cat_tup0 p1 p2 ⟨.ref b, H, I, rfl, q0 rfl⟩
  · exact op_catTF pins s σ H _ _ v u Q I rx ry ⟨a, b, xs, ys, rfl, rfl, ha, hb, hx, hz, q1 hx, q2 hx⟩
def rSlTF (K : PySem.W.Frag) : V → Option Int → Option Int → Hp → VK → Prop := fun x lo hi H Q => ∃ a xs, x = .ref a ∧ SqT K H a xs ∧
  ¬ (HT.sIx xs.length 0 lo = 0 ∧ HT.sIx xs.length xs.length hi = xs.length) ∧ ∀ p, H p = none → ∀ o : Obj, o.dict = none → Q (.ref p) (upd H p (.frz o (.tup (cutV xs lo hi))))
theorem sl_tupF : SlR X (rSlTF X.K) := by
  intro pins s σ H x v vl vu lo hi sl Q I rx hs pl pu h
  obtain ⟨a, xs, rfl, hx, hw, q⟩ := h
  cases rx
  obtain ⟨its, r, ht, hz⟩ := I.tuple hx
  have hlen : its.toArray.size = xs.length := by rw [List.size_toArray]; exact r.length.symm
  refine ⟨"tuple", _, PyProof.Rows.slot_tuple_getitem.lookup, ht.typeIs, ?_⟩
  refine HT.getItem_tuple_cut ht hs pl pu (by rw [hlen]; exact hw) ?_ (by rw [hlen]; exact hz)
  rw [hlen]
  refine ⟨.ref s.heap.objs.size, _, I.laid (t' := s.toks) (o := .frz { cls := .type "tuple", data := .seq (List.take (HT.sIx xs.length xs.length hi - HT.sIx xs.length 0 lo) (List.drop (HT.sIx xs.length 0 lo) its.toArray.toList)).toArray } (.tup (cutV xs lo hi))) (fun b ob q => Heap.get?_push_of_some _ q) (Nat.le_refl _) ?_, rfl, q _ (I.hok.fresh (Nat.le_refl _)) _ rfl⟩
  exact ⟨Heap.get?_push_size _ rfl, Nat.le_trans (cutV_length xs lo hi) hz, _, (r.drop (HT.sIx xs.length 0 lo)).take (HT.sIx xs.length xs.length hi - HT.sIx xs.length 0 lo), IsTup.new _ _⟩
def rSlAF (K : PySem.W.Frag) : V → Option Int → Option Int → Hp → VK → Prop := fun x lo hi H Q => ∃ a xs, x = .ref a ∧ SqT K H a xs ∧
  (HT.sIx xs.length 0 lo = 0 ∧ HT.sIx xs.length xs.length hi = xs.length → Q (.ref a) H) ∧ (¬ (HT.sIx xs.length 0 lo = 0 ∧ HT.sIx xs.length xs.length hi = xs.length) → ∀ p, H p = none → ∀ o : Obj, o.dict = none → Q (.ref p) (upd H p (.frz o (.tup (cutV xs lo hi)))))
theorem sl_tupAF : SlR X (rSlAF X.K) := by
  intro pins s σ H x v vl vu lo hi sl Q I rx hs pl pu h
  obtain ⟨a, xs, rfl, hx, q1, q2⟩ := h
  by_cases hw : HT.sIx xs.length 0 lo = 0 ∧ HT.sIx xs.length xs.length hi = xs.length
  · cases rx
    obtain ⟨its, r, ht, hz⟩ := I.tuple hx
    have hlen : its.toArray.size = xs.length := by rw [List.size_toArray]; exact r.length.symm
    refine ⟨"tuple", _, PyProof.Rows.slot_tuple_getitem.lookup, ht.typeIs, ?_⟩
    exact getItem_tuple_whole ht hs pl pu (by rw [hlen]; exact hw) ⟨.ref a, H, I, rfl, q1 hw⟩
  · exact sl_tupF pins s σ H _ v vl vu lo hi sl Q I rx hs pl pu ⟨a, xs, rfl, hx, hw, q2 hw⟩
def rRepTF (K : PySem.W.Frag) : R2 := fun x y H Q => ∃ l k xs, x = .ref l ∧ y = .int k ∧ SqT K H l xs ∧ xs ≠ [] ∧ 2 ≤ k ∧ k ≤ 1000 ∧ xs.length ≤ 1000 ∧ ∀ p, H p = none → ∀ o : Obj, o.dict = none → Q (.ref p) (upd H p (.frz o (.tup (List.replicate k.toNat xs).flatten)))
theorem op_repTF : OpR X (binaryOp .Mult) (rRepTF X.K) := by
  intro pins s σ H x y v u Q I rx ry h
  obtain ⟨l, k, xs, rfl, rfl, hT, hne, h1, h2, hz, q⟩ := h
  cases rx
  obtain ⟨t, rfl⟩ := ry
  obtain ⟨its, r, ⟨⟨cls, dd, data, sl⟩, ho, hc, n, hd⟩, hs⟩ := I.tuple hT
  simp only at hc hd
  subst hc hd
  have hle : its.length = xs.length := r.length.symm
  have hn : its ≠ [] := fun e => hne (by
    rw [e] at hle
    exact List.eq_nil_of_length_eq_zero hle.symm)
  have hi : its.toArray.isEmpty = false := by
    cases its with
    | nil => exact absurd rfl hn
    | cons a b => rfl
  have hsz0 : its.toArray.size = xs.length := by rw [List.size_toArray, hle]
  have hm : ((its.toArray.size : Nat) : Int) * k ≤ 1000000 := by
    rw [hsz0]
    have a1 : ((xs.length : Nat) : Int) * k ≤ 1000 * k := Int.mul_le_mul_of_nonneg_right (by omega) (by omega)
    omega
  have flen : (List.replicate k.toNat its).flatten.length ≤ sizeLine := by
    rw [PyProof.Rows.lm_len_rep_flat, hle, sizeLine_eq]
    have a1 : k.toNat * xs.length ≤ 1000 * 1000 := Nat.mul_le_mul (by omega) hz
    omega
  have c0 : (decide (k < -(2 ^ 63)) || decide (k ≥ 2 ^ 63)) = false := by
    rw [decide_eq_false (by omega), decide_eq_false (by omega)] <;> rfl
  have c1 : (its.toArray.isEmpty || k == 1) = false := by
    rw [hi, Bool.false_or]
    exact beq_eq_false_iff_ne.mpr (by omega)
  have c2 : (decide (k ≤ 0) || its.toArray.isEmpty) = false := by
    rw [hi, Bool.or_false]
    exact decide_eq_false (by omega)
  have c4 : Builtin.Tuple.tupleTooMany (((its.toArray.size : Nat) : Int) * k) = false := by
    unfold Builtin.Tuple.tupleTooMany
    rw [sizeLine_eq]
    exact decide_eq_false (by omega)
  refine wpAny_binaryOp_repeat_ref (T := "tuple") (U := "int") (by decide) ⟨_, ho, rfl⟩ (fun s' => typeIs_int s' k t) noFill_tuple_mul F.fills_int_mul F.slot_int_rmul repeat_tuple F.slot_int_index.lookup
    (call_meets F.slot_int_rmul (typeIs_int s k t) F.entry_int_rmul (F.args_int_rmul_2 _ _) (int_rmul_tuple k t l its.toArray n dd sl)
      ⟨ho, rfl, ⟨_, ho, rfl⟩, call_meets F.slot_tuple_mul ⟨_, ho, rfl⟩ F.entry_tuple_mul (F.args_tuple_mul_2 _ _) (tuple_mulW l its.toArray n dd sl k t c0 c1 c2 (by omega) c4 (by rw [size_rep, List.size_toArray]; exact flen)) ⟨ho, ?_⟩⟩)
  rw [size_rep]
  refine ⟨.ref s.heap.objs.size, _, I.laid (t' := s.toks) (o := .frz { cls := .type "tuple", data := .seq (List.replicate k.toNat its).flatten.toArray } (.tup (List.replicate k.toNat xs).flatten)) (fun b ob q => Heap.get?_push_of_some _ q) (Nat.le_refl _) ?_, rfl, q _ (I.hok.fresh (Nat.le_refl _)) _ rfl⟩
  exact ⟨Heap.get?_push_size _ rfl, by rw [PyProof.Rows.lm_len_rep_flat, sizeLine_eq]; have a1 : k.toNat * xs.length ≤ 1000 * 1000 := Nat.mul_le_mul (by omega) hz; omega, _, r.rep k.toNat, IsTup.new _ _⟩
theorem call_tuple_ofF : CallR X (.type "tuple") (fun xs H Q => ∃ p ys, xs = [.ref p] ∧ ((SqL X.K H p ys ∧ ∀ l, H l = none → ∀ o : Obj, o.dict = none → Q (.ref l) (upd H l (.frz o (.tup ys)))) ∨ (SqT X.K H p ys ∧ Q (.ref p) H))) := by
  intro pins s σ H xs us Q I r h
  obtain ⟨p, ys, rfl, h⟩ := h
  obtain ⟨u, rfl, rx⟩ := vals1 r
  cases rx
  rcases h with ⟨hq, q⟩ | ⟨hq, q⟩
  · obtain ⟨its, r', pl, hz⟩ := I.list hq
    have hlen := r'.length
    refine call_tuple_list pl.isList (fun h' kp => ?_) (by simp only [List.size_toArray] <;> omega)
    have I1 : Inv X pins σ H { s with heap := h' } := I.kept (t' := s.toks) kp
    have I2 : Inv X pins σ (upd H h'.objs.size (.frz { cls := .type "tuple", data := .seq its.toArray } (.tup ys))) { s with heap := h'.push { cls := .type "tuple", data := .seq its.toArray } } :=
      I1.laid (t' := s.toks) (fun b o e => Heap.get?_push_of_some _ e) (Nat.le_refl _) (show ObjOk X.prog X.w _ _ _ (.frz { cls := .type "tuple", data := .seq its.toArray } (.tup ys)) from ⟨Heap.get?_push_size _ rfl, hz, its, r', IsTup.new _ _⟩)
    exact ⟨.ref h'.objs.size, _, I2, rfl, q _ (I1.hok.fresh (Nat.le_refl _)) _ rfl⟩
  · obtain ⟨its, r', pl, hz⟩ := I.tuple hq
    exact call_tuple_same pl ⟨.ref p, H, I, rfl, q⟩
end
section
variable {X : Cx} {e : Expr} {te : L2.St → Hp → (Int → Int → Hp → Prop) → Prop}
def tTupRgF (te : L2.St → Hp → (Int → Int → Hp → Prop) → Prop) : TE := fun σ H Q => te σ H fun a b H1 => RgOk a b ∧ ∀ q, H1 q = none → ∀ o : Obj, o.dict = none → Q (.ref q) (upd H1 q (.frz o (.tup (rgV a b))))
theorem pe_tupRgF {p pos : Pos} (hc : X.calm = true) (hg : Gl X "tuple") (hm : X.mg "tuple" = none) (he : PRg X e te) (na : starEach [e] X.env = (false, eval e X.env) :: starEach [] X.env := by rfl) : PE X (.Call (.Name "tuple" p) [e] [] pos) (tTupRgF te) := by
  refine ⟨fun pins s σ H Q I h => ?_⟩
  refine Call_ (ld_blt I hg hm boot_tuple (PyProof.Rows.callWith_type1 (args_cons (thn (he pins s σ H _ I h) fun x s1 ⟨r, a, b, t, u, v, H1, ex, hr, I1, ok, q⟩ => args_nil ?_) na) na))
  subst ex
  obtain ⟨b1, b2, b3, b4, b5⟩ := ok
  refine call_tuple_range (n := (b - a).toNat) (I1.ok.hd hc) hr (small_one b1 b2 b3 b4) (rangeSize_nat a b) b5 fun h' tk acc hk hi => ?_
  have I2 : Inv X pins σ H1 { s1 with heap := h', toks := tk } := I1.kept hk
  refine ⟨.ref h'.objs.size, upd H1 h'.objs.size (.frz { cls := .type "tuple", data := .seq acc } (.tup (rgV a b))), I2.laid (t' := tk) (fun c o e => Heap.get?_push_of_some _ e) (Nat.le_refl _) (show ObjOk X.prog X.w _ _ _ (.frz { cls := .type "tuple", data := .seq acc } (.tup (rgV a b))) from ⟨Heap.get?_push_size _ rfl, ?_, acc.toList, vals_rg hi, ?_⟩), rfl, q _ (I2.hok.fresh (Nat.le_refl _)) _ rfl⟩
  · rw [rgV_length, sizeLine_eq]; omega
  · rw [Array.toArray_toList]; exact IsTup.new _ _
end
end U
set_option Elab.async false
set_option linter.all false
set_option maxRecDepth 100000
set_option maxHeartbeats 2000000
namespace U
open PySem PySem.Spec PyProof.Rows L2
/-- plain data; a thing that changes is an address -/
inductive Da where
  | non | bl (b : Bool) | int (i : Int) | str (x : Str) | ty (n : String)
  | lst (xs : List Da) | tup (xs : List Da) | obj (C : Addr) (fs : List (Str × Da)) | ref (a : Addr) | dct (kvs : List (Key × Da)) | exn (a dd : Addr) (fs : List (Str × Da))
/-- what changes: a list, an instance -/
inductive MO where
  | lst (xs : List Da) | ins (C : Addr) (fs : List (Str × Da)) | dct (kvs : List (Key × Da)) | tbl (q : Str)
abbrev Mm := Addr → Option MO
abbrev De := List (Option Da)
abbrev DK := Da → Mm → Prop
/-- an exception: its class, its attributes -/
abbrev DX := Value → List (Str × Da) → Mm → Prop
def mput (M : Mm) (a : Addr) (o : MO) : Mm := fun b => if b = a then some o else M b
def mdel (M : Mm) (a : Addr) : Mm := fun b => if b = a then none else M b
theorem mput_same {M : Mm} {a : Addr} {o : MO} : mput M a o a = some o := by unfold mput; rw [if_pos rfl]
theorem mput_ne {M : Mm} {a b : Addr} {o : MO} (h : b ≠ a) : mput M a o b = M b := by unfold mput; rw [if_neg h]
theorem mput_put {M : Mm} {a : Addr} {o u : MO} : mput (mput M a o) a u = mput M a u := by
  funext b; unfold mput; split <;> rfl
theorem mdel_put {M : Mm} {a : Addr} {o : MO} (h : M a = none) : mdel (mput M a o) a = M := by
  funext b; unfold mdel mput; split
  · rename_i e; rw [e, h]
  · rfl
def putD (f : Str) (v : Da) : List (Str × Da) → List (Str × Da)
  | [] => [(f, v)]
  | (g, x) :: r => if g = f then (g, v) :: r else (g, x) :: putD f v r
def Sl (K : PySem.W.Frag) (W : Addr → Prop) (H : Hp) (a : Addr) (vs : List V) : Prop := (W a ∧ Rd H a (.lst vs)) ∨ SqL K (fun _ => none) a vs
def Sp' (K : PySem.W.Frag) (W : Addr → Prop) (H : Hp) (a : Addr) (vs : List V) : Prop := (W a ∧ Rd H a (.tup vs)) ∨ SqT K (fun _ => none) a vs ∧ ∃ o, K.lookup a = some o ∧ o.dict = none
mutual
inductive RD (K : PySem.W.Frag) (W : Addr → Prop) (H : Hp) : V → Da → Prop
  | non : RD K W H .non .non
  | bl (b : Bool) : RD K W H (.bl b) (.bl b)
  | int (i : Int) : RD K W H (.int i) (.int i)
  | str (x : Str) : RD K W H (.str x) (.str x)
  | ty (n : String) : RD K W H (.ty n) (.ty n)
  | lst {a : Addr} {vs : List V} {ds : List Da} : Sl K W H a vs → RDs K W H vs ds → RD K W H (.ref a) (.lst ds)
  | tup {a : Addr} {vs : List V} {ds : List Da} : Sp' K W H a vs → RDs K W H vs ds → RD K W H (.ref a) (.tup ds)
  | obj {a C dx : Addr} {vs : List (Str × V)} {fs : List (Str × Da)} : W a → H a = some (.ins C dx vs) → RF K W H vs fs → RD K W H (.ref a) (.obj C fs)
  | ref (a : Addr) : RD K W H (.ref a) (.ref a)
  | dct {a : Addr} {vs : List (Key × V)} {ds : List (Key × Da)} : W a → H a = some (.dK vs) → RK K W H vs ds → RD K W H (.ref a) (.dct ds)
  | exn {a dd : Addr} {vs : List (Str × V)} {fs : List (Str × Da)} : W dd → H dd = some (.xd vs) → RF K W H vs fs → RD K W H (.ref a) (.exn a dd fs)
inductive RDs (K : PySem.W.Frag) (W : Addr → Prop) (H : Hp) : List V → List Da → Prop
  | nil : RDs K W H [] []
  | cons {v : V} {vs : List V} {d : Da} {ds : List Da} : RD K W H v d → RDs K W H vs ds → RDs K W H (v :: vs) (d :: ds)
inductive RF (K : PySem.W.Frag) (W : Addr → Prop) (H : Hp) : List (Str × V) → List (Str × Da) → Prop
  | nil : RF K W H [] []
  | cons {f : Str} {v : V} {vs : List (Str × V)} {d : Da} {ds : List (Str × Da)} : RD K W H v d → RF K W H vs ds → RF K W H ((f, v) :: vs) ((f, d) :: ds)
inductive RK (K : PySem.W.Frag) (W : Addr → Prop) (H : Hp) : List (Key × V) → List (Key × Da) → Prop
  | nil : RK K W H [] []
  | cons {f : Key} {v : V} {vs : List (Key × V)} {d : Da} {ds : List (Key × Da)} : RD K W H v d → RK K W H vs ds → RK K W H ((f, v) :: vs) ((f, d) :: ds)
end
/-- the heap grows: what is settled or another's stands -/
structure Grow (F W : Addr → Prop) (H : Hp) (W' : Addr → Prop) (H' : Hp) : Prop where
  w : ∀ a, W a → W' a
  h : ∀ a, W a → H' a = H a
  f : ∀ a, F a → H' a = H a
theorem Grow.refl {F W : Addr → Prop} {H : Hp} : Grow F W H W H := ⟨fun _ h => h, fun _ _ => rfl, fun _ _ => rfl⟩
theorem Grow.trans {F W W1 W2 : Addr → Prop} {H H1 H2 : Hp} (a : Grow F W H W1 H1) (b : Grow F W1 H1 W2 H2) : Grow F W H W2 H2 :=
  ⟨fun c h => b.w c (a.w c h), fun c h => (b.h c (a.w c h)).trans (a.h c h), fun c h => (b.f c h).trans (a.f c h)⟩
theorem Grow.less {F F' W W' : Addr → Prop} {H H' : Hp} (g : Grow F' W H W' H') (h : ∀ a, F a → F' a) : Grow F W H W' H' := ⟨g.w, g.h, fun a q => g.f a (h a q)⟩
section
variable {K : PySem.W.Frag} {F W W' : Addr → Prop} {H H' : Hp} {a : Addr}
theorem rd_mono {u : HO} (e : H' a = H a) (h : Rd H a u) : Rd H' a u := by unfold Rd at *; rw [e]; exact h
theorem Sl.mono {vs : List V} (g : Grow F W H W' H') : Sl K W H a vs → Sl K W' H' a vs
  | .inl ⟨w, h⟩ => .inl ⟨g.w _ w, rd_mono (g.h _ w) h⟩
  | .inr h => .inr h
theorem Sp'.mono {vs : List V} (g : Grow F W H W' H') : Sp' K W H a vs → Sp' K W' H' a vs
  | .inl ⟨w, h⟩ => .inl ⟨g.w _ w, rd_mono (g.h _ w) h⟩
  | .inr h => .inr h
theorem Sl.sq {vs : List V} : Sl K W H a vs → SqL K H a vs
  | .inl ⟨_, h⟩ => .inl h
  | .inr (.inl (.inl h)) => nomatch h
  | .inr (.inl (.inr ⟨_, h⟩)) => nomatch h
  | .inr (.inr h) => .inr h
theorem Sp'.sq {vs : List V} : Sp' K W H a vs → SqT K H a vs
  | .inl ⟨_, h⟩ => .inl h
  | .inr ⟨.inl (.inl h), _⟩ => nomatch h
  | .inr ⟨.inl (.inr ⟨_, h⟩), _⟩ => nomatch h
  | .inr ⟨.inr h, _⟩ => .inr h
mutual
theorem RD.mono (g : Grow F W H W' H') : ∀ {v : V} {d : Da}, RD K W H v d → RD K W' H' v d
  | _, _, .non => .non
  | _, _, .bl b => .bl b
  | _, _, .int i => .int i
  | _, _, .str x => .str x
  | _, _, .ty x => .ty x
  | _, _, .ref x => .ref x
  | _, _, .lst h k => .lst (h.mono g) (RDs.mono g k)
  | _, _, .tup h k => .tup (h.mono g) (RDs.mono g k)
  | _, _, .obj w h k => .obj (g.w _ w) ((g.h _ w).trans h) (RF.mono g k)
  | _, _, .dct w h k => .dct (g.w _ w) ((g.h _ w).trans h) (RK.mono g k)
  | _, _, .exn w h k => .exn (g.w _ w) ((g.h _ w).trans h) (RF.mono g k)
theorem RDs.mono (g : Grow F W H W' H') : ∀ {vs : List V} {ds : List Da}, RDs K W H vs ds → RDs K W' H' vs ds
  | _, _, .nil => .nil
  | _, _, .cons h k => .cons (RD.mono g h) (RDs.mono g k)
theorem RF.mono (g : Grow F W H W' H') : ∀ {vs : List (Str × V)} {ds : List (Str × Da)}, RF K W H vs ds → RF K W' H' vs ds
  | _, _, .nil => .nil
  | _, _, .cons h k => .cons (RD.mono g h) (RF.mono g k)
theorem RK.mono (g : Grow F W H W' H') : ∀ {vs : List (Key × V)} {ds : List (Key × Da)}, RK K W H vs ds → RK K W' H' vs ds
  | _, _, .nil => .nil
  | _, _, .cons h k => .cons (RD.mono g h) (RK.mono g k)
end
theorem RDs.length : ∀ {vs : List V} {ds : List Da}, RDs K W H vs ds → vs.length = ds.length
  | _, _, .nil => rfl
  | _, _, .cons _ k => by rw [List.length_cons, List.length_cons, k.length]
theorem RDs.get : ∀ {vs : List V} {ds : List Da} {i : Nat} {d : Da}, RDs K W H vs ds → ds[i]? = some d → ∃ v, vs[i]? = some v ∧ RD K W H v d
  | _, _, 0, _, .cons h _, e => by cases e; exact ⟨_, rfl, h⟩
  | _, _, i + 1, _, .cons _ k, e => RDs.get (i := i) k e
  | _, _, _, _, .nil, e => by simp at e
theorem RDs.append : ∀ {vs ws : List V} {ds es : List Da}, RDs K W H vs ds → RDs K W H ws es → RDs K W H (vs ++ ws) (ds ++ es)
  | _, _, _, _, .nil, k => k
  | _, _, _, _, .cons h t, k => .cons h (RDs.append t k)
theorem RDs.take : ∀ {vs : List V} {ds : List Da} (n : Nat), RDs K W H vs ds → RDs K W H (vs.take n) (ds.take n)
  | _, _, 0, _ => .nil
  | _, _, _ + 1, .nil => .nil
  | _, _, n + 1, .cons h k => .cons h (RDs.take n k)
theorem RDs.drop : ∀ {vs : List V} {ds : List Da} (n : Nat), RDs K W H vs ds → RDs K W H (vs.drop n) (ds.drop n)
  | _, _, 0, h => h
  | _, _, _ + 1, .nil => .nil
  | _, _, n + 1, .cons _ k => RDs.drop n k
theorem RDs.set : ∀ {vs : List V} {ds : List Da} {v : V} {d : Da} (n : Nat), RDs K W H vs ds → RD K W H v d → RDs K W H (vs.set n v) (ds.set n d)
  | _, _, _, _, _, .nil, _ => .nil
  | _, _, _, _, 0, .cons _ k, r => .cons r k
  | _, _, _, _, n + 1, .cons h k, r => .cons h (RDs.set n k r)
theorem RDs.ints : ∀ {vs : List V} {ns : List Int}, RDs K W H vs (ns.map Da.int) → vs = ns.map V.int
  | _, [], .nil => rfl
  | _, n :: ns, .cons h k => by cases h; rw [RDs.ints k]; rfl
theorem RDs.bls : ∀ {vs : List V} {ns : List Bool}, RDs K W H vs (ns.map Da.bl) → vs = ns.map V.bl
  | _, [], .nil => rfl
  | _, n :: ns, .cons h k => by cases h; rw [RDs.bls k]; rfl
theorem RF.get : ∀ {vs : List (Str × V)} {fs : List (Str × Da)} {f : Str} {d : Da}, RF K W H vs fs → fs.lookup f = some d → ∃ v, vs.lookup f = some v ∧ RD K W H v d
  | _, _, _, _, .nil, e => by simp at e
  | _, _, f, d, .cons (f := g) h k, e => by
    rw [List.lookup_cons] at e ⊢
    cases q : (f == g) with
    | true => rw [q] at e; cases e; exact ⟨_, rfl, h⟩
    | false => rw [q] at e; exact RF.get k e
theorem RF.none : ∀ {vs : List (Str × V)} {fs : List (Str × Da)} {f : Str}, RF K W H vs fs → fs.lookup f = none → vs.lookup f = none
  | _, _, _, .nil, e => rfl
  | _, _, f, .cons (f := g) h k, e => by
    rw [List.lookup_cons] at e ⊢
    cases q : (f == g) with
    | true => rw [q] at e; cases e
    | false => rw [q] at e; exact RF.none k e
theorem RF.length : ∀ {vs : List (Str × V)} {fs : List (Str × Da)}, RF K W H vs fs → vs.length = fs.length
  | _, _, .nil => rfl
  | _, _, .cons _ k => by rw [List.length_cons, List.length_cons, k.length]
theorem RF.put : ∀ {vs : List (Str × V)} {fs : List (Str × Da)} {f : Str} {v : V} {d : Da}, RF K W H vs fs → RD K W H v d → RF K W H (putF f v vs) (putD f d fs)
  | _, _, _, _, _, .nil, r => .cons r .nil
  | _, _, f, _, _, .cons (f := g) h k, r => by
    unfold putF putD
    split
    · exact .cons r k
    · exact .cons h (RF.put k r)
end
/-- a thing of the memory -/
inductive MR (K : PySem.W.Frag) (W : Addr → Prop) (H : Hp) : MO → HO → Prop
  | lst {xs : List Da} {vs : List V} : RDs K W H vs xs → MR K W H (.lst xs) (.lst vs)
  | ins {C dx : Addr} {fs : List (Str × Da)} {vs : List (Str × V)} : RF K W H vs fs → MR K W H (.ins C fs) (.ins C dx vs)
  | dct {ds : List (Key × Da)} {vs : List (Key × V)} : RK K W H vs ds → MR K W H (.dct ds) (.dK vs)
  | tbl {q : Str} {ps : Array Value} : TriplesOk ps.toList → (∀ (pos : Pos) (cv : Value), codeAmong pos ps.toList = some cv → ∃ c, cv = .ref c ∧ W c ∧ H c = some (LamX.CodeO c q)) → MR K W H (.tbl q) (.tbl ps)
theorem MR.mono {K : PySem.W.Frag} {F W W' : Addr → Prop} {H H' : Hp} (g : Grow F W H W' H') {o : MO} {u : HO} (h : MR K W H o u) : MR K W' H' o u := by
  cases h with
  | lst h => exact .lst (h.mono g)
  | ins h => exact .ins (h.mono g)
  | dct h => exact .dct (h.mono g)
  | tbl h1 h2 => exact .tbl h1 fun pos cv e => let ⟨c, a, b, d⟩ := h2 pos cv e; ⟨c, a, g.w _ b, (g.h _ b).trans d⟩
/-- a settled tuple stands frozen, without a dict of its own -/
def NT : HO → Prop
  | .tup _ => False
  | .frz o u => match u with
    | .tup _ => o.dict = none
    | _ => True
  | _ => True
theorem MR.nt {K : PySem.W.Frag} {W : Addr → Prop} {H : Hp} {o : MO} {u : HO} (h : MR K W H o u) : NT u := by
  cases h <;> exact trivial
structure Stt (K : PySem.W.Frag) (F W : Addr → Prop) (M : Mm) (H : Hp) : Prop where
  wf : ∀ a, W a → ∃ o, H a = some o
  fr : ∀ a, F a → ¬ W a ∧ M a = none ∧ ∃ o, H a = some o
  dis : ∀ a o, M a = some o → ¬ W a
  mem : ∀ a o, M a = some o → ∃ u, H a = some u ∧ MR K W H o u
  pl : ∀ a o, W a → H a = some o → NT o
def wadd (W : Addr → Prop) (p : Addr) : Addr → Prop := fun a => a = p ∨ W a
section
variable {K : PySem.W.Frag} {F W W' : Addr → Prop} {H H' : Hp} {M : Mm} {p : Addr}
theorem Stt.freeM (s : Stt K F W M H) (h : H p = none) : M p = none := by
  cases e : M p with
  | none => rfl
  | some o => obtain ⟨u, q, _⟩ := s.mem _ _ e; rw [h] at q; cases q
theorem Stt.freeW (s : Stt K F W M H) (h : H p = none) : ¬ W p := fun w => by obtain ⟨o, q⟩ := s.wf _ w; rw [h] at q; cases q
theorem Stt.freeF (s : Stt K F W M H) (h : H p = none) : ¬ F p := fun w => by obtain ⟨_, _, o, q⟩ := s.fr _ w; rw [h] at q; cases q
theorem Stt.neW (s : Stt K F W M H) (h : H p = none) {a : Addr} (w : W a) : a ≠ p := fun e => s.freeW h (e ▸ w)
theorem Stt.neF (s : Stt K F W M H) (h : H p = none) {a : Addr} (w : F a) : a ≠ p := fun e => s.freeF h (e ▸ w)
theorem grow_new {o : HO} (s : Stt K F W M H) (h : H p = none) : Grow F W H W (upd H p o) :=
  ⟨fun _ h => h, fun a w => upd_ne (s.neW h w), fun a w => upd_ne (s.neF h w)⟩
/-- junk -/
theorem Stt.junk (s : Stt K F W M H) (h : H p = none) (o : HO) : Stt K F W M (upd H p o) where
  wf := fun a w => by
    by_cases e : a = p
    · subst e; exact ⟨o, upd_same⟩
    · rw [upd_ne e]; exact s.wf a w
  fr := fun a w => ⟨(s.fr a w).1, (s.fr a w).2.1, by rw [upd_ne (s.neF h w)]; exact (s.fr a w).2.2⟩
  dis := s.dis
  mem := fun a u e => by
    obtain ⟨v, q, r⟩ := s.mem a u e
    exact ⟨v, by rw [upd_ne (ne_of_none q h)]; exact q, r.mono (grow_new s h)⟩
  pl := fun a u w e => by rw [upd_ne (s.neW h w)] at e; exact s.pl a u w e
/-- a new settled thing -/
theorem Stt.new (s : Stt K F W M H) (h : H p = none) (o : HO) (ho : NT o := by exact trivial) : Stt K F (wadd W p) M (upd H p o) ∧ Grow F W H (wadd W p) (upd H p o) := by
  have g : Grow F W H (wadd W p) (upd H p o) := ⟨fun _ h => .inr h, (grow_new s h).h, (grow_new s h).f⟩
  refine ⟨⟨fun a w => ?_, fun a w => ⟨?_, (s.fr a w).2.1, by rw [upd_ne (s.neF h w)]; exact (s.fr a w).2.2⟩, fun a u e w => ?_, fun a u e => ?_, fun a u w e => ?_⟩, g⟩
  · rcases w with w | w
    · subst w; exact ⟨o, upd_same⟩
    · rw [upd_ne (s.neW h w)]; exact s.wf a w
  · rintro (e | e)
    · exact s.freeF h (e ▸ w)
    · exact (s.fr a w).1 e
  · rcases w with w | w
    · subst w; rw [s.freeM h] at e; cases e
    · exact s.dis a u e w
  · obtain ⟨v, q, r⟩ := s.mem a u e
    exact ⟨v, by rw [upd_ne (ne_of_none q h)]; exact q, r.mono g⟩
  · rcases w with w | w
    · subst w; rw [upd_same] at e; cases e; exact ho
    · rw [upd_ne (s.neW h w)] at e; exact s.pl a u w e
/-- a new thing of the memory -/
theorem Stt.newM (s : Stt K F W M H) (h : H p = none) {o : HO} {u : MO} (r : MR K W H u o) : Stt K F W (mput M p u) (upd H p o) := by
  refine ⟨fun a w => ?_, fun a w => ⟨(s.fr a w).1, ?_, by rw [upd_ne (s.neF h w)]; exact (s.fr a w).2.2⟩, fun a v e w => ?_, fun a v e => ?_, fun a v w e => by rw [upd_ne (s.neW h w)] at e; exact s.pl a v w e⟩
  · rw [upd_ne (s.neW h w)]; exact s.wf a w
  · rw [mput_ne (s.neF h w)]; exact (s.fr a w).2.1
  · by_cases q : a = p
    · subst q; exact s.freeW h w
    · rw [mput_ne q] at e; exact s.dis a v e w
  · by_cases q : a = p
    · subst q; rw [mput_same] at e; cases e; exact ⟨o, upd_same, r.mono (grow_new s h)⟩
    · rw [mput_ne q] at e
      obtain ⟨x, q', r'⟩ := s.mem a v e
      exact ⟨x, by rw [upd_ne q]; exact q', r'.mono (grow_new s h)⟩
theorem grow_put {o : HO} {v : MO} (s : Stt K F W M H) (h : M p = some v) : Grow F W H W (upd H p o) :=
  ⟨fun _ h => h, fun a w => upd_ne (fun e => s.dis _ _ h (e ▸ w)), fun a w => upd_ne (fun e => by subst e; rw [(s.fr a w).2.1] at h; cases h)⟩
/-- a thing of the memory changes -/
theorem Stt.put (s : Stt K F W M H) {v : MO} (h : M p = some v) {o : HO} {u : MO} (r : MR K W H u o) : Stt K F W (mput M p u) (upd H p o) := by
  have g := grow_put (o := o) s h
  refine ⟨fun a w => ?_, fun a w => ?_, fun a v' e w => ?_, fun a v' e => ?_, fun a v' w e => by rw [g.h a w] at e; exact s.pl a v' w e⟩
  · rw [g.h a w]; exact s.wf a w
  · have ne : a ≠ p := fun e => by subst e; rw [(s.fr a w).2.1] at h; cases h
    exact ⟨(s.fr a w).1, by rw [mput_ne ne]; exact (s.fr a w).2.1, by rw [upd_ne ne]; exact (s.fr a w).2.2⟩
  · by_cases q : a = p
    · subst q; exact s.dis _ _ h w
    · rw [mput_ne q] at e; exact s.dis a v' e w
  · by_cases q : a = p
    · subst q; rw [mput_same] at e; cases e; exact ⟨o, upd_same, r.mono g⟩
    · rw [mput_ne q] at e
      obtain ⟨x, q', r'⟩ := s.mem a v' e
      exact ⟨x, by rw [upd_ne q]; exact q', r'.mono g⟩
/-- a thing of the memory changes no more -/
theorem Stt.settle (s : Stt K F W M H) {v : MO} (h : M p = some v) : Stt K F (wadd W p) (mdel M p) H ∧ Grow F W H (wadd W p) H := by
  have g : Grow F W H (wadd W p) H := ⟨fun _ h => .inr h, fun _ _ => rfl, fun _ _ => rfl⟩
  refine ⟨⟨fun a w => ?_, fun a w => ⟨?_, ?_, (s.fr a w).2.2⟩, fun a u e w => ?_, fun a u e => ?_, fun a u w e => ?_⟩, g⟩
  · rcases w with w | w
    · subst w; obtain ⟨u, q, _⟩ := s.mem _ _ h; exact ⟨u, q⟩
    · exact s.wf a w
  · rintro (e | e)
    · subst e; rw [(s.fr a w).2.1] at h; cases h
    · exact (s.fr a w).1 e
  · unfold mdel; split
    · rfl
    · exact (s.fr a w).2.1
  · unfold mdel at e
    split at e
    · cases e
    · rename_i ne
      rcases w with w | w
      · exact ne w
      · exact s.dis a u e w
  · unfold mdel at e
    split at e
    · cases e
    · obtain ⟨x, q', r'⟩ := s.mem a u e
      exact ⟨x, q', r'.mono g⟩
  · rcases w with w | w
    · subst w; obtain ⟨x, q, mr⟩ := s.mem _ _ h; rw [q] at e; cases e; exact mr.nt
    · exact s.pl a u w e
/-- a thing of the memory is forgotten -/
theorem Stt.forget (s : Stt K F W M H) {M' : Mm} (h : ∀ a o, M' a = some o → M a = some o) : Stt K F W M' H :=
  ⟨s.wf, fun a w => ⟨(s.fr a w).1, (by
    cases e : M' a with
    | none => rfl
    | some o => have q := h a o e; rw [(s.fr a w).2.1] at q; cases q), (s.fr a w).2.2⟩, fun a o e => s.dis a o (h a o e), fun a o e => s.mem a o (h a o e), s.pl⟩
end
end U
set_option Elab.async false
set_option linter.all false
set_option maxRecDepth 100000
set_option maxHeartbeats 2000000
namespace U
open PySem PySem.Spec PyProof.Rows L2
/-- the names' values -/
def EnvO (K : PySem.W.Frag) (W : Addr → Prop) (H : Hp) : Option Da → Option V → Prop
  | none, _ => True
  | some d, ov => ∃ v, ov = some v ∧ RD K W H v d
abbrev EnvR (K : PySem.W.Frag) (W : Addr → Prop) (H : Hp) : De → L2.St → Prop := Paired (EnvO K W H)
theorem EnvO.mono {K : PySem.W.Frag} {F W W' : Addr → Prop} {H H' : Hp} (g : Grow F W H W' H') : ∀ {a : Option Da} {b : Option V}, EnvO K W H a b → EnvO K W' H' a b
  | none, _, _ => trivial
  | some _, _, ⟨v, e, r⟩ => ⟨v, e, r.mono g⟩
theorem EnvR.mono {K : PySem.W.Frag} {F W W' : Addr → Prop} {H H' : Hp} (g : Grow F W H W' H') : ∀ {δ : De} {σ : L2.St}, EnvR K W H δ σ → EnvR K W' H' δ σ
  | _, _, .nil => .nil
  | _, _, .cons h t => .cons (h.mono g) (EnvR.mono g t)
theorem EnvR.get {K : PySem.W.Frag} {W : Addr → Prop} {H : Hp} : ∀ {δ : De} {σ : L2.St} {i : Nat} {d : Da}, EnvR K W H δ σ → δ[i]? = some (some d) → ∃ v, σ[i]? = some (some v) ∧ RD K W H v d
  | _, _, _, _, .nil, e => by simp at e
  | _, _, 0, d, .cons h _, e => by
    simp at e; subst e
    obtain ⟨v, e, r⟩ := h
    exact ⟨v, by simp [e], r⟩
  | _, _, i + 1, d, .cons _ t, e => by
    obtain ⟨v, h1, h2⟩ := EnvR.get (i := i) t (by simpa using e)
    exact ⟨v, by simpa using h1, h2⟩
theorem EnvR.set {K : PySem.W.Frag} {W : Addr → Prop} {H : Hp} {v : V} {d : Da} (r : RD K W H v d) : ∀ {δ : De} {σ : L2.St} (i : Nat), EnvR K W H δ σ → EnvR K W H (δ.set i (some d)) (σ.set i (some v))
  | _, _, _, .nil => .nil
  | _, _, 0, .cons _ t => .cons ⟨v, rfl, r⟩ t
  | _, _, i + 1, .cons h t => .cons h (EnvR.set r i t)
theorem EnvR.del {K : PySem.W.Frag} {W : Addr → Prop} {H : Hp} : ∀ {δ : De} {σ : L2.St} (i : Nat), EnvR K W H δ σ → EnvR K W H (δ.set i none) (σ.set i none)
  | _, _, _, .nil => .nil
  | _, _, 0, .cons _ t => .cons trivial t
  | _, _, i + 1, .cons h t => .cons h (EnvR.del i t)
/-- the end: what is related, grown -/
def Kt {α β : Type} (R : (Addr → Prop) → Hp → α → β → Prop) (K : PySem.W.Frag) (F W : Addr → Prop) (H : Hp) (Qd : β → Mm → Prop) (Q : α → Hp → Prop) : Prop :=
  ∀ v H' W' d M', Grow F W H W' H' → Stt K F W' M' H' → R W' H' v d → Qd d M' → Q v H'
theorem Kt.mono {α β : Type} {R : (Addr → Prop) → Hp → α → β → Prop} {K : PySem.W.Frag} {F W W1 : Addr → Prop} {H H1 : Hp} {Qd : β → Mm → Prop} {Q : α → Hp → Prop} (g : Grow F W H W1 H1) (k : Kt R K F W H Qd Q) : Kt R K F W1 H1 Qd Q :=
  fun v H' W' d M' g' => k v H' W' d M' (g.trans g')
abbrev DR (β : Type) := De → Mm → (β → Mm → Prop) → Prop
/-- a reading over data as a reading -/
def Li {α β : Type} (R : (Addr → Prop) → Hp → α → β → Prop) (K : PySem.W.Frag) (f : DR β) : L2.St → Hp → (α → Hp → Prop) → Prop := fun σ H Q =>
  ∃ δ F W M Qd, EnvR K W H δ σ ∧ Stt K F W M H ∧ f δ M Qd ∧ Kt R K F W H Qd Q
abbrev DTE := DR Da
abbrev DTT := DR Bool
abbrev DTA := DR (List Da)
abbrev rE (K : PySem.W.Frag) : (Addr → Prop) → Hp → V → Da → Prop := RD K
abbrev rT : (Addr → Prop) → Hp → Bool → Bool → Prop := fun _ _ a b => a = b
abbrev rA (K : PySem.W.Frag) : (Addr → Prop) → Hp → List V → List Da → Prop := RDs K
def DE (X : Cx) (e : Expr) (f : DTE) : Prop := PE X e (Li (rE X.K) X.K f)
def DT (X : Cx) (e : Expr) (f : DTT) : Prop := PT X e (Li rT X.K f)
def DW (X : Cx) (e : Expr) (f : DTT) : Prop := PW X e (Li rT X.K f)
def DA (X : Cx) (es : List Expr) (f : DTA) : Prop := PA X es (Li (rA X.K) X.K f)
/-- what is ready at once -/
theorem Kt.now {α β : Type} {R : (Addr → Prop) → Hp → α → β → Prop} {K : PySem.W.Frag} {F W : Addr → Prop} {M : Mm} {H : Hp} {Qd : β → Mm → Prop} {Q : α → Hp → Prop} (k : Kt R K F W H Qd Q) (s : Stt K F W M H) {v : α} {d : β} (r : R W H v d) (q : Qd d M) : Q v H :=
  k v H W d M .refl s r q
/-- one reading, then another -/
theorem Li.bind {α β γ ε : Type} {R : (Addr → Prop) → Hp → α → β → Prop} {R' : (Addr → Prop) → Hp → γ → ε → Prop} {K : PySem.W.Frag} {f : DR β} {g : β → DR ε} {σ : L2.St} {H : Hp} {Q : γ → Hp → Prop} {C : α → Hp → Prop}
    (h : Li R' K (fun δ M Q => f δ M fun x M1 => g x δ M1 Q) σ H Q) (c : ∀ v H1 d, (∃ W1, R W1 H1 v d ∧ ∃ δ F M Qd, EnvR K W1 H1 δ σ ∧ Stt K F W1 M H1 ∧ g d δ M Qd ∧ Kt R' K F W1 H1 Qd Q) → C v H1) : Li R K f σ H C := by
  obtain ⟨δ, F, W, M, Qd, e, s, h, k⟩ := h
  exact ⟨δ, F, W, M, _, e, s, h, fun v H1 W1 d M1 g1 s1 r1 q1 => c v H1 d ⟨W1, r1, δ, F, M1, Qd, e.mono g1, s1, q1, k.mono g1⟩⟩
section
variable {X : Cx} {a b c e : Expr} {es rest : List Expr} {fa fb fc f : DTE} {ft fu : DTT} {fs : DTA} {pos p : Pos}
theorem pt_imp {t t' : TT} (h : PT X e t) (f : ∀ σ H Q, t' σ H Q → t σ H Q) : PT X e t' := ⟨fun pins s σ H Q I q => h.run pins s σ H Q I (f σ H Q q)⟩
theorem pw_imp {t t' : TT} (h : PW X e t) (f : ∀ σ H Q, t' σ H Q → t σ H Q) : PW X e t' := ⟨fun wh pins s σ H Q I q => h.run wh pins s σ H Q I (f σ H Q q)⟩
theorem pa_imp {t t' : TA} (h : PA X es t) (f : ∀ σ H Q, t' σ H Q → t σ H Q) : PA X es t' := ⟨fun po pins s σ H Q I q => h.run po pins s σ H Q I (f σ H Q q)⟩
def gVar (i : Nat) : DTE := fun δ M Q => match δ[i]? with | some (some v) => Q v M | _ => False
theorem dn (i : Nat) {x : Str} {pos : Pos} (hN : X.N[i]? = some x := by rfl) (hv : Vis X.env.scope x := by first | exact Or.inl rfl | exact Or.inr (Or.inl rfl) | exact Or.inr (Or.inr rfl))
    (hd : (x == ("__debug__" : Str)) = false := by decide) (hcd : (x == ("__classdict__" : Str)) = false := by decide) : DE X (.Name x pos) (gVar i) :=
  imp (pe_var hN hv hd hcd) fun σ H Q ⟨δ, F, W, M, Qd, e, s, h, k⟩ => by
    unfold gVar at h
    split at h
    · rename_i d q
      obtain ⟨v, q', r⟩ := e.get q
      exact ⟨v, q', k.now s r h⟩
    · exact h.elim
def gC (d : Da) : DTE := fun _ M Q => Q d M
theorem d_const {v : V} {d : Da} (h : PE X e (tC v)) (r : ∀ W H, RD X.K W H v d) : DE X e (gC d) := imp h fun σ H Q ⟨δ, F, W, M, Qd, e, s, h, k⟩ => k.now s (r W H) h
theorem d_int {i j pos} : DE X (.Constant (.int i) j pos) (gC (.int i)) := d_const pe_int fun _ _ => .int _
theorem d_bl {b j pos} : DE X (.Constant (.bool b) j pos) (gC (.bl b)) := d_const pe_bl fun _ _ => .bl _
theorem d_non {j pos} : DE X (.Constant .none j pos) (gC .non) := d_const pe_non fun _ _ => .non
theorem d_str {x j pos} : DE X (.Constant (.str x) j pos) (gC (.str x)) := d_const pe_str fun _ _ => .str _
theorem d_ty {T : String} {x : Str} (m : X.mg x = none) (hv : bootBuiltins x = some (.type T)) (hg : Gl X x := by rfl) (hn : x ≠ "__name__" := by decide) (hd : (x == ("__debug__" : Str)) = false := by decide) : DE X (.Name x pos) (gC (.ty T)) := d_const (e_ty m hv hg hn hd) fun _ _ => .ty _
theorem d_gs {x z : Str} (h : ∃ t, X.mg x = some (.str z t)) (hg : Gl X x := by rfl) (hd : (x == ("__debug__" : Str)) = false := by decide) : DE X (.Name x pos) (gC (.str z)) := d_const (e_gs h hg hd) fun _ _ => .str _
theorem d_gi {x : Str} {z : Int} (h : ∃ t, X.mg x = some (.int z t)) (hg : Gl X x := by rfl) (hd : (x == ("__debug__" : Str)) = false := by decide) : DE X (.Name x pos) (gC (.int z)) := d_const (e_gi h hg hd) fun _ _ => .int _
abbrev D2 := Da → Da → Mm → DK → Prop
def L2o (K : PySem.W.Frag) (g : D2) : R2 := fun x y H Q => ∃ F W M d e Qd, RD K W H x d ∧ RD K W H y e ∧ Stt K F W M H ∧ g d e M Qd ∧ Kt (rE K) K F W H Qd Q
def DO (X : Cx) (f : Value → Value → Sem Value) (g : D2) : Prop := OpR X f (L2o X.K g)
def gOp (g : D2) (fa fb : DTE) : DTE := fun δ M Q => fa δ M fun x M1 => fb δ M1 fun y M2 => g x y M2 Q
theorem li_op {K : PySem.W.Frag} {g : D2} {σ : L2.St} {H : Hp} {Q : VK} (h : Li (rE K) K (gOp g fa fb) σ H Q) : tOp (L2o K g) (Li (rE K) K fa) (Li (rE K) K fb) σ H Q := by
  obtain ⟨δ, F, W, M, Qd, e, s, h, k⟩ := h
  exact ⟨δ, F, W, M, _, e, s, h, fun v H1 W1 d M1 g1 s1 r1 q1 => ⟨δ, F, W1, M1, _, e.mono g1, s1, q1, fun u H2 W2 d2 M2 g2 s2 r2 q2 => ⟨F, W2, M2, d, d2, Qd, r1.mono g2, r2, s2, q2, k.mono (g1.trans g2)⟩⟩⟩
theorem d_op {op : Operator} {g : D2} (ho : DO X (binaryOp op) g) (ha : DE X a fa) (hb : DE X b fb) : DE X (.BinOp a op b pos) (gOp g fa fb) := imp (pe_op ho ha hb) fun _ _ _ h => li_op h
/-- an operation of scalars -/
theorem do_imp {f : Value → Value → Sem Value} {g : D2} (h : ∀ x y H Q, L2o X.K g x y H Q → ∃ r : R2, OpR X f r ∧ r x y H Q) : DO X f g := opCases h
/-- a size that is small enough -/
def Sz (n : Nat) : Prop := Nat.ble n 1000000 = true
theorem sz {n : Nat} (h : n ≤ 1000000) : Sz n := Nat.ble_eq.mpr h
theorem Sz.le {n : Nat} (h : Sz n) : n ≤ 1000000 := Nat.ble_eq.mp h
theorem Sz.ok {n : Nat} (h : Sz n) : n ≤ sizeLine := by have := h.le; rw [sizeLine_eq]; omega
/-- a new settled row -/
theorem Kt.newL {K : PySem.W.Frag} {F W : Addr → Prop} {M : Mm} {H : Hp} {Qd : DK} {Q : VK} {q : Addr} {vs : List V} {ds : List Da} (k : Kt (rE K) K F W H Qd Q) (s : Stt K F W M H) (h : H q = none) (r : RDs K W H vs ds) (z : Qd (.lst ds) M) : Q (.ref q) (upd H q (.lst vs)) := by
  obtain ⟨s1, g1⟩ := s.new h (.lst vs)
  exact (k.mono g1).now s1 (.lst (.inl ⟨.inl rfl, .inl upd_same⟩) (r.mono g1)) z
theorem Kt.newT {K : PySem.W.Frag} {F W : Addr → Prop} {M : Mm} {H : Hp} {Qd : DK} {Q : VK} {q : Addr} {vs : List V} {ds : List Da} (k : Kt (rE K) K F W H Qd Q) (s : Stt K F W M H) (h : H q = none) (r : RDs K W H vs ds) {o : Obj} (ho : o.dict = none) (z : Qd (.tup ds) M) : Q (.ref q) (upd H q (.frz o (.tup vs))) := by
  obtain ⟨s1, g1⟩ := s.new h (.frz o (.tup vs)) ho
  exact (k.mono g1).now s1 (.tup (.inl ⟨.inl rfl, .inr ⟨o, upd_same⟩⟩) (r.mono g1)) z
theorem Kt.newM {K : PySem.W.Frag} {F W : Addr → Prop} {M : Mm} {H : Hp} {Qd : DK} {Q : VK} {q : Addr} {vs : List V} {ds : List Da} (k : Kt (rE K) K F W H Qd Q) (s : Stt K F W M H) (h : H q = none) (r : RDs K W H vs ds) (z : ∀ p, M p = none → Qd (.ref p) (mput M p (.lst ds))) : Q (.ref q) (upd H q (.lst vs)) :=
  (k.mono (grow_new s h)).now (s.newM h (.lst r)) (.ref q) (z q (s.freeM h))
/-- list + list, whatever they are -/
def rCatL (K : PySem.W.Frag) : R2 := fun x y H Q => ∃ l b xs zs, x = .ref l ∧ y = .ref b ∧ SqL K H l xs ∧ SqL K H b zs ∧ xs.length + zs.length ≤ sizeLine ∧ ∀ p, H p = none → Q (.ref p) (upd H p (.lst (xs ++ zs)))
theorem op_catL : OpR X (binaryOp .Add) (rCatL X.K) := by
  intro pins s σ H x y v u Q I rx ry h
  obtain ⟨l, b, xs, zs, rfl, rfl, hH, hB, hz, q⟩ := h
  cases rx
  cases ry
  obtain ⟨its, r, ⟨⟨cls, dd, data, sl⟩, n, ho, hc, _, hd⟩, h1⟩ := I.list hH
  obtain ⟨its2, r2, ⟨⟨cls2, dd2, data2, sl2⟩, n2, ho2, hc2, _, hd2⟩, h2⟩ := I.list hB
  simp only at hc hd hc2 hd2
  subst hc hd hc2 hd2
  have l1 := r.length
  have l2 := r2.length
  refine concat_meets ⟨_, ho, rfl⟩ ⟨_, ho2, rfl⟩ noFill_list_add seq_list_add PySem.F.slot_list_add PySem.F.entry_list_add (PySem.F.args_list_add_2 _ _) (PyProof.Rows.list_addW l b its.toArray its2.toArray n n2 _ _ sl sl2 (by rw [List.size_toArray, List.size_toArray]; omega)) ⟨ho, ho2, ?_⟩
  have ea : its.toArray ++ its2.toArray = (its ++ its2).toArray := by simp
  rw [ea]
  exact ⟨.ref _, _, I.lnew (t' := s.toks) (r.append r2) (by rw [List.length_append]; omega), rfl, q _ I.fresh⟩
/-- what a row's items are -/
def lstK (x : Da) (M : Mm) (k : List Da → Prop) : Prop := match x with
  | .lst xs => k xs
  | .ref p => ∃ xs, M p = some (.lst xs) ∧ k xs
  | _ => False
theorem lst_of {K : PySem.W.Frag} {F W : Addr → Prop} {H : Hp} {M : Mm} {v : V} {d : Da} (s : Stt K F W M H) (r : RD K W H v d) {k : List Da → Prop} (h : lstK d M k) : ∃ a vs ds, v = .ref a ∧ SqL K H a vs ∧ RDs K W H vs ds ∧ k ds := by
  cases r with
  | lst hs rv => exact ⟨_, _, _, rfl, hs.sq, rv, h⟩
  | ref p =>
    obtain ⟨xs, hm, h⟩ := h
    obtain ⟨u, hu, mr⟩ := s.mem _ _ hm
    cases mr with
    | lst rv => exact ⟨_, _, _, rfl, SqL.of hu, rv, h⟩
  | _ => exact h.elim
def hAdd : D2 := fun x y M Q => match x, y with
  | .int i, .int j => Q (.int (i + j)) M
  | .int i, .bl k => Q (.int (i + b2i k)) M
  | .str a, .str b => a.length + b.length ≤ sizeLine ∧ Q (.str (a ++ b)) M
  | .tup xs, .tup ys => Sz (xs.length + ys.length) ∧ Q (.tup (xs ++ ys)) M
  | .lst xs, y => lstK y M fun ys => Sz (xs.length + ys.length) ∧ Q (.lst (xs ++ ys)) M
  | .ref p, y => ∃ xs, M p = some (.lst xs) ∧ lstK y M fun ys => Sz (xs.length + ys.length) ∧ Q (.lst (xs ++ ys)) M
  | _, _ => False
theorem o_dadd : DO X (binaryOp .Add) hAdd := do_imp fun x y H Q ⟨F, W, M, d, e, Qd, r1, r2, s, h, k⟩ => by
  unfold hAdd at h
  split at h
  · cases r1; cases r2; exact ⟨_, o_add, k.now s (.int _) h⟩
  · cases r1; cases r2; exact ⟨_, o_add, k.now s (.int _) h⟩
  · cases r1; cases r2; exact ⟨_, o_add, h.1, k.now s (.str _) h.2⟩
  · cases r1 with
    | @tup a vs _ hs rv =>
      cases r2 with
      | @tup b ws _ ht rw_ =>
        refine ⟨_, op_catAF, _, _, vs, ws, rfl, rfl, hs.sq, ht.sq, by rw [rv.length, rw_.length]; exact h.1.ok, fun e => ?_, fun _ e => ?_, fun _ _ p hp o ho => ?_⟩
        · subst e
          cases rv
          exact k.now s (.tup ht rw_) h.2
        · subst e
          cases rw_
          have q := h.2
          rw [List.append_nil] at q
          exact k.now s (.tup hs rv) q
        · exact k.newT s hp (rv.append rw_) ho h.2
  · cases r1 with
    | lst hs rv =>
      obtain ⟨b, ws, ds, rfl, ht, rw_, hz, q⟩ := lst_of s r2 h
      exact ⟨_, op_catL, _, b, _, ws, rfl, rfl, hs.sq, ht, by rw [rv.length, rw_.length]; exact hz.ok, fun p hp => k.newL s hp (rv.append rw_) q⟩
  · cases r1
    obtain ⟨xs, hm, h⟩ := h
    obtain ⟨a, vs, ds, e1, hs, rv, hz, q⟩ := lst_of (k := fun ds => ds = xs ∧ lstK e M fun ys => Sz (ds.length + ys.length) ∧ Qd (.lst (ds ++ ys)) M) s (.ref _) ⟨xs, hm, rfl, h⟩
    cases e1
    obtain ⟨b, ws, es, rfl, ht, rw_, hz2, q2⟩ := lst_of s r2 q
    exact ⟨_, op_catL, _, b, _, ws, rfl, rfl, hs, ht, by rw [rv.length, rw_.length]; exact hz2.ok, fun p hp => k.newL s hp (rv.append rw_) q2⟩
  · exact h.elim
def hSub : D2 := fun x y M Q => match x, y with
  | .int i, .int j => Q (.int (i - j)) M
  | _, _ => False
theorem o_dsub : DO X (binaryOp .Sub) hSub := do_imp fun x y H Q ⟨F, W, M, d, e, Qd, r1, r2, s, h, k⟩ => by
  refine ⟨_, o_sub, ?_⟩
  cases r1 <;> cases r2 <;> first | exact h.elim | exact k.now s (.int _) h
theorem RDs.flat_rep {K : PySem.W.Frag} {W : Addr → Prop} {H : Hp} {vs : List V} {ds : List Da} (r : RDs K W H vs ds) : ∀ n : Nat, RDs K W H (List.replicate n vs).flatten (List.replicate n ds).flatten
  | 0 => .nil
  | n + 1 => by
    rw [List.replicate_succ, List.replicate_succ, List.flatten_cons, List.flatten_cons]
    exact r.append (RDs.flat_rep r n)
def rRepL (K : PySem.W.Frag) : R2 := fun x y H Q => ∃ l k xs, x = .ref l ∧ y = .int k ∧ SqL K H l xs ∧ -(2 ^ 63) ≤ k ∧ k < 2 ^ 63 ∧ xs.length * k.toNat ≤ sizeLine ∧
  ∀ p, H p = none → Q (.ref p) (upd H p (.lst (List.replicate k.toNat xs).flatten))
theorem op_repL : OpR X (binaryOp .Mult) (rRepL X.K) := by
  intro pins s σ H x y v u Q I rx ry h
  obtain ⟨l, k, xs, rfl, rfl, hH, h1, h2, hz, q⟩ := h
  cases rx
  obtain ⟨t, rfl⟩ := ry
  obtain ⟨its, r, ⟨⟨cls, dd, data, sl⟩, n, e, hc, _, hd⟩, _⟩ := I.list hH
  simp only at hc hd
  subst hc hd
  have hl := r.length
  have hlen : its.toArray.size * k.toNat ≤ sizeLine := by rw [List.size_toArray, ← hl]; exact hz
  have hcap : ¬ its.toArray.size * k.toNat > (2 ^ 63 - 1) / 8 := by
    have : (sizeLine : Nat) ≤ (2 ^ 63 - 1) / 8 := by decide
    omega
  have hfit : ¬ (!Builtin.List.listFitsIndex k) = true := by
    rw [fitsIndex_both h1 h2]
    exact Bool.false_ne_true
  have hlong : ¬ Builtin.List.listTooLong (its.toArray.size * k.toNat) = true := by
    rw [notLongL hlen]
    exact Bool.false_ne_true
  have hnew : List.foldl (fun x1 x2 => x1 ++ x2) #[] (List.replicate (if its.toArray.isEmpty = true then 0 else k.toNat) its.toArray) = (List.replicate k.toNat its).flatten.toArray := by
    have f0 : ∀ m : Nat, List.foldl (fun x1 x2 => x1 ++ x2) #[] (List.replicate m its.toArray) = (List.replicate m its).flatten.toArray := fun m => by
      have := foldl_rep its m []
      rw [List.nil_append] at this
      exact this
    rw [f0]
    cases its with
    | nil => simp
    | cons a r' => rw [if_neg (by simp)]
  refine wpAny_binaryOp_repeat_ref (T := "list") (U := "int") (by decide) ⟨_, e, rfl⟩ (fun s' => typeIs_int s' k t) noFill_list_mul F.fills_int_mul F.slot_int_rmul repeat_list F.slot_int_index.lookup
    (call_meets F.slot_int_rmul (typeIs_int s k t) F.entry_int_rmul (F.args_int_rmul_2 _ _) (lm_int_rmul_list_any k t l its.toArray n _ sl)
      ⟨e, rfl, ⟨_, e, rfl⟩, call_meets F.slot_list_mul ⟨_, e, rfl⟩ F.entry_list_mul (F.args_list_mul_2 _ _) (lm_list_mul_any l its.toArray n _ sl k t hfit hcap hlong) ⟨e, ?_⟩⟩)
  rw [hnew]
  exact ⟨.ref _, _, I.lnew (t' := s.toks) (r.rep k.toNat) (by rw [PyProof.Rows.lm_len_rep_flat, Nat.mul_comm]; exact hz), rfl, q _ I.fresh⟩
def hMul : D2 := fun x y M Q => match x, y with
  | .int i, .int j => CMul i j ∧ Q (.int (i * j)) M
  | .tup xs, .int k => xs ≠ [] ∧ 2 ≤ k ∧ k ≤ 1000 ∧ xs.length ≤ 1000 ∧ Q (.tup (List.replicate k.toNat xs).flatten) M
  | .lst xs, .int k => k ≤ 1000 ∧ -1000 ≤ k ∧ xs.length ≤ 1000 ∧ Q (.lst (List.replicate k.toNat xs).flatten) M
  | _, _ => False
theorem o_dmul : DO X (binaryOp .Mult) hMul := do_imp fun x y H Q ⟨F, W, M, d, e, Qd, r1, r2, s, h, k⟩ => by
  unfold hMul at h
  split at h
  · cases r1; cases r2; exact ⟨_, o_mul, h.1, k.now s (.int _) h.2⟩
  · cases r1 with
    | @tup a vs _ hs rv =>
      cases r2
      exact ⟨_, op_repTF, _, _, vs, rfl, rfl, hs.sq, fun e => h.1 (by subst e; cases rv; rfl), h.2.1, h.2.2.1, by rw [rv.length]; exact h.2.2.2.1, fun p hp o ho => k.newT s hp (rv.flat_rep _) ho h.2.2.2.2⟩
  · cases r1 with
    | @lst a vs _ hs rv =>
      cases r2
      obtain ⟨h1, h2, h3, q⟩ := h
      have key : ∀ j : Int, j ≤ 1000 → vs.length * j.toNat ≤ sizeLine := fun j hj => by
        rw [rv.length, sizeLine_eq]
        have := Nat.mul_le_mul h3 (show j.toNat ≤ 1000 by omega)
        omega
      exact ⟨_, op_repL, _, _, vs, rfl, rfl, hs.sq, by omega, by omega, key _ h1, fun p hp => k.newL s hp (rv.flat_rep _) q⟩
  · exact h.elim
def hDiv : D2 := fun x y M Q => match x, y with
  | .int i, .int j => CDiv i j ∧ Q (.int (i / j)) M
  | _, _ => False
theorem o_ddiv : DO X (binaryOp .FloorDiv) hDiv := do_imp fun x y H Q ⟨F, W, M, d, e, Qd, r1, r2, s, h, k⟩ => by
  refine ⟨_, o_div, ?_⟩
  cases r1 <;> cases r2 <;> first | exact h.elim | exact ⟨h.1, k.now s (.int _) h.2⟩
def hMod : D2 := fun x y M Q => match x, y with
  | .int i, .int j => 0 < j ∧ Q (.int (i % j)) M
  | _, _ => False
theorem o_dmod : DO X (binaryOp .Mod) hMod := do_imp fun x y H Q ⟨F, W, M, d, e, Qd, r1, r2, s, h, k⟩ => by
  refine ⟨_, o_mod, ?_⟩
  cases r1 <;> cases r2 <;> first | exact h.elim | exact ⟨h.1, k.now s (.int _) h.2⟩
def hPow : D2 := fun x y M Q => match x, y with
  | .int i, .int j => CPowW i j ∧ Q (.int (i ^ j.toNat)) M
  | _, _ => False
theorem o_dpow : DO X (binaryOp .Pow) hPow := do_imp fun x y H Q ⟨F, W, M, d, e, Qd, r1, r2, s, h, k⟩ => by
  refine ⟨_, o_pow, ?_⟩
  cases r1 <;> cases r2 <;> first | exact h.elim | exact ⟨h.1, k.now s (.int _) h.2⟩
def hOr : D2 := fun x y M Q => match x, y with
  | .int i, .int j => Q (.int (Builtin.bitOr i j)) M
  | _, _ => False
theorem o_dor : DO X (binaryOp .BitOr) hOr := do_imp fun x y H Q ⟨F, W, M, d, e, Qd, r1, r2, s, h, k⟩ => by
  refine ⟨_, op_or, ?_⟩
  cases r1 <;> cases r2 <;> first | exact h.elim | exact ⟨_, _, rfl, rfl, k.now s (.int _) h⟩
def gNeg (f : DTE) : DTE := fun δ M Q => f δ M fun x M1 => match x with
  | .int i => Q (.int (-i)) M1
  | _ => False
theorem d_neg (h : DE X e f) : DE X (.UnaryOp .USub e pos) (gNeg f) := imp (pe_un un_neg h) fun σ H Q ⟨δ, F, W, M, Qd, ev, s, h, k⟩ =>
  ⟨δ, F, W, M, _, ev, s, h, fun v H1 W1 d M1 g1 s1 r1 q1 => by
    cases r1 <;> first | exact q1.elim | exact ⟨_, rfl, (k.mono g1).now s1 (.int _) q1⟩⟩
mutual
def toP : Da → PyData
  | .non => .none
  | .bl b => .bool b
  | .int i => .int i
  | .str x => .str x
  | .ty _ => .none
  | .lst xs => .list (toPs xs)
  | .tup xs => .tuple (toPs xs)
  | .obj _ _ => .none
  | .ref _ => .none
  | .dct _ => .none
  | .exn _ _ _ => .none
def toPs : List Da → List PyData
  | [] => []
  | x :: xs => toP x :: toPs xs
end
mutual
/-- data without things that change -/
def pure? : Da → Bool
  | .lst xs => pures? xs
  | .tup xs => pures? xs
  | .obj _ _ => false
  | .ref _ => false
  | .ty _ => false
  | .dct _ => false
  | .exn _ _ _ => false
  | _ => true
def pures? : List Da → Bool
  | [] => true
  | x :: xs => pure? x && pures? xs
end
mutual
theorem RD.dp {K : PySem.W.Frag} {W : Addr → Prop} {H : Hp} : ∀ {v : V} {d : Da}, RD K W H v d → pure? d = true → Dp K H v (toP d)
  | _, _, .non, _ => .non
  | _, _, .bl b, _ => .bl b
  | _, _, .int i, _ => .int i
  | _, _, .str x, _ => .str x
  | _, _, .ty x, h => nomatch h
  | _, _, .ref x, h => nomatch h
  | _, _, .lst h k, q => .lst h.sq (RDs.dp k q)
  | _, _, .tup h k, q => .tup h.sq (RDs.dp k q)
  | _, _, .obj _ _ _, h => nomatch h
  | _, _, .dct _ _ _, h => nomatch h
  | _, _, .exn _ _ _, h => nomatch h
theorem RDs.dp {K : PySem.W.Frag} {W : Addr → Prop} {H : Hp} : ∀ {vs : List V} {ds : List Da}, RDs K W H vs ds → pures? ds = true → DpAll K H vs (toPs ds)
  | _, _, .nil, _ => .nil
  | _, _, .cons h k, q => by
    have q' := (Bool.and_eq_true_iff.mp q)
    exact .cons (RD.dp h q'.1) (RDs.dp k q'.2)
end
def eqD (x y : Da) : Bool := PyData.eqv (toP x) (toP y)
/-- what == may be asked -/
def okD (x : Da) : Bool := pure? x && SeqAt.shaped (toP x)
theorem okD.pure {x : Da} (h : okD x = true) : pure? x = true := (Bool.and_eq_true_iff.mp h).1
theorem okD.shp {x : Da} (h : okD x = true) : SeqAt.shaped (toP x) = true := (Bool.and_eq_true_iff.mp h).2
def hEq : D2 := fun x y M Q => match x, y with
  | .int i, .int j => Q (.bl (decide (i = j))) M
  | .str a, .str b => Q (.bl (decide (a = b))) M
  | .bl a, .bl b => Q (.bl (decide (a = b))) M
  | x, y => okD x = true ∧ okD y = true ∧ Q (.bl (eqD x y)) M
def hNe : D2 := fun x y M Q => match x, y with
  | .int i, .int j => Q (.bl (!decide (i = j))) M
  | .str a, .str b => Q (.bl (!decide (a = b))) M
  | .bl a, .bl b => Q (.bl (!decide (a = b))) M
  | x, y => okD x = true ∧ okD y = true ∧ Q (.bl (!eqD x y)) M
theorem o_deq (hu : X.A.units + 64 < cLine) : DO X (compareOp .Eq) hEq := do_imp fun x y H Q ⟨F, W, M, d, e, Qd, r1, r2, s, h, k⟩ => by
  have gen : okD d = true ∧ okD e = true ∧ Qd (.bl (eqD d e)) M → ∃ r : R2, OpR X (compareOp .Eq) r ∧ r x y H Q := fun ⟨h1, h2, h3⟩ =>
    ⟨_, op_eqD hu, _, _, r1.dp (okD.pure h1), r2.dp (okD.pure h2), okD.shp h1, okD.shp h2, k.now s (.bl _) h3⟩
  have sc : ∀ {b : Bool}, OpR X (compareOp .Eq) (fEq X.K) := o_eq hu
  unfold hEq at h
  split at h
  · cases r1; cases r2; exact ⟨_, o_eq hu, k.now s (.bl _) h⟩
  · cases r1; cases r2; exact ⟨_, o_eq hu, k.now s (.bl _) h⟩
  · cases r1; cases r2; exact ⟨_, o_eq hu, k.now s (.bl _) h⟩
  · exact gen h
theorem o_dne (hu : X.A.units + 64 < cLine) : DO X (compareOp .NotEq) hNe := do_imp fun x y H Q ⟨F, W, M, d, e, Qd, r1, r2, s, h, k⟩ => by
  have gen : okD d = true ∧ okD e = true ∧ Qd (.bl (!eqD d e)) M → ∃ r : R2, OpR X (compareOp .NotEq) r ∧ r x y H Q := fun ⟨h1, h2, h3⟩ =>
    ⟨_, op_neD hu, _, _, r1.dp (okD.pure h1), r2.dp (okD.pure h2), okD.shp h1, okD.shp h2, k.now s (.bl _) h3⟩
  unfold hNe at h
  split at h
  · cases r1; cases r2; exact ⟨_, o_ne hu, k.now s (.bl _) h⟩
  · cases r1; cases r2; exact ⟨_, o_ne hu, k.now s (.bl _) h⟩
  · cases r1; cases r2; exact ⟨_, o_ne hu, k.now s (.bl _) h⟩
  · exact gen h
def hLt : D2 := fun x y M Q => match x, y with
  | .int i, .int j => Q (.bl (decide (i < j))) M
  | .str a, .str b => Q (.bl (decide (a.cps.toList < b.cps.toList))) M
  | _, _ => False
def hLe : D2 := fun x y M Q => match x, y with
  | .int i, .int j => Q (.bl (decide (i ≤ j))) M
  | .str a, .str b => Q (.bl (!decide (b.cps.toList < a.cps.toList))) M
  | _, _ => False
def hGt : D2 := fun x y M Q => match x, y with
  | .int i, .int j => Q (.bl (decide (j < i))) M
  | .str a, .str b => Q (.bl (decide (b.cps.toList < a.cps.toList))) M
  | _, _ => False
theorem o_dlt : DO X (compareOp .Lt) hLt := do_imp fun x y H Q ⟨F, W, M, d, e, Qd, r1, r2, s, h, k⟩ => by
  refine ⟨_, o_lt, ?_⟩
  cases r1 <;> cases r2 <;> first | exact h.elim | exact k.now s (.bl _) h
theorem o_dle : DO X (compareOp .LtE) hLe := do_imp fun x y H Q ⟨F, W, M, d, e, Qd, r1, r2, s, h, k⟩ => by
  refine ⟨_, o_le, ?_⟩
  cases r1 <;> cases r2 <;> first | exact h.elim | exact k.now s (.bl _) h
theorem o_dgt : DO X (compareOp .Gt) hGt := do_imp fun x y H Q ⟨F, W, M, d, e, Qd, r1, r2, s, h, k⟩ => by
  refine ⟨_, o_gt, ?_⟩
  cases r1 <;> cases r2 <;> first | exact h.elim | exact k.now s (.bl _) h
def isNon : Da → Bool
  | .non => true
  | _ => false
theorem RD.isNon {K : PySem.W.Frag} {W : Addr → Prop} {H : Hp} {v : V} {d : Da} (r : RD K W H v d) : decide (v = .non) = isNon d := by cases r <;> rfl
def hIsN : D2 := fun x y M Q => match y with
  | .non => Q (.bl (isNon x)) M
  | _ => False
def hNotN : D2 := fun x y M Q => match y with
  | .non => Q (.bl (!isNon x)) M
  | _ => False
theorem o_disN : DO X (compareOp .Is) hIsN := do_imp fun x y H Q ⟨F, W, M, d, e, Qd, r1, r2, s, h, k⟩ => by
  refine ⟨_, o_isN, ?_⟩
  cases r2 <;> first | exact h.elim | skip
  show Q (.bl _) H
  rw [r1.isNon]; exact k.now s (.bl _) h
theorem o_dnotN : DO X (compareOp .IsNot) hNotN := do_imp fun x y H Q ⟨F, W, M, d, e, Qd, r1, r2, s, h, k⟩ => by
  refine ⟨_, o_notN, ?_⟩
  cases r2 <;> first | exact h.elim | skip
  show Q (.bl _) H
  rw [r1.isNon]; exact k.now s (.bl _) h
def subS (i j : Str) : Bool := !(Builtin.Str.occurrences j i 0 j.length 1).isEmpty
/-- scalars -/
def flatA : Da → Bool
  | .non | .bl _ | .int _ | .str _ => true
  | _ => false
theorem toPs_eq : ∀ ds : List Da, toPs ds = ds.map toP
  | [] => rfl
  | d :: ds => by rw [List.map_cons, ← toPs_eq ds]; rfl
/-- x in a row: by what == says -/
def inD (x : Da) (xs : List Da) : Bool := xs.any fun z => eqD z x
theorem RD.flat {K : PySem.W.Frag} {W : Addr → Prop} {H : Hp} {v : V} {d : Da} (r : RD K W H v d) (h : flatA d = true) : flatV v = true := by
  cases r <;> first | rfl | exact absurd h (by simp [flatA])
theorem RDs.flat {K : PySem.W.Frag} {W : Addr → Prop} {H : Hp} : ∀ {vs : List V} {ds : List Da}, RDs K W H vs ds → ds.all flatA = true → vs.all flatV = true
  | _, _, .nil, _ => rfl
  | _, _, .cons h k, q => by
    rw [List.all_cons, Bool.and_eq_true] at q ⊢
    exact ⟨h.flat q.1, RDs.flat k q.2⟩
theorem eqV_D {K : PySem.W.Frag} {W : Addr → Prop} {H : Hp} {v u : V} {d e : Da} (r : RD K W H v d) (q : RD K W H u e) (h1 : flatA d = true) (h2 : flatA e = true) : eqV v u = eqD d e := by
  cases r <;> first | exact absurd (show false = true from h1) Bool.false_ne_true | skip
  all_goals (cases q <;> first | exact absurd (show false = true from h2) Bool.false_ne_true | rfl | skip)
theorem inV_D {K : PySem.W.Frag} {W : Addr → Prop} {H : Hp} {v : V} {d : Da} (r : RD K W H v d) (h1 : flatA d = true) : ∀ {vs : List V} {ds : List Da}, RDs K W H vs ds → ds.all flatA = true → inV v vs = inD d ds
  | _, _, .nil, _ => rfl
  | _, _, .cons h k, q => by
    rw [List.all_cons, Bool.and_eq_true] at q
    have := inV_D r h1 k q.2
    unfold inV inD at this ⊢
    rw [List.any_cons, List.any_cons, eqV_D h r q.1 h1, this]
def flat2 (x : Da) (xs : List Da) : Bool := flatA x && xs.all flatA
def hInG (neg : Bool) : D2 := fun x y M Q => match x, y with
  | .str i, .str j => Q (.bl (if neg then !subS i j else subS i j)) M
  | x, .lst xs => (flat2 x xs || okD x && okD (.lst xs)) = true ∧ Q (.bl (if neg then !inD x xs else inD x xs)) M
  | x, .tup xs => flat2 x xs = true ∧ Q (.bl (if neg then !inD x xs else inD x xs)) M
  | x, .ref p => ∃ xs, M p = some (.lst xs) ∧ flat2 x xs = true ∧ Q (.bl (if neg then !inD x xs else inD x xs)) M
  | _, _ => False
theorem inD_list {d : Da} {ds : List Da} : (toPs ds).any (fun z => PyData.eqv z (toP d)) = inD d ds := by
  rw [toPs_eq, List.any_map]; rfl
theorem hIn_core {neg : Bool} (hu : X.A.units + 65 < cLine) {x y : V} {H : Hp} {Q : VK} {F W : Addr → Prop} {M : Mm} {d e : Da} {Qd : DK} (r1 : RD X.K W H x d) (r2 : RD X.K W H y e) (s : Stt X.K F W M H) (h : hInG neg d e M Qd) (k : Kt (rE X.K) X.K F W H Qd Q) :
    (∃ i j, x = .str i ∧ y = .str j ∧ Q (.bl (if neg then !subS i j else subS i j)) H) ∨ rIn X.K neg x y H Q ∨ (if neg then rNotInD X.K x y H Q else rInD X.K x y H Q) := by
  have fl : ∀ {a : Addr} {vs : List V} {ds : List Da}, y = .ref a → (SqL X.K H a vs ∨ SqT X.K H a vs) → RDs X.K W H vs ds → flat2 d ds = true → Qd (.bl (if neg then !inD d ds else inD d ds)) M → rIn X.K neg x y H Q := fun {a vs ds} ey hs rv f q => by
    have f' := Bool.and_eq_true_iff.mp f
    refine ⟨a, vs, ey, hs, r1.flat f'.1, rv.flat f'.2, ?_⟩
    rw [inV_D r1 f'.1 rv f'.2]
    exact k.now s (.bl _) q
  unfold hInG at h
  split at h
  · cases r1; cases r2; exact .inl ⟨_, _, rfl, rfl, k.now s (.bl _) h⟩
  · cases r2 with
    | lst hs rv =>
      obtain ⟨h1, h2⟩ := h
      rcases Bool.or_eq_true_iff.mp h1 with h1 | h1
      · exact .inr (.inl (fl rfl (.inl hs.sq) rv h1 h2))
      · have h1' := Bool.and_eq_true_iff.mp h1
        refine .inr (.inr ?_)
        cases neg with
        | true => exact ⟨_, _, r1.dp (okD.pure h1'.1), (RD.lst hs rv).dp (okD.pure h1'.2), okD.shp h1'.1, okD.shp h1'.2, by rw [inD_list]; exact k.now s (.bl _) h2⟩
        | false => exact ⟨_, _, r1.dp (okD.pure h1'.1), (RD.lst hs rv).dp (okD.pure h1'.2), okD.shp h1'.1, okD.shp h1'.2, by rw [inD_list]; exact k.now s (.bl _) h2⟩
  · cases r2 with
    | tup hs rv => exact .inr (.inl (fl rfl (.inr hs.sq) rv h.1 h.2))
  · cases r2 with
    | ref p =>
      obtain ⟨xs, hm, h1, h2⟩ := h
      obtain ⟨u, hu, mr⟩ := s.mem _ _ hm
      cases mr with
      | lst rv => exact .inr (.inl (fl rfl (.inl (SqL.of hu)) rv h1 h2))
  · exact h.elim
def hIn : D2 := hInG false
def hNin : D2 := hInG true
theorem o_din (hu : X.A.units + 65 < cLine) : DO X (compareOp .In) hIn := do_imp fun x y H Q ⟨F, W, M, d, e, Qd, r1, r2, s, h, k⟩ => by
  rcases hIn_core hu r1 r2 s h k with h | h | h
  · exact ⟨_, op_in_str, h⟩
  · exact ⟨_, op_in_seq, h⟩
  · exact ⟨_, op_inD hu, h⟩
theorem o_dnin (hu : X.A.units + 65 < cLine) : DO X (compareOp .NotIn) hNin := do_imp fun x y H Q ⟨F, W, M, d, e, Qd, r1, r2, s, h, k⟩ => by
  rcases hIn_core hu r1 r2 s h k with h | h | h
  · exact ⟨_, op_notin_str, h⟩
  · exact ⟨_, op_notIn_seq, h⟩
  · exact ⟨_, op_notInD hu, h⟩
def gTst (f : DTE) : DTT := fun δ M Q => f δ M fun x M1 => match x with
  | .bl k => Q k M1
  | _ => False
theorem d_tcm {op : CmpOp} {g : D2} (ho : DO X (compareOp op) g) (ha : DE X a fa) (hb : DE X b fb) (hm : behindInMarks op b = false := by first | exact nomark _ | rfl) : DT X (.Compare a [op] [b] pos) (gTst (gOp g fa fb)) :=
  pt_imp (tcm ho ha hb hm) fun σ H Q ⟨δ, F, W, M, Qd, e, s, h, k⟩ => li_op ⟨δ, F, W, M, _, e, s, h, fun v H1 W1 d M1 g1 s1 r1 q1 => by
    cases r1 <;> first | exact q1.elim | exact (k.mono g1).now s1 rfl q1⟩
theorem d_ecm {op : CmpOp} {g : D2} (ho : DO X (compareOp op) g) (ha : DE X a fa) (hb : DE X b fb) (hm : behindInMarks op b = false := by first | exact nomark _ | rfl) : DE X (.Compare a [op] [b] pos) (gOp g fa fb) :=
  imp (ecm ho ha hb hm) fun _ _ _ h => li_op h
def gCh (g g' : D2) (fa fb fc : DTE) : DTE := fun δ M Q => fa δ M fun x M1 => fb δ M1 fun y M2 => g x y M2 fun z M3 => match z with
  | .bl k => if k = true then fc δ M3 fun w M4 => g' y w M4 Q else Q (.bl false) M3
  | _ => False
theorem li_ch {K : PySem.W.Frag} {g g' : D2} {σ : L2.St} {H : Hp} {Q : VK} (h : Li (rE K) K (gCh g g' fa fb fc) σ H Q) : fChain (L2o K g) (L2o K g') (Li (rE K) K fa) (Li (rE K) K fb) (Li (rE K) K fc) σ H Q := by
  obtain ⟨δ, F, W, M, Qd, e, s, h, k⟩ := h
  refine ⟨δ, F, W, M, _, e, s, h, fun v H1 W1 d M1 g1 s1 r1 q1 => ⟨δ, F, W1, M1, _, e.mono g1, s1, q1, fun u H2 W2 d2 M2 g2 s2 r2 q2 => ⟨F, W2, M2, d, d2, _, r1.mono g2, r2, s2, q2, fun z H3 W3 d3 M3 g3 s3 r3 q3 => ?_⟩⟩⟩
  cases r3 <;> first | exact q3.elim | skip
  rename_i c
  cases c with
  | true => exact ⟨δ, F, W3, M3, _, e.mono (g1.trans (g2.trans g3)), s3, q3, fun w H4 W4 d4 M4 g4 s4 r4 q4 => ⟨F, W4, M4, d2, d4, Qd, r2.mono (g3.trans g4), r4, s4, q4, k.mono (g1.trans (g2.trans (g3.trans g4)))⟩⟩
  | false => exact (k.mono (g1.trans (g2.trans g3))).now s3 (.bl _) q3
theorem d_ech {op op' : CmpOp} {g g' : D2} (ho : DO X (compareOp op) g) (ho' : DO X (compareOp op') g') (ha : DE X a fa) (hb : DE X b fb) (hc : DE X c fc) (hm : lastMarks [op, op'] [b, c] = false := by rfl) :
    DE X (.Compare a [op, op'] [b, c] pos) (gCh g g' fa fb fc) := imp (ech ho ho' ha hb hc hm) fun _ _ _ h => li_ch h
theorem d_tch {op op' : CmpOp} {g g' : D2} (ho : DO X (compareOp op) g) (ho' : DO X (compareOp op') g') (ha : DE X a fa) (hb : DE X b fb) (hc : DE X c fc) (hm : lastMarks [op, op'] [b, c] = false := by rfl) :
    DT X (.Compare a [op, op'] [b, c] pos) (gTst (gCh g g' fa fb fc)) := pt_imp (tch ho ho' ha hb hc hm) fun σ H Q ⟨δ, F, W, M, Qd, e, s, h, k⟩ => li_ch ⟨δ, F, W, M, _, e, s, h, fun v H1 W1 d M1 g1 s1 r1 q1 => by
    cases r1 <;> first | exact q1.elim | exact (k.mono g1).now s1 rfl q1⟩
/-- any value as a test -/
def gTru (f : DTE) : DTT := fun δ M Q => f δ M fun x M1 => match x with
  | .bl k => Q k M1
  | .non => Q false M1
  | .int i => Q (i != 0) M1
  | .str y => y.length ≤ sizeLine ∧ Q ((y.length : Int) != 0) M1
  | .lst xs => Q (!xs.isEmpty) M1
  | .tup xs => Q (!xs.isEmpty) M1
  | .ref p => ∃ xs, M1 p = some (.lst xs) ∧ Q (!xs.isEmpty) M1
  | _ => False
theorem RDs.emp {K : PySem.W.Frag} {W : Addr → Prop} {H : Hp} {vs : List V} {ds : List Da} (r : RDs K W H vs ds) : (!vs.isEmpty) = !ds.isEmpty := by cases r <;> rfl
theorem d_tv (ha : DE X e f) (he : ∀ whole, isTrue e X.env whole = (do let v ← whole; standAt e.pos; holding [v] (truthy v)) := by intro _; rfl) : DT X e (gTru f) :=
  pt_imp (tv ha he) fun σ H Q ⟨δ, F, W, M, Qd, ev, s, h, k⟩ => ⟨δ, F, W, M, _, ev, s, h, fun v H1 W1 d M1 g1 s1 r1 q1 => by
    have k1 := k.mono g1
    cases r1 with
    | non => exact k1.now s1 rfl q1
    | bl b => exact k1.now s1 rfl q1
    | int b => exact k1.now s1 rfl q1
    | str b => exact ⟨q1.1, k1.now s1 rfl q1.2⟩
    | lst hs rv => exact ⟨_, .inl ⟨_, hs.sq, rv.emp.symm⟩, k1.now s1 rfl q1⟩
    | tup hs rv => exact ⟨_, .inr (.inl ⟨_, hs.sq, rv.emp.symm⟩), k1.now s1 rfl q1⟩
    | ref p =>
      obtain ⟨xs, hm, q⟩ := q1
      obtain ⟨u, hu, mr⟩ := s1.mem _ _ hm
      cases mr with
      | lst rv => exact ⟨_, .inl ⟨_, SqL.of hu, rv.emp.symm⟩, k1.now s1 rfl q⟩
    | _ => exact q1.elim⟩
def gAnd (t u : DTT) : DTT := fun δ M Q => t δ M fun c M1 => if c = true then u δ M1 Q else Q false M1
def gOr (t u : DTT) : DTT := fun δ M Q => t δ M fun c M1 => if c = true then Q true M1 else u δ M1 Q
def gNot (t : DTT) : DTT := fun δ M Q => t δ M fun c M1 => Q (!c) M1
theorem d_and1 (ha : DT X a ft) : DW X (.BoolOp .And [a] pos) ft := pw_and1 ha
theorem d_or1 (ha : DT X a ft) : DW X (.BoolOp .Or [a] pos) ft := pw_or1 ha
theorem d_and (ha : DT X a ft) (hb : DW X (.BoolOp .And (b :: rest) pos) fu) : DW X (.BoolOp .And (a :: b :: rest) pos) (gAnd ft fu) :=
  pw_imp (pw_and ha hb) fun σ H Q ⟨δ, F, W, M, Qd, ev, s, h, k⟩ => ⟨δ, F, W, M, _, ev, s, h, fun v H1 W1 d M1 g1 s1 r1 q1 => by
    cases r1
    cases v with
    | true => exact ⟨δ, F, W1, M1, Qd, ev.mono g1, s1, q1, k.mono g1⟩
    | false => exact (k.mono g1).now s1 rfl q1⟩
theorem d_or (ha : DT X a ft) (hb : DW X (.BoolOp .Or (b :: rest) pos) fu) : DW X (.BoolOp .Or (a :: b :: rest) pos) (gOr ft fu) :=
  pw_imp (pw_or ha hb) fun σ H Q ⟨δ, F, W, M, Qd, ev, s, h, k⟩ => ⟨δ, F, W, M, _, ev, s, h, fun v H1 W1 d M1 g1 s1 r1 q1 => by
    cases r1
    cases v with
    | false => exact ⟨δ, F, W1, M1, Qd, ev.mono g1, s1, q1, k.mono g1⟩
    | true => exact (k.mono g1).now s1 rfl q1⟩
theorem d_w (h : DW X e ft) : DT X e ft := PW.pt h
theorem d_tnot (ha : DT X a ft) : DT X (.UnaryOp .Not a pos) (gNot ft) := pt_imp (pt_not ha) fun σ H Q ⟨δ, F, W, M, Qd, ev, s, h, k⟩ => ⟨δ, F, W, M, _, ev, s, h, fun v H1 W1 d M1 g1 s1 r1 q1 => by
    cases r1
    exact (k.mono g1).now s1 rfl q1⟩
def gAndV (fa fb : DTE) : DTE := fun δ M Q => fa δ M fun x M1 => match x with
  | .bl c => if c = true then fb δ M1 Q else Q (.bl false) M1
  | _ => False
def gOrV (fa fb : DTE) : DTE := fun δ M Q => fa δ M fun x M1 => match x with
  | .bl c => if c = true then Q (.bl true) M1 else fb δ M1 Q
  | _ => False
def gNotV (fa : DTE) : DTE := fun δ M Q => fa δ M fun x M1 => match x with
  | .bl c => Q (.bl (!c)) M1
  | _ => False
theorem d_one {op} (h : DE X a f) : DE X (.BoolOp op [a] pos) f := pe_one h
theorem d_eand (ha : DE X a fa) (hb : DE X (.BoolOp .And (b :: rest) pos) fb) : DE X (.BoolOp .And (a :: b :: rest) pos) (gAndV fa fb) :=
  imp (eand ha hb) fun σ H Q ⟨δ, F, W, M, Qd, ev, s, h, k⟩ => ⟨δ, F, W, M, _, ev, s, h, fun v H1 W1 d M1 g1 s1 r1 q1 => by
    cases r1 <;> first | exact q1.elim | skip
    rename_i c
    cases c with
    | true => exact ⟨δ, F, W1, M1, Qd, ev.mono g1, s1, q1, k.mono g1⟩
    | false => exact (k.mono g1).now s1 (.bl _) q1⟩
theorem d_eor (ha : DE X a fa) (hb : DE X (.BoolOp .Or (b :: rest) pos) fb) : DE X (.BoolOp .Or (a :: b :: rest) pos) (gOrV fa fb) :=
  imp (eor ha hb) fun σ H Q ⟨δ, F, W, M, Qd, ev, s, h, k⟩ => ⟨δ, F, W, M, _, ev, s, h, fun v H1 W1 d M1 g1 s1 r1 q1 => by
    cases r1 <;> first | exact q1.elim | skip
    rename_i c
    cases c with
    | false => exact ⟨δ, F, W1, M1, Qd, ev.mono g1, s1, q1, k.mono g1⟩
    | true => exact (k.mono g1).now s1 (.bl _) q1⟩
theorem d_enot (ha : DE X a fa) : DE X (.UnaryOp .Not a pos) (gNotV fa) := imp (enot ha) fun σ H Q ⟨δ, F, W, M, Qd, ev, s, h, k⟩ => ⟨δ, F, W, M, _, ev, s, h, fun v H1 W1 d M1 g1 s1 r1 q1 => by
    cases r1 <;> first | exact q1.elim | exact (k.mono g1).now s1 (.bl _) q1⟩
def gIf (t : DTT) (fa fb : DTE) : DTE := fun δ M Q => t δ M fun c M1 => if c = true then fa δ M1 Q else fb δ M1 Q
theorem d_if (hc : DT X c ft) (ha : DE X a fa) (hb : DE X b fb) : DE X (.IfExp c a b pos) (gIf ft fa fb) := imp (pe_ifExp hc ha hb) fun σ H Q ⟨δ, F, W, M, Qd, ev, s, h, k⟩ => ⟨δ, F, W, M, _, ev, s, h, fun v H1 W1 d M1 g1 s1 r1 q1 => by
    cases r1
    cases v with
    | true => exact ⟨δ, F, W1, M1, Qd, ev.mono g1, s1, q1, k.mono g1⟩
    | false => exact ⟨δ, F, W1, M1, Qd, ev.mono g1, s1, q1, k.mono g1⟩⟩
end
end U
set_option Elab.async false
set_option linter.all false
set_option maxRecDepth 100000
set_option maxHeartbeats 2000000
namespace U
open PySem PySem.Spec PyProof.Rows L2
/-- what a row holds -/
def itemsK (x : Da) (M : Mm) (k : List Da → Prop) : Prop := match x with
  | .lst xs => k xs
  | .tup xs => k xs
  | .ref p => ∃ xs, M p = some (.lst xs) ∧ k xs
  | _ => False
section
variable {K : PySem.W.Frag} {F W : Addr → Prop} {H : Hp} {M : Mm}
theorem Stt.list (s : Stt K F W M H) {p : Addr} {xs : List Da} (h : M p = some (.lst xs)) : ∃ vs, H p = some (.lst vs) ∧ RDs K W H vs xs := by
  obtain ⟨u, hu, mr⟩ := s.mem _ _ h
  cases mr with
  | lst rv => exact ⟨_, hu, rv⟩
theorem items_of {v : V} {d : Da} (s : Stt K F W M H) (r : RD K W H v d) {k : List Da → Prop} (h : itemsK d M k) : ∃ a vs ds, v = .ref a ∧ (SqL K H a vs ∨ SqT K H a vs) ∧ RDs K W H vs ds ∧ k ds := by
  cases r with
  | lst hs rv => exact ⟨_, _, _, rfl, .inl hs.sq, rv, h⟩
  | tup hs rv => exact ⟨_, _, _, rfl, .inr hs.sq, rv, h⟩
  | ref p =>
    obtain ⟨xs, hm, h⟩ := h
    obtain ⟨vs, hv, rv⟩ := s.list hm
    exact ⟨_, _, _, rfl, .inl (SqL.of hv), rv, h⟩
  | _ => exact h.elim
end
section
variable {X : Cx} {a b c e : Expr} {es rest : List Expr} {fa fb fc f : DTE} {ft fu : DTT} {fs : DTA} {pos p : Pos}
def gNil : DTA := fun _ M Q => Q [] M
def gCons (fa : DTE) (fs : DTA) : DTA := fun δ M Q => fa δ M fun x M1 => fs δ M1 fun xs M2 => Q (x :: xs) M2
def gStar (fa : DTE) (fs : DTA) : DTA := fun δ M Q => fa δ M fun x M1 => itemsK x M1 fun ys => fs δ M1 fun xs M2 => Q (ys ++ xs) M2
theorem d_nil : DA X [] gNil := pa_imp pa_nil fun σ H Q ⟨δ, F, W, M, Qd, ev, s, h, k⟩ => k.now s .nil h
theorem d_cons (ha : DE X e f) (hr : DA X es fs) (hs : starEach (e :: es) X.env = (false, eval e X.env) :: starEach es X.env := by rfl) : DA X (e :: es) (gCons f fs) :=
  pa_imp (pa_cons ha hr hs) fun σ H Q ⟨δ, F, W, M, Qd, ev, s, h, k⟩ => ⟨δ, F, W, M, _, ev, s, h, fun v H1 W1 d M1 g1 s1 r1 q1 => ⟨δ, F, W1, M1, _, ev.mono g1, s1, q1, fun vs H2 W2 ds M2 g2 s2 r2 q2 =>
    (k.mono (g1.trans g2)).now s2 (.cons (r1.mono g2) r2) q2⟩⟩
theorem d_star (ha : DE X e f) (hr : DA X es fs) (hs : starEach (.Starred e p :: es) X.env = (true, eval e X.env) :: starEach es X.env := by rfl) : DA X (.Starred e p :: es) (gStar f fs) :=
  pa_imp (StX.pa_star ha hr hs) fun σ H Q ⟨δ, F, W, M, Qd, ev, s, h, k⟩ => ⟨δ, F, W, M, _, ev, s, h, fun v H1 W1 d M1 g1 s1 r1 q1 => by
    obtain ⟨a, vs, ds, rfl, hs, rv, q⟩ := items_of s1 r1 q1
    exact ⟨a, vs, rfl, hs.symm, δ, F, W1, M1, _, ev.mono g1, s1, q, fun ws H2 W2 es M2 g2 s2 r2 q2 => (k.mono (g1.trans g2)).now s2 ((rv.mono g2).append r2) q2⟩⟩
def gTup (fs : DTA) : DTE := fun δ M Q => fs δ M fun xs M1 => Sz xs.length ∧ Q (.tup xs) M1
def gLst (fs : DTA) : DTE := fun δ M Q => fs δ M fun xs M1 => Sz xs.length ∧ Q (.lst xs) M1
def gLstM (fs : DTA) : DTE := fun δ M Q => fs δ M fun xs M1 => Sz xs.length ∧ ∀ p, M1 p = none → Q (.ref p) (mput M1 p (.lst xs))
theorem d_tup {x1} (h : DA X es fs) : DE X (.Tuple es x1 pos) (gTup fs) := imp (pe_tupF h) fun σ H Q ⟨δ, F, W, M, Qd, ev, s, h, k⟩ => ⟨δ, F, W, M, _, ev, s, h, fun vs H1 W1 ds M1 g1 s1 r1 q1 =>
  ⟨by rw [RDs.length r1]; exact q1.1.ok, fun p hp o ho => (k.mono g1).newT s1 hp r1 ho q1.2⟩⟩
theorem d_lst (h : DA X es fs) : DE X (.List es pos) (gLst fs) := imp (pe_lst h) fun σ H Q ⟨δ, F, W, M, Qd, ev, s, h, k⟩ => ⟨δ, F, W, M, _, ev, s, h, fun vs H1 W1 ds M1 g1 s1 r1 q1 =>
  ⟨by rw [RDs.length r1]; exact q1.1.ok, fun p hp => (k.mono g1).newL s1 hp r1 q1.2⟩⟩
theorem d_lstM (h : DA X es fs) : DE X (.List es pos) (gLstM fs) := imp (pe_lst h) fun σ H Q ⟨δ, F, W, M, Qd, ev, s, h, k⟩ => ⟨δ, F, W, M, _, ev, s, h, fun vs H1 W1 ds M1 g1 s1 r1 q1 =>
  ⟨by rw [RDs.length r1]; exact q1.1.ok, fun p hp => (k.mono g1).newM s1 hp r1 q1.2⟩⟩
/-- a row of the memory that changes no more -/
def gStl (f : DTE) : DTE := fun δ M Q => f δ M fun x M1 => match x with
  | .ref p => ∃ xs, M1 p = some (.lst xs) ∧ Q (.lst xs) (mdel M1 p)
  | x => Q x M1
theorem d_stl (h : DE X e f) : DE X e (gStl f) := imp h fun σ H Q ⟨δ, F, W, M, Qd, ev, s, h, k⟩ => ⟨δ, F, W, M, _, ev, s, h, fun v H1 W1 d M1 g1 s1 r1 q1 => by
  cases r1 with
  | ref p =>
    obtain ⟨xs, hm, q⟩ := q1
    obtain ⟨s2, g2⟩ := s1.settle hm
    obtain ⟨vs, hv, rv⟩ := s1.list hm
    exact (k.mono (g1.trans g2)).now s2 (.lst (.inl ⟨.inl rfl, .inl hv⟩) (rv.mono g2)) q
  | non => exact (k.mono g1).now s1 .non q1
  | bl b => exact (k.mono g1).now s1 (.bl b) q1
  | int b => exact (k.mono g1).now s1 (.int b) q1
  | str b => exact (k.mono g1).now s1 (.str b) q1
  | ty b => exact (k.mono g1).now s1 (.ty b) q1
  | lst a b => exact (k.mono g1).now s1 (.lst a b) q1
  | tup a b => exact (k.mono g1).now s1 (.tup a b) q1
  | obj a b c => exact (k.mono g1).now s1 (.obj a b c) q1
  | dct a b c => exact (k.mono g1).now s1 (.dct a b c) q1
  | exn a b c => exact (k.mono g1).now s1 (.exn a b c) q1⟩
theorem atI_rel {K : PySem.W.Frag} {W : Addr → Prop} {H : Hp} {vs : List V} {ds : List Da} {i : Int} {d : Da} (r : RDs K W H vs ds) (h : atI ds i = some d) : ∃ v, atI vs i = some v ∧ RD K W H v d := by
  unfold atI at h ⊢
  rw [r.length]
  cases e : ixN ds.length i with
  | none => rw [e] at h; cases h
  | some j => rw [e] at h; exact r.get h
def hIx : D2 := fun x y M Q => match x, y with
  | .str z, .int i => Sz z.length ∧ ∃ c, atI z.cps.toList i = some c ∧ Q (.str ⟨#[c]⟩) M
  | .lst xs, .int i => ∃ v, atI xs i = some v ∧ Q v M
  | .tup xs, .int i => ∃ v, atI xs i = some v ∧ Q v M
  | .ref p, .int i => ∃ xs v, M p = some (.lst xs) ∧ atI xs i = some v ∧ Q v M
  | _, _ => False
theorem d_ix (ha : DE X a fa) (hb : DE X b fb) (hs : PlainIx b := by exact fun _ _ => rfl) : DE X (.Subscript a b pos) (gOp hIx fa fb) := imp (ix ha hb hs) fun σ H Q h => by
  obtain ⟨δ, F, W, M, Qd, ev, s, h, k⟩ := h
  refine ⟨δ, F, W, M, _, ev, s, h, fun v H1 W1 d M1 g1 s1 r1 q1 => ⟨δ, F, W1, M1, _, ev.mono g1, s1, q1, fun u H2 W2 e M2 g2 s2 r2 q2 => ?_⟩⟩
  have k2 := k.mono (g1.trans g2)
  have r1' := r1.mono g2
  unfold hIx at q2
  split at q2
  · cases r1'; cases r2
    obtain ⟨hz, c, hc, q⟩ := q2
    exact ⟨hz.ok, c, hc, k2.now s2 (.str _) q⟩
  · cases r1' with
    | lst hs rv =>
      cases r2
      obtain ⟨x, hx, q⟩ := q2
      obtain ⟨y, hy, ry⟩ := atI_rel rv hx
      exact ⟨_, y, .inl hs.sq, hy, k2.now s2 ry q⟩
  · cases r1' with
    | tup hs rv =>
      cases r2
      obtain ⟨x, hx, q⟩ := q2
      obtain ⟨y, hy, ry⟩ := atI_rel rv hx
      exact ⟨_, y, .inr hs.sq, hy, k2.now s2 ry q⟩
  · cases r1' with
    | ref p =>
      cases r2
      obtain ⟨xs, x, hm, hx, q⟩ := q2
      obtain ⟨vs, hv, rv⟩ := s2.list hm
      obtain ⟨y, hy, ry⟩ := atI_rel rv hx
      exact ⟨_, y, .inl (SqL.of hv), hy, k2.now s2 ry q⟩
  · exact q2.elim
def cutD {α : Type} (xs : List α) (lo hi : Option Int) : List α := (xs.drop (HT.sIx xs.length 0 lo)).take (HT.sIx xs.length xs.length hi - HT.sIx xs.length 0 lo)
theorem cut_rel {K : PySem.W.Frag} {W : Addr → Prop} {H : Hp} {vs : List V} {ds : List Da} (r : RDs K W H vs ds) (lo hi : Option Int) : RDs K W H (cutV vs lo hi) (cutD ds lo hi) := by
  unfold cutV cutD
  rw [r.length]
  exact (r.drop _).take _
abbrev DTO := DR (Option Int)
def rO : (Addr → Prop) → Hp → Option Int → Option Int → Prop := fun _ _ a b => a = b
def DP (X : Cx) (e : Option Expr) (f : DTO) : Prop := PO X e (Li rO X.K f)
theorem po_imp {e : Option Expr} {t t' : TO} (h : PO X e t) (f : ∀ σ H Q, t' σ H Q → t σ H Q) : PO X e t' := by
  obtain ⟨h⟩ := h
  exact ⟨fun pins s σ H Q I q => h pins s σ H Q I (f σ H Q q)⟩
def gNoP : DTO := fun _ M Q => Q none M
def gPart (f : DTE) : DTO := fun δ M Q => f δ M fun x M1 => match x with
  | .int i => Q (some i) M1
  | _ => False
theorem d_pnone : DP X none gNoP := po_imp po_none fun σ H Q ⟨δ, F, W, M, Qd, ev, s, h, k⟩ => k.now s rfl h
theorem d_psome (h : DE X e f) : DP X (some e) (gPart f) := po_imp (posome h) fun σ H Q ⟨δ, F, W, M, Qd, ev, s, h, k⟩ => ⟨δ, F, W, M, _, ev, s, h, fun v H1 W1 d M1 g1 s1 r1 q1 => by
  cases r1 <;> first | exact q1.elim | exact (k.mono g1).now s1 rfl q1⟩
def hSl (x : Da) (lo hi : Option Int) (M : Mm) (Q : DK) : Prop := match x with
  | .str z => Sz z.length ∧ Q (.str (cutS z lo hi)) M
  | .lst xs => Q (.lst (cutD xs lo hi)) M
  | .tup xs => Q (.tup (cutD xs lo hi)) M
  | .ref p => ∃ xs, M p = some (.lst xs) ∧ Q (.lst (cutD xs lo hi)) M
  | _ => False
def gSl (f : DTE) (l h : DTO) : DTE := fun δ M Q => f δ M fun x M1 => l δ M1 fun lo M2 => h δ M2 fun hi M3 => hSl x lo hi M3 Q
theorem cutD_whole {α : Type} {xs : List α} {lo hi : Option Int} (h : HT.sIx xs.length 0 lo = 0 ∧ HT.sIx xs.length xs.length hi = xs.length) : cutD xs lo hi = xs := by
  unfold cutD
  rw [h.1, h.2]
  simp
def fSlA (K : PySem.W.Frag) : V → Option Int → Option Int → Hp → VK → Prop := fun x lo hi H Q => match x with
  | .str z => z.length ≤ sizeLine ∧ Q (.str (cutS z lo hi)) H
  | .ref p => rSlL K (.ref p) lo hi H Q ∨ rSlAF K (.ref p) lo hi H Q
  | _ => False
theorem sl_anyA : SlR X (fSlA X.K) := slCases fun x lo hi H Q h => by
  unfold fSlA at h; split at h
  · exact ⟨_, sl_str, _, rfl, h.1, h.2⟩
  · rcases h with h | h
    · exact ⟨_, sl_list, h⟩
    · exact ⟨_, sl_tupAF, h⟩
  · exact h.elim
theorem d_sl {lo hi : Option Expr} {l h : DTO} {p2 : Pos} (he : DE X e f) (hl : DP X lo l) (hh : DP X hi h) : DE X (.Subscript e (.Slice lo hi none p2) pos) (gSl f l h) := imp (pe_slice sl_anyA he hl hh) fun σ H Q hq => by
  obtain ⟨δ, F, W, M, Qd, ev, s, hq, k⟩ := hq
  refine ⟨δ, F, W, M, _, ev, s, hq, fun v H1 W1 d M1 g1 s1 r1 q1 => ⟨δ, F, W1, M1, _, ev.mono g1, s1, q1, fun a1 H2 W2 b1 M2 g2 s2 e2 q2 => ⟨δ, F, W2, M2, _, ev.mono (g1.trans g2), s2, q2, fun a2 H3 W3 b2 M3 g3 s3 e3 q3 => ?_⟩⟩⟩
  cases e2
  cases e3
  have k3 := k.mono (g1.trans (g2.trans g3))
  have r3 := r1.mono (g2.trans g3)
  unfold hSl at q3
  split at q3
  · cases r3
    exact ⟨q3.1.ok, k3.now s3 (.str _) q3.2⟩
  · cases r3 with
    | lst hs rv => exact .inl ⟨_, _, rfl, hs.sq, fun p hp => k3.newL s3 hp (cut_rel rv _ _) q3⟩
  · cases r3 with
    | tup hs rv =>
      refine .inr ⟨_, _, rfl, hs.sq, fun hw => ?_, fun _ p hp o ho => k3.newT s3 hp (cut_rel rv _ _) ho q3⟩
      rw [cutD_whole (by rw [← rv.length]; exact hw)] at q3
      exact k3.now s3 (.tup hs rv) q3
  · cases r3 with
    | ref p =>
      obtain ⟨xs, hm, q⟩ := q3
      obtain ⟨vs, hv, rv⟩ := s3.list hm
      exact .inl ⟨_, _, rfl, SqL.of hv, fun p hp => k3.newL s3 hp (cut_rel rv _ _) q⟩
  · exact q3.elim
end
end U
set_option Elab.async false
set_option linter.all false
set_option maxRecDepth 100000
set_option maxHeartbeats 2000000
namespace U
open PySem PySem.Spec PyProof.Rows L2
abbrev DC := List Da → Mm → DK → Prop
def L2c (K : PySem.W.Frag) (g : DC) : List V → Hp → VK → Prop := fun xs H Q => ∃ F W M ds Qd, RDs K W H xs ds ∧ Stt K F W M H ∧ g ds M Qd ∧ Kt (rE K) K F W H Qd Q
def gBi (g : DC) (fs : DTA) : DTE := fun δ M Q => fs δ M fun ds M1 => g ds M1 Q
def CD (X : Cx) (f : Value) (g : DC) : Prop := CallR X f (L2c X.K g)
section
variable {X : Cx} {a b c e : Expr} {es rest : List Expr} {fa fb fc f : DTE} {ft fu : DTT} {fs : DTA} {pos p : Pos} {g : DC}
theorem li_cb {K : PySem.W.Frag} {σ : L2.St} {H : Hp} {Q : VK} (h : Li (rE K) K (gBi g fs) σ H Q) : tCB (L2c K g) (Li (rA K) K fs) σ H Q := by
  obtain ⟨δ, F, W, M, Qd, ev, s, h, k⟩ := h
  exact ⟨δ, F, W, M, _, ev, s, h, fun vs H1 W1 ds M1 g1 s1 r1 q1 => ⟨F, W1, M1, ds, Qd, r1, s1, q1, k.mono g1⟩⟩
theorem d_b {x : Str} {id : String} (m : X.mg x = none) (hv : bootBuiltins x = some (.builtin id)) (hc : CD X (.builtin id) g) (ha : DA X (e :: es) fs) (hg : Gl X x := by rfl) (hn : x ≠ "__name__" := by decide) (hdb : (x == ("__debug__" : Str)) = false := by decide)
    (he : starEach (e :: es) X.env = (false, eval e X.env) :: starEach es X.env := by rfl) (hpl : (backTo pos (starEach es X.env)).any (·.1) = false := by rfl) : DE X (.Call (.Name x p) (e :: es) [] pos) (gBi g fs) :=
  imp (pe_callB hc hg m hv ha hn hdb he hpl) fun _ _ _ h => li_cb h
theorem d_t {x : Str} {T : String} (m : X.mg x = none) (hv : bootBuiltins x = some (.type T)) (hc : CD X (.type T) g) (ha : DA X (e :: es) fs) (hg : Gl X x := by rfl) (hn : x ≠ "__name__" := by decide) (hdb : (x == ("__debug__" : Str)) = false := by decide)
    (he : starEach (e :: es) X.env = (false, eval e X.env) :: starEach es X.env := by rfl) (hpl : (backTo pos (starEach es X.env)).any (·.1) = false := by rfl) : DE X (.Call (.Name x p) (e :: es) [] pos) (gBi g fs) :=
  imp (pe_callTy hc hg m hv ha hn hdb he hpl) fun _ _ _ h => li_cb h
theorem cd_imp {f : Value} (h : ∀ xs H Q, L2c X.K g xs H Q → ∃ r : List V → Hp → VK → Prop, CallR X f r ∧ r xs H Q) : CD X f g := callCases h
theorem RDs.one {K : PySem.W.Frag} {W : Addr → Prop} {H : Hp} {vs : List V} {d : Da} (r : RDs K W H vs [d]) : ∃ v, vs = [v] ∧ RD K W H v d := by
  cases r with
  | cons h k => cases k; exact ⟨_, rfl, h⟩
theorem RDs.two {K : PySem.W.Frag} {W : Addr → Prop} {H : Hp} {vs : List V} {d e : Da} (r : RDs K W H vs [d, e]) : ∃ v u, vs = [v, u] ∧ RD K W H v d ∧ RD K W H u e := by
  cases r with
  | cons h k =>
    obtain ⟨u, rfl, q⟩ := k.one
    exact ⟨_, _, rfl, h, q⟩
def kLen : DC := fun xs M Q => match xs with
  | [.str y] => Sz y.length ∧ Q (.int y.length) M
  | [.lst xs] => Q (.int xs.length) M
  | [.tup xs] => Q (.int xs.length) M
  | [.ref p] => ∃ xs, M p = some (.lst xs) ∧ Q (.int xs.length) M
  | _ => False
theorem c_dlen : CD X (.builtin "len") kLen := cd_imp fun vs H Q ⟨F, W, M, ds, Qd, r, s, h, k⟩ => by
  refine ⟨_, c_len, ?_⟩
  unfold kLen at h
  split at h
  · obtain ⟨v, rfl, r1⟩ := r.one; cases r1
    exact ⟨h.1.ok, k.now s (.int _) h.2⟩
  · obtain ⟨v, rfl, r1⟩ := r.one
    cases r1 with
    | lst hs rv => exact ⟨_, .inl ⟨_, hs.sq, rfl⟩, by rw [rv.length]; exact k.now s (.int _) h⟩
  · obtain ⟨v, rfl, r1⟩ := r.one
    cases r1 with
    | tup hs rv => exact ⟨_, .inr ⟨_, hs.sq, rfl⟩, by rw [rv.length]; exact k.now s (.int _) h⟩
  · obtain ⟨v, rfl, r1⟩ := r.one
    cases r1 with
    | ref p =>
      obtain ⟨xs, hm, q⟩ := h
      obtain ⟨vs, hv, rv⟩ := s.list hm
      exact ⟨_, .inl ⟨_, SqL.of hv, rfl⟩, by rw [rv.length]; exact k.now s (.int _) q⟩
  · exact h.elim
def kAbs : DC := fun xs M Q => match xs with
  | [.int i] => Q (.int (if i < 0 then -i else i)) M
  | _ => False
theorem c_dabs : CD X (.builtin "abs") kAbs := cd_imp fun vs H Q ⟨F, W, M, ds, Qd, r, s, h, k⟩ => by
  refine ⟨_, c_abs, ?_⟩
  unfold kAbs at h
  split at h
  · obtain ⟨v, rfl, r1⟩ := r.one; cases r1; exact k.now s (.int _) h
  · exact h.elim
def kMax : DC := fun xs M Q => match xs with
  | [.int i, .int j] => Q (.int (if j > i then j else i)) M
  | _ => False
theorem c_dmax (hc : X.calm = true) : CD X (.builtin "max") kMax := cd_imp fun vs H Q ⟨F, W, M, ds, Qd, r, s, h, k⟩ => by
  refine ⟨_, c_max hc, ?_⟩
  unfold kMax at h
  split at h
  · obtain ⟨v, u, rfl, r1, r2⟩ := r.two; cases r1; cases r2; exact k.now s (.int _) h
  · exact h.elim
def kMin : DC := fun xs M Q => match xs with
  | [.int i, .int j] => Q (.int (if j < i then j else i)) M
  | _ => False
theorem c_dmin (hc : X.calm = true) : CD X (.builtin "min") kMin := cd_imp fun vs H Q ⟨F, W, M, ds, Qd, r, s, h, k⟩ => by
  refine ⟨_, c_min hc, ?_⟩
  unfold kMin at h
  split at h
  · obtain ⟨v, u, rfl, r1, r2⟩ := r.two; cases r1; cases r2; exact k.now s (.int _) h
  · exact h.elim
def kInt : DC := fun xs M Q => match xs with
  | [.int i] => Q (.int i) M
  | [.bl b] => Q (.int (if b then 1 else 0)) M
  | _ => False
theorem c_dint : CD X (.type "int") kInt := cd_imp fun vs H Q ⟨F, W, M, ds, Qd, r, s, h, k⟩ => by
  refine ⟨_, c_int, ?_⟩
  unfold kInt at h
  split at h
  · obtain ⟨v, rfl, r1⟩ := r.one; cases r1; exact k.now s (.int _) h
  · obtain ⟨v, rfl, r1⟩ := r.one; cases r1; exact k.now s (.int _) h
  · exact h.elim
/-- ints, bools, texts in a row -/
def asInts : List Da → Option (List Int)
  | [] => some []
  | .int i :: r => (asInts r).map (i :: ·)
  | _ :: _ => none
def asBls : List Da → Option (List Bool)
  | [] => some []
  | .bl i :: r => (asBls r).map (i :: ·)
  | _ :: _ => none
theorem asInts_map : ∀ ns : List Int, asInts (ns.map Da.int) = some ns
  | [] => rfl
  | n :: ns => by show (asInts (ns.map Da.int)).map _ = _; rw [asInts_map ns]; rfl
theorem asBls_map : ∀ ns : List Bool, asBls (ns.map Da.bl) = some ns
  | [] => rfl
  | n :: ns => by show (asBls (ns.map Da.bl)).map _ = _; rw [asBls_map ns]; rfl
theorem asInts_of : ∀ {ds : List Da} {ns : List Int}, asInts ds = some ns → ds = ns.map Da.int
  | [], ns, h => by cases h; rfl
  | d :: ds, ns, h => by
    cases d with
    | int i =>
      cases e : asInts ds with
      | none => rw [asInts, e] at h; cases h
      | some ms => rw [asInts, e] at h; cases h; rw [asInts_of e]; rfl
    | _ => cases (show none = some ns from h)
theorem asBls_of : ∀ {ds : List Da} {ns : List Bool}, asBls ds = some ns → ds = ns.map Da.bl
  | [], ns, h => by cases h; rfl
  | d :: ds, ns, h => by
    cases d with
    | bl i =>
      cases e : asBls ds with
      | none => rw [asBls, e] at h; cases h
      | some ms => rw [asBls, e] at h; cases h; rw [asBls_of e]; rfl
    | _ => cases (show none = some ns from h)
def kAll : DC := fun xs M Q => match xs with
  | [.lst ds] => ∃ bs, asBls ds = some bs ∧ Q (.bl (bs.all id)) M
  | _ => False
theorem c_dall (hc : X.calm = true) : CD X (.builtin "all") kAll := cd_imp fun vs H Q ⟨F, W, M, ds, Qd, r, s, h, k⟩ => by
  refine ⟨_, cr_all hc, ?_⟩
  unfold kAll at h
  split at h
  · obtain ⟨v, rfl, r1⟩ := r.one
    obtain ⟨bs, hb, q⟩ := h
    cases r1 with
    | lst hs rv => rw [asBls_of hb] at rv; rw [rv.bls] at hs; exact ⟨_, bs, rfl, hs.sq, k.now s (.bl _) q⟩
  · exact h.elim
def kAny : DC := fun xs M Q => match xs with
  | [.lst ds] => ∃ bs, asBls ds = some bs ∧ Q (.bl (bs.any id)) M
  | _ => False
theorem c_dany (hc : X.calm = true) : CD X (.builtin "any") kAny := cd_imp fun vs H Q ⟨F, W, M, ds, Qd, r, s, h, k⟩ => by
  refine ⟨_, cr_any hc, ?_⟩
  unfold kAny at h
  split at h
  · obtain ⟨v, rfl, r1⟩ := r.one
    obtain ⟨bs, hb, q⟩ := h
    cases r1 with
    | lst hs rv => rw [asBls_of hb] at rv; rw [rv.bls] at hs; exact ⟨_, bs, rfl, hs.sq, k.now s (.bl _) q⟩
  · exact h.elim
def kSum : DC := fun xs M Q => match xs with
  | [.lst ds] => ∃ ns, asInts ds = some ns ∧ Q (.int ns.sum) M
  | _ => False
theorem c_dsum (hc : X.calm = true) : CD X (.builtin "sum") kSum := cd_imp fun vs H Q ⟨F, W, M, ds, Qd, r, s, h, k⟩ => by
  refine ⟨_, cr_sum hc, ?_⟩
  unfold kSum at h
  split at h
  · obtain ⟨v, rfl, r1⟩ := r.one
    obtain ⟨bs, hb, q⟩ := h
    cases r1 with
    | lst hs rv => rw [asInts_of hb] at rv; rw [rv.ints] at hs; exact ⟨_, bs, rfl, hs.sq, k.now s (.int _) q⟩
  · exact h.elim
def kTuple : DC := fun xs M Q => match xs with
  | [x] => itemsK x M fun ds => Q (.tup ds) M
  | _ => False
theorem c_dtuple : CD X (.type "tuple") kTuple := cd_imp fun vs H Q ⟨F, W, M, ds, Qd, r, s, h, k⟩ => by
  refine ⟨_, call_tuple_ofF, ?_⟩
  unfold kTuple at h
  split at h
  · obtain ⟨v, rfl, r1⟩ := r.one
    cases r1 with
    | lst hs rv => exact ⟨_, _, rfl, .inl ⟨hs.sq, fun l hl o ho => k.newT s hl rv ho h⟩⟩
    | tup hs rv => exact ⟨_, _, rfl, .inr ⟨hs.sq, k.now s (.tup hs rv) h⟩⟩
    | ref p =>
      obtain ⟨xs, hm, q⟩ := h
      obtain ⟨vs, hv, rv⟩ := s.list hm
      exact ⟨_, _, rfl, .inl ⟨SqL.of hv, fun l hl o ho => k.newT s hl rv ho q⟩⟩
    | _ => exact h.elim
  · exact h.elim
def kList : DC := fun xs M Q => match xs with
  | [x] => itemsK x M fun ds => Q (.lst ds) M
  | _ => False
theorem c_dlist : CD X (.type "list") kList := cd_imp fun vs H Q ⟨F, W, M, ds, Qd, r, s, h, k⟩ => by
  refine ⟨_, call_list_of, ?_⟩
  unfold kList at h
  split at h
  · obtain ⟨v, rfl, r1⟩ := r.one
    obtain ⟨a, vs, ds, rfl, hs, rv, q⟩ := items_of s r1 h
    exact ⟨a, vs, rfl, hs, fun l hl => k.newL s hl rv q⟩
  · exact h.elim
/-- x.append(y), x.pop(i) .. -/
def hAppend (x : Da) (xs : List Da) (M : Mm) (Q : DK) : Prop := match x, xs with
  | .ref p, [y] => ∃ ds, M p = some (.lst ds) ∧ Sz ds.length ∧ Q .non (mput M p (.lst (ds ++ [y])))
  | _, _ => False
def hExtend (x : Da) (xs : List Da) (M : Mm) (Q : DK) : Prop := match x, xs with
  | .ref p, [.ref b] => ∃ ds es, M p = some (.lst ds) ∧ M b = some (.lst es) ∧ Sz (ds.length + es.length) ∧ Q .non (mput (mdel M b) p (.lst (ds ++ es)))
  | .ref p, [.lst es] => ∃ ds, M p = some (.lst ds) ∧ Sz (ds.length + es.length) ∧ Q .non (mput M p (.lst (ds ++ es)))
  | _, _ => False
/-- extend by any list -/
theorem list_extendW (l : Addr) (items : Array Value) (n : Nat) (b : Addr) (items2 : Array Value) (n2 : Nat) (dd2 : Option Addr) (sl2 : Array (Option Value)) (hc0 : ¬(!items.isEmpty && Builtin.List.listTooLong (items.size + items2.size)) = true) (hc1 : items.size ≤ sizeLine) (hs2 : items.size + items2.size ≤ sizeLine + 1) :
    Meets (Builtin.«list.extend» ⟨[.ref l, .ref b], []⟩) (fun _ R s => s.heap.get? l = some { cls := .type "list", dict := none, data := .seq items n, slots := #[] } ∧ s.heap.get? b = some { cls := .type "list", dict := dd2, data := .seq items2 n2, slots := sl2 } ∧ R (.ok (.ret Value.none)) { s with heap := s.heap.update l (Obj.mapSeq fun x => x ++ items2), toks := s.toks }) :=
  .of_wp fun prog w A R s h => by
    obtain ⟨hp, g, d, tk, os⟩ := s; obtain ⟨hl, hb, h⟩ := h; have f1 := AutoSeq1.idx_int; have f2 := AutoSeq1.sub_tuple_tuple; have f3 := AutoSeq1.sub_list_list; have f4 := AutoSeq1.sub_tuple_list; have f5 := AutoSeq1.sub_list_tuple
    have hz' : (items ++ items2).size ≤ sizeLine + 1 := by rw [Array.size_append]; exact hs2
    wp_walk using (wpAny_updateSeq hl rfl (hz := hc1) (_hz' := hz')), wpAny_loadPart' hl, wpAny_loadPart' hb; exact ⟨_, rfl, h⟩
def rExtendL (K : PySem.W.Frag) : V → List V → Hp → VK → Prop := fun x vs H Q => ∃ l b xs zs, x = .ref l ∧ vs = [.ref b] ∧ H l = some (.lst xs) ∧ SqL K H b zs ∧ xs.length + zs.length ≤ sizeLine ∧ Q .non (upd H l (.lst (xs ++ zs)))
theorem mt_extendL : MtM X "list.extend" (rExtendL X.K) := by
  intro pins s σ H x vs v us Q I rx rv h
  obtain ⟨l, b, xs, zs, rfl, rfl, hH, hB, hz, q⟩ := h
  cases rx
  obtain ⟨u, rfl, ru⟩ := rv.one
  cases ru
  obtain ⟨z, its, n, r, hl, e⟩ := I.lstM hH
  obtain ⟨its2, r2, ⟨⟨cls2, dd2, data2, sl2⟩, n2, e2, hc2, _, hd2⟩, _⟩ := I.list hB
  simp only at hc2 hd2
  subst hc2 hd2
  have hl2 := r2.length
  have hsz : its.toArray.size + its2.toArray.size ≤ sizeLine := by rw [List.size_toArray, List.size_toArray]; omega
  have hlong : ¬ (!its.toArray.isEmpty && Builtin.List.listTooLong (its.toArray.size + its2.toArray.size)) = true := by
    rw [notLongL hsz, Bool.and_false]
    exact Bool.false_ne_true
  refine call_meets F.slot_list_extend ⟨_, e, rfl⟩ F.entry_list_extend (F.args_list_extend_2 _ _)
    (list_extendW l its.toArray n b its2.toArray n2 _ sl2 hlong (by rw [List.size_toArray]; omega) (by omega)) ⟨e, e2, ?_⟩
  refine ⟨.non, _, I.lset (its' := its ++ its2) hH e (by simp) (r.append r2) ?_, rfl, q⟩
  rw [List.length_append]
  omega
def gMe (g : Da → List Da → Mm → DK → Prop) (f : DTE) (fs : DTA) : DTE := fun δ M Q => f δ M fun x M1 => (∃ p ds, x = .ref p ∧ M1 p = some (.lst ds)) ∧ fs δ M1 fun xs M2 => g x xs M2 Q
def L2m (K : PySem.W.Frag) (g : Da → List Da → Mm → DK → Prop) : V → List V → Hp → VK → Prop := fun x xs H Q => ∃ F W M d ds Qd, RD K W H x d ∧ RDs K W H xs ds ∧ Stt K F W M H ∧ g d ds M Qd ∧ Kt (rE K) K F W H Qd Q
theorem mtImp {id : String} {r r' : V → List V → Hp → VK → Prop} (h : MtR X id r) (f : ∀ x xs H Q, r' x xs H Q → r x xs H Q) : MtR X id r' := fun pins s σ H x xs v us Q I rx rv q => h pins s σ H x xs v us Q I rx rv (f x xs H Q q)
theorem Kt.putL {K : PySem.W.Frag} {F W : Addr → Prop} {M : Mm} {H : Hp} {Qd : DK} {Q : VK} {q : Addr} {vs : List V} {ds : List Da} {o : MO} {v : V} {d : Da} (k : Kt (rE K) K F W H Qd Q) (s : Stt K F W M H) (h : M q = some o) (r : RDs K W H vs ds) (rv : RD K W H v d) (z : Qd d (mput M q (.lst ds))) : Q v (upd H q (.lst vs)) :=
  (k.mono (grow_put s h)).now (s.put h (.lst r)) (rv.mono (grow_put s h)) z
theorem mt_dappend (h : MtR X "list.append" rAppend) : MtR X "list.append" (L2m X.K hAppend) := mtImp h fun x xs H Q ⟨F, W, M, d, ds, Qd, r, rs, s, q, k⟩ => by
  unfold hAppend at q
  split at q
  · cases r
    obtain ⟨y, rfl, ry⟩ := rs.one
    obtain ⟨es, hm, hz, q⟩ := q
    obtain ⟨vs, hv, rv⟩ := s.list hm
    exact ⟨_, vs, y, rfl, rfl, hv, by rw [rv.length]; have := hz.le; rw [sizeLine_eq]; omega, k.putL s hm (rv.append (.cons ry .nil)) .non q⟩
  · exact q.elim
theorem mt_dextend (h : MtR X "list.extend" (rExtendL X.K)) : MtR X "list.extend" (L2m X.K hExtend) := mtImp h fun x xs H Q ⟨F, W, M, d, ds, Qd, r, rs, s, q, k⟩ => by
  unfold hExtend at q
  split at q
  · cases r
    rename_i p b
    obtain ⟨y, rfl, ry⟩ := rs.one
    cases ry
    obtain ⟨ds, es, hm, hb, hz, q⟩ := q
    obtain ⟨vs, hv, rv⟩ := s.list hm
    obtain ⟨ws, hw, rw'⟩ := s.list hb
    refine ⟨_, _, vs, ws, rfl, rfl, hv, SqL.of hw, by rw [rv.length, rw'.length]; exact hz.ok, ?_⟩
    have s2 := s.put hm (o := .lst (vs ++ ws)) (.lst (rv.append rw'))
    refine (k.mono (grow_put s hm)).now (s2.forget fun a o e => ?_) .non q
    unfold mput mdel at e
    unfold mput
    split at e
    · rename_i ea; rw [if_pos ea]; exact e
    · rename_i ea
      rw [if_neg ea]
      split at e
      · cases e
      · exact e
  · cases r
    obtain ⟨y, rfl, ry⟩ := rs.one
    cases ry with
    | lst hs rw' =>
      obtain ⟨ds, hm, hz, q⟩ := q
      obtain ⟨vs, hv, rv⟩ := s.list hm
      refine ⟨_, _, vs, _, rfl, rfl, hv, hs.sq, by rw [rv.length, rw'.length]; exact hz.ok, ?_⟩
      exact k.putL s hm (rv.append rw') .non q
  · exact q.elim
variable {o : Expr} {apos cpos : Pos} {name : Str} {id : String} {gm : Da → List Da → Mm → DK → Prop}
theorem li_me {K : PySem.W.Frag} {σ : L2.St} {H : Hp} {Q : VK} (h : Li (rE K) K (gMe gm f fs) σ H Q) : tBM K "list" (L2m K gm) (Li (rE K) K f) (Li (rA K) K fs) σ H Q := by
  obtain ⟨δ, F, W, M, Qd, ev, s, h, k⟩ := h
  refine ⟨δ, F, W, M, _, ev, s, h, fun v H1 W1 d M1 g1 s1 r1 q1 => ?_⟩
  obtain ⟨⟨p, ds, rfl, hm⟩, q1⟩ := q1
  cases r1
  obtain ⟨vs, hv, rv⟩ := s1.list hm
  exact ⟨.inl ⟨rfl, vs, SqL.of hv⟩, δ, F, W1, M1, _, ev.mono g1, s1, q1, fun us H2 W2 es M2 g2 s2 r2 q2 => ⟨F, W2, M2, _, es, Qd, .ref p, r2, s2, q2, k.mono (g1.trans g2)⟩⟩
theorem d_me (slot : Slot "list" name id) (hty : typeOf (.builtin id) = pure (.type "method_descriptor")) (hm : MtR X id (L2m X.K gm)) (ho : DE X o f) (ha : DA X (e :: es) fs)
    (hbase : attributeBase o name X.env (eval o X.env) = eval o X.env := by rfl)
    (hfew : ((backTo cpos (starEach (e :: es) X.env)).all (fun x => !x.1) && (backToKw cpos (keywordEach [] X.env)).all (fun x => x.1.isSome)
      && decide ((e :: es).length + ([] : List Keyword).length + (if ([] : List Keyword).isEmpty then 0 else 1) < 30)) = true := by rfl)
    (hline : (apos.endLine == cpos.line) = true := by rfl) (hs : starEach (e :: es) X.env = (false, eval e X.env) :: starEach es X.env := by rfl) (hplain : (backTo cpos (starEach es X.env)).any (·.1) = false := by rfl) :
    DE X (.Call (.Attribute o name apos) (e :: es) [] cpos) (gMe gm f fs) := imp (pe_bm PySem.F.plainAttrs_list slot hty hm ho ha hbase hfew hline hs hplain) fun _ _ _ h => li_me h
theorem d_append (ho : DE X o f) (ha : DA X (e :: es) fs)
    (hbase : attributeBase o "append" X.env (eval o X.env) = eval o X.env := by rfl)
    (hfew : ((backTo cpos (starEach (e :: es) X.env)).all (fun x => !x.1) && (backToKw cpos (keywordEach [] X.env)).all (fun x => x.1.isSome)
      && decide ((e :: es).length + ([] : List Keyword).length + (if ([] : List Keyword).isEmpty then 0 else 1) < 30)) = true := by rfl)
    (hline : (apos.endLine == cpos.line) = true := by rfl) (hs : starEach (e :: es) X.env = (false, eval e X.env) :: starEach es X.env := by rfl) (hplain : (backTo cpos (starEach es X.env)).any (·.1) = false := by rfl) :
    DE X (.Call (.Attribute o "append" apos) (e :: es) [] cpos) (gMe hAppend f fs) := d_me PySem.F.slot_list_append PySem.F.type_list_append (mt_dappend mt_append) ho ha hbase hfew hline hs hplain
theorem d_extend (ho : DE X o f) (ha : DA X (e :: es) fs)
    (hbase : attributeBase o "extend" X.env (eval o X.env) = eval o X.env := by rfl)
    (hfew : ((backTo cpos (starEach (e :: es) X.env)).all (fun x => !x.1) && (backToKw cpos (keywordEach [] X.env)).all (fun x => x.1.isSome)
      && decide ((e :: es).length + ([] : List Keyword).length + (if ([] : List Keyword).isEmpty then 0 else 1) < 30)) = true := by rfl)
    (hline : (apos.endLine == cpos.line) = true := by rfl) (hs : starEach (e :: es) X.env = (false, eval e X.env) :: starEach es X.env := by rfl) (hplain : (backTo cpos (starEach es X.env)).any (·.1) = false := by rfl) :
    DE X (.Call (.Attribute o "extend" apos) (e :: es) [] cpos) (gMe hExtend f fs) := d_me PySem.F.slot_list_extend PySem.F.type_list_extend (mt_dextend mt_extendL) ho ha hbase hfew hline hs hplain
end
/-- what the context takes of an exception -/
def EXm (X : Cx) : XK := fun cls d H => ∀ σ u s', XE X (fun c d' σ' H' => c = cls ∧ d' = d ∧ σ' = σ ∧ H' = H) u s' → X.xe u s'
theorem EXm.takes (X : Cx) : Takes X (fun cls d _ H => EXm X cls d H) := fun u s' ⟨a, B, sI, pins, σ, H, cls, d, e, I, nb, up, sky, na, os, ag, w⟩ =>
  w σ u s' ⟨a, B, sI, pins, σ, H, cls, d, e, I, nb, up, sky, na, os, ag, rfl, rfl, rfl, rfl⟩
theorem EXm.of {X : Cx} {W : WX} (tk : Takes X W) {cls : Value} {d : Option Addr} {H : Hp} (h : ∀ σ, σ.length = X.N.length → W cls d σ H) : EXm X cls d H := fun σ u s' ⟨a, B, sI, pins, σ', H', cls', d', e, I, nb, up, sky, na, os, ag, h1, h2, h3, h4⟩ => by
  subst h1 h2 h3 h4
  exact tk u s' ⟨a, B, sI, pins, σ', H', cls', d', e, I, nb, up, sky, na, os, ag, h _ I.len⟩
/-- an exception's own values -/
def XR (K : PySem.W.Frag) (W : Addr → Prop) (H : Hp) : Option Addr → List (Str × Da) → Prop
  | none, fs => fs = []
  | some a, fs => fs ≠ [] ∧ ∃ vs, W a ∧ H a = some (.xd vs) ∧ RF K W H vs fs
def KX (K : PySem.W.Frag) (F W : Addr → Prop) (H : Hp) (Ed : DX) (E : XK) : Prop :=
  ∀ cls d H' W' fs M', Grow F W H W' H' → Stt K F W' M' H' → XR K W' H' d fs → Ed cls fs M' → E cls d H'
theorem KX.mono {K : PySem.W.Frag} {F W W1 : Addr → Prop} {H H1 : Hp} {Ed : DX} {E : XK} (g : Grow F W H W1 H1) (k : KX K F W H Ed E) : KX K F W1 H1 Ed E :=
  fun c d H' W' fs M' g' => k c d H' W' fs M' (g.trans g')
structure DEnds where
  nx : De → Mm → Prop
  rt : DK
  bk : De → Mm → Prop := fun _ _ => False
  ct : De → Mm → Prop := fun _ _ => False
  ex : DX := fun _ _ _ => False
abbrev DTS := DEnds → De → Mm → Prop
def KE (K : PySem.W.Frag) (F W : Addr → Prop) (H : Hp) (Qd : De → Mm → Prop) (Q : L2.St → Hp → Prop) : Prop :=
  ∀ σ H' W' δ M', Grow F W H W' H' → Stt K F W' M' H' → EnvR K W' H' δ σ → Qd δ M' → Q σ H'
theorem KE.mono {K : PySem.W.Frag} {F W W1 : Addr → Prop} {H H1 : Hp} {Qd : De → Mm → Prop} {Q : L2.St → Hp → Prop} (g : Grow F W H W1 H1) (k : KE K F W H Qd Q) : KE K F W1 H1 Qd Q :=
  fun v H' W' d M' g' => k v H' W' d M' (g.trans g')
theorem KE.now {K : PySem.W.Frag} {F W : Addr → Prop} {H : Hp} {M : Mm} {Qd : De → Mm → Prop} {Q : L2.St → Hp → Prop} {σ : L2.St} {δ : De} (k : KE K F W H Qd Q) (s : Stt K F W M H) (e : EnvR K W H δ σ) (q : Qd δ M) : Q σ H := k σ H W δ M .refl s e q
structure KS (K : PySem.W.Frag) (E : XK) (F W : Addr → Prop) (H : Hp) (Dd : DEnds) (D : Ends) : Prop where
  nx : KE K F W H Dd.nx D.nx
  rt : Kt (rE K) K F W H Dd.rt D.rt
  bk : KE K F W H Dd.bk D.bk
  ct : KE K F W H Dd.ct D.ct
  ex : KX K F W H Dd.ex E
theorem KS.mono {K : PySem.W.Frag} {E : XK} {F W W1 : Addr → Prop} {H H1 : Hp} {Dd : DEnds} {D : Ends} (g : Grow F W H W1 H1) (k : KS K E F W H Dd D) : KS K E F W1 H1 Dd D := ⟨k.nx.mono g, k.rt.mono g, k.bk.mono g, k.ct.mono g, k.ex.mono g⟩
def LS (K : PySem.W.Frag) (E : XK) (f : DTS) : TS := fun D σ H => ∃ δ F W M Dd, EnvR K W H δ σ ∧ Stt K F W M H ∧ f Dd δ M ∧ KS K E F W H Dd D
def DS (X : Cx) (st : Stmt) (f : DTS) : Prop := PS X st (LS X.K (EXm X) f)
def DB (X : Cx) (st : List Stmt) (f : DTS) : Prop := PSs X st (LS X.K (EXm X) f)
theorem ps_imp {X : Cx} {st : Stmt} {t t' : TS} (h : PS X st t) (f : ∀ D σ H, t' D σ H → t D σ H) : PS X st t' := ⟨fun pins s σ H D I q => h.run pins s σ H D I (f D σ H q)⟩
theorem pss_imp {X : Cx} {st : List Stmt} {t t' : TS} (h : PSs X st t) (f : ∀ D σ H, t' D σ H → t D σ H) : PSs X st t' := ⟨fun pins s σ H D I q => h.run pins s σ H D I (f D σ H q)⟩
section
variable {X : Cx} {a b c e : Expr} {es : List Expr} {st : Stmt} {rest body : List Stmt} {fa fb fc f : DTE} {ft fu : DTT} {fs : DTA} {pos p : Pos} {t u : DTS}
def hNext : DTS := fun D δ M => D.nx δ M
def hSeq (t u : DTS) : DTS := fun D δ M => t { D with nx := u D } δ M
theorem z_nil : DB X [] hNext := pss_imp pss_nil fun D σ H ⟨δ, F, W, M, Dd, ev, s, h, k⟩ => k.nx.now s ev h
theorem z_one (h : DS X st t) : DB X [st] t := pss_one h
theorem z_cons (h1 : DS X st t) (h2 : DB X rest u) : DB X (st :: rest) (hSeq t u) := pss_imp (pss_cons h1 h2) fun D σ H ⟨δ, F, W, M, Dd, ev, s, h, k⟩ =>
  ⟨δ, F, W, M, _, ev, s, h, fun σ' H' W' δ' M' g s' e' q => ⟨δ', F, W', M', Dd, e', s', q, k.mono g⟩, k.rt, k.bk, k.ct, k.ex⟩
def hDrop (f : DTE) : DTS := fun D δ M => f δ M fun _ M1 => D.nx δ M1
theorem z_expr (he : DE X e f) (hs : swapsWith e none pos.line X.env = pure false := by rfl) : DS X (.Expr e pos) (hDrop f) := ps_imp (ps_expr he hs) fun D σ H ⟨δ, F, W, M, Dd, ev, s, h, k⟩ =>
  ⟨δ, F, W, M, _, ev, s, h, fun v H1 W1 d M1 g1 s1 r1 q1 => (k.nx.mono g1).now s1 (ev.mono g1) q1⟩
def hRet (f : DTE) : DTS := fun D δ M => f δ M D.rt
theorem z_ret (he : DE X e f) : DS X (.Return (some e) pos) (hRet f) := ps_imp (ps_ret he) fun D σ H ⟨δ, F, W, M, Dd, ev, s, h, k⟩ => ⟨δ, F, W, M, _, ev, s, h, k.rt⟩
def hIf (c : DTT) (t u : DTS) : DTS := fun D δ M => c δ M fun b M1 => if b = true then t D δ M1 else u D δ M1
theorem z_if {a b : List Stmt} (hc : DT X c ft) (ha : DB X a t) (hb : DB X b u) : DS X (.If c a b pos) (hIf ft t u) := ps_imp (ps_if hc ha hb) fun D σ H ⟨δ, F, W, M, Dd, ev, s, h, k⟩ =>
  ⟨δ, F, W, M, _, ev, s, h, fun v H1 W1 d M1 g1 s1 r1 q1 => by
    cases r1
    cases v with
    | true => exact ⟨δ, F, W1, M1, Dd, ev.mono g1, s1, q1, k.mono g1⟩
    | false => exact ⟨δ, F, W1, M1, Dd, ev.mono g1, s1, q1, k.mono g1⟩⟩
def hNever : DTS := fun _ _ _ => False
theorem z_never : DS X st hNever := ps_imp ps_never fun D σ H ⟨δ, F, W, M, Dd, ev, s, h, k⟩ => h.elim
abbrev DTG := Da → De → Mm → (De → Mm → Prop) → Prop
abbrev DTGs := List Da → De → Mm → (De → Mm → Prop) → Prop
def LG (K : PySem.W.Frag) (g : DTG) : TG := fun v σ H Q => ∃ δ F W M d Qd, EnvR K W H δ σ ∧ Stt K F W M H ∧ RD K W H v d ∧ g d δ M Qd ∧ KE K F W H Qd Q
def LGs (K : PySem.W.Frag) (g : DTGs) : TGs := fun vs σ H Q => ∃ δ F W M ds Qd, EnvR K W H δ σ ∧ Stt K F W M H ∧ RDs K W H vs ds ∧ g ds δ M Qd ∧ KE K F W H Qd Q
def DG (X : Cx) (t : Expr) (g : DTG) : Prop := PG X t (LG X.K g)
def DGs (X : Cx) (ts : List Expr) (g : DTGs) : Prop := PGs X ts (LGs X.K g)
theorem pg_imp {tg : Expr} {t t' : TG} (h : PG X tg t) (f : ∀ v σ H Q, t' v σ H Q → t v σ H Q) : PG X tg t' := ⟨fun pins s σ H v u Q I r q => h.run pins s σ H v u Q I r (f v σ H Q q)⟩
theorem pgs_imp {tg : List Expr} {t t' : TGs} (h : PGs X tg t) (f : ∀ v σ H Q, t' v σ H Q → t v σ H Q) : PGs X tg t' := ⟨fun pins s σ H v u Q I r q => h.run pins s σ H v u Q I r (f v σ H Q q)⟩
def hName (i : Nat) : DTG := fun d δ M Q => Q (δ.set i (some d)) M
theorem t_n (i : Nat) {x : Str} {pos : Pos} (hN : X.N.Nodup) (hi : X.N[i]? = some x := by rfl) (hx : Loc X.env.scope x := by first | exact Or.inl rfl | exact Or.inr rfl)
    (hf : X.fn x = true ∨ X.env.scope.names.lookup x = some .local := by first | exact .inl rfl | exact .inr rfl) : DG X (.Name x pos) (hName i) :=
  pg_imp (gn i hN hi hx hf) fun v σ H Q ⟨δ, F, W, M, d, Qd, ev, s, r, h, k⟩ => k.now s (ev.set r i) h
def hGnil : DTGs := fun ds δ M Q => match ds with
  | [] => Q δ M
  | _ => False
def hGcons (g : DTG) (gs : DTGs) : DTGs := fun ds δ M Q => match ds with
  | d :: ds => g d δ M fun δ1 M1 => gs ds δ1 M1 Q
  | [] => False
theorem t_nil : DGs X [] hGnil := pgs_imp pgs_nil fun vs σ H Q ⟨δ, F, W, M, ds, Qd, ev, s, r, h, k⟩ => by
  cases r with
  | nil => exact ⟨rfl, k.now s ev h⟩
  | cons _ _ => exact h.elim
theorem t_cons {g : DTG} {gs : DTGs} (h1 : DG X e g) (h2 : DGs X es gs) (hs : (assignEach (e :: es) X.env).map (·.2) = assign e X.env :: (assignEach es X.env).map (·.2) := by rfl) : DGs X (e :: es) (hGcons g gs) :=
  pgs_imp (pgs_cons h1 h2 hs) fun vs σ H Q ⟨δ, F, W, M, ds, Qd, ev, s, r, h, k⟩ => by
    cases r with
    | nil => exact h.elim
    | cons r rr => exact ⟨_, _, rfl, δ, F, W, M, _, _, ev, s, r, h, fun σ' H' W' δ' M' g' s' e' q => ⟨δ', F, W', M', _, Qd, e', s', rr.mono g', q, k.mono g'⟩⟩
def hGtup (n : Nat) (g : DTGs) : DTG := fun d δ M Q => match d with
  | .tup ds => ds.length = n ∧ g ds δ M Q
  | .lst ds => ds.length = n ∧ g ds δ M Q
  | .ref p => ∃ ds, M p = some (.lst ds) ∧ ds.length = n ∧ g ds δ M Q
  | _ => False
/-- several targets of either a tuple or a list -/
theorem pgCases {tg : Expr} {t : TG} (h : ∀ v σ H Q, t v σ H Q → ∃ t' : TG, PG X tg t' ∧ t' v σ H Q) : PG X tg t :=
  ⟨fun pins s σ H v u Q I r q => let ⟨_, o, q'⟩ := h v σ H Q q; o.run pins s σ H v u Q I r q'⟩
theorem t_tup {k : Nat} {g : DTGs} {n : Nat} (hc : X.calm = true) (h : DGs X es g) (hn : (assignEach es X.env).length = n := by rfl) (hst : (assignEach es X.env).findIdx? (·.1) = none := by rfl) : DG X (.Tuple es k pos) (hGtup n g) :=
  pgCases fun v σ H Q ⟨δ, F, W, M, d, Qd, ev, s, r, hq, k⟩ => by
    cases r with
    | tup hs rv => exact ⟨_, pg_tup hc h hn hst, _, _, rfl, hs.sq, by rw [rv.length]; exact hq.1, δ, F, W, M, _, Qd, ev, s, rv, hq.2, k⟩
    | lst hs rv => exact ⟨_, pg_lst hc h hn hst, _, _, rfl, hs.sq, by rw [rv.length]; exact hq.1, δ, F, W, M, _, Qd, ev, s, rv, hq.2, k⟩
    | ref p =>
      obtain ⟨ds, hm, h1, h2⟩ := hq
      obtain ⟨vs, hv, rv⟩ := s.list hm
      exact ⟨_, pg_lst hc h hn hst, _, _, rfl, SqL.of hv, by rw [rv.length]; exact h1, δ, F, W, M, _, Qd, ev, s, rv, h2, k⟩
    | _ => exact hq.elim
/-- p[i] = v on a list of the memory -/
def hSubT (fo fi : DTE) : DTG := fun d δ M Q => fo δ M fun o M1 => fi δ M1 fun i M2 => match o, i with
  | .ref p, .int k => ∃ xs j, M2 p = some (.lst xs) ∧ ixN xs.length k = some j ∧ Q δ (mput M2 p (.lst (xs.set j d)))
  | _, _ => False
theorem t_sub {o i : Expr} {fo fi : DTE} (ho : DE X o fo) (hi : DE X i fi)
    (ha : ∀ v, assign (.Subscript o i pos) X.env v = (do
      let ov ← holding [v] (eval o X.env)
      let iv ← holding [v, ov] (eval i X.env)
      standAt pos
      holding [v, ov, iv] (setItem ov iv v)
      release [v, ov, iv] []) := by intro _; rfl) : DG X (.Subscript o i pos) (hSubT fo fi) := pg_imp (pg_sub ho hi s_list ha) fun v σ H Q ⟨δ, F, W, M, d, Qd, ev, s, r, h, k⟩ =>
  ⟨δ, F, W, M, _, ev, s, h, fun v1 H1 W1 d1 M1 g1 s1 r1 q1 => ⟨δ, F, W1, M1, _, ev.mono g1, s1, q1, fun v2 H2 W2 d2 M2 g2 s2 r2 q2 => by
    have r1' := r1.mono g2
    cases r1' <;> cases r2 <;> first | exact q2.elim | skip
    rename_i p j
    obtain ⟨xs, n, hm, hn, q⟩ := q2
    obtain ⟨vs, hv, rv⟩ := s2.list hm
    have g3 := grow_put (o := .lst (vs.set n v)) s2 hm
    exact ⟨vs, n, hv, by rw [rv.length]; exact hn, (k.mono ((g1.trans g2).trans g3)).now (s2.put hm (.lst (rv.set n (r.mono (g1.trans g2))))) (ev.mono ((g1.trans g2).trans g3)) q⟩⟩⟩
def hAsg (f : DTE) (g : DTG) : DTS := fun D δ M => f δ M fun d M1 => g d δ M1 D.nx
theorem z_asg {tg : Expr} {g : DTG} (he : DE X e f) (hg : DG X tg g) (hs : swapsWithSole [tg] e pos.line X.env = pure false := by rfl) (hw : swappedStores [tg] e X.env = pure none := by rfl)
    (h1 : (assignEach [tg] X.env).map (·.2) = [assign tg X.env] := by rfl) : DS X (.Assign [tg] e pos) (hAsg f g) := ps_imp (ps_asg he hg hs hw h1) fun D σ H ⟨δ, F, W, M, Dd, ev, s, h, k⟩ =>
  ⟨δ, F, W, M, _, ev, s, h, fun v H1 W1 d M1 g1 s1 r1 q1 => ⟨δ, F, W1, M1, d, _, ev.mono g1, s1, r1, q1, k.nx.mono g1⟩⟩
theorem z_set (i : Nat) {x : Str} {pos' : Pos} (hN : X.N.Nodup) (he : DE X e f) (hi : X.N[i]? = some x := by rfl) (hx : Loc X.env.scope x := by first | exact Or.inl rfl | exact Or.inr rfl) (hs : swapsWith e (some (.Name x pos')) pos.line X.env = pure false := by rfl)
    (hf : X.fn x = true ∨ X.env.scope.names.lookup x = some .local := by first | exact .inl rfl | exact .inr rfl) : DS X (.Assign [.Name x pos'] e pos) (hAsg f (hName i)) := ps_imp (set i hN he hi hx hs hf) fun D σ H ⟨δ, F, W, M, Dd, ev, s, h, k⟩ =>
  ⟨δ, F, W, M, _, ev, s, h, fun v H1 W1 d M1 g1 s1 r1 q1 => (k.nx.mono g1).now s1 ((ev.mono g1).set r1 i) q1⟩
/-- x, y = a, b -/
def hPar (i j : Nat) (fs : DTA) : DTS := fun D δ M => fs δ M fun ds M1 => match ds with
  | [d, e] => D.nx ((δ.set i (some d)).set j (some e)) M1
  | _ => False
theorem li_par {i j : Nat} {E : XK} {D : Ends} {σ : L2.St} {H : Hp} (h : LS X.K E (hPar i j fs) D σ H) : tPar i j (Li (rA X.K) X.K fs) D σ H := by
  obtain ⟨δ, F, W, M, Dd, ev, s, h, k⟩ := h
  refine ⟨δ, F, W, M, _, ev, s, h, fun v H1 W1 d M1 g1 s1 r1 q1 => ?_⟩
  split at q1
  · obtain ⟨x, y, rfl, rx, ry⟩ := r1.two
    exact ⟨x, y, rfl, (k.nx.mono g1).now s1 (((ev.mono g1).set rx i).set ry j) q1⟩
  · exact q1.elim
/-- x op= e -/
def hAug (i : Nat) (f : DTE) (g : D2) : DTS := fun D δ M => match δ[i]? with
  | some (some x) => f δ M fun y M1 => g x y M1 fun z M2 => D.nx (δ.set i (some z)) M2
  | _ => False
theorem z_aug {i : Nat} {x : Str} {op : Operator} {g : D2} {pos' : Pos} (hN : X.N.Nodup) (hi : X.N[i]? = some x) (hx : Loc X.env.scope x) (he : DE X e f) (ho : PIp X op (L2o X.K g)) (hf : X.fn x = true ∨ X.env.scope.names.lookup x = some .local := by first | exact .inl rfl | exact .inr rfl | assumption) :
    DS X (.AugAssign (.Name x pos') op e pos) (hAug i f g) := ps_imp (ps_aug hN hi hx he ho hf) fun D σ H ⟨δ, F, W, M, Dd, ev, s, h, k⟩ => by
  unfold hAug at h
  split at h
  · rename_i d q
    obtain ⟨v, hv, r⟩ := ev.get q
    exact ⟨v, hv, δ, F, W, M, _, ev, s, h, fun y H1 W1 e1 M1 g1 s1 r1 q1 => ⟨F, W1, M1, d, e1, _, r.mono g1, r1, s1, q1, fun z H2 W2 e2 M2 g2 s2 r2 q2 => (k.nx.mono (g1.trans g2)).now s2 ((ev.mono (g1.trans g2)).set r2 i) q2⟩⟩
  · exact h.elim
theorem ipImp {op : Operator} {t t' : TIp} (h : PIp X op t) (f : ∀ x y H Q, t' x y H Q → t x y H Q) : PIp X op t' := fun pins s σ H x y v u Q I r1 r2 q => h pins s σ H x y v u Q I r1 r2 (f x y H Q q)
def hIadd : D2 := fun x y M Q => match x, y with
  | .int i, .int j => Q (.int (i + j)) M
  | _, _ => False
theorem i_add : PIp X .Add (L2o X.K hIadd) := ipImp ip_add fun x y H Q ⟨F, W, M, d, e, Qd, r1, r2, s, h, k⟩ => by
  cases r1 <;> cases r2 <;> first | exact h.elim | exact ⟨_, _, rfl, rfl, k.now s (.int _) h⟩
end
end U
set_option Elab.async false
set_option linter.all false
set_option maxRecDepth 100000
set_option maxHeartbeats 2000000
namespace U
open PySem PySem.Spec PyProof.Rows L2
abbrev NoF : Addr → Prop := fun _ => False
theorem Grow.noF {F W W' : Addr → Prop} {H H' : Hp} (g : Grow F W H W' H') : Grow NoF W H W' H' := ⟨g.w, g.h, fun _ z => z.elim⟩
/-- the iterator yields these -/
def ItR (K : PySem.W.Frag) (W : Addr → Prop) (H : Hp) (J : It) (ds : List Da) : Prop :=
  ∀ F' W' H' M', Grow NoF W H W' H' → Stt K F' W' M' H' →
    (∀ i d, ds[i]? = some d → J.go i H' ∧ ∀ x H'', J.yld i H' x H'' → ∃ W'', Grow F' W' H' W'' H'' ∧ Stt K F' W'' M' H'' ∧ RD K W'' H'' x d) ∧ ∀ i, ds.length ≤ i → J.stop i H'
theorem ItR.mono {K : PySem.W.Frag} {F W W1 : Addr → Prop} {H H1 : Hp} {J : It} {ds : List Da} (g : Grow F W H W1 H1) (h : ItR K W H J ds) : ItR K W1 H1 J ds :=
  fun F' W' H' M' g' s => h F' W' H' M' (g.noF.trans g') s
theorem it_list {K : PySem.W.Frag} {W : Addr → Prop} {H : Hp} {a : Addr} {vs : List V} {ds : List Da} (hs : Sl K W H a vs) (rv : RDs K W H vs ds) : ItR K W H (Itl K a) ds := fun F' W' H' M' g s => by
  have q := (hs.mono g).sq
  have rv' := rv.mono g
  refine ⟨fun i d hd => ?_, fun i hi => ⟨vs, q, by rw [rv'.length]; exact hi⟩⟩
  obtain ⟨v, hv, r⟩ := rv'.get hd
  refine ⟨⟨vs, v, q, hv⟩, fun x H'' y => ?_⟩
  obtain ⟨rfl, y⟩ := y
  have e := y vs q
  rw [hv] at e
  cases e
  exact ⟨W', .refl, s, r⟩
theorem it_tup {K : PySem.W.Frag} {W : Addr → Prop} {H : Hp} {a : Addr} {vs : List V} {ds : List Da} (hs : Sp' K W H a vs) (rv : RDs K W H vs ds) : ItR K W H (Itt K a) ds := fun F' W' H' M' g s => by
  have q := (hs.mono g).sq
  have rv' := rv.mono g
  refine ⟨fun i d hd => ?_, fun i hi => ⟨vs, q, by rw [rv'.length]; exact hi⟩⟩
  obtain ⟨v, hv, r⟩ := rv'.get hd
  refine ⟨⟨vs, v, q, hv⟩, fun x H'' y => ?_⟩
  obtain ⟨rfl, y⟩ := y
  have e := y vs q
  rw [hv] at e
  cases e
  exact ⟨W', .refl, s, r⟩
/-- lo, lo + 1, .. -/
def rngD (lo : Int) (n : Nat) : List Da := (List.range n).map fun i => Da.int (lo + (i : Nat))
theorem it_rng {K : PySem.W.Frag} {W : Addr → Prop} {H : Hp} (lo : Int) (n : Nat) : ItR K W H (Itr lo n) (rngD lo n) := fun F' W' H' M' g s => by
  have hl : (rngD lo n).length = n := by unfold rngD; rw [List.length_map, List.length_range]
  refine ⟨fun i d hd => ?_, fun i hi => by rw [hl] at hi; exact hi⟩
  have hi : i < n := by have := (List.getElem?_eq_some_iff.mp hd).1; rw [hl] at this; exact this
  refine ⟨hi, fun x H'' y => ?_⟩
  obtain ⟨rfl, rfl⟩ := y
  unfold rngD at hd
  rw [List.getElem?_map, List.getElem?_range hi] at hd
  cases hd
  exact ⟨W', .refl, s, .int _⟩
def chrD (x : Str) : List Da := x.cps.toList.map fun c => Da.str ⟨#[c]⟩
theorem it_str {K : PySem.W.Frag} {W : Addr → Prop} {H : Hp} (x : Str) : ItR K W H (Its x) (chrD x) := fun F' W' H' M' g s => by
  have hl : (chrD x).length = x.cps.size := by unfold chrD; rw [List.length_map]; exact Array.length_toList
  refine ⟨fun i d hd => ?_, fun i hi => by rw [hl] at hi; exact hi⟩
  have hi : i < x.cps.size := by have := (List.getElem?_eq_some_iff.mp hd).1; rw [hl] at this; exact this
  refine ⟨hi, fun y H'' z => ?_⟩
  obtain ⟨rfl, c, hc, rfl⟩ := z
  unfold chrD at hd
  rw [List.getElem?_map, Array.getElem?_toList, hc] at hd
  cases hd
  exact ⟨W', .refl, s, .str _⟩
/-- pairs of a number and an item -/
def enumD (n : Nat) : List Da → List Da
  | [] => []
  | d :: ds => .tup [.int (n : Int), d] :: enumD (n + 1) ds
theorem enumD_get : ∀ {ds : List Da} {n i : Nat} {e : Da}, (enumD n ds)[i]? = some e → ∃ d, ds[i]? = some d ∧ e = .tup [.int ((n + i : Nat) : Int), d]
  | [], _, _, _, h => by simp [enumD] at h
  | d :: ds, n, 0, e, h => by
    simp [enumD] at h
    exact ⟨d, rfl, h.symm⟩
  | d :: ds, n, i + 1, e, h => by
    have h' : (enumD (n + 1) ds)[i]? = some e := by simpa [enumD] using h
    obtain ⟨x, hx, rfl⟩ := enumD_get h'
    exact ⟨x, by simpa using hx, by rw [show n + 1 + i = n + (i + 1) by omega]⟩
theorem enumD_length : ∀ (ds : List Da) (n : Nat), (enumD n ds).length = ds.length
  | [], _ => rfl
  | d :: ds, n => by rw [enumD, List.length_cons, List.length_cons, enumD_length ds]
abbrev DTI := DR (List Da)
def LI (K : PySem.W.Frag) (f : DTI) : TI := fun σ H R => ∃ δ F W M Qd, EnvR K W H δ σ ∧ Stt K F W M H ∧ f δ M Qd ∧ ∀ J H' W' M' ds, Grow F W H W' H' → Stt K F W' M' H' → ItR K W' H' J ds → Qd ds M' → R J H'
def DI (X : Cx) (tg iter : Expr) (f : DTI) : Prop := PI X tg iter (LI X.K f)
theorem pi_imp {X : Cx} {tg e : Expr} {t t' : TI} (h : PI X tg e t) (f : ∀ σ H R, t' σ H R → t σ H R) : PI X tg e t' := ⟨fun pins s σ H R I q => h.run pins s σ H R I (f σ H R q)⟩
section
variable {X : Cx} {tg a b c e : Expr} {es : List Expr} {st : Stmt} {rest body : List Stmt} {fa fb fc f : DTE} {ft fu : DTT} {fs : DTA} {pos p : Pos} {t u : DTS} {di : DTI}
/-- any row, a text -/
def iAny (K : PySem.W.Frag) (tl : TE) : TI := fun σ H R => tl σ H fun x H1 => match x with
  | .str z => R (Its z) H1
  | .ref a => ((∃ xs, SqL K H1 a xs) ∧ R (Itl K a) H1) ∨ ((∃ xs, SqT K H1 a xs) ∧ R (Itt K a) H1)
  | _ => False
theorem pi_any {l : Expr} {tl : TE} (hl : PE X l tl) : PI X tg l (iAny X.K tl) := by
  refine ⟨fun pins s σ H R I h => ?_⟩
  refine thn (hl.run pins s σ H _ I h) fun v s1 ⟨x, H1, I1, r1, q1⟩ => ?_
  cases x <;> first | exact q1.elim | skip
  · rename_i z
    obtain ⟨t, rfl⟩ := r1
    cases ha : z.cps.all (· < 128)
    · exact wpAny_pyIter_wide ha (pi_one (tk := s1.toks) I1 _ (turn_str _ z t "str_iterator" (.inr rfl)) ⟨_, Heap.get?_push_size _ rfl, rfl, rfl⟩ q1)
    · exact wpAny_pyIter_ascii ha (pi_one (tk := s1.toks) I1 _ (turn_str _ z t "str_ascii_iterator" (.inl rfl)) ⟨_, Heap.get?_push_size _ rfl, rfl, rfl⟩ q1)
  · rename_i a
    cases r1
    rcases q1 with ⟨⟨xs, hq⟩, q⟩ | ⟨⟨xs, hq⟩, q⟩
    · obtain ⟨its, rv, p, hz⟩ := I1.list hq
      refine wpAny_pyIter_list p.isList ?_
      refine ⟨s1.heap.objs.size, [s1.heap.objs.size], _, _, H1, rfl, I1.kept (t' := s1.toks) fun b o e => Heap.get?_push_of_some _ e, turn_list a _, ⟨_, Heap.get?_push_size _ rfl, rfl, rfl⟩, fun b hb => ?_, q⟩
      have e : b = s1.heap.objs.size := by simpa using hb
      subst e
      exact I1.fpOk (Nat.le_refl _) (I1.hok.fresh (Nat.le_refl _))
    · obtain ⟨its, rv, p, hz⟩ := I1.tuple hq
      refine wpAny_pyIter_tuple (show s1.heap.IsTuple a its.toArray from p) ?_
      refine ⟨s1.heap.objs.size, [s1.heap.objs.size], _, _, H1, rfl, I1.kept (t' := s1.toks) fun b o e => Heap.get?_push_of_some _ e, turn_tuple a _, ⟨_, Heap.get?_push_size _ rfl, rfl, rfl⟩, fun b hb => ?_, q⟩
      have e : b = s1.heap.objs.size := by simpa using hb
      subst e
      exact I1.fpOk (Nat.le_refl _) (I1.hok.fresh (Nat.le_refl _))
def gIt (f : DTE) : DTI := fun δ M Q => f δ M fun x M1 => match x with
  | .lst ds => Q ds M1
  | .tup ds => Q ds M1
  | .str z => Q (chrD z) M1
  | .ref p => ∃ ds, M1 p = some (.lst ds) ∧ Q ds (mdel M1 p)
  | _ => False
theorem d_it (h : DE X e f) : DI X tg e (gIt f) := pi_imp (pi_any h) fun σ H R ⟨δ, F, W, M, Qd, ev, s, h, k⟩ => ⟨δ, F, W, M, _, ev, s, h, fun v H1 W1 d M1 g1 s1 r1 q1 => by
  cases r1 with
  | lst hs rv => exact .inl ⟨⟨_, hs.sq⟩, k _ _ W1 M1 _ g1 s1 (it_list hs rv) q1⟩
  | tup hs rv => exact .inr ⟨⟨_, hs.sq⟩, k _ _ W1 M1 _ g1 s1 (it_tup hs rv) q1⟩
  | str z => exact k _ _ W1 M1 _ g1 s1 (it_str z) q1
  | ref p =>
    obtain ⟨ds, hm, q⟩ := q1
    obtain ⟨s2, g2⟩ := s1.settle hm
    obtain ⟨vs, hv, rv⟩ := s1.list hm
    exact .inl ⟨⟨_, SqL.of hv⟩, k _ _ _ _ _ (g1.trans g2) s2 (it_list (.inl ⟨.inl rfl, .inl hv⟩) (rv.mono g2)) q⟩
  | _ => exact q1.elim⟩
/-- a range -/
def Rok (i : Int) : Prop := -(2 ^ 62) ≤ i ∧ i < 2 ^ 62
def gRg1 (fs : DTA) : DTI := fun δ M Q => fs δ M fun ds M1 => match ds with
  | [.int j] => Rok j ∧ Q (rngD 0 j.toNat) M1
  | _ => False
theorem d_rg1 (hm : X.mg "range" = none) (ha : DA X [a] fs) (hg : Gl X "range" := by rfl) (hs : starEach [a] X.env = [(false, eval a X.env)] := by rfl) : DI X tg (.Call (.Name "range" p) [a] [] pos) (gRg1 fs) :=
  pi_imp (pi_range1 hg hm ha hs) fun σ H R ⟨δ, F, W, M, Qd, ev, s, h, k⟩ => ⟨δ, F, W, M, _, ev, s, h, fun vs H1 W1 ds M1 g1 s1 r1 q1 => by
    split at q1
    · obtain ⟨v, rfl, r⟩ := r1.one
      cases r
      exact ⟨_, rfl, q1.1.1, q1.1.2, k _ _ W1 M1 _ g1 s1 (it_rng _ _) q1.2⟩
    · exact q1.elim⟩
def forD (g : DTG) (tb : DTS) (D : DEnds) : List Da → De → Mm → Prop
  | [], δ, M => D.nx δ M
  | d :: ds, δ, M => g d δ M fun δ2 M2 => tb { D with nx := forD g tb D ds, ct := forD g tb D ds, bk := D.nx } δ2 M2
def hFor (di : DTI) (g : DTG) (tb : DTS) : DTS := fun D δ M => di δ M fun ds M1 => forD g tb D ds δ M1
theorem z_for {g : DTG} {tb : DTS} (hp : PassesOwn (model X.prog X.w) X.A X.env X.xe) (hc : X.calm = true) (hi : DI X tg e di) (hg : DG X tg g) (hb : DB X body tb)
    (hs : ∀ x, foldedSetIterable e X.env x = pure x := by intro _; rfl) : DS X (.For tg e body [] pos) (hFor di g tb) := ps_imp (ps_for hp hc hi hg hb hs) fun D σ H ⟨δ, F, W, M, Dd, ev, s, h, k⟩ => by
  refine ⟨δ, F, W, M, _, ev, s, h, fun J H1 W1 M1 ds g1 s1 ij q => ?_⟩
  let Pv : Nat → L2.St → Hp → Prop := fun i σ H => ∃ δ W2 M2, Grow F W1 H1 W2 H ∧ Stt X.K F W2 M2 H ∧ EnvR X.K W2 H δ σ ∧ forD g tb Dd (ds.drop i) δ M2
  refine ⟨fun i m σ H => m = ds.length - i ∧ i ≤ ds.length ∧ Pv i σ H, ⟨ds.length, by simp, Nat.zero_le _, δ, W1, M1, .refl, s1, ev.mono g1, q⟩, ?_⟩
  rintro i m σ2 H2 ⟨rfl, hi, δ2, W2, M2, g2, s2, ev2, q2⟩
  obtain ⟨go, stop⟩ := ij F W2 H2 M2 g2.noF s2
  by_cases hlt : i < ds.length
  · have hd : ds[i]? = some ds[i] := List.getElem?_eq_getElem hlt
    obtain ⟨go1, go2⟩ := go i _ hd
    refine .inr ⟨go1, Pv (i + 1), fun σ' H' p' => ⟨ds.length - (i + 1), by omega, rfl, hlt, p'⟩, fun x H3 y => ?_⟩
    obtain ⟨W3, g3, s3, r3⟩ := go2 x H3 y
    rw [List.drop_eq_getElem_cons hlt] at q2
    refine ⟨δ2, F, W3, M2, _, _, ev2.mono g3, s3, r3, q2, fun σ4 H4 W4 δ4 M4 g4 s4 e4 q4 => ?_⟩
    have gg := g2.trans (g3.trans g4)
    have nx : KE X.K F W4 H4 (forD g tb Dd (ds.drop (i + 1))) (Pv (i + 1)) := fun σ5 H5 W5 δ5 M5 g5 s5 e5 q5 => ⟨δ5, W5, M5, gg.trans g5, s5, e5, q5⟩
    exact ⟨δ4, F, W4, M4, _, e4, s4, q4, nx, (k.mono (g1.trans gg)).rt, (k.mono (g1.trans gg)).nx, nx, (k.mono (g1.trans gg)).ex⟩
  · have e : i = ds.length := by omega
    subst e
    rw [List.drop_length] at q2
    exact .inl ⟨stop _ (Nat.le_refl _), (k.nx.mono (g1.trans g2)).now s2 ev2 q2⟩
def whD (c : DTT) (tb : DTS) (D : DEnds) : Nat → De → Mm → Prop
  | 0, _, _ => False
  | n + 1, δ, M => c δ M fun b M1 => if b = true then tb { D with nx := whD c tb D n, ct := whD c tb D n, bk := D.nx } δ M1 else D.nx δ M1
def hWhile (c : DTT) (tb : DTS) : DTS := fun D δ M => ∃ n, whD c tb D n δ M
theorem z_while {tb : DTS} (hp : PassesOwn (model X.prog X.w) X.A X.env X.xe) (hc : DT X c ft) (hb : DB X body tb) : DS X (.While c body [] pos) (hWhile ft tb) := ps_imp (ps_while hp hc hb) fun D σ H ⟨δ, F, W, M, Dd, ev, s, ⟨n, h⟩, k⟩ => by
  let Pv : Nat → L2.St → Hp → Prop := fun i σ H1 => ∃ δ W2 M2, Grow F W H W2 H1 ∧ Stt X.K F W2 M2 H1 ∧ EnvR X.K W2 H1 δ σ ∧ whD ft tb Dd i δ M2
  refine ⟨Pv, ⟨n, δ, W, M, .refl, s, ev, h⟩, ?_⟩
  rintro m σ2 H2 ⟨δ2, W2, M2, g2, s2, ev2, q2⟩
  cases m with
  | zero => exact q2.elim
  | succ m =>
    refine ⟨δ2, F, W2, M2, _, ev2, s2, q2, fun b H3 W3 d M3 g3 s3 r3 q3 => ?_⟩
    cases r3
    have gg := g2.trans g3
    cases b with
    | true =>
      have nx : KE X.K F W3 H3 (whD ft tb Dd m) (Pv m) := fun σ5 H5 W5 δ5 M5 g5 s5 e5 q5 => ⟨δ5, W5, M5, gg.trans g5, s5, e5, q5⟩
      exact ⟨Pv m, fun σ' H' p => ⟨m, Nat.lt_succ_self _, p⟩, δ2, F, W3, M3, _, ev2.mono g3, s3, q3, nx, (k.mono gg).rt, (k.mono gg).nx, nx, (k.mono gg).ex⟩
    | false => exact (k.nx.mono gg).now s3 (ev2.mono g3) q3
end
end U
set_option Elab.async false
set_option linter.all false
set_option maxRecDepth 100000
set_option maxHeartbeats 2000000
namespace U
open PySem PySem.Spec PyProof.Rows L2
/-- a comprehension's target: a name, a tuple of names -/
inductive CT where
  | n (i : Nat) | t (is : List Nat)
def CT.slots : CT → List Nat
  | .n i => [i]
  | .t is => is
def setsV : List Nat → TGs
  | [] => L2.gNil
  | i :: is => L2.gCons (L2.gName i) (setsV is)
def CT.tg (K : PySem.W.Frag) : CT → TG
  | .n i => gName i
  | .t is => L2.gTup K is.length (setsV is)
/-- the slots set -/
def setsD : List Nat → List Da → De → De
  | i :: is, d :: ds, δ => setsD is ds (δ.set i (some d))
  | _, _, δ => δ
def CT.ok : CT → Da → Prop
  | .n _, _ => True
  | .t is, .tup ds => ds.length = is.length
  | .t _, _ => False
def CT.set : CT → Da → De → De
  | .n i, d, δ => δ.set i (some d)
  | .t is, .tup ds, δ => setsD is ds δ
  | .t _, _, δ => δ
def wipeD (δ : De) : List Nat → De
  | [] => δ
  | v :: vs => (wipeD δ vs).set v none
theorem EnvR.wipe {K : PySem.W.Frag} {W : Addr → Prop} {H : Hp} {δ : De} {σ : L2.St} (e : EnvR K W H δ σ) : ∀ vs : List Nat, EnvR K W H (wipeD δ vs) (wipe σ vs)
  | [] => e
  | v :: vs => (EnvR.wipe e vs).del v
theorem wipe_set_in {x : Option V} {i : Nat} : ∀ {vs : List Nat} {σ : L2.St}, i ∈ vs → wipe (σ.set i x) vs = wipe σ vs
  | [], _, h => by simp at h
  | v :: vs, σ, h => by
    show (wipe (σ.set i x) vs).set v none = (wipe σ vs).set v none
    by_cases hm : i ∈ vs
    · rw [wipe_set_in hm]
    · have e : i = v := by
        rcases List.mem_cons.mp h with e | e
        · exact e
        · exact absurd e hm
      subst e
      have : ∀ (ws : List Nat) (σ : L2.St), i ∉ ws → wipe (σ.set i x) ws = (wipe σ ws).set i x := by
        intro ws
        induction ws with
        | nil => intro σ _; rfl
        | cons w ws ih =>
          intro σ hn
          have hn' : ¬ i = w ∧ i ∉ ws := by simpa using hn
          show (wipe (σ.set i x) ws).set w none = ((wipe σ ws).set w none).set i x
          rw [ih σ hn'.2, List.set_comm _ _ hn'.1]
      rw [this vs σ hm, List.set_set]
theorem wipe_wipe : ∀ (vs ws : List Nat) (σ : L2.St), (∀ v ∈ vs, v ∈ ws) → wipe (wipe σ vs) ws = wipe σ ws
  | [], _, _, _ => rfl
  | v :: vs, ws, σ, h => by
    show wipe ((wipe σ vs).set v none) ws = _
    rw [wipe_set_in (h v List.mem_cons_self), wipe_wipe vs ws σ fun u hu => h u (List.mem_cons_of_mem _ hu)]
section
variable {K : PySem.W.Frag} {W : Addr → Prop} {H : Hp}
theorem setsV_ok {ws : List Nat} : ∀ {is : List Nat} {vs : List V} {ds : List Da} {δ : De} {σ : L2.St} {Q : L2.St → Hp → Prop}, (∀ i ∈ is, i ∈ ws) → ds.length = is.length → RDs K W H vs ds → EnvR K W H δ σ →
    (∀ σ2, wipe σ2 ws = wipe σ ws → EnvR K W H (setsD is ds δ) σ2 → Q σ2 H) → setsV is vs σ H Q
  | [], vs, ds, δ, σ, Q, _, hl, rv, ev, q => by
    have : ds = [] := List.eq_nil_of_length_eq_zero hl
    subst this
    cases rv with
    | nil => exact ⟨rfl, q σ rfl ev⟩
  | i :: is, vs, ds, δ, σ, Q, hm, hl, rv, ev, q => by
    cases rv with
    | nil => simp at hl
    | cons r rr =>
      refine ⟨_, _, rfl, ?_⟩
      refine setsV_ok (fun j hj => hm j (List.mem_cons_of_mem _ hj)) (by simpa using hl) rr (ev.set r i) fun σ2 e1 e2 => q σ2 ?_ e2
      rw [e1, wipe_set_in (hm i List.mem_cons_self)]
theorem ct_ok {c : CT} {ws : List Nat} {v : V} {d : Da} {δ : De} {σ : L2.St} {Q : L2.St → Hp → Prop} (hm : ∀ i ∈ c.slots, i ∈ ws) (ho : c.ok d) (r : RD K W H v d) (ev : EnvR K W H δ σ)
    (q : ∀ σ2, wipe σ2 ws = wipe σ ws → EnvR K W H (c.set d δ) σ2 → Q σ2 H) : c.tg K v σ H Q := by
  cases c with
  | n i => exact q _ (wipe_set_in (hm i (by simp [CT.slots]))) (ev.set r i)
  | t is =>
    cases d with
    | tup ds =>
      cases r with
      | tup hs rv => exact ⟨_, _, rfl, hs.sq, by rw [rv.length]; exact ho, setsV_ok hm ho rv ev q⟩
    | _ => exact ho.elim
end
/-- [te for c in .. if tt] -/
def lcD (c : CT) (tt : DTT) (te : DTE) (δ : De) : List Da → (List Da → Mm → Prop) → Mm → Prop
  | [], k, M => k [] M
  | d :: ds, k, M => c.ok d ∧ tt (c.set d δ) M fun b M2 => if b = true then te (c.set d δ) M2 fun y M3 => lcD c tt te δ ds (fun ys M4 => k (y :: ys) M4) M3 else lcD c tt te δ ds k M2
def gYes : DTT := fun _ M Q => Q true M
def gLc (di : DTI) (c : CT) (tt : DTT) (te : DTE) (vs : List Nat) : DTE := fun δ M Q => di δ M fun ds M1 => Sz ds.length ∧ lcD c tt te (wipeD δ vs) ds (fun ys M2 => Q (.lst ys) M2) M1
def gLcM (di : DTI) (c : CT) (tt : DTT) (te : DTE) (vs : List Nat) : DTE := fun δ M Q => di δ M fun ds M1 => Sz ds.length ∧ lcD c tt te (wipeD δ vs) ds (fun ys M2 => ∀ p, M2 p = none → Q (.ref p) (mput M2 p (.lst ys))) M1
/-- with one more address of another's -/
def fadd (F : Addr → Prop) (p : Addr) : Addr → Prop := fun a => a = p ∨ F a
section
variable {K : PySem.W.Frag} {F W : Addr → Prop} {H : Hp} {M : Mm} {p : Addr}
theorem Stt.addF (s : Stt K F W M H) (h : H p = none) (o : HO) : Stt K (fadd F p) W M (upd H p o) := by
  have s2 := s.junk h o
  refine ⟨s2.wf, fun a w => ?_, s2.dis, s2.mem, s2.pl⟩
  rcases w with w | w
  · subst w; exact ⟨s.freeW h, s.freeM h, _, upd_same⟩
  · exact s2.fr a w
/-- another's thing is changed by its owner -/
theorem Stt.chgF (s : Stt K (fadd F p) W M H) (o : HO) : Stt K (fadd F p) W M (upd H p o) ∧ Grow NoF W H W (upd H p o) := by
  have hp := s.fr p (.inl rfl)
  have g : Grow NoF W H W (upd H p o) := ⟨fun _ h => h, fun a w => upd_ne (fun e => hp.1 (e ▸ w)), fun _ z => z.elim⟩
  refine ⟨⟨fun a w => ?_, fun a w => ⟨(s.fr a w).1, (s.fr a w).2.1, ?_⟩, s.dis, fun a u e => ?_, fun a u w e => by rw [g.h a w] at e; exact s.pl a u w e⟩, g⟩
  · rw [g.h a w]; exact s.wf a w
  · by_cases e : a = p
    · subst e; exact ⟨o, upd_same⟩
    · rw [upd_ne e]; exact (s.fr a w).2.2
  · have ne : a ≠ p := fun z => by subst z; rw [hp.2.1] at e; cases e
    obtain ⟨x, q, r⟩ := s.mem a u e
    exact ⟨x, by rw [upd_ne ne]; exact q, r.mono g⟩
/-- .. becomes settled, or a thing of the memory -/
theorem Stt.endW (s : Stt K (fadd F p) W M H) (hF : ¬ F p) (hn : ∀ o, H p = some o → NT o) : Stt K F (wadd W p) M H ∧ Grow F W H (wadd W p) H := by
  obtain ⟨h1, h2, o, h3⟩ := s.fr p (.inl rfl)
  have g : Grow F W H (wadd W p) H := ⟨fun _ h => .inr h, fun _ _ => rfl, fun _ _ => rfl⟩
  refine ⟨⟨fun a w => ?_, fun a w => ⟨?_, (s.fr a (.inr w)).2.1, (s.fr a (.inr w)).2.2⟩, fun a u e w => ?_, fun a u e => ?_, fun a u w e => w.elim (fun z => hn u (z ▸ e)) fun w => s.pl a u w e⟩, g⟩
  · rcases w with w | w
    · subst w; exact ⟨o, h3⟩
    · exact s.wf a w
  · rintro (e | e)
    · subst e; exact hF w
    · exact (s.fr a (.inr w)).1 e
  · rcases w with w | w
    · subst w; rw [h2] at e; cases e
    · exact s.dis a u e w
  · obtain ⟨x, q, r⟩ := s.mem a u e
    exact ⟨x, q, r.mono g⟩
theorem Stt.endM (s : Stt K (fadd F p) W M H) (hF : ¬ F p) {u : MO} {o : HO} (ho : H p = some o) (r : MR K W H u o) : Stt K F W (mput M p u) H := by
  obtain ⟨h1, h2, _⟩ := s.fr p (.inl rfl)
  refine ⟨s.wf, fun a w => ⟨(s.fr a (.inr w)).1, ?_, (s.fr a (.inr w)).2.2⟩, fun a v e w => ?_, fun a v e => ?_, s.pl⟩
  · rw [mput_ne (show a ≠ p from fun e => hF (e ▸ w))]; exact (s.fr a (.inr w)).2.1
  · by_cases q : a = p
    · subst q; exact h1 w
    · rw [mput_ne q] at e; exact s.dis a v e w
  · by_cases q : a = p
    · subst q; rw [mput_same] at e; cases e; exact ⟨o, ho, r⟩
    · rw [mput_ne q] at e; exact s.mem a v e
end
/-- a grown heap, but for one address that was free -/
theorem grow_drop {F W W' W2 : Addr → Prop} {H H1 H2 : Hp} {p : Addr} (g : Grow F W H W' H1) (g2 : Grow (fadd F p) W' H1 W2 H2) : Grow F W H W2 H2 := g.trans (g2.less fun a h => .inr h)
section
variable {X : Cx} {tg elt iter : Expr} {ifs : List Expr} {scope : Scope} {own : List (Str × Nat)} {pos spos py : Pos} {di : DTI} {c : CT} {tt : DTT} {te : DTE} {y : Str} {i : Nat}
theorem li_lc {K : PySem.W.Frag} {vs : List Nat} (hv : ∀ i ∈ c.slots, i ∈ vs) {σ : L2.St} {H : Hp} {Q : VK} (M2 : Bool) (h : Li (rE K) K (if M2 = true then gLcM di c tt te vs else gLc di c tt te vs) σ H Q) : tLc (LI K di) (c.tg K) (Li rT K tt) (Li (rE K) K te) vs σ H Q := by
  obtain ⟨δ, F, W, M, Qd, ev, s, h, k⟩ := h
  -- the wanted end, of the row
  have h' : di δ M fun ds M1 => Sz ds.length ∧ lcD c tt te (wipeD δ vs) ds (fun ys M2' => if M2 = true then ∀ p, M2' p = none → Qd (.ref p) (mput M2' p (.lst ys)) else Qd (.lst ys) M2') M1 := by
    cases M2 <;> exact h
  clear h
  refine ⟨δ, F, W, M, _, ev, s, h', fun J H1 W1 M1 ds g1 s1 ij ⟨hz, q⟩ D hD => ?_⟩
  have hFD : ¬ F D := s1.freeF hD
  let Kf : List Da → Mm → Prop := fun ys M2' => if M2 = true then ∀ p, M2' p = none → Qd (.ref p) (mput M2' p (.lst ys)) else Qd (.lst ys) M2'
  let Pv : Nat → Hp → Prop := fun i H2 => ∃ W2 Md ac acc, Grow F W1 H1 W2 H2 ∧ Stt K (fadd F D) W2 Md H2 ∧ H2 D = some (.lst ac) ∧ RDs K W2 H2 ac acc ∧ acc.length ≤ i ∧ lcD c tt te (wipeD δ vs) (ds.drop i) (fun ys M4 => Kf (acc ++ ys) M4) Md
  refine ⟨fun i m H2 => m = ds.length - i ∧ i ≤ ds.length ∧ Pv i H2, ⟨ds.length, by simp, Nat.zero_le _, W1, M1, [], [], grow_new s1 hD, s1.addF hD _, upd_same, .nil, Nat.le_refl _, q⟩, ?_⟩
  rintro i m H2 ⟨rfl, hi, W2, Md, ac, acc, g2, s2, hac, rac, hal, q2⟩
  obtain ⟨go, stop⟩ := ij (fadd F D) W2 H2 Md g2.noF s2
  by_cases hlt : i < ds.length
  · have hd : ds[i]? = some ds[i] := List.getElem?_eq_getElem hlt
    obtain ⟨go1, go2⟩ := go i _ hd
    refine .inr ⟨go1, Pv (i + 1), fun H' p' => ⟨ds.length - (i + 1), by omega, rfl, hlt, p'⟩, fun x H3 y => ?_⟩
    obtain ⟨W3, g3, s3, r3⟩ := go2 x H3 y
    rw [List.drop_eq_getElem_cons hlt] at q2
    obtain ⟨ok, q2⟩ := q2
    have e3 : EnvR K W3 H3 (wipeD δ vs) (wipe σ vs) := (ev.mono (grow_drop (g1.trans g2) g3)).wipe vs
    refine ct_ok hv ok r3 e3 fun σ2 hw ev2 => ⟨by rw [hw, wipe_wipe vs vs σ fun _ h => h], _, fadd F D, W3, Md, _, ev2, s3, q2, fun b H4 W4 b' M4 g4 s4 eb q4 => ?_⟩
    cases eb
    have gg := g3.trans g4
    cases b with
    | false =>
      refine ⟨W4, M4, ac, acc, grow_drop g2 gg, s4, ?_, rac.mono gg, Nat.le_succ_of_le hal, q4⟩
      rw [gg.f D (.inl rfl)]; exact hac
    | true =>
      refine ⟨_, fadd F D, W4, M4, _, ev2.mono g4, s4, q4, fun v H5 W5 d M5 g5 s5 r5 q5 => ⟨ac, ?_, ?_, ?_⟩⟩
      · rw [(gg.trans g5).f D (.inl rfl)]; exact hac
      · rw [rac.length]; have := hz.le; rw [sizeLine_eq]; omega
      · obtain ⟨s6, g6⟩ := s5.chgF (.lst (ac ++ [v]))
        have g7 : Grow F W2 H2 W5 H5 := (gg.trans g5).less fun a h => .inr h
        refine ⟨W5, M5, ac ++ [v], acc ++ [d], ?_, s6, upd_same, ((rac.mono (gg.trans g5)).append (.cons r5 .nil)).mono g6, by rw [List.length_append, List.length_singleton]; omega, ?_⟩
        · have g8 := g2.trans g7
          refine ⟨g8.w, fun a w => ?_, fun a w => ?_⟩
          · rw [upd_ne (s1.neW hD w)]; exact g8.h a w
          · rw [upd_ne (s1.neF hD w)]; exact g8.f a w
        · have e : (fun ys M4 => Kf (acc ++ [d] ++ ys) M4) = fun ys M4 => Kf (acc ++ d :: ys) M4 := by funext ys M4; rw [List.append_assoc]; rfl
          rw [e]; exact q5
  · have e : i = ds.length := by omega
    subst e
    rw [List.drop_length] at q2
    have q3 : Kf acc Md := by have : Kf (acc ++ []) Md := q2; rwa [List.append_nil] at this
    refine .inl ⟨stop _ (Nat.le_refl _), ?_⟩
    cases M2 with
    | true =>
      have q4 : ∀ p, Md p = none → Qd (.ref p) (mput Md p (.lst acc)) := q3
      exact (k.mono (g1.trans g2)).now (s2.endM hFD hac (.lst rac)) (.ref D) (q4 D (s2.fr D (.inl rfl)).2.1)
    | false =>
      obtain ⟨s3, g3⟩ := s2.endW hFD (by intro o e; rw [hac] at e; cases e; exact trivial)
      exact (k.mono ((g1.trans g2).trans g3)).now s3 (.lst (.inl ⟨.inl rfl, .inl hac⟩) (rac.mono g3)) q3
/-- the tests of a comprehension -/
def DTs (X : Cx) (ifs : List Expr) (f : DTT) : Prop := PTs X ifs (Li rT X.K f)
theorem d_ts0 : DTs X [] gYes := ⟨fun pins s σ H Q I ⟨δ, F, W, M, Qd, ev, st, h, k⟩ => pts_nil.run pins s σ H Q I (k.now st rfl h)⟩
theorem d_ts1 {e : Expr} (h : DT X e tt) : DTs X [e] tt := pts_one h
section
variable (hc : X.calm = true) (hN : X.N.Nodup) (hi : DI X tg iter di) (ok : BlkOk X.N X.env.scope scope own)
    (hg : ∀ (s : Shared) (H : Hp) (C : Addr) (cl : List (Str × Addr)) (fp : List Addr), PG (X.blk s H scope (compEnvC scope cl C X.env) fp) tg (c.tg X.K)) (ht : ∀ (s : Shared) (H : Hp) (C : Addr) (cl : List (Str × Addr)) (fp : List Addr), DTs (X.blk s H scope (compEnvC scope cl C X.env) fp) ifs tt)
    (he : ∀ (s : Shared) (H : Hp) (C : Addr) (cl : List (Str × Addr)) (fp : List Addr), DE (X.blk s H scope (compEnvC scope cl C X.env) fp) elt te)
include hc hN hi ok hg ht he in
theorem d_lc (hv : ∀ i ∈ c.slots, i ∈ own.map (·.2) := by decide) (hs : ∀ x, foldedSetIterable iter X.env x = pure x := by intro _; rfl) :
    DE X (.ListComp elt [⟨tg, iter, ifs, 0⟩] scope pos) (gLc di c tt te (own.map (·.2))) := imp (pe_lc (wi := LI X.K di) (g := c.tg X.K) (tt := Li rT X.K tt) (te := Li (rE X.K) X.K te) hc hN hi ok hg ht he hs) fun σ H Q h => li_lc hv false h
end
theorem li_set {K : PySem.W.Frag} {t : TE} {f : DTE} {E : XK} {D : Ends} {σ : L2.St} {H : Hp} (hf : ∀ σ H Q, Li (rE K) K f σ H Q → t σ H Q) (h : LS K E (hAsg f (hName i)) D σ H) : tAsg t (L2.gName i) D σ H := by
  obtain ⟨δ, F, W, M, Dd, ev, s, h, k⟩ := h
  exact hf _ _ _ ⟨δ, F, W, M, _, ev, s, h, fun v H1 W1 d M1 g1 s1 r1 q1 => (k.nx.mono g1).now s1 ((ev.mono g1).set r1 i) q1⟩
section
variable (hc : X.calm = true) (hN : X.N.Nodup) (hy : X.N[i]? = some y) (hyl : X.env.scope.names.lookup y = some .local) (hsw : swapsWith (.ListComp elt [⟨tg, iter, ifs, 0⟩] scope pos) (some (.Name y py)) spos.line X.env = pure true)
    (hi : DI X tg iter di) (ok : BlkOk X.N X.env.scope scope own)
    (hg : ∀ (s : Shared) (H : Hp) (C : Addr) (cl : List (Str × Addr)) (fp : List Addr), PG (X.blk s H scope (compEnvC scope cl C X.env) fp) tg (c.tg X.K)) (ht : ∀ (s : Shared) (H : Hp) (C : Addr) (cl : List (Str × Addr)) (fp : List Addr), DTs (X.blk s H scope (compEnvC scope cl C X.env) fp) ifs tt)
    (he : ∀ (s : Shared) (H : Hp) (C : Addr) (cl : List (Str × Addr)) (fp : List Addr), DE (X.blk s H scope (compEnvC scope cl C X.env) fp) elt te)
include hc hN hy hyl hsw hi ok hg ht he in
theorem z_setLc (hv : ∀ i ∈ c.slots, i ∈ own.map (·.2) := by decide) (hs : ∀ x, foldedSetIterable iter X.env x = pure x := by intro _; rfl) :
    DS X (.Assign [.Name y py] (.ListComp elt [⟨tg, iter, ifs, 0⟩] scope pos) spos) (hAsg (gLc di c tt te (own.map (·.2))) (hName i)) :=
  ps_imp (ps_setLc (wi := LI X.K di) (g := c.tg X.K) (tt := Li rT X.K tt) (te := Li (rE X.K) X.K te) hc hN hy hyl hsw hi ok hg ht he hs) fun D σ H h => li_set (fun σ H Q h => li_lc hv false h) h
end
def Sq (n : Nat) : Prop := Nat.ble n 5000 = true
def Sr (n : Nat) : Prop := Nat.ble n 3000 = true
theorem sq {n : Nat} (h : n ≤ 5000) : Sq n := Nat.ble_eq.mpr h
theorem Sq.le {n : Nat} (h : Sq n) : n ≤ 5000 := Nat.ble_eq.mp h
theorem sr {n : Nat} (h : n ≤ 3000) : Sr n := Nat.ble_eq.mpr h
theorem Sr.le {n : Nat} (h : Sr n) : n ≤ 3000 := Nat.ble_eq.mp h
def lc2D (c : CT) (tt : DTT) (di1 : DTI) (c1 : CT) (tt1 : DTT) (te : DTE) (vs1 : List Nat) (δ : De) : List Da → (List Da → Mm → Prop) → Mm → Prop
  | [], k, M => k [] M
  | d :: ds, k, M => c.ok d ∧ tt (c.set d δ) M fun b M2 => if b = true then di1 (c.set d δ) M2 fun es M3 => Sr es.length ∧ lcD c1 tt1 te (wipeD (c.set d δ) vs1) es (fun ys M4 => lc2D c tt di1 c1 tt1 te vs1 δ ds (fun zs M5 => k (ys ++ zs) M5) M4) M3
      else lc2D c tt di1 c1 tt1 te vs1 δ ds k M2
def gLc2 (di : DTI) (c : CT) (tt : DTT) (di1 : DTI) (c1 : CT) (tt1 : DTT) (te : DTE) (vs vs1 : List Nat) : DTE := fun δ M Q => di δ M fun ds M1 => Sq ds.length ∧ lc2D c tt di1 c1 tt1 te vs1 (wipeD δ vs) ds (fun ys M2 => Q (.lst ys) M2) M1
theorem li_lc2 {K : PySem.W.Frag} {vs vs1 : List Nat} {c1 : CT} {tt1 : DTT} {di1 : DTI} (hv : ∀ i ∈ c.slots, i ∈ vs) (hv1 : ∀ i ∈ c1.slots, i ∈ vs1) {σ : L2.St} {H : Hp} {Q : VK} (h : Li (rE K) K (gLc2 di c tt di1 c1 tt1 te vs vs1) σ H Q) :
    tLc2 (LI K di) (c.tg K) (Li rT K tt) (LI K di1) (c1.tg K) (Li rT K tt1) (Li (rE K) K te) vs vs1 σ H Q := by
  obtain ⟨δ, F, W, M, Qd, ev, s, h, k⟩ := h
  refine ⟨δ, F, W, M, _, ev, s, h, fun J H1 W1 M1 ds g1 s1 ij ⟨hz, q⟩ D hD => ?_⟩
  have hFD : ¬ F D := s1.freeF hD
  let Kf : List Da → Mm → Prop := fun ys M2' => Qd (.lst ys) M2'
  let L2D := fun (ds : List Da) (k : List Da → Mm → Prop) => lc2D c tt di1 c1 tt1 te vs1 (wipeD δ vs) ds k
  let Pv : Nat → Hp → Prop := fun i H2 => ∃ W2 Md ac acc, Grow F W1 H1 W2 H2 ∧ Stt K (fadd F D) W2 Md H2 ∧ H2 D = some (.lst ac) ∧ RDs K W2 H2 ac acc ∧ acc.length ≤ i * 3000 ∧ L2D (ds.drop i) (fun ys M4 => Kf (acc ++ ys) M4) Md
  refine ⟨fun i m H2 => m = ds.length - i ∧ i ≤ ds.length ∧ Pv i H2, ⟨ds.length, by simp, Nat.zero_le _, W1, M1, [], [], grow_new s1 hD, s1.addF hD _, upd_same, .nil, Nat.zero_le _, q⟩, ?_⟩
  rintro i m H2 ⟨rfl, hi, W2, Md, ac, acc, g2, s2, hac, rac, hal, q2⟩
  obtain ⟨go, stop⟩ := ij (fadd F D) W2 H2 Md g2.noF s2
  by_cases hlt : i < ds.length
  · have hd : ds[i]? = some ds[i] := List.getElem?_eq_getElem hlt
    obtain ⟨go1, go2⟩ := go i _ hd
    refine .inr ⟨go1, Pv (i + 1), fun H' p' => ⟨ds.length - (i + 1), by omega, rfl, hlt, p'⟩, fun x H3 y => ?_⟩
    obtain ⟨W3, g3, s3, r3⟩ := go2 x H3 y
    rw [List.drop_eq_getElem_cons hlt] at q2
    obtain ⟨ok, q2⟩ := q2
    have e3 : EnvR K W3 H3 (wipeD δ vs) (wipe σ vs) := (ev.mono (grow_drop (g1.trans g2) g3)).wipe vs
    refine ct_ok hv ok r3 e3 fun σ2 hw ev2 => ⟨by rw [hw, wipe_wipe vs vs σ fun _ h => h], _, fadd F D, W3, Md, _, ev2, s3, q2, fun b H4 W4 b' M4 g4 s4 eb q4 => ?_⟩
    cases eb
    have gg := g3.trans g4
    cases b with
    | false =>
      refine ⟨W4, M4, ac, acc, grow_drop g2 gg, s4, ?_, rac.mono gg, by omega, q4⟩
      rw [gg.f D (.inl rfl)]; exact hac
    | true =>
      refine ⟨_, fadd F D, W4, M4, _, ev2.mono g4, s4, q4, fun J1 H5 W5 M5 es g5 s5 ij1 q5 => ?_⟩
      obtain ⟨hz1, q5⟩ := q5
      have g25 := gg.trans g5
      let Pw : Nat → Hp → Prop := fun j H6 => ∃ W6 Md ac acc, Grow F W1 H1 W6 H6 ∧ Grow NoF W5 H5 W6 H6 ∧ Stt K (fadd F D) W6 Md H6 ∧ H6 D = some (.lst ac) ∧ RDs K W6 H6 ac acc ∧ acc.length ≤ i * 3000 + j ∧
        lcD c1 tt1 te (wipeD (c.set ds[i] (wipeD δ vs)) vs1) (es.drop j) (fun ys M4 => L2D (ds.drop (i + 1)) (fun zs M5 => Kf (acc ++ (ys ++ zs)) M5) M4) Md
      refine ⟨fun j n H6 => n = es.length - j ∧ j ≤ es.length ∧ Pw j H6, ⟨es.length, by simp, Nat.zero_le _, W5, M5, ac, acc, grow_drop g2 g25, .refl, s5, by rw [g25.f D (.inl rfl)]; exact hac, rac.mono g25, by omega, q5⟩, ?_⟩
      rintro j n H6 ⟨rfl, hj, W6, Md6, ac6, acc6, g6, gn6, s6, hac6, rac6, hal6, q6⟩
      obtain ⟨go', stop'⟩ := ij1 (fadd F D) W6 H6 Md6 gn6 s6
      by_cases hlt1 : j < es.length
      · have hd1 : es[j]? = some es[j] := List.getElem?_eq_getElem hlt1
        obtain ⟨go3, go4⟩ := go' j _ hd1
        refine .inr ⟨go3, Pw (j + 1), fun H' p' => ⟨es.length - (j + 1), by omega, rfl, hlt1, p'⟩, fun x H7 y => ?_⟩
        obtain ⟨W7, g7, s7, r7⟩ := go4 x H7 y
        rw [List.drop_eq_getElem_cons hlt1] at q6
        obtain ⟨ok1, q6⟩ := q6
        have e7 : EnvR K W7 H7 (wipeD (c.set ds[i] (wipeD δ vs)) vs1) (wipe σ2 vs1) := (((ev2.mono (g4.trans g5)).mono gn6).mono g7).wipe vs1
        refine ct_ok hv1 ok1 r7 e7 fun σ3 hw3 ev3 => ⟨by rw [hw3, wipe_wipe vs1 vs1 σ2 fun _ h => h], _, fadd F D, W7, Md6, _, ev3, s7, q6, fun b H8 W8 b' M8 g8 s8 eb q8 => ?_⟩
        cases eb
        have g78 := g7.trans g8
        cases b with
        | false =>
          refine ⟨W8, M8, ac6, acc6, grow_drop g6 g78, gn6.trans g78.noF, s8, ?_, rac6.mono g78, by omega, q8⟩
          rw [g78.f D (.inl rfl)]; exact hac6
        | true =>
          refine ⟨_, fadd F D, W8, M8, _, ev3.mono g8, s8, q8, fun v H9 W9 d M9 g9 s9 r9 q9 => ⟨ac6, ?_, ?_, ?_⟩⟩
          · rw [(g78.trans g9).f D (.inl rfl)]; exact hac6
          · rw [rac6.length]; have := hz.le; have := hz1.le; rw [sizeLine_eq]; omega
          · obtain ⟨s10, g10⟩ := s9.chgF (.lst (ac6 ++ [v]))
            have g11 : Grow F W6 H6 W9 H9 := (g78.trans g9).less fun a h => .inr h
            refine ⟨W9, M9, ac6 ++ [v], acc6 ++ [d], ?_, (gn6.trans (g78.trans g9).noF).trans g10, s10, upd_same, ((rac6.mono (g78.trans g9)).append (.cons r9 .nil)).mono g10, by rw [List.length_append, List.length_singleton]; omega, ?_⟩
            · have g12 := g6.trans g11
              refine ⟨g12.w, fun a w => ?_, fun a w => ?_⟩
              · rw [upd_ne (s1.neW hD w)]; exact g12.h a w
              · rw [upd_ne (s1.neF hD w)]; exact g12.f a w
            · have e : (fun ys M4 => L2D (ds.drop (i + 1)) (fun zs M5 => Kf (acc6 ++ [d] ++ (ys ++ zs)) M5) M4) = fun ys M4 => L2D (ds.drop (i + 1)) (fun zs M5 => Kf (acc6 ++ (d :: ys ++ zs)) M5) M4 := by
                funext ys M4
                congr 1
                funext zs M5
                rw [List.append_assoc]; rfl
              rw [e]; exact q9
      · have e : j = es.length := by omega
        subst e
        rw [List.drop_length] at q6
        refine .inl ⟨stop' _ (Nat.le_refl _), W6, Md6, ac6, acc6, g6, s6, hac6, rac6, ?_, q6⟩
        have := hz1.le
        omega
  · have e : i = ds.length := by omega
    subst e
    rw [List.drop_length] at q2
    have q3 : Kf acc Md := by have : Kf (acc ++ []) Md := q2; rwa [List.append_nil] at this
    obtain ⟨s3, g3⟩ := s2.endW hFD (by intro o e; rw [hac] at e; cases e; exact trivial)
    exact .inl ⟨stop _ (Nat.le_refl _), (k.mono ((g1.trans g2).trans g3)).now s3 (.lst (.inl ⟨.inl rfl, .inl hac⟩) (rac.mono g3)) q3⟩
section
variable {tg1 iter1 : Expr} {ifs1 : List Expr} {vs1 : List Nat} {di1 : DTI} {c1 : CT} {tt1 : DTT} (hc : X.calm = true) (hN : X.N.Nodup) (hi : DI X tg iter di) (ok : BlkOk X.N X.env.scope scope own) (hvs : ∀ i ∈ vs1, i ∈ own.map (·.2))
    (hg : ∀ (s : Shared) (H : Hp) (C : Addr) (cl : List (Str × Addr)) (fp : List Addr), PG (X.blk s H scope (compEnvC scope cl C X.env) fp) tg (c.tg X.K)) (ht : ∀ (s : Shared) (H : Hp) (C : Addr) (cl : List (Str × Addr)) (fp : List Addr), DTs (X.blk s H scope (compEnvC scope cl C X.env) fp) ifs tt)
    (hi1 : ∀ (s : Shared) (H : Hp) (C : Addr) (cl : List (Str × Addr)) (fp : List Addr), DI (X.blk s H scope (compEnvC scope cl C X.env) fp) tg1 iter1 di1)
    (hg1 : ∀ (s : Shared) (H : Hp) (C : Addr) (cl : List (Str × Addr)) (fp : List Addr), PG (X.blk s H scope (compEnvC scope cl C X.env) fp) tg1 (c1.tg X.K)) (ht1 : ∀ (s : Shared) (H : Hp) (C : Addr) (cl : List (Str × Addr)) (fp : List Addr), DTs (X.blk s H scope (compEnvC scope cl C X.env) fp) ifs1 tt1)
    (he : ∀ (s : Shared) (H : Hp) (C : Addr) (cl : List (Str × Addr)) (fp : List Addr), DE (X.blk s H scope (compEnvC scope cl C X.env) fp) elt te)
include hc hN hi ok hvs hg ht hi1 hg1 ht1 he in
theorem z_setLc2 (hy : X.N[i]? = some y) (hyl : X.env.scope.names.lookup y = some .local) (hsw : swapsWith (.ListComp elt [⟨tg, iter, ifs, 0⟩, ⟨tg1, iter1, ifs1, 0⟩] scope pos) (some (.Name y py)) spos.line X.env = pure true)
    (hv : ∀ i ∈ c.slots, i ∈ own.map (·.2) := by decide) (hv1 : ∀ i ∈ c1.slots, i ∈ vs1 := by decide) (hs : ∀ x, foldedSetIterable iter X.env x = pure x := by intro _; rfl) (hs1 : ∀ env x, foldedSetIterable iter1 env x = pure x := by intro _ _; rfl) :
    DS X (.Assign [.Name y py] (.ListComp elt [⟨tg, iter, ifs, 0⟩, ⟨tg1, iter1, ifs1, 0⟩] scope pos) spos) (hAsg (gLc2 di c tt di1 c1 tt1 te (own.map (·.2)) vs1) (hName i)) :=
  ps_imp (ps_setLc2 (wi := LI X.K di) (g := c.tg X.K) (tt := Li rT X.K tt) (wi1 := LI X.K di1) (g1 := c1.tg X.K) (tt1 := Li rT X.K tt1) (te := Li (rE X.K) X.K te) hc hN hy hyl hsw hi ok hvs hg ht hi1 hg1 ht1 he hs hs1) fun D σ H h => li_set (fun σ H Q h => li_lc2 hv hv1 h) h
end
end
end U
set_option Elab.async false
set_option linter.all false
set_option maxRecDepth 100000
set_option maxHeartbeats 2000000
namespace U
open PySem PySem.Spec PyProof.Rows L2
/-- a def's promise over data -/
abbrev DSp := List Da → Mm → DK → DX → Prop
def X0 : DX := fun _ _ _ => False
def LSp (K : PySem.W.Frag) (sp : DSp) : Sp := fun vs H Q E => ∃ F W M ds Qd Ed, RDs K W H vs ds ∧ Stt K F W M H ∧ sp ds M Qd Ed ∧ Kt (rE K) K F W H Qd Q ∧ KX K F W H Ed E
def startD (N : List Str) (ds : List Da) : De := ds.map some ++ List.replicate (N.length - ds.length) none
theorem env_start {K : PySem.W.Frag} {W : Addr → Prop} {H : Hp} (N : List Str) {vs : List V} {ds : List Da} (r : RDs K W H vs ds) : EnvR K W H (startD N ds) (start N vs) := by
  have h1 : ∀ (n : Nat), EnvR K W H (List.replicate n none) (List.replicate n none) := fun n => by
    induction n with
    | zero => exact .nil
    | succ n ih => exact .cons trivial ih
  have h2 : ∀ {vs : List V} {ds : List Da} (n : Nat), RDs K W H vs ds → EnvR K W H (ds.map some ++ List.replicate n none) (vs.map some ++ List.replicate n none) := by
    intro vs
    induction vs with
    | nil => intro ds n r; cases r; exact h1 n
    | cons v vs ih =>
      intro ds n r
      cases r with
      | cons h k => exact .cons ⟨v, rfl, h⟩ (ih n k)
  unfold startD L2.start
  rw [r.length]
  exact h2 _ r
/-- the body's ends -/
def bodyE (Q : DK) : DEnds := { nx := fun _ M => Q .non M, rt := Q }
theorem ls_body {K : PySem.W.Frag} {F W : Addr → Prop} {M : Mm} {H : Hp} {N : List Str} {vs : List V} {ds : List Da} {Qd : DK} {Q : VK} {E : XK} {t : DTS} (r : RDs K W H vs ds) (s : Stt K F W M H) (k : Kt (rE K) K F W H Qd Q) (h : t (bodyE Qd) (startD N ds) M) :
    LS K E t { nx := fun _ H' => Q .non H', rt := Q } (start N vs) H :=
  ⟨_, F, W, M, _, env_start N r, s, h, fun σ H' W' δ M' g s' e q => k _ _ _ _ _ g s' .non q, k, fun _ _ _ _ _ _ _ _ z => z.elim, fun _ _ _ _ _ _ _ _ z => z.elim, fun _ _ _ _ _ _ _ _ _ z => z.elim⟩
abbrev KnD (P : Program) (w : World) (K : PySem.W.Frag) (mg : Str → Option Value) (base : Heap) (x : Str) (k : Nat) (ps : List Str) (sp : DSp) : Prop := Known P w K mg base CX0 x k ps (LSp K sp)
abbrev KnMD (P : Program) (w : World) (K : PySem.W.Frag) (mg : Str → Option Value) (base : Heap) (C : Addr) (m : Str) (k : Nat) (ps : List Str) (sp : DSp) : Prop := KnownM P w K mg base CX0 C m k ps (LSp K sp)
theorem lsp_len {K : PySem.W.Frag} {sp : DSp} {n : Nat} (len : ∀ ds M Q E, sp ds M Q E → ds.length = n) : ∀ vs H Q E, LSp K sp vs H Q E → vs.length = n := fun vs H Q E ⟨F, W, M, ds, Qd, Ed, r, s, h, _⟩ => by rw [r.length]; exact len _ _ _ _ h
theorem KnD.of {P : Program} {w : World} {K : PySem.W.Frag} {mg : Str → Option Value} {base : Heap} {x : Str} {st : Stmt} {N ps : List Str} {k : Nat} {sp : DSp} (F : HasDef K x st) (M : MgOf K mg) (S : FnScope N ps (defScope st))
    (hb : ∀ (kV doc pm : Value) (an : Option Addr) (cdv ct : Value) (us : List Value), us.length = ps.length → bindArgs (PySem.W.fnOf x x (defArgs st) (defBody st) (defScope st) .none kV doc pm an cdv ct) ⟨us, []⟩ = pure (ps.zip us))
    (len : ∀ ds M Q E, sp ds M Q E → ds.length = ps.length)
    (hbody : ∀ (f : Addr) (cdv : Value) (A : Around) (outer : List Env) (s : Shared) (H : Hp) (E : XK), Room k (A.deeper (envOfC x (defScope st) s.heap.objs.size f cdv)) →
      ∃ t, DB (cxOf CX0 P w K mg base N x (defScope st) f cdv A outer s H E).nox (defBody st) t ∧ ∀ ds M Q Ed, sp ds M Q Ed → t (bodyE Q) (startD N ds) M) : KnD P w K mg base x (k + 1) ps sp :=
  Known.of F M S hb (lsp_len len) fun f cdv A outer s H vs Q E hr ⟨F, W, M, ds, Qd, Ed, r, st, h, kk, kx⟩ => by
    obtain ⟨t, d, q⟩ := hbody f cdv A outer s H E hr
    exact ⟨_, d, ls_body r st kk (q ds M Qd Ed h)⟩
theorem KnMD.of {P : Program} {w : World} {K : PySem.W.Frag} {mg : Str → Option Value} {base : Heap} {C : Addr} {m qual : Str} {st : Stmt} {N ps : List Str} {k : Nat} {sp : DSp} (F : HasMeth K C m qual st) (S : FnScope N ps (defScope st))
    (hb : ∀ (kV doc pm : Value) (an : Option Addr) (cdv ct : Value) (us : List Value), us.length = ps.length → bindArgs (PySem.W.fnOf m qual (defArgs st) (defBody st) (defScope st) .none kV doc pm an cdv ct) ⟨us, []⟩ = pure (ps.zip us))
    (len : ∀ ds M Q E, sp ds M Q E → ds.length = ps.length)
    (hbody : ∀ (f : Addr) (cdv : Value) (A : Around) (outer : List Env) (s : Shared) (H : Hp) (E : XK), Room k (A.deeper (envOfC qual (defScope st) s.heap.objs.size f cdv)) →
      ∃ t, DB (cxOf CX0 P w K mg base N qual (defScope st) f cdv A outer s H E).nox (defBody st) t ∧ ∀ ds M Q Ed, sp ds M Q Ed → t (bodyE Q) (startD N ds) M) : KnMD P w K mg base C m (k + 1) ps sp :=
  KnownM.of F S hb (lsp_len len) fun f cdv A outer s H vs Q E hr ⟨F, W, M, ds, Qd, Ed, r, st, h, kk, kx⟩ => by
    obtain ⟨t, d, q⟩ := hbody f cdv A outer s H E hr
    exact ⟨_, d, ls_body r st kk (q ds M Qd Ed h)⟩
theorem fnok_of {P : Program} {w : World} {K : PySem.W.Frag} {mg : Str → Option Value} {base : Heap} {x : Str} {st : Stmt} {N ps : List Str} {k : Nat} {sp : DSp} {f : Addr} {fd : FuncData} (F : Fun K x x st f fd) (S : FnScope N ps (defScope st))
    (len : ∀ ds M Q E, sp ds M Q E → ds.length = ps.length)
    (hbody : ∀ (f : Addr) (cdv : Value) (A : Around) (outer : List Env) (s : Shared) (H : Hp) (E : XK), Room k (A.deeper (envOfC x (defScope st) s.heap.objs.size f cdv)) →
      ∃ t, DB (cxOf CX0 P w K mg base N x (defScope st) f cdv A outer s H E).nox (defBody st) t ∧ ∀ ds M Q Ed, sp ds M Q Ed → t (bodyE Q) (startD N ds) M) : FnOk P w K mg base CX0 (k + 1) f fd ps (LSp K sp) :=
  ok_of F S (lsp_len len) fun f cdv A outer s H vs Q E hr ⟨F, W, M, ds, Qd, Ed, r, st, h, kk, kx⟩ => by
    obtain ⟨t, d, q⟩ := hbody f cdv A outer s H E hr
    exact ⟨_, d, ls_body r st kk (q ds M Qd Ed h)⟩
section
variable {X : Cx} {k : Nat} {ps : List Str} {sp : DSp} {x m f : Str} {p pos apos : Pos} {a b e e1 e2 o : Expr} {es : List Expr} {fs : DTA} {C : Addr} {fa f1 f2 : DTE}
def gCall (sp : DSp) (fs : DTA) : DTE := fun δ M Q => fs δ M fun ds M1 => sp ds M1 Q X0
theorem d_call (D : KnD X.prog X.w X.K X.mg X.base x k ps sp) (hr : Room k X.A) (ha : DA X (e :: es) fs) (hg : Gl X x := by rfl) (hdb : (x == ("__debug__" : Str)) = false := by decide)
    (he : starEach (e :: es) X.env = (false, eval e X.env) :: starEach es X.env := by rfl) (hpl : (backTo pos (starEach es X.env)).any (·.1) = false := by rfl) : DE X (.Call (.Name x p) (e :: es) [] pos) (gCall sp fs) :=
  imp (U.call D hr ha hg hdb he hpl) fun σ H Q ⟨δ, F, W, M, Qd, ev, s, h, kk⟩ => ⟨δ, F, W, M, _, ev, s, h, fun vs H1 W1 ds M1 g1 s1 r1 q1 => ⟨F, W1, M1, ds, Qd, X0, r1, s1, q1, kk.mono g1, fun _ _ _ _ _ _ _ _ _ z => z.elim⟩⟩
/-- what an instance holds -/
def objK (C : Addr) (x : Da) (M : Mm) (k : List (Str × Da) → Prop) : Prop := match x with
  | .obj C' fs => C' = C ∧ k fs
  | .ref p => ∃ fs, M p = some (.ins C fs) ∧ k fs
  | _ => False
theorem obj_of {K : PySem.W.Frag} {F W : Addr → Prop} {M : Mm} {H : Hp} {v : V} {d : Da} (s : Stt K F W M H) (r : RD K W H v d) {k : List (Str × Da) → Prop} (h : objK C d M k) : ∃ a dx vs fs, v = .ref a ∧ H a = some (.ins C dx vs) ∧ RF K W H vs fs ∧ k fs := by
  cases r with
  | obj w hs rv =>
    obtain ⟨rfl, h⟩ := h
    exact ⟨_, _, _, _, rfl, hs, rv, h⟩
  | ref p =>
    obtain ⟨fs, hm, h⟩ := h
    obtain ⟨u, hu, mr⟩ := s.mem _ _ hm
    cases mr with
    | ins rv => exact ⟨_, _, _, _, rfl, hu, rv, h⟩
  | _ => exact h.elim
def gFld (C : Addr) (f : Str) (fa : DTE) : DTE := fun δ M Q => fa δ M fun x M1 => objK C x M1 fun fs => ∃ v, fs.lookup f = some v ∧ Q v M1
theorem d_fld (c : Cls X.K C) (n : NoAttr X.K C f) (he : DE X e fa) (hb : attributeBase e f X.env (eval e X.env) = eval e X.env := by rfl) : DE X (.Attribute e f pos) (gFld C f fa) :=
  imp (fld c n he hb) fun σ H Q ⟨δ, F, W, M, Qd, ev, s, h, kk⟩ => ⟨δ, F, W, M, _, ev, s, h, fun v H1 W1 d M1 g1 s1 r1 q1 => by
    obtain ⟨a, dx, vs, fs, rfl, ha, rv, z, hz, q⟩ := obj_of s1 r1 q1
    obtain ⟨u, hu, ru⟩ := rv.get hz
    exact ⟨dx, vs, u, ha, hu, (kk.mono g1).now s1 ru q⟩⟩
/-- o.f = e -/
def hSto (C : Addr) (f : Str) (fa fv : DTE) : DTS := fun D δ M => fv δ M fun y M1 => fa δ M1 fun x M2 => match x with
  | .ref p => ∃ fs, M2 p = some (.ins C fs) ∧ Nat.blt fs.length 1000 = true ∧ D.nx δ (mput M2 p (.ins C (putD f y fs)))
  | _ => False
theorem z_sto {value : Expr} {pos' : Pos} {fv : DTE} (c : Cls X.K C) (n : NoAttr X.K C f) (hv : DE X value fv) (ha : DE X o fa) (hs : swapsWith value (some (.Attribute o f pos')) pos.line X.env = pure false := by rfl) : DS X (.Assign [.Attribute o f pos'] value pos) (hSto C f fa fv) :=
  ps_imp (sto c n hv ha hs) fun D σ H ⟨δ, F, W, M, Dd, ev, s, h, kk⟩ => ⟨δ, F, W, M, _, ev, s, h, fun y H1 W1 d M1 g1 s1 r1 q1 => ⟨δ, F, W1, M1, _, ev.mono g1, s1, q1, fun x H2 W2 d2 M2 g2 s2 r2 q2 => by
    cases r2 <;> first | exact q2.elim | skip
    rename_i p
    obtain ⟨fs, hm, hl, q⟩ := q2
    obtain ⟨u, hu, mr⟩ := s2.mem _ _ hm
    cases mr with
    | @ins _ dx _ vs rv =>
      have g3 := grow_put (o := .ins C dx (putF f y vs)) s2 hm
      exact ⟨_, _, hu, by rw [rv.length]; exact Nat.blt_eq.mp hl, (kk.nx.mono ((g1.trans g2).trans g3)).now (s2.put hm (.ins (rv.put (r1.mono g2)))) (ev.mono ((g1.trans g2).trans g3)) q⟩⟩⟩
def gMeth (C : Addr) (m : Str) (sp : DSp) (fa : DTE) (fs : DTA) : DTE := fun δ M Q => fa δ M fun x M1 => objK C x M1 (fun gs => gs.lookup m = none) ∧ fs δ M1 fun ds M2 => sp (x :: ds) M2 Q X0
theorem li_meth {K : PySem.W.Frag} {σ : L2.St} {H : Hp} {Q : VK} (h : Li (rE K) K (gMeth C m sp fa fs) σ H Q) : fMeth C m (LSp K sp) E0 (Li (rE K) K fa) (Li (rA K) K fs) σ H Q := by
  obtain ⟨δ, F, W, M, Qd, ev, s, h, kk⟩ := h
  refine ⟨δ, F, W, M, _, ev, s, h, fun v H1 W1 d M1 g1 s1 r1 q1 => ?_⟩
  obtain ⟨a, dx, vs, gs, rfl, ha, rv, hn⟩ := obj_of s1 r1 q1.1
  exact ⟨dx, vs, ha, rv.none hn, δ, F, W1, M1, _, ev.mono g1, s1, q1.2, fun us H2 W2 ds M2 g2 s2 r2 q2 => ⟨F, W2, M2, _, Qd, X0, .cons (r1.mono g2) r2, s2, q2, kk.mono (g1.trans g2), fun _ _ _ _ _ _ _ _ _ z => z.elim⟩⟩
theorem d_meth {pl : Sem Bool} (D : KnMD X.prog X.w X.K X.mg X.base C m k ps sp) (c : Cls X.K C) (hr : Room k X.A) (he : DE X o fa) (ha : DA X (e :: es) fs)
    (hst : starEach (e :: es) X.env = (false, eval e X.env) :: starEach es X.env := by rfl) (hpl : (backTo pos (starEach es X.env)).any (·.1) = false := by rfl)
    (ht : eval (.Call (.Attribute o m apos) (e :: es) [] pos) X.env = (do
      let ov ← eval o X.env
      standAt apos.atName
      let (f, first) ← holding [ov] (getMethod ov m pl)
      callWith pos f first (backTo pos (starEach (e :: es) X.env)) (backToKw pos (keywordEach [] X.env))) := by rfl) :
    DE X (.Call (.Attribute o m apos) (e :: es) [] pos) (gMeth C m sp fa fs) := imp (U.meth D c hr he ha hst hpl ht) fun _ _ _ h => li_meth h
/-- o.m(e, *y), o.m(*y) -/
def gMethSB (C : Addr) (m : Str) (sp : DSp) (fa f1 f2 : DTE) : DTE := fun δ M Q => fa δ M fun x M1 => objK C x M1 (fun gs => gs.lookup m = none) ∧ f1 δ M1 fun y M2 => f2 δ M2 fun z M3 => itemsK z M3 fun ds => sp (x :: y :: ds) M3 Q X0
theorem Stt.lessF {K : PySem.W.Frag} {F F' W : Addr → Prop} {M : Mm} {H : Hp} (s : Stt K F' W M H) (h : ∀ a, F a → F' a) : Stt K F W M H := ⟨s.wf, fun a w => s.fr a (h a w), s.dis, s.mem, s.pl⟩
theorem d_methSB (D : KnMD X.prog X.w X.K X.mg X.base C m k ps sp) (c : Cls X.K C) (hr : Room k X.A) (he : DE X o fa) (h1 : DE X e1 f1) (h2 : DE X e2 f2) (hbase : attributeBase o m X.env (eval o X.env) = eval o X.env := by rfl)
    (hst : starEach [e1, .Starred e2 p] X.env = [(false, eval e1 X.env), (true, eval e2 X.env)] := by rfl) : DE X (.Call (.Attribute o m apos) [e1, .Starred e2 p] [] pos) (gMethSB C m sp fa f1 f2) :=
  imp (methSB D c hr he h1 h2 hbase hst) fun σ H Q ⟨δ, F, W, M, Qd, ev, s, h, kk⟩ => by
    refine ⟨δ, F, W, M, _, ev, s, h, fun v H1 W1 d M1 g1 s1 r1 q1 => ?_⟩
    obtain ⟨a, dx, vs, gs, rfl, ha, rv, hn⟩ := obj_of s1 r1 q1.1
    refine ⟨dx, vs, ha, rv.none hn, fun q g hq => ?_⟩
    have s1' := s1.addF hq (.met g a)
    have g1' : Grow F W1 H1 W1 (upd H1 q (.met g a)) := grow_new s1 hq
    refine ⟨δ, fadd F q, W1, M1, _, (ev.mono g1).mono g1', s1', q1.2, fun y H2 W2 dy M2 g2 s2 r2 q2 => ⟨δ, fadd F q, W2, M2, _, ((ev.mono g1).mono g1').mono g2, s2, q2, fun z H3 W3 dz M3 g3 s3 r3 q3 => ?_⟩⟩
    obtain ⟨b, ws, ds, rfl, hs, rws, q3⟩ := items_of s3 r3 q3
    have gf : Grow F W H W3 H3 := (g1.trans g1').trans ((g2.trans g3).less fun _ h => .inr h)
    exact ⟨ws, hs.symm, by rw [(g2.trans g3).f q (.inl rfl)]; exact upd_same, F, W3, M3, _, Qd, X0, .cons ((r1.mono g1').mono (g2.trans g3)) (.cons (r2.mono g3) rws), s3.lessF fun _ h => .inr h, q3, kk.mono gf, fun _ _ _ _ _ _ _ _ _ z => z.elim⟩
end
structure HasProp (K : PySem.W.Frag) (C : Addr) (m qual : Str) (st : Stmt) : Prop where
  ex : ∃ p g fd, Fun K m qual st g fd ∧ PropOf K C m p g
theorem prop_mk {K : PySem.W.Frag} {C p g : Addr} {m qual : Str} {st : Stmt} {oc : Value} {od an : Option Addr} {osl : Array (Option Value)} {kV doc pm cdv ct : Value} {rest : List Value} (a : PySem.W.findIn K (.ref C) m = some (some (.ref p)))
    (b : PySem.W.specialIn K (.ref p) "__get__" = some (some (.builtin "property.__get__"))) (t : PySem.W.takesIn K (.ref p) = some true) (r : PySem.W.recIn K p "property" = some (.ref g :: rest))
    (l : K.lookup g = some ⟨oc, od, .func (PySem.W.fnOf m qual (defArgs st) (defBody st) (defScope st) .none kV doc pm an cdv ct), osl⟩) (c : PySem.W.codeIn K cdv qual = true) (k : PySem.W.keepIn K (.ref g) = true) : HasProp K C m qual st :=
  ⟨p, g, _, fun_mk l c k, a, b, t, _, r⟩
structure KnPD (P : Program) (w : World) (K : PySem.W.Frag) (mg : Str → Option Value) (base : Heap) (C : Addr) (m : Str) (k : Nat) (ps : List Str) (sp : DSp) : Prop where
  ex : ∃ p g fd, FnOk P w K mg base CX0 k g fd ps (LSp K sp) ∧ PropOf K C m p g ∧ Binds K fd ps []
theorem KnPD.of {P : Program} {w : World} {K : PySem.W.Frag} {mg : Str → Option Value} {base : Heap} {C : Addr} {m qual : Str} {st : Stmt} {N ps : List Str} {k : Nat} {sp : DSp} (F : HasProp K C m qual st) (S : FnScope N ps (defScope st))
    (hb : ∀ (kV doc pm : Value) (an : Option Addr) (cdv ct : Value) (us : List Value), us.length = ps.length → bindArgs (PySem.W.fnOf m qual (defArgs st) (defBody st) (defScope st) .none kV doc pm an cdv ct) ⟨us, []⟩ = pure (ps.zip us))
    (len : ∀ ds M Q E, sp ds M Q E → ds.length = ps.length)
    (hbody : ∀ (f : Addr) (cdv : Value) (A : Around) (outer : List Env) (s : Shared) (H : Hp) (E : XK), Room k (A.deeper (envOfC qual (defScope st) s.heap.objs.size f cdv)) →
      ∃ t, DB (cxOf CX0 P w K mg base N qual (defScope st) f cdv A outer s H E).nox (defBody st) t ∧ ∀ ds M Q Ed, sp ds M Q Ed → t (bodyE Q) (startD N ds) M) : KnPD P w K mg base C m (k + 1) ps sp := by
  obtain ⟨p, g, fd, F, pr⟩ := F.ex
  exact ⟨p, g, fd, F.ok S (lsp_len len) (fun cdv A outer s H vs Q E hr ⟨F, W, M, ds, Qd, Ed, r, st, h, kk, kx⟩ => by
    obtain ⟨t, d, q⟩ := hbody g cdv A outer s H E hr
    exact ⟨_, d, ls_body r st kk (q ds M Qd Ed h)⟩), pr, F.binds hb⟩
section
variable {X : Cx} {k : Nat} {ps : List Str} {sp : DSp} {x m f : Str} {p pos apos : Pos} {a b e e1 e2 o : Expr} {es : List Expr} {fs : DTA} {C : Addr} {fa f1 f2 : DTE}
def gProp (C : Addr) (sp : DSp) (fa : DTE) : DTE := fun δ M Q => fa δ M fun x M1 => objK C x M1 (fun _ => True) ∧ sp [x] M1 Q X0
theorem d_prop (D : KnPD X.prog X.w X.K X.mg X.base C f k ps sp) (c : Cls X.K C) (hr : Room (k + 1) X.A) (he : DE X e fa) (hab : attributeBase e f X.env (eval e X.env) = eval e X.env := by rfl) : DE X (.Attribute e f pos) (gProp C sp fa) := by
  obtain ⟨p, g, fd, F, pr, b⟩ := D.ex
  refine imp (pe_prop he c pr F hr b .nil pass0 hab) fun σ H Q ⟨δ, F, W, M, Qd, ev, s, h, kk⟩ => ⟨δ, F, W, M, _, ev, s, h, fun v H1 W1 d M1 g1 s1 r1 q1 => ?_⟩
  obtain ⟨a, dx, vs, gs, rfl, ha, rv, _⟩ := obj_of s1 r1 q1.1
  exact ⟨a, dx, vs, rfl, ha, F, W1, M1, _, Qd, X0, .cons r1 .nil, s1, q1.2, kk.mono g1, fun _ _ _ _ _ _ _ _ _ z => z.elim⟩
/-- .. that changes no more once it is made -/
def gMakeS (C : Addr) (sp : DSp) (gV : List Da → List Da → List Da) (fs fk : DTA) : DTE := fun δ M Q => fs δ M fun ds M1 => fk δ M1 fun zs M2 => ∀ p, M2 p = none → sp (gV (.ref p :: ds) zs) (mput M2 p (.ins C [])) (fun v M3 => v = .non ∧ ∃ gs, M3 p = some (.ins C gs) ∧ Q (.obj C gs) (mdel M3 p)) X0
theorem make_end {K : PySem.W.Frag} {F W : Addr → Prop} {M : Mm} {H : Hp} {Q : VK} {Qd : DK} {vs : List V} {gd : List Da} {a dx : Addr} (s : Stt K F W M H) (ha : H a = none) (hd : H dx = none) (hx : dx ≠ a) (kk : Kt (rE K) K F W H Qd Q)
    (rg : ∀ {W' H'}, Grow F W H W' H' → RDs K W' H' vs gd) (st : Bool)
    (h : sp gd (mput M a (.ins C [])) (fun v M3 => v = .non ∧ (if st = true then ∃ gs, M3 a = some (.ins C gs) ∧ Qd (.obj C gs) (mdel M3 a) else Qd (.ref a) M3)) X0) :
    LSp K sp vs (upd (upd H dx (.own a)) a (.ins C dx [])) (fun v H2 => v = .non ∧ Q (.ref a) H2) E0 := by
  have s1 := s.junk hd (.own a)
  have ha1 : (upd H dx (.own a)) a = none := by rw [upd_ne (Ne.symm hx)]; exact ha
  have s2 := s1.newM ha1 (o := .ins C dx []) (u := .ins C []) (.ins .nil)
  have g2 : Grow F W H W (upd (upd H dx (.own a)) a (.ins C dx [])) := (grow_new s hd).trans (grow_new s1 ha1)
  refine ⟨F, W, _, gd, _, X0, rg g2, s2, h, fun v H3 W3 d M3 g3 s3 r3 q3 => ?_, fun _ _ _ _ _ _ _ _ _ z => z.elim⟩
  obtain ⟨rfl, q3⟩ := q3
  cases r3
  refine ⟨rfl, ?_⟩
  cases st with
  | true =>
    obtain ⟨gs, hm, q⟩ := q3
    obtain ⟨u, hu, mr⟩ := s3.mem _ _ hm
    obtain ⟨s4, g4⟩ := s3.settle hm
    cases mr with
    | ins rv => exact (kk.mono ((g2.trans g3).trans g4)).now s4 (.obj (.inl rfl) hu (rv.mono g4)) q
  | false => exact (kk.mono (g2.trans g3)).now s3 (.ref a) q3
end
structure HasInitK (K : PySem.W.Frag) (C : Addr) (qual : Str) (st : Stmt) (kws : List (Str × V)) : Prop where
  ex : ∃ f fd, FunD K "__init__" qual (defArgs st) (defBody st) (defScope st) [] kws f fd ∧ BMeth K C "__init__" f
theorem initk_mk {K : PySem.W.Frag} {C f D : Addr} {qual kw : Str} {v : V} {u : Value} {st : Stmt} {oc : Value} {od an : Option Addr} {osl : Array (Option Value)} {doc pm cdv ct : Value} (a : PySem.W.findIn K (.ref C) "__init__" = some (some (.ref f))) (i : PySem.W.isFn K (.ref f) = true)
    (l : K.lookup f = some ⟨oc, od, .func (PySem.W.fnOf "__init__" qual (defArgs st) (defBody st) (defScope st) .none (.ref D) doc pm an cdv ct), osl⟩) (c : PySem.W.codeIn K cdv qual = true) (k : PySem.W.keepIn K (.ref f) = true)
    (gf : PySem.W.specialIn K (.ref f) "__get__" = some (some (.builtin "function.__get__"))) (tk : PySem.W.takesIn K (.ref f) = some false) (fi : PySem.W.fnIn K f = true) (kd : PySem.W.nsIn K D kw = some (some u)) (ru : RelV v u) (cp : PySem.W.copiedNames.contains "__init__" = false) : HasInitK K C qual st [(kw, v)] :=
  ⟨f, _, ⟨⟨oc, od, _, _, doc, pm, an, cdv, ct, osl, rfl, l, c, .inl ⟨rfl, rfl⟩, .inr ⟨D, rfl, fun q hq => by cases hq with | head => exact ⟨u, kd, ru⟩ | tail _ h => cases h⟩⟩, k⟩, ⟨⟨a, i, k⟩, gf, tk, cp, fi⟩⟩
/-- a promise of an __init__ with keywords ks behind n positional parameters -/
structure KnK (P : Program) (w : World) (K : PySem.W.Frag) (mg : Str → Option Value) (base : Heap) (C : Addr) (k : Nat) (ps : List Str) (n : Nat) (ks : List Str) (dvs : List V) (sp : DSp) : Prop where
  ex : ∃ f fd, FnOk P w K mg base CX0 k f fd ps (LSp K sp) ∧ BMeth K C "__init__" f ∧ (∃ ds, Vals dvs ds ∧ Binds K fd ps ds) ∧ KBn K fd ps n ks (fun us ws => us ++ ws) (fun vs zs => vs ++ zs)
theorem KnK.of {P : Program} {w : World} {K : PySem.W.Frag} {mg : Str → Option Value} {base : Heap} {C : Addr} {qual : Str} {st : Stmt} {N ps : List Str} {k n : Nat} {ks : List Str} {kws : List (Str × V)} {sp : DSp} (F : HasInitK K C qual st kws) (S : FnScope N ps (defScope st)) (hk : kws ≠ []) (hn : n + kws.length = ps.length)
    (h1 : ∀ (D : Addr) (doc pm : Value) (an : Option Addr) (cdv ct : Value) (us zs : List Value), us.length = n → zs.length = kws.length →
      KwChain D ((kws.map (·.1)).zip zs) (bindArgs (PySem.W.fnOf "__init__" qual (defArgs st) (defBody st) (defScope st) .none (.ref D) doc pm an cdv ct) ⟨us, []⟩) (ps.zip (us ++ zs)))
    (h2 : ∀ (D : Addr) (doc pm : Value) (an : Option Addr) (cdv ct : Value) (us ws : List Value), us.length = n → ws.length = ks.length →
      bindArgs (PySem.W.fnOf "__init__" qual (defArgs st) (defBody st) (defScope st) .none (.ref D) doc pm an cdv ct) ⟨us, ks.zip ws⟩ = pure (ps.zip (us ++ ws)))
    (len : ∀ ds M Q E, sp ds M Q E → ds.length = ps.length)
    (hbody : ∀ (f : Addr) (cdv : Value) (A : Around) (outer : List Env) (s : Shared) (H : Hp) (E : XK), Room k (A.deeper (envOfC qual (defScope st) s.heap.objs.size f cdv)) →
      ∃ t, DB (cxOf CX0 P w K mg base N qual (defScope st) f cdv A outer s H E).nox (defBody st) t ∧ ∀ ds M Q Ed, sp ds M Q Ed → t (bodyE Q) (startD N ds) M) : KnK P w K mg base C (k + 1) ps n ks (kws.map (·.2)) sp := by
  obtain ⟨f, fd, F, B⟩ := F.ex
  refine ⟨f, fd, F.ok S (lsp_len len) (fun cdv A outer s H vs Q E hr ⟨F, W, M, ds, Qd, Ed, r, st, h, kk, kx⟩ => by
    obtain ⟨t, d, q⟩ := hbody f cdv A outer s H E hr
    exact ⟨_, PSs.nox d, ls_body r st kk (q ds M Qd Ed h)⟩), B, F.binds0 n hk hn h1, ?_⟩
  obtain ⟨mv, kb⟩ := F.kbinds0 (ps := ps) n ks [] (fun us _ ws => us ++ ws) hk (fun q hq => nomatch hq) (fun r1 _ r3 => r1.append r3) fun D doc pm an cdv ct us mv ws l1 l2 l3 => h2 D doc pm an cdv ct us ws l1 l3
  exact kb
section
variable {X : Cx} {k n : Nat} {ps ks : List Str} {sp : DSp} {x : Str} {p pos : Pos} {e : Expr} {es : List Expr} {kws : List Keyword} {fs fk : DTA} {C : Addr} {dvs : List V} {dfl : List Da}
def appD (dfl : List Da) (xs _ : List Da) : List Da := xs ++ dfl
theorem d_makeD (M : MgOf X.K X.mg) (c : HasCls X.K x C) (D : KnK X.prog X.w X.K X.mg X.base C k ps n ks dvs sp) (hd : ∀ W H, RDs X.K W H dvs dfl) (hr : Room (k + 1) X.A) (ha : DA X (e :: es) fs) (hg : Gl X x := by rfl) (hdb : (x == ("__debug__" : Str)) = false := by decide)
    (he : starEach (e :: es) X.env = (false, eval e X.env) :: starEach es X.env := by rfl) (hpl : (backTo pos (starEach es X.env)).any (·.1) = false := by rfl) : DE X (.Call (.Name x p) (e :: es) [] pos) (gMakeS C sp (appD dfl) fs gNil) := by
  obtain ⟨f, fd, F, B, ⟨us, hu, b⟩, _⟩ := D.ex
  refine imp (pe_make ⟨c.mks, B.mt.at_, B.mt.fn, c.kc⟩ F hr hg (M.of _ _ c.at_) b hu pass0 ha hdb he hpl) fun σ H Q ⟨δ, F, W, M, Qd, ev, s, h, kk⟩ => ⟨δ, F, W, M, _, ev, s, h, fun vs H1 W1 ds M1 g1 s1 r1 q1 => fun a dx h1 h2 h3 => ?_⟩
  exact make_end s1 h1 h2 h3 (kk.mono g1) (gd := .ref a :: (ds ++ dfl)) (fun g => .cons (.ref a) ((r1.mono g).append (hd _ _))) true (q1 a (s1.freeM h1))
end
end U
set_option Elab.async false
set_option linter.all false
set_option maxRecDepth 100000
set_option maxHeartbeats 2000000
namespace U
open PySem PySem.Spec PyProof.Rows L2
/-- the type's name -/
def tyS : Da → String
  | .non => "NoneType"
  | .bl _ => "bool"
  | .int _ => "int"
  | .str _ => "str"
  | .lst _ => "list"
  | .tup _ => "tuple"
  | .dct _ => "dict"
  | _ => ""
/-- what isinstance rules want of a class of the text -/
structure IsC (K : PySem.W.Frag) (C : Addr) : Prop where
  cl : Cls K C
  ha : PySem.W.findIn K (.ref C) "__class__" = some (some (.builtin "object.__class__"))
  hn : PySem.W.specialIn K (.builtin "object.__class__") "__get__" = some (some (.builtin "getset_descriptor.__get__"))
  tk : PySem.W.takesIn K (.builtin "object.__class__") = some true
  hm : PySem.W.mroIn K C (.type "object") = some true
theorem HasCls.isC {K : PySem.W.Frag} {x : Str} {C : Addr} (c : HasCls K x C) : IsC K C := ⟨c.cl, c.ha, c.hn, c.tk, c.hm⟩
section
variable {K : PySem.W.Frag} {F W : Addr → Prop} {M : Mm} {H : Hp}
theorem ty_lst {a : Addr} {vs : List V} : Sl K W H a vs → TyX K H (.ref a) (.type "list")
  | .inl ⟨_, .inl h⟩ => .base (.lst h)
  | .inl ⟨_, .inr ⟨_, h⟩⟩ => .base (.frz h)
  | .inr (.inl (.inl h)) => nomatch h
  | .inr (.inl (.inr ⟨_, h⟩)) => nomatch h
  | .inr (.inr ⟨_, _, _, h1, h2, _⟩) => .kList h1 h2
theorem ty_tup {a : Addr} {vs : List V} : Sp' K W H a vs → TyX K H (.ref a) (.type "tuple")
  | .inl ⟨_, .inl h⟩ => .base (.tup h)
  | .inl ⟨_, .inr ⟨_, h⟩⟩ => .fTuple h
  | .inr ⟨.inl (.inl h), _⟩ => nomatch h
  | .inr ⟨.inl (.inr ⟨_, h⟩), _⟩ => nomatch h
  | .inr ⟨.inr ⟨_, _, _, h1, h2, _⟩, _⟩ => .kTuple h1 h2
theorem ty_ins {a C dx : Addr} {vs : List (Str × V)} (c : IsC K C) (h : H a = some (.ins C dx vs)) : TyX K H (.ref a) (.ref C) := .base (.ins h c.cl c.ha c.hn c.tk c.hm)
/-- the type as a value: a built-in one, or a class of the text -/
def tyK (K : PySem.W.Frag) (x : Da) (M : Mm) (k : Value → Prop) : Prop := match x with
  | .obj C _ => IsC K C ∧ k (.ref C)
  | .ref p => (∃ xs, M p = some (.lst xs) ∧ k (.type "list")) ∨ (∃ xs, M p = some (.dct xs) ∧ k (.type "dict")) ∨ ∃ C fs, M p = some (.ins C fs) ∧ IsC K C ∧ k (.ref C)
  | .ty _ => False
  | .exn _ _ _ => False
  | x => k (.type (tyS x))
theorem ty_of {v : V} {d : Da} (s : Stt K F W M H) (r : RD K W H v d) {k : Value → Prop} (h : tyK K d M k) : ∃ t, TyX K H v t ∧ k t := by
  cases r with
  | non => exact ⟨_, .base .non, h⟩
  | bl b => exact ⟨_, .base (.bl b), h⟩
  | int b => exact ⟨_, .base (.int b), h⟩
  | str b => exact ⟨_, .base (.str b), h⟩
  | ty b => exact h.elim
  | lst hs rv => exact ⟨_, ty_lst hs, h⟩
  | tup hs rv => exact ⟨_, ty_tup hs, h⟩
  | obj w hs rv => exact ⟨_, ty_ins h.1 hs, h.2⟩
  | dct w hs rv => exact ⟨_, .base (.dK hs), h⟩
  | exn _ _ _ => exact h.elim
  | ref p =>
    rcases h with ⟨xs, hm, h⟩ | ⟨xs, hm, h⟩ | ⟨C, fs, hm, c, h⟩
    · obtain ⟨vs, hv, _⟩ := s.list hm
      exact ⟨_, .base (.lst hv), h⟩
    · obtain ⟨u, hu, mr⟩ := s.mem _ _ hm
      cases mr with
      | dct rv => exact ⟨_, .base (.dK hu), h⟩
    · obtain ⟨u, hu, mr⟩ := s.mem _ _ hm
      cases mr with
      | ins rv => exact ⟨_, ty_ins c hu, h⟩
end
/-- isinstance, one class -/
def kIsi (K : PySem.W.Frag) : DC := fun xs M Q => match xs with
  | [.non, .ty T] => kinds.contains T = true ∧ Q (.bl (isK "NoneType" T)) M
  | [.bl _, .ty T] => kinds.contains T = true ∧ Q (.bl (isK "bool" T)) M
  | [.int _, .ty T] => kinds.contains T = true ∧ Q (.bl (isK "int" T)) M
  | [.str _, .ty T] => kinds.contains T = true ∧ Q (.bl (isK "str" T)) M
  | [.lst _, .ty T] => kinds.contains T = true ∧ Q (.bl (isK "list" T)) M
  | [.tup _, .ty T] => kinds.contains T = true ∧ Q (.bl (isK "tuple" T)) M
  | [.dct _, .ty T] => kinds.contains T = true ∧ Q (.bl (isK "dict" T)) M
  | [x, .ty T] => tyK K x M fun t => ∃ b, PySem.W.kitOne K t (.type T) = some b ∧ Q (.bl b) M
  | [x, .ref C] => tyK K x M fun t => ∃ b, PySem.W.kitOne K t (.ref C) = some b ∧ Q (.bl b) M
  | _ => False
section
variable {X : Cx} {k : Nat} {ps : List Str} {sp : DSp} {x m f : Str} {p pos apos : Pos} {a b e e1 e2 o : Expr} {es : List Expr} {fs : DTA} {C : Addr} {fa f1 f2 : DTE} {g : DC}
theorem c_disi : CD X (.builtin "isinstance") (kIsi X.K) := cd_imp fun vs H Q ⟨F, W, M, ds, Qd, r, s, h, k⟩ => by
  refine ⟨_, call_isi, ?_⟩
  have go : ∀ {v c : V} {d e : Da} {T : Value} {b : Bool} {t : Value}, vs = [v, c] → TyX X.K H v t → ClsV c T → PySem.W.kitOne X.K t T = some b → Qd (.bl b) M → rIsi X.K vs H Q := fun e1 ty cc e2 q => ⟨_, _, _, _, _, e1, cc, ty, e2, k.now s (.bl _) q⟩
  unfold kIsi at h
  split at h
  · obtain ⟨v, u, rfl, r1, r2⟩ := r.two; cases r1; cases r2; exact go (d := .non) (e := .non) rfl (.base .non) (.ty _) (kit_ok (by decide) h.1) h.2
  · obtain ⟨v, u, rfl, r1, r2⟩ := r.two; cases r1; cases r2; exact go (d := .non) (e := .non) rfl (.base (.bl _)) (.ty _) (kit_ok (by decide) h.1) h.2
  · obtain ⟨v, u, rfl, r1, r2⟩ := r.two; cases r1; cases r2; exact go (d := .non) (e := .non) rfl (.base (.int _)) (.ty _) (kit_ok (by decide) h.1) h.2
  · obtain ⟨v, u, rfl, r1, r2⟩ := r.two; cases r1; cases r2; exact go (d := .non) (e := .non) rfl (.base (.str _)) (.ty _) (kit_ok (by decide) h.1) h.2
  · obtain ⟨v, u, rfl, r1, r2⟩ := r.two
    cases r2
    cases r1 with
    | lst hs rv => exact go (d := .non) (e := .non) rfl (ty_lst hs) (.ty _) (kit_ok (by decide) h.1) h.2
  · obtain ⟨v, u, rfl, r1, r2⟩ := r.two
    cases r2
    cases r1 with
    | tup hs rv => exact go (d := .non) (e := .non) rfl (ty_tup hs) (.ty _) (kit_ok (by decide) h.1) h.2
  · obtain ⟨v, u, rfl, r1, r2⟩ := r.two
    cases r2
    cases r1 with
    | dct w hs rv => exact go (d := .non) (e := .non) rfl (.base (.dK hs)) (.ty _) (kit_ok (by decide) h.1) h.2
  · obtain ⟨v, u, rfl, r1, r2⟩ := r.two
    cases r2
    obtain ⟨t, ty, b, e, q⟩ := ty_of s r1 h
    exact go (d := .non) (e := .non) rfl ty (.ty _) e q
  · obtain ⟨v, u, rfl, r1, r2⟩ := r.two
    cases r2
    obtain ⟨t, ty, b, e, q⟩ := ty_of s r1 h
    exact go (d := .non) (e := .non) rfl ty (.own _) e q
  · exact h.elim
def tupI (ns : List Int) : Da := .tup (ns.map Da.int)
theorem RDs.tups {K : PySem.W.Frag} {W : Addr → Prop} {H : Hp} : ∀ {vs : List V} {ms : List (List Int)}, RDs K W H vs (ms.map tupI) → ∃ ks : List (Addr × List Int), vs = ks.map (fun p => V.ref p.1) ∧ ms = ks.map (·.2) ∧ ∀ p ∈ ks, Sp' K W H p.1 (p.2.map V.int)
  | _, [], .nil => ⟨[], rfl, rfl, fun p hp => nomatch hp⟩
  | _, m :: ms, .cons h k => by
    obtain ⟨ks, e1, e2, e3⟩ := RDs.tups k
    cases h with
    | @tup a vs _ hs rv =>
      rw [rv.ints] at hs
      exact ⟨(a, m) :: ks, by rw [e1]; rfl, by rw [e2]; rfl, fun p hp => by
        rcases List.mem_cons.mp hp with e | e
        · rw [e]; exact hs
        · exact e3 p e⟩
end
end U
set_option Elab.async false
set_option linter.all false
set_option maxRecDepth 100000
set_option maxHeartbeats 2000000
namespace U
open PySem PySem.Spec PyProof.Rows L2
theorem noattr_mk {K : PySem.W.Frag} {C : Addr} {f : Str} (a : PySem.W.findIn K (.ref C) f = some none) : NoAttr K C f := a
theorem hu_of {k : Nat} {A : Around} (r : Room k A) : A.units + 64 < cLine := by have := r.un; omega
theorem hu1_of {k : Nat} {A : Around} (r : Room k A) : A.units + 65 < cLine := by have := r.un; omega
section
variable {X : Cx} {fs : DTA}
end
theorem asInts_fun {α : Type} (g : α → Int) (l : List α) : asInts (l.map fun x => Da.int (g x)) = some (l.map g) := by
  rw [show (l.map fun x => Da.int (g x)) = (l.map g).map Da.int from by rw [List.map_map]; rfl]
  exact asInts_map _
theorem asBls_fun {α : Type} (g : α → Bool) (l : List α) : asBls (l.map fun x => Da.bl (g x)) = some (l.map g) := by
  rw [show (l.map fun x => Da.bl (g x)) = (l.map g).map Da.bl from by rw [List.map_map]; rfl]
  exact asBls_map _
/-- a loop over what was numbers -/
theorem forD_map {α : Type} {g : DTG} {tb : DTS} {D : DEnds} {f : α → Da} (I : List α → De → Mm → Prop)
    (hs : ∀ x l δ M, I (x :: l) δ M → (∀ δ' M', I l δ' M' → forD g tb D (l.map f) δ' M') → g (f x) δ M fun δ2 M2 => tb { D with nx := forD g tb D (l.map f), ct := forD g tb D (l.map f), bk := D.nx } δ2 M2)
    (hn : ∀ δ M, I [] δ M → D.nx δ M) : ∀ {l : List α} {δ : De} {M : Mm}, I l δ M → forD g tb D (l.map f) δ M
  | [], δ, M, h => hn δ M h
  | x :: l, δ, M, h => hs x l δ M h fun δ' M' h' => forD_map I hs hn h'
theorem rngD0 (n : Nat) : rngD 0 n = (List.range n).map fun i : Nat => Da.int (i : Int) := by
  unfold rngD
  congr 1
  funext i
  rw [Int.zero_add]
theorem rngD0' {j : Int} {n : Nat} (h : j = n) : rngD 0 j.toNat = (List.range n).map fun i : Nat => Da.int (i : Int) := by
  subst h
  exact rngD0 n
theorem rok {i : Int} (h1 : -1000000 ≤ i) (h2 : i ≤ 1000000) : Rok i := ⟨by omega, by omega⟩
/-- a comprehension that changes nothing -/
theorem lcD_pure {c : CT} {tt : DTT} {te : DTE} {δ : De} {M : Mm} (p : Da → Bool) (f : Da → Da) : ∀ {ds : List Da} {k : List Da → Mm → Prop}, (∀ d ∈ ds, c.ok d ∧ ∀ Q : Bool → Mm → Prop, Q (p d) M → tt (c.set d δ) M Q) →
    (∀ d ∈ ds, p d = true → ∀ Q : DK, Q (f d) M → te (c.set d δ) M Q) → k ((ds.filter p).map f) M → lcD c tt te δ ds k M
  | [], k, _, _, h => h
  | d :: ds, k, h1, h2, h => by
    obtain ⟨o, t⟩ := h1 d List.mem_cons_self
    refine ⟨o, t _ ?_⟩
    have r1 : ∀ e ∈ ds, c.ok e ∧ ∀ Q : Bool → Mm → Prop, Q (p e) M → tt (c.set e δ) M Q := fun e he => h1 e (List.mem_cons_of_mem _ he)
    have r2 : ∀ e ∈ ds, p e = true → ∀ Q : DK, Q (f e) M → te (c.set e δ) M Q := fun e he => h2 e (List.mem_cons_of_mem _ he)
    cases e : p d with
    | true =>
      rw [List.filter_cons_of_pos e, List.map_cons] at h
      exact h2 d List.mem_cons_self e _ (lcD_pure p f r1 r2 h)
    | false =>
      rw [List.filter_cons_of_neg (by rw [e]; exact Bool.false_ne_true)] at h
      exact lcD_pure p f r1 r2 h
/-- .. over what was something else -/
theorem lcD_map {α : Type} {c : CT} {tt : DTT} {te : DTE} {δ : De} {M : Mm} {g : α → Da} (p : α → Bool) (f : α → Da) : ∀ {l : List α} {k : List Da → Mm → Prop}, (∀ x ∈ l, c.ok (g x) ∧ ∀ Q : Bool → Mm → Prop, Q (p x) M → tt (c.set (g x) δ) M Q) →
    (∀ x ∈ l, p x = true → ∀ Q : DK, Q (f x) M → te (c.set (g x) δ) M Q) → k ((l.filter p).map f) M → lcD c tt te δ (l.map g) k M
  | [], k, _, _, h => h
  | x :: l, k, h1, h2, h => by
    obtain ⟨o, t⟩ := h1 x List.mem_cons_self
    refine ⟨o, t _ ?_⟩
    have r1 : ∀ e ∈ l, c.ok (g e) ∧ ∀ Q : Bool → Mm → Prop, Q (p e) M → tt (c.set (g e) δ) M Q := fun e he => h1 e (List.mem_cons_of_mem _ he)
    have r2 : ∀ e ∈ l, p e = true → ∀ Q : DK, Q (f e) M → te (c.set (g e) δ) M Q := fun e he => h2 e (List.mem_cons_of_mem _ he)
    cases e : p x with
    | true =>
      rw [List.filter_cons_of_pos e, List.map_cons] at h
      exact h2 x List.mem_cons_self e _ (lcD_map p f r1 r2 h)
    | false =>
      rw [List.filter_cons_of_neg (by rw [e]; exact Bool.false_ne_true)] at h
      exact lcD_map p f r1 r2 h
/-- .. without a test -/
theorem lcD_all {α : Type} {c : CT} {te : DTE} {δ : De} {M : Mm} {g : α → Da} (f : α → Da) {l : List α} {k : List Da → Mm → Prop} (h1 : ∀ x ∈ l, c.ok (g x)) (h2 : ∀ x ∈ l, ∀ Q : DK, Q (f x) M → te (c.set (g x) δ) M Q)
    (h : k (l.map f) M) : lcD c gYes te δ (l.map g) k M :=
  lcD_map (fun _ => true) f (fun x hx => ⟨h1 x hx, fun Q q => q⟩) (fun x hx _ => h2 x hx) (by rw [List.filter_eq_self.mpr (fun _ _ => rfl)]; exact h)
/-- a loop over numbers from 0 on: I by how many are done -/
theorem forD_rng {g : DTG} {tb : DTS} {D : DEnds} {n : Nat} (I : Nat → De → Mm → Prop)
    (hs : ∀ (j : Nat) δ M (NX : De → Mm → Prop), j < n → I j δ M → (∀ δ' M', I (j + 1) δ' M' → NX δ' M') → g (.int (j : Int)) δ M fun δ2 M2 => tb { D with nx := NX, ct := NX, bk := D.nx } δ2 M2)
    (hn : ∀ δ M, I n δ M → D.nx δ M) {δ : De} {M : Mm} (h : I 0 δ M) : forD g tb D (rngD 0 n) δ M := by
  rw [rngD0, List.range_eq_range']
  have go : ∀ (k j : Nat) δ M, j + k = n → I j δ M → forD g tb D ((List.range' j k).map fun i : Nat => Da.int (i : Int)) δ M := by
    intro k
    induction k with
    | zero => intro j δ M e h; have e : j = n := by omega
              subst e; exact hn δ M h
    | succ k ih => intro j δ M e h; exact hs j δ M _ (by omega) h fun δ' M' h' => ih (j + 1) δ' M' (by omega) h'
  exact go n 0 δ M (by omega) h
theorem rds_ints {K : PySem.W.Frag} {W : Addr → Prop} {H : Hp} : ∀ ns : List Int, RDs K W H (ns.map V.int) (ns.map Da.int)
  | [] => .nil
  | n :: ns => .cons (.int n) (rds_ints ns)
theorem start_state {K : PySem.W.Frag} {H : Hp} {a : Addr} {ns : List Int} (hS : SqL K H a (ns.map V.int)) : Stt K NoF (fun b => b = a ∧ Rd H a (.lst (ns.map V.int))) (fun _ => none) H ∧ RDs K (fun b => b = a ∧ Rd H a (.lst (ns.map V.int))) H [.ref a] [.lst (ns.map Da.int)] := by
  refine ⟨⟨fun b ⟨e, w⟩ => ?_, fun a w => w.elim, fun a o e => (nomatch e), fun a o e => (nomatch e), fun b o ⟨e, w⟩ q => ?_⟩, .cons (.lst (vs := ns.map V.int) ?_ (rds_ints ns)) .nil⟩
  · subst e
    rcases w with h | ⟨o, h⟩
    · exact ⟨_, h⟩
    · exact ⟨_, h⟩
  · subst e
    rcases w with h | ⟨o, h⟩
    · rw [h] at q; cases q; exact trivial
    · rw [h] at q; cases q; exact trivial
  · rcases hS with h | h
    · exact .inl ⟨⟨rfl, h⟩, h⟩
    · exact .inr (.inr h)
/-- the law's promise -/
def spLawD : DSp := fun ds M Q _ => ∃ ns : List Int, ds = [.lst (ns.map Da.int)] ∧ ns.length ≤ 63 ∧ ∀ M', Q (.bl true) M'
end U
set_option Elab.async false
set_option linter.all false
set_option maxRecDepth 100000
set_option maxHeartbeats 2000000
namespace U
open PySem PySem.Spec PyProof.Rows L2
/-- the number with these bits below N -/
def ofB (f : Nat → Bool) : Nat → Nat
  | 0 => 0
  | n + 1 => ofB f n + if f n = true then 2 ^ n else 0
theorem ofB_lt (f : Nat → Bool) : ∀ n, ofB f n < 2 ^ n
  | 0 => Nat.one_pos
  | n + 1 => by
    have := ofB_lt f n
    unfold ofB
    rw [Nat.pow_succ]
    split <;> omega
theorem testBit_ofB (f : Nat → Bool) : ∀ n k, (ofB f n).testBit k = (decide (k < n) && f k)
  | 0, k => by simp [ofB]
  | n + 1, k => by
    have ih := testBit_ofB f n k
    have lt := ofB_lt f n
    unfold ofB
    cases h : f n with
    | false =>
      rw [if_neg (by decide), Nat.add_zero, ih]
      by_cases e : k = n
      · subst e; simp [h]
      · have : decide (k < n + 1) = decide (k < n) := by congr 1; apply propext; omega
        rw [this]
    | true =>
      rw [if_pos rfl, Nat.add_comm]
      by_cases e : k = n
      · subst e
        rw [Nat.testBit_two_pow_add_eq, Nat.testBit_lt_two_pow lt]
        simp [h]
      · by_cases l : k < n
        · rw [Nat.testBit_two_pow_add_gt l, ih]
          have : decide (k < n + 1) = decide (k < n) := by congr 1; apply propext; omega
          rw [this]
        · have hk : n + 1 ≤ k := by omega
          have : 2 ^ n + ofB f n < 2 ^ k := by
            have h1 : 2 ^ (n + 1) ≤ 2 ^ k := Nat.pow_le_pow_right (by decide) hk
            rw [Nat.pow_succ] at h1
            omega
          rw [Nat.testBit_lt_two_pow this]
          have : decide (k < n + 1) = false := decide_eq_false (by omega)
          rw [this]
          rfl
/-- a number by its bits -/
theorem ofB_self {r n : Nat} (h : r < 2 ^ n) : ofB (fun k => r.testBit k) n = r := by
  apply Nat.eq_of_testBit_eq
  intro k
  rw [testBit_ofB]
  by_cases l : k < n
  · rw [decide_eq_true l, Bool.true_and]
  · rw [decide_eq_false l, Bool.false_and, Nat.testBit_lt_two_pow (Nat.lt_of_lt_of_le h (Nat.pow_le_pow_right (by decide) (by omega)))]
theorem bits_eq {a b n : Nat} (ha : a < 2 ^ n) (hb : b < 2 ^ n) (h : ∀ k < n, a.testBit k = b.testBit k) : a = b := by
  apply Nat.eq_of_testBit_eq
  intro k
  by_cases l : k < n
  · exact h k l
  · have hp : 2 ^ n ≤ 2 ^ k := Nat.pow_le_pow_right (by decide) (by omega)
    rw [Nat.testBit_lt_two_pow (Nat.lt_of_lt_of_le ha hp), Nat.testBit_lt_two_pow (Nat.lt_of_lt_of_le hb hp)]
theorem has_bit (r k : Nat) : decide ((r : Int) / ((2 ^ k : Nat) : Int) % 2 = 1) = r.testBit k := by
  rw [Nat.testBit_eq_decide_div_mod_eq]
  congr 1
  apply propext
  have : ((r : Int) / ((2 ^ k : Nat) : Int)) % 2 = ((r / 2 ^ k % 2 : Nat) : Int) := by simp
  rw [this]
  omega
theorem or_bits {n a b : Nat} (ha : a < 2 ^ n) (hb : b < 2 ^ n) : a ||| b < 2 ^ n := Nat.or_lt_two_pow ha hb
def led (n E a b m e : Nat) : Bool := (e == n && a.testBit (m * E + e)) || (List.range n).any fun v => a.testBit (m * E + v) && b.testBit (v * E + e)
def aft (n E a b : Nat) : Nat := ofB (fun k => led n E a b (k / E) (k % E)) (n * E)
def sam (n E : Nat) : Nat := ofB (fun k => k / E == k % E) (n * E)
theorem cell_le {n E m e : Nat} (hm : m < n) (he : e < E) : m * E + e < n * E := by
  have h1 : m * E ≤ (n - 1) * E := Nat.mul_le_mul_right _ (by omega)
  have h2 : (n - 1) * E + E = n * E := by rw [← Nat.succ_mul]; congr 1; omega
  omega
theorem cell_div {E m e : Nat} (he : e < E) : (m * E + e) / E = m := by rw [Nat.mul_comm, Nat.mul_add_div (by omega), Nat.div_eq_of_lt he, Nat.add_zero]
theorem cell_mod {E m e : Nat} (he : e < E) : (m * E + e) % E = e := by rw [Nat.mul_comm, Nat.mul_add_mod, Nat.mod_eq_of_lt he]
theorem led_iff {n E a b m e : Nat} : led n E a b m e = true ↔ (e = n ∧ a.testBit (m * E + e) = true) ∨ ∃ v, v < n ∧ a.testBit (m * E + v) = true ∧ b.testBit (v * E + e) = true := by
  unfold led
  simp only [Bool.or_eq_true, Bool.and_eq_true, List.any_eq_true, List.mem_range, beq_iff_eq]
theorem aft_lt {n E a b : Nat} : aft n E a b < 2 ^ (n * E) := ofB_lt _ _
theorem aft_bit {n E a b m e : Nat} (hm : m < n) (he : e < E) : (aft n E a b).testBit (m * E + e) = led n E a b m e := by
  unfold aft
  rw [testBit_ofB, decide_eq_true (cell_le hm he), Bool.true_and, cell_div he, cell_mod he]
theorem sam_bit {n E m e : Nat} (hm : m < n) (he : e < E) : (sam n E).testBit (m * E + e) = (m == e) := by
  unfold sam
  rw [testBit_ofB, decide_eq_true (cell_le hm he), Bool.true_and, cell_div he, cell_mod he]
/-- equal cell by cell -/
theorem cells_eq {n E a b : Nat} (hE : 0 < E) (ha : a < 2 ^ (n * E)) (hb : b < 2 ^ (n * E)) (h : ∀ m e, m < n → e < E → (a.testBit (m * E + e) = true ↔ b.testBit (m * E + e) = true)) : a = b := by
  refine bits_eq ha hb fun k hk => ?_
  have h1 : k / E < n := (Nat.div_lt_iff_lt_mul hE).mpr hk
  have h2 := Nat.mod_lt k hE
  have h3 := h _ _ h1 h2
  have e : k / E * E + k % E = k := by rw [Nat.mul_comm]; exact Nat.div_add_mod k E
  rw [e] at h3
  cases c : a.testBit k <;> cases d : b.testBit k <;> simp_all
section
variable {n E a b c : Nat} (hE : 0 < E) (hn : n ≤ E)
include hE hn
/-- what is done at the watched end -/
def dne (n E a : Nat) : Nat := ofB (fun k => a.testBit k && (k % E == n)) (n * E)
end
theorem bit_lt {a k n : Nat} (ha : a < 2 ^ n) (h : a.testBit k = true) : k < n := by
  apply Classical.byContradiction
  intro z
  have hp : 2 ^ n ≤ 2 ^ k := Nat.pow_le_pow_right (by decide) (by omega)
  rw [Nat.testBit_lt_two_pow (Nat.lt_of_lt_of_le ha hp)] at h
  cases h
theorem div_mod (k E : Nat) : k / E * E + k % E = k := by rw [Nat.mul_comm]; exact Nat.div_add_mod k E
end U
set_option Elab.async false
set_option linter.all false
set_option maxRecDepth 100000
set_option maxHeartbeats 2000000
namespace U
open PySem PySem.Spec PyProof.Rows L2
section
variable {X : Cx} {a b c e : Expr} {es rest : List Expr} {fa fb fc f : DTE} {fs : DTA} {pos p : Pos}
/-- {} that changes no more -/
def gDct0 : DTE := fun _ M Q => Q (.dct []) M
theorem d_dct0 : DE X (.Dict [] [] pos) gDct0 := imp pe_dnewK fun σ H Q ⟨δ, F, W, M, Qd, ev, s, h, k⟩ => fun p hp => by
  obtain ⟨s1, g1⟩ := s.new hp (.dK [])
  exact (k.mono g1).now s1 (.dct (.inl rfl) upd_same .nil) h
/-- repr of scalars -/
def kRepr : DC := fun xs M Q => match xs with
  | [.bl k] => Q (.str (if k then "True" else "False")) M
  | [.int i] => i.natAbs.log2 < 1920 ∧ Q (.str (toString i)) M
  | [.non] => Q (.str "None") M
  | _ => False
theorem c_drepr : CD X (.builtin "repr") kRepr := cd_imp fun vs H Q ⟨F, W, M, ds, Qd, r, s, h, k⟩ => by
  refine ⟨_, c_repr, ?_⟩
  unfold kRepr at h
  split at h
  · obtain ⟨v, rfl, r1⟩ := r.one; cases r1; exact k.now s (.str _) h
  · obtain ⟨v, rfl, r1⟩ := r.one; cases r1; exact ⟨h.1, k.now s (.str _) h.2⟩
  · obtain ⟨v, rfl, r1⟩ := r.one; cases r1; exact k.now s (.str _) h
  · exact h.elim
end
/-- two fors that change nothing -/
theorem lc2D_all {α β : Type} {c c1 : CT} {di1 : DTI} {te : DTE} {vs1 : List Nat} {δ : De} {M : Mm} {g : α → Da} (inn : α → List β) (h : β → Da) (f : α → β → Da) : ∀ {l : List α} {k : List Da → Mm → Prop},
    (∀ x ∈ l, c.ok (g x) ∧ Sr (inn x).length ∧ ∀ Q : List Da → Mm → Prop, Q ((inn x).map h) M → di1 (c.set (g x) δ) M Q) →
    (∀ x ∈ l, ∀ y ∈ inn x, c1.ok (h y) ∧ ∀ Q : DK, Q (f x y) M → te (c1.set (h y) (wipeD (c.set (g x) δ) vs1)) M Q) →
    k (l.flatMap fun x => (inn x).map (f x)) M → lc2D c gYes di1 c1 gYes te vs1 δ (l.map g) k M
  | [], k, _, _, q => q
  | x :: l, k, h1, h2, q => by
    obtain ⟨o, z, t⟩ := h1 x List.mem_cons_self
    refine ⟨o, t _ ⟨by rw [List.length_map]; exact z, ?_⟩⟩
    refine lcD_all (f x) (fun y hy => (h2 x List.mem_cons_self y hy).1) (fun y hy => (h2 x List.mem_cons_self y hy).2) ?_
    refine lc2D_all inn h f (fun y hy => h1 y (List.mem_cons_of_mem _ hy)) (fun y hy => h2 y (List.mem_cons_of_mem _ hy)) ?_
    rw [List.flatMap_cons] at q
    exact q
end U
set_option Elab.async false
set_option linter.all false
set_option maxRecDepth 100000
set_option maxHeartbeats 2000000
namespace U
theorem wit_tr {x y z : Nat} (h : x ||| y = y) (k : y ||| z = z) : x ||| z = z := by
  rw [← k, ← Nat.or_assoc, h]
def monoB (N : Nat) (ts : List Nat) : Bool := (List.range (2 ^ N)).all fun r => (List.range N).all fun k => decide (ts.getD r 0 ||| ts.getD (r ||| 2 ^ k) 0 = ts.getD (r ||| 2 ^ k) 0)
/-- by all pairs -/
def monoA (N : Nat) (ts : List Nat) : Bool := (List.range (2 ^ N)).all fun a => (List.range (2 ^ N)).all fun b => !(decide (a ||| b = b) && !decide (ts.getD a 0 ||| ts.getD b 0 = ts.getD b 0))
theorem monoB_iff {N : Nat} {ts : List Nat} : monoB N ts = true ↔ ∀ r < 2 ^ N, ∀ k < N, ts.getD r 0 ||| ts.getD (r ||| 2 ^ k) 0 = ts.getD (r ||| 2 ^ k) 0 := by
  unfold monoB
  simp only [List.all_eq_true, List.mem_range, decide_eq_true_eq]
theorem monoA_iff {N : Nat} {ts : List Nat} : monoA N ts = true ↔ ∀ a < 2 ^ N, ∀ b < 2 ^ N, a ||| b = b → ts.getD a 0 ||| ts.getD b 0 = ts.getD b 0 := by
  unfold monoA
  simp only [List.all_eq_true, List.mem_range, Bool.not_eq_true', Bool.and_eq_false_iff, decide_eq_false_iff_not, Bool.not_eq_false', decide_eq_true_eq]
  constructor
  · intro h a ha b hb e
    rcases h a ha b hb with z | z
    · exact absurd e z
    · exact z
  · intro h a ha b hb
    by_cases e : a ||| b = b
    · exact .inr (h a ha b hb e)
    · exact .inl e
theorem or_self_pow (r k : Nat) : r ||| (r ||| 2 ^ k) = r ||| 2 ^ k := by rw [← Nat.or_assoc, Nat.or_self]
theorem mono_eq (N : Nat) (ts : List Nat) : monoB N ts = monoA N ts := by
  rw [Bool.eq_iff_iff, monoB_iff, monoA_iff]
  constructor
  · intro h a ha b hb e
    have go : ∀ k, k ≤ N → ts.getD a 0 ||| ts.getD (a ||| ofB b.testBit k) 0 = ts.getD (a ||| ofB b.testBit k) 0 := by
      intro k
      induction k with
      | zero => intro _; show ts.getD a 0 ||| ts.getD (a ||| 0) 0 = ts.getD (a ||| 0) 0; rw [Nat.or_zero, Nat.or_self]
      | succ k ih =>
        intro hk
        have ih := ih (by omega)
        unfold ofB
        cases c : b.testBit k with
        | false => rw [if_neg (by decide), Nat.add_zero]; exact ih
        | true =>
          rw [if_pos rfl]
          have lt := ofB_lt b.testBit k
          have ek : ofB b.testBit k + 2 ^ k = ofB b.testBit k ||| 2 ^ k := by
            rw [Nat.add_comm, Nat.or_comm]
            exact Nat.two_pow_add_eq_or_of_lt lt 1 |> fun z => by simpa using z
          rw [ek, ← Nat.or_assoc]
          refine wit_tr ih (h _ ?_ k (by omega))
          exact Nat.or_lt_two_pow ha (Nat.lt_of_lt_of_le lt (Nat.pow_le_pow_right (by decide) (by omega)))
    have := go N (Nat.le_refl _)
    rw [ofB_self hb, e] at this
    exact this
  · intro h r hr k hk
    refine h r hr _ (Nat.or_lt_two_pow hr (Nat.pow_lt_pow_right (by decide) hk)) (or_self_pow r k)
end U
set_option Elab.async false
set_option linter.all false
set_option maxRecDepth 100000
set_option maxHeartbeats 2000000
namespace U
open PySem PySem.Spec PyProof.Rows L2
structure okN (n : Nat) (x : Da) : Prop where
  p : pure? x = true
  c : PyData.canLay0 (toP x) = true
  d : PyData.depth (toP x) ≤ n
theorem okN.ok {n : Nat} {x : Da} (h : okN n x) (hn : n ≤ 64) : okD x = true := by
  unfold okD SeqAt.shaped
  rw [h.p, h.c, Bool.true_and, Bool.true_and]
  exact decide_eq_true (Nat.le_trans h.d hn)
theorem okN.mono {n m : Nat} {x : Da} (h : okN n x) (k : n ≤ m) : okN m x := ⟨h.p, h.c, Nat.le_trans h.d k⟩
theorem okN_str {n : Nat} {x : Str} (h : PyData.strOk x = true) : okN n (.str x) := ⟨rfl, by simp [toP, PyData.canLay0, h], by simp [toP, PyData.depth]⟩
mutual
def plD : Da → Bool
  | .non | .int _ | .str _ => true
  | .lst xs => plDs xs
  | .tup xs => plDs xs
  | _ => false
def plDs : List Da → Bool
  | [] => true
  | x :: xs => plD x && plDs xs
end
mutual
theorem eqP_iff : ∀ {x y : Da}, plD x = true → plD y = true → (PyData.eqv (toP x) (toP y) = true ↔ x = y)
  | .non, y, _, h => by cases y <;> simp_all [plD, toP, PyData.eqv]
  | .int i, y, _, h => by cases y <;> simp_all [plD, toP, PyData.eqv]
  | .str i, y, _, h => by cases y <;> simp_all [plD, toP, PyData.eqv]
  | .lst xs, y, h1, h => by
    cases y with
    | lst ys => simp only [toP, PyData.eqv, Da.lst.injEq]; exact eqPs_iff h1 h
    | _ => simp_all [plD, toP, PyData.eqv]
  | .tup xs, y, h1, h => by
    cases y with
    | tup ys => simp only [toP, PyData.eqv, Da.tup.injEq]; exact eqPs_iff h1 h
    | _ => simp_all [plD, toP, PyData.eqv]
  | .bl _, _, h, _ => by simp [plD] at h
  | .ty _, _, h, _ => by simp [plD] at h
  | .obj _ _, _, h, _ => by simp [plD] at h
  | .ref _, _, h, _ => by simp [plD] at h
  | .dct _, _, h, _ => by simp [plD] at h
theorem eqPs_iff : ∀ {xs ys : List Da}, plDs xs = true → plDs ys = true → (PyData.eqvAll (toPs xs) (toPs ys) = true ↔ xs = ys)
  | [], [], _, _ => by simp [toPs, PyData.eqvAll]
  | [], y :: ys, _, _ => by simp [toPs, PyData.eqvAll]
  | x :: xs, [], _, _ => by simp [toPs, PyData.eqvAll]
  | x :: xs, y :: ys, h1, h2 => by
    have a := Bool.and_eq_true_iff.mp (show (plD x && plDs xs) = true from h1)
    have b := Bool.and_eq_true_iff.mp (show (plD y && plDs ys) = true from h2)
    simp only [toPs, PyData.eqvAll, Bool.and_eq_true, List.cons.injEq]
    rw [eqP_iff a.1 b.1, eqPs_iff a.2 b.2]
end
theorem eqD_iff {x y : Da} (h1 : plD x = true) (h2 : plD y = true) : eqD x y = true ↔ x = y := eqP_iff h1 h2
theorem eqD_dec {x y : Da} {p : Prop} [Decidable p] (h1 : plD x = true) (h2 : plD y = true) (h : x = y ↔ p) : eqD x y = decide p := by
  rw [Bool.eq_iff_iff, eqD_iff h1 h2, h, decide_eq_true_eq]
def Sub (M2 M1 : Mm) : Prop := ∀ a o, M2 a = some o → M1 a = some o
section
variable {X : Cx} {e : Expr} {f : DTE} {pos : Pos}
def hRetF (f : DTE) : DTS := fun D δ M => f δ M fun x M1 => ∃ M2, Sub M2 M1 ∧ D.rt x M2
theorem z_retF (he : DE X e f) : DS X (.Return (some e) pos) (hRetF f) := ps_imp (ps_ret he) fun D σ H ⟨δ, F, W, M, Dd, ev, s, h, k⟩ =>
  ⟨δ, F, W, M, _, ev, s, h, fun v H1 W1 d M1 g1 s1 r1 ⟨M2, sb, q⟩ => k.rt v H1 W1 d M2 g1 (s1.forget sb) r1 q⟩
end
theorem rds_fun {K : PySem.W.Frag} {W : Addr → Prop} {H : Hp} {α : Type} (f : α → Int) : ∀ l : List α, RDs K W H (l.map fun i => V.int (f i)) (l.map fun i => Da.int (f i))
  | [] => .nil
  | _ :: l => .cons (.int _) (rds_fun f l)
def gLstRg (f : DTE) : DTE := fun δ M Q => f δ M fun x M1 => match x with
  | .int n => (0 ≤ n ∧ n ≤ 5000) ∧ Q (.lst (rngD 0 n.toNat)) M1
  | _ => False
def gTupRg (f : DTE) : DTE := fun δ M Q => f δ M fun x M1 => match x with
  | .int n => (0 ≤ n ∧ n ≤ 5000) ∧ Q (.tup (rngD 0 n.toNat)) M1
  | _ => False
section
variable {X : Cx} {a : Expr} {f : DTE} {pos pos2 p p2 : Pos}
theorem rg_ok {n : Int} (h : 0 ≤ n ∧ n ≤ 5000) : RgOk 0 n := ⟨by decide, by decide, by omega, by omega, by omega⟩
theorem rg_rds {K : PySem.W.Frag} {W : Addr → Prop} {H : Hp} {n : Int} : RDs K W H (rgV 0 n) (rngD 0 n.toNat) := by
  unfold rgV rngD
  rw [Int.sub_zero]
  exact rds_fun (fun i : Nat => (0 : Int) + (i : Nat)) _
theorem d_lstRg (hc : X.calm = true) (m1 : X.mg "list" = none) (m2 : X.mg "range" = none) (ha : DE X a f) (hg1 : Gl X "list" := by rfl) (hg2 : Gl X "range" := by rfl) (na : starEach [a] X.env = (false, eval a X.env) :: starEach [] X.env := by rfl)
    (na2 : starEach [.Call (.Name "range" p2) [a] [] pos2] X.env = (false, eval (.Call (.Name "range" p2) [a] [] pos2) X.env) :: starEach [] X.env := by rfl) : DE X (.Call (.Name "list" p) [.Call (.Name "range" p2) [a] [] pos2] [] pos) (gLstRg f) :=
  imp (pe_listRg hc hg1 m1 (prg_1 hg2 m2 ha na) na2) fun σ H Q ⟨δ, F, W, M, Qd, ev, s, h, k⟩ => ⟨δ, F, W, M, _, ev, s, h, fun v H1 W1 d M1 g1 s1 r1 q1 => by
    cases r1 <;> first | exact q1.elim | skip
    exact ⟨_, rfl, rg_ok q1.1, fun q hq => (k.mono g1).newL s1 hq rg_rds q1.2⟩⟩
theorem d_tupRg (hc : X.calm = true) (m1 : X.mg "tuple" = none) (m2 : X.mg "range" = none) (ha : DE X a f) (hg1 : Gl X "tuple" := by rfl) (hg2 : Gl X "range" := by rfl) (na : starEach [a] X.env = (false, eval a X.env) :: starEach [] X.env := by rfl)
    (na2 : starEach [.Call (.Name "range" p2) [a] [] pos2] X.env = (false, eval (.Call (.Name "range" p2) [a] [] pos2) X.env) :: starEach [] X.env := by rfl) : DE X (.Call (.Name "tuple" p) [.Call (.Name "range" p2) [a] [] pos2] [] pos) (gTupRg f) :=
  imp (pe_tupRgF hc hg1 m1 (prg_1 hg2 m2 ha na) na2) fun σ H Q ⟨δ, F, W, M, Qd, ev, s, h, k⟩ => ⟨δ, F, W, M, _, ev, s, h, fun v H1 W1 d M1 g1 s1 r1 q1 => by
    cases r1 <;> first | exact q1.elim | skip
    exact ⟨_, rfl, rg_ok q1.1, fun q hq o ho => (k.mono g1).newT s1 hq rg_rds ho q1.2⟩⟩
end
/-- all but d stands, maybe more -/
def Kx (d : Addr) (M M' : Mm) : Prop := ∀ p o, p ≠ d → M p = some o → M' p = some o
theorem Kx.refl {d : Addr} {M : Mm} : Kx d M M := fun _ _ _ h => h
theorem Kx.trans {d : Addr} {M M1 M2 : Mm} (a : Kx d M M1) (b : Kx d M1 M2) : Kx d M M2 := fun p o h q => b p o h (a p o h q)
theorem Kx.put {d p : Addr} {M M' : Mm} {o : MO} (a : Kx d M M') (h : M' p = none) : Kx d M (mput M' p o) := fun q u n e => by
  rw [mput_ne (fun z => by subst z; rw [a q u n e] at h; cases h)]; exact a q u n e
/-- something that was not there is changed -/
theorem Kx.chg {d p : Addr} {M M' : Mm} {o : MO} (a : Kx d M M') (h : M p = none) : Kx d M (mput M' p o) := fun q u n e => by
  rw [mput_ne (fun z => by subst z; rw [h] at e; cases e)]; exact a q u n e
theorem Kx.del {d p : Addr} {M M' : Mm} (a : Kx d M M') (h : M p = none) : Kx d M (mdel M' p) := fun q u n e => by
  unfold mdel
  rw [if_neg (fun z => by subst z; rw [h] at e; cases e)]; exact a q u n e
theorem Kx.of {d : Addr} {M M' : Mm} (h : ∀ p, p ≠ d → M' p = M p) : Kx d M M' := fun p o n e => (h p n).trans e
theorem mdel_ne {M : Mm} {a b : Addr} (h : b ≠ a) : mdel M a b = M b := by unfold mdel; rw [if_neg h]
theorem Kx.back {d : Addr} {M M' : Mm} (a : Kx d M M') : ∃ M2, Sub M2 M' ∧ (∀ p, p ≠ d → M2 p = M p) ∧ M2 d = M' d := by
  refine ⟨fun p => if p = d then M' d else M p, fun p o h => ?_, fun p h => if_neg h, if_pos rfl⟩
  by_cases e : p = d
  · simp only [if_pos e] at h; rw [e]; exact h
  · simp only [if_neg e] at h; exact a p o e h
end U
set_option Elab.async false
set_option linter.all false
set_option maxRecDepth 100000
set_option maxHeartbeats 2000000
namespace US0
open PySem PySem.Spec PyProof.Rows L2
section
variable {P : Program} {w : World} {A : Around} {E : Value → Shared → Prop} {s : Shared}
end
end US0
set_option Elab.async false
set_option linter.all false
set_option maxRecDepth 100000
set_option maxHeartbeats 2000000
namespace U
open PySem PySem.Spec PyProof.Rows L2
section
variable {X : Cx} {a : Expr} {f : DTE} {p p2 q pos : Pos}
end
end U
namespace U
open PySem PySem.Spec PyProof.Rows L2
section
variable {X : Cx}
end
end U
namespace U
open L2
end U
namespace U
open PySem PySem.Spec PyProof.Rows L2
section
variable {X : Cx} {e : Expr} {f : DTE} {ft : DTT} {st : Stmt} {t : DTS}
end
end U
namespace U
open PySem
theorem kit_mk {K : PySem.W.Frag} {T : String} {C : Addr} {x} {r : Bool} (a : PySem.W.clsIn K C = some x) (b : PySem.W.typeIn K (.ref C) = some (.type "type")) (c : PySem.W.subIn K (.type T) (.ref C) = some r) : PySem.W.kitOne K (.type T) (.ref C) = some r := by
  unfold PySem.W.kitOne PySem.W.kitCls
  rw [if_neg (by simp)]
  simp only [a, b]
  rw [if_pos (by simp)]
  exact c
end U
set_option Elab.async false
set_option linter.all false
set_option maxRecDepth 100000
set_option maxHeartbeats 2000000
namespace UP0
open PySem PySem.Spec PySem.Calls PyProof.Rows PySem.W
section
variable {prog : Program} {w : World} {A : Around} {E : Value → Shared → Prop} {s : Shared}
theorem starT {l : Addr} {items : Array Value} {n i : Nat} {Q : List Value → Shared → Prop} (hl : IsTup s.heap l items) (hh : A.handled = none) (hi : i < n) (hn : n ≤ items.size + 1) (hz : items.size ≤ 16384)
    (h : ∀ (h' : Heap) (tk : Nat), (∀ b o, s.heap.get? b = some o → h'.get? b = some o) → Q (items.toList.take i ++ [.ref h'.objs.size] ++ (items.toList.drop i).drop (items.size + 1 - n)) { s with heap := h'.push { cls := .type "list", data := .seq ((items.toList.drop i).take (items.size + 1 - n)).toArray }, toks := tk }) :
    wpAny (model prog w) A (unpackItems (.ref l) n (some i)) Q E s := by
  have hlt : l ≠ s.heap.objs.size := by obtain ⟨o, ho, _⟩ := hl; exact Nat.ne_of_lt (Heap.lt_size ho)
  have hll : l < s.heap.objs.size := by obtain ⟨o, ho, _⟩ := hl; exact Heap.lt_size ho
  unfold unpackItems
  refine wpAny_bind ?_
  unfold notIterableAtAll
  refine wpAny_bind (wpAny_specialOf hl.typeIs slot_tuple_iter.lookup ?_)
  refine wpAny_pure ?_
  simp only [Bool.false_eq_true, if_false]
  refine wpAny_bind (wpAny_holding (iter_tuple hl ?_))
  refine wpAny_bind (wpAny_holding (draw_tuple hlt i 0 _ _ ⟨_, Heap.get?_push_size _ rfl, rfl, rfl⟩ (hl.push _) (by omega) fun h₁ hit₁ hs₁ => ?_))
  have hl₁ : IsTup h₁ l items := (hl.push _).extBut hs₁.extBut hlt
  rw [Nat.zero_add] at hit₁
  have hit₁' := hit₁
  obtain ⟨oi, hoi, _⟩ := hit₁'
  have hl₁' := hl₁
  obtain ⟨ol, hol, _⟩ := hl₁'
  rw [List.drop_zero]
  have hfl : (items.toList.take i).length = i := by rw [List.length_take, Array.length_toList]; omega
  rw [if_neg (show ¬ ((items.toList.take i).length < i) by rw [hfl]; omega)]
  refine wpAny_bind (wpAny_holding (kun_collect (s := { s with heap := h₁ }) (T := "tuple_iterator") (.inr (.inr (.inr rfl))) (Walks.tuple (A := A.in1) hh s.heap.objs.size l hlt items) (fun j u st => st.1.typeIs) (k := i) (by omega) ⟨hit₁, hl₁⟩ (Heap.lt_size hoi) (Heap.lt_size hol) (fun h₂ tk hk => ?_) (by rw [sizeLine_eq]; omega)))
  have hrl : (items.toList.drop i).length = items.size - i := by rw [List.length_drop, Array.length_toList]
  have hmid : (items.toList.drop i).length - (n - 1 - i) = items.size + 1 - n := by rw [hrl]; omega
  show wpAny _ _ (if (items.toList.drop i).length < n - 1 - i then _ else _) _ _ _
  rw [if_neg (by rw [hrl]; omega)]
  show wpAny _ _ (newList ((items.toList.drop i).take ((items.toList.drop i).length - (n - 1 - i))) >>= fun d => pure (items.toList.take i ++ [d] ++ (items.toList.drop i).drop ((items.toList.drop i).length - (n - 1 - i)))) _ _ _
  rw [hmid]
  have he : Heap.ExtBut s.heap.objs.size s.heap h₂ := fun b o hb e => hk b o hb (hs₁.extBut b o hb (Heap.get?_push_of_some _ e))
  refine wpAny_bind (wpAny_newList (wpAny_pure ?_) (by rw [List.length_take, hrl, sizeLine_eq]; omega))
  exact h h₂ tk fun b o e => he b o (Nat.ne_of_lt (Heap.lt_size e)) e
end
end UP0
namespace U
open PySem PySem.Spec PyProof.Rows L2
inductive PWord : Pattern → List Str → Prop
  | one {c : Str} {j pos pos'} : PWord (.MatchValue (.Constant (.str c) j pos) pos') [c]
  | or2 {c d : Str} {j pos pos' j2 pos2 pos2' pos3} : PWord (.MatchOr [.MatchValue (.Constant (.str c) j pos) pos', .MatchValue (.Constant (.str d) j2 pos2) pos2'] pos3) [c, d]
theorem PWord.star {p : Pattern} {cs : List Str} (h : PWord p cs) : p.isStar = false ∧ p.isWildcard = false := by cases h <;> exact ⟨rfl, rfl⟩
section
variable {X : Cx}
theorem pw_value {c : Str} {j pos pos'} {pins : List (Addr × Obj)} {s : Shared} {σ : L2.St} {H : Hp} {z : Str} {t : Tok} {Q : Option (List (Str × Value)) → Shared → Prop} (I : Inv X pins σ H s)
    (h : ∀ s', Inv X pins σ H s' → Q (if z = c then some [] else none) s') : wpAny (model X.prog X.w) X.A (matchPattern (.MatchValue (.Constant (.str c) j pos) pos') X.env (.str z t)) Q X.xe s := by
  refine wpAny_matchPattern_Value ?_
  refine thn ((pe_str (X := X) (x := c) (pos := pos)).run pins s σ H (fun v H' => v = .str c ∧ H' = H) I ⟨rfl, rfl⟩) fun u s1 ⟨v, H1, I1, r, e1, e2⟩ => ?_
  subst e1 e2
  refine thn (op_eq (X := X) pins s1 σ _ (.str z) (.str c) (.str z t) u (fun v H' => v = .bl (decide (V.str z = V.str c)) ∧ H' = H1) I1 ⟨_, rfl⟩ r ⟨rfl, rfl, rfl⟩) fun w s2 ⟨v, H2, I2, r2, e3, e4⟩ => ?_
  subst e3 e4
  obtain rfl := (show w = Value.bool _ from r2)
  refine wpAny_truthy_bool ?_
  have e : (if z = c then some [] else none : Option (List (Str × Value))) = if decide (V.str z = V.str c) = true then some [] else none := by
    by_cases q : z = c
    · subst q; simp
    · rw [if_neg q, if_neg (by simp [q])]
  have := h s2 I2
  rw [e] at this
  cases q : decide (V.str z = V.str c) <;> (rw [q] at this; exact this)
theorem pw_run {p : Pattern} {cs : List Str} (hp : PWord p cs) {pins : List (Addr × Obj)} {s : Shared} {σ : L2.St} {H : Hp} {z : Str} {t : Tok} {Q : Option (List (Str × Value)) → Shared → Prop} (I : Inv X pins σ H s)
    (h : ∀ s', Inv X pins σ H s' → Q (if cs.contains z = true then some [] else none) s') : wpAny (model X.prog X.w) X.A (matchPattern p X.env (.str z t)) Q X.xe s := by
  cases hp with
  | @one c =>
    refine pw_value I fun s' I' => ?_
    have := h s' I'
    have e : ([c].contains z = true) = (z = c) := by simp
    simp only [e] at this
    exact this
  | @or2 c d =>
    refine wpAny_matchPattern_Or (wpAny_matchFirst_cons (pw_value I fun s1 I1 => ?_))
    by_cases q : z = c
    · rw [if_pos q]
      have := h s1 I1
      rw [if_pos (by simp [q])] at this
      exact this
    · rw [if_neg q]
      refine wpAny_matchFirst_cons (pw_value I1 fun s2 I2 => ?_)
      have := h s2 I2
      by_cases q2 : z = d
      · rw [if_pos q2]
        rw [if_pos (by simp [q2])] at this
        exact this
      · rw [if_neg q2]
        rw [if_neg (by simp [q, q2])] at this
        exact wpAny_matchFirst_nil this
/-- names that are bound -/
inductive PCaps : List Pattern → List Str → Prop
  | nil : PCaps [] []
  | cons {n : Str} {pos} {ps : List Pattern} {ns : List Str} : PCaps ps ns → PCaps (.MatchAs none (some n) pos :: ps) (n :: ns)
theorem PCaps.length : ∀ {ps ns}, PCaps ps ns → ps.length = ns.length
  | _, _, .nil => rfl
  | _, _, .cons h => by rw [List.length_cons, List.length_cons, h.length]
theorem PCaps.star : ∀ {ps ns}, PCaps ps ns → ps.findIdx? (·.isStar) = none
  | _, _, .nil => rfl
  | _, _, .cons h => by rw [List.findIdx?_cons, h.star]; rfl
theorem caps_run {M : Model} {A : Around} {E : Value → Shared → Prop} {env : Env} {s : Shared} : ∀ {ps : List Pattern} {ns : List Str} {us : List Value} {Q : Option (List (Str × Value)) → Shared → Prop}, PCaps ps ns → us.length = ns.length → Q (some (ns.zip us)) s → wpAny M A (matchEach ps env us) Q E s
  | _, _, [], _, .nil, _, q => wpAny_matchEach_nil q
  | _, _, u :: us, _, .cons h, l, q => by
    refine wpAny_matchEach_cons (wpAny_matchPattern_Capture ?_)
    exact caps_run h (by simpa using l) q
/-- .. and a name for the rest -/
theorem capsS_run {M : Model} {A : Around} {E : Value → Shared → Prop} {env : Env} {s : Shared} {n : Str} {pos : Pos} {u0 : Value} : ∀ {ps : List Pattern} {ns : List Str} {us : List Value} {Q : Option (List (Str × Value)) → Shared → Prop}, PCaps ps ns → us.length = ns.length → Q (some ((ns ++ [n]).zip (us ++ [u0]))) s →
    wpAny M A (matchEach (ps ++ [.MatchStar (some n) pos]) env (us ++ [u0])) Q E s
  | _, _, [], _, .nil, _, q => by
    show wpAny _ _ (matchEach [.MatchStar (some n) pos] env [u0]) _ _ _
    unfold matchEach
    refine wpAny_bind (wpAny_holding (wpAny_matchEach_nil ?_))
    exact wpAny_pure q
  | _, _, u :: us, _, .cons h, l, q => by
    refine wpAny_matchEach_cons (wpAny_matchPattern_Capture ?_)
    exact capsS_run h (by simpa using l) q
theorem Vals.take' : ∀ {vs : List V} {us : List Value}, Vals vs us → ∀ n, Vals (vs.take n) (us.take n)
  | _, _, _, 0 => .nil
  | _, _, .nil, _ + 1 => .nil
  | _, _, .cons h k, n + 1 => .cons h (Vals.take' k n)
theorem Vals.drop' : ∀ {vs : List V} {us : List Value}, Vals vs us → ∀ n, Vals (vs.drop n) (us.drop n)
  | _, _, h, 0 => h
  | _, _, .nil, _ + 1 => .nil
  | _, _, .cons h k, n + 1 => Vals.drop' k n
structure CasD where
  cs : List Str
  is : List Nat
  st : Option Nat
  body : DTS
/-- the names' values, one after the other -/
def setAll : List Nat → List Da → De → De
  | i :: is, d :: ds, δ => setAll is ds (δ.set i (some d))
  | _, _, δ => δ
def hCases : List CasD → Str → List Da → DTS
  | [], _, _ => hNext
  | c :: r, z, xs => fun D δ M => match c.st with
    | none => if (xs.length == c.is.length && c.cs.contains z) = true then c.body D (setAll c.is xs δ) M else hCases r z xs D δ M
    | some j => if (decide (c.is.length ≤ xs.length) && c.cs.contains z) = true then c.body D (setAll (c.is ++ [j]) (xs.take c.is.length ++ [.lst (xs.drop c.is.length)]) δ) M else hCases r z xs D δ M
/-- the subject: a tuple that begins with a word -/
def hMatch (f : DTE) (cs : List CasD) : DTS := fun D δ M => f δ M fun x M1 => match x with
  | .tup (.str z :: xs) => xs.length ≤ 10000 ∧ hCases cs z xs D δ M1
  | _ => False
/-- the names' slots -/
structure Slts (X : Cx) (ns : List Str) (is : List Nat) : Prop where
  len : ns.length = is.length
  at_ : ∀ (k : Nat) (n : Str) (i : Nat), ns[k]? = some n → is[k]? = some i → X.N[i]? = some n ∧ Loc X.env.scope n ∧ (X.fn n = true ∨ X.env.scope.names.lookup n = some .local)
theorem bind_all (hN : X.N.Nodup) {pins : List (Addr × Obj)} {H : Hp} {K : PySem.W.Frag} {W : Addr → Prop} {Q : Unit → Shared → Prop} : ∀ (ns : List Str) (is : List Nat) (us : List Value) (vs : List V) (ds : List Da) (σ : L2.St) (δ : De) (s : Shared), Slts X ns is → Vals vs us → RDs K W H vs ds → us.length = ns.length → Inv X pins σ H s → EnvR K W H δ σ →
    (∀ σ' s', Inv X pins σ' H s' → EnvR K W H (setAll is ds δ) σ' → Q () s') → wpAny (model X.prog X.w) X.A (assignInOrder ((ns.zip us).map fun (n, _) => bindName X.env n) ((ns.zip us).map (·.2))) Q X.xe s := by
  intro ns
  induction ns with
  | nil =>
    intro is us vs ds σ δ s S r rd l I e q
    have e1 : is = [] := List.eq_nil_of_length_eq_zero S.len.symm
    subst e1
    exact wpAny_assignInOrder_none (q σ s I e)
  | cons n ns ih =>
    intro is us vs ds σ δ s S r rd l I e q
    cases is with
    | nil => exact absurd S.len (by simp)
    | cons i is =>
      cases us with
      | nil => exact absurd l (by simp)
      | cons u us =>
        cases r with
        | @cons v _ vs _ r rr =>
          cases rd with
          | @cons _ _ d ds rd rrd =>
            obtain ⟨h1, h2, h3⟩ := S.at_ 0 n i rfl rfl
            refine wpAny_assignInOrder_more (wpAny_bindName (store_ok I hN h1 h2 r (fun s' I' => ?_) h3))
            exact ih is us vs ds _ _ s' ⟨by simpa using S.len, fun k n' i' e1 e2 => S.at_ (k + 1) n' i' e1 e2⟩ rr rrd (by simpa using l) I' (e.set rd i) q
/-- the cases of the text -/
inductive DCases (X : Cx) : List MatchCase → List CasD → Prop
  | nil : DCases X [] []
  | cons {p : Pattern} {ps : List Pattern} {pos : Pos} {cs ns : List Str} {ns' : List Str} {is : List Nat} {b : List Stmt} {t : DTS} {rest : List MatchCase} {r : List CasD} (hp : PWord p cs) (hc : PCaps ps ns) (hs : Slts X ns is) (hb : DB X b t) (hr : DCases X rest r) : DCases X (⟨.MatchSequence (p :: ps) pos, none, b⟩ :: rest) (⟨cs, is, none, t⟩ :: r)
  | star {p : Pattern} {ps : List Pattern} {pos pos' : Pos} {n : Str} {j : Nat} {cs ns : List Str} {is : List Nat} {b : List Stmt} {t : DTS} {rest : List MatchCase} {r : List CasD} (hp : PWord p cs) (hc : PCaps ps ns) (hs : Slts X (ns ++ [n]) (is ++ [j])) (hb : DB X b t) (hr : DCases X rest r) : DCases X (⟨.MatchSequence (p :: (ps ++ [.MatchStar (some n) pos'])) pos, none, b⟩ :: rest) (⟨cs, is, some j, t⟩ :: r)
end
end U
set_option Elab.async false
set_option linter.all false
set_option maxRecDepth 100000
set_option maxHeartbeats 2000000
namespace U
open PySem PySem.Spec PyProof.Rows L2
theorem wp_seqStar {M : Model} {A : Around} {E : Value → Shared → Prop} {s : Shared} {env : Env} {ps : List Pattern} {pos : Pos} {v : Value} {i : Nat} {Q : Option (List (Str × Value)) → Shared → Prop}
    (h : wpAny M A (collectionFlag true v) (fun b s₁ => if b then wpAny M A (pyLen v) (fun m s₂ => if m < (ps.length : Int) - 1 then Q none s₂ else
        wpAny M A (unpackItems v ps.length (some i)) (fun vs s₃ => wpAny M A (matchEach ps env vs) Q E s₃) E s₂) E s₁ else Q none s₁) E s)
    (hstar : ps.findIdx? (·.isStar) = some i) (hn : ps.length > 1) (hwild : (ps.all fun p => p.isWildcard || (p.isStar && p.names.isEmpty)) = false) (hne : (ps[i]?.elim [] (·.names)).isEmpty = false) :
    wpAny M A (matchPattern (.MatchSequence ps pos) env v) Q E s := by
  rw [arm_matchPattern_MatchSequence]
  refine wpAny_bind (wpAny_standAt ?_)
  refine wpAny_bind (wpAny_mono h (fun b s₁ h₁ => ?_) (fun _ _ he => he))
  cases b with
  | false => exact wpAny_pure h₁
  | true =>
    simp only [hstar, hwild, hn, hne, Bool.not_true, Bool.false_eq_true, if_false, if_true] at h₁ ⊢
    refine wpAny_bind (wpAny_mono h₁ (fun m s₂ h₂ => ?_) (fun _ _ he => he))
    by_cases hm : m < (ps.length : Int) - 1
    · rw [if_pos hm] at h₂ ⊢
      exact wpAny_pure h₂
    · rw [if_neg hm] at h₂ ⊢
      exact wpAny_bind h₂
theorem idx_star {p : Pattern} {cs ns : List Str} (hp : PWord p cs) : ∀ {ps : List Pattern} {n : Str} {pos : Pos}, PCaps ps ns → (p :: (ps ++ [.MatchStar (some n) pos])).findIdx? (·.isStar) = some (ps.length + 1) := by
  intro ps n pos h
  rw [List.findIdx?_cons, hp.star.1]
  have : (ps ++ [Pattern.MatchStar (some n) pos]).findIdx? (fun q : Pattern => q.isStar) = some ps.length := by
    rw [List.findIdx?_append, h.star]
    simp [List.findIdx?_cons, Pattern.isStar]
  rw [this]; rfl
theorem wild_no {p : Pattern} {cs : List Str} (hp : PWord p cs) (ps : List Pattern) : ((p :: ps).all fun p => p.isWildcard || (p.isStar && p.names.isEmpty)) = false := by
  rw [List.all_cons, hp.star.1, hp.star.2]; rfl
section
variable {X : Cx}
theorem cases_run (hc : X.calm = true) (hN : X.N.Nodup) {mcs : List MatchCase} {cds : List CasD} (dc : DCases X mcs cds) : ∀ {pins : List (Addr × Obj)} {s : Shared} {σ : L2.St} {H : Hp} {D : Ends} {F W : Addr → Prop} {M : Mm} {Dd : DEnds} {δ : De} {a : Addr} {z : Str} {vs : List V} {xs : List Da} {first : Bool},
    Inv X pins σ H s → EnvR X.K W H δ σ → Stt X.K F W M H → Sp' X.K W H a (V.str z :: vs) → RDs X.K W H vs xs → xs.length ≤ 10000 → hCases cds z xs Dd δ M → KS X.K (EXm X) F W H Dd D →
    wpAny (model X.prog X.w) X.A (matchCases mcs X.env (.ref a) first) (SP X pins D) X.xe s := by
  induction dc with
  | nil =>
    intro pins s σ H D F W M Dd δ a z vs xs first I e st hsp rv hl h k
    exact wpAny_matchCases_nil ⟨σ, H, I, k.nx.now st e h⟩
  | @cons p ps pos cs ns ns' is b t rest r hp hcp hs hb hr ih =>
    intro pins s σ H D F W M Dd δ a z vs xs first I e st hsp rv hl h k
    obtain ⟨its, ra, ht, hz⟩ := I.tuple hsp.sq
    have hlen := rv.length
    have hra := ra.length
    rw [List.length_cons] at hra
    have hfit : (its.toArray.size : Int) < 2 ^ 63 := by rw [List.size_toArray]; omega
    have hpl := hcp.length
    refine wpAny_matchCases_cons ?_
    refine wpAny_matchPattern_Sequence (wpAny_collectionFlag ht.typeIs flag_seq_tuple ?_) (by rw [List.findIdx?_cons, hp.star.1, hcp.star]; rfl) (wild_no hp ps)
    rw [if_pos rfl]
    refine pyLen_tuple ht hfit ?_
    have I1 : Inv X pins σ H { s with toks := s.toks + 1 + 1 } := I.kept (h' := s.heap) fun _ _ q => q
    by_cases hn : xs.length = is.length
    · have hsz : its.toArray.size = (p :: ps).length := by rw [List.size_toArray, List.length_cons]; have := hs.len; omega
      rw [if_neg (by rw [hsz]; simp), ← hsz]
      refine wpAny_unpackItems_tuple (I1.ok.hd hc) ht fun h' hx => ?_
      have I2 : Inv X pins σ H { s with heap := h', toks := s.toks + 1 + 1 } := I1.kept fun b o q => hx b o (Nat.ne_of_lt (Heap.lt_size q)) q
      cases its with
      | nil => simp at hra
      | cons u0 us =>
        cases ra with
        | cons r0 rr =>
          obtain ⟨t0, rfl⟩ := (show ∃ t, u0 = Value.str z t from r0)
          refine wpAny_matchEach_cons (pw_run hp I2 fun s3 I3 => ?_) hp.star.1
          have h' : (if (xs.length == is.length && cs.contains z) = true then t Dd (setAll is xs δ) M else hCases r z xs Dd δ M) := h
          cases hw : cs.contains z with
          | false =>
            rw [hw, Bool.and_false, if_neg (by decide)] at h'
            exact ih I3 e st hsp rv hl h' k
          | true =>
            rw [hw, Bool.and_true, if_pos (by simp [hn])] at h'
            simp only [if_true]
            refine caps_run hcp (by have := hs.len; rw [List.length_cons] at hra; omega) ?_
            simp only [List.nil_append]
            exact bind_all hN ns is us vs xs σ δ _ hs rr rv (by have := hs.len; rw [List.length_cons] at hra; omega) I3 e fun σ' s' I' e' => hb.run pins s' σ' H D I' ⟨_, F, W, M, Dd, e', st, h', k⟩
    · have hsz : its.toArray.size ≠ (p :: ps).length := by rw [List.size_toArray, List.length_cons]; have := hs.len; omega
      rw [if_pos (by simp only [bne_iff_ne, ne_eq]; omega)]
      have h' : (if (xs.length == is.length && cs.contains z) = true then t Dd (setAll is xs δ) M else hCases r z xs Dd δ M) := h
      rw [if_neg (by simp [hn])] at h'
      exact ih I1 e st hsp rv hl h' k
  | @star p ps pos pos' n j cs ns is b t rest r hp hcp hs hb hr ih =>
    intro pins s σ H D F W M Dd δ a z vs xs first I e st hsp rv hl h k
    obtain ⟨its, ra, ht, hz⟩ := I.tuple hsp.sq
    have hlen := rv.length
    have hra := ra.length
    rw [List.length_cons] at hra
    have hfit : (its.toArray.size : Int) < 2 ^ 63 := by rw [List.size_toArray]; omega
    have hpl := hcp.length
    have hsl := hs.len
    rw [List.length_append, List.length_append] at hsl
    have hil : ns.length = is.length := by simpa using hsl
    refine wpAny_matchCases_cons ?_
    refine wp_seqStar (i := ps.length + 1) (wpAny_collectionFlag ht.typeIs flag_seq_tuple ?_) (idx_star hp hcp) (by simp) (wild_no hp _) (by simp [Pattern.names])
    rw [if_pos rfl]
    refine pyLen_tuple ht hfit ?_
    have I1 : Inv X pins σ H { s with toks := s.toks + 1 + 1 } := I.kept (h' := s.heap) fun _ _ q => q
    have hpsl : (p :: (ps ++ [Pattern.MatchStar (some n) pos'])).length = ps.length + 2 := by simp
    rw [hpsl]
    have h' : (if (decide (is.length ≤ xs.length) && cs.contains z) = true then t Dd (setAll (is ++ [j]) (xs.take is.length ++ [.lst (xs.drop is.length)]) δ) M else hCases r z xs Dd δ M) := h
    by_cases hn : is.length ≤ xs.length
    · rw [if_neg (by rw [List.size_toArray]; omega)]
      refine UP0.starT ht (I1.ok.hd hc) (by omega) (by rw [List.size_toArray]; omega) (by rw [List.size_toArray]; omega) fun hp1 tk hx => ?_
      have I2 : Inv X pins σ H { s with heap := hp1, toks := tk } := I1.kept hx
      cases its with
      | nil => simp at hra
      | cons u0 us =>
        cases ra with
        | cons r0 rr =>
          obtain ⟨t0, rfl⟩ := (show ∃ t, u0 = Value.str z t from r0)
          rw [List.length_cons] at hra
          have ul : us.length = vs.length := by omega
          have e1 : (Value.str z t0 :: us).toArray.toList.take (ps.length + 1) = Value.str z t0 :: us.take ps.length := rfl
          have e2 : (Value.str z t0 :: us).toArray.toList.drop (ps.length + 1) = us.drop ps.length := rfl
          have e3 : (Value.str z t0 :: us).toArray.size + 1 - (ps.length + 2) = us.length - ps.length := by rw [List.size_toArray, List.length_cons]; omega
          have e4 : (us.drop ps.length).take (us.length - ps.length) = us.drop ps.length := List.take_of_length_le (by rw [List.length_drop]; omega)
          have e5 : (us.drop ps.length).drop (us.length - ps.length) = [] := List.drop_of_length_le (by rw [List.length_drop]; omega)
          rw [e1, e2, e3, e4, e5, List.append_nil]
          have rdrop : Vals (vs.drop ps.length) (us.drop ps.length) := Vals.drop' rr _
          have hf : H hp1.objs.size = none := I2.fresh
          have I3 := I2.lnew (t' := tk) rdrop (by rw [List.length_drop]; rw [List.length_cons] at hz; omega)
          obtain ⟨st3, g3⟩ := st.new (p := hp1.objs.size) hf (.lst (vs.drop ps.length))
          have rv3 := rv.mono g3
          show wpAny _ _ (matchEach _ _ (Value.str z t0 :: (us.take ps.length ++ [.ref hp1.objs.size]))) _ _ _
          refine wpAny_matchEach_cons (pw_run hp I3 fun s4 I4 => ?_) hp.star.1
          cases hw : cs.contains z with
          | false =>
            rw [hw, Bool.and_false, if_neg (by decide)] at h'
            exact ih I4 (e.mono g3) st3 (hsp.mono g3) rv3 hl h' (k.mono g3)
          | true =>
            rw [hw, Bool.and_true, if_pos (by simp [hn])] at h'
            simp only [if_true]
            have tl : (us.take ps.length).length = ns.length := by rw [List.length_take]; omega
            refine capsS_run hcp tl ?_
            simp only [List.nil_append]
            have a1 : Vals (vs.take ps.length ++ [V.ref hp1.objs.size]) (us.take ps.length ++ [Value.ref hp1.objs.size]) := (Vals.take' rr _).append (.cons rfl .nil)
            have a2 : RDs X.K (wadd W hp1.objs.size) (upd H hp1.objs.size (.lst (vs.drop ps.length))) (vs.take ps.length ++ [V.ref hp1.objs.size]) (xs.take is.length ++ [.lst (xs.drop is.length)]) := by
              have hpi : ps.length = is.length := by omega
              rw [hpi]
              rw [hpi] at rv3
              exact (rv3.take _).append (.cons (.lst (.inl ⟨.inl rfl, .inl upd_same⟩) (rv3.drop _)) .nil)
            exact bind_all hN (ns ++ [n]) (is ++ [j]) _ _ _ σ δ _ hs a1 a2 (by rw [List.length_append, List.length_append, tl]; rfl) I4 (e.mono g3) fun σ' s' I' e' => hb.run pins s' σ' _ D I' ⟨_, F, _, M, Dd, e', st3, h', k.mono g3⟩
    · rw [if_pos (by rw [List.size_toArray]; omega)]
      rw [if_neg (by simp [hn])] at h'
      exact ih I1 e st hsp rv hl h' k
theorem z_match {subj : Expr} {f : DTE} {mcs : List MatchCase} {cds : List CasD} {pos : Pos} (hc : X.calm = true) (hN : X.N.Nodup) (he : DE X subj f) (dc : DCases X mcs cds) : DS X (.Match subj mcs pos) (hMatch f cds) := by
  refine ⟨fun pins s σ H D I ⟨δ, F, W, M, Dd, ev, st, h, k⟩ => ?_⟩
  refine wpAny_Match (thn (he.run pins s σ H (fun x H1 => ∃ W1 d M1, Grow F W H W1 H1 ∧ Stt X.K F W1 M1 H1 ∧ RD X.K W1 H1 x d ∧ (match d with
    | .tup (.str z :: xs) => xs.length ≤ 10000 ∧ hCases cds z xs Dd δ M1
    | _ => False)) I ⟨δ, F, W, M, _, ev, st, h, fun v H1 W1 d M1 g1 s1 r1 q1 => ⟨W1, d, M1, g1, s1, r1, q1⟩⟩) fun v s1 ⟨x, H1, I1, rv, W1, d, M1, g1, s2, r1, q1⟩ => ?_)
  split at q1
  · cases r1 with
    | @tup a ws _ hsp rws =>
      cases rws with
      | cons r0 rr =>
        cases r0
        obtain rfl : v = Value.ref a := rv
        exact cases_run hc hN dc I1 (ev.mono g1) s2 hsp rr q1.1 q1.2 (k.mono g1)
  · exact q1.elim
end
end U
set_option Elab.async false
set_option linter.all false
set_option maxRecDepth 100000
set_option maxHeartbeats 2000000
namespace UX0
open PySem PySem.Spec PyProof.Rows L2 PpSet
def keyS (e : Int × Value) : Str := match e.2 with | .str k _ => k | _ => Str.empty
theorem is_str_k {P : Program} {w : World} (k : Str) (tk : Tok) : (PySem.strKind P w).is k (.str k tk) = true := by show Value.isStrOf k (.str k tk) = true; simp [Value.isStrOf]
def GoodS (w : World) (e : Int × Value) : Prop := ∃ k tk, e.2 = Value.str k tk ∧ e.1 = hashStr w k
/-- the set of bools at a: S its members, n their number; its table rises and can be walked -/
def SetS (w : World) (h : Heap) (a : Addr) (S : Str → Bool) (n : Nat) : Prop :=
  ∃ o es ep t, h.get? a = some o ∧ o.ExactSet ∧ o.data = .set es ep t ∧ (∀ e ∈ es.toList, GoodS w e) ∧ (es.toList.map keyS).Nodup ∧ (∀ k, S k = true ↔ k ∈ es.toList.map keyS) ∧
    es.size < scanBound ∧ t.fits es.size = true ∧ es.size = n ∧ Ris t.place.toList ∧ (w.params.followText "set-order" = true ∨ t.led = true)

section
variable {P : Program} {w : World} {h h' : Heap} {a : Addr} {S : Str → Bool} {n : Nat}

theorem SetS.at (R : SetS w h a S n) (k : ∀ o, h.get? a = some o → h'.get? a = some o) : SetS w h' a S n := by
  obtain ⟨o, es, ep, t, ho, r⟩ := R
  exact ⟨o, es, ep, t, k o ho, r⟩
theorem SetS.lt (R : SetS w h a S n) : a < h.objs.size := by
  obtain ⟨o, es, ep, t, ho, r⟩ := R
  exact Heap.lt_size ho
theorem SetS.congr {S' : Str → Bool} (R : SetS w h a S n) (e : ∀ k, S' k = S k) : SetS w h a S' n := by
  have q : S' = S := funext e
  rw [q]; exact R
theorem goodS_elems {l : List (Int × Value)} (g : ∀ e ∈ l, GoodS w e) : ElemsOf (PySem.strKind P w) l := fun e he => by
  obtain ⟨k, tk, h1, h2⟩ := g e he
  exact ⟨⟨k, by rw [h1]; exact is_str_k (P := P) (w := w) k tk, h2⟩, by rw [h1] <;> rfl⟩
theorem goodS_is {e : Int × Value} (g : GoodS w e) (k : Str) : (PySem.strKind P w).is k e.2 = true ↔ keyS e = k := by
  obtain ⟨k0, t0, h1, _⟩ := g
  unfold keyS
  rw [h1]
  show (Value.isStrOf k (.str k0 t0) = true) ↔ k0 = k
  simp only [Value.isStrOf, beq_iff_eq]
theorem goodS_mem {l : List (Int × Value)} (g : ∀ e ∈ l, GoodS w e) (k : Str) : k ∈ l.map keyS ↔ ∃ e ∈ l, (PySem.strKind P w).is k e.2 = true := by
  rw [List.mem_map]
  constructor
  · rintro ⟨e, he, q⟩
    exact ⟨e, he, (goodS_is (g e he) k).2 q⟩
  · rintro ⟨e, he, q⟩
    exact ⟨e, he, (goodS_is (g e he) k).1 q⟩
theorem SetS.setOf (R : SetS w h a S n) : h.SetOf (PySem.strKind P w) a S n := by
  obtain ⟨o, es, ep, t, ho, hx, hd, g, nd, hm, hb, hf, hn, _⟩ := R
  exact ⟨o, es, ep, t, ho, hx, hd, goodS_elems g, fun k => (hm k).trans (goodS_mem g k), hb, hf, hn⟩
end

section
variable {P : Program} {w : World} {A : Around} {E : Value → Shared → Prop} {s : Shared} {a : Addr} {S : Str → Bool} {n : Nat}

theorem storeS_at {h : Heap} {a : Addr} {o : Obj} {es es' : Array (Int × Value)} {ep : Nat} {t t' : SetTable} (ho : h.get? a = some o) (hd : o.data = .set es ep t) :
    (h.update a (Obj.putSet es' t')).get? a = some { o with data := .set es' (ep + 1) t' } := by
  have q := Heap.get?_update_self (Obj.putSet es' t') ho (by rw [putSet_of es' t' hd]; rfl)
  rw [putSet_of es' t' hd] at q
  exact q

theorem setS_add_tail {g : Bool → Sem Unit} (hg : ∀ (b : Bool) (s₁ : Shared) (Q' : Unit → Shared → Prop), Q' () s₁ → wpAny (model P w) A (g b) Q' E s₁)
    {o : Obj} {es : Array (Int × Value)} {ep : Nat} {t : SetTable} (ho : s.heap.get? a = some o) (hex : o.ExactSet) (hd : o.data = .set es ep t)
    {es1 : Array (Int × Value)} {t2 : SetTable} {S' : Str → Bool} (g1 : ∀ e ∈ es1.toList, GoodS w e) (nd1 : (es1.toList.map keyS).Nodup) (m1 : ∀ k, S' k = true ↔ k ∈ es1.toList.map keyS)
    (hb1 : es1.size < scanBound) (hf2 : t2.fits es1.size = true) (hr : Ris t2.place.toList) (hl : w.params.followText "set-order" = true ∨ t2.led = true) {wasDummy : Bool} {R : Option Bool → Shared → Prop}
    (hR : ∀ h', Heap.SameBut a s.heap h' → SetS w h' a S' es1.size → R (some true) { s with heap := h' }) :
    wpAny (model P w) A (do
        storeSet a es1 t2
        if (!wasDummy && t2.tooFull) = true then do
            g (relayAll t2 es1 (SetTable.grown es1.size)).2.2
            storeSet a (relayAll t2 es1 (SetTable.grown es1.size)).1 (relayAll t2 es1 (SetTable.grown es1.size)).2.1
            pure (some true)
          else pure (some true)) R E s := by
  refine wpAny_bind (wpAny_storeSet_of ho hd ?_ (fits_of_scanBound hb1))
  have ho1 := storeS_at (es' := es1) (t' := t2) ho hd
  have sb1 := Heap.SameBut.update s.heap a (Obj.putSet es1 t2)
  split
  · have pm := relayAll_perm t2 es1 (SetTable.grown es1.size)
    have hf3 := relayAll_fits t2 es1 (SetTable.grown es1.size)
    have hr3 := relayAll_ris t2 es1 (SetTable.grown es1.size)
    have hl3 := relayAll_led t2 es1 (SetTable.grown es1.size)
    generalize relayAll t2 es1 (SetTable.grown es1.size) = Z at pm hf3 hr3 hl3 ⊢
    obtain ⟨es2, t3, gave⟩ := Z
    dsimp only at pm hf3 hr3 hl3 ⊢
    have hsz : es2.size = es1.size := by rw [← Array.length_toList, pm.length_eq, Array.length_toList]
    have hb2 : es2.size < scanBound := by rw [hsz]; exact hb1
    refine wpAny_bind (hg _ _ _ ?_)
    refine wpAny_bind (wpAny_storeSet_of ho1 rfl ?_ (fits_of_scanBound hb2))
    have ho2 := storeS_at (es' := es2) (t' := t3) ho1 rfl
    refine wpAny_pure (hR _ (sb1.trans (Heap.SameBut.update _ a _)) ?_)
    exact ⟨_, es2, _, t3, ho2, hex, rfl, fun e he => g1 e (pm.mem_iff.mp he), (pm.map keyS).nodup_iff.mpr nd1, fun k => (m1 k).trans (pm.map keyS).mem_iff.symm, hb2, hf3, hsz, hr3,
      hl.imp id fun z => by rw [hl3]; exact z⟩
  · exact wpAny_pure (hR _ sb1 ⟨_, es1, _, t2, ho1, hex, rfl, g1, nd1, m1, hb1, hf2, rfl, hr, hl⟩)

theorem setS_add_hashed {k : Str} {tk : Tok} {Q : Bool → Shared → Prop} (R : SetS w s.heap a S n) (room : n + 1 < scanBound)
    (hQ : ∀ h', Heap.SameBut a s.heap h' → SetS w h' a (fun j => S j || decide (j = k)) (if S k = true then n else n + 1) → Q (!S k) { s with heap := h' }) :
    wpAny (model P w) A (setAddHashed a (.str k tk) ((PySem.strKind P w).hash k)) Q E s := by
  obtain ⟨o, es, ep, t, ho, hex, hd, g, nd, hm, hb, hf, hn, hr, hl⟩ := R
  have hkey : (PySem.strKind P w).is k (.str k tk) = true := is_str_k (P := P) (w := w) k tk
  have hsc : (Value.str k tk).scannable = true := rfl
  have hel : ElemsOf (PySem.strKind P w) es.toList := goodS_elems g
  unfold setAddHashed setAddHashedIn
  refine wpAny_holding (wpAny_bind (wpAny_setState_of ho hd hf ?_))
  dsimp only
  rw [byScan_of hsc hb hel]
  simp only [↓reduceIte]
  unfold setAddByScan
  refine wpAny_bind ?_
  refine wpAny_bind (wpAny_rule ?_)
  refine wpAny_bind (wpAny_setScan_of hkey ho hd hf hel ?_)
  cases hfi : List.findIdx? (fun e => (PySem.strKind P w).is k e.2) es.toList with
  | some j =>
    dsimp only
    obtain ⟨hj, pj, _⟩ := List.findIdx?_eq_some_iff_getElem.mp hfi
    have hSk : S k = true := (hm k).2 ((goodS_mem (P := P) (w := w) g k).2 ⟨es.toList[j], List.getElem_mem hj, pj⟩)
    refine wpAny_pure (wpAny_pure ?_)
    have q := hQ s.heap (Heap.SameBut.refl a s.heap) ⟨o, es, ep, t, ho, hex, hd, g, nd, fun i => by
      rw [Bool.or_eq_true, decide_eq_true_eq, ← hm i]
      exact ⟨fun z => z.elim id (fun e => e ▸ hSk), .inl⟩, hb, hf, by rw [if_pos hSk]; exact hn, hr, hl⟩
    rw [hSk] at q
    exact q
  | none =>
    dsimp only
    have hnk : k ∉ es.toList.map keyS := fun z => by
      obtain ⟨e, he, q⟩ := (goodS_mem (P := P) (w := w) g k).1 z
      have c := List.findIdx?_eq_none_iff.mp hfi e he
      rw [q] at c
      cases c
    have hSk : S k = false := by
      cases q : S k with
      | false => rfl
      | true => exact absurd ((hm k).1 q) hnk
    have hgw : ∀ (b : Bool) {s₁ : Shared} {Q' : Unit → Shared → Prop}, Q' () s₁ → wpAny (model P w) A (match b with | true => rule "set.scan.the-table-gave-way" | false => pure ()) Q' E s₁ :=
      fun b s₁ Q' q => by cases b <;> first | exact wpAny_pure q | exact wpAny_rule q
    have pm := layNew_perm t es ((PySem.strKind P w).hash k) (.str k tk)
    have hf1 := layNew_fits t es ((PySem.strKind P w).hash k) (.str k tk)
    have hr1 := layNew_ris t es ((PySem.strKind P w).hash k) (.str k tk) hr
    have hl1 := layNew_led t es ((PySem.strKind P w).hash k) (.str k tk)
    generalize layNew t es ((PySem.strKind P w).hash k) (.str k tk) = Z at pm hf1 hr1 hl1 ⊢
    obtain ⟨es1, t1, wasDummy, gave⟩ := Z
    dsimp only at pm hf1 hr1 hl1 ⊢
    rw [Array.toList_push] at pm
    have pc : es1.toList.Perm (((PySem.strKind P w).hash k, Value.str k tk) :: es.toList) := pm.trans (List.perm_append_singleton _ _)
    have pk : (es1.toList.map keyS).Perm (k :: es.toList.map keyS) := pc.map keyS
    have g1 : ∀ e ∈ es1.toList, GoodS w e := fun e he => by
      rcases List.mem_cons.mp (pc.mem_iff.mp he) with z | z
      · rw [z]; exact ⟨k, tk, rfl, rfl⟩
      · exact g e z
    have nd1 : (es1.toList.map keyS).Nodup := pk.nodup_iff.mpr (List.nodup_cons.mpr ⟨hnk, nd⟩)
    have m1 : ∀ i, (S i || decide (i = k)) = true ↔ i ∈ es1.toList.map keyS := fun i => by
      rw [Bool.or_eq_true, decide_eq_true_eq, hm i, pk.mem_iff, List.mem_cons]
      exact Or.comm
    have hsz : es1.size = n + 1 := by rw [← Array.length_toList, pc.length_eq, List.length_cons, Array.length_toList, hn]
    have hb1 : es1.size < scanBound := by rw [hsz]; exact room
    have hled : w.params.followText "set-order" = true ∨ t1.led = true := hl.imp id fun z => by rw [hl1]; exact z
    have fin : ∀ h', Heap.SameBut a s.heap h' → SetS w h' a (fun j => S j || decide (j = k)) es1.size → Q true { s with heap := h' } := fun h' sb r => by
      have q := hQ h' sb
      rw [hSk] at q
      rw [hsz] at r
      exact q r
    refine wpAny_bind (hgw _ ?_)
    split
    · refine wpAny_bind ?_
      rw [hashByValue_scannable 8 hsc]
      refine wpAny_pure ?_
      refine setS_add_tail ?_ ho hex hd g1 nd1 m1 hb1 ?_ ?_ ?_ ?_
      · intro b s₁ Q' q; cases b <;> first | exact wpAny_pure q | exact wpAny_rule q
      · first | (split <;> first | exact hf1 | exact SetTable.fits_plain_off hf1) | exact hf1
      · first | (split <;> exact hr1) | exact hr1
      · first | (split <;> exact hled) | exact hled
      · intro h' sb r; dsimp only; exact wpAny_pure (fin h' sb r)
    · refine wpAny_bind (wpAny_pure ?_)
      simp only [↓reduceIte]
      refine setS_add_tail ?_ ho hex hd g1 nd1 m1 hb1 hf1 hr1 hled ?_
      · intro b s₁ Q' q; cases b <;> first | exact wpAny_pure q | exact wpAny_rule q
      · intro h' sb r; dsimp only; exact wpAny_pure (fin h' sb r)

/-- found.add(k) -/
theorem setS_add {k : Str} {tk : Tok} {Q : Value → Shared → Prop} (R : SetS w s.heap a S n) (room : n + 1 < scanBound)
    (hQ : ∀ h', Heap.SameBut a s.heap h' → SetS w h' a (fun j => S j || decide (j = k)) (if S k = true then n else n + 1) → Q .none { s with heap := h', toks := s.toks + 1 }) :
    wpAny (model P w) A (call (.builtin "set.add") [.ref a, .str k tk]) Q E s := by
  have hS : s.heap.SetOf (PySem.strKind P w) a S n := R.setOf
  refine wpAny_call_entry F.slot_set_add hS.typeIs F.entry_set_add ?_ (F.args_set_add_2 _ _)
  unfold Builtin.«set.add» Builtin.Frozenset.oneOther
  simp only [List.isEmpty_nil, bind_assoc]
  unfold Builtin.Frozenset.addrOf setAdd
  refine wpAny_bind (wpAny_pure ?_)
  try dsimp only
  refine wpAny_bind (wpAny_pure ?_)
  try dsimp only
  refine wpAny_bind ?_
  refine wpAny_holding ?_
  refine wpAny_bind ((PySem.strKind P w).pyHash (is_str_k (P := P) (w := w) k tk) ?_)
  refine setS_add_hashed (s := { s with toks := s.toks + 1 }) R room fun h' sb r => ?_
  show wpAny _ _ (ret Value.none) _ _ _
  exact wpAny_pure ⟨_, rfl, hQ h' sb r⟩

end
section
variable {P : Program} {w : World} {A : Around} {E : Value → Shared → Prop} {s : Shared}
theorem setS_fresh {h : Heap} (w : World) : SetS w (h.push { cls := .type "set", dict := none, data := .set #[] 0 (.fresh 0 0 (!w.params.followText "set-order")) }) h.objs.size (fun _ => false) 0 :=
  ⟨_, #[], 0, _, Heap.get?_push_size _ rfl, ⟨rfl, rfl, rfl⟩, rfl, (fun e he => by simp at he), (by simp), (fun k => by simp), (by decide), (by rfl), rfl, List.Pairwise.nil, by
    show _ ∨ (!w.params.followText "set-order") = true
    cases w.params.followText "set-order"
    · exact .inr rfl
    · exact .inl rfl⟩
theorem newSet_ok {Q : Value → Shared → Prop} (h : Q (.ref s.heap.objs.size) { s with heap := s.heap.push { cls := .type "set", dict := none, data := .set #[] 0 (.fresh 0 0 (!w.params.followText "set-order")) } }) :
    wpAny (model P w) A (newSet (.type "set")) Q E s := by
  unfold newSet
  refine wpAny_bind (wpAny_byText ?_)
  dsimp only
  simp only [newObj]
  exact wpAny_bind (wpAny_alloc (wpAny_pure h))

end
/-- the set of truth values at a -/
def SetSO (w : World) (a : Addr) (S : Str → Bool) (n : Nat) : HO := .ext fun h => SetS w h a S n
theorem setSO_new {w : World} {P : Program} {H : Hp} {h : Heap} {a : Addr} {S : Str → Bool} {n : Nat} (R : SetS w h a S n) : ObjOk P w H h a (SetSO w a S n) := by
  have ⟨o, _, _, _, ho, _⟩ := R
  exact ⟨R, ⟨o, ho⟩, fun h1 h2 p k => SetS.at p k⟩
section
variable {X : Cx}
theorem setSO_get {pins : List (Addr × Obj)} {σ : L2.St} {H : Hp} {s : Shared} {a : Addr} {S : Str → Bool} {n : Nat} (I : Inv X pins σ H s) (ha : H a = some (SetSO X.w a S n)) : SetS X.w s.heap a S n := (I.hok a _ ha).1
/-- set.add of a truth value -/
theorem addS_ok {pins : List (Addr × Obj)} {σ : L2.St} {H : Hp} {s : Shared} {E : Value → Shared → Prop} {D : Addr} {S : Str → Bool} {n : Nat} {y : Str} {tk : Tok} {Q : Value → Shared → Prop} (I : Inv X pins σ H s) (hD : H D = some (SetSO X.w D S n)) (room : n + 1 < scanBound)
    (h : ∀ s', Inv X pins σ (upd H D (SetSO X.w D (fun j => S j || decide (j = y)) (if S y = true then n else n + 1))) s' → Q .none s') : wpAny (model X.prog X.w) X.A (call (.builtin "set.add") [.ref D, .str y tk]) Q E s := by
  have R := setSO_get I hD
  refine setS_add R room fun h' sb new => ?_
  have he : ∃ u, h'.get? D = some u := by
    have ⟨o, _, _, _, ho, _⟩ := new
    exact ⟨o, ho⟩
  exact h _ (I.write (e := D) (t' := s.toks + 1) (by rw [hD]; trivial) (.inl rfl) (fun b u hb hu => (sb.2 b hb).trans hu) he (setSO_new new))
end
section
variable {prog : Program} {w : World} {A : Around} {R : Result → Shared → Prop} {s : Shared} {env : Env}
theorem eval_SetComp (elt : Expr) (gens : List Comprehension) (scope : Scope) (pos : Pos) : eval (.SetComp elt gens scope pos) env =
    comprehension (.SetComp elt gens scope pos) scope env (firstIterPos gens pos) (newSet (.type "set")) (firstAsync gens) (firstIter gens env) := rfl
theorem compTurn_set (elt target iter : Expr) (ifs : List Expr) (scope : Scope) (pos : Pos) (it acc : Value) (env : Env) :
    compTurn (.SetComp elt [⟨target, iter, ifs, 0⟩] scope pos) 0 it acc env = (do
      standAt iter.pos
      match ← pyNext it with
      | none => pure (.done .next)
      | some v =>
        letOwnedTupleGo target it v
        assign target env v
        let mut ok := true
        for c in ifs do
          if ok then ok ← isTrue c env (eval c env)
        if ok then
          (do let v ← eval elt env; standAt elt.pos; let _ ← call (.builtin "set.add") [acc, v])
        again (.compLoop (.SetComp elt [⟨target, iter, ifs, 0⟩] scope pos) 0 it acc env)) := by rfl
theorem codeAny_compStart_set {elt target iter : Expr} {ifs : List Expr} {rest : List Comprehension} {scope : Scope} {pos : Pos} {it acc : Value}
    (h0 : codeAny (model prog w) A (.compLoop (.SetComp elt (⟨target, iter, ifs, 0⟩ :: rest) scope pos) 0 it acc env) R s)
    (h : wpAny (model prog w) A (pyIter it) (fun it' s' => codeAny (model prog w) A (.compLoop (.SetComp elt (⟨target, iter, ifs, 0⟩ :: rest) scope pos) 0 it' acc env) R s')
      (notedBy (model prog w) A env fun x s' => R (.error x) s') s) :
    codeAny (model prog w) A (.compStart (.SetComp elt (⟨target, iter, ifs, 0⟩ :: rest) scope pos) 0 it acc env) R s := by
  refine codeAny_of_tree ?_
  show wpAny _ _ ((compStart (.SetComp elt (⟨target, iter, ifs, 0⟩ :: rest) scope pos) 0 it acc env).onRaise (fun x => do noteFrame x env; standAt theWindowsPlace)) _ _ s
  refine wpAny_notedAt ?_
  unfold compStart
  show wpAny _ _ (ask >>= _) _ _ s
  refine wpAny_bind (wpAny_askSetting (wpAny_ite ?_))
  split
  · first
      | exact wpAny_bind (wpAny_pure (wpAny_pure (And.intro rfl h0)))
      | exact wpAny_pure (And.intro rfl h0)
  · first
      | exact wpAny_bind (wpAny_rule (wpAny_bind (wpAny_standAt (wpAny_bind (wpAny_mono h (fun it' s' h' => wpAny_pure (And.intro rfl h')) fun _ _ x => x)))))
      | (refine wpAny_bind (wpAny_rule ?_); show wpAny _ _ (standAt iter.pos >>= _) _ _ s; exact wpAny_bind (wpAny_standAt (wpAny_bind (wpAny_mono h (fun it' s' h' => wpAny_pure (And.intro rfl h')) fun _ _ x => x))))
theorem compLoopS_any {elt target iter : Expr} {ifs : List Expr} {scope : Scope} {pos : Pos} {it acc : Value} (I : Nat → Shared → Prop)
    (turn : ∀ n s, I n s → wpAny (model prog w) A (pyNext it) (fun r s₁ => match r with
      | none => R (.ok .next) s₁
      | some v => wpAny (model prog w) A (letOwnedTupleGo target it v) (fun _ s₁' => wpAny (model prog w) A (assign target env v) (fun _ s₂ =>
          wpAny (model prog w) A (forIn ifs true fun c r => if r = true then do let ok ← isTrue c env (eval c env); pure (ForInStep.yield ok) else pure (ForInStep.yield r)) (fun ok s₃ =>
            if ok = true then wpAny (model prog w) A (eval elt env) (fun x s₄ =>
              wpAny (model prog w) A (call (.builtin "set.add") [acc, x]) (fun _ s₅ => ∃ m, m < n ∧ I m s₅) (notedBy (model prog w) A env fun e s' => R (.error e) s') s₄) (notedBy (model prog w) A env fun e s' => R (.error e) s') s₃
            else ∃ m, m < n ∧ I m s₃) (notedBy (model prog w) A env fun e s' => R (.error e) s') s₂) (notedBy (model prog w) A env fun e s' => R (.error e) s') s₁') (notedBy (model prog w) A env fun e s' => R (.error e) s') s₁) (notedBy (model prog w) A env fun e s' => R (.error e) s') s)
    (n : Nat) (h : I n s) :
    codeAny (model prog w) A (.compLoop (.SetComp elt [⟨target, iter, ifs, 0⟩] scope pos) 0 it acc env) R s := by
  refine codeAny_loop rfl I (fun n s hI => ?_) n h
  show wpAny _ A ((compTurn (.SetComp elt [⟨target, iter, ifs, 0⟩] scope pos) 0 it acc env).onRaise (fun x => do noteFrame x env; theTreesLotGoes x)) _ _ s
  refine wpAny_noted ?_
  rw [compTurn_set]
  refine wpAny_bind (wpAny_standAt (wpAny_bind (wpAny_mono (turn n s hI) (fun r s₁ h₁ => ?_) fun _ _ h' => h')))
  cases r with
  | none => exact wpAny_pure h₁
  | some v =>
    refine wpAny_bind (wpAny_mono h₁ (fun _ s₁' h₁' => ?_) fun _ _ h' => h')
    refine wpAny_bind (wpAny_mono h₁' (fun _ s₂ h₂ => wpAny_bind (wpAny_mono h₂ (fun ok s₃ h₃ => ?_) fun _ _ h' => h')) fun _ _ h' => h')
    cases ok with
    | false => exact wpAny_pure ⟨rfl, h₃⟩
    | true =>
      exact wpAny_bind (wpAny_bind (wpAny_mono h₃ (fun x s₄ h₄ => wpAny_bind (wpAny_standAt (wpAny_bind (wpAny_mono h₄ (fun _ s₅ h₅ => wpAny_pure (wpAny_pure ⟨rfl, h₅⟩)) fun _ _ h' => h')))) fun _ _ h' => h'))
end

section
variable {X : Cx}
/-- {elt for target in iter if ..}, elt a truth value: D the new set -/
def tSc (w : World) (wi : TI) (g : TG) (tt : TT) (te : TE) (vs : List Nat) : TE := fun σ H Q => wi σ H fun J H1 => ∀ D, H1 D = none → ∃ W : Nat → Nat → Hp → Prop, (∃ m, W 0 m (upd H1 D (SetSO w D (fun _ => false) 0))) ∧ ∀ i m H, W i m H →
  (J.stop i H ∧ Q (.ref D) H) ∨ (J.go i H ∧ ∃ Nx : Hp → Prop, (∀ H', Nx H' → ∃ m', m' < m ∧ W (i + 1) m' H') ∧ ∀ x H', J.yld i H x H' → g x (wipe σ vs) H' fun σ2 H2 => wipe σ2 vs = wipe σ vs ∧ tt σ2 H2 fun b H3 =>
    if b = true then te σ2 H3 fun y H4 => ∃ (c : Str) (S : Str → Bool) (n : Nat), y = .str c ∧ H4 D = some (SetSO w D S n) ∧ n + 1 < scanBound ∧ Nx (upd H4 D (SetSO w D (fun j => S j || decide (j = c)) (if S c = true then n else n + 1))) else Nx H3)
theorem sc_core {pins : List (Addr × Obj)} {s : Shared} {σ : L2.St} {H : Hp} {Q : VK} {elt tg iter : Expr} {ifs : List Expr} {scope : Scope} {own : List (PySem.Str × Nat)} {pos pos' : Pos} {wi : TI} {g : TG} {tt : TT} {te : TE} {use : Option (Value → Sem Unit)} {Qf : Value → Shared → Prop}
    (hc : X.calm = true) (hN : X.N.Nodup) (I : Inv X pins σ H s) (hi : PI X tg iter wi) (ok : BlkOk X.N X.env.scope scope own)
    (hg : ∀ (s : Shared) (H : Hp) (C : Addr) (cl : List (PySem.Str × Addr)) (fp : List Addr), PG (X.blk s H scope (compEnvC scope cl C X.env) fp) tg g) (ht : ∀ (s : Shared) (H : Hp) (C : Addr) (cl : List (PySem.Str × Addr)) (fp : List Addr), PTs (X.blk s H scope (compEnvC scope cl C X.env) fp) ifs tt)
    (he : ∀ (s : Shared) (H : Hp) (C : Addr) (cl : List (PySem.Str × Addr)) (fp : List Addr), PE (X.blk s H scope (compEnvC scope cl C X.env) fp) elt te) (hs : ∀ x, foldedSetIterable iter X.env x = pure x)
    (h : tSc X.w wi g tt te (own.map (·.2)) σ H Q)
    (hRR : ∀ D C s' m H', Inv X pins σ H' s' → Q (.ref D) H' → s'.heap.Ns C m → FpOk X pins H' C → compPost (model X.prog X.w) X.A X.xe use Qf (.ref D) C (.ok .next) s') :
    wpAny (model X.prog X.w) X.A (comprehension (.SetComp elt [⟨tg, iter, ifs, 0⟩] scope pos) scope X.env pos' (newSet (.type "set")) false (eval iter X.env) use) Qf X.xe s := by
  have hfree : ∀ y ∈ scope.names, y.2 = .free → ∃ c, X.env.cells.lookup y.1 = some c := fun y hy e => by
    rcases ok.free y hy e with k | k
    · exact I.ok.has _ (.inl k)
    · exact I.ok.has _ (.inr k)
  refine wpAny_comprehension_free (use := use) rfl hs (closure_ok hfree) ok.kind (fun y hy e => by rw [ok.uniq y hy, e])
    (thn (hi.run pins s σ H _ I h) fun xv s1 hx => thn hx fun itv s2 h2 => ?_)
  obtain ⟨it, fp, tn, J, H2, e, I2, T, st2, f2, q⟩ := h2
  subst e
  refine newSet_ok (newEnv_comp ?_)
  generalize hD : s2.heap.objs.size = D
  have hDn : H2 D = none := I2.hok.fresh (Nat.le_of_eq hD)
  obtain ⟨W, ⟨m0, w0⟩, turn⟩ := q D hDn
  -- the new list
  generalize hs3 : ({ s2 with heap := s2.heap.push { cls := .type "set", dict := none, data := .set #[] 0 (.fresh 0 0 (!X.w.params.followText "set-order")) } } : Shared) = s3
  have I3 : Inv X pins σ (upd H2 D (SetSO X.w D (fun _ => false) 0)) s3 := by
    rw [← hs3]
    refine I2.laid (t' := s2.toks) (fun b o e => Heap.get?_push_of_some _ e) (Nat.le_of_eq hD) ?_
    rw [← hD]
    exact setSO_new (setS_fresh X.w)
  have h3 : s3.heap = s2.heap.push { cls := .type "set", dict := none, data := .set #[] 0 (.fresh 0 0 (!X.w.params.followText "set-order")) } := by rw [← hs3]
  have sz : ∀ b ∈ fp, b < s2.heap.objs.size := fun b hb => by
    obtain ⟨o, e, _⟩ := T.obj _ _ st2 b hb
    exact Heap.lt_size e
  have f3 : ∀ b ∈ fp, FpOk X pins (upd H2 D (SetSO X.w D (fun _ => false) 0)) b ∧ b < s3.heap.objs.size := fun b hb => by
    have hlt := sz b hb
    refine ⟨⟨?_, (f2 b hb).2⟩, by rw [h3, Heap.size_push]; exact Nat.lt_succ_of_lt hlt⟩
    rw [upd_ne (by rw [← hD]; exact Nat.ne_of_lt hlt)]
    exact (f2 b hb).1
  have st3 : tn 0 s3.heap := T.keep _ _ _ st2 fun b _ o e => by rw [h3]; exact Heap.get?_push_of_some _ e
  have I4 := block_start I3 ok hN f3
  have pg := hg s3 (upd H2 D (SetSO X.w D (fun _ => false) 0)) s3.heap.objs.size (cellsFrom (s3.heap.objs.size + 1) scope.names (cloFrom X.env.cells scope.names [])) fp
  have pt := ht s3 (upd H2 D (SetSO X.w D (fun _ => false) 0)) s3.heap.objs.size (cellsFrom (s3.heap.objs.size + 1) scope.names (cloFrom X.env.cells scope.names [])) fp
  have pe := he s3 (upd H2 D (SetSO X.w D (fun _ => false) 0)) s3.heap.objs.size (cellsFrom (s3.heap.objs.size + 1) scope.names (cloFrom X.env.cells scope.names [])) fp
  show codeAny _ _ (.compStart (.SetComp elt [⟨tg, iter, ifs, 0⟩] scope pos) 0 (.ref it) (.ref D) (compEnvC scope (cellsFrom (s3.heap.objs.size + 1) scope.names (cloFrom X.env.cells scope.names [])) s3.heap.objs.size X.env)) (compPost (model X.prog X.w) X.A X.xe use Qf (.ref D) s3.heap.objs.size) { s3 with heap := pushCells (s3.heap.push { cls := .type "dict", data := .dict #[] }) scope.names }
  have nfp : ∀ b ∈ fp, (upd H2 D (SetSO X.w D (fun _ => false) 0)) b = none := fun b hb => (f3 b hb).1.1
  generalize hce : compEnvC scope (cellsFrom (s3.heap.objs.size + 1) scope.names (cloFrom X.env.cells scope.names [])) s3.heap.objs.size X.env = ce at I4 pg pt pe ⊢
  have cL : ce.locals = s3.heap.objs.size := by subst hce; rfl
  generalize hH3 : upd H2 D (SetSO X.w D (fun _ => false) 0) = H3 at I3 I4 pg pt pe w0 nfp f3
  generalize hs4 : ({ s3 with heap := pushCells (s3.heap.push { cls := .type "dict", data := .dict #[] }) scope.names } : Shared) = s4 at I4 ⊢
  have st4 : tn 0 s4.heap := T.keep _ _ _ st3 fun b _ o e => by rw [← hs4]; exact pushCells_keeps _ _ _ _ (Heap.get?_push_of_some _ e)
  have stat : ∀ {σ' : L2.St} {H' : Hp} {s' : Shared}, Inv (X.blk s3 H3 scope ce fp) [] σ' H' s' → (∀ b ∈ fp, H' b = none) → ∀ b ∈ fp, FpOk (X.blk s3 H3 scope ce fp) [] H' b := fun {σ' H' s'} I' hn b hb =>
    ⟨hn b hb, (I'.ok.exf b hb).1, I'.ok.exfs b hb, .inl hb, fun x c e => (I'.ok.exf b hb).2 x c e, fun p hp => absurd (show p ∈ ([] : List (Addr × Obj)) ++ [] from hp) (by simp)⟩
  have loop : codeAny (model X.prog X.w) X.A (.compLoop (.SetComp elt [⟨tg, iter, ifs, 0⟩] scope pos) 0 (.ref it) (.ref D) ce) (compPost (model X.prog X.w) X.A X.xe use Qf (.ref D) s3.heap.objs.size) s4 := by
    refine compLoopS_any (fun n s' => ∃ i H', Inv (X.blk s3 H3 scope ce fp) [] (wipe σ (own.map (·.2))) H' s' ∧ tn i s'.heap ∧ (∀ b ∈ fp, H' b = none) ∧ W i n H') ?_ m0 ⟨0, H3, I4, st4, nfp, w0⟩
    rintro n s5 ⟨i, H5, I5, st5, n5, w5⟩
    rcases turn i n H5 w5 with ⟨stop, qq⟩ | ⟨go, Nx, hNx, step⟩
    · have td := T.done (X.blk s3 H3 scope ce fp) rfl rfl rfl hc i [] s5 _ H5 (fun _ _ => False) I5 (stat I5 n5) st5 stop
      refine thnF td fun r s6 ⟨hr, I6⟩ => ?_
      subst hr
      -- back in the def's context
      have I7 : Inv X pins σ H5 s6 := I3.call' (ch := fp) I6.os I6.base I6.hok I6.bare fun b hb => ⟨(f3 b hb).1.2.2.2.1, (f3 b hb).1.2.1, (f3 b hb).1.2.2.2.2.1, (f3 b hb).1.2.2.2.2.2⟩
      have nC : H5 s3.heap.objs.size = none := by
        have z : H5 ce.locals = none := I6.free
        rw [cL] at z
        exact z
      obtain ⟨m, hn, _⟩ := I6.loc
      have hn : s6.heap.Ns ce.locals m := hn
      rw [cL] at hn
      exact hRR D s3.heap.objs.size s6 m H5 I7 qq hn (I3.fpOk (Nat.le_refl _) nC)
    · have ti := T.item (X.blk s3 H3 scope ce fp) rfl rfl rfl hc i [] s5 _ H5 (fun _ _ => False) I5 (stat I5 n5) st5 go
      refine thnF ti fun r s6 ⟨u, hr, h6⟩ => ?_
      subst hr
      refine thnF h6 fun _ s7 ⟨x, H7, I7, r7, y7, st7, n7⟩ => ?_
      have I7' := I7.pinned (stat I7 n7) (T.obj _ _ st7)
      refine thnF (pg.run _ s7 _ H7 x u _ I7' r7 (step x H7 y7)) fun _ s8 ⟨σ8, H8, I8, hw8, q8⟩ => ?_
      refine thnF (pt.run _ s8 σ8 H8 _ I8 q8) fun b s9 ⟨H9, I9, q9⟩ => ?_
      -- the turn's end
      have fin : ∀ {s' : Shared} {H' : Hp}, Inv (X.blk s3 H3 scope ce fp) ([] ++ pinsAt fp s7.heap) σ8 H' s' → Nx H' → ∃ m, m < n ∧ ∃ i H', Inv (X.blk s3 H3 scope ce fp) [] (wipe σ (own.map (·.2))) H' s' ∧ tn i s'.heap ∧ (∀ b ∈ fp, H' b = none) ∧ W i m H' := fun {s' H'} I' nx => by
        obtain ⟨m', hm, w'⟩ := hNx H' nx
        have pin' : ∀ b ∈ fp, ∀ o, s7.heap.get? b = some o → s'.heap.get? b = some o ∧ H' b = none := fun b hb o e =>
          let z := I'.pin (b, o) (List.mem_append_right _ (List.mem_append_right _ (mem_pinsAt hb e)))
          ⟨z.1, z.2.1⟩
        have hl : (wipe σ (own.map (·.2))).length = σ8.length := by rw [← hw8, wipe_length]
        refine ⟨m', hm, i + 1, H', (I'.unpinned (pins := [])).weak hl (fun j v e => ?_), T.keep _ _ _ st7 fun b hb o e => (pin' b hb o e).1, fun b hb => ?_, w'⟩
        · rw [← hw8] at e
          exact (wipe_some e).1
        · obtain ⟨o, e, _⟩ := T.obj _ _ st7 b hb
          exact (pin' b hb o e).2
      cases b with
      | false =>
        simp only [Bool.false_eq_true, if_false] at q9 ⊢
        exact fin I9 q9
      | true =>
        simp only [if_true] at q9 ⊢
        refine thnF (pe.run _ s9 σ8 H9 _ I9 q9) fun z s10 ⟨yv, H10, I10, r10, cb, S0, n0, ey, hD10, hz10, nx⟩ => ?_
        subst ey
        obtain ⟨tk, rfl⟩ := (show ∃ t, z = Value.str cb t from r10)
        exact addS_ok (X := X.blk s3 H3 scope ce fp) I10 hD10 hz10 fun s11 I11 => fin I11 nx
  exact codeAny_compStart_set loop (T.self X.A 0 _ _ _ st4 loop)
/-- as a value -/
theorem pe_sc {elt tg iter : Expr} {ifs : List Expr} {scope : Scope} {own : List (PySem.Str × Nat)} {pos : Pos} {wi : TI} {g : TG} {tt : TT} {te : TE} (hc : X.calm = true) (hN : X.N.Nodup) (hi : PI X tg iter wi) (ok : BlkOk X.N X.env.scope scope own)
    (hg : ∀ (s : Shared) (H : Hp) (C : Addr) (cl : List (PySem.Str × Addr)) (fp : List Addr), PG (X.blk s H scope (compEnvC scope cl C X.env) fp) tg g) (ht : ∀ (s : Shared) (H : Hp) (C : Addr) (cl : List (PySem.Str × Addr)) (fp : List Addr), PTs (X.blk s H scope (compEnvC scope cl C X.env) fp) ifs tt)
    (he : ∀ (s : Shared) (H : Hp) (C : Addr) (cl : List (PySem.Str × Addr)) (fp : List Addr), PE (X.blk s H scope (compEnvC scope cl C X.env) fp) elt te) (hs : ∀ x, foldedSetIterable iter X.env x = pure x := by intro _; rfl) :
    PE X (.SetComp elt [⟨tg, iter, ifs, 0⟩] scope pos) (tSc X.w wi g tt te (own.map (·.2))) := by
  refine ⟨fun pins s σ H Q I h => ?_⟩
  rw [eval_SetComp]
  refine sc_core hc hN I hi ok hg ht he hs h fun D C s' m H' I' q hn f => ⟨m, hn, fun h'' sb => ?_⟩
  obtain ⟨f0, f1, f2, f3, f4, f5⟩ := f
  exact ⟨.ref D, H', I'.turned (t' := s'.toks) (fun b o hb e => (sb.2 b hb).trans e) f0 f1 f3 f4 f5, rfl, q⟩
end

section
variable {P : Program} {w : World} {A : Around} {E : Value → Shared → Prop} {s : Shared}
end
section
variable {P : Program} {w : World} {A : Around} {E : Value → Shared → Prop} {s : Shared} {a : Addr}
end

end UX0
set_option Elab.async false
set_option linter.all false
set_option maxRecDepth 100000
set_option maxHeartbeats 2000000
namespace U
open PySem PySem.Spec PyProof.Rows L2 UX0
section
variable {X : Cx} {tg elt iter : Expr} {ifs : List Expr} {scope : Scope} {own : List (Str × Nat)} {pos p pos2 p2 : Pos} {di : DTI} {c : CT} {tt : DTT} {te : DTE}
/-- the texts of a set comprehension, in order -/
def lcS (c : CT) (tt : DTT) (te : DTE) (δ : De) : List Da → (List Str → Mm → Prop) → Mm → Prop
  | [], k, M => k [] M
  | d :: ds, k, M => c.ok d ∧ tt (c.set d δ) M fun b M2 => if b = true then te (c.set d δ) M2 fun y M3 => match y with
      | .str z => lcS c tt te δ ds (fun ys M4 => k (z :: ys) M4) M3
      | _ => False
    else lcS c tt te δ ds k M2
/-- what the set holds -/
def gSc (di : DTI) (c : CT) (tt : DTT) (te : DTE) (vs : List Nat) (δ : De) (M : Mm) (k : List Str → Mm → Prop) : Prop := di δ M fun ds M1 => Nat.ble ds.length 1000 = true ∧ lcS c tt te (wipeD δ vs) ds k M1
/-- the end of a set: what it holds as a row without doubles -/
def ScQ (K : PySem.W.Frag) (w : World) (F W : Addr → Prop) (H : Hp) (k : List Str → Mm → Prop) : VK := fun v H2 => ∃ D S n W2 M2, ∃ (L zs : List Str), v = .ref D ∧ H2 D = some (SetSO w D S n) ∧ Grow F W H W2 H2 ∧ Stt K F W2 M2 H2 ∧ L.Nodup ∧ (∀ z, S z = true ↔ z ∈ L) ∧ L.length = n ∧ n ≤ 1000 ∧ (∀ z, z ∈ L ↔ z ∈ zs) ∧ k zs M2
theorem li_sc {K : PySem.W.Frag} {w : World} {vs : List Nat} (hv : ∀ i ∈ c.slots, i ∈ vs) {δ : De} {F W : Addr → Prop} {M : Mm} {σ : L2.St} {H : Hp} {k : List Str → Mm → Prop} {Q : VK} (ev : EnvR K W H δ σ) (s : Stt K F W M H) (h : gSc di c tt te vs δ M k) (hQ : ∀ v H2, ScQ K w F W H k v H2 → Q v H2) :
    UX0.tSc w (LI K di) (c.tg K) (Li rT K tt) (Li (rE K) K te) vs σ H Q := by
  refine ⟨δ, F, W, M, _, ev, s, h, fun J H1 W1 M1 ds g1 s1 ij ⟨hz, q⟩ D hD => ?_⟩
  have hz : ds.length ≤ 1000 := Nat.ble_eq.mp hz
  let Pv : Nat → Hp → Prop := fun i H2 => ∃ W2 Md S n, ∃ (L zs : List Str), Grow F W1 H1 W2 H2 ∧ Stt K (fadd F D) W2 Md H2 ∧ H2 D = some (SetSO w D S n) ∧ L.Nodup ∧ (∀ z, S z = true ↔ z ∈ L) ∧ L.length = n ∧ n ≤ i ∧ (∀ z, z ∈ L ↔ z ∈ zs) ∧ lcS c tt te (wipeD δ vs) (ds.drop i) (fun ys M4 => k (zs ++ ys) M4) Md
  refine ⟨fun i m H2 => m = ds.length - i ∧ i ≤ ds.length ∧ Pv i H2, ⟨ds.length, by simp, Nat.zero_le _, W1, M1, _, 0, [], [], grow_new s1 hD, s1.addF hD _, upd_same, List.nodup_nil, (fun z => by simp), rfl, Nat.le_refl _, (fun z => Iff.rfl), q⟩, ?_⟩
  rintro i m H2 ⟨rfl, hi, W2, Md, S, n, L, zs, g2, s2, hac, hnd, hS, hn, hni, hL, q2⟩
  obtain ⟨go, stop⟩ := ij (fadd F D) W2 H2 Md g2.noF s2
  by_cases hlt : i < ds.length
  · have hd : ds[i]? = some ds[i] := List.getElem?_eq_getElem hlt
    obtain ⟨go1, go2⟩ := go i _ hd
    refine .inr ⟨go1, Pv (i + 1), fun H' p' => ⟨ds.length - (i + 1), by omega, rfl, hlt, p'⟩, fun x H3 y => ?_⟩
    obtain ⟨W3, g3, s3, r3⟩ := go2 x H3 y
    rw [List.drop_eq_getElem_cons hlt] at q2
    obtain ⟨ok, q2⟩ := q2
    have e3 : EnvR K W3 H3 (wipeD δ vs) (wipe σ vs) := (ev.mono (grow_drop (g1.trans g2) g3)).wipe vs
    refine ct_ok hv ok r3 e3 fun σ2 hw ev2 => ⟨by rw [hw, wipe_wipe vs vs σ fun _ h => h], _, fadd F D, W3, Md, _, ev2, s3, q2, fun b H4 W4 b' M4 g4 s4 eb q4 => ?_⟩
    cases eb
    have gg := g3.trans g4
    cases b with
    | false =>
      refine ⟨W4, M4, S, n, L, zs, grow_drop g2 gg, s4, ?_, hnd, hS, hn, by omega, hL, q4⟩
      rw [gg.f D (.inl rfl)]; exact hac
    | true =>
      refine ⟨_, fadd F D, W4, M4, _, ev2.mono g4, s4, q4, fun v H5 W5 d M5 g5 s5 r5 q5 => ?_⟩
      cases r5 <;> first | exact q5.elim | skip
      rename_i z
      obtain ⟨s6, g6⟩ := s5.chgF (SetSO w D (fun j => S j || decide (j = z)) (if S z = true then n else n + 1))
      have g7 : Grow F W2 H2 W5 H5 := (gg.trans g5).less fun a h => .inr h
      have h5 : H5 D = some (SetSO w D S n) := by rw [(gg.trans g5).f D (.inl rfl)]; exact hac
      refine ⟨z, S, n, rfl, h5, Nat.lt_of_le_of_lt (show n + 1 ≤ 1001 by omega) (by decide), W5, M5, _, _, if S z = true then L else z :: L, zs ++ [z], ?_, s6, upd_same, ?_, ?_, ?_, ?_, ?_, ?_⟩
      · have g8 := g2.trans g7
        refine ⟨g8.w, fun a w => ?_, fun a w => ?_⟩
        · rw [upd_ne (s1.neW hD w)]; exact g8.h a w
        · rw [upd_ne (s1.neF hD w)]; exact g8.f a w
      · split
        · exact hnd
        · rename_i ns
          exact List.nodup_cons.mpr ⟨fun hm => ns ((hS z).mpr hm), hnd⟩
      · intro y
        rw [Bool.or_eq_true, decide_eq_true_eq]
        split
        · rename_i hs
          rw [hS y]
          exact ⟨fun h => h.elim id fun e => e ▸ (hS z).mp hs, .inl⟩
        · rw [hS y, List.mem_cons]; exact Or.comm
      · split
        · exact hn
        · rw [List.length_cons, hn]
      · split <;> omega
      · intro y
        rw [List.mem_append, List.mem_singleton]
        split
        · rename_i hs
          rw [hL y]
          refine ⟨.inl, fun h => h.elim id fun e => e ▸ (hL z).mp ((hS z).mp hs)⟩
        · rw [List.mem_cons, hL y]; exact Or.comm
      · have e : (fun ys M4 => k (zs ++ [z] ++ ys) M4) = fun ys M4 => k (zs ++ z :: ys) M4 := by funext ys M4; rw [List.append_assoc]; rfl
        rw [e]; exact q5
  · have e : i = ds.length := by omega
    subst e
    rw [List.drop_length] at q2
    have q3 : k zs Md := by have : k (zs ++ []) Md := q2; rwa [List.append_nil] at this
    exact .inl ⟨stop _ (Nat.le_refl _), hQ _ _ ⟨D, S, n, W2, Md, L, zs, rfl, hac, g1.trans g2, s2.lessF fun _ h => .inr h, hnd, hS, hn, by omega, hL, q3⟩⟩
theorem setSO_sets {X : Cx} {pins : List (Addr × Obj)} {σ : L2.St} {H : Hp} {s : Shared} {a : Addr} {S : Str → Bool} {n : Nat} (I : Inv X pins σ H s) (ha : H a = some (SetSO X.w a S n)) : SetS X.w s.heap a S n := (I.hok a _ ha).1
theorem cr_lenSS : CallR X (.builtin "len") (fun xs H Q => ∃ D S n, xs = [V.ref D] ∧ H D = some (SetSO X.w D S n) ∧ n ≤ 1000 ∧ Q (.int (n : Nat)) H) := by
  intro pins s σ H xs us Q I r h
  obtain ⟨D, S, n, rfl, hD, hn, q⟩ := h
  rw [Vals.ref1 r]
  obtain ⟨o, es, ep, t, ho, hex, hd, _, _, _, _, hf, hsz, _⟩ := setSO_sets I hD
  refine call_len_set ho hex hd hf (by omega) ⟨.int n, H, I.tok _, ⟨_, by rw [hsz]⟩, q⟩
theorem rds_strs {K : PySem.W.Frag} {W : Addr → Prop} {H : Hp} : ∀ ns : List Str, RDs K W H (ns.map V.str) (ns.map Da.str)
  | [] => .nil
  | n :: ns => .cons (.str n) (rds_strs ns)
/-- len({..}) -/
def gLenSc (di : DTI) (c : CT) (tt : DTT) (te : DTE) (vs : List Nat) : DTE := fun δ M Q => gSc di c tt te vs δ M fun zs M1 => ∀ L : List Str, L.Nodup → (∀ z, z ∈ L ↔ z ∈ zs) → Q (.int (L.length : Nat)) M1
section
variable (hc : X.calm = true) (hN : X.N.Nodup) (hi : DI X tg iter di) (ok : BlkOk X.N X.env.scope scope own)
    (hg : ∀ (s : Shared) (H : Hp) (C : Addr) (cl : List (Str × Addr)) (fp : List Addr), PG (X.blk s H scope (compEnvC scope cl C X.env) fp) tg (c.tg X.K)) (ht : ∀ (s : Shared) (H : Hp) (C : Addr) (cl : List (Str × Addr)) (fp : List Addr), DTs (X.blk s H scope (compEnvC scope cl C X.env) fp) ifs tt)
    (he : ∀ (s : Shared) (H : Hp) (C : Addr) (cl : List (Str × Addr)) (fp : List Addr), DE (X.blk s H scope (compEnvC scope cl C X.env) fp) elt te)
include hc hN hi ok hg ht he in
theorem d_lenSc (m : X.mg "len" = none) (hv : ∀ i ∈ c.slots, i ∈ own.map (·.2) := by decide) (hs : ∀ x, foldedSetIterable iter X.env x = pure x := by intro _; rfl) (hgl : Gl X "len" := by rfl)
    (h1 : starEach [.SetComp elt [⟨tg, iter, ifs, 0⟩] scope pos2] X.env = (false, eval (.SetComp elt [⟨tg, iter, ifs, 0⟩] scope pos2) X.env) :: starEach [] X.env := by rfl) :
    DE X (.Call (.Name "len" p) [.SetComp elt [⟨tg, iter, ifs, 0⟩] scope pos2] [] pos) (gLenSc di c tt te (own.map (·.2))) :=
  imp (pe_callB cr_lenSS hgl m b_len (pa_cons (UX0.pe_sc (wi := LI X.K di) (g := c.tg X.K) (tt := Li rT X.K tt) (te := Li (rE X.K) X.K te) hc hN hi ok hg ht he hs) pa_nil h1) (he := h1)) fun σ H Q ⟨δ, F, W, M, Qd, ev, s, h, k⟩ => by
    refine li_sc (K := X.K) (w := X.w) (Q := fun v H2 => ∃ D S n, [v] = [V.ref D] ∧ H2 D = some (SetSO X.w D S n) ∧ n ≤ 1000 ∧ Q (.int (n : Nat)) H2) hv ev s h fun v H2 ⟨D, S, n, W2, M2, L, zs, e1, e2, g2, s2, hnd, hS, hn, hn2, hL, q⟩ => ?_
    subst e1
    exact ⟨D, S, n, rfl, e2, hn2, by rw [← hn]; exact (k.mono g2).now s2 (.int _) (q L hnd hL)⟩
end
end
end U
set_option Elab.async false
set_option linter.all false
set_option maxRecDepth 100000
set_option maxHeartbeats 2000000
namespace UZ0
open PySem PySem.Spec PyProof.Rows L2
theorem tuple_keys_none : typeLookup (.type "tuple") "keys" = pure none := am_miss_of_fast (by first | decide +kernel | rfl)
section
variable {prog : Program} {w : World} {A : Around} {E : Value → Shared → Prop}
theorem miss_tuple {s : Shared} {a : Addr} {o : Obj} {xs : Array Value} {k : Nat} {Q : Option Value → Shared → Prop} (hx : s.heap.get? a = some o) (hc : o.cls = .type "tuple") (hdat : o.data = .seq xs k) (hd : o.dict = none) (hA : A.handled = none)
    (h : ∀ h' tk, (∀ b ob, s.heap.get? b = some ob → h'.get? b = some ob) → Q none { s with heap := h', toks := tk }) : wpAny (model prog w) A (getAttr? (.ref a) "keys") Q E s := by
  obtain ⟨c, dct, dat, sl⟩ := o
  simp only at hc hdat hd
  subst hc hdat hd
  obtain ⟨hp, g, d, tk, os⟩ := s
  have hT : ∀ tk', (⟨hp, g, d, tk', os⟩ : Shared).TypeIs (.ref a) "tuple" := fun _ => ⟨_, hx, rfl⟩
  have hmiss := tuple_keys_none
  have hname : (["__module__", "__name__", "__qualname__", "__doc__", "__annotations__"] : List Str).contains "keys" = false := by decide +kernel
  have hsz : ("keys" : Str).length + 100 ≤ sizeLine := by first | size_fits | decide +kernel
  have f1 := sub_AttributeError
  have f3 := PySem.F.slot_tuple_getattribute.lookup
  have f4 := PySem.F.slot_tuple_getattribute.bind (.ref a)
  have f5 := am_tuple_getattr_none
  unfold getAttr? getAttrBy? getAttrBy
  repeat (any_goals (first | assumption | exact hT _ | ((with_reducible show wpAny _ _ (call (Value.builtin "tuple.__getattribute__") _ _) _ _ _); refine call_meets PySem.F.slot_tuple_getattribute (hT _) am_entry_tuple_getattribute (PySem.F.args_tuple_getattribute_2 _ _) (meets_getattribute_miss_tuple a xs k sl "keys" _ hmiss hname hsz) ⟨hx, hA, fun h' tk' e hx' => ?_⟩) | wp_step))
  obtain ⟨t', u', he⟩ := hx'.there
  show wpAny _ _ (getattributeRaised _ _ _ _ _ _ _) _ _ _
  unfold getattributeRaised
  repeat (any_goals (first | assumption | wp_step))
  all_goals first | exact h _ _ hx'.keeps | (dsimp only; repeat (any_goals (first | assumption | exact h _ _ hx'.keeps | wp_step)))

/-- the walk over the pairs -/
theorem upd_loopT {R : Result → Shared → Prop} {S I l : Addr} {items : Array Value} {res : Value} (hh : A.handled = none) (hlI : l ≠ I) (hSI : S ≠ I) (hSl : S ≠ l) :
    ∀ (rest : List (Key × Value)) (i : Nat) (acc : List (Key × Value)) (ix : Int) (t : Tok) (s : Shared), items.size = i + rest.length → acc.length + rest.length ≤ sizeLine →
      (∀ (j : Nat) (q : Key × Value), rest[j]? = some q → ∃ (b : Addr) (u : Value), items[i + j]? = some (.ref b) ∧ b ≠ S ∧ b ≠ I ∧ IsTup s.heap b #[u, q.2] ∧ keyIs q.1 u = true) →
      s.heap.IsTupleIter I l i → s.heap.IsTuple l items → s.heap.DictOf (mixKind prog w) S acc →
      (∀ h' tk, h'.DictOf (mixKind prog w) S (merged acc rest) → (∀ b o, b ≠ S → b ≠ I → s.heap.get? b = some o → h'.get? b = some o) → R (.ok (.ret res)) { s with heap := h', toks := tk }) →
      codeAny (model prog w) A (.builtin "dict.update.loop" ⟨[.ref S, .ref I, .int ix t, res], []⟩) R s
  | [], i, acc, ix, t, s, hsz, hln, ht, hit, hl, hm, hR => by
    refine codeAny_builtin ud_entry ?_
    rw [Around.under_plainId ud_plain _]
    show wpAny _ A.in1 (pyNext (.ref I) >>= _) _ _ s
    refine wpAny_bind (wpAny_pyNext_tuple_end (A := A.in1) hh hit hl (by first | exact Array.getElem?_eq_none (Nat.le_of_eq hsz) | (simp at hsz; simp; omega)) fun h' he => ?_)
    show wpAny _ A.in1 (Builtin.Dict.addKeywords S [] >>= _) _ _ _
    refine wpAny_bind (wpAny_pure (wpAny_pure ?_))
    exact hR h' s.toks (hm.extBut he hSI) fun b o _ hb e => he b o hb e
  | q :: rest, i, acc, ix, t, s, hsz, hln, ht, hit, hl, hm, hR => by
    obtain ⟨b, u, hb, hbS, hbI, htup, hk⟩ := ht 0 q rfl
    rw [List.length_cons] at hsz hln
    refine codeAny_builtin ud_entry ?_
    rw [Around.under_plainId ud_plain _]
    show wpAny _ A.in1 (pyNext (.ref I) >>= _) _ _ s
    refine wpAny_bind (wpAny_pyNext_tuple_item (x := .ref b) hit hl (by simpa using hb) fun h1 hit1 hs1 => ?_)
    have ht1 : IsTup h1 b #[u, q.2] := htup.extBut hs1.extBut hbI
    have hl1 : h1.IsTuple l items := hl.extBut hs1.extBut hlI
    have hm1 : h1.DictOf (mixKind prog w) S acc := hm.extBut hs1.extBut hSI
    obtain ⟨o, ho, hc, n, hd⟩ := id ht1
    show wpAny _ A.in1 (holding [Value.ref b] _ >>= _) _ _ _
    refine wpAny_bind (wpAny_holding ?_)
    refine wpAny_bind (wpAny_tryCatch ?_)
    unfold Builtin.Dict.pairItems
    refine wpAny_bind (wpAny_typeOf (T := "tuple") ⟨o, ho, hc⟩ ?_)
    rw [if_pos (by first | decide | rfl | simp)]
    refine wpAny_bind (wpAny_seqItems ho hd (wpAny_pure ?_))
    show wpAny _ A.in1 (holding [u, q.2] (dictSet S u q.2)) _ _ _
    refine wpAny_holding (wpAny_dictSet_pairs (knd := mixKind prog w) (k := q.1) hk hm1 (fun h2 hm2 hs2 => ?_) (by omega))
    refine wpAny_pure ⟨plainId_quiet ud_plain _, upd_loopT (items := items) hh hlI hSI hSl rest (i + 1) (stored acc q.1 q.2) (ix + 1) 0 _ (show items.size = i + 1 + rest.length by omega) ?_ (fun j q' e => ?_) ?_ ?_ hm2 fun h' tk hd' k => ?_⟩
    · have z := stored_length_le acc q.1 q.2
      omega
    · obtain ⟨b', u', hb', hbS', hbI', htup', hk'⟩ := ht (j + 1) q' (by simpa using e)
      refine ⟨b', u', ?_, hbS', hbI', (htup'.extBut hs1.extBut hbI').extBut hs2.extBut hbS', hk'⟩
      rw [show i + 1 + j = i + (j + 1) by omega]
      exact hb'
    · exact hit1.at fun o' e => hs2.extBut I o' (Ne.symm hSI) e
    · exact hl1.extBut hs2.extBut (Ne.symm hSl)
    · exact hR h' tk hd' fun c oc h3 h4 e => k c oc h3 h4 (hs2.extBut c oc h3 (hs1.extBut c oc h4 e))

/-- dict(l) of a list of pairs -/
theorem call_dict_pairsT {s : Shared} {l : Addr} {ol : Obj} {items : Array Value} {n : Nat} {prs : List (Key × Value)} {Q : Value → Shared → Prop} (hh : A.handled = none) (hl : s.heap.get? l = some ol) (hc : ol.cls = .type "tuple") (hd : ol.dict = none)
    (hdat : ol.data = .seq items n) (hsz : items.size = prs.length) (hln : prs.length ≤ sizeLine)
    (ht : ∀ (j : Nat) (q : Key × Value), prs[j]? = some q → ∃ (b : Addr) (u : Value), items[j]? = some (.ref b) ∧ IsTup s.heap b #[u, q.2] ∧ keyIs q.1 u = true)
    (h : ∀ h' tk, h'.DictOf (mixKind prog w) s.heap.objs.size (merged [] prs) → (∀ b o, s.heap.get? b = some o → h'.get? b = some o) → Q (.ref s.heap.objs.size) { s with heap := h', toks := tk }) :
    wpAny (model prog w) A (call (.type "dict") [.ref l]) Q E s := by
  refine callType_codes (Q₁ := fun obj s₁ => obj = .ref s.heap.objs.size ∧ s₁ = { s with heap := s.heap.push { cls := .type "dict", data := .dict #[] } }) PySem.F.kt_called_dict (PySem.F.kt_typeCall_dict_1 _) PySem.F.entry_dict_init (kt_code_dict_new _ ⟨rfl, rfl⟩) ?_
  rintro obj s₁ ⟨rfl, rfl⟩
  have hnew : (s.heap.push { cls := .type "dict", data := .dict #[] }).DictOf (mixKind prog w) s.heap.objs.size [] := Heap.DictOf.new s.heap
  have k0 : ∀ b o, s.heap.get? b = some o → (s.heap.push { cls := .type "dict", data := .dict #[] }).get? b = some o := fun b o e => Heap.get?_push_of_some _ e
  refine ⟨hnew.typeIs, PySem.F.args_dict_init_2 _ _, ?_⟩
  unfold Builtin.«dict.__init__»
  refine wpAny_bind ?_
  unfold Builtin.Dict.selfAndRest
  refine wpAny_bind (wpAny_notOrdered_dict hnew.typeIs ?_)
  show wpAny _ _ (pure (s.heap.objs.size, [Value.ref l])) _ _ _
  refine wpAny_pure ?_
  show wpAny _ _ (Builtin.Dict.updateFrom "dict.__init__" s.heap.objs.size (.ref l) [] .none) _ _ _
  unfold Builtin.Dict.updateFrom
  refine wpAny_bind (wpAny_typeOf (T := "tuple") ⟨ol, k0 _ _ hl, hc⟩ ?_)
  rw [if_pos (by first | decide | rfl | simp)]
  refine wpAny_bind (miss_tuple (k0 _ _ hl) hc hdat hd hh fun h1 tk1 hk1 => ?_)
  rw [if_pos (show (none : Option Value).isNone = true from rfl)]
  refine wpAny_bind (wpAny_rule ?_)
  have hl1 : h1.IsTuple l items := ⟨ol, hk1 _ _ (k0 _ _ hl), hc, n, hdat⟩
  have hS1 : s.heap.objs.size < h1.objs.size := by
    have e : (s.heap.push { cls := .type "dict", data := .dict #[] }).get? s.heap.objs.size = some { cls := .type "dict", data := .dict #[] } := Heap.get?_push_size _ rfl
    exact Heap.lt_size (hk1 _ _ e)
  refine wpAny_bind (wpAny_pyIter_tuple hl1 ?_)
  have k2 : ∀ b o, h1.get? b = some o → (h1.push { cls := .type "tuple_iterator", data := .fields #[.ref l, .int 0 0] }).get? b = some o := fun b o e => Heap.get?_push_of_some _ e
  have hlt : l < s.heap.objs.size := Heap.lt_size hl
  have key := upd_loopT (prog := prog) (w := w) (A := A.in1) (R := wants (fun r s₂ => r = .none ∧ Q (.ref s.heap.objs.size) s₂) E) (S := s.heap.objs.size) (I := h1.objs.size) (l := l) (items := items) (res := Value.none) hh
    (Nat.ne_of_lt (Nat.lt_trans hlt hS1)) (Nat.ne_of_lt hS1) (Nat.ne_of_gt hlt) prs 0 [] 0 0
    { s with heap := h1.push { cls := .type "tuple_iterator", data := .fields #[.ref l, .int 0 0] }, toks := tk1 } (by rw [hsz, Nat.zero_add]) (by rw [List.length_nil, Nat.zero_add]; exact hln)
    (fun j q e => by
      obtain ⟨b, u, e1, e2, e3⟩ := ht j q e
      have hb : b < s.heap.objs.size := e2.lt
      exact ⟨b, u, by rw [Nat.zero_add]; exact e1, Nat.ne_of_lt hb, Nat.ne_of_lt (Nat.lt_trans hb hS1), e2.keeps fun c o z => k2 _ _ (hk1 _ _ (k0 _ _ z)), e3⟩)
    ⟨_, Heap.get?_push_size _ rfl, rfl, rfl⟩ (hl1.at fun o e => k2 _ _ e) ((hnew.at fun o e => hk1 _ _ e).at fun o e => k2 _ _ e)
    (fun h' tk hd' k => ⟨rfl, h h' tk hd' fun b o e => k b o (Nat.ne_of_lt (Heap.lt_size e)) (Nat.ne_of_lt (Nat.lt_trans (Heap.lt_size e) hS1)) (k2 _ _ (hk1 _ _ (k0 _ _ e)))⟩)
  first
    | exact wpAny_pure ⟨plainId_quiet ud_plain _, key⟩
    | exact wpAny_bind (wpAny_pure (wpAny_pure ⟨plainId_quiet ud_plain _, key⟩))

end
end UZ0
namespace U
open PySem PySem.Spec PyProof.Rows L2 UX0 UZ0
def valD (kvs : List (Key × Da)) (k : Key) : Option Da := (kvs.find? fun kv => decide (kv.1 = k)).map (·.2)
def putDK (kvs : List (Key × Da)) (k : Key) (d : Da) : List (Key × Da) :=
  if (kvs.any fun kv => decide (kv.1 = k)) = true then kvs.map (fun kv => if kv.1 = k then (kv.1, d) else kv) else kvs ++ [(k, d)]
def mergeD (kvs more : List (Key × Da)) : List (Key × Da) := more.foldl (fun acc kv => putDK acc kv.1 kv.2) kvs
def kD : Key → Da
  | .inl i => .int i
  | .inr x => .str x
def asK : Da → Option Key
  | .int i => some (.inl i)
  | .str x => some (.inr x)
  | _ => none
theorem asK_of {d : Da} {k : Key} (h : asK d = some k) : d = kD k := by
  cases d <;> first | (cases h; rfl) | cases h
section
variable {K : PySem.W.Frag} {F W W' : Addr → Prop} {H H' : Hp} {M : Mm} {p : Addr}
theorem rd_kD {v : V} {k : Key} (r : RD K W H v (kD k)) : v = kV k := by
  cases k <;> (cases r; rfl)
theorem RK.length : ∀ {vs : List (Key × V)} {ds : List (Key × Da)}, RK K W H vs ds → vs.length = ds.length
  | _, _, .nil => rfl
  | _, _, .cons _ k => by rw [List.length_cons, List.length_cons, k.length]
theorem RK.keys : ∀ {vs : List (Key × V)} {ds : List (Key × Da)}, RK K W H vs ds → vs.map (·.1) = ds.map (·.1)
  | _, _, .nil => rfl
  | _, _, .cons _ k => by rw [List.map_cons, List.map_cons, k.keys]
theorem RK.any (f : Key → Bool) : ∀ {vs : List (Key × V)} {ds : List (Key × Da)}, RK K W H vs ds → (vs.any fun kv => f kv.1) = ds.any fun kv => f kv.1
  | _, _, .nil => rfl
  | _, _, .cons _ k => by rw [List.any_cons, List.any_cons, k.any f]
theorem RK.val {k : Key} : ∀ {vs : List (Key × V)} {ds : List (Key × Da)}, RK K W H vs ds → (valV vs k = none ∧ valD ds k = none) ∨ ∃ v d, valV vs k = some v ∧ valD ds k = some d ∧ RD K W H v d
  | _, _, .nil => .inl ⟨rfl, rfl⟩
  | _, _, .cons (f := f) h t => by
    by_cases e : f = k
    · exact .inr ⟨_, _, valV_pos e, by simp [valD, List.find?_cons, e], h⟩
    · rw [valV_neg e]
      have : ∀ (d : Da) (ds : List (Key × Da)), valD ((f, d) :: ds) k = valD ds k := fun d ds => by simp [valD, List.find?_cons, e]
      rw [this]
      exact t.val
theorem RK.append : ∀ {vs ws : List (Key × V)} {ds es : List (Key × Da)}, RK K W H vs ds → RK K W H ws es → RK K W H (vs ++ ws) (ds ++ es)
  | _, _, _, _, .nil, r => r
  | _, _, _, _, .cons h t, r => .cons h (t.append r)
theorem RK.mapPut {k : Key} {v : V} {d : Da} (h : RD K W H v d) : ∀ {vs : List (Key × V)} {ds : List (Key × Da)}, RK K W H vs ds → RK K W H (vs.map fun kv => if kv.1 = k then (kv.1, v) else kv) (ds.map fun kv => if kv.1 = k then (kv.1, d) else kv)
  | _, _, .nil => .nil
  | _, _, .cons (f := f) h0 t => by
    rw [List.map_cons, List.map_cons]
    by_cases q : f = k
    · simp only [q, if_true]; exact .cons h (RK.mapPut h t)
    · simp only [q, if_false]; exact .cons h0 (RK.mapPut h t)
theorem RK.put {k : Key} {v : V} {d : Da} {vs : List (Key × V)} {ds : List (Key × Da)} (r : RK K W H vs ds) (h : RD K W H v d) : RK K W H (putK vs k v) (putDK ds k d) := by
  unfold putK putDK
  have e : (vs.any fun kv => decide (kv.1 = k)) = ds.any fun kv => decide (kv.1 = k) := r.any (fun x => decide (x = k))
  rw [e]
  split
  · exact RK.mapPut h r
  · exact r.append (.cons h .nil)
theorem RK.merge : ∀ {more : List (Key × V)} {dm : List (Key × Da)}, RK K W H more dm → ∀ {vs : List (Key × V)} {ds : List (Key × Da)}, RK K W H vs ds → RK K W H (mergeK vs more) (mergeD ds dm)
  | _, _, .nil, _, _, r => r
  | _, _, .cons (f := f) (v := v) (vs := vs) (d := d) (ds := ds) h t, vs0, ds0, r => by
    show RK K W H (mergeK (putK vs0 f v) vs) (mergeD (putDK ds0 f d) ds)
    exact t.merge (r.put h)
/-- a dict, settled or not -/
def dctP (x : Da) (M : Mm) (k : List (Key × Da) → Prop) : Prop := match x with
  | .dct kvs => k kvs
  | .ref p => ∃ kvs, M p = some (.dct kvs) ∧ k kvs
  | _ => False
theorem Stt.dict (s : Stt K F W M H) {kvs : List (Key × Da)} (h : M p = some (.dct kvs)) : ∃ vs, H p = some (.dK vs) ∧ RK K W H vs kvs := by
  obtain ⟨u, hu, mr⟩ := s.mem _ _ h
  cases mr with
  | dct rv => exact ⟨_, hu, rv⟩
theorem dct_of {v : V} {d : Da} (s : Stt K F W M H) (r : RD K W H v d) {k : List (Key × Da) → Prop} (h : dctP d M k) : ∃ a vs ds, v = .ref a ∧ H a = some (.dK vs) ∧ RK K W H vs ds ∧ k ds := by
  cases r <;> first | exact h.elim | skip
  · obtain ⟨kvs, e, q⟩ := h
    obtain ⟨vs, e2, rv⟩ := s.dict e
    exact ⟨_, _, _, rfl, e2, rv, q⟩
  · rename_i a vs ds hw he rv
    exact ⟨_, _, _, rfl, he, rv, h⟩
theorem Kt.newD {Qd : DK} {Q : VK} {q : Addr} {vs : List (Key × V)} {ds : List (Key × Da)} (k : Kt (rE K) K F W H Qd Q) (s : Stt K F W M H) (h : H q = none) (r : RK K W H vs ds) (z : Qd (.dct ds) M) : Q (.ref q) (upd H q (.dK vs)) := by
  obtain ⟨s1, g1⟩ := s.new h (.dK vs)
  exact (k.mono g1).now s1 (.dct (.inl rfl) upd_same (r.mono g1)) z
end
section
variable {X : Cx} {o i e value : Expr} {fo fi f fv : DTE} {pos apos cpos p : Pos}
/-- d[k] of a dict -/
def gDix (fo fi : DTE) : DTE := fun δ M Q => fo δ M fun x M1 => fi δ M1 fun y M2 => dctP x M2 fun kvs => ∃ k d, asK y = some k ∧ valD kvs k = some d ∧ Q d M2
theorem d_dix (hu : X.A.units + 64 < cLine) (ho : DE X o fo) (hi : DE X i fi) (hs : NoSl i := by exact fun _ _ => rfl) : DE X (.Subscript o i pos) (gDix fo fi) := imp (pe_dget (Nat.lt_of_le_of_lt (Nat.add_le_add_left (by decide) _) hu) ho hi hs) fun σ H Q ⟨δ, F, W, M, Qd, ev, s, h, k⟩ =>
  ⟨δ, F, W, M, _, ev, s, h, fun v1 H1 W1 d1 M1 g1 s1 r1 q1 => ⟨δ, F, W1, M1, _, ev.mono g1, s1, q1, fun v2 H2 W2 d2 M2 g2 s2 r2 q2 => by
    obtain ⟨a, vs, ds, rfl, ha, rv, kk, d, hk, hd, q⟩ := dct_of s2 (r1.mono g2) q2
    rw [asK_of hk] at r2
    obtain rfl := rd_kD r2
    rcases rv.val (k := kk) with ⟨_, e⟩ | ⟨v, d', e1, e2, r⟩
    · rw [hd] at e; cases e
    · rw [hd] at e2; cases e2
      refine ⟨a, v, rfl, ?_, (k.mono (g1.trans g2)).now s2 r q⟩
      rw [← e1]; exact DGet.k ha⟩⟩
/-- d.get(k) of a dict -/
def gDget (fo fi : DTE) : DTE := fun δ M Q => fo δ M fun x M1 => (dctP x M1 fun _ => True) ∧ fi δ M1 fun y M2 => dctP x M2 fun kvs => ∃ k, asK y = some k ∧ Q ((valD kvs k).getD .non) M2
theorem d_get (hu : X.A.units + 64 < cLine) (ho : DE X o fo) (he : DE X e fi) (h1 : attributeBase o "get" X.env (eval o X.env) = eval o X.env := by rfl)
    (h2 : ((backTo cpos (starEach [e] X.env)).all (fun x => !x.1) && (backToKw cpos (keywordEach [] X.env)).all (fun x => x.1.isSome)
    && decide (([e] : List Expr).length + ([] : List Keyword).length + (if ([] : List Keyword).isEmpty then 0 else 1) < 30)) = true := by rfl)
    (h3 : (apos.endLine == cpos.line) = true := by rfl) (h4 : backTo cpos (starEach [e] X.env) = [(false, eval e X.env)] := by rfl) : DE X (.Call (.Attribute o "get" apos) [e] [] cpos) (gDget fo fi) := imp (pe_dget1 (Nat.lt_of_le_of_lt (Nat.add_le_add_left (by decide) _) hu) ho he ⟨h1, h2, h3, h4⟩) fun σ H Q ⟨δ, F, W, M, Qd, ev, s, h, k⟩ =>
  ⟨δ, F, W, M, _, ev, s, h, fun v1 H1 W1 d1 M1 g1 s1 r1 ⟨q0, q1⟩ => by
    obtain ⟨a, vs, ds, rfl, ha, rv, _⟩ := dct_of s1 r1 q0
    refine ⟨a, rfl, .inl ⟨_, .inl ha⟩, δ, F, W1, M1, _, ev.mono g1, s1, q1, fun v2 H2 W2 d2 M2 g2 s2 r2 q2 => ?_⟩
    obtain ⟨b, vs, ds, e1, ha, rv, kk, hk, q⟩ := dct_of s2 (r1.mono g2) q2
    cases e1
    rw [asK_of hk] at r2
    obtain rfl := rd_kD r2
    refine ⟨_, DGet.k ha, ?_⟩
    rcases rv.val (k := kk) with ⟨e1, e2⟩ | ⟨v, d', e1, e2, r⟩
    · rw [e1]; rw [e2] at q
      exact (k.mono (g1.trans g2)).now s2 .non q
    · rw [e1]; rw [e2] at q
      exact (k.mono (g1.trans g2)).now s2 r q⟩
/-- {"k": v} with one pair, a dict that changes -/
def gDisp1 (x : Str) (f : DTE) : DTE := fun δ M Q => f δ M fun y M2 => ∀ p, M2 p = none → Q (.ref p) (mput M2 p (.dct [(.inr x, y)]))
/-- dict(ps) of a tuple of pairs -/
def kDict : DC := fun xs M Q => match xs with
  | [.tup ps] => ∃ prs : List (Key × Da), ps = prs.map (fun q => .tup [kD q.1, q.2]) ∧ Q (.dct (mergeD [] prs)) M
  | _ => False
/-- a tuple without a dict of its own -/
def PlT (K : PySem.W.Frag) (H : Hp) (a : Addr) (vs : List V) : Prop := (∃ o, H a = some (.frz o (.tup vs)) ∧ o.dict = none) ∨ (SqT K (fun _ => none) a vs ∧ ∃ o, K.lookup a = some o ∧ o.dict = none)
theorem Stt.plT {K : PySem.W.Frag} {F W : Addr → Prop} {H : Hp} {M : Mm} {a : Addr} {vs : List V} (s : Stt K F W M H) : Sp' K W H a vs → PlT K H a vs
  | .inl ⟨w, .inl h⟩ => (s.pl a _ w h).elim
  | .inl ⟨w, .inr ⟨o, h⟩⟩ => .inl ⟨o, h, s.pl a _ w h⟩
  | .inr h => .inr h
theorem PlT.run {pins : List (Addr × Obj)} {σ : L2.St} {H : Hp} {s : Shared} {a : Addr} {vs : List V} (I : Inv X pins σ H s) (h : PlT X.K H a vs) : ∃ (o : Obj) (its : List Value) (n : Nat), s.heap.get? a = some o ∧ o.cls = .type "tuple" ∧ o.dict = none ∧ o.data = .seq its.toArray n ∧ Vals vs its ∧ vs.length ≤ sizeLine := by
  rcases h with ⟨o, h, hd⟩ | ⟨h, o, hk, hd⟩
  · have q : ObjOk X.prog X.w H s.heap a (.frz o (.tup vs)) := I.hok a _ h
    obtain ⟨q1, q2⟩ := q
    obtain ⟨z, its, r, o2, e, hc, n, hdt⟩ := q2
    rw [q1] at e
    cases e
    exact ⟨o, its, n, q1, hc, hd, hdt, r, z⟩
  · rcases h with h | ⟨o2, its, n, hk2, hc, hs, hz, r⟩
    · rcases h with h | ⟨_, h⟩ <;> cases h
    · rw [hk] at hk2
      cases hk2
      exact ⟨o, its.toList, n, I.kIn a o hk, hc, hd, by simpa using hs, r, by rw [r.length]; simpa using hz⟩
theorem call_dictPT (hcalm : X.calm = true) : CallR X (.type "dict") (fun xs H Q => ∃ (a : Addr) (ps : List Addr) (kvs : List (Key × V)), xs = [.ref a] ∧ PlT X.K H a (ps.map V.ref) ∧ Paired (fun p kv => SqT X.K H p [kV kv.1, kv.2]) ps kvs ∧
    ∀ p, H p = none → Q (.ref p) (upd H p (.dK (mergeK [] kvs)))) := by
  intro pins s σ H xs us Q I r q
  obtain ⟨a, ps, kvs, ex, hq, hp, q⟩ := q
  subst ex
  obtain ⟨u, eu, rx⟩ := vals1 r
  subst eu
  cases rx
  obtain ⟨o, its, n, ho, hc, hd, hdat, rv, hz⟩ := hq.run I
  have ei := refs_at rv
  subst ei
  rw [List.length_map] at hz
  obtain ⟨prs, rel, hl, hpr⟩ := pairs_of I hp
  refine call_dict_pairsT (prs := prs) (I.ok.hd hcalm) ho hc hd hdat (by simp [hl]) (by rw [hl]; exact hz) (fun j q' e => ?_) fun h' tk hd' k => ?_
  · obtain ⟨b, u, e1, e2, e3⟩ := hpr j q' e
    exact ⟨b, u, by simp [e1], e2, e3⟩
  · have hm : (s.heap.objs.size == sysModules) = false := beq_eq_false_iff_ne.mpr (Nat.ne_of_gt I.big)
    have hlen : (mergeK [] kvs).length ≤ sizeLine := by
      refine Nat.le_trans (length_mergeK kvs []) ?_
      rw [List.length_nil, Nat.zero_add, rel.length, hl]
      exact hz
    exact ⟨.ref s.heap.objs.size, upd H s.heap.objs.size (.dK (mergeK [] kvs)), I.laid (t' := tk) k (Nat.le_refl _) (show ObjOk X.prog X.w _ _ _ (.dK (mergeK [] kvs)) from ⟨hlen, hm, merged [] prs, KV.merge rel .nil, hd'⟩), rfl, q _ (I.hok.fresh (Nat.le_refl _))⟩
theorem rd_pair {K : PySem.W.Frag} {W : Addr → Prop} {H : Hp} {v : V} {k : Key} {d : Da} (r : RD K W H v (.tup [kD k, d])) : ∃ b u, v = .ref b ∧ SqT K H b [kV k, u] ∧ RD K W H u d := by
  cases r with
  | tup hs rv =>
    cases rv with
    | cons r1 rr =>
      cases rr with
      | cons r2 rr =>
        cases rr
        obtain rfl := rd_kD r1
        exact ⟨_, _, rfl, hs.sq, r2⟩
theorem rds_pairs {K : PySem.W.Frag} {W : Addr → Prop} {H : Hp} : ∀ {vs : List V} {prs : List (Key × Da)}, RDs K W H vs (prs.map fun q => .tup [kD q.1, q.2]) → ∃ (ps : List Addr) (kvs : List (Key × V)), vs = ps.map V.ref ∧ Paired (fun p kv => SqT K H p [kV kv.1, kv.2]) ps kvs ∧ RK K W H kvs prs
  | _, [], .nil => ⟨[], [], rfl, .nil, .nil⟩
  | _, (k, d) :: prs, .cons h t => by
    obtain ⟨b, u, rfl, hb, hu⟩ := rd_pair h
    obtain ⟨ps, kvs, rfl, hp, hk⟩ := rds_pairs t
    exact ⟨b :: ps, (k, u) :: kvs, rfl, .cons hb hp, .cons hu hk⟩
theorem c_ddict (hc : X.calm = true) : CD X (.type "dict") kDict := cd_imp fun vs H Q ⟨F, W, M, ds, Qd, r, s, h, k⟩ => by
  refine ⟨_, call_dictPT hc, ?_⟩
  unfold kDict at h
  split at h
  · obtain ⟨v, rfl, r1⟩ := r.one
    obtain ⟨prs, rfl, q⟩ := h
    cases r1 with
    | tup hs rv =>
      obtain ⟨ps, kvs, rfl, hp, hk⟩ := rds_pairs rv
      exact ⟨_, ps, kvs, rfl, s.plT hs, hp, fun p hpf => k.newD s hpf (hk.merge .nil) q⟩
  · exact h.elim
theorem d_disp1 {x : Str} {j : Nat} {ppos : Pos} (hf : DE X value fv) : DE X (.Dict [some (.Constant (.str x) j ppos)] [value] pos) (gDisp1 x fv) := imp (pe_disp (pps_cons pe_str hf pps_nil) rfl rfl (by simp) (by simp)) fun σ H Q ⟨δ, F, W, M, Qd, ev, s, h, k⟩ => fun p hp => by
  refine ⟨δ, fadd F p, W, M, _, ev.mono (grow_new s hp), s.addF hp (.dK []), h, fun v H2 W2 d M2 g2 s2 r2 q2 => ⟨by rw [g2.f p (.inl rfl)]; exact upd_same, [(.inr x, v)], rfl, by simp, ?_⟩⟩
  obtain ⟨s3, g3⟩ := s2.chgF (.dK [(.inr x, v)])
  have s4 := s3.endM (s.freeF hp) upd_same (.dct (.cons (f := .inr x) (r2.mono g3) .nil))
  have g8 := (grow_new (o := .dK []) s hp).trans (g2.less fun a h => .inr h)
  have g9 : Grow F W H W2 (upd H2 p (.dK [(.inr x, v)])) := ⟨g8.w, fun a w => by rw [upd_ne (s.neW hp w)]; exact g8.h a w, fun a w => by rw [upd_ne (s.neF hp w)]; exact g8.f a w⟩
  exact (k.mono g9).now s4 (.ref p) (q2 p (s2.fr p (.inl rfl)).2.1)
end
end U
set_option Elab.async false
set_option linter.all false
set_option maxRecDepth 100000
set_option maxHeartbeats 2000000
namespace U
open PySem PySem.Spec PyProof.Rows L2 UX0 UZ0
section
variable {X : Cx} {a e : Expr} {fa f : DTE} {pos p : Pos}
/-- two sorted rows without doubles that hold the same are equal -/
theorem nodup_perm {α : Type} [DecidableEq α] {xs ys : List α} (h1 : xs.Nodup) (h2 : ys.Nodup) (h : ∀ z, z ∈ xs ↔ z ∈ ys) : xs.Perm ys := by
  rw [List.perm_iff_count]
  intro z
  rw [h1.count, h2.count]
  simp only [h z]
structure KStrs (K : PySem.W.Frag) (x : Str) (zs : List Str) : Prop where
  ex : ∃ a its n sl, PySem.W.nsIn K mainGlobals x = some (some (.ref a)) ∧ K.lookup a = some ⟨.type "tuple", none, .seq its n, sl⟩ ∧ its.size ≤ sizeLine ∧ Vals (zs.map V.str) its.toList
theorem kstrs_mk {K : PySem.W.Frag} {x : Str} {zs : List Str} {a : Addr} {its : Array Value} {n : Nat} {sl : Array (Option Value)} (h1 : PySem.W.nsIn K mainGlobals x = some (some (.ref a))) (h2 : K.lookup a = some ⟨.type "tuple", none, .seq its n, sl⟩)
    (h3 : its.size ≤ sizeLine) (h4 : Vals (zs.map V.str) its.toList) : KStrs K x zs := ⟨a, its, n, sl, h1, h2, h3, h4⟩
theorem d_gt {x : Str} {zs : List Str} (M : MgOf X.K X.mg) (h : KStrs X.K x zs) (hg : Gl X x := by rfl) (hd : (x == ("__debug__" : Str)) = false := by decide) : DE X (.Name x pos) (gC (.tup (zs.map Da.str))) := by
  obtain ⟨a, its, n, sl, h1, h2, h3, h4⟩ := h.ex
  exact d_const (v := .ref a) (pe_glob hg (M.of _ _ h1) rfl hd) fun W H => .tup (.inr ⟨.inr ⟨_, its, n, h2, rfl, rfl, h3, h4⟩, _, h2, rfl⟩) (rds_strs zs)
theorem Slts.nil : Slts X [] [] := ⟨rfl, fun k n i e => by simp at e⟩
theorem Slts.cons {n : Str} {i : Nat} {ns : List Str} {is : List Nat} (hi : X.N[i]? = some n) (r : Slts X ns is) (hx : Loc X.env.scope n := by first | exact Or.inl rfl | exact Or.inr rfl)
    (hf : X.fn n = true ∨ X.env.scope.names.lookup n = some .local := by first | exact .inl rfl | exact .inr rfl) : Slts X (n :: ns) (i :: is) := by
  refine ⟨by rw [List.length_cons, List.length_cons, r.len], fun k m j e1 e2 => ?_⟩
  cases k with
  | zero => cases e1; cases e2; exact ⟨hi, hx, hf⟩
  | succ k => exact r.at_ k m j (by simpa using e1) (by simpa using e2)
end
end U
set_option Elab.async false
set_option linter.all false
set_option maxRecDepth 100000
set_option maxHeartbeats 2000000
namespace U
open PySem PySem.Spec PyProof.Rows L2
section
variable {X : Cx}
def hInC : D2 := fun x y M Q => ∃ (c : Nat) (z : Str), x = .str ⟨#[c]⟩ ∧ y = .str z ∧ Q (.bl (decide (c ∈ z.cps.toList))) M
theorem o_dinC : DO X (compareOp .In) hInC := do_imp fun x y H Q ⟨F, W, M, d, e, Qd, r1, r2, s, h, k⟩ => by
  obtain ⟨c, z, rfl, rfl, q⟩ := h
  cases r1; cases r2
  exact ⟨_, op_inS, c, z, rfl, rfl, k.now s (.bl _) q⟩
/-- t != () -/
def rNeE (K : PySem.W.Frag) : R2 := fun x y H Q => ∃ a b xs, x = .ref a ∧ y = .ref b ∧ SqT K H a xs ∧ SqT K H b [] ∧ Q (.bl (!xs.isEmpty)) H
theorem op_neE (hu : X.A.units < cLine) : OpR X (compareOp .NotEq) (rNeE X.K) := by
  intro pins s σ H x y v u Q I rx ry h
  obtain ⟨a, b, xs, rfl, rfl, ha, hb, q⟩ := h
  cases rx
  cases ry
  obtain ⟨its, r, p, _⟩ := I.tuple ha
  obtain ⟨its2, r2, p2, _⟩ := I.tuple hb
  cases r2
  show wpAny _ _ (richCompare .NotEq (Value.ref a) (Value.ref b)) _ _ _
  refine SeqAt.RcNeAt.tuples (e := fun _ => true) p p2 hu (fun j h1 h2 => by simp at h2) _ _ _ _ ?_
  have e : (!(((List.range (min its.toArray.size (#[] : Array Value).size)).all fun x => true) && its.toArray.size == (#[] : Array Value).size)) = !xs.isEmpty := by
    cases r <;> simp
  rw [e]
  exact ⟨.bl _, H, I, rfl, q⟩
def hNeE : D2 := fun x y M Q => match x, y with
  | .tup xs, .tup [] => Q (.bl (!xs.isEmpty)) M
  | _, _ => False
theorem o_dneE (hu : X.A.units + 64 < cLine) : DO X (compareOp .NotEq) hNeE := do_imp fun x y H Q ⟨F, W, M, d, e, Qd, r1, r2, s, h, k⟩ => by
  unfold hNeE at h
  split at h
  · cases r1 with
    | tup hs rv =>
      cases r2 with
      | tup ht rw_ =>
        cases rw_
        refine ⟨_, op_neE (by omega), _, _, _, rfl, rfl, hs.sq, ht.sq, k.now s (.bl _) ?_⟩
        cases rv <;> exact h
  · exact h.elim
end
/-- values of the plain kinds, all the way down -/
inductive pv : Da → Prop
  | non : pv .non
  | bl (b : Bool) : pv (.bl b)
  | int (i : Int) : pv (.int i)
  | str (z : Str) : z.length ≤ 1000 → pv (.str z)
  | lst (xs : List Da) : xs.length ≤ 5000 → (∀ x ∈ xs, pv x) → pv (.lst xs)
  | tup (xs : List Da) : xs.length ≤ 5000 → (∀ x ∈ xs, pv x) → pv (.tup xs)
  | dct (kvs : List (Key × Da)) : pv (.dct kvs)
theorem letters (c : Nat) : decide (c ∈ ("abcdefghijklmnopqrstuvwxyz" : Str).cps.toList) = (decide (97 ≤ c) && decide (c ≤ 122)) := by
  by_cases h : c < 128
  · exact (show ∀ c : Fin 128, decide (c.val ∈ ("abcdefghijklmnopqrstuvwxyz" : Str).cps.toList) = (decide (97 ≤ c.val) && decide (c.val ≤ 122)) by decide +kernel) ⟨c, h⟩
  · rw [decide_eq_false (show ¬ c ≤ 122 by omega), Bool.and_false]
    refine decide_eq_false fun m => h ?_
    exact (show ∀ c ∈ ("abcdefghijklmnopqrstuvwxyz" : Str).cps.toList, c < 128 by decide +kernel) c m
/-- whether a value is a name -/
def nameZ (z : Str) : Bool := decide (0 < z.length) && decide (z.length ≤ 8) && z.cps.toList.all fun c => decide (97 ≤ c) && decide (c ≤ 122)
def nameD : Da → Bool
  | .str z => nameZ z
  | _ => false
end U
namespace U
open PySem PySem.Spec PyProof.Rows L2
/-- a def whose promise nobody can ask for -/
theorem KnD.never {P : Program} {w : World} {K : PySem.W.Frag} {mg : Str → Option Value} {base : Heap} {x : Str} {st : Stmt} {N ps : List Str} {k : Nat} {sp : DSp} (F : HasDef K x st) (M : MgOf K mg) (S : FnScope N ps (defScope st))
    (hb : ∀ (kV doc pm : Value) (an : Option Addr) (cdv ct : Value) (us : List Value), us.length = ps.length → bindArgs (PySem.W.fnOf x x (defArgs st) (defBody st) (defScope st) .none kV doc pm an cdv ct) ⟨us, []⟩ = pure (ps.zip us))
    (no : ∀ ds M Q E, ¬ sp ds M Q E) : KnD P w K mg base x (k + 1) ps sp :=
  Known.of F M S hb (lsp_len fun ds M Q E h => (no _ _ _ _ h).elim) fun f cdv A outer s H vs Q E hr ⟨F, W, M, ds, Qd, Ed, r, st, h, kk, kx⟩ => (no _ _ _ _ h).elim
theorem inD_strs (ws : List Str) (z : Str) : inD (.str z) (ws.map Da.str) = ws.contains z := by
  unfold inD
  rw [List.any_map, List.contains_eq_any_beq]
  congr 1
  funext w
  show eqD (.str w) (.str z) = (z == w)
  rw [eqD_dec (p := z = w) rfl rfl ⟨fun h => by cases h; rfl, fun h => by rw [h]⟩]
  by_cases h : z = w
  · subst h; simp
  · rw [decide_eq_false h, beq_eq_false_iff_ne.mpr h]
theorem flat_strs (ws : List Str) (z : Str) : flat2 (.str z) (ws.map Da.str) = true := by
  unfold flat2
  rw [List.all_map, Bool.and_eq_true, List.all_eq_true]
  exact ⟨rfl, fun _ _ => rfl⟩
end U
namespace U
/-- a while by a measure -/
theorem wh_ind {c : DTT} {tb : DTS} {D : DEnds} (I : Nat → De → Mm → Prop)
    (hs : ∀ (n : Nat) δ M (NX : De → Mm → Prop), I n δ M → (∀ δ' M' m, m < n → I m δ' M' → NX δ' M') → c δ M fun b M1 => if b = true then tb { D with nx := NX, ct := NX, bk := D.nx } δ M1 else D.nx δ M1) {n : Nat} {δ : De} {M : Mm} (h : I n δ M) : hWhile c tb D δ M := by
  have go : ∀ (N n : Nat) (δ : De) (M : Mm), n < N → I n δ M → whD c tb D N δ M := by
    intro N
    induction N with
    | zero => intro n δ M h _; omega
    | succ N ih => intro n δ M h hI; exact hs n δ M (whD c tb D N) hI fun δ' M' m hm hI' => ih m δ' M' (by omega) hI'
  exact ⟨n + 1, go _ n δ M (Nat.lt_succ_self n) h⟩
end U
namespace U
open PySem PySem.Spec PyProof.Rows L2
theorem lcS_map {α : Type} {c : CT} {tt : DTT} {te : DTE} {δ : De} {M : Mm} {g : α → Da} (p : α → Bool) (f : α → Str) : ∀ {l : List α} {k : List Str → Mm → Prop}, (∀ x ∈ l, c.ok (g x) ∧ ∀ Q : Bool → Mm → Prop, Q (p x) M → tt (c.set (g x) δ) M Q) →
    (∀ x ∈ l, p x = true → ∀ Q : DK, Q (.str (f x)) M → te (c.set (g x) δ) M Q) → k ((l.filter p).map f) M → lcS c tt te δ (l.map g) k M
  | [], k, _, _, h => h
  | x :: l, k, h1, h2, h => by
    obtain ⟨o, t⟩ := h1 x List.mem_cons_self
    refine ⟨o, t _ ?_⟩
    cases e : p x with
    | false =>
      rw [List.filter_cons, e, if_neg Bool.false_ne_true] at h
      exact lcS_map p f (fun y hy => h1 y (List.mem_cons_of_mem _ hy)) (fun y hy => h2 y (List.mem_cons_of_mem _ hy)) h
    | true =>
      rw [List.filter_cons, e, if_pos rfl] at h
      exact h2 x List.mem_cons_self e _ (lcS_map p f (fun y hy => h1 y (List.mem_cons_of_mem _ hy)) (fun y hy => h2 y (List.mem_cons_of_mem _ hy)) h)
theorem lcS_all {α : Type} {c : CT} {te : DTE} {δ : De} {M : Mm} {g : α → Da} (f : α → Str) {l : List α} {k : List Str → Mm → Prop} (h1 : ∀ x ∈ l, c.ok (g x)) (h2 : ∀ x ∈ l, ∀ Q : DK, Q (.str (f x)) M → te (c.set (g x) δ) M Q)
    (h : k (l.map f) M) : lcS c gYes te δ (l.map g) k M :=
  lcS_map (fun _ => true) f (fun x hx => ⟨h1 x hx, fun Q q => q⟩) (fun x hx _ => h2 x hx) (by rw [List.filter_eq_self.mpr (fun _ _ => rfl)]; exact h)
theorem not_nodup {α : Type} [DecidableEq α] : ∀ {l : List α}, ¬ l.Nodup → ∃ l' : List α, l'.length + 1 = l.length ∧ ∀ z ∈ l, z ∈ l'
  | [], h => (h List.nodup_nil).elim
  | x :: r, h => by
    by_cases hx : x ∈ r
    · exact ⟨r, rfl, fun z hz => (List.mem_cons.mp hz).elim (fun e => e ▸ hx) id⟩
    · obtain ⟨l', h1, h2⟩ := not_nodup (l := r) fun hr => h (List.nodup_cons.mpr ⟨hx, hr⟩)
      exact ⟨x :: l', by rw [List.length_cons, h1, List.length_cons], fun z hz => (List.mem_cons.mp hz).elim (fun e => e ▸ List.mem_cons_self) fun hz => List.mem_cons_of_mem _ (h2 z hz)⟩
/-- a row without doubles that holds what l holds is as long as l just if l has no doubles -/
theorem len_nodup {α : Type} [DecidableEq α] {L l : List α} (hL : L.Nodup) (h : ∀ z, z ∈ L ↔ z ∈ l) : L.length = l.length ↔ l.Nodup := by
  constructor
  · intro e
    apply Classical.byContradiction
    intro hn
    obtain ⟨l', h1, h2⟩ := not_nodup hn
    have := hL.length_le_of_subset fun z hz => h2 z ((h z).mp hz)
    omega
  · intro hl
    exact (nodup_perm hL hl h).length_eq
def kvsD (own : List (Str × Str)) : List (Key × Da) := own.map fun p => (Sum.inr p.1, Da.str p.2)
theorem putDK_new {kvs : List (Key × Da)} {k : Key} {d : Da} (h : k ∉ kvs.map (·.1)) : putDK kvs k d = kvs ++ [(k, d)] := by
  unfold putDK
  rw [if_neg]
  intro e
  obtain ⟨p, hp, he⟩ := List.any_eq_true.mp e
  exact h (by rw [← of_decide_eq_true he]; exact List.mem_map_of_mem hp)
theorem mergeD_new : ∀ {more acc : List (Key × Da)}, (acc.map (·.1) ++ more.map (·.1)).Nodup → mergeD acc more = acc ++ more
  | [], acc, _ => by show acc = _; rw [List.append_nil]
  | p :: r, acc, h => by
    show mergeD (putDK acc p.1 p.2) r = _
    have hn : p.1 ∉ acc.map (·.1) := fun hm => by
      have := (List.nodup_append.mp h).2.2 _ hm _ List.mem_cons_self
      exact this rfl
    rw [putDK_new hn, mergeD_new (acc := acc ++ [(p.1, p.2)]) (by
      rw [List.map_append, List.append_assoc]
      exact h)]
    rw [List.append_assoc]; rfl
theorem inr_nodup {own : List (Str × Str)} (h : (own.map (·.1)).Nodup) : ((kvsD own).map (·.1)).Nodup := by
  unfold kvsD
  rw [List.map_map]
  have : (own.map ((fun x : Key × Da => x.1) ∘ fun p : Str × Str => (Sum.inr p.1, Da.str p.2))) = (own.map (·.1)).map Sum.inr := by rw [List.map_map]; rfl
  rw [this]
  exact List.pairwise_map.mpr (h.imp fun hab e => hab (Sum.inr.inj e))
end U
namespace U
open PySem PySem.Spec PyProof.Rows L2
section
variable {X : Cx} {C : Addr} {k : Nat} {ps : List Str}
end
end U
namespace U
open PySem PySem.Spec PyProof.Rows L2
theorem c_disiK {X : Cx} {K : PySem.W.Frag} (h : X.K = K) : CD X (.builtin "isinstance") (kIsi K) := h ▸ c_disi
end U
set_option Elab.async false
set_option linter.all false
set_option maxRecDepth 100000
set_option maxHeartbeats 2000000
namespace U
open PySem PySem.Spec PyProof.Rows L2
abbrev KnXD (P : Program) (w : World) (K : PySem.W.Frag) (mg : Str → Option Value) (base : Heap) (x : Str) (k : Nat) (ps : List Str) (sp : DSp) : Prop := Known P w K mg base (L2.CX P w) x k ps (LSp K sp)
abbrev KnMXD (P : Program) (w : World) (K : PySem.W.Frag) (mg : Str → Option Value) (base : Heap) (C : Addr) (m : Str) (k : Nat) (ps : List Str) (sp : DSp) : Prop := KnownM P w K mg base (L2.CX P w) C m k ps (LSp K sp)
def bodyX (Q : DK) (Ed : DX) : DEnds := { nx := fun _ M => Q .non M, rt := Q, ex := Ed }
theorem ls_bodyX {K : PySem.W.Frag} {F W : Addr → Prop} {M : Mm} {H : Hp} {N : List Str} {vs : List V} {ds : List Da} {Qd : DK} {Q : VK} {Ed : DX} {E : XK} {t : DTS} (r : RDs K W H vs ds) (s : Stt K F W M H) (k : Kt (rE K) K F W H Qd Q) (kx : KX K F W H Ed E) (h : t (bodyX Qd Ed) (startD N ds) M) :
    LS K E t { nx := fun _ H' => Q .non H', rt := Q } (start N vs) H :=
  ⟨_, F, W, M, _, env_start N r, s, h, fun σ H' W' δ M' g s' e q => k _ _ _ _ _ g s' .non q, k, fun _ _ _ _ _ _ _ _ z => z.elim, fun _ _ _ _ _ _ _ _ z => z.elim, kx⟩
theorem kx_def {P : Program} {w : World} {K : PySem.W.Frag} {mg : Str → Option Value} {base : Heap} {N : List Str} {x : Str} {sc : Scope} {f : Addr} {cdv : Value} {A : Around} {outer : List Env} {s : Shared} {H0 : Hp} {E : XK} {F W : Addr → Prop} {H : Hp} {Ed : DX} (kx : KX K F W H Ed E) :
    KX K F W H Ed (EXm (cxOf (L2.CX P w) P w K mg base N x sc f cdv A outer s H0 E)) :=
  fun cls d H' W' fs M' g s' r q => EXm.of (takes_of rfl rfl rfl rfl) fun _ _ => kx cls d H' W' fs M' g s' r q
theorem KnXD.of {P : Program} {w : World} {K : PySem.W.Frag} {mg : Str → Option Value} {base : Heap} {x : Str} {st : Stmt} {N ps : List Str} {k : Nat} {sp : DSp} (F : HasDef K x st) (M : MgOf K mg) (S : FnScope N ps (defScope st))
    (hb : ∀ (kV doc pm : Value) (an : Option Addr) (cdv ct : Value) (us : List Value), us.length = ps.length → bindArgs (PySem.W.fnOf x x (defArgs st) (defBody st) (defScope st) .none kV doc pm an cdv ct) ⟨us, []⟩ = pure (ps.zip us))
    (len : ∀ ds M Q E, sp ds M Q E → ds.length = ps.length)
    (hbody : ∀ (f : Addr) (cdv : Value) (A : Around) (outer : List Env) (s : Shared) (H : Hp) (E : XK), Room k (A.deeper (envOfC x (defScope st) s.heap.objs.size f cdv)) →
      ∃ t, DB (cxOf (L2.CX P w) P w K mg base N x (defScope st) f cdv A outer s H E) (defBody st) t ∧ ∀ ds M Q Ed, sp ds M Q Ed → t (bodyX Q Ed) (startD N ds) M) : KnXD P w K mg base x (k + 1) ps sp := by
  obtain ⟨f, fd, G, e⟩ := F.ex
  refine ⟨f, fd, G.okX S (lsp_len len) (fun cdv A outer s H vs Q E hr ⟨F, W, M, ds, Qd, Ed, r, st, h, kk, kx⟩ => ?_), M.of _ _ e, G.kp, G.binds hb⟩
  obtain ⟨t, d, q⟩ := hbody f cdv A outer s H E hr
  exact ⟨_, d, ls_bodyX r st kk (kx_def kx) (q ds M Qd Ed h)⟩
theorem KnMXD.of {P : Program} {w : World} {K : PySem.W.Frag} {mg : Str → Option Value} {base : Heap} {C : Addr} {m qual : Str} {st : Stmt} {N ps : List Str} {k : Nat} {sp : DSp} (F : HasMeth K C m qual st) (S : FnScope N ps (defScope st))
    (hb : ∀ (kV doc pm : Value) (an : Option Addr) (cdv ct : Value) (us : List Value), us.length = ps.length → bindArgs (PySem.W.fnOf m qual (defArgs st) (defBody st) (defScope st) .none kV doc pm an cdv ct) ⟨us, []⟩ = pure (ps.zip us))
    (len : ∀ ds M Q E, sp ds M Q E → ds.length = ps.length)
    (hbody : ∀ (f : Addr) (cdv : Value) (A : Around) (outer : List Env) (s : Shared) (H : Hp) (E : XK), Room k (A.deeper (envOfC qual (defScope st) s.heap.objs.size f cdv)) →
      ∃ t, DB (cxOf (L2.CX P w) P w K mg base N qual (defScope st) f cdv A outer s H E) (defBody st) t ∧ ∀ ds M Q Ed, sp ds M Q Ed → t (bodyX Q Ed) (startD N ds) M) : KnMXD P w K mg base C m (k + 1) ps sp := by
  obtain ⟨f, fd, G, e⟩ := F.ex
  refine ⟨f, fd, G.okX S (lsp_len len) (fun cdv A outer s H vs Q E hr ⟨F, W, M, ds, Qd, Ed, r, st, h, kk, kx⟩ => ?_), e, G.binds hb⟩
  obtain ⟨t, d, q⟩ := hbody f cdv A outer s H E hr
  exact ⟨_, d, ls_bodyX r st kk (kx_def kx) (q ds M Qd Ed h)⟩
def spN (sp : DSp) : DSp := fun ds M Q _ => sp ds M Q X0
theorem FnOk.nox {P : Program} {w : World} {K : PySem.W.Frag} {mg : Str → Option Value} {base : Heap} {k : Nat} {f : Addr} {fd : FuncData} {ps : List Str} {sp : DSp} (F : FnOk P w K mg base (L2.CX P w) k f fd ps (LSp K sp)) : FnOk P w K mg base CX0 k f fd ps (LSp K (spN sp)) := by
  have x0 : ∀ {vs H Q E}, LSp K (spN sp) vs H Q E → LSp K sp vs H Q (fun _ _ _ => False) := fun ⟨F, W, M, ds, Qd, Ed, r, s, h, k, _⟩ => ⟨F, W, M, ds, Qd, X0, r, s, h, k, fun _ _ _ _ _ _ _ _ _ z => z.elim⟩
  refine ⟨fun vs H Q E h => F.len vs H Q _ (x0 h), fun A outer s H args us vs Q E hr e0 hb hv hs => ?_⟩
  refine codeAny_mono (F.run A outer s H args us vs Q _ hr e0 hb hv (x0 hs)) fun r s' hq => ?_
  cases r with
  | error e =>
    obtain ⟨_, _, _, _, _, _, _, _, _, _, _, _, z⟩ := (show L2.CX P w outer H s (fun _ _ _ => False) e s' from hq)
    exact z.elim
  | ok fl => cases fl <;> exact hq
theorem KnXD.d {P : Program} {w : World} {K : PySem.W.Frag} {mg : Str → Option Value} {base : Heap} {x : Str} {k : Nat} {ps : List Str} {sp : DSp} (D : KnXD P w K mg base x k ps sp) : KnD P w K mg base x k ps (spN sp) := by
  obtain ⟨f, fd, F, r⟩ := D.ex
  exact ⟨f, fd, FnOk.nox F, r⟩
theorem KnMXD.d {P : Program} {w : World} {K : PySem.W.Frag} {mg : Str → Option Value} {base : Heap} {C : Addr} {m : Str} {k : Nat} {ps : List Str} {sp : DSp} (D : KnMXD P w K mg base C m k ps sp) : KnMD P w K mg base C m k ps (spN sp) := by
  obtain ⟨f, fd, F, r⟩ := D.ex
  exact ⟨f, fd, FnOk.nox F, r⟩
abbrev XDE := De → Mm → DK → DX → Prop
abbrev XDA := De → Mm → (List Da → Mm → Prop) → DX → Prop
def LiX {α β : Type} (R : (Addr → Prop) → Hp → α → β → Prop) (K : PySem.W.Frag) (E : XK) (g : De → Mm → (β → Mm → Prop) → DX → Prop) : L2.St → Hp → (α → Hp → Prop) → Prop := fun σ H Q =>
  ∃ δ F W M Qd Ed, EnvR K W H δ σ ∧ Stt K F W M H ∧ g δ M Qd Ed ∧ Kt R K F W H Qd Q ∧ KX K F W H Ed E
def DEX (X : Cx) (e : Expr) (g : XDE) : Prop := PE X e (LiX (rE X.K) X.K (EXm X) g)
def DAX (X : Cx) (es : List Expr) (g : XDA) : Prop := PA X es (LiX (rA X.K) X.K (EXm X) g)
section
variable {X : Cx} {k : Nat} {ps : List Str} {sp : DSp} {x m : Str} {p pos apos : Pos} {a b e o : Expr} {es : List Expr} {fa : XDE} {fs : XDA} {f fo : DTE} {C : Addr}
def xUp (f : DTE) : XDE := fun δ M Q _ => f δ M Q
theorem x_up (h : DE X e f) : DEX X e (xUp f) := imp h fun σ H Q ⟨δ, F, W, M, Qd, Ed, ev, s, h, k, _⟩ => ⟨δ, F, W, M, Qd, ev, s, h, k⟩
def xNil : XDA := fun _ M Q _ => Q [] M
def xCons (fa : XDE) (fs : XDA) : XDA := fun δ M Q Ed => fa δ M (fun x M1 => fs δ M1 (fun xs M2 => Q (x :: xs) M2) Ed) Ed
theorem x_nil : DAX X [] xNil := ⟨fun po pins s σ H Q I ⟨δ, F, W, M, Qd, Ed, ev, st, h, k, _⟩ => d_nil.run po pins s σ H Q I ⟨δ, F, W, M, Qd, ev, st, h, k⟩⟩
theorem x_cons (ha : DEX X e fa) (hr : DAX X es fs) (hs : starEach (e :: es) X.env = (false, eval e X.env) :: starEach es X.env := by rfl) : DAX X (e :: es) (xCons fa fs) :=
  ⟨fun po pins s σ H Q I ⟨δ, F, W, M, Qd, Ed, ev, st, h, k, kx⟩ => (pa_cons ha hr hs).run po pins s σ H Q I ⟨δ, F, W, M, _, Ed, ev, st, h, fun v H1 W1 d M1 g1 s1 r1 q1 => ⟨δ, F, W1, M1, _, Ed, ev.mono g1, s1, q1, fun vs H2 W2 ds M2 g2 s2 r2 q2 =>
    (k.mono (g1.trans g2)).now s2 (.cons (r1.mono g2) r2) q2, kx.mono g1⟩, kx⟩⟩
def xCall (sp : DSp) (fs : XDA) : XDE := fun δ M Q Ed => fs δ M (fun ds M1 => sp ds M1 Q Ed) Ed
theorem x_call (D : KnXD X.prog X.w X.K X.mg X.base x k ps sp) (hr : Room k X.A) (ha : DAX X (e :: es) fs) (hg : Gl X x := by rfl) (hdb : (x == ("__debug__" : Str)) = false := by decide)
    (he : starEach (e :: es) X.env = (false, eval e X.env) :: starEach es X.env := by rfl) (hpl : (backTo pos (starEach es X.env)).any (·.1) = false := by rfl) : DEX X (.Call (.Name x p) (e :: es) [] pos) (xCall sp fs) :=
  imp (U.callX (E := EXm X) D hr (passes_call (EXm.takes X) fun _ _ _ _ h => h) ha hg hdb he hpl) fun σ H Q ⟨δ, F, W, M, Qd, Ed, ev, s, h, kk, kx⟩ => ⟨δ, F, W, M, _, Ed, ev, s, h, fun vs H1 W1 ds M1 g1 s1 r1 q1 => ⟨F, W1, M1, ds, Qd, Ed, r1, s1, q1, kk.mono g1, kx.mono g1⟩, kx⟩
/-- a new instance, if its __init__ raises nothing -/
def xMakeS (C : Addr) (sp : DSp) (fs : XDA) : XDE := fun δ M Q Ed => fs δ M (fun ds M1 => ∀ p, M1 p = none → sp (.ref p :: ds) (mput M1 p (.ins C [])) (fun v M3 => v = .non ∧ ∃ gs, M3 p = some (.ins C gs) ∧ Q (.obj C gs) (mdel M3 p)) (fun cls fs M3 => ∃ M4, Sub M4 M3 ∧ Ed cls fs M4)) Ed
theorem make_endX {K : PySem.W.Frag} {F W : Addr → Prop} {M : Mm} {H : Hp} {Q : VK} {Qd : DK} {Ed : DX} {E : XK} {vs : List V} {gd : List Da} {sp : DSp} {C a dx : Addr} (s : Stt K F W M H) (ha : H a = none) (hd : H dx = none) (hx : dx ≠ a) (kk : Kt (rE K) K F W H Qd Q) (kx : KX K F W H Ed E)
    (rg : ∀ {W' H'}, Grow F W H W' H' → RDs K W' H' vs gd)
    (h : sp gd (mput M a (.ins C [])) (fun v M3 => v = .non ∧ ∃ gs, M3 a = some (.ins C gs) ∧ Qd (.obj C gs) (mdel M3 a)) (fun cls fs M3 => ∃ M4, Sub M4 M3 ∧ Ed cls fs M4)) :
    LSp K sp vs (upd (upd H dx (.own a)) a (.ins C dx [])) (fun v H2 => v = .non ∧ Q (.ref a) H2) E := by
  have s1 := s.junk hd (.own a)
  have ha1 : (upd H dx (.own a)) a = none := by rw [upd_ne (Ne.symm hx)]; exact ha
  have s2 := s1.newM ha1 (o := .ins C dx []) (u := .ins C []) (.ins .nil)
  have g2 : Grow F W H W (upd (upd H dx (.own a)) a (.ins C dx [])) := (grow_new s hd).trans (grow_new s1 ha1)
  refine ⟨F, W, _, gd, _, _, rg g2, s2, h, fun v H3 W3 d M3 g3 s3 r3 q3 => ?_, fun cls d H3 W3 fs M3 g3 s3 r3 ⟨M4, sb, q3⟩ => kx cls d H3 W3 fs M4 (g2.trans g3) (s3.forget sb) r3 q3⟩
  obtain ⟨rfl, gs, hm, q⟩ := q3
  cases r3
  refine ⟨rfl, ?_⟩
  obtain ⟨u, hu, mr⟩ := s3.mem _ _ hm
  obtain ⟨s4, g4⟩ := s3.settle hm
  cases mr with
  | ins rv => exact (kk.mono ((g2.trans g3).trans g4)).now s4 (.obj (.inl rfl) hu (rv.mono g4)) q
theorem x_make (M : MgOf X.K X.mg) (c : HasCls X.K x C) (D : KnMXD X.prog X.w X.K X.mg X.base C "__init__" k ps sp) (hr : Room (k + 1) X.A) (ha : DAX X (e :: es) fs) (hg : Gl X x := by rfl) (hdb : (x == ("__debug__" : Str)) = false := by decide)
    (he : starEach (e :: es) X.env = (false, eval e X.env) :: starEach es X.env := by rfl) (hpl : (backTo pos (starEach es X.env)).any (·.1) = false := by rfl) : DEX X (.Call (.Name x p) (e :: es) [] pos) (xMakeS C sp fs) := by
  obtain ⟨f, fd, F, B, b⟩ := D.ex
  refine imp (pe_make (E := EXm X) ⟨c.mks, B.mt.at_, B.mt.fn, c.kc⟩ F hr hg (M.of _ _ c.at_) b .nil (passes_call (EXm.takes X) fun _ _ _ _ h => h) ha hdb he hpl) fun σ H Q ⟨δ, F, W, M, Qd, Ed, ev, s, h, kk, kx⟩ => ⟨δ, F, W, M, _, Ed, ev, s, h, fun vs H1 W1 ds M1 g1 s1 r1 q1 => fun a dx h1 h2 h3 => ?_, kx⟩
  rw [List.append_nil]
  exact make_endX s1 h1 h2 h3 (kk.mono g1) (kx.mono g1) (gd := .ref a :: ds) (fun g => .cons (.ref a) (r1.mono g)) (q1 a (s1.freeM h1))
def hRetX (g : XDE) : DTS := fun D δ M => g δ M (fun x M1 => ∃ M2, Sub M2 M1 ∧ D.rt x M2) D.ex
theorem z_retX {g : XDE} (he : DEX X e g) : DS X (.Return (some e) pos) (hRetX g) := ps_imp (ps_ret he) fun D σ H ⟨δ, F, W, M, Dd, ev, s, h, k⟩ =>
  ⟨δ, F, W, M, _, _, ev, s, h, fun v H1 W1 d M1 g1 s1 r1 ⟨M2, sb, q⟩ => k.rt v H1 W1 d M2 g1 (s1.forget sb) r1 q, k.ex⟩
/-- an own exception class without an own __init__ -/
structure XCls (K : PySem.W.Frag) (x : Str) (C : Addr) : Prop where
  at_ : PySem.W.nsIn K mainGlobals x = some (some (.ref C))
  exc : PySem.W.excIn K C [.type "ValueError", .type "Exception", .type "BaseException", .type "object"] "ValueError.__new__" = true
  kp : PySem.W.keepIn K (.ref C) = true
  sub : PySem.W.subIn K (.ref C) (.type "BaseException") = some true
  ty : PySem.W.typeIn K (.ref C) = some (.type "type")
def hRaise (cls : Value) : DTS := fun D _ M => ∃ M2, Sub M2 M ∧ D.ex cls [] M2
theorem z_raise {m : Str} {j : Nat} {p2 pos' : Pos} (hc : X.calm = true) (M : MgOf X.K X.mg) (c : XCls X.K x C) (hg : Gl X x := by rfl) (hdb : (x == ("__debug__" : Str)) = false := by decide) : DS X (.Raise (some (.Call (.Name x p) [.Constant (.str m) j p2] [] pos)) none pos') (hRaise (.ref C)) :=
  ps_imp (ps_raise hc (EXm.takes X) (pmk_own PySem.F.excBase_ValueError c.exc (M.of _ _ c.at_) c.kp (raises_own c.sub c.ty) hg hdb)) fun D σ H ⟨δ, F, W, M, Dd, ev, s, ⟨M2, sb, h⟩, k⟩ =>
    k.ex _ none H W [] M2 .refl (s.forget sb) rfl h
end
end U
set_option Elab.async false
set_option linter.all false
set_option maxRecDepth 100000
set_option maxHeartbeats 2000000
namespace U
open PySem PySem.Spec PyProof.Rows L2 LamX
/-- a table, of whose code objects V holds -/
def TabV (V : Addr → Prop) (H : Hp) (P : Addr) (q : Str) : Prop := ∃ ps : Array Value, H P = some (.tbl ps) ∧ TriplesOk ps.toList ∧ ∀ (pos : Pos) (cv : Value), codeAmong pos ps.toList = some cv → ∃ c, cv = .ref c ∧ H c = some (CodeO c q) ∧ V c
theorem TabV.imp {V V' : Addr → Prop} {H : Hp} {P : Addr} {q : Str} (h : TabV V H P q) (f : ∀ c, V c → V' c) : TabV V' H P q :=
  let ⟨ps, a, b, d⟩ := h; ⟨ps, a, b, fun pos cv e => let ⟨c, x, y, z⟩ := d pos cv e; ⟨c, x, y, f c z⟩⟩
section
variable {X : Cx} {pins : List (Addr × Obj)} {σ : L2.St} {H : Hp} {s : Shared}
end
section
variable {X : Cx}
end
end U
namespace U
open PySem PySem.Spec PyProof.Rows L2 LamX
theorem ls_E {K : PySem.W.Frag} {E E' : XK} {f : DTS} {D : Ends} {σ : L2.St} {H : Hp} (h : ∀ cls d H, E cls d H → E' cls d H) (q : LS K E f D σ H) : LS K E' f D σ H := by
  obtain ⟨δ, F, W, M, Dd, ev, s, hf, k⟩ := q
  exact ⟨δ, F, W, M, Dd, ev, s, hf, k.nx, k.rt, k.bk, k.ct, fun cls d H' W' fs M' g s' r e => h _ _ _ (k.ex cls d H' W' fs M' g s' r e)⟩
theorem env_none {K : PySem.W.Frag} {W : Addr → Prop} {H : Hp} : ∀ σ : L2.St, EnvR K W H (List.replicate σ.length none) σ
  | [] => .nil
  | _ :: σ => .cons trivial (env_none σ)
inductive HdsD (X : Cx) : List ExceptHandler → List (Value × DTS) → Prop
  | nil : HdsD X [] []
  | cons {x : Str} {c : Value} {th : DTS} {b₀ : Stmt} {suite : List Stmt} {np pos' : Pos} {hds : List ExceptHandler} {l : List (Value × DTS)} (hc : Names X x c) (hsu : ∀ (a : Addr) (oe : Obj) (pn : List (Addr × Obj)), DB (X.suite a ((a, oe) :: pn)) (b₀ :: suite) th) (r : HdsD X hds l) :
      HdsD X (.ExceptHandler (some (.Name x np)) none (b₀ :: suite) pos' :: hds) ((c, th) :: l)
def upH (K : PySem.W.Frag) (l : List (Value × DTS)) : List (Value × (Addr → Value → Option Addr → TS)) := l.map fun p => (p.1, fun _ _ _ => LS K (fun _ _ _ => False) p.2)
theorem HdsD.ok {X : Cx} {hds : List ExceptHandler} {l : List (Value × DTS)} (h : HdsD X hds l) : HdsOk X hds (upH X.K l) := by
  induction h with
  | nil => exact .nil
  | cons hc hsu r ih => exact .cons hc (fun a oe cls d pn _ _ => pss_imp (hsu a oe pn) fun D σ H q => ls_E (fun _ _ _ z => z.elim) q) ih
structure HasDefC (K : PySem.W.Frag) (x : Str) (st : Stmt) (c : Addr) : Prop where
  ex : ∃ (f : Addr) (oc : Value) (od an : Option Addr) (osl : Array (Option Value)) (kV doc pm ct : Value), PySem.W.nsIn K mainGlobals x = some (some (.ref f)) ∧ K.lookup f = some ⟨oc, od, .func (PySem.W.fnOf x x (defArgs st) (defBody st) (defScope st) .none kV doc pm an (.ref c) ct), osl⟩ ∧
    PySem.W.codeIn K (.ref c) x = true ∧ PySem.W.keepIn K (.ref f) = true
theorem HasDefC.d {K : PySem.W.Frag} {x : Str} {st : Stmt} {c : Addr} (h : HasDefC K x st c) : HasDef K x st := by
  obtain ⟨f, oc, od, an, osl, kV, doc, pm, ct, a, l, h, k⟩ := h.ex
  exact has_mk a l h k
section
variable {K : PySem.W.Frag}
end
section
variable {X : Cx} {Ng : List Str} {x a q : Str} {sg : Scope} {g : Addr} {cdg : Value} {h₀ : ExceptHandler} {hds : List ExceptHandler} {l : List (Value × DTS)} {p1 p2 p3 p8 : Pos} {rest : List Stmt} {u : DTS}
end
section
variable {X : Cx} {Ng : List Str} {x a : Str} {st : Stmt} {h₀ : ExceptHandler} {hds : List ExceptHandler} {l : List (Value × DTS)} {p1 p2 p3 p8 p lpos pos : Pos} {rest : List Stmt} {u : DTS} {P c : Addr} {k : Nat} {params : Arguments} {body : Expr} {scope : Scope} {gb : XDE}
end
end U
set_option Elab.async false
set_option linter.all false
set_option maxRecDepth 100000
set_option maxHeartbeats 2000000
namespace U
open PySem PySem.Spec PyProof.Rows L2 LamX
end U
set_option Elab.async false
set_option linter.all false
set_option maxRecDepth 100000
set_option maxHeartbeats 2000000
namespace U
open PySem PySem.Spec PyProof.Rows L2
section
variable {X : Cx} {tg kx vx iter : Expr} {ifs : List Expr} {scope : Scope} {own : List (Str × Nat)} {pos spos py : Pos} {di : DTI} {c : CT} {tt : DTT} {tk tv : DTE} {y : Str} {i : Nat}
section
variable (hc : X.calm = true) (hN : X.N.Nodup) (hi : DI X tg iter di) (ok : BlkOk X.N X.env.scope scope own)
    (hg : ∀ (s : Shared) (H : Hp) (C : Addr) (cl : List (Str × Addr)) (fp : List Addr), PG (X.blk s H scope (compEnvC scope cl C X.env) fp) tg (c.tg X.K)) (ht : ∀ (s : Shared) (H : Hp) (C : Addr) (cl : List (Str × Addr)) (fp : List Addr), DTs (X.blk s H scope (compEnvC scope cl C X.env) fp) ifs tt)
    (hk : ∀ (s : Shared) (H : Hp) (C : Addr) (cl : List (Str × Addr)) (fp : List Addr), DE (X.blk s H scope (compEnvC scope cl C X.env) fp) kx tk) (he : ∀ (s : Shared) (H : Hp) (C : Addr) (cl : List (Str × Addr)) (fp : List Addr), DE (X.blk s H scope (compEnvC scope cl C X.env) fp) vx tv)
end
end
section
variable {X : Cx}
end
end U
set_option Elab.async false
set_option linter.all false
set_option maxRecDepth 100000
set_option maxHeartbeats 2000000
namespace U
open PySem PySem.Spec PyProof.Rows L2 StX
section
variable {CX : CXT} {P : Program} {w : World} {K : PySem.W.Frag} {mg : Str → Option Value} {base : Heap} {k : Nat} {f : Addr} {name qual : Str} {params : Arguments} {body : List Stmt} {scope : Scope} {dV kV doc pm cdv ct oc : Value} {an od : Option Addr}
  {osl : Array (Option Value)} {N ps : List Str} {sp : Sp}
theorem fn_starF {pv : Str} (lk : K.lookup f = some ⟨oc, od, .func (PySem.W.fnOf name qual params body scope dV kV doc pm an cdv ct), osl⟩) (hcd : PySem.W.codeIn K cdv qual = true) (S : FnScope N (ps ++ [pv]) scope) (hCX : CXUp CX)
    (hb : ∀ us rest : List Value, us.length = ps.length → bindArgs (PySem.W.fnOf name qual params body scope dV kV doc pm an cdv ct) ⟨us ++ rest, []⟩ = (newTuple rest >>= fun t => pure (ps.zip us ++ [(pv, t)])))
    (hbody : ∀ (A : Around) (outer : List Env) (s : Shared) (H : Hp) (vs : List V) (Q : VK) (E : XK), Room k (A.deeper (envOfC qual scope s.heap.objs.size f cdv)) → sp vs H Q E →
      ∃ t, PSs (cxOf CX P w K mg base N qual scope f cdv A outer s H E) body t ∧ t { nx := fun _ H' => Q .non H', rt := Q } (start N vs) H) :
    FnR P w K mg base CX (k + 1) f (fun vs H Q E => ∃ ws rest, vs = ws ++ rest ∧ ws.length = ps.length ∧ rest.length ≤ sizeLine ∧ ∀ p, H p = Option.none → ∀ o : Obj, o.dict = none → sp (ws ++ [V.ref p]) (upd H p (.frz o (.tup rest))) Q E) := by
  intro A outer s H us vs Q E hr e0 r hsp
  obtain ⟨ws, rest, ev, hl, hz, hq⟩ := hsp
  subst ev
  obtain ⟨u1, u2, eu, r1, r2⟩ := vals_split r
  subst eu
  have hn : H s.heap.objs.size = Option.none := e0.hok.fresh (Nat.le_refl _)
  have hl1 : u1.length = ps.length := by rw [← r1.length]; exact hl
  have hl2 : u2.length ≤ sizeLine := by rw [← r2.length]; exact hz
  refine run_bnd lk hcd S hr e0 (G := fun xs H2 => ∃ (p : Addr) (o : Obj), H p = Option.none ∧ o.dict = none ∧ xs = ws ++ [V.ref p] ∧ H2 = upd H p (.frz o (.tup rest))) (fun A' Ex Q' h => ?_) fun s2 H2 xs ⟨p, o, hp, ho, ex, eH⟩ hr' => ?_
  · rw [hb u1 u2 hl1]
    refine wpAny_bind (wpAny_newTuple (wpAny_pure ?_) hl2)
    have new : ObjOk P w (upd H s.heap.objs.size (.frz { cls := .type "tuple", data := .seq u2.toArray } (.tup rest))) (s.heap.push ({ cls := .type "tuple", data := .seq u2.toArray } : Obj)) s.heap.objs.size (.frz { cls := .type "tuple", data := .seq u2.toArray } (.tup rest)) := ⟨Heap.get?_push_size _ rfl, hz, u2, r2, ⟨_, Heap.get?_push_size _ rfl, rfl, _, rfl⟩⟩
    have un := un_laid (fs := frs outer) (s := s) (o := ({ cls := .type "tuple", data := .seq u2.toArray } : Obj)) (u := .frz { cls := .type "tuple", data := .seq u2.toArray } (.tup rest)) hn
    have z := h _ _ (ws ++ [V.ref s.heap.objs.size]) (u1 ++ [Value.ref s.heap.objs.size]) (env0_laid e0 new) un rfl (fun e s' => hCX outer s H _ _ E e s' un (fun b o q => Heap.get?_push_of_some _ q) rfl) (r1.append (.cons rfl .nil))
      (by rw [List.length_append, List.length_append, hl] <;> rfl) ⟨_, _, hn, rfl, rfl, rfl⟩
    rw [List.zip_append hl1.symm] at z
    exact z
  · subst ex eH
    exact hbody A outer s2 _ _ Q E hr' (hq p hp o ho)
end
end U
namespace U
open PySem PySem.Spec PyProof.Rows L2 StX
/-- arguments, the last ones as one tuple -/
def spStar (n : Nat) (sp : DSp) : DSp := fun ds M Q Ed => ∃ ws rest, ds = ws ++ rest ∧ ws.length = n ∧ Sz rest.length ∧ sp (ws ++ [.tup rest]) M Q Ed
structure KnMR (P : Program) (w : World) (K : PySem.W.Frag) (mg : Str → Option Value) (base : Heap) (CX : CXT) (C : Addr) (m : Str) (k : Nat) (sp : DSp) : Prop where
  ex : ∃ f, FnR P w K mg base CX k f (LSp K sp) ∧ BMeth K C m f
theorem KnMR.of {P : Program} {w : World} {K : PySem.W.Frag} {mg : Str → Option Value} {base : Heap} {C : Addr} {m qual : Str} {st : Stmt} {N ps : List Str} {pv : Str} {k : Nat} {sp : DSp} (F : HasMeth K C m qual st) (S : FnScope N (ps ++ [pv]) (defScope st))
    (hb : ∀ (kV doc pm : Value) (an : Option Addr) (cdv ct : Value) (us rest : List Value), us.length = ps.length → bindArgs (PySem.W.fnOf m qual (defArgs st) (defBody st) (defScope st) .none kV doc pm an cdv ct) ⟨us ++ rest, []⟩ = (newTuple rest >>= fun t => pure (ps.zip us ++ [(pv, t)])))
    (hbody : ∀ (f : Addr) (cdv : Value) (A : Around) (outer : List Env) (s : Shared) (H : Hp) (E : XK), Room k (A.deeper (envOfC qual (defScope st) s.heap.objs.size f cdv)) →
      ∃ t, DB (cxOf (L2.CX P w) P w K mg base N qual (defScope st) f cdv A outer s H E) (defBody st) t ∧ ∀ ds M Q Ed, sp ds M Q Ed → t (bodyX Q Ed) (startD N ds) M) : KnMR P w K mg base (L2.CX P w) C m (k + 1) (spStar ps.length sp) := by
  obtain ⟨f, fd, G, e⟩ := F.ex
  obtain ⟨oc, od, kV, doc, pm, an, cdv, ct, osl, rfl, lk, hcd⟩ := G.ex
  refine ⟨f, FnR.imp (fn_starF (sp := LSp K sp) lk hcd S StX.cxUp (hb _ _ _ _ _ _) fun A outer s H vs Q E hr ⟨F, W, M, ds, Qd, Ed, r, st, h, kk, kx⟩ => ?_) fun vs H Q E ⟨F, W, M, ds, Qd, Ed, r, st, ⟨ws, rest, e1, hl, hz, h⟩, kk, kx⟩ => ?_, e⟩
  · obtain ⟨t, d, q⟩ := hbody f cdv A outer s H E hr
    exact ⟨_, d, ls_bodyX r st kk (kx_def kx) (q ds M Qd Ed h)⟩
  · subst e1
    have hlen := r.length
    rw [List.length_append] at hlen
    refine ⟨vs.take ps.length, vs.drop ps.length, (List.take_append_drop _ _).symm, by rw [List.length_take]; omega, ?_, fun p hp o ho => ?_⟩
    · have := hz.le
      rw [List.length_drop, sizeLine_eq]; omega
    · obtain ⟨s1, g1⟩ := st.new hp (.frz o (.tup (vs.drop ps.length))) ho
      have r1 : RDs K W H (vs.take ps.length) ws := by
        have := r.take ps.length
        have e : (ws ++ rest).take ps.length = ws := by rw [← hl]; exact List.take_left
        rwa [e] at this
      have r2 : RDs K W H (vs.drop ps.length) rest := by
        have := r.drop ps.length
        have e : (ws ++ rest).drop ps.length = rest := by rw [← hl]; exact List.drop_left
        rwa [e] at this
      exact ⟨F, _, M, _, Qd, Ed, (r1.mono g1).append (.cons (.tup (.inl ⟨.inl rfl, .inr ⟨o, upd_same⟩⟩) (r2.mono g1)) .nil), s1, h, kk.mono g1, kx.mono g1⟩
theorem FnR.nox {P : Program} {w : World} {K : PySem.W.Frag} {mg : Str → Option Value} {base : Heap} {k : Nat} {f : Addr} {sp : DSp} (F : FnR P w K mg base (L2.CX P w) k f (LSp K sp)) : FnR P w K mg base CX0 k f (LSp K (spN sp)) := by
  have x0 : ∀ {vs H Q E}, LSp K (spN sp) vs H Q E → LSp K sp vs H Q (fun _ _ _ => False) := fun ⟨F, W, M, ds, Qd, Ed, r, s, h, k, _⟩ => ⟨F, W, M, ds, Qd, X0, r, s, h, k, fun _ _ _ _ _ _ _ _ _ z => z.elim⟩
  intro A outer s H us vs Q E hr e0 hv hs
  refine codeAny_mono (F A outer s H us vs Q _ hr e0 hv (x0 hs)) fun r s' hq => ?_
  cases r with
  | error e =>
    obtain ⟨_, _, _, _, _, _, _, _, _, _, _, _, z⟩ := (show L2.CX P w outer H s (fun _ _ _ => False) e s' from hq)
    exact z.elim
  | ok fl => cases fl <;> exact hq
theorem KnMR.d {P : Program} {w : World} {K : PySem.W.Frag} {mg : Str → Option Value} {base : Heap} {C : Addr} {m : Str} {k : Nat} {sp : DSp} (D : KnMR P w K mg base (L2.CX P w) C m k sp) : KnMR P w K mg base CX0 C m k (spN sp) := by
  obtain ⟨f, F, r⟩ := D.ex
  exact ⟨f, FnR.nox F, r⟩
section
variable {X : Cx} {k i : Nat} {sp : DSp} {x m : Str} {p pos apos spos : Pos} {e o e1 e2 : Expr} {es : List Expr} {fs : XDA} {fd : DTA} {fo : DTE} {C : Addr} {f1 f2 : XDE} {g1 g2 : DTE}
end
end U
set_option Elab.async false
set_option linter.all false
set_option maxRecDepth 100000
set_option maxHeartbeats 2000000
namespace U
open PySem PySem.Spec PyProof.Rows L2 ClX
structure HasCMeth (K : PySem.W.Frag) (C : Addr) (m qual : Str) (st : Stmt) : Prop where
  ex : ∃ g fd mc p, Fun K m qual st g fd ∧ CRead K C mc ∧ CMet K C mc m p g
structure KnC (P : Program) (w : World) (K : PySem.W.Frag) (mg : Str → Option Value) (base : Heap) (CX : CXT) (C : Addr) (m : Str) (k : Nat) (sp : DSp) : Prop where
  ex : ∃ g mc p, FnR P w K mg base CX k g (LSp K sp) ∧ CRead K C mc ∧ CMet K C mc m p g
abbrev KnCXD (P : Program) (w : World) (K : PySem.W.Frag) (mg : Str → Option Value) (base : Heap) (C : Addr) (m : Str) (k : Nat) (ps : List Str) (sp : DSp) : Prop := KnC P w K mg base (L2.CX P w) C m k sp
theorem KnCXD.of {P : Program} {w : World} {K : PySem.W.Frag} {mg : Str → Option Value} {base : Heap} {C : Addr} {m qual : Str} {st : Stmt} {N ps : List Str} {k : Nat} {sp : DSp} (F : HasCMeth K C m qual st) (S : FnScope N ps (defScope st))
    (hb : ∀ (kV doc pm : Value) (an : Option Addr) (cdv ct : Value) (us : List Value), us.length = ps.length → bindArgs (PySem.W.fnOf m qual (defArgs st) (defBody st) (defScope st) .none kV doc pm an cdv ct) ⟨us, []⟩ = pure (ps.zip us))
    (len : ∀ ds M Q E, sp ds M Q E → ds.length = ps.length)
    (hbody : ∀ (f : Addr) (cdv : Value) (A : Around) (outer : List Env) (s : Shared) (H : Hp) (E : XK), Room k (A.deeper (envOfC qual (defScope st) s.heap.objs.size f cdv)) →
      ∃ t, DB (cxOf (L2.CX P w) P w K mg base N qual (defScope st) f cdv A outer s H E) (defBody st) t ∧ ∀ ds M Q Ed, sp ds M Q Ed → t (bodyX Q Ed) (startD N ds) M) : KnCXD P w K mg base C m (k + 1) ps sp := by
  obtain ⟨g, fd, mc, p, G, r, c⟩ := F.ex
  refine ⟨g, mc, p, fnR_of (G.okX S (lsp_len len) fun cdv A outer s H vs Q E hr ⟨F, W, M, ds, Qd, Ed, r, st, h, kk, kx⟩ => ?_) (G.binds hb), r, c⟩
  obtain ⟨t, d, q⟩ := hbody g cdv A outer s H E hr
  exact ⟨_, d, ls_bodyX r st kk (kx_def kx) (q ds M Qd Ed h)⟩
theorem KnC.d {P : Program} {w : World} {K : PySem.W.Frag} {mg : Str → Option Value} {base : Heap} {C : Addr} {m : Str} {k : Nat} {sp : DSp} (D : KnC P w K mg base (L2.CX P w) C m k sp) : KnC P w K mg base CX0 C m k (spN sp) := by
  obtain ⟨g, mc, p, F, r⟩ := D.ex
  exact ⟨g, mc, p, FnR.nox F, r⟩
section
variable {X : Cx} {k : Nat} {sp : DSp} {x m : Str} {p pos apos : Pos} {e o i : Expr} {es : List Expr} {fs : XDA} {fd : DTA} {fo fi : DTE} {C : Addr} {ps : List Str}
end
end U
set_option Elab.async false
set_option linter.all false
set_option maxRecDepth 100000
set_option maxHeartbeats 2000000
namespace VG0
open PySem PySem.Spec PyProof.Rows L2 UX0
section
variable {prog : Program} {w : World} {A : Around} {R : Result → Shared → Prop} {s : Shared} {elt t0 i0 t1 i1 : Expr} {ifs0 ifs1 : List Expr} {scope : Scope} {pos : Pos} {it acc : Value} {env : Env}
end

section
variable {X : Cx}
end
end VG0
namespace U
open PySem PySem.Spec PyProof.Rows L2 UX0
section
variable {X : Cx} {tg elt iter tg1 iter1 : Expr} {ifs ifs1 : List Expr} {scope : Scope} {own : List (Str × Nat)} {vs1 : List Nat} {pos p pos2 p2 : Pos} {di di1 : DTI} {c c1 : CT} {tt tt1 : DTT} {te : DTE}
section
variable (hc : X.calm = true) (hN : X.N.Nodup) (hi : DI X tg iter di) (ok : BlkOk X.N X.env.scope scope own) (hvs : ∀ i ∈ vs1, i ∈ own.map (·.2))
    (hg : ∀ (s : Shared) (H : Hp) (C : Addr) (cl : List (Str × Addr)) (fp : List Addr), PG (X.blk s H scope (compEnvC scope cl C X.env) fp) tg (c.tg X.K)) (ht : ∀ (s : Shared) (H : Hp) (C : Addr) (cl : List (Str × Addr)) (fp : List Addr), DTs (X.blk s H scope (compEnvC scope cl C X.env) fp) ifs tt)
    (hi1 : ∀ (s : Shared) (H : Hp) (C : Addr) (cl : List (Str × Addr)) (fp : List Addr), DI (X.blk s H scope (compEnvC scope cl C X.env) fp) tg1 iter1 di1)
    (hg1 : ∀ (s : Shared) (H : Hp) (C : Addr) (cl : List (Str × Addr)) (fp : List Addr), PG (X.blk s H scope (compEnvC scope cl C X.env) fp) tg1 (c1.tg X.K)) (ht1 : ∀ (s : Shared) (H : Hp) (C : Addr) (cl : List (Str × Addr)) (fp : List Addr), DTs (X.blk s H scope (compEnvC scope cl C X.env) fp) ifs1 tt1)
    (he : ∀ (s : Shared) (H : Hp) (C : Addr) (cl : List (Str × Addr)) (fp : List Addr), DE (X.blk s H scope (compEnvC scope cl C X.env) fp) elt te)
end
end
section
variable {X : Cx} {a e : Expr} {fa f : DTE} {pos p : Pos}
end
end U
set_option Elab.async false
set_option linter.all false
set_option maxRecDepth 100000
set_option maxHeartbeats 2000000
namespace U
open PySem PySem.Spec PyProof.Rows L2
section
variable {X : Cx}
end
/-- of a kind that is built in -/
theorem kit_mkT {K : PySem.W.Frag} {D : Addr} {T : String} {r : Bool} (h : PySem.W.kitMeta T = true) (c : PySem.W.mroIn K D (.type T) = some r) : PySem.W.kitOne K (.ref D) (.type T) = some r := by
  unfold PySem.W.kitOne PySem.W.kitCls
  rw [if_neg (by simp)]
  simp only [h, if_true]
  exact c
end U
set_option Elab.async false
set_option linter.all false
set_option maxRecDepth 100000
set_option maxHeartbeats 2000000
namespace U
open PySem PySem.Spec PyProof.Rows L2 UX0
section
variable {X : Cx}
end
end U
set_option Elab.async false
set_option linter.all false
set_option maxRecDepth 100000
set_option maxHeartbeats 2000000
namespace U
open PySem PySem.Spec PyProof.Rows L2 UZ0
section
variable {X : Cx} {pos ppos : Pos} {keys : List (Option Expr)} {values : List Expr} {value : Expr} {fs : List (Str × DTE)} {f : DTE} {x : Str} {j : Nat}
end
end U
set_option Elab.async false
set_option linter.all false
set_option maxRecDepth 100000
set_option maxHeartbeats 2000000
namespace U
open PySem PySem.Spec PyProof.Rows L2
section
variable {X : Cx}
def rEqL (K : PySem.W.Frag) : R2 := fun x y H Q => ∃ a b xs, x = .ref a ∧ y = .ref b ∧ SqL K H a xs ∧ SqL K H b [] ∧ Q (.bl xs.isEmpty) H
theorem op_eqL (hu : X.A.units < cLine) : OpR X (compareOp .Eq) (rEqL X.K) := by
  intro pins s σ H x y v u Q I rx ry h
  obtain ⟨a, b, xs, rfl, rfl, ha, hb, q⟩ := h
  cases rx
  cases ry
  obtain ⟨its, r, p, _⟩ := I.list ha
  obtain ⟨its2, r2, p2, _⟩ := I.list hb
  cases r2
  show wpAny _ _ (richCompare .Eq (Value.ref a) (Value.ref b)) _ _ _
  cases r with
  | nil => exact SeqAt.RcAt.lists (e := fun _ => true) p.isList p2.isList rfl hu (fun j h1 h2 => by simp at h2) _ _ _ _ ⟨.bl _, H, I, rfl, q⟩
  | cons h t => exact SeqAt.RcAt.lists_lengths p.isList p2.isList (by simp) hu _ _ _ _ ⟨.bl _, H, I, rfl, q⟩
def hEqL : D2 := fun x y M Q => match x, y with
  | .lst xs, .lst [] => Q (.bl xs.isEmpty) M
  | _, _ => False
theorem o_deqL (hu : X.A.units + 64 < cLine) : DO X (compareOp .Eq) hEqL := do_imp fun x y H Q ⟨F, W, M, d, e, Qd, r1, r2, s, h, k⟩ => by
  unfold hEqL at h
  split at h
  · cases r1 with
    | lst hs rv =>
      cases r2 with
      | lst ht rw_ =>
        cases rw_
        refine ⟨_, op_eqL (by omega), _, _, _, rfl, rfl, hs.sq, ht.sq, k.now s (.bl _) ?_⟩
        cases rv <;> exact h
  · exact h.elim
end
end U
set_option Elab.async false
set_option linter.all false
set_option maxRecDepth 100000
set_option maxHeartbeats 2000000
namespace PySem.SeqAt
open AutoSeq1 (wpAny_loadPart')
open MeetsSeq MeetsSeq2 MeetsSeq3 SeqRoads2
section
variable {A : Around} {s : Shared}
end
end PySem.SeqAt
namespace U
open PySem PySem.Spec PyProof.Rows L2 UX0
section
variable {X : Cx}
end
end U
set_option Elab.async false
set_option linter.all false
set_option maxRecDepth 100000
set_option maxHeartbeats 2000000
namespace U
open PySem PySem.Spec PyProof.Rows L2 UX0
section
variable {X : Cx}
end
section
variable {X : Cx} {a e : Expr} {fa f : DTE} {pos p : Pos}
end
end U
set_option Elab.async false
set_option linter.all false
set_option maxRecDepth 100000
set_option maxHeartbeats 2000000
namespace PySem.SeqAt
open AutoSeq1 (wpAny_loadPart')
open MeetsSeq MeetsSeq2 MeetsSeq3 SeqRoads2
section
variable {A : Around} {s : Shared}
end
end PySem.SeqAt
namespace U
open PySem PySem.Spec PyProof.Rows L2 UX0
section
variable {X : Cx}
end
end U
set_option Elab.async false
set_option linter.all false
set_option maxRecDepth 100000
set_option maxHeartbeats 2000000
namespace HT
open PySem PySem.Spec PyProof.Rows L2
section
variable {prog : Program} {w : World} {A : Around} {E : Value → Shared → Prop} {s : Shared}
end
end HT

namespace U
open PySem PySem.Spec PyProof.Rows L2
section
variable {X : Cx}
end
end U
set_option Elab.async false
set_option linter.all false
set_option maxRecDepth 100000
set_option maxHeartbeats 2000000
namespace PySem.SeqAt
open AutoSeq1 (wpAny_loadPart')
open MeetsSeq MeetsSeq2 MeetsSeq3 SeqRoads2
section
variable {prog : Program} {w : World} {A : Around} {R : Result → Shared → Prop}
end
section
variable {prog : Program} {w : World} {A : Around} {E : Value → Shared → Prop} {s : Shared}
end
end PySem.SeqAt
namespace U
open PySem PySem.Spec PyProof.Rows L2
section
variable {X : Cx} {C : Addr} {k : Nat} {ps : List Str} {sp : DSp} {f : Str}
end
end U
set_option Elab.async false
set_option linter.all false
set_option maxRecDepth 100000
set_option maxHeartbeats 2000000
namespace U
open PySem PySem.Spec PyProof.Rows L2 LamX
/-- a def at f, its code object at c -/
structure FunC (K : PySem.W.Frag) (x : Str) (st : Stmt) (f : Addr) (fd : FuncData) (c : Addr) : Prop where
  ex : ∃ (oc : Value) (od an : Option Addr) (osl : Array (Option Value)) (kV doc pm ct : Value), fd = PySem.W.fnOf x x (defArgs st) (defBody st) (defScope st) .none kV doc pm an (.ref c) ct ∧ K.lookup f = some ⟨oc, od, .func fd, osl⟩ ∧ PySem.W.codeIn K (.ref c) x = true ∧ PySem.W.keepIn K (.ref f) = true
theorem FunC.g {K : PySem.W.Frag} {x : Str} {st : Stmt} {f : Addr} {fd : FuncData} {c : Addr} (F : FunC K x st f fd c) : Fun K x x st f fd := by
  obtain ⟨oc, od, an, osl, kV, doc, pm, ct, rfl, l, h, kp⟩ := F.ex
  exact fun_mk l h kp
end U
set_option Elab.async false
set_option linter.all false
set_option maxRecDepth 100000
set_option maxHeartbeats 2000000
namespace U
open PySem PySem.Spec PyProof.Rows L2 UX0 UZ0
section
variable {X : Cx}
def rNeL (K : PySem.W.Frag) : R2 := fun x y H Q => ∃ a b xs, x = .ref a ∧ y = .ref b ∧ SqL K H a xs ∧ SqL K H b [] ∧ Q (.bl (!xs.isEmpty)) H
theorem op_neL (hu : X.A.units < cLine) : OpR X (compareOp .NotEq) (rNeL X.K) := by
  intro pins s σ H x y v u Q I rx ry h
  obtain ⟨a, b, xs, rfl, rfl, ha, hb, q⟩ := h
  cases rx
  cases ry
  obtain ⟨its, r, p, _⟩ := I.list ha
  obtain ⟨its2, r2, p2, _⟩ := I.list hb
  cases r2
  show wpAny _ _ (richCompare .NotEq (Value.ref a) (Value.ref b)) _ _ _
  cases r with
  | nil => exact SeqAt.RcNeAt.lists (e := fun _ => true) p.isList p2.isList rfl hu (fun j h1 h2 => by simp at h2) _ _ _ _ ⟨.bl _, H, I, rfl, q⟩
  | cons h t => exact SeqAt.RcNeAt.lists_lengths p.isList p2.isList (by simp) hu _ _ _ _ ⟨.bl _, H, I, rfl, q⟩
def hNeL : D2 := fun x y M Q => match x, y with
  | .lst xs, .lst [] => Q (.bl (!xs.isEmpty)) M
  | _, _ => False
theorem o_dneL (hu : X.A.units + 64 < cLine) : DO X (compareOp .NotEq) hNeL := do_imp fun x y H Q ⟨F, W, M, d, e, Qd, r1, r2, s, h, k⟩ => by
  unfold hNeL at h
  split at h
  · cases r1 with
    | lst hs rv =>
      cases r2 with
      | lst ht rw_ =>
        cases rw_
        refine ⟨_, op_neL (by omega), _, _, _, rfl, rfl, hs.sq, ht.sq, k.now s (.bl _) ?_⟩
        cases rv <;> exact h
  · exact h.elim
end
end U
set_option Elab.async false
set_option linter.all false
set_option maxRecDepth 100000
set_option maxHeartbeats 2000000
namespace VS0
open PySem PySem.SeqAt
open AutoSeq1 (wpAny_loadPart')
open MeetsSeq MeetsSeq2 MeetsSeq3 SeqRoads2
section
variable {prog : Program} {w : World} {A : Around} {R : Result → Shared → Prop}
end
section
variable {prog : Program} {w : World} {A : Around} {E : Value → Shared → Prop} {s : Shared}
end
end VS0
namespace U
open PySem PySem.Spec PyProof.Rows L2 UX0 UZ0
section
variable {X : Cx} {o i e e2 value : Expr} {fo fi fd f fv : DTE} {pos apos cpos p : Pos}
end
section
variable {X : Cx} {C : Addr} {k : Nat} {ps : List Str} {sp : DSp}
end
end U
set_option Elab.async false
set_option linter.all false
set_option maxRecDepth 100000
set_option maxHeartbeats 2000000
namespace U
open PySem PySem.Spec PyProof.Rows L2
def gLstT (K : PySem.W.Frag) (is : List Nat) : TG := L2.gLst K is.length (setsV is)
section
variable {X : Cx} {tg elt iter : Expr} {ifs : List Expr} {scope : Scope} {own : List (Str × Nat)} {pos : Pos} {di : DTI} {is : List Nat} {tt : DTT} {te : DTE}
section
variable (hc : X.calm = true) (hN : X.N.Nodup) (hi : DI X tg iter di) (ok : BlkOk X.N X.env.scope scope own)
    (hg : ∀ (s : Shared) (H : Hp) (C : Addr) (cl : List (Str × Addr)) (fp : List Addr), PG (X.blk s H scope (compEnvC scope cl C X.env) fp) tg (gLstT X.K is)) (ht : ∀ (s : Shared) (H : Hp) (C : Addr) (cl : List (Str × Addr)) (fp : List Addr), DTs (X.blk s H scope (compEnvC scope cl C X.env) fp) ifs tt)
    (he : ∀ (s : Shared) (H : Hp) (C : Addr) (cl : List (Str × Addr)) (fp : List Addr), DE (X.blk s H scope (compEnvC scope cl C X.env) fp) elt te)
end
end
end U
set_option Elab.async false
set_option linter.all false
set_option maxRecDepth 100000
set_option maxHeartbeats 2000000
namespace L2
open PySem PySem.Spec PyProof.Rows
/-- what the clauses wish of an exception of the body, one after the other; with a slot: as e -/
def wManyN (K : PySem.W.Frag) (Wout : WX) (D : Ends) : List (Value × Option Nat × (Addr → Value → Option Addr → TS)) → WX
  | [] => Wout
  | (c, none, ts) :: r => fun cls d σ H => ∃ b, PySem.W.exmOne K cls c = some b ∧ (b = true → ∀ a, H a = none → ts a cls d D σ H) ∧ (b = false → wManyN K Wout D r cls d σ H)
  | (c, some i, ts) :: r => fun cls d σ H => ∃ b, PySem.W.exmOne K cls c = some b ∧
      (b = true → ∀ a, H a = none → ts a cls d { nx := fun σ' H' => D.nx (σ'.set i none) H', rt := D.rt, bk := fun σ' H' => D.bk (σ'.set i none) H', ct := fun σ' H' => D.ct (σ'.set i none) H' } (σ.set i (some (.ref a))) H) ∧
      (b = false → wManyN K Wout D r cls d σ H)
inductive HdsOkN (X : Cx) : List ExceptHandler → List (Value × Option Nat × (Addr → Value → Option Addr → TS)) → Prop
  | nil : HdsOkN X [] []
  | cons {x : Str} {c : Value} {ts : Addr → Value → Option Addr → TS} {b₀ : Stmt} {suite : List Stmt} {np pos' : Pos} {hds : List ExceptHandler} {l : List (Value × Option Nat × (Addr → Value → Option Addr → TS))} (hc : Names X x c)
      (hsu : ∀ (a : Addr) (oe : Obj) (cls : Value) (d : Option Addr) (pn : List (Addr × Obj)), Zc cls d oe → (∃ vs, oe.data = .fields vs) → PSs (X.suite a ((a, oe) :: pn)) (b₀ :: suite) (ts a cls d)) (r : HdsOkN X hds l) :
      HdsOkN X (.ExceptHandler (some (.Name x np)) none (b₀ :: suite) pos' :: hds) ((c, none, ts) :: l)
  | asx {x n : Str} {c : Value} {i : Nat} {ts : Addr → Value → Option Addr → TS} {b₀ : Stmt} {suite : List Stmt} {np pos' : Pos} {hds : List ExceptHandler} {l : List (Value × Option Nat × (Addr → Value → Option Addr → TS))} (hc : Names X x c)
      (hN : X.N.Nodup) (hi : X.N[i]? = some n) (hln : X.env.kindOf n = some .local)
      (hsu : ∀ (a : Addr) (oe : Obj) (cls : Value) (d : Option Addr) (pn : List (Addr × Obj)), Zc cls d oe → (∃ vs, oe.data = .fields vs) → PSs (X.suite a ((a, oe) :: pn)) (b₀ :: suite) (ts a cls d)) (r : HdsOkN X hds l) :
      HdsOkN X (.ExceptHandler (some (.Name x np)) (some n) (b₀ :: suite) pos' :: hds) ((c, some i, ts) :: l)
section
variable {X : Cx} {body : List Stmt} {h₀ : ExceptHandler} {hds : List ExceptHandler} {l : List (Value × Option Nat × (Addr → Value → Option Addr → TS))} {pos : Pos} {tb : WX → TS} {Wout : WX}
theorem ps_try_manyN (hs : X.stack = X.env :: X.outer) (hf : X.env.frame = some X.env.locals) (tk : Takes X Wout)
    (hb : ∀ (W : WX) (pn : List (Addr × Obj)) (xe : Value → Shared → Prop), Takes (X.tr pn xe) W → PassesOwn (model X.prog X.w) X.A X.env xe → PSs (X.tr pn xe) body (tb W))
    (hh : HdsOkN X (h₀ :: hds) l) : PS X (.Try body (h₀ :: hds) [] [] pos) (fun D σ H => tb (wManyN X.K Wout D l) D σ H) := by
  refine ⟨fun pins s σ H D I h => ?_⟩
  have ok := I.ok
  have hfr : X.A.frames = some (X.env :: X.outer) := by rw [ok.frames, hs]
  refine wpAny_Try_except ?_
  refine wpAny_mono ((hb (wManyN X.K Wout D l) (X.pn ++ pins) (fun e s₁ => wpAny (model X.prog X.w) X.A (noteFrame e X.env) (fun _ s₂ => wpAny (model X.prog X.w) X.A (setFlight e none) (fun _ s₃ =>
    wpAny (model X.prog X.w) X.A (handleBy e X.env (h₀ :: hds)) (SP X pins D) X.xe s₃) X.xe s₂) X.xe s₁) (fun u s' xx => ?_) PassesOwn.looking).run [] s σ H D (I.toTry _) h) (fun f s1 hsp => ?_) (fun e s1 he => he)
  · -- the catch
    obtain ⟨a, B, sI, pins', σ', H', cls, d, rfl, J', nb, up, sky, na, os, ag, w⟩ := xx
    have J : Inv X pins σ' H' sI := J'.ofTry ok
    have sky' : Sky B (X.env :: X.outer) a (Zc cls d) X.env.locals s'.heap := by rw [← hs]; exact sky
    show wpAny (model X.prog X.w) X.A (noteFrame (.ref a) X.env) _ _ _
    refine Sky.land Zc.steady hfr hf sky' fun h3 fl3 up3 => ?_
    have J3 : Inv X pins σ' H' { s' with heap := h3 } := J.landed nb fl3.1 (up.trans up3) os ag
    obtain ⟨oe3, vs3, he3, hz3, hd3⟩ := fl3.there
    have notFr : ∀ {h : Heap} {o : Obj} {vs : Array Value}, h.FunFrames B (X.env :: X.outer) → h.get? a = some o → o.data = .fields vs → a ∉ frs (X.env :: X.outer) := fun {h o vs} ff e dd hm => by
      obtain ⟨_, o', e', hnf⟩ := ff.mem hm
      rw [e] at e'; cases e'
      exact hnf _ dd
    have nfr := notFr fl3.2.2.1 he3 hd3
    have nL : a ≠ X.env.locals := fun z => nfr (List.mem_filterMap.mpr ⟨X.env, List.mem_cons_self, by rw [hf, z]⟩)
    have nF : a ∉ X.fs := fun hm => by
      obtain ⟨e, he, q⟩ := List.mem_filterMap.mp hm
      exact nfr (List.mem_filterMap.mpr ⟨e, List.mem_cons_of_mem _ he, q⟩)
    have S3 := J3.suite he3 hd3 na nL nF
    have go : ∀ {hds' : List ExceptHandler} {l' : List (Value × Option Nat × (Addr → Value → Option Addr → TS))}, HdsOkN X hds' l' → wManyN X.K Wout D l' cls d σ' H' →
        wpAny (model X.prog X.w) X.A (handleBy (.ref a) X.env hds') (SP X pins D) X.xe { s' with heap := h3 } := by
      intro hds' l' hk
      induction hk with
      | nil =>
        intro w
        refine wpAny_handleBy_nil ?_
        obtain ⟨k1, k2, k3, oe, vs, T, oT, ts', he, hz, hd, h1, hr⟩ := id fl3
        unfold PySem.passOn
        refine wpAny_bind (wpAny_field he hd h1 ?_)
        rw [if_neg (show ¬ ((Value.ref T == Value.none) = true) from by simp)]
        have fin : wpAny (model X.prog X.w) X.A (setFlight (.ref a) X.env.frame) (fun _ s4 => wpAny (model X.prog X.w) X.A (throw (.ref a) : Sem Flow) (SP X pins D) X.xe s4) X.xe { s' with heap := h3 } := by
          rw [hf]
          refine HandSPX.setFlight_upZ fl3 fun h4 hh4 up4 => wpAny_throw (tk _ _ ?_)
          exact ⟨a, B, sI, pins, σ', H', cls, d, rfl, J, nb, (up.trans up3).trans up4, .inr (.inr (by rw [hs]; exact hh4)), na, os, ag, w⟩
        first
          | exact wpAny_bind (wpAny_pure (wpAny_bind fin))
          | exact wpAny_bind fin
      | @cons x c ts b₀ suite np pos' hds2 l2 hc hsu r ih =>
        intro w
        obtain ⟨b, hb1, hyes, hno⟩ := w
        refine wpAny_handleBy_cons (codeAny_handlers_test ?_) (by intro q; cases q)
        have LT : PySem.W.Looks (model X.prog X.w) h3 (typeOf (.ref a)) cls := fun A Q E s k q => wpAny_typeOf_ref (k _ _ he3) (by rw [hz3.1]; exact q)
        have LM := PySem.W.exm_one (M := model X.prog X.w) (J3.kIn) LT hb1
        have test : ∀ {Q : Value → Shared → Prop} {E : Value → Shared → Prop}, Q c { s' with heap := h3 } → wpAny (model X.prog X.w) (X.A.mark (some (.ref a))) (eval (.Name x np) X.env) Q E { s' with heap := h3 } := fun {Q E} q => by
          obtain ⟨hg, hdbg, hm | ⟨hm, hv, hnn⟩⟩ := hc
          · exact ld_glob (X := X.suite a ((a, oe3) :: (X.pn ++ pins))) S3 hg hm q hdbg
          · exact ld_blt (X := X.suite a ((a, oe3) :: (X.pn ++ pins))) S3 hg hm hv q hnn hdbg
        refine test (LM.here ?_)
        cases b with
        | true =>
          refine codeAny_handlers_suite ?_
          refine HandSPX.lands_againZ fl3 fun h4 fl4 up4 => ?_
          have J4 : Inv X pins σ' H' { s' with heap := h4 } := J.landed nb fl4.1 ((up.trans up3).trans up4) os ag
          obtain ⟨oe4, vs4, he4, hz4, hd4⟩ := fl4.there
          have S4 := J4.suite he4 hd4 na nL nF
          refine wpAny_mono ((hsu a oe4 cls d (X.pn ++ pins) hz4 ⟨_, hd4⟩).run [] _ _ H' _ S4 (hyes rfl a na)) (fun f s6 hsp => ?_) (fun _ _ z => False.elim z)
          cases f with
          | next =>
            obtain ⟨σ6, H6, S6, q6⟩ := hsp
            exact ⟨_, _, S6.unsuite ok, q6⟩
          | brk =>
            obtain ⟨σ6, H6, S6, q6⟩ := hsp
            exact ⟨_, _, S6.unsuite ok, q6⟩
          | cont =>
            obtain ⟨σ6, H6, S6, q6⟩ := hsp
            exact ⟨_, _, S6.unsuite ok, q6⟩
          | ret u =>
            obtain ⟨v6, σ6, H6, S6, r6, q6⟩ := hsp
            exact ⟨_, _, _, S6.unsuite ok, r6, q6⟩
        | false =>
          show wpAny _ X.A (handleBy (.ref a) X.env hds2) _ _ _
          exact ih (hno rfl)
      | @asx x n c i ts b₀ suite np pos' hds2 l2 hc hN hi hln hsu r ih =>
        intro w
        obtain ⟨b, hb1, hyes, hno⟩ := w
        have hloc : Loc X.env.scope n := .inl hln
        refine wpAny_handleBy_cons (codeAny_handlers_test ?_) (by intro q; cases q)
        have LT : PySem.W.Looks (model X.prog X.w) h3 (typeOf (.ref a)) cls := fun A Q E s k q => wpAny_typeOf_ref (k _ _ he3) (by rw [hz3.1]; exact q)
        have LM := PySem.W.exm_one (M := model X.prog X.w) (J3.kIn) LT hb1
        have test : ∀ {Q : Value → Shared → Prop} {E : Value → Shared → Prop}, Q c { s' with heap := h3 } → wpAny (model X.prog X.w) (X.A.mark (some (.ref a))) (eval (.Name x np) X.env) Q E { s' with heap := h3 } := fun {Q E} q => by
          obtain ⟨hg, hdbg, hm | ⟨hm, hv, hnn⟩⟩ := hc
          · exact ld_glob (X := X.suite a ((a, oe3) :: (X.pn ++ pins))) S3 hg hm q hdbg
          · exact ld_blt (X := X.suite a ((a, oe3) :: (X.pn ++ pins))) S3 hg hm hv q hnn hdbg
        refine test (LM.here ?_)
        cases b with
        | true =>
          refine codeAny_handlers_suite_as ?_
          refine HandSPX.lands_againZ fl3 fun h4 fl4 up4 => ?_
          have J4 : Inv X pins σ' H' { s' with heap := h4 } := J.landed nb fl4.1 ((up.trans up3).trans up4) os ag
          obtain ⟨oe4, vs4, he4, hz4, hd4⟩ := fl4.there
          have S4 := J4.suite he4 hd4 na nL nF
          refine store_ok (X := X.suite a ((a, oe4) :: (X.pn ++ pins))) (v := .ref a) S4 hN hi hloc rfl (fun s5 S5 => ?_) (.inr hln)
          refine wpAny_mono ((hsu a oe4 cls d (X.pn ++ pins) hz4 ⟨_, hd4⟩).run [] s5 _ H' _ S5 (hyes rfl a na)) (fun f s6 hsp => ?_) (fun _ _ z => False.elim z)
          have end_ : ∀ {σ6 : St} {H6 : Hp} {Q : Shared → Prop}, Inv (X.suite a ((a, oe4) :: (X.pn ++ pins))) [] σ6 H6 s6 → (∀ s7, Inv X pins (σ6.set i none) H6 s7 → Q s7) →
              wpAny (model X.prog X.w) X.A (do bindName X.env n .none; unbindBehindTheSuite X.env n pos') (fun _ s7 => Q s7) X.xe s6 := fun {σ6 H6 Q} S6 hq => gone_ok (S6.unsuite ok) hN hi hln hq
          cases f with
          | next =>
            obtain ⟨σ6, H6, S6, q6⟩ := hsp
            exact end_ S6 fun s7 J7 => ⟨_, _, J7, q6⟩
          | brk =>
            obtain ⟨σ6, H6, S6, q6⟩ := hsp
            exact end_ S6 fun s7 J7 => ⟨_, _, J7, q6⟩
          | cont =>
            obtain ⟨σ6, H6, S6, q6⟩ := hsp
            exact end_ S6 fun s7 J7 => ⟨_, _, J7, q6⟩
          | ret u =>
            obtain ⟨v6, σ6, H6, S6, r6, q6⟩ := hsp
            exact end_ S6 fun s7 J7 => ⟨_, _, _, J7, r6, q6⟩
        | false =>
          show wpAny _ X.A (handleBy (.ref a) X.env hds2) _ _ _
          exact ih (hno rfl)
    exact go hh w
  · cases f with
    | next =>
      obtain ⟨σ', H', J', q⟩ := hsp
      exact wpAny_execs_nil ⟨σ', H', J'.ofTry ok, q⟩
    | brk =>
      obtain ⟨σ', H', J', q⟩ := hsp
      exact ⟨σ', H', J'.ofTry ok, q⟩
    | cont =>
      obtain ⟨σ', H', J', q⟩ := hsp
      exact ⟨σ', H', J'.ofTry ok, q⟩
    | ret u =>
      obtain ⟨v, σ', H', J', r, q⟩ := hsp
      exact ⟨v, σ', H', J'.ofTry ok, r, q⟩
end
end L2
set_option Elab.async false
set_option linter.all false
set_option maxRecDepth 100000
set_option maxHeartbeats 4000000
namespace VV0
open PySem PySem.HandSPX PySem.Builtin PySem.Builtin.ObjectAttr
/-- the facts of a built-in base; its __new__ may be another one's (KeyError: LookupError's) -/
structure EB2 (B Bn newId initId : String) (bm : List Value) : Prop where
  ends : newId.endsWith ".__new__" = true
  owner : newId.dropRight 8 = Bn
  entry : entryFor table newId = some Builtin.«BaseException.__new__»
  quiet : newId.startsWith "lifetime." = false
  init : Slot B "__init__" initId
  initEntry : entryFor table initId = some Builtin.«BaseException.__init__»
  initSplit : splitId initId = some (B, "__init__")
  initKind : builtinKind initId = some .slot
  initRow : Manifest.signature? initId = some ⟨.positional, "*", B, .self, [⟨"args", .varPos, false⟩]⟩
  noStar : (B != "*") = true
  noStarN : (Bn != "*") = true
  newSplit : splitId newId = some (Bn, "__new__")
  newKind : builtinKind newId = some .builtinFn
  newRow : Manifest.signature? newId = some ⟨.any, Bn, Bn, .cls, [⟨"args", .varPos, false⟩, ⟨"kwargs", .varKw, false⟩]⟩
  hasB : bm.contains (.type B) = true
  hasN : bm.contains (.type Bn) = true
  noAttr : bm.contains (.type "AttributeError") = false
  noName : bm.contains (.type "NameError") = false
  canon : Manifest.canonical newId = Manifest.canonical "BaseException.__new__"
theorem EB2.of {B newId initId : String} {bm : List Value} (F : ExcBaseFacts B newId initId bm) : EB2 B B newId initId bm :=
  ⟨F.ends, F.owner, F.entry, F.quiet, F.init, F.initEntry, F.initSplit, F.initKind, F.initRow, F.noStar, F.noStar, F.newSplit, F.newKind, F.newRow, F.hasB, F.hasB, F.noAttr, F.noName, F.canon⟩
section
variable {M : Model} {A : Around} {E : Value → Shared → Prop} {h : Heap} {g : Array GenState} {d : Drawn} {t : Nat} {os : OsState}
variable {nm q : Str} {C N : Addr} {bs bm bmB : List Value} {hdct : Bool} {sn : List Str} {sub : List Value} {ab : Bool} {col : Option Bool} {dd : Option Addr} {k0 k1 k2 k3 k5 : Option Value} {B Bn newId initId : String}
theorem check_new_own (F : EB2 B Bn newId initId bmB) (hT : ∀ X : String, bm.contains (.type X) = bmB.contains (.type X)) {rest : List Value} {Q : Unit → Shared → Prop}
    (hC : h.get? C = some (excClassObj nm q C N bs bm hdct sn sub ab col dd k0 k1 k2 k3 k5 newId)) (hq : Q () ⟨h, g, d, t, os⟩) : wpAny M A (checkBuiltinCall newId ⟨.ref C :: rest, []⟩) Q E ⟨h, g, d, t, os⟩ := by
  have hcont : (Value.ref C :: bm).contains (.type Bn) = true := by rw [List.contains_cons, hT, F.hasN, Bool.or_true]
  have hstar := F.noStarN
  simp only [checkBuiltinCall, F.newKind, F.newSplit, F.newRow]
  repeat (first | refine wpAny_loadPart_at hC ?_ | (refine wpAny_isSubtype_exc hC ?_; rw [hcont]) | refine wpAny_staticBase_exc hC ?_ | refine wpAny_madeBy_exc hC ?_ | simp only [bne_self_eq_false, Bool.false_eq_true, if_false] | wp_step)
  exact hq
theorem check_init_own (F : EB2 B Bn newId initId bmB) (hT : ∀ X : String, bm.contains (.type X) = bmB.contains (.type X)) {e : Addr} {oe : Obj} {rest : List Value} {Q : Unit → Shared → Prop}
    (hC : h.get? C = some (excClassObj nm q C N bs bm hdct sn sub ab col dd k0 k1 k2 k3 k5 newId)) (he : h.get? e = some oe) (hcls : oe.cls = .ref C) (hq : Q () ⟨h, g, d, t, os⟩) :
    wpAny M A (checkBuiltinCall initId ⟨.ref e :: rest, []⟩) Q E ⟨h, g, d, t, os⟩ := by
  have hcB : (Value.ref C :: bm).contains (.type B) = true := by rw [List.contains_cons, hT, F.hasB, Bool.or_true]
  have hshort := F.noStar
  simp only [checkBuiltinCall, F.initKind, F.initSplit, F.initRow]
  repeat (first | (with_reducible refine wpAny_loadPart_at he ?_; rw [hcls]) | with_reducible refine wpAny_loadPart_at hC ?_ | (with_reducible refine wpAny_isSubtype_exc hC ?_; rw [hcB]) | wp_step)
  refine wpAny_onRaise ?_
  rw [show ∀ (a b : String) (n : Nat), Bind.check ⟨.positional, "*", B, .self, [⟨"args", .varPos, false⟩]⟩ a b n (List.map (fun x => x.fst) ({ pos := Value.ref e :: rest } : Args).kw) = pure () from
    fun a b n => check_star_args _ _ _ _ _ _]
  exact wpAny_pure hq
end

section
variable {prog : Program} {w : World} {A : Around} {E : Value → Shared → Prop} {R : Result → Shared → Prop} {h : Heap} {g : Array GenState} {d : Drawn} {t : Nat} {os : OsState}
variable {nm q : Str} {C N : Addr} {bs bm bmB : List Value} {hdct : Bool} {sn : List Str} {sub : List Value} {ab : Bool} {col : Option Bool} {dd : Option Addr} {k0 k1 k2 k3 k5 : Option Value} {B Bn newId initId : String}

theorem new_own (F : EB2 B Bn newId initId bmB) (hT : ∀ X : String, bm.contains (.type X) = bmB.contains (.type X)) {rest : List Value}
    (hC : h.get? C = some (excClassObj nm q C N bs bm hdct sn sub ab col dd k0 k1 k2 k3 k5 newId))
    (hq : R (.ok (.ret (.ref (h.objs.size + 1)))) ⟨(h.push { cls := .type "tuple", data := .seq rest.toArray }).push
      { cls := .ref C, data := .fields #[.ref h.objs.size, .none, .none, .none, .bool false, .none] }, g, d, t, os⟩) (hrest : rest.length ≤ sizeLine) :
    codeAny (model prog w) A (.builtin newId ⟨.ref C :: rest, []⟩) R ⟨h, g, d, t, os⟩ := by
  have hends := F.ends
  have hcB : (Value.ref C :: bm).contains (.type Bn) = true := by rw [List.contains_cons, hT, F.hasN, Bool.or_true]
  have hcA : (Value.ref C :: bm).contains (.type "AttributeError") = false := by rw [List.contains_cons, hT, F.noAttr]; rfl
  have hcN : (Value.ref C :: bm).contains (.type "NameError") = false := by rw [List.contains_cons, hT, F.noName]; rfl
  refine codeAny_builtinAt F.entry ?_
  unfold Builtin.«BaseException.__new__»
  refine wpAt_bind ?_
  show wpAt _ _ _ (stack >>= _) _ _ _
  refine wpAt_bind (wpAt_stack fun p below => wpAt_of_wpAny ?_)
  wp_walk
  refine wpAt_of_wpAny ?_
  rw [F.owner]
  repeat (first | with_reducible refine wpAny_madeHere_exc F.canon hC ?_ | with_reducible refine wpAny_loadPart_at hC ?_ | (with_reducible refine wpAny_isSubtype_exc hC ?_; first | rw [hcB] | rw [hcA] | rw [hcN]) | wp_step)
  show R _ _
  rw [Heap.size_push]
  exact hq

theorem type_call_own (F : EB2 B Bn newId initId bmB) (hT : ∀ X : String, bm.contains (.type X) = bmB.contains (.type X)) {rest : List Value} {fI : Addr} {Q : Fin → Shared → Prop}
    (hC : h.get? C = some (excClassObj nm q C N bs bm hdct sn sub ab col dd k0 k1 k2 k3 k5 newId))
    (hi : W.Looks (model prog w) h (typeLookup (.ref C) "__init__") (some (.ref fI))) (hb : ∀ self, W.Looks (model prog w) h (bindSpecial (.ref fI) self) (.ref fI, [self])) (hrest : rest.length ≤ sizeLine)
    (hq : codeAny (model prog w) A (.call (.ref fI) ⟨.ref (h.objs.size + 1) :: rest, []⟩)
      (fun r s' => match r with | .ok (.ret v) => v = .none ∧ Q (.done (.ret (.ref (h.objs.size + 1)))) s' | .ok _ => False | .error e => E e s')
      ⟨(h.push (W.kdv_tup rest)).push (excO C h.objs.size), g, d, t, os⟩) :
    wpAny (model prog w) A (Builtin.«type.__call__» ⟨.ref C :: rest, []⟩) Q E ⟨h, g, d, t, os⟩ := by
  repeat (first | with_reducible refine wpAny_loadPart_at hC ?_ | with_reducible refine wpAny_madeBy_exc hC ?_ | wp_step)
  refine codeAny_call_builtin_code (Code.quiet_builtin _ F.quiet) (check_new_own F hT hC ?_)
  refine new_own F hT hC ?_ hrest
  show wpAny _ _ _ _ _ _
  have k : ∀ b o, h.get? b = some o → ((h.push (W.kdv_tup rest)).push (excO C h.objs.size)).get? b = some o := fun b o e => Heap.get?_push_of_some _ (Heap.get?_push_of_some _ e)
  have hC₁ := k _ _ hC
  have hget : ((h.push (W.kdv_tup rest)).push (excO C h.objs.size)).get? (h.objs.size + 1) = some (excO C h.objs.size) := by heap_get
  have hcC : (Value.ref C :: bm).contains (.ref C) = true := by simp
  have i1 := hi.keeps k
  have b1 := (hb (.ref (h.objs.size + 1))).keeps k
  unfold isInstance
  repeat (first | with_reducible refine wpAny_loadPart_at hget ?_ | (with_reducible refine wpAny_isSubtype_exc hC₁ ?_; rw [hcC]) | wp_step)
  show wpAny _ _ (typeLookup (.ref C) _) _ _ _
  refine i1.at ?_
  refine wpAny_holding (wpAny_bind (b1.at ?_))
  refine wpAny_bind (wpAny_call (codeAny_mono hq fun r s' z => ?_))
  rcases r with e | (v | _ | _ | _) <;> first | exact z | exact z.elim | skip
  obtain ⟨rfl, z⟩ := z
  first
    | exact wpAny_pure (wpAny_pure z)
    | (wp_walk; exact z)

theorem call_own (F : EB2 B Bn newId initId bmB) (hT : ∀ X : String, bm.contains (.type X) = bmB.contains (.type X)) {rest : List Value} {fI : Addr}
    (hC : h.get? C = some (excClassObj nm q C N bs bm hdct sn sub ab col dd k0 k1 k2 k3 k5 newId))
    (hi : W.Looks (model prog w) h (typeLookup (.ref C) "__init__") (some (.ref fI))) (hb : ∀ self, W.Looks (model prog w) h (bindSpecial (.ref fI) self) (.ref fI, [self])) (hrest : rest.length ≤ sizeLine)
    (hq : codeAny (model prog w) (A.under (.builtin "type.__call__" ⟨.ref C :: rest, []⟩)) (.call (.ref fI) ⟨.ref (h.objs.size + 1) :: rest, []⟩) (W.InitBack (h.objs.size + 1) R)
      ⟨(h.push (W.kdv_tup rest)).push (excO C h.objs.size), g, d, t, os⟩) :
    codeAny (model prog w) A (.call (.ref C) ⟨rest, []⟩) R ⟨h, g, d, t, os⟩ := by
  have f1 := tc_lookup
  have f2 := tc_bind (.ref C)
  have hTy : (⟨h, g, d, t, os⟩ : Shared).TypeIs (.ref C) "type" := ⟨_, hC, rfl⟩
  refine codeAny_of_tree ?_
  show wpAny _ _ (callAny (.ref C) _) _ _ _
  repeat (any_goals (first | assumption | with_reducible refine wpAny_loadPart_at hC ?_ | wp_step))
  refine ⟨rfl, ?_⟩
  refine codeAny_call_builtin_at (Code.quiet_builtin _ (by decide +kernel)) entry_typeCall (wpAny_check_type_call_sub hC (type_call_own F hT hC hi hb hrest ?_))
  refine codeAny_mono hq fun r s' z => ?_
  rcases r with e | (v | _ | _ | _) <;> exact z

/-- ValueError.__init__(e, ..): the args are laid anew -/
theorem init_base (F : EB2 B Bn newId initId bmB) (hT : ∀ X : String, bm.contains (.type X) = bmB.contains (.type X)) {e t0 : Addr} {rest : List Value}
    (hC : h.get? C = some (excClassObj nm q C N bs bm hdct sn sub ab col dd k0 k1 k2 k3 k5 newId)) (he : h.get? e = some (excO C t0)) (hrest : rest.length ≤ sizeLine)
    (hq : ∀ h' t1, (∀ b o, b ≠ e → h.get? b = some o → h'.get? b = some o) → h'.get? e = some (excO C t1) → R (.ok (.ret .none)) ⟨h', g, d, t, os⟩) :
    codeAny (model prog w) A (.call (.builtin initId) ⟨.ref e :: rest, []⟩) R ⟨h, g, d, t, os⟩ := by
  refine codeAny_call_builtin F.init.plain F.initEntry (check_init_own F hT hC he rfl ?_)
  wp_walk
  refine hq _ h.objs.size (fun b o hb ho => ?_) ?_
  · rw [Heap.get?_update_other _ _ (Ne.symm hb)]
    exact Heap.get?_push_of_some _ ho
  · rw [Heap.get?_update_self _ (Heap.get?_push_of_some _ he) rfl]
    rfl
end

structure TlOk (tl : List Value) : Prop where
  pass : ∀ self, refuseLoop self "__setattr__" tl = pure ()
  obj : tl.contains (.type "object") = true
section
variable {prog : Program} {w : World} {A : Around} {E : Value → Shared → Prop} {R : Result → Shared → Prop} {hp : Heap} {g : Array GenState} {d : Drawn} {t : Nat} {os : OsState}
theorem exc_osaT {tl : List Value} (T : TlOk tl) {K : W.Frag} {name : Str} {tk : Tok} {v : Value} {x C : Addr} {fv : Array Value} {cd : ClassData}
    (X : K.In hp) (hx : hp.get? x = some { cls := .ref C, data := .fields fv }) (hcd : W.clsIn K C = some cd) (hm : cd.mro = .ref C :: tl) (hh : cd.hasDict = true) (ha : W.findIn K (.ref C) name = some none)
    (hq : ∀ h' tk' dx, (∀ b o, b ≠ x → hp.get? b = some o → h'.get? b = some o) → hp.objs.size ≤ dx → dx ≠ x → h'.get? x = some { cls := .ref C, dict := some dx, data := .fields fv } →
      h'.Ns1 dx (fun y => if y = name then some v else none) → R (.ok (.ret .none)) ⟨h', g, d, tk', os⟩) :
    codeAny (model prog w) A (.call (.builtin "object.__setattr__") ⟨[.ref x, .str name tk, v], []⟩) R ⟨hp, g, d, t, os⟩ := by
  have I : W.InstAt hp x { cls := .ref C, data := .fields fv } C none := ⟨hx, rfl, rfl, trivial⟩
  have SF := F.store_object
  have ne : cd.mro.isEmpty = false := by rw [hm]; rfl
  have hob : cd.mro.contains (.type "object") = true := by rw [hm, List.contains_cons, T.obj, Bool.or_true]
  have hxs : x ≠ hp.objs.size := Nat.ne_of_lt (Heap.lt_size hx)
  have sub : W.Looks (model prog w) hp (isInstance (.ref x) (.type "object")) true := I.type.andThen (W.looks_mroIn X (by unfold W.mroIn; rw [hcd, Option.bind_some, if_neg (by rw [ne]; decide), hob]))
  refine codeAny_call_builtin SF.slot.plain SF.entry (@W.check_slot (model prog w) _ _ ⟨hp, g, d, t, os⟩ "object.__setattr__" "object" "__setattr__" (.ref x) [.str name tk, v] [] _ SF.kind SF.split sub (SF.args (.ref x) (.str name tk) v) ?_)
  have hmr : W.Looks (model prog w) hp (mroOf (.ref C)) cd.mro := (W.looks_clsIn X hcd).andThen .now
  have L3 : W.Looks (model prog w) hp (storeTaker? none) none := .now
  have hcls : W.Looks (model prog w) hp (classData C) cd := W.looks_clsIn X hcd
  rw [W.osa_eq, refuse_eq]
  refine wpAny_bind (wpAny_bind (I.type.at (wpAny_bind (hmr.at ?_))))
  rw [hm, refuseLoop_ref, T.pass]
  refine wpAny_pure (wpAny_bind (I.type.at (wpAny_bind ((W.looks_findIn X ha).at (wpAny_bind (L3.at ?_))))))
  show wpAny _ _ (storeInOwnDict (.ref x) (.ref C) (.str name tk) name v false) _ _ _
  obtain ⟨nm, bs, mro, ns, qn, hd, sn, sb, ab, col, del⟩ := cd
  dsimp only at hh
  subst hh
  unfold storeInOwnDict ownDictForStores
  repeat (first | with_reducible refine store_in_new ?_ ?_ | with_reducible refine wpAny_loadPart_at hx ?_ | with_reducible refine hcls.at ?_ | wp_step)
  · exact ⟨_, #[], _, (Heap.get?_update_ne _ _ _ _ hxs.symm).trans (Heap.get?_push_at rfl rfl), rfl, fun e he => absurd he (by simp), fun _ => rfl⟩
  · intro h' tk' hn' hs
    have hx₁ : (hp.push { cls := .type "dict", data := .dict #[] }).get? x = some { cls := .ref C, data := .fields fv } := Heap.get?_push_of_some _ hx
    refine hq h' tk' hp.objs.size (fun b o hb ho => ?_) (Nat.le_refl _) hxs.symm ?_ hn'
    · exact (hs.2 b (Nat.ne_of_lt (Heap.lt_size ho))).trans ((Heap.get?_update_ne _ _ _ _ hb).trans (Heap.get?_push_of_some _ ho))
    · exact (hs.2 x hxs).trans (Heap.get?_update_self _ hx₁ rfl)
end
end VV0
namespace L2
open PySem PySem.Spec PyProof.Rows
structure OexT (K : PySem.W.Frag) (C : Addr) (B newId initId : String) (tl : List Value) : Prop where
  base : ∃ Bn, VV0.EB2 B Bn newId initId tl
  tlok : VV0.TlOk tl
  cls : ∃ nm q N bs sn sub ab col dd k0 k1 k2 k3 k5, K.lookup C = some (excClassObj nm q C N bs tl true sn sub ab col dd k0 k1 k2 k3 k5 newId)
  sa : PySem.W.findIn K (.ref C) "__setattr__" = some (some (.builtin "object.__setattr__"))
  exC : PySem.W.subIn K (.ref C) (.type "BaseException") = some true
  tyC : PySem.W.typeIn K (.ref C) = some (.type "type")
  kC : PySem.W.keepIn K (.ref C) = true
section
variable {X : Cx} {pins : List (Addr × Obj)} {σ : St} {H : Hp} {s : Shared} {a C dx : Addr} {f : Str} {y : V} {u : Value} {fs : List (Str × V)} {Q : Unit → Shared → Prop} {E : Value → Shared → Prop} {A : Around} {B newId initId : String} {tl : List Value}
theorem ost_newT (T : OexT X.K C B newId initId tl) (I : Inv X pins σ H s) (e : H a = some (exo a C none)) (hno : PySem.W.findIn X.K (.ref C) f = some none) (ry : RelV y u)
    (h : ∀ dx s', H dx = none → dx ≠ a → Inv X pins σ (upd (upd H dx (exd dx [(f, y)])) a (exo a C (some dx))) s' → Q () s') : wpAny (model X.prog X.w) A (setAttr (.ref a) f u) Q E s := by
  obtain ⟨nm, q, N, bs, sn, sub, ab, col, dd, k0, k1, k2, k3, k5, hC⟩ := T.cls
  have hcl : PySem.W.clsIn X.K C = some { name := nm, bases := bs, mro := .ref C :: tl, ns := N, qualname := q, hasDict := true, slotNames := sn, subclasses := sub, abstract := ab, collection := col, hasDel := false } := by unfold PySem.W.clsIn; rw [hC] <;> rfl
  obtain ⟨t1, ho⟩ := exo_at I.hok e
  obtain ⟨hp, g, d, t, os⟩ := s
  refine PySem.W.set_plain I.kIn (ox := { cls := .ref C, dict := none, data := .fields #[.ref t1, .none, .none, .none, .bool false, .none] }) (od := none) ⟨ho, rfl, rfl, trivial⟩ T.sa ?_
  refine VV0.exc_osaT T.tlok I.kIn ho hcl rfl rfl hno (fun h' tk' dx k dn dne hx hn => ?_)
  have hnd : H dx = none := I.hok.fresh dn
  have nd : ∀ {b : Addr} {o : Obj}, hp.get? b = some o → b ≠ dx := fun {b o} q => Nat.ne_of_lt (Nat.lt_of_lt_of_le (Heap.lt_size q) dn)
  have na : ∀ {b : Addr}, H b = none → b ≠ a := fun {b} n z => by
    rw [z, e] at n
    cases n
  have Un1 : Un X.fs [] H (upd (upd H dx (exd dx [(f, y)])) a (exo a C (some dx))) hp h' := {
    keep := fun b o q n _ _ => k b o (na n) q
    slot := fun b o q n _ _ => ⟨o.slots, k b o (na n) q⟩
    free := fun b o q n _ => by rw [upd_ne (na n), upd_ne (nd q)]; exact n
    there := fun b o q _ => by
      by_cases hb : b = a
      · exact ⟨_, by rw [hb]; exact hx⟩
      · exact ⟨o, k b o hb q⟩
    tups := fun b xs q => by rw [upd_ne (at_ne e q exo_tup), upd_ne (ne_of_none q hnd)]; exact q
    frzs := fun b o v q => by rw [upd_ne (at_ne e q exo_frz), upd_ne (ne_of_none q hnd)]; exact q
    tbls := fun b ps q => ⟨#[], by rw [upd_ne (at_ne e q exo_tbl), upd_ne (ne_of_none q hnd), q]; simp⟩ }
  refine h dx _ hnd dne (I.un (t' := tk') Un1 fun b o q => ?_)
  by_cases hb : b = a
  · subst hb
    rw [upd_same] at q
    cases q
    exact exo_ok hx
  · rw [upd_ne hb] at q
    by_cases hd : b = dx
    · subst hd
      rw [upd_same] at q
      cases q
      exact exd_ok hn (relO_put (fs := []) ry fun g => True.intro)
    · rw [upd_ne hd] at q
      exact (I.hok b o q).stay (fun c v hc z => k c v (by
          rcases hc with hc | hc
          · rw [hc]
            exact hb
          · exact at_ne e hc exo_own) z)
        (fun c hc => by rw [upd_ne (at_ne e hc exo_own), upd_ne (ne_of_none hc hnd)]; exact hc) (fun c xs hc => by rw [upd_ne (at_ne e hc exo_tup), upd_ne (ne_of_none hc hnd)]; exact hc)
theorem oinit_okT {us : List Value} {Q : Value → Shared → Prop} (T : OexT X.K C B newId initId tl) (I : Inv X pins σ H s) (e : H a = some (exo a C none)) (hl : us.length ≤ sizeLine) (h : ∀ s', Inv X pins σ H s' → Q .none s') :
    wpAny (model X.prog X.w) A (call (.builtin initId) (.ref a :: us)) Q E s := by
  obtain ⟨nm, q, N, bs, sn, sub, ab, col, dd, k0, k1, k2, k3, k5, hC⟩ := T.cls
  obtain ⟨t1, ho⟩ := exo_at I.hok e
  obtain ⟨hp, g, d, t, os⟩ := s
  refine wpAny_call (VV0.init_base T.base.choose_spec (fun _ => rfl) (I.kIn _ _ hC) ho hl fun h' t2 k hx => ?_)
  have J := I.write (t' := t) (x := a) (e := a) (o := exo a C none) (by rw [e]; exact True.intro) (.inl rfl) k ⟨_, hx⟩ (exo_ok hx)
  have eu : upd H a (exo a C none) = H := by
    funext b
    by_cases hb : b = a
    · rw [hb, upd_same, e]
    · rw [upd_ne hb]
  rw [eu] at J
  exact h _ J
end
def tVeT (K : PySem.W.Frag) (B newId initId : String) (tl : List Value) (ta : TA) : TE := fun σ H Q => ta σ H fun vs H1 => ∃ (a C : Addr) (ws : List V), vs = .ref a :: ws ∧ ws.length ≤ 1000 ∧ OexT K C B newId initId tl ∧ H1 a = some (exo a C none) ∧ Q .non H1
def tOstT (K : PySem.W.Frag) (B newId initId : String) (tl : List Value) (f : Str) (to te : TE) : TS := fun D σ H => te σ H fun y H1 => to σ H1 fun x H2 => ∃ a C : Addr, x = .ref a ∧ OexT K C B newId initId tl ∧ PySem.W.findIn K (.ref C) f = some none ∧
  (H2 a = some (exo a C none) ∧ ∀ dx, H2 dx = none → dx ≠ a → D.nx σ (upd (upd H2 dx (exd dx [(f, y)])) a (exo a C (some dx))))
section
variable {X : Cx} {o e : Expr} {es : List Expr} {to te : TE} {ta : TA} {f : Str} {p p' p1 p2 pos : Pos} {B newId initId : String} {tl : List Value}
theorem pe_binit {pl : Sem Bool} {nB : Str} (hg : Gl X nB) (hm : X.mg nB = none) (hbt : bootBuiltins nB = some (.type B)) (hn1 : nB ≠ "__name__") (hn2 : (nB == ("__debug__" : Str)) = false) (hty : typeOf (.type B) = pure (.type "type")) (vV : PySem.W.findCls X.K (.type B) (.type "type") "__init__" = some (.val (.builtin initId))) (hst : PySem.Manifest.isStub B = false) (hhi : PySem.W.handedIn (Value.builtin initId) = true) (ha : PA X (e :: es) ta)
    (hc : eval (.Call (.Attribute (.Name nB p1) "__init__" p2) (e :: es) [] pos) X.env = (do
      let ov ← eval (.Name nB p1) X.env
      standAt p2.atName
      let (f, first) ← holding [ov] (getMethod ov "__init__" pl)
      callWith pos f first (backTo pos (starEach (e :: es) X.env)) (backToKw pos (keywordEach [] X.env))) := by rfl)
    (he : starEach (e :: es) X.env = (false, eval e X.env) :: starEach es X.env := by rfl) (hpl : (backTo pos (starEach es X.env)).any (·.1) = false := by rfl) :
    PE X (.Call (.Attribute (.Name nB p1) "__init__" p2) (e :: es) [] pos) (tVeT X.K B newId initId tl ta) := by
  refine ⟨fun pins s σ H Q I h => ?_⟩
  refine PySem.W.methodCall_KW (ld_blt I hg hm hbt ?_ hn1 hn2) hc
  obtain ⟨m, fr⟩ := I.fr
  refine PySem.W.method_type fr I.ok.mod.kin hty hst vV hhi ?_
  show wpAny _ _ (callWith pos (Value.builtin initId) [] (backTo pos (starEach (e :: es) X.env)) []) _ _ _
  refine PyProof.Rows.callWith_method1 (thn (ha.run pos pins _ σ H _ (I.tok _) h) fun us s1 ⟨vs, H1, I1, r1, a, C, ws, ev, hl, T, ea, q⟩ => ?_) he hpl
  subst ev
  cases r1 with
  | @cons _ u0 _ ur ra rw' =>
    obtain rfl : u0 = Value.ref a := ra
    have hlen : ur.length ≤ sizeLine := by
      rw [← Paired.length rw', sizeLine_eq]
      omega
    exact oinit_okT T I1 ea hlen fun s' J => ⟨.non, H1, J, rfl, q⟩
theorem ps_ostT (ho : PE X o to) (he : PE X e te) (hs : swapsWith e (some (.Attribute o f p')) pos.line X.env = pure false := by rfl) : PS X (.Assign [.Attribute o f p'] e pos) (tOstT X.K B newId initId tl f to te) := by
  refine ⟨fun pins s σ H D I h => ?_⟩
  refine plainObj_wpAny_Assign_Attribute (thn (he.run pins s σ H _ I h) fun v s1 ⟨y, H1, I1, r1, q1⟩ => thn (ho.run pins s1 σ H1 _ I1 q1) fun u s2 ⟨x, H2, I2, r2, a, C, ex, T, hno, q⟩ => ?_) hs
  subst ex
  obtain rfl : u = Value.ref a := r2
  obtain ⟨ea, q⟩ := q
  exact ost_newT T I2 ea hno r1 fun dx s' n ne J => ⟨σ, _, J, q dx n ne⟩
theorem pmk_oexT {CX : CXT} {x : Str} {C fI : Addr} {k : Nat} {fd : FuncData} {ps : List Str} {sp : Sp} {ds : List Value} {dvs : List V} (T : OexT X.K C B newId initId tl) (iC : PySem.W.findIn X.K (.ref C) "__init__" = some (some (.ref fI))) (tI : PySem.W.typeIn X.K (.ref fI) = some (.type "function"))
    (F1 : FnOk X.prog X.w X.K X.mg X.base CX k fI fd ps sp) (hr : Room (k + 1) X.A) (hb : Binds X.K fd ps ds) (hd : Vals dvs ds) (hx : Passes CX X (fun _ _ _ => False)) (hg : Gl X x) (hm : X.mg x = some (.ref C)) (ha : PA X (e :: es) ta)
    (hdb : (x == ("__debug__" : Str)) = false := by decide) (he : starEach (e :: es) X.env = (false, eval e X.env) :: starEach es X.env := by rfl) (hpl : (backTo pos (starEach es X.env)).any (·.1) = false := by rfl) :
    PMk X (.Call (.Name x p) (e :: es) [] pos) (tMkO C sp dvs ta) := by
  intro pins s σ H Q I h
  obtain ⟨nm, q, N, bs, sn, sub, ab, col, dd, k0, k1, k2, k3, k5, hC⟩ := T.cls
  refine wpAny_Call_Name_kw (ld_glob I hg hm ?_ hdb)
  refine PySem.W.callWith_K (h₀ := X.base) I.ok.mod.kin T.kC (thn (ha.run pos pins s σ H _ I h) fun us s1 ⟨vs, H1, I1, r1, hz, q1⟩ => ⟨I1.kIn, ?_⟩) he hpl
  show wpAny _ _ (call (.ref C) us) _ _ _
  obtain ⟨hp, g, dr, tk, os⟩ := s1
  have hsz : hp.objs.size ≤ hp.objs.size + 1 := Nat.le_succ _
  have hn : H1 (hp.objs.size + 1) = none := I1.hok.fresh hsz
  have hq := q1 (hp.objs.size + 1) hn
  have kk : ∀ b o, hp.get? b = some o → ((hp.push (PySem.W.kdv_tup us)).push (PySem.HandSPX.excO C hp.objs.size)).get? b = some o := fun b o e => Heap.get?_push_of_some _ (Heap.get?_push_of_some _ e)
  have hget : ((hp.push (PySem.W.kdv_tup us)).push (PySem.HandSPX.excO C hp.objs.size)).get? (hp.objs.size + 1) = some (PySem.HandSPX.excO C hp.objs.size) := by heap_get
  have I2 : Inv X pins σ (upd H1 (hp.objs.size + 1) (exo (hp.objs.size + 1) C none)) ⟨(hp.push (PySem.W.kdv_tup us)).push (PySem.HandSPX.excO C hp.objs.size), g, dr, tk, os⟩ :=
    I1.laid (t' := tk) (a := hp.objs.size + 1) (o := exo (hp.objs.size + 1) C none) (h' := (hp.push (PySem.W.kdv_tup us)).push (PySem.HandSPX.excO C hp.objs.size)) kk hsz (exo_ok hget)
  have r2 : Vals (V.ref (hp.objs.size + 1) :: (vs ++ dvs)) (Value.ref (hp.objs.size + 1) :: (us ++ ds)) := .cons rfl (r1.append hd)
  have hl : (Value.ref (hp.objs.size + 1) :: us ++ ds).length = ps.length := by
    have e := r2.length
    rw [F1.len _ _ _ _ hq] at e
    exact e.symm
  have hus : us.length ≤ sizeLine := by
    rw [← Paired.length r1, sizeLine_eq]
    omega
  refine wpAny_call (VV0.call_own T.base.choose_spec (fun _ => rfl) (I1.kIn _ _ hC) (PySem.W.looks_findIn I1.kIn iC) (fun self => PySem.W.bind_fn I1.kIn self tI) hus
    (codeAny_mono (F1.run _ X.stack _ _ ⟨Value.ref (hp.objs.size + 1) :: us, []⟩ (Value.ref (hp.objs.size + 1) :: (us ++ ds)) _ _ (fun _ _ _ => False) (hr.make C us []) (I2.env0.make C us []) (hb _ (Value.ref (hp.objs.size + 1) :: us) I2.kIn hl) r2 hq) fun r s' hq' => ?_))
  cases r with
  | error er => exact hx pins σ _ _ er s' I2 hq'
  | ok fl =>
    cases fl with
    | ret u =>
      obtain ⟨v, H2, os2, bare2, un2, hok2, rv, ev, d, fs, ea, ed, hd1, q2⟩ := hq'
      subst ev
      obtain ⟨h2, g2, d2, t2, os'⟩ := s'
      exact ⟨rv, mk_end (raises_own T.exC T.tyC) I1 hsz kk un2 hok2 os2 bare2 ea ed hd1 q2⟩
    | next => exact False.elim hq'
    | brk => exact False.elim hq'
    | cont => exact False.elim hq'
end
end L2
namespace L2
open PySem PySem.Spec PyProof.Rows
/-- the promise of an own __init__(self, x): B.__init__(self, x); self.f = x -/
def spErr (C : Addr) (f : Str) : Sp := fun vs H Q _ => ∃ (a : Addr) (v : V), vs = [.ref a, v] ∧ H a = some (exo a C none) ∧ ∀ dx, H dx = none → dx ≠ a → Q .non (upd (upd H dx (exd dx [(f, v)])) a (exo a C (some dx)))
end L2
namespace U
open PySem PySem.Spec PyProof.Rows L2
/-- raise C(e) -/
def hRaiseV (cls : Value) (f : Str) (fd : DTE) : DTS := fun D δ M => gCons fd gNil δ M fun ds M1 => ∃ y, ds = [y] ∧ ∃ M2, Sub M2 M1 ∧ D.ex cls [(f, y)] M2
theorem raiseV_li {K : PySem.W.Frag} {F W : Addr → Prop} {M : Mm} {H : Hp} {C : Addr} {f : Str} {fd : DTE} {δ : De} {σ : L2.St} {Ed : DX} {E : XK} (ev : EnvR K W H δ σ) (s : Stt K F W M H) (kx : KX K F W H Ed E)
    (h : gCons fd gNil δ M fun ds M1 => ∃ y, ds = [y] ∧ ∃ M2, Sub M2 M1 ∧ Ed (.ref C) [(f, y)] M2) : tMkO C (spErr C f) [] (Li (rA K) K (gCons fd gNil)) σ H E := by
  refine ⟨δ, F, W, M, _, ev, s, h, fun vs H1 W1 ds M1 g1 s1 r1 ⟨y, e, M2, sb, q⟩ => ?_⟩
  subst e
  obtain ⟨v, rfl, r⟩ := RDs.one r1
  refine ⟨by simp, fun a ha => ⟨a, v, rfl, upd_same, fun dx hd hne => ?_⟩⟩
  have hd1 : H1 dx = none := by rw [upd_ne hne] at hd; exact hd
  refine ⟨rfl, dx, [(f, v)], upd_same, by rw [upd_ne hne, upd_same], hd1, ?_⟩
  have eH : upd (del (upd (upd (upd H1 a (exo a C none)) dx (exd dx [(f, v)])) a (exo a C (some dx))) a) dx (.xd [(f, v)]) = upd H1 dx (.xd [(f, v)]) := by
    funext b
    by_cases h1 : b = dx
    · rw [h1, upd_same, upd_same]
    · rw [upd_ne h1, upd_ne h1]
      by_cases h2 : b = a
      · rw [h2, del_same, ha]
      · rw [del_ne h2, upd_ne h2, upd_ne h1, upd_ne h2]
  rw [eH]
  have hF : ¬ F dx := s1.freeF hd1
  obtain ⟨s3, g3⟩ := (s1.addF hd1 (.xd [(f, v)])).endW hF (by intro o e; rw [upd_same] at e; cases e; exact trivial)
  have g := (grow_new (o := .xd [(f, v)]) s1 hd1).trans g3
  exact kx _ (some dx) _ (wadd W1 dx) [(f, y)] M2 (g1.trans g) (s3.forget sb) ⟨by simp, [(f, v)], .inl rfl, upd_same, .cons (r.mono g) .nil⟩ q
end U
namespace U
open PySem PySem.Spec PyProof.Rows L2
section
variable {X : Cx} {B newId initId : String} {tl : List Value} {C fI : Addr} {k : Nat} {fd : FuncData} {x f : Str} {e : Expr} {fe : DTE} {p pos pos' : Pos}
theorem z_raiseV (hc : X.calm = true) (T : OexT X.K C B newId initId tl) (iC : PySem.W.findIn X.K (.ref C) "__init__" = some (some (.ref fI))) (tI : PySem.W.typeIn X.K (.ref fI) = some (.type "function"))
    (F1 : FnOk X.prog X.w X.K X.mg X.base CX0 k fI fd ["self", f] (spErr C f)) (hr : Room (k + 1) X.A) (hb : Binds X.K fd ["self", f] []) (hg : Gl X x) (hm : X.mg x = some (.ref C)) (he : DE X e fe)
    (hx : Passes CX0 X (fun _ _ _ => False)) (hdb : (x == ("__debug__" : Str)) = false := by decide) (hst : starEach [e] X.env = (false, eval e X.env) :: starEach [] X.env := by rfl) (hpl : (backTo pos (starEach [] X.env)).any (·.1) = false := by rfl) :
    DS X (.Raise (some (.Call (.Name x p) [e] [] pos)) none pos') (hRaiseV (.ref C) f fe) :=
  ps_imp (ps_raise hc (EXm.takes X) (pmk_oexT (ds := []) (dvs := []) T iC tI F1 hr hb .nil hx hg hm (d_cons (hs := hst) he d_nil) hdb hst hpl)) fun D σ H ⟨δ, F, W, M, Dd, ev, s, h, k⟩ => raiseV_li ev s k.ex h
end
end U
set_option maxRecDepth 100000
namespace VW0
open PySem PySem.F PySem.Builtin PySem.Builtin.ObjectAttr
structure Passes (tl : List Value) : Prop where
  passes : ∀ self, refuseLoop self "__setattr__" tl = pure ()
end VW0
set_option Elab.async false
set_option linter.all false
set_option maxRecDepth 100000
set_option maxHeartbeats 2000000
namespace U
open PySem PySem.Spec PyProof.Rows L2
abbrev Th := Addr → Value → Option Addr → DTS
/-- a caught exception as a value -/
def ExD (a : Addr) (fs : List (Str × Da)) (x : Da) : Option Addr → Prop
  | none => fs = [] ∧ x = .ref a
  | some dd => fs ≠ [] ∧ x = .exn a dd fs
def xMany2 (K : PySem.W.Frag) (n : Nat) (D : DEnds) : List (Value × Option Nat × Th) → DX
  | [] => D.ex
  | (c, none, th) :: r => fun cls fs M => ∃ b, PySem.W.exmOne K cls c = some b ∧ (b = true → ∀ a d, th a cls d { D with ex := X0 } (List.replicate n none) M) ∧ (b = false → xMany2 K n D r cls fs M)
  | (c, some i, th) :: r => fun cls fs M => ∃ b, PySem.W.exmOne K cls c = some b ∧
      (b = true → ∀ a d x, ExD a fs x d → th a cls d { nx := fun δ M => D.nx (δ.set i none) M, rt := D.rt, bk := fun δ M => D.bk (δ.set i none) M, ct := fun δ M => D.ct (δ.set i none) M, ex := X0 } ((List.replicate n none).set i (some x)) M) ∧
      (b = false → xMany2 K n D r cls fs M)
def hTry2 (K : PySem.W.Frag) (n : Nat) (tb : DTS) (l : List (Value × Option Nat × Th)) : DTS := fun D δ M => tb { D with ex := xMany2 K n D l } δ M
inductive HdsD2 (X : Cx) : List ExceptHandler → List (Value × Option Nat × Th) → Prop
  | nil : HdsD2 X [] []
  | cons {x : Str} {c : Value} {th : Th} {b₀ : Stmt} {suite : List Stmt} {np pos' : Pos} {hds : List ExceptHandler} {l : List (Value × Option Nat × Th)} (hc : Names X x c)
      (hsu : ∀ (a : Addr) (oe : Obj) (cls : Value) (d : Option Addr) (pn : List (Addr × Obj)), Zc cls d oe → (∃ vs, oe.data = .fields vs) → DB (X.suite a ((a, oe) :: pn)) (b₀ :: suite) (th a cls d)) (r : HdsD2 X hds l) :
      HdsD2 X (.ExceptHandler (some (.Name x np)) none (b₀ :: suite) pos' :: hds) ((c, none, th) :: l)
  | asx {x n : Str} {c : Value} {i : Nat} {th : Th} {b₀ : Stmt} {suite : List Stmt} {np pos' : Pos} {hds : List ExceptHandler} {l : List (Value × Option Nat × Th)} (hc : Names X x c) (hN : X.N.Nodup) (hi : X.N[i]? = some n) (hln : X.env.kindOf n = some .local)
      (hsu : ∀ (a : Addr) (oe : Obj) (cls : Value) (d : Option Addr) (pn : List (Addr × Obj)), Zc cls d oe → (∃ vs, oe.data = .fields vs) → DB (X.suite a ((a, oe) :: pn)) (b₀ :: suite) (th a cls d)) (r : HdsD2 X hds l) :
      HdsD2 X (.ExceptHandler (some (.Name x np)) (some n) (b₀ :: suite) pos' :: hds) ((c, some i, th) :: l)
def upH2 (K : PySem.W.Frag) (l : List (Value × Option Nat × Th)) : List (Value × Option Nat × (Addr → Value → Option Addr → TS)) := l.map fun p => (p.1, p.2.1, fun a cls d => LS K (fun _ _ _ => False) (p.2.2 a cls d))
theorem HdsD2.ok {X : Cx} {hds : List ExceptHandler} {l : List (Value × Option Nat × Th)} (h : HdsD2 X hds l) : HdsOkN X hds (upH2 X.K l) := by
  induction h with
  | nil => exact .nil
  | cons hc hsu r ih => exact .cons hc (fun a oe cls d pn z v => pss_imp (hsu a oe cls d pn z v) fun D σ H q => ls_E (fun _ _ _ z => z.elim) q) ih
  | asx hc hN hi hln hsu r ih => exact .asx hc hN hi hln (fun a oe cls d pn z v => pss_imp (hsu a oe cls d pn z v) fun D σ H q => ls_E (fun _ _ _ z => z.elim) q) ih
end U
namespace U
open PySem PySem.Spec PyProof.Rows L2
theorem XR.da {K : PySem.W.Frag} {W : Addr → Prop} {H : Hp} {fs : List (Str × Da)} (a : Addr) : ∀ {d : Option Addr}, XR K W H d fs → ∃ x, ExD a fs x d ∧ RD K W H (.ref a) x
  | none, h => ⟨.ref a, ⟨h, rfl⟩, .ref a⟩
  | some _, ⟨hne, _, w, h, rf⟩ => ⟨_, ⟨hne, rfl⟩, .exn w h rf⟩
theorem many_down2 {K : PySem.W.Frag} {E : XK} {n : Nat} {F W W' : Addr → Prop} {H H' : Hp} {Dd : DEnds} {D : Ends} {M' : Mm} {cls : Value} {d : Option Addr} {fs : List (Str × Da)} {σ' : L2.St} {Wout : WX} (k : KS K E F W H Dd D) (g : Grow F W H W' H') (s' : Stt K F W' M' H') (rx : XR K W' H' d fs) (hl : σ'.length = n)
    (hn : Dd.ex cls fs M' → Wout cls d σ' H') : ∀ {l : List (Value × Option Nat × Th)}, xMany2 K n Dd l cls fs M' → wManyN K Wout D (upH2 K l) cls d σ' H'
  | [], q => hn q
  | (c, none, th) :: r, ⟨b, e, h1, h2⟩ => by
    have k' := k.mono g
    exact ⟨b, e, fun hb a _ => ⟨_, F, W', M', { Dd with ex := X0 }, env_none σ', s', by rw [hl]; exact h1 hb a d, k'.nx, k'.rt, k'.bk, k'.ct, fun _ _ _ _ _ _ _ _ _ z => z.elim⟩, fun hb => many_down2 k g s' rx hl hn (h2 hb)⟩
  | (c, some i, th) :: r, ⟨b, e, h1, h2⟩ => by
    have k' := k.mono g
    refine ⟨b, e, fun hb a _ => ?_, fun hb => many_down2 k g s' rx hl hn (h2 hb)⟩
    obtain ⟨x, ex, rd⟩ := XR.da a rx
    refine ⟨_, F, W', M', { nx := fun δ M => Dd.nx (δ.set i none) M, rt := Dd.rt, bk := fun δ M => Dd.bk (δ.set i none) M, ct := fun δ M => Dd.ct (δ.set i none) M, ex := X0 }, (env_none σ').set rd i, s', by rw [hl]; exact h1 hb a d x ex, ?_, k'.rt, ?_, ?_, fun _ _ _ _ _ _ _ _ _ z => z.elim⟩
    · exact fun σ2 H2 W2 δ2 M2 g2 s2 e2 q => k'.nx _ _ _ _ _ g2 s2 (e2.del i) q
    · exact fun σ2 H2 W2 δ2 M2 g2 s2 e2 q => k'.bk _ _ _ _ _ g2 s2 (e2.del i) q
    · exact fun σ2 H2 W2 δ2 M2 g2 s2 e2 q => k'.ct _ _ _ _ _ g2 s2 (e2.del i) q
theorem z_tryMany2 {X : Cx} {body : List Stmt} {h₀ : ExceptHandler} {hds : List ExceptHandler} {pos : Pos} {tb : DTS} {l : List (Value × Option Nat × Th)} (hb : ∀ (pn : List (Addr × Obj)) (xe : Value → Shared → Prop), DB (X.tr pn xe) body tb) (hh : HdsD2 X (h₀ :: hds) l)
    (hs : X.stack = X.env :: X.outer := by rfl) (hf : X.env.frame = some X.env.locals := by rfl) : DS X (.Try body (h₀ :: hds) [] [] pos) (hTry2 X.K X.N.length tb l) :=
  ps_imp (ps_try_manyN (tb := fun W => LS X.K (fun cls d H => ∀ σ, σ.length = X.N.length → W cls d σ H) tb) hs hf (EXm.takes X) (fun W pn xe tk _ => pss_imp (hb pn xe) fun D σ H q => ls_E (fun cls d H h => EXm.of tk fun σ hl => h σ hl) q) hh.ok)
    fun D σ H ⟨δ, F, W, M, Dd, ev, s, h, k⟩ => ⟨δ, F, W, M, _, ev, s, h, k.nx, k.rt, k.bk, k.ct, fun cls d H' W' fs M' g s' r q σ' hl => many_down2 k g s' r hl (fun q => k.ex cls d H' W' fs M' g s' r q) q⟩
end U
namespace U
open PySem PySem.Spec PyProof.Rows L2
/-- e.f of a caught exception -/
def gXf (a : Addr) (cls : Value) (d : Option Addr) (C : Addr) (f : Str) (fd : DTE) : DTE := fun δ M Q => fd δ M fun x M1 => ∃ dd fs y, x = .exn a dd fs ∧ d = some dd ∧ cls = .ref C ∧ fs.lookup f = some y ∧ Q y M1
theorem RF.lk {K : PySem.W.Frag} {W : Addr → Prop} {H : Hp} {f : Str} {y : Da} : ∀ {vs : List (Str × V)} {fs : List (Str × Da)}, RF K W H vs fs → fs.lookup f = some y → ∃ v, vs.lookup f = some v ∧ RD K W H v y
  | _, _, .nil, h => nomatch h
  | _, _, .cons (f := g) r rr, h => by
    rw [List.lookup_cons] at h ⊢
    cases e : f == g with
    | true => rw [e] at h; cases h; exact ⟨_, rfl, r⟩
    | false => rw [e] at h; exact RF.lk rr h
theorem d_xf {X : Cx} {a C : Addr} {oe : Obj} {cls : Value} {d : Option Addr} {pn : List (Addr × Obj)} {e : Expr} {fe : DTE} {pos : Pos} {f : Str} (T : XfC X.K C) (hno : PySem.W.findIn X.K (.ref C) f = some none) (hz : Zc cls d oe) (hf : ∃ vs, oe.data = .fields vs)
    (he : DE (X.suite a ((a, oe) :: pn)) e fe) (hb : attributeBase e f X.env (eval e X.env) = eval e X.env := by rfl) : DE (X.suite a ((a, oe) :: pn)) (.Attribute e f pos) (gXf a cls d C f fe) :=
  imp (pe_xf T hno hz hf he hb) fun σ H Q ⟨δ, F, W, M, Qd, ev, s, h, k⟩ => ⟨δ, F, W, M, _, ev, s, h, fun v H1 W1 x M1 g1 s1 r1 ⟨dd, fs, y, ex, ed, ec, hl, q⟩ => by
    subst ex
    cases r1 with
    | exn w hh rf =>
      obtain ⟨u, hu, ru⟩ := RF.lk rf hl
      exact ⟨rfl, ec, dd, _, u, ed, hh, hu, (k.mono g1).now s1 ru q⟩⟩
end U
set_option Elab.async false
set_option linter.all false
set_option maxRecDepth 100000
set_option maxHeartbeats 4000000
namespace L2
open PySem PySem.Spec PyProof.Rows
/-- a promise of a def that is called where nothing guards the stack -/
structure FnOkG (P : Program) (w : World) (K : PySem.W.Frag) (mg : Str → Option Value) (base : Heap) (CX : CXT) (k : Nat) (f : Addr) (fd : FuncData) (ps : List Str) (sp : Sp) : Prop where
  len : ∀ vs H Q E, sp vs H Q E → vs.length = ps.length
  run : ∀ (A : Around) (outer : List Env) (s : Shared) (H : Hp) (args : Args) (us : List Value) (vs : List V) (Q : VK) (E : XK), A.guards = some [] → Room k A → Env0 P w K mg base A outer s H → BindsTo s fd args (ps.zip us) → Vals vs us → sp vs H Q E →
    codeAny (model P w) A (.call (.ref f) args) (CR CX outer P w H s Q E) s
theorem FnOk.g {P : Program} {w : World} {K : PySem.W.Frag} {mg : Str → Option Value} {base : Heap} {CX : CXT} {k : Nat} {f : Addr} {fd : FuncData} {ps : List Str} {sp : Sp} (F : FnOk P w K mg base CX k f fd ps sp) : FnOkG P w K mg base CX k f fd ps sp :=
  ⟨F.len, fun A outer s H args us vs Q E _ hr => F.run A outer s H args us vs Q E hr⟩
theorem fn_ofG {CX : CXT} {P : Program} {w : World} {K : PySem.W.Frag} {mg : Str → Option Value} {base : Heap} {k : Nat} {f : Addr} {name qual : Str} {params : Arguments} {body : List Stmt} {scope : Scope} {dV kV doc pm cdv ct oc : Value} {an od : Option Addr}
    {osl : Array (Option Value)} {N ps : List Str} {sp : Sp} (lk : K.lookup f = some ⟨oc, od, .func (PySem.W.fnOf name qual params body scope dV kV doc pm an cdv ct), osl⟩) (hcd : PySem.W.codeIn K cdv qual = true) (S : FnScope N ps scope)
    (len : ∀ vs H Q E, sp vs H Q E → vs.length = ps.length)
    (hbody : ∀ (A : Around) (outer : List Env) (s : Shared) (H : Hp) (vs : List V) (Q : VK) (E : XK), A.guards = some [] → Room k (A.deeper (envOfC qual scope s.heap.objs.size f cdv)) → sp vs H Q E →
      ∃ t, PSs (cxOf CX P w K mg base N qual scope f cdv A outer s H E) body t ∧ t { nx := fun _ H' => Q .non H', rt := Q } (start N vs) H) :
    FnOkG P w K mg base CX (k + 1) f (PySem.W.fnOf name qual params body scope dV kV doc pm an cdv ct) ps sp := by
  refine ⟨len, fun A outer s H args us vs Q E hgd hr e0 hb r hsp => ?_⟩
  have hl := len _ _ _ _ hsp
  have KX : K.In s.heap := e0.mod.kin.keeps fun b o e => (e0.bs b o e).1
  have lim : s.heap.NoLimit := e0.mod.nolimit.keeps fun b o e => (e0.bs b o e).1
  have hkind : ∀ y ∈ ps.zip us, scope.names.lookup y.1 = some .local ∨ (scope.names.lookup y.1 = some .cell ∧ ((cellsFrom (s.heap.objs.size + 1) scope.names []).lookup y.1).isSome = true) := fun ⟨n, v⟩ hy => by
    rcases S.par n (List.of_mem_zip hy).1 with q | q
    · exact .inl q
    · exact .inr ⟨q, PySem.W.cellsFrom_some _ _ _ (.inl q)⟩
  refine codeAny_call_function hr.depth (KX _ _ lk) rfl S.co S.gen rfl (PySem.W.codeRec_of KX hcd) (hb _ _ _ _ ?_)
  refine wpAny_newFunctionEnv_cells S.kind hkind fun env he s1 x => ?_
  subst he
  refine ⟨lim.keeps x.toInCall.keep, codeAny_func ?_⟩
  obtain ⟨t, ht, hq⟩ := hbody A outer s H vs Q E hgd (hr.deeper _) hsp
  have I : Inv (cxOf CX P w K mg base N qual scope f cdv A outer s H E) [] (start N vs) H s1 := inv_start S hr.hd e0 hl r x
  refine wpAny_mono (ht.run [] s1 (start N vs) H _ I hq) (fun fl s' hs => ?_) fun e s' hs => hs
  have fin : ∀ {σ' : St} {H' : Hp} {v : V} {u : Value}, Inv (cxOf CX P w K mg base N qual scope f cdv A outer s H E) [] σ' H' s' → RelV v u → Q v H' → CE outer P w H s Q u s' :=
    fun {σ' H' v u} J rv q => ⟨v, H', J.os, J.bare, J.base, J.hok, rv, q⟩
  cases fl with
  | ret u =>
    obtain ⟨v, σ', H', J, rv, q⟩ := hs
    exact fin J rv q
  | next =>
    obtain ⟨σ', H', J, q⟩ := hs
    exact fin (v := V.non) (u := Value.none) J rfl q
  | brk =>
    obtain ⟨_, _, _, q⟩ := hs
    exact False.elim q
  | cont =>
    obtain ⟨_, _, _, q⟩ := hs
    exact False.elim q
section
variable {X : Cx} {CX : CXT} {k : Nat} {f C : Addr} {fd : FuncData} {ps : List Str} {sp : Sp} {dvs : List V} {ds : List Value} {E : XK} {x m : Str} {p pos apos : Pos} {e o : Expr} {es : List Expr} {ta : TE} {t : TA}
end
end L2
namespace LamX
open PySem PySem.Spec PyProof.Rows L2
end LamX
namespace U
open PySem PySem.Spec PyProof.Rows L2 LamX
end U
namespace U
open PySem PySem.Spec PyProof.Rows L2 LamX
/-- a def that keeps its promise where nothing guards the stack -/
structure KnDG (P : Program) (w : World) (K : PySem.W.Frag) (mg : Str → Option Value) (base : Heap) (x : Str) (k : Nat) (ps : List Str) (sp : DSp) : Prop where
  ex : ∃ f fd, FnOkG P w K mg base CX0 k f fd ps (LSp K sp) ∧ mg x = some (.ref f) ∧ PySem.W.keepIn K (.ref f) = true ∧ Binds K fd ps []
theorem KnDG.of {P : Program} {w : World} {K : PySem.W.Frag} {mg : Str → Option Value} {base : Heap} {x : Str} {st : Stmt} {N ps : List Str} {k : Nat} {sp : DSp} (F : HasDef K x st) (M : MgOf K mg) (S : FnScope N ps (defScope st))
    (hb : ∀ (kV doc pm : Value) (an : Option Addr) (cdv ct : Value) (us : List Value), us.length = ps.length → bindArgs (PySem.W.fnOf x x (defArgs st) (defBody st) (defScope st) .none kV doc pm an cdv ct) ⟨us, []⟩ = pure (ps.zip us))
    (len : ∀ ds M Q E, sp ds M Q E → ds.length = ps.length)
    (hbody : ∀ (f : Addr) (cdv : Value) (A : Around) (outer : List Env) (s : Shared) (H : Hp) (E : XK), A.guards = some [] → Room k (A.deeper (envOfC x (defScope st) s.heap.objs.size f cdv)) →
      ∃ t, DB (cxOf CX0 P w K mg base N x (defScope st) f cdv A outer s H E).nox (defBody st) t ∧ ∀ ds M Q Ed, sp ds M Q Ed → t (bodyE Q) (startD N ds) M) : KnDG P w K mg base x (k + 1) ps sp := by
  obtain ⟨f, fd, G, e⟩ := F.ex
  have kp := G.kp
  have bb := G.binds hb
  obtain ⟨oc, od, kV, doc, pm, an, cdv, ct, osl, rfl, lk, hcd'⟩ := G.ex
  refine ⟨f, _, fn_ofG lk hcd' S (lsp_len len) (fun A outer s H vs Q E hgd hr ⟨F, W, M, ds, Qd, Ed, r, st, h, kk, kx⟩ => ?_), M.of _ _ e, kp, bb⟩
  obtain ⟨t, d, q⟩ := hbody f cdv A outer s H E hgd hr
  exact ⟨_, PSs.nox d, ls_body r st kk (q ds M Qd Ed h)⟩
section
variable {X : Cx} {k : Nat} {ps : List Str} {sp : DSp} {x : Str} {p pos : Pos} {e : Expr} {es : List Expr} {fs : DTA}
end
section
variable {X : Cx} {pins : List (Addr × Obj)} {σ : L2.St} {H : Hp} {s : Shared} {W : Addr → Prop}
end
end U
set_option Elab.async false
set_option linter.all false
set_option maxRecDepth 100000
set_option maxHeartbeats 4000000
namespace U
open PySem PySem.Spec PyProof.Rows L2
/-- what the written part says of an own error class that keeps a value, straight over a built-in one -/
structure XErr (K : PySem.W.Frag) (x : Str) (C : Addr) (qual : Str) (st : Stmt) (f : Str) (B newId initId : String) (tl : List Value) : Prop where
  at_ : PySem.W.nsIn K mainGlobals x = some (some (.ref C))
  T : OexT K C B newId initId tl
  meth : ∃ fI fd, Fun K "__init__" qual st fI fd ∧ PySem.W.findIn K (.ref C) "__init__" = some (some (.ref fI)) ∧ PySem.W.typeIn K (.ref fI) = some (.type "function")
  no : PySem.W.findIn K (.ref C) f = some none
  vV : PySem.W.findCls K (.type B) (.type "type") "__init__" = some (.val (.builtin initId))
  xf : XfC K C
theorem xerr_mk {K : PySem.W.Frag} {x : Str} {C : Addr} {qual : Str} {st : Stmt} {f : Str} {B newId initId : String} {tl : List Value} {nm q : Str} {N : Addr} {bs : List Value} {sn : List Str} {sub : List Value} {ab : Bool} {col : Option Bool} {dd : Option Addr} {k0 k1 k2 k3 k5 : Option Value}
    {fI : Addr} {oc : Value} {od an : Option Addr} {osl : Array (Option Value)} {kV doc pm cdv ct : Value} {Bn : String} (base : VV0.EB2 B Bn newId initId tl) (tlok : VV0.TlOk tl) (qa : PySem.W.nsIn K mainGlobals x = some (some (.ref C))) (ql : K.lookup C = some (excClassObj nm q C N bs tl true sn sub ab col dd k0 k1 k2 k3 k5 newId))
    (qs : PySem.W.findIn K (.ref C) "__setattr__" = some (some (.builtin "object.__setattr__"))) (qe : PySem.W.subIn K (.ref C) (.type "BaseException") = some true) (qt : PySem.W.typeIn K (.ref C) = some (.type "type")) (qk : PySem.W.keepIn K (.ref C) = true)
    (qi : PySem.W.findIn K (.ref C) "__init__" = some (some (.ref fI))) (qm : K.lookup fI = some ⟨oc, od, .func (PySem.W.fnOf "__init__" qual (defArgs st) (defBody st) (defScope st) .none kV doc pm an cdv ct), osl⟩) (qc : PySem.W.codeIn K cdv qual = true) (qf : PySem.W.keepIn K (.ref fI) = true)
    (qy : PySem.W.typeIn K (.ref fI) = some (.type "function")) (qn : PySem.W.findIn K (.ref C) f = some none) (qv : PySem.W.findCls K (.type B) (.type "type") "__init__" = some (.val (.builtin initId)))
    (qg : PySem.W.findIn K (.ref C) "__getattribute__" = some (some (.builtin "BaseException.__getattribute__"))) (qh : PySem.W.findIn K (.ref C) "__getattr__" = some none) (qd : PySem.W.hasDictIn K C = true) : XErr K x C qual st f B newId initId tl :=
  ⟨qa, ⟨⟨Bn, base⟩, tlok, ⟨_, _, _, _, _, _, _, _, _, _, _, _, _, _, ql⟩, qs, qe, qt, qk⟩, ⟨_, _, fun_mk qm qc qf, qi, qy⟩, qn, qv, ⟨qg, qh, qe, qd⟩⟩
/-- an own error class, its __init__ walked -/
structure KnErr (P : Program) (w : World) (K : PySem.W.Frag) (mg : Str → Option Value) (base : Heap) (x : Str) (C : Addr) (f : Str) (k : Nat) : Prop where
  ex : ∃ (B newId initId : String) (tl : List Value) (fI : Addr) (fd : FuncData), OexT K C B newId initId tl ∧ PySem.W.findIn K (.ref C) "__init__" = some (some (.ref fI)) ∧ PySem.W.typeIn K (.ref fI) = some (.type "function") ∧
    FnOk P w K mg base CX0 k fI fd ["self", f] (spErr C f) ∧ Binds K fd ["self", f] [] ∧ mg x = some (.ref C)
theorem KnErr.of {P : Program} {w : World} {K : PySem.W.Frag} {mg : Str → Option Value} {base : Heap} {x : Str} {C : Addr} {qual : Str} {st : Stmt} {f : Str} {B newId initId : String} {tl : List Value} {N : List Str} (F : XErr K x C qual st f B newId initId tl) (M : MgOf K mg)
    (S : FnScope N ["self", f] (defScope st))
    (hb : ∀ (kV doc pm : Value) (an : Option Addr) (cdv ct : Value) (us : List Value), us.length = (["self", f] : List Str).length → bindArgs (PySem.W.fnOf "__init__" qual (defArgs st) (defBody st) (defScope st) .none kV doc pm an cdv ct) ⟨us, []⟩ = pure ((["self", f] : List Str).zip us))
    (hbody : ∀ (fI : Addr) (cdv : Value) (A : Around) (outer : List Env) (s : Shared) (H : Hp) (E : XK), ∃ t, PSs (cxOf CX0 P w K mg base N qual (defScope st) fI cdv A outer s H E).nox (defBody st) t ∧
      ∀ (a : Addr) (v : V) (Q : VK), H a = some (exo a C none) → (∀ dx, H dx = none → dx ≠ a → Q .non (upd (upd H dx (exd dx [(f, v)])) a (exo a C (some dx)))) → t { nx := fun _ H' => Q .non H', rt := Q } (start N [.ref a, v]) H) : KnErr P w K mg base x C f 1 := by
  obtain ⟨fI, fd, G, iC, tI⟩ := F.meth
  refine ⟨B, newId, initId, tl, fI, fd, F.T, iC, tI, G.ok S (fun vs H Q E ⟨a, v, e, _⟩ => by rw [e]; rfl) (fun cdv A outer s H vs Q E hr ⟨a, v, e, ha, q⟩ => ?_), G.binds hb, M.of _ _ F.at_⟩
  obtain ⟨t, d, k⟩ := hbody fI cdv A outer s H E
  subst e
  exact ⟨t, d, k a v Q ha q⟩
/-- B.__init__(self, x); self.f = x -/
def errT (K : PySem.W.Frag) (B newId initId : String) (tl : List Value) (f : Str) : TS := tSeq (tDrop (tVeT K B newId initId tl (tCons (tVar 0) (tCons (tVar 1) tNil)))) (tOstT K B newId initId tl f (tVar 0) (tVar 1))
theorem err_end {K : PySem.W.Frag} {C : Addr} {B newId initId : String} {tl : List Value} {f : Str} {N : List Str} {a : Addr} {v : V} {Q : VK} {H : Hp} (T : OexT K C B newId initId tl) (hno : PySem.W.findIn K (.ref C) f = some none)
    (ha : H a = some (exo a C none)) (q : ∀ dx, H dx = none → dx ≠ a → Q .non (upd (upd H dx (exd dx [(f, v)])) a (exo a C (some dx)))) : errT K B newId initId tl f { nx := fun _ H' => Q .non H', rt := Q } (start N [.ref a, v]) H :=
  ⟨.ref a, rfl, v, rfl, a, C, [v], rfl, by simp, T, ha, v, rfl, .ref a, rfl, a, C, rfl, T, hno, ha, q⟩
section
variable {X : Cx} {k : Nat} {x f : Str} {C : Addr} {e : Expr} {fe : DTE} {p pos pos' : Pos}
/-- raise C(e) -/
theorem z_raiseE (D : KnErr X.prog X.w X.K X.mg X.base x C f k) (hr : Room (k + 1) X.A) (he : DE X e fe) (hc : X.calm = true := by rfl) (hg : Gl X x := by rfl)
    (hdb : (x == ("__debug__" : Str)) = false := by decide) (hst : starEach [e] X.env = (false, eval e X.env) :: starEach [] X.env := by rfl) (hpl : (backTo pos (starEach [] X.env)).any (·.1) = false := by rfl) :
    DS X (.Raise (some (.Call (.Name x p) [e] [] pos)) none pos') (hRaiseV (.ref C) f fe) := by
  obtain ⟨B, newId, initId, tl, fI, fd, T, iC, tI, F1, b, m⟩ := D.ex
  exact z_raiseV hc T iC tI F1 hr b hg m he pass0 hdb hst hpl
end
end U

namespace U
open PySem PySem.Spec PyProof.Rows L2 LamX
theorem _root_.L2.Takes.len {X : Cx} {W : WX} (t : Takes X W) : Takes X (fun cls d σ H => σ.length = X.N.length → W cls d σ H) := fun u s' ⟨a, B, sI, pins, σ, H, cls, d, e, I, nb, up, sky, na, os, ag, w⟩ =>
  t u s' ⟨a, B, sI, pins, σ, H, cls, d, e, I, nb, up, sky, na, os, ag, w I.len⟩
section
variable {X : Cx} {Ng : List Str} {x a q : Str} {sg : Scope} {g : Addr} {cdg : Value} {h₀ : ExceptHandler} {hds : List ExceptHandler} {l : List (Value × Option Nat × Th)} {p1 p2 p3 p8 : Pos} {rest : List Stmt} {u : DTS}
end
section
variable {X : Cx} {Ng : List Str} {x a : Str} {st : Stmt} {h₀ : ExceptHandler} {hds : List ExceptHandler} {l : List (Value × Option Nat × Th)} {p1 p2 p3 p8 p lpos pos : Pos} {rest : List Stmt} {u : DTS} {P c : Addr} {k : Nat} {params : Arguments} {body : Expr} {scope : Scope} {gb : XDE}
end
end U
set_option Elab.async false
set_option linter.all false
set_option maxRecDepth 100000
set_option maxHeartbeats 2000000
namespace U
open PySem PySem.Spec PyProof.Rows L2
structure KnKX (P : Program) (w : World) (K : PySem.W.Frag) (mg : Str → Option Value) (base : Heap) (C : Addr) (k : Nat) (ps : List Str) (n : Nat) (ks : List Str) (dvs : List V) (sp : DSp) : Prop where
  ex : ∃ f fd, FnOk P w K mg base (L2.CX P w) k f fd ps (LSp K sp) ∧ BMeth K C "__init__" f ∧ (∃ ds, Vals dvs ds ∧ Binds K fd ps ds) ∧ KBn K fd ps n ks (fun us ws => us ++ ws) (fun vs zs => vs ++ zs)
theorem KnKX.of {P : Program} {w : World} {K : PySem.W.Frag} {mg : Str → Option Value} {base : Heap} {C : Addr} {qual : Str} {st : Stmt} {N ps : List Str} {k n : Nat} {ks : List Str} {kws : List (Str × V)} {sp : DSp} (F : HasInitK K C qual st kws) (S : FnScope N ps (defScope st)) (hk : kws ≠ []) (hn : n + kws.length = ps.length)
    (h1 : ∀ (D : Addr) (doc pm : Value) (an : Option Addr) (cdv ct : Value) (us zs : List Value), us.length = n → zs.length = kws.length →
      KwChain D ((kws.map (·.1)).zip zs) (bindArgs (PySem.W.fnOf "__init__" qual (defArgs st) (defBody st) (defScope st) .none (.ref D) doc pm an cdv ct) ⟨us, []⟩) (ps.zip (us ++ zs)))
    (h2 : ∀ (D : Addr) (doc pm : Value) (an : Option Addr) (cdv ct : Value) (us ws : List Value), us.length = n → ws.length = ks.length →
      bindArgs (PySem.W.fnOf "__init__" qual (defArgs st) (defBody st) (defScope st) .none (.ref D) doc pm an cdv ct) ⟨us, ks.zip ws⟩ = pure (ps.zip (us ++ ws)))
    (len : ∀ ds M Q E, sp ds M Q E → ds.length = ps.length)
    (hbody : ∀ (f : Addr) (cdv : Value) (A : Around) (outer : List Env) (s : Shared) (H : Hp) (E : XK), Room k (A.deeper (envOfC qual (defScope st) s.heap.objs.size f cdv)) →
      ∃ t, DB (cxOf (L2.CX P w) P w K mg base N qual (defScope st) f cdv A outer s H E) (defBody st) t ∧ ∀ ds M Q Ed, sp ds M Q Ed → t (bodyX Q Ed) (startD N ds) M) : KnKX P w K mg base C (k + 1) ps n ks (kws.map (·.2)) sp := by
  obtain ⟨f, fd, F, B⟩ := F.ex
  refine ⟨f, fd, F.ok S (lsp_len len) (fun cdv A outer s H vs Q E hr ⟨F, W, M, ds, Qd, Ed, r, st, h, kk, kx⟩ => by
    obtain ⟨t, d, q⟩ := hbody f cdv A outer s H E hr
    exact ⟨_, d, ls_bodyX r st kk (kx_def kx) (q ds M Qd Ed h)⟩), B, F.binds0 n hk hn h1, ?_⟩
  obtain ⟨mv, kb⟩ := F.kbinds0 (ps := ps) n ks [] (fun us _ ws => us ++ ws) hk (fun q hq => nomatch hq) (fun r1 _ r3 => r1.append r3) fun D doc pm an cdv ct us mv ws l1 l2 l3 => h2 D doc pm an cdv ct us ws l1 l3
  exact kb
theorem KnKX.d {P : Program} {w : World} {K : PySem.W.Frag} {mg : Str → Option Value} {base : Heap} {C : Addr} {k n : Nat} {ps ks : List Str} {dvs : List V} {sp : DSp} (D : KnKX P w K mg base C k ps n ks dvs sp) : KnK P w K mg base C k ps n ks dvs (spN sp) := by
  obtain ⟨f, fd, F, r⟩ := D.ex
  exact ⟨f, fd, FnOk.nox F, r⟩
section
variable {X : Cx} {k n : Nat} {ps ks : List Str} {sp : DSp} {x : Str} {p pos : Pos} {e : Expr} {es : List Expr} {kws : List Keyword} {fs fk : DTA} {C : Addr} {dvs : List V} {dfl : List Da}
end
end U
namespace U
open PySem PySem.Spec PyProof.Rows L2
section
variable {X : Cx}
end
end U
namespace U
open PySem PySem.Spec PyProof.Rows L2
end U
set_option Elab.async false
set_option linter.all false
set_option maxRecDepth 100000
set_option maxHeartbeats 2000000
namespace U
open PySem PySem.Spec PyProof.Rows L2
end U
set_option Elab.async false
set_option linter.all false
set_option maxRecDepth 100000
set_option maxHeartbeats 4000000
namespace U
open PySem PySem.Spec PyProof.Rows L2
section
variable {X : Cx}
def rRepTB (K : PySem.W.Frag) : R2 := fun x y H Q => ∃ l k xs, x = .ref l ∧ y = .int k ∧ SqT K H l xs ∧ xs ≠ [] ∧ 2 ≤ k ∧ k ≤ 10000 ∧ xs.length ≤ 100 ∧ ∀ p, H p = none → ∀ o : Obj, o.dict = none → Q (.ref p) (upd H p (.frz o (.tup (List.replicate k.toNat xs).flatten)))
theorem op_repTB : OpR X (binaryOp .Mult) (rRepTB X.K) := by
  intro pins s σ H x y v u Q I rx ry h
  obtain ⟨l, k, xs, rfl, rfl, hT, hne, h1, h2, hz, q⟩ := h
  cases rx
  obtain ⟨t, rfl⟩ := ry
  obtain ⟨its, r, ⟨⟨cls, dd, data, sl⟩, ho, hc, n, hd⟩, hs⟩ := I.tuple hT
  simp only at hc hd
  subst hc hd
  have hle : its.length = xs.length := r.length.symm
  have hn : its ≠ [] := fun e => hne (by
    rw [e] at hle
    exact List.eq_nil_of_length_eq_zero hle.symm)
  have hi : its.toArray.isEmpty = false := by
    cases its with
    | nil => exact absurd rfl hn
    | cons a b => rfl
  have hsz0 : its.toArray.size = xs.length := by rw [List.size_toArray, hle]
  have hm : ((its.toArray.size : Nat) : Int) * k ≤ 1000000 := by
    rw [hsz0]
    have a1 : ((xs.length : Nat) : Int) * k ≤ 100 * k := Int.mul_le_mul_of_nonneg_right (by omega) (by omega)
    omega
  have flen : (List.replicate k.toNat its).flatten.length ≤ sizeLine := by
    rw [PyProof.Rows.lm_len_rep_flat, hle, sizeLine_eq]
    have a1 : k.toNat * xs.length ≤ 10000 * 100 := Nat.mul_le_mul (by omega) hz
    omega
  have c0 : (decide (k < -(2 ^ 63)) || decide (k ≥ 2 ^ 63)) = false := by
    rw [decide_eq_false (by omega), decide_eq_false (by omega)] <;> rfl
  have c1 : (its.toArray.isEmpty || k == 1) = false := by
    rw [hi, Bool.false_or]
    exact beq_eq_false_iff_ne.mpr (by omega)
  have c2 : (decide (k ≤ 0) || its.toArray.isEmpty) = false := by
    rw [hi, Bool.or_false]
    exact decide_eq_false (by omega)
  have c4 : Builtin.Tuple.tupleTooMany (((its.toArray.size : Nat) : Int) * k) = false := by
    unfold Builtin.Tuple.tupleTooMany
    rw [sizeLine_eq]
    exact decide_eq_false (by omega)
  refine wpAny_binaryOp_repeat_ref (T := "tuple") (U := "int") (by decide) ⟨_, ho, rfl⟩ (fun s' => typeIs_int s' k t) noFill_tuple_mul F.fills_int_mul F.slot_int_rmul repeat_tuple F.slot_int_index.lookup
    (call_meets F.slot_int_rmul (typeIs_int s k t) F.entry_int_rmul (F.args_int_rmul_2 _ _) (int_rmul_tuple k t l its.toArray n dd sl)
      ⟨ho, rfl, ⟨_, ho, rfl⟩, call_meets F.slot_tuple_mul ⟨_, ho, rfl⟩ F.entry_tuple_mul (F.args_tuple_mul_2 _ _) (tuple_mulW l its.toArray n dd sl k t c0 c1 c2 (by omega) c4 (by rw [size_rep, List.size_toArray]; exact flen)) ⟨ho, ?_⟩⟩)
  rw [size_rep]
  refine ⟨.ref s.heap.objs.size, _, I.laid (t' := s.toks) (o := .frz { cls := .type "tuple", data := .seq (List.replicate k.toNat its).flatten.toArray } (.tup (List.replicate k.toNat xs).flatten)) (fun b ob q => Heap.get?_push_of_some _ q) (Nat.le_refl _) ?_, rfl, q _ (I.hok.fresh (Nat.le_refl _)) _ rfl⟩
  exact ⟨Heap.get?_push_size _ rfl, by rw [PyProof.Rows.lm_len_rep_flat, sizeLine_eq]; have a1 : k.toNat * xs.length ≤ 10000 * 100 := Nat.mul_le_mul (by omega) hz; omega, _, r.rep k.toNat, IsTup.new _ _⟩
end
end U
namespace U
open PySem PySem.Spec PyProof.Rows L2
/-- t * 1 is t -/
theorem tuple_mul1 (l : Addr) (items : Array Value) (n : Nat) (dd : Option Addr) (sl : Array (Option Value)) (u : Tok) :
    Meets (Builtin.«tuple.__mul__» ⟨[.ref l, .int 1 u], []⟩) (fun _ R s => s.heap.get? l = some { cls := .type "tuple", dict := dd, data := .seq items n, slots := sl } ∧ R (.ok (.ret (Value.ref l))) s) :=
  .of_wp fun prog w A R s h => by
    obtain ⟨hp, g, d, tk, os⟩ := s
    obtain ⟨hl, h⟩ := h
    have f1 := AutoSeq1.idx_int
    have c1 : (items.isEmpty || ((1 : Int) == 1)) = true := by rw [show ((1 : Int) == 1) = true from rfl, Bool.or_true]
    wp_walk using wpAny_loadPart' hl
    repeat (first
      | (refine wpAny_ite_true (decide_eq_true c1) ?_; wp_walk using wpAny_loadPart' hl)
      | (refine wpAny_ite_false (decide_eq_false (by decide)) ?_; wp_walk using wpAny_loadPart' hl))
    exact ⟨_, rfl, h⟩
def rMul1 (K : PySem.W.Frag) : R2 := fun x y H Q => ∃ l xs, x = .ref l ∧ y = .int 1 ∧ SqT K H l xs ∧ Q (.ref l) H
theorem op_mul1 {X : Cx} : OpR X (binaryOp .Mult) (rMul1 X.K) := by
  intro pins s σ H x y v u Q I rx ry h
  obtain ⟨l, xs, rfl, rfl, hT, q⟩ := h
  cases rx
  obtain ⟨t, rfl⟩ := ry
  obtain ⟨its, r, ⟨⟨cls, dd, data, sl⟩, ho, hc, n, hd⟩, hs⟩ := I.tuple hT
  simp only at hc hd
  subst hc hd
  refine wpAny_binaryOp_repeat_ref (T := "tuple") (U := "int") (by decide) ⟨_, ho, rfl⟩ (fun s' => typeIs_int s' 1 t) noFill_tuple_mul F.fills_int_mul F.slot_int_rmul repeat_tuple F.slot_int_index.lookup
    (call_meets F.slot_int_rmul (typeIs_int s 1 t) F.entry_int_rmul (F.args_int_rmul_2 _ _) (int_rmul_tuple 1 t l its.toArray n dd sl)
      ⟨ho, rfl, ⟨_, ho, rfl⟩, call_meets F.slot_tuple_mul ⟨_, ho, rfl⟩ F.entry_tuple_mul (F.args_tuple_mul_2 _ _) (tuple_mul1 l its.toArray n dd sl t) ⟨ho, ?_⟩⟩)
  exact ⟨.ref l, H, I, rfl, q⟩
/-- x * k for rows, up to ten thousand times -/
def hMulB : D2 := fun x y M Q => match x, y with
  | .tup xs, .int k => xs ≠ [] ∧ 1 ≤ k ∧ k ≤ 10000 ∧ xs.length ≤ 100 ∧ Q (.tup (List.replicate k.toNat xs).flatten) M
  | .lst xs, .int k => k ≤ 10000 ∧ -1000 ≤ k ∧ xs.length ≤ 100 ∧ Q (.lst (List.replicate k.toNat xs).flatten) M
  | _, _ => False
theorem o_dmulB {X : Cx} : DO X (binaryOp .Mult) hMulB := do_imp fun x y H Q ⟨F, W, M, d, e, Qd, r1, r2, s, h, k⟩ => by
  unfold hMulB at h
  split at h
  · rename_i ds k'
    cases r1 with
    | @tup a vs _ hs rv =>
      cases r2
      by_cases h1 : k' = 1
      · subst h1
        have e : (List.replicate (1 : Int).toNat ds).flatten = ds := by simp
        rw [e] at h
        exact ⟨_, op_mul1, a, vs, rfl, rfl, hs.sq, k.now s (.tup hs rv) h.2.2.2.2⟩
      · exact ⟨_, op_repTB, _, _, vs, rfl, rfl, hs.sq, fun e => h.1 (by subst e; cases rv; rfl), by omega, h.2.2.1, by rw [rv.length]; exact h.2.2.2.1, fun p hp o ho => k.newT s hp (rv.flat_rep _) ho h.2.2.2.2⟩
  · cases r1 with
    | @lst a vs _ hs rv =>
      cases r2
      obtain ⟨h1, h2, h3, q⟩ := h
      have key : ∀ j : Int, j ≤ 10000 → vs.length * j.toNat ≤ sizeLine := fun j hj => by
        rw [rv.length, sizeLine_eq]
        have := Nat.mul_le_mul h3 (show j.toNat ≤ 10000 by omega)
        omega
      exact ⟨_, op_repL, _, _, vs, rfl, rfl, hs.sq, by omega, by omega, key _ h1, fun p hp => k.newL s hp (rv.flat_rep _) q⟩
  · exact h.elim
end U
set_option Elab.async false
set_option linter.all false
set_option maxRecDepth 100000
set_option maxHeartbeats 2000000
namespace U
open PySem PySem.Spec PyProof.Rows L2
section
variable {K : PySem.W.Frag} {D : DEnds} {δ : De} {M : Mm} {t v u : DTS} {gb : XDE} {l : List (Value × Option Nat × Th)} {n i : Nat} {P tt : Addr} {q s : Str} {zs : List Da}
end
end U
set_option Elab.async false
set_option linter.all false
set_option maxRecDepth 100000
set_option maxHeartbeats 2000000
namespace U
open PySem PySem.Spec PyProof.Rows L2
section
variable {X : Cx} {CX : CXT} {E : XK} {k : Nat} {ps : List Str} {C : Addr} {o i : Expr} {pos : Pos} {fo fi : DTE}
end
end U
namespace U
open PySem PySem.Spec PyProof.Rows L2
end U
namespace U
open PySem PySem.Spec PyProof.Rows L2
end U
set_option Elab.async false
set_option linter.all false
set_option maxRecDepth 100000
set_option maxHeartbeats 2000000
namespace U
open PySem PySem.Spec PyProof.Rows L2
section
variable {X : Cx} {k : Nat} {ps : List Str} {sp : DSp} {x : Str} {p pos : Pos} {e : Expr} {es : List Expr} {fs : DTA}
end
end U
set_option Elab.async false
set_option linter.all false
set_option maxRecDepth 100000
set_option maxHeartbeats 2000000
namespace U
open PySem PySem.Spec PyProof.Rows L2
/-- what is walked: a text, a list, a tuple -/
inductive Src where
  | txt (x : Str) | lst (a : Addr) | tup (a : Addr)
def Src.v : Src → V
  | .txt x => .str x
  | .lst a => .ref a
  | .tup a => .ref a
def Src.adr : Src → Option Addr
  | .txt _ => none
  | .lst a => some a
  | .tup a => some a
/-- its items in the heap -/
def Src.At (K : PySem.W.Frag) (H : Hp) : Src → List V → Prop
  | .txt x, vs => vs = x.cps.toList.map fun c => V.str ⟨#[c]⟩
  | .lst a, vs => SqL K H a vs
  | .tup a, vs => SqT K H a vs
/-- its iterator at its turn -/
def Src.It (h : Heap) (it i : Nat) : Src → Prop
  | .txt x => ∃ t, h.IsStrIter it (strIterType x) x t i
  | .lst a => h.IsListIter it a i
  | .tup a => h.IsTupleIter it a i
theorem Src.It.live {h : Heap} {it i : Nat} : ∀ {s : Src}, s.It h it i → ∃ o, h.get? it = some o ∧ ∀ v, o.data ≠ .cell v
  | .txt _, ⟨_, o, e, _, d⟩ => ⟨o, e, fun v q => by rw [d] at q; cases q⟩
  | .lst _, ⟨o, e, _, d⟩ => ⟨o, e, fun v q => by rw [d] at q; cases q⟩
  | .tup _, ⟨o, e, _, d⟩ => ⟨o, e, fun v q => by rw [d] at q; cases q⟩
theorem Src.It.keep {h h' : Heap} {it i : Nat} (k : ∀ o, h.get? it = some o → h'.get? it = some o) : ∀ {s : Src}, s.It h it i → s.It h' it i
  | .txt _, ⟨t, o, e, r⟩ => ⟨t, o, k o e, r⟩
  | .lst _, ⟨o, e, r⟩ => ⟨o, k o e, r⟩
  | .tup _, ⟨o, e, r⟩ => ⟨o, k o e, r⟩
section
variable {X : Cx} {pins : List (Addr × Obj)} {σ : L2.St} {H : Hp} {s : Shared}
theorem Src.inj (I : Inv X pins σ H s) : ∀ {r : Src} {xs ys : List V}, r.At X.K H xs → r.At X.K H ys → xs = ys
  | .txt _, _, _, h1, h2 => h1.trans h2.symm
  | .lst _, _, _, h1, h2 => I.list_inj h1 h2
  | .tup _, _, _, h1, h2 => I.tuple_inj h1 h2
theorem chr_get {x : Str} {i c : Nat} (h : x.cps[i]? = some c) : (x.cps.toList.map fun c => V.str ⟨#[c]⟩)[i]? = some (.str ⟨#[c]⟩) := by
  rw [List.getElem?_map, Array.getElem?_toList, h]; rfl
/-- as the library draws from it -/
theorem Src.draws (I : Inv X pins σ H s) (hh : X.A.handled = none) {it i : Nat} : ∀ {r : Src} {vs : List V}, r.At X.K H vs → r.It s.heap it i → (∀ b, r.adr = some b → b ≠ it) →
    ∃ (fp : List Addr) (Pd : Nat → Value → Prop) (St : Nat → Heap → Prop), Draws X.prog X.w X.A.in1 it (it :: fp) vs.length Pd St ∧ St i s.heap ∧ (∀ j u, Pd j u → ∃ x, vs[j]? = some x ∧ RelV x u) ∧ (∀ j h, St j h → r.It h it j) ∧ ∀ b ∈ fp, r.adr = some b
  | .txt x, vs, h1, ⟨t, h2⟩, h3 => by
    have h1 : vs = x.cps.toList.map fun c => V.str ⟨#[c]⟩ := h1
    have hl : vs.length = x.cps.size := by rw [h1, List.length_map, Array.length_toList]
    rw [hl]
    refine ⟨[], _, _, Draws.text (show X.A.in1.handled = none from hh) it x t, h2, ?_, fun j h q => ⟨t, q⟩, fun b hb => nomatch hb⟩
    rintro j u ⟨c, u', hc, rfl⟩
    exact ⟨.str ⟨#[c]⟩, by rw [h1]; exact chr_get hc, ⟨_, rfl⟩⟩
  | .lst a, vs, h1, h2, h3 => by
    obtain ⟨its, rv, p, _⟩ := I.list h1
    have hl := rv.length
    rw [show vs.length = its.toArray.size from by simpa using hl]
    refine ⟨[a], _, _, Draws.list (show X.A.in1.handled = none from hh) it a (h3 a rfl) its.toArray, ⟨h2, p.isList⟩, fun j u hu => ?_, fun j h q => q.1, fun b hb => by rw [List.mem_singleton.mp hb]; rfl⟩
    have hu : its[j]? = some u := by simpa using hu
    have hj : j < vs.length := by rw [hl]; exact (List.getElem?_eq_some_iff.mp hu).1
    obtain ⟨u2, e, r⟩ := rv.get (List.getElem?_eq_getElem hj)
    rw [hu] at e; cases e
    exact ⟨_, List.getElem?_eq_getElem hj, r⟩
  | .tup a, vs, h1, h2, h3 => by
    obtain ⟨its, rv, p, _⟩ := I.tuple h1
    have hl := rv.length
    rw [show vs.length = its.toArray.size from by simpa using hl]
    refine ⟨[a], _, _, Draws.tuple (show X.A.in1.handled = none from hh) it a (h3 a rfl) its.toArray, ⟨h2, p⟩, fun j u hu => ?_, fun j h q => q.1, fun b hb => by rw [List.mem_singleton.mp hb]; rfl⟩
    have hu : its[j]? = some u := by simpa using hu
    have hj : j < vs.length := by rw [hl]; exact (List.getElem?_eq_some_iff.mp hu).1
    obtain ⟨u2, e, r⟩ := rv.get (List.getElem?_eq_getElem hj)
    rw [hu] at e; cases e
    exact ⟨_, List.getElem?_eq_getElem hj, r⟩
/-- as the library begins it -/
theorem Src.begins (I : Inv X pins σ H s) : ∀ {r : Src} {vs : List V} {u : Value}, r.At X.K H vs → RelV r.v u →
    ∃ (o : Obj) (Hc : Heap → Prop), Begins u o Hc ∧ Hc s.heap ∧ (∀ h it, h.get? it = some o → r.It h it 0) ∧ ∀ b, r.adr = some b → b < s.heap.objs.size
  | .txt x, vs, u, h1, ⟨t, e⟩ => by
    subst e
    exact ⟨_, _, begins_text x t, trivial, fun h it e => ⟨t, _, e, rfl, rfl⟩, fun b hb => nomatch hb⟩
  | .lst a, vs, u, h1, h2 => by
    cases h2
    obtain ⟨its, rv, p, _⟩ := I.list h1
    exact ⟨_, _, begins_list a its.toArray, p.isList, fun h it e => ⟨_, e, rfl, rfl⟩, fun b hb => by cases hb; exact p.lt⟩
  | .tup a, vs, u, h1, h2 => by
    cases h2
    obtain ⟨its, rv, p, _⟩ := I.tuple h1
    obtain ⟨o, ho, r⟩ := id p
    exact ⟨_, _, begins_tuple a its.toArray, p, fun h it e => ⟨_, e, rfl, rfl⟩, fun b hb => by cases hb; exact Heap.lt_size ho⟩
end
def IteS (K : PySem.W.Frag) (r : Src) (n : Nat) : It :=
  ⟨fun i H => i < n ∧ ∃ xs, r.At K H xs ∧ xs.length = n,
    fun i H v H' => ∃ T x, v = .ref T ∧ H T = none ∧ (∃ o : Obj, o.dict = none ∧ H' = upd H T (.frz o (.tup [.int (i : Nat), x]))) ∧ ∀ xs, r.At K H xs → xs[i]? = some x,
    fun i H => n ≤ i ∧ ∃ xs, r.At K H xs ∧ xs.length = n⟩
theorem turn_enumS {P : Program} {w : World} {K : PySem.W.Frag} {elts : List Expr} {kk : Nat} {tpos : Pos} {N : Nat} {r : Src} {n : Nat} (a1 : ∀ b, r.adr = some b → b < N) :
    Turn P w K (.Tuple elts kk tpos) (IteS K r n) [N + 1, N] (N + 1) (fun i h => ((∃ old, IsEnum h (N + 1) N ((i : Nat) : Int) old) ∧ r.It h N i) ∧ i ≤ n) where
  mem := by simp
  obj := fun i h st b hb => by
    obtain ⟨⟨⟨old, he⟩, h1⟩, _⟩ := st
    obtain ⟨o1, e1, d1⟩ := h1.live
    have e' : b = N + 1 ∨ b = N := by simpa using hb
    rcases e' with z | z
    · rw [z]; exact ⟨_, he, fun v q => nomatch q⟩
    · rw [z]; exact ⟨o1, e1, d1⟩
  keep := fun i h h' st k => let ⟨⟨⟨old, he⟩, hi⟩, l⟩ := st; ⟨⟨⟨old, k _ (by simp) _ he⟩, hi.keep fun o q => k _ (by simp) o q⟩, l⟩
  item := by
    intro X hP hw hK hc i pins s σ H E I hf st hg
    subst hP hw hK
    obtain ⟨⟨⟨old, he⟩, h1⟩, _⟩ := st
    obtain ⟨l1, xs, hx, e1⟩ := hg
    subst e1
    obtain ⟨f1, P1, S1, D1, s1, r1', t1, b1⟩ := Src.draws I (I.ok.hd hc) hx h1 (fun b e => Nat.ne_of_lt (a1 b e))
    have hel : N + 1 < s.heap.objs.size := Heap.lt_size he
    have hne : (N + 1 : Nat) ≠ N := Nat.succ_ne_self _
    have hef : (N + 1 : Nat) ∉ N :: f1 := fun hm => by
      rcases List.mem_cons.mp hm with e | e
      · exact hne e
      · exact absurd (a1 _ (b1 _ e)) (Nat.not_lt.mpr (Nat.le_succ _))
    refine wpAny_pyNext_enum_itemD D1 he s1 l1 hne hef fun u h' tk p1 ho q1 hT hsz hk => ?_
    obtain ⟨x, gx, ru⟩ := r1' _ _ p1
    refine ⟨_, rfl, wpAny_letOwnedTupleGo_enum (s := { s with heap := h', toks := tk + 1 }) ho fun h'' he' sb => ?_⟩
    have hT2 : h''.get? s.heap.objs.size = some { cls := .type "tuple", data := .seq #[.int i tk, u] } := (sb.2 _ (Nat.ne_of_gt hel)).trans hT
    have new : ObjOk X.prog X.w (upd H s.heap.objs.size (.frz { cls := .type "tuple", data := .seq #[.int i tk, u] } (.tup [.int (i : Nat), x]))) h'' s.heap.objs.size (.frz { cls := .type "tuple", data := .seq #[.int i tk, u] } (.tup [.int (i : Nat), x])) :=
      ⟨hT2, by show 2 ≤ sizeLine; decide, [.int i tk, u], .cons ⟨_, rfl⟩ (.cons ru .nil), ⟨_, hT2, rfl, _, rfl⟩⟩
    have I1 : Inv X pins σ (upd H s.heap.objs.size (.frz { cls := .type "tuple", data := .seq #[.int i tk, u] } (.tup [.int (i : Nat), x]))) { s with heap := h'', toks := tk + 1 } :=
      I.turnedNew (ch := [N + 1, N]) (fun b ob hb q => (sb.2 b (fun z => hb (by simp [z]))).trans (hk b ob (fun z => hb (by simp [z])) (fun z => hb (by simp [z])) q)) hf (Nat.le_refl _) new
    refine ⟨.ref s.heap.objs.size, _, I1, rfl, ⟨_, x, rfl, I.hok.fresh (Nat.le_refl _), ⟨_, rfl, rfl⟩, fun ys hy => by rw [Src.inj I hy hx]; exact gx⟩, ⟨⟨⟨u, ?_⟩, (t1 _ _ q1).keep fun o q => (sb.2 _ (Ne.symm hne)).trans q⟩, l1⟩, fun b hb => ?_⟩
    · have e1 : ((i + 1 : Nat) : Int) = (i : Int) + 1 := by omega
      rw [e1]; exact he'
    · have hb' : b < s.heap.objs.size := by
        have e' : b = N + 1 ∨ b = N := by simpa using hb
        rcases e' with z | z
        · rw [z]; exact hel
        · rw [z]; exact Nat.lt_of_succ_lt hel
      rw [upd_ne (Nat.ne_of_lt hb')]
      exact (hf b hb).1
  done := by
    intro X hP hw hK hc i pins s σ H E I hf st hg
    subst hP hw hK
    obtain ⟨⟨⟨old, he⟩, h1⟩, m1⟩ := st
    obtain ⟨hend, xs, hx, e1⟩ := hg
    subst e1
    obtain rfl : i = xs.length := by omega
    obtain ⟨f1, P1, S1, D1, s1, r1', t1, b1⟩ := Src.draws I (I.ok.hd hc) hx h1 (fun b e => Nat.ne_of_lt (a1 b e))
    obtain ⟨q0, q1, q2, q3, q4, q5⟩ := hf N (by simp)
    exact wpAny_pyNext_enum_endD D1 he s1 fun h' eb => ⟨rfl, I.turned (t' := s.toks) (fun b o hb q => eb b o hb q) q0 q1 q3 q4 q5⟩
  self := fun A i s Q E st h => let ⟨⟨⟨_, he⟩, _⟩, _⟩ := st; wpAny_pyIter_enum he h
def iEnumS (K : PySem.W.Frag) (ta : TA) : L2.TI := fun σ H R => ta σ H fun vs H1 => ∃ (r : Src) (xs : List V), vs = [r.v] ∧ r.At K H1 xs ∧ R (IteS K r xs.length) H1
theorem meets_enumB1 {v : Value} {o : Obj} {Hc : Heap → Prop} (B : Begins v o Hc) :
    Meets (Builtin.«enumerate.__new__» ⟨[.type "enumerate", v], []⟩) (fun _ R s => Hc s.heap ∧
      R (.ok (.ret (.ref (s.heap.push o).objs.size))) { s with heap := (s.heap.push o).push { cls := .type "enumerate", data := .fields #[.none, .bool false, .ref s.heap.objs.size, rawInt 0, .none, .none] } }) :=
  .of_wp fun prog w A R s h => by
    obtain ⟨hp, g, d, tk, os⟩ := s; obtain ⟨h1, h⟩ := h
    have hsub := sub_enumerate
    have q1 : ∀ {A' : Around} {E : Value → Shared → Prop} {Q : Value → Shared → Prop}, Q (.ref hp.objs.size) ⟨hp.push o, g, d, tk, os⟩ → wpAny (model prog w) A' (pyIter v) Q E ⟨hp, g, d, tk, os⟩ :=
      fun q => B.iter prog w _ _ ⟨hp, g, d, tk, os⟩ _ h1 q
    wp_walk using q1
    refine wpAny_stack_any fun st => wpAny_pure ?_
    split
    · rename_i c _ _ _ _ _
      cases (c == Value.type "enumerate")
      · wp_walk using q1
        exact ⟨_, rfl, h⟩
      · wp_walk using q1
        exact ⟨_, rfl, h⟩
    · wp_walk using q1
      exact ⟨_, rfl, h⟩
theorem enum_begins1 {prog : Program} {w : World} {A : Around} {E : Value → Shared → Prop} {s : Shared} {v : Value} {o : Obj} {Hc : Heap → Prop} {Q : Value → Shared → Prop} (B : Begins v o Hc) (h1 : Hc s.heap)
    (h : ∀ h', IsEnum h' (s.heap.objs.size + 1) s.heap.objs.size 0 .none → h'.get? s.heap.objs.size = some o → h'.objs.size = s.heap.objs.size + 2 →
      (∀ b o, s.heap.get? b = some o → h'.get? b = some o) → Q (.ref (s.heap.objs.size + 1)) { s with heap := h' }) :
    wpAny (model prog w) A (PySem.call (.type "enumerate") [v]) Q E s := by
  refine callType_new F.called_enumerate (by decide) (F.typeCall_enumerate_1 _) (F.newCall_enumerate_1 _) (fun obj => F.args_object_init_2 obj _) F.entry_enumerate_new
    (meets_enumB1 B) ⟨h1, ?_⟩
  have hz : (s.heap.push o).objs.size = s.heap.objs.size + 1 := Heap.size_push ..
  show _ ∧ _
  rw [hz]
  have he : IsEnum ((s.heap.push o).push { cls := .type "enumerate", data := .fields #[.none, .bool false, .ref s.heap.objs.size, rawInt 0, .none, .none] }) (s.heap.objs.size + 1) s.heap.objs.size 0 .none := by
    have := Heap.get?_push_size (s.heap.push o) (o := { cls := .type "enumerate", data := .fields #[.none, .bool false, .ref s.heap.objs.size, rawInt 0, .none, .none] }) rfl
    rw [hz] at this; exact this
  exact ⟨⟨_, he, rfl⟩, h _ he (Heap.get?_push_of_some _ (Heap.get?_push_size _ B.free)) (by rw [Heap.size_push, hz]) fun b o x => Heap.get?_push_of_some _ (Heap.get?_push_of_some _ x)⟩
theorem pi_enumS {X : Cx} {e : Expr} {ta : TA} {p pos tpos : Pos} {elts : List Expr} {kk : Nat} (hg : Gl X "enumerate") (hm : X.mg "enumerate" = none) (ha : PA X [e] ta) (hs : starEach [e] X.env = [(false, eval e X.env)] := by rfl) :
    PI X (.Tuple elts kk tpos) (.Call (.Name "enumerate" p) [e] [] pos) (iEnumS X.K ta) := by
  refine ⟨fun pins s σ H R I h => ?_⟩
  refine Call_ (ld_blt I hg hm boot_enumerate (PyProof.Rows.callWith_type1 (thn (ha.run pos pins s σ H _ I h) fun us s1 ⟨vs, H1, I1, r1, q1⟩ => ?_) hs rfl))
  obtain ⟨r, xs, ex, hx, q⟩ := q1
  subst ex
  cases r1 with
  | cons rv rr =>
    cases rr
    obtain ⟨o1, H1c, B1, c1, g1, b1⟩ := Src.begins I1 hx rv
    refine enum_begins1 B1 c1 fun h' he hit hsz hk => wpAny_pyIter_enum he ?_
    have I2 : Inv X pins σ H1 { s1 with heap := h' } := I1.kept (t' := s1.toks) hk
    refine ⟨s1.heap.objs.size + 1, [s1.heap.objs.size + 1, s1.heap.objs.size], _, _, H1, rfl, I2, turn_enumS b1, ⟨⟨⟨.none, he⟩, g1 _ _ hit⟩, Nat.zero_le _⟩, fun b hb => ?_, q⟩
    have e' : b = s1.heap.objs.size + 1 ∨ b = s1.heap.objs.size := by simpa using hb
    have hle : s1.heap.objs.size ≤ b := by
      rcases e' with z | z
      · rw [z]; exact Nat.le_add_right _ _
      · rw [z]; exact Nat.le_refl _
    exact I1.fpOk hle (I1.hok.fresh hle)
def Src.D (K : PySem.W.Frag) (W : Addr → Prop) (H : Hp) : Src → List Da → Prop
  | .txt x, ds => ds = chrD x
  | .lst a, ds => ∃ vs, Sl K W H a vs ∧ RDs K W H vs ds
  | .tup a, ds => ∃ vs, Sp' K W H a vs ∧ RDs K W H vs ds
theorem Src.D.mono {K : PySem.W.Frag} {F W W' : Addr → Prop} {H H' : Hp} (g : Grow F W H W' H') {ds : List Da} : ∀ {r : Src}, r.D K W H ds → r.D K W' H' ds
  | .txt _, h => h
  | .lst _, ⟨vs, h, k⟩ => ⟨vs, h.mono g, k.mono g⟩
  | .tup _, ⟨vs, h, k⟩ => ⟨vs, h.mono g, k.mono g⟩
theorem chrs_rd {K : PySem.W.Frag} {W : Addr → Prop} {H : Hp} : ∀ l : List Nat, RDs K W H (l.map fun c => V.str ⟨#[c]⟩) (l.map fun c => Da.str ⟨#[c]⟩)
  | [] => .nil
  | _ :: l => .cons (.str _) (chrs_rd l)
theorem Src.D.at {K : PySem.W.Frag} {W : Addr → Prop} {H : Hp} {ds : List Da} : ∀ {r : Src}, r.D K W H ds → ∃ vs, r.At K H vs ∧ RDs K W H vs ds
  | .txt x, h => by
    have h : ds = chrD x := h
    subst h
    exact ⟨_, rfl, chrs_rd _⟩
  | .lst _, ⟨vs, h, k⟩ => ⟨vs, h.sq, k⟩
  | .tup _, ⟨vs, h, k⟩ => ⟨vs, h.sq, k⟩
theorem grow_frz {K : PySem.W.Frag} {F W : Addr → Prop} {M : Mm} {H : Hp} {T : Addr} {o : Obj} {vs : List V} {ds : List Da} (s : Stt K F W M H) (h : H T = none) (ho : o.dict = none) (r : RDs K W H vs ds) :
    ∃ W', Grow F W H W' (upd H T (.frz o (.tup vs))) ∧ Stt K F W' M (upd H T (.frz o (.tup vs))) ∧ RD K W' (upd H T (.frz o (.tup vs))) (.ref T) (.tup ds) := by
  obtain ⟨s', g⟩ := s.new h (.frz o (.tup vs)) ho
  exact ⟨_, g, s', .tup (.inl ⟨.inl rfl, .inr ⟨o, upd_same⟩⟩) (r.mono g)⟩
theorem it_enumS {K : PySem.W.Frag} {W : Addr → Prop} {H : Hp} {r : Src} {ds : List Da} (h1 : r.D K W H ds) : ItR K W H (IteS K r ds.length) (enumD 0 ds) := fun F' W' H' M' g s => by
  obtain ⟨vs, a1, k1⟩ := (h1.mono g).at
  refine ⟨fun i d hd => ?_, fun i hi => ?_⟩
  · obtain ⟨x, hx, rfl⟩ := enumD_get hd
    obtain ⟨v, hv, rv⟩ := k1.get hx
    refine ⟨⟨(List.getElem?_eq_some_iff.mp hx).1, vs, a1, k1.length⟩, fun z H'' yl => ?_⟩
    obtain ⟨T, x', rfl, hT, ⟨o, ho, rfl⟩, f1⟩ := yl
    have e1 := f1 _ a1
    rw [hv] at e1
    cases e1
    rw [Nat.zero_add]
    exact grow_frz s hT ho (.cons (.int _) (.cons rv .nil))
  · rw [enumD_length] at hi
    exact ⟨hi, vs, a1, k1.length⟩
/-- a row, settled -/
def rowK (x : Da) (M : Mm) (Q : List Da → Mm → Prop) : Prop := match x with
  | .lst ds => Q ds M
  | .tup ds => Q ds M
  | .str z => Q (chrD z) M
  | .ref p => ∃ ds, M p = some (.lst ds) ∧ Q ds (mdel M p)
  | _ => False
theorem row_src {K : PySem.W.Frag} {F W : Addr → Prop} {M : Mm} {H : Hp} {v : V} {x : Da} {Q : List Da → Mm → Prop} (s : Stt K F W M H) (r : RD K W H v x) (h : rowK x M Q) :
    ∃ (W' : Addr → Prop) (M' : Mm) (rs : Src) (ds : List Da), v = rs.v ∧ Grow F W H W' H ∧ Stt K F W' M' H ∧ rs.D K W' H ds ∧ Q ds M' := by
  cases r with
  | lst hs rv => exact ⟨W, M, .lst _, _, rfl, .refl, s, ⟨_, hs, rv⟩, h⟩
  | tup hs rv => exact ⟨W, M, .tup _, _, rfl, .refl, s, ⟨_, hs, rv⟩, h⟩
  | str z => exact ⟨W, M, .txt _, _, rfl, .refl, s, rfl, h⟩
  | ref p =>
    obtain ⟨ds, hm, q⟩ := h
    obtain ⟨s2, g2⟩ := s.settle hm
    obtain ⟨vs, hv, rv⟩ := s.list hm
    exact ⟨_, _, .lst _, _, rfl, g2, s2, ⟨_, .inl ⟨.inl rfl, .inl hv⟩, rv.mono g2⟩, q⟩
  | _ => exact h.elim
section
variable {X : Cx} {a b : Expr} {es : List Expr} {fs : DTA} {pos p tpos : Pos} {elts : List Expr} {kk : Nat}
def gEnum (fs : DTA) : DTI := fun δ M Q => fs δ M fun ds M1 => match ds with
  | [x] => rowK x M1 fun xs M2 => Q (enumD 0 xs) M2
  | _ => False
theorem d_enum (hm : X.mg "enumerate" = none) (ha : DA X [a] fs) (hg : Gl X "enumerate" := by rfl) (hs : starEach [a] X.env = [(false, eval a X.env)] := by rfl) :
    DI X (.Tuple elts kk tpos) (.Call (.Name "enumerate" p) [a] [] pos) (gEnum fs) :=
  pi_imp (pi_enumS hg hm ha hs) fun σ H R ⟨δ, F, W, M, Qd, ev, s, h, k⟩ => ⟨δ, F, W, M, _, ev, s, h, fun vs H1 W1 ds M1 g1 s1 r1 q1 => by
    split at q1
    · obtain ⟨v, rfl, r⟩ := r1.one
      obtain ⟨W2, M2, r1', xs, e1, g2, s2, d1, q2⟩ := row_src s1 r q1
      obtain ⟨vs1, at1, k1⟩ := d1.at
      refine ⟨r1', vs1, by rw [e1], at1, ?_⟩
      rw [k1.length]
      exact k _ _ W2 M2 _ (g1.trans g2) s2 (it_enumS d1) q2
    · exact q1.elim⟩
end
end U
set_option Elab.async false
set_option linter.all false
set_option maxRecDepth 100000
set_option maxHeartbeats 2000000
namespace U
open PySem PySem.Spec PyProof.Rows L2
theorem set_self {α : Type} : ∀ {l : List α} {i : Nat} {x : α}, l[i]? = some x → l.set i x = l
  | [], _, _, h => by simp at h
  | y :: l, 0, x, h => by simp at h; subst h; rfl
  | y :: l, i + 1, x, h => by
    rw [List.set_cons_succ, set_self (by simpa using h)]
theorem EnvR.again {K : PySem.W.Frag} {W : Addr → Prop} {H : Hp} {δ : De} {σ : L2.St} {i : Nat} {v : V} {d : Da} (e : EnvR K W H δ σ) (h : σ[i]? = some (some v)) (r : RD K W H v d) : EnvR K W H (δ.set i (some d)) σ := by
  have := EnvR.set r i e
  rwa [set_self h] at this
section
variable {X : Cx} {st : Stmt} {t : DTS}
/-- the list of a variable changes no more from here on -/
def hStlV (i : Nat) (t : DTS) : DTS := fun D δ M => ∃ p ds, δ[i]? = some (some (.ref p)) ∧ M p = some (.lst ds) ∧ t D (δ.set i (some (.lst ds))) (mdel M p)
theorem z_stlV (i : Nat) (h : DS X st t) : DS X st (hStlV i t) := ps_imp h fun D σ H ⟨δ, F, W, M, Dd, ev, s, ⟨p, ds, hi, hm, q⟩, k⟩ => by
  obtain ⟨s2, g2⟩ := s.settle hm
  obtain ⟨vs, hv, rv⟩ := s.list hm
  obtain ⟨v, h1, h2⟩ := EnvR.get ev hi
  cases h2
  exact ⟨_, F, _, _, Dd, (ev.mono g2).again h1 (.lst (.inl ⟨.inl rfl, .inl hv⟩) (rv.mono g2)), s2, q, k.mono g2⟩
end
end U
set_option Elab.async false
set_option linter.all false
set_option maxRecDepth 100000
set_option maxHeartbeats 2000000
namespace U
open PySem PySem.Spec PyProof.Rows L2
section
variable {X : Cx} {C : Addr} {f : Str} {pos tpos : Pos} {o value : Expr} {ta tv : TE} {fa fv : DTE}
end
end U
set_option Elab.async false
set_option linter.all false
set_option maxRecDepth 100000
set_option maxHeartbeats 2000000
namespace U
open PySem PySem.Spec PyProof.Rows L2
section
variable {X : Cx}
def kMaxL : DC := fun xs M Q => match xs with
  | [.lst ds] => ∃ ns, asInts ds = some ns ∧ 0 < ns.length ∧ ∀ m, m ∈ ns → (∀ y, y ∈ ns → y ≤ m) → Q (.int m) M
  | _ => False
theorem c_dmaxL (hc : X.calm = true) : CD X (.builtin "max") kMaxL := cd_imp fun vs H Q ⟨F, W, M, ds, Qd, r, s, h, k⟩ => by
  refine ⟨_, cr_max hc, ?_⟩
  unfold kMaxL at h
  split at h
  · obtain ⟨v, rfl, r1⟩ := r.one
    obtain ⟨bs, hb, hl, q⟩ := h
    cases r1 with
    | lst hs rv => rw [asInts_of hb] at rv; rw [rv.ints] at hs; exact ⟨_, bs, rfl, hs.sq, hl, fun m hm hle => k.now s (.int _) (q m hm hle)⟩
  · exact h.elim
end
section
variable {X : Cx} {e : Expr} {f : DTE}
/-- a dict of the memory that changes no more -/
def gStlD (f : DTE) : DTE := fun δ M Q => f δ M fun x M1 => match x with
  | .ref p => ∃ xs, M1 p = some (.dct xs) ∧ Q (.dct xs) (mdel M1 p)
  | _ => False
theorem d_stlD (h : DE X e f) : DE X e (gStlD f) := imp h fun σ H Q ⟨δ, F, W, M, Qd, ev, s, h, k⟩ => ⟨δ, F, W, M, _, ev, s, h, fun v H1 W1 d M1 g1 s1 r1 q1 => by
  cases r1 with
  | ref p =>
    obtain ⟨xs, hm, q⟩ := q1
    obtain ⟨s2, g2⟩ := s1.settle hm
    obtain ⟨u, hu, mr⟩ := s1.mem _ _ hm
    cases mr with
    | dct rv => exact (k.mono (g1.trans g2)).now s2 (.dct (.inl rfl) hu (rv.mono g2)) q
  | _ => exact q1.elim⟩
end
end U
set_option Elab.async false
set_option linter.all false
set_option maxRecDepth 100000
set_option maxHeartbeats 4000000





namespace K69
open PySem PySem.Spec PyProof.Rows L2 U
def top (i : Nat) : Stmt := PySem.Challenge.pw_blockshanded_k69_wraps_made.main.body.getD i (.Pass ⟨0, 0, 0, 0⟩)
abbrev s_is_integer : Stmt := top 4
abbrev s_is_from : Stmt := top 5
abbrev s_is_name : Stmt := top 6
abbrev s_InvalidNumber___init__ : Stmt := inClass (top 12) 0
abbrev s_TooMany___init__ : Stmt := inClass (top 13) 0
abbrev s_has_word : Stmt := top 23
abbrev s_is_deed_table : Stmt := top 24
abbrev s_is_kind : Stmt := top 25
abbrev s_is_term_in : Stmt := top 26
abbrev s_is_wrap_in : Stmt := top 27
abbrev s_is_piece : Stmt := top 28
abbrev s_are_given : Stmt := top 29
abbrev s_inside : Stmt := top 30
abbrev s_pieces_of : Stmt := top 31
abbrev s_are_parameters : Stmt := top 32
abbrev s_is_body : Stmt := top 33
abbrev s_Procedure___init__ : Stmt := inClass (top 34) 0
abbrev s_Procedure_named : Stmt := inClass (top 34) 1
abbrev s_Procedure_parameters : Stmt := inClass (top 34) 2
abbrev s_Procedure_body : Stmt := inClass (top 34) 3
abbrev s_Procedure___len__ : Stmt := inClass (top 34) 7
abbrev s_Procedure___eq__ : Stmt := inClass (top 34) 8
abbrev s_Procedure___str__ : Stmt := inClass (top 34) 9
abbrev s_Space___init__ : Stmt := inClass (top 36) 0
abbrev s_Space_bit : Stmt := inClass (top 36) 6
abbrev s_Space_has : Stmt := inClass (top 36) 7
abbrev s_Space_is_relation : Stmt := inClass (top 36) 8
abbrev s_Space_require_relation : Stmt := inClass (top 36) 9
abbrev s_Space_pairs : Stmt := inClass (top 36) 10
abbrev s_Space_is_table : Stmt := inClass (top 36) 18
abbrev s_Space_require_table : Stmt := inClass (top 36) 19
abbrev s_Space_is_monotone : Stmt := inClass (top 36) 20
abbrev s_deed_from : Stmt := top 39
abbrev s_either_of : Stmt := top 40
abbrev s_least_relations : Stmt := top 41
abbrev s_seq_for : Stmt := top 42
abbrev s_terms_for : Stmt := top 43
abbrev s_wrap_of : Stmt := top 44
abbrev s__law_pail : Stmt := top 46
abbrev s__law_dip : Stmt := top 47
abbrev s__law_pick : Stmt := top 48
abbrev s__law_has : Stmt := top 50
abbrev s__law_bit : Stmt := top 51
abbrev s__law_size : Stmt := top 52
abbrev s__law_after : Stmt := top 53
abbrev s__law_either : Stmt := top 54
abbrev s__law_asked : Stmt := top 55
abbrev s__law_reckon : Stmt := top 56
abbrev s__law_meanings : Stmt := top 57
abbrev s__law_pieces : Stmt := top 61
abbrev s__law_depth : Stmt := top 62
abbrev s__law_is_plain : Stmt := top 63
abbrev s__law_least : Stmt := top 64
abbrev s__law_drawn_table : Stmt := top 65
abbrev s__law_terms : Stmt := top 66
abbrev s__law_tried : Stmt := top 67
abbrev s__law_is_monotone : Stmt := top 68
abbrev s__law_judged : Stmt := top 69
abbrev s_law : Stmt := top 70
abbrev N_is_integer : List Str := ["value"]
theorem sc_is_integer : FnScope N_is_integer ["value"] (defScope s_is_integer) := ⟨rfl, rfl, rfl, by decide +kernel, rfl, by decide +kernel, by decide +kernel⟩
abbrev N_is_from : List Str := ["value", "first", "last"]
theorem sc_is_from : FnScope N_is_from ["value", "first", "last"] (defScope s_is_from) := ⟨rfl, rfl, rfl, by decide +kernel, rfl, by decide +kernel, by decide +kernel⟩
abbrev N_is_name : List Str := ["value", "letter"]
theorem sc_is_name : FnScope N_is_name ["value"] (defScope s_is_name) := ⟨rfl, rfl, rfl, by decide +kernel, rfl, by decide +kernel, by decide +kernel⟩
abbrev N_InvalidNumber___init__ : List Str := ["self", "value"]
theorem sc_InvalidNumber___init__ : FnScope N_InvalidNumber___init__ ["self", "value"] (defScope s_InvalidNumber___init__) := ⟨rfl, rfl, rfl, by decide +kernel, rfl, by decide +kernel, by decide +kernel⟩
abbrev N_TooMany___init__ : List Str := ["self", "limit"]
theorem sc_TooMany___init__ : FnScope N_TooMany___init__ ["self", "limit"] (defScope s_TooMany___init__) := ⟨rfl, rfl, rfl, by decide +kernel, rfl, by decide +kernel, by decide +kernel⟩
abbrev N_has_word : List Str := ["value", "words"]
theorem sc_has_word : FnScope N_has_word ["value", "words"] (defScope s_has_word) := ⟨rfl, rfl, rfl, by decide +kernel, rfl, by decide +kernel, by decide +kernel⟩
abbrev N_is_deed_table : List Str := ["value", "entry"]
theorem sc_is_deed_table : FnScope N_is_deed_table ["value"] (defScope s_is_deed_table) := ⟨rfl, rfl, rfl, by decide +kernel, rfl, by decide +kernel, by decide +kernel⟩
abbrev N_is_kind : List Str := ["kinds", "value", "kind"]
theorem sc_is_kind : FnScope N_is_kind ["kinds", "value", "kind"] (defScope s_is_kind) := ⟨rfl, rfl, rfl, by decide +kernel, rfl, by decide +kernel, by decide +kernel⟩
abbrev N_is_term_in : List Str := ["value", "kinds", "deep"]
theorem sc_is_term_in : FnScope N_is_term_in ["value", "kinds", "deep"] (defScope s_is_term_in) := ⟨rfl, rfl, rfl, by decide +kernel, rfl, by decide +kernel, by decide +kernel⟩
abbrev N_is_wrap_in : List Str := ["value", "kinds", "deep"]
theorem sc_is_wrap_in : FnScope N_is_wrap_in ["value", "kinds", "deep"] (defScope s_is_wrap_in) := ⟨rfl, rfl, rfl, by decide +kernel, rfl, by decide +kernel, by decide +kernel⟩
abbrev N_is_piece : List Str := ["value", "kinds", "deep", "word", "table", "terms", "first", "parameter", "name", "given", "wrap", "term", "one"]
theorem sc_is_piece : FnScope N_is_piece ["value", "kinds", "deep"] (defScope s_is_piece) := ⟨rfl, rfl, rfl, by decide +kernel, rfl, by decide +kernel, by decide +kernel⟩
abbrev N_are_given : List Str := ["given", "kinds", "deep", "value"]
theorem sc_are_given : FnScope N_are_given ["given", "kinds", "deep"] (defScope s_are_given) := ⟨rfl, rfl, rfl, by decide +kernel, rfl, by decide +kernel, by decide +kernel⟩
abbrev N_inside : List Str := ["piece", "terms", "name", "given", "wrap", "term"]
theorem sc_inside : FnScope N_inside ["piece"] (defScope s_inside) := ⟨rfl, rfl, rfl, by decide +kernel, rfl, by decide +kernel, by decide +kernel⟩
abbrev N_pieces_of : List Str := ["piece", "found", "at"]
theorem sc_pieces_of : FnScope N_pieces_of ["piece"] (defScope s_pieces_of) := ⟨rfl, rfl, rfl, by decide +kernel, rfl, by decide +kernel, by decide +kernel⟩
abbrev N_are_parameters : List Str := ["value", "pair", "name", "kind"]
theorem sc_are_parameters : FnScope N_are_parameters ["value"] (defScope s_are_parameters) := ⟨rfl, rfl, rfl, by decide +kernel, rfl, by decide +kernel, by decide +kernel⟩
abbrev N_is_body : List Str := ["value", "parameters"]
theorem sc_is_body : FnScope N_is_body ["value", "parameters"] (defScope s_is_body) := ⟨rfl, rfl, rfl, by decide +kernel, rfl, by decide +kernel, by decide +kernel⟩
abbrev N_Procedure___init__ : List Str := ["self", "name", "parameters", "body", "parameter", "kind"]
theorem sc_Procedure___init__ : FnScope N_Procedure___init__ ["self", "name", "parameters", "body"] (defScope s_Procedure___init__) := ⟨rfl, rfl, rfl, by decide +kernel, rfl, by decide +kernel, by decide +kernel⟩
abbrev N_Procedure_named : List Str := ["self"]
theorem sc_Procedure_named : FnScope N_Procedure_named ["self"] (defScope s_Procedure_named) := ⟨rfl, rfl, rfl, by decide +kernel, rfl, by decide +kernel, by decide +kernel⟩
abbrev N_Procedure_parameters : List Str := ["self"]
theorem sc_Procedure_parameters : FnScope N_Procedure_parameters ["self"] (defScope s_Procedure_parameters) := ⟨rfl, rfl, rfl, by decide +kernel, rfl, by decide +kernel, by decide +kernel⟩
abbrev N_Procedure_body : List Str := ["self"]
theorem sc_Procedure_body : FnScope N_Procedure_body ["self"] (defScope s_Procedure_body) := ⟨rfl, rfl, rfl, by decide +kernel, rfl, by decide +kernel, by decide +kernel⟩
abbrev N_Procedure___len__ : List Str := ["self"]
theorem sc_Procedure___len__ : FnScope N_Procedure___len__ ["self"] (defScope s_Procedure___len__) := ⟨rfl, rfl, rfl, by decide +kernel, rfl, by decide +kernel, by decide +kernel⟩
abbrev N_Space___init__ : List Str := ["self", "modes", "watched", "powers", "turn", "mode"]
theorem sc_Space___init__ : FnScope N_Space___init__ ["self", "modes", "watched"] (defScope s_Space___init__) := ⟨rfl, rfl, rfl, by decide +kernel, rfl, by decide +kernel, by decide +kernel⟩
abbrev N_Space_bit : List Str := ["self", "mode", "end"]
theorem sc_Space_bit : FnScope N_Space_bit ["self", "mode", "end"] (defScope s_Space_bit) := ⟨rfl, rfl, rfl, by decide +kernel, rfl, by decide +kernel, by decide +kernel⟩
abbrev N_Space_has : List Str := ["self", "relation", "mode", "end"]
theorem sc_Space_has : FnScope N_Space_has ["self", "relation", "mode", "end"] (defScope s_Space_has) := ⟨rfl, rfl, rfl, by decide +kernel, rfl, by decide +kernel, by decide +kernel⟩
abbrev N_Space_is_relation : List Str := ["self", "value"]
theorem sc_Space_is_relation : FnScope N_Space_is_relation ["self", "value"] (defScope s_Space_is_relation) := ⟨rfl, rfl, rfl, by decide +kernel, rfl, by decide +kernel, by decide +kernel⟩
abbrev N_Space_require_relation : List Str := ["self", "value"]
theorem sc_Space_require_relation : FnScope N_Space_require_relation ["self", "value"] (defScope s_Space_require_relation) := ⟨rfl, rfl, rfl, by decide +kernel, rfl, by decide +kernel, by decide +kernel⟩
abbrev N_Space_pairs : List Str := ["self", "relation", "every", "mode", "end", "pair"]
theorem sc_Space_pairs : FnScope N_Space_pairs ["self", "relation"] (defScope s_Space_pairs) := ⟨rfl, rfl, rfl, by decide +kernel, rfl, by decide +kernel, by decide +kernel⟩
abbrev N_Space_is_table : List Str := ["self", "value", "entry"]
theorem sc_Space_is_table : FnScope N_Space_is_table ["self", "value"] (defScope s_Space_is_table) := ⟨rfl, rfl, rfl, by decide +kernel, rfl, by decide +kernel, by decide +kernel⟩
abbrev N_Space_require_table : List Str := ["self", "value"]
theorem sc_Space_require_table : FnScope N_Space_require_table ["self", "value"] (defScope s_Space_require_table) := ⟨rfl, rfl, rfl, by decide +kernel, rfl, by decide +kernel, by decide +kernel⟩
abbrev N_Space_is_monotone : List Str := ["self", "table", "steps", "one", "power", "other"]
theorem sc_Space_is_monotone : FnScope N_Space_is_monotone ["self", "table"] (defScope s_Space_is_monotone) := ⟨rfl, rfl, rfl, by decide +kernel, rfl, by decide +kernel, by decide +kernel⟩
abbrev N_deed_from : List Str := ["modes", "mode", "end", "one"]
theorem sc_deed_from : FnScope N_deed_from ["modes", "mode", "end"] (defScope s_deed_from) := ⟨rfl, rfl, rfl, by decide +kernel, rfl, by decide +kernel, by decide +kernel⟩
abbrev N_either_of : List Str := ["modes", "terms"]
theorem sc_either_of : FnScope N_either_of ["modes", "terms"] (defScope s_either_of) := ⟨rfl, rfl, rfl, by decide +kernel, rfl, by decide +kernel, by decide +kernel⟩
abbrev N_least_relations : List Str := ["space", "table", "mode", "end", "having", "one", "other"]
theorem sc_least_relations : FnScope N_least_relations ["space", "table", "mode", "end"] (defScope s_least_relations) := ⟨rfl, rfl, rfl, by decide +kernel, rfl, by decide +kernel, by decide +kernel⟩
abbrev N_seq_for : List Str := ["space", "relation", "mode", "end", "terms", "here", "first", "last"]
theorem sc_seq_for : FnScope N_seq_for ["space", "relation", "mode", "end"] (defScope s_seq_for) := ⟨rfl, rfl, rfl, by decide +kernel, rfl, by decide +kernel, by decide +kernel⟩
abbrev N_terms_for : List Str := ["space", "table", "terms", "many", "mode", "end", "relation"]
theorem sc_terms_for : FnScope N_terms_for ["space", "table"] (defScope s_terms_for) := ⟨rfl, rfl, rfl, by decide +kernel, rfl, by decide +kernel, by decide +kernel⟩
abbrev N_wrap_of : List Str := ["modes", "name", "table", "space", "terms", "many"]
theorem sc_wrap_of : FnScope N_wrap_of ["modes", "name", "table"] (defScope s_wrap_of) := ⟨rfl, rfl, rfl, by decide +kernel, rfl, by decide +kernel, by decide +kernel⟩
abbrev N__law_pail : List Str := ["_law_script", "_law_at", "_law_cell", "_law_great", "_law_mixed"]
theorem sc__law_pail : FnScope N__law_pail ["_law_script", "_law_at"] (defScope s__law_pail) := ⟨rfl, rfl, rfl, by decide +kernel, rfl, by decide +kernel, by decide +kernel⟩
abbrev N__law_dip : List Str := ["_law_pail_here", "_law_total", "_law_found", "_law_one", "_law_two"]
theorem sc__law_dip : FnScope N__law_dip ["_law_pail_here", "_law_total"] (defScope s__law_dip) := ⟨rfl, rfl, rfl, by decide +kernel, rfl, by decide +kernel, by decide +kernel⟩
abbrev N__law_pick : List Str := ["_law_pail_here", "_law_items"]
theorem sc__law_pick : FnScope N__law_pick ["_law_pail_here", "_law_items"] (defScope s__law_pick) := ⟨rfl, rfl, rfl, by decide +kernel, rfl, by decide +kernel, by decide +kernel⟩
abbrev N__law_has : List Str := ["_law_modes", "_law_relation", "_law_mode", "_law_end"]
theorem sc__law_has : FnScope N__law_has ["_law_modes", "_law_relation", "_law_mode", "_law_end"] (defScope s__law_has) := ⟨rfl, rfl, rfl, by decide +kernel, rfl, by decide +kernel, by decide +kernel⟩
abbrev N__law_bit : List Str := ["_law_modes", "_law_mode", "_law_end"]
theorem sc__law_bit : FnScope N__law_bit ["_law_modes", "_law_mode", "_law_end"] (defScope s__law_bit) := ⟨rfl, rfl, rfl, by decide +kernel, rfl, by decide +kernel, by decide +kernel⟩
abbrev N__law_size : List Str := ["_law_modes"]
theorem sc__law_size : FnScope N__law_size ["_law_modes"] (defScope s__law_size) := ⟨rfl, rfl, rfl, by decide +kernel, rfl, by decide +kernel, by decide +kernel⟩
abbrev N__law_after : List Str := ["_law_modes", "_law_one", "_law_other", "_law_found", "_law_mode", "_law_end", "_law_ways", "_law_is_led", "_law_way"]
theorem sc__law_after : FnScope N__law_after ["_law_modes", "_law_one", "_law_other"] (defScope s__law_after) := ⟨rfl, rfl, rfl, by decide +kernel, rfl, by decide +kernel, by decide +kernel⟩
abbrev N__law_either : List Str := ["_law_modes", "_law_one", "_law_other", "_law_found", "_law_mode", "_law_end", "_law_is_there"]
theorem sc__law_either : FnScope N__law_either ["_law_modes", "_law_one", "_law_other"] (defScope s__law_either) := ⟨rfl, rfl, rfl, by decide +kernel, rfl, by decide +kernel, by decide +kernel⟩
abbrev N__law_asked : List Str := ["_law_book", "_law_asked_here", "_law_context"]
theorem sc__law_asked : FnScope N__law_asked ["_law_book", "_law_asked_here", "_law_context"] (defScope s__law_asked) := ⟨rfl, rfl, rfl, by decide +kernel, rfl, by decide +kernel, by decide +kernel⟩
abbrev N__law_reckon : List Str := ["_law_modes", "_law_term", "_law_mine", "_law_book", "_law_asked_here", "_law_found", "_law_inner", "_law_wrap", "_law_mode", "_law_end"]
theorem sc__law_reckon : FnScope N__law_reckon ["_law_modes", "_law_term", "_law_mine", "_law_book", "_law_asked_here"] (defScope s__law_reckon) := ⟨rfl, rfl, rfl, by decide +kernel, rfl, by decide +kernel, by decide +kernel⟩
abbrev N__law_meanings : List Str := ["_law_modes", "_law_some", "_law_mine", "_law_book", "_law_asked_here", "_law_found", "_law_one", "_law_ahead", "_law_rows_here", "_law_relation", "_law_row"]
theorem sc__law_meanings : FnScope N__law_meanings ["_law_modes", "_law_some", "_law_mine", "_law_book", "_law_asked_here"] (defScope s__law_meanings) := ⟨rfl, rfl, rfl, by decide +kernel, rfl, by decide +kernel, by decide +kernel⟩
abbrev N__law_pieces : List Str := ["_law_term", "_law_found", "_law_at", "_law_one"]
theorem sc__law_pieces : FnScope N__law_pieces ["_law_term"] (defScope s__law_pieces) := ⟨rfl, rfl, rfl, by decide +kernel, rfl, by decide +kernel, by decide +kernel⟩
abbrev N__law_depth : List Str := ["_law_term", "_law_inner"]
theorem sc__law_depth : FnScope N__law_depth ["_law_term"] (defScope s__law_depth) := ⟨rfl, rfl, rfl, by decide +kernel, rfl, by decide +kernel, by decide +kernel⟩
abbrev N__law_is_plain : List Str := ["_law_term", "_law_words", "_law_pieces_here", "_law_one"]
theorem sc__law_is_plain : FnScope N__law_is_plain ["_law_term", "_law_words"] (defScope s__law_is_plain) := ⟨rfl, rfl, rfl, by decide +kernel, rfl, by decide +kernel, by decide +kernel⟩
abbrev N__law_least : List Str := ["_law_modes", "_law_table", "_law_mode", "_law_end", "_law_having", "_law_found", "_law_one", "_law_other"]
theorem sc__law_least : FnScope N__law_least ["_law_modes", "_law_table", "_law_mode", "_law_end"] (defScope s__law_least) := ⟨rfl, rfl, rfl, by decide +kernel, rfl, by decide +kernel, by decide +kernel⟩
abbrev N__law_drawn_table : List Str := ["_law_pail_here", "_law_modes", "_law_rows_here", "_law_turn", "_law_found", "_law_relation", "_law_entry", "_law_one", "_law_other"]
theorem sc__law_drawn_table : FnScope N__law_drawn_table ["_law_pail_here", "_law_modes"] (defScope s__law_drawn_table) := ⟨rfl, rfl, rfl, by decide +kernel, rfl, by decide +kernel, by decide +kernel⟩
abbrev N__law_terms : List Str := ["_law_modes", "_law_table", "_law_found", "_law_mode", "_law_end", "_law_relation", "_law_spots", "_law_pairs", "_law_spot"]
theorem sc__law_terms : FnScope N__law_terms ["_law_modes", "_law_table"] (defScope s__law_terms) := ⟨rfl, rfl, rfl, by decide +kernel, rfl, by decide +kernel, by decide +kernel⟩
abbrev N__law_tried : List Str := ["_law_modes", "_law_table", "e"]
theorem sc__law_tried : FnScope N__law_tried ["_law_modes", "_law_table"] (defScope s__law_tried) := ⟨rfl, rfl, rfl, by decide +kernel, rfl, by decide +kernel, by decide +kernel⟩
abbrev N__law_is_monotone : List Str := ["_law_modes", "_law_table", "_law_one", "_law_other", "_law_is_within"]
theorem sc__law_is_monotone : FnScope N__law_is_monotone ["_law_modes", "_law_table"] (defScope s__law_is_monotone) := ⟨rfl, rfl, rfl, by decide +kernel, rfl, by decide +kernel, by decide +kernel⟩
abbrev N__law_judged : List Str := ["_law_modes", "_law_table", "_law_told", "_law_relation"]
theorem sc__law_judged : FnScope N__law_judged ["_law_modes", "_law_table"] (defScope s__law_judged) := ⟨rfl, rfl, rfl, by decide +kernel, rfl, by decide +kernel, by decide +kernel⟩
abbrev N_law : List Str := ["_law_script", "_law_at", "_law_pail_here", "_law_turn", "_law_modes", "_law_table", "_law_spot", "_law_bent"]
theorem sc_law : FnScope N_law ["_law_script"] (defScope s_law) := ⟨rfl, rfl, rfl, by decide +kernel, rfl, by decide +kernel, by decide +kernel⟩
structure Facts (K : PySem.W.Frag) (C_Procedure : Addr) (C_Space : Addr) (C_InvalidProgram : Addr) (C_InvalidMeaning : Addr) (C_InvalidOperation : Addr) (C_InvalidNumber : Addr) (C_TooMany : Addr) : Prop where
  cls_Procedure : HasCls K "Procedure" C_Procedure
  cls_Space : HasCls K "Space" C_Space
  d_is_integer : HasDef K "is_integer" s_is_integer
  d_is_from : HasDef K "is_from" s_is_from
  d_is_name : HasDef K "is_name" s_is_name
  d_has_word : HasDef K "has_word" s_has_word
  d_is_deed_table : HasDef K "is_deed_table" s_is_deed_table
  d_is_kind : HasDef K "is_kind" s_is_kind
  d_is_term_in : HasDef K "is_term_in" s_is_term_in
  d_is_wrap_in : HasDef K "is_wrap_in" s_is_wrap_in
  d_is_piece : HasDef K "is_piece" s_is_piece
  d_are_given : HasDef K "are_given" s_are_given
  d_inside : HasDef K "inside" s_inside
  d_pieces_of : HasDef K "pieces_of" s_pieces_of
  d_are_parameters : HasDef K "are_parameters" s_are_parameters
  d_is_body : HasDef K "is_body" s_is_body
  d_deed_from : HasDef K "deed_from" s_deed_from
  d_either_of : HasDef K "either_of" s_either_of
  d_least_relations : HasDef K "least_relations" s_least_relations
  d_seq_for : HasDef K "seq_for" s_seq_for
  d_terms_for : HasDef K "terms_for" s_terms_for
  d_wrap_of : HasDef K "wrap_of" s_wrap_of
  d__law_pail : HasDef K "_law_pail" s__law_pail
  d__law_dip : HasDef K "_law_dip" s__law_dip
  d__law_pick : HasDef K "_law_pick" s__law_pick
  d__law_has : HasDef K "_law_has" s__law_has
  d__law_bit : HasDef K "_law_bit" s__law_bit
  d__law_size : HasDef K "_law_size" s__law_size
  d__law_after : HasDef K "_law_after" s__law_after
  d__law_either : HasDef K "_law_either" s__law_either
  d__law_asked : HasDef K "_law_asked" s__law_asked
  d__law_reckon : HasDef K "_law_reckon" s__law_reckon
  d__law_meanings : HasDef K "_law_meanings" s__law_meanings
  d__law_pieces : HasDef K "_law_pieces" s__law_pieces
  d__law_depth : HasDef K "_law_depth" s__law_depth
  d__law_is_plain : HasDef K "_law_is_plain" s__law_is_plain
  d__law_least : HasDef K "_law_least" s__law_least
  d__law_drawn_table : HasDef K "_law_drawn_table" s__law_drawn_table
  d__law_terms : HasDef K "_law_terms" s__law_terms
  d__law_tried : HasDef K "_law_tried" s__law_tried
  d__law_is_monotone : HasDef K "_law_is_monotone" s__law_is_monotone
  d__law_judged : HasDef K "_law_judged" s__law_judged
  d_law : HasDef K "law" s_law
  m_Procedure___init__ : HasMeth K C_Procedure "__init__" "Procedure.__init__" s_Procedure___init__
  p_Procedure_named : HasProp K C_Procedure "named" "Procedure.named" s_Procedure_named
  p_Procedure_parameters : HasProp K C_Procedure "parameters" "Procedure.parameters" s_Procedure_parameters
  p_Procedure_body : HasProp K C_Procedure "body" "Procedure.body" s_Procedure_body
  m_Procedure___len__ : HasMeth K C_Procedure "__len__" "Procedure.__len__" s_Procedure___len__
  m_Procedure___eq__ : HasMeth K C_Procedure "__eq__" "Procedure.__eq__" s_Procedure___eq__
  m_Procedure___str__ : HasMeth K C_Procedure "__str__" "Procedure.__str__" s_Procedure___str__
  i_Space : HasInitK K C_Space "Space.__init__" s_Space___init__ [("watched", (.bl false))]
  m_Space_bit : HasMeth K C_Space "bit" "Space.bit" s_Space_bit
  m_Space_has : HasMeth K C_Space "has" "Space.has" s_Space_has
  m_Space_is_relation : HasMeth K C_Space "is_relation" "Space.is_relation" s_Space_is_relation
  m_Space_require_relation : HasMeth K C_Space "require_relation" "Space.require_relation" s_Space_require_relation
  m_Space_pairs : HasMeth K C_Space "pairs" "Space.pairs" s_Space_pairs
  m_Space_is_table : HasMeth K C_Space "is_table" "Space.is_table" s_Space_is_table
  m_Space_require_table : HasMeth K C_Space "require_table" "Space.require_table" s_Space_require_table
  m_Space_is_monotone : HasMeth K C_Space "is_monotone" "Space.is_monotone" s_Space_is_monotone
  n_Procedure_own_name : NoAttr K C_Procedure "own_name"
  n_Procedure_own_parameters : NoAttr K C_Procedure "own_parameters"
  n_Procedure_own_body : NoAttr K C_Procedure "own_body"
  n_Procedure_own_kinds : NoAttr K C_Procedure "own_kinds"
  n_Procedure_own_pieces : NoAttr K C_Procedure "own_pieces"
  n_Procedure_own_shape : NoAttr K C_Procedure "own_shape"
  n_Space_own_modes : NoAttr K C_Space "own_modes"
  n_Space_own_watched : NoAttr K C_Space "own_watched"
  n_Space_own_ends : NoAttr K C_Space "own_ends"
  n_Space_own_powers : NoAttr K C_Space "own_powers"
  n_Space_own_size : NoAttr K C_Space "own_size"
  n_Space_own_same : NoAttr K C_Space "own_same"
  x_InvalidProgram : XCls K "InvalidProgram" C_InvalidProgram
  x_InvalidMeaning : XCls K "InvalidMeaning" C_InvalidMeaning
  x_InvalidOperation : XCls K "InvalidOperation" C_InvalidOperation
  xe_InvalidNumber : XErr K "InvalidNumber" C_InvalidNumber "InvalidNumber.__init__" s_InvalidNumber___init__ "value" "IndexError" "IndexError.__new__" "IndexError.__init__" [.type "IndexError", .type "LookupError", .type "Exception", .type "BaseException", .type "object"]
  zb_InvalidNumber : PySem.W.nsIn K mainGlobals "IndexError" = some none
  xe_TooMany : XErr K "TooMany" C_TooMany "TooMany.__init__" s_TooMany___init__ "limit" "OverflowError" "OverflowError.__new__" "OverflowError.__init__" [.type "OverflowError", .type "ArithmeticError", .type "Exception", .type "BaseException", .type "object"]
  zb_TooMany : PySem.W.nsIn K mainGlobals "OverflowError" = some none
  em_InvalidProgram_InvalidProgram : PySem.W.exmOne K (.ref C_InvalidProgram) (.ref C_InvalidProgram) = some true
  em_InvalidProgram_InvalidMeaning : PySem.W.exmOne K (.ref C_InvalidProgram) (.ref C_InvalidMeaning) = some false
  em_InvalidProgram_InvalidOperation : PySem.W.exmOne K (.ref C_InvalidProgram) (.ref C_InvalidOperation) = some false
  em_InvalidProgram_InvalidNumber : PySem.W.exmOne K (.ref C_InvalidProgram) (.ref C_InvalidNumber) = some false
  em_InvalidProgram_TooMany : PySem.W.exmOne K (.ref C_InvalidProgram) (.ref C_TooMany) = some false
  em_InvalidMeaning_InvalidProgram : PySem.W.exmOne K (.ref C_InvalidMeaning) (.ref C_InvalidProgram) = some false
  em_InvalidMeaning_InvalidMeaning : PySem.W.exmOne K (.ref C_InvalidMeaning) (.ref C_InvalidMeaning) = some true
  em_InvalidMeaning_InvalidOperation : PySem.W.exmOne K (.ref C_InvalidMeaning) (.ref C_InvalidOperation) = some false
  em_InvalidMeaning_InvalidNumber : PySem.W.exmOne K (.ref C_InvalidMeaning) (.ref C_InvalidNumber) = some false
  em_InvalidMeaning_TooMany : PySem.W.exmOne K (.ref C_InvalidMeaning) (.ref C_TooMany) = some false
  em_InvalidOperation_InvalidProgram : PySem.W.exmOne K (.ref C_InvalidOperation) (.ref C_InvalidProgram) = some false
  em_InvalidOperation_InvalidMeaning : PySem.W.exmOne K (.ref C_InvalidOperation) (.ref C_InvalidMeaning) = some false
  em_InvalidOperation_InvalidOperation : PySem.W.exmOne K (.ref C_InvalidOperation) (.ref C_InvalidOperation) = some true
  em_InvalidOperation_InvalidNumber : PySem.W.exmOne K (.ref C_InvalidOperation) (.ref C_InvalidNumber) = some false
  em_InvalidOperation_TooMany : PySem.W.exmOne K (.ref C_InvalidOperation) (.ref C_TooMany) = some false
  em_InvalidNumber_InvalidProgram : PySem.W.exmOne K (.ref C_InvalidNumber) (.ref C_InvalidProgram) = some false
  em_InvalidNumber_InvalidMeaning : PySem.W.exmOne K (.ref C_InvalidNumber) (.ref C_InvalidMeaning) = some false
  em_InvalidNumber_InvalidOperation : PySem.W.exmOne K (.ref C_InvalidNumber) (.ref C_InvalidOperation) = some false
  em_InvalidNumber_InvalidNumber : PySem.W.exmOne K (.ref C_InvalidNumber) (.ref C_InvalidNumber) = some true
  em_InvalidNumber_TooMany : PySem.W.exmOne K (.ref C_InvalidNumber) (.ref C_TooMany) = some false
  em_TooMany_InvalidProgram : PySem.W.exmOne K (.ref C_TooMany) (.ref C_InvalidProgram) = some false
  em_TooMany_InvalidMeaning : PySem.W.exmOne K (.ref C_TooMany) (.ref C_InvalidMeaning) = some false
  em_TooMany_InvalidOperation : PySem.W.exmOne K (.ref C_TooMany) (.ref C_InvalidOperation) = some false
  em_TooMany_InvalidNumber : PySem.W.exmOne K (.ref C_TooMany) (.ref C_InvalidNumber) = some false
  em_TooMany_TooMany : PySem.W.exmOne K (.ref C_TooMany) (.ref C_TooMany) = some true
  ne_Procedure : PySem.W.findIn K (.ref C_Procedure) "__ne__" = some (some (.builtin "object.__ne__"))
  kt_NoneType : PySem.W.kitOne K (.type "NoneType") (.ref C_Procedure) = some false
  nf_NoneType : PySem.W.notFirst K C_Procedure (.type "NoneType") = true
  kt_bool : PySem.W.kitOne K (.type "bool") (.ref C_Procedure) = some false
  nf_bool : PySem.W.notFirst K C_Procedure (.type "bool") = true
  kt_int : PySem.W.kitOne K (.type "int") (.ref C_Procedure) = some false
  nf_int : PySem.W.notFirst K C_Procedure (.type "int") = true
  kt_str : PySem.W.kitOne K (.type "str") (.ref C_Procedure) = some false
  nf_str : PySem.W.notFirst K C_Procedure (.type "str") = true
  kt_list : PySem.W.kitOne K (.type "list") (.ref C_Procedure) = some false
  nf_list : PySem.W.notFirst K C_Procedure (.type "list") = true
  kt_tuple : PySem.W.kitOne K (.type "tuple") (.ref C_Procedure) = some false
  nf_tuple : PySem.W.notFirst K C_Procedure (.type "tuple") = true
  kt_dict : PySem.W.kitOne K (.type "dict") (.ref C_Procedure) = some false
  nf_dict : PySem.W.notFirst K C_Procedure (.type "dict") = true
  mr_str : PySem.W.mroIn K C_Procedure (.type "str") = some false
  z_abs : PySem.W.nsIn K mainGlobals "abs" = some none
  z_all : PySem.W.nsIn K mainGlobals "all" = some none
  z_any : PySem.W.nsIn K mainGlobals "any" = some none
  z_bool : PySem.W.nsIn K mainGlobals "bool" = some none
  z_dict : PySem.W.nsIn K mainGlobals "dict" = some none
  z_enumerate : PySem.W.nsIn K mainGlobals "enumerate" = some none
  z_int : PySem.W.nsIn K mainGlobals "int" = some none
  z_isinstance : PySem.W.nsIn K mainGlobals "isinstance" = some none
  z_len : PySem.W.nsIn K mainGlobals "len" = some none
  z_list : PySem.W.nsIn K mainGlobals "list" = some none
  z_max : PySem.W.nsIn K mainGlobals "max" = some none
  z_min : PySem.W.nsIn K mainGlobals "min" = some none
  z_range : PySem.W.nsIn K mainGlobals "range" = some none
  z_repr : PySem.W.nsIn K mainGlobals "repr" = some none
  z_str : PySem.W.nsIn K mainGlobals "str" = some none
  z_sum : PySem.W.nsIn K mainGlobals "sum" = some none
  z_tuple : PySem.W.nsIn K mainGlobals "tuple" = some none
  c_LETTERS : ∃ t, PySem.W.nsIn K mainGlobals "LETTERS" = some (some (.str "abcdefghijklmnopqrstuvwxyz" t))
  c_MAX_LETTERS : ∃ t, PySem.W.nsIn K mainGlobals "MAX_LETTERS" = some (some (.int 8 t))
  c_BLOCK : ∃ t, PySem.W.nsIn K mainGlobals "BLOCK" = some (some (.str "block" t))
  c_WRAP : ∃ t, PySem.W.nsIn K mainGlobals "WRAP" = some (some (.str "wrap" t))
  c_TERM_WORDS : KStrs K "TERM_WORDS" ["do", "seq", "or", "run", "call", "wrap"]
  c_WRAP_WORDS : KStrs K "WRAP_WORDS" ["own", "with"]
  c_MAX_PARAMETERS : ∃ t, PySem.W.nsIn K mainGlobals "MAX_PARAMETERS" = some (some (.int 3 t))
  c_MAX_DEPTH : ∃ t, PySem.W.nsIn K mainGlobals "MAX_DEPTH" = some (some (.int 6 t))
  c_MAX_TERMS : ∃ t, PySem.W.nsIn K mainGlobals "MAX_TERMS" = some (some (.int 40 t))
  c_MAX_MODES : ∃ t, PySem.W.nsIn K mainGlobals "MAX_MODES" = some (some (.int 3 t))
  c_GO : ∃ t, PySem.W.nsIn K mainGlobals "GO" = some (some (.str "go" t))
/-- the built-ins' names are free; the module's constants -/
structure Zs (mg : Str → Option Value) : Prop where
  abs : mg "abs" = none
  all : mg "all" = none
  any : mg "any" = none
  bool : mg "bool" = none
  dict : mg "dict" = none
  enumerate : mg "enumerate" = none
  int : mg "int" = none
  isinstance : mg "isinstance" = none
  len : mg "len" = none
  list : mg "list" = none
  max : mg "max" = none
  min : mg "min" = none
  range : mg "range" = none
  repr : mg "repr" = none
  str : mg "str" = none
  sum : mg "sum" = none
  tuple : mg "tuple" = none
  c_LETTERS : ∃ t, mg "LETTERS" = some (.str "abcdefghijklmnopqrstuvwxyz" t)
  c_MAX_LETTERS : ∃ t, mg "MAX_LETTERS" = some (.int 8 t)
  c_BLOCK : ∃ t, mg "BLOCK" = some (.str "block" t)
  c_WRAP : ∃ t, mg "WRAP" = some (.str "wrap" t)
  c_MAX_PARAMETERS : ∃ t, mg "MAX_PARAMETERS" = some (.int 3 t)
  c_MAX_DEPTH : ∃ t, mg "MAX_DEPTH" = some (.int 6 t)
  c_MAX_TERMS : ∃ t, mg "MAX_TERMS" = some (.int 40 t)
  c_MAX_MODES : ∃ t, mg "MAX_MODES" = some (.int 3 t)
  c_GO : ∃ t, mg "GO" = some (.str "go" t)
theorem zs_of {K : PySem.W.Frag} {mg : Str → Option Value} {C_Procedure : Addr} {C_Space : Addr} {C_InvalidProgram : Addr} {C_InvalidMeaning : Addr} {C_InvalidOperation : Addr} {C_InvalidNumber : Addr} {C_TooMany : Addr} (A : Facts K C_Procedure C_Space C_InvalidProgram C_InvalidMeaning C_InvalidOperation C_InvalidNumber C_TooMany) (M : MgOf K mg) : Zs mg where
  abs := M.of _ _ A.z_abs
  all := M.of _ _ A.z_all
  any := M.of _ _ A.z_any
  bool := M.of _ _ A.z_bool
  dict := M.of _ _ A.z_dict
  enumerate := M.of _ _ A.z_enumerate
  int := M.of _ _ A.z_int
  isinstance := M.of _ _ A.z_isinstance
  len := M.of _ _ A.z_len
  list := M.of _ _ A.z_list
  max := M.of _ _ A.z_max
  min := M.of _ _ A.z_min
  range := M.of _ _ A.z_range
  repr := M.of _ _ A.z_repr
  str := M.of _ _ A.z_str
  sum := M.of _ _ A.z_sum
  tuple := M.of _ _ A.z_tuple
  c_LETTERS := let ⟨_, e⟩ := A.c_LETTERS; ⟨_, M.of _ _ e⟩
  c_MAX_LETTERS := let ⟨_, e⟩ := A.c_MAX_LETTERS; ⟨_, M.of _ _ e⟩
  c_BLOCK := let ⟨_, e⟩ := A.c_BLOCK; ⟨_, M.of _ _ e⟩
  c_WRAP := let ⟨_, e⟩ := A.c_WRAP; ⟨_, M.of _ _ e⟩
  c_MAX_PARAMETERS := let ⟨_, e⟩ := A.c_MAX_PARAMETERS; ⟨_, M.of _ _ e⟩
  c_MAX_DEPTH := let ⟨_, e⟩ := A.c_MAX_DEPTH; ⟨_, M.of _ _ e⟩
  c_MAX_TERMS := let ⟨_, e⟩ := A.c_MAX_TERMS; ⟨_, M.of _ _ e⟩
  c_MAX_MODES := let ⟨_, e⟩ := A.c_MAX_MODES; ⟨_, M.of _ _ e⟩
  c_GO := let ⟨_, e⟩ := A.c_GO; ⟨_, M.of _ _ e⟩
theorem D_InvalidNumber___init__ {P : Program} {w : World} {K : PySem.W.Frag} {mg : Str → Option Value} {base : Heap} {C_Procedure : Addr} {C_Space : Addr} {C_InvalidProgram : Addr} {C_InvalidMeaning : Addr} {C_InvalidOperation : Addr} {C_InvalidNumber : Addr} {C_TooMany : Addr} (A : Facts K C_Procedure C_Space C_InvalidProgram C_InvalidMeaning C_InvalidOperation C_InvalidNumber C_TooMany) (M : MgOf K mg) (Z : Zs mg) : KnErr P w K mg base "InvalidNumber" C_InvalidNumber "value" 1 :=
  KnErr.of A.xe_InvalidNumber M sc_InvalidNumber___init__ (fun _ _ _ _ _ _ us hl => match us, hl with | [_, _], _ => rfl) fun fI cdv A0 outer s H E => ⟨_, pss_cons (ps_expr (pe_binit (nB := "IndexError") (by rfl) (M.of _ _ A.zb_InvalidNumber) rfl (by decide) (by decide) rfl A.xe_InvalidNumber.vV (by decide +kernel) (by decide +kernel) (pa_cons (pe_var (i := 0) rfl (Or.inl rfl)) (pa_cons (pe_var (i := 1) rfl (Or.inl rfl)) pa_nil)))) (pss_one (ps_ostT (pe_var (i := 0) rfl (Or.inl rfl)) (pe_var (i := 1) rfl (Or.inl rfl)))), fun a v Q ha q => err_end A.xe_InvalidNumber.T A.xe_InvalidNumber.no ha q⟩
theorem D_TooMany___init__ {P : Program} {w : World} {K : PySem.W.Frag} {mg : Str → Option Value} {base : Heap} {C_Procedure : Addr} {C_Space : Addr} {C_InvalidProgram : Addr} {C_InvalidMeaning : Addr} {C_InvalidOperation : Addr} {C_InvalidNumber : Addr} {C_TooMany : Addr} (A : Facts K C_Procedure C_Space C_InvalidProgram C_InvalidMeaning C_InvalidOperation C_InvalidNumber C_TooMany) (M : MgOf K mg) (Z : Zs mg) : KnErr P w K mg base "TooMany" C_TooMany "limit" 1 :=
  KnErr.of A.xe_TooMany M sc_TooMany___init__ (fun _ _ _ _ _ _ us hl => match us, hl with | [_, _], _ => rfl) fun fI cdv A0 outer s H E => ⟨_, pss_cons (ps_expr (pe_binit (nB := "OverflowError") (by rfl) (M.of _ _ A.zb_TooMany) rfl (by decide) (by decide) rfl A.xe_TooMany.vV (by decide +kernel) (by decide +kernel) (pa_cons (pe_var (i := 0) rfl (Or.inl rfl)) (pa_cons (pe_var (i := 1) rfl (Or.inl rfl)) pa_nil)))) (pss_one (ps_ostT (pe_var (i := 0) rfl (Or.inl rfl)) (pe_var (i := 1) rfl (Or.inl rfl)))), fun a v Q ha q => err_end A.xe_TooMany.T A.xe_TooMany.no ha q⟩
def isI : Da → Bool
  | .int _ => true
  | _ => false
def isFr (x : Da) (a b : Int) : Bool := match x with
  | .int i => decide (a ≤ i) && decide (i ≤ b)
  | _ => false
def spIsInt : DSp := fun ds M Q _ => ∃ x, ds = [x] ∧ pv x ∧ Q (.bl (isI x)) M
def spIsFrom : DSp := fun ds M Q _ => ∃ x a b, ds = [x, .int a, .int b] ∧ pv x ∧ Q (.bl (isFr x a b)) M
def spIsName : DSp := fun ds M Q _ => ∃ x, ds = [x] ∧ pv x ∧ Q (.bl (nameD x)) M
theorem D_is_integer {P : Program} {w : World} {K : PySem.W.Frag} {mg : Str → Option Value} {base : Heap} {C_Procedure : Addr} {C_Space : Addr} {C_InvalidProgram : Addr} {C_InvalidMeaning : Addr} {C_InvalidOperation : Addr} {C_InvalidNumber : Addr} {C_TooMany : Addr} (A : Facts K C_Procedure C_Space C_InvalidProgram C_InvalidMeaning C_InvalidOperation C_InvalidNumber C_TooMany) (M : MgOf K mg) (Z : Zs mg)  : KnD P w K mg base "is_integer" 1 ["value"] spIsInt := by
  refine KnD.of A.d_is_integer M sc_is_integer (fun _ _ _ _ _ _ us hl => match us, hl with | [_], _ => rfl) (fun ds M Q E ⟨_, h, _⟩ => by rw [h]; rfl) (fun f cdv A0 outer s H E hr => ?_)
  have hu := U.hu_of hr
  have hu1 := U.hu1_of hr
  have nd := sc_is_integer.nd
  refine ⟨_, (z_one (z_ret (d_eand (d_b Z.isinstance b_isinstance (c_disiK (K := K) rfl) (d_cons (dn 0) (d_cons (d_ty Z.int b_int) d_nil))) (d_one (d_enot (d_b Z.isinstance b_isinstance (c_disiK (K := K) rfl) (d_cons (dn 0) (d_cons (d_ty Z.bool b_bool) d_nil)))))))), ?_⟩
  rintro ds M Q Ed ⟨x, rfl, ok, k⟩
  cases ok with
  | non => exact ⟨by decide, ifF (by decide) k⟩
  | bl b => exact ⟨by decide, ifT (by decide) ⟨by decide, k⟩⟩
  | int b => exact ⟨by decide, ifT (by decide) ⟨by decide, k⟩⟩
  | str b => exact ⟨by decide, ifF (by decide) k⟩
  | lst b => exact ⟨by decide, ifF (by decide) k⟩
  | tup b => exact ⟨by decide, ifF (by decide) k⟩
  | dct b => exact ⟨by decide, ifF (by decide) k⟩
theorem D_is_from {P : Program} {w : World} {K : PySem.W.Frag} {mg : Str → Option Value} {base : Heap} {C_Procedure : Addr} {C_Space : Addr} {C_InvalidProgram : Addr} {C_InvalidMeaning : Addr} {C_InvalidOperation : Addr} {C_InvalidNumber : Addr} {C_TooMany : Addr} (A : Facts K C_Procedure C_Space C_InvalidProgram C_InvalidMeaning C_InvalidOperation C_InvalidNumber C_TooMany) (M : MgOf K mg) (Z : Zs mg) (D_is_integer : KnD P w K mg base "is_integer" 1 ["value"] spIsInt) : KnD P w K mg base "is_from" 2 ["value", "first", "last"] spIsFrom := by
  refine KnD.of A.d_is_from M sc_is_from (fun _ _ _ _ _ _ us hl => match us, hl with | [_, _, _], _ => rfl) (fun ds M Q E ⟨_, _, _, h, _⟩ => by rw [h]; rfl) (fun f cdv A0 outer s H E hr => ?_)
  have hu := U.hu_of hr
  have hu1 := U.hu1_of hr
  have nd := sc_is_from.nd
  refine ⟨_, (z_one (z_ret (d_eand (d_call D_is_integer (hr.mono (by decide)) (d_cons (dn 0) d_nil)) (d_one (d_ech o_dle o_dle (dn 1) (dn 0) (dn 2)))))), ?_⟩
  rintro ds M Q Ed ⟨x, a, b, rfl, ok, k⟩
  refine ⟨x, rfl, ok, ?_⟩
  cases ok with
  | int i =>
    refine ifT rfl ?_
    show if _ then _ else _
    cases c : decide (a ≤ i) with
    | true =>
      have e : isFr (.int i) a b = decide (i ≤ b) := by show (decide _ && _) = _; rw [c]; rfl
      rw [e] at k
      exact ifT rfl k
    | false =>
      have e : isFr (.int i) a b = false := by show (decide _ && _) = _; rw [c]; rfl
      rw [e] at k
      exact ifF (by decide) k
  | _ => exact ifF Bool.false_ne_true k
theorem D_is_name {P : Program} {w : World} {K : PySem.W.Frag} {mg : Str → Option Value} {base : Heap} {C_Procedure : Addr} {C_Space : Addr} {C_InvalidProgram : Addr} {C_InvalidMeaning : Addr} {C_InvalidOperation : Addr} {C_InvalidNumber : Addr} {C_TooMany : Addr} (A : Facts K C_Procedure C_Space C_InvalidProgram C_InvalidMeaning C_InvalidOperation C_InvalidNumber C_TooMany) (M : MgOf K mg) (Z : Zs mg)  : KnD P w K mg base "is_name" 1 ["value"] spIsName := by
  refine KnD.of A.d_is_name M sc_is_name (fun _ _ _ _ _ _ us hl => match us, hl with | [_], _ => rfl) (fun ds M Q E ⟨_, h, _⟩ => by rw [h]; rfl) (fun f cdv A0 outer s H E hr => ?_)
  have hu := U.hu_of hr
  have hu1 := U.hu1_of hr
  have nd := sc_is_name.nd
  refine ⟨_, (z_cons (z_if (d_w (d_or (d_tnot (d_tv (d_b Z.isinstance b_isinstance (c_disiK (K := K) rfl) (d_cons (dn 0) (d_cons (d_ty Z.str b_str) d_nil))))) (d_or1 (d_tnot (d_tch o_dlt o_dle d_int (d_b Z.len b_len c_dlen (d_cons (dn 0) d_nil)) (d_gi Z.c_MAX_LETTERS)))))) (z_one (z_ret d_bl)) z_nil)
      (z_one (z_ret (d_b Z.all b_all (c_dall rfl) (d_cons (d_lc (own := [("letter", 1)]) (c := (.n 1)) rfl nd (d_it (dn 0)) (blkOk_by (own := [("letter", 1)]) (N := N_is_name) (sc := defScope s_is_name) (by decide +kernel)) (fun _ _ _ _ _ => (gn 1 nd)) (fun _ _ _ _ _ => d_ts0) (fun _ _ _ _ _ => (d_ecm o_dinC (dn 1) (d_gs Z.c_LETTERS)))) d_nil))))), ?_⟩
  rintro ds M Q Ed ⟨x, rfl, ok, k⟩
  cases ok with
  | str z hz =>
    have hl : z.length = z.cps.toList.length := by rw [Array.length_toList]; rfl
    refine ⟨by decide, ifF (by decide) ?_⟩
    have no : nameZ z = false → Q (.bl false) M := fun e => by
      have k' : Q (.bl (nameZ z)) M := k
      rw [e] at k'
      exact k'
    refine ⟨sz (by omega), ite2 (fun c => ?_) (fun c => ?_)⟩
    · have c' : 0 < z.length := by have := of_decide_eq_true c; omega
      refine ite2 (fun c2 => ?_) (fun c2 => ?_)
      · refine no ?_
        unfold nameZ
        rw [decide_eq_false (p := z.length ≤ 8) (fun h => by rw [decide_eq_true (by omega)] at c2; cases c2), Bool.and_false, Bool.false_and]
      · have c8 : z.length ≤ 8 := by
          apply Classical.byContradiction
          intro h
          exact c2 (by rw [decide_eq_false (by omega)]; rfl)
        refine ⟨sz (by unfold chrD; rw [List.length_map, ← hl]; omega), ?_⟩
        refine lcD_all (fun c => Da.bl (decide (c ∈ ("abcdefghijklmnopqrstuvwxyz" : Str).cps.toList))) (fun _ _ => trivial) (fun c _ Q q => ⟨c, _, rfl, rfl, q⟩) ?_
        refine ⟨_, asBls_fun _ _, ?_⟩
        have e : ((z.cps.toList.map fun c => decide (c ∈ ("abcdefghijklmnopqrstuvwxyz" : Str).cps.toList)).all id) = nameZ z := by
          unfold nameZ
          rw [decide_eq_true c', decide_eq_true c8, Bool.true_and, Bool.true_and, List.all_map]
          congr 1
          funext c
          exact letters c
        rw [e]
        exact k
    · refine ifT (by rfl) (no ?_)
      unfold nameZ
      rw [decide_eq_false (fun h => c (decide_eq_true (by omega)))]
      rfl
  | _ => exact ⟨by decide, ifT (by decide) (ifT (by rfl) k)⟩

def hasW (ws : List Str) : Da → Bool
  | .tup (.str z :: _) => ws.contains z
  | _ => false
def spHas : DSp := fun ds M Q _ => ∃ x ws, ds = [x, .tup (ws.map Da.str)] ∧ pv x ∧ Q (.bl (hasW ws x)) M
theorem D_has_word {P : Program} {w : World} {K : PySem.W.Frag} {mg : Str → Option Value} {base : Heap} {C_Procedure : Addr} {C_Space : Addr} {C_InvalidProgram : Addr} {C_InvalidMeaning : Addr} {C_InvalidOperation : Addr} {C_InvalidNumber : Addr} {C_TooMany : Addr} (A : Facts K C_Procedure C_Space C_InvalidProgram C_InvalidMeaning C_InvalidOperation C_InvalidNumber C_TooMany) (M : MgOf K mg) (Z : Zs mg)  : KnD P w K mg base "has_word" 1 ["value", "words"] spHas := by
  refine KnD.of A.d_has_word M sc_has_word (fun _ _ _ _ _ _ us hl => match us, hl with | [_, _], _ => rfl) (fun ds M Q E ⟨_, _, h, _⟩ => by rw [h]; rfl) (fun f cdv A0 outer s H E hr => ?_)
  have hu := U.hu_of hr
  have hu1 := U.hu1_of hr
  have nd := sc_has_word.nd
  refine ⟨_, (z_one (z_ret (d_eand (d_b Z.isinstance b_isinstance (c_disiK (K := K) rfl) (d_cons (dn 0) (d_cons (d_ty Z.tuple b_tuple) d_nil))) (d_eand (d_ecm (o_dneE hu) (dn 0) (d_tup d_nil)) (d_eand (d_b Z.isinstance b_isinstance (c_disiK (K := K) rfl) (d_cons (d_ix (dn 0) d_int) (d_cons (d_ty Z.str b_str) d_nil))) (d_one (d_ecm (o_din hu1) (d_ix (dn 0) d_int) (dn 1)))))))), ?_⟩
  rintro ds M Q Ed ⟨x, ws, rfl, ok, q⟩
  cases ok with
  | tup xs hl hx =>
    refine ⟨by decide, ifT (by decide) ?_⟩
    cases xs with
    | nil => exact ⟨rfl, q⟩
    | cons y ys =>
      refine ⟨rfl, y, (show atI (y :: ys) ((0 : Nat) : Int) = some y from atI_nat rfl), ?_⟩
      have oy := hx y List.mem_cons_self
      cases oy with
      | str z hz =>
        refine ⟨by decide, ifT (by decide) ⟨.str z, (show atI (.str z :: ys) ((0 : Nat) : Int) = some (.str z) from atI_nat rfl), flat_strs ws z, ?_⟩⟩
        rw [inD_strs]
        exact q
      | _ => exact ⟨by decide, ifF (by decide) q⟩
  | _ => exact ⟨by decide, ifF (by decide) q⟩
def isNon : Da → Bool
  | .non => true
  | _ => false
def tableB : Da → Bool
  | .tup xs => (decide (0 < xs.length) && decide (xs.length ≤ 3)) && xs.all fun e => isNon e || isFr e 0 2
  | _ => false
def spTable : DSp := fun ds M Q _ => ∃ x, ds = [x] ∧ pv x ∧ Q (.bl (tableB x)) M
theorem D_is_deed_table {P : Program} {w : World} {K : PySem.W.Frag} {mg : Str → Option Value} {base : Heap} {C_Procedure : Addr} {C_Space : Addr} {C_InvalidProgram : Addr} {C_InvalidMeaning : Addr} {C_InvalidOperation : Addr} {C_InvalidNumber : Addr} {C_TooMany : Addr} (A : Facts K C_Procedure C_Space C_InvalidProgram C_InvalidMeaning C_InvalidOperation C_InvalidNumber C_TooMany) (M : MgOf K mg) (Z : Zs mg) (D_is_from : KnD P w K mg base "is_from" 2 ["value", "first", "last"] spIsFrom) : KnD P w K mg base "is_deed_table" 3 ["value"] spTable := by
  refine KnD.of A.d_is_deed_table M sc_is_deed_table (fun _ _ _ _ _ _ us hl => match us, hl with | [_], _ => rfl) (fun ds M Q E ⟨_, h, _⟩ => by rw [h]; rfl) (fun f cdv A0 outer s H E hr => ?_)
  have hu := U.hu_of hr
  have hu1 := U.hu1_of hr
  have nd := sc_is_deed_table.nd
  refine ⟨_, (z_cons (z_if (d_w (d_or (d_tnot (d_tv (d_b Z.isinstance b_isinstance (c_disiK (K := K) rfl) (d_cons (dn 0) (d_cons (d_ty Z.tuple b_tuple) d_nil))))) (d_or1 (d_tnot (d_tch o_dlt o_dle d_int (d_b Z.len b_len c_dlen (d_cons (dn 0) d_nil)) (d_gi Z.c_MAX_MODES)))))) (z_one (z_ret d_bl)) z_nil)
      (z_one (z_ret (d_b Z.all b_all (c_dall rfl) (d_cons (d_lc (own := [("entry", 1)]) (c := (.n 1)) rfl nd (d_it (dn 0)) (blkOk_by (own := [("entry", 1)]) (N := N_is_deed_table) (sc := defScope s_is_deed_table) (by decide +kernel)) (fun _ _ _ _ _ => (gn 1 nd)) (fun _ _ _ _ _ => d_ts0) (fun _ _ _ _ _ => (d_eor (d_ecm o_disN (dn 1) d_non) (d_one (d_call D_is_from (hr.mono (by decide)) (d_cons (dn 1) (d_cons d_int (d_cons (d_op o_dsub (d_gi Z.c_MAX_MODES) d_int) d_nil)))))))) d_nil))))), ?_⟩
  rintro ds M Q Ed ⟨x, rfl, ok, q⟩
  cases ok with
  | tup xs hl hx =>
    have no : (decide (0 < xs.length) && decide (xs.length ≤ 3)) = false → Q (.bl false) M := fun e => by
      have k' : Q (.bl ((decide (0 < xs.length) && decide (xs.length ≤ 3)) && xs.all fun e => isNon e || isFr e 0 2)) M := q
      rw [e] at k'
      exact k'
    refine ⟨by decide, ifF (by decide) (ite2 (fun c => ?_) (fun c => ?_))⟩
    · have c' : 0 < xs.length := by have := of_decide_eq_true c; omega
      refine ite2 (fun c2 => ?_) (fun c2 => ?_)
      · refine no ?_
        rw [decide_eq_false (p := xs.length ≤ 3) (fun h => by rw [decide_eq_true (by omega)] at c2; cases c2), Bool.and_false]
      · have c8 : xs.length ≤ 3 := by
          apply Classical.byContradiction
          intro h
          exact c2 (by rw [decide_eq_false (by omega)]; rfl)
        refine ⟨sz (by omega), ?_⟩
        have key : xs = xs.map id := (List.map_id xs).symm
        rw [key]
        refine lcD_all (fun e => Da.bl (isNon e || isFr e 0 2)) (fun _ _ => trivial) (fun e he Q q => ?_) ?_
        · have oe := hx e he
          cases oe with
          | non => exact q
          | _ => exact ⟨_, 0, 2, rfl, hx _ he, q⟩
        · refine ⟨_, asBls_fun _ _, ?_⟩
          rw [List.all_map]
          have k' : Q (.bl ((decide (0 < xs.length) && decide (xs.length ≤ 3)) && xs.all fun e => isNon e || isFr e 0 2)) M := q
          rw [decide_eq_true c', decide_eq_true c8] at k'
          exact k'
    · refine ifT (by rfl) (no ?_)
      rw [decide_eq_false (fun h => c (decide_eq_true (by omega)))]
      rfl
  | _ => exact ⟨by decide, ifT (by decide) (ifT (by rfl) q)⟩
/-- the names' kinds -/
def KD (kvs : List (Key × Da)) : Prop := ∀ p ∈ kvs, ∃ z, p.2 = .str z
theorem KD.val {kvs : List (Key × Da)} (h : KD kvs) (k : Key) : valD kvs k = none ∨ ∃ z, valD kvs k = some (.str z) := by
  unfold valD
  cases e : kvs.find? fun kv => decide (kv.1 = k) with
  | none => exact .inl rfl
  | some p =>
    obtain ⟨z, hz⟩ := h p (List.mem_of_find?_eq_some e)
    exact .inr ⟨z, by rw [Option.map_some, hz]⟩
def strIs (o : Option Da) (k : Str) : Bool := match o with
  | some (.str z) => decide (z = k)
  | _ => false
def kindB (kvs : List (Key × Da)) (k : Str) : Da → Bool
  | .str z => strIs (valD kvs (.inr z)) k
  | _ => false
def spKind : DSp := fun ds M Q _ => ∃ kvs x k, ds = [.dct kvs, x, .str k] ∧ pv x ∧ KD kvs ∧ PyData.strOk k = true ∧ Q (.bl (kindB kvs k x)) M
theorem D_is_kind {P : Program} {w : World} {K : PySem.W.Frag} {mg : Str → Option Value} {base : Heap} {C_Procedure : Addr} {C_Space : Addr} {C_InvalidProgram : Addr} {C_InvalidMeaning : Addr} {C_InvalidOperation : Addr} {C_InvalidNumber : Addr} {C_TooMany : Addr} (A : Facts K C_Procedure C_Space C_InvalidProgram C_InvalidMeaning C_InvalidOperation C_InvalidNumber C_TooMany) (M : MgOf K mg) (Z : Zs mg)  : KnD P w K mg base "is_kind" 1 ["kinds", "value", "kind"] spKind := by
  refine KnD.of A.d_is_kind M sc_is_kind (fun _ _ _ _ _ _ us hl => match us, hl with | [_, _, _], _ => rfl) (fun ds M Q E ⟨_, _, _, h, _⟩ => by rw [h]; rfl) (fun f cdv A0 outer s H E hr => ?_)
  have hu := U.hu_of hr
  have hu1 := U.hu1_of hr
  have nd := sc_is_kind.nd
  refine ⟨_, (z_one (z_ret (d_eand (d_b Z.isinstance b_isinstance (c_disiK (K := K) rfl) (d_cons (dn 1) (d_cons (d_ty Z.str b_str) d_nil))) (d_one (d_ecm (o_deq hu) (d_get hu (dn 0) (dn 1)) (dn 2)))))), ?_⟩
  rintro ds M Q Ed ⟨kvs, x, k, rfl, ok, hk, hs, q⟩
  cases ok with
  | str z hz =>
    refine ⟨by decide, ifT (by decide) ⟨trivial, _, rfl, ?_⟩⟩
    have q' : Q (.bl (strIs (valD kvs (.inr z)) k)) M := q
    rcases hk.val (.inr z) with e | ⟨y, e⟩
    · rw [e] at q' ⊢
      exact ⟨rfl, (okN_str hs (n := 0)).ok (by decide), q'⟩
    · rw [e] at q' ⊢
      exact q'
  | _ => exact ⟨by decide, ifF (by decide) q⟩
def TW : List Str := ["do", "seq", "or", "run", "call", "wrap"]
def WW : List Str := ["own", "with"]
/-- a piece's body, by what is told of the pieces in it -/
def bodyB (r : List Str → Da → Bool) (kvs : List (Key × Da)) (z : Str) (xs : List Da) : Bool :=
  if z = "do" then (match xs with | [w, t] => nameD w && tableB t | _ => false)
  else if z = "seq" then xs.all (r TW)
  else if z = "or" then (match xs with | [] => false | f :: ts => (f :: ts).all (r TW))
  else if z = "run" then (match xs with | [p] => kindB kvs "block" p | _ => false)
  else if z = "own" then (match xs with | [p] => kindB kvs "wrap" p | _ => false)
  else if z = "call" then (match xs with | n :: gs => nameD n && gs.all fun g => r TW g || r WW g | _ => false)
  else if z = "with" then (match xs with | n :: gs => nameD n && gs.all fun g => r TW g || r WW g | _ => false)
  else if z = "wrap" then (match xs with | [w, t] => r WW w && r TW t | _ => false)
  else false
def pcB (kvs : List (Key × Da)) : Nat → List Str → Da → Bool
  | 0, _, _ => false
  | n + 1, ws, .tup (.str z :: xs) => ws.contains z && bodyB (pcB kvs n) kvs z xs
  | _, _, _ => false
def spIn (ws : List Str) (n : Nat) : DSp := fun ds M Q _ => ∃ x kvs, ds = [x, .dct kvs, .int (n : Nat)] ∧ pv x ∧ KD kvs ∧ Q (.bl (pcB kvs n ws x)) M
def spGiven (n : Nat) : DSp := fun ds M Q _ => ∃ xs kvs, ds = [.lst xs, .dct kvs, .int (n : Nat)] ∧ xs.length ≤ 5000 ∧ (∀ x ∈ xs, pv x) ∧ KD kvs ∧ Q (.bl (xs.all fun g => pcB kvs n TW g || pcB kvs n WW g)) M
def spPiece (n : Nat) : DSp := fun ds M Q _ => ∃ z xs kvs m, ds = [.tup (.str z :: xs), .dct kvs, .int (n : Nat)] ∧ n = m + 1 ∧ pv (.tup (.str z :: xs)) ∧ KD kvs ∧ Q (.bl (bodyB (pcB kvs m) kvs z xs)) M
theorem hasW_shape {ws : List Str} {x : Da} (h : hasW ws x = true) : ∃ z xs, x = .tup (.str z :: xs) ∧ ws.contains z = true := by
  cases x with
  | tup ys =>
    cases ys with
    | nil => cases h
    | cons y ys =>
      cases y with
      | str z => exact ⟨z, ys, rfl, h⟩
      | _ => cases h
  | _ => cases h
theorem pcB_no {kvs : List (Key × Da)} {ws : List Str} {x : Da} (h : hasW ws x = false) : ∀ n, pcB kvs n ws x = false
  | 0 => rfl
  | n + 1 => by
    cases x with
    | tup ys =>
      cases ys with
      | nil => rfl
      | cons y ys =>
        cases y with
        | str z =>
          show (ws.contains z && _) = false
          rw [show ws.contains z = false from h]; rfl
        | _ => rfl
    | _ => rfl
theorem pcB_yes {kvs : List (Key × Da)} {ws : List Str} {z : Str} {xs : List Da} (h : ws.contains z = true) (n : Nat) : pcB kvs (n + 1) ws (.tup (.str z :: xs)) = bodyB (pcB kvs n) kvs z xs := by
  show (ws.contains z && _) = _
  rw [h]; rfl
section
variable {P : Program} {w : World} {K : PySem.W.Frag} {mg : Str → Option Value} {base : Heap} {C_Procedure : Addr} {C_Space : Addr} {C_InvalidProgram : Addr} {C_InvalidMeaning : Addr} {C_InvalidOperation : Addr} {C_InvalidNumber : Addr} {C_TooMany : Addr}
theorem T_is_term_in (A : Facts K C_Procedure C_Space C_InvalidProgram C_InvalidMeaning C_InvalidOperation C_InvalidNumber C_TooMany) (M : MgOf K mg) (Z : Zs mg) {n : Nat} (D_has_word : KnD P w K mg base "has_word" 1 ["value", "words"] spHas) (D_is_piece : KnD P w K mg base "is_piece" (3 * n + 2) ["value", "kinds", "deep"] (spPiece n)) : KnD P w K mg base "is_term_in" (3 * n + 3) ["value", "kinds", "deep"] (spIn TW n) := by
  refine KnD.of A.d_is_term_in M sc_is_term_in (fun _ _ _ _ _ _ us hl => match us, hl with | [_, _, _], _ => rfl) (fun ds M Q E ⟨_, _, h, _⟩ => by rw [h]; rfl) (fun f cdv A0 outer s H E hr => ?_)
  have hu := U.hu_of hr
  have hu1 := U.hu1_of hr
  have nd := sc_is_term_in.nd
  refine ⟨_, (z_one (z_ret (d_eand (d_call D_has_word (hr.mono (by omega)) (d_cons (dn 0) (d_cons (d_gt M A.c_TERM_WORDS) d_nil))) (d_eand (d_ecm o_dgt (dn 2) d_int) (d_one (d_call D_is_piece (hr.mono (by omega)) (d_cons (dn 0) (d_cons (dn 1) (d_cons (dn 2) d_nil))))))))), ?_⟩
  rintro ds M Q Ed ⟨x, kvs, rfl, ok, hk, q⟩
  refine ⟨x, TW, rfl, ok, ?_⟩
  cases c : hasW TW x with
  | false =>
    rw [pcB_no c] at q
    exact ifF Bool.false_ne_true q
  | true =>
    obtain ⟨z, xs, rfl, hz⟩ := hasW_shape c
    refine ifT rfl ?_
    cases n with
    | zero => exact q
    | succ m =>
      rw [pcB_yes hz] at q
      refine ifT (decide_eq_true (by omega)) ⟨z, xs, kvs, m, rfl, rfl, ok, hk, q⟩
theorem T_is_wrap_in (A : Facts K C_Procedure C_Space C_InvalidProgram C_InvalidMeaning C_InvalidOperation C_InvalidNumber C_TooMany) (M : MgOf K mg) (Z : Zs mg) {n : Nat} (D_has_word : KnD P w K mg base "has_word" 1 ["value", "words"] spHas) (D_is_piece : KnD P w K mg base "is_piece" (3 * n + 2) ["value", "kinds", "deep"] (spPiece n)) : KnD P w K mg base "is_wrap_in" (3 * n + 3) ["value", "kinds", "deep"] (spIn WW n) := by
  refine KnD.of A.d_is_wrap_in M sc_is_wrap_in (fun _ _ _ _ _ _ us hl => match us, hl with | [_, _, _], _ => rfl) (fun ds M Q E ⟨_, _, h, _⟩ => by rw [h]; rfl) (fun f cdv A0 outer s H E hr => ?_)
  have hu := U.hu_of hr
  have hu1 := U.hu1_of hr
  have nd := sc_is_wrap_in.nd
  refine ⟨_, (z_one (z_ret (d_eand (d_call D_has_word (hr.mono (by omega)) (d_cons (dn 0) (d_cons (d_gt M A.c_WRAP_WORDS) d_nil))) (d_eand (d_ecm o_dgt (dn 2) d_int) (d_one (d_call D_is_piece (hr.mono (by omega)) (d_cons (dn 0) (d_cons (dn 1) (d_cons (dn 2) d_nil))))))))), ?_⟩
  rintro ds M Q Ed ⟨x, kvs, rfl, ok, hk, q⟩
  refine ⟨x, WW, rfl, ok, ?_⟩
  cases c : hasW WW x with
  | false =>
    rw [pcB_no c] at q
    exact ifF Bool.false_ne_true q
  | true =>
    obtain ⟨z, xs, rfl, hz⟩ := hasW_shape c
    refine ifT rfl ?_
    cases n with
    | zero => exact q
    | succ m =>
      rw [pcB_yes hz] at q
      refine ifT (decide_eq_true (by omega)) ⟨z, xs, kvs, m, rfl, rfl, ok, hk, q⟩
theorem hc_skip {c : CasD} {r : List CasD} {z : Str} {xs : List Da} {D : DEnds} {δ : De} {M : Mm} (h : c.cs.contains z = false) (q : hCases r z xs D δ M) : hCases (c :: r) z xs D δ M := by
  unfold hCases
  split
  · exact ifF (by rw [h, Bool.and_false]; exact Bool.false_ne_true) q
  · exact ifF (by rw [h, Bool.and_false]; exact Bool.false_ne_true) q
theorem hc_hit {cs : List Str} {is : List Nat} {b : DTS} {r : List CasD} {z : Str} {xs : List Da} {D : DEnds} {δ : De} {M : Mm} (h : cs.contains z = true) (hl : xs.length = is.length) (q : b D (setAll is xs δ) M) : hCases (⟨cs, is, none, b⟩ :: r) z xs D δ M :=
  ifT (c := (xs.length == is.length && cs.contains z) = true) (by rw [h, hl]; simp) q
theorem hc_miss {cs : List Str} {is : List Nat} {b : DTS} {r : List CasD} {z : Str} {xs : List Da} {D : DEnds} {δ : De} {M : Mm} (hl : xs.length ≠ is.length) (q : hCases r z xs D δ M) : hCases (⟨cs, is, none, b⟩ :: r) z xs D δ M :=
  ifF (c := (xs.length == is.length && cs.contains z) = true) (by simp [hl]) q
theorem hc_star {cs : List Str} {is : List Nat} {j : Nat} {b : DTS} {r : List CasD} {z : Str} {xs : List Da} {D : DEnds} {δ : De} {M : Mm} (h : cs.contains z = true) (hl : is.length ≤ xs.length) (q : b D (setAll (is ++ [j]) (xs.take is.length ++ [.lst (xs.drop is.length)]) δ) M) : hCases (⟨cs, is, some j, b⟩ :: r) z xs D δ M :=
  ifT (c := (decide (is.length ≤ xs.length) && cs.contains z) = true) (by rw [h, decide_eq_true hl]; rfl) q
theorem hc_short {cs : List Str} {is : List Nat} {j : Nat} {b : DTS} {r : List CasD} {z : Str} {xs : List Da} {D : DEnds} {δ : De} {M : Mm} (hl : ¬ is.length ≤ xs.length) (q : hCases r z xs D δ M) : hCases (⟨cs, is, some j, b⟩ :: r) z xs D δ M :=
  ifF (c := (decide (is.length ≤ xs.length) && cs.contains z) = true) (by rw [decide_eq_false hl, Bool.false_and]; exact Bool.false_ne_true) q
theorem T_are_given (A : Facts K C_Procedure C_Space C_InvalidProgram C_InvalidMeaning C_InvalidOperation C_InvalidNumber C_TooMany) (M : MgOf K mg) (Z : Zs mg) {n : Nat} (D_is_term_in : KnD P w K mg base "is_term_in" (3 * n + 3) ["value", "kinds", "deep"] (spIn TW n)) (D_is_wrap_in : KnD P w K mg base "is_wrap_in" (3 * n + 3) ["value", "kinds", "deep"] (spIn WW n)) : KnD P w K mg base "are_given" (3 * n + 4) ["given", "kinds", "deep"] (spGiven n) := by
  refine KnD.of A.d_are_given M sc_are_given (fun _ _ _ _ _ _ us hl => match us, hl with | [_, _, _], _ => rfl) (fun ds M Q E ⟨_, _, h, _⟩ => by rw [h]; rfl) (fun f cdv A0 outer s H E hr => ?_)
  have hu := U.hu_of hr
  have hu1 := U.hu1_of hr
  have nd := sc_are_given.nd
  refine ⟨_, (z_one (z_ret (d_b Z.all b_all (c_dall rfl) (d_cons (d_lc (own := [("value", 3)]) (c := (.n 3)) rfl nd (d_it (dn 0)) (blkOk_by (own := [("value", 3)]) (N := N_are_given) (sc := defScope s_are_given) (by decide +kernel)) (fun _ _ _ _ _ => (gn 3 nd)) (fun _ _ _ _ _ => d_ts0) (fun _ _ _ _ _ => (d_eor (d_call D_is_term_in (hr.mono (by omega)) (d_cons (dn 3) (d_cons (dn 1) (d_cons (dn 2) d_nil)))) (d_one (d_call D_is_wrap_in (hr.mono (by omega)) (d_cons (dn 3) (d_cons (dn 1) (d_cons (dn 2) d_nil)))))))) d_nil)))), ?_⟩
  rintro ds M Q Ed ⟨xs, kvs, rfl, hl, ok, hk, q⟩
  refine ⟨sz (by omega), ?_⟩
  have key : xs = xs.map id := (List.map_id xs).symm
  rw [key]
  refine lcD_all (fun g => Da.bl (pcB kvs n TW g || pcB kvs n WW g)) (fun _ _ => trivial) (fun g hg Q q => ⟨g, kvs, rfl, ok g hg, hk, ?_⟩) ?_
  · cases c : pcB kvs n TW g with
    | true => rw [c] at q; exact q
    | false => rw [c] at q; exact ⟨g, kvs, rfl, ok g hg, hk, q⟩
  · refine ⟨_, asBls_fun _ _, ?_⟩
    rw [List.all_map]
    exact q
end

end K69
set_option Elab.async false
set_option linter.all false
set_option maxRecDepth 100000
set_option maxHeartbeats 4000000



namespace K69
open PySem PySem.Spec PyProof.Rows L2 U
section
variable {P : Program} {w : World} {K : PySem.W.Frag} {mg : Str → Option Value} {base : Heap} {C_Procedure : Addr} {C_Space : Addr} {C_InvalidProgram : Addr} {C_InvalidMeaning : Addr} {C_InvalidOperation : Addr} {C_InvalidNumber : Addr} {C_TooMany : Addr}
theorem T_is_piece (A : Facts K C_Procedure C_Space C_InvalidProgram C_InvalidMeaning C_InvalidOperation C_InvalidNumber C_TooMany) (M : MgOf K mg) (Z : Zs mg) {n : Nat} (D_is_name : KnD P w K mg base "is_name" 1 ["value"] spIsName) (D_is_deed_table : KnD P w K mg base "is_deed_table" 3 ["value"] spTable) (D_is_kind : KnD P w K mg base "is_kind" 1 ["kinds", "value", "kind"] spKind) (D_is_term_in : KnD P w K mg base "is_term_in" (3 * n + 3) ["value", "kinds", "deep"] (spIn TW n)) (D_is_wrap_in : KnD P w K mg base "is_wrap_in" (3 * n + 3) ["value", "kinds", "deep"] (spIn WW n))
    (D_are_given : KnD P w K mg base "are_given" (3 * n + 4) ["given", "kinds", "deep"] (spGiven n)) : KnD P w K mg base "is_piece" (3 * n + 5) ["value", "kinds", "deep"] (spPiece (n + 1)) := by
  refine KnD.of A.d_is_piece M sc_is_piece (fun _ _ _ _ _ _ us hl => match us, hl with | [_, _, _], _ => rfl) (fun ds M Q E ⟨_, _, _, _, h, _⟩ => by rw [h]; rfl) (fun f cdv A0 outer s H E hr => ?_)
  have hu := U.hu_of hr
  have hu1 := U.hu1_of hr
  have nd := sc_is_piece.nd
  refine ⟨_, (z_cons (z_match rfl nd (dn 0) (.cons (ns' := []) (is := [3, 4]) .one (.cons (.cons .nil)) (Slts.cons (i := 3) rfl (Slts.cons (i := 4) rfl Slts.nil)) (z_one (z_ret (d_eand (d_call D_is_name (hr.mono (by omega)) (d_cons (dn 3) d_nil)) (d_one (d_call D_is_deed_table (hr.mono (by omega)) (d_cons (dn 4) d_nil))))))
      (.star (is := []) (j := 5) .one .nil (Slts.cons (i := 5) rfl Slts.nil) (z_one (z_ret (d_b Z.all b_all (c_dall rfl) (d_cons (d_lc (own := [("one", 12)]) (c := (.n 12)) rfl nd (d_it (dn 5)) (blkOk_by (own := [("one", 12)]) (N := N_is_piece) (sc := defScope s_is_piece) (by decide +kernel)) (fun _ _ _ _ _ => (gn 12 nd)) (fun _ _ _ _ _ => d_ts0) (fun _ _ _ _ _ => (d_call D_is_term_in (hr.mono (by omega)) (d_cons (dn 12) (d_cons (dn 1) (d_cons (d_op o_dsub (dn 2) d_int) d_nil)))))) d_nil))))
      (.star (is := [6]) (j := 5) .one (.cons .nil) (Slts.cons (i := 6) rfl (Slts.cons (i := 5) rfl Slts.nil)) (z_one (z_ret (d_b Z.all b_all (c_dall rfl) (d_cons (d_lc (own := [("one", 12)]) (c := (.n 12)) rfl nd (d_it (d_lst (d_cons (dn 6) (d_star (dn 5) d_nil)))) (blkOk_by (own := [("one", 12)]) (N := N_is_piece) (sc := defScope s_is_piece) (by decide +kernel)) (fun _ _ _ _ _ => (gn 12 nd)) (fun _ _ _ _ _ => d_ts0) (fun _ _ _ _ _ => (d_call D_is_term_in (hr.mono (by omega)) (d_cons (dn 12) (d_cons (dn 1) (d_cons (d_op o_dsub (dn 2) d_int) d_nil)))))) d_nil))))
      (.cons (ns' := []) (is := [7]) .one (.cons .nil) (Slts.cons (i := 7) rfl Slts.nil) (z_one (z_ret (d_call D_is_kind (hr.mono (by omega)) (d_cons (dn 1) (d_cons (dn 7) (d_cons (d_gs Z.c_BLOCK) d_nil))))))
      (.cons (ns' := []) (is := [7]) .one (.cons .nil) (Slts.cons (i := 7) rfl Slts.nil) (z_one (z_ret (d_call D_is_kind (hr.mono (by omega)) (d_cons (dn 1) (d_cons (dn 7) (d_cons (d_gs Z.c_WRAP) d_nil))))))
      (.star (is := [8]) (j := 9) .one (.cons .nil) (Slts.cons (i := 8) rfl (Slts.cons (i := 9) rfl Slts.nil)) (z_one (z_ret (d_eand (d_call D_is_name (hr.mono (by omega)) (d_cons (dn 8) d_nil)) (d_one (d_call D_are_given (hr.mono (by omega)) (d_cons (dn 9) (d_cons (dn 1) (d_cons (d_op o_dsub (dn 2) d_int) d_nil))))))))
      (.star (is := [8]) (j := 9) .one (.cons .nil) (Slts.cons (i := 8) rfl (Slts.cons (i := 9) rfl Slts.nil)) (z_one (z_ret (d_eand (d_call D_is_name (hr.mono (by omega)) (d_cons (dn 8) d_nil)) (d_one (d_call D_are_given (hr.mono (by omega)) (d_cons (dn 9) (d_cons (dn 1) (d_cons (d_op o_dsub (dn 2) d_int) d_nil))))))))
      (.cons (ns' := []) (is := [10, 11]) .one (.cons (.cons .nil)) (Slts.cons (i := 10) rfl (Slts.cons (i := 11) rfl Slts.nil)) (z_one (z_ret (d_eand (d_call D_is_wrap_in (hr.mono (by omega)) (d_cons (dn 10) (d_cons (dn 1) (d_cons (d_op o_dsub (dn 2) d_int) d_nil)))) (d_one (d_call D_is_term_in (hr.mono (by omega)) (d_cons (dn 11) (d_cons (dn 1) (d_cons (d_op o_dsub (dn 2) d_int) d_nil))))))))
      .nil)))))))))
      (z_one (z_ret d_bl))), ?_⟩
  rintro ds M Q Ed ⟨z, xs, kvs, m, rfl, hm, ok, hk, q⟩
  obtain rfl : n = m := by omega
  have ok1 : xs.length ≤ 4999 ∧ ∀ x ∈ xs, pv x := by
    cases ok with
    | tup _ hl hx => exact ⟨by rw [List.length_cons] at hl; omega, fun x h => hx x (List.mem_cons_of_mem _ h)⟩
  obtain ⟨hl, hx⟩ := ok1
  have hd : ((n + 1 : Nat) : Int) - 1 = (n : Int) := by omega
  refine ⟨show xs.length ≤ 10000 by omega, ?_⟩
  unfold bodyB at q
  by_cases e1 : z = "do"
  · subst e1
    rw [if_pos rfl] at q
    match xs, hl, hx, q with
    | [w, t], _, hx, q =>
      have q : Q (.bl (nameD w && tableB t)) M := q
      refine hc_hit rfl rfl ?_
      refine ⟨w, rfl, hx w (by simp), ?_⟩
      cases c : nameD w with
      | false =>
        rw [c] at q
        exact q
      | true =>
        rw [c] at q
        exact ⟨t, rfl, hx t (by simp), q⟩
    | [], _, _, q => exact hc_miss (by decide) (hc_skip rfl (hc_skip rfl (hc_skip rfl (hc_skip rfl (hc_skip rfl (hc_skip rfl (hc_skip rfl q)))))))
    | [_], _, _, q => exact hc_miss (by simp) (hc_skip rfl (hc_skip rfl (hc_skip rfl (hc_skip rfl (hc_skip rfl (hc_skip rfl (hc_skip rfl q)))))))
    | _ :: _ :: _ :: _, _, _, q => exact hc_miss (by simp) (hc_skip rfl (hc_skip rfl (hc_skip rfl (hc_skip rfl (hc_skip rfl (hc_skip rfl (hc_skip rfl q)))))))
  rw [if_neg e1] at q
  by_cases e2 : z = "seq"
  · subst e2
    rw [if_pos rfl] at q
    refine hc_skip rfl (hc_star rfl (Nat.zero_le _) ?_)
    refine ⟨sz (show (xs.drop 0).length ≤ 1000000 by rw [List.drop_zero]; omega), ?_⟩
    show lcD _ _ _ _ (xs.drop 0) _ _
    rw [List.drop_zero]
    have key : xs = xs.map id := (List.map_id xs).symm
    rw [key]
    refine lcD_all (fun g => Da.bl (pcB kvs n TW g)) (fun _ _ => trivial) (fun g hg Q q => ⟨g, kvs, (by rw [hd] <;> rfl), hx g hg, hk, q⟩) ?_
    refine ⟨_, asBls_fun _ _, ?_⟩
    rw [List.all_map]
    exact q
  rw [if_neg e2] at q
  by_cases e3 : z = "or"
  · subst e3
    rw [if_pos rfl] at q
    match xs, hl, hx, q with
    | f :: ts, hl, hx, q =>
      refine hc_skip rfl (hc_skip rfl (hc_star rfl (Nat.succ_le_succ (Nat.zero_le _)) ?_))
      refine ⟨sz (by simp; simp at hl; omega), sz (by simp; simp at hl; omega), ?_⟩
      have key : f :: (ts ++ []) = (f :: ts).map id := by rw [List.append_nil, List.map_id]
      show lcD _ _ _ _ (f :: (ts ++ [])) _ _
      rw [key]
      refine lcD_all (fun g => Da.bl (pcB kvs n TW g)) (fun _ _ => trivial) (fun g hg Q q => ⟨g, kvs, (by rw [hd] <;> rfl), hx g hg, hk, q⟩) ?_
      refine ⟨_, asBls_fun _ _, ?_⟩
      rw [List.all_map]
      exact q
    | [], _, _, q => exact hc_skip rfl (hc_skip rfl (hc_short (by decide) (hc_skip rfl (hc_skip rfl (hc_skip rfl (hc_skip rfl (hc_skip rfl (q))))))))
  rw [if_neg e3] at q
  by_cases e4 : z = "run"
  · subst e4
    rw [if_pos rfl] at q
    match xs, hx, q with
    | [p], hx, q =>
      refine hc_skip rfl (hc_skip rfl (hc_skip rfl (hc_hit rfl rfl ?_)))
      exact ⟨kvs, p, "block", rfl, hx p (by simp), hk, by decide +kernel, q⟩
    | [], _, q => exact hc_skip rfl (hc_skip rfl (hc_skip rfl (hc_miss (by decide) (hc_skip rfl (hc_skip rfl (hc_skip rfl (hc_skip rfl (q))))))))
    | _ :: _ :: _, _, q => exact hc_skip rfl (hc_skip rfl (hc_skip rfl (hc_miss (by simp) (hc_skip rfl (hc_skip rfl (hc_skip rfl (hc_skip rfl (q))))))))
  rw [if_neg e4] at q
  by_cases e5 : z = "own"
  · subst e5
    rw [if_pos rfl] at q
    match xs, hx, q with
    | [p], hx, q =>
      refine hc_skip rfl (hc_skip rfl (hc_skip rfl (hc_skip rfl (hc_hit rfl rfl ?_))))
      exact ⟨kvs, p, "wrap", rfl, hx p (by simp), hk, by decide +kernel, q⟩
    | [], _, q => exact hc_skip rfl (hc_skip rfl (hc_skip rfl (hc_skip rfl (hc_miss (by decide) (hc_skip rfl (hc_skip rfl (hc_skip rfl (q))))))))
    | _ :: _ :: _, _, q => exact hc_skip rfl (hc_skip rfl (hc_skip rfl (hc_skip rfl (hc_miss (by simp) (hc_skip rfl (hc_skip rfl (hc_skip rfl (q))))))))
  rw [if_neg e5] at q
  by_cases e6 : z = "call"
  · subst e6
    rw [if_pos rfl] at q
    match xs, hl, hx, q with
    | m :: gs, hl, hx, q =>
      have q : Q (.bl (nameD m && gs.all fun g => pcB kvs n TW g || pcB kvs n WW g)) M := q
      refine hc_skip rfl (hc_skip rfl (hc_skip rfl (hc_skip rfl (hc_skip rfl (hc_star rfl (Nat.succ_le_succ (Nat.zero_le _)) ?_)))))
      refine ⟨m, rfl, hx m (by simp), ?_⟩
      cases c : nameD m with
      | false =>
        rw [c] at q
        exact q
      | true =>
        rw [c] at q
        exact ⟨gs, kvs, (by rw [hd] <;> rfl), by rw [List.length_cons] at hl; omega, fun x h => hx x (List.mem_cons_of_mem _ h), hk, q⟩
    | [], _, _, q => exact hc_skip rfl (hc_skip rfl (hc_skip rfl (hc_skip rfl (hc_skip rfl (hc_short (by decide) (hc_skip rfl (hc_skip rfl (q))))))))
  rw [if_neg e6] at q
  by_cases e7 : z = "with"
  · subst e7
    rw [if_pos rfl] at q
    match xs, hl, hx, q with
    | m :: gs, hl, hx, q =>
      have q : Q (.bl (nameD m && gs.all fun g => pcB kvs n TW g || pcB kvs n WW g)) M := q
      refine hc_skip rfl (hc_skip rfl (hc_skip rfl (hc_skip rfl (hc_skip rfl (hc_skip rfl (hc_star rfl (Nat.succ_le_succ (Nat.zero_le _)) ?_))))))
      refine ⟨m, rfl, hx m (by simp), ?_⟩
      cases c : nameD m with
      | false =>
        rw [c] at q
        exact q
      | true =>
        rw [c] at q
        exact ⟨gs, kvs, (by rw [hd] <;> rfl), by rw [List.length_cons] at hl; omega, fun x h => hx x (List.mem_cons_of_mem _ h), hk, q⟩
    | [], _, _, q => exact hc_skip rfl (hc_skip rfl (hc_skip rfl (hc_skip rfl (hc_skip rfl (hc_skip rfl (hc_short (by decide) (hc_skip rfl (q))))))))
  rw [if_neg e7] at q
  by_cases e8 : z = "wrap"
  · subst e8
    rw [if_pos rfl] at q
    match xs, hx, q with
    | [w, t], hx, q =>
      have q : Q (.bl (pcB kvs n WW w && pcB kvs n TW t)) M := q
      refine hc_skip rfl (hc_skip rfl (hc_skip rfl (hc_skip rfl (hc_skip rfl (hc_skip rfl (hc_skip rfl (hc_hit rfl rfl ?_)))))))
      refine ⟨w, kvs, (by rw [hd] <;> rfl), hx w (by simp), hk, ?_⟩
      cases c : pcB kvs n WW w with
      | false =>
        rw [c] at q
        exact q
      | true =>
        rw [c] at q
        exact ⟨t, kvs, (by rw [hd] <;> rfl), hx t (by simp), hk, q⟩
    | [], _, q => exact hc_skip rfl (hc_skip rfl (hc_skip rfl (hc_skip rfl (hc_skip rfl (hc_skip rfl (hc_skip rfl (hc_miss (by decide) q)))))))
    | [_], _, q => exact hc_skip rfl (hc_skip rfl (hc_skip rfl (hc_skip rfl (hc_skip rfl (hc_skip rfl (hc_skip rfl (hc_miss (by simp) q)))))))
    | _ :: _ :: _ :: _, _, q => exact hc_skip rfl (hc_skip rfl (hc_skip rfl (hc_skip rfl (hc_skip rfl (hc_skip rfl (hc_skip rfl (hc_miss (by simp) q)))))))
  rw [if_neg e8] at q
  have ns : ∀ c : Str, z ≠ c → [c].contains z = false := fun c h => by simp [h]
  exact hc_skip (ns _ e1) (hc_skip (ns _ e2) (hc_skip (ns _ e3) (hc_skip (ns _ e4) (hc_skip (ns _ e5) (hc_skip (ns _ e6) (hc_skip (ns _ e7) (hc_skip (ns _ e8) q)))))))
end
section
variable {P : Program} {w : World} {K : PySem.W.Frag} {mg : Str → Option Value} {base : Heap} {C_Procedure : Addr} {C_Space : Addr} {C_InvalidProgram : Addr} {C_InvalidMeaning : Addr} {C_InvalidOperation : Addr} {C_InvalidNumber : Addr} {C_TooMany : Addr}
theorem R_in (A : Facts K C_Procedure C_Space C_InvalidProgram C_InvalidMeaning C_InvalidOperation C_InvalidNumber C_TooMany) (M : MgOf K mg) (Z : Zs mg) (D_has_word : KnD P w K mg base "has_word" 1 ["value", "words"] spHas) (D_is_name : KnD P w K mg base "is_name" 1 ["value"] spIsName) (D_is_deed_table : KnD P w K mg base "is_deed_table" 3 ["value"] spTable) (D_is_kind : KnD P w K mg base "is_kind" 1 ["kinds", "value", "kind"] spKind) : ∀ n, KnD P w K mg base "is_term_in" (3 * n + 3) ["value", "kinds", "deep"] (spIn TW n) ∧ KnD P w K mg base "is_wrap_in" (3 * n + 3) ["value", "kinds", "deep"] (spIn WW n)
  | 0 => by
    have h : KnD P w K mg base "is_piece" 2 ["value", "kinds", "deep"] (spPiece 0) := KnD.never A.d_is_piece M sc_is_piece (fun _ _ _ _ _ _ us hl => match us, hl with | [_, _, _], _ => rfl) fun ds M Q E ⟨_, _, _, _, _, h, _⟩ => by cases h
    exact ⟨T_is_term_in (n := 0) A M Z D_has_word h, T_is_wrap_in (n := 0) A M Z D_has_word h⟩
  | n + 1 => by
    obtain ⟨h1, h2⟩ := R_in A M Z D_has_word D_is_name D_is_deed_table D_is_kind n
    have h := T_is_piece A M Z D_is_name D_is_deed_table D_is_kind h1 h2 (T_are_given A M Z h1 h2)
    exact ⟨T_is_term_in (n := n + 1) A M Z D_has_word h, T_is_wrap_in (n := n + 1) A M Z D_has_word h⟩
theorem D_is_term_in (A : Facts K C_Procedure C_Space C_InvalidProgram C_InvalidMeaning C_InvalidOperation C_InvalidNumber C_TooMany) (M : MgOf K mg) (Z : Zs mg) (D_has_word : KnD P w K mg base "has_word" 1 ["value", "words"] spHas) (D_is_name : KnD P w K mg base "is_name" 1 ["value"] spIsName) (D_is_deed_table : KnD P w K mg base "is_deed_table" 3 ["value"] spTable) (D_is_kind : KnD P w K mg base "is_kind" 1 ["kinds", "value", "kind"] spKind) : KnD P w K mg base "is_term_in" 21 ["value", "kinds", "deep"] (spIn TW 6) := (R_in A M Z D_has_word D_is_name D_is_deed_table D_is_kind 6).1
end

end K69
set_option Elab.async false
set_option linter.all false
set_option maxRecDepth 100000
set_option maxHeartbeats 4000000



namespace K69
open PySem PySem.Spec PyProof.Rows L2 U
def kidsL (z : Str) (xs : List Da) : List Da :=
  if z = "seq" then xs else if z = "or" then xs else if z = "call" then xs.tail else if z = "with" then xs.tail
  else if z = "wrap" then (match xs with | [w, t] => [w, t] | _ => []) else []
def kidsD : Da → List Da
  | .tup (.str z :: xs) => kidsL z xs
  | _ => []
def allF : Nat → Da → List Da
  | 0, x => [x]
  | n + 1, x => x :: (kidsD x).flatMap (allF n)
def spInside : DSp := fun ds M Q _ => ∃ z xs, ds = [.tup (.str z :: xs)] ∧ xs.length ≤ 5000 ∧ Q (.lst (kidsL z xs)) M
def okP (kvs : List (Key × Da)) (n : Nat) (x : Da) : Prop := pcB kvs n TW x = true ∨ pcB kvs n WW x = true
theorem okP.shape {kvs : List (Key × Da)} {n : Nat} {x : Da} (h : okP kvs n x) : ∃ m z xs, n = m + 1 ∧ x = .tup (.str z :: xs) ∧ bodyB (pcB kvs m) kvs z xs = true := by
  cases n with
  | zero => rcases h with h | h <;> cases h
  | succ m =>
    have go : ∀ ws, pcB kvs (m + 1) ws x = true → ∃ m' z xs, m + 1 = m' + 1 ∧ x = .tup (.str z :: xs) ∧ bodyB (pcB kvs m') kvs z xs = true := fun ws h => by
      cases x with
      | tup ys =>
        cases ys with
        | nil => cases h
        | cons y ys =>
          cases y with
          | str z => exact ⟨m, z, ys, rfl, rfl, (Bool.and_eq_true_iff.mp h).2⟩
          | _ => cases h
      | _ => cases h
    exact h.elim (go _) (go _)
theorem kids_ok {kvs : List (Key × Da)} {n : Nat} {z : Str} {xs : List Da} (h : bodyB (pcB kvs n) kvs z xs = true) : ∀ y ∈ kidsL z xs, okP kvs n y := by
  unfold bodyB at h
  unfold kidsL
  by_cases e1 : z = "do"
  · subst e1; intro y hy; exact nomatch (show y ∈ ([] : List Da) from hy)
  rw [if_neg e1] at h
  by_cases e2 : z = "seq"
  · rw [if_pos e2] at h ⊢
    exact fun y hy => .inl (List.all_eq_true.mp h y hy)
  rw [if_neg e2] at h ⊢
  by_cases e3 : z = "or"
  · rw [if_pos e3] at h ⊢
    cases xs with
    | nil => cases h
    | cons f ts => exact fun y hy => .inl (List.all_eq_true.mp h y hy)
  rw [if_neg e3] at h ⊢
  by_cases e4 : z = "run"
  · subst e4; intro y hy; exact nomatch (show y ∈ ([] : List Da) from hy)
  rw [if_neg e4] at h
  by_cases e5 : z = "own"
  · subst e5; intro y hy; exact nomatch (show y ∈ ([] : List Da) from hy)
  rw [if_neg e5] at h
  have giv : ∀ {m : Da} {gs : List Da}, (nameD m && gs.all fun g => pcB kvs n TW g || pcB kvs n WW g) = true → ∀ y ∈ gs, okP kvs n y := fun {m gs} h y hy => by
    have := List.all_eq_true.mp (Bool.and_eq_true_iff.mp h).2 y hy
    exact Bool.or_eq_true_iff.mp this
  by_cases e6 : z = "call"
  · rw [if_pos e6] at h ⊢
    cases xs with
    | nil => cases h
    | cons m gs => exact giv h
  rw [if_neg e6] at h ⊢
  by_cases e7 : z = "with"
  · rw [if_pos e7] at h ⊢
    cases xs with
    | nil => cases h
    | cons m gs => exact giv h
  rw [if_neg e7] at h ⊢
  by_cases e8 : z = "wrap"
  · rw [if_pos e8] at h ⊢
    match xs, h with
    | [w, t], h =>
      have h' := Bool.and_eq_true_iff.mp h
      intro y hy
      rcases List.mem_cons.mp hy with rfl | hy
      · exact .inr h'.1
      · rcases List.mem_cons.mp hy with rfl | hy
        · exact .inl h'.2
        · cases hy
  · rw [if_neg e8] at h
    cases h
theorem kids_mem {z : Str} {xs : List Da} {y : Da} (h : y ∈ kidsL z xs) : y ∈ xs := by
  unfold kidsL at h
  split at h
  · exact h
  split at h
  · exact h
  split at h
  · exact List.mem_of_mem_tail h
  split at h
  · exact List.mem_of_mem_tail h
  split at h
  · split at h
    · exact h
    · cases h
  · cases h
theorem D_inside {P : Program} {w : World} {K : PySem.W.Frag} {mg : Str → Option Value} {base : Heap} {C_Procedure : Addr} {C_Space : Addr} {C_InvalidProgram : Addr} {C_InvalidMeaning : Addr} {C_InvalidOperation : Addr} {C_InvalidNumber : Addr} {C_TooMany : Addr} (A : Facts K C_Procedure C_Space C_InvalidProgram C_InvalidMeaning C_InvalidOperation C_InvalidNumber C_TooMany) (M : MgOf K mg) (Z : Zs mg)  : KnD P w K mg base "inside" 1 ["piece"] spInside := by
  refine KnD.of A.d_inside M sc_inside (fun _ _ _ _ _ _ us hl => match us, hl with | [_], _ => rfl) (fun ds M Q E ⟨_, _, h, _⟩ => by rw [h]; rfl) (fun f cdv A0 outer s H E hr => ?_)
  have hu := U.hu_of hr
  have hu1 := U.hu1_of hr
  have nd := sc_inside.nd
  refine ⟨_, (z_cons (z_match rfl nd (dn 0) (.star (is := []) (j := 1) .one .nil (Slts.cons (i := 1) rfl Slts.nil) (z_one (z_ret (dn 1)))
      (.star (is := []) (j := 1) .one .nil (Slts.cons (i := 1) rfl Slts.nil) (z_one (z_ret (dn 1)))
      (.star (is := [2]) (j := 3) .one (.cons .nil) (Slts.cons (i := 2) rfl (Slts.cons (i := 3) rfl Slts.nil)) (z_one (z_ret (dn 3)))
      (.star (is := [2]) (j := 3) .one (.cons .nil) (Slts.cons (i := 2) rfl (Slts.cons (i := 3) rfl Slts.nil)) (z_one (z_ret (dn 3)))
      (.cons (ns' := []) (is := [4, 5]) .one (.cons (.cons .nil)) (Slts.cons (i := 4) rfl (Slts.cons (i := 5) rfl Slts.nil)) (z_one (z_ret (d_lst (d_cons (dn 4) (d_cons (dn 5) d_nil)))))
      .nil))))))
      (z_one (z_ret (d_lst d_nil)))), ?_⟩
  rintro ds M Q Ed ⟨z, xs, rfl, hl, q⟩
  refine ⟨show xs.length ≤ 10000 by omega, ?_⟩
  unfold kidsL at q
  by_cases e2 : z = "seq"
  · subst e2
    rw [if_pos rfl] at q
    exact hc_star rfl (Nat.zero_le _) q
  rw [if_neg e2] at q
  by_cases e3 : z = "or"
  · subst e3
    rw [if_pos rfl] at q
    exact hc_skip rfl (hc_star rfl (Nat.zero_le _) q)
  rw [if_neg e3] at q
  by_cases e6 : z = "call"
  · subst e6
    rw [if_pos rfl] at q
    cases xs with
    | nil => exact hc_skip rfl (hc_skip rfl (hc_short (by decide) (hc_skip rfl (hc_skip rfl ⟨rfl, q⟩))))
    | cons m gs => exact hc_skip rfl (hc_skip rfl (hc_star rfl (Nat.succ_le_succ (Nat.zero_le _)) q))
  rw [if_neg e6] at q
  by_cases e7 : z = "with"
  · subst e7
    rw [if_pos rfl] at q
    cases xs with
    | nil => exact hc_skip rfl (hc_skip rfl (hc_skip rfl (hc_short (by decide) (hc_skip rfl ⟨rfl, q⟩))))
    | cons m gs => exact hc_skip rfl (hc_skip rfl (hc_skip rfl (hc_star rfl (Nat.succ_le_succ (Nat.zero_le _)) q)))
  rw [if_neg e7] at q
  by_cases e8 : z = "wrap"
  · subst e8
    rw [if_pos rfl] at q
    match xs, q with
    | [w, t], q => exact hc_skip rfl (hc_skip rfl (hc_skip rfl (hc_skip rfl (hc_hit rfl rfl ⟨rfl, q⟩))))
    | [], q => exact hc_skip rfl (hc_skip rfl (hc_skip rfl (hc_skip rfl (hc_miss (by decide) ⟨rfl, q⟩))))
    | [_], q => exact hc_skip rfl (hc_skip rfl (hc_skip rfl (hc_skip rfl (hc_miss (by simp) ⟨rfl, q⟩))))
    | _ :: _ :: _ :: _, q => exact hc_skip rfl (hc_skip rfl (hc_skip rfl (hc_skip rfl (hc_miss (by simp) ⟨rfl, q⟩))))
  rw [if_neg e8] at q
  have ns : ∀ c : Str, z ≠ c → [c].contains z = false := fun c h => by simp [h]
  exact hc_skip (ns _ e2) (hc_skip (ns _ e3) (hc_skip (ns _ e6) (hc_skip (ns _ e7) (hc_skip (ns _ e8) ⟨rfl, q⟩))))
def allT (todo : List (Nat × Da)) : List Da := todo.flatMap fun p => allF p.1 p.2
theorem kids_len (z : Str) (xs : List Da) : (kidsL z xs).length ≤ xs.length := by
  unfold kidsL
  split
  · exact Nat.le_refl _
  split
  · exact Nat.le_refl _
  split
  · rw [List.length_tail]; omega
  split
  · rw [List.length_tail]; omega
  split
  · split
    · exact Nat.le_refl _
    · exact Nat.zero_le _
  · exact Nat.zero_le _
theorem allF_pos (n : Nat) (x : Da) : 1 ≤ (allF n x).length := by cases n <;> simp [allF]
theorem allT_len : ∀ todo : List (Nat × Da), todo.length ≤ (allT todo).length
  | [] => Nat.le_refl _
  | t :: r => by
    show _ ≤ (allF t.1 t.2 ++ allT r).length
    rw [List.length_append, List.length_cons]
    have := allF_pos t.1 t.2
    have := allT_len r
    omega
def spPieces : DSp := fun ds M Q _ => ∃ x n kvs, ds = [x] ∧ pv x ∧ okP kvs n x ∧ (allF n x).length ≤ 100000 ∧ ∀ R, R.Perm (allF n x) → Q (.lst R) M
theorem D_pieces_of {P : Program} {w : World} {K : PySem.W.Frag} {mg : Str → Option Value} {base : Heap} {C_Procedure : Addr} {C_Space : Addr} {C_InvalidProgram : Addr} {C_InvalidMeaning : Addr} {C_InvalidOperation : Addr} {C_InvalidNumber : Addr} {C_TooMany : Addr} (A : Facts K C_Procedure C_Space C_InvalidProgram C_InvalidMeaning C_InvalidOperation C_InvalidNumber C_TooMany) (M : MgOf K mg) (Z : Zs mg) (D_inside : KnD P w K mg base "inside" 1 ["piece"] spInside) : KnD P w K mg base "pieces_of" 2 ["piece"] spPieces := by
  refine KnD.of A.d_pieces_of M sc_pieces_of (fun _ _ _ _ _ _ us hl => match us, hl with | [_], _ => rfl) (fun ds M Q E ⟨_, _, _, h, _⟩ => by rw [h]; rfl) (fun f cdv A0 outer s H E hr => ?_)
  have hu := U.hu_of hr
  have hu1 := U.hu1_of hr
  have nd := sc_pieces_of.nd
  refine ⟨_, (z_cons (ps_imp (ps_par (i := 1) (j := 2) rfl nd rfl rfl (by decide) rfl rfl (d_cons (d_lstM (d_cons (dn 0) d_nil)) (d_cons d_int d_nil)) (by rfl)) fun _ _ _ h => li_par h)
      (z_cons (z_while PassesOwn.never (d_tcm o_dlt (dn 2) (d_b Z.len b_len c_dlen (d_cons (dn 1) d_nil))) (z_cons (z_expr (d_extend (dn 1) (d_cons (d_call D_inside (hr.mono (by decide)) (d_cons (d_ix (dn 1) (dn 2)) d_nil)) d_nil)))
      (z_one (z_aug (i := 2) nd rfl (.inl rfl) d_int i_add))))
      (z_one (z_retF (d_stl (dn 1)))))), ?_⟩
  rintro ds M Q Ed ⟨x, n, kvs, rfl, ox, ok, hl, q⟩
  refine ⟨rfl, fun p hp => ?_⟩
  refine wh_ind (fun k δ M' => ∃ (done : List Da) (todo : List (Nat × Da)), k = (allT todo).length ∧ δ = [some x, some (.ref p), some (.int done.length)] ∧ M' = mput M p (.lst (done ++ todo.map (·.2))) ∧ (∀ t ∈ todo, okP kvs t.1 t.2 ∧ pv t.2) ∧ (done ++ allT todo).Perm (allF n x)) ?_ (n := (allF n x).length) ⟨[], [(n, x)], by simp [allT], rfl, rfl, by simp; exact ⟨ok, ox⟩, by simp [allT]⟩
  rintro k δ M' NX ⟨done, todo, rfl, rfl, rfl, hto, hpm⟩ next
  refine ⟨_, mput_same, ?_⟩
  cases todo with
  | nil =>
    refine ifF (by simp) ?_
    refine ⟨_, mput_same, M, by rw [mdel_put hp]; exact fun _ _ h => h, ?_⟩
    exact q _ (by simpa [allT] using hpm)
  | cons t rest =>
    refine ifT (decide_eq_true (by simp; omega)) ?_
    obtain ⟨⟨m, z, ys, e1, e2, hb⟩, hpv⟩ := (⟨(hto t List.mem_cons_self).1.shape, (hto t List.mem_cons_self).2⟩ : _ ∧ _)
    obtain ⟨t1, t2⟩ := t
    obtain rfl : t1 = m + 1 := e1
    obtain rfl : t2 = .tup (.str z :: ys) := e2
    have hyl : ys.length ≤ 5000 ∧ ∀ y ∈ ys, pv y := by
      cases hpv with
      | tup _ hl hx => exact ⟨by rw [List.length_cons] at hl; omega, fun x h => hx x (List.mem_cons_of_mem _ h)⟩
    have hkid : ∀ y ∈ kidsL z ys, y ∈ ys := fun y hy => kids_mem hy
    refine ⟨⟨p, _, rfl, mput_same⟩, ?_⟩
    refine ⟨_, .tup (.str z :: ys), mput_same, atI_nat (by simp), ?_⟩
    refine ⟨z, ys, rfl, hyl.1, ?_⟩
    have hlen := hpm.length_eq
    have hcons : allT ((m + 1, .tup (.str z :: ys)) :: rest) = (.tup (.str z :: ys) :: (kidsL z ys).flatMap (allF m)) ++ allT rest := rfl
    have happ : allT (rest ++ (kidsL z ys).map fun y => (m, y)) = allT rest ++ (kidsL z ys).flatMap (allF m) := by
      unfold allT
      rw [List.flatMap_append, List.flatMap_map]
    have hkl := kids_len z ys
    have hrl := allT_len rest
    refine ⟨_, mput_same, sz ?_, ?_⟩
    · rw [hcons] at hlen
      simp only [List.length_append, List.length_cons, List.length_map, List.map_cons] at hlen ⊢
      omega
    · rw [mput_put]
      refine next _ _ (allT (rest ++ (kidsL z ys).map fun y => (m, y))).length ?_ ⟨done ++ [.tup (.str z :: ys)], rest ++ (kidsL z ys).map fun y => (m, y), rfl, ?_, ?_, ?_, ?_⟩
      · rw [hcons, happ]
        simp only [List.length_append, List.length_cons]
        omega
      · show [some x, some (.ref p), some (.int ((done.length : Int) + 1))] = _
        rw [List.length_append]
        rfl
      · congr 2
        simp
        exact (List.map_id _).symm
      · intro t ht
        rcases List.mem_append.mp ht with h | h
        · exact hto t (List.mem_cons_of_mem _ h)
        · obtain ⟨y, hy, rfl⟩ := List.mem_map.mp h
          exact ⟨kids_ok hb y hy, hyl.2 y (hkid y hy)⟩
      · refine List.Perm.trans ?_ hpm
        rw [hcons, happ, List.append_assoc]
        refine List.Perm.append_left _ ?_
        show (Da.tup (.str z :: ys) :: (allT rest ++ (kidsL z ys).flatMap (allF m))).Perm (Da.tup (.str z :: ys) :: ((kidsL z ys).flatMap (allF m) ++ allT rest))
        exact List.Perm.cons _ List.perm_append_comm

end K69
set_option Elab.async false
set_option linter.all false
set_option maxRecDepth 100000
set_option maxHeartbeats 4000000



namespace K69
open PySem PySem.Spec PyProof.Rows L2 U
def parD (own : List (Str × Str)) : Da := .tup (own.map fun p => .tup [.str p.1, .str p.2])
def pr2 : Da → Bool
  | .tup [_, _] => true
  | _ => false
def prOk : Da → Bool
  | .tup [n, .str k] => nameD n && (["block", "wrap"] : List Str).contains k
  | _ => false
def nmsD (xs : List Da) : List Str := xs.filterMap fun x => match x with
  | .tup (.str z :: _) => some z
  | _ => none
def parB : Da → Bool
  | .tup xs => decide (xs.length ≤ 3) && (xs.all pr2 && (xs.all prOk && decide (nmsD xs).Nodup))
  | _ => false
structure OwnOk (own : List (Str × Str)) : Prop where
  len : own.length ≤ 3
  ok : ∀ p ∈ own, nameZ p.1 = true ∧ (["block", "wrap"] : List Str).contains p.2 = true
  nd : (own.map (·.1)).Nodup
theorem own_of {xs : List Da} (h : xs.all prOk = true) : ∃ own : List (Str × Str), xs = own.map (fun p => .tup [.str p.1, .str p.2]) ∧ ∀ p ∈ own, nameZ p.1 = true ∧ (["block", "wrap"] : List Str).contains p.2 = true := by
  induction xs with
  | nil => exact ⟨[], rfl, fun _ h => nomatch h⟩
  | cons x xs ih =>
    rw [List.all_cons, Bool.and_eq_true] at h
    obtain ⟨own, rfl, ho⟩ := ih h.2
    have hx := h.1
    unfold prOk at hx
    split at hx
    · rename_i n k
      cases n with
      | str z => exact ⟨(z, k) :: own, rfl, fun p hp => (List.mem_cons.mp hp).elim (fun e => by rw [e]; exact Bool.and_eq_true_iff.mp hx) (ho p)⟩
      | _ => cases hx
    · cases hx
theorem nms_own (own : List (Str × Str)) : nmsD (own.map fun p => .tup [.str p.1, .str p.2]) = own.map (·.1) := by
  unfold nmsD
  rw [List.filterMap_map]
  induction own with
  | nil => rfl
  | cons p r ih => rw [List.filterMap_cons, List.map_cons, ← ih]; rfl
theorem prOk_own {own : List (Str × Str)} (h : ∀ p ∈ own, nameZ p.1 = true ∧ (["block", "wrap"] : List Str).contains p.2 = true) : (own.map fun p : Str × Str => Da.tup [.str p.1, .str p.2]).all prOk = true := by
  rw [List.all_map, List.all_eq_true]
  intro p hp
  show (nameZ p.1 && _) = true
  rw [(h p hp).1, (h p hp).2]; rfl
theorem pr2_own (own : List (Str × Str)) : (own.map fun p : Str × Str => Da.tup [.str p.1, .str p.2]).all pr2 = true := by
  rw [List.all_map, List.all_eq_true]
  intro p hp
  rfl
theorem parB_own {own : List (Str × Str)} (h : OwnOk own) : parB (parD own) = true := by
  show (decide _ && _) = true
  rw [decide_eq_true (by rw [List.length_map]; exact h.len), pr2_own, prOk_own h.ok, nms_own, decide_eq_true h.nd]; rfl
theorem lcD_same {c : CT} {te : DTE} {δ : De} {M : Mm} (f : Da → Da) {l : List Da} {k : List Da → Mm → Prop} (h1 : ∀ x ∈ l, c.ok x) (h2 : ∀ x ∈ l, ∀ Q : DK, Q (f x) M → te (c.set x δ) M Q) (h : k (l.map f) M) : lcD c gYes te δ l k M := by
  have := lcD_all (g := id) (c := c) (te := te) (δ := δ) (M := M) f h1 h2 h
  rwa [List.map_id] at this
theorem prs_of : ∀ {xs : List Da}, xs.all pr2 = true → ∃ prs : List (Da × Da), xs = prs.map fun p => .tup [p.1, p.2]
  | [], _ => ⟨[], rfl⟩
  | x :: xs, h => by
    rw [List.all_cons, Bool.and_eq_true] at h
    obtain ⟨prs, rfl⟩ := prs_of h.2
    have hx := h.1
    unfold pr2 at hx
    split at hx
    · exact ⟨(_, _) :: prs, rfl⟩
    · cases hx
def spPars : DSp := fun ds M Q _ => ∃ x, ds = [x] ∧ pv x ∧ Q (.bl (parB x)) M
theorem D_are_parameters {P : Program} {w : World} {K : PySem.W.Frag} {mg : Str → Option Value} {base : Heap} {C_Procedure : Addr} {C_Space : Addr} {C_InvalidProgram : Addr} {C_InvalidMeaning : Addr} {C_InvalidOperation : Addr} {C_InvalidNumber : Addr} {C_TooMany : Addr} (A : Facts K C_Procedure C_Space C_InvalidProgram C_InvalidMeaning C_InvalidOperation C_InvalidNumber C_TooMany) (M : MgOf K mg) (Z : Zs mg) (D_is_name : KnD P w K mg base "is_name" 1 ["value"] spIsName) : KnD P w K mg base "are_parameters" 2 ["value"] spPars := by
  refine KnD.of A.d_are_parameters M sc_are_parameters (fun _ _ _ _ _ _ us hl => match us, hl with | [_], _ => rfl) (fun ds M Q E ⟨_, h, _⟩ => by rw [h]; rfl) (fun f cdv A0 outer s H E hr => ?_)
  have hu := U.hu_of hr
  have hu1 := U.hu1_of hr
  have nd := sc_are_parameters.nd
  refine ⟨_, (z_cons (z_if (d_w (d_or (d_tnot (d_tv (d_b Z.isinstance b_isinstance (c_disiK (K := K) rfl) (d_cons (dn 0) (d_cons (d_ty Z.tuple b_tuple) d_nil))))) (d_or1 (d_tcm o_dgt (d_b Z.len b_len c_dlen (d_cons (dn 0) d_nil)) (d_gi Z.c_MAX_PARAMETERS))))) (z_one (z_ret d_bl)) z_nil)
      (z_cons (z_if (d_tnot (d_tv (d_b Z.all b_all (c_dall rfl) (d_cons (d_lc (own := [("pair", 1)]) (c := (.n 1)) rfl nd (d_it (dn 0)) (blkOk_by (own := [("pair", 1)]) (N := N_are_parameters) (sc := defScope s_are_parameters) (by decide +kernel)) (fun _ _ _ _ _ => (gn 1 nd)) (fun _ _ _ _ _ => d_ts0) (fun _ _ _ _ _ => (d_eand (d_b Z.isinstance b_isinstance (c_disiK (K := K) rfl) (d_cons (dn 1) (d_cons (d_ty Z.tuple b_tuple) d_nil))) (d_one (d_ecm (o_deq hu) (d_b Z.len b_len c_dlen (d_cons (dn 1) d_nil)) d_int))))) d_nil)))) (z_one (z_ret d_bl)) z_nil)
      (z_cons (z_if (d_tnot (d_tv (d_b Z.all b_all (c_dall rfl) (d_cons (d_lc (own := [("name", 2), ("kind", 3)]) (c := (.t [2, 3])) rfl nd (d_it (dn 0)) (blkOk_by (own := [("name", 2), ("kind", 3)]) (N := N_are_parameters) (sc := defScope s_are_parameters) (by decide +kernel)) (fun _ _ _ _ _ => (pg_tup rfl (pgs_cons (gn 2 nd) (pgs_cons (gn 3 nd) pgs_nil)))) (fun _ _ _ _ _ => d_ts0) (fun _ _ _ _ _ => (d_eand (d_call D_is_name (hr.mono (by decide)) (d_cons (dn 2) d_nil)) (d_eand (d_b Z.isinstance b_isinstance (c_disiK (K := K) rfl) (d_cons (dn 3) (d_cons (d_ty Z.str b_str) d_nil))) (d_one (d_ecm (o_din hu1) (dn 3) (d_tup (d_cons (d_gs Z.c_BLOCK) (d_cons (d_gs Z.c_WRAP) d_nil))))))))) d_nil)))) (z_one (z_ret d_bl)) z_nil)
      (z_one (z_ret (d_ecm (o_deq hu) (d_lenSc (own := [("name", 2), ("kind", 3)]) (c := (.t [2, 3])) rfl nd (d_it (dn 0)) (blkOk_by (own := [("name", 2), ("kind", 3)]) (N := N_are_parameters) (sc := defScope s_are_parameters) (by decide +kernel)) (fun _ _ _ _ _ => (pg_tup rfl (pgs_cons (gn 2 nd) (pgs_cons (gn 3 nd) pgs_nil)))) (fun _ _ _ _ _ => d_ts0) (fun _ _ _ _ _ => (dn 2)) Z.len) (d_b Z.len b_len c_dlen (d_cons (dn 0) d_nil)))))))), ?_⟩
  rintro ds M Q Ed ⟨x, rfl, ok, q⟩
  cases ok with
  | tup xs hl hx =>
    have no : ∀ b : Bool, b = parB (.tup xs) → b = false → Q (.bl false) M := fun b e e2 => by rw [← e, e2] at q; exact q
    refine ⟨by decide, ifF (by decide) (ite2 (fun c => ?_) (fun c => ?_))⟩
    · refine no _ rfl ?_
      have := of_decide_eq_true c
      show (decide _ && _) = false
      rw [decide_eq_false (by omega)]; rfl
    · have h3 : xs.length ≤ 3 := by
        apply Classical.byContradiction
        intro h
        exact c (decide_eq_true (by omega))
      refine ⟨sz (by omega), ?_⟩
      refine lcD_same (fun e => Da.bl (pr2 e)) (fun _ _ => trivial) (fun e he Q q => ?_) ?_
      · have oe := hx e he
        cases oe with
        | tup ys hy hy2 =>
          refine ⟨by decide, ifT (by decide) ?_⟩
          have e2 : pr2 (.tup ys) = decide ((ys.length : Int) = 2) := by
            match ys with
            | [] => rfl
            | [_] => rfl
            | [_, _] => rfl
            | _ :: _ :: _ :: _ => exact (decide_eq_false (by simp; omega)).symm
          rw [e2] at q
          exact q
        | _ => exact ⟨by decide, ifF (by decide) q⟩
      · refine ⟨_, asBls_fun _ _, ?_⟩
        rw [List.all_map]
        cases c2 : xs.all pr2 with
        | false =>
          refine ifT (by show (!(xs.all pr2)) = true; rw [c2]; rfl) (no _ rfl ?_)
          show (_ && (xs.all pr2 && _)) = false
          rw [c2, Bool.false_and, Bool.and_false]
        | true =>
          refine ifF (by show ¬ (!(xs.all pr2)) = true; rw [c2]; decide) ?_
          obtain ⟨prs, rfl⟩ := prs_of c2
          have hp : ∀ p ∈ prs, pv p.1 ∧ pv p.2 := fun p hp => by
            cases hx _ (List.mem_map_of_mem hp) with
            | tup _ _ h => exact ⟨h _ (by simp), h _ (by simp)⟩
          refine ⟨sz (by omega), lcD_all (fun p => Da.bl (prOk (.tup [p.1, p.2]))) (fun _ _ => rfl) (fun p hp' Q q => ?_) ?_⟩
          · obtain ⟨a, b⟩ := p
            obtain ⟨pa, pb⟩ := hp _ hp'
            have q0 : nameD a = false → Q (.bl false) M := fun e => by
              have e2 : prOk (.tup [a, b]) = false := by
                unfold prOk
                split
                · rename_i n k h
                  cases h
                  rw [e]; rfl
                · rfl
              rw [e2] at q
              exact q
            refine ⟨a, rfl, pa, ?_⟩
            cases cn : nameD a with
            | false => exact q0 cn
            | true =>
              cases pb with
              | str k hk =>
                refine ⟨by decide, ifT (by decide) ⟨rfl, flat_strs ["block", "wrap"] k, ?_⟩⟩
                have e2 : prOk (.tup [a, .str k]) = inD (.str k) ((["block", "wrap"] : List Str).map Da.str) := by
                  rw [inD_strs]
                  show (nameD a && _) = _
                  rw [cn, Bool.true_and]
                rw [e2] at q
                exact q
              | _ => exact ⟨by decide, ifF (by decide) q⟩
          · refine ⟨_, asBls_fun _ _, ?_⟩
            have ea : ((prs.map fun p => prOk (.tup [p.1, p.2])).all id) = (prs.map fun p => Da.tup [p.1, p.2]).all prOk := by rw [List.all_map, List.all_map]; rfl
            rw [ea]
            cases c3 : (prs.map fun p => Da.tup [p.1, p.2]).all prOk with
            | false =>
              refine ifT (by decide) (no _ rfl ?_)
              show (_ && (_ && (List.all _ prOk && _))) = false
              rw [c3, Bool.false_and, Bool.and_false, Bool.and_false]
            | true =>
              refine ifF (by decide) ?_
              obtain ⟨own, e, ho⟩ := own_of c3
              rw [e] at q h3 ⊢
              have h3' : own.length ≤ 3 := by rw [List.length_map] at h3; exact h3
              refine ⟨Nat.ble_eq.mpr (by omega), lcS_all (fun p : Str × Str => p.1) (fun _ _ => rfl) (fun p hp Q q => q) fun L hL hm => ?_⟩
              have e2 : parB (.tup (own.map fun p => .tup [.str p.1, .str p.2])) = decide (((L.length : Nat) : Int) = (((own.map fun p => Da.tup [.str p.1, .str p.2]).length : Nat) : Int)) := by
                show (decide _ && (_ && (_ && decide (nmsD _).Nodup))) = _
                rw [decide_eq_true h3, pr2_own, prOk_own ho, nms_own]
                simp only [Bool.true_and]
                have := len_nodup hL hm
                rw [List.length_map] at this
                rw [List.length_map]
                by_cases hn : (own.map (·.1)).Nodup
                · rw [decide_eq_true hn, decide_eq_true (by have := this.mpr hn; omega)]
                · rw [decide_eq_false hn, decide_eq_false fun h => hn (this.mp (by omega))]
              rw [e2] at q
              exact q
  | _ => exact ⟨by decide, ifT (by decide) (ifT (by rfl) q)⟩

end K69
set_option Elab.async false
set_option linter.all false
set_option maxRecDepth 100000
set_option maxHeartbeats 4000000



namespace K69
open PySem PySem.Spec PyProof.Rows L2 U
def bodB (own : List (Str × Str)) (x : Da) : Bool := pcB (kvsD own) 6 TW x && decide ((allF 6 x).length ≤ 40)
def spBody : DSp := fun ds M Q _ => ∃ x own, ds = [x, parD own] ∧ OwnOk own ∧ pv x ∧ (pcB (kvsD own) 6 TW x = true → (allF 6 x).length ≤ 100000) ∧ Q (.bl (bodB own x)) M
theorem kvs_KD (own : List (Str × Str)) : KD (kvsD own) := fun p hp => by
  obtain ⟨q, _, rfl⟩ := List.mem_map.mp hp
  exact ⟨_, rfl⟩
theorem merge_own {own : List (Str × Str)} (h : (own.map (·.1)).Nodup) : mergeD [] (kvsD own) = kvsD own := mergeD_new (by simpa using inr_nodup h)
theorem D_is_body {P : Program} {w : World} {K : PySem.W.Frag} {mg : Str → Option Value} {base : Heap} {C_Procedure : Addr} {C_Space : Addr} {C_InvalidProgram : Addr} {C_InvalidMeaning : Addr} {C_InvalidOperation : Addr} {C_InvalidNumber : Addr} {C_TooMany : Addr} (A : Facts K C_Procedure C_Space C_InvalidProgram C_InvalidMeaning C_InvalidOperation C_InvalidNumber C_TooMany) (M : MgOf K mg) (Z : Zs mg) (D_is_term_in : KnD P w K mg base "is_term_in" 21 ["value", "kinds", "deep"] (spIn TW 6)) (D_pieces_of : KnD P w K mg base "pieces_of" 2 ["piece"] spPieces) : KnD P w K mg base "is_body" 22 ["value", "parameters"] spBody := by
  refine KnD.of A.d_is_body M sc_is_body (fun _ _ _ _ _ _ us hl => match us, hl with | [_, _], _ => rfl) (fun ds M Q E ⟨_, _, h, _⟩ => by rw [h]; rfl) (fun f cdv A0 outer s H E hr => ?_)
  have hu := U.hu_of hr
  have hu1 := U.hu1_of hr
  have nd := sc_is_body.nd
  refine ⟨_, (z_one (z_ret (d_eand (d_call D_is_term_in (hr.mono (by decide)) (d_cons (dn 0) (d_cons (d_t Z.dict b_dict (c_ddict rfl) (d_cons (dn 1) d_nil)) (d_cons (d_gi Z.c_MAX_DEPTH) d_nil)))) (d_one (d_ecm o_dle (d_b Z.len b_len c_dlen (d_cons (d_call D_pieces_of (hr.mono (by decide)) (d_cons (dn 0) d_nil)) d_nil)) (d_gi Z.c_MAX_TERMS)))))), ?_⟩
  rintro ds M Q Ed ⟨x, own, rfl, ho, ox, hb, q⟩
  refine ⟨kvsD own, by show _ = (kvsD own).map _; unfold kvsD; rw [List.map_map]; rfl, ?_⟩
  rw [merge_own ho.nd]
  refine ⟨x, kvsD own, rfl, ox, kvs_KD own, ?_⟩
  cases c : pcB (kvsD own) 6 TW x with
  | false =>
    have e : bodB own x = false := by unfold bodB; rw [c]; rfl
    rw [e] at q
    exact ifF (by decide) q
  | true =>
    refine ifT rfl ⟨x, 6, kvsD own, rfl, ox, .inl c, hb c, fun R hR => ?_⟩
    have e : bodB own x = decide (((R.length : Nat) : Int) ≤ 40) := by
      unfold bodB
      rw [c, Bool.true_and, hR.length_eq]
      by_cases h : (allF 6 x).length ≤ 40
      · rw [decide_eq_true h, decide_eq_true (by omega)]
      · rw [decide_eq_false h, decide_eq_false (by omega)]
    rw [e] at q
    exact q
/-- a procedure's attributes -/
def prcF (nm : Str) (own : List (Str × Str)) (body : Da) (R : List Da) : List (Str × Da) :=
  [("own_name", .str nm), ("own_parameters", parD own), ("own_body", body), ("own_kinds", .tup (own.map fun p => .str p.2)), ("own_pieces", .tup R), ("own_shape", .tup [.str nm, parD own, body])]
def Prc (C : Addr) (nm : Str) (own : List (Str × Str)) (body : Da) (R : List Da) : Da := .obj C (prcF nm own body R)
structure PrcOk (nm : Str) (own : List (Str × Str)) (body : Da) : Prop where
  nm : nameZ nm = true
  ow : OwnOk own
  pv : pv body
  bd : bodB own body = true
theorem pv_par {own : List (Str × Str)} (h : OwnOk own) : pv (parD own) := by
  have hz : ∀ {z : Str}, nameZ z = true → z.length ≤ 1000 := fun {z} h => by
    unfold nameZ at h
    simp only [Bool.and_eq_true, decide_eq_true_eq] at h
    omega
  have hk : ∀ {z : Str}, (["block", "wrap"] : List Str).contains z = true → z.length ≤ 1000 := fun {z} h => by
    have : z ∈ (["block", "wrap"] : List Str) := by simpa using h
    simp only [List.mem_cons, List.not_mem_nil, or_false] at this
    rcases this with rfl | rfl <;> decide +kernel
  refine .tup _ (by rw [List.length_map]; have := h.len; omega) fun x hx => ?_
  obtain ⟨p, hp, rfl⟩ := List.mem_map.mp hx
  refine .tup _ (by simp) fun y hy => ?_
  have := h.ok p hp
  simp only [List.mem_cons, List.not_mem_nil, or_false] at hy
  rcases hy with rfl | rfl
  · exact .str _ (hz this.1)
  · exact .str _ (hk this.2)
/-- of any plain arguments -/
def spInitE (C CI : Addr) : DSp := fun ds M Q Ed => ∃ p x y z, ds = [.ref p, x, y, z] ∧ pv x ∧ pv y ∧ pv z ∧ M p = some (.ins C []) ∧
  (((nameD x = false ∨ parB y = false) ∧ ∃ M2, Sub M2 M ∧ Ed (.ref CI) [] M2) ∨
  (∃ nm own, x = .str nm ∧ nameZ nm = true ∧ y = parD own ∧ OwnOk own ∧ (pcB (kvsD own) 6 TW z = true → (allF 6 z).length ≤ 100000) ∧
    (bodB own z = true → ∀ R, R.Perm (allF 6 z) → Q .non (mput M p (.ins C (prcF nm own z R)))) ∧ (bodB own z = false → ∃ M2, Sub M2 M ∧ Ed (.ref CI) [] M2)))
theorem D_Procedure___init__ {P : Program} {w : World} {K : PySem.W.Frag} {mg : Str → Option Value} {base : Heap} {C_Procedure : Addr} {C_Space : Addr} {C_InvalidProgram : Addr} {C_InvalidMeaning : Addr} {C_InvalidOperation : Addr} {C_InvalidNumber : Addr} {C_TooMany : Addr} (A : Facts K C_Procedure C_Space C_InvalidProgram C_InvalidMeaning C_InvalidOperation C_InvalidNumber C_TooMany) (M : MgOf K mg) (Z : Zs mg) (D_is_name : KnD P w K mg base "is_name" 1 ["value"] spIsName) (D_are_parameters : KnD P w K mg base "are_parameters" 2 ["value"] spPars) (D_is_body : KnD P w K mg base "is_body" 22 ["value", "parameters"] spBody) (D_pieces_of : KnD P w K mg base "pieces_of" 2 ["piece"] spPieces) : KnMXD P w K mg base C_Procedure "__init__" 23 ["self", "name", "parameters", "body"] (spInitE C_Procedure C_InvalidProgram) := by
  refine KnMXD.of A.m_Procedure___init__ sc_Procedure___init__ (fun _ _ _ _ _ _ us hl => match us, hl with | [_, _, _, _], _ => rfl) (fun ds M Q E ⟨_, _, _, _, h, _⟩ => by rw [h]; rfl) (fun f cdv A0 outer s H E hr => ?_)
  have hu := U.hu_of hr
  have hu1 := U.hu1_of hr
  have nd := sc_Procedure___init__.nd
  refine ⟨_, (z_cons (z_if (d_w (d_or (d_tnot (d_tv (d_call D_is_name (hr.mono (by decide)) (d_cons (dn 1) d_nil)))) (d_or (d_tnot (d_tv (d_call D_are_parameters (hr.mono (by decide)) (d_cons (dn 2) d_nil)))) (d_or1 (d_tnot (d_tv (d_call D_is_body (hr.mono (by decide)) (d_cons (dn 3) (d_cons (dn 2) d_nil))))))))) (z_one (z_raise rfl M A.x_InvalidProgram)) z_nil)
      (z_cons (z_sto A.cls_Procedure.cl A.n_Procedure_own_name (dn 1) (dn 0))
      (z_cons (z_sto A.cls_Procedure.cl A.n_Procedure_own_parameters (dn 2) (dn 0))
      (z_cons (z_sto A.cls_Procedure.cl A.n_Procedure_own_body (dn 3) (dn 0))
      (z_cons (z_sto A.cls_Procedure.cl A.n_Procedure_own_kinds (d_t Z.tuple b_tuple c_dtuple (d_cons (d_lc (own := [("parameter", 4), ("kind", 5)]) (c := (.t [4, 5])) rfl nd (d_it (dn 2)) (blkOk_by (own := [("parameter", 4), ("kind", 5)]) (N := N_Procedure___init__) (sc := defScope s_Procedure___init__) (by decide +kernel)) (fun _ _ _ _ _ => (pg_tup rfl (pgs_cons (gn 4 nd) (pgs_cons (gn 5 nd) pgs_nil)))) (fun _ _ _ _ _ => d_ts0) (fun _ _ _ _ _ => (dn 5))) d_nil)) (dn 0))
      (z_cons (z_sto A.cls_Procedure.cl A.n_Procedure_own_pieces (d_t Z.tuple b_tuple c_dtuple (d_cons (d_call D_pieces_of (hr.mono (by decide)) (d_cons (dn 3) d_nil)) d_nil)) (dn 0))
      (z_one (z_sto A.cls_Procedure.cl A.n_Procedure_own_shape (d_tup (d_cons (dn 1) (d_cons (dn 2) (d_cons (dn 3) d_nil)))) (dn 0))))))))), ?_⟩
  rintro ds M Q Ed ⟨p, x, y, body, rfl, hx, hy, hpv, hM, ⟨hb, e⟩ | ⟨nm, own, rfl, hn, rfl, how, hlen, q, qx⟩⟩
  · refine ⟨x, rfl, hx, ?_⟩
    cases cx : nameD x with
    | false => exact ifT rfl e
    | true =>
      rcases hb with hb | hb
      · rw [cx] at hb; cases hb
      · refine ifF (by decide) ⟨y, rfl, hy, ?_⟩
        rw [hb]
        exact ifT rfl e
  have hz : nm.length ≤ 1000 := by
    have h := hn
    unfold nameZ at h
    simp only [Bool.and_eq_true, decide_eq_true_eq] at h
    omega
  refine ⟨.str nm, rfl, .str _ hz, ?_⟩
  refine ifF (by show ¬ (!(nameZ nm)) = true; rw [hn]; decide) ?_
  refine ⟨parD own, rfl, pv_par how, ifF (by rw [parB_own how]; decide) ?_⟩
  refine ⟨body, own, rfl, how, hpv, hlen, ?_⟩
  cases c : bodB own body with
  | false => exact ifT rfl (qx c)
  | true =>
    have hb := c
    unfold bodB at hb
    rw [Bool.and_eq_true, decide_eq_true_eq] at hb
    refine ifF (by decide) ?_
    have h3 : (own.map fun p : Str × Str => Da.tup [.str p.1, .str p.2]).length ≤ 1000000 := by rw [List.length_map]; have := how.len; omega
    refine ⟨_, hM, rfl, _, mput_same, rfl, _, mput_same, rfl, ?_⟩
    refine ⟨sz h3, lcD_all (fun p : Str × Str => Da.str p.2) (fun _ _ => rfl) (fun p hp Q q => q) ?_⟩
    refine ⟨_, mput_same, rfl, ?_⟩
    refine ⟨body, 6, kvsD own, rfl, hpv, .inl hb.1, by omega, fun R hR => ?_⟩
    refine ⟨_, mput_same, rfl, rfl, _, mput_same, rfl, ?_⟩
    rw [mput_put, mput_put, mput_put, mput_put, mput_put]
    exact q c R hR
def spGetP (C : Addr) (g : Str → List (Str × Str) → Da → List Da → Da) : DSp := fun ds M Q _ => ∃ nm own body R, ds = [Prc C nm own body R] ∧ Q (g nm own body R) M
theorem D_Procedure_named {P : Program} {w : World} {K : PySem.W.Frag} {mg : Str → Option Value} {base : Heap} {C_Procedure : Addr} {C_Space : Addr} {C_InvalidProgram : Addr} {C_InvalidMeaning : Addr} {C_InvalidOperation : Addr} {C_InvalidNumber : Addr} {C_TooMany : Addr} (A : Facts K C_Procedure C_Space C_InvalidProgram C_InvalidMeaning C_InvalidOperation C_InvalidNumber C_TooMany) (M : MgOf K mg) (Z : Zs mg)  : KnPD P w K mg base C_Procedure "named" 1 ["self"] (spGetP C_Procedure fun nm _ _ _ => .str nm) := by
  refine KnPD.of A.p_Procedure_named sc_Procedure_named (fun _ _ _ _ _ _ us hl => match us, hl with | [_], _ => rfl) (fun ds M Q E ⟨_, _, _, _, h, _⟩ => by rw [h]; rfl) (fun f cdv A0 outer s H E hr => ?_)
  have hu := U.hu_of hr
  have hu1 := U.hu1_of hr
  have nd := sc_Procedure_named.nd
  refine ⟨_, (z_one (z_ret (d_fld A.cls_Procedure.cl A.n_Procedure_own_name (dn 0)))), ?_⟩
  rintro ds M Q Ed ⟨nm, own, body, R, rfl, q⟩
  exact ⟨rfl, _, rfl, q⟩
theorem D_Procedure_parameters {P : Program} {w : World} {K : PySem.W.Frag} {mg : Str → Option Value} {base : Heap} {C_Procedure : Addr} {C_Space : Addr} {C_InvalidProgram : Addr} {C_InvalidMeaning : Addr} {C_InvalidOperation : Addr} {C_InvalidNumber : Addr} {C_TooMany : Addr} (A : Facts K C_Procedure C_Space C_InvalidProgram C_InvalidMeaning C_InvalidOperation C_InvalidNumber C_TooMany) (M : MgOf K mg) (Z : Zs mg)  : KnPD P w K mg base C_Procedure "parameters" 1 ["self"] (spGetP C_Procedure fun _ own _ _ => parD own) := by
  refine KnPD.of A.p_Procedure_parameters sc_Procedure_parameters (fun _ _ _ _ _ _ us hl => match us, hl with | [_], _ => rfl) (fun ds M Q E ⟨_, _, _, _, h, _⟩ => by rw [h]; rfl) (fun f cdv A0 outer s H E hr => ?_)
  have hu := U.hu_of hr
  have hu1 := U.hu1_of hr
  have nd := sc_Procedure_parameters.nd
  refine ⟨_, (z_one (z_ret (d_fld A.cls_Procedure.cl A.n_Procedure_own_parameters (dn 0)))), ?_⟩
  rintro ds M Q Ed ⟨nm, own, body, R, rfl, q⟩
  exact ⟨rfl, _, rfl, q⟩
theorem D_Procedure_body {P : Program} {w : World} {K : PySem.W.Frag} {mg : Str → Option Value} {base : Heap} {C_Procedure : Addr} {C_Space : Addr} {C_InvalidProgram : Addr} {C_InvalidMeaning : Addr} {C_InvalidOperation : Addr} {C_InvalidNumber : Addr} {C_TooMany : Addr} (A : Facts K C_Procedure C_Space C_InvalidProgram C_InvalidMeaning C_InvalidOperation C_InvalidNumber C_TooMany) (M : MgOf K mg) (Z : Zs mg)  : KnPD P w K mg base C_Procedure "body" 1 ["self"] (spGetP C_Procedure fun _ _ body _ => body) := by
  refine KnPD.of A.p_Procedure_body sc_Procedure_body (fun _ _ _ _ _ _ us hl => match us, hl with | [_], _ => rfl) (fun ds M Q E ⟨_, _, _, _, h, _⟩ => by rw [h]; rfl) (fun f cdv A0 outer s H E hr => ?_)
  have hu := U.hu_of hr
  have hu1 := U.hu1_of hr
  have nd := sc_Procedure_body.nd
  refine ⟨_, (z_one (z_ret (d_fld A.cls_Procedure.cl A.n_Procedure_own_body (dn 0)))), ?_⟩
  rintro ds M Q Ed ⟨nm, own, body, R, rfl, q⟩
  exact ⟨rfl, _, rfl, q⟩
theorem D_Procedure___len__ {P : Program} {w : World} {K : PySem.W.Frag} {mg : Str → Option Value} {base : Heap} {C_Procedure : Addr} {C_Space : Addr} {C_InvalidProgram : Addr} {C_InvalidMeaning : Addr} {C_InvalidOperation : Addr} {C_InvalidNumber : Addr} {C_TooMany : Addr} (A : Facts K C_Procedure C_Space C_InvalidProgram C_InvalidMeaning C_InvalidOperation C_InvalidNumber C_TooMany) (M : MgOf K mg) (Z : Zs mg)  : KnMD P w K mg base C_Procedure "__len__" 1 ["self"] (spGetP C_Procedure fun _ _ _ R => .int (R.length : Nat)) := by
  refine KnMD.of A.m_Procedure___len__ sc_Procedure___len__ (fun _ _ _ _ _ _ us hl => match us, hl with | [_], _ => rfl) (fun ds M Q E ⟨_, _, _, _, h, _⟩ => by rw [h]; rfl) (fun f cdv A0 outer s H E hr => ?_)
  have hu := U.hu_of hr
  have hu1 := U.hu1_of hr
  have nd := sc_Procedure___len__.nd
  refine ⟨_, (z_one (z_ret (d_b Z.len b_len c_dlen (d_cons (d_fld A.cls_Procedure.cl A.n_Procedure_own_pieces (dn 0)) d_nil)))), ?_⟩
  rintro ds M Q Ed ⟨nm, own, body, R, rfl, q⟩
  exact ⟨rfl, _, rfl, q⟩

end K69
set_option Elab.async false
set_option linter.all false
set_option maxRecDepth 100000
set_option maxHeartbeats 4000000



namespace K69
open PySem PySem.Spec PyProof.Rows L2 U
def endsN (n : Nat) (w : Bool) : Nat := n + if w then 1 else 0
def pows (N : Nat) : List Da := (List.range (N + 1)).map fun k => Da.int ((2 ^ k : Nat) : Int)
def spcF (n : Nat) (w : Bool) : List (Str × Da) := [("own_modes", .int (n : Int)), ("own_watched", .bl w), ("own_ends", .int (endsN n w : Nat)), ("own_powers", .lst (pows (n * endsN n w))), ("own_size", .int ((2 ^ (n * endsN n w) : Nat) : Int)), ("own_same", .int (sam n (endsN n w) : Nat))]
def Spc (C : Addr) (n : Nat) (w : Bool) : Da := .obj C (spcF n w)
def OkN (n : Nat) : Prop := 1 ≤ n ∧ n ≤ 3
def spInit (C : Addr) : DSp := fun ds M Q _ => ∃ p n w, ds = [.ref p, .int (n : Nat), .bl w] ∧ OkN n ∧ M p = some (.ins C []) ∧ Q .non (mput M p (.ins C (spcF n w)))
theorem sz_of {n : Nat} (h : n ≤ 100) : Sz n := sz (by omega)
theorem E_le {n : Nat} {w : Bool} (h : OkN n) : n ≤ endsN n w ∧ endsN n w ≤ 4 ∧ n * endsN n w ≤ 12 := by
  obtain ⟨h1, h2⟩ := h
  have : n = 1 ∨ n = 2 ∨ n = 3 := by omega
  rcases this with rfl | rfl | rfl <;> cases w <;> decide
theorem pows_len (N : Nat) : (pows N).length = N + 1 := by unfold pows; rw [List.length_map, List.length_range]
theorem pows_get {N k : Nat} (h : k ≤ N) : (pows N)[k]? = some (.int ((2 ^ k : Nat) : Int)) := by
  unfold pows
  rw [List.getElem?_map, List.getElem?_range (by omega)]
  rfl
theorem pows_at {N k : Nat} (h : k ≤ N) : atI (pows N) (k : Nat) = some (.int ((2 ^ k : Nat) : Int)) := atI_nat (pows_get h)
theorem pows_last (N : Nat) : atI (pows N) (-1) = some (.int ((2 ^ N : Nat) : Int)) := by
  unfold atI ixN
  rw [if_neg (by decide), if_pos (by rw [pows_len]; omega), pows_len]
  have : ((-1 : Int) + ((N + 1 : Nat) : Int)).toNat = N := by omega
  show (pows N)[_]? = _
  rw [this]
  exact pows_get (Nat.le_refl _)
theorem pows_snoc (N : Nat) : pows N ++ [.int (((2 ^ N : Nat) : Int) * 2)] = pows (N + 1) := by
  unfold pows
  rw [List.range_succ (n := N + 1), List.map_append]
  show _ ++ [Da.int _] = _ ++ [Da.int ((2 ^ (N + 1) : Nat) : Int)]
  rw [show ((2 ^ (N + 1) : Nat) : Int) = ((2 ^ N : Nat) : Int) * 2 from by rw [Nat.pow_succ]; omega]
section
variable {P : Program} {w : World} {K : PySem.W.Frag} {mg : Str → Option Value} {base : Heap} {C_Procedure : Addr} {C_Space : Addr} {C_InvalidProgram : Addr} {C_InvalidMeaning : Addr} {C_InvalidOperation : Addr} {C_InvalidNumber : Addr} {C_TooMany : Addr}
theorem D_Space___init__ (A : Facts K C_Procedure C_Space C_InvalidProgram C_InvalidMeaning C_InvalidOperation C_InvalidNumber C_TooMany) (M : MgOf K mg) (Z : Zs mg) (D_is_from : KnD P w K mg base "is_from" 2 ["value", "first", "last"] spIsFrom) : KnK P w K mg base C_Space 3 ["self", "modes", "watched"] 2 ["watched"] [.bl false] (spInit C_Space) := by
  refine KnK.of A.i_Space sc_Space___init__ (by decide) rfl (fun D doc pm an cdv ct us zs l1 l2 => match us, l1, zs, l2 with | [_, _], _, [_], _ => ⟨_, _, _, _, _, _, rfl, rfl, rfl⟩)
    (fun D doc pm an cdv ct us ws l1 l2 => match us, l1, ws, l2 with | [_, _], _, [_], _ => rfl) (fun ds M Q E ⟨_, _, _, h, _⟩ => by rw [h]; rfl) (fun f cdv A0 outer s H E hr => ?_)
  have nd := sc_Space___init__.nd
  refine ⟨_, (z_cons (z_if (d_tnot (d_tv (d_call D_is_from (hr.mono (by decide)) (d_cons (dn 1) (d_cons d_int (d_cons (d_gi Z.c_MAX_MODES) d_nil)))))) (z_one z_never) z_nil)
      (z_cons (z_if (d_tnot (d_tv (d_b Z.isinstance b_isinstance (c_disiK (K := K) rfl) (d_cons (dn 2) (d_cons (d_ty Z.bool b_bool) d_nil))))) (z_one z_never) z_nil)
      (z_cons (z_sto A.cls_Space.cl A.n_Space_own_modes (dn 1) (dn 0))
      (z_cons (z_sto A.cls_Space.cl A.n_Space_own_watched (dn 2) (dn 0))
      (z_cons (z_sto A.cls_Space.cl A.n_Space_own_ends (d_op o_dadd (dn 1) (d_if (d_tv (dn 2)) d_int d_int)) (dn 0))
      (z_cons (z_set 3 nd (d_lst (d_cons d_int d_nil)))
      (z_cons (z_for PassesOwn.never rfl (d_rg1 Z.range (d_cons (d_op o_dmul (dn 1) (d_fld A.cls_Space.cl A.n_Space_own_ends (dn 0))) d_nil)) (t_n 4 nd) (z_one (z_set 3 nd (d_lst (d_star (dn 3) (d_cons (d_op o_dmul (d_ix (dn 3) (d_neg d_int)) d_int) d_nil))))))
      (z_cons (z_sto A.cls_Space.cl A.n_Space_own_powers (dn 3) (dn 0))
      (z_cons (z_sto A.cls_Space.cl A.n_Space_own_size (d_ix (dn 3) (d_neg d_int)) (dn 0))
      (z_one (z_sto A.cls_Space.cl A.n_Space_own_same (d_b Z.sum b_sum (c_dsum rfl) (d_cons (d_lc (own := [("mode", 5)]) (c := (.n 5)) rfl nd (d_rg1 Z.range (d_cons (dn 1) d_nil)) (blkOk_by (own := [("mode", 5)]) (N := N_Space___init__) (sc := defScope s_Space___init__) (by decide +kernel)) (fun _ _ _ _ _ => (gn 5 nd)) (fun _ _ _ _ _ => d_ts0) (fun _ _ _ _ _ => (d_ix (dn 3) (d_op o_dadd (d_op o_dmul (dn 5) (d_fld A.cls_Space.cl A.n_Space_own_ends (dn 0))) (dn 5))))) d_nil)) (dn 0)))))))))))), ?_⟩
  rintro ds M Q Ed ⟨p, n, w, rfl, hn, hp, k⟩
  have e1 : isFr (.int (n : Int)) 1 3 = true := by
    show (decide _ && decide _) = true
    rw [decide_eq_true (by have := hn.1; omega), decide_eq_true (by have := hn.2; omega)]; rfl
  obtain ⟨el1, el2, el3⟩ := E_le (w := w) hn
  refine ⟨_, _, _, rfl, .int _, ?_⟩
  rw [show isFr _ _ _ = true from e1]
  refine ⟨by decide, ifF (by decide) ?_⟩
  refine ⟨_, hp, rfl, ?_⟩
  refine ⟨_, mput_same, rfl, ?_⟩
  -- the number of ends
  have ends : ∀ {Q : DK} {M : Mm}, Q (.int (endsN n w : Nat)) M → (if w = true then Q (.int ((n : Int) + 1)) M else Q (.int ((n : Int) + 0)) M) := fun {Q M} q => by cases w <;> exact q
  have st : ∀ (Q : DK), Q (.int (endsN n w : Nat)) (mput (mput M p (.ins C_Space (putD "own_modes" (.int (n : Int)) []))) p (.ins C_Space (putD "own_watched" (.bl w) (putD "own_modes" (.int (n : Int)) [])))) →
      gOp hAdd (gVar 1) (gIf (gTru (gVar 2)) (gC (.int 1)) (gC (.int 0))) [some (.ref p), some (.int (n : Int)), some (.bl w), none, none, none] (mput (mput M p (.ins C_Space (putD "own_modes" (.int (n : Int)) []))) p (.ins C_Space (putD "own_watched" (.bl w) (putD "own_modes" (.int (n : Int)) [])))) Q := fun Q q => by cases w <;> exact q
  refine st _ ?_
  refine ⟨_, mput_same, rfl, ?_⟩
  refine ⟨rfl, ?_⟩
  refine ⟨_, mput_same, _, rfl, .inl (by have := hn.2; omega), rok (by omega) (by have : ((n : Int) * (endsN n w : Nat)) = ((n * endsN n w : Nat) : Int) := rfl; omega), ?_⟩
  refine forD_rng (n := n * endsN n w) (fun j δ M' => ∃ u, δ = [some (.ref p), some (.int (n : Int)), some (.bl w), some (.lst (pows j)), u, none] ∧ M' = mput (mput (mput M p (.ins C_Space (putD "own_modes" (.int (n : Int)) []))) p (.ins C_Space (putD "own_watched" (.bl w) (putD "own_modes" (.int (n : Int)) [])))) p (.ins C_Space (putD "own_ends" (.int (endsN n w : Nat)) (putD "own_watched" (.bl w) (putD "own_modes" (.int (n : Int)) []))))) ?_ ?_ ⟨none, rfl, rfl⟩
  · rintro j δ M' NX hj ⟨u, rfl, rfl⟩ nx
    refine ⟨_, pows_last j, .inr ⟨by decide, by decide⟩, sz_of ?_, nx _ _ ⟨some (.int (j : Int)), ?_, rfl⟩⟩
    · show (pows j ++ [_]).length ≤ 100
      rw [List.length_append, pows_len, List.length_singleton]; omega
    · show _ = [some (Da.ref p), some (Da.int (n : Int)), some (Da.bl w), some (Da.lst (pows (j + 1))), _, none]
      rw [← pows_snoc]
      rfl
  · rintro δ M' ⟨u, rfl, rfl⟩
    refine ⟨_, mput_same, rfl, ?_⟩
    refine ⟨_, pows_last _, _, mput_same, rfl, ?_⟩
    refine ⟨rok (by omega) (by have := hn.2; omega), ?_⟩
    rw [rngD0' (n := n) rfl]
    refine ⟨sz_of (by rw [List.length_map, List.length_range]; have := hn.2; omega), lcD_all (fun i : Nat => Da.int ((2 ^ (i * endsN n w + i) : Nat) : Int)) (fun _ _ => trivial) (fun i hi Q q => ?_) ?_⟩
    · have hi := List.mem_range.mp hi
      refine ⟨_, mput_same, _, rfl, .inl (by have := hn.2; omega), _, pows_at (k := i * endsN n w + i) ?_, q⟩
      have h1 : i * endsN n w ≤ (n - 1) * endsN n w := Nat.mul_le_mul_right _ (by omega)
      have h2 : (n - 1) * endsN n w + endsN n w = n * endsN n w := by
        rw [← Nat.succ_mul]; congr 1; have := hn.1; omega
      omega
    · refine ⟨_, asInts_fun _ _, _, mput_same, rfl, ?_⟩
      have es : ((List.range n).map fun i => ((2 ^ (i * endsN n w + i) : Nat) : Int)).sum = ((sam n (endsN n w) : Nat) : Int) := by
        obtain ⟨h1, h2⟩ := hn
        have : n = 1 ∨ n = 2 ∨ n = 3 := by omega
        rcases this with rfl | rfl | rfl <;> cases w <;> decide
      rw [es]
      simp only [mput_put]
      exact k
def spIsRel (C : Addr) : DSp := fun ds M Q _ => ∃ (n : Nat) (w : Bool) (x : Da), ds = [Spc C n w, x] ∧ OkN n ∧ pv x ∧ Q (.bl (isFr x 0 (((2 ^ (n * endsN n w) : Nat) : Int) - 1))) M
section
variable (A : Facts K C_Procedure C_Space C_InvalidProgram C_InvalidMeaning C_InvalidOperation C_InvalidNumber C_TooMany) (M : MgOf K mg) (Z : Zs mg)
include A M Z
theorem D_Space_is_relation (D_is_from : KnD P w K mg base "is_from" 2 ["value", "first", "last"] spIsFrom) : KnMD P w K mg base C_Space "is_relation" 3 ["self", "value"] (spIsRel C_Space) := by
  refine KnMD.of A.m_Space_is_relation sc_Space_is_relation (fun _ _ _ _ _ _ us hl => match us, hl with | [_, _], _ => rfl) (fun ds M Q E ⟨_, _, _, h, _⟩ => by rw [h]; rfl) (fun f cdv A0 outer s H E hr => ?_)
  have nd := sc_Space_is_relation.nd
  refine ⟨_, (z_one (z_ret (d_call D_is_from (hr.mono (by decide)) (d_cons (dn 1) (d_cons d_int (d_cons (d_op o_dsub (d_fld A.cls_Space.cl A.n_Space_own_size (dn 0)) d_int) d_nil)))))), ?_⟩
  rintro ds M Q Ed ⟨n, w, x, rfl, hn, ok, q⟩
  exact ⟨rfl, _, rfl, x, 0, _, rfl, ok, q⟩
end
end

section
variable {P : Program} {w : World} {K : PySem.W.Frag} {mg : Str → Option Value} {base : Heap} {C_Procedure : Addr} {C_Space : Addr} {C_InvalidProgram : Addr} {C_InvalidMeaning : Addr} {C_InvalidOperation : Addr} {C_InvalidNumber : Addr} {C_TooMany : Addr}
/-- a space with n modes, watched or not -/
def spBit (C : Addr) : DSp := fun ds M Q _ => ∃ (n : Nat) (w : Bool) (m e : Nat), ds = [Spc C n w, .int m, .int e] ∧ OkN n ∧ m * endsN n w + e ≤ n * endsN n w ∧ Q (.int ((2 ^ (m * endsN n w + e) : Nat) : Int)) M
def spHasS (C : Addr) : DSp := fun ds M Q _ => ∃ (n : Nat) (w : Bool) (r m e : Nat), ds = [Spc C n w, .int r, .int m, .int e] ∧ OkN n ∧ m * endsN n w + e ≤ n * endsN n w ∧ Q (.bl (r.testBit (m * endsN n w + e))) M
def spReqRel (C : Addr) : DSp := fun ds M Q _ => ∃ (n : Nat) (w : Bool) (r : Nat), ds = [Spc C n w, .int r] ∧ OkN n ∧ r < 2 ^ (n * endsN n w) ∧ Q .non M
theorem pow_lt {k : Nat} (h : k ≤ 12) : 0 < ((2 ^ k : Nat) : Int) ∧ ((2 ^ k : Nat) : Int) < 1073741824 := by
  have h1 : 2 ^ k ≤ 2 ^ 12 := Nat.pow_le_pow_right (by decide) h
  have h2 : 0 < 2 ^ k := Nat.pow_pos (by decide)
  have e : (2 : Nat) ^ 12 = 4096 := by decide
  omega
theorem bit_or (a b : Nat) : Builtin.bitOr (a : Int) (b : Int) = ((a ||| b : Nat) : Int) := by
  rw [bitOr_nn (Int.natCast_nonneg _) (Int.natCast_nonneg _)]; rfl
section
variable (A : Facts K C_Procedure C_Space C_InvalidProgram C_InvalidMeaning C_InvalidOperation C_InvalidNumber C_TooMany) (M : MgOf K mg) (Z : Zs mg)
include A M Z
theorem D_Space_bit : KnMD P w K mg base C_Space "bit" 1 ["self", "mode", "end"] (spBit C_Space) := by
  refine KnMD.of A.m_Space_bit sc_Space_bit (fun _ _ _ _ _ _ us hl => match us, hl with | [_, _, _], _ => rfl) (fun ds M Q E ⟨_, _, _, _, h, _⟩ => by rw [h]; rfl) (fun f cdv A0 outer s H E hr => ?_)
  have nd := sc_Space_bit.nd
  refine ⟨_, (z_one (z_ret (d_ix (d_fld A.cls_Space.cl A.n_Space_own_powers (dn 0)) (d_op o_dadd (d_op o_dmul (dn 1) (d_fld A.cls_Space.cl A.n_Space_own_ends (dn 0))) (dn 2))))), ?_⟩
  rintro ds M Q Ed ⟨n, w, m, e, rfl, hn, hk, q⟩
  obtain ⟨_, el2, el3⟩ := E_le (w := w) hn
  refine ⟨rfl, _, rfl, ⟨rfl, _, rfl, .inr (by omega), _, pows_at hk, q⟩⟩
theorem D_Space_has (D_Space_bit : KnMD P w K mg base C_Space "bit" 1 ["self", "mode", "end"] (spBit C_Space)) : KnMD P w K mg base C_Space "has" 2 ["self", "relation", "mode", "end"] (spHasS C_Space) := by
  refine KnMD.of A.m_Space_has sc_Space_has (fun _ _ _ _ _ _ us hl => match us, hl with | [_, _, _, _], _ => rfl) (fun ds M Q E ⟨_, _, _, _, _, h, _⟩ => by rw [h]; rfl) (fun f cdv A0 outer s H E hr => ?_)
  have hu := U.hu_of hr
  have nd := sc_Space_has.nd
  refine ⟨_, (z_one (z_ret (d_ecm (o_deq hu) (d_op o_dmod (d_op o_ddiv (dn 1) (d_meth D_Space_bit A.cls_Space.cl (hr.mono (by decide)) (dn 0) (d_cons (dn 2) (d_cons (dn 3) d_nil)))) d_int) d_int))), ?_⟩
  rintro ds M Q Ed ⟨n, w, r, m, e, rfl, hn, hk, q⟩
  obtain ⟨_, el2, el3⟩ := E_le (w := w) hn
  refine ⟨⟨rfl, rfl⟩, n, w, m, e, rfl, hn, hk, pow_lt (by omega), by decide, ?_⟩
  rw [← has_bit] at q
  exact q
theorem D_Space_require_relation (D_Space_is_relation : KnMD P w K mg base C_Space "is_relation" 3 ["self", "value"] (spIsRel C_Space)) : KnMD P w K mg base C_Space "require_relation" 4 ["self", "value"] (spReqRel C_Space) := by
  refine KnMD.of A.m_Space_require_relation sc_Space_require_relation (fun _ _ _ _ _ _ us hl => match us, hl with | [_, _], _ => rfl) (fun ds M Q E ⟨_, _, _, h, _⟩ => by rw [h]; rfl) (fun f cdv A0 outer s H E hr => ?_)
  have nd := sc_Space_require_relation.nd
  refine ⟨_, (z_one (z_if (d_tnot (d_tv (d_meth D_Space_is_relation A.cls_Space.cl (hr.mono (by decide)) (dn 0) (d_cons (dn 1) d_nil)))) (z_one z_never) z_nil)), ?_⟩
  rintro ds M Q Ed ⟨n, w, r, rfl, hn, hr', q⟩
  have e : isFr (.int (r : Int)) 0 (((2 ^ (n * endsN n w) : Nat) : Int) - 1) = true := by
    simp only [isFr]
    rw [decide_eq_true (by omega), decide_eq_true (by omega)]; rfl
  refine ⟨⟨rfl, rfl⟩, n, w, _, rfl, hn, .int _, ?_⟩
  rw [show isFr _ _ _ = true from e]
  exact q
end
end

def pr (E k : Nat) : List Int := [((k / E : Nat) : Int), ((k % E : Nat) : Int)]
/-- the cells of a relation -/
def cel (r : Nat) : List Nat := (List.range 12).filter r.testBit
theorem cel_mem {r k : Nat} : k ∈ cel r ↔ k < 12 ∧ r.testBit k = true := by unfold cel; rw [List.mem_filter, List.mem_range]
theorem cel_len (r : Nat) : (cel r).length ≤ 12 := by
  unfold cel
  have := List.length_filter_le r.testBit (List.range 12)
  rw [List.length_range] at this
  exact this
theorem pow_at {N k : Nat} (h : k < N) : atI ((List.range N).map fun k => Da.int ((2 ^ k : Nat) : Int)) (k : Nat) = some (.int ((2 ^ k : Nat) : Int)) :=
  atI_nat (by rw [List.getElem?_map, List.getElem?_range h]; rfl)
section
variable {P : Program} {w : World} {K : PySem.W.Frag} {mg : Str → Option Value} {base : Heap} {C_Procedure : Addr} {C_Space : Addr} {C_InvalidProgram : Addr} {C_InvalidMeaning : Addr} {C_InvalidOperation : Addr} {C_InvalidNumber : Addr} {C_TooMany : Addr}
variable (A : Facts K C_Procedure C_Space C_InvalidProgram C_InvalidMeaning C_InvalidOperation C_InvalidNumber C_TooMany) (M : MgOf K mg) (Z : Zs mg)
include A M Z
end

def isTab (N : Nat) (x : Da) : Bool := match x with
  | .tup xs => decide (xs.length = 2 ^ N) && xs.all fun y => isFr y 0 (((2 ^ N : Nat) : Int) - 1)
  | _ => false
def spIsTable (C : Addr) : DSp := fun ds M Q _ => ∃ (n : Nat) (w : Bool) (x : Da), ds = [Spc C n w, x] ∧ OkN n ∧ pv x ∧ Q (.bl (isTab (n * endsN n w) x)) M
section
variable {P : Program} {w : World} {K : PySem.W.Frag} {mg : Str → Option Value} {base : Heap} {C_Procedure : Addr} {C_Space : Addr} {C_InvalidProgram : Addr} {C_InvalidMeaning : Addr} {C_InvalidOperation : Addr} {C_InvalidNumber : Addr} {C_TooMany : Addr}
variable (A : Facts K C_Procedure C_Space C_InvalidProgram C_InvalidMeaning C_InvalidOperation C_InvalidNumber C_TooMany) (M : MgOf K mg) (Z : Zs mg)
include A M Z
theorem D_Space_is_table (D_Space_is_relation : KnMD P w K mg base C_Space "is_relation" 3 ["self", "value"] (spIsRel C_Space)) : KnMD P w K mg base C_Space "is_table" 4 ["self", "value"] (spIsTable C_Space) := by
  refine KnMD.of A.m_Space_is_table sc_Space_is_table (fun _ _ _ _ _ _ us hl => match us, hl with | [_, _], _ => rfl) (fun ds M Q E ⟨_, _, _, h, _⟩ => by rw [h]; rfl) (fun f cdv A0 outer s H E hr => ?_)
  have hu := U.hu_of hr
  have nd := sc_Space_is_table.nd
  refine ⟨_, (z_cons (z_if (d_w (d_or (d_tnot (d_tv (d_b Z.isinstance b_isinstance (c_disiK (K := K) rfl) (d_cons (dn 1) (d_cons (d_ty Z.tuple b_tuple) d_nil))))) (d_or1 (d_tcm (o_dne hu) (d_b Z.len b_len c_dlen (d_cons (dn 1) d_nil)) (d_fld A.cls_Space.cl A.n_Space_own_size (dn 0)))))) (z_one (z_ret d_bl)) z_nil)
      (z_one (z_ret (d_b Z.all b_all (c_dall rfl) (d_cons (d_lc (own := [("entry", 2)]) (c := (.n 2)) rfl nd (d_it (dn 1)) (blkOk_by (own := [("entry", 2)]) (N := N_Space_is_table) (sc := defScope s_Space_is_table) (by decide +kernel)) (fun _ _ _ _ _ => (gn 2 nd)) (fun _ _ _ _ _ => d_ts0) (fun _ _ _ _ _ => (d_meth D_Space_is_relation A.cls_Space.cl (hr.mono (by decide)) (dn 0) (d_cons (dn 2) d_nil)))) d_nil))))), ?_⟩
  rintro ds M Q Ed ⟨n, w, x, rfl, hn, ok, q⟩
  cases x with
  | non => exact ⟨by decide, ifT (by decide) q⟩
  | bl b => exact ⟨by decide, ifT (by decide) q⟩
  | int b => exact ⟨by decide, ifT (by decide) q⟩
  | str b => exact ⟨by decide, ifT (by decide) q⟩
  | lst b => exact ⟨by decide, ifT (by decide) q⟩
  | dct b => exact ⟨by decide, ifT (by decide) q⟩
  | tup xs =>
    have ok1 : Sz xs.length := by cases ok with | tup _ h _ => exact sz (by omega)
    have ok2 : ∀ y ∈ xs, pv y := by cases ok with | tup _ _ h => exact h
    refine ⟨by decide, ifF (by decide) ⟨rfl, _, rfl, ?_⟩⟩
    cases c : decide (xs.length = 2 ^ (n * endsN n w)) with
    | false =>
      have e : isTab (n * endsN n w) (.tup xs) = false := by show (decide _ && _) = false; rw [c]; rfl
      rw [e] at q
      refine ifT ?_ q
      rw [Bool.not_eq_true']
      exact decide_eq_false fun z => of_decide_eq_false c (by omega)
    | true =>
      have e : isTab (n * endsN n w) (.tup xs) = xs.all fun y => isFr y 0 (((2 ^ (n * endsN n w) : Nat) : Int) - 1) := by show (decide _ && _) = _; rw [c]; rfl
      rw [e] at q
      refine ifF ?_ ?_
      · rw [Bool.not_eq_true', Bool.not_eq_false]
        exact decide_eq_true (by have := of_decide_eq_true c; omega)
      · have key : xs = xs.map id := (List.map_id xs).symm
        refine ⟨ok1, ?_⟩
        rw [key]
        refine lcD_all (fun y => Da.bl (isFr y 0 (((2 ^ (n * endsN n w) : Nat) : Int) - 1))) (fun _ _ => trivial) (fun y hy Q q => ⟨⟨rfl, rfl⟩, n, w, y, rfl, hn, ok2 y hy, q⟩) ?_
        refine ⟨_, asBls_fun _ _, ?_⟩
        rw [List.all_map]
        exact q
  | ty _ => cases ok
  | obj _ _ => cases ok
  | ref _ => cases ok
  | exn _ _ _ => cases ok
/-- a table of numbers -/
def tabD (ts : List Nat) : Da := .tup (ts.map fun t : Nat => Da.int (t : Int))
def OkT (N : Nat) (ts : List Nat) : Prop := ts.length = 2 ^ N ∧ ∀ t ∈ ts, t < 2 ^ N
def spReqTable (C : Addr) : DSp := fun ds M Q _ => ∃ (n : Nat) (w : Bool) (ts : List Nat), ds = [Spc C n w, tabD ts] ∧ OkN n ∧ OkT (n * endsN n w) ts ∧ Q .non M
omit A M Z in
theorem isTab_ok {N : Nat} {ts : List Nat} (h : OkT N ts) : isTab N (tabD ts) = true := by
  show (decide _ && _) = true
  rw [decide_eq_true (by rw [List.length_map]; exact h.1), Bool.true_and, List.all_map, List.all_eq_true]
  intro t ht
  have := h.2 t ht
  simp only [Function.comp, isFr]
  rw [decide_eq_true (by omega), decide_eq_true (by omega)]; rfl
omit A M Z in
theorem okT_tab {N : Nat} {ts : List Nat} (hN : N ≤ 12) (h : OkT N ts) : pv (tabD ts) := by
  refine .tup _ ?_ (fun y hy => ?_)
  · have : 2 ^ N ≤ 2 ^ 12 := Nat.pow_le_pow_right (by decide) hN
    rw [List.length_map, h.1]; omega
  · obtain ⟨t, _, rfl⟩ := List.mem_map.mp hy
    exact .int _
theorem D_Space_require_table (D_Space_is_table : KnMD P w K mg base C_Space "is_table" 4 ["self", "value"] (spIsTable C_Space)) : KnMD P w K mg base C_Space "require_table" 5 ["self", "value"] (spReqTable C_Space) := by
  refine KnMD.of A.m_Space_require_table sc_Space_require_table (fun _ _ _ _ _ _ us hl => match us, hl with | [_, _], _ => rfl) (fun ds M Q E ⟨_, _, _, h, _⟩ => by rw [h]; rfl) (fun f cdv A0 outer s H E hr => ?_)
  have nd := sc_Space_require_table.nd
  refine ⟨_, (z_one (z_if (d_tnot (d_tv (d_meth D_Space_is_table A.cls_Space.cl (hr.mono (by decide)) (dn 0) (d_cons (dn 1) d_nil)))) (z_one z_never) z_nil)), ?_⟩
  rintro ds M Q Ed ⟨n, w, ts, rfl, hn, ht, q⟩
  obtain ⟨_, _, el3⟩ := E_le (w := w) hn
  refine ⟨⟨rfl, rfl⟩, n, w, _, rfl, hn, okT_tab el3 ht, ?_⟩
  rw [isTab_ok ht]
  exact q
end
theorem cut_init (N : Nat) : cutD (pows N) none (some (-1)) = (List.range N).map fun k => Da.int ((2 ^ k : Nat) : Int) := by
  have h1 : HT.sIx (pows N).length (pows N).length (some (-1)) = N := by rw [pows_len]; unfold HT.sIx; simp; try omega
  have h0 : HT.sIx (pows N).length 0 none = 0 := rfl
  unfold U.cutD
  rw [h0, h1, List.drop_zero, Nat.sub_zero]
  unfold pows
  rw [← List.map_take, List.take_range, Nat.min_eq_left (by omega)]
theorem sum_lenD {α β : Type} {f : α → List β} {b : Nat} : ∀ {l : List α}, (∀ x ∈ l, (f x).length ≤ b) → (l.flatMap f).length ≤ b * l.length
  | [], _ => by simp
  | x :: l, h => by
    have := sum_lenD (f := f) (b := b) (l := l) fun y hy => h y (List.mem_cons_of_mem _ hy)
    have hx := h x List.mem_cons_self
    rw [List.flatMap_cons, List.length_append, List.length_cons, Nat.mul_succ]
    omega
theorem tab_at {N r : Nat} {ts : List Nat} (h : OkT N ts) (hr : r < 2 ^ N) : atI (ts.map fun t : Nat => Da.int (t : Int)) (r : Nat) = some (.int ((ts.getD r 0 : Nat) : Int)) := by
  have h2 : r < ts.length := by rw [h.1]; exact hr
  refine atI_nat ?_
  rw [List.getElem?_map, List.getElem?_eq_getElem h2, List.getD_eq_getElem?_getD, List.getElem?_eq_getElem h2]
  rfl
theorem tab_lt {N r : Nat} {ts : List Nat} (h : OkT N ts) (hr : r < 2 ^ N) : ts.getD r 0 < 2 ^ N := by
  have h2 : r < ts.length := by rw [h.1]; exact hr
  rw [List.getD_eq_getElem?_getD, List.getElem?_eq_getElem h2]
  exact h.2 _ (List.getElem_mem h2)
theorem dec_int {a b c : Nat} : decide (Builtin.bitOr (a : Int) (b : Int) = (c : Int)) = decide (a ||| b = c) := by
  rw [bit_or]; congr 1; apply propext; omega
def spMono (C : Addr) : DSp := fun ds M Q _ => ∃ (n : Nat) (w : Bool) (ts : List Nat), ds = [Spc C n w, tabD ts] ∧ OkN n ∧ OkT (n * endsN n w) ts ∧ Q (.bl (monoB (n * endsN n w) ts)) M
theorem D_Space_is_monotone {P : Program} {w : World} {K : PySem.W.Frag} {mg : Str → Option Value} {base : Heap} {C_Procedure : Addr} {C_Space : Addr} {C_InvalidProgram : Addr} {C_InvalidMeaning : Addr} {C_InvalidOperation : Addr} {C_InvalidNumber : Addr} {C_TooMany : Addr} (A : Facts K C_Procedure C_Space C_InvalidProgram C_InvalidMeaning C_InvalidOperation C_InvalidNumber C_TooMany) (M : MgOf K mg) (Z : Zs mg) (D_Space_require_table : KnMD P w K mg base C_Space "require_table" 5 ["self", "value"] (spReqTable C_Space)) : KnMD P w K mg base C_Space "is_monotone" 6 ["self", "table"] (spMono C_Space) := by
  refine KnMD.of A.m_Space_is_monotone sc_Space_is_monotone (fun _ _ _ _ _ _ us hl => match us, hl with | [_, _], _ => rfl) (fun ds M Q E ⟨_, _, _, h, _⟩ => by rw [h]; rfl) (fun f cdv A0 outer s H E hr => ?_)
  have hu := U.hu_of hr
  have hu1 := U.hu1_of hr
  have nd := sc_Space_is_monotone.nd
  refine ⟨_, (z_cons (z_expr (d_meth D_Space_require_table A.cls_Space.cl (hr.mono (by decide)) (dn 0) (d_cons (dn 1) d_nil)))
      (z_cons (z_setLc2 (i := 2) (own := [("one", 3), ("power", 4)]) (c := (.n 3)) (c1 := (.n 4)) (vs1 := [4]) rfl nd (d_rg1 Z.range (d_cons (d_fld A.cls_Space.cl A.n_Space_own_size (dn 0)) d_nil)) (blkOk_by (own := [("one", 3), ("power", 4)]) (N := N_Space_is_monotone) (sc := defScope s_Space_is_monotone) (by decide +kernel)) (by decide) (fun _ _ _ _ _ => (gn 3 nd)) (fun _ _ _ _ _ => d_ts0) (fun _ _ _ _ _ => (d_it (d_sl (d_fld A.cls_Space.cl A.n_Space_own_powers (dn 0)) d_pnone (d_psome (d_neg d_int))))) (fun _ _ _ _ _ => (gn 4 nd)) (fun _ _ _ _ _ => d_ts0) (fun _ _ _ _ _ => (d_tup (d_cons (dn 3) (d_cons (d_op o_dor (dn 3) (dn 4)) d_nil)))) rfl rfl (sw_true rfl rfl rfl (by decide +kernel)))
      (z_one (z_ret (d_b Z.all b_all (c_dall rfl) (d_cons (d_lc (own := [("one", 3), ("other", 5)]) (c := (.t [3, 5])) rfl nd (d_it (dn 2)) (blkOk_by (own := [("one", 3), ("other", 5)]) (N := N_Space_is_monotone) (sc := defScope s_Space_is_monotone) (by decide +kernel)) (fun _ _ _ _ _ => (pg_tup rfl (pgs_cons (gn 3 nd) (pgs_cons (gn 5 nd) pgs_nil)))) (fun _ _ _ _ _ => d_ts0) (fun _ _ _ _ _ => (d_ecm (o_deq hu) (d_op o_dor (d_ix (dn 1) (dn 3)) (d_ix (dn 1) (dn 5))) (d_ix (dn 1) (dn 5))))) d_nil)))))), ?_⟩
  rintro ds M Q Ed ⟨n, w, ts, rfl, hn, ht, q⟩
  obtain ⟨_, _, el3⟩ := E_le (w := w) hn
  refine ⟨⟨rfl, rfl⟩, n, w, ts, rfl, hn, ht, ?_⟩
  have hp : 2 ^ (n * endsN n w) ≤ 4096 := Nat.le_trans (Nat.pow_le_pow_right (by decide) el3) (by decide)
  refine ⟨rfl, _, rfl, ⟨Int.le_trans (by decide) (Int.natCast_nonneg _), Int.lt_of_le_of_lt (Int.ofNat_le.mpr hp) (by decide)⟩, ?_⟩
  rw [rngD0' (n := 2 ^ (n * endsN n w)) rfl]
  refine ⟨sq (by rw [List.length_map, List.length_range]; omega), ?_⟩
  refine lc2D_all (inn := fun _ : Nat => List.range (n * endsN n w)) (h := fun k : Nat => Da.int ((2 ^ k : Nat) : Int)) (f := fun (r k : Nat) => .tup [.int (r : Int), .int ((r ||| 2 ^ k : Nat) : Int)]) (fun r hr => ⟨trivial, sr (by rw [List.length_range]; omega), fun Q q => ⟨rfl, _, rfl, ?_⟩⟩) (fun r hr k hk => ⟨trivial, fun Q q => ⟨rfl, ?_⟩⟩) ?_
  · show Q (cutD (pows (n * endsN n w)) none (some (-1))) M
    rw [cut_init]; exact q
  · show Q (Da.tup [Da.int ↑r, Da.int (Builtin.bitOr (r : Int) ((2 ^ k : Nat) : Int))]) M
    rw [bit_or]; exact q
  · have e : ((List.range (2 ^ (n * endsN n w))).flatMap fun r : Nat => (List.range (n * endsN n w)).map fun k : Nat => Da.tup [.int (r : Int), .int ((r ||| 2 ^ k : Nat) : Int)]) =
        (((List.range (2 ^ (n * endsN n w))).flatMap fun r : Nat => (List.range (n * endsN n w)).map fun k : Nat => (r, k)).map fun p : Nat × Nat => Da.tup [.int (p.1 : Int), .int ((p.1 ||| 2 ^ p.2 : Nat) : Int)]) := by
      rw [List.map_flatMap]; congr 1; funext r; rw [List.map_map]; rfl
    rw [e]
    refine ⟨sz ?_, lcD_all (fun p : Nat × Nat => Da.bl (decide (ts.getD p.1 0 ||| ts.getD (p.1 ||| 2 ^ p.2) 0 = ts.getD (p.1 ||| 2 ^ p.2) 0))) (fun p _ => rfl) (fun p hp Q q => ?_) ?_⟩
    · rw [List.length_map]
      have := sum_lenD (f := fun r : Nat => (List.range (n * endsN n w)).map fun k : Nat => (r, k)) (b := 12) (l := List.range (2 ^ (n * endsN n w))) fun r _ => by rw [List.length_map, List.length_range]; omega
      rw [List.length_range] at this
      omega
    · obtain ⟨r, hr, hp2⟩ := List.mem_flatMap.mp hp
      obtain ⟨k, hk, rfl⟩ := List.mem_map.mp hp2
      have hr := List.mem_range.mp hr
      have hk := List.mem_range.mp hk
      have hr2 : r ||| 2 ^ k < 2 ^ (n * endsN n w) := Nat.or_lt_two_pow hr (Nat.pow_lt_pow_right (by decide) hk)
      refine ⟨_, tab_at ht hr, _, tab_at ht hr2, _, tab_at ht hr2, ?_⟩
      show Q (Da.bl (decide (Builtin.bitOr (ts.getD r 0 : Nat) (ts.getD (r ||| 2 ^ k) 0 : Nat) = ((ts.getD (r ||| 2 ^ k) 0 : Nat) : Int)))) M
      rw [dec_int]; exact q
    · refine ⟨_, asBls_fun _ _, ?_⟩
      have e2 : (List.map (fun p : Nat × Nat => decide (ts.getD p.1 0 ||| ts.getD (p.1 ||| 2 ^ p.2) 0 = ts.getD (p.1 ||| 2 ^ p.2) 0)) ((List.range (2 ^ (n * endsN n w))).flatMap fun r : Nat => (List.range (n * endsN n w)).map fun k : Nat => (r, k))).all id = monoB (n * endsN n w) ts := by
        unfold monoB
        rw [List.all_map, List.all_flatMap]
        congr 1; funext r; rw [List.all_map]; rfl
      show Q (Da.bl (List.all _ _)) M
      rw [show _ = _ from e2]; exact q

/-- all cells, row by row -/
theorem cells_list (E : Nat) (hE : 0 < E) : ∀ n, ((List.range n).flatMap fun m : Nat => (List.range E).map fun e : Nat => tupI [(m : Int), (e : Int)]) = (List.range (n * E)).map fun k => tupI (pr E k)
  | 0 => by simp
  | n + 1 => by
    rw [List.range_succ, List.flatMap_append, cells_list E hE n, Nat.succ_mul, List.range_add, List.map_append]
    congr 1
    rw [List.flatMap_singleton, List.map_map]
    apply List.map_congr_left
    intro e he
    have he := List.mem_range.mp he
    show _ = tupI (pr E (n * E + e))
    unfold pr
    rw [cell_div he, cell_mod he]
theorem cel_N {r N : Nat} (h : r < 2 ^ N) (hN : N ≤ 12) : (List.range N).filter r.testBit = cel r := by
  unfold cel
  obtain ⟨j, hj⟩ := Nat.le.dest hN
  have e : (12 : Nat) = N + j := hj.symm
  rw [show List.range 12 = List.range (N + j) from by rw [← e], List.range_add, List.filter_append]
  have : ((List.range j).map fun x => N + x).filter r.testBit = [] := by
    rw [List.filter_eq_nil_iff]
    intro k hk hb
    obtain ⟨x, _, rfl⟩ := List.mem_map.mp hk
    have := bit_lt h hb
    omega
  rw [this, List.append_nil]
def tupR (E : Nat) (ks : List Nat) : Da := .tup (ks.map fun k => tupI (pr E k))
def spPairsM (C : Addr) : DSp := fun ds M Q _ => ∃ (n : Nat) (w : Bool) (r : Nat), ds = [Spc C n w, .int r] ∧ OkN n ∧ r < 2 ^ (n * endsN n w) ∧ Q (tupR (endsN n w) (cel r)) M
theorem D_Space_pairs {P : Program} {w : World} {K : PySem.W.Frag} {mg : Str → Option Value} {base : Heap} {C_Procedure : Addr} {C_Space : Addr} {C_InvalidProgram : Addr} {C_InvalidMeaning : Addr} {C_InvalidOperation : Addr} {C_InvalidNumber : Addr} {C_TooMany : Addr} (A : Facts K C_Procedure C_Space C_InvalidProgram C_InvalidMeaning C_InvalidOperation C_InvalidNumber C_TooMany) (M : MgOf K mg) (Z : Zs mg) (D_Space_require_relation : KnMD P w K mg base C_Space "require_relation" 4 ["self", "value"] (spReqRel C_Space)) (D_Space_has : KnMD P w K mg base C_Space "has" 2 ["self", "relation", "mode", "end"] (spHasS C_Space)) : KnMD P w K mg base C_Space "pairs" 5 ["self", "relation"] (spPairsM C_Space) := by
  refine KnMD.of A.m_Space_pairs sc_Space_pairs (fun _ _ _ _ _ _ us hl => match us, hl with | [_, _], _ => rfl) (fun ds M Q E ⟨_, _, _, h, _⟩ => by rw [h]; rfl) (fun f cdv A0 outer s H E hr => ?_)
  have hu := U.hu_of hr
  have hu1 := U.hu1_of hr
  have nd := sc_Space_pairs.nd
  refine ⟨_, (z_cons (z_expr (d_meth D_Space_require_relation A.cls_Space.cl (hr.mono (by decide)) (dn 0) (d_cons (dn 1) d_nil)))
      (z_cons (z_setLc2 (i := 2) (own := [("mode", 3), ("end", 4)]) (c := (.n 3)) (c1 := (.n 4)) (vs1 := [4]) rfl nd (d_rg1 Z.range (d_cons (d_fld A.cls_Space.cl A.n_Space_own_modes (dn 0)) d_nil)) (blkOk_by (own := [("mode", 3), ("end", 4)]) (N := N_Space_pairs) (sc := defScope s_Space_pairs) (by decide +kernel)) (by decide) (fun _ _ _ _ _ => (gn 3 nd)) (fun _ _ _ _ _ => d_ts0) (fun _ _ _ _ _ => (d_rg1 Z.range (d_cons (d_fld A.cls_Space.cl A.n_Space_own_ends (dn 0)) d_nil))) (fun _ _ _ _ _ => (gn 4 nd)) (fun _ _ _ _ _ => d_ts0) (fun _ _ _ _ _ => (d_tup (d_cons (dn 3) (d_cons (dn 4) d_nil)))) rfl rfl (sw_true rfl rfl rfl (by decide +kernel)))
      (z_one (z_ret (d_t Z.tuple b_tuple c_dtuple (d_cons (d_lc (own := [("pair", 5)]) (c := (.n 5)) rfl nd (d_it (dn 2)) (blkOk_by (own := [("pair", 5)]) (N := N_Space_pairs) (sc := defScope s_Space_pairs) (by decide +kernel)) (fun _ _ _ _ _ => (gn 5 nd)) (fun _ _ _ _ _ => (d_ts1 (d_tv (d_methSB D_Space_has A.cls_Space.cl (hr.mono (by decide)) (dn 0) (dn 1) (dn 5))))) (fun _ _ _ _ _ => (dn 5))) d_nil)))))), ?_⟩
  rintro ds M Q Ed ⟨n, w, r, rfl, hn, hr, q⟩
  obtain ⟨el1, el2, el3⟩ := E_le (w := w) hn
  have hE0 : 0 < endsN n w := by have := hn.1; omega
  refine ⟨⟨rfl, rfl⟩, n, w, r, rfl, hn, hr, ?_⟩
  refine ⟨rfl, _, rfl, rok (by omega) (by have := hn.2; omega), ?_⟩
  rw [rngD0' (n := n) rfl]
  refine ⟨sq (by rw [List.length_map, List.length_range]; have := hn.2; omega), ?_⟩
  refine lc2D_all (inn := fun _ : Nat => List.range (endsN n w)) (h := fun e : Nat => Da.int (e : Int)) (f := fun (m e : Nat) => tupI [(m : Int), (e : Int)]) (fun m hm => ⟨trivial, sr (by rw [List.length_range]; omega), fun Q q => ⟨rfl, _, rfl, rok (by omega) (by omega), ?_⟩⟩) (fun m hm e he => ⟨trivial, fun Q q => ⟨rfl, q⟩⟩) ?_
  · rw [rngD0' (n := endsN n w) rfl]
    exact q
  · rw [cells_list _ hE0]
    refine ⟨sz (by rw [List.length_map, List.length_range]; omega), lcD_map r.testBit (fun k => tupI (pr (endsN n w) k)) (fun k hk => ⟨trivial, fun Q q => ?_⟩) (fun k hk _ Q q => q) ?_⟩
    · have hk := List.mem_range.mp hk
      refine ⟨⟨rfl, rfl⟩, n, w, r, k / endsN n w, k % endsN n w, rfl, hn, by rw [div_mod]; omega, ?_⟩
      rw [div_mod]
      exact q
    · rw [cel_N hr el3]
      exact q

end K69
set_option Elab.async false
set_option linter.all false
set_option maxRecDepth 100000
set_option maxHeartbeats 4000000



namespace K69
open PySem PySem.Spec PyProof.Rows L2 U
theorem cmul_mod {x j k : Int} (h : 0 < k) (h2 : k ≤ 2 ^ 64) : CMul (x % k) j := .inl ⟨by have := Int.emod_nonneg x (show k ≠ 0 by omega); omega, Int.lt_of_lt_of_le (Int.emod_lt_of_pos x h) h2⟩
def Die (d : Addr) (M : Mm) : Prop := ∃ a b c : Int, M d = some (.lst [.int a, .int b, .int c])
def Km (d : Addr) (M M' : Mm) : Prop := ∀ p, p ≠ d → M' p = M p
theorem Km.refl {d : Addr} {M : Mm} : Km d M M := fun _ _ => rfl
theorem Km.trans {d : Addr} {M M1 M2 : Mm} (a : Km d M M1) (b : Km d M1 M2) : Km d M M2 := fun p h => (b p h).trans (a p h)
theorem Km.put {d : Addr} {M M' : Mm} {o : MO} (a : Km d M M') : Km d M (mput M' d o) := fun p h => (mput_ne h).trans (a p h)
def spNumbers : DSp := fun ds M Q _ => ∃ (ns : List Int) (i : Nat), ds = [.lst (ns.map Da.int), .int i] ∧ ns.length ≤ 63 ∧ i < 1000 ∧ ∀ d a b c, M d = none → Q (.ref d) (mput M d (.lst [.int a, .int b, .int c]))
def spCast : DSp := fun ds M Q _ => ∃ (d : Addr) (n : Nat), ds = [.ref d, .int n] ∧ Die d M ∧ 0 < n ∧ n < 1073741824 ∧ ∀ (r : Nat) M', r < n → Die d M' → Km d M M' → Q (.int r) M'
def spPick : DSp := fun ds M Q _ => ∃ (d : Addr) (xs : List Da), ds = [.ref d, .lst xs] ∧ Die d M ∧ 0 < xs.length ∧ xs.length < 1000000 ∧ ∀ x M', x ∈ xs → Die d M' → Km d M M' → Q x M'
theorem D__law_pail {P : Program} {w : World} {K : PySem.W.Frag} {mg : Str → Option Value} {base : Heap} {C_Procedure : Addr} {C_Space : Addr} {C_InvalidProgram : Addr} {C_InvalidMeaning : Addr} {C_InvalidOperation : Addr} {C_InvalidNumber : Addr} {C_TooMany : Addr} (A : Facts K C_Procedure C_Space C_InvalidProgram C_InvalidMeaning C_InvalidOperation C_InvalidNumber C_TooMany) (M : MgOf K mg) (Z : Zs mg)  : KnD P w K mg base "_law_pail" 1 ["_law_script", "_law_at"] spNumbers := by
  refine KnD.of A.d__law_pail M sc__law_pail (fun _ _ _ _ _ _ us hl => match us, hl with | [_, _], _ => rfl) (fun ds M Q E ⟨_, _, h, _⟩ => by rw [h]; rfl) (fun f cdv A0 outer s H E hr => ?_)
  have hu := U.hu_of hr
  have hu1 := U.hu1_of hr
  have nd := sc__law_pail.nd
  refine ⟨_, (z_cons (z_set 2 nd (d_if (d_tcm o_dlt (dn 1) (d_b Z.len b_len c_dlen (d_cons (dn 0) d_nil))) (d_ix (dn 0) (dn 1)) (d_op o_dadd (d_op o_dmul d_int (dn 1)) d_int)))
      (z_cons (z_set 3 nd (d_op o_dmod (d_t Z.int b_int c_dint (d_cons (d_b Z.abs b_abs c_dabs (d_cons (dn 2) d_nil)) d_nil)) (d_op o_dpow (d_op o_dpow d_int d_int) d_int)))
      (z_cons (z_set 4 nd (d_op o_dadd (d_op o_dadd (d_op o_dadd (d_op o_dmul (d_op o_dmod (d_t Z.int b_int c_dint (d_cons (dn 3) d_nil)) d_int) d_int) (d_op o_dmul d_int (dn 1))) (d_op o_dmul d_int (d_t Z.int b_int c_dint (d_cons (d_ecm o_dlt (dn 2) d_int) d_nil)))) d_int))
      (z_one (z_ret (d_lstM (d_cons (d_b Z.max b_max (c_dmax rfl) (d_cons d_int (d_cons (d_op o_dsub (dn 3) (d_op o_dpow d_int d_int)) d_nil))) (d_cons (d_op o_dmod (d_t Z.int b_int c_dint (d_cons (dn 4) d_nil)) d_int) (d_cons d_int d_nil))))))))), ?_⟩
  rintro ds M Q Ed ⟨ns, i, rfl, hl, hi, k⟩
  refine ite2 (fun c => ?_) (fun c => ⟨.inl (by omega), ?_⟩)
  · have c1 : i < ns.length := by
      have := of_decide_eq_true c
      rw [List.length_map] at this
      omega
    refine ⟨_, atI_nat (v := Da.int ns[i]) (by rw [List.getElem?_map, List.getElem?_eq_getElem c1]; rfl), ?_⟩
    refine ⟨⟨by decide, by decide⟩, ⟨by decide, by decide⟩, by decide, ?_⟩
    refine ⟨by decide, cmul_mod (by decide) (by decide), .inl (by omega), .inl (by omega), ?_⟩
    refine ⟨⟨by decide, by decide⟩, by decide, rfl, fun d hd => k d _ _ _ hd⟩
  · refine ⟨⟨by decide, by decide⟩, ⟨by decide, by decide⟩, by decide, ?_⟩
    refine ⟨by decide, cmul_mod (by decide) (by decide), .inl (by omega), .inl (by omega), ?_⟩
    refine ⟨⟨by decide, by decide⟩, by decide, rfl, fun d hd => k d _ _ _ hd⟩
theorem D__law_dip {P : Program} {w : World} {K : PySem.W.Frag} {mg : Str → Option Value} {base : Heap} {C_Procedure : Addr} {C_Space : Addr} {C_InvalidProgram : Addr} {C_InvalidMeaning : Addr} {C_InvalidOperation : Addr} {C_InvalidNumber : Addr} {C_TooMany : Addr} (A : Facts K C_Procedure C_Space C_InvalidProgram C_InvalidMeaning C_InvalidOperation C_InvalidNumber C_TooMany) (M : MgOf K mg) (Z : Zs mg)  : KnD P w K mg base "_law_dip" 1 ["_law_pail_here", "_law_total"] spCast := by
  refine KnD.of A.d__law_dip M sc__law_dip (fun _ _ _ _ _ _ us hl => match us, hl with | [_, _], _ => rfl) (fun ds M Q E ⟨_, _, h, _⟩ => by rw [h]; rfl) (fun f cdv A0 outer s H E hr => ?_)
  have hu := U.hu_of hr
  have hu1 := U.hu1_of hr
  have nd := sc__law_dip.nd
  refine ⟨_, (z_cons (z_if (d_tcm o_dgt (d_ix (dn 0) d_int) d_int) (z_cons (z_set 2 nd (d_op o_dmod (d_t Z.int b_int c_dint (d_cons (d_ix (dn 0) d_int) d_nil)) (dn 1)))
      (z_cons (z_asg (d_op o_ddiv (d_ix (dn 0) d_int) (dn 1)) (t_sub (dn 0) d_int))
      (z_one (z_ret (dn 2))))) z_nil)
      (z_cons (z_asg (d_op o_dadd (d_ix (dn 0) d_int) d_int) (t_sub (dn 0) d_int))
      (z_cons (z_set 3 nd (d_op o_dmod (d_t Z.int b_int c_dint (d_cons (d_op o_dadd (d_ix (dn 0) d_int) (d_op o_dmul d_int (d_ix (dn 0) d_int))) d_nil)) d_int))
      (z_cons (z_set 4 nd (d_op o_dadd (d_op o_dmul (d_op o_dmod (d_t Z.int b_int c_dint (d_cons (d_op o_dmul (dn 3) (dn 3)) d_nil)) d_int) (dn 3)) (d_op o_dmul d_int (d_ix (dn 0) d_int))))
      (z_one (z_ret (d_op o_dmod (d_t Z.int b_int c_dint (d_cons (d_op o_ddiv (d_op o_dmod (d_t Z.int b_int c_dint (d_cons (dn 4) d_nil)) d_int) d_int) d_nil)) (dn 1)))))))), ?_⟩
  rintro ds M Q Ed ⟨d, n, rfl, ⟨a, b, c, hd⟩, h0, h1, k⟩
  have h0' : (0 : Int) < n := by omega
  have rr : ∀ x : Int, ∃ r : Nat, x % n = r ∧ r < n := fun x => ⟨(x % n).toNat, by
    have := Int.emod_nonneg x (show (n : Int) ≠ 0 by omega); omega, by
    have := Int.emod_nonneg x (show (n : Int) ≠ 0 by omega); have := Int.emod_lt_of_pos x h0'; omega⟩
  refine ⟨_, _, hd, rfl, ite2 (fun c0 => ?_) (fun c0 => ?_)⟩
  · refine ⟨_, _, hd, rfl, h0', ?_⟩
    refine ⟨_, _, hd, rfl, ⟨h0', by omega⟩, _, _, hd, rfl, ?_⟩
    obtain ⟨r, e, hr'⟩ := rr a
    show Q (.int (a % n)) _
    rw [e]
    exact k r _ hr' ⟨_, _, _, mput_same⟩ Km.refl.put
  · refine ⟨_, _, hd, rfl, _, _, hd, rfl, ?_⟩
    refine ⟨_, _, mput_same, rfl, _, _, mput_same, rfl, .inl ⟨by decide, by decide⟩, by decide, ?_⟩
    refine ⟨cmul_mod (by decide) (by decide), by decide, cmul_mod (by decide) (by decide), _, _, mput_same, rfl, .inl ⟨by decide, by decide⟩, ?_⟩
    refine ⟨by decide, ⟨by decide, by decide⟩, h0', ?_⟩
    refine (fun (x : Int) => ?_ : ∀ x : Int, Q (.int (x % n)) _) _
    obtain ⟨r, e, hr'⟩ := rr x
    rw [e]
    exact k r _ hr' ⟨_, _, _, mput_same⟩ Km.refl.put
theorem D__law_pick {P : Program} {w : World} {K : PySem.W.Frag} {mg : Str → Option Value} {base : Heap} {C_Procedure : Addr} {C_Space : Addr} {C_InvalidProgram : Addr} {C_InvalidMeaning : Addr} {C_InvalidOperation : Addr} {C_InvalidNumber : Addr} {C_TooMany : Addr} (A : Facts K C_Procedure C_Space C_InvalidProgram C_InvalidMeaning C_InvalidOperation C_InvalidNumber C_TooMany) (M : MgOf K mg) (Z : Zs mg) (D__law_dip : KnD P w K mg base "_law_dip" 1 ["_law_pail_here", "_law_total"] spCast) : KnD P w K mg base "_law_pick" 2 ["_law_pail_here", "_law_items"] spPick := by
  refine KnD.of A.d__law_pick M sc__law_pick (fun _ _ _ _ _ _ us hl => match us, hl with | [_, _], _ => rfl) (fun ds M Q E ⟨_, _, h, _⟩ => by rw [h]; rfl) (fun f cdv A0 outer s H E hr => ?_)
  have hu := U.hu_of hr
  have hu1 := U.hu1_of hr
  have nd := sc__law_pick.nd
  refine ⟨_, (z_one (z_ret (d_ix (dn 1) (d_call D__law_dip (hr.mono (by decide)) (d_cons (dn 0) (d_cons (d_b Z.len b_len c_dlen (d_cons (dn 1) d_nil)) d_nil)))))), ?_⟩
  rintro ds M Q Ed ⟨d, xs, rfl, hd, h0, h1, k⟩
  refine ⟨d, xs.length, rfl, hd, h0, by omega, fun r M' hr hd' km => ?_⟩
  exact ⟨_, atI_nat (List.getElem?_eq_getElem hr), k _ _ (List.getElem_mem hr) hd' km⟩
mutual
def pvB : Da → Bool
  | .non => true
  | .bl _ => true
  | .int _ => true
  | .str z => decide (z.length ≤ 1000)
  | .lst xs => decide (xs.length ≤ 5000) && pvBs xs
  | .tup xs => decide (xs.length ≤ 5000) && pvBs xs
  | .dct _ => true
  | _ => false
def pvBs : List Da → Bool
  | [] => true
  | x :: xs => pvB x && pvBs xs
end
mutual
theorem pv_of : ∀ {x : Da}, pvB x = true → pv x
  | .non, _ => .non
  | .bl b, _ => .bl b
  | .int i, _ => .int i
  | .str z, h => .str z (of_decide_eq_true h)
  | .lst xs, h => by
    have h' : (decide (xs.length ≤ 5000) && pvBs xs) = true := by simpa [pvB] using h
    rw [Bool.and_eq_true, decide_eq_true_eq] at h'
    exact .lst xs h'.1 (pvs_of h'.2)
  | .tup xs, h => by
    have h' : (decide (xs.length ≤ 5000) && pvBs xs) = true := by simpa [pvB] using h
    rw [Bool.and_eq_true, decide_eq_true_eq] at h'
    exact .tup xs h'.1 (pvs_of h'.2)
  | .dct k, _ => .dct k
  | .obj _ _, h => by simp [pvB] at h
  | .ref _, h => by simp [pvB] at h
  | .ty _, h => by simp [pvB] at h
theorem pvs_of : ∀ {xs : List Da}, pvBs xs = true → ∀ x ∈ xs, pv x
  | [], _, x, hx => nomatch hx
  | y :: ys, h, x, hx => by
    have h' : (pvB y && pvBs ys) = true := by simpa [pvBs] using h
    rw [Bool.and_eq_true] at h'
    rcases List.mem_cons.mp hx with e | hx
    · rw [e]; exact pv_of h'.1
    · exact pvs_of h'.2 x hx
end

end K69
set_option Elab.async false
set_option linter.all false
set_option maxRecDepth 100000
set_option maxHeartbeats 4000000



namespace K69
open PySem PySem.Spec PyProof.Rows L2 U
def tbF (n a b : Nat) : List Da := (List.range n).map fun i => if i = a then .int (b : Int) else .non
def deedF (n a b : Nat) : Da := .tup [.str "do", .str "go", .tup (tbF n a b)]
def spDeedFrom : DSp := fun ds M Q _ => ∃ (n a b : Nat), ds = [.int n, .int a, .int b] ∧ n ≤ 100 ∧ Q (deedF n a b) M
theorem D_deed_from {P : Program} {w : World} {K : PySem.W.Frag} {mg : Str → Option Value} {base : Heap} {C_Procedure : Addr} {C_Space : Addr} {C_InvalidProgram : Addr} {C_InvalidMeaning : Addr} {C_InvalidOperation : Addr} {C_InvalidNumber : Addr} {C_TooMany : Addr} (A : Facts K C_Procedure C_Space C_InvalidProgram C_InvalidMeaning C_InvalidOperation C_InvalidNumber C_TooMany) (M : MgOf K mg) (Z : Zs mg)  : KnD P w K mg base "deed_from" 1 ["modes", "mode", "end"] spDeedFrom := by
  refine KnD.of A.d_deed_from M sc_deed_from (fun _ _ _ _ _ _ us hl => match us, hl with | [_, _, _], _ => rfl) (fun ds M Q E ⟨_, _, _, h, _⟩ => by rw [h]; rfl) (fun f cdv A0 outer s H E hr => ?_)
  have hu := U.hu_of hr
  have hu1 := U.hu1_of hr
  have nd := sc_deed_from.nd
  refine ⟨_, (z_one (z_ret (d_tup (d_cons d_str (d_cons (d_gs Z.c_GO) (d_cons (d_t Z.tuple b_tuple c_dtuple (d_cons (d_lc (own := [("one", 3)]) (c := (.n 3)) rfl nd (d_rg1 Z.range (d_cons (dn 0) d_nil)) (blkOk_by (own := [("one", 3)]) (N := N_deed_from) (sc := defScope s_deed_from) (by decide +kernel)) (fun _ _ _ _ _ => (gn 3 nd)) (fun _ _ _ _ _ => d_ts0) (fun _ _ _ _ _ => (d_if (d_tcm (o_deq hu) (dn 3) (dn 1)) (dn 2) d_non))) d_nil)) d_nil)))))), ?_⟩
  rintro ds M Q Ed ⟨n, a, b, rfl, hn, q⟩
  refine ⟨rok (by omega) (by omega), ?_⟩
  rw [rngD0' (n := n) rfl]
  refine ⟨sz (by rw [List.length_map, List.length_range]; omega), lcD_all (fun i : Nat => if i = a then .int (b : Int) else .non) (fun _ _ => trivial) (fun i hi Q q => ?_) ?_⟩
  · by_cases c : i = a
    · subst c; rw [if_pos rfl] at q; exact ifT (decide_eq_true rfl) q
    · rw [if_neg c] at q; exact ifF (by rw [decide_eq_false (fun e => c (by omega))]; decide) q
  · exact ⟨rfl, q⟩
def eithF (n : Nat) : List Da → Da
  | [] => .tup [.str "do", .str "go", .tup (List.replicate n .non)]
  | ts => .tup (.str "or" :: ts)
def spEithF : DSp := fun ds M Q _ => ∃ (n : Nat) (ts : List Da), ds = [.int n, .lst ts] ∧ 1 ≤ n ∧ n ≤ 100 ∧ ts.length ≤ 1000 ∧ Q (eithF n ts) M
theorem D_either_of {P : Program} {w : World} {K : PySem.W.Frag} {mg : Str → Option Value} {base : Heap} {C_Procedure : Addr} {C_Space : Addr} {C_InvalidProgram : Addr} {C_InvalidMeaning : Addr} {C_InvalidOperation : Addr} {C_InvalidNumber : Addr} {C_TooMany : Addr} (A : Facts K C_Procedure C_Space C_InvalidProgram C_InvalidMeaning C_InvalidOperation C_InvalidNumber C_TooMany) (M : MgOf K mg) (Z : Zs mg)  : KnD P w K mg base "either_of" 1 ["modes", "terms"] spEithF := by
  refine KnD.of A.d_either_of M sc_either_of (fun _ _ _ _ _ _ us hl => match us, hl with | [_, _], _ => rfl) (fun ds M Q E ⟨_, _, h, _⟩ => by rw [h]; rfl) (fun f cdv A0 outer s H E hr => ?_)
  have hu := U.hu_of hr
  have hu1 := U.hu1_of hr
  have nd := sc_either_of.nd
  refine ⟨_, (z_cons (z_if (d_tcm (o_deqL hu) (dn 1) (d_lst d_nil)) (z_one (z_ret (d_tup (d_cons d_str (d_cons (d_gs Z.c_GO) (d_cons (d_op o_dmulB (d_tup (d_cons d_non d_nil)) (dn 0)) d_nil)))))) z_nil)
      (z_one (z_ret (d_tup (d_cons d_str (d_star (dn 1) d_nil)))))), ?_⟩
  rintro ds M Q Ed ⟨n, ts, rfl, h1, hn, hl, q⟩
  cases ts with
  | nil =>
    refine ⟨rfl, rfl, by simp, by omega, by omega, by decide, rfl, ?_⟩
    rw [Int.toNat_natCast, List.flatten_replicate_singleton]
    exact q
  | cons t ts =>
    exact ⟨rfl, sz (by simp only [List.length_cons, List.length_append, List.length_nil] at hl ⊢; omega), by rw [List.append_nil]; exact q⟩
/-- the least relations for a pair -/
def hav (n : Nat) (ts : List Nat) (m e : Nat) : List Nat := (List.range (2 ^ (n * n))).filter fun r => (ts.getD r 0).testBit (m * n + e)
def lst1 (l : List Nat) : List Nat := l.filter fun a => !(l.any fun b => decide (b ≠ a) && decide (b ||| a = a))
def spLeastR (C : Addr) : DSp := fun ds M Q _ => ∃ (n : Nat) (ts : List Nat) (m e : Nat), ds = [Spc C n false, tabD ts, .int m, .int e] ∧ 1 ≤ n ∧ n ≤ 2 ∧ OkT (n * n) ts ∧ m < n ∧ e < n ∧ Q (.lst ((lst1 (hav n ts m e)).map fun r : Nat => Da.int (r : Int))) M
theorem D_least_relations {P : Program} {w : World} {K : PySem.W.Frag} {mg : Str → Option Value} {base : Heap} {C_Procedure : Addr} {C_Space : Addr} {C_InvalidProgram : Addr} {C_InvalidMeaning : Addr} {C_InvalidOperation : Addr} {C_InvalidNumber : Addr} {C_TooMany : Addr} (A : Facts K C_Procedure C_Space C_InvalidProgram C_InvalidMeaning C_InvalidOperation C_InvalidNumber C_TooMany) (M : MgOf K mg) (Z : Zs mg) (D_Space_has : KnMD P w K mg base C_Space "has" 2 ["self", "relation", "mode", "end"] (spHasS C_Space)) : KnD P w K mg base "least_relations" 3 ["space", "table", "mode", "end"] (spLeastR C_Space) := by
  refine KnD.of A.d_least_relations M sc_least_relations (fun _ _ _ _ _ _ us hl => match us, hl with | [_, _, _, _], _ => rfl) (fun ds M Q E ⟨_, _, _, _, h, _⟩ => by rw [h]; rfl) (fun f cdv A0 outer s H E hr => ?_)
  have hu := U.hu_of hr
  have hu1 := U.hu1_of hr
  have nd := sc_least_relations.nd
  refine ⟨_, (z_cons (z_set 4 nd (d_lc (own := [("one", 5)]) (c := (.n 5)) rfl nd (d_rg1 Z.range (d_cons (d_fld A.cls_Space.cl A.n_Space_own_size (dn 0)) d_nil)) (blkOk_by (own := [("one", 5)]) (N := N_least_relations) (sc := defScope s_least_relations) (by decide +kernel)) (fun _ _ _ _ _ => (gn 5 nd)) (fun _ _ _ _ _ => (d_ts1 (d_tv (d_meth D_Space_has A.cls_Space.cl (hr.mono (by decide)) (dn 0) (d_cons (d_ix (dn 1) (dn 5)) (d_cons (dn 2) (d_cons (dn 3) d_nil))))))) (fun _ _ _ _ _ => (dn 5))))
      (z_one (z_ret (d_lc (own := [("one", 5)]) (c := (.n 5)) rfl nd (d_it (dn 4)) (blkOk_by (own := [("one", 5)]) (N := N_least_relations) (sc := defScope s_least_relations) (by decide +kernel)) (fun _ _ _ _ _ => (gn 5 nd)) (fun _ _ _ _ _ => (d_ts1 (d_tnot (d_tv (d_b Z.any b_any (c_dany rfl) (d_cons (d_lc (own := [("other", 6)]) (c := (.n 6)) rfl nd (d_it (dn 4)) (blkOk_by (own := [("other", 6)]) (N := N_least_relations) (by rfl)) (fun _ _ _ _ _ => (gn 6 nd)) (fun _ _ _ _ _ => d_ts0) (fun _ _ _ _ _ => (d_eand (d_ecm (o_dne hu) (dn 6) (dn 5)) (d_one (d_ecm (o_deq hu) (d_op o_dor (dn 6) (dn 5)) (dn 5)))))) d_nil)))))) (fun _ _ _ _ _ => (dn 5)))))), ?_⟩
  rintro ds M Q Ed ⟨n, ts, m, e, rfl, h1, h2, hT, hm, he, q⟩
  have hn : OkN n := ⟨h1, by omega⟩
  have hp : 2 ^ (n * n) ≤ 16 := by
    have : n = 1 ∨ n = 2 := by omega
    rcases this with rfl | rfl <;> decide
  have hb : m * n + e ≤ n * n := by
    have h1 : m * n ≤ (n - 1) * n := Nat.mul_le_mul_right _ (by omega)
    have h2 : (n - 1) * n + n = n * n := by
      rw [← Nat.succ_mul]; congr 1; omega
    omega
  refine ⟨rfl, _, rfl, rok (Int.natCast_nonneg _) (by show ((2 ^ (n * n) : Nat) : Int) ≤ 1000000; omega), ?_⟩
  rw [rngD0' (n := 2 ^ (n * endsN n false)) rfl, show endsN n false = n from rfl]
  refine ⟨sz (by rw [List.length_map, List.length_range]; omega), lcD_map (g := fun r : Nat => Da.int (r : Int)) (fun r => (ts.getD r 0).testBit (m * n + e)) (fun r => Da.int (r : Int)) (fun r hr => ⟨trivial, fun Q q => ?_⟩) (fun r hr _ Q q => q) ?_⟩
  · have hr := List.mem_range.mp hr
    refine ⟨⟨rfl, rfl⟩, _, tab_at hT hr, n, false, ts.getD r 0, m, e, rfl, hn, hb, q⟩
  · have hl : (hav n ts m e).length ≤ 16 := Nat.le_trans (List.length_filter_le _ _) (by rw [List.length_range]; exact hp)
    refine ⟨sz (by rw [List.length_map]; exact Nat.le_trans hl (by decide)), lcD_map (g := fun r : Nat => Da.int (r : Int)) (fun a => !((hav n ts m e).any fun b => decide (b ≠ a) && decide (b ||| a = a))) (fun r => Da.int (r : Int)) (fun a ha => ⟨trivial, fun Q q => ?_⟩) (fun r hr _ Q q => q) q⟩
    refine ⟨sz (by rw [List.length_map]; exact Nat.le_trans hl (by decide)), lcD_all (fun b : Nat => Da.bl (decide (b ≠ a) && decide (b ||| a = a))) (fun _ _ => trivial) (fun b hb Q q => ?_) ?_⟩
    · have e1 : (!decide ((b : Int) = (a : Int))) = decide (b ≠ a) := by
        by_cases c : b = a
        · subst c; simp
        · rw [decide_eq_false (fun z => c (by omega)), decide_eq_true c]; rfl
      have go : ∀ v : Bool, v = (!decide ((b : Int) = (a : Int))) → (if v = true then Q (.bl (decide (Builtin.bitOr (b : Int) (a : Int) = (a : Int)))) M else Q (.bl false) M) := fun v ev => by
        rw [e1] at ev
        subst ev
        by_cases c : b = a
        · subst c
          rw [show decide (b ≠ b) = false from by simp, Bool.false_and] at q
          rw [show decide (b ≠ b) = false from by simp]
          exact q
        · rw [show decide (b ≠ a) = true from by simp [c], Bool.true_and] at q
          rw [show decide (b ≠ a) = true from by simp [c], dec_int]
          exact q
      exact go _ rfl
    · refine ⟨_, asBls_fun _ _, ?_⟩
      rw [List.any_map]
      exact q

end K69
set_option Elab.async false
set_option linter.all false
set_option maxRecDepth 100000
set_option maxHeartbeats 4000000



namespace K69
open PySem PySem.Spec PyProof.Rows L2 U
def runB : Da := .tup [.str "run", .str "b"]
def seqL (n e : Nat) : Nat → List Nat → List Da
  | h, [] => [deedF n h e]
  | h, k :: ks => deedF n h (k / n) :: runB :: seqL n e (k % n) ks
def seqF (n m e r : Nat) : Da := .tup (.str "seq" :: seqL n e m (cel r))
theorem seqL_len (n e : Nat) : ∀ (ks : List Nat) (h : Nat), (seqL n e h ks).length = 2 * ks.length + 1
  | [], _ => rfl
  | k :: ks, h => by
    show (_ :: _ :: seqL n e (k % n) ks).length = _
    rw [List.length_cons, List.length_cons, seqL_len n e ks, List.length_cons]; omega
def spSeqFor (C : Addr) : DSp := fun ds M Q _ => ∃ (n r m e : Nat), ds = [Spc C n false, .int r, .int m, .int e] ∧ OkN n ∧ r < 2 ^ (n * n) ∧ m < n ∧ e < n ∧ Q (seqF n m e r) M
theorem D_seq_for {P : Program} {w : World} {K : PySem.W.Frag} {mg : Str → Option Value} {base : Heap} {C_Procedure : Addr} {C_Space : Addr} {C_InvalidProgram : Addr} {C_InvalidMeaning : Addr} {C_InvalidOperation : Addr} {C_InvalidNumber : Addr} {C_TooMany : Addr} (A : Facts K C_Procedure C_Space C_InvalidProgram C_InvalidMeaning C_InvalidOperation C_InvalidNumber C_TooMany) (M : MgOf K mg) (Z : Zs mg) (D_Space_pairs : KnMD P w K mg base C_Space "pairs" 5 ["self", "relation"] (spPairsM C_Space)) (D_deed_from : KnD P w K mg base "deed_from" 1 ["modes", "mode", "end"] spDeedFrom) : KnD P w K mg base "seq_for" 6 ["space", "relation", "mode", "end"] (spSeqFor C_Space) := by
  refine KnD.of A.d_seq_for M sc_seq_for (fun _ _ _ _ _ _ us hl => match us, hl with | [_, _, _, _], _ => rfl) (fun ds M Q E ⟨_, _, _, _, h, _⟩ => by rw [h]; rfl) (fun f cdv A0 outer s H E hr => ?_)
  have hu := U.hu_of hr
  have hu1 := U.hu1_of hr
  have nd := sc_seq_for.nd
  refine ⟨_, (z_cons (ps_imp (ps_par (i := 4) (j := 5) rfl nd rfl rfl (by decide) rfl rfl (d_cons (d_lstM d_nil) (d_cons (dn 2) d_nil)) (by rfl)) fun _ _ _ h => li_par h)
      (z_cons (z_for PassesOwn.never rfl (d_it (d_meth D_Space_pairs A.cls_Space.cl (hr.mono (by decide)) (dn 0) (d_cons (dn 1) d_nil))) (t_tup rfl (t_cons (t_n 6 nd) (t_cons (t_n 7 nd) t_nil))) (z_cons (z_expr (d_extend (dn 4) (d_cons (d_lst (d_cons (d_call D_deed_from (hr.mono (by decide)) (d_cons (d_fld A.cls_Space.cl A.n_Space_own_modes (dn 0)) (d_cons (dn 5) (d_cons (dn 6) d_nil)))) (d_cons (d_tup (d_cons d_str (d_cons d_str d_nil))) d_nil))) d_nil)))
      (z_one (z_set 5 nd (dn 7)))))
      (z_cons (z_expr (d_append (dn 4) (d_cons (d_call D_deed_from (hr.mono (by decide)) (d_cons (d_fld A.cls_Space.cl A.n_Space_own_modes (dn 0)) (d_cons (dn 5) (d_cons (dn 3) d_nil)))) d_nil)))
      (z_one (z_retF (d_tup (d_cons d_str (d_star (dn 4) d_nil)))))))), ?_⟩
  rintro ds M Q Ed ⟨n, r, m, e, rfl, hn, hr', hm, he, q⟩
  have hn3 := hn.2
  have hcl := cel_len r
  refine ⟨rfl, fun p hp => ?_⟩
  refine ⟨⟨rfl, rfl⟩, n, false, r, rfl, hn, hr', ?_⟩
  show forD _ _ _ ((cel r).map fun k => tupI (pr n k)) _ _
  refine forD_map (f := fun k => tupI (pr n k)) (fun l δ M' => ∃ (h : Nat) (done : List Da), (∃ u6 u7, δ = [some (Spc C_Space n false), some (.int (r : Nat)), some (.int (m : Nat)), some (.int (e : Nat)), some (.ref p), some (.int (h : Nat)), u6, u7]) ∧ M' = mput M p (.lst done) ∧ done ++ seqL n e h l = seqL n e m (cel r)) ?_ ?_ ⟨m, [], ⟨_, _, rfl⟩, rfl, rfl⟩
  · rintro k l δ M' ⟨h, done, ⟨u6, u7, rfl⟩, rfl, hd⟩ next
    have hd' : (done ++ [deedF n h (k / n), runB]) ++ seqL n e (k % n) l = seqL n e m (cel r) := by rw [List.append_assoc]; exact hd
    have hdl := congrArg List.length hd'
    rw [List.length_append, List.length_append, seqL_len, seqL_len] at hdl
    refine ⟨rfl, ⟨p, _, rfl, mput_same⟩, rfl, _, rfl, n, h, k / n, rfl, by omega, rfl, rfl, _, mput_same, sz (by simp only [List.length_cons, List.length_nil] at hdl ⊢; omega), ?_⟩
    rw [mput_put]
    exact next _ _ ⟨k % n, _, ⟨_, _, rfl⟩, rfl, hd'⟩
  · rintro δ M' ⟨h, done, ⟨u6, u7, rfl⟩, rfl, hd⟩
    have hdl := congrArg List.length hd
    rw [List.length_append, seqL_len, seqL_len] at hdl
    have hd : done ++ [deedF n h e] = seqL n e m (cel r) := hd
    have hsl : (seqL n e m (cel r)).length ≤ 100 := by rw [seqL_len]; omega
    refine ⟨⟨p, _, rfl, mput_same⟩, rfl, _, rfl, n, h, e, rfl, by omega, _, mput_same, sz (by omega), ?_⟩
    rw [mput_put, hd]
    refine ⟨_, mput_same, sz (by rw [List.length_cons, List.length_append]; show _ + 0 + 1 ≤ _; omega), M, fun a o h => ?_, ?_⟩
    · rw [mput_ne (fun e => by rw [e, hp] at h; cases h)]; exact h
    · rw [List.append_nil]; exact q
def termsF (n : Nat) (ts : List Nat) : List Da := (List.range n).flatMap fun m => (List.range n).flatMap fun e => (lst1 (hav n ts m e)).map (seqF n m e)
def lenF : Da → Nat
  | .tup xs => xs.length
  | _ => 0
def manyF (l : List Da) : Nat := (l.map lenF).foldl (· + ·) 0
theorem manyF_app (a b : List Da) : manyF (a ++ b) = manyF a + manyF b := by
  have go : ∀ (l : List Nat) (x : Nat), l.foldl (· + ·) x = x + l.foldl (· + ·) 0 := fun l => by
    induction l with
    | nil => intro x; rfl
    | cons y l ih => intro x; rw [List.foldl_cons, List.foldl_cons, ih, ih (0 + y)]; omega
  unfold manyF
  rw [List.map_append, List.foldl_append, go]
theorem seqF_len (n m e r : Nat) : lenF (seqF n m e r) = 2 * (cel r).length + 2 := by
  show (Da.str "seq" :: seqL n e m (cel r)).length = _
  rw [List.length_cons, seqL_len]
theorem atI_last (xs : List Da) (x : Da) : atI (xs ++ [x]) (-1) = some x := by
  unfold atI ixN
  rw [List.length_append, List.length_singleton, if_neg (by decide), if_pos (by omega)]
  have : ((-1 : Int) + ((xs.length + 1 : Nat) : Int)).toNat = xs.length := by omega
  show (xs ++ [x])[_]? = _
  rw [this]
  simp
def spTermsFor (C : Addr) : DSp := fun ds M Q _ => ∃ (n : Nat) (ts : List Nat), ds = [Spc C n false, tabD ts] ∧ 1 ≤ n ∧ n ≤ 2 ∧ OkT (n * n) ts ∧ Q (.tup [.lst (termsF n ts), .int (manyF (termsF n ts) : Nat)]) M
theorem D_terms_for {P : Program} {w : World} {K : PySem.W.Frag} {mg : Str → Option Value} {base : Heap} {C_Procedure : Addr} {C_Space : Addr} {C_InvalidProgram : Addr} {C_InvalidMeaning : Addr} {C_InvalidOperation : Addr} {C_InvalidNumber : Addr} {C_TooMany : Addr} (A : Facts K C_Procedure C_Space C_InvalidProgram C_InvalidMeaning C_InvalidOperation C_InvalidNumber C_TooMany) (M : MgOf K mg) (Z : Zs mg) (D_least_relations : KnD P w K mg base "least_relations" 3 ["space", "table", "mode", "end"] (spLeastR C_Space)) (D_seq_for : KnD P w K mg base "seq_for" 6 ["space", "relation", "mode", "end"] (spSeqFor C_Space)) : KnD P w K mg base "terms_for" 7 ["space", "table"] (spTermsFor C_Space) := by
  refine KnD.of A.d_terms_for M sc_terms_for (fun _ _ _ _ _ _ us hl => match us, hl with | [_, _], _ => rfl) (fun ds M Q E ⟨_, _, h, _⟩ => by rw [h]; rfl) (fun f cdv A0 outer s H E hr => ?_)
  have hu := U.hu_of hr
  have hu1 := U.hu1_of hr
  have nd := sc_terms_for.nd
  refine ⟨_, (z_cons (ps_imp (ps_par (i := 2) (j := 3) rfl nd rfl rfl (by decide) rfl rfl (d_cons (d_lstM d_nil) (d_cons d_int d_nil)) (by rfl)) fun _ _ _ h => li_par h)
      (z_cons (z_for PassesOwn.never rfl (d_rg1 Z.range (d_cons (d_fld A.cls_Space.cl A.n_Space_own_modes (dn 0)) d_nil)) (t_n 4 nd) (z_one (z_for PassesOwn.never rfl (d_rg1 Z.range (d_cons (d_fld A.cls_Space.cl A.n_Space_own_modes (dn 0)) d_nil)) (t_n 5 nd) (z_one (z_for PassesOwn.never rfl (d_it (d_call D_least_relations (hr.mono (by decide)) (d_cons (dn 0) (d_cons (dn 1) (d_cons (dn 4) (d_cons (dn 5) d_nil)))))) (t_n 6 nd) (z_cons (z_expr (d_append (dn 2) (d_cons (d_call D_seq_for (hr.mono (by decide)) (d_cons (dn 0) (d_cons (dn 6) (d_cons (dn 4) (d_cons (dn 5) d_nil))))) d_nil)))
      (z_one (z_aug (i := 3) nd rfl (.inl rfl) (d_b Z.len b_len c_dlen (d_cons (d_ix (dn 2) (d_neg d_int)) d_nil)) i_add))))))))
      (z_one (z_retF (d_tup (d_cons (d_stl (dn 2)) (d_cons (dn 3) d_nil))))))), ?_⟩
  rintro ds M Q Ed ⟨n, ts, rfl, h1, h2, hT, q⟩
  have hn : OkN n := ⟨h1, by omega⟩
  have hp16 : 2 ^ (n * n) ≤ 16 := by
    have : n = 1 ∨ n = 2 := by omega
    rcases this with rfl | rfl <;> decide
  have hlen : ∀ m e, (lst1 (hav n ts m e)).length ≤ 16 := fun m e => by
    refine Nat.le_trans (List.length_filter_le _ _) (Nat.le_trans (List.length_filter_le _ _) ?_)
    rw [List.length_range]; exact hp16
  have hlt : ∀ m e, ∀ r ∈ lst1 (hav n ts m e), r < 2 ^ (n * n) := fun m e r hr => List.mem_range.mp (List.mem_filter.mp (List.mem_filter.mp hr).1).1
  refine ⟨rfl, fun p hp => ?_⟩
  refine ⟨rfl, _, rfl, rok (by omega) (by omega), ?_⟩
  refine forD_rng (n := n) (fun j δ M' => ∃ done, (∃ u4 u5 u6, δ = [some (Spc C_Space n false), some (tabD ts), some (.ref p), some (.int (manyF done : Nat)), u4, u5, u6]) ∧ M' = mput M p (.lst done) ∧ done = ((List.range j).flatMap fun m => (List.range n).flatMap fun e => (lst1 (hav n ts m e)).map (seqF n m e)) ∧ done.length ≤ 32 * j) ?_ ?_ ⟨[], ⟨_, _, _, rfl⟩, rfl, rfl, Nat.zero_le _⟩
  · rintro j δ M' NX hj ⟨done, ⟨u4, u5, u6, rfl⟩, rfl, hd, hdl⟩ nx
    refine ⟨rfl, _, rfl, rok (by omega) (by omega), ?_⟩
    refine forD_rng (n := n) (fun i δ M' => ∃ don2, (∃ u5 u6, δ = [some (Spc C_Space n false), some (tabD ts), some (.ref p), some (.int (manyF don2 : Nat)), some (.int (j : Nat)), u5, u6]) ∧ M' = mput M p (.lst don2) ∧ don2 = done ++ ((List.range i).flatMap fun e => (lst1 (hav n ts j e)).map (seqF n j e)) ∧ don2.length ≤ 32 * j + 16 * i) ?_ ?_ ⟨done, ⟨_, _, rfl⟩, rfl, by simp, by omega⟩
    · rintro i δ M' NX2 hi ⟨don2, ⟨u5, u6, rfl⟩, rfl, hd2, hdl2⟩ nx2
      refine ⟨n, ts, j, i, rfl, h1, h2, hT, hj, hi, ?_⟩
      have hl16 := hlen j i
      refine forD_map (f := fun r : Nat => Da.int (r : Int)) (fun l δ M' => ∃ don3, (∃ u6, δ = [some (Spc C_Space n false), some (tabD ts), some (.ref p), some (.int (manyF don3 : Nat)), some (.int (j : Nat)), some (.int (i : Nat)), u6]) ∧ M' = mput M p (.lst don3) ∧ don3 ++ l.map (seqF n j i) = don2 ++ (lst1 (hav n ts j i)).map (seqF n j i) ∧ ∀ r ∈ l, r ∈ lst1 (hav n ts j i)) ?_ ?_ ⟨don2, ⟨_, rfl⟩, rfl, rfl, fun _ h => h⟩
      · rintro r l δ M' ⟨don3, ⟨u6, rfl⟩, rfl, hd3, hin⟩ next
        have hr := hlt j i r (hin r List.mem_cons_self)
        have hd3' : (don3 ++ [seqF n j i r]) ++ l.map (seqF n j i) = don2 ++ (lst1 (hav n ts j i)).map (seqF n j i) := by rw [List.append_assoc]; exact hd3
        have hl3 := congrArg List.length hd3'
        rw [List.length_append, List.length_append, List.length_append, List.length_map, List.length_map, List.length_singleton] at hl3
        refine ⟨⟨p, _, rfl, mput_same⟩, n, r, j, i, rfl, hn, hr, hj, hi, _, mput_same, sz (by omega), ?_⟩
        rw [mput_put]
        refine ⟨_, _, mput_same, atI_last _ _, ?_⟩
        refine next _ _ ⟨don3 ++ [seqF n j i r], ⟨some (.int (r : Nat)), ?_⟩, rfl, hd3', fun r' h => hin r' (List.mem_cons_of_mem _ h)⟩
        rw [manyF_app, show manyF [seqF n j i r] = (Da.str "seq" :: seqL n i j (cel r)).length from Nat.zero_add _]
        rfl
      · rintro δ M' ⟨don3, ⟨u6, rfl⟩, rfl, hd3, hin⟩
        rw [List.map_nil, List.append_nil] at hd3
        refine nx2 _ _ ⟨don3, ⟨_, _, rfl⟩, rfl, ?_, ?_⟩
        · rw [hd3, hd2, List.range_succ, List.flatMap_append, List.append_assoc, List.flatMap_singleton]
        · rw [hd3, List.length_append, List.length_map]; omega
    · rintro δ M' ⟨don2, ⟨u5, u6, rfl⟩, rfl, hd2, hdl2⟩
      refine nx _ _ ⟨don2, ⟨_, _, _, rfl⟩, rfl, ?_, by omega⟩
      rw [hd2, hd, List.range_succ, List.flatMap_append, List.flatMap_singleton]
  · rintro δ M' ⟨done, ⟨u4, u5, u6, rfl⟩, rfl, hd, hdl⟩
    have e : done = termsF n ts := hd
    subst e
    refine ⟨_, mput_same, rfl, M, fun a o h => ?_, q⟩
    rw [mdel_put hp]; exact h
theorem foldl_add (l : List Nat) : ∀ x, l.foldl (· + ·) x = x + l.foldl (· + ·) 0 := by
  induction l with
  | nil => intro x; rfl
  | cons y l ih => intro x; rw [List.foldl_cons, List.foldl_cons, ih, ih (0 + y)]; omega
theorem manyF_cons (a : Da) (l : List Da) : manyF (a :: l) = lenF a + manyF l := by
  show ((a :: l).map lenF).foldl (· + ·) 0 = _
  rw [List.map_cons, List.foldl_cons, foldl_add]
  show 0 + lenF a + manyF l = _
  omega
def ownB1 : List (Str × Str) := [("b", "block")]
/-- a deed of n modes, or a running of b -/
def SmallOk (n : Nat) (x : Da) : Prop := x = runB ∨ ∃ a b, b < n ∧ x = deedF n a b
theorem seqL_small {n e : Nat} (hn : 0 < n) (he : e < n) : ∀ (ks : List Nat) (h : Nat), (∀ k ∈ ks, k < n * n) → ∀ x ∈ seqL n e h ks, SmallOk n x
  | [], h, _, x, hx => by
    rw [List.mem_singleton.mp (show x ∈ [deedF n h e] from hx)]
    exact .inr ⟨h, e, he, rfl⟩
  | k :: ks, h, hk, x, hx => by
    have hx : x ∈ deedF n h (k / n) :: runB :: seqL n e (k % n) ks := hx
    rcases List.mem_cons.mp hx with rfl | hx
    · exact .inr ⟨h, k / n, Nat.div_lt_of_lt_mul (hk k List.mem_cons_self), rfl⟩
    rcases List.mem_cons.mp hx with rfl | hx
    · exact .inl rfl
    · exact seqL_small hn he ks _ (fun k' h => hk k' (List.mem_cons_of_mem _ h)) x hx
theorem small_pc {n : Nat} (h1 : 1 ≤ n) (h3 : n ≤ 3) {x : Da} (h : SmallOk n x) : (∀ j, pcB (kvsD ownB1) (j + 1) TW x = true) ∧ (∀ j, (allF j x) = [x]) ∧ pv x ∧ ∃ z xs, x = .tup (.str z :: xs) := by
  rcases h with rfl | ⟨a, b, hb, rfl⟩
  · exact ⟨fun j => rfl, fun j => by cases j <;> rfl, pv_of (by decide +kernel), _, _, rfl⟩
  · have hl : (tbF n a b).length = n := by unfold tbF; rw [List.length_map, List.length_range]
    have ht : ∀ t ∈ tbF n a b, t = .non ∨ t = .int (b : Int) := fun t ht => by
      obtain ⟨i, _, rfl⟩ := List.mem_map.mp ht
      by_cases c : i = a
      · exact .inr (if_pos c)
      · exact .inl (if_neg c)
    have htb : tableB (.tup (tbF n a b)) = true := by
      show ((decide (0 < (tbF n a b).length) && decide ((tbF n a b).length ≤ 3)) && (tbF n a b).all fun e => isNon e || isFr e 0 2) = true
      rw [hl, decide_eq_true (by omega), decide_eq_true (by omega), Bool.true_and, Bool.true_and, List.all_eq_true]
      intro t h
      rcases ht t h with rfl | rfl
      · rfl
      · show (decide ((0 : Int) ≤ (b : Int)) && decide ((b : Int) ≤ 2)) = true
        rw [decide_eq_true (by omega), decide_eq_true (by omega)]; rfl
    refine ⟨fun j => ?_, fun j => by cases j <;> rfl, ?_, _, _, rfl⟩
    · show (nameD (.str "go") && tableB (.tup (tbF n a b))) = true
      rw [htb]; decide +kernel
    · refine .tup _ (by simp) fun y hy => ?_
      simp only [List.mem_cons, List.not_mem_nil, or_false] at hy
      rcases hy with rfl | rfl | rfl
      · exact pv_of (by decide +kernel)
      · exact pv_of (by decide +kernel)
      · refine .tup _ (by omega) fun t h => ?_
        rcases ht t h with rfl | rfl
        · exact .non
        · exact .int _
theorem ownB1_ok : OwnOk ownB1 := ⟨by decide, fun p hp => by rw [List.mem_singleton.mp (show p ∈ [(("b" : Str), ("block" : Str))] from hp)]; exact ⟨by decide +kernel, by decide⟩, by decide⟩
def SqOk (n : Nat) (x : Da) : Prop := ∃ m e r, m < n ∧ e < n ∧ r < 2 ^ (n * n) ∧ x = seqF n m e r
theorem seq_small {n m e r : Nat} (he : e < n) (hr : r < 2 ^ (n * n)) : ∀ x ∈ seqL n e m (cel r), SmallOk n x :=
  seqL_small (by omega) he _ _ fun k hk => bit_lt hr (cel_mem.mp hk).2
theorem flat_self {f : Da → List Da} : ∀ {l : List Da}, (∀ x ∈ l, f x = [x]) → l.flatMap f = l
  | [], _ => rfl
  | x :: l, h => by rw [List.flatMap_cons, h x List.mem_cons_self, flat_self fun y hy => h y (List.mem_cons_of_mem _ hy)]; rfl
theorem sq_pc {n : Nat} (h1 : 1 ≤ n) (h3 : n ≤ 3) {x : Da} (h : SqOk n x) : (∀ j, pcB (kvsD ownB1) (j + 2) TW x = true) ∧ (∀ j, (allF (j + 1) x).length = lenF x) ∧ pv x := by
  obtain ⟨m, e, r, hm, he, hr, rfl⟩ := h
  have hs := seq_small (m := m) he hr
  have hc := cel_len r
  refine ⟨fun j => ?_, fun j => ?_, ?_⟩
  · show (seqL n e m (cel r)).all (pcB (kvsD ownB1) (j + 1) TW) = true
    exact List.all_eq_true.mpr fun x hx => (small_pc h1 h3 (hs x hx)).1 j
  · show (seqF n m e r :: (seqL n e m (cel r)).flatMap (allF j)).length = (Da.str "seq" :: seqL n e m (cel r)).length
    rw [flat_self fun x hx => (small_pc h1 h3 (hs x hx)).2.1 j]; rfl
  · refine .tup _ (by rw [List.length_cons, seqL_len]; omega) fun y hy => ?_
    rcases List.mem_cons.mp hy with rfl | hy
    · exact pv_of (by decide +kernel)
    · exact (small_pc h1 h3 (hs y hy)).2.2.1
theorem eith_prc {n : Nat} (hn : n = 1 ∨ n = 2) {l : List Da} (h : ∀ x ∈ l, SqOk n x) (hl : manyF l + 1 ≤ 40) : PrcOk "made" ownB1 (eithF n l) := by
  have h1 : 1 ≤ n := by omega
  have h3 : n ≤ 3 := by omega
  cases l with
  | nil =>
    refine ⟨by decide +kernel, ownB1_ok, ?_, ?_⟩
    · rcases hn with rfl | rfl <;> exact pv_of (by decide +kernel)
    · rcases hn with rfl | rfl <;> decide +kernel
  | cons a l =>
    have hll : ∀ {l : List Da}, (∀ x ∈ l, SqOk n x) → l.length ≤ manyF l ∧ (l.flatMap (allF 5)).length = manyF l := fun {l} h => by
      induction l with
      | nil => exact ⟨Nat.le_refl _, rfl⟩
      | cons a l ih =>
        obtain ⟨i1, i2⟩ := ih fun x hx => h x (List.mem_cons_of_mem _ hx)
        have e := (sq_pc h1 h3 (h a List.mem_cons_self)).2.1 4
        obtain ⟨m, e', r, _, _, _, rfl⟩ := h a List.mem_cons_self
        rw [manyF_cons, List.flatMap_cons, List.length_append, List.length_cons, i2, e, seqF_len]
        exact ⟨by omega, rfl⟩
    obtain ⟨g1, g2⟩ := hll h
    refine ⟨by decide +kernel, ownB1_ok, ?_, ?_⟩
    · refine .tup _ (by rw [List.length_cons]; omega) fun y hy => ?_
      rcases List.mem_cons.mp hy with rfl | hy
      · exact pv_of (by decide +kernel)
      · exact (sq_pc h1 h3 (h y hy)).2.2
    · unfold bodB
      have p1 : pcB (kvsD ownB1) 6 TW (eithF n (a :: l)) = true := by
        show (a :: l).all (pcB (kvsD ownB1) 5 TW) = true
        exact List.all_eq_true.mpr fun x hx => (sq_pc h1 h3 (h x hx)).1 3
      have p2 : (allF 6 (eithF n (a :: l))).length = manyF (a :: l) + 1 := by
        show (_ :: (a :: l).flatMap (allF 5)).length = _
        rw [List.length_cons, g2]
      rw [p1, p2, Bool.true_and, decide_eq_true_eq]
      exact hl
theorem terms_sq {n : Nat} {ts : List Nat} : ∀ x ∈ termsF n ts, SqOk n x := fun x hx => by
  unfold termsF at hx
  obtain ⟨m, hm, hx⟩ := List.mem_flatMap.mp hx
  obtain ⟨e, he, hx⟩ := List.mem_flatMap.mp hx
  obtain ⟨r, hr, rfl⟩ := List.mem_map.mp hx
  exact ⟨m, e, r, List.mem_range.mp hm, List.mem_range.mp he, List.mem_range.mp (List.mem_filter.mp (List.mem_filter.mp hr).1).1, rfl⟩
def spWrap (C CM CT : Addr) : DSp := fun ds M Q Ed => ∃ (n : Nat) (ts : List Nat), ds = [.int (n : Nat), .str "made", tabD ts] ∧ (n = 1 ∨ n = 2) ∧ OkT (n * n) ts ∧
  ((monoB (n * n) ts = false ∧ Ed (.ref CM) [] M) ∨ (monoB (n * n) ts = true ∧ 40 < manyF (termsF n ts) + 1 ∧ Ed (.ref CT) [("limit", .int 40)] M) ∨
    (monoB (n * n) ts = true ∧ manyF (termsF n ts) + 1 ≤ 40 ∧ ∀ R, R.Perm (allF 6 (eithF n (termsF n ts))) → Q (Prc C "made" ownB1 (eithF n (termsF n ts)) R) M))
theorem D_wrap_of {P : Program} {w : World} {K : PySem.W.Frag} {mg : Str → Option Value} {base : Heap} {C_Procedure : Addr} {C_Space : Addr} {C_InvalidProgram : Addr} {C_InvalidMeaning : Addr} {C_InvalidOperation : Addr} {C_InvalidNumber : Addr} {C_TooMany : Addr} (A : Facts K C_Procedure C_Space C_InvalidProgram C_InvalidMeaning C_InvalidOperation C_InvalidNumber C_TooMany) (M : MgOf K mg) (Z : Zs mg) (D_is_from : KnD P w K mg base "is_from" 2 ["value", "first", "last"] spIsFrom) (D_InvalidNumber___init__ : KnErr P w K mg base "InvalidNumber" C_InvalidNumber "value" 1) (D_is_name : KnD P w K mg base "is_name" 1 ["value"] spIsName) (D_Space___init__ : KnK P w K mg base C_Space 3 ["self", "modes", "watched"] 2 ["watched"] [.bl false] (spInit C_Space)) (D_Space_is_table : KnMD P w K mg base C_Space "is_table" 4 ["self", "value"] (spIsTable C_Space)) (D_Space_is_monotone : KnMD P w K mg base C_Space "is_monotone" 6 ["self", "table"] (spMono C_Space)) (D_terms_for : KnD P w K mg base "terms_for" 7 ["space", "table"] (spTermsFor C_Space)) (D_TooMany___init__ : KnErr P w K mg base "TooMany" C_TooMany "limit" 1) (D_Procedure___init__ : KnMXD P w K mg base C_Procedure "__init__" 23 ["self", "name", "parameters", "body"] (spInitE C_Procedure C_InvalidProgram)) (D_either_of : KnD P w K mg base "either_of" 1 ["modes", "terms"] spEithF) : KnXD P w K mg base "wrap_of" 25 ["modes", "name", "table"] (spWrap C_Procedure C_InvalidMeaning C_TooMany) := by
  refine KnXD.of A.d_wrap_of M sc_wrap_of (fun _ _ _ _ _ _ us hl => match us, hl with | [_, _, _], _ => rfl) (fun ds M Q E ⟨_, _, h, _⟩ => by rw [h]; rfl) (fun f cdv A0 outer s H E hr => ?_)
  have hu := U.hu_of hr
  have hu1 := U.hu1_of hr
  have nd := sc_wrap_of.nd
  refine ⟨_, (z_cons (z_if (d_tnot (d_tv (d_call D_is_from (hr.mono (by decide)) (d_cons (dn 0) (d_cons d_int (d_cons d_int d_nil)))))) (z_one (z_raiseE D_InvalidNumber___init__ (hr.mono (by decide)) (dn 0))) z_nil)
      (z_cons (z_if (d_tnot (d_tv (d_call D_is_name (hr.mono (by decide)) (d_cons (dn 1) d_nil)))) (z_one (z_raise rfl M A.x_InvalidOperation)) z_nil)
      (z_cons (z_set 3 nd (d_makeD (dfl := [.bl false]) M A.cls_Space D_Space___init__ (fun _ _ => .cons (.bl _) .nil) (hr.mono (by decide)) (d_cons (dn 0) d_nil)))
      (z_cons (z_if (d_w (d_or (d_tnot (d_tv (d_meth D_Space_is_table A.cls_Space.cl (hr.mono (by decide)) (dn 3) (d_cons (dn 2) d_nil)))) (d_or1 (d_tnot (d_tv (d_meth D_Space_is_monotone A.cls_Space.cl (hr.mono (by decide)) (dn 3) (d_cons (dn 2) d_nil))))))) (z_one (z_raise rfl M A.x_InvalidMeaning)) z_nil)
      (z_cons (z_asg (d_call D_terms_for (hr.mono (by decide)) (d_cons (dn 3) (d_cons (dn 2) d_nil))) (t_tup rfl (t_cons (t_n 4 nd) (t_cons (t_n 5 nd) t_nil))))
      (z_cons (z_if (d_tcm o_dgt (d_op o_dadd (dn 5) d_int) (d_gi Z.c_MAX_TERMS)) (z_one (z_raiseE D_TooMany___init__ (hr.mono (by decide)) (d_gi Z.c_MAX_TERMS))) z_nil)
      (z_one (z_retX (x_make M A.cls_Procedure D_Procedure___init__ (hr.mono (by decide)) (x_cons (x_up (dn 1)) (x_cons (x_up (d_tup (d_cons (d_tup (d_cons d_str (d_cons (d_gs Z.c_BLOCK) d_nil))) d_nil))) (x_cons (x_up (d_call D_either_of (hr.mono (by decide)) (d_cons (dn 0) (d_cons (dn 4) d_nil)))) x_nil)))))))))))), ?_⟩
  rintro ds M Q Ed ⟨n, ts, rfl, hn, hT, h⟩
  have fr : isFr (.int (n : Int)) 1 2 = true := by rcases hn with rfl | rfl <;> rfl
  have okn : OkN n := ⟨by omega, by omega⟩
  have pt : pv (tabD ts) := okT_tab (by rcases hn with rfl | rfl <;> decide) hT
  refine ⟨_, 1, 2, rfl, .int _, ?_⟩
  rw [fr]
  refine ifF (by decide) ?_
  refine ⟨_, rfl, pv_of (by decide +kernel), ?_⟩
  rw [show nameD (.str "made") = true from by decide +kernel]
  refine ifF (by decide) ?_
  refine fun p hp => ⟨p, n, false, rfl, okn, mput_same, rfl, _, mput_same, ?_⟩
  rw [mput_put, mdel_put hp]
  refine ⟨⟨rfl, rfl⟩, n, false, _, rfl, okn, pt, ?_⟩
  rw [show isTab (n * endsN n false) (tabD ts) = true from isTab_ok hT]
  refine ⟨⟨rfl, rfl⟩, n, false, ts, rfl, okn, hT, ?_⟩
  rcases h with ⟨hm, e⟩ | h
  · rw [show monoB (n * endsN n false) ts = false from hm]
    exact ⟨M, fun _ _ h => h, e⟩
  obtain ⟨hm, h⟩ : monoB (n * endsN n false) ts = true ∧ ((40 < manyF (termsF n ts) + 1 ∧ Ed (.ref C_TooMany) [("limit", .int 40)] M) ∨
      (manyF (termsF n ts) + 1 ≤ 40 ∧ ∀ R, R.Perm (allF 6 (eithF n (termsF n ts))) → Q (Prc C_Procedure "made" ownB1 (eithF n (termsF n ts)) R) M)) := by
    rcases h with ⟨a, b, c⟩ | ⟨a, b, c⟩
    · exact ⟨a, .inl ⟨b, c⟩⟩
    · exact ⟨a, .inr ⟨b, c⟩⟩
  rw [hm]
  refine ⟨n, ts, rfl, by omega, by omega, hT, rfl, ?_⟩
  rcases h with ⟨h40, e⟩ | ⟨h40, q⟩
  · refine ifT (decide_eq_true (by omega)) ?_
    exact ⟨_, rfl, M, fun _ _ h => h, e⟩
  · refine ifF (fun h => absurd (of_decide_eq_true h) (by omega)) ?_
    have ho := eith_prc hn terms_sq h40
    have hb40 : (allF 6 (eithF n (termsF n ts))).length ≤ 40 := by
      have h := ho.bd
      unfold bodB at h
      rw [Bool.and_eq_true, decide_eq_true_eq] at h
      exact h.2
    have hll : (termsF n ts).length ≤ 1000 := by
      have : ∀ {l : List Da}, (∀ x ∈ l, SqOk n x) → l.length ≤ manyF l := fun {l} h => by
        induction l with
        | nil => exact Nat.le_refl _
        | cons a l ih =>
          have i1 := ih fun x hx => h x (List.mem_cons_of_mem _ hx)
          obtain ⟨m, e', r, _, _, _, rfl⟩ := h a List.mem_cons_self
          rw [manyF_cons, List.length_cons, seqF_len]; omega
      have := this (terms_sq (n := n) (ts := ts))
      omega
    refine ⟨rfl, rfl, n, termsF n ts, rfl, by omega, by omega, hll, fun p2 hp2 => ?_⟩
    refine ⟨p2, .str "made", parD ownB1, _, rfl, pv_of (by decide +kernel), pv_par ho.ow, ho.pv, mput_same, .inr ⟨"made", ownB1, rfl, ho.nm, rfl, ho.ow, (fun _ => by omega), (fun _ R hR => ⟨rfl, _, mput_same, ?_⟩), fun h => by rw [ho.bd] at h; cases h⟩⟩
    rw [mput_put, mdel_put hp2]
    exact ⟨_, fun _ _ h => h, q R hR⟩

end K69
set_option Elab.async false
set_option linter.all false
set_option maxRecDepth 100000
set_option maxHeartbeats 4000000



namespace K69
open PySem PySem.Spec PyProof.Rows L2 U
def spHasL : DSp := fun ds M Q _ => ∃ (n r m e : Nat), ds = [.int n, .int r, .int m, .int e] ∧ n ≤ 3 ∧ m * n + e < 9 ∧ Q (.bl (r.testBit (m * n + e))) M
def spBitL : DSp := fun ds M Q _ => ∃ (n m e : Nat), ds = [.int n, .int m, .int e] ∧ n ≤ 3 ∧ m * n + e < 9 ∧ Q (.int ((2 ^ (m * n + e) : Nat) : Int)) M
def spSizeL : DSp := fun ds M Q _ => ∃ (n : Nat), ds = [.int n] ∧ (n = 1 ∨ n = 2) ∧ Q (.int ((2 ^ (n * n) : Nat) : Int)) M
theorem D__law_has {P : Program} {w : World} {K : PySem.W.Frag} {mg : Str → Option Value} {base : Heap} {C_Procedure : Addr} {C_Space : Addr} {C_InvalidProgram : Addr} {C_InvalidMeaning : Addr} {C_InvalidOperation : Addr} {C_InvalidNumber : Addr} {C_TooMany : Addr} (A : Facts K C_Procedure C_Space C_InvalidProgram C_InvalidMeaning C_InvalidOperation C_InvalidNumber C_TooMany) (M : MgOf K mg) (Z : Zs mg)  : KnD P w K mg base "_law_has" 1 ["_law_modes", "_law_relation", "_law_mode", "_law_end"] spHasL := by
  refine KnD.of A.d__law_has M sc__law_has (fun _ _ _ _ _ _ us hl => match us, hl with | [_, _, _, _], _ => rfl) (fun ds M Q E ⟨_, _, _, _, h, _⟩ => by rw [h]; rfl) (fun f cdv A0 outer s H E hr => ?_)
  have hu := U.hu_of hr
  have hu1 := U.hu1_of hr
  have nd := sc__law_has.nd
  refine ⟨_, (z_one (z_ret (d_ecm (o_deq hu) (d_op o_dmod (d_op o_ddiv (dn 1) (d_ix (d_lst (d_cons d_int (d_cons d_int (d_cons d_int (d_cons d_int (d_cons d_int (d_cons d_int (d_cons d_int (d_cons d_int (d_cons d_int d_nil)))))))))) (d_op o_dadd (d_op o_dmul (dn 2) (dn 0)) (dn 3)))) d_int) d_int))), ?_⟩
  rintro ds M Q Ed ⟨n, r, m, e, rfl, hn, h, q⟩
  refine ⟨rfl, .inr (by omega), _, pow_at (N := 9) h, pow_lt (by omega), by decide, ?_⟩
  rw [← has_bit] at q
  exact q
theorem D__law_bit {P : Program} {w : World} {K : PySem.W.Frag} {mg : Str → Option Value} {base : Heap} {C_Procedure : Addr} {C_Space : Addr} {C_InvalidProgram : Addr} {C_InvalidMeaning : Addr} {C_InvalidOperation : Addr} {C_InvalidNumber : Addr} {C_TooMany : Addr} (A : Facts K C_Procedure C_Space C_InvalidProgram C_InvalidMeaning C_InvalidOperation C_InvalidNumber C_TooMany) (M : MgOf K mg) (Z : Zs mg)  : KnD P w K mg base "_law_bit" 1 ["_law_modes", "_law_mode", "_law_end"] spBitL := by
  refine KnD.of A.d__law_bit M sc__law_bit (fun _ _ _ _ _ _ us hl => match us, hl with | [_, _, _], _ => rfl) (fun ds M Q E ⟨_, _, _, h, _⟩ => by rw [h]; rfl) (fun f cdv A0 outer s H E hr => ?_)
  have hu := U.hu_of hr
  have hu1 := U.hu1_of hr
  have nd := sc__law_bit.nd
  refine ⟨_, (z_one (z_ret (d_ix (d_lst (d_cons d_int (d_cons d_int (d_cons d_int (d_cons d_int (d_cons d_int (d_cons d_int (d_cons d_int (d_cons d_int (d_cons d_int d_nil)))))))))) (d_op o_dadd (d_op o_dmul (dn 1) (dn 0)) (dn 2))))), ?_⟩
  rintro ds M Q Ed ⟨n, m, e, rfl, hn, h, q⟩
  exact ⟨rfl, .inr (by omega), _, pow_at (N := 9) h, q⟩
theorem D__law_size {P : Program} {w : World} {K : PySem.W.Frag} {mg : Str → Option Value} {base : Heap} {C_Procedure : Addr} {C_Space : Addr} {C_InvalidProgram : Addr} {C_InvalidMeaning : Addr} {C_InvalidOperation : Addr} {C_InvalidNumber : Addr} {C_TooMany : Addr} (A : Facts K C_Procedure C_Space C_InvalidProgram C_InvalidMeaning C_InvalidOperation C_InvalidNumber C_TooMany) (M : MgOf K mg) (Z : Zs mg)  : KnD P w K mg base "_law_size" 1 ["_law_modes"] spSizeL := by
  refine KnD.of A.d__law_size M sc__law_size (fun _ _ _ _ _ _ us hl => match us, hl with | [_], _ => rfl) (fun ds M Q E ⟨_, h, _⟩ => by rw [h]; rfl) (fun f cdv A0 outer s H E hr => ?_)
  have hu := U.hu_of hr
  have hu1 := U.hu1_of hr
  have nd := sc__law_size.nd
  refine ⟨_, (z_one (z_ret (d_ix (d_lst (d_cons d_int (d_cons d_int (d_cons d_int (d_cons d_int d_nil))))) (dn 0)))), ?_⟩
  rintro ds M Q Ed ⟨n, rfl, h, q⟩
  rcases h with rfl | rfl
  · exact ⟨rfl, _, rfl, q⟩
  · exact ⟨rfl, _, rfl, q⟩
def spAfterL : DSp := fun ds M Q _ => ∃ (n a b : Nat), ds = [.int n, .int a, .int b] ∧ (n = 1 ∨ n = 2) ∧ Q (.int (aft n n a b : Nat)) M
def spEitherL : DSp := fun ds M Q _ => ∃ (n a b : Nat), ds = [.int n, .int a, .int b] ∧ (n = 1 ∨ n = 2) ∧ a < 2 ^ (n * n) ∧ b < 2 ^ (n * n) ∧ Q (.int (a ||| b : Nat)) M
theorem cell9 {n m e : Nat} (hn : n = 1 ∨ n = 2) (hm : m < n) (he : e < n) : m * n + e < n * n ∧ n * n ≤ 4 ∧ m * n + e < 9 := by
  have h1 := cell_le (n := n) (E := n) hm he
  have h2 : n * n ≤ 4 := by rcases hn with rfl | rfl <;> decide
  exact ⟨h1, h2, by omega⟩
theorem ofB_step {f : Nat → Bool} {k : Nat} {v : Bool} (h : f k = v) : (ofB f k : Int) + ((2 ^ k : Nat) : Int) * (if v = true then 1 else 0) = ((ofB f (k + 1) : Nat) : Int) := by
  have e : ofB f (k + 1) = ofB f k + if f k = true then 2 ^ k else 0 := rfl
  rw [e, h]
  cases v <;> simp
theorem cmul_bit {k : Nat} (h : k ≤ 12) (j : Int) : CMul ((2 ^ k : Nat) : Int) j := .inl ⟨by have := pow_lt h; omega, by have := (pow_lt h).2; omega⟩
theorem D__law_after {P : Program} {w : World} {K : PySem.W.Frag} {mg : Str → Option Value} {base : Heap} {C_Procedure : Addr} {C_Space : Addr} {C_InvalidProgram : Addr} {C_InvalidMeaning : Addr} {C_InvalidOperation : Addr} {C_InvalidNumber : Addr} {C_TooMany : Addr} (A : Facts K C_Procedure C_Space C_InvalidProgram C_InvalidMeaning C_InvalidOperation C_InvalidNumber C_TooMany) (M : MgOf K mg) (Z : Zs mg) (D__law_has : KnD P w K mg base "_law_has" 1 ["_law_modes", "_law_relation", "_law_mode", "_law_end"] spHasL) (D__law_bit : KnD P w K mg base "_law_bit" 1 ["_law_modes", "_law_mode", "_law_end"] spBitL) : KnD P w K mg base "_law_after" 2 ["_law_modes", "_law_one", "_law_other"] spAfterL := by
  refine KnD.of A.d__law_after M sc__law_after (fun _ _ _ _ _ _ us hl => match us, hl with | [_, _, _], _ => rfl) (fun ds M Q E ⟨_, _, _, h, _⟩ => by rw [h]; rfl) (fun f cdv A0 outer s H E hr => ?_)
  have hu := U.hu_of hr
  have hu1 := U.hu1_of hr
  have nd := sc__law_after.nd
  refine ⟨_, (z_cons (z_set 3 nd d_int)
      (z_cons (z_for PassesOwn.never rfl (d_rg1 Z.range (d_cons (dn 0) d_nil)) (t_n 4 nd) (z_one (z_for PassesOwn.never rfl (d_rg1 Z.range (d_cons (dn 0) d_nil)) (t_n 5 nd) (z_cons (z_setLc (i := 6) (own := [("_law_way", 8)]) (c := (.n 8)) rfl nd rfl rfl (sw_true rfl rfl rfl (by decide +kernel)) (d_rg1 Z.range (d_cons (dn 0) d_nil)) (blkOk_by (own := [("_law_way", 8)]) (N := N__law_after) (sc := defScope s__law_after) (by decide +kernel)) (fun _ _ _ _ _ => (gn 8 nd)) (fun _ _ _ _ _ => (d_ts1 (d_tv (d_call D__law_has (hr.mono (by decide)) (d_cons (dn 0) (d_cons (dn 1) (d_cons (dn 4) (d_cons (dn 8) d_nil)))))))) (fun _ _ _ _ _ => (dn 8)))
      (z_cons (z_set 7 nd (d_ecm (o_dneL hu) (d_lc (own := [("_law_way", 8)]) (c := (.n 8)) rfl nd (d_it (dn 6)) (blkOk_by (own := [("_law_way", 8)]) (N := N__law_after) (sc := defScope s__law_after) (by decide +kernel)) (fun _ _ _ _ _ => (gn 8 nd)) (fun _ _ _ _ _ => (d_ts1 (d_tv (d_call D__law_has (hr.mono (by decide)) (d_cons (dn 0) (d_cons (dn 2) (d_cons (dn 8) (d_cons (dn 5) d_nil)))))))) (fun _ _ _ _ _ => (dn 8))) (d_lst d_nil)))
      (z_one (z_set 3 nd (d_op o_dadd (dn 3) (d_op o_dmul (d_call D__law_bit (hr.mono (by decide)) (d_cons (dn 0) (d_cons (dn 4) (d_cons (dn 5) d_nil)))) (d_t Z.int b_int c_dint (d_cons (dn 7) d_nil)))))))))))
      (z_one (z_ret (dn 3))))), ?_⟩
  rintro ds M Q Ed ⟨n, a, b, rfl, hn, q⟩
  have hn2 : n ≤ 2 := by omega
  generalize hf : (fun k => led n n a b (k / n) (k % n)) = f
  have q : Q (.int (ofB f (n * n) : Nat)) M := by rw [← hf]; exact q
  refine ⟨rok (by omega) (by omega), ?_⟩
  refine forD_rng (n := n) (fun j δ M' => M' = M ∧ ∃ u4 u5 u6 u7 u8, δ = [some (.int (n : Nat)), some (.int (a : Nat)), some (.int (b : Nat)), some (.int (ofB f (j * n) : Nat)), u4, u5, u6, u7, u8]) ?_ ?_ ⟨rfl, _, _, _, _, _, by rw [Nat.zero_mul]; rfl⟩
  · rintro j δ M' NX hj ⟨rfl, u4, u5, u6, u7, u8, rfl⟩ nx
    refine ⟨rok (by omega) (by omega), ?_⟩
    refine forD_rng (n := n) (fun i δ M'' => M'' = M' ∧ ∃ u5 u6 u7 u8, δ = [some (.int (n : Nat)), some (.int (a : Nat)), some (.int (b : Nat)), some (.int (ofB f (j * n + i) : Nat)), some (.int (j : Nat)), u5, u6, u7, u8]) ?_ ?_ ⟨rfl, _, _, _, _, rfl⟩
    · rintro i δ M'' NX2 hi ⟨rfl, u5, u6, u7, u8, rfl⟩ nx2
      obtain ⟨c1, c2, c3⟩ := cell9 hn hj hi
      refine ⟨rok (by omega) (by omega), ?_⟩
      show Sz (rngD 0 n).length ∧ lcD _ _ _ _ (rngD 0 n) _ _
      rw [rngD0]
      refine ⟨sz (by rw [List.length_map, List.length_range]; omega), lcD_map (fun v : Nat => a.testBit (j * n + v)) (fun v : Nat => Da.int (v : Int)) (fun v hv => ⟨trivial, fun Q q => ?_⟩) (fun v _ _ Q q => q) ?_⟩
      · have hv := List.mem_range.mp hv
        exact ⟨n, a, j, v, rfl, by omega, (cell9 hn hj hv).2.2, q⟩
      refine ⟨sz (by rw [List.length_map]; have := List.length_filter_le (fun v : Nat => a.testBit (j * n + v)) (List.range n); rw [List.length_range] at this; omega), lcD_map (fun v : Nat => b.testBit (v * n + i)) (fun v : Nat => Da.int (v : Int)) (fun v hv => ⟨trivial, fun Q q => ?_⟩) (fun v _ _ Q q => q) ?_⟩
      · have hv := List.mem_range.mp (List.mem_filter.mp hv).1
        exact ⟨n, b, v, i, rfl, by omega, (cell9 hn hv hi).2.2, q⟩
      refine ⟨rfl, ?_⟩
      have hv : (!((((List.range n).filter fun v : Nat => a.testBit (j * n + v)).filter fun v : Nat => b.testBit (v * n + i)).map fun v : Nat => Da.int (v : Int)).isEmpty) = f (j * n + i) := by
        rw [← hf]
        show _ = led n n a b ((j * n + i) / n) ((j * n + i) % n)
        rw [cell_div hi, cell_mod hi, Bool.eq_iff_iff, led_iff, Bool.not_eq_true', List.isEmpty_eq_false_iff]
        constructor
        · intro h
          obtain ⟨x, hx⟩ := List.exists_mem_of_ne_nil _ h
          obtain ⟨v, hv, _⟩ := List.mem_map.mp hx
          obtain ⟨h1, h2⟩ := List.mem_filter.mp hv
          obtain ⟨h3, h4⟩ := List.mem_filter.mp h1
          exact .inr ⟨v, List.mem_range.mp h3, h4, h2⟩
        · rintro (⟨h, _⟩ | ⟨v, h1, h2, h3⟩)
          · omega
          · exact fun e => by
              have : Da.int (v : Int) ∈ ((((List.range n).filter fun v : Nat => a.testBit (j * n + v)).filter fun v : Nat => b.testBit (v * n + i)).map fun v : Nat => Da.int (v : Int)) := List.mem_map_of_mem (List.mem_filter.mpr ⟨List.mem_filter.mpr ⟨List.mem_range.mpr h1, h2⟩, h3⟩)
              rw [e] at this; cases this
      refine ⟨n, j, i, rfl, by omega, c3, cmul_bit (by omega) _, ?_⟩
      exact nx2 _ _ ⟨rfl, _, _, _, _, congrArg (fun t : Int => [some (Da.int (n : Nat)), some (.int (a : Nat)), some (.int (b : Nat)), some (.int t), some (.int (j : Nat)), some (.int (i : Nat)), _, _, _]) (ofB_step hv.symm)⟩
    · rintro δ M'' ⟨rfl, u5, u6, u7, u8, rfl⟩
      exact nx _ _ ⟨rfl, _, _, _, _, _, by rw [Nat.succ_mul]⟩
  · rintro δ M' ⟨rfl, u4, u5, u6, u7, u8, rfl⟩
    exact q
theorem D__law_either {P : Program} {w : World} {K : PySem.W.Frag} {mg : Str → Option Value} {base : Heap} {C_Procedure : Addr} {C_Space : Addr} {C_InvalidProgram : Addr} {C_InvalidMeaning : Addr} {C_InvalidOperation : Addr} {C_InvalidNumber : Addr} {C_TooMany : Addr} (A : Facts K C_Procedure C_Space C_InvalidProgram C_InvalidMeaning C_InvalidOperation C_InvalidNumber C_TooMany) (M : MgOf K mg) (Z : Zs mg) (D__law_has : KnD P w K mg base "_law_has" 1 ["_law_modes", "_law_relation", "_law_mode", "_law_end"] spHasL) (D__law_bit : KnD P w K mg base "_law_bit" 1 ["_law_modes", "_law_mode", "_law_end"] spBitL) : KnD P w K mg base "_law_either" 2 ["_law_modes", "_law_one", "_law_other"] spEitherL := by
  refine KnD.of A.d__law_either M sc__law_either (fun _ _ _ _ _ _ us hl => match us, hl with | [_, _, _], _ => rfl) (fun ds M Q E ⟨_, _, _, h, _⟩ => by rw [h]; rfl) (fun f cdv A0 outer s H E hr => ?_)
  have hu := U.hu_of hr
  have hu1 := U.hu1_of hr
  have nd := sc__law_either.nd
  refine ⟨_, (z_cons (z_set 3 nd d_int)
      (z_cons (z_for PassesOwn.never rfl (d_rg1 Z.range (d_cons (dn 0) d_nil)) (t_n 4 nd) (z_one (z_for PassesOwn.never rfl (d_rg1 Z.range (d_cons (dn 0) d_nil)) (t_n 5 nd) (z_cons (z_set 6 nd (d_eor (d_call D__law_has (hr.mono (by decide)) (d_cons (dn 0) (d_cons (dn 1) (d_cons (dn 4) (d_cons (dn 5) d_nil))))) (d_one (d_call D__law_has (hr.mono (by decide)) (d_cons (dn 0) (d_cons (dn 2) (d_cons (dn 4) (d_cons (dn 5) d_nil))))))))
      (z_one (z_set 3 nd (d_op o_dadd (dn 3) (d_op o_dmul (d_call D__law_bit (hr.mono (by decide)) (d_cons (dn 0) (d_cons (dn 4) (d_cons (dn 5) d_nil)))) (d_t Z.int b_int c_dint (d_cons (dn 6) d_nil))))))))))
      (z_one (z_ret (dn 3))))), ?_⟩
  rintro ds M Q Ed ⟨n, a, b, rfl, hn, ha, hb, q⟩
  have hn2 : n ≤ 2 := by omega
  generalize hf : (fun k => (a ||| b).testBit k) = f
  have q : Q (.int (ofB f (n * n) : Nat)) M := by rw [← hf, ofB_self (or_bits ha hb)]; exact q
  refine ⟨rok (by omega) (by omega), ?_⟩
  refine forD_rng (n := n) (fun j δ M' => M' = M ∧ ∃ u4 u5 u6, δ = [some (.int (n : Nat)), some (.int (a : Nat)), some (.int (b : Nat)), some (.int (ofB f (j * n) : Nat)), u4, u5, u6]) ?_ ?_ ⟨rfl, _, _, _, by rw [Nat.zero_mul]; rfl⟩
  · rintro j δ M' NX hj ⟨rfl, u4, u5, u6, rfl⟩ nx
    refine ⟨rok (by omega) (by omega), ?_⟩
    refine forD_rng (n := n) (fun i δ M'' => M'' = M' ∧ ∃ u5 u6, δ = [some (.int (n : Nat)), some (.int (a : Nat)), some (.int (b : Nat)), some (.int (ofB f (j * n + i) : Nat)), some (.int (j : Nat)), u5, u6]) ?_ ?_ ⟨rfl, _, _, rfl⟩
    · rintro i δ M'' NX2 hi ⟨rfl, u5, u6, rfl⟩ nx2
      obtain ⟨c1, c2, c3⟩ := cell9 hn hj hi
      have hfk : f (j * n + i) = (a.testBit (j * n + i) || b.testBit (j * n + i)) := by rw [← hf]; exact Nat.testBit_or ..
      refine ⟨n, a, j, i, rfl, by omega, c3, ?_⟩
      cases ea : a.testBit (j * n + i) with
      | true =>
        rw [ea, Bool.true_or] at hfk
        refine ifT rfl ⟨n, j, i, rfl, by omega, c3, cmul_bit (by omega) _, ?_⟩
        exact nx2 _ _ ⟨rfl, _, _, congrArg (fun t : Int => [some (Da.int (n : Nat)), some (.int (a : Nat)), some (.int (b : Nat)), some (.int t), some (.int (j : Nat)), some (.int (i : Nat)), _]) (ofB_step hfk)⟩
      | false =>
        rw [ea, Bool.false_or] at hfk
        refine ifF (by decide) ⟨n, b, j, i, rfl, by omega, c3, n, j, i, rfl, by omega, c3, cmul_bit (by omega) _, ?_⟩
        exact nx2 _ _ ⟨rfl, _, _, congrArg (fun t : Int => [some (Da.int (n : Nat)), some (.int (a : Nat)), some (.int (b : Nat)), some (.int t), some (.int (j : Nat)), some (.int (i : Nat)), _]) (ofB_step hfk)⟩
    · rintro δ M'' ⟨rfl, u5, u6, rfl⟩
      exact nx _ _ ⟨rfl, _, _, _, by rw [Nat.succ_mul]⟩
  · rintro δ M' ⟨rfl, u4, u5, u6, rfl⟩
    exact q

end K69
set_option Elab.async false
set_option linter.all false
set_option maxRecDepth 100000
set_option maxHeartbeats 4000000



namespace K69
open PySem PySem.Spec PyProof.Rows L2 U
theorem at2 {x y z : Da} {xs : List Da} : atI (x :: y :: z :: xs) 2 = some z := show atI (x :: y :: z :: xs) ((2 : Nat) : Int) = some z from atI_nat rfl
theorem at0 {x : Da} {xs : List Da} : atI (x :: xs) 0 = some x := show atI (x :: xs) ((0 : Nat) : Int) = some x from atI_nat rfl
theorem at1 {x y : Da} {xs : List Da} : atI (x :: y :: xs) 1 = some y := show atI (x :: y :: xs) ((1 : Nat) : Int) = some y from atI_nat rfl
def spNo : DSp := fun ds M Q _ => ∃ a : Nat, ds = [.int a] ∧ False
def foA (n : Nat) (xs : List (Da × Nat)) (v : Nat) : Nat := xs.foldl (fun acc p => aft n n acc p.2) v
def foO (xs : List (Da × Nat)) (v : Nat) : Nat := xs.foldl (fun acc p => acc ||| p.2) v
def RelIs (n r : Nat) : Nat → Da → Nat → Prop
  | 0, _, _ => False
  | d + 1, x, v => (∃ a b, a < n ∧ b < n ∧ x = deedF n a b ∧ v = 2 ^ (a * n + b)) ∨ (x = .tup [.str "do", .str "go", .tup (List.replicate n .non)] ∧ v = 0) ∨ (x = runB ∧ v = r) ∨
    (∃ xs : List (Da × Nat), x = .tup (.str "seq" :: xs.map (·.1)) ∧ xs.length ≤ 100 ∧ (∀ p ∈ xs, RelIs n r d p.1 p.2 ∧ p.2 < 2 ^ (n * n)) ∧ v = foA n xs (sam n n)) ∨
    (∃ xs : List (Da × Nat), x = .tup (.str "or" :: xs.map (·.1)) ∧ xs.length ≤ 100 ∧ (∀ p ∈ xs, RelIs n r d p.1 p.2 ∧ p.2 < 2 ^ (n * n)) ∧ v = foO xs 0)
def spReck (d : Nat) : DSp := fun ds M Q _ => ∃ (n r : Nat) (x : Da) (v : Nat), ds = [.int n, x, .dct [(.inr "b", .int (r : Nat))], .dct [], .dct []] ∧ (n = 1 ∨ n = 2) ∧ RelIs n r d x v ∧ Q (.int (v : Nat)) M
section
variable {P : Program} {w : World} {K : PySem.W.Frag} {mg : Str → Option Value} {base : Heap} {C_Procedure : Addr} {C_Space : Addr} {C_InvalidProgram : Addr} {C_InvalidMeaning : Addr} {C_InvalidOperation : Addr} {C_InvalidNumber : Addr} {C_TooMany : Addr}
theorem D__law_asked (A : Facts K C_Procedure C_Space C_InvalidProgram C_InvalidMeaning C_InvalidOperation C_InvalidNumber C_TooMany) (M : MgOf K mg) (Z : Zs mg) : KnD P w K mg base "_law_asked" 1 ["_law_book", "_law_asked_here", "_law_context"] spNo :=
  KnD.never A.d__law_asked M sc__law_asked (fun _ _ _ _ _ _ us hl => match us, hl with | [_, _, _], _ => rfl) fun ds M Q E ⟨_, _, h⟩ => h
theorem D__law_meanings (A : Facts K C_Procedure C_Space C_InvalidProgram C_InvalidMeaning C_InvalidOperation C_InvalidNumber C_TooMany) (M : MgOf K mg) (Z : Zs mg) : KnD P w K mg base "_law_meanings" 1 ["_law_modes", "_law_some", "_law_mine", "_law_book", "_law_asked_here"] spNo :=
  KnD.never A.d__law_meanings M sc__law_meanings (fun _ _ _ _ _ _ us hl => match us, hl with | [_, _, _, _, _], _ => rfl) fun ds M Q E ⟨_, _, h⟩ => h
end
theorem cut1r {α : Type} (a : α) (xs : List α) : U.cutD (a :: xs) (some 1) none = xs := by
  unfold U.cutD
  rw [show HT.sIx (a :: xs).length 0 (some 1) = 1 from by rw [show (1 : Int) = ((1 : Nat) : Int) from rfl, HT.sIx_nat]; simp]
  simp [HT.sIx]
def pE (d : Da) : Bool := match d with
  | .tup [_, .non] => false
  | _ => true
def fE (n : Nat) (d : Da) : Da := match d with
  | .tup [.int m, .int e] => .int ((2 ^ (m.toNat * n + e.toNat) : Nat) : Int)
  | _ => .non
theorem enum_row {n : Nat} (hn : n = 1 ∨ n = 2) {ts : List Da} (h : ts = List.replicate n .non ∨ ∃ a b, a < n ∧ b < n ∧ ts = tbF n a b) : ∀ d ∈ enumD 0 ts, ∃ i : Nat, i < n ∧ (d = .tup [.int (i : Int), .non] ∨ ∃ b : Nat, b < n ∧ d = .tup [.int (i : Int), .int (b : Int)]) := fun d hd => by
  obtain ⟨k, hk⟩ := List.getElem?_of_mem hd
  obtain ⟨y, hy, rfl⟩ := enumD_get hk
  rcases h with rfl | ⟨a, b, ha, hb, rfl⟩
  · have h1 := List.mem_of_getElem? hy
    have h2 := (List.getElem?_eq_some_iff.mp hy).1
    rw [List.length_replicate] at h2
    exact ⟨0 + k, by omega, .inl (by rw [List.eq_of_mem_replicate h1])⟩
  · unfold tbF at hy
    rw [List.getElem?_map] at hy
    have h2 : k < n := by
      apply Classical.byContradiction
      intro c
      rw [List.getElem?_eq_none (by rw [List.length_range]; omega)] at hy
      cases hy
    rw [List.getElem?_range h2] at hy
    have hy : (if k = a then Da.int (b : Int) else .non) = y := Option.some.inj hy
    refine ⟨0 + k, by omega, ?_⟩
    rw [← hy]
    by_cases c : k = a
    · exact .inr ⟨b, hb, by rw [if_pos c]⟩
    · exact .inl (by rw [if_neg c])
theorem enum_sum {n a b : Nat} (hn : n = 1 ∨ n = 2) (ha : a < n) (hb : b < n) : ((enumD 0 (tbF n a b)).filter pE).map (fE n) = [.int ((2 ^ (a * n + b) : Nat) : Int)] := by
  rcases hn with rfl | rfl
  · obtain rfl : a = 0 := by omega
    obtain rfl : b = 0 := by omega
    rfl
  · have h1 : a = 0 ∨ a = 1 := by omega
    have h2 : b = 0 ∨ b = 1 := by omega
    rcases h1 with rfl | rfl <;> rcases h2 with rfl | rfl <;> rfl
theorem enum_none {n : Nat} (hn : n = 1 ∨ n = 2) : ((enumD 0 (List.replicate n .non)).filter pE).map (fE n) = [] := by
  rcases hn with rfl | rfl <;> rfl
section
variable {P : Program} {w : World} {K : PySem.W.Frag} {mg : Str → Option Value} {base : Heap} {C_Procedure : Addr} {C_Space : Addr} {C_InvalidProgram : Addr} {C_InvalidMeaning : Addr} {C_InvalidOperation : Addr} {C_InvalidNumber : Addr} {C_TooMany : Addr}
theorem T__law_reckon (A : Facts K C_Procedure C_Space C_InvalidProgram C_InvalidMeaning C_InvalidOperation C_InvalidNumber C_TooMany) (M : MgOf K mg) (Z : Zs mg) {d : Nat} (D__law_asked : KnD P w K mg base "_law_asked" 1 ["_law_book", "_law_asked_here", "_law_context"] spNo) (D__law_meanings : KnD P w K mg base "_law_meanings" 1 ["_law_modes", "_law_some", "_law_mine", "_law_book", "_law_asked_here"] spNo) (D__law_after : KnD P w K mg base "_law_after" 2 ["_law_modes", "_law_one", "_law_other"] spAfterL) (D__law_either : KnD P w K mg base "_law_either" 2 ["_law_modes", "_law_one", "_law_other"] spEitherL) (D__law_bit : KnD P w K mg base "_law_bit" 1 ["_law_modes", "_law_mode", "_law_end"] spBitL) (D__law_reckon : KnD P w K mg base "_law_reckon" (d + 5) ["_law_modes", "_law_term", "_law_mine", "_law_book", "_law_asked_here"] (spReck d)) : KnD P w K mg base "_law_reckon" (d + 6) ["_law_modes", "_law_term", "_law_mine", "_law_book", "_law_asked_here"] (spReck (d + 1)) := by
  refine KnD.of A.d__law_reckon M sc__law_reckon (fun _ _ _ _ _ _ us hl => match us, hl with | [_, _, _, _, _], _ => rfl) (fun ds M Q E ⟨_, _, _, _, h, _⟩ => by rw [h]; rfl) (fun f cdv A0 outer s H E hr => ?_)
  have hu := U.hu_of hr
  have hu1 := U.hu1_of hr
  have nd := sc__law_reckon.nd
  refine ⟨_, (z_cons (z_if (d_tcm (o_deq hu) (d_ix (dn 1) d_int) d_str) (z_one (z_ret (d_b Z.sum b_sum (c_dsum rfl) (d_cons (d_lc (own := [("_law_mode", 8), ("_law_end", 9)]) (c := (.t [8, 9])) rfl nd (d_enum Z.enumerate (d_cons (d_ix (dn 1) d_int) d_nil)) (blkOk_by (own := [("_law_mode", 8), ("_law_end", 9)]) (N := N__law_reckon) (sc := defScope s__law_reckon) (by decide +kernel)) (fun _ _ _ _ _ => (pg_tup rfl (pgs_cons (gn 8 nd) (pgs_cons (gn 9 nd) pgs_nil)))) (fun _ _ _ _ _ => (d_ts1 (d_tcm o_dnotN (dn 9) d_non))) (fun _ _ _ _ _ => (d_call D__law_bit (hr.mono (by omega)) (d_cons (dn 0) (d_cons (dn 8) (d_cons (dn 9) d_nil)))))) d_nil)))) z_nil)
      (z_cons (z_if (d_tcm (o_deq hu) (d_ix (dn 1) d_int) d_str) (z_cons (z_set 5 nd (d_b Z.sum b_sum (c_dsum rfl) (d_cons (d_lc (own := [("_law_mode", 8)]) (c := (.n 8)) rfl nd (d_rg1 Z.range (d_cons (dn 0) d_nil)) (blkOk_by (own := [("_law_mode", 8)]) (N := N__law_reckon) (sc := defScope s__law_reckon) (by decide +kernel)) (fun _ _ _ _ _ => (gn 8 nd)) (fun _ _ _ _ _ => d_ts0) (fun _ _ _ _ _ => (d_call D__law_bit (hr.mono (by omega)) (d_cons (dn 0) (d_cons (dn 8) (d_cons (dn 8) d_nil)))))) d_nil)))
      (z_cons (z_for PassesOwn.never rfl (d_it (d_sl (dn 1) (d_psome d_int) d_pnone)) (t_n 6 nd) (z_one (z_set 5 nd (d_call D__law_after (hr.mono (by omega)) (d_cons (dn 0) (d_cons (dn 5) (d_cons (d_call D__law_reckon (hr.mono (by omega)) (d_cons (dn 0) (d_cons (dn 6) (d_cons (dn 2) (d_cons (dn 3) (d_cons (dn 4) d_nil)))))) d_nil)))))))
      (z_one (z_ret (dn 5))))) z_nil)
      (z_cons (z_if (d_tcm (o_deq hu) (d_ix (dn 1) d_int) d_str) (z_cons (z_set 5 nd d_int)
      (z_cons (z_for PassesOwn.never rfl (d_it (d_sl (dn 1) (d_psome d_int) d_pnone)) (t_n 6 nd) (z_one (z_set 5 nd (d_call D__law_either (hr.mono (by omega)) (d_cons (dn 0) (d_cons (dn 5) (d_cons (d_call D__law_reckon (hr.mono (by omega)) (d_cons (dn 0) (d_cons (dn 6) (d_cons (dn 2) (d_cons (dn 3) (d_cons (dn 4) d_nil)))))) d_nil)))))))
      (z_one (z_ret (dn 5))))) z_nil)
      (z_cons (z_if (d_tcm (o_deq hu) (d_ix (dn 1) d_int) d_str) (z_one (z_ret (d_dix hu (dn 2) (d_ix (dn 1) d_int)))) z_nil)
      (z_cons (z_if (d_tcm (o_deq hu) (d_ix (dn 1) d_int) d_str) (z_one (z_ret (d_call D__law_asked (hr.mono (by omega)) (d_cons (dn 3) (d_cons (dn 4) (d_cons (d_tup (d_cons (d_ix (dn 1) d_int) (d_cons (d_call D__law_meanings (hr.mono (by omega)) (d_cons (dn 0) (d_cons (d_sl (dn 1) (d_psome d_int) d_pnone) (d_cons (dn 2) (d_cons (dn 3) (d_cons (dn 4) d_nil)))))) d_nil))) d_nil)))))) z_nil)
      (z_cons (ps_imp (ps_par (i := 7) (j := 6) rfl nd rfl rfl (by decide) rfl rfl (d_cons (d_ix (dn 1) d_int) (d_cons (d_call D__law_reckon (hr.mono (by omega)) (d_cons (dn 0) (d_cons (d_ix (dn 1) d_int) (d_cons (dn 2) (d_cons (dn 3) (d_cons (dn 4) d_nil)))))) d_nil)) (by rfl)) fun _ _ _ h => li_par h)
      (z_cons (z_if (d_tcm (o_deq hu) (d_ix (dn 7) d_int) d_str) (z_one (z_ret (d_ix (d_dix hu (dn 2) (d_ix (dn 7) d_int)) (dn 6)))) z_nil)
      (z_one (z_ret (d_call D__law_asked (hr.mono (by omega)) (d_cons (dn 3) (d_cons (dn 4) (d_cons (d_tup (d_cons (d_ix (dn 7) d_int) (d_cons (d_op o_dadd (d_call D__law_meanings (hr.mono (by omega)) (d_cons (dn 0) (d_cons (d_sl (dn 7) (d_psome d_int) d_pnone) (d_cons (dn 2) (d_cons (dn 3) (d_cons (dn 4) d_nil)))))) (d_tup (d_cons (dn 6) d_nil))) d_nil))) d_nil))))))))))))), ?_⟩
  rintro ds M Q Ed ⟨n, r, x, v, rfl, hn, h, q⟩
  have hn2 : n ≤ 2 := by omega
  rcases h with ⟨a, b, ha, hb, hx, rfl⟩ | ⟨hx, rfl⟩ | ⟨hx, rfl⟩ | ⟨xs, hx, hl, hk, rfl⟩ | ⟨xs, hx, hl, hk, rfl⟩
  · obtain ⟨z, hz, hx⟩ : ∃ z : Str, z = "do" ∧ x = .tup [.str z, .str "go", .tup (tbF n a b)] := ⟨_, rfl, hx⟩
    subst hx
    refine ⟨_, at0, ?_⟩
    refine ifT (decide_eq_true hz) ?_
    refine ⟨_, at2, ?_⟩
    have hrow := enum_row hn (ts := tbF n a b) (.inr ⟨a, b, ha, hb, rfl⟩)
    have hlen : (enumD 0 (tbF n a b)).length ≤ 2 := by rw [enumD_length]; unfold tbF; rw [List.length_map, List.length_range]; exact hn2
    refine ⟨sz (by omega), ?_⟩
    refine lcD_pure pE (fE n) (fun d hd => ?_) (fun d hd hp Q q => ?_) ?_
    · obtain ⟨i, hi, rfl | ⟨b', hb', rfl⟩⟩ := hrow d hd
      · exact ⟨rfl, fun Q q => q⟩
      · exact ⟨rfl, fun Q q => q⟩
    · obtain ⟨i, hi, rfl | ⟨b', hb', rfl⟩⟩ := hrow d hd
      · cases hp
      · exact ⟨n, i, b', rfl, by omega, (cell9 hn hi hb').2.2, q⟩
    rw [enum_sum hn ha hb]
    refine ⟨[((2 ^ (a * n + b) : Nat) : Int)], rfl, ?_⟩
    have e : ([((2 ^ (a * n + b) : Nat) : Int)] : List Int).sum = ((2 ^ (a * n + b) : Nat) : Int) := by simp
    exact (show Q (.int ([((2 ^ (a * n + b) : Nat) : Int)] : List Int).sum) M from by rw [e]; exact q)
  · obtain ⟨z, hz, hx⟩ : ∃ z : Str, z = "do" ∧ x = .tup [.str z, .str "go", .tup (List.replicate n .non)] := ⟨_, rfl, hx⟩
    subst hx
    refine ⟨_, at0, ?_⟩
    refine ifT (decide_eq_true hz) ?_
    refine ⟨_, at2, ?_⟩
    have hrow := enum_row hn (ts := List.replicate n .non) (.inl rfl)
    have hlen : (enumD 0 (List.replicate n .non)).length ≤ 2 := by rw [enumD_length]; rw [List.length_replicate]; exact hn2
    refine ⟨sz (by omega), ?_⟩
    refine lcD_pure pE (fE n) (fun d hd => ?_) (fun d hd hp Q q => ?_) ?_
    · obtain ⟨i, hi, rfl | ⟨b', hb', rfl⟩⟩ := hrow d hd
      · exact ⟨rfl, fun Q q => q⟩
      · exact ⟨rfl, fun Q q => q⟩
    · obtain ⟨i, hi, rfl | ⟨b', hb', rfl⟩⟩ := hrow d hd
      · cases hp
      · exact ⟨n, i, b', rfl, by omega, (cell9 hn hi hb').2.2, q⟩
    rw [enum_none hn]
    exact ⟨[], rfl, q⟩
  · obtain ⟨z, hz, hx⟩ : ∃ z : Str, z = "run" ∧ x = .tup [.str z, .str "b"] := ⟨_, rfl, hx⟩
    subst hx
    refine ⟨_, at0, ?_⟩
    refine ifF (by rw [hz]; decide) ?_
    refine ⟨_, at0, ?_⟩
    refine ifF (by rw [hz]; decide) ?_
    refine ⟨_, at0, ?_⟩
    refine ifF (by rw [hz]; decide) ?_
    refine ⟨_, at0, ?_⟩
    refine ifT (decide_eq_true hz) ?_
    exact ⟨.str "b", at1, .inr "b", .int (v : Nat), rfl, rfl, q⟩
  · obtain ⟨z, hz, hx⟩ : ∃ z : Str, z = "seq" ∧ x = .tup (.str z :: xs.map (·.1)) := ⟨_, rfl, hx⟩
    subst hx
    refine ⟨_, at0, ?_⟩
    refine ifF (by rw [hz]; decide) ?_
    refine ⟨_, at0, ?_⟩
    refine ifT (decide_eq_true hz) ?_
    refine ⟨rok (by omega) (by omega), ?_⟩
    show Sz (rngD 0 n).length ∧ lcD _ _ _ _ (rngD 0 n) _ _
    rw [rngD0]
    refine ⟨sz (by rw [List.length_map, List.length_range]; omega), lcD_all (fun i : Nat => Da.int ((2 ^ (i * n + i) : Nat) : Int)) (fun _ _ => trivial) (fun i hi Q q => ?_) ?_⟩
    · have hi := List.mem_range.mp hi
      exact ⟨n, i, i, rfl, by omega, (cell9 hn hi hi).2.2, q⟩
    refine ⟨(List.range n).map fun i : Nat => ((2 ^ (i * n + i) : Nat) : Int), asInts_fun _ _, ?_⟩
    have e2 : ((List.range n).map fun i : Nat => ((2 ^ (i * n + i) : Nat) : Int)).sum = ((sam n n : Nat) : Int) := by rcases hn with rfl | rfl <;> decide +kernel
    rw [e2]
    show forD _ _ _ (U.cutD (Da.str z :: xs.map (·.1)) (some 1) none) _ _
    rw [cut1r]
    refine forD_map (f := fun p : Da × Nat => p.1) (fun l δ M' => M' = M ∧ (∀ p ∈ l, p ∈ xs) ∧ ∃ acc u6 u7 u8 u9, δ = [some (.int (n : Nat)), some (.tup (.str z :: xs.map (·.1))), some (.dct [(.inr "b", .int (r : Nat))]), some (.dct []), some (.dct []), some (.int (acc : Nat)), u6, u7, u8, u9] ∧ foA n l acc = foA n xs (sam n n)) ?_ ?_ ⟨rfl, fun _ h => h, sam n n, _, _, _, _, rfl, rfl⟩
    · rintro p l δ M' ⟨rfl, hin, acc, u6, u7, u8, u9, rfl, hacc⟩ nx
      obtain ⟨h1, h2⟩ := hk p (hin p List.mem_cons_self)
      exact ⟨n, r, p.1, p.2, rfl, hn, h1, n, acc, p.2, rfl, hn, nx _ _ ⟨rfl, fun p' h => hin p' (List.mem_cons_of_mem _ h), aft n n acc p.2, _, _, _, _, rfl, hacc⟩⟩
    · rintro δ M' ⟨rfl, hin, acc, u6, u7, u8, u9, rfl, hacc⟩
      have e : acc = foA n xs (sam n n) := hacc
      rw [e]; exact q
  · obtain ⟨z, hz, hx⟩ : ∃ z : Str, z = "or" ∧ x = .tup (.str z :: xs.map (·.1)) := ⟨_, rfl, hx⟩
    subst hx
    refine ⟨_, at0, ?_⟩
    refine ifF (by rw [hz]; decide) ?_
    refine ⟨_, at0, ?_⟩
    refine ifF (by rw [hz]; decide) ?_
    refine ⟨_, at0, ?_⟩
    refine ifT (decide_eq_true hz) ?_
    show forD _ _ _ (U.cutD (Da.str z :: xs.map (·.1)) (some 1) none) _ _
    rw [cut1r]
    refine forD_map (f := fun p : Da × Nat => p.1) (fun l δ M' => M' = M ∧ (∀ p ∈ l, p ∈ xs) ∧ ∃ acc u6 u7 u8 u9, δ = [some (.int (n : Nat)), some (.tup (.str z :: xs.map (·.1))), some (.dct [(.inr "b", .int (r : Nat))]), some (.dct []), some (.dct []), some (.int (acc : Nat)), u6, u7, u8, u9] ∧ acc < 2 ^ (n * n) ∧ foO l acc = foO xs 0) ?_ ?_ ⟨rfl, fun _ h => h, 0, _, _, _, _, rfl, Nat.pos_of_ne_zero (by simp), rfl⟩
    · rintro p l δ M' ⟨rfl, hin, acc, u6, u7, u8, u9, rfl, hacc⟩ nx
      obtain ⟨h1, h2⟩ := hk p (hin p List.mem_cons_self)
      exact ⟨n, r, p.1, p.2, rfl, hn, h1, n, acc, p.2, rfl, hn, hacc.1, h2, nx _ _ ⟨rfl, fun p' h => hin p' (List.mem_cons_of_mem _ h), acc ||| p.2, _, _, _, _, rfl, or_bits hacc.1 h2, hacc.2⟩⟩
    · rintro δ M' ⟨rfl, hin, acc, u6, u7, u8, u9, rfl, hacc⟩
      have e : acc = foO xs 0 := hacc.2
      rw [e]; exact q
theorem R__law_reckon (A : Facts K C_Procedure C_Space C_InvalidProgram C_InvalidMeaning C_InvalidOperation C_InvalidNumber C_TooMany) (M : MgOf K mg) (Z : Zs mg) (D__law_asked : KnD P w K mg base "_law_asked" 1 ["_law_book", "_law_asked_here", "_law_context"] spNo) (D__law_meanings : KnD P w K mg base "_law_meanings" 1 ["_law_modes", "_law_some", "_law_mine", "_law_book", "_law_asked_here"] spNo) (D__law_after : KnD P w K mg base "_law_after" 2 ["_law_modes", "_law_one", "_law_other"] spAfterL) (D__law_either : KnD P w K mg base "_law_either" 2 ["_law_modes", "_law_one", "_law_other"] spEitherL) (D__law_bit : KnD P w K mg base "_law_bit" 1 ["_law_modes", "_law_mode", "_law_end"] spBitL) : ∀ d, KnD P w K mg base "_law_reckon" (d + 5) ["_law_modes", "_law_term", "_law_mine", "_law_book", "_law_asked_here"] (spReck d)
  | 0 => KnD.never A.d__law_reckon M sc__law_reckon (fun _ _ _ _ _ _ us hl => match us, hl with | [_, _, _, _, _], _ => rfl) fun ds M Q E ⟨_, _, _, _, _, _, h, _⟩ => h
  | d + 1 => T__law_reckon A M Z D__law_asked D__law_meanings D__law_after D__law_either D__law_bit (R__law_reckon A M Z D__law_asked D__law_meanings D__law_after D__law_either D__law_bit d)
theorem D__law_reckon (A : Facts K C_Procedure C_Space C_InvalidProgram C_InvalidMeaning C_InvalidOperation C_InvalidNumber C_TooMany) (M : MgOf K mg) (Z : Zs mg) (D__law_asked : KnD P w K mg base "_law_asked" 1 ["_law_book", "_law_asked_here", "_law_context"] spNo) (D__law_meanings : KnD P w K mg base "_law_meanings" 1 ["_law_modes", "_law_some", "_law_mine", "_law_book", "_law_asked_here"] spNo) (D__law_after : KnD P w K mg base "_law_after" 2 ["_law_modes", "_law_one", "_law_other"] spAfterL) (D__law_either : KnD P w K mg base "_law_either" 2 ["_law_modes", "_law_one", "_law_other"] spEitherL) (D__law_bit : KnD P w K mg base "_law_bit" 1 ["_law_modes", "_law_mode", "_law_end"] spBitL) : KnD P w K mg base "_law_reckon" 8 ["_law_modes", "_law_term", "_law_mine", "_law_book", "_law_asked_here"] (spReck 3) := R__law_reckon A M Z D__law_asked D__law_meanings D__law_after D__law_either D__law_bit 3
end

end K69
set_option Elab.async false
set_option linter.all false
set_option maxRecDepth 100000
set_option maxHeartbeats 4000000



namespace K69
open PySem PySem.Spec PyProof.Rows L2 U
def seqP (n r e : Nat) : Nat → List Nat → List (Da × Nat)
  | h, [] => [(deedF n h e, 2 ^ (h * n + e))]
  | h, k :: ks => (deedF n h (k / n), 2 ^ (h * n + k / n)) :: (runB, r) :: seqP n r e (k % n) ks
theorem seqP_fst (n r e : Nat) : ∀ (ks : List Nat) (h : Nat), (seqP n r e h ks).map (·.1) = seqL n e h ks
  | [], _ => rfl
  | k :: ks, h => by
    show _ :: _ :: (seqP n r e (k % n) ks).map (·.1) = _ :: _ :: seqL n e (k % n) ks
    rw [seqP_fst]
theorem pow_bit {i k : Nat} : (2 ^ i).testBit k = decide (i = k) := Nat.testBit_two_pow
theorem cell_inj {n a b c d : Nat} (hb : b < n) (hd : d < n) (h : a * n + b = c * n + d) : a = c ∧ b = d := by
  have h1 := congrArg (· / n) h
  have h2 := congrArg (· % n) h
  simp only [cell_div hb, cell_div hd, cell_mod hb, cell_mod hd] at h1 h2
  exact ⟨h1, h2⟩
theorem aft_deed {n X h e a c : Nat} (hh : h < n) (he : e < n) (ha : a < n) (hc : c < n) : (aft n n X (2 ^ (h * n + e))).testBit (a * n + c) = true ↔ X.testBit (a * n + h) = true ∧ c = e := by
  rw [aft_bit ha hc, led_iff]
  constructor
  · rintro (⟨h1, _⟩ | ⟨v, hv, h1, h2⟩)
    · omega
    · rw [pow_bit, decide_eq_true_eq] at h2
      obtain ⟨rfl, rfl⟩ := cell_inj he hc h2
      exact ⟨h1, rfl⟩
  · rintro ⟨h1, rfl⟩
    exact .inr ⟨h, hh, h1, by rw [pow_bit, decide_eq_true_eq]⟩
theorem chain {n r e : Nat} (he : e < n) : ∀ (ks : List Nat) (h X : Nat), h < n → (∀ k ∈ ks, k < n * n) → ∀ a c, a < n → c < n → ((foA n (seqP n r e h ks) X).testBit (a * n + c) = true ↔ X.testBit (a * n + h) = true ∧ c = e ∧ ∀ k ∈ ks, r.testBit k = true)
  | [], h, X, hh, _, a, c, ha, hc => by
    show (aft n n X (2 ^ (h * n + e))).testBit (a * n + c) = true ↔ _
    rw [aft_deed hh he ha hc]
    exact ⟨fun ⟨h1, h2⟩ => ⟨h1, h2, fun _ h => nomatch h⟩, fun ⟨h1, h2, _⟩ => ⟨h1, h2⟩⟩
  | k :: ks, h, X, hh, hk, a, c, ha, hc => by
    have hkn := hk k List.mem_cons_self
    have k1 : k / n < n := Nat.div_lt_of_lt_mul hkn
    have k2 : k % n < n := Nat.mod_lt _ (by omega)
    show (foA n (seqP n r e (k % n) ks) (aft n n (aft n n X (2 ^ (h * n + k / n))) r)).testBit (a * n + c) = true ↔ _
    rw [chain he ks _ _ k2 (fun k' h => hk k' (List.mem_cons_of_mem _ h)) a c ha hc, aft_bit ha k2, led_iff]
    constructor
    · rintro ⟨h1 | ⟨v, hv, h1, h2⟩, h3, h4⟩
      · omega
      · rw [aft_deed hh k1 ha hv] at h1
        obtain ⟨h5, rfl⟩ := h1
        rw [div_mod] at h2
        exact ⟨h5, h3, fun k' h => (List.mem_cons.mp h).elim (fun e => e ▸ h2) (h4 k')⟩
    · rintro ⟨h1, h2, h3⟩
      refine ⟨.inr ⟨k / n, k1, ?_, ?_⟩, h2, fun k' h => h3 k' (List.mem_cons_of_mem _ h)⟩
      · rw [aft_deed hh k1 ha k1]; exact ⟨h1, rfl⟩
      · rw [div_mod]; exact h3 k List.mem_cons_self
theorem foA_lt {n r e : Nat} : ∀ (ks : List Nat) (h X : Nat), foA n (seqP n r e h ks) X < 2 ^ (n * n)
  | [], h, X => aft_lt
  | k :: ks, h, X => foA_lt ks _ _
def seqV (n r m e l : Nat) : Nat := foA n (seqP n r e m (cel l)) (sam n n)
theorem within {n l r : Nat} (hN : n * n ≤ 12) (hl : l < 2 ^ (n * n)) : (∀ k ∈ cel l, r.testBit k = true) ↔ l ||| r = r := by
  constructor
  · intro h
    apply Nat.eq_of_testBit_eq
    intro k
    rw [Nat.testBit_or]
    cases c : l.testBit k with
    | false => rw [Bool.false_or]
    | true => rw [h k (cel_mem.mpr ⟨by have := bit_lt hl c; omega, c⟩)]; rfl
  · intro h k hk
    rw [← h, Nat.testBit_or, (cel_mem.mp hk).2]; rfl
theorem seqV_bit {n r m e l a c : Nat} (hN : n * n ≤ 12) (hm : m < n) (he : e < n) (hl : l < 2 ^ (n * n)) (ha : a < n) (hc : c < n) : (seqV n r m e l).testBit (a * n + c) = true ↔ a = m ∧ c = e ∧ l ||| r = r := by
  unfold seqV
  rw [chain he _ _ _ hm (fun k hk => bit_lt hl (cel_mem.mp hk).2) a c ha hc, sam_bit ha hm, within hN hl, beq_iff_eq]
def orP (n r : Nat) (ts : List Nat) : List (Da × Nat) := (List.range n).flatMap fun m => (List.range n).flatMap fun e => (lst1 (hav n ts m e)).map fun l => (seqF n m e l, seqV n r m e l)
theorem orP_fst (n r : Nat) (ts : List Nat) : (orP n r ts).map (·.1) = termsF n ts := by
  unfold orP termsF
  rw [List.map_flatMap]
  congr 1
  funext m
  rw [List.map_flatMap]
  congr 1
  funext e
  rw [List.map_map]; rfl
theorem orP_mem {n r : Nat} {ts : List Nat} {p : Da × Nat} : p ∈ orP n r ts ↔ ∃ m e l, m < n ∧ e < n ∧ l ∈ lst1 (hav n ts m e) ∧ p = (seqF n m e l, seqV n r m e l) := by
  unfold orP
  simp only [List.mem_flatMap, List.mem_map, List.mem_range]
  constructor
  · rintro ⟨m, hm, e, he, l, hl, rfl⟩; exact ⟨m, e, l, hm, he, hl, rfl⟩
  · rintro ⟨m, e, l, hm, he, hl, rfl⟩; exact ⟨m, hm, e, he, l, hl, rfl⟩
theorem foO_bit {k : Nat} : ∀ (xs : List (Da × Nat)) (v : Nat), (foO xs v).testBit k = true ↔ v.testBit k = true ∨ ∃ p ∈ xs, p.2.testBit k = true
  | [], v => by
    show v.testBit k = true ↔ _
    simp
  | p :: xs, v => by
    show (foO xs (v ||| p.2)).testBit k = true ↔ _
    rw [foO_bit xs, Nat.testBit_or, Bool.or_eq_true]
    simp only [List.mem_cons, exists_eq_or_imp, or_assoc]
theorem foO_lt {N : Nat} : ∀ (xs : List (Da × Nat)) (v : Nat), v < 2 ^ N → (∀ p ∈ xs, p.2 < 2 ^ N) → foO xs v < 2 ^ N
  | [], _, h, _ => h
  | p :: xs, v, h, hx => foO_lt xs _ (or_bits h (hx p List.mem_cons_self)) fun q hq => hx q (List.mem_cons_of_mem _ hq)
theorem least_in {l : List Nat} : ∀ (N r : Nat), r ≤ N → r ∈ l → ∃ a ∈ lst1 l, a ||| r = r
  | 0, r, hN, hr => by
    obtain rfl : r = 0 := by omega
    refine ⟨0, List.mem_filter.mpr ⟨hr, ?_⟩, rfl⟩
    rw [Bool.not_eq_true', List.any_eq_false]
    intro b _ h
    simp only [Bool.and_eq_true, decide_eq_true_eq, Nat.or_zero] at h
    exact h.1 h.2
  | N + 1, r, hN, hr => by
    by_cases c : ∃ b ∈ l, b ≠ r ∧ b ||| r = r
    · obtain ⟨b, hb, h1, h2⟩ := c
      have : b ≤ r := by rw [← h2]; exact Nat.left_le_or
      obtain ⟨a, ha, h3⟩ := least_in N b (by omega) hb
      exact ⟨a, ha, by rw [← h2, ← Nat.or_assoc, h3]⟩
    · refine ⟨r, List.mem_filter.mpr ⟨hr, ?_⟩, Nat.or_self r⟩
      rw [Bool.not_eq_true', List.any_eq_false]
      intro b hb h
      simp only [Bool.and_eq_true, decide_eq_true_eq] at h
      exact c ⟨b, hb, h.1, h.2⟩
theorem made_rel {n r : Nat} {ts : List Nat} (hn : n = 1 ∨ n = 2) (hT : OkT (n * n) ts) (hm : monoB (n * n) ts = true) (hr : r < 2 ^ (n * n)) : foO (orP n r ts) 0 = ts.getD r 0 := by
  have hN : n * n ≤ 12 := by rcases hn with rfl | rfl <;> decide
  have n1 : 0 < n := by omega
  have hlt : ∀ m e, ∀ l ∈ lst1 (hav n ts m e), l < 2 ^ (n * n) ∧ (ts.getD l 0).testBit (m * n + e) = true := fun m e l hl => by
    obtain ⟨h1, h2⟩ := List.mem_filter.mp (List.mem_filter.mp hl).1
    exact ⟨List.mem_range.mp h1, h2⟩
  have hA := monoA_iff.mp (by rw [← mono_eq]; exact hm)
  refine cells_eq n1 (foO_lt _ _ (Nat.pos_of_ne_zero (by simp)) fun p hp => ?_) (tab_lt hT hr) fun m e hm he => ?_
  · obtain ⟨m, e, l, _, _, _, rfl⟩ := orP_mem.mp hp
    exact foA_lt _ _ _
  · rw [foO_bit]
    constructor
    · rintro (h | ⟨p, hp, h⟩)
      · simp at h
      · obtain ⟨m', e', l, hm', he', hl, rfl⟩ := orP_mem.mp hp
        obtain ⟨hl1, hl2⟩ := hlt m' e' l hl
        obtain ⟨rfl, rfl, h3⟩ := (seqV_bit hN hm' he' hl1 hm he).mp h
        have := hA l hl1 r hr h3
        rw [← this, Nat.testBit_or, hl2]; rfl
    · intro h
      have hrh : r ∈ hav n ts m e := List.mem_filter.mpr ⟨List.mem_range.mpr hr, h⟩
      obtain ⟨l, hl, h3⟩ := least_in r r (Nat.le_refl _) hrh
      exact .inr ⟨_, orP_mem.mpr ⟨m, e, l, hm, he, hl, rfl⟩, (seqV_bit hN hm he (hlt m e l hl).1 hm he).mpr ⟨rfl, rfl, h3⟩⟩
theorem small_rel {n r : Nat} (hn : n = 1 ∨ n = 2) (hr : r < 2 ^ (n * n)) (d : Nat) {e : Nat} (he : e < n) : ∀ (ks : List Nat) (h : Nat), h < n → (∀ k ∈ ks, k < n * n) → ∀ p ∈ seqP n r e h ks, RelIs n r (d + 1) p.1 p.2 ∧ p.2 < 2 ^ (n * n)
  | [], h, hh, _, p, hp => by
    rw [List.mem_singleton.mp (show p ∈ [(deedF n h e, 2 ^ (h * n + e))] from hp)]
    exact ⟨.inl ⟨h, e, hh, he, rfl, rfl⟩, Nat.pow_lt_pow_right (by decide) (cell9 hn hh he).1⟩
  | k :: ks, h, hh, hk, p, hp => by
    have hkn := hk k List.mem_cons_self
    have k1 : k / n < n := Nat.div_lt_of_lt_mul hkn
    have k2 : k % n < n := Nat.mod_lt _ (by omega)
    have hp : p ∈ (deedF n h (k / n), 2 ^ (h * n + k / n)) :: (runB, r) :: seqP n r e (k % n) ks := hp
    rcases List.mem_cons.mp hp with rfl | hp
    · exact ⟨.inl ⟨h, k / n, hh, k1, rfl, rfl⟩, Nat.pow_lt_pow_right (by decide) (cell9 hn hh k1).1⟩
    rcases List.mem_cons.mp hp with rfl | hp
    · exact ⟨.inr (.inr (.inl ⟨rfl, rfl⟩)), hr⟩
    · exact small_rel hn hr d he ks _ k2 (fun k' h => hk k' (List.mem_cons_of_mem _ h)) p hp
theorem seq_rel {n r m e l : Nat} (hn : n = 1 ∨ n = 2) (hr : r < 2 ^ (n * n)) (hm : m < n) (he : e < n) (hl : l < 2 ^ (n * n)) (d : Nat) : RelIs n r (d + 2) (seqF n m e l) (seqV n r m e l) := by
  refine .inr (.inr (.inr (.inl ⟨seqP n r e m (cel l), ?_, ?_, small_rel hn hr d he _ _ hm fun k hk => bit_lt hl (cel_mem.mp hk).2, rfl⟩)))
  · rw [seqP_fst]; rfl
  · have := congrArg List.length (seqP_fst n r e (cel l) m)
    rw [List.length_map, seqL_len] at this
    have := cel_len l
    omega
theorem body_rel {n r : Nat} {ts : List Nat} (hn : n = 1 ∨ n = 2) (hT : OkT (n * n) ts) (hm : monoB (n * n) ts = true) (hr : r < 2 ^ (n * n)) (hl : (termsF n ts).length ≤ 100) : RelIs n r 3 (eithF n (termsF n ts)) (ts.getD r 0) := by
  have hv := made_rel hn hT hm hr
  cases e : termsF n ts with
  | nil =>
    have h0 : orP n r ts = [] := by
      have := orP_fst n r ts
      rw [e] at this
      exact List.map_eq_nil_iff.mp this
    rw [h0] at hv
    have hv : 0 = ts.getD r 0 := hv
    exact .inr (.inl ⟨rfl, hv.symm⟩)
  | cons a l =>
    refine .inr (.inr (.inr (.inr ⟨orP n r ts, ?_, ?_, fun p hp => ?_, hv.symm⟩)))
    · rw [orP_fst, e]; rfl
    · have := congrArg List.length (orP_fst n r ts)
      rw [List.length_map] at this
      omega
    · obtain ⟨m, e', l', hm', he', hl', rfl⟩ := orP_mem.mp hp
      have h1 := List.mem_range.mp (List.mem_filter.mp (List.mem_filter.mp hl').1).1
      exact ⟨seq_rel hn hr hm' he' h1 0, foA_lt _ _ _⟩

end K69
set_option Elab.async false
set_option linter.all false
set_option maxRecDepth 100000
set_option maxHeartbeats 4000000



namespace K69
open PySem PySem.Spec PyProof.Rows L2 U
def PT : Nat → Da → Prop
  | 0, _ => False
  | d + 1, x => (∃ xs, x = .tup (.str "do" :: .str "go" :: xs)) ∨ (∃ xs, x = .tup (.str "run" :: xs)) ∨ ∃ (z : Str) (xs : List Da), (z = "seq" ∨ z = "or") ∧ x = .tup (.str z :: xs) ∧ xs.length ≤ 5000 ∧ ∀ y ∈ xs, PT d y
def HdOk (y : Da) : Prop := (∃ xs, y = .tup (.str "do" :: .str "go" :: xs)) ∨ ∃ (z : Str) (xs : List Da), (z = "run" ∨ z = "seq" ∨ z = "or") ∧ y = .tup (.str z :: xs)
theorem kidsL_so {z : Str} (h : z = "seq" ∨ z = "or") (xs : List Da) : kidsL z xs = xs := by rcases h with rfl | rfl <;> rfl
theorem PT.hds : ∀ {d : Nat} {x : Da}, PT d x → ∀ y ∈ allF d x, HdOk y
  | 0, _, h, _, _ => h.elim
  | d + 1, x, h, y, hy => by
    rcases h with ⟨xs, rfl⟩ | ⟨xs, rfl⟩ | ⟨z, xs, hz, rfl, _, hk⟩
    · rw [List.mem_singleton.mp (show y ∈ [Da.tup (.str "do" :: .str "go" :: xs)] from hy)]
      exact .inl ⟨xs, rfl⟩
    · rw [List.mem_singleton.mp (show y ∈ [Da.tup (.str "run" :: xs)] from hy)]
      exact .inr ⟨_, xs, .inl rfl, rfl⟩
    · have hy : y ∈ Da.tup (.str z :: xs) :: (kidsL z xs).flatMap (allF d) := hy
      rw [kidsL_so hz] at hy
      rcases List.mem_cons.mp hy with rfl | hy
      · exact .inr ⟨z, xs, hz.elim (fun e => .inr (.inl e)) (fun e => .inr (.inr e)), rfl⟩
      · obtain ⟨w, hw, hy⟩ := List.mem_flatMap.mp hy
        exact PT.hds (hk w hw) y hy
def spLPieces : DSp := fun ds M Q _ => ∃ x n, ds = [x] ∧ PT n x ∧ (allF n x).length ≤ 1000 ∧ ∀ R, R.Perm (allF n x) → Q (.lst R) M
theorem D__law_pieces {P : Program} {w : World} {K : PySem.W.Frag} {mg : Str → Option Value} {base : Heap} {C_Procedure : Addr} {C_Space : Addr} {C_InvalidProgram : Addr} {C_InvalidMeaning : Addr} {C_InvalidOperation : Addr} {C_InvalidNumber : Addr} {C_TooMany : Addr} (A : Facts K C_Procedure C_Space C_InvalidProgram C_InvalidMeaning C_InvalidOperation C_InvalidNumber C_TooMany) (M : MgOf K mg) (Z : Zs mg)  : KnD P w K mg base "_law_pieces" 1 ["_law_term"] spLPieces := by
  refine KnD.of A.d__law_pieces M sc__law_pieces (fun _ _ _ _ _ _ us hl => match us, hl with | [_], _ => rfl) (fun ds M Q E ⟨_, _, h, _⟩ => by rw [h]; rfl) (fun f cdv A0 outer s H E hr => ?_)
  have hu := U.hu_of hr
  have hu1 := U.hu1_of hr
  have nd := sc__law_pieces.nd
  refine ⟨_, (z_cons (ps_imp (ps_par (i := 1) (j := 2) rfl nd rfl rfl (by decide) rfl rfl (d_cons (d_lstM (d_cons (dn 0) d_nil)) (d_cons d_int d_nil)) (by rfl)) fun _ _ _ h => li_par h)
      (z_cons (z_while PassesOwn.never (d_tcm o_dlt (dn 2) (d_b Z.len b_len c_dlen (d_cons (dn 1) d_nil))) (z_cons (z_set 3 nd (d_ix (dn 1) (dn 2)))
      (z_cons (z_if (d_tcm (o_din hu1) (d_ix (dn 3) d_int) (d_lst (d_cons d_str (d_cons d_str d_nil)))) (z_one (z_expr (d_extend (dn 1) (d_cons (d_t Z.list b_list c_dlist (d_cons (d_sl (dn 3) (d_psome d_int) d_pnone) d_nil)) d_nil)))) (z_one (z_if (d_tcm (o_din hu1) (d_ix (dn 3) d_int) (d_lst (d_cons d_str (d_cons d_str (d_cons d_str d_nil))))) (z_one (z_expr (d_extend (dn 1) (d_cons (d_t Z.list b_list c_dlist (d_cons (d_sl (dn 3) (d_psome d_int) d_pnone) d_nil)) d_nil)))) z_nil)))
      (z_one (z_set 2 nd (d_op o_dadd (dn 2) d_int))))))
      (z_one (z_retF (d_stl (dn 1)))))), ?_⟩
  rintro ds M Q Ed ⟨x, n, rfl, ok, hl, q⟩
  refine ⟨rfl, fun p hp => ?_⟩
  refine wh_ind (fun k δ M' => ∃ (done : List Da) (todo : List (Nat × Da)), k = (allT todo).length ∧ (∃ u3, δ = [some x, some (.ref p), some (.int done.length), u3]) ∧ M' = mput M p (.lst (done ++ todo.map (·.2))) ∧ (∀ t ∈ todo, PT t.1 t.2) ∧ (done ++ allT todo).Perm (allF n x)) ?_ (n := (allF n x).length) ⟨[], [(n, x)], by simp [allT], ⟨_, rfl⟩, rfl, by simp; exact ok, by simp [allT]⟩
  rintro k δ M' NX ⟨done, todo, rfl, ⟨u3, rfl⟩, rfl, hto, hpm⟩ next
  refine ⟨_, mput_same, ?_⟩
  cases todo with
  | nil =>
    refine ifF (by simp) ?_
    refine ⟨_, mput_same, M, by rw [mdel_put hp]; exact fun _ _ h => h, ?_⟩
    exact q _ (by simpa [allT] using hpm)
  | cons t rest =>
    refine ifT (decide_eq_true (by simp; omega)) ?_
    obtain ⟨t1, t2⟩ := t
    have ht : PT t1 t2 := hto _ List.mem_cons_self
    have hr : ∀ t ∈ rest, PT t.1 t.2 := fun t h => hto t (List.mem_cons_of_mem _ h)
    cases t1 with
    | zero => exact ht.elim
    | succ m =>
    have leaf : allF (m + 1) t2 = [t2] → NX [some x, some (.ref p), some (.int ((done.length : Int) + 1)), some t2] (mput M p (.lst (done ++ (((m + 1, t2) :: rest) : List (Nat × Da)).map (·.2)))) := fun e => by
      refine next _ _ (allT rest).length ?_ ⟨done ++ [t2], rest, rfl, ⟨some t2, by rw [List.length_append]; rfl⟩, by rw [List.append_assoc]; rfl, hr, ?_⟩
      · show _ < (allF (m + 1) t2 ++ allT rest).length
        rw [e, List.length_append]; show _ < 0 + 1 + _; omega
      · rw [List.append_assoc]
        have : [t2] ++ allT rest = allT ((m + 1, t2) :: rest) := by show _ = allF (m + 1) t2 ++ allT rest; rw [e]
        rw [this]; exact hpm
    have hlen := hpm.length_eq
    refine ⟨_, t2, mput_same, atI_nat (by simp), ?_⟩
    rcases ht with ⟨xs, rfl⟩ | ⟨xs, rfl⟩ | ⟨z, xs, hz, rfl, hxl, hk⟩
    · refine ⟨_, at0, sz (by decide), rfl, ?_⟩
      refine ifF (show ¬ inD (.str "do") [.str "call", .str "with"] = true by decide +kernel) ?_
      refine ⟨_, at0, sz (by decide), rfl, ?_⟩
      refine ifF (show ¬ inD (.str "do") [.str "seq", .str "or", .str "wrap"] = true by decide +kernel) ?_
      exact leaf rfl
    · refine ⟨_, at0, sz (by decide), rfl, ?_⟩
      refine ifF (show ¬ inD (.str "run") [.str "call", .str "with"] = true by decide +kernel) ?_
      refine ⟨_, at0, sz (by decide), rfl, ?_⟩
      refine ifF (show ¬ inD (.str "run") [.str "seq", .str "or", .str "wrap"] = true by decide +kernel) ?_
      exact leaf rfl
    · have go : flat2 (.str z) [.str "call", .str "with"] = true ∧ ¬ inD (.str z) [.str "call", .str "with"] = true ∧ flat2 (.str z) [.str "seq", .str "or", .str "wrap"] = true ∧ inD (.str z) [.str "seq", .str "or", .str "wrap"] = true := by
        rcases hz with rfl | rfl <;> decide +kernel
      obtain ⟨f1, f2, f3, f4⟩ := go
      refine ⟨_, at0, sz (by decide), by rw [f1]; rfl, ?_⟩
      refine ifF f2 ?_
      refine ⟨_, at0, sz (by decide), by rw [f3]; rfl, ?_⟩
      refine ifT f4 ?_
      have hcons : allT ((m + 1, .tup (.str z :: xs)) :: rest) = (.tup (.str z :: xs) :: xs.flatMap (allF m)) ++ allT rest := by
        show (_ :: (kidsL z xs).flatMap (allF m)) ++ allT rest = _
        rw [kidsL_so hz]
      have happ : allT (rest ++ xs.map fun y => (m, y)) = allT rest ++ xs.flatMap (allF m) := by
        unfold allT
        rw [List.flatMap_append, List.flatMap_map]
      have hrl := allT_len rest
      have hxl2 := allT_len (xs.map fun y => (m, y))
      refine ⟨⟨p, _, rfl, mput_same⟩, ?_⟩
      have hc : U.cutD (Da.str z :: xs) (some 1) none = xs := cut1r _ _
      refine ⟨_, mput_same, ?_, ?_⟩
      · show Sz (_ + (U.cutD (Da.str z :: xs) (some 1) none).length)
        rw [hc]
        refine sz ?_
        rw [hcons] at hlen
        rw [List.length_map] at hxl2
        have hfm : (allT (xs.map fun y => (m, y))).length = (xs.flatMap (allF m)).length := by unfold allT; rw [List.flatMap_map]
        simp only [List.length_append, List.length_cons, List.length_map, List.map_cons] at hlen hfm hxl2 ⊢
        omega
      · rw [mput_put]
        show NX _ (mput M p (.lst (_ ++ U.cutD (Da.str z :: xs) (some 1) none)))
        rw [hc]
        refine next _ _ (allT (rest ++ xs.map fun y => (m, y))).length ?_ ⟨done ++ [.tup (.str z :: xs)], rest ++ xs.map fun y => (m, y), rfl, ⟨some (.tup (.str z :: xs)), ?_⟩, ?_, ?_, ?_⟩
        · rw [hcons, happ]
          simp only [List.length_append, List.length_cons]
          omega
        · rw [List.length_append]
          rfl
        · rw [List.map_append, List.map_map]
          simp [Function.comp_def]
        · intro t h
          rcases List.mem_append.mp h with h | h
          · exact hr t h
          · obtain ⟨y, hy, rfl⟩ := List.mem_map.mp h
            exact hk y hy
        · rw [happ]
          rw [hcons] at hpm
          refine List.Perm.trans ?_ hpm
          rw [List.append_assoc]
          refine List.Perm.append_left _ ?_
          exact List.Perm.cons _ (show (allT rest ++ List.flatMap (allF m) xs).Perm (List.flatMap (allF m) xs ++ allT rest) from List.perm_append_comm)
def depF : Nat → Da → Nat
  | 0, _ => 1
  | d + 1, .tup (.str z :: xs) => if z = "seq" ∨ z = "or" then 1 + (xs.map (depF d)).foldr max 0 else 1
  | _ + 1, _ => 1
theorem foldr_max_le {l : List Nat} {k : Nat} (h : ∀ y ∈ l, y ≤ k) : l.foldr max 0 ≤ k := by
  induction l with
  | nil => exact Nat.zero_le _
  | cons a l ih =>
    rw [List.foldr_cons]
    exact Nat.max_le.mpr ⟨h a List.mem_cons_self, ih fun y hy => h y (List.mem_cons_of_mem _ hy)⟩
theorem le_foldr_max {l : List Nat} : ∀ y ∈ l, y ≤ l.foldr max 0 := by
  induction l with
  | nil => intro y hy; cases hy
  | cons a l ih =>
    intro y hy
    rw [List.foldr_cons]
    rcases List.mem_cons.mp hy with rfl | hy
    · exact Nat.le_max_left _ _
    · exact Nat.le_trans (ih y hy) (Nat.le_max_right _ _)
theorem depF_le : ∀ {d : Nat} {x : Da}, PT d x → depF d x ≤ d
  | 0, _, h => h.elim
  | d + 1, x, h => by
    rcases h with ⟨xs, rfl⟩ | ⟨xs, rfl⟩ | ⟨z, xs, hz, rfl, _, hk⟩
    · exact Nat.succ_le_succ (Nat.zero_le _)
    · exact Nat.succ_le_succ (Nat.zero_le _)
    · show (if z = "seq" ∨ z = "or" then 1 + (xs.map (depF d)).foldr max 0 else 1) ≤ _
      rw [if_pos hz]
      have := foldr_max_le (l := xs.map (depF d)) (k := d) fun y hy => by
        obtain ⟨w, hw, rfl⟩ := List.mem_map.mp hy
        exact depF_le (hk w hw)
      omega
def spDepth (d : Nat) : DSp := fun ds M Q _ => ∃ x, ds = [x] ∧ PT d x ∧ Q (.int (depF d x : Nat)) M
section
variable {P : Program} {w : World} {K : PySem.W.Frag} {mg : Str → Option Value} {base : Heap} {C_Procedure : Addr} {C_Space : Addr} {C_InvalidProgram : Addr} {C_InvalidMeaning : Addr} {C_InvalidOperation : Addr} {C_InvalidNumber : Addr} {C_TooMany : Addr}
theorem T__law_depth (A : Facts K C_Procedure C_Space C_InvalidProgram C_InvalidMeaning C_InvalidOperation C_InvalidNumber C_TooMany) (M : MgOf K mg) (Z : Zs mg) {d : Nat} (D__law_depth : KnD P w K mg base "_law_depth" (d + 5) ["_law_term"] (spDepth d)) : KnD P w K mg base "_law_depth" (d + 6) ["_law_term"] (spDepth (d + 1)) := by
  refine KnD.of A.d__law_depth M sc__law_depth (fun _ _ _ _ _ _ us hl => match us, hl with | [_], _ => rfl) (fun ds M Q E ⟨_, h, _⟩ => by rw [h]; rfl) (fun f cdv A0 outer s H E hr => ?_)
  have hu := U.hu_of hr
  have hu1 := U.hu1_of hr
  have nd := sc__law_depth.nd
  refine ⟨_, (z_cons (z_if (d_tcm (o_din hu1) (d_ix (dn 0) d_int) (d_lst (d_cons d_str (d_cons d_str d_nil)))) (z_one (z_ret (d_op o_dadd d_int (d_b Z.max b_max (c_dmaxL rfl) (d_cons (d_op o_dadd (d_lst (d_cons d_int d_nil)) (d_lc (own := [("_law_inner", 1)]) (c := (.n 1)) rfl nd (d_it (d_sl (dn 0) (d_psome d_int) d_pnone)) (blkOk_by (own := [("_law_inner", 1)]) (N := N__law_depth) (sc := defScope s__law_depth) (by decide +kernel)) (fun _ _ _ _ _ => (gn 1 nd)) (fun _ _ _ _ _ => d_ts0) (fun _ _ _ _ _ => (d_call D__law_depth (hr.mono (by omega)) (d_cons (dn 1) d_nil))))) d_nil))))) z_nil)
      (z_one (z_ret d_int))), ?_⟩
  rintro ds M Q Ed ⟨x, rfl, ok, q⟩
  rcases ok with ⟨xs, rfl⟩ | ⟨xs, rfl⟩ | ⟨z, xs, hz, rfl, hxl, hk⟩
  · refine ⟨_, at0, sz (by decide), rfl, ?_⟩
    refine ifF (show ¬ inD (.str "do") [.str "seq", .str "or"] = true by decide +kernel) ?_
    exact q
  · refine ⟨_, at0, sz (by decide), rfl, ?_⟩
    refine ifF (show ¬ inD (.str "run") [.str "seq", .str "or"] = true by decide +kernel) ?_
    exact q
  · have go : flat2 (.str z) [.str "seq", .str "or"] = true ∧ inD (.str z) [.str "seq", .str "or"] = true := by
      rcases hz with rfl | rfl <;> decide +kernel
    refine ⟨_, at0, sz (by decide), by rw [go.1]; rfl, ?_⟩
    refine ifT go.2 ?_
    refine ⟨sz (by decide), ?_⟩
    show Sz (U.cutD (Da.str z :: xs) (some 1) none).length ∧ lcD _ _ _ _ (U.cutD (Da.str z :: xs) (some 1) none) _ _
    rw [cut1r]
    refine ⟨sz (by omega), ?_⟩
    refine lcD_same (fun y => .int (depF d y : Nat)) (fun _ _ => trivial) (fun y hy Q q => ⟨y, rfl, hk y hy, q⟩) ?_
    refine ⟨sz (by simp; omega), 0 :: xs.map fun y => (depF d y : Int), ?_, by simp, fun m hm hle => ?_⟩
    · have := asInts_fun (fun y => (depF d y : Int)) xs
      show (asInts (Da.int 0 :: xs.map fun y => .int (depF d y : Nat))) = _
      simp [asInts, this]
    · have e : m = ((xs.map (depF d)).foldr max 0 : Nat) := by
        have h1 : ∀ y ∈ xs, (depF d y : Int) ≤ m := fun y hy => hle _ (List.mem_cons_of_mem _ (List.mem_map_of_mem hy))
        have h0 : (0 : Int) ≤ m := hle 0 List.mem_cons_self
        have h2 : (xs.map (depF d)).foldr max 0 ≤ m.toNat := foldr_max_le fun y hy => by
          obtain ⟨v, hv, rfl⟩ := List.mem_map.mp hy
          have := h1 v hv
          omega
        have h3 : m.toNat ≤ (xs.map (depF d)).foldr max 0 := by
          rcases List.mem_cons.mp hm with e | hm
          · rw [e]; exact Nat.zero_le _
          · obtain ⟨v, hv, rfl⟩ := List.mem_map.mp hm
            exact le_foldr_max _ (List.mem_map_of_mem hv)
        omega
      subst e
      have q : Q (.int ((if z = "seq" ∨ z = "or" then 1 + (xs.map (depF d)).foldr max 0 else 1 : Nat) : Int)) M := q
      rw [if_pos hz] at q
      rw [Int.natCast_add] at q
      exact q
theorem R__law_depth (A : Facts K C_Procedure C_Space C_InvalidProgram C_InvalidMeaning C_InvalidOperation C_InvalidNumber C_TooMany) (M : MgOf K mg) (Z : Zs mg) : ∀ d, KnD P w K mg base "_law_depth" (d + 5) ["_law_term"] (spDepth d)
  | 0 => KnD.never A.d__law_depth M sc__law_depth (fun _ _ _ _ _ _ us hl => match us, hl with | [_], _ => rfl) fun ds M Q E ⟨_, _, h, _⟩ => h
  | d + 1 => T__law_depth A M Z (R__law_depth A M Z d)
theorem D__law_depth (A : Facts K C_Procedure C_Space C_InvalidProgram C_InvalidMeaning C_InvalidOperation C_InvalidNumber C_TooMany) (M : MgOf K mg) (Z : Zs mg) : KnD P w K mg base "_law_depth" 11 ["_law_term"] (spDepth 6) := R__law_depth A M Z 6
end

end K69
set_option Elab.async false
set_option linter.all false
set_option maxRecDepth 100000
set_option maxHeartbeats 4000000



namespace K69
open PySem PySem.Spec PyProof.Rows L2 U
def wordsL : Da := .lst [.str "do", .str "seq", .str "or", .str "run"]
def spPlain : DSp := fun ds M Q _ => ∃ x, ds = [x, wordsL] ∧ PT 6 x ∧ (allF 6 x).length ≤ 40 ∧ Q (.bl true) M
theorem D__law_is_plain {P : Program} {w : World} {K : PySem.W.Frag} {mg : Str → Option Value} {base : Heap} {C_Procedure : Addr} {C_Space : Addr} {C_InvalidProgram : Addr} {C_InvalidMeaning : Addr} {C_InvalidOperation : Addr} {C_InvalidNumber : Addr} {C_TooMany : Addr} (A : Facts K C_Procedure C_Space C_InvalidProgram C_InvalidMeaning C_InvalidOperation C_InvalidNumber C_TooMany) (M : MgOf K mg) (Z : Zs mg) (D__law_pieces : KnD P w K mg base "_law_pieces" 1 ["_law_term"] spLPieces) (D__law_depth : KnD P w K mg base "_law_depth" 11 ["_law_term"] (spDepth 6)) : KnD P w K mg base "_law_is_plain" 12 ["_law_term", "_law_words"] spPlain := by
  refine KnD.of A.d__law_is_plain M sc__law_is_plain (fun _ _ _ _ _ _ us hl => match us, hl with | [_, _], _ => rfl) (fun ds M Q E ⟨_, h, _⟩ => by rw [h]; rfl) (fun f cdv A0 outer s H E hr => ?_)
  have hu := U.hu_of hr
  have hu1 := U.hu1_of hr
  have nd := sc__law_is_plain.nd
  refine ⟨_, (z_cons (z_set 2 nd (d_call D__law_pieces (hr.mono (by decide)) (d_cons (dn 0) d_nil)))
      (z_cons (z_if (d_w (d_or (d_tcm o_dgt (d_b Z.len b_len c_dlen (d_cons (dn 2) d_nil)) d_int) (d_or1 (d_tcm o_dgt (d_call D__law_depth (hr.mono (by decide)) (d_cons (dn 0) d_nil)) d_int)))) (z_one (z_ret d_bl)) z_nil)
      (z_cons (z_if (d_tcm (o_dneL hu) (d_lc (own := [("_law_one", 3)]) (c := (.n 3)) rfl nd (d_it (dn 2)) (blkOk_by (own := [("_law_one", 3)]) (N := N__law_is_plain) (sc := defScope s__law_is_plain) (by decide +kernel)) (fun _ _ _ _ _ => (gn 3 nd)) (fun _ _ _ _ _ => (d_ts1 (d_tcm (o_dnin hu1) (d_ix (dn 3) d_int) (dn 1)))) (fun _ _ _ _ _ => (dn 3))) (d_lst d_nil)) (z_one (z_ret d_bl)) z_nil)
      (z_one (z_ret (d_ecm (o_deqL hu) (d_lc (own := [("_law_one", 3)]) (c := (.n 3)) rfl nd (d_it (dn 2)) (blkOk_by (own := [("_law_one", 3)]) (N := N__law_is_plain) (sc := defScope s__law_is_plain) (by decide +kernel)) (fun _ _ _ _ _ => (gn 3 nd)) (fun _ _ _ _ _ => (d_ts1 (d_w (d_and (d_tcm (o_deq hu) (d_ix (dn 3) d_int) d_str) (d_and1 (d_tcm (o_dne hu) (d_ix (dn 3) d_int) d_str)))))) (fun _ _ _ _ _ => (dn 3))) (d_lst d_nil))))))), ?_⟩
  rintro ds M Q Ed ⟨x, rfl, ok, hl, q⟩
  refine ⟨x, 6, rfl, ok, by omega, fun R hR => ?_⟩
  have hRl := hR.length_eq
  have hd := depF_le ok
  have h40 : ¬ decide ((40 : Int) < (R.length : Int)) = true := fun h => absurd (of_decide_eq_true h) (by omega)
  refine ifF h40 ?_
  refine ⟨x, rfl, ok, ?_⟩
  have h6 : ¬ decide ((6 : Int) < (depF 6 x : Int)) = true := fun h => absurd (of_decide_eq_true h) (by omega)
  refine ifF h6 ?_
  have hw : ∀ y ∈ R, HdOk y := fun y hy => ok.hds y (hR.mem_iff.mp hy)
  refine ⟨sz (by omega), lcD_pure (fun _ => false) (fun y => y) (fun y hy => ⟨trivial, fun Q q => ?_⟩) (fun _ _ h => nomatch h) ?_⟩
  · rcases hw y hy with ⟨xs, rfl⟩ | ⟨z, xs, hz, rfl⟩
    · exact ⟨_, at0, rfl, q⟩
    · have go : flat2 (.str z) [.str "do", .str "seq", .str "or", .str "run"] = true ∧ inD (.str z) [.str "do", .str "seq", .str "or", .str "run"] = true := by
        rcases hz with rfl | rfl | rfl <;> decide +kernel
      refine ⟨_, at0, by rw [go.1]; rfl, ?_⟩
      show Q (!inD (.str z) [.str "do", .str "seq", .str "or", .str "run"]) M
      rw [go.2]; exact q
  rw [show (R.filter (fun _ => false)).map (fun y : Da => y) = [] from by rw [List.filter_eq_nil_iff.mpr (by simp)]; rfl]
  refine ⟨rfl, ?_⟩
  refine ⟨sz (by omega), lcD_pure (fun _ => false) (fun y => y) (fun y hy => ⟨trivial, fun Q q => ?_⟩) (fun _ _ h => nomatch h) ?_⟩
  · rcases hw y hy with ⟨xs, rfl⟩ | ⟨z, xs, hz, rfl⟩
    · refine ⟨_, at0, ?_⟩
      exact ⟨_, at1, q⟩
    · refine ⟨_, at0, ?_⟩
      have hz2 : z ≠ "do" := by rcases hz with rfl | rfl | rfl <;> decide
      refine ifF (fun h => hz2 (of_decide_eq_true h)) q
  rw [show R.filter (fun _ => false) = [] from List.filter_eq_nil_iff.mpr (by simp)]
  exact ⟨rfl, q⟩
def spLeastL : DSp := fun ds M Q _ => ∃ (n : Nat) (ts : List Nat) (m e : Nat), ds = [.int n, tabD ts, .int m, .int e] ∧ (n = 1 ∨ n = 2) ∧ OkT (n * n) ts ∧ m < n ∧ e < n ∧ Q (.lst ((lst1 (hav n ts m e)).map fun r : Nat => Da.int (r : Int))) M
theorem D__law_least {P : Program} {w : World} {K : PySem.W.Frag} {mg : Str → Option Value} {base : Heap} {C_Procedure : Addr} {C_Space : Addr} {C_InvalidProgram : Addr} {C_InvalidMeaning : Addr} {C_InvalidOperation : Addr} {C_InvalidNumber : Addr} {C_TooMany : Addr} (A : Facts K C_Procedure C_Space C_InvalidProgram C_InvalidMeaning C_InvalidOperation C_InvalidNumber C_TooMany) (M : MgOf K mg) (Z : Zs mg) (D__law_size : KnD P w K mg base "_law_size" 1 ["_law_modes"] spSizeL) (D__law_has : KnD P w K mg base "_law_has" 1 ["_law_modes", "_law_relation", "_law_mode", "_law_end"] spHasL) (D__law_either : KnD P w K mg base "_law_either" 2 ["_law_modes", "_law_one", "_law_other"] spEitherL) : KnD P w K mg base "_law_least" 3 ["_law_modes", "_law_table", "_law_mode", "_law_end"] spLeastL := by
  refine KnD.of A.d__law_least M sc__law_least (fun _ _ _ _ _ _ us hl => match us, hl with | [_, _, _, _], _ => rfl) (fun ds M Q E ⟨_, _, _, _, h, _⟩ => by rw [h]; rfl) (fun f cdv A0 outer s H E hr => ?_)
  have hu := U.hu_of hr
  have hu1 := U.hu1_of hr
  have nd := sc__law_least.nd
  refine ⟨_, (z_cons (z_setLc (i := 4) (own := [("_law_one", 6)]) (c := (.n 6)) rfl nd rfl rfl (sw_true rfl rfl rfl (by decide +kernel)) (d_rg1 Z.range (d_cons (d_call D__law_size (hr.mono (by decide)) (d_cons (dn 0) d_nil)) d_nil)) (blkOk_by (own := [("_law_one", 6)]) (N := N__law_least) (sc := defScope s__law_least) (by decide +kernel)) (fun _ _ _ _ _ => (gn 6 nd)) (fun _ _ _ _ _ => (d_ts1 (d_tv (d_call D__law_has (hr.mono (by decide)) (d_cons (dn 0) (d_cons (d_ix (dn 1) (dn 6)) (d_cons (dn 2) (d_cons (dn 3) d_nil)))))))) (fun _ _ _ _ _ => (dn 6)))
      (z_cons (z_set 5 nd (d_lstM d_nil))
      (z_cons (z_for PassesOwn.never rfl (d_it (dn 4)) (t_n 6 nd) (z_one (z_if (d_tcm (o_deqL hu) (d_lc (own := [("_law_other", 7)]) (c := (.n 7)) rfl nd (d_it (dn 4)) (blkOk_by (own := [("_law_other", 7)]) (N := N__law_least) (sc := defScope s__law_least) (by decide +kernel)) (fun _ _ _ _ _ => (gn 7 nd)) (fun _ _ _ _ _ => (d_ts1 (d_w (d_and (d_tcm (o_dne hu) (dn 7) (dn 6)) (d_and1 (d_tcm (o_deq hu) (d_call D__law_either (hr.mono (by decide)) (d_cons (dn 0) (d_cons (dn 7) (d_cons (dn 6) d_nil)))) (dn 6))))))) (fun _ _ _ _ _ => (dn 7))) (d_lst d_nil)) (z_one (z_expr (d_append (dn 5) (d_cons (dn 6) d_nil)))) z_nil)))
      (z_one (z_retF (d_stl (dn 5))))))), ?_⟩
  rintro ds M Q Ed ⟨n, ts, m, e, rfl, hn, hT, hm, he, q⟩
  have hp16 : 2 ^ (n * n) ≤ 16 := by rcases hn with rfl | rfl <;> decide
  obtain ⟨c1, c2, c3⟩ := cell9 hn hm he
  refine ⟨n, rfl, hn, rok (Int.natCast_nonneg _) (by show ((2 ^ (n * n) : Nat) : Int) ≤ 1000000; omega), ?_⟩
  rw [rngD0' (n := 2 ^ (n * n)) rfl]
  refine ⟨sz (by rw [List.length_map, List.length_range]; omega), lcD_map (g := fun r : Nat => Da.int (r : Int)) (fun r => (ts.getD r 0).testBit (m * n + e)) (fun r => Da.int (r : Int)) (fun r hr => ⟨trivial, fun Q q => ?_⟩) (fun r hr _ Q q => q) ?_⟩
  · have hr := List.mem_range.mp hr
    exact ⟨_, tab_at hT hr, n, ts.getD r 0, m, e, rfl, by omega, c3, q⟩
  refine ⟨rfl, fun p hp => ?_⟩
  have hLl : (hav n ts m e).length ≤ 16 := Nat.le_trans (List.length_filter_le _ _) (by rw [List.length_range]; exact hp16)
  have hlt : ∀ r ∈ hav n ts m e, r < 2 ^ (n * n) := fun r hr => List.mem_range.mp (List.mem_filter.mp hr).1
  refine forD_map (l := hav n ts m e) (f := fun r : Nat => Da.int (r : Int)) (fun l δ M' => ∃ (pre done : List Nat), (∃ u6 u7, δ = [some (.int (n : Nat)), some (tabD ts), some (.int (m : Nat)), some (.int (e : Nat)), some (.lst ((hav n ts m e).map fun r : Nat => Da.int (r : Int))), some (.ref p), u6, u7]) ∧ M' = mput M p (.lst (done.map fun r : Nat => Da.int (r : Int))) ∧ pre ++ l = hav n ts m e ∧ done = pre.filter (fun a => !((hav n ts m e).any fun b => decide (b ≠ a) && decide (b ||| a = a)))) ?_ ?_ ⟨[], [], ⟨_, _, rfl⟩, rfl, rfl, rfl⟩
  · rintro a l δ M' ⟨pre, done, ⟨u6, u7, rfl⟩, rfl, hL2, hd⟩ nx
    have ha : a ∈ hav n ts m e := by rw [← hL2]; simp
    refine ⟨sz (by rw [List.length_map]; omega), lcD_map (g := fun r : Nat => Da.int (r : Int)) (fun b => decide (b ≠ a) && decide (b ||| a = a)) (fun r => Da.int (r : Int)) (fun b hb => ⟨trivial, fun Q q => ?_⟩) (fun r hr _ Q q => q) ?_⟩
    · have hb16 := hlt b hb
      have ha16 := hlt a ha
      by_cases c : b = a
      · subst c
        rw [show (decide (b ≠ b) && decide (b ||| b = b)) = false from by simp] at q
        refine ifF (by simp) q
      · rw [show decide (b ≠ a) = true from by simp [c], Bool.true_and] at q
        refine ifT (by simp; omega) ?_
        refine ⟨n, b, a, rfl, hn, hb16, ha16, ?_⟩
        have e : decide (((b ||| a : Nat) : Int) = (a : Int)) = decide (b ||| a = a) := by
          by_cases c : b ||| a = a
          · rw [decide_eq_true c, c]; simp
          · rw [decide_eq_false c, decide_eq_false (fun z => c (by omega))]
        rw [← e] at q
        exact q
    · have he : (((hav n ts m e).filter fun b => decide (b ≠ a) && decide (b ||| a = a)).map fun r : Nat => Da.int (r : Int)).isEmpty = !((hav n ts m e).any fun b => decide (b ≠ a) && decide (b ||| a = a)) := by
        rw [List.isEmpty_map, Bool.eq_iff_iff, List.isEmpty_iff, List.filter_eq_nil_iff, Bool.not_eq_true', List.any_eq_false]
      have hL3 : (pre ++ [a]) ++ l = hav n ts m e := by rw [List.append_assoc]; exact hL2
      cases c : !((hav n ts m e).any fun b => decide (b ≠ a) && decide (b ||| a = a)) with
      | true =>
        rw [c] at he
        refine ⟨rfl, ifT he ?_⟩
        refine ⟨⟨p, _, rfl, mput_same⟩, _, mput_same, sz ?_, ?_⟩
        · have h1 := congrArg List.length hL2
          have h2 : done.length ≤ pre.length := by rw [hd]; exact List.length_filter_le _ _
          simp only [List.length_append, List.length_cons, List.length_map, List.length_nil] at h1 ⊢
          omega
        · rw [mput_put]
          refine nx _ _ ⟨pre ++ [a], done ++ [a], ⟨_, _, rfl⟩, by rw [List.map_append]; rfl, hL3, ?_⟩
          rw [List.filter_append, hd]
          congr 1
          rw [List.filter_cons]; exact (if_pos c).symm
      | false =>
        rw [c] at he
        refine ⟨rfl, ifF (fun h => by rw [he] at h; cases h) ?_⟩
        refine nx _ _ ⟨pre ++ [a], done, ⟨_, _, rfl⟩, rfl, hL3, ?_⟩
        rw [List.filter_append, hd, List.filter_cons]
        exact (show _ = _ ++ _ from by rw [if_neg (by rw [c]; decide)]; exact (List.append_nil _).symm)
  · rintro δ M' ⟨pre, done, ⟨u6, u7, rfl⟩, rfl, hL2, hd⟩
    rw [List.append_nil] at hL2
    refine ⟨_, mput_same, M, by rw [mdel_put hp]; exact fun _ _ h => h, ?_⟩
    rw [hd, hL2]
    exact q

end K69
set_option Elab.async false
set_option linter.all false
set_option maxRecDepth 100000
set_option maxHeartbeats 4000000



namespace K69
open PySem PySem.Spec PyProof.Rows L2 U
def spDrawn : DSp := fun ds M Q _ => ∃ (d : Addr) (n : Nat), ds = [.ref d, .int n] ∧ Die d M ∧ (n = 1 ∨ n = 2) ∧ ∀ ts M', OkT (n * n) ts → Die d M' → Km d M M' → Q (tabD ts) M'
def prD (p : Nat × Nat) : Da := .tup [.int (p.1 : Int), .int (p.2 : Int)]
theorem D__law_drawn_table {P : Program} {w : World} {K : PySem.W.Frag} {mg : Str → Option Value} {base : Heap} {C_Procedure : Addr} {C_Space : Addr} {C_InvalidProgram : Addr} {C_InvalidMeaning : Addr} {C_InvalidOperation : Addr} {C_InvalidNumber : Addr} {C_TooMany : Addr} (A : Facts K C_Procedure C_Space C_InvalidProgram C_InvalidMeaning C_InvalidOperation C_InvalidNumber C_TooMany) (M : MgOf K mg) (Z : Zs mg) (D__law_pick : KnD P w K mg base "_law_pick" 2 ["_law_pail_here", "_law_items"] spPick) (D__law_dip : KnD P w K mg base "_law_dip" 1 ["_law_pail_here", "_law_total"] spCast) (D__law_size : KnD P w K mg base "_law_size" 1 ["_law_modes"] spSizeL) (D__law_either : KnD P w K mg base "_law_either" 2 ["_law_modes", "_law_one", "_law_other"] spEitherL) : KnD P w K mg base "_law_drawn_table" 3 ["_law_pail_here", "_law_modes"] spDrawn := by
  refine KnD.of A.d__law_drawn_table M sc__law_drawn_table (fun _ _ _ _ _ _ us hl => match us, hl with | [_, _], _ => rfl) (fun ds M Q E ⟨_, _, h, _⟩ => by rw [h]; rfl) (fun f cdv A0 outer s H E hr => ?_)
  have hu := U.hu_of hr
  have hu1 := U.hu1_of hr
  have nd := sc__law_drawn_table.nd
  refine ⟨_, (z_cons (z_set 2 nd (d_lstM d_nil))
      (z_cons (z_for PassesOwn.never rfl (d_rg1 Z.range (d_cons (d_call D__law_pick (hr.mono (by decide)) (d_cons (dn 0) (d_cons (d_lst (d_cons d_int (d_cons d_int (d_cons d_int (d_cons d_int (d_cons d_int (d_cons d_int d_nil))))))) d_nil))) d_nil)) (t_n 3 nd) (z_one (z_expr (d_append (dn 2) (d_cons (d_tup (d_cons (d_call D__law_dip (hr.mono (by decide)) (d_cons (dn 0) (d_cons (d_call D__law_size (hr.mono (by decide)) (d_cons (dn 1) d_nil)) d_nil))) (d_cons (d_call D__law_dip (hr.mono (by decide)) (d_cons (dn 0) (d_cons (d_call D__law_size (hr.mono (by decide)) (d_cons (dn 1) d_nil)) d_nil))) d_nil))) d_nil)))))
      (z_cons (z_stlV 2 (z_set 4 nd (d_lstM d_nil)))
      (z_cons (z_for PassesOwn.never rfl (d_rg1 Z.range (d_cons (d_call D__law_size (hr.mono (by decide)) (d_cons (dn 1) d_nil)) d_nil)) (t_n 5 nd) (z_cons (z_set 6 nd d_int)
      (z_cons (z_for PassesOwn.never rfl (d_it (dn 2)) (t_tup rfl (t_cons (t_n 7 nd) (t_cons (t_n 8 nd) t_nil))) (z_one (z_if (d_tcm (o_deq hu) (d_call D__law_either (hr.mono (by decide)) (d_cons (dn 1) (d_cons (dn 7) (d_cons (dn 5) d_nil)))) (dn 5)) (z_one (z_set 6 nd (d_call D__law_either (hr.mono (by decide)) (d_cons (dn 1) (d_cons (dn 6) (d_cons (dn 8) d_nil)))))) z_nil)))
      (z_one (z_expr (d_append (dn 4) (d_cons (dn 6) d_nil)))))))
      (z_one (z_retF (d_t Z.tuple b_tuple c_dtuple (d_cons (dn 4) d_nil)))))))), ?_⟩
  rintro ds M Q Ed ⟨d, n, rfl, hd, hn, q⟩
  have hp16 : 2 ^ (n * n) ≤ 16 := by rcases hn with rfl | rfl <;> decide
  have hp1 : 0 < 2 ^ (n * n) := Nat.pos_of_ne_zero (by simp)
  refine ⟨rfl, fun p hp => ?_⟩
  have hpd : p ≠ d := fun e => by obtain ⟨_, _, _, z⟩ := hd; rw [e, z] at hp; cases hp
  have hd0 : Die d (mput M p (.lst [])) := by obtain ⟨a, b, c, z⟩ := hd; exact ⟨a, b, c, by rw [mput_ne (Ne.symm hpd)]; exact z⟩
  refine ⟨sz (by decide), d, _, rfl, hd0, by decide, by decide, fun x M1 hx hd1 km1 => ?_⟩
  obtain ⟨k, hk, rfl⟩ : ∃ k : Nat, k ≤ 4 ∧ x = .int (k : Nat) := by
    simp only [List.mem_cons, List.not_mem_nil, or_false] at hx
    rcases hx with rfl | rfl | rfl | rfl | rfl | rfl
    · exact ⟨0, by omega, rfl⟩
    · exact ⟨1, by omega, rfl⟩
    · exact ⟨2, by omega, rfl⟩
    · exact ⟨2, by omega, rfl⟩
    · exact ⟨3, by omega, rfl⟩
    · exact ⟨4, by omega, rfl⟩
  refine ⟨rok (by omega) (by omega), ?_⟩
  refine forD_rng (n := k) (fun j δ M' => ∃ ps : List (Nat × Nat), (∃ u3 u4 u5 u6 u7 u8, δ = [some (.ref d), some (.int (n : Nat)), some (.ref p), u3, u4, u5, u6, u7, u8]) ∧ Die d M' ∧ Kx d M M' ∧ M' p = some (.lst (ps.map prD)) ∧ ps.length = j ∧ ∀ t ∈ ps, t.1 < 2 ^ (n * n) ∧ t.2 < 2 ^ (n * n)) ?_ ?_ ⟨[], ⟨_, _, _, _, _, _, rfl⟩, hd1, (Kx.refl.put hp).trans (Kx.of km1), by rw [km1 p hpd]; exact mput_same, rfl, fun _ h => nomatch h⟩
  · rintro j δ M' NX hj ⟨ps, ⟨u3, u4, u5, u6, u7, u8, rfl⟩, hd2, kx, hm, hl, hps⟩ nx
    refine ⟨⟨p, _, rfl, hm⟩, n, rfl, hn, d, 2 ^ (n * n), rfl, hd2, hp1, by omega, fun r M3 hr h5 h6 => ⟨n, rfl, hn, d, 2 ^ (n * n), rfl, h5, hp1, by omega, fun r2 M4 hr2 h7 h8 => ?_⟩⟩
    have hm4 : M4 p = some (.lst (ps.map prD)) := by rw [h8 p hpd, h6 p hpd]; exact hm
    refine ⟨rfl, _, hm4, sz (by rw [List.length_map]; omega), ?_⟩
    refine nx _ _ ⟨ps ++ [(r, r2)], ⟨_, _, _, _, _, _, rfl⟩, ?_, ((kx.trans (Kx.of h6)).trans (Kx.of h8)).chg hp, by rw [mput_same, List.map_append]; rfl, by rw [List.length_append]; simp [hl], fun t ht => ?_⟩
    · obtain ⟨a, b, c, z⟩ := h7; exact ⟨a, b, c, by rw [mput_ne (Ne.symm hpd)]; exact z⟩
    · rcases List.mem_append.mp ht with ht | ht
      · exact hps t ht
      · rw [List.mem_singleton.mp ht]; exact ⟨hr, hr2⟩
  rintro δ M' ⟨ps, ⟨u3, u4, u5, u6, u7, u8, rfl⟩, hd2, kx, hm, hl, hps⟩
  refine ⟨p, _, rfl, hm, rfl, fun p2 hp2 => ?_⟩
  generalize hM2 : mdel M' p = M2 at hp2 ⊢
  have hd3 : Die d M2 := by obtain ⟨a, b, c, z⟩ := hd2; exact ⟨a, b, c, by rw [← hM2]; exact (mdel_ne (Ne.symm hpd)).trans z⟩
  have kx2 : Kx d M M2 := by rw [← hM2]; exact kx.del hp
  have hp2d : p2 ≠ d := fun e => by obtain ⟨_, _, _, z⟩ := hd3; rw [e, z] at hp2; cases hp2
  have hp2M : M p2 = none := by
    cases e : M p2 with
    | none => rfl
    | some o => rw [kx2 p2 o hp2d e] at hp2; cases hp2
  refine ⟨n, rfl, hn, rok (Int.natCast_nonneg _) (by show ((2 ^ (n * n) : Nat) : Int) ≤ 1000000; omega), ?_⟩
  refine forD_rng (n := 2 ^ (n * n)) (fun j δ M' => ∃ fs : List Nat, (∃ u3 u5 u6 u7 u8, δ = [some (.ref d), some (.int (n : Nat)), some (.lst (ps.map prD)), u3, some (.ref p2), u5, u6, u7, u8]) ∧ M' = mput M2 p2 (.lst (fs.map fun t : Nat => Da.int (t : Int))) ∧ fs.length = j ∧ ∀ t ∈ fs, t < 2 ^ (n * n)) ?_ ?_ ⟨[], ⟨_, _, _, _, _, rfl⟩, rfl, rfl, fun _ h => nomatch h⟩
  · rintro j δ M' NX hj ⟨fs, ⟨u3, u5, u6, u7, u8, rfl⟩, rfl, hfl, hfs⟩ nx
    refine forD_map (f := prD) (fun l δ M' => ∃ acc : Nat, (∃ u7 u8, δ = [some (.ref d), some (.int (n : Nat)), some (.lst (ps.map prD)), u3, some (.ref p2), some (.int (j : Nat)), some (.int (acc : Nat)), u7, u8]) ∧ M' = mput M2 p2 (.lst (fs.map fun t : Nat => Da.int (t : Int))) ∧ acc < 2 ^ (n * n) ∧ ∀ t ∈ l, t.1 < 2 ^ (n * n) ∧ t.2 < 2 ^ (n * n)) ?_ ?_ ⟨0, ⟨_, _, rfl⟩, rfl, hp1, hps⟩
    · rintro ⟨a, b⟩ l δ M' ⟨acc, ⟨u7, u8, rfl⟩, rfl, hacc, hb⟩ nx'
      obtain ⟨h1, h2⟩ := hb _ List.mem_cons_self
      have hb' := fun t h => hb t (List.mem_cons_of_mem _ h)
      refine ⟨rfl, n, a, j, rfl, hn, h1, hj, ite2 (fun c => ?_) (fun c => ?_)⟩
      · exact ⟨n, acc, b, rfl, hn, hacc, h2, nx' _ _ ⟨acc ||| b, ⟨_, _, rfl⟩, rfl, or_bits hacc h2, hb'⟩⟩
      · exact nx' _ _ ⟨acc, ⟨_, _, rfl⟩, rfl, hacc, hb'⟩
    · rintro δ M' ⟨acc, ⟨u7, u8, rfl⟩, rfl, hacc, _⟩
      refine ⟨⟨p2, _, rfl, mput_same⟩, _, mput_same, sz (by rw [List.length_map]; omega), ?_⟩
      rw [mput_put]
      refine nx _ _ ⟨fs ++ [acc], ⟨_, _, _, _, _, rfl⟩, by rw [List.map_append]; rfl, by rw [List.length_append]; simp [hfl], fun t ht => ?_⟩
      rcases List.mem_append.mp ht with ht | ht
      · exact hfs t ht
      · rw [List.mem_singleton.mp ht]; exact hacc
  · rintro δ M' ⟨fs, ⟨u3, u5, u6, u7, u8, rfl⟩, rfl, hfl, hfs⟩
    obtain ⟨M3, sb, e1, e2⟩ := (kx2.put hp2).back
    refine ⟨_, mput_same, M3, ?_, q fs M3 ⟨hfl, hfs⟩ ?_ e1⟩
    · exact sb
    · obtain ⟨a, b, c, z⟩ := hd3
      exact ⟨a, b, c, by rw [e2, mput_ne (Ne.symm hp2d)]; exact z⟩
theorem cel_n {n r : Nat} (hn : n = 1 ∨ n = 2) (hr : r < 2 ^ (n * n)) : ((List.range (n * n)).filter fun s => r.testBit (s / n * n + s % n)).length = (cel r).length := by
  have h1 : (fun s => r.testBit (s / n * n + s % n)) = fun s => r.testBit s := by funext s; rw [div_mod]
  rw [h1]
  have h2 : 12 = n * n + (12 - n * n) := by rcases hn with rfl | rfl <;> rfl
  unfold cel
  rw [h2, List.range_add, List.filter_append, List.length_append]
  have h3 : ((List.range (12 - n * n)).map (n * n + ·)).filter (fun k => r.testBit k) = [] := List.filter_eq_nil_iff.mpr fun k hk h => by
    obtain ⟨i, _, rfl⟩ := List.mem_map.mp hk
    have := bit_lt hr h
    omega
  rw [h3]; rfl
def spTermsL : DSp := fun ds M Q _ => ∃ (n : Nat) (ts : List Nat), ds = [.int n, tabD ts] ∧ (n = 1 ∨ n = 2) ∧ OkT (n * n) ts ∧ Q (.int ((manyF (termsF n ts) + 1 : Nat) : Int)) M
theorem D__law_terms {P : Program} {w : World} {K : PySem.W.Frag} {mg : Str → Option Value} {base : Heap} {C_Procedure : Addr} {C_Space : Addr} {C_InvalidProgram : Addr} {C_InvalidMeaning : Addr} {C_InvalidOperation : Addr} {C_InvalidNumber : Addr} {C_TooMany : Addr} (A : Facts K C_Procedure C_Space C_InvalidProgram C_InvalidMeaning C_InvalidOperation C_InvalidNumber C_TooMany) (M : MgOf K mg) (Z : Zs mg) (D__law_least : KnD P w K mg base "_law_least" 3 ["_law_modes", "_law_table", "_law_mode", "_law_end"] spLeastL) (D__law_has : KnD P w K mg base "_law_has" 1 ["_law_modes", "_law_relation", "_law_mode", "_law_end"] spHasL) : KnD P w K mg base "_law_terms" 4 ["_law_modes", "_law_table"] spTermsL := by
  refine KnD.of A.d__law_terms M sc__law_terms (fun _ _ _ _ _ _ us hl => match us, hl with | [_, _], _ => rfl) (fun ds M Q E ⟨_, _, h, _⟩ => by rw [h]; rfl) (fun f cdv A0 outer s H E hr => ?_)
  have hu := U.hu_of hr
  have hu1 := U.hu1_of hr
  have nd := sc__law_terms.nd
  refine ⟨_, (z_cons (z_set 2 nd d_int)
      (z_cons (z_for PassesOwn.never rfl (d_rg1 Z.range (d_cons (dn 0) d_nil)) (t_n 3 nd) (z_one (z_for PassesOwn.never rfl (d_rg1 Z.range (d_cons (dn 0) d_nil)) (t_n 4 nd) (z_one (z_for PassesOwn.never rfl (d_it (d_call D__law_least (hr.mono (by decide)) (d_cons (dn 0) (d_cons (dn 1) (d_cons (dn 3) (d_cons (dn 4) d_nil)))))) (t_n 5 nd) (z_cons (z_set 6 nd (d_lstRg rfl Z.list Z.range (d_op o_dmul (dn 0) (dn 0))))
      (z_cons (z_setLc (i := 7) (own := [("_law_spot", 8)]) (c := (.n 8)) rfl nd rfl rfl (sw_true rfl rfl rfl (by decide +kernel)) (d_it (dn 6)) (blkOk_by (own := [("_law_spot", 8)]) (N := N__law_terms) (sc := defScope s__law_terms) (by decide +kernel)) (fun _ _ _ _ _ => (gn 8 nd)) (fun _ _ _ _ _ => (d_ts1 (d_tv (d_call D__law_has (hr.mono (by decide)) (d_cons (dn 0) (d_cons (dn 5) (d_cons (d_op o_ddiv (dn 8) (dn 0)) (d_cons (d_op o_dmod (dn 8) (dn 0)) d_nil)))))))) (fun _ _ _ _ _ => (dn 8)))
      (z_one (z_set 2 nd (d_op o_dadd (d_op o_dadd (dn 2) (d_op o_dmul d_int (d_b Z.len b_len c_dlen (d_cons (dn 7) d_nil)))) d_int))))))))))
      (z_one (z_ret (dn 2))))), ?_⟩
  rintro ds M Q Ed ⟨n, ts, rfl, hn, hT, q⟩
  have hn2 : n ≤ 2 := by omega
  refine ⟨rok (by omega) (by omega), ?_⟩
  refine forD_rng (n := n) (fun j δ M' => M' = M ∧ ∃ done u3 u4 u5 u6 u7 u8, δ = [some (.int (n : Nat)), some (tabD ts), some (.int ((manyF done + 1 : Nat) : Int)), u3, u4, u5, u6, u7, u8] ∧ done = ((List.range j).flatMap fun m => (List.range n).flatMap fun e => (lst1 (hav n ts m e)).map (seqF n m e))) ?_ ?_ ⟨rfl, [], _, _, _, _, _, _, rfl, rfl⟩
  · rintro j δ M' NX hj ⟨rfl, done, u3, u4, u5, u6, u7, u8, rfl, hd⟩ nx
    refine ⟨rok (by omega) (by omega), ?_⟩
    refine forD_rng (n := n) (fun i δ M'' => M'' = M' ∧ ∃ don2 u4 u5 u6 u7 u8, δ = [some (.int (n : Nat)), some (tabD ts), some (.int ((manyF don2 + 1 : Nat) : Int)), some (.int (j : Nat)), u4, u5, u6, u7, u8] ∧ don2 = done ++ ((List.range i).flatMap fun e => (lst1 (hav n ts j e)).map (seqF n j e))) ?_ ?_ ⟨rfl, done, _, _, _, _, _, rfl, by simp⟩
    · rintro i δ M'' NX2 hi ⟨rfl, don2, u4, u5, u6, u7, u8, rfl, hd2⟩ nx2
      have hlt : ∀ r ∈ lst1 (hav n ts j i), r < 2 ^ (n * n) := fun r hr => List.mem_range.mp (List.mem_filter.mp (List.mem_filter.mp hr).1).1
      refine ⟨n, ts, j, i, rfl, hn, hT, hj, hi, ?_⟩
      refine forD_map (f := fun r : Nat => Da.int (r : Int)) (fun l δ M3 => M3 = M'' ∧ ∃ don3, (∃ u5 u6 u7 u8, δ = [some (.int (n : Nat)), some (tabD ts), some (.int ((manyF don3 + 1 : Nat) : Int)), some (.int (j : Nat)), some (.int (i : Nat)), u5, u6, u7, u8]) ∧ don3 ++ l.map (seqF n j i) = don2 ++ (lst1 (hav n ts j i)).map (seqF n j i) ∧ ∀ r ∈ l, r ∈ lst1 (hav n ts j i)) ?_ ?_ ⟨rfl, don2, ⟨_, _, _, _, rfl⟩, rfl, fun _ h => h⟩
      · rintro r l δ M3 ⟨rfl, don3, ⟨u5, u6, u7, u8, rfl⟩, hd3, hin⟩ next
        have hr := hlt r (hin r List.mem_cons_self)
        have hd3' : (don3 ++ [seqF n j i r]) ++ l.map (seqF n j i) = don2 ++ (lst1 (hav n ts j i)).map (seqF n j i) := by rw [List.append_assoc]; exact hd3
        have hin' := fun r' h => hin r' (List.mem_cons_of_mem _ h)
        have hnn : ((n : Int) * (n : Int)).toNat = n * n := by rcases hn with rfl | rfl <;> rfl
        refine ⟨.inl ⟨by omega, by omega⟩, by rcases hn with rfl | rfl <;> decide, ?_⟩
        show Sz (rngD 0 ((n : Int) * (n : Int)).toNat).length ∧ lcD _ _ _ _ (rngD 0 ((n : Int) * (n : Int)).toNat) _ _
        rw [hnn, rngD0]
        have hn4 : n * n ≤ 4 := by rcases hn with rfl | rfl <;> decide
        refine ⟨sz (by rw [List.length_map, List.length_range]; omega), lcD_map (g := fun s : Nat => Da.int (s : Int)) (fun s => r.testBit (s / n * n + s % n)) (fun s => Da.int (s : Int)) (fun s hs => ⟨trivial, fun Q q => ?_⟩) (fun s _ _ Q q => q) ?_⟩
        · have hs := List.mem_range.mp hs
          exact ⟨⟨by omega, by omega⟩, by omega, n, r, s / n, s % n, rfl, by omega, by rw [div_mod]; omega, q⟩
        have hcl := cel_len r
        have hce := cel_n hn hr
        have hx : ((manyF don3 + 1 : Nat) : Int) + 2 * ((((List.range (n * n)).filter fun s => r.testBit (s / n * n + s % n)).map fun s : Nat => Da.int (s : Int)).length : Int) + 2 = ((manyF (don3 ++ [seqF n j i r]) + 1 : Nat) : Int) := by
          have e : manyF [seqF n j i r] = 2 * (cel r).length + 2 := by rw [← seqF_len n j i r]; exact Nat.zero_add _
          rw [List.length_map, hce, manyF_app, e]; omega
        refine ⟨.inl ⟨by omega, by omega⟩, ?_⟩
        exact next _ _ ⟨rfl, don3 ++ [seqF n j i r], ⟨_, _, _, _, congrArg (fun t : Int => [some (Da.int (n : Nat)), some (tabD ts), some (.int t), some (.int (j : Nat)), some (.int (i : Nat)), _, _, _, _]) hx⟩, hd3', hin'⟩
      · rintro δ M3 ⟨rfl, don3, ⟨u5, u6, u7, u8, rfl⟩, hd3, hin⟩
        rw [List.map_nil, List.append_nil] at hd3
        refine nx2 _ _ ⟨rfl, don3, _, _, _, _, _, rfl, ?_⟩
        rw [hd3, hd2, List.range_succ, List.flatMap_append, List.append_assoc, List.flatMap_singleton]
    · rintro δ M'' ⟨rfl, don2, u4, u5, u6, u7, u8, rfl, hd2⟩
      refine nx _ _ ⟨rfl, don2, _, _, _, _, _, _, rfl, ?_⟩
      rw [hd2, hd, List.range_succ, List.flatMap_append, List.flatMap_singleton]
  · rintro δ M' ⟨rfl, done, u3, u4, u5, u6, u7, u8, rfl, hd⟩
    have e : done = termsF n ts := hd
    subst e
    exact q
def spMonoL : DSp := fun ds M Q _ => ∃ (n : Nat) (ts : List Nat), ds = [.int n, tabD ts] ∧ (n = 1 ∨ n = 2) ∧ OkT (n * n) ts ∧ Q (.bl (monoB (n * n) ts)) M
theorem D__law_is_monotone {P : Program} {w : World} {K : PySem.W.Frag} {mg : Str → Option Value} {base : Heap} {C_Procedure : Addr} {C_Space : Addr} {C_InvalidProgram : Addr} {C_InvalidMeaning : Addr} {C_InvalidOperation : Addr} {C_InvalidNumber : Addr} {C_TooMany : Addr} (A : Facts K C_Procedure C_Space C_InvalidProgram C_InvalidMeaning C_InvalidOperation C_InvalidNumber C_TooMany) (M : MgOf K mg) (Z : Zs mg) (D__law_either : KnD P w K mg base "_law_either" 2 ["_law_modes", "_law_one", "_law_other"] spEitherL) : KnD P w K mg base "_law_is_monotone" 3 ["_law_modes", "_law_table"] spMonoL := by
  refine KnD.of A.d__law_is_monotone M sc__law_is_monotone (fun _ _ _ _ _ _ us hl => match us, hl with | [_, _], _ => rfl) (fun ds M Q E ⟨_, _, h, _⟩ => by rw [h]; rfl) (fun f cdv A0 outer s H E hr => ?_)
  have hu := U.hu_of hr
  have hu1 := U.hu1_of hr
  have nd := sc__law_is_monotone.nd
  refine ⟨_, (z_cons (z_for PassesOwn.never rfl (d_rg1 Z.range (d_cons (d_b Z.len b_len c_dlen (d_cons (dn 1) d_nil)) d_nil)) (t_n 2 nd) (z_one (z_for PassesOwn.never rfl (d_rg1 Z.range (d_cons (d_b Z.len b_len c_dlen (d_cons (dn 1) d_nil)) d_nil)) (t_n 3 nd) (z_cons (z_set 4 nd (d_ecm (o_deq hu) (d_call D__law_either (hr.mono (by decide)) (d_cons (dn 0) (d_cons (d_ix (dn 1) (dn 2)) (d_cons (d_ix (dn 1) (dn 3)) d_nil)))) (d_ix (dn 1) (dn 3))))
      (z_one (z_if (d_w (d_and (d_tnot (d_tv (dn 4))) (d_and1 (d_tcm (o_deq hu) (d_call D__law_either (hr.mono (by decide)) (d_cons (dn 0) (d_cons (dn 2) (d_cons (dn 3) d_nil)))) (dn 3))))) (z_one (z_ret d_bl)) z_nil))))))
      (z_one (z_ret d_bl))), ?_⟩
  rintro ds M Q Ed ⟨n, ts, rfl, hn, hT, q⟩
  have hp16 : 2 ^ (n * n) ≤ 16 := by rcases hn with rfl | rfl <;> decide
  have hlen : (ts.map fun t : Nat => Da.int (t : Int)).length = 2 ^ (n * n) := by rw [List.length_map]; exact hT.1
  rw [mono_eq] at q
  refine ⟨rok (Int.natCast_nonneg _) (by show (((ts.map fun t : Nat => Da.int (t : Int)).length : Nat) : Int) ≤ 1000000; omega), ?_⟩
  refine forD_rng (n := (ts.map fun t : Nat => Da.int (t : Int)).length) (fun j δ M' => (∃ u2 u3 u4, δ = [some (.int (n : Nat)), some (tabD ts), u2, u3, u4]) ∧ M' = M ∧ ∀ a < j, ∀ b < 2 ^ (n * n), a ||| b = b → ts.getD a 0 ||| ts.getD b 0 = ts.getD b 0) ?_ ?_ ⟨⟨_, _, _, rfl⟩, rfl, fun a h => absurd h (Nat.not_lt_zero _)⟩
  · rintro a δ M' NX ha ⟨⟨u2, u3, u4, rfl⟩, rfl, inv⟩ nx
    rw [hlen] at ha
    refine ⟨rok (Int.natCast_nonneg _) (by show (((ts.map fun t : Nat => Da.int (t : Int)).length : Nat) : Int) ≤ 1000000; omega), ?_⟩
    refine forD_rng (n := (ts.map fun t : Nat => Da.int (t : Int)).length) (fun j δ M'' => (∃ u3 u4, δ = [some (.int (n : Nat)), some (tabD ts), some (.int (a : Nat)), u3, u4]) ∧ M'' = M' ∧ ∀ b < j, a ||| b = b → ts.getD a 0 ||| ts.getD b 0 = ts.getD b 0) ?_ ?_ ⟨⟨_, _, rfl⟩, rfl, fun a h => absurd h (Nat.not_lt_zero _)⟩
    · rintro b δ M'' NX' hb ⟨⟨u3, u4, rfl⟩, rfl, inv'⟩ nx'
      rw [hlen] at hb
      have go : ∀ u, (a ||| b = b → ts.getD a 0 ||| ts.getD b 0 = ts.getD b 0) → NX' [some (.int (n : Nat)), some (tabD ts), some (.int (a : Nat)), some (.int (b : Nat)), u] M'' := fun u h =>
        nx' _ _ ⟨⟨_, _, rfl⟩, rfl, fun c hc e => by
          by_cases hcb : c = b
          · subst hcb; exact h e
          · exact inv' c (by omega) e⟩
      refine ⟨_, tab_at hT ha, _, tab_at hT hb, n, ts.getD a 0, ts.getD b 0, rfl, hn, tab_lt hT ha, tab_lt hT hb, _, tab_at hT hb, ?_⟩
      by_cases c1 : ts.getD a 0 ||| ts.getD b 0 = ts.getD b 0
      · have hv : decide (((ts.getD a 0 ||| ts.getD b 0 : Nat) : Int) = ((ts.getD b 0 : Nat) : Int)) = true := decide_eq_true (by rw [c1])
        refine ifF (fun h => by rw [hv] at h; cases h) ?_
        exact go _ fun _ => c1
      · have hv : decide (((ts.getD a 0 ||| ts.getD b 0 : Nat) : Int) = ((ts.getD b 0 : Nat) : Int)) = false := decide_eq_false (fun h => c1 (by omega))
        refine ifT (by rw [hv]; rfl) ?_
        refine ⟨n, a, b, rfl, hn, ha, hb, ?_⟩
        by_cases c2 : a ||| b = b
        · have hv2 : decide (((a ||| b : Nat) : Int) = ((b : Nat) : Int)) = true := decide_eq_true (by rw [c2])
          refine ifT hv2 ?_
          have e : monoA (n * n) ts = false := by
            rw [Bool.eq_false_iff]; intro z
            exact c1 (monoA_iff.mp z a ha b hb c2)
          rw [e] at q
          exact q
        · have hv2 : ¬ decide (((a ||| b : Nat) : Int) = ((b : Nat) : Int)) = true := fun h => c2 (by have := of_decide_eq_true h; omega)
          refine ifF hv2 ?_
          exact go _ fun h => absurd h c2
    · rintro δ M'' ⟨⟨u3, u4, rfl⟩, rfl, inv'⟩
      rw [hlen] at inv'
      exact nx _ _ ⟨⟨_, _, _, rfl⟩, rfl, fun c hc b hb e => by
        by_cases hca : c = a
        · subst hca; exact inv' b hb e
        · exact inv c (by omega) b hb e⟩
  · rintro δ M' ⟨⟨u2, u3, u4, rfl⟩, rfl, inv⟩
    rw [hlen] at inv
    rw [monoA_iff.mpr inv] at q
    exact q
def spTried (C CM CT : Addr) : DSp := fun ds M Q _ => ∃ (n : Nat) (ts : List Nat), ds = [.int n, tabD ts] ∧ (n = 1 ∨ n = 2) ∧ OkT (n * n) ts ∧
  ((monoB (n * n) ts = false ∧ Q (.str "meaning") M) ∨ (monoB (n * n) ts = true ∧ 40 < manyF (termsF n ts) + 1 ∧ Q (.str "many 40") M) ∨
    (monoB (n * n) ts = true ∧ manyF (termsF n ts) + 1 ≤ 40 ∧ ∀ R, R.Perm (allF 6 (eithF n (termsF n ts))) → Q (Prc C "made" ownB1 (eithF n (termsF n ts)) R) M))
theorem D__law_tried {P : Program} {w : World} {K : PySem.W.Frag} {mg : Str → Option Value} {base : Heap} {C_Procedure : Addr} {C_Space : Addr} {C_InvalidProgram : Addr} {C_InvalidMeaning : Addr} {C_InvalidOperation : Addr} {C_InvalidNumber : Addr} {C_TooMany : Addr} (A : Facts K C_Procedure C_Space C_InvalidProgram C_InvalidMeaning C_InvalidOperation C_InvalidNumber C_TooMany) (M : MgOf K mg) (Z : Zs mg) (D_wrap_of : KnXD P w K mg base "wrap_of" 25 ["modes", "name", "table"] (spWrap C_Procedure C_InvalidMeaning C_TooMany)) : KnD P w K mg base "_law_tried" 26 ["_law_modes", "_law_table"] (spTried C_Procedure C_InvalidMeaning C_TooMany) := by
  refine KnD.of A.d__law_tried M sc__law_tried (fun _ _ _ _ _ _ us hl => match us, hl with | [_, _], _ => rfl) (fun ds M Q E ⟨_, _, h, _⟩ => by rw [h]; rfl) (fun f cdv A0 outer s H E hr => ?_)
  have hu := U.hu_of hr
  have hu1 := U.hu1_of hr
  have nd := sc__law_tried.nd
  refine ⟨_, (z_one (z_tryMany2 (fun _ _ => (z_one (z_retX (x_call D_wrap_of (hr.mono (by decide)) (x_cons (x_up (dn 0)) (x_cons (x_up d_str) (x_cons (x_up (dn 1)) x_nil))))))) (.asx (i := 2) ⟨rfl, by decide, .inl (M.of _ _ A.xe_TooMany.at_)⟩ sc__law_tried.nd rfl rfl (fun _ _ _ _ _ hz hf => (z_one (z_ret (d_op o_dadd d_str (d_b Z.repr b_repr c_drepr (d_cons (d_xf A.xe_TooMany.xf A.xe_TooMany.no hz hf (dn 2)) d_nil)))))) (.cons ⟨rfl, by decide, .inl (M.of _ _ A.x_InvalidMeaning.at_)⟩ (fun _ _ _ _ _ _ _ => (z_one (z_ret d_str))) .nil)))), ?_⟩
  rintro ds M Q Ed ⟨n, ts, rfl, hn, hT, h⟩
  refine ⟨n, ts, rfl, hn, hT, ?_⟩
  rcases h with ⟨hm, q⟩ | ⟨hm, h40, q⟩ | ⟨hm, h40, q⟩
  · refine .inl ⟨hm, ?_⟩
    exact ⟨false, A.em_InvalidMeaning_TooMany, (fun h => nomatch h), fun _ => ⟨true, A.em_InvalidMeaning_InvalidMeaning, (fun _ a d => q), fun h => nomatch h⟩⟩
  · refine .inr (.inl ⟨hm, h40, ?_⟩)
    refine ⟨true, A.em_TooMany_TooMany, fun _ a d x he => ?_, fun h => nomatch h⟩
    cases d with
    | none => exact nomatch he.1
    | some dd =>
      obtain ⟨_, rfl⟩ : [(("limit" : Str), Da.int 40)] ≠ [] ∧ x = .exn a dd [("limit", .int 40)] := he
      refine ⟨dd, [("limit", .int 40)], .int 40, rfl, rfl, rfl, rfl, by decide, ?_⟩
      have e2 : ("many " : Str) ++ Str.ofString (toString (40 : Int)) = "many 40" := by decide +kernel
      refine ⟨Nat.le_trans (show ("many " : Str).length + (Str.ofString (toString (40 : Int))).length ≤ 100 by decide +kernel) (by rw [sizeLine_eq]; omega), ?_⟩
      show (bodyE Q).rt (.str (("many " : Str) ++ Str.ofString (toString (40 : Int)))) M
      rw [e2]
      exact q
  · exact .inr (.inr ⟨hm, h40, fun R hR => ⟨M, fun _ _ h => h, q R hR⟩⟩)

end K69
set_option Elab.async false
set_option linter.all false
set_option maxRecDepth 100000
set_option maxHeartbeats 4000000



namespace K69
open PySem PySem.Spec PyProof.Rows L2 U
theorem small_pt {n d : Nat} {x : Da} (h : SmallOk n x) : PT (d + 1) x := by
  rcases h with rfl | ⟨a, b, _, rfl⟩
  · exact .inr (.inl ⟨_, rfl⟩)
  · exact .inl ⟨_, rfl⟩
theorem sq_pt {n d : Nat} {x : Da} (hn : n = 1 ∨ n = 2) (h : SqOk n x) : PT (d + 2) x := by
  obtain ⟨m, e, r, hm, he, hr, rfl⟩ := h
  have hc := cel_len r
  refine .inr (.inr ⟨_, _, .inl rfl, rfl, ?_, fun y hy => small_pt (seq_small he hr y hy)⟩)
  rw [seqL_len]; omega
theorem made_pt {n : Nat} {ts : List Nat} (hn : n = 1 ∨ n = 2) (hl : (termsF n ts).length ≤ 100) : PT 6 (eithF n (termsF n ts)) := by
  have h := terms_sq (n := n) (ts := ts)
  cases e : termsF n ts with
  | nil => exact .inl ⟨_, rfl⟩
  | cons a l =>
    rw [e] at h hl
    exact .inr (.inr ⟨_, _, .inr rfl, rfl, by omega, fun y hy => sq_pt hn (h y hy)⟩)
theorem terms_le {n : Nat} {ts : List Nat} : (termsF n ts).length ≤ manyF (termsF n ts) := by
  have : ∀ {l : List Da}, (∀ x ∈ l, SqOk n x) → l.length ≤ manyF l := fun {l} h => by
    induction l with
    | nil => exact Nat.le_refl _
    | cons a l ih =>
      have i1 := ih fun x hx => h x (List.mem_cons_of_mem _ hx)
      obtain ⟨m, e', r, _, _, _, rfl⟩ := h a List.mem_cons_self
      rw [manyF_cons, List.length_cons, seqF_len]; omega
  exact this (terms_sq (n := n) (ts := ts))
def spJudged : DSp := fun ds M Q _ => ∃ (n : Nat) (ts : List Nat), ds = [.int n, tabD ts] ∧ (n = 1 ∨ n = 2) ∧ OkT (n * n) ts ∧ Q (.bl true) M
theorem D__law_judged {P : Program} {w : World} {K : PySem.W.Frag} {mg : Str → Option Value} {base : Heap} {C_Procedure : Addr} {C_Space : Addr} {C_InvalidProgram : Addr} {C_InvalidMeaning : Addr} {C_InvalidOperation : Addr} {C_InvalidNumber : Addr} {C_TooMany : Addr} (A : Facts K C_Procedure C_Space C_InvalidProgram C_InvalidMeaning C_InvalidOperation C_InvalidNumber C_TooMany) (M : MgOf K mg) (Z : Zs mg) (D__law_tried : KnD P w K mg base "_law_tried" 26 ["_law_modes", "_law_table"] (spTried C_Procedure C_InvalidMeaning C_TooMany)) (D__law_is_monotone : KnD P w K mg base "_law_is_monotone" 3 ["_law_modes", "_law_table"] spMonoL) (D__law_terms : KnD P w K mg base "_law_terms" 4 ["_law_modes", "_law_table"] spTermsL) (D_Procedure_named : KnPD P w K mg base C_Procedure "named" 1 ["self"] (spGetP C_Procedure fun nm _ _ _ => .str nm)) (D_Procedure_parameters : KnPD P w K mg base C_Procedure "parameters" 1 ["self"] (spGetP C_Procedure fun _ own _ _ => parD own)) (D__law_is_plain : KnD P w K mg base "_law_is_plain" 12 ["_law_term", "_law_words"] spPlain) (D_Procedure_body : KnPD P w K mg base C_Procedure "body" 1 ["self"] (spGetP C_Procedure fun _ _ body _ => body)) (D__law_size : KnD P w K mg base "_law_size" 1 ["_law_modes"] spSizeL) (D__law_reckon : KnD P w K mg base "_law_reckon" 8 ["_law_modes", "_law_term", "_law_mine", "_law_book", "_law_asked_here"] (spReck 3)) : KnD P w K mg base "_law_judged" 27 ["_law_modes", "_law_table"] spJudged := by
  refine KnD.of A.d__law_judged M sc__law_judged (fun _ _ _ _ _ _ us hl => match us, hl with | [_, _], _ => rfl) (fun ds M Q E ⟨_, _, h, _⟩ => by rw [h]; rfl) (fun f cdv A0 outer s H E hr => ?_)
  have hu := U.hu_of hr
  have hu1 := U.hu1_of hr
  have nd := sc__law_judged.nd
  refine ⟨_, (z_cons (z_set 2 nd (d_call D__law_tried (hr.mono (by decide)) (d_cons (dn 0) (d_cons (dn 1) d_nil))))
      (z_cons (z_if (d_tnot (d_tv (d_call D__law_is_monotone (hr.mono (by decide)) (d_cons (dn 0) (d_cons (dn 1) d_nil))))) (z_one (z_ret (d_ecm (o_deq hu) (dn 2) d_str))) z_nil)
      (z_cons (z_if (d_tcm o_dgt (d_call D__law_terms (hr.mono (by decide)) (d_cons (dn 0) (d_cons (dn 1) d_nil))) d_int) (z_one (z_ret (d_ecm (o_deq hu) (dn 2) d_str))) z_nil)
      (z_cons (z_if (d_w (d_or (d_tv (d_b Z.isinstance b_isinstance (c_disiK (K := K) rfl) (d_cons (dn 2) (d_cons (d_ty Z.str b_str) d_nil)))) (d_or (d_tcm (o_dne hu) (d_prop D_Procedure_named A.cls_Procedure.cl (hr.mono (by decide)) (dn 2)) d_str) (d_or1 (d_tcm (o_dne hu) (d_prop D_Procedure_parameters A.cls_Procedure.cl (hr.mono (by decide)) (dn 2)) (d_tup (d_cons (d_tup (d_cons d_str (d_cons d_str d_nil))) d_nil))))))) (z_one (z_ret d_bl)) z_nil)
      (z_cons (z_if (d_tnot (d_tv (d_call D__law_is_plain (hr.mono (by decide)) (d_cons (d_prop D_Procedure_body A.cls_Procedure.cl (hr.mono (by decide)) (dn 2)) (d_cons (d_lst (d_cons d_str (d_cons d_str (d_cons d_str (d_cons d_str d_nil))))) d_nil))))) (z_one (z_ret d_bl)) z_nil)
      (z_cons (z_for PassesOwn.never rfl (d_rg1 Z.range (d_cons (d_call D__law_size (hr.mono (by decide)) (d_cons (dn 0) d_nil)) d_nil)) (t_n 3 nd) (z_one (z_if (d_tcm (o_dne hu) (d_call D__law_reckon (hr.mono (by decide)) (d_cons (dn 0) (d_cons (d_prop D_Procedure_body A.cls_Procedure.cl (hr.mono (by decide)) (dn 2)) (d_cons (d_stlD (d_disp1 (dn 3))) (d_cons d_dct0 (d_cons d_dct0 d_nil)))))) (d_ix (dn 1) (dn 3))) (z_one (z_ret d_bl)) z_nil)))
      (z_one (z_ret d_bl)))))))), ?_⟩
  rintro ds M Q Ed ⟨n, ts, rfl, hn, hT, q⟩
  have hp16 : 2 ^ (n * n) ≤ 16 := by rcases hn with rfl | rfl <;> decide
  refine ⟨n, ts, rfl, hn, hT, ?_⟩
  cases hm : monoB (n * n) ts with
  | false =>
    refine .inl ⟨rfl, ?_⟩
    refine ⟨n, ts, rfl, hn, hT, ?_⟩
    rw [hm]
    refine ifT rfl ?_
    exact (show Q (.bl (decide (("meaning" : Str) = "meaning"))) M from by rw [decide_eq_true rfl]; exact q)
  | true =>
    by_cases h40 : 40 < manyF (termsF n ts) + 1
    · refine .inr (.inl ⟨rfl, h40, ?_⟩)
      refine ⟨n, ts, rfl, hn, hT, ?_⟩
      rw [hm]
      refine ifF (by decide) ?_
      refine ⟨n, ts, rfl, hn, hT, ?_⟩
      refine ifT (decide_eq_true (by omega)) ?_
      exact (show Q (.bl (decide (("many 40" : Str) = "many 40"))) M from by rw [decide_eq_true rfl]; exact q)
    · refine .inr (.inr ⟨rfl, by omega, fun R hR => ?_⟩)
      refine ⟨n, ts, rfl, hn, hT, ?_⟩
      rw [hm]
      refine ifF (by decide) ?_
      refine ⟨n, ts, rfl, hn, hT, ?_⟩
      refine ifF (fun h => absurd (of_decide_eq_true h) (by omega)) ?_
      have hle := terms_le (n := n) (ts := ts)
      have ho := eith_prc hn (terms_sq (n := n) (ts := ts)) (by omega)
      have hb40 : (allF 6 (eithF n (termsF n ts))).length ≤ 40 := by
        have h := ho.bd
        unfold bodB at h
        rw [Bool.and_eq_true, decide_eq_true_eq] at h
        exact h.2
      have hpt := made_pt (ts := ts) hn (by omega)
      refine ⟨A.cls_Procedure.isC, _, U.kit_mkT (by decide) A.mr_str, ?_⟩
      refine ifF (by decide) ?_
      refine ⟨⟨rfl, trivial⟩, "made", ownB1, eithF n (termsF n ts), R, rfl, ?_⟩
      refine ⟨⟨rfl, trivial⟩, "made", ownB1, eithF n (termsF n ts), R, rfl, ?_⟩
      have hq : (!eqD (parD ownB1) (.tup [.tup [.str "b", .str "block"]])) = false := by decide +kernel
      refine ⟨rfl, rfl, (show okD (parD ownB1) = true from by decide +kernel), (show okD (.tup [.tup [.str "b", .str "block"]]) = true from by decide +kernel), ?_⟩
      refine ifF (fun h => by rw [hq] at h; cases h) ?_
      refine ⟨⟨rfl, trivial⟩, "made", ownB1, eithF n (termsF n ts), R, rfl, sz (by decide), eithF n (termsF n ts), rfl, hpt, hb40, ?_⟩
      refine ifF (by decide) ?_
      refine ⟨n, rfl, hn, rok (Int.natCast_nonneg _) (by show ((2 ^ (n * n) : Nat) : Int) ≤ 1000000; omega), ?_⟩
      refine forD_rng (n := 2 ^ (n * n)) (fun j δ M' => M' = M ∧ ∃ u3, δ = [some (.int (n : Nat)), some (tabD ts), some (Prc C_Procedure "made" ownB1 (eithF n (termsF n ts)) R), u3]) ?_ ?_ ⟨rfl, _, rfl⟩
      · rintro j δ M' NX hj ⟨rfl, u3, rfl⟩ nx
        refine ⟨⟨rfl, trivial⟩, "made", ownB1, eithF n (termsF n ts), R, rfl, ?_⟩
        refine fun p hp => ⟨_, mput_same, ?_⟩
        rw [mdel_put hp]
        refine ⟨n, j, eithF n (termsF n ts), ts.getD j 0, rfl, hn, body_rel hn hT hm hj (by omega), _, tab_at hT hj, ?_⟩
        refine ifF (by simp) ?_
        exact nx _ _ ⟨rfl, _, rfl⟩
      · rintro δ M' ⟨rfl, u3, rfl⟩
        exact q
theorem set_ok {N r v : Nat} {ts : List Nat} (h : OkT N ts) (hr : r < ts.length) (hv : v < 2 ^ N) : OkT N (ts.take r ++ [v] ++ ts.drop (r + 1)) := by
  refine ⟨?_, fun t ht => ?_⟩
  · rw [List.length_append, List.length_append, List.length_take, List.length_drop, List.length_singleton, ← h.1]; omega
  · rcases List.mem_append.mp ht with ht | ht
    · rcases List.mem_append.mp ht with ht | ht
      · exact h.2 t (List.mem_of_mem_take ht)
      · rw [List.mem_singleton.mp ht]; exact hv
    · exact h.2 t (List.mem_of_mem_drop ht)
theorem cut_fst {α : Type} {xs : List α} {r : Nat} (h : r < xs.length) : U.cutD xs none (some (r : Nat)) = xs.take r := by
  unfold U.cutD
  rw [HT.sIx_nat, HT.sIx_none, Nat.min_eq_left (by omega)]
  simp
theorem cut_lst {α : Type} {xs : List α} {r : Nat} (h : r < xs.length) : U.cutD xs (some ((r : Int) + 1)) none = xs.drop (r + 1) := by
  unfold U.cutD
  rw [show ((r : Int) + 1) = ((r + 1 : Nat) : Int) from rfl, HT.sIx_nat, HT.sIx_none, Nat.min_eq_left (by omega)]
  rw [List.take_of_length_le (by rw [List.length_drop]; exact Nat.le_refl _)]
theorem bent_eq {r v : Nat} {ts : List Nat} (hr : r < ts.length) : Da.tup (U.cutD (ts.map fun t : Nat => Da.int (t : Int)) none (some (r : Nat)) ++ [.int (v : Nat)] ++ U.cutD (ts.map fun t : Nat => Da.int (t : Int)) (some ((r : Int) + 1)) none) = tabD (ts.take r ++ [v] ++ ts.drop (r + 1)) := by
  rw [cut_fst (by rw [List.length_map]; exact hr), cut_lst (by rw [List.length_map]; exact hr)]
  unfold tabD
  rw [List.map_append, List.map_append, List.map_take, List.map_drop]; rfl
def tss : List (List Nat) := [[0, 0], [0, 1], [1, 1], [1, 0], List.replicate 16 0, List.replicate 16 15, List.range 16, List.replicate 15 0 ++ [15]]
theorem tss_ok : ∀ ts ∈ tss, (ts.length = 2 ∧ OkT 1 ts) ∨ (ts.length = 16 ∧ OkT 4 ts) := by
  have h : (tss.all fun ts => (decide (ts.length = 2) && (decide (ts.length = 2 ^ 1) && ts.all fun t => decide (t < 2 ^ 1))) || (decide (ts.length = 16) && (decide (ts.length = 2 ^ 4) && ts.all fun t => decide (t < 2 ^ 4)))) = true := by decide +kernel
  intro ts hts
  have h1 := List.all_eq_true.mp h ts hts
  simp only [Bool.or_eq_true, Bool.and_eq_true, decide_eq_true_eq, List.all_eq_true] at h1
  exact h1.imp (fun ⟨a, b, c⟩ => ⟨a, b, c⟩) (fun ⟨a, b, c⟩ => ⟨a, b, c⟩)
theorem D_law {P : Program} {w : World} {K : PySem.W.Frag} {mg : Str → Option Value} {base : Heap} {C_Procedure : Addr} {C_Space : Addr} {C_InvalidProgram : Addr} {C_InvalidMeaning : Addr} {C_InvalidOperation : Addr} {C_InvalidNumber : Addr} {C_TooMany : Addr} (A : Facts K C_Procedure C_Space C_InvalidProgram C_InvalidMeaning C_InvalidOperation C_InvalidNumber C_TooMany) (M : MgOf K mg) (Z : Zs mg) {f : Addr} {fd : FuncData} (F : Fun K "law" "law" s_law f fd)
  (D__law_pail : KnD P w K mg base "_law_pail" 1 ["_law_script", "_law_at"] spNumbers) (D__law_dip : KnD P w K mg base "_law_dip" 1 ["_law_pail_here", "_law_total"] spCast) (D__law_pick : KnD P w K mg base "_law_pick" 2 ["_law_pail_here", "_law_items"] spPick) (D__law_drawn_table : KnD P w K mg base "_law_drawn_table" 3 ["_law_pail_here", "_law_modes"] spDrawn) (D__law_size : KnD P w K mg base "_law_size" 1 ["_law_modes"] spSizeL) (D__law_judged : KnD P w K mg base "_law_judged" 27 ["_law_modes", "_law_table"] spJudged) : FnOk P w K mg base CX0 40 f fd ["_law_script"] (LSp K spLawD) := by
  refine fnok_of F sc_law (fun ds M Q E ⟨_, h, _⟩ => by rw [h]; rfl) (fun f cdv A0 outer s H E hr => ?_)
  have hu := U.hu_of hr
  have nd := sc_law.nd
  refine ⟨_, (z_cons (z_for PassesOwn.never rfl (d_rg1 Z.range (d_cons (d_b Z.max b_max (c_dmax rfl) (d_cons d_int (d_cons (d_b Z.min b_min (c_dmin rfl) (d_cons d_int (d_cons (d_b Z.len b_len c_dlen (d_cons (dn 0) d_nil)) d_nil))) d_nil))) d_nil)) (t_n 1 nd) (z_cons (z_set 2 nd (d_call D__law_pail (hr.mono (by decide)) (d_cons (dn 0) (d_cons (dn 1) d_nil))))
      (z_one (z_for PassesOwn.never rfl (d_rg1 Z.range (d_cons d_int d_nil)) (t_n 3 nd) (z_cons (z_set 4 nd (d_call D__law_pick (hr.mono (by decide)) (d_cons (dn 2) (d_cons (d_lst (d_cons d_int (d_cons d_int (d_cons d_int d_nil)))) d_nil))))
      (z_cons (z_set 5 nd (d_call D__law_drawn_table (hr.mono (by decide)) (d_cons (dn 2) (d_cons (dn 4) d_nil))))
      (z_cons (z_set 6 nd (d_call D__law_dip (hr.mono (by decide)) (d_cons (dn 2) (d_cons (d_b Z.len b_len c_dlen (d_cons (dn 5) d_nil)) d_nil))))
      (z_cons (z_set 7 nd (d_op o_dadd (d_op o_dadd (d_sl (dn 5) d_pnone (d_psome (dn 6))) (d_tup (d_cons (d_call D__law_dip (hr.mono (by decide)) (d_cons (dn 2) (d_cons (d_call D__law_size (hr.mono (by decide)) (d_cons (dn 4) d_nil)) d_nil))) d_nil))) (d_sl (dn 5) (d_psome (d_op o_dadd (dn 6) d_int)) d_pnone)))
      (z_one (z_if (d_w (d_or (d_tnot (d_tv (d_call D__law_judged (hr.mono (by decide)) (d_cons (dn 4) (d_cons (dn 5) d_nil))))) (d_or1 (d_tnot (d_tv (d_call D__law_judged (hr.mono (by decide)) (d_cons (dn 4) (d_cons (dn 7) d_nil)))))))) (z_one (z_ret d_bl)) z_nil))))))))))
      (z_cons (z_for PassesOwn.never rfl (d_it (d_lst (d_cons (d_tup (d_cons d_int (d_cons d_int d_nil))) (d_cons (d_tup (d_cons d_int (d_cons d_int d_nil))) (d_cons (d_tup (d_cons d_int (d_cons d_int d_nil))) (d_cons (d_tup (d_cons d_int (d_cons d_int d_nil))) (d_cons (d_op o_dmul (d_tup (d_cons d_int d_nil)) d_int) (d_cons (d_op o_dmul (d_tup (d_cons d_int d_nil)) d_int) (d_cons (d_tupRg rfl Z.tuple Z.range d_int) (d_cons (d_op o_dadd (d_op o_dmul (d_tup (d_cons d_int d_nil)) d_int) (d_tup (d_cons d_int d_nil))) d_nil)))))))))) (t_n 5 nd) (z_one (z_if (d_tnot (d_tv (d_call D__law_judged (hr.mono (by decide)) (d_cons (d_if (d_tcm (o_deq hu) (d_b Z.len b_len c_dlen (d_cons (dn 5) d_nil)) d_int) d_int d_int) (d_cons (dn 5) d_nil))))) (z_one (z_ret d_bl)) z_nil)))
      (z_one (z_ret d_bl)))), ?_⟩
  rintro ds M Q Ed ⟨ns, rfl, hl, q⟩
  obtain ⟨k, hk, hk2⟩ : ∃ k : Nat, (if (if (((ns.map Da.int).length : Nat) : Int) < 5 then (((ns.map Da.int).length : Nat) : Int) else 5) > 1 then (if (((ns.map Da.int).length : Nat) : Int) < 5 then (((ns.map Da.int).length : Nat) : Int) else 5) else 1) = (k : Int) ∧ k ≤ 5 := by
    refine ⟨(if (if (((ns.map Da.int).length : Nat) : Int) < 5 then (((ns.map Da.int).length : Nat) : Int) else 5) > 1 then (if (((ns.map Da.int).length : Nat) : Int) < 5 then (((ns.map Da.int).length : Nat) : Int) else 5) else 1).toNat, ?_, ?_⟩
    · rw [Int.toNat_of_nonneg]
      split <;> split <;> omega
    · split <;> split <;> omega
  refine ⟨rok (by rw [hk]; omega) (by rw [hk]; omega), ?_⟩
  rw [hk]
  refine forD_rng (n := k) (fun j δ M' => ∃ u1 u2 u3 u4 u5 u6 u7, δ = [some (.lst (ns.map Da.int)), u1, u2, u3, u4, u5, u6, u7]) ?_ ?_ ⟨_, _, _, _, _, _, _, rfl⟩
  · rintro j δ M' NX hj ⟨u1, u2, u3, u4, u5, u6, u7, rfl⟩ nx
    refine ⟨ns, j, rfl, hl, by omega, fun d a b c hd => ⟨rok (by decide) (by decide), ?_⟩⟩
    refine forD_rng (n := 3) (fun i δ M' => (∃ u3 u4 u5 u6 u7, δ = [some (.lst (ns.map Da.int)), some (.int (j : Nat)), some (.ref d), u3, u4, u5, u6, u7]) ∧ Die d M') ?_ ?_ ⟨⟨_, _, _, _, _, rfl⟩, ⟨_, _, _, mput_same⟩⟩
    · rintro i δ M' NX2 hi ⟨⟨u3, u4, u5, u6, u7, rfl⟩, hd0⟩ nx2
      refine ⟨sz (by decide), d, _, rfl, hd0, by decide, by decide, fun x M1 hx hd1 km1 => ?_⟩
      obtain ⟨n, hn, rfl⟩ : ∃ n : Nat, (n = 1 ∨ n = 2) ∧ x = .int (n : Nat) := by
        simp only [List.mem_cons, List.not_mem_nil, or_false] at hx
        rcases hx with rfl | rfl | rfl
        · exact ⟨1, .inl rfl, rfl⟩
        · exact ⟨2, .inr rfl, rfl⟩
        · exact ⟨2, .inr rfl, rfl⟩
      have hp16 : 2 ^ (n * n) ≤ 16 := by rcases hn with rfl | rfl <;> decide
      have hp1 : 0 < 2 ^ (n * n) := Nat.pos_of_ne_zero (by simp)
      refine ⟨d, n, rfl, hd1, hn, fun ts M2 hT hd2 km2 => ?_⟩
      have hlen : (ts.map fun t : Nat => Da.int (t : Int)).length = 2 ^ (n * n) := by rw [List.length_map]; exact hT.1
      refine ⟨d, (ts.map fun t : Nat => Da.int (t : Int)).length, rfl, hd2, by omega, by omega, fun r M3 hr hd3 km3 => ?_⟩
      rw [List.length_map] at hr
      refine ⟨n, rfl, hn, d, 2 ^ (n * n), rfl, hd3, hp1, by omega, fun v M4 hv hd4 km4 => ?_⟩
      have hcl1 : (U.cutD (ts.map fun t : Nat => Da.int (t : Int)) none (some (r : Nat))).length ≤ 16 := by
        rw [cut_fst (by rw [List.length_map]; exact hr), List.length_take]; omega
      have hcl2 : (U.cutD (ts.map fun t : Nat => Da.int (t : Int)) (some ((r : Int) + 1)) none).length ≤ 16 := by
        rw [cut_lst (by rw [List.length_map]; exact hr), List.length_drop]; omega
      refine ⟨rfl, sz (show _ + 1 ≤ _ by omega), sz ?_, ?_⟩
      · show (U.cutD (ts.map fun t : Nat => Da.int (t : Int)) none (some (r : Nat)) ++ [Da.int (v : Nat)]).length + (U.cutD (ts.map fun t : Nat => Da.int (t : Int)) (some ((r : Int) + 1)) none).length ≤ _
        rw [List.length_append, List.length_singleton]; omega
      have hb := set_ok hT hr hv
      refine ⟨n, ts, rfl, hn, hT, ?_⟩
      refine ifF (by decide) ?_
      refine ⟨n, ts.take r ++ [v] ++ ts.drop (r + 1), ?_, hn, hb, ?_⟩
      · rw [← bent_eq hr]
      refine ifF (by decide) ?_
      exact nx2 _ _ ⟨⟨_, _, _, _, _, rfl⟩, hd4⟩
    · rintro δ M' ⟨⟨u3, u4, u5, u6, u7, rfl⟩, hd0⟩
      exact nx _ _ ⟨_, _, _, _, _, _, _, rfl⟩
  · rintro δ M' ⟨u1, u2, u3, u4, u5, u6, u7, rfl⟩
    refine ⟨rfl, rfl, rfl, rfl, rfl, by simp, by decide, by decide, by decide, ?_⟩
    refine ⟨rfl, by simp, by decide, by decide, by decide, ⟨by decide, by decide⟩, ?_⟩
    refine ⟨rfl, by simp, by decide, by decide, by decide, rfl, rfl, ?_⟩
    refine ⟨rfl, ?_⟩
    refine forD_map (f := tabD) (l := tss) (fun l δ M'' => (∃ u1 u2 u3 u4 u5 u6 u7, δ = [some (.lst (ns.map Da.int)), u1, u2, u3, u4, u5, u6, u7]) ∧ M'' = M' ∧ ∀ ts ∈ l, (ts.length = 2 ∧ OkT 1 ts) ∨ (ts.length = 16 ∧ OkT 4 ts)) ?_ ?_ ⟨⟨_, _, _, _, _, _, _, rfl⟩, rfl, tss_ok⟩
    · rintro ts l δ M'' ⟨⟨u1, u2, u3, u4, u5, u6, u7, rfl⟩, rfl, hP⟩ nx
      have hP' := fun t h => hP t (List.mem_cons_of_mem _ h)
      rcases hP ts List.mem_cons_self with ⟨hl2, hT⟩ | ⟨hl2, hT⟩
      · refine ifT (decide_eq_true (by show (((ts.map fun t : Nat => Da.int (t : Int)).length : Nat) : Int) = 2; rw [List.length_map]; omega)) ?_
        refine ⟨1, ts, rfl, .inl rfl, hT, ?_⟩
        refine ifF (by decide) ?_
        exact nx _ _ ⟨⟨_, _, _, _, _, _, _, rfl⟩, rfl, hP'⟩
      · refine ifF (fun h => absurd (of_decide_eq_true h) (by show ¬ (((ts.map fun t : Nat => Da.int (t : Int)).length : Nat) : Int) = 2; rw [List.length_map]; omega)) ?_
        refine ⟨2, ts, rfl, .inr rfl, hT, ?_⟩
        refine ifF (by decide) ?_
        exact nx _ _ ⟨⟨_, _, _, _, _, _, _, rfl⟩, rfl, hP'⟩
    · rintro δ M'' ⟨⟨u1, u2, u3, u4, u5, u6, u7, rfl⟩, rfl, _⟩
      exact q _
theorem all_ok {P : Program} {w : World} {K : PySem.W.Frag} {mg : Str → Option Value} {h base : Heap} {C_Procedure : Addr} {C_Space : Addr} {C_InvalidProgram : Addr} {C_InvalidMeaning : Addr} {C_InvalidOperation : Addr} {C_InvalidNumber : Addr} {C_TooMany : Addr} (A : Facts K C_Procedure C_Space C_InvalidProgram C_InvalidMeaning C_InvalidOperation C_InvalidNumber C_TooMany) (X : K.In h) (G : h.Ns mainGlobals mg)
    {f : Addr} {fd : FuncData} (F : Fun K "law" "law" s_law f fd) : FnOk P w K mg base CX0 40 f fd ["_law_script"] (LSp K spLawD) := by
  have M := MgOf.mk' X G
  have Z := zs_of A M
  have d_InvalidNumber___init__ := D_InvalidNumber___init__ (P := P) (w := w) (base := base) A M Z 
  have d_TooMany___init__ := D_TooMany___init__ (P := P) (w := w) (base := base) A M Z 
  have d_is_integer := D_is_integer (P := P) (w := w) (base := base) A M Z 
  have d_is_from := D_is_from (P := P) (w := w) (base := base) A M Z d_is_integer
  have d_is_name := D_is_name (P := P) (w := w) (base := base) A M Z 
  have d_has_word := D_has_word (P := P) (w := w) (base := base) A M Z 
  have d_is_deed_table := D_is_deed_table (P := P) (w := w) (base := base) A M Z d_is_from
  have d_is_kind := D_is_kind (P := P) (w := w) (base := base) A M Z 
  have d_is_term_in := D_is_term_in (P := P) (w := w) (base := base) A M Z d_has_word d_is_name d_is_deed_table d_is_kind
  have d_inside := D_inside (P := P) (w := w) (base := base) A M Z 
  have d_pieces_of := D_pieces_of (P := P) (w := w) (base := base) A M Z d_inside
  have d_are_parameters := D_are_parameters (P := P) (w := w) (base := base) A M Z d_is_name
  have d_is_body := D_is_body (P := P) (w := w) (base := base) A M Z d_is_term_in d_pieces_of
  have d_Procedure___init__ := D_Procedure___init__ (P := P) (w := w) (base := base) A M Z d_is_name d_are_parameters d_is_body d_pieces_of
  have d_Procedure_named := D_Procedure_named (P := P) (w := w) (base := base) A M Z 
  have d_Procedure_parameters := D_Procedure_parameters (P := P) (w := w) (base := base) A M Z 
  have d_Procedure_body := D_Procedure_body (P := P) (w := w) (base := base) A M Z 
  have d_Procedure___len__ := D_Procedure___len__ (P := P) (w := w) (base := base) A M Z 
  have d_Space___init__ := D_Space___init__ (P := P) (w := w) (base := base) A M Z d_is_from
  have d_Space_is_relation := D_Space_is_relation (P := P) (w := w) (base := base) A M Z d_is_from
  have d_Space_bit := D_Space_bit (P := P) (w := w) (base := base) A M Z 
  have d_Space_has := D_Space_has (P := P) (w := w) (base := base) A M Z d_Space_bit
  have d_Space_require_relation := D_Space_require_relation (P := P) (w := w) (base := base) A M Z d_Space_is_relation
  have d_Space_is_table := D_Space_is_table (P := P) (w := w) (base := base) A M Z d_Space_is_relation
  have d_Space_require_table := D_Space_require_table (P := P) (w := w) (base := base) A M Z d_Space_is_table
  have d_Space_is_monotone := D_Space_is_monotone (P := P) (w := w) (base := base) A M Z d_Space_require_table
  have d_Space_pairs := D_Space_pairs (P := P) (w := w) (base := base) A M Z d_Space_require_relation d_Space_has
  have d__law_pail := D__law_pail (P := P) (w := w) (base := base) A M Z 
  have d__law_dip := D__law_dip (P := P) (w := w) (base := base) A M Z 
  have d__law_pick := D__law_pick (P := P) (w := w) (base := base) A M Z d__law_dip
  have d_deed_from := D_deed_from (P := P) (w := w) (base := base) A M Z 
  have d_either_of := D_either_of (P := P) (w := w) (base := base) A M Z 
  have d_least_relations := D_least_relations (P := P) (w := w) (base := base) A M Z d_Space_has
  have d_seq_for := D_seq_for (P := P) (w := w) (base := base) A M Z d_Space_pairs d_deed_from
  have d_terms_for := D_terms_for (P := P) (w := w) (base := base) A M Z d_least_relations d_seq_for
  have d_wrap_of := D_wrap_of (P := P) (w := w) (base := base) A M Z d_is_from d_InvalidNumber___init__ d_is_name d_Space___init__ d_Space_is_table d_Space_is_monotone d_terms_for d_TooMany___init__ d_Procedure___init__ d_either_of
  have d__law_has := D__law_has (P := P) (w := w) (base := base) A M Z 
  have d__law_bit := D__law_bit (P := P) (w := w) (base := base) A M Z 
  have d__law_size := D__law_size (P := P) (w := w) (base := base) A M Z 
  have d__law_after := D__law_after (P := P) (w := w) (base := base) A M Z d__law_has d__law_bit
  have d__law_either := D__law_either (P := P) (w := w) (base := base) A M Z d__law_has d__law_bit
  have d__law_asked := D__law_asked (P := P) (w := w) (base := base) A M Z 
  have d__law_meanings := D__law_meanings (P := P) (w := w) (base := base) A M Z 
  have d__law_reckon := D__law_reckon (P := P) (w := w) (base := base) A M Z d__law_asked d__law_meanings d__law_after d__law_either d__law_bit
  have d__law_pieces := D__law_pieces (P := P) (w := w) (base := base) A M Z 
  have d__law_depth := D__law_depth (P := P) (w := w) (base := base) A M Z 
  have d__law_is_plain := D__law_is_plain (P := P) (w := w) (base := base) A M Z d__law_pieces d__law_depth
  have d__law_least := D__law_least (P := P) (w := w) (base := base) A M Z d__law_size d__law_has d__law_either
  have d__law_drawn_table := D__law_drawn_table (P := P) (w := w) (base := base) A M Z d__law_pick d__law_dip d__law_size d__law_either
  have d__law_terms := D__law_terms (P := P) (w := w) (base := base) A M Z d__law_least d__law_has
  have d__law_is_monotone := D__law_is_monotone (P := P) (w := w) (base := base) A M Z d__law_either
  have d__law_tried := D__law_tried (P := P) (w := w) (base := base) A M Z d_wrap_of
  have d__law_judged := D__law_judged (P := P) (w := w) (base := base) A M Z d__law_tried d__law_is_monotone d__law_terms d_Procedure_named d_Procedure_parameters d__law_is_plain d_Procedure_body d__law_size d__law_reckon
  exact D_law A M Z F d__law_pail d__law_dip d__law_pick d__law_drawn_table d__law_size d__law_judged
theorem law_start {K : PySem.W.Frag} {H : Hp} {a : Addr} {ns : List Int} (hl : ns.length ≤ 63) (hS : SqL K H a (ns.map V.int)) : LSp K spLawD [.ref a] H (fun v _ => v = .bl true) fun _ _ _ => False := by
  obtain ⟨s, r⟩ := start_state hS
  refine ⟨NoF, _, _, _, fun d _ => d = .bl true, X0, r, s, ⟨ns, rfl, hl, fun _ => rfl⟩, fun v H' W' d M' g s' r q => ?_, fun _ _ _ _ _ _ _ _ _ z => z.elim⟩
  subst q
  cases r
  rfl
theorem fin {P : Program} {w : World} {K : PySem.W.Frag} {mg : Str → Option Value} {h : Heap} (X : K.In h) (G : h.Ns mainGlobals mg) (A : ∃ C1 C2 C3 C4 C5 C6 C7, Facts K C1 C2 C3 C4 C5 C6 C7) :
    HasDef K "law" s_law ∧ ∀ (f : Addr) (fd : FuncData) (base : Heap), K.In base → base.Ns mainGlobals mg → Fun K "law" "law" s_law f fd → FnOk P w K mg base CX0 40 f fd ["_law_script"] (LSp K spLawD) := by
  obtain ⟨C1, C2, C3, C4, C5, C6, C7, A⟩ := A
  exact ⟨A.d_law, fun _ _ base _ _ F => all_ok A X G F⟩

end K69
set_option Elab.async false
set_option linter.all false
set_option maxRecDepth 100000
set_option maxHeartbeats 4000000





namespace K69
open PySem PySem.Spec PyProof.Rows L2 U
end K69
open PySem PySem.W PyProof.Rows
set_option maxRecDepth 100000 in
set_option maxHeartbeats 0 in
theorem PySem.Challenge.cw_blockshanded_k69_wraps_made_holds : PySem.Challenge.rw_blockshanded_k69_wraps_made.Holds := by
  w_on; o_law; k_head; (case hw => w_witness2)
  k_fill
  refine U.walk_law (l := PySem.Challenge.rw_blockshanded_k69_wraps_made) (n := 63) (k := 40) (x := "_law_script") (st := K69.s_law) (sp := fun K => U.LSp K U.spLawD) rfl (by decide) rfl ⟨rfl, by decide, by decide⟩ rfl (fun w h Y => PySem.W.kIn_of Y) (fun _ _ _ _ _ _ us hl => match us, hl with | [_], _ => rfl) ?F (fun K H a ns hl _ hS => K69.law_start hl hS)
  case F =>
    intro w mg h KX G
    refine K69.fin KX G ?A
    refine' ⟨_, _, _, _, _, _, _, ?f⟩
    case f =>
      constructor
      case cls_Procedure => (refine' U.HasCls.mk' ?qa ?qb ?qc ?qd ?qe ?qf ?qg ?qh ?qi ?qj ?qk; (case qa => k_is); (case qb => k_is); (case qc => k_is); (case qd => k_is); (case qe => k_is); (case qf => k_is); (case qg => k_is); (case qh => k_is); (case qi => k_is); (case qj => k_is); (case qk => k_is))
      case cls_Space => (refine' U.HasCls.mk' ?qa ?qb ?qc ?qd ?qe ?qf ?qg ?qh ?qi ?qj ?qk; (case qa => k_is); (case qb => k_is); (case qc => k_is); (case qd => k_is); (case qe => k_is); (case qf => k_is); (case qg => k_is); (case qh => k_is); (case qi => k_is); (case qj => k_is); (case qk => k_is))
      case d_is_integer => (refine' U.has_mk ?qa ?ql ?qc ?qk; (case qa => k_is); (case ql => k_is); (case qc => k_is); (case qk => k_is))
      case d_is_from => (refine' U.has_mk ?qa ?ql ?qc ?qk; (case qa => k_is); (case ql => k_is); (case qc => k_is); (case qk => k_is))
      case d_is_name => (refine' U.has_mk ?qa ?ql ?qc ?qk; (case qa => k_is); (case ql => k_is); (case qc => k_is); (case qk => k_is))
      case d_has_word => (refine' U.has_mk ?qa ?ql ?qc ?qk; (case qa => k_is); (case ql => k_is); (case qc => k_is); (case qk => k_is))
      case d_is_deed_table => (refine' U.has_mk ?qa ?ql ?qc ?qk; (case qa => k_is); (case ql => k_is); (case qc => k_is); (case qk => k_is))
      case d_is_kind => (refine' U.has_mk ?qa ?ql ?qc ?qk; (case qa => k_is); (case ql => k_is); (case qc => k_is); (case qk => k_is))
      case d_is_term_in => (refine' U.has_mk ?qa ?ql ?qc ?qk; (case qa => k_is); (case ql => k_is); (case qc => k_is); (case qk => k_is))
      case d_is_wrap_in => (refine' U.has_mk ?qa ?ql ?qc ?qk; (case qa => k_is); (case ql => k_is); (case qc => k_is); (case qk => k_is))
      case d_is_piece => (refine' U.has_mk ?qa ?ql ?qc ?qk; (case qa => k_is); (case ql => k_is); (case qc => k_is); (case qk => k_is))
      case d_are_given => (refine' U.has_mk ?qa ?ql ?qc ?qk; (case qa => k_is); (case ql => k_is); (case qc => k_is); (case qk => k_is))
      case d_inside => (refine' U.has_mk ?qa ?ql ?qc ?qk; (case qa => k_is); (case ql => k_is); (case qc => k_is); (case qk => k_is))
      case d_pieces_of => (refine' U.has_mk ?qa ?ql ?qc ?qk; (case qa => k_is); (case ql => k_is); (case qc => k_is); (case qk => k_is))
      case d_are_parameters => (refine' U.has_mk ?qa ?ql ?qc ?qk; (case qa => k_is); (case ql => k_is); (case qc => k_is); (case qk => k_is))
      case d_is_body => (refine' U.has_mk ?qa ?ql ?qc ?qk; (case qa => k_is); (case ql => k_is); (case qc => k_is); (case qk => k_is))
      case d_deed_from => (refine' U.has_mk ?qa ?ql ?qc ?qk; (case qa => k_is); (case ql => k_is); (case qc => k_is); (case qk => k_is))
      case d_either_of => (refine' U.has_mk ?qa ?ql ?qc ?qk; (case qa => k_is); (case ql => k_is); (case qc => k_is); (case qk => k_is))
      case d_least_relations => (refine' U.has_mk ?qa ?ql ?qc ?qk; (case qa => k_is); (case ql => k_is); (case qc => k_is); (case qk => k_is))
      case d_seq_for => (refine' U.has_mk ?qa ?ql ?qc ?qk; (case qa => k_is); (case ql => k_is); (case qc => k_is); (case qk => k_is))
      case d_terms_for => (refine' U.has_mk ?qa ?ql ?qc ?qk; (case qa => k_is); (case ql => k_is); (case qc => k_is); (case qk => k_is))
      case d_wrap_of => (refine' U.has_mk ?qa ?ql ?qc ?qk; (case qa => k_is); (case ql => k_is); (case qc => k_is); (case qk => k_is))
      case d__law_pail => (refine' U.has_mk ?qa ?ql ?qc ?qk; (case qa => k_is); (case ql => k_is); (case qc => k_is); (case qk => k_is))
      case d__law_dip => (refine' U.has_mk ?qa ?ql ?qc ?qk; (case qa => k_is); (case ql => k_is); (case qc => k_is); (case qk => k_is))
      case d__law_pick => (refine' U.has_mk ?qa ?ql ?qc ?qk; (case qa => k_is); (case ql => k_is); (case qc => k_is); (case qk => k_is))
      case d__law_has => (refine' U.has_mk ?qa ?ql ?qc ?qk; (case qa => k_is); (case ql => k_is); (case qc => k_is); (case qk => k_is))
      case d__law_bit => (refine' U.has_mk ?qa ?ql ?qc ?qk; (case qa => k_is); (case ql => k_is); (case qc => k_is); (case qk => k_is))
      case d__law_size => (refine' U.has_mk ?qa ?ql ?qc ?qk; (case qa => k_is); (case ql => k_is); (case qc => k_is); (case qk => k_is))
      case d__law_after => (refine' U.has_mk ?qa ?ql ?qc ?qk; (case qa => k_is); (case ql => k_is); (case qc => k_is); (case qk => k_is))
      case d__law_either => (refine' U.has_mk ?qa ?ql ?qc ?qk; (case qa => k_is); (case ql => k_is); (case qc => k_is); (case qk => k_is))
      case d__law_asked => (refine' U.has_mk ?qa ?ql ?qc ?qk; (case qa => k_is); (case ql => k_is); (case qc => k_is); (case qk => k_is))
      case d__law_reckon => (refine' U.has_mk ?qa ?ql ?qc ?qk; (case qa => k_is); (case ql => k_is); (case qc => k_is); (case qk => k_is))
      case d__law_meanings => (refine' U.has_mk ?qa ?ql ?qc ?qk; (case qa => k_is); (case ql => k_is); (case qc => k_is); (case qk => k_is))
      case d__law_pieces => (refine' U.has_mk ?qa ?ql ?qc ?qk; (case qa => k_is); (case ql => k_is); (case qc => k_is); (case qk => k_is))
      case d__law_depth => (refine' U.has_mk ?qa ?ql ?qc ?qk; (case qa => k_is); (case ql => k_is); (case qc => k_is); (case qk => k_is))
      case d__law_is_plain => (refine' U.has_mk ?qa ?ql ?qc ?qk; (case qa => k_is); (case ql => k_is); (case qc => k_is); (case qk => k_is))
      case d__law_least => (refine' U.has_mk ?qa ?ql ?qc ?qk; (case qa => k_is); (case ql => k_is); (case qc => k_is); (case qk => k_is))
      case d__law_drawn_table => (refine' U.has_mk ?qa ?ql ?qc ?qk; (case qa => k_is); (case ql => k_is); (case qc => k_is); (case qk => k_is))
      case d__law_terms => (refine' U.has_mk ?qa ?ql ?qc ?qk; (case qa => k_is); (case ql => k_is); (case qc => k_is); (case qk => k_is))
      case d__law_tried => (refine' U.has_mk ?qa ?ql ?qc ?qk; (case qa => k_is); (case ql => k_is); (case qc => k_is); (case qk => k_is))
      case d__law_is_monotone => (refine' U.has_mk ?qa ?ql ?qc ?qk; (case qa => k_is); (case ql => k_is); (case qc => k_is); (case qk => k_is))
      case d__law_judged => (refine' U.has_mk ?qa ?ql ?qc ?qk; (case qa => k_is); (case ql => k_is); (case qc => k_is); (case qk => k_is))
      case d_law => (refine' U.has_mk ?qa ?ql ?qc ?qk; (case qa => k_is); (case ql => k_is); (case qc => k_is); (case qk => k_is))
      case m_Procedure___init__ => (refine' U.meth_mk ?qa ?qi ?ql ?qc ?qk ?qg ?qt ?qf ?qp; (case qa => k_is); (case qi => k_is); (case ql => k_is); (case qc => k_is); (case qk => k_is); (case qg => k_is); (case qt => k_is); (case qf => k_is); (case qp => decide +kernel))
      case p_Procedure_named => (refine' U.prop_mk ?qa ?qb ?qt ?qr ?ql ?qc ?qk; (case qa => k_is); (case qb => k_is); (case qt => k_is); (case qr => k_is); (case ql => k_is); (case qc => k_is); (case qk => k_is))
      case p_Procedure_parameters => (refine' U.prop_mk ?qa ?qb ?qt ?qr ?ql ?qc ?qk; (case qa => k_is); (case qb => k_is); (case qt => k_is); (case qr => k_is); (case ql => k_is); (case qc => k_is); (case qk => k_is))
      case p_Procedure_body => (refine' U.prop_mk ?qa ?qb ?qt ?qr ?ql ?qc ?qk; (case qa => k_is); (case qb => k_is); (case qt => k_is); (case qr => k_is); (case ql => k_is); (case qc => k_is); (case qk => k_is))
      case m_Procedure___len__ => (refine' U.meth_mk ?qa ?qi ?ql ?qc ?qk ?qg ?qt ?qf ?qp; (case qa => k_is); (case qi => k_is); (case ql => k_is); (case qc => k_is); (case qk => k_is); (case qg => k_is); (case qt => k_is); (case qf => k_is); (case qp => decide +kernel))
      case m_Procedure___eq__ => (refine' U.meth_mk ?qa ?qi ?ql ?qc ?qk ?qg ?qt ?qf ?qp; (case qa => k_is); (case qi => k_is); (case ql => k_is); (case qc => k_is); (case qk => k_is); (case qg => k_is); (case qt => k_is); (case qf => k_is); (case qp => decide +kernel))
      case m_Procedure___str__ => (refine' U.meth_mk ?qa ?qi ?ql ?qc ?qk ?qg ?qt ?qf ?qp; (case qa => k_is); (case qi => k_is); (case ql => k_is); (case qc => k_is); (case qk => k_is); (case qg => k_is); (case qt => k_is); (case qf => k_is); (case qp => decide +kernel))
      case i_Space => (refine' U.initk_mk ?qa ?qi ?ql ?qc ?qk ?qg ?qt ?qf ?qd ?qr ?qp; (case qa => k_is); (case qi => k_is); (case ql => k_is); (case qc => k_is); (case qk => k_is); (case qg => k_is); (case qt => k_is); (case qf => k_is); (case qd => k_is); (case qr => rfl); (case qp => decide +kernel))
      case m_Space_bit => (refine' U.meth_mk ?qa ?qi ?ql ?qc ?qk ?qg ?qt ?qf ?qp; (case qa => k_is); (case qi => k_is); (case ql => k_is); (case qc => k_is); (case qk => k_is); (case qg => k_is); (case qt => k_is); (case qf => k_is); (case qp => decide +kernel))
      case m_Space_has => (refine' U.meth_mk ?qa ?qi ?ql ?qc ?qk ?qg ?qt ?qf ?qp; (case qa => k_is); (case qi => k_is); (case ql => k_is); (case qc => k_is); (case qk => k_is); (case qg => k_is); (case qt => k_is); (case qf => k_is); (case qp => decide +kernel))
      case m_Space_is_relation => (refine' U.meth_mk ?qa ?qi ?ql ?qc ?qk ?qg ?qt ?qf ?qp; (case qa => k_is); (case qi => k_is); (case ql => k_is); (case qc => k_is); (case qk => k_is); (case qg => k_is); (case qt => k_is); (case qf => k_is); (case qp => decide +kernel))
      case m_Space_require_relation => (refine' U.meth_mk ?qa ?qi ?ql ?qc ?qk ?qg ?qt ?qf ?qp; (case qa => k_is); (case qi => k_is); (case ql => k_is); (case qc => k_is); (case qk => k_is); (case qg => k_is); (case qt => k_is); (case qf => k_is); (case qp => decide +kernel))
      case m_Space_pairs => (refine' U.meth_mk ?qa ?qi ?ql ?qc ?qk ?qg ?qt ?qf ?qp; (case qa => k_is); (case qi => k_is); (case ql => k_is); (case qc => k_is); (case qk => k_is); (case qg => k_is); (case qt => k_is); (case qf => k_is); (case qp => decide +kernel))
      case m_Space_is_table => (refine' U.meth_mk ?qa ?qi ?ql ?qc ?qk ?qg ?qt ?qf ?qp; (case qa => k_is); (case qi => k_is); (case ql => k_is); (case qc => k_is); (case qk => k_is); (case qg => k_is); (case qt => k_is); (case qf => k_is); (case qp => decide +kernel))
      case m_Space_require_table => (refine' U.meth_mk ?qa ?qi ?ql ?qc ?qk ?qg ?qt ?qf ?qp; (case qa => k_is); (case qi => k_is); (case ql => k_is); (case qc => k_is); (case qk => k_is); (case qg => k_is); (case qt => k_is); (case qf => k_is); (case qp => decide +kernel))
      case m_Space_is_monotone => (refine' U.meth_mk ?qa ?qi ?ql ?qc ?qk ?qg ?qt ?qf ?qp; (case qa => k_is); (case qi => k_is); (case ql => k_is); (case qc => k_is); (case qk => k_is); (case qg => k_is); (case qt => k_is); (case qf => k_is); (case qp => decide +kernel))
      case n_Procedure_own_name => (refine' U.noattr_mk ?qa; (case qa => k_is))
      case n_Procedure_own_parameters => (refine' U.noattr_mk ?qa; (case qa => k_is))
      case n_Procedure_own_body => (refine' U.noattr_mk ?qa; (case qa => k_is))
      case n_Procedure_own_kinds => (refine' U.noattr_mk ?qa; (case qa => k_is))
      case n_Procedure_own_pieces => (refine' U.noattr_mk ?qa; (case qa => k_is))
      case n_Procedure_own_shape => (refine' U.noattr_mk ?qa; (case qa => k_is))
      case n_Space_own_modes => (refine' U.noattr_mk ?qa; (case qa => k_is))
      case n_Space_own_watched => (refine' U.noattr_mk ?qa; (case qa => k_is))
      case n_Space_own_ends => (refine' U.noattr_mk ?qa; (case qa => k_is))
      case n_Space_own_powers => (refine' U.noattr_mk ?qa; (case qa => k_is))
      case n_Space_own_size => (refine' U.noattr_mk ?qa; (case qa => k_is))
      case n_Space_own_same => (refine' U.noattr_mk ?qa; (case qa => k_is))
      case x_InvalidProgram => (refine' ⟨?qa, ?qb, ?qc, ?qd, ?qe⟩; (case qa => k_is); (case qb => k_exc); (case qc => k_is); (case qd => k_is); (case qe => k_is))
      case x_InvalidMeaning => (refine' ⟨?qa, ?qb, ?qc, ?qd, ?qe⟩; (case qa => k_is); (case qb => k_exc); (case qc => k_is); (case qd => k_is); (case qe => k_is))
      case x_InvalidOperation => (refine' ⟨?qa, ?qb, ?qc, ?qd, ?qe⟩; (case qa => k_is); (case qb => k_exc); (case qc => k_is); (case qd => k_is); (case qe => k_is))
      case xe_InvalidNumber => (refine' U.xerr_mk (VV0.EB2.of PySem.F.excBase_IndexError) ⟨PySem.F.store_IndexError.passes, by decide +kernel⟩ ?qa ?ql ?qs ?qe ?qt ?qk ?qi ?qm ?qc ?qf ?qy ?qn ?qv ?qg ?qh ?qd; (case qa => k_is); (case ql => k_is); (case qs => k_is); (case qe => k_is); (case qt => k_is); (case qk => k_is); (case qi => k_is); (case qm => k_is); (case qc => k_is); (case qf => k_is); (case qy => k_is); (case qn => k_is); (case qv => k_is); (case qg => k_is); (case qh => k_is); (case qd => k_is))
      case zb_InvalidNumber => (k_is)
      case xe_TooMany => (refine' U.xerr_mk (VV0.EB2.of PySem.F.excBase_OverflowError) ⟨PySem.F.store_OverflowError.passes, by decide +kernel⟩ ?qa ?ql ?qs ?qe ?qt ?qk ?qi ?qm ?qc ?qf ?qy ?qn ?qv ?qg ?qh ?qd; (case qa => k_is); (case ql => k_is); (case qs => k_is); (case qe => k_is); (case qt => k_is); (case qk => k_is); (case qi => k_is); (case qm => k_is); (case qc => k_is); (case qf => k_is); (case qy => k_is); (case qn => k_is); (case qv => k_is); (case qg => k_is); (case qh => k_is); (case qd => k_is))
      case zb_TooMany => (k_is)
      case em_InvalidProgram_InvalidProgram => (first | k_is | kernel_rfl)
      case em_InvalidProgram_InvalidMeaning => (first | k_is | kernel_rfl)
      case em_InvalidProgram_InvalidOperation => (first | k_is | kernel_rfl)
      case em_InvalidProgram_InvalidNumber => (first | k_is | kernel_rfl)
      case em_InvalidProgram_TooMany => (first | k_is | kernel_rfl)
      case em_InvalidMeaning_InvalidProgram => (first | k_is | kernel_rfl)
      case em_InvalidMeaning_InvalidMeaning => (first | k_is | kernel_rfl)
      case em_InvalidMeaning_InvalidOperation => (first | k_is | kernel_rfl)
      case em_InvalidMeaning_InvalidNumber => (first | k_is | kernel_rfl)
      case em_InvalidMeaning_TooMany => (first | k_is | kernel_rfl)
      case em_InvalidOperation_InvalidProgram => (first | k_is | kernel_rfl)
      case em_InvalidOperation_InvalidMeaning => (first | k_is | kernel_rfl)
      case em_InvalidOperation_InvalidOperation => (first | k_is | kernel_rfl)
      case em_InvalidOperation_InvalidNumber => (first | k_is | kernel_rfl)
      case em_InvalidOperation_TooMany => (first | k_is | kernel_rfl)
      case em_InvalidNumber_InvalidProgram => (first | k_is | kernel_rfl)
      case em_InvalidNumber_InvalidMeaning => (first | k_is | kernel_rfl)
      case em_InvalidNumber_InvalidOperation => (first | k_is | kernel_rfl)
      case em_InvalidNumber_InvalidNumber => (first | k_is | kernel_rfl)
      case em_InvalidNumber_TooMany => (first | k_is | kernel_rfl)
      case em_TooMany_InvalidProgram => (first | k_is | kernel_rfl)
      case em_TooMany_InvalidMeaning => (first | k_is | kernel_rfl)
      case em_TooMany_InvalidOperation => (first | k_is | kernel_rfl)
      case em_TooMany_InvalidNumber => (first | k_is | kernel_rfl)
      case em_TooMany_TooMany => (first | k_is | kernel_rfl)
      case ne_Procedure => (k_is)
      case kt_NoneType => (refine' U.kit_mk ?qa ?qb ?qc; (case qa => k_is); (case qb => k_is); (case qc => k_is))
      case nf_NoneType => (k_is)
      case kt_bool => (refine' U.kit_mk ?qa ?qb ?qc; (case qa => k_is); (case qb => k_is); (case qc => k_is))
      case nf_bool => (k_is)
      case kt_int => (refine' U.kit_mk ?qa ?qb ?qc; (case qa => k_is); (case qb => k_is); (case qc => k_is))
      case nf_int => (k_is)
      case kt_str => (refine' U.kit_mk ?qa ?qb ?qc; (case qa => k_is); (case qb => k_is); (case qc => k_is))
      case nf_str => (k_is)
      case kt_list => (refine' U.kit_mk ?qa ?qb ?qc; (case qa => k_is); (case qb => k_is); (case qc => k_is))
      case nf_list => (k_is)
      case kt_tuple => (refine' U.kit_mk ?qa ?qb ?qc; (case qa => k_is); (case qb => k_is); (case qc => k_is))
      case nf_tuple => (k_is)
      case kt_dict => (refine' U.kit_mk ?qa ?qb ?qc; (case qa => k_is); (case qb => k_is); (case qc => k_is))
      case nf_dict => (k_is)
      case mr_str => (k_is)
      case z_abs => (k_is)
      case z_all => (k_is)
      case z_any => (k_is)
      case z_bool => (k_is)
      case z_dict => (k_is)
      case z_enumerate => (k_is)
      case z_int => (k_is)
      case z_isinstance => (k_is)
      case z_len => (k_is)
      case z_list => (k_is)
      case z_max => (k_is)
      case z_min => (k_is)
      case z_range => (k_is)
      case z_repr => (k_is)
      case z_str => (k_is)
      case z_sum => (k_is)
      case z_tuple => (k_is)
      case c_LETTERS => (refine' U.cst_str ?qe; (case qe => k_is))
      case c_MAX_LETTERS => (refine' U.cst_int ?qe; (case qe => k_is))
      case c_BLOCK => (refine' U.cst_str ?qe; (case qe => k_is))
      case c_WRAP => (refine' U.cst_str ?qe; (case qe => k_is))
      case c_TERM_WORDS => (refine' U.kstrs_mk ?qa ?qb ?qc ?qd; (case qa => k_is); (case qb => k_is); (case qc => decide +kernel); (case qd => exact (.cons ⟨_, rfl⟩ (.cons ⟨_, rfl⟩ (.cons ⟨_, rfl⟩ (.cons ⟨_, rfl⟩ (.cons ⟨_, rfl⟩ (.cons ⟨_, rfl⟩ .nil))))))))
      case c_WRAP_WORDS => (refine' U.kstrs_mk ?qa ?qb ?qc ?qd; (case qa => k_is); (case qb => k_is); (case qc => decide +kernel); (case qd => exact (.cons ⟨_, rfl⟩ (.cons ⟨_, rfl⟩ .nil))))
      case c_MAX_PARAMETERS => (refine' U.cst_int ?qe; (case qe => k_is))
      case c_MAX_DEPTH => (refine' U.cst_int ?qe; (case qe => k_is))
      case c_MAX_TERMS => (refine' U.cst_int ?qe; (case qe => k_is))
      case c_MAX_MODES => (refine' U.cst_int ?qe; (case qe => k_is))
      case c_GO => (refine' U.cst_str ?qe; (case qe => k_is))
#print axioms PySem.Challenge.cw_blockshanded_k69_wraps_made_holds
