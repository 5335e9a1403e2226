import PyProof.Rows.All
import Wide.All
import OpenK.AllK
import Wide.FinOn
import HandS.ForMost
import HandS.IsInst
import HandS.Flow
import HandS.Wide
import HandS.Style
import HandS.RaiseMore
import HandS.Steps
import HandS.MakeKwOnly
import HandS.Property
import HandS.OwnEq
import HandS.MethStar
import HandS.TupSets
import HandS.Deep
import HandS.FStr
import HandS.TupAny
import HandS.TupMul
import HandS.Conv
import HandS.Zip
import HandS.Lambda
import HandS.Exc
import PyProof.Rows.SeqMore
import PyProof.ListMulAny
import HandS.TryOnly
import HandS.WideBits
import PyProof.WalksMore
import KE.KUnpackStar
import HandS.SetBool
import HandS.SetFor
import HandS.More
import HandS.Dict
import PyProof.AttrMissHeap
import PyProof.NeKinds
import HandS.ExcOwn
import HandS.Small
import HandS.TryMany
import HandS.WordsExc
import HandS.EndTab
import HandS.HeadWalk
import HandS.DictComp
import HandS.ClsMeth
import HandS.Star
import PyProof.Rows.SortShellAny
import PyProof.EqKinds
import PyProof.Claim2Refuses
import KE.KExcInit
import HandS.ExcInit
import HandS.ExcField
import PyProof.RulesRaise
import PyProof.FactsTree
import HandS.ExcIs
import KE.GoesMore
import KE.GoesEnum
import KE.KIsAll
import KE.KTryMore
import HandS.ExcValue
import KE.KDictCopyH
import HandS.ListItems
import PySem.Challenge.RW_blockshanded_k68_blocks_made
set_option Elab.async false
set_option linter.all false
set_option maxRecDepth 100000
set_option maxHeartbeats 2000000
namespace U
open PySem PySem.Spec PyProof.Rows L2
section
variable {X : Cx} {a b c e : Expr} {ta tb tc te t t' : TE} {pos : Pos}
theorem imp (h : PE X e t) (f : ∀ σ H Q, t' σ H Q → t σ H Q) : PE X e t' := ⟨fun pins s σ H Q I q => h.run pins s σ H Q I (f σ H Q q)⟩
theorem opImp {f : Value → Value → Sem Value} {r r' : R2} (h : OpR X f r) (g : ∀ x y H Q, r' x y H Q → r x y H Q) : OpR X f r' :=
  fun pins s σ H x y v u Q I rx ry q => h pins s σ H x y v u Q I rx ry (g x y H Q q)
theorem callImp {f : Value} {r r' : List V → Hp → VK → Prop} (h : CallR X f r) (g : ∀ xs H Q, r' xs H Q → r xs H Q) : CallR X f r' :=
  fun pins s σ H xs us Q I rx q => h pins s σ H xs us Q I rx (g xs H Q q)
/-- several rules of one operation, chosen by the values -/
theorem opCases {f : Value → Value → Sem Value} {r : R2} (h : ∀ x y H Q, r x y H Q → ∃ r' : R2, OpR X f r' ∧ r' x y H Q) : OpR X f r :=
  fun pins s σ H x y v u Q I rx ry q => let ⟨_, o, q'⟩ := h x y H Q q; o pins s σ H x y v u Q I rx ry q'
theorem callCases {f : Value} {r : List V → Hp → VK → Prop} (h : ∀ xs H Q, r xs H Q → ∃ r' : List V → Hp → VK → Prop, CallR X f r' ∧ r' xs H Q) : CallR X f r :=
  fun pins s σ H xs us Q I rx q => let ⟨_, o, q'⟩ := h xs H Q q; o pins s σ H xs us Q I rx q'

def fVar (i : Nat) : TE := fun σ H Q => match σ[i]? with | some (some v) => Q v H | _ => False
theorem n (i : Nat) {x : Str} {pos : Pos} (hN : X.N[i]? = some x := by rfl) (hv : Vis X.env.scope x := by first | exact Or.inl rfl | exact Or.inr (Or.inl rfl) | exact Or.inr (Or.inr rfl))
    (hd : (x == ("__debug__" : Str)) = false := by decide) (hcd : (x == ("__classdict__" : Str)) = false := by decide) : PE X (.Name x pos) (fVar i) :=
  imp (pe_var hN hv hd hcd) fun σ H Q h => by
    unfold fVar at h
    split at h
    · rename_i v e
      exact ⟨v, e, h⟩
    · exact h.elim

def fAdd : R2 := fun x y H Q => match x, y with
  | .int i, .int j => Q (.int (i + j)) H
  | .int i, .bl k => Q (.int (i + b2i k)) H
  | .str a, .str b => a.length + b.length ≤ sizeLine ∧ Q (.str (a ++ b)) H
  | .ref l, .ref r => rCat (.ref l) (.ref r) H Q
  | _, _ => False
theorem o_add : OpR X (binaryOp .Add) fAdd := opCases fun x y H Q h => by
  cases x <;> cases y <;> first | exact h.elim | skip
  · exact ⟨_, op_add_ib, _, _, rfl, rfl, h⟩
  · exact ⟨_, op_add, _, _, rfl, rfl, h⟩
  · exact ⟨_, op_add_str, _, _, rfl, rfl, h.1, h.2⟩
  · exact ⟨_, op_cat, h⟩
def fSub : R2 := fun x y H Q => match x, y with
  | .int i, .int j => Q (.int (i - j)) H
  | _, _ => False
theorem o_sub : OpR X (binaryOp .Sub) fSub := opCases fun x y H Q h => by
  cases x <;> cases y <;> first | exact h.elim | exact ⟨_, op_sub, _, _, rfl, rfl, h⟩
def fMul : R2 := fun x y H Q => match x, y with
  | .int i, .int j => CMul i j ∧ Q (.int (i * j)) H
  | .ref l, .int k => rRep (.ref l) (.int k) H Q
  | _, _ => False
theorem o_mul : OpR X (binaryOp .Mult) fMul := opCases fun x y H Q h => by
  cases x <;> cases y <;> first | exact h.elim | exact ⟨_, op_mul, _, _, rfl, rfl, h.1, h.2⟩ | exact ⟨_, op_rep, h⟩
def fDiv : R2 := fun x y H Q => match x, y with
  | .int i, .int j => CDiv i j ∧ Q (.int (i / j)) H
  | _, _ => False
theorem o_div : OpR X (binaryOp .FloorDiv) fDiv := opCases fun x y H Q h => by
  cases x <;> cases y <;> first | exact h.elim | exact ⟨_, op_fdiv, _, _, rfl, rfl, h.1, h.2⟩
def fMod : R2 := fun x y H Q => match x, y with
  | .int i, .int j => 0 < j ∧ Q (.int (i % j)) H
  | _, _ => False
theorem o_mod : OpR X (binaryOp .Mod) fMod := opCases fun x y H Q h => by
  cases x <;> cases y <;> first | exact h.elim | exact ⟨_, op_mod, _, _, rfl, rfl, h.1, h.2⟩
/-- a written power of written numbers -/
def CPowW (i j : Int) : Prop := 0 ≤ j ∧ (Builtin.Int.intBits i : Int) * j ≤ 2 ^ 27
theorem op_powW : OpR X (binaryOp .Pow) (rI CPowW fun i j => .int (i ^ j.toNat)) := opI fun _ _ _ _ _ _ _ hc q => pow_int hc.1 hc.2 q
def fPow : R2 := fun x y H Q => match x, y with
  | .int i, .int j => CPowW i j ∧ Q (.int (i ^ j.toNat)) H
  | _, _ => False
theorem o_pow : OpR X (binaryOp .Pow) fPow := opCases fun x y H Q h => by
  cases x <;> cases y <;> first | exact h.elim | exact ⟨_, op_powW, _, _, rfl, rfl, h.1, h.2⟩

def fLt : R2 := fun x y H Q => match x, y with
  | .int i, .int j => Q (.bl (decide (i < j))) H
  | .str a, .str b => Q (.bl (decide (a.cps.toList < b.cps.toList))) H
  | _, _ => False
def fLe : R2 := fun x y H Q => match x, y with
  | .int i, .int j => Q (.bl (decide (i ≤ j))) H
  | .str a, .str b => Q (.bl (!decide (b.cps.toList < a.cps.toList))) H
  | _, _ => False
def fGt : R2 := fun x y H Q => match x, y with
  | .int i, .int j => Q (.bl (decide (j < i))) H
  | .str a, .str b => Q (.bl (decide (b.cps.toList < a.cps.toList))) H
  | _, _ => False
theorem o_lt : OpR X (compareOp .Lt) fLt := opCases fun x y H Q h => by
  cases x <;> cases y <;> first | exact h.elim | exact ⟨_, op_lt, _, _, rfl, rfl, h⟩ | exact ⟨_, op_lt_str, _, _, rfl, rfl, h⟩
theorem o_le : OpR X (compareOp .LtE) fLe := opCases fun x y H Q h => by
  cases x <;> cases y <;> first | exact h.elim | exact ⟨_, op_le, _, _, rfl, rfl, h⟩ | exact ⟨_, op_le_str, _, _, rfl, rfl, h⟩
theorem o_gt : OpR X (compareOp .Gt) fGt := opCases fun x y H Q h => by
  cases x <;> cases y <;> first | exact h.elim | exact ⟨_, op_gt, _, _, rfl, rfl, h⟩ | exact ⟨_, op_gt_str, _, _, rfl, rfl, h⟩
/-- == of two scalars at once; of data by what it holds -/
def fEq (K : PySem.W.Frag) : R2 := fun x y H Q => match x, y with
  | .int i, .int j => Q (.bl (decide (i = j))) H
  | .str a, .str b => Q (.bl (decide (a = b))) H
  | .bl a, .bl b => Q (.bl (decide (a = b))) H
  | _, _ => rEqD K x y H Q
def fNe (K : PySem.W.Frag) : R2 := fun x y H Q => match x, y with
  | .int i, .int j => Q (.bl (!decide (i = j))) H
  | .str a, .str b => Q (.bl (!decide (a = b))) H
  | .bl a, .bl b => Q (.bl (!decide (a = b))) H
  | _, _ => rNeD K x y H Q
theorem dI {i j : Int} : decide (V.int i = V.int j) = decide (i = j) := by simp
theorem dS {i j : Str} : decide (V.str i = V.str j) = decide (i = j) := by simp
theorem dB {i j : Bool} : decide (V.bl i = V.bl j) = decide (i = j) := by simp
theorem o_eq (hu : X.A.units + 64 < cLine) : OpR X (compareOp .Eq) (fEq X.K) := opCases fun x y H Q h => by
  cases x <;> cases y <;> first | exact ⟨_, op_eqD hu, h⟩ | exact ⟨_, op_eq, rfl, by rw [dI]; exact h⟩ | exact ⟨_, op_eq, rfl, by rw [dS]; exact h⟩ | exact ⟨_, op_eq, rfl, by rw [dB]; exact h⟩
theorem o_ne (hu : X.A.units + 64 < cLine) : OpR X (compareOp .NotEq) (fNe X.K) := opCases fun x y H Q h => by
  cases x <;> cases y <;> first | exact ⟨_, op_neD hu, h⟩ | exact ⟨_, op_ne, rfl, by rw [dI]; exact h⟩ | exact ⟨_, op_ne, rfl, by rw [dS]; exact h⟩ | exact ⟨_, op_ne, rfl, by rw [dB]; exact h⟩
def fIsN : R2 := fun x y H Q => match y with
  | .non => Q (.bl (decide (x = .non))) H
  | _ => False
def fNotN : R2 := fun x y H Q => match y with
  | .non => Q (.bl (!decide (x = .non))) H
  | _ => False
theorem o_isN : OpR X (compareOp .Is) fIsN := opCases fun x y H Q h => by
  cases y <;> first | exact h.elim | exact ⟨_, op_isN, rfl, h⟩
theorem o_notN : OpR X (compareOp .IsNot) fNotN := opCases fun x y H Q h => by
  cases y <;> first | exact h.elim | exact ⟨_, op_notN, rfl, h⟩

def fTest (t : TE) : TT := fun σ H Q => t σ H fun x H' => match x with
  | .bl k => Q k H'
  | _ => False
theorem fTest_eq : fTest = tTest := by
  funext t σ H Q
  show t σ H _ = t σ H _
  congr 1
  funext x H'
  cases x <;> simp
/-- a comparison as a test, as a value -/
theorem tcm {op : CmpOp} {r : R2} (ho : OpR X (compareOp op) r) (ha : PE X a ta) (hb : PE X b tb) (hm : behindInMarks op b = false := by first | exact nomark _ | rfl) : PT X (.Compare a [op] [b] pos) (fTest (tOp r ta tb)) := by
  rw [fTest_eq]; exact pt_cmpR ho ha hb hm
theorem ecm {op : CmpOp} {r : R2} (ho : OpR X (compareOp op) r) (ha : PE X a ta) (hb : PE X b tb) (hm : behindInMarks op b = false := by first | exact nomark _ | rfl) : PE X (.Compare a [op] [b] pos) (tOp r ta tb) := pe_cmpR ho ha hb hm
def fChain (r r' : R2) (ta tb tc : TE) : TE := fun σ H Q => ta σ H fun x H1 => tb σ H1 fun y H2 => r x y H2 fun z H3 => match z with
  | .bl k => if k = true then tc σ H3 fun w' H4 => r' y w' H4 Q else Q (.bl false) H3
  | _ => False
theorem fChain_eq : fChain = tChain := by
  funext r r' ta tb tc σ H Q
  show ta σ H _ = ta σ H _
  congr 1
  funext x H1
  show tb σ H1 _ = tb σ H1 _
  congr 1
  funext y H2
  show r x y H2 _ = r x y H2 _
  congr 1
  funext z H3
  cases z <;> simp
theorem ech {op op' : CmpOp} {r r' : R2} (ho : OpR X (compareOp op) r) (ho' : OpR X (compareOp op') r') (ha : PE X a ta) (hb : PE X b tb) (hc : PE X c tc) (hm : lastMarks [op, op'] [b, c] = false := by rfl) :
    PE X (.Compare a [op, op'] [b, c] pos) (fChain r r' ta tb tc) := by
  rw [fChain_eq]; exact pe_chain ho ho' ha hb hc hm
theorem tch {op op' : CmpOp} {r r' : R2} (ho : OpR X (compareOp op) r) (ho' : OpR X (compareOp op') r') (ha : PE X a ta) (hb : PE X b tb) (hc : PE X c tc) (hm : lastMarks [op, op'] [b, c] = false := by rfl) :
    PT X (.Compare a [op, op'] [b, c] pos) (fTest (fChain r r' ta tb tc)) := by
  rw [fChain_eq, fTest_eq]; exact pt_chain ho ho' ha hb hc hm
/-- any value as a test -/
def fTru (K : PySem.W.Frag) (t : TE) : TT := fun σ H Q => t σ H fun x H' => match x with
  | .bl k => Q k H'
  | .non => Q false H'
  | .int i => Q (i != 0) H'
  | .str y => y.length ≤ sizeLine ∧ Q ((y.length : Int) != 0) H'
  | x => ∃ k, TruV K x H' k ∧ Q k H'
theorem fTru_eq {K : PySem.W.Frag} {t : TE} : fTru K t = fun σ H Q => t σ H fun x H' => ∃ k, TruV K x H' k ∧ Q k H' := by
  funext σ H Q
  show t σ H _ = t σ H _
  congr 1
  funext x H'
  cases x <;> first | (apply propext; exact ⟨fun ⟨h1, h2⟩ => ⟨_, ⟨h1, rfl⟩, h2⟩, fun ⟨k, ⟨h1, h2⟩, h3⟩ => ⟨h1, h2 ▸ h3⟩⟩) | simp [TruV]
theorem tv (ha : PE X a ta) (he : ∀ whole, isTrue a X.env whole = (do let v ← whole; standAt a.pos; holding [v] (truthy v)) := by intro _; rfl) : PT X a (fTru X.K ta) := by
  rw [fTru_eq]; exact pt_truth ha he
def fAndV (ta tb : TE) : TE := fun σ H Q => ta σ H fun x H1 => match x with
  | .bl c => if c = true then tb σ H1 Q else Q (.bl false) H1
  | _ => False
def fOrV (ta tb : TE) : TE := fun σ H Q => ta σ H fun x H1 => match x with
  | .bl c => if c = true then Q (.bl true) H1 else tb σ H1 Q
  | _ => False
def fNotV (ta : TE) : TE := fun σ H Q => ta σ H fun x H1 => match x with
  | .bl c => Q (.bl (!c)) H1
  | _ => False
theorem fAndV_eq : fAndV = tAndV := by
  funext ta tb σ H Q
  show ta σ H _ = ta σ H _
  congr 1
  funext x H1
  cases x <;> simp
theorem fOrV_eq : fOrV = tOrV := by
  funext ta tb σ H Q
  show ta σ H _ = ta σ H _
  congr 1
  funext x H1
  cases x <;> simp
theorem fNotV_eq : fNotV = tNotV := by
  funext ta σ H Q
  show ta σ H _ = ta σ H _
  congr 1
  funext x H1
  cases x <;> simp
variable {rest : List Expr}
theorem eand (ha : PE X a ta) (hb : PE X (.BoolOp .And (b :: rest) pos) tb) : PE X (.BoolOp .And (a :: b :: rest) pos) (fAndV ta tb) := by rw [fAndV_eq]; exact pe_and ha hb
theorem eor (ha : PE X a ta) (hb : PE X (.BoolOp .Or (b :: rest) pos) tb) : PE X (.BoolOp .Or (a :: b :: rest) pos) (fOrV ta tb) := by rw [fOrV_eq]; exact pe_or ha hb
theorem enot (ha : PE X a ta) : PE X (.UnaryOp .Not a pos) (fNotV ta) := by rw [fNotV_eq]; exact pe_not ha
def fAbs : List V → Hp → VK → Prop := fun xs H Q => match xs with
  | [.int i] => Q (.int (if i < 0 then -i else i)) H
  | _ => False
theorem c_abs : CallR X (.builtin "abs") fAbs := callImp call_abs fun xs H Q h => by
  unfold fAbs at h; split at h
  · exact ⟨_, rfl, h⟩
  · exact h.elim
def fMax : List V → Hp → VK → Prop := fun xs H Q => match xs with
  | [.int i, .int j] => Q (.int (if j > i then j else i)) H
  | _ => False
theorem c_max (hc : X.calm = true) : CallR X (.builtin "max") fMax := callImp (call_max2 hc) fun xs H Q h => by
  unfold fMax at h; split at h
  · exact ⟨_, _, rfl, h⟩
  · exact h.elim
def fMin : List V → Hp → VK → Prop := fun xs H Q => match xs with
  | [.int i, .int j] => Q (.int (if j < i then j else i)) H
  | _ => False
theorem c_min (hc : X.calm = true) : CallR X (.builtin "min") fMin := callImp (call_min2 hc) fun xs H Q h => by
  unfold fMin at h; split at h
  · exact ⟨_, _, rfl, h⟩
  · exact h.elim
def fInt : List V → Hp → VK → Prop := fun xs H Q => match xs with
  | [.int i] => Q (.int i) H
  | [.bl k] => Q (.int (if k then 1 else 0)) H
  | _ => False
theorem c_int : CallR X (.type "int") fInt := callImp call_int1 fun xs H Q h => by
  unfold fInt at h; split at h
  · exact .inl ⟨_, rfl, h⟩
  · exact .inr ⟨_, rfl, h⟩
  · exact h.elim
def fLen (K : PySem.W.Frag) : List V → Hp → VK → Prop := fun xs H Q => match xs with
  | [.str y] => y.length ≤ sizeLine ∧ Q (.int y.length) H
  | [.ref p] => ∃ n : Nat, ((∃ xs, SqL K H p xs ∧ n = xs.length) ∨ ∃ xs, SqT K H p xs ∧ n = xs.length) ∧ Q (.int n) H
  | _ => False
theorem c_len : CallR X (.builtin "len") (fLen X.K) := callImp call_len fun xs H Q h => by
  unfold fLen at h; split at h
  · exact ⟨_, _, rfl, ⟨h.1, rfl⟩, h.2⟩
  · obtain ⟨n, h1, h2⟩ := h
    exact ⟨_, n, rfl, h1, h2⟩
  · exact h.elim
theorem set (i : Nat) {x : Str} {pos' : Pos} {te : TE} (hN : X.N.Nodup) (he : PE X e te) (hi : X.N[i]? = some x := by rfl) (hx : Loc X.env.scope x := by first | exact Or.inl rfl | exact Or.inr rfl) (hs : swapsWith e (some (.Name x pos')) pos.line X.env = pure false := by rfl)
    (hf : X.fn x = true ∨ X.env.scope.names.lookup x = some .local := by first | exact .inl rfl | exact .inr rfl) : PS X (.Assign [.Name x pos'] e pos) (tAsg te (gName i)) := ps_set hN hi hx he hs hf
theorem gn (i : Nat) {x : Str} {pos : Pos} (hN : X.N.Nodup) (hi : X.N[i]? = some x := by rfl) (hx : Loc X.env.scope x := by first | exact Or.inl rfl | exact Or.inr rfl)
    (hf : X.fn x = true ∨ X.env.scope.names.lookup x = some .local := by first | exact .inl rfl | exact .inr rfl) : PG X (.Name x pos) (gName i) := pg_name hN hi hx hf
/-- o[i] = v on a list -/
def fSetL : V → V → V → Hp → (Hp → Prop) → Prop := fun o i v H Q => match o, i with
  | .ref p, .int k => ∃ xs j, H p = some (.lst xs) ∧ ixN xs.length k = some j ∧ Q (upd H p (.lst (xs.set j v)))
  | _, _ => False
theorem s_list : PSet X fSetL := fun pins s σ H o i v ov iv u Q I r1 r2 r3 h => by
  cases o <;> cases i <;> first | exact h.elim | skip
  obtain ⟨xs, j, h1, h2, h3⟩ := h
  exact set_list pins s σ H _ _ v ov iv u Q I r1 r2 r3 ⟨_, xs, _, j, rfl, rfl, h1, h2, h3⟩
/-- xs[i]: a list, a tuple, a text -/
def fIx (K : PySem.W.Frag) : R2 := fun x y H Q => match x, y with
  | .str z, .int i => z.length ≤ sizeLine ∧ ∃ c, atI z.cps.toList i = some c ∧ Q (.str ⟨#[c]⟩) H
  | .ref p, .int i => ∃ xs v, (SqL K H p xs ∨ SqT K H p xs) ∧ atI xs i = some v ∧ Q v H
  | _, _ => False
theorem x_seq : IxR X (fIx X.K) := fun value slice pins s σ H x y v u Q I rx ry h hs => by
  cases x <;> cases y <;> first | exact h.elim | skip
  · obtain ⟨h1, c, h2, h3⟩ := h
    exact ix_str value slice pins s σ H _ _ v u Q I rx ry ⟨_, _, c, rfl, rfl, h1, h2, h3⟩ hs
  · obtain ⟨xs, z, h1 | h1, h2, h3⟩ := h
    · exact ix_list value slice pins s σ H _ _ v u Q I rx ry ⟨_, xs, _, z, rfl, rfl, h1, h2, h3⟩ hs
    · exact ix_tup value slice pins s σ H _ _ v u Q I rx ry ⟨_, xs, _, z, rfl, rfl, h1, h2, h3⟩ hs
theorem ix (ha : PE X a ta) (hb : PE X b tb) (hs : PlainIx b := by exact fun _ _ => rfl) : PE X (.Subscript a b pos) (tOp (fIx X.K) ta tb) := pe_ix x_seq ha hb hs
end
def Pr (pre : List V → Hp → Prop) (post : List V → Hp → V → Hp → Prop) : Sp := fun vs H Q _ => pre vs H ∧ ∀ v H', post vs H v H' → Q v H'

theorem b_len : bootBuiltins "len" = some (.builtin "len") := by decide +kernel
theorem b_abs : bootBuiltins "abs" = some (.builtin "abs") := by decide +kernel
theorem b_max : bootBuiltins "max" = some (.builtin "max") := by decide +kernel
theorem b_min : bootBuiltins "min" = some (.builtin "min") := by decide +kernel
theorem b_repr : bootBuiltins "repr" = some (.builtin "repr") := by decide +kernel
theorem b_isinstance : bootBuiltins "isinstance" = some (.builtin "isinstance") := by decide +kernel
theorem b_all : bootBuiltins "all" = some (.builtin "all") := by decide +kernel
theorem b_any : bootBuiltins "any" = some (.builtin "any") := by decide +kernel
theorem b_sum : bootBuiltins "sum" = some (.builtin "sum") := by decide +kernel
theorem b_int : bootBuiltins "int" = some (.type "int") := by decide +kernel
theorem b_str : bootBuiltins "str" = some (.type "str") := by decide +kernel
theorem b_bool : bootBuiltins "bool" = some (.type "bool") := by decide +kernel
theorem b_tuple : bootBuiltins "tuple" = some (.type "tuple") := by decide +kernel
theorem b_list : bootBuiltins "list" = some (.type "list") := by decide +kernel
theorem b_dict : bootBuiltins "dict" = some (.type "dict") := by decide +kernel
section
variable {X : Cx} {e : Expr} {es : List Expr} {t : TA} {p pos : Pos} {x : Str}
theorem e_ty {T : String} (m : X.mg x = none) (hv : bootBuiltins x = some (.type T)) (hg : Gl X x := by rfl) (hn : x ≠ "__name__" := by decide) (hd : (x == ("__debug__" : Str)) = false := by decide) : PE X (.Name x pos) (tC (.ty T)) := pe_bltn hg m hv rfl hn hd
/-- isinstance(x, a built-in type) -/
def isK (a T : String) : Bool := a == T || (a == "bool" && T == "int")
def kinds : List String := ["NoneType", "bool", "int", "str", "list", "tuple", "dict"]
theorem kinds_ok : (kinds.all fun a => kinds.all fun T => kitB a T == some (isK a T)) = true := by decide +kernel
theorem kit_ok {K : PySem.W.Frag} {a T : String} (ha : kinds.contains a = true) (hT : kinds.contains T = true) : PySem.W.kitOne K (.type a) (.type T) = some (isK a T) := by
  have h := List.all_eq_true.mp kinds_ok a (List.contains_iff_mem.mp ha)
  have h2 := List.all_eq_true.mp h T (List.contains_iff_mem.mp hT)
  exact kit_ty (eq_of_beq h2)
theorem slCases {r : V → Option Int → Option Int → Hp → VK → Prop} (h : ∀ x lo hi H Q, r x lo hi H Q → ∃ r' : V → Option Int → Option Int → Hp → VK → Prop, SlR X r' ∧ r' x lo hi H Q) : SlR X r := by
  intro pins s σ H x v vl vu lo hi sl Q I rx hs pl pu q
  obtain ⟨r', o, q'⟩ := h x lo hi H Q q
  exact o pins s σ H x v vl vu lo hi sl Q I rx hs pl pu q'
def fPart (t : TE) : TO := fun σ H Q => t σ H fun x H1 => match x with
  | .int i => Q (some i) H1
  | _ => False
theorem fPart_eq : fPart = tPart := by
  funext t σ H Q
  show t σ H _ = t σ H _
  congr 1
  funext x H'
  cases x <;> simp
theorem posome {te : TE} {e : Expr} (h : PE X e te) : PO X (some e) (fPart te) := by rw [fPart_eq]; exact po_some h
end
/-- the def st stands under the name x -/
structure HasDef (K : PySem.W.Frag) (x : Str) (st : Stmt) : Prop where
  ex : ∃ f fd, Fun K x x st f fd ∧ PySem.W.nsIn K mainGlobals x = some (some (.ref f))
theorem has_mk {K : PySem.W.Frag} {x : Str} {st : Stmt} {f : Addr} {oc : Value} {od an : Option Addr} {osl : Array (Option Value)} {kV doc pm cdv ct : Value} (a : PySem.W.nsIn K mainGlobals x = some (some (.ref f)))
    (l : K.lookup f = some ⟨oc, od, .func (PySem.W.fnOf x x (defArgs st) (defBody st) (defScope st) .none kV doc pm an cdv ct), osl⟩) (c : PySem.W.codeIn K cdv x = true) (k : PySem.W.keepIn K (.ref f) = true) : HasDef K x st := ⟨_, _, fun_mk l c k, a⟩
/-- what the module's names hold -/
structure MgOf (K : PySem.W.Frag) (mg : Str → Option Value) : Prop where
  of : ∀ x v, PySem.W.nsIn K mainGlobals x = some v → mg x = v
theorem MgOf.mk' {K : PySem.W.Frag} {h : Heap} {mg : Str → Option Value} (X : K.In h) (G : h.Ns mainGlobals mg) : MgOf K mg := ⟨fun x v e => by
  cases v with
  | none => exact PySem.W.mg_none_of X G e
  | some v => exact PySem.W.mg_of X G e⟩
/-- a def that keeps its promise -/
structure Known (P : Program) (w : World) (K : PySem.W.Frag) (mg : Str → Option Value) (base : Heap) (CX : CXT) (x : Str) (k : Nat) (ps : List Str) (sp : Sp) : Prop where
  ex : ∃ f fd, FnOk P w K mg base CX k f fd ps sp ∧ mg x = some (.ref f) ∧ PySem.W.keepIn K (.ref f) = true ∧ Binds K fd ps []
theorem Known.imp {P : Program} {w : World} {K : PySem.W.Frag} {mg : Str → Option Value} {base : Heap} {CX : CXT} {x : Str} {k : Nat} {ps : List Str} {sp sp' : Sp} (D : Known P w K mg base CX x k ps sp) (h : ∀ vs H Q E, sp' vs H Q E → sp vs H Q E) : Known P w K mg base CX x k ps sp' := by
  obtain ⟨f, fd, F, r⟩ := D.ex
  exact ⟨f, fd, F.imp h, r⟩
theorem Known.of {P : Program} {w : World} {K : PySem.W.Frag} {mg : Str → Option Value} {base : Heap} {x : Str} {st : Stmt} {N ps : List Str} {k : Nat} {sp : Sp} (F : HasDef K x st) (M : MgOf K mg) (S : FnScope N ps (defScope st))
    (hb : ∀ (kV doc pm : Value) (an : Option Addr) (cdv ct : Value) (us : List Value), us.length = ps.length → bindArgs (PySem.W.fnOf x x (defArgs st) (defBody st) (defScope st) .none kV doc pm an cdv ct) ⟨us, []⟩ = pure (ps.zip us))
    (len : ∀ vs H Q E, sp vs H Q E → vs.length = ps.length)
    (hbody : ∀ (f : Addr) (cdv : Value) (A : Around) (outer : List Env) (s : Shared) (H : Hp) (vs : List V) (Q : VK) (E : XK), Room k (A.deeper (envOfC x (defScope st) s.heap.objs.size f cdv)) → sp vs H Q E →
      ∃ t, PSs (cxOf CX0 P w K mg base N x (defScope st) f cdv A outer s H E).nox (defBody st) t ∧ t { nx := fun _ H' => Q .non H', rt := Q } (start N vs) H) : Known P w K mg base CX0 x (k + 1) ps sp := by
  obtain ⟨f, fd, F, e⟩ := F.ex
  exact ⟨f, fd, F.ok S len (hbody f), M.of _ _ e, F.kp, F.binds hb⟩
section
variable {X : Cx} {CX : CXT} {k : Nat} {ps : List Str} {sp : Sp} {E : XK} {x : Str} {p pos : Pos} {e : Expr} {es : List Expr} {t : TA}
def fCall (sp : Sp) (E : XK) (t : TA) : TE := fun σ H Q => t σ H fun vs H1 => sp vs H1 Q E
theorem callX (D : Known X.prog X.w X.K X.mg X.base CX x k ps sp) (hr : Room k X.A) (hx : Passes CX X E) (ha : PA X (e :: es) t) (hg : Gl X x := by rfl) (hdb : (x == ("__debug__" : Str)) = false := by decide)
    (he : starEach (e :: es) X.env = (false, eval e X.env) :: starEach es X.env := by rfl) (hpl : (backTo pos (starEach es X.env)).any (·.1) = false := by rfl) : PE X (.Call (.Name x p) (e :: es) [] pos) (fCall sp E t) := by
  obtain ⟨f, fd, F, m, kp, b⟩ := D.ex
  have h : tCall sp [] E t = fCall sp E t := by
    funext σ H Q
    show t σ H (fun vs H1 => sp (vs ++ []) H1 Q E) = _
    simp only [List.append_nil]
    rfl
  rw [← h]
  exact pe_call F hr hg m kp b .nil hx ha hdb he hpl
theorem call (D : Known X.prog X.w X.K X.mg X.base CX0 x k ps sp) (hr : Room k X.A) (ha : PA X (e :: es) t) (hg : Gl X x := by rfl) (hdb : (x == ("__debug__" : Str)) = false := by decide)
    (he : starEach (e :: es) X.env = (false, eval e X.env) :: starEach es X.env := by rfl) (hpl : (backTo pos (starEach es X.env)).any (·.1) = false := by rfl) : PE X (.Call (.Name x p) (e :: es) [] pos) (fCall sp E0 t) := callX D hr pass0 ha hg hdb he hpl
end
section
variable {X : Cx} {pos : Pos} {x : Str}
theorem e_gs {z : Str} (h : ∃ t, X.mg x = some (.str z t)) (hg : Gl X x := by rfl) (hd : (x == ("__debug__" : Str)) = false := by decide) : PE X (.Name x pos) (tC (.str z)) := let ⟨_, e⟩ := h; pe_glob hg e ⟨_, rfl⟩ hd
theorem e_gi {z : Int} (h : ∃ t, X.mg x = some (.int z t)) (hg : Gl X x := by rfl) (hd : (x == ("__debug__" : Str)) = false := by decide) : PE X (.Name x pos) (tC (.int z)) := let ⟨_, e⟩ := h; pe_glob hg e ⟨_, rfl⟩ hd
end
theorem ifT {c A B : Prop} [Decidable c] (h : c) (a : A) : if c then A else B := by rw [if_pos h]; exact a
theorem ifF {c A B : Prop} [Decidable c] (h : ¬ c) (b : B) : if c then A else B := by rw [if_neg h]; exact b
theorem cst_str {K : PySem.W.Frag} {x z : Str} {t : Tok} (a : PySem.W.nsIn K mainGlobals x = some (some (.str z t))) : ∃ t, PySem.W.nsIn K mainGlobals x = some (some (.str z t)) := ⟨t, a⟩
theorem cst_int {K : PySem.W.Frag} {x : Str} {z : Int} {t : Tok} (a : PySem.W.nsIn K mainGlobals x = some (some (.int z t))) : ∃ t, PySem.W.nsIn K mainGlobals x = some (some (.int z t)) := ⟨t, a⟩
end U
set_option Elab.async false
set_option linter.all false
set_option maxRecDepth 100000
set_option maxHeartbeats 2000000
namespace U
open PySem PySem.Spec PyProof.Rows L2
def fFrz (t : TE) : TE := fun σ H Q => t σ H fun v H1 => match v with
  | .ref p => (∃ u, H1 p = some u ∧ Mut (some u) ∧ ∀ od, Q (.ref p) (upd H1 p (.frz od u))) ∨ Q (.ref p) H1
  | v => Q v H1
section
variable {X : Cx} {e : Expr} {t : TE}
theorem frz (h : PE X e t) : PE X e (fFrz t) := by
  refine ⟨fun pins s σ H Q I q => ?_⟩
  refine thn (h.run pins s σ H _ I q) fun u s1 ⟨v, H1, I1, r, q1⟩ => ?_
  cases v with
  | ref p =>
    rcases q1 with ⟨u', hp, mu, q1⟩ | q1
    · obtain ⟨od, I2⟩ := I1.lock hp mu
      exact ⟨_, _, I2, r, q1 od⟩
    · exact ⟨_, _, I1, r, q1⟩
  | _ => exact ⟨_, _, I1, r, q1⟩
end
/-- an object that stands still: a tuple, what is locked -/
def Stb : HO → Prop
  | .tup _ => True
  | .frz _ _ => True
  | .ins _ _ _ => True
  | _ => False
/-- what stands still stands -/
def Stab (H H' : Hp) : Prop := ∀ b o, Stb o → H b = some o → H' b = some o
theorem Stab.refl (H : Hp) : Stab H H := fun _ _ _ h => h
theorem Stab.trans {H H1 H2 : Hp} (a : Stab H H1) (b : Stab H1 H2) : Stab H H2 := fun c o n h => b c o n (a c o n h)
theorem Stab.new {H : Hp} {p : Addr} {o : HO} (h : H p = none) : Stab H (upd H p o) := fun b u _ e => by rw [upd_ne (ne_of_none e h)]; exact e
theorem Stab.mut {H : Hp} {p : Addr} {o u : HO} (h : H p = some u) (hu : ¬ Stb u) : Stab H (upd H p o) := fun b v sv e => by
  rw [upd_ne (fun z => hu (by rw [z, h] at e; cases e; exact sv))]; exact e
theorem Stab.seqT {K : PySem.W.Frag} {H H' : Hp} {a : Addr} {xs : List V} (s : Stab H H') (h : SqT K H a xs) : SqT K H' a xs := by
  rcases h with (h | ⟨o, h⟩) | h
  · exact .inl (.inl (s _ _ trivial h))
  · exact .inl (.inr ⟨o, s _ _ trivial h⟩)
  · exact .inr h
/-- a list that stands still -/
def Lk (H : Hp) (a : Addr) (xs : List V) : Prop := ∃ o, H a = some (.frz o (.lst xs))
theorem Lk.seq {K : PySem.W.Frag} {H : Hp} {a : Addr} {xs : List V} (h : Lk H a xs) : SqL K H a xs := .inl (.inr h)
theorem Stab.lk {H H' : Hp} {a : Addr} {xs : List V} (s : Stab H H') (h : Lk H a xs) : Lk H' a xs := let ⟨o, h⟩ := h; ⟨o, s _ _ trivial h⟩
mutual
inductive Rp (K : PySem.W.Frag) (H : Hp) : V → PyData → Prop
  | non : Rp K H .non .none
  | bl (b : Bool) : Rp K H (.bl b) (.bool b)
  | int (i : Int) : Rp K H (.int i) (.int i)
  | str (x : Str) : Rp K H (.str x) (.str x)
  | lst {a : Addr} {xs : List V} {ds : List PyData} : Lk H a xs → RpAll K H xs ds → Rp K H (.ref a) (.list ds)
  | tup {a : Addr} {xs : List V} {ds : List PyData} : SqT K H a xs → RpAll K H xs ds → Rp K H (.ref a) (.tuple ds)
inductive RpAll (K : PySem.W.Frag) (H : Hp) : List V → List PyData → Prop
  | nil : RpAll K H [] []
  | cons {v : V} {vs : List V} {d : PyData} {ds : List PyData} : Rp K H v d → RpAll K H vs ds → RpAll K H (v :: vs) (d :: ds)
end
section
variable {K : PySem.W.Frag} {H H' : Hp}
mutual
theorem Rp.mono (s : Stab H H') : ∀ {v : V} {d : PyData}, Rp K H v d → Rp K H' v d
  | _, _, .non => .non
  | _, _, .bl b => .bl b
  | _, _, .int i => .int i
  | _, _, .str x => .str x
  | _, _, .lst h k => .lst (s.lk h) (RpAll.mono s k)
  | _, _, .tup h k => .tup (s.seqT h) (RpAll.mono s k)
theorem RpAll.mono (s : Stab H H') : ∀ {vs : List V} {ds : List PyData}, RpAll K H vs ds → RpAll K H' vs ds
  | _, _, .nil => .nil
  | _, _, .cons h k => .cons (Rp.mono s h) (RpAll.mono s k)
end
mutual
theorem Rp.dp : ∀ {v : V} {d : PyData}, Rp K H v d → Dp K H v d
  | _, _, .non => .non
  | _, _, .bl b => .bl b
  | _, _, .int i => .int i
  | _, _, .str x => .str x
  | _, _, .lst h k => .lst h.seq (RpAll.dp k)
  | _, _, .tup h k => .tup h (RpAll.dp k)
theorem RpAll.dp : ∀ {vs : List V} {ds : List PyData}, RpAll K H vs ds → DpAll K H vs ds
  | _, _, .nil => .nil
  | _, _, .cons h k => .cons (Rp.dp h) (RpAll.dp k)
end
theorem RpAll.length : ∀ {vs : List V} {ds : List PyData}, RpAll K H vs ds → vs.length = ds.length
  | _, _, .nil => rfl
  | _, _, .cons _ k => by rw [List.length_cons, List.length_cons, k.length]
theorem RpAll.get : ∀ {vs : List V} {ds : List PyData} {i : Nat} {v : V}, RpAll K H vs ds → vs[i]? = some v → ∃ d, ds[i]? = some d ∧ Rp K H v d
  | _, _, 0, _, .cons h _, e => by cases e; exact ⟨_, rfl, h⟩
  | _, _, i + 1, _, .cons _ k, e => RpAll.get (i := i) k e
  | _, _, _, _, .nil, e => by simp at e
theorem RpAll.append : ∀ {vs ws : List V} {ds es : List PyData}, RpAll K H vs ds → RpAll K H ws es → RpAll K H (vs ++ ws) (ds ++ es)
  | _, _, _, _, .nil, k => k
  | _, _, _, _, .cons h t, k => .cons h (RpAll.append t k)
theorem RpAll.one {v : V} {d : PyData} (h : Rp K H v d) : RpAll K H [v] [d] := .cons h .nil
theorem RpAll.ints : ∀ {vs : List V} {ns : List Int}, RpAll K H vs (ns.map PyData.int) → vs = ns.map V.int
  | _, [], .nil => rfl
  | _, n :: ns, .cons h k => by cases h; rw [RpAll.ints k]; rfl
end
structure HasCls (K : PySem.W.Frag) (x : Str) (C : Addr) : Prop where
  at_ : PySem.W.nsIn K mainGlobals x = some (some (.ref C))
  cl : Cls K C
  mks : PySem.W.makesIn K C = true
  kc : PySem.W.keepIn K (.ref C) = true
  ha : PySem.W.findIn K (.ref C) "__class__" = some (some (.builtin "object.__class__"))
  hn : PySem.W.specialIn K (.builtin "object.__class__") "__get__" = some (some (.builtin "getset_descriptor.__get__"))
  tk : PySem.W.takesIn K (.builtin "object.__class__") = some true
  hm : PySem.W.mroIn K C (.type "object") = some true
  self : PySem.W.kitOne K (.ref C) (.ref C) = some true
theorem HasCls.mk' {K : PySem.W.Frag} {x : Str} {C : Addr} (a : PySem.W.nsIn K mainGlobals x = some (some (.ref C))) (pg : PySem.W.plainGet K C Str.empty = true) (hd : PySem.W.hasDictIn K C = true) (po : PySem.W.plainOver K C = true)
    (sa : PySem.W.findIn K (.ref C) "__setattr__" = some (some (.builtin "object.__setattr__"))) (mk : PySem.W.makesIn K C = true) (kc : PySem.W.keepIn K (.ref C) = true) (ha : PySem.W.findIn K (.ref C) "__class__" = some (some (.builtin "object.__class__")))
    (hn : PySem.W.specialIn K (.builtin "object.__class__") "__get__" = some (some (.builtin "getset_descriptor.__get__"))) (tk : PySem.W.takesIn K (.builtin "object.__class__") = some true) (hm : PySem.W.mroIn K C (.type "object") = some true) : HasCls K x C := ⟨a, ⟨pg, hd, po, sa⟩, mk, kc, ha, hn, tk, hm, by unfold PySem.W.kitOne; rw [if_pos (by simp)]⟩
/-- a method -/
structure HasMeth (K : PySem.W.Frag) (C : Addr) (m qual : Str) (st : Stmt) : Prop where
  ex : ∃ f fd, Fun K m qual st f fd ∧ BMeth K C m f
theorem meth_mk {K : PySem.W.Frag} {C : Addr} {m qual : Str} {st : Stmt} {f : Addr} {oc : Value} {od an : Option Addr} {osl : Array (Option Value)} {kV doc pm cdv ct : Value} (a : PySem.W.findIn K (.ref C) m = some (some (.ref f))) (i : PySem.W.isFn K (.ref f) = true)
    (l : K.lookup f = some ⟨oc, od, .func (PySem.W.fnOf m qual (defArgs st) (defBody st) (defScope st) .none kV doc pm an cdv ct), osl⟩) (c : PySem.W.codeIn K cdv qual = true) (k : PySem.W.keepIn K (.ref f) = true)
    (gf : PySem.W.specialIn K (.ref f) "__get__" = some (some (.builtin "function.__get__"))) (tk : PySem.W.takesIn K (.ref f) = some false) (fi : PySem.W.fnIn K f = true) (cp : PySem.W.copiedNames.contains m = false) : HasMeth K C m qual st :=
  ⟨_, _, fun_mk l c k, ⟨⟨a, i, k⟩, gf, tk, cp, fi⟩⟩
structure KnownM (P : Program) (w : World) (K : PySem.W.Frag) (mg : Str → Option Value) (base : Heap) (CX : CXT) (C : Addr) (m : Str) (k : Nat) (ps : List Str) (sp : Sp) : Prop where
  ex : ∃ f fd, FnOk P w K mg base CX k f fd ps sp ∧ BMeth K C m f ∧ Binds K fd ps []
theorem KnownM.of {P : Program} {w : World} {K : PySem.W.Frag} {mg : Str → Option Value} {base : Heap} {C : Addr} {m qual : Str} {st : Stmt} {N ps : List Str} {k : Nat} {sp : Sp} (F : HasMeth K C m qual st) (S : FnScope N ps (defScope st))
    (hb : ∀ (kV doc pm : Value) (an : Option Addr) (cdv ct : Value) (us : List Value), us.length = ps.length → bindArgs (PySem.W.fnOf m qual (defArgs st) (defBody st) (defScope st) .none kV doc pm an cdv ct) ⟨us, []⟩ = pure (ps.zip us))
    (len : ∀ vs H Q E, sp vs H Q E → vs.length = ps.length)
    (hbody : ∀ (f : Addr) (cdv : Value) (A : Around) (outer : List Env) (s : Shared) (H : Hp) (vs : List V) (Q : VK) (E : XK), Room k (A.deeper (envOfC qual (defScope st) s.heap.objs.size f cdv)) → sp vs H Q E →
      ∃ t, PSs (cxOf CX0 P w K mg base N qual (defScope st) f cdv A outer s H E).nox (defBody st) t ∧ t { nx := fun _ H' => Q .non H', rt := Q } (start N vs) H) : KnownM P w K mg base CX0 C m (k + 1) ps sp := by
  obtain ⟨f, fd, F, e⟩ := F.ex
  exact ⟨f, fd, F.ok S len (hbody f), e, F.binds hb⟩
section
variable {X : Cx} {CX : CXT} {k : Nat} {C : Addr} {ps : List Str} {sp : Sp} {E : XK} {f m x : Str} {p apos pos : Pos} {e e1 e2 o : Expr} {es : List Expr} {ta t1 t2 : TE} {t : TA}
def fFld (C : Addr) (f : Str) (ta : TE) : TE := fun σ H Q => ta σ H fun x H1 => match x with
  | .ref a => ∃ dx fs v, H1 a = some (.ins C dx fs) ∧ fs.lookup f = some v ∧ Q v H1
  | _ => False
theorem fld (c : Cls X.K C) (n : NoAttr X.K C f) (he : PE X e ta) (hb : attributeBase e f X.env (eval e X.env) = eval e X.env := by rfl) : PE X (.Attribute e f pos) (fFld C f ta) := by
  refine ⟨fun pins s σ H Q I h => ?_⟩
  refine attr_of hb (thn (he.run pins s σ H _ I h) fun u s1 ⟨x, H1, I1, rx, q⟩ => ?_)
  cases x <;> first | exact q.elim | skip
  obtain ⟨dx, fs, v, ea, l, q⟩ := q
  obtain rfl : u = Value.ref _ := rx
  exact getattr_ok I1 ea c n l fun u' s2 I2 ru => ⟨v, H1, I2, ru, q⟩
/-- o.f = e -/
def fSto (C : Addr) (f : Str) (ta tv : TE) : TS := fun D σ H => tv σ H fun y H1 => ta σ H1 fun x H2 => match x with
  | .ref a => ∃ dx fs, H2 a = some (.ins C dx fs) ∧ fs.length < 1000 ∧ D.nx σ (upd H2 a (.ins C dx (putF f y fs)))
  | _ => False
theorem sto {value : Expr} {pos' : Pos} {tv : TE} (c : Cls X.K C) (n : NoAttr X.K C f) (hv : PE X value tv) (ha : PE X o ta) (hs : swapsWith value (some (.Attribute o f pos')) pos.line X.env = pure false := by rfl) : PS X (.Assign [.Attribute o f pos'] value pos) (fSto C f ta tv) := by
  refine ⟨fun pins s σ H D I h => ?_⟩
  refine plainObj_wpAny_Assign_Attribute (thn (hv.run pins s σ H _ I h) fun u s1 ⟨y, H1, I1, ry, q⟩ => thn (ha.run pins s1 σ H1 _ I1 q) fun ov s2 ⟨x, H2, I2, rx, q2⟩ => ?_) hs
  cases x <;> first | exact q2.elim | skip
  obtain ⟨dx, fs, ea, l, q2⟩ := q2
  obtain rfl : ov = Value.ref _ := rx
  exact setattr_ok I2 ea c n l ry fun s3 I3 => ⟨σ, _, I3, q2⟩
/-- o.m(e, ..) -/
def fMeth (C : Addr) (m : Str) (sp : Sp) (E : XK) (ta : TE) (t : TA) : TE := fun σ H Q => ta σ H fun x H1 => match x with
  | .ref a => ∃ dx fs, H1 a = some (.ins C dx fs) ∧ fs.lookup m = none ∧ t σ H1 fun vs H2 => sp (.ref a :: vs) H2 Q E
  | _ => False
theorem methX {pl : Sem Bool} (D : KnownM X.prog X.w X.K X.mg X.base CX C m k ps sp) (c : Cls X.K C) (hr : Room k X.A) (hx : Passes CX X E) (he : PE X o ta) (ha : PA X (e :: es) t)
    (hst : starEach (e :: es) X.env = (false, eval e X.env) :: starEach es X.env := by rfl) (hpl : (backTo pos (starEach es X.env)).any (·.1) = false := by rfl)
    (ht : eval (.Call (.Attribute o m apos) (e :: es) [] pos) X.env = (do
      let ov ← eval o X.env
      standAt apos.atName
      let (f, first) ← holding [ov] (getMethod ov m pl)
      callWith pos f first (backTo pos (starEach (e :: es) X.env)) (backToKw pos (keywordEach [] X.env))) := by rfl) :
    PE X (.Call (.Attribute o m apos) (e :: es) [] pos) (fMeth C m sp E ta t) := by
  obtain ⟨f, fd, F, B, b⟩ := D.ex
  refine ⟨fun pins s σ H Q I h => ?_⟩
  refine PySem.W.methodCall_KW (pl := pl) (thn (he.run pins s σ H _ I h) fun u s1 ⟨x, H1, I1, rx, q⟩ => ?_) ht
  cases x <;> first | exact q.elim | skip
  obtain ⟨dx, fs, ea, l, q⟩ := q
  obtain rfl : u = Value.ref _ := rx
  refine getmeth_ok I1 ea c B.mt l ?_
  refine PySem.W.callWith_K (first := [.ref _]) (h₀ := X.base) I.ok.mod.kin B.mt.kp (thn (ha.run pos pins s1 σ H1 _ I1 q) fun us s2 ⟨vs, H2, I2, r, q2⟩ => ⟨I2.kIn, ?_⟩) hst hpl
  refine run_fn (us := .ref _ :: us) (vs := .ref _ :: vs) (dvs := []) (ds := []) F hr b .nil hx I2 (.cons rfl r) ?_
  rw [List.append_nil]
  exact q2
theorem meth {pl : Sem Bool} (D : KnownM X.prog X.w X.K X.mg X.base CX0 C m k ps sp) (c : Cls X.K C) (hr : Room k X.A) (he : PE X o ta) (ha : PA X (e :: es) t)
    (hst : starEach (e :: es) X.env = (false, eval e X.env) :: starEach es X.env := by rfl) (hpl : (backTo pos (starEach es X.env)).any (·.1) = false := by rfl)
    (ht : eval (.Call (.Attribute o m apos) (e :: es) [] pos) X.env = (do
      let ov ← eval o X.env
      standAt apos.atName
      let (f, first) ← holding [ov] (getMethod ov m pl)
      callWith pos f first (backTo pos (starEach (e :: es) X.env)) (backToKw pos (keywordEach [] X.env))) := by rfl) :
    PE X (.Call (.Attribute o m apos) (e :: es) [] pos) (fMeth C m sp E0 ta t) := methX D c hr pass0 he ha hst hpl ht
/-- o.m(e, *y) -/
def fMethSB (K : PySem.W.Frag) (C : Addr) (m : Str) (sp : Sp) (E : XK) (ta t1 t2 : TE) : TE := fun σ H Q => ta σ H fun x H1 => match x with
  | .ref a => ∃ dx fs, H1 a = some (.ins C dx fs) ∧ fs.lookup m = none ∧ ∀ q g, H1 q = none → t1 σ (upd H1 q (.met g a)) fun y1 H2 => t2 σ H2 fun y2 H3 => match y2 with
    | .ref b => ∃ vs, (SqT K H3 b vs ∨ SqL K H3 b vs) ∧ H3 q = some (.met g a) ∧ sp (.ref a :: y1 :: vs) H3 Q E
    | _ => False
  | _ => False
theorem fnR_of {P : Program} {w : World} {K : PySem.W.Frag} {mg : Str → Option Value} {base : Heap} {CX : CXT} {k : Nat} {f : Addr} {fd : FuncData} {ps : List Str} {sp : Sp} (F : FnOk P w K mg base CX k f fd ps sp) (b : Binds K fd ps []) : FnR P w K mg base CX k f sp :=
  (F.raw b .nil).imp fun vs H Q E q => by rw [List.append_nil]; exact q
theorem methSB (D : KnownM X.prog X.w X.K X.mg X.base CX0 C m k ps sp) (c : Cls X.K C) (hr : Room k X.A) (he : PE X o ta) (h1 : PE X e1 t1) (h2 : PE X e2 t2) (hbase : attributeBase o m X.env (eval o X.env) = eval o X.env := by rfl)
    (hst : starEach [e1, .Starred e2 p] X.env = [(false, eval e1 X.env), (true, eval e2 X.env)] := by rfl) : PE X (.Call (.Attribute o m apos) [e1, .Starred e2 p] [] pos) (fMethSB X.K C m sp E0 ta t1 t2) := by
  obtain ⟨g, fd, F, B, b⟩ := D.ex
  refine ⟨fun pins s σ H Q I h => ?_⟩
  refine starcall2_of hbase hst (thn (he.run pins s σ H _ I h) fun u s1 ⟨x, H1, I1, rx, q⟩ => ?_)
  cases x <;> first | exact q.elim | skip
  rename_i a
  obtain ⟨dx, fs, ea, l, q⟩ := q
  obtain rfl : u = Value.ref a := rx
  refine getbound_ok I1 ea c B l fun q1 s2 hq1 I2 => ?_
  refine PySem.W.ks_call (P := PySem.W.MethP X.K q1 g (.ref a)) rfl (PySem.W.keeps_M B.fi) (Calls.evalArgs_plain (Calls.spliced_cons (thn (h1.run pins s2 σ _ _ I2 (q q1 g hq1)) fun v1 s3 ⟨y1, H2, I3, ry1, q2⟩ =>
    PySem.W.ks_spliced (thn (h2.run pins s3 σ H2 _ I3 q2) fun v2 s4 ⟨y2, H3, I4, ry2, q3⟩ => ?_))))
  cases y2 <;> first | exact q3.elim | skip
  rename_i t
  obtain ⟨vs, ht, hm, hsp⟩ := q3
  obtain rfl : v2 = Value.ref t := ry2
  refine StX.star_any I4 ht fun us s5 I5 rv => Calls.spliced_nil ?_
  show PySem.W.MethP X.K q1 g (.ref a) s5.heap ∧ wpAny (model X.prog X.w) X.A (PySem.call (.ref q1) (v1 :: (us ++ [])) []) (EP X pins σ Q) X.xe s5
  rw [List.append_nil]
  exact ⟨met_P I5 hm, wpAny_call (PySem.W.method_call (met_P I5 hm).1 (run_fnR (us := Value.ref a :: v1 :: us) (vs := V.ref a :: y1 :: vs) (fnR_of F b) hr pass0 I5 (.cons rfl (.cons ry1 rv)) hsp))⟩
end
section
open PySem.W
variable {prog : Program} {w : World} {A : Around} {E : Value → Shared → Prop} {s : Shared} {K : Frag} {x C L f : Addr} {h₀ : Heap} {m : Str → Option Value} {ox : Obj} {od : Option Obj} {b tb : Value}
end
section
variable {X : Cx} {C : Addr} {k : Nat} {ps : List Str} {sp : Sp}
end
end U
set_option Elab.async false
set_option linter.all false
set_option maxRecDepth 100000
set_option maxHeartbeats 4000000
namespace U
open PySem PySem.Spec PyProof.Rows L2 HT
section
variable {X : Cx} {es : List Expr} {t : TA} {pos : Pos}
def tTupF (t : TA) : TE := fun σ H Q => t σ H fun xs H1 => xs.length ≤ sizeLine ∧ ∀ p, H1 p = none → ∀ o : Obj, o.dict = none → Q (.ref p) (upd H1 p (.frz o (.tup xs)))
theorem pe_tupF {x1} (h : PA X es t) : PE X (.Tuple es x1 pos) (tTupF t) := by
  refine ⟨fun pins s σ H Q I hq => ?_⟩
  refine wpAny_Tuple_spliced (thn (h.run pos pins s σ H _ I hq) fun us s1 ⟨xs, H1, I1, r, z, q⟩ => ⟨by rw [← r.length]; exact z, ?_⟩)
  have hf : H1 s1.heap.objs.size = none := I1.hok.fresh (Nat.le_refl _)
  refine ⟨.ref s1.heap.objs.size, upd H1 s1.heap.objs.size (.frz { cls := .type "tuple", data := .seq us.toArray } (.tup xs)), I1.laid (t' := s1.toks) (fun b u e => Heap.get?_push_of_some _ e) (Nat.le_refl _) ?_, rfl, q _ hf _ rfl⟩
  exact ⟨Heap.get?_push_size _ rfl, z, us, r, ⟨_, Heap.get?_push_size _ rfl, rfl, _, rfl⟩⟩
def rCatTF (K : PySem.W.Frag) : R2 := fun x y H Q => ∃ a b xs ys, x = .ref a ∧ y = .ref b ∧ SqT K H a xs ∧ SqT K H b ys ∧ xs ≠ [] ∧ xs.length + ys.length ≤ sizeLine ∧
  (ys = [] → Q (.ref a) H) ∧ (ys ≠ [] → ∀ p, H p = none → ∀ o : Obj, o.dict = none → Q (.ref p) (upd H p (.frz o (.tup (xs ++ ys)))))
theorem op_catTF : OpR X (binaryOp .Add) (rCatTF X.K) := by
  intro pins s σ H x y v u Q I rx ry h
  obtain ⟨a, b, xs, ys, rfl, rfl, ha, hb, hx, hz, q1, q2⟩ := h
  cases rx
  cases ry
  obtain ⟨its, r1, p1, _⟩ := I.tuple ha
  obtain ⟨its2, r2, p2, _⟩ := I.tuple hb
  refine HT.cat_tup p1 p2 (fun z => hx (r1.nil_iff.mp z)) (fun z => ⟨.ref a, H, I, rfl, q1 (r2.nil_iff.mp z)⟩) (fun z => ?_) (by rw [← r1.length, ← r2.length]; exact hz)
  refine ⟨.ref s.heap.objs.size, _, I.laid (t' := s.toks) (o := .frz { cls := .type "tuple", data := .seq (its ++ its2).toArray } (.tup (xs ++ ys))) (fun b ob q => Heap.get?_push_of_some _ q) (Nat.le_refl _) ?_, rfl, q2 (fun w => z (r2.nil_iff.mpr w)) _ (I.hok.fresh (Nat.le_refl _)) _ rfl⟩
  exact ⟨Heap.get?_push_size _ rfl, by rw [List.length_append]; exact hz, _, r1.append r2, IsTup.new _ _⟩
def rCatAF (K : PySem.W.Frag) : R2 := fun x y H Q => ∃ a b xs ys, x = .ref a ∧ y = .ref b ∧ SqT K H a xs ∧ SqT K H b ys ∧ xs.length + ys.length ≤ sizeLine ∧
  (xs = [] → Q (.ref b) H) ∧ (xs ≠ [] → ys = [] → Q (.ref a) H) ∧ (xs ≠ [] → ys ≠ [] → ∀ p, H p = none → ∀ o : Obj, o.dict = none → Q (.ref p) (upd H p (.frz o (.tup (xs ++ ys)))))
theorem op_catAF : OpR X (binaryOp .Add) (rCatAF X.K) := by
  intro pins s σ H x y v u Q I rx ry h
  obtain ⟨a, b, xs, ys, rfl, rfl, ha, hb, hz, q0, q1, q2⟩ := h
  by_cases hx : xs = []
  · subst hx
    cases rx
    cases ry
    obtain ⟨its, r1, p1, _⟩ := I.tuple ha
    obtain ⟨its2, r2, p2, _⟩ := I.tuple hb
    cases r1
    exact cat_tup0 p1 p2 ⟨.ref b, H, I, rfl, q0 rfl⟩
  · exact op_catTF pins s σ H _ _ v u Q I rx ry ⟨a, b, xs, ys, rfl, rfl, ha, hb, hx, hz, q1 hx, q2 hx⟩
def rSlTF (K : PySem.W.Frag) : V → Option Int → Option Int → Hp → VK → Prop := fun x lo hi H Q => ∃ a xs, x = .ref a ∧ SqT K H a xs ∧
  ¬ (HT.sIx xs.length 0 lo = 0 ∧ HT.sIx xs.length xs.length hi = xs.length) ∧ ∀ p, H p = none → ∀ o : Obj, o.dict = none → Q (.ref p) (upd H p (.frz o (.tup (cutV xs lo hi))))
theorem sl_tupF : SlR X (rSlTF X.K) := by
  intro pins s σ H x v vl vu lo hi sl Q I rx hs pl pu h
  obtain ⟨a, xs, rfl, hx, hw, q⟩ := h
  cases rx
  obtain ⟨its, r, ht, hz⟩ := I.tuple hx
  have hlen : its.toArray.size = xs.length := by rw [List.size_toArray]; exact r.length.symm
  refine ⟨"tuple", _, PyProof.Rows.slot_tuple_getitem.lookup, ht.typeIs, ?_⟩
  refine HT.getItem_tuple_cut ht hs pl pu (by rw [hlen]; exact hw) ?_ (by rw [hlen]; exact hz)
  rw [hlen]
  refine ⟨.ref s.heap.objs.size, _, I.laid (t' := s.toks) (o := .frz { cls := .type "tuple", data := .seq (List.take (HT.sIx xs.length xs.length hi - HT.sIx xs.length 0 lo) (List.drop (HT.sIx xs.length 0 lo) its.toArray.toList)).toArray } (.tup (cutV xs lo hi))) (fun b ob q => Heap.get?_push_of_some _ q) (Nat.le_refl _) ?_, rfl, q _ (I.hok.fresh (Nat.le_refl _)) _ rfl⟩
  exact ⟨Heap.get?_push_size _ rfl, Nat.le_trans (cutV_length xs lo hi) hz, _, (r.drop (HT.sIx xs.length 0 lo)).take (HT.sIx xs.length xs.length hi - HT.sIx xs.length 0 lo), IsTup.new _ _⟩
def rSlAF (K : PySem.W.Frag) : V → Option Int → Option Int → Hp → VK → Prop := fun x lo hi H Q => ∃ a xs, x = .ref a ∧ SqT K H a xs ∧
  (HT.sIx xs.length 0 lo = 0 ∧ HT.sIx xs.length xs.length hi = xs.length → Q (.ref a) H) ∧ (¬ (HT.sIx xs.length 0 lo = 0 ∧ HT.sIx xs.length xs.length hi = xs.length) → ∀ p, H p = none → ∀ o : Obj, o.dict = none → Q (.ref p) (upd H p (.frz o (.tup (cutV xs lo hi)))))
theorem sl_tupAF : SlR X (rSlAF X.K) := by
  intro pins s σ H x v vl vu lo hi sl Q I rx hs pl pu h
  obtain ⟨a, xs, rfl, hx, q1, q2⟩ := h
  by_cases hw : HT.sIx xs.length 0 lo = 0 ∧ HT.sIx xs.length xs.length hi = xs.length
  · cases rx
    obtain ⟨its, r, ht, hz⟩ := I.tuple hx
    have hlen : its.toArray.size = xs.length := by rw [List.size_toArray]; exact r.length.symm
    refine ⟨"tuple", _, PyProof.Rows.slot_tuple_getitem.lookup, ht.typeIs, ?_⟩
    exact getItem_tuple_whole ht hs pl pu (by rw [hlen]; exact hw) ⟨.ref a, H, I, rfl, q1 hw⟩
  · exact sl_tupF pins s σ H _ v vl vu lo hi sl Q I rx hs pl pu ⟨a, xs, rfl, hx, hw, q2 hw⟩
def rRepTF (K : PySem.W.Frag) : R2 := fun x y H Q => ∃ l k xs, x = .ref l ∧ y = .int k ∧ SqT K H l xs ∧ xs ≠ [] ∧ 2 ≤ k ∧ k ≤ 1000 ∧ xs.length ≤ 1000 ∧ ∀ p, H p = none → ∀ o : Obj, o.dict = none → Q (.ref p) (upd H p (.frz o (.tup (List.replicate k.toNat xs).flatten)))
theorem op_repTF : OpR X (binaryOp .Mult) (rRepTF X.K) := by
  intro pins s σ H x y v u Q I rx ry h
  obtain ⟨l, k, xs, rfl, rfl, hT, hne, h1, h2, hz, q⟩ := h
  cases rx
  obtain ⟨t, rfl⟩ := ry
  obtain ⟨its, r, ⟨⟨cls, dd, data, sl⟩, ho, hc, n, hd⟩, hs⟩ := I.tuple hT
  simp only at hc hd
  subst hc hd
  have hle : its.length = xs.length := r.length.symm
  have hn : its ≠ [] := fun e => hne (by
    rw [e] at hle
    exact List.eq_nil_of_length_eq_zero hle.symm)
  have hi : its.toArray.isEmpty = false := by
    cases its with
    | nil => exact absurd rfl hn
    | cons a b => rfl
  have hsz0 : its.toArray.size = xs.length := by rw [List.size_toArray, hle]
  have hm : ((its.toArray.size : Nat) : Int) * k ≤ 1000000 := by
    rw [hsz0]
    have a1 : ((xs.length : Nat) : Int) * k ≤ 1000 * k := Int.mul_le_mul_of_nonneg_right (by omega) (by omega)
    omega
  have flen : (List.replicate k.toNat its).flatten.length ≤ sizeLine := by
    rw [PyProof.Rows.lm_len_rep_flat, hle, sizeLine_eq]
    have a1 : k.toNat * xs.length ≤ 1000 * 1000 := Nat.mul_le_mul (by omega) hz
    omega
  have c0 : (decide (k < -(2 ^ 63)) || decide (k ≥ 2 ^ 63)) = false := by
    rw [decide_eq_false (by omega), decide_eq_false (by omega)] <;> rfl
  have c1 : (its.toArray.isEmpty || k == 1) = false := by
    rw [hi, Bool.false_or]
    exact beq_eq_false_iff_ne.mpr (by omega)
  have c2 : (decide (k ≤ 0) || its.toArray.isEmpty) = false := by
    rw [hi, Bool.or_false]
    exact decide_eq_false (by omega)
  have c4 : Builtin.Tuple.tupleTooMany (((its.toArray.size : Nat) : Int) * k) = false := by
    unfold Builtin.Tuple.tupleTooMany
    rw [sizeLine_eq]
    exact decide_eq_false (by omega)
  refine wpAny_binaryOp_repeat_ref (T := "tuple") (U := "int") (by decide) ⟨_, ho, rfl⟩ (fun s' => typeIs_int s' k t) noFill_tuple_mul F.fills_int_mul F.slot_int_rmul repeat_tuple F.slot_int_index.lookup
    (call_meets F.slot_int_rmul (typeIs_int s k t) F.entry_int_rmul (F.args_int_rmul_2 _ _) (int_rmul_tuple k t l its.toArray n dd sl)
      ⟨ho, rfl, ⟨_, ho, rfl⟩, call_meets F.slot_tuple_mul ⟨_, ho, rfl⟩ F.entry_tuple_mul (F.args_tuple_mul_2 _ _) (tuple_mulW l its.toArray n dd sl k t c0 c1 c2 (by omega) c4 (by rw [size_rep, List.size_toArray]; exact flen)) ⟨ho, ?_⟩⟩)
  rw [size_rep]
  refine ⟨.ref s.heap.objs.size, _, I.laid (t' := s.toks) (o := .frz { cls := .type "tuple", data := .seq (List.replicate k.toNat its).flatten.toArray } (.tup (List.replicate k.toNat xs).flatten)) (fun b ob q => Heap.get?_push_of_some _ q) (Nat.le_refl _) ?_, rfl, q _ (I.hok.fresh (Nat.le_refl _)) _ rfl⟩
  exact ⟨Heap.get?_push_size _ rfl, by rw [PyProof.Rows.lm_len_rep_flat, sizeLine_eq]; have a1 : k.toNat * xs.length ≤ 1000 * 1000 := Nat.mul_le_mul (by omega) hz; omega, _, r.rep k.toNat, IsTup.new _ _⟩
theorem call_tuple_ofF : CallR X (.type "tuple") (fun xs H Q => ∃ p ys, xs = [.ref p] ∧ ((SqL X.K H p ys ∧ ∀ l, H l = none → ∀ o : Obj, o.dict = none → Q (.ref l) (upd H l (.frz o (.tup ys)))) ∨ (SqT X.K H p ys ∧ Q (.ref p) H))) := by
  intro pins s σ H xs us Q I r h
  obtain ⟨p, ys, rfl, h⟩ := h
  obtain ⟨u, rfl, rx⟩ := vals1 r
  cases rx
  rcases h with ⟨hq, q⟩ | ⟨hq, q⟩
  · obtain ⟨its, r', pl, hz⟩ := I.list hq
    have hlen := r'.length
    refine call_tuple_list pl.isList (fun h' kp => ?_) (by simp only [List.size_toArray] <;> omega)
    have I1 : Inv X pins σ H { s with heap := h' } := I.kept (t' := s.toks) kp
    have I2 : Inv X pins σ (upd H h'.objs.size (.frz { cls := .type "tuple", data := .seq its.toArray } (.tup ys))) { s with heap := h'.push { cls := .type "tuple", data := .seq its.toArray } } :=
      I1.laid (t' := s.toks) (fun b o e => Heap.get?_push_of_some _ e) (Nat.le_refl _) (show ObjOk X.prog X.w _ _ _ (.frz { cls := .type "tuple", data := .seq its.toArray } (.tup ys)) from ⟨Heap.get?_push_size _ rfl, hz, its, r', IsTup.new _ _⟩)
    exact ⟨.ref h'.objs.size, _, I2, rfl, q _ (I1.hok.fresh (Nat.le_refl _)) _ rfl⟩
  · obtain ⟨its, r', pl, hz⟩ := I.tuple hq
    exact call_tuple_same pl ⟨.ref p, H, I, rfl, q⟩
end
section
variable {X : Cx} {e : Expr} {te : L2.St → Hp → (Int → Int → Hp → Prop) → Prop}
end
end U
set_option Elab.async false
set_option linter.all false
set_option maxRecDepth 100000
set_option maxHeartbeats 2000000
namespace U
open PySem PySem.Spec PyProof.Rows L2
/-- plain data; a thing that changes is an address -/
inductive Da where
  | non | bl (b : Bool) | int (i : Int) | str (x : Str) | ty (n : String)
  | lst (xs : List Da) | tup (xs : List Da) | obj (C : Addr) (fs : List (Str × Da)) | ref (a : Addr) | dct (kvs : List (Key × Da)) | exn (a dd : Addr) (fs : List (Str × Da))
/-- what changes: a list, an instance -/
inductive MO where
  | lst (xs : List Da) | ins (C : Addr) (fs : List (Str × Da)) | dct (kvs : List (Key × Da)) | tbl (q : Str) | exc (a C : Addr) (fs : List (Str × Da))
abbrev Mm := Addr → Option MO
abbrev De := List (Option Da)
abbrev DK := Da → Mm → Prop
/-- an exception: its class, its attributes -/
abbrev DX := Value → List (Str × Da) → Mm → Prop
def mput (M : Mm) (a : Addr) (o : MO) : Mm := fun b => if b = a then some o else M b
def mdel (M : Mm) (a : Addr) : Mm := fun b => if b = a then none else M b
theorem mput_same {M : Mm} {a : Addr} {o : MO} : mput M a o a = some o := by unfold mput; rw [if_pos rfl]
theorem mput_ne {M : Mm} {a b : Addr} {o : MO} (h : b ≠ a) : mput M a o b = M b := by unfold mput; rw [if_neg h]
theorem mput_put {M : Mm} {a : Addr} {o u : MO} : mput (mput M a o) a u = mput M a u := by
  funext b; unfold mput; split <;> rfl
theorem mdel_put {M : Mm} {a : Addr} {o : MO} (h : M a = none) : mdel (mput M a o) a = M := by
  funext b; unfold mdel mput; split
  · rename_i e; rw [e, h]
  · rfl
def putD (f : Str) (v : Da) : List (Str × Da) → List (Str × Da)
  | [] => [(f, v)]
  | (g, x) :: r => if g = f then (g, v) :: r else (g, x) :: putD f v r
def Sl (K : PySem.W.Frag) (W : Addr → Prop) (H : Hp) (a : Addr) (vs : List V) : Prop := (W a ∧ Rd H a (.lst vs)) ∨ SqL K (fun _ => none) a vs
def Sp' (K : PySem.W.Frag) (W : Addr → Prop) (H : Hp) (a : Addr) (vs : List V) : Prop := (W a ∧ Rd H a (.tup vs)) ∨ SqT K (fun _ => none) a vs ∧ ∃ o, K.lookup a = some o ∧ o.dict = none
mutual
inductive RD (K : PySem.W.Frag) (W : Addr → Prop) (H : Hp) : V → Da → Prop
  | non : RD K W H .non .non
  | bl (b : Bool) : RD K W H (.bl b) (.bl b)
  | int (i : Int) : RD K W H (.int i) (.int i)
  | str (x : Str) : RD K W H (.str x) (.str x)
  | ty (n : String) : RD K W H (.ty n) (.ty n)
  | lst {a : Addr} {vs : List V} {ds : List Da} : Sl K W H a vs → RDs K W H vs ds → RD K W H (.ref a) (.lst ds)
  | tup {a : Addr} {vs : List V} {ds : List Da} : Sp' K W H a vs → RDs K W H vs ds → RD K W H (.ref a) (.tup ds)
  | obj {a C dx : Addr} {vs : List (Str × V)} {fs : List (Str × Da)} : W a → H a = some (.ins C dx vs) → RF K W H vs fs → RD K W H (.ref a) (.obj C fs)
  | ref (a : Addr) : RD K W H (.ref a) (.ref a)
  | dct {a : Addr} {vs : List (Key × V)} {ds : List (Key × Da)} : W a → H a = some (.dK vs) → RK K W H vs ds → RD K W H (.ref a) (.dct ds)
  | exn {a dd : Addr} {vs : List (Str × V)} {fs : List (Str × Da)} : W dd → H dd = some (.xd vs) → RF K W H vs fs → RD K W H (.ref a) (.exn a dd fs)
inductive RDs (K : PySem.W.Frag) (W : Addr → Prop) (H : Hp) : List V → List Da → Prop
  | nil : RDs K W H [] []
  | cons {v : V} {vs : List V} {d : Da} {ds : List Da} : RD K W H v d → RDs K W H vs ds → RDs K W H (v :: vs) (d :: ds)
inductive RF (K : PySem.W.Frag) (W : Addr → Prop) (H : Hp) : List (Str × V) → List (Str × Da) → Prop
  | nil : RF K W H [] []
  | cons {f : Str} {v : V} {vs : List (Str × V)} {d : Da} {ds : List (Str × Da)} : RD K W H v d → RF K W H vs ds → RF K W H ((f, v) :: vs) ((f, d) :: ds)
inductive RK (K : PySem.W.Frag) (W : Addr → Prop) (H : Hp) : List (Key × V) → List (Key × Da) → Prop
  | nil : RK K W H [] []
  | cons {f : Key} {v : V} {vs : List (Key × V)} {d : Da} {ds : List (Key × Da)} : RD K W H v d → RK K W H vs ds → RK K W H ((f, v) :: vs) ((f, d) :: ds)
end
/-- the heap grows: what is settled or another's stands -/
structure Grow (F W : Addr → Prop) (H : Hp) (W' : Addr → Prop) (H' : Hp) : Prop where
  w : ∀ a, W a → W' a
  h : ∀ a, W a → H' a = H a
  f : ∀ a, F a → H' a = H a
theorem Grow.refl {F W : Addr → Prop} {H : Hp} : Grow F W H W H := ⟨fun _ h => h, fun _ _ => rfl, fun _ _ => rfl⟩
theorem Grow.trans {F W W1 W2 : Addr → Prop} {H H1 H2 : Hp} (a : Grow F W H W1 H1) (b : Grow F W1 H1 W2 H2) : Grow F W H W2 H2 :=
  ⟨fun c h => b.w c (a.w c h), fun c h => (b.h c (a.w c h)).trans (a.h c h), fun c h => (b.f c h).trans (a.f c h)⟩
theorem Grow.less {F F' W W' : Addr → Prop} {H H' : Hp} (g : Grow F' W H W' H') (h : ∀ a, F a → F' a) : Grow F W H W' H' := ⟨g.w, g.h, fun a q => g.f a (h a q)⟩
section
variable {K : PySem.W.Frag} {F W W' : Addr → Prop} {H H' : Hp} {a : Addr}
theorem rd_mono {u : HO} (e : H' a = H a) (h : Rd H a u) : Rd H' a u := by unfold Rd at *; rw [e]; exact h
theorem Sl.mono {vs : List V} (g : Grow F W H W' H') : Sl K W H a vs → Sl K W' H' a vs
  | .inl ⟨w, h⟩ => .inl ⟨g.w _ w, rd_mono (g.h _ w) h⟩
  | .inr h => .inr h
theorem Sp'.mono {vs : List V} (g : Grow F W H W' H') : Sp' K W H a vs → Sp' K W' H' a vs
  | .inl ⟨w, h⟩ => .inl ⟨g.w _ w, rd_mono (g.h _ w) h⟩
  | .inr h => .inr h
theorem Sl.sq {vs : List V} : Sl K W H a vs → SqL K H a vs
  | .inl ⟨_, h⟩ => .inl h
  | .inr (.inl (.inl h)) => nomatch h
  | .inr (.inl (.inr ⟨_, h⟩)) => nomatch h
  | .inr (.inr h) => .inr h
theorem Sp'.sq {vs : List V} : Sp' K W H a vs → SqT K H a vs
  | .inl ⟨_, h⟩ => .inl h
  | .inr ⟨.inl (.inl h), _⟩ => nomatch h
  | .inr ⟨.inl (.inr ⟨_, h⟩), _⟩ => nomatch h
  | .inr ⟨.inr h, _⟩ => .inr h
mutual
theorem RD.mono (g : Grow F W H W' H') : ∀ {v : V} {d : Da}, RD K W H v d → RD K W' H' v d
  | _, _, .non => .non
  | _, _, .bl b => .bl b
  | _, _, .int i => .int i
  | _, _, .str x => .str x
  | _, _, .ty x => .ty x
  | _, _, .ref x => .ref x
  | _, _, .lst h k => .lst (h.mono g) (RDs.mono g k)
  | _, _, .tup h k => .tup (h.mono g) (RDs.mono g k)
  | _, _, .obj w h k => .obj (g.w _ w) ((g.h _ w).trans h) (RF.mono g k)
  | _, _, .dct w h k => .dct (g.w _ w) ((g.h _ w).trans h) (RK.mono g k)
  | _, _, .exn w h k => .exn (g.w _ w) ((g.h _ w).trans h) (RF.mono g k)
theorem RDs.mono (g : Grow F W H W' H') : ∀ {vs : List V} {ds : List Da}, RDs K W H vs ds → RDs K W' H' vs ds
  | _, _, .nil => .nil
  | _, _, .cons h k => .cons (RD.mono g h) (RDs.mono g k)
theorem RF.mono (g : Grow F W H W' H') : ∀ {vs : List (Str × V)} {ds : List (Str × Da)}, RF K W H vs ds → RF K W' H' vs ds
  | _, _, .nil => .nil
  | _, _, .cons h k => .cons (RD.mono g h) (RF.mono g k)
theorem RK.mono (g : Grow F W H W' H') : ∀ {vs : List (Key × V)} {ds : List (Key × Da)}, RK K W H vs ds → RK K W' H' vs ds
  | _, _, .nil => .nil
  | _, _, .cons h k => .cons (RD.mono g h) (RK.mono g k)
end
theorem RDs.length : ∀ {vs : List V} {ds : List Da}, RDs K W H vs ds → vs.length = ds.length
  | _, _, .nil => rfl
  | _, _, .cons _ k => by rw [List.length_cons, List.length_cons, k.length]
theorem RDs.get : ∀ {vs : List V} {ds : List Da} {i : Nat} {d : Da}, RDs K W H vs ds → ds[i]? = some d → ∃ v, vs[i]? = some v ∧ RD K W H v d
  | _, _, 0, _, .cons h _, e => by cases e; exact ⟨_, rfl, h⟩
  | _, _, i + 1, _, .cons _ k, e => RDs.get (i := i) k e
  | _, _, _, _, .nil, e => by simp at e
theorem RDs.append : ∀ {vs ws : List V} {ds es : List Da}, RDs K W H vs ds → RDs K W H ws es → RDs K W H (vs ++ ws) (ds ++ es)
  | _, _, _, _, .nil, k => k
  | _, _, _, _, .cons h t, k => .cons h (RDs.append t k)
theorem RDs.take : ∀ {vs : List V} {ds : List Da} (n : Nat), RDs K W H vs ds → RDs K W H (vs.take n) (ds.take n)
  | _, _, 0, _ => .nil
  | _, _, _ + 1, .nil => .nil
  | _, _, n + 1, .cons h k => .cons h (RDs.take n k)
theorem RDs.drop : ∀ {vs : List V} {ds : List Da} (n : Nat), RDs K W H vs ds → RDs K W H (vs.drop n) (ds.drop n)
  | _, _, 0, h => h
  | _, _, _ + 1, .nil => .nil
  | _, _, n + 1, .cons _ k => RDs.drop n k
theorem RDs.set : ∀ {vs : List V} {ds : List Da} {v : V} {d : Da} (n : Nat), RDs K W H vs ds → RD K W H v d → RDs K W H (vs.set n v) (ds.set n d)
  | _, _, _, _, _, .nil, _ => .nil
  | _, _, _, _, 0, .cons _ k, r => .cons r k
  | _, _, _, _, n + 1, .cons h k, r => .cons h (RDs.set n k r)
theorem RDs.ints : ∀ {vs : List V} {ns : List Int}, RDs K W H vs (ns.map Da.int) → vs = ns.map V.int
  | _, [], .nil => rfl
  | _, n :: ns, .cons h k => by cases h; rw [RDs.ints k]; rfl
theorem RDs.strs : ∀ {vs : List V} {ns : List Str}, RDs K W H vs (ns.map Da.str) → vs = ns.map V.str
  | _, [], .nil => rfl
  | _, n :: ns, .cons h k => by cases h; rw [RDs.strs k]; rfl
theorem RDs.bls : ∀ {vs : List V} {ns : List Bool}, RDs K W H vs (ns.map Da.bl) → vs = ns.map V.bl
  | _, [], .nil => rfl
  | _, n :: ns, .cons h k => by cases h; rw [RDs.bls k]; rfl
theorem RF.get : ∀ {vs : List (Str × V)} {fs : List (Str × Da)} {f : Str} {d : Da}, RF K W H vs fs → fs.lookup f = some d → ∃ v, vs.lookup f = some v ∧ RD K W H v d
  | _, _, _, _, .nil, e => by simp at e
  | _, _, f, d, .cons (f := g) h k, e => by
    rw [List.lookup_cons] at e ⊢
    cases q : (f == g) with
    | true => rw [q] at e; cases e; exact ⟨_, rfl, h⟩
    | false => rw [q] at e; exact RF.get k e
theorem RF.none : ∀ {vs : List (Str × V)} {fs : List (Str × Da)} {f : Str}, RF K W H vs fs → fs.lookup f = none → vs.lookup f = none
  | _, _, _, .nil, e => rfl
  | _, _, f, .cons (f := g) h k, e => by
    rw [List.lookup_cons] at e ⊢
    cases q : (f == g) with
    | true => rw [q] at e; cases e
    | false => rw [q] at e; exact RF.none k e
theorem RF.length : ∀ {vs : List (Str × V)} {fs : List (Str × Da)}, RF K W H vs fs → vs.length = fs.length
  | _, _, .nil => rfl
  | _, _, .cons _ k => by rw [List.length_cons, List.length_cons, k.length]
theorem RF.put : ∀ {vs : List (Str × V)} {fs : List (Str × Da)} {f : Str} {v : V} {d : Da}, RF K W H vs fs → RD K W H v d → RF K W H (putF f v vs) (putD f d fs)
  | _, _, _, _, _, .nil, r => .cons r .nil
  | _, _, f, _, _, .cons (f := g) h k, r => by
    unfold putF putD
    split
    · exact .cons r k
    · exact .cons h (RF.put k r)
end
/-- an error object at a, its class, its dict -/
def exoG (a C : Addr) (d : Option Addr) : HO := .ext fun h => ∃ oe, h.get? a = some oe ∧ Zc (.ref C) d oe ∧ ∃ vs, oe.data = .fields vs
/-- what an error object keeps -/
def XRd (K : PySem.W.Frag) (W : Addr → Prop) (H : Hp) (fs : List (Str × Da)) : Option Addr → Prop
  | none => fs = []
  | some dd => fs ≠ [] ∧ ∃ vs, W dd ∧ H dd = some (.xd vs) ∧ RF K W H vs fs
theorem XRd.mono {K : PySem.W.Frag} {F W W' : Addr → Prop} {H H' : Hp} (g : Grow F W H W' H') {fs : List (Str × Da)} : ∀ {d : Option Addr}, XRd K W H fs d → XRd K W' H' fs d
  | none, h => h
  | some _, ⟨n, vs, w, e, r⟩ => ⟨n, vs, g.w _ w, (g.h _ w).trans e, r.mono g⟩
/-- a thing of the memory -/
inductive MR (K : PySem.W.Frag) (W : Addr → Prop) (H : Hp) : MO → HO → Prop
  | lst {xs : List Da} {vs : List V} : RDs K W H vs xs → MR K W H (.lst xs) (.lst vs)
  | ins {C dx : Addr} {fs : List (Str × Da)} {vs : List (Str × V)} : RF K W H vs fs → MR K W H (.ins C fs) (.ins C dx vs)
  | dct {ds : List (Key × Da)} {vs : List (Key × V)} : RK K W H vs ds → MR K W H (.dct ds) (.dK vs)
  | tbl {q : Str} {ps : Array Value} : TriplesOk ps.toList → (∀ (pos : Pos) (cv : Value), codeAmong pos ps.toList = some cv → ∃ c, cv = .ref c ∧ W c ∧ H c = some (LamX.CodeO c q)) → MR K W H (.tbl q) (.tbl ps)
  | exc {a C : Addr} {d : Option Addr} {fs : List (Str × Da)} : XRd K W H fs d → MR K W H (.exc a C fs) (exoG a C d)
theorem MR.mono {K : PySem.W.Frag} {F W W' : Addr → Prop} {H H' : Hp} (g : Grow F W H W' H') {o : MO} {u : HO} (h : MR K W H o u) : MR K W' H' o u := by
  cases h with
  | lst h => exact .lst (h.mono g)
  | ins h => exact .ins (h.mono g)
  | dct h => exact .dct (h.mono g)
  | exc h => exact .exc (h.mono g)
  | tbl h1 h2 => exact .tbl h1 fun pos cv e => let ⟨c, a, b, d⟩ := h2 pos cv e; ⟨c, a, g.w _ b, (g.h _ b).trans d⟩
/-- a settled tuple stands frozen, without a dict of its own -/
def NT : HO → Prop
  | .tup _ => False
  | .frz o u => match u with
    | .tup _ => o.dict = none
    | _ => True
  | _ => True
theorem MR.nt {K : PySem.W.Frag} {W : Addr → Prop} {H : Hp} {o : MO} {u : HO} (h : MR K W H o u) : NT u := by
  cases h <;> exact trivial
structure Stt (K : PySem.W.Frag) (F W : Addr → Prop) (M : Mm) (H : Hp) : Prop where
  wf : ∀ a, W a → ∃ o, H a = some o
  fr : ∀ a, F a → ¬ W a ∧ M a = none ∧ ∃ o, H a = some o
  dis : ∀ a o, M a = some o → ¬ W a
  mem : ∀ a o, M a = some o → ∃ u, H a = some u ∧ MR K W H o u
  pl : ∀ a o, W a → H a = some o → NT o
def wadd (W : Addr → Prop) (p : Addr) : Addr → Prop := fun a => a = p ∨ W a
section
variable {K : PySem.W.Frag} {F W W' : Addr → Prop} {H H' : Hp} {M : Mm} {p : Addr}
theorem Stt.freeM (s : Stt K F W M H) (h : H p = none) : M p = none := by
  cases e : M p with
  | none => rfl
  | some o => obtain ⟨u, q, _⟩ := s.mem _ _ e; rw [h] at q; cases q
theorem Stt.freeW (s : Stt K F W M H) (h : H p = none) : ¬ W p := fun w => by obtain ⟨o, q⟩ := s.wf _ w; rw [h] at q; cases q
theorem Stt.freeF (s : Stt K F W M H) (h : H p = none) : ¬ F p := fun w => by obtain ⟨_, _, o, q⟩ := s.fr _ w; rw [h] at q; cases q
theorem Stt.neW (s : Stt K F W M H) (h : H p = none) {a : Addr} (w : W a) : a ≠ p := fun e => s.freeW h (e ▸ w)
theorem Stt.neF (s : Stt K F W M H) (h : H p = none) {a : Addr} (w : F a) : a ≠ p := fun e => s.freeF h (e ▸ w)
theorem grow_new {o : HO} (s : Stt K F W M H) (h : H p = none) : Grow F W H W (upd H p o) :=
  ⟨fun _ h => h, fun a w => upd_ne (s.neW h w), fun a w => upd_ne (s.neF h w)⟩
/-- junk -/
theorem Stt.junk (s : Stt K F W M H) (h : H p = none) (o : HO) : Stt K F W M (upd H p o) where
  wf := fun a w => by
    by_cases e : a = p
    · subst e; exact ⟨o, upd_same⟩
    · rw [upd_ne e]; exact s.wf a w
  fr := fun a w => ⟨(s.fr a w).1, (s.fr a w).2.1, by rw [upd_ne (s.neF h w)]; exact (s.fr a w).2.2⟩
  dis := s.dis
  mem := fun a u e => by
    obtain ⟨v, q, r⟩ := s.mem a u e
    exact ⟨v, by rw [upd_ne (ne_of_none q h)]; exact q, r.mono (grow_new s h)⟩
  pl := fun a u w e => by rw [upd_ne (s.neW h w)] at e; exact s.pl a u w e
/-- a new settled thing -/
theorem Stt.new (s : Stt K F W M H) (h : H p = none) (o : HO) (ho : NT o := by exact trivial) : Stt K F (wadd W p) M (upd H p o) ∧ Grow F W H (wadd W p) (upd H p o) := by
  have g : Grow F W H (wadd W p) (upd H p o) := ⟨fun _ h => .inr h, (grow_new s h).h, (grow_new s h).f⟩
  refine ⟨⟨fun a w => ?_, fun a w => ⟨?_, (s.fr a w).2.1, by rw [upd_ne (s.neF h w)]; exact (s.fr a w).2.2⟩, fun a u e w => ?_, fun a u e => ?_, fun a u w e => ?_⟩, g⟩
  · rcases w with w | w
    · subst w; exact ⟨o, upd_same⟩
    · rw [upd_ne (s.neW h w)]; exact s.wf a w
  · rintro (e | e)
    · exact s.freeF h (e ▸ w)
    · exact (s.fr a w).1 e
  · rcases w with w | w
    · subst w; rw [s.freeM h] at e; cases e
    · exact s.dis a u e w
  · obtain ⟨v, q, r⟩ := s.mem a u e
    exact ⟨v, by rw [upd_ne (ne_of_none q h)]; exact q, r.mono g⟩
  · rcases w with w | w
    · subst w; rw [upd_same] at e; cases e; exact ho
    · rw [upd_ne (s.neW h w)] at e; exact s.pl a u w e
/-- a new thing of the memory -/
theorem Stt.newM (s : Stt K F W M H) (h : H p = none) {o : HO} {u : MO} (r : MR K W H u o) : Stt K F W (mput M p u) (upd H p o) := by
  refine ⟨fun a w => ?_, fun a w => ⟨(s.fr a w).1, ?_, by rw [upd_ne (s.neF h w)]; exact (s.fr a w).2.2⟩, fun a v e w => ?_, fun a v e => ?_, fun a v w e => by rw [upd_ne (s.neW h w)] at e; exact s.pl a v w e⟩
  · rw [upd_ne (s.neW h w)]; exact s.wf a w
  · rw [mput_ne (s.neF h w)]; exact (s.fr a w).2.1
  · by_cases q : a = p
    · subst q; exact s.freeW h w
    · rw [mput_ne q] at e; exact s.dis a v e w
  · by_cases q : a = p
    · subst q; rw [mput_same] at e; cases e; exact ⟨o, upd_same, r.mono (grow_new s h)⟩
    · rw [mput_ne q] at e
      obtain ⟨x, q', r'⟩ := s.mem a v e
      exact ⟨x, by rw [upd_ne q]; exact q', r'.mono (grow_new s h)⟩
theorem grow_put {o : HO} {v : MO} (s : Stt K F W M H) (h : M p = some v) : Grow F W H W (upd H p o) :=
  ⟨fun _ h => h, fun a w => upd_ne (fun e => s.dis _ _ h (e ▸ w)), fun a w => upd_ne (fun e => by subst e; rw [(s.fr a w).2.1] at h; cases h)⟩
/-- a thing of the memory changes -/
theorem Stt.put (s : Stt K F W M H) {v : MO} (h : M p = some v) {o : HO} {u : MO} (r : MR K W H u o) : Stt K F W (mput M p u) (upd H p o) := by
  have g := grow_put (o := o) s h
  refine ⟨fun a w => ?_, fun a w => ?_, fun a v' e w => ?_, fun a v' e => ?_, fun a v' w e => by rw [g.h a w] at e; exact s.pl a v' w e⟩
  · rw [g.h a w]; exact s.wf a w
  · have ne : a ≠ p := fun e => by subst e; rw [(s.fr a w).2.1] at h; cases h
    exact ⟨(s.fr a w).1, by rw [mput_ne ne]; exact (s.fr a w).2.1, by rw [upd_ne ne]; exact (s.fr a w).2.2⟩
  · by_cases q : a = p
    · subst q; exact s.dis _ _ h w
    · rw [mput_ne q] at e; exact s.dis a v' e w
  · by_cases q : a = p
    · subst q; rw [mput_same] at e; cases e; exact ⟨o, upd_same, r.mono g⟩
    · rw [mput_ne q] at e
      obtain ⟨x, q', r'⟩ := s.mem a v' e
      exact ⟨x, by rw [upd_ne q]; exact q', r'.mono g⟩
/-- a thing of the memory changes no more -/
theorem Stt.settle (s : Stt K F W M H) {v : MO} (h : M p = some v) : Stt K F (wadd W p) (mdel M p) H ∧ Grow F W H (wadd W p) H := by
  have g : Grow F W H (wadd W p) H := ⟨fun _ h => .inr h, fun _ _ => rfl, fun _ _ => rfl⟩
  refine ⟨⟨fun a w => ?_, fun a w => ⟨?_, ?_, (s.fr a w).2.2⟩, fun a u e w => ?_, fun a u e => ?_, fun a u w e => ?_⟩, g⟩
  · rcases w with w | w
    · subst w; obtain ⟨u, q, _⟩ := s.mem _ _ h; exact ⟨u, q⟩
    · exact s.wf a w
  · rintro (e | e)
    · subst e; rw [(s.fr a w).2.1] at h; cases h
    · exact (s.fr a w).1 e
  · unfold mdel; split
    · rfl
    · exact (s.fr a w).2.1
  · unfold mdel at e
    split at e
    · cases e
    · rename_i ne
      rcases w with w | w
      · exact ne w
      · exact s.dis a u e w
  · unfold mdel at e
    split at e
    · cases e
    · obtain ⟨x, q', r'⟩ := s.mem a u e
      exact ⟨x, q', r'.mono g⟩
  · rcases w with w | w
    · subst w; obtain ⟨x, q, mr⟩ := s.mem _ _ h; rw [q] at e; cases e; exact mr.nt
    · exact s.pl a u w e
/-- a thing of the memory is forgotten -/
theorem Stt.forget (s : Stt K F W M H) {M' : Mm} (h : ∀ a o, M' a = some o → M a = some o) : Stt K F W M' H :=
  ⟨s.wf, fun a w => ⟨(s.fr a w).1, (by
    cases e : M' a with
    | none => rfl
    | some o => have q := h a o e; rw [(s.fr a w).2.1] at q; cases q), (s.fr a w).2.2⟩, fun a o e => s.dis a o (h a o e), fun a o e => s.mem a o (h a o e), s.pl⟩
end
end U
set_option Elab.async false
set_option linter.all false
set_option maxRecDepth 100000
set_option maxHeartbeats 2000000
namespace U
open PySem PySem.Spec PyProof.Rows L2
/-- the names' values -/
def EnvO (K : PySem.W.Frag) (W : Addr → Prop) (H : Hp) : Option Da → Option V → Prop
  | none, _ => True
  | some d, ov => ∃ v, ov = some v ∧ RD K W H v d
abbrev EnvR (K : PySem.W.Frag) (W : Addr → Prop) (H : Hp) : De → L2.St → Prop := Paired (EnvO K W H)
theorem EnvO.mono {K : PySem.W.Frag} {F W W' : Addr → Prop} {H H' : Hp} (g : Grow F W H W' H') : ∀ {a : Option Da} {b : Option V}, EnvO K W H a b → EnvO K W' H' a b
  | none, _, _ => trivial
  | some _, _, ⟨v, e, r⟩ => ⟨v, e, r.mono g⟩
theorem EnvR.mono {K : PySem.W.Frag} {F W W' : Addr → Prop} {H H' : Hp} (g : Grow F W H W' H') : ∀ {δ : De} {σ : L2.St}, EnvR K W H δ σ → EnvR K W' H' δ σ
  | _, _, .nil => .nil
  | _, _, .cons h t => .cons (h.mono g) (EnvR.mono g t)
theorem EnvR.get {K : PySem.W.Frag} {W : Addr → Prop} {H : Hp} : ∀ {δ : De} {σ : L2.St} {i : Nat} {d : Da}, EnvR K W H δ σ → δ[i]? = some (some d) → ∃ v, σ[i]? = some (some v) ∧ RD K W H v d
  | _, _, _, _, .nil, e => by simp at e
  | _, _, 0, d, .cons h _, e => by
    simp at e; subst e
    obtain ⟨v, e, r⟩ := h
    exact ⟨v, by simp [e], r⟩
  | _, _, i + 1, d, .cons _ t, e => by
    obtain ⟨v, h1, h2⟩ := EnvR.get (i := i) t (by simpa using e)
    exact ⟨v, by simpa using h1, h2⟩
theorem EnvR.set {K : PySem.W.Frag} {W : Addr → Prop} {H : Hp} {v : V} {d : Da} (r : RD K W H v d) : ∀ {δ : De} {σ : L2.St} (i : Nat), EnvR K W H δ σ → EnvR K W H (δ.set i (some d)) (σ.set i (some v))
  | _, _, _, .nil => .nil
  | _, _, 0, .cons _ t => .cons ⟨v, rfl, r⟩ t
  | _, _, i + 1, .cons h t => .cons h (EnvR.set r i t)
theorem EnvR.del {K : PySem.W.Frag} {W : Addr → Prop} {H : Hp} : ∀ {δ : De} {σ : L2.St} (i : Nat), EnvR K W H δ σ → EnvR K W H (δ.set i none) (σ.set i none)
  | _, _, _, .nil => .nil
  | _, _, 0, .cons _ t => .cons trivial t
  | _, _, i + 1, .cons h t => .cons h (EnvR.del i t)
/-- the end: what is related, grown -/
def Kt {α β : Type} (R : (Addr → Prop) → Hp → α → β → Prop) (K : PySem.W.Frag) (F W : Addr → Prop) (H : Hp) (Qd : β → Mm → Prop) (Q : α → Hp → Prop) : Prop :=
  ∀ v H' W' d M', Grow F W H W' H' → Stt K F W' M' H' → R W' H' v d → Qd d M' → Q v H'
theorem Kt.mono {α β : Type} {R : (Addr → Prop) → Hp → α → β → Prop} {K : PySem.W.Frag} {F W W1 : Addr → Prop} {H H1 : Hp} {Qd : β → Mm → Prop} {Q : α → Hp → Prop} (g : Grow F W H W1 H1) (k : Kt R K F W H Qd Q) : Kt R K F W1 H1 Qd Q :=
  fun v H' W' d M' g' => k v H' W' d M' (g.trans g')
abbrev DR (β : Type) := De → Mm → (β → Mm → Prop) → Prop
/-- a reading over data as a reading -/
def Li {α β : Type} (R : (Addr → Prop) → Hp → α → β → Prop) (K : PySem.W.Frag) (f : DR β) : L2.St → Hp → (α → Hp → Prop) → Prop := fun σ H Q =>
  ∃ δ F W M Qd, EnvR K W H δ σ ∧ Stt K F W M H ∧ f δ M Qd ∧ Kt R K F W H Qd Q
abbrev DTE := DR Da
abbrev DTT := DR Bool
abbrev DTA := DR (List Da)
abbrev rE (K : PySem.W.Frag) : (Addr → Prop) → Hp → V → Da → Prop := RD K
abbrev rT : (Addr → Prop) → Hp → Bool → Bool → Prop := fun _ _ a b => a = b
abbrev rA (K : PySem.W.Frag) : (Addr → Prop) → Hp → List V → List Da → Prop := RDs K
def DE (X : Cx) (e : Expr) (f : DTE) : Prop := PE X e (Li (rE X.K) X.K f)
def DT (X : Cx) (e : Expr) (f : DTT) : Prop := PT X e (Li rT X.K f)
def DW (X : Cx) (e : Expr) (f : DTT) : Prop := PW X e (Li rT X.K f)
def DA (X : Cx) (es : List Expr) (f : DTA) : Prop := PA X es (Li (rA X.K) X.K f)
/-- what is ready at once -/
theorem Kt.now {α β : Type} {R : (Addr → Prop) → Hp → α → β → Prop} {K : PySem.W.Frag} {F W : Addr → Prop} {M : Mm} {H : Hp} {Qd : β → Mm → Prop} {Q : α → Hp → Prop} (k : Kt R K F W H Qd Q) (s : Stt K F W M H) {v : α} {d : β} (r : R W H v d) (q : Qd d M) : Q v H :=
  k v H W d M .refl s r q
/-- one reading, then another -/
theorem Li.bind {α β γ ε : Type} {R : (Addr → Prop) → Hp → α → β → Prop} {R' : (Addr → Prop) → Hp → γ → ε → Prop} {K : PySem.W.Frag} {f : DR β} {g : β → DR ε} {σ : L2.St} {H : Hp} {Q : γ → Hp → Prop} {C : α → Hp → Prop}
    (h : Li R' K (fun δ M Q => f δ M fun x M1 => g x δ M1 Q) σ H Q) (c : ∀ v H1 d, (∃ W1, R W1 H1 v d ∧ ∃ δ F M Qd, EnvR K W1 H1 δ σ ∧ Stt K F W1 M H1 ∧ g d δ M Qd ∧ Kt R' K F W1 H1 Qd Q) → C v H1) : Li R K f σ H C := by
  obtain ⟨δ, F, W, M, Qd, e, s, h, k⟩ := h
  exact ⟨δ, F, W, M, _, e, s, h, fun v H1 W1 d M1 g1 s1 r1 q1 => c v H1 d ⟨W1, r1, δ, F, M1, Qd, e.mono g1, s1, q1, k.mono g1⟩⟩
section
variable {X : Cx} {a b c e : Expr} {es rest : List Expr} {fa fb fc f : DTE} {ft fu : DTT} {fs : DTA} {pos p : Pos}
theorem pt_imp {t t' : TT} (h : PT X e t) (f : ∀ σ H Q, t' σ H Q → t σ H Q) : PT X e t' := ⟨fun pins s σ H Q I q => h.run pins s σ H Q I (f σ H Q q)⟩
theorem pw_imp {t t' : TT} (h : PW X e t) (f : ∀ σ H Q, t' σ H Q → t σ H Q) : PW X e t' := ⟨fun wh pins s σ H Q I q => h.run wh pins s σ H Q I (f σ H Q q)⟩
theorem pa_imp {t t' : TA} (h : PA X es t) (f : ∀ σ H Q, t' σ H Q → t σ H Q) : PA X es t' := ⟨fun po pins s σ H Q I q => h.run po pins s σ H Q I (f σ H Q q)⟩
def gVar (i : Nat) : DTE := fun δ M Q => match δ[i]? with | some (some v) => Q v M | _ => False
theorem dn (i : Nat) {x : Str} {pos : Pos} (hN : X.N[i]? = some x := by rfl) (hv : Vis X.env.scope x := by first | exact Or.inl rfl | exact Or.inr (Or.inl rfl) | exact Or.inr (Or.inr rfl))
    (hd : (x == ("__debug__" : Str)) = false := by decide) (hcd : (x == ("__classdict__" : Str)) = false := by decide) : DE X (.Name x pos) (gVar i) :=
  imp (pe_var hN hv hd hcd) fun σ H Q ⟨δ, F, W, M, Qd, e, s, h, k⟩ => by
    unfold gVar at h
    split at h
    · rename_i d q
      obtain ⟨v, q', r⟩ := e.get q
      exact ⟨v, q', k.now s r h⟩
    · exact h.elim
def gC (d : Da) : DTE := fun _ M Q => Q d M
theorem d_const {v : V} {d : Da} (h : PE X e (tC v)) (r : ∀ W H, RD X.K W H v d) : DE X e (gC d) := imp h fun σ H Q ⟨δ, F, W, M, Qd, e, s, h, k⟩ => k.now s (r W H) h
theorem d_int {i j pos} : DE X (.Constant (.int i) j pos) (gC (.int i)) := d_const pe_int fun _ _ => .int _
theorem d_bl {b j pos} : DE X (.Constant (.bool b) j pos) (gC (.bl b)) := d_const pe_bl fun _ _ => .bl _
theorem d_non {j pos} : DE X (.Constant .none j pos) (gC .non) := d_const pe_non fun _ _ => .non
theorem d_str {x j pos} : DE X (.Constant (.str x) j pos) (gC (.str x)) := d_const pe_str fun _ _ => .str _
theorem d_ty {T : String} {x : Str} (m : X.mg x = none) (hv : bootBuiltins x = some (.type T)) (hg : Gl X x := by rfl) (hn : x ≠ "__name__" := by decide) (hd : (x == ("__debug__" : Str)) = false := by decide) : DE X (.Name x pos) (gC (.ty T)) := d_const (e_ty m hv hg hn hd) fun _ _ => .ty _
theorem d_glob {x : Str} {a : Addr} (hm : X.mg x = some (.ref a)) (hg : Gl X x := by rfl) (hd : (x == ("__debug__" : Str)) = false := by decide) : DE X (.Name x pos) (gC (.ref a)) := d_const (v := .ref a) (pe_glob hg hm rfl hd) fun _ _ => .ref _
theorem d_gs {x z : Str} (h : ∃ t, X.mg x = some (.str z t)) (hg : Gl X x := by rfl) (hd : (x == ("__debug__" : Str)) = false := by decide) : DE X (.Name x pos) (gC (.str z)) := d_const (e_gs h hg hd) fun _ _ => .str _
theorem d_gi {x : Str} {z : Int} (h : ∃ t, X.mg x = some (.int z t)) (hg : Gl X x := by rfl) (hd : (x == ("__debug__" : Str)) = false := by decide) : DE X (.Name x pos) (gC (.int z)) := d_const (e_gi h hg hd) fun _ _ => .int _
abbrev D2 := Da → Da → Mm → DK → Prop
def L2o (K : PySem.W.Frag) (g : D2) : R2 := fun x y H Q => ∃ F W M d e Qd, RD K W H x d ∧ RD K W H y e ∧ Stt K F W M H ∧ g d e M Qd ∧ Kt (rE K) K F W H Qd Q
def DO (X : Cx) (f : Value → Value → Sem Value) (g : D2) : Prop := OpR X f (L2o X.K g)
def gOp (g : D2) (fa fb : DTE) : DTE := fun δ M Q => fa δ M fun x M1 => fb δ M1 fun y M2 => g x y M2 Q
theorem li_op {K : PySem.W.Frag} {g : D2} {σ : L2.St} {H : Hp} {Q : VK} (h : Li (rE K) K (gOp g fa fb) σ H Q) : tOp (L2o K g) (Li (rE K) K fa) (Li (rE K) K fb) σ H Q := by
  obtain ⟨δ, F, W, M, Qd, e, s, h, k⟩ := h
  exact ⟨δ, F, W, M, _, e, s, h, fun v H1 W1 d M1 g1 s1 r1 q1 => ⟨δ, F, W1, M1, _, e.mono g1, s1, q1, fun u H2 W2 d2 M2 g2 s2 r2 q2 => ⟨F, W2, M2, d, d2, Qd, r1.mono g2, r2, s2, q2, k.mono (g1.trans g2)⟩⟩⟩
theorem d_op {op : Operator} {g : D2} (ho : DO X (binaryOp op) g) (ha : DE X a fa) (hb : DE X b fb) : DE X (.BinOp a op b pos) (gOp g fa fb) := imp (pe_op ho ha hb) fun _ _ _ h => li_op h
/-- an operation of scalars -/
theorem do_imp {f : Value → Value → Sem Value} {g : D2} (h : ∀ x y H Q, L2o X.K g x y H Q → ∃ r : R2, OpR X f r ∧ r x y H Q) : DO X f g := opCases h
/-- a size that is small enough -/
def Sz (n : Nat) : Prop := Nat.ble n 1000000 = true
theorem sz {n : Nat} (h : n ≤ 1000000) : Sz n := Nat.ble_eq.mpr h
theorem Sz.le {n : Nat} (h : Sz n) : n ≤ 1000000 := Nat.ble_eq.mp h
theorem Sz.ok {n : Nat} (h : Sz n) : n ≤ sizeLine := by have := h.le; rw [sizeLine_eq]; omega
/-- a new settled row -/
theorem Kt.newL {K : PySem.W.Frag} {F W : Addr → Prop} {M : Mm} {H : Hp} {Qd : DK} {Q : VK} {q : Addr} {vs : List V} {ds : List Da} (k : Kt (rE K) K F W H Qd Q) (s : Stt K F W M H) (h : H q = none) (r : RDs K W H vs ds) (z : Qd (.lst ds) M) : Q (.ref q) (upd H q (.lst vs)) := by
  obtain ⟨s1, g1⟩ := s.new h (.lst vs)
  exact (k.mono g1).now s1 (.lst (.inl ⟨.inl rfl, .inl upd_same⟩) (r.mono g1)) z
theorem Kt.newT {K : PySem.W.Frag} {F W : Addr → Prop} {M : Mm} {H : Hp} {Qd : DK} {Q : VK} {q : Addr} {vs : List V} {ds : List Da} (k : Kt (rE K) K F W H Qd Q) (s : Stt K F W M H) (h : H q = none) (r : RDs K W H vs ds) {o : Obj} (ho : o.dict = none) (z : Qd (.tup ds) M) : Q (.ref q) (upd H q (.frz o (.tup vs))) := by
  obtain ⟨s1, g1⟩ := s.new h (.frz o (.tup vs)) ho
  exact (k.mono g1).now s1 (.tup (.inl ⟨.inl rfl, .inr ⟨o, upd_same⟩⟩) (r.mono g1)) z
theorem Kt.newM {K : PySem.W.Frag} {F W : Addr → Prop} {M : Mm} {H : Hp} {Qd : DK} {Q : VK} {q : Addr} {vs : List V} {ds : List Da} (k : Kt (rE K) K F W H Qd Q) (s : Stt K F W M H) (h : H q = none) (r : RDs K W H vs ds) (z : ∀ p, M p = none → Qd (.ref p) (mput M p (.lst ds))) : Q (.ref q) (upd H q (.lst vs)) :=
  (k.mono (grow_new s h)).now (s.newM h (.lst r)) (.ref q) (z q (s.freeM h))
/-- list + list, whatever they are -/
def rCatL (K : PySem.W.Frag) : R2 := fun x y H Q => ∃ l b xs zs, x = .ref l ∧ y = .ref b ∧ SqL K H l xs ∧ SqL K H b zs ∧ xs.length + zs.length ≤ sizeLine ∧ ∀ p, H p = none → Q (.ref p) (upd H p (.lst (xs ++ zs)))
theorem op_catL : OpR X (binaryOp .Add) (rCatL X.K) := by
  intro pins s σ H x y v u Q I rx ry h
  obtain ⟨l, b, xs, zs, rfl, rfl, hH, hB, hz, q⟩ := h
  cases rx
  cases ry
  obtain ⟨its, r, ⟨⟨cls, dd, data, sl⟩, n, ho, hc, _, hd⟩, h1⟩ := I.list hH
  obtain ⟨its2, r2, ⟨⟨cls2, dd2, data2, sl2⟩, n2, ho2, hc2, _, hd2⟩, h2⟩ := I.list hB
  simp only at hc hd hc2 hd2
  subst hc hd hc2 hd2
  have l1 := r.length
  have l2 := r2.length
  refine concat_meets ⟨_, ho, rfl⟩ ⟨_, ho2, rfl⟩ noFill_list_add seq_list_add PySem.F.slot_list_add PySem.F.entry_list_add (PySem.F.args_list_add_2 _ _) (PyProof.Rows.list_addW l b its.toArray its2.toArray n n2 _ _ sl sl2 (by rw [List.size_toArray, List.size_toArray]; omega)) ⟨ho, ho2, ?_⟩
  have ea : its.toArray ++ its2.toArray = (its ++ its2).toArray := by simp
  rw [ea]
  exact ⟨.ref _, _, I.lnew (t' := s.toks) (r.append r2) (by rw [List.length_append]; omega), rfl, q _ I.fresh⟩
/-- what a row's items are -/
def lstK (x : Da) (M : Mm) (k : List Da → Prop) : Prop := match x with
  | .lst xs => k xs
  | .ref p => ∃ xs, M p = some (.lst xs) ∧ k xs
  | _ => False
theorem lst_of {K : PySem.W.Frag} {F W : Addr → Prop} {H : Hp} {M : Mm} {v : V} {d : Da} (s : Stt K F W M H) (r : RD K W H v d) {k : List Da → Prop} (h : lstK d M k) : ∃ a vs ds, v = .ref a ∧ SqL K H a vs ∧ RDs K W H vs ds ∧ k ds := by
  cases r with
  | lst hs rv => exact ⟨_, _, _, rfl, hs.sq, rv, h⟩
  | ref p =>
    obtain ⟨xs, hm, h⟩ := h
    obtain ⟨u, hu, mr⟩ := s.mem _ _ hm
    cases mr with
    | lst rv => exact ⟨_, _, _, rfl, SqL.of hu, rv, h⟩
  | _ => exact h.elim
def hAdd : D2 := fun x y M Q => match x, y with
  | .int i, .int j => Q (.int (i + j)) M
  | .int i, .bl k => Q (.int (i + b2i k)) M
  | .str a, .str b => a.length + b.length ≤ sizeLine ∧ Q (.str (a ++ b)) M
  | .tup xs, .tup ys => Sz (xs.length + ys.length) ∧ Q (.tup (xs ++ ys)) M
  | .lst xs, y => lstK y M fun ys => Sz (xs.length + ys.length) ∧ Q (.lst (xs ++ ys)) M
  | .ref p, y => ∃ xs, M p = some (.lst xs) ∧ lstK y M fun ys => Sz (xs.length + ys.length) ∧ Q (.lst (xs ++ ys)) M
  | _, _ => False
theorem o_dadd : DO X (binaryOp .Add) hAdd := do_imp fun x y H Q ⟨F, W, M, d, e, Qd, r1, r2, s, h, k⟩ => by
  unfold hAdd at h
  split at h
  · cases r1; cases r2; exact ⟨_, o_add, k.now s (.int _) h⟩
  · cases r1; cases r2; exact ⟨_, o_add, k.now s (.int _) h⟩
  · cases r1; cases r2; exact ⟨_, o_add, h.1, k.now s (.str _) h.2⟩
  · cases r1 with
    | @tup a vs _ hs rv =>
      cases r2 with
      | @tup b ws _ ht rw_ =>
        refine ⟨_, op_catAF, _, _, vs, ws, rfl, rfl, hs.sq, ht.sq, by rw [rv.length, rw_.length]; exact h.1.ok, fun e => ?_, fun _ e => ?_, fun _ _ p hp o ho => ?_⟩
        · subst e
          cases rv
          exact k.now s (.tup ht rw_) h.2
        · subst e
          cases rw_
          have q := h.2
          rw [List.append_nil] at q
          exact k.now s (.tup hs rv) q
        · exact k.newT s hp (rv.append rw_) ho h.2
  · cases r1 with
    | lst hs rv =>
      obtain ⟨b, ws, ds, rfl, ht, rw_, hz, q⟩ := lst_of s r2 h
      exact ⟨_, op_catL, _, b, _, ws, rfl, rfl, hs.sq, ht, by rw [rv.length, rw_.length]; exact hz.ok, fun p hp => k.newL s hp (rv.append rw_) q⟩
  · cases r1
    obtain ⟨xs, hm, h⟩ := h
    obtain ⟨a, vs, ds, e1, hs, rv, hz, q⟩ := lst_of (k := fun ds => ds = xs ∧ lstK e M fun ys => Sz (ds.length + ys.length) ∧ Qd (.lst (ds ++ ys)) M) s (.ref _) ⟨xs, hm, rfl, h⟩
    cases e1
    obtain ⟨b, ws, es, rfl, ht, rw_, hz2, q2⟩ := lst_of s r2 q
    exact ⟨_, op_catL, _, b, _, ws, rfl, rfl, hs, ht, by rw [rv.length, rw_.length]; exact hz2.ok, fun p hp => k.newL s hp (rv.append rw_) q2⟩
  · exact h.elim
def hSub : D2 := fun x y M Q => match x, y with
  | .int i, .int j => Q (.int (i - j)) M
  | _, _ => False
theorem o_dsub : DO X (binaryOp .Sub) hSub := do_imp fun x y H Q ⟨F, W, M, d, e, Qd, r1, r2, s, h, k⟩ => by
  refine ⟨_, o_sub, ?_⟩
  cases r1 <;> cases r2 <;> first | exact h.elim | exact k.now s (.int _) h
theorem RDs.flat_rep {K : PySem.W.Frag} {W : Addr → Prop} {H : Hp} {vs : List V} {ds : List Da} (r : RDs K W H vs ds) : ∀ n : Nat, RDs K W H (List.replicate n vs).flatten (List.replicate n ds).flatten
  | 0 => .nil
  | n + 1 => by
    rw [List.replicate_succ, List.replicate_succ, List.flatten_cons, List.flatten_cons]
    exact r.append (RDs.flat_rep r n)
def rRepL (K : PySem.W.Frag) : R2 := fun x y H Q => ∃ l k xs, x = .ref l ∧ y = .int k ∧ SqL K H l xs ∧ -(2 ^ 63) ≤ k ∧ k < 2 ^ 63 ∧ xs.length * k.toNat ≤ sizeLine ∧
  ∀ p, H p = none → Q (.ref p) (upd H p (.lst (List.replicate k.toNat xs).flatten))
theorem op_repL : OpR X (binaryOp .Mult) (rRepL X.K) := by
  intro pins s σ H x y v u Q I rx ry h
  obtain ⟨l, k, xs, rfl, rfl, hH, h1, h2, hz, q⟩ := h
  cases rx
  obtain ⟨t, rfl⟩ := ry
  obtain ⟨its, r, ⟨⟨cls, dd, data, sl⟩, n, e, hc, _, hd⟩, _⟩ := I.list hH
  simp only at hc hd
  subst hc hd
  have hl := r.length
  have hlen : its.toArray.size * k.toNat ≤ sizeLine := by rw [List.size_toArray, ← hl]; exact hz
  have hcap : ¬ its.toArray.size * k.toNat > (2 ^ 63 - 1) / 8 := by
    have : (sizeLine : Nat) ≤ (2 ^ 63 - 1) / 8 := by decide
    omega
  have hfit : ¬ (!Builtin.List.listFitsIndex k) = true := by
    rw [fitsIndex_both h1 h2]
    exact Bool.false_ne_true
  have hlong : ¬ Builtin.List.listTooLong (its.toArray.size * k.toNat) = true := by
    rw [notLongL hlen]
    exact Bool.false_ne_true
  have hnew : List.foldl (fun x1 x2 => x1 ++ x2) #[] (List.replicate (if its.toArray.isEmpty = true then 0 else k.toNat) its.toArray) = (List.replicate k.toNat its).flatten.toArray := by
    have f0 : ∀ m : Nat, List.foldl (fun x1 x2 => x1 ++ x2) #[] (List.replicate m its.toArray) = (List.replicate m its).flatten.toArray := fun m => by
      have := foldl_rep its m []
      rw [List.nil_append] at this
      exact this
    rw [f0]
    cases its with
    | nil => simp
    | cons a r' => rw [if_neg (by simp)]
  refine wpAny_binaryOp_repeat_ref (T := "list") (U := "int") (by decide) ⟨_, e, rfl⟩ (fun s' => typeIs_int s' k t) noFill_list_mul F.fills_int_mul F.slot_int_rmul repeat_list F.slot_int_index.lookup
    (call_meets F.slot_int_rmul (typeIs_int s k t) F.entry_int_rmul (F.args_int_rmul_2 _ _) (lm_int_rmul_list_any k t l its.toArray n _ sl)
      ⟨e, rfl, ⟨_, e, rfl⟩, call_meets F.slot_list_mul ⟨_, e, rfl⟩ F.entry_list_mul (F.args_list_mul_2 _ _) (lm_list_mul_any l its.toArray n _ sl k t hfit hcap hlong) ⟨e, ?_⟩⟩)
  rw [hnew]
  exact ⟨.ref _, _, I.lnew (t' := s.toks) (r.rep k.toNat) (by rw [PyProof.Rows.lm_len_rep_flat, Nat.mul_comm]; exact hz), rfl, q _ I.fresh⟩
def hMul : D2 := fun x y M Q => match x, y with
  | .int i, .int j => CMul i j ∧ Q (.int (i * j)) M
  | .tup xs, .int k => xs ≠ [] ∧ 2 ≤ k ∧ k ≤ 1000 ∧ xs.length ≤ 1000 ∧ Q (.tup (List.replicate k.toNat xs).flatten) M
  | .lst xs, .int k => k ≤ 1000 ∧ -1000 ≤ k ∧ xs.length ≤ 1000 ∧ Q (.lst (List.replicate k.toNat xs).flatten) M
  | _, _ => False
theorem o_dmul : DO X (binaryOp .Mult) hMul := do_imp fun x y H Q ⟨F, W, M, d, e, Qd, r1, r2, s, h, k⟩ => by
  unfold hMul at h
  split at h
  · cases r1; cases r2; exact ⟨_, o_mul, h.1, k.now s (.int _) h.2⟩
  · cases r1 with
    | @tup a vs _ hs rv =>
      cases r2
      exact ⟨_, op_repTF, _, _, vs, rfl, rfl, hs.sq, fun e => h.1 (by subst e; cases rv; rfl), h.2.1, h.2.2.1, by rw [rv.length]; exact h.2.2.2.1, fun p hp o ho => k.newT s hp (rv.flat_rep _) ho h.2.2.2.2⟩
  · cases r1 with
    | @lst a vs _ hs rv =>
      cases r2
      obtain ⟨h1, h2, h3, q⟩ := h
      have key : ∀ j : Int, j ≤ 1000 → vs.length * j.toNat ≤ sizeLine := fun j hj => by
        rw [rv.length, sizeLine_eq]
        have := Nat.mul_le_mul h3 (show j.toNat ≤ 1000 by omega)
        omega
      exact ⟨_, op_repL, _, _, vs, rfl, rfl, hs.sq, by omega, by omega, key _ h1, fun p hp => k.newL s hp (rv.flat_rep _) q⟩
  · exact h.elim
def hDiv : D2 := fun x y M Q => match x, y with
  | .int i, .int j => CDiv i j ∧ Q (.int (i / j)) M
  | _, _ => False
theorem o_ddiv : DO X (binaryOp .FloorDiv) hDiv := do_imp fun x y H Q ⟨F, W, M, d, e, Qd, r1, r2, s, h, k⟩ => by
  refine ⟨_, o_div, ?_⟩
  cases r1 <;> cases r2 <;> first | exact h.elim | exact ⟨h.1, k.now s (.int _) h.2⟩
def hMod : D2 := fun x y M Q => match x, y with
  | .int i, .int j => 0 < j ∧ Q (.int (i % j)) M
  | _, _ => False
theorem o_dmod : DO X (binaryOp .Mod) hMod := do_imp fun x y H Q ⟨F, W, M, d, e, Qd, r1, r2, s, h, k⟩ => by
  refine ⟨_, o_mod, ?_⟩
  cases r1 <;> cases r2 <;> first | exact h.elim | exact ⟨h.1, k.now s (.int _) h.2⟩
def hPow : D2 := fun x y M Q => match x, y with
  | .int i, .int j => CPowW i j ∧ Q (.int (i ^ j.toNat)) M
  | _, _ => False
theorem o_dpow : DO X (binaryOp .Pow) hPow := do_imp fun x y H Q ⟨F, W, M, d, e, Qd, r1, r2, s, h, k⟩ => by
  refine ⟨_, o_pow, ?_⟩
  cases r1 <;> cases r2 <;> first | exact h.elim | exact ⟨h.1, k.now s (.int _) h.2⟩
def hOr : D2 := fun x y M Q => match x, y with
  | .int i, .int j => Q (.int (Builtin.bitOr i j)) M
  | _, _ => False
theorem o_dor : DO X (binaryOp .BitOr) hOr := do_imp fun x y H Q ⟨F, W, M, d, e, Qd, r1, r2, s, h, k⟩ => by
  refine ⟨_, op_or, ?_⟩
  cases r1 <;> cases r2 <;> first | exact h.elim | exact ⟨_, _, rfl, rfl, k.now s (.int _) h⟩
def gNeg (f : DTE) : DTE := fun δ M Q => f δ M fun x M1 => match x with
  | .int i => Q (.int (-i)) M1
  | _ => False
theorem d_neg (h : DE X e f) : DE X (.UnaryOp .USub e pos) (gNeg f) := imp (pe_un un_neg h) fun σ H Q ⟨δ, F, W, M, Qd, ev, s, h, k⟩ =>
  ⟨δ, F, W, M, _, ev, s, h, fun v H1 W1 d M1 g1 s1 r1 q1 => by
    cases r1 <;> first | exact q1.elim | exact ⟨_, rfl, (k.mono g1).now s1 (.int _) q1⟩⟩
mutual
def toP : Da → PyData
  | .non => .none
  | .bl b => .bool b
  | .int i => .int i
  | .str x => .str x
  | .ty _ => .none
  | .lst xs => .list (toPs xs)
  | .tup xs => .tuple (toPs xs)
  | .obj _ _ => .none
  | .ref _ => .none
  | .dct _ => .none
  | .exn _ _ _ => .none
def toPs : List Da → List PyData
  | [] => []
  | x :: xs => toP x :: toPs xs
end
mutual
/-- data without things that change -/
def pure? : Da → Bool
  | .lst xs => pures? xs
  | .tup xs => pures? xs
  | .obj _ _ => false
  | .ref _ => false
  | .ty _ => false
  | .dct _ => false
  | .exn _ _ _ => false
  | _ => true
def pures? : List Da → Bool
  | [] => true
  | x :: xs => pure? x && pures? xs
end
mutual
theorem RD.dp {K : PySem.W.Frag} {W : Addr → Prop} {H : Hp} : ∀ {v : V} {d : Da}, RD K W H v d → pure? d = true → Dp K H v (toP d)
  | _, _, .non, _ => .non
  | _, _, .bl b, _ => .bl b
  | _, _, .int i, _ => .int i
  | _, _, .str x, _ => .str x
  | _, _, .ty x, h => nomatch h
  | _, _, .ref x, h => nomatch h
  | _, _, .lst h k, q => .lst h.sq (RDs.dp k q)
  | _, _, .tup h k, q => .tup h.sq (RDs.dp k q)
  | _, _, .obj _ _ _, h => nomatch h
  | _, _, .dct _ _ _, h => nomatch h
  | _, _, .exn _ _ _, h => nomatch h
theorem RDs.dp {K : PySem.W.Frag} {W : Addr → Prop} {H : Hp} : ∀ {vs : List V} {ds : List Da}, RDs K W H vs ds → pures? ds = true → DpAll K H vs (toPs ds)
  | _, _, .nil, _ => .nil
  | _, _, .cons h k, q => by
    have q' := (Bool.and_eq_true_iff.mp q)
    exact .cons (RD.dp h q'.1) (RDs.dp k q'.2)
end
def eqD (x y : Da) : Bool := PyData.eqv (toP x) (toP y)
/-- what == may be asked -/
def okD (x : Da) : Bool := pure? x && SeqAt.shaped (toP x)
theorem okD.pure {x : Da} (h : okD x = true) : pure? x = true := (Bool.and_eq_true_iff.mp h).1
theorem okD.shp {x : Da} (h : okD x = true) : SeqAt.shaped (toP x) = true := (Bool.and_eq_true_iff.mp h).2
def hEq : D2 := fun x y M Q => match x, y with
  | .int i, .int j => Q (.bl (decide (i = j))) M
  | .str a, .str b => Q (.bl (decide (a = b))) M
  | .bl a, .bl b => Q (.bl (decide (a = b))) M
  | x, y => okD x = true ∧ okD y = true ∧ Q (.bl (eqD x y)) M
def hNe : D2 := fun x y M Q => match x, y with
  | .int i, .int j => Q (.bl (!decide (i = j))) M
  | .str a, .str b => Q (.bl (!decide (a = b))) M
  | .bl a, .bl b => Q (.bl (!decide (a = b))) M
  | x, y => okD x = true ∧ okD y = true ∧ Q (.bl (!eqD x y)) M
theorem o_deq (hu : X.A.units + 64 < cLine) : DO X (compareOp .Eq) hEq := do_imp fun x y H Q ⟨F, W, M, d, e, Qd, r1, r2, s, h, k⟩ => by
  have gen : okD d = true ∧ okD e = true ∧ Qd (.bl (eqD d e)) M → ∃ r : R2, OpR X (compareOp .Eq) r ∧ r x y H Q := fun ⟨h1, h2, h3⟩ =>
    ⟨_, op_eqD hu, _, _, r1.dp (okD.pure h1), r2.dp (okD.pure h2), okD.shp h1, okD.shp h2, k.now s (.bl _) h3⟩
  have sc : ∀ {b : Bool}, OpR X (compareOp .Eq) (fEq X.K) := o_eq hu
  unfold hEq at h
  split at h
  · cases r1; cases r2; exact ⟨_, o_eq hu, k.now s (.bl _) h⟩
  · cases r1; cases r2; exact ⟨_, o_eq hu, k.now s (.bl _) h⟩
  · cases r1; cases r2; exact ⟨_, o_eq hu, k.now s (.bl _) h⟩
  · exact gen h
theorem o_dne (hu : X.A.units + 64 < cLine) : DO X (compareOp .NotEq) hNe := do_imp fun x y H Q ⟨F, W, M, d, e, Qd, r1, r2, s, h, k⟩ => by
  have gen : okD d = true ∧ okD e = true ∧ Qd (.bl (!eqD d e)) M → ∃ r : R2, OpR X (compareOp .NotEq) r ∧ r x y H Q := fun ⟨h1, h2, h3⟩ =>
    ⟨_, op_neD hu, _, _, r1.dp (okD.pure h1), r2.dp (okD.pure h2), okD.shp h1, okD.shp h2, k.now s (.bl _) h3⟩
  unfold hNe at h
  split at h
  · cases r1; cases r2; exact ⟨_, o_ne hu, k.now s (.bl _) h⟩
  · cases r1; cases r2; exact ⟨_, o_ne hu, k.now s (.bl _) h⟩
  · cases r1; cases r2; exact ⟨_, o_ne hu, k.now s (.bl _) h⟩
  · exact gen h
def hLt : D2 := fun x y M Q => match x, y with
  | .int i, .int j => Q (.bl (decide (i < j))) M
  | .str a, .str b => Q (.bl (decide (a.cps.toList < b.cps.toList))) M
  | _, _ => False
def hLe : D2 := fun x y M Q => match x, y with
  | .int i, .int j => Q (.bl (decide (i ≤ j))) M
  | .str a, .str b => Q (.bl (!decide (b.cps.toList < a.cps.toList))) M
  | _, _ => False
def hGt : D2 := fun x y M Q => match x, y with
  | .int i, .int j => Q (.bl (decide (j < i))) M
  | .str a, .str b => Q (.bl (decide (b.cps.toList < a.cps.toList))) M
  | _, _ => False
theorem o_dlt : DO X (compareOp .Lt) hLt := do_imp fun x y H Q ⟨F, W, M, d, e, Qd, r1, r2, s, h, k⟩ => by
  refine ⟨_, o_lt, ?_⟩
  cases r1 <;> cases r2 <;> first | exact h.elim | exact k.now s (.bl _) h
theorem o_dle : DO X (compareOp .LtE) hLe := do_imp fun x y H Q ⟨F, W, M, d, e, Qd, r1, r2, s, h, k⟩ => by
  refine ⟨_, o_le, ?_⟩
  cases r1 <;> cases r2 <;> first | exact h.elim | exact k.now s (.bl _) h
theorem o_dgt : DO X (compareOp .Gt) hGt := do_imp fun x y H Q ⟨F, W, M, d, e, Qd, r1, r2, s, h, k⟩ => by
  refine ⟨_, o_gt, ?_⟩
  cases r1 <;> cases r2 <;> first | exact h.elim | exact k.now s (.bl _) h
def isNon : Da → Bool
  | .non => true
  | _ => false
theorem RD.isNon {K : PySem.W.Frag} {W : Addr → Prop} {H : Hp} {v : V} {d : Da} (r : RD K W H v d) : decide (v = .non) = isNon d := by cases r <;> rfl
def hIsN : D2 := fun x y M Q => match y with
  | .non => Q (.bl (isNon x)) M
  | _ => False
def hNotN : D2 := fun x y M Q => match y with
  | .non => Q (.bl (!isNon x)) M
  | _ => False
theorem o_disN : DO X (compareOp .Is) hIsN := do_imp fun x y H Q ⟨F, W, M, d, e, Qd, r1, r2, s, h, k⟩ => by
  refine ⟨_, o_isN, ?_⟩
  cases r2 <;> first | exact h.elim | skip
  show Q (.bl _) H
  rw [r1.isNon]; exact k.now s (.bl _) h
theorem o_dnotN : DO X (compareOp .IsNot) hNotN := do_imp fun x y H Q ⟨F, W, M, d, e, Qd, r1, r2, s, h, k⟩ => by
  refine ⟨_, o_notN, ?_⟩
  cases r2 <;> first | exact h.elim | skip
  show Q (.bl _) H
  rw [r1.isNon]; exact k.now s (.bl _) h
def subS (i j : Str) : Bool := !(Builtin.Str.occurrences j i 0 j.length 1).isEmpty
/-- scalars -/
def flatA : Da → Bool
  | .non | .bl _ | .int _ | .str _ => true
  | _ => false
theorem toPs_eq : ∀ ds : List Da, toPs ds = ds.map toP
  | [] => rfl
  | d :: ds => by rw [List.map_cons, ← toPs_eq ds]; rfl
/-- x in a row: by what == says -/
def inD (x : Da) (xs : List Da) : Bool := xs.any fun z => eqD z x
theorem RD.flat {K : PySem.W.Frag} {W : Addr → Prop} {H : Hp} {v : V} {d : Da} (r : RD K W H v d) (h : flatA d = true) : flatV v = true := by
  cases r <;> first | rfl | exact absurd h (by simp [flatA])
theorem RDs.flat {K : PySem.W.Frag} {W : Addr → Prop} {H : Hp} : ∀ {vs : List V} {ds : List Da}, RDs K W H vs ds → ds.all flatA = true → vs.all flatV = true
  | _, _, .nil, _ => rfl
  | _, _, .cons h k, q => by
    rw [List.all_cons, Bool.and_eq_true] at q ⊢
    exact ⟨h.flat q.1, RDs.flat k q.2⟩
theorem eqV_D {K : PySem.W.Frag} {W : Addr → Prop} {H : Hp} {v u : V} {d e : Da} (r : RD K W H v d) (q : RD K W H u e) (h1 : flatA d = true) (h2 : flatA e = true) : eqV v u = eqD d e := by
  cases r <;> first | exact absurd (show false = true from h1) Bool.false_ne_true | skip
  all_goals (cases q <;> first | exact absurd (show false = true from h2) Bool.false_ne_true | rfl | skip)
theorem inV_D {K : PySem.W.Frag} {W : Addr → Prop} {H : Hp} {v : V} {d : Da} (r : RD K W H v d) (h1 : flatA d = true) : ∀ {vs : List V} {ds : List Da}, RDs K W H vs ds → ds.all flatA = true → inV v vs = inD d ds
  | _, _, .nil, _ => rfl
  | _, _, .cons h k, q => by
    rw [List.all_cons, Bool.and_eq_true] at q
    have := inV_D r h1 k q.2
    unfold inV inD at this ⊢
    rw [List.any_cons, List.any_cons, eqV_D h r q.1 h1, this]
def flat2 (x : Da) (xs : List Da) : Bool := flatA x && xs.all flatA
def hInG (neg : Bool) : D2 := fun x y M Q => match x, y with
  | .str i, .str j => Q (.bl (if neg then !subS i j else subS i j)) M
  | x, .lst xs => (flat2 x xs || okD x && okD (.lst xs)) = true ∧ Q (.bl (if neg then !inD x xs else inD x xs)) M
  | x, .tup xs => flat2 x xs = true ∧ Q (.bl (if neg then !inD x xs else inD x xs)) M
  | x, .ref p => ∃ xs, M p = some (.lst xs) ∧ flat2 x xs = true ∧ Q (.bl (if neg then !inD x xs else inD x xs)) M
  | _, _ => False
theorem inD_list {d : Da} {ds : List Da} : (toPs ds).any (fun z => PyData.eqv z (toP d)) = inD d ds := by
  rw [toPs_eq, List.any_map]; rfl
theorem hIn_core {neg : Bool} (hu : X.A.units + 65 < cLine) {x y : V} {H : Hp} {Q : VK} {F W : Addr → Prop} {M : Mm} {d e : Da} {Qd : DK} (r1 : RD X.K W H x d) (r2 : RD X.K W H y e) (s : Stt X.K F W M H) (h : hInG neg d e M Qd) (k : Kt (rE X.K) X.K F W H Qd Q) :
    (∃ i j, x = .str i ∧ y = .str j ∧ Q (.bl (if neg then !subS i j else subS i j)) H) ∨ rIn X.K neg x y H Q ∨ (if neg then rNotInD X.K x y H Q else rInD X.K x y H Q) := by
  have fl : ∀ {a : Addr} {vs : List V} {ds : List Da}, y = .ref a → (SqL X.K H a vs ∨ SqT X.K H a vs) → RDs X.K W H vs ds → flat2 d ds = true → Qd (.bl (if neg then !inD d ds else inD d ds)) M → rIn X.K neg x y H Q := fun {a vs ds} ey hs rv f q => by
    have f' := Bool.and_eq_true_iff.mp f
    refine ⟨a, vs, ey, hs, r1.flat f'.1, rv.flat f'.2, ?_⟩
    rw [inV_D r1 f'.1 rv f'.2]
    exact k.now s (.bl _) q
  unfold hInG at h
  split at h
  · cases r1; cases r2; exact .inl ⟨_, _, rfl, rfl, k.now s (.bl _) h⟩
  · cases r2 with
    | lst hs rv =>
      obtain ⟨h1, h2⟩ := h
      rcases Bool.or_eq_true_iff.mp h1 with h1 | h1
      · exact .inr (.inl (fl rfl (.inl hs.sq) rv h1 h2))
      · have h1' := Bool.and_eq_true_iff.mp h1
        refine .inr (.inr ?_)
        cases neg with
        | true => exact ⟨_, _, r1.dp (okD.pure h1'.1), (RD.lst hs rv).dp (okD.pure h1'.2), okD.shp h1'.1, okD.shp h1'.2, by rw [inD_list]; exact k.now s (.bl _) h2⟩
        | false => exact ⟨_, _, r1.dp (okD.pure h1'.1), (RD.lst hs rv).dp (okD.pure h1'.2), okD.shp h1'.1, okD.shp h1'.2, by rw [inD_list]; exact k.now s (.bl _) h2⟩
  · cases r2 with
    | tup hs rv => exact .inr (.inl (fl rfl (.inr hs.sq) rv h.1 h.2))
  · cases r2 with
    | ref p =>
      obtain ⟨xs, hm, h1, h2⟩ := h
      obtain ⟨u, hu, mr⟩ := s.mem _ _ hm
      cases mr with
      | lst rv => exact .inr (.inl (fl rfl (.inl (SqL.of hu)) rv h1 h2))
  · exact h.elim
def hIn : D2 := hInG false
def hNin : D2 := hInG true
theorem o_din (hu : X.A.units + 65 < cLine) : DO X (compareOp .In) hIn := do_imp fun x y H Q ⟨F, W, M, d, e, Qd, r1, r2, s, h, k⟩ => by
  rcases hIn_core hu r1 r2 s h k with h | h | h
  · exact ⟨_, op_in_str, h⟩
  · exact ⟨_, op_in_seq, h⟩
  · exact ⟨_, op_inD hu, h⟩
theorem o_dnin (hu : X.A.units + 65 < cLine) : DO X (compareOp .NotIn) hNin := do_imp fun x y H Q ⟨F, W, M, d, e, Qd, r1, r2, s, h, k⟩ => by
  rcases hIn_core hu r1 r2 s h k with h | h | h
  · exact ⟨_, op_notin_str, h⟩
  · exact ⟨_, op_notIn_seq, h⟩
  · exact ⟨_, op_notInD hu, h⟩
def gTst (f : DTE) : DTT := fun δ M Q => f δ M fun x M1 => match x with
  | .bl k => Q k M1
  | _ => False
theorem d_tcm {op : CmpOp} {g : D2} (ho : DO X (compareOp op) g) (ha : DE X a fa) (hb : DE X b fb) (hm : behindInMarks op b = false := by first | exact nomark _ | rfl) : DT X (.Compare a [op] [b] pos) (gTst (gOp g fa fb)) :=
  pt_imp (tcm ho ha hb hm) fun σ H Q ⟨δ, F, W, M, Qd, e, s, h, k⟩ => li_op ⟨δ, F, W, M, _, e, s, h, fun v H1 W1 d M1 g1 s1 r1 q1 => by
    cases r1 <;> first | exact q1.elim | exact (k.mono g1).now s1 rfl q1⟩
theorem d_ecm {op : CmpOp} {g : D2} (ho : DO X (compareOp op) g) (ha : DE X a fa) (hb : DE X b fb) (hm : behindInMarks op b = false := by first | exact nomark _ | rfl) : DE X (.Compare a [op] [b] pos) (gOp g fa fb) :=
  imp (ecm ho ha hb hm) fun _ _ _ h => li_op h
def gCh (g g' : D2) (fa fb fc : DTE) : DTE := fun δ M Q => fa δ M fun x M1 => fb δ M1 fun y M2 => g x y M2 fun z M3 => match z with
  | .bl k => if k = true then fc δ M3 fun w M4 => g' y w M4 Q else Q (.bl false) M3
  | _ => False
theorem li_ch {K : PySem.W.Frag} {g g' : D2} {σ : L2.St} {H : Hp} {Q : VK} (h : Li (rE K) K (gCh g g' fa fb fc) σ H Q) : fChain (L2o K g) (L2o K g') (Li (rE K) K fa) (Li (rE K) K fb) (Li (rE K) K fc) σ H Q := by
  obtain ⟨δ, F, W, M, Qd, e, s, h, k⟩ := h
  refine ⟨δ, F, W, M, _, e, s, h, fun v H1 W1 d M1 g1 s1 r1 q1 => ⟨δ, F, W1, M1, _, e.mono g1, s1, q1, fun u H2 W2 d2 M2 g2 s2 r2 q2 => ⟨F, W2, M2, d, d2, _, r1.mono g2, r2, s2, q2, fun z H3 W3 d3 M3 g3 s3 r3 q3 => ?_⟩⟩⟩
  cases r3 <;> first | exact q3.elim | skip
  rename_i c
  cases c with
  | true => exact ⟨δ, F, W3, M3, _, e.mono (g1.trans (g2.trans g3)), s3, q3, fun w H4 W4 d4 M4 g4 s4 r4 q4 => ⟨F, W4, M4, d2, d4, Qd, r2.mono (g3.trans g4), r4, s4, q4, k.mono (g1.trans (g2.trans (g3.trans g4)))⟩⟩
  | false => exact (k.mono (g1.trans (g2.trans g3))).now s3 (.bl _) q3
theorem d_ech {op op' : CmpOp} {g g' : D2} (ho : DO X (compareOp op) g) (ho' : DO X (compareOp op') g') (ha : DE X a fa) (hb : DE X b fb) (hc : DE X c fc) (hm : lastMarks [op, op'] [b, c] = false := by rfl) :
    DE X (.Compare a [op, op'] [b, c] pos) (gCh g g' fa fb fc) := imp (ech ho ho' ha hb hc hm) fun _ _ _ h => li_ch h
theorem d_tch {op op' : CmpOp} {g g' : D2} (ho : DO X (compareOp op) g) (ho' : DO X (compareOp op') g') (ha : DE X a fa) (hb : DE X b fb) (hc : DE X c fc) (hm : lastMarks [op, op'] [b, c] = false := by rfl) :
    DT X (.Compare a [op, op'] [b, c] pos) (gTst (gCh g g' fa fb fc)) := pt_imp (tch ho ho' ha hb hc hm) fun σ H Q ⟨δ, F, W, M, Qd, e, s, h, k⟩ => li_ch ⟨δ, F, W, M, _, e, s, h, fun v H1 W1 d M1 g1 s1 r1 q1 => by
    cases r1 <;> first | exact q1.elim | exact (k.mono g1).now s1 rfl q1⟩
/-- any value as a test -/
def gTru (f : DTE) : DTT := fun δ M Q => f δ M fun x M1 => match x with
  | .bl k => Q k M1
  | .non => Q false M1
  | .int i => Q (i != 0) M1
  | .str y => y.length ≤ sizeLine ∧ Q ((y.length : Int) != 0) M1
  | .lst xs => Q (!xs.isEmpty) M1
  | .tup xs => Q (!xs.isEmpty) M1
  | .ref p => ∃ xs, M1 p = some (.lst xs) ∧ Q (!xs.isEmpty) M1
  | _ => False
theorem RDs.emp {K : PySem.W.Frag} {W : Addr → Prop} {H : Hp} {vs : List V} {ds : List Da} (r : RDs K W H vs ds) : (!vs.isEmpty) = !ds.isEmpty := by cases r <;> rfl
theorem d_tv (ha : DE X e f) (he : ∀ whole, isTrue e X.env whole = (do let v ← whole; standAt e.pos; holding [v] (truthy v)) := by intro _; rfl) : DT X e (gTru f) :=
  pt_imp (tv ha he) fun σ H Q ⟨δ, F, W, M, Qd, ev, s, h, k⟩ => ⟨δ, F, W, M, _, ev, s, h, fun v H1 W1 d M1 g1 s1 r1 q1 => by
    have k1 := k.mono g1
    cases r1 with
    | non => exact k1.now s1 rfl q1
    | bl b => exact k1.now s1 rfl q1
    | int b => exact k1.now s1 rfl q1
    | str b => exact ⟨q1.1, k1.now s1 rfl q1.2⟩
    | lst hs rv => exact ⟨_, .inl ⟨_, hs.sq, rv.emp.symm⟩, k1.now s1 rfl q1⟩
    | tup hs rv => exact ⟨_, .inr (.inl ⟨_, hs.sq, rv.emp.symm⟩), k1.now s1 rfl q1⟩
    | ref p =>
      obtain ⟨xs, hm, q⟩ := q1
      obtain ⟨u, hu, mr⟩ := s1.mem _ _ hm
      cases mr with
      | lst rv => exact ⟨_, .inl ⟨_, SqL.of hu, rv.emp.symm⟩, k1.now s1 rfl q⟩
    | _ => exact q1.elim⟩
def gAnd (t u : DTT) : DTT := fun δ M Q => t δ M fun c M1 => if c = true then u δ M1 Q else Q false M1
def gOr (t u : DTT) : DTT := fun δ M Q => t δ M fun c M1 => if c = true then Q true M1 else u δ M1 Q
def gNot (t : DTT) : DTT := fun δ M Q => t δ M fun c M1 => Q (!c) M1
theorem d_and1 (ha : DT X a ft) : DW X (.BoolOp .And [a] pos) ft := pw_and1 ha
theorem d_or1 (ha : DT X a ft) : DW X (.BoolOp .Or [a] pos) ft := pw_or1 ha
theorem d_and (ha : DT X a ft) (hb : DW X (.BoolOp .And (b :: rest) pos) fu) : DW X (.BoolOp .And (a :: b :: rest) pos) (gAnd ft fu) :=
  pw_imp (pw_and ha hb) fun σ H Q ⟨δ, F, W, M, Qd, ev, s, h, k⟩ => ⟨δ, F, W, M, _, ev, s, h, fun v H1 W1 d M1 g1 s1 r1 q1 => by
    cases r1
    cases v with
    | true => exact ⟨δ, F, W1, M1, Qd, ev.mono g1, s1, q1, k.mono g1⟩
    | false => exact (k.mono g1).now s1 rfl q1⟩
theorem d_or (ha : DT X a ft) (hb : DW X (.BoolOp .Or (b :: rest) pos) fu) : DW X (.BoolOp .Or (a :: b :: rest) pos) (gOr ft fu) :=
  pw_imp (pw_or ha hb) fun σ H Q ⟨δ, F, W, M, Qd, ev, s, h, k⟩ => ⟨δ, F, W, M, _, ev, s, h, fun v H1 W1 d M1 g1 s1 r1 q1 => by
    cases r1
    cases v with
    | false => exact ⟨δ, F, W1, M1, Qd, ev.mono g1, s1, q1, k.mono g1⟩
    | true => exact (k.mono g1).now s1 rfl q1⟩
theorem d_w (h : DW X e ft) : DT X e ft := PW.pt h
theorem d_tnot (ha : DT X a ft) : DT X (.UnaryOp .Not a pos) (gNot ft) := pt_imp (pt_not ha) fun σ H Q ⟨δ, F, W, M, Qd, ev, s, h, k⟩ => ⟨δ, F, W, M, _, ev, s, h, fun v H1 W1 d M1 g1 s1 r1 q1 => by
    cases r1
    exact (k.mono g1).now s1 rfl q1⟩
def gAndV (fa fb : DTE) : DTE := fun δ M Q => fa δ M fun x M1 => match x with
  | .bl c => if c = true then fb δ M1 Q else Q (.bl false) M1
  | _ => False
def gOrV (fa fb : DTE) : DTE := fun δ M Q => fa δ M fun x M1 => match x with
  | .bl c => if c = true then Q (.bl true) M1 else fb δ M1 Q
  | _ => False
def gNotV (fa : DTE) : DTE := fun δ M Q => fa δ M fun x M1 => match x with
  | .bl c => Q (.bl (!c)) M1
  | _ => False
theorem d_one {op} (h : DE X a f) : DE X (.BoolOp op [a] pos) f := pe_one h
theorem d_eand (ha : DE X a fa) (hb : DE X (.BoolOp .And (b :: rest) pos) fb) : DE X (.BoolOp .And (a :: b :: rest) pos) (gAndV fa fb) :=
  imp (eand ha hb) fun σ H Q ⟨δ, F, W, M, Qd, ev, s, h, k⟩ => ⟨δ, F, W, M, _, ev, s, h, fun v H1 W1 d M1 g1 s1 r1 q1 => by
    cases r1 <;> first | exact q1.elim | skip
    rename_i c
    cases c with
    | true => exact ⟨δ, F, W1, M1, Qd, ev.mono g1, s1, q1, k.mono g1⟩
    | false => exact (k.mono g1).now s1 (.bl _) q1⟩
theorem d_eor (ha : DE X a fa) (hb : DE X (.BoolOp .Or (b :: rest) pos) fb) : DE X (.BoolOp .Or (a :: b :: rest) pos) (gOrV fa fb) :=
  imp (eor ha hb) fun σ H Q ⟨δ, F, W, M, Qd, ev, s, h, k⟩ => ⟨δ, F, W, M, _, ev, s, h, fun v H1 W1 d M1 g1 s1 r1 q1 => by
    cases r1 <;> first | exact q1.elim | skip
    rename_i c
    cases c with
    | false => exact ⟨δ, F, W1, M1, Qd, ev.mono g1, s1, q1, k.mono g1⟩
    | true => exact (k.mono g1).now s1 (.bl _) q1⟩
theorem d_enot (ha : DE X a fa) : DE X (.UnaryOp .Not a pos) (gNotV fa) := imp (enot ha) fun σ H Q ⟨δ, F, W, M, Qd, ev, s, h, k⟩ => ⟨δ, F, W, M, _, ev, s, h, fun v H1 W1 d M1 g1 s1 r1 q1 => by
    cases r1 <;> first | exact q1.elim | exact (k.mono g1).now s1 (.bl _) q1⟩
def gIf (t : DTT) (fa fb : DTE) : DTE := fun δ M Q => t δ M fun c M1 => if c = true then fa δ M1 Q else fb δ M1 Q
theorem d_if (hc : DT X c ft) (ha : DE X a fa) (hb : DE X b fb) : DE X (.IfExp c a b pos) (gIf ft fa fb) := imp (pe_ifExp hc ha hb) fun σ H Q ⟨δ, F, W, M, Qd, ev, s, h, k⟩ => ⟨δ, F, W, M, _, ev, s, h, fun v H1 W1 d M1 g1 s1 r1 q1 => by
    cases r1
    cases v with
    | true => exact ⟨δ, F, W1, M1, Qd, ev.mono g1, s1, q1, k.mono g1⟩
    | false => exact ⟨δ, F, W1, M1, Qd, ev.mono g1, s1, q1, k.mono g1⟩⟩
end
end U
set_option Elab.async false
set_option linter.all false
set_option maxRecDepth 100000
set_option maxHeartbeats 2000000
namespace U
open PySem PySem.Spec PyProof.Rows L2
/-- what a row holds -/
def itemsK (x : Da) (M : Mm) (k : List Da → Prop) : Prop := match x with
  | .lst xs => k xs
  | .tup xs => k xs
  | .ref p => ∃ xs, M p = some (.lst xs) ∧ k xs
  | _ => False
section
variable {K : PySem.W.Frag} {F W : Addr → Prop} {H : Hp} {M : Mm}
theorem Stt.list (s : Stt K F W M H) {p : Addr} {xs : List Da} (h : M p = some (.lst xs)) : ∃ vs, H p = some (.lst vs) ∧ RDs K W H vs xs := by
  obtain ⟨u, hu, mr⟩ := s.mem _ _ h
  cases mr with
  | lst rv => exact ⟨_, hu, rv⟩
theorem items_of {v : V} {d : Da} (s : Stt K F W M H) (r : RD K W H v d) {k : List Da → Prop} (h : itemsK d M k) : ∃ a vs ds, v = .ref a ∧ (SqL K H a vs ∨ SqT K H a vs) ∧ RDs K W H vs ds ∧ k ds := by
  cases r with
  | lst hs rv => exact ⟨_, _, _, rfl, .inl hs.sq, rv, h⟩
  | tup hs rv => exact ⟨_, _, _, rfl, .inr hs.sq, rv, h⟩
  | ref p =>
    obtain ⟨xs, hm, h⟩ := h
    obtain ⟨vs, hv, rv⟩ := s.list hm
    exact ⟨_, _, _, rfl, .inl (SqL.of hv), rv, h⟩
  | _ => exact h.elim
end
section
variable {X : Cx} {a b c e : Expr} {es rest : List Expr} {fa fb fc f : DTE} {ft fu : DTT} {fs : DTA} {pos p : Pos}
def gNil : DTA := fun _ M Q => Q [] M
def gCons (fa : DTE) (fs : DTA) : DTA := fun δ M Q => fa δ M fun x M1 => fs δ M1 fun xs M2 => Q (x :: xs) M2
def gStar (fa : DTE) (fs : DTA) : DTA := fun δ M Q => fa δ M fun x M1 => itemsK x M1 fun ys => fs δ M1 fun xs M2 => Q (ys ++ xs) M2
theorem d_nil : DA X [] gNil := pa_imp pa_nil fun σ H Q ⟨δ, F, W, M, Qd, ev, s, h, k⟩ => k.now s .nil h
theorem d_cons (ha : DE X e f) (hr : DA X es fs) (hs : starEach (e :: es) X.env = (false, eval e X.env) :: starEach es X.env := by rfl) : DA X (e :: es) (gCons f fs) :=
  pa_imp (pa_cons ha hr hs) fun σ H Q ⟨δ, F, W, M, Qd, ev, s, h, k⟩ => ⟨δ, F, W, M, _, ev, s, h, fun v H1 W1 d M1 g1 s1 r1 q1 => ⟨δ, F, W1, M1, _, ev.mono g1, s1, q1, fun vs H2 W2 ds M2 g2 s2 r2 q2 =>
    (k.mono (g1.trans g2)).now s2 (.cons (r1.mono g2) r2) q2⟩⟩
theorem d_star (ha : DE X e f) (hr : DA X es fs) (hs : starEach (.Starred e p :: es) X.env = (true, eval e X.env) :: starEach es X.env := by rfl) : DA X (.Starred e p :: es) (gStar f fs) :=
  pa_imp (StX.pa_star ha hr hs) fun σ H Q ⟨δ, F, W, M, Qd, ev, s, h, k⟩ => ⟨δ, F, W, M, _, ev, s, h, fun v H1 W1 d M1 g1 s1 r1 q1 => by
    obtain ⟨a, vs, ds, rfl, hs, rv, q⟩ := items_of s1 r1 q1
    exact ⟨a, vs, rfl, hs.symm, δ, F, W1, M1, _, ev.mono g1, s1, q, fun ws H2 W2 es M2 g2 s2 r2 q2 => (k.mono (g1.trans g2)).now s2 ((rv.mono g2).append r2) q2⟩⟩
def gTup (fs : DTA) : DTE := fun δ M Q => fs δ M fun xs M1 => Sz xs.length ∧ Q (.tup xs) M1
def gLst (fs : DTA) : DTE := fun δ M Q => fs δ M fun xs M1 => Sz xs.length ∧ Q (.lst xs) M1
def gLstM (fs : DTA) : DTE := fun δ M Q => fs δ M fun xs M1 => Sz xs.length ∧ ∀ p, M1 p = none → Q (.ref p) (mput M1 p (.lst xs))
theorem d_tup {x1} (h : DA X es fs) : DE X (.Tuple es x1 pos) (gTup fs) := imp (pe_tupF h) fun σ H Q ⟨δ, F, W, M, Qd, ev, s, h, k⟩ => ⟨δ, F, W, M, _, ev, s, h, fun vs H1 W1 ds M1 g1 s1 r1 q1 =>
  ⟨by rw [RDs.length r1]; exact q1.1.ok, fun p hp o ho => (k.mono g1).newT s1 hp r1 ho q1.2⟩⟩
theorem d_lst (h : DA X es fs) : DE X (.List es pos) (gLst fs) := imp (pe_lst h) fun σ H Q ⟨δ, F, W, M, Qd, ev, s, h, k⟩ => ⟨δ, F, W, M, _, ev, s, h, fun vs H1 W1 ds M1 g1 s1 r1 q1 =>
  ⟨by rw [RDs.length r1]; exact q1.1.ok, fun p hp => (k.mono g1).newL s1 hp r1 q1.2⟩⟩
theorem d_lstM (h : DA X es fs) : DE X (.List es pos) (gLstM fs) := imp (pe_lst h) fun σ H Q ⟨δ, F, W, M, Qd, ev, s, h, k⟩ => ⟨δ, F, W, M, _, ev, s, h, fun vs H1 W1 ds M1 g1 s1 r1 q1 =>
  ⟨by rw [RDs.length r1]; exact q1.1.ok, fun p hp => (k.mono g1).newM s1 hp r1 q1.2⟩⟩
/-- a row of the memory that changes no more -/
def gStl (f : DTE) : DTE := fun δ M Q => f δ M fun x M1 => match x with
  | .ref p => ∃ xs, M1 p = some (.lst xs) ∧ Q (.lst xs) (mdel M1 p)
  | x => Q x M1
theorem d_stl (h : DE X e f) : DE X e (gStl f) := imp h fun σ H Q ⟨δ, F, W, M, Qd, ev, s, h, k⟩ => ⟨δ, F, W, M, _, ev, s, h, fun v H1 W1 d M1 g1 s1 r1 q1 => by
  cases r1 with
  | ref p =>
    obtain ⟨xs, hm, q⟩ := q1
    obtain ⟨s2, g2⟩ := s1.settle hm
    obtain ⟨vs, hv, rv⟩ := s1.list hm
    exact (k.mono (g1.trans g2)).now s2 (.lst (.inl ⟨.inl rfl, .inl hv⟩) (rv.mono g2)) q
  | non => exact (k.mono g1).now s1 .non q1
  | bl b => exact (k.mono g1).now s1 (.bl b) q1
  | int b => exact (k.mono g1).now s1 (.int b) q1
  | str b => exact (k.mono g1).now s1 (.str b) q1
  | ty b => exact (k.mono g1).now s1 (.ty b) q1
  | lst a b => exact (k.mono g1).now s1 (.lst a b) q1
  | tup a b => exact (k.mono g1).now s1 (.tup a b) q1
  | obj a b c => exact (k.mono g1).now s1 (.obj a b c) q1
  | dct a b c => exact (k.mono g1).now s1 (.dct a b c) q1
  | exn a b c => exact (k.mono g1).now s1 (.exn a b c) q1⟩
theorem atI_rel {K : PySem.W.Frag} {W : Addr → Prop} {H : Hp} {vs : List V} {ds : List Da} {i : Int} {d : Da} (r : RDs K W H vs ds) (h : atI ds i = some d) : ∃ v, atI vs i = some v ∧ RD K W H v d := by
  unfold atI at h ⊢
  rw [r.length]
  cases e : ixN ds.length i with
  | none => rw [e] at h; cases h
  | some j => rw [e] at h; exact r.get h
def hIx : D2 := fun x y M Q => match x, y with
  | .str z, .int i => Sz z.length ∧ ∃ c, atI z.cps.toList i = some c ∧ Q (.str ⟨#[c]⟩) M
  | .lst xs, .int i => ∃ v, atI xs i = some v ∧ Q v M
  | .tup xs, .int i => ∃ v, atI xs i = some v ∧ Q v M
  | .ref p, .int i => ∃ xs v, M p = some (.lst xs) ∧ atI xs i = some v ∧ Q v M
  | _, _ => False
theorem d_ix (ha : DE X a fa) (hb : DE X b fb) (hs : PlainIx b := by exact fun _ _ => rfl) : DE X (.Subscript a b pos) (gOp hIx fa fb) := imp (ix ha hb hs) fun σ H Q h => by
  obtain ⟨δ, F, W, M, Qd, ev, s, h, k⟩ := h
  refine ⟨δ, F, W, M, _, ev, s, h, fun v H1 W1 d M1 g1 s1 r1 q1 => ⟨δ, F, W1, M1, _, ev.mono g1, s1, q1, fun u H2 W2 e M2 g2 s2 r2 q2 => ?_⟩⟩
  have k2 := k.mono (g1.trans g2)
  have r1' := r1.mono g2
  unfold hIx at q2
  split at q2
  · cases r1'; cases r2
    obtain ⟨hz, c, hc, q⟩ := q2
    exact ⟨hz.ok, c, hc, k2.now s2 (.str _) q⟩
  · cases r1' with
    | lst hs rv =>
      cases r2
      obtain ⟨x, hx, q⟩ := q2
      obtain ⟨y, hy, ry⟩ := atI_rel rv hx
      exact ⟨_, y, .inl hs.sq, hy, k2.now s2 ry q⟩
  · cases r1' with
    | tup hs rv =>
      cases r2
      obtain ⟨x, hx, q⟩ := q2
      obtain ⟨y, hy, ry⟩ := atI_rel rv hx
      exact ⟨_, y, .inr hs.sq, hy, k2.now s2 ry q⟩
  · cases r1' with
    | ref p =>
      cases r2
      obtain ⟨xs, x, hm, hx, q⟩ := q2
      obtain ⟨vs, hv, rv⟩ := s2.list hm
      obtain ⟨y, hy, ry⟩ := atI_rel rv hx
      exact ⟨_, y, .inl (SqL.of hv), hy, k2.now s2 ry q⟩
  · exact q2.elim
def cutD {α : Type} (xs : List α) (lo hi : Option Int) : List α := (xs.drop (HT.sIx xs.length 0 lo)).take (HT.sIx xs.length xs.length hi - HT.sIx xs.length 0 lo)
theorem cut_rel {K : PySem.W.Frag} {W : Addr → Prop} {H : Hp} {vs : List V} {ds : List Da} (r : RDs K W H vs ds) (lo hi : Option Int) : RDs K W H (cutV vs lo hi) (cutD ds lo hi) := by
  unfold cutV cutD
  rw [r.length]
  exact (r.drop _).take _
abbrev DTO := DR (Option Int)
def rO : (Addr → Prop) → Hp → Option Int → Option Int → Prop := fun _ _ a b => a = b
def DP (X : Cx) (e : Option Expr) (f : DTO) : Prop := PO X e (Li rO X.K f)
theorem po_imp {e : Option Expr} {t t' : TO} (h : PO X e t) (f : ∀ σ H Q, t' σ H Q → t σ H Q) : PO X e t' := by
  obtain ⟨h⟩ := h
  exact ⟨fun pins s σ H Q I q => h pins s σ H Q I (f σ H Q q)⟩
def gNoP : DTO := fun _ M Q => Q none M
def gPart (f : DTE) : DTO := fun δ M Q => f δ M fun x M1 => match x with
  | .int i => Q (some i) M1
  | _ => False
theorem d_pnone : DP X none gNoP := po_imp po_none fun σ H Q ⟨δ, F, W, M, Qd, ev, s, h, k⟩ => k.now s rfl h
theorem d_psome (h : DE X e f) : DP X (some e) (gPart f) := po_imp (posome h) fun σ H Q ⟨δ, F, W, M, Qd, ev, s, h, k⟩ => ⟨δ, F, W, M, _, ev, s, h, fun v H1 W1 d M1 g1 s1 r1 q1 => by
  cases r1 <;> first | exact q1.elim | exact (k.mono g1).now s1 rfl q1⟩
def hSl (x : Da) (lo hi : Option Int) (M : Mm) (Q : DK) : Prop := match x with
  | .str z => Sz z.length ∧ Q (.str (cutS z lo hi)) M
  | .lst xs => Q (.lst (cutD xs lo hi)) M
  | .tup xs => Q (.tup (cutD xs lo hi)) M
  | .ref p => ∃ xs, M p = some (.lst xs) ∧ Q (.lst (cutD xs lo hi)) M
  | _ => False
def gSl (f : DTE) (l h : DTO) : DTE := fun δ M Q => f δ M fun x M1 => l δ M1 fun lo M2 => h δ M2 fun hi M3 => hSl x lo hi M3 Q
theorem cutD_whole {α : Type} {xs : List α} {lo hi : Option Int} (h : HT.sIx xs.length 0 lo = 0 ∧ HT.sIx xs.length xs.length hi = xs.length) : cutD xs lo hi = xs := by
  unfold cutD
  rw [h.1, h.2]
  simp
def fSlA (K : PySem.W.Frag) : V → Option Int → Option Int → Hp → VK → Prop := fun x lo hi H Q => match x with
  | .str z => z.length ≤ sizeLine ∧ Q (.str (cutS z lo hi)) H
  | .ref p => rSlL K (.ref p) lo hi H Q ∨ rSlAF K (.ref p) lo hi H Q
  | _ => False
theorem sl_anyA : SlR X (fSlA X.K) := slCases fun x lo hi H Q h => by
  unfold fSlA at h; split at h
  · exact ⟨_, sl_str, _, rfl, h.1, h.2⟩
  · rcases h with h | h
    · exact ⟨_, sl_list, h⟩
    · exact ⟨_, sl_tupAF, h⟩
  · exact h.elim
theorem d_sl {lo hi : Option Expr} {l h : DTO} {p2 : Pos} (he : DE X e f) (hl : DP X lo l) (hh : DP X hi h) : DE X (.Subscript e (.Slice lo hi none p2) pos) (gSl f l h) := imp (pe_slice sl_anyA he hl hh) fun σ H Q hq => by
  obtain ⟨δ, F, W, M, Qd, ev, s, hq, k⟩ := hq
  refine ⟨δ, F, W, M, _, ev, s, hq, fun v H1 W1 d M1 g1 s1 r1 q1 => ⟨δ, F, W1, M1, _, ev.mono g1, s1, q1, fun a1 H2 W2 b1 M2 g2 s2 e2 q2 => ⟨δ, F, W2, M2, _, ev.mono (g1.trans g2), s2, q2, fun a2 H3 W3 b2 M3 g3 s3 e3 q3 => ?_⟩⟩⟩
  cases e2
  cases e3
  have k3 := k.mono (g1.trans (g2.trans g3))
  have r3 := r1.mono (g2.trans g3)
  unfold hSl at q3
  split at q3
  · cases r3
    exact ⟨q3.1.ok, k3.now s3 (.str _) q3.2⟩
  · cases r3 with
    | lst hs rv => exact .inl ⟨_, _, rfl, hs.sq, fun p hp => k3.newL s3 hp (cut_rel rv _ _) q3⟩
  · cases r3 with
    | tup hs rv =>
      refine .inr ⟨_, _, rfl, hs.sq, fun hw => ?_, fun _ p hp o ho => k3.newT s3 hp (cut_rel rv _ _) ho q3⟩
      rw [cutD_whole (by rw [← rv.length]; exact hw)] at q3
      exact k3.now s3 (.tup hs rv) q3
  · cases r3 with
    | ref p =>
      obtain ⟨xs, hm, q⟩ := q3
      obtain ⟨vs, hv, rv⟩ := s3.list hm
      exact .inl ⟨_, _, rfl, SqL.of hv, fun p hp => k3.newL s3 hp (cut_rel rv _ _) q⟩
  · exact q3.elim
end
end U
set_option Elab.async false
set_option linter.all false
set_option maxRecDepth 100000
set_option maxHeartbeats 2000000
namespace U
open PySem PySem.Spec PyProof.Rows L2
abbrev DC := List Da → Mm → DK → Prop
def L2c (K : PySem.W.Frag) (g : DC) : List V → Hp → VK → Prop := fun xs H Q => ∃ F W M ds Qd, RDs K W H xs ds ∧ Stt K F W M H ∧ g ds M Qd ∧ Kt (rE K) K F W H Qd Q
def gBi (g : DC) (fs : DTA) : DTE := fun δ M Q => fs δ M fun ds M1 => g ds M1 Q
def CD (X : Cx) (f : Value) (g : DC) : Prop := CallR X f (L2c X.K g)
section
variable {X : Cx} {a b c e : Expr} {es rest : List Expr} {fa fb fc f : DTE} {ft fu : DTT} {fs : DTA} {pos p : Pos} {g : DC}
theorem li_cb {K : PySem.W.Frag} {σ : L2.St} {H : Hp} {Q : VK} (h : Li (rE K) K (gBi g fs) σ H Q) : tCB (L2c K g) (Li (rA K) K fs) σ H Q := by
  obtain ⟨δ, F, W, M, Qd, ev, s, h, k⟩ := h
  exact ⟨δ, F, W, M, _, ev, s, h, fun vs H1 W1 ds M1 g1 s1 r1 q1 => ⟨F, W1, M1, ds, Qd, r1, s1, q1, k.mono g1⟩⟩
theorem d_b {x : Str} {id : String} (m : X.mg x = none) (hv : bootBuiltins x = some (.builtin id)) (hc : CD X (.builtin id) g) (ha : DA X (e :: es) fs) (hg : Gl X x := by rfl) (hn : x ≠ "__name__" := by decide) (hdb : (x == ("__debug__" : Str)) = false := by decide)
    (he : starEach (e :: es) X.env = (false, eval e X.env) :: starEach es X.env := by rfl) (hpl : (backTo pos (starEach es X.env)).any (·.1) = false := by rfl) : DE X (.Call (.Name x p) (e :: es) [] pos) (gBi g fs) :=
  imp (pe_callB hc hg m hv ha hn hdb he hpl) fun _ _ _ h => li_cb h
theorem d_t {x : Str} {T : String} (m : X.mg x = none) (hv : bootBuiltins x = some (.type T)) (hc : CD X (.type T) g) (ha : DA X (e :: es) fs) (hg : Gl X x := by rfl) (hn : x ≠ "__name__" := by decide) (hdb : (x == ("__debug__" : Str)) = false := by decide)
    (he : starEach (e :: es) X.env = (false, eval e X.env) :: starEach es X.env := by rfl) (hpl : (backTo pos (starEach es X.env)).any (·.1) = false := by rfl) : DE X (.Call (.Name x p) (e :: es) [] pos) (gBi g fs) :=
  imp (pe_callTy hc hg m hv ha hn hdb he hpl) fun _ _ _ h => li_cb h
theorem cd_imp {f : Value} (h : ∀ xs H Q, L2c X.K g xs H Q → ∃ r : List V → Hp → VK → Prop, CallR X f r ∧ r xs H Q) : CD X f g := callCases h
theorem RDs.one {K : PySem.W.Frag} {W : Addr → Prop} {H : Hp} {vs : List V} {d : Da} (r : RDs K W H vs [d]) : ∃ v, vs = [v] ∧ RD K W H v d := by
  cases r with
  | cons h k => cases k; exact ⟨_, rfl, h⟩
theorem RDs.two {K : PySem.W.Frag} {W : Addr → Prop} {H : Hp} {vs : List V} {d e : Da} (r : RDs K W H vs [d, e]) : ∃ v u, vs = [v, u] ∧ RD K W H v d ∧ RD K W H u e := by
  cases r with
  | cons h k =>
    obtain ⟨u, rfl, q⟩ := k.one
    exact ⟨_, _, rfl, h, q⟩
def kLen : DC := fun xs M Q => match xs with
  | [.str y] => Sz y.length ∧ Q (.int y.length) M
  | [.lst xs] => Q (.int xs.length) M
  | [.tup xs] => Q (.int xs.length) M
  | [.ref p] => ∃ xs, M p = some (.lst xs) ∧ Q (.int xs.length) M
  | _ => False
theorem c_dlen : CD X (.builtin "len") kLen := cd_imp fun vs H Q ⟨F, W, M, ds, Qd, r, s, h, k⟩ => by
  refine ⟨_, c_len, ?_⟩
  unfold kLen at h
  split at h
  · obtain ⟨v, rfl, r1⟩ := r.one; cases r1
    exact ⟨h.1.ok, k.now s (.int _) h.2⟩
  · obtain ⟨v, rfl, r1⟩ := r.one
    cases r1 with
    | lst hs rv => exact ⟨_, .inl ⟨_, hs.sq, rfl⟩, by rw [rv.length]; exact k.now s (.int _) h⟩
  · obtain ⟨v, rfl, r1⟩ := r.one
    cases r1 with
    | tup hs rv => exact ⟨_, .inr ⟨_, hs.sq, rfl⟩, by rw [rv.length]; exact k.now s (.int _) h⟩
  · obtain ⟨v, rfl, r1⟩ := r.one
    cases r1 with
    | ref p =>
      obtain ⟨xs, hm, q⟩ := h
      obtain ⟨vs, hv, rv⟩ := s.list hm
      exact ⟨_, .inl ⟨_, SqL.of hv, rfl⟩, by rw [rv.length]; exact k.now s (.int _) q⟩
  · exact h.elim
def kAbs : DC := fun xs M Q => match xs with
  | [.int i] => Q (.int (if i < 0 then -i else i)) M
  | _ => False
theorem c_dabs : CD X (.builtin "abs") kAbs := cd_imp fun vs H Q ⟨F, W, M, ds, Qd, r, s, h, k⟩ => by
  refine ⟨_, c_abs, ?_⟩
  unfold kAbs at h
  split at h
  · obtain ⟨v, rfl, r1⟩ := r.one; cases r1; exact k.now s (.int _) h
  · exact h.elim
def kMax : DC := fun xs M Q => match xs with
  | [.int i, .int j] => Q (.int (if j > i then j else i)) M
  | _ => False
theorem c_dmax (hc : X.calm = true) : CD X (.builtin "max") kMax := cd_imp fun vs H Q ⟨F, W, M, ds, Qd, r, s, h, k⟩ => by
  refine ⟨_, c_max hc, ?_⟩
  unfold kMax at h
  split at h
  · obtain ⟨v, u, rfl, r1, r2⟩ := r.two; cases r1; cases r2; exact k.now s (.int _) h
  · exact h.elim
def kMin : DC := fun xs M Q => match xs with
  | [.int i, .int j] => Q (.int (if j < i then j else i)) M
  | _ => False
theorem c_dmin (hc : X.calm = true) : CD X (.builtin "min") kMin := cd_imp fun vs H Q ⟨F, W, M, ds, Qd, r, s, h, k⟩ => by
  refine ⟨_, c_min hc, ?_⟩
  unfold kMin at h
  split at h
  · obtain ⟨v, u, rfl, r1, r2⟩ := r.two; cases r1; cases r2; exact k.now s (.int _) h
  · exact h.elim
def kInt : DC := fun xs M Q => match xs with
  | [.int i] => Q (.int i) M
  | [.bl b] => Q (.int (if b then 1 else 0)) M
  | _ => False
theorem c_dint : CD X (.type "int") kInt := cd_imp fun vs H Q ⟨F, W, M, ds, Qd, r, s, h, k⟩ => by
  refine ⟨_, c_int, ?_⟩
  unfold kInt at h
  split at h
  · obtain ⟨v, rfl, r1⟩ := r.one; cases r1; exact k.now s (.int _) h
  · obtain ⟨v, rfl, r1⟩ := r.one; cases r1; exact k.now s (.int _) h
  · exact h.elim
/-- ints, bools, texts in a row -/
def asInts : List Da → Option (List Int)
  | [] => some []
  | .int i :: r => (asInts r).map (i :: ·)
  | _ :: _ => none
def asBls : List Da → Option (List Bool)
  | [] => some []
  | .bl i :: r => (asBls r).map (i :: ·)
  | _ :: _ => none
theorem asInts_map : ∀ ns : List Int, asInts (ns.map Da.int) = some ns
  | [] => rfl
  | n :: ns => by show (asInts (ns.map Da.int)).map _ = _; rw [asInts_map ns]; rfl
theorem asBls_map : ∀ ns : List Bool, asBls (ns.map Da.bl) = some ns
  | [] => rfl
  | n :: ns => by show (asBls (ns.map Da.bl)).map _ = _; rw [asBls_map ns]; rfl
theorem asInts_of : ∀ {ds : List Da} {ns : List Int}, asInts ds = some ns → ds = ns.map Da.int
  | [], ns, h => by cases h; rfl
  | d :: ds, ns, h => by
    cases d with
    | int i =>
      cases e : asInts ds with
      | none => rw [asInts, e] at h; cases h
      | some ms => rw [asInts, e] at h; cases h; rw [asInts_of e]; rfl
    | _ => cases (show none = some ns from h)
theorem asBls_of : ∀ {ds : List Da} {ns : List Bool}, asBls ds = some ns → ds = ns.map Da.bl
  | [], ns, h => by cases h; rfl
  | d :: ds, ns, h => by
    cases d with
    | bl i =>
      cases e : asBls ds with
      | none => rw [asBls, e] at h; cases h
      | some ms => rw [asBls, e] at h; cases h; rw [asBls_of e]; rfl
    | _ => cases (show none = some ns from h)
def kAll : DC := fun xs M Q => match xs with
  | [.lst ds] => ∃ bs, asBls ds = some bs ∧ Q (.bl (bs.all id)) M
  | _ => False
theorem c_dall (hc : X.calm = true) : CD X (.builtin "all") kAll := cd_imp fun vs H Q ⟨F, W, M, ds, Qd, r, s, h, k⟩ => by
  refine ⟨_, cr_all hc, ?_⟩
  unfold kAll at h
  split at h
  · obtain ⟨v, rfl, r1⟩ := r.one
    obtain ⟨bs, hb, q⟩ := h
    cases r1 with
    | lst hs rv => rw [asBls_of hb] at rv; rw [rv.bls] at hs; exact ⟨_, bs, rfl, hs.sq, k.now s (.bl _) q⟩
  · exact h.elim
def kAny : DC := fun xs M Q => match xs with
  | [.lst ds] => ∃ bs, asBls ds = some bs ∧ Q (.bl (bs.any id)) M
  | _ => False
theorem c_dany (hc : X.calm = true) : CD X (.builtin "any") kAny := cd_imp fun vs H Q ⟨F, W, M, ds, Qd, r, s, h, k⟩ => by
  refine ⟨_, cr_any hc, ?_⟩
  unfold kAny at h
  split at h
  · obtain ⟨v, rfl, r1⟩ := r.one
    obtain ⟨bs, hb, q⟩ := h
    cases r1 with
    | lst hs rv => rw [asBls_of hb] at rv; rw [rv.bls] at hs; exact ⟨_, bs, rfl, hs.sq, k.now s (.bl _) q⟩
  · exact h.elim
def kSum : DC := fun xs M Q => match xs with
  | [.lst ds] => ∃ ns, asInts ds = some ns ∧ Q (.int ns.sum) M
  | _ => False
theorem c_dsum (hc : X.calm = true) : CD X (.builtin "sum") kSum := cd_imp fun vs H Q ⟨F, W, M, ds, Qd, r, s, h, k⟩ => by
  refine ⟨_, cr_sum hc, ?_⟩
  unfold kSum at h
  split at h
  · obtain ⟨v, rfl, r1⟩ := r.one
    obtain ⟨bs, hb, q⟩ := h
    cases r1 with
    | lst hs rv => rw [asInts_of hb] at rv; rw [rv.ints] at hs; exact ⟨_, bs, rfl, hs.sq, k.now s (.int _) q⟩
  · exact h.elim
def kTuple : DC := fun xs M Q => match xs with
  | [x] => itemsK x M fun ds => Q (.tup ds) M
  | _ => False
theorem c_dtuple : CD X (.type "tuple") kTuple := cd_imp fun vs H Q ⟨F, W, M, ds, Qd, r, s, h, k⟩ => by
  refine ⟨_, call_tuple_ofF, ?_⟩
  unfold kTuple at h
  split at h
  · obtain ⟨v, rfl, r1⟩ := r.one
    cases r1 with
    | lst hs rv => exact ⟨_, _, rfl, .inl ⟨hs.sq, fun l hl o ho => k.newT s hl rv ho h⟩⟩
    | tup hs rv => exact ⟨_, _, rfl, .inr ⟨hs.sq, k.now s (.tup hs rv) h⟩⟩
    | ref p =>
      obtain ⟨xs, hm, q⟩ := h
      obtain ⟨vs, hv, rv⟩ := s.list hm
      exact ⟨_, _, rfl, .inl ⟨SqL.of hv, fun l hl o ho => k.newT s hl rv ho q⟩⟩
    | _ => exact h.elim
  · exact h.elim
def kList : DC := fun xs M Q => match xs with
  | [x] => itemsK x M fun ds => Q (.lst ds) M
  | _ => False
theorem c_dlist : CD X (.type "list") kList := cd_imp fun vs H Q ⟨F, W, M, ds, Qd, r, s, h, k⟩ => by
  refine ⟨_, call_list_of, ?_⟩
  unfold kList at h
  split at h
  · obtain ⟨v, rfl, r1⟩ := r.one
    obtain ⟨a, vs, ds, rfl, hs, rv, q⟩ := items_of s r1 h
    exact ⟨a, vs, rfl, hs, fun l hl => k.newL s hl rv q⟩
  · exact h.elim
/-- x.append(y), x.pop(i) .. -/
def hAppend (x : Da) (xs : List Da) (M : Mm) (Q : DK) : Prop := match x, xs with
  | .ref p, [y] => ∃ ds, M p = some (.lst ds) ∧ Sz ds.length ∧ Q .non (mput M p (.lst (ds ++ [y])))
  | _, _ => False
def hExtend (x : Da) (xs : List Da) (M : Mm) (Q : DK) : Prop := match x, xs with
  | .ref p, [.ref b] => ∃ ds es, M p = some (.lst ds) ∧ M b = some (.lst es) ∧ Sz (ds.length + es.length) ∧ Q .non (mput (mdel M b) p (.lst (ds ++ es)))
  | .ref p, [.lst es] => ∃ ds, M p = some (.lst ds) ∧ Sz (ds.length + es.length) ∧ Q .non (mput M p (.lst (ds ++ es)))
  | _, _ => False
/-- extend by any list -/
theorem list_extendW (l : Addr) (items : Array Value) (n : Nat) (b : Addr) (items2 : Array Value) (n2 : Nat) (dd2 : Option Addr) (sl2 : Array (Option Value)) (hc0 : ¬(!items.isEmpty && Builtin.List.listTooLong (items.size + items2.size)) = true) (hc1 : items.size ≤ sizeLine) (hs2 : items.size + items2.size ≤ sizeLine + 1) :
    Meets (Builtin.«list.extend» ⟨[.ref l, .ref b], []⟩) (fun _ R s => s.heap.get? l = some { cls := .type "list", dict := none, data := .seq items n, slots := #[] } ∧ s.heap.get? b = some { cls := .type "list", dict := dd2, data := .seq items2 n2, slots := sl2 } ∧ R (.ok (.ret Value.none)) { s with heap := s.heap.update l (Obj.mapSeq fun x => x ++ items2), toks := s.toks }) :=
  .of_wp fun prog w A R s h => by
    obtain ⟨hp, g, d, tk, os⟩ := s; obtain ⟨hl, hb, h⟩ := h; have f1 := AutoSeq1.idx_int; have f2 := AutoSeq1.sub_tuple_tuple; have f3 := AutoSeq1.sub_list_list; have f4 := AutoSeq1.sub_tuple_list; have f5 := AutoSeq1.sub_list_tuple
    have hz' : (items ++ items2).size ≤ sizeLine + 1 := by rw [Array.size_append]; exact hs2
    wp_walk using (wpAny_updateSeq hl rfl (hz := hc1) (_hz' := hz')), wpAny_loadPart' hl, wpAny_loadPart' hb; exact ⟨_, rfl, h⟩
def rExtendL (K : PySem.W.Frag) : V → List V → Hp → VK → Prop := fun x vs H Q => ∃ l b xs zs, x = .ref l ∧ vs = [.ref b] ∧ H l = some (.lst xs) ∧ SqL K H b zs ∧ xs.length + zs.length ≤ sizeLine ∧ Q .non (upd H l (.lst (xs ++ zs)))
theorem mt_extendL : MtM X "list.extend" (rExtendL X.K) := by
  intro pins s σ H x vs v us Q I rx rv h
  obtain ⟨l, b, xs, zs, rfl, rfl, hH, hB, hz, q⟩ := h
  cases rx
  obtain ⟨u, rfl, ru⟩ := rv.one
  cases ru
  obtain ⟨z, its, n, r, hl, e⟩ := I.lstM hH
  obtain ⟨its2, r2, ⟨⟨cls2, dd2, data2, sl2⟩, n2, e2, hc2, _, hd2⟩, _⟩ := I.list hB
  simp only at hc2 hd2
  subst hc2 hd2
  have hl2 := r2.length
  have hsz : its.toArray.size + its2.toArray.size ≤ sizeLine := by rw [List.size_toArray, List.size_toArray]; omega
  have hlong : ¬ (!its.toArray.isEmpty && Builtin.List.listTooLong (its.toArray.size + its2.toArray.size)) = true := by
    rw [notLongL hsz, Bool.and_false]
    exact Bool.false_ne_true
  refine call_meets F.slot_list_extend ⟨_, e, rfl⟩ F.entry_list_extend (F.args_list_extend_2 _ _)
    (list_extendW l its.toArray n b its2.toArray n2 _ sl2 hlong (by rw [List.size_toArray]; omega) (by omega)) ⟨e, e2, ?_⟩
  refine ⟨.non, _, I.lset (its' := its ++ its2) hH e (by simp) (r.append r2) ?_, rfl, q⟩
  rw [List.length_append]
  omega
def gMe (g : Da → List Da → Mm → DK → Prop) (f : DTE) (fs : DTA) : DTE := fun δ M Q => f δ M fun x M1 => (∃ p ds, x = .ref p ∧ M1 p = some (.lst ds)) ∧ fs δ M1 fun xs M2 => g x xs M2 Q
def L2m (K : PySem.W.Frag) (g : Da → List Da → Mm → DK → Prop) : V → List V → Hp → VK → Prop := fun x xs H Q => ∃ F W M d ds Qd, RD K W H x d ∧ RDs K W H xs ds ∧ Stt K F W M H ∧ g d ds M Qd ∧ Kt (rE K) K F W H Qd Q
theorem mtImp {id : String} {r r' : V → List V → Hp → VK → Prop} (h : MtR X id r) (f : ∀ x xs H Q, r' x xs H Q → r x xs H Q) : MtR X id r' := fun pins s σ H x xs v us Q I rx rv q => h pins s σ H x xs v us Q I rx rv (f x xs H Q q)
theorem Kt.putL {K : PySem.W.Frag} {F W : Addr → Prop} {M : Mm} {H : Hp} {Qd : DK} {Q : VK} {q : Addr} {vs : List V} {ds : List Da} {o : MO} {v : V} {d : Da} (k : Kt (rE K) K F W H Qd Q) (s : Stt K F W M H) (h : M q = some o) (r : RDs K W H vs ds) (rv : RD K W H v d) (z : Qd d (mput M q (.lst ds))) : Q v (upd H q (.lst vs)) :=
  (k.mono (grow_put s h)).now (s.put h (.lst r)) (rv.mono (grow_put s h)) z
theorem mt_dappend (h : MtR X "list.append" rAppend) : MtR X "list.append" (L2m X.K hAppend) := mtImp h fun x xs H Q ⟨F, W, M, d, ds, Qd, r, rs, s, q, k⟩ => by
  unfold hAppend at q
  split at q
  · cases r
    obtain ⟨y, rfl, ry⟩ := rs.one
    obtain ⟨es, hm, hz, q⟩ := q
    obtain ⟨vs, hv, rv⟩ := s.list hm
    exact ⟨_, vs, y, rfl, rfl, hv, by rw [rv.length]; have := hz.le; rw [sizeLine_eq]; omega, k.putL s hm (rv.append (.cons ry .nil)) .non q⟩
  · exact q.elim
theorem mt_dextend (h : MtR X "list.extend" (rExtendL X.K)) : MtR X "list.extend" (L2m X.K hExtend) := mtImp h fun x xs H Q ⟨F, W, M, d, ds, Qd, r, rs, s, q, k⟩ => by
  unfold hExtend at q
  split at q
  · cases r
    rename_i p b
    obtain ⟨y, rfl, ry⟩ := rs.one
    cases ry
    obtain ⟨ds, es, hm, hb, hz, q⟩ := q
    obtain ⟨vs, hv, rv⟩ := s.list hm
    obtain ⟨ws, hw, rw'⟩ := s.list hb
    refine ⟨_, _, vs, ws, rfl, rfl, hv, SqL.of hw, by rw [rv.length, rw'.length]; exact hz.ok, ?_⟩
    have s2 := s.put hm (o := .lst (vs ++ ws)) (.lst (rv.append rw'))
    refine (k.mono (grow_put s hm)).now (s2.forget fun a o e => ?_) .non q
    unfold mput mdel at e
    unfold mput
    split at e
    · rename_i ea; rw [if_pos ea]; exact e
    · rename_i ea
      rw [if_neg ea]
      split at e
      · cases e
      · exact e
  · cases r
    obtain ⟨y, rfl, ry⟩ := rs.one
    cases ry with
    | lst hs rw' =>
      obtain ⟨ds, hm, hz, q⟩ := q
      obtain ⟨vs, hv, rv⟩ := s.list hm
      refine ⟨_, _, vs, _, rfl, rfl, hv, hs.sq, by rw [rv.length, rw'.length]; exact hz.ok, ?_⟩
      exact k.putL s hm (rv.append rw') .non q
  · exact q.elim
variable {o : Expr} {apos cpos : Pos} {name : Str} {id : String} {gm : Da → List Da → Mm → DK → Prop}
theorem li_me {K : PySem.W.Frag} {σ : L2.St} {H : Hp} {Q : VK} (h : Li (rE K) K (gMe gm f fs) σ H Q) : tBM K "list" (L2m K gm) (Li (rE K) K f) (Li (rA K) K fs) σ H Q := by
  obtain ⟨δ, F, W, M, Qd, ev, s, h, k⟩ := h
  refine ⟨δ, F, W, M, _, ev, s, h, fun v H1 W1 d M1 g1 s1 r1 q1 => ?_⟩
  obtain ⟨⟨p, ds, rfl, hm⟩, q1⟩ := q1
  cases r1
  obtain ⟨vs, hv, rv⟩ := s1.list hm
  exact ⟨.inl ⟨rfl, vs, SqL.of hv⟩, δ, F, W1, M1, _, ev.mono g1, s1, q1, fun us H2 W2 es M2 g2 s2 r2 q2 => ⟨F, W2, M2, _, es, Qd, .ref p, r2, s2, q2, k.mono (g1.trans g2)⟩⟩
theorem d_me (slot : Slot "list" name id) (hty : typeOf (.builtin id) = pure (.type "method_descriptor")) (hm : MtR X id (L2m X.K gm)) (ho : DE X o f) (ha : DA X (e :: es) fs)
    (hbase : attributeBase o name X.env (eval o X.env) = eval o X.env := by rfl)
    (hfew : ((backTo cpos (starEach (e :: es) X.env)).all (fun x => !x.1) && (backToKw cpos (keywordEach [] X.env)).all (fun x => x.1.isSome)
      && decide ((e :: es).length + ([] : List Keyword).length + (if ([] : List Keyword).isEmpty then 0 else 1) < 30)) = true := by rfl)
    (hline : (apos.endLine == cpos.line) = true := by rfl) (hs : starEach (e :: es) X.env = (false, eval e X.env) :: starEach es X.env := by rfl) (hplain : (backTo cpos (starEach es X.env)).any (·.1) = false := by rfl) :
    DE X (.Call (.Attribute o name apos) (e :: es) [] cpos) (gMe gm f fs) := imp (pe_bm PySem.F.plainAttrs_list slot hty hm ho ha hbase hfew hline hs hplain) fun _ _ _ h => li_me h
theorem d_append (ho : DE X o f) (ha : DA X (e :: es) fs)
    (hbase : attributeBase o "append" X.env (eval o X.env) = eval o X.env := by rfl)
    (hfew : ((backTo cpos (starEach (e :: es) X.env)).all (fun x => !x.1) && (backToKw cpos (keywordEach [] X.env)).all (fun x => x.1.isSome)
      && decide ((e :: es).length + ([] : List Keyword).length + (if ([] : List Keyword).isEmpty then 0 else 1) < 30)) = true := by rfl)
    (hline : (apos.endLine == cpos.line) = true := by rfl) (hs : starEach (e :: es) X.env = (false, eval e X.env) :: starEach es X.env := by rfl) (hplain : (backTo cpos (starEach es X.env)).any (·.1) = false := by rfl) :
    DE X (.Call (.Attribute o "append" apos) (e :: es) [] cpos) (gMe hAppend f fs) := d_me PySem.F.slot_list_append PySem.F.type_list_append (mt_dappend mt_append) ho ha hbase hfew hline hs hplain
theorem d_extend (ho : DE X o f) (ha : DA X (e :: es) fs)
    (hbase : attributeBase o "extend" X.env (eval o X.env) = eval o X.env := by rfl)
    (hfew : ((backTo cpos (starEach (e :: es) X.env)).all (fun x => !x.1) && (backToKw cpos (keywordEach [] X.env)).all (fun x => x.1.isSome)
      && decide ((e :: es).length + ([] : List Keyword).length + (if ([] : List Keyword).isEmpty then 0 else 1) < 30)) = true := by rfl)
    (hline : (apos.endLine == cpos.line) = true := by rfl) (hs : starEach (e :: es) X.env = (false, eval e X.env) :: starEach es X.env := by rfl) (hplain : (backTo cpos (starEach es X.env)).any (·.1) = false := by rfl) :
    DE X (.Call (.Attribute o "extend" apos) (e :: es) [] cpos) (gMe hExtend f fs) := d_me PySem.F.slot_list_extend PySem.F.type_list_extend (mt_dextend mt_extendL) ho ha hbase hfew hline hs hplain
end
/-- what the context takes of an exception -/
def EXm (X : Cx) : XK := fun cls d H => ∀ σ u s', XE X (fun c d' σ' H' => c = cls ∧ d' = d ∧ σ' = σ ∧ H' = H) u s' → X.xe u s'
theorem EXm.takes (X : Cx) : Takes X (fun cls d _ H => EXm X cls d H) := fun u s' ⟨a, B, sI, pins, σ, H, cls, d, e, I, nb, up, sky, na, os, ag, w⟩ =>
  w σ u s' ⟨a, B, sI, pins, σ, H, cls, d, e, I, nb, up, sky, na, os, ag, rfl, rfl, rfl, rfl⟩
theorem EXm.of {X : Cx} {W : WX} (tk : Takes X W) {cls : Value} {d : Option Addr} {H : Hp} (h : ∀ σ, σ.length = X.N.length → W cls d σ H) : EXm X cls d H := fun σ u s' ⟨a, B, sI, pins, σ', H', cls', d', e, I, nb, up, sky, na, os, ag, h1, h2, h3, h4⟩ => by
  subst h1 h2 h3 h4
  exact tk u s' ⟨a, B, sI, pins, σ', H', cls', d', e, I, nb, up, sky, na, os, ag, h _ I.len⟩
/-- an exception's own values -/
def XR (K : PySem.W.Frag) (W : Addr → Prop) (H : Hp) : Option Addr → List (Str × Da) → Prop
  | none, fs => fs = []
  | some a, fs => fs ≠ [] ∧ ∃ vs, W a ∧ H a = some (.xd vs) ∧ RF K W H vs fs
def KX (K : PySem.W.Frag) (F W : Addr → Prop) (H : Hp) (Ed : DX) (E : XK) : Prop :=
  ∀ cls d H' W' fs M', Grow F W H W' H' → Stt K F W' M' H' → XR K W' H' d fs → Ed cls fs M' → E cls d H'
theorem KX.mono {K : PySem.W.Frag} {F W W1 : Addr → Prop} {H H1 : Hp} {Ed : DX} {E : XK} (g : Grow F W H W1 H1) (k : KX K F W H Ed E) : KX K F W1 H1 Ed E :=
  fun c d H' W' fs M' g' => k c d H' W' fs M' (g.trans g')
structure DEnds where
  nx : De → Mm → Prop
  rt : DK
  bk : De → Mm → Prop := fun _ _ => False
  ct : De → Mm → Prop := fun _ _ => False
  ex : DX := fun _ _ _ => False
abbrev DTS := DEnds → De → Mm → Prop
def KE (K : PySem.W.Frag) (F W : Addr → Prop) (H : Hp) (Qd : De → Mm → Prop) (Q : L2.St → Hp → Prop) : Prop :=
  ∀ σ H' W' δ M', Grow F W H W' H' → Stt K F W' M' H' → EnvR K W' H' δ σ → Qd δ M' → Q σ H'
theorem KE.mono {K : PySem.W.Frag} {F W W1 : Addr → Prop} {H H1 : Hp} {Qd : De → Mm → Prop} {Q : L2.St → Hp → Prop} (g : Grow F W H W1 H1) (k : KE K F W H Qd Q) : KE K F W1 H1 Qd Q :=
  fun v H' W' d M' g' => k v H' W' d M' (g.trans g')
theorem KE.now {K : PySem.W.Frag} {F W : Addr → Prop} {H : Hp} {M : Mm} {Qd : De → Mm → Prop} {Q : L2.St → Hp → Prop} {σ : L2.St} {δ : De} (k : KE K F W H Qd Q) (s : Stt K F W M H) (e : EnvR K W H δ σ) (q : Qd δ M) : Q σ H := k σ H W δ M .refl s e q
structure KS (K : PySem.W.Frag) (E : XK) (F W : Addr → Prop) (H : Hp) (Dd : DEnds) (D : Ends) : Prop where
  nx : KE K F W H Dd.nx D.nx
  rt : Kt (rE K) K F W H Dd.rt D.rt
  bk : KE K F W H Dd.bk D.bk
  ct : KE K F W H Dd.ct D.ct
  ex : KX K F W H Dd.ex E
theorem KS.mono {K : PySem.W.Frag} {E : XK} {F W W1 : Addr → Prop} {H H1 : Hp} {Dd : DEnds} {D : Ends} (g : Grow F W H W1 H1) (k : KS K E F W H Dd D) : KS K E F W1 H1 Dd D := ⟨k.nx.mono g, k.rt.mono g, k.bk.mono g, k.ct.mono g, k.ex.mono g⟩
def LS (K : PySem.W.Frag) (E : XK) (f : DTS) : TS := fun D σ H => ∃ δ F W M Dd, EnvR K W H δ σ ∧ Stt K F W M H ∧ f Dd δ M ∧ KS K E F W H Dd D
def DS (X : Cx) (st : Stmt) (f : DTS) : Prop := PS X st (LS X.K (EXm X) f)
def DB (X : Cx) (st : List Stmt) (f : DTS) : Prop := PSs X st (LS X.K (EXm X) f)
theorem ps_imp {X : Cx} {st : Stmt} {t t' : TS} (h : PS X st t) (f : ∀ D σ H, t' D σ H → t D σ H) : PS X st t' := ⟨fun pins s σ H D I q => h.run pins s σ H D I (f D σ H q)⟩
theorem pss_imp {X : Cx} {st : List Stmt} {t t' : TS} (h : PSs X st t) (f : ∀ D σ H, t' D σ H → t D σ H) : PSs X st t' := ⟨fun pins s σ H D I q => h.run pins s σ H D I (f D σ H q)⟩
section
variable {X : Cx} {a b c e : Expr} {es : List Expr} {st : Stmt} {rest body : List Stmt} {fa fb fc f : DTE} {ft fu : DTT} {fs : DTA} {pos p : Pos} {t u : DTS}
def hNext : DTS := fun D δ M => D.nx δ M
def hSeq (t u : DTS) : DTS := fun D δ M => t { D with nx := u D } δ M
theorem z_nil : DB X [] hNext := pss_imp pss_nil fun D σ H ⟨δ, F, W, M, Dd, ev, s, h, k⟩ => k.nx.now s ev h
theorem z_one (h : DS X st t) : DB X [st] t := pss_one h
theorem z_cons (h1 : DS X st t) (h2 : DB X rest u) : DB X (st :: rest) (hSeq t u) := pss_imp (pss_cons h1 h2) fun D σ H ⟨δ, F, W, M, Dd, ev, s, h, k⟩ =>
  ⟨δ, F, W, M, _, ev, s, h, fun σ' H' W' δ' M' g s' e' q => ⟨δ', F, W', M', Dd, e', s', q, k.mono g⟩, k.rt, k.bk, k.ct, k.ex⟩
def hDrop (f : DTE) : DTS := fun D δ M => f δ M fun _ M1 => D.nx δ M1
theorem z_expr (he : DE X e f) (hs : swapsWith e none pos.line X.env = pure false := by rfl) : DS X (.Expr e pos) (hDrop f) := ps_imp (ps_expr he hs) fun D σ H ⟨δ, F, W, M, Dd, ev, s, h, k⟩ =>
  ⟨δ, F, W, M, _, ev, s, h, fun v H1 W1 d M1 g1 s1 r1 q1 => (k.nx.mono g1).now s1 (ev.mono g1) q1⟩
def hRet (f : DTE) : DTS := fun D δ M => f δ M D.rt
theorem z_ret (he : DE X e f) : DS X (.Return (some e) pos) (hRet f) := ps_imp (ps_ret he) fun D σ H ⟨δ, F, W, M, Dd, ev, s, h, k⟩ => ⟨δ, F, W, M, _, ev, s, h, k.rt⟩
def hIf (c : DTT) (t u : DTS) : DTS := fun D δ M => c δ M fun b M1 => if b = true then t D δ M1 else u D δ M1
theorem z_if {a b : List Stmt} (hc : DT X c ft) (ha : DB X a t) (hb : DB X b u) : DS X (.If c a b pos) (hIf ft t u) := ps_imp (ps_if hc ha hb) fun D σ H ⟨δ, F, W, M, Dd, ev, s, h, k⟩ =>
  ⟨δ, F, W, M, _, ev, s, h, fun v H1 W1 d M1 g1 s1 r1 q1 => by
    cases r1
    cases v with
    | true => exact ⟨δ, F, W1, M1, Dd, ev.mono g1, s1, q1, k.mono g1⟩
    | false => exact ⟨δ, F, W1, M1, Dd, ev.mono g1, s1, q1, k.mono g1⟩⟩
def hNever : DTS := fun _ _ _ => False
theorem z_never : DS X st hNever := ps_imp ps_never fun D σ H ⟨δ, F, W, M, Dd, ev, s, h, k⟩ => h.elim
theorem b_never : DB X rest hNever := pss_imp pss_never fun D σ H ⟨δ, F, W, M, Dd, ev, s, h, k⟩ => h.elim
abbrev DTG := Da → De → Mm → (De → Mm → Prop) → Prop
abbrev DTGs := List Da → De → Mm → (De → Mm → Prop) → Prop
def LG (K : PySem.W.Frag) (g : DTG) : TG := fun v σ H Q => ∃ δ F W M d Qd, EnvR K W H δ σ ∧ Stt K F W M H ∧ RD K W H v d ∧ g d δ M Qd ∧ KE K F W H Qd Q
def LGs (K : PySem.W.Frag) (g : DTGs) : TGs := fun vs σ H Q => ∃ δ F W M ds Qd, EnvR K W H δ σ ∧ Stt K F W M H ∧ RDs K W H vs ds ∧ g ds δ M Qd ∧ KE K F W H Qd Q
def DG (X : Cx) (t : Expr) (g : DTG) : Prop := PG X t (LG X.K g)
def DGs (X : Cx) (ts : List Expr) (g : DTGs) : Prop := PGs X ts (LGs X.K g)
theorem pg_imp {tg : Expr} {t t' : TG} (h : PG X tg t) (f : ∀ v σ H Q, t' v σ H Q → t v σ H Q) : PG X tg t' := ⟨fun pins s σ H v u Q I r q => h.run pins s σ H v u Q I r (f v σ H Q q)⟩
theorem pgs_imp {tg : List Expr} {t t' : TGs} (h : PGs X tg t) (f : ∀ v σ H Q, t' v σ H Q → t v σ H Q) : PGs X tg t' := ⟨fun pins s σ H v u Q I r q => h.run pins s σ H v u Q I r (f v σ H Q q)⟩
def hName (i : Nat) : DTG := fun d δ M Q => Q (δ.set i (some d)) M
theorem t_n (i : Nat) {x : Str} {pos : Pos} (hN : X.N.Nodup) (hi : X.N[i]? = some x := by rfl) (hx : Loc X.env.scope x := by first | exact Or.inl rfl | exact Or.inr rfl)
    (hf : X.fn x = true ∨ X.env.scope.names.lookup x = some .local := by first | exact .inl rfl | exact .inr rfl) : DG X (.Name x pos) (hName i) :=
  pg_imp (gn i hN hi hx hf) fun v σ H Q ⟨δ, F, W, M, d, Qd, ev, s, r, h, k⟩ => k.now s (ev.set r i) h
def hGnil : DTGs := fun ds δ M Q => match ds with
  | [] => Q δ M
  | _ => False
def hGcons (g : DTG) (gs : DTGs) : DTGs := fun ds δ M Q => match ds with
  | d :: ds => g d δ M fun δ1 M1 => gs ds δ1 M1 Q
  | [] => False
theorem t_nil : DGs X [] hGnil := pgs_imp pgs_nil fun vs σ H Q ⟨δ, F, W, M, ds, Qd, ev, s, r, h, k⟩ => by
  cases r with
  | nil => exact ⟨rfl, k.now s ev h⟩
  | cons _ _ => exact h.elim
theorem t_cons {g : DTG} {gs : DTGs} (h1 : DG X e g) (h2 : DGs X es gs) (hs : (assignEach (e :: es) X.env).map (·.2) = assign e X.env :: (assignEach es X.env).map (·.2) := by rfl) : DGs X (e :: es) (hGcons g gs) :=
  pgs_imp (pgs_cons h1 h2 hs) fun vs σ H Q ⟨δ, F, W, M, ds, Qd, ev, s, r, h, k⟩ => by
    cases r with
    | nil => exact h.elim
    | cons r rr => exact ⟨_, _, rfl, δ, F, W, M, _, _, ev, s, r, h, fun σ' H' W' δ' M' g' s' e' q => ⟨δ', F, W', M', _, Qd, e', s', rr.mono g', q, k.mono g'⟩⟩
def hGtup (n : Nat) (g : DTGs) : DTG := fun d δ M Q => match d with
  | .tup ds => ds.length = n ∧ g ds δ M Q
  | .lst ds => ds.length = n ∧ g ds δ M Q
  | .ref p => ∃ ds, M p = some (.lst ds) ∧ ds.length = n ∧ g ds δ M Q
  | _ => False
/-- several targets of either a tuple or a list -/
theorem pgCases {tg : Expr} {t : TG} (h : ∀ v σ H Q, t v σ H Q → ∃ t' : TG, PG X tg t' ∧ t' v σ H Q) : PG X tg t :=
  ⟨fun pins s σ H v u Q I r q => let ⟨_, o, q'⟩ := h v σ H Q q; o.run pins s σ H v u Q I r q'⟩
theorem t_tup {k : Nat} {g : DTGs} {n : Nat} (hc : X.calm = true) (h : DGs X es g) (hn : (assignEach es X.env).length = n := by rfl) (hst : (assignEach es X.env).findIdx? (·.1) = none := by rfl) : DG X (.Tuple es k pos) (hGtup n g) :=
  pgCases fun v σ H Q ⟨δ, F, W, M, d, Qd, ev, s, r, hq, k⟩ => by
    cases r with
    | tup hs rv => exact ⟨_, pg_tup hc h hn hst, _, _, rfl, hs.sq, by rw [rv.length]; exact hq.1, δ, F, W, M, _, Qd, ev, s, rv, hq.2, k⟩
    | lst hs rv => exact ⟨_, pg_lst hc h hn hst, _, _, rfl, hs.sq, by rw [rv.length]; exact hq.1, δ, F, W, M, _, Qd, ev, s, rv, hq.2, k⟩
    | ref p =>
      obtain ⟨ds, hm, h1, h2⟩ := hq
      obtain ⟨vs, hv, rv⟩ := s.list hm
      exact ⟨_, pg_lst hc h hn hst, _, _, rfl, SqL.of hv, by rw [rv.length]; exact h1, δ, F, W, M, _, Qd, ev, s, rv, h2, k⟩
    | _ => exact hq.elim
/-- p[i] = v on a list of the memory -/
def hSubT (fo fi : DTE) : DTG := fun d δ M Q => fo δ M fun o M1 => fi δ M1 fun i M2 => match o, i with
  | .ref p, .int k => ∃ xs j, M2 p = some (.lst xs) ∧ ixN xs.length k = some j ∧ Q δ (mput M2 p (.lst (xs.set j d)))
  | _, _ => False
theorem t_sub {o i : Expr} {fo fi : DTE} (ho : DE X o fo) (hi : DE X i fi)
    (ha : ∀ v, assign (.Subscript o i pos) X.env v = (do
      let ov ← holding [v] (eval o X.env)
      let iv ← holding [v, ov] (eval i X.env)
      standAt pos
      holding [v, ov, iv] (setItem ov iv v)
      release [v, ov, iv] []) := by intro _; rfl) : DG X (.Subscript o i pos) (hSubT fo fi) := pg_imp (pg_sub ho hi s_list ha) fun v σ H Q ⟨δ, F, W, M, d, Qd, ev, s, r, h, k⟩ =>
  ⟨δ, F, W, M, _, ev, s, h, fun v1 H1 W1 d1 M1 g1 s1 r1 q1 => ⟨δ, F, W1, M1, _, ev.mono g1, s1, q1, fun v2 H2 W2 d2 M2 g2 s2 r2 q2 => by
    have r1' := r1.mono g2
    cases r1' <;> cases r2 <;> first | exact q2.elim | skip
    rename_i p j
    obtain ⟨xs, n, hm, hn, q⟩ := q2
    obtain ⟨vs, hv, rv⟩ := s2.list hm
    have g3 := grow_put (o := .lst (vs.set n v)) s2 hm
    exact ⟨vs, n, hv, by rw [rv.length]; exact hn, (k.mono ((g1.trans g2).trans g3)).now (s2.put hm (.lst (rv.set n (r.mono (g1.trans g2))))) (ev.mono ((g1.trans g2).trans g3)) q⟩⟩⟩
def hAsg (f : DTE) (g : DTG) : DTS := fun D δ M => f δ M fun d M1 => g d δ M1 D.nx
theorem z_asg {tg : Expr} {g : DTG} (he : DE X e f) (hg : DG X tg g) (hs : swapsWithSole [tg] e pos.line X.env = pure false := by rfl) (hw : swappedStores [tg] e X.env = pure none := by rfl)
    (h1 : (assignEach [tg] X.env).map (·.2) = [assign tg X.env] := by rfl) : DS X (.Assign [tg] e pos) (hAsg f g) := ps_imp (ps_asg he hg hs hw h1) fun D σ H ⟨δ, F, W, M, Dd, ev, s, h, k⟩ =>
  ⟨δ, F, W, M, _, ev, s, h, fun v H1 W1 d M1 g1 s1 r1 q1 => ⟨δ, F, W1, M1, d, _, ev.mono g1, s1, r1, q1, k.nx.mono g1⟩⟩
theorem z_set (i : Nat) {x : Str} {pos' : Pos} (hN : X.N.Nodup) (he : DE X e f) (hi : X.N[i]? = some x := by rfl) (hx : Loc X.env.scope x := by first | exact Or.inl rfl | exact Or.inr rfl) (hs : swapsWith e (some (.Name x pos')) pos.line X.env = pure false := by rfl)
    (hf : X.fn x = true ∨ X.env.scope.names.lookup x = some .local := by first | exact .inl rfl | exact .inr rfl) : DS X (.Assign [.Name x pos'] e pos) (hAsg f (hName i)) := ps_imp (set i hN he hi hx hs hf) fun D σ H ⟨δ, F, W, M, Dd, ev, s, h, k⟩ =>
  ⟨δ, F, W, M, _, ev, s, h, fun v H1 W1 d M1 g1 s1 r1 q1 => (k.nx.mono g1).now s1 ((ev.mono g1).set r1 i) q1⟩
/-- x, y = a, b -/
def hPar (i j : Nat) (fs : DTA) : DTS := fun D δ M => fs δ M fun ds M1 => match ds with
  | [d, e] => D.nx ((δ.set i (some d)).set j (some e)) M1
  | _ => False
theorem li_par {i j : Nat} {E : XK} {D : Ends} {σ : L2.St} {H : Hp} (h : LS X.K E (hPar i j fs) D σ H) : tPar i j (Li (rA X.K) X.K fs) D σ H := by
  obtain ⟨δ, F, W, M, Dd, ev, s, h, k⟩ := h
  refine ⟨δ, F, W, M, _, ev, s, h, fun v H1 W1 d M1 g1 s1 r1 q1 => ?_⟩
  split at q1
  · obtain ⟨x, y, rfl, rx, ry⟩ := r1.two
    exact ⟨x, y, rfl, (k.nx.mono g1).now s1 (((ev.mono g1).set rx i).set ry j) q1⟩
  · exact q1.elim
/-- x op= e -/
def hAug (i : Nat) (f : DTE) (g : D2) : DTS := fun D δ M => match δ[i]? with
  | some (some x) => f δ M fun y M1 => g x y M1 fun z M2 => D.nx (δ.set i (some z)) M2
  | _ => False
theorem z_aug {i : Nat} {x : Str} {op : Operator} {g : D2} {pos' : Pos} (hN : X.N.Nodup) (hi : X.N[i]? = some x) (hx : Loc X.env.scope x) (he : DE X e f) (ho : PIp X op (L2o X.K g)) (hf : X.fn x = true ∨ X.env.scope.names.lookup x = some .local := by first | exact .inl rfl | exact .inr rfl | assumption) :
    DS X (.AugAssign (.Name x pos') op e pos) (hAug i f g) := ps_imp (ps_aug hN hi hx he ho hf) fun D σ H ⟨δ, F, W, M, Dd, ev, s, h, k⟩ => by
  unfold hAug at h
  split at h
  · rename_i d q
    obtain ⟨v, hv, r⟩ := ev.get q
    exact ⟨v, hv, δ, F, W, M, _, ev, s, h, fun y H1 W1 e1 M1 g1 s1 r1 q1 => ⟨F, W1, M1, d, e1, _, r.mono g1, r1, s1, q1, fun z H2 W2 e2 M2 g2 s2 r2 q2 => (k.nx.mono (g1.trans g2)).now s2 ((ev.mono (g1.trans g2)).set r2 i) q2⟩⟩
  · exact h.elim
theorem ipImp {op : Operator} {t t' : TIp} (h : PIp X op t) (f : ∀ x y H Q, t' x y H Q → t x y H Q) : PIp X op t' := fun pins s σ H x y v u Q I r1 r2 q => h pins s σ H x y v u Q I r1 r2 (f x y H Q q)
def hIadd : D2 := fun x y M Q => match x, y with
  | .int i, .int j => Q (.int (i + j)) M
  | _, _ => False
theorem i_add : PIp X .Add (L2o X.K hIadd) := ipImp ip_add fun x y H Q ⟨F, W, M, d, e, Qd, r1, r2, s, h, k⟩ => by
  cases r1 <;> cases r2 <;> first | exact h.elim | exact ⟨_, _, rfl, rfl, k.now s (.int _) h⟩
end
end U
set_option Elab.async false
set_option linter.all false
set_option maxRecDepth 100000
set_option maxHeartbeats 2000000
namespace U
open PySem PySem.Spec PyProof.Rows L2
abbrev NoF : Addr → Prop := fun _ => False
theorem Grow.noF {F W W' : Addr → Prop} {H H' : Hp} (g : Grow F W H W' H') : Grow NoF W H W' H' := ⟨g.w, g.h, fun _ z => z.elim⟩
/-- the iterator yields these -/
def ItR (K : PySem.W.Frag) (W : Addr → Prop) (H : Hp) (J : It) (ds : List Da) : Prop :=
  ∀ F' W' H' M', Grow NoF W H W' H' → Stt K F' W' M' H' →
    (∀ i d, ds[i]? = some d → J.go i H' ∧ ∀ x H'', J.yld i H' x H'' → ∃ W'', Grow F' W' H' W'' H'' ∧ Stt K F' W'' M' H'' ∧ RD K W'' H'' x d) ∧ ∀ i, ds.length ≤ i → J.stop i H'
theorem ItR.mono {K : PySem.W.Frag} {F W W1 : Addr → Prop} {H H1 : Hp} {J : It} {ds : List Da} (g : Grow F W H W1 H1) (h : ItR K W H J ds) : ItR K W1 H1 J ds :=
  fun F' W' H' M' g' s => h F' W' H' M' (g.noF.trans g') s
theorem it_list {K : PySem.W.Frag} {W : Addr → Prop} {H : Hp} {a : Addr} {vs : List V} {ds : List Da} (hs : Sl K W H a vs) (rv : RDs K W H vs ds) : ItR K W H (Itl K a) ds := fun F' W' H' M' g s => by
  have q := (hs.mono g).sq
  have rv' := rv.mono g
  refine ⟨fun i d hd => ?_, fun i hi => ⟨vs, q, by rw [rv'.length]; exact hi⟩⟩
  obtain ⟨v, hv, r⟩ := rv'.get hd
  refine ⟨⟨vs, v, q, hv⟩, fun x H'' y => ?_⟩
  obtain ⟨rfl, y⟩ := y
  have e := y vs q
  rw [hv] at e
  cases e
  exact ⟨W', .refl, s, r⟩
theorem it_tup {K : PySem.W.Frag} {W : Addr → Prop} {H : Hp} {a : Addr} {vs : List V} {ds : List Da} (hs : Sp' K W H a vs) (rv : RDs K W H vs ds) : ItR K W H (Itt K a) ds := fun F' W' H' M' g s => by
  have q := (hs.mono g).sq
  have rv' := rv.mono g
  refine ⟨fun i d hd => ?_, fun i hi => ⟨vs, q, by rw [rv'.length]; exact hi⟩⟩
  obtain ⟨v, hv, r⟩ := rv'.get hd
  refine ⟨⟨vs, v, q, hv⟩, fun x H'' y => ?_⟩
  obtain ⟨rfl, y⟩ := y
  have e := y vs q
  rw [hv] at e
  cases e
  exact ⟨W', .refl, s, r⟩
/-- lo, lo + 1, .. -/
def rngD (lo : Int) (n : Nat) : List Da := (List.range n).map fun i => Da.int (lo + (i : Nat))
theorem it_rng {K : PySem.W.Frag} {W : Addr → Prop} {H : Hp} (lo : Int) (n : Nat) : ItR K W H (Itr lo n) (rngD lo n) := fun F' W' H' M' g s => by
  have hl : (rngD lo n).length = n := by unfold rngD; rw [List.length_map, List.length_range]
  refine ⟨fun i d hd => ?_, fun i hi => by rw [hl] at hi; exact hi⟩
  have hi : i < n := by have := (List.getElem?_eq_some_iff.mp hd).1; rw [hl] at this; exact this
  refine ⟨hi, fun x H'' y => ?_⟩
  obtain ⟨rfl, rfl⟩ := y
  unfold rngD at hd
  rw [List.getElem?_map, List.getElem?_range hi] at hd
  cases hd
  exact ⟨W', .refl, s, .int _⟩
def chrD (x : Str) : List Da := x.cps.toList.map fun c => Da.str ⟨#[c]⟩
theorem it_str {K : PySem.W.Frag} {W : Addr → Prop} {H : Hp} (x : Str) : ItR K W H (Its x) (chrD x) := fun F' W' H' M' g s => by
  have hl : (chrD x).length = x.cps.size := by unfold chrD; rw [List.length_map]; exact Array.length_toList
  refine ⟨fun i d hd => ?_, fun i hi => by rw [hl] at hi; exact hi⟩
  have hi : i < x.cps.size := by have := (List.getElem?_eq_some_iff.mp hd).1; rw [hl] at this; exact this
  refine ⟨hi, fun y H'' z => ?_⟩
  obtain ⟨rfl, c, hc, rfl⟩ := z
  unfold chrD at hd
  rw [List.getElem?_map, Array.getElem?_toList, hc] at hd
  cases hd
  exact ⟨W', .refl, s, .str _⟩
/-- pairs of a number and an item -/
def enumD (n : Nat) : List Da → List Da
  | [] => []
  | d :: ds => .tup [.int (n : Int), d] :: enumD (n + 1) ds
theorem enumD_get : ∀ {ds : List Da} {n i : Nat} {e : Da}, (enumD n ds)[i]? = some e → ∃ d, ds[i]? = some d ∧ e = .tup [.int ((n + i : Nat) : Int), d]
  | [], _, _, _, h => by simp [enumD] at h
  | d :: ds, n, 0, e, h => by
    simp [enumD] at h
    exact ⟨d, rfl, h.symm⟩
  | d :: ds, n, i + 1, e, h => by
    have h' : (enumD (n + 1) ds)[i]? = some e := by simpa [enumD] using h
    obtain ⟨x, hx, rfl⟩ := enumD_get h'
    exact ⟨x, by simpa using hx, by rw [show n + 1 + i = n + (i + 1) by omega]⟩
theorem enumD_length : ∀ (ds : List Da) (n : Nat), (enumD n ds).length = ds.length
  | [], _ => rfl
  | d :: ds, n => by rw [enumD, List.length_cons, List.length_cons, enumD_length ds]
def zipD : List Da → List Da → List Da
  | d :: ds, e :: es => .tup [d, e] :: zipD ds es
  | _, _ => []
theorem zipD_get : ∀ {ds es : List Da} {i : Nat} {x : Da}, (zipD ds es)[i]? = some x → ∃ d e, ds[i]? = some d ∧ es[i]? = some e ∧ x = .tup [d, e]
  | [], _, _, _, h => by simp [zipD] at h
  | _ :: _, [], _, _, h => by simp [zipD] at h
  | d :: ds, e :: es, 0, x, h => by
    simp [zipD] at h
    exact ⟨d, e, rfl, rfl, h.symm⟩
  | d :: ds, e :: es, i + 1, x, h => by
    obtain ⟨y, z, h1, h2, h3⟩ := zipD_get (ds := ds) (es := es) (i := i) (by simpa [zipD] using h)
    exact ⟨y, z, by simpa using h1, by simpa using h2, h3⟩
theorem zipD_length : ∀ (ds es : List Da), (zipD ds es).length = min ds.length es.length
  | [], es => by simp [zipD]
  | _ :: _, [] => by simp [zipD]
  | d :: ds, e :: es => by rw [zipD, List.length_cons, List.length_cons, List.length_cons, zipD_length ds es]; omega
abbrev DTI := DR (List Da)
def LI (K : PySem.W.Frag) (f : DTI) : TI := fun σ H R => ∃ δ F W M Qd, EnvR K W H δ σ ∧ Stt K F W M H ∧ f δ M Qd ∧ ∀ J H' W' M' ds, Grow F W H W' H' → Stt K F W' M' H' → ItR K W' H' J ds → Qd ds M' → R J H'
def DI (X : Cx) (tg iter : Expr) (f : DTI) : Prop := PI X tg iter (LI X.K f)
theorem pi_imp {X : Cx} {tg e : Expr} {t t' : TI} (h : PI X tg e t) (f : ∀ σ H R, t' σ H R → t σ H R) : PI X tg e t' := ⟨fun pins s σ H R I q => h.run pins s σ H R I (f σ H R q)⟩
section
variable {X : Cx} {tg a b c e : Expr} {es : List Expr} {st : Stmt} {rest body : List Stmt} {fa fb fc f : DTE} {ft fu : DTT} {fs : DTA} {pos p : Pos} {t u : DTS} {di : DTI}
/-- any row, a text -/
def iAny (K : PySem.W.Frag) (tl : TE) : TI := fun σ H R => tl σ H fun x H1 => match x with
  | .str z => R (Its z) H1
  | .ref a => ((∃ xs, SqL K H1 a xs) ∧ R (Itl K a) H1) ∨ ((∃ xs, SqT K H1 a xs) ∧ R (Itt K a) H1)
  | _ => False
theorem pi_any {l : Expr} {tl : TE} (hl : PE X l tl) : PI X tg l (iAny X.K tl) := by
  refine ⟨fun pins s σ H R I h => ?_⟩
  refine thn (hl.run pins s σ H _ I h) fun v s1 ⟨x, H1, I1, r1, q1⟩ => ?_
  cases x <;> first | exact q1.elim | skip
  · rename_i z
    obtain ⟨t, rfl⟩ := r1
    cases ha : z.cps.all (· < 128)
    · exact wpAny_pyIter_wide ha (pi_one (tk := s1.toks) I1 _ (turn_str _ z t "str_iterator" (.inr rfl)) ⟨_, Heap.get?_push_size _ rfl, rfl, rfl⟩ q1)
    · exact wpAny_pyIter_ascii ha (pi_one (tk := s1.toks) I1 _ (turn_str _ z t "str_ascii_iterator" (.inl rfl)) ⟨_, Heap.get?_push_size _ rfl, rfl, rfl⟩ q1)
  · rename_i a
    cases r1
    rcases q1 with ⟨⟨xs, hq⟩, q⟩ | ⟨⟨xs, hq⟩, q⟩
    · obtain ⟨its, rv, p, hz⟩ := I1.list hq
      refine wpAny_pyIter_list p.isList ?_
      refine ⟨s1.heap.objs.size, [s1.heap.objs.size], _, _, H1, rfl, I1.kept (t' := s1.toks) fun b o e => Heap.get?_push_of_some _ e, turn_list a _, ⟨_, Heap.get?_push_size _ rfl, rfl, rfl⟩, fun b hb => ?_, q⟩
      have e : b = s1.heap.objs.size := by simpa using hb
      subst e
      exact I1.fpOk (Nat.le_refl _) (I1.hok.fresh (Nat.le_refl _))
    · obtain ⟨its, rv, p, hz⟩ := I1.tuple hq
      refine wpAny_pyIter_tuple (show s1.heap.IsTuple a its.toArray from p) ?_
      refine ⟨s1.heap.objs.size, [s1.heap.objs.size], _, _, H1, rfl, I1.kept (t' := s1.toks) fun b o e => Heap.get?_push_of_some _ e, turn_tuple a _, ⟨_, Heap.get?_push_size _ rfl, rfl, rfl⟩, fun b hb => ?_, q⟩
      have e : b = s1.heap.objs.size := by simpa using hb
      subst e
      exact I1.fpOk (Nat.le_refl _) (I1.hok.fresh (Nat.le_refl _))
def gIt (f : DTE) : DTI := fun δ M Q => f δ M fun x M1 => match x with
  | .lst ds => Q ds M1
  | .tup ds => Q ds M1
  | .str z => Q (chrD z) M1
  | .ref p => ∃ ds, M1 p = some (.lst ds) ∧ Q ds (mdel M1 p)
  | _ => False
theorem d_it (h : DE X e f) : DI X tg e (gIt f) := pi_imp (pi_any h) fun σ H R ⟨δ, F, W, M, Qd, ev, s, h, k⟩ => ⟨δ, F, W, M, _, ev, s, h, fun v H1 W1 d M1 g1 s1 r1 q1 => by
  cases r1 with
  | lst hs rv => exact .inl ⟨⟨_, hs.sq⟩, k _ _ W1 M1 _ g1 s1 (it_list hs rv) q1⟩
  | tup hs rv => exact .inr ⟨⟨_, hs.sq⟩, k _ _ W1 M1 _ g1 s1 (it_tup hs rv) q1⟩
  | str z => exact k _ _ W1 M1 _ g1 s1 (it_str z) q1
  | ref p =>
    obtain ⟨ds, hm, q⟩ := q1
    obtain ⟨s2, g2⟩ := s1.settle hm
    obtain ⟨vs, hv, rv⟩ := s1.list hm
    exact .inl ⟨⟨_, SqL.of hv⟩, k _ _ _ _ _ (g1.trans g2) s2 (it_list (.inl ⟨.inl rfl, .inl hv⟩) (rv.mono g2)) q⟩
  | _ => exact q1.elim⟩
/-- a range -/
def Rok (i : Int) : Prop := -(2 ^ 62) ≤ i ∧ i < 2 ^ 62
def gRg1 (fs : DTA) : DTI := fun δ M Q => fs δ M fun ds M1 => match ds with
  | [.int j] => Rok j ∧ Q (rngD 0 j.toNat) M1
  | _ => False
theorem d_rg1 (hm : X.mg "range" = none) (ha : DA X [a] fs) (hg : Gl X "range" := by rfl) (hs : starEach [a] X.env = [(false, eval a X.env)] := by rfl) : DI X tg (.Call (.Name "range" p) [a] [] pos) (gRg1 fs) :=
  pi_imp (pi_range1 hg hm ha hs) fun σ H R ⟨δ, F, W, M, Qd, ev, s, h, k⟩ => ⟨δ, F, W, M, _, ev, s, h, fun vs H1 W1 ds M1 g1 s1 r1 q1 => by
    split at q1
    · obtain ⟨v, rfl, r⟩ := r1.one
      cases r
      exact ⟨_, rfl, q1.1.1, q1.1.2, k _ _ W1 M1 _ g1 s1 (it_rng _ _) q1.2⟩
    · exact q1.elim⟩
def forD (g : DTG) (tb : DTS) (D : DEnds) : List Da → De → Mm → Prop
  | [], δ, M => D.nx δ M
  | d :: ds, δ, M => g d δ M fun δ2 M2 => tb { D with nx := forD g tb D ds, ct := forD g tb D ds, bk := D.nx } δ2 M2
def hFor (di : DTI) (g : DTG) (tb : DTS) : DTS := fun D δ M => di δ M fun ds M1 => forD g tb D ds δ M1
theorem z_for {g : DTG} {tb : DTS} (hp : PassesOwn (model X.prog X.w) X.A X.env X.xe) (hc : X.calm = true) (hi : DI X tg e di) (hg : DG X tg g) (hb : DB X body tb)
    (hs : ∀ x, foldedSetIterable e X.env x = pure x := by intro _; rfl) : DS X (.For tg e body [] pos) (hFor di g tb) := ps_imp (ps_for hp hc hi hg hb hs) fun D σ H ⟨δ, F, W, M, Dd, ev, s, h, k⟩ => by
  refine ⟨δ, F, W, M, _, ev, s, h, fun J H1 W1 M1 ds g1 s1 ij q => ?_⟩
  let Pv : Nat → L2.St → Hp → Prop := fun i σ H => ∃ δ W2 M2, Grow F W1 H1 W2 H ∧ Stt X.K F W2 M2 H ∧ EnvR X.K W2 H δ σ ∧ forD g tb Dd (ds.drop i) δ M2
  refine ⟨fun i m σ H => m = ds.length - i ∧ i ≤ ds.length ∧ Pv i σ H, ⟨ds.length, by simp, Nat.zero_le _, δ, W1, M1, .refl, s1, ev.mono g1, q⟩, ?_⟩
  rintro i m σ2 H2 ⟨rfl, hi, δ2, W2, M2, g2, s2, ev2, q2⟩
  obtain ⟨go, stop⟩ := ij F W2 H2 M2 g2.noF s2
  by_cases hlt : i < ds.length
  · have hd : ds[i]? = some ds[i] := List.getElem?_eq_getElem hlt
    obtain ⟨go1, go2⟩ := go i _ hd
    refine .inr ⟨go1, Pv (i + 1), fun σ' H' p' => ⟨ds.length - (i + 1), by omega, rfl, hlt, p'⟩, fun x H3 y => ?_⟩
    obtain ⟨W3, g3, s3, r3⟩ := go2 x H3 y
    rw [List.drop_eq_getElem_cons hlt] at q2
    refine ⟨δ2, F, W3, M2, _, _, ev2.mono g3, s3, r3, q2, fun σ4 H4 W4 δ4 M4 g4 s4 e4 q4 => ?_⟩
    have gg := g2.trans (g3.trans g4)
    have nx : KE X.K F W4 H4 (forD g tb Dd (ds.drop (i + 1))) (Pv (i + 1)) := fun σ5 H5 W5 δ5 M5 g5 s5 e5 q5 => ⟨δ5, W5, M5, gg.trans g5, s5, e5, q5⟩
    exact ⟨δ4, F, W4, M4, _, e4, s4, q4, nx, (k.mono (g1.trans gg)).rt, (k.mono (g1.trans gg)).nx, nx, (k.mono (g1.trans gg)).ex⟩
  · have e : i = ds.length := by omega
    subst e
    rw [List.drop_length] at q2
    exact .inl ⟨stop _ (Nat.le_refl _), (k.nx.mono (g1.trans g2)).now s2 ev2 q2⟩
def whD (c : DTT) (tb : DTS) (D : DEnds) : Nat → De → Mm → Prop
  | 0, _, _ => False
  | n + 1, δ, M => c δ M fun b M1 => if b = true then tb { D with nx := whD c tb D n, ct := whD c tb D n, bk := D.nx } δ M1 else D.nx δ M1
def hWhile (c : DTT) (tb : DTS) : DTS := fun D δ M => ∃ n, whD c tb D n δ M
theorem z_while {tb : DTS} (hp : PassesOwn (model X.prog X.w) X.A X.env X.xe) (hc : DT X c ft) (hb : DB X body tb) : DS X (.While c body [] pos) (hWhile ft tb) := ps_imp (ps_while hp hc hb) fun D σ H ⟨δ, F, W, M, Dd, ev, s, ⟨n, h⟩, k⟩ => by
  let Pv : Nat → L2.St → Hp → Prop := fun i σ H1 => ∃ δ W2 M2, Grow F W H W2 H1 ∧ Stt X.K F W2 M2 H1 ∧ EnvR X.K W2 H1 δ σ ∧ whD ft tb Dd i δ M2
  refine ⟨Pv, ⟨n, δ, W, M, .refl, s, ev, h⟩, ?_⟩
  rintro m σ2 H2 ⟨δ2, W2, M2, g2, s2, ev2, q2⟩
  cases m with
  | zero => exact q2.elim
  | succ m =>
    refine ⟨δ2, F, W2, M2, _, ev2, s2, q2, fun b H3 W3 d M3 g3 s3 r3 q3 => ?_⟩
    cases r3
    have gg := g2.trans g3
    cases b with
    | true =>
      have nx : KE X.K F W3 H3 (whD ft tb Dd m) (Pv m) := fun σ5 H5 W5 δ5 M5 g5 s5 e5 q5 => ⟨δ5, W5, M5, gg.trans g5, s5, e5, q5⟩
      exact ⟨Pv m, fun σ' H' p => ⟨m, Nat.lt_succ_self _, p⟩, δ2, F, W3, M3, _, ev2.mono g3, s3, q3, nx, (k.mono gg).rt, (k.mono gg).nx, nx, (k.mono gg).ex⟩
    | false => exact (k.nx.mono gg).now s3 (ev2.mono g3) q3
end
end U
set_option Elab.async false
set_option linter.all false
set_option maxRecDepth 100000
set_option maxHeartbeats 2000000
namespace U
open PySem PySem.Spec PyProof.Rows L2
/-- a comprehension's target: a name, a tuple of names -/
inductive CT where
  | n (i : Nat) | t (is : List Nat)
def CT.slots : CT → List Nat
  | .n i => [i]
  | .t is => is
def setsV : List Nat → TGs
  | [] => L2.gNil
  | i :: is => L2.gCons (L2.gName i) (setsV is)
def CT.tg (K : PySem.W.Frag) : CT → TG
  | .n i => gName i
  | .t is => L2.gTup K is.length (setsV is)
/-- the slots set -/
def setsD : List Nat → List Da → De → De
  | i :: is, d :: ds, δ => setsD is ds (δ.set i (some d))
  | _, _, δ => δ
def CT.ok : CT → Da → Prop
  | .n _, _ => True
  | .t is, .tup ds => ds.length = is.length
  | .t _, _ => False
def CT.set : CT → Da → De → De
  | .n i, d, δ => δ.set i (some d)
  | .t is, .tup ds, δ => setsD is ds δ
  | .t _, _, δ => δ
def wipeD (δ : De) : List Nat → De
  | [] => δ
  | v :: vs => (wipeD δ vs).set v none
theorem EnvR.wipe {K : PySem.W.Frag} {W : Addr → Prop} {H : Hp} {δ : De} {σ : L2.St} (e : EnvR K W H δ σ) : ∀ vs : List Nat, EnvR K W H (wipeD δ vs) (wipe σ vs)
  | [] => e
  | v :: vs => (EnvR.wipe e vs).del v
theorem wipe_set_in {x : Option V} {i : Nat} : ∀ {vs : List Nat} {σ : L2.St}, i ∈ vs → wipe (σ.set i x) vs = wipe σ vs
  | [], _, h => by simp at h
  | v :: vs, σ, h => by
    show (wipe (σ.set i x) vs).set v none = (wipe σ vs).set v none
    by_cases hm : i ∈ vs
    · rw [wipe_set_in hm]
    · have e : i = v := by
        rcases List.mem_cons.mp h with e | e
        · exact e
        · exact absurd e hm
      subst e
      have : ∀ (ws : List Nat) (σ : L2.St), i ∉ ws → wipe (σ.set i x) ws = (wipe σ ws).set i x := by
        intro ws
        induction ws with
        | nil => intro σ _; rfl
        | cons w ws ih =>
          intro σ hn
          have hn' : ¬ i = w ∧ i ∉ ws := by simpa using hn
          show (wipe (σ.set i x) ws).set w none = ((wipe σ ws).set w none).set i x
          rw [ih σ hn'.2, List.set_comm _ _ hn'.1]
      rw [this vs σ hm, List.set_set]
theorem wipe_wipe : ∀ (vs ws : List Nat) (σ : L2.St), (∀ v ∈ vs, v ∈ ws) → wipe (wipe σ vs) ws = wipe σ ws
  | [], _, _, _ => rfl
  | v :: vs, ws, σ, h => by
    show wipe ((wipe σ vs).set v none) ws = _
    rw [wipe_set_in (h v List.mem_cons_self), wipe_wipe vs ws σ fun u hu => h u (List.mem_cons_of_mem _ hu)]
section
variable {K : PySem.W.Frag} {W : Addr → Prop} {H : Hp}
theorem setsV_ok {ws : List Nat} : ∀ {is : List Nat} {vs : List V} {ds : List Da} {δ : De} {σ : L2.St} {Q : L2.St → Hp → Prop}, (∀ i ∈ is, i ∈ ws) → ds.length = is.length → RDs K W H vs ds → EnvR K W H δ σ →
    (∀ σ2, wipe σ2 ws = wipe σ ws → EnvR K W H (setsD is ds δ) σ2 → Q σ2 H) → setsV is vs σ H Q
  | [], vs, ds, δ, σ, Q, _, hl, rv, ev, q => by
    have : ds = [] := List.eq_nil_of_length_eq_zero hl
    subst this
    cases rv with
    | nil => exact ⟨rfl, q σ rfl ev⟩
  | i :: is, vs, ds, δ, σ, Q, hm, hl, rv, ev, q => by
    cases rv with
    | nil => simp at hl
    | cons r rr =>
      refine ⟨_, _, rfl, ?_⟩
      refine setsV_ok (fun j hj => hm j (List.mem_cons_of_mem _ hj)) (by simpa using hl) rr (ev.set r i) fun σ2 e1 e2 => q σ2 ?_ e2
      rw [e1, wipe_set_in (hm i List.mem_cons_self)]
theorem ct_ok {c : CT} {ws : List Nat} {v : V} {d : Da} {δ : De} {σ : L2.St} {Q : L2.St → Hp → Prop} (hm : ∀ i ∈ c.slots, i ∈ ws) (ho : c.ok d) (r : RD K W H v d) (ev : EnvR K W H δ σ)
    (q : ∀ σ2, wipe σ2 ws = wipe σ ws → EnvR K W H (c.set d δ) σ2 → Q σ2 H) : c.tg K v σ H Q := by
  cases c with
  | n i => exact q _ (wipe_set_in (hm i (by simp [CT.slots]))) (ev.set r i)
  | t is =>
    cases d with
    | tup ds =>
      cases r with
      | tup hs rv => exact ⟨_, _, rfl, hs.sq, by rw [rv.length]; exact ho, setsV_ok hm ho rv ev q⟩
    | _ => exact ho.elim
end
/-- [te for c in .. if tt] -/
def lcD (c : CT) (tt : DTT) (te : DTE) (δ : De) : List Da → (List Da → Mm → Prop) → Mm → Prop
  | [], k, M => k [] M
  | d :: ds, k, M => c.ok d ∧ tt (c.set d δ) M fun b M2 => if b = true then te (c.set d δ) M2 fun y M3 => lcD c tt te δ ds (fun ys M4 => k (y :: ys) M4) M3 else lcD c tt te δ ds k M2
def gYes : DTT := fun _ M Q => Q true M
def gLc (di : DTI) (c : CT) (tt : DTT) (te : DTE) (vs : List Nat) : DTE := fun δ M Q => di δ M fun ds M1 => Sz ds.length ∧ lcD c tt te (wipeD δ vs) ds (fun ys M2 => Q (.lst ys) M2) M1
def gLcM (di : DTI) (c : CT) (tt : DTT) (te : DTE) (vs : List Nat) : DTE := fun δ M Q => di δ M fun ds M1 => Sz ds.length ∧ lcD c tt te (wipeD δ vs) ds (fun ys M2 => ∀ p, M2 p = none → Q (.ref p) (mput M2 p (.lst ys))) M1
/-- with one more address of another's -/
def fadd (F : Addr → Prop) (p : Addr) : Addr → Prop := fun a => a = p ∨ F a
section
variable {K : PySem.W.Frag} {F W : Addr → Prop} {H : Hp} {M : Mm} {p : Addr}
theorem Stt.addF (s : Stt K F W M H) (h : H p = none) (o : HO) : Stt K (fadd F p) W M (upd H p o) := by
  have s2 := s.junk h o
  refine ⟨s2.wf, fun a w => ?_, s2.dis, s2.mem, s2.pl⟩
  rcases w with w | w
  · subst w; exact ⟨s.freeW h, s.freeM h, _, upd_same⟩
  · exact s2.fr a w
/-- another's thing is changed by its owner -/
theorem Stt.chgF (s : Stt K (fadd F p) W M H) (o : HO) : Stt K (fadd F p) W M (upd H p o) ∧ Grow NoF W H W (upd H p o) := by
  have hp := s.fr p (.inl rfl)
  have g : Grow NoF W H W (upd H p o) := ⟨fun _ h => h, fun a w => upd_ne (fun e => hp.1 (e ▸ w)), fun _ z => z.elim⟩
  refine ⟨⟨fun a w => ?_, fun a w => ⟨(s.fr a w).1, (s.fr a w).2.1, ?_⟩, s.dis, fun a u e => ?_, fun a u w e => by rw [g.h a w] at e; exact s.pl a u w e⟩, g⟩
  · rw [g.h a w]; exact s.wf a w
  · by_cases e : a = p
    · subst e; exact ⟨o, upd_same⟩
    · rw [upd_ne e]; exact (s.fr a w).2.2
  · have ne : a ≠ p := fun z => by subst z; rw [hp.2.1] at e; cases e
    obtain ⟨x, q, r⟩ := s.mem a u e
    exact ⟨x, by rw [upd_ne ne]; exact q, r.mono g⟩
/-- .. becomes settled, or a thing of the memory -/
theorem Stt.endW (s : Stt K (fadd F p) W M H) (hF : ¬ F p) (hn : ∀ o, H p = some o → NT o) : Stt K F (wadd W p) M H ∧ Grow F W H (wadd W p) H := by
  obtain ⟨h1, h2, o, h3⟩ := s.fr p (.inl rfl)
  have g : Grow F W H (wadd W p) H := ⟨fun _ h => .inr h, fun _ _ => rfl, fun _ _ => rfl⟩
  refine ⟨⟨fun a w => ?_, fun a w => ⟨?_, (s.fr a (.inr w)).2.1, (s.fr a (.inr w)).2.2⟩, fun a u e w => ?_, fun a u e => ?_, fun a u w e => w.elim (fun z => hn u (z ▸ e)) fun w => s.pl a u w e⟩, g⟩
  · rcases w with w | w
    · subst w; exact ⟨o, h3⟩
    · exact s.wf a w
  · rintro (e | e)
    · subst e; exact hF w
    · exact (s.fr a (.inr w)).1 e
  · rcases w with w | w
    · subst w; rw [h2] at e; cases e
    · exact s.dis a u e w
  · obtain ⟨x, q, r⟩ := s.mem a u e
    exact ⟨x, q, r.mono g⟩
theorem Stt.endM (s : Stt K (fadd F p) W M H) (hF : ¬ F p) {u : MO} {o : HO} (ho : H p = some o) (r : MR K W H u o) : Stt K F W (mput M p u) H := by
  obtain ⟨h1, h2, _⟩ := s.fr p (.inl rfl)
  refine ⟨s.wf, fun a w => ⟨(s.fr a (.inr w)).1, ?_, (s.fr a (.inr w)).2.2⟩, fun a v e w => ?_, fun a v e => ?_, s.pl⟩
  · rw [mput_ne (show a ≠ p from fun e => hF (e ▸ w))]; exact (s.fr a (.inr w)).2.1
  · by_cases q : a = p
    · subst q; exact h1 w
    · rw [mput_ne q] at e; exact s.dis a v e w
  · by_cases q : a = p
    · subst q; rw [mput_same] at e; cases e; exact ⟨o, ho, r⟩
    · rw [mput_ne q] at e; exact s.mem a v e
end
/-- a grown heap, but for one address that was free -/
theorem grow_drop {F W W' W2 : Addr → Prop} {H H1 H2 : Hp} {p : Addr} (g : Grow F W H W' H1) (g2 : Grow (fadd F p) W' H1 W2 H2) : Grow F W H W2 H2 := g.trans (g2.less fun a h => .inr h)
section
variable {X : Cx} {tg elt iter : Expr} {ifs : List Expr} {scope : Scope} {own : List (Str × Nat)} {pos spos py : Pos} {di : DTI} {c : CT} {tt : DTT} {te : DTE} {y : Str} {i : Nat}
theorem li_lc {K : PySem.W.Frag} {vs : List Nat} (hv : ∀ i ∈ c.slots, i ∈ vs) {σ : L2.St} {H : Hp} {Q : VK} (M2 : Bool) (h : Li (rE K) K (if M2 = true then gLcM di c tt te vs else gLc di c tt te vs) σ H Q) : tLc (LI K di) (c.tg K) (Li rT K tt) (Li (rE K) K te) vs σ H Q := by
  obtain ⟨δ, F, W, M, Qd, ev, s, h, k⟩ := h
  -- the wanted end, of the row
  have h' : di δ M fun ds M1 => Sz ds.length ∧ lcD c tt te (wipeD δ vs) ds (fun ys M2' => if M2 = true then ∀ p, M2' p = none → Qd (.ref p) (mput M2' p (.lst ys)) else Qd (.lst ys) M2') M1 := by
    cases M2 <;> exact h
  clear h
  refine ⟨δ, F, W, M, _, ev, s, h', fun J H1 W1 M1 ds g1 s1 ij ⟨hz, q⟩ D hD => ?_⟩
  have hFD : ¬ F D := s1.freeF hD
  let Kf : List Da → Mm → Prop := fun ys M2' => if M2 = true then ∀ p, M2' p = none → Qd (.ref p) (mput M2' p (.lst ys)) else Qd (.lst ys) M2'
  let Pv : Nat → Hp → Prop := fun i H2 => ∃ W2 Md ac acc, Grow F W1 H1 W2 H2 ∧ Stt K (fadd F D) W2 Md H2 ∧ H2 D = some (.lst ac) ∧ RDs K W2 H2 ac acc ∧ acc.length ≤ i ∧ lcD c tt te (wipeD δ vs) (ds.drop i) (fun ys M4 => Kf (acc ++ ys) M4) Md
  refine ⟨fun i m H2 => m = ds.length - i ∧ i ≤ ds.length ∧ Pv i H2, ⟨ds.length, by simp, Nat.zero_le _, W1, M1, [], [], grow_new s1 hD, s1.addF hD _, upd_same, .nil, Nat.le_refl _, q⟩, ?_⟩
  rintro i m H2 ⟨rfl, hi, W2, Md, ac, acc, g2, s2, hac, rac, hal, q2⟩
  obtain ⟨go, stop⟩ := ij (fadd F D) W2 H2 Md g2.noF s2
  by_cases hlt : i < ds.length
  · have hd : ds[i]? = some ds[i] := List.getElem?_eq_getElem hlt
    obtain ⟨go1, go2⟩ := go i _ hd
    refine .inr ⟨go1, Pv (i + 1), fun H' p' => ⟨ds.length - (i + 1), by omega, rfl, hlt, p'⟩, fun x H3 y => ?_⟩
    obtain ⟨W3, g3, s3, r3⟩ := go2 x H3 y
    rw [List.drop_eq_getElem_cons hlt] at q2
    obtain ⟨ok, q2⟩ := q2
    have e3 : EnvR K W3 H3 (wipeD δ vs) (wipe σ vs) := (ev.mono (grow_drop (g1.trans g2) g3)).wipe vs
    refine ct_ok hv ok r3 e3 fun σ2 hw ev2 => ⟨by rw [hw, wipe_wipe vs vs σ fun _ h => h], _, fadd F D, W3, Md, _, ev2, s3, q2, fun b H4 W4 b' M4 g4 s4 eb q4 => ?_⟩
    cases eb
    have gg := g3.trans g4
    cases b with
    | false =>
      refine ⟨W4, M4, ac, acc, grow_drop g2 gg, s4, ?_, rac.mono gg, Nat.le_succ_of_le hal, q4⟩
      rw [gg.f D (.inl rfl)]; exact hac
    | true =>
      refine ⟨_, fadd F D, W4, M4, _, ev2.mono g4, s4, q4, fun v H5 W5 d M5 g5 s5 r5 q5 => ⟨ac, ?_, ?_, ?_⟩⟩
      · rw [(gg.trans g5).f D (.inl rfl)]; exact hac
      · rw [rac.length]; have := hz.le; rw [sizeLine_eq]; omega
      · obtain ⟨s6, g6⟩ := s5.chgF (.lst (ac ++ [v]))
        have g7 : Grow F W2 H2 W5 H5 := (gg.trans g5).less fun a h => .inr h
        refine ⟨W5, M5, ac ++ [v], acc ++ [d], ?_, s6, upd_same, ((rac.mono (gg.trans g5)).append (.cons r5 .nil)).mono g6, by rw [List.length_append, List.length_singleton]; omega, ?_⟩
        · have g8 := g2.trans g7
          refine ⟨g8.w, fun a w => ?_, fun a w => ?_⟩
          · rw [upd_ne (s1.neW hD w)]; exact g8.h a w
          · rw [upd_ne (s1.neF hD w)]; exact g8.f a w
        · have e : (fun ys M4 => Kf (acc ++ [d] ++ ys) M4) = fun ys M4 => Kf (acc ++ d :: ys) M4 := by funext ys M4; rw [List.append_assoc]; rfl
          rw [e]; exact q5
  · have e : i = ds.length := by omega
    subst e
    rw [List.drop_length] at q2
    have q3 : Kf acc Md := by have : Kf (acc ++ []) Md := q2; rwa [List.append_nil] at this
    refine .inl ⟨stop _ (Nat.le_refl _), ?_⟩
    cases M2 with
    | true =>
      have q4 : ∀ p, Md p = none → Qd (.ref p) (mput Md p (.lst acc)) := q3
      exact (k.mono (g1.trans g2)).now (s2.endM hFD hac (.lst rac)) (.ref D) (q4 D (s2.fr D (.inl rfl)).2.1)
    | false =>
      obtain ⟨s3, g3⟩ := s2.endW hFD (by intro o e; rw [hac] at e; cases e; exact trivial)
      exact (k.mono ((g1.trans g2).trans g3)).now s3 (.lst (.inl ⟨.inl rfl, .inl hac⟩) (rac.mono g3)) q3
/-- the tests of a comprehension -/
def DTs (X : Cx) (ifs : List Expr) (f : DTT) : Prop := PTs X ifs (Li rT X.K f)
theorem d_ts0 : DTs X [] gYes := ⟨fun pins s σ H Q I ⟨δ, F, W, M, Qd, ev, st, h, k⟩ => pts_nil.run pins s σ H Q I (k.now st rfl h)⟩
theorem d_ts1 {e : Expr} (h : DT X e tt) : DTs X [e] tt := pts_one h
section
variable (hc : X.calm = true) (hN : X.N.Nodup) (hi : DI X tg iter di) (ok : BlkOk X.N X.env.scope scope own)
    (hg : ∀ (s : Shared) (H : Hp) (C : Addr) (cl : List (Str × Addr)) (fp : List Addr), PG (X.blk s H scope (compEnvC scope cl C X.env) fp) tg (c.tg X.K)) (ht : ∀ (s : Shared) (H : Hp) (C : Addr) (cl : List (Str × Addr)) (fp : List Addr), DTs (X.blk s H scope (compEnvC scope cl C X.env) fp) ifs tt)
    (he : ∀ (s : Shared) (H : Hp) (C : Addr) (cl : List (Str × Addr)) (fp : List Addr), DE (X.blk s H scope (compEnvC scope cl C X.env) fp) elt te)
include hc hN hi ok hg ht he in
theorem d_lc (hv : ∀ i ∈ c.slots, i ∈ own.map (·.2) := by decide) (hs : ∀ x, foldedSetIterable iter X.env x = pure x := by intro _; rfl) :
    DE X (.ListComp elt [⟨tg, iter, ifs, 0⟩] scope pos) (gLc di c tt te (own.map (·.2))) := imp (pe_lc (wi := LI X.K di) (g := c.tg X.K) (tt := Li rT X.K tt) (te := Li (rE X.K) X.K te) hc hN hi ok hg ht he hs) fun σ H Q h => li_lc hv false h
end
theorem li_set {K : PySem.W.Frag} {t : TE} {f : DTE} {E : XK} {D : Ends} {σ : L2.St} {H : Hp} (hf : ∀ σ H Q, Li (rE K) K f σ H Q → t σ H Q) (h : LS K E (hAsg f (hName i)) D σ H) : tAsg t (L2.gName i) D σ H := by
  obtain ⟨δ, F, W, M, Dd, ev, s, h, k⟩ := h
  exact hf _ _ _ ⟨δ, F, W, M, _, ev, s, h, fun v H1 W1 d M1 g1 s1 r1 q1 => (k.nx.mono g1).now s1 ((ev.mono g1).set r1 i) q1⟩
section
variable (hc : X.calm = true) (hN : X.N.Nodup) (hy : X.N[i]? = some y) (hyl : X.env.scope.names.lookup y = some .local) (hsw : swapsWith (.ListComp elt [⟨tg, iter, ifs, 0⟩] scope pos) (some (.Name y py)) spos.line X.env = pure true)
    (hi : DI X tg iter di) (ok : BlkOk X.N X.env.scope scope own)
    (hg : ∀ (s : Shared) (H : Hp) (C : Addr) (cl : List (Str × Addr)) (fp : List Addr), PG (X.blk s H scope (compEnvC scope cl C X.env) fp) tg (c.tg X.K)) (ht : ∀ (s : Shared) (H : Hp) (C : Addr) (cl : List (Str × Addr)) (fp : List Addr), DTs (X.blk s H scope (compEnvC scope cl C X.env) fp) ifs tt)
    (he : ∀ (s : Shared) (H : Hp) (C : Addr) (cl : List (Str × Addr)) (fp : List Addr), DE (X.blk s H scope (compEnvC scope cl C X.env) fp) elt te)
end
def Sq (n : Nat) : Prop := Nat.ble n 5000 = true
def Sr (n : Nat) : Prop := Nat.ble n 3000 = true
theorem sq {n : Nat} (h : n ≤ 5000) : Sq n := Nat.ble_eq.mpr h
theorem Sq.le {n : Nat} (h : Sq n) : n ≤ 5000 := Nat.ble_eq.mp h
theorem sr {n : Nat} (h : n ≤ 3000) : Sr n := Nat.ble_eq.mpr h
theorem Sr.le {n : Nat} (h : Sr n) : n ≤ 3000 := Nat.ble_eq.mp h
def lc2D (c : CT) (tt : DTT) (di1 : DTI) (c1 : CT) (tt1 : DTT) (te : DTE) (vs1 : List Nat) (δ : De) : List Da → (List Da → Mm → Prop) → Mm → Prop
  | [], k, M => k [] M
  | d :: ds, k, M => c.ok d ∧ tt (c.set d δ) M fun b M2 => if b = true then di1 (c.set d δ) M2 fun es M3 => Sr es.length ∧ lcD c1 tt1 te (wipeD (c.set d δ) vs1) es (fun ys M4 => lc2D c tt di1 c1 tt1 te vs1 δ ds (fun zs M5 => k (ys ++ zs) M5) M4) M3
      else lc2D c tt di1 c1 tt1 te vs1 δ ds k M2
def gLc2 (di : DTI) (c : CT) (tt : DTT) (di1 : DTI) (c1 : CT) (tt1 : DTT) (te : DTE) (vs vs1 : List Nat) : DTE := fun δ M Q => di δ M fun ds M1 => Sq ds.length ∧ lc2D c tt di1 c1 tt1 te vs1 (wipeD δ vs) ds (fun ys M2 => Q (.lst ys) M2) M1
theorem li_lc2 {K : PySem.W.Frag} {vs vs1 : List Nat} {c1 : CT} {tt1 : DTT} {di1 : DTI} (hv : ∀ i ∈ c.slots, i ∈ vs) (hv1 : ∀ i ∈ c1.slots, i ∈ vs1) {σ : L2.St} {H : Hp} {Q : VK} (h : Li (rE K) K (gLc2 di c tt di1 c1 tt1 te vs vs1) σ H Q) :
    tLc2 (LI K di) (c.tg K) (Li rT K tt) (LI K di1) (c1.tg K) (Li rT K tt1) (Li (rE K) K te) vs vs1 σ H Q := by
  obtain ⟨δ, F, W, M, Qd, ev, s, h, k⟩ := h
  refine ⟨δ, F, W, M, _, ev, s, h, fun J H1 W1 M1 ds g1 s1 ij ⟨hz, q⟩ D hD => ?_⟩
  have hFD : ¬ F D := s1.freeF hD
  let Kf : List Da → Mm → Prop := fun ys M2' => Qd (.lst ys) M2'
  let L2D := fun (ds : List Da) (k : List Da → Mm → Prop) => lc2D c tt di1 c1 tt1 te vs1 (wipeD δ vs) ds k
  let Pv : Nat → Hp → Prop := fun i H2 => ∃ W2 Md ac acc, Grow F W1 H1 W2 H2 ∧ Stt K (fadd F D) W2 Md H2 ∧ H2 D = some (.lst ac) ∧ RDs K W2 H2 ac acc ∧ acc.length ≤ i * 3000 ∧ L2D (ds.drop i) (fun ys M4 => Kf (acc ++ ys) M4) Md
  refine ⟨fun i m H2 => m = ds.length - i ∧ i ≤ ds.length ∧ Pv i H2, ⟨ds.length, by simp, Nat.zero_le _, W1, M1, [], [], grow_new s1 hD, s1.addF hD _, upd_same, .nil, Nat.zero_le _, q⟩, ?_⟩
  rintro i m H2 ⟨rfl, hi, W2, Md, ac, acc, g2, s2, hac, rac, hal, q2⟩
  obtain ⟨go, stop⟩ := ij (fadd F D) W2 H2 Md g2.noF s2
  by_cases hlt : i < ds.length
  · have hd : ds[i]? = some ds[i] := List.getElem?_eq_getElem hlt
    obtain ⟨go1, go2⟩ := go i _ hd
    refine .inr ⟨go1, Pv (i + 1), fun H' p' => ⟨ds.length - (i + 1), by omega, rfl, hlt, p'⟩, fun x H3 y => ?_⟩
    obtain ⟨W3, g3, s3, r3⟩ := go2 x H3 y
    rw [List.drop_eq_getElem_cons hlt] at q2
    obtain ⟨ok, q2⟩ := q2
    have e3 : EnvR K W3 H3 (wipeD δ vs) (wipe σ vs) := (ev.mono (grow_drop (g1.trans g2) g3)).wipe vs
    refine ct_ok hv ok r3 e3 fun σ2 hw ev2 => ⟨by rw [hw, wipe_wipe vs vs σ fun _ h => h], _, fadd F D, W3, Md, _, ev2, s3, q2, fun b H4 W4 b' M4 g4 s4 eb q4 => ?_⟩
    cases eb
    have gg := g3.trans g4
    cases b with
    | false =>
      refine ⟨W4, M4, ac, acc, grow_drop g2 gg, s4, ?_, rac.mono gg, by omega, q4⟩
      rw [gg.f D (.inl rfl)]; exact hac
    | true =>
      refine ⟨_, fadd F D, W4, M4, _, ev2.mono g4, s4, q4, fun J1 H5 W5 M5 es g5 s5 ij1 q5 => ?_⟩
      obtain ⟨hz1, q5⟩ := q5
      have g25 := gg.trans g5
      let Pw : Nat → Hp → Prop := fun j H6 => ∃ W6 Md ac acc, Grow F W1 H1 W6 H6 ∧ Grow NoF W5 H5 W6 H6 ∧ Stt K (fadd F D) W6 Md H6 ∧ H6 D = some (.lst ac) ∧ RDs K W6 H6 ac acc ∧ acc.length ≤ i * 3000 + j ∧
        lcD c1 tt1 te (wipeD (c.set ds[i] (wipeD δ vs)) vs1) (es.drop j) (fun ys M4 => L2D (ds.drop (i + 1)) (fun zs M5 => Kf (acc ++ (ys ++ zs)) M5) M4) Md
      refine ⟨fun j n H6 => n = es.length - j ∧ j ≤ es.length ∧ Pw j H6, ⟨es.length, by simp, Nat.zero_le _, W5, M5, ac, acc, grow_drop g2 g25, .refl, s5, by rw [g25.f D (.inl rfl)]; exact hac, rac.mono g25, by omega, q5⟩, ?_⟩
      rintro j n H6 ⟨rfl, hj, W6, Md6, ac6, acc6, g6, gn6, s6, hac6, rac6, hal6, q6⟩
      obtain ⟨go', stop'⟩ := ij1 (fadd F D) W6 H6 Md6 gn6 s6
      by_cases hlt1 : j < es.length
      · have hd1 : es[j]? = some es[j] := List.getElem?_eq_getElem hlt1
        obtain ⟨go3, go4⟩ := go' j _ hd1
        refine .inr ⟨go3, Pw (j + 1), fun H' p' => ⟨es.length - (j + 1), by omega, rfl, hlt1, p'⟩, fun x H7 y => ?_⟩
        obtain ⟨W7, g7, s7, r7⟩ := go4 x H7 y
        rw [List.drop_eq_getElem_cons hlt1] at q6
        obtain ⟨ok1, q6⟩ := q6
        have e7 : EnvR K W7 H7 (wipeD (c.set ds[i] (wipeD δ vs)) vs1) (wipe σ2 vs1) := (((ev2.mono (g4.trans g5)).mono gn6).mono g7).wipe vs1
        refine ct_ok hv1 ok1 r7 e7 fun σ3 hw3 ev3 => ⟨by rw [hw3, wipe_wipe vs1 vs1 σ2 fun _ h => h], _, fadd F D, W7, Md6, _, ev3, s7, q6, fun b H8 W8 b' M8 g8 s8 eb q8 => ?_⟩
        cases eb
        have g78 := g7.trans g8
        cases b with
        | false =>
          refine ⟨W8, M8, ac6, acc6, grow_drop g6 g78, gn6.trans g78.noF, s8, ?_, rac6.mono g78, by omega, q8⟩
          rw [g78.f D (.inl rfl)]; exact hac6
        | true =>
          refine ⟨_, fadd F D, W8, M8, _, ev3.mono g8, s8, q8, fun v H9 W9 d M9 g9 s9 r9 q9 => ⟨ac6, ?_, ?_, ?_⟩⟩
          · rw [(g78.trans g9).f D (.inl rfl)]; exact hac6
          · rw [rac6.length]; have := hz.le; have := hz1.le; rw [sizeLine_eq]; omega
          · obtain ⟨s10, g10⟩ := s9.chgF (.lst (ac6 ++ [v]))
            have g11 : Grow F W6 H6 W9 H9 := (g78.trans g9).less fun a h => .inr h
            refine ⟨W9, M9, ac6 ++ [v], acc6 ++ [d], ?_, (gn6.trans (g78.trans g9).noF).trans g10, s10, upd_same, ((rac6.mono (g78.trans g9)).append (.cons r9 .nil)).mono g10, by rw [List.length_append, List.length_singleton]; omega, ?_⟩
            · have g12 := g6.trans g11
              refine ⟨g12.w, fun a w => ?_, fun a w => ?_⟩
              · rw [upd_ne (s1.neW hD w)]; exact g12.h a w
              · rw [upd_ne (s1.neF hD w)]; exact g12.f a w
            · have e : (fun ys M4 => L2D (ds.drop (i + 1)) (fun zs M5 => Kf (acc6 ++ [d] ++ (ys ++ zs)) M5) M4) = fun ys M4 => L2D (ds.drop (i + 1)) (fun zs M5 => Kf (acc6 ++ (d :: ys ++ zs)) M5) M4 := by
                funext ys M4
                congr 1
                funext zs M5
                rw [List.append_assoc]; rfl
              rw [e]; exact q9
      · have e : j = es.length := by omega
        subst e
        rw [List.drop_length] at q6
        refine .inl ⟨stop' _ (Nat.le_refl _), W6, Md6, ac6, acc6, g6, s6, hac6, rac6, ?_, q6⟩
        have := hz1.le
        omega
  · have e : i = ds.length := by omega
    subst e
    rw [List.drop_length] at q2
    have q3 : Kf acc Md := by have : Kf (acc ++ []) Md := q2; rwa [List.append_nil] at this
    obtain ⟨s3, g3⟩ := s2.endW hFD (by intro o e; rw [hac] at e; cases e; exact trivial)
    exact .inl ⟨stop _ (Nat.le_refl _), (k.mono ((g1.trans g2).trans g3)).now s3 (.lst (.inl ⟨.inl rfl, .inl hac⟩) (rac.mono g3)) q3⟩
section
variable {tg1 iter1 : Expr} {ifs1 : List Expr} {vs1 : List Nat} {di1 : DTI} {c1 : CT} {tt1 : DTT} (hc : X.calm = true) (hN : X.N.Nodup) (hi : DI X tg iter di) (ok : BlkOk X.N X.env.scope scope own) (hvs : ∀ i ∈ vs1, i ∈ own.map (·.2))
    (hg : ∀ (s : Shared) (H : Hp) (C : Addr) (cl : List (Str × Addr)) (fp : List Addr), PG (X.blk s H scope (compEnvC scope cl C X.env) fp) tg (c.tg X.K)) (ht : ∀ (s : Shared) (H : Hp) (C : Addr) (cl : List (Str × Addr)) (fp : List Addr), DTs (X.blk s H scope (compEnvC scope cl C X.env) fp) ifs tt)
    (hi1 : ∀ (s : Shared) (H : Hp) (C : Addr) (cl : List (Str × Addr)) (fp : List Addr), DI (X.blk s H scope (compEnvC scope cl C X.env) fp) tg1 iter1 di1)
    (hg1 : ∀ (s : Shared) (H : Hp) (C : Addr) (cl : List (Str × Addr)) (fp : List Addr), PG (X.blk s H scope (compEnvC scope cl C X.env) fp) tg1 (c1.tg X.K)) (ht1 : ∀ (s : Shared) (H : Hp) (C : Addr) (cl : List (Str × Addr)) (fp : List Addr), DTs (X.blk s H scope (compEnvC scope cl C X.env) fp) ifs1 tt1)
    (he : ∀ (s : Shared) (H : Hp) (C : Addr) (cl : List (Str × Addr)) (fp : List Addr), DE (X.blk s H scope (compEnvC scope cl C X.env) fp) elt te)
include hc hN hi ok hvs hg ht hi1 hg1 ht1 he in
theorem d_lc2 (hv : ∀ i ∈ c.slots, i ∈ own.map (·.2) := by decide) (hv1 : ∀ i ∈ c1.slots, i ∈ vs1 := by decide) (hs : ∀ x, foldedSetIterable iter X.env x = pure x := by intro _; rfl) (hs1 : ∀ env x, foldedSetIterable iter1 env x = pure x := by intro _ _; rfl) :
    DE X (.ListComp elt [⟨tg, iter, ifs, 0⟩, ⟨tg1, iter1, ifs1, 0⟩] scope pos) (gLc2 di c tt di1 c1 tt1 te (own.map (·.2)) vs1) := imp (pe_lc2 (wi := LI X.K di) (g := c.tg X.K) (tt := Li rT X.K tt) (wi1 := LI X.K di1) (g1 := c1.tg X.K) (tt1 := Li rT X.K tt1) (te := Li (rE X.K) X.K te) hc hN hi ok hvs hg ht hi1 hg1 ht1 he hs hs1) fun σ H Q h => li_lc2 hv hv1 h
include hc hN hi ok hvs hg ht hi1 hg1 ht1 he in
theorem z_setLc2 (hy : X.N[i]? = some y) (hyl : X.env.scope.names.lookup y = some .local) (hsw : swapsWith (.ListComp elt [⟨tg, iter, ifs, 0⟩, ⟨tg1, iter1, ifs1, 0⟩] scope pos) (some (.Name y py)) spos.line X.env = pure true)
    (hv : ∀ i ∈ c.slots, i ∈ own.map (·.2) := by decide) (hv1 : ∀ i ∈ c1.slots, i ∈ vs1 := by decide) (hs : ∀ x, foldedSetIterable iter X.env x = pure x := by intro _; rfl) (hs1 : ∀ env x, foldedSetIterable iter1 env x = pure x := by intro _ _; rfl) :
    DS X (.Assign [.Name y py] (.ListComp elt [⟨tg, iter, ifs, 0⟩, ⟨tg1, iter1, ifs1, 0⟩] scope pos) spos) (hAsg (gLc2 di c tt di1 c1 tt1 te (own.map (·.2)) vs1) (hName i)) :=
  ps_imp (ps_setLc2 (wi := LI X.K di) (g := c.tg X.K) (tt := Li rT X.K tt) (wi1 := LI X.K di1) (g1 := c1.tg X.K) (tt1 := Li rT X.K tt1) (te := Li (rE X.K) X.K te) hc hN hy hyl hsw hi ok hvs hg ht hi1 hg1 ht1 he hs hs1) fun D σ H h => li_set (fun σ H Q h => li_lc2 hv hv1 h) h
end
end
end U
set_option Elab.async false
set_option linter.all false
set_option maxRecDepth 100000
set_option maxHeartbeats 2000000
namespace U
open PySem PySem.Spec PyProof.Rows L2
/-- a def's promise over data -/
abbrev DSp := List Da → Mm → DK → DX → Prop
def X0 : DX := fun _ _ _ => False
def LSp (K : PySem.W.Frag) (sp : DSp) : Sp := fun vs H Q E => ∃ F W M ds Qd Ed, RDs K W H vs ds ∧ Stt K F W M H ∧ sp ds M Qd Ed ∧ Kt (rE K) K F W H Qd Q ∧ KX K F W H Ed E
def startD (N : List Str) (ds : List Da) : De := ds.map some ++ List.replicate (N.length - ds.length) none
theorem env_start {K : PySem.W.Frag} {W : Addr → Prop} {H : Hp} (N : List Str) {vs : List V} {ds : List Da} (r : RDs K W H vs ds) : EnvR K W H (startD N ds) (start N vs) := by
  have h1 : ∀ (n : Nat), EnvR K W H (List.replicate n none) (List.replicate n none) := fun n => by
    induction n with
    | zero => exact .nil
    | succ n ih => exact .cons trivial ih
  have h2 : ∀ {vs : List V} {ds : List Da} (n : Nat), RDs K W H vs ds → EnvR K W H (ds.map some ++ List.replicate n none) (vs.map some ++ List.replicate n none) := by
    intro vs
    induction vs with
    | nil => intro ds n r; cases r; exact h1 n
    | cons v vs ih =>
      intro ds n r
      cases r with
      | cons h k => exact .cons ⟨v, rfl, h⟩ (ih n k)
  unfold startD L2.start
  rw [r.length]
  exact h2 _ r
/-- the body's ends -/
def bodyE (Q : DK) : DEnds := { nx := fun _ M => Q .non M, rt := Q }
theorem ls_body {K : PySem.W.Frag} {F W : Addr → Prop} {M : Mm} {H : Hp} {N : List Str} {vs : List V} {ds : List Da} {Qd : DK} {Q : VK} {E : XK} {t : DTS} (r : RDs K W H vs ds) (s : Stt K F W M H) (k : Kt (rE K) K F W H Qd Q) (h : t (bodyE Qd) (startD N ds) M) :
    LS K E t { nx := fun _ H' => Q .non H', rt := Q } (start N vs) H :=
  ⟨_, F, W, M, _, env_start N r, s, h, fun σ H' W' δ M' g s' e q => k _ _ _ _ _ g s' .non q, k, fun _ _ _ _ _ _ _ _ z => z.elim, fun _ _ _ _ _ _ _ _ z => z.elim, fun _ _ _ _ _ _ _ _ _ z => z.elim⟩
abbrev KnD (P : Program) (w : World) (K : PySem.W.Frag) (mg : Str → Option Value) (base : Heap) (x : Str) (k : Nat) (ps : List Str) (sp : DSp) : Prop := Known P w K mg base CX0 x k ps (LSp K sp)
abbrev KnMD (P : Program) (w : World) (K : PySem.W.Frag) (mg : Str → Option Value) (base : Heap) (C : Addr) (m : Str) (k : Nat) (ps : List Str) (sp : DSp) : Prop := KnownM P w K mg base CX0 C m k ps (LSp K sp)
theorem lsp_len {K : PySem.W.Frag} {sp : DSp} {n : Nat} (len : ∀ ds M Q E, sp ds M Q E → ds.length = n) : ∀ vs H Q E, LSp K sp vs H Q E → vs.length = n := fun vs H Q E ⟨F, W, M, ds, Qd, Ed, r, s, h, _⟩ => by rw [r.length]; exact len _ _ _ _ h
theorem KnD.of {P : Program} {w : World} {K : PySem.W.Frag} {mg : Str → Option Value} {base : Heap} {x : Str} {st : Stmt} {N ps : List Str} {k : Nat} {sp : DSp} (F : HasDef K x st) (M : MgOf K mg) (S : FnScope N ps (defScope st))
    (hb : ∀ (kV doc pm : Value) (an : Option Addr) (cdv ct : Value) (us : List Value), us.length = ps.length → bindArgs (PySem.W.fnOf x x (defArgs st) (defBody st) (defScope st) .none kV doc pm an cdv ct) ⟨us, []⟩ = pure (ps.zip us))
    (len : ∀ ds M Q E, sp ds M Q E → ds.length = ps.length)
    (hbody : ∀ (f : Addr) (cdv : Value) (A : Around) (outer : List Env) (s : Shared) (H : Hp) (E : XK), Room k (A.deeper (envOfC x (defScope st) s.heap.objs.size f cdv)) →
      ∃ t, DB (cxOf CX0 P w K mg base N x (defScope st) f cdv A outer s H E).nox (defBody st) t ∧ ∀ ds M Q Ed, sp ds M Q Ed → t (bodyE Q) (startD N ds) M) : KnD P w K mg base x (k + 1) ps sp :=
  Known.of F M S hb (lsp_len len) fun f cdv A outer s H vs Q E hr ⟨F, W, M, ds, Qd, Ed, r, st, h, kk, kx⟩ => by
    obtain ⟨t, d, q⟩ := hbody f cdv A outer s H E hr
    exact ⟨_, d, ls_body r st kk (q ds M Qd Ed h)⟩
theorem KnMD.of {P : Program} {w : World} {K : PySem.W.Frag} {mg : Str → Option Value} {base : Heap} {C : Addr} {m qual : Str} {st : Stmt} {N ps : List Str} {k : Nat} {sp : DSp} (F : HasMeth K C m qual st) (S : FnScope N ps (defScope st))
    (hb : ∀ (kV doc pm : Value) (an : Option Addr) (cdv ct : Value) (us : List Value), us.length = ps.length → bindArgs (PySem.W.fnOf m qual (defArgs st) (defBody st) (defScope st) .none kV doc pm an cdv ct) ⟨us, []⟩ = pure (ps.zip us))
    (len : ∀ ds M Q E, sp ds M Q E → ds.length = ps.length)
    (hbody : ∀ (f : Addr) (cdv : Value) (A : Around) (outer : List Env) (s : Shared) (H : Hp) (E : XK), Room k (A.deeper (envOfC qual (defScope st) s.heap.objs.size f cdv)) →
      ∃ t, DB (cxOf CX0 P w K mg base N qual (defScope st) f cdv A outer s H E).nox (defBody st) t ∧ ∀ ds M Q Ed, sp ds M Q Ed → t (bodyE Q) (startD N ds) M) : KnMD P w K mg base C m (k + 1) ps sp :=
  KnownM.of F S hb (lsp_len len) fun f cdv A outer s H vs Q E hr ⟨F, W, M, ds, Qd, Ed, r, st, h, kk, kx⟩ => by
    obtain ⟨t, d, q⟩ := hbody f cdv A outer s H E hr
    exact ⟨_, d, ls_body r st kk (q ds M Qd Ed h)⟩
section
variable {X : Cx} {k : Nat} {ps : List Str} {sp : DSp} {x m f : Str} {p pos apos : Pos} {a b e e1 e2 o : Expr} {es : List Expr} {fs : DTA} {C : Addr} {fa f1 f2 : DTE}
def gCall (sp : DSp) (fs : DTA) : DTE := fun δ M Q => fs δ M fun ds M1 => sp ds M1 Q X0
theorem d_call (D : KnD X.prog X.w X.K X.mg X.base x k ps sp) (hr : Room k X.A) (ha : DA X (e :: es) fs) (hg : Gl X x := by rfl) (hdb : (x == ("__debug__" : Str)) = false := by decide)
    (he : starEach (e :: es) X.env = (false, eval e X.env) :: starEach es X.env := by rfl) (hpl : (backTo pos (starEach es X.env)).any (·.1) = false := by rfl) : DE X (.Call (.Name x p) (e :: es) [] pos) (gCall sp fs) :=
  imp (U.call D hr ha hg hdb he hpl) fun σ H Q ⟨δ, F, W, M, Qd, ev, s, h, kk⟩ => ⟨δ, F, W, M, _, ev, s, h, fun vs H1 W1 ds M1 g1 s1 r1 q1 => ⟨F, W1, M1, ds, Qd, X0, r1, s1, q1, kk.mono g1, fun _ _ _ _ _ _ _ _ _ z => z.elim⟩⟩
/-- what an instance holds -/
def objK (C : Addr) (x : Da) (M : Mm) (k : List (Str × Da) → Prop) : Prop := match x with
  | .obj C' fs => C' = C ∧ k fs
  | .ref p => ∃ fs, M p = some (.ins C fs) ∧ k fs
  | _ => False
theorem obj_of {K : PySem.W.Frag} {F W : Addr → Prop} {M : Mm} {H : Hp} {v : V} {d : Da} (s : Stt K F W M H) (r : RD K W H v d) {k : List (Str × Da) → Prop} (h : objK C d M k) : ∃ a dx vs fs, v = .ref a ∧ H a = some (.ins C dx vs) ∧ RF K W H vs fs ∧ k fs := by
  cases r with
  | obj w hs rv =>
    obtain ⟨rfl, h⟩ := h
    exact ⟨_, _, _, _, rfl, hs, rv, h⟩
  | ref p =>
    obtain ⟨fs, hm, h⟩ := h
    obtain ⟨u, hu, mr⟩ := s.mem _ _ hm
    cases mr with
    | ins rv => exact ⟨_, _, _, _, rfl, hu, rv, h⟩
  | _ => exact h.elim
def gFld (C : Addr) (f : Str) (fa : DTE) : DTE := fun δ M Q => fa δ M fun x M1 => objK C x M1 fun fs => ∃ v, fs.lookup f = some v ∧ Q v M1
theorem d_fld (c : Cls X.K C) (n : NoAttr X.K C f) (he : DE X e fa) (hb : attributeBase e f X.env (eval e X.env) = eval e X.env := by rfl) : DE X (.Attribute e f pos) (gFld C f fa) :=
  imp (fld c n he hb) fun σ H Q ⟨δ, F, W, M, Qd, ev, s, h, kk⟩ => ⟨δ, F, W, M, _, ev, s, h, fun v H1 W1 d M1 g1 s1 r1 q1 => by
    obtain ⟨a, dx, vs, fs, rfl, ha, rv, z, hz, q⟩ := obj_of s1 r1 q1
    obtain ⟨u, hu, ru⟩ := rv.get hz
    exact ⟨dx, vs, u, ha, hu, (kk.mono g1).now s1 ru q⟩⟩
/-- o.f = e -/
def hSto (C : Addr) (f : Str) (fa fv : DTE) : DTS := fun D δ M => fv δ M fun y M1 => fa δ M1 fun x M2 => match x with
  | .ref p => ∃ fs, M2 p = some (.ins C fs) ∧ Nat.blt fs.length 1000 = true ∧ D.nx δ (mput M2 p (.ins C (putD f y fs)))
  | _ => False
theorem z_sto {value : Expr} {pos' : Pos} {fv : DTE} (c : Cls X.K C) (n : NoAttr X.K C f) (hv : DE X value fv) (ha : DE X o fa) (hs : swapsWith value (some (.Attribute o f pos')) pos.line X.env = pure false := by rfl) : DS X (.Assign [.Attribute o f pos'] value pos) (hSto C f fa fv) :=
  ps_imp (sto c n hv ha hs) fun D σ H ⟨δ, F, W, M, Dd, ev, s, h, kk⟩ => ⟨δ, F, W, M, _, ev, s, h, fun y H1 W1 d M1 g1 s1 r1 q1 => ⟨δ, F, W1, M1, _, ev.mono g1, s1, q1, fun x H2 W2 d2 M2 g2 s2 r2 q2 => by
    cases r2 <;> first | exact q2.elim | skip
    rename_i p
    obtain ⟨fs, hm, hl, q⟩ := q2
    obtain ⟨u, hu, mr⟩ := s2.mem _ _ hm
    cases mr with
    | @ins _ dx _ vs rv =>
      have g3 := grow_put (o := .ins C dx (putF f y vs)) s2 hm
      exact ⟨_, _, hu, by rw [rv.length]; exact Nat.blt_eq.mp hl, (kk.nx.mono ((g1.trans g2).trans g3)).now (s2.put hm (.ins (rv.put (r1.mono g2)))) (ev.mono ((g1.trans g2).trans g3)) q⟩⟩⟩
def gMeth (C : Addr) (m : Str) (sp : DSp) (fa : DTE) (fs : DTA) : DTE := fun δ M Q => fa δ M fun x M1 => objK C x M1 (fun gs => gs.lookup m = none) ∧ fs δ M1 fun ds M2 => sp (x :: ds) M2 Q X0
theorem li_meth {K : PySem.W.Frag} {σ : L2.St} {H : Hp} {Q : VK} (h : Li (rE K) K (gMeth C m sp fa fs) σ H Q) : fMeth C m (LSp K sp) E0 (Li (rE K) K fa) (Li (rA K) K fs) σ H Q := by
  obtain ⟨δ, F, W, M, Qd, ev, s, h, kk⟩ := h
  refine ⟨δ, F, W, M, _, ev, s, h, fun v H1 W1 d M1 g1 s1 r1 q1 => ?_⟩
  obtain ⟨a, dx, vs, gs, rfl, ha, rv, hn⟩ := obj_of s1 r1 q1.1
  exact ⟨dx, vs, ha, rv.none hn, δ, F, W1, M1, _, ev.mono g1, s1, q1.2, fun us H2 W2 ds M2 g2 s2 r2 q2 => ⟨F, W2, M2, _, Qd, X0, .cons (r1.mono g2) r2, s2, q2, kk.mono (g1.trans g2), fun _ _ _ _ _ _ _ _ _ z => z.elim⟩⟩
theorem d_meth {pl : Sem Bool} (D : KnMD X.prog X.w X.K X.mg X.base C m k ps sp) (c : Cls X.K C) (hr : Room k X.A) (he : DE X o fa) (ha : DA X (e :: es) fs)
    (hst : starEach (e :: es) X.env = (false, eval e X.env) :: starEach es X.env := by rfl) (hpl : (backTo pos (starEach es X.env)).any (·.1) = false := by rfl)
    (ht : eval (.Call (.Attribute o m apos) (e :: es) [] pos) X.env = (do
      let ov ← eval o X.env
      standAt apos.atName
      let (f, first) ← holding [ov] (getMethod ov m pl)
      callWith pos f first (backTo pos (starEach (e :: es) X.env)) (backToKw pos (keywordEach [] X.env))) := by rfl) :
    DE X (.Call (.Attribute o m apos) (e :: es) [] pos) (gMeth C m sp fa fs) := imp (U.meth D c hr he ha hst hpl ht) fun _ _ _ h => li_meth h
/-- o.m(e, *y), o.m(*y) -/
def gMethSB (C : Addr) (m : Str) (sp : DSp) (fa f1 f2 : DTE) : DTE := fun δ M Q => fa δ M fun x M1 => objK C x M1 (fun gs => gs.lookup m = none) ∧ f1 δ M1 fun y M2 => f2 δ M2 fun z M3 => itemsK z M3 fun ds => sp (x :: y :: ds) M3 Q X0
theorem Stt.lessF {K : PySem.W.Frag} {F F' W : Addr → Prop} {M : Mm} {H : Hp} (s : Stt K F' W M H) (h : ∀ a, F a → F' a) : Stt K F W M H := ⟨s.wf, fun a w => s.fr a (h a w), s.dis, s.mem, s.pl⟩
theorem d_methSB (D : KnMD X.prog X.w X.K X.mg X.base C m k ps sp) (c : Cls X.K C) (hr : Room k X.A) (he : DE X o fa) (h1 : DE X e1 f1) (h2 : DE X e2 f2) (hbase : attributeBase o m X.env (eval o X.env) = eval o X.env := by rfl)
    (hst : starEach [e1, .Starred e2 p] X.env = [(false, eval e1 X.env), (true, eval e2 X.env)] := by rfl) : DE X (.Call (.Attribute o m apos) [e1, .Starred e2 p] [] pos) (gMethSB C m sp fa f1 f2) :=
  imp (methSB D c hr he h1 h2 hbase hst) fun σ H Q ⟨δ, F, W, M, Qd, ev, s, h, kk⟩ => by
    refine ⟨δ, F, W, M, _, ev, s, h, fun v H1 W1 d M1 g1 s1 r1 q1 => ?_⟩
    obtain ⟨a, dx, vs, gs, rfl, ha, rv, hn⟩ := obj_of s1 r1 q1.1
    refine ⟨dx, vs, ha, rv.none hn, fun q g hq => ?_⟩
    have s1' := s1.addF hq (.met g a)
    have g1' : Grow F W1 H1 W1 (upd H1 q (.met g a)) := grow_new s1 hq
    refine ⟨δ, fadd F q, W1, M1, _, (ev.mono g1).mono g1', s1', q1.2, fun y H2 W2 dy M2 g2 s2 r2 q2 => ⟨δ, fadd F q, W2, M2, _, ((ev.mono g1).mono g1').mono g2, s2, q2, fun z H3 W3 dz M3 g3 s3 r3 q3 => ?_⟩⟩
    obtain ⟨b, ws, ds, rfl, hs, rws, q3⟩ := items_of s3 r3 q3
    have gf : Grow F W H W3 H3 := (g1.trans g1').trans ((g2.trans g3).less fun _ h => .inr h)
    exact ⟨ws, hs.symm, by rw [(g2.trans g3).f q (.inl rfl)]; exact upd_same, F, W3, M3, _, Qd, X0, .cons ((r1.mono g1').mono (g2.trans g3)) (.cons (r2.mono g3) rws), s3.lessF fun _ h => .inr h, q3, kk.mono gf, fun _ _ _ _ _ _ _ _ _ z => z.elim⟩
end
structure HasProp (K : PySem.W.Frag) (C : Addr) (m qual : Str) (st : Stmt) : Prop where
  ex : ∃ p g fd, Fun K m qual st g fd ∧ PropOf K C m p g
structure KnPD (P : Program) (w : World) (K : PySem.W.Frag) (mg : Str → Option Value) (base : Heap) (C : Addr) (m : Str) (k : Nat) (ps : List Str) (sp : DSp) : Prop where
  ex : ∃ p g fd, FnOk P w K mg base CX0 k g fd ps (LSp K sp) ∧ PropOf K C m p g ∧ Binds K fd ps []
theorem KnPD.of {P : Program} {w : World} {K : PySem.W.Frag} {mg : Str → Option Value} {base : Heap} {C : Addr} {m qual : Str} {st : Stmt} {N ps : List Str} {k : Nat} {sp : DSp} (F : HasProp K C m qual st) (S : FnScope N ps (defScope st))
    (hb : ∀ (kV doc pm : Value) (an : Option Addr) (cdv ct : Value) (us : List Value), us.length = ps.length → bindArgs (PySem.W.fnOf m qual (defArgs st) (defBody st) (defScope st) .none kV doc pm an cdv ct) ⟨us, []⟩ = pure (ps.zip us))
    (len : ∀ ds M Q E, sp ds M Q E → ds.length = ps.length)
    (hbody : ∀ (f : Addr) (cdv : Value) (A : Around) (outer : List Env) (s : Shared) (H : Hp) (E : XK), Room k (A.deeper (envOfC qual (defScope st) s.heap.objs.size f cdv)) →
      ∃ t, DB (cxOf CX0 P w K mg base N qual (defScope st) f cdv A outer s H E).nox (defBody st) t ∧ ∀ ds M Q Ed, sp ds M Q Ed → t (bodyE Q) (startD N ds) M) : KnPD P w K mg base C m (k + 1) ps sp := by
  obtain ⟨p, g, fd, F, pr⟩ := F.ex
  exact ⟨p, g, fd, F.ok S (lsp_len len) (fun cdv A outer s H vs Q E hr ⟨F, W, M, ds, Qd, Ed, r, st, h, kk, kx⟩ => by
    obtain ⟨t, d, q⟩ := hbody g cdv A outer s H E hr
    exact ⟨_, d, ls_body r st kk (q ds M Qd Ed h)⟩), pr, F.binds hb⟩
section
variable {X : Cx} {k : Nat} {ps : List Str} {sp : DSp} {x m f : Str} {p pos apos : Pos} {a b e e1 e2 o : Expr} {es : List Expr} {fs : DTA} {C : Addr} {fa f1 f2 : DTE}
/-- .. that changes no more once it is made -/
def gMakeS (C : Addr) (sp : DSp) (gV : List Da → List Da → List Da) (fs fk : DTA) : DTE := fun δ M Q => fs δ M fun ds M1 => fk δ M1 fun zs M2 => ∀ p, M2 p = none → sp (gV (.ref p :: ds) zs) (mput M2 p (.ins C [])) (fun v M3 => v = .non ∧ ∃ gs, M3 p = some (.ins C gs) ∧ Q (.obj C gs) (mdel M3 p)) X0
theorem make_end {K : PySem.W.Frag} {F W : Addr → Prop} {M : Mm} {H : Hp} {Q : VK} {Qd : DK} {vs : List V} {gd : List Da} {a dx : Addr} (s : Stt K F W M H) (ha : H a = none) (hd : H dx = none) (hx : dx ≠ a) (kk : Kt (rE K) K F W H Qd Q)
    (rg : ∀ {W' H'}, Grow F W H W' H' → RDs K W' H' vs gd) (st : Bool)
    (h : sp gd (mput M a (.ins C [])) (fun v M3 => v = .non ∧ (if st = true then ∃ gs, M3 a = some (.ins C gs) ∧ Qd (.obj C gs) (mdel M3 a) else Qd (.ref a) M3)) X0) :
    LSp K sp vs (upd (upd H dx (.own a)) a (.ins C dx [])) (fun v H2 => v = .non ∧ Q (.ref a) H2) E0 := by
  have s1 := s.junk hd (.own a)
  have ha1 : (upd H dx (.own a)) a = none := by rw [upd_ne (Ne.symm hx)]; exact ha
  have s2 := s1.newM ha1 (o := .ins C dx []) (u := .ins C []) (.ins .nil)
  have g2 : Grow F W H W (upd (upd H dx (.own a)) a (.ins C dx [])) := (grow_new s hd).trans (grow_new s1 ha1)
  refine ⟨F, W, _, gd, _, X0, rg g2, s2, h, fun v H3 W3 d M3 g3 s3 r3 q3 => ?_, fun _ _ _ _ _ _ _ _ _ z => z.elim⟩
  obtain ⟨rfl, q3⟩ := q3
  cases r3
  refine ⟨rfl, ?_⟩
  cases st with
  | true =>
    obtain ⟨gs, hm, q⟩ := q3
    obtain ⟨u, hu, mr⟩ := s3.mem _ _ hm
    obtain ⟨s4, g4⟩ := s3.settle hm
    cases mr with
    | ins rv => exact (kk.mono ((g2.trans g3).trans g4)).now s4 (.obj (.inl rfl) hu (rv.mono g4)) q
  | false => exact (kk.mono (g2.trans g3)).now s3 (.ref a) q3
def idV {α : Type} (xs : List α) (_ : List α) : List α := xs
theorem d_make (M : MgOf X.K X.mg) (c : HasCls X.K x C) (D : KnMD X.prog X.w X.K X.mg X.base C "__init__" k ps sp) (hr : Room (k + 1) X.A) (ha : DA X (e :: es) fs) (hg : Gl X x := by rfl) (hdb : (x == ("__debug__" : Str)) = false := by decide)
    (he : starEach (e :: es) X.env = (false, eval e X.env) :: starEach es X.env := by rfl) (hpl : (backTo pos (starEach es X.env)).any (·.1) = false := by rfl) : DE X (.Call (.Name x p) (e :: es) [] pos) (gMakeS C sp idV fs gNil) := by
  obtain ⟨f, fd, F, B, b⟩ := D.ex
  refine imp (pe_make ⟨c.mks, B.mt.at_, B.mt.fn, c.kc⟩ F hr hg (M.of _ _ c.at_) b .nil pass0 ha hdb he hpl) fun σ H Q ⟨δ, F, W, M, Qd, ev, s, h, kk⟩ => ⟨δ, F, W, M, _, ev, s, h, fun vs H1 W1 ds M1 g1 s1 r1 q1 => fun a dx h1 h2 h3 => ?_⟩
  rw [List.append_nil]
  exact make_end s1 h1 h2 h3 (kk.mono g1) (gd := .ref a :: ds) (fun g => .cons (.ref a) (r1.mono g)) true (q1 a (s1.freeM h1))
end
structure HasInitK (K : PySem.W.Frag) (C : Addr) (qual : Str) (st : Stmt) (kws : List (Str × V)) : Prop where
  ex : ∃ f fd, FunD K "__init__" qual (defArgs st) (defBody st) (defScope st) [] kws f fd ∧ BMeth K C "__init__" f
theorem initk_mk {K : PySem.W.Frag} {C f D : Addr} {qual kw : Str} {v : V} {u : Value} {st : Stmt} {oc : Value} {od an : Option Addr} {osl : Array (Option Value)} {doc pm cdv ct : Value} (a : PySem.W.findIn K (.ref C) "__init__" = some (some (.ref f))) (i : PySem.W.isFn K (.ref f) = true)
    (l : K.lookup f = some ⟨oc, od, .func (PySem.W.fnOf "__init__" qual (defArgs st) (defBody st) (defScope st) .none (.ref D) doc pm an cdv ct), osl⟩) (c : PySem.W.codeIn K cdv qual = true) (k : PySem.W.keepIn K (.ref f) = true)
    (gf : PySem.W.specialIn K (.ref f) "__get__" = some (some (.builtin "function.__get__"))) (tk : PySem.W.takesIn K (.ref f) = some false) (fi : PySem.W.fnIn K f = true) (kd : PySem.W.nsIn K D kw = some (some u)) (ru : RelV v u) (cp : PySem.W.copiedNames.contains "__init__" = false) : HasInitK K C qual st [(kw, v)] :=
  ⟨f, _, ⟨⟨oc, od, _, _, doc, pm, an, cdv, ct, osl, rfl, l, c, .inl ⟨rfl, rfl⟩, .inr ⟨D, rfl, fun q hq => by cases hq with | head => exact ⟨u, kd, ru⟩ | tail _ h => cases h⟩⟩, k⟩, ⟨⟨a, i, k⟩, gf, tk, cp, fi⟩⟩
/-- a promise of an __init__ with keywords ks behind n positional parameters -/
structure KnK (P : Program) (w : World) (K : PySem.W.Frag) (mg : Str → Option Value) (base : Heap) (C : Addr) (k : Nat) (ps : List Str) (n : Nat) (ks : List Str) (dvs : List V) (sp : DSp) : Prop where
  ex : ∃ f fd, FnOk P w K mg base CX0 k f fd ps (LSp K sp) ∧ BMeth K C "__init__" f ∧ (∃ ds, Vals dvs ds ∧ Binds K fd ps ds) ∧ KBn K fd ps n ks (fun us ws => us ++ ws) (fun vs zs => vs ++ zs)
theorem KnK.of {P : Program} {w : World} {K : PySem.W.Frag} {mg : Str → Option Value} {base : Heap} {C : Addr} {qual : Str} {st : Stmt} {N ps : List Str} {k n : Nat} {ks : List Str} {kws : List (Str × V)} {sp : DSp} (F : HasInitK K C qual st kws) (S : FnScope N ps (defScope st)) (hk : kws ≠ []) (hn : n + kws.length = ps.length)
    (h1 : ∀ (D : Addr) (doc pm : Value) (an : Option Addr) (cdv ct : Value) (us zs : List Value), us.length = n → zs.length = kws.length →
      KwChain D ((kws.map (·.1)).zip zs) (bindArgs (PySem.W.fnOf "__init__" qual (defArgs st) (defBody st) (defScope st) .none (.ref D) doc pm an cdv ct) ⟨us, []⟩) (ps.zip (us ++ zs)))
    (h2 : ∀ (D : Addr) (doc pm : Value) (an : Option Addr) (cdv ct : Value) (us ws : List Value), us.length = n → ws.length = ks.length →
      bindArgs (PySem.W.fnOf "__init__" qual (defArgs st) (defBody st) (defScope st) .none (.ref D) doc pm an cdv ct) ⟨us, ks.zip ws⟩ = pure (ps.zip (us ++ ws)))
    (len : ∀ ds M Q E, sp ds M Q E → ds.length = ps.length)
    (hbody : ∀ (f : Addr) (cdv : Value) (A : Around) (outer : List Env) (s : Shared) (H : Hp) (E : XK), Room k (A.deeper (envOfC qual (defScope st) s.heap.objs.size f cdv)) →
      ∃ t, DB (cxOf CX0 P w K mg base N qual (defScope st) f cdv A outer s H E).nox (defBody st) t ∧ ∀ ds M Q Ed, sp ds M Q Ed → t (bodyE Q) (startD N ds) M) : KnK P w K mg base C (k + 1) ps n ks (kws.map (·.2)) sp := by
  obtain ⟨f, fd, F, B⟩ := F.ex
  refine ⟨f, fd, F.ok S (lsp_len len) (fun cdv A outer s H vs Q E hr ⟨F, W, M, ds, Qd, Ed, r, st, h, kk, kx⟩ => by
    obtain ⟨t, d, q⟩ := hbody f cdv A outer s H E hr
    exact ⟨_, PSs.nox d, ls_body r st kk (q ds M Qd Ed h)⟩), B, F.binds0 n hk hn h1, ?_⟩
  obtain ⟨mv, kb⟩ := F.kbinds0 (ps := ps) n ks [] (fun us _ ws => us ++ ws) hk (fun q hq => nomatch hq) (fun r1 _ r3 => r1.append r3) fun D doc pm an cdv ct us mv ws l1 l2 l3 => h2 D doc pm an cdv ct us ws l1 l3
  exact kb
section
variable {X : Cx} {k n : Nat} {ps ks : List Str} {sp : DSp} {x : Str} {p pos : Pos} {e : Expr} {es : List Expr} {kws : List Keyword} {fs fk : DTA} {C : Addr} {dvs : List V} {dfl : List Da}
/-- keyword arguments -/
def DKw (X : Cx) (kws : List Keyword) (f : DTA) : Prop := PK X kws (Li (rA X.K) X.K f)
theorem pk_imp {t t' : TA} (h : PK X kws t) (f : ∀ σ H Q, t' σ H Q → t σ H Q) : PK X kws t' := ⟨fun po pins s σ H Q I q => h.run po pins s σ H Q I (f σ H Q q)⟩
theorem d_knil : DKw X [] gNil := pk_imp pk_nil fun σ H Q ⟨δ, F, W, M, Qd, ev, s, h, k⟩ => k.now s .nil h
theorem d_kcons {f : DTE} {nm : Option Str} {kpos : Pos} (ha : DE X e f) (hr : DKw X kws fk) : DKw X (⟨nm, e, kpos⟩ :: kws) (gCons f fk) :=
  pk_imp (pk_cons ha hr) fun σ H Q ⟨δ, F, W, M, Qd, ev, s, h, k⟩ => ⟨δ, F, W, M, _, ev, s, h, fun v H1 W1 d M1 g1 s1 r1 q1 => ⟨δ, F, W1, M1, _, ev.mono g1, s1, q1, fun vs H2 W2 ds M2 g2 s2 r2 q2 =>
    (k.mono (g1.trans g2)).now s2 (.cons (r1.mono g2) r2) q2⟩⟩
def appD (dfl : List Da) (xs _ : List Da) : List Da := xs ++ dfl
theorem d_makeD (M : MgOf X.K X.mg) (c : HasCls X.K x C) (D : KnK X.prog X.w X.K X.mg X.base C k ps n ks dvs sp) (hd : ∀ W H, RDs X.K W H dvs dfl) (hr : Room (k + 1) X.A) (ha : DA X (e :: es) fs) (hg : Gl X x := by rfl) (hdb : (x == ("__debug__" : Str)) = false := by decide)
    (he : starEach (e :: es) X.env = (false, eval e X.env) :: starEach es X.env := by rfl) (hpl : (backTo pos (starEach es X.env)).any (·.1) = false := by rfl) : DE X (.Call (.Name x p) (e :: es) [] pos) (gMakeS C sp (appD dfl) fs gNil) := by
  obtain ⟨f, fd, F, B, ⟨us, hu, b⟩, _⟩ := D.ex
  refine imp (pe_make ⟨c.mks, B.mt.at_, B.mt.fn, c.kc⟩ F hr hg (M.of _ _ c.at_) b hu pass0 ha hdb he hpl) fun σ H Q ⟨δ, F, W, M, Qd, ev, s, h, kk⟩ => ⟨δ, F, W, M, _, ev, s, h, fun vs H1 W1 ds M1 g1 s1 r1 q1 => fun a dx h1 h2 h3 => ?_⟩
  exact make_end s1 h1 h2 h3 (kk.mono g1) (gd := .ref a :: (ds ++ dfl)) (fun g => .cons (.ref a) ((r1.mono g).append (hd _ _))) true (q1 a (s1.freeM h1))
def gMakeK (C : Addr) (n m : Nat) (sp : DSp) (fs fk : DTA) : DTE := fun δ M Q => fs δ M fun ds M1 => fk δ M1 fun zs M2 => ds.length = n ∧ zs.length = m ∧ ∀ p, M2 p = none → sp (.ref p :: (ds ++ zs)) (mput M2 p (.ins C [])) (fun v M3 => v = .non ∧ ∃ gs, M3 p = some (.ins C gs) ∧ Q (.obj C gs) (mdel M3 p)) X0
theorem d_makeK (M : MgOf X.K X.mg) (c : HasCls X.K x C) (D : KnK X.prog X.w X.K X.mg X.base C k ps (n + 1) ks dvs sp) (hr : Room (k + 1) X.A) (ha : DA X (e :: es) fs) (hkw : DKw X kws fk) (hg : Gl X x := by rfl)
    (hall : (backToKw pos (keywordEach kws X.env)).all (·.1.isSome) = true := by rfl) (hks : (backToKw pos (keywordEach kws X.env)).filterMap (·.1) = ks := by rfl) (hdb : (x == ("__debug__" : Str)) = false := by decide)
    (he : starEach (e :: es) X.env = (false, eval e X.env) :: starEach es X.env := by rfl) (hpl : ((backTo pos (starEach (e :: es) X.env)).any (·.1) || (backToKw pos (keywordEach kws X.env)).any (·.1.isNone)) = false := by rfl) :
    DE X (.Call (.Name x p) (e :: es) kws pos) (gMakeK C n ks.length sp fs fk) := by
  obtain ⟨f, fd, F, B, _, kb⟩ := D.ex
  refine imp (pe_makeK ⟨c.mks, B.mt.at_, B.mt.fn, c.kc⟩ F hr hg (M.of _ _ c.at_) kb pass0 ha hkw hall hks hdb he hpl) fun σ H Q ⟨δ, F, W, M, Qd, ev, s, h, kk⟩ => ⟨δ, F, W, M, _, ev, s, h, fun vs H1 W1 ds M1 g1 s1 r1 q1 =>
    ⟨δ, F, W1, M1, _, ev.mono g1, s1, q1, fun zs H2 W2 es2 M2 g2 s2 r2 q2 => ⟨by rw [r1.length]; exact q2.1, by rw [r2.length]; exact q2.2.1, fun a dx h1 h2 h3 => ?_⟩⟩⟩
  exact make_end s2 h1 h2 h3 (kk.mono (g1.trans g2)) (gd := .ref a :: (ds ++ es2)) (fun g => .cons (.ref a) (((r1.mono g2).mono g).append (r2.mono g))) true (q2.2.2 a (s2.freeM h1))
end
end U
set_option Elab.async false
set_option linter.all false
set_option maxRecDepth 100000
set_option maxHeartbeats 2000000
namespace U
open PySem PySem.Spec PyProof.Rows L2
/-- the type's name -/
def tyS : Da → String
  | .non => "NoneType"
  | .bl _ => "bool"
  | .int _ => "int"
  | .str _ => "str"
  | .lst _ => "list"
  | .tup _ => "tuple"
  | .dct _ => "dict"
  | _ => ""
/-- what isinstance rules want of a class of the text -/
structure IsC (K : PySem.W.Frag) (C : Addr) : Prop where
  cl : Cls K C
  ha : PySem.W.findIn K (.ref C) "__class__" = some (some (.builtin "object.__class__"))
  hn : PySem.W.specialIn K (.builtin "object.__class__") "__get__" = some (some (.builtin "getset_descriptor.__get__"))
  tk : PySem.W.takesIn K (.builtin "object.__class__") = some true
  hm : PySem.W.mroIn K C (.type "object") = some true
theorem HasCls.isC {K : PySem.W.Frag} {x : Str} {C : Addr} (c : HasCls K x C) : IsC K C := ⟨c.cl, c.ha, c.hn, c.tk, c.hm⟩
section
variable {K : PySem.W.Frag} {F W : Addr → Prop} {M : Mm} {H : Hp}
theorem ty_lst {a : Addr} {vs : List V} : Sl K W H a vs → TyX K H (.ref a) (.type "list")
  | .inl ⟨_, .inl h⟩ => .base (.lst h)
  | .inl ⟨_, .inr ⟨_, h⟩⟩ => .base (.frz h)
  | .inr (.inl (.inl h)) => nomatch h
  | .inr (.inl (.inr ⟨_, h⟩)) => nomatch h
  | .inr (.inr ⟨_, _, _, h1, h2, _⟩) => .kList h1 h2
theorem ty_tup {a : Addr} {vs : List V} : Sp' K W H a vs → TyX K H (.ref a) (.type "tuple")
  | .inl ⟨_, .inl h⟩ => .base (.tup h)
  | .inl ⟨_, .inr ⟨_, h⟩⟩ => .fTuple h
  | .inr ⟨.inl (.inl h), _⟩ => nomatch h
  | .inr ⟨.inl (.inr ⟨_, h⟩), _⟩ => nomatch h
  | .inr ⟨.inr ⟨_, _, _, h1, h2, _⟩, _⟩ => .kTuple h1 h2
theorem ty_ins {a C dx : Addr} {vs : List (Str × V)} (c : IsC K C) (h : H a = some (.ins C dx vs)) : TyX K H (.ref a) (.ref C) := .base (.ins h c.cl c.ha c.hn c.tk c.hm)
/-- the type as a value: a built-in one, or a class of the text -/
def tyK (K : PySem.W.Frag) (x : Da) (M : Mm) (k : Value → Prop) : Prop := match x with
  | .obj C _ => IsC K C ∧ k (.ref C)
  | .ref p => (∃ xs, M p = some (.lst xs) ∧ k (.type "list")) ∨ (∃ xs, M p = some (.dct xs) ∧ k (.type "dict")) ∨ ∃ C fs, M p = some (.ins C fs) ∧ IsC K C ∧ k (.ref C)
  | .ty _ => False
  | .exn _ _ _ => False
  | x => k (.type (tyS x))
theorem ty_of {v : V} {d : Da} (s : Stt K F W M H) (r : RD K W H v d) {k : Value → Prop} (h : tyK K d M k) : ∃ t, TyX K H v t ∧ k t := by
  cases r with
  | non => exact ⟨_, .base .non, h⟩
  | bl b => exact ⟨_, .base (.bl b), h⟩
  | int b => exact ⟨_, .base (.int b), h⟩
  | str b => exact ⟨_, .base (.str b), h⟩
  | ty b => exact h.elim
  | lst hs rv => exact ⟨_, ty_lst hs, h⟩
  | tup hs rv => exact ⟨_, ty_tup hs, h⟩
  | obj w hs rv => exact ⟨_, ty_ins h.1 hs, h.2⟩
  | dct w hs rv => exact ⟨_, .base (.dK hs), h⟩
  | exn _ _ _ => exact h.elim
  | ref p =>
    rcases h with ⟨xs, hm, h⟩ | ⟨xs, hm, h⟩ | ⟨C, fs, hm, c, h⟩
    · obtain ⟨vs, hv, _⟩ := s.list hm
      exact ⟨_, .base (.lst hv), h⟩
    · obtain ⟨u, hu, mr⟩ := s.mem _ _ hm
      cases mr with
      | dct rv => exact ⟨_, .base (.dK hu), h⟩
    · obtain ⟨u, hu, mr⟩ := s.mem _ _ hm
      cases mr with
      | ins rv => exact ⟨_, ty_ins c hu, h⟩
end
/-- isinstance, one class -/
def kIsi (K : PySem.W.Frag) : DC := fun xs M Q => match xs with
  | [.non, .ty T] => kinds.contains T = true ∧ Q (.bl (isK "NoneType" T)) M
  | [.bl _, .ty T] => kinds.contains T = true ∧ Q (.bl (isK "bool" T)) M
  | [.int _, .ty T] => kinds.contains T = true ∧ Q (.bl (isK "int" T)) M
  | [.str _, .ty T] => kinds.contains T = true ∧ Q (.bl (isK "str" T)) M
  | [.lst _, .ty T] => kinds.contains T = true ∧ Q (.bl (isK "list" T)) M
  | [.tup _, .ty T] => kinds.contains T = true ∧ Q (.bl (isK "tuple" T)) M
  | [.dct _, .ty T] => kinds.contains T = true ∧ Q (.bl (isK "dict" T)) M
  | [x, .ty T] => tyK K x M fun t => ∃ b, PySem.W.kitOne K t (.type T) = some b ∧ Q (.bl b) M
  | [x, .ref C] => tyK K x M fun t => ∃ b, PySem.W.kitOne K t (.ref C) = some b ∧ Q (.bl b) M
  | _ => False
section
variable {X : Cx} {k : Nat} {ps : List Str} {sp : DSp} {x m f : Str} {p pos apos : Pos} {a b e e1 e2 o : Expr} {es : List Expr} {fs : DTA} {C : Addr} {fa f1 f2 : DTE} {g : DC}
theorem c_disi : CD X (.builtin "isinstance") (kIsi X.K) := cd_imp fun vs H Q ⟨F, W, M, ds, Qd, r, s, h, k⟩ => by
  refine ⟨_, call_isi, ?_⟩
  have go : ∀ {v c : V} {d e : Da} {T : Value} {b : Bool} {t : Value}, vs = [v, c] → TyX X.K H v t → ClsV c T → PySem.W.kitOne X.K t T = some b → Qd (.bl b) M → rIsi X.K vs H Q := fun e1 ty cc e2 q => ⟨_, _, _, _, _, e1, cc, ty, e2, k.now s (.bl _) q⟩
  unfold kIsi at h
  split at h
  · obtain ⟨v, u, rfl, r1, r2⟩ := r.two; cases r1; cases r2; exact go (d := .non) (e := .non) rfl (.base .non) (.ty _) (kit_ok (by decide) h.1) h.2
  · obtain ⟨v, u, rfl, r1, r2⟩ := r.two; cases r1; cases r2; exact go (d := .non) (e := .non) rfl (.base (.bl _)) (.ty _) (kit_ok (by decide) h.1) h.2
  · obtain ⟨v, u, rfl, r1, r2⟩ := r.two; cases r1; cases r2; exact go (d := .non) (e := .non) rfl (.base (.int _)) (.ty _) (kit_ok (by decide) h.1) h.2
  · obtain ⟨v, u, rfl, r1, r2⟩ := r.two; cases r1; cases r2; exact go (d := .non) (e := .non) rfl (.base (.str _)) (.ty _) (kit_ok (by decide) h.1) h.2
  · obtain ⟨v, u, rfl, r1, r2⟩ := r.two
    cases r2
    cases r1 with
    | lst hs rv => exact go (d := .non) (e := .non) rfl (ty_lst hs) (.ty _) (kit_ok (by decide) h.1) h.2
  · obtain ⟨v, u, rfl, r1, r2⟩ := r.two
    cases r2
    cases r1 with
    | tup hs rv => exact go (d := .non) (e := .non) rfl (ty_tup hs) (.ty _) (kit_ok (by decide) h.1) h.2
  · obtain ⟨v, u, rfl, r1, r2⟩ := r.two
    cases r2
    cases r1 with
    | dct w hs rv => exact go (d := .non) (e := .non) rfl (.base (.dK hs)) (.ty _) (kit_ok (by decide) h.1) h.2
  · obtain ⟨v, u, rfl, r1, r2⟩ := r.two
    cases r2
    obtain ⟨t, ty, b, e, q⟩ := ty_of s r1 h
    exact go (d := .non) (e := .non) rfl ty (.ty _) e q
  · obtain ⟨v, u, rfl, r1, r2⟩ := r.two
    cases r2
    obtain ⟨t, ty, b, e, q⟩ := ty_of s r1 h
    exact go (d := .non) (e := .non) rfl ty (.own _) e q
  · exact h.elim
def gFmt (f : DTE) : DTE := fun δ M Q => f δ M fun x M1 => match x with
  | .str y => Sz y.length ∧ Q (.str y) M1
  | .int i => i.natAbs.log2 < 1920 ∧ Q (.str (toString i)) M1
  | _ => False
theorem d_fmt (he : DE X e fa) : DE X (.FormattedValue e (-1) none pos) (gFmt fa) := imp (pe_fmt he) fun σ H Q ⟨δ, F, W, M, Qd, ev, s, h, kk⟩ => ⟨δ, F, W, M, _, ev, s, h, fun v H1 W1 d M1 g1 s1 r1 q1 => by
  cases r1 <;> first | exact q1.elim | skip
  · exact .inr ⟨_, rfl, q1.1, (kk.mono g1).now s1 (.str _) q1.2⟩
  · exact .inl ⟨_, rfl, q1.1.ok, (kk.mono g1).now s1 (.str _) q1.2⟩⟩
inductive DJ (X : Cx) : List Expr → List DTE → Prop where
  | nil : DJ X [] []
  | cons {e : Expr} {t : DTE} {es : List Expr} {ts : List DTE} (h : DE X e t) (r : DJ X es ts) : DJ X (e :: es) (t :: ts)
/-- the texts one behind the other -/
def gJs : List DTE → Str → De → Mm → (Str → Mm → Prop) → Prop
  | [], acc, _, M, Q => Q acc M
  | t :: ts, acc, δ, M, Q => t δ M fun x M1 => match x with
    | .str y => Sz (acc ++ y).length ∧ gJs ts (acc ++ y) δ M1 Q
    | _ => False
def gJ (ts : List DTE) : DTE := fun δ M Q => gJs ts Str.empty δ M fun z M1 => Q (.str z) M1
theorem d_joined {v1 v2 : Expr} {rest : List Expr} {ts : List DTE} (h : DJ X (v1 :: v2 :: rest) ts) : DE X (.JoinedStr (v1 :: v2 :: rest) pos) (gJ ts) := by
  have pj : ∀ {es : List Expr} {ts : List DTE}, DJ X es ts → PJ X es (ts.map fun t => Li (rE X.K) X.K t) := fun d => by
    induction d with
    | nil => exact .nil
    | cons h r ih => exact .cons h ih
  have run : ∀ (ts : List DTE) (acc : Str) (δ : De) (σ : L2.St) (F W : Addr → Prop) (M : Mm) (H : Hp) (Qd : DK) (Q : VK), EnvR X.K W H δ σ → Stt X.K F W M H → gJs ts acc δ M (fun z M1 => Qd (.str z) M1) → Kt (rE X.K) X.K F W H Qd Q →
      tJs (ts.map fun t => Li (rE X.K) X.K t) acc σ H fun out H1 => Q (.str out) H1 := by
    intro ts
    induction ts with
    | nil => intro acc δ σ F W M H Qd Q ev s h kk; exact kk.now s (.str _) h
    | cons t ts ih =>
      intro acc δ σ F W M H Qd Q ev s h kk
      refine ⟨δ, F, W, M, _, ev, s, h, fun v H1 W1 d M1 g1 s1 r1 q1 => ?_⟩
      cases r1 <;> first | exact q1.elim | skip
      exact ⟨_, rfl, q1.1.ok, ih _ δ σ F W1 M1 H1 Qd Q (ev.mono g1) s1 q1.2 (kk.mono g1)⟩
  exact imp (pe_joined (pj h)) fun σ H Q ⟨δ, F, W, M, Qd, ev, s, h, kk⟩ => run ts _ δ σ F W M H Qd Q ev s h kk
def tupI (ns : List Int) : Da := .tup (ns.map Da.int)
theorem RDs.tups {K : PySem.W.Frag} {W : Addr → Prop} {H : Hp} : ∀ {vs : List V} {ms : List (List Int)}, RDs K W H vs (ms.map tupI) → ∃ ks : List (Addr × List Int), vs = ks.map (fun p => V.ref p.1) ∧ ms = ks.map (·.2) ∧ ∀ p ∈ ks, Sp' K W H p.1 (p.2.map V.int)
  | _, [], .nil => ⟨[], rfl, rfl, fun p hp => nomatch hp⟩
  | _, m :: ms, .cons h k => by
    obtain ⟨ks, e1, e2, e3⟩ := RDs.tups k
    cases h with
    | @tup a vs _ hs rv =>
      rw [rv.ints] at hs
      exact ⟨(a, m) :: ks, by rw [e1]; rfl, by rw [e2]; rfl, fun p hp => by
        rcases List.mem_cons.mp hp with e | e
        · rw [e]; exact hs
        · exact e3 p e⟩
end
end U
set_option Elab.async false
set_option linter.all false
set_option maxRecDepth 100000
set_option maxHeartbeats 2000000
namespace U
open PySem PySem.Spec PyProof.Rows L2
theorem noattr_mk {K : PySem.W.Frag} {C : Addr} {f : Str} (a : PySem.W.findIn K (.ref C) f = some none) : NoAttr K C f := a
theorem hu_of {k : Nat} {A : Around} (r : Room k A) : A.units + 64 < cLine := by have := r.un; omega
theorem hu1_of {k : Nat} {A : Around} (r : Room k A) : A.units + 65 < cLine := by have := r.un; omega
section
variable {X : Cx} {fs : DTA}
end
theorem asInts_fun {α : Type} (g : α → Int) (l : List α) : asInts (l.map fun x => Da.int (g x)) = some (l.map g) := by
  rw [show (l.map fun x => Da.int (g x)) = (l.map g).map Da.int from by rw [List.map_map]; rfl]
  exact asInts_map _
theorem asBls_fun {α : Type} (g : α → Bool) (l : List α) : asBls (l.map fun x => Da.bl (g x)) = some (l.map g) := by
  rw [show (l.map fun x => Da.bl (g x)) = (l.map g).map Da.bl from by rw [List.map_map]; rfl]
  exact asBls_map _
/-- a loop over what was numbers -/
theorem forD_map {α : Type} {g : DTG} {tb : DTS} {D : DEnds} {f : α → Da} (I : List α → De → Mm → Prop)
    (hs : ∀ x l δ M, I (x :: l) δ M → (∀ δ' M', I l δ' M' → forD g tb D (l.map f) δ' M') → g (f x) δ M fun δ2 M2 => tb { D with nx := forD g tb D (l.map f), ct := forD g tb D (l.map f), bk := D.nx } δ2 M2)
    (hn : ∀ δ M, I [] δ M → D.nx δ M) : ∀ {l : List α} {δ : De} {M : Mm}, I l δ M → forD g tb D (l.map f) δ M
  | [], δ, M, h => hn δ M h
  | x :: l, δ, M, h => hs x l δ M h fun δ' M' h' => forD_map I hs hn h'
/-- a loop over data -/
theorem forD_ind {g : DTG} {tb : DTS} {D : DEnds} (I : List Da → De → Mm → Prop)
    (hs : ∀ x l δ M, I (x :: l) δ M → (∀ δ' M', I l δ' M' → forD g tb D l δ' M') → g x δ M fun δ2 M2 => tb { D with nx := forD g tb D l, ct := forD g tb D l, bk := D.nx } δ2 M2)
    (hn : ∀ δ M, I [] δ M → D.nx δ M) : ∀ {l : List Da} {δ : De} {M : Mm}, I l δ M → forD g tb D l δ M
  | [], δ, M, h => hn δ M h
  | x :: l, δ, M, h => hs x l δ M h fun δ' M' h' => forD_ind I hs hn h'
theorem rngD0 (n : Nat) : rngD 0 n = (List.range n).map fun i : Nat => Da.int (i : Int) := by
  unfold rngD
  congr 1
  funext i
  rw [Int.zero_add]
theorem rngD0' {j : Int} {n : Nat} (h : j = n) : rngD 0 j.toNat = (List.range n).map fun i : Nat => Da.int (i : Int) := by
  subst h
  exact rngD0 n
theorem rok {i : Int} (h1 : -1000000 ≤ i) (h2 : i ≤ 1000000) : Rok i := ⟨by omega, by omega⟩
/-- a comprehension that changes nothing -/
theorem lcD_pure {c : CT} {tt : DTT} {te : DTE} {δ : De} {M : Mm} (p : Da → Bool) (f : Da → Da) : ∀ {ds : List Da} {k : List Da → Mm → Prop}, (∀ d ∈ ds, c.ok d ∧ ∀ Q : Bool → Mm → Prop, Q (p d) M → tt (c.set d δ) M Q) →
    (∀ d ∈ ds, p d = true → ∀ Q : DK, Q (f d) M → te (c.set d δ) M Q) → k ((ds.filter p).map f) M → lcD c tt te δ ds k M
  | [], k, _, _, h => h
  | d :: ds, k, h1, h2, h => by
    obtain ⟨o, t⟩ := h1 d List.mem_cons_self
    refine ⟨o, t _ ?_⟩
    have r1 : ∀ e ∈ ds, c.ok e ∧ ∀ Q : Bool → Mm → Prop, Q (p e) M → tt (c.set e δ) M Q := fun e he => h1 e (List.mem_cons_of_mem _ he)
    have r2 : ∀ e ∈ ds, p e = true → ∀ Q : DK, Q (f e) M → te (c.set e δ) M Q := fun e he => h2 e (List.mem_cons_of_mem _ he)
    cases e : p d with
    | true =>
      rw [List.filter_cons_of_pos e, List.map_cons] at h
      exact h2 d List.mem_cons_self e _ (lcD_pure p f r1 r2 h)
    | false =>
      rw [List.filter_cons_of_neg (by rw [e]; exact Bool.false_ne_true)] at h
      exact lcD_pure p f r1 r2 h
/-- .. over what was something else -/
theorem lcD_map {α : Type} {c : CT} {tt : DTT} {te : DTE} {δ : De} {M : Mm} {g : α → Da} (p : α → Bool) (f : α → Da) : ∀ {l : List α} {k : List Da → Mm → Prop}, (∀ x ∈ l, c.ok (g x) ∧ ∀ Q : Bool → Mm → Prop, Q (p x) M → tt (c.set (g x) δ) M Q) →
    (∀ x ∈ l, p x = true → ∀ Q : DK, Q (f x) M → te (c.set (g x) δ) M Q) → k ((l.filter p).map f) M → lcD c tt te δ (l.map g) k M
  | [], k, _, _, h => h
  | x :: l, k, h1, h2, h => by
    obtain ⟨o, t⟩ := h1 x List.mem_cons_self
    refine ⟨o, t _ ?_⟩
    have r1 : ∀ e ∈ l, c.ok (g e) ∧ ∀ Q : Bool → Mm → Prop, Q (p e) M → tt (c.set (g e) δ) M Q := fun e he => h1 e (List.mem_cons_of_mem _ he)
    have r2 : ∀ e ∈ l, p e = true → ∀ Q : DK, Q (f e) M → te (c.set (g e) δ) M Q := fun e he => h2 e (List.mem_cons_of_mem _ he)
    cases e : p x with
    | true =>
      rw [List.filter_cons_of_pos e, List.map_cons] at h
      exact h2 x List.mem_cons_self e _ (lcD_map p f r1 r2 h)
    | false =>
      rw [List.filter_cons_of_neg (by rw [e]; exact Bool.false_ne_true)] at h
      exact lcD_map p f r1 r2 h
/-- .. without a test -/
theorem lcD_all {α : Type} {c : CT} {te : DTE} {δ : De} {M : Mm} {g : α → Da} (f : α → Da) {l : List α} {k : List Da → Mm → Prop} (h1 : ∀ x ∈ l, c.ok (g x)) (h2 : ∀ x ∈ l, ∀ Q : DK, Q (f x) M → te (c.set (g x) δ) M Q)
    (h : k (l.map f) M) : lcD c gYes te δ (l.map g) k M :=
  lcD_map (fun _ => true) f (fun x hx => ⟨h1 x hx, fun Q q => q⟩) (fun x hx _ => h2 x hx) (by rw [List.filter_eq_self.mpr (fun _ _ => rfl)]; exact h)
/-- a loop over numbers from 0 on: I by how many are done -/
theorem forD_rng {g : DTG} {tb : DTS} {D : DEnds} {n : Nat} (I : Nat → De → Mm → Prop)
    (hs : ∀ (j : Nat) δ M (NX : De → Mm → Prop), j < n → I j δ M → (∀ δ' M', I (j + 1) δ' M' → NX δ' M') → g (.int (j : Int)) δ M fun δ2 M2 => tb { D with nx := NX, ct := NX, bk := D.nx } δ2 M2)
    (hn : ∀ δ M, I n δ M → D.nx δ M) {δ : De} {M : Mm} (h : I 0 δ M) : forD g tb D (rngD 0 n) δ M := by
  rw [rngD0, List.range_eq_range']
  have go : ∀ (k j : Nat) δ M, j + k = n → I j δ M → forD g tb D ((List.range' j k).map fun i : Nat => Da.int (i : Int)) δ M := by
    intro k
    induction k with
    | zero => intro j δ M e h; have e : j = n := by omega
              subst e; exact hn δ M h
    | succ k ih => intro j δ M e h; exact hs j δ M _ (by omega) h fun δ' M' h' => ih (j + 1) δ' M' (by omega) h'
  exact go n 0 δ M (by omega) h
theorem rds_ints {K : PySem.W.Frag} {W : Addr → Prop} {H : Hp} : ∀ ns : List Int, RDs K W H (ns.map V.int) (ns.map Da.int)
  | [] => .nil
  | n :: ns => .cons (.int n) (rds_ints ns)
theorem start_state {K : PySem.W.Frag} {H : Hp} {a : Addr} {ns : List Int} (hS : SqL K H a (ns.map V.int)) : Stt K NoF (fun b => b = a ∧ Rd H a (.lst (ns.map V.int))) (fun _ => none) H ∧ RDs K (fun b => b = a ∧ Rd H a (.lst (ns.map V.int))) H [.ref a] [.lst (ns.map Da.int)] := by
  refine ⟨⟨fun b ⟨e, w⟩ => ?_, fun a w => w.elim, fun a o e => (nomatch e), fun a o e => (nomatch e), fun b o ⟨e, w⟩ q => ?_⟩, .cons (.lst (vs := ns.map V.int) ?_ (rds_ints ns)) .nil⟩
  · subst e
    rcases w with h | ⟨o, h⟩
    · exact ⟨_, h⟩
    · exact ⟨_, h⟩
  · subst e
    rcases w with h | ⟨o, h⟩
    · rw [h] at q; cases q; exact trivial
    · rw [h] at q; cases q; exact trivial
  · rcases hS with h | h
    · exact .inl ⟨⟨rfl, h⟩, h⟩
    · exact .inr (.inr h)
end U
set_option Elab.async false
set_option linter.all false
set_option maxRecDepth 100000
set_option maxHeartbeats 2000000
namespace U
open PySem PySem.Spec PyProof.Rows L2
/-- the number with these bits below N -/
def ofB (f : Nat → Bool) : Nat → Nat
  | 0 => 0
  | n + 1 => ofB f n + if f n = true then 2 ^ n else 0
theorem ofB_lt (f : Nat → Bool) : ∀ n, ofB f n < 2 ^ n
  | 0 => Nat.one_pos
  | n + 1 => by
    have := ofB_lt f n
    unfold ofB
    rw [Nat.pow_succ]
    split <;> omega
theorem testBit_ofB (f : Nat → Bool) : ∀ n k, (ofB f n).testBit k = (decide (k < n) && f k)
  | 0, k => by simp [ofB]
  | n + 1, k => by
    have ih := testBit_ofB f n k
    have lt := ofB_lt f n
    unfold ofB
    cases h : f n with
    | false =>
      rw [if_neg (by decide), Nat.add_zero, ih]
      by_cases e : k = n
      · subst e; simp [h]
      · have : decide (k < n + 1) = decide (k < n) := by congr 1; apply propext; omega
        rw [this]
    | true =>
      rw [if_pos rfl, Nat.add_comm]
      by_cases e : k = n
      · subst e
        rw [Nat.testBit_two_pow_add_eq, Nat.testBit_lt_two_pow lt]
        simp [h]
      · by_cases l : k < n
        · rw [Nat.testBit_two_pow_add_gt l, ih]
          have : decide (k < n + 1) = decide (k < n) := by congr 1; apply propext; omega
          rw [this]
        · have hk : n + 1 ≤ k := by omega
          have : 2 ^ n + ofB f n < 2 ^ k := by
            have h1 : 2 ^ (n + 1) ≤ 2 ^ k := Nat.pow_le_pow_right (by decide) hk
            rw [Nat.pow_succ] at h1
            omega
          rw [Nat.testBit_lt_two_pow this]
          have : decide (k < n + 1) = false := decide_eq_false (by omega)
          rw [this]
          rfl
/-- a number by its bits -/
theorem ofB_self {r n : Nat} (h : r < 2 ^ n) : ofB (fun k => r.testBit k) n = r := by
  apply Nat.eq_of_testBit_eq
  intro k
  rw [testBit_ofB]
  by_cases l : k < n
  · rw [decide_eq_true l, Bool.true_and]
  · rw [decide_eq_false l, Bool.false_and, Nat.testBit_lt_two_pow (Nat.lt_of_lt_of_le h (Nat.pow_le_pow_right (by decide) (by omega)))]
theorem has_bit (r k : Nat) : decide ((r : Int) / ((2 ^ k : Nat) : Int) % 2 = 1) = r.testBit k := by
  rw [Nat.testBit_eq_decide_div_mod_eq]
  congr 1
  apply propext
  have : ((r : Int) / ((2 ^ k : Nat) : Int)) % 2 = ((r / 2 ^ k % 2 : Nat) : Int) := by simp
  rw [this]
  omega
theorem or_bits {n a b : Nat} (ha : a < 2 ^ n) (hb : b < 2 ^ n) : a ||| b < 2 ^ n := Nat.or_lt_two_pow ha hb
def led (n E a b m e : Nat) : Bool := (e == n && a.testBit (m * E + e)) || (List.range n).any fun v => a.testBit (m * E + v) && b.testBit (v * E + e)
def sam (n E : Nat) : Nat := ofB (fun k => k / E == k % E) (n * E)
theorem cell_le {n E m e : Nat} (hm : m < n) (he : e < E) : m * E + e < n * E := by
  have h1 : m * E ≤ (n - 1) * E := Nat.mul_le_mul_right _ (by omega)
  have h2 : (n - 1) * E + E = n * E := by rw [← Nat.succ_mul]; congr 1; omega
  omega
theorem cell_div {E m e : Nat} (he : e < E) : (m * E + e) / E = m := by rw [Nat.mul_comm, Nat.mul_add_div (by omega), Nat.div_eq_of_lt he, Nat.add_zero]
theorem cell_mod {E m e : Nat} (he : e < E) : (m * E + e) % E = e := by rw [Nat.mul_comm, Nat.mul_add_mod, Nat.mod_eq_of_lt he]
section
variable {n E a b c : Nat} (hE : 0 < E) (hn : n ≤ E)
include hE hn
/-- what is done at the watched end -/
def dne (n E a : Nat) : Nat := ofB (fun k => a.testBit k && (k % E == n)) (n * E)
end
theorem bit_lt {a k n : Nat} (ha : a < 2 ^ n) (h : a.testBit k = true) : k < n := by
  apply Classical.byContradiction
  intro z
  have hp : 2 ^ n ≤ 2 ^ k := Nat.pow_le_pow_right (by decide) (by omega)
  rw [Nat.testBit_lt_two_pow (Nat.lt_of_lt_of_le ha hp)] at h
  cases h
theorem div_mod (k E : Nat) : k / E * E + k % E = k := by rw [Nat.mul_comm]; exact Nat.div_add_mod k E
end U
set_option Elab.async false
set_option linter.all false
set_option maxRecDepth 100000
set_option maxHeartbeats 2000000
namespace U
open PySem PySem.Spec PyProof.Rows L2
section
variable {X : Cx} {a b c e : Expr} {es rest : List Expr} {fa fb fc f : DTE} {fs : DTA} {pos p : Pos}
/-- {} that changes no more -/
def gDct0 : DTE := fun _ M Q => Q (.dct []) M
theorem d_dct0 : DE X (.Dict [] [] pos) gDct0 := imp pe_dnewK fun σ H Q ⟨δ, F, W, M, Qd, ev, s, h, k⟩ => fun p hp => by
  obtain ⟨s1, g1⟩ := s.new hp (.dK [])
  exact (k.mono g1).now s1 (.dct (.inl rfl) upd_same .nil) h
end
/-- two fors that change nothing -/
theorem lc2D_all {α β : Type} {c c1 : CT} {di1 : DTI} {te : DTE} {vs1 : List Nat} {δ : De} {M : Mm} {g : α → Da} (inn : α → List β) (h : β → Da) (f : α → β → Da) : ∀ {l : List α} {k : List Da → Mm → Prop},
    (∀ x ∈ l, c.ok (g x) ∧ Sr (inn x).length ∧ ∀ Q : List Da → Mm → Prop, Q ((inn x).map h) M → di1 (c.set (g x) δ) M Q) →
    (∀ x ∈ l, ∀ y ∈ inn x, c1.ok (h y) ∧ ∀ Q : DK, Q (f x y) M → te (c1.set (h y) (wipeD (c.set (g x) δ) vs1)) M Q) →
    k (l.flatMap fun x => (inn x).map (f x)) M → lc2D c gYes di1 c1 gYes te vs1 δ (l.map g) k M
  | [], k, _, _, q => q
  | x :: l, k, h1, h2, q => by
    obtain ⟨o, z, t⟩ := h1 x List.mem_cons_self
    refine ⟨o, t _ ⟨by rw [List.length_map]; exact z, ?_⟩⟩
    refine lcD_all (f x) (fun y hy => (h2 x List.mem_cons_self y hy).1) (fun y hy => (h2 x List.mem_cons_self y hy).2) ?_
    refine lc2D_all inn h f (fun y hy => h1 y (List.mem_cons_of_mem _ hy)) (fun y hy => h2 y (List.mem_cons_of_mem _ hy)) ?_
    rw [List.flatMap_cons] at q
    exact q
end U
set_option Elab.async false
set_option linter.all false
set_option maxRecDepth 100000
set_option maxHeartbeats 2000000
namespace U
end U
set_option Elab.async false
set_option linter.all false
set_option maxRecDepth 100000
set_option maxHeartbeats 2000000
namespace U
open PySem PySem.Spec PyProof.Rows L2
structure okN (n : Nat) (x : Da) : Prop where
  p : pure? x = true
  c : PyData.canLay0 (toP x) = true
  d : PyData.depth (toP x) ≤ n
theorem okN.ok {n : Nat} {x : Da} (h : okN n x) (hn : n ≤ 64) : okD x = true := by
  unfold okD SeqAt.shaped
  rw [h.p, h.c, Bool.true_and, Bool.true_and]
  exact decide_eq_true (Nat.le_trans h.d hn)
theorem okN.mono {n m : Nat} {x : Da} (h : okN n x) (k : n ≤ m) : okN m x := ⟨h.p, h.c, Nat.le_trans h.d k⟩
theorem okN_non {n : Nat} : okN n .non := ⟨rfl, by simp [toP, PyData.canLay0], by simp [toP, PyData.depth]⟩
theorem okN_int {n : Nat} {i : Int} : okN n (.int i) := ⟨rfl, by simp [toP, PyData.canLay0], by simp [toP, PyData.depth]⟩
theorem okN_str {n : Nat} {x : Str} (h : PyData.strOk x = true) : okN n (.str x) := ⟨rfl, by simp [toP, PyData.canLay0, h], by simp [toP, PyData.depth]⟩
theorem okNs {n : Nat} : ∀ {xs : List Da}, (∀ x ∈ xs, okN n x) → pures? xs = true ∧ PyData.canLayAll0 (toPs xs) = true ∧ PyData.depthAll (toPs xs) ≤ n
  | [], _ => ⟨rfl, by simp [toPs, PyData.canLayAll0], by simp [toPs, PyData.depthAll]⟩
  | x :: xs, h => by
    obtain ⟨h1, h2, h3⟩ := okNs (xs := xs) fun y hy => h y (List.mem_cons_of_mem _ hy)
    have hx := h x List.mem_cons_self
    refine ⟨?_, ?_, ?_⟩
    · show (pure? x && pures? xs) = true; rw [hx.p, h1]; rfl
    · simp only [toPs, PyData.canLayAll0, hx.c, h2, Bool.and_self]
    · have hd := hx.d
      simp only [toPs, PyData.depthAll]
      omega
theorem okN_tup {n : Nat} {xs : List Da} (h : ∀ x ∈ xs, okN n x) : okN (n + 1) (.tup xs) := by
  obtain ⟨h1, h2, h3⟩ := okNs h
  refine ⟨h1, ?_, ?_⟩
  · simp only [toP, PyData.canLay0, h2]
  · simp only [toP, PyData.depth]; omega
mutual
def plD : Da → Bool
  | .non | .int _ | .str _ => true
  | .lst xs => plDs xs
  | .tup xs => plDs xs
  | _ => false
def plDs : List Da → Bool
  | [] => true
  | x :: xs => plD x && plDs xs
end
mutual
theorem eqP_iff : ∀ {x y : Da}, plD x = true → plD y = true → (PyData.eqv (toP x) (toP y) = true ↔ x = y)
  | .non, y, _, h => by cases y <;> simp_all [plD, toP, PyData.eqv]
  | .int i, y, _, h => by cases y <;> simp_all [plD, toP, PyData.eqv]
  | .str i, y, _, h => by cases y <;> simp_all [plD, toP, PyData.eqv]
  | .lst xs, y, h1, h => by
    cases y with
    | lst ys => simp only [toP, PyData.eqv, Da.lst.injEq]; exact eqPs_iff h1 h
    | _ => simp_all [plD, toP, PyData.eqv]
  | .tup xs, y, h1, h => by
    cases y with
    | tup ys => simp only [toP, PyData.eqv, Da.tup.injEq]; exact eqPs_iff h1 h
    | _ => simp_all [plD, toP, PyData.eqv]
  | .bl _, _, h, _ => by simp [plD] at h
  | .ty _, _, h, _ => by simp [plD] at h
  | .obj _ _, _, h, _ => by simp [plD] at h
  | .ref _, _, h, _ => by simp [plD] at h
  | .dct _, _, h, _ => by simp [plD] at h
theorem eqPs_iff : ∀ {xs ys : List Da}, plDs xs = true → plDs ys = true → (PyData.eqvAll (toPs xs) (toPs ys) = true ↔ xs = ys)
  | [], [], _, _ => by simp [toPs, PyData.eqvAll]
  | [], y :: ys, _, _ => by simp [toPs, PyData.eqvAll]
  | x :: xs, [], _, _ => by simp [toPs, PyData.eqvAll]
  | x :: xs, y :: ys, h1, h2 => by
    have a := Bool.and_eq_true_iff.mp (show (plD x && plDs xs) = true from h1)
    have b := Bool.and_eq_true_iff.mp (show (plD y && plDs ys) = true from h2)
    simp only [toPs, PyData.eqvAll, Bool.and_eq_true, List.cons.injEq]
    rw [eqP_iff a.1 b.1, eqPs_iff a.2 b.2]
end
theorem eqD_iff {x y : Da} (h1 : plD x = true) (h2 : plD y = true) : eqD x y = true ↔ x = y := eqP_iff h1 h2
theorem eqD_dec {x y : Da} {p : Prop} [Decidable p] (h1 : plD x = true) (h2 : plD y = true) (h : x = y ↔ p) : eqD x y = decide p := by
  rw [Bool.eq_iff_iff, eqD_iff h1 h2, h, decide_eq_true_eq]
theorem plDs_of {xs : List Da} (h : ∀ x ∈ xs, plD x = true) : plDs xs = true := by
  induction xs with
  | nil => rfl
  | cons x xs ih =>
    show (plD x && plDs xs) = true
    rw [h x List.mem_cons_self, ih fun y hy => h y (List.mem_cons_of_mem _ hy)]; rfl
def Sub (M2 M1 : Mm) : Prop := ∀ a o, M2 a = some o → M1 a = some o
section
variable {X : Cx} {e : Expr} {f : DTE} {pos : Pos}
def hRetF (f : DTE) : DTS := fun D δ M => f δ M fun x M1 => ∃ M2, Sub M2 M1 ∧ D.rt x M2
theorem z_retF (he : DE X e f) : DS X (.Return (some e) pos) (hRetF f) := ps_imp (ps_ret he) fun D σ H ⟨δ, F, W, M, Dd, ev, s, h, k⟩ =>
  ⟨δ, F, W, M, _, ev, s, h, fun v H1 W1 d M1 g1 s1 r1 ⟨M2, sb, q⟩ => k.rt v H1 W1 d M2 g1 (s1.forget sb) r1 q⟩
end
section
variable {X : Cx} {a : Expr} {f : DTE} {pos pos2 p p2 : Pos}
end
/-- all but d stands, maybe more -/
def Kx (d : Addr) (M M' : Mm) : Prop := ∀ p o, p ≠ d → M p = some o → M' p = some o
theorem Kx.refl {d : Addr} {M : Mm} : Kx d M M := fun _ _ _ h => h
theorem Kx.trans {d : Addr} {M M1 M2 : Mm} (a : Kx d M M1) (b : Kx d M1 M2) : Kx d M M2 := fun p o h q => b p o h (a p o h q)
theorem Kx.put {d p : Addr} {M M' : Mm} {o : MO} (a : Kx d M M') (h : M' p = none) : Kx d M (mput M' p o) := fun q u n e => by
  rw [mput_ne (fun z => by subst z; rw [a q u n e] at h; cases h)]; exact a q u n e
theorem Kx.del {d p : Addr} {M M' : Mm} (a : Kx d M M') (h : M p = none) : Kx d M (mdel M' p) := fun q u n e => by
  unfold mdel
  rw [if_neg (fun z => by subst z; rw [h] at e; cases e)]; exact a q u n e
theorem Kx.of {d : Addr} {M M' : Mm} (h : ∀ p, p ≠ d → M' p = M p) : Kx d M M' := fun p o n e => (h p n).trans e
theorem Kx.back {d : Addr} {M M' : Mm} (a : Kx d M M') : ∃ M2, Sub M2 M' ∧ (∀ p, p ≠ d → M2 p = M p) ∧ M2 d = M' d := by
  refine ⟨fun p => if p = d then M' d else M p, fun p o h => ?_, fun p h => if_neg h, if_pos rfl⟩
  by_cases e : p = d
  · simp only [if_pos e] at h; rw [e]; exact h
  · simp only [if_neg e] at h; exact a p o e h
end U
set_option Elab.async false
set_option linter.all false
set_option maxRecDepth 100000
set_option maxHeartbeats 2000000
namespace US0
open PySem PySem.Spec PyProof.Rows L2
section
variable {P : Program} {w : World} {A : Around} {E : Value → Shared → Prop} {s : Shared}
end
end US0
set_option Elab.async false
set_option linter.all false
set_option maxRecDepth 100000
set_option maxHeartbeats 2000000
namespace U
open PySem PySem.Spec PyProof.Rows L2
section
variable {X : Cx} {a : Expr} {f : DTE} {p p2 q pos : Pos}
end
end U
namespace U
open PySem PySem.Spec PyProof.Rows L2
section
variable {X : Cx}
end
end U
namespace U
open L2
end U
namespace U
open PySem PySem.Spec PyProof.Rows L2
section
variable {X : Cx} {e : Expr} {f : DTE} {ft : DTT} {st : Stmt} {t : DTS}
end
end U
namespace U
open PySem
theorem kit_mk {K : PySem.W.Frag} {T : String} {C : Addr} {x} {r : Bool} (a : PySem.W.clsIn K C = some x) (b : PySem.W.typeIn K (.ref C) = some (.type "type")) (c : PySem.W.subIn K (.type T) (.ref C) = some r) : PySem.W.kitOne K (.type T) (.ref C) = some r := by
  unfold PySem.W.kitOne PySem.W.kitCls
  rw [if_neg (by simp)]
  simp only [a, b]
  rw [if_pos (by simp)]
  exact c
/-- of another class of the text -/
theorem kit_mkR {K : PySem.W.Frag} {D C : Addr} {x} {r : Bool} (n : (D == C) = false) (a : PySem.W.clsIn K C = some x) (b : PySem.W.typeIn K (.ref C) = some (.type "type")) (c : PySem.W.subIn K (.ref D) (.ref C) = some r) : PySem.W.kitOne K (.ref D) (.ref C) = some r := by
  unfold PySem.W.kitOne PySem.W.kitCls
  rw [if_neg (by
    intro h
    have : D = C := by simpa using h
    subst this
    simp at n)]
  simp only [a, b]
  rw [if_pos (by simp)]
  exact c
end U
set_option Elab.async false
set_option linter.all false
set_option maxRecDepth 100000
set_option maxHeartbeats 2000000
namespace UP0
open PySem PySem.Spec PySem.Calls PyProof.Rows PySem.W
section
variable {prog : Program} {w : World} {A : Around} {E : Value → Shared → Prop} {s : Shared}
theorem starT {l : Addr} {items : Array Value} {n i : Nat} {Q : List Value → Shared → Prop} (hl : IsTup s.heap l items) (hh : A.handled = none) (hi : i < n) (hn : n ≤ items.size + 1) (hz : items.size ≤ 16384)
    (h : ∀ (h' : Heap) (tk : Nat), (∀ b o, s.heap.get? b = some o → h'.get? b = some o) → Q (items.toList.take i ++ [.ref h'.objs.size] ++ (items.toList.drop i).drop (items.size + 1 - n)) { s with heap := h'.push { cls := .type "list", data := .seq ((items.toList.drop i).take (items.size + 1 - n)).toArray }, toks := tk }) :
    wpAny (model prog w) A (unpackItems (.ref l) n (some i)) Q E s := by
  have hlt : l ≠ s.heap.objs.size := by obtain ⟨o, ho, _⟩ := hl; exact Nat.ne_of_lt (Heap.lt_size ho)
  have hll : l < s.heap.objs.size := by obtain ⟨o, ho, _⟩ := hl; exact Heap.lt_size ho
  unfold unpackItems
  refine wpAny_bind ?_
  unfold notIterableAtAll
  refine wpAny_bind (wpAny_specialOf hl.typeIs slot_tuple_iter.lookup ?_)
  refine wpAny_pure ?_
  simp only [Bool.false_eq_true, if_false]
  refine wpAny_bind (wpAny_holding (iter_tuple hl ?_))
  refine wpAny_bind (wpAny_holding (draw_tuple hlt i 0 _ _ ⟨_, Heap.get?_push_size _ rfl, rfl, rfl⟩ (hl.push _) (by omega) fun h₁ hit₁ hs₁ => ?_))
  have hl₁ : IsTup h₁ l items := (hl.push _).extBut hs₁.extBut hlt
  rw [Nat.zero_add] at hit₁
  have hit₁' := hit₁
  obtain ⟨oi, hoi, _⟩ := hit₁'
  have hl₁' := hl₁
  obtain ⟨ol, hol, _⟩ := hl₁'
  rw [List.drop_zero]
  have hfl : (items.toList.take i).length = i := by rw [List.length_take, Array.length_toList]; omega
  rw [if_neg (show ¬ ((items.toList.take i).length < i) by rw [hfl]; omega)]
  refine wpAny_bind (wpAny_holding (kun_collect (s := { s with heap := h₁ }) (T := "tuple_iterator") (.inr (.inr (.inr rfl))) (Walks.tuple (A := A.in1) hh s.heap.objs.size l hlt items) (fun j u st => st.1.typeIs) (k := i) (by omega) ⟨hit₁, hl₁⟩ (Heap.lt_size hoi) (Heap.lt_size hol) (fun h₂ tk hk => ?_) (by rw [sizeLine_eq]; omega)))
  have hrl : (items.toList.drop i).length = items.size - i := by rw [List.length_drop, Array.length_toList]
  have hmid : (items.toList.drop i).length - (n - 1 - i) = items.size + 1 - n := by rw [hrl]; omega
  show wpAny _ _ (if (items.toList.drop i).length < n - 1 - i then _ else _) _ _ _
  rw [if_neg (by rw [hrl]; omega)]
  show wpAny _ _ (newList ((items.toList.drop i).take ((items.toList.drop i).length - (n - 1 - i))) >>= fun d => pure (items.toList.take i ++ [d] ++ (items.toList.drop i).drop ((items.toList.drop i).length - (n - 1 - i)))) _ _ _
  rw [hmid]
  have he : Heap.ExtBut s.heap.objs.size s.heap h₂ := fun b o hb e => hk b o hb (hs₁.extBut b o hb (Heap.get?_push_of_some _ e))
  refine wpAny_bind (wpAny_newList (wpAny_pure ?_) (by rw [List.length_take, hrl, sizeLine_eq]; omega))
  exact h h₂ tk fun b o e => he b o (Nat.ne_of_lt (Heap.lt_size e)) e
end
end UP0
namespace U
open PySem PySem.Spec PyProof.Rows L2
inductive PWord : Pattern → List Str → Prop
  | one {c : Str} {j pos pos'} : PWord (.MatchValue (.Constant (.str c) j pos) pos') [c]
  | or2 {c d : Str} {j pos pos' j2 pos2 pos2' pos3} : PWord (.MatchOr [.MatchValue (.Constant (.str c) j pos) pos', .MatchValue (.Constant (.str d) j2 pos2) pos2'] pos3) [c, d]
theorem PWord.star {p : Pattern} {cs : List Str} (h : PWord p cs) : p.isStar = false ∧ p.isWildcard = false := by cases h <;> exact ⟨rfl, rfl⟩
section
variable {X : Cx}
theorem pw_value {c : Str} {j pos pos'} {pins : List (Addr × Obj)} {s : Shared} {σ : L2.St} {H : Hp} {z : Str} {t : Tok} {Q : Option (List (Str × Value)) → Shared → Prop} (I : Inv X pins σ H s)
    (h : ∀ s', Inv X pins σ H s' → Q (if z = c then some [] else none) s') : wpAny (model X.prog X.w) X.A (matchPattern (.MatchValue (.Constant (.str c) j pos) pos') X.env (.str z t)) Q X.xe s := by
  refine wpAny_matchPattern_Value ?_
  refine thn ((pe_str (X := X) (x := c) (pos := pos)).run pins s σ H (fun v H' => v = .str c ∧ H' = H) I ⟨rfl, rfl⟩) fun u s1 ⟨v, H1, I1, r, e1, e2⟩ => ?_
  subst e1 e2
  refine thn (op_eq (X := X) pins s1 σ _ (.str z) (.str c) (.str z t) u (fun v H' => v = .bl (decide (V.str z = V.str c)) ∧ H' = H1) I1 ⟨_, rfl⟩ r ⟨rfl, rfl, rfl⟩) fun w s2 ⟨v, H2, I2, r2, e3, e4⟩ => ?_
  subst e3 e4
  obtain rfl := (show w = Value.bool _ from r2)
  refine wpAny_truthy_bool ?_
  have e : (if z = c then some [] else none : Option (List (Str × Value))) = if decide (V.str z = V.str c) = true then some [] else none := by
    by_cases q : z = c
    · subst q; simp
    · rw [if_neg q, if_neg (by simp [q])]
  have := h s2 I2
  rw [e] at this
  cases q : decide (V.str z = V.str c) <;> (rw [q] at this; exact this)
theorem pw_run {p : Pattern} {cs : List Str} (hp : PWord p cs) {pins : List (Addr × Obj)} {s : Shared} {σ : L2.St} {H : Hp} {z : Str} {t : Tok} {Q : Option (List (Str × Value)) → Shared → Prop} (I : Inv X pins σ H s)
    (h : ∀ s', Inv X pins σ H s' → Q (if cs.contains z = true then some [] else none) s') : wpAny (model X.prog X.w) X.A (matchPattern p X.env (.str z t)) Q X.xe s := by
  cases hp with
  | @one c =>
    refine pw_value I fun s' I' => ?_
    have := h s' I'
    have e : ([c].contains z = true) = (z = c) := by simp
    simp only [e] at this
    exact this
  | @or2 c d =>
    refine wpAny_matchPattern_Or (wpAny_matchFirst_cons (pw_value I fun s1 I1 => ?_))
    by_cases q : z = c
    · rw [if_pos q]
      have := h s1 I1
      rw [if_pos (by simp [q])] at this
      exact this
    · rw [if_neg q]
      refine wpAny_matchFirst_cons (pw_value I1 fun s2 I2 => ?_)
      have := h s2 I2
      by_cases q2 : z = d
      · rw [if_pos q2]
        rw [if_pos (by simp [q2])] at this
        exact this
      · rw [if_neg q2]
        rw [if_neg (by simp [q, q2])] at this
        exact wpAny_matchFirst_nil this
/-- names that are bound -/
inductive PCaps : List Pattern → List Str → Prop
  | nil : PCaps [] []
  | cons {n : Str} {pos} {ps : List Pattern} {ns : List Str} : PCaps ps ns → PCaps (.MatchAs none (some n) pos :: ps) (n :: ns)
theorem PCaps.length : ∀ {ps ns}, PCaps ps ns → ps.length = ns.length
  | _, _, .nil => rfl
  | _, _, .cons h => by rw [List.length_cons, List.length_cons, h.length]
theorem PCaps.star : ∀ {ps ns}, PCaps ps ns → ps.findIdx? (·.isStar) = none
  | _, _, .nil => rfl
  | _, _, .cons h => by rw [List.findIdx?_cons, h.star]; rfl
theorem caps_run {M : Model} {A : Around} {E : Value → Shared → Prop} {env : Env} {s : Shared} : ∀ {ps : List Pattern} {ns : List Str} {us : List Value} {Q : Option (List (Str × Value)) → Shared → Prop}, PCaps ps ns → us.length = ns.length → Q (some (ns.zip us)) s → wpAny M A (matchEach ps env us) Q E s
  | _, _, [], _, .nil, _, q => wpAny_matchEach_nil q
  | _, _, u :: us, _, .cons h, l, q => by
    refine wpAny_matchEach_cons (wpAny_matchPattern_Capture ?_)
    exact caps_run h (by simpa using l) q
/-- .. and a name for the rest -/
theorem capsS_run {M : Model} {A : Around} {E : Value → Shared → Prop} {env : Env} {s : Shared} {n : Str} {pos : Pos} {u0 : Value} : ∀ {ps : List Pattern} {ns : List Str} {us : List Value} {Q : Option (List (Str × Value)) → Shared → Prop}, PCaps ps ns → us.length = ns.length → Q (some ((ns ++ [n]).zip (us ++ [u0]))) s →
    wpAny M A (matchEach (ps ++ [.MatchStar (some n) pos]) env (us ++ [u0])) Q E s
  | _, _, [], _, .nil, _, q => by
    show wpAny _ _ (matchEach [.MatchStar (some n) pos] env [u0]) _ _ _
    unfold matchEach
    refine wpAny_bind (wpAny_holding (wpAny_matchEach_nil ?_))
    exact wpAny_pure q
  | _, _, u :: us, _, .cons h, l, q => by
    refine wpAny_matchEach_cons (wpAny_matchPattern_Capture ?_)
    exact capsS_run h (by simpa using l) q
theorem Vals.take' : ∀ {vs : List V} {us : List Value}, Vals vs us → ∀ n, Vals (vs.take n) (us.take n)
  | _, _, _, 0 => .nil
  | _, _, .nil, _ + 1 => .nil
  | _, _, .cons h k, n + 1 => .cons h (Vals.take' k n)
theorem Vals.drop' : ∀ {vs : List V} {us : List Value}, Vals vs us → ∀ n, Vals (vs.drop n) (us.drop n)
  | _, _, h, 0 => h
  | _, _, .nil, _ + 1 => .nil
  | _, _, .cons h k, n + 1 => Vals.drop' k n
structure CasD where
  cs : List Str
  is : List Nat
  st : Option Nat
  body : DTS
/-- the names' values, one after the other -/
def setAll : List Nat → List Da → De → De
  | i :: is, d :: ds, δ => setAll is ds (δ.set i (some d))
  | _, _, δ => δ
def hCases : List CasD → Str → List Da → DTS
  | [], _, _ => hNext
  | c :: r, z, xs => fun D δ M => match c.st with
    | none => if (xs.length == c.is.length && c.cs.contains z) = true then c.body D (setAll c.is xs δ) M else hCases r z xs D δ M
    | some j => if (decide (c.is.length ≤ xs.length) && c.cs.contains z) = true then c.body D (setAll (c.is ++ [j]) (xs.take c.is.length ++ [.lst (xs.drop c.is.length)]) δ) M else hCases r z xs D δ M
/-- the subject: a tuple that begins with a word -/
def hMatch (f : DTE) (cs : List CasD) : DTS := fun D δ M => f δ M fun x M1 => match x with
  | .tup (.str z :: xs) => xs.length ≤ 10000 ∧ hCases cs z xs D δ M1
  | _ => False
/-- the names' slots -/
structure Slts (X : Cx) (ns : List Str) (is : List Nat) : Prop where
  len : ns.length = is.length
  at_ : ∀ (k : Nat) (n : Str) (i : Nat), ns[k]? = some n → is[k]? = some i → X.N[i]? = some n ∧ Loc X.env.scope n ∧ (X.fn n = true ∨ X.env.scope.names.lookup n = some .local)
theorem bind_all (hN : X.N.Nodup) {pins : List (Addr × Obj)} {H : Hp} {K : PySem.W.Frag} {W : Addr → Prop} {Q : Unit → Shared → Prop} : ∀ (ns : List Str) (is : List Nat) (us : List Value) (vs : List V) (ds : List Da) (σ : L2.St) (δ : De) (s : Shared), Slts X ns is → Vals vs us → RDs K W H vs ds → us.length = ns.length → Inv X pins σ H s → EnvR K W H δ σ →
    (∀ σ' s', Inv X pins σ' H s' → EnvR K W H (setAll is ds δ) σ' → Q () s') → wpAny (model X.prog X.w) X.A (assignInOrder ((ns.zip us).map fun (n, _) => bindName X.env n) ((ns.zip us).map (·.2))) Q X.xe s := by
  intro ns
  induction ns with
  | nil =>
    intro is us vs ds σ δ s S r rd l I e q
    have e1 : is = [] := List.eq_nil_of_length_eq_zero S.len.symm
    subst e1
    exact wpAny_assignInOrder_none (q σ s I e)
  | cons n ns ih =>
    intro is us vs ds σ δ s S r rd l I e q
    cases is with
    | nil => exact absurd S.len (by simp)
    | cons i is =>
      cases us with
      | nil => exact absurd l (by simp)
      | cons u us =>
        cases r with
        | @cons v _ vs _ r rr =>
          cases rd with
          | @cons _ _ d ds rd rrd =>
            obtain ⟨h1, h2, h3⟩ := S.at_ 0 n i rfl rfl
            refine wpAny_assignInOrder_more (wpAny_bindName (store_ok I hN h1 h2 r (fun s' I' => ?_) h3))
            exact ih is us vs ds _ _ s' ⟨by simpa using S.len, fun k n' i' e1 e2 => S.at_ (k + 1) n' i' e1 e2⟩ rr rrd (by simpa using l) I' (e.set rd i) q
/-- the cases of the text -/
inductive DCases (X : Cx) : List MatchCase → List CasD → Prop
  | nil : DCases X [] []
  | cons {p : Pattern} {ps : List Pattern} {pos : Pos} {cs ns : List Str} {ns' : List Str} {is : List Nat} {b : List Stmt} {t : DTS} {rest : List MatchCase} {r : List CasD} (hp : PWord p cs) (hc : PCaps ps ns) (hs : Slts X ns is) (hb : DB X b t) (hr : DCases X rest r) : DCases X (⟨.MatchSequence (p :: ps) pos, none, b⟩ :: rest) (⟨cs, is, none, t⟩ :: r)
  | star {p : Pattern} {ps : List Pattern} {pos pos' : Pos} {n : Str} {j : Nat} {cs ns : List Str} {is : List Nat} {b : List Stmt} {t : DTS} {rest : List MatchCase} {r : List CasD} (hp : PWord p cs) (hc : PCaps ps ns) (hs : Slts X (ns ++ [n]) (is ++ [j])) (hb : DB X b t) (hr : DCases X rest r) : DCases X (⟨.MatchSequence (p :: (ps ++ [.MatchStar (some n) pos'])) pos, none, b⟩ :: rest) (⟨cs, is, some j, t⟩ :: r)
end
end U
set_option Elab.async false
set_option linter.all false
set_option maxRecDepth 100000
set_option maxHeartbeats 2000000
namespace U
open PySem PySem.Spec PyProof.Rows L2
theorem wp_seqStar {M : Model} {A : Around} {E : Value → Shared → Prop} {s : Shared} {env : Env} {ps : List Pattern} {pos : Pos} {v : Value} {i : Nat} {Q : Option (List (Str × Value)) → Shared → Prop}
    (h : wpAny M A (collectionFlag true v) (fun b s₁ => if b then wpAny M A (pyLen v) (fun m s₂ => if m < (ps.length : Int) - 1 then Q none s₂ else
        wpAny M A (unpackItems v ps.length (some i)) (fun vs s₃ => wpAny M A (matchEach ps env vs) Q E s₃) E s₂) E s₁ else Q none s₁) E s)
    (hstar : ps.findIdx? (·.isStar) = some i) (hn : ps.length > 1) (hwild : (ps.all fun p => p.isWildcard || (p.isStar && p.names.isEmpty)) = false) (hne : (ps[i]?.elim [] (·.names)).isEmpty = false) :
    wpAny M A (matchPattern (.MatchSequence ps pos) env v) Q E s := by
  rw [arm_matchPattern_MatchSequence]
  refine wpAny_bind (wpAny_standAt ?_)
  refine wpAny_bind (wpAny_mono h (fun b s₁ h₁ => ?_) (fun _ _ he => he))
  cases b with
  | false => exact wpAny_pure h₁
  | true =>
    simp only [hstar, hwild, hn, hne, Bool.not_true, Bool.false_eq_true, if_false, if_true] at h₁ ⊢
    refine wpAny_bind (wpAny_mono h₁ (fun m s₂ h₂ => ?_) (fun _ _ he => he))
    by_cases hm : m < (ps.length : Int) - 1
    · rw [if_pos hm] at h₂ ⊢
      exact wpAny_pure h₂
    · rw [if_neg hm] at h₂ ⊢
      exact wpAny_bind h₂
theorem idx_star {p : Pattern} {cs ns : List Str} (hp : PWord p cs) : ∀ {ps : List Pattern} {n : Str} {pos : Pos}, PCaps ps ns → (p :: (ps ++ [.MatchStar (some n) pos])).findIdx? (·.isStar) = some (ps.length + 1) := by
  intro ps n pos h
  rw [List.findIdx?_cons, hp.star.1]
  have : (ps ++ [Pattern.MatchStar (some n) pos]).findIdx? (fun q : Pattern => q.isStar) = some ps.length := by
    rw [List.findIdx?_append, h.star]
    simp [List.findIdx?_cons, Pattern.isStar]
  rw [this]; rfl
theorem wild_no {p : Pattern} {cs : List Str} (hp : PWord p cs) (ps : List Pattern) : ((p :: ps).all fun p => p.isWildcard || (p.isStar && p.names.isEmpty)) = false := by
  rw [List.all_cons, hp.star.1, hp.star.2]; rfl
section
variable {X : Cx}
theorem cases_run (hc : X.calm = true) (hN : X.N.Nodup) {mcs : List MatchCase} {cds : List CasD} (dc : DCases X mcs cds) : ∀ {pins : List (Addr × Obj)} {s : Shared} {σ : L2.St} {H : Hp} {D : Ends} {F W : Addr → Prop} {M : Mm} {Dd : DEnds} {δ : De} {a : Addr} {z : Str} {vs : List V} {xs : List Da} {first : Bool},
    Inv X pins σ H s → EnvR X.K W H δ σ → Stt X.K F W M H → Sp' X.K W H a (V.str z :: vs) → RDs X.K W H vs xs → xs.length ≤ 10000 → hCases cds z xs Dd δ M → KS X.K (EXm X) F W H Dd D →
    wpAny (model X.prog X.w) X.A (matchCases mcs X.env (.ref a) first) (SP X pins D) X.xe s := by
  induction dc with
  | nil =>
    intro pins s σ H D F W M Dd δ a z vs xs first I e st hsp rv hl h k
    exact wpAny_matchCases_nil ⟨σ, H, I, k.nx.now st e h⟩
  | @cons p ps pos cs ns ns' is b t rest r hp hcp hs hb hr ih =>
    intro pins s σ H D F W M Dd δ a z vs xs first I e st hsp rv hl h k
    obtain ⟨its, ra, ht, hz⟩ := I.tuple hsp.sq
    have hlen := rv.length
    have hra := ra.length
    rw [List.length_cons] at hra
    have hfit : (its.toArray.size : Int) < 2 ^ 63 := by rw [List.size_toArray]; omega
    have hpl := hcp.length
    refine wpAny_matchCases_cons ?_
    refine wpAny_matchPattern_Sequence (wpAny_collectionFlag ht.typeIs flag_seq_tuple ?_) (by rw [List.findIdx?_cons, hp.star.1, hcp.star]; rfl) (wild_no hp ps)
    rw [if_pos rfl]
    refine pyLen_tuple ht hfit ?_
    have I1 : Inv X pins σ H { s with toks := s.toks + 1 + 1 } := I.kept (h' := s.heap) fun _ _ q => q
    by_cases hn : xs.length = is.length
    · have hsz : its.toArray.size = (p :: ps).length := by rw [List.size_toArray, List.length_cons]; have := hs.len; omega
      rw [if_neg (by rw [hsz]; simp), ← hsz]
      refine wpAny_unpackItems_tuple (I1.ok.hd hc) ht fun h' hx => ?_
      have I2 : Inv X pins σ H { s with heap := h', toks := s.toks + 1 + 1 } := I1.kept fun b o q => hx b o (Nat.ne_of_lt (Heap.lt_size q)) q
      cases its with
      | nil => simp at hra
      | cons u0 us =>
        cases ra with
        | cons r0 rr =>
          obtain ⟨t0, rfl⟩ := (show ∃ t, u0 = Value.str z t from r0)
          refine wpAny_matchEach_cons (pw_run hp I2 fun s3 I3 => ?_) hp.star.1
          have h' : (if (xs.length == is.length && cs.contains z) = true then t Dd (setAll is xs δ) M else hCases r z xs Dd δ M) := h
          cases hw : cs.contains z with
          | false =>
            rw [hw, Bool.and_false, if_neg (by decide)] at h'
            exact ih I3 e st hsp rv hl h' k
          | true =>
            rw [hw, Bool.and_true, if_pos (by simp [hn])] at h'
            simp only [if_true]
            refine caps_run hcp (by have := hs.len; rw [List.length_cons] at hra; omega) ?_
            simp only [List.nil_append]
            exact bind_all hN ns is us vs xs σ δ _ hs rr rv (by have := hs.len; rw [List.length_cons] at hra; omega) I3 e fun σ' s' I' e' => hb.run pins s' σ' H D I' ⟨_, F, W, M, Dd, e', st, h', k⟩
    · have hsz : its.toArray.size ≠ (p :: ps).length := by rw [List.size_toArray, List.length_cons]; have := hs.len; omega
      rw [if_pos (by simp only [bne_iff_ne, ne_eq]; omega)]
      have h' : (if (xs.length == is.length && cs.contains z) = true then t Dd (setAll is xs δ) M else hCases r z xs Dd δ M) := h
      rw [if_neg (by simp [hn])] at h'
      exact ih I1 e st hsp rv hl h' k
  | @star p ps pos pos' n j cs ns is b t rest r hp hcp hs hb hr ih =>
    intro pins s σ H D F W M Dd δ a z vs xs first I e st hsp rv hl h k
    obtain ⟨its, ra, ht, hz⟩ := I.tuple hsp.sq
    have hlen := rv.length
    have hra := ra.length
    rw [List.length_cons] at hra
    have hfit : (its.toArray.size : Int) < 2 ^ 63 := by rw [List.size_toArray]; omega
    have hpl := hcp.length
    have hsl := hs.len
    rw [List.length_append, List.length_append] at hsl
    have hil : ns.length = is.length := by simpa using hsl
    refine wpAny_matchCases_cons ?_
    refine wp_seqStar (i := ps.length + 1) (wpAny_collectionFlag ht.typeIs flag_seq_tuple ?_) (idx_star hp hcp) (by simp) (wild_no hp _) (by simp [Pattern.names])
    rw [if_pos rfl]
    refine pyLen_tuple ht hfit ?_
    have I1 : Inv X pins σ H { s with toks := s.toks + 1 + 1 } := I.kept (h' := s.heap) fun _ _ q => q
    have hpsl : (p :: (ps ++ [Pattern.MatchStar (some n) pos'])).length = ps.length + 2 := by simp
    rw [hpsl]
    have h' : (if (decide (is.length ≤ xs.length) && cs.contains z) = true then t Dd (setAll (is ++ [j]) (xs.take is.length ++ [.lst (xs.drop is.length)]) δ) M else hCases r z xs Dd δ M) := h
    by_cases hn : is.length ≤ xs.length
    · rw [if_neg (by rw [List.size_toArray]; omega)]
      refine UP0.starT ht (I1.ok.hd hc) (by omega) (by rw [List.size_toArray]; omega) (by rw [List.size_toArray]; omega) fun hp1 tk hx => ?_
      have I2 : Inv X pins σ H { s with heap := hp1, toks := tk } := I1.kept hx
      cases its with
      | nil => simp at hra
      | cons u0 us =>
        cases ra with
        | cons r0 rr =>
          obtain ⟨t0, rfl⟩ := (show ∃ t, u0 = Value.str z t from r0)
          rw [List.length_cons] at hra
          have ul : us.length = vs.length := by omega
          have e1 : (Value.str z t0 :: us).toArray.toList.take (ps.length + 1) = Value.str z t0 :: us.take ps.length := rfl
          have e2 : (Value.str z t0 :: us).toArray.toList.drop (ps.length + 1) = us.drop ps.length := rfl
          have e3 : (Value.str z t0 :: us).toArray.size + 1 - (ps.length + 2) = us.length - ps.length := by rw [List.size_toArray, List.length_cons]; omega
          have e4 : (us.drop ps.length).take (us.length - ps.length) = us.drop ps.length := List.take_of_length_le (by rw [List.length_drop]; omega)
          have e5 : (us.drop ps.length).drop (us.length - ps.length) = [] := List.drop_of_length_le (by rw [List.length_drop]; omega)
          rw [e1, e2, e3, e4, e5, List.append_nil]
          have rdrop : Vals (vs.drop ps.length) (us.drop ps.length) := Vals.drop' rr _
          have hf : H hp1.objs.size = none := I2.fresh
          have I3 := I2.lnew (t' := tk) rdrop (by rw [List.length_drop]; rw [List.length_cons] at hz; omega)
          obtain ⟨st3, g3⟩ := st.new (p := hp1.objs.size) hf (.lst (vs.drop ps.length))
          have rv3 := rv.mono g3
          show wpAny _ _ (matchEach _ _ (Value.str z t0 :: (us.take ps.length ++ [.ref hp1.objs.size]))) _ _ _
          refine wpAny_matchEach_cons (pw_run hp I3 fun s4 I4 => ?_) hp.star.1
          cases hw : cs.contains z with
          | false =>
            rw [hw, Bool.and_false, if_neg (by decide)] at h'
            exact ih I4 (e.mono g3) st3 (hsp.mono g3) rv3 hl h' (k.mono g3)
          | true =>
            rw [hw, Bool.and_true, if_pos (by simp [hn])] at h'
            simp only [if_true]
            have tl : (us.take ps.length).length = ns.length := by rw [List.length_take]; omega
            refine capsS_run hcp tl ?_
            simp only [List.nil_append]
            have a1 : Vals (vs.take ps.length ++ [V.ref hp1.objs.size]) (us.take ps.length ++ [Value.ref hp1.objs.size]) := (Vals.take' rr _).append (.cons rfl .nil)
            have a2 : RDs X.K (wadd W hp1.objs.size) (upd H hp1.objs.size (.lst (vs.drop ps.length))) (vs.take ps.length ++ [V.ref hp1.objs.size]) (xs.take is.length ++ [.lst (xs.drop is.length)]) := by
              have hpi : ps.length = is.length := by omega
              rw [hpi]
              rw [hpi] at rv3
              exact (rv3.take _).append (.cons (.lst (.inl ⟨.inl rfl, .inl upd_same⟩) (rv3.drop _)) .nil)
            exact bind_all hN (ns ++ [n]) (is ++ [j]) _ _ _ σ δ _ hs a1 a2 (by rw [List.length_append, List.length_append, tl]; rfl) I4 (e.mono g3) fun σ' s' I' e' => hb.run pins s' σ' _ D I' ⟨_, F, _, M, Dd, e', st3, h', k.mono g3⟩
    · rw [if_pos (by rw [List.size_toArray]; omega)]
      rw [if_neg (by simp [hn])] at h'
      exact ih I1 e st hsp rv hl h' k
theorem z_match {subj : Expr} {f : DTE} {mcs : List MatchCase} {cds : List CasD} {pos : Pos} (hc : X.calm = true) (hN : X.N.Nodup) (he : DE X subj f) (dc : DCases X mcs cds) : DS X (.Match subj mcs pos) (hMatch f cds) := by
  refine ⟨fun pins s σ H D I ⟨δ, F, W, M, Dd, ev, st, h, k⟩ => ?_⟩
  refine wpAny_Match (thn (he.run pins s σ H (fun x H1 => ∃ W1 d M1, Grow F W H W1 H1 ∧ Stt X.K F W1 M1 H1 ∧ RD X.K W1 H1 x d ∧ (match d with
    | .tup (.str z :: xs) => xs.length ≤ 10000 ∧ hCases cds z xs Dd δ M1
    | _ => False)) I ⟨δ, F, W, M, _, ev, st, h, fun v H1 W1 d M1 g1 s1 r1 q1 => ⟨W1, d, M1, g1, s1, r1, q1⟩⟩) fun v s1 ⟨x, H1, I1, rv, W1, d, M1, g1, s2, r1, q1⟩ => ?_)
  split at q1
  · cases r1 with
    | @tup a ws _ hsp rws =>
      cases rws with
      | cons r0 rr =>
        cases r0
        obtain rfl : v = Value.ref a := rv
        exact cases_run hc hN dc I1 (ev.mono g1) s2 hsp rr q1.1 q1.2 (k.mono g1)
  · exact q1.elim
end
end U
set_option Elab.async false
set_option linter.all false
set_option maxRecDepth 100000
set_option maxHeartbeats 2000000
namespace UX0
open PySem PySem.Spec PyProof.Rows L2 PpSet
def keyS (e : Int × Value) : Str := match e.2 with | .str k _ => k | _ => Str.empty
theorem is_str_k {P : Program} {w : World} (k : Str) (tk : Tok) : (PySem.strKind P w).is k (.str k tk) = true := by show Value.isStrOf k (.str k tk) = true; simp [Value.isStrOf]
def GoodS (w : World) (e : Int × Value) : Prop := ∃ k tk, e.2 = Value.str k tk ∧ e.1 = hashStr w k
/-- the set of bools at a: S its members, n their number; its table rises and can be walked -/
def SetS (w : World) (h : Heap) (a : Addr) (S : Str → Bool) (n : Nat) : Prop :=
  ∃ o es ep t, h.get? a = some o ∧ o.ExactSet ∧ o.data = .set es ep t ∧ (∀ e ∈ es.toList, GoodS w e) ∧ (es.toList.map keyS).Nodup ∧ (∀ k, S k = true ↔ k ∈ es.toList.map keyS) ∧
    es.size < scanBound ∧ t.fits es.size = true ∧ es.size = n ∧ Ris t.place.toList ∧ (w.params.followText "set-order" = true ∨ t.led = true)

section
variable {P : Program} {w : World} {h h' : Heap} {a : Addr} {S : Str → Bool} {n : Nat}

theorem SetS.at (R : SetS w h a S n) (k : ∀ o, h.get? a = some o → h'.get? a = some o) : SetS w h' a S n := by
  obtain ⟨o, es, ep, t, ho, r⟩ := R
  exact ⟨o, es, ep, t, k o ho, r⟩
theorem SetS.lt (R : SetS w h a S n) : a < h.objs.size := by
  obtain ⟨o, es, ep, t, ho, r⟩ := R
  exact Heap.lt_size ho
theorem SetS.congr {S' : Str → Bool} (R : SetS w h a S n) (e : ∀ k, S' k = S k) : SetS w h a S' n := by
  have q : S' = S := funext e
  rw [q]; exact R
theorem goodS_elems {l : List (Int × Value)} (g : ∀ e ∈ l, GoodS w e) : ElemsOf (PySem.strKind P w) l := fun e he => by
  obtain ⟨k, tk, h1, h2⟩ := g e he
  exact ⟨⟨k, by rw [h1]; exact is_str_k (P := P) (w := w) k tk, h2⟩, by rw [h1] <;> rfl⟩
theorem goodS_is {e : Int × Value} (g : GoodS w e) (k : Str) : (PySem.strKind P w).is k e.2 = true ↔ keyS e = k := by
  obtain ⟨k0, t0, h1, _⟩ := g
  unfold keyS
  rw [h1]
  show (Value.isStrOf k (.str k0 t0) = true) ↔ k0 = k
  simp only [Value.isStrOf, beq_iff_eq]
theorem goodS_mem {l : List (Int × Value)} (g : ∀ e ∈ l, GoodS w e) (k : Str) : k ∈ l.map keyS ↔ ∃ e ∈ l, (PySem.strKind P w).is k e.2 = true := by
  rw [List.mem_map]
  constructor
  · rintro ⟨e, he, q⟩
    exact ⟨e, he, (goodS_is (g e he) k).2 q⟩
  · rintro ⟨e, he, q⟩
    exact ⟨e, he, (goodS_is (g e he) k).1 q⟩
theorem SetS.setOf (R : SetS w h a S n) : h.SetOf (PySem.strKind P w) a S n := by
  obtain ⟨o, es, ep, t, ho, hx, hd, g, nd, hm, hb, hf, hn, _⟩ := R
  exact ⟨o, es, ep, t, ho, hx, hd, goodS_elems g, fun k => (hm k).trans (goodS_mem g k), hb, hf, hn⟩
end

section
variable {P : Program} {w : World} {A : Around} {E : Value → Shared → Prop} {s : Shared} {a : Addr} {S : Str → Bool} {n : Nat}

theorem storeS_at {h : Heap} {a : Addr} {o : Obj} {es es' : Array (Int × Value)} {ep : Nat} {t t' : SetTable} (ho : h.get? a = some o) (hd : o.data = .set es ep t) :
    (h.update a (Obj.putSet es' t')).get? a = some { o with data := .set es' (ep + 1) t' } := by
  have q := Heap.get?_update_self (Obj.putSet es' t') ho (by rw [putSet_of es' t' hd]; rfl)
  rw [putSet_of es' t' hd] at q
  exact q

theorem setS_add_tail {g : Bool → Sem Unit} (hg : ∀ (b : Bool) (s₁ : Shared) (Q' : Unit → Shared → Prop), Q' () s₁ → wpAny (model P w) A (g b) Q' E s₁)
    {o : Obj} {es : Array (Int × Value)} {ep : Nat} {t : SetTable} (ho : s.heap.get? a = some o) (hex : o.ExactSet) (hd : o.data = .set es ep t)
    {es1 : Array (Int × Value)} {t2 : SetTable} {S' : Str → Bool} (g1 : ∀ e ∈ es1.toList, GoodS w e) (nd1 : (es1.toList.map keyS).Nodup) (m1 : ∀ k, S' k = true ↔ k ∈ es1.toList.map keyS)
    (hb1 : es1.size < scanBound) (hf2 : t2.fits es1.size = true) (hr : Ris t2.place.toList) (hl : w.params.followText "set-order" = true ∨ t2.led = true) {wasDummy : Bool} {R : Option Bool → Shared → Prop}
    (hR : ∀ h', Heap.SameBut a s.heap h' → SetS w h' a S' es1.size → R (some true) { s with heap := h' }) :
    wpAny (model P w) A (do
        storeSet a es1 t2
        if (!wasDummy && t2.tooFull) = true then do
            g (relayAll t2 es1 (SetTable.grown es1.size)).2.2
            storeSet a (relayAll t2 es1 (SetTable.grown es1.size)).1 (relayAll t2 es1 (SetTable.grown es1.size)).2.1
            pure (some true)
          else pure (some true)) R E s := by
  refine wpAny_bind (wpAny_storeSet_of ho hd ?_ (fits_of_scanBound hb1))
  have ho1 := storeS_at (es' := es1) (t' := t2) ho hd
  have sb1 := Heap.SameBut.update s.heap a (Obj.putSet es1 t2)
  split
  · have pm := relayAll_perm t2 es1 (SetTable.grown es1.size)
    have hf3 := relayAll_fits t2 es1 (SetTable.grown es1.size)
    have hr3 := relayAll_ris t2 es1 (SetTable.grown es1.size)
    have hl3 := relayAll_led t2 es1 (SetTable.grown es1.size)
    generalize relayAll t2 es1 (SetTable.grown es1.size) = Z at pm hf3 hr3 hl3 ⊢
    obtain ⟨es2, t3, gave⟩ := Z
    dsimp only at pm hf3 hr3 hl3 ⊢
    have hsz : es2.size = es1.size := by rw [← Array.length_toList, pm.length_eq, Array.length_toList]
    have hb2 : es2.size < scanBound := by rw [hsz]; exact hb1
    refine wpAny_bind (hg _ _ _ ?_)
    refine wpAny_bind (wpAny_storeSet_of ho1 rfl ?_ (fits_of_scanBound hb2))
    have ho2 := storeS_at (es' := es2) (t' := t3) ho1 rfl
    refine wpAny_pure (hR _ (sb1.trans (Heap.SameBut.update _ a _)) ?_)
    exact ⟨_, es2, _, t3, ho2, hex, rfl, fun e he => g1 e (pm.mem_iff.mp he), (pm.map keyS).nodup_iff.mpr nd1, fun k => (m1 k).trans (pm.map keyS).mem_iff.symm, hb2, hf3, hsz, hr3,
      hl.imp id fun z => by rw [hl3]; exact z⟩
  · exact wpAny_pure (hR _ sb1 ⟨_, es1, _, t2, ho1, hex, rfl, g1, nd1, m1, hb1, hf2, rfl, hr, hl⟩)

theorem setS_add_hashed {k : Str} {tk : Tok} {Q : Bool → Shared → Prop} (R : SetS w s.heap a S n) (room : n + 1 < scanBound)
    (hQ : ∀ h', Heap.SameBut a s.heap h' → SetS w h' a (fun j => S j || decide (j = k)) (if S k = true then n else n + 1) → Q (!S k) { s with heap := h' }) :
    wpAny (model P w) A (setAddHashed a (.str k tk) ((PySem.strKind P w).hash k)) Q E s := by
  obtain ⟨o, es, ep, t, ho, hex, hd, g, nd, hm, hb, hf, hn, hr, hl⟩ := R
  have hkey : (PySem.strKind P w).is k (.str k tk) = true := is_str_k (P := P) (w := w) k tk
  have hsc : (Value.str k tk).scannable = true := rfl
  have hel : ElemsOf (PySem.strKind P w) es.toList := goodS_elems g
  unfold setAddHashed setAddHashedIn
  refine wpAny_holding (wpAny_bind (wpAny_setState_of ho hd hf ?_))
  dsimp only
  rw [byScan_of hsc hb hel]
  simp only [↓reduceIte]
  unfold setAddByScan
  refine wpAny_bind ?_
  refine wpAny_bind (wpAny_rule ?_)
  refine wpAny_bind (wpAny_setScan_of hkey ho hd hf hel ?_)
  cases hfi : List.findIdx? (fun e => (PySem.strKind P w).is k e.2) es.toList with
  | some j =>
    dsimp only
    obtain ⟨hj, pj, _⟩ := List.findIdx?_eq_some_iff_getElem.mp hfi
    have hSk : S k = true := (hm k).2 ((goodS_mem (P := P) (w := w) g k).2 ⟨es.toList[j], List.getElem_mem hj, pj⟩)
    refine wpAny_pure (wpAny_pure ?_)
    have q := hQ s.heap (Heap.SameBut.refl a s.heap) ⟨o, es, ep, t, ho, hex, hd, g, nd, fun i => by
      rw [Bool.or_eq_true, decide_eq_true_eq, ← hm i]
      exact ⟨fun z => z.elim id (fun e => e ▸ hSk), .inl⟩, hb, hf, by rw [if_pos hSk]; exact hn, hr, hl⟩
    rw [hSk] at q
    exact q
  | none =>
    dsimp only
    have hnk : k ∉ es.toList.map keyS := fun z => by
      obtain ⟨e, he, q⟩ := (goodS_mem (P := P) (w := w) g k).1 z
      have c := List.findIdx?_eq_none_iff.mp hfi e he
      rw [q] at c
      cases c
    have hSk : S k = false := by
      cases q : S k with
      | false => rfl
      | true => exact absurd ((hm k).1 q) hnk
    have hgw : ∀ (b : Bool) {s₁ : Shared} {Q' : Unit → Shared → Prop}, Q' () s₁ → wpAny (model P w) A (match b with | true => rule "set.scan.the-table-gave-way" | false => pure ()) Q' E s₁ :=
      fun b s₁ Q' q => by cases b <;> first | exact wpAny_pure q | exact wpAny_rule q
    have pm := layNew_perm t es ((PySem.strKind P w).hash k) (.str k tk)
    have hf1 := layNew_fits t es ((PySem.strKind P w).hash k) (.str k tk)
    have hr1 := layNew_ris t es ((PySem.strKind P w).hash k) (.str k tk) hr
    have hl1 := layNew_led t es ((PySem.strKind P w).hash k) (.str k tk)
    generalize layNew t es ((PySem.strKind P w).hash k) (.str k tk) = Z at pm hf1 hr1 hl1 ⊢
    obtain ⟨es1, t1, wasDummy, gave⟩ := Z
    dsimp only at pm hf1 hr1 hl1 ⊢
    rw [Array.toList_push] at pm
    have pc : es1.toList.Perm (((PySem.strKind P w).hash k, Value.str k tk) :: es.toList) := pm.trans (List.perm_append_singleton _ _)
    have pk : (es1.toList.map keyS).Perm (k :: es.toList.map keyS) := pc.map keyS
    have g1 : ∀ e ∈ es1.toList, GoodS w e := fun e he => by
      rcases List.mem_cons.mp (pc.mem_iff.mp he) with z | z
      · rw [z]; exact ⟨k, tk, rfl, rfl⟩
      · exact g e z
    have nd1 : (es1.toList.map keyS).Nodup := pk.nodup_iff.mpr (List.nodup_cons.mpr ⟨hnk, nd⟩)
    have m1 : ∀ i, (S i || decide (i = k)) = true ↔ i ∈ es1.toList.map keyS := fun i => by
      rw [Bool.or_eq_true, decide_eq_true_eq, hm i, pk.mem_iff, List.mem_cons]
      exact Or.comm
    have hsz : es1.size = n + 1 := by rw [← Array.length_toList, pc.length_eq, List.length_cons, Array.length_toList, hn]
    have hb1 : es1.size < scanBound := by rw [hsz]; exact room
    have hled : w.params.followText "set-order" = true ∨ t1.led = true := hl.imp id fun z => by rw [hl1]; exact z
    have fin : ∀ h', Heap.SameBut a s.heap h' → SetS w h' a (fun j => S j || decide (j = k)) es1.size → Q true { s with heap := h' } := fun h' sb r => by
      have q := hQ h' sb
      rw [hSk] at q
      rw [hsz] at r
      exact q r
    refine wpAny_bind (hgw _ ?_)
    split
    · refine wpAny_bind ?_
      rw [hashByValue_scannable 8 hsc]
      refine wpAny_pure ?_
      refine setS_add_tail ?_ ho hex hd g1 nd1 m1 hb1 ?_ ?_ ?_ ?_
      · intro b s₁ Q' q; cases b <;> first | exact wpAny_pure q | exact wpAny_rule q
      · first | (split <;> first | exact hf1 | exact SetTable.fits_plain_off hf1) | exact hf1
      · first | (split <;> exact hr1) | exact hr1
      · first | (split <;> exact hled) | exact hled
      · intro h' sb r; dsimp only; exact wpAny_pure (fin h' sb r)
    · refine wpAny_bind (wpAny_pure ?_)
      simp only [↓reduceIte]
      refine setS_add_tail ?_ ho hex hd g1 nd1 m1 hb1 hf1 hr1 hled ?_
      · intro b s₁ Q' q; cases b <;> first | exact wpAny_pure q | exact wpAny_rule q
      · intro h' sb r; dsimp only; exact wpAny_pure (fin h' sb r)

/-- found.add(k) -/
theorem setS_add {k : Str} {tk : Tok} {Q : Value → Shared → Prop} (R : SetS w s.heap a S n) (room : n + 1 < scanBound)
    (hQ : ∀ h', Heap.SameBut a s.heap h' → SetS w h' a (fun j => S j || decide (j = k)) (if S k = true then n else n + 1) → Q .none { s with heap := h', toks := s.toks + 1 }) :
    wpAny (model P w) A (call (.builtin "set.add") [.ref a, .str k tk]) Q E s := by
  have hS : s.heap.SetOf (PySem.strKind P w) a S n := R.setOf
  refine wpAny_call_entry F.slot_set_add hS.typeIs F.entry_set_add ?_ (F.args_set_add_2 _ _)
  unfold Builtin.«set.add» Builtin.Frozenset.oneOther
  simp only [List.isEmpty_nil, bind_assoc]
  unfold Builtin.Frozenset.addrOf setAdd
  refine wpAny_bind (wpAny_pure ?_)
  try dsimp only
  refine wpAny_bind (wpAny_pure ?_)
  try dsimp only
  refine wpAny_bind ?_
  refine wpAny_holding ?_
  refine wpAny_bind ((PySem.strKind P w).pyHash (is_str_k (P := P) (w := w) k tk) ?_)
  refine setS_add_hashed (s := { s with toks := s.toks + 1 }) R room fun h' sb r => ?_
  show wpAny _ _ (ret Value.none) _ _ _
  exact wpAny_pure ⟨_, rfl, hQ h' sb r⟩

end
section
variable {P : Program} {w : World} {A : Around} {E : Value → Shared → Prop} {s : Shared}
theorem setS_fresh {h : Heap} (w : World) : SetS w (h.push { cls := .type "set", dict := none, data := .set #[] 0 (.fresh 0 0 (!w.params.followText "set-order")) }) h.objs.size (fun _ => false) 0 :=
  ⟨_, #[], 0, _, Heap.get?_push_size _ rfl, ⟨rfl, rfl, rfl⟩, rfl, (fun e he => by simp at he), (by simp), (fun k => by simp), (by decide), (by rfl), rfl, List.Pairwise.nil, by
    show _ ∨ (!w.params.followText "set-order") = true
    cases w.params.followText "set-order"
    · exact .inr rfl
    · exact .inl rfl⟩
theorem newSet_ok {Q : Value → Shared → Prop} (h : Q (.ref s.heap.objs.size) { s with heap := s.heap.push { cls := .type "set", dict := none, data := .set #[] 0 (.fresh 0 0 (!w.params.followText "set-order")) } }) :
    wpAny (model P w) A (newSet (.type "set")) Q E s := by
  unfold newSet
  refine wpAny_bind (wpAny_byText ?_)
  dsimp only
  simp only [newObj]
  exact wpAny_bind (wpAny_alloc (wpAny_pure h))

end
/-- the set of truth values at a -/
def SetSO (w : World) (a : Addr) (S : Str → Bool) (n : Nat) : HO := .ext fun h => SetS w h a S n
theorem setSO_new {w : World} {P : Program} {H : Hp} {h : Heap} {a : Addr} {S : Str → Bool} {n : Nat} (R : SetS w h a S n) : ObjOk P w H h a (SetSO w a S n) := by
  have ⟨o, _, _, _, ho, _⟩ := R
  exact ⟨R, ⟨o, ho⟩, fun h1 h2 p k => SetS.at p k⟩
section
variable {X : Cx}
theorem setSO_get {pins : List (Addr × Obj)} {σ : L2.St} {H : Hp} {s : Shared} {a : Addr} {S : Str → Bool} {n : Nat} (I : Inv X pins σ H s) (ha : H a = some (SetSO X.w a S n)) : SetS X.w s.heap a S n := (I.hok a _ ha).1
/-- set.add of a truth value -/
theorem addS_ok {pins : List (Addr × Obj)} {σ : L2.St} {H : Hp} {s : Shared} {E : Value → Shared → Prop} {D : Addr} {S : Str → Bool} {n : Nat} {y : Str} {tk : Tok} {Q : Value → Shared → Prop} (I : Inv X pins σ H s) (hD : H D = some (SetSO X.w D S n)) (room : n + 1 < scanBound)
    (h : ∀ s', Inv X pins σ (upd H D (SetSO X.w D (fun j => S j || decide (j = y)) (if S y = true then n else n + 1))) s' → Q .none s') : wpAny (model X.prog X.w) X.A (call (.builtin "set.add") [.ref D, .str y tk]) Q E s := by
  have R := setSO_get I hD
  refine setS_add R room fun h' sb new => ?_
  have he : ∃ u, h'.get? D = some u := by
    have ⟨o, _, _, _, ho, _⟩ := new
    exact ⟨o, ho⟩
  exact h _ (I.write (e := D) (t' := s.toks + 1) (by rw [hD]; trivial) (.inl rfl) (fun b u hb hu => (sb.2 b hb).trans hu) he (setSO_new new))
end
section
variable {prog : Program} {w : World} {A : Around} {R : Result → Shared → Prop} {s : Shared} {env : Env}
theorem eval_SetComp (elt : Expr) (gens : List Comprehension) (scope : Scope) (pos : Pos) : eval (.SetComp elt gens scope pos) env =
    comprehension (.SetComp elt gens scope pos) scope env (firstIterPos gens pos) (newSet (.type "set")) (firstAsync gens) (firstIter gens env) := rfl
theorem compTurn_set (elt target iter : Expr) (ifs : List Expr) (scope : Scope) (pos : Pos) (it acc : Value) (env : Env) :
    compTurn (.SetComp elt [⟨target, iter, ifs, 0⟩] scope pos) 0 it acc env = (do
      standAt iter.pos
      match ← pyNext it with
      | none => pure (.done .next)
      | some v =>
        letOwnedTupleGo target it v
        assign target env v
        let mut ok := true
        for c in ifs do
          if ok then ok ← isTrue c env (eval c env)
        if ok then
          (do let v ← eval elt env; standAt elt.pos; let _ ← call (.builtin "set.add") [acc, v])
        again (.compLoop (.SetComp elt [⟨target, iter, ifs, 0⟩] scope pos) 0 it acc env)) := by rfl
theorem codeAny_compStart_set {elt target iter : Expr} {ifs : List Expr} {rest : List Comprehension} {scope : Scope} {pos : Pos} {it acc : Value}
    (h0 : codeAny (model prog w) A (.compLoop (.SetComp elt (⟨target, iter, ifs, 0⟩ :: rest) scope pos) 0 it acc env) R s)
    (h : wpAny (model prog w) A (pyIter it) (fun it' s' => codeAny (model prog w) A (.compLoop (.SetComp elt (⟨target, iter, ifs, 0⟩ :: rest) scope pos) 0 it' acc env) R s')
      (notedBy (model prog w) A env fun x s' => R (.error x) s') s) :
    codeAny (model prog w) A (.compStart (.SetComp elt (⟨target, iter, ifs, 0⟩ :: rest) scope pos) 0 it acc env) R s := by
  refine codeAny_of_tree ?_
  show wpAny _ _ ((compStart (.SetComp elt (⟨target, iter, ifs, 0⟩ :: rest) scope pos) 0 it acc env).onRaise (fun x => do noteFrame x env; standAt theWindowsPlace)) _ _ s
  refine wpAny_notedAt ?_
  unfold compStart
  show wpAny _ _ (ask >>= _) _ _ s
  refine wpAny_bind (wpAny_askSetting (wpAny_ite ?_))
  split
  · first
      | exact wpAny_bind (wpAny_pure (wpAny_pure (And.intro rfl h0)))
      | exact wpAny_pure (And.intro rfl h0)
  · first
      | exact wpAny_bind (wpAny_rule (wpAny_bind (wpAny_standAt (wpAny_bind (wpAny_mono h (fun it' s' h' => wpAny_pure (And.intro rfl h')) fun _ _ x => x)))))
      | (refine wpAny_bind (wpAny_rule ?_); show wpAny _ _ (standAt iter.pos >>= _) _ _ s; exact wpAny_bind (wpAny_standAt (wpAny_bind (wpAny_mono h (fun it' s' h' => wpAny_pure (And.intro rfl h')) fun _ _ x => x))))
theorem compLoopS_any {elt target iter : Expr} {ifs : List Expr} {scope : Scope} {pos : Pos} {it acc : Value} (I : Nat → Shared → Prop)
    (turn : ∀ n s, I n s → wpAny (model prog w) A (pyNext it) (fun r s₁ => match r with
      | none => R (.ok .next) s₁
      | some v => wpAny (model prog w) A (letOwnedTupleGo target it v) (fun _ s₁' => wpAny (model prog w) A (assign target env v) (fun _ s₂ =>
          wpAny (model prog w) A (forIn ifs true fun c r => if r = true then do let ok ← isTrue c env (eval c env); pure (ForInStep.yield ok) else pure (ForInStep.yield r)) (fun ok s₃ =>
            if ok = true then wpAny (model prog w) A (eval elt env) (fun x s₄ =>
              wpAny (model prog w) A (call (.builtin "set.add") [acc, x]) (fun _ s₅ => ∃ m, m < n ∧ I m s₅) (notedBy (model prog w) A env fun e s' => R (.error e) s') s₄) (notedBy (model prog w) A env fun e s' => R (.error e) s') s₃
            else ∃ m, m < n ∧ I m s₃) (notedBy (model prog w) A env fun e s' => R (.error e) s') s₂) (notedBy (model prog w) A env fun e s' => R (.error e) s') s₁') (notedBy (model prog w) A env fun e s' => R (.error e) s') s₁) (notedBy (model prog w) A env fun e s' => R (.error e) s') s)
    (n : Nat) (h : I n s) :
    codeAny (model prog w) A (.compLoop (.SetComp elt [⟨target, iter, ifs, 0⟩] scope pos) 0 it acc env) R s := by
  refine codeAny_loop rfl I (fun n s hI => ?_) n h
  show wpAny _ A ((compTurn (.SetComp elt [⟨target, iter, ifs, 0⟩] scope pos) 0 it acc env).onRaise (fun x => do noteFrame x env; theTreesLotGoes x)) _ _ s
  refine wpAny_noted ?_
  rw [compTurn_set]
  refine wpAny_bind (wpAny_standAt (wpAny_bind (wpAny_mono (turn n s hI) (fun r s₁ h₁ => ?_) fun _ _ h' => h')))
  cases r with
  | none => exact wpAny_pure h₁
  | some v =>
    refine wpAny_bind (wpAny_mono h₁ (fun _ s₁' h₁' => ?_) fun _ _ h' => h')
    refine wpAny_bind (wpAny_mono h₁' (fun _ s₂ h₂ => wpAny_bind (wpAny_mono h₂ (fun ok s₃ h₃ => ?_) fun _ _ h' => h')) fun _ _ h' => h')
    cases ok with
    | false => exact wpAny_pure ⟨rfl, h₃⟩
    | true =>
      exact wpAny_bind (wpAny_bind (wpAny_mono h₃ (fun x s₄ h₄ => wpAny_bind (wpAny_standAt (wpAny_bind (wpAny_mono h₄ (fun _ s₅ h₅ => wpAny_pure (wpAny_pure ⟨rfl, h₅⟩)) fun _ _ h' => h')))) fun _ _ h' => h'))
end

section
variable {X : Cx}
/-- {elt for target in iter if ..}, elt a truth value: D the new set -/
def tSc (w : World) (wi : TI) (g : TG) (tt : TT) (te : TE) (vs : List Nat) : TE := fun σ H Q => wi σ H fun J H1 => ∀ D, H1 D = none → ∃ W : Nat → Nat → Hp → Prop, (∃ m, W 0 m (upd H1 D (SetSO w D (fun _ => false) 0))) ∧ ∀ i m H, W i m H →
  (J.stop i H ∧ Q (.ref D) H) ∨ (J.go i H ∧ ∃ Nx : Hp → Prop, (∀ H', Nx H' → ∃ m', m' < m ∧ W (i + 1) m' H') ∧ ∀ x H', J.yld i H x H' → g x (wipe σ vs) H' fun σ2 H2 => wipe σ2 vs = wipe σ vs ∧ tt σ2 H2 fun b H3 =>
    if b = true then te σ2 H3 fun y H4 => ∃ (c : Str) (S : Str → Bool) (n : Nat), y = .str c ∧ H4 D = some (SetSO w D S n) ∧ n + 1 < scanBound ∧ Nx (upd H4 D (SetSO w D (fun j => S j || decide (j = c)) (if S c = true then n else n + 1))) else Nx H3)
theorem sc_core {pins : List (Addr × Obj)} {s : Shared} {σ : L2.St} {H : Hp} {Q : VK} {elt tg iter : Expr} {ifs : List Expr} {scope : Scope} {own : List (PySem.Str × Nat)} {pos pos' : Pos} {wi : TI} {g : TG} {tt : TT} {te : TE} {use : Option (Value → Sem Unit)} {Qf : Value → Shared → Prop}
    (hc : X.calm = true) (hN : X.N.Nodup) (I : Inv X pins σ H s) (hi : PI X tg iter wi) (ok : BlkOk X.N X.env.scope scope own)
    (hg : ∀ (s : Shared) (H : Hp) (C : Addr) (cl : List (PySem.Str × Addr)) (fp : List Addr), PG (X.blk s H scope (compEnvC scope cl C X.env) fp) tg g) (ht : ∀ (s : Shared) (H : Hp) (C : Addr) (cl : List (PySem.Str × Addr)) (fp : List Addr), PTs (X.blk s H scope (compEnvC scope cl C X.env) fp) ifs tt)
    (he : ∀ (s : Shared) (H : Hp) (C : Addr) (cl : List (PySem.Str × Addr)) (fp : List Addr), PE (X.blk s H scope (compEnvC scope cl C X.env) fp) elt te) (hs : ∀ x, foldedSetIterable iter X.env x = pure x)
    (h : tSc X.w wi g tt te (own.map (·.2)) σ H Q)
    (hRR : ∀ D C s' m H', Inv X pins σ H' s' → Q (.ref D) H' → s'.heap.Ns C m → FpOk X pins H' C → compPost (model X.prog X.w) X.A X.xe use Qf (.ref D) C (.ok .next) s') :
    wpAny (model X.prog X.w) X.A (comprehension (.SetComp elt [⟨tg, iter, ifs, 0⟩] scope pos) scope X.env pos' (newSet (.type "set")) false (eval iter X.env) use) Qf X.xe s := by
  have hfree : ∀ y ∈ scope.names, y.2 = .free → ∃ c, X.env.cells.lookup y.1 = some c := fun y hy e => by
    rcases ok.free y hy e with k | k
    · exact I.ok.has _ (.inl k)
    · exact I.ok.has _ (.inr k)
  refine wpAny_comprehension_free (use := use) rfl hs (closure_ok hfree) ok.kind (fun y hy e => by rw [ok.uniq y hy, e])
    (thn (hi.run pins s σ H _ I h) fun xv s1 hx => thn hx fun itv s2 h2 => ?_)
  obtain ⟨it, fp, tn, J, H2, e, I2, T, st2, f2, q⟩ := h2
  subst e
  refine newSet_ok (newEnv_comp ?_)
  generalize hD : s2.heap.objs.size = D
  have hDn : H2 D = none := I2.hok.fresh (Nat.le_of_eq hD)
  obtain ⟨W, ⟨m0, w0⟩, turn⟩ := q D hDn
  -- the new list
  generalize hs3 : ({ s2 with heap := s2.heap.push { cls := .type "set", dict := none, data := .set #[] 0 (.fresh 0 0 (!X.w.params.followText "set-order")) } } : Shared) = s3
  have I3 : Inv X pins σ (upd H2 D (SetSO X.w D (fun _ => false) 0)) s3 := by
    rw [← hs3]
    refine I2.laid (t' := s2.toks) (fun b o e => Heap.get?_push_of_some _ e) (Nat.le_of_eq hD) ?_
    rw [← hD]
    exact setSO_new (setS_fresh X.w)
  have h3 : s3.heap = s2.heap.push { cls := .type "set", dict := none, data := .set #[] 0 (.fresh 0 0 (!X.w.params.followText "set-order")) } := by rw [← hs3]
  have sz : ∀ b ∈ fp, b < s2.heap.objs.size := fun b hb => by
    obtain ⟨o, e, _⟩ := T.obj _ _ st2 b hb
    exact Heap.lt_size e
  have f3 : ∀ b ∈ fp, FpOk X pins (upd H2 D (SetSO X.w D (fun _ => false) 0)) b ∧ b < s3.heap.objs.size := fun b hb => by
    have hlt := sz b hb
    refine ⟨⟨?_, (f2 b hb).2⟩, by rw [h3, Heap.size_push]; exact Nat.lt_succ_of_lt hlt⟩
    rw [upd_ne (by rw [← hD]; exact Nat.ne_of_lt hlt)]
    exact (f2 b hb).1
  have st3 : tn 0 s3.heap := T.keep _ _ _ st2 fun b _ o e => by rw [h3]; exact Heap.get?_push_of_some _ e
  have I4 := block_start I3 ok hN f3
  have pg := hg s3 (upd H2 D (SetSO X.w D (fun _ => false) 0)) s3.heap.objs.size (cellsFrom (s3.heap.objs.size + 1) scope.names (cloFrom X.env.cells scope.names [])) fp
  have pt := ht s3 (upd H2 D (SetSO X.w D (fun _ => false) 0)) s3.heap.objs.size (cellsFrom (s3.heap.objs.size + 1) scope.names (cloFrom X.env.cells scope.names [])) fp
  have pe := he s3 (upd H2 D (SetSO X.w D (fun _ => false) 0)) s3.heap.objs.size (cellsFrom (s3.heap.objs.size + 1) scope.names (cloFrom X.env.cells scope.names [])) fp
  show codeAny _ _ (.compStart (.SetComp elt [⟨tg, iter, ifs, 0⟩] scope pos) 0 (.ref it) (.ref D) (compEnvC scope (cellsFrom (s3.heap.objs.size + 1) scope.names (cloFrom X.env.cells scope.names [])) s3.heap.objs.size X.env)) (compPost (model X.prog X.w) X.A X.xe use Qf (.ref D) s3.heap.objs.size) { s3 with heap := pushCells (s3.heap.push { cls := .type "dict", data := .dict #[] }) scope.names }
  have nfp : ∀ b ∈ fp, (upd H2 D (SetSO X.w D (fun _ => false) 0)) b = none := fun b hb => (f3 b hb).1.1
  generalize hce : compEnvC scope (cellsFrom (s3.heap.objs.size + 1) scope.names (cloFrom X.env.cells scope.names [])) s3.heap.objs.size X.env = ce at I4 pg pt pe ⊢
  have cL : ce.locals = s3.heap.objs.size := by subst hce; rfl
  generalize hH3 : upd H2 D (SetSO X.w D (fun _ => false) 0) = H3 at I3 I4 pg pt pe w0 nfp f3
  generalize hs4 : ({ s3 with heap := pushCells (s3.heap.push { cls := .type "dict", data := .dict #[] }) scope.names } : Shared) = s4 at I4 ⊢
  have st4 : tn 0 s4.heap := T.keep _ _ _ st3 fun b _ o e => by rw [← hs4]; exact pushCells_keeps _ _ _ _ (Heap.get?_push_of_some _ e)
  have stat : ∀ {σ' : L2.St} {H' : Hp} {s' : Shared}, Inv (X.blk s3 H3 scope ce fp) [] σ' H' s' → (∀ b ∈ fp, H' b = none) → ∀ b ∈ fp, FpOk (X.blk s3 H3 scope ce fp) [] H' b := fun {σ' H' s'} I' hn b hb =>
    ⟨hn b hb, (I'.ok.exf b hb).1, I'.ok.exfs b hb, .inl hb, fun x c e => (I'.ok.exf b hb).2 x c e, fun p hp => absurd (show p ∈ ([] : List (Addr × Obj)) ++ [] from hp) (by simp)⟩
  have loop : codeAny (model X.prog X.w) X.A (.compLoop (.SetComp elt [⟨tg, iter, ifs, 0⟩] scope pos) 0 (.ref it) (.ref D) ce) (compPost (model X.prog X.w) X.A X.xe use Qf (.ref D) s3.heap.objs.size) s4 := by
    refine compLoopS_any (fun n s' => ∃ i H', Inv (X.blk s3 H3 scope ce fp) [] (wipe σ (own.map (·.2))) H' s' ∧ tn i s'.heap ∧ (∀ b ∈ fp, H' b = none) ∧ W i n H') ?_ m0 ⟨0, H3, I4, st4, nfp, w0⟩
    rintro n s5 ⟨i, H5, I5, st5, n5, w5⟩
    rcases turn i n H5 w5 with ⟨stop, qq⟩ | ⟨go, Nx, hNx, step⟩
    · have td := T.done (X.blk s3 H3 scope ce fp) rfl rfl rfl hc i [] s5 _ H5 (fun _ _ => False) I5 (stat I5 n5) st5 stop
      refine thnF td fun r s6 ⟨hr, I6⟩ => ?_
      subst hr
      -- back in the def's context
      have I7 : Inv X pins σ H5 s6 := I3.call' (ch := fp) I6.os I6.base I6.hok I6.bare fun b hb => ⟨(f3 b hb).1.2.2.2.1, (f3 b hb).1.2.1, (f3 b hb).1.2.2.2.2.1, (f3 b hb).1.2.2.2.2.2⟩
      have nC : H5 s3.heap.objs.size = none := by
        have z : H5 ce.locals = none := I6.free
        rw [cL] at z
        exact z
      obtain ⟨m, hn, _⟩ := I6.loc
      have hn : s6.heap.Ns ce.locals m := hn
      rw [cL] at hn
      exact hRR D s3.heap.objs.size s6 m H5 I7 qq hn (I3.fpOk (Nat.le_refl _) nC)
    · have ti := T.item (X.blk s3 H3 scope ce fp) rfl rfl rfl hc i [] s5 _ H5 (fun _ _ => False) I5 (stat I5 n5) st5 go
      refine thnF ti fun r s6 ⟨u, hr, h6⟩ => ?_
      subst hr
      refine thnF h6 fun _ s7 ⟨x, H7, I7, r7, y7, st7, n7⟩ => ?_
      have I7' := I7.pinned (stat I7 n7) (T.obj _ _ st7)
      refine thnF (pg.run _ s7 _ H7 x u _ I7' r7 (step x H7 y7)) fun _ s8 ⟨σ8, H8, I8, hw8, q8⟩ => ?_
      refine thnF (pt.run _ s8 σ8 H8 _ I8 q8) fun b s9 ⟨H9, I9, q9⟩ => ?_
      -- the turn's end
      have fin : ∀ {s' : Shared} {H' : Hp}, Inv (X.blk s3 H3 scope ce fp) ([] ++ pinsAt fp s7.heap) σ8 H' s' → Nx H' → ∃ m, m < n ∧ ∃ i H', Inv (X.blk s3 H3 scope ce fp) [] (wipe σ (own.map (·.2))) H' s' ∧ tn i s'.heap ∧ (∀ b ∈ fp, H' b = none) ∧ W i m H' := fun {s' H'} I' nx => by
        obtain ⟨m', hm, w'⟩ := hNx H' nx
        have pin' : ∀ b ∈ fp, ∀ o, s7.heap.get? b = some o → s'.heap.get? b = some o ∧ H' b = none := fun b hb o e =>
          let z := I'.pin (b, o) (List.mem_append_right _ (List.mem_append_right _ (mem_pinsAt hb e)))
          ⟨z.1, z.2.1⟩
        have hl : (wipe σ (own.map (·.2))).length = σ8.length := by rw [← hw8, wipe_length]
        refine ⟨m', hm, i + 1, H', (I'.unpinned (pins := [])).weak hl (fun j v e => ?_), T.keep _ _ _ st7 fun b hb o e => (pin' b hb o e).1, fun b hb => ?_, w'⟩
        · rw [← hw8] at e
          exact (wipe_some e).1
        · obtain ⟨o, e, _⟩ := T.obj _ _ st7 b hb
          exact (pin' b hb o e).2
      cases b with
      | false =>
        simp only [Bool.false_eq_true, if_false] at q9 ⊢
        exact fin I9 q9
      | true =>
        simp only [if_true] at q9 ⊢
        refine thnF (pe.run _ s9 σ8 H9 _ I9 q9) fun z s10 ⟨yv, H10, I10, r10, cb, S0, n0, ey, hD10, hz10, nx⟩ => ?_
        subst ey
        obtain ⟨tk, rfl⟩ := (show ∃ t, z = Value.str cb t from r10)
        exact addS_ok (X := X.blk s3 H3 scope ce fp) I10 hD10 hz10 fun s11 I11 => fin I11 nx
  exact codeAny_compStart_set loop (T.self X.A 0 _ _ _ st4 loop)
/-- as a value -/
theorem pe_sc {elt tg iter : Expr} {ifs : List Expr} {scope : Scope} {own : List (PySem.Str × Nat)} {pos : Pos} {wi : TI} {g : TG} {tt : TT} {te : TE} (hc : X.calm = true) (hN : X.N.Nodup) (hi : PI X tg iter wi) (ok : BlkOk X.N X.env.scope scope own)
    (hg : ∀ (s : Shared) (H : Hp) (C : Addr) (cl : List (PySem.Str × Addr)) (fp : List Addr), PG (X.blk s H scope (compEnvC scope cl C X.env) fp) tg g) (ht : ∀ (s : Shared) (H : Hp) (C : Addr) (cl : List (PySem.Str × Addr)) (fp : List Addr), PTs (X.blk s H scope (compEnvC scope cl C X.env) fp) ifs tt)
    (he : ∀ (s : Shared) (H : Hp) (C : Addr) (cl : List (PySem.Str × Addr)) (fp : List Addr), PE (X.blk s H scope (compEnvC scope cl C X.env) fp) elt te) (hs : ∀ x, foldedSetIterable iter X.env x = pure x := by intro _; rfl) :
    PE X (.SetComp elt [⟨tg, iter, ifs, 0⟩] scope pos) (tSc X.w wi g tt te (own.map (·.2))) := by
  refine ⟨fun pins s σ H Q I h => ?_⟩
  rw [eval_SetComp]
  refine sc_core hc hN I hi ok hg ht he hs h fun D C s' m H' I' q hn f => ⟨m, hn, fun h'' sb => ?_⟩
  obtain ⟨f0, f1, f2, f3, f4, f5⟩ := f
  exact ⟨.ref D, H', I'.turned (t' := s'.toks) (fun b o hb e => (sb.2 b hb).trans e) f0 f1 f3 f4 f5, rfl, q⟩
end

section
variable {P : Program} {w : World} {A : Around} {E : Value → Shared → Prop} {s : Shared}
end
section
variable {P : Program} {w : World} {A : Around} {E : Value → Shared → Prop} {s : Shared} {a : Addr}
end

end UX0
set_option Elab.async false
set_option linter.all false
set_option maxRecDepth 100000
set_option maxHeartbeats 2000000
namespace U
open PySem PySem.Spec PyProof.Rows L2 UX0
section
variable {X : Cx} {tg elt iter : Expr} {ifs : List Expr} {scope : Scope} {own : List (Str × Nat)} {pos p pos2 p2 : Pos} {di : DTI} {c : CT} {tt : DTT} {te : DTE}
/-- the texts of a set comprehension, in order -/
def lcS (c : CT) (tt : DTT) (te : DTE) (δ : De) : List Da → (List Str → Mm → Prop) → Mm → Prop
  | [], k, M => k [] M
  | d :: ds, k, M => c.ok d ∧ tt (c.set d δ) M fun b M2 => if b = true then te (c.set d δ) M2 fun y M3 => match y with
      | .str z => lcS c tt te δ ds (fun ys M4 => k (z :: ys) M4) M3
      | _ => False
    else lcS c tt te δ ds k M2
/-- what the set holds -/
def gSc (di : DTI) (c : CT) (tt : DTT) (te : DTE) (vs : List Nat) (δ : De) (M : Mm) (k : List Str → Mm → Prop) : Prop := di δ M fun ds M1 => Nat.ble ds.length 1000 = true ∧ lcS c tt te (wipeD δ vs) ds k M1
/-- the end of a set: what it holds as a row without doubles -/
def ScQ (K : PySem.W.Frag) (w : World) (F W : Addr → Prop) (H : Hp) (k : List Str → Mm → Prop) : VK := fun v H2 => ∃ D S n W2 M2, ∃ (L zs : List Str), v = .ref D ∧ H2 D = some (SetSO w D S n) ∧ Grow F W H W2 H2 ∧ Stt K F W2 M2 H2 ∧ L.Nodup ∧ (∀ z, S z = true ↔ z ∈ L) ∧ L.length = n ∧ n ≤ 1000 ∧ (∀ z, z ∈ L ↔ z ∈ zs) ∧ k zs M2
theorem li_sc {K : PySem.W.Frag} {w : World} {vs : List Nat} (hv : ∀ i ∈ c.slots, i ∈ vs) {δ : De} {F W : Addr → Prop} {M : Mm} {σ : L2.St} {H : Hp} {k : List Str → Mm → Prop} {Q : VK} (ev : EnvR K W H δ σ) (s : Stt K F W M H) (h : gSc di c tt te vs δ M k) (hQ : ∀ v H2, ScQ K w F W H k v H2 → Q v H2) :
    UX0.tSc w (LI K di) (c.tg K) (Li rT K tt) (Li (rE K) K te) vs σ H Q := by
  refine ⟨δ, F, W, M, _, ev, s, h, fun J H1 W1 M1 ds g1 s1 ij ⟨hz, q⟩ D hD => ?_⟩
  have hz : ds.length ≤ 1000 := Nat.ble_eq.mp hz
  let Pv : Nat → Hp → Prop := fun i H2 => ∃ W2 Md S n, ∃ (L zs : List Str), Grow F W1 H1 W2 H2 ∧ Stt K (fadd F D) W2 Md H2 ∧ H2 D = some (SetSO w D S n) ∧ L.Nodup ∧ (∀ z, S z = true ↔ z ∈ L) ∧ L.length = n ∧ n ≤ i ∧ (∀ z, z ∈ L ↔ z ∈ zs) ∧ lcS c tt te (wipeD δ vs) (ds.drop i) (fun ys M4 => k (zs ++ ys) M4) Md
  refine ⟨fun i m H2 => m = ds.length - i ∧ i ≤ ds.length ∧ Pv i H2, ⟨ds.length, by simp, Nat.zero_le _, W1, M1, _, 0, [], [], grow_new s1 hD, s1.addF hD _, upd_same, List.nodup_nil, (fun z => by simp), rfl, Nat.le_refl _, (fun z => Iff.rfl), q⟩, ?_⟩
  rintro i m H2 ⟨rfl, hi, W2, Md, S, n, L, zs, g2, s2, hac, hnd, hS, hn, hni, hL, q2⟩
  obtain ⟨go, stop⟩ := ij (fadd F D) W2 H2 Md g2.noF s2
  by_cases hlt : i < ds.length
  · have hd : ds[i]? = some ds[i] := List.getElem?_eq_getElem hlt
    obtain ⟨go1, go2⟩ := go i _ hd
    refine .inr ⟨go1, Pv (i + 1), fun H' p' => ⟨ds.length - (i + 1), by omega, rfl, hlt, p'⟩, fun x H3 y => ?_⟩
    obtain ⟨W3, g3, s3, r3⟩ := go2 x H3 y
    rw [List.drop_eq_getElem_cons hlt] at q2
    obtain ⟨ok, q2⟩ := q2
    have e3 : EnvR K W3 H3 (wipeD δ vs) (wipe σ vs) := (ev.mono (grow_drop (g1.trans g2) g3)).wipe vs
    refine ct_ok hv ok r3 e3 fun σ2 hw ev2 => ⟨by rw [hw, wipe_wipe vs vs σ fun _ h => h], _, fadd F D, W3, Md, _, ev2, s3, q2, fun b H4 W4 b' M4 g4 s4 eb q4 => ?_⟩
    cases eb
    have gg := g3.trans g4
    cases b with
    | false =>
      refine ⟨W4, M4, S, n, L, zs, grow_drop g2 gg, s4, ?_, hnd, hS, hn, by omega, hL, q4⟩
      rw [gg.f D (.inl rfl)]; exact hac
    | true =>
      refine ⟨_, fadd F D, W4, M4, _, ev2.mono g4, s4, q4, fun v H5 W5 d M5 g5 s5 r5 q5 => ?_⟩
      cases r5 <;> first | exact q5.elim | skip
      rename_i z
      obtain ⟨s6, g6⟩ := s5.chgF (SetSO w D (fun j => S j || decide (j = z)) (if S z = true then n else n + 1))
      have g7 : Grow F W2 H2 W5 H5 := (gg.trans g5).less fun a h => .inr h
      have h5 : H5 D = some (SetSO w D S n) := by rw [(gg.trans g5).f D (.inl rfl)]; exact hac
      refine ⟨z, S, n, rfl, h5, Nat.lt_of_le_of_lt (show n + 1 ≤ 1001 by omega) (by decide), W5, M5, _, _, if S z = true then L else z :: L, zs ++ [z], ?_, s6, upd_same, ?_, ?_, ?_, ?_, ?_, ?_⟩
      · have g8 := g2.trans g7
        refine ⟨g8.w, fun a w => ?_, fun a w => ?_⟩
        · rw [upd_ne (s1.neW hD w)]; exact g8.h a w
        · rw [upd_ne (s1.neF hD w)]; exact g8.f a w
      · split
        · exact hnd
        · rename_i ns
          exact List.nodup_cons.mpr ⟨fun hm => ns ((hS z).mpr hm), hnd⟩
      · intro y
        rw [Bool.or_eq_true, decide_eq_true_eq]
        split
        · rename_i hs
          rw [hS y]
          exact ⟨fun h => h.elim id fun e => e ▸ (hS z).mp hs, .inl⟩
        · rw [hS y, List.mem_cons]; exact Or.comm
      · split
        · exact hn
        · rw [List.length_cons, hn]
      · split <;> omega
      · intro y
        rw [List.mem_append, List.mem_singleton]
        split
        · rename_i hs
          rw [hL y]
          refine ⟨.inl, fun h => h.elim id fun e => e ▸ (hL z).mp ((hS z).mp hs)⟩
        · rw [List.mem_cons, hL y]; exact Or.comm
      · have e : (fun ys M4 => k (zs ++ [z] ++ ys) M4) = fun ys M4 => k (zs ++ z :: ys) M4 := by funext ys M4; rw [List.append_assoc]; rfl
        rw [e]; exact q5
  · have e : i = ds.length := by omega
    subst e
    rw [List.drop_length] at q2
    have q3 : k zs Md := by have : k (zs ++ []) Md := q2; rwa [List.append_nil] at this
    exact .inl ⟨stop _ (Nat.le_refl _), hQ _ _ ⟨D, S, n, W2, Md, L, zs, rfl, hac, g1.trans g2, s2.lessF fun _ h => .inr h, hnd, hS, hn, by omega, hL, q3⟩⟩
theorem setSO_sets {X : Cx} {pins : List (Addr × Obj)} {σ : L2.St} {H : Hp} {s : Shared} {a : Addr} {S : Str → Bool} {n : Nat} (I : Inv X pins σ H s) (ha : H a = some (SetSO X.w a S n)) : SetS X.w s.heap a S n := (I.hok a _ ha).1
theorem cr_lenSS : CallR X (.builtin "len") (fun xs H Q => ∃ D S n, xs = [V.ref D] ∧ H D = some (SetSO X.w D S n) ∧ n ≤ 1000 ∧ Q (.int (n : Nat)) H) := by
  intro pins s σ H xs us Q I r h
  obtain ⟨D, S, n, rfl, hD, hn, q⟩ := h
  rw [Vals.ref1 r]
  obtain ⟨o, es, ep, t, ho, hex, hd, _, _, _, _, hf, hsz, _⟩ := setSO_sets I hD
  refine call_len_set ho hex hd hf (by omega) ⟨.int n, H, I.tok _, ⟨_, by rw [hsz]⟩, q⟩
theorem rds_strs {K : PySem.W.Frag} {W : Addr → Prop} {H : Hp} : ∀ ns : List Str, RDs K W H (ns.map V.str) (ns.map Da.str)
  | [] => .nil
  | n :: ns => .cons (.str n) (rds_strs ns)
/-- len({..}) -/
def gLenSc (di : DTI) (c : CT) (tt : DTT) (te : DTE) (vs : List Nat) : DTE := fun δ M Q => gSc di c tt te vs δ M fun zs M1 => ∀ L : List Str, L.Nodup → (∀ z, z ∈ L ↔ z ∈ zs) → Q (.int (L.length : Nat)) M1
section
variable (hc : X.calm = true) (hN : X.N.Nodup) (hi : DI X tg iter di) (ok : BlkOk X.N X.env.scope scope own)
    (hg : ∀ (s : Shared) (H : Hp) (C : Addr) (cl : List (Str × Addr)) (fp : List Addr), PG (X.blk s H scope (compEnvC scope cl C X.env) fp) tg (c.tg X.K)) (ht : ∀ (s : Shared) (H : Hp) (C : Addr) (cl : List (Str × Addr)) (fp : List Addr), DTs (X.blk s H scope (compEnvC scope cl C X.env) fp) ifs tt)
    (he : ∀ (s : Shared) (H : Hp) (C : Addr) (cl : List (Str × Addr)) (fp : List Addr), DE (X.blk s H scope (compEnvC scope cl C X.env) fp) elt te)
include hc hN hi ok hg ht he in
theorem d_lenSc (m : X.mg "len" = none) (hv : ∀ i ∈ c.slots, i ∈ own.map (·.2) := by decide) (hs : ∀ x, foldedSetIterable iter X.env x = pure x := by intro _; rfl) (hgl : Gl X "len" := by rfl)
    (h1 : starEach [.SetComp elt [⟨tg, iter, ifs, 0⟩] scope pos2] X.env = (false, eval (.SetComp elt [⟨tg, iter, ifs, 0⟩] scope pos2) X.env) :: starEach [] X.env := by rfl) :
    DE X (.Call (.Name "len" p) [.SetComp elt [⟨tg, iter, ifs, 0⟩] scope pos2] [] pos) (gLenSc di c tt te (own.map (·.2))) :=
  imp (pe_callB cr_lenSS hgl m b_len (pa_cons (UX0.pe_sc (wi := LI X.K di) (g := c.tg X.K) (tt := Li rT X.K tt) (te := Li (rE X.K) X.K te) hc hN hi ok hg ht he hs) pa_nil h1) (he := h1)) fun σ H Q ⟨δ, F, W, M, Qd, ev, s, h, k⟩ => by
    refine li_sc (K := X.K) (w := X.w) (Q := fun v H2 => ∃ D S n, [v] = [V.ref D] ∧ H2 D = some (SetSO X.w D S n) ∧ n ≤ 1000 ∧ Q (.int (n : Nat)) H2) hv ev s h fun v H2 ⟨D, S, n, W2, M2, L, zs, e1, e2, g2, s2, hnd, hS, hn, hn2, hL, q⟩ => ?_
    subst e1
    exact ⟨D, S, n, rfl, e2, hn2, by rw [← hn]; exact (k.mono g2).now s2 (.int _) (q L hnd hL)⟩
end
end
end U
set_option Elab.async false
set_option linter.all false
set_option maxRecDepth 100000
set_option maxHeartbeats 2000000
namespace UZ0
open PySem PySem.Spec PyProof.Rows L2
theorem tuple_keys_none : typeLookup (.type "tuple") "keys" = pure none := am_miss_of_fast (by first | decide +kernel | rfl)
section
variable {prog : Program} {w : World} {A : Around} {E : Value → Shared → Prop}
theorem miss_tuple {s : Shared} {a : Addr} {o : Obj} {xs : Array Value} {k : Nat} {Q : Option Value → Shared → Prop} (hx : s.heap.get? a = some o) (hc : o.cls = .type "tuple") (hdat : o.data = .seq xs k) (hd : o.dict = none) (hA : A.handled = none)
    (h : ∀ h' tk, (∀ b ob, s.heap.get? b = some ob → h'.get? b = some ob) → Q none { s with heap := h', toks := tk }) : wpAny (model prog w) A (getAttr? (.ref a) "keys") Q E s := by
  obtain ⟨c, dct, dat, sl⟩ := o
  simp only at hc hdat hd
  subst hc hdat hd
  obtain ⟨hp, g, d, tk, os⟩ := s
  have hT : ∀ tk', (⟨hp, g, d, tk', os⟩ : Shared).TypeIs (.ref a) "tuple" := fun _ => ⟨_, hx, rfl⟩
  have hmiss := tuple_keys_none
  have hname : (["__module__", "__name__", "__qualname__", "__doc__", "__annotations__"] : List Str).contains "keys" = false := by decide +kernel
  have hsz : ("keys" : Str).length + 100 ≤ sizeLine := by first | size_fits | decide +kernel
  have f1 := sub_AttributeError
  have f3 := PySem.F.slot_tuple_getattribute.lookup
  have f4 := PySem.F.slot_tuple_getattribute.bind (.ref a)
  have f5 := am_tuple_getattr_none
  unfold getAttr? getAttrBy? getAttrBy
  repeat (any_goals (first | assumption | exact hT _ | ((with_reducible show wpAny _ _ (call (Value.builtin "tuple.__getattribute__") _ _) _ _ _); refine call_meets PySem.F.slot_tuple_getattribute (hT _) am_entry_tuple_getattribute (PySem.F.args_tuple_getattribute_2 _ _) (meets_getattribute_miss_tuple a xs k sl "keys" _ hmiss hname hsz) ⟨hx, hA, fun h' tk' e hx' => ?_⟩) | wp_step))
  obtain ⟨t', u', he⟩ := hx'.there
  show wpAny _ _ (getattributeRaised _ _ _ _ _ _ _) _ _ _
  unfold getattributeRaised
  repeat (any_goals (first | assumption | wp_step))
  all_goals first | exact h _ _ hx'.keeps | (dsimp only; repeat (any_goals (first | assumption | exact h _ _ hx'.keeps | wp_step)))

/-- the walk over the pairs -/
theorem upd_loopT {R : Result → Shared → Prop} {S I l : Addr} {items : Array Value} {res : Value} (hh : A.handled = none) (hlI : l ≠ I) (hSI : S ≠ I) (hSl : S ≠ l) :
    ∀ (rest : List (Key × Value)) (i : Nat) (acc : List (Key × Value)) (ix : Int) (t : Tok) (s : Shared), items.size = i + rest.length → acc.length + rest.length ≤ sizeLine →
      (∀ (j : Nat) (q : Key × Value), rest[j]? = some q → ∃ (b : Addr) (u : Value), items[i + j]? = some (.ref b) ∧ b ≠ S ∧ b ≠ I ∧ IsTup s.heap b #[u, q.2] ∧ keyIs q.1 u = true) →
      s.heap.IsTupleIter I l i → s.heap.IsTuple l items → s.heap.DictOf (mixKind prog w) S acc →
      (∀ h' tk, h'.DictOf (mixKind prog w) S (merged acc rest) → (∀ b o, b ≠ S → b ≠ I → s.heap.get? b = some o → h'.get? b = some o) → R (.ok (.ret res)) { s with heap := h', toks := tk }) →
      codeAny (model prog w) A (.builtin "dict.update.loop" ⟨[.ref S, .ref I, .int ix t, res], []⟩) R s
  | [], i, acc, ix, t, s, hsz, hln, ht, hit, hl, hm, hR => by
    refine codeAny_builtin ud_entry ?_
    rw [Around.under_plainId ud_plain _]
    show wpAny _ A.in1 (pyNext (.ref I) >>= _) _ _ s
    refine wpAny_bind (wpAny_pyNext_tuple_end (A := A.in1) hh hit hl (by first | exact Array.getElem?_eq_none (Nat.le_of_eq hsz) | (simp at hsz; simp; omega)) fun h' he => ?_)
    show wpAny _ A.in1 (Builtin.Dict.addKeywords S [] >>= _) _ _ _
    refine wpAny_bind (wpAny_pure (wpAny_pure ?_))
    exact hR h' s.toks (hm.extBut he hSI) fun b o _ hb e => he b o hb e
  | q :: rest, i, acc, ix, t, s, hsz, hln, ht, hit, hl, hm, hR => by
    obtain ⟨b, u, hb, hbS, hbI, htup, hk⟩ := ht 0 q rfl
    rw [List.length_cons] at hsz hln
    refine codeAny_builtin ud_entry ?_
    rw [Around.under_plainId ud_plain _]
    show wpAny _ A.in1 (pyNext (.ref I) >>= _) _ _ s
    refine wpAny_bind (wpAny_pyNext_tuple_item (x := .ref b) hit hl (by simpa using hb) fun h1 hit1 hs1 => ?_)
    have ht1 : IsTup h1 b #[u, q.2] := htup.extBut hs1.extBut hbI
    have hl1 : h1.IsTuple l items := hl.extBut hs1.extBut hlI
    have hm1 : h1.DictOf (mixKind prog w) S acc := hm.extBut hs1.extBut hSI
    obtain ⟨o, ho, hc, n, hd⟩ := id ht1
    show wpAny _ A.in1 (holding [Value.ref b] _ >>= _) _ _ _
    refine wpAny_bind (wpAny_holding ?_)
    refine wpAny_bind (wpAny_tryCatch ?_)
    unfold Builtin.Dict.pairItems
    refine wpAny_bind (wpAny_typeOf (T := "tuple") ⟨o, ho, hc⟩ ?_)
    rw [if_pos (by first | decide | rfl | simp)]
    refine wpAny_bind (wpAny_seqItems ho hd (wpAny_pure ?_))
    show wpAny _ A.in1 (holding [u, q.2] (dictSet S u q.2)) _ _ _
    refine wpAny_holding (wpAny_dictSet_pairs (knd := mixKind prog w) (k := q.1) hk hm1 (fun h2 hm2 hs2 => ?_) (by omega))
    refine wpAny_pure ⟨plainId_quiet ud_plain _, upd_loopT (items := items) hh hlI hSI hSl rest (i + 1) (stored acc q.1 q.2) (ix + 1) 0 _ (show items.size = i + 1 + rest.length by omega) ?_ (fun j q' e => ?_) ?_ ?_ hm2 fun h' tk hd' k => ?_⟩
    · have z := stored_length_le acc q.1 q.2
      omega
    · obtain ⟨b', u', hb', hbS', hbI', htup', hk'⟩ := ht (j + 1) q' (by simpa using e)
      refine ⟨b', u', ?_, hbS', hbI', (htup'.extBut hs1.extBut hbI').extBut hs2.extBut hbS', hk'⟩
      rw [show i + 1 + j = i + (j + 1) by omega]
      exact hb'
    · exact hit1.at fun o' e => hs2.extBut I o' (Ne.symm hSI) e
    · exact hl1.extBut hs2.extBut (Ne.symm hSl)
    · exact hR h' tk hd' fun c oc h3 h4 e => k c oc h3 h4 (hs2.extBut c oc h3 (hs1.extBut c oc h4 e))

/-- dict(l) of a list of pairs -/
theorem call_dict_pairsT {s : Shared} {l : Addr} {ol : Obj} {items : Array Value} {n : Nat} {prs : List (Key × Value)} {Q : Value → Shared → Prop} (hh : A.handled = none) (hl : s.heap.get? l = some ol) (hc : ol.cls = .type "tuple") (hd : ol.dict = none)
    (hdat : ol.data = .seq items n) (hsz : items.size = prs.length) (hln : prs.length ≤ sizeLine)
    (ht : ∀ (j : Nat) (q : Key × Value), prs[j]? = some q → ∃ (b : Addr) (u : Value), items[j]? = some (.ref b) ∧ IsTup s.heap b #[u, q.2] ∧ keyIs q.1 u = true)
    (h : ∀ h' tk, h'.DictOf (mixKind prog w) s.heap.objs.size (merged [] prs) → (∀ b o, s.heap.get? b = some o → h'.get? b = some o) → Q (.ref s.heap.objs.size) { s with heap := h', toks := tk }) :
    wpAny (model prog w) A (call (.type "dict") [.ref l]) Q E s := by
  refine callType_codes (Q₁ := fun obj s₁ => obj = .ref s.heap.objs.size ∧ s₁ = { s with heap := s.heap.push { cls := .type "dict", data := .dict #[] } }) PySem.F.kt_called_dict (PySem.F.kt_typeCall_dict_1 _) PySem.F.entry_dict_init (kt_code_dict_new _ ⟨rfl, rfl⟩) ?_
  rintro obj s₁ ⟨rfl, rfl⟩
  have hnew : (s.heap.push { cls := .type "dict", data := .dict #[] }).DictOf (mixKind prog w) s.heap.objs.size [] := Heap.DictOf.new s.heap
  have k0 : ∀ b o, s.heap.get? b = some o → (s.heap.push { cls := .type "dict", data := .dict #[] }).get? b = some o := fun b o e => Heap.get?_push_of_some _ e
  refine ⟨hnew.typeIs, PySem.F.args_dict_init_2 _ _, ?_⟩
  unfold Builtin.«dict.__init__»
  refine wpAny_bind ?_
  unfold Builtin.Dict.selfAndRest
  refine wpAny_bind (wpAny_notOrdered_dict hnew.typeIs ?_)
  show wpAny _ _ (pure (s.heap.objs.size, [Value.ref l])) _ _ _
  refine wpAny_pure ?_
  show wpAny _ _ (Builtin.Dict.updateFrom "dict.__init__" s.heap.objs.size (.ref l) [] .none) _ _ _
  unfold Builtin.Dict.updateFrom
  refine wpAny_bind (wpAny_typeOf (T := "tuple") ⟨ol, k0 _ _ hl, hc⟩ ?_)
  rw [if_pos (by first | decide | rfl | simp)]
  refine wpAny_bind (miss_tuple (k0 _ _ hl) hc hdat hd hh fun h1 tk1 hk1 => ?_)
  rw [if_pos (show (none : Option Value).isNone = true from rfl)]
  refine wpAny_bind (wpAny_rule ?_)
  have hl1 : h1.IsTuple l items := ⟨ol, hk1 _ _ (k0 _ _ hl), hc, n, hdat⟩
  have hS1 : s.heap.objs.size < h1.objs.size := by
    have e : (s.heap.push { cls := .type "dict", data := .dict #[] }).get? s.heap.objs.size = some { cls := .type "dict", data := .dict #[] } := Heap.get?_push_size _ rfl
    exact Heap.lt_size (hk1 _ _ e)
  refine wpAny_bind (wpAny_pyIter_tuple hl1 ?_)
  have k2 : ∀ b o, h1.get? b = some o → (h1.push { cls := .type "tuple_iterator", data := .fields #[.ref l, .int 0 0] }).get? b = some o := fun b o e => Heap.get?_push_of_some _ e
  have hlt : l < s.heap.objs.size := Heap.lt_size hl
  have key := upd_loopT (prog := prog) (w := w) (A := A.in1) (R := wants (fun r s₂ => r = .none ∧ Q (.ref s.heap.objs.size) s₂) E) (S := s.heap.objs.size) (I := h1.objs.size) (l := l) (items := items) (res := Value.none) hh
    (Nat.ne_of_lt (Nat.lt_trans hlt hS1)) (Nat.ne_of_lt hS1) (Nat.ne_of_gt hlt) prs 0 [] 0 0
    { s with heap := h1.push { cls := .type "tuple_iterator", data := .fields #[.ref l, .int 0 0] }, toks := tk1 } (by rw [hsz, Nat.zero_add]) (by rw [List.length_nil, Nat.zero_add]; exact hln)
    (fun j q e => by
      obtain ⟨b, u, e1, e2, e3⟩ := ht j q e
      have hb : b < s.heap.objs.size := e2.lt
      exact ⟨b, u, by rw [Nat.zero_add]; exact e1, Nat.ne_of_lt hb, Nat.ne_of_lt (Nat.lt_trans hb hS1), e2.keeps fun c o z => k2 _ _ (hk1 _ _ (k0 _ _ z)), e3⟩)
    ⟨_, Heap.get?_push_size _ rfl, rfl, rfl⟩ (hl1.at fun o e => k2 _ _ e) ((hnew.at fun o e => hk1 _ _ e).at fun o e => k2 _ _ e)
    (fun h' tk hd' k => ⟨rfl, h h' tk hd' fun b o e => k b o (Nat.ne_of_lt (Heap.lt_size e)) (Nat.ne_of_lt (Nat.lt_trans (Heap.lt_size e) hS1)) (k2 _ _ (hk1 _ _ (k0 _ _ e)))⟩)
  first
    | exact wpAny_pure ⟨plainId_quiet ud_plain _, key⟩
    | exact wpAny_bind (wpAny_pure (wpAny_pure ⟨plainId_quiet ud_plain _, key⟩))

end
end UZ0
namespace U
open PySem PySem.Spec PyProof.Rows L2 UX0 UZ0
def valD (kvs : List (Key × Da)) (k : Key) : Option Da := (kvs.find? fun kv => decide (kv.1 = k)).map (·.2)
def putDK (kvs : List (Key × Da)) (k : Key) (d : Da) : List (Key × Da) :=
  if (kvs.any fun kv => decide (kv.1 = k)) = true then kvs.map (fun kv => if kv.1 = k then (kv.1, d) else kv) else kvs ++ [(k, d)]
def mergeD (kvs more : List (Key × Da)) : List (Key × Da) := more.foldl (fun acc kv => putDK acc kv.1 kv.2) kvs
def kD : Key → Da
  | .inl i => .int i
  | .inr x => .str x
def asK : Da → Option Key
  | .int i => some (.inl i)
  | .str x => some (.inr x)
  | _ => none
theorem asK_kD (k : Key) : asK (kD k) = some k := by cases k <;> rfl
theorem asK_of {d : Da} {k : Key} (h : asK d = some k) : d = kD k := by
  cases d <;> first | (cases h; rfl) | cases h
section
variable {K : PySem.W.Frag} {F W W' : Addr → Prop} {H H' : Hp} {M : Mm} {p : Addr}
theorem rd_kD {v : V} {k : Key} (r : RD K W H v (kD k)) : v = kV k := by
  cases k <;> (cases r; rfl)
theorem RK.length : ∀ {vs : List (Key × V)} {ds : List (Key × Da)}, RK K W H vs ds → vs.length = ds.length
  | _, _, .nil => rfl
  | _, _, .cons _ k => by rw [List.length_cons, List.length_cons, k.length]
theorem RK.keys : ∀ {vs : List (Key × V)} {ds : List (Key × Da)}, RK K W H vs ds → vs.map (·.1) = ds.map (·.1)
  | _, _, .nil => rfl
  | _, _, .cons _ k => by rw [List.map_cons, List.map_cons, k.keys]
theorem RK.any (f : Key → Bool) : ∀ {vs : List (Key × V)} {ds : List (Key × Da)}, RK K W H vs ds → (vs.any fun kv => f kv.1) = ds.any fun kv => f kv.1
  | _, _, .nil => rfl
  | _, _, .cons _ k => by rw [List.any_cons, List.any_cons, k.any f]
theorem RK.val {k : Key} : ∀ {vs : List (Key × V)} {ds : List (Key × Da)}, RK K W H vs ds → (valV vs k = none ∧ valD ds k = none) ∨ ∃ v d, valV vs k = some v ∧ valD ds k = some d ∧ RD K W H v d
  | _, _, .nil => .inl ⟨rfl, rfl⟩
  | _, _, .cons (f := f) h t => by
    by_cases e : f = k
    · exact .inr ⟨_, _, valV_pos e, by simp [valD, List.find?_cons, e], h⟩
    · rw [valV_neg e]
      have : ∀ (d : Da) (ds : List (Key × Da)), valD ((f, d) :: ds) k = valD ds k := fun d ds => by simp [valD, List.find?_cons, e]
      rw [this]
      exact t.val
theorem RK.append : ∀ {vs ws : List (Key × V)} {ds es : List (Key × Da)}, RK K W H vs ds → RK K W H ws es → RK K W H (vs ++ ws) (ds ++ es)
  | _, _, _, _, .nil, r => r
  | _, _, _, _, .cons h t, r => .cons h (t.append r)
theorem RK.mapPut {k : Key} {v : V} {d : Da} (h : RD K W H v d) : ∀ {vs : List (Key × V)} {ds : List (Key × Da)}, RK K W H vs ds → RK K W H (vs.map fun kv => if kv.1 = k then (kv.1, v) else kv) (ds.map fun kv => if kv.1 = k then (kv.1, d) else kv)
  | _, _, .nil => .nil
  | _, _, .cons (f := f) h0 t => by
    rw [List.map_cons, List.map_cons]
    by_cases q : f = k
    · simp only [q, if_true]; exact .cons h (RK.mapPut h t)
    · simp only [q, if_false]; exact .cons h0 (RK.mapPut h t)
theorem RK.put {k : Key} {v : V} {d : Da} {vs : List (Key × V)} {ds : List (Key × Da)} (r : RK K W H vs ds) (h : RD K W H v d) : RK K W H (putK vs k v) (putDK ds k d) := by
  unfold putK putDK
  have e : (vs.any fun kv => decide (kv.1 = k)) = ds.any fun kv => decide (kv.1 = k) := r.any (fun x => decide (x = k))
  rw [e]
  split
  · exact RK.mapPut h r
  · exact r.append (.cons h .nil)
theorem RK.merge : ∀ {more : List (Key × V)} {dm : List (Key × Da)}, RK K W H more dm → ∀ {vs : List (Key × V)} {ds : List (Key × Da)}, RK K W H vs ds → RK K W H (mergeK vs more) (mergeD ds dm)
  | _, _, .nil, _, _, r => r
  | _, _, .cons (f := f) (v := v) (vs := vs) (d := d) (ds := ds) h t, vs0, ds0, r => by
    show RK K W H (mergeK (putK vs0 f v) vs) (mergeD (putDK ds0 f d) ds)
    exact t.merge (r.put h)
/-- a dict, settled or not -/
def dctP (x : Da) (M : Mm) (k : List (Key × Da) → Prop) : Prop := match x with
  | .dct kvs => k kvs
  | .ref p => ∃ kvs, M p = some (.dct kvs) ∧ k kvs
  | _ => False
theorem Stt.dict (s : Stt K F W M H) {kvs : List (Key × Da)} (h : M p = some (.dct kvs)) : ∃ vs, H p = some (.dK vs) ∧ RK K W H vs kvs := by
  obtain ⟨u, hu, mr⟩ := s.mem _ _ h
  cases mr with
  | dct rv => exact ⟨_, hu, rv⟩
theorem dct_of {v : V} {d : Da} (s : Stt K F W M H) (r : RD K W H v d) {k : List (Key × Da) → Prop} (h : dctP d M k) : ∃ a vs ds, v = .ref a ∧ H a = some (.dK vs) ∧ RK K W H vs ds ∧ k ds := by
  cases r <;> first | exact h.elim | skip
  · obtain ⟨kvs, e, q⟩ := h
    obtain ⟨vs, e2, rv⟩ := s.dict e
    exact ⟨_, _, _, rfl, e2, rv, q⟩
  · rename_i a vs ds hw he rv
    exact ⟨_, _, _, rfl, he, rv, h⟩
theorem Kt.newD {Qd : DK} {Q : VK} {q : Addr} {vs : List (Key × V)} {ds : List (Key × Da)} (k : Kt (rE K) K F W H Qd Q) (s : Stt K F W M H) (h : H q = none) (r : RK K W H vs ds) (z : Qd (.dct ds) M) : Q (.ref q) (upd H q (.dK vs)) := by
  obtain ⟨s1, g1⟩ := s.new h (.dK vs)
  exact (k.mono g1).now s1 (.dct (.inl rfl) upd_same (r.mono g1)) z
end
section
variable {X : Cx} {o i e value : Expr} {fo fi f fv : DTE} {pos apos cpos p : Pos}
/-- d[k] of a dict -/
def gDix (fo fi : DTE) : DTE := fun δ M Q => fo δ M fun x M1 => fi δ M1 fun y M2 => dctP x M2 fun kvs => ∃ k d, asK y = some k ∧ valD kvs k = some d ∧ Q d M2
theorem d_dix (hu : X.A.units + 64 < cLine) (ho : DE X o fo) (hi : DE X i fi) (hs : NoSl i := by exact fun _ _ => rfl) : DE X (.Subscript o i pos) (gDix fo fi) := imp (pe_dget (Nat.lt_of_le_of_lt (Nat.add_le_add_left (by decide) _) hu) ho hi hs) fun σ H Q ⟨δ, F, W, M, Qd, ev, s, h, k⟩ =>
  ⟨δ, F, W, M, _, ev, s, h, fun v1 H1 W1 d1 M1 g1 s1 r1 q1 => ⟨δ, F, W1, M1, _, ev.mono g1, s1, q1, fun v2 H2 W2 d2 M2 g2 s2 r2 q2 => by
    obtain ⟨a, vs, ds, rfl, ha, rv, kk, d, hk, hd, q⟩ := dct_of s2 (r1.mono g2) q2
    rw [asK_of hk] at r2
    obtain rfl := rd_kD r2
    rcases rv.val (k := kk) with ⟨_, e⟩ | ⟨v, d', e1, e2, r⟩
    · rw [hd] at e; cases e
    · rw [hd] at e2; cases e2
      refine ⟨a, v, rfl, ?_, (k.mono (g1.trans g2)).now s2 r q⟩
      rw [← e1]; exact DGet.k ha⟩⟩
/-- d.get(k) of a dict -/
def gDget (fo fi : DTE) : DTE := fun δ M Q => fo δ M fun x M1 => (dctP x M1 fun _ => True) ∧ fi δ M1 fun y M2 => dctP x M2 fun kvs => ∃ k, asK y = some k ∧ Q ((valD kvs k).getD .non) M2
theorem d_get (hu : X.A.units + 64 < cLine) (ho : DE X o fo) (he : DE X e fi) (h1 : attributeBase o "get" X.env (eval o X.env) = eval o X.env := by rfl)
    (h2 : ((backTo cpos (starEach [e] X.env)).all (fun x => !x.1) && (backToKw cpos (keywordEach [] X.env)).all (fun x => x.1.isSome)
    && decide (([e] : List Expr).length + ([] : List Keyword).length + (if ([] : List Keyword).isEmpty then 0 else 1) < 30)) = true := by rfl)
    (h3 : (apos.endLine == cpos.line) = true := by rfl) (h4 : backTo cpos (starEach [e] X.env) = [(false, eval e X.env)] := by rfl) : DE X (.Call (.Attribute o "get" apos) [e] [] cpos) (gDget fo fi) := imp (pe_dget1 (Nat.lt_of_le_of_lt (Nat.add_le_add_left (by decide) _) hu) ho he ⟨h1, h2, h3, h4⟩) fun σ H Q ⟨δ, F, W, M, Qd, ev, s, h, k⟩ =>
  ⟨δ, F, W, M, _, ev, s, h, fun v1 H1 W1 d1 M1 g1 s1 r1 ⟨q0, q1⟩ => by
    obtain ⟨a, vs, ds, rfl, ha, rv, _⟩ := dct_of s1 r1 q0
    refine ⟨a, rfl, .inl ⟨_, .inl ha⟩, δ, F, W1, M1, _, ev.mono g1, s1, q1, fun v2 H2 W2 d2 M2 g2 s2 r2 q2 => ?_⟩
    obtain ⟨b, vs, ds, e1, ha, rv, kk, hk, q⟩ := dct_of s2 (r1.mono g2) q2
    cases e1
    rw [asK_of hk] at r2
    obtain rfl := rd_kD r2
    refine ⟨_, DGet.k ha, ?_⟩
    rcases rv.val (k := kk) with ⟨e1, e2⟩ | ⟨v, d', e1, e2, r⟩
    · rw [e1]; rw [e2] at q
      exact (k.mono (g1.trans g2)).now s2 .non q
    · rw [e1]; rw [e2] at q
      exact (k.mono (g1.trans g2)).now s2 r q⟩
/-- dict(ps) of a tuple of pairs -/
def kDict : DC := fun xs M Q => match xs with
  | [.tup ps] => ∃ prs : List (Key × Da), ps = prs.map (fun q => .tup [kD q.1, q.2]) ∧ Q (.dct (mergeD [] prs)) M
  | _ => False
/-- a tuple without a dict of its own -/
def PlT (K : PySem.W.Frag) (H : Hp) (a : Addr) (vs : List V) : Prop := (∃ o, H a = some (.frz o (.tup vs)) ∧ o.dict = none) ∨ (SqT K (fun _ => none) a vs ∧ ∃ o, K.lookup a = some o ∧ o.dict = none)
theorem Stt.plT {K : PySem.W.Frag} {F W : Addr → Prop} {H : Hp} {M : Mm} {a : Addr} {vs : List V} (s : Stt K F W M H) : Sp' K W H a vs → PlT K H a vs
  | .inl ⟨w, .inl h⟩ => (s.pl a _ w h).elim
  | .inl ⟨w, .inr ⟨o, h⟩⟩ => .inl ⟨o, h, s.pl a _ w h⟩
  | .inr h => .inr h
theorem PlT.run {pins : List (Addr × Obj)} {σ : L2.St} {H : Hp} {s : Shared} {a : Addr} {vs : List V} (I : Inv X pins σ H s) (h : PlT X.K H a vs) : ∃ (o : Obj) (its : List Value) (n : Nat), s.heap.get? a = some o ∧ o.cls = .type "tuple" ∧ o.dict = none ∧ o.data = .seq its.toArray n ∧ Vals vs its ∧ vs.length ≤ sizeLine := by
  rcases h with ⟨o, h, hd⟩ | ⟨h, o, hk, hd⟩
  · have q : ObjOk X.prog X.w H s.heap a (.frz o (.tup vs)) := I.hok a _ h
    obtain ⟨q1, q2⟩ := q
    obtain ⟨z, its, r, o2, e, hc, n, hdt⟩ := q2
    rw [q1] at e
    cases e
    exact ⟨o, its, n, q1, hc, hd, hdt, r, z⟩
  · rcases h with h | ⟨o2, its, n, hk2, hc, hs, hz, r⟩
    · rcases h with h | ⟨_, h⟩ <;> cases h
    · rw [hk] at hk2
      cases hk2
      exact ⟨o, its.toList, n, I.kIn a o hk, hc, hd, by simpa using hs, r, by rw [r.length]; simpa using hz⟩
theorem call_dictPT (hcalm : X.calm = true) : CallR X (.type "dict") (fun xs H Q => ∃ (a : Addr) (ps : List Addr) (kvs : List (Key × V)), xs = [.ref a] ∧ PlT X.K H a (ps.map V.ref) ∧ Paired (fun p kv => SqT X.K H p [kV kv.1, kv.2]) ps kvs ∧
    ∀ p, H p = none → Q (.ref p) (upd H p (.dK (mergeK [] kvs)))) := by
  intro pins s σ H xs us Q I r q
  obtain ⟨a, ps, kvs, ex, hq, hp, q⟩ := q
  subst ex
  obtain ⟨u, eu, rx⟩ := vals1 r
  subst eu
  cases rx
  obtain ⟨o, its, n, ho, hc, hd, hdat, rv, hz⟩ := hq.run I
  have ei := refs_at rv
  subst ei
  rw [List.length_map] at hz
  obtain ⟨prs, rel, hl, hpr⟩ := pairs_of I hp
  refine call_dict_pairsT (prs := prs) (I.ok.hd hcalm) ho hc hd hdat (by simp [hl]) (by rw [hl]; exact hz) (fun j q' e => ?_) fun h' tk hd' k => ?_
  · obtain ⟨b, u, e1, e2, e3⟩ := hpr j q' e
    exact ⟨b, u, by simp [e1], e2, e3⟩
  · have hm : (s.heap.objs.size == sysModules) = false := beq_eq_false_iff_ne.mpr (Nat.ne_of_gt I.big)
    have hlen : (mergeK [] kvs).length ≤ sizeLine := by
      refine Nat.le_trans (length_mergeK kvs []) ?_
      rw [List.length_nil, Nat.zero_add, rel.length, hl]
      exact hz
    exact ⟨.ref s.heap.objs.size, upd H s.heap.objs.size (.dK (mergeK [] kvs)), I.laid (t' := tk) k (Nat.le_refl _) (show ObjOk X.prog X.w _ _ _ (.dK (mergeK [] kvs)) from ⟨hlen, hm, merged [] prs, KV.merge rel .nil, hd'⟩), rfl, q _ (I.hok.fresh (Nat.le_refl _))⟩
theorem rd_pair {K : PySem.W.Frag} {W : Addr → Prop} {H : Hp} {v : V} {k : Key} {d : Da} (r : RD K W H v (.tup [kD k, d])) : ∃ b u, v = .ref b ∧ SqT K H b [kV k, u] ∧ RD K W H u d := by
  cases r with
  | tup hs rv =>
    cases rv with
    | cons r1 rr =>
      cases rr with
      | cons r2 rr =>
        cases rr
        obtain rfl := rd_kD r1
        exact ⟨_, _, rfl, hs.sq, r2⟩
theorem rds_pairs {K : PySem.W.Frag} {W : Addr → Prop} {H : Hp} : ∀ {vs : List V} {prs : List (Key × Da)}, RDs K W H vs (prs.map fun q => .tup [kD q.1, q.2]) → ∃ (ps : List Addr) (kvs : List (Key × V)), vs = ps.map V.ref ∧ Paired (fun p kv => SqT K H p [kV kv.1, kv.2]) ps kvs ∧ RK K W H kvs prs
  | _, [], .nil => ⟨[], [], rfl, .nil, .nil⟩
  | _, (k, d) :: prs, .cons h t => by
    obtain ⟨b, u, rfl, hb, hu⟩ := rd_pair h
    obtain ⟨ps, kvs, rfl, hp, hk⟩ := rds_pairs t
    exact ⟨b :: ps, (k, u) :: kvs, rfl, .cons hb hp, .cons hu hk⟩
theorem c_ddict (hc : X.calm = true) : CD X (.type "dict") kDict := cd_imp fun vs H Q ⟨F, W, M, ds, Qd, r, s, h, k⟩ => by
  refine ⟨_, call_dictPT hc, ?_⟩
  unfold kDict at h
  split at h
  · obtain ⟨v, rfl, r1⟩ := r.one
    obtain ⟨prs, rfl, q⟩ := h
    cases r1 with
    | tup hs rv =>
      obtain ⟨ps, kvs, rfl, hp, hk⟩ := rds_pairs rv
      exact ⟨_, ps, kvs, rfl, s.plT hs, hp, fun p hpf => k.newD s hpf (hk.merge .nil) q⟩
  · exact h.elim
end
end U
set_option Elab.async false
set_option linter.all false
set_option maxRecDepth 100000
set_option maxHeartbeats 2000000
namespace U
open PySem PySem.Spec PyProof.Rows L2 UX0 UZ0
section
variable {X : Cx} {a e : Expr} {fa f : DTE} {pos p : Pos}
/-- two sorted rows without doubles that hold the same are equal -/
theorem nodup_perm {α : Type} [DecidableEq α] {xs ys : List α} (h1 : xs.Nodup) (h2 : ys.Nodup) (h : ∀ z, z ∈ xs ↔ z ∈ ys) : xs.Perm ys := by
  rw [List.perm_iff_count]
  intro z
  rw [h1.count, h2.count]
  simp only [h z]
structure KStrs (K : PySem.W.Frag) (x : Str) (zs : List Str) : Prop where
  ex : ∃ a its n sl, PySem.W.nsIn K mainGlobals x = some (some (.ref a)) ∧ K.lookup a = some ⟨.type "tuple", none, .seq its n, sl⟩ ∧ its.size ≤ sizeLine ∧ Vals (zs.map V.str) its.toList
theorem kstrs_mk {K : PySem.W.Frag} {x : Str} {zs : List Str} {a : Addr} {its : Array Value} {n : Nat} {sl : Array (Option Value)} (h1 : PySem.W.nsIn K mainGlobals x = some (some (.ref a))) (h2 : K.lookup a = some ⟨.type "tuple", none, .seq its n, sl⟩)
    (h3 : its.size ≤ sizeLine) (h4 : Vals (zs.map V.str) its.toList) : KStrs K x zs := ⟨a, its, n, sl, h1, h2, h3, h4⟩
theorem d_gt {x : Str} {zs : List Str} (M : MgOf X.K X.mg) (h : KStrs X.K x zs) (hg : Gl X x := by rfl) (hd : (x == ("__debug__" : Str)) = false := by decide) : DE X (.Name x pos) (gC (.tup (zs.map Da.str))) := by
  obtain ⟨a, its, n, sl, h1, h2, h3, h4⟩ := h.ex
  exact d_const (v := .ref a) (pe_glob hg (M.of _ _ h1) rfl hd) fun W H => .tup (.inr ⟨.inr ⟨_, its, n, h2, rfl, rfl, h3, h4⟩, _, h2, rfl⟩) (rds_strs zs)
theorem Slts.nil : Slts X [] [] := ⟨rfl, fun k n i e => by simp at e⟩
theorem Slts.cons {n : Str} {i : Nat} {ns : List Str} {is : List Nat} (hi : X.N[i]? = some n) (r : Slts X ns is) (hx : Loc X.env.scope n := by first | exact Or.inl rfl | exact Or.inr rfl)
    (hf : X.fn n = true ∨ X.env.scope.names.lookup n = some .local := by first | exact .inl rfl | exact .inr rfl) : Slts X (n :: ns) (i :: is) := by
  refine ⟨by rw [List.length_cons, List.length_cons, r.len], fun k m j e1 e2 => ?_⟩
  cases k with
  | zero => cases e1; cases e2; exact ⟨hi, hx, hf⟩
  | succ k => exact r.at_ k m j (by simpa using e1) (by simpa using e2)
end
end U
set_option Elab.async false
set_option linter.all false
set_option maxRecDepth 100000
set_option maxHeartbeats 2000000
namespace U
open PySem PySem.Spec PyProof.Rows L2
section
variable {X : Cx}
def hInC : D2 := fun x y M Q => ∃ (c : Nat) (z : Str), x = .str ⟨#[c]⟩ ∧ y = .str z ∧ Q (.bl (decide (c ∈ z.cps.toList))) M
theorem o_dinC : DO X (compareOp .In) hInC := do_imp fun x y H Q ⟨F, W, M, d, e, Qd, r1, r2, s, h, k⟩ => by
  obtain ⟨c, z, rfl, rfl, q⟩ := h
  cases r1; cases r2
  exact ⟨_, op_inS, c, z, rfl, rfl, k.now s (.bl _) q⟩
/-- t != () -/
def rNeE (K : PySem.W.Frag) : R2 := fun x y H Q => ∃ a b xs, x = .ref a ∧ y = .ref b ∧ SqT K H a xs ∧ SqT K H b [] ∧ Q (.bl (!xs.isEmpty)) H
theorem op_neE (hu : X.A.units < cLine) : OpR X (compareOp .NotEq) (rNeE X.K) := by
  intro pins s σ H x y v u Q I rx ry h
  obtain ⟨a, b, xs, rfl, rfl, ha, hb, q⟩ := h
  cases rx
  cases ry
  obtain ⟨its, r, p, _⟩ := I.tuple ha
  obtain ⟨its2, r2, p2, _⟩ := I.tuple hb
  cases r2
  show wpAny _ _ (richCompare .NotEq (Value.ref a) (Value.ref b)) _ _ _
  refine SeqAt.RcNeAt.tuples (e := fun _ => true) p p2 hu (fun j h1 h2 => by simp at h2) _ _ _ _ ?_
  have e : (!(((List.range (min its.toArray.size (#[] : Array Value).size)).all fun x => true) && its.toArray.size == (#[] : Array Value).size)) = !xs.isEmpty := by
    cases r <;> simp
  rw [e]
  exact ⟨.bl _, H, I, rfl, q⟩
def hNeE : D2 := fun x y M Q => match x, y with
  | .tup xs, .tup [] => Q (.bl (!xs.isEmpty)) M
  | _, _ => False
theorem o_dneE (hu : X.A.units + 64 < cLine) : DO X (compareOp .NotEq) hNeE := do_imp fun x y H Q ⟨F, W, M, d, e, Qd, r1, r2, s, h, k⟩ => by
  unfold hNeE at h
  split at h
  · cases r1 with
    | tup hs rv =>
      cases r2 with
      | tup ht rw_ =>
        cases rw_
        refine ⟨_, op_neE (by omega), _, _, _, rfl, rfl, hs.sq, ht.sq, k.now s (.bl _) ?_⟩
        cases rv <;> exact h
  · exact h.elim
end
/-- values of the plain kinds, all the way down -/
inductive pv : Da → Prop
  | non : pv .non
  | bl (b : Bool) : pv (.bl b)
  | int (i : Int) : pv (.int i)
  | str (z : Str) : z.length ≤ 1000 → pv (.str z)
  | lst (xs : List Da) : xs.length ≤ 5000 → (∀ x ∈ xs, pv x) → pv (.lst xs)
  | tup (xs : List Da) : xs.length ≤ 5000 → (∀ x ∈ xs, pv x) → pv (.tup xs)
  | dct (kvs : List (Key × Da)) : pv (.dct kvs)
theorem letters (c : Nat) : decide (c ∈ ("abcdefghijklmnopqrstuvwxyz" : Str).cps.toList) = (decide (97 ≤ c) && decide (c ≤ 122)) := by
  by_cases h : c < 128
  · exact (show ∀ c : Fin 128, decide (c.val ∈ ("abcdefghijklmnopqrstuvwxyz" : Str).cps.toList) = (decide (97 ≤ c.val) && decide (c.val ≤ 122)) by decide +kernel) ⟨c, h⟩
  · rw [decide_eq_false (show ¬ c ≤ 122 by omega), Bool.and_false]
    refine decide_eq_false fun m => h ?_
    exact (show ∀ c ∈ ("abcdefghijklmnopqrstuvwxyz" : Str).cps.toList, c < 128 by decide +kernel) c m
/-- whether a value is a name -/
def nameZ (z : Str) : Bool := decide (0 < z.length) && decide (z.length ≤ 8) && z.cps.toList.all fun c => decide (97 ≤ c) && decide (c ≤ 122)
def nameD : Da → Bool
  | .str z => nameZ z
  | _ => false
end U
namespace U
open PySem PySem.Spec PyProof.Rows L2
/-- a def whose promise nobody can ask for -/
theorem KnD.never {P : Program} {w : World} {K : PySem.W.Frag} {mg : Str → Option Value} {base : Heap} {x : Str} {st : Stmt} {N ps : List Str} {k : Nat} {sp : DSp} (F : HasDef K x st) (M : MgOf K mg) (S : FnScope N ps (defScope st))
    (hb : ∀ (kV doc pm : Value) (an : Option Addr) (cdv ct : Value) (us : List Value), us.length = ps.length → bindArgs (PySem.W.fnOf x x (defArgs st) (defBody st) (defScope st) .none kV doc pm an cdv ct) ⟨us, []⟩ = pure (ps.zip us))
    (no : ∀ ds M Q E, ¬ sp ds M Q E) : KnD P w K mg base x (k + 1) ps sp :=
  Known.of F M S hb (lsp_len fun ds M Q E h => (no _ _ _ _ h).elim) fun f cdv A outer s H vs Q E hr ⟨F, W, M, ds, Qd, Ed, r, st, h, kk, kx⟩ => (no _ _ _ _ h).elim
theorem inD_strs (ws : List Str) (z : Str) : inD (.str z) (ws.map Da.str) = ws.contains z := by
  unfold inD
  rw [List.any_map, List.contains_eq_any_beq]
  congr 1
  funext w
  show eqD (.str w) (.str z) = (z == w)
  rw [eqD_dec (p := z = w) rfl rfl ⟨fun h => by cases h; rfl, fun h => by rw [h]⟩]
  by_cases h : z = w
  · subst h; simp
  · rw [decide_eq_false h, beq_eq_false_iff_ne.mpr h]
theorem flat_strs (ws : List Str) (z : Str) : flat2 (.str z) (ws.map Da.str) = true := by
  unfold flat2
  rw [List.all_map, Bool.and_eq_true, List.all_eq_true]
  exact ⟨rfl, fun _ _ => rfl⟩
end U
namespace U
/-- a while by a measure -/
theorem wh_ind {c : DTT} {tb : DTS} {D : DEnds} (I : Nat → De → Mm → Prop)
    (hs : ∀ (n : Nat) δ M (NX : De → Mm → Prop), I n δ M → (∀ δ' M' m, m < n → I m δ' M' → NX δ' M') → c δ M fun b M1 => if b = true then tb { D with nx := NX, ct := NX, bk := D.nx } δ M1 else D.nx δ M1) {n : Nat} {δ : De} {M : Mm} (h : I n δ M) : hWhile c tb D δ M := by
  have go : ∀ (N n : Nat) (δ : De) (M : Mm), n < N → I n δ M → whD c tb D N δ M := by
    intro N
    induction N with
    | zero => intro n δ M h _; omega
    | succ N ih => intro n δ M h hI; exact hs n δ M (whD c tb D N) hI fun δ' M' m hm hI' => ih m δ' M' (by omega) hI'
  exact ⟨n + 1, go _ n δ M (Nat.lt_succ_self n) h⟩
end U
namespace U
open PySem PySem.Spec PyProof.Rows L2
theorem lcS_map {α : Type} {c : CT} {tt : DTT} {te : DTE} {δ : De} {M : Mm} {g : α → Da} (p : α → Bool) (f : α → Str) : ∀ {l : List α} {k : List Str → Mm → Prop}, (∀ x ∈ l, c.ok (g x) ∧ ∀ Q : Bool → Mm → Prop, Q (p x) M → tt (c.set (g x) δ) M Q) →
    (∀ x ∈ l, p x = true → ∀ Q : DK, Q (.str (f x)) M → te (c.set (g x) δ) M Q) → k ((l.filter p).map f) M → lcS c tt te δ (l.map g) k M
  | [], k, _, _, h => h
  | x :: l, k, h1, h2, h => by
    obtain ⟨o, t⟩ := h1 x List.mem_cons_self
    refine ⟨o, t _ ?_⟩
    cases e : p x with
    | false =>
      rw [List.filter_cons, e, if_neg Bool.false_ne_true] at h
      exact lcS_map p f (fun y hy => h1 y (List.mem_cons_of_mem _ hy)) (fun y hy => h2 y (List.mem_cons_of_mem _ hy)) h
    | true =>
      rw [List.filter_cons, e, if_pos rfl] at h
      exact h2 x List.mem_cons_self e _ (lcS_map p f (fun y hy => h1 y (List.mem_cons_of_mem _ hy)) (fun y hy => h2 y (List.mem_cons_of_mem _ hy)) h)
theorem lcS_all {α : Type} {c : CT} {te : DTE} {δ : De} {M : Mm} {g : α → Da} (f : α → Str) {l : List α} {k : List Str → Mm → Prop} (h1 : ∀ x ∈ l, c.ok (g x)) (h2 : ∀ x ∈ l, ∀ Q : DK, Q (.str (f x)) M → te (c.set (g x) δ) M Q)
    (h : k (l.map f) M) : lcS c gYes te δ (l.map g) k M :=
  lcS_map (fun _ => true) f (fun x hx => ⟨h1 x hx, fun Q q => q⟩) (fun x hx _ => h2 x hx) (by rw [List.filter_eq_self.mpr (fun _ _ => rfl)]; exact h)
theorem not_nodup {α : Type} [DecidableEq α] : ∀ {l : List α}, ¬ l.Nodup → ∃ l' : List α, l'.length + 1 = l.length ∧ ∀ z ∈ l, z ∈ l'
  | [], h => (h List.nodup_nil).elim
  | x :: r, h => by
    by_cases hx : x ∈ r
    · exact ⟨r, rfl, fun z hz => (List.mem_cons.mp hz).elim (fun e => e ▸ hx) id⟩
    · obtain ⟨l', h1, h2⟩ := not_nodup (l := r) fun hr => h (List.nodup_cons.mpr ⟨hx, hr⟩)
      exact ⟨x :: l', by rw [List.length_cons, h1, List.length_cons], fun z hz => (List.mem_cons.mp hz).elim (fun e => e ▸ List.mem_cons_self) fun hz => List.mem_cons_of_mem _ (h2 z hz)⟩
/-- a row without doubles that holds what l holds is as long as l just if l has no doubles -/
theorem len_nodup {α : Type} [DecidableEq α] {L l : List α} (hL : L.Nodup) (h : ∀ z, z ∈ L ↔ z ∈ l) : L.length = l.length ↔ l.Nodup := by
  constructor
  · intro e
    apply Classical.byContradiction
    intro hn
    obtain ⟨l', h1, h2⟩ := not_nodup hn
    have := hL.length_le_of_subset fun z hz => h2 z ((h z).mp hz)
    omega
  · intro hl
    exact (nodup_perm hL hl h).length_eq
def kvsD (own : List (Str × Str)) : List (Key × Da) := own.map fun p => (Sum.inr p.1, Da.str p.2)
theorem putDK_new {kvs : List (Key × Da)} {k : Key} {d : Da} (h : k ∉ kvs.map (·.1)) : putDK kvs k d = kvs ++ [(k, d)] := by
  unfold putDK
  rw [if_neg]
  intro e
  obtain ⟨p, hp, he⟩ := List.any_eq_true.mp e
  exact h (by rw [← of_decide_eq_true he]; exact List.mem_map_of_mem hp)
theorem mergeD_new : ∀ {more acc : List (Key × Da)}, (acc.map (·.1) ++ more.map (·.1)).Nodup → mergeD acc more = acc ++ more
  | [], acc, _ => by show acc = _; rw [List.append_nil]
  | p :: r, acc, h => by
    show mergeD (putDK acc p.1 p.2) r = _
    have hn : p.1 ∉ acc.map (·.1) := fun hm => by
      have := (List.nodup_append.mp h).2.2 _ hm _ List.mem_cons_self
      exact this rfl
    rw [putDK_new hn, mergeD_new (acc := acc ++ [(p.1, p.2)]) (by
      rw [List.map_append, List.append_assoc]
      exact h)]
    rw [List.append_assoc]; rfl
theorem inr_nodup {own : List (Str × Str)} (h : (own.map (·.1)).Nodup) : ((kvsD own).map (·.1)).Nodup := by
  unfold kvsD
  rw [List.map_map]
  have : (own.map ((fun x : Key × Da => x.1) ∘ fun p : Str × Str => (Sum.inr p.1, Da.str p.2))) = (own.map (·.1)).map Sum.inr := by rw [List.map_map]; rfl
  rw [this]
  exact List.pairwise_map.mpr (h.imp fun hab e => hab (Sum.inr.inj e))
end U
namespace U
open PySem PySem.Spec PyProof.Rows L2
section
variable {X : Cx} {C : Addr} {k : Nat} {ps : List Str}
end
end U
namespace U
open PySem PySem.Spec PyProof.Rows L2
theorem c_disiK {X : Cx} {K : PySem.W.Frag} (h : X.K = K) : CD X (.builtin "isinstance") (kIsi K) := h ▸ c_disi
end U
set_option Elab.async false
set_option linter.all false
set_option maxRecDepth 100000
set_option maxHeartbeats 2000000
namespace U
open PySem PySem.Spec PyProof.Rows L2
abbrev KnXD (P : Program) (w : World) (K : PySem.W.Frag) (mg : Str → Option Value) (base : Heap) (x : Str) (k : Nat) (ps : List Str) (sp : DSp) : Prop := Known P w K mg base (L2.CX P w) x k ps (LSp K sp)
abbrev KnMXD (P : Program) (w : World) (K : PySem.W.Frag) (mg : Str → Option Value) (base : Heap) (C : Addr) (m : Str) (k : Nat) (ps : List Str) (sp : DSp) : Prop := KnownM P w K mg base (L2.CX P w) C m k ps (LSp K sp)
def bodyX (Q : DK) (Ed : DX) : DEnds := { nx := fun _ M => Q .non M, rt := Q, ex := Ed }
theorem ls_bodyX {K : PySem.W.Frag} {F W : Addr → Prop} {M : Mm} {H : Hp} {N : List Str} {vs : List V} {ds : List Da} {Qd : DK} {Q : VK} {Ed : DX} {E : XK} {t : DTS} (r : RDs K W H vs ds) (s : Stt K F W M H) (k : Kt (rE K) K F W H Qd Q) (kx : KX K F W H Ed E) (h : t (bodyX Qd Ed) (startD N ds) M) :
    LS K E t { nx := fun _ H' => Q .non H', rt := Q } (start N vs) H :=
  ⟨_, F, W, M, _, env_start N r, s, h, fun σ H' W' δ M' g s' e q => k _ _ _ _ _ g s' .non q, k, fun _ _ _ _ _ _ _ _ z => z.elim, fun _ _ _ _ _ _ _ _ z => z.elim, kx⟩
theorem kx_def {P : Program} {w : World} {K : PySem.W.Frag} {mg : Str → Option Value} {base : Heap} {N : List Str} {x : Str} {sc : Scope} {f : Addr} {cdv : Value} {A : Around} {outer : List Env} {s : Shared} {H0 : Hp} {E : XK} {F W : Addr → Prop} {H : Hp} {Ed : DX} (kx : KX K F W H Ed E) :
    KX K F W H Ed (EXm (cxOf (L2.CX P w) P w K mg base N x sc f cdv A outer s H0 E)) :=
  fun cls d H' W' fs M' g s' r q => EXm.of (takes_of rfl rfl rfl rfl) fun _ _ => kx cls d H' W' fs M' g s' r q
theorem KnXD.of {P : Program} {w : World} {K : PySem.W.Frag} {mg : Str → Option Value} {base : Heap} {x : Str} {st : Stmt} {N ps : List Str} {k : Nat} {sp : DSp} (F : HasDef K x st) (M : MgOf K mg) (S : FnScope N ps (defScope st))
    (hb : ∀ (kV doc pm : Value) (an : Option Addr) (cdv ct : Value) (us : List Value), us.length = ps.length → bindArgs (PySem.W.fnOf x x (defArgs st) (defBody st) (defScope st) .none kV doc pm an cdv ct) ⟨us, []⟩ = pure (ps.zip us))
    (len : ∀ ds M Q E, sp ds M Q E → ds.length = ps.length)
    (hbody : ∀ (f : Addr) (cdv : Value) (A : Around) (outer : List Env) (s : Shared) (H : Hp) (E : XK), Room k (A.deeper (envOfC x (defScope st) s.heap.objs.size f cdv)) →
      ∃ t, DB (cxOf (L2.CX P w) P w K mg base N x (defScope st) f cdv A outer s H E) (defBody st) t ∧ ∀ ds M Q Ed, sp ds M Q Ed → t (bodyX Q Ed) (startD N ds) M) : KnXD P w K mg base x (k + 1) ps sp := by
  obtain ⟨f, fd, G, e⟩ := F.ex
  refine ⟨f, fd, G.okX S (lsp_len len) (fun cdv A outer s H vs Q E hr ⟨F, W, M, ds, Qd, Ed, r, st, h, kk, kx⟩ => ?_), M.of _ _ e, G.kp, G.binds hb⟩
  obtain ⟨t, d, q⟩ := hbody f cdv A outer s H E hr
  exact ⟨_, d, ls_bodyX r st kk (kx_def kx) (q ds M Qd Ed h)⟩
theorem KnMXD.of {P : Program} {w : World} {K : PySem.W.Frag} {mg : Str → Option Value} {base : Heap} {C : Addr} {m qual : Str} {st : Stmt} {N ps : List Str} {k : Nat} {sp : DSp} (F : HasMeth K C m qual st) (S : FnScope N ps (defScope st))
    (hb : ∀ (kV doc pm : Value) (an : Option Addr) (cdv ct : Value) (us : List Value), us.length = ps.length → bindArgs (PySem.W.fnOf m qual (defArgs st) (defBody st) (defScope st) .none kV doc pm an cdv ct) ⟨us, []⟩ = pure (ps.zip us))
    (len : ∀ ds M Q E, sp ds M Q E → ds.length = ps.length)
    (hbody : ∀ (f : Addr) (cdv : Value) (A : Around) (outer : List Env) (s : Shared) (H : Hp) (E : XK), Room k (A.deeper (envOfC qual (defScope st) s.heap.objs.size f cdv)) →
      ∃ t, DB (cxOf (L2.CX P w) P w K mg base N qual (defScope st) f cdv A outer s H E) (defBody st) t ∧ ∀ ds M Q Ed, sp ds M Q Ed → t (bodyX Q Ed) (startD N ds) M) : KnMXD P w K mg base C m (k + 1) ps sp := by
  obtain ⟨f, fd, G, e⟩ := F.ex
  refine ⟨f, fd, G.okX S (lsp_len len) (fun cdv A outer s H vs Q E hr ⟨F, W, M, ds, Qd, Ed, r, st, h, kk, kx⟩ => ?_), e, G.binds hb⟩
  obtain ⟨t, d, q⟩ := hbody f cdv A outer s H E hr
  exact ⟨_, d, ls_bodyX r st kk (kx_def kx) (q ds M Qd Ed h)⟩
def spN (sp : DSp) : DSp := fun ds M Q _ => sp ds M Q X0
theorem FnOk.nox {P : Program} {w : World} {K : PySem.W.Frag} {mg : Str → Option Value} {base : Heap} {k : Nat} {f : Addr} {fd : FuncData} {ps : List Str} {sp : DSp} (F : FnOk P w K mg base (L2.CX P w) k f fd ps (LSp K sp)) : FnOk P w K mg base CX0 k f fd ps (LSp K (spN sp)) := by
  have x0 : ∀ {vs H Q E}, LSp K (spN sp) vs H Q E → LSp K sp vs H Q (fun _ _ _ => False) := fun ⟨F, W, M, ds, Qd, Ed, r, s, h, k, _⟩ => ⟨F, W, M, ds, Qd, X0, r, s, h, k, fun _ _ _ _ _ _ _ _ _ z => z.elim⟩
  refine ⟨fun vs H Q E h => F.len vs H Q _ (x0 h), fun A outer s H args us vs Q E hr e0 hb hv hs => ?_⟩
  refine codeAny_mono (F.run A outer s H args us vs Q _ hr e0 hb hv (x0 hs)) fun r s' hq => ?_
  cases r with
  | error e =>
    obtain ⟨_, _, _, _, _, _, _, _, _, _, _, _, z⟩ := (show L2.CX P w outer H s (fun _ _ _ => False) e s' from hq)
    exact z.elim
  | ok fl => cases fl <;> exact hq
theorem KnXD.d {P : Program} {w : World} {K : PySem.W.Frag} {mg : Str → Option Value} {base : Heap} {x : Str} {k : Nat} {ps : List Str} {sp : DSp} (D : KnXD P w K mg base x k ps sp) : KnD P w K mg base x k ps (spN sp) := by
  obtain ⟨f, fd, F, r⟩ := D.ex
  exact ⟨f, fd, FnOk.nox F, r⟩
theorem KnMXD.d {P : Program} {w : World} {K : PySem.W.Frag} {mg : Str → Option Value} {base : Heap} {C : Addr} {m : Str} {k : Nat} {ps : List Str} {sp : DSp} (D : KnMXD P w K mg base C m k ps sp) : KnMD P w K mg base C m k ps (spN sp) := by
  obtain ⟨f, fd, F, r⟩ := D.ex
  exact ⟨f, fd, FnOk.nox F, r⟩
abbrev XDE := De → Mm → DK → DX → Prop
abbrev XDA := De → Mm → (List Da → Mm → Prop) → DX → Prop
def LiX {α β : Type} (R : (Addr → Prop) → Hp → α → β → Prop) (K : PySem.W.Frag) (E : XK) (g : De → Mm → (β → Mm → Prop) → DX → Prop) : L2.St → Hp → (α → Hp → Prop) → Prop := fun σ H Q =>
  ∃ δ F W M Qd Ed, EnvR K W H δ σ ∧ Stt K F W M H ∧ g δ M Qd Ed ∧ Kt R K F W H Qd Q ∧ KX K F W H Ed E
def DEX (X : Cx) (e : Expr) (g : XDE) : Prop := PE X e (LiX (rE X.K) X.K (EXm X) g)
def DAX (X : Cx) (es : List Expr) (g : XDA) : Prop := PA X es (LiX (rA X.K) X.K (EXm X) g)
section
variable {X : Cx} {k : Nat} {ps : List Str} {sp : DSp} {x m : Str} {p pos apos : Pos} {a b e o : Expr} {es : List Expr} {fa : XDE} {fs : XDA} {f fo : DTE} {C : Addr}
def xUp (f : DTE) : XDE := fun δ M Q _ => f δ M Q
theorem x_up (h : DE X e f) : DEX X e (xUp f) := imp h fun σ H Q ⟨δ, F, W, M, Qd, Ed, ev, s, h, k, _⟩ => ⟨δ, F, W, M, Qd, ev, s, h, k⟩
def xNil : XDA := fun _ M Q _ => Q [] M
def xCons (fa : XDE) (fs : XDA) : XDA := fun δ M Q Ed => fa δ M (fun x M1 => fs δ M1 (fun xs M2 => Q (x :: xs) M2) Ed) Ed
theorem x_nil : DAX X [] xNil := ⟨fun po pins s σ H Q I ⟨δ, F, W, M, Qd, Ed, ev, st, h, k, _⟩ => d_nil.run po pins s σ H Q I ⟨δ, F, W, M, Qd, ev, st, h, k⟩⟩
theorem x_cons (ha : DEX X e fa) (hr : DAX X es fs) (hs : starEach (e :: es) X.env = (false, eval e X.env) :: starEach es X.env := by rfl) : DAX X (e :: es) (xCons fa fs) :=
  ⟨fun po pins s σ H Q I ⟨δ, F, W, M, Qd, Ed, ev, st, h, k, kx⟩ => (pa_cons ha hr hs).run po pins s σ H Q I ⟨δ, F, W, M, _, Ed, ev, st, h, fun v H1 W1 d M1 g1 s1 r1 q1 => ⟨δ, F, W1, M1, _, Ed, ev.mono g1, s1, q1, fun vs H2 W2 ds M2 g2 s2 r2 q2 =>
    (k.mono (g1.trans g2)).now s2 (.cons (r1.mono g2) r2) q2, kx.mono g1⟩, kx⟩⟩
def xCall (sp : DSp) (fs : XDA) : XDE := fun δ M Q Ed => fs δ M (fun ds M1 => sp ds M1 Q Ed) Ed
theorem x_call (D : KnXD X.prog X.w X.K X.mg X.base x k ps sp) (hr : Room k X.A) (ha : DAX X (e :: es) fs) (hg : Gl X x := by rfl) (hdb : (x == ("__debug__" : Str)) = false := by decide)
    (he : starEach (e :: es) X.env = (false, eval e X.env) :: starEach es X.env := by rfl) (hpl : (backTo pos (starEach es X.env)).any (·.1) = false := by rfl) : DEX X (.Call (.Name x p) (e :: es) [] pos) (xCall sp fs) :=
  imp (U.callX (E := EXm X) D hr (passes_call (EXm.takes X) fun _ _ _ _ h => h) ha hg hdb he hpl) fun σ H Q ⟨δ, F, W, M, Qd, Ed, ev, s, h, kk, kx⟩ => ⟨δ, F, W, M, _, Ed, ev, s, h, fun vs H1 W1 ds M1 g1 s1 r1 q1 => ⟨F, W1, M1, ds, Qd, Ed, r1, s1, q1, kk.mono g1, kx.mono g1⟩, kx⟩
def xMeth (C : Addr) (m : Str) (sp : DSp) (fo : DTE) (fs : XDA) : XDE := fun δ M Q Ed => fo δ M fun x M1 => objK C x M1 (fun gs => gs.lookup m = none) ∧ fs δ M1 (fun ds M2 => sp (x :: ds) M2 Q Ed) Ed
theorem x_meth {pl : Sem Bool} (D : KnMXD X.prog X.w X.K X.mg X.base C m k ps sp) (c : Cls X.K C) (hr : Room k X.A) (he : DE X o fo) (ha : DAX X (e :: es) fs)
    (hst : starEach (e :: es) X.env = (false, eval e X.env) :: starEach es X.env := by rfl) (hpl : (backTo pos (starEach es X.env)).any (·.1) = false := by rfl)
    (ht : eval (.Call (.Attribute o m apos) (e :: es) [] pos) X.env = (do
      let ov ← eval o X.env
      standAt apos.atName
      let (f, first) ← holding [ov] (getMethod ov m pl)
      callWith pos f first (backTo pos (starEach (e :: es) X.env)) (backToKw pos (keywordEach [] X.env))) := by rfl) :
    DEX X (.Call (.Attribute o m apos) (e :: es) [] pos) (xMeth C m sp fo fs) := imp (U.methX (E := EXm X) D c hr (passes_call (EXm.takes X) fun _ _ _ _ h => h) he ha hst hpl ht) fun σ H Q ⟨δ, F, W, M, Qd, Ed, ev, s, h, kk, kx⟩ => by
  refine ⟨δ, F, W, M, _, ev, s, h, fun v H1 W1 d M1 g1 s1 r1 q1 => ?_⟩
  obtain ⟨a, dx, vs, gs, rfl, ha, rv, hn⟩ := obj_of s1 r1 q1.1
  exact ⟨dx, vs, ha, rv.none hn, δ, F, W1, M1, _, Ed, ev.mono g1, s1, q1.2, fun us H2 W2 ds M2 g2 s2 r2 q2 => ⟨F, W2, M2, _, Qd, Ed, .cons (r1.mono g2) r2, s2, q2, kk.mono (g1.trans g2), kx.mono (g1.trans g2)⟩, kx.mono g1⟩
def hDropX (g : XDE) : DTS := fun D δ M => g δ M (fun _ M1 => D.nx δ M1) D.ex
theorem z_exprX {g : XDE} (he : DEX X e g) (hs : swapsWith e none pos.line X.env = pure false := by rfl) : DS X (.Expr e pos) (hDropX g) := ps_imp (ps_expr he hs) fun D σ H ⟨δ, F, W, M, Dd, ev, s, h, k⟩ =>
  ⟨δ, F, W, M, _, _, ev, s, h, fun v H1 W1 d M1 g1 s1 r1 q1 => (k.nx.mono g1).now s1 (ev.mono g1) q1, k.ex⟩
/-- an own exception class without an own __init__ -/
structure XCls (K : PySem.W.Frag) (x : Str) (C : Addr) : Prop where
  at_ : PySem.W.nsIn K mainGlobals x = some (some (.ref C))
  exc : PySem.W.excIn K C [.type "ValueError", .type "Exception", .type "BaseException", .type "object"] "ValueError.__new__" = true
  kp : PySem.W.keepIn K (.ref C) = true
  sub : PySem.W.subIn K (.ref C) (.type "BaseException") = some true
  ty : PySem.W.typeIn K (.ref C) = some (.type "type")
def hRaise (cls : Value) : DTS := fun D _ M => ∃ M2, Sub M2 M ∧ D.ex cls [] M2
theorem z_raise {m : Str} {j : Nat} {p2 pos' : Pos} (hc : X.calm = true) (M : MgOf X.K X.mg) (c : XCls X.K x C) (hg : Gl X x := by rfl) (hdb : (x == ("__debug__" : Str)) = false := by decide) : DS X (.Raise (some (.Call (.Name x p) [.Constant (.str m) j p2] [] pos)) none pos') (hRaise (.ref C)) :=
  ps_imp (ps_raise hc (EXm.takes X) (pmk_own PySem.F.excBase_ValueError c.exc (M.of _ _ c.at_) c.kp (raises_own c.sub c.ty) hg hdb)) fun D σ H ⟨δ, F, W, M, Dd, ev, s, ⟨M2, sb, h⟩, k⟩ =>
    k.ex _ none H W [] M2 .refl (s.forget sb) rfl h
end
end U
set_option Elab.async false
set_option linter.all false
set_option maxRecDepth 100000
set_option maxHeartbeats 2000000
namespace U
open PySem PySem.Spec PyProof.Rows L2 LamX
/-- a table, of whose code objects V holds -/
def TabV (V : Addr → Prop) (H : Hp) (P : Addr) (q : Str) : Prop := ∃ ps : Array Value, H P = some (.tbl ps) ∧ TriplesOk ps.toList ∧ ∀ (pos : Pos) (cv : Value), codeAmong pos ps.toList = some cv → ∃ c, cv = .ref c ∧ H c = some (CodeO c q) ∧ V c
theorem TabV.imp {V V' : Addr → Prop} {H : Hp} {P : Addr} {q : Str} (h : TabV V H P q) (f : ∀ c, V c → V' c) : TabV V' H P q :=
  let ⟨ps, a, b, d⟩ := h; ⟨ps, a, b, fun pos cv e => let ⟨c, x, y, z⟩ := d pos cv e; ⟨c, x, y, f c z⟩⟩
section
variable {X : Cx} {pins : List (Addr × Obj)} {σ : L2.St} {H : Hp} {s : Shared}
theorem lam_make3 {c P : Addr} {params : Arguments} {body : Expr} {scope : Scope} {pos : Pos} {E : Value → Shared → Prop} {Q : Value → Shared → Prop} (I : Inv X pins σ H s) (TB : TabB X.base X.mg c P) (hcode : X.env.code = .ref c)
    (V : Addr → Prop) (hT : TabV V H P (X.env.qual ++ "<lambda>")) (hdef : defaultsOf params X.env = ([], [])) (hfree : ∀ y ∈ scope.names, y.2 = .free → ∃ c, X.env.cells.lookup y.1 = some c)
    (h : ∀ (f c' : Addr) (pm ctv : Value) (H1 : Hp) (s' : Shared), Inv X pins σ H1 s' → (∀ b o, H b = some o → b ≠ P → H1 b = some o) → TabV (fun c => V c ∨ H c = none) H1 P (X.env.qual ++ "<lambda>") →
      s'.heap.get? f = some (PySem.W.kla_obj "<lambda>" (X.env.qual ++ "<lambda>") params body scope (cloFrom X.env.cells scope.names []) pm c' ctv) → H1 f = none → f ∉ frs X.stack → H1 c' = some (CodeO c' (X.env.qual ++ "<lambda>")) → Q (.ref f) s') :
    wpAny (model X.prog X.w) X.A (eval (.Lambda params body scope pos) X.env) Q E s := by
  obtain ⟨ps, hP, ht, ha⟩ := id hT
  refine PySem.W.kla_eval hdef ?_
  have bP : s.heap.BuiltinsAt X.mg P := TB.bm.keeps I.bk
  have hP' : s.heap.get? P = some { cls := .none, data := .fields ps } := I.hok P _ hP
  have nofr : ∀ f, s.heap.objs.size ≤ f → f ∉ frs X.stack := fun f hf z => by
    rcases List.mem_cons.mp (I.stkSub _ z) with e | e
    · have h1 := I.lt
      rw [← e] at h1
      exact Nat.lt_irrefl _ (Nat.lt_of_lt_of_le h1 hf)
    · exact I.nofs hf e
  cases hc : codeAmong pos ps.toList with
  | none =>
    refine PySem.W.kla_makeFunction (mg := X.mg) (c := c) (P := P) (ps := ps) (closure_ok hfree) I.ok.glob (I.mod.glob.keeps I.bk) hcode (TB.code.keeps I.bk) hP' ht hc TB.gP bP fun c' ctv h' tk hx hge hlt hrec htb => ?_
    obtain ⟨c2, oc, vs, t, e2, hoc, hd, hv⟩ := hrec
    cases e2
    have hsz : s.heap.objs.size ≤ h'.objs.size := Nat.le_trans hge (Nat.le_of_lt hlt)
    have nC : H c' = none := I.hok.fresh hge
    have I1 := inv_table (t' := tk) (more := #[rawInt pos.line, rawInt pos.col, .ref c']) (h' := h'.push (PySem.W.kla_obj "<lambda>" (X.env.qual ++ "<lambda>") params body scope (cloFrom X.env.cells scope.names []) ((X.mg "__name__").getD .none) c' ctv)) I hP
      (fun b o hb e => Heap.get?_push_of_some _ (hx b o hb e)) (Heap.get?_push_of_some _ htb) hge ⟨oc, vs, t, Heap.get?_push_of_some _ hoc, hd, hv⟩
    have hE : ∀ b o, H b = some o → b ≠ P → (upd (upd H P (.tbl (ps ++ #[rawInt pos.line, rawInt pos.col, .ref c']))) c' (CodeO c' (X.env.qual ++ "<lambda>"))) b = some o := fun b o e n => by
      rw [upd_ne (ne_of_none e nC), upd_ne n]
      exact e
    have nTb : ∀ b, H b = some (CodeO b (X.env.qual ++ "<lambda>")) → b ≠ P := fun b e z => by
      rw [z, hP] at e
      exact codeO_ne _ (Option.some.inj e).symm
    have eL : (ps ++ #[rawInt pos.line, rawInt pos.col, .ref c']).toList = ps.toList ++ [rawInt pos.line, rawInt pos.col, .ref c'] := by simp
    refine h h'.objs.size c' ((X.mg "__name__").getD .none) ctv _ _ I1 hE ⟨_, by rw [upd_ne (ne_of_none hP nC), upd_same], by rw [eL]; exact PySem.TriplesOk_snoc _ _ _ _ ht, fun p' cv hcv => ?_⟩ (Heap.get?_push_size _ rfl) ?_ (nofr _ hsz) upd_same
    · rw [eL] at hcv
      rcases among_app _ ht hcv with z | z
      · obtain ⟨c0, e1, e2, v⟩ := ha p' cv z
        exact ⟨c0, e1, hE _ _ e2 (nTb _ e2), .inl v⟩
      · exact ⟨c', z, upd_same, .inr nC⟩
    · have n1 : h'.objs.size ≠ c' := Nat.ne_of_gt hlt
      have n2 : h'.objs.size ≠ P := Nat.ne_of_gt (Nat.lt_of_lt_of_le (Heap.lt_size hP') hsz)
      rw [upd_ne n1, upd_ne n2]
      exact I.hok.fresh hsz
  | some cv =>
    obtain ⟨c', e, hco, _⟩ := ha pos cv hc
    subst e
    refine PySem.W.kla_makeFunctionHit (mg := X.mg) (c := c) (P := P) (ps := ps) (closure_ok hfree) I.ok.glob (I.mod.glob.keeps I.bk) hcode (TB.code.keeps I.bk) hP' ht hc bP fun ctv h' tk hx hsz => ?_
    have I1 : Inv X pins σ H { s with heap := h'.push (PySem.W.kla_obj "<lambda>" (X.env.qual ++ "<lambda>") params body scope (cloFrom X.env.cells scope.names []) ((X.mg "__name__").getD .none) c' ctv), toks := tk } := I.kept fun b o e => Heap.get?_push_of_some _ (hx b o e)
    exact h h'.objs.size c' ((X.mg "__name__").getD .none) ctv H _ I1 (fun _ _ e _ => e) (hT.imp fun _ v => .inl v) (Heap.get?_push_size _ rfl) (I.hok.fresh hsz) (nofr _ hsz) hco
end
def tLam3 (V : Addr → Prop) (P : Addr) (q : Str) (TT : (XK → Hp → VK → Prop) → Hp → VK → Prop) (t : XK → TE) : TE := fun σ H Q => TabV V H P q ∧ ∀ H1, (∀ b o, H b = some o → b ≠ P → H1 b = some o) → TabV (fun c => V c ∨ H c = none) H1 P q → TT (fun E H' Q' => t E σ H' Q') H1 Q
section
variable {X : Cx}
theorem pe_lamcall3 {V : Addr → Prop} {TT : (XK → Hp → VK → Prop) → Hp → VK → Prop} {x a : Str} {g c P : Addr} {k : Nat} {pg : Arguments} {bg : List Stmt} {sg : Scope} {dV kV doc pm cdv ct oc : Value} {an od : Option Addr} {osl : Array (Option Value)} {Ng : List Str}
    {params : Arguments} {body : Expr} {scope : Scope} {t : XK → TE} {p lpos pos : Pos} (hg : Gl X x) (hm : X.mg x = some (.ref g)) (hk : PySem.W.keepIn X.K (.ref g) = true)
    (lk : X.K.lookup g = some ⟨oc, od, .func (PySem.W.fnOf x x pg bg sg dV kV doc pm an cdv ct), osl⟩) (hcg : PySem.W.codeIn X.K cdv x = true) (hb : L2.Binds X.K (PySem.W.fnOf x x pg bg sg dV kV doc pm an cdv ct) [a] []) (Sg : FnScope Ng [a] sg) (hNg : Ng[0]? = some a) (hva : Vis sg a)
    (hG : GivesTo X Ng x sg g cdv bg a (X.env.qual ++ "<lambda>") TT)
    (TB : TabB X.base X.mg c P) (hcode : X.env.code = .ref c) (hr : Room (k + 2) X.A) (L : LamS X.env.scope scope) (hdef : defaultsOf params X.env = ([], []))
    (hbind : ∀ (q : Str) (cl : List (Str × Addr)) (pm cv ctv : Value), bindArgs (PySem.W.kla_fn "<lambda>" q params body scope cl pm cv ctv) ⟨[], []⟩ = pure [])
    (hbody : ∀ (A : Around) (outer : List Env) (s : Shared) (H : Hp) (E : XK) (f c' : Addr), Room k (A.deeper (lamEnv X scope s.heap.objs.size f c')) → PE (lamCx X A outer s H E scope f c') body (t E))
    (hdb : (x == ("__debug__" : Str)) = false := by decide) (hd : (a == ("__debug__" : Str)) = false := by decide) (hcd : (a == ("__classdict__" : Str)) = false := by decide) :
    PE X (.Call (.Name x p) [.Lambda params body scope lpos] [] pos) (tLam3 V P (X.env.qual ++ "<lambda>") TT t) := by
  refine ⟨fun pins s σ H Q I h => ?_⟩
  obtain ⟨hT, h⟩ := h
  refine wpAny_Call_Name_kw (ld_glob I hg hm ?_ hdb)
  refine PySem.W.callWith_K (h₀ := X.base) I.ok.mod.kin hk ?_ (by rfl) (by rfl)
  show wpAny _ _ (spliced ((false, eval (.Lambda params body scope lpos) X.env) :: backTo pos (starEach [] X.env))) _ _ s
  refine Calls.spliced_cons (lam_make3 I TB hcode V hT hdef (L.has I.ok) fun f c' pm' ctv H1 s' I1 eN T1 hf hfn hfr hco => ?_)
  refine Calls.spliced_nil ⟨I1.kIn, ?_⟩
  have rc : codeAny (model X.prog X.w) X.A (.call (.ref g) ⟨[.ref f], []⟩) (CR C8.CX0 X.stack X.prog X.w H1 s' Q C8.E0) s' := by
    refine run_ofS (N := Ng) (ps := [a]) (us := [.ref f]) (vs := [.ref f]) lk hcg Sg hr I1.env0 (hb s' [.ref f] I1.kIn rfl) (.cons rfl .nil) rfl fun hr' => ?_
    obtain ⟨t', ht', hq'⟩ := hG f c' s' H1 Q (fun E H' Q' => t E σ H' Q') (fun W pn xe E p1 p2 tk hW => pe_act (i := 0) I1 L hf hfn hfr (hbind _ _ _ _ _) tk hW hr' (fun A outer s H hr2 => hbody A outer s H E f c' hr2) hNg hva hd hcd) hco (h H1 eN T1)
    exact ⟨t', ht'.nox, hq'⟩
  refine wpAny_call (codeAny_mono rc fun r s2 hq => ?_)
  cases r with
  | error e => exact (show False from hq).elim
  | ok fl =>
    cases fl with
    | ret u => exact I1.after hq
    | next => exact False.elim hq
    | brk => exact False.elim hq
    | cont => exact False.elim hq
end
end U
namespace U
open PySem PySem.Spec PyProof.Rows L2 LamX
theorem ls_E {K : PySem.W.Frag} {E E' : XK} {f : DTS} {D : Ends} {σ : L2.St} {H : Hp} (h : ∀ cls d H, E cls d H → E' cls d H) (q : LS K E f D σ H) : LS K E' f D σ H := by
  obtain ⟨δ, F, W, M, Dd, ev, s, hf, k⟩ := q
  exact ⟨δ, F, W, M, Dd, ev, s, hf, k.nx, k.rt, k.bk, k.ct, fun cls d H' W' fs M' g s' r e => h _ _ _ (k.ex cls d H' W' fs M' g s' r e)⟩
theorem env_none {K : PySem.W.Frag} {W : Addr → Prop} {H : Hp} : ∀ σ : L2.St, EnvR K W H (List.replicate σ.length none) σ
  | [] => .nil
  | _ :: σ => .cons trivial (env_none σ)
inductive HdsD (X : Cx) : List ExceptHandler → List (Value × DTS) → Prop
  | nil : HdsD X [] []
  | cons {x : Str} {c : Value} {th : DTS} {b₀ : Stmt} {suite : List Stmt} {np pos' : Pos} {hds : List ExceptHandler} {l : List (Value × DTS)} (hc : Names X x c) (hsu : ∀ (a : Addr) (oe : Obj) (pn : List (Addr × Obj)), DB (X.suite a ((a, oe) :: pn)) (b₀ :: suite) th) (r : HdsD X hds l) :
      HdsD X (.ExceptHandler (some (.Name x np)) none (b₀ :: suite) pos' :: hds) ((c, th) :: l)
def upH (K : PySem.W.Frag) (l : List (Value × DTS)) : List (Value × (Addr → Value → Option Addr → TS)) := l.map fun p => (p.1, fun _ _ _ => LS K (fun _ _ _ => False) p.2)
theorem HdsD.ok {X : Cx} {hds : List ExceptHandler} {l : List (Value × DTS)} (h : HdsD X hds l) : HdsOk X hds (upH X.K l) := by
  induction h with
  | nil => exact .nil
  | cons hc hsu r ih => exact .cons hc (fun a oe cls d pn _ _ => pss_imp (hsu a oe pn) fun D σ H q => ls_E (fun _ _ _ z => z.elim) q) ih
structure HasDefC (K : PySem.W.Frag) (x : Str) (st : Stmt) (c : Addr) : Prop where
  ex : ∃ (f : Addr) (oc : Value) (od an : Option Addr) (osl : Array (Option Value)) (kV doc pm ct : Value), PySem.W.nsIn K mainGlobals x = some (some (.ref f)) ∧ K.lookup f = some ⟨oc, od, .func (PySem.W.fnOf x x (defArgs st) (defBody st) (defScope st) .none kV doc pm an (.ref c) ct), osl⟩ ∧
    PySem.W.codeIn K (.ref c) x = true ∧ PySem.W.keepIn K (.ref f) = true
theorem hasc_mk {K : PySem.W.Frag} {x : Str} {st : Stmt} {c f : Addr} {oc : Value} {od an : Option Addr} {osl : Array (Option Value)} {kV doc pm ct : Value} (a : PySem.W.nsIn K mainGlobals x = some (some (.ref f)))
    (l : K.lookup f = some ⟨oc, od, .func (PySem.W.fnOf x x (defArgs st) (defBody st) (defScope st) .none kV doc pm an (.ref c) ct), osl⟩) (h : PySem.W.codeIn K (.ref c) x = true) (k : PySem.W.keepIn K (.ref f) = true) : HasDefC K x st c := ⟨f, oc, od, an, osl, kV, doc, pm, ct, a, l, h, k⟩
theorem HasDefC.d {K : PySem.W.Frag} {x : Str} {st : Stmt} {c : Addr} (h : HasDefC K x st c) : HasDef K x st := by
  obtain ⟨f, oc, od, an, osl, kV, doc, pm, ct, a, l, h, k⟩ := h.ex
  exact has_mk a l h k
theorem KnD.ofC {P : Program} {w : World} {K : PySem.W.Frag} {mg : Str → Option Value} {base : Heap} {x : Str} {st : Stmt} {c : Addr} {N ps : List Str} {k : Nat} {sp : DSp} (F : HasDefC K x st c) (M : MgOf K mg) (S : FnScope N ps (defScope st))
    (hb : ∀ (kV doc pm : Value) (an : Option Addr) (cdv ct : Value) (us : List Value), us.length = ps.length → bindArgs (PySem.W.fnOf x x (defArgs st) (defBody st) (defScope st) .none kV doc pm an cdv ct) ⟨us, []⟩ = pure (ps.zip us))
    (len : ∀ ds M Q E, sp ds M Q E → ds.length = ps.length)
    (hbody : ∀ (f : Addr) (A : Around) (outer : List Env) (s : Shared) (H : Hp) (E : XK), Room k (A.deeper (envOfC x (defScope st) s.heap.objs.size f (.ref c))) →
      ∃ t, DB (cxOf CX0 P w K mg base N x (defScope st) f (.ref c) A outer s H E).nox (defBody st) t ∧ ∀ ds M Q Ed, sp ds M Q Ed → t (bodyE Q) (startD N ds) M) : KnD P w K mg base x (k + 1) ps sp := by
  obtain ⟨f, oc, od, an, osl, kV, doc, pm, ct, a, l, h, kp⟩ := F.ex
  have G : Fun K x x st f _ := fun_mk l h kp
  refine ⟨f, _, fn_of l h S (lsp_len len) (fun A outer s H vs Q E hr ⟨F, W, M, ds, Qd, Ed, r, st, h, kk, kx⟩ => ?_), M.of _ _ a, kp, G.binds hb⟩
  obtain ⟨t, d, q⟩ := hbody f A outer s H E hr
  exact ⟨_, PSs.nox d, ls_body r st kk (q ds M Qd Ed h)⟩
section
variable {K : PySem.W.Frag}
theorem lam_state {F W : Addr → Prop} {M : Mm} {H H1 : Hp} {P : Addr} {q : Str} (s : Stt K F W M H) (hP : M P = some (.tbl q)) (e : ∀ b o, H b = some o → b ≠ P → H1 b = some o) (t : TabV (fun c => W c ∨ H c = none) H1 P q) :
    ∃ W1, Stt K F W1 M H1 ∧ Grow F W H W1 H1 := by
  have nW : ∀ a, W a → a ≠ P := fun a w z => s.dis P _ hP (z ▸ w)
  have nF : ∀ a, F a → a ≠ P := fun a w z => by have := (s.fr a w).2.1; rw [z, hP] at this; cases this
  have g : Grow F W H (fun a => W a ∨ (H a = none ∧ H1 a = some (CodeO a q))) H1 := ⟨fun a w => .inl w, fun a w => by obtain ⟨o, h⟩ := s.wf a w; rw [h]; exact e a o h (nW a w), fun a w => by obtain ⟨_, _, o, h⟩ := s.fr a w; rw [h]; exact e a o h (nF a w)⟩
  refine ⟨_, ⟨fun a w => ?_, fun a w => ⟨?_, (s.fr a w).2.1, ?_⟩, fun a o h w => ?_, fun a o h => ?_, fun a o w h => ?_⟩, g⟩
  · rcases w with w | w
    · obtain ⟨o, h⟩ := s.wf a w
      exact ⟨o, e a o h (nW a w)⟩
    · exact ⟨_, w.2⟩
  · rintro (h | ⟨h, _⟩)
    · exact (s.fr a w).1 h
    · obtain ⟨_, _, o, h2⟩ := s.fr a w
      rw [h] at h2; cases h2
  · obtain ⟨_, _, o, h⟩ := s.fr a w
    exact ⟨o, e a o h (nF a w)⟩
  · rcases w with w | w
    · exact s.dis a o h w
    · obtain ⟨u, h2, _⟩ := s.mem a o h
      rw [w.1] at h2; cases h2
  · by_cases hb : a = P
    · subst hb
      rw [hP] at h
      cases h
      obtain ⟨ps, h1, h2, h3⟩ := t
      refine ⟨_, h1, .tbl h2 fun pos cv hc => ?_⟩
      obtain ⟨c, h4, h5, h6⟩ := h3 pos cv hc
      refine ⟨c, h4, ?_, h5⟩
      rcases h6 with h6 | h6
      · exact .inl h6
      · exact .inr ⟨h6, h5⟩
    · obtain ⟨u, h2, mr⟩ := s.mem a o h
      exact ⟨u, e a u h2 hb, mr.mono g⟩
  · rcases w with w | w
    · obtain ⟨u, h2⟩ := s.wf a w
      rw [e a u h2 (nW a w)] at h
      cases h
      exact s.pl a _ w h2
    · rw [w.2] at h
      cases h
      exact trivial
theorem tab_of {F W : Addr → Prop} {M : Mm} {H : Hp} {P : Addr} {q : Str} (s : Stt K F W M H) (hP : M P = some (.tbl q)) : TabV W H P q := by
  obtain ⟨u, hu, mr⟩ := s.mem P _ hP
  cases mr with
  | tbl h1 h2 => exact ⟨_, hu, h1, fun pos cv e => let ⟨c, a, b, d⟩ := h2 pos cv e; ⟨c, a, d, b⟩⟩
end
section
variable {X : Cx} {Ng : List Str} {x a q : Str} {sg : Scope} {g : Addr} {cdg : Value} {h₀ : ExceptHandler} {hds : List ExceptHandler} {l : List (Value × DTS)} {p1 p2 p3 p8 : Pos} {rest : List Stmt} {u : DTS}
end
section
variable {X : Cx} {Ng : List Str} {x a : Str} {st : Stmt} {h₀ : ExceptHandler} {hds : List ExceptHandler} {l : List (Value × DTS)} {p1 p2 p3 p8 p lpos pos : Pos} {rest : List Stmt} {u : DTS} {P c : Addr} {k : Nat} {params : Arguments} {body : Expr} {scope : Scope} {gb : XDE}
theorem lam_body (hbody : ∀ (A : Around) (outer : List Env) (s : Shared) (H : Hp) (E : XK) (f c' : Addr), Room k (A.deeper (lamEnv X scope s.heap.objs.size f c')) → DEX (lamCx X A outer s H E scope f c') body gb) :
    ∀ (A : Around) (outer : List Env) (s : Shared) (H : Hp) (E : XK) (f c' : Addr), Room k (A.deeper (lamEnv X scope s.heap.objs.size f c')) → PE (lamCx X A outer s H E scope f c') body (LiX (rE X.K) X.K E gb) :=
  fun A outer s H E f c' hr => imp (hbody A outer s H E f c' hr) fun σ H' Q ⟨δ, F, W, M, Qd, Ed, ev, s', h, kk, kx⟩ => ⟨δ, F, W, M, Qd, Ed, ev, s', h, kk, fun cls d H' W' fs M' g s' r q => EXm.of (takes_of rfl rfl rfl rfl) fun _ _ => kx cls d H' W' fs M' g s' r q⟩
end
end U
set_option Elab.async false
set_option linter.all false
set_option maxRecDepth 100000
set_option maxHeartbeats 2000000
namespace U
open PySem PySem.Spec PyProof.Rows L2 LamX
/-- a def's code object and its table -/
structure HasTab (K : PySem.W.Frag) (c P : Addr) : Prop where
  hd : PySem.W.codeHdIn K c P = true
  no : K.lookup P = none
theorem hastab_mk {K : PySem.W.Frag} {c P : Addr} {oc : Value} {od : Option Addr} {vs : Array Value} {sl : Array (Option Value)} (l : K.lookup c = some ⟨oc, od, .fields vs, sl⟩) (m : vs[11]? = some (.ref P)) (h : PySem.W.codeHdIn K c P = true) (n : K.lookup P = none) : HasTab K c P := ⟨h, n⟩
def memT (qs : List (Addr × Str)) : Mm := fun a => (qs.find? fun p => decide (p.1 = a)).map fun p => .tbl p.2
theorem memT_of {qs : List (Addr × Str)} (nd : (qs.map (·.1)).Nodup) {p : Addr × Str} (hp : p ∈ qs) : memT qs p.1 = some (.tbl p.2) := by
  unfold memT
  induction qs with
  | nil => cases hp
  | cons r qs ih =>
    rw [List.find?_cons]
    rw [List.map_cons, List.nodup_cons] at nd
    rcases List.mem_cons.mp hp with rfl | hp
    · simp
    · have hne : ¬ r.1 = p.1 := fun e => nd.1 (by rw [e]; exact List.mem_map_of_mem hp)
      rw [show (decide (r.1 = p.1)) = false from decide_eq_false hne]
      exact ih nd.2 hp
def spLawT (qs : List (Addr × Str)) : DSp := fun ds M Q _ => ∃ ns : List Int, ds = [.lst (ns.map Da.int)] ∧ ns.length ≤ 63 ∧ (∀ p ∈ qs, M p.1 = some (.tbl p.2)) ∧ ∀ M', Q (.bl true) M'
theorem law_startT {K : PySem.W.Frag} {qs : List (Addr × Str)} {H : Hp} {a : Addr} {ns : List Int} (nd : (qs.map (·.1)).Nodup) (hl : ns.length ≤ 63) (hT : ∀ p ∈ qs, H p.1 = some (.tbl #[])) (hS : SqL K H a (ns.map V.int)) : LSp K (spLawT qs) [.ref a] H (fun v _ => v = .bl true) fun _ _ _ => False := by
  have some_of : ∀ {b : Addr} {o : MO}, memT qs b = some o → ∃ p ∈ qs, p.1 = b ∧ o = .tbl p.2 := fun {b o} h => by
    unfold memT at h
    cases e : qs.find? fun p => decide (p.1 = b) with
    | none => rw [e] at h; cases h
    | some p =>
      rw [e] at h
      cases h
      have h2 := List.find?_some e
      exact ⟨p, List.mem_of_find?_eq_some e, of_decide_eq_true h2, rfl⟩
  obtain ⟨s, r⟩ := start_state hS
  have s2 : Stt K NoF (fun b => b = a ∧ Rd H a (.lst (ns.map V.int))) (memT qs) H := by
    refine ⟨s.wf, fun a w => w.elim, fun b o h w => ?_, fun b o h => ?_, s.pl⟩
    · obtain ⟨p, hp, e, _⟩ := some_of h
      obtain ⟨rfl, w⟩ := w
      have h2 := hT p hp
      rw [e] at h2
      rcases w with w | ⟨o, w⟩
      · rw [h2] at w; cases w
      · rw [h2] at w; cases w
    · obtain ⟨p, hp, e, e2⟩ := some_of h
      subst e2
      rw [← e]
      refine ⟨_, hT p hp, .tbl trivial fun pos cv z => ?_⟩
      have z : codeAmong pos [] = some cv := z
      simp [codeAmong] at z
  refine ⟨NoF, _, _, _, fun d _ => d = .bl true, X0, r, s2, ⟨ns, rfl, hl, fun p hp => memT_of nd hp, fun _ => rfl⟩, fun v H' W' d M' g s' r q => ?_, fun _ _ _ _ _ _ _ _ _ z => z.elim⟩
  subst q
  cases r
  rfl
end U
set_option Elab.async false
set_option linter.all false
set_option maxRecDepth 100000
set_option maxHeartbeats 2000000
namespace U
open PySem PySem.Spec PyProof.Rows L2
/-- {tk: tv for c in .. if tt} -/
def dcD (c : CT) (tt : DTT) (tk tv : DTE) (δ : De) : List Da → List (Key × Da) → (List (Key × Da) → Mm → Prop) → Mm → Prop
  | [], acc, k, M => k acc M
  | d :: ds, acc, k, M => c.ok d ∧ tt (c.set d δ) M fun b M2 => if b = true then tk (c.set d δ) M2 fun y M3 => tv (c.set d δ) M3 fun z M4 => ∃ kk, asK y = some kk ∧ dcD c tt tk tv δ ds (putDK acc kk z) k M4 else dcD c tt tk tv δ ds acc k M2
def gDc (di : DTI) (c : CT) (tt : DTT) (tk tv : DTE) (vs : List Nat) : DTE := fun δ M Q => di δ M fun ds M1 => Sz ds.length ∧ dcD c tt tk tv (wipeD δ vs) ds [] (fun kvs M2 => Q (.dct kvs) M2) M1
section
variable {X : Cx} {tg kx vx iter : Expr} {ifs : List Expr} {scope : Scope} {own : List (Str × Nat)} {pos spos py : Pos} {di : DTI} {c : CT} {tt : DTT} {tk tv : DTE} {y : Str} {i : Nat}
theorem li_dc {K : PySem.W.Frag} {vs : List Nat} (hv : ∀ i ∈ c.slots, i ∈ vs) {σ : L2.St} {H : Hp} {Q : VK} (h : Li (rE K) K (gDc di c tt tk tv vs) σ H Q) : tDc (LI K di) (c.tg K) (Li rT K tt) (Li (rE K) K tk) (Li (rE K) K tv) vs σ H Q := by
  obtain ⟨δ, F, W, M, Qd, ev, s, h, k⟩ := h
  refine ⟨δ, F, W, M, _, ev, s, h, fun J H1 W1 M1 ds g1 s1 ij ⟨hz, q⟩ D hD => ?_⟩
  have hFD : ¬ F D := s1.freeF hD
  let Kf : List (Key × Da) → Mm → Prop := fun kvs M2 => Qd (.dct kvs) M2
  let Pv : Nat → Hp → Prop := fun i H2 => ∃ W2 Md ac acc, Grow F W1 H1 W2 H2 ∧ Stt K (fadd F D) W2 Md H2 ∧ H2 D = some (.dK ac) ∧ RK K W2 H2 ac acc ∧ acc.length ≤ i ∧ dcD c tt tk tv (wipeD δ vs) (ds.drop i) acc Kf Md
  refine ⟨fun i m H2 => m = ds.length - i ∧ i ≤ ds.length ∧ Pv i H2, ⟨ds.length, by simp, Nat.zero_le _, W1, M1, [], [], grow_new s1 hD, s1.addF hD _, upd_same, .nil, Nat.le_refl _, q⟩, ?_⟩
  rintro i m H2 ⟨rfl, hi, W2, Md, ac, acc, g2, s2, hac, rac, hal, q2⟩
  obtain ⟨go, stop⟩ := ij (fadd F D) W2 H2 Md g2.noF s2
  by_cases hlt : i < ds.length
  · have hd : ds[i]? = some ds[i] := List.getElem?_eq_getElem hlt
    obtain ⟨go1, go2⟩ := go i _ hd
    refine .inr ⟨go1, Pv (i + 1), fun H' p' => ⟨ds.length - (i + 1), by omega, rfl, hlt, p'⟩, fun x H3 y => ?_⟩
    obtain ⟨W3, g3, s3, r3⟩ := go2 x H3 y
    rw [List.drop_eq_getElem_cons hlt] at q2
    obtain ⟨ok, q2⟩ := q2
    have e3 : EnvR K W3 H3 (wipeD δ vs) (wipe σ vs) := (ev.mono (grow_drop (g1.trans g2) g3)).wipe vs
    refine ct_ok hv ok r3 e3 fun σ2 hw ev2 => ⟨by rw [hw, wipe_wipe vs vs σ fun _ h => h], _, fadd F D, W3, Md, _, ev2, s3, q2, fun b H4 W4 b' M4 g4 s4 eb q4 => ?_⟩
    cases eb
    have gg := g3.trans g4
    cases b with
    | false =>
      refine ⟨W4, M4, ac, acc, grow_drop g2 gg, s4, ?_, rac.mono gg, Nat.le_succ_of_le hal, q4⟩
      rw [gg.f D (.inl rfl)]; exact hac
    | true =>
      refine ⟨_, fadd F D, W4, M4, _, ev2.mono g4, s4, q4, fun v H5 W5 d M5 g5 s5 r5 q5 => ⟨_, fadd F D, W5, M5, _, (ev2.mono g4).mono g5, s5, q5, fun u H6 W6 d6 M6 g6 s6 r6 ⟨kk, hk, q6⟩ => ?_⟩⟩
      have r5' := r5.mono g6
      rw [asK_of hk] at r5'
      obtain rfl := rd_kD r5'
      have ga := (gg.trans g5).trans g6
      refine ⟨ac, kk, rfl, ?_, ?_, ?_⟩
      · rw [ga.f D (.inl rfl)]; exact hac
      · rw [rac.length]; have := hz.le; rw [sizeLine_eq]; omega
      · obtain ⟨s7, g7⟩ := s6.chgF (.dK (putK ac kk u))
        have g8 : Grow F W2 H2 W6 H6 := ga.less fun a h => .inr h
        have hlen : (putDK acc kk d6).length ≤ acc.length + 1 := by
          unfold putDK
          split
          · rw [List.length_map]; omega
          · rw [List.length_append, List.length_singleton]; exact Nat.le_refl _
        refine ⟨W6, M6, putK ac kk u, putDK acc kk d6, ?_, s7, upd_same, ((rac.mono ga).put r6).mono g7, by omega, q6⟩
        have g9 := g2.trans g8
        refine ⟨g9.w, fun a w => ?_, fun a w => ?_⟩
        · rw [upd_ne (s1.neW hD w)]; exact g9.h a w
        · rw [upd_ne (s1.neF hD w)]; exact g9.f a w
  · have e : i = ds.length := by omega
    subst e
    rw [List.drop_length] at q2
    refine .inl ⟨stop _ (Nat.le_refl _), ?_⟩
    obtain ⟨s3, g3⟩ := s2.endW hFD (by intro o e; rw [hac] at e; cases e; exact trivial)
    exact (k.mono ((g1.trans g2).trans g3)).now s3 (.dct (.inl rfl) hac (rac.mono g3)) q2
section
variable (hc : X.calm = true) (hN : X.N.Nodup) (hi : DI X tg iter di) (ok : BlkOk X.N X.env.scope scope own)
    (hg : ∀ (s : Shared) (H : Hp) (C : Addr) (cl : List (Str × Addr)) (fp : List Addr), PG (X.blk s H scope (compEnvC scope cl C X.env) fp) tg (c.tg X.K)) (ht : ∀ (s : Shared) (H : Hp) (C : Addr) (cl : List (Str × Addr)) (fp : List Addr), DTs (X.blk s H scope (compEnvC scope cl C X.env) fp) ifs tt)
    (hk : ∀ (s : Shared) (H : Hp) (C : Addr) (cl : List (Str × Addr)) (fp : List Addr), DE (X.blk s H scope (compEnvC scope cl C X.env) fp) kx tk) (he : ∀ (s : Shared) (H : Hp) (C : Addr) (cl : List (Str × Addr)) (fp : List Addr), DE (X.blk s H scope (compEnvC scope cl C X.env) fp) vx tv)
include hc hN hi ok hg ht hk he in
theorem d_dc (hv : ∀ i ∈ c.slots, i ∈ own.map (·.2) := by decide) (hs : ∀ x, foldedSetIterable iter X.env x = pure x := by intro _; rfl) :
    DE X (.DictComp kx vx [⟨tg, iter, ifs, 0⟩] scope pos) (gDc di c tt tk tv (own.map (·.2))) :=
  imp (pe_dc (wi := LI X.K di) (g := c.tg X.K) (tt := Li rT X.K tt) (tk := Li (rE X.K) X.K tk) (tv := Li (rE X.K) X.K tv) hc hN hi ok hg ht hk he hs) fun σ H Q h => li_dc hv h
end
end
/-- a dict by comprehension that changes nothing else -/
theorem dcD_map {α : Type} {c : CT} {tk tv : DTE} {δ : De} {M : Mm} {g : α → Da} (f : α → Key) (v : α → Da) : ∀ {l : List α} {acc : List (Key × Da)} {k : List (Key × Da) → Mm → Prop}, (∀ x ∈ l, c.ok (g x)) →
    (∀ x ∈ l, ∀ Q : DK, Q (kD (f x)) M → tk (c.set (g x) δ) M Q) → (∀ x ∈ l, ∀ Q : DK, Q (v x) M → tv (c.set (g x) δ) M Q) → k (l.foldl (fun a x => putDK a (f x) (v x)) acc) M → dcD c gYes tk tv δ (l.map g) acc k M
  | [], _, _, _, _, _, h => h
  | x :: l, acc, k, h0, h1, h2, h => ⟨h0 x List.mem_cons_self, h1 x List.mem_cons_self _ (h2 x List.mem_cons_self _ ⟨f x, asK_kD _, dcD_map f v (fun y hy => h0 y (List.mem_cons_of_mem _ hy)) (fun y hy => h1 y (List.mem_cons_of_mem _ hy)) (fun y hy => h2 y (List.mem_cons_of_mem _ hy)) h⟩)⟩
section
variable {X : Cx}
def rInK (neg : Bool) : R2 := fun x y H Q => ∃ a o, y = .ref a ∧ DGet H a x o ∧ Q (.bl (if neg then !o.isSome else o.isSome)) H
theorem op_inK (hu : X.A.units + 1 < cLine) : OpR X (compareOp .In) (rInK false) := by
  intro pins s σ H x y v u Q I rx ry h
  obtain ⟨a, o, rfl, g, q⟩ := h
  cases (show u = Value.ref a from ry)
  exact d_in hu I g rx fun s' I' => ⟨.bl _, H, I', rfl, q⟩
theorem op_ninK (hu : X.A.units + 1 < cLine) : OpR X (compareOp .NotIn) (rInK true) := by
  intro pins s σ H x y v u Q I rx ry h
  obtain ⟨a, o, rfl, g, q⟩ := h
  cases (show u = Value.ref a from ry)
  exact d_notIn hu I g rx fun s' I' => ⟨.bl _, H, I', rfl, q⟩
def hInK (neg : Bool) : D2 := fun x y M Q => dctP y M fun kvs => ∃ k, asK x = some k ∧ Q (.bl (if neg then !(valD kvs k).isSome else (valD kvs k).isSome)) M
theorem inK_core {K : PySem.W.Frag} {neg : Bool} {x y : V} {H : Hp} {Q : VK} (h : L2o K (hInK neg) x y H Q) : rInK neg x y H Q := by
  obtain ⟨F, W, M, d, e, Qd, r1, r2, s, h, k⟩ := h
  obtain ⟨a, vs, ds, rfl, ha, rv, kk, hk, q⟩ := dct_of s r2 h
  rw [asK_of hk] at r1
  obtain rfl := rd_kD r1
  refine ⟨a, _, rfl, DGet.k ha, ?_⟩
  have e : (valV vs kk).isSome = (valD ds kk).isSome := by
    rcases rv.val (k := kk) with ⟨e1, e2⟩ | ⟨v, d', e1, e2, _⟩
    · rw [e1, e2]; rfl
    · rw [e1, e2]; rfl
  rw [e]
  exact k.now s (.bl _) q
theorem o_dinK (hu : X.A.units + 64 < cLine) : DO X (compareOp .In) (hInK false) := opImp (op_inK (Nat.lt_of_le_of_lt (Nat.add_le_add_left (by decide) _) hu)) fun _ _ _ _ h => inK_core h
theorem o_dninK (hu : X.A.units + 64 < cLine) : DO X (compareOp .NotIn) (hInK true) := opImp (op_ninK (Nat.lt_of_le_of_lt (Nat.add_le_add_left (by decide) _) hu)) fun _ _ _ _ h => inK_core h
end
end U
set_option Elab.async false
set_option linter.all false
set_option maxRecDepth 100000
set_option maxHeartbeats 2000000
namespace U
open PySem PySem.Spec PyProof.Rows L2 StX
section
variable {CX : CXT} {P : Program} {w : World} {K : PySem.W.Frag} {mg : Str → Option Value} {base : Heap} {k : Nat} {f : Addr} {name qual : Str} {params : Arguments} {body : List Stmt} {scope : Scope} {dV kV doc pm cdv ct oc : Value} {an od : Option Addr}
  {osl : Array (Option Value)} {N ps : List Str} {sp : Sp}
theorem fn_starF {pv : Str} (lk : K.lookup f = some ⟨oc, od, .func (PySem.W.fnOf name qual params body scope dV kV doc pm an cdv ct), osl⟩) (hcd : PySem.W.codeIn K cdv qual = true) (S : FnScope N (ps ++ [pv]) scope) (hCX : CXUp CX)
    (hb : ∀ us rest : List Value, us.length = ps.length → bindArgs (PySem.W.fnOf name qual params body scope dV kV doc pm an cdv ct) ⟨us ++ rest, []⟩ = (newTuple rest >>= fun t => pure (ps.zip us ++ [(pv, t)])))
    (hbody : ∀ (A : Around) (outer : List Env) (s : Shared) (H : Hp) (vs : List V) (Q : VK) (E : XK), Room k (A.deeper (envOfC qual scope s.heap.objs.size f cdv)) → sp vs H Q E →
      ∃ t, PSs (cxOf CX P w K mg base N qual scope f cdv A outer s H E) body t ∧ t { nx := fun _ H' => Q .non H', rt := Q } (start N vs) H) :
    FnR P w K mg base CX (k + 1) f (fun vs H Q E => ∃ ws rest, vs = ws ++ rest ∧ ws.length = ps.length ∧ rest.length ≤ sizeLine ∧ ∀ p, H p = Option.none → ∀ o : Obj, o.dict = none → sp (ws ++ [V.ref p]) (upd H p (.frz o (.tup rest))) Q E) := by
  intro A outer s H us vs Q E hr e0 r hsp
  obtain ⟨ws, rest, ev, hl, hz, hq⟩ := hsp
  subst ev
  obtain ⟨u1, u2, eu, r1, r2⟩ := vals_split r
  subst eu
  have hn : H s.heap.objs.size = Option.none := e0.hok.fresh (Nat.le_refl _)
  have hl1 : u1.length = ps.length := by rw [← r1.length]; exact hl
  have hl2 : u2.length ≤ sizeLine := by rw [← r2.length]; exact hz
  refine run_bnd lk hcd S hr e0 (G := fun xs H2 => ∃ (p : Addr) (o : Obj), H p = Option.none ∧ o.dict = none ∧ xs = ws ++ [V.ref p] ∧ H2 = upd H p (.frz o (.tup rest))) (fun A' Ex Q' h => ?_) fun s2 H2 xs ⟨p, o, hp, ho, ex, eH⟩ hr' => ?_
  · rw [hb u1 u2 hl1]
    refine wpAny_bind (wpAny_newTuple (wpAny_pure ?_) hl2)
    have new : ObjOk P w (upd H s.heap.objs.size (.frz { cls := .type "tuple", data := .seq u2.toArray } (.tup rest))) (s.heap.push ({ cls := .type "tuple", data := .seq u2.toArray } : Obj)) s.heap.objs.size (.frz { cls := .type "tuple", data := .seq u2.toArray } (.tup rest)) := ⟨Heap.get?_push_size _ rfl, hz, u2, r2, ⟨_, Heap.get?_push_size _ rfl, rfl, _, rfl⟩⟩
    have un := un_laid (fs := frs outer) (s := s) (o := ({ cls := .type "tuple", data := .seq u2.toArray } : Obj)) (u := .frz { cls := .type "tuple", data := .seq u2.toArray } (.tup rest)) hn
    have z := h _ _ (ws ++ [V.ref s.heap.objs.size]) (u1 ++ [Value.ref s.heap.objs.size]) (env0_laid e0 new) un rfl (fun e s' => hCX outer s H _ _ E e s' un (fun b o q => Heap.get?_push_of_some _ q) rfl) (r1.append (.cons rfl .nil))
      (by rw [List.length_append, List.length_append, hl] <;> rfl) ⟨_, _, hn, rfl, rfl, rfl⟩
    rw [List.zip_append hl1.symm] at z
    exact z
  · subst ex eH
    exact hbody A outer s2 _ _ Q E hr' (hq p hp o ho)
end
end U
namespace U
open PySem PySem.Spec PyProof.Rows L2 StX
/-- arguments, the last ones as one tuple -/
def spStar (n : Nat) (sp : DSp) : DSp := fun ds M Q Ed => ∃ ws rest, ds = ws ++ rest ∧ ws.length = n ∧ Sz rest.length ∧ sp (ws ++ [.tup rest]) M Q Ed
structure KnMR (P : Program) (w : World) (K : PySem.W.Frag) (mg : Str → Option Value) (base : Heap) (CX : CXT) (C : Addr) (m : Str) (k : Nat) (sp : DSp) : Prop where
  ex : ∃ f, FnR P w K mg base CX k f (LSp K sp) ∧ BMeth K C m f
theorem KnMR.of {P : Program} {w : World} {K : PySem.W.Frag} {mg : Str → Option Value} {base : Heap} {C : Addr} {m qual : Str} {st : Stmt} {N ps : List Str} {pv : Str} {k : Nat} {sp : DSp} (F : HasMeth K C m qual st) (S : FnScope N (ps ++ [pv]) (defScope st))
    (hb : ∀ (kV doc pm : Value) (an : Option Addr) (cdv ct : Value) (us rest : List Value), us.length = ps.length → bindArgs (PySem.W.fnOf m qual (defArgs st) (defBody st) (defScope st) .none kV doc pm an cdv ct) ⟨us ++ rest, []⟩ = (newTuple rest >>= fun t => pure (ps.zip us ++ [(pv, t)])))
    (hbody : ∀ (f : Addr) (cdv : Value) (A : Around) (outer : List Env) (s : Shared) (H : Hp) (E : XK), Room k (A.deeper (envOfC qual (defScope st) s.heap.objs.size f cdv)) →
      ∃ t, DB (cxOf (L2.CX P w) P w K mg base N qual (defScope st) f cdv A outer s H E) (defBody st) t ∧ ∀ ds M Q Ed, sp ds M Q Ed → t (bodyX Q Ed) (startD N ds) M) : KnMR P w K mg base (L2.CX P w) C m (k + 1) (spStar ps.length sp) := by
  obtain ⟨f, fd, G, e⟩ := F.ex
  obtain ⟨oc, od, kV, doc, pm, an, cdv, ct, osl, rfl, lk, hcd⟩ := G.ex
  refine ⟨f, FnR.imp (fn_starF (sp := LSp K sp) lk hcd S StX.cxUp (hb _ _ _ _ _ _) fun A outer s H vs Q E hr ⟨F, W, M, ds, Qd, Ed, r, st, h, kk, kx⟩ => ?_) fun vs H Q E ⟨F, W, M, ds, Qd, Ed, r, st, ⟨ws, rest, e1, hl, hz, h⟩, kk, kx⟩ => ?_, e⟩
  · obtain ⟨t, d, q⟩ := hbody f cdv A outer s H E hr
    exact ⟨_, d, ls_bodyX r st kk (kx_def kx) (q ds M Qd Ed h)⟩
  · subst e1
    have hlen := r.length
    rw [List.length_append] at hlen
    refine ⟨vs.take ps.length, vs.drop ps.length, (List.take_append_drop _ _).symm, by rw [List.length_take]; omega, ?_, fun p hp o ho => ?_⟩
    · have := hz.le
      rw [List.length_drop, sizeLine_eq]; omega
    · obtain ⟨s1, g1⟩ := st.new hp (.frz o (.tup (vs.drop ps.length))) ho
      have r1 : RDs K W H (vs.take ps.length) ws := by
        have := r.take ps.length
        have e : (ws ++ rest).take ps.length = ws := by rw [← hl]; exact List.take_left
        rwa [e] at this
      have r2 : RDs K W H (vs.drop ps.length) rest := by
        have := r.drop ps.length
        have e : (ws ++ rest).drop ps.length = rest := by rw [← hl]; exact List.drop_left
        rwa [e] at this
      exact ⟨F, _, M, _, Qd, Ed, (r1.mono g1).append (.cons (.tup (.inl ⟨.inl rfl, .inr ⟨o, upd_same⟩⟩) (r2.mono g1)) .nil), s1, h, kk.mono g1, kx.mono g1⟩
theorem FnR.nox {P : Program} {w : World} {K : PySem.W.Frag} {mg : Str → Option Value} {base : Heap} {k : Nat} {f : Addr} {sp : DSp} (F : FnR P w K mg base (L2.CX P w) k f (LSp K sp)) : FnR P w K mg base CX0 k f (LSp K (spN sp)) := by
  have x0 : ∀ {vs H Q E}, LSp K (spN sp) vs H Q E → LSp K sp vs H Q (fun _ _ _ => False) := fun ⟨F, W, M, ds, Qd, Ed, r, s, h, k, _⟩ => ⟨F, W, M, ds, Qd, X0, r, s, h, k, fun _ _ _ _ _ _ _ _ _ z => z.elim⟩
  intro A outer s H us vs Q E hr e0 hv hs
  refine codeAny_mono (F A outer s H us vs Q _ hr e0 hv (x0 hs)) fun r s' hq => ?_
  cases r with
  | error e =>
    obtain ⟨_, _, _, _, _, _, _, _, _, _, _, _, z⟩ := (show L2.CX P w outer H s (fun _ _ _ => False) e s' from hq)
    exact z.elim
  | ok fl => cases fl <;> exact hq
theorem KnMR.d {P : Program} {w : World} {K : PySem.W.Frag} {mg : Str → Option Value} {base : Heap} {C : Addr} {m : Str} {k : Nat} {sp : DSp} (D : KnMR P w K mg base (L2.CX P w) C m k sp) : KnMR P w K mg base CX0 C m k (spN sp) := by
  obtain ⟨f, F, r⟩ := D.ex
  exact ⟨f, FnR.nox F, r⟩
section
variable {X : Cx} {k i : Nat} {sp : DSp} {x m : Str} {p pos apos spos : Pos} {e o e1 e2 : Expr} {es : List Expr} {fs : XDA} {fd : DTA} {fo : DTE} {C : Addr} {f1 f2 : XDE} {g1 g2 : DTE}
/-- .. where it raises nothing -/
theorem d_makeR (M : MgOf X.K X.mg) (c : HasCls X.K x C) (D : KnMR X.prog X.w X.K X.mg X.base CX0 C "__init__" k sp) (hr : Room (k + 1) X.A) (ha : DA X (e :: es) fd) (hg : Gl X x := by rfl) (hdb : (x == ("__debug__" : Str)) = false := by decide)
    (he : starEach (e :: es) X.env = (false, eval e X.env) :: starEach es X.env := by rfl) (hpl : (backTo pos (starEach es X.env)).any (·.1) = false := by rfl) : DE X (.Call (.Name x p) (e :: es) [] pos) (gMakeS C sp idV fd gNil) := by
  obtain ⟨f, F, B⟩ := D.ex
  refine imp (pe_makeR (E := E0) ⟨c.mks, B.mt.at_, B.mt.fn, c.kc⟩ F hr hg (M.of _ _ c.at_) pass0 ha hdb he hpl) fun σ H Q ⟨δ, F, W, M, Qd, ev, s, h, kk⟩ => ⟨δ, F, W, M, _, ev, s, h, fun vs H1 W1 ds M1 g1 s1 r1 q1 => fun a dx h1 h2 h3 => ?_⟩
  exact make_end s1 h1 h2 h3 (kk.mono g1) (gd := .ref a :: ds) (fun g => .cons (.ref a) (r1.mono g)) true (q1 a (s1.freeM h1))
end
end U
set_option Elab.async false
set_option linter.all false
set_option maxRecDepth 100000
set_option maxHeartbeats 2000000
namespace U
open PySem PySem.Spec PyProof.Rows L2 ClX
structure HasCMeth (K : PySem.W.Frag) (C : Addr) (m qual : Str) (st : Stmt) : Prop where
  ex : ∃ g fd mc p, Fun K m qual st g fd ∧ CRead K C mc ∧ CMet K C mc m p g
structure KnC (P : Program) (w : World) (K : PySem.W.Frag) (mg : Str → Option Value) (base : Heap) (CX : CXT) (C : Addr) (m : Str) (k : Nat) (sp : DSp) : Prop where
  ex : ∃ g mc p, FnR P w K mg base CX k g (LSp K sp) ∧ CRead K C mc ∧ CMet K C mc m p g
abbrev KnCXD (P : Program) (w : World) (K : PySem.W.Frag) (mg : Str → Option Value) (base : Heap) (C : Addr) (m : Str) (k : Nat) (ps : List Str) (sp : DSp) : Prop := KnC P w K mg base (L2.CX P w) C m k sp
theorem KnCXD.of {P : Program} {w : World} {K : PySem.W.Frag} {mg : Str → Option Value} {base : Heap} {C : Addr} {m qual : Str} {st : Stmt} {N ps : List Str} {k : Nat} {sp : DSp} (F : HasCMeth K C m qual st) (S : FnScope N ps (defScope st))
    (hb : ∀ (kV doc pm : Value) (an : Option Addr) (cdv ct : Value) (us : List Value), us.length = ps.length → bindArgs (PySem.W.fnOf m qual (defArgs st) (defBody st) (defScope st) .none kV doc pm an cdv ct) ⟨us, []⟩ = pure (ps.zip us))
    (len : ∀ ds M Q E, sp ds M Q E → ds.length = ps.length)
    (hbody : ∀ (f : Addr) (cdv : Value) (A : Around) (outer : List Env) (s : Shared) (H : Hp) (E : XK), Room k (A.deeper (envOfC qual (defScope st) s.heap.objs.size f cdv)) →
      ∃ t, DB (cxOf (L2.CX P w) P w K mg base N qual (defScope st) f cdv A outer s H E) (defBody st) t ∧ ∀ ds M Q Ed, sp ds M Q Ed → t (bodyX Q Ed) (startD N ds) M) : KnCXD P w K mg base C m (k + 1) ps sp := by
  obtain ⟨g, fd, mc, p, G, r, c⟩ := F.ex
  refine ⟨g, mc, p, fnR_of (G.okX S (lsp_len len) fun cdv A outer s H vs Q E hr ⟨F, W, M, ds, Qd, Ed, r, st, h, kk, kx⟩ => ?_) (G.binds hb), r, c⟩
  obtain ⟨t, d, q⟩ := hbody g cdv A outer s H E hr
  exact ⟨_, d, ls_bodyX r st kk (kx_def kx) (q ds M Qd Ed h)⟩
theorem KnC.d {P : Program} {w : World} {K : PySem.W.Frag} {mg : Str → Option Value} {base : Heap} {C : Addr} {m : Str} {k : Nat} {sp : DSp} (D : KnC P w K mg base (L2.CX P w) C m k sp) : KnC P w K mg base CX0 C m k (spN sp) := by
  obtain ⟨g, mc, p, F, r⟩ := D.ex
  exact ⟨g, mc, p, FnR.nox F, r⟩
section
variable {X : Cx} {k : Nat} {sp : DSp} {x m : Str} {p pos apos : Pos} {e o i : Expr} {es : List Expr} {fs : XDA} {fd : DTA} {fo fi : DTE} {C : Addr} {ps : List Str}
end
end U
set_option Elab.async false
set_option linter.all false
set_option maxRecDepth 100000
set_option maxHeartbeats 2000000
namespace VG0
open PySem PySem.Spec PyProof.Rows L2 UX0
section
variable {prog : Program} {w : World} {A : Around} {R : Result → Shared → Prop} {s : Shared} {elt t0 i0 t1 i1 : Expr} {ifs0 ifs1 : List Expr} {scope : Scope} {pos : Pos} {it acc : Value} {env : Env}
end

section
variable {X : Cx}
end
end VG0
namespace U
open PySem PySem.Spec PyProof.Rows L2 UX0
section
variable {X : Cx} {tg elt iter tg1 iter1 : Expr} {ifs ifs1 : List Expr} {scope : Scope} {own : List (Str × Nat)} {vs1 : List Nat} {pos p pos2 p2 : Pos} {di di1 : DTI} {c c1 : CT} {tt tt1 : DTT} {te : DTE}
section
variable (hc : X.calm = true) (hN : X.N.Nodup) (hi : DI X tg iter di) (ok : BlkOk X.N X.env.scope scope own) (hvs : ∀ i ∈ vs1, i ∈ own.map (·.2))
    (hg : ∀ (s : Shared) (H : Hp) (C : Addr) (cl : List (Str × Addr)) (fp : List Addr), PG (X.blk s H scope (compEnvC scope cl C X.env) fp) tg (c.tg X.K)) (ht : ∀ (s : Shared) (H : Hp) (C : Addr) (cl : List (Str × Addr)) (fp : List Addr), DTs (X.blk s H scope (compEnvC scope cl C X.env) fp) ifs tt)
    (hi1 : ∀ (s : Shared) (H : Hp) (C : Addr) (cl : List (Str × Addr)) (fp : List Addr), DI (X.blk s H scope (compEnvC scope cl C X.env) fp) tg1 iter1 di1)
    (hg1 : ∀ (s : Shared) (H : Hp) (C : Addr) (cl : List (Str × Addr)) (fp : List Addr), PG (X.blk s H scope (compEnvC scope cl C X.env) fp) tg1 (c1.tg X.K)) (ht1 : ∀ (s : Shared) (H : Hp) (C : Addr) (cl : List (Str × Addr)) (fp : List Addr), DTs (X.blk s H scope (compEnvC scope cl C X.env) fp) ifs1 tt1)
    (he : ∀ (s : Shared) (H : Hp) (C : Addr) (cl : List (Str × Addr)) (fp : List Addr), DE (X.blk s H scope (compEnvC scope cl C X.env) fp) elt te)
end
end
section
variable {X : Cx} {a e : Expr} {fa f : DTE} {pos p : Pos}
end
end U
set_option Elab.async false
set_option linter.all false
set_option maxRecDepth 100000
set_option maxHeartbeats 2000000
namespace U
open PySem PySem.Spec PyProof.Rows L2
section
variable {X : Cx}
theorem cr_lenD : CallR X (.builtin "len") (fun xs H Q => ∃ a, ∃ kvs : List (Key × V), xs = [V.ref a] ∧ H a = some (.dK kvs) ∧ Q (.int (kvs.length : Nat)) H) := by
  intro pins s σ H xs us Q I r h
  obtain ⟨a, kvs, rfl, hD, q⟩ := h
  rw [Vals.ref1 r]
  exact d_len I (.inl hD) fun t s' I' => ⟨.int kvs.length, H, I', ⟨t, rfl⟩, q⟩
def kLenD : DC := fun xs M Q => match xs with
  | [x] => dctP x M fun kvs => Q (.int (kvs.length : Nat)) M
  | _ => False
theorem c_dlenD : CD X (.builtin "len") kLenD := cd_imp fun vs H Q ⟨F, W, M, ds, Qd, r, s, h, k⟩ => by
  refine ⟨_, cr_lenD, ?_⟩
  unfold kLenD at h
  split at h
  · obtain ⟨v, rfl, r1⟩ := r.one
    obtain ⟨a, vs, ds, rfl, ha, rv, q⟩ := dct_of s r1 h
    exact ⟨a, vs, rfl, ha, by rw [rv.length]; exact k.now s (.int _) q⟩
  · exact h.elim
end
/-- of a kind that is built in -/
theorem kit_mkT {K : PySem.W.Frag} {D : Addr} {T : String} {r : Bool} (h : PySem.W.kitMeta T = true) (c : PySem.W.mroIn K D (.type T) = some r) : PySem.W.kitOne K (.ref D) (.type T) = some r := by
  unfold PySem.W.kitOne PySem.W.kitCls
  rw [if_neg (by simp)]
  simp only [h, if_true]
  exact c
end U
set_option Elab.async false
set_option linter.all false
set_option maxRecDepth 100000
set_option maxHeartbeats 2000000
namespace U
open PySem PySem.Spec PyProof.Rows L2 UX0
section
variable {X : Cx}
end
end U
set_option Elab.async false
set_option linter.all false
set_option maxRecDepth 100000
set_option maxHeartbeats 2000000
namespace U
open PySem PySem.Spec PyProof.Rows L2 UZ0
section
variable {X : Cx} {pos ppos : Pos} {keys : List (Option Expr)} {values : List Expr} {value : Expr} {fs : List (Str × DTE)} {f : DTE} {x : Str} {j : Nat}
end
end U
set_option Elab.async false
set_option linter.all false
set_option maxRecDepth 100000
set_option maxHeartbeats 2000000
namespace U
open PySem PySem.Spec PyProof.Rows L2
section
variable {X : Cx}
def rEqL (K : PySem.W.Frag) : R2 := fun x y H Q => ∃ a b xs, x = .ref a ∧ y = .ref b ∧ SqL K H a xs ∧ SqL K H b [] ∧ Q (.bl xs.isEmpty) H
theorem op_eqL (hu : X.A.units < cLine) : OpR X (compareOp .Eq) (rEqL X.K) := by
  intro pins s σ H x y v u Q I rx ry h
  obtain ⟨a, b, xs, rfl, rfl, ha, hb, q⟩ := h
  cases rx
  cases ry
  obtain ⟨its, r, p, _⟩ := I.list ha
  obtain ⟨its2, r2, p2, _⟩ := I.list hb
  cases r2
  show wpAny _ _ (richCompare .Eq (Value.ref a) (Value.ref b)) _ _ _
  cases r with
  | nil => exact SeqAt.RcAt.lists (e := fun _ => true) p.isList p2.isList rfl hu (fun j h1 h2 => by simp at h2) _ _ _ _ ⟨.bl _, H, I, rfl, q⟩
  | cons h t => exact SeqAt.RcAt.lists_lengths p.isList p2.isList (by simp) hu _ _ _ _ ⟨.bl _, H, I, rfl, q⟩
def hEqL : D2 := fun x y M Q => match x, y with
  | .lst xs, .lst [] => Q (.bl xs.isEmpty) M
  | _, _ => False
theorem o_deqL (hu : X.A.units + 64 < cLine) : DO X (compareOp .Eq) hEqL := do_imp fun x y H Q ⟨F, W, M, d, e, Qd, r1, r2, s, h, k⟩ => by
  unfold hEqL at h
  split at h
  · cases r1 with
    | lst hs rv =>
      cases r2 with
      | lst ht rw_ =>
        cases rw_
        refine ⟨_, op_eqL (by omega), _, _, _, rfl, rfl, hs.sq, ht.sq, k.now s (.bl _) ?_⟩
        cases rv <;> exact h
  · exact h.elim
end
end U
set_option Elab.async false
set_option linter.all false
set_option maxRecDepth 100000
set_option maxHeartbeats 2000000
namespace PySem.SeqAt
open AutoSeq1 (wpAny_loadPart')
open MeetsSeq MeetsSeq2 MeetsSeq3 SeqRoads2
section
variable {A : Around} {s : Shared}
end
end PySem.SeqAt
namespace U
open PySem PySem.Spec PyProof.Rows L2 UX0
section
variable {X : Cx}
end
end U
set_option Elab.async false
set_option linter.all false
set_option maxRecDepth 100000
set_option maxHeartbeats 2000000
namespace U
open PySem PySem.Spec PyProof.Rows L2 UX0
section
variable {X : Cx}
end
section
variable {X : Cx} {a e : Expr} {fa f : DTE} {pos p : Pos}
end
end U
set_option Elab.async false
set_option linter.all false
set_option maxRecDepth 100000
set_option maxHeartbeats 2000000
namespace PySem.SeqAt
open AutoSeq1 (wpAny_loadPart')
open MeetsSeq MeetsSeq2 MeetsSeq3 SeqRoads2
section
variable {A : Around} {s : Shared}
end
end PySem.SeqAt
namespace U
open PySem PySem.Spec PyProof.Rows L2 UX0
section
variable {X : Cx}
end
end U
set_option Elab.async false
set_option linter.all false
set_option maxRecDepth 100000
set_option maxHeartbeats 2000000
namespace HT
open PySem PySem.Spec PyProof.Rows L2
section
variable {prog : Program} {w : World} {A : Around} {E : Value → Shared → Prop} {s : Shared}
end
end HT

namespace U
open PySem PySem.Spec PyProof.Rows L2
section
variable {X : Cx}
end
end U
set_option Elab.async false
set_option linter.all false
set_option maxRecDepth 100000
set_option maxHeartbeats 2000000
namespace PySem.SeqAt
open AutoSeq1 (wpAny_loadPart')
open MeetsSeq MeetsSeq2 MeetsSeq3 SeqRoads2
section
variable {prog : Program} {w : World} {A : Around} {R : Result → Shared → Prop}
end
section
variable {prog : Program} {w : World} {A : Around} {E : Value → Shared → Prop} {s : Shared}
end
end PySem.SeqAt
namespace U
open PySem PySem.Spec PyProof.Rows L2
section
variable {X : Cx} {C : Addr} {k : Nat} {ps : List Str} {sp : DSp} {f : Str}
end
end U
set_option Elab.async false
set_option linter.all false
set_option maxRecDepth 100000
set_option maxHeartbeats 2000000
namespace U
open PySem PySem.Spec PyProof.Rows L2 LamX
/-- a def at f, its code object at c -/
structure FunC (K : PySem.W.Frag) (x : Str) (st : Stmt) (f : Addr) (fd : FuncData) (c : Addr) : Prop where
  ex : ∃ (oc : Value) (od an : Option Addr) (osl : Array (Option Value)) (kV doc pm ct : Value), fd = PySem.W.fnOf x x (defArgs st) (defBody st) (defScope st) .none kV doc pm an (.ref c) ct ∧ K.lookup f = some ⟨oc, od, .func fd, osl⟩ ∧ PySem.W.codeIn K (.ref c) x = true ∧ PySem.W.keepIn K (.ref f) = true
theorem FunC.g {K : PySem.W.Frag} {x : Str} {st : Stmt} {f : Addr} {fd : FuncData} {c : Addr} (F : FunC K x st f fd c) : Fun K x x st f fd := by
  obtain ⟨oc, od, an, osl, kV, doc, pm, ct, rfl, l, h, kp⟩ := F.ex
  exact fun_mk l h kp
end U
set_option Elab.async false
set_option linter.all false
set_option maxRecDepth 100000
set_option maxHeartbeats 2000000
namespace U
open PySem PySem.Spec PyProof.Rows L2 UX0 UZ0
section
variable {X : Cx}
def rNeL (K : PySem.W.Frag) : R2 := fun x y H Q => ∃ a b xs, x = .ref a ∧ y = .ref b ∧ SqL K H a xs ∧ SqL K H b [] ∧ Q (.bl (!xs.isEmpty)) H
theorem op_neL (hu : X.A.units < cLine) : OpR X (compareOp .NotEq) (rNeL X.K) := by
  intro pins s σ H x y v u Q I rx ry h
  obtain ⟨a, b, xs, rfl, rfl, ha, hb, q⟩ := h
  cases rx
  cases ry
  obtain ⟨its, r, p, _⟩ := I.list ha
  obtain ⟨its2, r2, p2, _⟩ := I.list hb
  cases r2
  show wpAny _ _ (richCompare .NotEq (Value.ref a) (Value.ref b)) _ _ _
  cases r with
  | nil => exact SeqAt.RcNeAt.lists (e := fun _ => true) p.isList p2.isList rfl hu (fun j h1 h2 => by simp at h2) _ _ _ _ ⟨.bl _, H, I, rfl, q⟩
  | cons h t => exact SeqAt.RcNeAt.lists_lengths p.isList p2.isList (by simp) hu _ _ _ _ ⟨.bl _, H, I, rfl, q⟩
def hNeL : D2 := fun x y M Q => match x, y with
  | .lst xs, .lst [] => Q (.bl (!xs.isEmpty)) M
  | _, _ => False
theorem o_dneL (hu : X.A.units + 64 < cLine) : DO X (compareOp .NotEq) hNeL := do_imp fun x y H Q ⟨F, W, M, d, e, Qd, r1, r2, s, h, k⟩ => by
  unfold hNeL at h
  split at h
  · cases r1 with
    | lst hs rv =>
      cases r2 with
      | lst ht rw_ =>
        cases rw_
        refine ⟨_, op_neL (by omega), _, _, _, rfl, rfl, hs.sq, ht.sq, k.now s (.bl _) ?_⟩
        cases rv <;> exact h
  · exact h.elim
end
end U
set_option Elab.async false
set_option linter.all false
set_option maxRecDepth 100000
set_option maxHeartbeats 2000000
namespace VS0
open PySem PySem.SeqAt
open AutoSeq1 (wpAny_loadPart')
open MeetsSeq MeetsSeq2 MeetsSeq3 SeqRoads2
section
variable {prog : Program} {w : World} {A : Around} {R : Result → Shared → Prop}
end
section
variable {prog : Program} {w : World} {A : Around} {E : Value → Shared → Prop} {s : Shared}
end
end VS0
namespace U
open PySem PySem.Spec PyProof.Rows L2 UX0 UZ0
section
variable {X : Cx} {o i e e2 value : Expr} {fo fi fd f fv : DTE} {pos apos cpos p : Pos}
end
section
variable {X : Cx} {C : Addr} {k : Nat} {ps : List Str} {sp : DSp}
end
end U
set_option Elab.async false
set_option linter.all false
set_option maxRecDepth 100000
set_option maxHeartbeats 2000000
namespace U
open PySem PySem.Spec PyProof.Rows L2
def gLstT (K : PySem.W.Frag) (is : List Nat) : TG := L2.gLst K is.length (setsV is)
section
variable {X : Cx} {tg elt iter : Expr} {ifs : List Expr} {scope : Scope} {own : List (Str × Nat)} {pos : Pos} {di : DTI} {is : List Nat} {tt : DTT} {te : DTE}
section
variable (hc : X.calm = true) (hN : X.N.Nodup) (hi : DI X tg iter di) (ok : BlkOk X.N X.env.scope scope own)
    (hg : ∀ (s : Shared) (H : Hp) (C : Addr) (cl : List (Str × Addr)) (fp : List Addr), PG (X.blk s H scope (compEnvC scope cl C X.env) fp) tg (gLstT X.K is)) (ht : ∀ (s : Shared) (H : Hp) (C : Addr) (cl : List (Str × Addr)) (fp : List Addr), DTs (X.blk s H scope (compEnvC scope cl C X.env) fp) ifs tt)
    (he : ∀ (s : Shared) (H : Hp) (C : Addr) (cl : List (Str × Addr)) (fp : List Addr), DE (X.blk s H scope (compEnvC scope cl C X.env) fp) elt te)
end
end
end U
set_option Elab.async false
set_option linter.all false
set_option maxRecDepth 100000
set_option maxHeartbeats 2000000
namespace L2
open PySem PySem.Spec PyProof.Rows
/-- what the clauses wish of an exception of the body, one after the other; with a slot: as e -/
def wManyN (K : PySem.W.Frag) (Wout : WX) (D : Ends) : List (Value × Option Nat × (Addr → Value → Option Addr → TS)) → WX
  | [] => Wout
  | (c, none, ts) :: r => fun cls d σ H => ∃ b, PySem.W.exmOne K cls c = some b ∧ (b = true → ∀ a, H a = none → ts a cls d D σ H) ∧ (b = false → wManyN K Wout D r cls d σ H)
  | (c, some i, ts) :: r => fun cls d σ H => ∃ b, PySem.W.exmOne K cls c = some b ∧
      (b = true → ∀ a, H a = none → ts a cls d { nx := fun σ' H' => D.nx (σ'.set i none) H', rt := D.rt, bk := fun σ' H' => D.bk (σ'.set i none) H', ct := fun σ' H' => D.ct (σ'.set i none) H' } (σ.set i (some (.ref a))) H) ∧
      (b = false → wManyN K Wout D r cls d σ H)
inductive HdsOkN (X : Cx) : List ExceptHandler → List (Value × Option Nat × (Addr → Value → Option Addr → TS)) → Prop
  | nil : HdsOkN X [] []
  | cons {x : Str} {c : Value} {ts : Addr → Value → Option Addr → TS} {b₀ : Stmt} {suite : List Stmt} {np pos' : Pos} {hds : List ExceptHandler} {l : List (Value × Option Nat × (Addr → Value → Option Addr → TS))} (hc : Names X x c)
      (hsu : ∀ (a : Addr) (oe : Obj) (cls : Value) (d : Option Addr) (pn : List (Addr × Obj)), Zc cls d oe → (∃ vs, oe.data = .fields vs) → PSs (X.suite a ((a, oe) :: pn)) (b₀ :: suite) (ts a cls d)) (r : HdsOkN X hds l) :
      HdsOkN X (.ExceptHandler (some (.Name x np)) none (b₀ :: suite) pos' :: hds) ((c, none, ts) :: l)
  | asx {x n : Str} {c : Value} {i : Nat} {ts : Addr → Value → Option Addr → TS} {b₀ : Stmt} {suite : List Stmt} {np pos' : Pos} {hds : List ExceptHandler} {l : List (Value × Option Nat × (Addr → Value → Option Addr → TS))} (hc : Names X x c)
      (hN : X.N.Nodup) (hi : X.N[i]? = some n) (hln : X.env.kindOf n = some .local)
      (hsu : ∀ (a : Addr) (oe : Obj) (cls : Value) (d : Option Addr) (pn : List (Addr × Obj)), Zc cls d oe → (∃ vs, oe.data = .fields vs) → PSs (X.suite a ((a, oe) :: pn)) (b₀ :: suite) (ts a cls d)) (r : HdsOkN X hds l) :
      HdsOkN X (.ExceptHandler (some (.Name x np)) (some n) (b₀ :: suite) pos' :: hds) ((c, some i, ts) :: l)
section
variable {X : Cx} {body : List Stmt} {h₀ : ExceptHandler} {hds : List ExceptHandler} {l : List (Value × Option Nat × (Addr → Value → Option Addr → TS))} {pos : Pos} {tb : WX → TS} {Wout : WX}
theorem ps_try_manyN (hs : X.stack = X.env :: X.outer) (hf : X.env.frame = some X.env.locals) (tk : Takes X Wout)
    (hb : ∀ (W : WX) (pn : List (Addr × Obj)) (xe : Value → Shared → Prop), Takes (X.tr pn xe) W → PassesOwn (model X.prog X.w) X.A X.env xe → PSs (X.tr pn xe) body (tb W))
    (hh : HdsOkN X (h₀ :: hds) l) : PS X (.Try body (h₀ :: hds) [] [] pos) (fun D σ H => tb (wManyN X.K Wout D l) D σ H) := by
  refine ⟨fun pins s σ H D I h => ?_⟩
  have ok := I.ok
  have hfr : X.A.frames = some (X.env :: X.outer) := by rw [ok.frames, hs]
  refine wpAny_Try_except ?_
  refine wpAny_mono ((hb (wManyN X.K Wout D l) (X.pn ++ pins) (fun e s₁ => wpAny (model X.prog X.w) X.A (noteFrame e X.env) (fun _ s₂ => wpAny (model X.prog X.w) X.A (setFlight e none) (fun _ s₃ =>
    wpAny (model X.prog X.w) X.A (handleBy e X.env (h₀ :: hds)) (SP X pins D) X.xe s₃) X.xe s₂) X.xe s₁) (fun u s' xx => ?_) PassesOwn.looking).run [] s σ H D (I.toTry _) h) (fun f s1 hsp => ?_) (fun e s1 he => he)
  · -- the catch
    obtain ⟨a, B, sI, pins', σ', H', cls, d, rfl, J', nb, up, sky, na, os, ag, w⟩ := xx
    have J : Inv X pins σ' H' sI := J'.ofTry ok
    have sky' : Sky B (X.env :: X.outer) a (Zc cls d) X.env.locals s'.heap := by rw [← hs]; exact sky
    show wpAny (model X.prog X.w) X.A (noteFrame (.ref a) X.env) _ _ _
    refine Sky.land Zc.steady hfr hf sky' fun h3 fl3 up3 => ?_
    have J3 : Inv X pins σ' H' { s' with heap := h3 } := J.landed nb fl3.1 (up.trans up3) os ag
    obtain ⟨oe3, vs3, he3, hz3, hd3⟩ := fl3.there
    have notFr : ∀ {h : Heap} {o : Obj} {vs : Array Value}, h.FunFrames B (X.env :: X.outer) → h.get? a = some o → o.data = .fields vs → a ∉ frs (X.env :: X.outer) := fun {h o vs} ff e dd hm => by
      obtain ⟨_, o', e', hnf⟩ := ff.mem hm
      rw [e] at e'; cases e'
      exact hnf _ dd
    have nfr := notFr fl3.2.2.1 he3 hd3
    have nL : a ≠ X.env.locals := fun z => nfr (List.mem_filterMap.mpr ⟨X.env, List.mem_cons_self, by rw [hf, z]⟩)
    have nF : a ∉ X.fs := fun hm => by
      obtain ⟨e, he, q⟩ := List.mem_filterMap.mp hm
      exact nfr (List.mem_filterMap.mpr ⟨e, List.mem_cons_of_mem _ he, q⟩)
    have S3 := J3.suite he3 hd3 na nL nF
    have go : ∀ {hds' : List ExceptHandler} {l' : List (Value × Option Nat × (Addr → Value → Option Addr → TS))}, HdsOkN X hds' l' → wManyN X.K Wout D l' cls d σ' H' →
        wpAny (model X.prog X.w) X.A (handleBy (.ref a) X.env hds') (SP X pins D) X.xe { s' with heap := h3 } := by
      intro hds' l' hk
      induction hk with
      | nil =>
        intro w
        refine wpAny_handleBy_nil ?_
        obtain ⟨k1, k2, k3, oe, vs, T, oT, ts', he, hz, hd, h1, hr⟩ := id fl3
        unfold PySem.passOn
        refine wpAny_bind (wpAny_field he hd h1 ?_)
        rw [if_neg (show ¬ ((Value.ref T == Value.none) = true) from by simp)]
        have fin : wpAny (model X.prog X.w) X.A (setFlight (.ref a) X.env.frame) (fun _ s4 => wpAny (model X.prog X.w) X.A (throw (.ref a) : Sem Flow) (SP X pins D) X.xe s4) X.xe { s' with heap := h3 } := by
          rw [hf]
          refine HandSPX.setFlight_upZ fl3 fun h4 hh4 up4 => wpAny_throw (tk _ _ ?_)
          exact ⟨a, B, sI, pins, σ', H', cls, d, rfl, J, nb, (up.trans up3).trans up4, .inr (.inr (by rw [hs]; exact hh4)), na, os, ag, w⟩
        first
          | exact wpAny_bind (wpAny_pure (wpAny_bind fin))
          | exact wpAny_bind fin
      | @cons x c ts b₀ suite np pos' hds2 l2 hc hsu r ih =>
        intro w
        obtain ⟨b, hb1, hyes, hno⟩ := w
        refine wpAny_handleBy_cons (codeAny_handlers_test ?_) (by intro q; cases q)
        have LT : PySem.W.Looks (model X.prog X.w) h3 (typeOf (.ref a)) cls := fun A Q E s k q => wpAny_typeOf_ref (k _ _ he3) (by rw [hz3.1]; exact q)
        have LM := PySem.W.exm_one (M := model X.prog X.w) (J3.kIn) LT hb1
        have test : ∀ {Q : Value → Shared → Prop} {E : Value → Shared → Prop}, Q c { s' with heap := h3 } → wpAny (model X.prog X.w) (X.A.mark (some (.ref a))) (eval (.Name x np) X.env) Q E { s' with heap := h3 } := fun {Q E} q => by
          obtain ⟨hg, hdbg, hm | ⟨hm, hv, hnn⟩⟩ := hc
          · exact ld_glob (X := X.suite a ((a, oe3) :: (X.pn ++ pins))) S3 hg hm q hdbg
          · exact ld_blt (X := X.suite a ((a, oe3) :: (X.pn ++ pins))) S3 hg hm hv q hnn hdbg
        refine test (LM.here ?_)
        cases b with
        | true =>
          refine codeAny_handlers_suite ?_
          refine HandSPX.lands_againZ fl3 fun h4 fl4 up4 => ?_
          have J4 : Inv X pins σ' H' { s' with heap := h4 } := J.landed nb fl4.1 ((up.trans up3).trans up4) os ag
          obtain ⟨oe4, vs4, he4, hz4, hd4⟩ := fl4.there
          have S4 := J4.suite he4 hd4 na nL nF
          refine wpAny_mono ((hsu a oe4 cls d (X.pn ++ pins) hz4 ⟨_, hd4⟩).run [] _ _ H' _ S4 (hyes rfl a na)) (fun f s6 hsp => ?_) (fun _ _ z => False.elim z)
          cases f with
          | next =>
            obtain ⟨σ6, H6, S6, q6⟩ := hsp
            exact ⟨_, _, S6.unsuite ok, q6⟩
          | brk =>
            obtain ⟨σ6, H6, S6, q6⟩ := hsp
            exact ⟨_, _, S6.unsuite ok, q6⟩
          | cont =>
            obtain ⟨σ6, H6, S6, q6⟩ := hsp
            exact ⟨_, _, S6.unsuite ok, q6⟩
          | ret u =>
            obtain ⟨v6, σ6, H6, S6, r6, q6⟩ := hsp
            exact ⟨_, _, _, S6.unsuite ok, r6, q6⟩
        | false =>
          show wpAny _ X.A (handleBy (.ref a) X.env hds2) _ _ _
          exact ih (hno rfl)
      | @asx x n c i ts b₀ suite np pos' hds2 l2 hc hN hi hln hsu r ih =>
        intro w
        obtain ⟨b, hb1, hyes, hno⟩ := w
        have hloc : Loc X.env.scope n := .inl hln
        refine wpAny_handleBy_cons (codeAny_handlers_test ?_) (by intro q; cases q)
        have LT : PySem.W.Looks (model X.prog X.w) h3 (typeOf (.ref a)) cls := fun A Q E s k q => wpAny_typeOf_ref (k _ _ he3) (by rw [hz3.1]; exact q)
        have LM := PySem.W.exm_one (M := model X.prog X.w) (J3.kIn) LT hb1
        have test : ∀ {Q : Value → Shared → Prop} {E : Value → Shared → Prop}, Q c { s' with heap := h3 } → wpAny (model X.prog X.w) (X.A.mark (some (.ref a))) (eval (.Name x np) X.env) Q E { s' with heap := h3 } := fun {Q E} q => by
          obtain ⟨hg, hdbg, hm | ⟨hm, hv, hnn⟩⟩ := hc
          · exact ld_glob (X := X.suite a ((a, oe3) :: (X.pn ++ pins))) S3 hg hm q hdbg
          · exact ld_blt (X := X.suite a ((a, oe3) :: (X.pn ++ pins))) S3 hg hm hv q hnn hdbg
        refine test (LM.here ?_)
        cases b with
        | true =>
          refine codeAny_handlers_suite_as ?_
          refine HandSPX.lands_againZ fl3 fun h4 fl4 up4 => ?_
          have J4 : Inv X pins σ' H' { s' with heap := h4 } := J.landed nb fl4.1 ((up.trans up3).trans up4) os ag
          obtain ⟨oe4, vs4, he4, hz4, hd4⟩ := fl4.there
          have S4 := J4.suite he4 hd4 na nL nF
          refine store_ok (X := X.suite a ((a, oe4) :: (X.pn ++ pins))) (v := .ref a) S4 hN hi hloc rfl (fun s5 S5 => ?_) (.inr hln)
          refine wpAny_mono ((hsu a oe4 cls d (X.pn ++ pins) hz4 ⟨_, hd4⟩).run [] s5 _ H' _ S5 (hyes rfl a na)) (fun f s6 hsp => ?_) (fun _ _ z => False.elim z)
          have end_ : ∀ {σ6 : St} {H6 : Hp} {Q : Shared → Prop}, Inv (X.suite a ((a, oe4) :: (X.pn ++ pins))) [] σ6 H6 s6 → (∀ s7, Inv X pins (σ6.set i none) H6 s7 → Q s7) →
              wpAny (model X.prog X.w) X.A (do bindName X.env n .none; unbindBehindTheSuite X.env n pos') (fun _ s7 => Q s7) X.xe s6 := fun {σ6 H6 Q} S6 hq => gone_ok (S6.unsuite ok) hN hi hln hq
          cases f with
          | next =>
            obtain ⟨σ6, H6, S6, q6⟩ := hsp
            exact end_ S6 fun s7 J7 => ⟨_, _, J7, q6⟩
          | brk =>
            obtain ⟨σ6, H6, S6, q6⟩ := hsp
            exact end_ S6 fun s7 J7 => ⟨_, _, J7, q6⟩
          | cont =>
            obtain ⟨σ6, H6, S6, q6⟩ := hsp
            exact end_ S6 fun s7 J7 => ⟨_, _, J7, q6⟩
          | ret u =>
            obtain ⟨v6, σ6, H6, S6, r6, q6⟩ := hsp
            exact end_ S6 fun s7 J7 => ⟨_, _, _, J7, r6, q6⟩
        | false =>
          show wpAny _ X.A (handleBy (.ref a) X.env hds2) _ _ _
          exact ih (hno rfl)
    exact go hh w
  · cases f with
    | next =>
      obtain ⟨σ', H', J', q⟩ := hsp
      exact wpAny_execs_nil ⟨σ', H', J'.ofTry ok, q⟩
    | brk =>
      obtain ⟨σ', H', J', q⟩ := hsp
      exact ⟨σ', H', J'.ofTry ok, q⟩
    | cont =>
      obtain ⟨σ', H', J', q⟩ := hsp
      exact ⟨σ', H', J'.ofTry ok, q⟩
    | ret u =>
      obtain ⟨v, σ', H', J', r, q⟩ := hsp
      exact ⟨v, σ', H', J'.ofTry ok, r, q⟩
end
end L2
set_option Elab.async false
set_option linter.all false
set_option maxRecDepth 100000
set_option maxHeartbeats 4000000
namespace VV0
open PySem PySem.HandSPX PySem.Builtin PySem.Builtin.ObjectAttr
/-- the facts of a built-in base; its __new__ may be another one's (KeyError: LookupError's) -/
structure EB2 (B Bn newId initId : String) (bm : List Value) : Prop where
  ends : newId.endsWith ".__new__" = true
  owner : newId.dropRight 8 = Bn
  entry : entryFor table newId = some Builtin.«BaseException.__new__»
  quiet : newId.startsWith "lifetime." = false
  init : Slot B "__init__" initId
  initEntry : entryFor table initId = some Builtin.«BaseException.__init__»
  initSplit : splitId initId = some (B, "__init__")
  initKind : builtinKind initId = some .slot
  initRow : Manifest.signature? initId = some ⟨.positional, "*", B, .self, [⟨"args", .varPos, false⟩]⟩
  noStar : (B != "*") = true
  noStarN : (Bn != "*") = true
  newSplit : splitId newId = some (Bn, "__new__")
  newKind : builtinKind newId = some .builtinFn
  newRow : Manifest.signature? newId = some ⟨.any, Bn, Bn, .cls, [⟨"args", .varPos, false⟩, ⟨"kwargs", .varKw, false⟩]⟩
  hasB : bm.contains (.type B) = true
  hasN : bm.contains (.type Bn) = true
  noAttr : bm.contains (.type "AttributeError") = false
  noName : bm.contains (.type "NameError") = false
  canon : Manifest.canonical newId = Manifest.canonical "BaseException.__new__"
theorem EB2.of {B newId initId : String} {bm : List Value} (F : ExcBaseFacts B newId initId bm) : EB2 B B newId initId bm :=
  ⟨F.ends, F.owner, F.entry, F.quiet, F.init, F.initEntry, F.initSplit, F.initKind, F.initRow, F.noStar, F.noStar, F.newSplit, F.newKind, F.newRow, F.hasB, F.hasB, F.noAttr, F.noName, F.canon⟩
section
variable {M : Model} {A : Around} {E : Value → Shared → Prop} {h : Heap} {g : Array GenState} {d : Drawn} {t : Nat} {os : OsState}
variable {nm q : Str} {C N : Addr} {bs bm bmB : List Value} {hdct : Bool} {sn : List Str} {sub : List Value} {ab : Bool} {col : Option Bool} {dd : Option Addr} {k0 k1 k2 k3 k5 : Option Value} {B Bn newId initId : String}
theorem check_new_own (F : EB2 B Bn newId initId bmB) (hT : ∀ X : String, bm.contains (.type X) = bmB.contains (.type X)) {rest : List Value} {Q : Unit → Shared → Prop}
    (hC : h.get? C = some (excClassObj nm q C N bs bm hdct sn sub ab col dd k0 k1 k2 k3 k5 newId)) (hq : Q () ⟨h, g, d, t, os⟩) : wpAny M A (checkBuiltinCall newId ⟨.ref C :: rest, []⟩) Q E ⟨h, g, d, t, os⟩ := by
  have hcont : (Value.ref C :: bm).contains (.type Bn) = true := by rw [List.contains_cons, hT, F.hasN, Bool.or_true]
  have hstar := F.noStarN
  simp only [checkBuiltinCall, F.newKind, F.newSplit, F.newRow]
  repeat (first | refine wpAny_loadPart_at hC ?_ | (refine wpAny_isSubtype_exc hC ?_; rw [hcont]) | refine wpAny_staticBase_exc hC ?_ | refine wpAny_madeBy_exc hC ?_ | simp only [bne_self_eq_false, Bool.false_eq_true, if_false] | wp_step)
  exact hq
theorem check_init_own (F : EB2 B Bn newId initId bmB) (hT : ∀ X : String, bm.contains (.type X) = bmB.contains (.type X)) {e : Addr} {oe : Obj} {rest : List Value} {Q : Unit → Shared → Prop}
    (hC : h.get? C = some (excClassObj nm q C N bs bm hdct sn sub ab col dd k0 k1 k2 k3 k5 newId)) (he : h.get? e = some oe) (hcls : oe.cls = .ref C) (hq : Q () ⟨h, g, d, t, os⟩) :
    wpAny M A (checkBuiltinCall initId ⟨.ref e :: rest, []⟩) Q E ⟨h, g, d, t, os⟩ := by
  have hcB : (Value.ref C :: bm).contains (.type B) = true := by rw [List.contains_cons, hT, F.hasB, Bool.or_true]
  have hshort := F.noStar
  simp only [checkBuiltinCall, F.initKind, F.initSplit, F.initRow]
  repeat (first | (with_reducible refine wpAny_loadPart_at he ?_; rw [hcls]) | with_reducible refine wpAny_loadPart_at hC ?_ | (with_reducible refine wpAny_isSubtype_exc hC ?_; rw [hcB]) | wp_step)
  refine wpAny_onRaise ?_
  rw [show ∀ (a b : String) (n : Nat), Bind.check ⟨.positional, "*", B, .self, [⟨"args", .varPos, false⟩]⟩ a b n (List.map (fun x => x.fst) ({ pos := Value.ref e :: rest } : Args).kw) = pure () from
    fun a b n => check_star_args _ _ _ _ _ _]
  exact wpAny_pure hq
end

section
variable {prog : Program} {w : World} {A : Around} {E : Value → Shared → Prop} {R : Result → Shared → Prop} {h : Heap} {g : Array GenState} {d : Drawn} {t : Nat} {os : OsState}
variable {nm q : Str} {C N : Addr} {bs bm bmB : List Value} {hdct : Bool} {sn : List Str} {sub : List Value} {ab : Bool} {col : Option Bool} {dd : Option Addr} {k0 k1 k2 k3 k5 : Option Value} {B Bn newId initId : String}

theorem new_own (F : EB2 B Bn newId initId bmB) (hT : ∀ X : String, bm.contains (.type X) = bmB.contains (.type X)) {rest : List Value}
    (hC : h.get? C = some (excClassObj nm q C N bs bm hdct sn sub ab col dd k0 k1 k2 k3 k5 newId))
    (hq : R (.ok (.ret (.ref (h.objs.size + 1)))) ⟨(h.push { cls := .type "tuple", data := .seq rest.toArray }).push
      { cls := .ref C, data := .fields #[.ref h.objs.size, .none, .none, .none, .bool false, .none] }, g, d, t, os⟩) (hrest : rest.length ≤ sizeLine) :
    codeAny (model prog w) A (.builtin newId ⟨.ref C :: rest, []⟩) R ⟨h, g, d, t, os⟩ := by
  have hends := F.ends
  have hcB : (Value.ref C :: bm).contains (.type Bn) = true := by rw [List.contains_cons, hT, F.hasN, Bool.or_true]
  have hcA : (Value.ref C :: bm).contains (.type "AttributeError") = false := by rw [List.contains_cons, hT, F.noAttr]; rfl
  have hcN : (Value.ref C :: bm).contains (.type "NameError") = false := by rw [List.contains_cons, hT, F.noName]; rfl
  refine codeAny_builtinAt F.entry ?_
  unfold Builtin.«BaseException.__new__»
  refine wpAt_bind ?_
  show wpAt _ _ _ (stack >>= _) _ _ _
  refine wpAt_bind (wpAt_stack fun p below => wpAt_of_wpAny ?_)
  wp_walk
  refine wpAt_of_wpAny ?_
  rw [F.owner]
  repeat (first | with_reducible refine wpAny_madeHere_exc F.canon hC ?_ | with_reducible refine wpAny_loadPart_at hC ?_ | (with_reducible refine wpAny_isSubtype_exc hC ?_; first | rw [hcB] | rw [hcA] | rw [hcN]) | wp_step)
  show R _ _
  rw [Heap.size_push]
  exact hq

theorem type_call_own (F : EB2 B Bn newId initId bmB) (hT : ∀ X : String, bm.contains (.type X) = bmB.contains (.type X)) {rest : List Value} {fI : Addr} {Q : Fin → Shared → Prop}
    (hC : h.get? C = some (excClassObj nm q C N bs bm hdct sn sub ab col dd k0 k1 k2 k3 k5 newId))
    (hi : W.Looks (model prog w) h (typeLookup (.ref C) "__init__") (some (.ref fI))) (hb : ∀ self, W.Looks (model prog w) h (bindSpecial (.ref fI) self) (.ref fI, [self])) (hrest : rest.length ≤ sizeLine)
    (hq : codeAny (model prog w) A (.call (.ref fI) ⟨.ref (h.objs.size + 1) :: rest, []⟩)
      (fun r s' => match r with | .ok (.ret v) => v = .none ∧ Q (.done (.ret (.ref (h.objs.size + 1)))) s' | .ok _ => False | .error e => E e s')
      ⟨(h.push (W.kdv_tup rest)).push (excO C h.objs.size), g, d, t, os⟩) :
    wpAny (model prog w) A (Builtin.«type.__call__» ⟨.ref C :: rest, []⟩) Q E ⟨h, g, d, t, os⟩ := by
  repeat (first | with_reducible refine wpAny_loadPart_at hC ?_ | with_reducible refine wpAny_madeBy_exc hC ?_ | wp_step)
  refine codeAny_call_builtin_code (Code.quiet_builtin _ F.quiet) (check_new_own F hT hC ?_)
  refine new_own F hT hC ?_ hrest
  show wpAny _ _ _ _ _ _
  have k : ∀ b o, h.get? b = some o → ((h.push (W.kdv_tup rest)).push (excO C h.objs.size)).get? b = some o := fun b o e => Heap.get?_push_of_some _ (Heap.get?_push_of_some _ e)
  have hC₁ := k _ _ hC
  have hget : ((h.push (W.kdv_tup rest)).push (excO C h.objs.size)).get? (h.objs.size + 1) = some (excO C h.objs.size) := by heap_get
  have hcC : (Value.ref C :: bm).contains (.ref C) = true := by simp
  have i1 := hi.keeps k
  have b1 := (hb (.ref (h.objs.size + 1))).keeps k
  unfold isInstance
  repeat (first | with_reducible refine wpAny_loadPart_at hget ?_ | (with_reducible refine wpAny_isSubtype_exc hC₁ ?_; rw [hcC]) | wp_step)
  show wpAny _ _ (typeLookup (.ref C) _) _ _ _
  refine i1.at ?_
  refine wpAny_holding (wpAny_bind (b1.at ?_))
  refine wpAny_bind (wpAny_call (codeAny_mono hq fun r s' z => ?_))
  rcases r with e | (v | _ | _ | _) <;> first | exact z | exact z.elim | skip
  obtain ⟨rfl, z⟩ := z
  first
    | exact wpAny_pure (wpAny_pure z)
    | (wp_walk; exact z)

theorem call_own (F : EB2 B Bn newId initId bmB) (hT : ∀ X : String, bm.contains (.type X) = bmB.contains (.type X)) {rest : List Value} {fI : Addr}
    (hC : h.get? C = some (excClassObj nm q C N bs bm hdct sn sub ab col dd k0 k1 k2 k3 k5 newId))
    (hi : W.Looks (model prog w) h (typeLookup (.ref C) "__init__") (some (.ref fI))) (hb : ∀ self, W.Looks (model prog w) h (bindSpecial (.ref fI) self) (.ref fI, [self])) (hrest : rest.length ≤ sizeLine)
    (hq : codeAny (model prog w) (A.under (.builtin "type.__call__" ⟨.ref C :: rest, []⟩)) (.call (.ref fI) ⟨.ref (h.objs.size + 1) :: rest, []⟩) (W.InitBack (h.objs.size + 1) R)
      ⟨(h.push (W.kdv_tup rest)).push (excO C h.objs.size), g, d, t, os⟩) :
    codeAny (model prog w) A (.call (.ref C) ⟨rest, []⟩) R ⟨h, g, d, t, os⟩ := by
  have f1 := tc_lookup
  have f2 := tc_bind (.ref C)
  have hTy : (⟨h, g, d, t, os⟩ : Shared).TypeIs (.ref C) "type" := ⟨_, hC, rfl⟩
  refine codeAny_of_tree ?_
  show wpAny _ _ (callAny (.ref C) _) _ _ _
  repeat (any_goals (first | assumption | with_reducible refine wpAny_loadPart_at hC ?_ | wp_step))
  refine ⟨rfl, ?_⟩
  refine codeAny_call_builtin_at (Code.quiet_builtin _ (by decide +kernel)) entry_typeCall (wpAny_check_type_call_sub hC (type_call_own F hT hC hi hb hrest ?_))
  refine codeAny_mono hq fun r s' z => ?_
  rcases r with e | (v | _ | _ | _) <;> exact z

/-- ValueError.__init__(e, ..): the args are laid anew -/
theorem init_base (F : EB2 B Bn newId initId bmB) (hT : ∀ X : String, bm.contains (.type X) = bmB.contains (.type X)) {e t0 : Addr} {rest : List Value}
    (hC : h.get? C = some (excClassObj nm q C N bs bm hdct sn sub ab col dd k0 k1 k2 k3 k5 newId)) (he : h.get? e = some (excO C t0)) (hrest : rest.length ≤ sizeLine)
    (hq : ∀ h' t1, (∀ b o, b ≠ e → h.get? b = some o → h'.get? b = some o) → h'.get? e = some (excO C t1) → R (.ok (.ret .none)) ⟨h', g, d, t, os⟩) :
    codeAny (model prog w) A (.call (.builtin initId) ⟨.ref e :: rest, []⟩) R ⟨h, g, d, t, os⟩ := by
  refine codeAny_call_builtin F.init.plain F.initEntry (check_init_own F hT hC he rfl ?_)
  wp_walk
  refine hq _ h.objs.size (fun b o hb ho => ?_) ?_
  · rw [Heap.get?_update_other _ _ (Ne.symm hb)]
    exact Heap.get?_push_of_some _ ho
  · rw [Heap.get?_update_self _ (Heap.get?_push_of_some _ he) rfl]
    rfl
end

structure TlOk (tl : List Value) : Prop where
  pass : ∀ self, refuseLoop self "__setattr__" tl = pure ()
  obj : tl.contains (.type "object") = true
section
variable {prog : Program} {w : World} {A : Around} {E : Value → Shared → Prop} {R : Result → Shared → Prop} {hp : Heap} {g : Array GenState} {d : Drawn} {t : Nat} {os : OsState}
theorem exc_osaT {tl : List Value} (T : TlOk tl) {K : W.Frag} {name : Str} {tk : Tok} {v : Value} {x C : Addr} {fv : Array Value} {cd : ClassData}
    (X : K.In hp) (hx : hp.get? x = some { cls := .ref C, data := .fields fv }) (hcd : W.clsIn K C = some cd) (hm : cd.mro = .ref C :: tl) (hh : cd.hasDict = true) (ha : W.findIn K (.ref C) name = some none)
    (hq : ∀ h' tk' dx, (∀ b o, b ≠ x → hp.get? b = some o → h'.get? b = some o) → hp.objs.size ≤ dx → dx ≠ x → h'.get? x = some { cls := .ref C, dict := some dx, data := .fields fv } →
      h'.Ns1 dx (fun y => if y = name then some v else none) → R (.ok (.ret .none)) ⟨h', g, d, tk', os⟩) :
    codeAny (model prog w) A (.call (.builtin "object.__setattr__") ⟨[.ref x, .str name tk, v], []⟩) R ⟨hp, g, d, t, os⟩ := by
  have I : W.InstAt hp x { cls := .ref C, data := .fields fv } C none := ⟨hx, rfl, rfl, trivial⟩
  have SF := F.store_object
  have ne : cd.mro.isEmpty = false := by rw [hm]; rfl
  have hob : cd.mro.contains (.type "object") = true := by rw [hm, List.contains_cons, T.obj, Bool.or_true]
  have hxs : x ≠ hp.objs.size := Nat.ne_of_lt (Heap.lt_size hx)
  have sub : W.Looks (model prog w) hp (isInstance (.ref x) (.type "object")) true := I.type.andThen (W.looks_mroIn X (by unfold W.mroIn; rw [hcd, Option.bind_some, if_neg (by rw [ne]; decide), hob]))
  refine codeAny_call_builtin SF.slot.plain SF.entry (@W.check_slot (model prog w) _ _ ⟨hp, g, d, t, os⟩ "object.__setattr__" "object" "__setattr__" (.ref x) [.str name tk, v] [] _ SF.kind SF.split sub (SF.args (.ref x) (.str name tk) v) ?_)
  have hmr : W.Looks (model prog w) hp (mroOf (.ref C)) cd.mro := (W.looks_clsIn X hcd).andThen .now
  have L3 : W.Looks (model prog w) hp (storeTaker? none) none := .now
  have hcls : W.Looks (model prog w) hp (classData C) cd := W.looks_clsIn X hcd
  rw [W.osa_eq, refuse_eq]
  refine wpAny_bind (wpAny_bind (I.type.at (wpAny_bind (hmr.at ?_))))
  rw [hm, refuseLoop_ref, T.pass]
  refine wpAny_pure (wpAny_bind (I.type.at (wpAny_bind ((W.looks_findIn X ha).at (wpAny_bind (L3.at ?_))))))
  show wpAny _ _ (storeInOwnDict (.ref x) (.ref C) (.str name tk) name v false) _ _ _
  obtain ⟨nm, bs, mro, ns, qn, hd, sn, sb, ab, col, del⟩ := cd
  dsimp only at hh
  subst hh
  unfold storeInOwnDict ownDictForStores
  repeat (first | with_reducible refine store_in_new ?_ ?_ | with_reducible refine wpAny_loadPart_at hx ?_ | with_reducible refine hcls.at ?_ | wp_step)
  · exact ⟨_, #[], _, (Heap.get?_update_ne _ _ _ _ hxs.symm).trans (Heap.get?_push_at rfl rfl), rfl, fun e he => absurd he (by simp), fun _ => rfl⟩
  · intro h' tk' hn' hs
    have hx₁ : (hp.push { cls := .type "dict", data := .dict #[] }).get? x = some { cls := .ref C, data := .fields fv } := Heap.get?_push_of_some _ hx
    refine hq h' tk' hp.objs.size (fun b o hb ho => ?_) (Nat.le_refl _) hxs.symm ?_ hn'
    · exact (hs.2 b (Nat.ne_of_lt (Heap.lt_size ho))).trans ((Heap.get?_update_ne _ _ _ _ hb).trans (Heap.get?_push_of_some _ ho))
    · exact (hs.2 x hxs).trans (Heap.get?_update_self _ hx₁ rfl)
end
end VV0
namespace L2
open PySem PySem.Spec PyProof.Rows
structure OexT (K : PySem.W.Frag) (C : Addr) (B newId initId : String) (tl : List Value) : Prop where
  base : ∃ Bn, VV0.EB2 B Bn newId initId tl
  tlok : VV0.TlOk tl
  cls : ∃ nm q N bs sn sub ab col dd k0 k1 k2 k3 k5, K.lookup C = some (excClassObj nm q C N bs tl true sn sub ab col dd k0 k1 k2 k3 k5 newId)
  sa : PySem.W.findIn K (.ref C) "__setattr__" = some (some (.builtin "object.__setattr__"))
  exC : PySem.W.subIn K (.ref C) (.type "BaseException") = some true
  tyC : PySem.W.typeIn K (.ref C) = some (.type "type")
  kC : PySem.W.keepIn K (.ref C) = true
section
variable {X : Cx} {pins : List (Addr × Obj)} {σ : St} {H : Hp} {s : Shared} {a C dx : Addr} {f : Str} {y : V} {u : Value} {fs : List (Str × V)} {Q : Unit → Shared → Prop} {E : Value → Shared → Prop} {A : Around} {B newId initId : String} {tl : List Value}
theorem ost_newT (T : OexT X.K C B newId initId tl) (I : Inv X pins σ H s) (e : H a = some (exo a C none)) (hno : PySem.W.findIn X.K (.ref C) f = some none) (ry : RelV y u)
    (h : ∀ dx s', H dx = none → dx ≠ a → Inv X pins σ (upd (upd H dx (exd dx [(f, y)])) a (exo a C (some dx))) s' → Q () s') : wpAny (model X.prog X.w) A (setAttr (.ref a) f u) Q E s := by
  obtain ⟨nm, q, N, bs, sn, sub, ab, col, dd, k0, k1, k2, k3, k5, hC⟩ := T.cls
  have hcl : PySem.W.clsIn X.K C = some { name := nm, bases := bs, mro := .ref C :: tl, ns := N, qualname := q, hasDict := true, slotNames := sn, subclasses := sub, abstract := ab, collection := col, hasDel := false } := by unfold PySem.W.clsIn; rw [hC] <;> rfl
  obtain ⟨t1, ho⟩ := exo_at I.hok e
  obtain ⟨hp, g, d, t, os⟩ := s
  refine PySem.W.set_plain I.kIn (ox := { cls := .ref C, dict := none, data := .fields #[.ref t1, .none, .none, .none, .bool false, .none] }) (od := none) ⟨ho, rfl, rfl, trivial⟩ T.sa ?_
  refine VV0.exc_osaT T.tlok I.kIn ho hcl rfl rfl hno (fun h' tk' dx k dn dne hx hn => ?_)
  have hnd : H dx = none := I.hok.fresh dn
  have nd : ∀ {b : Addr} {o : Obj}, hp.get? b = some o → b ≠ dx := fun {b o} q => Nat.ne_of_lt (Nat.lt_of_lt_of_le (Heap.lt_size q) dn)
  have na : ∀ {b : Addr}, H b = none → b ≠ a := fun {b} n z => by
    rw [z, e] at n
    cases n
  have Un1 : Un X.fs [] H (upd (upd H dx (exd dx [(f, y)])) a (exo a C (some dx))) hp h' := {
    keep := fun b o q n _ _ => k b o (na n) q
    slot := fun b o q n _ _ => ⟨o.slots, k b o (na n) q⟩
    free := fun b o q n _ => by rw [upd_ne (na n), upd_ne (nd q)]; exact n
    there := fun b o q _ => by
      by_cases hb : b = a
      · exact ⟨_, by rw [hb]; exact hx⟩
      · exact ⟨o, k b o hb q⟩
    tups := fun b xs q => by rw [upd_ne (at_ne e q exo_tup), upd_ne (ne_of_none q hnd)]; exact q
    frzs := fun b o v q => by rw [upd_ne (at_ne e q exo_frz), upd_ne (ne_of_none q hnd)]; exact q
    tbls := fun b ps q => ⟨#[], by rw [upd_ne (at_ne e q exo_tbl), upd_ne (ne_of_none q hnd), q]; simp⟩ }
  refine h dx _ hnd dne (I.un (t' := tk') Un1 fun b o q => ?_)
  by_cases hb : b = a
  · subst hb
    rw [upd_same] at q
    cases q
    exact exo_ok hx
  · rw [upd_ne hb] at q
    by_cases hd : b = dx
    · subst hd
      rw [upd_same] at q
      cases q
      exact exd_ok hn (relO_put (fs := []) ry fun g => True.intro)
    · rw [upd_ne hd] at q
      exact (I.hok b o q).stay (fun c v hc z => k c v (by
          rcases hc with hc | hc
          · rw [hc]
            exact hb
          · exact at_ne e hc exo_own) z)
        (fun c hc => by rw [upd_ne (at_ne e hc exo_own), upd_ne (ne_of_none hc hnd)]; exact hc) (fun c xs hc => by rw [upd_ne (at_ne e hc exo_tup), upd_ne (ne_of_none hc hnd)]; exact hc)
theorem oinit_okT {us : List Value} {Q : Value → Shared → Prop} (T : OexT X.K C B newId initId tl) (I : Inv X pins σ H s) (e : H a = some (exo a C none)) (hl : us.length ≤ sizeLine) (h : ∀ s', Inv X pins σ H s' → Q .none s') :
    wpAny (model X.prog X.w) A (call (.builtin initId) (.ref a :: us)) Q E s := by
  obtain ⟨nm, q, N, bs, sn, sub, ab, col, dd, k0, k1, k2, k3, k5, hC⟩ := T.cls
  obtain ⟨t1, ho⟩ := exo_at I.hok e
  obtain ⟨hp, g, d, t, os⟩ := s
  refine wpAny_call (VV0.init_base T.base.choose_spec (fun _ => rfl) (I.kIn _ _ hC) ho hl fun h' t2 k hx => ?_)
  have J := I.write (t' := t) (x := a) (e := a) (o := exo a C none) (by rw [e]; exact True.intro) (.inl rfl) k ⟨_, hx⟩ (exo_ok hx)
  have eu : upd H a (exo a C none) = H := by
    funext b
    by_cases hb : b = a
    · rw [hb, upd_same, e]
    · rw [upd_ne hb]
  rw [eu] at J
  exact h _ J
end
def tVeT (K : PySem.W.Frag) (B newId initId : String) (tl : List Value) (ta : TA) : TE := fun σ H Q => ta σ H fun vs H1 => ∃ (a C : Addr) (ws : List V), vs = .ref a :: ws ∧ ws.length ≤ 1000 ∧ OexT K C B newId initId tl ∧ H1 a = some (exo a C none) ∧ Q .non H1
def tOstT (K : PySem.W.Frag) (B newId initId : String) (tl : List Value) (f : Str) (to te : TE) : TS := fun D σ H => te σ H fun y H1 => to σ H1 fun x H2 => ∃ a C : Addr, x = .ref a ∧ OexT K C B newId initId tl ∧ PySem.W.findIn K (.ref C) f = some none ∧
  (H2 a = some (exo a C none) ∧ ∀ dx, H2 dx = none → dx ≠ a → D.nx σ (upd (upd H2 dx (exd dx [(f, y)])) a (exo a C (some dx))))
section
variable {X : Cx} {o e : Expr} {es : List Expr} {to te : TE} {ta : TA} {f : Str} {p p' p1 p2 pos : Pos} {B newId initId : String} {tl : List Value}
theorem pe_binit {pl : Sem Bool} {nB : Str} (hg : Gl X nB) (hm : X.mg nB = none) (hbt : bootBuiltins nB = some (.type B)) (hn1 : nB ≠ "__name__") (hn2 : (nB == ("__debug__" : Str)) = false) (hty : typeOf (.type B) = pure (.type "type")) (vV : PySem.W.findCls X.K (.type B) (.type "type") "__init__" = some (.val (.builtin initId))) (hst : PySem.Manifest.isStub B = false) (hhi : PySem.W.handedIn (Value.builtin initId) = true) (ha : PA X (e :: es) ta)
    (hc : eval (.Call (.Attribute (.Name nB p1) "__init__" p2) (e :: es) [] pos) X.env = (do
      let ov ← eval (.Name nB p1) X.env
      standAt p2.atName
      let (f, first) ← holding [ov] (getMethod ov "__init__" pl)
      callWith pos f first (backTo pos (starEach (e :: es) X.env)) (backToKw pos (keywordEach [] X.env))) := by rfl)
    (he : starEach (e :: es) X.env = (false, eval e X.env) :: starEach es X.env := by rfl) (hpl : (backTo pos (starEach es X.env)).any (·.1) = false := by rfl) :
    PE X (.Call (.Attribute (.Name nB p1) "__init__" p2) (e :: es) [] pos) (tVeT X.K B newId initId tl ta) := by
  refine ⟨fun pins s σ H Q I h => ?_⟩
  refine PySem.W.methodCall_KW (ld_blt I hg hm hbt ?_ hn1 hn2) hc
  obtain ⟨m, fr⟩ := I.fr
  refine PySem.W.method_type fr I.ok.mod.kin hty hst vV hhi ?_
  show wpAny _ _ (callWith pos (Value.builtin initId) [] (backTo pos (starEach (e :: es) X.env)) []) _ _ _
  refine PyProof.Rows.callWith_method1 (thn (ha.run pos pins _ σ H _ (I.tok _) h) fun us s1 ⟨vs, H1, I1, r1, a, C, ws, ev, hl, T, ea, q⟩ => ?_) he hpl
  subst ev
  cases r1 with
  | @cons _ u0 _ ur ra rw' =>
    obtain rfl : u0 = Value.ref a := ra
    have hlen : ur.length ≤ sizeLine := by
      rw [← Paired.length rw', sizeLine_eq]
      omega
    exact oinit_okT T I1 ea hlen fun s' J => ⟨.non, H1, J, rfl, q⟩
theorem ps_ostT (ho : PE X o to) (he : PE X e te) (hs : swapsWith e (some (.Attribute o f p')) pos.line X.env = pure false := by rfl) : PS X (.Assign [.Attribute o f p'] e pos) (tOstT X.K B newId initId tl f to te) := by
  refine ⟨fun pins s σ H D I h => ?_⟩
  refine plainObj_wpAny_Assign_Attribute (thn (he.run pins s σ H _ I h) fun v s1 ⟨y, H1, I1, r1, q1⟩ => thn (ho.run pins s1 σ H1 _ I1 q1) fun u s2 ⟨x, H2, I2, r2, a, C, ex, T, hno, q⟩ => ?_) hs
  subst ex
  obtain rfl : u = Value.ref a := r2
  obtain ⟨ea, q⟩ := q
  exact ost_newT T I2 ea hno r1 fun dx s' n ne J => ⟨σ, _, J, q dx n ne⟩
theorem pmk_oexT {CX : CXT} {x : Str} {C fI : Addr} {k : Nat} {fd : FuncData} {ps : List Str} {sp : Sp} {ds : List Value} {dvs : List V} (T : OexT X.K C B newId initId tl) (iC : PySem.W.findIn X.K (.ref C) "__init__" = some (some (.ref fI))) (tI : PySem.W.typeIn X.K (.ref fI) = some (.type "function"))
    (F1 : FnOk X.prog X.w X.K X.mg X.base CX k fI fd ps sp) (hr : Room (k + 1) X.A) (hb : Binds X.K fd ps ds) (hd : Vals dvs ds) (hx : Passes CX X (fun _ _ _ => False)) (hg : Gl X x) (hm : X.mg x = some (.ref C)) (ha : PA X (e :: es) ta)
    (hdb : (x == ("__debug__" : Str)) = false := by decide) (he : starEach (e :: es) X.env = (false, eval e X.env) :: starEach es X.env := by rfl) (hpl : (backTo pos (starEach es X.env)).any (·.1) = false := by rfl) :
    PMk X (.Call (.Name x p) (e :: es) [] pos) (tMkO C sp dvs ta) := by
  intro pins s σ H Q I h
  obtain ⟨nm, q, N, bs, sn, sub, ab, col, dd, k0, k1, k2, k3, k5, hC⟩ := T.cls
  refine wpAny_Call_Name_kw (ld_glob I hg hm ?_ hdb)
  refine PySem.W.callWith_K (h₀ := X.base) I.ok.mod.kin T.kC (thn (ha.run pos pins s σ H _ I h) fun us s1 ⟨vs, H1, I1, r1, hz, q1⟩ => ⟨I1.kIn, ?_⟩) he hpl
  show wpAny _ _ (call (.ref C) us) _ _ _
  obtain ⟨hp, g, dr, tk, os⟩ := s1
  have hsz : hp.objs.size ≤ hp.objs.size + 1 := Nat.le_succ _
  have hn : H1 (hp.objs.size + 1) = none := I1.hok.fresh hsz
  have hq := q1 (hp.objs.size + 1) hn
  have kk : ∀ b o, hp.get? b = some o → ((hp.push (PySem.W.kdv_tup us)).push (PySem.HandSPX.excO C hp.objs.size)).get? b = some o := fun b o e => Heap.get?_push_of_some _ (Heap.get?_push_of_some _ e)
  have hget : ((hp.push (PySem.W.kdv_tup us)).push (PySem.HandSPX.excO C hp.objs.size)).get? (hp.objs.size + 1) = some (PySem.HandSPX.excO C hp.objs.size) := by heap_get
  have I2 : Inv X pins σ (upd H1 (hp.objs.size + 1) (exo (hp.objs.size + 1) C none)) ⟨(hp.push (PySem.W.kdv_tup us)).push (PySem.HandSPX.excO C hp.objs.size), g, dr, tk, os⟩ :=
    I1.laid (t' := tk) (a := hp.objs.size + 1) (o := exo (hp.objs.size + 1) C none) (h' := (hp.push (PySem.W.kdv_tup us)).push (PySem.HandSPX.excO C hp.objs.size)) kk hsz (exo_ok hget)
  have r2 : Vals (V.ref (hp.objs.size + 1) :: (vs ++ dvs)) (Value.ref (hp.objs.size + 1) :: (us ++ ds)) := .cons rfl (r1.append hd)
  have hl : (Value.ref (hp.objs.size + 1) :: us ++ ds).length = ps.length := by
    have e := r2.length
    rw [F1.len _ _ _ _ hq] at e
    exact e.symm
  have hus : us.length ≤ sizeLine := by
    rw [← Paired.length r1, sizeLine_eq]
    omega
  refine wpAny_call (VV0.call_own T.base.choose_spec (fun _ => rfl) (I1.kIn _ _ hC) (PySem.W.looks_findIn I1.kIn iC) (fun self => PySem.W.bind_fn I1.kIn self tI) hus
    (codeAny_mono (F1.run _ X.stack _ _ ⟨Value.ref (hp.objs.size + 1) :: us, []⟩ (Value.ref (hp.objs.size + 1) :: (us ++ ds)) _ _ (fun _ _ _ => False) (hr.make C us []) (I2.env0.make C us []) (hb _ (Value.ref (hp.objs.size + 1) :: us) I2.kIn hl) r2 hq) fun r s' hq' => ?_))
  cases r with
  | error er => exact hx pins σ _ _ er s' I2 hq'
  | ok fl =>
    cases fl with
    | ret u =>
      obtain ⟨v, H2, os2, bare2, un2, hok2, rv, ev, d, fs, ea, ed, hd1, q2⟩ := hq'
      subst ev
      obtain ⟨h2, g2, d2, t2, os'⟩ := s'
      exact ⟨rv, mk_end (raises_own T.exC T.tyC) I1 hsz kk un2 hok2 os2 bare2 ea ed hd1 q2⟩
    | next => exact False.elim hq'
    | brk => exact False.elim hq'
    | cont => exact False.elim hq'
end
end L2
namespace L2
open PySem PySem.Spec PyProof.Rows
/-- the promise of an own __init__(self, x): B.__init__(self, x); self.f = x -/
def spErr (C : Addr) (f : Str) : Sp := fun vs H Q _ => ∃ (a : Addr) (v : V), vs = [.ref a, v] ∧ H a = some (exo a C none) ∧ ∀ dx, H dx = none → dx ≠ a → Q .non (upd (upd H dx (exd dx [(f, v)])) a (exo a C (some dx)))
end L2
namespace U
open PySem PySem.Spec PyProof.Rows L2
/-- raise C(e) -/
def hRaiseV (cls : Value) (f : Str) (fd : DTE) : DTS := fun D δ M => gCons fd gNil δ M fun ds M1 => ∃ y, ds = [y] ∧ ∃ M2, Sub M2 M1 ∧ D.ex cls [(f, y)] M2
theorem raiseV_li {K : PySem.W.Frag} {F W : Addr → Prop} {M : Mm} {H : Hp} {C : Addr} {f : Str} {fd : DTE} {δ : De} {σ : L2.St} {Ed : DX} {E : XK} (ev : EnvR K W H δ σ) (s : Stt K F W M H) (kx : KX K F W H Ed E)
    (h : gCons fd gNil δ M fun ds M1 => ∃ y, ds = [y] ∧ ∃ M2, Sub M2 M1 ∧ Ed (.ref C) [(f, y)] M2) : tMkO C (spErr C f) [] (Li (rA K) K (gCons fd gNil)) σ H E := by
  refine ⟨δ, F, W, M, _, ev, s, h, fun vs H1 W1 ds M1 g1 s1 r1 ⟨y, e, M2, sb, q⟩ => ?_⟩
  subst e
  obtain ⟨v, rfl, r⟩ := RDs.one r1
  refine ⟨by simp, fun a ha => ⟨a, v, rfl, upd_same, fun dx hd hne => ?_⟩⟩
  have hd1 : H1 dx = none := by rw [upd_ne hne] at hd; exact hd
  refine ⟨rfl, dx, [(f, v)], upd_same, by rw [upd_ne hne, upd_same], hd1, ?_⟩
  have eH : upd (del (upd (upd (upd H1 a (exo a C none)) dx (exd dx [(f, v)])) a (exo a C (some dx))) a) dx (.xd [(f, v)]) = upd H1 dx (.xd [(f, v)]) := by
    funext b
    by_cases h1 : b = dx
    · rw [h1, upd_same, upd_same]
    · rw [upd_ne h1, upd_ne h1]
      by_cases h2 : b = a
      · rw [h2, del_same, ha]
      · rw [del_ne h2, upd_ne h2, upd_ne h1, upd_ne h2]
  rw [eH]
  have hF : ¬ F dx := s1.freeF hd1
  obtain ⟨s3, g3⟩ := (s1.addF hd1 (.xd [(f, v)])).endW hF (by intro o e; rw [upd_same] at e; cases e; exact trivial)
  have g := (grow_new (o := .xd [(f, v)]) s1 hd1).trans g3
  exact kx _ (some dx) _ (wadd W1 dx) [(f, y)] M2 (g1.trans g) (s3.forget sb) ⟨by simp, [(f, v)], .inl rfl, upd_same, .cons (r.mono g) .nil⟩ q
end U
namespace U
open PySem PySem.Spec PyProof.Rows L2
section
variable {X : Cx} {B newId initId : String} {tl : List Value} {C fI : Addr} {k : Nat} {fd : FuncData} {x f : Str} {e : Expr} {fe : DTE} {p pos pos' : Pos}
theorem z_raiseV (hc : X.calm = true) (T : OexT X.K C B newId initId tl) (iC : PySem.W.findIn X.K (.ref C) "__init__" = some (some (.ref fI))) (tI : PySem.W.typeIn X.K (.ref fI) = some (.type "function"))
    (F1 : FnOk X.prog X.w X.K X.mg X.base CX0 k fI fd ["self", f] (spErr C f)) (hr : Room (k + 1) X.A) (hb : Binds X.K fd ["self", f] []) (hg : Gl X x) (hm : X.mg x = some (.ref C)) (he : DE X e fe)
    (hx : Passes CX0 X (fun _ _ _ => False)) (hdb : (x == ("__debug__" : Str)) = false := by decide) (hst : starEach [e] X.env = (false, eval e X.env) :: starEach [] X.env := by rfl) (hpl : (backTo pos (starEach [] X.env)).any (·.1) = false := by rfl) :
    DS X (.Raise (some (.Call (.Name x p) [e] [] pos)) none pos') (hRaiseV (.ref C) f fe) :=
  ps_imp (ps_raise hc (EXm.takes X) (pmk_oexT (ds := []) (dvs := []) T iC tI F1 hr hb .nil hx hg hm (d_cons (hs := hst) he d_nil) hdb hst hpl)) fun D σ H ⟨δ, F, W, M, Dd, ev, s, h, k⟩ => raiseV_li ev s k.ex h
end
end U
set_option Elab.async false
set_option linter.all false
set_option maxRecDepth 100000
set_option maxHeartbeats 2000000
namespace U
open PySem PySem.Spec PyProof.Rows L2
abbrev Th := Addr → Value → Option Addr → DTS
/-- a caught exception as a value -/
def ExD (a : Addr) (fs : List (Str × Da)) (x : Da) : Option Addr → Prop
  | none => fs = [] ∧ x = .ref a
  | some dd => fs ≠ [] ∧ x = .exn a dd fs
def xMany2 (K : PySem.W.Frag) (n : Nat) (D : DEnds) : List (Value × Option Nat × Th) → DX
  | [] => D.ex
  | (c, none, th) :: r => fun cls fs M => ∃ b, PySem.W.exmOne K cls c = some b ∧ (b = true → ∀ a d, th a cls d { D with ex := X0 } (List.replicate n none) M) ∧ (b = false → xMany2 K n D r cls fs M)
  | (c, some i, th) :: r => fun cls fs M => ∃ b, PySem.W.exmOne K cls c = some b ∧
      (b = true → ∀ a d x, ExD a fs x d → th a cls d { nx := fun δ M => D.nx (δ.set i none) M, rt := D.rt, bk := fun δ M => D.bk (δ.set i none) M, ct := fun δ M => D.ct (δ.set i none) M, ex := X0 } ((List.replicate n none).set i (some x)) M) ∧
      (b = false → xMany2 K n D r cls fs M)
inductive HdsD2 (X : Cx) : List ExceptHandler → List (Value × Option Nat × Th) → Prop
  | nil : HdsD2 X [] []
  | cons {x : Str} {c : Value} {th : Th} {b₀ : Stmt} {suite : List Stmt} {np pos' : Pos} {hds : List ExceptHandler} {l : List (Value × Option Nat × Th)} (hc : Names X x c)
      (hsu : ∀ (a : Addr) (oe : Obj) (cls : Value) (d : Option Addr) (pn : List (Addr × Obj)), Zc cls d oe → (∃ vs, oe.data = .fields vs) → DB (X.suite a ((a, oe) :: pn)) (b₀ :: suite) (th a cls d)) (r : HdsD2 X hds l) :
      HdsD2 X (.ExceptHandler (some (.Name x np)) none (b₀ :: suite) pos' :: hds) ((c, none, th) :: l)
  | asx {x n : Str} {c : Value} {i : Nat} {th : Th} {b₀ : Stmt} {suite : List Stmt} {np pos' : Pos} {hds : List ExceptHandler} {l : List (Value × Option Nat × Th)} (hc : Names X x c) (hN : X.N.Nodup) (hi : X.N[i]? = some n) (hln : X.env.kindOf n = some .local)
      (hsu : ∀ (a : Addr) (oe : Obj) (cls : Value) (d : Option Addr) (pn : List (Addr × Obj)), Zc cls d oe → (∃ vs, oe.data = .fields vs) → DB (X.suite a ((a, oe) :: pn)) (b₀ :: suite) (th a cls d)) (r : HdsD2 X hds l) :
      HdsD2 X (.ExceptHandler (some (.Name x np)) (some n) (b₀ :: suite) pos' :: hds) ((c, some i, th) :: l)
def upH2 (K : PySem.W.Frag) (l : List (Value × Option Nat × Th)) : List (Value × Option Nat × (Addr → Value → Option Addr → TS)) := l.map fun p => (p.1, p.2.1, fun a cls d => LS K (fun _ _ _ => False) (p.2.2 a cls d))
theorem HdsD2.ok {X : Cx} {hds : List ExceptHandler} {l : List (Value × Option Nat × Th)} (h : HdsD2 X hds l) : HdsOkN X hds (upH2 X.K l) := by
  induction h with
  | nil => exact .nil
  | cons hc hsu r ih => exact .cons hc (fun a oe cls d pn z v => pss_imp (hsu a oe cls d pn z v) fun D σ H q => ls_E (fun _ _ _ z => z.elim) q) ih
  | asx hc hN hi hln hsu r ih => exact .asx hc hN hi hln (fun a oe cls d pn z v => pss_imp (hsu a oe cls d pn z v) fun D σ H q => ls_E (fun _ _ _ z => z.elim) q) ih
end U
namespace U
open PySem PySem.Spec PyProof.Rows L2
theorem XR.da {K : PySem.W.Frag} {W : Addr → Prop} {H : Hp} {fs : List (Str × Da)} (a : Addr) : ∀ {d : Option Addr}, XR K W H d fs → ∃ x, ExD a fs x d ∧ RD K W H (.ref a) x
  | none, h => ⟨.ref a, ⟨h, rfl⟩, .ref a⟩
  | some _, ⟨hne, _, w, h, rf⟩ => ⟨_, ⟨hne, rfl⟩, .exn w h rf⟩
theorem many_down2 {K : PySem.W.Frag} {E : XK} {n : Nat} {F W W' : Addr → Prop} {H H' : Hp} {Dd : DEnds} {D : Ends} {M' : Mm} {cls : Value} {d : Option Addr} {fs : List (Str × Da)} {σ' : L2.St} {Wout : WX} (k : KS K E F W H Dd D) (g : Grow F W H W' H') (s' : Stt K F W' M' H') (rx : XR K W' H' d fs) (hl : σ'.length = n)
    (hn : Dd.ex cls fs M' → Wout cls d σ' H') : ∀ {l : List (Value × Option Nat × Th)}, xMany2 K n Dd l cls fs M' → wManyN K Wout D (upH2 K l) cls d σ' H'
  | [], q => hn q
  | (c, none, th) :: r, ⟨b, e, h1, h2⟩ => by
    have k' := k.mono g
    exact ⟨b, e, fun hb a _ => ⟨_, F, W', M', { Dd with ex := X0 }, env_none σ', s', by rw [hl]; exact h1 hb a d, k'.nx, k'.rt, k'.bk, k'.ct, fun _ _ _ _ _ _ _ _ _ z => z.elim⟩, fun hb => many_down2 k g s' rx hl hn (h2 hb)⟩
  | (c, some i, th) :: r, ⟨b, e, h1, h2⟩ => by
    have k' := k.mono g
    refine ⟨b, e, fun hb a _ => ?_, fun hb => many_down2 k g s' rx hl hn (h2 hb)⟩
    obtain ⟨x, ex, rd⟩ := XR.da a rx
    refine ⟨_, F, W', M', { nx := fun δ M => Dd.nx (δ.set i none) M, rt := Dd.rt, bk := fun δ M => Dd.bk (δ.set i none) M, ct := fun δ M => Dd.ct (δ.set i none) M, ex := X0 }, (env_none σ').set rd i, s', by rw [hl]; exact h1 hb a d x ex, ?_, k'.rt, ?_, ?_, fun _ _ _ _ _ _ _ _ _ z => z.elim⟩
    · exact fun σ2 H2 W2 δ2 M2 g2 s2 e2 q => k'.nx _ _ _ _ _ g2 s2 (e2.del i) q
    · exact fun σ2 H2 W2 δ2 M2 g2 s2 e2 q => k'.bk _ _ _ _ _ g2 s2 (e2.del i) q
    · exact fun σ2 H2 W2 δ2 M2 g2 s2 e2 q => k'.ct _ _ _ _ _ g2 s2 (e2.del i) q
end U
namespace U
open PySem PySem.Spec PyProof.Rows L2
/-- e.f of a caught exception -/
def gXf (a : Addr) (cls : Value) (d : Option Addr) (C : Addr) (f : Str) (fd : DTE) : DTE := fun δ M Q => fd δ M fun x M1 => ∃ dd fs y, x = .exn a dd fs ∧ d = some dd ∧ cls = .ref C ∧ fs.lookup f = some y ∧ Q y M1
theorem RF.lk {K : PySem.W.Frag} {W : Addr → Prop} {H : Hp} {f : Str} {y : Da} : ∀ {vs : List (Str × V)} {fs : List (Str × Da)}, RF K W H vs fs → fs.lookup f = some y → ∃ v, vs.lookup f = some v ∧ RD K W H v y
  | _, _, .nil, h => nomatch h
  | _, _, .cons (f := g) r rr, h => by
    rw [List.lookup_cons] at h ⊢
    cases e : f == g with
    | true => rw [e] at h; cases h; exact ⟨_, rfl, r⟩
    | false => rw [e] at h; exact RF.lk rr h
theorem d_xf {X : Cx} {a C : Addr} {oe : Obj} {cls : Value} {d : Option Addr} {pn : List (Addr × Obj)} {e : Expr} {fe : DTE} {pos : Pos} {f : Str} (T : XfC X.K C) (hno : PySem.W.findIn X.K (.ref C) f = some none) (hz : Zc cls d oe) (hf : ∃ vs, oe.data = .fields vs)
    (he : DE (X.suite a ((a, oe) :: pn)) e fe) (hb : attributeBase e f X.env (eval e X.env) = eval e X.env := by rfl) : DE (X.suite a ((a, oe) :: pn)) (.Attribute e f pos) (gXf a cls d C f fe) :=
  imp (pe_xf T hno hz hf he hb) fun σ H Q ⟨δ, F, W, M, Qd, ev, s, h, k⟩ => ⟨δ, F, W, M, _, ev, s, h, fun v H1 W1 x M1 g1 s1 r1 ⟨dd, fs, y, ex, ed, ec, hl, q⟩ => by
    subst ex
    cases r1 with
    | exn w hh rf =>
      obtain ⟨u, hu, ru⟩ := RF.lk rf hl
      exact ⟨rfl, ec, dd, _, u, ed, hh, hu, (k.mono g1).now s1 ru q⟩⟩
end U
set_option Elab.async false
set_option linter.all false
set_option maxRecDepth 100000
set_option maxHeartbeats 4000000
namespace L2
open PySem PySem.Spec PyProof.Rows
/-- a promise of a def that is called where nothing guards the stack -/
structure FnOkG (P : Program) (w : World) (K : PySem.W.Frag) (mg : Str → Option Value) (base : Heap) (CX : CXT) (k : Nat) (f : Addr) (fd : FuncData) (ps : List Str) (sp : Sp) : Prop where
  len : ∀ vs H Q E, sp vs H Q E → vs.length = ps.length
  run : ∀ (A : Around) (outer : List Env) (s : Shared) (H : Hp) (args : Args) (us : List Value) (vs : List V) (Q : VK) (E : XK), A.guards = some [] → Room k A → Env0 P w K mg base A outer s H → BindsTo s fd args (ps.zip us) → Vals vs us → sp vs H Q E →
    codeAny (model P w) A (.call (.ref f) args) (CR CX outer P w H s Q E) s
theorem FnOk.g {P : Program} {w : World} {K : PySem.W.Frag} {mg : Str → Option Value} {base : Heap} {CX : CXT} {k : Nat} {f : Addr} {fd : FuncData} {ps : List Str} {sp : Sp} (F : FnOk P w K mg base CX k f fd ps sp) : FnOkG P w K mg base CX k f fd ps sp :=
  ⟨F.len, fun A outer s H args us vs Q E _ hr => F.run A outer s H args us vs Q E hr⟩
theorem fn_ofG {CX : CXT} {P : Program} {w : World} {K : PySem.W.Frag} {mg : Str → Option Value} {base : Heap} {k : Nat} {f : Addr} {name qual : Str} {params : Arguments} {body : List Stmt} {scope : Scope} {dV kV doc pm cdv ct oc : Value} {an od : Option Addr}
    {osl : Array (Option Value)} {N ps : List Str} {sp : Sp} (lk : K.lookup f = some ⟨oc, od, .func (PySem.W.fnOf name qual params body scope dV kV doc pm an cdv ct), osl⟩) (hcd : PySem.W.codeIn K cdv qual = true) (S : FnScope N ps scope)
    (len : ∀ vs H Q E, sp vs H Q E → vs.length = ps.length)
    (hbody : ∀ (A : Around) (outer : List Env) (s : Shared) (H : Hp) (vs : List V) (Q : VK) (E : XK), A.guards = some [] → Room k (A.deeper (envOfC qual scope s.heap.objs.size f cdv)) → sp vs H Q E →
      ∃ t, PSs (cxOf CX P w K mg base N qual scope f cdv A outer s H E) body t ∧ t { nx := fun _ H' => Q .non H', rt := Q } (start N vs) H) :
    FnOkG P w K mg base CX (k + 1) f (PySem.W.fnOf name qual params body scope dV kV doc pm an cdv ct) ps sp := by
  refine ⟨len, fun A outer s H args us vs Q E hgd hr e0 hb r hsp => ?_⟩
  have hl := len _ _ _ _ hsp
  have KX : K.In s.heap := e0.mod.kin.keeps fun b o e => (e0.bs b o e).1
  have lim : s.heap.NoLimit := e0.mod.nolimit.keeps fun b o e => (e0.bs b o e).1
  have hkind : ∀ y ∈ ps.zip us, scope.names.lookup y.1 = some .local ∨ (scope.names.lookup y.1 = some .cell ∧ ((cellsFrom (s.heap.objs.size + 1) scope.names []).lookup y.1).isSome = true) := fun ⟨n, v⟩ hy => by
    rcases S.par n (List.of_mem_zip hy).1 with q | q
    · exact .inl q
    · exact .inr ⟨q, PySem.W.cellsFrom_some _ _ _ (.inl q)⟩
  refine codeAny_call_function hr.depth (KX _ _ lk) rfl S.co S.gen rfl (PySem.W.codeRec_of KX hcd) (hb _ _ _ _ ?_)
  refine wpAny_newFunctionEnv_cells S.kind hkind fun env he s1 x => ?_
  subst he
  refine ⟨lim.keeps x.toInCall.keep, codeAny_func ?_⟩
  obtain ⟨t, ht, hq⟩ := hbody A outer s H vs Q E hgd (hr.deeper _) hsp
  have I : Inv (cxOf CX P w K mg base N qual scope f cdv A outer s H E) [] (start N vs) H s1 := inv_start S hr.hd e0 hl r x
  refine wpAny_mono (ht.run [] s1 (start N vs) H _ I hq) (fun fl s' hs => ?_) fun e s' hs => hs
  have fin : ∀ {σ' : St} {H' : Hp} {v : V} {u : Value}, Inv (cxOf CX P w K mg base N qual scope f cdv A outer s H E) [] σ' H' s' → RelV v u → Q v H' → CE outer P w H s Q u s' :=
    fun {σ' H' v u} J rv q => ⟨v, H', J.os, J.bare, J.base, J.hok, rv, q⟩
  cases fl with
  | ret u =>
    obtain ⟨v, σ', H', J, rv, q⟩ := hs
    exact fin J rv q
  | next =>
    obtain ⟨σ', H', J, q⟩ := hs
    exact fin (v := V.non) (u := Value.none) J rfl q
  | brk =>
    obtain ⟨_, _, _, q⟩ := hs
    exact False.elim q
  | cont =>
    obtain ⟨_, _, _, q⟩ := hs
    exact False.elim q
section
variable {X : Cx} {CX : CXT} {k : Nat} {f C : Addr} {fd : FuncData} {ps : List Str} {sp : Sp} {dvs : List V} {ds : List Value} {E : XK} {x m : Str} {p pos apos : Pos} {e o : Expr} {es : List Expr} {ta : TE} {t : TA}
theorem run_fnG {pins : List (Addr × Obj)} {σ : St} {H : Hp} {s : Shared} {Q : VK} {us : List Value} {vs : List V} (hgd : X.A.guards = some []) (F : FnOkG X.prog X.w X.K X.mg X.base CX k f fd ps sp) (hr : Room k X.A) (hb : Binds X.K fd ps ds) (hd : Vals dvs ds) (hx : Passes CX X E)
    (I : Inv X pins σ H s) (r : Vals vs us) (h : sp (vs ++ dvs) H Q E) : wpAny (model X.prog X.w) X.A (call (.ref f) us) (EP X pins σ Q) X.xe s := by
  have r2 : Vals (vs ++ dvs) (us ++ ds) := r.append hd
  have hl : (us ++ ds).length = ps.length := by rw [← r2.length]; exact F.len _ _ _ _ h
  refine wpAny_call (codeAny_mono (F.run X.A X.stack s H ⟨us, []⟩ (us ++ ds) (vs ++ dvs) Q E hgd hr I.env0 (hb s us I.kIn hl) r2 h) fun r s' hq => ?_)
  cases r with
  | error e => exact hx pins σ H s e s' I hq
  | ok fl =>
    cases fl with
    | ret u => exact I.after hq
    | next => exact False.elim hq
    | brk => exact False.elim hq
    | cont => exact False.elim hq
theorem pe_callG (hgd : X.A.guards = some []) (F : FnOkG X.prog X.w X.K X.mg X.base CX k f fd ps sp) (hr : Room k X.A) (hg : Gl X x) (hm : X.mg x = some (.ref f)) (hk : PySem.W.keepIn X.K (.ref f) = true) (hb : Binds X.K fd ps ds) (hd : Vals dvs ds) (hx : Passes CX X E)
    (ha : PA X (e :: es) t) (hdb : (x == ("__debug__" : Str)) = false := by decide) (he : starEach (e :: es) X.env = (false, eval e X.env) :: starEach es X.env := by rfl) (hpl : (backTo pos (starEach es X.env)).any (·.1) = false := by rfl) :
    PE X (.Call (.Name x p) (e :: es) [] pos) (tCall sp dvs E t) := by
  refine ⟨fun pins s σ H Q I h => ?_⟩
  refine wpAny_Call_Name_kw (ld_glob I hg hm ?_ hdb)
  refine PySem.W.callWith_K (h₀ := X.base) I.ok.mod.kin hk (thn (ha.run pos pins s σ H _ I h) fun us s1 ⟨vs, H1, I1, r, q⟩ => ⟨I1.kIn, ?_⟩) he hpl
  exact run_fnG hgd F hr hb hd hx I1 r q
end
end L2
namespace LamX
open PySem PySem.Spec PyProof.Rows L2
theorem law_callTsG {P : Program} {w : World} {K : PySem.W.Frag} {mg mb : Str → Option Value} {CX : CXT} {k : Nat} {fa a : Addr} {cs : List (Addr × Addr)} {fd : FuncData} {x : Str} {sp : Sp} {s₁ : Shared} {vs : List Value} {ns : List Int}
    (KX : K.In s₁.heap) (hns : s₁.heap.Ns mainGlobals mg) (hb : s₁.heap.Ns builtinsNs mb) (hbb : ∀ x : Str, x ≠ "__name__" → mb x = bootBuiltins x) (hlim : s₁.heap.NoLimit) (hg : s₁.gens = #[])
    (hT : ∀ p ∈ cs, s₁.heap.get? p.2 = some { cls := .none, data := .fields #[] }) (nT : ∀ p ∈ cs, K.lookup p.2 = none) (C : ∀ p ∈ cs, PySem.W.CodeHd s₁.heap p.1 p.2)
    (hbm : ∃ (bm : Addr) (ob : Obj), mg "__builtins__" = some (.ref bm) ∧ bm ≠ builtinsNs ∧ s₁.heap.get? bm = some ob ∧ ob.cls = .type "module" ∧ ob.dict = some builtinsNs ∧ ob.data = .plain)
    (ha : s₁.heap.get? a = some { cls := .type "list", data := .seq vs.toArray }) (hi : IntsAre vs ns) (hl : ns.length ≤ sizeLine) (hr : Room k callerA)
    (F : ∀ base : Heap, K.In base → base.Ns mainGlobals mg → (∀ p ∈ cs, TabB base mg p.1 p.2) → FnOkG P w K mg base CX k fa fd [x] sp) (hbind : ∀ (s : Shared) (u : Value), BindsTo s fd ⟨[u], []⟩ [(x, u)])
    (hsp : ∀ H : Hp, (∀ p ∈ cs, H p.2 = some (.tbl #[])) → SqL K H a (ns.map V.int) → sp [.ref a] H (fun v _ => v = .bl true) fun _ _ _ => False)
    (hCX : ∀ H e s', CX [] H s₁ (fun _ _ _ => False) e s' → False) :
    codeAny (model P w) callerA (.call (.ref fa) ⟨[.ref a], []⟩) (fun r s' => r = .ok (.ret (.bool true)) ∧ OldK s₁.heap s'.heap ∧ s'.os = s₁.os ∧ AllBare s'.gens) s₁ := by
  have rv := vals_ints hi
  have lenV := hi.length
  have isT : ∀ b : Addr, b ∈ cs.map (·.2) → s₁.heap.get? b = some { cls := .none, data := .fields #[] } := fun b hb => by
    obtain ⟨p, hp, e⟩ := List.mem_map.mp hb
    rw [← e]
    exact hT p hp
  have aT : a ∉ cs.map (·.2) := fun z => by
    have q := isT a z
    rw [ha] at q
    have z' : Data.seq vs.toArray _ = Data.fields #[] := congrArg Obj.data (Option.some.inj q)
    cases z'
  have memT : ∀ p ∈ cs, p.2 ∈ cs.map (·.2) := fun p hp => List.mem_map.mpr ⟨p, hp, rfl⟩
  -- from an abstract heap in which nothing but the script and the tables may be tracked
  have core : ∀ H : Hp, (∀ p ∈ cs, H p.2 = some (.tbl #[])) → (∀ b, H b = none ∨ b ∈ cs.map (·.2) ∨ ∃ o xs, H b = some (.frz o (.lst xs))) → SqL K H a (ns.map V.int) → HOk P w H s₁.heap → (∀ b, H b ≠ none → b = a ∨ b ∈ cs.map (·.2)) → (H a ≠ none → K.lookup a = none) →
      codeAny (model P w) callerA (.call (.ref fa) ⟨[.ref a], []⟩) (fun r s' => r = .ok (.ret (.bool true)) ∧ OldK s₁.heap s'.heap ∧ s'.os = s₁.os ∧ AllBare s'.gens) s₁ := by
    intro H hH hO hS hok hA hK
    have base_of : ∀ {b : Addr} {o : Obj}, s₁.heap.get? b = some o → H b = none → (hidT s₁.heap H).get? b = some o := fun e n => hidT_get e n
    have noD : ∀ {b : Addr} {o : Obj}, s₁.heap.get? b = some o → (∀ vs n, o.data ≠ .seq vs n) → o.data ≠ .fields #[] → H b = none := fun {b o} e h1 h2 => by
      cases q : H b with
      | none => rfl
      | some u =>
        rcases hA b (by rw [q]; simp) with e' | e'
        · rw [e', ha] at e
          cases e
          exact (h1 _ _ rfl).elim
        · rw [isT b e'] at e
          cases e
          exact (h2 rfl).elim
    have noA : ∀ {b : Addr} {o : Obj} {es : Array DictEntry} {ep : Nat}, s₁.heap.get? b = some o → o.data = .dict es ep → H b = none := fun {b o es ep} e d => by
      refine noD e (fun vs n z => ?_) fun z => ?_
      · rw [d] at z
        cases z
      · rw [d] at z
        cases z
    have nsK : ∀ {b : Addr} {m : Str → Option Value}, s₁.heap.Ns b m → (hidT s₁.heap H).Ns b m := fun {b m} ⟨o, es, ep, e, d, r⟩ => ⟨o, es, ep, base_of e (noA e d), d, r⟩
    have hKb : K.In (hidT s₁.heap H) := fun b o e => base_of (KX b o e) (by
      cases q : H b with
      | none => rfl
      | some u =>
        rcases hA b (by rw [q]; simp) with e' | e'
        · rw [e'] at e q
          rw [hK (by rw [q]; simp)] at e
          cases e
        · obtain ⟨p, hp, ep⟩ := List.mem_map.mp e'
          rw [← ep, nT p hp] at e
          cases e)
    have hM : L2.Mod K mg (hidT s₁.heap H) := ⟨hKb, nsK hns, ⟨mb, nsK hb, hbb⟩, let ⟨mc, h1, h2⟩ := hlim; ⟨mc, nsK h1, h2⟩⟩
    have TB : ∀ p ∈ cs, TabB (hidT s₁.heap H) mg p.1 p.2 := fun p hp => by
      have hTp := hT p hp
      refine ⟨?_, ?_, fun z => ?_⟩
      · obtain ⟨o, us, file, tf, flags, tg, inF, text, tt, e1, r1, r2, r3, r4, r5, r6, r7, r8, hne⟩ := C p hp
        refine ⟨o, us, file, tf, flags, tg, inF, text, tt, base_of e1 (noD e1 (fun vs n z => ?_) fun z => ?_), r1, r2, r3, r4, r5, r6, r7, r8, hne⟩
        · rw [r2] at z
          cases z
        · rw [r2] at z
          cases z
          simp at r3
      · obtain ⟨bm, ob, b1, b2, b3, b4, b5, b6⟩ := hbm
        have nG : bm ≠ mainGlobals := fun q => by
          obtain ⟨o, es, ep, e, hd, _⟩ := hns
          rw [q, e] at b3
          cases b3
          rw [hd] at b6
          cases b6
        have nP : bm ≠ p.2 := fun q => by
          rw [q, hTp] at b3
          cases b3
          cases b6
        refine ⟨bm, ob, b1, b2, nG, nP, base_of b3 (noD b3 (fun vs n z => ?_) fun z => ?_), b4, b5, b6⟩
        · rw [b6] at z
          cases z
        · rw [b6] at z
          cases z
      · obtain ⟨o, es, ep, e, hd, _⟩ := hns
        rw [z, hTp] at e
        cases e
        cases hd
    have e0 : Env0 P w K mg (hidT s₁.heap H) callerA [] s₁ H := ⟨rfl, hM, fun b o e => of_hidT e, Nat.le_of_eq (hidT_size _ _), trivial, fun b hb => absurd (show b ∈ ([] : List Addr) from hb) (by simp), hok, .of_eq hg⟩
    refine codeAny_mono ((F _ hKb (nsK hns) TB).run callerA [] s₁ H ⟨[.ref a], []⟩ [.ref a] [.ref a] _ _ rfl hr e0 (hbind s₁ (.ref a)) (.cons rfl .nil) (hsp H hH hS)) fun r s' h => ?_
    cases r with
    | error e => exact (hCX H e s' h).elim
    | ok fl =>
      cases fl with
      | next => exact False.elim h
      | brk => exact False.elim h
      | cont => exact False.elim h
      | ret u =>
        obtain ⟨v, H', os, bare, un, hok', r', q⟩ := h
        have q' : v = .bl true := q
        subst q'
        obtain rfl : u = Value.bool true := r'
        have key : ∀ b o, b ∉ cs.map (·.2) → s₁.heap.get? b = some o → s'.heap.get? b = some o := fun b o nb e => by
          cases q : H b with
          | none => exact un.keep b o e q (by intro z; exact absurd (show b ∈ ([] : List Addr) from z) (by simp)) (by simp)
          | some u =>
            rcases hO b with z | z | ⟨ob, xs, z⟩
            · rw [q] at z; cases z
            · exact absurd z nb
            · have z2 := un.frzs b ob _ z
              obtain ⟨e1, _⟩ := hok b _ z
              obtain ⟨e2, _⟩ := hok' b _ z2
              rw [e] at e1; cases e1
              exact e2
        have grown : ∀ p ∈ cs, ∃ more : Array Value, s'.heap.get? p.2 = some { cls := .none, data := .fields more } := fun p hp => by
          obtain ⟨more, z⟩ := un.tbls p.2 #[] (hH p hp)
          exact ⟨_, hok' p.2 _ z⟩
        refine ⟨rfl, ⟨fun b o e => ?_, fun b o e => ?_⟩, os, bare⟩
        · by_cases hb : b ∈ cs.map (·.2)
          · obtain ⟨p, hp, ep⟩ := List.mem_map.mp hb
            obtain ⟨more, hm⟩ := grown p hp
            rw [← ep] at e ⊢
            rw [hT p hp] at e
            cases e
            exact .inr (.inl ⟨((C p hp).tab (hT p hp)).isCodeTable, rfl, #[], more, rfl, by rw [Array.empty_append]; exact hm⟩)
          · exact .inl (key b o hb e)
        · by_cases hb : b ∈ cs.map (·.2)
          · obtain ⟨p, hp, ep⟩ := List.mem_map.mp hb
            obtain ⟨more, hm⟩ := grown p hp
            rw [← ep]
            exact ⟨_, hm⟩
          · exact ⟨o, key b o hb e⟩
  cases hk : K.lookup a with
  | some o =>
    have e := KX a o hk
    rw [ha] at e
    cases e
    refine core (fun b => if b ∈ cs.map (·.2) then some (.tbl #[]) else none) (fun p hp => if_pos (memT p hp)) (fun b => ?_) (.inr ⟨_, vs.toArray, _, hk, rfl, rfl, rfl, by rw [List.size_toArray, lenV]; exact hl, by simpa using rv⟩) (fun b u z => ?_) (fun b z => ?_) fun z => absurd (show (if a ∈ cs.map (·.2) then some (HO.tbl #[]) else none) = none from if_neg aT) z
    · by_cases hb : b ∈ cs.map (·.2)
      · exact .inr (.inl hb)
      · exact .inl (if_neg hb)
    · by_cases hb : b ∈ cs.map (·.2)
      · have z' := (if_pos hb).symm.trans z
        cases z'
        exact isT b hb
      · have z' := (if_neg hb).symm.trans z
        cases z'
    · by_cases hb : b ∈ cs.map (·.2)
      · exact .inr hb
      · exact absurd (if_neg hb) z
  | none =>
    refine core (fun b => if b = a then some (.frz { cls := .type "list", data := .seq vs.toArray } (.lst (ns.map V.int))) else if b ∈ cs.map (·.2) then some (.tbl #[]) else none) (fun p hp => (if_neg (show ¬ p.2 = a from fun z => aT (by rw [← z]; exact memT p hp))).trans (if_pos (memT p hp))) (fun b => ?_)
      (.inl (.inr ⟨{ cls := .type "list", data := .seq vs.toArray }, if_pos rfl⟩)) (fun b u z => ?_) (fun b z => ?_) fun _ => hk
    · by_cases hb : b = a
      · exact .inr (.inr ⟨_, _, if_pos hb⟩)
      · by_cases hb2 : b ∈ cs.map (·.2)
        · exact .inr (.inl hb2)
        · exact .inl ((if_neg hb).trans (if_neg hb2))
    · by_cases hb : b = a
      · have z' := (if_pos hb).symm.trans z
        cases z'
        rw [hb]
        exact ⟨ha, by rw [List.length_map]; exact hl, vs, _, rv, ha⟩
      · have z1 := (if_neg hb).symm.trans z
        by_cases hb2 : b ∈ cs.map (·.2)
        · have z' := (if_pos hb2).symm.trans z1
          cases z'
          exact isT b hb2
        · have z' := (if_neg hb2).symm.trans z1
          cases z'
    · by_cases hb : b = a
      · exact .inl hb
      · by_cases hb2 : b ∈ cs.map (·.2)
        · exact .inr hb2
        · exact absurd ((if_neg hb).trans (if_neg hb2)) z
def LawAtSG (l : PySem.W.OpenLaw) (w : World) (K : PySem.W.Frag) (CX : CXT) (k n : Nat) (x : Str) (mg : Str → Option Value) (fa : Addr) (h : Heap) : Prop :=
  ∃ (fd : FuncData) (cs : List (Addr × Addr)) (sp : Sp), (∀ p ∈ cs, h.get? p.2 = some { cls := .none, data := .fields #[] }) ∧ (∀ p ∈ cs, K.lookup p.2 = none) ∧ (∀ p ∈ cs, PySem.W.CodeHd h p.1 p.2) ∧ (∀ (s : Shared) (u : Value), BindsTo s fd ⟨[u], []⟩ [(x, u)]) ∧
    (∀ (H : Hp) (a : Addr) (ns : List Int), ns.length ≤ n → (∀ z ∈ ns, Builtin.Int.intBits z ≤ 1048576) → (∀ p ∈ cs, H p.2 = some (.tbl #[])) → SqL K H a (ns.map V.int) → sp [.ref a] H (fun v _ => v = .bl true) fun _ _ _ => False) ∧
    ∀ base : Heap, K.In base → base.Ns mainGlobals mg → (∀ p ∈ cs, TabB base mg p.1 p.2) → FnOkG l.prog w K mg base CX k fa fd [x] sp
theorem walk_ofTsEG {l : PySem.W.OpenLaw} {n k : Nat} {q : Program} {loose : List Str} {XP : (Str → Option Value) → Heap → Prop} {YP : World → Heap → Prop} {d : DefRec} {CX : World → CXT} {x : Str}
    (hn : l.most = some n) (hn2 : n ≤ sizeLine) (hdf : d.params.defaults = []) (hr : Room k callerA)
    (F : ∀ (w : World) (mg : Str → Option Value) (fa : Addr) (h : Heap), YP w h → h.Ns mainGlobals mg → mg d.name = some (.ref fa) → ∃ K : PySem.W.Frag, K.In h ∧ LawAtSG l w K (CX w) k n x mg fa h)
    (hCX : ∀ (w : World) (H : Hp) (s : Shared) (e : Value) (s' : Shared), CX w [] H s (fun _ _ _ => False) e s' → False) :
    PySem.W.WalkO q loose XP YP l.row.toRowW d [] (fun f vs => PySem.call f vs) := by
  refine Att.attach_callB hn hdf fun w s₀ s₁ mg mb fa o pm cd doc a vs ns G Y ho hd hcd hmg hobj hints hlen hbits hg => ?_
  obtain ⟨K, KX, fd, cs, sp, hT, nT, C, hb, hsp, hF⟩ := F w mg fa _ Y G.T.g hmg
  exact law_callTsG KX G.T.g G.T.b G.T.builtins G.T.nolimit hg hT nT C G.T.bmain hobj hints (Nat.le_trans hlen hn2) hr hF hb (fun H hH hS => hsp H a ns hlen hbits hH hS) fun H e s' => hCX w H s₁ e s'
end LamX
namespace U
open PySem PySem.Spec PyProof.Rows L2 LamX
theorem walk_lawTG {l : PySem.W.OpenLaw} {n k : Nat} {q : Program} {loose : List Str} {XP : (Str → Option Value) → Heap → Prop} {YP : World → Heap → Prop} {d : DefRec} {K : Params → PySem.W.Frag} {x : Str} {st : Stmt} {ts : List Addr} {sp : PySem.W.Frag → List (Addr × Str) → Sp}
    (hn : l.most = some n) (hn2 : n ≤ sizeLine) (hdf : d.params.defaults = []) (hr : Room k callerA) (hnm : d.name = "law") (hY : ∀ (w : World) (h : Heap), YP w h → (K w.params).In h) (hT : ∀ (w : World) (h : Heap), YP w h → ∀ P ∈ ts, h.get? P = some (PySem.W.tabObj #[]))
    (hb : ∀ (kV doc pm : Value) (an : Option Addr) (cdv ct : Value) (us : List Value), us.length = ([x] : List Str).length → bindArgs (PySem.W.fnOf "law" "law" (defArgs st) (defBody st) (defScope st) .none kV doc pm an cdv ct) ⟨us, []⟩ = pure (([x] : List Str).zip us))
    (F : ∀ (w : World) (mg : Str → Option Value) (h : Heap), (K w.params).In h → h.Ns mainGlobals mg → HasDef (K w.params) "law" st ∧ ∃ (cs : List (Addr × Addr)) (qs : List (Addr × Str)), (∀ p ∈ cs, p.2 ∈ ts ∧ (K w.params).lookup p.2 = none ∧ PySem.W.codeHdIn (K w.params) p.1 p.2 = true) ∧
      qs.map (·.1) = cs.map (·.2) ∧ (qs.map (·.1)).Nodup ∧ ∀ (f : Addr) (fd : FuncData) (base : Heap), (K w.params).In base → base.Ns mainGlobals mg → (∀ p ∈ cs, TabB base mg p.1 p.2) → Fun (K w.params) "law" "law" st f fd → FnOkG l.prog w (K w.params) mg base CX0 k f fd [x] (sp (K w.params) qs))
    (hsp : ∀ (K : PySem.W.Frag) (qs : List (Addr × Str)) (H : Hp) (a : Addr) (ns : List Int), (qs.map (·.1)).Nodup → ns.length ≤ n → (∀ p ∈ qs, H p.1 = some (.tbl #[])) → SqL K H a (ns.map V.int) → sp K qs [.ref a] H (fun v _ => v = .bl true) fun _ _ _ => False) :
    PySem.W.WalkO q loose XP YP l.row.toRowW d [] (fun f vs => PySem.call f vs) := by
  refine walk_ofTsEG (n := n) (k := k) (x := x) (CX := fun _ => CX0) hn hn2 hdf hr (fun w mg fa h Y G hfa => ?_) fun _ _ _ _ _ z => z
  have X := hY w h Y
  obtain ⟨D, cs, qs, h1, h2, h3, G2⟩ := F w mg h X G
  obtain ⟨f, fd, Fn, e⟩ := D.ex
  have e1 := PySem.W.mg_of X G e
  rw [hnm, e1] at hfa
  cases hfa
  obtain ⟨oc, od, kV, doc, pm, an, cdv, ct, osl, e2, _⟩ := id Fn.ex
  refine ⟨_, X, fd, cs, sp (K w.params) qs, fun p hp => hT w h Y _ (h1 p hp).1, fun p hp => (h1 p hp).2.1, fun p hp => PySem.W.codeHd_of_K X (h1 p hp).2.2, fun s v => ?_, fun H a ns l1 _ l3 l4 => ?_, fun base X' G' T => G2 _ _ base X' G' T Fn⟩
  · rw [e2]
    exact .of_eq (hb kV doc pm an cdv ct [v] rfl)
  · refine hsp _ qs H a ns h3 l1 (fun p hp => ?_) l4
    have : p.1 ∈ cs.map (·.2) := by rw [← h2]; exact List.mem_map_of_mem hp
    obtain ⟨r, hr, e⟩ := List.mem_map.mp this
    rw [← e]
    exact l3 r hr
end U
namespace U
open PySem PySem.Spec PyProof.Rows L2 LamX
/-- a def that keeps its promise where nothing guards the stack -/
structure KnDG (P : Program) (w : World) (K : PySem.W.Frag) (mg : Str → Option Value) (base : Heap) (x : Str) (k : Nat) (ps : List Str) (sp : DSp) : Prop where
  ex : ∃ f fd, FnOkG P w K mg base CX0 k f fd ps (LSp K sp) ∧ mg x = some (.ref f) ∧ PySem.W.keepIn K (.ref f) = true ∧ Binds K fd ps []
theorem KnDG.ofC {P : Program} {w : World} {K : PySem.W.Frag} {mg : Str → Option Value} {base : Heap} {x : Str} {st : Stmt} {c : Addr} {N ps : List Str} {k : Nat} {sp : DSp} (F : HasDefC K x st c) (M : MgOf K mg) (S : FnScope N ps (defScope st))
    (hb : ∀ (kV doc pm : Value) (an : Option Addr) (cdv ct : Value) (us : List Value), us.length = ps.length → bindArgs (PySem.W.fnOf x x (defArgs st) (defBody st) (defScope st) .none kV doc pm an cdv ct) ⟨us, []⟩ = pure (ps.zip us))
    (len : ∀ ds M Q E, sp ds M Q E → ds.length = ps.length)
    (hbody : ∀ (f : Addr) (A : Around) (outer : List Env) (s : Shared) (H : Hp) (E : XK), A.guards = some [] → Room k (A.deeper (envOfC x (defScope st) s.heap.objs.size f (.ref c))) →
      ∃ t, DB (cxOf CX0 P w K mg base N x (defScope st) f (.ref c) A outer s H E).nox (defBody st) t ∧ ∀ ds M Q Ed, sp ds M Q Ed → t (bodyE Q) (startD N ds) M) : KnDG P w K mg base x (k + 1) ps sp := by
  obtain ⟨f, oc, od, an, osl, kV, doc, pm, ct, a, l, h, kp⟩ := F.ex
  have G : Fun K x x st f _ := fun_mk l h kp
  refine ⟨f, _, fn_ofG l h S (lsp_len len) (fun A outer s H vs Q E hgd hr ⟨F, W, M, ds, Qd, Ed, r, st, h, kk, kx⟩ => ?_), M.of _ _ a, kp, G.binds hb⟩
  obtain ⟨t, d, q⟩ := hbody f A outer s H E hgd hr
  exact ⟨_, PSs.nox d, ls_body r st kk (q ds M Qd Ed h)⟩
theorem KnDG.of {P : Program} {w : World} {K : PySem.W.Frag} {mg : Str → Option Value} {base : Heap} {x : Str} {st : Stmt} {N ps : List Str} {k : Nat} {sp : DSp} (F : HasDef K x st) (M : MgOf K mg) (S : FnScope N ps (defScope st))
    (hb : ∀ (kV doc pm : Value) (an : Option Addr) (cdv ct : Value) (us : List Value), us.length = ps.length → bindArgs (PySem.W.fnOf x x (defArgs st) (defBody st) (defScope st) .none kV doc pm an cdv ct) ⟨us, []⟩ = pure (ps.zip us))
    (len : ∀ ds M Q E, sp ds M Q E → ds.length = ps.length)
    (hbody : ∀ (f : Addr) (cdv : Value) (A : Around) (outer : List Env) (s : Shared) (H : Hp) (E : XK), A.guards = some [] → Room k (A.deeper (envOfC x (defScope st) s.heap.objs.size f cdv)) →
      ∃ t, DB (cxOf CX0 P w K mg base N x (defScope st) f cdv A outer s H E).nox (defBody st) t ∧ ∀ ds M Q Ed, sp ds M Q Ed → t (bodyE Q) (startD N ds) M) : KnDG P w K mg base x (k + 1) ps sp := by
  obtain ⟨f, fd, G, e⟩ := F.ex
  have kp := G.kp
  have bb := G.binds hb
  obtain ⟨oc, od, kV, doc, pm, an, cdv, ct, osl, rfl, lk, hcd'⟩ := G.ex
  refine ⟨f, _, fn_ofG lk hcd' S (lsp_len len) (fun A outer s H vs Q E hgd hr ⟨F, W, M, ds, Qd, Ed, r, st, h, kk, kx⟩ => ?_), M.of _ _ e, kp, bb⟩
  obtain ⟨t, d, q⟩ := hbody f cdv A outer s H E hgd hr
  exact ⟨_, PSs.nox d, ls_body r st kk (q ds M Qd Ed h)⟩
theorem fnok_ofG {P : Program} {w : World} {K : PySem.W.Frag} {mg : Str → Option Value} {base : Heap} {x : Str} {st : Stmt} {N ps : List Str} {k : Nat} {sp : DSp} {f : Addr} {fd : FuncData} (G : Fun K x x st f fd) (S : FnScope N ps (defScope st))
    (len : ∀ ds M Q E, sp ds M Q E → ds.length = ps.length)
    (hbody : ∀ (f : Addr) (cdv : Value) (A : Around) (outer : List Env) (s : Shared) (H : Hp) (E : XK), A.guards = some [] → Room k (A.deeper (envOfC x (defScope st) s.heap.objs.size f cdv)) →
      ∃ t, DB (cxOf CX0 P w K mg base N x (defScope st) f cdv A outer s H E).nox (defBody st) t ∧ ∀ ds M Q Ed, sp ds M Q Ed → t (bodyE Q) (startD N ds) M) : FnOkG P w K mg base CX0 (k + 1) f fd ps (LSp K sp) := by
  obtain ⟨oc, od, kV, doc, pm, an, cdv, ct, osl, rfl, lk, hcd'⟩ := G.ex
  refine fn_ofG lk hcd' S (lsp_len len) (fun A outer s H vs Q E hgd hr ⟨F, W, M, ds, Qd, Ed, r, st, h, kk, kx⟩ => ?_)
  obtain ⟨t, d, q⟩ := hbody f cdv A outer s H E hgd hr
  exact ⟨_, PSs.nox d, ls_body r st kk (q ds M Qd Ed h)⟩
section
variable {X : Cx} {k : Nat} {ps : List Str} {sp : DSp} {x : Str} {p pos : Pos} {e : Expr} {es : List Expr} {fs : DTA}
theorem d_callG (hgd : X.A.guards = some []) (D : KnDG X.prog X.w X.K X.mg X.base x k ps sp) (hr : Room k X.A) (ha : DA X (e :: es) fs) (hg : Gl X x := by rfl) (hdb : (x == ("__debug__" : Str)) = false := by decide)
    (he : starEach (e :: es) X.env = (false, eval e X.env) :: starEach es X.env := by rfl) (hpl : (backTo pos (starEach es X.env)).any (·.1) = false := by rfl) : DE X (.Call (.Name x p) (e :: es) [] pos) (gCall sp fs) := by
  obtain ⟨f, fd, F, m, kp, b⟩ := D.ex
  have hh : tCall (LSp X.K sp) [] E0 (Li (rA X.K) X.K fs) = fCall (LSp X.K sp) E0 (Li (rA X.K) X.K fs) := by
    funext σ H Q
    show (Li (rA X.K) X.K fs) σ H (fun vs H1 => LSp X.K sp (vs ++ []) H1 Q E0) = _
    simp only [List.append_nil]
    rfl
  have hp := pe_callG (E := E0) (p := p) hgd F hr hg m kp b .nil pass0 ha hdb he hpl
  rw [hh] at hp
  exact imp hp fun σ H Q ⟨δ, F, W, M, Qd, ev, s, h, kk⟩ => ⟨δ, F, W, M, _, ev, s, h, fun vs H1 W1 ds M1 g1 s1 r1 q1 => ⟨F, W1, M1, ds, Qd, X0, r1, s1, q1, kk.mono g1, fun _ _ _ _ _ _ _ _ _ z => z.elim⟩⟩
end
mutual
inductive PD : Da → PyData → Prop
  | non : PD .non .none
  | bl (b : Bool) : PD (.bl b) (.bool b)
  | int (i : Int) : PD (.int i) (.int i)
  | str (x : Str) : PD (.str x) (.str x)
  | lst {ds : List Da} {xs : List PyData} : PDs ds xs → PD (.lst ds) (.list xs)
  | tup {ds : List Da} {xs : List PyData} : PDs ds xs → PD (.tup ds) (.tuple xs)
  | dct : PD (.dct []) (.dict [])
inductive PDs : List Da → List PyData → Prop
  | nil : PDs [] []
  | cons {d : Da} {ds : List Da} {x : PyData} {xs : List PyData} : PD d x → PDs ds xs → PDs (d :: ds) (x :: xs)
end
section
variable {X : Cx} {pins : List (Addr × Obj)} {σ : L2.St} {H : Hp} {s : Shared} {W : Addr → Prop}
theorem reads_dct {a : Addr} (I : Inv X pins σ H s) (h : H a = some (.dK [])) : Reads s.heap (.ref a) (.dict []) [a] ∧ sysModules ≠ a := by
  obtain ⟨_, hm, vs, kv, o, es, ep, ho, hx, hd, hk, hp, _⟩ := dk_of I.hok h
  cases kv
  have he : es.toList = [] := by
    cases e : es.toList with
    | nil => rfl
    | cons z zs => rw [e] at hp; cases hp
  refine ⟨?_, fun z => by rw [z] at hm; simp at hm⟩
  have r : Reads s.heap (.ref a) (.dict []) (a :: [] ++ []) := .dict ho hx.1 hd (by rw [he]; exact .nil) (by rw [he]; exact .nil)
  exact r
mutual
theorem reads_of (I : Inv X pins σ H s) : ∀ {v : V} {d : Da} {p : PyData} {u : Value}, RD X.K W H v d → PD d p → p.hasDict = false → RelV v u → ∃ as, Reads s.heap u p as
  | _, _, _, _, .non, .non, _, ru => by cases ru; exact ⟨_, .none⟩
  | _, _, _, _, .bl b, .bl _, _, ru => by cases ru; exact ⟨_, .bool b⟩
  | _, _, _, _, .int i, .int _, _, ru => by obtain ⟨t, rfl⟩ := ru; exact ⟨_, .int i t⟩
  | _, _, _, _, .str x, .str _, _, ru => by obtain ⟨t, rfl⟩ := ru; exact ⟨_, .str x t⟩
  | _, _, _, _, .lst hs rv, .lst ps, hd, ru => by
    cases ru
    obtain ⟨its, r, ⟨o, n, e, c, _, dt⟩, _⟩ := I.list hs.sq
    obtain ⟨as, ra⟩ := reads_all I rv ps (by simpa [PyData.hasDict] using hd) r
    exact ⟨_, .list e c dt ra⟩
  | _, _, _, _, .tup hs rv, .tup ps, hd, ru => by
    cases ru
    obtain ⟨its, r, ⟨o, e, c, n, dt⟩, _⟩ := I.tuple hs.sq
    obtain ⟨as, ra⟩ := reads_all I rv ps (by simpa [PyData.hasDict] using hd) r
    exact ⟨_, .tuple e c dt ra⟩
  | _, _, _, _, .dct _ _ _, .dct, hd, _ => by simp [PyData.hasDict] at hd
theorem reads_all (I : Inv X pins σ H s) : ∀ {vs : List V} {ds : List Da} {ps : List PyData} {us : List Value}, RDs X.K W H vs ds → PDs ds ps → PyData.hasDictAll ps = false → Vals vs us → ∃ as, ReadsAll s.heap us ps as
  | _, _, _, _, .nil, .nil, _, r => by cases r; exact ⟨_, .nil⟩
  | _, _, _, _, .cons h k, .cons p q, hd, r => by
    cases r with
    | cons r rr =>
      rw [PyData.hasDictAll, Bool.or_eq_false_iff] at hd
      obtain ⟨as, a⟩ := reads_of I h p hd.1 r
      obtain ⟨bs, b⟩ := reads_all I k q hd.2 rr
      exact ⟨_, .cons a b⟩
end
/-- what can be shown: no dicts but an empty one, no great numbers, not long, not deep -/
structure Shw (d : Da) (p : PyData) : Prop where
  pd : PD d p
  sh : p.showable = true
  sz : p.shown.length ≤ sizeLine
  dp : p.depth ≤ 20
  dct : p.hasDict = false ∨ d = .dct []
def kReprG : DC := fun xs M Q => match xs with
  | [d] => ∃ p, Shw d p ∧ Q (.str p.shown) M
  | _ => False
def rReprG (K : PySem.W.Frag) : List V → Hp → VK → Prop := fun xs H Q => ∃ v d p W, xs = [v] ∧ RD K W H v d ∧ Shw d p ∧ Q (.str p.shown) H
theorem c_reprG (hgd : X.A.guards = some []) (hu : X.A.units + 64 < cLine) : CallR X (.builtin "repr") (rReprG X.K) := by
  intro pins s σ H xs us Q I r h
  obtain ⟨v, d, p, W, rfl, rd, sw, q⟩ := h
  have hsz := sw.sz
  have hdp := sw.dp
  have main : ∀ {a : Addr} {as : List Addr}, Reads s.heap (.ref a) p as → (p.hasDict = true → sysModules ∉ as) → wpAny (model X.prog X.w) X.A (PySem.call (.builtin "repr") [.ref a]) (EP X pins σ Q) X.xe s := fun {a as} ra hm =>
    repr_of_reads' ra sw.sh hm hgd (by omega) (fun _ _ e => e) (fun h' u tk hk => ⟨.str p.shown, H, I.kept hk, ⟨_, rfl⟩, q⟩) hsz
  obtain ⟨u, rfl, ru⟩ := vals1 r
  have pd := sw.pd
  have sh := sw.sh
  cases rd with
  | non => cases pd; cases ru; exact PySem.P.repr_of_none ⟨.str _, H, I.tok _, ⟨_, rfl⟩, by simpa [PyData.shown] using q⟩
  | bl b => cases pd; cases ru; exact PySem.P.repr_of_bool ⟨.str _, H, I.tok _, ⟨_, rfl⟩, by simpa [PyData.shown] using q⟩
  | int i => cases pd; obtain ⟨t, rfl⟩ := ru; exact PySem.P.repr_of_int (by simpa [PyData.showable] using sh) ⟨.str _, H, I.tok _, ⟨_, rfl⟩, by simpa [PyData.shown] using q⟩
  | str x => cases pd; obtain ⟨t, rfl⟩ := ru; exact PySem.P.repr_of_str ⟨.str _, H, I.tok _, ⟨_, rfl⟩, by simpa [PyData.shown] using q⟩ (by simpa only [PyData.shown] using hsz)
  | ty n => cases pd
  | lst hs rv =>
    cases ru
    rcases sw.dct with hd | hd
    · obtain ⟨as, ra⟩ := reads_of I (.lst hs rv) pd hd rfl
      exact main ra (PyData.noDict_hsm hd)
    · cases hd
  | tup hs rv =>
    cases ru
    rcases sw.dct with hd | hd
    · obtain ⟨as, ra⟩ := reads_of I (.tup hs rv) pd hd rfl
      exact main ra (PyData.noDict_hsm hd)
    · cases hd
  | obj _ _ _ => cases pd
  | ref a => cases pd
  | dct w h rk =>
    cases ru
    cases pd
    cases rk
    obtain ⟨ra, hm⟩ := reads_dct I h
    exact main ra fun _ z => hm (List.mem_singleton.mp z)
  | exn _ _ _ => cases pd
theorem c_dreprG (hgd : X.A.guards = some []) (hu : X.A.units + 64 < cLine) : CD X (.builtin "repr") kReprG := cd_imp fun vs H Q ⟨F, W, M, ds, Qd, r, s, h, kk⟩ => by
  refine ⟨_, c_reprG hgd hu, ?_⟩
  unfold kReprG at h
  split at h
  · obtain ⟨v, rfl, r1⟩ := r.one
    obtain ⟨p, sw, q⟩ := h
    exact ⟨v, _, p, W, rfl, r1, sw, kk.now s (.str _) q⟩
  · exact h.elim
end
end U
set_option maxRecDepth 100000
namespace VW0
open PySem PySem.F PySem.Builtin PySem.Builtin.ObjectAttr
structure Passes (tl : List Value) : Prop where
  passes : ∀ self, refuseLoop self "__setattr__" tl = pure ()
end VW0
set_option Elab.async false
set_option linter.all false
set_option maxRecDepth 100000
set_option maxHeartbeats 4000000
namespace U
open PySem PySem.Spec PyProof.Rows L2
/-- what the written part says of an own error class that keeps a value, straight over a built-in one -/
structure XErr (K : PySem.W.Frag) (x : Str) (C : Addr) (qual : Str) (st : Stmt) (f : Str) (B newId initId : String) (tl : List Value) : Prop where
  at_ : PySem.W.nsIn K mainGlobals x = some (some (.ref C))
  T : OexT K C B newId initId tl
  meth : ∃ fI fd, Fun K "__init__" qual st fI fd ∧ PySem.W.findIn K (.ref C) "__init__" = some (some (.ref fI)) ∧ PySem.W.typeIn K (.ref fI) = some (.type "function")
  no : PySem.W.findIn K (.ref C) f = some none
  vV : PySem.W.findCls K (.type B) (.type "type") "__init__" = some (.val (.builtin initId))
  xf : XfC K C
theorem xerr_mk {K : PySem.W.Frag} {x : Str} {C : Addr} {qual : Str} {st : Stmt} {f : Str} {B newId initId : String} {tl : List Value} {nm q : Str} {N : Addr} {bs : List Value} {sn : List Str} {sub : List Value} {ab : Bool} {col : Option Bool} {dd : Option Addr} {k0 k1 k2 k3 k5 : Option Value}
    {fI : Addr} {oc : Value} {od an : Option Addr} {osl : Array (Option Value)} {kV doc pm cdv ct : Value} {Bn : String} (base : VV0.EB2 B Bn newId initId tl) (tlok : VV0.TlOk tl) (qa : PySem.W.nsIn K mainGlobals x = some (some (.ref C))) (ql : K.lookup C = some (excClassObj nm q C N bs tl true sn sub ab col dd k0 k1 k2 k3 k5 newId))
    (qs : PySem.W.findIn K (.ref C) "__setattr__" = some (some (.builtin "object.__setattr__"))) (qe : PySem.W.subIn K (.ref C) (.type "BaseException") = some true) (qt : PySem.W.typeIn K (.ref C) = some (.type "type")) (qk : PySem.W.keepIn K (.ref C) = true)
    (qi : PySem.W.findIn K (.ref C) "__init__" = some (some (.ref fI))) (qm : K.lookup fI = some ⟨oc, od, .func (PySem.W.fnOf "__init__" qual (defArgs st) (defBody st) (defScope st) .none kV doc pm an cdv ct), osl⟩) (qc : PySem.W.codeIn K cdv qual = true) (qf : PySem.W.keepIn K (.ref fI) = true)
    (qy : PySem.W.typeIn K (.ref fI) = some (.type "function")) (qn : PySem.W.findIn K (.ref C) f = some none) (qv : PySem.W.findCls K (.type B) (.type "type") "__init__" = some (.val (.builtin initId)))
    (qg : PySem.W.findIn K (.ref C) "__getattribute__" = some (some (.builtin "BaseException.__getattribute__"))) (qh : PySem.W.findIn K (.ref C) "__getattr__" = some none) (qd : PySem.W.hasDictIn K C = true) : XErr K x C qual st f B newId initId tl :=
  ⟨qa, ⟨⟨Bn, base⟩, tlok, ⟨_, _, _, _, _, _, _, _, _, _, _, _, _, _, ql⟩, qs, qe, qt, qk⟩, ⟨_, _, fun_mk qm qc qf, qi, qy⟩, qn, qv, ⟨qg, qh, qe, qd⟩⟩
/-- an own error class, its __init__ walked -/
structure KnErr (P : Program) (w : World) (K : PySem.W.Frag) (mg : Str → Option Value) (base : Heap) (x : Str) (C : Addr) (f : Str) (k : Nat) : Prop where
  ex : ∃ (B newId initId : String) (tl : List Value) (fI : Addr) (fd : FuncData), OexT K C B newId initId tl ∧ PySem.W.findIn K (.ref C) "__init__" = some (some (.ref fI)) ∧ PySem.W.typeIn K (.ref fI) = some (.type "function") ∧
    FnOk P w K mg base CX0 k fI fd ["self", f] (spErr C f) ∧ Binds K fd ["self", f] [] ∧ mg x = some (.ref C)
theorem KnErr.of {P : Program} {w : World} {K : PySem.W.Frag} {mg : Str → Option Value} {base : Heap} {x : Str} {C : Addr} {qual : Str} {st : Stmt} {f : Str} {B newId initId : String} {tl : List Value} {N : List Str} (F : XErr K x C qual st f B newId initId tl) (M : MgOf K mg)
    (S : FnScope N ["self", f] (defScope st))
    (hb : ∀ (kV doc pm : Value) (an : Option Addr) (cdv ct : Value) (us : List Value), us.length = (["self", f] : List Str).length → bindArgs (PySem.W.fnOf "__init__" qual (defArgs st) (defBody st) (defScope st) .none kV doc pm an cdv ct) ⟨us, []⟩ = pure ((["self", f] : List Str).zip us))
    (hbody : ∀ (fI : Addr) (cdv : Value) (A : Around) (outer : List Env) (s : Shared) (H : Hp) (E : XK), ∃ t, PSs (cxOf CX0 P w K mg base N qual (defScope st) fI cdv A outer s H E).nox (defBody st) t ∧
      ∀ (a : Addr) (v : V) (Q : VK), H a = some (exo a C none) → (∀ dx, H dx = none → dx ≠ a → Q .non (upd (upd H dx (exd dx [(f, v)])) a (exo a C (some dx)))) → t { nx := fun _ H' => Q .non H', rt := Q } (start N [.ref a, v]) H) : KnErr P w K mg base x C f 1 := by
  obtain ⟨fI, fd, G, iC, tI⟩ := F.meth
  refine ⟨B, newId, initId, tl, fI, fd, F.T, iC, tI, G.ok S (fun vs H Q E ⟨a, v, e, _⟩ => by rw [e]; rfl) (fun cdv A outer s H vs Q E hr ⟨a, v, e, ha, q⟩ => ?_), G.binds hb, M.of _ _ F.at_⟩
  obtain ⟨t, d, k⟩ := hbody fI cdv A outer s H E
  subst e
  exact ⟨t, d, k a v Q ha q⟩
/-- B.__init__(self, x); self.f = x -/
def errT (K : PySem.W.Frag) (B newId initId : String) (tl : List Value) (f : Str) : TS := tSeq (tDrop (tVeT K B newId initId tl (tCons (tVar 0) (tCons (tVar 1) tNil)))) (tOstT K B newId initId tl f (tVar 0) (tVar 1))
theorem err_end {K : PySem.W.Frag} {C : Addr} {B newId initId : String} {tl : List Value} {f : Str} {N : List Str} {a : Addr} {v : V} {Q : VK} {H : Hp} (T : OexT K C B newId initId tl) (hno : PySem.W.findIn K (.ref C) f = some none)
    (ha : H a = some (exo a C none)) (q : ∀ dx, H dx = none → dx ≠ a → Q .non (upd (upd H dx (exd dx [(f, v)])) a (exo a C (some dx)))) : errT K B newId initId tl f { nx := fun _ H' => Q .non H', rt := Q } (start N [.ref a, v]) H :=
  ⟨.ref a, rfl, v, rfl, a, C, [v], rfl, by simp, T, ha, v, rfl, .ref a, rfl, a, C, rfl, T, hno, ha, q⟩
section
variable {X : Cx} {k : Nat} {x f : Str} {C : Addr} {e : Expr} {fe : DTE} {p pos pos' : Pos}
/-- raise C(e) -/
theorem z_raiseE (D : KnErr X.prog X.w X.K X.mg X.base x C f k) (hr : Room (k + 1) X.A) (he : DE X e fe) (hc : X.calm = true := by rfl) (hg : Gl X x := by rfl)
    (hdb : (x == ("__debug__" : Str)) = false := by decide) (hst : starEach [e] X.env = (false, eval e X.env) :: starEach [] X.env := by rfl) (hpl : (backTo pos (starEach [] X.env)).any (·.1) = false := by rfl) :
    DS X (.Raise (some (.Call (.Name x p) [e] [] pos)) none pos') (hRaiseV (.ref C) f fe) := by
  obtain ⟨B, newId, initId, tl, fI, fd, T, iC, tI, F1, b, m⟩ := D.ex
  exact z_raiseV hc T iC tI F1 hr b hg m he pass0 hdb hst hpl
end
end U

namespace U
open PySem PySem.Spec PyProof.Rows L2 LamX
theorem _root_.L2.Takes.len {X : Cx} {W : WX} (t : Takes X W) : Takes X (fun cls d σ H => σ.length = X.N.length → W cls d σ H) := fun u s' ⟨a, B, sI, pins, σ, H, cls, d, e, I, nb, up, sky, na, os, ag, w⟩ =>
  t u s' ⟨a, B, sI, pins, σ, H, cls, d, e, I, nb, up, sky, na, os, ag, w I.len⟩
theorem start_len (Ng : List Str) (f : Addr) (h : 1 ≤ Ng.length) : (L2.start Ng [V.ref f]).length = Ng.length := by
  show ((([V.ref f].map some) ++ List.replicate (Ng.length - 1) none) : List (Option V)).length = _
  rw [List.length_append, List.length_replicate, List.length_map]
  show 1 + (Ng.length - 1) = _
  omega
theorem len_pos {Ng : List Str} {a : Str} (h : Ng[0]? = some a) : 1 ≤ Ng.length := by
  cases Ng with
  | nil => cases h
  | cons _ _ => simp
def TTB2 (K : PySem.W.Frag) (n : Nat) (l : List (Value × Option Nat × Th)) (u : DTS) : (XK → Hp → VK → Prop) → Hp → VK → Prop := fun tl H Q => tl (fun cls d H' => ∀ σ' : L2.St, σ'.length = n → wManyN K (fun _ _ _ _ => False) { nx := fun σ' H' => LS K (fun _ _ _ => False) u { nx := fun _ H' => Q .non H', rt := Q } σ' H', rt := Q } (upH2 K l) cls d σ' H') H
  (fun _ H' => ∀ σ' : L2.St, σ'.length = n → LS K (fun _ _ _ => False) u { nx := fun _ H' => Q .non H', rt := Q } σ' H')
section
variable {X : Cx} {Ng : List Str} {x a q : Str} {sg : Scope} {g : Addr} {cdg : Value} {h₀ : ExceptHandler} {hds : List ExceptHandler} {l : List (Value × Option Nat × Th)} {p1 p2 p3 p8 : Pos} {rest : List Stmt} {u : DTS}
theorem metB2 (hN1 : 1 ≤ Ng.length) (hh : ∀ (s : Shared) (H : Hp), HdsD2 (cxOf C8.CX0 X.prog X.w X.K X.mg X.base Ng x sg g cdg X.A X.stack s H C8.E0).nox (h₀ :: hds) l) (h0 : ∀ f : Addr, (L2.start Ng [V.ref f])[0]? = some (some (V.ref f)))
    (hsw : ∀ (s : Shared) (H : Hp) (W : WX) (pn : List (Addr × Obj)) (xe : Value → Shared → Prop), swapsWith (.Call (.Name a p1) [] [] p2) none p3.line ((cxOf C8.CX0 X.prog X.w X.K X.mg X.base Ng x sg g cdg X.A X.stack s H C8.E0).nox.tr pn xe).env = pure false)
    (hu : ∀ (s : Shared) (H : Hp), DB (cxOf C8.CX0 X.prog X.w X.K X.mg X.base Ng x sg g cdg X.A X.stack s H C8.E0).nox rest u) :
    GivesTo X Ng x sg g cdg (.Try [.Expr (.Call (.Name a p1) [] [] p2) p3] (h₀ :: hds) [] [] p8 :: rest) a q (TTB2 X.K Ng.length l u) := by
  intro f c' s H Q tl act hc h
  refine ⟨_, pss_cons (ps_try_manyN (X := (cxOf C8.CX0 X.prog X.w X.K X.mg X.base Ng x sg g cdg X.A X.stack s H C8.E0).nox) (l := upH2 X.K l)
      (tb := fun W D σ H => ∃ Ech : XK, (∀ cls d (σ' : L2.St) H', σ'.length = Ng.length → Ech cls d H' → W cls d σ' H') ∧ σ[0]? = some (some (.ref f)) ∧ H c' = some (CodeO c' q) ∧ ∃ Qn : VK, (∀ v H', Qn v H' → D.nx σ H') ∧ tl Ech H Qn) rfl rfl L2.takes_none5 (fun W pn xe tk _ => ?_) (hh s H).ok)
      (pss_imp (hu s H) fun D σ H q => ls_E (E := fun _ _ _ => False) (fun _ _ _ z => z.elim) q), ?_⟩
  · refine ⟨fun pins s' σ H' D I h' => ?_⟩
    obtain ⟨Ech, hW, h1, h2, Qn, h3, h4⟩ := h'
    have hp := act _ pn xe Ech p1 p2 tk.len (fun cls d σ' H' e hl => hW cls d σ' H' hl e)
    have hp2 : PE ((cxOf C8.CX0 X.prog X.w X.K X.mg X.base Ng x sg g cdg X.A X.stack s H C8.E0).nox.tr pn xe) (.Call (.Name a p1) [] [] p2) (fun σZ HZ Q => σZ[0]? = some (some (.ref f)) ∧ HZ c' = some (CodeO c' q) ∧ ∃ Qn : VK, (∀ v H', Qn v H' → Q v H') ∧ tl Ech HZ Qn) :=
      ⟨fun pins s σ H Q I ⟨a1, a2, Qn, a3, a4⟩ => wpAny_mono (hp.run pins s σ H Qn I ⟨a1, a2, a4⟩) (fun u s' ⟨v, H', I', r, z⟩ => ⟨v, H', I', r, a3 _ _ z⟩) fun _ _ z => z⟩
    have hq := pss_one (ps_expr (pos := p3) hp2 (hsw s H W pn xe))
    exact hq.run pins s' σ H' D I ⟨h1, h2, Qn, h3, h4⟩
  · exact ⟨_, fun cls d σ' H' hl h => h σ' hl, h0 f, hc, _, fun _ _ h => h _ (start_len Ng f hN1), h⟩
end
def gLamB2 (K : PySem.W.Frag) (n : Nat) (P : Addr) (q : Str) (gb : XDE) (l : List (Value × Option Nat × Th)) (u : DTS) : DTE := fun δ M Q => M P = some (.tbl q) ∧ gb δ M (fun _ M1 => u { nx := fun _ M => Q .non M, rt := Q } (List.replicate n none) M1) (xMany2 K n { nx := u { nx := fun _ M => Q .non M, rt := Q }, rt := Q } l)
section
variable {X : Cx} {Ng : List Str} {x a : Str} {st : Stmt} {h₀ : ExceptHandler} {hds : List ExceptHandler} {l : List (Value × Option Nat × Th)} {p1 p2 p3 p8 p lpos pos : Pos} {rest : List Stmt} {u : DTS} {P c : Addr} {k : Nat} {params : Arguments} {body : Expr} {scope : Scope} {gb : XDE}
theorem d_lamB2 (F : HasDef X.K x st) (M : MgOf X.K X.mg) (S : FnScope Ng [a] (defScope st)) (hbd : defBody st = .Try [.Expr (.Call (.Name a p1) [] [] p2) p3] (h₀ :: hds) [] [] p8 :: rest) (hh : ∀ (g : Addr) (cdg : Value) (s : Shared) (H : Hp), HdsD2 (cxOf C8.CX0 X.prog X.w X.K X.mg X.base Ng x (defScope st) g cdg X.A X.stack s H C8.E0).nox (h₀ :: hds) l)
    (hu : ∀ (g : Addr) (cdg : Value) (s : Shared) (H : Hp), DB (cxOf C8.CX0 X.prog X.w X.K X.mg X.base Ng x (defScope st) g cdg X.A X.stack s H C8.E0).nox rest u)
    (TB : TabB X.base X.mg c P) (hr : Room (k + 2) X.A)
    (hbody : ∀ (A : Around) (outer : List Env) (s : Shared) (H : Hp) (E : XK) (f c' : Addr), Room k (A.deeper (lamEnv X scope s.heap.objs.size f c')) → DEX (lamCx X A outer s H E scope f c') body gb)
    (hsw : ∀ (g : Addr) (cdg : Value) (s : Shared) (H : Hp) (pn : List (Addr × Obj)) (xe : Value → Shared → Prop), swapsWith (.Call (.Name a p1) [] [] p2) none p3.line ((cxOf C8.CX0 X.prog X.w X.K X.mg X.base Ng x (defScope st) g cdg X.A X.stack s H C8.E0).nox.tr pn xe).env = pure false := by exact fun _ _ _ _ _ _ => rfl)
    (hb1 : ∀ (kV doc pm : Value) (an : Option Addr) (cdv ct : Value) (us : List Value), us.length = [a].length → bindArgs (PySem.W.fnOf x x (defArgs st) (defBody st) (defScope st) .none kV doc pm an cdv ct) ⟨us, []⟩ = pure ([a].zip us) := by exact fun _ _ _ _ _ _ us hl => match us, hl with | [_], _ => rfl)
    (h0 : ∀ f : Addr, (L2.start Ng [V.ref f])[0]? = some (some (V.ref f)) := by exact fun _ => rfl) (hNg : Ng[0]? = some a := by rfl) (hva : Vis (defScope st) a := by exact Or.inl rfl) (hcode : X.env.code = .ref c := by rfl) (L : lamSB X.env.scope scope = true := by decide +kernel) (hdef : defaultsOf params X.env = ([], []) := by rfl)
    (hbind : ∀ (q : Str) (cl : List (Str × Addr)) (pm cv ctv : Value), bindArgs (PySem.W.kla_fn "<lambda>" q params body scope cl pm cv ctv) ⟨[], []⟩ = pure [] := by exact fun _ _ _ _ _ => rfl) (hg : Gl X x := by rfl)
    (hdb : (x == ("__debug__" : Str)) = false := by decide) (hd : (a == ("__debug__" : Str)) = false := by decide) (hcd : (a == ("__classdict__" : Str)) = false := by decide) :
    DE X (.Call (.Name x p) [.Lambda params body scope lpos] [] pos) (gLamB2 X.K Ng.length P (X.env.qual ++ "<lambda>") gb l u) := by
  obtain ⟨f, fd, G, e⟩ := F.ex
  have kp := G.kp
  have bb := G.binds hb1
  obtain ⟨oc, od, kV, doc, pm, an, cdv, ct, osl, rfl, lk, hcd'⟩ := G.ex
  have main := fun V => pe_lamcall3 (X := X) (V := V) (P := P) (p := p) (lpos := lpos) (pos := pos) (t := fun E => LiX (rE X.K) X.K E gb) (TT := TTB2 X.K Ng.length l u) hg (M.of _ _ e) kp lk hcd' bb S hNg hva
    (by rw [hbd]; exact metB2 (len_pos hNg) (hh f cdv) h0 (fun s H _ pn xe => hsw f cdv s H pn xe) (hu f cdv)) TB hcode hr (lamS_by L) hdef hbind (lam_body hbody) hdb hd hcd
  refine ⟨fun pins s σ H Q I ⟨δ, F, W, M, Qd, ev, st', ⟨hP, h⟩, k'⟩ => (main W).run pins s σ H Q I ⟨tab_of st' hP, fun H1 e1 t1 => ?_⟩⟩
  obtain ⟨W1, s1, g1⟩ := lam_state st' hP e1 t1
  have k1 := k'.mono g1
  have ks : KS X.K (fun _ _ _ => False) F W1 H1 { nx := fun _ M => Qd .non M, rt := Qd } { nx := fun _ H' => Q .non H', rt := Q } :=
    ⟨fun σ' H2 W2 δ' M2 g2 s2 e2 q2 => k1 _ _ _ _ _ g2 s2 .non q2, k1, fun _ _ _ _ _ _ _ _ z => z.elim, fun _ _ _ _ _ _ _ _ z => z.elim, fun _ _ _ _ _ _ _ _ _ z => z.elim⟩
  have ks2 : KS X.K (fun _ _ _ => False) F W1 H1 { nx := u { nx := fun _ M => Qd .non M, rt := Qd }, rt := Qd } { nx := fun σ' H' => LS X.K (fun _ _ _ => False) u { nx := fun _ H' => Q .non H', rt := Q } σ' H', rt := Q } :=
    ⟨fun σ' H2 W2 δ' M2 g2 s2 e2 q2 => ⟨δ', F, W2, M2, _, e2, s2, q2, ks.mono g2⟩, k1, fun _ _ _ _ _ _ _ _ z => z.elim, fun _ _ _ _ _ _ _ _ z => z.elim, fun _ _ _ _ _ _ _ _ _ z => z.elim⟩
  refine ⟨δ, F, W1, M, _, _, ev.mono g1, s1, h, fun v H2 W2 d M2 g2 s2 r2 q2 σ' hl => ⟨_, F, W2, M2, _, env_none σ', s2, by rw [hl]; exact q2, ks.mono g2⟩, fun cls d H' W' fs M' g' s' r q σ' hl => ?_⟩
  exact many_down2 ks2 g' s' r hl (fun z => z.elim) q
end
end U
set_option Elab.async false
set_option linter.all false
set_option maxRecDepth 100000
set_option maxHeartbeats 2000000
namespace U
open PySem PySem.Spec PyProof.Rows L2
theorem hu_in {k : Nat} {A : Around} (r : Room k A) : A.units + 3 + 64 < cLine := by have := r.un; omega
structure KnKX (P : Program) (w : World) (K : PySem.W.Frag) (mg : Str → Option Value) (base : Heap) (C : Addr) (k : Nat) (ps : List Str) (n : Nat) (ks : List Str) (dvs : List V) (sp : DSp) : Prop where
  ex : ∃ f fd, FnOk P w K mg base (L2.CX P w) k f fd ps (LSp K sp) ∧ BMeth K C "__init__" f ∧ (∃ ds, Vals dvs ds ∧ Binds K fd ps ds) ∧ KBn K fd ps n ks (fun us ws => us ++ ws) (fun vs zs => vs ++ zs)
theorem KnKX.of {P : Program} {w : World} {K : PySem.W.Frag} {mg : Str → Option Value} {base : Heap} {C : Addr} {qual : Str} {st : Stmt} {N ps : List Str} {k n : Nat} {ks : List Str} {kws : List (Str × V)} {sp : DSp} (F : HasInitK K C qual st kws) (S : FnScope N ps (defScope st)) (hk : kws ≠ []) (hn : n + kws.length = ps.length)
    (h1 : ∀ (D : Addr) (doc pm : Value) (an : Option Addr) (cdv ct : Value) (us zs : List Value), us.length = n → zs.length = kws.length →
      KwChain D ((kws.map (·.1)).zip zs) (bindArgs (PySem.W.fnOf "__init__" qual (defArgs st) (defBody st) (defScope st) .none (.ref D) doc pm an cdv ct) ⟨us, []⟩) (ps.zip (us ++ zs)))
    (h2 : ∀ (D : Addr) (doc pm : Value) (an : Option Addr) (cdv ct : Value) (us ws : List Value), us.length = n → ws.length = ks.length →
      bindArgs (PySem.W.fnOf "__init__" qual (defArgs st) (defBody st) (defScope st) .none (.ref D) doc pm an cdv ct) ⟨us, ks.zip ws⟩ = pure (ps.zip (us ++ ws)))
    (len : ∀ ds M Q E, sp ds M Q E → ds.length = ps.length)
    (hbody : ∀ (f : Addr) (cdv : Value) (A : Around) (outer : List Env) (s : Shared) (H : Hp) (E : XK), Room k (A.deeper (envOfC qual (defScope st) s.heap.objs.size f cdv)) →
      ∃ t, DB (cxOf (L2.CX P w) P w K mg base N qual (defScope st) f cdv A outer s H E) (defBody st) t ∧ ∀ ds M Q Ed, sp ds M Q Ed → t (bodyX Q Ed) (startD N ds) M) : KnKX P w K mg base C (k + 1) ps n ks (kws.map (·.2)) sp := by
  obtain ⟨f, fd, F, B⟩ := F.ex
  refine ⟨f, fd, F.ok S (lsp_len len) (fun cdv A outer s H vs Q E hr ⟨F, W, M, ds, Qd, Ed, r, st, h, kk, kx⟩ => by
    obtain ⟨t, d, q⟩ := hbody f cdv A outer s H E hr
    exact ⟨_, d, ls_bodyX r st kk (kx_def kx) (q ds M Qd Ed h)⟩), B, F.binds0 n hk hn h1, ?_⟩
  obtain ⟨mv, kb⟩ := F.kbinds0 (ps := ps) n ks [] (fun us _ ws => us ++ ws) hk (fun q hq => nomatch hq) (fun r1 _ r3 => r1.append r3) fun D doc pm an cdv ct us mv ws l1 l2 l3 => h2 D doc pm an cdv ct us ws l1 l3
  exact kb
theorem KnKX.d {P : Program} {w : World} {K : PySem.W.Frag} {mg : Str → Option Value} {base : Heap} {C : Addr} {k n : Nat} {ps ks : List Str} {dvs : List V} {sp : DSp} (D : KnKX P w K mg base C k ps n ks dvs sp) : KnK P w K mg base C k ps n ks dvs (spN sp) := by
  obtain ⟨f, fd, F, r⟩ := D.ex
  exact ⟨f, fd, FnOk.nox F, r⟩
section
variable {X : Cx} {k n : Nat} {ps ks : List Str} {sp : DSp} {x : Str} {p pos : Pos} {e : Expr} {es : List Expr} {kws : List Keyword} {fs fk : DTA} {C : Addr} {dvs : List V} {dfl : List Da}
end
end U
namespace U
open PySem PySem.Spec PyProof.Rows L2
section
variable {X : Cx}
theorem strs_at {zs : List Str} {its : List Value} (r : Vals (zs.map V.str) its) {j : Nat} (h : j < its.length) : ∃ z t, zs[j]? = some z ∧ its[j] = Value.str z t := by
  have hl := r.length
  rw [List.length_map] at hl
  have hj : j < zs.length := by omega
  obtain ⟨u, hu, ru⟩ := r.get (i := j) (x := .str zs[j]) (by rw [List.getElem?_map, List.getElem?_eq_getElem hj]; rfl)
  obtain ⟨t, rfl⟩ := ru
  rw [List.getElem?_eq_getElem h] at hu
  exact ⟨_, t, List.getElem?_eq_getElem hj, Option.some.inj hu⟩
theorem strs_eq {A : Around} {s : Shared} {zs : List Str} {its its2 : List Value} (r : Vals (zs.map V.str) its) (r2 : Vals (zs.map V.str) its2) (j : Nat) (h1 : j < its.toArray.size) (h2 : j < its2.toArray.size) : SeqAt.EqAt A s its.toArray[j] its2.toArray[j] ((fun _ => true) j) := by
  have k1 : j < its.length := by simpa using h1
  have k2 : j < its2.length := by simpa using h2
  rw [show its.toArray[j] = its[j] from by simp, show its2.toArray[j] = its2[j] from by simp]
  obtain ⟨z, t, e, q⟩ := strs_at r k1
  obtain ⟨z2, t2, e2, q2⟩ := strs_at r2 k2
  rw [e] at e2
  cases e2
  rw [q, q2]
  have := SeqAt.EqAt.str_str (A := A) (s := s) z t z t2
  rwa [show (z == z) = true from beq_self_eq_true z] at this
def rSS (K : PySem.W.Frag) (b : Bool) : R2 := fun x y H Q => ∃ (a c : Addr) (zs : List Str), x = .ref a ∧ y = .ref c ∧ SqL K H a (zs.map V.str) ∧ SqL K H c (zs.map V.str) ∧ Q (.bl b) H
theorem op_eqSS (hu : X.A.units < cLine) : OpR X (compareOp .Eq) (rSS X.K true) := by
  intro pins s σ H x y v u Q I rx ry h
  obtain ⟨a, b, zs, rfl, rfl, ha, hb, q⟩ := h
  cases rx
  cases ry
  obtain ⟨its, r, p, _⟩ := I.list ha
  obtain ⟨its2, r2, p2, _⟩ := I.list hb
  have hl := r.length
  rw [r2.length] at hl
  show wpAny _ _ (richCompare .Eq (Value.ref a) (Value.ref b)) _ _ _
  refine SeqAt.RcAt.lists (e := fun _ => true) p.isList p2.isList (by rw [List.size_toArray, List.size_toArray]; exact hl.symm) hu (fun j h1 h2 => strs_eq r r2 j h1 h2) _ _ _ _ ?_
  exact ⟨.bl true, H, I, by simp [L2.RelV], q⟩
def hSS (b : Bool) : D2 := fun x y M Q => ∃ zs : List Str, x = .lst (zs.map Da.str) ∧ y = .lst (zs.map Da.str) ∧ Q (.bl b) M
theorem o_deqSS (hu : X.A.units + 64 < cLine) : DO X (compareOp .Eq) (hSS true) := do_imp fun x y H Q ⟨F, W, M, d, e, Qd, r1, r2, s, h, k⟩ => by
  obtain ⟨zs, rfl, rfl, q⟩ := h
  cases r1 with
  | lst hs rv =>
    cases r2 with
    | lst ht rw_ =>
      obtain rfl := rv.strs
      obtain rfl := rw_.strs
      exact ⟨_, op_eqSS (by omega), _, _, zs, rfl, rfl, hs.sq, ht.sq, k.now s (.bl _) q⟩
end
end U
namespace U
open PySem PySem.Spec PyProof.Rows L2
end U
set_option Elab.async false
set_option linter.all false
set_option maxRecDepth 100000
set_option maxHeartbeats 2000000
namespace U
open PySem PySem.Spec PyProof.Rows L2
theorem shw_int {i : Int} (h : i.natAbs.log2 < 1920) : Shw (.int i) (.int i) :=
  ⟨.int i, by simpa [PyData.showable] using h, by simp only [PyData.shown]; exact int_text_fits h, by simp [PyData.depth], .inl (by simp [PyData.hasDict])⟩
theorem shw_of {d : Da} {p : PyData} (a : PD d p) (h : (p.showable && (decide (p.shown.length ≤ 1000) && decide (p.depth ≤ 20))) = true) (c : p.hasDict = false ∨ d = .dct []) : Shw d p := by
  obtain ⟨h1, h⟩ := Bool.and_eq_true_iff.mp h
  obtain ⟨h2, h3⟩ := Bool.and_eq_true_iff.mp h
  exact ⟨a, h1, by have := of_decide_eq_true h2; rw [sizeLine_eq]; omega, of_decide_eq_true h3, c⟩
end U
set_option Elab.async false
set_option linter.all false
set_option maxRecDepth 100000
set_option maxHeartbeats 4000000
namespace U
open PySem PySem.Spec PyProof.Rows L2
section
variable {X : Cx}
def rRepTB (K : PySem.W.Frag) : R2 := fun x y H Q => ∃ l k xs, x = .ref l ∧ y = .int k ∧ SqT K H l xs ∧ xs ≠ [] ∧ 2 ≤ k ∧ k ≤ 10000 ∧ xs.length ≤ 100 ∧ ∀ p, H p = none → ∀ o : Obj, o.dict = none → Q (.ref p) (upd H p (.frz o (.tup (List.replicate k.toNat xs).flatten)))
theorem op_repTB : OpR X (binaryOp .Mult) (rRepTB X.K) := by
  intro pins s σ H x y v u Q I rx ry h
  obtain ⟨l, k, xs, rfl, rfl, hT, hne, h1, h2, hz, q⟩ := h
  cases rx
  obtain ⟨t, rfl⟩ := ry
  obtain ⟨its, r, ⟨⟨cls, dd, data, sl⟩, ho, hc, n, hd⟩, hs⟩ := I.tuple hT
  simp only at hc hd
  subst hc hd
  have hle : its.length = xs.length := r.length.symm
  have hn : its ≠ [] := fun e => hne (by
    rw [e] at hle
    exact List.eq_nil_of_length_eq_zero hle.symm)
  have hi : its.toArray.isEmpty = false := by
    cases its with
    | nil => exact absurd rfl hn
    | cons a b => rfl
  have hsz0 : its.toArray.size = xs.length := by rw [List.size_toArray, hle]
  have hm : ((its.toArray.size : Nat) : Int) * k ≤ 1000000 := by
    rw [hsz0]
    have a1 : ((xs.length : Nat) : Int) * k ≤ 100 * k := Int.mul_le_mul_of_nonneg_right (by omega) (by omega)
    omega
  have flen : (List.replicate k.toNat its).flatten.length ≤ sizeLine := by
    rw [PyProof.Rows.lm_len_rep_flat, hle, sizeLine_eq]
    have a1 : k.toNat * xs.length ≤ 10000 * 100 := Nat.mul_le_mul (by omega) hz
    omega
  have c0 : (decide (k < -(2 ^ 63)) || decide (k ≥ 2 ^ 63)) = false := by
    rw [decide_eq_false (by omega), decide_eq_false (by omega)] <;> rfl
  have c1 : (its.toArray.isEmpty || k == 1) = false := by
    rw [hi, Bool.false_or]
    exact beq_eq_false_iff_ne.mpr (by omega)
  have c2 : (decide (k ≤ 0) || its.toArray.isEmpty) = false := by
    rw [hi, Bool.or_false]
    exact decide_eq_false (by omega)
  have c4 : Builtin.Tuple.tupleTooMany (((its.toArray.size : Nat) : Int) * k) = false := by
    unfold Builtin.Tuple.tupleTooMany
    rw [sizeLine_eq]
    exact decide_eq_false (by omega)
  refine wpAny_binaryOp_repeat_ref (T := "tuple") (U := "int") (by decide) ⟨_, ho, rfl⟩ (fun s' => typeIs_int s' k t) noFill_tuple_mul F.fills_int_mul F.slot_int_rmul repeat_tuple F.slot_int_index.lookup
    (call_meets F.slot_int_rmul (typeIs_int s k t) F.entry_int_rmul (F.args_int_rmul_2 _ _) (int_rmul_tuple k t l its.toArray n dd sl)
      ⟨ho, rfl, ⟨_, ho, rfl⟩, call_meets F.slot_tuple_mul ⟨_, ho, rfl⟩ F.entry_tuple_mul (F.args_tuple_mul_2 _ _) (tuple_mulW l its.toArray n dd sl k t c0 c1 c2 (by omega) c4 (by rw [size_rep, List.size_toArray]; exact flen)) ⟨ho, ?_⟩⟩)
  rw [size_rep]
  refine ⟨.ref s.heap.objs.size, _, I.laid (t' := s.toks) (o := .frz { cls := .type "tuple", data := .seq (List.replicate k.toNat its).flatten.toArray } (.tup (List.replicate k.toNat xs).flatten)) (fun b ob q => Heap.get?_push_of_some _ q) (Nat.le_refl _) ?_, rfl, q _ (I.hok.fresh (Nat.le_refl _)) _ rfl⟩
  exact ⟨Heap.get?_push_size _ rfl, by rw [PyProof.Rows.lm_len_rep_flat, sizeLine_eq]; have a1 : k.toNat * xs.length ≤ 10000 * 100 := Nat.mul_le_mul (by omega) hz; omega, _, r.rep k.toNat, IsTup.new _ _⟩
end
end U
namespace U
open PySem PySem.Spec PyProof.Rows L2
/-- t * 1 is t -/
theorem tuple_mul1 (l : Addr) (items : Array Value) (n : Nat) (dd : Option Addr) (sl : Array (Option Value)) (u : Tok) :
    Meets (Builtin.«tuple.__mul__» ⟨[.ref l, .int 1 u], []⟩) (fun _ R s => s.heap.get? l = some { cls := .type "tuple", dict := dd, data := .seq items n, slots := sl } ∧ R (.ok (.ret (Value.ref l))) s) :=
  .of_wp fun prog w A R s h => by
    obtain ⟨hp, g, d, tk, os⟩ := s
    obtain ⟨hl, h⟩ := h
    have f1 := AutoSeq1.idx_int
    have c1 : (items.isEmpty || ((1 : Int) == 1)) = true := by rw [show ((1 : Int) == 1) = true from rfl, Bool.or_true]
    wp_walk using wpAny_loadPart' hl
    repeat (first
      | (refine wpAny_ite_true (decide_eq_true c1) ?_; wp_walk using wpAny_loadPart' hl)
      | (refine wpAny_ite_false (decide_eq_false (by decide)) ?_; wp_walk using wpAny_loadPart' hl))
    exact ⟨_, rfl, h⟩
def rMul1 (K : PySem.W.Frag) : R2 := fun x y H Q => ∃ l xs, x = .ref l ∧ y = .int 1 ∧ SqT K H l xs ∧ Q (.ref l) H
theorem op_mul1 {X : Cx} : OpR X (binaryOp .Mult) (rMul1 X.K) := by
  intro pins s σ H x y v u Q I rx ry h
  obtain ⟨l, xs, rfl, rfl, hT, q⟩ := h
  cases rx
  obtain ⟨t, rfl⟩ := ry
  obtain ⟨its, r, ⟨⟨cls, dd, data, sl⟩, ho, hc, n, hd⟩, hs⟩ := I.tuple hT
  simp only at hc hd
  subst hc hd
  refine wpAny_binaryOp_repeat_ref (T := "tuple") (U := "int") (by decide) ⟨_, ho, rfl⟩ (fun s' => typeIs_int s' 1 t) noFill_tuple_mul F.fills_int_mul F.slot_int_rmul repeat_tuple F.slot_int_index.lookup
    (call_meets F.slot_int_rmul (typeIs_int s 1 t) F.entry_int_rmul (F.args_int_rmul_2 _ _) (int_rmul_tuple 1 t l its.toArray n dd sl)
      ⟨ho, rfl, ⟨_, ho, rfl⟩, call_meets F.slot_tuple_mul ⟨_, ho, rfl⟩ F.entry_tuple_mul (F.args_tuple_mul_2 _ _) (tuple_mul1 l its.toArray n dd sl t) ⟨ho, ?_⟩⟩)
  exact ⟨.ref l, H, I, rfl, q⟩
/-- x * k for rows, up to ten thousand times -/
def hMulB : D2 := fun x y M Q => match x, y with
  | .tup xs, .int k => xs ≠ [] ∧ 1 ≤ k ∧ k ≤ 10000 ∧ xs.length ≤ 100 ∧ Q (.tup (List.replicate k.toNat xs).flatten) M
  | .lst xs, .int k => k ≤ 10000 ∧ -1000 ≤ k ∧ xs.length ≤ 100 ∧ Q (.lst (List.replicate k.toNat xs).flatten) M
  | _, _ => False
theorem o_dmulB {X : Cx} : DO X (binaryOp .Mult) hMulB := do_imp fun x y H Q ⟨F, W, M, d, e, Qd, r1, r2, s, h, k⟩ => by
  unfold hMulB at h
  split at h
  · rename_i ds k'
    cases r1 with
    | @tup a vs _ hs rv =>
      cases r2
      by_cases h1 : k' = 1
      · subst h1
        have e : (List.replicate (1 : Int).toNat ds).flatten = ds := by simp
        rw [e] at h
        exact ⟨_, op_mul1, a, vs, rfl, rfl, hs.sq, k.now s (.tup hs rv) h.2.2.2.2⟩
      · exact ⟨_, op_repTB, _, _, vs, rfl, rfl, hs.sq, fun e => h.1 (by subst e; cases rv; rfl), by omega, h.2.2.1, by rw [rv.length]; exact h.2.2.2.1, fun p hp o ho => k.newT s hp (rv.flat_rep _) ho h.2.2.2.2⟩
  · cases r1 with
    | @lst a vs _ hs rv =>
      cases r2
      obtain ⟨h1, h2, h3, q⟩ := h
      have key : ∀ j : Int, j ≤ 10000 → vs.length * j.toNat ≤ sizeLine := fun j hj => by
        rw [rv.length, sizeLine_eq]
        have := Nat.mul_le_mul h3 (show j.toNat ≤ 10000 by omega)
        omega
      exact ⟨_, op_repL, _, _, vs, rfl, rfl, hs.sq, by omega, by omega, key _ h1, fun p hp => k.newL s hp (rv.flat_rep _) q⟩
  · exact h.elim
end U
set_option Elab.async false
set_option linter.all false
set_option maxRecDepth 100000
set_option maxHeartbeats 2000000
namespace U
open PySem PySem.Spec PyProof.Rows L2
section
variable {K : PySem.W.Frag} {D : DEnds} {δ : De} {M : Mm} {t v u : DTS} {gb : XDE} {l : List (Value × Option Nat × Th)} {n i : Nat} {P tt : Addr} {q s : Str} {zs : List Da}
/-- told = [met(lambda: ..)], told.append(met(lambda: ..)), where the call raises -/
theorem new_seq (hP : M P = some (.tbl q)) (hgb : ∀ (Qn : DK) (D' : DEnds), D'.rt (.str s) M → gb δ M Qn (xMany2 K n D' l)) (rest : ∀ tt, M tt = none → v D (δ.set i (some (.ref tt))) (mput M tt (.lst [.str s]))) :
    hSeq (hAsg (gLstM (gCons (gLamB2 K n P q gb l u) gNil)) (hName i)) v D δ M := ⟨hP, hgb _ _ ⟨rfl, fun tt h => rest tt h⟩⟩
theorem app_seq (hi : δ[i]? = some (some (.ref tt))) (hM : M tt = some (.lst zs)) (hz : zs.length ≤ 1000) (hP : M P = some (.tbl q)) (hgb : ∀ (Qn : DK) (D' : DEnds), D'.rt (.str s) M → gb δ M Qn (xMany2 K n D' l)) (rest : v D δ (mput M tt (.lst (zs ++ [.str s])))) :
    hSeq (hDrop (gMe hAppend (gVar i) (gCons (gLamB2 K n P q gb l u) gNil))) v D δ M := by
  unfold hSeq hDrop gMe
  unfold gVar
  rw [hi]
  exact ⟨⟨tt, zs, rfl, hM⟩, hP, hgb _ _ ⟨zs, hM, sz (by omega), rest⟩⟩
end
end U
set_option Elab.async false
set_option linter.all false
set_option maxRecDepth 100000
set_option maxHeartbeats 2000000
namespace U
open PySem PySem.Spec PyProof.Rows L2
section
variable {X : Cx} {CX : CXT} {E : XK} {k : Nat} {ps : List Str} {C : Addr} {o i : Expr} {pos : Pos} {fo fi : DTE}
end
end U
namespace U
open PySem PySem.Spec PyProof.Rows L2
end U
namespace U
open PySem PySem.Spec PyProof.Rows L2
/-- what can be shown, shortly -/
def Shs (x : Da) : Prop := ∃ p, Shw x p ∧ p.shown.length ≤ 1000
theorem shs_of {d : Da} {p : PyData} (a : PD d p) (h : (p.showable && (decide (p.shown.length ≤ 1000) && decide (p.depth ≤ 20))) = true) (c : p.hasDict = false ∨ d = .dct []) : Shs d :=
  ⟨p, shw_of a h c, of_decide_eq_true (Bool.and_eq_true_iff.mp (Bool.and_eq_true_iff.mp h).2).1⟩
theorem shs_int {i : Int} (h : i.natAbs < 10 ^ 40) : Shs (.int i) := by
  have h1 : i.natAbs.log2 < 1920 := by
    by_cases z : i.natAbs = 0
    · rw [z]; decide
    · exact (Nat.log2_lt z).2 (Nat.lt_of_lt_of_le h (by decide +kernel))
  refine ⟨_, shw_int h1, ?_⟩
  have e := int_text_length_le10 (k := 40) (by decide) h
  simp only [PyData.shown]
  rw [PySem.ofString_length]
  omega
theorem sub_put {M : Mm} {p : Addr} {o : MO} (h : M p = none) : Sub M (mput M p o) := fun a u e => by
  have : a ≠ p := fun z => by rw [z, h] at e; cases e
  rw [mput_ne this]; exact e
end U
set_option Elab.async false
set_option linter.all false
set_option maxRecDepth 100000
set_option maxHeartbeats 2000000
namespace U
open PySem PySem.Spec PyProof.Rows L2
section
variable {X : Cx} {k : Nat} {ps : List Str} {sp : DSp} {x : Str} {p pos : Pos} {e : Expr} {es : List Expr} {fs : DTA}
theorem pe_callS {CX : CXT} {E : XK} {f : Addr} {fd : FuncData} {sp : Sp} {ds : List Value} {dvs : List V} {t : TA} (F : FnOk X.prog X.w X.K X.mg X.base CX k f fd ps sp) (hr : Room k X.A) (hg : Gl X x) (hm : X.mg x = some (.ref f)) (hk : PySem.W.keepIn X.K (.ref f) = true) (hb : Binds X.K fd ps ds) (hd : Vals dvs ds) (hx : Passes CX X E)
    (ha : PA X (e :: es) t) (hdb : (x == ("__debug__" : Str)) = false := by decide) (he : starEach (e :: es) X.env = (false, eval e X.env) :: starEach es X.env := by rfl) (hst : (backTo pos (starEach es X.env)).any (·.1) = true := by rfl) :
    PE X (.Call (.Name x p) (e :: es) [] pos) (tCall sp dvs E t) := by
  refine ⟨fun pins s σ H Q I h => ?_⟩
  refine wpAny_Call_Name_kw (ld_glob I hg hm ?_ hdb)
  refine PySem.W.callWith_S2 (h₀ := X.base) I.ok.mod.kin hk (thn (ha.run pos pins s σ H _ I h) fun us s1 ⟨vs, H1, I1, r, q⟩ => ⟨I1.kIn, ?_⟩) he hst
  exact run_fn F hr hb hd hx I1 r q
theorem d_callS (D : KnD X.prog X.w X.K X.mg X.base x k ps sp) (hr : Room k X.A) (ha : DA X (e :: es) fs) (hg : Gl X x := by rfl) (hdb : (x == ("__debug__" : Str)) = false := by decide)
    (he : starEach (e :: es) X.env = (false, eval e X.env) :: starEach es X.env := by rfl) (hst : (backTo pos (starEach es X.env)).any (·.1) = true := by rfl) : DE X (.Call (.Name x p) (e :: es) [] pos) (gCall sp fs) := by
  obtain ⟨f, fd, F, m, kp, b⟩ := D.ex
  have hh : tCall (LSp X.K sp) [] E0 (Li (rA X.K) X.K fs) = fCall (LSp X.K sp) E0 (Li (rA X.K) X.K fs) := by
    funext σ H Q
    show (Li (rA X.K) X.K fs) σ H (fun vs H1 => LSp X.K sp (vs ++ []) H1 Q E0) = _
    simp only [List.append_nil]
    rfl
  have hp := pe_callS (E := E0) (p := p) F hr hg m kp b .nil pass0 ha hdb he hst
  rw [hh] at hp
  exact imp hp fun σ H Q ⟨δ, F, W, M, Qd, ev, s, h, kk⟩ => ⟨δ, F, W, M, _, ev, s, h, fun vs H1 W1 ds M1 g1 s1 r1 q1 => ⟨F, W1, M1, ds, Qd, X0, r1, s1, q1, kk.mono g1, fun _ _ _ _ _ _ _ _ _ z => z.elim⟩⟩
end
end U
set_option Elab.async false
set_option linter.all false
set_option maxRecDepth 100000
set_option maxHeartbeats 2000000
namespace U
open PySem PySem.Spec PyProof.Rows L2
/-- what is walked: a text, a list, a tuple -/
inductive Src where
  | txt (x : Str) | lst (a : Addr) | tup (a : Addr)
def Src.v : Src → V
  | .txt x => .str x
  | .lst a => .ref a
  | .tup a => .ref a
def Src.adr : Src → Option Addr
  | .txt _ => none
  | .lst a => some a
  | .tup a => some a
/-- its items in the heap -/
def Src.At (K : PySem.W.Frag) (H : Hp) : Src → List V → Prop
  | .txt x, vs => vs = x.cps.toList.map fun c => V.str ⟨#[c]⟩
  | .lst a, vs => SqL K H a vs
  | .tup a, vs => SqT K H a vs
/-- its iterator at its turn -/
def Src.It (h : Heap) (it i : Nat) : Src → Prop
  | .txt x => ∃ t, h.IsStrIter it (strIterType x) x t i
  | .lst a => h.IsListIter it a i
  | .tup a => h.IsTupleIter it a i
theorem Src.It.live {h : Heap} {it i : Nat} : ∀ {s : Src}, s.It h it i → ∃ o, h.get? it = some o ∧ ∀ v, o.data ≠ .cell v
  | .txt _, ⟨_, o, e, _, d⟩ => ⟨o, e, fun v q => by rw [d] at q; cases q⟩
  | .lst _, ⟨o, e, _, d⟩ => ⟨o, e, fun v q => by rw [d] at q; cases q⟩
  | .tup _, ⟨o, e, _, d⟩ => ⟨o, e, fun v q => by rw [d] at q; cases q⟩
theorem Src.It.keep {h h' : Heap} {it i : Nat} (k : ∀ o, h.get? it = some o → h'.get? it = some o) : ∀ {s : Src}, s.It h it i → s.It h' it i
  | .txt _, ⟨t, o, e, r⟩ => ⟨t, o, k o e, r⟩
  | .lst _, ⟨o, e, r⟩ => ⟨o, k o e, r⟩
  | .tup _, ⟨o, e, r⟩ => ⟨o, k o e, r⟩
section
variable {X : Cx} {pins : List (Addr × Obj)} {σ : L2.St} {H : Hp} {s : Shared}
theorem Src.inj (I : Inv X pins σ H s) : ∀ {r : Src} {xs ys : List V}, r.At X.K H xs → r.At X.K H ys → xs = ys
  | .txt _, _, _, h1, h2 => h1.trans h2.symm
  | .lst _, _, _, h1, h2 => I.list_inj h1 h2
  | .tup _, _, _, h1, h2 => I.tuple_inj h1 h2
theorem chr_get {x : Str} {i c : Nat} (h : x.cps[i]? = some c) : (x.cps.toList.map fun c => V.str ⟨#[c]⟩)[i]? = some (.str ⟨#[c]⟩) := by
  rw [List.getElem?_map, Array.getElem?_toList, h]; rfl
/-- as the library draws from it -/
theorem Src.draws (I : Inv X pins σ H s) (hh : X.A.handled = none) {it i : Nat} : ∀ {r : Src} {vs : List V}, r.At X.K H vs → r.It s.heap it i → (∀ b, r.adr = some b → b ≠ it) →
    ∃ (fp : List Addr) (Pd : Nat → Value → Prop) (St : Nat → Heap → Prop), Draws X.prog X.w X.A.in1 it (it :: fp) vs.length Pd St ∧ St i s.heap ∧ (∀ j u, Pd j u → ∃ x, vs[j]? = some x ∧ RelV x u) ∧ (∀ j h, St j h → r.It h it j) ∧ ∀ b ∈ fp, r.adr = some b
  | .txt x, vs, h1, ⟨t, h2⟩, h3 => by
    have h1 : vs = x.cps.toList.map fun c => V.str ⟨#[c]⟩ := h1
    have hl : vs.length = x.cps.size := by rw [h1, List.length_map, Array.length_toList]
    rw [hl]
    refine ⟨[], _, _, Draws.text (show X.A.in1.handled = none from hh) it x t, h2, ?_, fun j h q => ⟨t, q⟩, fun b hb => nomatch hb⟩
    rintro j u ⟨c, u', hc, rfl⟩
    exact ⟨.str ⟨#[c]⟩, by rw [h1]; exact chr_get hc, ⟨_, rfl⟩⟩
  | .lst a, vs, h1, h2, h3 => by
    obtain ⟨its, rv, p, _⟩ := I.list h1
    have hl := rv.length
    rw [show vs.length = its.toArray.size from by simpa using hl]
    refine ⟨[a], _, _, Draws.list (show X.A.in1.handled = none from hh) it a (h3 a rfl) its.toArray, ⟨h2, p.isList⟩, fun j u hu => ?_, fun j h q => q.1, fun b hb => by rw [List.mem_singleton.mp hb]; rfl⟩
    have hu : its[j]? = some u := by simpa using hu
    have hj : j < vs.length := by rw [hl]; exact (List.getElem?_eq_some_iff.mp hu).1
    obtain ⟨u2, e, r⟩ := rv.get (List.getElem?_eq_getElem hj)
    rw [hu] at e; cases e
    exact ⟨_, List.getElem?_eq_getElem hj, r⟩
  | .tup a, vs, h1, h2, h3 => by
    obtain ⟨its, rv, p, _⟩ := I.tuple h1
    have hl := rv.length
    rw [show vs.length = its.toArray.size from by simpa using hl]
    refine ⟨[a], _, _, Draws.tuple (show X.A.in1.handled = none from hh) it a (h3 a rfl) its.toArray, ⟨h2, p⟩, fun j u hu => ?_, fun j h q => q.1, fun b hb => by rw [List.mem_singleton.mp hb]; rfl⟩
    have hu : its[j]? = some u := by simpa using hu
    have hj : j < vs.length := by rw [hl]; exact (List.getElem?_eq_some_iff.mp hu).1
    obtain ⟨u2, e, r⟩ := rv.get (List.getElem?_eq_getElem hj)
    rw [hu] at e; cases e
    exact ⟨_, List.getElem?_eq_getElem hj, r⟩
/-- as the library begins it -/
theorem Src.begins (I : Inv X pins σ H s) : ∀ {r : Src} {vs : List V} {u : Value}, r.At X.K H vs → RelV r.v u →
    ∃ (o : Obj) (Hc : Heap → Prop), Begins u o Hc ∧ Hc s.heap ∧ (∀ h it, h.get? it = some o → r.It h it 0) ∧ ∀ b, r.adr = some b → b < s.heap.objs.size
  | .txt x, vs, u, h1, ⟨t, e⟩ => by
    subst e
    exact ⟨_, _, begins_text x t, trivial, fun h it e => ⟨t, _, e, rfl, rfl⟩, fun b hb => nomatch hb⟩
  | .lst a, vs, u, h1, h2 => by
    cases h2
    obtain ⟨its, rv, p, _⟩ := I.list h1
    exact ⟨_, _, begins_list a its.toArray, p.isList, fun h it e => ⟨_, e, rfl, rfl⟩, fun b hb => by cases hb; exact p.lt⟩
  | .tup a, vs, u, h1, h2 => by
    cases h2
    obtain ⟨its, rv, p, _⟩ := I.tuple h1
    obtain ⟨o, ho, r⟩ := id p
    exact ⟨_, _, begins_tuple a its.toArray, p, fun h it e => ⟨_, e, rfl, rfl⟩, fun b hb => by cases hb; exact Heap.lt_size ho⟩
end
def ItzS (K : PySem.W.Frag) (r1 r2 : Src) (n1 n2 : Nat) : It :=
  ⟨fun i H => (i < n1 ∧ i < n2) ∧ ∃ xs ys, r1.At K H xs ∧ r2.At K H ys ∧ xs.length = n1 ∧ ys.length = n2,
    fun i H v H' => ∃ T x y, v = .ref T ∧ H T = none ∧ (∃ o : Obj, o.dict = none ∧ H' = upd H T (.frz o (.tup [x, y]))) ∧ (∀ xs, r1.At K H xs → xs[i]? = some x) ∧ ∀ ys, r2.At K H ys → ys[i]? = some y,
    fun i H => (n1 ≤ i ∨ n2 ≤ i) ∧ ∃ xs ys, r1.At K H xs ∧ r2.At K H ys ∧ xs.length = n1 ∧ ys.length = n2⟩
theorem turn_zipS {P : Program} {w : World} {K : PySem.W.Frag} {elts : List Expr} {kk : Nat} {tpos : Pos} {N : Nat} {r1 r2 : Src} {n1 n2 : Nat} (a1 : ∀ b, r1.adr = some b → b < N) (a2 : ∀ b, r2.adr = some b → b < N) :
    Turn P w K (.Tuple elts kk tpos) (ItzS K r1 r2 n1 n2) [N + 4, N + 2, N + 3, N, N + 1] (N + 4) (fun i h => (IsZip h (N + 4) (N + 2) (N + 3) .none ∧ IsPair h (N + 2) (.ref N) (.ref (N + 1)) ∧ (∃ x y, IsPair h (N + 3) x y) ∧ r1.It h N i ∧ r2.It h (N + 1) i) ∧ i ≤ n1 ∧ i ≤ n2) where
  mem := by simp
  obj := fun i h st c hc => by
    obtain ⟨⟨hz, hTI, ⟨x, y, hTO⟩, h1, h2⟩, _⟩ := st
    obtain ⟨o1, e1, d1⟩ := h1.live
    obtain ⟨o2, e2, d2⟩ := h2.live
    have e' : c = N + 4 ∨ c = N + 2 ∨ c = N + 3 ∨ c = N ∨ c = N + 1 := by simpa using hc
    rcases e' with q | q | q | q | q
    · rw [q]; exact ⟨_, hz, fun v q => nomatch q⟩
    · rw [q]; exact ⟨_, hTI, fun v q => nomatch q⟩
    · rw [q]; exact ⟨_, hTO, fun v q => nomatch q⟩
    · rw [q]; exact ⟨o1, e1, d1⟩
    · rw [q]; exact ⟨o2, e2, d2⟩
  keep := fun i h h' st k => by
    obtain ⟨⟨hz, hTI, ⟨x, y, hTO⟩, h1, h2⟩, l⟩ := st
    exact ⟨⟨k _ (by simp) _ hz, k _ (by simp) _ hTI, ⟨x, y, k _ (by simp) _ hTO⟩, h1.keep fun o q => k _ (by simp) o q, h2.keep fun o q => k _ (by simp) o q⟩, l⟩
  item := by
    intro X hP hw hK hc i pins s σ H E I hf st hg
    subst hP hw hK
    obtain ⟨⟨hz, hTI, ⟨x0, y0, hTO⟩, h1, h2⟩, _⟩ := st
    obtain ⟨⟨l1, l2⟩, xs, ys, hx, hy, e1, e2⟩ := hg
    subst e1 e2
    obtain ⟨f1, P1, S1, D1, s1, r1', t1, b1⟩ := Src.draws I (I.ok.hd hc) hx h1 (fun b e => Nat.ne_of_lt (a1 b e))
    obtain ⟨f2, P2, S2, D2, s2, r2', t2, b2⟩ := Src.draws I (I.ok.hd hc) hy h2 (fun b e => Nat.ne_of_lt (Nat.lt_succ_of_lt (a2 b e)))
    have sep := zip_sep2 (N := N) (fp1 := f1) (fp2 := f2) (fun b hb => a1 b (b1 b hb)) (fun b hb => a2 b (b2 b hb))
    have hzl : N + 4 < s.heap.objs.size := Heap.lt_size hz
    refine wpAny_pyNext_zipD2_item sep D1 D2 hz hTI hTO s1 s2 l1 l2 fun u1 u2 h' tk p1 p2 z' TO' q1 q2 hT hsz hk => ?_
    obtain ⟨x, gx, ru⟩ := r1' _ _ p1
    obtain ⟨y, gy, ru2⟩ := r2' _ _ p2
    refine ⟨_, rfl, wpAny_letOwnedTupleGo_zip (s := { s with heap := h', toks := tk }) z' fun h'' z'' sb => ?_⟩
    have hT2 : h''.get? s.heap.objs.size = some { cls := .type "tuple", data := .seq #[u1, u2] } := (sb.2 _ (Nat.ne_of_gt hzl)).trans hT
    have new : ObjOk X.prog X.w (upd H s.heap.objs.size (.frz { cls := .type "tuple", data := .seq #[u1, u2] } (.tup [x, y]))) h'' s.heap.objs.size (.frz { cls := .type "tuple", data := .seq #[u1, u2] } (.tup [x, y])) :=
      ⟨hT2, by show 2 ≤ sizeLine; decide, [u1, u2], .cons ru (.cons ru2 .nil), ⟨_, hT2, rfl, _, rfl⟩⟩
    have I1 : Inv X pins σ (upd H s.heap.objs.size (.frz { cls := .type "tuple", data := .seq #[u1, u2] } (.tup [x, y]))) { s with heap := h'', toks := tk } :=
      I.turnedNew (t' := tk) (ch := [N + 4, N + 2, N + 3, N, N + 1]) (fun c o hb q => (sb.2 c (fun q' => hb (by simp [q']))).trans (hk c o (fun q' => hb (by simp [q'])) (fun q' => hb (by simp [q'])) (fun q' => hb (by simp [q'])) (fun q' => hb (by simp [q'])) q)) hf (Nat.le_refl _) new
    refine ⟨.ref s.heap.objs.size, _, I1, rfl, ⟨_, x, y, rfl, I.hok.fresh (Nat.le_refl _), ⟨_, rfl, rfl⟩, fun l hl => by rw [Src.inj I hl hx]; exact gx, fun l hl => by rw [Src.inj I hl hy]; exact gy⟩, ⟨⟨z'', ?_, ⟨u1, u2, ?_⟩, ?_, ?_⟩, l1, l2⟩, fun c hcm => ?_⟩
    · exact (sb.2 _ sep.TIz).trans (hk _ _ sep.TIz sep.TITO sep.TIi1 sep.TIi2 hTI)
    · exact (sb.2 _ sep.TOz).trans TO'
    · exact (t1 _ _ q1).keep fun o q => (sb.2 _ (Ne.symm sep.zi1)).trans q
    · exact (t2 _ _ q2).keep fun o q => (sb.2 _ (Ne.symm sep.zi2)).trans q
    · have hlt : c < s.heap.objs.size := by
        have e' : c = N + 4 ∨ c = N + 2 ∨ c = N + 3 ∨ c = N ∨ c = N + 1 := by simpa using hcm
        have hzl : (N + 4 : Nat) < s.heap.objs.size := hzl
        rcases e' with q | q | q | q | q
        · rw [q]; exact hzl
        · rw [q]; exact Nat.lt_of_le_of_lt (Nat.add_le_add_left (by decide) N) hzl
        · rw [q]; exact Nat.lt_of_le_of_lt (Nat.add_le_add_left (by decide) N) hzl
        · rw [q]; exact Nat.lt_of_le_of_lt (Nat.le_add_right _ _) hzl
        · rw [q]; exact Nat.lt_of_le_of_lt (Nat.add_le_add_left (by decide) N) hzl
      rw [upd_ne (Nat.ne_of_lt hlt)]
      exact (hf c hcm).1
  done := by
    intro X hP hw hK hc i pins s σ H E I hf st hg
    subst hP hw hK
    obtain ⟨⟨hz, hTI, ⟨x0, y0, hTO⟩, h1, h2⟩, m1, m2⟩ := st
    obtain ⟨hend, xs, ys, hx, hy, e1, e2⟩ := hg
    subst e1 e2
    obtain ⟨f1, P1, S1, D1, s1, r1', t1, b1⟩ := Src.draws I (I.ok.hd hc) hx h1 (fun b e => Nat.ne_of_lt (a1 b e))
    obtain ⟨f2, P2, S2, D2, s2, r2', t2, b2⟩ := Src.draws I (I.ok.hd hc) hy h2 (fun b e => Nat.ne_of_lt (Nat.lt_succ_of_lt (a2 b e)))
    have sep := zip_sep2 (N := N) (fp1 := f1) (fp2 := f2) (fun b hb => a1 b (b1 b hb)) (fun b hb => a2 b (b2 b hb))
    exact wpAny_pyNext_zipD2_end sep D1 D2 hz hTI hTO s1 s2 m1 m2 (by omega) fun h' tk hk => ⟨rfl, I.turnedL (t' := tk) (ch := [N + 4, N + 2, N + 3, N, N + 1]) (fun c o hb q =>
      hk c o (fun q' => hb (by simp [q'])) (fun q' => hb (by simp [q'])) (fun q' => hb (by simp [q'])) (fun q' => hb (by simp [q'])) q) hf⟩
  self := fun A i s Q E st h => wpAny_pyIter_zip st.1.1 h
def iZipS (K : PySem.W.Frag) (ta : TA) : L2.TI := fun σ H R => ta σ H fun vs H1 => ∃ (r1 r2 : Src) (xs ys : List V), vs = [r1.v, r2.v] ∧ r1.At K H1 xs ∧ r2.At K H1 ys ∧ R (ItzS K r1 r2 xs.length ys.length) H1
theorem pi_zipS {X : Cx} {e e2 : Expr} {ta : TA} {p pos tpos : Pos} {elts : List Expr} {kk : Nat} (hg : Gl X "zip") (hm : X.mg "zip" = none) (ha : PA X [e, e2] ta)
    (hs : starEach [e, e2] X.env = (false, eval e X.env) :: starEach [e2] X.env := by rfl) (hpl : (backTo pos (starEach [e2] X.env)).any (·.1) = false := by rfl) :
    PI X (.Tuple elts kk tpos) (.Call (.Name "zip" p) [e, e2] [] pos) (iZipS X.K ta) := by
  refine ⟨fun pins s σ H R I h => ?_⟩
  refine Call_ (ld_blt I hg hm PyProof.Rows.boot_zip (PyProof.Rows.callWith_type1 (thn (ha.run pos pins s σ H _ I h) fun us s1 ⟨vs, H1, I1, r1, q1⟩ => ?_) hs hpl))
  obtain ⟨s1', s2', xs, ys, ex, hx, hy, q⟩ := q1
  subst ex
  cases r1 with
  | cons r rr =>
    cases rr with
    | cons r' rr =>
      cases rr
      have fresh5 : ∀ c, c ∈ [s1.heap.objs.size + 4, s1.heap.objs.size + 2, s1.heap.objs.size + 3, s1.heap.objs.size, s1.heap.objs.size + 1] → FpOk X pins H1 c := fun c hcm => by
        have e' : c = s1.heap.objs.size + 4 ∨ c = s1.heap.objs.size + 2 ∨ c = s1.heap.objs.size + 3 ∨ c = s1.heap.objs.size ∨ c = s1.heap.objs.size + 1 := by simpa using hcm
        have hle : s1.heap.objs.size ≤ c := by
          rcases e' with z | z | z | z | z
          · rw [z]; exact Nat.le_add_right _ _
          · rw [z]; exact Nat.le_add_right _ _
          · rw [z]; exact Nat.le_add_right _ _
          · rw [z]; exact Nat.le_refl _
          · rw [z]; exact Nat.le_add_right _ _
        exact I1.fpOk hle (I1.hok.fresh hle)
      obtain ⟨o1, H1c, B1, c1, g1, b1⟩ := Src.begins I1 hx r
      obtain ⟨o2, H2c, B2, c2, g2, b2⟩ := Src.begins I1 hy r'
      refine zip_begins2 B1 B2 c1 c2 fun h' hz hTI hTO e1 e2 hsz hk => wpAny_pyIter_zip hz ?_
      have I2 : Inv X pins σ H1 { s1 with heap := h' } := I1.kept (t' := s1.toks) hk
      exact ⟨s1.heap.objs.size + 4, [s1.heap.objs.size + 4, s1.heap.objs.size + 2, s1.heap.objs.size + 3, s1.heap.objs.size, s1.heap.objs.size + 1], _, _, H1, rfl, I2, turn_zipS b1 b2, ⟨⟨hz, hTI, ⟨_, _, hTO⟩, g1 _ _ e1, g2 _ _ e2⟩, Nat.zero_le _, Nat.zero_le _⟩, fresh5, q⟩
def IteS (K : PySem.W.Frag) (r : Src) (n : Nat) : It :=
  ⟨fun i H => i < n ∧ ∃ xs, r.At K H xs ∧ xs.length = n,
    fun i H v H' => ∃ T x, v = .ref T ∧ H T = none ∧ (∃ o : Obj, o.dict = none ∧ H' = upd H T (.frz o (.tup [.int (i : Nat), x]))) ∧ ∀ xs, r.At K H xs → xs[i]? = some x,
    fun i H => n ≤ i ∧ ∃ xs, r.At K H xs ∧ xs.length = n⟩
theorem turn_enumS {P : Program} {w : World} {K : PySem.W.Frag} {elts : List Expr} {kk : Nat} {tpos : Pos} {N : Nat} {r : Src} {n : Nat} (a1 : ∀ b, r.adr = some b → b < N) :
    Turn P w K (.Tuple elts kk tpos) (IteS K r n) [N + 1, N] (N + 1) (fun i h => ((∃ old, IsEnum h (N + 1) N ((i : Nat) : Int) old) ∧ r.It h N i) ∧ i ≤ n) where
  mem := by simp
  obj := fun i h st b hb => by
    obtain ⟨⟨⟨old, he⟩, h1⟩, _⟩ := st
    obtain ⟨o1, e1, d1⟩ := h1.live
    have e' : b = N + 1 ∨ b = N := by simpa using hb
    rcases e' with z | z
    · rw [z]; exact ⟨_, he, fun v q => nomatch q⟩
    · rw [z]; exact ⟨o1, e1, d1⟩
  keep := fun i h h' st k => let ⟨⟨⟨old, he⟩, hi⟩, l⟩ := st; ⟨⟨⟨old, k _ (by simp) _ he⟩, hi.keep fun o q => k _ (by simp) o q⟩, l⟩
  item := by
    intro X hP hw hK hc i pins s σ H E I hf st hg
    subst hP hw hK
    obtain ⟨⟨⟨old, he⟩, h1⟩, _⟩ := st
    obtain ⟨l1, xs, hx, e1⟩ := hg
    subst e1
    obtain ⟨f1, P1, S1, D1, s1, r1', t1, b1⟩ := Src.draws I (I.ok.hd hc) hx h1 (fun b e => Nat.ne_of_lt (a1 b e))
    have hel : N + 1 < s.heap.objs.size := Heap.lt_size he
    have hne : (N + 1 : Nat) ≠ N := Nat.succ_ne_self _
    have hef : (N + 1 : Nat) ∉ N :: f1 := fun hm => by
      rcases List.mem_cons.mp hm with e | e
      · exact hne e
      · exact absurd (a1 _ (b1 _ e)) (Nat.not_lt.mpr (Nat.le_succ _))
    refine wpAny_pyNext_enum_itemD D1 he s1 l1 hne hef fun u h' tk p1 ho q1 hT hsz hk => ?_
    obtain ⟨x, gx, ru⟩ := r1' _ _ p1
    refine ⟨_, rfl, wpAny_letOwnedTupleGo_enum (s := { s with heap := h', toks := tk + 1 }) ho fun h'' he' sb => ?_⟩
    have hT2 : h''.get? s.heap.objs.size = some { cls := .type "tuple", data := .seq #[.int i tk, u] } := (sb.2 _ (Nat.ne_of_gt hel)).trans hT
    have new : ObjOk X.prog X.w (upd H s.heap.objs.size (.frz { cls := .type "tuple", data := .seq #[.int i tk, u] } (.tup [.int (i : Nat), x]))) h'' s.heap.objs.size (.frz { cls := .type "tuple", data := .seq #[.int i tk, u] } (.tup [.int (i : Nat), x])) :=
      ⟨hT2, by show 2 ≤ sizeLine; decide, [.int i tk, u], .cons ⟨_, rfl⟩ (.cons ru .nil), ⟨_, hT2, rfl, _, rfl⟩⟩
    have I1 : Inv X pins σ (upd H s.heap.objs.size (.frz { cls := .type "tuple", data := .seq #[.int i tk, u] } (.tup [.int (i : Nat), x]))) { s with heap := h'', toks := tk + 1 } :=
      I.turnedNew (ch := [N + 1, N]) (fun b ob hb q => (sb.2 b (fun z => hb (by simp [z]))).trans (hk b ob (fun z => hb (by simp [z])) (fun z => hb (by simp [z])) q)) hf (Nat.le_refl _) new
    refine ⟨.ref s.heap.objs.size, _, I1, rfl, ⟨_, x, rfl, I.hok.fresh (Nat.le_refl _), ⟨_, rfl, rfl⟩, fun ys hy => by rw [Src.inj I hy hx]; exact gx⟩, ⟨⟨⟨u, ?_⟩, (t1 _ _ q1).keep fun o q => (sb.2 _ (Ne.symm hne)).trans q⟩, l1⟩, fun b hb => ?_⟩
    · have e1 : ((i + 1 : Nat) : Int) = (i : Int) + 1 := by omega
      rw [e1]; exact he'
    · have hb' : b < s.heap.objs.size := by
        have e' : b = N + 1 ∨ b = N := by simpa using hb
        rcases e' with z | z
        · rw [z]; exact hel
        · rw [z]; exact Nat.lt_of_succ_lt hel
      rw [upd_ne (Nat.ne_of_lt hb')]
      exact (hf b hb).1
  done := by
    intro X hP hw hK hc i pins s σ H E I hf st hg
    subst hP hw hK
    obtain ⟨⟨⟨old, he⟩, h1⟩, m1⟩ := st
    obtain ⟨hend, xs, hx, e1⟩ := hg
    subst e1
    obtain rfl : i = xs.length := by omega
    obtain ⟨f1, P1, S1, D1, s1, r1', t1, b1⟩ := Src.draws I (I.ok.hd hc) hx h1 (fun b e => Nat.ne_of_lt (a1 b e))
    obtain ⟨q0, q1, q2, q3, q4, q5⟩ := hf N (by simp)
    exact wpAny_pyNext_enum_endD D1 he s1 fun h' eb => ⟨rfl, I.turned (t' := s.toks) (fun b o hb q => eb b o hb q) q0 q1 q3 q4 q5⟩
  self := fun A i s Q E st h => let ⟨⟨⟨_, he⟩, _⟩, _⟩ := st; wpAny_pyIter_enum he h
def iEnumS (K : PySem.W.Frag) (ta : TA) : L2.TI := fun σ H R => ta σ H fun vs H1 => ∃ (r : Src) (xs : List V), vs = [r.v] ∧ r.At K H1 xs ∧ R (IteS K r xs.length) H1
theorem meets_enumB1 {v : Value} {o : Obj} {Hc : Heap → Prop} (B : Begins v o Hc) :
    Meets (Builtin.«enumerate.__new__» ⟨[.type "enumerate", v], []⟩) (fun _ R s => Hc s.heap ∧
      R (.ok (.ret (.ref (s.heap.push o).objs.size))) { s with heap := (s.heap.push o).push { cls := .type "enumerate", data := .fields #[.none, .bool false, .ref s.heap.objs.size, rawInt 0, .none, .none] } }) :=
  .of_wp fun prog w A R s h => by
    obtain ⟨hp, g, d, tk, os⟩ := s; obtain ⟨h1, h⟩ := h
    have hsub := sub_enumerate
    have q1 : ∀ {A' : Around} {E : Value → Shared → Prop} {Q : Value → Shared → Prop}, Q (.ref hp.objs.size) ⟨hp.push o, g, d, tk, os⟩ → wpAny (model prog w) A' (pyIter v) Q E ⟨hp, g, d, tk, os⟩ :=
      fun q => B.iter prog w _ _ ⟨hp, g, d, tk, os⟩ _ h1 q
    wp_walk using q1
    refine wpAny_stack_any fun st => wpAny_pure ?_
    split
    · rename_i c _ _ _ _ _
      cases (c == Value.type "enumerate")
      · wp_walk using q1
        exact ⟨_, rfl, h⟩
      · wp_walk using q1
        exact ⟨_, rfl, h⟩
    · wp_walk using q1
      exact ⟨_, rfl, h⟩
theorem enum_begins1 {prog : Program} {w : World} {A : Around} {E : Value → Shared → Prop} {s : Shared} {v : Value} {o : Obj} {Hc : Heap → Prop} {Q : Value → Shared → Prop} (B : Begins v o Hc) (h1 : Hc s.heap)
    (h : ∀ h', IsEnum h' (s.heap.objs.size + 1) s.heap.objs.size 0 .none → h'.get? s.heap.objs.size = some o → h'.objs.size = s.heap.objs.size + 2 →
      (∀ b o, s.heap.get? b = some o → h'.get? b = some o) → Q (.ref (s.heap.objs.size + 1)) { s with heap := h' }) :
    wpAny (model prog w) A (PySem.call (.type "enumerate") [v]) Q E s := by
  refine callType_new F.called_enumerate (by decide) (F.typeCall_enumerate_1 _) (F.newCall_enumerate_1 _) (fun obj => F.args_object_init_2 obj _) F.entry_enumerate_new
    (meets_enumB1 B) ⟨h1, ?_⟩
  have hz : (s.heap.push o).objs.size = s.heap.objs.size + 1 := Heap.size_push ..
  show _ ∧ _
  rw [hz]
  have he : IsEnum ((s.heap.push o).push { cls := .type "enumerate", data := .fields #[.none, .bool false, .ref s.heap.objs.size, rawInt 0, .none, .none] }) (s.heap.objs.size + 1) s.heap.objs.size 0 .none := by
    have := Heap.get?_push_size (s.heap.push o) (o := { cls := .type "enumerate", data := .fields #[.none, .bool false, .ref s.heap.objs.size, rawInt 0, .none, .none] }) rfl
    rw [hz] at this; exact this
  exact ⟨⟨_, he, rfl⟩, h _ he (Heap.get?_push_of_some _ (Heap.get?_push_size _ B.free)) (by rw [Heap.size_push, hz]) fun b o x => Heap.get?_push_of_some _ (Heap.get?_push_of_some _ x)⟩
theorem pi_enumS {X : Cx} {e : Expr} {ta : TA} {p pos tpos : Pos} {elts : List Expr} {kk : Nat} (hg : Gl X "enumerate") (hm : X.mg "enumerate" = none) (ha : PA X [e] ta) (hs : starEach [e] X.env = [(false, eval e X.env)] := by rfl) :
    PI X (.Tuple elts kk tpos) (.Call (.Name "enumerate" p) [e] [] pos) (iEnumS X.K ta) := by
  refine ⟨fun pins s σ H R I h => ?_⟩
  refine Call_ (ld_blt I hg hm boot_enumerate (PyProof.Rows.callWith_type1 (thn (ha.run pos pins s σ H _ I h) fun us s1 ⟨vs, H1, I1, r1, q1⟩ => ?_) hs rfl))
  obtain ⟨r, xs, ex, hx, q⟩ := q1
  subst ex
  cases r1 with
  | cons rv rr =>
    cases rr
    obtain ⟨o1, H1c, B1, c1, g1, b1⟩ := Src.begins I1 hx rv
    refine enum_begins1 B1 c1 fun h' he hit hsz hk => wpAny_pyIter_enum he ?_
    have I2 : Inv X pins σ H1 { s1 with heap := h' } := I1.kept (t' := s1.toks) hk
    refine ⟨s1.heap.objs.size + 1, [s1.heap.objs.size + 1, s1.heap.objs.size], _, _, H1, rfl, I2, turn_enumS b1, ⟨⟨⟨.none, he⟩, g1 _ _ hit⟩, Nat.zero_le _⟩, fun b hb => ?_, q⟩
    have e' : b = s1.heap.objs.size + 1 ∨ b = s1.heap.objs.size := by simpa using hb
    have hle : s1.heap.objs.size ≤ b := by
      rcases e' with z | z
      · rw [z]; exact Nat.le_add_right _ _
      · rw [z]; exact Nat.le_refl _
    exact I1.fpOk hle (I1.hok.fresh hle)
def Src.D (K : PySem.W.Frag) (W : Addr → Prop) (H : Hp) : Src → List Da → Prop
  | .txt x, ds => ds = chrD x
  | .lst a, ds => ∃ vs, Sl K W H a vs ∧ RDs K W H vs ds
  | .tup a, ds => ∃ vs, Sp' K W H a vs ∧ RDs K W H vs ds
theorem Src.D.mono {K : PySem.W.Frag} {F W W' : Addr → Prop} {H H' : Hp} (g : Grow F W H W' H') {ds : List Da} : ∀ {r : Src}, r.D K W H ds → r.D K W' H' ds
  | .txt _, h => h
  | .lst _, ⟨vs, h, k⟩ => ⟨vs, h.mono g, k.mono g⟩
  | .tup _, ⟨vs, h, k⟩ => ⟨vs, h.mono g, k.mono g⟩
theorem chrs_rd {K : PySem.W.Frag} {W : Addr → Prop} {H : Hp} : ∀ l : List Nat, RDs K W H (l.map fun c => V.str ⟨#[c]⟩) (l.map fun c => Da.str ⟨#[c]⟩)
  | [] => .nil
  | _ :: l => .cons (.str _) (chrs_rd l)
theorem Src.D.at {K : PySem.W.Frag} {W : Addr → Prop} {H : Hp} {ds : List Da} : ∀ {r : Src}, r.D K W H ds → ∃ vs, r.At K H vs ∧ RDs K W H vs ds
  | .txt x, h => by
    have h : ds = chrD x := h
    subst h
    exact ⟨_, rfl, chrs_rd _⟩
  | .lst _, ⟨vs, h, k⟩ => ⟨vs, h.sq, k⟩
  | .tup _, ⟨vs, h, k⟩ => ⟨vs, h.sq, k⟩
theorem grow_frz {K : PySem.W.Frag} {F W : Addr → Prop} {M : Mm} {H : Hp} {T : Addr} {o : Obj} {vs : List V} {ds : List Da} (s : Stt K F W M H) (h : H T = none) (ho : o.dict = none) (r : RDs K W H vs ds) :
    ∃ W', Grow F W H W' (upd H T (.frz o (.tup vs))) ∧ Stt K F W' M (upd H T (.frz o (.tup vs))) ∧ RD K W' (upd H T (.frz o (.tup vs))) (.ref T) (.tup ds) := by
  obtain ⟨s', g⟩ := s.new h (.frz o (.tup vs)) ho
  exact ⟨_, g, s', .tup (.inl ⟨.inl rfl, .inr ⟨o, upd_same⟩⟩) (r.mono g)⟩
theorem it_zipS {K : PySem.W.Frag} {W : Addr → Prop} {H : Hp} {r1 r2 : Src} {ds es : List Da} (h1 : r1.D K W H ds) (h2 : r2.D K W H es) : ItR K W H (ItzS K r1 r2 ds.length es.length) (zipD ds es) := fun F' W' H' M' g s => by
  obtain ⟨vs, a1, k1⟩ := (h1.mono g).at
  obtain ⟨us, a2, k2⟩ := (h2.mono g).at
  refine ⟨fun i d hd => ?_, fun i hi => ?_⟩
  · obtain ⟨x, y, hx, hy, rfl⟩ := zipD_get hd
    obtain ⟨v, hv, rv⟩ := k1.get hx
    obtain ⟨u, hu, ru⟩ := k2.get hy
    refine ⟨⟨⟨(List.getElem?_eq_some_iff.mp hx).1, (List.getElem?_eq_some_iff.mp hy).1⟩, vs, us, a1, a2, k1.length, k2.length⟩, fun z H'' yl => ?_⟩
    obtain ⟨T, x', y', rfl, hT, ⟨o, ho, rfl⟩, f1, f2⟩ := yl
    have e1 := f1 _ a1
    have e2 := f2 _ a2
    rw [hv] at e1
    rw [hu] at e2
    cases e1
    cases e2
    exact grow_frz s hT ho (.cons rv (.cons ru .nil))
  · rw [zipD_length] at hi
    exact ⟨by omega, vs, us, a1, a2, k1.length, k2.length⟩
theorem it_enumS {K : PySem.W.Frag} {W : Addr → Prop} {H : Hp} {r : Src} {ds : List Da} (h1 : r.D K W H ds) : ItR K W H (IteS K r ds.length) (enumD 0 ds) := fun F' W' H' M' g s => by
  obtain ⟨vs, a1, k1⟩ := (h1.mono g).at
  refine ⟨fun i d hd => ?_, fun i hi => ?_⟩
  · obtain ⟨x, hx, rfl⟩ := enumD_get hd
    obtain ⟨v, hv, rv⟩ := k1.get hx
    refine ⟨⟨(List.getElem?_eq_some_iff.mp hx).1, vs, a1, k1.length⟩, fun z H'' yl => ?_⟩
    obtain ⟨T, x', rfl, hT, ⟨o, ho, rfl⟩, f1⟩ := yl
    have e1 := f1 _ a1
    rw [hv] at e1
    cases e1
    rw [Nat.zero_add]
    exact grow_frz s hT ho (.cons (.int _) (.cons rv .nil))
  · rw [enumD_length] at hi
    exact ⟨hi, vs, a1, k1.length⟩
/-- a row, settled -/
def rowK (x : Da) (M : Mm) (Q : List Da → Mm → Prop) : Prop := match x with
  | .lst ds => Q ds M
  | .tup ds => Q ds M
  | .str z => Q (chrD z) M
  | .ref p => ∃ ds, M p = some (.lst ds) ∧ Q ds (mdel M p)
  | _ => False
theorem row_src {K : PySem.W.Frag} {F W : Addr → Prop} {M : Mm} {H : Hp} {v : V} {x : Da} {Q : List Da → Mm → Prop} (s : Stt K F W M H) (r : RD K W H v x) (h : rowK x M Q) :
    ∃ (W' : Addr → Prop) (M' : Mm) (rs : Src) (ds : List Da), v = rs.v ∧ Grow F W H W' H ∧ Stt K F W' M' H ∧ rs.D K W' H ds ∧ Q ds M' := by
  cases r with
  | lst hs rv => exact ⟨W, M, .lst _, _, rfl, .refl, s, ⟨_, hs, rv⟩, h⟩
  | tup hs rv => exact ⟨W, M, .tup _, _, rfl, .refl, s, ⟨_, hs, rv⟩, h⟩
  | str z => exact ⟨W, M, .txt _, _, rfl, .refl, s, rfl, h⟩
  | ref p =>
    obtain ⟨ds, hm, q⟩ := h
    obtain ⟨s2, g2⟩ := s.settle hm
    obtain ⟨vs, hv, rv⟩ := s.list hm
    exact ⟨_, _, .lst _, _, rfl, g2, s2, ⟨_, .inl ⟨.inl rfl, .inl hv⟩, rv.mono g2⟩, q⟩
  | _ => exact h.elim
section
variable {X : Cx} {a b : Expr} {es : List Expr} {fs : DTA} {pos p tpos : Pos} {elts : List Expr} {kk : Nat}
def gZip (fs : DTA) : DTI := fun δ M Q => fs δ M fun ds M1 => match ds with
  | [x, y] => rowK x M1 fun xs M2 => rowK y M2 fun ys M3 => Q (zipD xs ys) M3
  | _ => False
theorem d_zip (hm : X.mg "zip" = none) (ha : DA X [a, b] fs) (hg : Gl X "zip" := by rfl) (hs : starEach [a, b] X.env = (false, eval a X.env) :: starEach [b] X.env := by rfl) (hpl : (backTo pos (starEach [b] X.env)).any (·.1) = false := by rfl) :
    DI X (.Tuple elts kk tpos) (.Call (.Name "zip" p) [a, b] [] pos) (gZip fs) :=
  pi_imp (pi_zipS hg hm ha hs hpl) fun σ H R ⟨δ, F, W, M, Qd, ev, s, h, k⟩ => ⟨δ, F, W, M, _, ev, s, h, fun vs H1 W1 ds M1 g1 s1 r1 q1 => by
    split at q1
    · obtain ⟨v, u, rfl, r, r'⟩ := r1.two
      obtain ⟨W2, M2, r1', xs, e1, g2, s2, d1, q2⟩ := row_src s1 r q1
      obtain ⟨W3, M3, r2', ys, e2, g3, s3, d2, q3⟩ := row_src s2 (r'.mono g2) q2
      obtain ⟨vs1, at1, k1⟩ := (d1.mono g3).at
      obtain ⟨vs2, at2, k2⟩ := d2.at
      refine ⟨r1', r2', vs1, vs2, by rw [e1, e2], at1, at2, ?_⟩
      rw [k1.length, k2.length]
      exact k _ _ W3 M3 _ (g1.trans (g2.trans g3)) s3 (it_zipS (d1.mono g3) d2) q3
    · exact q1.elim⟩
def gEnum (fs : DTA) : DTI := fun δ M Q => fs δ M fun ds M1 => match ds with
  | [x] => rowK x M1 fun xs M2 => Q (enumD 0 xs) M2
  | _ => False
theorem d_enum (hm : X.mg "enumerate" = none) (ha : DA X [a] fs) (hg : Gl X "enumerate" := by rfl) (hs : starEach [a] X.env = [(false, eval a X.env)] := by rfl) :
    DI X (.Tuple elts kk tpos) (.Call (.Name "enumerate" p) [a] [] pos) (gEnum fs) :=
  pi_imp (pi_enumS hg hm ha hs) fun σ H R ⟨δ, F, W, M, Qd, ev, s, h, k⟩ => ⟨δ, F, W, M, _, ev, s, h, fun vs H1 W1 ds M1 g1 s1 r1 q1 => by
    split at q1
    · obtain ⟨v, rfl, r⟩ := r1.one
      obtain ⟨W2, M2, r1', xs, e1, g2, s2, d1, q2⟩ := row_src s1 r q1
      obtain ⟨vs1, at1, k1⟩ := d1.at
      refine ⟨r1', vs1, by rw [e1], at1, ?_⟩
      rw [k1.length]
      exact k _ _ W2 M2 _ (g1.trans g2) s2 (it_enumS d1) q2
    · exact q1.elim⟩
end
end U
set_option Elab.async false
set_option linter.all false
set_option maxRecDepth 100000
set_option maxHeartbeats 2000000
namespace U
open PySem PySem.Spec PyProof.Rows L2
theorem set_self {α : Type} : ∀ {l : List α} {i : Nat} {x : α}, l[i]? = some x → l.set i x = l
  | [], _, _, h => by simp at h
  | y :: l, 0, x, h => by simp at h; subst h; rfl
  | y :: l, i + 1, x, h => by
    rw [List.set_cons_succ, set_self (by simpa using h)]
theorem EnvR.again {K : PySem.W.Frag} {W : Addr → Prop} {H : Hp} {δ : De} {σ : L2.St} {i : Nat} {v : V} {d : Da} (e : EnvR K W H δ σ) (h : σ[i]? = some (some v)) (r : RD K W H v d) : EnvR K W H (δ.set i (some d)) σ := by
  have := EnvR.set r i e
  rwa [set_self h] at this
section
variable {X : Cx} {st : Stmt} {t : DTS}
end
end U
set_option Elab.async false
set_option linter.all false
set_option maxRecDepth 100000
set_option maxHeartbeats 2000000
namespace U
open PySem PySem.Spec PyProof.Rows L2
section
variable {X : Cx} {C : Addr} {f : Str} {pos tpos : Pos} {o value : Expr} {ta tv : TE} {fa fv : DTE}
end
end U
set_option Elab.async false
set_option linter.all false
set_option maxRecDepth 100000
set_option maxHeartbeats 2000000
namespace U
open PySem PySem.Spec PyProof.Rows L2
section
variable {X : Cx}
def kMaxL : DC := fun xs M Q => match xs with
  | [.lst ds] => ∃ ns, asInts ds = some ns ∧ 0 < ns.length ∧ ∀ m, m ∈ ns → (∀ y, y ∈ ns → y ≤ m) → Q (.int m) M
  | _ => False
theorem c_dmaxL (hc : X.calm = true) : CD X (.builtin "max") kMaxL := cd_imp fun vs H Q ⟨F, W, M, ds, Qd, r, s, h, k⟩ => by
  refine ⟨_, cr_max hc, ?_⟩
  unfold kMaxL at h
  split at h
  · obtain ⟨v, rfl, r1⟩ := r.one
    obtain ⟨bs, hb, hl, q⟩ := h
    cases r1 with
    | lst hs rv => rw [asInts_of hb] at rv; rw [rv.ints] at hs; exact ⟨_, bs, rfl, hs.sq, hl, fun m hm hle => k.now s (.int _) (q m hm hle)⟩
  · exact h.elim
end
section
variable {X : Cx} {e : Expr} {f : DTE}
end
end U
set_option Elab.async false
set_option linter.all false
set_option maxRecDepth 100000
set_option maxHeartbeats 4000000
namespace PySem.W
open PySem PySem.Spec PySem.Calls PyProof.Rows
section
variable {prog : Program} {w : World} {A : Around} {E : Value → Shared → Prop} {s : Shared} {K : Frag} {x D : Addr} {ox : Obj} {od : Option Obj}
end
end PySem.W
namespace U
open PySem PySem.Spec PyProof.Rows L2
section
variable {X : Cx}
end
end U
namespace U
open PySem PySem.Spec PyProof.Rows L2
theorem Inv.at_ {X : Cx} {pins : List (Addr × Obj)} {σ : List (Option V)} {H : Hp} {s s' : Shared} (I : L2.Inv X pins σ H s) (h : s'.heap = s.heap) (o : s'.os = s.os) (b : AllBare s'.gens) : L2.Inv X pins σ H s' :=
  { ok := I.ok, os := o.trans I.os, bare := b, base := by rw [h]; exact I.base, loc := by rw [h]; exact I.loc, cell := by rw [h]; exact I.cell, free := I.free, freeC := I.freeC, pin := by rw [h]; exact I.pin, hok := by rw [h]; exact I.hok, len := I.len }
section
variable {X : Cx}
variable {B newId initId : String} {tl : List Value} {C fI : Addr} {k : Nat} {fd : FuncData} {x f : Str} {e : Expr} {fe : DTE} {p pos : Pos}
end
end U
namespace U
open PySem PySem.Spec PyProof.Rows L2
section
variable {X : Cx}
end
end U
set_option Elab.async false
set_option linter.all false
set_option maxRecDepth 100000
set_option maxHeartbeats 2000000
namespace U
open PySem PySem.Spec PyProof.Rows L2
section
variable {X : Cx} {e : Expr} {es : List Expr} {ta : TA} {p1 p2 pos : Pos} {D : Addr} {mc : Value}
variable {C fI : Addr} {k : Nat} {fd : FuncData} {x f : Str} {fe : DTE} {p : Pos}
end
end U
namespace U
open PySem PySem.Spec PyProof.Rows L2
/-- what the text must say of an error class over a class of the text over ValueError -/
structure XErrW (K : PySem.W.Frag) (x : Str) (C : Addr) (qual : Str) (st : Stmt) (f : Str) (D : Addr) : Prop where
  at_ : PySem.W.nsIn K mainGlobals x = some (some (.ref C))
  T : OexC K C
  meth : ∃ fI fd, Fun K "__init__" qual st fI fd ∧ PySem.W.findIn K (.ref C) "__init__" = some (some (.ref fI)) ∧ PySem.W.typeIn K (.ref fI) = some (.type "function")
  no : PySem.W.findIn K (.ref C) f = some none
  rd : PySem.W.readsIn K D (.type "type") = true
  rg : PySem.W.specialIn K (.ref D) "__getattribute__" = some (some (.builtin "type.__getattribute__"))
  vV : PySem.W.findCls K (.ref D) (.type "type") "__init__" = some (.val (.builtin "ValueError.__init__"))
  xf : XfC K C
/-- an own error class, its __init__ walked -/
structure KnErrW (P : Program) (w : World) (K : PySem.W.Frag) (mg : Str → Option Value) (base : Heap) (x : Str) (C : Addr) (f : Str) (k : Nat) : Prop where
  ex : ∃ (fI : Addr) (fd : FuncData), OexC K C ∧ PySem.W.findIn K (.ref C) "__init__" = some (some (.ref fI)) ∧ PySem.W.typeIn K (.ref fI) = some (.type "function") ∧
    FnOk P w K mg base CX0 k fI fd ["self", f] (spErr C f) ∧ Binds K fd ["self", f] [] ∧ mg x = some (.ref C)
theorem KnErrW.of {P : Program} {w : World} {K : PySem.W.Frag} {mg : Str → Option Value} {base : Heap} {x : Str} {C D : Addr} {qual : Str} {st : Stmt} {f : Str} {N : List Str} (F : XErrW K x C qual st f D) (M : MgOf K mg)
    (S : FnScope N ["self", f] (defScope st))
    (hb : ∀ (kV doc pm : Value) (an : Option Addr) (cdv ct : Value) (us : List Value), us.length = (["self", f] : List Str).length → bindArgs (PySem.W.fnOf "__init__" qual (defArgs st) (defBody st) (defScope st) .none kV doc pm an cdv ct) ⟨us, []⟩ = pure ((["self", f] : List Str).zip us))
    (hbody : ∀ (fI : Addr) (cdv : Value) (A : Around) (outer : List Env) (s : Shared) (H : Hp) (E : XK), ∃ t, PSs (cxOf CX0 P w K mg base N qual (defScope st) fI cdv A outer s H E).nox (defBody st) t ∧
      ∀ (a : Addr) (v : V) (Q : VK), H a = some (exo a C none) → (∀ dx, H dx = none → dx ≠ a → Q .non (upd (upd H dx (exd dx [(f, v)])) a (exo a C (some dx)))) → t { nx := fun _ H' => Q .non H', rt := Q } (start N [.ref a, v]) H) : KnErrW P w K mg base x C f 1 := by
  obtain ⟨fI, fd, G, iC, tI⟩ := F.meth
  refine ⟨fI, fd, F.T, iC, tI, G.ok S (fun vs H Q E ⟨a, v, e, _⟩ => by rw [e]; rfl) (fun cdv A outer s H vs Q E hr ⟨a, v, e, ha, q⟩ => ?_), G.binds hb, M.of _ _ F.at_⟩
  obtain ⟨t, d, k⟩ := hbody fI cdv A outer s H E
  subst e
  exact ⟨t, d, k a v Q ha q⟩
end U
namespace U
open PySem PySem.Spec PyProof.Rows L2
end U
set_option Elab.async false
set_option linter.all false
set_option maxRecDepth 100000
set_option maxHeartbeats 4000000
namespace U
open PySem PySem.Spec PyProof.Rows L2
section
variable {X : Cx} {pins : List (Addr × Obj)} {σ : L2.St} {H : Hp} {s : Shared} {W : Addr → Prop}
end
section
variable {X : Cx}
end
end U
set_option Elab.async false
set_option linter.all false
set_option maxRecDepth 100000
set_option maxHeartbeats 4000000
namespace U
open PySem PySem.Spec PyProof.Rows L2
structure HasDefK (K : PySem.W.Frag) (x : Str) (st : Stmt) (kws : List (Str × V)) : Prop where
  ex : ∃ f fd, FunD K x x (defArgs st) (defBody st) (defScope st) [] kws f fd ∧ PySem.W.nsIn K mainGlobals x = some (some (.ref f))
theorem hask_mk {K : PySem.W.Frag} {x kw : Str} {f D : Addr} {v : V} {u : Value} {st : Stmt} {oc : Value} {od an : Option Addr} {osl : Array (Option Value)} {doc pm cdv ct : Value} (a : PySem.W.nsIn K mainGlobals x = some (some (.ref f)))
    (l : K.lookup f = some ⟨oc, od, .func (PySem.W.fnOf x x (defArgs st) (defBody st) (defScope st) .none (.ref D) doc pm an cdv ct), osl⟩) (c : PySem.W.codeIn K cdv x = true) (k : PySem.W.keepIn K (.ref f) = true)
    (kd : PySem.W.nsIn K D kw = some (some u)) (ru : RelV v u) : HasDefK K x st [(kw, v)] :=
  ⟨f, _, ⟨⟨oc, od, _, _, doc, pm, an, cdv, ct, osl, rfl, l, c, .inl ⟨rfl, rfl⟩, .inr ⟨D, rfl, fun q hq => by cases hq with | head => exact ⟨u, kd, ru⟩ | tail _ h => cases h⟩⟩, k⟩, a⟩
/-- a promise of a def with keywords ks behind n positional parameters -/
structure KnDK (P : Program) (w : World) (K : PySem.W.Frag) (mg : Str → Option Value) (base : Heap) (x : Str) (k : Nat) (ps : List Str) (n : Nat) (ks : List Str) (dvs : List V) (sp : DSp) : Prop where
  ex : ∃ f fd, FnOk P w K mg base CX0 k f fd ps (LSp K sp) ∧ mg x = some (.ref f) ∧ PySem.W.keepIn K (.ref f) = true ∧ (∃ ds, Vals dvs ds ∧ Binds K fd ps ds) ∧ KBn K fd ps n ks (fun us ws => us ++ ws) (fun vs zs => vs ++ zs)
theorem KnDK.of {P : Program} {w : World} {K : PySem.W.Frag} {mg : Str → Option Value} {base : Heap} {x : Str} {st : Stmt} {N ps : List Str} {k n : Nat} {ks : List Str} {kws : List (Str × V)} {sp : DSp} (F : HasDefK K x st kws) (M : MgOf K mg) (S : FnScope N ps (defScope st)) (hk : kws ≠ []) (hn : n + kws.length = ps.length)
    (h1 : ∀ (D : Addr) (doc pm : Value) (an : Option Addr) (cdv ct : Value) (us zs : List Value), us.length = n → zs.length = kws.length →
      KwChain D ((kws.map (·.1)).zip zs) (bindArgs (PySem.W.fnOf x x (defArgs st) (defBody st) (defScope st) .none (.ref D) doc pm an cdv ct) ⟨us, []⟩) (ps.zip (us ++ zs)))
    (h2 : ∀ (D : Addr) (doc pm : Value) (an : Option Addr) (cdv ct : Value) (us ws : List Value), us.length = n → ws.length = ks.length →
      bindArgs (PySem.W.fnOf x x (defArgs st) (defBody st) (defScope st) .none (.ref D) doc pm an cdv ct) ⟨us, ks.zip ws⟩ = pure (ps.zip (us ++ ws)))
    (len : ∀ ds M Q E, sp ds M Q E → ds.length = ps.length)
    (hbody : ∀ (f : Addr) (cdv : Value) (A : Around) (outer : List Env) (s : Shared) (H : Hp) (E : XK), Room k (A.deeper (envOfC x (defScope st) s.heap.objs.size f cdv)) →
      ∃ t, DB (cxOf CX0 P w K mg base N x (defScope st) f cdv A outer s H E).nox (defBody st) t ∧ ∀ ds M Q Ed, sp ds M Q Ed → t (bodyE Q) (startD N ds) M) : KnDK P w K mg base x (k + 1) ps n ks (kws.map (·.2)) sp := by
  obtain ⟨f, fd, F, e⟩ := F.ex
  refine ⟨f, fd, F.ok S (lsp_len len) (fun cdv A outer s H vs Q E hr ⟨F, W, M, ds, Qd, Ed, r, st, h, kk, kx⟩ => by
    obtain ⟨t, d, q⟩ := hbody f cdv A outer s H E hr
    exact ⟨_, PSs.nox d, ls_body r st kk (q ds M Qd Ed h)⟩), M.of _ _ e, F.kp, F.binds0 n hk hn h1, ?_⟩
  obtain ⟨mv, kb⟩ := F.kbinds0 (ps := ps) n ks [] (fun us _ ws => us ++ ws) hk (fun q hq => nomatch hq) (fun r1 _ r3 => r1.append r3) fun D doc pm an cdv ct us mv ws l1 l2 l3 => h2 D doc pm an cdv ct us ws l1 l3
  exact kb
section
variable {X : Cx} {k n : Nat} {ps ks : List Str} {sp : DSp} {x : Str} {p pos : Pos} {e : Expr} {es : List Expr} {kws : List Keyword} {fs fk : DTA} {dvs : List V} {dfl : List Da}
/-- f(e, ..), the keywords left out -/
def gCallD (sp : DSp) (dfl : List Da) (fs : DTA) : DTE := fun δ M Q => fs δ M fun ds M1 => sp (ds ++ dfl) M1 Q X0
theorem d_callD (D : KnDK X.prog X.w X.K X.mg X.base x k ps n ks dvs sp) (hd : ∀ W H, RDs X.K W H dvs dfl) (hr : Room k X.A) (ha : DA X (e :: es) fs) (hg : Gl X x := by rfl) (hdb : (x == ("__debug__" : Str)) = false := by decide)
    (he : starEach (e :: es) X.env = (false, eval e X.env) :: starEach es X.env := by rfl) (hpl : (backTo pos (starEach es X.env)).any (·.1) = false := by rfl) : DE X (.Call (.Name x p) (e :: es) [] pos) (gCallD sp dfl fs) := by
  obtain ⟨f, fd, F, m, kp, ⟨us, hu, b⟩, _⟩ := D.ex
  refine imp (pe_call F hr hg m kp b hu pass0 ha hdb he hpl) fun σ H Q ⟨δ, F, W, M, Qd, ev, s, h, kk⟩ => ⟨δ, F, W, M, _, ev, s, h, fun vs H1 W1 ds M1 g1 s1 r1 q1 => ?_⟩
  exact ⟨F, W1, M1, ds ++ dfl, Qd, X0, r1.append (hd _ _), s1, q1, kk.mono g1, fun _ _ _ _ _ _ _ _ _ z => z.elim⟩
end
end U
set_option Elab.async false
set_option linter.all false
set_option maxRecDepth 100000
set_option maxHeartbeats 4000000
namespace U
open PySem PySem.Spec PyProof.Rows L2
section
variable {X : Cx} {e : Expr} {te : TE} {fe : DTE} {p apos cpos pos : Pos}
def tListVals0 (te : TE) : TE := fun σ H Q => te σ H fun x H1 => ∃ d, x = .ref d ∧ H1 d = some (.dK []) ∧ ∀ q, H1 q = none → Q (.ref q) (upd H1 q (.lst []))
theorem pe_listVals0 (hc : X.calm = true) (he : PE X e te) (hg : Gl X "list") (hm : X.mg "list" = none) (hv : bootBuiltins "list" = some (.type "list")) (hbase : attributeBase e "values" X.env (eval e X.env) = eval e X.env := by rfl) (hline : (apos.endLine == cpos.line) = true := by rfl)
    (hs : starEach [.Call (.Attribute e "values" apos) [] [] cpos] X.env = (false, eval (.Call (.Attribute e "values" apos) [] [] cpos) X.env) :: starEach [] X.env := by rfl) :
    PE X (.Call (.Name "list" p) [.Call (.Attribute e "values" apos) [] [] cpos] [] pos) (tListVals0 te) := by
  refine ⟨fun pins s σ H Q I hq => ?_⟩
  refine wpAny_Call_Name_kw (ld_blt I hg hm hv ?_)
  refine PyProof.Rows.callWith_type1 ?_ hs rfl
  rw [hs]
  show wpAny _ _ (spliced ((false, eval (.Call (.Attribute e "values" apos) [] [] cpos) X.env) :: backTo pos (starEach [] X.env))) _ _ s
  refine Calls.spliced_cons ?_
  refine wpAny_Call_method (T := "dict") (id := "dict.values") hbase rfl hline F.plainAttrs_dict F.slot_dict_values F.type_dict_values (thn (he.run pins s σ H _ I hq) fun u s1 ⟨x, H1, I1, rx, d, ex, hd, q⟩ => ?_)
  subst ex
  obtain rfl : u = Value.ref d := rx
  obtain ⟨hz, hs0, vs, kv, hdo⟩ := I1.hok d _ hd
  cases kv
  obtain ⟨o, es, ep, ho, hx, hdt, hko, hpr, hnd⟩ := hdo
  have he0 : es.size = 0 := by
    have : es.toList = [] := by
      cases e2 : es.toList with
      | nil => rfl
      | cons z zs => rw [e2] at hpr; cases hpr
    rw [← Array.length_toList, this]; rfl
  have hdo : s1.heap.DictOf (mixKind X.prog X.w) d [] := ⟨o, es, ep, ho, hx, hdt, hko, hpr, hnd⟩
  have I2 : Inv X pins σ H1 { s1 with heap := s1.heap.push { cls := .type "dict_values", data := .fields #[.ref d] } } := I1.kept (t' := s1.toks) fun b ob q => Heap.get?_push_of_some _ q
  refine ⟨hdo.typeIs, hdo.mapOf.noDict, ?_⟩
  show wpAny _ _ (callWith cpos (.builtin "dict.values") [.ref d] [] []) _ X.xe s1
  refine method_meetsIn F.slot_dict_values F.entry_dict_values rfl (PySem.evalArgs_none ⟨rfl, hdo.typeIs, F.args_dict_values_1 _, _, meets_dict_values (mixKind X.prog X.w) d hs0, ⟨[], hdo⟩, ?_⟩)
  refine Calls.spliced_nil ?_
  refine PySem.W.kdl_call (A := X.A) (r := s1.heap.objs.size) (PySem.KdlSrc.rawValues (d := d) (es := es) (ep := ep)) (I1.ok.hd hc) ⟨⟨_, Heap.get?_push_size _ rfl, rfl, rfl⟩, ⟨o, Heap.get?_push_of_some _ ho, hx, hdt⟩⟩ (by rw [he0]; decide) fun h' tk acc c hk hS hI => ?_
  have ha : acc = #[] := Array.eq_empty_of_size_eq_zero (hI.1.trans he0)
  subst ha
  have nH : H1 (s1.heap.push { cls := .type "dict_values", data := .fields #[.ref d] }).objs.size = none := I2.hok.fresh (Nat.le_refl _)
  have nh : (s1.heap.push { cls := .type "dict_values", data := .fields #[.ref d] }).get? (s1.heap.push { cls := .type "dict_values", data := .fields #[.ref d] }).objs.size = none := by
    cases e2 : (s1.heap.push { cls := .type "dict_values", data := .fields #[.ref d] }).get? (s1.heap.push { cls := .type "dict_values", data := .fields #[.ref d] }).objs.size with
    | none => rfl
    | some o2 => exact absurd (Heap.lt_size e2) (Nat.lt_irrefl _)
  exact ⟨.ref _, _, I2.laidN (o := .lst []) (t' := tk) hk nh nH ⟨by decide, [], c, .nil, hS⟩, rfl, q _ nH⟩
def gListVals0 (fe : DTE) : DTE := fun δ M Q => fe δ M fun x M1 => x = .dct [] ∧ Q (.lst []) M1
theorem d_listVals0 (hc : X.calm = true) (he : DE X e fe) (hm : X.mg "list" = none) (hg : Gl X "list" := by rfl) (hbase : attributeBase e "values" X.env (eval e X.env) = eval e X.env := by rfl) (hline : (apos.endLine == cpos.line) = true := by rfl)
    (hs : starEach [.Call (.Attribute e "values" apos) [] [] cpos] X.env = (false, eval (.Call (.Attribute e "values" apos) [] [] cpos) X.env) :: starEach [] X.env := by rfl) :
    DE X (.Call (.Name "list" p) [.Call (.Attribute e "values" apos) [] [] cpos] [] pos) (gListVals0 fe) :=
  imp (pe_listVals0 hc he hg hm b_list hbase hline hs) fun σ H Q ⟨δ, F, W, M, Qd, ev, s, h, k⟩ => ⟨δ, F, W, M, _, ev, s, h, fun v H1 W1 d M1 g1 s1 r1 ⟨e1, q⟩ => by
    subst e1
    cases r1 with
    | dct w hd rk =>
      cases rk
      refine ⟨_, rfl, hd, fun p hp => ?_⟩
      obtain ⟨s2, g2⟩ := s1.new hp (.lst [])
      exact ((k.mono g1).mono g2).now s2 (.lst (.inl ⟨.inl rfl, .inl upd_same⟩) .nil) q⟩
end
end U
set_option Elab.async false
set_option linter.all false
set_option maxRecDepth 100000
set_option maxHeartbeats 4000000
namespace U
open PySem PySem.Spec PyProof.Rows L2
theorem zip_no_len : typeLookup (.type "zip") "__len__" = pure none := by rw [typeLookup_type, builtinLookup_eq_fast]; kernel_rfl
theorem zip_no_hint : typeLookup (.type "zip") "__length_hint__" = pure none := by rw [typeLookup_type, builtinLookup_eq_fast]; kernel_rfl
/-- list(z), z a zip at its end -/
theorem call_list_zipEnd {P : Program} {w : World} {A : Around} {s : Shared} {z TI TO i1 i2 l1 l2 : Addr} {Q' : Value → Shared → Prop} {E : Value → Shared → Prop} (hh : A.handled = none)
    (sep : ZipSep2 z TI TO i1 i2 [i1, l1] [i2, l2]) (n1 : l1 ≠ i1) (n2 : l2 ≠ i2) (hz : IsZip s.heap z TI TO .none) (hTI : IsTupOf2 s.heap TI (.ref i1) (.ref i2)) {a1 a2 : Value} (hTO : IsTupOf2 s.heap TO a1 a2)
    (h1 : s.heap.IsTupleIter i1 l1 0) (h2 : s.heap.IsTupleIter i2 l2 0) (t1 : s.heap.IsTuple l1 #[]) (t2 : s.heap.IsTuple l2 #[])
    (hQ : ∀ h' tk c, (∀ b o, b ≠ z → b ≠ TO → b ≠ i1 → b ≠ i2 → s.heap.get? b = some o → h'.get? b = some o) → h'.get? s.heap.objs.size = some { cls := .type "list", dict := none, data := .seq #[] c, slots := #[] } → Q' (.ref s.heap.objs.size) { s with heap := h', toks := tk }) :
    wpAny (model P w) A (PySem.call (.type "list") [.ref z]) Q' E s := by
  have hzl : z < s.heap.objs.size := Heap.lt_size hz
  have hSa : s.heap.objs.size ≠ z := Nat.ne_of_gt hzl
  refine callType_codes (Q₁ := fun obj s₁ => obj = .ref s.heap.objs.size ∧ s₁ = { s with heap := s.heap.push { cls := .type "list", data := .seq #[] } }) F.called_list (F.typeCall_list_1 _) F.entry_list_init
    (code_list_new _ ⟨rfl, rfl⟩) fun obj s₁ h₁ => ?_
  obtain ⟨rfl, rfl⟩ := h₁
  have hS : (s.heap.push { cls := .type "list", data := .seq #[] }).get? s.heap.objs.size = some { cls := .type "list", data := .seq #[] } := Heap.get?_push_size _ rfl
  refine ⟨⟨_, hS, rfl⟩, F.args_list_init_2 _ _, ?_⟩
  show wpAny _ A.in1.in1 (do let old ← Builtin.List.listItems (.ref s.heap.objs.size); Builtin.List.listUpdate (.ref s.heap.objs.size) (fun _ => #[]); letGo old.toList.reverse; Builtin.List.listExtendWith (.ref s.heap.objs.size) (.ref z) .none) _ _ _
  refine wpAny_bind ?_
  unfold Builtin.List.listItems
  refine wpAny_bind (wpAny_seqItems hS rfl (wpAny_pure ?_))
  show wpAny _ A.in1.in1 (updateSeq s.heap.objs.size (fun _ => #[]) >>= fun _ => letGo (#[] : Array Value).toList.reverse >>= fun _ => Builtin.List.listExtendWith (.ref s.heap.objs.size) (.ref z) .none) _ _ _
  refine wpAny_bind (wpAny_updateSeq hS rfl ?_)
  have hS2 := Heap.get?_update_self (Obj.mapSeq (fun _ => (#[] : Array Value))) hS rfl
  refine wpAny_bind (wpAny_letGo ?_)
  unfold Builtin.List.listExtendWith
  have up : ∀ (h : Heap) (f : Obj → Obj), (∀ b o, s.heap.get? b = some o → h.get? b = some o) → ∀ b o, s.heap.get? b = some o → (h.update s.heap.objs.size f).get? b = some o := fun h f q b o e =>
    (Heap.get?_update_other _ _ (Ne.symm (Nat.ne_of_lt (Heap.lt_size e)))).trans (q b o e)
  have k1 : ∀ b o, s.heap.get? b = some o → (s.heap.push { cls := .type "list", data := .seq #[] }).get? b = some o := fun b o e => Heap.get?_push_of_some _ e
  have k2 := up _ (Obj.mapSeq (fun _ => (#[] : Array Value))) k1
  have gty : ∀ {h : Heap}, (∀ b o, s.heap.get? b = some o → h.get? b = some o) → Shared.TypeIs { s with heap := h } (.ref z) "zip" := fun {h} q => ⟨_, q _ _ hz, rfl⟩
  refine wpAny_bind (wpAny_typeOf (gty k2) ?_)
  have e1 : Builtin.List.listSameRef (.ref s.heap.objs.size) (.ref z) = false := by simp [Builtin.List.listSameRef, hSa]
  have e2 : (Value.type "zip" == Value.type "list") = false := by decide
  have e3 : (Value.type "zip" == Value.type "tuple") = false := by decide
  simp only [e1, e2, e3, Bool.or_false, Bool.false_eq_true, if_false]
  refine wpAny_bind (wpAny_pyIter_zip (k2 _ _ hz) ?_)
  refine wpAny_bind (wpAny_holding ?_)
  unfold Builtin.List.listLengthHint
  refine wpAny_bind (wpAny_specialOf (gty k2) zip_no_len ?_)
  show wpAny _ A.in1.in1 (specialOf (Value.ref z) (Str.ofString "__length_hint__") >>= _) _ _ _
  refine wpAny_bind (wpAny_specialOf (gty k2) zip_no_hint ?_)
  refine wpAny_pure ?_
  show wpAny _ A.in1.in1 (rule "list.extend.makes-room" >>= fun _ => Builtin.List.listTouch (.ref s.heap.objs.size) >>= fun _ =>
    again (.builtin "list.extend.loop" ⟨[.ref s.heap.objs.size, .ref z, .none], []⟩)) _ _ _
  refine wpAny_bind (wpAny_rule ?_)
  refine wpAny_bind ?_
  show wpAny _ A.in1.in1 (updateSeq s.heap.objs.size (·.push .none) >>= fun _ => updateSeq s.heap.objs.size (·.pop)) _ _ _
  refine wpAny_bind (wpAny_updateSeq hS2 rfl ?_)
  have hS3 := Heap.get?_update_self (Obj.mapSeq (·.push Value.none)) hS2 rfl
  refine wpAny_updateSeq (hz := by seq_fits) hS3 rfl ?_
  have hS4 := Heap.get?_update_self (Obj.mapSeq (·.pop)) hS3 rfl
  have k4 := up _ (Obj.mapSeq (·.pop)) (up _ (Obj.mapSeq (·.push Value.none)) k2)
  refine wpAny_pure ⟨plainId_quiet F.plain_extend_loop _, ?_⟩
  refine codeAny_builtin F.entry_extend_loop ?_
  rw [Around.under_plainId F.plain_extend_loop _]
  show wpAny _ A.in1.in1 (pyNext (.ref z) >>= _) _ _ _
  refine wpAny_bind ?_
  have D1 : Draws P w A.in1.in1.in1 i1 [i1, l1] 0 _ _ := Draws.tuple (show A.in1.in1.in1.handled = none from hh) i1 l1 n1 #[]
  have D2 : Draws P w A.in1.in1.in1 i2 [i2, l2] 0 _ _ := Draws.tuple (show A.in1.in1.in1.handled = none from hh) i2 l2 n2 #[]
  refine wpAny_pyNext_zipD2_end sep D1 D2 (k4 _ _ hz) (k4 _ _ hTI) (k4 _ _ hTO) ⟨h1.at fun o e => k4 _ o e, t1.at fun o e => k4 _ o e⟩ ⟨h2.at fun o e => k4 _ o e, t2.at fun o e => k4 _ o e⟩ (Nat.le_refl _) (Nat.le_refl _) (.inl rfl) fun h' tk hk => ?_
  obtain ⟨oi1, hi1, _⟩ := id h1
  obtain ⟨oi2, hi2, _⟩ := id h2
  refine wpAny_pure ⟨rfl, hQ h' tk _ (fun b o b1 b2 b3 b4 e => hk b o b1 b2 b3 b4 (k4 b o e)) (hk _ _ hSa (Nat.ne_of_gt (Heap.lt_size hTO)) (Nat.ne_of_gt (Heap.lt_size hi1)) (Nat.ne_of_gt (Heap.lt_size hi2)) hS4)⟩
section
variable {X : Cx} {e1 e2 : Expr} {ta : TA} {fs : DTA} {p p2 pos pos2 : Pos}
def tListZip0 (K : PySem.W.Frag) (ta : TA) : TE := fun σ H Q => ta σ H fun vs H1 => ∃ l1 l2, vs = [.ref l1, .ref l2] ∧ SqT K H1 l1 [] ∧ SqT K H1 l2 [] ∧ ∀ q, H1 q = none → Q (.ref q) (upd H1 q (.lst []))
theorem pe_listZip0 (hc : X.calm = true) (ha : PA X [e1, e2] ta) (hl : X.mg "list" = none) (hgl : Gl X "list") (hz : X.mg "zip" = none) (hgz : Gl X "zip")
    (hs : starEach [e1, e2] X.env = (false, eval e1 X.env) :: starEach [e2] X.env := by rfl) (hpl : (backTo pos2 (starEach [e2] X.env)).any (·.1) = false := by rfl)
    (hs1 : starEach [.Call (.Name "zip" p2) [e1, e2] [] pos2] X.env = (false, eval (.Call (.Name "zip" p2) [e1, e2] [] pos2) X.env) :: starEach [] X.env := by rfl) :
    PE X (.Call (.Name "list" p) [.Call (.Name "zip" p2) [e1, e2] [] pos2] [] pos) (tListZip0 X.K ta) := by
  refine ⟨fun pins s σ H Q I h => ?_⟩
  refine wpAny_Call_Name_kw (ld_blt I hgl hl b_list ?_)
  refine PyProof.Rows.callWith_type1 ?_ hs1 rfl
  rw [hs1]
  show wpAny _ _ (spliced ((false, eval (.Call (.Name "zip" p2) [e1, e2] [] pos2) X.env) :: backTo pos (starEach [] X.env))) _ _ s
  refine Calls.spliced_cons ?_
  refine wpAny_Call_Name_kw (ld_blt I hgz hz PyProof.Rows.boot_zip (PyProof.Rows.callWith_type1 (thn (ha.run pos2 pins s σ H _ I h) fun us s1 ⟨vs, H1, I1, r1, l1, l2, ex, t1, t2, q⟩ => ?_) hs hpl))
  subst ex
  cases r1 with
  | cons r rr =>
    cases rr with
    | cons r' rr =>
      cases rr
      cases r
      cases r'
      obtain ⟨its1, rv1, p1, _⟩ := I1.tuple t1
      obtain ⟨its2, rv2, p2', _⟩ := I1.tuple t2
      cases rv1
      cases rv2
      refine PySem.zip_begins2 (begins_tuple l1 #[]) (begins_tuple l2 #[]) p1 p2' fun h' hz' hTI hTO e1' e2' hsz hk => ?_
      refine Calls.spliced_nil ?_
      obtain ⟨o1, ho1, _⟩ := id p1
      obtain ⟨o2, ho2, _⟩ := id p2'
      have lt1 := Heap.lt_size ho1
      have lt2 := Heap.lt_size ho2
      refine call_list_zipEnd (s := { s1 with heap := h' }) (I1.ok.hd hc) (zip_sep2 (fp1 := [l1]) (fp2 := [l2]) (fun b hb => by rw [List.mem_singleton.mp hb]; exact lt1) (fun b hb => by rw [List.mem_singleton.mp hb]; exact lt2))
        (Nat.ne_of_lt lt1) (Nat.ne_of_lt (Nat.lt_succ_of_lt lt2)) hz' hTI hTO ⟨_, e1', rfl, rfl⟩ ⟨_, e2', rfl, rfl⟩ (Heap.IsTuple.at p1 fun o e => hk _ o e) (Heap.IsTuple.at p2' fun o e => hk _ o e) fun h2 tk c k2 hS2 => ?_
      have hsz' : ({ s1 with heap := h' } : Shared).heap.objs.size = s1.heap.objs.size + 5 := hsz
      rw [hsz'] at hS2 ⊢
      have nH : H1 (s1.heap.objs.size + 5) = none := I1.hok.fresh (Nat.le_add_right _ _)
      have nh : s1.heap.get? (s1.heap.objs.size + 5) = none := by
        cases e3 : s1.heap.get? (s1.heap.objs.size + 5) with
        | none => rfl
        | some o3 => exact absurd (Heap.lt_size e3) (Nat.not_lt.mpr (Nat.le_add_right _ _))
      have low : ∀ (b k : Nat), b < s1.heap.objs.size → b ≠ s1.heap.objs.size + k := fun b k h => by omega
      have kp : ∀ b o, s1.heap.get? b = some o → h2.get? b = some o := fun b o e => k2 b o (low b 4 (Heap.lt_size e)) (low b 3 (Heap.lt_size e)) (low b 0 (Heap.lt_size e)) (low b 1 (Heap.lt_size e)) (hk b o e)
      exact ⟨.ref _, _, I1.laidN (o := .lst []) (t' := tk) kp nh nH ⟨by decide, [], c, .nil, hS2⟩, rfl, q _ nH⟩
def gListZip0 (fs : DTA) : DTE := fun δ M Q => fs δ M fun ds M1 => ds = [.tup [], .tup []] ∧ Q (.lst []) M1
theorem d_listZip0 (hc : X.calm = true) (ha : DA X [e1, e2] fs) (hl : X.mg "list" = none) (hz : X.mg "zip" = none) (hgl : Gl X "list" := by rfl) (hgz : Gl X "zip" := by rfl)
    (hs : starEach [e1, e2] X.env = (false, eval e1 X.env) :: starEach [e2] X.env := by rfl) (hpl : (backTo pos2 (starEach [e2] X.env)).any (·.1) = false := by rfl)
    (hs1 : starEach [.Call (.Name "zip" p2) [e1, e2] [] pos2] X.env = (false, eval (.Call (.Name "zip" p2) [e1, e2] [] pos2) X.env) :: starEach [] X.env := by rfl) :
    DE X (.Call (.Name "list" p) [.Call (.Name "zip" p2) [e1, e2] [] pos2] [] pos) (gListZip0 fs) :=
  imp (pe_listZip0 hc ha hl hgl hz hgz hs hpl hs1) fun σ H Q ⟨δ, F, W, M, Qd, ev, s, h, k⟩ => ⟨δ, F, W, M, _, ev, s, h, fun vs H1 W1 ds M1 g1 s1 r1 ⟨e3, q⟩ => by
    subst e3
    obtain ⟨v, u, rfl, ra, rb⟩ := r1.two
    cases ra with
    | tup h1 k1 =>
      cases rb with
      | tup h2 k2 =>
        cases k1
        cases k2
        refine ⟨_, _, rfl, h1.sq, h2.sq, fun p hp => ?_⟩
        obtain ⟨s2, g2⟩ := s1.new hp (.lst [])
        exact ((k.mono g1).mono g2).now s2 (.lst (.inl ⟨.inl rfl, .inl upd_same⟩) .nil) q⟩
end
end U
set_option Elab.async false
set_option linter.all false
set_option maxRecDepth 100000
set_option maxHeartbeats 4000000
namespace U
open PySem PySem.Spec PyProof.Rows L2
section
variable {X : Cx} {elt tg : Expr} {ifs : List Expr} {scope : Scope} {own : List (Str × Nat)} {pos ipos : Pos} {c : CT} {tt : DTT} {te : DTE}
def gLcE (i : Nat) : DTE := fun δ M Q => gVar i δ M fun x M1 => x = .dct [] ∧ Q (.lst []) M1
theorem d_lcE (i : Nat) {x : Str} (hc : X.calm = true) (hN : X.N.Nodup) (ok : BlkOk X.N X.env.scope scope own)
    (hg : ∀ (s : Shared) (H : Hp) (C : Addr) (cl : List (Str × Addr)) (fp : List Addr), PG (X.blk s H scope (compEnvC scope cl C X.env) fp) tg (c.tg X.K)) (ht : ∀ (s : Shared) (H : Hp) (C : Addr) (cl : List (Str × Addr)) (fp : List Addr), DTs (X.blk s H scope (compEnvC scope cl C X.env) fp) ifs tt)
    (he : ∀ (s : Shared) (H : Hp) (C : Addr) (cl : List (Str × Addr)) (fp : List Addr), DE (X.blk s H scope (compEnvC scope cl C X.env) fp) elt te)
    (hx : X.N[i]? = some x := by rfl) (hv : Vis X.env.scope x := by first | exact Or.inl rfl | exact Or.inr (Or.inl rfl) | exact Or.inr (Or.inr rfl))
    (hd : (x == ("__debug__" : Str)) = false := by decide) (hcd : (x == ("__classdict__" : Str)) = false := by decide) (hs : ∀ z, foldedSetIterable (.Name x ipos) X.env z = pure z := by intro _; rfl) :
    DE X (.ListComp elt [⟨tg, .Name x ipos, ifs, 0⟩] scope pos) (gLcE i) :=
  imp (pe_lock (pe_lc (wi := iKeys _) (g := c.tg X.K) (tt := Li rT X.K tt) (te := Li (rE X.K) X.K te) hc hN (pi_keys (pe_var hx hv hd hcd)) ok hg ht he hs)) fun σ H Q ⟨δ, F, W, M, Qd, ev, s, h, k⟩ => by
    unfold gLcE gVar at h
    split at h
    · rename_i d0 q
      obtain ⟨rfl, h⟩ := h
      obtain ⟨v, q', r⟩ := ev.get q
      cases r with
      | @dct a vs _ w hd' rk =>
        cases rk
        refine ⟨a, .dK [], hd', trivial, fun od => ⟨_, q', a, od, rfl, .inl ⟨[], upd_same, fun D hD => ?_⟩⟩⟩
        have hne : D ≠ a := fun z => by rw [z, upd_same] at hD; cases hD
        have hD0 : H D = none := by rw [upd_ne hne] at hD; exact hD
        refine ⟨fun i _ H' => i = 0 ∧ H' = upd (upd H a (.frz od (.dK []))) D (.lst []), ⟨0, rfl, rfl⟩, fun i m H' ⟨ei, eH⟩ => ?_⟩
        subst ei eH
        have h1 : upd (upd H a (.frz od (.dK []))) D (.lst []) a = some (.frz od (.dK [])) := by rw [upd_ne (Ne.symm hne)]; exact upd_same
        refine .inl ⟨⟨h1, Nat.le_refl _⟩, h1, ?_⟩
        have e : upd (upd (upd H a (.frz od (.dK []))) D (.lst [])) a (.dK []) = upd H D (.lst []) := by
          funext b
          by_cases hb : b = a
          · subst hb; rw [upd_same, upd_ne (Ne.symm hne), hd']
          · rw [upd_ne hb]
            by_cases hb2 : b = D
            · subst hb2; rw [upd_same, upd_same]
            · rw [upd_ne hb2, upd_ne hb2, upd_ne hb]
        rw [e]
        obtain ⟨s2, g2⟩ := s.new hD0 (.lst [])
        exact (k.mono g2).now s2 (.lst (.inl ⟨.inl rfl, .inl upd_same⟩) .nil) h
    · exact h.elim
end
end U
set_option Elab.async false
set_option linter.all false
set_option maxRecDepth 100000
set_option maxHeartbeats 4000000







namespace K68
open PySem PySem.Spec PyProof.Rows L2 U
def top (i : Nat) : Stmt := PySem.Challenge.pw_blockshanded_k68_blocks_made.main.body.getD i (.Pass ⟨0, 0, 0, 0⟩)
abbrev s_is_integer : Stmt := top 4
abbrev s_is_from : Stmt := top 5
abbrev s_is_name : Stmt := top 6
abbrev s_InvalidNumber___init__ : Stmt := inClass (top 13) 0
abbrev s_has_word : Stmt := top 23
abbrev s_is_deed_table : Stmt := top 24
abbrev s_is_kind : Stmt := top 25
abbrev s_is_term_in : Stmt := top 26
abbrev s_is_wrap_in : Stmt := top 27
abbrev s_is_piece : Stmt := top 28
abbrev s_are_given : Stmt := top 29
abbrev s_inside : Stmt := top 30
abbrev s_pieces_of : Stmt := top 31
abbrev s_are_parameters : Stmt := top 32
abbrev s_is_body : Stmt := top 33
abbrev s_Procedure___init__ : Stmt := inClass (top 34) 0
abbrev s_Procedure___len__ : Stmt := inClass (top 34) 7
abbrev s_Procedure___eq__ : Stmt := inClass (top 34) 8
abbrev s_Procedure___str__ : Stmt := inClass (top 34) 9
abbrev s_is_term : Stmt := top 35
abbrev s_kind_of : Stmt := top 39
abbrev s_are_fit : Stmt := top 40
abbrev s_Program___init__ : Stmt := inClass (top 41) 0
abbrev s_Program_has_name : Stmt := inClass (top 41) 7
abbrev s_Program___contains__ : Stmt := inClass (top 41) 11
abbrev s_Program___len__ : Stmt := inClass (top 41) 13
abbrev s_Program___eq__ : Stmt := inClass (top 41) 14
abbrev s_Program___str__ : Stmt := inClass (top 41) 15
abbrev s_require_program : Stmt := top 43
abbrev s_Space___init__ : Stmt := inClass (top 45) 0
abbrev s_Space_bit : Stmt := inClass (top 45) 6
abbrev s_Space_has : Stmt := inClass (top 45) 7
abbrev s_Space_is_relation : Stmt := inClass (top 45) 8
abbrev s_Space_require_relation : Stmt := inClass (top 45) 9
abbrev s_Space_pairs : Stmt := inClass (top 45) 10
abbrev s_Space_after : Stmt := inClass (top 45) 13
abbrev s_Space_is_led : Stmt := inClass (top 45) 14
abbrev s_Space_is_table : Stmt := inClass (top 45) 18
abbrev s_Look___init__ : Stmt := inClass (top 47) 0
abbrev s_Look_found : Stmt := inClass (top 47) 1
abbrev s_Reckoner___init__ : Stmt := inClass (top 48) 0
abbrev s_Reckoner_deed : Stmt := inClass (top 48) 1
abbrev s_Reckoner_term : Stmt := inClass (top 48) 2
abbrev s_Reckoner_around : Stmt := inClass (top 48) 3
abbrev s_Reckoner_table : Stmt := inClass (top 48) 4
abbrev s_Reckoner_meaning : Stmt := inClass (top 48) 5
abbrev s_Reckoner_given : Stmt := inClass (top 48) 6
abbrev s_Reckoner_own_meanings : Stmt := inClass (top 48) 7
abbrev s_Reckoner_reckon : Stmt := inClass (top 48) 8
abbrev s_Reckoner_is_meaning : Stmt := inClass (top 48) 9
abbrev s_Reckoner_is_context : Stmt := inClass (top 48) 10
abbrev s_Reckoner_is_plain_book : Stmt := inClass (top 48) 12
abbrev s_require_word : Stmt := top 49
abbrev s_reckoner_of : Stmt := top 50
abbrev s_looked : Stmt := top 51
abbrev s_reckoned : Stmt := top 52
abbrev s_deed_from : Stmt := top 55
abbrev s_either_of : Stmt := top 56
abbrev s_block_in : Stmt := top 57
abbrev s_block_of : Stmt := top 58
abbrev s__law_pail : Stmt := top 60
abbrev s__law_dip : Stmt := top 61
abbrev s__law_pick : Stmt := top 62
abbrev s__law_has : Stmt := top 64
abbrev s__law_bit : Stmt := top 65
abbrev s__law_size : Stmt := top 66
abbrev s__law_after : Stmt := top 67
abbrev s__law_either : Stmt := top 68
abbrev s__law_asked : Stmt := top 69
abbrev s__law_reckon : Stmt := top 70
abbrev s__law_meanings : Stmt := top 71
abbrev s__law_pieces : Stmt := top 75
abbrev s__law_depth : Stmt := top 76
abbrev s__law_is_plain : Stmt := top 77
abbrev s__law_word : Stmt := top 78
abbrev s__law_right : Stmt := top 79
abbrev s_law : Stmt := top 80
abbrev N_is_integer : List Str := ["value"]
theorem sc_is_integer : FnScope N_is_integer ["value"] (defScope s_is_integer) := ⟨rfl, rfl, rfl, by decide +kernel, rfl, by decide +kernel, by decide +kernel⟩
abbrev N_is_from : List Str := ["value", "first", "last"]
theorem sc_is_from : FnScope N_is_from ["value", "first", "last"] (defScope s_is_from) := ⟨rfl, rfl, rfl, by decide +kernel, rfl, by decide +kernel, by decide +kernel⟩
abbrev N_is_name : List Str := ["value", "letter"]
theorem sc_is_name : FnScope N_is_name ["value"] (defScope s_is_name) := ⟨rfl, rfl, rfl, by decide +kernel, rfl, by decide +kernel, by decide +kernel⟩
abbrev N_InvalidNumber___init__ : List Str := ["self", "value"]
theorem sc_InvalidNumber___init__ : FnScope N_InvalidNumber___init__ ["self", "value"] (defScope s_InvalidNumber___init__) := ⟨rfl, rfl, rfl, by decide +kernel, rfl, by decide +kernel, by decide +kernel⟩
abbrev N_has_word : List Str := ["value", "words"]
theorem sc_has_word : FnScope N_has_word ["value", "words"] (defScope s_has_word) := ⟨rfl, rfl, rfl, by decide +kernel, rfl, by decide +kernel, by decide +kernel⟩
abbrev N_is_deed_table : List Str := ["value", "entry"]
theorem sc_is_deed_table : FnScope N_is_deed_table ["value"] (defScope s_is_deed_table) := ⟨rfl, rfl, rfl, by decide +kernel, rfl, by decide +kernel, by decide +kernel⟩
abbrev N_is_kind : List Str := ["kinds", "value", "kind"]
theorem sc_is_kind : FnScope N_is_kind ["kinds", "value", "kind"] (defScope s_is_kind) := ⟨rfl, rfl, rfl, by decide +kernel, rfl, by decide +kernel, by decide +kernel⟩
abbrev N_is_term_in : List Str := ["value", "kinds", "deep"]
theorem sc_is_term_in : FnScope N_is_term_in ["value", "kinds", "deep"] (defScope s_is_term_in) := ⟨rfl, rfl, rfl, by decide +kernel, rfl, by decide +kernel, by decide +kernel⟩
abbrev N_is_wrap_in : List Str := ["value", "kinds", "deep"]
theorem sc_is_wrap_in : FnScope N_is_wrap_in ["value", "kinds", "deep"] (defScope s_is_wrap_in) := ⟨rfl, rfl, rfl, by decide +kernel, rfl, by decide +kernel, by decide +kernel⟩
abbrev N_is_piece : List Str := ["value", "kinds", "deep", "word", "table", "terms", "first", "parameter", "name", "given", "wrap", "term", "one"]
theorem sc_is_piece : FnScope N_is_piece ["value", "kinds", "deep"] (defScope s_is_piece) := ⟨rfl, rfl, rfl, by decide +kernel, rfl, by decide +kernel, by decide +kernel⟩
abbrev N_are_given : List Str := ["given", "kinds", "deep", "value"]
theorem sc_are_given : FnScope N_are_given ["given", "kinds", "deep"] (defScope s_are_given) := ⟨rfl, rfl, rfl, by decide +kernel, rfl, by decide +kernel, by decide +kernel⟩
abbrev N_inside : List Str := ["piece", "terms", "name", "given", "wrap", "term"]
theorem sc_inside : FnScope N_inside ["piece"] (defScope s_inside) := ⟨rfl, rfl, rfl, by decide +kernel, rfl, by decide +kernel, by decide +kernel⟩
abbrev N_pieces_of : List Str := ["piece", "found", "at"]
theorem sc_pieces_of : FnScope N_pieces_of ["piece"] (defScope s_pieces_of) := ⟨rfl, rfl, rfl, by decide +kernel, rfl, by decide +kernel, by decide +kernel⟩
abbrev N_are_parameters : List Str := ["value", "pair", "name", "kind"]
theorem sc_are_parameters : FnScope N_are_parameters ["value"] (defScope s_are_parameters) := ⟨rfl, rfl, rfl, by decide +kernel, rfl, by decide +kernel, by decide +kernel⟩
abbrev N_is_body : List Str := ["value", "parameters"]
theorem sc_is_body : FnScope N_is_body ["value", "parameters"] (defScope s_is_body) := ⟨rfl, rfl, rfl, by decide +kernel, rfl, by decide +kernel, by decide +kernel⟩
abbrev N_Procedure___init__ : List Str := ["self", "name", "parameters", "body", "parameter", "kind"]
theorem sc_Procedure___init__ : FnScope N_Procedure___init__ ["self", "name", "parameters", "body"] (defScope s_Procedure___init__) := ⟨rfl, rfl, rfl, by decide +kernel, rfl, by decide +kernel, by decide +kernel⟩
abbrev N_Procedure___len__ : List Str := ["self"]
theorem sc_Procedure___len__ : FnScope N_Procedure___len__ ["self"] (defScope s_Procedure___len__) := ⟨rfl, rfl, rfl, by decide +kernel, rfl, by decide +kernel, by decide +kernel⟩
abbrev N_Procedure___eq__ : List Str := ["self", "other"]
theorem sc_Procedure___eq__ : FnScope N_Procedure___eq__ ["self", "other"] (defScope s_Procedure___eq__) := ⟨rfl, rfl, rfl, by decide +kernel, rfl, by decide +kernel, by decide +kernel⟩
abbrev N_Procedure___str__ : List Str := ["self"]
theorem sc_Procedure___str__ : FnScope N_Procedure___str__ ["self"] (defScope s_Procedure___str__) := ⟨rfl, rfl, rfl, by decide +kernel, rfl, by decide +kernel, by decide +kernel⟩
abbrev N_is_term : List Str := ["value", "parameters"]
theorem sc_is_term : FnScope N_is_term ["value", "parameters"] (defScope s_is_term) := ⟨rfl, rfl, rfl, by decide +kernel, rfl, by decide +kernel, by decide +kernel⟩
abbrev N_kind_of : List Str := ["piece"]
theorem sc_kind_of : FnScope N_kind_of ["piece"] (defScope s_kind_of) := ⟨rfl, rfl, rfl, by decide +kernel, rfl, by decide +kernel, by decide +kernel⟩
abbrev N_are_fit : List Str := ["table", "piece", "modes", "kinds", "given", "entry", "value"]
theorem sc_are_fit : FnScope N_are_fit ["table", "piece", "modes"] (defScope s_are_fit) := ⟨rfl, rfl, rfl, by decide +kernel, rfl, by decide +kernel, by decide +kernel⟩
abbrev N_Program___init__ : List Str := ["self", "modes", "procedures", "table", "one", "piece"]
theorem sc_Program___init__ : FnScope N_Program___init__ ["self", "modes", "procedures"] (defScope s_Program___init__) := ⟨rfl, rfl, rfl, by decide +kernel, rfl, by decide +kernel, by decide +kernel⟩
abbrev N_Program_has_name : List Str := ["self", "value"]
theorem sc_Program_has_name : FnScope N_Program_has_name ["self", "value"] (defScope s_Program_has_name) := ⟨rfl, rfl, rfl, by decide +kernel, rfl, by decide +kernel, by decide +kernel⟩
abbrev N_Program___contains__ : List Str := ["self", "value"]
theorem sc_Program___contains__ : FnScope N_Program___contains__ ["self", "value"] (defScope s_Program___contains__) := ⟨rfl, rfl, rfl, by decide +kernel, rfl, by decide +kernel, by decide +kernel⟩
abbrev N_Program___len__ : List Str := ["self"]
theorem sc_Program___len__ : FnScope N_Program___len__ ["self"] (defScope s_Program___len__) := ⟨rfl, rfl, rfl, by decide +kernel, rfl, by decide +kernel, by decide +kernel⟩
abbrev N_Program___str__ : List Str := ["self"]
theorem sc_Program___str__ : FnScope N_Program___str__ ["self"] (defScope s_Program___str__) := ⟨rfl, rfl, rfl, by decide +kernel, rfl, by decide +kernel, by decide +kernel⟩
abbrev N_require_program : List Str := ["value"]
theorem sc_require_program : FnScope N_require_program ["value"] (defScope s_require_program) := ⟨rfl, rfl, rfl, by decide +kernel, rfl, by decide +kernel, by decide +kernel⟩
abbrev N_Space___init__ : List Str := ["self", "modes", "watched", "powers", "turn", "mode"]
theorem sc_Space___init__ : FnScope N_Space___init__ ["self", "modes", "watched"] (defScope s_Space___init__) := ⟨rfl, rfl, rfl, by decide +kernel, rfl, by decide +kernel, by decide +kernel⟩
abbrev N_Space_bit : List Str := ["self", "mode", "end"]
theorem sc_Space_bit : FnScope N_Space_bit ["self", "mode", "end"] (defScope s_Space_bit) := ⟨rfl, rfl, rfl, by decide +kernel, rfl, by decide +kernel, by decide +kernel⟩
abbrev N_Space_has : List Str := ["self", "relation", "mode", "end"]
theorem sc_Space_has : FnScope N_Space_has ["self", "relation", "mode", "end"] (defScope s_Space_has) := ⟨rfl, rfl, rfl, by decide +kernel, rfl, by decide +kernel, by decide +kernel⟩
abbrev N_Space_is_relation : List Str := ["self", "value"]
theorem sc_Space_is_relation : FnScope N_Space_is_relation ["self", "value"] (defScope s_Space_is_relation) := ⟨rfl, rfl, rfl, by decide +kernel, rfl, by decide +kernel, by decide +kernel⟩
abbrev N_Space_require_relation : List Str := ["self", "value"]
theorem sc_Space_require_relation : FnScope N_Space_require_relation ["self", "value"] (defScope s_Space_require_relation) := ⟨rfl, rfl, rfl, by decide +kernel, rfl, by decide +kernel, by decide +kernel⟩
abbrev N_Space_pairs : List Str := ["self", "relation", "every", "mode", "end", "pair"]
theorem sc_Space_pairs : FnScope N_Space_pairs ["self", "relation"] (defScope s_Space_pairs) := ⟨rfl, rfl, rfl, by decide +kernel, rfl, by decide +kernel, by decide +kernel⟩
abbrev N_Space_is_table : List Str := ["self", "value", "entry"]
theorem sc_Space_is_table : FnScope N_Space_is_table ["self", "value"] (defScope s_Space_is_table) := ⟨rfl, rfl, rfl, by decide +kernel, rfl, by decide +kernel, by decide +kernel⟩
abbrev N_Look___init__ : List Str := ["self", "book"]
theorem sc_Look___init__ : FnScope N_Look___init__ ["self", "book"] (defScope s_Look___init__) := ⟨rfl, rfl, rfl, by decide +kernel, rfl, by decide +kernel, by decide +kernel⟩
abbrev N_Reckoner___init__ : List Str := ["self", "program", "word"]
theorem sc_Reckoner___init__ : FnScope N_Reckoner___init__ ["self", "program", "word"] (defScope s_Reckoner___init__) := ⟨rfl, rfl, rfl, by decide +kernel, rfl, by decide +kernel, by decide +kernel⟩
abbrev N_Reckoner_deed : List Str := ["self", "word", "table", "space", "found", "mode", "later"]
theorem sc_Reckoner_deed : FnScope N_Reckoner_deed ["self", "word", "table"] (defScope s_Reckoner_deed) := ⟨rfl, rfl, rfl, by decide +kernel, rfl, by decide +kernel, by decide +kernel⟩
abbrev N_Reckoner_term : List Str := ["self", "piece", "meanings", "look", "space", "word", "table", "terms", "found", "inner", "parameter", "name", "given"]
theorem sc_Reckoner_term : FnScope N_Reckoner_term ["self", "piece", "meanings", "look"] (defScope s_Reckoner_term) := ⟨rfl, rfl, rfl, by decide +kernel, rfl, by decide +kernel, by decide +kernel⟩
abbrev N_Reckoner_own_meanings : List Str := ["self", "context", "name", "values", "pairs", "parameter", "value"]
theorem sc_Reckoner_own_meanings : FnScope N_Reckoner_own_meanings ["self", "context"] (defScope s_Reckoner_own_meanings) := ⟨rfl, rfl, rfl, by decide +kernel, rfl, by decide +kernel, by decide +kernel⟩
abbrev N_Reckoner_reckon : List Str := ["self", "context", "look", "procedure"]
theorem sc_Reckoner_reckon : FnScope N_Reckoner_reckon ["self", "context", "look"] (defScope s_Reckoner_reckon) := ⟨rfl, rfl, rfl, by decide +kernel, rfl, by decide +kernel, by decide +kernel⟩
abbrev N_Reckoner_is_meaning : List Str := ["self", "kind", "value"]
theorem sc_Reckoner_is_meaning : FnScope N_Reckoner_is_meaning ["self", "kind", "value"] (defScope s_Reckoner_is_meaning) := ⟨rfl, rfl, rfl, by decide +kernel, rfl, by decide +kernel, by decide +kernel⟩
abbrev N_Reckoner_is_context : List Str := ["self", "value", "kinds", "kind", "one"]
theorem sc_Reckoner_is_context : FnScope N_Reckoner_is_context ["self", "value"] (defScope s_Reckoner_is_context) := ⟨rfl, rfl, rfl, by decide +kernel, rfl, by decide +kernel, by decide +kernel⟩
abbrev N_Reckoner_is_plain_book : List Str := ["self", "value", "context", "relation"]
theorem sc_Reckoner_is_plain_book : FnScope N_Reckoner_is_plain_book ["self", "value"] (defScope s_Reckoner_is_plain_book) := ⟨rfl, rfl, rfl, by decide +kernel, rfl, by decide +kernel, by decide +kernel⟩
abbrev N_require_word : List Str := ["word"]
theorem sc_require_word : FnScope N_require_word ["word"] (defScope s_require_word) := ⟨rfl, rfl, rfl, by decide +kernel, rfl, by decide +kernel, by decide +kernel⟩
abbrev N_reckoner_of : List Str := ["program", "word"]
theorem sc_reckoner_of : FnScope N_reckoner_of ["program", "word"] (defScope s_reckoner_of) := ⟨rfl, rfl, rfl, by decide +kernel, rfl, by decide +kernel, by decide +kernel⟩
abbrev N_looked : List Str := ["program", "context", "book", "word", "reckoner", "look"]
theorem sc_looked : FnScope N_looked ["program", "context", "book", "word"] (defScope s_looked) := ⟨rfl, rfl, rfl, by decide +kernel, rfl, by decide +kernel, by decide +kernel⟩
abbrev N_reckoned : List Str := ["program", "context", "book", "word", "relation", "look"]
theorem sc_reckoned : FnScope N_reckoned ["program", "context", "book", "word"] (defScope s_reckoned) := ⟨rfl, rfl, rfl, by decide +kernel, rfl, by decide +kernel, by decide +kernel⟩
abbrev N_deed_from : List Str := ["modes", "mode", "end", "one"]
theorem sc_deed_from : FnScope N_deed_from ["modes", "mode", "end"] (defScope s_deed_from) := ⟨rfl, rfl, rfl, by decide +kernel, rfl, by decide +kernel, by decide +kernel⟩
abbrev N_either_of : List Str := ["modes", "terms"]
theorem sc_either_of : FnScope N_either_of ["modes", "terms"] (defScope s_either_of) := ⟨rfl, rfl, rfl, by decide +kernel, rfl, by decide +kernel, by decide +kernel⟩
abbrev N_block_in : List Str := ["space", "relation", "pair"]
theorem sc_block_in : FnScope N_block_in ["space", "relation"] (defScope s_block_in) := ⟨rfl, rfl, rfl, by decide +kernel, rfl, by decide +kernel, by decide +kernel⟩
abbrev N_block_of : List Str := ["modes", "relation", "space"]
theorem sc_block_of : FnScope N_block_of ["modes", "relation"] (defScope s_block_of) := ⟨rfl, rfl, rfl, by decide +kernel, rfl, by decide +kernel, by decide +kernel⟩
abbrev N__law_pail : List Str := ["_law_script", "_law_at", "_law_cell", "_law_great", "_law_mixed"]
theorem sc__law_pail : FnScope N__law_pail ["_law_script", "_law_at"] (defScope s__law_pail) := ⟨rfl, rfl, rfl, by decide +kernel, rfl, by decide +kernel, by decide +kernel⟩
abbrev N__law_dip : List Str := ["_law_pail_here", "_law_total", "_law_found", "_law_one", "_law_two"]
theorem sc__law_dip : FnScope N__law_dip ["_law_pail_here", "_law_total"] (defScope s__law_dip) := ⟨rfl, rfl, rfl, by decide +kernel, rfl, by decide +kernel, by decide +kernel⟩
abbrev N__law_pick : List Str := ["_law_pail_here", "_law_items"]
theorem sc__law_pick : FnScope N__law_pick ["_law_pail_here", "_law_items"] (defScope s__law_pick) := ⟨rfl, rfl, rfl, by decide +kernel, rfl, by decide +kernel, by decide +kernel⟩
abbrev N__law_has : List Str := ["_law_modes", "_law_relation", "_law_mode", "_law_end"]
theorem sc__law_has : FnScope N__law_has ["_law_modes", "_law_relation", "_law_mode", "_law_end"] (defScope s__law_has) := ⟨rfl, rfl, rfl, by decide +kernel, rfl, by decide +kernel, by decide +kernel⟩
abbrev N__law_bit : List Str := ["_law_modes", "_law_mode", "_law_end"]
theorem sc__law_bit : FnScope N__law_bit ["_law_modes", "_law_mode", "_law_end"] (defScope s__law_bit) := ⟨rfl, rfl, rfl, by decide +kernel, rfl, by decide +kernel, by decide +kernel⟩
abbrev N__law_size : List Str := ["_law_modes"]
theorem sc__law_size : FnScope N__law_size ["_law_modes"] (defScope s__law_size) := ⟨rfl, rfl, rfl, by decide +kernel, rfl, by decide +kernel, by decide +kernel⟩
abbrev N__law_after : List Str := ["_law_modes", "_law_one", "_law_other", "_law_found", "_law_mode", "_law_end", "_law_ways", "_law_is_led", "_law_way"]
theorem sc__law_after : FnScope N__law_after ["_law_modes", "_law_one", "_law_other"] (defScope s__law_after) := ⟨rfl, rfl, rfl, by decide +kernel, rfl, by decide +kernel, by decide +kernel⟩
abbrev N__law_either : List Str := ["_law_modes", "_law_one", "_law_other", "_law_found", "_law_mode", "_law_end", "_law_is_there"]
theorem sc__law_either : FnScope N__law_either ["_law_modes", "_law_one", "_law_other"] (defScope s__law_either) := ⟨rfl, rfl, rfl, by decide +kernel, rfl, by decide +kernel, by decide +kernel⟩
abbrev N__law_asked : List Str := ["_law_book", "_law_asked_here", "_law_context"]
theorem sc__law_asked : FnScope N__law_asked ["_law_book", "_law_asked_here", "_law_context"] (defScope s__law_asked) := ⟨rfl, rfl, rfl, by decide +kernel, rfl, by decide +kernel, by decide +kernel⟩
abbrev N__law_reckon : List Str := ["_law_modes", "_law_term", "_law_mine", "_law_book", "_law_asked_here", "_law_found", "_law_inner", "_law_wrap", "_law_mode", "_law_end"]
theorem sc__law_reckon : FnScope N__law_reckon ["_law_modes", "_law_term", "_law_mine", "_law_book", "_law_asked_here"] (defScope s__law_reckon) := ⟨rfl, rfl, rfl, by decide +kernel, rfl, by decide +kernel, by decide +kernel⟩
abbrev N__law_meanings : List Str := ["_law_modes", "_law_some", "_law_mine", "_law_book", "_law_asked_here", "_law_found", "_law_one", "_law_ahead", "_law_rows_here", "_law_relation", "_law_row"]
theorem sc__law_meanings : FnScope N__law_meanings ["_law_modes", "_law_some", "_law_mine", "_law_book", "_law_asked_here"] (defScope s__law_meanings) := ⟨rfl, rfl, rfl, by decide +kernel, rfl, by decide +kernel, by decide +kernel⟩
abbrev N__law_pieces : List Str := ["_law_term", "_law_found", "_law_at", "_law_one"]
theorem sc__law_pieces : FnScope N__law_pieces ["_law_term"] (defScope s__law_pieces) := ⟨rfl, rfl, rfl, by decide +kernel, rfl, by decide +kernel, by decide +kernel⟩
abbrev N__law_depth : List Str := ["_law_term", "_law_inner"]
theorem sc__law_depth : FnScope N__law_depth ["_law_term"] (defScope s__law_depth) := ⟨rfl, rfl, rfl, by decide +kernel, rfl, by decide +kernel, by decide +kernel⟩
abbrev N__law_is_plain : List Str := ["_law_term", "_law_words", "_law_pieces_here", "_law_one"]
theorem sc__law_is_plain : FnScope N__law_is_plain ["_law_term", "_law_words"] (defScope s__law_is_plain) := ⟨rfl, rfl, rfl, by decide +kernel, rfl, by decide +kernel, by decide +kernel⟩
abbrev N__law_word : List Str := ["_law_call", "e"]
theorem sc__law_word : FnScope N__law_word ["_law_call"] (defScope s__law_word) := ⟨rfl, rfl, rfl, by decide +kernel, rfl, by decide +kernel, by decide +kernel⟩
abbrev N__law_right : List Str := ["_law_pail_here", "_law_modes", "_law_relation", "_law_term", "_law_program", "_law_bad", "_law_none", "_law_told"]
theorem sc__law_right : FnScope N__law_right ["_law_pail_here"] (defScope s__law_right) := ⟨rfl, rfl, rfl, by decide +kernel, rfl, by decide +kernel, by decide +kernel⟩
abbrev N_law : List Str := ["_law_script", "_law_at", "_law_pail_here", "_law_turn", "_law_some", "_law_told", "_law_term"]
theorem sc_law : FnScope N_law ["_law_script"] (defScope s_law) := ⟨rfl, rfl, rfl, by decide +kernel, rfl, by decide +kernel, by decide +kernel⟩
structure Facts (K : PySem.W.Frag) (C_Procedure : Addr) (C_Program : Addr) (C_Space : Addr) (C_Look : Addr) (C_Reckoner : Addr) (C_InvalidProgram : Addr) (C_InvalidMeaning : Addr) (C_InvalidOperation : Addr) (C_InvalidNumber : Addr) (c__law_right : Addr) (P__law_right : Addr) : Prop where
  cls_Procedure : HasCls K "Procedure" C_Procedure
  cls_Program : HasCls K "Program" C_Program
  cls_Space : HasCls K "Space" C_Space
  cls_Look : HasCls K "Look" C_Look
  cls_Reckoner : HasCls K "Reckoner" C_Reckoner
  d_is_integer : HasDef K "is_integer" s_is_integer
  d_is_from : HasDef K "is_from" s_is_from
  d_is_name : HasDef K "is_name" s_is_name
  d_has_word : HasDef K "has_word" s_has_word
  d_is_deed_table : HasDef K "is_deed_table" s_is_deed_table
  d_is_kind : HasDef K "is_kind" s_is_kind
  d_is_term_in : HasDef K "is_term_in" s_is_term_in
  d_is_wrap_in : HasDef K "is_wrap_in" s_is_wrap_in
  d_is_piece : HasDef K "is_piece" s_is_piece
  d_are_given : HasDef K "are_given" s_are_given
  d_inside : HasDef K "inside" s_inside
  d_pieces_of : HasDef K "pieces_of" s_pieces_of
  d_are_parameters : HasDef K "are_parameters" s_are_parameters
  d_is_body : HasDef K "is_body" s_is_body
  d_is_term : HasDef K "is_term" s_is_term
  d_kind_of : HasDef K "kind_of" s_kind_of
  d_are_fit : HasDef K "are_fit" s_are_fit
  d_require_program : HasDef K "require_program" s_require_program
  d_require_word : HasDef K "require_word" s_require_word
  d_reckoner_of : HasDef K "reckoner_of" s_reckoner_of
  d_looked : HasDef K "looked" s_looked
  d_reckoned : HasDefK K "reckoned" s_reckoned [("word", .non)]
  d_deed_from : HasDef K "deed_from" s_deed_from
  d_either_of : HasDef K "either_of" s_either_of
  d_block_in : HasDef K "block_in" s_block_in
  d_block_of : HasDef K "block_of" s_block_of
  d__law_pail : HasDef K "_law_pail" s__law_pail
  d__law_dip : HasDef K "_law_dip" s__law_dip
  d__law_pick : HasDef K "_law_pick" s__law_pick
  d__law_has : HasDef K "_law_has" s__law_has
  d__law_bit : HasDef K "_law_bit" s__law_bit
  d__law_size : HasDef K "_law_size" s__law_size
  d__law_after : HasDef K "_law_after" s__law_after
  d__law_either : HasDef K "_law_either" s__law_either
  d__law_asked : HasDef K "_law_asked" s__law_asked
  d__law_reckon : HasDef K "_law_reckon" s__law_reckon
  d__law_meanings : HasDef K "_law_meanings" s__law_meanings
  d__law_pieces : HasDef K "_law_pieces" s__law_pieces
  d__law_depth : HasDef K "_law_depth" s__law_depth
  d__law_is_plain : HasDef K "_law_is_plain" s__law_is_plain
  d__law_word : HasDef K "_law_word" s__law_word
  d__law_right : HasDef K "_law_right" s__law_right
  d_law : HasDef K "law" s_law
  m_Procedure___init__ : HasMeth K C_Procedure "__init__" "Procedure.__init__" s_Procedure___init__
  m_Procedure___len__ : HasMeth K C_Procedure "__len__" "Procedure.__len__" s_Procedure___len__
  m_Procedure___eq__ : HasMeth K C_Procedure "__eq__" "Procedure.__eq__" s_Procedure___eq__
  m_Procedure___str__ : HasMeth K C_Procedure "__str__" "Procedure.__str__" s_Procedure___str__
  m_Program___init__ : HasMeth K C_Program "__init__" "Program.__init__" s_Program___init__
  m_Program_has_name : HasMeth K C_Program "has_name" "Program.has_name" s_Program_has_name
  m_Program___contains__ : HasMeth K C_Program "__contains__" "Program.__contains__" s_Program___contains__
  m_Program___len__ : HasMeth K C_Program "__len__" "Program.__len__" s_Program___len__
  m_Program___eq__ : HasMeth K C_Program "__eq__" "Program.__eq__" s_Program___eq__
  m_Program___str__ : HasMeth K C_Program "__str__" "Program.__str__" s_Program___str__
  i_Space : HasInitK K C_Space "Space.__init__" s_Space___init__ [("watched", (.bl false))]
  m_Space_bit : HasMeth K C_Space "bit" "Space.bit" s_Space_bit
  m_Space_has : HasMeth K C_Space "has" "Space.has" s_Space_has
  m_Space_is_relation : HasMeth K C_Space "is_relation" "Space.is_relation" s_Space_is_relation
  m_Space_require_relation : HasMeth K C_Space "require_relation" "Space.require_relation" s_Space_require_relation
  m_Space_pairs : HasMeth K C_Space "pairs" "Space.pairs" s_Space_pairs
  m_Space_after : HasMeth K C_Space "after" "Space.after" s_Space_after
  m_Space_is_led : HasMeth K C_Space "is_led" "Space.is_led" s_Space_is_led
  m_Space_is_table : HasMeth K C_Space "is_table" "Space.is_table" s_Space_is_table
  m_Look___init__ : HasMeth K C_Look "__init__" "Look.__init__" s_Look___init__
  m_Look_found : HasMeth K C_Look "found" "Look.found" s_Look_found
  m_Reckoner___init__ : HasMeth K C_Reckoner "__init__" "Reckoner.__init__" s_Reckoner___init__
  m_Reckoner_deed : HasMeth K C_Reckoner "deed" "Reckoner.deed" s_Reckoner_deed
  m_Reckoner_term : HasMeth K C_Reckoner "term" "Reckoner.term" s_Reckoner_term
  m_Reckoner_around : HasMeth K C_Reckoner "around" "Reckoner.around" s_Reckoner_around
  m_Reckoner_table : HasMeth K C_Reckoner "table" "Reckoner.table" s_Reckoner_table
  m_Reckoner_meaning : HasMeth K C_Reckoner "meaning" "Reckoner.meaning" s_Reckoner_meaning
  m_Reckoner_given : HasMeth K C_Reckoner "given" "Reckoner.given" s_Reckoner_given
  m_Reckoner_own_meanings : HasMeth K C_Reckoner "own_meanings" "Reckoner.own_meanings" s_Reckoner_own_meanings
  m_Reckoner_reckon : HasMeth K C_Reckoner "reckon" "Reckoner.reckon" s_Reckoner_reckon
  m_Reckoner_is_meaning : HasMeth K C_Reckoner "is_meaning" "Reckoner.is_meaning" s_Reckoner_is_meaning
  m_Reckoner_is_context : HasMeth K C_Reckoner "is_context" "Reckoner.is_context" s_Reckoner_is_context
  m_Reckoner_is_plain_book : HasMeth K C_Reckoner "is_plain_book" "Reckoner.is_plain_book" s_Reckoner_is_plain_book
  n_Procedure_own_name : NoAttr K C_Procedure "own_name"
  n_Procedure_own_parameters : NoAttr K C_Procedure "own_parameters"
  n_Procedure_own_body : NoAttr K C_Procedure "own_body"
  n_Procedure_own_kinds : NoAttr K C_Procedure "own_kinds"
  n_Procedure_own_pieces : NoAttr K C_Procedure "own_pieces"
  n_Procedure_own_shape : NoAttr K C_Procedure "own_shape"
  n_Program_own_has_wraps : NoAttr K C_Program "own_has_wraps"
  n_Program_own_modes : NoAttr K C_Program "own_modes"
  n_Space_own_modes : NoAttr K C_Space "own_modes"
  n_Program_own_procedures : NoAttr K C_Program "own_procedures"
  n_Program_own_table : NoAttr K C_Program "own_table"
  n_Space_own_watched : NoAttr K C_Space "own_watched"
  n_Space_own_ends : NoAttr K C_Space "own_ends"
  n_Space_own_powers : NoAttr K C_Space "own_powers"
  n_Space_own_size : NoAttr K C_Space "own_size"
  n_Space_own_same : NoAttr K C_Space "own_same"
  n_Look_own_book : NoAttr K C_Look "own_book"
  n_Look_own_asked : NoAttr K C_Look "own_asked"
  n_Reckoner_own_program : NoAttr K C_Reckoner "own_program"
  n_Reckoner_own_word : NoAttr K C_Reckoner "own_word"
  n_Reckoner_own_space : NoAttr K C_Reckoner "own_space"
  x_InvalidProgram : XCls K "InvalidProgram" C_InvalidProgram
  x_InvalidMeaning : XCls K "InvalidMeaning" C_InvalidMeaning
  x_InvalidOperation : XCls K "InvalidOperation" C_InvalidOperation
  xe_InvalidNumber : XErr K "InvalidNumber" C_InvalidNumber "InvalidNumber.__init__" s_InvalidNumber___init__ "value" "IndexError" "IndexError.__new__" "IndexError.__init__" [.type "IndexError", .type "LookupError", .type "Exception", .type "BaseException", .type "object"]
  zb_InvalidNumber : PySem.W.nsIn K mainGlobals "IndexError" = some none
  em_InvalidProgram_InvalidProgram : PySem.W.exmOne K (.ref C_InvalidProgram) (.ref C_InvalidProgram) = some true
  em_InvalidProgram_InvalidMeaning : PySem.W.exmOne K (.ref C_InvalidProgram) (.ref C_InvalidMeaning) = some false
  em_InvalidProgram_InvalidOperation : PySem.W.exmOne K (.ref C_InvalidProgram) (.ref C_InvalidOperation) = some false
  em_InvalidProgram_InvalidNumber : PySem.W.exmOne K (.ref C_InvalidProgram) (.ref C_InvalidNumber) = some false
  em_InvalidMeaning_InvalidProgram : PySem.W.exmOne K (.ref C_InvalidMeaning) (.ref C_InvalidProgram) = some false
  em_InvalidMeaning_InvalidMeaning : PySem.W.exmOne K (.ref C_InvalidMeaning) (.ref C_InvalidMeaning) = some true
  em_InvalidMeaning_InvalidOperation : PySem.W.exmOne K (.ref C_InvalidMeaning) (.ref C_InvalidOperation) = some false
  em_InvalidMeaning_InvalidNumber : PySem.W.exmOne K (.ref C_InvalidMeaning) (.ref C_InvalidNumber) = some false
  em_InvalidOperation_InvalidProgram : PySem.W.exmOne K (.ref C_InvalidOperation) (.ref C_InvalidProgram) = some false
  em_InvalidOperation_InvalidMeaning : PySem.W.exmOne K (.ref C_InvalidOperation) (.ref C_InvalidMeaning) = some false
  em_InvalidOperation_InvalidOperation : PySem.W.exmOne K (.ref C_InvalidOperation) (.ref C_InvalidOperation) = some true
  em_InvalidOperation_InvalidNumber : PySem.W.exmOne K (.ref C_InvalidOperation) (.ref C_InvalidNumber) = some false
  em_InvalidNumber_InvalidProgram : PySem.W.exmOne K (.ref C_InvalidNumber) (.ref C_InvalidProgram) = some false
  em_InvalidNumber_InvalidMeaning : PySem.W.exmOne K (.ref C_InvalidNumber) (.ref C_InvalidMeaning) = some false
  em_InvalidNumber_InvalidOperation : PySem.W.exmOne K (.ref C_InvalidNumber) (.ref C_InvalidOperation) = some false
  em_InvalidNumber_InvalidNumber : PySem.W.exmOne K (.ref C_InvalidNumber) (.ref C_InvalidNumber) = some true
  dc__law_right : HasDefC K "_law_right" s__law_right c__law_right
  tb__law_right : HasTab K c__law_right P__law_right
  ne_Procedure : PySem.W.findIn K (.ref C_Procedure) "__ne__" = some (some (.builtin "object.__ne__"))
  kt_NoneType : PySem.W.kitOne K (.type "NoneType") (.ref C_Procedure) = some false
  nf_NoneType : PySem.W.notFirst K C_Procedure (.type "NoneType") = true
  kt_bool : PySem.W.kitOne K (.type "bool") (.ref C_Procedure) = some false
  nf_bool : PySem.W.notFirst K C_Procedure (.type "bool") = true
  kt_int : PySem.W.kitOne K (.type "int") (.ref C_Procedure) = some false
  nf_int : PySem.W.notFirst K C_Procedure (.type "int") = true
  kt_str : PySem.W.kitOne K (.type "str") (.ref C_Procedure) = some false
  nf_str : PySem.W.notFirst K C_Procedure (.type "str") = true
  kt_list : PySem.W.kitOne K (.type "list") (.ref C_Procedure) = some false
  nf_list : PySem.W.notFirst K C_Procedure (.type "list") = true
  kt_tuple : PySem.W.kitOne K (.type "tuple") (.ref C_Procedure) = some false
  nf_tuple : PySem.W.notFirst K C_Procedure (.type "tuple") = true
  kt_dict : PySem.W.kitOne K (.type "dict") (.ref C_Procedure) = some false
  nf_dict : PySem.W.notFirst K C_Procedure (.type "dict") = true
  mr_str : PySem.W.mroIn K C_Procedure (.type "str") = some false
  mr_tuple : PySem.W.mroIn K C_Procedure (.type "tuple") = some false
  ktg_NoneType : PySem.W.kitOne K (.type "NoneType") (.ref C_Program) = some false
  nfg_NoneType : PySem.W.notFirst K C_Program (.type "NoneType") = true
  ktg_bool : PySem.W.kitOne K (.type "bool") (.ref C_Program) = some false
  nfg_bool : PySem.W.notFirst K C_Program (.type "bool") = true
  ktg_int : PySem.W.kitOne K (.type "int") (.ref C_Program) = some false
  nfg_int : PySem.W.notFirst K C_Program (.type "int") = true
  ktg_str : PySem.W.kitOne K (.type "str") (.ref C_Program) = some false
  nfg_str : PySem.W.notFirst K C_Program (.type "str") = true
  ktg_list : PySem.W.kitOne K (.type "list") (.ref C_Program) = some false
  nfg_list : PySem.W.notFirst K C_Program (.type "list") = true
  ktg_tuple : PySem.W.kitOne K (.type "tuple") (.ref C_Program) = some false
  nfg_tuple : PySem.W.notFirst K C_Program (.type "tuple") = true
  ktg_dict : PySem.W.kitOne K (.type "dict") (.ref C_Program) = some false
  nfg_dict : PySem.W.notFirst K C_Program (.type "dict") = true
  kit_GP : PySem.W.kitOne K (.ref C_Program) (.ref C_Procedure) = some false
  kit_PG : PySem.W.kitOne K (.ref C_Procedure) (.ref C_Program) = some false
  z_IndexError : PySem.W.nsIn K mainGlobals "IndexError" = some none
  z_KeyError : PySem.W.nsIn K mainGlobals "KeyError" = some none
  z_abs : PySem.W.nsIn K mainGlobals "abs" = some none
  z_all : PySem.W.nsIn K mainGlobals "all" = some none
  z_any : PySem.W.nsIn K mainGlobals "any" = some none
  z_bool : PySem.W.nsIn K mainGlobals "bool" = some none
  z_dict : PySem.W.nsIn K mainGlobals "dict" = some none
  z_enumerate : PySem.W.nsIn K mainGlobals "enumerate" = some none
  z_int : PySem.W.nsIn K mainGlobals "int" = some none
  z_isinstance : PySem.W.nsIn K mainGlobals "isinstance" = some none
  z_len : PySem.W.nsIn K mainGlobals "len" = some none
  z_list : PySem.W.nsIn K mainGlobals "list" = some none
  z_max : PySem.W.nsIn K mainGlobals "max" = some none
  z_min : PySem.W.nsIn K mainGlobals "min" = some none
  z_range : PySem.W.nsIn K mainGlobals "range" = some none
  z_repr : PySem.W.nsIn K mainGlobals "repr" = some none
  z_str : PySem.W.nsIn K mainGlobals "str" = some none
  z_sum : PySem.W.nsIn K mainGlobals "sum" = some none
  z_tuple : PySem.W.nsIn K mainGlobals "tuple" = some none
  z_zip : PySem.W.nsIn K mainGlobals "zip" = some none
  c_LETTERS : ∃ t, PySem.W.nsIn K mainGlobals "LETTERS" = some (some (.str "abcdefghijklmnopqrstuvwxyz" t))
  c_MAX_LETTERS : ∃ t, PySem.W.nsIn K mainGlobals "MAX_LETTERS" = some (some (.int 8 t))
  c_BLOCK : ∃ t, PySem.W.nsIn K mainGlobals "BLOCK" = some (some (.str "block" t))
  c_WRAP : ∃ t, PySem.W.nsIn K mainGlobals "WRAP" = some (some (.str "wrap" t))
  c_TERM_WORDS : KStrs K "TERM_WORDS" ["do", "seq", "or", "run", "call", "wrap"]
  c_WRAP_WORDS : KStrs K "WRAP_WORDS" ["own", "with"]
  c_MAX_PARAMETERS : ∃ t, PySem.W.nsIn K mainGlobals "MAX_PARAMETERS" = some (some (.int 3 t))
  c_MAX_DEPTH : ∃ t, PySem.W.nsIn K mainGlobals "MAX_DEPTH" = some (some (.int 6 t))
  c_MAX_TERMS : ∃ t, PySem.W.nsIn K mainGlobals "MAX_TERMS" = some (some (.int 40 t))
  c_MAX_MODES : ∃ t, PySem.W.nsIn K mainGlobals "MAX_MODES" = some (some (.int 3 t))
  c_MAIN : ∃ t, PySem.W.nsIn K mainGlobals "MAIN" = some (some (.str "main" t))
  c_MAX_PROCEDURES : ∃ t, PySem.W.nsIn K mainGlobals "MAX_PROCEDURES" = some (some (.int 8 t))
  c_GO : ∃ t, PySem.W.nsIn K mainGlobals "GO" = some (some (.str "go" t))
/-- the built-ins' names are free; the module's constants -/
structure Zs (mg : Str → Option Value) : Prop where
  IndexError : mg "IndexError" = none
  KeyError : mg "KeyError" = none
  abs : mg "abs" = none
  all : mg "all" = none
  any : mg "any" = none
  bool : mg "bool" = none
  dict : mg "dict" = none
  enumerate : mg "enumerate" = none
  int : mg "int" = none
  isinstance : mg "isinstance" = none
  len : mg "len" = none
  list : mg "list" = none
  max : mg "max" = none
  min : mg "min" = none
  range : mg "range" = none
  repr : mg "repr" = none
  str : mg "str" = none
  sum : mg "sum" = none
  tuple : mg "tuple" = none
  zip : mg "zip" = none
  c_LETTERS : ∃ t, mg "LETTERS" = some (.str "abcdefghijklmnopqrstuvwxyz" t)
  c_MAX_LETTERS : ∃ t, mg "MAX_LETTERS" = some (.int 8 t)
  c_BLOCK : ∃ t, mg "BLOCK" = some (.str "block" t)
  c_WRAP : ∃ t, mg "WRAP" = some (.str "wrap" t)
  c_MAX_PARAMETERS : ∃ t, mg "MAX_PARAMETERS" = some (.int 3 t)
  c_MAX_DEPTH : ∃ t, mg "MAX_DEPTH" = some (.int 6 t)
  c_MAX_TERMS : ∃ t, mg "MAX_TERMS" = some (.int 40 t)
  c_MAX_MODES : ∃ t, mg "MAX_MODES" = some (.int 3 t)
  c_MAIN : ∃ t, mg "MAIN" = some (.str "main" t)
  c_MAX_PROCEDURES : ∃ t, mg "MAX_PROCEDURES" = some (.int 8 t)
  c_GO : ∃ t, mg "GO" = some (.str "go" t)
theorem zs_of {K : PySem.W.Frag} {mg : Str → Option Value} {C_Procedure : Addr} {C_Program : Addr} {C_Space : Addr} {C_Look : Addr} {C_Reckoner : Addr} {C_InvalidProgram : Addr} {C_InvalidMeaning : Addr} {C_InvalidOperation : Addr} {C_InvalidNumber : Addr} {c__law_right : Addr} {P__law_right : Addr} (A : Facts K C_Procedure C_Program C_Space C_Look C_Reckoner C_InvalidProgram C_InvalidMeaning C_InvalidOperation C_InvalidNumber c__law_right P__law_right) (M : MgOf K mg) : Zs mg where
  IndexError := M.of _ _ A.z_IndexError
  KeyError := M.of _ _ A.z_KeyError
  abs := M.of _ _ A.z_abs
  all := M.of _ _ A.z_all
  any := M.of _ _ A.z_any
  bool := M.of _ _ A.z_bool
  dict := M.of _ _ A.z_dict
  enumerate := M.of _ _ A.z_enumerate
  int := M.of _ _ A.z_int
  isinstance := M.of _ _ A.z_isinstance
  len := M.of _ _ A.z_len
  list := M.of _ _ A.z_list
  max := M.of _ _ A.z_max
  min := M.of _ _ A.z_min
  range := M.of _ _ A.z_range
  repr := M.of _ _ A.z_repr
  str := M.of _ _ A.z_str
  sum := M.of _ _ A.z_sum
  tuple := M.of _ _ A.z_tuple
  zip := M.of _ _ A.z_zip
  c_LETTERS := let ⟨_, e⟩ := A.c_LETTERS; ⟨_, M.of _ _ e⟩
  c_MAX_LETTERS := let ⟨_, e⟩ := A.c_MAX_LETTERS; ⟨_, M.of _ _ e⟩
  c_BLOCK := let ⟨_, e⟩ := A.c_BLOCK; ⟨_, M.of _ _ e⟩
  c_WRAP := let ⟨_, e⟩ := A.c_WRAP; ⟨_, M.of _ _ e⟩
  c_MAX_PARAMETERS := let ⟨_, e⟩ := A.c_MAX_PARAMETERS; ⟨_, M.of _ _ e⟩
  c_MAX_DEPTH := let ⟨_, e⟩ := A.c_MAX_DEPTH; ⟨_, M.of _ _ e⟩
  c_MAX_TERMS := let ⟨_, e⟩ := A.c_MAX_TERMS; ⟨_, M.of _ _ e⟩
  c_MAX_MODES := let ⟨_, e⟩ := A.c_MAX_MODES; ⟨_, M.of _ _ e⟩
  c_MAIN := let ⟨_, e⟩ := A.c_MAIN; ⟨_, M.of _ _ e⟩
  c_MAX_PROCEDURES := let ⟨_, e⟩ := A.c_MAX_PROCEDURES; ⟨_, M.of _ _ e⟩
  c_GO := let ⟨_, e⟩ := A.c_GO; ⟨_, M.of _ _ e⟩
theorem D_InvalidNumber___init__ {P : Program} {w : World} {K : PySem.W.Frag} {mg : Str → Option Value} {base : Heap} {C_Procedure : Addr} {C_Program : Addr} {C_Space : Addr} {C_Look : Addr} {C_Reckoner : Addr} {C_InvalidProgram : Addr} {C_InvalidMeaning : Addr} {C_InvalidOperation : Addr} {C_InvalidNumber : Addr} {c__law_right : Addr} {P__law_right : Addr} (A : Facts K C_Procedure C_Program C_Space C_Look C_Reckoner C_InvalidProgram C_InvalidMeaning C_InvalidOperation C_InvalidNumber c__law_right P__law_right) (M : MgOf K mg) (Z : Zs mg) : KnErr P w K mg base "InvalidNumber" C_InvalidNumber "value" 1 :=
  KnErr.of A.xe_InvalidNumber M sc_InvalidNumber___init__ (fun _ _ _ _ _ _ us hl => match us, hl with | [_, _], _ => rfl) fun fI cdv A0 outer s H E => ⟨_, pss_cons (ps_expr (pe_binit (nB := "IndexError") (by rfl) (M.of _ _ A.zb_InvalidNumber) rfl (by decide) (by decide) rfl A.xe_InvalidNumber.vV (by decide +kernel) (by decide +kernel) (pa_cons (pe_var (i := 0) rfl (Or.inl rfl)) (pa_cons (pe_var (i := 1) rfl (Or.inl rfl)) pa_nil)))) (pss_one (ps_ostT (pe_var (i := 0) rfl (Or.inl rfl)) (pe_var (i := 1) rfl (Or.inl rfl)))), fun a v Q ha q => err_end A.xe_InvalidNumber.T A.xe_InvalidNumber.no ha q⟩
def isI : Da → Bool
  | .int _ => true
  | _ => false
def isFr (x : Da) (a b : Int) : Bool := match x with
  | .int i => decide (a ≤ i) && decide (i ≤ b)
  | _ => false
def spIsInt : DSp := fun ds M Q _ => ∃ x, ds = [x] ∧ pv x ∧ Q (.bl (isI x)) M
def spIsFrom : DSp := fun ds M Q _ => ∃ x a b, ds = [x, .int a, .int b] ∧ pv x ∧ Q (.bl (isFr x a b)) M
def spIsName : DSp := fun ds M Q _ => ∃ x, ds = [x] ∧ pv x ∧ Q (.bl (nameD x)) M
theorem D_is_integer {P : Program} {w : World} {K : PySem.W.Frag} {mg : Str → Option Value} {base : Heap} {C_Procedure : Addr} {C_Program : Addr} {C_Space : Addr} {C_Look : Addr} {C_Reckoner : Addr} {C_InvalidProgram : Addr} {C_InvalidMeaning : Addr} {C_InvalidOperation : Addr} {C_InvalidNumber : Addr} {c__law_right : Addr} {P__law_right : Addr} (A : Facts K C_Procedure C_Program C_Space C_Look C_Reckoner C_InvalidProgram C_InvalidMeaning C_InvalidOperation C_InvalidNumber c__law_right P__law_right) (M : MgOf K mg) (Z : Zs mg)  : KnD P w K mg base "is_integer" 1 ["value"] spIsInt := by
  refine KnD.of A.d_is_integer M sc_is_integer (fun _ _ _ _ _ _ us hl => match us, hl with | [_], _ => rfl) (fun ds M Q E ⟨_, h, _⟩ => by rw [h]; rfl) (fun f cdv A0 outer s H E hr => ?_)
  have hu := U.hu_of hr
  have hu1 := U.hu1_of hr
  have nd := sc_is_integer.nd
  refine ⟨_, (z_one (z_ret (d_eand (d_b Z.isinstance b_isinstance (c_disiK (K := K) rfl) (d_cons (dn 0) (d_cons (d_ty Z.int b_int) d_nil))) (d_one (d_enot (d_b Z.isinstance b_isinstance (c_disiK (K := K) rfl) (d_cons (dn 0) (d_cons (d_ty Z.bool b_bool) d_nil)))))))), ?_⟩
  rintro ds M Q Ed ⟨x, rfl, ok, k⟩
  cases ok with
  | non => exact ⟨by decide, ifF (by decide) k⟩
  | bl b => exact ⟨by decide, ifT (by decide) ⟨by decide, k⟩⟩
  | int b => exact ⟨by decide, ifT (by decide) ⟨by decide, k⟩⟩
  | str b => exact ⟨by decide, ifF (by decide) k⟩
  | lst b => exact ⟨by decide, ifF (by decide) k⟩
  | tup b => exact ⟨by decide, ifF (by decide) k⟩
  | dct b => exact ⟨by decide, ifF (by decide) k⟩
theorem D_is_from {P : Program} {w : World} {K : PySem.W.Frag} {mg : Str → Option Value} {base : Heap} {C_Procedure : Addr} {C_Program : Addr} {C_Space : Addr} {C_Look : Addr} {C_Reckoner : Addr} {C_InvalidProgram : Addr} {C_InvalidMeaning : Addr} {C_InvalidOperation : Addr} {C_InvalidNumber : Addr} {c__law_right : Addr} {P__law_right : Addr} (A : Facts K C_Procedure C_Program C_Space C_Look C_Reckoner C_InvalidProgram C_InvalidMeaning C_InvalidOperation C_InvalidNumber c__law_right P__law_right) (M : MgOf K mg) (Z : Zs mg) (D_is_integer : KnD P w K mg base "is_integer" 1 ["value"] spIsInt) : KnD P w K mg base "is_from" 2 ["value", "first", "last"] spIsFrom := by
  refine KnD.of A.d_is_from M sc_is_from (fun _ _ _ _ _ _ us hl => match us, hl with | [_, _, _], _ => rfl) (fun ds M Q E ⟨_, _, _, h, _⟩ => by rw [h]; rfl) (fun f cdv A0 outer s H E hr => ?_)
  have hu := U.hu_of hr
  have hu1 := U.hu1_of hr
  have nd := sc_is_from.nd
  refine ⟨_, (z_one (z_ret (d_eand (d_call D_is_integer (hr.mono (by decide)) (d_cons (dn 0) d_nil)) (d_one (d_ech o_dle o_dle (dn 1) (dn 0) (dn 2)))))), ?_⟩
  rintro ds M Q Ed ⟨x, a, b, rfl, ok, k⟩
  refine ⟨x, rfl, ok, ?_⟩
  cases ok with
  | int i =>
    refine ifT rfl ?_
    show if _ then _ else _
    cases c : decide (a ≤ i) with
    | true =>
      have e : isFr (.int i) a b = decide (i ≤ b) := by show (decide _ && _) = _; rw [c]; rfl
      rw [e] at k
      exact ifT rfl k
    | false =>
      have e : isFr (.int i) a b = false := by show (decide _ && _) = _; rw [c]; rfl
      rw [e] at k
      exact ifF (by decide) k
  | _ => exact ifF Bool.false_ne_true k
theorem D_is_name {P : Program} {w : World} {K : PySem.W.Frag} {mg : Str → Option Value} {base : Heap} {C_Procedure : Addr} {C_Program : Addr} {C_Space : Addr} {C_Look : Addr} {C_Reckoner : Addr} {C_InvalidProgram : Addr} {C_InvalidMeaning : Addr} {C_InvalidOperation : Addr} {C_InvalidNumber : Addr} {c__law_right : Addr} {P__law_right : Addr} (A : Facts K C_Procedure C_Program C_Space C_Look C_Reckoner C_InvalidProgram C_InvalidMeaning C_InvalidOperation C_InvalidNumber c__law_right P__law_right) (M : MgOf K mg) (Z : Zs mg)  : KnD P w K mg base "is_name" 1 ["value"] spIsName := by
  refine KnD.of A.d_is_name M sc_is_name (fun _ _ _ _ _ _ us hl => match us, hl with | [_], _ => rfl) (fun ds M Q E ⟨_, h, _⟩ => by rw [h]; rfl) (fun f cdv A0 outer s H E hr => ?_)
  have hu := U.hu_of hr
  have hu1 := U.hu1_of hr
  have nd := sc_is_name.nd
  refine ⟨_, (z_cons (z_if (d_w (d_or (d_tnot (d_tv (d_b Z.isinstance b_isinstance (c_disiK (K := K) rfl) (d_cons (dn 0) (d_cons (d_ty Z.str b_str) d_nil))))) (d_or1 (d_tnot (d_tch o_dlt o_dle d_int (d_b Z.len b_len c_dlen (d_cons (dn 0) d_nil)) (d_gi Z.c_MAX_LETTERS)))))) (z_one (z_ret d_bl)) z_nil)
      (z_one (z_ret (d_b Z.all b_all (c_dall rfl) (d_cons (d_lc (own := [("letter", 1)]) (c := (.n 1)) rfl nd (d_it (dn 0)) (blkOk_by (own := [("letter", 1)]) (N := N_is_name) (sc := defScope s_is_name) (by decide +kernel)) (fun _ _ _ _ _ => (gn 1 nd)) (fun _ _ _ _ _ => d_ts0) (fun _ _ _ _ _ => (d_ecm o_dinC (dn 1) (d_gs Z.c_LETTERS)))) d_nil))))), ?_⟩
  rintro ds M Q Ed ⟨x, rfl, ok, k⟩
  cases ok with
  | str z hz =>
    have hl : z.length = z.cps.toList.length := by rw [Array.length_toList]; rfl
    refine ⟨by decide, ifF (by decide) ?_⟩
    have no : nameZ z = false → Q (.bl false) M := fun e => by
      have k' : Q (.bl (nameZ z)) M := k
      rw [e] at k'
      exact k'
    refine ⟨sz (by omega), ite2 (fun c => ?_) (fun c => ?_)⟩
    · have c' : 0 < z.length := by have := of_decide_eq_true c; omega
      refine ite2 (fun c2 => ?_) (fun c2 => ?_)
      · refine no ?_
        unfold nameZ
        rw [decide_eq_false (p := z.length ≤ 8) (fun h => by rw [decide_eq_true (by omega)] at c2; cases c2), Bool.and_false, Bool.false_and]
      · have c8 : z.length ≤ 8 := by
          apply Classical.byContradiction
          intro h
          exact c2 (by rw [decide_eq_false (by omega)]; rfl)
        refine ⟨sz (by unfold chrD; rw [List.length_map, ← hl]; omega), ?_⟩
        refine lcD_all (fun c => Da.bl (decide (c ∈ ("abcdefghijklmnopqrstuvwxyz" : Str).cps.toList))) (fun _ _ => trivial) (fun c _ Q q => ⟨c, _, rfl, rfl, q⟩) ?_
        refine ⟨_, asBls_fun _ _, ?_⟩
        have e : ((z.cps.toList.map fun c => decide (c ∈ ("abcdefghijklmnopqrstuvwxyz" : Str).cps.toList)).all id) = nameZ z := by
          unfold nameZ
          rw [decide_eq_true c', decide_eq_true c8, Bool.true_and, Bool.true_and, List.all_map]
          congr 1
          funext c
          exact letters c
        rw [e]
        exact k
    · refine ifT (by rfl) (no ?_)
      unfold nameZ
      rw [decide_eq_false (fun h => c (decide_eq_true (by omega)))]
      rfl
  | _ => exact ⟨by decide, ifT (by decide) (ifT (by rfl) k)⟩

def hasW (ws : List Str) : Da → Bool
  | .tup (.str z :: _) => ws.contains z
  | _ => false
def spHas : DSp := fun ds M Q _ => ∃ x ws, ds = [x, .tup (ws.map Da.str)] ∧ pv x ∧ Q (.bl (hasW ws x)) M
theorem D_has_word {P : Program} {w : World} {K : PySem.W.Frag} {mg : Str → Option Value} {base : Heap} {C_Procedure : Addr} {C_Program : Addr} {C_Space : Addr} {C_Look : Addr} {C_Reckoner : Addr} {C_InvalidProgram : Addr} {C_InvalidMeaning : Addr} {C_InvalidOperation : Addr} {C_InvalidNumber : Addr} {c__law_right : Addr} {P__law_right : Addr} (A : Facts K C_Procedure C_Program C_Space C_Look C_Reckoner C_InvalidProgram C_InvalidMeaning C_InvalidOperation C_InvalidNumber c__law_right P__law_right) (M : MgOf K mg) (Z : Zs mg)  : KnD P w K mg base "has_word" 1 ["value", "words"] spHas := by
  refine KnD.of A.d_has_word M sc_has_word (fun _ _ _ _ _ _ us hl => match us, hl with | [_, _], _ => rfl) (fun ds M Q E ⟨_, _, h, _⟩ => by rw [h]; rfl) (fun f cdv A0 outer s H E hr => ?_)
  have hu := U.hu_of hr
  have hu1 := U.hu1_of hr
  have nd := sc_has_word.nd
  refine ⟨_, (z_one (z_ret (d_eand (d_b Z.isinstance b_isinstance (c_disiK (K := K) rfl) (d_cons (dn 0) (d_cons (d_ty Z.tuple b_tuple) d_nil))) (d_eand (d_ecm (o_dneE hu) (dn 0) (d_tup d_nil)) (d_eand (d_b Z.isinstance b_isinstance (c_disiK (K := K) rfl) (d_cons (d_ix (dn 0) d_int) (d_cons (d_ty Z.str b_str) d_nil))) (d_one (d_ecm (o_din hu1) (d_ix (dn 0) d_int) (dn 1)))))))), ?_⟩
  rintro ds M Q Ed ⟨x, ws, rfl, ok, q⟩
  cases ok with
  | tup xs hl hx =>
    refine ⟨by decide, ifT (by decide) ?_⟩
    cases xs with
    | nil => exact ⟨rfl, q⟩
    | cons y ys =>
      refine ⟨rfl, y, (show atI (y :: ys) ((0 : Nat) : Int) = some y from atI_nat rfl), ?_⟩
      have oy := hx y List.mem_cons_self
      cases oy with
      | str z hz =>
        refine ⟨by decide, ifT (by decide) ⟨.str z, (show atI (.str z :: ys) ((0 : Nat) : Int) = some (.str z) from atI_nat rfl), flat_strs ws z, ?_⟩⟩
        rw [inD_strs]
        exact q
      | _ => exact ⟨by decide, ifF (by decide) q⟩
  | _ => exact ⟨by decide, ifF (by decide) q⟩
def isNon : Da → Bool
  | .non => true
  | _ => false
def tableB : Da → Bool
  | .tup xs => (decide (0 < xs.length) && decide (xs.length ≤ 3)) && xs.all fun e => isNon e || isFr e 0 2
  | _ => false
def spTable : DSp := fun ds M Q _ => ∃ x, ds = [x] ∧ pv x ∧ Q (.bl (tableB x)) M
theorem D_is_deed_table {P : Program} {w : World} {K : PySem.W.Frag} {mg : Str → Option Value} {base : Heap} {C_Procedure : Addr} {C_Program : Addr} {C_Space : Addr} {C_Look : Addr} {C_Reckoner : Addr} {C_InvalidProgram : Addr} {C_InvalidMeaning : Addr} {C_InvalidOperation : Addr} {C_InvalidNumber : Addr} {c__law_right : Addr} {P__law_right : Addr} (A : Facts K C_Procedure C_Program C_Space C_Look C_Reckoner C_InvalidProgram C_InvalidMeaning C_InvalidOperation C_InvalidNumber c__law_right P__law_right) (M : MgOf K mg) (Z : Zs mg) (D_is_from : KnD P w K mg base "is_from" 2 ["value", "first", "last"] spIsFrom) : KnD P w K mg base "is_deed_table" 3 ["value"] spTable := by
  refine KnD.of A.d_is_deed_table M sc_is_deed_table (fun _ _ _ _ _ _ us hl => match us, hl with | [_], _ => rfl) (fun ds M Q E ⟨_, h, _⟩ => by rw [h]; rfl) (fun f cdv A0 outer s H E hr => ?_)
  have hu := U.hu_of hr
  have hu1 := U.hu1_of hr
  have nd := sc_is_deed_table.nd
  refine ⟨_, (z_cons (z_if (d_w (d_or (d_tnot (d_tv (d_b Z.isinstance b_isinstance (c_disiK (K := K) rfl) (d_cons (dn 0) (d_cons (d_ty Z.tuple b_tuple) d_nil))))) (d_or1 (d_tnot (d_tch o_dlt o_dle d_int (d_b Z.len b_len c_dlen (d_cons (dn 0) d_nil)) (d_gi Z.c_MAX_MODES)))))) (z_one (z_ret d_bl)) z_nil)
      (z_one (z_ret (d_b Z.all b_all (c_dall rfl) (d_cons (d_lc (own := [("entry", 1)]) (c := (.n 1)) rfl nd (d_it (dn 0)) (blkOk_by (own := [("entry", 1)]) (N := N_is_deed_table) (sc := defScope s_is_deed_table) (by decide +kernel)) (fun _ _ _ _ _ => (gn 1 nd)) (fun _ _ _ _ _ => d_ts0) (fun _ _ _ _ _ => (d_eor (d_ecm o_disN (dn 1) d_non) (d_one (d_call D_is_from (hr.mono (by decide)) (d_cons (dn 1) (d_cons d_int (d_cons (d_op o_dsub (d_gi Z.c_MAX_MODES) d_int) d_nil)))))))) d_nil))))), ?_⟩
  rintro ds M Q Ed ⟨x, rfl, ok, q⟩
  cases ok with
  | tup xs hl hx =>
    have no : (decide (0 < xs.length) && decide (xs.length ≤ 3)) = false → Q (.bl false) M := fun e => by
      have k' : Q (.bl ((decide (0 < xs.length) && decide (xs.length ≤ 3)) && xs.all fun e => isNon e || isFr e 0 2)) M := q
      rw [e] at k'
      exact k'
    refine ⟨by decide, ifF (by decide) (ite2 (fun c => ?_) (fun c => ?_))⟩
    · have c' : 0 < xs.length := by have := of_decide_eq_true c; omega
      refine ite2 (fun c2 => ?_) (fun c2 => ?_)
      · refine no ?_
        rw [decide_eq_false (p := xs.length ≤ 3) (fun h => by rw [decide_eq_true (by omega)] at c2; cases c2), Bool.and_false]
      · have c8 : xs.length ≤ 3 := by
          apply Classical.byContradiction
          intro h
          exact c2 (by rw [decide_eq_false (by omega)]; rfl)
        refine ⟨sz (by omega), ?_⟩
        have key : xs = xs.map id := (List.map_id xs).symm
        rw [key]
        refine lcD_all (fun e => Da.bl (isNon e || isFr e 0 2)) (fun _ _ => trivial) (fun e he Q q => ?_) ?_
        · have oe := hx e he
          cases oe with
          | non => exact q
          | _ => exact ⟨_, 0, 2, rfl, hx _ he, q⟩
        · refine ⟨_, asBls_fun _ _, ?_⟩
          rw [List.all_map]
          have k' : Q (.bl ((decide (0 < xs.length) && decide (xs.length ≤ 3)) && xs.all fun e => isNon e || isFr e 0 2)) M := q
          rw [decide_eq_true c', decide_eq_true c8] at k'
          exact k'
    · refine ifT (by rfl) (no ?_)
      rw [decide_eq_false (fun h => c (decide_eq_true (by omega)))]
      rfl
  | _ => exact ⟨by decide, ifT (by decide) (ifT (by rfl) q)⟩
/-- the names' kinds -/
def KD (kvs : List (Key × Da)) : Prop := ∀ p ∈ kvs, ∃ z, p.2 = .str z
theorem KD.val {kvs : List (Key × Da)} (h : KD kvs) (k : Key) : valD kvs k = none ∨ ∃ z, valD kvs k = some (.str z) := by
  unfold valD
  cases e : kvs.find? fun kv => decide (kv.1 = k) with
  | none => exact .inl rfl
  | some p =>
    obtain ⟨z, hz⟩ := h p (List.mem_of_find?_eq_some e)
    exact .inr ⟨z, by rw [Option.map_some, hz]⟩
def strIs (o : Option Da) (k : Str) : Bool := match o with
  | some (.str z) => decide (z = k)
  | _ => false
def kindB (kvs : List (Key × Da)) (k : Str) : Da → Bool
  | .str z => strIs (valD kvs (.inr z)) k
  | _ => false
def spKind : DSp := fun ds M Q _ => ∃ kvs x k, ds = [.dct kvs, x, .str k] ∧ pv x ∧ KD kvs ∧ PyData.strOk k = true ∧ Q (.bl (kindB kvs k x)) M
theorem D_is_kind {P : Program} {w : World} {K : PySem.W.Frag} {mg : Str → Option Value} {base : Heap} {C_Procedure : Addr} {C_Program : Addr} {C_Space : Addr} {C_Look : Addr} {C_Reckoner : Addr} {C_InvalidProgram : Addr} {C_InvalidMeaning : Addr} {C_InvalidOperation : Addr} {C_InvalidNumber : Addr} {c__law_right : Addr} {P__law_right : Addr} (A : Facts K C_Procedure C_Program C_Space C_Look C_Reckoner C_InvalidProgram C_InvalidMeaning C_InvalidOperation C_InvalidNumber c__law_right P__law_right) (M : MgOf K mg) (Z : Zs mg)  : KnD P w K mg base "is_kind" 1 ["kinds", "value", "kind"] spKind := by
  refine KnD.of A.d_is_kind M sc_is_kind (fun _ _ _ _ _ _ us hl => match us, hl with | [_, _, _], _ => rfl) (fun ds M Q E ⟨_, _, _, h, _⟩ => by rw [h]; rfl) (fun f cdv A0 outer s H E hr => ?_)
  have hu := U.hu_of hr
  have hu1 := U.hu1_of hr
  have nd := sc_is_kind.nd
  refine ⟨_, (z_one (z_ret (d_eand (d_b Z.isinstance b_isinstance (c_disiK (K := K) rfl) (d_cons (dn 1) (d_cons (d_ty Z.str b_str) d_nil))) (d_one (d_ecm (o_deq hu) (d_get hu (dn 0) (dn 1)) (dn 2)))))), ?_⟩
  rintro ds M Q Ed ⟨kvs, x, k, rfl, ok, hk, hs, q⟩
  cases ok with
  | str z hz =>
    refine ⟨by decide, ifT (by decide) ⟨trivial, _, rfl, ?_⟩⟩
    have q' : Q (.bl (strIs (valD kvs (.inr z)) k)) M := q
    rcases hk.val (.inr z) with e | ⟨y, e⟩
    · rw [e] at q' ⊢
      exact ⟨rfl, (okN_str hs (n := 0)).ok (by decide), q'⟩
    · rw [e] at q' ⊢
      exact q'
  | _ => exact ⟨by decide, ifF (by decide) q⟩
def TW : List Str := ["do", "seq", "or", "run", "call", "wrap"]
def WW : List Str := ["own", "with"]
/-- a piece's body, by what is told of the pieces in it -/
def bodyB (r : List Str → Da → Bool) (kvs : List (Key × Da)) (z : Str) (xs : List Da) : Bool :=
  if z = "do" then (match xs with | [w, t] => nameD w && tableB t | _ => false)
  else if z = "seq" then xs.all (r TW)
  else if z = "or" then (match xs with | [] => false | f :: ts => (f :: ts).all (r TW))
  else if z = "run" then (match xs with | [p] => kindB kvs "block" p | _ => false)
  else if z = "own" then (match xs with | [p] => kindB kvs "wrap" p | _ => false)
  else if z = "call" then (match xs with | n :: gs => nameD n && gs.all fun g => r TW g || r WW g | _ => false)
  else if z = "with" then (match xs with | n :: gs => nameD n && gs.all fun g => r TW g || r WW g | _ => false)
  else if z = "wrap" then (match xs with | [w, t] => r WW w && r TW t | _ => false)
  else false
def pcB (kvs : List (Key × Da)) : Nat → List Str → Da → Bool
  | 0, _, _ => false
  | n + 1, ws, .tup (.str z :: xs) => ws.contains z && bodyB (pcB kvs n) kvs z xs
  | _, _, _ => false
def spIn (ws : List Str) (n : Nat) : DSp := fun ds M Q _ => ∃ x kvs, ds = [x, .dct kvs, .int (n : Nat)] ∧ pv x ∧ KD kvs ∧ Q (.bl (pcB kvs n ws x)) M
def spGiven (n : Nat) : DSp := fun ds M Q _ => ∃ xs kvs, ds = [.lst xs, .dct kvs, .int (n : Nat)] ∧ xs.length ≤ 5000 ∧ (∀ x ∈ xs, pv x) ∧ KD kvs ∧ Q (.bl (xs.all fun g => pcB kvs n TW g || pcB kvs n WW g)) M
def spPiece (n : Nat) : DSp := fun ds M Q _ => ∃ z xs kvs m, ds = [.tup (.str z :: xs), .dct kvs, .int (n : Nat)] ∧ n = m + 1 ∧ pv (.tup (.str z :: xs)) ∧ KD kvs ∧ Q (.bl (bodyB (pcB kvs m) kvs z xs)) M
theorem hasW_shape {ws : List Str} {x : Da} (h : hasW ws x = true) : ∃ z xs, x = .tup (.str z :: xs) ∧ ws.contains z = true := by
  cases x with
  | tup ys =>
    cases ys with
    | nil => cases h
    | cons y ys =>
      cases y with
      | str z => exact ⟨z, ys, rfl, h⟩
      | _ => cases h
  | _ => cases h
theorem pcB_no {kvs : List (Key × Da)} {ws : List Str} {x : Da} (h : hasW ws x = false) : ∀ n, pcB kvs n ws x = false
  | 0 => rfl
  | n + 1 => by
    cases x with
    | tup ys =>
      cases ys with
      | nil => rfl
      | cons y ys =>
        cases y with
        | str z =>
          show (ws.contains z && _) = false
          rw [show ws.contains z = false from h]; rfl
        | _ => rfl
    | _ => rfl
theorem pcB_yes {kvs : List (Key × Da)} {ws : List Str} {z : Str} {xs : List Da} (h : ws.contains z = true) (n : Nat) : pcB kvs (n + 1) ws (.tup (.str z :: xs)) = bodyB (pcB kvs n) kvs z xs := by
  show (ws.contains z && _) = _
  rw [h]; rfl
section
variable {P : Program} {w : World} {K : PySem.W.Frag} {mg : Str → Option Value} {base : Heap} {C_Procedure : Addr} {C_Program : Addr} {C_Space : Addr} {C_Look : Addr} {C_Reckoner : Addr} {C_InvalidProgram : Addr} {C_InvalidMeaning : Addr} {C_InvalidOperation : Addr} {C_InvalidNumber : Addr} {c__law_right : Addr} {P__law_right : Addr}
theorem T_is_term_in (A : Facts K C_Procedure C_Program C_Space C_Look C_Reckoner C_InvalidProgram C_InvalidMeaning C_InvalidOperation C_InvalidNumber c__law_right P__law_right) (M : MgOf K mg) (Z : Zs mg) {n : Nat} (D_has_word : KnD P w K mg base "has_word" 1 ["value", "words"] spHas) (D_is_piece : KnD P w K mg base "is_piece" (3 * n + 2) ["value", "kinds", "deep"] (spPiece n)) : KnD P w K mg base "is_term_in" (3 * n + 3) ["value", "kinds", "deep"] (spIn TW n) := by
  refine KnD.of A.d_is_term_in M sc_is_term_in (fun _ _ _ _ _ _ us hl => match us, hl with | [_, _, _], _ => rfl) (fun ds M Q E ⟨_, _, h, _⟩ => by rw [h]; rfl) (fun f cdv A0 outer s H E hr => ?_)
  have hu := U.hu_of hr
  have hu1 := U.hu1_of hr
  have nd := sc_is_term_in.nd
  refine ⟨_, (z_one (z_ret (d_eand (d_call D_has_word (hr.mono (by omega)) (d_cons (dn 0) (d_cons (d_gt M A.c_TERM_WORDS) d_nil))) (d_eand (d_ecm o_dgt (dn 2) d_int) (d_one (d_call D_is_piece (hr.mono (by omega)) (d_cons (dn 0) (d_cons (dn 1) (d_cons (dn 2) d_nil))))))))), ?_⟩
  rintro ds M Q Ed ⟨x, kvs, rfl, ok, hk, q⟩
  refine ⟨x, TW, rfl, ok, ?_⟩
  cases c : hasW TW x with
  | false =>
    rw [pcB_no c] at q
    exact ifF Bool.false_ne_true q
  | true =>
    obtain ⟨z, xs, rfl, hz⟩ := hasW_shape c
    refine ifT rfl ?_
    cases n with
    | zero => exact q
    | succ m =>
      rw [pcB_yes hz] at q
      refine ifT (decide_eq_true (by omega)) ⟨z, xs, kvs, m, rfl, rfl, ok, hk, q⟩
theorem T_is_wrap_in (A : Facts K C_Procedure C_Program C_Space C_Look C_Reckoner C_InvalidProgram C_InvalidMeaning C_InvalidOperation C_InvalidNumber c__law_right P__law_right) (M : MgOf K mg) (Z : Zs mg) {n : Nat} (D_has_word : KnD P w K mg base "has_word" 1 ["value", "words"] spHas) (D_is_piece : KnD P w K mg base "is_piece" (3 * n + 2) ["value", "kinds", "deep"] (spPiece n)) : KnD P w K mg base "is_wrap_in" (3 * n + 3) ["value", "kinds", "deep"] (spIn WW n) := by
  refine KnD.of A.d_is_wrap_in M sc_is_wrap_in (fun _ _ _ _ _ _ us hl => match us, hl with | [_, _, _], _ => rfl) (fun ds M Q E ⟨_, _, h, _⟩ => by rw [h]; rfl) (fun f cdv A0 outer s H E hr => ?_)
  have hu := U.hu_of hr
  have hu1 := U.hu1_of hr
  have nd := sc_is_wrap_in.nd
  refine ⟨_, (z_one (z_ret (d_eand (d_call D_has_word (hr.mono (by omega)) (d_cons (dn 0) (d_cons (d_gt M A.c_WRAP_WORDS) d_nil))) (d_eand (d_ecm o_dgt (dn 2) d_int) (d_one (d_call D_is_piece (hr.mono (by omega)) (d_cons (dn 0) (d_cons (dn 1) (d_cons (dn 2) d_nil))))))))), ?_⟩
  rintro ds M Q Ed ⟨x, kvs, rfl, ok, hk, q⟩
  refine ⟨x, WW, rfl, ok, ?_⟩
  cases c : hasW WW x with
  | false =>
    rw [pcB_no c] at q
    exact ifF Bool.false_ne_true q
  | true =>
    obtain ⟨z, xs, rfl, hz⟩ := hasW_shape c
    refine ifT rfl ?_
    cases n with
    | zero => exact q
    | succ m =>
      rw [pcB_yes hz] at q
      refine ifT (decide_eq_true (by omega)) ⟨z, xs, kvs, m, rfl, rfl, ok, hk, q⟩
theorem hc_skip {c : CasD} {r : List CasD} {z : Str} {xs : List Da} {D : DEnds} {δ : De} {M : Mm} (h : c.cs.contains z = false) (q : hCases r z xs D δ M) : hCases (c :: r) z xs D δ M := by
  unfold hCases
  split
  · exact ifF (by rw [h, Bool.and_false]; exact Bool.false_ne_true) q
  · exact ifF (by rw [h, Bool.and_false]; exact Bool.false_ne_true) q
theorem hc_hit {cs : List Str} {is : List Nat} {b : DTS} {r : List CasD} {z : Str} {xs : List Da} {D : DEnds} {δ : De} {M : Mm} (h : cs.contains z = true) (hl : xs.length = is.length) (q : b D (setAll is xs δ) M) : hCases (⟨cs, is, none, b⟩ :: r) z xs D δ M :=
  ifT (c := (xs.length == is.length && cs.contains z) = true) (by rw [h, hl]; simp) q
theorem hc_miss {cs : List Str} {is : List Nat} {b : DTS} {r : List CasD} {z : Str} {xs : List Da} {D : DEnds} {δ : De} {M : Mm} (hl : xs.length ≠ is.length) (q : hCases r z xs D δ M) : hCases (⟨cs, is, none, b⟩ :: r) z xs D δ M :=
  ifF (c := (xs.length == is.length && cs.contains z) = true) (by simp [hl]) q
theorem hc_star {cs : List Str} {is : List Nat} {j : Nat} {b : DTS} {r : List CasD} {z : Str} {xs : List Da} {D : DEnds} {δ : De} {M : Mm} (h : cs.contains z = true) (hl : is.length ≤ xs.length) (q : b D (setAll (is ++ [j]) (xs.take is.length ++ [.lst (xs.drop is.length)]) δ) M) : hCases (⟨cs, is, some j, b⟩ :: r) z xs D δ M :=
  ifT (c := (decide (is.length ≤ xs.length) && cs.contains z) = true) (by rw [h, decide_eq_true hl]; rfl) q
theorem hc_short {cs : List Str} {is : List Nat} {j : Nat} {b : DTS} {r : List CasD} {z : Str} {xs : List Da} {D : DEnds} {δ : De} {M : Mm} (hl : ¬ is.length ≤ xs.length) (q : hCases r z xs D δ M) : hCases (⟨cs, is, some j, b⟩ :: r) z xs D δ M :=
  ifF (c := (decide (is.length ≤ xs.length) && cs.contains z) = true) (by rw [decide_eq_false hl, Bool.false_and]; exact Bool.false_ne_true) q
theorem T_are_given (A : Facts K C_Procedure C_Program C_Space C_Look C_Reckoner C_InvalidProgram C_InvalidMeaning C_InvalidOperation C_InvalidNumber c__law_right P__law_right) (M : MgOf K mg) (Z : Zs mg) {n : Nat} (D_is_term_in : KnD P w K mg base "is_term_in" (3 * n + 3) ["value", "kinds", "deep"] (spIn TW n)) (D_is_wrap_in : KnD P w K mg base "is_wrap_in" (3 * n + 3) ["value", "kinds", "deep"] (spIn WW n)) : KnD P w K mg base "are_given" (3 * n + 4) ["given", "kinds", "deep"] (spGiven n) := by
  refine KnD.of A.d_are_given M sc_are_given (fun _ _ _ _ _ _ us hl => match us, hl with | [_, _, _], _ => rfl) (fun ds M Q E ⟨_, _, h, _⟩ => by rw [h]; rfl) (fun f cdv A0 outer s H E hr => ?_)
  have hu := U.hu_of hr
  have hu1 := U.hu1_of hr
  have nd := sc_are_given.nd
  refine ⟨_, (z_one (z_ret (d_b Z.all b_all (c_dall rfl) (d_cons (d_lc (own := [("value", 3)]) (c := (.n 3)) rfl nd (d_it (dn 0)) (blkOk_by (own := [("value", 3)]) (N := N_are_given) (sc := defScope s_are_given) (by decide +kernel)) (fun _ _ _ _ _ => (gn 3 nd)) (fun _ _ _ _ _ => d_ts0) (fun _ _ _ _ _ => (d_eor (d_call D_is_term_in (hr.mono (by omega)) (d_cons (dn 3) (d_cons (dn 1) (d_cons (dn 2) d_nil)))) (d_one (d_call D_is_wrap_in (hr.mono (by omega)) (d_cons (dn 3) (d_cons (dn 1) (d_cons (dn 2) d_nil)))))))) d_nil)))), ?_⟩
  rintro ds M Q Ed ⟨xs, kvs, rfl, hl, ok, hk, q⟩
  refine ⟨sz (by omega), ?_⟩
  have key : xs = xs.map id := (List.map_id xs).symm
  rw [key]
  refine lcD_all (fun g => Da.bl (pcB kvs n TW g || pcB kvs n WW g)) (fun _ _ => trivial) (fun g hg Q q => ⟨g, kvs, rfl, ok g hg, hk, ?_⟩) ?_
  · cases c : pcB kvs n TW g with
    | true => rw [c] at q; exact q
    | false => rw [c] at q; exact ⟨g, kvs, rfl, ok g hg, hk, q⟩
  · refine ⟨_, asBls_fun _ _, ?_⟩
    rw [List.all_map]
    exact q
end

end K68
set_option Elab.async false
set_option linter.all false
set_option maxRecDepth 100000
set_option maxHeartbeats 2000000
namespace U
open PySem PySem.Spec PyProof.Rows L2
section
variable {X : Cx} {e : Expr} {es : List Expr} {p pos : Pos} {C : Addr} {sp : DSp} {ps : List Str} {k : Nat} {x : Str} {fs : DTA}
end
theorem KnMD.never {P : Program} {w : World} {K : PySem.W.Frag} {mg : Str → Option Value} {base : Heap} {C : Addr} {m qual : Str} {st : Stmt} {N ps : List Str} {k : Nat} {sp : DSp} (F : HasMeth K C m qual st) (S : FnScope N ps (defScope st))
    (hb : ∀ (kV doc pm : Value) (an : Option Addr) (cdv ct : Value) (us : List Value), us.length = ps.length → bindArgs (PySem.W.fnOf m qual (defArgs st) (defBody st) (defScope st) .none kV doc pm an cdv ct) ⟨us, []⟩ = pure (ps.zip us))
    (no : ∀ ds M Q E, ¬ sp ds M Q E) : KnMD P w K mg base C m (k + 1) ps sp :=
  KnownM.of F S hb (lsp_len fun ds M Q E h => (no _ _ _ _ h).elim) fun f cdv A outer s H vs Q E hr ⟨F, W, M, ds, Qd, Ed, r, st, h, kk, kx⟩ => (no _ _ _ _ h).elim
end U
set_option Elab.async false
set_option linter.all false
set_option maxRecDepth 100000
set_option maxHeartbeats 4000000




namespace K68
open PySem PySem.Spec PyProof.Rows L2 U
section
variable {P : Program} {w : World} {K : PySem.W.Frag} {mg : Str → Option Value} {base : Heap} {C_Procedure : Addr} {C_Program : Addr} {C_Space : Addr} {C_Look : Addr} {C_Reckoner : Addr} {C_InvalidProgram : Addr} {C_InvalidMeaning : Addr} {C_InvalidOperation : Addr} {C_InvalidNumber : Addr} {c__law_right : Addr} {P__law_right : Addr}
theorem T_is_piece (A : Facts K C_Procedure C_Program C_Space C_Look C_Reckoner C_InvalidProgram C_InvalidMeaning C_InvalidOperation C_InvalidNumber c__law_right P__law_right) (M : MgOf K mg) (Z : Zs mg) {n : Nat} (D_is_name : KnD P w K mg base "is_name" 1 ["value"] spIsName) (D_is_deed_table : KnD P w K mg base "is_deed_table" 3 ["value"] spTable) (D_is_kind : KnD P w K mg base "is_kind" 1 ["kinds", "value", "kind"] spKind) (D_is_term_in : KnD P w K mg base "is_term_in" (3 * n + 3) ["value", "kinds", "deep"] (spIn TW n)) (D_is_wrap_in : KnD P w K mg base "is_wrap_in" (3 * n + 3) ["value", "kinds", "deep"] (spIn WW n))
    (D_are_given : KnD P w K mg base "are_given" (3 * n + 4) ["given", "kinds", "deep"] (spGiven n)) : KnD P w K mg base "is_piece" (3 * n + 5) ["value", "kinds", "deep"] (spPiece (n + 1)) := by
  refine KnD.of A.d_is_piece M sc_is_piece (fun _ _ _ _ _ _ us hl => match us, hl with | [_, _, _], _ => rfl) (fun ds M Q E ⟨_, _, _, _, h, _⟩ => by rw [h]; rfl) (fun f cdv A0 outer s H E hr => ?_)
  have hu := U.hu_of hr
  have hu1 := U.hu1_of hr
  have nd := sc_is_piece.nd
  refine ⟨_, (z_cons (z_match rfl nd (dn 0) (.cons (ns' := []) (is := [3, 4]) .one (.cons (.cons .nil)) (Slts.cons (i := 3) rfl (Slts.cons (i := 4) rfl Slts.nil)) (z_one (z_ret (d_eand (d_call D_is_name (hr.mono (by omega)) (d_cons (dn 3) d_nil)) (d_one (d_call D_is_deed_table (hr.mono (by omega)) (d_cons (dn 4) d_nil))))))
      (.star (is := []) (j := 5) .one .nil (Slts.cons (i := 5) rfl Slts.nil) (z_one (z_ret (d_b Z.all b_all (c_dall rfl) (d_cons (d_lc (own := [("one", 12)]) (c := (.n 12)) rfl nd (d_it (dn 5)) (blkOk_by (own := [("one", 12)]) (N := N_is_piece) (sc := defScope s_is_piece) (by decide +kernel)) (fun _ _ _ _ _ => (gn 12 nd)) (fun _ _ _ _ _ => d_ts0) (fun _ _ _ _ _ => (d_call D_is_term_in (hr.mono (by omega)) (d_cons (dn 12) (d_cons (dn 1) (d_cons (d_op o_dsub (dn 2) d_int) d_nil)))))) d_nil))))
      (.star (is := [6]) (j := 5) .one (.cons .nil) (Slts.cons (i := 6) rfl (Slts.cons (i := 5) rfl Slts.nil)) (z_one (z_ret (d_b Z.all b_all (c_dall rfl) (d_cons (d_lc (own := [("one", 12)]) (c := (.n 12)) rfl nd (d_it (d_lst (d_cons (dn 6) (d_star (dn 5) d_nil)))) (blkOk_by (own := [("one", 12)]) (N := N_is_piece) (sc := defScope s_is_piece) (by decide +kernel)) (fun _ _ _ _ _ => (gn 12 nd)) (fun _ _ _ _ _ => d_ts0) (fun _ _ _ _ _ => (d_call D_is_term_in (hr.mono (by omega)) (d_cons (dn 12) (d_cons (dn 1) (d_cons (d_op o_dsub (dn 2) d_int) d_nil)))))) d_nil))))
      (.cons (ns' := []) (is := [7]) .one (.cons .nil) (Slts.cons (i := 7) rfl Slts.nil) (z_one (z_ret (d_call D_is_kind (hr.mono (by omega)) (d_cons (dn 1) (d_cons (dn 7) (d_cons (d_gs Z.c_BLOCK) d_nil))))))
      (.cons (ns' := []) (is := [7]) .one (.cons .nil) (Slts.cons (i := 7) rfl Slts.nil) (z_one (z_ret (d_call D_is_kind (hr.mono (by omega)) (d_cons (dn 1) (d_cons (dn 7) (d_cons (d_gs Z.c_WRAP) d_nil))))))
      (.star (is := [8]) (j := 9) .one (.cons .nil) (Slts.cons (i := 8) rfl (Slts.cons (i := 9) rfl Slts.nil)) (z_one (z_ret (d_eand (d_call D_is_name (hr.mono (by omega)) (d_cons (dn 8) d_nil)) (d_one (d_call D_are_given (hr.mono (by omega)) (d_cons (dn 9) (d_cons (dn 1) (d_cons (d_op o_dsub (dn 2) d_int) d_nil))))))))
      (.star (is := [8]) (j := 9) .one (.cons .nil) (Slts.cons (i := 8) rfl (Slts.cons (i := 9) rfl Slts.nil)) (z_one (z_ret (d_eand (d_call D_is_name (hr.mono (by omega)) (d_cons (dn 8) d_nil)) (d_one (d_call D_are_given (hr.mono (by omega)) (d_cons (dn 9) (d_cons (dn 1) (d_cons (d_op o_dsub (dn 2) d_int) d_nil))))))))
      (.cons (ns' := []) (is := [10, 11]) .one (.cons (.cons .nil)) (Slts.cons (i := 10) rfl (Slts.cons (i := 11) rfl Slts.nil)) (z_one (z_ret (d_eand (d_call D_is_wrap_in (hr.mono (by omega)) (d_cons (dn 10) (d_cons (dn 1) (d_cons (d_op o_dsub (dn 2) d_int) d_nil)))) (d_one (d_call D_is_term_in (hr.mono (by omega)) (d_cons (dn 11) (d_cons (dn 1) (d_cons (d_op o_dsub (dn 2) d_int) d_nil))))))))
      .nil)))))))))
      (z_one (z_ret d_bl))), ?_⟩
  rintro ds M Q Ed ⟨z, xs, kvs, m, rfl, hm, ok, hk, q⟩
  obtain rfl : n = m := by omega
  have ok1 : xs.length ≤ 4999 ∧ ∀ x ∈ xs, pv x := by
    cases ok with
    | tup _ hl hx => exact ⟨by rw [List.length_cons] at hl; omega, fun x h => hx x (List.mem_cons_of_mem _ h)⟩
  obtain ⟨hl, hx⟩ := ok1
  have hd : ((n + 1 : Nat) : Int) - 1 = (n : Int) := by omega
  refine ⟨show xs.length ≤ 10000 by omega, ?_⟩
  unfold bodyB at q
  by_cases e1 : z = "do"
  · subst e1
    rw [if_pos rfl] at q
    match xs, hl, hx, q with
    | [w, t], _, hx, q =>
      have q : Q (.bl (nameD w && tableB t)) M := q
      refine hc_hit rfl rfl ?_
      refine ⟨w, rfl, hx w (by simp), ?_⟩
      cases c : nameD w with
      | false =>
        rw [c] at q
        exact q
      | true =>
        rw [c] at q
        exact ⟨t, rfl, hx t (by simp), q⟩
    | [], _, _, q => exact hc_miss (by decide) (hc_skip rfl (hc_skip rfl (hc_skip rfl (hc_skip rfl (hc_skip rfl (hc_skip rfl (hc_skip rfl q)))))))
    | [_], _, _, q => exact hc_miss (by simp) (hc_skip rfl (hc_skip rfl (hc_skip rfl (hc_skip rfl (hc_skip rfl (hc_skip rfl (hc_skip rfl q)))))))
    | _ :: _ :: _ :: _, _, _, q => exact hc_miss (by simp) (hc_skip rfl (hc_skip rfl (hc_skip rfl (hc_skip rfl (hc_skip rfl (hc_skip rfl (hc_skip rfl q)))))))
  rw [if_neg e1] at q
  by_cases e2 : z = "seq"
  · subst e2
    rw [if_pos rfl] at q
    refine hc_skip rfl (hc_star rfl (Nat.zero_le _) ?_)
    refine ⟨sz (show (xs.drop 0).length ≤ 1000000 by rw [List.drop_zero]; omega), ?_⟩
    show lcD _ _ _ _ (xs.drop 0) _ _
    rw [List.drop_zero]
    have key : xs = xs.map id := (List.map_id xs).symm
    rw [key]
    refine lcD_all (fun g => Da.bl (pcB kvs n TW g)) (fun _ _ => trivial) (fun g hg Q q => ⟨g, kvs, (by rw [hd] <;> rfl), hx g hg, hk, q⟩) ?_
    refine ⟨_, asBls_fun _ _, ?_⟩
    rw [List.all_map]
    exact q
  rw [if_neg e2] at q
  by_cases e3 : z = "or"
  · subst e3
    rw [if_pos rfl] at q
    match xs, hl, hx, q with
    | f :: ts, hl, hx, q =>
      refine hc_skip rfl (hc_skip rfl (hc_star rfl (Nat.succ_le_succ (Nat.zero_le _)) ?_))
      refine ⟨sz (by simp; simp at hl; omega), sz (by simp; simp at hl; omega), ?_⟩
      have key : f :: (ts ++ []) = (f :: ts).map id := by rw [List.append_nil, List.map_id]
      show lcD _ _ _ _ (f :: (ts ++ [])) _ _
      rw [key]
      refine lcD_all (fun g => Da.bl (pcB kvs n TW g)) (fun _ _ => trivial) (fun g hg Q q => ⟨g, kvs, (by rw [hd] <;> rfl), hx g hg, hk, q⟩) ?_
      refine ⟨_, asBls_fun _ _, ?_⟩
      rw [List.all_map]
      exact q
    | [], _, _, q => exact hc_skip rfl (hc_skip rfl (hc_short (by decide) (hc_skip rfl (hc_skip rfl (hc_skip rfl (hc_skip rfl (hc_skip rfl (q))))))))
  rw [if_neg e3] at q
  by_cases e4 : z = "run"
  · subst e4
    rw [if_pos rfl] at q
    match xs, hx, q with
    | [p], hx, q =>
      refine hc_skip rfl (hc_skip rfl (hc_skip rfl (hc_hit rfl rfl ?_)))
      exact ⟨kvs, p, "block", rfl, hx p (by simp), hk, by decide +kernel, q⟩
    | [], _, q => exact hc_skip rfl (hc_skip rfl (hc_skip rfl (hc_miss (by decide) (hc_skip rfl (hc_skip rfl (hc_skip rfl (hc_skip rfl (q))))))))
    | _ :: _ :: _, _, q => exact hc_skip rfl (hc_skip rfl (hc_skip rfl (hc_miss (by simp) (hc_skip rfl (hc_skip rfl (hc_skip rfl (hc_skip rfl (q))))))))
  rw [if_neg e4] at q
  by_cases e5 : z = "own"
  · subst e5
    rw [if_pos rfl] at q
    match xs, hx, q with
    | [p], hx, q =>
      refine hc_skip rfl (hc_skip rfl (hc_skip rfl (hc_skip rfl (hc_hit rfl rfl ?_))))
      exact ⟨kvs, p, "wrap", rfl, hx p (by simp), hk, by decide +kernel, q⟩
    | [], _, q => exact hc_skip rfl (hc_skip rfl (hc_skip rfl (hc_skip rfl (hc_miss (by decide) (hc_skip rfl (hc_skip rfl (hc_skip rfl (q))))))))
    | _ :: _ :: _, _, q => exact hc_skip rfl (hc_skip rfl (hc_skip rfl (hc_skip rfl (hc_miss (by simp) (hc_skip rfl (hc_skip rfl (hc_skip rfl (q))))))))
  rw [if_neg e5] at q
  by_cases e6 : z = "call"
  · subst e6
    rw [if_pos rfl] at q
    match xs, hl, hx, q with
    | m :: gs, hl, hx, q =>
      have q : Q (.bl (nameD m && gs.all fun g => pcB kvs n TW g || pcB kvs n WW g)) M := q
      refine hc_skip rfl (hc_skip rfl (hc_skip rfl (hc_skip rfl (hc_skip rfl (hc_star rfl (Nat.succ_le_succ (Nat.zero_le _)) ?_)))))
      refine ⟨m, rfl, hx m (by simp), ?_⟩
      cases c : nameD m with
      | false =>
        rw [c] at q
        exact q
      | true =>
        rw [c] at q
        exact ⟨gs, kvs, (by rw [hd] <;> rfl), by rw [List.length_cons] at hl; omega, fun x h => hx x (List.mem_cons_of_mem _ h), hk, q⟩
    | [], _, _, q => exact hc_skip rfl (hc_skip rfl (hc_skip rfl (hc_skip rfl (hc_skip rfl (hc_short (by decide) (hc_skip rfl (hc_skip rfl (q))))))))
  rw [if_neg e6] at q
  by_cases e7 : z = "with"
  · subst e7
    rw [if_pos rfl] at q
    match xs, hl, hx, q with
    | m :: gs, hl, hx, q =>
      have q : Q (.bl (nameD m && gs.all fun g => pcB kvs n TW g || pcB kvs n WW g)) M := q
      refine hc_skip rfl (hc_skip rfl (hc_skip rfl (hc_skip rfl (hc_skip rfl (hc_skip rfl (hc_star rfl (Nat.succ_le_succ (Nat.zero_le _)) ?_))))))
      refine ⟨m, rfl, hx m (by simp), ?_⟩
      cases c : nameD m with
      | false =>
        rw [c] at q
        exact q
      | true =>
        rw [c] at q
        exact ⟨gs, kvs, (by rw [hd] <;> rfl), by rw [List.length_cons] at hl; omega, fun x h => hx x (List.mem_cons_of_mem _ h), hk, q⟩
    | [], _, _, q => exact hc_skip rfl (hc_skip rfl (hc_skip rfl (hc_skip rfl (hc_skip rfl (hc_skip rfl (hc_short (by decide) (hc_skip rfl (q))))))))
  rw [if_neg e7] at q
  by_cases e8 : z = "wrap"
  · subst e8
    rw [if_pos rfl] at q
    match xs, hx, q with
    | [w, t], hx, q =>
      have q : Q (.bl (pcB kvs n WW w && pcB kvs n TW t)) M := q
      refine hc_skip rfl (hc_skip rfl (hc_skip rfl (hc_skip rfl (hc_skip rfl (hc_skip rfl (hc_skip rfl (hc_hit rfl rfl ?_)))))))
      refine ⟨w, kvs, (by rw [hd] <;> rfl), hx w (by simp), hk, ?_⟩
      cases c : pcB kvs n WW w with
      | false =>
        rw [c] at q
        exact q
      | true =>
        rw [c] at q
        exact ⟨t, kvs, (by rw [hd] <;> rfl), hx t (by simp), hk, q⟩
    | [], _, q => exact hc_skip rfl (hc_skip rfl (hc_skip rfl (hc_skip rfl (hc_skip rfl (hc_skip rfl (hc_skip rfl (hc_miss (by decide) q)))))))
    | [_], _, q => exact hc_skip rfl (hc_skip rfl (hc_skip rfl (hc_skip rfl (hc_skip rfl (hc_skip rfl (hc_skip rfl (hc_miss (by simp) q)))))))
    | _ :: _ :: _ :: _, _, q => exact hc_skip rfl (hc_skip rfl (hc_skip rfl (hc_skip rfl (hc_skip rfl (hc_skip rfl (hc_skip rfl (hc_miss (by simp) q)))))))
  rw [if_neg e8] at q
  have ns : ∀ c : Str, z ≠ c → [c].contains z = false := fun c h => by simp [h]
  exact hc_skip (ns _ e1) (hc_skip (ns _ e2) (hc_skip (ns _ e3) (hc_skip (ns _ e4) (hc_skip (ns _ e5) (hc_skip (ns _ e6) (hc_skip (ns _ e7) (hc_skip (ns _ e8) q)))))))
end
section
variable {P : Program} {w : World} {K : PySem.W.Frag} {mg : Str → Option Value} {base : Heap} {C_Procedure : Addr} {C_Program : Addr} {C_Space : Addr} {C_Look : Addr} {C_Reckoner : Addr} {C_InvalidProgram : Addr} {C_InvalidMeaning : Addr} {C_InvalidOperation : Addr} {C_InvalidNumber : Addr} {c__law_right : Addr} {P__law_right : Addr}
theorem R_in (A : Facts K C_Procedure C_Program C_Space C_Look C_Reckoner C_InvalidProgram C_InvalidMeaning C_InvalidOperation C_InvalidNumber c__law_right P__law_right) (M : MgOf K mg) (Z : Zs mg) (D_has_word : KnD P w K mg base "has_word" 1 ["value", "words"] spHas) (D_is_name : KnD P w K mg base "is_name" 1 ["value"] spIsName) (D_is_deed_table : KnD P w K mg base "is_deed_table" 3 ["value"] spTable) (D_is_kind : KnD P w K mg base "is_kind" 1 ["kinds", "value", "kind"] spKind) : ∀ n, KnD P w K mg base "is_term_in" (3 * n + 3) ["value", "kinds", "deep"] (spIn TW n) ∧ KnD P w K mg base "is_wrap_in" (3 * n + 3) ["value", "kinds", "deep"] (spIn WW n)
  | 0 => by
    have h : KnD P w K mg base "is_piece" 2 ["value", "kinds", "deep"] (spPiece 0) := KnD.never A.d_is_piece M sc_is_piece (fun _ _ _ _ _ _ us hl => match us, hl with | [_, _, _], _ => rfl) fun ds M Q E ⟨_, _, _, _, _, h, _⟩ => by cases h
    exact ⟨T_is_term_in (n := 0) A M Z D_has_word h, T_is_wrap_in (n := 0) A M Z D_has_word h⟩
  | n + 1 => by
    obtain ⟨h1, h2⟩ := R_in A M Z D_has_word D_is_name D_is_deed_table D_is_kind n
    have h := T_is_piece A M Z D_is_name D_is_deed_table D_is_kind h1 h2 (T_are_given A M Z h1 h2)
    exact ⟨T_is_term_in (n := n + 1) A M Z D_has_word h, T_is_wrap_in (n := n + 1) A M Z D_has_word h⟩
theorem D_is_term_in (A : Facts K C_Procedure C_Program C_Space C_Look C_Reckoner C_InvalidProgram C_InvalidMeaning C_InvalidOperation C_InvalidNumber c__law_right P__law_right) (M : MgOf K mg) (Z : Zs mg) (D_has_word : KnD P w K mg base "has_word" 1 ["value", "words"] spHas) (D_is_name : KnD P w K mg base "is_name" 1 ["value"] spIsName) (D_is_deed_table : KnD P w K mg base "is_deed_table" 3 ["value"] spTable) (D_is_kind : KnD P w K mg base "is_kind" 1 ["kinds", "value", "kind"] spKind) : KnD P w K mg base "is_term_in" 21 ["value", "kinds", "deep"] (spIn TW 6) := (R_in A M Z D_has_word D_is_name D_is_deed_table D_is_kind 6).1
end

end K68
set_option Elab.async false
set_option linter.all false
set_option maxRecDepth 100000
set_option maxHeartbeats 4000000




namespace K68
open PySem PySem.Spec PyProof.Rows L2 U
def kidsL (z : Str) (xs : List Da) : List Da :=
  if z = "seq" then xs else if z = "or" then xs else if z = "call" then xs.tail else if z = "with" then xs.tail
  else if z = "wrap" then (match xs with | [w, t] => [w, t] | _ => []) else []
def kidsD : Da → List Da
  | .tup (.str z :: xs) => kidsL z xs
  | _ => []
def allF : Nat → Da → List Da
  | 0, x => [x]
  | n + 1, x => x :: (kidsD x).flatMap (allF n)
def spInside : DSp := fun ds M Q _ => ∃ z xs, ds = [.tup (.str z :: xs)] ∧ xs.length ≤ 5000 ∧ Q (.lst (kidsL z xs)) M
def okP (kvs : List (Key × Da)) (n : Nat) (x : Da) : Prop := pcB kvs n TW x = true ∨ pcB kvs n WW x = true
theorem okP.shape {kvs : List (Key × Da)} {n : Nat} {x : Da} (h : okP kvs n x) : ∃ m z xs, n = m + 1 ∧ x = .tup (.str z :: xs) ∧ bodyB (pcB kvs m) kvs z xs = true := by
  cases n with
  | zero => rcases h with h | h <;> cases h
  | succ m =>
    have go : ∀ ws, pcB kvs (m + 1) ws x = true → ∃ m' z xs, m + 1 = m' + 1 ∧ x = .tup (.str z :: xs) ∧ bodyB (pcB kvs m') kvs z xs = true := fun ws h => by
      cases x with
      | tup ys =>
        cases ys with
        | nil => cases h
        | cons y ys =>
          cases y with
          | str z => exact ⟨m, z, ys, rfl, rfl, (Bool.and_eq_true_iff.mp h).2⟩
          | _ => cases h
      | _ => cases h
    exact h.elim (go _) (go _)
theorem kids_ok {kvs : List (Key × Da)} {n : Nat} {z : Str} {xs : List Da} (h : bodyB (pcB kvs n) kvs z xs = true) : ∀ y ∈ kidsL z xs, okP kvs n y := by
  unfold bodyB at h
  unfold kidsL
  by_cases e1 : z = "do"
  · subst e1; intro y hy; exact nomatch (show y ∈ ([] : List Da) from hy)
  rw [if_neg e1] at h
  by_cases e2 : z = "seq"
  · rw [if_pos e2] at h ⊢
    exact fun y hy => .inl (List.all_eq_true.mp h y hy)
  rw [if_neg e2] at h ⊢
  by_cases e3 : z = "or"
  · rw [if_pos e3] at h ⊢
    cases xs with
    | nil => cases h
    | cons f ts => exact fun y hy => .inl (List.all_eq_true.mp h y hy)
  rw [if_neg e3] at h ⊢
  by_cases e4 : z = "run"
  · subst e4; intro y hy; exact nomatch (show y ∈ ([] : List Da) from hy)
  rw [if_neg e4] at h
  by_cases e5 : z = "own"
  · subst e5; intro y hy; exact nomatch (show y ∈ ([] : List Da) from hy)
  rw [if_neg e5] at h
  have giv : ∀ {m : Da} {gs : List Da}, (nameD m && gs.all fun g => pcB kvs n TW g || pcB kvs n WW g) = true → ∀ y ∈ gs, okP kvs n y := fun {m gs} h y hy => by
    have := List.all_eq_true.mp (Bool.and_eq_true_iff.mp h).2 y hy
    exact Bool.or_eq_true_iff.mp this
  by_cases e6 : z = "call"
  · rw [if_pos e6] at h ⊢
    cases xs with
    | nil => cases h
    | cons m gs => exact giv h
  rw [if_neg e6] at h ⊢
  by_cases e7 : z = "with"
  · rw [if_pos e7] at h ⊢
    cases xs with
    | nil => cases h
    | cons m gs => exact giv h
  rw [if_neg e7] at h ⊢
  by_cases e8 : z = "wrap"
  · rw [if_pos e8] at h ⊢
    match xs, h with
    | [w, t], h =>
      have h' := Bool.and_eq_true_iff.mp h
      intro y hy
      rcases List.mem_cons.mp hy with rfl | hy
      · exact .inr h'.1
      · rcases List.mem_cons.mp hy with rfl | hy
        · exact .inl h'.2
        · cases hy
  · rw [if_neg e8] at h
    cases h
theorem kids_mem {z : Str} {xs : List Da} {y : Da} (h : y ∈ kidsL z xs) : y ∈ xs := by
  unfold kidsL at h
  split at h
  · exact h
  split at h
  · exact h
  split at h
  · exact List.mem_of_mem_tail h
  split at h
  · exact List.mem_of_mem_tail h
  split at h
  · split at h
    · exact h
    · cases h
  · cases h
theorem D_inside {P : Program} {w : World} {K : PySem.W.Frag} {mg : Str → Option Value} {base : Heap} {C_Procedure : Addr} {C_Program : Addr} {C_Space : Addr} {C_Look : Addr} {C_Reckoner : Addr} {C_InvalidProgram : Addr} {C_InvalidMeaning : Addr} {C_InvalidOperation : Addr} {C_InvalidNumber : Addr} {c__law_right : Addr} {P__law_right : Addr} (A : Facts K C_Procedure C_Program C_Space C_Look C_Reckoner C_InvalidProgram C_InvalidMeaning C_InvalidOperation C_InvalidNumber c__law_right P__law_right) (M : MgOf K mg) (Z : Zs mg)  : KnD P w K mg base "inside" 1 ["piece"] spInside := by
  refine KnD.of A.d_inside M sc_inside (fun _ _ _ _ _ _ us hl => match us, hl with | [_], _ => rfl) (fun ds M Q E ⟨_, _, h, _⟩ => by rw [h]; rfl) (fun f cdv A0 outer s H E hr => ?_)
  have hu := U.hu_of hr
  have hu1 := U.hu1_of hr
  have nd := sc_inside.nd
  refine ⟨_, (z_cons (z_match rfl nd (dn 0) (.star (is := []) (j := 1) .one .nil (Slts.cons (i := 1) rfl Slts.nil) (z_one (z_ret (dn 1)))
      (.star (is := []) (j := 1) .one .nil (Slts.cons (i := 1) rfl Slts.nil) (z_one (z_ret (dn 1)))
      (.star (is := [2]) (j := 3) .one (.cons .nil) (Slts.cons (i := 2) rfl (Slts.cons (i := 3) rfl Slts.nil)) (z_one (z_ret (dn 3)))
      (.star (is := [2]) (j := 3) .one (.cons .nil) (Slts.cons (i := 2) rfl (Slts.cons (i := 3) rfl Slts.nil)) (z_one (z_ret (dn 3)))
      (.cons (ns' := []) (is := [4, 5]) .one (.cons (.cons .nil)) (Slts.cons (i := 4) rfl (Slts.cons (i := 5) rfl Slts.nil)) (z_one (z_ret (d_lst (d_cons (dn 4) (d_cons (dn 5) d_nil)))))
      .nil))))))
      (z_one (z_ret (d_lst d_nil)))), ?_⟩
  rintro ds M Q Ed ⟨z, xs, rfl, hl, q⟩
  refine ⟨show xs.length ≤ 10000 by omega, ?_⟩
  unfold kidsL at q
  by_cases e2 : z = "seq"
  · subst e2
    rw [if_pos rfl] at q
    exact hc_star rfl (Nat.zero_le _) q
  rw [if_neg e2] at q
  by_cases e3 : z = "or"
  · subst e3
    rw [if_pos rfl] at q
    exact hc_skip rfl (hc_star rfl (Nat.zero_le _) q)
  rw [if_neg e3] at q
  by_cases e6 : z = "call"
  · subst e6
    rw [if_pos rfl] at q
    cases xs with
    | nil => exact hc_skip rfl (hc_skip rfl (hc_short (by decide) (hc_skip rfl (hc_skip rfl ⟨rfl, q⟩))))
    | cons m gs => exact hc_skip rfl (hc_skip rfl (hc_star rfl (Nat.succ_le_succ (Nat.zero_le _)) q))
  rw [if_neg e6] at q
  by_cases e7 : z = "with"
  · subst e7
    rw [if_pos rfl] at q
    cases xs with
    | nil => exact hc_skip rfl (hc_skip rfl (hc_skip rfl (hc_short (by decide) (hc_skip rfl ⟨rfl, q⟩))))
    | cons m gs => exact hc_skip rfl (hc_skip rfl (hc_skip rfl (hc_star rfl (Nat.succ_le_succ (Nat.zero_le _)) q)))
  rw [if_neg e7] at q
  by_cases e8 : z = "wrap"
  · subst e8
    rw [if_pos rfl] at q
    match xs, q with
    | [w, t], q => exact hc_skip rfl (hc_skip rfl (hc_skip rfl (hc_skip rfl (hc_hit rfl rfl ⟨rfl, q⟩))))
    | [], q => exact hc_skip rfl (hc_skip rfl (hc_skip rfl (hc_skip rfl (hc_miss (by decide) ⟨rfl, q⟩))))
    | [_], q => exact hc_skip rfl (hc_skip rfl (hc_skip rfl (hc_skip rfl (hc_miss (by simp) ⟨rfl, q⟩))))
    | _ :: _ :: _ :: _, q => exact hc_skip rfl (hc_skip rfl (hc_skip rfl (hc_skip rfl (hc_miss (by simp) ⟨rfl, q⟩))))
  rw [if_neg e8] at q
  have ns : ∀ c : Str, z ≠ c → [c].contains z = false := fun c h => by simp [h]
  exact hc_skip (ns _ e2) (hc_skip (ns _ e3) (hc_skip (ns _ e6) (hc_skip (ns _ e7) (hc_skip (ns _ e8) ⟨rfl, q⟩))))
def allT (todo : List (Nat × Da)) : List Da := todo.flatMap fun p => allF p.1 p.2
theorem kids_len (z : Str) (xs : List Da) : (kidsL z xs).length ≤ xs.length := by
  unfold kidsL
  split
  · exact Nat.le_refl _
  split
  · exact Nat.le_refl _
  split
  · rw [List.length_tail]; omega
  split
  · rw [List.length_tail]; omega
  split
  · split
    · exact Nat.le_refl _
    · exact Nat.zero_le _
  · exact Nat.zero_le _
theorem allF_pos (n : Nat) (x : Da) : 1 ≤ (allF n x).length := by cases n <;> simp [allF]
theorem allT_len : ∀ todo : List (Nat × Da), todo.length ≤ (allT todo).length
  | [] => Nat.le_refl _
  | t :: r => by
    show _ ≤ (allF t.1 t.2 ++ allT r).length
    rw [List.length_append, List.length_cons]
    have := allF_pos t.1 t.2
    have := allT_len r
    omega
def spPieces : DSp := fun ds M Q _ => ∃ x n kvs, ds = [x] ∧ pv x ∧ okP kvs n x ∧ (allF n x).length ≤ 100000 ∧ ∀ R, R.Perm (allF n x) → Q (.lst R) M
theorem D_pieces_of {P : Program} {w : World} {K : PySem.W.Frag} {mg : Str → Option Value} {base : Heap} {C_Procedure : Addr} {C_Program : Addr} {C_Space : Addr} {C_Look : Addr} {C_Reckoner : Addr} {C_InvalidProgram : Addr} {C_InvalidMeaning : Addr} {C_InvalidOperation : Addr} {C_InvalidNumber : Addr} {c__law_right : Addr} {P__law_right : Addr} (A : Facts K C_Procedure C_Program C_Space C_Look C_Reckoner C_InvalidProgram C_InvalidMeaning C_InvalidOperation C_InvalidNumber c__law_right P__law_right) (M : MgOf K mg) (Z : Zs mg) (D_inside : KnD P w K mg base "inside" 1 ["piece"] spInside) : KnD P w K mg base "pieces_of" 2 ["piece"] spPieces := by
  refine KnD.of A.d_pieces_of M sc_pieces_of (fun _ _ _ _ _ _ us hl => match us, hl with | [_], _ => rfl) (fun ds M Q E ⟨_, _, _, h, _⟩ => by rw [h]; rfl) (fun f cdv A0 outer s H E hr => ?_)
  have hu := U.hu_of hr
  have hu1 := U.hu1_of hr
  have nd := sc_pieces_of.nd
  refine ⟨_, (z_cons (ps_imp (ps_par (i := 1) (j := 2) rfl nd rfl rfl (by decide) rfl rfl (d_cons (d_lstM (d_cons (dn 0) d_nil)) (d_cons d_int d_nil)) (by rfl)) fun _ _ _ h => li_par h)
      (z_cons (z_while PassesOwn.never (d_tcm o_dlt (dn 2) (d_b Z.len b_len c_dlen (d_cons (dn 1) d_nil))) (z_cons (z_expr (d_extend (dn 1) (d_cons (d_call D_inside (hr.mono (by decide)) (d_cons (d_ix (dn 1) (dn 2)) d_nil)) d_nil)))
      (z_one (z_aug (i := 2) nd rfl (.inl rfl) d_int i_add))))
      (z_one (z_retF (d_stl (dn 1)))))), ?_⟩
  rintro ds M Q Ed ⟨x, n, kvs, rfl, ox, ok, hl, q⟩
  refine ⟨rfl, fun p hp => ?_⟩
  refine wh_ind (fun k δ M' => ∃ (done : List Da) (todo : List (Nat × Da)), k = (allT todo).length ∧ δ = [some x, some (.ref p), some (.int done.length)] ∧ M' = mput M p (.lst (done ++ todo.map (·.2))) ∧ (∀ t ∈ todo, okP kvs t.1 t.2 ∧ pv t.2) ∧ (done ++ allT todo).Perm (allF n x)) ?_ (n := (allF n x).length) ⟨[], [(n, x)], by simp [allT], rfl, rfl, by simp; exact ⟨ok, ox⟩, by simp [allT]⟩
  rintro k δ M' NX ⟨done, todo, rfl, rfl, rfl, hto, hpm⟩ next
  refine ⟨_, mput_same, ?_⟩
  cases todo with
  | nil =>
    refine ifF (by simp) ?_
    refine ⟨_, mput_same, M, by rw [mdel_put hp]; exact fun _ _ h => h, ?_⟩
    exact q _ (by simpa [allT] using hpm)
  | cons t rest =>
    refine ifT (decide_eq_true (by simp; omega)) ?_
    obtain ⟨⟨m, z, ys, e1, e2, hb⟩, hpv⟩ := (⟨(hto t List.mem_cons_self).1.shape, (hto t List.mem_cons_self).2⟩ : _ ∧ _)
    obtain ⟨t1, t2⟩ := t
    obtain rfl : t1 = m + 1 := e1
    obtain rfl : t2 = .tup (.str z :: ys) := e2
    have hyl : ys.length ≤ 5000 ∧ ∀ y ∈ ys, pv y := by
      cases hpv with
      | tup _ hl hx => exact ⟨by rw [List.length_cons] at hl; omega, fun x h => hx x (List.mem_cons_of_mem _ h)⟩
    have hkid : ∀ y ∈ kidsL z ys, y ∈ ys := fun y hy => kids_mem hy
    refine ⟨⟨p, _, rfl, mput_same⟩, ?_⟩
    refine ⟨_, .tup (.str z :: ys), mput_same, atI_nat (by simp), ?_⟩
    refine ⟨z, ys, rfl, hyl.1, ?_⟩
    have hlen := hpm.length_eq
    have hcons : allT ((m + 1, .tup (.str z :: ys)) :: rest) = (.tup (.str z :: ys) :: (kidsL z ys).flatMap (allF m)) ++ allT rest := rfl
    have happ : allT (rest ++ (kidsL z ys).map fun y => (m, y)) = allT rest ++ (kidsL z ys).flatMap (allF m) := by
      unfold allT
      rw [List.flatMap_append, List.flatMap_map]
    have hkl := kids_len z ys
    have hrl := allT_len rest
    refine ⟨_, mput_same, sz ?_, ?_⟩
    · rw [hcons] at hlen
      simp only [List.length_append, List.length_cons, List.length_map, List.map_cons] at hlen ⊢
      omega
    · rw [mput_put]
      refine next _ _ (allT (rest ++ (kidsL z ys).map fun y => (m, y))).length ?_ ⟨done ++ [.tup (.str z :: ys)], rest ++ (kidsL z ys).map fun y => (m, y), rfl, ?_, ?_, ?_, ?_⟩
      · rw [hcons, happ]
        simp only [List.length_append, List.length_cons]
        omega
      · show [some x, some (.ref p), some (.int ((done.length : Int) + 1))] = _
        rw [List.length_append]
        rfl
      · congr 2
        simp
        exact (List.map_id _).symm
      · intro t ht
        rcases List.mem_append.mp ht with h | h
        · exact hto t (List.mem_cons_of_mem _ h)
        · obtain ⟨y, hy, rfl⟩ := List.mem_map.mp h
          exact ⟨kids_ok hb y hy, hyl.2 y (hkid y hy)⟩
      · refine List.Perm.trans ?_ hpm
        rw [hcons, happ, List.append_assoc]
        refine List.Perm.append_left _ ?_
        show (Da.tup (.str z :: ys) :: (allT rest ++ (kidsL z ys).flatMap (allF m))).Perm (Da.tup (.str z :: ys) :: ((kidsL z ys).flatMap (allF m) ++ allT rest))
        exact List.Perm.cons _ List.perm_append_comm

end K68
set_option Elab.async false
set_option linter.all false
set_option maxRecDepth 100000
set_option maxHeartbeats 4000000




namespace K68
open PySem PySem.Spec PyProof.Rows L2 U
def parD (own : List (Str × Str)) : Da := .tup (own.map fun p => .tup [.str p.1, .str p.2])
def pr2 : Da → Bool
  | .tup [_, _] => true
  | _ => false
def prOk : Da → Bool
  | .tup [n, .str k] => nameD n && (["block", "wrap"] : List Str).contains k
  | _ => false
def nmsD (xs : List Da) : List Str := xs.filterMap fun x => match x with
  | .tup (.str z :: _) => some z
  | _ => none
def parB : Da → Bool
  | .tup xs => decide (xs.length ≤ 3) && (xs.all pr2 && (xs.all prOk && decide (nmsD xs).Nodup))
  | _ => false
structure OwnOk (own : List (Str × Str)) : Prop where
  len : own.length ≤ 3
  ok : ∀ p ∈ own, nameZ p.1 = true ∧ (["block", "wrap"] : List Str).contains p.2 = true
  nd : (own.map (·.1)).Nodup
theorem own_of {xs : List Da} (h : xs.all prOk = true) : ∃ own : List (Str × Str), xs = own.map (fun p => .tup [.str p.1, .str p.2]) ∧ ∀ p ∈ own, nameZ p.1 = true ∧ (["block", "wrap"] : List Str).contains p.2 = true := by
  induction xs with
  | nil => exact ⟨[], rfl, fun _ h => nomatch h⟩
  | cons x xs ih =>
    rw [List.all_cons, Bool.and_eq_true] at h
    obtain ⟨own, rfl, ho⟩ := ih h.2
    have hx := h.1
    unfold prOk at hx
    split at hx
    · rename_i n k
      cases n with
      | str z => exact ⟨(z, k) :: own, rfl, fun p hp => (List.mem_cons.mp hp).elim (fun e => by rw [e]; exact Bool.and_eq_true_iff.mp hx) (ho p)⟩
      | _ => cases hx
    · cases hx
theorem nms_own (own : List (Str × Str)) : nmsD (own.map fun p => .tup [.str p.1, .str p.2]) = own.map (·.1) := by
  unfold nmsD
  rw [List.filterMap_map]
  induction own with
  | nil => rfl
  | cons p r ih => rw [List.filterMap_cons, List.map_cons, ← ih]; rfl
theorem prOk_own {own : List (Str × Str)} (h : ∀ p ∈ own, nameZ p.1 = true ∧ (["block", "wrap"] : List Str).contains p.2 = true) : (own.map fun p : Str × Str => Da.tup [.str p.1, .str p.2]).all prOk = true := by
  rw [List.all_map, List.all_eq_true]
  intro p hp
  show (nameZ p.1 && _) = true
  rw [(h p hp).1, (h p hp).2]; rfl
theorem pr2_own (own : List (Str × Str)) : (own.map fun p : Str × Str => Da.tup [.str p.1, .str p.2]).all pr2 = true := by
  rw [List.all_map, List.all_eq_true]
  intro p hp
  rfl
theorem parB_own {own : List (Str × Str)} (h : OwnOk own) : parB (parD own) = true := by
  show (decide _ && _) = true
  rw [decide_eq_true (by rw [List.length_map]; exact h.len), pr2_own, prOk_own h.ok, nms_own, decide_eq_true h.nd]; rfl
theorem lcD_same {c : CT} {te : DTE} {δ : De} {M : Mm} (f : Da → Da) {l : List Da} {k : List Da → Mm → Prop} (h1 : ∀ x ∈ l, c.ok x) (h2 : ∀ x ∈ l, ∀ Q : DK, Q (f x) M → te (c.set x δ) M Q) (h : k (l.map f) M) : lcD c gYes te δ l k M := by
  have := lcD_all (g := id) (c := c) (te := te) (δ := δ) (M := M) f h1 h2 h
  rwa [List.map_id] at this
theorem prs_of : ∀ {xs : List Da}, xs.all pr2 = true → ∃ prs : List (Da × Da), xs = prs.map fun p => .tup [p.1, p.2]
  | [], _ => ⟨[], rfl⟩
  | x :: xs, h => by
    rw [List.all_cons, Bool.and_eq_true] at h
    obtain ⟨prs, rfl⟩ := prs_of h.2
    have hx := h.1
    unfold pr2 at hx
    split at hx
    · exact ⟨(_, _) :: prs, rfl⟩
    · cases hx
def spPars : DSp := fun ds M Q _ => ∃ x, ds = [x] ∧ pv x ∧ Q (.bl (parB x)) M
theorem D_are_parameters {P : Program} {w : World} {K : PySem.W.Frag} {mg : Str → Option Value} {base : Heap} {C_Procedure : Addr} {C_Program : Addr} {C_Space : Addr} {C_Look : Addr} {C_Reckoner : Addr} {C_InvalidProgram : Addr} {C_InvalidMeaning : Addr} {C_InvalidOperation : Addr} {C_InvalidNumber : Addr} {c__law_right : Addr} {P__law_right : Addr} (A : Facts K C_Procedure C_Program C_Space C_Look C_Reckoner C_InvalidProgram C_InvalidMeaning C_InvalidOperation C_InvalidNumber c__law_right P__law_right) (M : MgOf K mg) (Z : Zs mg) (D_is_name : KnD P w K mg base "is_name" 1 ["value"] spIsName) : KnD P w K mg base "are_parameters" 2 ["value"] spPars := by
  refine KnD.of A.d_are_parameters M sc_are_parameters (fun _ _ _ _ _ _ us hl => match us, hl with | [_], _ => rfl) (fun ds M Q E ⟨_, h, _⟩ => by rw [h]; rfl) (fun f cdv A0 outer s H E hr => ?_)
  have hu := U.hu_of hr
  have hu1 := U.hu1_of hr
  have nd := sc_are_parameters.nd
  refine ⟨_, (z_cons (z_if (d_w (d_or (d_tnot (d_tv (d_b Z.isinstance b_isinstance (c_disiK (K := K) rfl) (d_cons (dn 0) (d_cons (d_ty Z.tuple b_tuple) d_nil))))) (d_or1 (d_tcm o_dgt (d_b Z.len b_len c_dlen (d_cons (dn 0) d_nil)) (d_gi Z.c_MAX_PARAMETERS))))) (z_one (z_ret d_bl)) z_nil)
      (z_cons (z_if (d_tnot (d_tv (d_b Z.all b_all (c_dall rfl) (d_cons (d_lc (own := [("pair", 1)]) (c := (.n 1)) rfl nd (d_it (dn 0)) (blkOk_by (own := [("pair", 1)]) (N := N_are_parameters) (sc := defScope s_are_parameters) (by decide +kernel)) (fun _ _ _ _ _ => (gn 1 nd)) (fun _ _ _ _ _ => d_ts0) (fun _ _ _ _ _ => (d_eand (d_b Z.isinstance b_isinstance (c_disiK (K := K) rfl) (d_cons (dn 1) (d_cons (d_ty Z.tuple b_tuple) d_nil))) (d_one (d_ecm (o_deq hu) (d_b Z.len b_len c_dlen (d_cons (dn 1) d_nil)) d_int))))) d_nil)))) (z_one (z_ret d_bl)) z_nil)
      (z_cons (z_if (d_tnot (d_tv (d_b Z.all b_all (c_dall rfl) (d_cons (d_lc (own := [("name", 2), ("kind", 3)]) (c := (.t [2, 3])) rfl nd (d_it (dn 0)) (blkOk_by (own := [("name", 2), ("kind", 3)]) (N := N_are_parameters) (sc := defScope s_are_parameters) (by decide +kernel)) (fun _ _ _ _ _ => (pg_tup rfl (pgs_cons (gn 2 nd) (pgs_cons (gn 3 nd) pgs_nil)))) (fun _ _ _ _ _ => d_ts0) (fun _ _ _ _ _ => (d_eand (d_call D_is_name (hr.mono (by decide)) (d_cons (dn 2) d_nil)) (d_eand (d_b Z.isinstance b_isinstance (c_disiK (K := K) rfl) (d_cons (dn 3) (d_cons (d_ty Z.str b_str) d_nil))) (d_one (d_ecm (o_din hu1) (dn 3) (d_tup (d_cons (d_gs Z.c_BLOCK) (d_cons (d_gs Z.c_WRAP) d_nil))))))))) d_nil)))) (z_one (z_ret d_bl)) z_nil)
      (z_one (z_ret (d_ecm (o_deq hu) (d_lenSc (own := [("name", 2), ("kind", 3)]) (c := (.t [2, 3])) rfl nd (d_it (dn 0)) (blkOk_by (own := [("name", 2), ("kind", 3)]) (N := N_are_parameters) (sc := defScope s_are_parameters) (by decide +kernel)) (fun _ _ _ _ _ => (pg_tup rfl (pgs_cons (gn 2 nd) (pgs_cons (gn 3 nd) pgs_nil)))) (fun _ _ _ _ _ => d_ts0) (fun _ _ _ _ _ => (dn 2)) Z.len) (d_b Z.len b_len c_dlen (d_cons (dn 0) d_nil)))))))), ?_⟩
  rintro ds M Q Ed ⟨x, rfl, ok, q⟩
  cases ok with
  | tup xs hl hx =>
    have no : ∀ b : Bool, b = parB (.tup xs) → b = false → Q (.bl false) M := fun b e e2 => by rw [← e, e2] at q; exact q
    refine ⟨by decide, ifF (by decide) (ite2 (fun c => ?_) (fun c => ?_))⟩
    · refine no _ rfl ?_
      have := of_decide_eq_true c
      show (decide _ && _) = false
      rw [decide_eq_false (by omega)]; rfl
    · have h3 : xs.length ≤ 3 := by
        apply Classical.byContradiction
        intro h
        exact c (decide_eq_true (by omega))
      refine ⟨sz (by omega), ?_⟩
      refine lcD_same (fun e => Da.bl (pr2 e)) (fun _ _ => trivial) (fun e he Q q => ?_) ?_
      · have oe := hx e he
        cases oe with
        | tup ys hy hy2 =>
          refine ⟨by decide, ifT (by decide) ?_⟩
          have e2 : pr2 (.tup ys) = decide ((ys.length : Int) = 2) := by
            match ys with
            | [] => rfl
            | [_] => rfl
            | [_, _] => rfl
            | _ :: _ :: _ :: _ => exact (decide_eq_false (by simp; omega)).symm
          rw [e2] at q
          exact q
        | _ => exact ⟨by decide, ifF (by decide) q⟩
      · refine ⟨_, asBls_fun _ _, ?_⟩
        rw [List.all_map]
        cases c2 : xs.all pr2 with
        | false =>
          refine ifT (by show (!(xs.all pr2)) = true; rw [c2]; rfl) (no _ rfl ?_)
          show (_ && (xs.all pr2 && _)) = false
          rw [c2, Bool.false_and, Bool.and_false]
        | true =>
          refine ifF (by show ¬ (!(xs.all pr2)) = true; rw [c2]; decide) ?_
          obtain ⟨prs, rfl⟩ := prs_of c2
          have hp : ∀ p ∈ prs, pv p.1 ∧ pv p.2 := fun p hp => by
            cases hx _ (List.mem_map_of_mem hp) with
            | tup _ _ h => exact ⟨h _ (by simp), h _ (by simp)⟩
          refine ⟨sz (by omega), lcD_all (fun p => Da.bl (prOk (.tup [p.1, p.2]))) (fun _ _ => rfl) (fun p hp' Q q => ?_) ?_⟩
          · obtain ⟨a, b⟩ := p
            obtain ⟨pa, pb⟩ := hp _ hp'
            have q0 : nameD a = false → Q (.bl false) M := fun e => by
              have e2 : prOk (.tup [a, b]) = false := by
                unfold prOk
                split
                · rename_i n k h
                  cases h
                  rw [e]; rfl
                · rfl
              rw [e2] at q
              exact q
            refine ⟨a, rfl, pa, ?_⟩
            cases cn : nameD a with
            | false => exact q0 cn
            | true =>
              cases pb with
              | str k hk =>
                refine ⟨by decide, ifT (by decide) ⟨rfl, flat_strs ["block", "wrap"] k, ?_⟩⟩
                have e2 : prOk (.tup [a, .str k]) = inD (.str k) ((["block", "wrap"] : List Str).map Da.str) := by
                  rw [inD_strs]
                  show (nameD a && _) = _
                  rw [cn, Bool.true_and]
                rw [e2] at q
                exact q
              | _ => exact ⟨by decide, ifF (by decide) q⟩
          · refine ⟨_, asBls_fun _ _, ?_⟩
            have ea : ((prs.map fun p => prOk (.tup [p.1, p.2])).all id) = (prs.map fun p => Da.tup [p.1, p.2]).all prOk := by rw [List.all_map, List.all_map]; rfl
            rw [ea]
            cases c3 : (prs.map fun p => Da.tup [p.1, p.2]).all prOk with
            | false =>
              refine ifT (by decide) (no _ rfl ?_)
              show (_ && (_ && (List.all _ prOk && _))) = false
              rw [c3, Bool.false_and, Bool.and_false, Bool.and_false]
            | true =>
              refine ifF (by decide) ?_
              obtain ⟨own, e, ho⟩ := own_of c3
              rw [e] at q h3 ⊢
              have h3' : own.length ≤ 3 := by rw [List.length_map] at h3; exact h3
              refine ⟨Nat.ble_eq.mpr (by omega), lcS_all (fun p : Str × Str => p.1) (fun _ _ => rfl) (fun p hp Q q => q) fun L hL hm => ?_⟩
              have e2 : parB (.tup (own.map fun p => .tup [.str p.1, .str p.2])) = decide (((L.length : Nat) : Int) = (((own.map fun p => Da.tup [.str p.1, .str p.2]).length : Nat) : Int)) := by
                show (decide _ && (_ && (_ && decide (nmsD _).Nodup))) = _
                rw [decide_eq_true h3, pr2_own, prOk_own ho, nms_own]
                simp only [Bool.true_and]
                have := len_nodup hL hm
                rw [List.length_map] at this
                rw [List.length_map]
                by_cases hn : (own.map (·.1)).Nodup
                · rw [decide_eq_true hn, decide_eq_true (by have := this.mpr hn; omega)]
                · rw [decide_eq_false hn, decide_eq_false fun h => hn (this.mp (by omega))]
              rw [e2] at q
              exact q
  | _ => exact ⟨by decide, ifT (by decide) (ifT (by rfl) q)⟩

end K68
set_option Elab.async false
set_option linter.all false
set_option maxRecDepth 100000
set_option maxHeartbeats 4000000




namespace K68
open PySem PySem.Spec PyProof.Rows L2 U
def bodB (own : List (Str × Str)) (x : Da) : Bool := pcB (kvsD own) 6 TW x && decide ((allF 6 x).length ≤ 40)
def spBody : DSp := fun ds M Q _ => ∃ x own, ds = [x, parD own] ∧ OwnOk own ∧ pv x ∧ (pcB (kvsD own) 6 TW x = true → (allF 6 x).length ≤ 100000) ∧ Q (.bl (bodB own x)) M
theorem kvs_KD (own : List (Str × Str)) : KD (kvsD own) := fun p hp => by
  obtain ⟨q, _, rfl⟩ := List.mem_map.mp hp
  exact ⟨_, rfl⟩
theorem merge_own {own : List (Str × Str)} (h : (own.map (·.1)).Nodup) : mergeD [] (kvsD own) = kvsD own := mergeD_new (by simpa using inr_nodup h)
theorem D_is_body {P : Program} {w : World} {K : PySem.W.Frag} {mg : Str → Option Value} {base : Heap} {C_Procedure : Addr} {C_Program : Addr} {C_Space : Addr} {C_Look : Addr} {C_Reckoner : Addr} {C_InvalidProgram : Addr} {C_InvalidMeaning : Addr} {C_InvalidOperation : Addr} {C_InvalidNumber : Addr} {c__law_right : Addr} {P__law_right : Addr} (A : Facts K C_Procedure C_Program C_Space C_Look C_Reckoner C_InvalidProgram C_InvalidMeaning C_InvalidOperation C_InvalidNumber c__law_right P__law_right) (M : MgOf K mg) (Z : Zs mg) (D_is_term_in : KnD P w K mg base "is_term_in" 21 ["value", "kinds", "deep"] (spIn TW 6)) (D_pieces_of : KnD P w K mg base "pieces_of" 2 ["piece"] spPieces) : KnD P w K mg base "is_body" 22 ["value", "parameters"] spBody := by
  refine KnD.of A.d_is_body M sc_is_body (fun _ _ _ _ _ _ us hl => match us, hl with | [_, _], _ => rfl) (fun ds M Q E ⟨_, _, h, _⟩ => by rw [h]; rfl) (fun f cdv A0 outer s H E hr => ?_)
  have hu := U.hu_of hr
  have hu1 := U.hu1_of hr
  have nd := sc_is_body.nd
  refine ⟨_, (z_one (z_ret (d_eand (d_call D_is_term_in (hr.mono (by decide)) (d_cons (dn 0) (d_cons (d_t Z.dict b_dict (c_ddict rfl) (d_cons (dn 1) d_nil)) (d_cons (d_gi Z.c_MAX_DEPTH) d_nil)))) (d_one (d_ecm o_dle (d_b Z.len b_len c_dlen (d_cons (d_call D_pieces_of (hr.mono (by decide)) (d_cons (dn 0) d_nil)) d_nil)) (d_gi Z.c_MAX_TERMS)))))), ?_⟩
  rintro ds M Q Ed ⟨x, own, rfl, ho, ox, hb, q⟩
  refine ⟨kvsD own, by show _ = (kvsD own).map _; unfold kvsD; rw [List.map_map]; rfl, ?_⟩
  rw [merge_own ho.nd]
  refine ⟨x, kvsD own, rfl, ox, kvs_KD own, ?_⟩
  cases c : pcB (kvsD own) 6 TW x with
  | false =>
    have e : bodB own x = false := by unfold bodB; rw [c]; rfl
    rw [e] at q
    exact ifF (by decide) q
  | true =>
    refine ifT rfl ⟨x, 6, kvsD own, rfl, ox, .inl c, hb c, fun R hR => ?_⟩
    have e : bodB own x = decide (((R.length : Nat) : Int) ≤ 40) := by
      unfold bodB
      rw [c, Bool.true_and, hR.length_eq]
      by_cases h : (allF 6 x).length ≤ 40
      · rw [decide_eq_true h, decide_eq_true (by omega)]
      · rw [decide_eq_false h, decide_eq_false (by omega)]
    rw [e] at q
    exact q
/-- a procedure's attributes -/
def prcF (nm : Str) (own : List (Str × Str)) (body : Da) (R : List Da) : List (Str × Da) :=
  [("own_name", .str nm), ("own_parameters", parD own), ("own_body", body), ("own_kinds", .tup (own.map fun p => .str p.2)), ("own_pieces", .tup R), ("own_shape", .tup [.str nm, parD own, body])]
def Prc (C : Addr) (nm : Str) (own : List (Str × Str)) (body : Da) (R : List Da) : Da := .obj C (prcF nm own body R)
structure PrcOk (nm : Str) (own : List (Str × Str)) (body : Da) : Prop where
  nm : nameZ nm = true
  ow : OwnOk own
  pv : pv body
  bd : bodB own body = true
theorem pv_par {own : List (Str × Str)} (h : OwnOk own) : pv (parD own) := by
  have hz : ∀ {z : Str}, nameZ z = true → z.length ≤ 1000 := fun {z} h => by
    unfold nameZ at h
    simp only [Bool.and_eq_true, decide_eq_true_eq] at h
    omega
  have hk : ∀ {z : Str}, (["block", "wrap"] : List Str).contains z = true → z.length ≤ 1000 := fun {z} h => by
    have : z ∈ (["block", "wrap"] : List Str) := by simpa using h
    simp only [List.mem_cons, List.not_mem_nil, or_false] at this
    rcases this with rfl | rfl <;> decide +kernel
  refine .tup _ (by rw [List.length_map]; have := h.len; omega) fun x hx => ?_
  obtain ⟨p, hp, rfl⟩ := List.mem_map.mp hx
  refine .tup _ (by simp) fun y hy => ?_
  have := h.ok p hp
  simp only [List.mem_cons, List.not_mem_nil, or_false] at hy
  rcases hy with rfl | rfl
  · exact .str _ (hz this.1)
  · exact .str _ (hk this.2)
/-- of any plain arguments -/
def spInitE (C CI : Addr) : DSp := fun ds M Q Ed => ∃ p x y z, ds = [.ref p, x, y, z] ∧ pv x ∧ pv y ∧ pv z ∧ M p = some (.ins C []) ∧
  (((nameD x = false ∨ parB y = false) ∧ ∃ M2, Sub M2 M ∧ Ed (.ref CI) [] M2) ∨
  (∃ nm own, x = .str nm ∧ nameZ nm = true ∧ y = parD own ∧ OwnOk own ∧ (pcB (kvsD own) 6 TW z = true → (allF 6 z).length ≤ 100000) ∧
    (bodB own z = true → ∀ R, R.Perm (allF 6 z) → Q .non (mput M p (.ins C (prcF nm own z R)))) ∧ (bodB own z = false → ∃ M2, Sub M2 M ∧ Ed (.ref CI) [] M2)))
theorem D_Procedure___init__ {P : Program} {w : World} {K : PySem.W.Frag} {mg : Str → Option Value} {base : Heap} {C_Procedure : Addr} {C_Program : Addr} {C_Space : Addr} {C_Look : Addr} {C_Reckoner : Addr} {C_InvalidProgram : Addr} {C_InvalidMeaning : Addr} {C_InvalidOperation : Addr} {C_InvalidNumber : Addr} {c__law_right : Addr} {P__law_right : Addr} (A : Facts K C_Procedure C_Program C_Space C_Look C_Reckoner C_InvalidProgram C_InvalidMeaning C_InvalidOperation C_InvalidNumber c__law_right P__law_right) (M : MgOf K mg) (Z : Zs mg) (D_is_name : KnD P w K mg base "is_name" 1 ["value"] spIsName) (D_are_parameters : KnD P w K mg base "are_parameters" 2 ["value"] spPars) (D_is_body : KnD P w K mg base "is_body" 22 ["value", "parameters"] spBody) (D_pieces_of : KnD P w K mg base "pieces_of" 2 ["piece"] spPieces) : KnMXD P w K mg base C_Procedure "__init__" 23 ["self", "name", "parameters", "body"] (spInitE C_Procedure C_InvalidProgram) := by
  refine KnMXD.of A.m_Procedure___init__ sc_Procedure___init__ (fun _ _ _ _ _ _ us hl => match us, hl with | [_, _, _, _], _ => rfl) (fun ds M Q E ⟨_, _, _, _, h, _⟩ => by rw [h]; rfl) (fun f cdv A0 outer s H E hr => ?_)
  have hu := U.hu_of hr
  have hu1 := U.hu1_of hr
  have nd := sc_Procedure___init__.nd
  refine ⟨_, (z_cons (z_if (d_w (d_or (d_tnot (d_tv (d_call D_is_name (hr.mono (by decide)) (d_cons (dn 1) d_nil)))) (d_or (d_tnot (d_tv (d_call D_are_parameters (hr.mono (by decide)) (d_cons (dn 2) d_nil)))) (d_or1 (d_tnot (d_tv (d_call D_is_body (hr.mono (by decide)) (d_cons (dn 3) (d_cons (dn 2) d_nil))))))))) (z_one (z_raise rfl M A.x_InvalidProgram)) z_nil)
      (z_cons (z_sto A.cls_Procedure.cl A.n_Procedure_own_name (dn 1) (dn 0))
      (z_cons (z_sto A.cls_Procedure.cl A.n_Procedure_own_parameters (dn 2) (dn 0))
      (z_cons (z_sto A.cls_Procedure.cl A.n_Procedure_own_body (dn 3) (dn 0))
      (z_cons (z_sto A.cls_Procedure.cl A.n_Procedure_own_kinds (d_t Z.tuple b_tuple c_dtuple (d_cons (d_lc (own := [("parameter", 4), ("kind", 5)]) (c := (.t [4, 5])) rfl nd (d_it (dn 2)) (blkOk_by (own := [("parameter", 4), ("kind", 5)]) (N := N_Procedure___init__) (sc := defScope s_Procedure___init__) (by decide +kernel)) (fun _ _ _ _ _ => (pg_tup rfl (pgs_cons (gn 4 nd) (pgs_cons (gn 5 nd) pgs_nil)))) (fun _ _ _ _ _ => d_ts0) (fun _ _ _ _ _ => (dn 5))) d_nil)) (dn 0))
      (z_cons (z_sto A.cls_Procedure.cl A.n_Procedure_own_pieces (d_t Z.tuple b_tuple c_dtuple (d_cons (d_call D_pieces_of (hr.mono (by decide)) (d_cons (dn 3) d_nil)) d_nil)) (dn 0))
      (z_one (z_sto A.cls_Procedure.cl A.n_Procedure_own_shape (d_tup (d_cons (dn 1) (d_cons (dn 2) (d_cons (dn 3) d_nil)))) (dn 0))))))))), ?_⟩
  rintro ds M Q Ed ⟨p, x, y, body, rfl, hx, hy, hpv, hM, ⟨hb, e⟩ | ⟨nm, own, rfl, hn, rfl, how, hlen, q, qx⟩⟩
  · refine ⟨x, rfl, hx, ?_⟩
    cases cx : nameD x with
    | false => exact ifT rfl e
    | true =>
      rcases hb with hb | hb
      · rw [cx] at hb; cases hb
      · refine ifF (by decide) ⟨y, rfl, hy, ?_⟩
        rw [hb]
        exact ifT rfl e
  have hz : nm.length ≤ 1000 := by
    have h := hn
    unfold nameZ at h
    simp only [Bool.and_eq_true, decide_eq_true_eq] at h
    omega
  refine ⟨.str nm, rfl, .str _ hz, ?_⟩
  refine ifF (by show ¬ (!(nameZ nm)) = true; rw [hn]; decide) ?_
  refine ⟨parD own, rfl, pv_par how, ifF (by rw [parB_own how]; decide) ?_⟩
  refine ⟨body, own, rfl, how, hpv, hlen, ?_⟩
  cases c : bodB own body with
  | false => exact ifT rfl (qx c)
  | true =>
    have hb := c
    unfold bodB at hb
    rw [Bool.and_eq_true, decide_eq_true_eq] at hb
    refine ifF (by decide) ?_
    have h3 : (own.map fun p : Str × Str => Da.tup [.str p.1, .str p.2]).length ≤ 1000000 := by rw [List.length_map]; have := how.len; omega
    refine ⟨_, hM, rfl, _, mput_same, rfl, _, mput_same, rfl, ?_⟩
    refine ⟨sz h3, lcD_all (fun p : Str × Str => Da.str p.2) (fun _ _ => rfl) (fun p hp Q q => q) ?_⟩
    refine ⟨_, mput_same, rfl, ?_⟩
    refine ⟨body, 6, kvsD own, rfl, hpv, .inl hb.1, by omega, fun R hR => ?_⟩
    refine ⟨_, mput_same, rfl, rfl, _, mput_same, rfl, ?_⟩
    rw [mput_put, mput_put, mput_put, mput_put, mput_put]
    exact q c R hR
def spTermX (CI : Addr) : DSp := fun ds M Q Ed => ∃ x y, ds = [x, y] ∧ pv x ∧ pv y ∧ ((parB y = false ∧ ∃ M2, Sub M2 M ∧ Ed (.ref CI) [] M2) ∨ ∃ own, y = parD own ∧ OwnOk own ∧ (pcB (kvsD own) 6 TW x = true → (allF 6 x).length ≤ 100000) ∧ Q (.bl (bodB own x)) M)
theorem D_is_term {P : Program} {w : World} {K : PySem.W.Frag} {mg : Str → Option Value} {base : Heap} {C_Procedure : Addr} {C_Program : Addr} {C_Space : Addr} {C_Look : Addr} {C_Reckoner : Addr} {C_InvalidProgram : Addr} {C_InvalidMeaning : Addr} {C_InvalidOperation : Addr} {C_InvalidNumber : Addr} {c__law_right : Addr} {P__law_right : Addr} (A : Facts K C_Procedure C_Program C_Space C_Look C_Reckoner C_InvalidProgram C_InvalidMeaning C_InvalidOperation C_InvalidNumber c__law_right P__law_right) (M : MgOf K mg) (Z : Zs mg) (D_are_parameters : KnD P w K mg base "are_parameters" 2 ["value"] spPars) (D_is_body : KnD P w K mg base "is_body" 22 ["value", "parameters"] spBody) : KnXD P w K mg base "is_term" 23 ["value", "parameters"] (spTermX C_InvalidProgram) := by
  refine KnXD.of A.d_is_term M sc_is_term (fun _ _ _ _ _ _ us hl => match us, hl with | [_, _], _ => rfl) (fun ds M Q E ⟨_, _, h, _⟩ => by rw [h]; rfl) (fun f cdv A0 outer s H E hr => ?_)
  have hu := U.hu_of hr
  have hu1 := U.hu1_of hr
  have nd := sc_is_term.nd
  refine ⟨_, (z_cons (z_if (d_tnot (d_tv (d_call D_are_parameters (hr.mono (by decide)) (d_cons (dn 1) d_nil)))) (z_one (z_raise rfl M A.x_InvalidProgram)) z_nil)
      (z_one (z_ret (d_call D_is_body (hr.mono (by decide)) (d_cons (dn 0) (d_cons (dn 1) d_nil)))))), ?_⟩
  rintro ds M Q Ed ⟨x, y, rfl, hx, hy, h⟩
  refine ⟨y, rfl, hy, ?_⟩
  rcases h with ⟨hp, hq⟩ | ⟨own, rfl, ho, hl, q⟩
  · exact ifT (by rw [hp]; rfl) hq
  · refine ifF (by rw [parB_own ho]; decide) ?_
    exact ⟨x, own, rfl, ho, hx, hl, q⟩
def spGetP (C : Addr) (g : Str → List (Str × Str) → Da → List Da → Da) : DSp := fun ds M Q _ => ∃ nm own body R, ds = [Prc C nm own body R] ∧ Q (g nm own body R) M
theorem D_Procedure___len__ {P : Program} {w : World} {K : PySem.W.Frag} {mg : Str → Option Value} {base : Heap} {C_Procedure : Addr} {C_Program : Addr} {C_Space : Addr} {C_Look : Addr} {C_Reckoner : Addr} {C_InvalidProgram : Addr} {C_InvalidMeaning : Addr} {C_InvalidOperation : Addr} {C_InvalidNumber : Addr} {c__law_right : Addr} {P__law_right : Addr} (A : Facts K C_Procedure C_Program C_Space C_Look C_Reckoner C_InvalidProgram C_InvalidMeaning C_InvalidOperation C_InvalidNumber c__law_right P__law_right) (M : MgOf K mg) (Z : Zs mg)  : KnMD P w K mg base C_Procedure "__len__" 1 ["self"] (spGetP C_Procedure fun _ _ _ R => .int (R.length : Nat)) := by
  refine KnMD.of A.m_Procedure___len__ sc_Procedure___len__ (fun _ _ _ _ _ _ us hl => match us, hl with | [_], _ => rfl) (fun ds M Q E ⟨_, _, _, _, h, _⟩ => by rw [h]; rfl) (fun f cdv A0 outer s H E hr => ?_)
  have hu := U.hu_of hr
  have hu1 := U.hu1_of hr
  have nd := sc_Procedure___len__.nd
  refine ⟨_, (z_one (z_ret (d_b Z.len b_len c_dlen (d_cons (d_fld A.cls_Procedure.cl A.n_Procedure_own_pieces (dn 0)) d_nil)))), ?_⟩
  rintro ds M Q Ed ⟨nm, own, body, R, rfl, q⟩
  exact ⟨rfl, _, rfl, q⟩

end K68
set_option Elab.async false
set_option linter.all false
set_option maxRecDepth 100000
set_option maxHeartbeats 4000000




namespace K68
open PySem PySem.Spec PyProof.Rows L2 U
def hd1 : Da → Str
  | .tup (.str z :: _) => z
  | _ => ""
theorem name_str {d : Da} (h : nameD d = true) : ∃ z, d = .str z := by
  cases d with
  | str z => exact ⟨z, rfl⟩
  | _ => cases h
theorem sec_ok {r : List Str → Da → Bool} {kvs : List (Key × Da)} {z : Str} {xs : List Da} (h : bodyB r kvs z xs = true) (hz : z = "do" ∨ z = "call" ∨ z = "with") : ∃ y t, xs = .str y :: t := by
  unfold bodyB at h
  rcases hz with rfl | rfl | rfl
  · rw [if_pos rfl] at h
    match xs, h with
    | [w, t], h =>
      obtain ⟨y, rfl⟩ := name_str (Bool.and_eq_true_iff.mp h).1
      exact ⟨y, [t], rfl⟩
  · rw [if_neg (by decide), if_neg (by decide), if_neg (by decide), if_neg (by decide), if_neg (by decide), if_pos rfl] at h
    match xs, h with
    | m :: gs, h =>
      obtain ⟨y, rfl⟩ := name_str (Bool.and_eq_true_iff.mp h).1
      exact ⟨y, gs, rfl⟩
  · rw [if_neg (by decide), if_neg (by decide), if_neg (by decide), if_neg (by decide), if_neg (by decide), if_neg (by decide), if_pos rfl] at h
    match xs, h with
    | m :: gs, h =>
      obtain ⟨y, rfl⟩ := name_str (Bool.and_eq_true_iff.mp h).1
      exact ⟨y, gs, rfl⟩
theorem allF_ok {kvs : List (Key × Da)} : ∀ {n : Nat} {x : Da}, okP kvs n x → ∀ y ∈ allF n x, ∃ m, okP kvs m y
  | 0, x, h, y, hy => by rcases h with h | h <;> cases h
  | n + 1, x, h, y, hy => by
    rcases List.mem_cons.mp hy with rfl | hy
    · exact ⟨_, h⟩
    · obtain ⟨m, z, xs, e, rfl, hb⟩ := h.shape
      obtain rfl : n = m := by omega
      obtain ⟨k, hk, hy⟩ := List.mem_flatMap.mp hy
      exact allF_ok (kids_ok hb k hk) y hy
theorem prc_R {nm : Str} {own : List (Str × Str)} {body : Da} {R : List Da} (ho : PrcOk nm own body) (hR : R.Perm (allF 6 body)) : R.length ≤ 40 ∧ ∀ x ∈ R, ∃ m z xs, x = .tup (.str z :: xs) ∧ bodyB (pcB (kvsD own) m) (kvsD own) z xs = true := by
  have hb := ho.bd
  unfold bodB at hb
  rw [Bool.and_eq_true, decide_eq_true_eq] at hb
  refine ⟨by rw [hR.length_eq]; exact hb.2, fun x hx => ?_⟩
  obtain ⟨m, hm⟩ := allF_ok (.inl hb.1) x (hR.mem_iff.mp hx)
  obtain ⟨m', z, xs, _, e, h⟩ := hm.shape
  exact ⟨m', z, xs, e, h⟩
theorem at0 {x : Da} {xs : List Da} : atI (x :: xs) 0 = some x := show atI (x :: xs) ((0 : Nat) : Int) = some x from atI_nat rfl
theorem at1 {x y : Da} {xs : List Da} : atI (x :: y :: xs) 1 = some y := show atI (x :: y :: xs) ((1 : Nat) : Int) = some y from atI_nat rfl

end K68
set_option Elab.async false
set_option linter.all false
set_option maxRecDepth 100000
set_option maxHeartbeats 4000000




namespace K68
open PySem PySem.Spec PyProof.Rows L2 U
theorem name_ok {z : Str} (h : nameZ z = true) : PyData.strOk z = true := by
  unfold nameZ at h
  simp only [Bool.and_eq_true] at h
  show z.cps.all _ = true
  rw [← Array.all_toList, List.all_eq_true]
  intro c hc
  have := List.all_eq_true.mp h.2 c hc
  simp only [Bool.and_eq_true, decide_eq_true_eq] at this
  exact decide_eq_true (by omega)
theorem table_ok {t : Da} (h : tableB t = true) : plD t = true ∧ okN 1 t := by
  cases t with
  | tup xs =>
    have h2 := (Bool.and_eq_true_iff.mp h).2
    have hx : ∀ x ∈ xs, plD x = true ∧ okN 0 x := fun x hx => by
      have := List.all_eq_true.mp h2 x hx
      cases x with
      | non => exact ⟨rfl, okN_non⟩
      | int i => exact ⟨rfl, okN_int⟩
      | _ => simp [isNon, isFr] at this
    exact ⟨plDs_of fun x h => (hx x h).1, okN_tup fun x h => (hx x h).2⟩
  | _ => cases h
theorem kind_ok {kvs : List (Key × Da)} {k : Str} {x : Da} (h : kindB kvs k x = true) (hk : ∀ z k, valD kvs (.inr z) = some k → nameZ z = true) : plD x = true ∧ okN 0 x := by
  cases x with
  | str z =>
    refine ⟨rfl, okN_str (name_ok ?_)⟩
    cases e : valD kvs (.inr z) with
    | none => have h : strIs (valD kvs (.inr z)) k = true := h; rw [e] at h; cases h
    | some d => exact hk z d e
  | _ => cases h
theorem own_val {own : List (Str × Str)} (ho : OwnOk own) {z : Str} {d : Da} (h : valD (kvsD own) (.inr z) = some d) : nameZ z = true := by
  unfold valD at h
  cases e : (kvsD own).find? fun kv => decide (kv.1 = .inr z) with
  | none => rw [e] at h; cases h
  | some p =>
    have hm := List.mem_of_find?_eq_some e
    have hp := List.find?_some e
    obtain ⟨q, hq, rfl⟩ := List.mem_map.mp hm
    have : (Sum.inr q.1 : Key) = .inr z := of_decide_eq_true hp
    rw [← Sum.inr.inj this]
    exact (ho.ok q hq).1
theorem nm_ok {d : Da} (h : nameD d = true) : plD d = true ∧ okN 0 d := by
  obtain ⟨z, rfl⟩ := name_str h
  exact ⟨rfl, okN_str (name_ok h)⟩
theorem word_ok {z : Str} {ws : List Str} (h : ws.contains z = true) (hw : ∀ w ∈ ws, PyData.strOk w = true) : PyData.strOk z = true := hw z (by simpa using h)
theorem pc_ok {kvs : List (Key × Da)} (hk : ∀ z k, valD kvs (.inr z) = some k → nameZ z = true) : ∀ {n : Nat} {ws : List Str} {x : Da}, (∀ w ∈ ws, PyData.strOk w = true) → pcB kvs n ws x = true → plD x = true ∧ okN (n + 2) x
  | 0, _, _, _, h => by cases h
  | n + 1, ws, x, hw, h => by
    have hW : ∀ w ∈ WW, PyData.strOk w = true := by decide +kernel
    have hT : ∀ w ∈ TW, PyData.strOk w = true := by decide +kernel
    have sh : hasW ws x = true := by
      cases c : hasW ws x with
      | true => rfl
      | false => rw [pcB_no c] at h; cases h
    obtain ⟨z, xs, rfl, hz⟩ := hasW_shape sh
    rw [pcB_yes hz] at h
    have hx : ∀ y ∈ xs, plD y = true ∧ okN (n + 2) y := by
      unfold bodyB at h
      split at h
      · split at h
        · rename_i w t
          obtain ⟨h1, h2⟩ := Bool.and_eq_true_iff.mp h
          intro y hy
          simp only [List.mem_cons, List.not_mem_nil, or_false] at hy
          rcases hy with rfl | rfl
          · exact ⟨(nm_ok h1).1, (nm_ok h1).2.mono (by omega)⟩
          · exact ⟨(table_ok h2).1, (table_ok h2).2.mono (by omega)⟩
        · cases h
      split at h
      · exact fun y hy => pc_ok hk hT (List.all_eq_true.mp h y hy)
      split at h
      · split at h
        · cases h
        · exact fun y hy => pc_ok hk hT (List.all_eq_true.mp h y hy)
      have one : ∀ {k : Str} {p : Da}, kindB kvs k p = true → ∀ y ∈ [p], plD y = true ∧ okN (n + 2) y := fun h y hy => by
        simp only [List.mem_cons, List.not_mem_nil, or_false] at hy
        subst hy
        exact ⟨(kind_ok h hk).1, (kind_ok h hk).2.mono (by omega)⟩
      have giv : ∀ {m : Da} {gs : List Da}, (nameD m && gs.all fun g => pcB kvs n TW g || pcB kvs n WW g) = true → ∀ y ∈ m :: gs, plD y = true ∧ okN (n + 2) y := fun {m gs} h y hy => by
        obtain ⟨h1, h2⟩ := Bool.and_eq_true_iff.mp h
        rcases List.mem_cons.mp hy with rfl | hy
        · exact ⟨(nm_ok h1).1, (nm_ok h1).2.mono (by omega)⟩
        · rcases Bool.or_eq_true_iff.mp (List.all_eq_true.mp h2 y hy) with h | h
          · exact pc_ok hk hT h
          · exact pc_ok hk hW h
      split at h
      · split at h
        · exact one h
        · cases h
      split at h
      · split at h
        · exact one h
        · cases h
      split at h
      · split at h
        · exact giv h
        · cases h
      split at h
      · split at h
        · exact giv h
        · cases h
      split at h
      · split at h
        · rename_i w t
          obtain ⟨h1, h2⟩ := Bool.and_eq_true_iff.mp h
          intro y hy
          simp only [List.mem_cons, List.not_mem_nil, or_false] at hy
          rcases hy with rfl | rfl
          · exact pc_ok hk hW h1
          · exact pc_ok hk hT h2
        · cases h
      · cases h
    refine ⟨plDs_of fun y hy => ?_, okN_tup fun y hy => ?_⟩
    · rcases List.mem_cons.mp hy with rfl | hy
      · rfl
      · exact (hx y hy).1
    · rcases List.mem_cons.mp hy with rfl | hy
      · exact okN_str (word_ok hz hw)
      · exact (hx y hy).2
def shpD (nm : Str) (own : List (Str × Str)) (body : Da) : Da := .tup [.str nm, parD own, body]
theorem shp_ok {nm : Str} {own : List (Str × Str)} {body : Da} (h : PrcOk nm own body) : plD (shpD nm own body) = true ∧ okN 9 (shpD nm own body) := by
  have hb := h.bd
  unfold bodB at hb
  rw [Bool.and_eq_true] at hb
  have b := pc_ok (fun z k e => own_val h.ow e) (n := 6) (ws := TW) (by decide +kernel) hb.1
  have hw : ∀ {z : Str}, (["block", "wrap"] : List Str).contains z = true → PyData.strOk z = true := fun h => word_ok h (by decide +kernel)
  have p : ∀ y ∈ own.map (fun p : Str × Str => Da.tup [.str p.1, .str p.2]), plD y = true ∧ okN 1 y := fun y hy => by
    obtain ⟨q, hq, rfl⟩ := List.mem_map.mp hy
    refine ⟨rfl, okN_tup fun z hz => ?_⟩
    simp only [List.mem_cons, List.not_mem_nil, or_false] at hz
    rcases hz with rfl | rfl
    · exact okN_str (name_ok (h.ow.ok q hq).1)
    · exact okN_str (hw (h.ow.ok q hq).2)
  refine ⟨plDs_of fun y hy => ?_, okN_tup fun y hy => ?_⟩
  · simp only [List.mem_cons, List.not_mem_nil, or_false] at hy
    rcases hy with rfl | rfl | rfl
    · rfl
    · exact plDs_of fun y hy => (p y hy).1
    · exact b.1
  · simp only [List.mem_cons, List.not_mem_nil, or_false] at hy
    rcases hy with rfl | rfl | rfl
    · exact okN_str (name_ok h.nm)
    · exact (okN_tup fun y hy => (p y hy).2).mono (by omega)
    · exact b.2

end K68
set_option Elab.async false
set_option linter.all false
set_option maxRecDepth 100000
set_option maxHeartbeats 4000000




namespace K68
open PySem PySem.Spec PyProof.Rows L2 U
theorem par_inj {a b : List (Str × Str)} (h : parD a = parD b) : a = b := by
  have h : a.map (fun p : Str × Str => Da.tup [.str p.1, .str p.2]) = b.map fun p => Da.tup [.str p.1, .str p.2] := by
    unfold parD at h
    exact Da.tup.inj h
  induction a generalizing b with
  | nil => cases b with
    | nil => rfl
    | cons q r => cases h
  | cons p a ih =>
    cases b with
    | nil => cases h
    | cons q b =>
      rw [List.map_cons, List.map_cons] at h
      injection h with h1 h2
      obtain ⟨p1, p2⟩ := p
      obtain ⟨q1, q2⟩ := q
      simp only [Da.tup.injEq, List.cons.injEq, Da.str.injEq, and_true] at h1
      rw [h1.1, h1.2, ih (by rw [parD, parD, h2]) h2]
def spEqP (C : Addr) : DSp := fun ds M Q _ => ∃ (nm : Str) (own : List (Str × Str)) (body : Da) (R : List Da) (y : Da) (b : Bool), ds = [Prc C nm own body R, y] ∧ PrcOk nm own body ∧
  ((∃ nm' own' body' R', y = Prc C nm' own' body' R' ∧ PrcOk nm' own' body' ∧ (b = true ↔ nm = nm' ∧ own = own' ∧ body = body')) ∨ (pv y ∧ b = false)) ∧ Q (.bl b) M
theorem D_Procedure___eq__ {P : Program} {w : World} {K : PySem.W.Frag} {mg : Str → Option Value} {base : Heap} {C_Procedure : Addr} {C_Program : Addr} {C_Space : Addr} {C_Look : Addr} {C_Reckoner : Addr} {C_InvalidProgram : Addr} {C_InvalidMeaning : Addr} {C_InvalidOperation : Addr} {C_InvalidNumber : Addr} {c__law_right : Addr} {P__law_right : Addr} (A : Facts K C_Procedure C_Program C_Space C_Look C_Reckoner C_InvalidProgram C_InvalidMeaning C_InvalidOperation C_InvalidNumber c__law_right P__law_right) (M : MgOf K mg) (Z : Zs mg)  : KnMD P w K mg base C_Procedure "__eq__" 1 ["self", "other"] (spEqP C_Procedure) := by
  refine KnMD.of A.m_Procedure___eq__ sc_Procedure___eq__ (fun _ _ _ _ _ _ us hl => match us, hl with | [_, _], _ => rfl) (fun ds M Q E ⟨_, _, _, _, _, _, h, _⟩ => by rw [h]; rfl) (fun f cdv A0 outer s H E hr => ?_)
  have hu := U.hu_of hr
  have hu1 := U.hu1_of hr
  have nd := sc_Procedure___eq__.nd
  refine ⟨_, (z_one (z_ret (d_eand (d_b Z.isinstance b_isinstance (c_disiK (K := K) rfl) (d_cons (dn 1) (d_cons (d_glob (M.of _ _ A.cls_Procedure.at_)) d_nil))) (d_one (d_ecm (o_deq hu) (d_fld A.cls_Procedure.cl A.n_Procedure_own_shape (dn 0)) (d_fld A.cls_Procedure.cl A.n_Procedure_own_shape (dn 1))))))), ?_⟩
  rintro ds M Q Ed ⟨nm, own, body, R, y, b, rfl, ho, h, q⟩
  rcases h with ⟨nm', own', body', R', rfl, ho', hb⟩ | ⟨oy, rfl⟩
  · refine ⟨A.cls_Procedure.isC, _, A.cls_Procedure.self, ?_⟩
    have e : eqD (shpD nm own body) (shpD nm' own' body') = b := by
      rw [Bool.eq_iff_iff, eqD_iff (shp_ok ho).1 (shp_ok ho').1, hb]
      constructor
      · intro h
        unfold shpD at h
        injection h with h
        injection h with h1 h
        injection h with h2 h
        injection h with h3 h
        injection h1 with h1
        exact ⟨h1, par_inj h2, h3⟩
      · rintro ⟨rfl, rfl, rfl⟩
        rfl
    refine ⟨rfl, _, rfl, rfl, _, rfl, (shp_ok ho).2.ok (by decide), (shp_ok ho').2.ok (by decide), ?_⟩
    have q' : Q (.bl (eqD (shpD nm own body) (shpD nm' own' body'))) M := by rw [e]; exact q
    exact q'
  · cases oy with
    | non => exact ⟨_, A.kt_NoneType, q⟩
    | bl _ => exact ⟨_, A.kt_bool, q⟩
    | int _ => exact ⟨_, A.kt_int, q⟩
    | str _ => exact ⟨_, A.kt_str, q⟩
    | lst _ => exact ⟨_, A.kt_list, q⟩
    | tup _ => exact ⟨_, A.kt_tuple, q⟩
    | dct _ => exact ⟨_, A.kt_dict, q⟩
abbrev iS (i : Int) : Str := Str.ofString (toString i)
def txtP (nm : Str) (own : List (Str × Str)) (R : List Da) : Str := Str.empty ++ ("procedure " : Str) ++ nm ++ (", " : Str) ++ iS (own.length : Nat) ++ (" parameters, " : Str) ++ iS (R.length : Nat) ++ (" terms" : Str)
def spStrP (C : Addr) : DSp := fun ds M Q _ => ∃ nm own body R, ds = [Prc C nm own body R] ∧ PrcOk nm own body ∧ R.length ≤ 40 ∧ Q (.str (txtP nm own R)) M
theorem D_Procedure___str__ {P : Program} {w : World} {K : PySem.W.Frag} {mg : Str → Option Value} {base : Heap} {C_Procedure : Addr} {C_Program : Addr} {C_Space : Addr} {C_Look : Addr} {C_Reckoner : Addr} {C_InvalidProgram : Addr} {C_InvalidMeaning : Addr} {C_InvalidOperation : Addr} {C_InvalidNumber : Addr} {c__law_right : Addr} {P__law_right : Addr} (A : Facts K C_Procedure C_Program C_Space C_Look C_Reckoner C_InvalidProgram C_InvalidMeaning C_InvalidOperation C_InvalidNumber c__law_right P__law_right) (M : MgOf K mg) (Z : Zs mg)  : KnMD P w K mg base C_Procedure "__str__" 1 ["self"] (spStrP C_Procedure) := by
  refine KnMD.of A.m_Procedure___str__ sc_Procedure___str__ (fun _ _ _ _ _ _ us hl => match us, hl with | [_], _ => rfl) (fun ds M Q E ⟨_, _, _, _, h, _⟩ => by rw [h]; rfl) (fun f cdv A0 outer s H E hr => ?_)
  have hu := U.hu_of hr
  have hu1 := U.hu1_of hr
  have nd := sc_Procedure___str__.nd
  refine ⟨_, (z_one (z_ret (d_joined (DJ.cons d_str (DJ.cons (d_fmt (d_fld A.cls_Procedure.cl A.n_Procedure_own_name (dn 0))) (DJ.cons d_str (DJ.cons (d_fmt (d_b Z.len b_len c_dlen (d_cons (d_fld A.cls_Procedure.cl A.n_Procedure_own_parameters (dn 0)) d_nil))) (DJ.cons d_str (DJ.cons (d_fmt (d_b Z.len b_len c_dlen (d_cons (d_fld A.cls_Procedure.cl A.n_Procedure_own_pieces (dn 0)) d_nil))) (DJ.cons d_str DJ.nil)))))))))), ?_⟩
  rintro ds M Q Ed ⟨nm, own, body, R, rfl, ho, hl, q⟩
  have hn : nm.length ≤ 8 := by
    have h := ho.nm
    unfold nameZ at h
    simp only [Bool.and_eq_true, decide_eq_true_eq] at h
    exact h.1.2
  have ho3 := ho.ow.len
  have hp : (own.map fun p : Str × Str => Da.tup [.str p.1, .str p.2]).length = own.length := List.length_map _
  have lg : ∀ {n : Nat}, n ≤ 40 → ((n : Int)).natAbs.log2 < 1920 ∧ (iS (n : Nat)).length ≤ 2 := fun {n} h => (show ∀ n : Fin 41, (((n.val : Nat) : Int)).natAbs.log2 < 1920 ∧ (iS (n.val : Nat)).length ≤ 2 by decide +kernel) ⟨n, by omega⟩
  have e1 := lg (n := (own.map fun p : Str × Str => Da.tup [.str p.1, .str p.2]).length) (by rw [hp]; omega)
  have e2 := lg hl
  have q' : Q (.str (Str.empty ++ ("procedure " : Str) ++ nm ++ (", " : Str) ++ iS ((own.map fun p : Str × Str => Da.tup [.str p.1, .str p.2]).length : Nat) ++ (" parameters, " : Str) ++ iS (R.length : Nat) ++ (" terms" : Str))) M := by rw [hp]; exact q
  have sl : ∀ a b : Str, (a ++ b).length = a.length + b.length := fun a b => Str.length_append a b
  have c0 : Str.empty.length = 0 := rfl
  have c1 : (Str.ofString "procedure ").length = 10 := by decide +kernel
  have c2 : (Str.ofString ", ").length = 2 := by decide +kernel
  have c3 : (Str.ofString " parameters, ").length = 13 := by decide +kernel
  have c4 : (Str.ofString " terms").length = 6 := by decide +kernel
  have e12 := e1.2
  have e22 := e2.2
  generalize hL : (own.map fun p : Str × Str => Da.tup [.str p.1, .str p.2]).length = L at e12 e1 q' hp
  have z1 : (Str.empty ++ Str.ofString "procedure " ++ nm).length ≤ 1000000 := by simp only [sl]; simp only [c0, c1]; omega
  have z2 : (Str.empty ++ Str.ofString "procedure " ++ nm ++ Str.ofString ", ").length ≤ 1000000 := by simp only [sl]; simp only [c0, c1, c2]; omega
  have z3 : (Str.empty ++ Str.ofString "procedure " ++ nm ++ Str.ofString ", " ++ iS (L : Nat)).length ≤ 1000000 := by simp only [sl]; simp only [c0, c1, c2]; omega
  have z4 : (Str.empty ++ Str.ofString "procedure " ++ nm ++ Str.ofString ", " ++ iS (L : Nat) ++ Str.ofString " parameters, ").length ≤ 1000000 := by simp only [sl]; simp only [c0, c1, c2, c3]; omega
  have z5 : (Str.empty ++ Str.ofString "procedure " ++ nm ++ Str.ofString ", " ++ iS (L : Nat) ++ Str.ofString " parameters, " ++ iS (R.length : Nat)).length ≤ 1000000 := by simp only [sl]; simp only [c0, c1, c2, c3]; omega
  have z6 : (Str.empty ++ Str.ofString "procedure " ++ nm ++ Str.ofString ", " ++ iS (L : Nat) ++ Str.ofString " parameters, " ++ iS (R.length : Nat) ++ Str.ofString " terms").length ≤ 1000000 := by simp only [sl]; simp only [c0, c1, c2, c3, c4]; omega
  subst hL
  exact ⟨sz (by rw [sl]; omega), rfl, _, rfl, sz (by omega), sz z1, sz z2, rfl, _, rfl, e1.1, sz z3, sz z4, rfl, _, rfl, e2.1, sz z5, sz z6, q'⟩

end K68
set_option Elab.async false
set_option linter.all false
set_option maxRecDepth 100000
set_option maxHeartbeats 4000000




namespace K68
open PySem PySem.Spec PyProof.Rows L2 U
/-- a name's parameters -/
def rowOf (rows : List (Str × List (Str × Str))) (z : Str) : List (Str × Str) := ((rows.find? fun r => decide (r.1 = z)).map (·.2)).getD []
/-- for which kind a piece can be handed -/
def kindD : Da → Str
  | .tup (.str z :: _) => if WW.contains z = true then "wrap" else "block"
  | _ => "block"
def modB (m : Nat) : Da → Bool
  | .non => true
  | .int i => decide (0 ≤ i) && decide (i < (m : Nat))
  | _ => false
/-- a piece fits a table of procedures, what is in it left out -/
def fitB (rows : List (Str × List (Str × Str))) (m : Nat) : Da → Bool
  | .tup (.str z :: xs) =>
    if z = "do" then (match xs with | [_, .tup ts] => decide (ts.length = m) && ts.all (modB m) | _ => false)
    else if z = "call" then (match xs with | .str c :: gs => decide (c ∈ rows.map (·.1)) && decide (gs.map kindD = (rowOf rows c).map (·.2)) | _ => false)
    else if z = "with" then (match xs with | .str c :: gs => decide (c ∈ rows.map (·.1)) && decide (gs.map kindD ++ [("block" : Str)] = (rowOf rows c).map (·.2)) | _ => false)
    else true
  | _ => true
abbrev Rws := List (Str × List (Str × Str))
theorem cut2 {α : Type} (a b : α) (xs : List α) : U.cutD (a :: b :: xs) (some 2) none = xs := by
  unfold U.cutD
  rw [show HT.sIx (a :: b :: xs).length 0 (some 2) = 2 from by rw [show (2 : Int) = ((2 : Nat) : Int) from rfl, HT.sIx_nat]; simp]
  simp [HT.sIx]
theorem rowOf_mem {rows : Rws} (nd : (rows.map (·.1)).Nodup) {r : Str × List (Str × Str)} (hr : r ∈ rows) : rowOf rows r.1 = r.2 := by
  unfold rowOf
  induction rows with
  | nil => cases hr
  | cons s rows ih =>
    rw [List.find?_cons]
    rw [List.map_cons, List.nodup_cons] at nd
    rcases List.mem_cons.mp hr with rfl | hr
    · simp
    · have hne : ¬ s.1 = r.1 := fun e => nd.1 (by rw [e]; exact List.mem_map_of_mem hr)
      rw [show (decide (s.1 = r.1)) = false from decide_eq_false hne]
      exact ih nd.2 hr

structure Pr where
  nm : Str
  own : List (Str × Str)
  body : Da
  R : List Da
def Pr.da (C : Addr) (r : Pr) : Da := Prc C r.nm r.own r.body r.R
def Pr.row (r : Pr) : Str × List (Str × Str) := (r.nm, r.own)
structure PrOk (r : Pr) : Prop where
  ok : PrcOk r.nm r.own r.body
  pm : r.R.Perm (allF 6 r.body)
def tblP (C : Addr) (ps : List Pr) : List (Key × Da) := ps.map fun r => (.inr r.nm, r.da C)
theorem tbl_some {C : Addr} {ps : List Pr} (nd : (ps.map Pr.nm).Nodup) {r : Pr} (hr : r ∈ ps) : valD (tblP C ps) (.inr r.nm) = some (r.da C) := by
  unfold valD tblP
  induction ps with
  | nil => cases hr
  | cons s rows ih =>
    rw [List.map_cons, List.find?_cons]
    rw [List.map_cons, List.nodup_cons] at nd
    rcases List.mem_cons.mp hr with rfl | hr
    · simp
    · have hne : ¬ ((Sum.inr s.nm : Key) = .inr r.nm) := fun e => nd.1 (by rw [Sum.inr.inj e]; exact List.mem_map_of_mem hr)
      rw [show (decide ((Sum.inr s.nm : Key) = .inr r.nm)) = false from decide_eq_false hne]
      exact ih nd.2 hr
theorem tbl_none {C : Addr} {ps : List Pr} {z : Str} (h : z ∉ ps.map Pr.nm) : valD (tblP C ps) (.inr z) = none := by
  unfold valD tblP
  rw [List.find?_eq_none.mpr fun kv hk e => ?_]
  · rfl
  · obtain ⟨r, hr, rfl⟩ := List.mem_map.mp hk
    exact h (by rw [← Sum.inr.inj (of_decide_eq_true e)]; exact List.mem_map_of_mem hr)
theorem tbl_is {C : Addr} {ps : List Pr} (nd : (ps.map Pr.nm).Nodup) (z : Str) : (valD (tblP C ps) (.inr z)).isSome = decide (z ∈ ps.map Pr.nm) := by
  by_cases h : z ∈ ps.map Pr.nm
  · obtain ⟨r, hr, rfl⟩ := List.mem_map.mp h
    rw [tbl_some nd hr, decide_eq_true h]; rfl
  · rw [tbl_none h, decide_eq_false h]; rfl
theorem at2 {x y z : Da} {xs : List Da} : atI (x :: y :: z :: xs) 2 = some z := show atI (x :: y :: z :: xs) ((2 : Nat) : Int) = some z from atI_nat rfl
theorem row_nm (ps : List Pr) : (ps.map Pr.row).map (·.1) = ps.map Pr.nm := by rw [List.map_map]; rfl
theorem okT_any {L : List Str} (h : ∀ z ∈ L, PyData.strOk z = true) : okD (.tup (L.map Da.str)) = true := (okN_tup (n := 0) fun x hx => by
  obtain ⟨z, hz, rfl⟩ := List.mem_map.mp hx; exact okN_str (h z hz)).ok (by decide)
theorem str_inj : ∀ {a b : List Str}, a.map Da.str = b.map Da.str → a = b
  | [], [], _ => rfl
  | x :: a, y :: b, h => by
    rw [List.map_cons, List.map_cons] at h
    injection h with h1 h2
    injection h1 with h1
    rw [h1, str_inj h2]
  | [], _ :: _, h => by cases h
  | _ :: _, [], h => by cases h
theorem plT_strs (L : List Str) : plD (.tup (L.map Da.str)) = true := plDs_of fun x hx => by
  obtain ⟨z, _, rfl⟩ := List.mem_map.mp hx; rfl
theorem eq_strs (a b : List Str) : eqD (.tup (a.map Da.str)) (.tup (b.map Da.str)) = decide (a = b) :=
  eqD_dec (plT_strs a) (plT_strs b) ⟨fun h => str_inj (Da.tup.inj h), fun h => by rw [h]⟩
def spKindOf : DSp := fun ds M Q _ => ∃ z xs, ds = [.tup (.str z :: xs)] ∧ Q (.str (kindD (.tup (.str z :: xs)))) M
theorem D_kind_of {P : Program} {w : World} {K : PySem.W.Frag} {mg : Str → Option Value} {base : Heap} {C_Procedure : Addr} {C_Program : Addr} {C_Space : Addr} {C_Look : Addr} {C_Reckoner : Addr} {C_InvalidProgram : Addr} {C_InvalidMeaning : Addr} {C_InvalidOperation : Addr} {C_InvalidNumber : Addr} {c__law_right : Addr} {P__law_right : Addr} (A : Facts K C_Procedure C_Program C_Space C_Look C_Reckoner C_InvalidProgram C_InvalidMeaning C_InvalidOperation C_InvalidNumber c__law_right P__law_right) (M : MgOf K mg) (Z : Zs mg)  : KnD P w K mg base "kind_of" 1 ["piece"] spKindOf := by
  refine KnD.of A.d_kind_of M sc_kind_of (fun _ _ _ _ _ _ us hl => match us, hl with | [_], _ => rfl) (fun ds M Q E ⟨_, _, h, _⟩ => by rw [h]; rfl) (fun f cdv A0 outer s H E hr => ?_)
  have hu := U.hu_of hr
  have hu1 := U.hu1_of hr
  have nd := sc_kind_of.nd
  refine ⟨_, (z_one (z_ret (d_if (d_tcm (o_din hu1) (d_ix (dn 0) d_int) (d_gt M A.c_WRAP_WORDS)) (d_gs Z.c_WRAP) (d_gs Z.c_BLOCK)))), ?_⟩
  rintro ds M Q Ed ⟨z, xs, rfl, q⟩
  refine ⟨.str z, at0, flat_strs WW z, ?_⟩
  have e : inD (.str z) (WW.map Da.str) = WW.contains z := inD_strs _ _
  show if inD (.str z) (WW.map Da.str) = true then _ else _
  rw [e]
  have q : Q (.str (if WW.contains z = true then "wrap" else "block")) M := q
  refine ite2 (fun c => ?_) (fun c => ?_)
  · rw [if_pos c] at q; exact q
  · rw [if_neg c] at q; exact q
def spFit (C : Addr) : DSp := fun ds M Q _ => ∃ (ps : List Pr) (x : Da) (z : Str) (xs : List Da) (kvs : List (Key × Da)) (n m : Nat), ds = [.dct (tblP C ps), x, .int (m : Nat)] ∧ x = .tup (.str z :: xs) ∧ xs.length ≤ 5000 ∧ bodyB (pcB kvs n) kvs z xs = true ∧ (ps.map Pr.nm).Nodup ∧ (∀ r ∈ ps, PrcOk r.nm r.own r.body) ∧ Q (.bl (fitB (ps.map Pr.row) m x)) M
theorem D_are_fit {P : Program} {w : World} {K : PySem.W.Frag} {mg : Str → Option Value} {base : Heap} {C_Procedure : Addr} {C_Program : Addr} {C_Space : Addr} {C_Look : Addr} {C_Reckoner : Addr} {C_InvalidProgram : Addr} {C_InvalidMeaning : Addr} {C_InvalidOperation : Addr} {C_InvalidNumber : Addr} {c__law_right : Addr} {P__law_right : Addr} (A : Facts K C_Procedure C_Program C_Space C_Look C_Reckoner C_InvalidProgram C_InvalidMeaning C_InvalidOperation C_InvalidNumber c__law_right P__law_right) (M : MgOf K mg) (Z : Zs mg) (D_kind_of : KnD P w K mg base "kind_of" 1 ["piece"] spKindOf) : KnD P w K mg base "are_fit" 2 ["table", "piece", "modes"] (spFit C_Procedure) := by
  refine KnD.of A.d_are_fit M sc_are_fit (fun _ _ _ _ _ _ us hl => match us, hl with | [_, _, _], _ => rfl) (fun ds M Q E ⟨_, _, _, _, _, _, _, h, _⟩ => by rw [h]; rfl) (fun f cdv A0 outer s H E hr => ?_)
  have hu := U.hu_of hr
  have hu1 := U.hu1_of hr
  have nd := sc_are_fit.nd
  refine ⟨_, (z_cons (z_if (d_tcm (o_deq hu) (d_ix (dn 1) d_int) d_str) (z_one (z_ret (d_eand (d_ecm (o_deq hu) (d_b Z.len b_len c_dlen (d_cons (d_ix (dn 1) d_int) d_nil)) (dn 2)) (d_one (d_b Z.all b_all (c_dall rfl) (d_cons (d_lc (own := [("entry", 5)]) (c := (.n 5)) rfl nd (d_it (d_ix (dn 1) d_int)) (blkOk_by (own := [("entry", 5)]) (N := N_are_fit) (sc := defScope s_are_fit) (by decide +kernel)) (fun _ _ _ _ _ => (gn 5 nd)) (fun _ _ _ _ _ => d_ts0) (fun _ _ _ _ _ => (d_eor (d_ecm o_disN (dn 5) d_non) (d_one (d_ecm o_dlt (dn 5) (dn 2)))))) d_nil)))))) z_nil)
      (z_cons (z_if (d_tcm (o_dnin hu1) (d_ix (dn 1) d_int) (d_tup (d_cons d_str (d_cons d_str d_nil)))) (z_one (z_ret d_bl)) z_nil)
      (z_cons (z_if (d_tcm (o_dninK hu) (d_ix (dn 1) d_int) (dn 0)) (z_one (z_ret d_bl)) z_nil)
      (z_cons (z_set 3 nd (d_fld A.cls_Procedure.cl A.n_Procedure_own_kinds (d_dix hu (dn 0) (d_ix (dn 1) d_int))))
      (z_cons (z_set 4 nd (d_t Z.tuple b_tuple c_dtuple (d_cons (d_lc (own := [("value", 6)]) (c := (.n 6)) rfl nd (d_it (d_sl (dn 1) (d_psome d_int) d_pnone)) (blkOk_by (own := [("value", 6)]) (N := N_are_fit) (sc := defScope s_are_fit) (by decide +kernel)) (fun _ _ _ _ _ => (gn 6 nd)) (fun _ _ _ _ _ => d_ts0) (fun _ _ _ _ _ => (d_call D_kind_of (hr.mono (by decide)) (d_cons (dn 6) d_nil)))) d_nil)))
      (z_one (z_ret (d_if (d_tcm (o_deq hu) (d_ix (dn 1) d_int) d_str) (d_ecm (o_deq hu) (dn 4) (dn 3)) (d_ecm (o_deq hu) (d_tup (d_star (dn 4) (d_cons (d_gs Z.c_BLOCK) d_nil))) (dn 3)))))))))), ?_⟩
  rintro ds M Q Ed ⟨ps, x, z, xs, kvs, n, m, rfl, rfl, hxl, hb, nd, hp, q⟩
  refine ⟨.str z, at0, ?_⟩
  by_cases e1 : z = "do"
  · subst e1
    unfold bodyB at hb
    rw [if_pos rfl] at hb
    match xs, hb with
    | [w, t], hb =>
      have ht := (Bool.and_eq_true_iff.mp hb).2
      cases t with
      | tup ts =>
        have ht : ((decide (0 < ts.length) && decide (ts.length ≤ 3)) && ts.all fun e => isNon e || isFr e 0 2) = true := ht
        rw [Bool.and_eq_true, Bool.and_eq_true, decide_eq_true_eq, decide_eq_true_eq] at ht
        have q : Q (.bl (decide (ts.length = m) && ts.all (modB m))) M := q
        refine ⟨.tup ts, at2, ?_⟩
        cases c : decide (ts.length = m) with
        | false =>
          have e : (decide (((ts.length : Nat) : Int) = (m : Int))) = false := by
            have := of_decide_eq_false c
            exact decide_eq_false (by omega)
          rw [c, Bool.false_and] at q
          show if decide (((ts.length : Nat) : Int) = (m : Int)) = true then _ else _
          rw [e]
          exact ifF (by decide) q
        | true =>
          have e : (decide (((ts.length : Nat) : Int) = (m : Int))) = true := by
            have := of_decide_eq_true c
            exact decide_eq_true (by omega)
          rw [c, Bool.true_and] at q
          show if decide (((ts.length : Nat) : Int) = (m : Int)) = true then _ else _
          rw [e]
          refine ifT rfl ⟨.tup ts, at2, sz (by have := ht.1.2; omega), ?_⟩
          have key : ts = ts.map id := (List.map_id ts).symm
          rw [key]
          refine lcD_all (fun e => Da.bl (modB m e)) (fun _ _ => trivial) (fun e he Q q => ?_) ⟨_, asBls_fun _ _, ?_⟩
          · have := List.all_eq_true.mp ht.2 e he
            cases e with
            | non => exact q
            | int i =>
              have h0 : (decide ((0 : Int) ≤ i) && decide (i ≤ 2)) = true := this
              rw [Bool.and_eq_true, decide_eq_true_eq] at h0
              have q : Q (.bl (decide (0 ≤ i) && decide (i < (m : Nat)))) M := q
              rw [decide_eq_true h0.1, Bool.true_and] at q
              exact q
            | _ => simp [isNon, isFr] at this
          · rw [List.all_map]
            exact q
      | _ => cases ht
  · refine ifF (by simpa using e1) ?_
    refine ⟨.str z, at0, rfl, flat_strs ["call", "with"] z, ?_⟩
    have e : inD (.str z) ((["call", "with"] : List Str).map Da.str) = (["call", "with"] : List Str).contains z := inD_strs _ _
    show if (!inD (.str z) ((["call", "with"] : List Str).map Da.str)) = true then _ else _
    rw [e]
    refine ite2 (fun c => ?_) (fun c => ?_)
    · have e2 : ¬ z = "call" := fun h => by subst h; simp at c
      have e3 : ¬ z = "with" := fun h => by subst h; simp at c
      have ef : fitB (ps.map Pr.row) m (.tup (.str z :: xs)) = true := by
        show (if z = "do" then _ else if z = "call" then _ else if z = "with" then _ else true) = true
        rw [if_neg e1, if_neg e2, if_neg e3]
      rw [ef] at q
      exact q
    · have e2 : z = "call" ∨ z = "with" := by
        apply Classical.byContradiction
        intro h
        rw [not_or] at h
        exact c (by simp [h.1, h.2])
      obtain ⟨y, gs, rfl⟩ := sec_ok hb (.inr e2)
      have hg : ∀ g ∈ gs, ∃ z' ys, g = .tup (.str z' :: ys) := by
        have go : ((nameD (.str y) && gs.all fun g => pcB kvs n TW g || pcB kvs n WW g) = true) := by
          unfold bodyB at hb
          rcases e2 with rfl | rfl
          · exact hb
          · exact hb
        intro g h
        have := List.all_eq_true.mp (Bool.and_eq_true_iff.mp go).2 g h
        obtain ⟨_, z', ys, _, e, _⟩ := okP.shape (Bool.or_eq_true_iff.mp this)
        exact ⟨z', ys, e⟩
      refine ⟨.str y, at1, .inr y, rfl, ?_⟩
      show if (!(valD (tblP C_Procedure ps) (.inr y)).isSome) = true then _ else _
      rw [tbl_is nd]
      by_cases hy : y ∈ ps.map Pr.nm
      · rw [decide_eq_true hy]
        refine ifF (by decide) ?_
        obtain ⟨r, hr, rfl⟩ := List.mem_map.mp hy
        have hro : rowOf (ps.map Pr.row) r.nm = r.own := rowOf_mem (r := r.row) (by rw [row_nm]; exact nd) (List.mem_map_of_mem hr)
        have hin : decide (r.nm ∈ (ps.map Pr.row).map (·.1)) = true := by rw [row_nm]; exact decide_eq_true hy
        refine ⟨.str r.nm, at1, .inr r.nm, r.da C_Procedure, rfl, tbl_some nd hr, rfl, _, rfl, ?_⟩
        show Sz (U.cutD (Da.str z :: Da.str r.nm :: gs) (some 2) none).length ∧ lcD _ _ _ _ (U.cutD (Da.str z :: Da.str r.nm :: gs) (some 2) none) _ _
        rw [cut2]
        refine ⟨sz (by simp at hxl; omega), ?_⟩
        have key : gs = gs.map id := (List.map_id gs).symm
        rw [key]
        refine lcD_all (fun g => Da.str (kindD g)) (fun _ _ => trivial) (fun g hgm Q q => ?_) ?_
        · obtain ⟨z', ys, rfl⟩ := hg g hgm
          exact ⟨z', ys, rfl, q⟩
        have ok1 : ∀ k ∈ gs.map kindD, PyData.strOk k = true := fun k hk => by
          obtain ⟨g, hgm, rfl⟩ := List.mem_map.mp hk
          obtain ⟨z', ys, rfl⟩ := hg g hgm
          show PyData.strOk (if WW.contains z' = true then "wrap" else "block") = true
          split <;> decide +kernel
        have ok2 : ∀ k ∈ r.own.map (·.2), PyData.strOk k = true := fun k hk => by
          obtain ⟨p, hpm, rfl⟩ := List.mem_map.mp hk
          exact word_ok ((hp r hr).ow.ok p hpm).2 (by decide +kernel)
        have m1 : (gs.map fun g => Da.str (kindD g)) = (gs.map kindD).map Da.str := by rw [List.map_map]; rfl
        have m2 : (r.own.map fun p => Da.str p.2) = (r.own.map (·.2)).map Da.str := by rw [List.map_map]; rfl
        rcases e2 with rfl | rfl
        · have q : Q (.bl (decide (r.nm ∈ (ps.map Pr.row).map (·.1)) && decide (gs.map kindD = (rowOf (ps.map Pr.row) r.nm).map (·.2)))) M := q
          rw [hin, hro, Bool.true_and] at q
          refine ⟨.str "call", at0, ?_⟩
          refine ⟨by rw [m1]; exact okT_any ok1, by rw [m2]; exact okT_any ok2, ?_⟩
          rw [m1, m2, eq_strs]
          exact q
        · have q : Q (.bl (decide (r.nm ∈ (ps.map Pr.row).map (·.1)) && decide (gs.map kindD ++ [("block" : Str)] = (rowOf (ps.map Pr.row) r.nm).map (·.2)))) M := q
          rw [hin, hro, Bool.true_and] at q
          refine ⟨.str "with", at0, ?_⟩
          have m3 : (gs.map fun g => Da.str (kindD g)) ++ [Da.str "block"] = (gs.map kindD ++ [("block" : Str)]).map Da.str := by rw [List.map_append, m1]; rfl
          refine ⟨sz (by simp at hxl ⊢; omega), by rw [m3]; exact okT_any (fun k hk => (List.mem_append.mp hk).elim (ok1 k) fun h => by rw [List.mem_singleton.mp h]; decide +kernel), by rw [m2]; exact okT_any ok2, ?_⟩
          rw [m3, m2, eq_strs]
          exact q
      · rw [decide_eq_false hy]
        refine ifT rfl ?_
        have ef : fitB (ps.map Pr.row) m (.tup (.str z :: .str y :: gs)) = false := by
          have hin : decide (y ∈ (ps.map Pr.row).map (·.1)) = false := by rw [row_nm]; exact decide_eq_false hy
          rcases e2 with rfl | rfl
          · show (decide (y ∈ (ps.map Pr.row).map (·.1)) && _) = false
            rw [hin]; rfl
          · show (decide (y ∈ (ps.map Pr.row).map (·.1)) && _) = false
            rw [hin]; rfl
        rw [ef] at q
        exact q

end K68
set_option Elab.async false
set_option linter.all false
set_option maxRecDepth 100000
set_option maxHeartbeats 4000000




namespace K68
open PySem PySem.Spec PyProof.Rows L2 U
def wrB (own : List (Str × Str)) : Bool := (own.map (·.2)).contains ("wrap" : Str)
structure PrgOk (m : Nat) (ps : List Pr) : Prop where
  m1 : 1 ≤ m
  m3 : m ≤ 3
  ne : ps ≠ []
  len : ps.length ≤ 8
  ok : ∀ r ∈ ps, PrOk r
  nd : (ps.map Pr.nm).Nodup
  mn : ∃ r ∈ ps, r.nm = "main" ∧ r.own = []
  ft : ∀ r ∈ ps, ∀ y ∈ allF 6 r.body, fitB (ps.map Pr.row) m y = true
  wr : ps.any (fun r => wrB r.own) = true → m < 3
def prgF (C : Addr) (m : Nat) (ps : List Pr) : List (Str × Da) :=
  [("own_has_wraps", .bl (ps.any fun r => wrB r.own)), ("own_modes", .int (m : Nat)), ("own_procedures", .tup (ps.map (Pr.da C))), ("own_table", .dct (tblP C ps))]
def Prg (C Cp : Addr) (m : Nat) (ps : List Pr) : Da := .obj C (prgF Cp m ps)
theorem tbl_fold {C : Addr} : ∀ {ps qs : List Pr}, ((qs ++ ps).map Pr.nm).Nodup → ps.foldl (fun a (x : Pr) => putDK a (Sum.inr x.nm) (x.da C)) (tblP C qs) = tblP C (qs ++ ps)
  | [], qs, _ => by rw [List.append_nil]; rfl
  | p :: ps, qs, h => by
    have hn : p.nm ∉ qs.map Pr.nm := fun hm => by
      rw [List.map_append, List.nodup_append] at h
      exact h.2.2 _ hm _ (by rw [List.map_cons]; exact List.mem_cons_self) rfl
    have e : putDK (tblP C qs) (.inr p.nm) (p.da C) = tblP C (qs ++ [p]) := by
      rw [putDK_new (by
        intro hm
        unfold tblP at hm
        rw [List.map_map] at hm
        obtain ⟨r, hr, er⟩ := List.mem_map.mp hm
        exact hn (by rw [← Sum.inr.inj er]; exact List.mem_map_of_mem hr))]
      unfold tblP
      rw [List.map_append]; rfl
    rw [List.foldl_cons, e, tbl_fold (by rw [List.append_assoc]; exact h), List.append_assoc]; rfl
theorem pv_kid {x : Da} (h : pv x) : ∀ k ∈ kidsD x, pv k := fun k hk => by
  cases x with
  | tup ys =>
    cases ys with
    | nil => cases hk
    | cons y ys =>
      cases y with
      | str z =>
        cases h with
        | tup _ _ hx => exact hx k (List.mem_cons_of_mem _ (kids_mem hk))
      | _ => cases hk
  | _ => cases hk
theorem allF_pv : ∀ {n : Nat} {x : Da}, pv x → ∀ y ∈ allF n x, pv y
  | 0, x, h, y, hy => by rw [List.mem_singleton.mp hy]; exact h
  | n + 1, x, h, y, hy => by
    rcases List.mem_cons.mp hy with rfl | hy
    · exact h
    · obtain ⟨k, hk, hy⟩ := List.mem_flatMap.mp hy
      exact allF_pv (pv_kid h k hk) y hy
theorem pr_piece {r : Pr} (h : PrOk r) : r.R.length ≤ 40 ∧ ∀ y ∈ r.R, y ∈ allF 6 r.body ∧ ∃ m z xs, y = .tup (.str z :: xs) ∧ xs.length ≤ 5000 ∧ bodyB (pcB (kvsD r.own) m) (kvsD r.own) z xs = true := by
  obtain ⟨h1, h2⟩ := prc_R h.ok h.pm
  refine ⟨h1, fun y hy => ?_⟩
  have hm := h.pm.mem_iff.mp hy
  obtain ⟨m, z, xs, rfl, hb⟩ := h2 y hy
  refine ⟨hm, m, z, xs, rfl, ?_, hb⟩
  have := allF_pv h.ok.pv _ hm
  cases this with
  | tup _ hl _ => rw [List.length_cons] at hl; omega
theorem sub_del {M2 M : Mm} {p : Addr} (h : Sub M2 (mdel M p)) : Sub M2 M := fun a o e => by
  have := h a o e
  unfold mdel at this
  split at this
  · cases this
  · exact this
theorem sub_put {M2 M : Mm} {p : Addr} {u : MO} (h : Sub M2 (mdel M p)) : Sub M2 (mput M p u) := fun a o e => by
  have := h a o e
  unfold mdel at this
  unfold mput
  split at this
  · cases this
  · rename_i z
    rw [if_neg z]; exact this
theorem putDK_keys (kvs : List (Key × Da)) (k : Key) (d : Da) : (k ∈ kvs.map (·.1) → (putDK kvs k d).map (·.1) = kvs.map (·.1)) ∧ (k ∉ kvs.map (·.1) → (putDK kvs k d).map (·.1) = kvs.map (·.1) ++ [k]) := by
  unfold putDK
  constructor
  · intro h
    have e : (kvs.any fun kv => decide (kv.1 = k)) = true := by
      obtain ⟨p, hp, e⟩ := List.mem_map.mp h
      exact List.any_eq_true.mpr ⟨p, hp, decide_eq_true e⟩
    rw [if_pos e, List.map_map]
    refine List.map_congr_left fun p hp => ?_
    show (if p.1 = k then (p.1, d) else p).1 = p.1
    split <;> rfl
  · intro h
    have e : ¬ (kvs.any fun kv => decide (kv.1 = k)) = true := fun e => by
      obtain ⟨p, hp, e⟩ := List.any_eq_true.mp e
      exact h (by rw [← of_decide_eq_true e]; exact List.mem_map_of_mem hp)
    rw [if_neg e, List.map_append]; rfl
theorem fold_keys {α : Type} (f : α → Key) (v : α → Da) : ∀ (l : List α) (acc : List (Key × Da)), (acc.map (·.1)).Nodup → ((l.foldl (fun a x => putDK a (f x) (v x)) acc).map (·.1)).Nodup ∧ ∀ k, k ∈ (l.foldl (fun a x => putDK a (f x) (v x)) acc).map (·.1) ↔ k ∈ acc.map (·.1) ∨ k ∈ l.map f
  | [], acc, h => ⟨h, fun k => by simp⟩
  | x :: l, acc, h => by
    obtain ⟨e1, e2⟩ := putDK_keys acc (f x) (v x)
    by_cases hk : f x ∈ acc.map (·.1)
    · have e := e1 hk
      have ih := fold_keys f v l (putDK acc (f x) (v x)) (by rw [e]; exact h)
      refine ⟨ih.1, fun k => (ih.2 k).trans ?_⟩
      rw [e, List.map_cons, List.mem_cons]
      constructor
      · rintro (h | h)
        · exact .inl h
        · exact .inr (.inr h)
      · rintro (h | rfl | h)
        · exact .inl h
        · exact .inl hk
        · exact .inr h
    · have e := e2 hk
      have hn : ((putDK acc (f x) (v x)).map (·.1)).Nodup := by
        rw [e]
        refine List.nodup_append.mpr ⟨h, by simp, fun a ha b hb => ?_⟩
        rw [List.mem_singleton.mp hb]
        exact fun z => hk (z ▸ ha)
      have ih := fold_keys f v l _ hn
      refine ⟨ih.1, fun k => (ih.2 k).trans ?_⟩
      rw [e, List.map_cons, List.mem_cons, List.mem_append, List.mem_singleton]
      constructor
      · rintro ((h | h) | h)
        · exact .inl h
        · exact .inr (.inl h)
        · exact .inr (.inr h)
      · rintro (h | h | h)
        · exact .inl (.inl h)
        · exact .inl (.inr h)
        · exact .inr h
theorem fold_len {α : Type} (f : α → Key) (v : α → Da) (l : List α) : (l.foldl (fun a x => putDK a (f x) (v x)) ([] : List (Key × Da))).length = l.length ↔ (l.map f).Nodup := by
  have h := fold_keys f v l [] (by simp)
  have := len_nodup (l := l.map f) h.1 fun k => (h.2 k).trans (by simp)
  rwa [List.length_map, List.length_map] at this
/-- what is refused -/
def NoPrg (m : Da) (ps : List Pr) : Prop := ∀ mm : Nat, m = .int (mm : Nat) → ¬ PrgOk mm ps
/-- no procedure -/
def NoPr (C Cp : Addr) (a : Da) : Prop := pv a ∨ ∃ (mm : Nat) (qs : List Pr), a = Prg C Cp mm qs
def spInitGX (C Cp CI : Addr) : DSp := fun ds M Q Ed => ∃ p m xs, ds = [.ref p, m, .tup xs] ∧ pv m ∧ M p = some (.ins C []) ∧ xs.length ≤ 5000 ∧
  ((∃ ps : List Pr, xs = ps.map (Pr.da Cp) ∧ (∀ r ∈ ps, PrOk r) ∧ (∀ mm : Nat, m = .int (mm : Nat) → PrgOk mm ps → Q .non (mput M p (.ins C (prgF Cp mm ps)))) ∧ (NoPrg m ps → ∃ M2, Sub M2 (mdel M p) ∧ Ed (.ref CI) [] M2)) ∨
    ((∀ a ∈ xs, (∃ r : Pr, PrOk r ∧ a = r.da Cp) ∨ NoPr C Cp a) ∧ (∃ a ∈ xs, NoPr C Cp a) ∧ ∃ M2, Sub M2 (mdel M p) ∧ Ed (.ref CI) [] M2))
/-- whether a value is a procedure -/
def isPr (C : Addr) : Da → Bool
  | .obj D _ => decide (D = C)
  | _ => false
section
variable {P : Program} {w : World} {K : PySem.W.Frag} {mg : Str → Option Value} {base : Heap} {C_Procedure : Addr} {C_Program : Addr} {C_Space : Addr} {C_Look : Addr} {C_Reckoner : Addr} {C_InvalidProgram : Addr} {C_InvalidMeaning : Addr} {C_InvalidOperation : Addr} {C_InvalidNumber : Addr} {c__law_right : Addr} {P__law_right : Addr}
theorem noPr_is (A : Facts K C_Procedure C_Program C_Space C_Look C_Reckoner C_InvalidProgram C_InvalidMeaning C_InvalidOperation C_InvalidNumber c__law_right P__law_right) {a : Da} (h : NoPr C_Program C_Procedure a) : isPr C_Procedure a = false := by
  rcases h with hp | ⟨mm, qs, rfl⟩
  · cases hp <;> rfl
  · refine decide_eq_false fun e => ?_
    have h1 := A.kit_GP
    rw [e, A.cls_Procedure.self] at h1
    cases h1
theorem isi_pr (A : Facts K C_Procedure C_Program C_Space C_Look C_Reckoner C_InvalidProgram C_InvalidMeaning C_InvalidOperation C_InvalidNumber c__law_right P__law_right) {a : Da} {M : Mm} {Q : DK} (h : (∃ r : Pr, PrOk r ∧ a = r.da C_Procedure) ∨ NoPr C_Program C_Procedure a) (q : Q (.bl (isPr C_Procedure a)) M) : kIsi K [a, .ref C_Procedure] M Q := by
  rcases h with ⟨r, hr, rfl⟩ | hp | ⟨mm, qs, rfl⟩
  · have e : isPr C_Procedure (r.da C_Procedure) = true := decide_eq_true rfl
    rw [e] at q
    exact ⟨A.cls_Procedure.isC, _, A.cls_Procedure.self, q⟩
  · cases hp with
    | non => exact ⟨_, A.kt_NoneType, q⟩
    | bl _ => exact ⟨_, A.kt_bool, q⟩
    | int _ => exact ⟨_, A.kt_int, q⟩
    | str _ => exact ⟨_, A.kt_str, q⟩
    | lst _ => exact ⟨_, A.kt_list, q⟩
    | tup _ => exact ⟨_, A.kt_tuple, q⟩
    | dct _ => exact ⟨_, A.kt_dict, q⟩
  · rw [noPr_is A (.inr ⟨mm, qs, rfl⟩)] at q
    exact ⟨A.cls_Program.isC, false, A.kit_GP, q⟩
end
theorem D_Program___init__ {P : Program} {w : World} {K : PySem.W.Frag} {mg : Str → Option Value} {base : Heap} {C_Procedure : Addr} {C_Program : Addr} {C_Space : Addr} {C_Look : Addr} {C_Reckoner : Addr} {C_InvalidProgram : Addr} {C_InvalidMeaning : Addr} {C_InvalidOperation : Addr} {C_InvalidNumber : Addr} {c__law_right : Addr} {P__law_right : Addr} (A : Facts K C_Procedure C_Program C_Space C_Look C_Reckoner C_InvalidProgram C_InvalidMeaning C_InvalidOperation C_InvalidNumber c__law_right P__law_right) (M : MgOf K mg) (Z : Zs mg) (D_is_from : KnD P w K mg base "is_from" 2 ["value", "first", "last"] spIsFrom) (D_are_fit : KnD P w K mg base "are_fit" 2 ["table", "piece", "modes"] (spFit C_Procedure)) : KnMR P w K mg base (L2.CX P w) C_Program "__init__" 3 (spStar 2 (spInitGX C_Program C_Procedure C_InvalidProgram)) := by
  refine KnMR.of (ps := ["self", "modes"]) (pv := "procedures") A.m_Program___init__ sc_Program___init__ (fun _ _ _ _ _ _ us rest hl => StX.bind_star2 (B := fun z => bindArgs _ ⟨z, []⟩) (fun _ _ => rfl) (fun _ _ _ _ => rfl) us rest hl)  (fun f cdv A0 outer s H E hr => ?_)
  have hu := U.hu_of hr
  have hu1 := U.hu1_of hr
  have nd := sc_Program___init__.nd
  refine ⟨_, (z_cons (z_if (d_w (d_or (d_tnot (d_tv (d_call D_is_from (hr.mono (by decide)) (d_cons (dn 1) (d_cons d_int (d_cons (d_gi Z.c_MAX_MODES) d_nil)))))) (d_or1 (d_tnot (d_tch o_dlt o_dle d_int (d_b Z.len b_len c_dlen (d_cons (dn 2) d_nil)) (d_gi Z.c_MAX_PROCEDURES)))))) (z_one (z_raise rfl M A.x_InvalidProgram)) z_nil)
      (z_cons (z_if (d_tnot (d_tv (d_b Z.all b_all (c_dall rfl) (d_cons (d_lc (own := [("one", 4)]) (c := (.n 4)) rfl nd (d_it (dn 2)) (blkOk_by (own := [("one", 4)]) (N := N_Program___init__) (sc := defScope s_Program___init__) (by decide +kernel)) (fun _ _ _ _ _ => (gn 4 nd)) (fun _ _ _ _ _ => d_ts0) (fun _ _ _ _ _ => (d_b Z.isinstance b_isinstance (c_disiK (K := K) rfl) (d_cons (dn 4) (d_cons (d_glob (M.of _ _ A.cls_Procedure.at_)) d_nil))))) d_nil)))) (z_one (z_raise rfl M A.x_InvalidProgram)) z_nil)
      (z_cons (z_set 3 nd (d_dc (own := [("one", 4)]) (c := (.n 4)) rfl nd (d_it (dn 2)) (blkOk_by (own := [("one", 4)]) (N := N_Program___init__) (sc := defScope s_Program___init__) (by decide +kernel)) (fun _ _ _ _ _ => (gn 4 nd)) (fun _ _ _ _ _ => d_ts0) (fun _ _ _ _ _ => (d_fld A.cls_Procedure.cl A.n_Procedure_own_name (dn 4))) (fun _ _ _ _ _ => (dn 4))))
      (z_cons (z_if (d_w (d_or (d_tcm (o_dne hu) (d_b Z.len b_len c_dlenD (d_cons (dn 3) d_nil)) (d_b Z.len b_len c_dlen (d_cons (dn 2) d_nil))) (d_or (d_tcm (o_dninK hu) (d_gs Z.c_MAIN) (dn 3)) (d_or1 (d_tcm (o_dneE hu) (d_fld A.cls_Procedure.cl A.n_Procedure_own_kinds (d_dix hu (dn 3) (d_gs Z.c_MAIN))) (d_tup d_nil)))))) (z_one (z_raise rfl M A.x_InvalidProgram)) z_nil)
      (z_cons (z_if (d_tnot (d_tv (d_b Z.all b_all (c_dall rfl) (d_cons (d_lc2 (own := [("one", 4), ("piece", 5)]) (c := (.n 4)) (c1 := (.n 5)) (vs1 := [5]) rfl nd (d_it (dn 2)) (blkOk_by (own := [("one", 4), ("piece", 5)]) (N := N_Program___init__) (sc := defScope s_Program___init__) (by decide +kernel)) (by decide) (fun _ _ _ _ _ => (gn 4 nd)) (fun _ _ _ _ _ => d_ts0) (fun _ _ _ _ _ => (d_it (d_fld A.cls_Procedure.cl A.n_Procedure_own_pieces (dn 4)))) (fun _ _ _ _ _ => (gn 5 nd)) (fun _ _ _ _ _ => d_ts0) (fun _ _ _ _ _ => (d_call D_are_fit (hr.mono (by decide)) (d_cons (dn 3) (d_cons (dn 5) (d_cons (dn 1) d_nil)))))) d_nil)))) (z_one (z_raise rfl M A.x_InvalidProgram)) z_nil)
      (z_cons (z_sto A.cls_Program.cl A.n_Program_own_has_wraps (d_b Z.any b_any (c_dany rfl) (d_cons (d_lc (own := [("one", 4)]) (c := (.n 4)) rfl nd (d_it (dn 2)) (blkOk_by (own := [("one", 4)]) (N := N_Program___init__) (sc := defScope s_Program___init__) (by decide +kernel)) (fun _ _ _ _ _ => (gn 4 nd)) (fun _ _ _ _ _ => d_ts0) (fun _ _ _ _ _ => (d_ecm (o_din hu1) (d_gs Z.c_WRAP) (d_fld A.cls_Procedure.cl A.n_Procedure_own_kinds (dn 4))))) d_nil)) (dn 0))
      (z_cons (z_if (d_w (d_and (d_tv (d_fld A.cls_Program.cl A.n_Program_own_has_wraps (dn 0))) (d_and1 (d_tcm (o_deq hu) (dn 1) (d_gi Z.c_MAX_MODES))))) (z_one (z_raise rfl M A.x_InvalidProgram)) z_nil)
      (z_cons (z_sto A.cls_Program.cl A.n_Program_own_modes (dn 1) (dn 0))
      (z_cons (z_sto A.cls_Program.cl A.n_Program_own_procedures (dn 2) (dn 0))
      (z_one (z_sto A.cls_Program.cl A.n_Program_own_table (dn 3) (dn 0)))))))))))), ?_⟩
  rintro ds M Q Ed ⟨p, m, xs, rfl, hpm, hM, hxl, h⟩
  refine ⟨m, 1, 3, rfl, hpm, ?_⟩
  have r12 : (isFr m 1 3 = false ∨ ¬ 0 < xs.length ∨ ¬ xs.length ≤ 8) → ∃ M2, Sub M2 (mdel M p) ∧ Ed (.ref C_InvalidProgram) [] M2 := by
    intro hb
    rcases h with ⟨ps, rfl, hok, hq, hno⟩ | ⟨_, _, hr⟩
    · refine hno fun mm e hP => ?_
      subst e
      rw [List.length_map] at hb
      have h1 := hP.m1
      have h3 := hP.m3
      have h8 := hP.len
      have h0 : 0 < ps.length := List.length_pos_iff.mpr hP.ne
      rcases hb with hb | hb | hb
      · have hfr : isFr (.int (mm : Nat)) 1 3 = true := by
          show (decide ((1 : Int) ≤ (mm : Nat)) && decide (((mm : Nat) : Int) ≤ 3)) = true
          rw [decide_eq_true (by omega), decide_eq_true (by omega)]; rfl
        rw [hfr] at hb; cases hb
      · exact hb h0
      · exact hb h8
    · exact hr
  cases hf : isFr m 1 3 with
  | false =>
    obtain ⟨M2, s2, e2⟩ := r12 (.inl hf)
    exact ⟨M2, sub_del s2, e2⟩
  | true =>
    refine ifF (by decide) ?_
    have hall : ∀ a ∈ xs, (∃ r : Pr, PrOk r ∧ a = r.da C_Procedure) ∨ NoPr C_Program C_Procedure a := by
      rcases h with ⟨ps, rfl, hok, _⟩ | ⟨h, _⟩
      · intro a ha
        obtain ⟨r, hr, rfl⟩ := List.mem_map.mp ha
        exact .inl ⟨r, hok r hr, rfl⟩
      · exact h
    by_cases h0 : 0 < xs.length
    · by_cases h8 : xs.length ≤ 8
      · refine ifT (decide_eq_true (show (0 : Int) < (xs.length : Nat) by omega)) ?_
        refine ifF (by rw [decide_eq_true (show ((xs.length : Nat) : Int) ≤ 8 by omega)]; decide) ?_
        refine ⟨sz (by omega), ?_⟩
        refine lcD_same (fun a => Da.bl (isPr C_Procedure a)) (fun _ _ => trivial) (fun a ha Q q => isi_pr A (hall a ha) q) ⟨_, asBls_fun _ _, ?_⟩
        rcases h with ⟨ps, rfl, hok, hq, hno⟩ | ⟨_, ⟨a, ha, hpa⟩, M2, s2, e2⟩
        · have e : ((ps.map (Pr.da C_Procedure)).map (isPr C_Procedure)).all id = true := by
            rw [List.map_map, List.all_map, List.all_eq_true]
            exact fun r hr => decide_eq_true rfl
          refine ifF (by rw [e]; decide) ?_
          clear hall r12 e
          obtain ⟨mm, rfl, hm1, hm3⟩ : ∃ mm : Nat, m = .int (mm : Nat) ∧ 1 ≤ mm ∧ mm ≤ 3 := by
            cases m with
            | int i =>
              have hf : (decide ((1 : Int) ≤ i) && decide (i ≤ 3)) = true := hf
              rw [Bool.and_eq_true, decide_eq_true_eq, decide_eq_true_eq] at hf
              exact ⟨i.toNat, by congr 1; omega, by omega, by omega⟩
            | _ => cases hf
          have hlm : (ps.map (Pr.da C_Procedure)).length = ps.length := List.length_map _
          have bad : ¬ PrgOk mm ps → ∃ M2, Sub M2 (mdel M p) ∧ Ed (.ref C_InvalidProgram) [] M2 := fun hb => hno fun m' e hP => hb (by
            have e := Da.int.inj e
            obtain rfl : mm = m' := by omega
            exact hP)
          have good := hq mm rfl
          clear hno hq hf
          rw [hlm] at h0 h8
          refine ⟨sz (by rw [hlm]; omega), ?_⟩
          refine dcD_map (fun r : Pr => (Sum.inr r.nm : Key)) (Pr.da C_Procedure) (fun _ _ => trivial) (fun r hr Q q => ⟨rfl, _, rfl, q⟩) (fun r hr Q q => q) ?_
          have hfl := fold_len (fun r : Pr => (Sum.inr r.nm : Key)) (Pr.da C_Procedure) ps
          have hin : (ps.map fun r : Pr => (Sum.inr r.nm : Key)).Nodup ↔ (ps.map Pr.nm).Nodup := by
            unfold List.Nodup
            rw [List.pairwise_map, List.pairwise_map]
            constructor
            · exact fun h => h.imp fun hab e => hab (congrArg Sum.inr e)
            · exact fun h => h.imp fun hab e => hab (Sum.inr.inj e)
          rw [hin] at hfl
          by_cases nd : (ps.map Pr.nm).Nodup
          · have ht : (ps.foldl (fun a (x : Pr) => putDK a (Sum.inr x.nm) (x.da C_Procedure)) []) = tblP C_Procedure ps := tbl_fold (C := C_Procedure) (ps := ps) (qs := []) (by simpa using nd)
            rw [ht]
            have htl : (tblP C_Procedure ps).length = ps.length := List.length_map _
            refine ifF (by rw [htl, hlm]; simp) ?_
            clear ht hfl hin
            by_cases hmn : ("main" : Str) ∈ ps.map Pr.nm
            · refine ⟨.inr "main", rfl, ?_⟩
              refine ifF (by rw [tbl_is nd, decide_eq_true hmn]; decide) ?_
              obtain ⟨⟨nm0, own0, body0, R0⟩, hr0, e0⟩ := List.mem_map.mp hmn
              obtain rfl : nm0 = "main" := e0
              refine ⟨.inr "main", Pr.da C_Procedure ⟨"main", own0, body0, R0⟩, rfl, tbl_some nd hr0, rfl, _, rfl, rfl, ?_⟩
              have hrow := rowOf_mem (r := (⟨"main", own0, body0, R0⟩ : Pr).row) (by rw [row_nm]; exact nd) (List.mem_map_of_mem (f := Pr.row) hr0)
              cases own0 with
              | cons p0 own0 =>
                have hb : ¬ PrgOk mm ps := fun hP => by
                  obtain ⟨r, hr, e1, e2⟩ := hP.mn
                  have h2 := rowOf_mem (r := r.row) (by rw [row_nm]; exact nd) (List.mem_map_of_mem (f := Pr.row) hr)
                  have h2 : rowOf (ps.map Pr.row) r.nm = r.own := h2
                  rw [e1, e2] at h2
                  have hrow : rowOf (ps.map Pr.row) "main" = p0 :: own0 := hrow
                  rw [hrow] at h2
                  cases h2
                obtain ⟨M2, s2, e2⟩ := bad hb
                exact ⟨M2, sub_del s2, e2⟩
              | nil =>
                refine ⟨sq (by rw [hlm]; omega), ?_⟩
                refine lc2D_all (inn := fun r : Pr => r.R) (h := id) (f := fun (_ : Pr) (y : Da) => Da.bl (fitB (ps.map Pr.row) mm y)) (fun r hr => ⟨trivial, sr (by have := (pr_piece (hok r hr)).1; omega), fun Q q => ⟨rfl, _, rfl, by rw [List.map_id] at q; exact q⟩⟩) (fun r hr y hy => ⟨trivial, fun Q q => ?_⟩) ?_
                · obtain ⟨hm, k, z, xs, e, hxl, hb⟩ := (pr_piece (hok r hr)).2 y hy
                  exact ⟨ps, y, z, xs, kvsD r.own, k, mm, rfl, e, hxl, hb, nd, fun r hr => (hok r hr).ok, q⟩
                have hfm : (ps.flatMap fun r => r.R.map fun y => Da.bl (fitB (ps.map Pr.row) mm y)) = (ps.flatMap fun r => r.R).map fun y => Da.bl (fitB (ps.map Pr.row) mm y) := by rw [List.map_flatMap]
                rw [hfm]
                refine ⟨_, asBls_fun (fun y => fitB (ps.map Pr.row) mm y) _, ?_⟩
                rw [List.all_map]
                cases hft : (ps.flatMap fun r => r.R).all (id ∘ fun y => fitB (ps.map Pr.row) mm y) with
                | false =>
                  have hb : ¬ PrgOk mm ps := fun hP => by
                    rw [List.all_eq_false] at hft
                    obtain ⟨y, hy, hn⟩ := hft
                    obtain ⟨r, hr, hy⟩ := List.mem_flatMap.mp hy
                    exact hn (hP.ft r hr y ((hok r hr).pm.mem_iff.mp hy))
                  obtain ⟨M2, s2, e2⟩ := bad hb
                  exact ifT (by rfl) ⟨M2, sub_del s2, e2⟩
                | true =>
                  refine ifF (by decide) ?_
                  have hft2 : ∀ r ∈ ps, ∀ y ∈ allF 6 r.body, fitB (ps.map Pr.row) mm y = true := fun r hr y hy => List.all_eq_true.mp hft y (List.mem_flatMap.mpr ⟨r, hr, (hok r hr).pm.mem_iff.mpr hy⟩)
                  clear hft hfm
                  refine ⟨sz (by rw [hlm]; omega), ?_⟩
                  refine lcD_all (fun r : Pr => Da.bl (wrB r.own)) (fun _ _ => trivial) (fun r hr Q q => ?_) ⟨_, asBls_fun (fun r : Pr => wrB r.own) _, ?_⟩
                  · have m2 : (r.own.map fun p => Da.str p.2) = (r.own.map (·.2)).map Da.str := by rw [List.map_map]; rfl
                    refine ⟨rfl, _, rfl, ?_⟩
                    rw [m2]
                    refine ⟨flat_strs _ _, ?_⟩
                    rw [inD_strs]
                    exact q
                  have hwa : ((ps.map fun r : Pr => wrB r.own).any id) = ps.any fun r => wrB r.own := by rw [List.any_map]; rfl
                  rw [hwa]
                  refine ⟨_, hM, rfl, ?_⟩
                  have hP : ((ps.any fun r => wrB r.own) = true → mm < 3) → PrgOk mm ps := fun hw => ⟨hm1, hm3, List.length_pos_iff.mp h0, h8, hok, nd, ⟨_, hr0, rfl, rfl⟩, hft2, hw⟩
                  have fin : PrgOk mm ps → hSeq (hSto C_Program "own_modes" (gVar 0) (gVar 1)) (hSeq (hSto C_Program "own_procedures" (gVar 0) (gVar 2)) (hSto C_Program "own_table" (gVar 0) (gVar 3))) (bodyX Q Ed)
                      (List.set (startD N_Program___init__ [.ref p, .int (mm : Nat), .tup (ps.map (Pr.da C_Procedure))]) 3 (some (.dct (tblP C_Procedure ps)))) (mput M p (.ins C_Program [("own_has_wraps", .bl (ps.any fun r => wrB r.own))])) := fun h => by
                    refine ⟨_, mput_same, rfl, _, mput_same, rfl, _, mput_same, rfl, ?_⟩
                    rw [mput_put, mput_put, mput_put]
                    exact good h
                  have bad2 : (ps.any fun r => wrB r.own) = true → mm = 3 → ∃ M2, Sub M2 (mdel M p) ∧ Ed (.ref C_InvalidProgram) [] M2 := fun h1 h2 => bad fun hP => by have := hP.wr h1; omega
                  generalize (ps.any fun r => wrB r.own) = b at fin hP bad2
                  refine ⟨_, mput_same, _, rfl, ?_⟩
                  cases b with
                  | false => exact fin (hP (fun h => nomatch h))
                  | true =>
                    show if decide (((mm : Nat) : Int) = 3) = true then _ else _
                    by_cases h3 : mm = 3
                    · obtain ⟨M2, s2, e2⟩ := bad2 rfl h3
                      exact ifT (decide_eq_true (show ((mm : Nat) : Int) = 3 by omega)) ⟨M2, sub_put s2, e2⟩
                    · exact ifF (by rw [decide_eq_false (show ¬ ((mm : Nat) : Int) = 3 by omega)]; decide) (fin (hP fun _ => by omega))
            · have hb : ¬ PrgOk mm ps := fun hP => by
                obtain ⟨r, hr, e, _⟩ := hP.mn
                exact hmn (by rw [← e]; exact List.mem_map_of_mem hr)
              obtain ⟨M2, s2, e2⟩ := bad hb
              refine ⟨.inr "main", rfl, ?_⟩
              exact ifT (by rw [tbl_is nd, decide_eq_false hmn]; rfl) ⟨M2, sub_del s2, e2⟩
          · obtain ⟨M2, s2, e2⟩ := bad fun hP => nd hP.nd
            have hne : ¬ (ps.foldl (fun a (x : Pr) => putDK a (Sum.inr x.nm) (x.da C_Procedure)) []).length = ps.length := fun e => nd (hfl.mp e)
            exact ifT (by rw [hlm, decide_eq_false (fun e => hne (by omega))]; rfl) ⟨M2, sub_del s2, e2⟩
        · have e : (xs.map (isPr C_Procedure)).all id = false := by
            rw [List.all_map, List.all_eq_false]
            refine ⟨a, ha, ?_⟩
            show ¬ isPr C_Procedure a = true
            rw [noPr_is A hpa]; decide
          exact ifT (by rw [e]; rfl) ⟨M2, sub_del s2, e2⟩
      · obtain ⟨M2, s2, e2⟩ := r12 (.inr (.inr h8))
        refine ifT (decide_eq_true (show (0 : Int) < (xs.length : Nat) by omega)) ?_
        exact ifT (by rw [decide_eq_false (show ¬ ((xs.length : Nat) : Int) ≤ 8 by omega)]; rfl) ⟨M2, sub_del s2, e2⟩
    · obtain ⟨M2, s2, e2⟩ := r12 (.inr (.inl h0))
      refine ifF (by rw [decide_eq_false (show ¬ (0 : Int) < (xs.length : Nat) by omega)]; decide) ⟨M2, sub_del s2, e2⟩
def spGetG (C Cp : Addr) (g : Nat → List Pr → Da) : DSp := fun ds M Q _ => ∃ m ps, ds = [Prg C Cp m ps] ∧ Q (g m ps) M
theorem D_Program___len__ {P : Program} {w : World} {K : PySem.W.Frag} {mg : Str → Option Value} {base : Heap} {C_Procedure : Addr} {C_Program : Addr} {C_Space : Addr} {C_Look : Addr} {C_Reckoner : Addr} {C_InvalidProgram : Addr} {C_InvalidMeaning : Addr} {C_InvalidOperation : Addr} {C_InvalidNumber : Addr} {c__law_right : Addr} {P__law_right : Addr} (A : Facts K C_Procedure C_Program C_Space C_Look C_Reckoner C_InvalidProgram C_InvalidMeaning C_InvalidOperation C_InvalidNumber c__law_right P__law_right) (M : MgOf K mg) (Z : Zs mg)  : KnMD P w K mg base C_Program "__len__" 1 ["self"] (spGetG C_Program C_Procedure fun _ ps => .int (ps.length : Nat)) := by
  refine KnMD.of A.m_Program___len__ sc_Program___len__ (fun _ _ _ _ _ _ us hl => match us, hl with | [_], _ => rfl) (fun ds M Q E ⟨_, _, h, _⟩ => by rw [h]; rfl) (fun f cdv A0 outer s H E hr => ?_)
  have hu := U.hu_of hr
  have hu1 := U.hu1_of hr
  have nd := sc_Program___len__.nd
  refine ⟨_, (z_one (z_ret (d_b Z.len b_len c_dlen (d_cons (d_fld A.cls_Program.cl A.n_Program_own_procedures (dn 0)) d_nil)))), ?_⟩
  rintro ds M Q Ed ⟨m, ps, rfl, q⟩
  refine ⟨rfl, _, rfl, ?_⟩
  have e : (ps.map (Pr.da C_Procedure)).length = ps.length := List.length_map _
  show Q (.int ((ps.map (Pr.da C_Procedure)).length : Nat)) M
  rw [e]
  exact q
def spHasG (C Cp : Addr) : DSp := fun ds M Q _ => ∃ m ps y, ds = [Prg C Cp m ps, y] ∧ PrgOk m ps ∧ ((∃ z, y = .str z ∧ Q (.bl (decide (z ∈ ps.map Pr.nm))) M) ∨ (∃ nm own body R, y = Prc Cp nm own body R ∧ Q (.bl false) M) ∨ (pv y ∧ (∀ z, y ≠ .str z) ∧ Q (.bl false) M))
theorem D_Program_has_name {P : Program} {w : World} {K : PySem.W.Frag} {mg : Str → Option Value} {base : Heap} {C_Procedure : Addr} {C_Program : Addr} {C_Space : Addr} {C_Look : Addr} {C_Reckoner : Addr} {C_InvalidProgram : Addr} {C_InvalidMeaning : Addr} {C_InvalidOperation : Addr} {C_InvalidNumber : Addr} {c__law_right : Addr} {P__law_right : Addr} (A : Facts K C_Procedure C_Program C_Space C_Look C_Reckoner C_InvalidProgram C_InvalidMeaning C_InvalidOperation C_InvalidNumber c__law_right P__law_right) (M : MgOf K mg) (Z : Zs mg)  : KnMD P w K mg base C_Program "has_name" 1 ["self", "value"] (spHasG C_Program C_Procedure) := by
  refine KnMD.of A.m_Program_has_name sc_Program_has_name (fun _ _ _ _ _ _ us hl => match us, hl with | [_, _], _ => rfl) (fun ds M Q E ⟨_, _, _, h, _⟩ => by rw [h]; rfl) (fun f cdv A0 outer s H E hr => ?_)
  have hu := U.hu_of hr
  have hu1 := U.hu1_of hr
  have nd := sc_Program_has_name.nd
  refine ⟨_, (z_one (z_ret (d_eand (d_b Z.isinstance b_isinstance (c_disiK (K := K) rfl) (d_cons (dn 1) (d_cons (d_ty Z.str b_str) d_nil))) (d_one (d_ecm (o_dinK hu) (dn 1) (d_fld A.cls_Program.cl A.n_Program_own_table (dn 0))))))), ?_⟩
  rintro ds M Q Ed ⟨m, ps, y, rfl, hP, h⟩
  rcases h with ⟨z, rfl, q⟩ | ⟨nm, own, body, R, rfl, q⟩ | ⟨hp, hn, q⟩
  · refine ⟨by decide, ifT (by decide) ⟨rfl, _, rfl, .inr z, rfl, ?_⟩⟩
    rw [← tbl_is (C := C_Procedure) hP.nd] at q
    exact q
  · exact ⟨A.cls_Procedure.isC, false, kit_mkT (by decide) A.mr_str, ifF (by decide) q⟩
  · cases hp with
    | str z => exact (hn z rfl).elim
    | _ => exact ⟨by decide, ifF (by decide) q⟩
theorem D_Program___contains__ {P : Program} {w : World} {K : PySem.W.Frag} {mg : Str → Option Value} {base : Heap} {C_Procedure : Addr} {C_Program : Addr} {C_Space : Addr} {C_Look : Addr} {C_Reckoner : Addr} {C_InvalidProgram : Addr} {C_InvalidMeaning : Addr} {C_InvalidOperation : Addr} {C_InvalidNumber : Addr} {c__law_right : Addr} {P__law_right : Addr} (A : Facts K C_Procedure C_Program C_Space C_Look C_Reckoner C_InvalidProgram C_InvalidMeaning C_InvalidOperation C_InvalidNumber c__law_right P__law_right) (M : MgOf K mg) (Z : Zs mg) (D_Program_has_name : KnMD P w K mg base C_Program "has_name" 1 ["self", "value"] (spHasG C_Program C_Procedure)) : KnMD P w K mg base C_Program "__contains__" 2 ["self", "value"] (spHasG C_Program C_Procedure) := by
  refine KnMD.of A.m_Program___contains__ sc_Program___contains__ (fun _ _ _ _ _ _ us hl => match us, hl with | [_, _], _ => rfl) (fun ds M Q E ⟨_, _, _, h, _⟩ => by rw [h]; rfl) (fun f cdv A0 outer s H E hr => ?_)
  have hu := U.hu_of hr
  have hu1 := U.hu1_of hr
  have nd := sc_Program___contains__.nd
  refine ⟨_, (z_one (z_ret (d_meth D_Program_has_name A.cls_Program.cl (hr.mono (by decide)) (dn 0) (d_cons (dn 1) d_nil)))), ?_⟩
  rintro ds M Q Ed ⟨m, ps, y, rfl, hP, h⟩
  exact ⟨⟨rfl, rfl⟩, m, ps, y, rfl, hP, h⟩
def txtG (m n : Nat) : Str := Str.empty ++ ("program of " : Str) ++ iS (m : Nat) ++ (" modes, " : Str) ++ iS (n : Nat) ++ (" procedures" : Str)
def spStrG (C Cp : Addr) : DSp := fun ds M Q _ => ∃ m ps, ds = [Prg C Cp m ps] ∧ PrgOk m ps ∧ Q (.str (txtG m ps.length)) M
theorem D_Program___str__ {P : Program} {w : World} {K : PySem.W.Frag} {mg : Str → Option Value} {base : Heap} {C_Procedure : Addr} {C_Program : Addr} {C_Space : Addr} {C_Look : Addr} {C_Reckoner : Addr} {C_InvalidProgram : Addr} {C_InvalidMeaning : Addr} {C_InvalidOperation : Addr} {C_InvalidNumber : Addr} {c__law_right : Addr} {P__law_right : Addr} (A : Facts K C_Procedure C_Program C_Space C_Look C_Reckoner C_InvalidProgram C_InvalidMeaning C_InvalidOperation C_InvalidNumber c__law_right P__law_right) (M : MgOf K mg) (Z : Zs mg)  : KnMD P w K mg base C_Program "__str__" 1 ["self"] (spStrG C_Program C_Procedure) := by
  refine KnMD.of A.m_Program___str__ sc_Program___str__ (fun _ _ _ _ _ _ us hl => match us, hl with | [_], _ => rfl) (fun ds M Q E ⟨_, _, h, _⟩ => by rw [h]; rfl) (fun f cdv A0 outer s H E hr => ?_)
  have hu := U.hu_of hr
  have hu1 := U.hu1_of hr
  have nd := sc_Program___str__.nd
  refine ⟨_, (z_one (z_ret (d_joined (DJ.cons d_str (DJ.cons (d_fmt (d_fld A.cls_Program.cl A.n_Program_own_modes (dn 0))) (DJ.cons d_str (DJ.cons (d_fmt (d_b Z.len b_len c_dlen (d_cons (d_fld A.cls_Program.cl A.n_Program_own_procedures (dn 0)) d_nil))) (DJ.cons d_str DJ.nil)))))))), ?_⟩
  rintro ds M Q Ed ⟨m, ps, rfl, hP, q⟩
  have hm3 := hP.m3
  have hl8 := hP.len
  have hp : (ps.map (Pr.da C_Procedure)).length = ps.length := List.length_map _
  have lg : ∀ {n : Nat}, n ≤ 40 → ((n : Int)).natAbs.log2 < 1920 ∧ (iS (n : Nat)).length ≤ 2 := fun {n} h => (show ∀ n : Fin 41, (((n.val : Nat) : Int)).natAbs.log2 < 1920 ∧ (iS (n.val : Nat)).length ≤ 2 by decide +kernel) ⟨n, by omega⟩
  have e1 := lg (n := m) (by omega)
  have e2 := lg (n := (ps.map (Pr.da C_Procedure)).length) (by rw [hp]; omega)
  have q' : Q (.str (Str.empty ++ ("program of " : Str) ++ iS (m : Nat) ++ (" modes, " : Str) ++ iS ((ps.map (Pr.da C_Procedure)).length : Nat) ++ (" procedures" : Str))) M := by rw [hp]; exact q
  have sl : ∀ a b : Str, (a ++ b).length = a.length + b.length := fun a b => Str.length_append a b
  have c0 : Str.empty.length = 0 := rfl
  have c1 : (Str.ofString "program of ").length = 11 := by decide +kernel
  have c2 : (Str.ofString " modes, ").length = 8 := by decide +kernel
  have c3 : (Str.ofString " procedures").length = 11 := by decide +kernel
  have e12 := e1.2
  have e22 := e2.2
  generalize hL : (ps.map (Pr.da C_Procedure)).length = L at e22 e2 q' hp
  have z1 : (Str.empty ++ Str.ofString "program of " ++ iS (m : Nat)).length ≤ 1000000 := by simp only [sl]; simp only [c0, c1]; omega
  have z2 : (Str.empty ++ Str.ofString "program of " ++ iS (m : Nat) ++ Str.ofString " modes, ").length ≤ 1000000 := by simp only [sl]; simp only [c0, c1, c2]; omega
  have z3 : (Str.empty ++ Str.ofString "program of " ++ iS (m : Nat) ++ Str.ofString " modes, " ++ iS (L : Nat)).length ≤ 1000000 := by simp only [sl]; simp only [c0, c1, c2]; omega
  have z4 : (Str.empty ++ Str.ofString "program of " ++ iS (m : Nat) ++ Str.ofString " modes, " ++ iS (L : Nat) ++ Str.ofString " procedures").length ≤ 1000000 := by simp only [sl]; simp only [c0, c1, c2, c3]; omega
  subst hL
  exact ⟨sz (by rw [sl]; decide +kernel), rfl, _, rfl, e1.1, sz z1, sz z2, rfl, _, rfl, e2.1, sz z3, sz z4, q'⟩
end K68
set_option Elab.async false
set_option linter.all false
set_option maxRecDepth 100000
set_option maxHeartbeats 4000000




namespace K68
open PySem PySem.Spec PyProof.Rows L2 U
def endsN (n : Nat) (w : Bool) : Nat := n + if w then 1 else 0
def pows (N : Nat) : List Da := (List.range (N + 1)).map fun k => Da.int ((2 ^ k : Nat) : Int)
def spcF (n : Nat) (w : Bool) : List (Str × Da) := [("own_modes", .int (n : Int)), ("own_watched", .bl w), ("own_ends", .int (endsN n w : Nat)), ("own_powers", .lst (pows (n * endsN n w))), ("own_size", .int ((2 ^ (n * endsN n w) : Nat) : Int)), ("own_same", .int (sam n (endsN n w) : Nat))]
def Spc (C : Addr) (n : Nat) (w : Bool) : Da := .obj C (spcF n w)
def OkN (n : Nat) : Prop := 1 ≤ n ∧ n ≤ 3
def spInit (C : Addr) : DSp := fun ds M Q _ => ∃ p n w, ds = [.ref p, .int (n : Nat), .bl w] ∧ OkN n ∧ M p = some (.ins C []) ∧ Q .non (mput M p (.ins C (spcF n w)))
theorem sz_of {n : Nat} (h : n ≤ 100) : Sz n := sz (by omega)
theorem E_le {n : Nat} {w : Bool} (h : OkN n) : n ≤ endsN n w ∧ endsN n w ≤ 4 ∧ n * endsN n w ≤ 12 := by
  obtain ⟨h1, h2⟩ := h
  have : n = 1 ∨ n = 2 ∨ n = 3 := by omega
  rcases this with rfl | rfl | rfl <;> cases w <;> decide
theorem pows_len (N : Nat) : (pows N).length = N + 1 := by unfold pows; rw [List.length_map, List.length_range]
theorem pows_get {N k : Nat} (h : k ≤ N) : (pows N)[k]? = some (.int ((2 ^ k : Nat) : Int)) := by
  unfold pows
  rw [List.getElem?_map, List.getElem?_range (by omega)]
  rfl
theorem pows_at {N k : Nat} (h : k ≤ N) : atI (pows N) (k : Nat) = some (.int ((2 ^ k : Nat) : Int)) := atI_nat (pows_get h)
theorem pows_last (N : Nat) : atI (pows N) (-1) = some (.int ((2 ^ N : Nat) : Int)) := by
  unfold atI ixN
  rw [if_neg (by decide), if_pos (by rw [pows_len]; omega), pows_len]
  have : ((-1 : Int) + ((N + 1 : Nat) : Int)).toNat = N := by omega
  show (pows N)[_]? = _
  rw [this]
  exact pows_get (Nat.le_refl _)
theorem pows_snoc (N : Nat) : pows N ++ [.int (((2 ^ N : Nat) : Int) * 2)] = pows (N + 1) := by
  unfold pows
  rw [List.range_succ (n := N + 1), List.map_append]
  show _ ++ [Da.int _] = _ ++ [Da.int ((2 ^ (N + 1) : Nat) : Int)]
  rw [show ((2 ^ (N + 1) : Nat) : Int) = ((2 ^ N : Nat) : Int) * 2 from by rw [Nat.pow_succ]; omega]
section
variable {P : Program} {w : World} {K : PySem.W.Frag} {mg : Str → Option Value} {base : Heap} {C_Procedure : Addr} {C_Program : Addr} {C_Space : Addr} {C_Look : Addr} {C_Reckoner : Addr} {C_InvalidProgram : Addr} {C_InvalidMeaning : Addr} {C_InvalidOperation : Addr} {C_InvalidNumber : Addr} {c__law_right : Addr} {P__law_right : Addr}
theorem D_Space___init__ (A : Facts K C_Procedure C_Program C_Space C_Look C_Reckoner C_InvalidProgram C_InvalidMeaning C_InvalidOperation C_InvalidNumber c__law_right P__law_right) (M : MgOf K mg) (Z : Zs mg) (D_is_from : KnD P w K mg base "is_from" 2 ["value", "first", "last"] spIsFrom) : KnK P w K mg base C_Space 3 ["self", "modes", "watched"] 2 ["watched"] [.bl false] (spInit C_Space) := by
  refine KnK.of A.i_Space sc_Space___init__ (by decide) rfl (fun D doc pm an cdv ct us zs l1 l2 => match us, l1, zs, l2 with | [_, _], _, [_], _ => ⟨_, _, _, _, _, _, rfl, rfl, rfl⟩)
    (fun D doc pm an cdv ct us ws l1 l2 => match us, l1, ws, l2 with | [_, _], _, [_], _ => rfl) (fun ds M Q E ⟨_, _, _, h, _⟩ => by rw [h]; rfl) (fun f cdv A0 outer s H E hr => ?_)
  have nd := sc_Space___init__.nd
  refine ⟨_, (z_cons (z_if (d_tnot (d_tv (d_call D_is_from (hr.mono (by decide)) (d_cons (dn 1) (d_cons d_int (d_cons (d_gi Z.c_MAX_MODES) d_nil)))))) (z_one z_never) z_nil)
      (z_cons (z_if (d_tnot (d_tv (d_b Z.isinstance b_isinstance (c_disiK (K := K) rfl) (d_cons (dn 2) (d_cons (d_ty Z.bool b_bool) d_nil))))) (z_one z_never) z_nil)
      (z_cons (z_sto A.cls_Space.cl A.n_Space_own_modes (dn 1) (dn 0))
      (z_cons (z_sto A.cls_Space.cl A.n_Space_own_watched (dn 2) (dn 0))
      (z_cons (z_sto A.cls_Space.cl A.n_Space_own_ends (d_op o_dadd (dn 1) (d_if (d_tv (dn 2)) d_int d_int)) (dn 0))
      (z_cons (z_set 3 nd (d_lst (d_cons d_int d_nil)))
      (z_cons (z_for PassesOwn.never rfl (d_rg1 Z.range (d_cons (d_op o_dmul (dn 1) (d_fld A.cls_Space.cl A.n_Space_own_ends (dn 0))) d_nil)) (t_n 4 nd) (z_one (z_set 3 nd (d_lst (d_star (dn 3) (d_cons (d_op o_dmul (d_ix (dn 3) (d_neg d_int)) d_int) d_nil))))))
      (z_cons (z_sto A.cls_Space.cl A.n_Space_own_powers (dn 3) (dn 0))
      (z_cons (z_sto A.cls_Space.cl A.n_Space_own_size (d_ix (dn 3) (d_neg d_int)) (dn 0))
      (z_one (z_sto A.cls_Space.cl A.n_Space_own_same (d_b Z.sum b_sum (c_dsum rfl) (d_cons (d_lc (own := [("mode", 5)]) (c := (.n 5)) rfl nd (d_rg1 Z.range (d_cons (dn 1) d_nil)) (blkOk_by (own := [("mode", 5)]) (N := N_Space___init__) (sc := defScope s_Space___init__) (by decide +kernel)) (fun _ _ _ _ _ => (gn 5 nd)) (fun _ _ _ _ _ => d_ts0) (fun _ _ _ _ _ => (d_ix (dn 3) (d_op o_dadd (d_op o_dmul (dn 5) (d_fld A.cls_Space.cl A.n_Space_own_ends (dn 0))) (dn 5))))) d_nil)) (dn 0)))))))))))), ?_⟩
  rintro ds M Q Ed ⟨p, n, w, rfl, hn, hp, k⟩
  have e1 : isFr (.int (n : Int)) 1 3 = true := by
    show (decide _ && decide _) = true
    rw [decide_eq_true (by have := hn.1; omega), decide_eq_true (by have := hn.2; omega)]; rfl
  obtain ⟨el1, el2, el3⟩ := E_le (w := w) hn
  refine ⟨_, _, _, rfl, .int _, ?_⟩
  rw [show isFr _ _ _ = true from e1]
  refine ⟨by decide, ifF (by decide) ?_⟩
  refine ⟨_, hp, rfl, ?_⟩
  refine ⟨_, mput_same, rfl, ?_⟩
  -- the number of ends
  have ends : ∀ {Q : DK} {M : Mm}, Q (.int (endsN n w : Nat)) M → (if w = true then Q (.int ((n : Int) + 1)) M else Q (.int ((n : Int) + 0)) M) := fun {Q M} q => by cases w <;> exact q
  have st : ∀ (Q : DK), Q (.int (endsN n w : Nat)) (mput (mput M p (.ins C_Space (putD "own_modes" (.int (n : Int)) []))) p (.ins C_Space (putD "own_watched" (.bl w) (putD "own_modes" (.int (n : Int)) [])))) →
      gOp hAdd (gVar 1) (gIf (gTru (gVar 2)) (gC (.int 1)) (gC (.int 0))) [some (.ref p), some (.int (n : Int)), some (.bl w), none, none, none] (mput (mput M p (.ins C_Space (putD "own_modes" (.int (n : Int)) []))) p (.ins C_Space (putD "own_watched" (.bl w) (putD "own_modes" (.int (n : Int)) [])))) Q := fun Q q => by cases w <;> exact q
  refine st _ ?_
  refine ⟨_, mput_same, rfl, ?_⟩
  refine ⟨rfl, ?_⟩
  refine ⟨_, mput_same, _, rfl, .inl (by have := hn.2; omega), rok (by omega) (by have : ((n : Int) * (endsN n w : Nat)) = ((n * endsN n w : Nat) : Int) := rfl; omega), ?_⟩
  refine forD_rng (n := n * endsN n w) (fun j δ M' => ∃ u, δ = [some (.ref p), some (.int (n : Int)), some (.bl w), some (.lst (pows j)), u, none] ∧ M' = mput (mput (mput M p (.ins C_Space (putD "own_modes" (.int (n : Int)) []))) p (.ins C_Space (putD "own_watched" (.bl w) (putD "own_modes" (.int (n : Int)) [])))) p (.ins C_Space (putD "own_ends" (.int (endsN n w : Nat)) (putD "own_watched" (.bl w) (putD "own_modes" (.int (n : Int)) []))))) ?_ ?_ ⟨none, rfl, rfl⟩
  · rintro j δ M' NX hj ⟨u, rfl, rfl⟩ nx
    refine ⟨_, pows_last j, .inr ⟨by decide, by decide⟩, sz_of ?_, nx _ _ ⟨some (.int (j : Int)), ?_, rfl⟩⟩
    · show (pows j ++ [_]).length ≤ 100
      rw [List.length_append, pows_len, List.length_singleton]; omega
    · show _ = [some (Da.ref p), some (Da.int (n : Int)), some (Da.bl w), some (Da.lst (pows (j + 1))), _, none]
      rw [← pows_snoc]
      rfl
  · rintro δ M' ⟨u, rfl, rfl⟩
    refine ⟨_, mput_same, rfl, ?_⟩
    refine ⟨_, pows_last _, _, mput_same, rfl, ?_⟩
    refine ⟨rok (by omega) (by have := hn.2; omega), ?_⟩
    rw [rngD0' (n := n) rfl]
    refine ⟨sz_of (by rw [List.length_map, List.length_range]; have := hn.2; omega), lcD_all (fun i : Nat => Da.int ((2 ^ (i * endsN n w + i) : Nat) : Int)) (fun _ _ => trivial) (fun i hi Q q => ?_) ?_⟩
    · have hi := List.mem_range.mp hi
      refine ⟨_, mput_same, _, rfl, .inl (by have := hn.2; omega), _, pows_at (k := i * endsN n w + i) ?_, q⟩
      have h1 : i * endsN n w ≤ (n - 1) * endsN n w := Nat.mul_le_mul_right _ (by omega)
      have h2 : (n - 1) * endsN n w + endsN n w = n * endsN n w := by
        rw [← Nat.succ_mul]; congr 1; have := hn.1; omega
      omega
    · refine ⟨_, asInts_fun _ _, _, mput_same, rfl, ?_⟩
      have es : ((List.range n).map fun i => ((2 ^ (i * endsN n w + i) : Nat) : Int)).sum = ((sam n (endsN n w) : Nat) : Int) := by
        obtain ⟨h1, h2⟩ := hn
        have : n = 1 ∨ n = 2 ∨ n = 3 := by omega
        rcases this with rfl | rfl | rfl <;> cases w <;> decide
      rw [es]
      simp only [mput_put]
      exact k
def spIsRel (C : Addr) : DSp := fun ds M Q _ => ∃ (n : Nat) (w : Bool) (x : Da), ds = [Spc C n w, x] ∧ OkN n ∧ pv x ∧ Q (.bl (isFr x 0 (((2 ^ (n * endsN n w) : Nat) : Int) - 1))) M
section
variable (A : Facts K C_Procedure C_Program C_Space C_Look C_Reckoner C_InvalidProgram C_InvalidMeaning C_InvalidOperation C_InvalidNumber c__law_right P__law_right) (M : MgOf K mg) (Z : Zs mg)
include A M Z
theorem D_Space_is_relation (D_is_from : KnD P w K mg base "is_from" 2 ["value", "first", "last"] spIsFrom) : KnMD P w K mg base C_Space "is_relation" 3 ["self", "value"] (spIsRel C_Space) := by
  refine KnMD.of A.m_Space_is_relation sc_Space_is_relation (fun _ _ _ _ _ _ us hl => match us, hl with | [_, _], _ => rfl) (fun ds M Q E ⟨_, _, _, h, _⟩ => by rw [h]; rfl) (fun f cdv A0 outer s H E hr => ?_)
  have nd := sc_Space_is_relation.nd
  refine ⟨_, (z_one (z_ret (d_call D_is_from (hr.mono (by decide)) (d_cons (dn 1) (d_cons d_int (d_cons (d_op o_dsub (d_fld A.cls_Space.cl A.n_Space_own_size (dn 0)) d_int) d_nil)))))), ?_⟩
  rintro ds M Q Ed ⟨n, w, x, rfl, hn, ok, q⟩
  exact ⟨rfl, _, rfl, x, 0, _, rfl, ok, q⟩
end
end

section
variable {P : Program} {w : World} {K : PySem.W.Frag} {mg : Str → Option Value} {base : Heap} {C_Procedure : Addr} {C_Program : Addr} {C_Space : Addr} {C_Look : Addr} {C_Reckoner : Addr} {C_InvalidProgram : Addr} {C_InvalidMeaning : Addr} {C_InvalidOperation : Addr} {C_InvalidNumber : Addr} {c__law_right : Addr} {P__law_right : Addr}
/-- a space with n modes, watched or not -/
def spBit (C : Addr) : DSp := fun ds M Q _ => ∃ (n : Nat) (w : Bool) (m e : Nat), ds = [Spc C n w, .int m, .int e] ∧ OkN n ∧ m * endsN n w + e ≤ n * endsN n w ∧ Q (.int ((2 ^ (m * endsN n w + e) : Nat) : Int)) M
def spHasS (C : Addr) : DSp := fun ds M Q _ => ∃ (n : Nat) (w : Bool) (r m e : Nat), ds = [Spc C n w, .int r, .int m, .int e] ∧ OkN n ∧ m * endsN n w + e ≤ n * endsN n w ∧ Q (.bl (r.testBit (m * endsN n w + e))) M
theorem pow_lt {k : Nat} (h : k ≤ 12) : 0 < ((2 ^ k : Nat) : Int) ∧ ((2 ^ k : Nat) : Int) < 1073741824 := by
  have h1 : 2 ^ k ≤ 2 ^ 12 := Nat.pow_le_pow_right (by decide) h
  have h2 : 0 < 2 ^ k := Nat.pow_pos (by decide)
  have e : (2 : Nat) ^ 12 = 4096 := by decide
  omega
theorem bit_or (a b : Nat) : Builtin.bitOr (a : Int) (b : Int) = ((a ||| b : Nat) : Int) := by
  rw [bitOr_nn (Int.natCast_nonneg _) (Int.natCast_nonneg _)]; rfl
section
variable (A : Facts K C_Procedure C_Program C_Space C_Look C_Reckoner C_InvalidProgram C_InvalidMeaning C_InvalidOperation C_InvalidNumber c__law_right P__law_right) (M : MgOf K mg) (Z : Zs mg)
include A M Z
theorem D_Space_bit : KnMD P w K mg base C_Space "bit" 1 ["self", "mode", "end"] (spBit C_Space) := by
  refine KnMD.of A.m_Space_bit sc_Space_bit (fun _ _ _ _ _ _ us hl => match us, hl with | [_, _, _], _ => rfl) (fun ds M Q E ⟨_, _, _, _, h, _⟩ => by rw [h]; rfl) (fun f cdv A0 outer s H E hr => ?_)
  have nd := sc_Space_bit.nd
  refine ⟨_, (z_one (z_ret (d_ix (d_fld A.cls_Space.cl A.n_Space_own_powers (dn 0)) (d_op o_dadd (d_op o_dmul (dn 1) (d_fld A.cls_Space.cl A.n_Space_own_ends (dn 0))) (dn 2))))), ?_⟩
  rintro ds M Q Ed ⟨n, w, m, e, rfl, hn, hk, q⟩
  obtain ⟨_, el2, el3⟩ := E_le (w := w) hn
  refine ⟨rfl, _, rfl, ⟨rfl, _, rfl, .inr (by omega), _, pows_at hk, q⟩⟩
theorem D_Space_has (D_Space_bit : KnMD P w K mg base C_Space "bit" 1 ["self", "mode", "end"] (spBit C_Space)) : KnMD P w K mg base C_Space "has" 2 ["self", "relation", "mode", "end"] (spHasS C_Space) := by
  refine KnMD.of A.m_Space_has sc_Space_has (fun _ _ _ _ _ _ us hl => match us, hl with | [_, _, _, _], _ => rfl) (fun ds M Q E ⟨_, _, _, _, _, h, _⟩ => by rw [h]; rfl) (fun f cdv A0 outer s H E hr => ?_)
  have hu := U.hu_of hr
  have nd := sc_Space_has.nd
  refine ⟨_, (z_one (z_ret (d_ecm (o_deq hu) (d_op o_dmod (d_op o_ddiv (dn 1) (d_meth D_Space_bit A.cls_Space.cl (hr.mono (by decide)) (dn 0) (d_cons (dn 2) (d_cons (dn 3) d_nil)))) d_int) d_int))), ?_⟩
  rintro ds M Q Ed ⟨n, w, r, m, e, rfl, hn, hk, q⟩
  obtain ⟨_, el2, el3⟩ := E_le (w := w) hn
  refine ⟨⟨rfl, rfl⟩, n, w, m, e, rfl, hn, hk, pow_lt (by omega), by decide, ?_⟩
  rw [← has_bit] at q
  exact q
end
end

def spReqRelX (C CN : Addr) : DSp := fun ds M Q E => ∃ n w x, ds = [Spc C n w, x] ∧ OkN n ∧ pv x ∧ (isFr x 0 (((2 ^ (n * endsN n w) : Nat) : Int) - 1) = true → Q .non M) ∧ (isFr x 0 (((2 ^ (n * endsN n w) : Nat) : Int) - 1) = false → E (.ref CN) [("value", x)] M)
theorem D_Space_require_relation {P : Program} {w : World} {K : PySem.W.Frag} {mg : Str → Option Value} {base : Heap} {C_Procedure : Addr} {C_Program : Addr} {C_Space : Addr} {C_Look : Addr} {C_Reckoner : Addr} {C_InvalidProgram : Addr} {C_InvalidMeaning : Addr} {C_InvalidOperation : Addr} {C_InvalidNumber : Addr} {c__law_right : Addr} {P__law_right : Addr} (A : Facts K C_Procedure C_Program C_Space C_Look C_Reckoner C_InvalidProgram C_InvalidMeaning C_InvalidOperation C_InvalidNumber c__law_right P__law_right) (M : MgOf K mg) (Z : Zs mg) (D_Space_is_relation : KnMD P w K mg base C_Space "is_relation" 3 ["self", "value"] (spIsRel C_Space)) (D_InvalidNumber___init__ : KnErr P w K mg base "InvalidNumber" C_InvalidNumber "value" 1) : KnMXD P w K mg base C_Space "require_relation" 4 ["self", "value"] (spReqRelX C_Space C_InvalidNumber) := by
  refine KnMXD.of A.m_Space_require_relation sc_Space_require_relation (fun _ _ _ _ _ _ us hl => match us, hl with | [_, _], _ => rfl) (fun ds M Q E ⟨_, _, _, h, _⟩ => by rw [h]; rfl) (fun f cdv A0 outer s H E hr => ?_)
  have hu := U.hu_of hr
  have hu1 := U.hu1_of hr
  have nd := sc_Space_require_relation.nd
  refine ⟨_, (z_one (z_if (d_tnot (d_tv (d_meth D_Space_is_relation A.cls_Space.cl (hr.mono (by decide)) (dn 0) (d_cons (dn 1) d_nil)))) (z_one (z_raiseE D_InvalidNumber___init__ (hr.mono (by decide)) (dn 1))) z_nil)), ?_⟩
  rintro ds M Q Ed ⟨n, w, x, rfl, hn, ok, q1, q2⟩
  refine ⟨⟨rfl, rfl⟩, n, w, x, rfl, hn, ok, ?_⟩
  cases c : isFr x 0 (((2 ^ (n * endsN n w) : Nat) : Int) - 1) with
  | true => exact q1 c
  | false => exact ⟨x, rfl, M, fun _ _ h => h, q2 c⟩

def pr (E k : Nat) : List Int := [((k / E : Nat) : Int), ((k % E : Nat) : Int)]
/-- the cells of a relation -/
def cel (r : Nat) : List Nat := (List.range 12).filter r.testBit
theorem cel_mem {r k : Nat} : k ∈ cel r ↔ k < 12 ∧ r.testBit k = true := by unfold cel; rw [List.mem_filter, List.mem_range]
theorem cel_len (r : Nat) : (cel r).length ≤ 12 := by
  unfold cel
  have := List.length_filter_le r.testBit (List.range 12)
  rw [List.length_range] at this
  exact this
theorem pow_at {N k : Nat} (h : k < N) : atI ((List.range N).map fun k => Da.int ((2 ^ k : Nat) : Int)) (k : Nat) = some (.int ((2 ^ k : Nat) : Int)) :=
  atI_nat (by rw [List.getElem?_map, List.getElem?_range h]; rfl)
section
variable {P : Program} {w : World} {K : PySem.W.Frag} {mg : Str → Option Value} {base : Heap} {C_Procedure : Addr} {C_Program : Addr} {C_Space : Addr} {C_Look : Addr} {C_Reckoner : Addr} {C_InvalidProgram : Addr} {C_InvalidMeaning : Addr} {C_InvalidOperation : Addr} {C_InvalidNumber : Addr} {c__law_right : Addr} {P__law_right : Addr}
variable (A : Facts K C_Procedure C_Program C_Space C_Look C_Reckoner C_InvalidProgram C_InvalidMeaning C_InvalidOperation C_InvalidNumber c__law_right P__law_right) (M : MgOf K mg) (Z : Zs mg)
include A M Z
end

def isTab (N : Nat) (x : Da) : Bool := match x with
  | .tup xs => decide (xs.length = 2 ^ N) && xs.all fun y => isFr y 0 (((2 ^ N : Nat) : Int) - 1)
  | _ => false
def spIsTable (C : Addr) : DSp := fun ds M Q _ => ∃ (n : Nat) (w : Bool) (x : Da), ds = [Spc C n w, x] ∧ OkN n ∧ pv x ∧ Q (.bl (isTab (n * endsN n w) x)) M
section
variable {P : Program} {w : World} {K : PySem.W.Frag} {mg : Str → Option Value} {base : Heap} {C_Procedure : Addr} {C_Program : Addr} {C_Space : Addr} {C_Look : Addr} {C_Reckoner : Addr} {C_InvalidProgram : Addr} {C_InvalidMeaning : Addr} {C_InvalidOperation : Addr} {C_InvalidNumber : Addr} {c__law_right : Addr} {P__law_right : Addr}
variable (A : Facts K C_Procedure C_Program C_Space C_Look C_Reckoner C_InvalidProgram C_InvalidMeaning C_InvalidOperation C_InvalidNumber c__law_right P__law_right) (M : MgOf K mg) (Z : Zs mg)
include A M Z
theorem D_Space_is_table (D_Space_is_relation : KnMD P w K mg base C_Space "is_relation" 3 ["self", "value"] (spIsRel C_Space)) : KnMD P w K mg base C_Space "is_table" 4 ["self", "value"] (spIsTable C_Space) := by
  refine KnMD.of A.m_Space_is_table sc_Space_is_table (fun _ _ _ _ _ _ us hl => match us, hl with | [_, _], _ => rfl) (fun ds M Q E ⟨_, _, _, h, _⟩ => by rw [h]; rfl) (fun f cdv A0 outer s H E hr => ?_)
  have hu := U.hu_of hr
  have nd := sc_Space_is_table.nd
  refine ⟨_, (z_cons (z_if (d_w (d_or (d_tnot (d_tv (d_b Z.isinstance b_isinstance (c_disiK (K := K) rfl) (d_cons (dn 1) (d_cons (d_ty Z.tuple b_tuple) d_nil))))) (d_or1 (d_tcm (o_dne hu) (d_b Z.len b_len c_dlen (d_cons (dn 1) d_nil)) (d_fld A.cls_Space.cl A.n_Space_own_size (dn 0)))))) (z_one (z_ret d_bl)) z_nil)
      (z_one (z_ret (d_b Z.all b_all (c_dall rfl) (d_cons (d_lc (own := [("entry", 2)]) (c := (.n 2)) rfl nd (d_it (dn 1)) (blkOk_by (own := [("entry", 2)]) (N := N_Space_is_table) (sc := defScope s_Space_is_table) (by decide +kernel)) (fun _ _ _ _ _ => (gn 2 nd)) (fun _ _ _ _ _ => d_ts0) (fun _ _ _ _ _ => (d_meth D_Space_is_relation A.cls_Space.cl (hr.mono (by decide)) (dn 0) (d_cons (dn 2) d_nil)))) d_nil))))), ?_⟩
  rintro ds M Q Ed ⟨n, w, x, rfl, hn, ok, q⟩
  cases x with
  | non => exact ⟨by decide, ifT (by decide) q⟩
  | bl b => exact ⟨by decide, ifT (by decide) q⟩
  | int b => exact ⟨by decide, ifT (by decide) q⟩
  | str b => exact ⟨by decide, ifT (by decide) q⟩
  | lst b => exact ⟨by decide, ifT (by decide) q⟩
  | dct b => exact ⟨by decide, ifT (by decide) q⟩
  | tup xs =>
    have ok1 : Sz xs.length := by cases ok with | tup _ h _ => exact sz (by omega)
    have ok2 : ∀ y ∈ xs, pv y := by cases ok with | tup _ _ h => exact h
    refine ⟨by decide, ifF (by decide) ⟨rfl, _, rfl, ?_⟩⟩
    cases c : decide (xs.length = 2 ^ (n * endsN n w)) with
    | false =>
      have e : isTab (n * endsN n w) (.tup xs) = false := by show (decide _ && _) = false; rw [c]; rfl
      rw [e] at q
      refine ifT ?_ q
      rw [Bool.not_eq_true']
      exact decide_eq_false fun z => of_decide_eq_false c (by omega)
    | true =>
      have e : isTab (n * endsN n w) (.tup xs) = xs.all fun y => isFr y 0 (((2 ^ (n * endsN n w) : Nat) : Int) - 1) := by show (decide _ && _) = _; rw [c]; rfl
      rw [e] at q
      refine ifF ?_ ?_
      · rw [Bool.not_eq_true', Bool.not_eq_false]
        exact decide_eq_true (by have := of_decide_eq_true c; omega)
      · have key : xs = xs.map id := (List.map_id xs).symm
        refine ⟨ok1, ?_⟩
        rw [key]
        refine lcD_all (fun y => Da.bl (isFr y 0 (((2 ^ (n * endsN n w) : Nat) : Int) - 1))) (fun _ _ => trivial) (fun y hy Q q => ⟨⟨rfl, rfl⟩, n, w, y, rfl, hn, ok2 y hy, q⟩) ?_
        refine ⟨_, asBls_fun _ _, ?_⟩
        rw [List.all_map]
        exact q
  | ty _ => cases ok
  | obj _ _ => cases ok
  | ref _ => cases ok
  | exn _ _ _ => cases ok
end
/-- all cells, row by row -/
theorem cells_list (E : Nat) (hE : 0 < E) : ∀ n, ((List.range n).flatMap fun m : Nat => (List.range E).map fun e : Nat => tupI [(m : Int), (e : Int)]) = (List.range (n * E)).map fun k => tupI (pr E k)
  | 0 => by simp
  | n + 1 => by
    rw [List.range_succ, List.flatMap_append, cells_list E hE n, Nat.succ_mul, List.range_add, List.map_append]
    congr 1
    rw [List.flatMap_singleton, List.map_map]
    apply List.map_congr_left
    intro e he
    have he := List.mem_range.mp he
    show _ = tupI (pr E (n * E + e))
    unfold pr
    rw [cell_div he, cell_mod he]
theorem cel_N {r N : Nat} (h : r < 2 ^ N) (hN : N ≤ 12) : (List.range N).filter r.testBit = cel r := by
  unfold cel
  obtain ⟨j, hj⟩ := Nat.le.dest hN
  have e : (12 : Nat) = N + j := hj.symm
  rw [show List.range 12 = List.range (N + j) from by rw [← e], List.range_add, List.filter_append]
  have : ((List.range j).map fun x => N + x).filter r.testBit = [] := by
    rw [List.filter_eq_nil_iff]
    intro k hk hb
    obtain ⟨x, _, rfl⟩ := List.mem_map.mp hk
    have := bit_lt h hb
    omega
  rw [this, List.append_nil]
def tupR (E : Nat) (ks : List Nat) : Da := .tup (ks.map fun k => tupI (pr E k))
theorem isFr_rel {N r : Nat} (h : r < 2 ^ N) : isFr (.int (r : Int)) 0 (((2 ^ N : Nat) : Int) - 1) = true := by
  simp only [isFr]
  rw [decide_eq_true (by omega), decide_eq_true (by omega)]; rfl
def spPairsM (C : Addr) : DSp := fun ds M Q _ => ∃ (n : Nat) (w : Bool) (r : Nat), ds = [Spc C n w, .int r] ∧ OkN n ∧ r < 2 ^ (n * endsN n w) ∧ Q (tupR (endsN n w) (cel r)) M
theorem D_Space_pairs {P : Program} {w : World} {K : PySem.W.Frag} {mg : Str → Option Value} {base : Heap} {C_Procedure : Addr} {C_Program : Addr} {C_Space : Addr} {C_Look : Addr} {C_Reckoner : Addr} {C_InvalidProgram : Addr} {C_InvalidMeaning : Addr} {C_InvalidOperation : Addr} {C_InvalidNumber : Addr} {c__law_right : Addr} {P__law_right : Addr} (A : Facts K C_Procedure C_Program C_Space C_Look C_Reckoner C_InvalidProgram C_InvalidMeaning C_InvalidOperation C_InvalidNumber c__law_right P__law_right) (M : MgOf K mg) (Z : Zs mg) (D_Space_require_relation : KnMXD P w K mg base C_Space "require_relation" 4 ["self", "value"] (spReqRelX C_Space C_InvalidNumber)) (D_Space_has : KnMD P w K mg base C_Space "has" 2 ["self", "relation", "mode", "end"] (spHasS C_Space)) : KnMD P w K mg base C_Space "pairs" 5 ["self", "relation"] (spPairsM C_Space) := by
  refine KnMD.of A.m_Space_pairs sc_Space_pairs (fun _ _ _ _ _ _ us hl => match us, hl with | [_, _], _ => rfl) (fun ds M Q E ⟨_, _, _, h, _⟩ => by rw [h]; rfl) (fun f cdv A0 outer s H E hr => ?_)
  have hu := U.hu_of hr
  have hu1 := U.hu1_of hr
  have nd := sc_Space_pairs.nd
  refine ⟨_, (z_cons (z_expr (d_meth D_Space_require_relation.d A.cls_Space.cl (hr.mono (by decide)) (dn 0) (d_cons (dn 1) d_nil)))
      (z_cons (z_setLc2 (i := 2) (own := [("mode", 3), ("end", 4)]) (c := (.n 3)) (c1 := (.n 4)) (vs1 := [4]) rfl nd (d_rg1 Z.range (d_cons (d_fld A.cls_Space.cl A.n_Space_own_modes (dn 0)) d_nil)) (blkOk_by (own := [("mode", 3), ("end", 4)]) (N := N_Space_pairs) (sc := defScope s_Space_pairs) (by decide +kernel)) (by decide) (fun _ _ _ _ _ => (gn 3 nd)) (fun _ _ _ _ _ => d_ts0) (fun _ _ _ _ _ => (d_rg1 Z.range (d_cons (d_fld A.cls_Space.cl A.n_Space_own_ends (dn 0)) d_nil))) (fun _ _ _ _ _ => (gn 4 nd)) (fun _ _ _ _ _ => d_ts0) (fun _ _ _ _ _ => (d_tup (d_cons (dn 3) (d_cons (dn 4) d_nil)))) rfl rfl (sw_true rfl rfl rfl (by decide +kernel)))
      (z_one (z_ret (d_t Z.tuple b_tuple c_dtuple (d_cons (d_lc (own := [("pair", 5)]) (c := (.n 5)) rfl nd (d_it (dn 2)) (blkOk_by (own := [("pair", 5)]) (N := N_Space_pairs) (sc := defScope s_Space_pairs) (by decide +kernel)) (fun _ _ _ _ _ => (gn 5 nd)) (fun _ _ _ _ _ => (d_ts1 (d_tv (d_methSB D_Space_has A.cls_Space.cl (hr.mono (by decide)) (dn 0) (dn 1) (dn 5))))) (fun _ _ _ _ _ => (dn 5))) d_nil)))))), ?_⟩
  rintro ds M Q Ed ⟨n, w, r, rfl, hn, hr, q⟩
  obtain ⟨el1, el2, el3⟩ := E_le (w := w) hn
  have hE0 : 0 < endsN n w := by have := hn.1; omega
  refine ⟨⟨rfl, rfl⟩, n, w, .int (r : Int), rfl, hn, .int _, fun _ => ?_, fun c => (by rw [isFr_rel hr] at c; cases c)⟩
  refine ⟨rfl, _, rfl, rok (by omega) (by have := hn.2; omega), ?_⟩
  rw [rngD0' (n := n) rfl]
  refine ⟨sq (by rw [List.length_map, List.length_range]; have := hn.2; omega), ?_⟩
  refine lc2D_all (inn := fun _ : Nat => List.range (endsN n w)) (h := fun e : Nat => Da.int (e : Int)) (f := fun (m e : Nat) => tupI [(m : Int), (e : Int)]) (fun m hm => ⟨trivial, sr (by rw [List.length_range]; omega), fun Q q => ⟨rfl, _, rfl, rok (by omega) (by omega), ?_⟩⟩) (fun m hm e he => ⟨trivial, fun Q q => ⟨rfl, q⟩⟩) ?_
  · rw [rngD0' (n := endsN n w) rfl]
    exact q
  · rw [cells_list _ hE0]
    refine ⟨sz (by rw [List.length_map, List.length_range]; omega), lcD_map r.testBit (fun k => tupI (pr (endsN n w) k)) (fun k hk => ⟨trivial, fun Q q => ?_⟩) (fun k hk _ Q q => q) ?_⟩
    · have hk := List.mem_range.mp hk
      refine ⟨⟨rfl, rfl⟩, n, w, r, k / endsN n w, k % endsN n w, rfl, hn, by rw [div_mod]; omega, ?_⟩
      rw [div_mod]
      exact q
    · rw [cel_N hr el3]
      exact q

end K68
set_option Elab.async false
set_option linter.all false
set_option maxRecDepth 100000
set_option maxHeartbeats 4000000




namespace K68
open PySem PySem.Spec PyProof.Rows L2 U
theorem cmul_mod {x j k : Int} (h : 0 < k) (h2 : k ≤ 2 ^ 64) : CMul (x % k) j := .inl ⟨by have := Int.emod_nonneg x (show k ≠ 0 by omega); omega, Int.lt_of_lt_of_le (Int.emod_lt_of_pos x h) h2⟩
def Die (d : Addr) (M : Mm) : Prop := ∃ a b c : Int, M d = some (.lst [.int a, .int b, .int c])
def Km (d : Addr) (M M' : Mm) : Prop := ∀ p, p ≠ d → M' p = M p
theorem Km.refl {d : Addr} {M : Mm} : Km d M M := fun _ _ => rfl
theorem Km.trans {d : Addr} {M M1 M2 : Mm} (a : Km d M M1) (b : Km d M1 M2) : Km d M M2 := fun p h => (b p h).trans (a p h)
theorem Km.put {d : Addr} {M M' : Mm} {o : MO} (a : Km d M M') : Km d M (mput M' d o) := fun p h => (mput_ne h).trans (a p h)
def spNumbers : DSp := fun ds M Q _ => ∃ (ns : List Int) (i : Nat), ds = [.lst (ns.map Da.int), .int i] ∧ ns.length ≤ 63 ∧ i < 1000 ∧ ∀ d a b c, M d = none → Q (.ref d) (mput M d (.lst [.int a, .int b, .int c]))
def spCast : DSp := fun ds M Q _ => ∃ (d : Addr) (n : Nat), ds = [.ref d, .int n] ∧ Die d M ∧ 0 < n ∧ n < 1073741824 ∧ ∀ (r : Nat) M', r < n → Die d M' → Km d M M' → Q (.int r) M'
def spPick : DSp := fun ds M Q _ => ∃ (d : Addr) (xs : List Da), ds = [.ref d, .lst xs] ∧ Die d M ∧ 0 < xs.length ∧ xs.length < 1000000 ∧ ∀ x M', x ∈ xs → Die d M' → Km d M M' → Q x M'
theorem D__law_pail {P : Program} {w : World} {K : PySem.W.Frag} {mg : Str → Option Value} {base : Heap} {C_Procedure : Addr} {C_Program : Addr} {C_Space : Addr} {C_Look : Addr} {C_Reckoner : Addr} {C_InvalidProgram : Addr} {C_InvalidMeaning : Addr} {C_InvalidOperation : Addr} {C_InvalidNumber : Addr} {c__law_right : Addr} {P__law_right : Addr} (A : Facts K C_Procedure C_Program C_Space C_Look C_Reckoner C_InvalidProgram C_InvalidMeaning C_InvalidOperation C_InvalidNumber c__law_right P__law_right) (M : MgOf K mg) (Z : Zs mg)  : KnD P w K mg base "_law_pail" 1 ["_law_script", "_law_at"] spNumbers := by
  refine KnD.of A.d__law_pail M sc__law_pail (fun _ _ _ _ _ _ us hl => match us, hl with | [_, _], _ => rfl) (fun ds M Q E ⟨_, _, h, _⟩ => by rw [h]; rfl) (fun f cdv A0 outer s H E hr => ?_)
  have hu := U.hu_of hr
  have hu1 := U.hu1_of hr
  have nd := sc__law_pail.nd
  refine ⟨_, (z_cons (z_set 2 nd (d_if (d_tcm o_dlt (dn 1) (d_b Z.len b_len c_dlen (d_cons (dn 0) d_nil))) (d_ix (dn 0) (dn 1)) (d_op o_dadd (d_op o_dmul d_int (dn 1)) d_int)))
      (z_cons (z_set 3 nd (d_op o_dmod (d_t Z.int b_int c_dint (d_cons (d_b Z.abs b_abs c_dabs (d_cons (dn 2) d_nil)) d_nil)) (d_op o_dpow (d_op o_dpow d_int d_int) d_int)))
      (z_cons (z_set 4 nd (d_op o_dadd (d_op o_dadd (d_op o_dadd (d_op o_dmul (d_op o_dmod (d_t Z.int b_int c_dint (d_cons (dn 3) d_nil)) d_int) d_int) (d_op o_dmul d_int (dn 1))) (d_op o_dmul d_int (d_t Z.int b_int c_dint (d_cons (d_ecm o_dlt (dn 2) d_int) d_nil)))) d_int))
      (z_one (z_ret (d_lstM (d_cons (d_b Z.max b_max (c_dmax rfl) (d_cons d_int (d_cons (d_op o_dsub (dn 3) (d_op o_dpow d_int d_int)) d_nil))) (d_cons (d_op o_dmod (d_t Z.int b_int c_dint (d_cons (dn 4) d_nil)) d_int) (d_cons d_int d_nil))))))))), ?_⟩
  rintro ds M Q Ed ⟨ns, i, rfl, hl, hi, k⟩
  refine ite2 (fun c => ?_) (fun c => ⟨.inl (by omega), ?_⟩)
  · have c1 : i < ns.length := by
      have := of_decide_eq_true c
      rw [List.length_map] at this
      omega
    refine ⟨_, atI_nat (v := Da.int ns[i]) (by rw [List.getElem?_map, List.getElem?_eq_getElem c1]; rfl), ?_⟩
    refine ⟨⟨by decide, by decide⟩, ⟨by decide, by decide⟩, by decide, ?_⟩
    refine ⟨by decide, cmul_mod (by decide) (by decide), .inl (by omega), .inl (by omega), ?_⟩
    refine ⟨⟨by decide, by decide⟩, by decide, rfl, fun d hd => k d _ _ _ hd⟩
  · refine ⟨⟨by decide, by decide⟩, ⟨by decide, by decide⟩, by decide, ?_⟩
    refine ⟨by decide, cmul_mod (by decide) (by decide), .inl (by omega), .inl (by omega), ?_⟩
    refine ⟨⟨by decide, by decide⟩, by decide, rfl, fun d hd => k d _ _ _ hd⟩
theorem D__law_dip {P : Program} {w : World} {K : PySem.W.Frag} {mg : Str → Option Value} {base : Heap} {C_Procedure : Addr} {C_Program : Addr} {C_Space : Addr} {C_Look : Addr} {C_Reckoner : Addr} {C_InvalidProgram : Addr} {C_InvalidMeaning : Addr} {C_InvalidOperation : Addr} {C_InvalidNumber : Addr} {c__law_right : Addr} {P__law_right : Addr} (A : Facts K C_Procedure C_Program C_Space C_Look C_Reckoner C_InvalidProgram C_InvalidMeaning C_InvalidOperation C_InvalidNumber c__law_right P__law_right) (M : MgOf K mg) (Z : Zs mg)  : KnD P w K mg base "_law_dip" 1 ["_law_pail_here", "_law_total"] spCast := by
  refine KnD.of A.d__law_dip M sc__law_dip (fun _ _ _ _ _ _ us hl => match us, hl with | [_, _], _ => rfl) (fun ds M Q E ⟨_, _, h, _⟩ => by rw [h]; rfl) (fun f cdv A0 outer s H E hr => ?_)
  have hu := U.hu_of hr
  have hu1 := U.hu1_of hr
  have nd := sc__law_dip.nd
  refine ⟨_, (z_cons (z_if (d_tcm o_dgt (d_ix (dn 0) d_int) d_int) (z_cons (z_set 2 nd (d_op o_dmod (d_t Z.int b_int c_dint (d_cons (d_ix (dn 0) d_int) d_nil)) (dn 1)))
      (z_cons (z_asg (d_op o_ddiv (d_ix (dn 0) d_int) (dn 1)) (t_sub (dn 0) d_int))
      (z_one (z_ret (dn 2))))) z_nil)
      (z_cons (z_asg (d_op o_dadd (d_ix (dn 0) d_int) d_int) (t_sub (dn 0) d_int))
      (z_cons (z_set 3 nd (d_op o_dmod (d_t Z.int b_int c_dint (d_cons (d_op o_dadd (d_ix (dn 0) d_int) (d_op o_dmul d_int (d_ix (dn 0) d_int))) d_nil)) d_int))
      (z_cons (z_set 4 nd (d_op o_dadd (d_op o_dmul (d_op o_dmod (d_t Z.int b_int c_dint (d_cons (d_op o_dmul (dn 3) (dn 3)) d_nil)) d_int) (dn 3)) (d_op o_dmul d_int (d_ix (dn 0) d_int))))
      (z_one (z_ret (d_op o_dmod (d_t Z.int b_int c_dint (d_cons (d_op o_ddiv (d_op o_dmod (d_t Z.int b_int c_dint (d_cons (dn 4) d_nil)) d_int) d_int) d_nil)) (dn 1)))))))), ?_⟩
  rintro ds M Q Ed ⟨d, n, rfl, ⟨a, b, c, hd⟩, h0, h1, k⟩
  have h0' : (0 : Int) < n := by omega
  have rr : ∀ x : Int, ∃ r : Nat, x % n = r ∧ r < n := fun x => ⟨(x % n).toNat, by
    have := Int.emod_nonneg x (show (n : Int) ≠ 0 by omega); omega, by
    have := Int.emod_nonneg x (show (n : Int) ≠ 0 by omega); have := Int.emod_lt_of_pos x h0'; omega⟩
  refine ⟨_, _, hd, rfl, ite2 (fun c0 => ?_) (fun c0 => ?_)⟩
  · refine ⟨_, _, hd, rfl, h0', ?_⟩
    refine ⟨_, _, hd, rfl, ⟨h0', by omega⟩, _, _, hd, rfl, ?_⟩
    obtain ⟨r, e, hr'⟩ := rr a
    show Q (.int (a % n)) _
    rw [e]
    exact k r _ hr' ⟨_, _, _, mput_same⟩ Km.refl.put
  · refine ⟨_, _, hd, rfl, _, _, hd, rfl, ?_⟩
    refine ⟨_, _, mput_same, rfl, _, _, mput_same, rfl, .inl ⟨by decide, by decide⟩, by decide, ?_⟩
    refine ⟨cmul_mod (by decide) (by decide), by decide, cmul_mod (by decide) (by decide), _, _, mput_same, rfl, .inl ⟨by decide, by decide⟩, ?_⟩
    refine ⟨by decide, ⟨by decide, by decide⟩, h0', ?_⟩
    refine (fun (x : Int) => ?_ : ∀ x : Int, Q (.int (x % n)) _) _
    obtain ⟨r, e, hr'⟩ := rr x
    rw [e]
    exact k r _ hr' ⟨_, _, _, mput_same⟩ Km.refl.put
theorem D__law_pick {P : Program} {w : World} {K : PySem.W.Frag} {mg : Str → Option Value} {base : Heap} {C_Procedure : Addr} {C_Program : Addr} {C_Space : Addr} {C_Look : Addr} {C_Reckoner : Addr} {C_InvalidProgram : Addr} {C_InvalidMeaning : Addr} {C_InvalidOperation : Addr} {C_InvalidNumber : Addr} {c__law_right : Addr} {P__law_right : Addr} (A : Facts K C_Procedure C_Program C_Space C_Look C_Reckoner C_InvalidProgram C_InvalidMeaning C_InvalidOperation C_InvalidNumber c__law_right P__law_right) (M : MgOf K mg) (Z : Zs mg) (D__law_dip : KnD P w K mg base "_law_dip" 1 ["_law_pail_here", "_law_total"] spCast) : KnD P w K mg base "_law_pick" 2 ["_law_pail_here", "_law_items"] spPick := by
  refine KnD.of A.d__law_pick M sc__law_pick (fun _ _ _ _ _ _ us hl => match us, hl with | [_, _], _ => rfl) (fun ds M Q E ⟨_, _, h, _⟩ => by rw [h]; rfl) (fun f cdv A0 outer s H E hr => ?_)
  have hu := U.hu_of hr
  have hu1 := U.hu1_of hr
  have nd := sc__law_pick.nd
  refine ⟨_, (z_one (z_ret (d_ix (dn 1) (d_call D__law_dip (hr.mono (by decide)) (d_cons (dn 0) (d_cons (d_b Z.len b_len c_dlen (d_cons (dn 1) d_nil)) d_nil)))))), ?_⟩
  rintro ds M Q Ed ⟨d, xs, rfl, hd, h0, h1, k⟩
  refine ⟨d, xs.length, rfl, hd, h0, by omega, fun r M' hr hd' km => ?_⟩
  exact ⟨_, atI_nat (List.getElem?_eq_getElem hr), k _ _ (List.getElem_mem hr) hd' km⟩
mutual
def pvB : Da → Bool
  | .non => true
  | .bl _ => true
  | .int _ => true
  | .str z => decide (z.length ≤ 1000)
  | .lst xs => decide (xs.length ≤ 5000) && pvBs xs
  | .tup xs => decide (xs.length ≤ 5000) && pvBs xs
  | .dct _ => true
  | _ => false
def pvBs : List Da → Bool
  | [] => true
  | x :: xs => pvB x && pvBs xs
end
mutual
theorem pv_of : ∀ {x : Da}, pvB x = true → pv x
  | .non, _ => .non
  | .bl b, _ => .bl b
  | .int i, _ => .int i
  | .str z, h => .str z (of_decide_eq_true h)
  | .lst xs, h => by
    have h' : (decide (xs.length ≤ 5000) && pvBs xs) = true := by simpa [pvB] using h
    rw [Bool.and_eq_true, decide_eq_true_eq] at h'
    exact .lst xs h'.1 (pvs_of h'.2)
  | .tup xs, h => by
    have h' : (decide (xs.length ≤ 5000) && pvBs xs) = true := by simpa [pvB] using h
    rw [Bool.and_eq_true, decide_eq_true_eq] at h'
    exact .tup xs h'.1 (pvs_of h'.2)
  | .dct k, _ => .dct k
  | .obj _ _, h => by simp [pvB] at h
  | .ref _, h => by simp [pvB] at h
  | .ty _, h => by simp [pvB] at h
theorem pvs_of : ∀ {xs : List Da}, pvBs xs = true → ∀ x ∈ xs, pv x
  | [], _, x, hx => nomatch hx
  | y :: ys, h, x, hx => by
    have h' : (pvB y && pvBs ys) = true := by simpa [pvBs] using h
    rw [Bool.and_eq_true] at h'
    rcases List.mem_cons.mp hx with e | hx
    · rw [e]; exact pv_of h'.1
    · exact pvs_of h'.2 x hx
end

def tbF (n a b : Nat) : List Da := (List.range n).map fun i => if i = a then .int (b : Int) else .non
def deedF (n a b : Nat) : Da := .tup [.str "do", .str "go", .tup (tbF n a b)]
def spDeedFrom : DSp := fun ds M Q _ => ∃ (n a b : Nat), ds = [.int n, .int a, .int b] ∧ n ≤ 100 ∧ Q (deedF n a b) M
theorem D_deed_from {P : Program} {w : World} {K : PySem.W.Frag} {mg : Str → Option Value} {base : Heap} {C_Procedure : Addr} {C_Program : Addr} {C_Space : Addr} {C_Look : Addr} {C_Reckoner : Addr} {C_InvalidProgram : Addr} {C_InvalidMeaning : Addr} {C_InvalidOperation : Addr} {C_InvalidNumber : Addr} {c__law_right : Addr} {P__law_right : Addr} (A : Facts K C_Procedure C_Program C_Space C_Look C_Reckoner C_InvalidProgram C_InvalidMeaning C_InvalidOperation C_InvalidNumber c__law_right P__law_right) (M : MgOf K mg) (Z : Zs mg)  : KnD P w K mg base "deed_from" 1 ["modes", "mode", "end"] spDeedFrom := by
  refine KnD.of A.d_deed_from M sc_deed_from (fun _ _ _ _ _ _ us hl => match us, hl with | [_, _, _], _ => rfl) (fun ds M Q E ⟨_, _, _, h, _⟩ => by rw [h]; rfl) (fun f cdv A0 outer s H E hr => ?_)
  have hu := U.hu_of hr
  have hu1 := U.hu1_of hr
  have nd := sc_deed_from.nd
  refine ⟨_, (z_one (z_ret (d_tup (d_cons d_str (d_cons (d_gs Z.c_GO) (d_cons (d_t Z.tuple b_tuple c_dtuple (d_cons (d_lc (own := [("one", 3)]) (c := (.n 3)) rfl nd (d_rg1 Z.range (d_cons (dn 0) d_nil)) (blkOk_by (own := [("one", 3)]) (N := N_deed_from) (sc := defScope s_deed_from) (by decide +kernel)) (fun _ _ _ _ _ => (gn 3 nd)) (fun _ _ _ _ _ => d_ts0) (fun _ _ _ _ _ => (d_if (d_tcm (o_deq hu) (dn 3) (dn 1)) (dn 2) d_non))) d_nil)) d_nil)))))), ?_⟩
  rintro ds M Q Ed ⟨n, a, b, rfl, hn, q⟩
  refine ⟨rok (by omega) (by omega), ?_⟩
  rw [rngD0' (n := n) rfl]
  refine ⟨sz (by rw [List.length_map, List.length_range]; omega), lcD_all (fun i : Nat => if i = a then .int (b : Int) else .non) (fun _ _ => trivial) (fun i hi Q q => ?_) ?_⟩
  · by_cases c : i = a
    · subst c; rw [if_pos rfl] at q; exact ifT (decide_eq_true rfl) q
    · rw [if_neg c] at q; exact ifF (by rw [decide_eq_false (fun e => c (by omega))]; decide) q
  · exact ⟨rfl, q⟩
def eithF (n : Nat) : List Da → Da
  | [] => .tup [.str "do", .str "go", .tup (List.replicate n .non)]
  | ts => .tup (.str "or" :: ts)
def spEithF : DSp := fun ds M Q _ => ∃ (n : Nat) (ts : List Da), ds = [.int n, .lst ts] ∧ 1 ≤ n ∧ n ≤ 100 ∧ ts.length ≤ 1000 ∧ Q (eithF n ts) M
theorem D_either_of {P : Program} {w : World} {K : PySem.W.Frag} {mg : Str → Option Value} {base : Heap} {C_Procedure : Addr} {C_Program : Addr} {C_Space : Addr} {C_Look : Addr} {C_Reckoner : Addr} {C_InvalidProgram : Addr} {C_InvalidMeaning : Addr} {C_InvalidOperation : Addr} {C_InvalidNumber : Addr} {c__law_right : Addr} {P__law_right : Addr} (A : Facts K C_Procedure C_Program C_Space C_Look C_Reckoner C_InvalidProgram C_InvalidMeaning C_InvalidOperation C_InvalidNumber c__law_right P__law_right) (M : MgOf K mg) (Z : Zs mg)  : KnD P w K mg base "either_of" 1 ["modes", "terms"] spEithF := by
  refine KnD.of A.d_either_of M sc_either_of (fun _ _ _ _ _ _ us hl => match us, hl with | [_, _], _ => rfl) (fun ds M Q E ⟨_, _, h, _⟩ => by rw [h]; rfl) (fun f cdv A0 outer s H E hr => ?_)
  have hu := U.hu_of hr
  have hu1 := U.hu1_of hr
  have nd := sc_either_of.nd
  refine ⟨_, (z_cons (z_if (d_tcm (o_deqL hu) (dn 1) (d_lst d_nil)) (z_one (z_ret (d_tup (d_cons d_str (d_cons (d_gs Z.c_GO) (d_cons (d_op o_dmulB (d_tup (d_cons d_non d_nil)) (dn 0)) d_nil)))))) z_nil)
      (z_one (z_ret (d_tup (d_cons d_str (d_star (dn 1) d_nil)))))), ?_⟩
  rintro ds M Q Ed ⟨n, ts, rfl, h1, hn, hl, q⟩
  cases ts with
  | nil =>
    refine ⟨rfl, rfl, by simp, by omega, by omega, by decide, rfl, ?_⟩
    rw [Int.toNat_natCast, List.flatten_replicate_singleton]
    exact q
  | cons t ts =>
    exact ⟨rfl, sz (by simp only [List.length_cons, List.length_append, List.length_nil] at hl ⊢; omega), by rw [List.append_nil]; exact q⟩
def blkF (n r : Nat) : Da := eithF n ((cel r).map fun k => deedF n (k / n) (k % n))
def spBlockIn (C : Addr) : DSp := fun ds M Q _ => ∃ (n r : Nat), ds = [Spc C n false, .int r] ∧ OkN n ∧ r < 2 ^ (n * n) ∧ Q (blkF n r) M
theorem D_block_in {P : Program} {w : World} {K : PySem.W.Frag} {mg : Str → Option Value} {base : Heap} {C_Procedure : Addr} {C_Program : Addr} {C_Space : Addr} {C_Look : Addr} {C_Reckoner : Addr} {C_InvalidProgram : Addr} {C_InvalidMeaning : Addr} {C_InvalidOperation : Addr} {C_InvalidNumber : Addr} {c__law_right : Addr} {P__law_right : Addr} (A : Facts K C_Procedure C_Program C_Space C_Look C_Reckoner C_InvalidProgram C_InvalidMeaning C_InvalidOperation C_InvalidNumber c__law_right P__law_right) (M : MgOf K mg) (Z : Zs mg) (D_either_of : KnD P w K mg base "either_of" 1 ["modes", "terms"] spEithF) (D_Space_pairs : KnMD P w K mg base C_Space "pairs" 5 ["self", "relation"] (spPairsM C_Space)) (D_deed_from : KnD P w K mg base "deed_from" 1 ["modes", "mode", "end"] spDeedFrom) : KnD P w K mg base "block_in" 6 ["space", "relation"] (spBlockIn C_Space) := by
  refine KnD.of A.d_block_in M sc_block_in (fun _ _ _ _ _ _ us hl => match us, hl with | [_, _], _ => rfl) (fun ds M Q E ⟨_, _, h, _⟩ => by rw [h]; rfl) (fun f cdv A0 outer s H E hr => ?_)
  have hu := U.hu_of hr
  have hu1 := U.hu1_of hr
  have nd := sc_block_in.nd
  refine ⟨_, (z_one (z_ret (d_call D_either_of (hr.mono (by decide)) (d_cons (d_fld A.cls_Space.cl A.n_Space_own_modes (dn 0)) (d_cons (d_lc (own := [("pair", 2)]) (c := (.n 2)) rfl nd (d_it (d_meth D_Space_pairs A.cls_Space.cl (hr.mono (by decide)) (dn 0) (d_cons (dn 1) d_nil))) (blkOk_by (own := [("pair", 2)]) (N := N_block_in) (sc := defScope s_block_in) (by decide +kernel)) (fun _ _ _ _ _ => (gn 2 nd)) (fun _ _ _ _ _ => d_ts0) (fun _ _ _ _ _ => (d_callS D_deed_from (hr.mono (by decide)) (d_cons (d_fld A.cls_Space.cl A.n_Space_own_modes (dn 0)) (d_star (dn 2) d_nil))))) d_nil))))), ?_⟩
  rintro ds M Q Ed ⟨n, r, rfl, hn, hr', q⟩
  have e : endsN n false = n := rfl
  have hn3 := hn.2
  have hl := cel_len r
  refine ⟨rfl, _, rfl, ⟨rfl, rfl⟩, n, false, r, rfl, hn, hr', sz (by rw [List.length_map]; omega), ?_⟩
  refine lcD_all (fun k : Nat => deedF n (k / n) (k % n)) (fun _ _ => trivial) (fun k hk Q q => ?_) ?_
  · refine ⟨rfl, _, rfl, n, k / n, k % n, rfl, by omega, q⟩
  · refine ⟨n, _, rfl, hn.1, by omega, by rw [List.length_map]; omega, q⟩

end K68
set_option Elab.async false
set_option linter.all false
set_option maxRecDepth 100000
set_option maxHeartbeats 4000000




namespace K68
open PySem PySem.Spec PyProof.Rows L2 U
def spHasL : DSp := fun ds M Q _ => ∃ (n r m e : Nat), ds = [.int n, .int r, .int m, .int e] ∧ n ≤ 3 ∧ m * n + e < 9 ∧ Q (.bl (r.testBit (m * n + e))) M
def spBitL : DSp := fun ds M Q _ => ∃ (n m e : Nat), ds = [.int n, .int m, .int e] ∧ n ≤ 3 ∧ m * n + e < 9 ∧ Q (.int ((2 ^ (m * n + e) : Nat) : Int)) M
def spSizeL : DSp := fun ds M Q _ => ∃ (n : Nat), ds = [.int n] ∧ OkN n ∧ Q (.int ((2 ^ (n * n) : Nat) : Int)) M
theorem D__law_has {P : Program} {w : World} {K : PySem.W.Frag} {mg : Str → Option Value} {base : Heap} {C_Procedure : Addr} {C_Program : Addr} {C_Space : Addr} {C_Look : Addr} {C_Reckoner : Addr} {C_InvalidProgram : Addr} {C_InvalidMeaning : Addr} {C_InvalidOperation : Addr} {C_InvalidNumber : Addr} {c__law_right : Addr} {P__law_right : Addr} (A : Facts K C_Procedure C_Program C_Space C_Look C_Reckoner C_InvalidProgram C_InvalidMeaning C_InvalidOperation C_InvalidNumber c__law_right P__law_right) (M : MgOf K mg) (Z : Zs mg)  : KnD P w K mg base "_law_has" 1 ["_law_modes", "_law_relation", "_law_mode", "_law_end"] spHasL := by
  refine KnD.of A.d__law_has M sc__law_has (fun _ _ _ _ _ _ us hl => match us, hl with | [_, _, _, _], _ => rfl) (fun ds M Q E ⟨_, _, _, _, h, _⟩ => by rw [h]; rfl) (fun f cdv A0 outer s H E hr => ?_)
  have hu := U.hu_of hr
  have hu1 := U.hu1_of hr
  have nd := sc__law_has.nd
  refine ⟨_, (z_one (z_ret (d_ecm (o_deq hu) (d_op o_dmod (d_op o_ddiv (dn 1) (d_ix (d_lst (d_cons d_int (d_cons d_int (d_cons d_int (d_cons d_int (d_cons d_int (d_cons d_int (d_cons d_int (d_cons d_int (d_cons d_int d_nil)))))))))) (d_op o_dadd (d_op o_dmul (dn 2) (dn 0)) (dn 3)))) d_int) d_int))), ?_⟩
  rintro ds M Q Ed ⟨n, r, m, e, rfl, hn, h, q⟩
  refine ⟨rfl, .inr (by omega), _, pow_at (N := 9) h, pow_lt (by omega), by decide, ?_⟩
  rw [← has_bit] at q
  exact q
theorem D__law_bit {P : Program} {w : World} {K : PySem.W.Frag} {mg : Str → Option Value} {base : Heap} {C_Procedure : Addr} {C_Program : Addr} {C_Space : Addr} {C_Look : Addr} {C_Reckoner : Addr} {C_InvalidProgram : Addr} {C_InvalidMeaning : Addr} {C_InvalidOperation : Addr} {C_InvalidNumber : Addr} {c__law_right : Addr} {P__law_right : Addr} (A : Facts K C_Procedure C_Program C_Space C_Look C_Reckoner C_InvalidProgram C_InvalidMeaning C_InvalidOperation C_InvalidNumber c__law_right P__law_right) (M : MgOf K mg) (Z : Zs mg)  : KnD P w K mg base "_law_bit" 1 ["_law_modes", "_law_mode", "_law_end"] spBitL := by
  refine KnD.of A.d__law_bit M sc__law_bit (fun _ _ _ _ _ _ us hl => match us, hl with | [_, _, _], _ => rfl) (fun ds M Q E ⟨_, _, _, h, _⟩ => by rw [h]; rfl) (fun f cdv A0 outer s H E hr => ?_)
  have hu := U.hu_of hr
  have hu1 := U.hu1_of hr
  have nd := sc__law_bit.nd
  refine ⟨_, (z_one (z_ret (d_ix (d_lst (d_cons d_int (d_cons d_int (d_cons d_int (d_cons d_int (d_cons d_int (d_cons d_int (d_cons d_int (d_cons d_int (d_cons d_int d_nil)))))))))) (d_op o_dadd (d_op o_dmul (dn 1) (dn 0)) (dn 2))))), ?_⟩
  rintro ds M Q Ed ⟨n, m, e, rfl, hn, h, q⟩
  exact ⟨rfl, .inr (by omega), _, pow_at (N := 9) h, q⟩
theorem okn3 {n : Nat} (h : OkN n) : n = 1 ∨ n = 2 ∨ n = 3 := by have := h.1; have := h.2; omega
theorem D__law_size {P : Program} {w : World} {K : PySem.W.Frag} {mg : Str → Option Value} {base : Heap} {C_Procedure : Addr} {C_Program : Addr} {C_Space : Addr} {C_Look : Addr} {C_Reckoner : Addr} {C_InvalidProgram : Addr} {C_InvalidMeaning : Addr} {C_InvalidOperation : Addr} {C_InvalidNumber : Addr} {c__law_right : Addr} {P__law_right : Addr} (A : Facts K C_Procedure C_Program C_Space C_Look C_Reckoner C_InvalidProgram C_InvalidMeaning C_InvalidOperation C_InvalidNumber c__law_right P__law_right) (M : MgOf K mg) (Z : Zs mg)  : KnD P w K mg base "_law_size" 1 ["_law_modes"] spSizeL := by
  refine KnD.of A.d__law_size M sc__law_size (fun _ _ _ _ _ _ us hl => match us, hl with | [_], _ => rfl) (fun ds M Q E ⟨_, h, _⟩ => by rw [h]; rfl) (fun f cdv A0 outer s H E hr => ?_)
  have hu := U.hu_of hr
  have hu1 := U.hu1_of hr
  have nd := sc__law_size.nd
  refine ⟨_, (z_one (z_ret (d_ix (d_lst (d_cons d_int (d_cons d_int (d_cons d_int (d_cons d_int d_nil))))) (dn 0)))), ?_⟩
  rintro ds M Q Ed ⟨n, rfl, h, q⟩
  rcases okn3 h with rfl | rfl | rfl
  · exact ⟨rfl, _, rfl, q⟩
  · exact ⟨rfl, _, rfl, q⟩
  · exact ⟨rfl, _, rfl, q⟩
def spEitherL : DSp := fun ds M Q _ => ∃ (n a b : Nat), ds = [.int n, .int a, .int b] ∧ OkN n ∧ a < 2 ^ (n * n) ∧ b < 2 ^ (n * n) ∧ Q (.int (a ||| b : Nat)) M
theorem cell9 {n m e : Nat} (hn : OkN n) (hm : m < n) (he : e < n) : m * n + e < n * n ∧ n * n ≤ 9 ∧ m * n + e < 9 := by
  have h1 := cell_le (n := n) (E := n) hm he
  have h2 : n * n ≤ 9 := by rcases okn3 hn with rfl | rfl | rfl <;> decide
  exact ⟨h1, h2, by omega⟩
theorem ofB_step {f : Nat → Bool} {k : Nat} {v : Bool} (h : f k = v) : (ofB f k : Int) + ((2 ^ k : Nat) : Int) * (if v = true then 1 else 0) = ((ofB f (k + 1) : Nat) : Int) := by
  have e : ofB f (k + 1) = ofB f k + if f k = true then 2 ^ k else 0 := rfl
  rw [e, h]
  cases v <;> simp
theorem cmul_bit {k : Nat} (h : k ≤ 12) (j : Int) : CMul ((2 ^ k : Nat) : Int) j := .inl ⟨by have := pow_lt h; omega, by have := (pow_lt h).2; omega⟩
theorem D__law_either {P : Program} {w : World} {K : PySem.W.Frag} {mg : Str → Option Value} {base : Heap} {C_Procedure : Addr} {C_Program : Addr} {C_Space : Addr} {C_Look : Addr} {C_Reckoner : Addr} {C_InvalidProgram : Addr} {C_InvalidMeaning : Addr} {C_InvalidOperation : Addr} {C_InvalidNumber : Addr} {c__law_right : Addr} {P__law_right : Addr} (A : Facts K C_Procedure C_Program C_Space C_Look C_Reckoner C_InvalidProgram C_InvalidMeaning C_InvalidOperation C_InvalidNumber c__law_right P__law_right) (M : MgOf K mg) (Z : Zs mg) (D__law_has : KnD P w K mg base "_law_has" 1 ["_law_modes", "_law_relation", "_law_mode", "_law_end"] spHasL) (D__law_bit : KnD P w K mg base "_law_bit" 1 ["_law_modes", "_law_mode", "_law_end"] spBitL) : KnD P w K mg base "_law_either" 2 ["_law_modes", "_law_one", "_law_other"] spEitherL := by
  refine KnD.of A.d__law_either M sc__law_either (fun _ _ _ _ _ _ us hl => match us, hl with | [_, _, _], _ => rfl) (fun ds M Q E ⟨_, _, _, h, _⟩ => by rw [h]; rfl) (fun f cdv A0 outer s H E hr => ?_)
  have hu := U.hu_of hr
  have hu1 := U.hu1_of hr
  have nd := sc__law_either.nd
  refine ⟨_, (z_cons (z_set 3 nd d_int)
      (z_cons (z_for PassesOwn.never rfl (d_rg1 Z.range (d_cons (dn 0) d_nil)) (t_n 4 nd) (z_one (z_for PassesOwn.never rfl (d_rg1 Z.range (d_cons (dn 0) d_nil)) (t_n 5 nd) (z_cons (z_set 6 nd (d_eor (d_call D__law_has (hr.mono (by decide)) (d_cons (dn 0) (d_cons (dn 1) (d_cons (dn 4) (d_cons (dn 5) d_nil))))) (d_one (d_call D__law_has (hr.mono (by decide)) (d_cons (dn 0) (d_cons (dn 2) (d_cons (dn 4) (d_cons (dn 5) d_nil))))))))
      (z_one (z_set 3 nd (d_op o_dadd (dn 3) (d_op o_dmul (d_call D__law_bit (hr.mono (by decide)) (d_cons (dn 0) (d_cons (dn 4) (d_cons (dn 5) d_nil)))) (d_t Z.int b_int c_dint (d_cons (dn 6) d_nil))))))))))
      (z_one (z_ret (dn 3))))), ?_⟩
  rintro ds M Q Ed ⟨n, a, b, rfl, hn, ha, hb, q⟩
  have hn2 : n ≤ 3 := hn.2
  generalize hf : (fun k => (a ||| b).testBit k) = f
  have q : Q (.int (ofB f (n * n) : Nat)) M := by rw [← hf, ofB_self (or_bits ha hb)]; exact q
  refine ⟨rok (by omega) (by omega), ?_⟩
  refine forD_rng (n := n) (fun j δ M' => M' = M ∧ ∃ u4 u5 u6, δ = [some (.int (n : Nat)), some (.int (a : Nat)), some (.int (b : Nat)), some (.int (ofB f (j * n) : Nat)), u4, u5, u6]) ?_ ?_ ⟨rfl, _, _, _, by rw [Nat.zero_mul]; rfl⟩
  · rintro j δ M' NX hj ⟨rfl, u4, u5, u6, rfl⟩ nx
    refine ⟨rok (by omega) (by omega), ?_⟩
    refine forD_rng (n := n) (fun i δ M'' => M'' = M' ∧ ∃ u5 u6, δ = [some (.int (n : Nat)), some (.int (a : Nat)), some (.int (b : Nat)), some (.int (ofB f (j * n + i) : Nat)), some (.int (j : Nat)), u5, u6]) ?_ ?_ ⟨rfl, _, _, rfl⟩
    · rintro i δ M'' NX2 hi ⟨rfl, u5, u6, rfl⟩ nx2
      obtain ⟨c1, c2, c3⟩ := cell9 hn hj hi
      have hfk : f (j * n + i) = (a.testBit (j * n + i) || b.testBit (j * n + i)) := by rw [← hf]; exact Nat.testBit_or ..
      refine ⟨n, a, j, i, rfl, by omega, c3, ?_⟩
      cases ea : a.testBit (j * n + i) with
      | true =>
        rw [ea, Bool.true_or] at hfk
        refine ifT rfl ⟨n, j, i, rfl, by omega, c3, cmul_bit (by omega) _, ?_⟩
        exact nx2 _ _ ⟨rfl, _, _, congrArg (fun t : Int => [some (Da.int (n : Nat)), some (.int (a : Nat)), some (.int (b : Nat)), some (.int t), some (.int (j : Nat)), some (.int (i : Nat)), _]) (ofB_step hfk)⟩
      | false =>
        rw [ea, Bool.false_or] at hfk
        refine ifF (by decide) ⟨n, b, j, i, rfl, by omega, c3, n, j, i, rfl, by omega, c3, cmul_bit (by omega) _, ?_⟩
        exact nx2 _ _ ⟨rfl, _, _, congrArg (fun t : Int => [some (Da.int (n : Nat)), some (.int (a : Nat)), some (.int (b : Nat)), some (.int t), some (.int (j : Nat)), some (.int (i : Nat)), _]) (ofB_step hfk)⟩
    · rintro δ M'' ⟨rfl, u5, u6, rfl⟩
      exact nx _ _ ⟨rfl, _, _, _, by rw [Nat.succ_mul]⟩
  · rintro δ M' ⟨rfl, u4, u5, u6, rfl⟩
    exact q

def spNo : DSp := fun ds M Q _ => ∃ a : Nat, ds = [.int a] ∧ False
def foO (xs : List (Da × Nat)) (v : Nat) : Nat := xs.foldl (fun acc p => acc ||| p.2) v
def RelB (n : Nat) : Nat → Da → Nat → Prop
  | 0, _, _ => False
  | d + 1, x, v => (∃ a b, a < n ∧ b < n ∧ x = deedF n a b ∧ v = 2 ^ (a * n + b)) ∨ (x = .tup [.str "do", .str "go", .tup (List.replicate n .non)] ∧ v = 0) ∨
    (∃ xs : List (Da × Nat), x = .tup (.str "or" :: xs.map (·.1)) ∧ xs.length ≤ 100 ∧ (∀ p ∈ xs, RelB n d p.1 p.2 ∧ p.2 < 2 ^ (n * n)) ∧ v = foO xs 0)
def spReck (d : Nat) : DSp := fun ds M Q _ => ∃ (n : Nat) (x : Da) (v : Nat), ds = [.int n, x, .dct [], .dct [], .dct []] ∧ OkN n ∧ RelB n d x v ∧ Q (.int (v : Nat)) M
section
variable {P : Program} {w : World} {K : PySem.W.Frag} {mg : Str → Option Value} {base : Heap} {C_Procedure : Addr} {C_Program : Addr} {C_Space : Addr} {C_Look : Addr} {C_Reckoner : Addr} {C_InvalidProgram : Addr} {C_InvalidMeaning : Addr} {C_InvalidOperation : Addr} {C_InvalidNumber : Addr} {c__law_right : Addr} {P__law_right : Addr}
theorem D__law_asked (A : Facts K C_Procedure C_Program C_Space C_Look C_Reckoner C_InvalidProgram C_InvalidMeaning C_InvalidOperation C_InvalidNumber c__law_right P__law_right) (M : MgOf K mg) (Z : Zs mg) : KnD P w K mg base "_law_asked" 1 ["_law_book", "_law_asked_here", "_law_context"] spNo :=
  KnD.never A.d__law_asked M sc__law_asked (fun _ _ _ _ _ _ us hl => match us, hl with | [_, _, _], _ => rfl) fun ds M Q E ⟨_, _, h⟩ => h
theorem D__law_meanings (A : Facts K C_Procedure C_Program C_Space C_Look C_Reckoner C_InvalidProgram C_InvalidMeaning C_InvalidOperation C_InvalidNumber c__law_right P__law_right) (M : MgOf K mg) (Z : Zs mg) : KnD P w K mg base "_law_meanings" 1 ["_law_modes", "_law_some", "_law_mine", "_law_book", "_law_asked_here"] spNo :=
  KnD.never A.d__law_meanings M sc__law_meanings (fun _ _ _ _ _ _ us hl => match us, hl with | [_, _, _, _, _], _ => rfl) fun ds M Q E ⟨_, _, h⟩ => h
theorem D__law_after (A : Facts K C_Procedure C_Program C_Space C_Look C_Reckoner C_InvalidProgram C_InvalidMeaning C_InvalidOperation C_InvalidNumber c__law_right P__law_right) (M : MgOf K mg) (Z : Zs mg) : KnD P w K mg base "_law_after" 1 ["_law_modes", "_law_one", "_law_other"] spNo :=
  KnD.never A.d__law_after M sc__law_after (fun _ _ _ _ _ _ us hl => match us, hl with | [_, _, _], _ => rfl) fun ds M Q E ⟨_, _, h⟩ => h
end
theorem cut1r {α : Type} (a : α) (xs : List α) : U.cutD (a :: xs) (some 1) none = xs := by
  unfold U.cutD
  rw [show HT.sIx (a :: xs).length 0 (some 1) = 1 from by rw [show (1 : Int) = ((1 : Nat) : Int) from rfl, HT.sIx_nat]; simp]
  simp [HT.sIx]
def pE (d : Da) : Bool := match d with
  | .tup [_, .non] => false
  | _ => true
def fE (n : Nat) (d : Da) : Da := match d with
  | .tup [.int m, .int e] => .int ((2 ^ (m.toNat * n + e.toNat) : Nat) : Int)
  | _ => .non
theorem enum_row {n : Nat} (hn : OkN n) {ts : List Da} (h : ts = List.replicate n .non ∨ ∃ a b, a < n ∧ b < n ∧ ts = tbF n a b) : ∀ d ∈ enumD 0 ts, ∃ i : Nat, i < n ∧ (d = .tup [.int (i : Int), .non] ∨ ∃ b : Nat, b < n ∧ d = .tup [.int (i : Int), .int (b : Int)]) := fun d hd => by
  obtain ⟨k, hk⟩ := List.getElem?_of_mem hd
  obtain ⟨y, hy, rfl⟩ := enumD_get hk
  rcases h with rfl | ⟨a, b, ha, hb, rfl⟩
  · have h1 := List.mem_of_getElem? hy
    have h2 := (List.getElem?_eq_some_iff.mp hy).1
    rw [List.length_replicate] at h2
    exact ⟨0 + k, by omega, .inl (by rw [List.eq_of_mem_replicate h1])⟩
  · unfold tbF at hy
    rw [List.getElem?_map] at hy
    have h2 : k < n := by
      apply Classical.byContradiction
      intro c
      rw [List.getElem?_eq_none (by rw [List.length_range]; omega)] at hy
      cases hy
    rw [List.getElem?_range h2] at hy
    have hy : (if k = a then Da.int (b : Int) else .non) = y := Option.some.inj hy
    refine ⟨0 + k, by omega, ?_⟩
    rw [← hy]
    by_cases c : k = a
    · exact .inr ⟨b, hb, by rw [if_pos c]⟩
    · exact .inl (by rw [if_neg c])
theorem enum_sum {n a b : Nat} (hn : OkN n) (ha : a < n) (hb : b < n) : ((enumD 0 (tbF n a b)).filter pE).map (fE n) = [.int ((2 ^ (a * n + b) : Nat) : Int)] := by
  have h1 : a = 0 ∨ a = 1 ∨ a = 2 := by have := hn.2; omega
  have h2 : b = 0 ∨ b = 1 ∨ b = 2 := by have := hn.2; omega
  rcases okn3 hn with rfl | rfl | rfl <;> rcases h1 with rfl | rfl | rfl <;> rcases h2 with rfl | rfl | rfl <;> first | rfl | omega
theorem enum_none {n : Nat} (hn : OkN n) : ((enumD 0 (List.replicate n .non)).filter pE).map (fE n) = [] := by
  rcases okn3 hn with rfl | rfl | rfl <;> rfl
section
variable {P : Program} {w : World} {K : PySem.W.Frag} {mg : Str → Option Value} {base : Heap} {C_Procedure : Addr} {C_Program : Addr} {C_Space : Addr} {C_Look : Addr} {C_Reckoner : Addr} {C_InvalidProgram : Addr} {C_InvalidMeaning : Addr} {C_InvalidOperation : Addr} {C_InvalidNumber : Addr} {c__law_right : Addr} {P__law_right : Addr}
theorem T__law_reckon (A : Facts K C_Procedure C_Program C_Space C_Look C_Reckoner C_InvalidProgram C_InvalidMeaning C_InvalidOperation C_InvalidNumber c__law_right P__law_right) (M : MgOf K mg) (Z : Zs mg) {d : Nat} (D__law_asked : KnD P w K mg base "_law_asked" 1 ["_law_book", "_law_asked_here", "_law_context"] spNo) (D__law_meanings : KnD P w K mg base "_law_meanings" 1 ["_law_modes", "_law_some", "_law_mine", "_law_book", "_law_asked_here"] spNo) (D__law_after : KnD P w K mg base "_law_after" 1 ["_law_modes", "_law_one", "_law_other"] spNo) (D__law_either : KnD P w K mg base "_law_either" 2 ["_law_modes", "_law_one", "_law_other"] spEitherL) (D__law_bit : KnD P w K mg base "_law_bit" 1 ["_law_modes", "_law_mode", "_law_end"] spBitL) (D__law_reckon : KnD P w K mg base "_law_reckon" (d + 5) ["_law_modes", "_law_term", "_law_mine", "_law_book", "_law_asked_here"] (spReck d)) : KnD P w K mg base "_law_reckon" (d + 6) ["_law_modes", "_law_term", "_law_mine", "_law_book", "_law_asked_here"] (spReck (d + 1)) := by
  refine KnD.of A.d__law_reckon M sc__law_reckon (fun _ _ _ _ _ _ us hl => match us, hl with | [_, _, _, _, _], _ => rfl) (fun ds M Q E ⟨_, _, _, h, _⟩ => by rw [h]; rfl) (fun f cdv A0 outer s H E hr => ?_)
  have hu := U.hu_of hr
  have hu1 := U.hu1_of hr
  have nd := sc__law_reckon.nd
  refine ⟨_, (z_cons (z_if (d_tcm (o_deq hu) (d_ix (dn 1) d_int) d_str) (z_one (z_ret (d_b Z.sum b_sum (c_dsum rfl) (d_cons (d_lc (own := [("_law_mode", 8), ("_law_end", 9)]) (c := (.t [8, 9])) rfl nd (d_enum Z.enumerate (d_cons (d_ix (dn 1) d_int) d_nil)) (blkOk_by (own := [("_law_mode", 8), ("_law_end", 9)]) (N := N__law_reckon) (sc := defScope s__law_reckon) (by decide +kernel)) (fun _ _ _ _ _ => (pg_tup rfl (pgs_cons (gn 8 nd) (pgs_cons (gn 9 nd) pgs_nil)))) (fun _ _ _ _ _ => (d_ts1 (d_tcm o_dnotN (dn 9) d_non))) (fun _ _ _ _ _ => (d_call D__law_bit (hr.mono (by omega)) (d_cons (dn 0) (d_cons (dn 8) (d_cons (dn 9) d_nil)))))) d_nil)))) z_nil)
      (z_cons (z_if (d_tcm (o_deq hu) (d_ix (dn 1) d_int) d_str) (z_cons (z_set 5 nd (d_b Z.sum b_sum (c_dsum rfl) (d_cons (d_lc (own := [("_law_mode", 8)]) (c := (.n 8)) rfl nd (d_rg1 Z.range (d_cons (dn 0) d_nil)) (blkOk_by (own := [("_law_mode", 8)]) (N := N__law_reckon) (sc := defScope s__law_reckon) (by decide +kernel)) (fun _ _ _ _ _ => (gn 8 nd)) (fun _ _ _ _ _ => d_ts0) (fun _ _ _ _ _ => (d_call D__law_bit (hr.mono (by omega)) (d_cons (dn 0) (d_cons (dn 8) (d_cons (dn 8) d_nil)))))) d_nil)))
      (z_cons (z_for PassesOwn.never rfl (d_it (d_sl (dn 1) (d_psome d_int) d_pnone)) (t_n 6 nd) (z_one (z_set 5 nd (d_call D__law_after (hr.mono (by omega)) (d_cons (dn 0) (d_cons (dn 5) (d_cons (d_call D__law_reckon (hr.mono (by omega)) (d_cons (dn 0) (d_cons (dn 6) (d_cons (dn 2) (d_cons (dn 3) (d_cons (dn 4) d_nil)))))) d_nil)))))))
      (z_one (z_ret (dn 5))))) z_nil)
      (z_cons (z_if (d_tcm (o_deq hu) (d_ix (dn 1) d_int) d_str) (z_cons (z_set 5 nd d_int)
      (z_cons (z_for PassesOwn.never rfl (d_it (d_sl (dn 1) (d_psome d_int) d_pnone)) (t_n 6 nd) (z_one (z_set 5 nd (d_call D__law_either (hr.mono (by omega)) (d_cons (dn 0) (d_cons (dn 5) (d_cons (d_call D__law_reckon (hr.mono (by omega)) (d_cons (dn 0) (d_cons (dn 6) (d_cons (dn 2) (d_cons (dn 3) (d_cons (dn 4) d_nil)))))) d_nil)))))))
      (z_one (z_ret (dn 5))))) z_nil)
      (z_cons (z_if (d_tcm (o_deq hu) (d_ix (dn 1) d_int) d_str) (z_one (z_ret (d_dix hu (dn 2) (d_ix (dn 1) d_int)))) z_nil)
      (z_cons (z_if (d_tcm (o_deq hu) (d_ix (dn 1) d_int) d_str) (z_one (z_ret (d_call D__law_asked (hr.mono (by omega)) (d_cons (dn 3) (d_cons (dn 4) (d_cons (d_tup (d_cons (d_ix (dn 1) d_int) (d_cons (d_call D__law_meanings (hr.mono (by omega)) (d_cons (dn 0) (d_cons (d_sl (dn 1) (d_psome d_int) d_pnone) (d_cons (dn 2) (d_cons (dn 3) (d_cons (dn 4) d_nil)))))) d_nil))) d_nil)))))) z_nil)
      (z_cons (ps_imp (ps_par (i := 7) (j := 6) rfl nd rfl rfl (by decide) rfl rfl (d_cons (d_ix (dn 1) d_int) (d_cons (d_call D__law_reckon (hr.mono (by omega)) (d_cons (dn 0) (d_cons (d_ix (dn 1) d_int) (d_cons (dn 2) (d_cons (dn 3) (d_cons (dn 4) d_nil)))))) d_nil)) (by rfl)) fun _ _ _ h => li_par h)
      (z_cons (z_if (d_tcm (o_deq hu) (d_ix (dn 7) d_int) d_str) (z_one (z_ret (d_ix (d_dix hu (dn 2) (d_ix (dn 7) d_int)) (dn 6)))) z_nil)
      (z_one (z_ret (d_call D__law_asked (hr.mono (by omega)) (d_cons (dn 3) (d_cons (dn 4) (d_cons (d_tup (d_cons (d_ix (dn 7) d_int) (d_cons (d_op o_dadd (d_call D__law_meanings (hr.mono (by omega)) (d_cons (dn 0) (d_cons (d_sl (dn 7) (d_psome d_int) d_pnone) (d_cons (dn 2) (d_cons (dn 3) (d_cons (dn 4) d_nil)))))) (d_tup (d_cons (dn 6) d_nil))) d_nil))) d_nil))))))))))))), ?_⟩
  rintro ds M Q Ed ⟨n, x, v, rfl, hn, h, q⟩
  have hn2 : n ≤ 3 := hn.2
  rcases h with ⟨a, b, ha, hb, hx, rfl⟩ | ⟨hx, rfl⟩ | ⟨xs, hx, hl, hk, rfl⟩
  · obtain ⟨z, hz, hx⟩ : ∃ z : Str, z = "do" ∧ x = .tup [.str z, .str "go", .tup (tbF n a b)] := ⟨_, rfl, hx⟩
    subst hx
    refine ⟨_, at0, ?_⟩
    refine ifT (decide_eq_true hz) ?_
    refine ⟨_, at2, ?_⟩
    have hrow := enum_row hn (ts := tbF n a b) (.inr ⟨a, b, ha, hb, rfl⟩)
    have hlen : (enumD 0 (tbF n a b)).length ≤ 3 := by rw [enumD_length]; unfold tbF; rw [List.length_map, List.length_range]; exact hn2
    refine ⟨sz (by omega), ?_⟩
    refine lcD_pure pE (fE n) (fun d hd => ?_) (fun d hd hp Q q => ?_) ?_
    · obtain ⟨i, hi, rfl | ⟨b', hb', rfl⟩⟩ := hrow d hd
      · exact ⟨rfl, fun Q q => q⟩
      · exact ⟨rfl, fun Q q => q⟩
    · obtain ⟨i, hi, rfl | ⟨b', hb', rfl⟩⟩ := hrow d hd
      · cases hp
      · exact ⟨n, i, b', rfl, by omega, (cell9 hn hi hb').2.2, q⟩
    rw [enum_sum hn ha hb]
    refine ⟨[((2 ^ (a * n + b) : Nat) : Int)], rfl, ?_⟩
    have e : ([((2 ^ (a * n + b) : Nat) : Int)] : List Int).sum = ((2 ^ (a * n + b) : Nat) : Int) := by simp
    exact (show Q (.int ([((2 ^ (a * n + b) : Nat) : Int)] : List Int).sum) M from by rw [e]; exact q)
  · obtain ⟨z, hz, hx⟩ : ∃ z : Str, z = "do" ∧ x = .tup [.str z, .str "go", .tup (List.replicate n .non)] := ⟨_, rfl, hx⟩
    subst hx
    refine ⟨_, at0, ?_⟩
    refine ifT (decide_eq_true hz) ?_
    refine ⟨_, at2, ?_⟩
    have hrow := enum_row hn (ts := List.replicate n .non) (.inl rfl)
    have hlen : (enumD 0 (List.replicate n .non)).length ≤ 3 := by rw [enumD_length]; rw [List.length_replicate]; exact hn2
    refine ⟨sz (by omega), ?_⟩
    refine lcD_pure pE (fE n) (fun d hd => ?_) (fun d hd hp Q q => ?_) ?_
    · obtain ⟨i, hi, rfl | ⟨b', hb', rfl⟩⟩ := hrow d hd
      · exact ⟨rfl, fun Q q => q⟩
      · exact ⟨rfl, fun Q q => q⟩
    · obtain ⟨i, hi, rfl | ⟨b', hb', rfl⟩⟩ := hrow d hd
      · cases hp
      · exact ⟨n, i, b', rfl, by omega, (cell9 hn hi hb').2.2, q⟩
    rw [enum_none hn]
    exact ⟨[], rfl, q⟩
  · obtain ⟨z, hz, hx⟩ : ∃ z : Str, z = "or" ∧ x = .tup (.str z :: xs.map (·.1)) := ⟨_, rfl, hx⟩
    subst hx
    refine ⟨_, at0, ?_⟩
    refine ifF (by rw [hz]; decide) ?_
    refine ⟨_, at0, ?_⟩
    refine ifF (by rw [hz]; decide) ?_
    refine ⟨_, at0, ?_⟩
    refine ifT (decide_eq_true hz) ?_
    show forD _ _ _ (U.cutD (Da.str z :: xs.map (·.1)) (some 1) none) _ _
    rw [cut1r]
    refine forD_map (f := fun p : Da × Nat => p.1) (fun l δ M' => M' = M ∧ (∀ p ∈ l, p ∈ xs) ∧ ∃ acc u6 u7 u8 u9, δ = [some (.int (n : Nat)), some (.tup (.str z :: xs.map (·.1))), some (.dct []), some (.dct []), some (.dct []), some (.int (acc : Nat)), u6, u7, u8, u9] ∧ acc < 2 ^ (n * n) ∧ foO l acc = foO xs 0) ?_ ?_ ⟨rfl, fun _ h => h, 0, _, _, _, _, rfl, Nat.pos_of_ne_zero (by simp), rfl⟩
    · rintro p l δ M' ⟨rfl, hin, acc, u6, u7, u8, u9, rfl, hacc⟩ nx
      obtain ⟨h1, h2⟩ := hk p (hin p List.mem_cons_self)
      exact ⟨n, p.1, p.2, rfl, hn, h1, n, acc, p.2, rfl, hn, hacc.1, h2, nx _ _ ⟨rfl, fun p' h => hin p' (List.mem_cons_of_mem _ h), acc ||| p.2, _, _, _, _, rfl, or_bits hacc.1 h2, hacc.2⟩⟩
    · rintro δ M' ⟨rfl, hin, acc, u6, u7, u8, u9, rfl, hacc⟩
      have e : acc = foO xs 0 := hacc.2
      rw [e]; exact q
theorem R__law_reckon (A : Facts K C_Procedure C_Program C_Space C_Look C_Reckoner C_InvalidProgram C_InvalidMeaning C_InvalidOperation C_InvalidNumber c__law_right P__law_right) (M : MgOf K mg) (Z : Zs mg) (D__law_asked : KnD P w K mg base "_law_asked" 1 ["_law_book", "_law_asked_here", "_law_context"] spNo) (D__law_meanings : KnD P w K mg base "_law_meanings" 1 ["_law_modes", "_law_some", "_law_mine", "_law_book", "_law_asked_here"] spNo) (D__law_after : KnD P w K mg base "_law_after" 1 ["_law_modes", "_law_one", "_law_other"] spNo) (D__law_either : KnD P w K mg base "_law_either" 2 ["_law_modes", "_law_one", "_law_other"] spEitherL) (D__law_bit : KnD P w K mg base "_law_bit" 1 ["_law_modes", "_law_mode", "_law_end"] spBitL) : ∀ d, KnD P w K mg base "_law_reckon" (d + 5) ["_law_modes", "_law_term", "_law_mine", "_law_book", "_law_asked_here"] (spReck d)
  | 0 => KnD.never A.d__law_reckon M sc__law_reckon (fun _ _ _ _ _ _ us hl => match us, hl with | [_, _, _, _, _], _ => rfl) fun ds M Q E ⟨_, _, _, _, _, h, _⟩ => h
  | d + 1 => T__law_reckon A M Z D__law_asked D__law_meanings D__law_after D__law_either D__law_bit (R__law_reckon A M Z D__law_asked D__law_meanings D__law_after D__law_either D__law_bit d)
theorem D__law_reckon (A : Facts K C_Procedure C_Program C_Space C_Look C_Reckoner C_InvalidProgram C_InvalidMeaning C_InvalidOperation C_InvalidNumber c__law_right P__law_right) (M : MgOf K mg) (Z : Zs mg) (D__law_asked : KnD P w K mg base "_law_asked" 1 ["_law_book", "_law_asked_here", "_law_context"] spNo) (D__law_meanings : KnD P w K mg base "_law_meanings" 1 ["_law_modes", "_law_some", "_law_mine", "_law_book", "_law_asked_here"] spNo) (D__law_after : KnD P w K mg base "_law_after" 1 ["_law_modes", "_law_one", "_law_other"] spNo) (D__law_either : KnD P w K mg base "_law_either" 2 ["_law_modes", "_law_one", "_law_other"] spEitherL) (D__law_bit : KnD P w K mg base "_law_bit" 1 ["_law_modes", "_law_mode", "_law_end"] spBitL) : KnD P w K mg base "_law_reckon" 8 ["_law_modes", "_law_term", "_law_mine", "_law_book", "_law_asked_here"] (spReck 3) := R__law_reckon A M Z D__law_asked D__law_meanings D__law_after D__law_either D__law_bit 3
end

end K68
set_option Elab.async false
set_option linter.all false
set_option maxRecDepth 100000
set_option maxHeartbeats 4000000




namespace K68
open PySem PySem.Spec PyProof.Rows L2 U
def PT : Nat → Da → Prop
  | 0, _ => False
  | d + 1, x => (∃ xs, x = .tup (.str "do" :: .str "go" :: xs)) ∨ (∃ xs, x = .tup (.str "run" :: xs)) ∨ ∃ (z : Str) (xs : List Da), (z = "seq" ∨ z = "or") ∧ x = .tup (.str z :: xs) ∧ xs.length ≤ 5000 ∧ ∀ y ∈ xs, PT d y
def HdOk (y : Da) : Prop := (∃ xs, y = .tup (.str "do" :: .str "go" :: xs)) ∨ ∃ (z : Str) (xs : List Da), (z = "run" ∨ z = "seq" ∨ z = "or") ∧ y = .tup (.str z :: xs)
theorem kidsL_so {z : Str} (h : z = "seq" ∨ z = "or") (xs : List Da) : kidsL z xs = xs := by rcases h with rfl | rfl <;> rfl
theorem PT.hds : ∀ {d : Nat} {x : Da}, PT d x → ∀ y ∈ allF d x, HdOk y
  | 0, _, h, _, _ => h.elim
  | d + 1, x, h, y, hy => by
    rcases h with ⟨xs, rfl⟩ | ⟨xs, rfl⟩ | ⟨z, xs, hz, rfl, _, hk⟩
    · rw [List.mem_singleton.mp (show y ∈ [Da.tup (.str "do" :: .str "go" :: xs)] from hy)]
      exact .inl ⟨xs, rfl⟩
    · rw [List.mem_singleton.mp (show y ∈ [Da.tup (.str "run" :: xs)] from hy)]
      exact .inr ⟨_, xs, .inl rfl, rfl⟩
    · have hy : y ∈ Da.tup (.str z :: xs) :: (kidsL z xs).flatMap (allF d) := hy
      rw [kidsL_so hz] at hy
      rcases List.mem_cons.mp hy with rfl | hy
      · exact .inr ⟨z, xs, hz.elim (fun e => .inr (.inl e)) (fun e => .inr (.inr e)), rfl⟩
      · obtain ⟨w, hw, hy⟩ := List.mem_flatMap.mp hy
        exact PT.hds (hk w hw) y hy
def spLPieces : DSp := fun ds M Q _ => ∃ x n, ds = [x] ∧ PT n x ∧ (allF n x).length ≤ 1000 ∧ ∀ R, R.Perm (allF n x) → Q (.lst R) M
theorem D__law_pieces {P : Program} {w : World} {K : PySem.W.Frag} {mg : Str → Option Value} {base : Heap} {C_Procedure : Addr} {C_Program : Addr} {C_Space : Addr} {C_Look : Addr} {C_Reckoner : Addr} {C_InvalidProgram : Addr} {C_InvalidMeaning : Addr} {C_InvalidOperation : Addr} {C_InvalidNumber : Addr} {c__law_right : Addr} {P__law_right : Addr} (A : Facts K C_Procedure C_Program C_Space C_Look C_Reckoner C_InvalidProgram C_InvalidMeaning C_InvalidOperation C_InvalidNumber c__law_right P__law_right) (M : MgOf K mg) (Z : Zs mg)  : KnD P w K mg base "_law_pieces" 1 ["_law_term"] spLPieces := by
  refine KnD.of A.d__law_pieces M sc__law_pieces (fun _ _ _ _ _ _ us hl => match us, hl with | [_], _ => rfl) (fun ds M Q E ⟨_, _, h, _⟩ => by rw [h]; rfl) (fun f cdv A0 outer s H E hr => ?_)
  have hu := U.hu_of hr
  have hu1 := U.hu1_of hr
  have nd := sc__law_pieces.nd
  refine ⟨_, (z_cons (ps_imp (ps_par (i := 1) (j := 2) rfl nd rfl rfl (by decide) rfl rfl (d_cons (d_lstM (d_cons (dn 0) d_nil)) (d_cons d_int d_nil)) (by rfl)) fun _ _ _ h => li_par h)
      (z_cons (z_while PassesOwn.never (d_tcm o_dlt (dn 2) (d_b Z.len b_len c_dlen (d_cons (dn 1) d_nil))) (z_cons (z_set 3 nd (d_ix (dn 1) (dn 2)))
      (z_cons (z_if (d_tcm (o_din hu1) (d_ix (dn 3) d_int) (d_lst (d_cons d_str (d_cons d_str d_nil)))) (z_one (z_expr (d_extend (dn 1) (d_cons (d_t Z.list b_list c_dlist (d_cons (d_sl (dn 3) (d_psome d_int) d_pnone) d_nil)) d_nil)))) (z_one (z_if (d_tcm (o_din hu1) (d_ix (dn 3) d_int) (d_lst (d_cons d_str (d_cons d_str (d_cons d_str d_nil))))) (z_one (z_expr (d_extend (dn 1) (d_cons (d_t Z.list b_list c_dlist (d_cons (d_sl (dn 3) (d_psome d_int) d_pnone) d_nil)) d_nil)))) z_nil)))
      (z_one (z_set 2 nd (d_op o_dadd (dn 2) d_int))))))
      (z_one (z_retF (d_stl (dn 1)))))), ?_⟩
  rintro ds M Q Ed ⟨x, n, rfl, ok, hl, q⟩
  refine ⟨rfl, fun p hp => ?_⟩
  refine wh_ind (fun k δ M' => ∃ (done : List Da) (todo : List (Nat × Da)), k = (allT todo).length ∧ (∃ u3, δ = [some x, some (.ref p), some (.int done.length), u3]) ∧ M' = mput M p (.lst (done ++ todo.map (·.2))) ∧ (∀ t ∈ todo, PT t.1 t.2) ∧ (done ++ allT todo).Perm (allF n x)) ?_ (n := (allF n x).length) ⟨[], [(n, x)], by simp [allT], ⟨_, rfl⟩, rfl, by simp; exact ok, by simp [allT]⟩
  rintro k δ M' NX ⟨done, todo, rfl, ⟨u3, rfl⟩, rfl, hto, hpm⟩ next
  refine ⟨_, mput_same, ?_⟩
  cases todo with
  | nil =>
    refine ifF (by simp) ?_
    refine ⟨_, mput_same, M, by rw [mdel_put hp]; exact fun _ _ h => h, ?_⟩
    exact q _ (by simpa [allT] using hpm)
  | cons t rest =>
    refine ifT (decide_eq_true (by simp; omega)) ?_
    obtain ⟨t1, t2⟩ := t
    have ht : PT t1 t2 := hto _ List.mem_cons_self
    have hr : ∀ t ∈ rest, PT t.1 t.2 := fun t h => hto t (List.mem_cons_of_mem _ h)
    cases t1 with
    | zero => exact ht.elim
    | succ m =>
    have leaf : allF (m + 1) t2 = [t2] → NX [some x, some (.ref p), some (.int ((done.length : Int) + 1)), some t2] (mput M p (.lst (done ++ (((m + 1, t2) :: rest) : List (Nat × Da)).map (·.2)))) := fun e => by
      refine next _ _ (allT rest).length ?_ ⟨done ++ [t2], rest, rfl, ⟨some t2, by rw [List.length_append]; rfl⟩, by rw [List.append_assoc]; rfl, hr, ?_⟩
      · show _ < (allF (m + 1) t2 ++ allT rest).length
        rw [e, List.length_append]; show _ < 0 + 1 + _; omega
      · rw [List.append_assoc]
        have : [t2] ++ allT rest = allT ((m + 1, t2) :: rest) := by show _ = allF (m + 1) t2 ++ allT rest; rw [e]
        rw [this]; exact hpm
    have hlen := hpm.length_eq
    refine ⟨_, t2, mput_same, atI_nat (by simp), ?_⟩
    rcases ht with ⟨xs, rfl⟩ | ⟨xs, rfl⟩ | ⟨z, xs, hz, rfl, hxl, hk⟩
    · refine ⟨_, at0, sz (by decide), rfl, ?_⟩
      refine ifF (show ¬ inD (.str "do") [.str "call", .str "with"] = true by decide +kernel) ?_
      refine ⟨_, at0, sz (by decide), rfl, ?_⟩
      refine ifF (show ¬ inD (.str "do") [.str "seq", .str "or", .str "wrap"] = true by decide +kernel) ?_
      exact leaf rfl
    · refine ⟨_, at0, sz (by decide), rfl, ?_⟩
      refine ifF (show ¬ inD (.str "run") [.str "call", .str "with"] = true by decide +kernel) ?_
      refine ⟨_, at0, sz (by decide), rfl, ?_⟩
      refine ifF (show ¬ inD (.str "run") [.str "seq", .str "or", .str "wrap"] = true by decide +kernel) ?_
      exact leaf rfl
    · have go : flat2 (.str z) [.str "call", .str "with"] = true ∧ ¬ inD (.str z) [.str "call", .str "with"] = true ∧ flat2 (.str z) [.str "seq", .str "or", .str "wrap"] = true ∧ inD (.str z) [.str "seq", .str "or", .str "wrap"] = true := by
        rcases hz with rfl | rfl <;> decide +kernel
      obtain ⟨f1, f2, f3, f4⟩ := go
      refine ⟨_, at0, sz (by decide), by rw [f1]; rfl, ?_⟩
      refine ifF f2 ?_
      refine ⟨_, at0, sz (by decide), by rw [f3]; rfl, ?_⟩
      refine ifT f4 ?_
      have hcons : allT ((m + 1, .tup (.str z :: xs)) :: rest) = (.tup (.str z :: xs) :: xs.flatMap (allF m)) ++ allT rest := by
        show (_ :: (kidsL z xs).flatMap (allF m)) ++ allT rest = _
        rw [kidsL_so hz]
      have happ : allT (rest ++ xs.map fun y => (m, y)) = allT rest ++ xs.flatMap (allF m) := by
        unfold allT
        rw [List.flatMap_append, List.flatMap_map]
      have hrl := allT_len rest
      have hxl2 := allT_len (xs.map fun y => (m, y))
      refine ⟨⟨p, _, rfl, mput_same⟩, ?_⟩
      have hc : U.cutD (Da.str z :: xs) (some 1) none = xs := cut1r _ _
      refine ⟨_, mput_same, ?_, ?_⟩
      · show Sz (_ + (U.cutD (Da.str z :: xs) (some 1) none).length)
        rw [hc]
        refine sz ?_
        rw [hcons] at hlen
        rw [List.length_map] at hxl2
        have hfm : (allT (xs.map fun y => (m, y))).length = (xs.flatMap (allF m)).length := by unfold allT; rw [List.flatMap_map]
        simp only [List.length_append, List.length_cons, List.length_map, List.map_cons] at hlen hfm hxl2 ⊢
        omega
      · rw [mput_put]
        show NX _ (mput M p (.lst (_ ++ U.cutD (Da.str z :: xs) (some 1) none)))
        rw [hc]
        refine next _ _ (allT (rest ++ xs.map fun y => (m, y))).length ?_ ⟨done ++ [.tup (.str z :: xs)], rest ++ xs.map fun y => (m, y), rfl, ⟨some (.tup (.str z :: xs)), ?_⟩, ?_, ?_, ?_⟩
        · rw [hcons, happ]
          simp only [List.length_append, List.length_cons]
          omega
        · rw [List.length_append]
          rfl
        · rw [List.map_append, List.map_map]
          simp [Function.comp_def]
        · intro t h
          rcases List.mem_append.mp h with h | h
          · exact hr t h
          · obtain ⟨y, hy, rfl⟩ := List.mem_map.mp h
            exact hk y hy
        · rw [happ]
          rw [hcons] at hpm
          refine List.Perm.trans ?_ hpm
          rw [List.append_assoc]
          refine List.Perm.append_left _ ?_
          exact List.Perm.cons _ (show (allT rest ++ List.flatMap (allF m) xs).Perm (List.flatMap (allF m) xs ++ allT rest) from List.perm_append_comm)
def depF : Nat → Da → Nat
  | 0, _ => 1
  | d + 1, .tup (.str z :: xs) => if z = "seq" ∨ z = "or" then 1 + (xs.map (depF d)).foldr max 0 else 1
  | _ + 1, _ => 1
theorem foldr_max_le {l : List Nat} {k : Nat} (h : ∀ y ∈ l, y ≤ k) : l.foldr max 0 ≤ k := by
  induction l with
  | nil => exact Nat.zero_le _
  | cons a l ih =>
    rw [List.foldr_cons]
    exact Nat.max_le.mpr ⟨h a List.mem_cons_self, ih fun y hy => h y (List.mem_cons_of_mem _ hy)⟩
theorem le_foldr_max {l : List Nat} : ∀ y ∈ l, y ≤ l.foldr max 0 := by
  induction l with
  | nil => intro y hy; cases hy
  | cons a l ih =>
    intro y hy
    rw [List.foldr_cons]
    rcases List.mem_cons.mp hy with rfl | hy
    · exact Nat.le_max_left _ _
    · exact Nat.le_trans (ih y hy) (Nat.le_max_right _ _)
theorem depF_le : ∀ {d : Nat} {x : Da}, PT d x → depF d x ≤ d
  | 0, _, h => h.elim
  | d + 1, x, h => by
    rcases h with ⟨xs, rfl⟩ | ⟨xs, rfl⟩ | ⟨z, xs, hz, rfl, _, hk⟩
    · exact Nat.succ_le_succ (Nat.zero_le _)
    · exact Nat.succ_le_succ (Nat.zero_le _)
    · show (if z = "seq" ∨ z = "or" then 1 + (xs.map (depF d)).foldr max 0 else 1) ≤ _
      rw [if_pos hz]
      have := foldr_max_le (l := xs.map (depF d)) (k := d) fun y hy => by
        obtain ⟨w, hw, rfl⟩ := List.mem_map.mp hy
        exact depF_le (hk w hw)
      omega
def spDepth (d : Nat) : DSp := fun ds M Q _ => ∃ x, ds = [x] ∧ PT d x ∧ Q (.int (depF d x : Nat)) M
section
variable {P : Program} {w : World} {K : PySem.W.Frag} {mg : Str → Option Value} {base : Heap} {C_Procedure : Addr} {C_Program : Addr} {C_Space : Addr} {C_Look : Addr} {C_Reckoner : Addr} {C_InvalidProgram : Addr} {C_InvalidMeaning : Addr} {C_InvalidOperation : Addr} {C_InvalidNumber : Addr} {c__law_right : Addr} {P__law_right : Addr}
theorem T__law_depth (A : Facts K C_Procedure C_Program C_Space C_Look C_Reckoner C_InvalidProgram C_InvalidMeaning C_InvalidOperation C_InvalidNumber c__law_right P__law_right) (M : MgOf K mg) (Z : Zs mg) {d : Nat} (D__law_depth : KnD P w K mg base "_law_depth" (d + 5) ["_law_term"] (spDepth d)) : KnD P w K mg base "_law_depth" (d + 6) ["_law_term"] (spDepth (d + 1)) := by
  refine KnD.of A.d__law_depth M sc__law_depth (fun _ _ _ _ _ _ us hl => match us, hl with | [_], _ => rfl) (fun ds M Q E ⟨_, h, _⟩ => by rw [h]; rfl) (fun f cdv A0 outer s H E hr => ?_)
  have hu := U.hu_of hr
  have hu1 := U.hu1_of hr
  have nd := sc__law_depth.nd
  refine ⟨_, (z_cons (z_if (d_tcm (o_din hu1) (d_ix (dn 0) d_int) (d_lst (d_cons d_str (d_cons d_str d_nil)))) (z_one (z_ret (d_op o_dadd d_int (d_b Z.max b_max (c_dmaxL rfl) (d_cons (d_op o_dadd (d_lst (d_cons d_int d_nil)) (d_lc (own := [("_law_inner", 1)]) (c := (.n 1)) rfl nd (d_it (d_sl (dn 0) (d_psome d_int) d_pnone)) (blkOk_by (own := [("_law_inner", 1)]) (N := N__law_depth) (sc := defScope s__law_depth) (by decide +kernel)) (fun _ _ _ _ _ => (gn 1 nd)) (fun _ _ _ _ _ => d_ts0) (fun _ _ _ _ _ => (d_call D__law_depth (hr.mono (by omega)) (d_cons (dn 1) d_nil))))) d_nil))))) z_nil)
      (z_one (z_ret d_int))), ?_⟩
  rintro ds M Q Ed ⟨x, rfl, ok, q⟩
  rcases ok with ⟨xs, rfl⟩ | ⟨xs, rfl⟩ | ⟨z, xs, hz, rfl, hxl, hk⟩
  · refine ⟨_, at0, sz (by decide), rfl, ?_⟩
    refine ifF (show ¬ inD (.str "do") [.str "seq", .str "or"] = true by decide +kernel) ?_
    exact q
  · refine ⟨_, at0, sz (by decide), rfl, ?_⟩
    refine ifF (show ¬ inD (.str "run") [.str "seq", .str "or"] = true by decide +kernel) ?_
    exact q
  · have go : flat2 (.str z) [.str "seq", .str "or"] = true ∧ inD (.str z) [.str "seq", .str "or"] = true := by
      rcases hz with rfl | rfl <;> decide +kernel
    refine ⟨_, at0, sz (by decide), by rw [go.1]; rfl, ?_⟩
    refine ifT go.2 ?_
    refine ⟨sz (by decide), ?_⟩
    show Sz (U.cutD (Da.str z :: xs) (some 1) none).length ∧ lcD _ _ _ _ (U.cutD (Da.str z :: xs) (some 1) none) _ _
    rw [cut1r]
    refine ⟨sz (by omega), ?_⟩
    refine lcD_same (fun y => .int (depF d y : Nat)) (fun _ _ => trivial) (fun y hy Q q => ⟨y, rfl, hk y hy, q⟩) ?_
    refine ⟨sz (by simp; omega), 0 :: xs.map fun y => (depF d y : Int), ?_, by simp, fun m hm hle => ?_⟩
    · have := asInts_fun (fun y => (depF d y : Int)) xs
      show (asInts (Da.int 0 :: xs.map fun y => .int (depF d y : Nat))) = _
      simp [asInts, this]
    · have e : m = ((xs.map (depF d)).foldr max 0 : Nat) := by
        have h1 : ∀ y ∈ xs, (depF d y : Int) ≤ m := fun y hy => hle _ (List.mem_cons_of_mem _ (List.mem_map_of_mem hy))
        have h0 : (0 : Int) ≤ m := hle 0 List.mem_cons_self
        have h2 : (xs.map (depF d)).foldr max 0 ≤ m.toNat := foldr_max_le fun y hy => by
          obtain ⟨v, hv, rfl⟩ := List.mem_map.mp hy
          have := h1 v hv
          omega
        have h3 : m.toNat ≤ (xs.map (depF d)).foldr max 0 := by
          rcases List.mem_cons.mp hm with e | hm
          · rw [e]; exact Nat.zero_le _
          · obtain ⟨v, hv, rfl⟩ := List.mem_map.mp hm
            exact le_foldr_max _ (List.mem_map_of_mem hv)
        omega
      subst e
      have q : Q (.int ((if z = "seq" ∨ z = "or" then 1 + (xs.map (depF d)).foldr max 0 else 1 : Nat) : Int)) M := q
      rw [if_pos hz] at q
      rw [Int.natCast_add] at q
      exact q
theorem R__law_depth (A : Facts K C_Procedure C_Program C_Space C_Look C_Reckoner C_InvalidProgram C_InvalidMeaning C_InvalidOperation C_InvalidNumber c__law_right P__law_right) (M : MgOf K mg) (Z : Zs mg) : ∀ d, KnD P w K mg base "_law_depth" (d + 5) ["_law_term"] (spDepth d)
  | 0 => KnD.never A.d__law_depth M sc__law_depth (fun _ _ _ _ _ _ us hl => match us, hl with | [_], _ => rfl) fun ds M Q E ⟨_, _, h, _⟩ => h
  | d + 1 => T__law_depth A M Z (R__law_depth A M Z d)
theorem D__law_depth (A : Facts K C_Procedure C_Program C_Space C_Look C_Reckoner C_InvalidProgram C_InvalidMeaning C_InvalidOperation C_InvalidNumber c__law_right P__law_right) (M : MgOf K mg) (Z : Zs mg) : KnD P w K mg base "_law_depth" 11 ["_law_term"] (spDepth 6) := R__law_depth A M Z 6
end

def wordsL : Da := .lst [.str "do", .str "seq", .str "or"]
def spPlain : DSp := fun ds M Q _ => ∃ x, ds = [x, wordsL] ∧ PT 6 x ∧ (∀ y ∈ allF 6 x, ∀ xs, y ≠ .tup (.str "run" :: xs)) ∧ (allF 6 x).length ≤ 40 ∧ Q (.bl true) M
theorem D__law_is_plain {P : Program} {w : World} {K : PySem.W.Frag} {mg : Str → Option Value} {base : Heap} {C_Procedure : Addr} {C_Program : Addr} {C_Space : Addr} {C_Look : Addr} {C_Reckoner : Addr} {C_InvalidProgram : Addr} {C_InvalidMeaning : Addr} {C_InvalidOperation : Addr} {C_InvalidNumber : Addr} {c__law_right : Addr} {P__law_right : Addr} (A : Facts K C_Procedure C_Program C_Space C_Look C_Reckoner C_InvalidProgram C_InvalidMeaning C_InvalidOperation C_InvalidNumber c__law_right P__law_right) (M : MgOf K mg) (Z : Zs mg) (D__law_pieces : KnD P w K mg base "_law_pieces" 1 ["_law_term"] spLPieces) (D__law_depth : KnD P w K mg base "_law_depth" 11 ["_law_term"] (spDepth 6)) : KnD P w K mg base "_law_is_plain" 12 ["_law_term", "_law_words"] spPlain := by
  refine KnD.of A.d__law_is_plain M sc__law_is_plain (fun _ _ _ _ _ _ us hl => match us, hl with | [_, _], _ => rfl) (fun ds M Q E ⟨_, h, _⟩ => by rw [h]; rfl) (fun f cdv A0 outer s H E hr => ?_)
  have hu := U.hu_of hr
  have hu1 := U.hu1_of hr
  have nd := sc__law_is_plain.nd
  refine ⟨_, (z_cons (z_set 2 nd (d_call D__law_pieces (hr.mono (by decide)) (d_cons (dn 0) d_nil)))
      (z_cons (z_if (d_w (d_or (d_tcm o_dgt (d_b Z.len b_len c_dlen (d_cons (dn 2) d_nil)) d_int) (d_or1 (d_tcm o_dgt (d_call D__law_depth (hr.mono (by decide)) (d_cons (dn 0) d_nil)) d_int)))) (z_one (z_ret d_bl)) z_nil)
      (z_cons (z_if (d_tcm (o_dneL hu) (d_lc (own := [("_law_one", 3)]) (c := (.n 3)) rfl nd (d_it (dn 2)) (blkOk_by (own := [("_law_one", 3)]) (N := N__law_is_plain) (sc := defScope s__law_is_plain) (by decide +kernel)) (fun _ _ _ _ _ => (gn 3 nd)) (fun _ _ _ _ _ => (d_ts1 (d_tcm (o_dnin hu1) (d_ix (dn 3) d_int) (dn 1)))) (fun _ _ _ _ _ => (dn 3))) (d_lst d_nil)) (z_one (z_ret d_bl)) z_nil)
      (z_one (z_ret (d_ecm (o_deqL hu) (d_lc (own := [("_law_one", 3)]) (c := (.n 3)) rfl nd (d_it (dn 2)) (blkOk_by (own := [("_law_one", 3)]) (N := N__law_is_plain) (sc := defScope s__law_is_plain) (by decide +kernel)) (fun _ _ _ _ _ => (gn 3 nd)) (fun _ _ _ _ _ => (d_ts1 (d_w (d_and (d_tcm (o_deq hu) (d_ix (dn 3) d_int) d_str) (d_and1 (d_tcm (o_dne hu) (d_ix (dn 3) d_int) d_str)))))) (fun _ _ _ _ _ => (dn 3))) (d_lst d_nil))))))), ?_⟩
  rintro ds M Q Ed ⟨x, rfl, ok, hnr, hl, q⟩
  refine ⟨x, 6, rfl, ok, by omega, fun R hR => ?_⟩
  have hRl := hR.length_eq
  have hd := depF_le ok
  have h40 : ¬ decide ((40 : Int) < (R.length : Int)) = true := fun h => absurd (of_decide_eq_true h) (by omega)
  refine ifF h40 ?_
  refine ⟨x, rfl, ok, ?_⟩
  have h6 : ¬ decide ((6 : Int) < (depF 6 x : Int)) = true := fun h => absurd (of_decide_eq_true h) (by omega)
  refine ifF h6 ?_
  have hw : ∀ y ∈ R, (∃ xs, y = .tup (.str "do" :: .str "go" :: xs)) ∨ ∃ (z : Str) (xs : List Da), (z = "seq" ∨ z = "or") ∧ y = .tup (.str z :: xs) := fun y hy => by
    rcases ok.hds y (hR.mem_iff.mp hy) with h | ⟨z, xs, hz, rfl⟩
    · exact .inl h
    · rcases hz with rfl | hz
      · exact (hnr _ (hR.mem_iff.mp hy) xs rfl).elim
      · exact .inr ⟨z, xs, hz, rfl⟩
  refine ⟨sz (by omega), lcD_pure (fun _ => false) (fun y => y) (fun y hy => ⟨trivial, fun Q q => ?_⟩) (fun _ _ h => nomatch h) ?_⟩
  · rcases hw y hy with ⟨xs, rfl⟩ | ⟨z, xs, hz, rfl⟩
    · exact ⟨_, at0, rfl, q⟩
    · have go : flat2 (.str z) [.str "do", .str "seq", .str "or"] = true ∧ inD (.str z) [.str "do", .str "seq", .str "or"] = true := by
        rcases hz with rfl | rfl <;> decide +kernel
      refine ⟨_, at0, by rw [go.1]; rfl, ?_⟩
      show Q (!inD (.str z) [.str "do", .str "seq", .str "or"]) M
      rw [go.2]; exact q
  rw [show (R.filter (fun _ => false)).map (fun y : Da => y) = [] from by rw [List.filter_eq_nil_iff.mpr (by simp)]; rfl]
  refine ⟨rfl, ?_⟩
  refine ⟨sz (by omega), lcD_pure (fun _ => false) (fun y => y) (fun y hy => ⟨trivial, fun Q q => ?_⟩) (fun _ _ h => nomatch h) ?_⟩
  · rcases hw y hy with ⟨xs, rfl⟩ | ⟨z, xs, hz, rfl⟩
    · refine ⟨_, at0, ?_⟩
      exact ⟨_, at1, q⟩
    · refine ⟨_, at0, ?_⟩
      have hz2 : z ≠ "do" := by rcases hz with rfl | rfl <;> decide
      refine ifF (fun h => hz2 (of_decide_eq_true h)) q
  rw [show R.filter (fun _ => false) = [] from List.filter_eq_nil_iff.mpr (by simp)]
  exact ⟨rfl, q⟩

end K68
set_option Elab.async false
set_option linter.all false
set_option maxRecDepth 100000
set_option maxHeartbeats 4000000




namespace K68
open PySem PySem.Spec PyProof.Rows L2 U
def spBlockOf (CN : Addr) : DSp := fun ds M Q Ed => ∃ x y, ds = [x, y] ∧ pv x ∧ pv y ∧ ((isFr x 1 3 = false ∧ Ed (.ref CN) [("value", x)] M) ∨ ∃ n : Nat, x = .int n ∧ OkN n ∧
  ((isFr y 0 (((2 ^ (n * n) : Nat) : Int) - 1) = false ∧ Ed (.ref CN) [("value", y)] M) ∨ ∃ r : Nat, y = .int r ∧ r < 2 ^ (n * n) ∧ Q (blkF n r) M))
theorem D_block_of {P : Program} {w : World} {K : PySem.W.Frag} {mg : Str → Option Value} {base : Heap} {C_Procedure : Addr} {C_Program : Addr} {C_Space : Addr} {C_Look : Addr} {C_Reckoner : Addr} {C_InvalidProgram : Addr} {C_InvalidMeaning : Addr} {C_InvalidOperation : Addr} {C_InvalidNumber : Addr} {c__law_right : Addr} {P__law_right : Addr} (A : Facts K C_Procedure C_Program C_Space C_Look C_Reckoner C_InvalidProgram C_InvalidMeaning C_InvalidOperation C_InvalidNumber c__law_right P__law_right) (M : MgOf K mg) (Z : Zs mg) (D_is_from : KnD P w K mg base "is_from" 2 ["value", "first", "last"] spIsFrom) (D_InvalidNumber___init__ : KnErr P w K mg base "InvalidNumber" C_InvalidNumber "value" 1) (D_Space___init__ : KnK P w K mg base C_Space 3 ["self", "modes", "watched"] 2 ["watched"] [.bl false] (spInit C_Space)) (D_Space_require_relation : KnMXD P w K mg base C_Space "require_relation" 4 ["self", "value"] (spReqRelX C_Space C_InvalidNumber)) (D_block_in : KnD P w K mg base "block_in" 6 ["space", "relation"] (spBlockIn C_Space)) : KnXD P w K mg base "block_of" 7 ["modes", "relation"] (spBlockOf C_InvalidNumber) := by
  refine KnXD.of A.d_block_of M sc_block_of (fun _ _ _ _ _ _ us hl => match us, hl with | [_, _], _ => rfl) (fun ds M Q E ⟨_, _, h, _⟩ => by rw [h]; rfl) (fun f cdv A0 outer s H E hr => ?_)
  have hu := U.hu_of hr
  have hu1 := U.hu1_of hr
  have nd := sc_block_of.nd
  refine ⟨_, (z_cons (z_if (d_tnot (d_tv (d_call D_is_from (hr.mono (by decide)) (d_cons (dn 0) (d_cons d_int (d_cons d_int d_nil)))))) (z_one (z_raiseE D_InvalidNumber___init__ (hr.mono (by decide)) (dn 0))) z_nil)
      (z_cons (z_set 2 nd (d_makeD (dfl := [.bl false]) M A.cls_Space D_Space___init__ (fun _ _ => .cons (.bl _) .nil) (hr.mono (by decide)) (d_cons (dn 0) d_nil)))
      (z_cons (z_exprX (x_meth D_Space_require_relation A.cls_Space.cl (hr.mono (by decide)) (dn 2) (x_cons (x_up (dn 1)) x_nil)))
      (z_one (z_ret (d_call D_block_in (hr.mono (by decide)) (d_cons (dn 2) (d_cons (dn 1) d_nil)))))))), ?_⟩
  rintro ds M Q Ed ⟨x, y, rfl, hx, hy, h⟩
  refine ⟨_, _, _, rfl, hx, ?_⟩
  rcases h with ⟨h1, e⟩ | ⟨n, rfl, hn, h⟩
  · rw [show isFr x 1 3 = false from h1]
    exact ifT rfl ⟨x, rfl, M, fun _ _ h => h, e⟩
  have e1 : isFr (.int (n : Int)) 1 3 = true := by
    show (decide _ && decide _) = true
    rw [decide_eq_true (by have := hn.1; omega), decide_eq_true (by have := hn.2; omega)]; rfl
  rw [show isFr _ _ _ = true from e1]
  refine ifF (by decide) fun p hp => ⟨p, n, false, rfl, hn, mput_same, rfl, _, mput_same, ?_⟩
  rw [mput_put, mdel_put hp]
  rcases h with ⟨h1, e⟩ | ⟨r, rfl, hr', q⟩
  · exact ⟨⟨rfl, rfl⟩, n, false, y, rfl, hn, hy, (fun c => by have c' : isFr y 0 (((2 ^ (n * n) : Nat) : Int) - 1) = true := c; rw [h1] at c'; cases c'), fun _ => e⟩
  · exact ⟨⟨rfl, rfl⟩, n, false, _, rfl, hn, hy, (fun _ => ⟨n, r, rfl, hn, hr', q⟩), fun c => by have c' : isFr (.int (r : Int)) 0 (((2 ^ (n * n) : Nat) : Int) - 1) = false := c; rw [isFr_rel hr'] at c'; cases c'⟩
def lkF : List (Str × Da) := [("own_book", .dct []), ("own_asked", .dct [])]
def Lk (C : Addr) : Da := .obj C lkF
def rkF (C Cp CS : Addr) (m : Nat) (ps : List Pr) : List (Str × Da) := [("own_program", Prg C Cp m ps), ("own_word", .non), ("own_space", Spc CS m false)]
def Rk (CR C Cp CS : Addr) (m : Nat) (ps : List Pr) : Da := .obj CR (rkF C Cp CS m ps)
def spLInit (CL : Addr) : DSp := fun ds M Q _ => ∃ p, ds = [.ref p, .dct []] ∧ M p = some (.ins CL []) ∧ Q .non (mput M p (.ins CL lkF))
theorem D_Look___init__ {P : Program} {w : World} {K : PySem.W.Frag} {mg : Str → Option Value} {base : Heap} {C_Procedure : Addr} {C_Program : Addr} {C_Space : Addr} {C_Look : Addr} {C_Reckoner : Addr} {C_InvalidProgram : Addr} {C_InvalidMeaning : Addr} {C_InvalidOperation : Addr} {C_InvalidNumber : Addr} {c__law_right : Addr} {P__law_right : Addr} (A : Facts K C_Procedure C_Program C_Space C_Look C_Reckoner C_InvalidProgram C_InvalidMeaning C_InvalidOperation C_InvalidNumber c__law_right P__law_right) (M : MgOf K mg) (Z : Zs mg)  : KnMD P w K mg base C_Look "__init__" 1 ["self", "book"] (spLInit C_Look) := by
  refine KnMD.of A.m_Look___init__ sc_Look___init__ (fun _ _ _ _ _ _ us hl => match us, hl with | [_, _], _ => rfl) (fun ds M Q E ⟨_, h, _⟩ => by rw [h]; rfl) (fun f cdv A0 outer s H E hr => ?_)
  have hu := U.hu_of hr
  have hu1 := U.hu1_of hr
  have nd := sc_Look___init__.nd
  refine ⟨_, (z_cons (z_sto A.cls_Look.cl A.n_Look_own_book (dn 1) (dn 0))
      (z_one (z_sto A.cls_Look.cl A.n_Look_own_asked d_dct0 (dn 0)))), ?_⟩
  rintro ds M Q Ed ⟨p, rfl, hp, q⟩
  refine ⟨_, hp, rfl, _, mput_same, rfl, ?_⟩
  rw [mput_put]
  exact q
def spRInit (CR C Cp CS : Addr) : DSp := fun ds M Q _ => ∃ p m ps, ds = [.ref p, Prg C Cp m ps, .non] ∧ OkN m ∧ M p = some (.ins CR []) ∧ Q .non (mput M p (.ins CR (rkF C Cp CS m ps)))
theorem D_Reckoner___init__ {P : Program} {w : World} {K : PySem.W.Frag} {mg : Str → Option Value} {base : Heap} {C_Procedure : Addr} {C_Program : Addr} {C_Space : Addr} {C_Look : Addr} {C_Reckoner : Addr} {C_InvalidProgram : Addr} {C_InvalidMeaning : Addr} {C_InvalidOperation : Addr} {C_InvalidNumber : Addr} {c__law_right : Addr} {P__law_right : Addr} (A : Facts K C_Procedure C_Program C_Space C_Look C_Reckoner C_InvalidProgram C_InvalidMeaning C_InvalidOperation C_InvalidNumber c__law_right P__law_right) (M : MgOf K mg) (Z : Zs mg) (D_Space___init__ : KnK P w K mg base C_Space 3 ["self", "modes", "watched"] 2 ["watched"] [.bl false] (spInit C_Space)) : KnMD P w K mg base C_Reckoner "__init__" 5 ["self", "program", "word"] (spRInit C_Reckoner C_Program C_Procedure C_Space) := by
  refine KnMD.of A.m_Reckoner___init__ sc_Reckoner___init__ (fun _ _ _ _ _ _ us hl => match us, hl with | [_, _, _], _ => rfl) (fun ds M Q E ⟨_, _, _, h, _⟩ => by rw [h]; rfl) (fun f cdv A0 outer s H E hr => ?_)
  have hu := U.hu_of hr
  have hu1 := U.hu1_of hr
  have nd := sc_Reckoner___init__.nd
  refine ⟨_, (z_cons (z_sto A.cls_Reckoner.cl A.n_Reckoner_own_program (dn 1) (dn 0))
      (z_cons (z_sto A.cls_Reckoner.cl A.n_Reckoner_own_word (dn 2) (dn 0))
      (z_one (z_sto A.cls_Reckoner.cl A.n_Reckoner_own_space (d_makeK M A.cls_Space D_Space___init__ (hr.mono (by decide)) (d_cons (d_fld A.cls_Program.cl A.n_Program_own_modes (dn 1)) d_nil) (d_kcons (d_ecm o_dnotN (dn 2) d_non) d_knil)) (dn 0))))), ?_⟩
  rintro ds M Q Ed ⟨p, m, ps, rfl, hm, hp, q⟩
  refine ⟨_, hp, rfl, _, mput_same, rfl, ?_⟩
  rw [mput_put]
  refine ⟨rfl, _, rfl, rfl, rfl, fun p2 hp2 => ⟨p2, m, false, rfl, hm, mput_same, rfl, _, mput_same, ?_⟩⟩
  rw [mput_put, mdel_put hp2]
  refine ⟨_, mput_same, rfl, ?_⟩
  rw [mput_put]
  exact q
def valE (n : Nat) (d : Da) : Nat := match d with
  | .tup [.int m, .int e] => 2 ^ (m.toNat * n + e.toNat)
  | _ => 0
def sumE (n : Nat) (l : List Da) : Nat := l.foldr (fun d s => valE n d + s) 0
def spDeed (CR C Cp CS : Addr) : DSp := fun ds M Q _ => ∃ (m : Nat) (ps : List Pr) (ts : List Da) (v : Nat), ds = [Rk CR C Cp CS m ps, .str "go", .tup ts] ∧ OkN m ∧ ((∃ a b, a < m ∧ b < m ∧ ts = tbF m a b ∧ v = 2 ^ (a * m + b)) ∨ (ts = List.replicate m .non ∧ v = 0)) ∧ Q (.int (v : Nat)) M
theorem D_Reckoner_deed {P : Program} {w : World} {K : PySem.W.Frag} {mg : Str → Option Value} {base : Heap} {C_Procedure : Addr} {C_Program : Addr} {C_Space : Addr} {C_Look : Addr} {C_Reckoner : Addr} {C_InvalidProgram : Addr} {C_InvalidMeaning : Addr} {C_InvalidOperation : Addr} {C_InvalidNumber : Addr} {c__law_right : Addr} {P__law_right : Addr} (A : Facts K C_Procedure C_Program C_Space C_Look C_Reckoner C_InvalidProgram C_InvalidMeaning C_InvalidOperation C_InvalidNumber c__law_right P__law_right) (M : MgOf K mg) (Z : Zs mg) (D_Space_bit : KnMD P w K mg base C_Space "bit" 1 ["self", "mode", "end"] (spBit C_Space)) : KnMD P w K mg base C_Reckoner "deed" 2 ["self", "word", "table"] (spDeed C_Reckoner C_Program C_Procedure C_Space) := by
  refine KnMD.of A.m_Reckoner_deed sc_Reckoner_deed (fun _ _ _ _ _ _ us hl => match us, hl with | [_, _, _], _ => rfl) (fun ds M Q E ⟨_, _, _, _, h, _⟩ => by rw [h]; rfl) (fun f cdv A0 outer s H E hr => ?_)
  have hu := U.hu_of hr
  have hu1 := U.hu1_of hr
  have nd := sc_Reckoner_deed.nd
  refine ⟨_, (z_cons (ps_imp (ps_par (i := 3) (j := 4) rfl nd rfl rfl (by decide) rfl rfl (d_cons (d_fld A.cls_Reckoner.cl A.n_Reckoner_own_space (dn 0)) (d_cons d_int d_nil)) (by rfl)) fun _ _ _ h => li_par h)
      (z_cons (z_for PassesOwn.never rfl (d_enum Z.enumerate (d_cons (dn 2) d_nil)) (t_tup rfl (t_cons (t_n 5 nd) (t_cons (t_n 6 nd) t_nil))) (z_one (z_if (d_tcm o_dnotN (dn 6) d_non) (z_one (z_aug (i := 4) nd rfl (.inl rfl) (d_meth D_Space_bit A.cls_Space.cl (hr.mono (by decide)) (dn 3) (d_cons (dn 5) (d_cons (d_if (d_tcm (o_deq hu) (dn 1) (d_fld A.cls_Reckoner.cl A.n_Reckoner_own_word (dn 0))) (d_fld A.cls_Space.cl A.n_Space_own_modes (dn 3)) (dn 6)) d_nil))) i_add)) z_nil)))
      (z_one (z_ret (dn 4))))), ?_⟩
  rintro ds M Q Ed ⟨m, ps, ts, v, rfl, hm, h, q⟩
  refine ⟨rfl, _, rfl, ?_⟩
  have hrow := enum_row hm (ts := ts) (h.symm.imp (·.1) fun ⟨a, b, ha, hb, e, _⟩ => ⟨a, b, ha, hb, e⟩)
  have hsum : sumE m (enumD 0 ts) = v := by
    rcases h with ⟨a, b, ha, hb, rfl, rfl⟩ | ⟨rfl, rfl⟩
    · have h1 : a = 0 ∨ a = 1 ∨ a = 2 := by have := hm.2; omega
      have h2 : b = 0 ∨ b = 1 ∨ b = 2 := by have := hm.2; omega
      rcases okn3 hm with rfl | rfl | rfl <;> rcases h1 with rfl | rfl | rfl <;> rcases h2 with rfl | rfl | rfl <;> first | rfl | omega
    · rcases okn3 hm with rfl | rfl | rfl <;> rfl
  refine forD_ind (fun l δ M' => M' = M ∧ (∀ d ∈ l, d ∈ enumD 0 ts) ∧ ∃ (acc : Nat) (u5 u6 : Option Da), δ = [some (Rk C_Reckoner C_Program C_Procedure C_Space m ps), some (.str "go"), some (.tup ts), some (Spc C_Space m false), some (.int (acc : Nat)), u5, u6] ∧ acc + sumE m l = v) ?_ ?_ ⟨rfl, fun _ h => h, 0, _, _, rfl, by rw [hsum]; omega⟩
  · rintro d l δ M' ⟨rfl, hin, acc, u5, u6, rfl, hacc⟩ nx
    obtain ⟨i, hi, rfl | ⟨b', hb', rfl⟩⟩ := hrow d (hin d List.mem_cons_self)
    · refine ⟨rfl, ?_⟩
      refine nx _ _ ⟨rfl, fun d' h => hin d' (List.mem_cons_of_mem _ h), acc, _, _, rfl, ?_⟩
      have : acc + (0 + sumE m l) = v := hacc
      omega
    · refine ⟨rfl, ?_⟩
      obtain ⟨c1, c2, c3⟩ := cell9 hm hi hb'
      refine ⟨⟨rfl, rfl⟩, rfl, _, rfl, by decide +kernel, by decide +kernel, ?_⟩
      have hne : eqD (.str "go") .non = false := by decide +kernel
      refine ifF (by rw [hne]; decide) ?_
      refine ⟨m, false, i, b', rfl, hm, Nat.le_of_lt c1, ?_⟩
      refine nx _ _ ⟨rfl, fun d' h => hin d' (List.mem_cons_of_mem _ h), acc + 2 ^ (i * m + b'), _, _, by rw [Int.natCast_add]; rfl, ?_⟩
      have : acc + (2 ^ ((i : Int).toNat * m + (b' : Int).toNat) + sumE m l) = v := hacc
      rw [Int.toNat_natCast, Int.toNat_natCast] at this
      omega
  · rintro δ M' ⟨rfl, hin, acc, u5, u6, rfl, hacc⟩
    have e : acc = v := by have : acc + 0 = v := hacc; omega
    subst e
    exact q

end K68
set_option Elab.async false
set_option linter.all false
set_option maxRecDepth 100000
set_option maxHeartbeats 4000000




namespace K68
open PySem PySem.Spec PyProof.Rows L2 U
def spTerm (CR C Cp CS CL : Addr) (d : Nat) : DSp := fun ds M Q _ => ∃ (m : Nat) (ps : List Pr) (x : Da) (v : Nat), ds = [Rk CR C Cp CS m ps, x, .dct [], Lk CL] ∧ OkN m ∧ RelB m d x v ∧ Q (.int (v : Nat)) M
section
variable {P : Program} {w : World} {K : PySem.W.Frag} {mg : Str → Option Value} {base : Heap} {C_Procedure : Addr} {C_Program : Addr} {C_Space : Addr} {C_Look : Addr} {C_Reckoner : Addr} {C_InvalidProgram : Addr} {C_InvalidMeaning : Addr} {C_InvalidOperation : Addr} {C_InvalidNumber : Addr} {c__law_right : Addr} {P__law_right : Addr}
theorem T_term (A : Facts K C_Procedure C_Program C_Space C_Look C_Reckoner C_InvalidProgram C_InvalidMeaning C_InvalidOperation C_InvalidNumber c__law_right P__law_right) (M : MgOf K mg) (Z : Zs mg) {d : Nat} (D_Reckoner_deed : KnMD P w K mg base C_Reckoner "deed" 2 ["self", "word", "table"] (spDeed C_Reckoner C_Program C_Procedure C_Space)) (D_Reckoner_term : KnMD P w K mg base C_Reckoner "term" (d + 5) ["self", "piece", "meanings", "look"] (spTerm C_Reckoner C_Program C_Procedure C_Space C_Look d)) : KnMD P w K mg base C_Reckoner "term" (d + 6) ["self", "piece", "meanings", "look"] (spTerm C_Reckoner C_Program C_Procedure C_Space C_Look (d + 1)) := by
  refine KnMD.of A.m_Reckoner_term sc_Reckoner_term (fun _ _ _ _ _ _ us hl => match us, hl with | [_, _, _, _], _ => rfl) (fun ds M Q E ⟨_, _, _, _, h, _⟩ => by rw [h]; rfl) (fun f cdv A0 outer s H E hr => ?_)
  have hu := U.hu_of hr
  have hu1 := U.hu1_of hr
  have nd := sc_Reckoner_term.nd
  refine ⟨_, (z_cons (z_set 4 nd (d_fld A.cls_Reckoner.cl A.n_Reckoner_own_space (dn 0)))
      (z_cons (z_match rfl nd (dn 1) (.cons (ns' := []) (is := [5, 6]) .one (.cons (.cons .nil)) (Slts.cons (i := 5) rfl (Slts.cons (i := 6) rfl Slts.nil)) (z_one (z_ret (d_meth D_Reckoner_deed A.cls_Reckoner.cl (hr.mono (by omega)) (dn 0) (d_cons (dn 5) (d_cons (dn 6) d_nil)))))
      (.star (is := []) (j := 7) .one .nil (Slts.cons (i := 7) rfl Slts.nil) (z_cons (z_set 8 nd (d_fld A.cls_Space.cl A.n_Space_own_same (dn 4)))
      b_never)
      (.star (is := []) (j := 7) .one .nil (Slts.cons (i := 7) rfl Slts.nil) (z_cons (z_set 8 nd d_int)
      (z_cons (z_for PassesOwn.never rfl (d_it (dn 7)) (t_n 9 nd) (z_one (z_set 8 nd (d_op o_dor (dn 8) (d_meth D_Reckoner_term A.cls_Reckoner.cl (hr.mono (by omega)) (dn 0) (d_cons (dn 9) (d_cons (dn 2) (d_cons (dn 3) d_nil))))))))
      (z_one (z_ret (dn 8)))))
      (.cons (ns' := []) (is := [10]) .one (.cons .nil) (Slts.cons (i := 10) rfl Slts.nil) (z_one z_never)
      (.star (is := [11]) (j := 12) .one (.cons .nil) (Slts.cons (i := 11) rfl (Slts.cons (i := 12) rfl Slts.nil)) (z_one z_never)
      .nil))))))
      (z_one z_never))), ?_⟩
  rintro ds M Q Ed ⟨m, ps, x, v, rfl, hm, h, q⟩
  refine ⟨rfl, _, rfl, ?_⟩
  rcases h with ⟨a, b, ha, hb, rfl, rfl⟩ | ⟨rfl, rfl⟩ | ⟨xs, rfl, hl, hk, rfl⟩
  · exact ⟨by show 2 ≤ 10000; decide, hc_hit rfl rfl ⟨⟨rfl, rfl⟩, m, ps, _, _, rfl, hm, .inl ⟨a, b, ha, hb, rfl, rfl⟩, q⟩⟩
  · exact ⟨by show 2 ≤ 10000; decide, hc_hit rfl rfl ⟨⟨rfl, rfl⟩, m, ps, _, _, rfl, hm, .inr ⟨rfl, rfl⟩, q⟩⟩
  · refine ⟨by show (xs.map (·.1)).length ≤ 10000; rw [List.length_map]; omega, hc_skip rfl (hc_skip rfl (hc_star rfl (Nat.zero_le _) ?_))⟩
    refine forD_map (f := fun p : Da × Nat => p.1) (fun l δ M' => M' = M ∧ (∀ p ∈ l, p ∈ xs) ∧ ∃ (acc : Nat) (u9 : Option Da), δ = [some (Rk C_Reckoner C_Program C_Procedure C_Space m ps), some (.tup (.str "or" :: xs.map (·.1))), some (.dct []), some (Lk C_Look), some (Spc C_Space m false), none, none, some (.lst (xs.map (·.1))), some (.int (acc : Nat)), u9, none, none, none] ∧ foO l acc = foO xs 0) ?_ ?_ ⟨rfl, fun _ h => h, 0, _, rfl, rfl⟩
    · rintro p l δ M' ⟨rfl, hin, acc, u9, rfl, hacc⟩ nx
      obtain ⟨h1, h2⟩ := hk p (hin p List.mem_cons_self)
      refine ⟨⟨rfl, rfl⟩, m, ps, p.1, p.2, rfl, hm, h1, ?_⟩
      show hName 8 (.int (Builtin.bitOr (acc : Int) (p.2 : Int))) _ _ _
      rw [bit_or]
      exact nx _ _ ⟨rfl, fun p' h => hin p' (List.mem_cons_of_mem _ h), acc ||| p.2, _, rfl, hacc⟩
    · rintro δ M' ⟨rfl, hin, acc, u9, rfl, hacc⟩
      have e : acc = foO xs 0 := hacc
      rw [← e] at q
      exact q
theorem R_term (A : Facts K C_Procedure C_Program C_Space C_Look C_Reckoner C_InvalidProgram C_InvalidMeaning C_InvalidOperation C_InvalidNumber c__law_right P__law_right) (M : MgOf K mg) (Z : Zs mg) (D_Reckoner_deed : KnMD P w K mg base C_Reckoner "deed" 2 ["self", "word", "table"] (spDeed C_Reckoner C_Program C_Procedure C_Space)) : ∀ d, KnMD P w K mg base C_Reckoner "term" (d + 5) ["self", "piece", "meanings", "look"] (spTerm C_Reckoner C_Program C_Procedure C_Space C_Look d)
  | 0 => KnMD.never A.m_Reckoner_term sc_Reckoner_term (fun _ _ _ _ _ _ us hl => match us, hl with | [_, _, _, _], _ => rfl) fun ds M Q E ⟨_, _, _, _, _, _, h, _⟩ => h
  | d + 1 => T_term A M Z D_Reckoner_deed (R_term A M Z D_Reckoner_deed d)
theorem D_Reckoner_term (A : Facts K C_Procedure C_Program C_Space C_Look C_Reckoner C_InvalidProgram C_InvalidMeaning C_InvalidOperation C_InvalidNumber c__law_right P__law_right) (M : MgOf K mg) (Z : Zs mg) (D_Reckoner_deed : KnMD P w K mg base C_Reckoner "deed" 2 ["self", "word", "table"] (spDeed C_Reckoner C_Program C_Procedure C_Space)) : KnMD P w K mg base C_Reckoner "term" 7 ["self", "piece", "meanings", "look"] (spTerm C_Reckoner C_Program C_Procedure C_Space C_Look 2) := R_term A M Z D_Reckoner_deed 2
end

end K68
set_option Elab.async false
set_option linter.all false
set_option maxRecDepth 100000
set_option maxHeartbeats 4000000




namespace K68
open PySem PySem.Spec PyProof.Rows L2 U
def ctxM : Da := .tup [.str "main", .tup []]
def MainIs (m : Nat) (ps : List Pr) (x : Da) (v : Nat) : Prop := OkN m ∧ PrgOk m ps ∧ ∃ r ∈ ps, r.nm = "main" ∧ r.own = [] ∧ r.body = x ∧ RelB m 2 x v
def spOwnM (CR C Cp CS : Addr) : DSp := fun ds M Q _ => ∃ (m : Nat) (ps : List Pr) (x : Da) (v : Nat), ds = [Rk CR C Cp CS m ps, ctxM] ∧ MainIs m ps x v ∧ Q (.dct []) M
theorem D_Reckoner_own_meanings {P : Program} {w : World} {K : PySem.W.Frag} {mg : Str → Option Value} {base : Heap} {C_Procedure : Addr} {C_Program : Addr} {C_Space : Addr} {C_Look : Addr} {C_Reckoner : Addr} {C_InvalidProgram : Addr} {C_InvalidMeaning : Addr} {C_InvalidOperation : Addr} {C_InvalidNumber : Addr} {c__law_right : Addr} {P__law_right : Addr} (A : Facts K C_Procedure C_Program C_Space C_Look C_Reckoner C_InvalidProgram C_InvalidMeaning C_InvalidOperation C_InvalidNumber c__law_right P__law_right) (M : MgOf K mg) (Z : Zs mg)  : KnMD P w K mg base C_Reckoner "own_meanings" 1 ["self", "context"] (spOwnM C_Reckoner C_Program C_Procedure C_Space) := by
  refine KnMD.of A.m_Reckoner_own_meanings sc_Reckoner_own_meanings (fun _ _ _ _ _ _ us hl => match us, hl with | [_, _], _ => rfl) (fun ds M Q E ⟨_, _, _, _, h, _⟩ => by rw [h]; rfl) (fun f cdv A0 outer s H E hr => ?_)
  have hu := U.hu_of hr
  have hu1 := U.hu1_of hr
  have nd := sc_Reckoner_own_meanings.nd
  refine ⟨_, (z_cons (z_asg (dn 1) (t_tup rfl (t_cons (t_n 2 nd) (t_cons (t_n 3 nd) t_nil))))
      (z_cons (z_set 4 nd (d_listZip0 rfl (d_cons (d_fld A.cls_Procedure.cl A.n_Procedure_own_parameters (d_dix hu (d_fld A.cls_Program.cl A.n_Program_own_table (d_fld A.cls_Reckoner.cl A.n_Reckoner_own_program (dn 0))) (dn 2))) (d_cons (dn 3) d_nil)) Z.list Z.zip))
      (z_one (z_ret (d_dc (own := [("parameter", 5), ("value", 6)]) (c := (.t [5, 6])) rfl nd (d_it (dn 4)) (blkOk_by (own := [("parameter", 5), ("value", 6)]) (N := N_Reckoner_own_meanings) (sc := defScope s_Reckoner_own_meanings) (by decide +kernel)) (fun _ _ _ _ _ => (pg_tup rfl (pgs_cons (gn 5 nd) (pgs_cons (gn 6 nd) pgs_nil)))) (fun _ _ _ _ _ => d_ts0) (fun _ _ _ _ _ => (d_ix (dn 5) d_int)) (fun _ _ _ _ _ => (dn 6))))))), ?_⟩
  rintro ds M Q Ed ⟨m, ps, x, v, rfl, ⟨hm, hP, ⟨nm0, own0, body0, R0⟩, hr, rfl, rfl, rfl, hR⟩, q⟩
  refine ⟨rfl, rfl, _, rfl, rfl, _, rfl, .inr "main", _, rfl, tbl_some hP.nd hr, rfl, _, rfl, rfl, ?_⟩
  exact ⟨rfl, q⟩
def spReckon (CR C Cp CS CL : Addr) : DSp := fun ds M Q _ => ∃ (m : Nat) (ps : List Pr) (x : Da) (v : Nat), ds = [Rk CR C Cp CS m ps, ctxM, Lk CL] ∧ MainIs m ps x v ∧ Q (.int (v : Nat)) M
theorem D_Reckoner_reckon {P : Program} {w : World} {K : PySem.W.Frag} {mg : Str → Option Value} {base : Heap} {C_Procedure : Addr} {C_Program : Addr} {C_Space : Addr} {C_Look : Addr} {C_Reckoner : Addr} {C_InvalidProgram : Addr} {C_InvalidMeaning : Addr} {C_InvalidOperation : Addr} {C_InvalidNumber : Addr} {c__law_right : Addr} {P__law_right : Addr} (A : Facts K C_Procedure C_Program C_Space C_Look C_Reckoner C_InvalidProgram C_InvalidMeaning C_InvalidOperation C_InvalidNumber c__law_right P__law_right) (M : MgOf K mg) (Z : Zs mg) (D_Reckoner_term : KnMD P w K mg base C_Reckoner "term" 7 ["self", "piece", "meanings", "look"] (spTerm C_Reckoner C_Program C_Procedure C_Space C_Look 2)) (D_Reckoner_own_meanings : KnMD P w K mg base C_Reckoner "own_meanings" 1 ["self", "context"] (spOwnM C_Reckoner C_Program C_Procedure C_Space)) : KnMD P w K mg base C_Reckoner "reckon" 8 ["self", "context", "look"] (spReckon C_Reckoner C_Program C_Procedure C_Space C_Look) := by
  refine KnMD.of A.m_Reckoner_reckon sc_Reckoner_reckon (fun _ _ _ _ _ _ us hl => match us, hl with | [_, _, _], _ => rfl) (fun ds M Q E ⟨_, _, _, _, h, _⟩ => by rw [h]; rfl) (fun f cdv A0 outer s H E hr => ?_)
  have hu := U.hu_of hr
  have hu1 := U.hu1_of hr
  have nd := sc_Reckoner_reckon.nd
  refine ⟨_, (z_cons (z_set 3 nd (d_dix hu (d_fld A.cls_Program.cl A.n_Program_own_table (d_fld A.cls_Reckoner.cl A.n_Reckoner_own_program (dn 0))) (d_ix (dn 1) d_int)))
      (z_one (z_ret (d_meth D_Reckoner_term A.cls_Reckoner.cl (hr.mono (by decide)) (dn 0) (d_cons (d_fld A.cls_Procedure.cl A.n_Procedure_own_body (dn 3)) (d_cons (d_meth D_Reckoner_own_meanings A.cls_Reckoner.cl (hr.mono (by decide)) (dn 0) (d_cons (dn 1) d_nil)) (d_cons (dn 2) d_nil))))))), ?_⟩
  rintro ds M Q Ed ⟨m, ps, x, v, rfl, ⟨hm, hP, ⟨nm0, own0, body0, R0⟩, hr, rfl, rfl, rfl, hR⟩, q⟩
  refine ⟨rfl, _, rfl, rfl, _, rfl, _, at0, .inr "main", _, rfl, tbl_some hP.nd hr, ?_⟩
  refine ⟨⟨rfl, rfl⟩, rfl, _, rfl, ⟨rfl, rfl⟩, m, ps, _, v, rfl, ⟨hm, hP, _, hr, rfl, rfl, rfl, hR⟩, ?_⟩
  exact ⟨m, ps, _, v, rfl, hm, hR, q⟩
def spIsCtx (CR C Cp CS : Addr) : DSp := fun ds M Q _ => ∃ (m : Nat) (ps : List Pr) (x : Da) (v : Nat), ds = [Rk CR C Cp CS m ps, ctxM] ∧ MainIs m ps x v ∧ Q (.bl true) M
section
variable {P : Program} {w : World} {K : PySem.W.Frag} {mg : Str → Option Value} {base : Heap} {C_Procedure : Addr} {C_Program : Addr} {C_Space : Addr} {C_Look : Addr} {C_Reckoner : Addr} {C_InvalidProgram : Addr} {C_InvalidMeaning : Addr} {C_InvalidOperation : Addr} {C_InvalidNumber : Addr} {c__law_right : Addr} {P__law_right : Addr}
theorem D_Reckoner_is_meaning (A : Facts K C_Procedure C_Program C_Space C_Look C_Reckoner C_InvalidProgram C_InvalidMeaning C_InvalidOperation C_InvalidNumber c__law_right P__law_right) (M : MgOf K mg) (Z : Zs mg) : KnMD P w K mg base C_Reckoner "is_meaning" 1 ["self", "kind", "value"] spNo :=
  KnMD.never A.m_Reckoner_is_meaning sc_Reckoner_is_meaning (fun _ _ _ _ _ _ us hl => match us, hl with | [_, _, _], _ => rfl) fun ds M Q E ⟨_, _, h⟩ => h
end
theorem D_Reckoner_is_context {P : Program} {w : World} {K : PySem.W.Frag} {mg : Str → Option Value} {base : Heap} {C_Procedure : Addr} {C_Program : Addr} {C_Space : Addr} {C_Look : Addr} {C_Reckoner : Addr} {C_InvalidProgram : Addr} {C_InvalidMeaning : Addr} {C_InvalidOperation : Addr} {C_InvalidNumber : Addr} {c__law_right : Addr} {P__law_right : Addr} (A : Facts K C_Procedure C_Program C_Space C_Look C_Reckoner C_InvalidProgram C_InvalidMeaning C_InvalidOperation C_InvalidNumber c__law_right P__law_right) (M : MgOf K mg) (Z : Zs mg) (D_Program_has_name : KnMD P w K mg base C_Program "has_name" 1 ["self", "value"] (spHasG C_Program C_Procedure)) (D_Reckoner_is_meaning : KnMD P w K mg base C_Reckoner "is_meaning" 1 ["self", "kind", "value"] spNo) : KnMD P w K mg base C_Reckoner "is_context" 2 ["self", "value"] (spIsCtx C_Reckoner C_Program C_Procedure C_Space) := by
  refine KnMD.of A.m_Reckoner_is_context sc_Reckoner_is_context (fun _ _ _ _ _ _ us hl => match us, hl with | [_, _], _ => rfl) (fun ds M Q E ⟨_, _, _, _, h, _⟩ => by rw [h]; rfl) (fun f cdv A0 outer s H E hr => ?_)
  have hu := U.hu_of hr
  have hu1 := U.hu1_of hr
  have nd := sc_Reckoner_is_context.nd
  refine ⟨_, (z_cons (z_if (d_w (d_or (d_tnot (d_tv (d_b Z.isinstance b_isinstance (c_disiK (K := K) rfl) (d_cons (dn 1) (d_cons (d_ty Z.tuple b_tuple) d_nil))))) (d_or (d_tcm (o_dne hu) (d_b Z.len b_len c_dlen (d_cons (dn 1) d_nil)) d_int) (d_or1 (d_tnot (d_tv (d_meth D_Program_has_name A.cls_Program.cl (hr.mono (by decide)) (d_fld A.cls_Reckoner.cl A.n_Reckoner_own_program (dn 0)) (d_cons (d_ix (dn 1) d_int) d_nil)))))))) (z_one (z_ret d_bl)) z_nil)
      (z_cons (z_set 2 nd (d_fld A.cls_Procedure.cl A.n_Procedure_own_kinds (d_dix hu (d_fld A.cls_Program.cl A.n_Program_own_table (d_fld A.cls_Reckoner.cl A.n_Reckoner_own_program (dn 0))) (d_ix (dn 1) d_int))))
      (z_cons (z_if (d_w (d_or (d_tnot (d_tv (d_b Z.isinstance b_isinstance (c_disiK (K := K) rfl) (d_cons (d_ix (dn 1) d_int) (d_cons (d_ty Z.tuple b_tuple) d_nil))))) (d_or1 (d_tcm (o_dne hu) (d_b Z.len b_len c_dlen (d_cons (d_ix (dn 1) d_int) d_nil)) (d_b Z.len b_len c_dlen (d_cons (dn 2) d_nil)))))) (z_one (z_ret d_bl)) z_nil)
      (z_one (z_ret (d_b Z.all b_all (c_dall rfl) (d_cons (d_lc (own := [("kind", 3), ("one", 4)]) (c := (.t [3, 4])) rfl nd (d_zip Z.zip (d_cons (dn 2) (d_cons (d_ix (dn 1) d_int) d_nil))) (blkOk_by (own := [("kind", 3), ("one", 4)]) (N := N_Reckoner_is_context) (sc := defScope s_Reckoner_is_context) (by decide +kernel)) (fun _ _ _ _ _ => (pg_tup rfl (pgs_cons (gn 3 nd) (pgs_cons (gn 4 nd) pgs_nil)))) (fun _ _ _ _ _ => d_ts0) (fun _ _ _ _ _ => (d_meth D_Reckoner_is_meaning A.cls_Reckoner.cl (hr.mono (by decide)) (dn 0) (d_cons (dn 3) (d_cons (dn 4) d_nil))))) d_nil))))))), ?_⟩
  rintro ds M Q Ed ⟨m, ps, x, v, rfl, ⟨hm, hP, ⟨nm0, own0, body0, R0⟩, hr, rfl, rfl, rfl, hR⟩, q⟩
  refine ⟨by decide, ?_⟩
  refine ifF (by decide) ?_
  refine ⟨rfl, _, rfl, ⟨rfl, rfl⟩, _, at0, m, ps, _, rfl, hP, .inl ⟨"main", rfl, ?_⟩⟩
  rw [decide_eq_true (show ("main" : Str) ∈ ps.map Pr.nm from List.mem_map_of_mem (f := Pr.nm) hr)]
  refine ifF (by decide) ?_
  refine ⟨rfl, _, rfl, rfl, _, rfl, _, at0, .inr "main", _, rfl, tbl_some hP.nd hr, rfl, _, rfl, ?_⟩
  refine ⟨_, at1, by decide, ?_⟩
  refine ifF (by decide) ?_
  refine ⟨_, at1, ?_⟩
  refine ⟨_, at1, rfl, ?_⟩
  exact ⟨[], rfl, q⟩
def spPlainBook (CR C Cp CS : Addr) : DSp := fun ds M Q _ => ∃ (m : Nat) (ps : List Pr), ds = [Rk CR C Cp CS m ps, .dct []] ∧ Q (.bl true) M
theorem D_Reckoner_is_plain_book {P : Program} {w : World} {K : PySem.W.Frag} {mg : Str → Option Value} {base : Heap} {C_Procedure : Addr} {C_Program : Addr} {C_Space : Addr} {C_Look : Addr} {C_Reckoner : Addr} {C_InvalidProgram : Addr} {C_InvalidMeaning : Addr} {C_InvalidOperation : Addr} {C_InvalidNumber : Addr} {c__law_right : Addr} {P__law_right : Addr} (A : Facts K C_Procedure C_Program C_Space C_Look C_Reckoner C_InvalidProgram C_InvalidMeaning C_InvalidOperation C_InvalidNumber c__law_right P__law_right) (M : MgOf K mg) (Z : Zs mg) (D_Reckoner_is_context : KnMD P w K mg base C_Reckoner "is_context" 2 ["self", "value"] (spIsCtx C_Reckoner C_Program C_Procedure C_Space)) (D_Space_is_relation : KnMD P w K mg base C_Space "is_relation" 3 ["self", "value"] (spIsRel C_Space)) : KnMD P w K mg base C_Reckoner "is_plain_book" 4 ["self", "value"] (spPlainBook C_Reckoner C_Program C_Procedure C_Space) := by
  refine KnMD.of A.m_Reckoner_is_plain_book sc_Reckoner_is_plain_book (fun _ _ _ _ _ _ us hl => match us, hl with | [_, _], _ => rfl) (fun ds M Q E ⟨_, _, h, _⟩ => by rw [h]; rfl) (fun f cdv A0 outer s H E hr => ?_)
  have hu := U.hu_of hr
  have hu1 := U.hu1_of hr
  have nd := sc_Reckoner_is_plain_book.nd
  refine ⟨_, (z_cons (z_if (d_w (d_or (d_tnot (d_tv (d_b Z.isinstance b_isinstance (c_disiK (K := K) rfl) (d_cons (dn 1) (d_cons (d_ty Z.dict b_dict) d_nil))))) (d_or1 (d_tnot (d_tv (d_b Z.all b_all (c_dall rfl) (d_cons (d_lcE 1 (own := [("context", 2)]) (c := (.n 2)) rfl nd (blkOk_by (own := [("context", 2)]) (N := N_Reckoner_is_plain_book) (sc := defScope s_Reckoner_is_plain_book) (by decide +kernel)) (fun _ _ _ _ _ => (gn 2 nd)) (fun _ _ _ _ _ => d_ts0) (fun _ _ _ _ _ => (d_meth D_Reckoner_is_context A.cls_Reckoner.cl (hr.mono (by decide)) (dn 0) (d_cons (dn 2) d_nil)))) d_nil))))))) (z_one (z_ret d_bl)) z_nil)
      (z_one (z_ret (d_b Z.all b_all (c_dall rfl) (d_cons (d_lc (own := [("relation", 3)]) (c := (.n 3)) rfl nd (d_it (d_listVals0 rfl (dn 1) Z.list)) (blkOk_by (own := [("relation", 3)]) (N := N_Reckoner_is_plain_book) (sc := defScope s_Reckoner_is_plain_book) (by decide +kernel)) (fun _ _ _ _ _ => (gn 3 nd)) (fun _ _ _ _ _ => d_ts0) (fun _ _ _ _ _ => (d_meth D_Space_is_relation A.cls_Space.cl (hr.mono (by decide)) (d_fld A.cls_Reckoner.cl A.n_Reckoner_own_space (dn 0)) (d_cons (dn 3) d_nil)))) d_nil))))), ?_⟩
  rintro ds M Q Ed ⟨m, ps, rfl, q⟩
  refine ⟨by decide, ?_⟩
  refine ifF (by decide) ?_
  refine ⟨rfl, [], rfl, ?_⟩
  refine ifF (by decide) ?_
  exact ⟨rfl, rfl, [], rfl, q⟩

end K68
set_option Elab.async false
set_option linter.all false
set_option maxRecDepth 100000
set_option maxHeartbeats 4000000




namespace K68
open PySem PySem.Spec PyProof.Rows L2 U
def spReqP (C Cp : Addr) : DSp := fun ds M Q _ => ∃ (m : Nat) (ps : List Pr), ds = [Prg C Cp m ps] ∧ Q .non M
theorem D_require_program {P : Program} {w : World} {K : PySem.W.Frag} {mg : Str → Option Value} {base : Heap} {C_Procedure : Addr} {C_Program : Addr} {C_Space : Addr} {C_Look : Addr} {C_Reckoner : Addr} {C_InvalidProgram : Addr} {C_InvalidMeaning : Addr} {C_InvalidOperation : Addr} {C_InvalidNumber : Addr} {c__law_right : Addr} {P__law_right : Addr} (A : Facts K C_Procedure C_Program C_Space C_Look C_Reckoner C_InvalidProgram C_InvalidMeaning C_InvalidOperation C_InvalidNumber c__law_right P__law_right) (M : MgOf K mg) (Z : Zs mg)  : KnD P w K mg base "require_program" 1 ["value"] (spReqP C_Program C_Procedure) := by
  refine KnD.of A.d_require_program M sc_require_program (fun _ _ _ _ _ _ us hl => match us, hl with | [_], _ => rfl) (fun ds M Q E ⟨_, _, h, _⟩ => by rw [h]; rfl) (fun f cdv A0 outer s H E hr => ?_)
  have hu := U.hu_of hr
  have hu1 := U.hu1_of hr
  have nd := sc_require_program.nd
  refine ⟨_, (z_one (z_if (d_tnot (d_tv (d_b Z.isinstance b_isinstance (c_disiK (K := K) rfl) (d_cons (dn 0) (d_cons (d_glob (M.of _ _ A.cls_Program.at_)) d_nil))))) (z_one z_never) z_nil)), ?_⟩
  rintro ds M Q Ed ⟨m, ps, rfl, q⟩
  exact ⟨A.cls_Program.isC, _, A.cls_Program.self, ifF (by decide) q⟩
def spReqW : DSp := fun ds M Q _ => ∃ x, ds = [x] ∧ x = .non ∧ Q .non M
theorem D_require_word {P : Program} {w : World} {K : PySem.W.Frag} {mg : Str → Option Value} {base : Heap} {C_Procedure : Addr} {C_Program : Addr} {C_Space : Addr} {C_Look : Addr} {C_Reckoner : Addr} {C_InvalidProgram : Addr} {C_InvalidMeaning : Addr} {C_InvalidOperation : Addr} {C_InvalidNumber : Addr} {c__law_right : Addr} {P__law_right : Addr} (A : Facts K C_Procedure C_Program C_Space C_Look C_Reckoner C_InvalidProgram C_InvalidMeaning C_InvalidOperation C_InvalidNumber c__law_right P__law_right) (M : MgOf K mg) (Z : Zs mg) (D_is_name : KnD P w K mg base "is_name" 1 ["value"] spIsName) : KnD P w K mg base "require_word" 2 ["word"] spReqW := by
  refine KnD.of A.d_require_word M sc_require_word (fun _ _ _ _ _ _ us hl => match us, hl with | [_], _ => rfl) (fun ds M Q E ⟨_, h, _⟩ => by rw [h]; rfl) (fun f cdv A0 outer s H E hr => ?_)
  have hu := U.hu_of hr
  have hu1 := U.hu1_of hr
  have nd := sc_require_word.nd
  refine ⟨_, (z_one (z_if (d_w (d_and (d_tcm o_dnotN (dn 0) d_non) (d_and1 (d_tnot (d_tv (d_call D_is_name (hr.mono (by decide)) (d_cons (dn 0) d_nil))))))) (z_one z_never) z_nil)), ?_⟩
  rintro ds M Q Ed ⟨_, rfl, rfl, q⟩
  exact q
def spRkOf (CR C Cp CS : Addr) : DSp := fun ds M Q _ => ∃ (m : Nat) (ps : List Pr), ds = [Prg C Cp m ps, .non] ∧ OkN m ∧ Q (Rk CR C Cp CS m ps) M
theorem D_reckoner_of {P : Program} {w : World} {K : PySem.W.Frag} {mg : Str → Option Value} {base : Heap} {C_Procedure : Addr} {C_Program : Addr} {C_Space : Addr} {C_Look : Addr} {C_Reckoner : Addr} {C_InvalidProgram : Addr} {C_InvalidMeaning : Addr} {C_InvalidOperation : Addr} {C_InvalidNumber : Addr} {c__law_right : Addr} {P__law_right : Addr} (A : Facts K C_Procedure C_Program C_Space C_Look C_Reckoner C_InvalidProgram C_InvalidMeaning C_InvalidOperation C_InvalidNumber c__law_right P__law_right) (M : MgOf K mg) (Z : Zs mg) (D_require_program : KnD P w K mg base "require_program" 1 ["value"] (spReqP C_Program C_Procedure)) (D_require_word : KnD P w K mg base "require_word" 2 ["word"] spReqW) (D_Reckoner___init__ : KnMD P w K mg base C_Reckoner "__init__" 5 ["self", "program", "word"] (spRInit C_Reckoner C_Program C_Procedure C_Space)) : KnD P w K mg base "reckoner_of" 7 ["program", "word"] (spRkOf C_Reckoner C_Program C_Procedure C_Space) := by
  refine KnD.of A.d_reckoner_of M sc_reckoner_of (fun _ _ _ _ _ _ us hl => match us, hl with | [_, _], _ => rfl) (fun ds M Q E ⟨_, _, h, _⟩ => by rw [h]; rfl) (fun f cdv A0 outer s H E hr => ?_)
  have hu := U.hu_of hr
  have hu1 := U.hu1_of hr
  have nd := sc_reckoner_of.nd
  refine ⟨_, (z_cons (z_expr (d_call D_require_program (hr.mono (by decide)) (d_cons (dn 0) d_nil)))
      (z_cons (z_expr (d_call D_require_word (hr.mono (by decide)) (d_cons (dn 1) d_nil)))
      (z_one (z_ret (d_make M A.cls_Reckoner D_Reckoner___init__ (hr.mono (by decide)) (d_cons (dn 0) (d_cons (dn 1) d_nil))))))), ?_⟩
  rintro ds M Q Ed ⟨m, ps, rfl, hm, q⟩
  refine ⟨m, ps, rfl, _, rfl, rfl, fun p hp => ⟨p, m, ps, rfl, hm, mput_same, rfl, _, mput_same, ?_⟩⟩
  rw [mput_put, mdel_put hp]
  exact q
def spLooked (CR C Cp CS CL : Addr) : DSp := fun ds M Q _ => ∃ (m : Nat) (ps : List Pr) (x : Da) (v : Nat), ds = [Prg C Cp m ps, ctxM, .dct [], .non] ∧ MainIs m ps x v ∧ Q (.tup [.int (v : Nat), Lk CL]) M
theorem D_looked {P : Program} {w : World} {K : PySem.W.Frag} {mg : Str → Option Value} {base : Heap} {C_Procedure : Addr} {C_Program : Addr} {C_Space : Addr} {C_Look : Addr} {C_Reckoner : Addr} {C_InvalidProgram : Addr} {C_InvalidMeaning : Addr} {C_InvalidOperation : Addr} {C_InvalidNumber : Addr} {c__law_right : Addr} {P__law_right : Addr} (A : Facts K C_Procedure C_Program C_Space C_Look C_Reckoner C_InvalidProgram C_InvalidMeaning C_InvalidOperation C_InvalidNumber c__law_right P__law_right) (M : MgOf K mg) (Z : Zs mg) (D_reckoner_of : KnD P w K mg base "reckoner_of" 7 ["program", "word"] (spRkOf C_Reckoner C_Program C_Procedure C_Space)) (D_Reckoner_is_context : KnMD P w K mg base C_Reckoner "is_context" 2 ["self", "value"] (spIsCtx C_Reckoner C_Program C_Procedure C_Space)) (D_Reckoner_is_plain_book : KnMD P w K mg base C_Reckoner "is_plain_book" 4 ["self", "value"] (spPlainBook C_Reckoner C_Program C_Procedure C_Space)) (D_Look___init__ : KnMD P w K mg base C_Look "__init__" 1 ["self", "book"] (spLInit C_Look)) (D_Reckoner_reckon : KnMD P w K mg base C_Reckoner "reckon" 8 ["self", "context", "look"] (spReckon C_Reckoner C_Program C_Procedure C_Space C_Look)) : KnD P w K mg base "looked" 9 ["program", "context", "book", "word"] (spLooked C_Reckoner C_Program C_Procedure C_Space C_Look) := by
  refine KnD.of A.d_looked M sc_looked (fun _ _ _ _ _ _ us hl => match us, hl with | [_, _, _, _], _ => rfl) (fun ds M Q E ⟨_, _, _, _, h, _⟩ => by rw [h]; rfl) (fun f cdv A0 outer s H E hr => ?_)
  have hu := U.hu_of hr
  have hu1 := U.hu1_of hr
  have nd := sc_looked.nd
  refine ⟨_, (z_cons (z_set 4 nd (d_call D_reckoner_of (hr.mono (by decide)) (d_cons (dn 0) (d_cons (dn 3) d_nil))))
      (z_cons (z_if (d_tnot (d_tv (d_meth D_Reckoner_is_context A.cls_Reckoner.cl (hr.mono (by decide)) (dn 4) (d_cons (dn 1) d_nil)))) (z_one z_never) z_nil)
      (z_cons (z_if (d_tnot (d_tv (d_meth D_Reckoner_is_plain_book A.cls_Reckoner.cl (hr.mono (by decide)) (dn 4) (d_cons (dn 2) d_nil)))) (z_one z_never) z_nil)
      (z_cons (z_set 5 nd (d_make M A.cls_Look D_Look___init__ (hr.mono (by decide)) (d_cons (dn 2) d_nil)))
      (z_one (z_ret (d_tup (d_cons (d_meth D_Reckoner_reckon A.cls_Reckoner.cl (hr.mono (by decide)) (dn 4) (d_cons (dn 1) (d_cons (dn 5) d_nil))) (d_cons (dn 5) d_nil))))))))), ?_⟩
  rintro ds M Q Ed ⟨m, ps, x, v, rfl, h, q⟩
  refine ⟨m, ps, rfl, h.1, ?_⟩
  refine ⟨⟨rfl, rfl⟩, m, ps, x, v, rfl, h, ifF (by decide) ?_⟩
  refine ⟨⟨rfl, rfl⟩, m, ps, rfl, ifF (by decide) fun p hp => ⟨p, rfl, mput_same, rfl, _, mput_same, ?_⟩⟩
  rw [mput_put, mdel_put hp]
  exact ⟨⟨rfl, rfl⟩, m, ps, x, v, rfl, h, rfl, q⟩
def spReckoned (CR C Cp CS CL : Addr) : DSp := fun ds M Q _ => ∃ (m : Nat) (ps : List Pr) (x : Da) (v : Nat), ds = [Prg C Cp m ps, ctxM, .dct [], .non] ∧ MainIs m ps x v ∧ Q (.int (v : Nat)) M
section
variable {P : Program} {w : World} {K : PySem.W.Frag} {mg : Str → Option Value} {base : Heap} {C_Procedure : Addr} {C_Program : Addr} {C_Space : Addr} {C_Look : Addr} {C_Reckoner : Addr} {C_InvalidProgram : Addr} {C_InvalidMeaning : Addr} {C_InvalidOperation : Addr} {C_InvalidNumber : Addr} {c__law_right : Addr} {P__law_right : Addr}
theorem D_reckoned (A : Facts K C_Procedure C_Program C_Space C_Look C_Reckoner C_InvalidProgram C_InvalidMeaning C_InvalidOperation C_InvalidNumber c__law_right P__law_right) (M : MgOf K mg) (Z : Zs mg) (D_looked : KnD P w K mg base "looked" 9 ["program", "context", "book", "word"] (spLooked C_Reckoner C_Program C_Procedure C_Space C_Look)) : KnDK P w K mg base "reckoned" 13 ["program", "context", "book", "word"] 3 ["word"] [.non] (spReckoned C_Reckoner C_Program C_Procedure C_Space C_Look) := by
  refine KnDK.of A.d_reckoned M sc_reckoned (by decide) rfl (fun D doc pm an cdv ct us zs l1 l2 => match us, l1, zs, l2 with | [_, _, _], _, [_], _ => ⟨_, _, _, _, _, _, rfl, rfl, rfl⟩)
    (fun D doc pm an cdv ct us ws l1 l2 => match us, l1, ws, l2 with | [_, _, _], _, [_], _ => rfl) (fun ds M Q E ⟨_, _, _, _, h, _⟩ => by rw [h]; rfl) (fun f cdv A0 outer s H E hr => ?_)
  have hu := U.hu_of hr
  have hu1 := U.hu1_of hr
  have nd := sc_reckoned.nd
  refine ⟨_, (z_cons (z_asg (d_call D_looked (hr.mono (by decide)) (d_cons (dn 0) (d_cons (dn 1) (d_cons (dn 2) (d_cons (dn 3) d_nil))))) (t_tup rfl (t_cons (t_n 4 nd) (t_cons (t_n 5 nd) t_nil))))
      (z_one (z_ret (dn 4)))), ?_⟩
  rintro ds M Q Ed ⟨m, ps, x, v, rfl, h, q⟩
  refine ⟨m, ps, x, v, rfl, h, ?_⟩
  exact ⟨rfl, q⟩
end

end K68
set_option Elab.async false
set_option linter.all false
set_option maxRecDepth 100000
set_option maxHeartbeats 4000000




namespace K68
open PySem PySem.Spec PyProof.Rows L2 U
structure Leaf (n : Nat) (t : Da) : Prop where
  pv : pv t
  a5 : allF 5 t = [t]
  a6 : allF 6 t = [t]
  p5 : pcB [] 5 TW t = true
  p6 : pcB [] 6 TW t = true
  hd : ∃ xs, t = .tup (.str "do" :: .str "go" :: xs)
  ft : ∀ rows, fitB rows n t = true
theorem leaf_deed {n a b : Nat} (hn : OkN n) (ha : a < n) (hb : b < n) : Leaf n (deedF n a b) := by
  have h1 : a = 0 ∨ a = 1 ∨ a = 2 := by have := hn.2; omega
  have h2 : b = 0 ∨ b = 1 ∨ b = 2 := by have := hn.2; omega
  rcases okn3 hn with rfl | rfl | rfl <;> rcases h1 with rfl | rfl | rfl <;> rcases h2 with rfl | rfl | rfl <;> first
    | omega
    | exact ⟨pv_of (by decide +kernel), rfl, rfl, by decide +kernel, by decide +kernel, ⟨_, rfl⟩, fun _ => rfl⟩
theorem leaf_none {n : Nat} (hn : OkN n) : Leaf n (.tup [.str "do", .str "go", .tup (List.replicate n .non)]) := by
  rcases okn3 hn with rfl | rfl | rfl <;> exact ⟨pv_of (by decide +kernel), rfl, rfl, by decide +kernel, by decide +kernel, ⟨_, rfl⟩, fun _ => rfl⟩
structure BlkI (n : Nat) (x : Da) : Prop where
  pv : pv x
  body : bodB [] x = true
  pt : PT 6 x
  nr : ∀ y ∈ allF 6 x, ∀ xs, y ≠ .tup (.str "run" :: xs)
  len : (allF 6 x).length ≤ 40
  ft : ∀ y ∈ allF 6 x, ∀ rows, fitB rows n y = true
theorem blk_leaf {n : Nat} {t : Da} (h : Leaf n t) : BlkI n t := by
  obtain ⟨h1, h2, h3, h4, h5, ⟨xs, rfl⟩, h7⟩ := h
  refine ⟨h1, ?_, .inl ⟨xs, rfl⟩, fun y hy => ?_, by rw [h3]; simp, fun y hy => ?_⟩
  · unfold bodB
    rw [h3, show kvsD [] = [] from rfl, h5]
    rfl
  · rw [h3] at hy
    rw [List.mem_singleton.mp hy]
    intro ys e
    injection e with e
    injection e with e e2
    injection e with e
    exact absurd e (by decide +kernel)
  · rw [h3] at hy
    rw [List.mem_singleton.mp hy]
    exact h7
theorem all_or {n : Nat} {t : Da} {ts : List Da} (h : ∀ x ∈ t :: ts, Leaf n x) : allF 6 (.tup (.str "or" :: t :: ts)) = .tup (.str "or" :: t :: ts) :: t :: ts := by
  have go : ∀ l : List Da, (∀ x ∈ l, Leaf n x) → l.flatMap (allF 5) = l := fun l => by
    induction l with
    | nil => intro _; rfl
    | cons y ys ih =>
      intro h
      rw [List.flatMap_cons, (h y List.mem_cons_self).a5, ih fun z hz => h z (List.mem_cons_of_mem _ hz)]
      rfl
  show _ :: (kidsL "or" (t :: ts)).flatMap (allF 5) = _
  rw [show kidsL "or" (t :: ts) = t :: ts from rfl, go _ h]
theorem blk_or {n : Nat} {t : Da} {ts : List Da} (h : ∀ x ∈ t :: ts, Leaf n x) (hl : ts.length ≤ 30) : BlkI n (.tup (.str "or" :: t :: ts)) := by
  have ha := all_or h
  refine ⟨.tup _ (by simp only [List.length_cons]; omega) fun x hx => ?_, ?_, .inr (.inr ⟨"or", t :: ts, .inr rfl, rfl, by simp only [List.length_cons]; omega, fun y hy => ?_⟩), fun y hy => ?_, by rw [ha]; simp only [List.length_cons]; omega, fun y hy => ?_⟩
  · rcases List.mem_cons.mp hx with rfl | hx
    · exact .str _ (by decide +kernel)
    · exact (h x hx).pv
  · unfold bodB
    rw [ha, Bool.and_eq_true]
    refine ⟨?_, decide_eq_true (by simp only [List.length_cons]; omega)⟩
    show (TW.contains "or" && (t :: ts).all (pcB [] 5 TW)) = true
    rw [Bool.and_eq_true]
    exact ⟨by decide +kernel, List.all_eq_true.mpr fun y hy => (h y hy).p5⟩
  · obtain ⟨xs, rfl⟩ := (h y hy).hd
    exact .inl ⟨xs, rfl⟩
  · rw [ha] at hy
    intro ys e
    rcases List.mem_cons.mp hy with rfl | hy
    · injection e with e
      injection e with e e2
      injection e with e
      exact absurd e (by decide)
    · obtain ⟨xs, rfl⟩ := (h y hy).hd
      injection e with e
      injection e with e e2
      injection e with e
      exact absurd e (by decide +kernel)
  · rw [ha] at hy
    rcases List.mem_cons.mp hy with rfl | hy
    · exact fun _ => rfl
    · exact (h y hy).ft
theorem cel_le {n r : Nat} (hn : OkN n) (hr : r < 2 ^ (n * n)) {k : Nat} (hk : k ∈ cel r) : k < n * n := by
  obtain ⟨h1, h2⟩ := cel_mem.mp hk
  exact Nat.lt_of_not_le fun c => by
    rw [Nat.testBit_lt_two_pow (Nat.lt_of_lt_of_le hr (Nat.pow_le_pow_right (by decide) c))] at h2
    cases h2
theorem blk_leaves {n r : Nat} (hn : OkN n) (hr : r < 2 ^ (n * n)) : ∀ x ∈ (cel r).map fun k => deedF n (k / n) (k % n), Leaf n x := fun x hx => by
  obtain ⟨k, hk, rfl⟩ := List.mem_map.mp hx
  have h := cel_le hn hr hk
  exact leaf_deed hn (Nat.div_lt_of_lt_mul h) (Nat.mod_lt _ hn.1)
theorem blk_ok {n r : Nat} (hn : OkN n) (hr : r < 2 ^ (n * n)) : BlkI n (blkF n r) := by
  have h := blk_leaves hn hr
  have hl : ((cel r).map fun k => deedF n (k / n) (k % n)).length ≤ 12 := by rw [List.length_map]; exact cel_len r
  unfold blkF
  generalize (cel r).map (fun k => deedF n (k / n) (k % n)) = ts at h hl
  cases ts with
  | nil => exact blk_leaf (leaf_none hn)
  | cons t ts => exact blk_or h (by simp only [List.length_cons] at hl; omega)
theorem foO_bit {k : Nat} : ∀ (xs : List (Da × Nat)) (v : Nat), (foO xs v).testBit k = true ↔ v.testBit k = true ∨ ∃ p ∈ xs, p.2.testBit k = true
  | [], v => ⟨.inl, fun h => h.elim id fun ⟨_, h, _⟩ => nomatch h⟩
  | p :: xs, v => by
    show (foO xs (v ||| p.2)).testBit k = true ↔ _
    rw [foO_bit xs, Nat.testBit_or, Bool.or_eq_true]
    constructor
    · rintro ((h | h) | ⟨q, hq, h⟩)
      · exact .inl h
      · exact .inr ⟨p, List.mem_cons_self, h⟩
      · exact .inr ⟨q, List.mem_cons_of_mem _ hq, h⟩
    · rintro (h | ⟨q, hq, h⟩)
      · exact .inl (.inl h)
      · rcases List.mem_cons.mp hq with rfl | hq
        · exact .inl (.inr h)
        · exact .inr ⟨q, hq, h⟩
theorem foO_cel {n r : Nat} (hn : OkN n) (hr : r < 2 ^ (n * n)) (f : Nat → Da) : foO ((cel r).map fun k => (f k, 2 ^ (k / n * n + k % n))) 0 = r := by
  refine Nat.eq_of_testBit_eq fun i => ?_
  rw [Bool.eq_iff_iff, foO_bit]
  have e : ∀ k, k / n * n + k % n = k := fun k => by rw [Nat.mul_comm]; exact Nat.div_add_mod k n
  constructor
  · rintro (h | ⟨p, hp, h⟩)
    · rw [Nat.zero_testBit] at h; cases h
    · obtain ⟨k, hk, rfl⟩ := List.mem_map.mp hp
      have h : (2 ^ (k / n * n + k % n)).testBit i = true := h
      rw [e, Nat.testBit_two_pow, decide_eq_true_eq] at h
      subst h
      exact (cel_mem.mp hk).2
  · intro h
    have h9 : n * n ≤ 9 := by rcases okn3 hn with rfl | rfl | rfl <;> decide
    have hi : i < n * n := Nat.lt_of_not_le fun c => by
      rw [Nat.testBit_lt_two_pow (Nat.lt_of_lt_of_le hr (Nat.pow_le_pow_right (by decide) c))] at h
      cases h
    exact .inr ⟨_, List.mem_map.mpr ⟨i, cel_mem.mpr ⟨by omega, h⟩, rfl⟩, by
      show (2 ^ (i / n * n + i % n)).testBit i = true
      rw [e, Nat.testBit_two_pow, decide_eq_true_eq]⟩
theorem blk_rel {n r : Nat} (hn : OkN n) (hr : r < 2 ^ (n * n)) : RelB n 2 (blkF n r) r := by
  have hf := foO_cel hn hr fun k => deedF n (k / n) (k % n)
  have hl := cel_len r
  have hm : ∀ k ∈ cel r, k < n * n := fun k hk => cel_le hn hr hk
  have e : ∀ k, k / n * n + k % n = k := fun k => by rw [Nat.mul_comm]; exact Nat.div_add_mod k n
  unfold blkF
  cases hc : cel r with
  | nil =>
    rw [hc] at hf
    exact .inr (.inl ⟨rfl, hf.symm⟩)
  | cons k ks =>
    rw [← hc]
    refine .inr (.inr ⟨(cel r).map fun k => (deedF n (k / n) (k % n), 2 ^ (k / n * n + k % n)), ?_, by rw [List.length_map]; omega, fun p hp => ?_, hf.symm⟩)
    · rw [hc, List.map_map]; rfl
    · obtain ⟨k, hk, rfl⟩ := List.mem_map.mp hp
      have h := hm k hk
      refine ⟨.inl ⟨_, _, Nat.div_lt_of_lt_mul h, Nat.mod_lt _ hn.1, rfl, rfl⟩, ?_⟩
      show 2 ^ (k / n * n + k % n) < _
      rw [e]
      exact Nat.pow_lt_pow_right (by decide) h
theorem RelB.up {n : Nat} : ∀ {d : Nat} {x : Da} {v : Nat}, RelB n d x v → RelB n (d + 1) x v
  | 0, _, _, h => h.elim
  | d + 1, x, v, h => by
    rcases h with h | h | ⟨xs, h1, h2, h3, h4⟩
    · exact .inl h
    · exact .inr (.inl h)
    · exact .inr (.inr ⟨xs, h1, h2, fun p hp => ⟨(h3 p hp).1.up, (h3 p hp).2⟩, h4⟩)
theorem nn {α : Type} {x : α} [DecidableEq α] : ¬ (!decide (x = x)) = true := by rw [decide_eq_true rfl]; decide
theorem main_prc {n r : Nat} (hn : OkN n) (hr : r < 2 ^ (n * n)) : PrcOk "main" [] (blkF n r) :=
  ⟨by decide +kernel, ⟨by decide, (fun _ h => nomatch h), .nil⟩, (blk_ok hn hr).pv, (blk_ok hn hr).body⟩
theorem main_prg {n r : Nat} (hn : OkN n) (hr : r < 2 ^ (n * n)) {R : List Da} (hR : R.Perm (allF 6 (blkF n r))) : PrgOk n [⟨"main", [], blkF n r, R⟩] := by
  refine ⟨hn.1, hn.2, (fun h => nomatch h), Nat.le_of_ble_eq_true rfl, fun q hq => ?_, List.nodup_cons.mpr ⟨List.not_mem_nil, List.nodup_nil⟩, ⟨_, List.mem_singleton.mpr rfl, rfl, rfl⟩, fun q hq y hy => ?_, fun h => by cases h⟩
  · rw [List.mem_singleton.mp hq]
    exact ⟨main_prc hn hr, hR⟩
  · rw [List.mem_singleton.mp hq] at hy
    exact (blk_ok hn hr).ft y hy _
theorem main_is {n r : Nat} (hn : OkN n) (hr : r < 2 ^ (n * n)) {R : List Da} (hR : R.Perm (allF 6 (blkF n r))) : MainIs n [⟨"main", [], blkF n r, R⟩] (blkF n r) r :=
  ⟨hn, main_prg hn hr hR, _, List.mem_singleton.mpr rfl, rfl, rfl, rfl, blk_rel hn hr⟩

end K68
set_option Elab.async false
set_option linter.all false
set_option maxRecDepth 100000
set_option maxHeartbeats 4000000




namespace K68
open PySem PySem.Spec PyProof.Rows L2 U
abbrev HLS (CN : Addr) : List (Value × Option Nat × Th) := [(.ref CN, some 1, fun a cls d => hRet (gBi kReprG (gCons (gXf a cls d CN "value" (gVar 1)) gNil)))]
theorem said0 {K : PySem.W.Frag} {n i : Nat} {D : DEnds} {cls : Value} {C : Addr} {f : Str} {v : Da} {p : PyData} {M : Mm} {a : Addr} {d : Option Addr} {x : Da} (hi : i < n) (ec : cls = .ref C) (he : ExD a [(f, v)] x d) (sw : Shw v p) (q : D.rt (.str p.shown) M) :
    hRet (gBi kReprG (gCons (gXf a cls d C f (gVar i)) gNil)) D ((List.replicate n none).set i (some x)) M := by
  cases d with
  | none => exact nomatch he.1
  | some dd =>
    obtain ⟨_, rfl⟩ : [(f, v)] ≠ [] ∧ x = .exn a dd [(f, v)] := he
    show gXf a cls (some dd) C f (gVar i) _ M _
    unfold gXf gVar
    rw [List.getElem?_set_self (by rw [List.length_replicate]; exact hi)]
    exact ⟨dd, [(f, v)], v, rfl, rfl, ec, by simp [List.lookup], p, sw, q⟩
section
variable {K : PySem.W.Frag} {C_Procedure : Addr} {C_Program : Addr} {C_Space : Addr} {C_Look : Addr} {C_Reckoner : Addr} {C_InvalidProgram : Addr} {C_InvalidMeaning : Addr} {C_InvalidOperation : Addr} {C_InvalidNumber : Addr} {c__law_right : Addr} {P__law_right : Addr} (A : Facts K C_Procedure C_Program C_Space C_Look C_Reckoner C_InvalidProgram C_InvalidMeaning C_InvalidOperation C_InvalidNumber c__law_right P__law_right) {D : DEnds} {M : Mm}
include A
theorem met_num {v : Da} {p : PyData} (sw : Shw v p) (q : D.rt (.str p.shown) M) : xMany2 K 2 D (HLS C_InvalidNumber) (.ref C_InvalidNumber) [("value", v)] M :=
  ⟨true, A.em_InvalidNumber_InvalidNumber, (fun _ a d x he => said0 (K := K) (by decide) rfl he sw q), fun h => nomatch h⟩
end
theorem none_v {x : Da} (hx : x ∈ [.non, .int 0, .int 4, .bl true, .str "1", .tup [.int 1], .lst [], .int (-(10 ^ Int.toNat 30))]) : pv x ∧ isFr x 1 3 = false ∧ Shs x := by
  simp only [List.mem_cons, List.not_mem_nil, or_false] at hx
  rcases hx with rfl | rfl | rfl | rfl | rfl | rfl | rfl | rfl
  · exact ⟨.non, rfl, shs_of .non (by decide +kernel) (.inl rfl)⟩
  · exact ⟨.int 0, rfl, shs_int (by decide)⟩
  · exact ⟨.int 4, rfl, shs_int (by decide)⟩
  · exact ⟨.bl true, rfl, shs_of (.bl true) (by decide +kernel) (.inl rfl)⟩
  · exact ⟨pv_of (by decide +kernel), rfl, shs_of (.str _) (by decide +kernel) (.inl rfl)⟩
  · exact ⟨pv_of (by decide +kernel), rfl, shs_of (.tup (.cons (.int 1) .nil)) (by decide +kernel) (.inl rfl)⟩
  · exact ⟨pv_of (by decide +kernel), rfl, shs_of (.lst .nil) (by decide +kernel) (.inl rfl)⟩
  · exact ⟨.int _, by decide +kernel, shs_int (by decide +kernel)⟩
theorem bad_v {n : Nat} (hn : OkN n) {x : Da} (hx : x ∈ [.non, .int (-1), .int ((2 ^ (n * n) : Nat) : Int), .bl true, .str "0", .tup [.int 0], .lst [], .int (10 ^ Int.toNat 30)]) : pv x ∧ isFr x 0 (((2 ^ (n * n) : Nat) : Int) - 1) = false ∧ Shs x := by
  simp only [List.mem_cons, List.not_mem_nil, or_false] at hx
  rcases hx with rfl | rfl | rfl | rfl | rfl | rfl | rfl | rfl
  · exact ⟨.non, rfl, shs_of .non (by decide +kernel) (.inl rfl)⟩
  · exact ⟨.int _, rfl, shs_int (by decide)⟩
  · rcases okn3 hn with rfl | rfl | rfl <;> exact ⟨.int _, by decide +kernel, shs_int (by decide +kernel)⟩
  · exact ⟨.bl true, rfl, shs_of (.bl true) (by decide +kernel) (.inl rfl)⟩
  · exact ⟨pv_of (by decide +kernel), rfl, shs_of (.str _) (by decide +kernel) (.inl rfl)⟩
  · exact ⟨pv_of (by decide +kernel), rfl, shs_of (.tup (.cons (.int 0) .nil)) (by decide +kernel) (.inl rfl)⟩
  · exact ⟨pv_of (by decide +kernel), rfl, shs_of (.lst .nil) (by decide +kernel) (.inl rfl)⟩
  · rcases okn3 hn with rfl | rfl | rfl <;> exact ⟨.int _, by decide +kernel, shs_int (by decide +kernel)⟩
def QL : Str := "_law_right.<locals>.<lambda>"
def spRight (P : Addr) : DSp := fun ds M Q _ => ∃ d, ds = [.ref d] ∧ Die d M ∧ M P = some (.tbl QL) ∧ ∀ M', Die d M' → Km d M M' → Q (.bl true) M'
theorem D__law_right {P : Program} {w : World} {K : PySem.W.Frag} {mg : Str → Option Value} {base : Heap} {C_Procedure : Addr} {C_Program : Addr} {C_Space : Addr} {C_Look : Addr} {C_Reckoner : Addr} {C_InvalidProgram : Addr} {C_InvalidMeaning : Addr} {C_InvalidOperation : Addr} {C_InvalidNumber : Addr} {c__law_right : Addr} {P__law_right : Addr} (A : Facts K C_Procedure C_Program C_Space C_Look C_Reckoner C_InvalidProgram C_InvalidMeaning C_InvalidOperation C_InvalidNumber c__law_right P__law_right) (M : MgOf K mg) (Z : Zs mg) (T__law_right : LamX.TabB base mg c__law_right P__law_right) (D__law_dip : KnD P w K mg base "_law_dip" 1 ["_law_pail_here", "_law_total"] spCast) (D__law_size : KnD P w K mg base "_law_size" 1 ["_law_modes"] spSizeL) (D_block_of : KnXD P w K mg base "block_of" 7 ["modes", "relation"] (spBlockOf C_InvalidNumber)) (D_is_term : KnXD P w K mg base "is_term" 23 ["value", "parameters"] (spTermX C_InvalidProgram)) (D__law_is_plain : KnD P w K mg base "_law_is_plain" 12 ["_law_term", "_law_words"] spPlain) (D__law_reckon : KnD P w K mg base "_law_reckon" 8 ["_law_modes", "_law_term", "_law_mine", "_law_book", "_law_asked_here"] (spReck 3)) (D_Program___init__ : KnMR P w K mg base (L2.CX P w) C_Program "__init__" 3 (spStar 2 (spInitGX C_Program C_Procedure C_InvalidProgram))) (D_Procedure___init__ : KnMXD P w K mg base C_Procedure "__init__" 23 ["self", "name", "parameters", "body"] (spInitE C_Procedure C_InvalidProgram)) (D_reckoned : KnDK P w K mg base "reckoned" 13 ["program", "context", "book", "word"] 3 ["word"] [.non] (spReckoned C_Reckoner C_Program C_Procedure C_Space C_Look)) (D__law_pick : KnD P w K mg base "_law_pick" 2 ["_law_pail_here", "_law_items"] spPick) : KnDG P w K mg base "_law_right" 38 ["_law_pail_here"] (spRight P__law_right) := by
  refine KnDG.ofC A.dc__law_right M sc__law_right (fun _ _ _ _ _ _ us hl => match us, hl with | [_], _ => rfl) (fun ds M Q E ⟨_, h, _⟩ => by rw [h]; rfl) (fun f A0 outer s H E hgd hr => ?_)
  have hu := U.hu_of hr
  have hu1 := U.hu1_of hr
  have nd := sc__law_right.nd
  refine ⟨_, (z_cons (z_set 1 nd (d_op o_dadd d_int (d_call D__law_dip (hr.mono (by decide)) (d_cons (dn 0) (d_cons d_int d_nil)))))
      (z_cons (z_set 2 nd (d_call D__law_dip (hr.mono (by decide)) (d_cons (dn 0) (d_cons (d_call D__law_size (hr.mono (by decide)) (d_cons (dn 1) d_nil)) d_nil))))
      (z_cons (z_set 3 nd (d_call D_block_of.d (hr.mono (by decide)) (d_cons (dn 1) (d_cons (dn 2) d_nil))))
      (z_cons (z_if (d_w (d_or (d_tnot (d_tv (d_call D_is_term.d (hr.mono (by decide)) (d_cons (dn 3) (d_cons (d_tup d_nil) d_nil))))) (d_or1 (d_tnot (d_tv (d_call D__law_is_plain (hr.mono (by decide)) (d_cons (dn 3) (d_cons (d_lst (d_cons d_str (d_cons d_str (d_cons d_str d_nil)))) d_nil)))))))) (z_one (z_retF d_bl)) z_nil)
      (z_cons (z_if (d_tcm (o_dne hu) (d_call D__law_reckon (hr.mono (by decide)) (d_cons (dn 1) (d_cons (dn 3) (d_cons d_dct0 (d_cons d_dct0 (d_cons d_dct0 d_nil)))))) (dn 2)) (z_one (z_retF d_bl)) z_nil)
      (z_cons (z_set 4 nd (d_makeR M A.cls_Program D_Program___init__.d (hr.mono (by decide)) (d_cons (dn 1) (d_cons (d_make M A.cls_Procedure D_Procedure___init__.d (hr.mono (by decide)) (d_cons d_str (d_cons (d_tup d_nil) (d_cons (dn 3) d_nil)))) d_nil))))
      (z_cons (z_if (d_tcm (o_dne hu) (d_callD (dfl := [.non]) D_reckoned (fun _ _ => .cons .non .nil) (hr.mono (by decide)) (d_cons (dn 4) (d_cons (d_tup (d_cons d_str (d_cons (d_tup d_nil) d_nil))) (d_cons d_dct0 d_nil)))) (dn 2)) (z_one (z_retF d_bl)) z_nil)
      (z_cons (z_set 5 nd (d_call D__law_pick (hr.mono (by decide)) (d_cons (dn 0) (d_cons (d_lst (d_cons d_non (d_cons (d_neg d_int) (d_cons (d_call D__law_size (hr.mono (by decide)) (d_cons (dn 1) d_nil)) (d_cons d_bl (d_cons d_str (d_cons (d_tup (d_cons d_int d_nil)) (d_cons (d_lst d_nil) (d_cons (d_op o_dpow d_int d_int) d_nil))))))))) d_nil))))
      (z_cons (z_set 6 nd (d_call D__law_pick (hr.mono (by decide)) (d_cons (dn 0) (d_cons (d_lst (d_cons d_non (d_cons d_int (d_cons d_int (d_cons d_bl (d_cons d_str (d_cons (d_tup (d_cons d_int d_nil)) (d_cons (d_lst d_nil) (d_cons (d_neg (d_op o_dpow d_int d_int)) d_nil))))))))) d_nil))))
      (z_cons (z_set 7 nd (d_lstM (d_cons (d_lamB2 (L := (show LamX.lamSB (defScope s__law_right) _ = true from by decide +kernel)) A.d__law_word M sc__law_word rfl (fun _ _ _ _ => (.asx (i := 1) ⟨rfl, by decide, .inl (M.of _ _ A.xe_InvalidNumber.at_)⟩ sc__law_word.nd rfl rfl (fun _ _ _ _ _ hz hf => (z_one (z_ret (d_b Z.repr b_repr (c_dreprG hgd (U.hu_in hr)) (d_cons (d_xf A.xe_InvalidNumber.xf A.xe_InvalidNumber.no hz hf (dn 1)) d_nil))))) .nil)) (fun _ _ _ _ => (z_one (z_ret d_str))) T__law_right (hr.mono (by decide)) (k := 30) (fun _ _ _ _ _ _ _ hr => (x_call D_block_of (hr.mono (by decide)) (x_cons (x_up (dn 6)) (x_cons (x_up (dn 5)) x_nil))))) d_nil)))
      (z_cons (z_expr (d_append (dn 7) (d_cons (d_lamB2 (L := (show LamX.lamSB (defScope s__law_right) _ = true from by decide +kernel)) A.d__law_word M sc__law_word rfl (fun _ _ _ _ => (.asx (i := 1) ⟨rfl, by decide, .inl (M.of _ _ A.xe_InvalidNumber.at_)⟩ sc__law_word.nd rfl rfl (fun _ _ _ _ _ hz hf => (z_one (z_ret (d_b Z.repr b_repr (c_dreprG hgd (U.hu_in hr)) (d_cons (d_xf A.xe_InvalidNumber.xf A.xe_InvalidNumber.no hz hf (dn 1)) d_nil))))) .nil)) (fun _ _ _ _ => (z_one (z_ret d_str))) T__law_right (hr.mono (by decide)) (k := 30) (fun _ _ _ _ _ _ _ hr => (x_call D_block_of (hr.mono (by decide)) (x_cons (x_up (dn 1)) (x_cons (x_up (dn 5)) x_nil))))) d_nil)))
      (z_one (z_retF (d_ecm (o_deqSS hu) (d_stl (dn 7)) (d_lst (d_cons (d_b Z.repr b_repr (c_dreprG hgd hu) (d_cons (dn 6) d_nil)) (d_cons (d_b Z.repr b_repr (c_dreprG hgd hu) (d_cons (dn 5) d_nil)) d_nil))))))))))))))))), ?_⟩
  rintro ds M Q Ed ⟨d, rfl, hd, hP, q⟩
  refine ⟨d, 3, rfl, hd, by decide, by decide, fun r1 M1 hr1 hd1 km1 => ?_⟩
  have hPd : P__law_right ≠ d := fun e => by
    obtain ⟨a, b, c, h⟩ := hd
    rw [e, h] at hP; cases hP
  have hn : OkN (1 + r1) := ⟨by omega, by omega⟩
  generalize hn' : 1 + r1 = n at hn
  have en : (1 : Int) + (r1 : Int) = (n : Int) := by omega
  dsimp only [hAdd]
  rw [en]
  have hp0 : 0 < 2 ^ (n * n) := Nat.pos_of_ne_zero (by simp)
  have hp1 : 2 ^ (n * n) < 1073741824 := by rcases okn3 hn with rfl | rfl | rfl <;> decide
  refine ⟨n, rfl, hn, d, 2 ^ (n * n), rfl, hd1, hp0, hp1, fun r M2 hr2 hd2 km2 => ?_⟩
  refine ⟨.int (n : Nat), .int (r : Nat), rfl, .int _, .int _, .inr ⟨n, rfl, hn, .inr ⟨r, rfl, hr2, ?_⟩⟩⟩
  have B := blk_ok hn hr2
  have hrel := blk_rel hn hr2
  have hpc := main_prc hn hr2
  have hpg := fun R => main_prg (R := R) hn hr2
  have hms := fun R => main_is (R := R) hn hr2
  generalize blkF n r = x at B hrel hpc hpg hms ⊢
  refine ⟨rfl, x, .tup [], rfl, B.pv, .tup [] (Nat.zero_le _) (fun _ h => nomatch h), .inr ⟨[], rfl, hpc.ow, (fun _ => by have := B.len; omega), ?_⟩⟩
  rw [B.body]
  refine ifF (by decide) ?_
  refine ⟨rfl, x, rfl, B.pt, B.nr, B.len, ?_⟩
  refine ifF (by decide) ?_
  refine ⟨n, x, r, rfl, hn, hrel.up, ?_⟩
  refine ifF nn ?_
  refine ⟨rfl, fun p hp => ⟨p, .str "main", .tup [], x, rfl, pv_of (by decide +kernel), .tup [] (Nat.zero_le _) (fun _ h => nomatch h), B.pv, mput_same, .inr ⟨"main", [], rfl, hpc.nm, rfl, hpc.ow, (fun _ => by have := B.len; omega), (fun _ R hR => ?_), fun h => by rw [B.body] at h; cases h⟩⟩⟩
  refine ⟨rfl, _, mput_same, ?_⟩
  rw [mput_put, mdel_put hp]
  refine fun p2 hp2 => ⟨[.ref p2, .int (n : Nat)], [Prc C_Procedure "main" [] x R], rfl, rfl, rfl, p2, .int (n : Nat), [Prc C_Procedure "main" [] x R], rfl, .int _, mput_same, Nat.le_of_ble_eq_true rfl, .inl ⟨[⟨"main", [], x, R⟩], rfl, (fun s hs => (hpg R hR).ok s hs), (fun mm e _ => ?_), fun hno => absurd (hpg R hR) (hno n rfl)⟩⟩
  obtain rfl : mm = n := by injection e with e; omega
  refine ⟨rfl, _, mput_same, ?_⟩
  rw [mput_put, mdel_put hp2]
  refine ⟨rfl, rfl, mm, _, x, r, rfl, hms R hR, ?_⟩
  refine ifF nn ?_
  refine ⟨mm, rfl, hn, ?_⟩
  refine ⟨rfl, rfl, ⟨by decide, by decide⟩, rfl, d, _, rfl, hd2, by simp, by simp, fun y M3 hy hd3 km3 => ?_⟩
  obtain ⟨oy1, oy2, py, oy3, oy4⟩ := bad_v hn hy
  refine ⟨rfl, rfl, ⟨by decide, by decide⟩, rfl, d, _, rfl, hd3, by simp, by decide, fun z M4 hz hd4 km4 => ?_⟩
  obtain ⟨oz1, oz2, pz, oz3, oz4⟩ := none_v hz
  have kmA : Km d M M4 := km1.trans (km2.trans (km3.trans km4))
  have hP4 : M4 P__law_right = some (.tbl QL) := by rw [kmA _ hPd]; exact hP
  refine new_seq (s := pz.shown) hP4 (fun Qn D' qd => ⟨z, y, rfl, oz1, oy1, .inl ⟨oz2, met_num A oz3 qd⟩⟩) fun tt htt => ?_
  have hPt : P__law_right ≠ tt := fun e => by rw [← e, hP4] at htt; cases htt
  have hPo : ∀ o, mput M4 tt o P__law_right = some (.tbl QL) := fun o => by rw [mput_ne hPt]; exact hP4
  refine app_seq (s := py.shown) rfl mput_same (by simp) (hPo _) (fun Qn D' qd => ⟨.int (mm : Nat), y, rfl, .int _, oy1, .inr ⟨mm, rfl, hn, .inl ⟨oy2, met_num A oy3 qd⟩⟩⟩) ?_
  rw [mput_put]
  refine ⟨_, mput_same, pz, oz3, py, oy3, rfl, [pz.shown, py.shown], rfl, rfl, ?_⟩
  refine ⟨M4, ?_, q M4 hd4 kmA⟩
  rw [mdel_put htt]; exact fun _ _ h => h

end K68
set_option Elab.async false
set_option linter.all false
set_option maxRecDepth 100000
set_option maxHeartbeats 4000000




namespace K68
open PySem PySem.Spec PyProof.Rows L2 U
theorem D_law {P : Program} {w : World} {K : PySem.W.Frag} {mg : Str → Option Value} {base : Heap} {C_Procedure : Addr} {C_Program : Addr} {C_Space : Addr} {C_Look : Addr} {C_Reckoner : Addr} {C_InvalidProgram : Addr} {C_InvalidMeaning : Addr} {C_InvalidOperation : Addr} {C_InvalidNumber : Addr} {c__law_right : Addr} {P__law_right : Addr} (A : Facts K C_Procedure C_Program C_Space C_Look C_Reckoner C_InvalidProgram C_InvalidMeaning C_InvalidOperation C_InvalidNumber c__law_right P__law_right) (M : MgOf K mg) (Z : Zs mg) {f : Addr} {fd : FuncData} (F : Fun K "law" "law" s_law f fd)
  (D__law_pail : KnD P w K mg base "_law_pail" 1 ["_law_script", "_law_at"] spNumbers) (D__law_right : KnDG P w K mg base "_law_right" 38 ["_law_pail_here"] (spRight P__law_right)) (D_block_of : KnXD P w K mg base "block_of" 7 ["modes", "relation"] (spBlockOf C_InvalidNumber)) (D__law_reckon : KnD P w K mg base "_law_reckon" 8 ["_law_modes", "_law_term", "_law_mine", "_law_book", "_law_asked_here"] (spReck 3)) : FnOkG P w K mg base CX0 40 f fd ["_law_script"] (LSp K (spLawT [(P__law_right, QL)])) := by
  refine fnok_ofG F sc_law (fun ds M Q E ⟨_, h, _⟩ => by rw [h]; rfl) (fun f cdv A0 outer s H E hgd hr => ?_)
  have hu := U.hu_of hr
  have hu1 := U.hu1_of hr
  have nd := sc_law.nd
  refine ⟨_, (z_cons (z_for PassesOwn.never rfl (d_rg1 Z.range (d_cons (d_b Z.max b_max (c_dmax rfl) (d_cons d_int (d_cons (d_b Z.min b_min (c_dmin rfl) (d_cons d_int (d_cons (d_b Z.len b_len c_dlen (d_cons (dn 0) d_nil)) d_nil))) d_nil))) d_nil)) (t_n 1 nd) (z_cons (z_set 2 nd (d_call D__law_pail (hr.mono (by decide)) (d_cons (dn 0) (d_cons (dn 1) d_nil))))
      (z_one (z_for PassesOwn.never rfl (d_rg1 Z.range (d_cons d_int d_nil)) (t_n 3 nd) (z_one (z_if (d_tnot (d_tv (d_callG hgd D__law_right (hr.mono (by decide)) (d_cons (dn 2) d_nil)))) (z_one (z_ret d_bl)) z_nil))))))
      (z_cons (z_set 4 nd (d_lst (d_cons (d_call D_block_of.d (hr.mono (by decide)) (d_cons d_int (d_cons d_int d_nil))) (d_cons (d_call D_block_of.d (hr.mono (by decide)) (d_cons d_int (d_cons d_int d_nil))) (d_cons (d_call D_block_of.d (hr.mono (by decide)) (d_cons d_int (d_cons d_int d_nil))) (d_cons (d_call D_block_of.d (hr.mono (by decide)) (d_cons d_int (d_cons d_int d_nil))) d_nil))))))
      (z_cons (z_set 5 nd (d_lst (d_cons (d_call D__law_reckon (hr.mono (by decide)) (d_cons d_int (d_cons (d_ix (dn 4) d_int) (d_cons d_dct0 (d_cons d_dct0 (d_cons d_dct0 d_nil)))))) (d_cons (d_call D__law_reckon (hr.mono (by decide)) (d_cons d_int (d_cons (d_ix (dn 4) d_int) (d_cons d_dct0 (d_cons d_dct0 (d_cons d_dct0 d_nil)))))) d_nil))))
      (z_one (z_ret (d_ecm (o_deq hu) (d_op o_dadd (dn 5) (d_lc (own := [("_law_term", 6)]) (c := (.n 6)) rfl nd (d_it (d_sl (dn 4) (d_psome d_int) d_pnone)) (blkOk_by (own := [("_law_term", 6)]) (N := N_law) (sc := defScope s_law) (by decide +kernel)) (fun _ _ _ _ _ => (gn 6 nd)) (fun _ _ _ _ _ => d_ts0) (fun _ _ _ _ _ => (d_call D__law_reckon (hr.mono (by decide)) (d_cons d_int (d_cons (dn 6) (d_cons d_dct0 (d_cons d_dct0 (d_cons d_dct0 d_nil))))))))) (d_lst (d_cons d_int (d_cons d_int (d_cons d_int (d_cons d_int d_nil))))))))))), ?_⟩
  rintro ds M Q Ed ⟨ns, rfl, hl, hq, q⟩
  have hP : M P__law_right = some (.tbl QL) := hq (P__law_right, QL) (by simp)
  obtain ⟨k, hk, hk2⟩ : ∃ k : Nat, (if (if (((ns.map Da.int).length : Nat) : Int) < 6 then (((ns.map Da.int).length : Nat) : Int) else 6) > 1 then (if (((ns.map Da.int).length : Nat) : Int) < 6 then (((ns.map Da.int).length : Nat) : Int) else 6) else 1) = (k : Int) ∧ k ≤ 6 := by
    refine ⟨(if (if (((ns.map Da.int).length : Nat) : Int) < 6 then (((ns.map Da.int).length : Nat) : Int) else 6) > 1 then (if (((ns.map Da.int).length : Nat) : Int) < 6 then (((ns.map Da.int).length : Nat) : Int) else 6) else 1).toNat, ?_, ?_⟩
    · rw [Int.toNat_of_nonneg]
      split <;> split <;> omega
    · split <;> split <;> omega
  refine ⟨rok (by rw [hk]; omega) (by rw [hk]; omega), ?_⟩
  rw [hk]
  refine forD_rng (n := k) (fun j δ M' => (∃ u1 u2 u3, δ = [some (.lst (ns.map Da.int)), u1, u2, u3, none, none, none]) ∧ M' P__law_right = some (.tbl QL)) ?_ ?_ ⟨⟨_, _, _, rfl⟩, hP⟩
  · rintro j δ M' NX hj ⟨⟨u1, u2, u3, rfl⟩, hP'⟩ nx
    refine ⟨ns, j, rfl, hl, by omega, fun d a b c hd => ?_⟩
    have hne : P__law_right ≠ d := fun e => by rw [← e, hP'] at hd; cases hd
    refine ⟨rok (by decide) (by decide), ?_⟩
    refine forD_rng (n := 4) (fun i δ M3 => (∃ v1 v3, δ = [some (.lst (ns.map Da.int)), v1, some (.ref d), v3, none, none, none]) ∧ Die d M3 ∧ M3 P__law_right = some (.tbl QL)) ?_ ?_ ⟨⟨_, _, rfl⟩, ⟨_, _, _, mput_same⟩, by rw [mput_ne hne]; exact hP'⟩
    · rintro i δ M3 NX3 hi ⟨⟨v1, v3, rfl⟩, hd3, h3⟩ nx3
      exact ⟨d, rfl, hd3, h3, fun M4 hd4 km4 => nx3 _ _ ⟨⟨_, _, rfl⟩, hd4, by rw [km4 _ hne]; exact h3⟩⟩
    · rintro δ M3 ⟨⟨v1, v3, rfl⟩, hd3, h3⟩
      exact nx _ _ ⟨⟨_, _, _, rfl⟩, h3⟩
  · rintro δ M' ⟨⟨u1, u2, u3, rfl⟩, _⟩
    have k1 : OkN 1 := ⟨by decide, by decide⟩
    have k2 : OkN 2 := ⟨by decide, by decide⟩
    have r10 := (blk_rel k1 (show 0 < 2 ^ (1 * 1) by decide)).up
    have r11 := (blk_rel k1 (show 1 < 2 ^ (1 * 1) by decide)).up
    have r20 := (blk_rel k2 (show 0 < 2 ^ (2 * 2) by decide)).up
    have r2f := (blk_rel k2 (show 15 < 2 ^ (2 * 2) by decide)).up
    refine ⟨_, _, rfl, .int _, .int _, .inr ⟨1, rfl, k1, .inr ⟨0, rfl, by decide, ?_⟩⟩⟩
    refine ⟨_, _, rfl, .int _, .int _, .inr ⟨1, rfl, k1, .inr ⟨1, rfl, by decide, ?_⟩⟩⟩
    refine ⟨_, _, rfl, .int _, .int _, .inr ⟨2, rfl, k2, .inr ⟨0, rfl, by decide, ?_⟩⟩⟩
    refine ⟨_, _, rfl, .int _, .int _, .inr ⟨2, rfl, k2, .inr ⟨15, rfl, by decide, ?_⟩⟩⟩
    generalize blkF 1 0 = x10 at r10 ⊢
    generalize blkF 1 1 = x11 at r11 ⊢
    generalize blkF 2 0 = x20 at r20 ⊢
    generalize blkF 2 15 = x2f at r2f ⊢
    refine ⟨rfl, ?_⟩
    refine ⟨_, at0, 1, x10, 0, rfl, k1, r10, ?_⟩
    refine ⟨_, at1, 1, x11, 1, rfl, k1, r11, ?_⟩
    refine ⟨rfl, ?_⟩
    have hc : U.cutD [x10, x11, x20, x2f] (some 2) none = [x20, x2f] := rfl
    show Sz (U.cutD [x10, x11, x20, x2f] (some 2) none).length ∧ lcD _ _ _ _ (U.cutD [x10, x11, x20, x2f] (some 2) none) _ _
    rw [hc]
    refine ⟨rfl, trivial, 2, x20, 0, rfl, k2, r20, ?_⟩
    refine ⟨trivial, 2, x2f, 15, rfl, k2, r2f, ?_⟩
    refine ⟨rfl, ?_⟩
    refine ⟨rfl, ?_⟩
    refine ⟨rfl, rfl, ?_⟩
    exact q _

end K68
set_option Elab.async false
set_option linter.all false
set_option maxRecDepth 100000
set_option maxHeartbeats 4000000







namespace K68
open PySem PySem.Spec PyProof.Rows L2 U
theorem fin {P : Program} {w : World} {K : PySem.W.Frag} {mg : Str → Option Value} {h : Heap} {ts : List Addr} (X : K.In h) (G : h.Ns mainGlobals mg) (A : ∃ C1 C2 C3 C4 C5 C6 C7 C8 C9 c1 P1, Facts K C1 C2 C3 C4 C5 C6 C7 C8 C9 c1 P1 ∧ P1 ∈ ts) :
    HasDef K "law" s_law ∧ ∃ (cs : List (Addr × Addr)) (qs : List (Addr × Str)), (∀ p ∈ cs, p.2 ∈ ts ∧ K.lookup p.2 = none ∧ PySem.W.codeHdIn K p.1 p.2 = true) ∧
      qs.map (·.1) = cs.map (·.2) ∧ (qs.map (·.1)).Nodup ∧ ∀ (f : Addr) (fd : FuncData) (base : Heap), K.In base → base.Ns mainGlobals mg → (∀ p ∈ cs, LamX.TabB base mg p.1 p.2) → Fun K "law" "law" s_law f fd → FnOkG P w K mg base CX0 40 f fd ["_law_script"] (LSp K (spLawT qs)) := by
  obtain ⟨C1, C2, C3, C4, C5, C6, C7, C8, C9, c1, P1, A, hts⟩ := A
  refine ⟨A.d_law, [(c1, P1)], [(P1, QL)], fun p hp => ?_, rfl, by simp, ?_⟩
  · rw [List.mem_singleton.mp hp]
    exact ⟨hts, A.tb__law_right.no, A.tb__law_right.hd⟩
  · intro f fd base X' G' T F
    have T__law_right : LamX.TabB base mg c1 P1 := T (c1, P1) List.mem_cons_self
    have M := MgOf.mk' X G
    have Z := zs_of A M
    have d_InvalidNumber___init__ := D_InvalidNumber___init__ (P := P) (w := w) (base := base) A M Z 
    have d_is_integer := D_is_integer (P := P) (w := w) (base := base) A M Z 
    have d_is_from := D_is_from (P := P) (w := w) (base := base) A M Z d_is_integer
    have d_is_name := D_is_name (P := P) (w := w) (base := base) A M Z 
    have d_has_word := D_has_word (P := P) (w := w) (base := base) A M Z 
    have d_is_deed_table := D_is_deed_table (P := P) (w := w) (base := base) A M Z d_is_from
    have d_is_kind := D_is_kind (P := P) (w := w) (base := base) A M Z 
    have d_is_term_in := D_is_term_in (P := P) (w := w) (base := base) A M Z d_has_word d_is_name d_is_deed_table d_is_kind
    have d_inside := D_inside (P := P) (w := w) (base := base) A M Z 
    have d_pieces_of := D_pieces_of (P := P) (w := w) (base := base) A M Z d_inside
    have d_are_parameters := D_are_parameters (P := P) (w := w) (base := base) A M Z d_is_name
    have d_is_body := D_is_body (P := P) (w := w) (base := base) A M Z d_is_term_in d_pieces_of
    have d_Procedure___init__ := D_Procedure___init__ (P := P) (w := w) (base := base) A M Z d_is_name d_are_parameters d_is_body d_pieces_of
    have d_is_term := D_is_term (P := P) (w := w) (base := base) A M Z d_are_parameters d_is_body
    have d_Procedure___len__ := D_Procedure___len__ (P := P) (w := w) (base := base) A M Z 
    have d_Procedure___eq__ := D_Procedure___eq__ (P := P) (w := w) (base := base) A M Z 
    have d_Procedure___str__ := D_Procedure___str__ (P := P) (w := w) (base := base) A M Z 
    have d_kind_of := D_kind_of (P := P) (w := w) (base := base) A M Z 
    have d_are_fit := D_are_fit (P := P) (w := w) (base := base) A M Z d_kind_of
    have d_Program___init__ := D_Program___init__ (P := P) (w := w) (base := base) A M Z d_is_from d_are_fit
    have d_Program___len__ := D_Program___len__ (P := P) (w := w) (base := base) A M Z 
    have d_Program_has_name := D_Program_has_name (P := P) (w := w) (base := base) A M Z 
    have d_Program___contains__ := D_Program___contains__ (P := P) (w := w) (base := base) A M Z d_Program_has_name
    have d_Program___str__ := D_Program___str__ (P := P) (w := w) (base := base) A M Z 
    have d_Space___init__ := D_Space___init__ (P := P) (w := w) (base := base) A M Z d_is_from
    have d_Space_is_relation := D_Space_is_relation (P := P) (w := w) (base := base) A M Z d_is_from
    have d_Space_bit := D_Space_bit (P := P) (w := w) (base := base) A M Z 
    have d_Space_has := D_Space_has (P := P) (w := w) (base := base) A M Z d_Space_bit
    have d_Space_require_relation := D_Space_require_relation (P := P) (w := w) (base := base) A M Z d_Space_is_relation d_InvalidNumber___init__
    have d_Space_is_table := D_Space_is_table (P := P) (w := w) (base := base) A M Z d_Space_is_relation
    have d_Space_pairs := D_Space_pairs (P := P) (w := w) (base := base) A M Z d_Space_require_relation d_Space_has
    have d__law_pail := D__law_pail (P := P) (w := w) (base := base) A M Z 
    have d__law_dip := D__law_dip (P := P) (w := w) (base := base) A M Z 
    have d__law_pick := D__law_pick (P := P) (w := w) (base := base) A M Z d__law_dip
    have d_deed_from := D_deed_from (P := P) (w := w) (base := base) A M Z 
    have d_either_of := D_either_of (P := P) (w := w) (base := base) A M Z 
    have d_block_in := D_block_in (P := P) (w := w) (base := base) A M Z d_either_of d_Space_pairs d_deed_from
    have d__law_has := D__law_has (P := P) (w := w) (base := base) A M Z 
    have d__law_bit := D__law_bit (P := P) (w := w) (base := base) A M Z 
    have d__law_size := D__law_size (P := P) (w := w) (base := base) A M Z 
    have d__law_either := D__law_either (P := P) (w := w) (base := base) A M Z d__law_has d__law_bit
    have d__law_after := D__law_after (P := P) (w := w) (base := base) A M Z 
    have d__law_asked := D__law_asked (P := P) (w := w) (base := base) A M Z 
    have d__law_meanings := D__law_meanings (P := P) (w := w) (base := base) A M Z 
    have d__law_reckon := D__law_reckon (P := P) (w := w) (base := base) A M Z d__law_asked d__law_meanings d__law_after d__law_either d__law_bit
    have d__law_pieces := D__law_pieces (P := P) (w := w) (base := base) A M Z 
    have d__law_depth := D__law_depth (P := P) (w := w) (base := base) A M Z 
    have d__law_is_plain := D__law_is_plain (P := P) (w := w) (base := base) A M Z d__law_pieces d__law_depth
    have d_block_of := D_block_of (P := P) (w := w) (base := base) A M Z d_is_from d_InvalidNumber___init__ d_Space___init__ d_Space_require_relation d_block_in
    have d_Look___init__ := D_Look___init__ (P := P) (w := w) (base := base) A M Z 
    have d_Reckoner___init__ := D_Reckoner___init__ (P := P) (w := w) (base := base) A M Z d_Space___init__
    have d_Reckoner_deed := D_Reckoner_deed (P := P) (w := w) (base := base) A M Z d_Space_bit
    have d_Reckoner_term := D_Reckoner_term (P := P) (w := w) (base := base) A M Z d_Reckoner_deed
    have d_Reckoner_own_meanings := D_Reckoner_own_meanings (P := P) (w := w) (base := base) A M Z 
    have d_Reckoner_reckon := D_Reckoner_reckon (P := P) (w := w) (base := base) A M Z d_Reckoner_term d_Reckoner_own_meanings
    have d_Reckoner_is_meaning := D_Reckoner_is_meaning (P := P) (w := w) (base := base) A M Z 
    have d_Reckoner_is_context := D_Reckoner_is_context (P := P) (w := w) (base := base) A M Z d_Program_has_name d_Reckoner_is_meaning
    have d_Reckoner_is_plain_book := D_Reckoner_is_plain_book (P := P) (w := w) (base := base) A M Z d_Reckoner_is_context d_Space_is_relation
    have d_require_program := D_require_program (P := P) (w := w) (base := base) A M Z 
    have d_require_word := D_require_word (P := P) (w := w) (base := base) A M Z d_is_name
    have d_reckoner_of := D_reckoner_of (P := P) (w := w) (base := base) A M Z d_require_program d_require_word d_Reckoner___init__
    have d_looked := D_looked (P := P) (w := w) (base := base) A M Z d_reckoner_of d_Reckoner_is_context d_Reckoner_is_plain_book d_Look___init__ d_Reckoner_reckon
    have d_reckoned := D_reckoned (P := P) (w := w) (base := base) A M Z d_looked
    have d__law_right := D__law_right (P := P) (w := w) (base := base) A M Z T__law_right d__law_dip d__law_size d_block_of d_is_term d__law_is_plain d__law_reckon d_Program___init__ d_Procedure___init__ d_reckoned d__law_pick
    exact D_law A M Z F d__law_pail d__law_right d_block_of d__law_reckon
end K68
namespace PySem.W.Fast
def tw4978969051305532416 : Unit := ()
def tw3170885232580855872 : Unit := ()
def tw12045477774317460544 : Unit := ()
def tw7111377936947021952 : Unit := ()
def tw5656346825464305792 : Unit := ()
def tw14372384637602988192 : Unit := ()
def tw13890449056494645408 : Unit := ()
def tw11080887417683336512 : Unit := ()
def tw4573494477487215968 : Unit := ()
def tw18201578499851005344 : Unit := ()
def tw11819592789320979872 : Unit := ()
def tw10170923121783735744 : Unit := ()
def tw11314600655957856704 : Unit := ()
def tw8356275884061697472 : Unit := ()
def tw8485980509443686880 : Unit := ()
def tw8081856397412943328 : Unit := ()
def tw17026191361389742560 : Unit := ()
def tw6319142869481513440 : Unit := ()
def tw11699880260872113664 : Unit := ()
def tw15480258623428764160 : Unit := ()
def tw6971179379531738656 : Unit := ()
def tw7252080603382683264 : Unit := ()
def tw12145868153039066752 : Unit := ()
def tw3903595399731113600 : Unit := ()
def tw12921523463264094880 : Unit := ()
def tw7977691708589890240 : Unit := ()
def tw7199190721936835296 : Unit := ()
def tw17193166026835974880 : Unit := ()
def tw2815075732688129792 : Unit := ()
def tw14050141618395383648 : Unit := ()
def tw8168639111860823936 : Unit := ()
def tw3716141523318309792 : Unit := ()
def tw7264970274434465696 : Unit := ()
def tw5273989744010447776 : Unit := ()
def tw6962120133818829760 : Unit := ()
def tw13763348562057408480 : Unit := ()
def tw17513227891053489120 : Unit := ()
def tw9724111343302472737 : Unit := ()
def tw12859195032805548129 : Unit := ()
def tw9843422553188227169 : Unit := ()
def tw17021355336188271777 : Unit := ()
def tw3455260236413412513 : Unit := ()
def tw5640256536562752673 : Unit := ()
def tw6062842171823618209 : Unit := ()
def tw1922054825802807553 : Unit := ()
def tw15868319392744488193 : Unit := ()
def tw14119695113307016481 : Unit := ()
def tw6594028218196426017 : Unit := ()
def tw17184910118703635841 : Unit := ()
def tw2676229628989766017 : Unit := ()
def tw1240900566923174305 : Unit := ()
def tw5142881893353128385 : Unit := ()
def tw10101290246830598593 : Unit := ()
def tw16184235236214191585 : Unit := ()
def tw369525479692307969 : Unit := ()
def tw17203180897817221633 : Unit := ()
def tw6693232058357938689 : Unit := ()
def tw12195813847605562913 : Unit := ()
def tw2180494164789966401 : Unit := ()
def tw2386314322273659457 : Unit := ()
def tw7854517744708784737 : Unit := ()
def tw3050851731504940641 : Unit := ()
def tw573779111361496705 : Unit := ()
def tw17191729485134658241 : Unit := ()
def tw2670878125821659873 : Unit := ()
def tw258620626237859553 : Unit := ()
def tw1527514328213224161 : Unit := ()
def tw18275377203189120737 : Unit := ()
def tw1707131822281176865 : Unit := ()
def tw664953428672662337 : Unit := ()
def tw3900602658451518305 : Unit := ()
def tw12250831957272924033 : Unit := ()
def tw987472754905137025 : Unit := ()
def tw9019160619836132225 : Unit := ()
def tw6118236334428190593 : Unit := ()
def tw3661514023829997473 : Unit := ()
def tw14632235334282228641 : Unit := ()
def tw9687015959173393313 : Unit := ()
def tw3553996143500919745 : Unit := ()
def tw18129184870160755649 : Unit := ()
def tw16238233280936070113 : Unit := ()
def tw8287419548611058722 : Unit := ()
def tw11495505658849173570 : Unit := ()
def tw10422996186062794818 : Unit := ()
def tw1001322467147293890 : Unit := ()
def tw10051616394730511650 : Unit := ()
def tw5133498318388574498 : Unit := ()
def tw6491118328169255234 : Unit := ()
def tw10965958001498004866 : Unit := ()
def tw13958238471764579746 : Unit := ()
def tw17824220133508636066 : Unit := ()
def tw3547427226425681314 : Unit := ()
def tw15395961660140637794 : Unit := ()
def tw16697013840205570658 : Unit := ()
def tw10532041154722572962 : Unit := ()
def tw3778614024921868994 : Unit := ()
def tw8335730552159457058 : Unit := ()
def tw28438555739513666 : Unit := ()
def tw15344429242161576802 : Unit := ()
def tw11213948290861195106 : Unit := ()
def tw5919906140429202338 : Unit := ()
def tw857815806603321250 : Unit := ()
def tw13049132080660701090 : Unit := ()
def tw7555231003817135074 : Unit := ()
def tw17850877445755117571 : Unit := ()
def tw18181144672386426883 : Unit := ()
def tw4830736568883559427 : Unit := ()
def tw3503881732673138691 : Unit := ()
def tw6169375153540790371 : Unit := ()
def tw3973737806247868579 : Unit := ()
def tw17772672914162162883 : Unit := ()
def tw3552081802110112003 : Unit := ()
def tw2539352908160718083 : Unit := ()
def tw12764375364696959267 : Unit := ()
def tw12215312308512207203 : Unit := ()
def tw18163461388114381155 : Unit := ()
def tw11398603936148999523 : Unit := ()
def tw16049113213874706819 : Unit := ()
def tw10194460386699365763 : Unit := ()
def tw10545892434029407619 : Unit := ()
def tw11821365967189047715 : Unit := ()
def tw12685498932794407363 : Unit := ()
def tw10908598575025400291 : Unit := ()
def tw2218625694639670819 : Unit := ()
def tw11064728010726753859 : Unit := ()
def tw771904810479750755 : Unit := ()
def tw2063342332773614179 : Unit := ()
def tw2320298351678459523 : Unit := ()
def tw11551546493695424131 : Unit := ()
def tw2445627637155369635 : Unit := ()
def tw8747298256134741699 : Unit := ()
def tw10728431966702441315 : Unit := ()
def tw14431885947518547811 : Unit := ()
def tw9626459943578931107 : Unit := ()
def tw2531402655908015011 : Unit := ()
def tw9234495290655124387 : Unit := ()
def tw12818525193522202563 : Unit := ()
def tw17664472048072127427 : Unit := ()
def tw2388981555322486788 : Unit := ()
def tw14856945054923054180 : Unit := ()
def tw5014180704349842532 : Unit := ()
def tw2365302735060698244 : Unit := ()
def tw11777079177430963332 : Unit := ()
def tw1721071450861674628 : Unit := ()
def tw11379154040810047652 : Unit := ()
def tw6996174539679333572 : Unit := ()
def tw14800574271983758564 : Unit := ()
def tw1798252992474560740 : Unit := ()
def tw13782738191972167940 : Unit := ()
def tw16722094562903817476 : Unit := ()
def tw6353418001868078372 : Unit := ()
def tw553858493932912932 : Unit := ()
def tw1348337429736472900 : Unit := ()
def tw17171528635572612420 : Unit := ()
def tw960927747852287332 : Unit := ()
def tw10039856355662151012 : Unit := ()
def tw11812062078210263396 : Unit := ()
def tw2673606874650042724 : Unit := ()
def tw9231932521950798244 : Unit := ()
def tw6838903430499793380 : Unit := ()
def tw9786987392536132100 : Unit := ()
def tw11304531538832584196 : Unit := ()
def tw13114265199606457892 : Unit := ()
def tw4847268315173391940 : Unit := ()
def tw363783021701848644 : Unit := ()
def tw15017445066831880772 : Unit := ()
def tw5927474764396555876 : Unit := ()
def tw14585933286964176516 : Unit := ()
def tw2951043498603474564 : Unit := ()
def tw2114069315431221924 : Unit := ()
def tw7704021235532354244 : Unit := ()
def tw16952152622621269732 : Unit := ()
def tw16172446039891835652 : Unit := ()
def tw15664515282584358692 : Unit := ()
def tw1740008526611512164 : Unit := ()
def tw391323680654990212 : Unit := ()
def tw9083658343682388868 : Unit := ()
def tw7309429288295809956 : Unit := ()
def tw1593888683881984964 : Unit := ()
def tw3150776507208500196 : Unit := ()
def tw7485238742139954148 : Unit := ()
def tw18039214920012052485 : Unit := ()
def tw726552210723782661 : Unit := ()
def tw2608119595325539397 : Unit := ()
def tw11194864183263864933 : Unit := ()
def tw8835149824595510373 : Unit := ()
def tw3610238301870343269 : Unit := ()
def tw11052022834155937957 : Unit := ()
def tw16284159273552021701 : Unit := ()
def tw8841275127364340965 : Unit := ()
def tw1790871930804925669 : Unit := ()
def tw14177007698732095749 : Unit := ()
def tw18190508961870379269 : Unit := ()
def tw14493309146807849285 : Unit := ()
def tw13681974528806948197 : Unit := ()
def tw14896799654859122021 : Unit := ()
def tw4115299335004905829 : Unit := ()
def tw5980133607588919653 : Unit := ()
def tw6032851869355011461 : Unit := ()
def tw3616550284810292645 : Unit := ()
def tw6641472620145291717 : Unit := ()
def tw14279860261855285701 : Unit := ()
def tw12593196452717028805 : Unit := ()
def tw5246699822039631333 : Unit := ()
def tw780106255299910117 : Unit := ()
def tw1904336231675681253 : Unit := ()
def tw1145611941908485637 : Unit := ()
def tw1297400550099728901 : Unit := ()
def tw1512923451371530789 : Unit := ()
def tw4600646352314466917 : Unit := ()
def tw10354729829655517797 : Unit := ()
def tw8238283341063650917 : Unit := ()
def tw2586300277134881413 : Unit := ()
def tw3602034370488106693 : Unit := ()
def tw11252280136720033541 : Unit := ()
def tw15826311572475805477 : Unit := ()
def tw784190753011900293 : Unit := ()
def tw10413452288113586085 : Unit := ()
def tw5120012150725523365 : Unit := ()
def tw7736465233263345573 : Unit := ()
def tw1654422013607006149 : Unit := ()
def tw8710077468555869157 : Unit := ()
def tw1360698714816402438 : Unit := ()
def tw2891000397962355750 : Unit := ()
def tw9145255829920939046 : Unit := ()
def tw9277655227972325446 : Unit := ()
def tw4723839976334695526 : Unit := ()
def tw769884700571188326 : Unit := ()
def tw17580399657179506790 : Unit := ()
def tw4714983300918931558 : Unit := ()
def tw3054726370485992550 : Unit := ()
def tw6904694382242988166 : Unit := ()
def tw4481187154030772358 : Unit := ()
def tw1713003464091139206 : Unit := ()
def tw6529513326351385766 : Unit := ()
def tw12691035608607929510 : Unit := ()
def tw530976740438056134 : Unit := ()
def tw3062983053852357830 : Unit := ()
def tw13713793030018519270 : Unit := ()
def tw81479767823768838 : Unit := ()
def tw12972223813218036998 : Unit := ()
def tw13044178739378022694 : Unit := ()
def tw11960075870904998214 : Unit := ()
def tw6919159663992928582 : Unit := ()
def tw4563731057866828134 : Unit := ()
def tw14913699893177678214 : Unit := ()
def tw9991389601149792678 : Unit := ()
def tw9970189784125062566 : Unit := ()
def tw14341907578196844966 : Unit := ()
def tw6737822097052951974 : Unit := ()
def tw4398526063203003910 : Unit := ()
def tw7156422983818916358 : Unit := ()
def tw18216835017369273862 : Unit := ()
def tw7359926319122482726 : Unit := ()
def tw2489781294882101798 : Unit := ()
def tw17148212127862069798 : Unit := ()
def tw10362214573352085030 : Unit := ()
def tw14840985001404630598 : Unit := ()
def tw12117626969149673030 : Unit := ()
def tw3674834041998999110 : Unit := ()
def tw7721378441371859590 : Unit := ()
def tw3979139609151814278 : Unit := ()
def tw12067010691545383558 : Unit := ()
def tw14505949008225687174 : Unit := ()
def tw17506866841986371238 : Unit := ()
def tw2989537398640626342 : Unit := ()
def tw1015993499002161830 : Unit := ()
def tw17702388407297888934 : Unit := ()
def tw16481583935543869094 : Unit := ()
def tw9035144781529481926 : Unit := ()
def tw10163299176798351046 : Unit := ()
def tw17510221502744100550 : Unit := ()
def tw13737068769578271526 : Unit := ()
def tw14847763790671470374 : Unit := ()
def tw16312941762183207750 : Unit := ()
def tw1372986718685573990 : Unit := ()
def tw3929352187075588966 : Unit := ()
def tw1803433294221613958 : Unit := ()
def tw18111144977908888454 : Unit := ()
def tw585712627543516070 : Unit := ()
def tw2357842228259678118 : Unit := ()
def tw7902773210070478790 : Unit := ()
def tw15231352076680412134 : Unit := ()
def tw2074928726989425638 : Unit := ()
def tw7027594423256162311 : Unit := ()
def tw9725843283925773319 : Unit := ()
def tw16842659246866908167 : Unit := ()
def tw5346989600013505575 : Unit := ()
def tw2046875370175477831 : Unit := ()
def tw12861275879977732199 : Unit := ()
def tw14022991968631811175 : Unit := ()
def tw11800312513318389895 : Unit := ()
def tw8213136119511189671 : Unit := ()
def tw17122532828830283975 : Unit := ()
def tw16088442729764673735 : Unit := ()
def tw10579143384827956455 : Unit := ()
def tw18032374411833216327 : Unit := ()
def tw15229174598989483335 : Unit := ()
def tw9855230190217433415 : Unit := ()
def tw5606085493379018055 : Unit := ()
def tw13031154248091755847 : Unit := ()
def tw3137134374800058695 : Unit := ()
def tw17628569820374479207 : Unit := ()
def tw10359528516949540199 : Unit := ()
def tw799722805166316967 : Unit := ()
def tw3381084868439944615 : Unit := ()
def tw14146114570915174855 : Unit := ()
def tw15840764673312763367 : Unit := ()
def tw6698830896841830887 : Unit := ()
def tw8251984360801454599 : Unit := ()
def tw8592740553082995239 : Unit := ()
def tw6736546539295085095 : Unit := ()
def tw4103460457327833671 : Unit := ()
def tw4139151529052758599 : Unit := ()
def tw1207432231746706023 : Unit := ()
def tw8281879090644644455 : Unit := ()
def tw17365176535207573095 : Unit := ()
def tw328607997980232359 : Unit := ()
def tw13267081570442111655 : Unit := ()
def tw13424991834635349703 : Unit := ()
def tw16664664801900163783 : Unit := ()
def tw15391349735977322215 : Unit := ()
def tw8483297721969324807 : Unit := ()
def tw11405474986877643559 : Unit := ()
def tw14469053638332987207 : Unit := ()
def tw5064343034469531463 : Unit := ()
def tw9748087124637366119 : Unit := ()
def tw8159718769386964839 : Unit := ()
def tw10800142366136998887 : Unit := ()
def tw10312377916291006504 : Unit := ()
def tw14831159198718512168 : Unit := ()
def tw9638932501933479976 : Unit := ()
def tw3217297235141353512 : Unit := ()
def tw11474134133580001320 : Unit := ()
def tw3836869839148185640 : Unit := ()
def tw14981923909349249096 : Unit := ()
def tw5978957001851716712 : Unit := ()
def tw13060143832273680520 : Unit := ()
def tw15226477457522506920 : Unit := ()
def tw12195912992878345384 : Unit := ()
def tw17012469029483690184 : Unit := ()
def tw4969870137871424712 : Unit := ()
def tw14058777117742194952 : Unit := ()
def tw1369979550895930632 : Unit := ()
def tw9971613756000862568 : Unit := ()
def tw13664718289212215656 : Unit := ()
def tw2462913356683477416 : Unit := ()
def tw15256195775461707176 : Unit := ()
def tw12636674674755327400 : Unit := ()
def tw14155745160164240808 : Unit := ()
def tw17662108893905897928 : Unit := ()
def tw14139877232669558280 : Unit := ()
def tw15066606472482672136 : Unit := ()
def tw14639506627576584712 : Unit := ()
def tw17039131932455706152 : Unit := ()
def tw450286170126362184 : Unit := ()
def tw18444553346004173384 : Unit := ()
def tw1124306505337827976 : Unit := ()
def tw17290596917430581896 : Unit := ()
def tw15828605374873452232 : Unit := ()
def tw7753748668983860968 : Unit := ()
def tw15818543857226212072 : Unit := ()
def tw6268599539426721512 : Unit := ()
def tw13017736325119219464 : Unit := ()
def tw10744134214545975048 : Unit := ()
def tw2992069430902542088 : Unit := ()
def tw3499246542021697320 : Unit := ()
def tw16305275524826857288 : Unit := ()
def tw2391916239530005352 : Unit := ()
def tw2236711485139782568 : Unit := ()
def tw938908949258350504 : Unit := ()
def tw4187991799359176616 : Unit := ()
def tw18067063677437490120 : Unit := ()
def tw15986435718172603336 : Unit := ()
def tw1245081058055877576 : Unit := ()
def tw5094584849846671336 : Unit := ()
def tw9366033497445670888 : Unit := ()
def tw11070896128456874984 : Unit := ()
def tw17841836167106878440 : Unit := ()
def tw13473248814465705993 : Unit := ()
def tw8188505074148153417 : Unit := ()
def tw15325517963266016329 : Unit := ()
def tw11510137990546239593 : Unit := ()
def tw2859140791053775977 : Unit := ()
def tw13299462787813397641 : Unit := ()
def tw4609234006035498153 : Unit := ()
def tw11804313125933651113 : Unit := ()
def tw11748343872669326505 : Unit := ()
def tw10075587382492706985 : Unit := ()
def tw11495052216552978601 : Unit := ()
def tw1152185892920828105 : Unit := ()
def tw9785199401965233353 : Unit := ()
def tw468994231952264393 : Unit := ()
def tw8321445421914740937 : Unit := ()
def tw8841634142717904137 : Unit := ()
def tw2823355793974861097 : Unit := ()
def tw14478769740573554025 : Unit := ()
def tw4690244413948224905 : Unit := ()
def tw8239440384360996265 : Unit := ()
def tw17533091603615806889 : Unit := ()
def tw16636122726836311593 : Unit := ()
def tw607448704384541225 : Unit := ()
def tw1862740469392814633 : Unit := ()
def tw406495963849432649 : Unit := ()
def tw8506415462085317193 : Unit := ()
def tw9397799435769962057 : Unit := ()
def tw10962221333327816297 : Unit := ()
def tw5173341309932490345 : Unit := ()
def tw366793422645614185 : Unit := ()
def tw16124769883004253833 : Unit := ()
def tw17449894165578572425 : Unit := ()
def tw10810639020378597033 : Unit := ()
def tw2580102720349724329 : Unit := ()
def tw6185765380387138217 : Unit := ()
def tw13801051303207494345 : Unit := ()
def tw6617338760462006985 : Unit := ()
def tw4176836847461860169 : Unit := ()
def tw3044223194437881673 : Unit := ()
def tw2432671661425360713 : Unit := ()
def tw2645899350542225257 : Unit := ()
def tw487700010783898569 : Unit := ()
def tw882960790260054985 : Unit := ()
def tw14149079258601955370 : Unit := ()
def tw1530259908187408426 : Unit := ()
def tw10762856596833268778 : Unit := ()
def tw7230964144066739274 : Unit := ()
def tw16438926121456680042 : Unit := ()
def tw8120983507856514186 : Unit := ()
def tw10009778775177654442 : Unit := ()
def tw3075439119698940106 : Unit := ()
def tw15010390980210407658 : Unit := ()
def tw13672657328104519114 : Unit := ()
def tw1622426790039544266 : Unit := ()
def tw13695670680514424298 : Unit := ()
def tw4514936497936117258 : Unit := ()
def tw5435672083661398602 : Unit := ()
def tw13419059498453559914 : Unit := ()
def tw11938148007282537066 : Unit := ()
def tw12185656337741948586 : Unit := ()
def tw14984679106105053962 : Unit := ()
def tw11034756496015303466 : Unit := ()
def tw14693640316309456682 : Unit := ()
def tw16142090582965932842 : Unit := ()
def tw581658512667174730 : Unit := ()
def tw1049348367994416970 : Unit := ()
def tw18039644852077920138 : Unit := ()
def tw3690704380309248938 : Unit := ()
def tw5991924022172703658 : Unit := ()
def tw6433287070596366250 : Unit := ()
def tw5588342707632553930 : Unit := ()
def tw7116112607123241930 : Unit := ()
def tw12802905162062458858 : Unit := ()
def tw10298646939081906187 : Unit := ()
def tw15028534651093099563 : Unit := ()
def tw2180570472341791851 : Unit := ()
def tw11890383275645658219 : Unit := ()
def tw11222773775635277931 : Unit := ()
def tw4399285892703690891 : Unit := ()
def tw3521497970764200107 : Unit := ()
def tw858055613650815147 : Unit := ()
def tw2080748452894405803 : Unit := ()
def tw7682799828571521291 : Unit := ()
def tw11429438149061530891 : Unit := ()
def tw10758004969698101547 : Unit := ()
def tw14618185642107347275 : Unit := ()
def tw6640933567133713803 : Unit := ()
def tw156835648266816907 : Unit := ()
def tw14178424756404736395 : Unit := ()
def tw17689419674421958059 : Unit := ()
def tw1479124779841464747 : Unit := ()
def tw15187236979912202699 : Unit := ()
def tw7201771138756885995 : Unit := ()
def tw17214771214567970315 : Unit := ()
def tw13201792748031615499 : Unit := ()
def tw5966147426962225675 : Unit := ()
def tw17182410496196003339 : Unit := ()
def tw15178621541095982603 : Unit := ()
def tw11226236938211872299 : Unit := ()
def tw6106400497006741131 : Unit := ()
def tw13323898924514151083 : Unit := ()
def tw2796893602391660235 : Unit := ()
def tw6839522863246766795 : Unit := ()
def tw17220534862485637867 : Unit := ()
def tw17658575325586513643 : Unit := ()
def tw12575907744977378059 : Unit := ()
def tw184313144367650603 : Unit := ()
def tw3516851374600462123 : Unit := ()
def tw9119320682006491979 : Unit := ()
def tw6489899216701561771 : Unit := ()
def tw11869495979154056107 : Unit := ()
def tw17253643626680078251 : Unit := ()
def tw9940209468763858859 : Unit := ()
def tw15338333219977032619 : Unit := ()
def tw1486563490836243403 : Unit := ()
def tw4569672863931519979 : Unit := ()
def tw2541523292873161707 : Unit := ()
def tw5476887080601094188 : Unit := ()
def tw17909781765441684620 : Unit := ()
def tw5445869478571776172 : Unit := ()
def tw8840863507516592332 : Unit := ()
def tw794836542541085932 : Unit := ()
def tw5029858419783190796 : Unit := ()
def tw2944745397205661996 : Unit := ()
def tw1979420881384513900 : Unit := ()
def tw3935436011860490668 : Unit := ()
def tw11252765365639044556 : Unit := ()
def tw10282233553183709740 : Unit := ()
def tw4667593677298344492 : Unit := ()
def tw5767651707810170412 : Unit := ()
def tw7437147395742231084 : Unit := ()
def tw13121984146689402508 : Unit := ()
def tw13656878083065394828 : Unit := ()
def tw7171092162917187244 : Unit := ()
def tw7086028160157619916 : Unit := ()
def tw2637914517976116940 : Unit := ()
def tw4783481161535173356 : Unit := ()
def tw8550591569487127276 : Unit := ()
def tw11794306367497853708 : Unit := ()
def tw6416757985163095852 : Unit := ()
def tw2411610907185640268 : Unit := ()
def tw13735849473922451308 : Unit := ()
def tw7224367557517243308 : Unit := ()
def tw14766820332377710540 : Unit := ()
def tw16973228520470559724 : Unit := ()
def tw14409533200534986732 : Unit := ()
def tw13477134597343290413 : Unit := ()
def tw7840144661047023693 : Unit := ()
def tw1817742286787258445 : Unit := ()
def tw12478909499064456301 : Unit := ()
def tw14481262151792030829 : Unit := ()
def tw8103956797360254093 : Unit := ()
def tw10531548872705606957 : Unit := ()
def tw4750216762769936685 : Unit := ()
def tw11539155683915108653 : Unit := ()
def tw3280958044838242605 : Unit := ()
def tw11219150590916692301 : Unit := ()
def tw13947779667026361677 : Unit := ()
def tw17164045456247161197 : Unit := ()
def tw6877680079677003117 : Unit := ()
def tw14800571603783853421 : Unit := ()
def tw787354650790751597 : Unit := ()
def tw4585937402545864077 : Unit := ()
def tw16978611072497336749 : Unit := ()
def tw1518841256145358285 : Unit := ()
def tw7954888659423124941 : Unit := ()
def tw15188502510760028621 : Unit := ()
def tw10638232905035267565 : Unit := ()
def tw9134704138141693421 : Unit := ()
def tw5209131909873611341 : Unit := ()
def tw7306132103112016461 : Unit := ()
def tw11166201419632822861 : Unit := ()
def tw7278359680514277997 : Unit := ()
def tw7750220627849959021 : Unit := ()
def tw7215273570316481133 : Unit := ()
def tw5998219244325240429 : Unit := ()
def tw4024590445138146957 : Unit := ()
def tw5857766111746685581 : Unit := ()
def tw4061671737479448237 : Unit := ()
def tw11953988059534925517 : Unit := ()
def tw16377961181278618317 : Unit := ()
def tw6905008573951908589 : Unit := ()
def tw11774223289155401485 : Unit := ()
def tw14884150101245345581 : Unit := ()
def tw8138428447090557773 : Unit := ()
def tw11228404675973238605 : Unit := ()
def tw5676016391011129197 : Unit := ()
def tw7767643597557902253 : Unit := ()
def tw9251831480769181645 : Unit := ()
def tw10090970375148897294 : Unit := ()
def tw16289600379255516174 : Unit := ()
def tw15677841868500197422 : Unit := ()
def tw2098879372212634702 : Unit := ()
def tw3082030186684841038 : Unit := ()
def tw8006335101492602990 : Unit := ()
def tw903083387610574958 : Unit := ()
def tw12556571851581571214 : Unit := ()
def tw17216525834390759566 : Unit := ()
def tw13762829912159960270 : Unit := ()
def tw10531718961308751118 : Unit := ()
def tw1874404863122816334 : Unit := ()
def tw9764787881595586990 : Unit := ()
def tw10457078240004539854 : Unit := ()
def tw18299260709161895374 : Unit := ()
def tw9863451968812286446 : Unit := ()
def tw18443801971415888366 : Unit := ()
def tw9372573454219812398 : Unit := ()
def tw3509561509649673774 : Unit := ()
def tw8682281427562161742 : Unit := ()
def tw17566407780051192430 : Unit := ()
def tw12650335196425045614 : Unit := ()
def tw3427982690326023886 : Unit := ()
def tw10809476050412588750 : Unit := ()
def tw14133728749024521038 : Unit := ()
def tw5895722275532626766 : Unit := ()
def tw9120977186048780174 : Unit := ()
def tw18305871967818295182 : Unit := ()
def tw11033359251690661806 : Unit := ()
def tw5128145429117648814 : Unit := ()
def tw6730569649937121198 : Unit := ()
def tw5729251486246679534 : Unit := ()
def tw5658477323279013903 : Unit := ()
def tw15278870931776056335 : Unit := ()
def tw10921063785390344239 : Unit := ()
def tw8903436626028264527 : Unit := ()
def tw2933114924804140175 : Unit := ()
def tw17948038729361843375 : Unit := ()
def tw12842783430824224943 : Unit := ()
def tw13554058030413900975 : Unit := ()
def tw15780725273150596303 : Unit := ()
def tw5422705814737664207 : Unit := ()
def tw4684295368589110479 : Unit := ()
def tw1024483480768151791 : Unit := ()
def tw8048372952891016463 : Unit := ()
def tw759398103977677071 : Unit := ()
def tw2214714610732096783 : Unit := ()
def tw10591583080913936687 : Unit := ()
def tw7565995791168195887 : Unit := ()
def tw12798370215433103663 : Unit := ()
def tw15189202373848579407 : Unit := ()
def tw13912937078320075151 : Unit := ()
def tw17802030147310359023 : Unit := ()
def tw17228836388733489711 : Unit := ()
def tw10695589276469502511 : Unit := ()
def tw5987002959354833455 : Unit := ()
def tw2117611225441005135 : Unit := ()
def tw6240149437804822127 : Unit := ()
def tw12004183338489222799 : Unit := ()
def tw18020546754347998895 : Unit := ()
def tw1509612444763070127 : Unit := ()
def tw4643962035244648111 : Unit := ()
def tw14588761951379115695 : Unit := ()
def tw402256788041385711 : Unit := ()
def tw3836986210895468303 : Unit := ()
def tw3170969793162685199 : Unit := ()
def tw12249568544329643791 : Unit := ()
def tw9308259842820359951 : Unit := ()
def tw2593494855448413999 : Unit := ()
def tw14899458029228909391 : Unit := ()
def tw16588119117110219631 : Unit := ()
def tw10485879811642173295 : Unit := ()
def tw1360342689537868655 : Unit := ()
def tw12632353861998335887 : Unit := ()
def tw9258693129617237935 : Unit := ()
def tw13156065423648349200 : Unit := ()
def tw14534810036192702480 : Unit := ()
def tw7786935847773707312 : Unit := ()
def tw16572272411949327408 : Unit := ()
def tw1022362203338625136 : Unit := ()
def tw2636028175839071376 : Unit := ()
def tw1137309040353154192 : Unit := ()
def tw12044691022499474672 : Unit := ()
def tw4627071259246730512 : Unit := ()
def tw8542565727292662032 : Unit := ()
def tw8362652101289473296 : Unit := ()
def tw15835958487550076240 : Unit := ()
def tw10312118491530057040 : Unit := ()
def tw7414195540985281872 : Unit := ()
def tw8179179660794950032 : Unit := ()
def tw4124125821242932624 : Unit := ()
def tw11675436326950634928 : Unit := ()
def tw17345942755338298800 : Unit := ()
def tw1307286621494520272 : Unit := ()
def tw13168234922209236432 : Unit := ()
def tw18417046832460229072 : Unit := ()
def tw11573019532960187888 : Unit := ()
def tw9650637761863218672 : Unit := ()
def tw15318588793218469392 : Unit := ()
def tw10980419649762772560 : Unit := ()
def tw11287215916588053136 : Unit := ()
def tw17113979203570010800 : Unit := ()
def tw11940954758264688368 : Unit := ()
def tw2712361322803530512 : Unit := ()
def tw11815203471130644240 : Unit := ()
def tw15650355552603558672 : Unit := ()
def tw10477265647461206832 : Unit := ()
def tw11799745395277930320 : Unit := ()
def tw14684279120146130768 : Unit := ()
def tw225766319640172400 : Unit := ()
def tw16422394806471452560 : Unit := ()
def tw1534840579808304048 : Unit := ()
def tw8225013772037795760 : Unit := ()
def tw12759579310688670672 : Unit := ()
def tw13828187578923426768 : Unit := ()
def tw11304565182512702448 : Unit := ()
def tw4194771040434970608 : Unit := ()
def tw8997878886113838097 : Unit := ()
def tw12092050565539071025 : Unit := ()
def tw12314092736293906481 : Unit := ()
def tw16467011716138604625 : Unit := ()
def tw6646473809223322737 : Unit := ()
def tw1816622500908571761 : Unit := ()
def tw16018666668645439601 : Unit := ()
def tw1046918227686170833 : Unit := ()
def tw15635344877744694481 : Unit := ()
def tw18043985251894011185 : Unit := ()
def tw2397609295277796657 : Unit := ()
def tw13730508059540322609 : Unit := ()
def tw11301304167594800465 : Unit := ()
def tw15048414798781697393 : Unit := ()
def tw6590129792420927857 : Unit := ()
def tw12982357033745888849 : Unit := ()
def tw4066372437273667153 : Unit := ()
def tw9678132138727041649 : Unit := ()
def tw2510965191394469553 : Unit := ()
def tw1409534246316594865 : Unit := ()
def tw6354484337351861969 : Unit := ()
def tw4171191670903455441 : Unit := ()
def tw4938824438471746257 : Unit := ()
def tw1120204297749534481 : Unit := ()
def tw5341858578614112017 : Unit := ()
def tw1915960710669877041 : Unit := ()
def tw1468010199376741169 : Unit := ()
def tw8461697410286115633 : Unit := ()
def tw5273786724080966609 : Unit := ()
def tw7921246005343677425 : Unit := ()
def tw15001749433911554066 : Unit := ()
def tw6619179436896203794 : Unit := ()
def tw4530196824732942354 : Unit := ()
def tw3600189050685643794 : Unit := ()
def tw16574482345701924882 : Unit := ()
def tw4375396499015813170 : Unit := ()
def tw18341026172148966450 : Unit := ()
def tw6698028307961865298 : Unit := ()
def tw7152869217140736146 : Unit := ()
def tw4143543870347239570 : Unit := ()
def tw16602583205415346354 : Unit := ()
def tw6969142529386668210 : Unit := ()
def tw1054237791790268850 : Unit := ()
def tw13470537860177101234 : Unit := ()
def tw201582411289531826 : Unit := ()
def tw3386842681780849074 : Unit := ()
def tw4771633399165599186 : Unit := ()
def tw8831709026405210578 : Unit := ()
def tw17140301530795978226 : Unit := ()
def tw4585105530109800946 : Unit := ()
def tw14824014855240042034 : Unit := ()
def tw7742351102120744498 : Unit := ()
def tw8820439133942573618 : Unit := ()
def tw5933692438250148434 : Unit := ()
def tw8449495038351569490 : Unit := ()
def tw13960864901228140178 : Unit := ()
def tw12610822719025225362 : Unit := ()
def tw287319918500434578 : Unit := ()
def tw10689462234659610258 : Unit := ()
def tw9437849380586779282 : Unit := ()
def tw5840461844244905650 : Unit := ()
def tw15237441707981986482 : Unit := ()
def tw8016457674695507698 : Unit := ()
def tw2735079826891875122 : Unit := ()
def tw17594917006434598706 : Unit := ()
def tw8400872901441187666 : Unit := ()
def tw12257771923672299346 : Unit := ()
def tw13996233118937319282 : Unit := ()
def tw6315477308317358962 : Unit := ()
def tw18259782977034099602 : Unit := ()
def tw12820135438297421714 : Unit := ()
def tw1130048433310653330 : Unit := ()
def tw7059368799096678354 : Unit := ()
def tw8436584602847044562 : Unit := ()
def tw13568109704675726322 : Unit := ()
def tw3795053941840517106 : Unit := ()
def tw5550389469662919666 : Unit := ()
def tw18045806974803001363 : Unit := ()
def tw8811772542383204403 : Unit := ()
def tw15762790354734149683 : Unit := ()
def tw8631460329204634739 : Unit := ()
def tw13838793232177633427 : Unit := ()
def tw8229233589153759411 : Unit := ()
def tw1959775384328545459 : Unit := ()
def tw694541370075873619 : Unit := ()
def tw12587027965682079059 : Unit := ()
def tw10686120358299348371 : Unit := ()
def tw8146926814764210611 : Unit := ()
def tw6132790336384460211 : Unit := ()
def tw4908030769242410451 : Unit := ()
def tw5352245312831926803 : Unit := ()
def tw3659626377497511475 : Unit := ()
def tw11560278796292707891 : Unit := ()
def tw12799075383435552307 : Unit := ()
def tw5379691264142344787 : Unit := ()
def tw8721147866609040979 : Unit := ()
def tw8694942916608519763 : Unit := ()
def tw6873729888488930931 : Unit := ()
def tw3648461485621047923 : Unit := ()
def tw15376281853183924915 : Unit := ()
def tw17696348637124406963 : Unit := ()
def tw16332639089928790835 : Unit := ()
def tw11198189921177036595 : Unit := ()
def tw13940793978065678163 : Unit := ()
def tw7409760302934992787 : Unit := ()
def tw8038086825795608467 : Unit := ()
def tw5343402659172747187 : Unit := ()
def tw3951489752881499091 : Unit := ()
def tw10434738370633459667 : Unit := ()
def tw5553993095871419379 : Unit := ()
def tw10410187420849759252 : Unit := ()
def tw1331251673766875188 : Unit := ()
def tw6672825202371191860 : Unit := ()
def tw6414052522172775476 : Unit := ()
def tw11144795014185146452 : Unit := ()
def tw4112929193540275316 : Unit := ()
def tw417999645387486324 : Unit := ()
def tw11700686513151802516 : Unit := ()
def tw3450723232919919796 : Unit := ()
def tw18271653435149664468 : Unit := ()
def tw17164818308834837716 : Unit := ()
def tw352044066001272084 : Unit := ()
def tw9779956300950238484 : Unit := ()
def tw8283323966431560052 : Unit := ()
def tw4837980637673064852 : Unit := ()
def tw6129554078363060660 : Unit := ()
def tw10457038650829606324 : Unit := ()
def tw5265025798191461812 : Unit := ()
def tw11350927870187226580 : Unit := ()
def tw16518151246130825684 : Unit := ()
def tw4000591461361666516 : Unit := ()
def tw12008540597161809364 : Unit := ()
def tw14161241659130767956 : Unit := ()
def tw9518160121609405044 : Unit := ()
def tw1182063077158108820 : Unit := ()
def tw13415507226657156788 : Unit := ()
def tw17005297228336738068 : Unit := ()
def tw10684545739701558068 : Unit := ()
def tw360291318807357236 : Unit := ()
def tw6733772083095270196 : Unit := ()
def tw1956002425132533588 : Unit := ()
def tw232023781980986292 : Unit := ()
def tw17214051901817050100 : Unit := ()
def tw15691843789229294613 : Unit := ()
def tw14586770007617064981 : Unit := ()
def tw11146436950423569461 : Unit := ()
def tw3991677759046708277 : Unit := ()
def tw15246154607996893237 : Unit := ()
def tw12075287076284541045 : Unit := ()
def tw13551930917018278165 : Unit := ()
def tw9710604313184106773 : Unit := ()
def tw2930948430272121237 : Unit := ()
def tw8032600612181165493 : Unit := ()
def tw15810656667675718069 : Unit := ()
def tw2533887531111892437 : Unit := ()
def tw7053638999958521365 : Unit := ()
def tw18191358696299468309 : Unit := ()
def tw9332324643729814101 : Unit := ()
def tw8869184573746602581 : Unit := ()
def tw1239909059822671477 : Unit := ()
def tw13518699990952663669 : Unit := ()
def tw7593898854575129333 : Unit := ()
def tw18269344498922492693 : Unit := ()
def tw7220652032044575509 : Unit := ()
def tw8241669877234150165 : Unit := ()
def tw5386948291379901205 : Unit := ()
def tw11428314518420614965 : Unit := ()
def tw13277624552694374229 : Unit := ()
def tw18015983637007626133 : Unit := ()
def tw2557231809264535477 : Unit := ()
def tw2399275482163760117 : Unit := ()
def tw1688044517325583446 : Unit := ()
def tw3707634573543687254 : Unit := ()
def tw43390628520774742 : Unit := ()
def tw7399005557941367894 : Unit := ()
def tw16013227483942734966 : Unit := ()
def tw17750149792220606582 : Unit := ()
def tw13615179747959614646 : Unit := ()
def tw15768125188094844086 : Unit := ()
def tw11027454983250358518 : Unit := ()
def tw11956942637400916246 : Unit := ()
def tw17273267256330092822 : Unit := ()
def tw11741189778715061526 : Unit := ()
def tw18212524864429327670 : Unit := ()
def tw719503036264984886 : Unit := ()
def tw15698849274534360374 : Unit := ()
def tw16856754684038897014 : Unit := ()
def tw16001576852148282742 : Unit := ()
def tw5315079089911271830 : Unit := ()
def tw4369016007311603094 : Unit := ()
def tw4009901806246316470 : Unit := ()
def tw4417214010787290550 : Unit := ()
def tw796414131400411606 : Unit := ()
def tw7429218042638780886 : Unit := ()
def tw2847046004150666742 : Unit := ()
def tw4753766334196923894 : Unit := ()
def tw9555709542430553750 : Unit := ()
def tw16507761860915616406 : Unit := ()
def tw6942333867460577974 : Unit := ()
def tw2183811077746776758 : Unit := ()
def tw11340845349431907062 : Unit := ()
def tw12249358811040598 : Unit := ()
def tw1090184546773674870 : Unit := ()
def tw4911079852354326390 : Unit := ()
def tw2641825865955005334 : Unit := ()
def tw435680649935116182 : Unit := ()
def tw9481084996502706070 : Unit := ()
def tw9615394150016320438 : Unit := ()
def tw1043820599566340022 : Unit := ()
def tw13151889317625061302 : Unit := ()
def tw10362809479697927158 : Unit := ()
def tw11552802773997936663 : Unit := ()
def tw16098840321564075031 : Unit := ()
def tw6391561161275640887 : Unit := ()
def tw8506786702569499703 : Unit := ()
def tw3860515041304933431 : Unit := ()
def tw6258904723916292183 : Unit := ()
def tw13069771612003961943 : Unit := ()
def tw16523036458225461399 : Unit := ()
def tw10530994364541530263 : Unit := ()
def tw14639331999445592247 : Unit := ()
def tw6220108035374232759 : Unit := ()
def tw12698757786578589943 : Unit := ()
def tw15718099054241364215 : Unit := ()
def tw15506916354984368375 : Unit := ()
def tw10919793316273905911 : Unit := ()
def tw13036694106249533719 : Unit := ()
def tw1049133914493473111 : Unit := ()
def tw6837081305714285911 : Unit := ()
def tw14568031418457045367 : Unit := ()
def tw11523723594745681303 : Unit := ()
def tw8557741796722417047 : Unit := ()
def tw9297340358003901879 : Unit := ()
def tw10000423639296534999 : Unit := ()
def tw504430538854810103 : Unit := ()
def tw519642450751965719 : Unit := ()
def tw16925588583830753847 : Unit := ()
def tw13147787860671221303 : Unit := ()
def tw13969975559124099703 : Unit := ()
def tw9488296953886386807 : Unit := ()
def tw14445733028122610327 : Unit := ()
def tw6391653133227150999 : Unit := ()
def tw17304880908293911223 : Unit := ()
def tw13995368817493298935 : Unit := ()
def tw16469508129422760727 : Unit := ()
def tw16677164777546259255 : Unit := ()
def tw10076598069465473847 : Unit := ()
def tw3459017606502019895 : Unit := ()
def tw5303485838556646231 : Unit := ()
def tw11839569390566180727 : Unit := ()
def tw7901587816649234295 : Unit := ()
def tw12107801995104026551 : Unit := ()
def tw16293902241017535479 : Unit := ()
def tw1197316891180454903 : Unit := ()
def tw8435287712617255992 : Unit := ()
def tw12147689968011181144 : Unit := ()
def tw6139250305552024696 : Unit := ()
def tw5951349241760861304 : Unit := ()
def tw15035646991808686200 : Unit := ()
def tw5212373469962452120 : Unit := ()
def tw16245074132952318168 : Unit := ()
def tw10625775758992030936 : Unit := ()
def tw6270369424745160920 : Unit := ()
def tw16290530020730346744 : Unit := ()
def tw6930378794923181304 : Unit := ()
def tw13923365129567792440 : Unit := ()
def tw2069180551297042808 : Unit := ()
def tw15541141445942859128 : Unit := ()
def tw15191483212352280984 : Unit := ()
def tw7694387494100134296 : Unit := ()
def tw9888216936330754456 : Unit := ()
def tw1587156971020760504 : Unit := ()
def tw6594369280177526200 : Unit := ()
def tw2974974307176934904 : Unit := ()
def tw10419853467935393336 : Unit := ()
def tw2282956684859788856 : Unit := ()
def tw15216628990662042168 : Unit := ()
def tw7177397265380524632 : Unit := ()
def tw15370993737011285592 : Unit := ()
def tw9825270903430050392 : Unit := ()
def tw2435553946212492952 : Unit := ()
def tw2543173033582080696 : Unit := ()
def tw15058372807796131608 : Unit := ()
def tw9368099182765909816 : Unit := ()
def tw8422122660211376952 : Unit := ()
def tw2254968067950131032 : Unit := ()
def tw14783209013109386104 : Unit := ()
def tw12389612347870314360 : Unit := ()
def tw14822471102706594712 : Unit := ()
def tw14621404552960017336 : Unit := ()
def tw7622290284968498104 : Unit := ()
def tw2214136823636792280 : Unit := ()
def tw17328945448352208856 : Unit := ()
def tw2093163508925684728 : Unit := ()
def tw10368980381918475289 : Unit := ()
def tw8792966735877823513 : Unit := ()
def tw2220330161129958457 : Unit := ()
def tw12669340369325043769 : Unit := ()
def tw6730336518831235161 : Unit := ()
def tw4614990169997242457 : Unit := ()
def tw11226338258683928697 : Unit := ()
def tw6117857836971195513 : Unit := ()
def tw12784823578603834553 : Unit := ()
def tw10301280697197191385 : Unit := ()
def tw10939064076257984793 : Unit := ()
def tw13001469058016277785 : Unit := ()
def tw17537156151401813305 : Unit := ()
def tw2974814946068519257 : Unit := ()
def tw8941227989169896793 : Unit := ()
def tw10925307743252080025 : Unit := ()
def tw9238283981750994361 : Unit := ()
def tw74344509984514489 : Unit := ()
def tw17371369828400569 : Unit := ()
def tw17369487495512097273 : Unit := ()
def tw9551504095074597369 : Unit := ()
def tw5153406036788143609 : Unit := ()
def tw6190576812917487097 : Unit := ()
def tw13885978816359746073 : Unit := ()
def tw13317706205898809913 : Unit := ()
def tw8366910587717272185 : Unit := ()
def tw17632681335914680985 : Unit := ()
def tw15314005694640041689 : Unit := ()
def tw5849227150169245433 : Unit := ()
def tw7509474840843033337 : Unit := ()
def tw6953108455090719513 : Unit := ()
def tw18185094411053207321 : Unit := ()
def tw3023078468415976217 : Unit := ()
def tw1381088865349122873 : Unit := ()
def tw15625400857967653689 : Unit := ()
def tw1262648282516642649 : Unit := ()
def tw15659016197248214873 : Unit := ()
def tw3337063267899797337 : Unit := ()
def tw16339347804410998649 : Unit := ()
def tw8845315412983973849 : Unit := ()
def tw10493287396171368441 : Unit := ()
def tw5491144097576394778 : Unit := ()
def tw14629258268832442458 : Unit := ()
def tw3616151572590657658 : Unit := ()
def tw5834009926018997370 : Unit := ()
def tw18105701851949350010 : Unit := ()
def tw3392234141718008954 : Unit := ()
def tw5394939341972143226 : Unit := ()
def tw14807442366030375066 : Unit := ()
def tw17211771452712547482 : Unit := ()
def tw404212059872783674 : Unit := ()
def tw18246667366442581338 : Unit := ()
def tw5405825060502493530 : Unit := ()
def tw15662455284102945114 : Unit := ()
def tw17255332002853051770 : Unit := ()
def tw16752110159223576986 : Unit := ()
def tw12248268660425830842 : Unit := ()
def tw5108445183275325882 : Unit := ()
def tw4381362998308659642 : Unit := ()
def tw13937057479586100698 : Unit := ()
def tw3183236739296328154 : Unit := ()
def tw15854296815155857914 : Unit := ()
def tw15608319740093531706 : Unit := ()
def tw1122348802427686458 : Unit := ()
def tw6253694151470664250 : Unit := ()
def tw9098743704653617722 : Unit := ()
def tw14181840476664176218 : Unit := ()
def tw11251370944390373978 : Unit := ()
def tw6496574322759937690 : Unit := ()
def tw11223523208667028122 : Unit := ()
def tw6788414223150917306 : Unit := ()
def tw4642352759352519386 : Unit := ()
def tw14988663173792728826 : Unit := ()
def tw11365356208650630906 : Unit := ()
def tw5404701412282484474 : Unit := ()
def tw11460634394575051546 : Unit := ()
def tw17386652639516573466 : Unit := ()
def tw1142302637362628410 : Unit := ()
def tw16069385695235318650 : Unit := ()
def tw11589320890049106971 : Unit := ()
def tw16190939683206120475 : Unit := ()
def tw17072439889289196603 : Unit := ()
def tw9212354420322415675 : Unit := ()
def tw11048138999596894267 : Unit := ()
def tw5757331506189802587 : Unit := ()
def tw9627024805318383707 : Unit := ()
def tw4863009210917692539 : Unit := ()
def tw13062603714283045019 : Unit := ()
def tw14638335417618355355 : Unit := ()
def tw2620835900429855931 : Unit := ()
def tw1197150360204014811 : Unit := ()
def tw8252791911608598779 : Unit := ()
def tw11929022609752941947 : Unit := ()
def tw12370016514056026491 : Unit := ()
def tw18330749103098240411 : Unit := ()
def tw17942699797007742395 : Unit := ()
def tw10291130496404180443 : Unit := ()
def tw7580726943410907611 : Unit := ()
def tw12230369907216122363 : Unit := ()
def tw8657092038616292859 : Unit := ()
def tw11427849407234732539 : Unit := ()
def tw16123205824039884315 : Unit := ()
def tw12413740524423567899 : Unit := ()
def tw829874550974537243 : Unit := ()
def tw15742073480619097627 : Unit := ()
def tw3242414666143598139 : Unit := ()
def tw13066519399904159291 : Unit := ()
def tw459750770395834939 : Unit := ()
def tw15762731765627126363 : Unit := ()
def tw8612514344506725979 : Unit := ()
def tw14273765943906715227 : Unit := ()
def tw1682582032940066395 : Unit := ()
def tw4366439515594482299 : Unit := ()
def tw6772098783264112283 : Unit := ()
def tw10311387846869520059 : Unit := ()
def tw13501275633943587515 : Unit := ()
def tw5518025826119726779 : Unit := ()
def tw13916325590414768859 : Unit := ()
def tw4840671411415508699 : Unit := ()
def tw13168459639249125115 : Unit := ()
def tw13871402329834064763 : Unit := ()
def tw6916352364008875931 : Unit := ()
def tw11899882648541135803 : Unit := ()
def tw2458159721912125371 : Unit := ()
def tw2793941968748897211 : Unit := ()
def tw3546778754010145723 : Unit := ()
def tw4847326726415512507 : Unit := ()
def tw11054511461911186395 : Unit := ()
def tw4641051222114064347 : Unit := ()
def tw7030571023548051419 : Unit := ()
def tw4198343622570259484 : Unit := ()
def tw5638663469968291868 : Unit := ()
def tw8273762929818347644 : Unit := ()
def tw1588204427117376668 : Unit := ()
def tw17156304864925971612 : Unit := ()
def tw2305240730154645692 : Unit := ()
def tw17079646446873411804 : Unit := ()
def tw7797571171661926748 : Unit := ()
def tw5520617747672614268 : Unit := ()
def tw7375526191136166268 : Unit := ()
def tw3107990872493762972 : Unit := ()
def tw16295741890131553692 : Unit := ()
def tw16181453148486256060 : Unit := ()
def tw3329488880957981148 : Unit := ()
def tw15040893747555085788 : Unit := ()
def tw1365161364781946332 : Unit := ()
def tw2970097975151933980 : Unit := ()
def tw821039119858455068 : Unit := ()
def tw10152182890672248380 : Unit := ()
def tw13758732735818041948 : Unit := ()
def tw1267624928932776540 : Unit := ()
def tw15180022847147374172 : Unit := ()
def tw7827577509065917052 : Unit := ()
def tw10301535991872420476 : Unit := ()
def tw8842342497731903132 : Unit := ()
def tw13947039891275256508 : Unit := ()
def tw9658250665727673020 : Unit := ()
def tw14169837070689321692 : Unit := ()
def tw2873091509607837468 : Unit := ()
def tw1656510281881307932 : Unit := ()
def tw15440659008100489020 : Unit := ()
def tw16407921026952235932 : Unit := ()
def tw11584585962751612828 : Unit := ()
def tw10899371225491504028 : Unit := ()
def tw2420767122657802172 : Unit := ()
def tw5171001988042349564 : Unit := ()
def tw2935990323611992060 : Unit := ()
def tw6132535752634827805 : Unit := ()
def tw16970679759437564957 : Unit := ()
def tw17898344286115466269 : Unit := ()
def tw6781005223488012349 : Unit := ()
def tw10046659561812170941 : Unit := ()
def tw2420463112226330909 : Unit := ()
def tw7862141903997348157 : Unit := ()
def tw12024987793244153213 : Unit := ()
def tw6413645743623007613 : Unit := ()
def tw7087082973780843933 : Unit := ()
def tw11945589377565768093 : Unit := ()
def tw9483499886085252541 : Unit := ()
def tw1433655404621071837 : Unit := ()
def tw12565232847423039965 : Unit := ()
def tw4200261433431022077 : Unit := ()
def tw15013742451525543421 : Unit := ()
def tw9667453449534597629 : Unit := ()
def tw16470121031526290973 : Unit := ()
def tw1461439756117925405 : Unit := ()
def tw364449765417412125 : Unit := ()
def tw588741064541488701 : Unit := ()
def tw12076683630072147549 : Unit := ()
def tw15817118015765798557 : Unit := ()
def tw14888646961278976701 : Unit := ()
def tw6212131316759285437 : Unit := ()
def tw1905988662714509021 : Unit := ()
def tw6794795069922966269 : Unit := ()
def tw17602071838043490077 : Unit := ()
def tw15951650076603783997 : Unit := ()
def tw5991347969918328637 : Unit := ()
def tw5849091019838219101 : Unit := ()
def tw17748290292152045437 : Unit := ()
def tw16391056733587750813 : Unit := ()
def tw7607036089818882045 : Unit := ()
def tw8896021717047856125 : Unit := ()
def tw10758989632757113918 : Unit := ()
def tw16325515146035313726 : Unit := ()
def tw7960442715082226782 : Unit := ()
def tw16069786195076302974 : Unit := ()
def tw9775189997510868126 : Unit := ()
def tw15874169479581620414 : Unit := ()
def tw6877478653229179102 : Unit := ()
def tw9407902121307352286 : Unit := ()
def tw1136238273695481086 : Unit := ()
def tw10392847064552276254 : Unit := ()
def tw12677929386788146494 : Unit := ()
def tw13344532893562669406 : Unit := ()
def tw8010227852701378942 : Unit := ()
def tw17837249015634972030 : Unit := ()
def tw7254844988277009854 : Unit := ()
def tw16360340849927536062 : Unit := ()
def tw14257952486523794942 : Unit := ()
def tw9056010207726208574 : Unit := ()
def tw12659560742327276094 : Unit := ()
def tw5128102831099608638 : Unit := ()
def tw9079323622709226078 : Unit := ()
def tw11070296772330728062 : Unit := ()
def tw6873859013783469694 : Unit := ()
def tw12715331377852926622 : Unit := ()
def tw16724761033714652830 : Unit := ()
def tw5156942936457141950 : Unit := ()
def tw1429908792213958334 : Unit := ()
def tw13015132381117166302 : Unit := ()
def tw3772214879318551294 : Unit := ()
def tw110732413213523710 : Unit := ()
def tw17791478217700238110 : Unit := ()
def tw17863162351045279518 : Unit := ()
def tw12601990018412363614 : Unit := ()
def tw18164398498243516286 : Unit := ()
def tw17449329333313613694 : Unit := ()
def tw18224114105256405886 : Unit := ()
def tw14927098371115752350 : Unit := ()
def tw6571209156703111070 : Unit := ()
def tw4171834945844261822 : Unit := ()
def tw7528580488521722846 : Unit := ()
def tw1648864266170974174 : Unit := ()
def tw16602137504503239711 : Unit := ()
def tw5325912678682991647 : Unit := ()
def tw13588478855683810367 : Unit := ()
def tw8700847422587534431 : Unit := ()
def tw7582456022369008735 : Unit := ()
def tw7719482931405963391 : Unit := ()
def tw6534820953339502751 : Unit := ()
def tw2991980971086099647 : Unit := ()
def tw7936327063472160959 : Unit := ()
def tw10794293951468823743 : Unit := ()
def tw61025679945910495 : Unit := ()
def tw12238785382850660607 : Unit := ()
def tw17613105432029121791 : Unit := ()
def tw9850658591618912511 : Unit := ()
def tw12664777705716810015 : Unit := ()
def tw11068146453477141823 : Unit := ()
def tw1608985511298711871 : Unit := ()
def tw11929590190973222207 : Unit := ()
def tw11877439688217217375 : Unit := ()
def tw3756489960675950975 : Unit := ()
def tw5001668308518128031 : Unit := ()
def tw4764839070004854207 : Unit := ()
def tw9689325612687458783 : Unit := ()
def tw2899844615837397471 : Unit := ()
def tw17247129060546932191 : Unit := ()
def tw6613576498301032959 : Unit := ()
def tw17321607216407506431 : Unit := ()
def tw18082561400673079871 : Unit := ()
def tw10729843077355131455 : Unit := ()
def tw12664079546513842783 : Unit := ()
def tw15840448696851308223 : Unit := ()
def tw17472272905297985215 : Unit := ()
def tw10923097721493896927 : Unit := ()
def tw7319334711182001919 : Unit := ()
def tw18207506568322383615 : Unit := ()
def tw7543629854688491295 : Unit := ()
def tw9625678487474721631 : Unit := ()
def tw9121260957762116447 : Unit := ()
def tw749266220420551615 : Unit := ()
def tw5417396183951782879 : Unit := ()
def tw3214962797266227199 : Unit := ()
end PySem.W.Fast
open PySem PySem.W PyProof.Rows
set_option maxRecDepth 100000 in
set_option maxHeartbeats 0 in
theorem PySem.Challenge.cw_blockshanded_k68_blocks_made_holds : PySem.Challenge.rw_blockshanded_k68_blocks_made.Holds := by
  w_on; o_law; k_head; (case hw => w_witness2)
  k_fill
  refine U.walk_lawTG (l := PySem.Challenge.rw_blockshanded_k68_blocks_made) (n := 63) (k := 40) (x := "_law_script") (st := K68.s_law) (sp := fun K qs => U.LSp K (U.spLawT qs)) rfl (by decide) rfl ⟨rfl, by decide, by decide⟩ rfl (fun w h Y => PySem.W.km_in_of Y) (fun w h Y => PySem.W.km_tabs_of Y) (fun _ _ _ _ _ _ us hl => match us, hl with | [_], _ => rfl) ?F (fun K qs H a ns nd hl hq hS => U.law_startT nd hl hq hS)
  case F =>
    intro w mg h KX G
    refine K68.fin KX G ?A
    refine' ⟨_, _, _, _, _, _, _, _, _, _, _, ?f, ?g⟩
    case f =>
      constructor
      case cls_Procedure => (refine' U.HasCls.mk' ?qa ?qb ?qc ?qd ?qe ?qf ?qg ?qh ?qi ?qj ?qk; (case qa => k_is); (case qb => k_is); (case qc => k_is); (case qd => k_is); (case qe => k_is); (case qf => k_is); (case qg => k_is); (case qh => k_is); (case qi => k_is); (case qj => k_is); (case qk => k_is))
      case cls_Program => (refine' U.HasCls.mk' ?qa ?qb ?qc ?qd ?qe ?qf ?qg ?qh ?qi ?qj ?qk; (case qa => k_is); (case qb => k_is); (case qc => k_is); (case qd => k_is); (case qe => k_is); (case qf => k_is); (case qg => k_is); (case qh => k_is); (case qi => k_is); (case qj => k_is); (case qk => k_is))
      case cls_Space => (refine' U.HasCls.mk' ?qa ?qb ?qc ?qd ?qe ?qf ?qg ?qh ?qi ?qj ?qk; (case qa => k_is); (case qb => k_is); (case qc => k_is); (case qd => k_is); (case qe => k_is); (case qf => k_is); (case qg => k_is); (case qh => k_is); (case qi => k_is); (case qj => k_is); (case qk => k_is))
      case cls_Look => (refine' U.HasCls.mk' ?qa ?qb ?qc ?qd ?qe ?qf ?qg ?qh ?qi ?qj ?qk; (case qa => k_is); (case qb => k_is); (case qc => k_is); (case qd => k_is); (case qe => k_is); (case qf => k_is); (case qg => k_is); (case qh => k_is); (case qi => k_is); (case qj => k_is); (case qk => k_is))
      case cls_Reckoner => (refine' U.HasCls.mk' ?qa ?qb ?qc ?qd ?qe ?qf ?qg ?qh ?qi ?qj ?qk; (case qa => k_is); (case qb => k_is); (case qc => k_is); (case qd => k_is); (case qe => k_is); (case qf => k_is); (case qg => k_is); (case qh => k_is); (case qi => k_is); (case qj => k_is); (case qk => k_is))
      case d_is_integer => (refine' U.has_mk ?qa ?ql ?qc ?qk; (case qa => k_is); (case ql => k_is); (case qc => k_is); (case qk => k_is))
      case d_is_from => (refine' U.has_mk ?qa ?ql ?qc ?qk; (case qa => k_is); (case ql => k_is); (case qc => k_is); (case qk => k_is))
      case d_is_name => (refine' U.has_mk ?qa ?ql ?qc ?qk; (case qa => k_is); (case ql => k_is); (case qc => k_is); (case qk => k_is))
      case d_has_word => (refine' U.has_mk ?qa ?ql ?qc ?qk; (case qa => k_is); (case ql => k_is); (case qc => k_is); (case qk => k_is))
      case d_is_deed_table => (refine' U.has_mk ?qa ?ql ?qc ?qk; (case qa => k_is); (case ql => k_is); (case qc => k_is); (case qk => k_is))
      case d_is_kind => (refine' U.has_mk ?qa ?ql ?qc ?qk; (case qa => k_is); (case ql => k_is); (case qc => k_is); (case qk => k_is))
      case d_is_term_in => (refine' U.has_mk ?qa ?ql ?qc ?qk; (case qa => k_is); (case ql => k_is); (case qc => k_is); (case qk => k_is))
      case d_is_wrap_in => (refine' U.has_mk ?qa ?ql ?qc ?qk; (case qa => k_is); (case ql => k_is); (case qc => k_is); (case qk => k_is))
      case d_is_piece => (refine' U.has_mk ?qa ?ql ?qc ?qk; (case qa => k_is); (case ql => k_is); (case qc => k_is); (case qk => k_is))
      case d_are_given => (refine' U.has_mk ?qa ?ql ?qc ?qk; (case qa => k_is); (case ql => k_is); (case qc => k_is); (case qk => k_is))
      case d_inside => (refine' U.has_mk ?qa ?ql ?qc ?qk; (case qa => k_is); (case ql => k_is); (case qc => k_is); (case qk => k_is))
      case d_pieces_of => (refine' U.has_mk ?qa ?ql ?qc ?qk; (case qa => k_is); (case ql => k_is); (case qc => k_is); (case qk => k_is))
      case d_are_parameters => (refine' U.has_mk ?qa ?ql ?qc ?qk; (case qa => k_is); (case ql => k_is); (case qc => k_is); (case qk => k_is))
      case d_is_body => (refine' U.has_mk ?qa ?ql ?qc ?qk; (case qa => k_is); (case ql => k_is); (case qc => k_is); (case qk => k_is))
      case d_is_term => (refine' U.has_mk ?qa ?ql ?qc ?qk; (case qa => k_is); (case ql => k_is); (case qc => k_is); (case qk => k_is))
      case d_kind_of => (refine' U.has_mk ?qa ?ql ?qc ?qk; (case qa => k_is); (case ql => k_is); (case qc => k_is); (case qk => k_is))
      case d_are_fit => (refine' U.has_mk ?qa ?ql ?qc ?qk; (case qa => k_is); (case ql => k_is); (case qc => k_is); (case qk => k_is))
      case d_require_program => (refine' U.has_mk ?qa ?ql ?qc ?qk; (case qa => k_is); (case ql => k_is); (case qc => k_is); (case qk => k_is))
      case d_require_word => (refine' U.has_mk ?qa ?ql ?qc ?qk; (case qa => k_is); (case ql => k_is); (case qc => k_is); (case qk => k_is))
      case d_reckoner_of => (refine' U.has_mk ?qa ?ql ?qc ?qk; (case qa => k_is); (case ql => k_is); (case qc => k_is); (case qk => k_is))
      case d_looked => (refine' U.has_mk ?qa ?ql ?qc ?qk; (case qa => k_is); (case ql => k_is); (case qc => k_is); (case qk => k_is))
      case d_reckoned => (refine' U.hask_mk ?qa ?ql ?qc ?qk ?qd ?qr; (case qa => k_is); (case ql => k_is); (case qc => k_is); (case qk => k_is); (case qd => k_is); (case qr => rfl))
      case d_deed_from => (refine' U.has_mk ?qa ?ql ?qc ?qk; (case qa => k_is); (case ql => k_is); (case qc => k_is); (case qk => k_is))
      case d_either_of => (refine' U.has_mk ?qa ?ql ?qc ?qk; (case qa => k_is); (case ql => k_is); (case qc => k_is); (case qk => k_is))
      case d_block_in => (refine' U.has_mk ?qa ?ql ?qc ?qk; (case qa => k_is); (case ql => k_is); (case qc => k_is); (case qk => k_is))
      case d_block_of => (refine' U.has_mk ?qa ?ql ?qc ?qk; (case qa => k_is); (case ql => k_is); (case qc => k_is); (case qk => k_is))
      case d__law_pail => (refine' U.has_mk ?qa ?ql ?qc ?qk; (case qa => k_is); (case ql => k_is); (case qc => k_is); (case qk => k_is))
      case d__law_dip => (refine' U.has_mk ?qa ?ql ?qc ?qk; (case qa => k_is); (case ql => k_is); (case qc => k_is); (case qk => k_is))
      case d__law_pick => (refine' U.has_mk ?qa ?ql ?qc ?qk; (case qa => k_is); (case ql => k_is); (case qc => k_is); (case qk => k_is))
      case d__law_has => (refine' U.has_mk ?qa ?ql ?qc ?qk; (case qa => k_is); (case ql => k_is); (case qc => k_is); (case qk => k_is))
      case d__law_bit => (refine' U.has_mk ?qa ?ql ?qc ?qk; (case qa => k_is); (case ql => k_is); (case qc => k_is); (case qk => k_is))
      case d__law_size => (refine' U.has_mk ?qa ?ql ?qc ?qk; (case qa => k_is); (case ql => k_is); (case qc => k_is); (case qk => k_is))
      case d__law_after => (refine' U.has_mk ?qa ?ql ?qc ?qk; (case qa => k_is); (case ql => k_is); (case qc => k_is); (case qk => k_is))
      case d__law_either => (refine' U.has_mk ?qa ?ql ?qc ?qk; (case qa => k_is); (case ql => k_is); (case qc => k_is); (case qk => k_is))
      case d__law_asked => (refine' U.has_mk ?qa ?ql ?qc ?qk; (case qa => k_is); (case ql => k_is); (case qc => k_is); (case qk => k_is))
      case d__law_reckon => (refine' U.has_mk ?qa ?ql ?qc ?qk; (case qa => k_is); (case ql => k_is); (case qc => k_is); (case qk => k_is))
      case d__law_meanings => (refine' U.has_mk ?qa ?ql ?qc ?qk; (case qa => k_is); (case ql => k_is); (case qc => k_is); (case qk => k_is))
      case d__law_pieces => (refine' U.has_mk ?qa ?ql ?qc ?qk; (case qa => k_is); (case ql => k_is); (case qc => k_is); (case qk => k_is))
      case d__law_depth => (refine' U.has_mk ?qa ?ql ?qc ?qk; (case qa => k_is); (case ql => k_is); (case qc => k_is); (case qk => k_is))
      case d__law_is_plain => (refine' U.has_mk ?qa ?ql ?qc ?qk; (case qa => k_is); (case ql => k_is); (case qc => k_is); (case qk => k_is))
      case d__law_word => (refine' U.has_mk ?qa ?ql ?qc ?qk; (case qa => k_is); (case ql => k_is); (case qc => k_is); (case qk => k_is))
      case d__law_right => (refine' U.has_mk ?qa ?ql ?qc ?qk; (case qa => k_is); (case ql => k_is); (case qc => k_is); (case qk => k_is))
      case d_law => (refine' U.has_mk ?qa ?ql ?qc ?qk; (case qa => k_is); (case ql => k_is); (case qc => k_is); (case qk => k_is))
      case m_Procedure___init__ => (refine' U.meth_mk ?qa ?qi ?ql ?qc ?qk ?qg ?qt ?qf ?qp; (case qa => k_is); (case qi => k_is); (case ql => k_is); (case qc => k_is); (case qk => k_is); (case qg => k_is); (case qt => k_is); (case qf => k_is); (case qp => decide +kernel))
      case m_Procedure___len__ => (refine' U.meth_mk ?qa ?qi ?ql ?qc ?qk ?qg ?qt ?qf ?qp; (case qa => k_is); (case qi => k_is); (case ql => k_is); (case qc => k_is); (case qk => k_is); (case qg => k_is); (case qt => k_is); (case qf => k_is); (case qp => decide +kernel))
      case m_Procedure___eq__ => (refine' U.meth_mk ?qa ?qi ?ql ?qc ?qk ?qg ?qt ?qf ?qp; (case qa => k_is); (case qi => k_is); (case ql => k_is); (case qc => k_is); (case qk => k_is); (case qg => k_is); (case qt => k_is); (case qf => k_is); (case qp => decide +kernel))
      case m_Procedure___str__ => (refine' U.meth_mk ?qa ?qi ?ql ?qc ?qk ?qg ?qt ?qf ?qp; (case qa => k_is); (case qi => k_is); (case ql => k_is); (case qc => k_is); (case qk => k_is); (case qg => k_is); (case qt => k_is); (case qf => k_is); (case qp => decide +kernel))
      case m_Program___init__ => (refine' U.meth_mk ?qa ?qi ?ql ?qc ?qk ?qg ?qt ?qf ?qp; (case qa => k_is); (case qi => k_is); (case ql => k_is); (case qc => k_is); (case qk => k_is); (case qg => k_is); (case qt => k_is); (case qf => k_is); (case qp => decide +kernel))
      case m_Program_has_name => (refine' U.meth_mk ?qa ?qi ?ql ?qc ?qk ?qg ?qt ?qf ?qp; (case qa => k_is); (case qi => k_is); (case ql => k_is); (case qc => k_is); (case qk => k_is); (case qg => k_is); (case qt => k_is); (case qf => k_is); (case qp => decide +kernel))
      case m_Program___contains__ => (refine' U.meth_mk ?qa ?qi ?ql ?qc ?qk ?qg ?qt ?qf ?qp; (case qa => k_is); (case qi => k_is); (case ql => k_is); (case qc => k_is); (case qk => k_is); (case qg => k_is); (case qt => k_is); (case qf => k_is); (case qp => decide +kernel))
      case m_Program___len__ => (refine' U.meth_mk ?qa ?qi ?ql ?qc ?qk ?qg ?qt ?qf ?qp; (case qa => k_is); (case qi => k_is); (case ql => k_is); (case qc => k_is); (case qk => k_is); (case qg => k_is); (case qt => k_is); (case qf => k_is); (case qp => decide +kernel))
      case m_Program___eq__ => (refine' U.meth_mk ?qa ?qi ?ql ?qc ?qk ?qg ?qt ?qf ?qp; (case qa => k_is); (case qi => k_is); (case ql => k_is); (case qc => k_is); (case qk => k_is); (case qg => k_is); (case qt => k_is); (case qf => k_is); (case qp => decide +kernel))
      case m_Program___str__ => (refine' U.meth_mk ?qa ?qi ?ql ?qc ?qk ?qg ?qt ?qf ?qp; (case qa => k_is); (case qi => k_is); (case ql => k_is); (case qc => k_is); (case qk => k_is); (case qg => k_is); (case qt => k_is); (case qf => k_is); (case qp => decide +kernel))
      case i_Space => (refine' U.initk_mk ?qa ?qi ?ql ?qc ?qk ?qg ?qt ?qf ?qd ?qr ?qp; (case qa => k_is); (case qi => k_is); (case ql => k_is); (case qc => k_is); (case qk => k_is); (case qg => k_is); (case qt => k_is); (case qf => k_is); (case qd => k_is); (case qr => rfl); (case qp => decide +kernel))
      case m_Space_bit => (refine' U.meth_mk ?qa ?qi ?ql ?qc ?qk ?qg ?qt ?qf ?qp; (case qa => k_is); (case qi => k_is); (case ql => k_is); (case qc => k_is); (case qk => k_is); (case qg => k_is); (case qt => k_is); (case qf => k_is); (case qp => decide +kernel))
      case m_Space_has => (refine' U.meth_mk ?qa ?qi ?ql ?qc ?qk ?qg ?qt ?qf ?qp; (case qa => k_is); (case qi => k_is); (case ql => k_is); (case qc => k_is); (case qk => k_is); (case qg => k_is); (case qt => k_is); (case qf => k_is); (case qp => decide +kernel))
      case m_Space_is_relation => (refine' U.meth_mk ?qa ?qi ?ql ?qc ?qk ?qg ?qt ?qf ?qp; (case qa => k_is); (case qi => k_is); (case ql => k_is); (case qc => k_is); (case qk => k_is); (case qg => k_is); (case qt => k_is); (case qf => k_is); (case qp => decide +kernel))
      case m_Space_require_relation => (refine' U.meth_mk ?qa ?qi ?ql ?qc ?qk ?qg ?qt ?qf ?qp; (case qa => k_is); (case qi => k_is); (case ql => k_is); (case qc => k_is); (case qk => k_is); (case qg => k_is); (case qt => k_is); (case qf => k_is); (case qp => decide +kernel))
      case m_Space_pairs => (refine' U.meth_mk ?qa ?qi ?ql ?qc ?qk ?qg ?qt ?qf ?qp; (case qa => k_is); (case qi => k_is); (case ql => k_is); (case qc => k_is); (case qk => k_is); (case qg => k_is); (case qt => k_is); (case qf => k_is); (case qp => decide +kernel))
      case m_Space_after => (refine' U.meth_mk ?qa ?qi ?ql ?qc ?qk ?qg ?qt ?qf ?qp; (case qa => k_is); (case qi => k_is); (case ql => k_is); (case qc => k_is); (case qk => k_is); (case qg => k_is); (case qt => k_is); (case qf => k_is); (case qp => decide +kernel))
      case m_Space_is_led => (refine' U.meth_mk ?qa ?qi ?ql ?qc ?qk ?qg ?qt ?qf ?qp; (case qa => k_is); (case qi => k_is); (case ql => k_is); (case qc => k_is); (case qk => k_is); (case qg => k_is); (case qt => k_is); (case qf => k_is); (case qp => decide +kernel))
      case m_Space_is_table => (refine' U.meth_mk ?qa ?qi ?ql ?qc ?qk ?qg ?qt ?qf ?qp; (case qa => k_is); (case qi => k_is); (case ql => k_is); (case qc => k_is); (case qk => k_is); (case qg => k_is); (case qt => k_is); (case qf => k_is); (case qp => decide +kernel))
      case m_Look___init__ => (refine' U.meth_mk ?qa ?qi ?ql ?qc ?qk ?qg ?qt ?qf ?qp; (case qa => k_is); (case qi => k_is); (case ql => k_is); (case qc => k_is); (case qk => k_is); (case qg => k_is); (case qt => k_is); (case qf => k_is); (case qp => decide +kernel))
      case m_Look_found => (refine' U.meth_mk ?qa ?qi ?ql ?qc ?qk ?qg ?qt ?qf ?qp; (case qa => k_is); (case qi => k_is); (case ql => k_is); (case qc => k_is); (case qk => k_is); (case qg => k_is); (case qt => k_is); (case qf => k_is); (case qp => decide +kernel))
      case m_Reckoner___init__ => (refine' U.meth_mk ?qa ?qi ?ql ?qc ?qk ?qg ?qt ?qf ?qp; (case qa => k_is); (case qi => k_is); (case ql => k_is); (case qc => k_is); (case qk => k_is); (case qg => k_is); (case qt => k_is); (case qf => k_is); (case qp => decide +kernel))
      case m_Reckoner_deed => (refine' U.meth_mk ?qa ?qi ?ql ?qc ?qk ?qg ?qt ?qf ?qp; (case qa => k_is); (case qi => k_is); (case ql => k_is); (case qc => k_is); (case qk => k_is); (case qg => k_is); (case qt => k_is); (case qf => k_is); (case qp => decide +kernel))
      case m_Reckoner_term => (refine' U.meth_mk ?qa ?qi ?ql ?qc ?qk ?qg ?qt ?qf ?qp; (case qa => k_is); (case qi => k_is); (case ql => k_is); (case qc => k_is); (case qk => k_is); (case qg => k_is); (case qt => k_is); (case qf => k_is); (case qp => decide +kernel))
      case m_Reckoner_around => (refine' U.meth_mk ?qa ?qi ?ql ?qc ?qk ?qg ?qt ?qf ?qp; (case qa => k_is); (case qi => k_is); (case ql => k_is); (case qc => k_is); (case qk => k_is); (case qg => k_is); (case qt => k_is); (case qf => k_is); (case qp => decide +kernel))
      case m_Reckoner_table => (refine' U.meth_mk ?qa ?qi ?ql ?qc ?qk ?qg ?qt ?qf ?qp; (case qa => k_is); (case qi => k_is); (case ql => k_is); (case qc => k_is); (case qk => k_is); (case qg => k_is); (case qt => k_is); (case qf => k_is); (case qp => decide +kernel))
      case m_Reckoner_meaning => (refine' U.meth_mk ?qa ?qi ?ql ?qc ?qk ?qg ?qt ?qf ?qp; (case qa => k_is); (case qi => k_is); (case ql => k_is); (case qc => k_is); (case qk => k_is); (case qg => k_is); (case qt => k_is); (case qf => k_is); (case qp => decide +kernel))
      case m_Reckoner_given => (refine' U.meth_mk ?qa ?qi ?ql ?qc ?qk ?qg ?qt ?qf ?qp; (case qa => k_is); (case qi => k_is); (case ql => k_is); (case qc => k_is); (case qk => k_is); (case qg => k_is); (case qt => k_is); (case qf => k_is); (case qp => decide +kernel))
      case m_Reckoner_own_meanings => (refine' U.meth_mk ?qa ?qi ?ql ?qc ?qk ?qg ?qt ?qf ?qp; (case qa => k_is); (case qi => k_is); (case ql => k_is); (case qc => k_is); (case qk => k_is); (case qg => k_is); (case qt => k_is); (case qf => k_is); (case qp => decide +kernel))
      case m_Reckoner_reckon => (refine' U.meth_mk ?qa ?qi ?ql ?qc ?qk ?qg ?qt ?qf ?qp; (case qa => k_is); (case qi => k_is); (case ql => k_is); (case qc => k_is); (case qk => k_is); (case qg => k_is); (case qt => k_is); (case qf => k_is); (case qp => decide +kernel))
      case m_Reckoner_is_meaning => (refine' U.meth_mk ?qa ?qi ?ql ?qc ?qk ?qg ?qt ?qf ?qp; (case qa => k_is); (case qi => k_is); (case ql => k_is); (case qc => k_is); (case qk => k_is); (case qg => k_is); (case qt => k_is); (case qf => k_is); (case qp => decide +kernel))
      case m_Reckoner_is_context => (refine' U.meth_mk ?qa ?qi ?ql ?qc ?qk ?qg ?qt ?qf ?qp; (case qa => k_is); (case qi => k_is); (case ql => k_is); (case qc => k_is); (case qk => k_is); (case qg => k_is); (case qt => k_is); (case qf => k_is); (case qp => decide +kernel))
      case m_Reckoner_is_plain_book => (refine' U.meth_mk ?qa ?qi ?ql ?qc ?qk ?qg ?qt ?qf ?qp; (case qa => k_is); (case qi => k_is); (case ql => k_is); (case qc => k_is); (case qk => k_is); (case qg => k_is); (case qt => k_is); (case qf => k_is); (case qp => decide +kernel))
      case n_Procedure_own_name => (refine' U.noattr_mk ?qa; (case qa => k_is))
      case n_Procedure_own_parameters => (refine' U.noattr_mk ?qa; (case qa => k_is))
      case n_Procedure_own_body => (refine' U.noattr_mk ?qa; (case qa => k_is))
      case n_Procedure_own_kinds => (refine' U.noattr_mk ?qa; (case qa => k_is))
      case n_Procedure_own_pieces => (refine' U.noattr_mk ?qa; (case qa => k_is))
      case n_Procedure_own_shape => (refine' U.noattr_mk ?qa; (case qa => k_is))
      case n_Program_own_has_wraps => (refine' U.noattr_mk ?qa; (case qa => k_is))
      case n_Program_own_modes => (refine' U.noattr_mk ?qa; (case qa => k_is))
      case n_Space_own_modes => (refine' U.noattr_mk ?qa; (case qa => k_is))
      case n_Program_own_procedures => (refine' U.noattr_mk ?qa; (case qa => k_is))
      case n_Program_own_table => (refine' U.noattr_mk ?qa; (case qa => k_is))
      case n_Space_own_watched => (refine' U.noattr_mk ?qa; (case qa => k_is))
      case n_Space_own_ends => (refine' U.noattr_mk ?qa; (case qa => k_is))
      case n_Space_own_powers => (refine' U.noattr_mk ?qa; (case qa => k_is))
      case n_Space_own_size => (refine' U.noattr_mk ?qa; (case qa => k_is))
      case n_Space_own_same => (refine' U.noattr_mk ?qa; (case qa => k_is))
      case n_Look_own_book => (refine' U.noattr_mk ?qa; (case qa => k_is))
      case n_Look_own_asked => (refine' U.noattr_mk ?qa; (case qa => k_is))
      case n_Reckoner_own_program => (refine' U.noattr_mk ?qa; (case qa => k_is))
      case n_Reckoner_own_word => (refine' U.noattr_mk ?qa; (case qa => k_is))
      case n_Reckoner_own_space => (refine' U.noattr_mk ?qa; (case qa => k_is))
      case x_InvalidProgram => (refine' ⟨?qa, ?qb, ?qc, ?qd, ?qe⟩; (case qa => k_is); (case qb => k_exc); (case qc => k_is); (case qd => k_is); (case qe => k_is))
      case x_InvalidMeaning => (refine' ⟨?qa, ?qb, ?qc, ?qd, ?qe⟩; (case qa => k_is); (case qb => k_exc); (case qc => k_is); (case qd => k_is); (case qe => k_is))
      case x_InvalidOperation => (refine' ⟨?qa, ?qb, ?qc, ?qd, ?qe⟩; (case qa => k_is); (case qb => k_exc); (case qc => k_is); (case qd => k_is); (case qe => k_is))
      case xe_InvalidNumber => (refine' U.xerr_mk (VV0.EB2.of PySem.F.excBase_IndexError) ⟨PySem.F.store_IndexError.passes, by decide +kernel⟩ ?qa ?ql ?qs ?qe ?qt ?qk ?qi ?qm ?qc ?qf ?qy ?qn ?qv ?qg ?qh ?qd; (case qa => k_is); (case ql => k_is); (case qs => k_is); (case qe => k_is); (case qt => k_is); (case qk => k_is); (case qi => k_is); (case qm => k_is); (case qc => k_is); (case qf => k_is); (case qy => k_is); (case qn => k_is); (case qv => k_is); (case qg => k_is); (case qh => k_is); (case qd => k_is))
      case zb_InvalidNumber => (k_is)
      case em_InvalidProgram_InvalidProgram => (first | k_is | kernel_rfl)
      case em_InvalidProgram_InvalidMeaning => (first | k_is | kernel_rfl)
      case em_InvalidProgram_InvalidOperation => (first | k_is | kernel_rfl)
      case em_InvalidProgram_InvalidNumber => (first | k_is | kernel_rfl)
      case em_InvalidMeaning_InvalidProgram => (first | k_is | kernel_rfl)
      case em_InvalidMeaning_InvalidMeaning => (first | k_is | kernel_rfl)
      case em_InvalidMeaning_InvalidOperation => (first | k_is | kernel_rfl)
      case em_InvalidMeaning_InvalidNumber => (first | k_is | kernel_rfl)
      case em_InvalidOperation_InvalidProgram => (first | k_is | kernel_rfl)
      case em_InvalidOperation_InvalidMeaning => (first | k_is | kernel_rfl)
      case em_InvalidOperation_InvalidOperation => (first | k_is | kernel_rfl)
      case em_InvalidOperation_InvalidNumber => (first | k_is | kernel_rfl)
      case em_InvalidNumber_InvalidProgram => (first | k_is | kernel_rfl)
      case em_InvalidNumber_InvalidMeaning => (first | k_is | kernel_rfl)
      case em_InvalidNumber_InvalidOperation => (first | k_is | kernel_rfl)
      case em_InvalidNumber_InvalidNumber => (first | k_is | kernel_rfl)
      case dc__law_right => (refine' U.hasc_mk ?qa ?ql ?qc ?qk; (case qa => k_is); (case ql => k_is); (case qc => k_is); (case qk => k_is))
      case tb__law_right => (refine' U.hastab_mk ?ql ?qm ?qh ?qn; (case ql => k_is); (case qm => rfl); (case qh => kernel_rfl); (case qn => kernel_rfl))
      case ne_Procedure => (k_is)
      case kt_NoneType => (refine' U.kit_mk ?qa ?qb ?qc; (case qa => k_is); (case qb => k_is); (case qc => k_is))
      case nf_NoneType => (k_is)
      case kt_bool => (refine' U.kit_mk ?qa ?qb ?qc; (case qa => k_is); (case qb => k_is); (case qc => k_is))
      case nf_bool => (k_is)
      case kt_int => (refine' U.kit_mk ?qa ?qb ?qc; (case qa => k_is); (case qb => k_is); (case qc => k_is))
      case nf_int => (k_is)
      case kt_str => (refine' U.kit_mk ?qa ?qb ?qc; (case qa => k_is); (case qb => k_is); (case qc => k_is))
      case nf_str => (k_is)
      case kt_list => (refine' U.kit_mk ?qa ?qb ?qc; (case qa => k_is); (case qb => k_is); (case qc => k_is))
      case nf_list => (k_is)
      case kt_tuple => (refine' U.kit_mk ?qa ?qb ?qc; (case qa => k_is); (case qb => k_is); (case qc => k_is))
      case nf_tuple => (k_is)
      case kt_dict => (refine' U.kit_mk ?qa ?qb ?qc; (case qa => k_is); (case qb => k_is); (case qc => k_is))
      case nf_dict => (k_is)
      case mr_str => (k_is)
      case mr_tuple => (k_is)
      case ktg_NoneType => (refine' U.kit_mk ?qa ?qb ?qc; (case qa => k_is); (case qb => k_is); (case qc => k_is))
      case nfg_NoneType => (k_is)
      case ktg_bool => (refine' U.kit_mk ?qa ?qb ?qc; (case qa => k_is); (case qb => k_is); (case qc => k_is))
      case nfg_bool => (k_is)
      case ktg_int => (refine' U.kit_mk ?qa ?qb ?qc; (case qa => k_is); (case qb => k_is); (case qc => k_is))
      case nfg_int => (k_is)
      case ktg_str => (refine' U.kit_mk ?qa ?qb ?qc; (case qa => k_is); (case qb => k_is); (case qc => k_is))
      case nfg_str => (k_is)
      case ktg_list => (refine' U.kit_mk ?qa ?qb ?qc; (case qa => k_is); (case qb => k_is); (case qc => k_is))
      case nfg_list => (k_is)
      case ktg_tuple => (refine' U.kit_mk ?qa ?qb ?qc; (case qa => k_is); (case qb => k_is); (case qc => k_is))
      case nfg_tuple => (k_is)
      case ktg_dict => (refine' U.kit_mk ?qa ?qb ?qc; (case qa => k_is); (case qb => k_is); (case qc => k_is))
      case nfg_dict => (k_is)
      case kit_GP => (refine' U.kit_mkR (by decide) ?qa ?qb ?qc; (case qa => k_is); (case qb => k_is); (case qc => k_is))
      case kit_PG => (refine' U.kit_mkR (by decide) ?qa ?qb ?qc; (case qa => k_is); (case qb => k_is); (case qc => k_is))
      case z_IndexError => (k_is)
      case z_KeyError => (k_is)
      case z_abs => (k_is)
      case z_all => (k_is)
      case z_any => (k_is)
      case z_bool => (k_is)
      case z_dict => (k_is)
      case z_enumerate => (k_is)
      case z_int => (k_is)
      case z_isinstance => (k_is)
      case z_len => (k_is)
      case z_list => (k_is)
      case z_max => (k_is)
      case z_min => (k_is)
      case z_range => (k_is)
      case z_repr => (k_is)
      case z_str => (k_is)
      case z_sum => (k_is)
      case z_tuple => (k_is)
      case z_zip => (k_is)
      case c_LETTERS => (refine' U.cst_str ?qe; (case qe => k_is))
      case c_MAX_LETTERS => (refine' U.cst_int ?qe; (case qe => k_is))
      case c_BLOCK => (refine' U.cst_str ?qe; (case qe => k_is))
      case c_WRAP => (refine' U.cst_str ?qe; (case qe => k_is))
      case c_TERM_WORDS => (refine' U.kstrs_mk ?qa ?qb ?qc ?qd; (case qa => k_is); (case qb => k_is); (case qc => decide +kernel); (case qd => exact (.cons ⟨_, rfl⟩ (.cons ⟨_, rfl⟩ (.cons ⟨_, rfl⟩ (.cons ⟨_, rfl⟩ (.cons ⟨_, rfl⟩ (.cons ⟨_, rfl⟩ .nil))))))))
      case c_WRAP_WORDS => (refine' U.kstrs_mk ?qa ?qb ?qc ?qd; (case qa => k_is); (case qb => k_is); (case qc => decide +kernel); (case qd => exact (.cons ⟨_, rfl⟩ (.cons ⟨_, rfl⟩ .nil))))
      case c_MAX_PARAMETERS => (refine' U.cst_int ?qe; (case qe => k_is))
      case c_MAX_DEPTH => (refine' U.cst_int ?qe; (case qe => k_is))
      case c_MAX_TERMS => (refine' U.cst_int ?qe; (case qe => k_is))
      case c_MAX_MODES => (refine' U.cst_int ?qe; (case qe => k_is))
      case c_MAIN => (refine' U.cst_str ?qe; (case qe => k_is))
      case c_MAX_PROCEDURES => (refine' U.cst_int ?qe; (case qe => k_is))
      case c_GO => (refine' U.cst_str ?qe; (case qe => k_is))
    case g => k_mem
#print axioms PySem.Challenge.cw_blockshanded_k68_blocks_made_holds
