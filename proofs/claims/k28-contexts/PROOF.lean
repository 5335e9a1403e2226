import PyProof.Rows.All
import Wide.All
import OpenK.AllK
import Wide.FinOn
import HandS.ForMost
import HandS.IsInst
import HandS.Flow
import HandS.Wide
import HandS.Style
import HandS.RaiseMore
import HandS.Steps
import HandS.MakeKwOnly
import HandS.Property
import HandS.OwnEq
import HandS.MethStar
import HandS.TupSets
import HandS.Deep
import HandS.FStr
import HandS.TupAny
import HandS.TupMul
import HandS.Conv
import HandS.Zip
import HandS.Lambda
import HandS.Exc
import PyProof.Rows.SeqMore
import PyProof.ListMulAny
import HandS.TryOnly
import HandS.WideBits
import PyProof.WalksMore
import KE.KUnpackStar
import HandS.SetBool
import HandS.SetFor
import HandS.More
import HandS.Dict
import PyProof.AttrMissHeap
import PyProof.NeKinds
import HandS.ExcOwn
import HandS.Small
import HandS.TryMany
import HandS.WordsExc
import HandS.EndTab
import HandS.HeadWalk
import HandS.DictComp
import HandS.ClsMeth
import HandS.Star
import PyProof.Rows.SortShellAny
import PyProof.EqKinds
import PyProof.Claim2Refuses
import KE.KExcInit
import HandS.ExcInit
import HandS.ExcField
import PyProof.RulesRaise
import PyProof.FactsTree
import HandS.ExcIs
import KE.GoesMore
import KE.GoesEnum
import KE.KIsAll
import KE.KTryMore
import HandS.ExcValue
import KE.KDictCopyH
import HandS.ListItems
import KE.KDictZip
import PySem.Challenge.RW_blockshanded_k28_contexts_judged
set_option Elab.async false
set_option linter.all false
set_option maxRecDepth 100000
set_option maxHeartbeats 2000000
namespace U
open PySem PySem.Spec PyProof.Rows L2
section
variable {X : Cx} {a b c e : Expr} {ta tb tc te t t' : TE} {pos : Pos}
theorem imp (h : PE X e t) (f : ∀ σ H Q, t' σ H Q → t σ H Q) : PE X e t' := ⟨fun pins s σ H Q I q => h.run pins s σ H Q I (f σ H Q q)⟩
theorem opImp {f : Value → Value → Sem Value} {r r' : R2} (h : OpR X f r) (g : ∀ x y H Q, r' x y H Q → r x y H Q) : OpR X f r' :=
  fun pins s σ H x y v u Q I rx ry q => h pins s σ H x y v u Q I rx ry (g x y H Q q)
theorem callImp {f : Value} {r r' : List V → Hp → VK → Prop} (h : CallR X f r) (g : ∀ xs H Q, r' xs H Q → r xs H Q) : CallR X f r' :=
  fun pins s σ H xs us Q I rx q => h pins s σ H xs us Q I rx (g xs H Q q)
/-- several rules of one operation, chosen by the values -/
theorem opCases {f : Value → Value → Sem Value} {r : R2} (h : ∀ x y H Q, r x y H Q → ∃ r' : R2, OpR X f r' ∧ r' x y H Q) : OpR X f r :=
  fun pins s σ H x y v u Q I rx ry q => let ⟨_, o, q'⟩ := h x y H Q q; o pins s σ H x y v u Q I rx ry q'
theorem callCases {f : Value} {r : List V → Hp → VK → Prop} (h : ∀ xs H Q, r xs H Q → ∃ r' : List V → Hp → VK → Prop, CallR X f r' ∧ r' xs H Q) : CallR X f r :=
  fun pins s σ H xs us Q I rx q => let ⟨_, o, q'⟩ := h xs H Q q; o pins s σ H xs us Q I rx q'

def fVar (i : Nat) : TE := fun σ H Q => match σ[i]? with | some (some v) => Q v H | _ => False
theorem n (i : Nat) {x : Str} {pos : Pos} (hN : X.N[i]? = some x := by rfl) (hv : Vis X.env.scope x := by first | exact Or.inl rfl | exact Or.inr (Or.inl rfl) | exact Or.inr (Or.inr rfl))
    (hd : (x == ("__debug__" : Str)) = false := by decide) (hcd : (x == ("__classdict__" : Str)) = false := by decide) : PE X (.Name x pos) (fVar i) :=
  imp (pe_var hN hv hd hcd) fun σ H Q h => by
    unfold fVar at h
    split at h
    · rename_i v e
      exact ⟨v, e, h⟩
    · exact h.elim

def fAdd : R2 := fun x y H Q => match x, y with
  | .int i, .int j => Q (.int (i + j)) H
  | .int i, .bl k => Q (.int (i + b2i k)) H
  | .str a, .str b => a.length + b.length ≤ sizeLine ∧ Q (.str (a ++ b)) H
  | .ref l, .ref r => rCat (.ref l) (.ref r) H Q
  | _, _ => False
theorem o_add : OpR X (binaryOp .Add) fAdd := opCases fun x y H Q h => by
  cases x <;> cases y <;> first | exact h.elim | skip
  · exact ⟨_, op_add_ib, _, _, rfl, rfl, h⟩
  · exact ⟨_, op_add, _, _, rfl, rfl, h⟩
  · exact ⟨_, op_add_str, _, _, rfl, rfl, h.1, h.2⟩
  · exact ⟨_, op_cat, h⟩
def fSub : R2 := fun x y H Q => match x, y with
  | .int i, .int j => Q (.int (i - j)) H
  | _, _ => False
theorem o_sub : OpR X (binaryOp .Sub) fSub := opCases fun x y H Q h => by
  cases x <;> cases y <;> first | exact h.elim | exact ⟨_, op_sub, _, _, rfl, rfl, h⟩
def fMul : R2 := fun x y H Q => match x, y with
  | .int i, .int j => CMul i j ∧ Q (.int (i * j)) H
  | .ref l, .int k => rRep (.ref l) (.int k) H Q
  | _, _ => False
theorem o_mul : OpR X (binaryOp .Mult) fMul := opCases fun x y H Q h => by
  cases x <;> cases y <;> first | exact h.elim | exact ⟨_, op_mul, _, _, rfl, rfl, h.1, h.2⟩ | exact ⟨_, op_rep, h⟩
def fDiv : R2 := fun x y H Q => match x, y with
  | .int i, .int j => CDiv i j ∧ Q (.int (i / j)) H
  | _, _ => False
theorem o_div : OpR X (binaryOp .FloorDiv) fDiv := opCases fun x y H Q h => by
  cases x <;> cases y <;> first | exact h.elim | exact ⟨_, op_fdiv, _, _, rfl, rfl, h.1, h.2⟩
def fMod : R2 := fun x y H Q => match x, y with
  | .int i, .int j => 0 < j ∧ Q (.int (i % j)) H
  | _, _ => False
theorem o_mod : OpR X (binaryOp .Mod) fMod := opCases fun x y H Q h => by
  cases x <;> cases y <;> first | exact h.elim | exact ⟨_, op_mod, _, _, rfl, rfl, h.1, h.2⟩
/-- a written power of written numbers -/
def CPowW (i j : Int) : Prop := 0 ≤ j ∧ (Builtin.Int.intBits i : Int) * j ≤ 2 ^ 27
theorem op_powW : OpR X (binaryOp .Pow) (rI CPowW fun i j => .int (i ^ j.toNat)) := opI fun _ _ _ _ _ _ _ hc q => pow_int hc.1 hc.2 q
def fPow : R2 := fun x y H Q => match x, y with
  | .int i, .int j => CPowW i j ∧ Q (.int (i ^ j.toNat)) H
  | _, _ => False
theorem o_pow : OpR X (binaryOp .Pow) fPow := opCases fun x y H Q h => by
  cases x <;> cases y <;> first | exact h.elim | exact ⟨_, op_powW, _, _, rfl, rfl, h.1, h.2⟩

def fLt : R2 := fun x y H Q => match x, y with
  | .int i, .int j => Q (.bl (decide (i < j))) H
  | .str a, .str b => Q (.bl (decide (a.cps.toList < b.cps.toList))) H
  | _, _ => False
def fLe : R2 := fun x y H Q => match x, y with
  | .int i, .int j => Q (.bl (decide (i ≤ j))) H
  | .str a, .str b => Q (.bl (!decide (b.cps.toList < a.cps.toList))) H
  | _, _ => False
def fGt : R2 := fun x y H Q => match x, y with
  | .int i, .int j => Q (.bl (decide (j < i))) H
  | .str a, .str b => Q (.bl (decide (b.cps.toList < a.cps.toList))) H
  | _, _ => False
theorem o_lt : OpR X (compareOp .Lt) fLt := opCases fun x y H Q h => by
  cases x <;> cases y <;> first | exact h.elim | exact ⟨_, op_lt, _, _, rfl, rfl, h⟩ | exact ⟨_, op_lt_str, _, _, rfl, rfl, h⟩
theorem o_le : OpR X (compareOp .LtE) fLe := opCases fun x y H Q h => by
  cases x <;> cases y <;> first | exact h.elim | exact ⟨_, op_le, _, _, rfl, rfl, h⟩ | exact ⟨_, op_le_str, _, _, rfl, rfl, h⟩
theorem o_gt : OpR X (compareOp .Gt) fGt := opCases fun x y H Q h => by
  cases x <;> cases y <;> first | exact h.elim | exact ⟨_, op_gt, _, _, rfl, rfl, h⟩ | exact ⟨_, op_gt_str, _, _, rfl, rfl, h⟩
/-- == of two scalars at once; of data by what it holds -/
def fEq (K : PySem.W.Frag) : R2 := fun x y H Q => match x, y with
  | .int i, .int j => Q (.bl (decide (i = j))) H
  | .str a, .str b => Q (.bl (decide (a = b))) H
  | .bl a, .bl b => Q (.bl (decide (a = b))) H
  | _, _ => rEqD K x y H Q
def fNe (K : PySem.W.Frag) : R2 := fun x y H Q => match x, y with
  | .int i, .int j => Q (.bl (!decide (i = j))) H
  | .str a, .str b => Q (.bl (!decide (a = b))) H
  | .bl a, .bl b => Q (.bl (!decide (a = b))) H
  | _, _ => rNeD K x y H Q
theorem dI {i j : Int} : decide (V.int i = V.int j) = decide (i = j) := by simp
theorem dS {i j : Str} : decide (V.str i = V.str j) = decide (i = j) := by simp
theorem dB {i j : Bool} : decide (V.bl i = V.bl j) = decide (i = j) := by simp
theorem o_eq (hu : X.A.units + 64 < cLine) : OpR X (compareOp .Eq) (fEq X.K) := opCases fun x y H Q h => by
  cases x <;> cases y <;> first | exact ⟨_, op_eqD hu, h⟩ | exact ⟨_, op_eq, rfl, by rw [dI]; exact h⟩ | exact ⟨_, op_eq, rfl, by rw [dS]; exact h⟩ | exact ⟨_, op_eq, rfl, by rw [dB]; exact h⟩
theorem o_ne (hu : X.A.units + 64 < cLine) : OpR X (compareOp .NotEq) (fNe X.K) := opCases fun x y H Q h => by
  cases x <;> cases y <;> first | exact ⟨_, op_neD hu, h⟩ | exact ⟨_, op_ne, rfl, by rw [dI]; exact h⟩ | exact ⟨_, op_ne, rfl, by rw [dS]; exact h⟩ | exact ⟨_, op_ne, rfl, by rw [dB]; exact h⟩
def fIsN : R2 := fun x y H Q => match y with
  | .non => Q (.bl (decide (x = .non))) H
  | _ => False
def fNotN : R2 := fun x y H Q => match y with
  | .non => Q (.bl (!decide (x = .non))) H
  | _ => False
theorem o_isN : OpR X (compareOp .Is) fIsN := opCases fun x y H Q h => by
  cases y <;> first | exact h.elim | exact ⟨_, op_isN, rfl, h⟩
theorem o_notN : OpR X (compareOp .IsNot) fNotN := opCases fun x y H Q h => by
  cases y <;> first | exact h.elim | exact ⟨_, op_notN, rfl, h⟩

def fTest (t : TE) : TT := fun σ H Q => t σ H fun x H' => match x with
  | .bl k => Q k H'
  | _ => False
theorem fTest_eq : fTest = tTest := by
  funext t σ H Q
  show t σ H _ = t σ H _
  congr 1
  funext x H'
  cases x <;> simp
/-- a comparison as a test, as a value -/
theorem tcm {op : CmpOp} {r : R2} (ho : OpR X (compareOp op) r) (ha : PE X a ta) (hb : PE X b tb) (hm : behindInMarks op b = false := by first | exact nomark _ | rfl) : PT X (.Compare a [op] [b] pos) (fTest (tOp r ta tb)) := by
  rw [fTest_eq]; exact pt_cmpR ho ha hb hm
theorem ecm {op : CmpOp} {r : R2} (ho : OpR X (compareOp op) r) (ha : PE X a ta) (hb : PE X b tb) (hm : behindInMarks op b = false := by first | exact nomark _ | rfl) : PE X (.Compare a [op] [b] pos) (tOp r ta tb) := pe_cmpR ho ha hb hm
def fChain (r r' : R2) (ta tb tc : TE) : TE := fun σ H Q => ta σ H fun x H1 => tb σ H1 fun y H2 => r x y H2 fun z H3 => match z with
  | .bl k => if k = true then tc σ H3 fun w' H4 => r' y w' H4 Q else Q (.bl false) H3
  | _ => False
theorem fChain_eq : fChain = tChain := by
  funext r r' ta tb tc σ H Q
  show ta σ H _ = ta σ H _
  congr 1
  funext x H1
  show tb σ H1 _ = tb σ H1 _
  congr 1
  funext y H2
  show r x y H2 _ = r x y H2 _
  congr 1
  funext z H3
  cases z <;> simp
theorem ech {op op' : CmpOp} {r r' : R2} (ho : OpR X (compareOp op) r) (ho' : OpR X (compareOp op') r') (ha : PE X a ta) (hb : PE X b tb) (hc : PE X c tc) (hm : lastMarks [op, op'] [b, c] = false := by rfl) :
    PE X (.Compare a [op, op'] [b, c] pos) (fChain r r' ta tb tc) := by
  rw [fChain_eq]; exact pe_chain ho ho' ha hb hc hm
theorem tch {op op' : CmpOp} {r r' : R2} (ho : OpR X (compareOp op) r) (ho' : OpR X (compareOp op') r') (ha : PE X a ta) (hb : PE X b tb) (hc : PE X c tc) (hm : lastMarks [op, op'] [b, c] = false := by rfl) :
    PT X (.Compare a [op, op'] [b, c] pos) (fTest (fChain r r' ta tb tc)) := by
  rw [fChain_eq, fTest_eq]; exact pt_chain ho ho' ha hb hc hm
/-- any value as a test -/
def fTru (K : PySem.W.Frag) (t : TE) : TT := fun σ H Q => t σ H fun x H' => match x with
  | .bl k => Q k H'
  | .non => Q false H'
  | .int i => Q (i != 0) H'
  | .str y => y.length ≤ sizeLine ∧ Q ((y.length : Int) != 0) H'
  | x => ∃ k, TruV K x H' k ∧ Q k H'
theorem fTru_eq {K : PySem.W.Frag} {t : TE} : fTru K t = fun σ H Q => t σ H fun x H' => ∃ k, TruV K x H' k ∧ Q k H' := by
  funext σ H Q
  show t σ H _ = t σ H _
  congr 1
  funext x H'
  cases x <;> first | (apply propext; exact ⟨fun ⟨h1, h2⟩ => ⟨_, ⟨h1, rfl⟩, h2⟩, fun ⟨k, ⟨h1, h2⟩, h3⟩ => ⟨h1, h2 ▸ h3⟩⟩) | simp [TruV]
theorem tv (ha : PE X a ta) (he : ∀ whole, isTrue a X.env whole = (do let v ← whole; standAt a.pos; holding [v] (truthy v)) := by intro _; rfl) : PT X a (fTru X.K ta) := by
  rw [fTru_eq]; exact pt_truth ha he
def fAndV (ta tb : TE) : TE := fun σ H Q => ta σ H fun x H1 => match x with
  | .bl c => if c = true then tb σ H1 Q else Q (.bl false) H1
  | _ => False
def fOrV (ta tb : TE) : TE := fun σ H Q => ta σ H fun x H1 => match x with
  | .bl c => if c = true then Q (.bl true) H1 else tb σ H1 Q
  | _ => False
def fNotV (ta : TE) : TE := fun σ H Q => ta σ H fun x H1 => match x with
  | .bl c => Q (.bl (!c)) H1
  | _ => False
theorem fAndV_eq : fAndV = tAndV := by
  funext ta tb σ H Q
  show ta σ H _ = ta σ H _
  congr 1
  funext x H1
  cases x <;> simp
theorem fOrV_eq : fOrV = tOrV := by
  funext ta tb σ H Q
  show ta σ H _ = ta σ H _
  congr 1
  funext x H1
  cases x <;> simp
theorem fNotV_eq : fNotV = tNotV := by
  funext ta σ H Q
  show ta σ H _ = ta σ H _
  congr 1
  funext x H1
  cases x <;> simp
variable {rest : List Expr}
theorem eand (ha : PE X a ta) (hb : PE X (.BoolOp .And (b :: rest) pos) tb) : PE X (.BoolOp .And (a :: b :: rest) pos) (fAndV ta tb) := by rw [fAndV_eq]; exact pe_and ha hb
theorem eor (ha : PE X a ta) (hb : PE X (.BoolOp .Or (b :: rest) pos) tb) : PE X (.BoolOp .Or (a :: b :: rest) pos) (fOrV ta tb) := by rw [fOrV_eq]; exact pe_or ha hb
theorem enot (ha : PE X a ta) : PE X (.UnaryOp .Not a pos) (fNotV ta) := by rw [fNotV_eq]; exact pe_not ha
def fAbs : List V → Hp → VK → Prop := fun xs H Q => match xs with
  | [.int i] => Q (.int (if i < 0 then -i else i)) H
  | _ => False
theorem c_abs : CallR X (.builtin "abs") fAbs := callImp call_abs fun xs H Q h => by
  unfold fAbs at h; split at h
  · exact ⟨_, rfl, h⟩
  · exact h.elim
def fMax : List V → Hp → VK → Prop := fun xs H Q => match xs with
  | [.int i, .int j] => Q (.int (if j > i then j else i)) H
  | _ => False
theorem c_max (hc : X.calm = true) : CallR X (.builtin "max") fMax := callImp (call_max2 hc) fun xs H Q h => by
  unfold fMax at h; split at h
  · exact ⟨_, _, rfl, h⟩
  · exact h.elim
def fMin : List V → Hp → VK → Prop := fun xs H Q => match xs with
  | [.int i, .int j] => Q (.int (if j < i then j else i)) H
  | _ => False
theorem c_min (hc : X.calm = true) : CallR X (.builtin "min") fMin := callImp (call_min2 hc) fun xs H Q h => by
  unfold fMin at h; split at h
  · exact ⟨_, _, rfl, h⟩
  · exact h.elim
def fInt : List V → Hp → VK → Prop := fun xs H Q => match xs with
  | [.int i] => Q (.int i) H
  | [.bl k] => Q (.int (if k then 1 else 0)) H
  | _ => False
theorem c_int : CallR X (.type "int") fInt := callImp call_int1 fun xs H Q h => by
  unfold fInt at h; split at h
  · exact .inl ⟨_, rfl, h⟩
  · exact .inr ⟨_, rfl, h⟩
  · exact h.elim
def fLen (K : PySem.W.Frag) : List V → Hp → VK → Prop := fun xs H Q => match xs with
  | [.str y] => y.length ≤ sizeLine ∧ Q (.int y.length) H
  | [.ref p] => ∃ n : Nat, ((∃ xs, SqL K H p xs ∧ n = xs.length) ∨ ∃ xs, SqT K H p xs ∧ n = xs.length) ∧ Q (.int n) H
  | _ => False
theorem c_len : CallR X (.builtin "len") (fLen X.K) := callImp call_len fun xs H Q h => by
  unfold fLen at h; split at h
  · exact ⟨_, _, rfl, ⟨h.1, rfl⟩, h.2⟩
  · obtain ⟨n, h1, h2⟩ := h
    exact ⟨_, n, rfl, h1, h2⟩
  · exact h.elim
theorem set (i : Nat) {x : Str} {pos' : Pos} {te : TE} (hN : X.N.Nodup) (he : PE X e te) (hi : X.N[i]? = some x := by rfl) (hx : Loc X.env.scope x := by first | exact Or.inl rfl | exact Or.inr rfl) (hs : swapsWith e (some (.Name x pos')) pos.line X.env = pure false := by rfl)
    (hf : X.fn x = true ∨ X.env.scope.names.lookup x = some .local := by first | exact .inl rfl | exact .inr rfl) : PS X (.Assign [.Name x pos'] e pos) (tAsg te (gName i)) := ps_set hN hi hx he hs hf
theorem gn (i : Nat) {x : Str} {pos : Pos} (hN : X.N.Nodup) (hi : X.N[i]? = some x := by rfl) (hx : Loc X.env.scope x := by first | exact Or.inl rfl | exact Or.inr rfl)
    (hf : X.fn x = true ∨ X.env.scope.names.lookup x = some .local := by first | exact .inl rfl | exact .inr rfl) : PG X (.Name x pos) (gName i) := pg_name hN hi hx hf
/-- o[i] = v on a list -/
def fSetL : V → V → V → Hp → (Hp → Prop) → Prop := fun o i v H Q => match o, i with
  | .ref p, .int k => ∃ xs j, H p = some (.lst xs) ∧ ixN xs.length k = some j ∧ Q (upd H p (.lst (xs.set j v)))
  | _, _ => False
theorem s_list : PSet X fSetL := fun pins s σ H o i v ov iv u Q I r1 r2 r3 h => by
  cases o <;> cases i <;> first | exact h.elim | skip
  obtain ⟨xs, j, h1, h2, h3⟩ := h
  exact set_list pins s σ H _ _ v ov iv u Q I r1 r2 r3 ⟨_, xs, _, j, rfl, rfl, h1, h2, h3⟩
/-- xs[i]: a list, a tuple, a text -/
def fIx (K : PySem.W.Frag) : R2 := fun x y H Q => match x, y with
  | .str z, .int i => z.length ≤ sizeLine ∧ ∃ c, atI z.cps.toList i = some c ∧ Q (.str ⟨#[c]⟩) H
  | .ref p, .int i => ∃ xs v, (SqL K H p xs ∨ SqT K H p xs) ∧ atI xs i = some v ∧ Q v H
  | _, _ => False
theorem x_seq : IxR X (fIx X.K) := fun value slice pins s σ H x y v u Q I rx ry h hs => by
  cases x <;> cases y <;> first | exact h.elim | skip
  · obtain ⟨h1, c, h2, h3⟩ := h
    exact ix_str value slice pins s σ H _ _ v u Q I rx ry ⟨_, _, c, rfl, rfl, h1, h2, h3⟩ hs
  · obtain ⟨xs, z, h1 | h1, h2, h3⟩ := h
    · exact ix_list value slice pins s σ H _ _ v u Q I rx ry ⟨_, xs, _, z, rfl, rfl, h1, h2, h3⟩ hs
    · exact ix_tup value slice pins s σ H _ _ v u Q I rx ry ⟨_, xs, _, z, rfl, rfl, h1, h2, h3⟩ hs
theorem ix (ha : PE X a ta) (hb : PE X b tb) (hs : PlainIx b := by exact fun _ _ => rfl) : PE X (.Subscript a b pos) (tOp (fIx X.K) ta tb) := pe_ix x_seq ha hb hs
end
def Pr (pre : List V → Hp → Prop) (post : List V → Hp → V → Hp → Prop) : Sp := fun vs H Q _ => pre vs H ∧ ∀ v H', post vs H v H' → Q v H'

theorem b_len : bootBuiltins "len" = some (.builtin "len") := by decide +kernel
theorem b_abs : bootBuiltins "abs" = some (.builtin "abs") := by decide +kernel
theorem b_max : bootBuiltins "max" = some (.builtin "max") := by decide +kernel
theorem b_min : bootBuiltins "min" = some (.builtin "min") := by decide +kernel
theorem b_repr : bootBuiltins "repr" = some (.builtin "repr") := by decide +kernel
theorem b_isinstance : bootBuiltins "isinstance" = some (.builtin "isinstance") := by decide +kernel
theorem b_all : bootBuiltins "all" = some (.builtin "all") := by decide +kernel
theorem b_any : bootBuiltins "any" = some (.builtin "any") := by decide +kernel
theorem b_sum : bootBuiltins "sum" = some (.builtin "sum") := by decide +kernel
theorem b_sorted : bootBuiltins "sorted" = some (.builtin "sorted") := by decide +kernel
theorem b_int : bootBuiltins "int" = some (.type "int") := by decide +kernel
theorem b_str : bootBuiltins "str" = some (.type "str") := by decide +kernel
theorem b_bool : bootBuiltins "bool" = some (.type "bool") := by decide +kernel
theorem b_tuple : bootBuiltins "tuple" = some (.type "tuple") := by decide +kernel
theorem b_list : bootBuiltins "list" = some (.type "list") := by decide +kernel
theorem b_dict : bootBuiltins "dict" = some (.type "dict") := by decide +kernel
section
variable {X : Cx} {e : Expr} {es : List Expr} {t : TA} {p pos : Pos} {x : Str}
theorem e_ty {T : String} (m : X.mg x = none) (hv : bootBuiltins x = some (.type T)) (hg : Gl X x := by rfl) (hn : x ≠ "__name__" := by decide) (hd : (x == ("__debug__" : Str)) = false := by decide) : PE X (.Name x pos) (tC (.ty T)) := pe_bltn hg m hv rfl hn hd
/-- repr of scalars -/
def fRepr : List V → Hp → VK → Prop := fun xs H Q => match xs with
  | [.bl k] => Q (.str (if k then "True" else "False")) H
  | [.int i] => i.natAbs.log2 < 1920 ∧ Q (.str (toString i)) H
  | [.non] => Q (.str "None") H
  | _ => False
theorem call_repr_bl : CallR X (.builtin "repr") (fun xs H Q => ∃ b, xs = [.bl b] ∧ Q (.str (if b then "True" else "False")) H) := by
  intro pins s σ H xs us Q I r h
  obtain ⟨b, rfl, q⟩ := h
  obtain ⟨u, rfl, rfl⟩ := vals1 r
  exact PySem.P.repr_of_bool ⟨.str _, H, I.tok _, ⟨_, rfl⟩, q⟩
theorem call_repr_non : CallR X (.builtin "repr") (fun xs H Q => xs = [.non] ∧ Q (.str "None") H) := by
  intro pins s σ H xs us Q I r h
  obtain ⟨rfl, q⟩ := h
  obtain ⟨u, rfl, rfl⟩ := vals1 r
  exact PySem.P.repr_of_none ⟨.str _, H, I.tok _, ⟨_, rfl⟩, q⟩
theorem c_repr : CallR X (.builtin "repr") fRepr := callCases fun xs H Q h => by
  unfold fRepr at h; split at h
  · exact ⟨_, call_repr_bl, _, rfl, h⟩
  · exact ⟨_, SkE.call_repr_int, _, rfl, h.1, h.2⟩
  · exact ⟨_, call_repr_non, rfl, h⟩
  · exact h.elim
/-- isinstance(x, a built-in type) -/
def isK (a T : String) : Bool := a == T || (a == "bool" && T == "int")
def kinds : List String := ["NoneType", "bool", "int", "str", "list", "tuple", "dict"]
theorem kinds_ok : (kinds.all fun a => kinds.all fun T => kitB a T == some (isK a T)) = true := by decide +kernel
theorem kit_ok {K : PySem.W.Frag} {a T : String} (ha : kinds.contains a = true) (hT : kinds.contains T = true) : PySem.W.kitOne K (.type a) (.type T) = some (isK a T) := by
  have h := List.all_eq_true.mp kinds_ok a (List.contains_iff_mem.mp ha)
  have h2 := List.all_eq_true.mp h T (List.contains_iff_mem.mp hT)
  exact kit_ty (eq_of_beq h2)
theorem slCases {r : V → Option Int → Option Int → Hp → VK → Prop} (h : ∀ x lo hi H Q, r x lo hi H Q → ∃ r' : V → Option Int → Option Int → Hp → VK → Prop, SlR X r' ∧ r' x lo hi H Q) : SlR X r := by
  intro pins s σ H x v vl vu lo hi sl Q I rx hs pl pu q
  obtain ⟨r', o, q'⟩ := h x lo hi H Q q
  exact o pins s σ H x v vl vu lo hi sl Q I rx hs pl pu q'
def fPart (t : TE) : TO := fun σ H Q => t σ H fun x H1 => match x with
  | .int i => Q (some i) H1
  | _ => False
theorem fPart_eq : fPart = tPart := by
  funext t σ H Q
  show t σ H _ = t σ H _
  congr 1
  funext x H'
  cases x <;> simp
theorem posome {te : TE} {e : Expr} (h : PE X e te) : PO X (some e) (fPart te) := by rw [fPart_eq]; exact po_some h
end
/-- the def st stands under the name x -/
structure HasDef (K : PySem.W.Frag) (x : Str) (st : Stmt) : Prop where
  ex : ∃ f fd, Fun K x x st f fd ∧ PySem.W.nsIn K mainGlobals x = some (some (.ref f))
theorem has_mk {K : PySem.W.Frag} {x : Str} {st : Stmt} {f : Addr} {oc : Value} {od an : Option Addr} {osl : Array (Option Value)} {kV doc pm cdv ct : Value} (a : PySem.W.nsIn K mainGlobals x = some (some (.ref f)))
    (l : K.lookup f = some ⟨oc, od, .func (PySem.W.fnOf x x (defArgs st) (defBody st) (defScope st) .none kV doc pm an cdv ct), osl⟩) (c : PySem.W.codeIn K cdv x = true) (k : PySem.W.keepIn K (.ref f) = true) : HasDef K x st := ⟨_, _, fun_mk l c k, a⟩
/-- what the module's names hold -/
structure MgOf (K : PySem.W.Frag) (mg : Str → Option Value) : Prop where
  of : ∀ x v, PySem.W.nsIn K mainGlobals x = some v → mg x = v
theorem MgOf.mk' {K : PySem.W.Frag} {h : Heap} {mg : Str → Option Value} (X : K.In h) (G : h.Ns mainGlobals mg) : MgOf K mg := ⟨fun x v e => by
  cases v with
  | none => exact PySem.W.mg_none_of X G e
  | some v => exact PySem.W.mg_of X G e⟩
/-- a def that keeps its promise -/
structure Known (P : Program) (w : World) (K : PySem.W.Frag) (mg : Str → Option Value) (base : Heap) (CX : CXT) (x : Str) (k : Nat) (ps : List Str) (sp : Sp) : Prop where
  ex : ∃ f fd, FnOk P w K mg base CX k f fd ps sp ∧ mg x = some (.ref f) ∧ PySem.W.keepIn K (.ref f) = true ∧ Binds K fd ps []
theorem Known.imp {P : Program} {w : World} {K : PySem.W.Frag} {mg : Str → Option Value} {base : Heap} {CX : CXT} {x : Str} {k : Nat} {ps : List Str} {sp sp' : Sp} (D : Known P w K mg base CX x k ps sp) (h : ∀ vs H Q E, sp' vs H Q E → sp vs H Q E) : Known P w K mg base CX x k ps sp' := by
  obtain ⟨f, fd, F, r⟩ := D.ex
  exact ⟨f, fd, F.imp h, r⟩
theorem Known.of {P : Program} {w : World} {K : PySem.W.Frag} {mg : Str → Option Value} {base : Heap} {x : Str} {st : Stmt} {N ps : List Str} {k : Nat} {sp : Sp} (F : HasDef K x st) (M : MgOf K mg) (S : FnScope N ps (defScope st))
    (hb : ∀ (kV doc pm : Value) (an : Option Addr) (cdv ct : Value) (us : List Value), us.length = ps.length → bindArgs (PySem.W.fnOf x x (defArgs st) (defBody st) (defScope st) .none kV doc pm an cdv ct) ⟨us, []⟩ = pure (ps.zip us))
    (len : ∀ vs H Q E, sp vs H Q E → vs.length = ps.length)
    (hbody : ∀ (f : Addr) (cdv : Value) (A : Around) (outer : List Env) (s : Shared) (H : Hp) (vs : List V) (Q : VK) (E : XK), Room k (A.deeper (envOfC x (defScope st) s.heap.objs.size f cdv)) → sp vs H Q E →
      ∃ t, PSs (cxOf CX0 P w K mg base N x (defScope st) f cdv A outer s H E).nox (defBody st) t ∧ t { nx := fun _ H' => Q .non H', rt := Q } (start N vs) H) : Known P w K mg base CX0 x (k + 1) ps sp := by
  obtain ⟨f, fd, F, e⟩ := F.ex
  exact ⟨f, fd, F.ok S len (hbody f), M.of _ _ e, F.kp, F.binds hb⟩
section
variable {X : Cx} {CX : CXT} {k : Nat} {ps : List Str} {sp : Sp} {E : XK} {x : Str} {p pos : Pos} {e : Expr} {es : List Expr} {t : TA}
def fCall (sp : Sp) (E : XK) (t : TA) : TE := fun σ H Q => t σ H fun vs H1 => sp vs H1 Q E
theorem callX (D : Known X.prog X.w X.K X.mg X.base CX x k ps sp) (hr : Room k X.A) (hx : Passes CX X E) (ha : PA X (e :: es) t) (hg : Gl X x := by rfl) (hdb : (x == ("__debug__" : Str)) = false := by decide)
    (he : starEach (e :: es) X.env = (false, eval e X.env) :: starEach es X.env := by rfl) (hpl : (backTo pos (starEach es X.env)).any (·.1) = false := by rfl) : PE X (.Call (.Name x p) (e :: es) [] pos) (fCall sp E t) := by
  obtain ⟨f, fd, F, m, kp, b⟩ := D.ex
  have h : tCall sp [] E t = fCall sp E t := by
    funext σ H Q
    show t σ H (fun vs H1 => sp (vs ++ []) H1 Q E) = _
    simp only [List.append_nil]
    rfl
  rw [← h]
  exact pe_call F hr hg m kp b .nil hx ha hdb he hpl
theorem call (D : Known X.prog X.w X.K X.mg X.base CX0 x k ps sp) (hr : Room k X.A) (ha : PA X (e :: es) t) (hg : Gl X x := by rfl) (hdb : (x == ("__debug__" : Str)) = false := by decide)
    (he : starEach (e :: es) X.env = (false, eval e X.env) :: starEach es X.env := by rfl) (hpl : (backTo pos (starEach es X.env)).any (·.1) = false := by rfl) : PE X (.Call (.Name x p) (e :: es) [] pos) (fCall sp E0 t) := callX D hr pass0 ha hg hdb he hpl
end
section
variable {X : Cx} {pos : Pos} {x : Str}
theorem e_gs {z : Str} (h : ∃ t, X.mg x = some (.str z t)) (hg : Gl X x := by rfl) (hd : (x == ("__debug__" : Str)) = false := by decide) : PE X (.Name x pos) (tC (.str z)) := let ⟨_, e⟩ := h; pe_glob hg e ⟨_, rfl⟩ hd
theorem e_gi {z : Int} (h : ∃ t, X.mg x = some (.int z t)) (hg : Gl X x := by rfl) (hd : (x == ("__debug__" : Str)) = false := by decide) : PE X (.Name x pos) (tC (.int z)) := let ⟨_, e⟩ := h; pe_glob hg e ⟨_, rfl⟩ hd
end
theorem ifT {c A B : Prop} [Decidable c] (h : c) (a : A) : if c then A else B := by rw [if_pos h]; exact a
theorem ifF {c A B : Prop} [Decidable c] (h : ¬ c) (b : B) : if c then A else B := by rw [if_neg h]; exact b
theorem ok_of {P : Program} {w : World} {K : PySem.W.Frag} {mg : Str → Option Value} {base : Heap} {x : Str} {st : Stmt} {N ps : List Str} {k : Nat} {sp : Sp} {f : Addr} {fd : FuncData} (F : Fun K x x st f fd) (S : FnScope N ps (defScope st))
    (len : ∀ vs H Q E, sp vs H Q E → vs.length = ps.length)
    (hbody : ∀ (f : Addr) (cdv : Value) (A : Around) (outer : List Env) (s : Shared) (H : Hp) (vs : List V) (Q : VK) (E : XK), Room k (A.deeper (envOfC x (defScope st) s.heap.objs.size f cdv)) → sp vs H Q E →
      ∃ t, PSs (cxOf CX0 P w K mg base N x (defScope st) f cdv A outer s H E).nox (defBody st) t ∧ t { nx := fun _ H' => Q .non H', rt := Q } (start N vs) H) : FnOk P w K mg base CX0 (k + 1) f fd ps sp := F.ok S len (hbody f)
theorem walk_law {l : PySem.W.OpenLaw} {n k : Nat} {q : Program} {loose : List Str} {XP : (Str → Option Value) → Heap → Prop} {YP : World → Heap → Prop} {d : DefRec} {K : Params → PySem.W.Frag} {x : Str} {st : Stmt} {sp : PySem.W.Frag → Sp}
    (hn : l.most = some n) (hn2 : n ≤ sizeLine) (hdf : d.params.defaults = []) (hr : Room k callerA) (hnm : d.name = "law") (hY : ∀ (w : World) (h : Heap), YP w h → (K w.params).In h)
    (hb : ∀ (kV doc pm : Value) (an : Option Addr) (cdv ct : Value) (us : List Value), us.length = ([x] : List Str).length → bindArgs (PySem.W.fnOf "law" "law" (defArgs st) (defBody st) (defScope st) .none kV doc pm an cdv ct) ⟨us, []⟩ = pure (([x] : List Str).zip us))
    (F : ∀ (w : World) (mg : Str → Option Value) (h : Heap), (K w.params).In h → h.Ns mainGlobals mg → HasDef (K w.params) "law" st ∧ ∀ (f : Addr) (fd : FuncData) (base : Heap), (K w.params).In base → base.Ns mainGlobals mg → Fun (K w.params) "law" "law" st f fd → FnOk l.prog w (K w.params) mg base CX0 k f fd [x] (sp (K w.params)))
    (hsp : ∀ (K : PySem.W.Frag) (H : Hp) (a : Addr) (ns : List Int), ns.length ≤ n → Only H → SqL K H a (ns.map V.int) → sp K [.ref a] H (fun v _ => v = .bl true) fun _ _ _ => False) :
    PySem.W.WalkO q loose XP YP l.row.toRowW d [] (fun f vs => PySem.call f vs) := by
  refine L2.walk_of (n := n) (k := k) (x := x) (CX := fun _ => CX0) (sp := fun w => sp (K w.params)) hn hn2 hdf hr hY (fun w mg fa h X G hfa => ?_) (fun w H a ns h1 h2 h3 => hsp _ H a ns h1 h2 h3) fun _ _ _ _ _ z => z
  obtain ⟨D, G2⟩ := F w mg h X G
  obtain ⟨f, fd, Fn, e⟩ := D.ex
  have e1 := PySem.W.mg_of X G e
  rw [hnm, e1] at hfa
  cases hfa
  obtain ⟨oc, od, kV, doc, pm, an, cdv, ct, osl, e2, _⟩ := Fn.ex
  refine ⟨fd, fun s v => ?_, fun base X' G' => G2 _ _ base X' G' Fn⟩
  rw [e2]
  exact .of_eq (hb kV doc pm an cdv ct [v] rfl)
theorem cst_str {K : PySem.W.Frag} {x z : Str} {t : Tok} (a : PySem.W.nsIn K mainGlobals x = some (some (.str z t))) : ∃ t, PySem.W.nsIn K mainGlobals x = some (some (.str z t)) := ⟨t, a⟩
theorem cst_int {K : PySem.W.Frag} {x : Str} {z : Int} {t : Tok} (a : PySem.W.nsIn K mainGlobals x = some (some (.int z t))) : ∃ t, PySem.W.nsIn K mainGlobals x = some (some (.int z t)) := ⟨t, a⟩
end U
set_option Elab.async false
set_option linter.all false
set_option maxRecDepth 100000
set_option maxHeartbeats 2000000
namespace U
open PySem PySem.Spec PyProof.Rows L2
def fFrz (t : TE) : TE := fun σ H Q => t σ H fun v H1 => match v with
  | .ref p => (∃ u, H1 p = some u ∧ Mut (some u) ∧ ∀ od, Q (.ref p) (upd H1 p (.frz od u))) ∨ Q (.ref p) H1
  | v => Q v H1
section
variable {X : Cx} {e : Expr} {t : TE}
theorem frz (h : PE X e t) : PE X e (fFrz t) := by
  refine ⟨fun pins s σ H Q I q => ?_⟩
  refine thn (h.run pins s σ H _ I q) fun u s1 ⟨v, H1, I1, r, q1⟩ => ?_
  cases v with
  | ref p =>
    rcases q1 with ⟨u', hp, mu, q1⟩ | q1
    · obtain ⟨od, I2⟩ := I1.lock hp mu
      exact ⟨_, _, I2, r, q1 od⟩
    · exact ⟨_, _, I1, r, q1⟩
  | _ => exact ⟨_, _, I1, r, q1⟩
end
/-- an object that stands still: a tuple, what is locked -/
def Stb : HO → Prop
  | .tup _ => True
  | .frz _ _ => True
  | .ins _ _ _ => True
  | _ => False
/-- what stands still stands -/
def Stab (H H' : Hp) : Prop := ∀ b o, Stb o → H b = some o → H' b = some o
theorem Stab.refl (H : Hp) : Stab H H := fun _ _ _ h => h
theorem Stab.trans {H H1 H2 : Hp} (a : Stab H H1) (b : Stab H1 H2) : Stab H H2 := fun c o n h => b c o n (a c o n h)
theorem Stab.new {H : Hp} {p : Addr} {o : HO} (h : H p = none) : Stab H (upd H p o) := fun b u _ e => by rw [upd_ne (ne_of_none e h)]; exact e
theorem Stab.mut {H : Hp} {p : Addr} {o u : HO} (h : H p = some u) (hu : ¬ Stb u) : Stab H (upd H p o) := fun b v sv e => by
  rw [upd_ne (fun z => hu (by rw [z, h] at e; cases e; exact sv))]; exact e
theorem Stab.seqT {K : PySem.W.Frag} {H H' : Hp} {a : Addr} {xs : List V} (s : Stab H H') (h : SqT K H a xs) : SqT K H' a xs := by
  rcases h with (h | ⟨o, h⟩) | h
  · exact .inl (.inl (s _ _ trivial h))
  · exact .inl (.inr ⟨o, s _ _ trivial h⟩)
  · exact .inr h
/-- a list that stands still -/
def Lk (H : Hp) (a : Addr) (xs : List V) : Prop := ∃ o, H a = some (.frz o (.lst xs))
theorem Lk.seq {K : PySem.W.Frag} {H : Hp} {a : Addr} {xs : List V} (h : Lk H a xs) : SqL K H a xs := .inl (.inr h)
theorem Stab.lk {H H' : Hp} {a : Addr} {xs : List V} (s : Stab H H') (h : Lk H a xs) : Lk H' a xs := let ⟨o, h⟩ := h; ⟨o, s _ _ trivial h⟩
mutual
inductive Rp (K : PySem.W.Frag) (H : Hp) : V → PyData → Prop
  | non : Rp K H .non .none
  | bl (b : Bool) : Rp K H (.bl b) (.bool b)
  | int (i : Int) : Rp K H (.int i) (.int i)
  | str (x : Str) : Rp K H (.str x) (.str x)
  | lst {a : Addr} {xs : List V} {ds : List PyData} : Lk H a xs → RpAll K H xs ds → Rp K H (.ref a) (.list ds)
  | tup {a : Addr} {xs : List V} {ds : List PyData} : SqT K H a xs → RpAll K H xs ds → Rp K H (.ref a) (.tuple ds)
inductive RpAll (K : PySem.W.Frag) (H : Hp) : List V → List PyData → Prop
  | nil : RpAll K H [] []
  | cons {v : V} {vs : List V} {d : PyData} {ds : List PyData} : Rp K H v d → RpAll K H vs ds → RpAll K H (v :: vs) (d :: ds)
end
section
variable {K : PySem.W.Frag} {H H' : Hp}
mutual
theorem Rp.mono (s : Stab H H') : ∀ {v : V} {d : PyData}, Rp K H v d → Rp K H' v d
  | _, _, .non => .non
  | _, _, .bl b => .bl b
  | _, _, .int i => .int i
  | _, _, .str x => .str x
  | _, _, .lst h k => .lst (s.lk h) (RpAll.mono s k)
  | _, _, .tup h k => .tup (s.seqT h) (RpAll.mono s k)
theorem RpAll.mono (s : Stab H H') : ∀ {vs : List V} {ds : List PyData}, RpAll K H vs ds → RpAll K H' vs ds
  | _, _, .nil => .nil
  | _, _, .cons h k => .cons (Rp.mono s h) (RpAll.mono s k)
end
mutual
theorem Rp.dp : ∀ {v : V} {d : PyData}, Rp K H v d → Dp K H v d
  | _, _, .non => .non
  | _, _, .bl b => .bl b
  | _, _, .int i => .int i
  | _, _, .str x => .str x
  | _, _, .lst h k => .lst h.seq (RpAll.dp k)
  | _, _, .tup h k => .tup h (RpAll.dp k)
theorem RpAll.dp : ∀ {vs : List V} {ds : List PyData}, RpAll K H vs ds → DpAll K H vs ds
  | _, _, .nil => .nil
  | _, _, .cons h k => .cons (Rp.dp h) (RpAll.dp k)
end
theorem RpAll.length : ∀ {vs : List V} {ds : List PyData}, RpAll K H vs ds → vs.length = ds.length
  | _, _, .nil => rfl
  | _, _, .cons _ k => by rw [List.length_cons, List.length_cons, k.length]
theorem RpAll.get : ∀ {vs : List V} {ds : List PyData} {i : Nat} {v : V}, RpAll K H vs ds → vs[i]? = some v → ∃ d, ds[i]? = some d ∧ Rp K H v d
  | _, _, 0, _, .cons h _, e => by cases e; exact ⟨_, rfl, h⟩
  | _, _, i + 1, _, .cons _ k, e => RpAll.get (i := i) k e
  | _, _, _, _, .nil, e => by simp at e
theorem RpAll.append : ∀ {vs ws : List V} {ds es : List PyData}, RpAll K H vs ds → RpAll K H ws es → RpAll K H (vs ++ ws) (ds ++ es)
  | _, _, _, _, .nil, k => k
  | _, _, _, _, .cons h t, k => .cons h (RpAll.append t k)
theorem RpAll.one {v : V} {d : PyData} (h : Rp K H v d) : RpAll K H [v] [d] := .cons h .nil
theorem RpAll.ints : ∀ {vs : List V} {ns : List Int}, RpAll K H vs (ns.map PyData.int) → vs = ns.map V.int
  | _, [], .nil => rfl
  | _, n :: ns, .cons h k => by cases h; rw [RpAll.ints k]; rfl
end
structure HasCls (K : PySem.W.Frag) (x : Str) (C : Addr) : Prop where
  at_ : PySem.W.nsIn K mainGlobals x = some (some (.ref C))
  cl : Cls K C
  mks : PySem.W.makesIn K C = true
  kc : PySem.W.keepIn K (.ref C) = true
  ha : PySem.W.findIn K (.ref C) "__class__" = some (some (.builtin "object.__class__"))
  hn : PySem.W.specialIn K (.builtin "object.__class__") "__get__" = some (some (.builtin "getset_descriptor.__get__"))
  tk : PySem.W.takesIn K (.builtin "object.__class__") = some true
  hm : PySem.W.mroIn K C (.type "object") = some true
  self : PySem.W.kitOne K (.ref C) (.ref C) = some true
theorem HasCls.mk' {K : PySem.W.Frag} {x : Str} {C : Addr} (a : PySem.W.nsIn K mainGlobals x = some (some (.ref C))) (pg : PySem.W.plainGet K C Str.empty = true) (hd : PySem.W.hasDictIn K C = true) (po : PySem.W.plainOver K C = true)
    (sa : PySem.W.findIn K (.ref C) "__setattr__" = some (some (.builtin "object.__setattr__"))) (mk : PySem.W.makesIn K C = true) (kc : PySem.W.keepIn K (.ref C) = true) (ha : PySem.W.findIn K (.ref C) "__class__" = some (some (.builtin "object.__class__")))
    (hn : PySem.W.specialIn K (.builtin "object.__class__") "__get__" = some (some (.builtin "getset_descriptor.__get__"))) (tk : PySem.W.takesIn K (.builtin "object.__class__") = some true) (hm : PySem.W.mroIn K C (.type "object") = some true) : HasCls K x C := ⟨a, ⟨pg, hd, po, sa⟩, mk, kc, ha, hn, tk, hm, by unfold PySem.W.kitOne; rw [if_pos (by simp)]⟩
/-- a method -/
structure HasMeth (K : PySem.W.Frag) (C : Addr) (m qual : Str) (st : Stmt) : Prop where
  ex : ∃ f fd, Fun K m qual st f fd ∧ BMeth K C m f
theorem meth_mk {K : PySem.W.Frag} {C : Addr} {m qual : Str} {st : Stmt} {f : Addr} {oc : Value} {od an : Option Addr} {osl : Array (Option Value)} {kV doc pm cdv ct : Value} (a : PySem.W.findIn K (.ref C) m = some (some (.ref f))) (i : PySem.W.isFn K (.ref f) = true)
    (l : K.lookup f = some ⟨oc, od, .func (PySem.W.fnOf m qual (defArgs st) (defBody st) (defScope st) .none kV doc pm an cdv ct), osl⟩) (c : PySem.W.codeIn K cdv qual = true) (k : PySem.W.keepIn K (.ref f) = true)
    (gf : PySem.W.specialIn K (.ref f) "__get__" = some (some (.builtin "function.__get__"))) (tk : PySem.W.takesIn K (.ref f) = some false) (fi : PySem.W.fnIn K f = true) (cp : PySem.W.copiedNames.contains m = false) : HasMeth K C m qual st :=
  ⟨_, _, fun_mk l c k, ⟨⟨a, i, k⟩, gf, tk, cp, fi⟩⟩
structure KnownM (P : Program) (w : World) (K : PySem.W.Frag) (mg : Str → Option Value) (base : Heap) (CX : CXT) (C : Addr) (m : Str) (k : Nat) (ps : List Str) (sp : Sp) : Prop where
  ex : ∃ f fd, FnOk P w K mg base CX k f fd ps sp ∧ BMeth K C m f ∧ Binds K fd ps []
theorem KnownM.of {P : Program} {w : World} {K : PySem.W.Frag} {mg : Str → Option Value} {base : Heap} {C : Addr} {m qual : Str} {st : Stmt} {N ps : List Str} {k : Nat} {sp : Sp} (F : HasMeth K C m qual st) (S : FnScope N ps (defScope st))
    (hb : ∀ (kV doc pm : Value) (an : Option Addr) (cdv ct : Value) (us : List Value), us.length = ps.length → bindArgs (PySem.W.fnOf m qual (defArgs st) (defBody st) (defScope st) .none kV doc pm an cdv ct) ⟨us, []⟩ = pure (ps.zip us))
    (len : ∀ vs H Q E, sp vs H Q E → vs.length = ps.length)
    (hbody : ∀ (f : Addr) (cdv : Value) (A : Around) (outer : List Env) (s : Shared) (H : Hp) (vs : List V) (Q : VK) (E : XK), Room k (A.deeper (envOfC qual (defScope st) s.heap.objs.size f cdv)) → sp vs H Q E →
      ∃ t, PSs (cxOf CX0 P w K mg base N qual (defScope st) f cdv A outer s H E).nox (defBody st) t ∧ t { nx := fun _ H' => Q .non H', rt := Q } (start N vs) H) : KnownM P w K mg base CX0 C m (k + 1) ps sp := by
  obtain ⟨f, fd, F, e⟩ := F.ex
  exact ⟨f, fd, F.ok S len (hbody f), e, F.binds hb⟩
section
variable {X : Cx} {CX : CXT} {k : Nat} {C : Addr} {ps : List Str} {sp : Sp} {E : XK} {f m x : Str} {p apos pos : Pos} {e e1 e2 o : Expr} {es : List Expr} {ta t1 t2 : TE} {t : TA}
def fFld (C : Addr) (f : Str) (ta : TE) : TE := fun σ H Q => ta σ H fun x H1 => match x with
  | .ref a => ∃ dx fs v, H1 a = some (.ins C dx fs) ∧ fs.lookup f = some v ∧ Q v H1
  | _ => False
theorem fld (c : Cls X.K C) (n : NoAttr X.K C f) (he : PE X e ta) (hb : attributeBase e f X.env (eval e X.env) = eval e X.env := by rfl) : PE X (.Attribute e f pos) (fFld C f ta) := by
  refine ⟨fun pins s σ H Q I h => ?_⟩
  refine attr_of hb (thn (he.run pins s σ H _ I h) fun u s1 ⟨x, H1, I1, rx, q⟩ => ?_)
  cases x <;> first | exact q.elim | skip
  obtain ⟨dx, fs, v, ea, l, q⟩ := q
  obtain rfl : u = Value.ref _ := rx
  exact getattr_ok I1 ea c n l fun u' s2 I2 ru => ⟨v, H1, I2, ru, q⟩
/-- o.f = e -/
def fSto (C : Addr) (f : Str) (ta tv : TE) : TS := fun D σ H => tv σ H fun y H1 => ta σ H1 fun x H2 => match x with
  | .ref a => ∃ dx fs, H2 a = some (.ins C dx fs) ∧ fs.length < 1000 ∧ D.nx σ (upd H2 a (.ins C dx (putF f y fs)))
  | _ => False
theorem sto {value : Expr} {pos' : Pos} {tv : TE} (c : Cls X.K C) (n : NoAttr X.K C f) (hv : PE X value tv) (ha : PE X o ta) (hs : swapsWith value (some (.Attribute o f pos')) pos.line X.env = pure false := by rfl) : PS X (.Assign [.Attribute o f pos'] value pos) (fSto C f ta tv) := by
  refine ⟨fun pins s σ H D I h => ?_⟩
  refine plainObj_wpAny_Assign_Attribute (thn (hv.run pins s σ H _ I h) fun u s1 ⟨y, H1, I1, ry, q⟩ => thn (ha.run pins s1 σ H1 _ I1 q) fun ov s2 ⟨x, H2, I2, rx, q2⟩ => ?_) hs
  cases x <;> first | exact q2.elim | skip
  obtain ⟨dx, fs, ea, l, q2⟩ := q2
  obtain rfl : ov = Value.ref _ := rx
  exact setattr_ok I2 ea c n l ry fun s3 I3 => ⟨σ, _, I3, q2⟩
/-- o.m(e, ..) -/
def fMeth (C : Addr) (m : Str) (sp : Sp) (E : XK) (ta : TE) (t : TA) : TE := fun σ H Q => ta σ H fun x H1 => match x with
  | .ref a => ∃ dx fs, H1 a = some (.ins C dx fs) ∧ fs.lookup m = none ∧ t σ H1 fun vs H2 => sp (.ref a :: vs) H2 Q E
  | _ => False
theorem methX {pl : Sem Bool} (D : KnownM X.prog X.w X.K X.mg X.base CX C m k ps sp) (c : Cls X.K C) (hr : Room k X.A) (hx : Passes CX X E) (he : PE X o ta) (ha : PA X (e :: es) t)
    (hst : starEach (e :: es) X.env = (false, eval e X.env) :: starEach es X.env := by rfl) (hpl : (backTo pos (starEach es X.env)).any (·.1) = false := by rfl)
    (ht : eval (.Call (.Attribute o m apos) (e :: es) [] pos) X.env = (do
      let ov ← eval o X.env
      standAt apos.atName
      let (f, first) ← holding [ov] (getMethod ov m pl)
      callWith pos f first (backTo pos (starEach (e :: es) X.env)) (backToKw pos (keywordEach [] X.env))) := by rfl) :
    PE X (.Call (.Attribute o m apos) (e :: es) [] pos) (fMeth C m sp E ta t) := by
  obtain ⟨f, fd, F, B, b⟩ := D.ex
  refine ⟨fun pins s σ H Q I h => ?_⟩
  refine PySem.W.methodCall_KW (pl := pl) (thn (he.run pins s σ H _ I h) fun u s1 ⟨x, H1, I1, rx, q⟩ => ?_) ht
  cases x <;> first | exact q.elim | skip
  obtain ⟨dx, fs, ea, l, q⟩ := q
  obtain rfl : u = Value.ref _ := rx
  refine getmeth_ok I1 ea c B.mt l ?_
  refine PySem.W.callWith_K (first := [.ref _]) (h₀ := X.base) I.ok.mod.kin B.mt.kp (thn (ha.run pos pins s1 σ H1 _ I1 q) fun us s2 ⟨vs, H2, I2, r, q2⟩ => ⟨I2.kIn, ?_⟩) hst hpl
  refine run_fn (us := .ref _ :: us) (vs := .ref _ :: vs) (dvs := []) (ds := []) F hr b .nil hx I2 (.cons rfl r) ?_
  rw [List.append_nil]
  exact q2
theorem meth {pl : Sem Bool} (D : KnownM X.prog X.w X.K X.mg X.base CX0 C m k ps sp) (c : Cls X.K C) (hr : Room k X.A) (he : PE X o ta) (ha : PA X (e :: es) t)
    (hst : starEach (e :: es) X.env = (false, eval e X.env) :: starEach es X.env := by rfl) (hpl : (backTo pos (starEach es X.env)).any (·.1) = false := by rfl)
    (ht : eval (.Call (.Attribute o m apos) (e :: es) [] pos) X.env = (do
      let ov ← eval o X.env
      standAt apos.atName
      let (f, first) ← holding [ov] (getMethod ov m pl)
      callWith pos f first (backTo pos (starEach (e :: es) X.env)) (backToKw pos (keywordEach [] X.env))) := by rfl) :
    PE X (.Call (.Attribute o m apos) (e :: es) [] pos) (fMeth C m sp E0 ta t) := methX D c hr pass0 he ha hst hpl ht
theorem fnR_of {P : Program} {w : World} {K : PySem.W.Frag} {mg : Str → Option Value} {base : Heap} {CX : CXT} {k : Nat} {f : Addr} {fd : FuncData} {ps : List Str} {sp : Sp} (F : FnOk P w K mg base CX k f fd ps sp) (b : Binds K fd ps []) : FnR P w K mg base CX k f sp :=
  (F.raw b .nil).imp fun vs H Q E q => by rw [List.append_nil]; exact q
end
section
open PySem.W
variable {prog : Program} {w : World} {A : Around} {E : Value → Shared → Prop} {s : Shared} {K : Frag} {x C L f : Addr} {h₀ : Heap} {m : Str → Option Value} {ox : Obj} {od : Option Obj} {b tb : Value}
end
section
variable {X : Cx} {C : Addr} {k : Nat} {ps : List Str} {sp : Sp}
end
end U
set_option Elab.async false
set_option linter.all false
set_option maxRecDepth 100000
set_option maxHeartbeats 4000000
namespace U
open PySem PySem.Spec PyProof.Rows L2 HT
section
variable {X : Cx} {es : List Expr} {t : TA} {pos : Pos}
def tTupF (t : TA) : TE := fun σ H Q => t σ H fun xs H1 => xs.length ≤ sizeLine ∧ ∀ p, H1 p = none → ∀ o : Obj, o.dict = none → Q (.ref p) (upd H1 p (.frz o (.tup xs)))
theorem pe_tupF {x1} (h : PA X es t) : PE X (.Tuple es x1 pos) (tTupF t) := by
  refine ⟨fun pins s σ H Q I hq => ?_⟩
  refine wpAny_Tuple_spliced (thn (h.run pos pins s σ H _ I hq) fun us s1 ⟨xs, H1, I1, r, z, q⟩ => ⟨by rw [← r.length]; exact z, ?_⟩)
  have hf : H1 s1.heap.objs.size = none := I1.hok.fresh (Nat.le_refl _)
  refine ⟨.ref s1.heap.objs.size, upd H1 s1.heap.objs.size (.frz { cls := .type "tuple", data := .seq us.toArray } (.tup xs)), I1.laid (t' := s1.toks) (fun b u e => Heap.get?_push_of_some _ e) (Nat.le_refl _) ?_, rfl, q _ hf _ rfl⟩
  exact ⟨Heap.get?_push_size _ rfl, z, us, r, ⟨_, Heap.get?_push_size _ rfl, rfl, _, rfl⟩⟩
def rCatTF (K : PySem.W.Frag) : R2 := fun x y H Q => ∃ a b xs ys, x = .ref a ∧ y = .ref b ∧ SqT K H a xs ∧ SqT K H b ys ∧ xs ≠ [] ∧ xs.length + ys.length ≤ sizeLine ∧
  (ys = [] → Q (.ref a) H) ∧ (ys ≠ [] → ∀ p, H p = none → ∀ o : Obj, o.dict = none → Q (.ref p) (upd H p (.frz o (.tup (xs ++ ys)))))
theorem op_catTF : OpR X (binaryOp .Add) (rCatTF X.K) := by
  intro pins s σ H x y v u Q I rx ry h
  obtain ⟨a, b, xs, ys, rfl, rfl, ha, hb, hx, hz, q1, q2⟩ := h
  cases rx
  cases ry
  obtain ⟨its, r1, p1, _⟩ := I.tuple ha
  obtain ⟨its2, r2, p2, _⟩ := I.tuple hb
  refine HT.cat_tup p1 p2 (fun z => hx (r1.nil_iff.mp z)) (fun z => ⟨.ref a, H, I, rfl, q1 (r2.nil_iff.mp z)⟩) (fun z => ?_) (by rw [← r1.length, ← r2.length]; exact hz)
  refine ⟨.ref s.heap.objs.size, _, I.laid (t' := s.toks) (o := .frz { cls := .type "tuple", data := .seq (its ++ its2).toArray } (.tup (xs ++ ys))) (fun b ob q => Heap.get?_push_of_some _ q) (Nat.le_refl _) ?_, rfl, q2 (fun w => z (r2.nil_iff.mpr w)) _ (I.hok.fresh (Nat.le_refl _)) _ rfl⟩
  exact ⟨Heap.get?_push_size _ rfl, by rw [List.length_append]; exact hz, _, r1.append r2, IsTup.new _ _⟩
def rCatAF (K : PySem.W.Frag) : R2 := fun x y H Q => ∃ a b xs ys, x = .ref a ∧ y = .ref b ∧ SqT K H a xs ∧ SqT K H b ys ∧ xs.length + ys.length ≤ sizeLine ∧
  (xs = [] → Q (.ref b) H) ∧ (xs ≠ [] → ys = [] → Q (.ref a) H) ∧ (xs ≠ [] → ys ≠ [] → ∀ p, H p = none → ∀ o : Obj, o.dict = none → Q (.ref p) (upd H p (.frz o (.tup (xs ++ ys)))))
theorem op_catAF : OpR X (binaryOp .Add) (rCatAF X.K) := by
  intro pins s σ H x y v u Q I rx ry h
  obtain ⟨a, b, xs, ys, rfl, rfl, ha, hb, hz, q0, q1, q2⟩ := h
  by_cases hx : xs = []
  · subst hx
    cases rx
    cases ry
    obtain ⟨its, r1, p1, _⟩ := I.tuple ha
    obtain ⟨its2, r2, p2, _⟩ := I.tuple hb
    cases r1
    exact cat_tup0 p1 p2 ⟨.ref b, H, I, rfl, q0 rfl⟩
  · exact op_catTF pins s σ H _ _ v u Q I rx ry ⟨a, b, xs, ys, rfl, rfl, ha, hb, hx, hz, q1 hx, q2 hx⟩
def rSlTF (K : PySem.W.Frag) : V → Option Int → Option Int → Hp → VK → Prop := fun x lo hi H Q => ∃ a xs, x = .ref a ∧ SqT K H a xs ∧
  ¬ (HT.sIx xs.length 0 lo = 0 ∧ HT.sIx xs.length xs.length hi = xs.length) ∧ ∀ p, H p = none → ∀ o : Obj, o.dict = none → Q (.ref p) (upd H p (.frz o (.tup (cutV xs lo hi))))
theorem sl_tupF : SlR X (rSlTF X.K) := by
  intro pins s σ H x v vl vu lo hi sl Q I rx hs pl pu h
  obtain ⟨a, xs, rfl, hx, hw, q⟩ := h
  cases rx
  obtain ⟨its, r, ht, hz⟩ := I.tuple hx
  have hlen : its.toArray.size = xs.length := by rw [List.size_toArray]; exact r.length.symm
  refine ⟨"tuple", _, PyProof.Rows.slot_tuple_getitem.lookup, ht.typeIs, ?_⟩
  refine HT.getItem_tuple_cut ht hs pl pu (by rw [hlen]; exact hw) ?_ (by rw [hlen]; exact hz)
  rw [hlen]
  refine ⟨.ref s.heap.objs.size, _, I.laid (t' := s.toks) (o := .frz { cls := .type "tuple", data := .seq (List.take (HT.sIx xs.length xs.length hi - HT.sIx xs.length 0 lo) (List.drop (HT.sIx xs.length 0 lo) its.toArray.toList)).toArray } (.tup (cutV xs lo hi))) (fun b ob q => Heap.get?_push_of_some _ q) (Nat.le_refl _) ?_, rfl, q _ (I.hok.fresh (Nat.le_refl _)) _ rfl⟩
  exact ⟨Heap.get?_push_size _ rfl, Nat.le_trans (cutV_length xs lo hi) hz, _, (r.drop (HT.sIx xs.length 0 lo)).take (HT.sIx xs.length xs.length hi - HT.sIx xs.length 0 lo), IsTup.new _ _⟩
def rSlAF (K : PySem.W.Frag) : V → Option Int → Option Int → Hp → VK → Prop := fun x lo hi H Q => ∃ a xs, x = .ref a ∧ SqT K H a xs ∧
  (HT.sIx xs.length 0 lo = 0 ∧ HT.sIx xs.length xs.length hi = xs.length → Q (.ref a) H) ∧ (¬ (HT.sIx xs.length 0 lo = 0 ∧ HT.sIx xs.length xs.length hi = xs.length) → ∀ p, H p = none → ∀ o : Obj, o.dict = none → Q (.ref p) (upd H p (.frz o (.tup (cutV xs lo hi)))))
theorem sl_tupAF : SlR X (rSlAF X.K) := by
  intro pins s σ H x v vl vu lo hi sl Q I rx hs pl pu h
  obtain ⟨a, xs, rfl, hx, q1, q2⟩ := h
  by_cases hw : HT.sIx xs.length 0 lo = 0 ∧ HT.sIx xs.length xs.length hi = xs.length
  · cases rx
    obtain ⟨its, r, ht, hz⟩ := I.tuple hx
    have hlen : its.toArray.size = xs.length := by rw [List.size_toArray]; exact r.length.symm
    refine ⟨"tuple", _, PyProof.Rows.slot_tuple_getitem.lookup, ht.typeIs, ?_⟩
    exact getItem_tuple_whole ht hs pl pu (by rw [hlen]; exact hw) ⟨.ref a, H, I, rfl, q1 hw⟩
  · exact sl_tupF pins s σ H _ v vl vu lo hi sl Q I rx hs pl pu ⟨a, xs, rfl, hx, hw, q2 hw⟩
def rRepTF (K : PySem.W.Frag) : R2 := fun x y H Q => ∃ l k xs, x = .ref l ∧ y = .int k ∧ SqT K H l xs ∧ xs ≠ [] ∧ 2 ≤ k ∧ k ≤ 1000 ∧ xs.length ≤ 1000 ∧ ∀ p, H p = none → ∀ o : Obj, o.dict = none → Q (.ref p) (upd H p (.frz o (.tup (List.replicate k.toNat xs).flatten)))
theorem op_repTF : OpR X (binaryOp .Mult) (rRepTF X.K) := by
  intro pins s σ H x y v u Q I rx ry h
  obtain ⟨l, k, xs, rfl, rfl, hT, hne, h1, h2, hz, q⟩ := h
  cases rx
  obtain ⟨t, rfl⟩ := ry
  obtain ⟨its, r, ⟨⟨cls, dd, data, sl⟩, ho, hc, n, hd⟩, hs⟩ := I.tuple hT
  simp only at hc hd
  subst hc hd
  have hle : its.length = xs.length := r.length.symm
  have hn : its ≠ [] := fun e => hne (by
    rw [e] at hle
    exact List.eq_nil_of_length_eq_zero hle.symm)
  have hi : its.toArray.isEmpty = false := by
    cases its with
    | nil => exact absurd rfl hn
    | cons a b => rfl
  have hsz0 : its.toArray.size = xs.length := by rw [List.size_toArray, hle]
  have hm : ((its.toArray.size : Nat) : Int) * k ≤ 1000000 := by
    rw [hsz0]
    have a1 : ((xs.length : Nat) : Int) * k ≤ 1000 * k := Int.mul_le_mul_of_nonneg_right (by omega) (by omega)
    omega
  have flen : (List.replicate k.toNat its).flatten.length ≤ sizeLine := by
    rw [PyProof.Rows.lm_len_rep_flat, hle, sizeLine_eq]
    have a1 : k.toNat * xs.length ≤ 1000 * 1000 := Nat.mul_le_mul (by omega) hz
    omega
  have c0 : (decide (k < -(2 ^ 63)) || decide (k ≥ 2 ^ 63)) = false := by
    rw [decide_eq_false (by omega), decide_eq_false (by omega)] <;> rfl
  have c1 : (its.toArray.isEmpty || k == 1) = false := by
    rw [hi, Bool.false_or]
    exact beq_eq_false_iff_ne.mpr (by omega)
  have c2 : (decide (k ≤ 0) || its.toArray.isEmpty) = false := by
    rw [hi, Bool.or_false]
    exact decide_eq_false (by omega)
  have c4 : Builtin.Tuple.tupleTooMany (((its.toArray.size : Nat) : Int) * k) = false := by
    unfold Builtin.Tuple.tupleTooMany
    rw [sizeLine_eq]
    exact decide_eq_false (by omega)
  refine wpAny_binaryOp_repeat_ref (T := "tuple") (U := "int") (by decide) ⟨_, ho, rfl⟩ (fun s' => typeIs_int s' k t) noFill_tuple_mul F.fills_int_mul F.slot_int_rmul repeat_tuple F.slot_int_index.lookup
    (call_meets F.slot_int_rmul (typeIs_int s k t) F.entry_int_rmul (F.args_int_rmul_2 _ _) (int_rmul_tuple k t l its.toArray n dd sl)
      ⟨ho, rfl, ⟨_, ho, rfl⟩, call_meets F.slot_tuple_mul ⟨_, ho, rfl⟩ F.entry_tuple_mul (F.args_tuple_mul_2 _ _) (tuple_mulW l its.toArray n dd sl k t c0 c1 c2 (by omega) c4 (by rw [size_rep, List.size_toArray]; exact flen)) ⟨ho, ?_⟩⟩)
  rw [size_rep]
  refine ⟨.ref s.heap.objs.size, _, I.laid (t' := s.toks) (o := .frz { cls := .type "tuple", data := .seq (List.replicate k.toNat its).flatten.toArray } (.tup (List.replicate k.toNat xs).flatten)) (fun b ob q => Heap.get?_push_of_some _ q) (Nat.le_refl _) ?_, rfl, q _ (I.hok.fresh (Nat.le_refl _)) _ rfl⟩
  exact ⟨Heap.get?_push_size _ rfl, by rw [PyProof.Rows.lm_len_rep_flat, sizeLine_eq]; have a1 : k.toNat * xs.length ≤ 1000 * 1000 := Nat.mul_le_mul (by omega) hz; omega, _, r.rep k.toNat, IsTup.new _ _⟩
theorem call_tuple_ofF : CallR X (.type "tuple") (fun xs H Q => ∃ p ys, xs = [.ref p] ∧ ((SqL X.K H p ys ∧ ∀ l, H l = none → ∀ o : Obj, o.dict = none → Q (.ref l) (upd H l (.frz o (.tup ys)))) ∨ (SqT X.K H p ys ∧ Q (.ref p) H))) := by
  intro pins s σ H xs us Q I r h
  obtain ⟨p, ys, rfl, h⟩ := h
  obtain ⟨u, rfl, rx⟩ := vals1 r
  cases rx
  rcases h with ⟨hq, q⟩ | ⟨hq, q⟩
  · obtain ⟨its, r', pl, hz⟩ := I.list hq
    have hlen := r'.length
    refine call_tuple_list pl.isList (fun h' kp => ?_) (by simp only [List.size_toArray] <;> omega)
    have I1 : Inv X pins σ H { s with heap := h' } := I.kept (t' := s.toks) kp
    have I2 : Inv X pins σ (upd H h'.objs.size (.frz { cls := .type "tuple", data := .seq its.toArray } (.tup ys))) { s with heap := h'.push { cls := .type "tuple", data := .seq its.toArray } } :=
      I1.laid (t' := s.toks) (fun b o e => Heap.get?_push_of_some _ e) (Nat.le_refl _) (show ObjOk X.prog X.w _ _ _ (.frz { cls := .type "tuple", data := .seq its.toArray } (.tup ys)) from ⟨Heap.get?_push_size _ rfl, hz, its, r', IsTup.new _ _⟩)
    exact ⟨.ref h'.objs.size, _, I2, rfl, q _ (I1.hok.fresh (Nat.le_refl _)) _ rfl⟩
  · obtain ⟨its, r', pl, hz⟩ := I.tuple hq
    exact call_tuple_same pl ⟨.ref p, H, I, rfl, q⟩
end
section
variable {X : Cx} {e : Expr} {te : L2.St → Hp → (Int → Int → Hp → Prop) → Prop}
end
end U
set_option Elab.async false
set_option linter.all false
set_option maxRecDepth 100000
set_option maxHeartbeats 2000000
namespace U
open PySem PySem.Spec PyProof.Rows L2
/-- plain data; a thing that changes is an address -/
inductive Da where
  | non | bl (b : Bool) | int (i : Int) | str (x : Str) | ty (n : String)
  | lst (xs : List Da) | tup (xs : List Da) | obj (C : Addr) (fs : List (Str × Da)) | ref (a : Addr) | dct (kvs : List (Key × Da)) | exn (a dd : Addr) (fs : List (Str × Da))
/-- what changes: a list, an instance -/
inductive MO where
  | lst (xs : List Da) | ins (C : Addr) (fs : List (Str × Da)) | dct (kvs : List (Key × Da)) | tbl (q : Str) | exc (a C : Addr) (fs : List (Str × Da))
abbrev Mm := Addr → Option MO
abbrev De := List (Option Da)
abbrev DK := Da → Mm → Prop
/-- an exception: its class, its attributes -/
abbrev DX := Value → List (Str × Da) → Mm → Prop
def mput (M : Mm) (a : Addr) (o : MO) : Mm := fun b => if b = a then some o else M b
def mdel (M : Mm) (a : Addr) : Mm := fun b => if b = a then none else M b
theorem mput_same {M : Mm} {a : Addr} {o : MO} : mput M a o a = some o := by unfold mput; rw [if_pos rfl]
theorem mput_ne {M : Mm} {a b : Addr} {o : MO} (h : b ≠ a) : mput M a o b = M b := by unfold mput; rw [if_neg h]
theorem mput_put {M : Mm} {a : Addr} {o u : MO} : mput (mput M a o) a u = mput M a u := by
  funext b; unfold mput; split <;> rfl
theorem mdel_put {M : Mm} {a : Addr} {o : MO} (h : M a = none) : mdel (mput M a o) a = M := by
  funext b; unfold mdel mput; split
  · rename_i e; rw [e, h]
  · rfl
def putD (f : Str) (v : Da) : List (Str × Da) → List (Str × Da)
  | [] => [(f, v)]
  | (g, x) :: r => if g = f then (g, v) :: r else (g, x) :: putD f v r
def Sl (K : PySem.W.Frag) (W : Addr → Prop) (H : Hp) (a : Addr) (vs : List V) : Prop := (W a ∧ Rd H a (.lst vs)) ∨ SqL K (fun _ => none) a vs
def Sp' (K : PySem.W.Frag) (W : Addr → Prop) (H : Hp) (a : Addr) (vs : List V) : Prop := (W a ∧ Rd H a (.tup vs)) ∨ SqT K (fun _ => none) a vs ∧ ∃ o, K.lookup a = some o ∧ o.dict = none
mutual
inductive RD (K : PySem.W.Frag) (W : Addr → Prop) (H : Hp) : V → Da → Prop
  | non : RD K W H .non .non
  | bl (b : Bool) : RD K W H (.bl b) (.bl b)
  | int (i : Int) : RD K W H (.int i) (.int i)
  | str (x : Str) : RD K W H (.str x) (.str x)
  | ty (n : String) : RD K W H (.ty n) (.ty n)
  | lst {a : Addr} {vs : List V} {ds : List Da} : Sl K W H a vs → RDs K W H vs ds → RD K W H (.ref a) (.lst ds)
  | tup {a : Addr} {vs : List V} {ds : List Da} : Sp' K W H a vs → RDs K W H vs ds → RD K W H (.ref a) (.tup ds)
  | obj {a C dx : Addr} {vs : List (Str × V)} {fs : List (Str × Da)} : W a → H a = some (.ins C dx vs) → RF K W H vs fs → RD K W H (.ref a) (.obj C fs)
  | ref (a : Addr) : RD K W H (.ref a) (.ref a)
  | dct {a : Addr} {vs : List (Key × V)} {ds : List (Key × Da)} : W a → H a = some (.dK vs) → RK K W H vs ds → RD K W H (.ref a) (.dct ds)
  | exn {a dd : Addr} {vs : List (Str × V)} {fs : List (Str × Da)} : W dd → H dd = some (.xd vs) → RF K W H vs fs → RD K W H (.ref a) (.exn a dd fs)
inductive RDs (K : PySem.W.Frag) (W : Addr → Prop) (H : Hp) : List V → List Da → Prop
  | nil : RDs K W H [] []
  | cons {v : V} {vs : List V} {d : Da} {ds : List Da} : RD K W H v d → RDs K W H vs ds → RDs K W H (v :: vs) (d :: ds)
inductive RF (K : PySem.W.Frag) (W : Addr → Prop) (H : Hp) : List (Str × V) → List (Str × Da) → Prop
  | nil : RF K W H [] []
  | cons {f : Str} {v : V} {vs : List (Str × V)} {d : Da} {ds : List (Str × Da)} : RD K W H v d → RF K W H vs ds → RF K W H ((f, v) :: vs) ((f, d) :: ds)
inductive RK (K : PySem.W.Frag) (W : Addr → Prop) (H : Hp) : List (Key × V) → List (Key × Da) → Prop
  | nil : RK K W H [] []
  | cons {f : Key} {v : V} {vs : List (Key × V)} {d : Da} {ds : List (Key × Da)} : RD K W H v d → RK K W H vs ds → RK K W H ((f, v) :: vs) ((f, d) :: ds)
end
/-- the heap grows: what is settled or another's stands -/
structure Grow (F W : Addr → Prop) (H : Hp) (W' : Addr → Prop) (H' : Hp) : Prop where
  w : ∀ a, W a → W' a
  h : ∀ a, W a → H' a = H a
  f : ∀ a, F a → H' a = H a
theorem Grow.refl {F W : Addr → Prop} {H : Hp} : Grow F W H W H := ⟨fun _ h => h, fun _ _ => rfl, fun _ _ => rfl⟩
theorem Grow.trans {F W W1 W2 : Addr → Prop} {H H1 H2 : Hp} (a : Grow F W H W1 H1) (b : Grow F W1 H1 W2 H2) : Grow F W H W2 H2 :=
  ⟨fun c h => b.w c (a.w c h), fun c h => (b.h c (a.w c h)).trans (a.h c h), fun c h => (b.f c h).trans (a.f c h)⟩
theorem Grow.less {F F' W W' : Addr → Prop} {H H' : Hp} (g : Grow F' W H W' H') (h : ∀ a, F a → F' a) : Grow F W H W' H' := ⟨g.w, g.h, fun a q => g.f a (h a q)⟩
section
variable {K : PySem.W.Frag} {F W W' : Addr → Prop} {H H' : Hp} {a : Addr}
theorem rd_mono {u : HO} (e : H' a = H a) (h : Rd H a u) : Rd H' a u := by unfold Rd at *; rw [e]; exact h
theorem Sl.mono {vs : List V} (g : Grow F W H W' H') : Sl K W H a vs → Sl K W' H' a vs
  | .inl ⟨w, h⟩ => .inl ⟨g.w _ w, rd_mono (g.h _ w) h⟩
  | .inr h => .inr h
theorem Sp'.mono {vs : List V} (g : Grow F W H W' H') : Sp' K W H a vs → Sp' K W' H' a vs
  | .inl ⟨w, h⟩ => .inl ⟨g.w _ w, rd_mono (g.h _ w) h⟩
  | .inr h => .inr h
theorem Sl.sq {vs : List V} : Sl K W H a vs → SqL K H a vs
  | .inl ⟨_, h⟩ => .inl h
  | .inr (.inl (.inl h)) => nomatch h
  | .inr (.inl (.inr ⟨_, h⟩)) => nomatch h
  | .inr (.inr h) => .inr h
theorem Sp'.sq {vs : List V} : Sp' K W H a vs → SqT K H a vs
  | .inl ⟨_, h⟩ => .inl h
  | .inr ⟨.inl (.inl h), _⟩ => nomatch h
  | .inr ⟨.inl (.inr ⟨_, h⟩), _⟩ => nomatch h
  | .inr ⟨.inr h, _⟩ => .inr h
mutual
theorem RD.mono (g : Grow F W H W' H') : ∀ {v : V} {d : Da}, RD K W H v d → RD K W' H' v d
  | _, _, .non => .non
  | _, _, .bl b => .bl b
  | _, _, .int i => .int i
  | _, _, .str x => .str x
  | _, _, .ty x => .ty x
  | _, _, .ref x => .ref x
  | _, _, .lst h k => .lst (h.mono g) (RDs.mono g k)
  | _, _, .tup h k => .tup (h.mono g) (RDs.mono g k)
  | _, _, .obj w h k => .obj (g.w _ w) ((g.h _ w).trans h) (RF.mono g k)
  | _, _, .dct w h k => .dct (g.w _ w) ((g.h _ w).trans h) (RK.mono g k)
  | _, _, .exn w h k => .exn (g.w _ w) ((g.h _ w).trans h) (RF.mono g k)
theorem RDs.mono (g : Grow F W H W' H') : ∀ {vs : List V} {ds : List Da}, RDs K W H vs ds → RDs K W' H' vs ds
  | _, _, .nil => .nil
  | _, _, .cons h k => .cons (RD.mono g h) (RDs.mono g k)
theorem RF.mono (g : Grow F W H W' H') : ∀ {vs : List (Str × V)} {ds : List (Str × Da)}, RF K W H vs ds → RF K W' H' vs ds
  | _, _, .nil => .nil
  | _, _, .cons h k => .cons (RD.mono g h) (RF.mono g k)
theorem RK.mono (g : Grow F W H W' H') : ∀ {vs : List (Key × V)} {ds : List (Key × Da)}, RK K W H vs ds → RK K W' H' vs ds
  | _, _, .nil => .nil
  | _, _, .cons h k => .cons (RD.mono g h) (RK.mono g k)
end
theorem RDs.length : ∀ {vs : List V} {ds : List Da}, RDs K W H vs ds → vs.length = ds.length
  | _, _, .nil => rfl
  | _, _, .cons _ k => by rw [List.length_cons, List.length_cons, k.length]
theorem RDs.get : ∀ {vs : List V} {ds : List Da} {i : Nat} {d : Da}, RDs K W H vs ds → ds[i]? = some d → ∃ v, vs[i]? = some v ∧ RD K W H v d
  | _, _, 0, _, .cons h _, e => by cases e; exact ⟨_, rfl, h⟩
  | _, _, i + 1, _, .cons _ k, e => RDs.get (i := i) k e
  | _, _, _, _, .nil, e => by simp at e
theorem RDs.append : ∀ {vs ws : List V} {ds es : List Da}, RDs K W H vs ds → RDs K W H ws es → RDs K W H (vs ++ ws) (ds ++ es)
  | _, _, _, _, .nil, k => k
  | _, _, _, _, .cons h t, k => .cons h (RDs.append t k)
theorem RDs.take : ∀ {vs : List V} {ds : List Da} (n : Nat), RDs K W H vs ds → RDs K W H (vs.take n) (ds.take n)
  | _, _, 0, _ => .nil
  | _, _, _ + 1, .nil => .nil
  | _, _, n + 1, .cons h k => .cons h (RDs.take n k)
theorem RDs.drop : ∀ {vs : List V} {ds : List Da} (n : Nat), RDs K W H vs ds → RDs K W H (vs.drop n) (ds.drop n)
  | _, _, 0, h => h
  | _, _, _ + 1, .nil => .nil
  | _, _, n + 1, .cons _ k => RDs.drop n k
theorem RDs.set : ∀ {vs : List V} {ds : List Da} {v : V} {d : Da} (n : Nat), RDs K W H vs ds → RD K W H v d → RDs K W H (vs.set n v) (ds.set n d)
  | _, _, _, _, _, .nil, _ => .nil
  | _, _, _, _, 0, .cons _ k, r => .cons r k
  | _, _, _, _, n + 1, .cons h k, r => .cons h (RDs.set n k r)
theorem RDs.dropLast : ∀ {vs : List V} {ds : List Da}, RDs K W H vs ds → RDs K W H vs.dropLast ds.dropLast
  | _, _, .nil => .nil
  | _, _, .cons _ .nil => .nil
  | _, _, .cons h (.cons h' k) => .cons h (RDs.dropLast (.cons h' k))
theorem RDs.ints : ∀ {vs : List V} {ns : List Int}, RDs K W H vs (ns.map Da.int) → vs = ns.map V.int
  | _, [], .nil => rfl
  | _, n :: ns, .cons h k => by cases h; rw [RDs.ints k]; rfl
theorem RDs.bls : ∀ {vs : List V} {ns : List Bool}, RDs K W H vs (ns.map Da.bl) → vs = ns.map V.bl
  | _, [], .nil => rfl
  | _, n :: ns, .cons h k => by cases h; rw [RDs.bls k]; rfl
theorem RF.get : ∀ {vs : List (Str × V)} {fs : List (Str × Da)} {f : Str} {d : Da}, RF K W H vs fs → fs.lookup f = some d → ∃ v, vs.lookup f = some v ∧ RD K W H v d
  | _, _, _, _, .nil, e => by simp at e
  | _, _, f, d, .cons (f := g) h k, e => by
    rw [List.lookup_cons] at e ⊢
    cases q : (f == g) with
    | true => rw [q] at e; cases e; exact ⟨_, rfl, h⟩
    | false => rw [q] at e; exact RF.get k e
theorem RF.none : ∀ {vs : List (Str × V)} {fs : List (Str × Da)} {f : Str}, RF K W H vs fs → fs.lookup f = none → vs.lookup f = none
  | _, _, _, .nil, e => rfl
  | _, _, f, .cons (f := g) h k, e => by
    rw [List.lookup_cons] at e ⊢
    cases q : (f == g) with
    | true => rw [q] at e; cases e
    | false => rw [q] at e; exact RF.none k e
theorem RF.length : ∀ {vs : List (Str × V)} {fs : List (Str × Da)}, RF K W H vs fs → vs.length = fs.length
  | _, _, .nil => rfl
  | _, _, .cons _ k => by rw [List.length_cons, List.length_cons, k.length]
theorem RF.put : ∀ {vs : List (Str × V)} {fs : List (Str × Da)} {f : Str} {v : V} {d : Da}, RF K W H vs fs → RD K W H v d → RF K W H (putF f v vs) (putD f d fs)
  | _, _, _, _, _, .nil, r => .cons r .nil
  | _, _, f, _, _, .cons (f := g) h k, r => by
    unfold putF putD
    split
    · exact .cons r k
    · exact .cons h (RF.put k r)
end
/-- an error object at a, its class, its dict -/
def exoG (a C : Addr) (d : Option Addr) : HO := .ext fun h => ∃ oe, h.get? a = some oe ∧ Zc (.ref C) d oe ∧ ∃ vs, oe.data = .fields vs
/-- what an error object keeps -/
def XRd (K : PySem.W.Frag) (W : Addr → Prop) (H : Hp) (fs : List (Str × Da)) : Option Addr → Prop
  | none => fs = []
  | some dd => fs ≠ [] ∧ ∃ vs, W dd ∧ H dd = some (.xd vs) ∧ RF K W H vs fs
theorem XRd.mono {K : PySem.W.Frag} {F W W' : Addr → Prop} {H H' : Hp} (g : Grow F W H W' H') {fs : List (Str × Da)} : ∀ {d : Option Addr}, XRd K W H fs d → XRd K W' H' fs d
  | none, h => h
  | some _, ⟨n, vs, w, e, r⟩ => ⟨n, vs, g.w _ w, (g.h _ w).trans e, r.mono g⟩
/-- a thing of the memory -/
inductive MR (K : PySem.W.Frag) (W : Addr → Prop) (H : Hp) : MO → HO → Prop
  | lst {xs : List Da} {vs : List V} : RDs K W H vs xs → MR K W H (.lst xs) (.lst vs)
  | ins {C dx : Addr} {fs : List (Str × Da)} {vs : List (Str × V)} : RF K W H vs fs → MR K W H (.ins C fs) (.ins C dx vs)
  | dct {ds : List (Key × Da)} {vs : List (Key × V)} : RK K W H vs ds → MR K W H (.dct ds) (.dK vs)
  | tbl {q : Str} {ps : Array Value} : TriplesOk ps.toList → (∀ (pos : Pos) (cv : Value), codeAmong pos ps.toList = some cv → ∃ c, cv = .ref c ∧ W c ∧ H c = some (LamX.CodeO c q)) → MR K W H (.tbl q) (.tbl ps)
  | exc {a C : Addr} {d : Option Addr} {fs : List (Str × Da)} : XRd K W H fs d → MR K W H (.exc a C fs) (exoG a C d)
theorem MR.mono {K : PySem.W.Frag} {F W W' : Addr → Prop} {H H' : Hp} (g : Grow F W H W' H') {o : MO} {u : HO} (h : MR K W H o u) : MR K W' H' o u := by
  cases h with
  | lst h => exact .lst (h.mono g)
  | ins h => exact .ins (h.mono g)
  | dct h => exact .dct (h.mono g)
  | exc h => exact .exc (h.mono g)
  | tbl h1 h2 => exact .tbl h1 fun pos cv e => let ⟨c, a, b, d⟩ := h2 pos cv e; ⟨c, a, g.w _ b, (g.h _ b).trans d⟩
/-- a settled tuple stands frozen, without a dict of its own -/
def NT : HO → Prop
  | .tup _ => False
  | .frz o u => match u with
    | .tup _ => o.dict = none
    | _ => True
  | _ => True
theorem MR.nt {K : PySem.W.Frag} {W : Addr → Prop} {H : Hp} {o : MO} {u : HO} (h : MR K W H o u) : NT u := by
  cases h <;> exact trivial
structure Stt (K : PySem.W.Frag) (F W : Addr → Prop) (M : Mm) (H : Hp) : Prop where
  wf : ∀ a, W a → ∃ o, H a = some o
  fr : ∀ a, F a → ¬ W a ∧ M a = none ∧ ∃ o, H a = some o
  dis : ∀ a o, M a = some o → ¬ W a
  mem : ∀ a o, M a = some o → ∃ u, H a = some u ∧ MR K W H o u
  pl : ∀ a o, W a → H a = some o → NT o
def wadd (W : Addr → Prop) (p : Addr) : Addr → Prop := fun a => a = p ∨ W a
section
variable {K : PySem.W.Frag} {F W W' : Addr → Prop} {H H' : Hp} {M : Mm} {p : Addr}
theorem Stt.freeM (s : Stt K F W M H) (h : H p = none) : M p = none := by
  cases e : M p with
  | none => rfl
  | some o => obtain ⟨u, q, _⟩ := s.mem _ _ e; rw [h] at q; cases q
theorem Stt.freeW (s : Stt K F W M H) (h : H p = none) : ¬ W p := fun w => by obtain ⟨o, q⟩ := s.wf _ w; rw [h] at q; cases q
theorem Stt.freeF (s : Stt K F W M H) (h : H p = none) : ¬ F p := fun w => by obtain ⟨_, _, o, q⟩ := s.fr _ w; rw [h] at q; cases q
theorem Stt.neW (s : Stt K F W M H) (h : H p = none) {a : Addr} (w : W a) : a ≠ p := fun e => s.freeW h (e ▸ w)
theorem Stt.neF (s : Stt K F W M H) (h : H p = none) {a : Addr} (w : F a) : a ≠ p := fun e => s.freeF h (e ▸ w)
theorem grow_new {o : HO} (s : Stt K F W M H) (h : H p = none) : Grow F W H W (upd H p o) :=
  ⟨fun _ h => h, fun a w => upd_ne (s.neW h w), fun a w => upd_ne (s.neF h w)⟩
/-- junk -/
theorem Stt.junk (s : Stt K F W M H) (h : H p = none) (o : HO) : Stt K F W M (upd H p o) where
  wf := fun a w => by
    by_cases e : a = p
    · subst e; exact ⟨o, upd_same⟩
    · rw [upd_ne e]; exact s.wf a w
  fr := fun a w => ⟨(s.fr a w).1, (s.fr a w).2.1, by rw [upd_ne (s.neF h w)]; exact (s.fr a w).2.2⟩
  dis := s.dis
  mem := fun a u e => by
    obtain ⟨v, q, r⟩ := s.mem a u e
    exact ⟨v, by rw [upd_ne (ne_of_none q h)]; exact q, r.mono (grow_new s h)⟩
  pl := fun a u w e => by rw [upd_ne (s.neW h w)] at e; exact s.pl a u w e
/-- a new settled thing -/
theorem Stt.new (s : Stt K F W M H) (h : H p = none) (o : HO) (ho : NT o := by exact trivial) : Stt K F (wadd W p) M (upd H p o) ∧ Grow F W H (wadd W p) (upd H p o) := by
  have g : Grow F W H (wadd W p) (upd H p o) := ⟨fun _ h => .inr h, (grow_new s h).h, (grow_new s h).f⟩
  refine ⟨⟨fun a w => ?_, fun a w => ⟨?_, (s.fr a w).2.1, by rw [upd_ne (s.neF h w)]; exact (s.fr a w).2.2⟩, fun a u e w => ?_, fun a u e => ?_, fun a u w e => ?_⟩, g⟩
  · rcases w with w | w
    · subst w; exact ⟨o, upd_same⟩
    · rw [upd_ne (s.neW h w)]; exact s.wf a w
  · rintro (e | e)
    · exact s.freeF h (e ▸ w)
    · exact (s.fr a w).1 e
  · rcases w with w | w
    · subst w; rw [s.freeM h] at e; cases e
    · exact s.dis a u e w
  · obtain ⟨v, q, r⟩ := s.mem a u e
    exact ⟨v, by rw [upd_ne (ne_of_none q h)]; exact q, r.mono g⟩
  · rcases w with w | w
    · subst w; rw [upd_same] at e; cases e; exact ho
    · rw [upd_ne (s.neW h w)] at e; exact s.pl a u w e
/-- a new thing of the memory -/
theorem Stt.newM (s : Stt K F W M H) (h : H p = none) {o : HO} {u : MO} (r : MR K W H u o) : Stt K F W (mput M p u) (upd H p o) := by
  refine ⟨fun a w => ?_, fun a w => ⟨(s.fr a w).1, ?_, by rw [upd_ne (s.neF h w)]; exact (s.fr a w).2.2⟩, fun a v e w => ?_, fun a v e => ?_, fun a v w e => by rw [upd_ne (s.neW h w)] at e; exact s.pl a v w e⟩
  · rw [upd_ne (s.neW h w)]; exact s.wf a w
  · rw [mput_ne (s.neF h w)]; exact (s.fr a w).2.1
  · by_cases q : a = p
    · subst q; exact s.freeW h w
    · rw [mput_ne q] at e; exact s.dis a v e w
  · by_cases q : a = p
    · subst q; rw [mput_same] at e; cases e; exact ⟨o, upd_same, r.mono (grow_new s h)⟩
    · rw [mput_ne q] at e
      obtain ⟨x, q', r'⟩ := s.mem a v e
      exact ⟨x, by rw [upd_ne q]; exact q', r'.mono (grow_new s h)⟩
theorem grow_put {o : HO} {v : MO} (s : Stt K F W M H) (h : M p = some v) : Grow F W H W (upd H p o) :=
  ⟨fun _ h => h, fun a w => upd_ne (fun e => s.dis _ _ h (e ▸ w)), fun a w => upd_ne (fun e => by subst e; rw [(s.fr a w).2.1] at h; cases h)⟩
/-- a thing of the memory changes -/
theorem Stt.put (s : Stt K F W M H) {v : MO} (h : M p = some v) {o : HO} {u : MO} (r : MR K W H u o) : Stt K F W (mput M p u) (upd H p o) := by
  have g := grow_put (o := o) s h
  refine ⟨fun a w => ?_, fun a w => ?_, fun a v' e w => ?_, fun a v' e => ?_, fun a v' w e => by rw [g.h a w] at e; exact s.pl a v' w e⟩
  · rw [g.h a w]; exact s.wf a w
  · have ne : a ≠ p := fun e => by subst e; rw [(s.fr a w).2.1] at h; cases h
    exact ⟨(s.fr a w).1, by rw [mput_ne ne]; exact (s.fr a w).2.1, by rw [upd_ne ne]; exact (s.fr a w).2.2⟩
  · by_cases q : a = p
    · subst q; exact s.dis _ _ h w
    · rw [mput_ne q] at e; exact s.dis a v' e w
  · by_cases q : a = p
    · subst q; rw [mput_same] at e; cases e; exact ⟨o, upd_same, r.mono g⟩
    · rw [mput_ne q] at e
      obtain ⟨x, q', r'⟩ := s.mem a v' e
      exact ⟨x, by rw [upd_ne q]; exact q', r'.mono g⟩
/-- a thing of the memory changes no more -/
theorem Stt.settle (s : Stt K F W M H) {v : MO} (h : M p = some v) : Stt K F (wadd W p) (mdel M p) H ∧ Grow F W H (wadd W p) H := by
  have g : Grow F W H (wadd W p) H := ⟨fun _ h => .inr h, fun _ _ => rfl, fun _ _ => rfl⟩
  refine ⟨⟨fun a w => ?_, fun a w => ⟨?_, ?_, (s.fr a w).2.2⟩, fun a u e w => ?_, fun a u e => ?_, fun a u w e => ?_⟩, g⟩
  · rcases w with w | w
    · subst w; obtain ⟨u, q, _⟩ := s.mem _ _ h; exact ⟨u, q⟩
    · exact s.wf a w
  · rintro (e | e)
    · subst e; rw [(s.fr a w).2.1] at h; cases h
    · exact (s.fr a w).1 e
  · unfold mdel; split
    · rfl
    · exact (s.fr a w).2.1
  · unfold mdel at e
    split at e
    · cases e
    · rename_i ne
      rcases w with w | w
      · exact ne w
      · exact s.dis a u e w
  · unfold mdel at e
    split at e
    · cases e
    · obtain ⟨x, q', r'⟩ := s.mem a u e
      exact ⟨x, q', r'.mono g⟩
  · rcases w with w | w
    · subst w; obtain ⟨x, q, mr⟩ := s.mem _ _ h; rw [q] at e; cases e; exact mr.nt
    · exact s.pl a u w e
/-- a thing of the memory is forgotten -/
theorem Stt.forget (s : Stt K F W M H) {M' : Mm} (h : ∀ a o, M' a = some o → M a = some o) : Stt K F W M' H :=
  ⟨s.wf, fun a w => ⟨(s.fr a w).1, (by
    cases e : M' a with
    | none => rfl
    | some o => have q := h a o e; rw [(s.fr a w).2.1] at q; cases q), (s.fr a w).2.2⟩, fun a o e => s.dis a o (h a o e), fun a o e => s.mem a o (h a o e), s.pl⟩
end
end U
set_option Elab.async false
set_option linter.all false
set_option maxRecDepth 100000
set_option maxHeartbeats 2000000
namespace U
open PySem PySem.Spec PyProof.Rows L2
/-- the names' values -/
def EnvO (K : PySem.W.Frag) (W : Addr → Prop) (H : Hp) : Option Da → Option V → Prop
  | none, _ => True
  | some d, ov => ∃ v, ov = some v ∧ RD K W H v d
abbrev EnvR (K : PySem.W.Frag) (W : Addr → Prop) (H : Hp) : De → L2.St → Prop := Paired (EnvO K W H)
theorem EnvO.mono {K : PySem.W.Frag} {F W W' : Addr → Prop} {H H' : Hp} (g : Grow F W H W' H') : ∀ {a : Option Da} {b : Option V}, EnvO K W H a b → EnvO K W' H' a b
  | none, _, _ => trivial
  | some _, _, ⟨v, e, r⟩ => ⟨v, e, r.mono g⟩
theorem EnvR.mono {K : PySem.W.Frag} {F W W' : Addr → Prop} {H H' : Hp} (g : Grow F W H W' H') : ∀ {δ : De} {σ : L2.St}, EnvR K W H δ σ → EnvR K W' H' δ σ
  | _, _, .nil => .nil
  | _, _, .cons h t => .cons (h.mono g) (EnvR.mono g t)
theorem EnvR.get {K : PySem.W.Frag} {W : Addr → Prop} {H : Hp} : ∀ {δ : De} {σ : L2.St} {i : Nat} {d : Da}, EnvR K W H δ σ → δ[i]? = some (some d) → ∃ v, σ[i]? = some (some v) ∧ RD K W H v d
  | _, _, _, _, .nil, e => by simp at e
  | _, _, 0, d, .cons h _, e => by
    simp at e; subst e
    obtain ⟨v, e, r⟩ := h
    exact ⟨v, by simp [e], r⟩
  | _, _, i + 1, d, .cons _ t, e => by
    obtain ⟨v, h1, h2⟩ := EnvR.get (i := i) t (by simpa using e)
    exact ⟨v, by simpa using h1, h2⟩
theorem EnvR.set {K : PySem.W.Frag} {W : Addr → Prop} {H : Hp} {v : V} {d : Da} (r : RD K W H v d) : ∀ {δ : De} {σ : L2.St} (i : Nat), EnvR K W H δ σ → EnvR K W H (δ.set i (some d)) (σ.set i (some v))
  | _, _, _, .nil => .nil
  | _, _, 0, .cons _ t => .cons ⟨v, rfl, r⟩ t
  | _, _, i + 1, .cons h t => .cons h (EnvR.set r i t)
theorem EnvR.del {K : PySem.W.Frag} {W : Addr → Prop} {H : Hp} : ∀ {δ : De} {σ : L2.St} (i : Nat), EnvR K W H δ σ → EnvR K W H (δ.set i none) (σ.set i none)
  | _, _, _, .nil => .nil
  | _, _, 0, .cons _ t => .cons trivial t
  | _, _, i + 1, .cons h t => .cons h (EnvR.del i t)
/-- the end: what is related, grown -/
def Kt {α β : Type} (R : (Addr → Prop) → Hp → α → β → Prop) (K : PySem.W.Frag) (F W : Addr → Prop) (H : Hp) (Qd : β → Mm → Prop) (Q : α → Hp → Prop) : Prop :=
  ∀ v H' W' d M', Grow F W H W' H' → Stt K F W' M' H' → R W' H' v d → Qd d M' → Q v H'
theorem Kt.mono {α β : Type} {R : (Addr → Prop) → Hp → α → β → Prop} {K : PySem.W.Frag} {F W W1 : Addr → Prop} {H H1 : Hp} {Qd : β → Mm → Prop} {Q : α → Hp → Prop} (g : Grow F W H W1 H1) (k : Kt R K F W H Qd Q) : Kt R K F W1 H1 Qd Q :=
  fun v H' W' d M' g' => k v H' W' d M' (g.trans g')
abbrev DR (β : Type) := De → Mm → (β → Mm → Prop) → Prop
/-- a reading over data as a reading -/
def Li {α β : Type} (R : (Addr → Prop) → Hp → α → β → Prop) (K : PySem.W.Frag) (f : DR β) : L2.St → Hp → (α → Hp → Prop) → Prop := fun σ H Q =>
  ∃ δ F W M Qd, EnvR K W H δ σ ∧ Stt K F W M H ∧ f δ M Qd ∧ Kt R K F W H Qd Q
abbrev DTE := DR Da
abbrev DTT := DR Bool
abbrev DTA := DR (List Da)
abbrev rE (K : PySem.W.Frag) : (Addr → Prop) → Hp → V → Da → Prop := RD K
abbrev rT : (Addr → Prop) → Hp → Bool → Bool → Prop := fun _ _ a b => a = b
abbrev rA (K : PySem.W.Frag) : (Addr → Prop) → Hp → List V → List Da → Prop := RDs K
def DE (X : Cx) (e : Expr) (f : DTE) : Prop := PE X e (Li (rE X.K) X.K f)
def DT (X : Cx) (e : Expr) (f : DTT) : Prop := PT X e (Li rT X.K f)
def DW (X : Cx) (e : Expr) (f : DTT) : Prop := PW X e (Li rT X.K f)
def DA (X : Cx) (es : List Expr) (f : DTA) : Prop := PA X es (Li (rA X.K) X.K f)
/-- what is ready at once -/
theorem Kt.now {α β : Type} {R : (Addr → Prop) → Hp → α → β → Prop} {K : PySem.W.Frag} {F W : Addr → Prop} {M : Mm} {H : Hp} {Qd : β → Mm → Prop} {Q : α → Hp → Prop} (k : Kt R K F W H Qd Q) (s : Stt K F W M H) {v : α} {d : β} (r : R W H v d) (q : Qd d M) : Q v H :=
  k v H W d M .refl s r q
/-- one reading, then another -/
theorem Li.bind {α β γ ε : Type} {R : (Addr → Prop) → Hp → α → β → Prop} {R' : (Addr → Prop) → Hp → γ → ε → Prop} {K : PySem.W.Frag} {f : DR β} {g : β → DR ε} {σ : L2.St} {H : Hp} {Q : γ → Hp → Prop} {C : α → Hp → Prop}
    (h : Li R' K (fun δ M Q => f δ M fun x M1 => g x δ M1 Q) σ H Q) (c : ∀ v H1 d, (∃ W1, R W1 H1 v d ∧ ∃ δ F M Qd, EnvR K W1 H1 δ σ ∧ Stt K F W1 M H1 ∧ g d δ M Qd ∧ Kt R' K F W1 H1 Qd Q) → C v H1) : Li R K f σ H C := by
  obtain ⟨δ, F, W, M, Qd, e, s, h, k⟩ := h
  exact ⟨δ, F, W, M, _, e, s, h, fun v H1 W1 d M1 g1 s1 r1 q1 => c v H1 d ⟨W1, r1, δ, F, M1, Qd, e.mono g1, s1, q1, k.mono g1⟩⟩
section
variable {X : Cx} {a b c e : Expr} {es rest : List Expr} {fa fb fc f : DTE} {ft fu : DTT} {fs : DTA} {pos p : Pos}
theorem pt_imp {t t' : TT} (h : PT X e t) (f : ∀ σ H Q, t' σ H Q → t σ H Q) : PT X e t' := ⟨fun pins s σ H Q I q => h.run pins s σ H Q I (f σ H Q q)⟩
theorem pw_imp {t t' : TT} (h : PW X e t) (f : ∀ σ H Q, t' σ H Q → t σ H Q) : PW X e t' := ⟨fun wh pins s σ H Q I q => h.run wh pins s σ H Q I (f σ H Q q)⟩
theorem pa_imp {t t' : TA} (h : PA X es t) (f : ∀ σ H Q, t' σ H Q → t σ H Q) : PA X es t' := ⟨fun po pins s σ H Q I q => h.run po pins s σ H Q I (f σ H Q q)⟩
def gVar (i : Nat) : DTE := fun δ M Q => match δ[i]? with | some (some v) => Q v M | _ => False
theorem dn (i : Nat) {x : Str} {pos : Pos} (hN : X.N[i]? = some x := by rfl) (hv : Vis X.env.scope x := by first | exact Or.inl rfl | exact Or.inr (Or.inl rfl) | exact Or.inr (Or.inr rfl))
    (hd : (x == ("__debug__" : Str)) = false := by decide) (hcd : (x == ("__classdict__" : Str)) = false := by decide) : DE X (.Name x pos) (gVar i) :=
  imp (pe_var hN hv hd hcd) fun σ H Q ⟨δ, F, W, M, Qd, e, s, h, k⟩ => by
    unfold gVar at h
    split at h
    · rename_i d q
      obtain ⟨v, q', r⟩ := e.get q
      exact ⟨v, q', k.now s r h⟩
    · exact h.elim
def gC (d : Da) : DTE := fun _ M Q => Q d M
theorem d_const {v : V} {d : Da} (h : PE X e (tC v)) (r : ∀ W H, RD X.K W H v d) : DE X e (gC d) := imp h fun σ H Q ⟨δ, F, W, M, Qd, e, s, h, k⟩ => k.now s (r W H) h
theorem d_int {i j pos} : DE X (.Constant (.int i) j pos) (gC (.int i)) := d_const pe_int fun _ _ => .int _
theorem d_bl {b j pos} : DE X (.Constant (.bool b) j pos) (gC (.bl b)) := d_const pe_bl fun _ _ => .bl _
theorem d_non {j pos} : DE X (.Constant .none j pos) (gC .non) := d_const pe_non fun _ _ => .non
theorem d_str {x j pos} : DE X (.Constant (.str x) j pos) (gC (.str x)) := d_const pe_str fun _ _ => .str _
theorem d_ty {T : String} {x : Str} (m : X.mg x = none) (hv : bootBuiltins x = some (.type T)) (hg : Gl X x := by rfl) (hn : x ≠ "__name__" := by decide) (hd : (x == ("__debug__" : Str)) = false := by decide) : DE X (.Name x pos) (gC (.ty T)) := d_const (e_ty m hv hg hn hd) fun _ _ => .ty _
theorem d_glob {x : Str} {a : Addr} (hm : X.mg x = some (.ref a)) (hg : Gl X x := by rfl) (hd : (x == ("__debug__" : Str)) = false := by decide) : DE X (.Name x pos) (gC (.ref a)) := d_const (v := .ref a) (pe_glob hg hm rfl hd) fun _ _ => .ref _
theorem d_gs {x z : Str} (h : ∃ t, X.mg x = some (.str z t)) (hg : Gl X x := by rfl) (hd : (x == ("__debug__" : Str)) = false := by decide) : DE X (.Name x pos) (gC (.str z)) := d_const (e_gs h hg hd) fun _ _ => .str _
theorem d_gi {x : Str} {z : Int} (h : ∃ t, X.mg x = some (.int z t)) (hg : Gl X x := by rfl) (hd : (x == ("__debug__" : Str)) = false := by decide) : DE X (.Name x pos) (gC (.int z)) := d_const (e_gi h hg hd) fun _ _ => .int _
abbrev D2 := Da → Da → Mm → DK → Prop
def L2o (K : PySem.W.Frag) (g : D2) : R2 := fun x y H Q => ∃ F W M d e Qd, RD K W H x d ∧ RD K W H y e ∧ Stt K F W M H ∧ g d e M Qd ∧ Kt (rE K) K F W H Qd Q
def DO (X : Cx) (f : Value → Value → Sem Value) (g : D2) : Prop := OpR X f (L2o X.K g)
def gOp (g : D2) (fa fb : DTE) : DTE := fun δ M Q => fa δ M fun x M1 => fb δ M1 fun y M2 => g x y M2 Q
theorem li_op {K : PySem.W.Frag} {g : D2} {σ : L2.St} {H : Hp} {Q : VK} (h : Li (rE K) K (gOp g fa fb) σ H Q) : tOp (L2o K g) (Li (rE K) K fa) (Li (rE K) K fb) σ H Q := by
  obtain ⟨δ, F, W, M, Qd, e, s, h, k⟩ := h
  exact ⟨δ, F, W, M, _, e, s, h, fun v H1 W1 d M1 g1 s1 r1 q1 => ⟨δ, F, W1, M1, _, e.mono g1, s1, q1, fun u H2 W2 d2 M2 g2 s2 r2 q2 => ⟨F, W2, M2, d, d2, Qd, r1.mono g2, r2, s2, q2, k.mono (g1.trans g2)⟩⟩⟩
theorem d_op {op : Operator} {g : D2} (ho : DO X (binaryOp op) g) (ha : DE X a fa) (hb : DE X b fb) : DE X (.BinOp a op b pos) (gOp g fa fb) := imp (pe_op ho ha hb) fun _ _ _ h => li_op h
/-- an operation of scalars -/
theorem do_imp {f : Value → Value → Sem Value} {g : D2} (h : ∀ x y H Q, L2o X.K g x y H Q → ∃ r : R2, OpR X f r ∧ r x y H Q) : DO X f g := opCases h
/-- a size that is small enough -/
def Sz (n : Nat) : Prop := Nat.ble n 1000000 = true
theorem sz {n : Nat} (h : n ≤ 1000000) : Sz n := Nat.ble_eq.mpr h
theorem Sz.le {n : Nat} (h : Sz n) : n ≤ 1000000 := Nat.ble_eq.mp h
theorem Sz.ok {n : Nat} (h : Sz n) : n ≤ sizeLine := by have := h.le; rw [sizeLine_eq]; omega
/-- a new settled row -/
theorem Kt.newL {K : PySem.W.Frag} {F W : Addr → Prop} {M : Mm} {H : Hp} {Qd : DK} {Q : VK} {q : Addr} {vs : List V} {ds : List Da} (k : Kt (rE K) K F W H Qd Q) (s : Stt K F W M H) (h : H q = none) (r : RDs K W H vs ds) (z : Qd (.lst ds) M) : Q (.ref q) (upd H q (.lst vs)) := by
  obtain ⟨s1, g1⟩ := s.new h (.lst vs)
  exact (k.mono g1).now s1 (.lst (.inl ⟨.inl rfl, .inl upd_same⟩) (r.mono g1)) z
theorem Kt.newT {K : PySem.W.Frag} {F W : Addr → Prop} {M : Mm} {H : Hp} {Qd : DK} {Q : VK} {q : Addr} {vs : List V} {ds : List Da} (k : Kt (rE K) K F W H Qd Q) (s : Stt K F W M H) (h : H q = none) (r : RDs K W H vs ds) {o : Obj} (ho : o.dict = none) (z : Qd (.tup ds) M) : Q (.ref q) (upd H q (.frz o (.tup vs))) := by
  obtain ⟨s1, g1⟩ := s.new h (.frz o (.tup vs)) ho
  exact (k.mono g1).now s1 (.tup (.inl ⟨.inl rfl, .inr ⟨o, upd_same⟩⟩) (r.mono g1)) z
theorem Kt.newM {K : PySem.W.Frag} {F W : Addr → Prop} {M : Mm} {H : Hp} {Qd : DK} {Q : VK} {q : Addr} {vs : List V} {ds : List Da} (k : Kt (rE K) K F W H Qd Q) (s : Stt K F W M H) (h : H q = none) (r : RDs K W H vs ds) (z : ∀ p, M p = none → Qd (.ref p) (mput M p (.lst ds))) : Q (.ref q) (upd H q (.lst vs)) :=
  (k.mono (grow_new s h)).now (s.newM h (.lst r)) (.ref q) (z q (s.freeM h))
/-- list + list, whatever they are -/
def rCatL (K : PySem.W.Frag) : R2 := fun x y H Q => ∃ l b xs zs, x = .ref l ∧ y = .ref b ∧ SqL K H l xs ∧ SqL K H b zs ∧ xs.length + zs.length ≤ sizeLine ∧ ∀ p, H p = none → Q (.ref p) (upd H p (.lst (xs ++ zs)))
theorem op_catL : OpR X (binaryOp .Add) (rCatL X.K) := by
  intro pins s σ H x y v u Q I rx ry h
  obtain ⟨l, b, xs, zs, rfl, rfl, hH, hB, hz, q⟩ := h
  cases rx
  cases ry
  obtain ⟨its, r, ⟨⟨cls, dd, data, sl⟩, n, ho, hc, _, hd⟩, h1⟩ := I.list hH
  obtain ⟨its2, r2, ⟨⟨cls2, dd2, data2, sl2⟩, n2, ho2, hc2, _, hd2⟩, h2⟩ := I.list hB
  simp only at hc hd hc2 hd2
  subst hc hd hc2 hd2
  have l1 := r.length
  have l2 := r2.length
  refine concat_meets ⟨_, ho, rfl⟩ ⟨_, ho2, rfl⟩ noFill_list_add seq_list_add PySem.F.slot_list_add PySem.F.entry_list_add (PySem.F.args_list_add_2 _ _) (PyProof.Rows.list_addW l b its.toArray its2.toArray n n2 _ _ sl sl2 (by rw [List.size_toArray, List.size_toArray]; omega)) ⟨ho, ho2, ?_⟩
  have ea : its.toArray ++ its2.toArray = (its ++ its2).toArray := by simp
  rw [ea]
  exact ⟨.ref _, _, I.lnew (t' := s.toks) (r.append r2) (by rw [List.length_append]; omega), rfl, q _ I.fresh⟩
/-- what a row's items are -/
def lstK (x : Da) (M : Mm) (k : List Da → Prop) : Prop := match x with
  | .lst xs => k xs
  | .ref p => ∃ xs, M p = some (.lst xs) ∧ k xs
  | _ => False
theorem lst_of {K : PySem.W.Frag} {F W : Addr → Prop} {H : Hp} {M : Mm} {v : V} {d : Da} (s : Stt K F W M H) (r : RD K W H v d) {k : List Da → Prop} (h : lstK d M k) : ∃ a vs ds, v = .ref a ∧ SqL K H a vs ∧ RDs K W H vs ds ∧ k ds := by
  cases r with
  | lst hs rv => exact ⟨_, _, _, rfl, hs.sq, rv, h⟩
  | ref p =>
    obtain ⟨xs, hm, h⟩ := h
    obtain ⟨u, hu, mr⟩ := s.mem _ _ hm
    cases mr with
    | lst rv => exact ⟨_, _, _, rfl, SqL.of hu, rv, h⟩
  | _ => exact h.elim
def hAdd : D2 := fun x y M Q => match x, y with
  | .int i, .int j => Q (.int (i + j)) M
  | .int i, .bl k => Q (.int (i + b2i k)) M
  | .str a, .str b => a.length + b.length ≤ sizeLine ∧ Q (.str (a ++ b)) M
  | .tup xs, .tup ys => Sz (xs.length + ys.length) ∧ Q (.tup (xs ++ ys)) M
  | .lst xs, y => lstK y M fun ys => Sz (xs.length + ys.length) ∧ Q (.lst (xs ++ ys)) M
  | .ref p, y => ∃ xs, M p = some (.lst xs) ∧ lstK y M fun ys => Sz (xs.length + ys.length) ∧ Q (.lst (xs ++ ys)) M
  | _, _ => False
theorem o_dadd : DO X (binaryOp .Add) hAdd := do_imp fun x y H Q ⟨F, W, M, d, e, Qd, r1, r2, s, h, k⟩ => by
  unfold hAdd at h
  split at h
  · cases r1; cases r2; exact ⟨_, o_add, k.now s (.int _) h⟩
  · cases r1; cases r2; exact ⟨_, o_add, k.now s (.int _) h⟩
  · cases r1; cases r2; exact ⟨_, o_add, h.1, k.now s (.str _) h.2⟩
  · cases r1 with
    | @tup a vs _ hs rv =>
      cases r2 with
      | @tup b ws _ ht rw_ =>
        refine ⟨_, op_catAF, _, _, vs, ws, rfl, rfl, hs.sq, ht.sq, by rw [rv.length, rw_.length]; exact h.1.ok, fun e => ?_, fun _ e => ?_, fun _ _ p hp o ho => ?_⟩
        · subst e
          cases rv
          exact k.now s (.tup ht rw_) h.2
        · subst e
          cases rw_
          have q := h.2
          rw [List.append_nil] at q
          exact k.now s (.tup hs rv) q
        · exact k.newT s hp (rv.append rw_) ho h.2
  · cases r1 with
    | lst hs rv =>
      obtain ⟨b, ws, ds, rfl, ht, rw_, hz, q⟩ := lst_of s r2 h
      exact ⟨_, op_catL, _, b, _, ws, rfl, rfl, hs.sq, ht, by rw [rv.length, rw_.length]; exact hz.ok, fun p hp => k.newL s hp (rv.append rw_) q⟩
  · cases r1
    obtain ⟨xs, hm, h⟩ := h
    obtain ⟨a, vs, ds, e1, hs, rv, hz, q⟩ := lst_of (k := fun ds => ds = xs ∧ lstK e M fun ys => Sz (ds.length + ys.length) ∧ Qd (.lst (ds ++ ys)) M) s (.ref _) ⟨xs, hm, rfl, h⟩
    cases e1
    obtain ⟨b, ws, es, rfl, ht, rw_, hz2, q2⟩ := lst_of s r2 q
    exact ⟨_, op_catL, _, b, _, ws, rfl, rfl, hs, ht, by rw [rv.length, rw_.length]; exact hz2.ok, fun p hp => k.newL s hp (rv.append rw_) q2⟩
  · exact h.elim
def hSub : D2 := fun x y M Q => match x, y with
  | .int i, .int j => Q (.int (i - j)) M
  | _, _ => False
theorem o_dsub : DO X (binaryOp .Sub) hSub := do_imp fun x y H Q ⟨F, W, M, d, e, Qd, r1, r2, s, h, k⟩ => by
  refine ⟨_, o_sub, ?_⟩
  cases r1 <;> cases r2 <;> first | exact h.elim | exact k.now s (.int _) h
theorem RDs.flat_rep {K : PySem.W.Frag} {W : Addr → Prop} {H : Hp} {vs : List V} {ds : List Da} (r : RDs K W H vs ds) : ∀ n : Nat, RDs K W H (List.replicate n vs).flatten (List.replicate n ds).flatten
  | 0 => .nil
  | n + 1 => by
    rw [List.replicate_succ, List.replicate_succ, List.flatten_cons, List.flatten_cons]
    exact r.append (RDs.flat_rep r n)
def rRepL (K : PySem.W.Frag) : R2 := fun x y H Q => ∃ l k xs, x = .ref l ∧ y = .int k ∧ SqL K H l xs ∧ -(2 ^ 63) ≤ k ∧ k < 2 ^ 63 ∧ xs.length * k.toNat ≤ sizeLine ∧
  ∀ p, H p = none → Q (.ref p) (upd H p (.lst (List.replicate k.toNat xs).flatten))
theorem op_repL : OpR X (binaryOp .Mult) (rRepL X.K) := by
  intro pins s σ H x y v u Q I rx ry h
  obtain ⟨l, k, xs, rfl, rfl, hH, h1, h2, hz, q⟩ := h
  cases rx
  obtain ⟨t, rfl⟩ := ry
  obtain ⟨its, r, ⟨⟨cls, dd, data, sl⟩, n, e, hc, _, hd⟩, _⟩ := I.list hH
  simp only at hc hd
  subst hc hd
  have hl := r.length
  have hlen : its.toArray.size * k.toNat ≤ sizeLine := by rw [List.size_toArray, ← hl]; exact hz
  have hcap : ¬ its.toArray.size * k.toNat > (2 ^ 63 - 1) / 8 := by
    have : (sizeLine : Nat) ≤ (2 ^ 63 - 1) / 8 := by decide
    omega
  have hfit : ¬ (!Builtin.List.listFitsIndex k) = true := by
    rw [fitsIndex_both h1 h2]
    exact Bool.false_ne_true
  have hlong : ¬ Builtin.List.listTooLong (its.toArray.size * k.toNat) = true := by
    rw [notLongL hlen]
    exact Bool.false_ne_true
  have hnew : List.foldl (fun x1 x2 => x1 ++ x2) #[] (List.replicate (if its.toArray.isEmpty = true then 0 else k.toNat) its.toArray) = (List.replicate k.toNat its).flatten.toArray := by
    have f0 : ∀ m : Nat, List.foldl (fun x1 x2 => x1 ++ x2) #[] (List.replicate m its.toArray) = (List.replicate m its).flatten.toArray := fun m => by
      have := foldl_rep its m []
      rw [List.nil_append] at this
      exact this
    rw [f0]
    cases its with
    | nil => simp
    | cons a r' => rw [if_neg (by simp)]
  refine wpAny_binaryOp_repeat_ref (T := "list") (U := "int") (by decide) ⟨_, e, rfl⟩ (fun s' => typeIs_int s' k t) noFill_list_mul F.fills_int_mul F.slot_int_rmul repeat_list F.slot_int_index.lookup
    (call_meets F.slot_int_rmul (typeIs_int s k t) F.entry_int_rmul (F.args_int_rmul_2 _ _) (lm_int_rmul_list_any k t l its.toArray n _ sl)
      ⟨e, rfl, ⟨_, e, rfl⟩, call_meets F.slot_list_mul ⟨_, e, rfl⟩ F.entry_list_mul (F.args_list_mul_2 _ _) (lm_list_mul_any l its.toArray n _ sl k t hfit hcap hlong) ⟨e, ?_⟩⟩)
  rw [hnew]
  exact ⟨.ref _, _, I.lnew (t' := s.toks) (r.rep k.toNat) (by rw [PyProof.Rows.lm_len_rep_flat, Nat.mul_comm]; exact hz), rfl, q _ I.fresh⟩
def hMul : D2 := fun x y M Q => match x, y with
  | .int i, .int j => CMul i j ∧ Q (.int (i * j)) M
  | .tup xs, .int k => xs ≠ [] ∧ 2 ≤ k ∧ k ≤ 1000 ∧ xs.length ≤ 1000 ∧ Q (.tup (List.replicate k.toNat xs).flatten) M
  | .lst xs, .int k => k ≤ 1000 ∧ -1000 ≤ k ∧ xs.length ≤ 1000 ∧ Q (.lst (List.replicate k.toNat xs).flatten) M
  | _, _ => False
theorem o_dmul : DO X (binaryOp .Mult) hMul := do_imp fun x y H Q ⟨F, W, M, d, e, Qd, r1, r2, s, h, k⟩ => by
  unfold hMul at h
  split at h
  · cases r1; cases r2; exact ⟨_, o_mul, h.1, k.now s (.int _) h.2⟩
  · cases r1 with
    | @tup a vs _ hs rv =>
      cases r2
      exact ⟨_, op_repTF, _, _, vs, rfl, rfl, hs.sq, fun e => h.1 (by subst e; cases rv; rfl), h.2.1, h.2.2.1, by rw [rv.length]; exact h.2.2.2.1, fun p hp o ho => k.newT s hp (rv.flat_rep _) ho h.2.2.2.2⟩
  · cases r1 with
    | @lst a vs _ hs rv =>
      cases r2
      obtain ⟨h1, h2, h3, q⟩ := h
      have key : ∀ j : Int, j ≤ 1000 → vs.length * j.toNat ≤ sizeLine := fun j hj => by
        rw [rv.length, sizeLine_eq]
        have := Nat.mul_le_mul h3 (show j.toNat ≤ 1000 by omega)
        omega
      exact ⟨_, op_repL, _, _, vs, rfl, rfl, hs.sq, by omega, by omega, key _ h1, fun p hp => k.newL s hp (rv.flat_rep _) q⟩
  · exact h.elim
def hDiv : D2 := fun x y M Q => match x, y with
  | .int i, .int j => CDiv i j ∧ Q (.int (i / j)) M
  | _, _ => False
theorem o_ddiv : DO X (binaryOp .FloorDiv) hDiv := do_imp fun x y H Q ⟨F, W, M, d, e, Qd, r1, r2, s, h, k⟩ => by
  refine ⟨_, o_div, ?_⟩
  cases r1 <;> cases r2 <;> first | exact h.elim | exact ⟨h.1, k.now s (.int _) h.2⟩
def hMod : D2 := fun x y M Q => match x, y with
  | .int i, .int j => 0 < j ∧ Q (.int (i % j)) M
  | _, _ => False
theorem o_dmod : DO X (binaryOp .Mod) hMod := do_imp fun x y H Q ⟨F, W, M, d, e, Qd, r1, r2, s, h, k⟩ => by
  refine ⟨_, o_mod, ?_⟩
  cases r1 <;> cases r2 <;> first | exact h.elim | exact ⟨h.1, k.now s (.int _) h.2⟩
def hPow : D2 := fun x y M Q => match x, y with
  | .int i, .int j => CPowW i j ∧ Q (.int (i ^ j.toNat)) M
  | _, _ => False
theorem o_dpow : DO X (binaryOp .Pow) hPow := do_imp fun x y H Q ⟨F, W, M, d, e, Qd, r1, r2, s, h, k⟩ => by
  refine ⟨_, o_pow, ?_⟩
  cases r1 <;> cases r2 <;> first | exact h.elim | exact ⟨h.1, k.now s (.int _) h.2⟩
def gNeg (f : DTE) : DTE := fun δ M Q => f δ M fun x M1 => match x with
  | .int i => Q (.int (-i)) M1
  | _ => False
theorem d_neg (h : DE X e f) : DE X (.UnaryOp .USub e pos) (gNeg f) := imp (pe_un un_neg h) fun σ H Q ⟨δ, F, W, M, Qd, ev, s, h, k⟩ =>
  ⟨δ, F, W, M, _, ev, s, h, fun v H1 W1 d M1 g1 s1 r1 q1 => by
    cases r1 <;> first | exact q1.elim | exact ⟨_, rfl, (k.mono g1).now s1 (.int _) q1⟩⟩
mutual
def toP : Da → PyData
  | .non => .none
  | .bl b => .bool b
  | .int i => .int i
  | .str x => .str x
  | .ty _ => .none
  | .lst xs => .list (toPs xs)
  | .tup xs => .tuple (toPs xs)
  | .obj _ _ => .none
  | .ref _ => .none
  | .dct _ => .none
  | .exn _ _ _ => .none
def toPs : List Da → List PyData
  | [] => []
  | x :: xs => toP x :: toPs xs
end
mutual
/-- data without things that change -/
def pure? : Da → Bool
  | .lst xs => pures? xs
  | .tup xs => pures? xs
  | .obj _ _ => false
  | .ref _ => false
  | .ty _ => false
  | .dct _ => false
  | .exn _ _ _ => false
  | _ => true
def pures? : List Da → Bool
  | [] => true
  | x :: xs => pure? x && pures? xs
end
mutual
theorem RD.dp {K : PySem.W.Frag} {W : Addr → Prop} {H : Hp} : ∀ {v : V} {d : Da}, RD K W H v d → pure? d = true → Dp K H v (toP d)
  | _, _, .non, _ => .non
  | _, _, .bl b, _ => .bl b
  | _, _, .int i, _ => .int i
  | _, _, .str x, _ => .str x
  | _, _, .ty x, h => nomatch h
  | _, _, .ref x, h => nomatch h
  | _, _, .lst h k, q => .lst h.sq (RDs.dp k q)
  | _, _, .tup h k, q => .tup h.sq (RDs.dp k q)
  | _, _, .obj _ _ _, h => nomatch h
  | _, _, .dct _ _ _, h => nomatch h
  | _, _, .exn _ _ _, h => nomatch h
theorem RDs.dp {K : PySem.W.Frag} {W : Addr → Prop} {H : Hp} : ∀ {vs : List V} {ds : List Da}, RDs K W H vs ds → pures? ds = true → DpAll K H vs (toPs ds)
  | _, _, .nil, _ => .nil
  | _, _, .cons h k, q => by
    have q' := (Bool.and_eq_true_iff.mp q)
    exact .cons (RD.dp h q'.1) (RDs.dp k q'.2)
end
def eqD (x y : Da) : Bool := PyData.eqv (toP x) (toP y)
/-- what == may be asked -/
def okD (x : Da) : Bool := pure? x && SeqAt.shaped (toP x)
theorem okD.pure {x : Da} (h : okD x = true) : pure? x = true := (Bool.and_eq_true_iff.mp h).1
theorem okD.shp {x : Da} (h : okD x = true) : SeqAt.shaped (toP x) = true := (Bool.and_eq_true_iff.mp h).2
def hEq : D2 := fun x y M Q => match x, y with
  | .int i, .int j => Q (.bl (decide (i = j))) M
  | .str a, .str b => Q (.bl (decide (a = b))) M
  | .bl a, .bl b => Q (.bl (decide (a = b))) M
  | x, y => okD x = true ∧ okD y = true ∧ Q (.bl (eqD x y)) M
def hNe : D2 := fun x y M Q => match x, y with
  | .int i, .int j => Q (.bl (!decide (i = j))) M
  | .str a, .str b => Q (.bl (!decide (a = b))) M
  | .bl a, .bl b => Q (.bl (!decide (a = b))) M
  | x, y => okD x = true ∧ okD y = true ∧ Q (.bl (!eqD x y)) M
theorem o_deq (hu : X.A.units + 64 < cLine) : DO X (compareOp .Eq) hEq := do_imp fun x y H Q ⟨F, W, M, d, e, Qd, r1, r2, s, h, k⟩ => by
  have gen : okD d = true ∧ okD e = true ∧ Qd (.bl (eqD d e)) M → ∃ r : R2, OpR X (compareOp .Eq) r ∧ r x y H Q := fun ⟨h1, h2, h3⟩ =>
    ⟨_, op_eqD hu, _, _, r1.dp (okD.pure h1), r2.dp (okD.pure h2), okD.shp h1, okD.shp h2, k.now s (.bl _) h3⟩
  have sc : ∀ {b : Bool}, OpR X (compareOp .Eq) (fEq X.K) := o_eq hu
  unfold hEq at h
  split at h
  · cases r1; cases r2; exact ⟨_, o_eq hu, k.now s (.bl _) h⟩
  · cases r1; cases r2; exact ⟨_, o_eq hu, k.now s (.bl _) h⟩
  · cases r1; cases r2; exact ⟨_, o_eq hu, k.now s (.bl _) h⟩
  · exact gen h
theorem o_dne (hu : X.A.units + 64 < cLine) : DO X (compareOp .NotEq) hNe := do_imp fun x y H Q ⟨F, W, M, d, e, Qd, r1, r2, s, h, k⟩ => by
  have gen : okD d = true ∧ okD e = true ∧ Qd (.bl (!eqD d e)) M → ∃ r : R2, OpR X (compareOp .NotEq) r ∧ r x y H Q := fun ⟨h1, h2, h3⟩ =>
    ⟨_, op_neD hu, _, _, r1.dp (okD.pure h1), r2.dp (okD.pure h2), okD.shp h1, okD.shp h2, k.now s (.bl _) h3⟩
  unfold hNe at h
  split at h
  · cases r1; cases r2; exact ⟨_, o_ne hu, k.now s (.bl _) h⟩
  · cases r1; cases r2; exact ⟨_, o_ne hu, k.now s (.bl _) h⟩
  · cases r1; cases r2; exact ⟨_, o_ne hu, k.now s (.bl _) h⟩
  · exact gen h
def hLt : D2 := fun x y M Q => match x, y with
  | .int i, .int j => Q (.bl (decide (i < j))) M
  | .str a, .str b => Q (.bl (decide (a.cps.toList < b.cps.toList))) M
  | _, _ => False
def hLe : D2 := fun x y M Q => match x, y with
  | .int i, .int j => Q (.bl (decide (i ≤ j))) M
  | .str a, .str b => Q (.bl (!decide (b.cps.toList < a.cps.toList))) M
  | _, _ => False
def hGt : D2 := fun x y M Q => match x, y with
  | .int i, .int j => Q (.bl (decide (j < i))) M
  | .str a, .str b => Q (.bl (decide (b.cps.toList < a.cps.toList))) M
  | _, _ => False
theorem o_dlt : DO X (compareOp .Lt) hLt := do_imp fun x y H Q ⟨F, W, M, d, e, Qd, r1, r2, s, h, k⟩ => by
  refine ⟨_, o_lt, ?_⟩
  cases r1 <;> cases r2 <;> first | exact h.elim | exact k.now s (.bl _) h
theorem o_dle : DO X (compareOp .LtE) hLe := do_imp fun x y H Q ⟨F, W, M, d, e, Qd, r1, r2, s, h, k⟩ => by
  refine ⟨_, o_le, ?_⟩
  cases r1 <;> cases r2 <;> first | exact h.elim | exact k.now s (.bl _) h
theorem o_dgt : DO X (compareOp .Gt) hGt := do_imp fun x y H Q ⟨F, W, M, d, e, Qd, r1, r2, s, h, k⟩ => by
  refine ⟨_, o_gt, ?_⟩
  cases r1 <;> cases r2 <;> first | exact h.elim | exact k.now s (.bl _) h
def isNon : Da → Bool
  | .non => true
  | _ => false
theorem RD.isNon {K : PySem.W.Frag} {W : Addr → Prop} {H : Hp} {v : V} {d : Da} (r : RD K W H v d) : decide (v = .non) = isNon d := by cases r <;> rfl
def hIsN : D2 := fun x y M Q => match y with
  | .non => Q (.bl (isNon x)) M
  | _ => False
def hNotN : D2 := fun x y M Q => match y with
  | .non => Q (.bl (!isNon x)) M
  | _ => False
theorem o_disN : DO X (compareOp .Is) hIsN := do_imp fun x y H Q ⟨F, W, M, d, e, Qd, r1, r2, s, h, k⟩ => by
  refine ⟨_, o_isN, ?_⟩
  cases r2 <;> first | exact h.elim | skip
  show Q (.bl _) H
  rw [r1.isNon]; exact k.now s (.bl _) h
theorem o_dnotN : DO X (compareOp .IsNot) hNotN := do_imp fun x y H Q ⟨F, W, M, d, e, Qd, r1, r2, s, h, k⟩ => by
  refine ⟨_, o_notN, ?_⟩
  cases r2 <;> first | exact h.elim | skip
  show Q (.bl _) H
  rw [r1.isNon]; exact k.now s (.bl _) h
def subS (i j : Str) : Bool := !(Builtin.Str.occurrences j i 0 j.length 1).isEmpty
/-- scalars -/
def flatA : Da → Bool
  | .non | .bl _ | .int _ | .str _ => true
  | _ => false
theorem toPs_eq : ∀ ds : List Da, toPs ds = ds.map toP
  | [] => rfl
  | d :: ds => by rw [List.map_cons, ← toPs_eq ds]; rfl
/-- x in a row: by what == says -/
def inD (x : Da) (xs : List Da) : Bool := xs.any fun z => eqD z x
theorem RD.flat {K : PySem.W.Frag} {W : Addr → Prop} {H : Hp} {v : V} {d : Da} (r : RD K W H v d) (h : flatA d = true) : flatV v = true := by
  cases r <;> first | rfl | exact absurd h (by simp [flatA])
theorem RDs.flat {K : PySem.W.Frag} {W : Addr → Prop} {H : Hp} : ∀ {vs : List V} {ds : List Da}, RDs K W H vs ds → ds.all flatA = true → vs.all flatV = true
  | _, _, .nil, _ => rfl
  | _, _, .cons h k, q => by
    rw [List.all_cons, Bool.and_eq_true] at q ⊢
    exact ⟨h.flat q.1, RDs.flat k q.2⟩
theorem eqV_D {K : PySem.W.Frag} {W : Addr → Prop} {H : Hp} {v u : V} {d e : Da} (r : RD K W H v d) (q : RD K W H u e) (h1 : flatA d = true) (h2 : flatA e = true) : eqV v u = eqD d e := by
  cases r <;> first | exact absurd (show false = true from h1) Bool.false_ne_true | skip
  all_goals (cases q <;> first | exact absurd (show false = true from h2) Bool.false_ne_true | rfl | skip)
theorem inV_D {K : PySem.W.Frag} {W : Addr → Prop} {H : Hp} {v : V} {d : Da} (r : RD K W H v d) (h1 : flatA d = true) : ∀ {vs : List V} {ds : List Da}, RDs K W H vs ds → ds.all flatA = true → inV v vs = inD d ds
  | _, _, .nil, _ => rfl
  | _, _, .cons h k, q => by
    rw [List.all_cons, Bool.and_eq_true] at q
    have := inV_D r h1 k q.2
    unfold inV inD at this ⊢
    rw [List.any_cons, List.any_cons, eqV_D h r q.1 h1, this]
def flat2 (x : Da) (xs : List Da) : Bool := flatA x && xs.all flatA
def hInG (neg : Bool) : D2 := fun x y M Q => match x, y with
  | .str i, .str j => Q (.bl (if neg then !subS i j else subS i j)) M
  | x, .lst xs => (flat2 x xs || okD x && okD (.lst xs)) = true ∧ Q (.bl (if neg then !inD x xs else inD x xs)) M
  | x, .tup xs => flat2 x xs = true ∧ Q (.bl (if neg then !inD x xs else inD x xs)) M
  | x, .ref p => ∃ xs, M p = some (.lst xs) ∧ flat2 x xs = true ∧ Q (.bl (if neg then !inD x xs else inD x xs)) M
  | _, _ => False
theorem inD_list {d : Da} {ds : List Da} : (toPs ds).any (fun z => PyData.eqv z (toP d)) = inD d ds := by
  rw [toPs_eq, List.any_map]; rfl
theorem hIn_core {neg : Bool} (hu : X.A.units + 65 < cLine) {x y : V} {H : Hp} {Q : VK} {F W : Addr → Prop} {M : Mm} {d e : Da} {Qd : DK} (r1 : RD X.K W H x d) (r2 : RD X.K W H y e) (s : Stt X.K F W M H) (h : hInG neg d e M Qd) (k : Kt (rE X.K) X.K F W H Qd Q) :
    (∃ i j, x = .str i ∧ y = .str j ∧ Q (.bl (if neg then !subS i j else subS i j)) H) ∨ rIn X.K neg x y H Q ∨ (if neg then rNotInD X.K x y H Q else rInD X.K x y H Q) := by
  have fl : ∀ {a : Addr} {vs : List V} {ds : List Da}, y = .ref a → (SqL X.K H a vs ∨ SqT X.K H a vs) → RDs X.K W H vs ds → flat2 d ds = true → Qd (.bl (if neg then !inD d ds else inD d ds)) M → rIn X.K neg x y H Q := fun {a vs ds} ey hs rv f q => by
    have f' := Bool.and_eq_true_iff.mp f
    refine ⟨a, vs, ey, hs, r1.flat f'.1, rv.flat f'.2, ?_⟩
    rw [inV_D r1 f'.1 rv f'.2]
    exact k.now s (.bl _) q
  unfold hInG at h
  split at h
  · cases r1; cases r2; exact .inl ⟨_, _, rfl, rfl, k.now s (.bl _) h⟩
  · cases r2 with
    | lst hs rv =>
      obtain ⟨h1, h2⟩ := h
      rcases Bool.or_eq_true_iff.mp h1 with h1 | h1
      · exact .inr (.inl (fl rfl (.inl hs.sq) rv h1 h2))
      · have h1' := Bool.and_eq_true_iff.mp h1
        refine .inr (.inr ?_)
        cases neg with
        | true => exact ⟨_, _, r1.dp (okD.pure h1'.1), (RD.lst hs rv).dp (okD.pure h1'.2), okD.shp h1'.1, okD.shp h1'.2, by rw [inD_list]; exact k.now s (.bl _) h2⟩
        | false => exact ⟨_, _, r1.dp (okD.pure h1'.1), (RD.lst hs rv).dp (okD.pure h1'.2), okD.shp h1'.1, okD.shp h1'.2, by rw [inD_list]; exact k.now s (.bl _) h2⟩
  · cases r2 with
    | tup hs rv => exact .inr (.inl (fl rfl (.inr hs.sq) rv h.1 h.2))
  · cases r2 with
    | ref p =>
      obtain ⟨xs, hm, h1, h2⟩ := h
      obtain ⟨u, hu, mr⟩ := s.mem _ _ hm
      cases mr with
      | lst rv => exact .inr (.inl (fl rfl (.inl (SqL.of hu)) rv h1 h2))
  · exact h.elim
def hIn : D2 := hInG false
def hNin : D2 := hInG true
theorem o_din (hu : X.A.units + 65 < cLine) : DO X (compareOp .In) hIn := do_imp fun x y H Q ⟨F, W, M, d, e, Qd, r1, r2, s, h, k⟩ => by
  rcases hIn_core hu r1 r2 s h k with h | h | h
  · exact ⟨_, op_in_str, h⟩
  · exact ⟨_, op_in_seq, h⟩
  · exact ⟨_, op_inD hu, h⟩
theorem o_dnin (hu : X.A.units + 65 < cLine) : DO X (compareOp .NotIn) hNin := do_imp fun x y H Q ⟨F, W, M, d, e, Qd, r1, r2, s, h, k⟩ => by
  rcases hIn_core hu r1 r2 s h k with h | h | h
  · exact ⟨_, op_notin_str, h⟩
  · exact ⟨_, op_notIn_seq, h⟩
  · exact ⟨_, op_notInD hu, h⟩
def gTst (f : DTE) : DTT := fun δ M Q => f δ M fun x M1 => match x with
  | .bl k => Q k M1
  | _ => False
theorem d_tcm {op : CmpOp} {g : D2} (ho : DO X (compareOp op) g) (ha : DE X a fa) (hb : DE X b fb) (hm : behindInMarks op b = false := by first | exact nomark _ | rfl) : DT X (.Compare a [op] [b] pos) (gTst (gOp g fa fb)) :=
  pt_imp (tcm ho ha hb hm) fun σ H Q ⟨δ, F, W, M, Qd, e, s, h, k⟩ => li_op ⟨δ, F, W, M, _, e, s, h, fun v H1 W1 d M1 g1 s1 r1 q1 => by
    cases r1 <;> first | exact q1.elim | exact (k.mono g1).now s1 rfl q1⟩
theorem d_ecm {op : CmpOp} {g : D2} (ho : DO X (compareOp op) g) (ha : DE X a fa) (hb : DE X b fb) (hm : behindInMarks op b = false := by first | exact nomark _ | rfl) : DE X (.Compare a [op] [b] pos) (gOp g fa fb) :=
  imp (ecm ho ha hb hm) fun _ _ _ h => li_op h
def gCh (g g' : D2) (fa fb fc : DTE) : DTE := fun δ M Q => fa δ M fun x M1 => fb δ M1 fun y M2 => g x y M2 fun z M3 => match z with
  | .bl k => if k = true then fc δ M3 fun w M4 => g' y w M4 Q else Q (.bl false) M3
  | _ => False
theorem li_ch {K : PySem.W.Frag} {g g' : D2} {σ : L2.St} {H : Hp} {Q : VK} (h : Li (rE K) K (gCh g g' fa fb fc) σ H Q) : fChain (L2o K g) (L2o K g') (Li (rE K) K fa) (Li (rE K) K fb) (Li (rE K) K fc) σ H Q := by
  obtain ⟨δ, F, W, M, Qd, e, s, h, k⟩ := h
  refine ⟨δ, F, W, M, _, e, s, h, fun v H1 W1 d M1 g1 s1 r1 q1 => ⟨δ, F, W1, M1, _, e.mono g1, s1, q1, fun u H2 W2 d2 M2 g2 s2 r2 q2 => ⟨F, W2, M2, d, d2, _, r1.mono g2, r2, s2, q2, fun z H3 W3 d3 M3 g3 s3 r3 q3 => ?_⟩⟩⟩
  cases r3 <;> first | exact q3.elim | skip
  rename_i c
  cases c with
  | true => exact ⟨δ, F, W3, M3, _, e.mono (g1.trans (g2.trans g3)), s3, q3, fun w H4 W4 d4 M4 g4 s4 r4 q4 => ⟨F, W4, M4, d2, d4, Qd, r2.mono (g3.trans g4), r4, s4, q4, k.mono (g1.trans (g2.trans (g3.trans g4)))⟩⟩
  | false => exact (k.mono (g1.trans (g2.trans g3))).now s3 (.bl _) q3
theorem d_ech {op op' : CmpOp} {g g' : D2} (ho : DO X (compareOp op) g) (ho' : DO X (compareOp op') g') (ha : DE X a fa) (hb : DE X b fb) (hc : DE X c fc) (hm : lastMarks [op, op'] [b, c] = false := by rfl) :
    DE X (.Compare a [op, op'] [b, c] pos) (gCh g g' fa fb fc) := imp (ech ho ho' ha hb hc hm) fun _ _ _ h => li_ch h
theorem d_tch {op op' : CmpOp} {g g' : D2} (ho : DO X (compareOp op) g) (ho' : DO X (compareOp op') g') (ha : DE X a fa) (hb : DE X b fb) (hc : DE X c fc) (hm : lastMarks [op, op'] [b, c] = false := by rfl) :
    DT X (.Compare a [op, op'] [b, c] pos) (gTst (gCh g g' fa fb fc)) := pt_imp (tch ho ho' ha hb hc hm) fun σ H Q ⟨δ, F, W, M, Qd, e, s, h, k⟩ => li_ch ⟨δ, F, W, M, _, e, s, h, fun v H1 W1 d M1 g1 s1 r1 q1 => by
    cases r1 <;> first | exact q1.elim | exact (k.mono g1).now s1 rfl q1⟩
/-- any value as a test -/
def gTru (f : DTE) : DTT := fun δ M Q => f δ M fun x M1 => match x with
  | .bl k => Q k M1
  | .non => Q false M1
  | .int i => Q (i != 0) M1
  | .str y => y.length ≤ sizeLine ∧ Q ((y.length : Int) != 0) M1
  | .lst xs => Q (!xs.isEmpty) M1
  | .tup xs => Q (!xs.isEmpty) M1
  | .ref p => ∃ xs, M1 p = some (.lst xs) ∧ Q (!xs.isEmpty) M1
  | _ => False
theorem RDs.emp {K : PySem.W.Frag} {W : Addr → Prop} {H : Hp} {vs : List V} {ds : List Da} (r : RDs K W H vs ds) : (!vs.isEmpty) = !ds.isEmpty := by cases r <;> rfl
theorem d_tv (ha : DE X e f) (he : ∀ whole, isTrue e X.env whole = (do let v ← whole; standAt e.pos; holding [v] (truthy v)) := by intro _; rfl) : DT X e (gTru f) :=
  pt_imp (tv ha he) fun σ H Q ⟨δ, F, W, M, Qd, ev, s, h, k⟩ => ⟨δ, F, W, M, _, ev, s, h, fun v H1 W1 d M1 g1 s1 r1 q1 => by
    have k1 := k.mono g1
    cases r1 with
    | non => exact k1.now s1 rfl q1
    | bl b => exact k1.now s1 rfl q1
    | int b => exact k1.now s1 rfl q1
    | str b => exact ⟨q1.1, k1.now s1 rfl q1.2⟩
    | lst hs rv => exact ⟨_, .inl ⟨_, hs.sq, rv.emp.symm⟩, k1.now s1 rfl q1⟩
    | tup hs rv => exact ⟨_, .inr (.inl ⟨_, hs.sq, rv.emp.symm⟩), k1.now s1 rfl q1⟩
    | ref p =>
      obtain ⟨xs, hm, q⟩ := q1
      obtain ⟨u, hu, mr⟩ := s1.mem _ _ hm
      cases mr with
      | lst rv => exact ⟨_, .inl ⟨_, SqL.of hu, rv.emp.symm⟩, k1.now s1 rfl q⟩
    | _ => exact q1.elim⟩
def gAnd (t u : DTT) : DTT := fun δ M Q => t δ M fun c M1 => if c = true then u δ M1 Q else Q false M1
def gOr (t u : DTT) : DTT := fun δ M Q => t δ M fun c M1 => if c = true then Q true M1 else u δ M1 Q
def gNot (t : DTT) : DTT := fun δ M Q => t δ M fun c M1 => Q (!c) M1
theorem d_and1 (ha : DT X a ft) : DW X (.BoolOp .And [a] pos) ft := pw_and1 ha
theorem d_or1 (ha : DT X a ft) : DW X (.BoolOp .Or [a] pos) ft := pw_or1 ha
theorem d_and (ha : DT X a ft) (hb : DW X (.BoolOp .And (b :: rest) pos) fu) : DW X (.BoolOp .And (a :: b :: rest) pos) (gAnd ft fu) :=
  pw_imp (pw_and ha hb) fun σ H Q ⟨δ, F, W, M, Qd, ev, s, h, k⟩ => ⟨δ, F, W, M, _, ev, s, h, fun v H1 W1 d M1 g1 s1 r1 q1 => by
    cases r1
    cases v with
    | true => exact ⟨δ, F, W1, M1, Qd, ev.mono g1, s1, q1, k.mono g1⟩
    | false => exact (k.mono g1).now s1 rfl q1⟩
theorem d_or (ha : DT X a ft) (hb : DW X (.BoolOp .Or (b :: rest) pos) fu) : DW X (.BoolOp .Or (a :: b :: rest) pos) (gOr ft fu) :=
  pw_imp (pw_or ha hb) fun σ H Q ⟨δ, F, W, M, Qd, ev, s, h, k⟩ => ⟨δ, F, W, M, _, ev, s, h, fun v H1 W1 d M1 g1 s1 r1 q1 => by
    cases r1
    cases v with
    | false => exact ⟨δ, F, W1, M1, Qd, ev.mono g1, s1, q1, k.mono g1⟩
    | true => exact (k.mono g1).now s1 rfl q1⟩
theorem d_w (h : DW X e ft) : DT X e ft := PW.pt h
theorem d_tnot (ha : DT X a ft) : DT X (.UnaryOp .Not a pos) (gNot ft) := pt_imp (pt_not ha) fun σ H Q ⟨δ, F, W, M, Qd, ev, s, h, k⟩ => ⟨δ, F, W, M, _, ev, s, h, fun v H1 W1 d M1 g1 s1 r1 q1 => by
    cases r1
    exact (k.mono g1).now s1 rfl q1⟩
def gAndV (fa fb : DTE) : DTE := fun δ M Q => fa δ M fun x M1 => match x with
  | .bl c => if c = true then fb δ M1 Q else Q (.bl false) M1
  | _ => False
def gOrV (fa fb : DTE) : DTE := fun δ M Q => fa δ M fun x M1 => match x with
  | .bl c => if c = true then Q (.bl true) M1 else fb δ M1 Q
  | _ => False
def gNotV (fa : DTE) : DTE := fun δ M Q => fa δ M fun x M1 => match x with
  | .bl c => Q (.bl (!c)) M1
  | _ => False
theorem d_one {op} (h : DE X a f) : DE X (.BoolOp op [a] pos) f := pe_one h
theorem d_eand (ha : DE X a fa) (hb : DE X (.BoolOp .And (b :: rest) pos) fb) : DE X (.BoolOp .And (a :: b :: rest) pos) (gAndV fa fb) :=
  imp (eand ha hb) fun σ H Q ⟨δ, F, W, M, Qd, ev, s, h, k⟩ => ⟨δ, F, W, M, _, ev, s, h, fun v H1 W1 d M1 g1 s1 r1 q1 => by
    cases r1 <;> first | exact q1.elim | skip
    rename_i c
    cases c with
    | true => exact ⟨δ, F, W1, M1, Qd, ev.mono g1, s1, q1, k.mono g1⟩
    | false => exact (k.mono g1).now s1 (.bl _) q1⟩
theorem d_eor (ha : DE X a fa) (hb : DE X (.BoolOp .Or (b :: rest) pos) fb) : DE X (.BoolOp .Or (a :: b :: rest) pos) (gOrV fa fb) :=
  imp (eor ha hb) fun σ H Q ⟨δ, F, W, M, Qd, ev, s, h, k⟩ => ⟨δ, F, W, M, _, ev, s, h, fun v H1 W1 d M1 g1 s1 r1 q1 => by
    cases r1 <;> first | exact q1.elim | skip
    rename_i c
    cases c with
    | false => exact ⟨δ, F, W1, M1, Qd, ev.mono g1, s1, q1, k.mono g1⟩
    | true => exact (k.mono g1).now s1 (.bl _) q1⟩
theorem d_enot (ha : DE X a fa) : DE X (.UnaryOp .Not a pos) (gNotV fa) := imp (enot ha) fun σ H Q ⟨δ, F, W, M, Qd, ev, s, h, k⟩ => ⟨δ, F, W, M, _, ev, s, h, fun v H1 W1 d M1 g1 s1 r1 q1 => by
    cases r1 <;> first | exact q1.elim | exact (k.mono g1).now s1 (.bl _) q1⟩
def gIf (t : DTT) (fa fb : DTE) : DTE := fun δ M Q => t δ M fun c M1 => if c = true then fa δ M1 Q else fb δ M1 Q
theorem d_if (hc : DT X c ft) (ha : DE X a fa) (hb : DE X b fb) : DE X (.IfExp c a b pos) (gIf ft fa fb) := imp (pe_ifExp hc ha hb) fun σ H Q ⟨δ, F, W, M, Qd, ev, s, h, k⟩ => ⟨δ, F, W, M, _, ev, s, h, fun v H1 W1 d M1 g1 s1 r1 q1 => by
    cases r1
    cases v with
    | true => exact ⟨δ, F, W1, M1, Qd, ev.mono g1, s1, q1, k.mono g1⟩
    | false => exact ⟨δ, F, W1, M1, Qd, ev.mono g1, s1, q1, k.mono g1⟩⟩
end
end U
set_option Elab.async false
set_option linter.all false
set_option maxRecDepth 100000
set_option maxHeartbeats 2000000
namespace U
open PySem PySem.Spec PyProof.Rows L2
/-- what a row holds -/
def itemsK (x : Da) (M : Mm) (k : List Da → Prop) : Prop := match x with
  | .lst xs => k xs
  | .tup xs => k xs
  | .ref p => ∃ xs, M p = some (.lst xs) ∧ k xs
  | _ => False
section
variable {K : PySem.W.Frag} {F W : Addr → Prop} {H : Hp} {M : Mm}
theorem Stt.list (s : Stt K F W M H) {p : Addr} {xs : List Da} (h : M p = some (.lst xs)) : ∃ vs, H p = some (.lst vs) ∧ RDs K W H vs xs := by
  obtain ⟨u, hu, mr⟩ := s.mem _ _ h
  cases mr with
  | lst rv => exact ⟨_, hu, rv⟩
theorem items_of {v : V} {d : Da} (s : Stt K F W M H) (r : RD K W H v d) {k : List Da → Prop} (h : itemsK d M k) : ∃ a vs ds, v = .ref a ∧ (SqL K H a vs ∨ SqT K H a vs) ∧ RDs K W H vs ds ∧ k ds := by
  cases r with
  | lst hs rv => exact ⟨_, _, _, rfl, .inl hs.sq, rv, h⟩
  | tup hs rv => exact ⟨_, _, _, rfl, .inr hs.sq, rv, h⟩
  | ref p =>
    obtain ⟨xs, hm, h⟩ := h
    obtain ⟨vs, hv, rv⟩ := s.list hm
    exact ⟨_, _, _, rfl, .inl (SqL.of hv), rv, h⟩
  | _ => exact h.elim
end
section
variable {X : Cx} {a b c e : Expr} {es rest : List Expr} {fa fb fc f : DTE} {ft fu : DTT} {fs : DTA} {pos p : Pos}
def gNil : DTA := fun _ M Q => Q [] M
def gCons (fa : DTE) (fs : DTA) : DTA := fun δ M Q => fa δ M fun x M1 => fs δ M1 fun xs M2 => Q (x :: xs) M2
def gStar (fa : DTE) (fs : DTA) : DTA := fun δ M Q => fa δ M fun x M1 => itemsK x M1 fun ys => fs δ M1 fun xs M2 => Q (ys ++ xs) M2
theorem d_nil : DA X [] gNil := pa_imp pa_nil fun σ H Q ⟨δ, F, W, M, Qd, ev, s, h, k⟩ => k.now s .nil h
theorem d_cons (ha : DE X e f) (hr : DA X es fs) (hs : starEach (e :: es) X.env = (false, eval e X.env) :: starEach es X.env := by rfl) : DA X (e :: es) (gCons f fs) :=
  pa_imp (pa_cons ha hr hs) fun σ H Q ⟨δ, F, W, M, Qd, ev, s, h, k⟩ => ⟨δ, F, W, M, _, ev, s, h, fun v H1 W1 d M1 g1 s1 r1 q1 => ⟨δ, F, W1, M1, _, ev.mono g1, s1, q1, fun vs H2 W2 ds M2 g2 s2 r2 q2 =>
    (k.mono (g1.trans g2)).now s2 (.cons (r1.mono g2) r2) q2⟩⟩
theorem d_star (ha : DE X e f) (hr : DA X es fs) (hs : starEach (.Starred e p :: es) X.env = (true, eval e X.env) :: starEach es X.env := by rfl) : DA X (.Starred e p :: es) (gStar f fs) :=
  pa_imp (StX.pa_star ha hr hs) fun σ H Q ⟨δ, F, W, M, Qd, ev, s, h, k⟩ => ⟨δ, F, W, M, _, ev, s, h, fun v H1 W1 d M1 g1 s1 r1 q1 => by
    obtain ⟨a, vs, ds, rfl, hs, rv, q⟩ := items_of s1 r1 q1
    exact ⟨a, vs, rfl, hs.symm, δ, F, W1, M1, _, ev.mono g1, s1, q, fun ws H2 W2 es M2 g2 s2 r2 q2 => (k.mono (g1.trans g2)).now s2 ((rv.mono g2).append r2) q2⟩⟩
def gTup (fs : DTA) : DTE := fun δ M Q => fs δ M fun xs M1 => Sz xs.length ∧ Q (.tup xs) M1
def gLst (fs : DTA) : DTE := fun δ M Q => fs δ M fun xs M1 => Sz xs.length ∧ Q (.lst xs) M1
def gLstM (fs : DTA) : DTE := fun δ M Q => fs δ M fun xs M1 => Sz xs.length ∧ ∀ p, M1 p = none → Q (.ref p) (mput M1 p (.lst xs))
theorem d_tup {x1} (h : DA X es fs) : DE X (.Tuple es x1 pos) (gTup fs) := imp (pe_tupF h) fun σ H Q ⟨δ, F, W, M, Qd, ev, s, h, k⟩ => ⟨δ, F, W, M, _, ev, s, h, fun vs H1 W1 ds M1 g1 s1 r1 q1 =>
  ⟨by rw [RDs.length r1]; exact q1.1.ok, fun p hp o ho => (k.mono g1).newT s1 hp r1 ho q1.2⟩⟩
theorem d_lst (h : DA X es fs) : DE X (.List es pos) (gLst fs) := imp (pe_lst h) fun σ H Q ⟨δ, F, W, M, Qd, ev, s, h, k⟩ => ⟨δ, F, W, M, _, ev, s, h, fun vs H1 W1 ds M1 g1 s1 r1 q1 =>
  ⟨by rw [RDs.length r1]; exact q1.1.ok, fun p hp => (k.mono g1).newL s1 hp r1 q1.2⟩⟩
theorem d_lstM (h : DA X es fs) : DE X (.List es pos) (gLstM fs) := imp (pe_lst h) fun σ H Q ⟨δ, F, W, M, Qd, ev, s, h, k⟩ => ⟨δ, F, W, M, _, ev, s, h, fun vs H1 W1 ds M1 g1 s1 r1 q1 =>
  ⟨by rw [RDs.length r1]; exact q1.1.ok, fun p hp => (k.mono g1).newM s1 hp r1 q1.2⟩⟩
/-- a row of the memory that changes no more -/
def gStl (f : DTE) : DTE := fun δ M Q => f δ M fun x M1 => match x with
  | .ref p => ∃ xs, M1 p = some (.lst xs) ∧ Q (.lst xs) (mdel M1 p)
  | x => Q x M1
theorem d_stl (h : DE X e f) : DE X e (gStl f) := imp h fun σ H Q ⟨δ, F, W, M, Qd, ev, s, h, k⟩ => ⟨δ, F, W, M, _, ev, s, h, fun v H1 W1 d M1 g1 s1 r1 q1 => by
  cases r1 with
  | ref p =>
    obtain ⟨xs, hm, q⟩ := q1
    obtain ⟨s2, g2⟩ := s1.settle hm
    obtain ⟨vs, hv, rv⟩ := s1.list hm
    exact (k.mono (g1.trans g2)).now s2 (.lst (.inl ⟨.inl rfl, .inl hv⟩) (rv.mono g2)) q
  | non => exact (k.mono g1).now s1 .non q1
  | bl b => exact (k.mono g1).now s1 (.bl b) q1
  | int b => exact (k.mono g1).now s1 (.int b) q1
  | str b => exact (k.mono g1).now s1 (.str b) q1
  | ty b => exact (k.mono g1).now s1 (.ty b) q1
  | lst a b => exact (k.mono g1).now s1 (.lst a b) q1
  | tup a b => exact (k.mono g1).now s1 (.tup a b) q1
  | obj a b c => exact (k.mono g1).now s1 (.obj a b c) q1
  | dct a b c => exact (k.mono g1).now s1 (.dct a b c) q1
  | exn a b c => exact (k.mono g1).now s1 (.exn a b c) q1⟩
theorem atI_rel {K : PySem.W.Frag} {W : Addr → Prop} {H : Hp} {vs : List V} {ds : List Da} {i : Int} {d : Da} (r : RDs K W H vs ds) (h : atI ds i = some d) : ∃ v, atI vs i = some v ∧ RD K W H v d := by
  unfold atI at h ⊢
  rw [r.length]
  cases e : ixN ds.length i with
  | none => rw [e] at h; cases h
  | some j => rw [e] at h; exact r.get h
def hIx : D2 := fun x y M Q => match x, y with
  | .str z, .int i => Sz z.length ∧ ∃ c, atI z.cps.toList i = some c ∧ Q (.str ⟨#[c]⟩) M
  | .lst xs, .int i => ∃ v, atI xs i = some v ∧ Q v M
  | .tup xs, .int i => ∃ v, atI xs i = some v ∧ Q v M
  | .ref p, .int i => ∃ xs v, M p = some (.lst xs) ∧ atI xs i = some v ∧ Q v M
  | _, _ => False
theorem d_ix (ha : DE X a fa) (hb : DE X b fb) (hs : PlainIx b := by exact fun _ _ => rfl) : DE X (.Subscript a b pos) (gOp hIx fa fb) := imp (ix ha hb hs) fun σ H Q h => by
  obtain ⟨δ, F, W, M, Qd, ev, s, h, k⟩ := h
  refine ⟨δ, F, W, M, _, ev, s, h, fun v H1 W1 d M1 g1 s1 r1 q1 => ⟨δ, F, W1, M1, _, ev.mono g1, s1, q1, fun u H2 W2 e M2 g2 s2 r2 q2 => ?_⟩⟩
  have k2 := k.mono (g1.trans g2)
  have r1' := r1.mono g2
  unfold hIx at q2
  split at q2
  · cases r1'; cases r2
    obtain ⟨hz, c, hc, q⟩ := q2
    exact ⟨hz.ok, c, hc, k2.now s2 (.str _) q⟩
  · cases r1' with
    | lst hs rv =>
      cases r2
      obtain ⟨x, hx, q⟩ := q2
      obtain ⟨y, hy, ry⟩ := atI_rel rv hx
      exact ⟨_, y, .inl hs.sq, hy, k2.now s2 ry q⟩
  · cases r1' with
    | tup hs rv =>
      cases r2
      obtain ⟨x, hx, q⟩ := q2
      obtain ⟨y, hy, ry⟩ := atI_rel rv hx
      exact ⟨_, y, .inr hs.sq, hy, k2.now s2 ry q⟩
  · cases r1' with
    | ref p =>
      cases r2
      obtain ⟨xs, x, hm, hx, q⟩ := q2
      obtain ⟨vs, hv, rv⟩ := s2.list hm
      obtain ⟨y, hy, ry⟩ := atI_rel rv hx
      exact ⟨_, y, .inl (SqL.of hv), hy, k2.now s2 ry q⟩
  · exact q2.elim
def cutD {α : Type} (xs : List α) (lo hi : Option Int) : List α := (xs.drop (HT.sIx xs.length 0 lo)).take (HT.sIx xs.length xs.length hi - HT.sIx xs.length 0 lo)
theorem cut_rel {K : PySem.W.Frag} {W : Addr → Prop} {H : Hp} {vs : List V} {ds : List Da} (r : RDs K W H vs ds) (lo hi : Option Int) : RDs K W H (cutV vs lo hi) (cutD ds lo hi) := by
  unfold cutV cutD
  rw [r.length]
  exact (r.drop _).take _
abbrev DTO := DR (Option Int)
def rO : (Addr → Prop) → Hp → Option Int → Option Int → Prop := fun _ _ a b => a = b
def DP (X : Cx) (e : Option Expr) (f : DTO) : Prop := PO X e (Li rO X.K f)
theorem po_imp {e : Option Expr} {t t' : TO} (h : PO X e t) (f : ∀ σ H Q, t' σ H Q → t σ H Q) : PO X e t' := by
  obtain ⟨h⟩ := h
  exact ⟨fun pins s σ H Q I q => h pins s σ H Q I (f σ H Q q)⟩
def gNoP : DTO := fun _ M Q => Q none M
def gPart (f : DTE) : DTO := fun δ M Q => f δ M fun x M1 => match x with
  | .int i => Q (some i) M1
  | _ => False
theorem d_pnone : DP X none gNoP := po_imp po_none fun σ H Q ⟨δ, F, W, M, Qd, ev, s, h, k⟩ => k.now s rfl h
theorem d_psome (h : DE X e f) : DP X (some e) (gPart f) := po_imp (posome h) fun σ H Q ⟨δ, F, W, M, Qd, ev, s, h, k⟩ => ⟨δ, F, W, M, _, ev, s, h, fun v H1 W1 d M1 g1 s1 r1 q1 => by
  cases r1 <;> first | exact q1.elim | exact (k.mono g1).now s1 rfl q1⟩
def hSl (x : Da) (lo hi : Option Int) (M : Mm) (Q : DK) : Prop := match x with
  | .str z => Sz z.length ∧ Q (.str (cutS z lo hi)) M
  | .lst xs => Q (.lst (cutD xs lo hi)) M
  | .tup xs => Q (.tup (cutD xs lo hi)) M
  | .ref p => ∃ xs, M p = some (.lst xs) ∧ Q (.lst (cutD xs lo hi)) M
  | _ => False
def gSl (f : DTE) (l h : DTO) : DTE := fun δ M Q => f δ M fun x M1 => l δ M1 fun lo M2 => h δ M2 fun hi M3 => hSl x lo hi M3 Q
theorem cutD_whole {α : Type} {xs : List α} {lo hi : Option Int} (h : HT.sIx xs.length 0 lo = 0 ∧ HT.sIx xs.length xs.length hi = xs.length) : cutD xs lo hi = xs := by
  unfold cutD
  rw [h.1, h.2]
  simp
def fSlA (K : PySem.W.Frag) : V → Option Int → Option Int → Hp → VK → Prop := fun x lo hi H Q => match x with
  | .str z => z.length ≤ sizeLine ∧ Q (.str (cutS z lo hi)) H
  | .ref p => rSlL K (.ref p) lo hi H Q ∨ rSlAF K (.ref p) lo hi H Q
  | _ => False
theorem sl_anyA : SlR X (fSlA X.K) := slCases fun x lo hi H Q h => by
  unfold fSlA at h; split at h
  · exact ⟨_, sl_str, _, rfl, h.1, h.2⟩
  · rcases h with h | h
    · exact ⟨_, sl_list, h⟩
    · exact ⟨_, sl_tupAF, h⟩
  · exact h.elim
theorem d_sl {lo hi : Option Expr} {l h : DTO} {p2 : Pos} (he : DE X e f) (hl : DP X lo l) (hh : DP X hi h) : DE X (.Subscript e (.Slice lo hi none p2) pos) (gSl f l h) := imp (pe_slice sl_anyA he hl hh) fun σ H Q hq => by
  obtain ⟨δ, F, W, M, Qd, ev, s, hq, k⟩ := hq
  refine ⟨δ, F, W, M, _, ev, s, hq, fun v H1 W1 d M1 g1 s1 r1 q1 => ⟨δ, F, W1, M1, _, ev.mono g1, s1, q1, fun a1 H2 W2 b1 M2 g2 s2 e2 q2 => ⟨δ, F, W2, M2, _, ev.mono (g1.trans g2), s2, q2, fun a2 H3 W3 b2 M3 g3 s3 e3 q3 => ?_⟩⟩⟩
  cases e2
  cases e3
  have k3 := k.mono (g1.trans (g2.trans g3))
  have r3 := r1.mono (g2.trans g3)
  unfold hSl at q3
  split at q3
  · cases r3
    exact ⟨q3.1.ok, k3.now s3 (.str _) q3.2⟩
  · cases r3 with
    | lst hs rv => exact .inl ⟨_, _, rfl, hs.sq, fun p hp => k3.newL s3 hp (cut_rel rv _ _) q3⟩
  · cases r3 with
    | tup hs rv =>
      refine .inr ⟨_, _, rfl, hs.sq, fun hw => ?_, fun _ p hp o ho => k3.newT s3 hp (cut_rel rv _ _) ho q3⟩
      rw [cutD_whole (by rw [← rv.length]; exact hw)] at q3
      exact k3.now s3 (.tup hs rv) q3
  · cases r3 with
    | ref p =>
      obtain ⟨xs, hm, q⟩ := q3
      obtain ⟨vs, hv, rv⟩ := s3.list hm
      exact .inl ⟨_, _, rfl, SqL.of hv, fun p hp => k3.newL s3 hp (cut_rel rv _ _) q⟩
  · exact q3.elim
end
end U
set_option Elab.async false
set_option linter.all false
set_option maxRecDepth 100000
set_option maxHeartbeats 2000000
namespace U
open PySem PySem.Spec PyProof.Rows L2
abbrev DC := List Da → Mm → DK → Prop
def L2c (K : PySem.W.Frag) (g : DC) : List V → Hp → VK → Prop := fun xs H Q => ∃ F W M ds Qd, RDs K W H xs ds ∧ Stt K F W M H ∧ g ds M Qd ∧ Kt (rE K) K F W H Qd Q
def gBi (g : DC) (fs : DTA) : DTE := fun δ M Q => fs δ M fun ds M1 => g ds M1 Q
def CD (X : Cx) (f : Value) (g : DC) : Prop := CallR X f (L2c X.K g)
section
variable {X : Cx} {a b c e : Expr} {es rest : List Expr} {fa fb fc f : DTE} {ft fu : DTT} {fs : DTA} {pos p : Pos} {g : DC}
theorem li_cb {K : PySem.W.Frag} {σ : L2.St} {H : Hp} {Q : VK} (h : Li (rE K) K (gBi g fs) σ H Q) : tCB (L2c K g) (Li (rA K) K fs) σ H Q := by
  obtain ⟨δ, F, W, M, Qd, ev, s, h, k⟩ := h
  exact ⟨δ, F, W, M, _, ev, s, h, fun vs H1 W1 ds M1 g1 s1 r1 q1 => ⟨F, W1, M1, ds, Qd, r1, s1, q1, k.mono g1⟩⟩
theorem d_b {x : Str} {id : String} (m : X.mg x = none) (hv : bootBuiltins x = some (.builtin id)) (hc : CD X (.builtin id) g) (ha : DA X (e :: es) fs) (hg : Gl X x := by rfl) (hn : x ≠ "__name__" := by decide) (hdb : (x == ("__debug__" : Str)) = false := by decide)
    (he : starEach (e :: es) X.env = (false, eval e X.env) :: starEach es X.env := by rfl) (hpl : (backTo pos (starEach es X.env)).any (·.1) = false := by rfl) : DE X (.Call (.Name x p) (e :: es) [] pos) (gBi g fs) :=
  imp (pe_callB hc hg m hv ha hn hdb he hpl) fun _ _ _ h => li_cb h
theorem d_t {x : Str} {T : String} (m : X.mg x = none) (hv : bootBuiltins x = some (.type T)) (hc : CD X (.type T) g) (ha : DA X (e :: es) fs) (hg : Gl X x := by rfl) (hn : x ≠ "__name__" := by decide) (hdb : (x == ("__debug__" : Str)) = false := by decide)
    (he : starEach (e :: es) X.env = (false, eval e X.env) :: starEach es X.env := by rfl) (hpl : (backTo pos (starEach es X.env)).any (·.1) = false := by rfl) : DE X (.Call (.Name x p) (e :: es) [] pos) (gBi g fs) :=
  imp (pe_callTy hc hg m hv ha hn hdb he hpl) fun _ _ _ h => li_cb h
theorem cd_imp {f : Value} (h : ∀ xs H Q, L2c X.K g xs H Q → ∃ r : List V → Hp → VK → Prop, CallR X f r ∧ r xs H Q) : CD X f g := callCases h
theorem RDs.one {K : PySem.W.Frag} {W : Addr → Prop} {H : Hp} {vs : List V} {d : Da} (r : RDs K W H vs [d]) : ∃ v, vs = [v] ∧ RD K W H v d := by
  cases r with
  | cons h k => cases k; exact ⟨_, rfl, h⟩
theorem RDs.two {K : PySem.W.Frag} {W : Addr → Prop} {H : Hp} {vs : List V} {d e : Da} (r : RDs K W H vs [d, e]) : ∃ v u, vs = [v, u] ∧ RD K W H v d ∧ RD K W H u e := by
  cases r with
  | cons h k =>
    obtain ⟨u, rfl, q⟩ := k.one
    exact ⟨_, _, rfl, h, q⟩
def kLen : DC := fun xs M Q => match xs with
  | [.str y] => Sz y.length ∧ Q (.int y.length) M
  | [.lst xs] => Q (.int xs.length) M
  | [.tup xs] => Q (.int xs.length) M
  | [.ref p] => ∃ xs, M p = some (.lst xs) ∧ Q (.int xs.length) M
  | _ => False
theorem c_dlen : CD X (.builtin "len") kLen := cd_imp fun vs H Q ⟨F, W, M, ds, Qd, r, s, h, k⟩ => by
  refine ⟨_, c_len, ?_⟩
  unfold kLen at h
  split at h
  · obtain ⟨v, rfl, r1⟩ := r.one; cases r1
    exact ⟨h.1.ok, k.now s (.int _) h.2⟩
  · obtain ⟨v, rfl, r1⟩ := r.one
    cases r1 with
    | lst hs rv => exact ⟨_, .inl ⟨_, hs.sq, rfl⟩, by rw [rv.length]; exact k.now s (.int _) h⟩
  · obtain ⟨v, rfl, r1⟩ := r.one
    cases r1 with
    | tup hs rv => exact ⟨_, .inr ⟨_, hs.sq, rfl⟩, by rw [rv.length]; exact k.now s (.int _) h⟩
  · obtain ⟨v, rfl, r1⟩ := r.one
    cases r1 with
    | ref p =>
      obtain ⟨xs, hm, q⟩ := h
      obtain ⟨vs, hv, rv⟩ := s.list hm
      exact ⟨_, .inl ⟨_, SqL.of hv, rfl⟩, by rw [rv.length]; exact k.now s (.int _) q⟩
  · exact h.elim
def kAbs : DC := fun xs M Q => match xs with
  | [.int i] => Q (.int (if i < 0 then -i else i)) M
  | _ => False
theorem c_dabs : CD X (.builtin "abs") kAbs := cd_imp fun vs H Q ⟨F, W, M, ds, Qd, r, s, h, k⟩ => by
  refine ⟨_, c_abs, ?_⟩
  unfold kAbs at h
  split at h
  · obtain ⟨v, rfl, r1⟩ := r.one; cases r1; exact k.now s (.int _) h
  · exact h.elim
def kMax : DC := fun xs M Q => match xs with
  | [.int i, .int j] => Q (.int (if j > i then j else i)) M
  | _ => False
theorem c_dmax (hc : X.calm = true) : CD X (.builtin "max") kMax := cd_imp fun vs H Q ⟨F, W, M, ds, Qd, r, s, h, k⟩ => by
  refine ⟨_, c_max hc, ?_⟩
  unfold kMax at h
  split at h
  · obtain ⟨v, u, rfl, r1, r2⟩ := r.two; cases r1; cases r2; exact k.now s (.int _) h
  · exact h.elim
def kMin : DC := fun xs M Q => match xs with
  | [.int i, .int j] => Q (.int (if j < i then j else i)) M
  | _ => False
theorem c_dmin (hc : X.calm = true) : CD X (.builtin "min") kMin := cd_imp fun vs H Q ⟨F, W, M, ds, Qd, r, s, h, k⟩ => by
  refine ⟨_, c_min hc, ?_⟩
  unfold kMin at h
  split at h
  · obtain ⟨v, u, rfl, r1, r2⟩ := r.two; cases r1; cases r2; exact k.now s (.int _) h
  · exact h.elim
def kInt : DC := fun xs M Q => match xs with
  | [.int i] => Q (.int i) M
  | [.bl b] => Q (.int (if b then 1 else 0)) M
  | _ => False
theorem c_dint : CD X (.type "int") kInt := cd_imp fun vs H Q ⟨F, W, M, ds, Qd, r, s, h, k⟩ => by
  refine ⟨_, c_int, ?_⟩
  unfold kInt at h
  split at h
  · obtain ⟨v, rfl, r1⟩ := r.one; cases r1; exact k.now s (.int _) h
  · obtain ⟨v, rfl, r1⟩ := r.one; cases r1; exact k.now s (.int _) h
  · exact h.elim
/-- ints, bools, texts in a row -/
def asInts : List Da → Option (List Int)
  | [] => some []
  | .int i :: r => (asInts r).map (i :: ·)
  | _ :: _ => none
def asBls : List Da → Option (List Bool)
  | [] => some []
  | .bl i :: r => (asBls r).map (i :: ·)
  | _ :: _ => none
theorem asInts_map : ∀ ns : List Int, asInts (ns.map Da.int) = some ns
  | [] => rfl
  | n :: ns => by show (asInts (ns.map Da.int)).map _ = _; rw [asInts_map ns]; rfl
theorem asBls_map : ∀ ns : List Bool, asBls (ns.map Da.bl) = some ns
  | [] => rfl
  | n :: ns => by show (asBls (ns.map Da.bl)).map _ = _; rw [asBls_map ns]; rfl
theorem asInts_of : ∀ {ds : List Da} {ns : List Int}, asInts ds = some ns → ds = ns.map Da.int
  | [], ns, h => by cases h; rfl
  | d :: ds, ns, h => by
    cases d with
    | int i =>
      cases e : asInts ds with
      | none => rw [asInts, e] at h; cases h
      | some ms => rw [asInts, e] at h; cases h; rw [asInts_of e]; rfl
    | _ => cases (show none = some ns from h)
theorem asBls_of : ∀ {ds : List Da} {ns : List Bool}, asBls ds = some ns → ds = ns.map Da.bl
  | [], ns, h => by cases h; rfl
  | d :: ds, ns, h => by
    cases d with
    | bl i =>
      cases e : asBls ds with
      | none => rw [asBls, e] at h; cases h
      | some ms => rw [asBls, e] at h; cases h; rw [asBls_of e]; rfl
    | _ => cases (show none = some ns from h)
def kAll : DC := fun xs M Q => match xs with
  | [.lst ds] => ∃ bs, asBls ds = some bs ∧ Q (.bl (bs.all id)) M
  | _ => False
theorem c_dall (hc : X.calm = true) : CD X (.builtin "all") kAll := cd_imp fun vs H Q ⟨F, W, M, ds, Qd, r, s, h, k⟩ => by
  refine ⟨_, cr_all hc, ?_⟩
  unfold kAll at h
  split at h
  · obtain ⟨v, rfl, r1⟩ := r.one
    obtain ⟨bs, hb, q⟩ := h
    cases r1 with
    | lst hs rv => rw [asBls_of hb] at rv; rw [rv.bls] at hs; exact ⟨_, bs, rfl, hs.sq, k.now s (.bl _) q⟩
  · exact h.elim
def kAny : DC := fun xs M Q => match xs with
  | [.lst ds] => ∃ bs, asBls ds = some bs ∧ Q (.bl (bs.any id)) M
  | _ => False
theorem c_dany (hc : X.calm = true) : CD X (.builtin "any") kAny := cd_imp fun vs H Q ⟨F, W, M, ds, Qd, r, s, h, k⟩ => by
  refine ⟨_, cr_any hc, ?_⟩
  unfold kAny at h
  split at h
  · obtain ⟨v, rfl, r1⟩ := r.one
    obtain ⟨bs, hb, q⟩ := h
    cases r1 with
    | lst hs rv => rw [asBls_of hb] at rv; rw [rv.bls] at hs; exact ⟨_, bs, rfl, hs.sq, k.now s (.bl _) q⟩
  · exact h.elim
def kSum : DC := fun xs M Q => match xs with
  | [.lst ds] => ∃ ns, asInts ds = some ns ∧ Q (.int ns.sum) M
  | _ => False
theorem c_dsum (hc : X.calm = true) : CD X (.builtin "sum") kSum := cd_imp fun vs H Q ⟨F, W, M, ds, Qd, r, s, h, k⟩ => by
  refine ⟨_, cr_sum hc, ?_⟩
  unfold kSum at h
  split at h
  · obtain ⟨v, rfl, r1⟩ := r.one
    obtain ⟨bs, hb, q⟩ := h
    cases r1 with
    | lst hs rv => rw [asInts_of hb] at rv; rw [rv.ints] at hs; exact ⟨_, bs, rfl, hs.sq, k.now s (.int _) q⟩
  · exact h.elim
def kTuple : DC := fun xs M Q => match xs with
  | [x] => itemsK x M fun ds => Q (.tup ds) M
  | _ => False
theorem c_dtuple : CD X (.type "tuple") kTuple := cd_imp fun vs H Q ⟨F, W, M, ds, Qd, r, s, h, k⟩ => by
  refine ⟨_, call_tuple_ofF, ?_⟩
  unfold kTuple at h
  split at h
  · obtain ⟨v, rfl, r1⟩ := r.one
    cases r1 with
    | lst hs rv => exact ⟨_, _, rfl, .inl ⟨hs.sq, fun l hl o ho => k.newT s hl rv ho h⟩⟩
    | tup hs rv => exact ⟨_, _, rfl, .inr ⟨hs.sq, k.now s (.tup hs rv) h⟩⟩
    | ref p =>
      obtain ⟨xs, hm, q⟩ := h
      obtain ⟨vs, hv, rv⟩ := s.list hm
      exact ⟨_, _, rfl, .inl ⟨SqL.of hv, fun l hl o ho => k.newT s hl rv ho q⟩⟩
    | _ => exact h.elim
  · exact h.elim
def kList : DC := fun xs M Q => match xs with
  | [x] => itemsK x M fun ds => Q (.lst ds) M
  | _ => False
/-- x.append(y), x.pop(i) .. -/
def hAppend (x : Da) (xs : List Da) (M : Mm) (Q : DK) : Prop := match x, xs with
  | .ref p, [y] => ∃ ds, M p = some (.lst ds) ∧ Sz ds.length ∧ Q .non (mput M p (.lst (ds ++ [y])))
  | _, _ => False
def hExtend (x : Da) (xs : List Da) (M : Mm) (Q : DK) : Prop := match x, xs with
  | .ref p, [.ref b] => ∃ ds es, M p = some (.lst ds) ∧ M b = some (.lst es) ∧ Sz (ds.length + es.length) ∧ Q .non (mput (mdel M b) p (.lst (ds ++ es)))
  | .ref p, [.lst es] => ∃ ds, M p = some (.lst ds) ∧ Sz (ds.length + es.length) ∧ Q .non (mput M p (.lst (ds ++ es)))
  | _, _ => False
/-- extend by any list -/
theorem list_extendW (l : Addr) (items : Array Value) (n : Nat) (b : Addr) (items2 : Array Value) (n2 : Nat) (dd2 : Option Addr) (sl2 : Array (Option Value)) (hc0 : ¬(!items.isEmpty && Builtin.List.listTooLong (items.size + items2.size)) = true) (hc1 : items.size ≤ sizeLine) (hs2 : items.size + items2.size ≤ sizeLine + 1) :
    Meets (Builtin.«list.extend» ⟨[.ref l, .ref b], []⟩) (fun _ R s => s.heap.get? l = some { cls := .type "list", dict := none, data := .seq items n, slots := #[] } ∧ s.heap.get? b = some { cls := .type "list", dict := dd2, data := .seq items2 n2, slots := sl2 } ∧ R (.ok (.ret Value.none)) { s with heap := s.heap.update l (Obj.mapSeq fun x => x ++ items2), toks := s.toks }) :=
  .of_wp fun prog w A R s h => by
    obtain ⟨hp, g, d, tk, os⟩ := s; obtain ⟨hl, hb, h⟩ := h; have f1 := AutoSeq1.idx_int; have f2 := AutoSeq1.sub_tuple_tuple; have f3 := AutoSeq1.sub_list_list; have f4 := AutoSeq1.sub_tuple_list; have f5 := AutoSeq1.sub_list_tuple
    have hz' : (items ++ items2).size ≤ sizeLine + 1 := by rw [Array.size_append]; exact hs2
    wp_walk using (wpAny_updateSeq hl rfl (hz := hc1) (_hz' := hz')), wpAny_loadPart' hl, wpAny_loadPart' hb; exact ⟨_, rfl, h⟩
def rExtendL (K : PySem.W.Frag) : V → List V → Hp → VK → Prop := fun x vs H Q => ∃ l b xs zs, x = .ref l ∧ vs = [.ref b] ∧ H l = some (.lst xs) ∧ SqL K H b zs ∧ xs.length + zs.length ≤ sizeLine ∧ Q .non (upd H l (.lst (xs ++ zs)))
theorem mt_extendL : MtM X "list.extend" (rExtendL X.K) := by
  intro pins s σ H x vs v us Q I rx rv h
  obtain ⟨l, b, xs, zs, rfl, rfl, hH, hB, hz, q⟩ := h
  cases rx
  obtain ⟨u, rfl, ru⟩ := rv.one
  cases ru
  obtain ⟨z, its, n, r, hl, e⟩ := I.lstM hH
  obtain ⟨its2, r2, ⟨⟨cls2, dd2, data2, sl2⟩, n2, e2, hc2, _, hd2⟩, _⟩ := I.list hB
  simp only at hc2 hd2
  subst hc2 hd2
  have hl2 := r2.length
  have hsz : its.toArray.size + its2.toArray.size ≤ sizeLine := by rw [List.size_toArray, List.size_toArray]; omega
  have hlong : ¬ (!its.toArray.isEmpty && Builtin.List.listTooLong (its.toArray.size + its2.toArray.size)) = true := by
    rw [notLongL hsz, Bool.and_false]
    exact Bool.false_ne_true
  refine call_meets F.slot_list_extend ⟨_, e, rfl⟩ F.entry_list_extend (F.args_list_extend_2 _ _)
    (list_extendW l its.toArray n b its2.toArray n2 _ sl2 hlong (by rw [List.size_toArray]; omega) (by omega)) ⟨e, e2, ?_⟩
  refine ⟨.non, _, I.lset (its' := its ++ its2) hH e (by simp) (r.append r2) ?_, rfl, q⟩
  rw [List.length_append]
  omega
def gMe (g : Da → List Da → Mm → DK → Prop) (f : DTE) (fs : DTA) : DTE := fun δ M Q => f δ M fun x M1 => (∃ p ds, x = .ref p ∧ M1 p = some (.lst ds)) ∧ fs δ M1 fun xs M2 => g x xs M2 Q
def L2m (K : PySem.W.Frag) (g : Da → List Da → Mm → DK → Prop) : V → List V → Hp → VK → Prop := fun x xs H Q => ∃ F W M d ds Qd, RD K W H x d ∧ RDs K W H xs ds ∧ Stt K F W M H ∧ g d ds M Qd ∧ Kt (rE K) K F W H Qd Q
theorem mtImp {id : String} {r r' : V → List V → Hp → VK → Prop} (h : MtR X id r) (f : ∀ x xs H Q, r' x xs H Q → r x xs H Q) : MtR X id r' := fun pins s σ H x xs v us Q I rx rv q => h pins s σ H x xs v us Q I rx rv (f x xs H Q q)
theorem Kt.putL {K : PySem.W.Frag} {F W : Addr → Prop} {M : Mm} {H : Hp} {Qd : DK} {Q : VK} {q : Addr} {vs : List V} {ds : List Da} {o : MO} {v : V} {d : Da} (k : Kt (rE K) K F W H Qd Q) (s : Stt K F W M H) (h : M q = some o) (r : RDs K W H vs ds) (rv : RD K W H v d) (z : Qd d (mput M q (.lst ds))) : Q v (upd H q (.lst vs)) :=
  (k.mono (grow_put s h)).now (s.put h (.lst r)) (rv.mono (grow_put s h)) z
theorem mt_dappend (h : MtR X "list.append" rAppend) : MtR X "list.append" (L2m X.K hAppend) := mtImp h fun x xs H Q ⟨F, W, M, d, ds, Qd, r, rs, s, q, k⟩ => by
  unfold hAppend at q
  split at q
  · cases r
    obtain ⟨y, rfl, ry⟩ := rs.one
    obtain ⟨es, hm, hz, q⟩ := q
    obtain ⟨vs, hv, rv⟩ := s.list hm
    exact ⟨_, vs, y, rfl, rfl, hv, by rw [rv.length]; have := hz.le; rw [sizeLine_eq]; omega, k.putL s hm (rv.append (.cons ry .nil)) .non q⟩
  · exact q.elim
theorem mt_dextend (h : MtR X "list.extend" (rExtendL X.K)) : MtR X "list.extend" (L2m X.K hExtend) := mtImp h fun x xs H Q ⟨F, W, M, d, ds, Qd, r, rs, s, q, k⟩ => by
  unfold hExtend at q
  split at q
  · cases r
    rename_i p b
    obtain ⟨y, rfl, ry⟩ := rs.one
    cases ry
    obtain ⟨ds, es, hm, hb, hz, q⟩ := q
    obtain ⟨vs, hv, rv⟩ := s.list hm
    obtain ⟨ws, hw, rw'⟩ := s.list hb
    refine ⟨_, _, vs, ws, rfl, rfl, hv, SqL.of hw, by rw [rv.length, rw'.length]; exact hz.ok, ?_⟩
    have s2 := s.put hm (o := .lst (vs ++ ws)) (.lst (rv.append rw'))
    refine (k.mono (grow_put s hm)).now (s2.forget fun a o e => ?_) .non q
    unfold mput mdel at e
    unfold mput
    split at e
    · rename_i ea; rw [if_pos ea]; exact e
    · rename_i ea
      rw [if_neg ea]
      split at e
      · cases e
      · exact e
  · cases r
    obtain ⟨y, rfl, ry⟩ := rs.one
    cases ry with
    | lst hs rw' =>
      obtain ⟨ds, hm, hz, q⟩ := q
      obtain ⟨vs, hv, rv⟩ := s.list hm
      refine ⟨_, _, vs, _, rfl, rfl, hv, hs.sq, by rw [rv.length, rw'.length]; exact hz.ok, ?_⟩
      exact k.putL s hm (rv.append rw') .non q
  · exact q.elim
variable {o : Expr} {apos cpos : Pos} {name : Str} {id : String} {gm : Da → List Da → Mm → DK → Prop}
theorem li_me {K : PySem.W.Frag} {σ : L2.St} {H : Hp} {Q : VK} (h : Li (rE K) K (gMe gm f fs) σ H Q) : tBM K "list" (L2m K gm) (Li (rE K) K f) (Li (rA K) K fs) σ H Q := by
  obtain ⟨δ, F, W, M, Qd, ev, s, h, k⟩ := h
  refine ⟨δ, F, W, M, _, ev, s, h, fun v H1 W1 d M1 g1 s1 r1 q1 => ?_⟩
  obtain ⟨⟨p, ds, rfl, hm⟩, q1⟩ := q1
  cases r1
  obtain ⟨vs, hv, rv⟩ := s1.list hm
  exact ⟨.inl ⟨rfl, vs, SqL.of hv⟩, δ, F, W1, M1, _, ev.mono g1, s1, q1, fun us H2 W2 es M2 g2 s2 r2 q2 => ⟨F, W2, M2, _, es, Qd, .ref p, r2, s2, q2, k.mono (g1.trans g2)⟩⟩
theorem d_me (slot : Slot "list" name id) (hty : typeOf (.builtin id) = pure (.type "method_descriptor")) (hm : MtR X id (L2m X.K gm)) (ho : DE X o f) (ha : DA X (e :: es) fs)
    (hbase : attributeBase o name X.env (eval o X.env) = eval o X.env := by rfl)
    (hfew : ((backTo cpos (starEach (e :: es) X.env)).all (fun x => !x.1) && (backToKw cpos (keywordEach [] X.env)).all (fun x => x.1.isSome)
      && decide ((e :: es).length + ([] : List Keyword).length + (if ([] : List Keyword).isEmpty then 0 else 1) < 30)) = true := by rfl)
    (hline : (apos.endLine == cpos.line) = true := by rfl) (hs : starEach (e :: es) X.env = (false, eval e X.env) :: starEach es X.env := by rfl) (hplain : (backTo cpos (starEach es X.env)).any (·.1) = false := by rfl) :
    DE X (.Call (.Attribute o name apos) (e :: es) [] cpos) (gMe gm f fs) := imp (pe_bm PySem.F.plainAttrs_list slot hty hm ho ha hbase hfew hline hs hplain) fun _ _ _ h => li_me h
theorem d_append (ho : DE X o f) (ha : DA X (e :: es) fs)
    (hbase : attributeBase o "append" X.env (eval o X.env) = eval o X.env := by rfl)
    (hfew : ((backTo cpos (starEach (e :: es) X.env)).all (fun x => !x.1) && (backToKw cpos (keywordEach [] X.env)).all (fun x => x.1.isSome)
      && decide ((e :: es).length + ([] : List Keyword).length + (if ([] : List Keyword).isEmpty then 0 else 1) < 30)) = true := by rfl)
    (hline : (apos.endLine == cpos.line) = true := by rfl) (hs : starEach (e :: es) X.env = (false, eval e X.env) :: starEach es X.env := by rfl) (hplain : (backTo cpos (starEach es X.env)).any (·.1) = false := by rfl) :
    DE X (.Call (.Attribute o "append" apos) (e :: es) [] cpos) (gMe hAppend f fs) := d_me PySem.F.slot_list_append PySem.F.type_list_append (mt_dappend mt_append) ho ha hbase hfew hline hs hplain
theorem d_extend (ho : DE X o f) (ha : DA X (e :: es) fs)
    (hbase : attributeBase o "extend" X.env (eval o X.env) = eval o X.env := by rfl)
    (hfew : ((backTo cpos (starEach (e :: es) X.env)).all (fun x => !x.1) && (backToKw cpos (keywordEach [] X.env)).all (fun x => x.1.isSome)
      && decide ((e :: es).length + ([] : List Keyword).length + (if ([] : List Keyword).isEmpty then 0 else 1) < 30)) = true := by rfl)
    (hline : (apos.endLine == cpos.line) = true := by rfl) (hs : starEach (e :: es) X.env = (false, eval e X.env) :: starEach es X.env := by rfl) (hplain : (backTo cpos (starEach es X.env)).any (·.1) = false := by rfl) :
    DE X (.Call (.Attribute o "extend" apos) (e :: es) [] cpos) (gMe hExtend f fs) := d_me PySem.F.slot_list_extend PySem.F.type_list_extend (mt_dextend mt_extendL) ho ha hbase hfew hline hs hplain
end
/-- what the context takes of an exception -/
def EXm (X : Cx) : XK := fun cls d H => ∀ σ u s', XE X (fun c d' σ' H' => c = cls ∧ d' = d ∧ σ' = σ ∧ H' = H) u s' → X.xe u s'
theorem EXm.takes (X : Cx) : Takes X (fun cls d _ H => EXm X cls d H) := fun u s' ⟨a, B, sI, pins, σ, H, cls, d, e, I, nb, up, sky, na, os, ag, w⟩ =>
  w σ u s' ⟨a, B, sI, pins, σ, H, cls, d, e, I, nb, up, sky, na, os, ag, rfl, rfl, rfl, rfl⟩
theorem EXm.of {X : Cx} {W : WX} (tk : Takes X W) {cls : Value} {d : Option Addr} {H : Hp} (h : ∀ σ, σ.length = X.N.length → W cls d σ H) : EXm X cls d H := fun σ u s' ⟨a, B, sI, pins, σ', H', cls', d', e, I, nb, up, sky, na, os, ag, h1, h2, h3, h4⟩ => by
  subst h1 h2 h3 h4
  exact tk u s' ⟨a, B, sI, pins, σ', H', cls', d', e, I, nb, up, sky, na, os, ag, h _ I.len⟩
/-- an exception's own values -/
def XR (K : PySem.W.Frag) (W : Addr → Prop) (H : Hp) : Option Addr → List (Str × Da) → Prop
  | none, fs => fs = []
  | some a, fs => fs ≠ [] ∧ ∃ vs, W a ∧ H a = some (.xd vs) ∧ RF K W H vs fs
def KX (K : PySem.W.Frag) (F W : Addr → Prop) (H : Hp) (Ed : DX) (E : XK) : Prop :=
  ∀ cls d H' W' fs M', Grow F W H W' H' → Stt K F W' M' H' → XR K W' H' d fs → Ed cls fs M' → E cls d H'
theorem KX.mono {K : PySem.W.Frag} {F W W1 : Addr → Prop} {H H1 : Hp} {Ed : DX} {E : XK} (g : Grow F W H W1 H1) (k : KX K F W H Ed E) : KX K F W1 H1 Ed E :=
  fun c d H' W' fs M' g' => k c d H' W' fs M' (g.trans g')
structure DEnds where
  nx : De → Mm → Prop
  rt : DK
  bk : De → Mm → Prop := fun _ _ => False
  ct : De → Mm → Prop := fun _ _ => False
  ex : DX := fun _ _ _ => False
abbrev DTS := DEnds → De → Mm → Prop
def KE (K : PySem.W.Frag) (F W : Addr → Prop) (H : Hp) (Qd : De → Mm → Prop) (Q : L2.St → Hp → Prop) : Prop :=
  ∀ σ H' W' δ M', Grow F W H W' H' → Stt K F W' M' H' → EnvR K W' H' δ σ → Qd δ M' → Q σ H'
theorem KE.mono {K : PySem.W.Frag} {F W W1 : Addr → Prop} {H H1 : Hp} {Qd : De → Mm → Prop} {Q : L2.St → Hp → Prop} (g : Grow F W H W1 H1) (k : KE K F W H Qd Q) : KE K F W1 H1 Qd Q :=
  fun v H' W' d M' g' => k v H' W' d M' (g.trans g')
theorem KE.now {K : PySem.W.Frag} {F W : Addr → Prop} {H : Hp} {M : Mm} {Qd : De → Mm → Prop} {Q : L2.St → Hp → Prop} {σ : L2.St} {δ : De} (k : KE K F W H Qd Q) (s : Stt K F W M H) (e : EnvR K W H δ σ) (q : Qd δ M) : Q σ H := k σ H W δ M .refl s e q
structure KS (K : PySem.W.Frag) (E : XK) (F W : Addr → Prop) (H : Hp) (Dd : DEnds) (D : Ends) : Prop where
  nx : KE K F W H Dd.nx D.nx
  rt : Kt (rE K) K F W H Dd.rt D.rt
  bk : KE K F W H Dd.bk D.bk
  ct : KE K F W H Dd.ct D.ct
  ex : KX K F W H Dd.ex E
theorem KS.mono {K : PySem.W.Frag} {E : XK} {F W W1 : Addr → Prop} {H H1 : Hp} {Dd : DEnds} {D : Ends} (g : Grow F W H W1 H1) (k : KS K E F W H Dd D) : KS K E F W1 H1 Dd D := ⟨k.nx.mono g, k.rt.mono g, k.bk.mono g, k.ct.mono g, k.ex.mono g⟩
def LS (K : PySem.W.Frag) (E : XK) (f : DTS) : TS := fun D σ H => ∃ δ F W M Dd, EnvR K W H δ σ ∧ Stt K F W M H ∧ f Dd δ M ∧ KS K E F W H Dd D
def DS (X : Cx) (st : Stmt) (f : DTS) : Prop := PS X st (LS X.K (EXm X) f)
def DB (X : Cx) (st : List Stmt) (f : DTS) : Prop := PSs X st (LS X.K (EXm X) f)
theorem ps_imp {X : Cx} {st : Stmt} {t t' : TS} (h : PS X st t) (f : ∀ D σ H, t' D σ H → t D σ H) : PS X st t' := ⟨fun pins s σ H D I q => h.run pins s σ H D I (f D σ H q)⟩
theorem pss_imp {X : Cx} {st : List Stmt} {t t' : TS} (h : PSs X st t) (f : ∀ D σ H, t' D σ H → t D σ H) : PSs X st t' := ⟨fun pins s σ H D I q => h.run pins s σ H D I (f D σ H q)⟩
section
variable {X : Cx} {a b c e : Expr} {es : List Expr} {st : Stmt} {rest body : List Stmt} {fa fb fc f : DTE} {ft fu : DTT} {fs : DTA} {pos p : Pos} {t u : DTS}
def hNext : DTS := fun D δ M => D.nx δ M
def hSeq (t u : DTS) : DTS := fun D δ M => t { D with nx := u D } δ M
theorem z_nil : DB X [] hNext := pss_imp pss_nil fun D σ H ⟨δ, F, W, M, Dd, ev, s, h, k⟩ => k.nx.now s ev h
theorem z_one (h : DS X st t) : DB X [st] t := pss_one h
theorem z_cons (h1 : DS X st t) (h2 : DB X rest u) : DB X (st :: rest) (hSeq t u) := pss_imp (pss_cons h1 h2) fun D σ H ⟨δ, F, W, M, Dd, ev, s, h, k⟩ =>
  ⟨δ, F, W, M, _, ev, s, h, fun σ' H' W' δ' M' g s' e' q => ⟨δ', F, W', M', Dd, e', s', q, k.mono g⟩, k.rt, k.bk, k.ct, k.ex⟩
def hDrop (f : DTE) : DTS := fun D δ M => f δ M fun _ M1 => D.nx δ M1
theorem z_expr (he : DE X e f) (hs : swapsWith e none pos.line X.env = pure false := by rfl) : DS X (.Expr e pos) (hDrop f) := ps_imp (ps_expr he hs) fun D σ H ⟨δ, F, W, M, Dd, ev, s, h, k⟩ =>
  ⟨δ, F, W, M, _, ev, s, h, fun v H1 W1 d M1 g1 s1 r1 q1 => (k.nx.mono g1).now s1 (ev.mono g1) q1⟩
def hRet (f : DTE) : DTS := fun D δ M => f δ M D.rt
theorem z_ret (he : DE X e f) : DS X (.Return (some e) pos) (hRet f) := ps_imp (ps_ret he) fun D σ H ⟨δ, F, W, M, Dd, ev, s, h, k⟩ => ⟨δ, F, W, M, _, ev, s, h, k.rt⟩
def hIf (c : DTT) (t u : DTS) : DTS := fun D δ M => c δ M fun b M1 => if b = true then t D δ M1 else u D δ M1
theorem z_if {a b : List Stmt} (hc : DT X c ft) (ha : DB X a t) (hb : DB X b u) : DS X (.If c a b pos) (hIf ft t u) := ps_imp (ps_if hc ha hb) fun D σ H ⟨δ, F, W, M, Dd, ev, s, h, k⟩ =>
  ⟨δ, F, W, M, _, ev, s, h, fun v H1 W1 d M1 g1 s1 r1 q1 => by
    cases r1
    cases v with
    | true => exact ⟨δ, F, W1, M1, Dd, ev.mono g1, s1, q1, k.mono g1⟩
    | false => exact ⟨δ, F, W1, M1, Dd, ev.mono g1, s1, q1, k.mono g1⟩⟩
def hNever : DTS := fun _ _ _ => False
theorem z_never : DS X st hNever := ps_imp ps_never fun D σ H ⟨δ, F, W, M, Dd, ev, s, h, k⟩ => h.elim
abbrev DTG := Da → De → Mm → (De → Mm → Prop) → Prop
abbrev DTGs := List Da → De → Mm → (De → Mm → Prop) → Prop
def LG (K : PySem.W.Frag) (g : DTG) : TG := fun v σ H Q => ∃ δ F W M d Qd, EnvR K W H δ σ ∧ Stt K F W M H ∧ RD K W H v d ∧ g d δ M Qd ∧ KE K F W H Qd Q
def LGs (K : PySem.W.Frag) (g : DTGs) : TGs := fun vs σ H Q => ∃ δ F W M ds Qd, EnvR K W H δ σ ∧ Stt K F W M H ∧ RDs K W H vs ds ∧ g ds δ M Qd ∧ KE K F W H Qd Q
def DG (X : Cx) (t : Expr) (g : DTG) : Prop := PG X t (LG X.K g)
def DGs (X : Cx) (ts : List Expr) (g : DTGs) : Prop := PGs X ts (LGs X.K g)
theorem pg_imp {tg : Expr} {t t' : TG} (h : PG X tg t) (f : ∀ v σ H Q, t' v σ H Q → t v σ H Q) : PG X tg t' := ⟨fun pins s σ H v u Q I r q => h.run pins s σ H v u Q I r (f v σ H Q q)⟩
theorem pgs_imp {tg : List Expr} {t t' : TGs} (h : PGs X tg t) (f : ∀ v σ H Q, t' v σ H Q → t v σ H Q) : PGs X tg t' := ⟨fun pins s σ H v u Q I r q => h.run pins s σ H v u Q I r (f v σ H Q q)⟩
def hName (i : Nat) : DTG := fun d δ M Q => Q (δ.set i (some d)) M
theorem t_n (i : Nat) {x : Str} {pos : Pos} (hN : X.N.Nodup) (hi : X.N[i]? = some x := by rfl) (hx : Loc X.env.scope x := by first | exact Or.inl rfl | exact Or.inr rfl)
    (hf : X.fn x = true ∨ X.env.scope.names.lookup x = some .local := by first | exact .inl rfl | exact .inr rfl) : DG X (.Name x pos) (hName i) :=
  pg_imp (gn i hN hi hx hf) fun v σ H Q ⟨δ, F, W, M, d, Qd, ev, s, r, h, k⟩ => k.now s (ev.set r i) h
def hGnil : DTGs := fun ds δ M Q => match ds with
  | [] => Q δ M
  | _ => False
def hGcons (g : DTG) (gs : DTGs) : DTGs := fun ds δ M Q => match ds with
  | d :: ds => g d δ M fun δ1 M1 => gs ds δ1 M1 Q
  | [] => False
theorem t_nil : DGs X [] hGnil := pgs_imp pgs_nil fun vs σ H Q ⟨δ, F, W, M, ds, Qd, ev, s, r, h, k⟩ => by
  cases r with
  | nil => exact ⟨rfl, k.now s ev h⟩
  | cons _ _ => exact h.elim
theorem t_cons {g : DTG} {gs : DTGs} (h1 : DG X e g) (h2 : DGs X es gs) (hs : (assignEach (e :: es) X.env).map (·.2) = assign e X.env :: (assignEach es X.env).map (·.2) := by rfl) : DGs X (e :: es) (hGcons g gs) :=
  pgs_imp (pgs_cons h1 h2 hs) fun vs σ H Q ⟨δ, F, W, M, ds, Qd, ev, s, r, h, k⟩ => by
    cases r with
    | nil => exact h.elim
    | cons r rr => exact ⟨_, _, rfl, δ, F, W, M, _, _, ev, s, r, h, fun σ' H' W' δ' M' g' s' e' q => ⟨δ', F, W', M', _, Qd, e', s', rr.mono g', q, k.mono g'⟩⟩
def hGtup (n : Nat) (g : DTGs) : DTG := fun d δ M Q => match d with
  | .tup ds => ds.length = n ∧ g ds δ M Q
  | .lst ds => ds.length = n ∧ g ds δ M Q
  | .ref p => ∃ ds, M p = some (.lst ds) ∧ ds.length = n ∧ g ds δ M Q
  | _ => False
/-- several targets of either a tuple or a list -/
theorem pgCases {tg : Expr} {t : TG} (h : ∀ v σ H Q, t v σ H Q → ∃ t' : TG, PG X tg t' ∧ t' v σ H Q) : PG X tg t :=
  ⟨fun pins s σ H v u Q I r q => let ⟨_, o, q'⟩ := h v σ H Q q; o.run pins s σ H v u Q I r q'⟩
theorem t_tup {k : Nat} {g : DTGs} {n : Nat} (hc : X.calm = true) (h : DGs X es g) (hn : (assignEach es X.env).length = n := by rfl) (hst : (assignEach es X.env).findIdx? (·.1) = none := by rfl) : DG X (.Tuple es k pos) (hGtup n g) :=
  pgCases fun v σ H Q ⟨δ, F, W, M, d, Qd, ev, s, r, hq, k⟩ => by
    cases r with
    | tup hs rv => exact ⟨_, pg_tup hc h hn hst, _, _, rfl, hs.sq, by rw [rv.length]; exact hq.1, δ, F, W, M, _, Qd, ev, s, rv, hq.2, k⟩
    | lst hs rv => exact ⟨_, pg_lst hc h hn hst, _, _, rfl, hs.sq, by rw [rv.length]; exact hq.1, δ, F, W, M, _, Qd, ev, s, rv, hq.2, k⟩
    | ref p =>
      obtain ⟨ds, hm, h1, h2⟩ := hq
      obtain ⟨vs, hv, rv⟩ := s.list hm
      exact ⟨_, pg_lst hc h hn hst, _, _, rfl, SqL.of hv, by rw [rv.length]; exact h1, δ, F, W, M, _, Qd, ev, s, rv, h2, k⟩
    | _ => exact hq.elim
/-- p[i] = v on a list of the memory -/
def hSubT (fo fi : DTE) : DTG := fun d δ M Q => fo δ M fun o M1 => fi δ M1 fun i M2 => match o, i with
  | .ref p, .int k => ∃ xs j, M2 p = some (.lst xs) ∧ ixN xs.length k = some j ∧ Q δ (mput M2 p (.lst (xs.set j d)))
  | _, _ => False
theorem t_sub {o i : Expr} {fo fi : DTE} (ho : DE X o fo) (hi : DE X i fi)
    (ha : ∀ v, assign (.Subscript o i pos) X.env v = (do
      let ov ← holding [v] (eval o X.env)
      let iv ← holding [v, ov] (eval i X.env)
      standAt pos
      holding [v, ov, iv] (setItem ov iv v)
      release [v, ov, iv] []) := by intro _; rfl) : DG X (.Subscript o i pos) (hSubT fo fi) := pg_imp (pg_sub ho hi s_list ha) fun v σ H Q ⟨δ, F, W, M, d, Qd, ev, s, r, h, k⟩ =>
  ⟨δ, F, W, M, _, ev, s, h, fun v1 H1 W1 d1 M1 g1 s1 r1 q1 => ⟨δ, F, W1, M1, _, ev.mono g1, s1, q1, fun v2 H2 W2 d2 M2 g2 s2 r2 q2 => by
    have r1' := r1.mono g2
    cases r1' <;> cases r2 <;> first | exact q2.elim | skip
    rename_i p j
    obtain ⟨xs, n, hm, hn, q⟩ := q2
    obtain ⟨vs, hv, rv⟩ := s2.list hm
    have g3 := grow_put (o := .lst (vs.set n v)) s2 hm
    exact ⟨vs, n, hv, by rw [rv.length]; exact hn, (k.mono ((g1.trans g2).trans g3)).now (s2.put hm (.lst (rv.set n (r.mono (g1.trans g2))))) (ev.mono ((g1.trans g2).trans g3)) q⟩⟩⟩
def hAsg (f : DTE) (g : DTG) : DTS := fun D δ M => f δ M fun d M1 => g d δ M1 D.nx
theorem z_asg {tg : Expr} {g : DTG} (he : DE X e f) (hg : DG X tg g) (hs : swapsWithSole [tg] e pos.line X.env = pure false := by rfl) (hw : swappedStores [tg] e X.env = pure none := by rfl)
    (h1 : (assignEach [tg] X.env).map (·.2) = [assign tg X.env] := by rfl) : DS X (.Assign [tg] e pos) (hAsg f g) := ps_imp (ps_asg he hg hs hw h1) fun D σ H ⟨δ, F, W, M, Dd, ev, s, h, k⟩ =>
  ⟨δ, F, W, M, _, ev, s, h, fun v H1 W1 d M1 g1 s1 r1 q1 => ⟨δ, F, W1, M1, d, _, ev.mono g1, s1, r1, q1, k.nx.mono g1⟩⟩
theorem z_set (i : Nat) {x : Str} {pos' : Pos} (hN : X.N.Nodup) (he : DE X e f) (hi : X.N[i]? = some x := by rfl) (hx : Loc X.env.scope x := by first | exact Or.inl rfl | exact Or.inr rfl) (hs : swapsWith e (some (.Name x pos')) pos.line X.env = pure false := by rfl)
    (hf : X.fn x = true ∨ X.env.scope.names.lookup x = some .local := by first | exact .inl rfl | exact .inr rfl) : DS X (.Assign [.Name x pos'] e pos) (hAsg f (hName i)) := ps_imp (set i hN he hi hx hs hf) fun D σ H ⟨δ, F, W, M, Dd, ev, s, h, k⟩ =>
  ⟨δ, F, W, M, _, ev, s, h, fun v H1 W1 d M1 g1 s1 r1 q1 => (k.nx.mono g1).now s1 ((ev.mono g1).set r1 i) q1⟩
/-- x, y = a, b -/
def hPar (i j : Nat) (fs : DTA) : DTS := fun D δ M => fs δ M fun ds M1 => match ds with
  | [d, e] => D.nx ((δ.set i (some d)).set j (some e)) M1
  | _ => False
theorem li_par {i j : Nat} {E : XK} {D : Ends} {σ : L2.St} {H : Hp} (h : LS X.K E (hPar i j fs) D σ H) : tPar i j (Li (rA X.K) X.K fs) D σ H := by
  obtain ⟨δ, F, W, M, Dd, ev, s, h, k⟩ := h
  refine ⟨δ, F, W, M, _, ev, s, h, fun v H1 W1 d M1 g1 s1 r1 q1 => ?_⟩
  split at q1
  · obtain ⟨x, y, rfl, rx, ry⟩ := r1.two
    exact ⟨x, y, rfl, (k.nx.mono g1).now s1 (((ev.mono g1).set rx i).set ry j) q1⟩
  · exact q1.elim
/-- x op= e -/
def hAug (i : Nat) (f : DTE) (g : D2) : DTS := fun D δ M => match δ[i]? with
  | some (some x) => f δ M fun y M1 => g x y M1 fun z M2 => D.nx (δ.set i (some z)) M2
  | _ => False
theorem z_aug {i : Nat} {x : Str} {op : Operator} {g : D2} {pos' : Pos} (hN : X.N.Nodup) (hi : X.N[i]? = some x) (hx : Loc X.env.scope x) (he : DE X e f) (ho : PIp X op (L2o X.K g)) (hf : X.fn x = true ∨ X.env.scope.names.lookup x = some .local := by first | exact .inl rfl | exact .inr rfl | assumption) :
    DS X (.AugAssign (.Name x pos') op e pos) (hAug i f g) := ps_imp (ps_aug hN hi hx he ho hf) fun D σ H ⟨δ, F, W, M, Dd, ev, s, h, k⟩ => by
  unfold hAug at h
  split at h
  · rename_i d q
    obtain ⟨v, hv, r⟩ := ev.get q
    exact ⟨v, hv, δ, F, W, M, _, ev, s, h, fun y H1 W1 e1 M1 g1 s1 r1 q1 => ⟨F, W1, M1, d, e1, _, r.mono g1, r1, s1, q1, fun z H2 W2 e2 M2 g2 s2 r2 q2 => (k.nx.mono (g1.trans g2)).now s2 ((ev.mono (g1.trans g2)).set r2 i) q2⟩⟩
  · exact h.elim
theorem ipImp {op : Operator} {t t' : TIp} (h : PIp X op t) (f : ∀ x y H Q, t' x y H Q → t x y H Q) : PIp X op t' := fun pins s σ H x y v u Q I r1 r2 q => h pins s σ H x y v u Q I r1 r2 (f x y H Q q)
def hIadd : D2 := fun x y M Q => match x, y with
  | .int i, .int j => Q (.int (i + j)) M
  | _, _ => False
theorem i_add : PIp X .Add (L2o X.K hIadd) := ipImp ip_add fun x y H Q ⟨F, W, M, d, e, Qd, r1, r2, s, h, k⟩ => by
  cases r1 <;> cases r2 <;> first | exact h.elim | exact ⟨_, _, rfl, rfl, k.now s (.int _) h⟩
end
end U
set_option Elab.async false
set_option linter.all false
set_option maxRecDepth 100000
set_option maxHeartbeats 2000000
namespace U
open PySem PySem.Spec PyProof.Rows L2
abbrev NoF : Addr → Prop := fun _ => False
theorem Grow.noF {F W W' : Addr → Prop} {H H' : Hp} (g : Grow F W H W' H') : Grow NoF W H W' H' := ⟨g.w, g.h, fun _ z => z.elim⟩
/-- the iterator yields these -/
def ItR (K : PySem.W.Frag) (W : Addr → Prop) (H : Hp) (J : It) (ds : List Da) : Prop :=
  ∀ F' W' H' M', Grow NoF W H W' H' → Stt K F' W' M' H' →
    (∀ i d, ds[i]? = some d → J.go i H' ∧ ∀ x H'', J.yld i H' x H'' → ∃ W'', Grow F' W' H' W'' H'' ∧ Stt K F' W'' M' H'' ∧ RD K W'' H'' x d) ∧ ∀ i, ds.length ≤ i → J.stop i H'
theorem ItR.mono {K : PySem.W.Frag} {F W W1 : Addr → Prop} {H H1 : Hp} {J : It} {ds : List Da} (g : Grow F W H W1 H1) (h : ItR K W H J ds) : ItR K W1 H1 J ds :=
  fun F' W' H' M' g' s => h F' W' H' M' (g.noF.trans g') s
theorem it_list {K : PySem.W.Frag} {W : Addr → Prop} {H : Hp} {a : Addr} {vs : List V} {ds : List Da} (hs : Sl K W H a vs) (rv : RDs K W H vs ds) : ItR K W H (Itl K a) ds := fun F' W' H' M' g s => by
  have q := (hs.mono g).sq
  have rv' := rv.mono g
  refine ⟨fun i d hd => ?_, fun i hi => ⟨vs, q, by rw [rv'.length]; exact hi⟩⟩
  obtain ⟨v, hv, r⟩ := rv'.get hd
  refine ⟨⟨vs, v, q, hv⟩, fun x H'' y => ?_⟩
  obtain ⟨rfl, y⟩ := y
  have e := y vs q
  rw [hv] at e
  cases e
  exact ⟨W', .refl, s, r⟩
theorem it_tup {K : PySem.W.Frag} {W : Addr → Prop} {H : Hp} {a : Addr} {vs : List V} {ds : List Da} (hs : Sp' K W H a vs) (rv : RDs K W H vs ds) : ItR K W H (Itt K a) ds := fun F' W' H' M' g s => by
  have q := (hs.mono g).sq
  have rv' := rv.mono g
  refine ⟨fun i d hd => ?_, fun i hi => ⟨vs, q, by rw [rv'.length]; exact hi⟩⟩
  obtain ⟨v, hv, r⟩ := rv'.get hd
  refine ⟨⟨vs, v, q, hv⟩, fun x H'' y => ?_⟩
  obtain ⟨rfl, y⟩ := y
  have e := y vs q
  rw [hv] at e
  cases e
  exact ⟨W', .refl, s, r⟩
/-- lo, lo + 1, .. -/
def rngD (lo : Int) (n : Nat) : List Da := (List.range n).map fun i => Da.int (lo + (i : Nat))
theorem it_rng {K : PySem.W.Frag} {W : Addr → Prop} {H : Hp} (lo : Int) (n : Nat) : ItR K W H (Itr lo n) (rngD lo n) := fun F' W' H' M' g s => by
  have hl : (rngD lo n).length = n := by unfold rngD; rw [List.length_map, List.length_range]
  refine ⟨fun i d hd => ?_, fun i hi => by rw [hl] at hi; exact hi⟩
  have hi : i < n := by have := (List.getElem?_eq_some_iff.mp hd).1; rw [hl] at this; exact this
  refine ⟨hi, fun x H'' y => ?_⟩
  obtain ⟨rfl, rfl⟩ := y
  unfold rngD at hd
  rw [List.getElem?_map, List.getElem?_range hi] at hd
  cases hd
  exact ⟨W', .refl, s, .int _⟩
def chrD (x : Str) : List Da := x.cps.toList.map fun c => Da.str ⟨#[c]⟩
theorem it_str {K : PySem.W.Frag} {W : Addr → Prop} {H : Hp} (x : Str) : ItR K W H (Its x) (chrD x) := fun F' W' H' M' g s => by
  have hl : (chrD x).length = x.cps.size := by unfold chrD; rw [List.length_map]; exact Array.length_toList
  refine ⟨fun i d hd => ?_, fun i hi => by rw [hl] at hi; exact hi⟩
  have hi : i < x.cps.size := by have := (List.getElem?_eq_some_iff.mp hd).1; rw [hl] at this; exact this
  refine ⟨hi, fun y H'' z => ?_⟩
  obtain ⟨rfl, c, hc, rfl⟩ := z
  unfold chrD at hd
  rw [List.getElem?_map, Array.getElem?_toList, hc] at hd
  cases hd
  exact ⟨W', .refl, s, .str _⟩
def zipD : List Da → List Da → List Da
  | d :: ds, e :: es => .tup [d, e] :: zipD ds es
  | _, _ => []
theorem zipD_get : ∀ {ds es : List Da} {i : Nat} {x : Da}, (zipD ds es)[i]? = some x → ∃ d e, ds[i]? = some d ∧ es[i]? = some e ∧ x = .tup [d, e]
  | [], _, _, _, h => by simp [zipD] at h
  | _ :: _, [], _, _, h => by simp [zipD] at h
  | d :: ds, e :: es, 0, x, h => by
    simp [zipD] at h
    exact ⟨d, e, rfl, rfl, h.symm⟩
  | d :: ds, e :: es, i + 1, x, h => by
    obtain ⟨y, z, h1, h2, h3⟩ := zipD_get (ds := ds) (es := es) (i := i) (by simpa [zipD] using h)
    exact ⟨y, z, by simpa using h1, by simpa using h2, h3⟩
theorem zipD_length : ∀ (ds es : List Da), (zipD ds es).length = min ds.length es.length
  | [], es => by simp [zipD]
  | _ :: _, [] => by simp [zipD]
  | d :: ds, e :: es => by rw [zipD, List.length_cons, List.length_cons, List.length_cons, zipD_length ds es]; omega
abbrev DTI := DR (List Da)
def LI (K : PySem.W.Frag) (f : DTI) : TI := fun σ H R => ∃ δ F W M Qd, EnvR K W H δ σ ∧ Stt K F W M H ∧ f δ M Qd ∧ ∀ J H' W' M' ds, Grow F W H W' H' → Stt K F W' M' H' → ItR K W' H' J ds → Qd ds M' → R J H'
def DI (X : Cx) (tg iter : Expr) (f : DTI) : Prop := PI X tg iter (LI X.K f)
theorem pi_imp {X : Cx} {tg e : Expr} {t t' : TI} (h : PI X tg e t) (f : ∀ σ H R, t' σ H R → t σ H R) : PI X tg e t' := ⟨fun pins s σ H R I q => h.run pins s σ H R I (f σ H R q)⟩
section
variable {X : Cx} {tg a b c e : Expr} {es : List Expr} {st : Stmt} {rest body : List Stmt} {fa fb fc f : DTE} {ft fu : DTT} {fs : DTA} {pos p : Pos} {t u : DTS} {di : DTI}
/-- any row, a text -/
def iAny (K : PySem.W.Frag) (tl : TE) : TI := fun σ H R => tl σ H fun x H1 => match x with
  | .str z => R (Its z) H1
  | .ref a => ((∃ xs, SqL K H1 a xs) ∧ R (Itl K a) H1) ∨ ((∃ xs, SqT K H1 a xs) ∧ R (Itt K a) H1)
  | _ => False
theorem pi_any {l : Expr} {tl : TE} (hl : PE X l tl) : PI X tg l (iAny X.K tl) := by
  refine ⟨fun pins s σ H R I h => ?_⟩
  refine thn (hl.run pins s σ H _ I h) fun v s1 ⟨x, H1, I1, r1, q1⟩ => ?_
  cases x <;> first | exact q1.elim | skip
  · rename_i z
    obtain ⟨t, rfl⟩ := r1
    cases ha : z.cps.all (· < 128)
    · exact wpAny_pyIter_wide ha (pi_one (tk := s1.toks) I1 _ (turn_str _ z t "str_iterator" (.inr rfl)) ⟨_, Heap.get?_push_size _ rfl, rfl, rfl⟩ q1)
    · exact wpAny_pyIter_ascii ha (pi_one (tk := s1.toks) I1 _ (turn_str _ z t "str_ascii_iterator" (.inl rfl)) ⟨_, Heap.get?_push_size _ rfl, rfl, rfl⟩ q1)
  · rename_i a
    cases r1
    rcases q1 with ⟨⟨xs, hq⟩, q⟩ | ⟨⟨xs, hq⟩, q⟩
    · obtain ⟨its, rv, p, hz⟩ := I1.list hq
      refine wpAny_pyIter_list p.isList ?_
      refine ⟨s1.heap.objs.size, [s1.heap.objs.size], _, _, H1, rfl, I1.kept (t' := s1.toks) fun b o e => Heap.get?_push_of_some _ e, turn_list a _, ⟨_, Heap.get?_push_size _ rfl, rfl, rfl⟩, fun b hb => ?_, q⟩
      have e : b = s1.heap.objs.size := by simpa using hb
      subst e
      exact I1.fpOk (Nat.le_refl _) (I1.hok.fresh (Nat.le_refl _))
    · obtain ⟨its, rv, p, hz⟩ := I1.tuple hq
      refine wpAny_pyIter_tuple (show s1.heap.IsTuple a its.toArray from p) ?_
      refine ⟨s1.heap.objs.size, [s1.heap.objs.size], _, _, H1, rfl, I1.kept (t' := s1.toks) fun b o e => Heap.get?_push_of_some _ e, turn_tuple a _, ⟨_, Heap.get?_push_size _ rfl, rfl, rfl⟩, fun b hb => ?_, q⟩
      have e : b = s1.heap.objs.size := by simpa using hb
      subst e
      exact I1.fpOk (Nat.le_refl _) (I1.hok.fresh (Nat.le_refl _))
def gIt (f : DTE) : DTI := fun δ M Q => f δ M fun x M1 => match x with
  | .lst ds => Q ds M1
  | .tup ds => Q ds M1
  | .str z => Q (chrD z) M1
  | .ref p => ∃ ds, M1 p = some (.lst ds) ∧ Q ds (mdel M1 p)
  | _ => False
theorem d_it (h : DE X e f) : DI X tg e (gIt f) := pi_imp (pi_any h) fun σ H R ⟨δ, F, W, M, Qd, ev, s, h, k⟩ => ⟨δ, F, W, M, _, ev, s, h, fun v H1 W1 d M1 g1 s1 r1 q1 => by
  cases r1 with
  | lst hs rv => exact .inl ⟨⟨_, hs.sq⟩, k _ _ W1 M1 _ g1 s1 (it_list hs rv) q1⟩
  | tup hs rv => exact .inr ⟨⟨_, hs.sq⟩, k _ _ W1 M1 _ g1 s1 (it_tup hs rv) q1⟩
  | str z => exact k _ _ W1 M1 _ g1 s1 (it_str z) q1
  | ref p =>
    obtain ⟨ds, hm, q⟩ := q1
    obtain ⟨s2, g2⟩ := s1.settle hm
    obtain ⟨vs, hv, rv⟩ := s1.list hm
    exact .inl ⟨⟨_, SqL.of hv⟩, k _ _ _ _ _ (g1.trans g2) s2 (it_list (.inl ⟨.inl rfl, .inl hv⟩) (rv.mono g2)) q⟩
  | _ => exact q1.elim⟩
/-- a range -/
def Rok (i : Int) : Prop := -(2 ^ 62) ≤ i ∧ i < 2 ^ 62
def gRg1 (fs : DTA) : DTI := fun δ M Q => fs δ M fun ds M1 => match ds with
  | [.int j] => Rok j ∧ Q (rngD 0 j.toNat) M1
  | _ => False
theorem d_rg1 (hm : X.mg "range" = none) (ha : DA X [a] fs) (hg : Gl X "range" := by rfl) (hs : starEach [a] X.env = [(false, eval a X.env)] := by rfl) : DI X tg (.Call (.Name "range" p) [a] [] pos) (gRg1 fs) :=
  pi_imp (pi_range1 hg hm ha hs) fun σ H R ⟨δ, F, W, M, Qd, ev, s, h, k⟩ => ⟨δ, F, W, M, _, ev, s, h, fun vs H1 W1 ds M1 g1 s1 r1 q1 => by
    split at q1
    · obtain ⟨v, rfl, r⟩ := r1.one
      cases r
      exact ⟨_, rfl, q1.1.1, q1.1.2, k _ _ W1 M1 _ g1 s1 (it_rng _ _) q1.2⟩
    · exact q1.elim⟩
def forD (g : DTG) (tb : DTS) (D : DEnds) : List Da → De → Mm → Prop
  | [], δ, M => D.nx δ M
  | d :: ds, δ, M => g d δ M fun δ2 M2 => tb { D with nx := forD g tb D ds, ct := forD g tb D ds, bk := D.nx } δ2 M2
def hFor (di : DTI) (g : DTG) (tb : DTS) : DTS := fun D δ M => di δ M fun ds M1 => forD g tb D ds δ M1
theorem z_for {g : DTG} {tb : DTS} (hp : PassesOwn (model X.prog X.w) X.A X.env X.xe) (hc : X.calm = true) (hi : DI X tg e di) (hg : DG X tg g) (hb : DB X body tb)
    (hs : ∀ x, foldedSetIterable e X.env x = pure x := by intro _; rfl) : DS X (.For tg e body [] pos) (hFor di g tb) := ps_imp (ps_for hp hc hi hg hb hs) fun D σ H ⟨δ, F, W, M, Dd, ev, s, h, k⟩ => by
  refine ⟨δ, F, W, M, _, ev, s, h, fun J H1 W1 M1 ds g1 s1 ij q => ?_⟩
  let Pv : Nat → L2.St → Hp → Prop := fun i σ H => ∃ δ W2 M2, Grow F W1 H1 W2 H ∧ Stt X.K F W2 M2 H ∧ EnvR X.K W2 H δ σ ∧ forD g tb Dd (ds.drop i) δ M2
  refine ⟨fun i m σ H => m = ds.length - i ∧ i ≤ ds.length ∧ Pv i σ H, ⟨ds.length, by simp, Nat.zero_le _, δ, W1, M1, .refl, s1, ev.mono g1, q⟩, ?_⟩
  rintro i m σ2 H2 ⟨rfl, hi, δ2, W2, M2, g2, s2, ev2, q2⟩
  obtain ⟨go, stop⟩ := ij F W2 H2 M2 g2.noF s2
  by_cases hlt : i < ds.length
  · have hd : ds[i]? = some ds[i] := List.getElem?_eq_getElem hlt
    obtain ⟨go1, go2⟩ := go i _ hd
    refine .inr ⟨go1, Pv (i + 1), fun σ' H' p' => ⟨ds.length - (i + 1), by omega, rfl, hlt, p'⟩, fun x H3 y => ?_⟩
    obtain ⟨W3, g3, s3, r3⟩ := go2 x H3 y
    rw [List.drop_eq_getElem_cons hlt] at q2
    refine ⟨δ2, F, W3, M2, _, _, ev2.mono g3, s3, r3, q2, fun σ4 H4 W4 δ4 M4 g4 s4 e4 q4 => ?_⟩
    have gg := g2.trans (g3.trans g4)
    have nx : KE X.K F W4 H4 (forD g tb Dd (ds.drop (i + 1))) (Pv (i + 1)) := fun σ5 H5 W5 δ5 M5 g5 s5 e5 q5 => ⟨δ5, W5, M5, gg.trans g5, s5, e5, q5⟩
    exact ⟨δ4, F, W4, M4, _, e4, s4, q4, nx, (k.mono (g1.trans gg)).rt, (k.mono (g1.trans gg)).nx, nx, (k.mono (g1.trans gg)).ex⟩
  · have e : i = ds.length := by omega
    subst e
    rw [List.drop_length] at q2
    exact .inl ⟨stop _ (Nat.le_refl _), (k.nx.mono (g1.trans g2)).now s2 ev2 q2⟩
def whD (c : DTT) (tb : DTS) (D : DEnds) : Nat → De → Mm → Prop
  | 0, _, _ => False
  | n + 1, δ, M => c δ M fun b M1 => if b = true then tb { D with nx := whD c tb D n, ct := whD c tb D n, bk := D.nx } δ M1 else D.nx δ M1
def hWhile (c : DTT) (tb : DTS) : DTS := fun D δ M => ∃ n, whD c tb D n δ M
theorem z_while {tb : DTS} (hp : PassesOwn (model X.prog X.w) X.A X.env X.xe) (hc : DT X c ft) (hb : DB X body tb) : DS X (.While c body [] pos) (hWhile ft tb) := ps_imp (ps_while hp hc hb) fun D σ H ⟨δ, F, W, M, Dd, ev, s, ⟨n, h⟩, k⟩ => by
  let Pv : Nat → L2.St → Hp → Prop := fun i σ H1 => ∃ δ W2 M2, Grow F W H W2 H1 ∧ Stt X.K F W2 M2 H1 ∧ EnvR X.K W2 H1 δ σ ∧ whD ft tb Dd i δ M2
  refine ⟨Pv, ⟨n, δ, W, M, .refl, s, ev, h⟩, ?_⟩
  rintro m σ2 H2 ⟨δ2, W2, M2, g2, s2, ev2, q2⟩
  cases m with
  | zero => exact q2.elim
  | succ m =>
    refine ⟨δ2, F, W2, M2, _, ev2, s2, q2, fun b H3 W3 d M3 g3 s3 r3 q3 => ?_⟩
    cases r3
    have gg := g2.trans g3
    cases b with
    | true =>
      have nx : KE X.K F W3 H3 (whD ft tb Dd m) (Pv m) := fun σ5 H5 W5 δ5 M5 g5 s5 e5 q5 => ⟨δ5, W5, M5, gg.trans g5, s5, e5, q5⟩
      exact ⟨Pv m, fun σ' H' p => ⟨m, Nat.lt_succ_self _, p⟩, δ2, F, W3, M3, _, ev2.mono g3, s3, q3, nx, (k.mono gg).rt, (k.mono gg).nx, nx, (k.mono gg).ex⟩
    | false => exact (k.nx.mono gg).now s3 (ev2.mono g3) q3
end
end U
set_option Elab.async false
set_option linter.all false
set_option maxRecDepth 100000
set_option maxHeartbeats 2000000
namespace U
open PySem PySem.Spec PyProof.Rows L2
/-- a comprehension's target: a name, a tuple of names -/
inductive CT where
  | n (i : Nat) | t (is : List Nat)
def CT.slots : CT → List Nat
  | .n i => [i]
  | .t is => is
def setsV : List Nat → TGs
  | [] => L2.gNil
  | i :: is => L2.gCons (L2.gName i) (setsV is)
def CT.tg (K : PySem.W.Frag) : CT → TG
  | .n i => gName i
  | .t is => L2.gTup K is.length (setsV is)
/-- the slots set -/
def setsD : List Nat → List Da → De → De
  | i :: is, d :: ds, δ => setsD is ds (δ.set i (some d))
  | _, _, δ => δ
def CT.ok : CT → Da → Prop
  | .n _, _ => True
  | .t is, .tup ds => ds.length = is.length
  | .t _, _ => False
def CT.set : CT → Da → De → De
  | .n i, d, δ => δ.set i (some d)
  | .t is, .tup ds, δ => setsD is ds δ
  | .t _, _, δ => δ
def wipeD (δ : De) : List Nat → De
  | [] => δ
  | v :: vs => (wipeD δ vs).set v none
theorem EnvR.wipe {K : PySem.W.Frag} {W : Addr → Prop} {H : Hp} {δ : De} {σ : L2.St} (e : EnvR K W H δ σ) : ∀ vs : List Nat, EnvR K W H (wipeD δ vs) (wipe σ vs)
  | [] => e
  | v :: vs => (EnvR.wipe e vs).del v
theorem wipe_set_in {x : Option V} {i : Nat} : ∀ {vs : List Nat} {σ : L2.St}, i ∈ vs → wipe (σ.set i x) vs = wipe σ vs
  | [], _, h => by simp at h
  | v :: vs, σ, h => by
    show (wipe (σ.set i x) vs).set v none = (wipe σ vs).set v none
    by_cases hm : i ∈ vs
    · rw [wipe_set_in hm]
    · have e : i = v := by
        rcases List.mem_cons.mp h with e | e
        · exact e
        · exact absurd e hm
      subst e
      have : ∀ (ws : List Nat) (σ : L2.St), i ∉ ws → wipe (σ.set i x) ws = (wipe σ ws).set i x := by
        intro ws
        induction ws with
        | nil => intro σ _; rfl
        | cons w ws ih =>
          intro σ hn
          have hn' : ¬ i = w ∧ i ∉ ws := by simpa using hn
          show (wipe (σ.set i x) ws).set w none = ((wipe σ ws).set w none).set i x
          rw [ih σ hn'.2, List.set_comm _ _ hn'.1]
      rw [this vs σ hm, List.set_set]
theorem wipe_wipe : ∀ (vs ws : List Nat) (σ : L2.St), (∀ v ∈ vs, v ∈ ws) → wipe (wipe σ vs) ws = wipe σ ws
  | [], _, _, _ => rfl
  | v :: vs, ws, σ, h => by
    show wipe ((wipe σ vs).set v none) ws = _
    rw [wipe_set_in (h v List.mem_cons_self), wipe_wipe vs ws σ fun u hu => h u (List.mem_cons_of_mem _ hu)]
section
variable {K : PySem.W.Frag} {W : Addr → Prop} {H : Hp}
theorem setsV_ok {ws : List Nat} : ∀ {is : List Nat} {vs : List V} {ds : List Da} {δ : De} {σ : L2.St} {Q : L2.St → Hp → Prop}, (∀ i ∈ is, i ∈ ws) → ds.length = is.length → RDs K W H vs ds → EnvR K W H δ σ →
    (∀ σ2, wipe σ2 ws = wipe σ ws → EnvR K W H (setsD is ds δ) σ2 → Q σ2 H) → setsV is vs σ H Q
  | [], vs, ds, δ, σ, Q, _, hl, rv, ev, q => by
    have : ds = [] := List.eq_nil_of_length_eq_zero hl
    subst this
    cases rv with
    | nil => exact ⟨rfl, q σ rfl ev⟩
  | i :: is, vs, ds, δ, σ, Q, hm, hl, rv, ev, q => by
    cases rv with
    | nil => simp at hl
    | cons r rr =>
      refine ⟨_, _, rfl, ?_⟩
      refine setsV_ok (fun j hj => hm j (List.mem_cons_of_mem _ hj)) (by simpa using hl) rr (ev.set r i) fun σ2 e1 e2 => q σ2 ?_ e2
      rw [e1, wipe_set_in (hm i List.mem_cons_self)]
theorem ct_ok {c : CT} {ws : List Nat} {v : V} {d : Da} {δ : De} {σ : L2.St} {Q : L2.St → Hp → Prop} (hm : ∀ i ∈ c.slots, i ∈ ws) (ho : c.ok d) (r : RD K W H v d) (ev : EnvR K W H δ σ)
    (q : ∀ σ2, wipe σ2 ws = wipe σ ws → EnvR K W H (c.set d δ) σ2 → Q σ2 H) : c.tg K v σ H Q := by
  cases c with
  | n i => exact q _ (wipe_set_in (hm i (by simp [CT.slots]))) (ev.set r i)
  | t is =>
    cases d with
    | tup ds =>
      cases r with
      | tup hs rv => exact ⟨_, _, rfl, hs.sq, by rw [rv.length]; exact ho, setsV_ok hm ho rv ev q⟩
    | _ => exact ho.elim
end
/-- [te for c in .. if tt] -/
def lcD (c : CT) (tt : DTT) (te : DTE) (δ : De) : List Da → (List Da → Mm → Prop) → Mm → Prop
  | [], k, M => k [] M
  | d :: ds, k, M => c.ok d ∧ tt (c.set d δ) M fun b M2 => if b = true then te (c.set d δ) M2 fun y M3 => lcD c tt te δ ds (fun ys M4 => k (y :: ys) M4) M3 else lcD c tt te δ ds k M2
def gYes : DTT := fun _ M Q => Q true M
def gLc (di : DTI) (c : CT) (tt : DTT) (te : DTE) (vs : List Nat) : DTE := fun δ M Q => di δ M fun ds M1 => Sz ds.length ∧ lcD c tt te (wipeD δ vs) ds (fun ys M2 => Q (.lst ys) M2) M1
def gLcM (di : DTI) (c : CT) (tt : DTT) (te : DTE) (vs : List Nat) : DTE := fun δ M Q => di δ M fun ds M1 => Sz ds.length ∧ lcD c tt te (wipeD δ vs) ds (fun ys M2 => ∀ p, M2 p = none → Q (.ref p) (mput M2 p (.lst ys))) M1
/-- with one more address of another's -/
def fadd (F : Addr → Prop) (p : Addr) : Addr → Prop := fun a => a = p ∨ F a
section
variable {K : PySem.W.Frag} {F W : Addr → Prop} {H : Hp} {M : Mm} {p : Addr}
theorem Stt.addF (s : Stt K F W M H) (h : H p = none) (o : HO) : Stt K (fadd F p) W M (upd H p o) := by
  have s2 := s.junk h o
  refine ⟨s2.wf, fun a w => ?_, s2.dis, s2.mem, s2.pl⟩
  rcases w with w | w
  · subst w; exact ⟨s.freeW h, s.freeM h, _, upd_same⟩
  · exact s2.fr a w
/-- another's thing is changed by its owner -/
theorem Stt.chgF (s : Stt K (fadd F p) W M H) (o : HO) : Stt K (fadd F p) W M (upd H p o) ∧ Grow NoF W H W (upd H p o) := by
  have hp := s.fr p (.inl rfl)
  have g : Grow NoF W H W (upd H p o) := ⟨fun _ h => h, fun a w => upd_ne (fun e => hp.1 (e ▸ w)), fun _ z => z.elim⟩
  refine ⟨⟨fun a w => ?_, fun a w => ⟨(s.fr a w).1, (s.fr a w).2.1, ?_⟩, s.dis, fun a u e => ?_, fun a u w e => by rw [g.h a w] at e; exact s.pl a u w e⟩, g⟩
  · rw [g.h a w]; exact s.wf a w
  · by_cases e : a = p
    · subst e; exact ⟨o, upd_same⟩
    · rw [upd_ne e]; exact (s.fr a w).2.2
  · have ne : a ≠ p := fun z => by subst z; rw [hp.2.1] at e; cases e
    obtain ⟨x, q, r⟩ := s.mem a u e
    exact ⟨x, by rw [upd_ne ne]; exact q, r.mono g⟩
/-- .. becomes settled, or a thing of the memory -/
theorem Stt.endW (s : Stt K (fadd F p) W M H) (hF : ¬ F p) (hn : ∀ o, H p = some o → NT o) : Stt K F (wadd W p) M H ∧ Grow F W H (wadd W p) H := by
  obtain ⟨h1, h2, o, h3⟩ := s.fr p (.inl rfl)
  have g : Grow F W H (wadd W p) H := ⟨fun _ h => .inr h, fun _ _ => rfl, fun _ _ => rfl⟩
  refine ⟨⟨fun a w => ?_, fun a w => ⟨?_, (s.fr a (.inr w)).2.1, (s.fr a (.inr w)).2.2⟩, fun a u e w => ?_, fun a u e => ?_, fun a u w e => w.elim (fun z => hn u (z ▸ e)) fun w => s.pl a u w e⟩, g⟩
  · rcases w with w | w
    · subst w; exact ⟨o, h3⟩
    · exact s.wf a w
  · rintro (e | e)
    · subst e; exact hF w
    · exact (s.fr a (.inr w)).1 e
  · rcases w with w | w
    · subst w; rw [h2] at e; cases e
    · exact s.dis a u e w
  · obtain ⟨x, q, r⟩ := s.mem a u e
    exact ⟨x, q, r.mono g⟩
theorem Stt.endM (s : Stt K (fadd F p) W M H) (hF : ¬ F p) {u : MO} {o : HO} (ho : H p = some o) (r : MR K W H u o) : Stt K F W (mput M p u) H := by
  obtain ⟨h1, h2, _⟩ := s.fr p (.inl rfl)
  refine ⟨s.wf, fun a w => ⟨(s.fr a (.inr w)).1, ?_, (s.fr a (.inr w)).2.2⟩, fun a v e w => ?_, fun a v e => ?_, s.pl⟩
  · rw [mput_ne (show a ≠ p from fun e => hF (e ▸ w))]; exact (s.fr a (.inr w)).2.1
  · by_cases q : a = p
    · subst q; exact h1 w
    · rw [mput_ne q] at e; exact s.dis a v e w
  · by_cases q : a = p
    · subst q; rw [mput_same] at e; cases e; exact ⟨o, ho, r⟩
    · rw [mput_ne q] at e; exact s.mem a v e
end
/-- a grown heap, but for one address that was free -/
theorem grow_drop {F W W' W2 : Addr → Prop} {H H1 H2 : Hp} {p : Addr} (g : Grow F W H W' H1) (g2 : Grow (fadd F p) W' H1 W2 H2) : Grow F W H W2 H2 := g.trans (g2.less fun a h => .inr h)
section
variable {X : Cx} {tg elt iter : Expr} {ifs : List Expr} {scope : Scope} {own : List (Str × Nat)} {pos spos py : Pos} {di : DTI} {c : CT} {tt : DTT} {te : DTE} {y : Str} {i : Nat}
theorem li_lc {K : PySem.W.Frag} {vs : List Nat} (hv : ∀ i ∈ c.slots, i ∈ vs) {σ : L2.St} {H : Hp} {Q : VK} (M2 : Bool) (h : Li (rE K) K (if M2 = true then gLcM di c tt te vs else gLc di c tt te vs) σ H Q) : tLc (LI K di) (c.tg K) (Li rT K tt) (Li (rE K) K te) vs σ H Q := by
  obtain ⟨δ, F, W, M, Qd, ev, s, h, k⟩ := h
  -- the wanted end, of the row
  have h' : di δ M fun ds M1 => Sz ds.length ∧ lcD c tt te (wipeD δ vs) ds (fun ys M2' => if M2 = true then ∀ p, M2' p = none → Qd (.ref p) (mput M2' p (.lst ys)) else Qd (.lst ys) M2') M1 := by
    cases M2 <;> exact h
  clear h
  refine ⟨δ, F, W, M, _, ev, s, h', fun J H1 W1 M1 ds g1 s1 ij ⟨hz, q⟩ D hD => ?_⟩
  have hFD : ¬ F D := s1.freeF hD
  let Kf : List Da → Mm → Prop := fun ys M2' => if M2 = true then ∀ p, M2' p = none → Qd (.ref p) (mput M2' p (.lst ys)) else Qd (.lst ys) M2'
  let Pv : Nat → Hp → Prop := fun i H2 => ∃ W2 Md ac acc, Grow F W1 H1 W2 H2 ∧ Stt K (fadd F D) W2 Md H2 ∧ H2 D = some (.lst ac) ∧ RDs K W2 H2 ac acc ∧ acc.length ≤ i ∧ lcD c tt te (wipeD δ vs) (ds.drop i) (fun ys M4 => Kf (acc ++ ys) M4) Md
  refine ⟨fun i m H2 => m = ds.length - i ∧ i ≤ ds.length ∧ Pv i H2, ⟨ds.length, by simp, Nat.zero_le _, W1, M1, [], [], grow_new s1 hD, s1.addF hD _, upd_same, .nil, Nat.le_refl _, q⟩, ?_⟩
  rintro i m H2 ⟨rfl, hi, W2, Md, ac, acc, g2, s2, hac, rac, hal, q2⟩
  obtain ⟨go, stop⟩ := ij (fadd F D) W2 H2 Md g2.noF s2
  by_cases hlt : i < ds.length
  · have hd : ds[i]? = some ds[i] := List.getElem?_eq_getElem hlt
    obtain ⟨go1, go2⟩ := go i _ hd
    refine .inr ⟨go1, Pv (i + 1), fun H' p' => ⟨ds.length - (i + 1), by omega, rfl, hlt, p'⟩, fun x H3 y => ?_⟩
    obtain ⟨W3, g3, s3, r3⟩ := go2 x H3 y
    rw [List.drop_eq_getElem_cons hlt] at q2
    obtain ⟨ok, q2⟩ := q2
    have e3 : EnvR K W3 H3 (wipeD δ vs) (wipe σ vs) := (ev.mono (grow_drop (g1.trans g2) g3)).wipe vs
    refine ct_ok hv ok r3 e3 fun σ2 hw ev2 => ⟨by rw [hw, wipe_wipe vs vs σ fun _ h => h], _, fadd F D, W3, Md, _, ev2, s3, q2, fun b H4 W4 b' M4 g4 s4 eb q4 => ?_⟩
    cases eb
    have gg := g3.trans g4
    cases b with
    | false =>
      refine ⟨W4, M4, ac, acc, grow_drop g2 gg, s4, ?_, rac.mono gg, Nat.le_succ_of_le hal, q4⟩
      rw [gg.f D (.inl rfl)]; exact hac
    | true =>
      refine ⟨_, fadd F D, W4, M4, _, ev2.mono g4, s4, q4, fun v H5 W5 d M5 g5 s5 r5 q5 => ⟨ac, ?_, ?_, ?_⟩⟩
      · rw [(gg.trans g5).f D (.inl rfl)]; exact hac
      · rw [rac.length]; have := hz.le; rw [sizeLine_eq]; omega
      · obtain ⟨s6, g6⟩ := s5.chgF (.lst (ac ++ [v]))
        have g7 : Grow F W2 H2 W5 H5 := (gg.trans g5).less fun a h => .inr h
        refine ⟨W5, M5, ac ++ [v], acc ++ [d], ?_, s6, upd_same, ((rac.mono (gg.trans g5)).append (.cons r5 .nil)).mono g6, by rw [List.length_append, List.length_singleton]; omega, ?_⟩
        · have g8 := g2.trans g7
          refine ⟨g8.w, fun a w => ?_, fun a w => ?_⟩
          · rw [upd_ne (s1.neW hD w)]; exact g8.h a w
          · rw [upd_ne (s1.neF hD w)]; exact g8.f a w
        · have e : (fun ys M4 => Kf (acc ++ [d] ++ ys) M4) = fun ys M4 => Kf (acc ++ d :: ys) M4 := by funext ys M4; rw [List.append_assoc]; rfl
          rw [e]; exact q5
  · have e : i = ds.length := by omega
    subst e
    rw [List.drop_length] at q2
    have q3 : Kf acc Md := by have : Kf (acc ++ []) Md := q2; rwa [List.append_nil] at this
    refine .inl ⟨stop _ (Nat.le_refl _), ?_⟩
    cases M2 with
    | true =>
      have q4 : ∀ p, Md p = none → Qd (.ref p) (mput Md p (.lst acc)) := q3
      exact (k.mono (g1.trans g2)).now (s2.endM hFD hac (.lst rac)) (.ref D) (q4 D (s2.fr D (.inl rfl)).2.1)
    | false =>
      obtain ⟨s3, g3⟩ := s2.endW hFD (by intro o e; rw [hac] at e; cases e; exact trivial)
      exact (k.mono ((g1.trans g2).trans g3)).now s3 (.lst (.inl ⟨.inl rfl, .inl hac⟩) (rac.mono g3)) q3
/-- the tests of a comprehension -/
def DTs (X : Cx) (ifs : List Expr) (f : DTT) : Prop := PTs X ifs (Li rT X.K f)
theorem d_ts0 : DTs X [] gYes := ⟨fun pins s σ H Q I ⟨δ, F, W, M, Qd, ev, st, h, k⟩ => pts_nil.run pins s σ H Q I (k.now st rfl h)⟩
theorem d_ts1 {e : Expr} (h : DT X e tt) : DTs X [e] tt := pts_one h
section
variable (hc : X.calm = true) (hN : X.N.Nodup) (hi : DI X tg iter di) (ok : BlkOk X.N X.env.scope scope own)
    (hg : ∀ (s : Shared) (H : Hp) (C : Addr) (cl : List (Str × Addr)) (fp : List Addr), PG (X.blk s H scope (compEnvC scope cl C X.env) fp) tg (c.tg X.K)) (ht : ∀ (s : Shared) (H : Hp) (C : Addr) (cl : List (Str × Addr)) (fp : List Addr), DTs (X.blk s H scope (compEnvC scope cl C X.env) fp) ifs tt)
    (he : ∀ (s : Shared) (H : Hp) (C : Addr) (cl : List (Str × Addr)) (fp : List Addr), DE (X.blk s H scope (compEnvC scope cl C X.env) fp) elt te)
include hc hN hi ok hg ht he in
theorem d_lc (hv : ∀ i ∈ c.slots, i ∈ own.map (·.2) := by decide) (hs : ∀ x, foldedSetIterable iter X.env x = pure x := by intro _; rfl) :
    DE X (.ListComp elt [⟨tg, iter, ifs, 0⟩] scope pos) (gLc di c tt te (own.map (·.2))) := imp (pe_lc (wi := LI X.K di) (g := c.tg X.K) (tt := Li rT X.K tt) (te := Li (rE X.K) X.K te) hc hN hi ok hg ht he hs) fun σ H Q h => li_lc hv false h
end
theorem li_set {K : PySem.W.Frag} {t : TE} {f : DTE} {E : XK} {D : Ends} {σ : L2.St} {H : Hp} (hf : ∀ σ H Q, Li (rE K) K f σ H Q → t σ H Q) (h : LS K E (hAsg f (hName i)) D σ H) : tAsg t (L2.gName i) D σ H := by
  obtain ⟨δ, F, W, M, Dd, ev, s, h, k⟩ := h
  exact hf _ _ _ ⟨δ, F, W, M, _, ev, s, h, fun v H1 W1 d M1 g1 s1 r1 q1 => (k.nx.mono g1).now s1 ((ev.mono g1).set r1 i) q1⟩
section
variable (hc : X.calm = true) (hN : X.N.Nodup) (hy : X.N[i]? = some y) (hyl : X.env.scope.names.lookup y = some .local) (hsw : swapsWith (.ListComp elt [⟨tg, iter, ifs, 0⟩] scope pos) (some (.Name y py)) spos.line X.env = pure true)
    (hi : DI X tg iter di) (ok : BlkOk X.N X.env.scope scope own)
    (hg : ∀ (s : Shared) (H : Hp) (C : Addr) (cl : List (Str × Addr)) (fp : List Addr), PG (X.blk s H scope (compEnvC scope cl C X.env) fp) tg (c.tg X.K)) (ht : ∀ (s : Shared) (H : Hp) (C : Addr) (cl : List (Str × Addr)) (fp : List Addr), DTs (X.blk s H scope (compEnvC scope cl C X.env) fp) ifs tt)
    (he : ∀ (s : Shared) (H : Hp) (C : Addr) (cl : List (Str × Addr)) (fp : List Addr), DE (X.blk s H scope (compEnvC scope cl C X.env) fp) elt te)
include hc hN hy hyl hsw hi ok hg ht he in
theorem z_setLc (hv : ∀ i ∈ c.slots, i ∈ own.map (·.2) := by decide) (hs : ∀ x, foldedSetIterable iter X.env x = pure x := by intro _; rfl) :
    DS X (.Assign [.Name y py] (.ListComp elt [⟨tg, iter, ifs, 0⟩] scope pos) spos) (hAsg (gLc di c tt te (own.map (·.2))) (hName i)) :=
  ps_imp (ps_setLc (wi := LI X.K di) (g := c.tg X.K) (tt := Li rT X.K tt) (te := Li (rE X.K) X.K te) hc hN hy hyl hsw hi ok hg ht he hs) fun D σ H h => li_set (fun σ H Q h => li_lc hv false h) h
end
def Sq (n : Nat) : Prop := Nat.ble n 5000 = true
def Sr (n : Nat) : Prop := Nat.ble n 3000 = true
theorem sq {n : Nat} (h : n ≤ 5000) : Sq n := Nat.ble_eq.mpr h
theorem Sq.le {n : Nat} (h : Sq n) : n ≤ 5000 := Nat.ble_eq.mp h
theorem sr {n : Nat} (h : n ≤ 3000) : Sr n := Nat.ble_eq.mpr h
theorem Sr.le {n : Nat} (h : Sr n) : n ≤ 3000 := Nat.ble_eq.mp h
def lc2D (c : CT) (tt : DTT) (di1 : DTI) (c1 : CT) (tt1 : DTT) (te : DTE) (vs1 : List Nat) (δ : De) : List Da → (List Da → Mm → Prop) → Mm → Prop
  | [], k, M => k [] M
  | d :: ds, k, M => c.ok d ∧ tt (c.set d δ) M fun b M2 => if b = true then di1 (c.set d δ) M2 fun es M3 => Sr es.length ∧ lcD c1 tt1 te (wipeD (c.set d δ) vs1) es (fun ys M4 => lc2D c tt di1 c1 tt1 te vs1 δ ds (fun zs M5 => k (ys ++ zs) M5) M4) M3
      else lc2D c tt di1 c1 tt1 te vs1 δ ds k M2
def gLc2 (di : DTI) (c : CT) (tt : DTT) (di1 : DTI) (c1 : CT) (tt1 : DTT) (te : DTE) (vs vs1 : List Nat) : DTE := fun δ M Q => di δ M fun ds M1 => Sq ds.length ∧ lc2D c tt di1 c1 tt1 te vs1 (wipeD δ vs) ds (fun ys M2 => Q (.lst ys) M2) M1
theorem li_lc2 {K : PySem.W.Frag} {vs vs1 : List Nat} {c1 : CT} {tt1 : DTT} {di1 : DTI} (hv : ∀ i ∈ c.slots, i ∈ vs) (hv1 : ∀ i ∈ c1.slots, i ∈ vs1) {σ : L2.St} {H : Hp} {Q : VK} (h : Li (rE K) K (gLc2 di c tt di1 c1 tt1 te vs vs1) σ H Q) :
    tLc2 (LI K di) (c.tg K) (Li rT K tt) (LI K di1) (c1.tg K) (Li rT K tt1) (Li (rE K) K te) vs vs1 σ H Q := by
  obtain ⟨δ, F, W, M, Qd, ev, s, h, k⟩ := h
  refine ⟨δ, F, W, M, _, ev, s, h, fun J H1 W1 M1 ds g1 s1 ij ⟨hz, q⟩ D hD => ?_⟩
  have hFD : ¬ F D := s1.freeF hD
  let Kf : List Da → Mm → Prop := fun ys M2' => Qd (.lst ys) M2'
  let L2D := fun (ds : List Da) (k : List Da → Mm → Prop) => lc2D c tt di1 c1 tt1 te vs1 (wipeD δ vs) ds k
  let Pv : Nat → Hp → Prop := fun i H2 => ∃ W2 Md ac acc, Grow F W1 H1 W2 H2 ∧ Stt K (fadd F D) W2 Md H2 ∧ H2 D = some (.lst ac) ∧ RDs K W2 H2 ac acc ∧ acc.length ≤ i * 3000 ∧ L2D (ds.drop i) (fun ys M4 => Kf (acc ++ ys) M4) Md
  refine ⟨fun i m H2 => m = ds.length - i ∧ i ≤ ds.length ∧ Pv i H2, ⟨ds.length, by simp, Nat.zero_le _, W1, M1, [], [], grow_new s1 hD, s1.addF hD _, upd_same, .nil, Nat.zero_le _, q⟩, ?_⟩
  rintro i m H2 ⟨rfl, hi, W2, Md, ac, acc, g2, s2, hac, rac, hal, q2⟩
  obtain ⟨go, stop⟩ := ij (fadd F D) W2 H2 Md g2.noF s2
  by_cases hlt : i < ds.length
  · have hd : ds[i]? = some ds[i] := List.getElem?_eq_getElem hlt
    obtain ⟨go1, go2⟩ := go i _ hd
    refine .inr ⟨go1, Pv (i + 1), fun H' p' => ⟨ds.length - (i + 1), by omega, rfl, hlt, p'⟩, fun x H3 y => ?_⟩
    obtain ⟨W3, g3, s3, r3⟩ := go2 x H3 y
    rw [List.drop_eq_getElem_cons hlt] at q2
    obtain ⟨ok, q2⟩ := q2
    have e3 : EnvR K W3 H3 (wipeD δ vs) (wipe σ vs) := (ev.mono (grow_drop (g1.trans g2) g3)).wipe vs
    refine ct_ok hv ok r3 e3 fun σ2 hw ev2 => ⟨by rw [hw, wipe_wipe vs vs σ fun _ h => h], _, fadd F D, W3, Md, _, ev2, s3, q2, fun b H4 W4 b' M4 g4 s4 eb q4 => ?_⟩
    cases eb
    have gg := g3.trans g4
    cases b with
    | false =>
      refine ⟨W4, M4, ac, acc, grow_drop g2 gg, s4, ?_, rac.mono gg, by omega, q4⟩
      rw [gg.f D (.inl rfl)]; exact hac
    | true =>
      refine ⟨_, fadd F D, W4, M4, _, ev2.mono g4, s4, q4, fun J1 H5 W5 M5 es g5 s5 ij1 q5 => ?_⟩
      obtain ⟨hz1, q5⟩ := q5
      have g25 := gg.trans g5
      let Pw : Nat → Hp → Prop := fun j H6 => ∃ W6 Md ac acc, Grow F W1 H1 W6 H6 ∧ Grow NoF W5 H5 W6 H6 ∧ Stt K (fadd F D) W6 Md H6 ∧ H6 D = some (.lst ac) ∧ RDs K W6 H6 ac acc ∧ acc.length ≤ i * 3000 + j ∧
        lcD c1 tt1 te (wipeD (c.set ds[i] (wipeD δ vs)) vs1) (es.drop j) (fun ys M4 => L2D (ds.drop (i + 1)) (fun zs M5 => Kf (acc ++ (ys ++ zs)) M5) M4) Md
      refine ⟨fun j n H6 => n = es.length - j ∧ j ≤ es.length ∧ Pw j H6, ⟨es.length, by simp, Nat.zero_le _, W5, M5, ac, acc, grow_drop g2 g25, .refl, s5, by rw [g25.f D (.inl rfl)]; exact hac, rac.mono g25, by omega, q5⟩, ?_⟩
      rintro j n H6 ⟨rfl, hj, W6, Md6, ac6, acc6, g6, gn6, s6, hac6, rac6, hal6, q6⟩
      obtain ⟨go', stop'⟩ := ij1 (fadd F D) W6 H6 Md6 gn6 s6
      by_cases hlt1 : j < es.length
      · have hd1 : es[j]? = some es[j] := List.getElem?_eq_getElem hlt1
        obtain ⟨go3, go4⟩ := go' j _ hd1
        refine .inr ⟨go3, Pw (j + 1), fun H' p' => ⟨es.length - (j + 1), by omega, rfl, hlt1, p'⟩, fun x H7 y => ?_⟩
        obtain ⟨W7, g7, s7, r7⟩ := go4 x H7 y
        rw [List.drop_eq_getElem_cons hlt1] at q6
        obtain ⟨ok1, q6⟩ := q6
        have e7 : EnvR K W7 H7 (wipeD (c.set ds[i] (wipeD δ vs)) vs1) (wipe σ2 vs1) := (((ev2.mono (g4.trans g5)).mono gn6).mono g7).wipe vs1
        refine ct_ok hv1 ok1 r7 e7 fun σ3 hw3 ev3 => ⟨by rw [hw3, wipe_wipe vs1 vs1 σ2 fun _ h => h], _, fadd F D, W7, Md6, _, ev3, s7, q6, fun b H8 W8 b' M8 g8 s8 eb q8 => ?_⟩
        cases eb
        have g78 := g7.trans g8
        cases b with
        | false =>
          refine ⟨W8, M8, ac6, acc6, grow_drop g6 g78, gn6.trans g78.noF, s8, ?_, rac6.mono g78, by omega, q8⟩
          rw [g78.f D (.inl rfl)]; exact hac6
        | true =>
          refine ⟨_, fadd F D, W8, M8, _, ev3.mono g8, s8, q8, fun v H9 W9 d M9 g9 s9 r9 q9 => ⟨ac6, ?_, ?_, ?_⟩⟩
          · rw [(g78.trans g9).f D (.inl rfl)]; exact hac6
          · rw [rac6.length]; have := hz.le; have := hz1.le; rw [sizeLine_eq]; omega
          · obtain ⟨s10, g10⟩ := s9.chgF (.lst (ac6 ++ [v]))
            have g11 : Grow F W6 H6 W9 H9 := (g78.trans g9).less fun a h => .inr h
            refine ⟨W9, M9, ac6 ++ [v], acc6 ++ [d], ?_, (gn6.trans (g78.trans g9).noF).trans g10, s10, upd_same, ((rac6.mono (g78.trans g9)).append (.cons r9 .nil)).mono g10, by rw [List.length_append, List.length_singleton]; omega, ?_⟩
            · have g12 := g6.trans g11
              refine ⟨g12.w, fun a w => ?_, fun a w => ?_⟩
              · rw [upd_ne (s1.neW hD w)]; exact g12.h a w
              · rw [upd_ne (s1.neF hD w)]; exact g12.f a w
            · have e : (fun ys M4 => L2D (ds.drop (i + 1)) (fun zs M5 => Kf (acc6 ++ [d] ++ (ys ++ zs)) M5) M4) = fun ys M4 => L2D (ds.drop (i + 1)) (fun zs M5 => Kf (acc6 ++ (d :: ys ++ zs)) M5) M4 := by
                funext ys M4
                congr 1
                funext zs M5
                rw [List.append_assoc]; rfl
              rw [e]; exact q9
      · have e : j = es.length := by omega
        subst e
        rw [List.drop_length] at q6
        refine .inl ⟨stop' _ (Nat.le_refl _), W6, Md6, ac6, acc6, g6, s6, hac6, rac6, ?_, q6⟩
        have := hz1.le
        omega
  · have e : i = ds.length := by omega
    subst e
    rw [List.drop_length] at q2
    have q3 : Kf acc Md := by have : Kf (acc ++ []) Md := q2; rwa [List.append_nil] at this
    obtain ⟨s3, g3⟩ := s2.endW hFD (by intro o e; rw [hac] at e; cases e; exact trivial)
    exact .inl ⟨stop _ (Nat.le_refl _), (k.mono ((g1.trans g2).trans g3)).now s3 (.lst (.inl ⟨.inl rfl, .inl hac⟩) (rac.mono g3)) q3⟩
section
variable {tg1 iter1 : Expr} {ifs1 : List Expr} {vs1 : List Nat} {di1 : DTI} {c1 : CT} {tt1 : DTT} (hc : X.calm = true) (hN : X.N.Nodup) (hi : DI X tg iter di) (ok : BlkOk X.N X.env.scope scope own) (hvs : ∀ i ∈ vs1, i ∈ own.map (·.2))
    (hg : ∀ (s : Shared) (H : Hp) (C : Addr) (cl : List (Str × Addr)) (fp : List Addr), PG (X.blk s H scope (compEnvC scope cl C X.env) fp) tg (c.tg X.K)) (ht : ∀ (s : Shared) (H : Hp) (C : Addr) (cl : List (Str × Addr)) (fp : List Addr), DTs (X.blk s H scope (compEnvC scope cl C X.env) fp) ifs tt)
    (hi1 : ∀ (s : Shared) (H : Hp) (C : Addr) (cl : List (Str × Addr)) (fp : List Addr), DI (X.blk s H scope (compEnvC scope cl C X.env) fp) tg1 iter1 di1)
    (hg1 : ∀ (s : Shared) (H : Hp) (C : Addr) (cl : List (Str × Addr)) (fp : List Addr), PG (X.blk s H scope (compEnvC scope cl C X.env) fp) tg1 (c1.tg X.K)) (ht1 : ∀ (s : Shared) (H : Hp) (C : Addr) (cl : List (Str × Addr)) (fp : List Addr), DTs (X.blk s H scope (compEnvC scope cl C X.env) fp) ifs1 tt1)
    (he : ∀ (s : Shared) (H : Hp) (C : Addr) (cl : List (Str × Addr)) (fp : List Addr), DE (X.blk s H scope (compEnvC scope cl C X.env) fp) elt te)
include hc hN hi ok hvs hg ht hi1 hg1 ht1 he in
theorem d_lc2 (hv : ∀ i ∈ c.slots, i ∈ own.map (·.2) := by decide) (hv1 : ∀ i ∈ c1.slots, i ∈ vs1 := by decide) (hs : ∀ x, foldedSetIterable iter X.env x = pure x := by intro _; rfl) (hs1 : ∀ env x, foldedSetIterable iter1 env x = pure x := by intro _ _; rfl) :
    DE X (.ListComp elt [⟨tg, iter, ifs, 0⟩, ⟨tg1, iter1, ifs1, 0⟩] scope pos) (gLc2 di c tt di1 c1 tt1 te (own.map (·.2)) vs1) := imp (pe_lc2 (wi := LI X.K di) (g := c.tg X.K) (tt := Li rT X.K tt) (wi1 := LI X.K di1) (g1 := c1.tg X.K) (tt1 := Li rT X.K tt1) (te := Li (rE X.K) X.K te) hc hN hi ok hvs hg ht hi1 hg1 ht1 he hs hs1) fun σ H Q h => li_lc2 hv hv1 h
end
end
end U
set_option Elab.async false
set_option linter.all false
set_option maxRecDepth 100000
set_option maxHeartbeats 2000000
namespace U
open PySem PySem.Spec PyProof.Rows L2
/-- a def's promise over data -/
abbrev DSp := List Da → Mm → DK → DX → Prop
def X0 : DX := fun _ _ _ => False
def LSp (K : PySem.W.Frag) (sp : DSp) : Sp := fun vs H Q E => ∃ F W M ds Qd Ed, RDs K W H vs ds ∧ Stt K F W M H ∧ sp ds M Qd Ed ∧ Kt (rE K) K F W H Qd Q ∧ KX K F W H Ed E
def startD (N : List Str) (ds : List Da) : De := ds.map some ++ List.replicate (N.length - ds.length) none
theorem env_start {K : PySem.W.Frag} {W : Addr → Prop} {H : Hp} (N : List Str) {vs : List V} {ds : List Da} (r : RDs K W H vs ds) : EnvR K W H (startD N ds) (start N vs) := by
  have h1 : ∀ (n : Nat), EnvR K W H (List.replicate n none) (List.replicate n none) := fun n => by
    induction n with
    | zero => exact .nil
    | succ n ih => exact .cons trivial ih
  have h2 : ∀ {vs : List V} {ds : List Da} (n : Nat), RDs K W H vs ds → EnvR K W H (ds.map some ++ List.replicate n none) (vs.map some ++ List.replicate n none) := by
    intro vs
    induction vs with
    | nil => intro ds n r; cases r; exact h1 n
    | cons v vs ih =>
      intro ds n r
      cases r with
      | cons h k => exact .cons ⟨v, rfl, h⟩ (ih n k)
  unfold startD L2.start
  rw [r.length]
  exact h2 _ r
/-- the body's ends -/
def bodyE (Q : DK) : DEnds := { nx := fun _ M => Q .non M, rt := Q }
theorem ls_body {K : PySem.W.Frag} {F W : Addr → Prop} {M : Mm} {H : Hp} {N : List Str} {vs : List V} {ds : List Da} {Qd : DK} {Q : VK} {E : XK} {t : DTS} (r : RDs K W H vs ds) (s : Stt K F W M H) (k : Kt (rE K) K F W H Qd Q) (h : t (bodyE Qd) (startD N ds) M) :
    LS K E t { nx := fun _ H' => Q .non H', rt := Q } (start N vs) H :=
  ⟨_, F, W, M, _, env_start N r, s, h, fun σ H' W' δ M' g s' e q => k _ _ _ _ _ g s' .non q, k, fun _ _ _ _ _ _ _ _ z => z.elim, fun _ _ _ _ _ _ _ _ z => z.elim, fun _ _ _ _ _ _ _ _ _ z => z.elim⟩
abbrev KnD (P : Program) (w : World) (K : PySem.W.Frag) (mg : Str → Option Value) (base : Heap) (x : Str) (k : Nat) (ps : List Str) (sp : DSp) : Prop := Known P w K mg base CX0 x k ps (LSp K sp)
abbrev KnMD (P : Program) (w : World) (K : PySem.W.Frag) (mg : Str → Option Value) (base : Heap) (C : Addr) (m : Str) (k : Nat) (ps : List Str) (sp : DSp) : Prop := KnownM P w K mg base CX0 C m k ps (LSp K sp)
theorem lsp_len {K : PySem.W.Frag} {sp : DSp} {n : Nat} (len : ∀ ds M Q E, sp ds M Q E → ds.length = n) : ∀ vs H Q E, LSp K sp vs H Q E → vs.length = n := fun vs H Q E ⟨F, W, M, ds, Qd, Ed, r, s, h, _⟩ => by rw [r.length]; exact len _ _ _ _ h
theorem KnD.of {P : Program} {w : World} {K : PySem.W.Frag} {mg : Str → Option Value} {base : Heap} {x : Str} {st : Stmt} {N ps : List Str} {k : Nat} {sp : DSp} (F : HasDef K x st) (M : MgOf K mg) (S : FnScope N ps (defScope st))
    (hb : ∀ (kV doc pm : Value) (an : Option Addr) (cdv ct : Value) (us : List Value), us.length = ps.length → bindArgs (PySem.W.fnOf x x (defArgs st) (defBody st) (defScope st) .none kV doc pm an cdv ct) ⟨us, []⟩ = pure (ps.zip us))
    (len : ∀ ds M Q E, sp ds M Q E → ds.length = ps.length)
    (hbody : ∀ (f : Addr) (cdv : Value) (A : Around) (outer : List Env) (s : Shared) (H : Hp) (E : XK), Room k (A.deeper (envOfC x (defScope st) s.heap.objs.size f cdv)) →
      ∃ t, DB (cxOf CX0 P w K mg base N x (defScope st) f cdv A outer s H E).nox (defBody st) t ∧ ∀ ds M Q Ed, sp ds M Q Ed → t (bodyE Q) (startD N ds) M) : KnD P w K mg base x (k + 1) ps sp :=
  Known.of F M S hb (lsp_len len) fun f cdv A outer s H vs Q E hr ⟨F, W, M, ds, Qd, Ed, r, st, h, kk, kx⟩ => by
    obtain ⟨t, d, q⟩ := hbody f cdv A outer s H E hr
    exact ⟨_, d, ls_body r st kk (q ds M Qd Ed h)⟩
theorem KnMD.of {P : Program} {w : World} {K : PySem.W.Frag} {mg : Str → Option Value} {base : Heap} {C : Addr} {m qual : Str} {st : Stmt} {N ps : List Str} {k : Nat} {sp : DSp} (F : HasMeth K C m qual st) (S : FnScope N ps (defScope st))
    (hb : ∀ (kV doc pm : Value) (an : Option Addr) (cdv ct : Value) (us : List Value), us.length = ps.length → bindArgs (PySem.W.fnOf m qual (defArgs st) (defBody st) (defScope st) .none kV doc pm an cdv ct) ⟨us, []⟩ = pure (ps.zip us))
    (len : ∀ ds M Q E, sp ds M Q E → ds.length = ps.length)
    (hbody : ∀ (f : Addr) (cdv : Value) (A : Around) (outer : List Env) (s : Shared) (H : Hp) (E : XK), Room k (A.deeper (envOfC qual (defScope st) s.heap.objs.size f cdv)) →
      ∃ t, DB (cxOf CX0 P w K mg base N qual (defScope st) f cdv A outer s H E).nox (defBody st) t ∧ ∀ ds M Q Ed, sp ds M Q Ed → t (bodyE Q) (startD N ds) M) : KnMD P w K mg base C m (k + 1) ps sp :=
  KnownM.of F S hb (lsp_len len) fun f cdv A outer s H vs Q E hr ⟨F, W, M, ds, Qd, Ed, r, st, h, kk, kx⟩ => by
    obtain ⟨t, d, q⟩ := hbody f cdv A outer s H E hr
    exact ⟨_, d, ls_body r st kk (q ds M Qd Ed h)⟩
theorem fnok_of {P : Program} {w : World} {K : PySem.W.Frag} {mg : Str → Option Value} {base : Heap} {x : Str} {st : Stmt} {N ps : List Str} {k : Nat} {sp : DSp} {f : Addr} {fd : FuncData} (F : Fun K x x st f fd) (S : FnScope N ps (defScope st))
    (len : ∀ ds M Q E, sp ds M Q E → ds.length = ps.length)
    (hbody : ∀ (f : Addr) (cdv : Value) (A : Around) (outer : List Env) (s : Shared) (H : Hp) (E : XK), Room k (A.deeper (envOfC x (defScope st) s.heap.objs.size f cdv)) →
      ∃ t, DB (cxOf CX0 P w K mg base N x (defScope st) f cdv A outer s H E).nox (defBody st) t ∧ ∀ ds M Q Ed, sp ds M Q Ed → t (bodyE Q) (startD N ds) M) : FnOk P w K mg base CX0 (k + 1) f fd ps (LSp K sp) :=
  ok_of F S (lsp_len len) fun f cdv A outer s H vs Q E hr ⟨F, W, M, ds, Qd, Ed, r, st, h, kk, kx⟩ => by
    obtain ⟨t, d, q⟩ := hbody f cdv A outer s H E hr
    exact ⟨_, d, ls_body r st kk (q ds M Qd Ed h)⟩
section
variable {X : Cx} {k : Nat} {ps : List Str} {sp : DSp} {x m f : Str} {p pos apos : Pos} {a b e e1 e2 o : Expr} {es : List Expr} {fs : DTA} {C : Addr} {fa f1 f2 : DTE}
def gCall (sp : DSp) (fs : DTA) : DTE := fun δ M Q => fs δ M fun ds M1 => sp ds M1 Q X0
theorem d_call (D : KnD X.prog X.w X.K X.mg X.base x k ps sp) (hr : Room k X.A) (ha : DA X (e :: es) fs) (hg : Gl X x := by rfl) (hdb : (x == ("__debug__" : Str)) = false := by decide)
    (he : starEach (e :: es) X.env = (false, eval e X.env) :: starEach es X.env := by rfl) (hpl : (backTo pos (starEach es X.env)).any (·.1) = false := by rfl) : DE X (.Call (.Name x p) (e :: es) [] pos) (gCall sp fs) :=
  imp (U.call D hr ha hg hdb he hpl) fun σ H Q ⟨δ, F, W, M, Qd, ev, s, h, kk⟩ => ⟨δ, F, W, M, _, ev, s, h, fun vs H1 W1 ds M1 g1 s1 r1 q1 => ⟨F, W1, M1, ds, Qd, X0, r1, s1, q1, kk.mono g1, fun _ _ _ _ _ _ _ _ _ z => z.elim⟩⟩
/-- what an instance holds -/
def objK (C : Addr) (x : Da) (M : Mm) (k : List (Str × Da) → Prop) : Prop := match x with
  | .obj C' fs => C' = C ∧ k fs
  | .ref p => ∃ fs, M p = some (.ins C fs) ∧ k fs
  | _ => False
theorem obj_of {K : PySem.W.Frag} {F W : Addr → Prop} {M : Mm} {H : Hp} {v : V} {d : Da} (s : Stt K F W M H) (r : RD K W H v d) {k : List (Str × Da) → Prop} (h : objK C d M k) : ∃ a dx vs fs, v = .ref a ∧ H a = some (.ins C dx vs) ∧ RF K W H vs fs ∧ k fs := by
  cases r with
  | obj w hs rv =>
    obtain ⟨rfl, h⟩ := h
    exact ⟨_, _, _, _, rfl, hs, rv, h⟩
  | ref p =>
    obtain ⟨fs, hm, h⟩ := h
    obtain ⟨u, hu, mr⟩ := s.mem _ _ hm
    cases mr with
    | ins rv => exact ⟨_, _, _, _, rfl, hu, rv, h⟩
  | _ => exact h.elim
def gFld (C : Addr) (f : Str) (fa : DTE) : DTE := fun δ M Q => fa δ M fun x M1 => objK C x M1 fun fs => ∃ v, fs.lookup f = some v ∧ Q v M1
theorem d_fld (c : Cls X.K C) (n : NoAttr X.K C f) (he : DE X e fa) (hb : attributeBase e f X.env (eval e X.env) = eval e X.env := by rfl) : DE X (.Attribute e f pos) (gFld C f fa) :=
  imp (fld c n he hb) fun σ H Q ⟨δ, F, W, M, Qd, ev, s, h, kk⟩ => ⟨δ, F, W, M, _, ev, s, h, fun v H1 W1 d M1 g1 s1 r1 q1 => by
    obtain ⟨a, dx, vs, fs, rfl, ha, rv, z, hz, q⟩ := obj_of s1 r1 q1
    obtain ⟨u, hu, ru⟩ := rv.get hz
    exact ⟨dx, vs, u, ha, hu, (kk.mono g1).now s1 ru q⟩⟩
/-- o.f = e -/
def hSto (C : Addr) (f : Str) (fa fv : DTE) : DTS := fun D δ M => fv δ M fun y M1 => fa δ M1 fun x M2 => match x with
  | .ref p => ∃ fs, M2 p = some (.ins C fs) ∧ Nat.blt fs.length 1000 = true ∧ D.nx δ (mput M2 p (.ins C (putD f y fs)))
  | _ => False
theorem z_sto {value : Expr} {pos' : Pos} {fv : DTE} (c : Cls X.K C) (n : NoAttr X.K C f) (hv : DE X value fv) (ha : DE X o fa) (hs : swapsWith value (some (.Attribute o f pos')) pos.line X.env = pure false := by rfl) : DS X (.Assign [.Attribute o f pos'] value pos) (hSto C f fa fv) :=
  ps_imp (sto c n hv ha hs) fun D σ H ⟨δ, F, W, M, Dd, ev, s, h, kk⟩ => ⟨δ, F, W, M, _, ev, s, h, fun y H1 W1 d M1 g1 s1 r1 q1 => ⟨δ, F, W1, M1, _, ev.mono g1, s1, q1, fun x H2 W2 d2 M2 g2 s2 r2 q2 => by
    cases r2 <;> first | exact q2.elim | skip
    rename_i p
    obtain ⟨fs, hm, hl, q⟩ := q2
    obtain ⟨u, hu, mr⟩ := s2.mem _ _ hm
    cases mr with
    | @ins _ dx _ vs rv =>
      have g3 := grow_put (o := .ins C dx (putF f y vs)) s2 hm
      exact ⟨_, _, hu, by rw [rv.length]; exact Nat.blt_eq.mp hl, (kk.nx.mono ((g1.trans g2).trans g3)).now (s2.put hm (.ins (rv.put (r1.mono g2)))) (ev.mono ((g1.trans g2).trans g3)) q⟩⟩⟩
def gMeth (C : Addr) (m : Str) (sp : DSp) (fa : DTE) (fs : DTA) : DTE := fun δ M Q => fa δ M fun x M1 => objK C x M1 (fun gs => gs.lookup m = none) ∧ fs δ M1 fun ds M2 => sp (x :: ds) M2 Q X0
theorem li_meth {K : PySem.W.Frag} {σ : L2.St} {H : Hp} {Q : VK} (h : Li (rE K) K (gMeth C m sp fa fs) σ H Q) : fMeth C m (LSp K sp) E0 (Li (rE K) K fa) (Li (rA K) K fs) σ H Q := by
  obtain ⟨δ, F, W, M, Qd, ev, s, h, kk⟩ := h
  refine ⟨δ, F, W, M, _, ev, s, h, fun v H1 W1 d M1 g1 s1 r1 q1 => ?_⟩
  obtain ⟨a, dx, vs, gs, rfl, ha, rv, hn⟩ := obj_of s1 r1 q1.1
  exact ⟨dx, vs, ha, rv.none hn, δ, F, W1, M1, _, ev.mono g1, s1, q1.2, fun us H2 W2 ds M2 g2 s2 r2 q2 => ⟨F, W2, M2, _, Qd, X0, .cons (r1.mono g2) r2, s2, q2, kk.mono (g1.trans g2), fun _ _ _ _ _ _ _ _ _ z => z.elim⟩⟩
theorem d_meth {pl : Sem Bool} (D : KnMD X.prog X.w X.K X.mg X.base C m k ps sp) (c : Cls X.K C) (hr : Room k X.A) (he : DE X o fa) (ha : DA X (e :: es) fs)
    (hst : starEach (e :: es) X.env = (false, eval e X.env) :: starEach es X.env := by rfl) (hpl : (backTo pos (starEach es X.env)).any (·.1) = false := by rfl)
    (ht : eval (.Call (.Attribute o m apos) (e :: es) [] pos) X.env = (do
      let ov ← eval o X.env
      standAt apos.atName
      let (f, first) ← holding [ov] (getMethod ov m pl)
      callWith pos f first (backTo pos (starEach (e :: es) X.env)) (backToKw pos (keywordEach [] X.env))) := by rfl) :
    DE X (.Call (.Attribute o m apos) (e :: es) [] pos) (gMeth C m sp fa fs) := imp (U.meth D c hr he ha hst hpl ht) fun _ _ _ h => li_meth h
theorem Stt.lessF {K : PySem.W.Frag} {F F' W : Addr → Prop} {M : Mm} {H : Hp} (s : Stt K F' W M H) (h : ∀ a, F a → F' a) : Stt K F W M H := ⟨s.wf, fun a w => s.fr a (h a w), s.dis, s.mem, s.pl⟩
end
structure HasProp (K : PySem.W.Frag) (C : Addr) (m qual : Str) (st : Stmt) : Prop where
  ex : ∃ p g fd, Fun K m qual st g fd ∧ PropOf K C m p g
structure KnPD (P : Program) (w : World) (K : PySem.W.Frag) (mg : Str → Option Value) (base : Heap) (C : Addr) (m : Str) (k : Nat) (ps : List Str) (sp : DSp) : Prop where
  ex : ∃ p g fd, FnOk P w K mg base CX0 k g fd ps (LSp K sp) ∧ PropOf K C m p g ∧ Binds K fd ps []
theorem KnPD.of {P : Program} {w : World} {K : PySem.W.Frag} {mg : Str → Option Value} {base : Heap} {C : Addr} {m qual : Str} {st : Stmt} {N ps : List Str} {k : Nat} {sp : DSp} (F : HasProp K C m qual st) (S : FnScope N ps (defScope st))
    (hb : ∀ (kV doc pm : Value) (an : Option Addr) (cdv ct : Value) (us : List Value), us.length = ps.length → bindArgs (PySem.W.fnOf m qual (defArgs st) (defBody st) (defScope st) .none kV doc pm an cdv ct) ⟨us, []⟩ = pure (ps.zip us))
    (len : ∀ ds M Q E, sp ds M Q E → ds.length = ps.length)
    (hbody : ∀ (f : Addr) (cdv : Value) (A : Around) (outer : List Env) (s : Shared) (H : Hp) (E : XK), Room k (A.deeper (envOfC qual (defScope st) s.heap.objs.size f cdv)) →
      ∃ t, DB (cxOf CX0 P w K mg base N qual (defScope st) f cdv A outer s H E).nox (defBody st) t ∧ ∀ ds M Q Ed, sp ds M Q Ed → t (bodyE Q) (startD N ds) M) : KnPD P w K mg base C m (k + 1) ps sp := by
  obtain ⟨p, g, fd, F, pr⟩ := F.ex
  exact ⟨p, g, fd, F.ok S (lsp_len len) (fun cdv A outer s H vs Q E hr ⟨F, W, M, ds, Qd, Ed, r, st, h, kk, kx⟩ => by
    obtain ⟨t, d, q⟩ := hbody g cdv A outer s H E hr
    exact ⟨_, d, ls_body r st kk (q ds M Qd Ed h)⟩), pr, F.binds hb⟩
section
variable {X : Cx} {k : Nat} {ps : List Str} {sp : DSp} {x m f : Str} {p pos apos : Pos} {a b e e1 e2 o : Expr} {es : List Expr} {fs : DTA} {C : Addr} {fa f1 f2 : DTE}
/-- .. that changes no more once it is made -/
def gMakeS (C : Addr) (sp : DSp) (gV : List Da → List Da → List Da) (fs fk : DTA) : DTE := fun δ M Q => fs δ M fun ds M1 => fk δ M1 fun zs M2 => ∀ p, M2 p = none → sp (gV (.ref p :: ds) zs) (mput M2 p (.ins C [])) (fun v M3 => v = .non ∧ ∃ gs, M3 p = some (.ins C gs) ∧ Q (.obj C gs) (mdel M3 p)) X0
theorem make_end {K : PySem.W.Frag} {F W : Addr → Prop} {M : Mm} {H : Hp} {Q : VK} {Qd : DK} {vs : List V} {gd : List Da} {a dx : Addr} (s : Stt K F W M H) (ha : H a = none) (hd : H dx = none) (hx : dx ≠ a) (kk : Kt (rE K) K F W H Qd Q)
    (rg : ∀ {W' H'}, Grow F W H W' H' → RDs K W' H' vs gd) (st : Bool)
    (h : sp gd (mput M a (.ins C [])) (fun v M3 => v = .non ∧ (if st = true then ∃ gs, M3 a = some (.ins C gs) ∧ Qd (.obj C gs) (mdel M3 a) else Qd (.ref a) M3)) X0) :
    LSp K sp vs (upd (upd H dx (.own a)) a (.ins C dx [])) (fun v H2 => v = .non ∧ Q (.ref a) H2) E0 := by
  have s1 := s.junk hd (.own a)
  have ha1 : (upd H dx (.own a)) a = none := by rw [upd_ne (Ne.symm hx)]; exact ha
  have s2 := s1.newM ha1 (o := .ins C dx []) (u := .ins C []) (.ins .nil)
  have g2 : Grow F W H W (upd (upd H dx (.own a)) a (.ins C dx [])) := (grow_new s hd).trans (grow_new s1 ha1)
  refine ⟨F, W, _, gd, _, X0, rg g2, s2, h, fun v H3 W3 d M3 g3 s3 r3 q3 => ?_, fun _ _ _ _ _ _ _ _ _ z => z.elim⟩
  obtain ⟨rfl, q3⟩ := q3
  cases r3
  refine ⟨rfl, ?_⟩
  cases st with
  | true =>
    obtain ⟨gs, hm, q⟩ := q3
    obtain ⟨u, hu, mr⟩ := s3.mem _ _ hm
    obtain ⟨s4, g4⟩ := s3.settle hm
    cases mr with
    | ins rv => exact (kk.mono ((g2.trans g3).trans g4)).now s4 (.obj (.inl rfl) hu (rv.mono g4)) q
  | false => exact (kk.mono (g2.trans g3)).now s3 (.ref a) q3
def idV {α : Type} (xs : List α) (_ : List α) : List α := xs
theorem d_make (M : MgOf X.K X.mg) (c : HasCls X.K x C) (D : KnMD X.prog X.w X.K X.mg X.base C "__init__" k ps sp) (hr : Room (k + 1) X.A) (ha : DA X (e :: es) fs) (hg : Gl X x := by rfl) (hdb : (x == ("__debug__" : Str)) = false := by decide)
    (he : starEach (e :: es) X.env = (false, eval e X.env) :: starEach es X.env := by rfl) (hpl : (backTo pos (starEach es X.env)).any (·.1) = false := by rfl) : DE X (.Call (.Name x p) (e :: es) [] pos) (gMakeS C sp idV fs gNil) := by
  obtain ⟨f, fd, F, B, b⟩ := D.ex
  refine imp (pe_make ⟨c.mks, B.mt.at_, B.mt.fn, c.kc⟩ F hr hg (M.of _ _ c.at_) b .nil pass0 ha hdb he hpl) fun σ H Q ⟨δ, F, W, M, Qd, ev, s, h, kk⟩ => ⟨δ, F, W, M, _, ev, s, h, fun vs H1 W1 ds M1 g1 s1 r1 q1 => fun a dx h1 h2 h3 => ?_⟩
  rw [List.append_nil]
  exact make_end s1 h1 h2 h3 (kk.mono g1) (gd := .ref a :: ds) (fun g => .cons (.ref a) (r1.mono g)) true (q1 a (s1.freeM h1))
end
structure HasInitK (K : PySem.W.Frag) (C : Addr) (qual : Str) (st : Stmt) (kws : List (Str × V)) : Prop where
  ex : ∃ f fd, FunD K "__init__" qual (defArgs st) (defBody st) (defScope st) [] kws f fd ∧ BMeth K C "__init__" f
theorem initk_mk {K : PySem.W.Frag} {C f D : Addr} {qual kw : Str} {v : V} {u : Value} {st : Stmt} {oc : Value} {od an : Option Addr} {osl : Array (Option Value)} {doc pm cdv ct : Value} (a : PySem.W.findIn K (.ref C) "__init__" = some (some (.ref f))) (i : PySem.W.isFn K (.ref f) = true)
    (l : K.lookup f = some ⟨oc, od, .func (PySem.W.fnOf "__init__" qual (defArgs st) (defBody st) (defScope st) .none (.ref D) doc pm an cdv ct), osl⟩) (c : PySem.W.codeIn K cdv qual = true) (k : PySem.W.keepIn K (.ref f) = true)
    (gf : PySem.W.specialIn K (.ref f) "__get__" = some (some (.builtin "function.__get__"))) (tk : PySem.W.takesIn K (.ref f) = some false) (fi : PySem.W.fnIn K f = true) (kd : PySem.W.nsIn K D kw = some (some u)) (ru : RelV v u) (cp : PySem.W.copiedNames.contains "__init__" = false) : HasInitK K C qual st [(kw, v)] :=
  ⟨f, _, ⟨⟨oc, od, _, _, doc, pm, an, cdv, ct, osl, rfl, l, c, .inl ⟨rfl, rfl⟩, .inr ⟨D, rfl, fun q hq => by cases hq with | head => exact ⟨u, kd, ru⟩ | tail _ h => cases h⟩⟩, k⟩, ⟨⟨a, i, k⟩, gf, tk, cp, fi⟩⟩
/-- a promise of an __init__ with keywords ks behind n positional parameters -/
structure KnK (P : Program) (w : World) (K : PySem.W.Frag) (mg : Str → Option Value) (base : Heap) (C : Addr) (k : Nat) (ps : List Str) (n : Nat) (ks : List Str) (dvs : List V) (sp : DSp) : Prop where
  ex : ∃ f fd, FnOk P w K mg base CX0 k f fd ps (LSp K sp) ∧ BMeth K C "__init__" f ∧ (∃ ds, Vals dvs ds ∧ Binds K fd ps ds) ∧ KBn K fd ps n ks (fun us ws => us ++ ws) (fun vs zs => vs ++ zs)
theorem KnK.of {P : Program} {w : World} {K : PySem.W.Frag} {mg : Str → Option Value} {base : Heap} {C : Addr} {qual : Str} {st : Stmt} {N ps : List Str} {k n : Nat} {ks : List Str} {kws : List (Str × V)} {sp : DSp} (F : HasInitK K C qual st kws) (S : FnScope N ps (defScope st)) (hk : kws ≠ []) (hn : n + kws.length = ps.length)
    (h1 : ∀ (D : Addr) (doc pm : Value) (an : Option Addr) (cdv ct : Value) (us zs : List Value), us.length = n → zs.length = kws.length →
      KwChain D ((kws.map (·.1)).zip zs) (bindArgs (PySem.W.fnOf "__init__" qual (defArgs st) (defBody st) (defScope st) .none (.ref D) doc pm an cdv ct) ⟨us, []⟩) (ps.zip (us ++ zs)))
    (h2 : ∀ (D : Addr) (doc pm : Value) (an : Option Addr) (cdv ct : Value) (us ws : List Value), us.length = n → ws.length = ks.length →
      bindArgs (PySem.W.fnOf "__init__" qual (defArgs st) (defBody st) (defScope st) .none (.ref D) doc pm an cdv ct) ⟨us, ks.zip ws⟩ = pure (ps.zip (us ++ ws)))
    (len : ∀ ds M Q E, sp ds M Q E → ds.length = ps.length)
    (hbody : ∀ (f : Addr) (cdv : Value) (A : Around) (outer : List Env) (s : Shared) (H : Hp) (E : XK), Room k (A.deeper (envOfC qual (defScope st) s.heap.objs.size f cdv)) →
      ∃ t, DB (cxOf CX0 P w K mg base N qual (defScope st) f cdv A outer s H E).nox (defBody st) t ∧ ∀ ds M Q Ed, sp ds M Q Ed → t (bodyE Q) (startD N ds) M) : KnK P w K mg base C (k + 1) ps n ks (kws.map (·.2)) sp := by
  obtain ⟨f, fd, F, B⟩ := F.ex
  refine ⟨f, fd, F.ok S (lsp_len len) (fun cdv A outer s H vs Q E hr ⟨F, W, M, ds, Qd, Ed, r, st, h, kk, kx⟩ => by
    obtain ⟨t, d, q⟩ := hbody f cdv A outer s H E hr
    exact ⟨_, PSs.nox d, ls_body r st kk (q ds M Qd Ed h)⟩), B, F.binds0 n hk hn h1, ?_⟩
  obtain ⟨mv, kb⟩ := F.kbinds0 (ps := ps) n ks [] (fun us _ ws => us ++ ws) hk (fun q hq => nomatch hq) (fun r1 _ r3 => r1.append r3) fun D doc pm an cdv ct us mv ws l1 l2 l3 => h2 D doc pm an cdv ct us ws l1 l3
  exact kb
section
variable {X : Cx} {k n : Nat} {ps ks : List Str} {sp : DSp} {x : Str} {p pos : Pos} {e : Expr} {es : List Expr} {kws : List Keyword} {fs fk : DTA} {C : Addr} {dvs : List V} {dfl : List Da}
/-- keyword arguments -/
def DKw (X : Cx) (kws : List Keyword) (f : DTA) : Prop := PK X kws (Li (rA X.K) X.K f)
theorem pk_imp {t t' : TA} (h : PK X kws t) (f : ∀ σ H Q, t' σ H Q → t σ H Q) : PK X kws t' := ⟨fun po pins s σ H Q I q => h.run po pins s σ H Q I (f σ H Q q)⟩
theorem d_knil : DKw X [] gNil := pk_imp pk_nil fun σ H Q ⟨δ, F, W, M, Qd, ev, s, h, k⟩ => k.now s .nil h
theorem d_kcons {f : DTE} {nm : Option Str} {kpos : Pos} (ha : DE X e f) (hr : DKw X kws fk) : DKw X (⟨nm, e, kpos⟩ :: kws) (gCons f fk) :=
  pk_imp (pk_cons ha hr) fun σ H Q ⟨δ, F, W, M, Qd, ev, s, h, k⟩ => ⟨δ, F, W, M, _, ev, s, h, fun v H1 W1 d M1 g1 s1 r1 q1 => ⟨δ, F, W1, M1, _, ev.mono g1, s1, q1, fun vs H2 W2 ds M2 g2 s2 r2 q2 =>
    (k.mono (g1.trans g2)).now s2 (.cons (r1.mono g2) r2) q2⟩⟩
def gMakeK (C : Addr) (n m : Nat) (sp : DSp) (fs fk : DTA) : DTE := fun δ M Q => fs δ M fun ds M1 => fk δ M1 fun zs M2 => ds.length = n ∧ zs.length = m ∧ ∀ p, M2 p = none → sp (.ref p :: (ds ++ zs)) (mput M2 p (.ins C [])) (fun v M3 => v = .non ∧ ∃ gs, M3 p = some (.ins C gs) ∧ Q (.obj C gs) (mdel M3 p)) X0
theorem d_makeK (M : MgOf X.K X.mg) (c : HasCls X.K x C) (D : KnK X.prog X.w X.K X.mg X.base C k ps (n + 1) ks dvs sp) (hr : Room (k + 1) X.A) (ha : DA X (e :: es) fs) (hkw : DKw X kws fk) (hg : Gl X x := by rfl)
    (hall : (backToKw pos (keywordEach kws X.env)).all (·.1.isSome) = true := by rfl) (hks : (backToKw pos (keywordEach kws X.env)).filterMap (·.1) = ks := by rfl) (hdb : (x == ("__debug__" : Str)) = false := by decide)
    (he : starEach (e :: es) X.env = (false, eval e X.env) :: starEach es X.env := by rfl) (hpl : ((backTo pos (starEach (e :: es) X.env)).any (·.1) || (backToKw pos (keywordEach kws X.env)).any (·.1.isNone)) = false := by rfl) :
    DE X (.Call (.Name x p) (e :: es) kws pos) (gMakeK C n ks.length sp fs fk) := by
  obtain ⟨f, fd, F, B, _, kb⟩ := D.ex
  refine imp (pe_makeK ⟨c.mks, B.mt.at_, B.mt.fn, c.kc⟩ F hr hg (M.of _ _ c.at_) kb pass0 ha hkw hall hks hdb he hpl) fun σ H Q ⟨δ, F, W, M, Qd, ev, s, h, kk⟩ => ⟨δ, F, W, M, _, ev, s, h, fun vs H1 W1 ds M1 g1 s1 r1 q1 =>
    ⟨δ, F, W1, M1, _, ev.mono g1, s1, q1, fun zs H2 W2 es2 M2 g2 s2 r2 q2 => ⟨by rw [r1.length]; exact q2.1, by rw [r2.length]; exact q2.2.1, fun a dx h1 h2 h3 => ?_⟩⟩⟩
  exact make_end s2 h1 h2 h3 (kk.mono (g1.trans g2)) (gd := .ref a :: (ds ++ es2)) (fun g => .cons (.ref a) (((r1.mono g2).mono g).append (r2.mono g))) true (q2.2.2 a (s2.freeM h1))
end
end U
set_option Elab.async false
set_option linter.all false
set_option maxRecDepth 100000
set_option maxHeartbeats 2000000
namespace U
open PySem PySem.Spec PyProof.Rows L2
/-- the type's name -/
def tyS : Da → String
  | .non => "NoneType"
  | .bl _ => "bool"
  | .int _ => "int"
  | .str _ => "str"
  | .lst _ => "list"
  | .tup _ => "tuple"
  | .dct _ => "dict"
  | _ => ""
/-- what isinstance rules want of a class of the text -/
structure IsC (K : PySem.W.Frag) (C : Addr) : Prop where
  cl : Cls K C
  ha : PySem.W.findIn K (.ref C) "__class__" = some (some (.builtin "object.__class__"))
  hn : PySem.W.specialIn K (.builtin "object.__class__") "__get__" = some (some (.builtin "getset_descriptor.__get__"))
  tk : PySem.W.takesIn K (.builtin "object.__class__") = some true
  hm : PySem.W.mroIn K C (.type "object") = some true
theorem HasCls.isC {K : PySem.W.Frag} {x : Str} {C : Addr} (c : HasCls K x C) : IsC K C := ⟨c.cl, c.ha, c.hn, c.tk, c.hm⟩
section
variable {K : PySem.W.Frag} {F W : Addr → Prop} {M : Mm} {H : Hp}
theorem ty_lst {a : Addr} {vs : List V} : Sl K W H a vs → TyX K H (.ref a) (.type "list")
  | .inl ⟨_, .inl h⟩ => .base (.lst h)
  | .inl ⟨_, .inr ⟨_, h⟩⟩ => .base (.frz h)
  | .inr (.inl (.inl h)) => nomatch h
  | .inr (.inl (.inr ⟨_, h⟩)) => nomatch h
  | .inr (.inr ⟨_, _, _, h1, h2, _⟩) => .kList h1 h2
theorem ty_tup {a : Addr} {vs : List V} : Sp' K W H a vs → TyX K H (.ref a) (.type "tuple")
  | .inl ⟨_, .inl h⟩ => .base (.tup h)
  | .inl ⟨_, .inr ⟨_, h⟩⟩ => .fTuple h
  | .inr ⟨.inl (.inl h), _⟩ => nomatch h
  | .inr ⟨.inl (.inr ⟨_, h⟩), _⟩ => nomatch h
  | .inr ⟨.inr ⟨_, _, _, h1, h2, _⟩, _⟩ => .kTuple h1 h2
theorem ty_ins {a C dx : Addr} {vs : List (Str × V)} (c : IsC K C) (h : H a = some (.ins C dx vs)) : TyX K H (.ref a) (.ref C) := .base (.ins h c.cl c.ha c.hn c.tk c.hm)
/-- the type as a value: a built-in one, or a class of the text -/
def tyK (K : PySem.W.Frag) (x : Da) (M : Mm) (k : Value → Prop) : Prop := match x with
  | .obj C _ => IsC K C ∧ k (.ref C)
  | .ref p => (∃ xs, M p = some (.lst xs) ∧ k (.type "list")) ∨ (∃ xs, M p = some (.dct xs) ∧ k (.type "dict")) ∨ ∃ C fs, M p = some (.ins C fs) ∧ IsC K C ∧ k (.ref C)
  | .ty _ => False
  | .exn _ _ _ => False
  | x => k (.type (tyS x))
theorem ty_of {v : V} {d : Da} (s : Stt K F W M H) (r : RD K W H v d) {k : Value → Prop} (h : tyK K d M k) : ∃ t, TyX K H v t ∧ k t := by
  cases r with
  | non => exact ⟨_, .base .non, h⟩
  | bl b => exact ⟨_, .base (.bl b), h⟩
  | int b => exact ⟨_, .base (.int b), h⟩
  | str b => exact ⟨_, .base (.str b), h⟩
  | ty b => exact h.elim
  | lst hs rv => exact ⟨_, ty_lst hs, h⟩
  | tup hs rv => exact ⟨_, ty_tup hs, h⟩
  | obj w hs rv => exact ⟨_, ty_ins h.1 hs, h.2⟩
  | dct w hs rv => exact ⟨_, .base (.dK hs), h⟩
  | exn _ _ _ => exact h.elim
  | ref p =>
    rcases h with ⟨xs, hm, h⟩ | ⟨xs, hm, h⟩ | ⟨C, fs, hm, c, h⟩
    · obtain ⟨vs, hv, _⟩ := s.list hm
      exact ⟨_, .base (.lst hv), h⟩
    · obtain ⟨u, hu, mr⟩ := s.mem _ _ hm
      cases mr with
      | dct rv => exact ⟨_, .base (.dK hu), h⟩
    · obtain ⟨u, hu, mr⟩ := s.mem _ _ hm
      cases mr with
      | ins rv => exact ⟨_, ty_ins c hu, h⟩
end
/-- isinstance, one class -/
def kIsi (K : PySem.W.Frag) : DC := fun xs M Q => match xs with
  | [.non, .ty T] => kinds.contains T = true ∧ Q (.bl (isK "NoneType" T)) M
  | [.bl _, .ty T] => kinds.contains T = true ∧ Q (.bl (isK "bool" T)) M
  | [.int _, .ty T] => kinds.contains T = true ∧ Q (.bl (isK "int" T)) M
  | [.str _, .ty T] => kinds.contains T = true ∧ Q (.bl (isK "str" T)) M
  | [.lst _, .ty T] => kinds.contains T = true ∧ Q (.bl (isK "list" T)) M
  | [.tup _, .ty T] => kinds.contains T = true ∧ Q (.bl (isK "tuple" T)) M
  | [.dct _, .ty T] => kinds.contains T = true ∧ Q (.bl (isK "dict" T)) M
  | [x, .ty T] => tyK K x M fun t => ∃ b, PySem.W.kitOne K t (.type T) = some b ∧ Q (.bl b) M
  | [x, .ref C] => tyK K x M fun t => ∃ b, PySem.W.kitOne K t (.ref C) = some b ∧ Q (.bl b) M
  | _ => False
section
variable {X : Cx} {k : Nat} {ps : List Str} {sp : DSp} {x m f : Str} {p pos apos : Pos} {a b e e1 e2 o : Expr} {es : List Expr} {fs : DTA} {C : Addr} {fa f1 f2 : DTE} {g : DC}
theorem c_disi : CD X (.builtin "isinstance") (kIsi X.K) := cd_imp fun vs H Q ⟨F, W, M, ds, Qd, r, s, h, k⟩ => by
  refine ⟨_, call_isi, ?_⟩
  have go : ∀ {v c : V} {d e : Da} {T : Value} {b : Bool} {t : Value}, vs = [v, c] → TyX X.K H v t → ClsV c T → PySem.W.kitOne X.K t T = some b → Qd (.bl b) M → rIsi X.K vs H Q := fun e1 ty cc e2 q => ⟨_, _, _, _, _, e1, cc, ty, e2, k.now s (.bl _) q⟩
  unfold kIsi at h
  split at h
  · obtain ⟨v, u, rfl, r1, r2⟩ := r.two; cases r1; cases r2; exact go (d := .non) (e := .non) rfl (.base .non) (.ty _) (kit_ok (by decide) h.1) h.2
  · obtain ⟨v, u, rfl, r1, r2⟩ := r.two; cases r1; cases r2; exact go (d := .non) (e := .non) rfl (.base (.bl _)) (.ty _) (kit_ok (by decide) h.1) h.2
  · obtain ⟨v, u, rfl, r1, r2⟩ := r.two; cases r1; cases r2; exact go (d := .non) (e := .non) rfl (.base (.int _)) (.ty _) (kit_ok (by decide) h.1) h.2
  · obtain ⟨v, u, rfl, r1, r2⟩ := r.two; cases r1; cases r2; exact go (d := .non) (e := .non) rfl (.base (.str _)) (.ty _) (kit_ok (by decide) h.1) h.2
  · obtain ⟨v, u, rfl, r1, r2⟩ := r.two
    cases r2
    cases r1 with
    | lst hs rv => exact go (d := .non) (e := .non) rfl (ty_lst hs) (.ty _) (kit_ok (by decide) h.1) h.2
  · obtain ⟨v, u, rfl, r1, r2⟩ := r.two
    cases r2
    cases r1 with
    | tup hs rv => exact go (d := .non) (e := .non) rfl (ty_tup hs) (.ty _) (kit_ok (by decide) h.1) h.2
  · obtain ⟨v, u, rfl, r1, r2⟩ := r.two
    cases r2
    cases r1 with
    | dct w hs rv => exact go (d := .non) (e := .non) rfl (.base (.dK hs)) (.ty _) (kit_ok (by decide) h.1) h.2
  · obtain ⟨v, u, rfl, r1, r2⟩ := r.two
    cases r2
    obtain ⟨t, ty, b, e, q⟩ := ty_of s r1 h
    exact go (d := .non) (e := .non) rfl ty (.ty _) e q
  · obtain ⟨v, u, rfl, r1, r2⟩ := r.two
    cases r2
    obtain ⟨t, ty, b, e, q⟩ := ty_of s r1 h
    exact go (d := .non) (e := .non) rfl ty (.own _) e q
  · exact h.elim
def gFmt (f : DTE) : DTE := fun δ M Q => f δ M fun x M1 => match x with
  | .str y => Sz y.length ∧ Q (.str y) M1
  | .int i => i.natAbs.log2 < 1920 ∧ Q (.str (toString i)) M1
  | _ => False
theorem d_fmt (he : DE X e fa) : DE X (.FormattedValue e (-1) none pos) (gFmt fa) := imp (pe_fmt he) fun σ H Q ⟨δ, F, W, M, Qd, ev, s, h, kk⟩ => ⟨δ, F, W, M, _, ev, s, h, fun v H1 W1 d M1 g1 s1 r1 q1 => by
  cases r1 <;> first | exact q1.elim | skip
  · exact .inr ⟨_, rfl, q1.1, (kk.mono g1).now s1 (.str _) q1.2⟩
  · exact .inl ⟨_, rfl, q1.1.ok, (kk.mono g1).now s1 (.str _) q1.2⟩⟩
inductive DJ (X : Cx) : List Expr → List DTE → Prop where
  | nil : DJ X [] []
  | cons {e : Expr} {t : DTE} {es : List Expr} {ts : List DTE} (h : DE X e t) (r : DJ X es ts) : DJ X (e :: es) (t :: ts)
/-- the texts one behind the other -/
def gJs : List DTE → Str → De → Mm → (Str → Mm → Prop) → Prop
  | [], acc, _, M, Q => Q acc M
  | t :: ts, acc, δ, M, Q => t δ M fun x M1 => match x with
    | .str y => Sz (acc ++ y).length ∧ gJs ts (acc ++ y) δ M1 Q
    | _ => False
def gJ (ts : List DTE) : DTE := fun δ M Q => gJs ts Str.empty δ M fun z M1 => Q (.str z) M1
theorem d_joined {v1 v2 : Expr} {rest : List Expr} {ts : List DTE} (h : DJ X (v1 :: v2 :: rest) ts) : DE X (.JoinedStr (v1 :: v2 :: rest) pos) (gJ ts) := by
  have pj : ∀ {es : List Expr} {ts : List DTE}, DJ X es ts → PJ X es (ts.map fun t => Li (rE X.K) X.K t) := fun d => by
    induction d with
    | nil => exact .nil
    | cons h r ih => exact .cons h ih
  have run : ∀ (ts : List DTE) (acc : Str) (δ : De) (σ : L2.St) (F W : Addr → Prop) (M : Mm) (H : Hp) (Qd : DK) (Q : VK), EnvR X.K W H δ σ → Stt X.K F W M H → gJs ts acc δ M (fun z M1 => Qd (.str z) M1) → Kt (rE X.K) X.K F W H Qd Q →
      tJs (ts.map fun t => Li (rE X.K) X.K t) acc σ H fun out H1 => Q (.str out) H1 := by
    intro ts
    induction ts with
    | nil => intro acc δ σ F W M H Qd Q ev s h kk; exact kk.now s (.str _) h
    | cons t ts ih =>
      intro acc δ σ F W M H Qd Q ev s h kk
      refine ⟨δ, F, W, M, _, ev, s, h, fun v H1 W1 d M1 g1 s1 r1 q1 => ?_⟩
      cases r1 <;> first | exact q1.elim | skip
      exact ⟨_, rfl, q1.1.ok, ih _ δ σ F W1 M1 H1 Qd Q (ev.mono g1) s1 q1.2 (kk.mono g1)⟩
  exact imp (pe_joined (pj h)) fun σ H Q ⟨δ, F, W, M, Qd, ev, s, h, kk⟩ => run ts _ δ σ F W M H Qd Q ev s h kk
end
end U
set_option Elab.async false
set_option linter.all false
set_option maxRecDepth 100000
set_option maxHeartbeats 2000000
namespace U
open PySem PySem.Spec PyProof.Rows L2
theorem noattr_mk {K : PySem.W.Frag} {C : Addr} {f : Str} (a : PySem.W.findIn K (.ref C) f = some none) : NoAttr K C f := a
theorem hu_of {k : Nat} {A : Around} (r : Room k A) : A.units + 64 < cLine := by have := r.un; omega
theorem hu1_of {k : Nat} {A : Around} (r : Room k A) : A.units + 65 < cLine := by have := r.un; omega
section
variable {X : Cx} {fs : DTA}
end
theorem asInts_fun {α : Type} (g : α → Int) (l : List α) : asInts (l.map fun x => Da.int (g x)) = some (l.map g) := by
  rw [show (l.map fun x => Da.int (g x)) = (l.map g).map Da.int from by rw [List.map_map]; rfl]
  exact asInts_map _
theorem asBls_fun {α : Type} (g : α → Bool) (l : List α) : asBls (l.map fun x => Da.bl (g x)) = some (l.map g) := by
  rw [show (l.map fun x => Da.bl (g x)) = (l.map g).map Da.bl from by rw [List.map_map]; rfl]
  exact asBls_map _
/-- a loop over what was numbers -/
theorem forD_map {α : Type} {g : DTG} {tb : DTS} {D : DEnds} {f : α → Da} (I : List α → De → Mm → Prop)
    (hs : ∀ x l δ M, I (x :: l) δ M → (∀ δ' M', I l δ' M' → forD g tb D (l.map f) δ' M') → g (f x) δ M fun δ2 M2 => tb { D with nx := forD g tb D (l.map f), ct := forD g tb D (l.map f), bk := D.nx } δ2 M2)
    (hn : ∀ δ M, I [] δ M → D.nx δ M) : ∀ {l : List α} {δ : De} {M : Mm}, I l δ M → forD g tb D (l.map f) δ M
  | [], δ, M, h => hn δ M h
  | x :: l, δ, M, h => hs x l δ M h fun δ' M' h' => forD_map I hs hn h'
/-- a loop over data -/
theorem forD_ind {g : DTG} {tb : DTS} {D : DEnds} (I : List Da → De → Mm → Prop)
    (hs : ∀ x l δ M, I (x :: l) δ M → (∀ δ' M', I l δ' M' → forD g tb D l δ' M') → g x δ M fun δ2 M2 => tb { D with nx := forD g tb D l, ct := forD g tb D l, bk := D.nx } δ2 M2)
    (hn : ∀ δ M, I [] δ M → D.nx δ M) : ∀ {l : List Da} {δ : De} {M : Mm}, I l δ M → forD g tb D l δ M
  | [], δ, M, h => hn δ M h
  | x :: l, δ, M, h => hs x l δ M h fun δ' M' h' => forD_ind I hs hn h'
theorem rngD0 (n : Nat) : rngD 0 n = (List.range n).map fun i : Nat => Da.int (i : Int) := by
  unfold rngD
  congr 1
  funext i
  rw [Int.zero_add]
theorem rngD0' {j : Int} {n : Nat} (h : j = n) : rngD 0 j.toNat = (List.range n).map fun i : Nat => Da.int (i : Int) := by
  subst h
  exact rngD0 n
theorem rok {i : Int} (h1 : -1000000 ≤ i) (h2 : i ≤ 1000000) : Rok i := ⟨by omega, by omega⟩
/-- .. over what was something else -/
theorem lcD_map {α : Type} {c : CT} {tt : DTT} {te : DTE} {δ : De} {M : Mm} {g : α → Da} (p : α → Bool) (f : α → Da) : ∀ {l : List α} {k : List Da → Mm → Prop}, (∀ x ∈ l, c.ok (g x) ∧ ∀ Q : Bool → Mm → Prop, Q (p x) M → tt (c.set (g x) δ) M Q) →
    (∀ x ∈ l, p x = true → ∀ Q : DK, Q (f x) M → te (c.set (g x) δ) M Q) → k ((l.filter p).map f) M → lcD c tt te δ (l.map g) k M
  | [], k, _, _, h => h
  | x :: l, k, h1, h2, h => by
    obtain ⟨o, t⟩ := h1 x List.mem_cons_self
    refine ⟨o, t _ ?_⟩
    have r1 : ∀ e ∈ l, c.ok (g e) ∧ ∀ Q : Bool → Mm → Prop, Q (p e) M → tt (c.set (g e) δ) M Q := fun e he => h1 e (List.mem_cons_of_mem _ he)
    have r2 : ∀ e ∈ l, p e = true → ∀ Q : DK, Q (f e) M → te (c.set (g e) δ) M Q := fun e he => h2 e (List.mem_cons_of_mem _ he)
    cases e : p x with
    | true =>
      rw [List.filter_cons_of_pos e, List.map_cons] at h
      exact h2 x List.mem_cons_self e _ (lcD_map p f r1 r2 h)
    | false =>
      rw [List.filter_cons_of_neg (by rw [e]; exact Bool.false_ne_true)] at h
      exact lcD_map p f r1 r2 h
/-- .. without a test -/
theorem lcD_all {α : Type} {c : CT} {te : DTE} {δ : De} {M : Mm} {g : α → Da} (f : α → Da) {l : List α} {k : List Da → Mm → Prop} (h1 : ∀ x ∈ l, c.ok (g x)) (h2 : ∀ x ∈ l, ∀ Q : DK, Q (f x) M → te (c.set (g x) δ) M Q)
    (h : k (l.map f) M) : lcD c gYes te δ (l.map g) k M :=
  lcD_map (fun _ => true) f (fun x hx => ⟨h1 x hx, fun Q q => q⟩) (fun x hx _ => h2 x hx) (by rw [List.filter_eq_self.mpr (fun _ _ => rfl)]; exact h)
/-- one that may change the memory: I by what is still to come and what was made -/
theorem lcD_st {α : Type} {c : CT} {te : DTE} {δ : De} {g : α → Da} {k : List Da → Mm → Prop} (I : List α → List Da → Mm → Prop) (ho : ∀ x, c.ok (g x))
    (hs : ∀ x l acc M, I (x :: l) acc M → ∀ Q : DK, (∀ y M', I l (acc ++ [y]) M' → Q y M') → te (c.set (g x) δ) M Q) (hn : ∀ acc M, I [] acc M → k acc M) : ∀ {l : List α} {acc : List Da} {M : Mm}, I l acc M → lcD c gYes te δ (l.map g) (fun ys M' => k (acc ++ ys) M') M
  | [], acc, M, h => by
    show k (acc ++ []) M
    rw [List.append_nil]; exact hn acc M h
  | x :: l, acc, M, h => ⟨ho x, hs x l acc M h _ fun y M' h' => by
      have e : (fun ys M' => k (acc ++ y :: ys) M') = fun ys M' => k ((acc ++ [y]) ++ ys) M' := by funext ys M'; rw [List.append_assoc]; rfl
      show lcD c gYes te δ (l.map g) (fun ys M' => k (acc ++ y :: ys) M') M'
      rw [e]
      exact lcD_st I ho hs hn h'⟩
/-- a loop over numbers from 0 on: I by how many are done -/
theorem forD_rng {g : DTG} {tb : DTS} {D : DEnds} {n : Nat} (I : Nat → De → Mm → Prop)
    (hs : ∀ (j : Nat) δ M (NX : De → Mm → Prop), j < n → I j δ M → (∀ δ' M', I (j + 1) δ' M' → NX δ' M') → g (.int (j : Int)) δ M fun δ2 M2 => tb { D with nx := NX, ct := NX, bk := D.nx } δ2 M2)
    (hn : ∀ δ M, I n δ M → D.nx δ M) {δ : De} {M : Mm} (h : I 0 δ M) : forD g tb D (rngD 0 n) δ M := by
  rw [rngD0, List.range_eq_range']
  have go : ∀ (k j : Nat) δ M, j + k = n → I j δ M → forD g tb D ((List.range' j k).map fun i : Nat => Da.int (i : Int)) δ M := by
    intro k
    induction k with
    | zero => intro j δ M e h; have e : j = n := by omega
              subst e; exact hn δ M h
    | succ k ih => intro j δ M e h; exact hs j δ M _ (by omega) h fun δ' M' h' => ih (j + 1) δ' M' (by omega) h'
  exact go n 0 δ M (by omega) h
theorem rds_ints {K : PySem.W.Frag} {W : Addr → Prop} {H : Hp} : ∀ ns : List Int, RDs K W H (ns.map V.int) (ns.map Da.int)
  | [] => .nil
  | n :: ns => .cons (.int n) (rds_ints ns)
theorem start_state {K : PySem.W.Frag} {H : Hp} {a : Addr} {ns : List Int} (hS : SqL K H a (ns.map V.int)) : Stt K NoF (fun b => b = a ∧ Rd H a (.lst (ns.map V.int))) (fun _ => none) H ∧ RDs K (fun b => b = a ∧ Rd H a (.lst (ns.map V.int))) H [.ref a] [.lst (ns.map Da.int)] := by
  refine ⟨⟨fun b ⟨e, w⟩ => ?_, fun a w => w.elim, fun a o e => (nomatch e), fun a o e => (nomatch e), fun b o ⟨e, w⟩ q => ?_⟩, .cons (.lst (vs := ns.map V.int) ?_ (rds_ints ns)) .nil⟩
  · subst e
    rcases w with h | ⟨o, h⟩
    · exact ⟨_, h⟩
    · exact ⟨_, h⟩
  · subst e
    rcases w with h | ⟨o, h⟩
    · rw [h] at q; cases q; exact trivial
    · rw [h] at q; cases q; exact trivial
  · rcases hS with h | h
    · exact .inl ⟨⟨rfl, h⟩, h⟩
    · exact .inr (.inr h)
/-- the law's promise -/
def spLawD : DSp := fun ds M Q _ => ∃ ns : List Int, ds = [.lst (ns.map Da.int)] ∧ ns.length ≤ 63 ∧ ∀ M', Q (.bl true) M'
end U
set_option Elab.async false
set_option linter.all false
set_option maxRecDepth 100000
set_option maxHeartbeats 2000000
namespace U
open PySem PySem.Spec PyProof.Rows L2
/-- the number with these bits below N -/
def ofB (f : Nat → Bool) : Nat → Nat
  | 0 => 0
  | n + 1 => ofB f n + if f n = true then 2 ^ n else 0
def led (n E a b m e : Nat) : Bool := (e == n && a.testBit (m * E + e)) || (List.range n).any fun v => a.testBit (m * E + v) && b.testBit (v * E + e)
def sam (n E : Nat) : Nat := ofB (fun k => k / E == k % E) (n * E)
section
variable {n E a b c : Nat} (hE : 0 < E) (hn : n ≤ E)
include hE hn
end
end U
set_option Elab.async false
set_option linter.all false
set_option maxRecDepth 100000
set_option maxHeartbeats 2000000
namespace U
open PySem PySem.Spec PyProof.Rows L2
section
variable {X : Cx} {a b c e : Expr} {es rest : List Expr} {fa fb fc f : DTE} {fs : DTA} {pos p : Pos}
def gDct0M : DTE := fun _ M Q => ∀ p, M p = none → Q (.ref p) (mput M p (.dct []))
theorem d_dct0M : DE X (.Dict [] [] pos) gDct0M := imp pe_dnewK fun σ H Q ⟨δ, F, W, M, Qd, ev, s, h, k⟩ => fun p hp =>
  (k.mono (grow_new s hp)).now (s.newM hp (.dct .nil)) (.ref p) (h p (s.freeM hp))
/-- repr of scalars -/
def kRepr : DC := fun xs M Q => match xs with
  | [.bl k] => Q (.str (if k then "True" else "False")) M
  | [.int i] => i.natAbs.log2 < 1920 ∧ Q (.str (toString i)) M
  | [.non] => Q (.str "None") M
  | _ => False
theorem c_drepr : CD X (.builtin "repr") kRepr := cd_imp fun vs H Q ⟨F, W, M, ds, Qd, r, s, h, k⟩ => by
  refine ⟨_, c_repr, ?_⟩
  unfold kRepr at h
  split at h
  · obtain ⟨v, rfl, r1⟩ := r.one; cases r1; exact k.now s (.str _) h
  · obtain ⟨v, rfl, r1⟩ := r.one; cases r1; exact ⟨h.1, k.now s (.str _) h.2⟩
  · obtain ⟨v, rfl, r1⟩ := r.one; cases r1; exact k.now s (.str _) h
  · exact h.elim
end
/-- two fors that change nothing -/
theorem lc2D_all {α β : Type} {c c1 : CT} {di1 : DTI} {te : DTE} {vs1 : List Nat} {δ : De} {M : Mm} {g : α → Da} (inn : α → List β) (h : β → Da) (f : α → β → Da) : ∀ {l : List α} {k : List Da → Mm → Prop},
    (∀ x ∈ l, c.ok (g x) ∧ Sr (inn x).length ∧ ∀ Q : List Da → Mm → Prop, Q ((inn x).map h) M → di1 (c.set (g x) δ) M Q) →
    (∀ x ∈ l, ∀ y ∈ inn x, c1.ok (h y) ∧ ∀ Q : DK, Q (f x y) M → te (c1.set (h y) (wipeD (c.set (g x) δ) vs1)) M Q) →
    k (l.flatMap fun x => (inn x).map (f x)) M → lc2D c gYes di1 c1 gYes te vs1 δ (l.map g) k M
  | [], k, _, _, q => q
  | x :: l, k, h1, h2, q => by
    obtain ⟨o, z, t⟩ := h1 x List.mem_cons_self
    refine ⟨o, t _ ⟨by rw [List.length_map]; exact z, ?_⟩⟩
    refine lcD_all (f x) (fun y hy => (h2 x List.mem_cons_self y hy).1) (fun y hy => (h2 x List.mem_cons_self y hy).2) ?_
    refine lc2D_all inn h f (fun y hy => h1 y (List.mem_cons_of_mem _ hy)) (fun y hy => h2 y (List.mem_cons_of_mem _ hy)) ?_
    rw [List.flatMap_cons] at q
    exact q
end U
set_option Elab.async false
set_option linter.all false
set_option maxRecDepth 100000
set_option maxHeartbeats 2000000
namespace U
end U
set_option Elab.async false
set_option linter.all false
set_option maxRecDepth 100000
set_option maxHeartbeats 2000000
namespace U
open PySem PySem.Spec PyProof.Rows L2
structure okN (n : Nat) (x : Da) : Prop where
  p : pure? x = true
  c : PyData.canLay0 (toP x) = true
  d : PyData.depth (toP x) ≤ n
theorem okN.ok {n : Nat} {x : Da} (h : okN n x) (hn : n ≤ 64) : okD x = true := by
  unfold okD SeqAt.shaped
  rw [h.p, h.c, Bool.true_and, Bool.true_and]
  exact decide_eq_true (Nat.le_trans h.d hn)
theorem okN.mono {n m : Nat} {x : Da} (h : okN n x) (k : n ≤ m) : okN m x := ⟨h.p, h.c, Nat.le_trans h.d k⟩
theorem okN_non {n : Nat} : okN n .non := ⟨rfl, by simp [toP, PyData.canLay0], by simp [toP, PyData.depth]⟩
theorem okN_int {n : Nat} {i : Int} : okN n (.int i) := ⟨rfl, by simp [toP, PyData.canLay0], by simp [toP, PyData.depth]⟩
theorem okN_str {n : Nat} {x : Str} (h : PyData.strOk x = true) : okN n (.str x) := ⟨rfl, by simp [toP, PyData.canLay0, h], by simp [toP, PyData.depth]⟩
theorem okNs {n : Nat} : ∀ {xs : List Da}, (∀ x ∈ xs, okN n x) → pures? xs = true ∧ PyData.canLayAll0 (toPs xs) = true ∧ PyData.depthAll (toPs xs) ≤ n
  | [], _ => ⟨rfl, by simp [toPs, PyData.canLayAll0], by simp [toPs, PyData.depthAll]⟩
  | x :: xs, h => by
    obtain ⟨h1, h2, h3⟩ := okNs (xs := xs) fun y hy => h y (List.mem_cons_of_mem _ hy)
    have hx := h x List.mem_cons_self
    refine ⟨?_, ?_, ?_⟩
    · show (pure? x && pures? xs) = true; rw [hx.p, h1]; rfl
    · simp only [toPs, PyData.canLayAll0, hx.c, h2, Bool.and_self]
    · have hd := hx.d
      simp only [toPs, PyData.depthAll]
      omega
theorem okN_tup {n : Nat} {xs : List Da} (h : ∀ x ∈ xs, okN n x) : okN (n + 1) (.tup xs) := by
  obtain ⟨h1, h2, h3⟩ := okNs h
  refine ⟨h1, ?_, ?_⟩
  · simp only [toP, PyData.canLay0, h2]
  · simp only [toP, PyData.depth]; omega
theorem okN_lst {n : Nat} {xs : List Da} (h : ∀ x ∈ xs, okN n x) : okN (n + 1) (.lst xs) := by
  obtain ⟨h1, h2, h3⟩ := okNs h
  refine ⟨h1, ?_, ?_⟩
  · simp only [toP, PyData.canLay0, h2]
  · simp only [toP, PyData.depth]; omega
mutual
def plD : Da → Bool
  | .non | .int _ | .str _ => true
  | .lst xs => plDs xs
  | .tup xs => plDs xs
  | _ => false
def plDs : List Da → Bool
  | [] => true
  | x :: xs => plD x && plDs xs
end
mutual
theorem eqP_iff : ∀ {x y : Da}, plD x = true → plD y = true → (PyData.eqv (toP x) (toP y) = true ↔ x = y)
  | .non, y, _, h => by cases y <;> simp_all [plD, toP, PyData.eqv]
  | .int i, y, _, h => by cases y <;> simp_all [plD, toP, PyData.eqv]
  | .str i, y, _, h => by cases y <;> simp_all [plD, toP, PyData.eqv]
  | .lst xs, y, h1, h => by
    cases y with
    | lst ys => simp only [toP, PyData.eqv, Da.lst.injEq]; exact eqPs_iff h1 h
    | _ => simp_all [plD, toP, PyData.eqv]
  | .tup xs, y, h1, h => by
    cases y with
    | tup ys => simp only [toP, PyData.eqv, Da.tup.injEq]; exact eqPs_iff h1 h
    | _ => simp_all [plD, toP, PyData.eqv]
  | .bl _, _, h, _ => by simp [plD] at h
  | .ty _, _, h, _ => by simp [plD] at h
  | .obj _ _, _, h, _ => by simp [plD] at h
  | .ref _, _, h, _ => by simp [plD] at h
  | .dct _, _, h, _ => by simp [plD] at h
theorem eqPs_iff : ∀ {xs ys : List Da}, plDs xs = true → plDs ys = true → (PyData.eqvAll (toPs xs) (toPs ys) = true ↔ xs = ys)
  | [], [], _, _ => by simp [toPs, PyData.eqvAll]
  | [], y :: ys, _, _ => by simp [toPs, PyData.eqvAll]
  | x :: xs, [], _, _ => by simp [toPs, PyData.eqvAll]
  | x :: xs, y :: ys, h1, h2 => by
    have a := Bool.and_eq_true_iff.mp (show (plD x && plDs xs) = true from h1)
    have b := Bool.and_eq_true_iff.mp (show (plD y && plDs ys) = true from h2)
    simp only [toPs, PyData.eqvAll, Bool.and_eq_true, List.cons.injEq]
    rw [eqP_iff a.1 b.1, eqPs_iff a.2 b.2]
end
theorem eqD_iff {x y : Da} (h1 : plD x = true) (h2 : plD y = true) : eqD x y = true ↔ x = y := eqP_iff h1 h2
theorem eqD_dec {x y : Da} {p : Prop} [Decidable p] (h1 : plD x = true) (h2 : plD y = true) (h : x = y ↔ p) : eqD x y = decide p := by
  rw [Bool.eq_iff_iff, eqD_iff h1 h2, h, decide_eq_true_eq]
theorem plDs_of {xs : List Da} (h : ∀ x ∈ xs, plD x = true) : plDs xs = true := by
  induction xs with
  | nil => rfl
  | cons x xs ih =>
    show (plD x && plDs xs) = true
    rw [h x List.mem_cons_self, ih fun y hy => h y (List.mem_cons_of_mem _ hy)]; rfl
def Sub (M2 M1 : Mm) : Prop := ∀ a o, M2 a = some o → M1 a = some o
section
variable {X : Cx} {e : Expr} {f : DTE} {pos : Pos}
def hRetF (f : DTE) : DTS := fun D δ M => f δ M fun x M1 => ∃ M2, Sub M2 M1 ∧ D.rt x M2
theorem z_retF (he : DE X e f) : DS X (.Return (some e) pos) (hRetF f) := ps_imp (ps_ret he) fun D σ H ⟨δ, F, W, M, Dd, ev, s, h, k⟩ =>
  ⟨δ, F, W, M, _, ev, s, h, fun v H1 W1 d M1 g1 s1 r1 ⟨M2, sb, q⟩ => k.rt v H1 W1 d M2 g1 (s1.forget sb) r1 q⟩
end
theorem rds_fun {K : PySem.W.Frag} {W : Addr → Prop} {H : Hp} {α : Type} (f : α → Int) : ∀ l : List α, RDs K W H (l.map fun i => V.int (f i)) (l.map fun i => Da.int (f i))
  | [] => .nil
  | _ :: l => .cons (.int _) (rds_fun f l)
def gLstRg (f : DTE) : DTE := fun δ M Q => f δ M fun x M1 => match x with
  | .int n => (0 ≤ n ∧ n ≤ 5000) ∧ Q (.lst (rngD 0 n.toNat)) M1
  | _ => False
section
variable {X : Cx} {a : Expr} {f : DTE} {pos pos2 p p2 : Pos}
theorem rg_ok {n : Int} (h : 0 ≤ n ∧ n ≤ 5000) : RgOk 0 n := ⟨by decide, by decide, by omega, by omega, by omega⟩
theorem rg_rds {K : PySem.W.Frag} {W : Addr → Prop} {H : Hp} {n : Int} : RDs K W H (rgV 0 n) (rngD 0 n.toNat) := by
  unfold rgV rngD
  rw [Int.sub_zero]
  exact rds_fun (fun i : Nat => (0 : Int) + (i : Nat)) _
theorem d_lstRg (hc : X.calm = true) (m1 : X.mg "list" = none) (m2 : X.mg "range" = none) (ha : DE X a f) (hg1 : Gl X "list" := by rfl) (hg2 : Gl X "range" := by rfl) (na : starEach [a] X.env = (false, eval a X.env) :: starEach [] X.env := by rfl)
    (na2 : starEach [.Call (.Name "range" p2) [a] [] pos2] X.env = (false, eval (.Call (.Name "range" p2) [a] [] pos2) X.env) :: starEach [] X.env := by rfl) : DE X (.Call (.Name "list" p) [.Call (.Name "range" p2) [a] [] pos2] [] pos) (gLstRg f) :=
  imp (pe_listRg hc hg1 m1 (prg_1 hg2 m2 ha na) na2) fun σ H Q ⟨δ, F, W, M, Qd, ev, s, h, k⟩ => ⟨δ, F, W, M, _, ev, s, h, fun v H1 W1 d M1 g1 s1 r1 q1 => by
    cases r1 <;> first | exact q1.elim | skip
    exact ⟨_, rfl, rg_ok q1.1, fun q hq => (k.mono g1).newL s1 hq rg_rds q1.2⟩⟩
end
/-- all but d stands, maybe more -/
def Kx (d : Addr) (M M' : Mm) : Prop := ∀ p o, p ≠ d → M p = some o → M' p = some o
theorem Kx.refl {d : Addr} {M : Mm} : Kx d M M := fun _ _ _ h => h
theorem Kx.trans {d : Addr} {M M1 M2 : Mm} (a : Kx d M M1) (b : Kx d M1 M2) : Kx d M M2 := fun p o h q => b p o h (a p o h q)
theorem Kx.put {d p : Addr} {M M' : Mm} {o : MO} (a : Kx d M M') (h : M' p = none) : Kx d M (mput M' p o) := fun q u n e => by
  rw [mput_ne (fun z => by subst z; rw [a q u n e] at h; cases h)]; exact a q u n e
/-- something that was not there is changed -/
theorem Kx.chg {d p : Addr} {M M' : Mm} {o : MO} (a : Kx d M M') (h : M p = none) : Kx d M (mput M' p o) := fun q u n e => by
  rw [mput_ne (fun z => by subst z; rw [h] at e; cases e)]; exact a q u n e
theorem Kx.del {d p : Addr} {M M' : Mm} (a : Kx d M M') (h : M p = none) : Kx d M (mdel M' p) := fun q u n e => by
  unfold mdel
  rw [if_neg (fun z => by subst z; rw [h] at e; cases e)]; exact a q u n e
theorem Kx.of {d : Addr} {M M' : Mm} (h : ∀ p, p ≠ d → M' p = M p) : Kx d M M' := fun p o n e => (h p n).trans e
theorem mdel_ne {M : Mm} {a b : Addr} (h : b ≠ a) : mdel M a b = M b := by unfold mdel; rw [if_neg h]
/-- a comprehension that may change the memory -/
theorem lcD_st0 {α : Type} {c : CT} {te : DTE} {δ : De} {g : α → Da} {k : List Da → Mm → Prop} (I : List α → List Da → Mm → Prop) {l : List α} {M : Mm} (h : I l [] M) (ho : ∀ x, c.ok (g x))
    (hs : ∀ x l acc M, I (x :: l) acc M → ∀ Q : DK, (∀ y M', I l (acc ++ [y]) M' → Q y M') → te (c.set (g x) δ) M Q) (hn : ∀ acc M, I [] acc M → k acc M) : lcD c gYes te δ (l.map g) k M :=
  lcD_st (acc := []) I ho hs hn h
theorem Kx.back {d : Addr} {M M' : Mm} (a : Kx d M M') : ∃ M2, Sub M2 M' ∧ (∀ p, p ≠ d → M2 p = M p) ∧ M2 d = M' d := by
  refine ⟨fun p => if p = d then M' d else M p, fun p o h => ?_, fun p h => if_neg h, if_pos rfl⟩
  by_cases e : p = d
  · simp only [if_pos e] at h; rw [e]; exact h
  · simp only [if_neg e] at h; exact a p o e h
end U
set_option Elab.async false
set_option linter.all false
set_option maxRecDepth 100000
set_option maxHeartbeats 2000000
namespace US0
open PySem PySem.Spec PyProof.Rows L2
section
variable {P : Program} {w : World} {A : Around} {E : Value → Shared → Prop} {s : Shared}
end
end US0
set_option Elab.async false
set_option linter.all false
set_option maxRecDepth 100000
set_option maxHeartbeats 2000000
namespace U
open PySem PySem.Spec PyProof.Rows L2
section
variable {X : Cx} {a : Expr} {f : DTE} {p p2 q pos : Pos}
end
end U
namespace U
open PySem PySem.Spec PyProof.Rows L2
section
variable {X : Cx}
end
end U
namespace U
open L2
end U
namespace U
open PySem PySem.Spec PyProof.Rows L2
section
variable {X : Cx} {e : Expr} {f : DTE} {ft : DTT} {st : Stmt} {t : DTS}
def gCutT (f : DTT) : DTT := fun δ M Q => ∃ P : Bool → Mm → Prop, f δ M P ∧ ∀ v M1, P v M1 → Q v M1
theorem d_cutT (h : DT X e ft) : DT X e (gCutT ft) := pt_imp h fun σ H Q ⟨δ, F, W, M, Qd, ev, s, ⟨P, h, hp⟩, k⟩ =>
  ⟨δ, F, W, M, P, ev, s, h, fun v H' W' d M' g s r q => k v H' W' d M' g s r (hp d M' q)⟩
def hCut (t : DTS) : DTS := fun D δ M => ∃ P : De → Mm → Prop, t { D with nx := P } δ M ∧ ∀ δ' M', P δ' M' → D.nx δ' M'
theorem z_cut (h : DS X st t) : DS X st (hCut t) := ps_imp h fun D σ H ⟨δ, F, W, M, Dd, ev, s, ⟨P, h, hp⟩, k⟩ =>
  ⟨δ, F, W, M, { Dd with nx := P }, ev, s, h, fun σ H' W' δ' M' g s e q => k.nx σ H' W' δ' M' g s e (hp δ' M' q), k.rt, k.bk, k.ct, k.ex⟩
end
end U
namespace U
open PySem
theorem kit_mk {K : PySem.W.Frag} {T : String} {C : Addr} {x} {r : Bool} (a : PySem.W.clsIn K C = some x) (b : PySem.W.typeIn K (.ref C) = some (.type "type")) (c : PySem.W.subIn K (.type T) (.ref C) = some r) : PySem.W.kitOne K (.type T) (.ref C) = some r := by
  unfold PySem.W.kitOne PySem.W.kitCls
  rw [if_neg (by simp)]
  simp only [a, b]
  rw [if_pos (by simp)]
  exact c
end U
set_option Elab.async false
set_option linter.all false
set_option maxRecDepth 100000
set_option maxHeartbeats 2000000
namespace UP0
open PySem PySem.Spec PySem.Calls PyProof.Rows PySem.W
section
variable {prog : Program} {w : World} {A : Around} {E : Value → Shared → Prop} {s : Shared}
theorem starT {l : Addr} {items : Array Value} {n i : Nat} {Q : List Value → Shared → Prop} (hl : IsTup s.heap l items) (hh : A.handled = none) (hi : i < n) (hn : n ≤ items.size + 1) (hz : items.size ≤ 16384)
    (h : ∀ (h' : Heap) (tk : Nat), (∀ b o, s.heap.get? b = some o → h'.get? b = some o) → Q (items.toList.take i ++ [.ref h'.objs.size] ++ (items.toList.drop i).drop (items.size + 1 - n)) { s with heap := h'.push { cls := .type "list", data := .seq ((items.toList.drop i).take (items.size + 1 - n)).toArray }, toks := tk }) :
    wpAny (model prog w) A (unpackItems (.ref l) n (some i)) Q E s := by
  have hlt : l ≠ s.heap.objs.size := by obtain ⟨o, ho, _⟩ := hl; exact Nat.ne_of_lt (Heap.lt_size ho)
  have hll : l < s.heap.objs.size := by obtain ⟨o, ho, _⟩ := hl; exact Heap.lt_size ho
  unfold unpackItems
  refine wpAny_bind ?_
  unfold notIterableAtAll
  refine wpAny_bind (wpAny_specialOf hl.typeIs slot_tuple_iter.lookup ?_)
  refine wpAny_pure ?_
  simp only [Bool.false_eq_true, if_false]
  refine wpAny_bind (wpAny_holding (iter_tuple hl ?_))
  refine wpAny_bind (wpAny_holding (draw_tuple hlt i 0 _ _ ⟨_, Heap.get?_push_size _ rfl, rfl, rfl⟩ (hl.push _) (by omega) fun h₁ hit₁ hs₁ => ?_))
  have hl₁ : IsTup h₁ l items := (hl.push _).extBut hs₁.extBut hlt
  rw [Nat.zero_add] at hit₁
  have hit₁' := hit₁
  obtain ⟨oi, hoi, _⟩ := hit₁'
  have hl₁' := hl₁
  obtain ⟨ol, hol, _⟩ := hl₁'
  rw [List.drop_zero]
  have hfl : (items.toList.take i).length = i := by rw [List.length_take, Array.length_toList]; omega
  rw [if_neg (show ¬ ((items.toList.take i).length < i) by rw [hfl]; omega)]
  refine wpAny_bind (wpAny_holding (kun_collect (s := { s with heap := h₁ }) (T := "tuple_iterator") (.inr (.inr (.inr rfl))) (Walks.tuple (A := A.in1) hh s.heap.objs.size l hlt items) (fun j u st => st.1.typeIs) (k := i) (by omega) ⟨hit₁, hl₁⟩ (Heap.lt_size hoi) (Heap.lt_size hol) (fun h₂ tk hk => ?_) (by rw [sizeLine_eq]; omega)))
  have hrl : (items.toList.drop i).length = items.size - i := by rw [List.length_drop, Array.length_toList]
  have hmid : (items.toList.drop i).length - (n - 1 - i) = items.size + 1 - n := by rw [hrl]; omega
  show wpAny _ _ (if (items.toList.drop i).length < n - 1 - i then _ else _) _ _ _
  rw [if_neg (by rw [hrl]; omega)]
  show wpAny _ _ (newList ((items.toList.drop i).take ((items.toList.drop i).length - (n - 1 - i))) >>= fun d => pure (items.toList.take i ++ [d] ++ (items.toList.drop i).drop ((items.toList.drop i).length - (n - 1 - i)))) _ _ _
  rw [hmid]
  have he : Heap.ExtBut s.heap.objs.size s.heap h₂ := fun b o hb e => hk b o hb (hs₁.extBut b o hb (Heap.get?_push_of_some _ e))
  refine wpAny_bind (wpAny_newList (wpAny_pure ?_) (by rw [List.length_take, hrl, sizeLine_eq]; omega))
  exact h h₂ tk fun b o e => he b o (Nat.ne_of_lt (Heap.lt_size e)) e
end
end UP0
namespace U
open PySem PySem.Spec PyProof.Rows L2
inductive PWord : Pattern → List Str → Prop
  | one {c : Str} {j pos pos'} : PWord (.MatchValue (.Constant (.str c) j pos) pos') [c]
  | or2 {c d : Str} {j pos pos' j2 pos2 pos2' pos3} : PWord (.MatchOr [.MatchValue (.Constant (.str c) j pos) pos', .MatchValue (.Constant (.str d) j2 pos2) pos2'] pos3) [c, d]
theorem PWord.star {p : Pattern} {cs : List Str} (h : PWord p cs) : p.isStar = false ∧ p.isWildcard = false := by cases h <;> exact ⟨rfl, rfl⟩
section
variable {X : Cx}
theorem pw_value {c : Str} {j pos pos'} {pins : List (Addr × Obj)} {s : Shared} {σ : L2.St} {H : Hp} {z : Str} {t : Tok} {Q : Option (List (Str × Value)) → Shared → Prop} (I : Inv X pins σ H s)
    (h : ∀ s', Inv X pins σ H s' → Q (if z = c then some [] else none) s') : wpAny (model X.prog X.w) X.A (matchPattern (.MatchValue (.Constant (.str c) j pos) pos') X.env (.str z t)) Q X.xe s := by
  refine wpAny_matchPattern_Value ?_
  refine thn ((pe_str (X := X) (x := c) (pos := pos)).run pins s σ H (fun v H' => v = .str c ∧ H' = H) I ⟨rfl, rfl⟩) fun u s1 ⟨v, H1, I1, r, e1, e2⟩ => ?_
  subst e1 e2
  refine thn (op_eq (X := X) pins s1 σ _ (.str z) (.str c) (.str z t) u (fun v H' => v = .bl (decide (V.str z = V.str c)) ∧ H' = H1) I1 ⟨_, rfl⟩ r ⟨rfl, rfl, rfl⟩) fun w s2 ⟨v, H2, I2, r2, e3, e4⟩ => ?_
  subst e3 e4
  obtain rfl := (show w = Value.bool _ from r2)
  refine wpAny_truthy_bool ?_
  have e : (if z = c then some [] else none : Option (List (Str × Value))) = if decide (V.str z = V.str c) = true then some [] else none := by
    by_cases q : z = c
    · subst q; simp
    · rw [if_neg q, if_neg (by simp [q])]
  have := h s2 I2
  rw [e] at this
  cases q : decide (V.str z = V.str c) <;> (rw [q] at this; exact this)
theorem pw_run {p : Pattern} {cs : List Str} (hp : PWord p cs) {pins : List (Addr × Obj)} {s : Shared} {σ : L2.St} {H : Hp} {z : Str} {t : Tok} {Q : Option (List (Str × Value)) → Shared → Prop} (I : Inv X pins σ H s)
    (h : ∀ s', Inv X pins σ H s' → Q (if cs.contains z = true then some [] else none) s') : wpAny (model X.prog X.w) X.A (matchPattern p X.env (.str z t)) Q X.xe s := by
  cases hp with
  | @one c =>
    refine pw_value I fun s' I' => ?_
    have := h s' I'
    have e : ([c].contains z = true) = (z = c) := by simp
    simp only [e] at this
    exact this
  | @or2 c d =>
    refine wpAny_matchPattern_Or (wpAny_matchFirst_cons (pw_value I fun s1 I1 => ?_))
    by_cases q : z = c
    · rw [if_pos q]
      have := h s1 I1
      rw [if_pos (by simp [q])] at this
      exact this
    · rw [if_neg q]
      refine wpAny_matchFirst_cons (pw_value I1 fun s2 I2 => ?_)
      have := h s2 I2
      by_cases q2 : z = d
      · rw [if_pos q2]
        rw [if_pos (by simp [q2])] at this
        exact this
      · rw [if_neg q2]
        rw [if_neg (by simp [q, q2])] at this
        exact wpAny_matchFirst_nil this
/-- names that are bound -/
inductive PCaps : List Pattern → List Str → Prop
  | nil : PCaps [] []
  | cons {n : Str} {pos} {ps : List Pattern} {ns : List Str} : PCaps ps ns → PCaps (.MatchAs none (some n) pos :: ps) (n :: ns)
theorem PCaps.length : ∀ {ps ns}, PCaps ps ns → ps.length = ns.length
  | _, _, .nil => rfl
  | _, _, .cons h => by rw [List.length_cons, List.length_cons, h.length]
theorem PCaps.star : ∀ {ps ns}, PCaps ps ns → ps.findIdx? (·.isStar) = none
  | _, _, .nil => rfl
  | _, _, .cons h => by rw [List.findIdx?_cons, h.star]; rfl
theorem caps_run {M : Model} {A : Around} {E : Value → Shared → Prop} {env : Env} {s : Shared} : ∀ {ps : List Pattern} {ns : List Str} {us : List Value} {Q : Option (List (Str × Value)) → Shared → Prop}, PCaps ps ns → us.length = ns.length → Q (some (ns.zip us)) s → wpAny M A (matchEach ps env us) Q E s
  | _, _, [], _, .nil, _, q => wpAny_matchEach_nil q
  | _, _, u :: us, _, .cons h, l, q => by
    refine wpAny_matchEach_cons (wpAny_matchPattern_Capture ?_)
    exact caps_run h (by simpa using l) q
/-- .. and a name for the rest -/
theorem capsS_run {M : Model} {A : Around} {E : Value → Shared → Prop} {env : Env} {s : Shared} {n : Str} {pos : Pos} {u0 : Value} : ∀ {ps : List Pattern} {ns : List Str} {us : List Value} {Q : Option (List (Str × Value)) → Shared → Prop}, PCaps ps ns → us.length = ns.length → Q (some ((ns ++ [n]).zip (us ++ [u0]))) s →
    wpAny M A (matchEach (ps ++ [.MatchStar (some n) pos]) env (us ++ [u0])) Q E s
  | _, _, [], _, .nil, _, q => by
    show wpAny _ _ (matchEach [.MatchStar (some n) pos] env [u0]) _ _ _
    unfold matchEach
    refine wpAny_bind (wpAny_holding (wpAny_matchEach_nil ?_))
    exact wpAny_pure q
  | _, _, u :: us, _, .cons h, l, q => by
    refine wpAny_matchEach_cons (wpAny_matchPattern_Capture ?_)
    exact capsS_run h (by simpa using l) q
theorem Vals.take' : ∀ {vs : List V} {us : List Value}, Vals vs us → ∀ n, Vals (vs.take n) (us.take n)
  | _, _, _, 0 => .nil
  | _, _, .nil, _ + 1 => .nil
  | _, _, .cons h k, n + 1 => .cons h (Vals.take' k n)
theorem Vals.drop' : ∀ {vs : List V} {us : List Value}, Vals vs us → ∀ n, Vals (vs.drop n) (us.drop n)
  | _, _, h, 0 => h
  | _, _, .nil, _ + 1 => .nil
  | _, _, .cons h k, n + 1 => Vals.drop' k n
structure CasD where
  cs : List Str
  is : List Nat
  st : Option Nat
  body : DTS
/-- the names' values, one after the other -/
def setAll : List Nat → List Da → De → De
  | i :: is, d :: ds, δ => setAll is ds (δ.set i (some d))
  | _, _, δ => δ
def hCases : List CasD → Str → List Da → DTS
  | [], _, _ => hNext
  | c :: r, z, xs => fun D δ M => match c.st with
    | none => if (xs.length == c.is.length && c.cs.contains z) = true then c.body D (setAll c.is xs δ) M else hCases r z xs D δ M
    | some j => if (decide (c.is.length ≤ xs.length) && c.cs.contains z) = true then c.body D (setAll (c.is ++ [j]) (xs.take c.is.length ++ [.lst (xs.drop c.is.length)]) δ) M else hCases r z xs D δ M
/-- the subject: a tuple that begins with a word -/
def hMatch (f : DTE) (cs : List CasD) : DTS := fun D δ M => f δ M fun x M1 => match x with
  | .tup (.str z :: xs) => xs.length ≤ 10000 ∧ hCases cs z xs D δ M1
  | _ => False
/-- the names' slots -/
structure Slts (X : Cx) (ns : List Str) (is : List Nat) : Prop where
  len : ns.length = is.length
  at_ : ∀ (k : Nat) (n : Str) (i : Nat), ns[k]? = some n → is[k]? = some i → X.N[i]? = some n ∧ Loc X.env.scope n ∧ (X.fn n = true ∨ X.env.scope.names.lookup n = some .local)
theorem bind_all (hN : X.N.Nodup) {pins : List (Addr × Obj)} {H : Hp} {K : PySem.W.Frag} {W : Addr → Prop} {Q : Unit → Shared → Prop} : ∀ (ns : List Str) (is : List Nat) (us : List Value) (vs : List V) (ds : List Da) (σ : L2.St) (δ : De) (s : Shared), Slts X ns is → Vals vs us → RDs K W H vs ds → us.length = ns.length → Inv X pins σ H s → EnvR K W H δ σ →
    (∀ σ' s', Inv X pins σ' H s' → EnvR K W H (setAll is ds δ) σ' → Q () s') → wpAny (model X.prog X.w) X.A (assignInOrder ((ns.zip us).map fun (n, _) => bindName X.env n) ((ns.zip us).map (·.2))) Q X.xe s := by
  intro ns
  induction ns with
  | nil =>
    intro is us vs ds σ δ s S r rd l I e q
    have e1 : is = [] := List.eq_nil_of_length_eq_zero S.len.symm
    subst e1
    exact wpAny_assignInOrder_none (q σ s I e)
  | cons n ns ih =>
    intro is us vs ds σ δ s S r rd l I e q
    cases is with
    | nil => exact absurd S.len (by simp)
    | cons i is =>
      cases us with
      | nil => exact absurd l (by simp)
      | cons u us =>
        cases r with
        | @cons v _ vs _ r rr =>
          cases rd with
          | @cons _ _ d ds rd rrd =>
            obtain ⟨h1, h2, h3⟩ := S.at_ 0 n i rfl rfl
            refine wpAny_assignInOrder_more (wpAny_bindName (store_ok I hN h1 h2 r (fun s' I' => ?_) h3))
            exact ih is us vs ds _ _ s' ⟨by simpa using S.len, fun k n' i' e1 e2 => S.at_ (k + 1) n' i' e1 e2⟩ rr rrd (by simpa using l) I' (e.set rd i) q
/-- the cases of the text -/
inductive DCases (X : Cx) : List MatchCase → List CasD → Prop
  | nil : DCases X [] []
  | cons {p : Pattern} {ps : List Pattern} {pos : Pos} {cs ns : List Str} {ns' : List Str} {is : List Nat} {b : List Stmt} {t : DTS} {rest : List MatchCase} {r : List CasD} (hp : PWord p cs) (hc : PCaps ps ns) (hs : Slts X ns is) (hb : DB X b t) (hr : DCases X rest r) : DCases X (⟨.MatchSequence (p :: ps) pos, none, b⟩ :: rest) (⟨cs, is, none, t⟩ :: r)
  | star {p : Pattern} {ps : List Pattern} {pos pos' : Pos} {n : Str} {j : Nat} {cs ns : List Str} {is : List Nat} {b : List Stmt} {t : DTS} {rest : List MatchCase} {r : List CasD} (hp : PWord p cs) (hc : PCaps ps ns) (hs : Slts X (ns ++ [n]) (is ++ [j])) (hb : DB X b t) (hr : DCases X rest r) : DCases X (⟨.MatchSequence (p :: (ps ++ [.MatchStar (some n) pos'])) pos, none, b⟩ :: rest) (⟨cs, is, some j, t⟩ :: r)
end
end U
set_option Elab.async false
set_option linter.all false
set_option maxRecDepth 100000
set_option maxHeartbeats 2000000
namespace U
open PySem PySem.Spec PyProof.Rows L2
theorem wp_seqStar {M : Model} {A : Around} {E : Value → Shared → Prop} {s : Shared} {env : Env} {ps : List Pattern} {pos : Pos} {v : Value} {i : Nat} {Q : Option (List (Str × Value)) → Shared → Prop}
    (h : wpAny M A (collectionFlag true v) (fun b s₁ => if b then wpAny M A (pyLen v) (fun m s₂ => if m < (ps.length : Int) - 1 then Q none s₂ else
        wpAny M A (unpackItems v ps.length (some i)) (fun vs s₃ => wpAny M A (matchEach ps env vs) Q E s₃) E s₂) E s₁ else Q none s₁) E s)
    (hstar : ps.findIdx? (·.isStar) = some i) (hn : ps.length > 1) (hwild : (ps.all fun p => p.isWildcard || (p.isStar && p.names.isEmpty)) = false) (hne : (ps[i]?.elim [] (·.names)).isEmpty = false) :
    wpAny M A (matchPattern (.MatchSequence ps pos) env v) Q E s := by
  rw [arm_matchPattern_MatchSequence]
  refine wpAny_bind (wpAny_standAt ?_)
  refine wpAny_bind (wpAny_mono h (fun b s₁ h₁ => ?_) (fun _ _ he => he))
  cases b with
  | false => exact wpAny_pure h₁
  | true =>
    simp only [hstar, hwild, hn, hne, Bool.not_true, Bool.false_eq_true, if_false, if_true] at h₁ ⊢
    refine wpAny_bind (wpAny_mono h₁ (fun m s₂ h₂ => ?_) (fun _ _ he => he))
    by_cases hm : m < (ps.length : Int) - 1
    · rw [if_pos hm] at h₂ ⊢
      exact wpAny_pure h₂
    · rw [if_neg hm] at h₂ ⊢
      exact wpAny_bind h₂
theorem idx_star {p : Pattern} {cs ns : List Str} (hp : PWord p cs) : ∀ {ps : List Pattern} {n : Str} {pos : Pos}, PCaps ps ns → (p :: (ps ++ [.MatchStar (some n) pos])).findIdx? (·.isStar) = some (ps.length + 1) := by
  intro ps n pos h
  rw [List.findIdx?_cons, hp.star.1]
  have : (ps ++ [Pattern.MatchStar (some n) pos]).findIdx? (fun q : Pattern => q.isStar) = some ps.length := by
    rw [List.findIdx?_append, h.star]
    simp [List.findIdx?_cons, Pattern.isStar]
  rw [this]; rfl
theorem wild_no {p : Pattern} {cs : List Str} (hp : PWord p cs) (ps : List Pattern) : ((p :: ps).all fun p => p.isWildcard || (p.isStar && p.names.isEmpty)) = false := by
  rw [List.all_cons, hp.star.1, hp.star.2]; rfl
section
variable {X : Cx}
theorem cases_run (hc : X.calm = true) (hN : X.N.Nodup) {mcs : List MatchCase} {cds : List CasD} (dc : DCases X mcs cds) : ∀ {pins : List (Addr × Obj)} {s : Shared} {σ : L2.St} {H : Hp} {D : Ends} {F W : Addr → Prop} {M : Mm} {Dd : DEnds} {δ : De} {a : Addr} {z : Str} {vs : List V} {xs : List Da} {first : Bool},
    Inv X pins σ H s → EnvR X.K W H δ σ → Stt X.K F W M H → Sp' X.K W H a (V.str z :: vs) → RDs X.K W H vs xs → xs.length ≤ 10000 → hCases cds z xs Dd δ M → KS X.K (EXm X) F W H Dd D →
    wpAny (model X.prog X.w) X.A (matchCases mcs X.env (.ref a) first) (SP X pins D) X.xe s := by
  induction dc with
  | nil =>
    intro pins s σ H D F W M Dd δ a z vs xs first I e st hsp rv hl h k
    exact wpAny_matchCases_nil ⟨σ, H, I, k.nx.now st e h⟩
  | @cons p ps pos cs ns ns' is b t rest r hp hcp hs hb hr ih =>
    intro pins s σ H D F W M Dd δ a z vs xs first I e st hsp rv hl h k
    obtain ⟨its, ra, ht, hz⟩ := I.tuple hsp.sq
    have hlen := rv.length
    have hra := ra.length
    rw [List.length_cons] at hra
    have hfit : (its.toArray.size : Int) < 2 ^ 63 := by rw [List.size_toArray]; omega
    have hpl := hcp.length
    refine wpAny_matchCases_cons ?_
    refine wpAny_matchPattern_Sequence (wpAny_collectionFlag ht.typeIs flag_seq_tuple ?_) (by rw [List.findIdx?_cons, hp.star.1, hcp.star]; rfl) (wild_no hp ps)
    rw [if_pos rfl]
    refine pyLen_tuple ht hfit ?_
    have I1 : Inv X pins σ H { s with toks := s.toks + 1 + 1 } := I.kept (h' := s.heap) fun _ _ q => q
    by_cases hn : xs.length = is.length
    · have hsz : its.toArray.size = (p :: ps).length := by rw [List.size_toArray, List.length_cons]; have := hs.len; omega
      rw [if_neg (by rw [hsz]; simp), ← hsz]
      refine wpAny_unpackItems_tuple (I1.ok.hd hc) ht fun h' hx => ?_
      have I2 : Inv X pins σ H { s with heap := h', toks := s.toks + 1 + 1 } := I1.kept fun b o q => hx b o (Nat.ne_of_lt (Heap.lt_size q)) q
      cases its with
      | nil => simp at hra
      | cons u0 us =>
        cases ra with
        | cons r0 rr =>
          obtain ⟨t0, rfl⟩ := (show ∃ t, u0 = Value.str z t from r0)
          refine wpAny_matchEach_cons (pw_run hp I2 fun s3 I3 => ?_) hp.star.1
          have h' : (if (xs.length == is.length && cs.contains z) = true then t Dd (setAll is xs δ) M else hCases r z xs Dd δ M) := h
          cases hw : cs.contains z with
          | false =>
            rw [hw, Bool.and_false, if_neg (by decide)] at h'
            exact ih I3 e st hsp rv hl h' k
          | true =>
            rw [hw, Bool.and_true, if_pos (by simp [hn])] at h'
            simp only [if_true]
            refine caps_run hcp (by have := hs.len; rw [List.length_cons] at hra; omega) ?_
            simp only [List.nil_append]
            exact bind_all hN ns is us vs xs σ δ _ hs rr rv (by have := hs.len; rw [List.length_cons] at hra; omega) I3 e fun σ' s' I' e' => hb.run pins s' σ' H D I' ⟨_, F, W, M, Dd, e', st, h', k⟩
    · have hsz : its.toArray.size ≠ (p :: ps).length := by rw [List.size_toArray, List.length_cons]; have := hs.len; omega
      rw [if_pos (by simp only [bne_iff_ne, ne_eq]; omega)]
      have h' : (if (xs.length == is.length && cs.contains z) = true then t Dd (setAll is xs δ) M else hCases r z xs Dd δ M) := h
      rw [if_neg (by simp [hn])] at h'
      exact ih I1 e st hsp rv hl h' k
  | @star p ps pos pos' n j cs ns is b t rest r hp hcp hs hb hr ih =>
    intro pins s σ H D F W M Dd δ a z vs xs first I e st hsp rv hl h k
    obtain ⟨its, ra, ht, hz⟩ := I.tuple hsp.sq
    have hlen := rv.length
    have hra := ra.length
    rw [List.length_cons] at hra
    have hfit : (its.toArray.size : Int) < 2 ^ 63 := by rw [List.size_toArray]; omega
    have hpl := hcp.length
    have hsl := hs.len
    rw [List.length_append, List.length_append] at hsl
    have hil : ns.length = is.length := by simpa using hsl
    refine wpAny_matchCases_cons ?_
    refine wp_seqStar (i := ps.length + 1) (wpAny_collectionFlag ht.typeIs flag_seq_tuple ?_) (idx_star hp hcp) (by simp) (wild_no hp _) (by simp [Pattern.names])
    rw [if_pos rfl]
    refine pyLen_tuple ht hfit ?_
    have I1 : Inv X pins σ H { s with toks := s.toks + 1 + 1 } := I.kept (h' := s.heap) fun _ _ q => q
    have hpsl : (p :: (ps ++ [Pattern.MatchStar (some n) pos'])).length = ps.length + 2 := by simp
    rw [hpsl]
    have h' : (if (decide (is.length ≤ xs.length) && cs.contains z) = true then t Dd (setAll (is ++ [j]) (xs.take is.length ++ [.lst (xs.drop is.length)]) δ) M else hCases r z xs Dd δ M) := h
    by_cases hn : is.length ≤ xs.length
    · rw [if_neg (by rw [List.size_toArray]; omega)]
      refine UP0.starT ht (I1.ok.hd hc) (by omega) (by rw [List.size_toArray]; omega) (by rw [List.size_toArray]; omega) fun hp1 tk hx => ?_
      have I2 : Inv X pins σ H { s with heap := hp1, toks := tk } := I1.kept hx
      cases its with
      | nil => simp at hra
      | cons u0 us =>
        cases ra with
        | cons r0 rr =>
          obtain ⟨t0, rfl⟩ := (show ∃ t, u0 = Value.str z t from r0)
          rw [List.length_cons] at hra
          have ul : us.length = vs.length := by omega
          have e1 : (Value.str z t0 :: us).toArray.toList.take (ps.length + 1) = Value.str z t0 :: us.take ps.length := rfl
          have e2 : (Value.str z t0 :: us).toArray.toList.drop (ps.length + 1) = us.drop ps.length := rfl
          have e3 : (Value.str z t0 :: us).toArray.size + 1 - (ps.length + 2) = us.length - ps.length := by rw [List.size_toArray, List.length_cons]; omega
          have e4 : (us.drop ps.length).take (us.length - ps.length) = us.drop ps.length := List.take_of_length_le (by rw [List.length_drop]; omega)
          have e5 : (us.drop ps.length).drop (us.length - ps.length) = [] := List.drop_of_length_le (by rw [List.length_drop]; omega)
          rw [e1, e2, e3, e4, e5, List.append_nil]
          have rdrop : Vals (vs.drop ps.length) (us.drop ps.length) := Vals.drop' rr _
          have hf : H hp1.objs.size = none := I2.fresh
          have I3 := I2.lnew (t' := tk) rdrop (by rw [List.length_drop]; rw [List.length_cons] at hz; omega)
          obtain ⟨st3, g3⟩ := st.new (p := hp1.objs.size) hf (.lst (vs.drop ps.length))
          have rv3 := rv.mono g3
          show wpAny _ _ (matchEach _ _ (Value.str z t0 :: (us.take ps.length ++ [.ref hp1.objs.size]))) _ _ _
          refine wpAny_matchEach_cons (pw_run hp I3 fun s4 I4 => ?_) hp.star.1
          cases hw : cs.contains z with
          | false =>
            rw [hw, Bool.and_false, if_neg (by decide)] at h'
            exact ih I4 (e.mono g3) st3 (hsp.mono g3) rv3 hl h' (k.mono g3)
          | true =>
            rw [hw, Bool.and_true, if_pos (by simp [hn])] at h'
            simp only [if_true]
            have tl : (us.take ps.length).length = ns.length := by rw [List.length_take]; omega
            refine capsS_run hcp tl ?_
            simp only [List.nil_append]
            have a1 : Vals (vs.take ps.length ++ [V.ref hp1.objs.size]) (us.take ps.length ++ [Value.ref hp1.objs.size]) := (Vals.take' rr _).append (.cons rfl .nil)
            have a2 : RDs X.K (wadd W hp1.objs.size) (upd H hp1.objs.size (.lst (vs.drop ps.length))) (vs.take ps.length ++ [V.ref hp1.objs.size]) (xs.take is.length ++ [.lst (xs.drop is.length)]) := by
              have hpi : ps.length = is.length := by omega
              rw [hpi]
              rw [hpi] at rv3
              exact (rv3.take _).append (.cons (.lst (.inl ⟨.inl rfl, .inl upd_same⟩) (rv3.drop _)) .nil)
            exact bind_all hN (ns ++ [n]) (is ++ [j]) _ _ _ σ δ _ hs a1 a2 (by rw [List.length_append, List.length_append, tl]; rfl) I4 (e.mono g3) fun σ' s' I' e' => hb.run pins s' σ' _ D I' ⟨_, F, _, M, Dd, e', st3, h', k.mono g3⟩
    · rw [if_pos (by rw [List.size_toArray]; omega)]
      rw [if_neg (by simp [hn])] at h'
      exact ih I1 e st hsp rv hl h' k
theorem z_match {subj : Expr} {f : DTE} {mcs : List MatchCase} {cds : List CasD} {pos : Pos} (hc : X.calm = true) (hN : X.N.Nodup) (he : DE X subj f) (dc : DCases X mcs cds) : DS X (.Match subj mcs pos) (hMatch f cds) := by
  refine ⟨fun pins s σ H D I ⟨δ, F, W, M, Dd, ev, st, h, k⟩ => ?_⟩
  refine wpAny_Match (thn (he.run pins s σ H (fun x H1 => ∃ W1 d M1, Grow F W H W1 H1 ∧ Stt X.K F W1 M1 H1 ∧ RD X.K W1 H1 x d ∧ (match d with
    | .tup (.str z :: xs) => xs.length ≤ 10000 ∧ hCases cds z xs Dd δ M1
    | _ => False)) I ⟨δ, F, W, M, _, ev, st, h, fun v H1 W1 d M1 g1 s1 r1 q1 => ⟨W1, d, M1, g1, s1, r1, q1⟩⟩) fun v s1 ⟨x, H1, I1, rv, W1, d, M1, g1, s2, r1, q1⟩ => ?_)
  split at q1
  · cases r1 with
    | @tup a ws _ hsp rws =>
      cases rws with
      | cons r0 rr =>
        cases r0
        obtain rfl : v = Value.ref a := rv
        exact cases_run hc hN dc I1 (ev.mono g1) s2 hsp rr q1.1 q1.2 (k.mono g1)
  · exact q1.elim
end
end U
set_option Elab.async false
set_option linter.all false
set_option maxRecDepth 100000
set_option maxHeartbeats 2000000
namespace UX0
open PySem PySem.Spec PyProof.Rows L2 PpSet
def keyS (e : Int × Value) : Str := match e.2 with | .str k _ => k | _ => Str.empty
theorem is_str_k {P : Program} {w : World} (k : Str) (tk : Tok) : (PySem.strKind P w).is k (.str k tk) = true := by show Value.isStrOf k (.str k tk) = true; simp [Value.isStrOf]
def GoodS (w : World) (e : Int × Value) : Prop := ∃ k tk, e.2 = Value.str k tk ∧ e.1 = hashStr w k
/-- the set of bools at a: S its members, n their number; its table rises and can be walked -/
def SetS (w : World) (h : Heap) (a : Addr) (S : Str → Bool) (n : Nat) : Prop :=
  ∃ o es ep t, h.get? a = some o ∧ o.ExactSet ∧ o.data = .set es ep t ∧ (∀ e ∈ es.toList, GoodS w e) ∧ (es.toList.map keyS).Nodup ∧ (∀ k, S k = true ↔ k ∈ es.toList.map keyS) ∧
    es.size < scanBound ∧ t.fits es.size = true ∧ es.size = n ∧ Ris t.place.toList ∧ (w.params.followText "set-order" = true ∨ t.led = true)

section
variable {P : Program} {w : World} {h h' : Heap} {a : Addr} {S : Str → Bool} {n : Nat}

theorem SetS.at (R : SetS w h a S n) (k : ∀ o, h.get? a = some o → h'.get? a = some o) : SetS w h' a S n := by
  obtain ⟨o, es, ep, t, ho, r⟩ := R
  exact ⟨o, es, ep, t, k o ho, r⟩
theorem SetS.lt (R : SetS w h a S n) : a < h.objs.size := by
  obtain ⟨o, es, ep, t, ho, r⟩ := R
  exact Heap.lt_size ho
theorem SetS.congr {S' : Str → Bool} (R : SetS w h a S n) (e : ∀ k, S' k = S k) : SetS w h a S' n := by
  have q : S' = S := funext e
  rw [q]; exact R
theorem goodS_elems {l : List (Int × Value)} (g : ∀ e ∈ l, GoodS w e) : ElemsOf (PySem.strKind P w) l := fun e he => by
  obtain ⟨k, tk, h1, h2⟩ := g e he
  exact ⟨⟨k, by rw [h1]; exact is_str_k (P := P) (w := w) k tk, h2⟩, by rw [h1] <;> rfl⟩
theorem goodS_is {e : Int × Value} (g : GoodS w e) (k : Str) : (PySem.strKind P w).is k e.2 = true ↔ keyS e = k := by
  obtain ⟨k0, t0, h1, _⟩ := g
  unfold keyS
  rw [h1]
  show (Value.isStrOf k (.str k0 t0) = true) ↔ k0 = k
  simp only [Value.isStrOf, beq_iff_eq]
theorem goodS_mem {l : List (Int × Value)} (g : ∀ e ∈ l, GoodS w e) (k : Str) : k ∈ l.map keyS ↔ ∃ e ∈ l, (PySem.strKind P w).is k e.2 = true := by
  rw [List.mem_map]
  constructor
  · rintro ⟨e, he, q⟩
    exact ⟨e, he, (goodS_is (g e he) k).2 q⟩
  · rintro ⟨e, he, q⟩
    exact ⟨e, he, (goodS_is (g e he) k).1 q⟩
theorem SetS.setOf (R : SetS w h a S n) : h.SetOf (PySem.strKind P w) a S n := by
  obtain ⟨o, es, ep, t, ho, hx, hd, g, nd, hm, hb, hf, hn, _⟩ := R
  exact ⟨o, es, ep, t, ho, hx, hd, goodS_elems g, fun k => (hm k).trans (goodS_mem g k), hb, hf, hn⟩
end

section
variable {P : Program} {w : World} {A : Around} {E : Value → Shared → Prop} {s : Shared} {a : Addr} {S : Str → Bool} {n : Nat}

theorem storeS_at {h : Heap} {a : Addr} {o : Obj} {es es' : Array (Int × Value)} {ep : Nat} {t t' : SetTable} (ho : h.get? a = some o) (hd : o.data = .set es ep t) :
    (h.update a (Obj.putSet es' t')).get? a = some { o with data := .set es' (ep + 1) t' } := by
  have q := Heap.get?_update_self (Obj.putSet es' t') ho (by rw [putSet_of es' t' hd]; rfl)
  rw [putSet_of es' t' hd] at q
  exact q

theorem setS_add_tail {g : Bool → Sem Unit} (hg : ∀ (b : Bool) (s₁ : Shared) (Q' : Unit → Shared → Prop), Q' () s₁ → wpAny (model P w) A (g b) Q' E s₁)
    {o : Obj} {es : Array (Int × Value)} {ep : Nat} {t : SetTable} (ho : s.heap.get? a = some o) (hex : o.ExactSet) (hd : o.data = .set es ep t)
    {es1 : Array (Int × Value)} {t2 : SetTable} {S' : Str → Bool} (g1 : ∀ e ∈ es1.toList, GoodS w e) (nd1 : (es1.toList.map keyS).Nodup) (m1 : ∀ k, S' k = true ↔ k ∈ es1.toList.map keyS)
    (hb1 : es1.size < scanBound) (hf2 : t2.fits es1.size = true) (hr : Ris t2.place.toList) (hl : w.params.followText "set-order" = true ∨ t2.led = true) {wasDummy : Bool} {R : Option Bool → Shared → Prop}
    (hR : ∀ h', Heap.SameBut a s.heap h' → SetS w h' a S' es1.size → R (some true) { s with heap := h' }) :
    wpAny (model P w) A (do
        storeSet a es1 t2
        if (!wasDummy && t2.tooFull) = true then do
            g (relayAll t2 es1 (SetTable.grown es1.size)).2.2
            storeSet a (relayAll t2 es1 (SetTable.grown es1.size)).1 (relayAll t2 es1 (SetTable.grown es1.size)).2.1
            pure (some true)
          else pure (some true)) R E s := by
  refine wpAny_bind (wpAny_storeSet_of ho hd ?_ (fits_of_scanBound hb1))
  have ho1 := storeS_at (es' := es1) (t' := t2) ho hd
  have sb1 := Heap.SameBut.update s.heap a (Obj.putSet es1 t2)
  split
  · have pm := relayAll_perm t2 es1 (SetTable.grown es1.size)
    have hf3 := relayAll_fits t2 es1 (SetTable.grown es1.size)
    have hr3 := relayAll_ris t2 es1 (SetTable.grown es1.size)
    have hl3 := relayAll_led t2 es1 (SetTable.grown es1.size)
    generalize relayAll t2 es1 (SetTable.grown es1.size) = Z at pm hf3 hr3 hl3 ⊢
    obtain ⟨es2, t3, gave⟩ := Z
    dsimp only at pm hf3 hr3 hl3 ⊢
    have hsz : es2.size = es1.size := by rw [← Array.length_toList, pm.length_eq, Array.length_toList]
    have hb2 : es2.size < scanBound := by rw [hsz]; exact hb1
    refine wpAny_bind (hg _ _ _ ?_)
    refine wpAny_bind (wpAny_storeSet_of ho1 rfl ?_ (fits_of_scanBound hb2))
    have ho2 := storeS_at (es' := es2) (t' := t3) ho1 rfl
    refine wpAny_pure (hR _ (sb1.trans (Heap.SameBut.update _ a _)) ?_)
    exact ⟨_, es2, _, t3, ho2, hex, rfl, fun e he => g1 e (pm.mem_iff.mp he), (pm.map keyS).nodup_iff.mpr nd1, fun k => (m1 k).trans (pm.map keyS).mem_iff.symm, hb2, hf3, hsz, hr3,
      hl.imp id fun z => by rw [hl3]; exact z⟩
  · exact wpAny_pure (hR _ sb1 ⟨_, es1, _, t2, ho1, hex, rfl, g1, nd1, m1, hb1, hf2, rfl, hr, hl⟩)

theorem setS_add_hashed {k : Str} {tk : Tok} {Q : Bool → Shared → Prop} (R : SetS w s.heap a S n) (room : n + 1 < scanBound)
    (hQ : ∀ h', Heap.SameBut a s.heap h' → SetS w h' a (fun j => S j || decide (j = k)) (if S k = true then n else n + 1) → Q (!S k) { s with heap := h' }) :
    wpAny (model P w) A (setAddHashed a (.str k tk) ((PySem.strKind P w).hash k)) Q E s := by
  obtain ⟨o, es, ep, t, ho, hex, hd, g, nd, hm, hb, hf, hn, hr, hl⟩ := R
  have hkey : (PySem.strKind P w).is k (.str k tk) = true := is_str_k (P := P) (w := w) k tk
  have hsc : (Value.str k tk).scannable = true := rfl
  have hel : ElemsOf (PySem.strKind P w) es.toList := goodS_elems g
  unfold setAddHashed setAddHashedIn
  refine wpAny_holding (wpAny_bind (wpAny_setState_of ho hd hf ?_))
  dsimp only
  rw [byScan_of hsc hb hel]
  simp only [↓reduceIte]
  unfold setAddByScan
  refine wpAny_bind ?_
  refine wpAny_bind (wpAny_rule ?_)
  refine wpAny_bind (wpAny_setScan_of hkey ho hd hf hel ?_)
  cases hfi : List.findIdx? (fun e => (PySem.strKind P w).is k e.2) es.toList with
  | some j =>
    dsimp only
    obtain ⟨hj, pj, _⟩ := List.findIdx?_eq_some_iff_getElem.mp hfi
    have hSk : S k = true := (hm k).2 ((goodS_mem (P := P) (w := w) g k).2 ⟨es.toList[j], List.getElem_mem hj, pj⟩)
    refine wpAny_pure (wpAny_pure ?_)
    have q := hQ s.heap (Heap.SameBut.refl a s.heap) ⟨o, es, ep, t, ho, hex, hd, g, nd, fun i => by
      rw [Bool.or_eq_true, decide_eq_true_eq, ← hm i]
      exact ⟨fun z => z.elim id (fun e => e ▸ hSk), .inl⟩, hb, hf, by rw [if_pos hSk]; exact hn, hr, hl⟩
    rw [hSk] at q
    exact q
  | none =>
    dsimp only
    have hnk : k ∉ es.toList.map keyS := fun z => by
      obtain ⟨e, he, q⟩ := (goodS_mem (P := P) (w := w) g k).1 z
      have c := List.findIdx?_eq_none_iff.mp hfi e he
      rw [q] at c
      cases c
    have hSk : S k = false := by
      cases q : S k with
      | false => rfl
      | true => exact absurd ((hm k).1 q) hnk
    have hgw : ∀ (b : Bool) {s₁ : Shared} {Q' : Unit → Shared → Prop}, Q' () s₁ → wpAny (model P w) A (match b with | true => rule "set.scan.the-table-gave-way" | false => pure ()) Q' E s₁ :=
      fun b s₁ Q' q => by cases b <;> first | exact wpAny_pure q | exact wpAny_rule q
    have pm := layNew_perm t es ((PySem.strKind P w).hash k) (.str k tk)
    have hf1 := layNew_fits t es ((PySem.strKind P w).hash k) (.str k tk)
    have hr1 := layNew_ris t es ((PySem.strKind P w).hash k) (.str k tk) hr
    have hl1 := layNew_led t es ((PySem.strKind P w).hash k) (.str k tk)
    generalize layNew t es ((PySem.strKind P w).hash k) (.str k tk) = Z at pm hf1 hr1 hl1 ⊢
    obtain ⟨es1, t1, wasDummy, gave⟩ := Z
    dsimp only at pm hf1 hr1 hl1 ⊢
    rw [Array.toList_push] at pm
    have pc : es1.toList.Perm (((PySem.strKind P w).hash k, Value.str k tk) :: es.toList) := pm.trans (List.perm_append_singleton _ _)
    have pk : (es1.toList.map keyS).Perm (k :: es.toList.map keyS) := pc.map keyS
    have g1 : ∀ e ∈ es1.toList, GoodS w e := fun e he => by
      rcases List.mem_cons.mp (pc.mem_iff.mp he) with z | z
      · rw [z]; exact ⟨k, tk, rfl, rfl⟩
      · exact g e z
    have nd1 : (es1.toList.map keyS).Nodup := pk.nodup_iff.mpr (List.nodup_cons.mpr ⟨hnk, nd⟩)
    have m1 : ∀ i, (S i || decide (i = k)) = true ↔ i ∈ es1.toList.map keyS := fun i => by
      rw [Bool.or_eq_true, decide_eq_true_eq, hm i, pk.mem_iff, List.mem_cons]
      exact Or.comm
    have hsz : es1.size = n + 1 := by rw [← Array.length_toList, pc.length_eq, List.length_cons, Array.length_toList, hn]
    have hb1 : es1.size < scanBound := by rw [hsz]; exact room
    have hled : w.params.followText "set-order" = true ∨ t1.led = true := hl.imp id fun z => by rw [hl1]; exact z
    have fin : ∀ h', Heap.SameBut a s.heap h' → SetS w h' a (fun j => S j || decide (j = k)) es1.size → Q true { s with heap := h' } := fun h' sb r => by
      have q := hQ h' sb
      rw [hSk] at q
      rw [hsz] at r
      exact q r
    refine wpAny_bind (hgw _ ?_)
    split
    · refine wpAny_bind ?_
      rw [hashByValue_scannable 8 hsc]
      refine wpAny_pure ?_
      refine setS_add_tail ?_ ho hex hd g1 nd1 m1 hb1 ?_ ?_ ?_ ?_
      · intro b s₁ Q' q; cases b <;> first | exact wpAny_pure q | exact wpAny_rule q
      · first | (split <;> first | exact hf1 | exact SetTable.fits_plain_off hf1) | exact hf1
      · first | (split <;> exact hr1) | exact hr1
      · first | (split <;> exact hled) | exact hled
      · intro h' sb r; dsimp only; exact wpAny_pure (fin h' sb r)
    · refine wpAny_bind (wpAny_pure ?_)
      simp only [↓reduceIte]
      refine setS_add_tail ?_ ho hex hd g1 nd1 m1 hb1 hf1 hr1 hled ?_
      · intro b s₁ Q' q; cases b <;> first | exact wpAny_pure q | exact wpAny_rule q
      · intro h' sb r; dsimp only; exact wpAny_pure (fin h' sb r)

/-- found.add(k) -/
theorem setS_add {k : Str} {tk : Tok} {Q : Value → Shared → Prop} (R : SetS w s.heap a S n) (room : n + 1 < scanBound)
    (hQ : ∀ h', Heap.SameBut a s.heap h' → SetS w h' a (fun j => S j || decide (j = k)) (if S k = true then n else n + 1) → Q .none { s with heap := h', toks := s.toks + 1 }) :
    wpAny (model P w) A (call (.builtin "set.add") [.ref a, .str k tk]) Q E s := by
  have hS : s.heap.SetOf (PySem.strKind P w) a S n := R.setOf
  refine wpAny_call_entry F.slot_set_add hS.typeIs F.entry_set_add ?_ (F.args_set_add_2 _ _)
  unfold Builtin.«set.add» Builtin.Frozenset.oneOther
  simp only [List.isEmpty_nil, bind_assoc]
  unfold Builtin.Frozenset.addrOf setAdd
  refine wpAny_bind (wpAny_pure ?_)
  try dsimp only
  refine wpAny_bind (wpAny_pure ?_)
  try dsimp only
  refine wpAny_bind ?_
  refine wpAny_holding ?_
  refine wpAny_bind ((PySem.strKind P w).pyHash (is_str_k (P := P) (w := w) k tk) ?_)
  refine setS_add_hashed (s := { s with toks := s.toks + 1 }) R room fun h' sb r => ?_
  show wpAny _ _ (ret Value.none) _ _ _
  exact wpAny_pure ⟨_, rfl, hQ h' sb r⟩

end
section
variable {P : Program} {w : World} {A : Around} {E : Value → Shared → Prop} {s : Shared}
theorem setS_fresh {h : Heap} (w : World) : SetS w (h.push { cls := .type "set", dict := none, data := .set #[] 0 (.fresh 0 0 (!w.params.followText "set-order")) }) h.objs.size (fun _ => false) 0 :=
  ⟨_, #[], 0, _, Heap.get?_push_size _ rfl, ⟨rfl, rfl, rfl⟩, rfl, (fun e he => by simp at he), (by simp), (fun k => by simp), (by decide), (by rfl), rfl, List.Pairwise.nil, by
    show _ ∨ (!w.params.followText "set-order") = true
    cases w.params.followText "set-order"
    · exact .inr rfl
    · exact .inl rfl⟩
theorem newSet_ok {Q : Value → Shared → Prop} (h : Q (.ref s.heap.objs.size) { s with heap := s.heap.push { cls := .type "set", dict := none, data := .set #[] 0 (.fresh 0 0 (!w.params.followText "set-order")) } }) :
    wpAny (model P w) A (newSet (.type "set")) Q E s := by
  unfold newSet
  refine wpAny_bind (wpAny_byText ?_)
  dsimp only
  simp only [newObj]
  exact wpAny_bind (wpAny_alloc (wpAny_pure h))

end
/-- the set of truth values at a -/
def SetSO (w : World) (a : Addr) (S : Str → Bool) (n : Nat) : HO := .ext fun h => SetS w h a S n
theorem setSO_new {w : World} {P : Program} {H : Hp} {h : Heap} {a : Addr} {S : Str → Bool} {n : Nat} (R : SetS w h a S n) : ObjOk P w H h a (SetSO w a S n) := by
  have ⟨o, _, _, _, ho, _⟩ := R
  exact ⟨R, ⟨o, ho⟩, fun h1 h2 p k => SetS.at p k⟩
section
variable {X : Cx}
theorem setSO_get {pins : List (Addr × Obj)} {σ : L2.St} {H : Hp} {s : Shared} {a : Addr} {S : Str → Bool} {n : Nat} (I : Inv X pins σ H s) (ha : H a = some (SetSO X.w a S n)) : SetS X.w s.heap a S n := (I.hok a _ ha).1
/-- set.add of a truth value -/
theorem addS_ok {pins : List (Addr × Obj)} {σ : L2.St} {H : Hp} {s : Shared} {E : Value → Shared → Prop} {D : Addr} {S : Str → Bool} {n : Nat} {y : Str} {tk : Tok} {Q : Value → Shared → Prop} (I : Inv X pins σ H s) (hD : H D = some (SetSO X.w D S n)) (room : n + 1 < scanBound)
    (h : ∀ s', Inv X pins σ (upd H D (SetSO X.w D (fun j => S j || decide (j = y)) (if S y = true then n else n + 1))) s' → Q .none s') : wpAny (model X.prog X.w) X.A (call (.builtin "set.add") [.ref D, .str y tk]) Q E s := by
  have R := setSO_get I hD
  refine setS_add R room fun h' sb new => ?_
  have he : ∃ u, h'.get? D = some u := by
    have ⟨o, _, _, _, ho, _⟩ := new
    exact ⟨o, ho⟩
  exact h _ (I.write (e := D) (t' := s.toks + 1) (by rw [hD]; trivial) (.inl rfl) (fun b u hb hu => (sb.2 b hb).trans hu) he (setSO_new new))
end
section
variable {prog : Program} {w : World} {A : Around} {R : Result → Shared → Prop} {s : Shared} {env : Env}
theorem eval_SetComp (elt : Expr) (gens : List Comprehension) (scope : Scope) (pos : Pos) : eval (.SetComp elt gens scope pos) env =
    comprehension (.SetComp elt gens scope pos) scope env (firstIterPos gens pos) (newSet (.type "set")) (firstAsync gens) (firstIter gens env) := rfl
theorem compTurn_set (elt target iter : Expr) (ifs : List Expr) (scope : Scope) (pos : Pos) (it acc : Value) (env : Env) :
    compTurn (.SetComp elt [⟨target, iter, ifs, 0⟩] scope pos) 0 it acc env = (do
      standAt iter.pos
      match ← pyNext it with
      | none => pure (.done .next)
      | some v =>
        letOwnedTupleGo target it v
        assign target env v
        let mut ok := true
        for c in ifs do
          if ok then ok ← isTrue c env (eval c env)
        if ok then
          (do let v ← eval elt env; standAt elt.pos; let _ ← call (.builtin "set.add") [acc, v])
        again (.compLoop (.SetComp elt [⟨target, iter, ifs, 0⟩] scope pos) 0 it acc env)) := by rfl
theorem codeAny_compStart_set {elt target iter : Expr} {ifs : List Expr} {rest : List Comprehension} {scope : Scope} {pos : Pos} {it acc : Value}
    (h0 : codeAny (model prog w) A (.compLoop (.SetComp elt (⟨target, iter, ifs, 0⟩ :: rest) scope pos) 0 it acc env) R s)
    (h : wpAny (model prog w) A (pyIter it) (fun it' s' => codeAny (model prog w) A (.compLoop (.SetComp elt (⟨target, iter, ifs, 0⟩ :: rest) scope pos) 0 it' acc env) R s')
      (notedBy (model prog w) A env fun x s' => R (.error x) s') s) :
    codeAny (model prog w) A (.compStart (.SetComp elt (⟨target, iter, ifs, 0⟩ :: rest) scope pos) 0 it acc env) R s := by
  refine codeAny_of_tree ?_
  show wpAny _ _ ((compStart (.SetComp elt (⟨target, iter, ifs, 0⟩ :: rest) scope pos) 0 it acc env).onRaise (fun x => do noteFrame x env; standAt theWindowsPlace)) _ _ s
  refine wpAny_notedAt ?_
  unfold compStart
  show wpAny _ _ (ask >>= _) _ _ s
  refine wpAny_bind (wpAny_askSetting (wpAny_ite ?_))
  split
  · first
      | exact wpAny_bind (wpAny_pure (wpAny_pure (And.intro rfl h0)))
      | exact wpAny_pure (And.intro rfl h0)
  · first
      | exact wpAny_bind (wpAny_rule (wpAny_bind (wpAny_standAt (wpAny_bind (wpAny_mono h (fun it' s' h' => wpAny_pure (And.intro rfl h')) fun _ _ x => x)))))
      | (refine wpAny_bind (wpAny_rule ?_); show wpAny _ _ (standAt iter.pos >>= _) _ _ s; exact wpAny_bind (wpAny_standAt (wpAny_bind (wpAny_mono h (fun it' s' h' => wpAny_pure (And.intro rfl h')) fun _ _ x => x))))
theorem compLoopS_any {elt target iter : Expr} {ifs : List Expr} {scope : Scope} {pos : Pos} {it acc : Value} (I : Nat → Shared → Prop)
    (turn : ∀ n s, I n s → wpAny (model prog w) A (pyNext it) (fun r s₁ => match r with
      | none => R (.ok .next) s₁
      | some v => wpAny (model prog w) A (letOwnedTupleGo target it v) (fun _ s₁' => wpAny (model prog w) A (assign target env v) (fun _ s₂ =>
          wpAny (model prog w) A (forIn ifs true fun c r => if r = true then do let ok ← isTrue c env (eval c env); pure (ForInStep.yield ok) else pure (ForInStep.yield r)) (fun ok s₃ =>
            if ok = true then wpAny (model prog w) A (eval elt env) (fun x s₄ =>
              wpAny (model prog w) A (call (.builtin "set.add") [acc, x]) (fun _ s₅ => ∃ m, m < n ∧ I m s₅) (notedBy (model prog w) A env fun e s' => R (.error e) s') s₄) (notedBy (model prog w) A env fun e s' => R (.error e) s') s₃
            else ∃ m, m < n ∧ I m s₃) (notedBy (model prog w) A env fun e s' => R (.error e) s') s₂) (notedBy (model prog w) A env fun e s' => R (.error e) s') s₁') (notedBy (model prog w) A env fun e s' => R (.error e) s') s₁) (notedBy (model prog w) A env fun e s' => R (.error e) s') s)
    (n : Nat) (h : I n s) :
    codeAny (model prog w) A (.compLoop (.SetComp elt [⟨target, iter, ifs, 0⟩] scope pos) 0 it acc env) R s := by
  refine codeAny_loop rfl I (fun n s hI => ?_) n h
  show wpAny _ A ((compTurn (.SetComp elt [⟨target, iter, ifs, 0⟩] scope pos) 0 it acc env).onRaise (fun x => do noteFrame x env; theTreesLotGoes x)) _ _ s
  refine wpAny_noted ?_
  rw [compTurn_set]
  refine wpAny_bind (wpAny_standAt (wpAny_bind (wpAny_mono (turn n s hI) (fun r s₁ h₁ => ?_) fun _ _ h' => h')))
  cases r with
  | none => exact wpAny_pure h₁
  | some v =>
    refine wpAny_bind (wpAny_mono h₁ (fun _ s₁' h₁' => ?_) fun _ _ h' => h')
    refine wpAny_bind (wpAny_mono h₁' (fun _ s₂ h₂ => wpAny_bind (wpAny_mono h₂ (fun ok s₃ h₃ => ?_) fun _ _ h' => h')) fun _ _ h' => h')
    cases ok with
    | false => exact wpAny_pure ⟨rfl, h₃⟩
    | true =>
      exact wpAny_bind (wpAny_bind (wpAny_mono h₃ (fun x s₄ h₄ => wpAny_bind (wpAny_standAt (wpAny_bind (wpAny_mono h₄ (fun _ s₅ h₅ => wpAny_pure (wpAny_pure ⟨rfl, h₅⟩)) fun _ _ h' => h')))) fun _ _ h' => h'))
end

section
variable {X : Cx}
/-- {elt for target in iter if ..}, elt a truth value: D the new set -/
def tSc (w : World) (wi : TI) (g : TG) (tt : TT) (te : TE) (vs : List Nat) : TE := fun σ H Q => wi σ H fun J H1 => ∀ D, H1 D = none → ∃ W : Nat → Nat → Hp → Prop, (∃ m, W 0 m (upd H1 D (SetSO w D (fun _ => false) 0))) ∧ ∀ i m H, W i m H →
  (J.stop i H ∧ Q (.ref D) H) ∨ (J.go i H ∧ ∃ Nx : Hp → Prop, (∀ H', Nx H' → ∃ m', m' < m ∧ W (i + 1) m' H') ∧ ∀ x H', J.yld i H x H' → g x (wipe σ vs) H' fun σ2 H2 => wipe σ2 vs = wipe σ vs ∧ tt σ2 H2 fun b H3 =>
    if b = true then te σ2 H3 fun y H4 => ∃ (c : Str) (S : Str → Bool) (n : Nat), y = .str c ∧ H4 D = some (SetSO w D S n) ∧ n + 1 < scanBound ∧ Nx (upd H4 D (SetSO w D (fun j => S j || decide (j = c)) (if S c = true then n else n + 1))) else Nx H3)
theorem sc_core {pins : List (Addr × Obj)} {s : Shared} {σ : L2.St} {H : Hp} {Q : VK} {elt tg iter : Expr} {ifs : List Expr} {scope : Scope} {own : List (PySem.Str × Nat)} {pos pos' : Pos} {wi : TI} {g : TG} {tt : TT} {te : TE} {use : Option (Value → Sem Unit)} {Qf : Value → Shared → Prop}
    (hc : X.calm = true) (hN : X.N.Nodup) (I : Inv X pins σ H s) (hi : PI X tg iter wi) (ok : BlkOk X.N X.env.scope scope own)
    (hg : ∀ (s : Shared) (H : Hp) (C : Addr) (cl : List (PySem.Str × Addr)) (fp : List Addr), PG (X.blk s H scope (compEnvC scope cl C X.env) fp) tg g) (ht : ∀ (s : Shared) (H : Hp) (C : Addr) (cl : List (PySem.Str × Addr)) (fp : List Addr), PTs (X.blk s H scope (compEnvC scope cl C X.env) fp) ifs tt)
    (he : ∀ (s : Shared) (H : Hp) (C : Addr) (cl : List (PySem.Str × Addr)) (fp : List Addr), PE (X.blk s H scope (compEnvC scope cl C X.env) fp) elt te) (hs : ∀ x, foldedSetIterable iter X.env x = pure x)
    (h : tSc X.w wi g tt te (own.map (·.2)) σ H Q)
    (hRR : ∀ D C s' m H', Inv X pins σ H' s' → Q (.ref D) H' → s'.heap.Ns C m → FpOk X pins H' C → compPost (model X.prog X.w) X.A X.xe use Qf (.ref D) C (.ok .next) s') :
    wpAny (model X.prog X.w) X.A (comprehension (.SetComp elt [⟨tg, iter, ifs, 0⟩] scope pos) scope X.env pos' (newSet (.type "set")) false (eval iter X.env) use) Qf X.xe s := by
  have hfree : ∀ y ∈ scope.names, y.2 = .free → ∃ c, X.env.cells.lookup y.1 = some c := fun y hy e => by
    rcases ok.free y hy e with k | k
    · exact I.ok.has _ (.inl k)
    · exact I.ok.has _ (.inr k)
  refine wpAny_comprehension_free (use := use) rfl hs (closure_ok hfree) ok.kind (fun y hy e => by rw [ok.uniq y hy, e])
    (thn (hi.run pins s σ H _ I h) fun xv s1 hx => thn hx fun itv s2 h2 => ?_)
  obtain ⟨it, fp, tn, J, H2, e, I2, T, st2, f2, q⟩ := h2
  subst e
  refine newSet_ok (newEnv_comp ?_)
  generalize hD : s2.heap.objs.size = D
  have hDn : H2 D = none := I2.hok.fresh (Nat.le_of_eq hD)
  obtain ⟨W, ⟨m0, w0⟩, turn⟩ := q D hDn
  -- the new list
  generalize hs3 : ({ s2 with heap := s2.heap.push { cls := .type "set", dict := none, data := .set #[] 0 (.fresh 0 0 (!X.w.params.followText "set-order")) } } : Shared) = s3
  have I3 : Inv X pins σ (upd H2 D (SetSO X.w D (fun _ => false) 0)) s3 := by
    rw [← hs3]
    refine I2.laid (t' := s2.toks) (fun b o e => Heap.get?_push_of_some _ e) (Nat.le_of_eq hD) ?_
    rw [← hD]
    exact setSO_new (setS_fresh X.w)
  have h3 : s3.heap = s2.heap.push { cls := .type "set", dict := none, data := .set #[] 0 (.fresh 0 0 (!X.w.params.followText "set-order")) } := by rw [← hs3]
  have sz : ∀ b ∈ fp, b < s2.heap.objs.size := fun b hb => by
    obtain ⟨o, e, _⟩ := T.obj _ _ st2 b hb
    exact Heap.lt_size e
  have f3 : ∀ b ∈ fp, FpOk X pins (upd H2 D (SetSO X.w D (fun _ => false) 0)) b ∧ b < s3.heap.objs.size := fun b hb => by
    have hlt := sz b hb
    refine ⟨⟨?_, (f2 b hb).2⟩, by rw [h3, Heap.size_push]; exact Nat.lt_succ_of_lt hlt⟩
    rw [upd_ne (by rw [← hD]; exact Nat.ne_of_lt hlt)]
    exact (f2 b hb).1
  have st3 : tn 0 s3.heap := T.keep _ _ _ st2 fun b _ o e => by rw [h3]; exact Heap.get?_push_of_some _ e
  have I4 := block_start I3 ok hN f3
  have pg := hg s3 (upd H2 D (SetSO X.w D (fun _ => false) 0)) s3.heap.objs.size (cellsFrom (s3.heap.objs.size + 1) scope.names (cloFrom X.env.cells scope.names [])) fp
  have pt := ht s3 (upd H2 D (SetSO X.w D (fun _ => false) 0)) s3.heap.objs.size (cellsFrom (s3.heap.objs.size + 1) scope.names (cloFrom X.env.cells scope.names [])) fp
  have pe := he s3 (upd H2 D (SetSO X.w D (fun _ => false) 0)) s3.heap.objs.size (cellsFrom (s3.heap.objs.size + 1) scope.names (cloFrom X.env.cells scope.names [])) fp
  show codeAny _ _ (.compStart (.SetComp elt [⟨tg, iter, ifs, 0⟩] scope pos) 0 (.ref it) (.ref D) (compEnvC scope (cellsFrom (s3.heap.objs.size + 1) scope.names (cloFrom X.env.cells scope.names [])) s3.heap.objs.size X.env)) (compPost (model X.prog X.w) X.A X.xe use Qf (.ref D) s3.heap.objs.size) { s3 with heap := pushCells (s3.heap.push { cls := .type "dict", data := .dict #[] }) scope.names }
  have nfp : ∀ b ∈ fp, (upd H2 D (SetSO X.w D (fun _ => false) 0)) b = none := fun b hb => (f3 b hb).1.1
  generalize hce : compEnvC scope (cellsFrom (s3.heap.objs.size + 1) scope.names (cloFrom X.env.cells scope.names [])) s3.heap.objs.size X.env = ce at I4 pg pt pe ⊢
  have cL : ce.locals = s3.heap.objs.size := by subst hce; rfl
  generalize hH3 : upd H2 D (SetSO X.w D (fun _ => false) 0) = H3 at I3 I4 pg pt pe w0 nfp f3
  generalize hs4 : ({ s3 with heap := pushCells (s3.heap.push { cls := .type "dict", data := .dict #[] }) scope.names } : Shared) = s4 at I4 ⊢
  have st4 : tn 0 s4.heap := T.keep _ _ _ st3 fun b _ o e => by rw [← hs4]; exact pushCells_keeps _ _ _ _ (Heap.get?_push_of_some _ e)
  have stat : ∀ {σ' : L2.St} {H' : Hp} {s' : Shared}, Inv (X.blk s3 H3 scope ce fp) [] σ' H' s' → (∀ b ∈ fp, H' b = none) → ∀ b ∈ fp, FpOk (X.blk s3 H3 scope ce fp) [] H' b := fun {σ' H' s'} I' hn b hb =>
    ⟨hn b hb, (I'.ok.exf b hb).1, I'.ok.exfs b hb, .inl hb, fun x c e => (I'.ok.exf b hb).2 x c e, fun p hp => absurd (show p ∈ ([] : List (Addr × Obj)) ++ [] from hp) (by simp)⟩
  have loop : codeAny (model X.prog X.w) X.A (.compLoop (.SetComp elt [⟨tg, iter, ifs, 0⟩] scope pos) 0 (.ref it) (.ref D) ce) (compPost (model X.prog X.w) X.A X.xe use Qf (.ref D) s3.heap.objs.size) s4 := by
    refine compLoopS_any (fun n s' => ∃ i H', Inv (X.blk s3 H3 scope ce fp) [] (wipe σ (own.map (·.2))) H' s' ∧ tn i s'.heap ∧ (∀ b ∈ fp, H' b = none) ∧ W i n H') ?_ m0 ⟨0, H3, I4, st4, nfp, w0⟩
    rintro n s5 ⟨i, H5, I5, st5, n5, w5⟩
    rcases turn i n H5 w5 with ⟨stop, qq⟩ | ⟨go, Nx, hNx, step⟩
    · have td := T.done (X.blk s3 H3 scope ce fp) rfl rfl rfl hc i [] s5 _ H5 (fun _ _ => False) I5 (stat I5 n5) st5 stop
      refine thnF td fun r s6 ⟨hr, I6⟩ => ?_
      subst hr
      -- back in the def's context
      have I7 : Inv X pins σ H5 s6 := I3.call' (ch := fp) I6.os I6.base I6.hok I6.bare fun b hb => ⟨(f3 b hb).1.2.2.2.1, (f3 b hb).1.2.1, (f3 b hb).1.2.2.2.2.1, (f3 b hb).1.2.2.2.2.2⟩
      have nC : H5 s3.heap.objs.size = none := by
        have z : H5 ce.locals = none := I6.free
        rw [cL] at z
        exact z
      obtain ⟨m, hn, _⟩ := I6.loc
      have hn : s6.heap.Ns ce.locals m := hn
      rw [cL] at hn
      exact hRR D s3.heap.objs.size s6 m H5 I7 qq hn (I3.fpOk (Nat.le_refl _) nC)
    · have ti := T.item (X.blk s3 H3 scope ce fp) rfl rfl rfl hc i [] s5 _ H5 (fun _ _ => False) I5 (stat I5 n5) st5 go
      refine thnF ti fun r s6 ⟨u, hr, h6⟩ => ?_
      subst hr
      refine thnF h6 fun _ s7 ⟨x, H7, I7, r7, y7, st7, n7⟩ => ?_
      have I7' := I7.pinned (stat I7 n7) (T.obj _ _ st7)
      refine thnF (pg.run _ s7 _ H7 x u _ I7' r7 (step x H7 y7)) fun _ s8 ⟨σ8, H8, I8, hw8, q8⟩ => ?_
      refine thnF (pt.run _ s8 σ8 H8 _ I8 q8) fun b s9 ⟨H9, I9, q9⟩ => ?_
      -- the turn's end
      have fin : ∀ {s' : Shared} {H' : Hp}, Inv (X.blk s3 H3 scope ce fp) ([] ++ pinsAt fp s7.heap) σ8 H' s' → Nx H' → ∃ m, m < n ∧ ∃ i H', Inv (X.blk s3 H3 scope ce fp) [] (wipe σ (own.map (·.2))) H' s' ∧ tn i s'.heap ∧ (∀ b ∈ fp, H' b = none) ∧ W i m H' := fun {s' H'} I' nx => by
        obtain ⟨m', hm, w'⟩ := hNx H' nx
        have pin' : ∀ b ∈ fp, ∀ o, s7.heap.get? b = some o → s'.heap.get? b = some o ∧ H' b = none := fun b hb o e =>
          let z := I'.pin (b, o) (List.mem_append_right _ (List.mem_append_right _ (mem_pinsAt hb e)))
          ⟨z.1, z.2.1⟩
        have hl : (wipe σ (own.map (·.2))).length = σ8.length := by rw [← hw8, wipe_length]
        refine ⟨m', hm, i + 1, H', (I'.unpinned (pins := [])).weak hl (fun j v e => ?_), T.keep _ _ _ st7 fun b hb o e => (pin' b hb o e).1, fun b hb => ?_, w'⟩
        · rw [← hw8] at e
          exact (wipe_some e).1
        · obtain ⟨o, e, _⟩ := T.obj _ _ st7 b hb
          exact (pin' b hb o e).2
      cases b with
      | false =>
        simp only [Bool.false_eq_true, if_false] at q9 ⊢
        exact fin I9 q9
      | true =>
        simp only [if_true] at q9 ⊢
        refine thnF (pe.run _ s9 σ8 H9 _ I9 q9) fun z s10 ⟨yv, H10, I10, r10, cb, S0, n0, ey, hD10, hz10, nx⟩ => ?_
        subst ey
        obtain ⟨tk, rfl⟩ := (show ∃ t, z = Value.str cb t from r10)
        exact addS_ok (X := X.blk s3 H3 scope ce fp) I10 hD10 hz10 fun s11 I11 => fin I11 nx
  exact codeAny_compStart_set loop (T.self X.A 0 _ _ _ st4 loop)
/-- as a value -/
theorem pe_sc {elt tg iter : Expr} {ifs : List Expr} {scope : Scope} {own : List (PySem.Str × Nat)} {pos : Pos} {wi : TI} {g : TG} {tt : TT} {te : TE} (hc : X.calm = true) (hN : X.N.Nodup) (hi : PI X tg iter wi) (ok : BlkOk X.N X.env.scope scope own)
    (hg : ∀ (s : Shared) (H : Hp) (C : Addr) (cl : List (PySem.Str × Addr)) (fp : List Addr), PG (X.blk s H scope (compEnvC scope cl C X.env) fp) tg g) (ht : ∀ (s : Shared) (H : Hp) (C : Addr) (cl : List (PySem.Str × Addr)) (fp : List Addr), PTs (X.blk s H scope (compEnvC scope cl C X.env) fp) ifs tt)
    (he : ∀ (s : Shared) (H : Hp) (C : Addr) (cl : List (PySem.Str × Addr)) (fp : List Addr), PE (X.blk s H scope (compEnvC scope cl C X.env) fp) elt te) (hs : ∀ x, foldedSetIterable iter X.env x = pure x := by intro _; rfl) :
    PE X (.SetComp elt [⟨tg, iter, ifs, 0⟩] scope pos) (tSc X.w wi g tt te (own.map (·.2))) := by
  refine ⟨fun pins s σ H Q I h => ?_⟩
  rw [eval_SetComp]
  refine sc_core hc hN I hi ok hg ht he hs h fun D C s' m H' I' q hn f => ⟨m, hn, fun h'' sb => ?_⟩
  obtain ⟨f0, f1, f2, f3, f4, f5⟩ := f
  exact ⟨.ref D, H', I'.turned (t' := s'.toks) (fun b o hb e => (sb.2 b hb).trans e) f0 f1 f3 f4 f5, rfl, q⟩
end

section
variable {P : Program} {w : World} {A : Around} {E : Value → Shared → Prop} {s : Shared}
end
section
variable {P : Program} {w : World} {A : Around} {E : Value → Shared → Prop} {s : Shared} {a : Addr}
end

end UX0
set_option Elab.async false
set_option linter.all false
set_option maxRecDepth 100000
set_option maxHeartbeats 2000000
namespace U
open PySem PySem.Spec PyProof.Rows L2 UX0
section
variable {X : Cx} {tg elt iter : Expr} {ifs : List Expr} {scope : Scope} {own : List (Str × Nat)} {pos p pos2 p2 : Pos} {di : DTI} {c : CT} {tt : DTT} {te : DTE}
/-- the texts of a set comprehension, in order -/
def lcS (c : CT) (tt : DTT) (te : DTE) (δ : De) : List Da → (List Str → Mm → Prop) → Mm → Prop
  | [], k, M => k [] M
  | d :: ds, k, M => c.ok d ∧ tt (c.set d δ) M fun b M2 => if b = true then te (c.set d δ) M2 fun y M3 => match y with
      | .str z => lcS c tt te δ ds (fun ys M4 => k (z :: ys) M4) M3
      | _ => False
    else lcS c tt te δ ds k M2
/-- what the set holds -/
def gSc (di : DTI) (c : CT) (tt : DTT) (te : DTE) (vs : List Nat) (δ : De) (M : Mm) (k : List Str → Mm → Prop) : Prop := di δ M fun ds M1 => Nat.ble ds.length 1000 = true ∧ lcS c tt te (wipeD δ vs) ds k M1
/-- the end of a set: what it holds as a row without doubles -/
def ScQ (K : PySem.W.Frag) (w : World) (F W : Addr → Prop) (H : Hp) (k : List Str → Mm → Prop) : VK := fun v H2 => ∃ D S n W2 M2, ∃ (L zs : List Str), v = .ref D ∧ H2 D = some (SetSO w D S n) ∧ Grow F W H W2 H2 ∧ Stt K F W2 M2 H2 ∧ L.Nodup ∧ (∀ z, S z = true ↔ z ∈ L) ∧ L.length = n ∧ n ≤ 1000 ∧ (∀ z, z ∈ L ↔ z ∈ zs) ∧ k zs M2
theorem li_sc {K : PySem.W.Frag} {w : World} {vs : List Nat} (hv : ∀ i ∈ c.slots, i ∈ vs) {δ : De} {F W : Addr → Prop} {M : Mm} {σ : L2.St} {H : Hp} {k : List Str → Mm → Prop} {Q : VK} (ev : EnvR K W H δ σ) (s : Stt K F W M H) (h : gSc di c tt te vs δ M k) (hQ : ∀ v H2, ScQ K w F W H k v H2 → Q v H2) :
    UX0.tSc w (LI K di) (c.tg K) (Li rT K tt) (Li (rE K) K te) vs σ H Q := by
  refine ⟨δ, F, W, M, _, ev, s, h, fun J H1 W1 M1 ds g1 s1 ij ⟨hz, q⟩ D hD => ?_⟩
  have hz : ds.length ≤ 1000 := Nat.ble_eq.mp hz
  let Pv : Nat → Hp → Prop := fun i H2 => ∃ W2 Md S n, ∃ (L zs : List Str), Grow F W1 H1 W2 H2 ∧ Stt K (fadd F D) W2 Md H2 ∧ H2 D = some (SetSO w D S n) ∧ L.Nodup ∧ (∀ z, S z = true ↔ z ∈ L) ∧ L.length = n ∧ n ≤ i ∧ (∀ z, z ∈ L ↔ z ∈ zs) ∧ lcS c tt te (wipeD δ vs) (ds.drop i) (fun ys M4 => k (zs ++ ys) M4) Md
  refine ⟨fun i m H2 => m = ds.length - i ∧ i ≤ ds.length ∧ Pv i H2, ⟨ds.length, by simp, Nat.zero_le _, W1, M1, _, 0, [], [], grow_new s1 hD, s1.addF hD _, upd_same, List.nodup_nil, (fun z => by simp), rfl, Nat.le_refl _, (fun z => Iff.rfl), q⟩, ?_⟩
  rintro i m H2 ⟨rfl, hi, W2, Md, S, n, L, zs, g2, s2, hac, hnd, hS, hn, hni, hL, q2⟩
  obtain ⟨go, stop⟩ := ij (fadd F D) W2 H2 Md g2.noF s2
  by_cases hlt : i < ds.length
  · have hd : ds[i]? = some ds[i] := List.getElem?_eq_getElem hlt
    obtain ⟨go1, go2⟩ := go i _ hd
    refine .inr ⟨go1, Pv (i + 1), fun H' p' => ⟨ds.length - (i + 1), by omega, rfl, hlt, p'⟩, fun x H3 y => ?_⟩
    obtain ⟨W3, g3, s3, r3⟩ := go2 x H3 y
    rw [List.drop_eq_getElem_cons hlt] at q2
    obtain ⟨ok, q2⟩ := q2
    have e3 : EnvR K W3 H3 (wipeD δ vs) (wipe σ vs) := (ev.mono (grow_drop (g1.trans g2) g3)).wipe vs
    refine ct_ok hv ok r3 e3 fun σ2 hw ev2 => ⟨by rw [hw, wipe_wipe vs vs σ fun _ h => h], _, fadd F D, W3, Md, _, ev2, s3, q2, fun b H4 W4 b' M4 g4 s4 eb q4 => ?_⟩
    cases eb
    have gg := g3.trans g4
    cases b with
    | false =>
      refine ⟨W4, M4, S, n, L, zs, grow_drop g2 gg, s4, ?_, hnd, hS, hn, by omega, hL, q4⟩
      rw [gg.f D (.inl rfl)]; exact hac
    | true =>
      refine ⟨_, fadd F D, W4, M4, _, ev2.mono g4, s4, q4, fun v H5 W5 d M5 g5 s5 r5 q5 => ?_⟩
      cases r5 <;> first | exact q5.elim | skip
      rename_i z
      obtain ⟨s6, g6⟩ := s5.chgF (SetSO w D (fun j => S j || decide (j = z)) (if S z = true then n else n + 1))
      have g7 : Grow F W2 H2 W5 H5 := (gg.trans g5).less fun a h => .inr h
      have h5 : H5 D = some (SetSO w D S n) := by rw [(gg.trans g5).f D (.inl rfl)]; exact hac
      refine ⟨z, S, n, rfl, h5, Nat.lt_of_le_of_lt (show n + 1 ≤ 1001 by omega) (by decide), W5, M5, _, _, if S z = true then L else z :: L, zs ++ [z], ?_, s6, upd_same, ?_, ?_, ?_, ?_, ?_, ?_⟩
      · have g8 := g2.trans g7
        refine ⟨g8.w, fun a w => ?_, fun a w => ?_⟩
        · rw [upd_ne (s1.neW hD w)]; exact g8.h a w
        · rw [upd_ne (s1.neF hD w)]; exact g8.f a w
      · split
        · exact hnd
        · rename_i ns
          exact List.nodup_cons.mpr ⟨fun hm => ns ((hS z).mpr hm), hnd⟩
      · intro y
        rw [Bool.or_eq_true, decide_eq_true_eq]
        split
        · rename_i hs
          rw [hS y]
          exact ⟨fun h => h.elim id fun e => e ▸ (hS z).mp hs, .inl⟩
        · rw [hS y, List.mem_cons]; exact Or.comm
      · split
        · exact hn
        · rw [List.length_cons, hn]
      · split <;> omega
      · intro y
        rw [List.mem_append, List.mem_singleton]
        split
        · rename_i hs
          rw [hL y]
          refine ⟨.inl, fun h => h.elim id fun e => e ▸ (hL z).mp ((hS z).mp hs)⟩
        · rw [List.mem_cons, hL y]; exact Or.comm
      · have e : (fun ys M4 => k (zs ++ [z] ++ ys) M4) = fun ys M4 => k (zs ++ z :: ys) M4 := by funext ys M4; rw [List.append_assoc]; rfl
        rw [e]; exact q5
  · have e : i = ds.length := by omega
    subst e
    rw [List.drop_length] at q2
    have q3 : k zs Md := by have : k (zs ++ []) Md := q2; rwa [List.append_nil] at this
    exact .inl ⟨stop _ (Nat.le_refl _), hQ _ _ ⟨D, S, n, W2, Md, L, zs, rfl, hac, g1.trans g2, s2.lessF fun _ h => .inr h, hnd, hS, hn, by omega, hL, q3⟩⟩
theorem setSO_sets {X : Cx} {pins : List (Addr × Obj)} {σ : L2.St} {H : Hp} {s : Shared} {a : Addr} {S : Str → Bool} {n : Nat} (I : Inv X pins σ H s) (ha : H a = some (SetSO X.w a S n)) : SetS X.w s.heap a S n := (I.hok a _ ha).1
theorem cr_lenSS : CallR X (.builtin "len") (fun xs H Q => ∃ D S n, xs = [V.ref D] ∧ H D = some (SetSO X.w D S n) ∧ n ≤ 1000 ∧ Q (.int (n : Nat)) H) := by
  intro pins s σ H xs us Q I r h
  obtain ⟨D, S, n, rfl, hD, hn, q⟩ := h
  rw [Vals.ref1 r]
  obtain ⟨o, es, ep, t, ho, hex, hd, _, _, _, _, hf, hsz, _⟩ := setSO_sets I hD
  refine call_len_set ho hex hd hf (by omega) ⟨.int n, H, I.tok _, ⟨_, by rw [hsz]⟩, q⟩
theorem rds_strs {K : PySem.W.Frag} {W : Addr → Prop} {H : Hp} : ∀ ns : List Str, RDs K W H (ns.map V.str) (ns.map Da.str)
  | [] => .nil
  | n :: ns => .cons (.str n) (rds_strs ns)
/-- len({..}) -/
def gLenSc (di : DTI) (c : CT) (tt : DTT) (te : DTE) (vs : List Nat) : DTE := fun δ M Q => gSc di c tt te vs δ M fun zs M1 => ∀ L : List Str, L.Nodup → (∀ z, z ∈ L ↔ z ∈ zs) → Q (.int (L.length : Nat)) M1
section
variable (hc : X.calm = true) (hN : X.N.Nodup) (hi : DI X tg iter di) (ok : BlkOk X.N X.env.scope scope own)
    (hg : ∀ (s : Shared) (H : Hp) (C : Addr) (cl : List (Str × Addr)) (fp : List Addr), PG (X.blk s H scope (compEnvC scope cl C X.env) fp) tg (c.tg X.K)) (ht : ∀ (s : Shared) (H : Hp) (C : Addr) (cl : List (Str × Addr)) (fp : List Addr), DTs (X.blk s H scope (compEnvC scope cl C X.env) fp) ifs tt)
    (he : ∀ (s : Shared) (H : Hp) (C : Addr) (cl : List (Str × Addr)) (fp : List Addr), DE (X.blk s H scope (compEnvC scope cl C X.env) fp) elt te)
include hc hN hi ok hg ht he in
theorem d_lenSc (m : X.mg "len" = none) (hv : ∀ i ∈ c.slots, i ∈ own.map (·.2) := by decide) (hs : ∀ x, foldedSetIterable iter X.env x = pure x := by intro _; rfl) (hgl : Gl X "len" := by rfl)
    (h1 : starEach [.SetComp elt [⟨tg, iter, ifs, 0⟩] scope pos2] X.env = (false, eval (.SetComp elt [⟨tg, iter, ifs, 0⟩] scope pos2) X.env) :: starEach [] X.env := by rfl) :
    DE X (.Call (.Name "len" p) [.SetComp elt [⟨tg, iter, ifs, 0⟩] scope pos2] [] pos) (gLenSc di c tt te (own.map (·.2))) :=
  imp (pe_callB cr_lenSS hgl m b_len (pa_cons (UX0.pe_sc (wi := LI X.K di) (g := c.tg X.K) (tt := Li rT X.K tt) (te := Li (rE X.K) X.K te) hc hN hi ok hg ht he hs) pa_nil h1) (he := h1)) fun σ H Q ⟨δ, F, W, M, Qd, ev, s, h, k⟩ => by
    refine li_sc (K := X.K) (w := X.w) (Q := fun v H2 => ∃ D S n, [v] = [V.ref D] ∧ H2 D = some (SetSO X.w D S n) ∧ n ≤ 1000 ∧ Q (.int (n : Nat)) H2) hv ev s h fun v H2 ⟨D, S, n, W2, M2, L, zs, e1, e2, g2, s2, hnd, hS, hn, hn2, hL, q⟩ => ?_
    subst e1
    exact ⟨D, S, n, rfl, e2, hn2, by rw [← hn]; exact (k.mono g2).now s2 (.int _) (q L hnd hL)⟩
end
end
end U
set_option Elab.async false
set_option linter.all false
set_option maxRecDepth 100000
set_option maxHeartbeats 2000000
namespace UZ0
open PySem PySem.Spec PyProof.Rows L2
theorem tuple_keys_none : typeLookup (.type "tuple") "keys" = pure none := am_miss_of_fast (by first | decide +kernel | rfl)
section
variable {prog : Program} {w : World} {A : Around} {E : Value → Shared → Prop}
theorem miss_tuple {s : Shared} {a : Addr} {o : Obj} {xs : Array Value} {k : Nat} {Q : Option Value → Shared → Prop} (hx : s.heap.get? a = some o) (hc : o.cls = .type "tuple") (hdat : o.data = .seq xs k) (hd : o.dict = none) (hA : A.handled = none)
    (h : ∀ h' tk, (∀ b ob, s.heap.get? b = some ob → h'.get? b = some ob) → Q none { s with heap := h', toks := tk }) : wpAny (model prog w) A (getAttr? (.ref a) "keys") Q E s := by
  obtain ⟨c, dct, dat, sl⟩ := o
  simp only at hc hdat hd
  subst hc hdat hd
  obtain ⟨hp, g, d, tk, os⟩ := s
  have hT : ∀ tk', (⟨hp, g, d, tk', os⟩ : Shared).TypeIs (.ref a) "tuple" := fun _ => ⟨_, hx, rfl⟩
  have hmiss := tuple_keys_none
  have hname : (["__module__", "__name__", "__qualname__", "__doc__", "__annotations__"] : List Str).contains "keys" = false := by decide +kernel
  have hsz : ("keys" : Str).length + 100 ≤ sizeLine := by first | size_fits | decide +kernel
  have f1 := sub_AttributeError
  have f3 := PySem.F.slot_tuple_getattribute.lookup
  have f4 := PySem.F.slot_tuple_getattribute.bind (.ref a)
  have f5 := am_tuple_getattr_none
  unfold getAttr? getAttrBy? getAttrBy
  repeat (any_goals (first | assumption | exact hT _ | ((with_reducible show wpAny _ _ (call (Value.builtin "tuple.__getattribute__") _ _) _ _ _); refine call_meets PySem.F.slot_tuple_getattribute (hT _) am_entry_tuple_getattribute (PySem.F.args_tuple_getattribute_2 _ _) (meets_getattribute_miss_tuple a xs k sl "keys" _ hmiss hname hsz) ⟨hx, hA, fun h' tk' e hx' => ?_⟩) | wp_step))
  obtain ⟨t', u', he⟩ := hx'.there
  show wpAny _ _ (getattributeRaised _ _ _ _ _ _ _) _ _ _
  unfold getattributeRaised
  repeat (any_goals (first | assumption | wp_step))
  all_goals first | exact h _ _ hx'.keeps | (dsimp only; repeat (any_goals (first | assumption | exact h _ _ hx'.keeps | wp_step)))

/-- the walk over the pairs -/
theorem upd_loopT {R : Result → Shared → Prop} {S I l : Addr} {items : Array Value} {res : Value} (hh : A.handled = none) (hlI : l ≠ I) (hSI : S ≠ I) (hSl : S ≠ l) :
    ∀ (rest : List (Key × Value)) (i : Nat) (acc : List (Key × Value)) (ix : Int) (t : Tok) (s : Shared), items.size = i + rest.length → acc.length + rest.length ≤ sizeLine →
      (∀ (j : Nat) (q : Key × Value), rest[j]? = some q → ∃ (b : Addr) (u : Value), items[i + j]? = some (.ref b) ∧ b ≠ S ∧ b ≠ I ∧ IsTup s.heap b #[u, q.2] ∧ keyIs q.1 u = true) →
      s.heap.IsTupleIter I l i → s.heap.IsTuple l items → s.heap.DictOf (mixKind prog w) S acc →
      (∀ h' tk, h'.DictOf (mixKind prog w) S (merged acc rest) → (∀ b o, b ≠ S → b ≠ I → s.heap.get? b = some o → h'.get? b = some o) → R (.ok (.ret res)) { s with heap := h', toks := tk }) →
      codeAny (model prog w) A (.builtin "dict.update.loop" ⟨[.ref S, .ref I, .int ix t, res], []⟩) R s
  | [], i, acc, ix, t, s, hsz, hln, ht, hit, hl, hm, hR => by
    refine codeAny_builtin ud_entry ?_
    rw [Around.under_plainId ud_plain _]
    show wpAny _ A.in1 (pyNext (.ref I) >>= _) _ _ s
    refine wpAny_bind (wpAny_pyNext_tuple_end (A := A.in1) hh hit hl (by first | exact Array.getElem?_eq_none (Nat.le_of_eq hsz) | (simp at hsz; simp; omega)) fun h' he => ?_)
    show wpAny _ A.in1 (Builtin.Dict.addKeywords S [] >>= _) _ _ _
    refine wpAny_bind (wpAny_pure (wpAny_pure ?_))
    exact hR h' s.toks (hm.extBut he hSI) fun b o _ hb e => he b o hb e
  | q :: rest, i, acc, ix, t, s, hsz, hln, ht, hit, hl, hm, hR => by
    obtain ⟨b, u, hb, hbS, hbI, htup, hk⟩ := ht 0 q rfl
    rw [List.length_cons] at hsz hln
    refine codeAny_builtin ud_entry ?_
    rw [Around.under_plainId ud_plain _]
    show wpAny _ A.in1 (pyNext (.ref I) >>= _) _ _ s
    refine wpAny_bind (wpAny_pyNext_tuple_item (x := .ref b) hit hl (by simpa using hb) fun h1 hit1 hs1 => ?_)
    have ht1 : IsTup h1 b #[u, q.2] := htup.extBut hs1.extBut hbI
    have hl1 : h1.IsTuple l items := hl.extBut hs1.extBut hlI
    have hm1 : h1.DictOf (mixKind prog w) S acc := hm.extBut hs1.extBut hSI
    obtain ⟨o, ho, hc, n, hd⟩ := id ht1
    show wpAny _ A.in1 (holding [Value.ref b] _ >>= _) _ _ _
    refine wpAny_bind (wpAny_holding ?_)
    refine wpAny_bind (wpAny_tryCatch ?_)
    unfold Builtin.Dict.pairItems
    refine wpAny_bind (wpAny_typeOf (T := "tuple") ⟨o, ho, hc⟩ ?_)
    rw [if_pos (by first | decide | rfl | simp)]
    refine wpAny_bind (wpAny_seqItems ho hd (wpAny_pure ?_))
    show wpAny _ A.in1 (holding [u, q.2] (dictSet S u q.2)) _ _ _
    refine wpAny_holding (wpAny_dictSet_pairs (knd := mixKind prog w) (k := q.1) hk hm1 (fun h2 hm2 hs2 => ?_) (by omega))
    refine wpAny_pure ⟨plainId_quiet ud_plain _, upd_loopT (items := items) hh hlI hSI hSl rest (i + 1) (stored acc q.1 q.2) (ix + 1) 0 _ (show items.size = i + 1 + rest.length by omega) ?_ (fun j q' e => ?_) ?_ ?_ hm2 fun h' tk hd' k => ?_⟩
    · have z := stored_length_le acc q.1 q.2
      omega
    · obtain ⟨b', u', hb', hbS', hbI', htup', hk'⟩ := ht (j + 1) q' (by simpa using e)
      refine ⟨b', u', ?_, hbS', hbI', (htup'.extBut hs1.extBut hbI').extBut hs2.extBut hbS', hk'⟩
      rw [show i + 1 + j = i + (j + 1) by omega]
      exact hb'
    · exact hit1.at fun o' e => hs2.extBut I o' (Ne.symm hSI) e
    · exact hl1.extBut hs2.extBut (Ne.symm hSl)
    · exact hR h' tk hd' fun c oc h3 h4 e => k c oc h3 h4 (hs2.extBut c oc h3 (hs1.extBut c oc h4 e))

/-- dict(l) of a list of pairs -/
theorem call_dict_pairsT {s : Shared} {l : Addr} {ol : Obj} {items : Array Value} {n : Nat} {prs : List (Key × Value)} {Q : Value → Shared → Prop} (hh : A.handled = none) (hl : s.heap.get? l = some ol) (hc : ol.cls = .type "tuple") (hd : ol.dict = none)
    (hdat : ol.data = .seq items n) (hsz : items.size = prs.length) (hln : prs.length ≤ sizeLine)
    (ht : ∀ (j : Nat) (q : Key × Value), prs[j]? = some q → ∃ (b : Addr) (u : Value), items[j]? = some (.ref b) ∧ IsTup s.heap b #[u, q.2] ∧ keyIs q.1 u = true)
    (h : ∀ h' tk, h'.DictOf (mixKind prog w) s.heap.objs.size (merged [] prs) → (∀ b o, s.heap.get? b = some o → h'.get? b = some o) → Q (.ref s.heap.objs.size) { s with heap := h', toks := tk }) :
    wpAny (model prog w) A (call (.type "dict") [.ref l]) Q E s := by
  refine callType_codes (Q₁ := fun obj s₁ => obj = .ref s.heap.objs.size ∧ s₁ = { s with heap := s.heap.push { cls := .type "dict", data := .dict #[] } }) PySem.F.kt_called_dict (PySem.F.kt_typeCall_dict_1 _) PySem.F.entry_dict_init (kt_code_dict_new _ ⟨rfl, rfl⟩) ?_
  rintro obj s₁ ⟨rfl, rfl⟩
  have hnew : (s.heap.push { cls := .type "dict", data := .dict #[] }).DictOf (mixKind prog w) s.heap.objs.size [] := Heap.DictOf.new s.heap
  have k0 : ∀ b o, s.heap.get? b = some o → (s.heap.push { cls := .type "dict", data := .dict #[] }).get? b = some o := fun b o e => Heap.get?_push_of_some _ e
  refine ⟨hnew.typeIs, PySem.F.args_dict_init_2 _ _, ?_⟩
  unfold Builtin.«dict.__init__»
  refine wpAny_bind ?_
  unfold Builtin.Dict.selfAndRest
  refine wpAny_bind (wpAny_notOrdered_dict hnew.typeIs ?_)
  show wpAny _ _ (pure (s.heap.objs.size, [Value.ref l])) _ _ _
  refine wpAny_pure ?_
  show wpAny _ _ (Builtin.Dict.updateFrom "dict.__init__" s.heap.objs.size (.ref l) [] .none) _ _ _
  unfold Builtin.Dict.updateFrom
  refine wpAny_bind (wpAny_typeOf (T := "tuple") ⟨ol, k0 _ _ hl, hc⟩ ?_)
  rw [if_pos (by first | decide | rfl | simp)]
  refine wpAny_bind (miss_tuple (k0 _ _ hl) hc hdat hd hh fun h1 tk1 hk1 => ?_)
  rw [if_pos (show (none : Option Value).isNone = true from rfl)]
  refine wpAny_bind (wpAny_rule ?_)
  have hl1 : h1.IsTuple l items := ⟨ol, hk1 _ _ (k0 _ _ hl), hc, n, hdat⟩
  have hS1 : s.heap.objs.size < h1.objs.size := by
    have e : (s.heap.push { cls := .type "dict", data := .dict #[] }).get? s.heap.objs.size = some { cls := .type "dict", data := .dict #[] } := Heap.get?_push_size _ rfl
    exact Heap.lt_size (hk1 _ _ e)
  refine wpAny_bind (wpAny_pyIter_tuple hl1 ?_)
  have k2 : ∀ b o, h1.get? b = some o → (h1.push { cls := .type "tuple_iterator", data := .fields #[.ref l, .int 0 0] }).get? b = some o := fun b o e => Heap.get?_push_of_some _ e
  have hlt : l < s.heap.objs.size := Heap.lt_size hl
  have key := upd_loopT (prog := prog) (w := w) (A := A.in1) (R := wants (fun r s₂ => r = .none ∧ Q (.ref s.heap.objs.size) s₂) E) (S := s.heap.objs.size) (I := h1.objs.size) (l := l) (items := items) (res := Value.none) hh
    (Nat.ne_of_lt (Nat.lt_trans hlt hS1)) (Nat.ne_of_lt hS1) (Nat.ne_of_gt hlt) prs 0 [] 0 0
    { s with heap := h1.push { cls := .type "tuple_iterator", data := .fields #[.ref l, .int 0 0] }, toks := tk1 } (by rw [hsz, Nat.zero_add]) (by rw [List.length_nil, Nat.zero_add]; exact hln)
    (fun j q e => by
      obtain ⟨b, u, e1, e2, e3⟩ := ht j q e
      have hb : b < s.heap.objs.size := e2.lt
      exact ⟨b, u, by rw [Nat.zero_add]; exact e1, Nat.ne_of_lt hb, Nat.ne_of_lt (Nat.lt_trans hb hS1), e2.keeps fun c o z => k2 _ _ (hk1 _ _ (k0 _ _ z)), e3⟩)
    ⟨_, Heap.get?_push_size _ rfl, rfl, rfl⟩ (hl1.at fun o e => k2 _ _ e) ((hnew.at fun o e => hk1 _ _ e).at fun o e => k2 _ _ e)
    (fun h' tk hd' k => ⟨rfl, h h' tk hd' fun b o e => k b o (Nat.ne_of_lt (Heap.lt_size e)) (Nat.ne_of_lt (Nat.lt_trans (Heap.lt_size e) hS1)) (k2 _ _ (hk1 _ _ (k0 _ _ e)))⟩)
  first
    | exact wpAny_pure ⟨plainId_quiet ud_plain _, key⟩
    | exact wpAny_bind (wpAny_pure (wpAny_pure ⟨plainId_quiet ud_plain _, key⟩))

end
end UZ0
namespace U
open PySem PySem.Spec PyProof.Rows L2 UX0 UZ0
def valD (kvs : List (Key × Da)) (k : Key) : Option Da := (kvs.find? fun kv => decide (kv.1 = k)).map (·.2)
def putDK (kvs : List (Key × Da)) (k : Key) (d : Da) : List (Key × Da) :=
  if (kvs.any fun kv => decide (kv.1 = k)) = true then kvs.map (fun kv => if kv.1 = k then (kv.1, d) else kv) else kvs ++ [(k, d)]
def mergeD (kvs more : List (Key × Da)) : List (Key × Da) := more.foldl (fun acc kv => putDK acc kv.1 kv.2) kvs
def kD : Key → Da
  | .inl i => .int i
  | .inr x => .str x
def asK : Da → Option Key
  | .int i => some (.inl i)
  | .str x => some (.inr x)
  | _ => none
theorem asK_kD (k : Key) : asK (kD k) = some k := by cases k <;> rfl
theorem asK_of {d : Da} {k : Key} (h : asK d = some k) : d = kD k := by
  cases d <;> first | (cases h; rfl) | cases h
section
variable {K : PySem.W.Frag} {F W W' : Addr → Prop} {H H' : Hp} {M : Mm} {p : Addr}
theorem rd_kD {v : V} {k : Key} (r : RD K W H v (kD k)) : v = kV k := by
  cases k <;> (cases r; rfl)
theorem RK.length : ∀ {vs : List (Key × V)} {ds : List (Key × Da)}, RK K W H vs ds → vs.length = ds.length
  | _, _, .nil => rfl
  | _, _, .cons _ k => by rw [List.length_cons, List.length_cons, k.length]
theorem RK.keys : ∀ {vs : List (Key × V)} {ds : List (Key × Da)}, RK K W H vs ds → vs.map (·.1) = ds.map (·.1)
  | _, _, .nil => rfl
  | _, _, .cons _ k => by rw [List.map_cons, List.map_cons, k.keys]
theorem RK.any (f : Key → Bool) : ∀ {vs : List (Key × V)} {ds : List (Key × Da)}, RK K W H vs ds → (vs.any fun kv => f kv.1) = ds.any fun kv => f kv.1
  | _, _, .nil => rfl
  | _, _, .cons _ k => by rw [List.any_cons, List.any_cons, k.any f]
theorem RK.val {k : Key} : ∀ {vs : List (Key × V)} {ds : List (Key × Da)}, RK K W H vs ds → (valV vs k = none ∧ valD ds k = none) ∨ ∃ v d, valV vs k = some v ∧ valD ds k = some d ∧ RD K W H v d
  | _, _, .nil => .inl ⟨rfl, rfl⟩
  | _, _, .cons (f := f) h t => by
    by_cases e : f = k
    · exact .inr ⟨_, _, valV_pos e, by simp [valD, List.find?_cons, e], h⟩
    · rw [valV_neg e]
      have : ∀ (d : Da) (ds : List (Key × Da)), valD ((f, d) :: ds) k = valD ds k := fun d ds => by simp [valD, List.find?_cons, e]
      rw [this]
      exact t.val
theorem RK.append : ∀ {vs ws : List (Key × V)} {ds es : List (Key × Da)}, RK K W H vs ds → RK K W H ws es → RK K W H (vs ++ ws) (ds ++ es)
  | _, _, _, _, .nil, r => r
  | _, _, _, _, .cons h t, r => .cons h (t.append r)
theorem RK.mapPut {k : Key} {v : V} {d : Da} (h : RD K W H v d) : ∀ {vs : List (Key × V)} {ds : List (Key × Da)}, RK K W H vs ds → RK K W H (vs.map fun kv => if kv.1 = k then (kv.1, v) else kv) (ds.map fun kv => if kv.1 = k then (kv.1, d) else kv)
  | _, _, .nil => .nil
  | _, _, .cons (f := f) h0 t => by
    rw [List.map_cons, List.map_cons]
    by_cases q : f = k
    · simp only [q, if_true]; exact .cons h (RK.mapPut h t)
    · simp only [q, if_false]; exact .cons h0 (RK.mapPut h t)
theorem RK.put {k : Key} {v : V} {d : Da} {vs : List (Key × V)} {ds : List (Key × Da)} (r : RK K W H vs ds) (h : RD K W H v d) : RK K W H (putK vs k v) (putDK ds k d) := by
  unfold putK putDK
  have e : (vs.any fun kv => decide (kv.1 = k)) = ds.any fun kv => decide (kv.1 = k) := r.any (fun x => decide (x = k))
  rw [e]
  split
  · exact RK.mapPut h r
  · exact r.append (.cons h .nil)
theorem RK.merge : ∀ {more : List (Key × V)} {dm : List (Key × Da)}, RK K W H more dm → ∀ {vs : List (Key × V)} {ds : List (Key × Da)}, RK K W H vs ds → RK K W H (mergeK vs more) (mergeD ds dm)
  | _, _, .nil, _, _, r => r
  | _, _, .cons (f := f) (v := v) (vs := vs) (d := d) (ds := ds) h t, vs0, ds0, r => by
    show RK K W H (mergeK (putK vs0 f v) vs) (mergeD (putDK ds0 f d) ds)
    exact t.merge (r.put h)
/-- a dict, settled or not -/
def dctP (x : Da) (M : Mm) (k : List (Key × Da) → Prop) : Prop := match x with
  | .dct kvs => k kvs
  | .ref p => ∃ kvs, M p = some (.dct kvs) ∧ k kvs
  | _ => False
theorem Stt.dict (s : Stt K F W M H) {kvs : List (Key × Da)} (h : M p = some (.dct kvs)) : ∃ vs, H p = some (.dK vs) ∧ RK K W H vs kvs := by
  obtain ⟨u, hu, mr⟩ := s.mem _ _ h
  cases mr with
  | dct rv => exact ⟨_, hu, rv⟩
theorem dct_of {v : V} {d : Da} (s : Stt K F W M H) (r : RD K W H v d) {k : List (Key × Da) → Prop} (h : dctP d M k) : ∃ a vs ds, v = .ref a ∧ H a = some (.dK vs) ∧ RK K W H vs ds ∧ k ds := by
  cases r <;> first | exact h.elim | skip
  · obtain ⟨kvs, e, q⟩ := h
    obtain ⟨vs, e2, rv⟩ := s.dict e
    exact ⟨_, _, _, rfl, e2, rv, q⟩
  · rename_i a vs ds hw he rv
    exact ⟨_, _, _, rfl, he, rv, h⟩
theorem Kt.newD {Qd : DK} {Q : VK} {q : Addr} {vs : List (Key × V)} {ds : List (Key × Da)} (k : Kt (rE K) K F W H Qd Q) (s : Stt K F W M H) (h : H q = none) (r : RK K W H vs ds) (z : Qd (.dct ds) M) : Q (.ref q) (upd H q (.dK vs)) := by
  obtain ⟨s1, g1⟩ := s.new h (.dK vs)
  exact (k.mono g1).now s1 (.dct (.inl rfl) upd_same (r.mono g1)) z
end
section
variable {X : Cx} {o i e value : Expr} {fo fi f fv : DTE} {pos apos cpos p : Pos}
/-- d[k] of a dict -/
def gDix (fo fi : DTE) : DTE := fun δ M Q => fo δ M fun x M1 => fi δ M1 fun y M2 => dctP x M2 fun kvs => ∃ k d, asK y = some k ∧ valD kvs k = some d ∧ Q d M2
theorem d_dix (hu : X.A.units + 64 < cLine) (ho : DE X o fo) (hi : DE X i fi) (hs : NoSl i := by exact fun _ _ => rfl) : DE X (.Subscript o i pos) (gDix fo fi) := imp (pe_dget (Nat.lt_of_le_of_lt (Nat.add_le_add_left (by decide) _) hu) ho hi hs) fun σ H Q ⟨δ, F, W, M, Qd, ev, s, h, k⟩ =>
  ⟨δ, F, W, M, _, ev, s, h, fun v1 H1 W1 d1 M1 g1 s1 r1 q1 => ⟨δ, F, W1, M1, _, ev.mono g1, s1, q1, fun v2 H2 W2 d2 M2 g2 s2 r2 q2 => by
    obtain ⟨a, vs, ds, rfl, ha, rv, kk, d, hk, hd, q⟩ := dct_of s2 (r1.mono g2) q2
    rw [asK_of hk] at r2
    obtain rfl := rd_kD r2
    rcases rv.val (k := kk) with ⟨_, e⟩ | ⟨v, d', e1, e2, r⟩
    · rw [hd] at e; cases e
    · rw [hd] at e2; cases e2
      refine ⟨a, v, rfl, ?_, (k.mono (g1.trans g2)).now s2 r q⟩
      rw [← e1]; exact DGet.k ha⟩⟩
/-- d.get(k) of a dict -/
def gDget (fo fi : DTE) : DTE := fun δ M Q => fo δ M fun x M1 => (dctP x M1 fun _ => True) ∧ fi δ M1 fun y M2 => dctP x M2 fun kvs => ∃ k, asK y = some k ∧ Q ((valD kvs k).getD .non) M2
theorem d_get (hu : X.A.units + 64 < cLine) (ho : DE X o fo) (he : DE X e fi) (h1 : attributeBase o "get" X.env (eval o X.env) = eval o X.env := by rfl)
    (h2 : ((backTo cpos (starEach [e] X.env)).all (fun x => !x.1) && (backToKw cpos (keywordEach [] X.env)).all (fun x => x.1.isSome)
    && decide (([e] : List Expr).length + ([] : List Keyword).length + (if ([] : List Keyword).isEmpty then 0 else 1) < 30)) = true := by rfl)
    (h3 : (apos.endLine == cpos.line) = true := by rfl) (h4 : backTo cpos (starEach [e] X.env) = [(false, eval e X.env)] := by rfl) : DE X (.Call (.Attribute o "get" apos) [e] [] cpos) (gDget fo fi) := imp (pe_dget1 (Nat.lt_of_le_of_lt (Nat.add_le_add_left (by decide) _) hu) ho he ⟨h1, h2, h3, h4⟩) fun σ H Q ⟨δ, F, W, M, Qd, ev, s, h, k⟩ =>
  ⟨δ, F, W, M, _, ev, s, h, fun v1 H1 W1 d1 M1 g1 s1 r1 ⟨q0, q1⟩ => by
    obtain ⟨a, vs, ds, rfl, ha, rv, _⟩ := dct_of s1 r1 q0
    refine ⟨a, rfl, .inl ⟨_, .inl ha⟩, δ, F, W1, M1, _, ev.mono g1, s1, q1, fun v2 H2 W2 d2 M2 g2 s2 r2 q2 => ?_⟩
    obtain ⟨b, vs, ds, e1, ha, rv, kk, hk, q⟩ := dct_of s2 (r1.mono g2) q2
    cases e1
    rw [asK_of hk] at r2
    obtain rfl := rd_kD r2
    refine ⟨_, DGet.k ha, ?_⟩
    rcases rv.val (k := kk) with ⟨e1, e2⟩ | ⟨v, d', e1, e2, r⟩
    · rw [e1]; rw [e2] at q
      exact (k.mono (g1.trans g2)).now s2 .non q
    · rw [e1]; rw [e2] at q
      exact (k.mono (g1.trans g2)).now s2 r q⟩
/-- d[k] = v -/
def hDput (fo fi fv : DTE) : DTS := fun D δ M => fv δ M fun z M1 => fo δ M1 fun x M2 => fi δ M2 fun y M3 => match x with
  | .ref p => ∃ kvs k, M3 p = some (.dct kvs) ∧ asK y = some k ∧ kvs.length < 1000 ∧ D.nx δ (mput M3 p (.dct (putDK kvs k z)))
  | _ => False
theorem z_dput {pos' : Pos} (hu : X.A.units + 64 < cLine) (ho : DE X o fo) (hi : DE X i fi) (hv : DE X value fv) (hs : swapsWith value (some (.Subscript o i pos')) pos.line X.env = pure false := by rfl) :
    DS X (.Assign [.Subscript o i pos'] value pos) (hDput fo fi fv) := ps_imp (ps_dput (Nat.lt_of_le_of_lt (Nat.add_le_add_left (by decide) _) hu) ho hi hv hs) fun D σ H ⟨δ, F, W, M, Dd, ev, s, h, k⟩ =>
  ⟨δ, F, W, M, _, ev, s, h, fun v0 H0 W0 d0 M0 g0 s0 r0 q0 => ⟨δ, F, W0, M0, _, ev.mono g0, s0, q0, fun v1 H1 W1 d1 M1 g1 s1 r1 q1 => ⟨δ, F, W1, M1, _, (ev.mono g0).mono g1, s1, q1, fun v2 H2 W2 d2 M2 g2 s2 r2 q2 => by
    have r1' := r1.mono g2
    cases r1' <;> first | exact q2.elim | skip
    rename_i p
    obtain ⟨kvs, kk, hm, hk, hl, q⟩ := q2
    rw [asK_of hk] at r2
    obtain rfl := rd_kD r2
    obtain ⟨vs, hv, rv⟩ := s2.dict hm
    have g3 := grow_put (o := .dK (putK vs kk v0)) s2 hm
    refine ⟨p, _, rfl, DPut.k hv (by rw [rv.length]; exact Nat.lt_trans hl (by decide)), ?_⟩
    exact (k.nx.mono (((g0.trans g1).trans g2).trans g3)).now (s2.put hm (.dct (rv.put (r0.mono (g1.trans g2))))) (ev.mono (((g0.trans g1).trans g2).trans g3)) q⟩⟩⟩
/-- dict(ps) of a tuple of pairs -/
def kDict : DC := fun xs M Q => match xs with
  | [.tup ps] => ∃ prs : List (Key × Da), ps = prs.map (fun q => .tup [kD q.1, q.2]) ∧ Q (.dct (mergeD [] prs)) M
  | _ => False
/-- a tuple without a dict of its own -/
def PlT (K : PySem.W.Frag) (H : Hp) (a : Addr) (vs : List V) : Prop := (∃ o, H a = some (.frz o (.tup vs)) ∧ o.dict = none) ∨ (SqT K (fun _ => none) a vs ∧ ∃ o, K.lookup a = some o ∧ o.dict = none)
theorem Stt.plT {K : PySem.W.Frag} {F W : Addr → Prop} {H : Hp} {M : Mm} {a : Addr} {vs : List V} (s : Stt K F W M H) : Sp' K W H a vs → PlT K H a vs
  | .inl ⟨w, .inl h⟩ => (s.pl a _ w h).elim
  | .inl ⟨w, .inr ⟨o, h⟩⟩ => .inl ⟨o, h, s.pl a _ w h⟩
  | .inr h => .inr h
theorem PlT.run {pins : List (Addr × Obj)} {σ : L2.St} {H : Hp} {s : Shared} {a : Addr} {vs : List V} (I : Inv X pins σ H s) (h : PlT X.K H a vs) : ∃ (o : Obj) (its : List Value) (n : Nat), s.heap.get? a = some o ∧ o.cls = .type "tuple" ∧ o.dict = none ∧ o.data = .seq its.toArray n ∧ Vals vs its ∧ vs.length ≤ sizeLine := by
  rcases h with ⟨o, h, hd⟩ | ⟨h, o, hk, hd⟩
  · have q : ObjOk X.prog X.w H s.heap a (.frz o (.tup vs)) := I.hok a _ h
    obtain ⟨q1, q2⟩ := q
    obtain ⟨z, its, r, o2, e, hc, n, hdt⟩ := q2
    rw [q1] at e
    cases e
    exact ⟨o, its, n, q1, hc, hd, hdt, r, z⟩
  · rcases h with h | ⟨o2, its, n, hk2, hc, hs, hz, r⟩
    · rcases h with h | ⟨_, h⟩ <;> cases h
    · rw [hk] at hk2
      cases hk2
      exact ⟨o, its.toList, n, I.kIn a o hk, hc, hd, by simpa using hs, r, by rw [r.length]; simpa using hz⟩
theorem call_dictPT (hcalm : X.calm = true) : CallR X (.type "dict") (fun xs H Q => ∃ (a : Addr) (ps : List Addr) (kvs : List (Key × V)), xs = [.ref a] ∧ PlT X.K H a (ps.map V.ref) ∧ Paired (fun p kv => SqT X.K H p [kV kv.1, kv.2]) ps kvs ∧
    ∀ p, H p = none → Q (.ref p) (upd H p (.dK (mergeK [] kvs)))) := by
  intro pins s σ H xs us Q I r q
  obtain ⟨a, ps, kvs, ex, hq, hp, q⟩ := q
  subst ex
  obtain ⟨u, eu, rx⟩ := vals1 r
  subst eu
  cases rx
  obtain ⟨o, its, n, ho, hc, hd, hdat, rv, hz⟩ := hq.run I
  have ei := refs_at rv
  subst ei
  rw [List.length_map] at hz
  obtain ⟨prs, rel, hl, hpr⟩ := pairs_of I hp
  refine call_dict_pairsT (prs := prs) (I.ok.hd hcalm) ho hc hd hdat (by simp [hl]) (by rw [hl]; exact hz) (fun j q' e => ?_) fun h' tk hd' k => ?_
  · obtain ⟨b, u, e1, e2, e3⟩ := hpr j q' e
    exact ⟨b, u, by simp [e1], e2, e3⟩
  · have hm : (s.heap.objs.size == sysModules) = false := beq_eq_false_iff_ne.mpr (Nat.ne_of_gt I.big)
    have hlen : (mergeK [] kvs).length ≤ sizeLine := by
      refine Nat.le_trans (length_mergeK kvs []) ?_
      rw [List.length_nil, Nat.zero_add, rel.length, hl]
      exact hz
    exact ⟨.ref s.heap.objs.size, upd H s.heap.objs.size (.dK (mergeK [] kvs)), I.laid (t' := tk) k (Nat.le_refl _) (show ObjOk X.prog X.w _ _ _ (.dK (mergeK [] kvs)) from ⟨hlen, hm, merged [] prs, KV.merge rel .nil, hd'⟩), rfl, q _ (I.hok.fresh (Nat.le_refl _))⟩
theorem rd_pair {K : PySem.W.Frag} {W : Addr → Prop} {H : Hp} {v : V} {k : Key} {d : Da} (r : RD K W H v (.tup [kD k, d])) : ∃ b u, v = .ref b ∧ SqT K H b [kV k, u] ∧ RD K W H u d := by
  cases r with
  | tup hs rv =>
    cases rv with
    | cons r1 rr =>
      cases rr with
      | cons r2 rr =>
        cases rr
        obtain rfl := rd_kD r1
        exact ⟨_, _, rfl, hs.sq, r2⟩
theorem rds_pairs {K : PySem.W.Frag} {W : Addr → Prop} {H : Hp} : ∀ {vs : List V} {prs : List (Key × Da)}, RDs K W H vs (prs.map fun q => .tup [kD q.1, q.2]) → ∃ (ps : List Addr) (kvs : List (Key × V)), vs = ps.map V.ref ∧ Paired (fun p kv => SqT K H p [kV kv.1, kv.2]) ps kvs ∧ RK K W H kvs prs
  | _, [], .nil => ⟨[], [], rfl, .nil, .nil⟩
  | _, (k, d) :: prs, .cons h t => by
    obtain ⟨b, u, rfl, hb, hu⟩ := rd_pair h
    obtain ⟨ps, kvs, rfl, hp, hk⟩ := rds_pairs t
    exact ⟨b :: ps, (k, u) :: kvs, rfl, .cons hb hp, .cons hu hk⟩
theorem c_ddict (hc : X.calm = true) : CD X (.type "dict") kDict := cd_imp fun vs H Q ⟨F, W, M, ds, Qd, r, s, h, k⟩ => by
  refine ⟨_, call_dictPT hc, ?_⟩
  unfold kDict at h
  split at h
  · obtain ⟨v, rfl, r1⟩ := r.one
    obtain ⟨prs, rfl, q⟩ := h
    cases r1 with
    | tup hs rv =>
      obtain ⟨ps, kvs, rfl, hp, hk⟩ := rds_pairs rv
      exact ⟨_, ps, kvs, rfl, s.plT hs, hp, fun p hpf => k.newD s hpf (hk.merge .nil) q⟩
  · exact h.elim
/-- sorted(d) of a dict with keys of text -/
def kSortD : DC := fun xs M Q => match xs with
  | [x] => dctP x M fun kvs => ∃ ks : List Str, kvs.map (·.1) = ks.map Sum.inr ∧ ks.length < 64 ∧ ∀ ys : List Str, ys.Perm ks → sortedS ys = true → Q (.lst (ys.map .str)) M
  | _ => False
theorem c_dsortD (hc : X.calm = true) : CD X (.builtin "sorted") kSortD := cd_imp fun vs H Q ⟨F, W, M, ds, Qd, r, s, h, k⟩ => by
  refine ⟨_, call_sortedD hc, ?_⟩
  unfold kSortD at h
  split at h
  · obtain ⟨v, rfl, r1⟩ := r.one
    obtain ⟨a, vs, ds, rfl, ha, rv, ks, hk, hl, q⟩ := dct_of s r1 h
    exact ⟨a, vs, ks, rfl, .inl ha, by rw [rv.keys]; exact hk, hl, fun ys p hp hs hf => k.newL s hf (rds_strs ys) (q ys hp hs)⟩
  · exact h.elim
end
end U
set_option Elab.async false
set_option linter.all false
set_option maxRecDepth 100000
set_option maxHeartbeats 2000000
namespace U
open PySem PySem.Spec PyProof.Rows L2 UX0 UZ0
section
variable {X : Cx} {a e : Expr} {fa f : DTE} {pos p : Pos}
/-- two sorted rows without doubles that hold the same are equal -/
theorem nodup_perm {α : Type} [DecidableEq α] {xs ys : List α} (h1 : xs.Nodup) (h2 : ys.Nodup) (h : ∀ z, z ∈ xs ↔ z ∈ ys) : xs.Perm ys := by
  rw [List.perm_iff_count]
  intro z
  rw [h1.count, h2.count]
  simp only [h z]
structure KStrs (K : PySem.W.Frag) (x : Str) (zs : List Str) : Prop where
  ex : ∃ a its n sl, PySem.W.nsIn K mainGlobals x = some (some (.ref a)) ∧ K.lookup a = some ⟨.type "tuple", none, .seq its n, sl⟩ ∧ its.size ≤ sizeLine ∧ Vals (zs.map V.str) its.toList
theorem kstrs_mk {K : PySem.W.Frag} {x : Str} {zs : List Str} {a : Addr} {its : Array Value} {n : Nat} {sl : Array (Option Value)} (h1 : PySem.W.nsIn K mainGlobals x = some (some (.ref a))) (h2 : K.lookup a = some ⟨.type "tuple", none, .seq its n, sl⟩)
    (h3 : its.size ≤ sizeLine) (h4 : Vals (zs.map V.str) its.toList) : KStrs K x zs := ⟨a, its, n, sl, h1, h2, h3, h4⟩
theorem d_gt {x : Str} {zs : List Str} (M : MgOf X.K X.mg) (h : KStrs X.K x zs) (hg : Gl X x := by rfl) (hd : (x == ("__debug__" : Str)) = false := by decide) : DE X (.Name x pos) (gC (.tup (zs.map Da.str))) := by
  obtain ⟨a, its, n, sl, h1, h2, h3, h4⟩ := h.ex
  exact d_const (v := .ref a) (pe_glob hg (M.of _ _ h1) rfl hd) fun W H => .tup (.inr ⟨.inr ⟨_, its, n, h2, rfl, rfl, h3, h4⟩, _, h2, rfl⟩) (rds_strs zs)
theorem Slts.nil : Slts X [] [] := ⟨rfl, fun k n i e => by simp at e⟩
theorem Slts.cons {n : Str} {i : Nat} {ns : List Str} {is : List Nat} (hi : X.N[i]? = some n) (r : Slts X ns is) (hx : Loc X.env.scope n := by first | exact Or.inl rfl | exact Or.inr rfl)
    (hf : X.fn n = true ∨ X.env.scope.names.lookup n = some .local := by first | exact .inl rfl | exact .inr rfl) : Slts X (n :: ns) (i :: is) := by
  refine ⟨by rw [List.length_cons, List.length_cons, r.len], fun k m j e1 e2 => ?_⟩
  cases k with
  | zero => cases e1; cases e2; exact ⟨hi, hx, hf⟩
  | succ k => exact r.at_ k m j (by simpa using e1) (by simpa using e2)
end
end U
set_option Elab.async false
set_option linter.all false
set_option maxRecDepth 100000
set_option maxHeartbeats 2000000
namespace U
open PySem PySem.Spec PyProof.Rows L2
section
variable {X : Cx}
def hInC : D2 := fun x y M Q => ∃ (c : Nat) (z : Str), x = .str ⟨#[c]⟩ ∧ y = .str z ∧ Q (.bl (decide (c ∈ z.cps.toList))) M
theorem o_dinC : DO X (compareOp .In) hInC := do_imp fun x y H Q ⟨F, W, M, d, e, Qd, r1, r2, s, h, k⟩ => by
  obtain ⟨c, z, rfl, rfl, q⟩ := h
  cases r1; cases r2
  exact ⟨_, op_inS, c, z, rfl, rfl, k.now s (.bl _) q⟩
/-- t != () -/
def rNeE (K : PySem.W.Frag) : R2 := fun x y H Q => ∃ a b xs, x = .ref a ∧ y = .ref b ∧ SqT K H a xs ∧ SqT K H b [] ∧ Q (.bl (!xs.isEmpty)) H
theorem op_neE (hu : X.A.units < cLine) : OpR X (compareOp .NotEq) (rNeE X.K) := by
  intro pins s σ H x y v u Q I rx ry h
  obtain ⟨a, b, xs, rfl, rfl, ha, hb, q⟩ := h
  cases rx
  cases ry
  obtain ⟨its, r, p, _⟩ := I.tuple ha
  obtain ⟨its2, r2, p2, _⟩ := I.tuple hb
  cases r2
  show wpAny _ _ (richCompare .NotEq (Value.ref a) (Value.ref b)) _ _ _
  refine SeqAt.RcNeAt.tuples (e := fun _ => true) p p2 hu (fun j h1 h2 => by simp at h2) _ _ _ _ ?_
  have e : (!(((List.range (min its.toArray.size (#[] : Array Value).size)).all fun x => true) && its.toArray.size == (#[] : Array Value).size)) = !xs.isEmpty := by
    cases r <;> simp
  rw [e]
  exact ⟨.bl _, H, I, rfl, q⟩
def hNeE : D2 := fun x y M Q => match x, y with
  | .tup xs, .tup [] => Q (.bl (!xs.isEmpty)) M
  | _, _ => False
theorem o_dneE (hu : X.A.units + 64 < cLine) : DO X (compareOp .NotEq) hNeE := do_imp fun x y H Q ⟨F, W, M, d, e, Qd, r1, r2, s, h, k⟩ => by
  unfold hNeE at h
  split at h
  · cases r1 with
    | tup hs rv =>
      cases r2 with
      | tup ht rw_ =>
        cases rw_
        refine ⟨_, op_neE (by omega), _, _, _, rfl, rfl, hs.sq, ht.sq, k.now s (.bl _) ?_⟩
        cases rv <;> exact h
  · exact h.elim
end
/-- values of the plain kinds, all the way down -/
inductive pv : Da → Prop
  | non : pv .non
  | bl (b : Bool) : pv (.bl b)
  | int (i : Int) : pv (.int i)
  | str (z : Str) : z.length ≤ 1000 → pv (.str z)
  | lst (xs : List Da) : xs.length ≤ 5000 → (∀ x ∈ xs, pv x) → pv (.lst xs)
  | tup (xs : List Da) : xs.length ≤ 5000 → (∀ x ∈ xs, pv x) → pv (.tup xs)
  | dct (kvs : List (Key × Da)) : pv (.dct kvs)
theorem letters (c : Nat) : decide (c ∈ ("abcdefghijklmnopqrstuvwxyz" : Str).cps.toList) = (decide (97 ≤ c) && decide (c ≤ 122)) := by
  by_cases h : c < 128
  · exact (show ∀ c : Fin 128, decide (c.val ∈ ("abcdefghijklmnopqrstuvwxyz" : Str).cps.toList) = (decide (97 ≤ c.val) && decide (c.val ≤ 122)) by decide +kernel) ⟨c, h⟩
  · rw [decide_eq_false (show ¬ c ≤ 122 by omega), Bool.and_false]
    refine decide_eq_false fun m => h ?_
    exact (show ∀ c ∈ ("abcdefghijklmnopqrstuvwxyz" : Str).cps.toList, c < 128 by decide +kernel) c m
/-- whether a value is a name -/
def nameZ (z : Str) : Bool := decide (0 < z.length) && decide (z.length ≤ 8) && z.cps.toList.all fun c => decide (97 ≤ c) && decide (c ≤ 122)
def nameD : Da → Bool
  | .str z => nameZ z
  | _ => false
end U
namespace U
open PySem PySem.Spec PyProof.Rows L2
/-- a def whose promise nobody can ask for -/
theorem KnD.never {P : Program} {w : World} {K : PySem.W.Frag} {mg : Str → Option Value} {base : Heap} {x : Str} {st : Stmt} {N ps : List Str} {k : Nat} {sp : DSp} (F : HasDef K x st) (M : MgOf K mg) (S : FnScope N ps (defScope st))
    (hb : ∀ (kV doc pm : Value) (an : Option Addr) (cdv ct : Value) (us : List Value), us.length = ps.length → bindArgs (PySem.W.fnOf x x (defArgs st) (defBody st) (defScope st) .none kV doc pm an cdv ct) ⟨us, []⟩ = pure (ps.zip us))
    (no : ∀ ds M Q E, ¬ sp ds M Q E) : KnD P w K mg base x (k + 1) ps sp :=
  Known.of F M S hb (lsp_len fun ds M Q E h => (no _ _ _ _ h).elim) fun f cdv A outer s H vs Q E hr ⟨F, W, M, ds, Qd, Ed, r, st, h, kk, kx⟩ => (no _ _ _ _ h).elim
theorem inD_strs (ws : List Str) (z : Str) : inD (.str z) (ws.map Da.str) = ws.contains z := by
  unfold inD
  rw [List.any_map, List.contains_eq_any_beq]
  congr 1
  funext w
  show eqD (.str w) (.str z) = (z == w)
  rw [eqD_dec (p := z = w) rfl rfl ⟨fun h => by cases h; rfl, fun h => by rw [h]⟩]
  by_cases h : z = w
  · subst h; simp
  · rw [decide_eq_false h, beq_eq_false_iff_ne.mpr h]
theorem flat_strs (ws : List Str) (z : Str) : flat2 (.str z) (ws.map Da.str) = true := by
  unfold flat2
  rw [List.all_map, Bool.and_eq_true, List.all_eq_true]
  exact ⟨rfl, fun _ _ => rfl⟩
end U
namespace U
/-- a while by a measure -/
theorem wh_ind {c : DTT} {tb : DTS} {D : DEnds} (I : Nat → De → Mm → Prop)
    (hs : ∀ (n : Nat) δ M (NX : De → Mm → Prop), I n δ M → (∀ δ' M' m, m < n → I m δ' M' → NX δ' M') → c δ M fun b M1 => if b = true then tb { D with nx := NX, ct := NX, bk := D.nx } δ M1 else D.nx δ M1) {n : Nat} {δ : De} {M : Mm} (h : I n δ M) : hWhile c tb D δ M := by
  have go : ∀ (N n : Nat) (δ : De) (M : Mm), n < N → I n δ M → whD c tb D N δ M := by
    intro N
    induction N with
    | zero => intro n δ M h _; omega
    | succ N ih => intro n δ M h hI; exact hs n δ M (whD c tb D N) hI fun δ' M' m hm hI' => ih m δ' M' (by omega) hI'
  exact ⟨n + 1, go _ n δ M (Nat.lt_succ_self n) h⟩
end U
namespace U
open PySem PySem.Spec PyProof.Rows L2
theorem lcS_map {α : Type} {c : CT} {tt : DTT} {te : DTE} {δ : De} {M : Mm} {g : α → Da} (p : α → Bool) (f : α → Str) : ∀ {l : List α} {k : List Str → Mm → Prop}, (∀ x ∈ l, c.ok (g x) ∧ ∀ Q : Bool → Mm → Prop, Q (p x) M → tt (c.set (g x) δ) M Q) →
    (∀ x ∈ l, p x = true → ∀ Q : DK, Q (.str (f x)) M → te (c.set (g x) δ) M Q) → k ((l.filter p).map f) M → lcS c tt te δ (l.map g) k M
  | [], k, _, _, h => h
  | x :: l, k, h1, h2, h => by
    obtain ⟨o, t⟩ := h1 x List.mem_cons_self
    refine ⟨o, t _ ?_⟩
    cases e : p x with
    | false =>
      rw [List.filter_cons, e, if_neg Bool.false_ne_true] at h
      exact lcS_map p f (fun y hy => h1 y (List.mem_cons_of_mem _ hy)) (fun y hy => h2 y (List.mem_cons_of_mem _ hy)) h
    | true =>
      rw [List.filter_cons, e, if_pos rfl] at h
      exact h2 x List.mem_cons_self e _ (lcS_map p f (fun y hy => h1 y (List.mem_cons_of_mem _ hy)) (fun y hy => h2 y (List.mem_cons_of_mem _ hy)) h)
theorem lcS_all {α : Type} {c : CT} {te : DTE} {δ : De} {M : Mm} {g : α → Da} (f : α → Str) {l : List α} {k : List Str → Mm → Prop} (h1 : ∀ x ∈ l, c.ok (g x)) (h2 : ∀ x ∈ l, ∀ Q : DK, Q (.str (f x)) M → te (c.set (g x) δ) M Q)
    (h : k (l.map f) M) : lcS c gYes te δ (l.map g) k M :=
  lcS_map (fun _ => true) f (fun x hx => ⟨h1 x hx, fun Q q => q⟩) (fun x hx _ => h2 x hx) (by rw [List.filter_eq_self.mpr (fun _ _ => rfl)]; exact h)
theorem not_nodup {α : Type} [DecidableEq α] : ∀ {l : List α}, ¬ l.Nodup → ∃ l' : List α, l'.length + 1 = l.length ∧ ∀ z ∈ l, z ∈ l'
  | [], h => (h List.nodup_nil).elim
  | x :: r, h => by
    by_cases hx : x ∈ r
    · exact ⟨r, rfl, fun z hz => (List.mem_cons.mp hz).elim (fun e => e ▸ hx) id⟩
    · obtain ⟨l', h1, h2⟩ := not_nodup (l := r) fun hr => h (List.nodup_cons.mpr ⟨hx, hr⟩)
      exact ⟨x :: l', by rw [List.length_cons, h1, List.length_cons], fun z hz => (List.mem_cons.mp hz).elim (fun e => e ▸ List.mem_cons_self) fun hz => List.mem_cons_of_mem _ (h2 z hz)⟩
/-- a row without doubles that holds what l holds is as long as l just if l has no doubles -/
theorem len_nodup {α : Type} [DecidableEq α] {L l : List α} (hL : L.Nodup) (h : ∀ z, z ∈ L ↔ z ∈ l) : L.length = l.length ↔ l.Nodup := by
  constructor
  · intro e
    apply Classical.byContradiction
    intro hn
    obtain ⟨l', h1, h2⟩ := not_nodup hn
    have := hL.length_le_of_subset fun z hz => h2 z ((h z).mp hz)
    omega
  · intro hl
    exact (nodup_perm hL hl h).length_eq
def kvsD (own : List (Str × Str)) : List (Key × Da) := own.map fun p => (Sum.inr p.1, Da.str p.2)
theorem putDK_new {kvs : List (Key × Da)} {k : Key} {d : Da} (h : k ∉ kvs.map (·.1)) : putDK kvs k d = kvs ++ [(k, d)] := by
  unfold putDK
  rw [if_neg]
  intro e
  obtain ⟨p, hp, he⟩ := List.any_eq_true.mp e
  exact h (by rw [← of_decide_eq_true he]; exact List.mem_map_of_mem hp)
theorem mergeD_new : ∀ {more acc : List (Key × Da)}, (acc.map (·.1) ++ more.map (·.1)).Nodup → mergeD acc more = acc ++ more
  | [], acc, _ => by show acc = _; rw [List.append_nil]
  | p :: r, acc, h => by
    show mergeD (putDK acc p.1 p.2) r = _
    have hn : p.1 ∉ acc.map (·.1) := fun hm => by
      have := (List.nodup_append.mp h).2.2 _ hm _ List.mem_cons_self
      exact this rfl
    rw [putDK_new hn, mergeD_new (acc := acc ++ [(p.1, p.2)]) (by
      rw [List.map_append, List.append_assoc]
      exact h)]
    rw [List.append_assoc]; rfl
theorem inr_nodup {own : List (Str × Str)} (h : (own.map (·.1)).Nodup) : ((kvsD own).map (·.1)).Nodup := by
  unfold kvsD
  rw [List.map_map]
  have : (own.map ((fun x : Key × Da => x.1) ∘ fun p : Str × Str => (Sum.inr p.1, Da.str p.2))) = (own.map (·.1)).map Sum.inr := by rw [List.map_map]; rfl
  rw [this]
  exact List.pairwise_map.mpr (h.imp fun hab e => hab (Sum.inr.inj e))
end U
namespace U
open PySem PySem.Spec PyProof.Rows L2
section
variable {X : Cx} {C : Addr} {k : Nat} {ps : List Str}
end
end U
namespace U
open PySem PySem.Spec PyProof.Rows L2
theorem c_disiK {X : Cx} {K : PySem.W.Frag} (h : X.K = K) : CD X (.builtin "isinstance") (kIsi K) := h ▸ c_disi
end U
set_option Elab.async false
set_option linter.all false
set_option maxRecDepth 100000
set_option maxHeartbeats 2000000
namespace U
open PySem PySem.Spec PyProof.Rows L2
abbrev KnXD (P : Program) (w : World) (K : PySem.W.Frag) (mg : Str → Option Value) (base : Heap) (x : Str) (k : Nat) (ps : List Str) (sp : DSp) : Prop := Known P w K mg base (L2.CX P w) x k ps (LSp K sp)
abbrev KnMXD (P : Program) (w : World) (K : PySem.W.Frag) (mg : Str → Option Value) (base : Heap) (C : Addr) (m : Str) (k : Nat) (ps : List Str) (sp : DSp) : Prop := KnownM P w K mg base (L2.CX P w) C m k ps (LSp K sp)
def bodyX (Q : DK) (Ed : DX) : DEnds := { nx := fun _ M => Q .non M, rt := Q, ex := Ed }
theorem ls_bodyX {K : PySem.W.Frag} {F W : Addr → Prop} {M : Mm} {H : Hp} {N : List Str} {vs : List V} {ds : List Da} {Qd : DK} {Q : VK} {Ed : DX} {E : XK} {t : DTS} (r : RDs K W H vs ds) (s : Stt K F W M H) (k : Kt (rE K) K F W H Qd Q) (kx : KX K F W H Ed E) (h : t (bodyX Qd Ed) (startD N ds) M) :
    LS K E t { nx := fun _ H' => Q .non H', rt := Q } (start N vs) H :=
  ⟨_, F, W, M, _, env_start N r, s, h, fun σ H' W' δ M' g s' e q => k _ _ _ _ _ g s' .non q, k, fun _ _ _ _ _ _ _ _ z => z.elim, fun _ _ _ _ _ _ _ _ z => z.elim, kx⟩
theorem kx_def {P : Program} {w : World} {K : PySem.W.Frag} {mg : Str → Option Value} {base : Heap} {N : List Str} {x : Str} {sc : Scope} {f : Addr} {cdv : Value} {A : Around} {outer : List Env} {s : Shared} {H0 : Hp} {E : XK} {F W : Addr → Prop} {H : Hp} {Ed : DX} (kx : KX K F W H Ed E) :
    KX K F W H Ed (EXm (cxOf (L2.CX P w) P w K mg base N x sc f cdv A outer s H0 E)) :=
  fun cls d H' W' fs M' g s' r q => EXm.of (takes_of rfl rfl rfl rfl) fun _ _ => kx cls d H' W' fs M' g s' r q
theorem KnXD.of {P : Program} {w : World} {K : PySem.W.Frag} {mg : Str → Option Value} {base : Heap} {x : Str} {st : Stmt} {N ps : List Str} {k : Nat} {sp : DSp} (F : HasDef K x st) (M : MgOf K mg) (S : FnScope N ps (defScope st))
    (hb : ∀ (kV doc pm : Value) (an : Option Addr) (cdv ct : Value) (us : List Value), us.length = ps.length → bindArgs (PySem.W.fnOf x x (defArgs st) (defBody st) (defScope st) .none kV doc pm an cdv ct) ⟨us, []⟩ = pure (ps.zip us))
    (len : ∀ ds M Q E, sp ds M Q E → ds.length = ps.length)
    (hbody : ∀ (f : Addr) (cdv : Value) (A : Around) (outer : List Env) (s : Shared) (H : Hp) (E : XK), Room k (A.deeper (envOfC x (defScope st) s.heap.objs.size f cdv)) →
      ∃ t, DB (cxOf (L2.CX P w) P w K mg base N x (defScope st) f cdv A outer s H E) (defBody st) t ∧ ∀ ds M Q Ed, sp ds M Q Ed → t (bodyX Q Ed) (startD N ds) M) : KnXD P w K mg base x (k + 1) ps sp := by
  obtain ⟨f, fd, G, e⟩ := F.ex
  refine ⟨f, fd, G.okX S (lsp_len len) (fun cdv A outer s H vs Q E hr ⟨F, W, M, ds, Qd, Ed, r, st, h, kk, kx⟩ => ?_), M.of _ _ e, G.kp, G.binds hb⟩
  obtain ⟨t, d, q⟩ := hbody f cdv A outer s H E hr
  exact ⟨_, d, ls_bodyX r st kk (kx_def kx) (q ds M Qd Ed h)⟩
theorem KnMXD.of {P : Program} {w : World} {K : PySem.W.Frag} {mg : Str → Option Value} {base : Heap} {C : Addr} {m qual : Str} {st : Stmt} {N ps : List Str} {k : Nat} {sp : DSp} (F : HasMeth K C m qual st) (S : FnScope N ps (defScope st))
    (hb : ∀ (kV doc pm : Value) (an : Option Addr) (cdv ct : Value) (us : List Value), us.length = ps.length → bindArgs (PySem.W.fnOf m qual (defArgs st) (defBody st) (defScope st) .none kV doc pm an cdv ct) ⟨us, []⟩ = pure (ps.zip us))
    (len : ∀ ds M Q E, sp ds M Q E → ds.length = ps.length)
    (hbody : ∀ (f : Addr) (cdv : Value) (A : Around) (outer : List Env) (s : Shared) (H : Hp) (E : XK), Room k (A.deeper (envOfC qual (defScope st) s.heap.objs.size f cdv)) →
      ∃ t, DB (cxOf (L2.CX P w) P w K mg base N qual (defScope st) f cdv A outer s H E) (defBody st) t ∧ ∀ ds M Q Ed, sp ds M Q Ed → t (bodyX Q Ed) (startD N ds) M) : KnMXD P w K mg base C m (k + 1) ps sp := by
  obtain ⟨f, fd, G, e⟩ := F.ex
  refine ⟨f, fd, G.okX S (lsp_len len) (fun cdv A outer s H vs Q E hr ⟨F, W, M, ds, Qd, Ed, r, st, h, kk, kx⟩ => ?_), e, G.binds hb⟩
  obtain ⟨t, d, q⟩ := hbody f cdv A outer s H E hr
  exact ⟨_, d, ls_bodyX r st kk (kx_def kx) (q ds M Qd Ed h)⟩
def spN (sp : DSp) : DSp := fun ds M Q _ => sp ds M Q X0
theorem FnOk.nox {P : Program} {w : World} {K : PySem.W.Frag} {mg : Str → Option Value} {base : Heap} {k : Nat} {f : Addr} {fd : FuncData} {ps : List Str} {sp : DSp} (F : FnOk P w K mg base (L2.CX P w) k f fd ps (LSp K sp)) : FnOk P w K mg base CX0 k f fd ps (LSp K (spN sp)) := by
  have x0 : ∀ {vs H Q E}, LSp K (spN sp) vs H Q E → LSp K sp vs H Q (fun _ _ _ => False) := fun ⟨F, W, M, ds, Qd, Ed, r, s, h, k, _⟩ => ⟨F, W, M, ds, Qd, X0, r, s, h, k, fun _ _ _ _ _ _ _ _ _ z => z.elim⟩
  refine ⟨fun vs H Q E h => F.len vs H Q _ (x0 h), fun A outer s H args us vs Q E hr e0 hb hv hs => ?_⟩
  refine codeAny_mono (F.run A outer s H args us vs Q _ hr e0 hb hv (x0 hs)) fun r s' hq => ?_
  cases r with
  | error e =>
    obtain ⟨_, _, _, _, _, _, _, _, _, _, _, _, z⟩ := (show L2.CX P w outer H s (fun _ _ _ => False) e s' from hq)
    exact z.elim
  | ok fl => cases fl <;> exact hq
theorem KnXD.d {P : Program} {w : World} {K : PySem.W.Frag} {mg : Str → Option Value} {base : Heap} {x : Str} {k : Nat} {ps : List Str} {sp : DSp} (D : KnXD P w K mg base x k ps sp) : KnD P w K mg base x k ps (spN sp) := by
  obtain ⟨f, fd, F, r⟩ := D.ex
  exact ⟨f, fd, FnOk.nox F, r⟩
theorem KnMXD.d {P : Program} {w : World} {K : PySem.W.Frag} {mg : Str → Option Value} {base : Heap} {C : Addr} {m : Str} {k : Nat} {ps : List Str} {sp : DSp} (D : KnMXD P w K mg base C m k ps sp) : KnMD P w K mg base C m k ps (spN sp) := by
  obtain ⟨f, fd, F, r⟩ := D.ex
  exact ⟨f, fd, FnOk.nox F, r⟩
abbrev XDE := De → Mm → DK → DX → Prop
abbrev XDA := De → Mm → (List Da → Mm → Prop) → DX → Prop
def LiX {α β : Type} (R : (Addr → Prop) → Hp → α → β → Prop) (K : PySem.W.Frag) (E : XK) (g : De → Mm → (β → Mm → Prop) → DX → Prop) : L2.St → Hp → (α → Hp → Prop) → Prop := fun σ H Q =>
  ∃ δ F W M Qd Ed, EnvR K W H δ σ ∧ Stt K F W M H ∧ g δ M Qd Ed ∧ Kt R K F W H Qd Q ∧ KX K F W H Ed E
def DEX (X : Cx) (e : Expr) (g : XDE) : Prop := PE X e (LiX (rE X.K) X.K (EXm X) g)
section
variable {X : Cx} {k : Nat} {ps : List Str} {sp : DSp} {x m : Str} {p pos apos : Pos} {a b e o : Expr} {es : List Expr} {fa : XDE} {fs : XDA} {f fo : DTE} {C : Addr}
theorem make_endX {K : PySem.W.Frag} {F W : Addr → Prop} {M : Mm} {H : Hp} {Q : VK} {Qd : DK} {Ed : DX} {E : XK} {vs : List V} {gd : List Da} {sp : DSp} {C a dx : Addr} (s : Stt K F W M H) (ha : H a = none) (hd : H dx = none) (hx : dx ≠ a) (kk : Kt (rE K) K F W H Qd Q) (kx : KX K F W H Ed E)
    (rg : ∀ {W' H'}, Grow F W H W' H' → RDs K W' H' vs gd)
    (h : sp gd (mput M a (.ins C [])) (fun v M3 => v = .non ∧ ∃ gs, M3 a = some (.ins C gs) ∧ Qd (.obj C gs) (mdel M3 a)) (fun cls fs M3 => ∃ M4, Sub M4 M3 ∧ Ed cls fs M4)) :
    LSp K sp vs (upd (upd H dx (.own a)) a (.ins C dx [])) (fun v H2 => v = .non ∧ Q (.ref a) H2) E := by
  have s1 := s.junk hd (.own a)
  have ha1 : (upd H dx (.own a)) a = none := by rw [upd_ne (Ne.symm hx)]; exact ha
  have s2 := s1.newM ha1 (o := .ins C dx []) (u := .ins C []) (.ins .nil)
  have g2 : Grow F W H W (upd (upd H dx (.own a)) a (.ins C dx [])) := (grow_new s hd).trans (grow_new s1 ha1)
  refine ⟨F, W, _, gd, _, _, rg g2, s2, h, fun v H3 W3 d M3 g3 s3 r3 q3 => ?_, fun cls d H3 W3 fs M3 g3 s3 r3 ⟨M4, sb, q3⟩ => kx cls d H3 W3 fs M4 (g2.trans g3) (s3.forget sb) r3 q3⟩
  obtain ⟨rfl, gs, hm, q⟩ := q3
  cases r3
  refine ⟨rfl, ?_⟩
  obtain ⟨u, hu, mr⟩ := s3.mem _ _ hm
  obtain ⟨s4, g4⟩ := s3.settle hm
  cases mr with
  | ins rv => exact (kk.mono ((g2.trans g3).trans g4)).now s4 (.obj (.inl rfl) hu (rv.mono g4)) q
def hRetX (g : XDE) : DTS := fun D δ M => g δ M (fun x M1 => ∃ M2, Sub M2 M1 ∧ D.rt x M2) D.ex
theorem z_retX {g : XDE} (he : DEX X e g) : DS X (.Return (some e) pos) (hRetX g) := ps_imp (ps_ret he) fun D σ H ⟨δ, F, W, M, Dd, ev, s, h, k⟩ =>
  ⟨δ, F, W, M, _, _, ev, s, h, fun v H1 W1 d M1 g1 s1 r1 ⟨M2, sb, q⟩ => k.rt v H1 W1 d M2 g1 (s1.forget sb) r1 q, k.ex⟩
/-- an own exception class without an own __init__ -/
structure XCls (K : PySem.W.Frag) (x : Str) (C : Addr) : Prop where
  at_ : PySem.W.nsIn K mainGlobals x = some (some (.ref C))
  exc : PySem.W.excIn K C [.type "ValueError", .type "Exception", .type "BaseException", .type "object"] "ValueError.__new__" = true
  kp : PySem.W.keepIn K (.ref C) = true
  sub : PySem.W.subIn K (.ref C) (.type "BaseException") = some true
  ty : PySem.W.typeIn K (.ref C) = some (.type "type")
end
end U
set_option Elab.async false
set_option linter.all false
set_option maxRecDepth 100000
set_option maxHeartbeats 2000000
namespace U
open PySem PySem.Spec PyProof.Rows L2 LamX
/-- a table, of whose code objects V holds -/
def TabV (V : Addr → Prop) (H : Hp) (P : Addr) (q : Str) : Prop := ∃ ps : Array Value, H P = some (.tbl ps) ∧ TriplesOk ps.toList ∧ ∀ (pos : Pos) (cv : Value), codeAmong pos ps.toList = some cv → ∃ c, cv = .ref c ∧ H c = some (CodeO c q) ∧ V c
theorem TabV.imp {V V' : Addr → Prop} {H : Hp} {P : Addr} {q : Str} (h : TabV V H P q) (f : ∀ c, V c → V' c) : TabV V' H P q :=
  let ⟨ps, a, b, d⟩ := h; ⟨ps, a, b, fun pos cv e => let ⟨c, x, y, z⟩ := d pos cv e; ⟨c, x, y, f c z⟩⟩
section
variable {X : Cx} {pins : List (Addr × Obj)} {σ : L2.St} {H : Hp} {s : Shared}
end
section
variable {X : Cx}
end
end U
namespace U
open PySem PySem.Spec PyProof.Rows L2 LamX
theorem ls_E {K : PySem.W.Frag} {E E' : XK} {f : DTS} {D : Ends} {σ : L2.St} {H : Hp} (h : ∀ cls d H, E cls d H → E' cls d H) (q : LS K E f D σ H) : LS K E' f D σ H := by
  obtain ⟨δ, F, W, M, Dd, ev, s, hf, k⟩ := q
  exact ⟨δ, F, W, M, Dd, ev, s, hf, k.nx, k.rt, k.bk, k.ct, fun cls d H' W' fs M' g s' r e => h _ _ _ (k.ex cls d H' W' fs M' g s' r e)⟩
inductive HdsD (X : Cx) : List ExceptHandler → List (Value × DTS) → Prop
  | nil : HdsD X [] []
  | cons {x : Str} {c : Value} {th : DTS} {b₀ : Stmt} {suite : List Stmt} {np pos' : Pos} {hds : List ExceptHandler} {l : List (Value × DTS)} (hc : Names X x c) (hsu : ∀ (a : Addr) (oe : Obj) (pn : List (Addr × Obj)), DB (X.suite a ((a, oe) :: pn)) (b₀ :: suite) th) (r : HdsD X hds l) :
      HdsD X (.ExceptHandler (some (.Name x np)) none (b₀ :: suite) pos' :: hds) ((c, th) :: l)
def upH (K : PySem.W.Frag) (l : List (Value × DTS)) : List (Value × (Addr → Value → Option Addr → TS)) := l.map fun p => (p.1, fun _ _ _ => LS K (fun _ _ _ => False) p.2)
theorem HdsD.ok {X : Cx} {hds : List ExceptHandler} {l : List (Value × DTS)} (h : HdsD X hds l) : HdsOk X hds (upH X.K l) := by
  induction h with
  | nil => exact .nil
  | cons hc hsu r ih => exact .cons hc (fun a oe cls d pn _ _ => pss_imp (hsu a oe pn) fun D σ H q => ls_E (fun _ _ _ z => z.elim) q) ih
structure HasDefC (K : PySem.W.Frag) (x : Str) (st : Stmt) (c : Addr) : Prop where
  ex : ∃ (f : Addr) (oc : Value) (od an : Option Addr) (osl : Array (Option Value)) (kV doc pm ct : Value), PySem.W.nsIn K mainGlobals x = some (some (.ref f)) ∧ K.lookup f = some ⟨oc, od, .func (PySem.W.fnOf x x (defArgs st) (defBody st) (defScope st) .none kV doc pm an (.ref c) ct), osl⟩ ∧
    PySem.W.codeIn K (.ref c) x = true ∧ PySem.W.keepIn K (.ref f) = true
theorem HasDefC.d {K : PySem.W.Frag} {x : Str} {st : Stmt} {c : Addr} (h : HasDefC K x st c) : HasDef K x st := by
  obtain ⟨f, oc, od, an, osl, kV, doc, pm, ct, a, l, h, k⟩ := h.ex
  exact has_mk a l h k
section
variable {K : PySem.W.Frag}
end
section
variable {X : Cx} {Ng : List Str} {x a q : Str} {sg : Scope} {g : Addr} {cdg : Value} {h₀ : ExceptHandler} {hds : List ExceptHandler} {l : List (Value × DTS)} {p1 p2 p3 p8 : Pos} {rest : List Stmt} {u : DTS}
end
section
variable {X : Cx} {Ng : List Str} {x a : Str} {st : Stmt} {h₀ : ExceptHandler} {hds : List ExceptHandler} {l : List (Value × DTS)} {p1 p2 p3 p8 p lpos pos : Pos} {rest : List Stmt} {u : DTS} {P c : Addr} {k : Nat} {params : Arguments} {body : Expr} {scope : Scope} {gb : XDE}
end
end U
set_option Elab.async false
set_option linter.all false
set_option maxRecDepth 100000
set_option maxHeartbeats 2000000
namespace U
open PySem PySem.Spec PyProof.Rows L2 LamX
end U
set_option Elab.async false
set_option linter.all false
set_option maxRecDepth 100000
set_option maxHeartbeats 2000000
namespace U
open PySem PySem.Spec PyProof.Rows L2
/-- {tk: tv for c in .. if tt} -/
def dcD (c : CT) (tt : DTT) (tk tv : DTE) (δ : De) : List Da → List (Key × Da) → (List (Key × Da) → Mm → Prop) → Mm → Prop
  | [], acc, k, M => k acc M
  | d :: ds, acc, k, M => c.ok d ∧ tt (c.set d δ) M fun b M2 => if b = true then tk (c.set d δ) M2 fun y M3 => tv (c.set d δ) M3 fun z M4 => ∃ kk, asK y = some kk ∧ dcD c tt tk tv δ ds (putDK acc kk z) k M4 else dcD c tt tk tv δ ds acc k M2
def gDc (di : DTI) (c : CT) (tt : DTT) (tk tv : DTE) (vs : List Nat) : DTE := fun δ M Q => di δ M fun ds M1 => Sz ds.length ∧ dcD c tt tk tv (wipeD δ vs) ds [] (fun kvs M2 => Q (.dct kvs) M2) M1
section
variable {X : Cx} {tg kx vx iter : Expr} {ifs : List Expr} {scope : Scope} {own : List (Str × Nat)} {pos spos py : Pos} {di : DTI} {c : CT} {tt : DTT} {tk tv : DTE} {y : Str} {i : Nat}
theorem li_dc {K : PySem.W.Frag} {vs : List Nat} (hv : ∀ i ∈ c.slots, i ∈ vs) {σ : L2.St} {H : Hp} {Q : VK} (h : Li (rE K) K (gDc di c tt tk tv vs) σ H Q) : tDc (LI K di) (c.tg K) (Li rT K tt) (Li (rE K) K tk) (Li (rE K) K tv) vs σ H Q := by
  obtain ⟨δ, F, W, M, Qd, ev, s, h, k⟩ := h
  refine ⟨δ, F, W, M, _, ev, s, h, fun J H1 W1 M1 ds g1 s1 ij ⟨hz, q⟩ D hD => ?_⟩
  have hFD : ¬ F D := s1.freeF hD
  let Kf : List (Key × Da) → Mm → Prop := fun kvs M2 => Qd (.dct kvs) M2
  let Pv : Nat → Hp → Prop := fun i H2 => ∃ W2 Md ac acc, Grow F W1 H1 W2 H2 ∧ Stt K (fadd F D) W2 Md H2 ∧ H2 D = some (.dK ac) ∧ RK K W2 H2 ac acc ∧ acc.length ≤ i ∧ dcD c tt tk tv (wipeD δ vs) (ds.drop i) acc Kf Md
  refine ⟨fun i m H2 => m = ds.length - i ∧ i ≤ ds.length ∧ Pv i H2, ⟨ds.length, by simp, Nat.zero_le _, W1, M1, [], [], grow_new s1 hD, s1.addF hD _, upd_same, .nil, Nat.le_refl _, q⟩, ?_⟩
  rintro i m H2 ⟨rfl, hi, W2, Md, ac, acc, g2, s2, hac, rac, hal, q2⟩
  obtain ⟨go, stop⟩ := ij (fadd F D) W2 H2 Md g2.noF s2
  by_cases hlt : i < ds.length
  · have hd : ds[i]? = some ds[i] := List.getElem?_eq_getElem hlt
    obtain ⟨go1, go2⟩ := go i _ hd
    refine .inr ⟨go1, Pv (i + 1), fun H' p' => ⟨ds.length - (i + 1), by omega, rfl, hlt, p'⟩, fun x H3 y => ?_⟩
    obtain ⟨W3, g3, s3, r3⟩ := go2 x H3 y
    rw [List.drop_eq_getElem_cons hlt] at q2
    obtain ⟨ok, q2⟩ := q2
    have e3 : EnvR K W3 H3 (wipeD δ vs) (wipe σ vs) := (ev.mono (grow_drop (g1.trans g2) g3)).wipe vs
    refine ct_ok hv ok r3 e3 fun σ2 hw ev2 => ⟨by rw [hw, wipe_wipe vs vs σ fun _ h => h], _, fadd F D, W3, Md, _, ev2, s3, q2, fun b H4 W4 b' M4 g4 s4 eb q4 => ?_⟩
    cases eb
    have gg := g3.trans g4
    cases b with
    | false =>
      refine ⟨W4, M4, ac, acc, grow_drop g2 gg, s4, ?_, rac.mono gg, Nat.le_succ_of_le hal, q4⟩
      rw [gg.f D (.inl rfl)]; exact hac
    | true =>
      refine ⟨_, fadd F D, W4, M4, _, ev2.mono g4, s4, q4, fun v H5 W5 d M5 g5 s5 r5 q5 => ⟨_, fadd F D, W5, M5, _, (ev2.mono g4).mono g5, s5, q5, fun u H6 W6 d6 M6 g6 s6 r6 ⟨kk, hk, q6⟩ => ?_⟩⟩
      have r5' := r5.mono g6
      rw [asK_of hk] at r5'
      obtain rfl := rd_kD r5'
      have ga := (gg.trans g5).trans g6
      refine ⟨ac, kk, rfl, ?_, ?_, ?_⟩
      · rw [ga.f D (.inl rfl)]; exact hac
      · rw [rac.length]; have := hz.le; rw [sizeLine_eq]; omega
      · obtain ⟨s7, g7⟩ := s6.chgF (.dK (putK ac kk u))
        have g8 : Grow F W2 H2 W6 H6 := ga.less fun a h => .inr h
        have hlen : (putDK acc kk d6).length ≤ acc.length + 1 := by
          unfold putDK
          split
          · rw [List.length_map]; omega
          · rw [List.length_append, List.length_singleton]; exact Nat.le_refl _
        refine ⟨W6, M6, putK ac kk u, putDK acc kk d6, ?_, s7, upd_same, ((rac.mono ga).put r6).mono g7, by omega, q6⟩
        have g9 := g2.trans g8
        refine ⟨g9.w, fun a w => ?_, fun a w => ?_⟩
        · rw [upd_ne (s1.neW hD w)]; exact g9.h a w
        · rw [upd_ne (s1.neF hD w)]; exact g9.f a w
  · have e : i = ds.length := by omega
    subst e
    rw [List.drop_length] at q2
    refine .inl ⟨stop _ (Nat.le_refl _), ?_⟩
    obtain ⟨s3, g3⟩ := s2.endW hFD (by intro o e; rw [hac] at e; cases e; exact trivial)
    exact (k.mono ((g1.trans g2).trans g3)).now s3 (.dct (.inl rfl) hac (rac.mono g3)) q2
section
variable (hc : X.calm = true) (hN : X.N.Nodup) (hi : DI X tg iter di) (ok : BlkOk X.N X.env.scope scope own)
    (hg : ∀ (s : Shared) (H : Hp) (C : Addr) (cl : List (Str × Addr)) (fp : List Addr), PG (X.blk s H scope (compEnvC scope cl C X.env) fp) tg (c.tg X.K)) (ht : ∀ (s : Shared) (H : Hp) (C : Addr) (cl : List (Str × Addr)) (fp : List Addr), DTs (X.blk s H scope (compEnvC scope cl C X.env) fp) ifs tt)
    (hk : ∀ (s : Shared) (H : Hp) (C : Addr) (cl : List (Str × Addr)) (fp : List Addr), DE (X.blk s H scope (compEnvC scope cl C X.env) fp) kx tk) (he : ∀ (s : Shared) (H : Hp) (C : Addr) (cl : List (Str × Addr)) (fp : List Addr), DE (X.blk s H scope (compEnvC scope cl C X.env) fp) vx tv)
include hc hN hi ok hg ht hk he in
theorem d_dc (hv : ∀ i ∈ c.slots, i ∈ own.map (·.2) := by decide) (hs : ∀ x, foldedSetIterable iter X.env x = pure x := by intro _; rfl) :
    DE X (.DictComp kx vx [⟨tg, iter, ifs, 0⟩] scope pos) (gDc di c tt tk tv (own.map (·.2))) :=
  imp (pe_dc (wi := LI X.K di) (g := c.tg X.K) (tt := Li rT X.K tt) (tk := Li (rE X.K) X.K tk) (tv := Li (rE X.K) X.K tv) hc hN hi ok hg ht hk he hs) fun σ H Q h => li_dc hv h
end
end
/-- a dict by comprehension that changes nothing else -/
theorem dcD_map {α : Type} {c : CT} {tk tv : DTE} {δ : De} {M : Mm} {g : α → Da} (f : α → Key) (v : α → Da) : ∀ {l : List α} {acc : List (Key × Da)} {k : List (Key × Da) → Mm → Prop}, (∀ x ∈ l, c.ok (g x)) →
    (∀ x ∈ l, ∀ Q : DK, Q (kD (f x)) M → tk (c.set (g x) δ) M Q) → (∀ x ∈ l, ∀ Q : DK, Q (v x) M → tv (c.set (g x) δ) M Q) → k (l.foldl (fun a x => putDK a (f x) (v x)) acc) M → dcD c gYes tk tv δ (l.map g) acc k M
  | [], _, _, _, _, _, h => h
  | x :: l, acc, k, h0, h1, h2, h => ⟨h0 x List.mem_cons_self, h1 x List.mem_cons_self _ (h2 x List.mem_cons_self _ ⟨f x, asK_kD _, dcD_map f v (fun y hy => h0 y (List.mem_cons_of_mem _ hy)) (fun y hy => h1 y (List.mem_cons_of_mem _ hy)) (fun y hy => h2 y (List.mem_cons_of_mem _ hy)) h⟩)⟩
section
variable {X : Cx}
def rInK (neg : Bool) : R2 := fun x y H Q => ∃ a o, y = .ref a ∧ DGet H a x o ∧ Q (.bl (if neg then !o.isSome else o.isSome)) H
theorem op_inK (hu : X.A.units + 1 < cLine) : OpR X (compareOp .In) (rInK false) := by
  intro pins s σ H x y v u Q I rx ry h
  obtain ⟨a, o, rfl, g, q⟩ := h
  cases (show u = Value.ref a from ry)
  exact d_in hu I g rx fun s' I' => ⟨.bl _, H, I', rfl, q⟩
theorem op_ninK (hu : X.A.units + 1 < cLine) : OpR X (compareOp .NotIn) (rInK true) := by
  intro pins s σ H x y v u Q I rx ry h
  obtain ⟨a, o, rfl, g, q⟩ := h
  cases (show u = Value.ref a from ry)
  exact d_notIn hu I g rx fun s' I' => ⟨.bl _, H, I', rfl, q⟩
def hInK (neg : Bool) : D2 := fun x y M Q => dctP y M fun kvs => ∃ k, asK x = some k ∧ Q (.bl (if neg then !(valD kvs k).isSome else (valD kvs k).isSome)) M
theorem inK_core {K : PySem.W.Frag} {neg : Bool} {x y : V} {H : Hp} {Q : VK} (h : L2o K (hInK neg) x y H Q) : rInK neg x y H Q := by
  obtain ⟨F, W, M, d, e, Qd, r1, r2, s, h, k⟩ := h
  obtain ⟨a, vs, ds, rfl, ha, rv, kk, hk, q⟩ := dct_of s r2 h
  rw [asK_of hk] at r1
  obtain rfl := rd_kD r1
  refine ⟨a, _, rfl, DGet.k ha, ?_⟩
  have e : (valV vs kk).isSome = (valD ds kk).isSome := by
    rcases rv.val (k := kk) with ⟨e1, e2⟩ | ⟨v, d', e1, e2, _⟩
    · rw [e1, e2]; rfl
    · rw [e1, e2]; rfl
  rw [e]
  exact k.now s (.bl _) q
theorem o_dinK (hu : X.A.units + 64 < cLine) : DO X (compareOp .In) (hInK false) := opImp (op_inK (Nat.lt_of_le_of_lt (Nat.add_le_add_left (by decide) _) hu)) fun _ _ _ _ h => inK_core h
theorem o_dninK (hu : X.A.units + 64 < cLine) : DO X (compareOp .NotIn) (hInK true) := opImp (op_ninK (Nat.lt_of_le_of_lt (Nat.add_le_add_left (by decide) _) hu)) fun _ _ _ _ h => inK_core h
end
end U
set_option Elab.async false
set_option linter.all false
set_option maxRecDepth 100000
set_option maxHeartbeats 2000000
namespace U
open PySem PySem.Spec PyProof.Rows L2 StX
section
variable {CX : CXT} {P : Program} {w : World} {K : PySem.W.Frag} {mg : Str → Option Value} {base : Heap} {k : Nat} {f : Addr} {name qual : Str} {params : Arguments} {body : List Stmt} {scope : Scope} {dV kV doc pm cdv ct oc : Value} {an od : Option Addr}
  {osl : Array (Option Value)} {N ps : List Str} {sp : Sp}
theorem fn_starF {pv : Str} (lk : K.lookup f = some ⟨oc, od, .func (PySem.W.fnOf name qual params body scope dV kV doc pm an cdv ct), osl⟩) (hcd : PySem.W.codeIn K cdv qual = true) (S : FnScope N (ps ++ [pv]) scope) (hCX : CXUp CX)
    (hb : ∀ us rest : List Value, us.length = ps.length → bindArgs (PySem.W.fnOf name qual params body scope dV kV doc pm an cdv ct) ⟨us ++ rest, []⟩ = (newTuple rest >>= fun t => pure (ps.zip us ++ [(pv, t)])))
    (hbody : ∀ (A : Around) (outer : List Env) (s : Shared) (H : Hp) (vs : List V) (Q : VK) (E : XK), Room k (A.deeper (envOfC qual scope s.heap.objs.size f cdv)) → sp vs H Q E →
      ∃ t, PSs (cxOf CX P w K mg base N qual scope f cdv A outer s H E) body t ∧ t { nx := fun _ H' => Q .non H', rt := Q } (start N vs) H) :
    FnR P w K mg base CX (k + 1) f (fun vs H Q E => ∃ ws rest, vs = ws ++ rest ∧ ws.length = ps.length ∧ rest.length ≤ sizeLine ∧ ∀ p, H p = Option.none → ∀ o : Obj, o.dict = none → sp (ws ++ [V.ref p]) (upd H p (.frz o (.tup rest))) Q E) := by
  intro A outer s H us vs Q E hr e0 r hsp
  obtain ⟨ws, rest, ev, hl, hz, hq⟩ := hsp
  subst ev
  obtain ⟨u1, u2, eu, r1, r2⟩ := vals_split r
  subst eu
  have hn : H s.heap.objs.size = Option.none := e0.hok.fresh (Nat.le_refl _)
  have hl1 : u1.length = ps.length := by rw [← r1.length]; exact hl
  have hl2 : u2.length ≤ sizeLine := by rw [← r2.length]; exact hz
  refine run_bnd lk hcd S hr e0 (G := fun xs H2 => ∃ (p : Addr) (o : Obj), H p = Option.none ∧ o.dict = none ∧ xs = ws ++ [V.ref p] ∧ H2 = upd H p (.frz o (.tup rest))) (fun A' Ex Q' h => ?_) fun s2 H2 xs ⟨p, o, hp, ho, ex, eH⟩ hr' => ?_
  · rw [hb u1 u2 hl1]
    refine wpAny_bind (wpAny_newTuple (wpAny_pure ?_) hl2)
    have new : ObjOk P w (upd H s.heap.objs.size (.frz { cls := .type "tuple", data := .seq u2.toArray } (.tup rest))) (s.heap.push ({ cls := .type "tuple", data := .seq u2.toArray } : Obj)) s.heap.objs.size (.frz { cls := .type "tuple", data := .seq u2.toArray } (.tup rest)) := ⟨Heap.get?_push_size _ rfl, hz, u2, r2, ⟨_, Heap.get?_push_size _ rfl, rfl, _, rfl⟩⟩
    have un := un_laid (fs := frs outer) (s := s) (o := ({ cls := .type "tuple", data := .seq u2.toArray } : Obj)) (u := .frz { cls := .type "tuple", data := .seq u2.toArray } (.tup rest)) hn
    have z := h _ _ (ws ++ [V.ref s.heap.objs.size]) (u1 ++ [Value.ref s.heap.objs.size]) (env0_laid e0 new) un rfl (fun e s' => hCX outer s H _ _ E e s' un (fun b o q => Heap.get?_push_of_some _ q) rfl) (r1.append (.cons rfl .nil))
      (by rw [List.length_append, List.length_append, hl] <;> rfl) ⟨_, _, hn, rfl, rfl, rfl⟩
    rw [List.zip_append hl1.symm] at z
    exact z
  · subst ex eH
    exact hbody A outer s2 _ _ Q E hr' (hq p hp o ho)
end
end U
namespace U
open PySem PySem.Spec PyProof.Rows L2 StX
/-- arguments, the last ones as one tuple -/
def spStar (n : Nat) (sp : DSp) : DSp := fun ds M Q Ed => ∃ ws rest, ds = ws ++ rest ∧ ws.length = n ∧ Sz rest.length ∧ sp (ws ++ [.tup rest]) M Q Ed
structure KnMR (P : Program) (w : World) (K : PySem.W.Frag) (mg : Str → Option Value) (base : Heap) (CX : CXT) (C : Addr) (m : Str) (k : Nat) (sp : DSp) : Prop where
  ex : ∃ f, FnR P w K mg base CX k f (LSp K sp) ∧ BMeth K C m f
theorem KnMR.of {P : Program} {w : World} {K : PySem.W.Frag} {mg : Str → Option Value} {base : Heap} {C : Addr} {m qual : Str} {st : Stmt} {N ps : List Str} {pv : Str} {k : Nat} {sp : DSp} (F : HasMeth K C m qual st) (S : FnScope N (ps ++ [pv]) (defScope st))
    (hb : ∀ (kV doc pm : Value) (an : Option Addr) (cdv ct : Value) (us rest : List Value), us.length = ps.length → bindArgs (PySem.W.fnOf m qual (defArgs st) (defBody st) (defScope st) .none kV doc pm an cdv ct) ⟨us ++ rest, []⟩ = (newTuple rest >>= fun t => pure (ps.zip us ++ [(pv, t)])))
    (hbody : ∀ (f : Addr) (cdv : Value) (A : Around) (outer : List Env) (s : Shared) (H : Hp) (E : XK), Room k (A.deeper (envOfC qual (defScope st) s.heap.objs.size f cdv)) →
      ∃ t, DB (cxOf (L2.CX P w) P w K mg base N qual (defScope st) f cdv A outer s H E) (defBody st) t ∧ ∀ ds M Q Ed, sp ds M Q Ed → t (bodyX Q Ed) (startD N ds) M) : KnMR P w K mg base (L2.CX P w) C m (k + 1) (spStar ps.length sp) := by
  obtain ⟨f, fd, G, e⟩ := F.ex
  obtain ⟨oc, od, kV, doc, pm, an, cdv, ct, osl, rfl, lk, hcd⟩ := G.ex
  refine ⟨f, FnR.imp (fn_starF (sp := LSp K sp) lk hcd S StX.cxUp (hb _ _ _ _ _ _) fun A outer s H vs Q E hr ⟨F, W, M, ds, Qd, Ed, r, st, h, kk, kx⟩ => ?_) fun vs H Q E ⟨F, W, M, ds, Qd, Ed, r, st, ⟨ws, rest, e1, hl, hz, h⟩, kk, kx⟩ => ?_, e⟩
  · obtain ⟨t, d, q⟩ := hbody f cdv A outer s H E hr
    exact ⟨_, d, ls_bodyX r st kk (kx_def kx) (q ds M Qd Ed h)⟩
  · subst e1
    have hlen := r.length
    rw [List.length_append] at hlen
    refine ⟨vs.take ps.length, vs.drop ps.length, (List.take_append_drop _ _).symm, by rw [List.length_take]; omega, ?_, fun p hp o ho => ?_⟩
    · have := hz.le
      rw [List.length_drop, sizeLine_eq]; omega
    · obtain ⟨s1, g1⟩ := st.new hp (.frz o (.tup (vs.drop ps.length))) ho
      have r1 : RDs K W H (vs.take ps.length) ws := by
        have := r.take ps.length
        have e : (ws ++ rest).take ps.length = ws := by rw [← hl]; exact List.take_left
        rwa [e] at this
      have r2 : RDs K W H (vs.drop ps.length) rest := by
        have := r.drop ps.length
        have e : (ws ++ rest).drop ps.length = rest := by rw [← hl]; exact List.drop_left
        rwa [e] at this
      exact ⟨F, _, M, _, Qd, Ed, (r1.mono g1).append (.cons (.tup (.inl ⟨.inl rfl, .inr ⟨o, upd_same⟩⟩) (r2.mono g1)) .nil), s1, h, kk.mono g1, kx.mono g1⟩
theorem FnR.nox {P : Program} {w : World} {K : PySem.W.Frag} {mg : Str → Option Value} {base : Heap} {k : Nat} {f : Addr} {sp : DSp} (F : FnR P w K mg base (L2.CX P w) k f (LSp K sp)) : FnR P w K mg base CX0 k f (LSp K (spN sp)) := by
  have x0 : ∀ {vs H Q E}, LSp K (spN sp) vs H Q E → LSp K sp vs H Q (fun _ _ _ => False) := fun ⟨F, W, M, ds, Qd, Ed, r, s, h, k, _⟩ => ⟨F, W, M, ds, Qd, X0, r, s, h, k, fun _ _ _ _ _ _ _ _ _ z => z.elim⟩
  intro A outer s H us vs Q E hr e0 hv hs
  refine codeAny_mono (F A outer s H us vs Q _ hr e0 hv (x0 hs)) fun r s' hq => ?_
  cases r with
  | error e =>
    obtain ⟨_, _, _, _, _, _, _, _, _, _, _, _, z⟩ := (show L2.CX P w outer H s (fun _ _ _ => False) e s' from hq)
    exact z.elim
  | ok fl => cases fl <;> exact hq
theorem KnMR.d {P : Program} {w : World} {K : PySem.W.Frag} {mg : Str → Option Value} {base : Heap} {C : Addr} {m : Str} {k : Nat} {sp : DSp} (D : KnMR P w K mg base (L2.CX P w) C m k sp) : KnMR P w K mg base CX0 C m k (spN sp) := by
  obtain ⟨f, F, r⟩ := D.ex
  exact ⟨f, FnR.nox F, r⟩
section
variable {X : Cx} {k i : Nat} {sp : DSp} {x m : Str} {p pos apos spos : Pos} {e o e1 e2 : Expr} {es : List Expr} {fs : XDA} {fd : DTA} {fo : DTE} {C : Addr} {f1 f2 : XDE} {g1 g2 : DTE}
/-- c(e, *y), c a name of the def that holds the class -/
def xMakeV (C : Addr) (sp : DSp) (i : Nat) (f1 f2 : DTE) : XDE := fun δ M Q Ed => δ[i]? = some (some (.ref C)) ∧ f1 δ M fun y M1 => f2 δ M1 fun z M2 => itemsK z M2 fun ds => ∀ p, M2 p = none → sp (.ref p :: y :: ds) (mput M2 p (.ins C [])) (fun v M3 => v = .non ∧ ∃ gs, M3 p = some (.ins C gs) ∧ Q (.obj C gs) (mdel M3 p)) (fun cls fs M3 => ∃ M4, Sub M4 M3 ∧ Ed cls fs M4)
theorem x_makeV (c : HasCls X.K m C) (D : KnMR X.prog X.w X.K X.mg X.base (L2.CX X.prog X.w) C "__init__" k sp) (hr : Room (k + 1) X.A) (h1 : DE X e1 g1) (h2 : DE X e2 g2) (hN : X.N[i]? = some x := by rfl) (hv : Vis X.env.scope x := by first | exact Or.inl rfl | exact Or.inr (Or.inl rfl))
    (hd : (x == ("__debug__" : Str)) = false := by decide) (hcd : (x == ("__classdict__" : Str)) = false := by decide)
    (he : starEach [e1, .Starred e2 spos] X.env = (false, eval e1 X.env) :: starEach [.Starred e2 spos] X.env := by rfl) (hs2 : starEach [.Starred e2 spos] X.env = (true, eval e2 X.env) :: starEach [] X.env := by rfl) (hst : (backTo pos (starEach [.Starred e2 spos] X.env)).any (·.1) = true := by rfl) :
    DEX X (.Call (.Name x p) [e1, .Starred e2 spos] [] pos) (xMakeV C sp i g1 g2) := by
  obtain ⟨f, F, B⟩ := D.ex
  have hmk : Mk X.K C f := ⟨c.mks, B.mt.at_, B.mt.fn, c.kc⟩
  refine ⟨fun pins s σ H Q I ⟨δ, F0, W, M, Qd, Ed, ev, st, ⟨hi, h⟩, kk, kx⟩ => ?_⟩
  obtain ⟨v, hv1, hr1⟩ := ev.get hi
  refine wpAny_Call_Name_kw (thn ((pe_var (pos := p) (i := i) hN hv hd hcd).run pins s σ H (fun v H1 => v = .ref C ∧ H1 = H) I ⟨.ref C, by cases hr1; exact hv1, rfl, rfl⟩) fun u s1 ⟨v, H1, I1, r1, q1⟩ => ?_)
  obtain ⟨ev', eH⟩ := q1
  subst ev'
  rw [eH] at I1
  obtain rfl : u = Value.ref C := r1
  have ha : PA X [e1, .Starred e2 spos] (tCons (Li (rE X.K) X.K g1) (tStar X.K (Li (rE X.K) X.K g2) tNil)) := pa_cons h1 (pa_star h2 pa_nil hs2) he
  refine PySem.W.callWith_S2 (h₀ := X.base) I1.ok.mod.kin c.kc (thn (ha.run pos pins s1 σ H (fun vs H2 => ∃ W2 ds M2, Grow F0 W H W2 H2 ∧ Stt X.K F0 W2 M2 H2 ∧ RDs X.K W2 H2 vs ds ∧ ∀ p, M2 p = none → sp (.ref p :: ds) (mput M2 p (.ins C [])) (fun v M3 => v = .non ∧ ∃ gs, M3 p = some (.ins C gs) ∧ Qd (.obj C gs) (mdel M3 p)) (fun cls fs M3 => ∃ M4, Sub M4 M3 ∧ Ed cls fs M4)) I1 ?_) fun us s2 ⟨vs, H2, I2, r2, W2, ds, M2, g2', st2, rd2, q2⟩ => ⟨I2.kIn, ?_⟩) he hst
  · refine ⟨δ, F0, W, M, _, ev, st, h, fun y H2 W2 dy M2 g2' s2 ry q2 => ⟨δ, F0, W2, M2, _, ev.mono g2', s2, q2, fun z H3 W3 dz M3 g3 s3 rz q3 => ?_⟩⟩
    obtain ⟨b, ws, ds, rfl, hs, rws, q4⟩ := items_of s3 rz q3
    exact ⟨b, ws, rfl, hs.symm, W3, dy :: ds, M3, g2'.trans g3, s3, .cons (ry.mono g3) (by rw [List.append_nil]; exact rws), q4⟩
  · refine run_makeR hmk F hr (passes_call (EXm.takes X) fun _ _ _ _ h => h) I2 r2 fun a dx h1 h2 h3 => ?_
    exact make_endX st2 h1 h2 h3 (kk.mono g2') (kx.mono g2') (gd := .ref a :: ds) (fun g => .cons (.ref a) (rd2.mono g)) (q2 a (st2.freeM h1))
end
end U
set_option Elab.async false
set_option linter.all false
set_option maxRecDepth 100000
set_option maxHeartbeats 2000000
namespace U
open PySem PySem.Spec PyProof.Rows L2 ClX
structure HasCMeth (K : PySem.W.Frag) (C : Addr) (m qual : Str) (st : Stmt) : Prop where
  ex : ∃ g fd mc p, Fun K m qual st g fd ∧ CRead K C mc ∧ CMet K C mc m p g
theorem cmeth_mk {K : PySem.W.Frag} {C p g : Addr} {m qual : Str} {st : Stmt} {oc : Value} {od an : Option Addr} {osl : Array (Option Value)} {kV doc pm cdv ct : Value} {rest : List Value} (a : PySem.W.readsIn K C (.type "type") = true)
    (b : PySem.W.specialIn K (.ref C) "__getattribute__" = some (some (.builtin "type.__getattribute__"))) (c : PySem.W.findCls K (.ref C) (.type "type") m = some (.get (.builtin "classmethod.__get__") (.ref p) .none (.ref C))) (r : PySem.W.recIn K p "classmethod" = some (.ref g :: rest)) (fi : PySem.W.fnIn K g = true)
    (l : K.lookup g = some ⟨oc, od, .func (PySem.W.fnOf m qual (defArgs st) (defBody st) (defScope st) .none kV doc pm an cdv ct), osl⟩) (cd : PySem.W.codeIn K cdv qual = true) (k : PySem.W.keepIn K (.ref g) = true) : HasCMeth K C m qual st :=
  ⟨g, _, .type "type", p, fun_mk l cd k, ⟨a, b⟩, ⟨c, ⟨rest, r⟩, fi⟩⟩
structure KnC (P : Program) (w : World) (K : PySem.W.Frag) (mg : Str → Option Value) (base : Heap) (CX : CXT) (C : Addr) (m : Str) (k : Nat) (sp : DSp) : Prop where
  ex : ∃ g mc p, FnR P w K mg base CX k g (LSp K sp) ∧ CRead K C mc ∧ CMet K C mc m p g
abbrev KnCXD (P : Program) (w : World) (K : PySem.W.Frag) (mg : Str → Option Value) (base : Heap) (C : Addr) (m : Str) (k : Nat) (ps : List Str) (sp : DSp) : Prop := KnC P w K mg base (L2.CX P w) C m k sp
theorem KnCXD.of {P : Program} {w : World} {K : PySem.W.Frag} {mg : Str → Option Value} {base : Heap} {C : Addr} {m qual : Str} {st : Stmt} {N ps : List Str} {k : Nat} {sp : DSp} (F : HasCMeth K C m qual st) (S : FnScope N ps (defScope st))
    (hb : ∀ (kV doc pm : Value) (an : Option Addr) (cdv ct : Value) (us : List Value), us.length = ps.length → bindArgs (PySem.W.fnOf m qual (defArgs st) (defBody st) (defScope st) .none kV doc pm an cdv ct) ⟨us, []⟩ = pure (ps.zip us))
    (len : ∀ ds M Q E, sp ds M Q E → ds.length = ps.length)
    (hbody : ∀ (f : Addr) (cdv : Value) (A : Around) (outer : List Env) (s : Shared) (H : Hp) (E : XK), Room k (A.deeper (envOfC qual (defScope st) s.heap.objs.size f cdv)) →
      ∃ t, DB (cxOf (L2.CX P w) P w K mg base N qual (defScope st) f cdv A outer s H E) (defBody st) t ∧ ∀ ds M Q Ed, sp ds M Q Ed → t (bodyX Q Ed) (startD N ds) M) : KnCXD P w K mg base C m (k + 1) ps sp := by
  obtain ⟨g, fd, mc, p, G, r, c⟩ := F.ex
  refine ⟨g, mc, p, fnR_of (G.okX S (lsp_len len) fun cdv A outer s H vs Q E hr ⟨F, W, M, ds, Qd, Ed, r, st, h, kk, kx⟩ => ?_) (G.binds hb), r, c⟩
  obtain ⟨t, d, q⟩ := hbody g cdv A outer s H E hr
  exact ⟨_, d, ls_bodyX r st kk (kx_def kx) (q ds M Qd Ed h)⟩
theorem KnC.d {P : Program} {w : World} {K : PySem.W.Frag} {mg : Str → Option Value} {base : Heap} {C : Addr} {m : Str} {k : Nat} {sp : DSp} (D : KnC P w K mg base (L2.CX P w) C m k sp) : KnC P w K mg base CX0 C m k (spN sp) := by
  obtain ⟨g, mc, p, F, r⟩ := D.ex
  exact ⟨g, mc, p, FnR.nox F, r⟩
section
variable {X : Cx} {k : Nat} {sp : DSp} {x m : Str} {p pos apos : Pos} {e o i : Expr} {es : List Expr} {fs : XDA} {fd : DTA} {fo fi : DTE} {C : Addr} {ps : List Str}
def gCMeth (C : Addr) (sp : DSp) (fo : DTE) (fs : DTA) : DTE := fun δ M Q => fo δ M fun x M1 => x = .ref C ∧ fs δ M1 fun ds M2 => sp (.ref C :: ds) M2 Q X0
theorem d_cmeth {pl : Sem Bool} (D : KnC X.prog X.w X.K X.mg X.base CX0 C m k sp) (hr : Room k X.A) (he : DE X o fo) (ha : DA X (e :: es) fd)
    (hst : starEach (e :: es) X.env = (false, eval e X.env) :: starEach es X.env := by rfl) (hpl : (backTo pos (starEach es X.env)).any (·.1) = false := by rfl)
    (ht : eval (.Call (.Attribute o m apos) (e :: es) [] pos) X.env = (do
      let ov ← eval o X.env
      standAt apos.atName
      let (f, first) ← holding [ov] (getMethod ov m pl)
      callWith pos f first (backTo pos (starEach (e :: es) X.env)) (backToKw pos (keywordEach [] X.env))) := by rfl) : DE X (.Call (.Attribute o m apos) (e :: es) [] pos) (gCMeth C sp fo fd) := by
  obtain ⟨g, mc, p, F, r, c⟩ := D.ex
  refine imp (pe_cmeth (E := E0) he r c F hr pass0 ha hst hpl ht) fun σ H Q ⟨δ, F, W, M, Qd, ev, s, h, kk⟩ => ⟨δ, F, W, M, _, ev, s, h, fun v H1 W1 d M1 g1 s1 r1 ⟨q0, q1⟩ => ?_⟩
  subst q0
  cases r1
  exact ⟨rfl, δ, F, W1, M1, _, ev.mono g1, s1, q1, fun us H2 W2 ds M2 g2 s2 r2 q2 => ⟨F, W2, M2, _, Qd, X0, .cons (.ref _) r2, s2, q2, kk.mono (g1.trans g2), fun _ _ _ _ _ _ _ _ _ z => z.elim⟩⟩
end
end U
set_option Elab.async false
set_option linter.all false
set_option maxRecDepth 100000
set_option maxHeartbeats 2000000
namespace VG0
open PySem PySem.Spec PyProof.Rows L2 UX0
section
variable {prog : Program} {w : World} {A : Around} {R : Result → Shared → Prop} {s : Shared} {elt t0 i0 t1 i1 : Expr} {ifs0 ifs1 : List Expr} {scope : Scope} {pos : Pos} {it acc : Value} {env : Env}
end

section
variable {X : Cx}
end
end VG0
namespace U
open PySem PySem.Spec PyProof.Rows L2 UX0
section
variable {X : Cx} {tg elt iter tg1 iter1 : Expr} {ifs ifs1 : List Expr} {scope : Scope} {own : List (Str × Nat)} {vs1 : List Nat} {pos p pos2 p2 : Pos} {di di1 : DTI} {c c1 : CT} {tt tt1 : DTT} {te : DTE}
section
variable (hc : X.calm = true) (hN : X.N.Nodup) (hi : DI X tg iter di) (ok : BlkOk X.N X.env.scope scope own) (hvs : ∀ i ∈ vs1, i ∈ own.map (·.2))
    (hg : ∀ (s : Shared) (H : Hp) (C : Addr) (cl : List (Str × Addr)) (fp : List Addr), PG (X.blk s H scope (compEnvC scope cl C X.env) fp) tg (c.tg X.K)) (ht : ∀ (s : Shared) (H : Hp) (C : Addr) (cl : List (Str × Addr)) (fp : List Addr), DTs (X.blk s H scope (compEnvC scope cl C X.env) fp) ifs tt)
    (hi1 : ∀ (s : Shared) (H : Hp) (C : Addr) (cl : List (Str × Addr)) (fp : List Addr), DI (X.blk s H scope (compEnvC scope cl C X.env) fp) tg1 iter1 di1)
    (hg1 : ∀ (s : Shared) (H : Hp) (C : Addr) (cl : List (Str × Addr)) (fp : List Addr), PG (X.blk s H scope (compEnvC scope cl C X.env) fp) tg1 (c1.tg X.K)) (ht1 : ∀ (s : Shared) (H : Hp) (C : Addr) (cl : List (Str × Addr)) (fp : List Addr), DTs (X.blk s H scope (compEnvC scope cl C X.env) fp) ifs1 tt1)
    (he : ∀ (s : Shared) (H : Hp) (C : Addr) (cl : List (Str × Addr)) (fp : List Addr), DE (X.blk s H scope (compEnvC scope cl C X.env) fp) elt te)
end
end
section
variable {X : Cx} {a e : Expr} {fa f : DTE} {pos p : Pos}
end
end U
set_option Elab.async false
set_option linter.all false
set_option maxRecDepth 100000
set_option maxHeartbeats 2000000
namespace U
open PySem PySem.Spec PyProof.Rows L2
section
variable {X : Cx}
theorem cr_lenD : CallR X (.builtin "len") (fun xs H Q => ∃ a, ∃ kvs : List (Key × V), xs = [V.ref a] ∧ H a = some (.dK kvs) ∧ Q (.int (kvs.length : Nat)) H) := by
  intro pins s σ H xs us Q I r h
  obtain ⟨a, kvs, rfl, hD, q⟩ := h
  rw [Vals.ref1 r]
  exact d_len I (.inl hD) fun t s' I' => ⟨.int kvs.length, H, I', ⟨t, rfl⟩, q⟩
def kLenD : DC := fun xs M Q => match xs with
  | [x] => dctP x M fun kvs => Q (.int (kvs.length : Nat)) M
  | _ => False
theorem c_dlenD : CD X (.builtin "len") kLenD := cd_imp fun vs H Q ⟨F, W, M, ds, Qd, r, s, h, k⟩ => by
  refine ⟨_, cr_lenD, ?_⟩
  unfold kLenD at h
  split at h
  · obtain ⟨v, rfl, r1⟩ := r.one
    obtain ⟨a, vs, ds, rfl, ha, rv, q⟩ := dct_of s r1 h
    exact ⟨a, vs, rfl, ha, by rw [rv.length]; exact k.now s (.int _) q⟩
  · exact h.elim
end
/-- of a kind that is built in -/
theorem kit_mkT {K : PySem.W.Frag} {D : Addr} {T : String} {r : Bool} (h : PySem.W.kitMeta T = true) (c : PySem.W.mroIn K D (.type T) = some r) : PySem.W.kitOne K (.ref D) (.type T) = some r := by
  unfold PySem.W.kitOne PySem.W.kitCls
  rw [if_neg (by simp)]
  simp only [h, if_true]
  exact c
end U
set_option Elab.async false
set_option linter.all false
set_option maxRecDepth 100000
set_option maxHeartbeats 2000000
namespace U
open PySem PySem.Spec PyProof.Rows L2 UX0
section
variable {X : Cx}
end
end U
set_option Elab.async false
set_option linter.all false
set_option maxRecDepth 100000
set_option maxHeartbeats 2000000
namespace U
open PySem PySem.Spec PyProof.Rows L2 UZ0
def gPairs : List (Str × DTE) → De → Mm → (List (Key × Da) → Mm → Prop) → Prop
  | [], _, M, k => k [] M
  | (x, f) :: r, δ, M, k => f δ M fun d M1 => gPairs r δ M1 fun ps M2 => k ((.inr x, d) :: ps) M2
def gDispN (fs : List (Str × DTE)) : DTE := fun δ M Q => gPairs fs δ M fun kvs M1 => ∀ p, M1 p = none → Q (.ref p) (mput M1 p (.dct (mergeD [] kvs)))
theorem pairs_ok {K : PySem.W.Frag} {F : Addr → Prop} {δ : De} {σ : L2.St} : ∀ (fs : List (Str × DTE)) {W : Addr → Prop} {M : Mm} {H : Hp} (k : List (Key × Da) → Mm → Prop) (Q : List (V × V) → Hp → Prop), EnvR K W H δ σ → Stt K F W M H → gPairs fs δ M k →
    (∀ (kvs : List (Key × V)) ds H2 W2 M2, Grow F W H W2 H2 → Stt K F W2 M2 H2 → RK K W2 H2 kvs ds → kvs.length = fs.length → k ds M2 → Q (kvs.map fun kv => (kV kv.1, kv.2)) H2) → tPairs (fs.map fun q => ((fun _ H Q => Q (.str q.1) H : TE), Li (rE K) K q.2)) σ H Q
  | [], W, M, H, k, Q, ev, s, h, fin => fin [] [] H W M .refl s .nil rfl h
  | (x, f) :: r, W, M, H, k, Q, ev, s, h, fin => ⟨δ, F, W, M, _, ev, s, h, fun v H2 W2 d M2 g2 s2 r2 q2 =>
      pairs_ok r _ _ (ev.mono g2) s2 q2 fun kvs ds H3 W3 M3 g3 s3 rk hl q3 => fin ((.inr x, v) :: kvs) ((.inr x, d) :: ds) H3 W3 M3 (g2.trans g3) s3 (.cons (f := .inr x) (r2.mono g3) rk) (by rw [List.length_cons, List.length_cons, hl]) q3⟩
section
variable {X : Cx} {pos ppos : Pos} {keys : List (Option Expr)} {values : List Expr} {value : Expr} {fs : List (Str × DTE)} {f : DTE} {x : Str} {j : Nat}
structure DPs (X : Cx) (pos : Pos) (keys : List (Option Expr)) (values : List Expr) (fs : List (Str × DTE)) : Prop where
  run : PPs X pos keys values (fs.map fun q => ((fun _ H Q => Q (.str q.1) H : TE), Li (rE X.K) X.K q.2))
theorem dps_nil : DPs X pos [] [] [] := ⟨pps_nil⟩
theorem dps_cons (hf : DE X value f) (hr : DPs X pos keys values fs) : DPs X pos (some (.Constant (.str x) j ppos) :: keys) (value :: values) ((x, f) :: fs) := ⟨pps_cons pe_str hf hr.run⟩
theorem d_dispN (h : DPs X pos keys values fs) (hall : keys.all (·.isSome) = true := by rfl) (hl : keys.length = values.length := by rfl) (h0 : keys ≠ [] := by simp) (h15 : keys.length ≤ 15 := by simp) (hf : fs.length ≤ 15 := by simp) : DE X (.Dict keys values pos) (gDispN fs) :=
  imp (pe_disp h.run hall hl h0 h15) fun σ H Q ⟨δ, F, W, M, Qd, ev, s, h, k⟩ => fun p hp => by
  refine pairs_ok fs _ _ (ev.mono (grow_new s hp)) (s.addF hp (.dK [])) h fun kvs ds H2 W2 M2 g2 s2 rk hl2 q2 => ⟨by rw [g2.f p (.inl rfl)]; exact upd_same, kvs, rfl, by omega, ?_⟩
  obtain ⟨s3, g3⟩ := s2.chgF (.dK (mergeK [] kvs))
  have s4 := s3.endM (s.freeF hp) upd_same (.dct ((rk.merge .nil).mono g3))
  have g8 := (grow_new (o := .dK []) s hp).trans (g2.less fun a h => .inr h)
  have g9 : Grow F W H W2 (upd H2 p (.dK (mergeK [] kvs))) := ⟨g8.w, fun a w => by rw [upd_ne (s.neW hp w)]; exact g8.h a w, fun a w => by rw [upd_ne (s.neF hp w)]; exact g8.f a w⟩
  exact (k.mono g9).now s4 (.ref p) (q2 p (s2.fr p (.inl rfl)).2.1)
end
end U
set_option Elab.async false
set_option linter.all false
set_option maxRecDepth 100000
set_option maxHeartbeats 2000000
namespace U
open PySem PySem.Spec PyProof.Rows L2
section
variable {X : Cx}
def rEqL (K : PySem.W.Frag) : R2 := fun x y H Q => ∃ a b xs, x = .ref a ∧ y = .ref b ∧ SqL K H a xs ∧ SqL K H b [] ∧ Q (.bl xs.isEmpty) H
theorem op_eqL (hu : X.A.units < cLine) : OpR X (compareOp .Eq) (rEqL X.K) := by
  intro pins s σ H x y v u Q I rx ry h
  obtain ⟨a, b, xs, rfl, rfl, ha, hb, q⟩ := h
  cases rx
  cases ry
  obtain ⟨its, r, p, _⟩ := I.list ha
  obtain ⟨its2, r2, p2, _⟩ := I.list hb
  cases r2
  show wpAny _ _ (richCompare .Eq (Value.ref a) (Value.ref b)) _ _ _
  cases r with
  | nil => exact SeqAt.RcAt.lists (e := fun _ => true) p.isList p2.isList rfl hu (fun j h1 h2 => by simp at h2) _ _ _ _ ⟨.bl _, H, I, rfl, q⟩
  | cons h t => exact SeqAt.RcAt.lists_lengths p.isList p2.isList (by simp) hu _ _ _ _ ⟨.bl _, H, I, rfl, q⟩
def hEqL : D2 := fun x y M Q => match x, y with
  | .lst xs, .lst [] => Q (.bl xs.isEmpty) M
  | _, _ => False
theorem o_deqL (hu : X.A.units + 64 < cLine) : DO X (compareOp .Eq) hEqL := do_imp fun x y H Q ⟨F, W, M, d, e, Qd, r1, r2, s, h, k⟩ => by
  unfold hEqL at h
  split at h
  · cases r1 with
    | lst hs rv =>
      cases r2 with
      | lst ht rw_ =>
        cases rw_
        refine ⟨_, op_eqL (by omega), _, _, _, rfl, rfl, hs.sq, ht.sq, k.now s (.bl _) ?_⟩
        cases rv <;> exact h
  · exact h.elim
end
end U
set_option Elab.async false
set_option linter.all false
set_option maxRecDepth 100000
set_option maxHeartbeats 2000000
namespace PySem.SeqAt
open AutoSeq1 (wpAny_loadPart')
open MeetsSeq MeetsSeq2 MeetsSeq3 SeqRoads2
section
variable {A : Around} {s : Shared}
end
end PySem.SeqAt
namespace U
open PySem PySem.Spec PyProof.Rows L2 UX0
section
variable {X : Cx}
/-- the kinds that are built in -/
def kindV (K : PySem.W.Frag) (H : Hp) : V → Prop
  | .non => True
  | .bl _ => True
  | .int _ => True
  | .str _ => True
  | .ref b => (∃ xs, SqL K H b xs) ∨ (∃ xs, SqT K H b xs) ∨ ∃ kvs : List (Key × V), H b = some (.dK kvs)
  | _ => False
def kindA : Da → Bool
  | .non => true
  | .bl _ => true
  | .int _ => true
  | .str _ => true
  | .lst _ => true
  | .tup _ => true
  | .dct _ => true
  | _ => false
end
end U
set_option Elab.async false
set_option linter.all false
set_option maxRecDepth 100000
set_option maxHeartbeats 2000000
namespace U
open PySem PySem.Spec PyProof.Rows L2 UX0
section
variable {X : Cx}
end
section
variable {X : Cx} {a e : Expr} {fa f : DTE} {pos p : Pos}
end
end U
set_option Elab.async false
set_option linter.all false
set_option maxRecDepth 100000
set_option maxHeartbeats 2000000
namespace PySem.SeqAt
open AutoSeq1 (wpAny_loadPart')
open MeetsSeq MeetsSeq2 MeetsSeq3 SeqRoads2
theorem dict_ne_declines_str (l : Addr) (es : Array DictEntry) (n : Nat) (dd : Option Addr) (sl : Array (Option Value)) (b : Str) (u : Tok) :
    Meets (Builtin.«dict.__ne__» ⟨[.ref l, .str b u], []⟩) (fun _ R s => s.heap.get? l = some { cls := .type "dict", dict := dd, data := .dict es n, slots := sl } ∧ R (.ok (.ret .notImplemented)) s) :=
  .of_wp fun prog w A R s h => by obtain ⟨hp, g, d, tk, os⟩ := s; obtain ⟨hl, h⟩ := h; have f1 := F.sub_str_dict; wp_walk using wpAny_loadPart' hl; exact ⟨_, rfl, h⟩
theorem str_ne_declines_dict (b : Str) (u : Tok) (l : Addr) (es : Array DictEntry) (n : Nat) (dd : Option Addr) (sl : Array (Option Value)) :
    Meets (Builtin.«str.__ne__» ⟨[.str b u, .ref l], []⟩) (fun _ R s => s.heap.get? l = some { cls := .type "dict", dict := dd, data := .dict es n, slots := sl } ∧ R (.ok (.ret .notImplemented)) s) :=
  .of_wp fun prog w A R s h => by obtain ⟨hp, g, d, tk, os⟩ := s; obtain ⟨hl, h⟩ := h; have f1 := F.sub_dict_str; wp_walk using wpAny_loadPart' hl; exact ⟨_, rfl, h⟩
section
variable {A : Around} {s : Shared}
theorem RcNeAt.dict_str {l : Addr} {es : Array DictEntry} {n : Nat} (b : Str) (u : Tok) (hl : ∃ o, s.heap.get? l = some o ∧ o.ExactDict ∧ o.data = .dict es n) (hu : A.units < cLine) : RcNeAt A s (.ref l) (.str b u) true := fun prog w E Q h => by
  obtain ⟨⟨cls, dd, data, sl⟩, ho, hc, hd⟩ := hl
  have hc := hc.1
  simp only at hc hd
  subst hc hd
  exact rc_ne_decline_or (k := false) ⟨_, ho, rfl⟩ (typeIs_str s b u) (by decide) F.sub_str_dict F.slot_dict_ne F.slot_str_ne_refl
    (fun _ hq => call_meets F.slot_dict_ne ⟨_, ho, rfl⟩ F.entry_dict_ne (F.args_dict_ne_2 _ _) (dict_ne_declines_str l es n dd sl b u) ⟨ho, hq⟩)
    (fun _ hq => call_meets F.slot_str_ne_refl (typeIs_str s b u) F.entry_str_ne (F.args_str_ne_2 _ _) (str_ne_declines_dict b u l es n dd sl) ⟨ho, hq⟩)
    (fun _ hq => wpAny_of_eq (rfl : isSame (.ref l) (.str b u) = pure false) hq) (.inr hu) h
end
end PySem.SeqAt
namespace U
open PySem PySem.Spec PyProof.Rows L2 UX0
section
variable {X : Cx}
def neStr (z : Str) : V → Bool
  | .str a => !(a == z)
  | _ => true
def rNeS (K : PySem.W.Frag) : R2 := fun x y H Q => ∃ z, y = .str z ∧ kindV K H x ∧ Q (.bl (neStr z x)) H
theorem op_neS (hu : X.A.units < cLine) : OpR X (compareOp .NotEq) (rNeS X.K) := by
  intro pins s σ H x y v u Q I rx ry h
  obtain ⟨z, rfl, k, q⟩ := h
  obtain ⟨t, rfl⟩ : ∃ t, u = .str z t := ry
  show wpAny _ _ (richCompare .NotEq v (Value.str z t)) _ _ _
  cases x with
  | non => obtain rfl : v = .none := rx; exact SeqAt.RcNeAt.none_str z t _ _ _ _ ⟨.bl _, H, I, rfl, q⟩
  | bl b => obtain rfl : v = .bool b := rx; exact SeqAt.RcNeAt.bool_str b z t _ _ _ _ ⟨.bl _, H, I, rfl, q⟩
  | int i => obtain ⟨w, rfl⟩ : ∃ w, v = .int i w := rx; exact SeqAt.RcNeAt.int_str i w z t _ _ _ _ ⟨.bl _, H, I, rfl, q⟩
  | str z2 => obtain ⟨w, rfl⟩ : ∃ w, v = .str z2 w := rx; exact SeqAt.RcNeAt.str_str z2 w z t _ _ _ _ ⟨.bl _, H, I, rfl, q⟩
  | ref b =>
    obtain rfl : v = .ref b := rx
    rcases k with ⟨xs, k⟩ | ⟨xs, k⟩ | ⟨kvs, k⟩
    · obtain ⟨_, _, p, _⟩ := I.list k
      exact SeqAt.RcNeAt.list_str z t p.isList hu _ _ _ _ ⟨.bl _, H, I, rfl, q⟩
    · obtain ⟨_, _, p, _⟩ := I.tuple k
      exact SeqAt.RcNeAt.tuple_str z t p hu _ _ _ _ ⟨.bl _, H, I, rfl, q⟩
    · obtain ⟨_, _, vs, _, dd⟩ := dk_of I.hok k
      obtain ⟨o, es, ep, ho, hx, hd, _⟩ := dd
      exact SeqAt.RcNeAt.dict_str z t ⟨o, ho, hx, hd⟩ hu _ _ _ _ ⟨.bl _, H, I, rfl, q⟩
  | _ => exact k.elim
def neStrD (z : Str) : Da → Bool
  | .str a => !(a == z)
  | _ => true
def hNeS : D2 := fun x y M Q => ∃ z, y = .str z ∧ kindA x = true ∧ Q (.bl (neStrD z x)) M
theorem o_dneS (hu : X.A.units + 64 < cLine) : DO X (compareOp .NotEq) hNeS := do_imp fun x y H Q ⟨F, W, M, d, e, Qd, r1, r2, s, h, k⟩ => by
  obtain ⟨z, rfl, hk, q⟩ := h
  refine ⟨_, op_neS (by omega), ?_⟩
  cases r2
  refine ⟨z, rfl, ?_, k.now s (.bl _) ?_⟩
  · cases r1 <;> first | exact trivial | exact (Bool.false_ne_true hk).elim | skip
    · exact .inl ⟨_, (by assumption : Sl X.K W H _ _).sq⟩
    · exact .inr (.inl ⟨_, (by assumption : Sp' X.K W H _ _).sq⟩)
    · exact .inr (.inr ⟨_, by assumption⟩)
  · cases r1 <;> first | exact q | exact (Bool.false_ne_true hk).elim
end
end U
set_option Elab.async false
set_option linter.all false
set_option maxRecDepth 100000
set_option maxHeartbeats 2000000
namespace HT
open PySem PySem.Spec PyProof.Rows L2
section
variable {prog : Program} {w : World} {A : Around} {E : Value → Shared → Prop} {s : Shared}
end
end HT

namespace U
open PySem PySem.Spec PyProof.Rows L2
section
variable {X : Cx}
end
end U
set_option Elab.async false
set_option linter.all false
set_option maxRecDepth 100000
set_option maxHeartbeats 2000000
namespace PySem.SeqAt
open AutoSeq1 (wpAny_loadPart')
open MeetsSeq MeetsSeq2 MeetsSeq3 SeqRoads2
section
variable {prog : Program} {w : World} {A : Around} {R : Result → Shared → Prop}
end
section
variable {prog : Program} {w : World} {A : Around} {E : Value → Shared → Prop} {s : Shared}
end
end PySem.SeqAt
namespace U
open PySem PySem.Spec PyProof.Rows L2
section
variable {X : Cx} {C : Addr} {k : Nat} {ps : List Str} {sp : DSp} {f : Str}
end
end U
set_option Elab.async false
set_option linter.all false
set_option maxRecDepth 100000
set_option maxHeartbeats 2000000
namespace U
open PySem PySem.Spec PyProof.Rows L2 LamX
/-- a def at f, its code object at c -/
structure FunC (K : PySem.W.Frag) (x : Str) (st : Stmt) (f : Addr) (fd : FuncData) (c : Addr) : Prop where
  ex : ∃ (oc : Value) (od an : Option Addr) (osl : Array (Option Value)) (kV doc pm ct : Value), fd = PySem.W.fnOf x x (defArgs st) (defBody st) (defScope st) .none kV doc pm an (.ref c) ct ∧ K.lookup f = some ⟨oc, od, .func fd, osl⟩ ∧ PySem.W.codeIn K (.ref c) x = true ∧ PySem.W.keepIn K (.ref f) = true
theorem FunC.g {K : PySem.W.Frag} {x : Str} {st : Stmt} {f : Addr} {fd : FuncData} {c : Addr} (F : FunC K x st f fd c) : Fun K x x st f fd := by
  obtain ⟨oc, od, an, osl, kV, doc, pm, ct, rfl, l, h, kp⟩ := F.ex
  exact fun_mk l h kp
end U
set_option Elab.async false
set_option linter.all false
set_option maxRecDepth 100000
set_option maxHeartbeats 2000000
namespace U
open PySem PySem.Spec PyProof.Rows L2 UX0 UZ0
section
variable {X : Cx}
def rNeL (K : PySem.W.Frag) : R2 := fun x y H Q => ∃ a b xs, x = .ref a ∧ y = .ref b ∧ SqL K H a xs ∧ SqL K H b [] ∧ Q (.bl (!xs.isEmpty)) H
theorem op_neL (hu : X.A.units < cLine) : OpR X (compareOp .NotEq) (rNeL X.K) := by
  intro pins s σ H x y v u Q I rx ry h
  obtain ⟨a, b, xs, rfl, rfl, ha, hb, q⟩ := h
  cases rx
  cases ry
  obtain ⟨its, r, p, _⟩ := I.list ha
  obtain ⟨its2, r2, p2, _⟩ := I.list hb
  cases r2
  show wpAny _ _ (richCompare .NotEq (Value.ref a) (Value.ref b)) _ _ _
  cases r with
  | nil => exact SeqAt.RcNeAt.lists (e := fun _ => true) p.isList p2.isList rfl hu (fun j h1 h2 => by simp at h2) _ _ _ _ ⟨.bl _, H, I, rfl, q⟩
  | cons h t => exact SeqAt.RcNeAt.lists_lengths p.isList p2.isList (by simp) hu _ _ _ _ ⟨.bl _, H, I, rfl, q⟩
def hNeL : D2 := fun x y M Q => match x, y with
  | .lst xs, .lst [] => Q (.bl (!xs.isEmpty)) M
  | _, _ => False
theorem o_dneL (hu : X.A.units + 64 < cLine) : DO X (compareOp .NotEq) hNeL := do_imp fun x y H Q ⟨F, W, M, d, e, Qd, r1, r2, s, h, k⟩ => by
  unfold hNeL at h
  split at h
  · cases r1 with
    | lst hs rv =>
      cases r2 with
      | lst ht rw_ =>
        cases rw_
        refine ⟨_, op_neL (by omega), _, _, _, rfl, rfl, hs.sq, ht.sq, k.now s (.bl _) ?_⟩
        cases rv <;> exact h
  · exact h.elim
def kDictL : DC := fun xs M Q => match xs with
  | [.lst ps] => ∃ prs : List (Key × Da), ps = prs.map (fun q => .tup [kD q.1, q.2]) ∧ Q (.dct (mergeD [] prs)) M
  | _ => False
theorem c_ddictL (hc : X.calm = true) : CD X (.type "dict") kDictL := cd_imp fun vs H Q ⟨F, W, M, ds, Qd, r, s, h, k⟩ => by
  refine ⟨_, call_dictP hc, ?_⟩
  unfold kDictL at h
  split at h
  · obtain ⟨v, rfl, r1⟩ := r.one
    obtain ⟨prs, rfl, q⟩ := h
    cases r1 with
    | lst hs rv =>
      obtain ⟨ps, kvs, rfl, hp, hk⟩ := rds_pairs rv
      exact ⟨_, ps, kvs, rfl, hs.sq, hp, fun p hpf => k.newD s hpf (hk.merge .nil) q⟩
  · exact h.elim
end
end U
set_option Elab.async false
set_option linter.all false
set_option maxRecDepth 100000
set_option maxHeartbeats 2000000
namespace VS0
open PySem PySem.SeqAt
open AutoSeq1 (wpAny_loadPart')
open MeetsSeq MeetsSeq2 MeetsSeq3 SeqRoads2
section
variable {prog : Program} {w : World} {A : Around} {R : Result → Shared → Prop}
end
section
variable {prog : Program} {w : World} {A : Around} {E : Value → Shared → Prop} {s : Shared}
end
end VS0
namespace U
open PySem PySem.Spec PyProof.Rows L2 UX0 UZ0
section
variable {X : Cx} {o i e e2 value : Expr} {fo fi fd f fv : DTE} {pos apos cpos p : Pos}
end
section
variable {X : Cx} {C : Addr} {k : Nat} {ps : List Str} {sp : DSp}
end
end U
set_option Elab.async false
set_option linter.all false
set_option maxRecDepth 100000
set_option maxHeartbeats 2000000
namespace U
open PySem PySem.Spec PyProof.Rows L2
def gLstT (K : PySem.W.Frag) (is : List Nat) : TG := L2.gLst K is.length (setsV is)
section
variable {X : Cx} {tg elt iter : Expr} {ifs : List Expr} {scope : Scope} {own : List (Str × Nat)} {pos : Pos} {di : DTI} {is : List Nat} {tt : DTT} {te : DTE}
section
variable (hc : X.calm = true) (hN : X.N.Nodup) (hi : DI X tg iter di) (ok : BlkOk X.N X.env.scope scope own)
    (hg : ∀ (s : Shared) (H : Hp) (C : Addr) (cl : List (Str × Addr)) (fp : List Addr), PG (X.blk s H scope (compEnvC scope cl C X.env) fp) tg (gLstT X.K is)) (ht : ∀ (s : Shared) (H : Hp) (C : Addr) (cl : List (Str × Addr)) (fp : List Addr), DTs (X.blk s H scope (compEnvC scope cl C X.env) fp) ifs tt)
    (he : ∀ (s : Shared) (H : Hp) (C : Addr) (cl : List (Str × Addr)) (fp : List Addr), DE (X.blk s H scope (compEnvC scope cl C X.env) fp) elt te)
end
end
end U
set_option Elab.async false
set_option linter.all false
set_option maxRecDepth 100000
set_option maxHeartbeats 2000000
namespace L2
open PySem PySem.Spec PyProof.Rows
inductive HdsOkN (X : Cx) : List ExceptHandler → List (Value × Option Nat × (Addr → Value → Option Addr → TS)) → Prop
  | nil : HdsOkN X [] []
  | cons {x : Str} {c : Value} {ts : Addr → Value → Option Addr → TS} {b₀ : Stmt} {suite : List Stmt} {np pos' : Pos} {hds : List ExceptHandler} {l : List (Value × Option Nat × (Addr → Value → Option Addr → TS))} (hc : Names X x c)
      (hsu : ∀ (a : Addr) (oe : Obj) (cls : Value) (d : Option Addr) (pn : List (Addr × Obj)), Zc cls d oe → (∃ vs, oe.data = .fields vs) → PSs (X.suite a ((a, oe) :: pn)) (b₀ :: suite) (ts a cls d)) (r : HdsOkN X hds l) :
      HdsOkN X (.ExceptHandler (some (.Name x np)) none (b₀ :: suite) pos' :: hds) ((c, none, ts) :: l)
  | asx {x n : Str} {c : Value} {i : Nat} {ts : Addr → Value → Option Addr → TS} {b₀ : Stmt} {suite : List Stmt} {np pos' : Pos} {hds : List ExceptHandler} {l : List (Value × Option Nat × (Addr → Value → Option Addr → TS))} (hc : Names X x c)
      (hN : X.N.Nodup) (hi : X.N[i]? = some n) (hln : X.env.kindOf n = some .local)
      (hsu : ∀ (a : Addr) (oe : Obj) (cls : Value) (d : Option Addr) (pn : List (Addr × Obj)), Zc cls d oe → (∃ vs, oe.data = .fields vs) → PSs (X.suite a ((a, oe) :: pn)) (b₀ :: suite) (ts a cls d)) (r : HdsOkN X hds l) :
      HdsOkN X (.ExceptHandler (some (.Name x np)) (some n) (b₀ :: suite) pos' :: hds) ((c, some i, ts) :: l)
section
variable {X : Cx} {body : List Stmt} {h₀ : ExceptHandler} {hds : List ExceptHandler} {l : List (Value × Option Nat × (Addr → Value → Option Addr → TS))} {pos : Pos} {tb : WX → TS} {Wout : WX}
end
end L2
set_option Elab.async false
set_option linter.all false
set_option maxRecDepth 100000
set_option maxHeartbeats 4000000
namespace VV0
open PySem PySem.HandSPX PySem.Builtin PySem.Builtin.ObjectAttr
/-- the facts of a built-in base; its __new__ may be another one's (KeyError: LookupError's) -/
structure EB2 (B Bn newId initId : String) (bm : List Value) : Prop where
  ends : newId.endsWith ".__new__" = true
  owner : newId.dropRight 8 = Bn
  entry : entryFor table newId = some Builtin.«BaseException.__new__»
  quiet : newId.startsWith "lifetime." = false
  init : Slot B "__init__" initId
  initEntry : entryFor table initId = some Builtin.«BaseException.__init__»
  initSplit : splitId initId = some (B, "__init__")
  initKind : builtinKind initId = some .slot
  initRow : Manifest.signature? initId = some ⟨.positional, "*", B, .self, [⟨"args", .varPos, false⟩]⟩
  noStar : (B != "*") = true
  noStarN : (Bn != "*") = true
  newSplit : splitId newId = some (Bn, "__new__")
  newKind : builtinKind newId = some .builtinFn
  newRow : Manifest.signature? newId = some ⟨.any, Bn, Bn, .cls, [⟨"args", .varPos, false⟩, ⟨"kwargs", .varKw, false⟩]⟩
  hasB : bm.contains (.type B) = true
  hasN : bm.contains (.type Bn) = true
  noAttr : bm.contains (.type "AttributeError") = false
  noName : bm.contains (.type "NameError") = false
  canon : Manifest.canonical newId = Manifest.canonical "BaseException.__new__"
theorem EB2.of {B newId initId : String} {bm : List Value} (F : ExcBaseFacts B newId initId bm) : EB2 B B newId initId bm :=
  ⟨F.ends, F.owner, F.entry, F.quiet, F.init, F.initEntry, F.initSplit, F.initKind, F.initRow, F.noStar, F.noStar, F.newSplit, F.newKind, F.newRow, F.hasB, F.hasB, F.noAttr, F.noName, F.canon⟩
section
variable {M : Model} {A : Around} {E : Value → Shared → Prop} {h : Heap} {g : Array GenState} {d : Drawn} {t : Nat} {os : OsState}
variable {nm q : Str} {C N : Addr} {bs bm bmB : List Value} {hdct : Bool} {sn : List Str} {sub : List Value} {ab : Bool} {col : Option Bool} {dd : Option Addr} {k0 k1 k2 k3 k5 : Option Value} {B Bn newId initId : String}
end

section
variable {prog : Program} {w : World} {A : Around} {E : Value → Shared → Prop} {R : Result → Shared → Prop} {h : Heap} {g : Array GenState} {d : Drawn} {t : Nat} {os : OsState}
variable {nm q : Str} {C N : Addr} {bs bm bmB : List Value} {hdct : Bool} {sn : List Str} {sub : List Value} {ab : Bool} {col : Option Bool} {dd : Option Addr} {k0 k1 k2 k3 k5 : Option Value} {B Bn newId initId : String}

end

structure TlOk (tl : List Value) : Prop where
  pass : ∀ self, refuseLoop self "__setattr__" tl = pure ()
  obj : tl.contains (.type "object") = true
section
variable {prog : Program} {w : World} {A : Around} {E : Value → Shared → Prop} {R : Result → Shared → Prop} {hp : Heap} {g : Array GenState} {d : Drawn} {t : Nat} {os : OsState}
end
end VV0
namespace L2
open PySem PySem.Spec PyProof.Rows
structure OexT (K : PySem.W.Frag) (C : Addr) (B newId initId : String) (tl : List Value) : Prop where
  base : ∃ Bn, VV0.EB2 B Bn newId initId tl
  tlok : VV0.TlOk tl
  cls : ∃ nm q N bs sn sub ab col dd k0 k1 k2 k3 k5, K.lookup C = some (excClassObj nm q C N bs tl true sn sub ab col dd k0 k1 k2 k3 k5 newId)
  sa : PySem.W.findIn K (.ref C) "__setattr__" = some (some (.builtin "object.__setattr__"))
  exC : PySem.W.subIn K (.ref C) (.type "BaseException") = some true
  tyC : PySem.W.typeIn K (.ref C) = some (.type "type")
  kC : PySem.W.keepIn K (.ref C) = true
section
variable {X : Cx} {pins : List (Addr × Obj)} {σ : St} {H : Hp} {s : Shared} {a C dx : Addr} {f : Str} {y : V} {u : Value} {fs : List (Str × V)} {Q : Unit → Shared → Prop} {E : Value → Shared → Prop} {A : Around} {B newId initId : String} {tl : List Value}
end
section
variable {X : Cx} {o e : Expr} {es : List Expr} {to te : TE} {ta : TA} {f : Str} {p p' p1 p2 pos : Pos} {B newId initId : String} {tl : List Value}
end
end L2
namespace L2
open PySem PySem.Spec PyProof.Rows
/-- the promise of an own __init__(self, x): B.__init__(self, x); self.f = x -/
def spErr (C : Addr) (f : Str) : Sp := fun vs H Q _ => ∃ (a : Addr) (v : V), vs = [.ref a, v] ∧ H a = some (exo a C none) ∧ ∀ dx, H dx = none → dx ≠ a → Q .non (upd (upd H dx (exd dx [(f, v)])) a (exo a C (some dx)))
end L2
namespace U
open PySem PySem.Spec PyProof.Rows L2
end U
namespace U
open PySem PySem.Spec PyProof.Rows L2
section
variable {X : Cx} {B newId initId : String} {tl : List Value} {C fI : Addr} {k : Nat} {fd : FuncData} {x f : Str} {e : Expr} {fe : DTE} {p pos pos' : Pos}
end
end U
set_option Elab.async false
set_option linter.all false
set_option maxRecDepth 100000
set_option maxHeartbeats 2000000
namespace U
open PySem PySem.Spec PyProof.Rows L2
abbrev Th := Addr → Value → Option Addr → DTS
/-- a caught exception as a value -/
def ExD (a : Addr) (fs : List (Str × Da)) (x : Da) : Option Addr → Prop
  | none => fs = [] ∧ x = .ref a
  | some dd => fs ≠ [] ∧ x = .exn a dd fs
inductive HdsD2 (X : Cx) : List ExceptHandler → List (Value × Option Nat × Th) → Prop
  | nil : HdsD2 X [] []
  | cons {x : Str} {c : Value} {th : Th} {b₀ : Stmt} {suite : List Stmt} {np pos' : Pos} {hds : List ExceptHandler} {l : List (Value × Option Nat × Th)} (hc : Names X x c)
      (hsu : ∀ (a : Addr) (oe : Obj) (cls : Value) (d : Option Addr) (pn : List (Addr × Obj)), Zc cls d oe → (∃ vs, oe.data = .fields vs) → DB (X.suite a ((a, oe) :: pn)) (b₀ :: suite) (th a cls d)) (r : HdsD2 X hds l) :
      HdsD2 X (.ExceptHandler (some (.Name x np)) none (b₀ :: suite) pos' :: hds) ((c, none, th) :: l)
  | asx {x n : Str} {c : Value} {i : Nat} {th : Th} {b₀ : Stmt} {suite : List Stmt} {np pos' : Pos} {hds : List ExceptHandler} {l : List (Value × Option Nat × Th)} (hc : Names X x c) (hN : X.N.Nodup) (hi : X.N[i]? = some n) (hln : X.env.kindOf n = some .local)
      (hsu : ∀ (a : Addr) (oe : Obj) (cls : Value) (d : Option Addr) (pn : List (Addr × Obj)), Zc cls d oe → (∃ vs, oe.data = .fields vs) → DB (X.suite a ((a, oe) :: pn)) (b₀ :: suite) (th a cls d)) (r : HdsD2 X hds l) :
      HdsD2 X (.ExceptHandler (some (.Name x np)) (some n) (b₀ :: suite) pos' :: hds) ((c, some i, th) :: l)
def upH2 (K : PySem.W.Frag) (l : List (Value × Option Nat × Th)) : List (Value × Option Nat × (Addr → Value → Option Addr → TS)) := l.map fun p => (p.1, p.2.1, fun a cls d => LS K (fun _ _ _ => False) (p.2.2 a cls d))
theorem HdsD2.ok {X : Cx} {hds : List ExceptHandler} {l : List (Value × Option Nat × Th)} (h : HdsD2 X hds l) : HdsOkN X hds (upH2 X.K l) := by
  induction h with
  | nil => exact .nil
  | cons hc hsu r ih => exact .cons hc (fun a oe cls d pn z v => pss_imp (hsu a oe cls d pn z v) fun D σ H q => ls_E (fun _ _ _ z => z.elim) q) ih
  | asx hc hN hi hln hsu r ih => exact .asx hc hN hi hln (fun a oe cls d pn z v => pss_imp (hsu a oe cls d pn z v) fun D σ H q => ls_E (fun _ _ _ z => z.elim) q) ih
end U
namespace U
open PySem PySem.Spec PyProof.Rows L2
theorem XR.da {K : PySem.W.Frag} {W : Addr → Prop} {H : Hp} {fs : List (Str × Da)} (a : Addr) : ∀ {d : Option Addr}, XR K W H d fs → ∃ x, ExD a fs x d ∧ RD K W H (.ref a) x
  | none, h => ⟨.ref a, ⟨h, rfl⟩, .ref a⟩
  | some _, ⟨hne, _, w, h, rf⟩ => ⟨_, ⟨hne, rfl⟩, .exn w h rf⟩
end U
namespace U
open PySem PySem.Spec PyProof.Rows L2
theorem RF.lk {K : PySem.W.Frag} {W : Addr → Prop} {H : Hp} {f : Str} {y : Da} : ∀ {vs : List (Str × V)} {fs : List (Str × Da)}, RF K W H vs fs → fs.lookup f = some y → ∃ v, vs.lookup f = some v ∧ RD K W H v y
  | _, _, .nil, h => nomatch h
  | _, _, .cons (f := g) r rr, h => by
    rw [List.lookup_cons] at h ⊢
    cases e : f == g with
    | true => rw [e] at h; cases h; exact ⟨_, rfl, r⟩
    | false => rw [e] at h; exact RF.lk rr h
end U
set_option Elab.async false
set_option linter.all false
set_option maxRecDepth 100000
set_option maxHeartbeats 4000000
namespace L2
open PySem PySem.Spec PyProof.Rows
/-- a promise of a def that is called where nothing guards the stack -/
structure FnOkG (P : Program) (w : World) (K : PySem.W.Frag) (mg : Str → Option Value) (base : Heap) (CX : CXT) (k : Nat) (f : Addr) (fd : FuncData) (ps : List Str) (sp : Sp) : Prop where
  len : ∀ vs H Q E, sp vs H Q E → vs.length = ps.length
  run : ∀ (A : Around) (outer : List Env) (s : Shared) (H : Hp) (args : Args) (us : List Value) (vs : List V) (Q : VK) (E : XK), A.guards = some [] → Room k A → Env0 P w K mg base A outer s H → BindsTo s fd args (ps.zip us) → Vals vs us → sp vs H Q E →
    codeAny (model P w) A (.call (.ref f) args) (CR CX outer P w H s Q E) s
theorem FnOk.g {P : Program} {w : World} {K : PySem.W.Frag} {mg : Str → Option Value} {base : Heap} {CX : CXT} {k : Nat} {f : Addr} {fd : FuncData} {ps : List Str} {sp : Sp} (F : FnOk P w K mg base CX k f fd ps sp) : FnOkG P w K mg base CX k f fd ps sp :=
  ⟨F.len, fun A outer s H args us vs Q E _ hr => F.run A outer s H args us vs Q E hr⟩
theorem fn_ofG {CX : CXT} {P : Program} {w : World} {K : PySem.W.Frag} {mg : Str → Option Value} {base : Heap} {k : Nat} {f : Addr} {name qual : Str} {params : Arguments} {body : List Stmt} {scope : Scope} {dV kV doc pm cdv ct oc : Value} {an od : Option Addr}
    {osl : Array (Option Value)} {N ps : List Str} {sp : Sp} (lk : K.lookup f = some ⟨oc, od, .func (PySem.W.fnOf name qual params body scope dV kV doc pm an cdv ct), osl⟩) (hcd : PySem.W.codeIn K cdv qual = true) (S : FnScope N ps scope)
    (len : ∀ vs H Q E, sp vs H Q E → vs.length = ps.length)
    (hbody : ∀ (A : Around) (outer : List Env) (s : Shared) (H : Hp) (vs : List V) (Q : VK) (E : XK), A.guards = some [] → Room k (A.deeper (envOfC qual scope s.heap.objs.size f cdv)) → sp vs H Q E →
      ∃ t, PSs (cxOf CX P w K mg base N qual scope f cdv A outer s H E) body t ∧ t { nx := fun _ H' => Q .non H', rt := Q } (start N vs) H) :
    FnOkG P w K mg base CX (k + 1) f (PySem.W.fnOf name qual params body scope dV kV doc pm an cdv ct) ps sp := by
  refine ⟨len, fun A outer s H args us vs Q E hgd hr e0 hb r hsp => ?_⟩
  have hl := len _ _ _ _ hsp
  have KX : K.In s.heap := e0.mod.kin.keeps fun b o e => (e0.bs b o e).1
  have lim : s.heap.NoLimit := e0.mod.nolimit.keeps fun b o e => (e0.bs b o e).1
  have hkind : ∀ y ∈ ps.zip us, scope.names.lookup y.1 = some .local ∨ (scope.names.lookup y.1 = some .cell ∧ ((cellsFrom (s.heap.objs.size + 1) scope.names []).lookup y.1).isSome = true) := fun ⟨n, v⟩ hy => by
    rcases S.par n (List.of_mem_zip hy).1 with q | q
    · exact .inl q
    · exact .inr ⟨q, PySem.W.cellsFrom_some _ _ _ (.inl q)⟩
  refine codeAny_call_function hr.depth (KX _ _ lk) rfl S.co S.gen rfl (PySem.W.codeRec_of KX hcd) (hb _ _ _ _ ?_)
  refine wpAny_newFunctionEnv_cells S.kind hkind fun env he s1 x => ?_
  subst he
  refine ⟨lim.keeps x.toInCall.keep, codeAny_func ?_⟩
  obtain ⟨t, ht, hq⟩ := hbody A outer s H vs Q E hgd (hr.deeper _) hsp
  have I : Inv (cxOf CX P w K mg base N qual scope f cdv A outer s H E) [] (start N vs) H s1 := inv_start S hr.hd e0 hl r x
  refine wpAny_mono (ht.run [] s1 (start N vs) H _ I hq) (fun fl s' hs => ?_) fun e s' hs => hs
  have fin : ∀ {σ' : St} {H' : Hp} {v : V} {u : Value}, Inv (cxOf CX P w K mg base N qual scope f cdv A outer s H E) [] σ' H' s' → RelV v u → Q v H' → CE outer P w H s Q u s' :=
    fun {σ' H' v u} J rv q => ⟨v, H', J.os, J.bare, J.base, J.hok, rv, q⟩
  cases fl with
  | ret u =>
    obtain ⟨v, σ', H', J, rv, q⟩ := hs
    exact fin J rv q
  | next =>
    obtain ⟨σ', H', J, q⟩ := hs
    exact fin (v := V.non) (u := Value.none) J rfl q
  | brk =>
    obtain ⟨_, _, _, q⟩ := hs
    exact False.elim q
  | cont =>
    obtain ⟨_, _, _, q⟩ := hs
    exact False.elim q
section
variable {X : Cx} {CX : CXT} {k : Nat} {f C : Addr} {fd : FuncData} {ps : List Str} {sp : Sp} {dvs : List V} {ds : List Value} {E : XK} {x m : Str} {p pos apos : Pos} {e o : Expr} {es : List Expr} {ta : TE} {t : TA}
end
end L2
namespace LamX
open PySem PySem.Spec PyProof.Rows L2
end LamX
namespace U
open PySem PySem.Spec PyProof.Rows L2 LamX
end U
namespace U
open PySem PySem.Spec PyProof.Rows L2 LamX
/-- a def that keeps its promise where nothing guards the stack -/
structure KnDG (P : Program) (w : World) (K : PySem.W.Frag) (mg : Str → Option Value) (base : Heap) (x : Str) (k : Nat) (ps : List Str) (sp : DSp) : Prop where
  ex : ∃ f fd, FnOkG P w K mg base CX0 k f fd ps (LSp K sp) ∧ mg x = some (.ref f) ∧ PySem.W.keepIn K (.ref f) = true ∧ Binds K fd ps []
theorem KnDG.of {P : Program} {w : World} {K : PySem.W.Frag} {mg : Str → Option Value} {base : Heap} {x : Str} {st : Stmt} {N ps : List Str} {k : Nat} {sp : DSp} (F : HasDef K x st) (M : MgOf K mg) (S : FnScope N ps (defScope st))
    (hb : ∀ (kV doc pm : Value) (an : Option Addr) (cdv ct : Value) (us : List Value), us.length = ps.length → bindArgs (PySem.W.fnOf x x (defArgs st) (defBody st) (defScope st) .none kV doc pm an cdv ct) ⟨us, []⟩ = pure (ps.zip us))
    (len : ∀ ds M Q E, sp ds M Q E → ds.length = ps.length)
    (hbody : ∀ (f : Addr) (cdv : Value) (A : Around) (outer : List Env) (s : Shared) (H : Hp) (E : XK), A.guards = some [] → Room k (A.deeper (envOfC x (defScope st) s.heap.objs.size f cdv)) →
      ∃ t, DB (cxOf CX0 P w K mg base N x (defScope st) f cdv A outer s H E).nox (defBody st) t ∧ ∀ ds M Q Ed, sp ds M Q Ed → t (bodyE Q) (startD N ds) M) : KnDG P w K mg base x (k + 1) ps sp := by
  obtain ⟨f, fd, G, e⟩ := F.ex
  have kp := G.kp
  have bb := G.binds hb
  obtain ⟨oc, od, kV, doc, pm, an, cdv, ct, osl, rfl, lk, hcd'⟩ := G.ex
  refine ⟨f, _, fn_ofG lk hcd' S (lsp_len len) (fun A outer s H vs Q E hgd hr ⟨F, W, M, ds, Qd, Ed, r, st, h, kk, kx⟩ => ?_), M.of _ _ e, kp, bb⟩
  obtain ⟨t, d, q⟩ := hbody f cdv A outer s H E hgd hr
  exact ⟨_, PSs.nox d, ls_body r st kk (q ds M Qd Ed h)⟩
section
variable {X : Cx} {k : Nat} {ps : List Str} {sp : DSp} {x : Str} {p pos : Pos} {e : Expr} {es : List Expr} {fs : DTA}
end
section
variable {X : Cx} {pins : List (Addr × Obj)} {σ : L2.St} {H : Hp} {s : Shared} {W : Addr → Prop}
end
end U
set_option maxRecDepth 100000
namespace VW0
open PySem PySem.F PySem.Builtin PySem.Builtin.ObjectAttr
structure Passes (tl : List Value) : Prop where
  passes : ∀ self, refuseLoop self "__setattr__" tl = pure ()
end VW0
set_option Elab.async false
set_option linter.all false
set_option maxRecDepth 100000
set_option maxHeartbeats 4000000
namespace U
open PySem PySem.Spec PyProof.Rows L2
/-- what the written part says of an own error class that keeps a value, straight over a built-in one -/
structure XErr (K : PySem.W.Frag) (x : Str) (C : Addr) (qual : Str) (st : Stmt) (f : Str) (B newId initId : String) (tl : List Value) : Prop where
  at_ : PySem.W.nsIn K mainGlobals x = some (some (.ref C))
  T : OexT K C B newId initId tl
  meth : ∃ fI fd, Fun K "__init__" qual st fI fd ∧ PySem.W.findIn K (.ref C) "__init__" = some (some (.ref fI)) ∧ PySem.W.typeIn K (.ref fI) = some (.type "function")
  no : PySem.W.findIn K (.ref C) f = some none
  vV : PySem.W.findCls K (.type B) (.type "type") "__init__" = some (.val (.builtin initId))
  xf : XfC K C
/-- an own error class, its __init__ walked -/
structure KnErr (P : Program) (w : World) (K : PySem.W.Frag) (mg : Str → Option Value) (base : Heap) (x : Str) (C : Addr) (f : Str) (k : Nat) : Prop where
  ex : ∃ (B newId initId : String) (tl : List Value) (fI : Addr) (fd : FuncData), OexT K C B newId initId tl ∧ PySem.W.findIn K (.ref C) "__init__" = some (some (.ref fI)) ∧ PySem.W.typeIn K (.ref fI) = some (.type "function") ∧
    FnOk P w K mg base CX0 k fI fd ["self", f] (spErr C f) ∧ Binds K fd ["self", f] [] ∧ mg x = some (.ref C)
theorem KnErr.of {P : Program} {w : World} {K : PySem.W.Frag} {mg : Str → Option Value} {base : Heap} {x : Str} {C : Addr} {qual : Str} {st : Stmt} {f : Str} {B newId initId : String} {tl : List Value} {N : List Str} (F : XErr K x C qual st f B newId initId tl) (M : MgOf K mg)
    (S : FnScope N ["self", f] (defScope st))
    (hb : ∀ (kV doc pm : Value) (an : Option Addr) (cdv ct : Value) (us : List Value), us.length = (["self", f] : List Str).length → bindArgs (PySem.W.fnOf "__init__" qual (defArgs st) (defBody st) (defScope st) .none kV doc pm an cdv ct) ⟨us, []⟩ = pure ((["self", f] : List Str).zip us))
    (hbody : ∀ (fI : Addr) (cdv : Value) (A : Around) (outer : List Env) (s : Shared) (H : Hp) (E : XK), ∃ t, PSs (cxOf CX0 P w K mg base N qual (defScope st) fI cdv A outer s H E).nox (defBody st) t ∧
      ∀ (a : Addr) (v : V) (Q : VK), H a = some (exo a C none) → (∀ dx, H dx = none → dx ≠ a → Q .non (upd (upd H dx (exd dx [(f, v)])) a (exo a C (some dx)))) → t { nx := fun _ H' => Q .non H', rt := Q } (start N [.ref a, v]) H) : KnErr P w K mg base x C f 1 := by
  obtain ⟨fI, fd, G, iC, tI⟩ := F.meth
  refine ⟨B, newId, initId, tl, fI, fd, F.T, iC, tI, G.ok S (fun vs H Q E ⟨a, v, e, _⟩ => by rw [e]; rfl) (fun cdv A outer s H vs Q E hr ⟨a, v, e, ha, q⟩ => ?_), G.binds hb, M.of _ _ F.at_⟩
  obtain ⟨t, d, k⟩ := hbody fI cdv A outer s H E
  subst e
  exact ⟨t, d, k a v Q ha q⟩
section
variable {X : Cx} {k : Nat} {x f : Str} {C : Addr} {e : Expr} {fe : DTE} {p pos pos' : Pos}
end
end U

namespace U
open PySem PySem.Spec PyProof.Rows L2 LamX
theorem _root_.L2.Takes.len {X : Cx} {W : WX} (t : Takes X W) : Takes X (fun cls d σ H => σ.length = X.N.length → W cls d σ H) := fun u s' ⟨a, B, sI, pins, σ, H, cls, d, e, I, nb, up, sky, na, os, ag, w⟩ =>
  t u s' ⟨a, B, sI, pins, σ, H, cls, d, e, I, nb, up, sky, na, os, ag, w I.len⟩
section
variable {X : Cx} {Ng : List Str} {x a q : Str} {sg : Scope} {g : Addr} {cdg : Value} {h₀ : ExceptHandler} {hds : List ExceptHandler} {l : List (Value × Option Nat × Th)} {p1 p2 p3 p8 : Pos} {rest : List Stmt} {u : DTS}
end
section
variable {X : Cx} {Ng : List Str} {x a : Str} {st : Stmt} {h₀ : ExceptHandler} {hds : List ExceptHandler} {l : List (Value × Option Nat × Th)} {p1 p2 p3 p8 p lpos pos : Pos} {rest : List Stmt} {u : DTS} {P c : Addr} {k : Nat} {params : Arguments} {body : Expr} {scope : Scope} {gb : XDE}
end
end U
set_option Elab.async false
set_option linter.all false
set_option maxRecDepth 100000
set_option maxHeartbeats 2000000
namespace U
open PySem PySem.Spec PyProof.Rows L2
structure KnKX (P : Program) (w : World) (K : PySem.W.Frag) (mg : Str → Option Value) (base : Heap) (C : Addr) (k : Nat) (ps : List Str) (n : Nat) (ks : List Str) (dvs : List V) (sp : DSp) : Prop where
  ex : ∃ f fd, FnOk P w K mg base (L2.CX P w) k f fd ps (LSp K sp) ∧ BMeth K C "__init__" f ∧ (∃ ds, Vals dvs ds ∧ Binds K fd ps ds) ∧ KBn K fd ps n ks (fun us ws => us ++ ws) (fun vs zs => vs ++ zs)
theorem KnKX.of {P : Program} {w : World} {K : PySem.W.Frag} {mg : Str → Option Value} {base : Heap} {C : Addr} {qual : Str} {st : Stmt} {N ps : List Str} {k n : Nat} {ks : List Str} {kws : List (Str × V)} {sp : DSp} (F : HasInitK K C qual st kws) (S : FnScope N ps (defScope st)) (hk : kws ≠ []) (hn : n + kws.length = ps.length)
    (h1 : ∀ (D : Addr) (doc pm : Value) (an : Option Addr) (cdv ct : Value) (us zs : List Value), us.length = n → zs.length = kws.length →
      KwChain D ((kws.map (·.1)).zip zs) (bindArgs (PySem.W.fnOf "__init__" qual (defArgs st) (defBody st) (defScope st) .none (.ref D) doc pm an cdv ct) ⟨us, []⟩) (ps.zip (us ++ zs)))
    (h2 : ∀ (D : Addr) (doc pm : Value) (an : Option Addr) (cdv ct : Value) (us ws : List Value), us.length = n → ws.length = ks.length →
      bindArgs (PySem.W.fnOf "__init__" qual (defArgs st) (defBody st) (defScope st) .none (.ref D) doc pm an cdv ct) ⟨us, ks.zip ws⟩ = pure (ps.zip (us ++ ws)))
    (len : ∀ ds M Q E, sp ds M Q E → ds.length = ps.length)
    (hbody : ∀ (f : Addr) (cdv : Value) (A : Around) (outer : List Env) (s : Shared) (H : Hp) (E : XK), Room k (A.deeper (envOfC qual (defScope st) s.heap.objs.size f cdv)) →
      ∃ t, DB (cxOf (L2.CX P w) P w K mg base N qual (defScope st) f cdv A outer s H E) (defBody st) t ∧ ∀ ds M Q Ed, sp ds M Q Ed → t (bodyX Q Ed) (startD N ds) M) : KnKX P w K mg base C (k + 1) ps n ks (kws.map (·.2)) sp := by
  obtain ⟨f, fd, F, B⟩ := F.ex
  refine ⟨f, fd, F.ok S (lsp_len len) (fun cdv A outer s H vs Q E hr ⟨F, W, M, ds, Qd, Ed, r, st, h, kk, kx⟩ => by
    obtain ⟨t, d, q⟩ := hbody f cdv A outer s H E hr
    exact ⟨_, d, ls_bodyX r st kk (kx_def kx) (q ds M Qd Ed h)⟩), B, F.binds0 n hk hn h1, ?_⟩
  obtain ⟨mv, kb⟩ := F.kbinds0 (ps := ps) n ks [] (fun us _ ws => us ++ ws) hk (fun q hq => nomatch hq) (fun r1 _ r3 => r1.append r3) fun D doc pm an cdv ct us mv ws l1 l2 l3 => h2 D doc pm an cdv ct us ws l1 l3
  exact kb
theorem KnKX.d {P : Program} {w : World} {K : PySem.W.Frag} {mg : Str → Option Value} {base : Heap} {C : Addr} {k n : Nat} {ps ks : List Str} {dvs : List V} {sp : DSp} (D : KnKX P w K mg base C k ps n ks dvs sp) : KnK P w K mg base C k ps n ks dvs (spN sp) := by
  obtain ⟨f, fd, F, r⟩ := D.ex
  exact ⟨f, fd, FnOk.nox F, r⟩
section
variable {X : Cx} {k n : Nat} {ps ks : List Str} {sp : DSp} {x : Str} {p pos : Pos} {e : Expr} {es : List Expr} {kws : List Keyword} {fs fk : DTA} {C : Addr} {dvs : List V} {dfl : List Da}
end
end U
namespace U
open PySem PySem.Spec PyProof.Rows L2
section
variable {X : Cx}
end
end U
namespace U
open PySem PySem.Spec PyProof.Rows L2
end U
set_option Elab.async false
set_option linter.all false
set_option maxRecDepth 100000
set_option maxHeartbeats 2000000
namespace U
open PySem PySem.Spec PyProof.Rows L2
end U
set_option Elab.async false
set_option linter.all false
set_option maxRecDepth 100000
set_option maxHeartbeats 4000000
namespace U
open PySem PySem.Spec PyProof.Rows L2
section
variable {X : Cx}
def rRepTB (K : PySem.W.Frag) : R2 := fun x y H Q => ∃ l k xs, x = .ref l ∧ y = .int k ∧ SqT K H l xs ∧ xs ≠ [] ∧ 2 ≤ k ∧ k ≤ 10000 ∧ xs.length ≤ 100 ∧ ∀ p, H p = none → ∀ o : Obj, o.dict = none → Q (.ref p) (upd H p (.frz o (.tup (List.replicate k.toNat xs).flatten)))
theorem op_repTB : OpR X (binaryOp .Mult) (rRepTB X.K) := by
  intro pins s σ H x y v u Q I rx ry h
  obtain ⟨l, k, xs, rfl, rfl, hT, hne, h1, h2, hz, q⟩ := h
  cases rx
  obtain ⟨t, rfl⟩ := ry
  obtain ⟨its, r, ⟨⟨cls, dd, data, sl⟩, ho, hc, n, hd⟩, hs⟩ := I.tuple hT
  simp only at hc hd
  subst hc hd
  have hle : its.length = xs.length := r.length.symm
  have hn : its ≠ [] := fun e => hne (by
    rw [e] at hle
    exact List.eq_nil_of_length_eq_zero hle.symm)
  have hi : its.toArray.isEmpty = false := by
    cases its with
    | nil => exact absurd rfl hn
    | cons a b => rfl
  have hsz0 : its.toArray.size = xs.length := by rw [List.size_toArray, hle]
  have hm : ((its.toArray.size : Nat) : Int) * k ≤ 1000000 := by
    rw [hsz0]
    have a1 : ((xs.length : Nat) : Int) * k ≤ 100 * k := Int.mul_le_mul_of_nonneg_right (by omega) (by omega)
    omega
  have flen : (List.replicate k.toNat its).flatten.length ≤ sizeLine := by
    rw [PyProof.Rows.lm_len_rep_flat, hle, sizeLine_eq]
    have a1 : k.toNat * xs.length ≤ 10000 * 100 := Nat.mul_le_mul (by omega) hz
    omega
  have c0 : (decide (k < -(2 ^ 63)) || decide (k ≥ 2 ^ 63)) = false := by
    rw [decide_eq_false (by omega), decide_eq_false (by omega)] <;> rfl
  have c1 : (its.toArray.isEmpty || k == 1) = false := by
    rw [hi, Bool.false_or]
    exact beq_eq_false_iff_ne.mpr (by omega)
  have c2 : (decide (k ≤ 0) || its.toArray.isEmpty) = false := by
    rw [hi, Bool.or_false]
    exact decide_eq_false (by omega)
  have c4 : Builtin.Tuple.tupleTooMany (((its.toArray.size : Nat) : Int) * k) = false := by
    unfold Builtin.Tuple.tupleTooMany
    rw [sizeLine_eq]
    exact decide_eq_false (by omega)
  refine wpAny_binaryOp_repeat_ref (T := "tuple") (U := "int") (by decide) ⟨_, ho, rfl⟩ (fun s' => typeIs_int s' k t) noFill_tuple_mul F.fills_int_mul F.slot_int_rmul repeat_tuple F.slot_int_index.lookup
    (call_meets F.slot_int_rmul (typeIs_int s k t) F.entry_int_rmul (F.args_int_rmul_2 _ _) (int_rmul_tuple k t l its.toArray n dd sl)
      ⟨ho, rfl, ⟨_, ho, rfl⟩, call_meets F.slot_tuple_mul ⟨_, ho, rfl⟩ F.entry_tuple_mul (F.args_tuple_mul_2 _ _) (tuple_mulW l its.toArray n dd sl k t c0 c1 c2 (by omega) c4 (by rw [size_rep, List.size_toArray]; exact flen)) ⟨ho, ?_⟩⟩)
  rw [size_rep]
  refine ⟨.ref s.heap.objs.size, _, I.laid (t' := s.toks) (o := .frz { cls := .type "tuple", data := .seq (List.replicate k.toNat its).flatten.toArray } (.tup (List.replicate k.toNat xs).flatten)) (fun b ob q => Heap.get?_push_of_some _ q) (Nat.le_refl _) ?_, rfl, q _ (I.hok.fresh (Nat.le_refl _)) _ rfl⟩
  exact ⟨Heap.get?_push_size _ rfl, by rw [PyProof.Rows.lm_len_rep_flat, sizeLine_eq]; have a1 : k.toNat * xs.length ≤ 10000 * 100 := Nat.mul_le_mul (by omega) hz; omega, _, r.rep k.toNat, IsTup.new _ _⟩
end
end U
namespace U
open PySem PySem.Spec PyProof.Rows L2
/-- t * 1 is t -/
theorem tuple_mul1 (l : Addr) (items : Array Value) (n : Nat) (dd : Option Addr) (sl : Array (Option Value)) (u : Tok) :
    Meets (Builtin.«tuple.__mul__» ⟨[.ref l, .int 1 u], []⟩) (fun _ R s => s.heap.get? l = some { cls := .type "tuple", dict := dd, data := .seq items n, slots := sl } ∧ R (.ok (.ret (Value.ref l))) s) :=
  .of_wp fun prog w A R s h => by
    obtain ⟨hp, g, d, tk, os⟩ := s
    obtain ⟨hl, h⟩ := h
    have f1 := AutoSeq1.idx_int
    have c1 : (items.isEmpty || ((1 : Int) == 1)) = true := by rw [show ((1 : Int) == 1) = true from rfl, Bool.or_true]
    wp_walk using wpAny_loadPart' hl
    repeat (first
      | (refine wpAny_ite_true (decide_eq_true c1) ?_; wp_walk using wpAny_loadPart' hl)
      | (refine wpAny_ite_false (decide_eq_false (by decide)) ?_; wp_walk using wpAny_loadPart' hl))
    exact ⟨_, rfl, h⟩
def rMul1 (K : PySem.W.Frag) : R2 := fun x y H Q => ∃ l xs, x = .ref l ∧ y = .int 1 ∧ SqT K H l xs ∧ Q (.ref l) H
theorem op_mul1 {X : Cx} : OpR X (binaryOp .Mult) (rMul1 X.K) := by
  intro pins s σ H x y v u Q I rx ry h
  obtain ⟨l, xs, rfl, rfl, hT, q⟩ := h
  cases rx
  obtain ⟨t, rfl⟩ := ry
  obtain ⟨its, r, ⟨⟨cls, dd, data, sl⟩, ho, hc, n, hd⟩, hs⟩ := I.tuple hT
  simp only at hc hd
  subst hc hd
  refine wpAny_binaryOp_repeat_ref (T := "tuple") (U := "int") (by decide) ⟨_, ho, rfl⟩ (fun s' => typeIs_int s' 1 t) noFill_tuple_mul F.fills_int_mul F.slot_int_rmul repeat_tuple F.slot_int_index.lookup
    (call_meets F.slot_int_rmul (typeIs_int s 1 t) F.entry_int_rmul (F.args_int_rmul_2 _ _) (int_rmul_tuple 1 t l its.toArray n dd sl)
      ⟨ho, rfl, ⟨_, ho, rfl⟩, call_meets F.slot_tuple_mul ⟨_, ho, rfl⟩ F.entry_tuple_mul (F.args_tuple_mul_2 _ _) (tuple_mul1 l its.toArray n dd sl t) ⟨ho, ?_⟩⟩)
  exact ⟨.ref l, H, I, rfl, q⟩
/-- x * k for rows, up to ten thousand times -/
def hMulB : D2 := fun x y M Q => match x, y with
  | .tup xs, .int k => xs ≠ [] ∧ 1 ≤ k ∧ k ≤ 10000 ∧ xs.length ≤ 100 ∧ Q (.tup (List.replicate k.toNat xs).flatten) M
  | .lst xs, .int k => k ≤ 10000 ∧ -1000 ≤ k ∧ xs.length ≤ 100 ∧ Q (.lst (List.replicate k.toNat xs).flatten) M
  | _, _ => False
theorem o_dmulB {X : Cx} : DO X (binaryOp .Mult) hMulB := do_imp fun x y H Q ⟨F, W, M, d, e, Qd, r1, r2, s, h, k⟩ => by
  unfold hMulB at h
  split at h
  · rename_i ds k'
    cases r1 with
    | @tup a vs _ hs rv =>
      cases r2
      by_cases h1 : k' = 1
      · subst h1
        have e : (List.replicate (1 : Int).toNat ds).flatten = ds := by simp
        rw [e] at h
        exact ⟨_, op_mul1, a, vs, rfl, rfl, hs.sq, k.now s (.tup hs rv) h.2.2.2.2⟩
      · exact ⟨_, op_repTB, _, _, vs, rfl, rfl, hs.sq, fun e => h.1 (by subst e; cases rv; rfl), by omega, h.2.2.1, by rw [rv.length]; exact h.2.2.2.1, fun p hp o ho => k.newT s hp (rv.flat_rep _) ho h.2.2.2.2⟩
  · cases r1 with
    | @lst a vs _ hs rv =>
      cases r2
      obtain ⟨h1, h2, h3, q⟩ := h
      have key : ∀ j : Int, j ≤ 10000 → vs.length * j.toNat ≤ sizeLine := fun j hj => by
        rw [rv.length, sizeLine_eq]
        have := Nat.mul_le_mul h3 (show j.toNat ≤ 10000 by omega)
        omega
      exact ⟨_, op_repL, _, _, vs, rfl, rfl, hs.sq, by omega, by omega, key _ h1, fun p hp => k.newL s hp (rv.flat_rep _) q⟩
  · exact h.elim
end U
set_option Elab.async false
set_option linter.all false
set_option maxRecDepth 100000
set_option maxHeartbeats 2000000
namespace U
open PySem PySem.Spec PyProof.Rows L2
section
variable {K : PySem.W.Frag} {D : DEnds} {δ : De} {M : Mm} {t v u : DTS} {gb : XDE} {l : List (Value × Option Nat × Th)} {n i : Nat} {P tt : Addr} {q s : Str} {zs : List Da}
end
end U
set_option Elab.async false
set_option linter.all false
set_option maxRecDepth 100000
set_option maxHeartbeats 2000000
namespace U
open PySem PySem.Spec PyProof.Rows L2
section
variable {X : Cx} {CX : CXT} {E : XK} {k : Nat} {ps : List Str} {C : Addr} {o i : Expr} {pos : Pos} {fo fi : DTE}
end
end U
namespace U
open PySem PySem.Spec PyProof.Rows L2
end U
namespace U
open PySem PySem.Spec PyProof.Rows L2
end U
set_option Elab.async false
set_option linter.all false
set_option maxRecDepth 100000
set_option maxHeartbeats 2000000
namespace U
open PySem PySem.Spec PyProof.Rows L2
section
variable {X : Cx} {k : Nat} {ps : List Str} {sp : DSp} {x : Str} {p pos : Pos} {e : Expr} {es : List Expr} {fs : DTA}
end
end U
set_option Elab.async false
set_option linter.all false
set_option maxRecDepth 100000
set_option maxHeartbeats 2000000
namespace U
open PySem PySem.Spec PyProof.Rows L2
/-- what is walked: a text, a list, a tuple -/
inductive Src where
  | txt (x : Str) | lst (a : Addr) | tup (a : Addr)
def Src.v : Src → V
  | .txt x => .str x
  | .lst a => .ref a
  | .tup a => .ref a
def Src.adr : Src → Option Addr
  | .txt _ => none
  | .lst a => some a
  | .tup a => some a
/-- its items in the heap -/
def Src.At (K : PySem.W.Frag) (H : Hp) : Src → List V → Prop
  | .txt x, vs => vs = x.cps.toList.map fun c => V.str ⟨#[c]⟩
  | .lst a, vs => SqL K H a vs
  | .tup a, vs => SqT K H a vs
/-- its iterator at its turn -/
def Src.It (h : Heap) (it i : Nat) : Src → Prop
  | .txt x => ∃ t, h.IsStrIter it (strIterType x) x t i
  | .lst a => h.IsListIter it a i
  | .tup a => h.IsTupleIter it a i
theorem Src.It.live {h : Heap} {it i : Nat} : ∀ {s : Src}, s.It h it i → ∃ o, h.get? it = some o ∧ ∀ v, o.data ≠ .cell v
  | .txt _, ⟨_, o, e, _, d⟩ => ⟨o, e, fun v q => by rw [d] at q; cases q⟩
  | .lst _, ⟨o, e, _, d⟩ => ⟨o, e, fun v q => by rw [d] at q; cases q⟩
  | .tup _, ⟨o, e, _, d⟩ => ⟨o, e, fun v q => by rw [d] at q; cases q⟩
theorem Src.It.keep {h h' : Heap} {it i : Nat} (k : ∀ o, h.get? it = some o → h'.get? it = some o) : ∀ {s : Src}, s.It h it i → s.It h' it i
  | .txt _, ⟨t, o, e, r⟩ => ⟨t, o, k o e, r⟩
  | .lst _, ⟨o, e, r⟩ => ⟨o, k o e, r⟩
  | .tup _, ⟨o, e, r⟩ => ⟨o, k o e, r⟩
section
variable {X : Cx} {pins : List (Addr × Obj)} {σ : L2.St} {H : Hp} {s : Shared}
theorem Src.inj (I : Inv X pins σ H s) : ∀ {r : Src} {xs ys : List V}, r.At X.K H xs → r.At X.K H ys → xs = ys
  | .txt _, _, _, h1, h2 => h1.trans h2.symm
  | .lst _, _, _, h1, h2 => I.list_inj h1 h2
  | .tup _, _, _, h1, h2 => I.tuple_inj h1 h2
theorem chr_get {x : Str} {i c : Nat} (h : x.cps[i]? = some c) : (x.cps.toList.map fun c => V.str ⟨#[c]⟩)[i]? = some (.str ⟨#[c]⟩) := by
  rw [List.getElem?_map, Array.getElem?_toList, h]; rfl
/-- as the library draws from it -/
theorem Src.draws (I : Inv X pins σ H s) (hh : X.A.handled = none) {it i : Nat} : ∀ {r : Src} {vs : List V}, r.At X.K H vs → r.It s.heap it i → (∀ b, r.adr = some b → b ≠ it) →
    ∃ (fp : List Addr) (Pd : Nat → Value → Prop) (St : Nat → Heap → Prop), Draws X.prog X.w X.A.in1 it (it :: fp) vs.length Pd St ∧ St i s.heap ∧ (∀ j u, Pd j u → ∃ x, vs[j]? = some x ∧ RelV x u) ∧ (∀ j h, St j h → r.It h it j) ∧ ∀ b ∈ fp, r.adr = some b
  | .txt x, vs, h1, ⟨t, h2⟩, h3 => by
    have h1 : vs = x.cps.toList.map fun c => V.str ⟨#[c]⟩ := h1
    have hl : vs.length = x.cps.size := by rw [h1, List.length_map, Array.length_toList]
    rw [hl]
    refine ⟨[], _, _, Draws.text (show X.A.in1.handled = none from hh) it x t, h2, ?_, fun j h q => ⟨t, q⟩, fun b hb => nomatch hb⟩
    rintro j u ⟨c, u', hc, rfl⟩
    exact ⟨.str ⟨#[c]⟩, by rw [h1]; exact chr_get hc, ⟨_, rfl⟩⟩
  | .lst a, vs, h1, h2, h3 => by
    obtain ⟨its, rv, p, _⟩ := I.list h1
    have hl := rv.length
    rw [show vs.length = its.toArray.size from by simpa using hl]
    refine ⟨[a], _, _, Draws.list (show X.A.in1.handled = none from hh) it a (h3 a rfl) its.toArray, ⟨h2, p.isList⟩, fun j u hu => ?_, fun j h q => q.1, fun b hb => by rw [List.mem_singleton.mp hb]; rfl⟩
    have hu : its[j]? = some u := by simpa using hu
    have hj : j < vs.length := by rw [hl]; exact (List.getElem?_eq_some_iff.mp hu).1
    obtain ⟨u2, e, r⟩ := rv.get (List.getElem?_eq_getElem hj)
    rw [hu] at e; cases e
    exact ⟨_, List.getElem?_eq_getElem hj, r⟩
  | .tup a, vs, h1, h2, h3 => by
    obtain ⟨its, rv, p, _⟩ := I.tuple h1
    have hl := rv.length
    rw [show vs.length = its.toArray.size from by simpa using hl]
    refine ⟨[a], _, _, Draws.tuple (show X.A.in1.handled = none from hh) it a (h3 a rfl) its.toArray, ⟨h2, p⟩, fun j u hu => ?_, fun j h q => q.1, fun b hb => by rw [List.mem_singleton.mp hb]; rfl⟩
    have hu : its[j]? = some u := by simpa using hu
    have hj : j < vs.length := by rw [hl]; exact (List.getElem?_eq_some_iff.mp hu).1
    obtain ⟨u2, e, r⟩ := rv.get (List.getElem?_eq_getElem hj)
    rw [hu] at e; cases e
    exact ⟨_, List.getElem?_eq_getElem hj, r⟩
/-- as the library begins it -/
theorem Src.begins (I : Inv X pins σ H s) : ∀ {r : Src} {vs : List V} {u : Value}, r.At X.K H vs → RelV r.v u →
    ∃ (o : Obj) (Hc : Heap → Prop), Begins u o Hc ∧ Hc s.heap ∧ (∀ h it, h.get? it = some o → r.It h it 0) ∧ ∀ b, r.adr = some b → b < s.heap.objs.size
  | .txt x, vs, u, h1, ⟨t, e⟩ => by
    subst e
    exact ⟨_, _, begins_text x t, trivial, fun h it e => ⟨t, _, e, rfl, rfl⟩, fun b hb => nomatch hb⟩
  | .lst a, vs, u, h1, h2 => by
    cases h2
    obtain ⟨its, rv, p, _⟩ := I.list h1
    exact ⟨_, _, begins_list a its.toArray, p.isList, fun h it e => ⟨_, e, rfl, rfl⟩, fun b hb => by cases hb; exact p.lt⟩
  | .tup a, vs, u, h1, h2 => by
    cases h2
    obtain ⟨its, rv, p, _⟩ := I.tuple h1
    obtain ⟨o, ho, r⟩ := id p
    exact ⟨_, _, begins_tuple a its.toArray, p, fun h it e => ⟨_, e, rfl, rfl⟩, fun b hb => by cases hb; exact Heap.lt_size ho⟩
end
def ItzS (K : PySem.W.Frag) (r1 r2 : Src) (n1 n2 : Nat) : It :=
  ⟨fun i H => (i < n1 ∧ i < n2) ∧ ∃ xs ys, r1.At K H xs ∧ r2.At K H ys ∧ xs.length = n1 ∧ ys.length = n2,
    fun i H v H' => ∃ T x y, v = .ref T ∧ H T = none ∧ (∃ o : Obj, o.dict = none ∧ H' = upd H T (.frz o (.tup [x, y]))) ∧ (∀ xs, r1.At K H xs → xs[i]? = some x) ∧ ∀ ys, r2.At K H ys → ys[i]? = some y,
    fun i H => (n1 ≤ i ∨ n2 ≤ i) ∧ ∃ xs ys, r1.At K H xs ∧ r2.At K H ys ∧ xs.length = n1 ∧ ys.length = n2⟩
theorem turn_zipS {P : Program} {w : World} {K : PySem.W.Frag} {elts : List Expr} {kk : Nat} {tpos : Pos} {N : Nat} {r1 r2 : Src} {n1 n2 : Nat} (a1 : ∀ b, r1.adr = some b → b < N) (a2 : ∀ b, r2.adr = some b → b < N) :
    Turn P w K (.Tuple elts kk tpos) (ItzS K r1 r2 n1 n2) [N + 4, N + 2, N + 3, N, N + 1] (N + 4) (fun i h => (IsZip h (N + 4) (N + 2) (N + 3) .none ∧ IsPair h (N + 2) (.ref N) (.ref (N + 1)) ∧ (∃ x y, IsPair h (N + 3) x y) ∧ r1.It h N i ∧ r2.It h (N + 1) i) ∧ i ≤ n1 ∧ i ≤ n2) where
  mem := by simp
  obj := fun i h st c hc => by
    obtain ⟨⟨hz, hTI, ⟨x, y, hTO⟩, h1, h2⟩, _⟩ := st
    obtain ⟨o1, e1, d1⟩ := h1.live
    obtain ⟨o2, e2, d2⟩ := h2.live
    have e' : c = N + 4 ∨ c = N + 2 ∨ c = N + 3 ∨ c = N ∨ c = N + 1 := by simpa using hc
    rcases e' with q | q | q | q | q
    · rw [q]; exact ⟨_, hz, fun v q => nomatch q⟩
    · rw [q]; exact ⟨_, hTI, fun v q => nomatch q⟩
    · rw [q]; exact ⟨_, hTO, fun v q => nomatch q⟩
    · rw [q]; exact ⟨o1, e1, d1⟩
    · rw [q]; exact ⟨o2, e2, d2⟩
  keep := fun i h h' st k => by
    obtain ⟨⟨hz, hTI, ⟨x, y, hTO⟩, h1, h2⟩, l⟩ := st
    exact ⟨⟨k _ (by simp) _ hz, k _ (by simp) _ hTI, ⟨x, y, k _ (by simp) _ hTO⟩, h1.keep fun o q => k _ (by simp) o q, h2.keep fun o q => k _ (by simp) o q⟩, l⟩
  item := by
    intro X hP hw hK hc i pins s σ H E I hf st hg
    subst hP hw hK
    obtain ⟨⟨hz, hTI, ⟨x0, y0, hTO⟩, h1, h2⟩, _⟩ := st
    obtain ⟨⟨l1, l2⟩, xs, ys, hx, hy, e1, e2⟩ := hg
    subst e1 e2
    obtain ⟨f1, P1, S1, D1, s1, r1', t1, b1⟩ := Src.draws I (I.ok.hd hc) hx h1 (fun b e => Nat.ne_of_lt (a1 b e))
    obtain ⟨f2, P2, S2, D2, s2, r2', t2, b2⟩ := Src.draws I (I.ok.hd hc) hy h2 (fun b e => Nat.ne_of_lt (Nat.lt_succ_of_lt (a2 b e)))
    have sep := zip_sep2 (N := N) (fp1 := f1) (fp2 := f2) (fun b hb => a1 b (b1 b hb)) (fun b hb => a2 b (b2 b hb))
    have hzl : N + 4 < s.heap.objs.size := Heap.lt_size hz
    refine wpAny_pyNext_zipD2_item sep D1 D2 hz hTI hTO s1 s2 l1 l2 fun u1 u2 h' tk p1 p2 z' TO' q1 q2 hT hsz hk => ?_
    obtain ⟨x, gx, ru⟩ := r1' _ _ p1
    obtain ⟨y, gy, ru2⟩ := r2' _ _ p2
    refine ⟨_, rfl, wpAny_letOwnedTupleGo_zip (s := { s with heap := h', toks := tk }) z' fun h'' z'' sb => ?_⟩
    have hT2 : h''.get? s.heap.objs.size = some { cls := .type "tuple", data := .seq #[u1, u2] } := (sb.2 _ (Nat.ne_of_gt hzl)).trans hT
    have new : ObjOk X.prog X.w (upd H s.heap.objs.size (.frz { cls := .type "tuple", data := .seq #[u1, u2] } (.tup [x, y]))) h'' s.heap.objs.size (.frz { cls := .type "tuple", data := .seq #[u1, u2] } (.tup [x, y])) :=
      ⟨hT2, by show 2 ≤ sizeLine; decide, [u1, u2], .cons ru (.cons ru2 .nil), ⟨_, hT2, rfl, _, rfl⟩⟩
    have I1 : Inv X pins σ (upd H s.heap.objs.size (.frz { cls := .type "tuple", data := .seq #[u1, u2] } (.tup [x, y]))) { s with heap := h'', toks := tk } :=
      I.turnedNew (t' := tk) (ch := [N + 4, N + 2, N + 3, N, N + 1]) (fun c o hb q => (sb.2 c (fun q' => hb (by simp [q']))).trans (hk c o (fun q' => hb (by simp [q'])) (fun q' => hb (by simp [q'])) (fun q' => hb (by simp [q'])) (fun q' => hb (by simp [q'])) q)) hf (Nat.le_refl _) new
    refine ⟨.ref s.heap.objs.size, _, I1, rfl, ⟨_, x, y, rfl, I.hok.fresh (Nat.le_refl _), ⟨_, rfl, rfl⟩, fun l hl => by rw [Src.inj I hl hx]; exact gx, fun l hl => by rw [Src.inj I hl hy]; exact gy⟩, ⟨⟨z'', ?_, ⟨u1, u2, ?_⟩, ?_, ?_⟩, l1, l2⟩, fun c hcm => ?_⟩
    · exact (sb.2 _ sep.TIz).trans (hk _ _ sep.TIz sep.TITO sep.TIi1 sep.TIi2 hTI)
    · exact (sb.2 _ sep.TOz).trans TO'
    · exact (t1 _ _ q1).keep fun o q => (sb.2 _ (Ne.symm sep.zi1)).trans q
    · exact (t2 _ _ q2).keep fun o q => (sb.2 _ (Ne.symm sep.zi2)).trans q
    · have hlt : c < s.heap.objs.size := by
        have e' : c = N + 4 ∨ c = N + 2 ∨ c = N + 3 ∨ c = N ∨ c = N + 1 := by simpa using hcm
        have hzl : (N + 4 : Nat) < s.heap.objs.size := hzl
        rcases e' with q | q | q | q | q
        · rw [q]; exact hzl
        · rw [q]; exact Nat.lt_of_le_of_lt (Nat.add_le_add_left (by decide) N) hzl
        · rw [q]; exact Nat.lt_of_le_of_lt (Nat.add_le_add_left (by decide) N) hzl
        · rw [q]; exact Nat.lt_of_le_of_lt (Nat.le_add_right _ _) hzl
        · rw [q]; exact Nat.lt_of_le_of_lt (Nat.add_le_add_left (by decide) N) hzl
      rw [upd_ne (Nat.ne_of_lt hlt)]
      exact (hf c hcm).1
  done := by
    intro X hP hw hK hc i pins s σ H E I hf st hg
    subst hP hw hK
    obtain ⟨⟨hz, hTI, ⟨x0, y0, hTO⟩, h1, h2⟩, m1, m2⟩ := st
    obtain ⟨hend, xs, ys, hx, hy, e1, e2⟩ := hg
    subst e1 e2
    obtain ⟨f1, P1, S1, D1, s1, r1', t1, b1⟩ := Src.draws I (I.ok.hd hc) hx h1 (fun b e => Nat.ne_of_lt (a1 b e))
    obtain ⟨f2, P2, S2, D2, s2, r2', t2, b2⟩ := Src.draws I (I.ok.hd hc) hy h2 (fun b e => Nat.ne_of_lt (Nat.lt_succ_of_lt (a2 b e)))
    have sep := zip_sep2 (N := N) (fp1 := f1) (fp2 := f2) (fun b hb => a1 b (b1 b hb)) (fun b hb => a2 b (b2 b hb))
    exact wpAny_pyNext_zipD2_end sep D1 D2 hz hTI hTO s1 s2 m1 m2 (by omega) fun h' tk hk => ⟨rfl, I.turnedL (t' := tk) (ch := [N + 4, N + 2, N + 3, N, N + 1]) (fun c o hb q =>
      hk c o (fun q' => hb (by simp [q'])) (fun q' => hb (by simp [q'])) (fun q' => hb (by simp [q'])) (fun q' => hb (by simp [q'])) q) hf⟩
  self := fun A i s Q E st h => wpAny_pyIter_zip st.1.1 h
def iZipS (K : PySem.W.Frag) (ta : TA) : L2.TI := fun σ H R => ta σ H fun vs H1 => ∃ (r1 r2 : Src) (xs ys : List V), vs = [r1.v, r2.v] ∧ r1.At K H1 xs ∧ r2.At K H1 ys ∧ R (ItzS K r1 r2 xs.length ys.length) H1
theorem pi_zipS {X : Cx} {e e2 : Expr} {ta : TA} {p pos tpos : Pos} {elts : List Expr} {kk : Nat} (hg : Gl X "zip") (hm : X.mg "zip" = none) (ha : PA X [e, e2] ta)
    (hs : starEach [e, e2] X.env = (false, eval e X.env) :: starEach [e2] X.env := by rfl) (hpl : (backTo pos (starEach [e2] X.env)).any (·.1) = false := by rfl) :
    PI X (.Tuple elts kk tpos) (.Call (.Name "zip" p) [e, e2] [] pos) (iZipS X.K ta) := by
  refine ⟨fun pins s σ H R I h => ?_⟩
  refine Call_ (ld_blt I hg hm PyProof.Rows.boot_zip (PyProof.Rows.callWith_type1 (thn (ha.run pos pins s σ H _ I h) fun us s1 ⟨vs, H1, I1, r1, q1⟩ => ?_) hs hpl))
  obtain ⟨s1', s2', xs, ys, ex, hx, hy, q⟩ := q1
  subst ex
  cases r1 with
  | cons r rr =>
    cases rr with
    | cons r' rr =>
      cases rr
      have fresh5 : ∀ c, c ∈ [s1.heap.objs.size + 4, s1.heap.objs.size + 2, s1.heap.objs.size + 3, s1.heap.objs.size, s1.heap.objs.size + 1] → FpOk X pins H1 c := fun c hcm => by
        have e' : c = s1.heap.objs.size + 4 ∨ c = s1.heap.objs.size + 2 ∨ c = s1.heap.objs.size + 3 ∨ c = s1.heap.objs.size ∨ c = s1.heap.objs.size + 1 := by simpa using hcm
        have hle : s1.heap.objs.size ≤ c := by
          rcases e' with z | z | z | z | z
          · rw [z]; exact Nat.le_add_right _ _
          · rw [z]; exact Nat.le_add_right _ _
          · rw [z]; exact Nat.le_add_right _ _
          · rw [z]; exact Nat.le_refl _
          · rw [z]; exact Nat.le_add_right _ _
        exact I1.fpOk hle (I1.hok.fresh hle)
      obtain ⟨o1, H1c, B1, c1, g1, b1⟩ := Src.begins I1 hx r
      obtain ⟨o2, H2c, B2, c2, g2, b2⟩ := Src.begins I1 hy r'
      refine zip_begins2 B1 B2 c1 c2 fun h' hz hTI hTO e1 e2 hsz hk => wpAny_pyIter_zip hz ?_
      have I2 : Inv X pins σ H1 { s1 with heap := h' } := I1.kept (t' := s1.toks) hk
      exact ⟨s1.heap.objs.size + 4, [s1.heap.objs.size + 4, s1.heap.objs.size + 2, s1.heap.objs.size + 3, s1.heap.objs.size, s1.heap.objs.size + 1], _, _, H1, rfl, I2, turn_zipS b1 b2, ⟨⟨hz, hTI, ⟨_, _, hTO⟩, g1 _ _ e1, g2 _ _ e2⟩, Nat.zero_le _, Nat.zero_le _⟩, fresh5, q⟩
def Src.D (K : PySem.W.Frag) (W : Addr → Prop) (H : Hp) : Src → List Da → Prop
  | .txt x, ds => ds = chrD x
  | .lst a, ds => ∃ vs, Sl K W H a vs ∧ RDs K W H vs ds
  | .tup a, ds => ∃ vs, Sp' K W H a vs ∧ RDs K W H vs ds
theorem Src.D.mono {K : PySem.W.Frag} {F W W' : Addr → Prop} {H H' : Hp} (g : Grow F W H W' H') {ds : List Da} : ∀ {r : Src}, r.D K W H ds → r.D K W' H' ds
  | .txt _, h => h
  | .lst _, ⟨vs, h, k⟩ => ⟨vs, h.mono g, k.mono g⟩
  | .tup _, ⟨vs, h, k⟩ => ⟨vs, h.mono g, k.mono g⟩
theorem chrs_rd {K : PySem.W.Frag} {W : Addr → Prop} {H : Hp} : ∀ l : List Nat, RDs K W H (l.map fun c => V.str ⟨#[c]⟩) (l.map fun c => Da.str ⟨#[c]⟩)
  | [] => .nil
  | _ :: l => .cons (.str _) (chrs_rd l)
theorem Src.D.at {K : PySem.W.Frag} {W : Addr → Prop} {H : Hp} {ds : List Da} : ∀ {r : Src}, r.D K W H ds → ∃ vs, r.At K H vs ∧ RDs K W H vs ds
  | .txt x, h => by
    have h : ds = chrD x := h
    subst h
    exact ⟨_, rfl, chrs_rd _⟩
  | .lst _, ⟨vs, h, k⟩ => ⟨vs, h.sq, k⟩
  | .tup _, ⟨vs, h, k⟩ => ⟨vs, h.sq, k⟩
theorem grow_frz {K : PySem.W.Frag} {F W : Addr → Prop} {M : Mm} {H : Hp} {T : Addr} {o : Obj} {vs : List V} {ds : List Da} (s : Stt K F W M H) (h : H T = none) (ho : o.dict = none) (r : RDs K W H vs ds) :
    ∃ W', Grow F W H W' (upd H T (.frz o (.tup vs))) ∧ Stt K F W' M (upd H T (.frz o (.tup vs))) ∧ RD K W' (upd H T (.frz o (.tup vs))) (.ref T) (.tup ds) := by
  obtain ⟨s', g⟩ := s.new h (.frz o (.tup vs)) ho
  exact ⟨_, g, s', .tup (.inl ⟨.inl rfl, .inr ⟨o, upd_same⟩⟩) (r.mono g)⟩
theorem it_zipS {K : PySem.W.Frag} {W : Addr → Prop} {H : Hp} {r1 r2 : Src} {ds es : List Da} (h1 : r1.D K W H ds) (h2 : r2.D K W H es) : ItR K W H (ItzS K r1 r2 ds.length es.length) (zipD ds es) := fun F' W' H' M' g s => by
  obtain ⟨vs, a1, k1⟩ := (h1.mono g).at
  obtain ⟨us, a2, k2⟩ := (h2.mono g).at
  refine ⟨fun i d hd => ?_, fun i hi => ?_⟩
  · obtain ⟨x, y, hx, hy, rfl⟩ := zipD_get hd
    obtain ⟨v, hv, rv⟩ := k1.get hx
    obtain ⟨u, hu, ru⟩ := k2.get hy
    refine ⟨⟨⟨(List.getElem?_eq_some_iff.mp hx).1, (List.getElem?_eq_some_iff.mp hy).1⟩, vs, us, a1, a2, k1.length, k2.length⟩, fun z H'' yl => ?_⟩
    obtain ⟨T, x', y', rfl, hT, ⟨o, ho, rfl⟩, f1, f2⟩ := yl
    have e1 := f1 _ a1
    have e2 := f2 _ a2
    rw [hv] at e1
    rw [hu] at e2
    cases e1
    cases e2
    exact grow_frz s hT ho (.cons rv (.cons ru .nil))
  · rw [zipD_length] at hi
    exact ⟨by omega, vs, us, a1, a2, k1.length, k2.length⟩
/-- a row, settled -/
def rowK (x : Da) (M : Mm) (Q : List Da → Mm → Prop) : Prop := match x with
  | .lst ds => Q ds M
  | .tup ds => Q ds M
  | .str z => Q (chrD z) M
  | .ref p => ∃ ds, M p = some (.lst ds) ∧ Q ds (mdel M p)
  | _ => False
theorem row_src {K : PySem.W.Frag} {F W : Addr → Prop} {M : Mm} {H : Hp} {v : V} {x : Da} {Q : List Da → Mm → Prop} (s : Stt K F W M H) (r : RD K W H v x) (h : rowK x M Q) :
    ∃ (W' : Addr → Prop) (M' : Mm) (rs : Src) (ds : List Da), v = rs.v ∧ Grow F W H W' H ∧ Stt K F W' M' H ∧ rs.D K W' H ds ∧ Q ds M' := by
  cases r with
  | lst hs rv => exact ⟨W, M, .lst _, _, rfl, .refl, s, ⟨_, hs, rv⟩, h⟩
  | tup hs rv => exact ⟨W, M, .tup _, _, rfl, .refl, s, ⟨_, hs, rv⟩, h⟩
  | str z => exact ⟨W, M, .txt _, _, rfl, .refl, s, rfl, h⟩
  | ref p =>
    obtain ⟨ds, hm, q⟩ := h
    obtain ⟨s2, g2⟩ := s.settle hm
    obtain ⟨vs, hv, rv⟩ := s.list hm
    exact ⟨_, _, .lst _, _, rfl, g2, s2, ⟨_, .inl ⟨.inl rfl, .inl hv⟩, rv.mono g2⟩, q⟩
  | _ => exact h.elim
section
variable {X : Cx} {a b : Expr} {es : List Expr} {fs : DTA} {pos p tpos : Pos} {elts : List Expr} {kk : Nat}
def gZip (fs : DTA) : DTI := fun δ M Q => fs δ M fun ds M1 => match ds with
  | [x, y] => rowK x M1 fun xs M2 => rowK y M2 fun ys M3 => Q (zipD xs ys) M3
  | _ => False
theorem d_zip (hm : X.mg "zip" = none) (ha : DA X [a, b] fs) (hg : Gl X "zip" := by rfl) (hs : starEach [a, b] X.env = (false, eval a X.env) :: starEach [b] X.env := by rfl) (hpl : (backTo pos (starEach [b] X.env)).any (·.1) = false := by rfl) :
    DI X (.Tuple elts kk tpos) (.Call (.Name "zip" p) [a, b] [] pos) (gZip fs) :=
  pi_imp (pi_zipS hg hm ha hs hpl) fun σ H R ⟨δ, F, W, M, Qd, ev, s, h, k⟩ => ⟨δ, F, W, M, _, ev, s, h, fun vs H1 W1 ds M1 g1 s1 r1 q1 => by
    split at q1
    · obtain ⟨v, u, rfl, r, r'⟩ := r1.two
      obtain ⟨W2, M2, r1', xs, e1, g2, s2, d1, q2⟩ := row_src s1 r q1
      obtain ⟨W3, M3, r2', ys, e2, g3, s3, d2, q3⟩ := row_src s2 (r'.mono g2) q2
      obtain ⟨vs1, at1, k1⟩ := (d1.mono g3).at
      obtain ⟨vs2, at2, k2⟩ := d2.at
      refine ⟨r1', r2', vs1, vs2, by rw [e1, e2], at1, at2, ?_⟩
      rw [k1.length, k2.length]
      exact k _ _ W3 M3 _ (g1.trans (g2.trans g3)) s3 (it_zipS (d1.mono g3) d2) q3
    · exact q1.elim⟩
end
end U
set_option Elab.async false
set_option linter.all false
set_option maxRecDepth 100000
set_option maxHeartbeats 2000000
namespace U
open PySem PySem.Spec PyProof.Rows L2
theorem set_self {α : Type} : ∀ {l : List α} {i : Nat} {x : α}, l[i]? = some x → l.set i x = l
  | [], _, _, h => by simp at h
  | y :: l, 0, x, h => by simp at h; subst h; rfl
  | y :: l, i + 1, x, h => by
    rw [List.set_cons_succ, set_self (by simpa using h)]
theorem EnvR.again {K : PySem.W.Frag} {W : Addr → Prop} {H : Hp} {δ : De} {σ : L2.St} {i : Nat} {v : V} {d : Da} (e : EnvR K W H δ σ) (h : σ[i]? = some (some v)) (r : RD K W H v d) : EnvR K W H (δ.set i (some d)) σ := by
  have := EnvR.set r i e
  rwa [set_self h] at this
section
variable {X : Cx} {st : Stmt} {t : DTS}
/-- the list of a variable changes no more from here on -/
def hStlV (i : Nat) (t : DTS) : DTS := fun D δ M => ∃ p ds, δ[i]? = some (some (.ref p)) ∧ M p = some (.lst ds) ∧ t D (δ.set i (some (.lst ds))) (mdel M p)
theorem z_stlV (i : Nat) (h : DS X st t) : DS X st (hStlV i t) := ps_imp h fun D σ H ⟨δ, F, W, M, Dd, ev, s, ⟨p, ds, hi, hm, q⟩, k⟩ => by
  obtain ⟨s2, g2⟩ := s.settle hm
  obtain ⟨vs, hv, rv⟩ := s.list hm
  obtain ⟨v, h1, h2⟩ := EnvR.get ev hi
  cases h2
  exact ⟨_, F, _, _, Dd, (ev.mono g2).again h1 (.lst (.inl ⟨.inl rfl, .inl hv⟩) (rv.mono g2)), s2, q, k.mono g2⟩
end
end U
set_option Elab.async false
set_option linter.all false
set_option maxRecDepth 100000
set_option maxHeartbeats 2000000
namespace U
open PySem PySem.Spec PyProof.Rows L2
section
variable {X : Cx} {C : Addr} {f : Str} {pos tpos : Pos} {o value : Expr} {ta tv : TE} {fa fv : DTE}
end
end U
set_option Elab.async false
set_option linter.all false
set_option maxRecDepth 100000
set_option maxHeartbeats 2000000
namespace U
open PySem PySem.Spec PyProof.Rows L2
section
variable {X : Cx}
end
section
variable {X : Cx} {e : Expr} {f : DTE}
/-- a dict of the memory that changes no more -/
def gStlD (f : DTE) : DTE := fun δ M Q => f δ M fun x M1 => match x with
  | .ref p => ∃ xs, M1 p = some (.dct xs) ∧ Q (.dct xs) (mdel M1 p)
  | _ => False
theorem d_stlD (h : DE X e f) : DE X e (gStlD f) := imp h fun σ H Q ⟨δ, F, W, M, Qd, ev, s, h, k⟩ => ⟨δ, F, W, M, _, ev, s, h, fun v H1 W1 d M1 g1 s1 r1 q1 => by
  cases r1 with
  | ref p =>
    obtain ⟨xs, hm, q⟩ := q1
    obtain ⟨s2, g2⟩ := s1.settle hm
    obtain ⟨u, hu, mr⟩ := s1.mem _ _ hm
    cases mr with
    | dct rv => exact (k.mono (g1.trans g2)).now s2 (.dct (.inl rfl) hu (rv.mono g2)) q
  | _ => exact q1.elim⟩
end
end U
set_option Elab.async false
set_option linter.all false
set_option maxRecDepth 100000
set_option maxHeartbeats 4000000
namespace PySem.W
open PySem PySem.Spec PySem.Calls PyProof.Rows
section
variable {prog : Program} {w : World} {A : Around} {E : Value → Shared → Prop} {s : Shared} {K : Frag} {x D : Addr} {ox : Obj} {od : Option Obj}
end
end PySem.W
namespace U
open PySem PySem.Spec PyProof.Rows L2
section
variable {X : Cx}
end
end U
namespace U
open PySem PySem.Spec PyProof.Rows L2
theorem Inv.at_ {X : Cx} {pins : List (Addr × Obj)} {σ : List (Option V)} {H : Hp} {s s' : Shared} (I : L2.Inv X pins σ H s) (h : s'.heap = s.heap) (o : s'.os = s.os) (b : AllBare s'.gens) : L2.Inv X pins σ H s' :=
  { ok := I.ok, os := o.trans I.os, bare := b, base := by rw [h]; exact I.base, loc := by rw [h]; exact I.loc, cell := by rw [h]; exact I.cell, free := I.free, freeC := I.freeC, pin := by rw [h]; exact I.pin, hok := by rw [h]; exact I.hok, len := I.len }
section
variable {X : Cx}
variable {B newId initId : String} {tl : List Value} {C fI : Addr} {k : Nat} {fd : FuncData} {x f : Str} {e : Expr} {fe : DTE} {p pos : Pos}
end
end U
namespace U
open PySem PySem.Spec PyProof.Rows L2
section
variable {X : Cx}
end
end U
set_option Elab.async false
set_option linter.all false
set_option maxRecDepth 100000
set_option maxHeartbeats 2000000
namespace U
open PySem PySem.Spec PyProof.Rows L2
section
variable {X : Cx} {e : Expr} {es : List Expr} {ta : TA} {p1 p2 pos : Pos} {D : Addr} {mc : Value}
variable {C fI : Addr} {k : Nat} {fd : FuncData} {x f : Str} {fe : DTE} {p : Pos}
end
end U
namespace U
open PySem PySem.Spec PyProof.Rows L2
/-- what the text must say of an error class over a class of the text over ValueError -/
structure XErrW (K : PySem.W.Frag) (x : Str) (C : Addr) (qual : Str) (st : Stmt) (f : Str) (D : Addr) : Prop where
  at_ : PySem.W.nsIn K mainGlobals x = some (some (.ref C))
  T : OexC K C
  meth : ∃ fI fd, Fun K "__init__" qual st fI fd ∧ PySem.W.findIn K (.ref C) "__init__" = some (some (.ref fI)) ∧ PySem.W.typeIn K (.ref fI) = some (.type "function")
  no : PySem.W.findIn K (.ref C) f = some none
  rd : PySem.W.readsIn K D (.type "type") = true
  rg : PySem.W.specialIn K (.ref D) "__getattribute__" = some (some (.builtin "type.__getattribute__"))
  vV : PySem.W.findCls K (.ref D) (.type "type") "__init__" = some (.val (.builtin "ValueError.__init__"))
  xf : XfC K C
/-- an own error class, its __init__ walked -/
structure KnErrW (P : Program) (w : World) (K : PySem.W.Frag) (mg : Str → Option Value) (base : Heap) (x : Str) (C : Addr) (f : Str) (k : Nat) : Prop where
  ex : ∃ (fI : Addr) (fd : FuncData), OexC K C ∧ PySem.W.findIn K (.ref C) "__init__" = some (some (.ref fI)) ∧ PySem.W.typeIn K (.ref fI) = some (.type "function") ∧
    FnOk P w K mg base CX0 k fI fd ["self", f] (spErr C f) ∧ Binds K fd ["self", f] [] ∧ mg x = some (.ref C)
theorem KnErrW.of {P : Program} {w : World} {K : PySem.W.Frag} {mg : Str → Option Value} {base : Heap} {x : Str} {C D : Addr} {qual : Str} {st : Stmt} {f : Str} {N : List Str} (F : XErrW K x C qual st f D) (M : MgOf K mg)
    (S : FnScope N ["self", f] (defScope st))
    (hb : ∀ (kV doc pm : Value) (an : Option Addr) (cdv ct : Value) (us : List Value), us.length = (["self", f] : List Str).length → bindArgs (PySem.W.fnOf "__init__" qual (defArgs st) (defBody st) (defScope st) .none kV doc pm an cdv ct) ⟨us, []⟩ = pure ((["self", f] : List Str).zip us))
    (hbody : ∀ (fI : Addr) (cdv : Value) (A : Around) (outer : List Env) (s : Shared) (H : Hp) (E : XK), ∃ t, PSs (cxOf CX0 P w K mg base N qual (defScope st) fI cdv A outer s H E).nox (defBody st) t ∧
      ∀ (a : Addr) (v : V) (Q : VK), H a = some (exo a C none) → (∀ dx, H dx = none → dx ≠ a → Q .non (upd (upd H dx (exd dx [(f, v)])) a (exo a C (some dx)))) → t { nx := fun _ H' => Q .non H', rt := Q } (start N [.ref a, v]) H) : KnErrW P w K mg base x C f 1 := by
  obtain ⟨fI, fd, G, iC, tI⟩ := F.meth
  refine ⟨fI, fd, F.T, iC, tI, G.ok S (fun vs H Q E ⟨a, v, e, _⟩ => by rw [e]; rfl) (fun cdv A outer s H vs Q E hr ⟨a, v, e, ha, q⟩ => ?_), G.binds hb, M.of _ _ F.at_⟩
  obtain ⟨t, d, k⟩ := hbody fI cdv A outer s H E
  subst e
  exact ⟨t, d, k a v Q ha q⟩
end U
namespace U
open PySem PySem.Spec PyProof.Rows L2
end U
set_option Elab.async false
set_option linter.all false
set_option maxRecDepth 100000
set_option maxHeartbeats 4000000
namespace U
open PySem PySem.Spec PyProof.Rows L2
section
variable {X : Cx} {pins : List (Addr × Obj)} {σ : L2.St} {H : Hp} {s : Shared} {W : Addr → Prop}
end
section
variable {X : Cx}
end
end U
set_option Elab.async false
set_option linter.all false
set_option maxRecDepth 100000
set_option maxHeartbeats 4000000
namespace U
open PySem PySem.Spec PyProof.Rows L2
structure HasDefK (K : PySem.W.Frag) (x : Str) (st : Stmt) (kws : List (Str × V)) : Prop where
  ex : ∃ f fd, FunD K x x (defArgs st) (defBody st) (defScope st) [] kws f fd ∧ PySem.W.nsIn K mainGlobals x = some (some (.ref f))
theorem hask_mk {K : PySem.W.Frag} {x kw : Str} {f D : Addr} {v : V} {u : Value} {st : Stmt} {oc : Value} {od an : Option Addr} {osl : Array (Option Value)} {doc pm cdv ct : Value} (a : PySem.W.nsIn K mainGlobals x = some (some (.ref f)))
    (l : K.lookup f = some ⟨oc, od, .func (PySem.W.fnOf x x (defArgs st) (defBody st) (defScope st) .none (.ref D) doc pm an cdv ct), osl⟩) (c : PySem.W.codeIn K cdv x = true) (k : PySem.W.keepIn K (.ref f) = true)
    (kd : PySem.W.nsIn K D kw = some (some u)) (ru : RelV v u) : HasDefK K x st [(kw, v)] :=
  ⟨f, _, ⟨⟨oc, od, _, _, doc, pm, an, cdv, ct, osl, rfl, l, c, .inl ⟨rfl, rfl⟩, .inr ⟨D, rfl, fun q hq => by cases hq with | head => exact ⟨u, kd, ru⟩ | tail _ h => cases h⟩⟩, k⟩, a⟩
/-- a promise of a def with keywords ks behind n positional parameters -/
structure KnDK (P : Program) (w : World) (K : PySem.W.Frag) (mg : Str → Option Value) (base : Heap) (x : Str) (k : Nat) (ps : List Str) (n : Nat) (ks : List Str) (dvs : List V) (sp : DSp) : Prop where
  ex : ∃ f fd, FnOk P w K mg base CX0 k f fd ps (LSp K sp) ∧ mg x = some (.ref f) ∧ PySem.W.keepIn K (.ref f) = true ∧ (∃ ds, Vals dvs ds ∧ Binds K fd ps ds) ∧ KBn K fd ps n ks (fun us ws => us ++ ws) (fun vs zs => vs ++ zs)
theorem KnDK.of {P : Program} {w : World} {K : PySem.W.Frag} {mg : Str → Option Value} {base : Heap} {x : Str} {st : Stmt} {N ps : List Str} {k n : Nat} {ks : List Str} {kws : List (Str × V)} {sp : DSp} (F : HasDefK K x st kws) (M : MgOf K mg) (S : FnScope N ps (defScope st)) (hk : kws ≠ []) (hn : n + kws.length = ps.length)
    (h1 : ∀ (D : Addr) (doc pm : Value) (an : Option Addr) (cdv ct : Value) (us zs : List Value), us.length = n → zs.length = kws.length →
      KwChain D ((kws.map (·.1)).zip zs) (bindArgs (PySem.W.fnOf x x (defArgs st) (defBody st) (defScope st) .none (.ref D) doc pm an cdv ct) ⟨us, []⟩) (ps.zip (us ++ zs)))
    (h2 : ∀ (D : Addr) (doc pm : Value) (an : Option Addr) (cdv ct : Value) (us ws : List Value), us.length = n → ws.length = ks.length →
      bindArgs (PySem.W.fnOf x x (defArgs st) (defBody st) (defScope st) .none (.ref D) doc pm an cdv ct) ⟨us, ks.zip ws⟩ = pure (ps.zip (us ++ ws)))
    (len : ∀ ds M Q E, sp ds M Q E → ds.length = ps.length)
    (hbody : ∀ (f : Addr) (cdv : Value) (A : Around) (outer : List Env) (s : Shared) (H : Hp) (E : XK), Room k (A.deeper (envOfC x (defScope st) s.heap.objs.size f cdv)) →
      ∃ t, DB (cxOf CX0 P w K mg base N x (defScope st) f cdv A outer s H E).nox (defBody st) t ∧ ∀ ds M Q Ed, sp ds M Q Ed → t (bodyE Q) (startD N ds) M) : KnDK P w K mg base x (k + 1) ps n ks (kws.map (·.2)) sp := by
  obtain ⟨f, fd, F, e⟩ := F.ex
  refine ⟨f, fd, F.ok S (lsp_len len) (fun cdv A outer s H vs Q E hr ⟨F, W, M, ds, Qd, Ed, r, st, h, kk, kx⟩ => by
    obtain ⟨t, d, q⟩ := hbody f cdv A outer s H E hr
    exact ⟨_, PSs.nox d, ls_body r st kk (q ds M Qd Ed h)⟩), M.of _ _ e, F.kp, F.binds0 n hk hn h1, ?_⟩
  obtain ⟨mv, kb⟩ := F.kbinds0 (ps := ps) n ks [] (fun us _ ws => us ++ ws) hk (fun q hq => nomatch hq) (fun r1 _ r3 => r1.append r3) fun D doc pm an cdv ct us mv ws l1 l2 l3 => h2 D doc pm an cdv ct us ws l1 l3
  exact kb
section
variable {X : Cx} {k n : Nat} {ps ks : List Str} {sp : DSp} {x : Str} {p pos : Pos} {e : Expr} {es : List Expr} {kws : List Keyword} {fs fk : DTA} {dvs : List V} {dfl : List Da}
/-- f(e, ..), the keywords left out -/
def gCallD (sp : DSp) (dfl : List Da) (fs : DTA) : DTE := fun δ M Q => fs δ M fun ds M1 => sp (ds ++ dfl) M1 Q X0
/-- f(e, .., k = v, ..) -/
def gCallK (sp : DSp) (n m : Nat) (fs fk : DTA) : DTE := fun δ M Q => fs δ M fun ds M1 => fk δ M1 fun zs M2 => ds.length = n ∧ zs.length = m ∧ sp (ds ++ zs) M2 Q X0
theorem d_callK (D : KnDK X.prog X.w X.K X.mg X.base x k ps n ks dvs sp) (hr : Room k X.A) (ha : DA X (e :: es) fs) (hkw : DKw X kws fk) (hg : Gl X x := by rfl)
    (hall : (backToKw pos (keywordEach kws X.env)).all (·.1.isSome) = true := by rfl) (hks : (backToKw pos (keywordEach kws X.env)).filterMap (·.1) = ks := by rfl) (hdb : (x == ("__debug__" : Str)) = false := by decide)
    (he : starEach (e :: es) X.env = (false, eval e X.env) :: starEach es X.env := by rfl) (hpl : ((backTo pos (starEach (e :: es) X.env)).any (·.1) || (backToKw pos (keywordEach kws X.env)).any (·.1.isNone)) = false := by rfl) :
    DE X (.Call (.Name x p) (e :: es) kws pos) (gCallK sp n ks.length fs fk) := by
  obtain ⟨f, fd, F, m, kp, _, kb⟩ := D.ex
  refine imp (pe_callN F hr hg m kp kb pass0 ha hkw hall hks hdb he hpl) fun σ H Q ⟨δ, F, W, M, Qd, ev, s, h, kk⟩ => ⟨δ, F, W, M, _, ev, s, h, fun vs H1 W1 ds M1 g1 s1 r1 q1 =>
    ⟨δ, F, W1, M1, _, ev.mono g1, s1, q1, fun zs H2 W2 es2 M2 g2 s2 r2 q2 => ⟨by rw [r1.length]; exact q2.1, by rw [r2.length]; exact q2.2.1, ?_⟩⟩⟩
  exact ⟨F, W2, M2, ds ++ es2, Qd, X0, (r1.mono g2).append r2, s2, q2.2.2, kk.mono (g1.trans g2), fun _ _ _ _ _ _ _ _ _ z => z.elim⟩
end
end U
set_option Elab.async false
set_option linter.all false
set_option maxRecDepth 100000
set_option maxHeartbeats 4000000
namespace U
open PySem PySem.Spec PyProof.Rows L2
section
variable {X : Cx} {e : Expr} {te : TE} {fe : DTE} {p apos cpos pos : Pos}
end
end U
set_option Elab.async false
set_option linter.all false
set_option maxRecDepth 100000
set_option maxHeartbeats 4000000
namespace U
open PySem PySem.Spec PyProof.Rows L2
theorem zip_no_len : typeLookup (.type "zip") "__len__" = pure none := by rw [typeLookup_type, builtinLookup_eq_fast]; kernel_rfl
theorem zip_no_hint : typeLookup (.type "zip") "__length_hint__" = pure none := by rw [typeLookup_type, builtinLookup_eq_fast]; kernel_rfl
section
variable {X : Cx} {e1 e2 : Expr} {ta : TA} {fs : DTA} {p p2 pos pos2 : Pos}
end
end U
set_option Elab.async false
set_option linter.all false
set_option maxRecDepth 100000
set_option maxHeartbeats 4000000
namespace U
open PySem PySem.Spec PyProof.Rows L2
section
variable {X : Cx} {elt tg : Expr} {ifs : List Expr} {scope : Scope} {own : List (Str × Nat)} {pos ipos : Pos} {c : CT} {tt : DTT} {te : DTE}
end
end U
set_option Elab.async false
set_option linter.all false
set_option maxRecDepth 100000
set_option maxHeartbeats 4000000
namespace PySem

section
variable {prog : Program} {w : World} {A : Around} {E : Value → Shared → Prop} {s : Shared} {z TI TO T i1 i2 : Addr} {f : Bool} {oT : Obj} {fp1 fp2 : List Addr} {n1 n2 i : Nat} {P1 P2 : Nat → Value → Prop} {St1 St2 : Nat → Heap → Prop}
theorem zipD2_next_item_held {Q : Value → Shared → Prop} (S : ZipSep2 z TI TO i1 i2 fp1 fp2) (D1 : Draws prog w A i1 fp1 n1 P1 St1) (D2 : Draws prog w A i2 fp2 n2 P2 St2)
    (hz : IsZipHeld s.heap z TI TO T f) (hT : s.heap.get? T = some oT) (hTI : IsTupOf2 s.heap TI (.ref i1) (.ref i2)) (st1 : St1 i s.heap) (st2 : St2 i s.heap) (hlt1 : i < n1) (hlt2 : i < n2)
    (hQ : ∀ x1 x2 h' tk, P1 i x1 → P2 i x2 → IsZipHeld h' z TI TO T true → St1 (i + 1) h' → St2 (i + 1) h' → IsTupOf2 h' s.heap.objs.size x1 x2 → h'.objs.size = s.heap.objs.size + 1 →
      (∀ c o, c ≠ z → c ≠ i1 → c ≠ i2 → s.heap.get? c = some o → h'.get? c = some o) → Q (.ref s.heap.objs.size) { s with heap := h', toks := tk }) :
    wpAny (model prog w) A (Builtin.«zip.__next__» ⟨[.ref z], []⟩) (fun fin s' => ∃ v, fin = .done (.ret v) ∧ Q v s') E s := by
  obtain ⟨hp, g, d, tk0, os⟩ := s
  show wpAny _ _ (field (.ref z) 2 >>= _) _ _ _
  refine wpAny_bind (wpAny_field hz rfl (x := .bool false) rfl ?_)
  show wpAny _ _ (field (.ref z) 3 >>= _) _ _ _
  refine wpAny_bind (wpAny_field hz rfl (x := .ref TI) rfl ?_)
  refine wpAny_bind (wpAny_seqItems hTI rfl ?_)
  show wpAny _ _ (Builtin.SmallTypes.ownedTupleIsFree (.ref z) >>= _) _ _ _
  refine wpAny_bind (wpAny_tupleHeld_zip hz hT fun h₁ hz₁ hs₁ => ?_)
  replace hs₁ : Heap.SameBut z hp h₁ := hs₁
  replace hz₁ : IsZipHeld h₁ z TI TO T true := hz₁
  simp only [Bool.false_eq_true, if_false]
  refine wpAny_bind ?_
  rw [← Array.forIn_toList]
  simp only [List.forIn_cons, List.forIn_nil]
  refine wpAny_bind (wpAny_bind (wpAny_holding ?_))
  show wpAny _ _ (Builtin.SmallTypes.nextOf (.ref i1) >>= _) _ _ ⟨h₁, g, d, tk0, os⟩
  refine wpAny_bind (D1.item i _ _ _ hlt1 (D1.over st1 hs₁ S.zf1) fun x1 h₂ tk1 hx1 sn1 hs₂ => wpAny_pure ?_)
  replace hs₂ : Heap.SameBut i1 h₁ h₂ := hs₂
  refine wpAny_pure ?_
  refine wpAny_bind (wpAny_bind (wpAny_holding ?_))
  show wpAny _ _ (Builtin.SmallTypes.nextOf (.ref i2) >>= _) _ _ ⟨h₂, g, d, tk1, os⟩
  refine wpAny_bind (D2.item i _ _ _ hlt2 (D2.over (D2.over st2 hs₁ S.zf2) hs₂ S.sep1_2) fun x2 h₃ tk2 hx2 sn2 hs₃ => wpAny_pure ?_)
  replace hs₃ : Heap.SameBut i2 h₂ h₃ := hs₃
  refine wpAny_pure (wpAny_pure ?_)
  show wpAny _ _ (newTuple [x1, x2] >>= _) _ _ _
  refine wpAny_bind (wpAny_newTuple ?_)
  have hsz : h₃.objs.size = hp.objs.size := by rw [hs₃.1, hs₂.1, hs₁.1]
  have hz₃ : IsZipHeld h₃ z TI TO T true := hs₃.extBut _ _ S.zi2 (hs₂.extBut _ _ S.zi1 hz₁)
  have hk : ∀ c o, c ≠ z → c ≠ i1 → c ≠ i2 → hp.get? c = some o → h₃.get? c = some o := fun c o c1 c2 c3 e => hs₃.extBut _ _ c3 (hs₂.extBut _ _ c2 (hs₁.extBut _ _ c1 e))
  have sn1' := D1.over sn1 hs₃ S.sep2_1
  refine wpAny_pure ⟨_, rfl, ?_⟩
  show Q (.ref h₃.objs.size) _
  have ht : IsTupOf2 (h₃.push { cls := .type "tuple", data := .seq #[x1, x2] }) h₃.objs.size x1 x2 := Heap.get?_push_size _ rfl
  have hz4 : (h₃.push { cls := .type "tuple", data := .seq #[x1, x2] }).objs.size = h₃.objs.size + 1 := Heap.size_push ..
  rw [hsz] at ht hz4 ⊢
  exact hQ _ _ _ _ hx1 hx2 (Heap.get?_push_of_some _ hz₃) (D1.frame _ _ _ sn1' fun b _ o e => Heap.get?_push_of_some _ e) (D2.frame _ _ _ sn2 fun b _ o e => Heap.get?_push_of_some _ e) ht hz4 fun c o c1 c2 c3 e => Heap.get?_push_of_some _ (hk c o c1 c2 c3 e)
theorem zipD2_next_end_held {Q : Fin → Shared → Prop} (S : ZipSep2 z TI TO i1 i2 fp1 fp2) (D1 : Draws prog w A i1 fp1 n1 P1 St1) (D2 : Draws prog w A i2 fp2 n2 P2 St2)
    (hz : IsZipHeld s.heap z TI TO T f) (hT : s.heap.get? T = some oT) (hTI : IsTupOf2 s.heap TI (.ref i1) (.ref i2)) (st1 : St1 i s.heap) (st2 : St2 i s.heap) (hle1 : i ≤ n1) (hle2 : i ≤ n2) (hend : i = n1 ∨ i = n2)
    (hE : ∀ h' tk e, (∀ c o, c ≠ z → c ≠ i1 → c ≠ i2 → s.heap.get? c = some o → h'.get? c = some o) → (∃ o, h'.get? e = some o ∧ o.cls = .type "StopIteration") → E (.ref e) { s with heap := h', toks := tk }) :
    wpAny (model prog w) A (Builtin.«zip.__next__» ⟨[.ref z], []⟩) Q E s := by
  obtain ⟨hp, g, d, tk0, os⟩ := s
  show wpAny _ _ (field (.ref z) 2 >>= _) _ _ _
  refine wpAny_bind (wpAny_field hz rfl (x := .bool false) rfl ?_)
  show wpAny _ _ (field (.ref z) 3 >>= _) _ _ _
  refine wpAny_bind (wpAny_field hz rfl (x := .ref TI) rfl ?_)
  refine wpAny_bind (wpAny_seqItems hTI rfl ?_)
  show wpAny _ _ (Builtin.SmallTypes.ownedTupleIsFree (.ref z) >>= _) _ _ _
  refine wpAny_bind (wpAny_tupleHeld_zip hz hT fun h₁ hz₁ hs₁ => ?_)
  replace hs₁ : Heap.SameBut z hp h₁ := hs₁
  replace hz₁ : IsZipHeld h₁ z TI TO T true := hz₁
  simp only [Bool.false_eq_true, if_false]
  refine wpAny_bind ?_
  rw [← Array.forIn_toList]
  simp only [List.forIn_cons, List.forIn_nil]
  refine wpAny_bind (wpAny_bind (wpAny_holding ?_))
  show wpAny _ _ (Builtin.SmallTypes.nextOf (.ref i1) >>= _) _ _ ⟨h₁, g, d, tk0, os⟩
  by_cases hlt1 : i < n1
  · refine wpAny_bind (D1.item i _ _ _ hlt1 (D1.over st1 hs₁ S.zf1) fun x1 h₂ tk1 hx1 sn1 hs₂ => wpAny_pure ?_)
    replace hs₂ : Heap.SameBut i1 h₁ h₂ := hs₂
    refine wpAny_pure ?_
    have hi2 : i = n2 := by omega
    refine wpAny_bind (wpAny_bind (wpAny_holding ?_))
    show wpAny _ _ (Builtin.SmallTypes.nextOf (.ref i2) >>= _) _ _ ⟨h₂, g, d, tk1, os⟩
    refine wpAny_bind (D2.done ⟨h₂, g, d, tk1, os⟩ _ _ (by rw [← hi2]; exact (D2.over (D2.over st2 hs₁ S.zf2) hs₂ S.sep1_2)) fun q e hq he => ?_)
    replace hq : Heap.ExtBut i2 h₂ q := hq
    exact hE q tk1 e (fun c o c1 c2 c3 x => hq _ _ c3 (hs₂.extBut _ _ c2 (hs₁.extBut _ _ c1 x))) he
  · have hi1 : i = n1 := by omega
    refine wpAny_bind (D1.done ⟨h₁, g, d, tk0, os⟩ _ _ (by rw [← hi1]; exact (D1.over st1 hs₁ S.zf1)) fun q e hq he => ?_)
    replace hq : Heap.ExtBut i1 h₁ q := hq
    exact hE q tk0 e (fun c o c1 c2 c3 x => hq _ _ c2 (hs₁.extBut _ _ c1 x)) he
theorem wpAny_pyNext_zipD2_item_held {Q : Option Value → Shared → Prop} (S : ZipSep2 z TI TO i1 i2 fp1 fp2) (D1 : Draws prog w A.in1 i1 fp1 n1 P1 St1) (D2 : Draws prog w A.in1 i2 fp2 n2 P2 St2)
    (hz : IsZipHeld s.heap z TI TO T f) (hT : s.heap.get? T = some oT) (hTI : IsTupOf2 s.heap TI (.ref i1) (.ref i2)) (st1 : St1 i s.heap) (st2 : St2 i s.heap) (hlt1 : i < n1) (hlt2 : i < n2)
    (hQ : ∀ x1 x2 h' tk, P1 i x1 → P2 i x2 → IsZipHeld h' z TI TO T true → St1 (i + 1) h' → St2 (i + 1) h' → IsTupOf2 h' s.heap.objs.size x1 x2 → h'.objs.size = s.heap.objs.size + 1 →
      (∀ c o, c ≠ z → c ≠ i1 → c ≠ i2 → s.heap.get? c = some o → h'.get? c = some o) → Q (some (.ref s.heap.objs.size)) { s with heap := h', toks := tk }) :
    wpAny (model prog w) A (pyNext (.ref z)) Q E s := by
  have hTy : s.TypeIs (.ref z) "zip" := ⟨_, hz, rfl⟩
  unfold pyNext
  exact wpAny_bind (wpAny_attempt (wpAny_callSpecial?_slot (name := Str.ofString "__next__") hTy F.slot_zip_next
    (wpAny_call_entry F.slot_zip_next hTy F.entry_zip_next
      (zipD2_next_item_held S D1 D2 hz hT hTI st1 st2 hlt1 hlt2 fun x1 x2 h' tk y1 y2 b1 d1 d2 b5 b6 b7 => wpAny_pure (hQ x1 x2 h' tk y1 y2 b1 d1 d2 b5 b6 b7)) (F.args_zip_next_1 _))))
theorem wpAny_pyNext_zipD2_end_held {Q : Option Value → Shared → Prop} (S : ZipSep2 z TI TO i1 i2 fp1 fp2) (D1 : Draws prog w A.in1 i1 fp1 n1 P1 St1) (D2 : Draws prog w A.in1 i2 fp2 n2 P2 St2)
    (hz : IsZipHeld s.heap z TI TO T f) (hT : s.heap.get? T = some oT) (hTI : IsTupOf2 s.heap TI (.ref i1) (.ref i2)) (st1 : St1 i s.heap) (st2 : St2 i s.heap) (hle1 : i ≤ n1) (hle2 : i ≤ n2) (hend : i = n1 ∨ i = n2)
    (hQ : ∀ h' tk, (∀ c o, c ≠ z → c ≠ i1 → c ≠ i2 → s.heap.get? c = some o → h'.get? c = some o) → Q none { s with heap := h', toks := tk }) : wpAny (model prog w) A (pyNext (.ref z)) Q E s := by
  have hTy : s.TypeIs (.ref z) "zip" := ⟨_, hz, rfl⟩
  unfold pyNext
  refine wpAny_bind (wpAny_attempt (wpAny_callSpecial?_slot (name := Str.ofString "__next__") hTy F.slot_zip_next
    (wpAny_call_entry F.slot_zip_next hTy F.entry_zip_next (zipD2_next_end_held S D1 D2 hz hT hTI st1 st2 hle1 hle2 hend fun h' tk e hk he => ?_) (F.args_zip_next_1 _))))
  obtain ⟨o, ho, hc⟩ := he
  refine wpAny_bind (wpAny_isInstance (T := "StopIteration") (b := true) ⟨o, ho, hc⟩ isSubtype_stop ?_)
  exact wpAny_pure (hQ _ _ hk)
end
end PySem
namespace U
open PySem PySem.Spec PyProof.Rows L2
section
variable {X : Cx} {pins : List (Addr × Obj)} {σ : L2.St} {H : Hp} {s : Shared}
/-- Src.draws at any place -/
theorem Src.drawsA {A : Around} (I : Inv X pins σ H s) (hh : A.handled = none) {it i : Nat} : ∀ {r : Src} {vs : List V}, r.At X.K H vs → r.It s.heap it i → (∀ b, r.adr = some b → b ≠ it) →
    ∃ (fp : List Addr) (Pd : Nat → Value → Prop) (St : Nat → Heap → Prop), Draws X.prog X.w A it (it :: fp) vs.length Pd St ∧ St i s.heap ∧ (∀ j u, Pd j u → ∃ x, vs[j]? = some x ∧ RelV x u) ∧ ∀ b ∈ fp, r.adr = some b
  | .txt x, vs, h1, ⟨t, h2⟩, h3 => by
    have h1 : vs = x.cps.toList.map fun c => V.str ⟨#[c]⟩ := h1
    have hl : vs.length = x.cps.size := by rw [h1, List.length_map, Array.length_toList]
    rw [hl]
    refine ⟨[], _, _, Draws.text hh it x t, h2, ?_, fun b hb => nomatch hb⟩
    rintro j u ⟨c, u', hc, rfl⟩
    exact ⟨.str ⟨#[c]⟩, by rw [h1]; exact chr_get hc, ⟨_, rfl⟩⟩
  | .lst a, vs, h1, h2, h3 => by
    obtain ⟨its, rv, p, _⟩ := I.list h1
    have hl := rv.length
    rw [show vs.length = its.toArray.size from by simpa using hl]
    refine ⟨[a], _, _, Draws.list hh it a (h3 a rfl) its.toArray, ⟨h2, p.isList⟩, fun j u hu => ?_, fun b hb => by rw [List.mem_singleton.mp hb]; rfl⟩
    have hu : its[j]? = some u := by simpa using hu
    have hj : j < vs.length := by rw [hl]; exact (List.getElem?_eq_some_iff.mp hu).1
    obtain ⟨u2, e, r⟩ := rv.get (List.getElem?_eq_getElem hj)
    rw [hu] at e; cases e
    exact ⟨_, List.getElem?_eq_getElem hj, r⟩
  | .tup a, vs, h1, h2, h3 => by
    obtain ⟨its, rv, p, _⟩ := I.tuple h1
    have hl := rv.length
    rw [show vs.length = its.toArray.size from by simpa using hl]
    refine ⟨[a], _, _, Draws.tuple hh it a (h3 a rfl) its.toArray, ⟨h2, p⟩, fun j u hu => ?_, fun b hb => by rw [List.mem_singleton.mp hb]; rfl⟩
    have hu : its[j]? = some u := by simpa using hu
    have hj : j < vs.length := by rw [hl]; exact (List.getElem?_eq_some_iff.mp hu).1
    obtain ⟨u2, e, r⟩ := rv.get (List.getElem?_eq_getElem hj)
    rw [hu] at e; cases e
    exact ⟨_, List.getElem?_eq_getElem hj, r⟩
end
abbrev tupO (u1 u2 : Value) : Obj := { cls := .type "tuple", data := .seq #[u1, u2] }
abbrev TsT := List (Addr × Value × Value)
abbrev lstO (Ts : TsT) (c : Nat) : Obj := { cls := .type "list", dict := none, data := .seq (Ts.map fun t => Value.ref t.1).toArray c, slots := #[] }
/-- amid the filling of list(zip(..)): turn i, the pairs so far -/
structure ZL (h0 h : Heap) (B : Nat) (S z TI TO i1 i2 : Addr) (P1 P2 : Nat → Value → Prop) (St1 St2 : Nat → Heap → Prop) (i : Nat) (Ts : TsT) (c : Nat) : Prop where
  keep : ∀ b o, h0.get? b = some o → h.get? b = some o
  zip : (IsZip h z TI TO .none) ∨ ∃ T f oT, IsZipHeld h z TI TO T f ∧ h.get? T = some oT ∧ B ≤ T
  tI : IsTupOf2 h TI (.ref i1) (.ref i2)
  tO : ∃ a1 a2, IsTupOf2 h TO a1 a2
  s1 : St1 i h
  s2 : St2 i h
  lst : h.get? S = some (lstO Ts c)
  sz : B ≤ h.objs.size
  tup : ∀ t ∈ Ts, h.get? t.1 = some (tupO t.2.1 t.2.2) ∧ B ≤ t.1
  nd : (Ts.map (·.1)).Nodup
  len : Ts.length = i
  at_ : ∀ j t, Ts[j]? = some t → P1 j t.2.1 ∧ P2 j t.2.2
/-- all lie below B, apart from one another; S is not what is drawn from -/
structure ZB (B : Nat) (h0 : Heap) (S z TI TO i1 i2 : Addr) (fp1 fp2 : List Addr) : Prop where
  bz : z < B
  bTI : TI < B
  bTO : TO < B
  b1 : i1 < B
  b2 : i2 < B
  bS : S < B
  n0 : ∀ b o, h0.get? b = some o → b ≠ z ∧ b ≠ TO ∧ b ≠ i1 ∧ b ≠ i2 ∧ b ≠ S
  Sz : S ≠ z
  ST : S ≠ TO
  STI : S ≠ TI
  S1 : S ∉ fp1
  S2 : S ∉ fp2
section
variable {P : Program} {w : World} {A : Around} {R : Result → Shared → Prop} {S z TI TO i1 i2 : Addr} {fp1 fp2 : List Addr} {n1 n2 B : Nat} {P1 P2 : Nat → Value → Prop} {St1 St2 : Nat → Heap → Prop} {h0 : Heap} {sc : Shared} {res : Value}
theorem snoc_at {Ts : TsT} {i : Nat} {t : Addr × Value × Value} (hl : Ts.length = i) (h : ∀ j t, Ts[j]? = some t → P1 j t.2.1 ∧ P2 j t.2.2) (ht : P1 i t.2.1 ∧ P2 i t.2.2) : ∀ j u, (Ts ++ [t])[j]? = some u → P1 j u.2.1 ∧ P2 j u.2.2 := fun j u e => by
  by_cases hj : j < Ts.length
  · rw [List.getElem?_append_left hj] at e; exact h j u e
  · rw [List.getElem?_append_right (by omega)] at e
    have : j = i := by
      have := (List.getElem?_eq_some_iff.mp e).1
      rw [List.length_singleton] at this
      omega
    subst this
    rw [hl, Nat.sub_self] at e
    cases e
    exact ht
theorem zip_drain (sep : ZipSep2 z TI TO i1 i2 fp1 fp2) (D1 : Draws P w A.in1.in1 i1 fp1 n1 P1 St1) (D2 : Draws P w A.in1.in1 i2 fp2 n2 P2 St2) (hB : ZB B h0 S z TI TO i1 i2 fp1 fp2) (hm : n1 ≤ 1000 ∨ n2 ≤ 1000)
    (hend : ∀ h tk Ts c, Ts.length = min n1 n2 → (∀ b o, h0.get? b = some o → h.get? b = some o) → h.get? S = some (lstO Ts c) → (∀ t ∈ Ts, h.get? t.1 = some (tupO t.2.1 t.2.2) ∧ B ≤ t.1) → (Ts.map (·.1)).Nodup → (∀ j t, Ts[j]? = some t → P1 j t.2.1 ∧ P2 j t.2.2) → R (.ok (.ret res)) { sc with heap := h, toks := tk }) :
    ∀ (m i : Nat) (h : Heap) (tk : Nat) (Ts : TsT) (c : Nat), min n1 n2 - i = m → i ≤ n1 → i ≤ n2 → ZL h0 h B S z TI TO i1 i2 P1 P2 St1 St2 i Ts c → codeAny (model P w) A (.builtin "list.extend.loop" ⟨[.ref S, .ref z, res], []⟩) R { sc with heap := h, toks := tk } := by
  intro m
  induction m with
  | zero =>
    intro i h tk Ts c hm0 l1 l2 L
    refine codeAny_builtin F.entry_extend_loop ?_
    rw [Around.under_plainId F.plain_extend_loop _]
    show wpAny _ A.in1 (pyNext (.ref z) >>= _) _ _ _
    have hi : i = n1 ∨ i = n2 := by omega
    have fin : ∀ h' tk', (∀ c o, c ≠ z → c ≠ TO → c ≠ i1 → c ≠ i2 → h.get? c = some o → h'.get? c = some o) → R (.ok (.ret res)) { sc with heap := h', toks := tk' } := fun h' tk' hk => by
      have n1' : S ≠ i1 := fun e => hB.S1 (e ▸ sep.mem1)
      have n2' : S ≠ i2 := fun e => hB.S2 (e ▸ sep.mem2)
      refine hend h' tk' Ts c (by rw [L.len]; omega) (fun b o e => ?_) (hk _ _ hB.Sz hB.ST n1' n2' L.lst) (fun t ht => ?_) L.nd L.at_
      · obtain ⟨a, b', c', d, _⟩ := hB.n0 b o e
        exact hk b o a b' c' d (L.keep b o e)
      · obtain ⟨a, b⟩ := L.tup t ht
        have g : ∀ {c}, c < B → t.1 ≠ c := fun hc e => by rw [e] at b; exact absurd b (Nat.not_le.mpr hc)
        exact ⟨hk _ _ (g hB.bz) (g hB.bTO) (g hB.b1) (g hB.b2) a, b⟩
    obtain ⟨a1, a2, hTO⟩ := L.tO
    rcases L.zip with hz | ⟨T, f, oT, hz, hT, _⟩
    · exact wpAny_bind (wpAny_pyNext_zipD2_end (s := { sc with heap := h, toks := tk }) sep D1 D2 hz L.tI hTO L.s1 L.s2 l1 l2 hi fun h' tk' hk => wpAny_pure (fin h' tk' hk))
    · exact wpAny_bind (wpAny_pyNext_zipD2_end_held (s := { sc with heap := h, toks := tk }) sep D1 D2 hz hT L.tI L.s1 L.s2 l1 l2 hi fun h' tk' hk => wpAny_pure (fin h' tk' fun c o c1 _ c3 c4 => hk c o c1 c3 c4))
  | succ m ih =>
    intro i h tk Ts c hm0 l1 l2 L
    refine codeAny_builtin F.entry_extend_loop ?_
    rw [Around.under_plainId F.plain_extend_loop _]
    show wpAny _ A.in1 (pyNext (.ref z) >>= _) _ _ _
    have hi1 : i < n1 := by omega
    have hi2 : i < n2 := by omega
    have n1' : S ≠ i1 := fun e => hB.S1 (e ▸ sep.mem1)
    have n2' : S ≠ i2 := fun e => hB.S2 (e ▸ sep.mem2)
    have hlen : Ts.length < sizeLine := by rw [L.len, sizeLine_eq]; omega
    have next : ∀ x1 x2 (h' : Heap), P1 i x1 → P2 i x2 → (∃ T f oT, IsZipHeld h' z TI TO T f ∧ h'.get? T = some oT ∧ B ≤ T) → (∃ a1 a2, IsTupOf2 h' TO a1 a2) → St1 (i + 1) h' → St2 (i + 1) h' → IsTupOf2 h' h.objs.size x1 x2 → h'.objs.size = h.objs.size + 1 →
        (∀ c o, c ≠ z → c ≠ TO → c ≠ i1 → c ≠ i2 → h.get? c = some o → h'.get? c = some o) →
        h'.get? S = some (lstO Ts c) ∧ ∃ c', ZL h0 (h'.update S (Obj.mapSeq (·.push (.ref h.objs.size)))) B S z TI TO i1 i2 P1 P2 St1 St2 (i + 1) (Ts ++ [(h.objs.size, x1, x2)]) c' := fun x1 x2 h' p1 p2 hz hTO q1 q2 hT hsz hk => by
      have hS := hk _ _ hB.Sz hB.ST n1' n2' L.lst
      have up : ∀ {b o}, b ≠ S → h'.get? b = some o → (h'.update S (Obj.mapSeq (·.push (.ref h.objs.size)))).get? b = some o := fun hb e => (Heap.get?_update_other _ _ (Ne.symm hb)).trans e
      have gB : ∀ {b c : Nat}, B ≤ b → c < B → b ≠ c := fun h1 h2 e => by rw [e] at h1; exact absurd h2 (Nat.not_lt.mpr h1)
      have hS2 := Heap.get?_update_self (Obj.mapSeq (·.push (Value.ref h.objs.size))) hS rfl
      obtain ⟨c', hc'⟩ : ∃ c', (h'.update S (Obj.mapSeq (·.push (.ref h.objs.size)))).get? S = some (lstO (Ts ++ [(h.objs.size, x1, x2)]) c') := ⟨_, by
        rw [hS2]
        show some (Obj.mk _ _ (.seq ((Ts.map fun t => Value.ref t.1).toArray.push (.ref h.objs.size)) _) _) = _
        rw [lstO, List.map_append, show (Ts.map fun t => Value.ref t.1).toArray.push (.ref h.objs.size) = ((Ts.map fun t => Value.ref t.1) ++ [(h.objs.size, x1, x2)].map fun t => Value.ref t.1).toArray by simp]⟩
      refine ⟨hS, c', ⟨fun b o e => ?_, .inr ?_, ?_, ?_, ?_, ?_, ?_, ?_, fun t ht => ?_, ?_, ?_, snoc_at L.len L.at_ ⟨p1, p2⟩⟩⟩
      · obtain ⟨a, b', c', d, e'⟩ := hB.n0 b o e
        exact up e' (hk b o a b' c' d (L.keep b o e))
      · obtain ⟨T, f, oT, hz, hT, hBT⟩ := hz
        exact ⟨T, f, oT, up (Ne.symm hB.Sz) hz, up (gB hBT hB.bS) hT, hBT⟩
      · exact up (Ne.symm hB.STI) (hk _ _ sep.TIz sep.TITO sep.TIi1 sep.TIi2 L.tI)
      · obtain ⟨a1, a2, hTO⟩ := hTO
        exact ⟨a1, a2, up (Ne.symm hB.ST) hTO⟩
      · exact D1.frame _ _ _ q1 fun b hb o e => up (fun q => hB.S1 (q ▸ hb)) e
      · exact D2.frame _ _ _ q2 fun b hb o e => up (fun q => hB.S2 (q ▸ hb)) e
      · exact hc'
      · rw [Heap.size_update, hsz]; exact Nat.le_succ_of_le L.sz
      · rcases List.mem_append.mp ht with ht | ht
        · obtain ⟨a, b⟩ := L.tup t ht
          exact ⟨up (gB b hB.bS) (hk _ _ (gB b hB.bz) (gB b hB.bTO) (gB b hB.b1) (gB b hB.b2) a), b⟩
        · rw [List.mem_singleton.mp ht]
          exact ⟨up (gB L.sz hB.bS) hT, L.sz⟩
      · rw [List.map_append]
        refine List.nodup_append.mpr ⟨L.nd, by simp, fun a ha b hb => ?_⟩
        rw [List.mem_singleton.mp hb]
        obtain ⟨t, ht, rfl⟩ := List.mem_map.mp ha
        exact Nat.ne_of_lt (Heap.lt_size (L.tup t ht).1)
      · rw [List.length_append, L.len]; rfl
    have push : ∀ (h' : Heap) tk', h'.get? S = some (lstO Ts c) → (∃ x1 x2 c', ZL h0 (h'.update S (Obj.mapSeq (·.push (.ref h.objs.size)))) B S z TI TO i1 i2 P1 P2 St1 St2 (i + 1) (Ts ++ [(h.objs.size, x1, x2)]) c') →
        wpAny (model P w) A.in1 (updateSeq S (·.push (.ref h.objs.size))) (fun _ s' => codeAny (model P w) A (.builtin "list.extend.loop" ⟨[.ref S, .ref z, res], []⟩) R s') (fun _ _ => False) { sc with heap := h', toks := tk' } := fun h' tk' hS ⟨x1, x2, c', L'⟩ => by
      refine wpAny_updateSeq (s := { sc with heap := h', toks := tk' }) hS rfl ?_ (by show (Ts.map fun t => Value.ref t.1).toArray.size ≤ sizeLine; rw [List.size_toArray, List.length_map]; exact Nat.le_of_lt hlen) (by show ((Ts.map fun t => Value.ref t.1).toArray.push _).size ≤ sizeLine + 1; rw [Array.size_push, List.size_toArray, List.length_map]; omega)
      exact ih (i + 1) _ tk' _ _ (by omega) (by omega) (by omega) L'
    obtain ⟨a1, a2, hTO⟩ := L.tO
    rcases L.zip with hz | ⟨T, f, oT, hz, hT, hBT⟩
    · refine wpAny_bind (wpAny_pyNext_zipD2_item (s := { sc with heap := h, toks := tk }) sep D1 D2 hz L.tI hTO L.s1 L.s2 hi1 hi2 fun x1 x2 h' tk' p1 p2 hz' hTO' q1 q2 hT' hsz hk => ?_)
      obtain ⟨hS, c', L'⟩ := next x1 x2 h' p1 p2 ⟨h.objs.size, false, _, hz', hT', L.sz⟩ ⟨_, _, hTO'⟩ q1 q2 hT' hsz hk
      show wpAny _ A.in1 (updateSeq S (·.push (.ref h.objs.size)) >>= _) _ _ _
      refine wpAny_bind (wpAny_mono (push h' tk' hS ⟨x1, x2, c', L'⟩) (fun _ s' q => wpAny_pure ⟨plainId_quiet F.plain_extend_loop _, q⟩) fun _ _ q => q.elim)
    · refine wpAny_bind (wpAny_pyNext_zipD2_item_held (s := { sc with heap := h, toks := tk }) sep D1 D2 hz hT L.tI L.s1 L.s2 hi1 hi2 fun x1 x2 h' tk' p1 p2 hz' q1 q2 hT' hsz hk => ?_)
      have hk' : ∀ c o, c ≠ z → c ≠ TO → c ≠ i1 → c ≠ i2 → h.get? c = some o → h'.get? c = some o := fun c o x _ y u => hk c o x y u
      have gB : ∀ {b c : Nat}, B ≤ b → c < B → b ≠ c := fun h1 h2 e => by rw [e] at h1; exact absurd h2 (Nat.not_lt.mpr h1)
      obtain ⟨hS, c', L'⟩ := next x1 x2 h' p1 p2 ⟨T, true, oT, hz', hk _ _ (gB hBT hB.bz) (gB hBT hB.b1) (gB hBT hB.b2) hT, hBT⟩ ⟨a1, a2, hk _ _ sep.TOz sep.Ti1 sep.Ti2 hTO⟩ q1 q2 hT' hsz hk'
      show wpAny _ A.in1 (updateSeq S (·.push (.ref h.objs.size)) >>= _) _ _ _
      refine wpAny_bind (wpAny_mono (push h' tk' hS ⟨x1, x2, c', L'⟩) (fun _ s' q => wpAny_pure ⟨plainId_quiet F.plain_extend_loop _, q⟩) fun _ _ q => q.elim)
end
end U
namespace U
open PySem PySem.Spec PyProof.Rows L2
theorem call_list_zip {P : Program} {w : World} {A : Around} {s : Shared} {h0 : Heap} {z TI TO i1 i2 : Addr} {fp1 fp2 : List Addr} {n1 n2 : Nat} {P1 P2 : Nat → Value → Prop} {St1 St2 : Nat → Heap → Prop} {Q' : Value → Shared → Prop} {E : Value → Shared → Prop}
    (sep : ZipSep2 z TI TO i1 i2 fp1 fp2) (D1 : Draws P w A.in1.in1.in1 i1 fp1 n1 P1 St1) (D2 : Draws P w A.in1.in1.in1 i2 fp2 n2 P2 St2) (hm : n1 ≤ 1000 ∨ n2 ≤ 1000)
    (hz : IsZip s.heap z TI TO .none) (hTI : IsTupOf2 s.heap TI (.ref i1) (.ref i2)) {a1 a2 : Value} (hTO : IsTupOf2 s.heap TO a1 a2) (s1 : St1 0 s.heap) (s2 : St2 0 s.heap)
    (hk0 : ∀ b o, h0.get? b = some o → s.heap.get? b = some o ∧ b ≠ z ∧ b ≠ TO ∧ b ≠ i1 ∧ b ≠ i2) (f1 : ∀ b ∈ fp1, b < s.heap.objs.size) (f2 : ∀ b ∈ fp2, b < s.heap.objs.size)
    (hQ : ∀ h tk Ts c, Ts.length = min n1 n2 → (∀ b o, h0.get? b = some o → h.get? b = some o) → h.get? s.heap.objs.size = some (lstO Ts c) → (∀ t ∈ Ts, h.get? t.1 = some (tupO t.2.1 t.2.2) ∧ s.heap.objs.size + 1 ≤ t.1) → (Ts.map (·.1)).Nodup →
      (∀ j t, Ts[j]? = some t → P1 j t.2.1 ∧ P2 j t.2.2) → Q' (.ref s.heap.objs.size) { s with heap := h, toks := tk }) :
    wpAny (model P w) A (PySem.call (.type "list") [.ref z]) Q' E s := by
  have hzl : z < s.heap.objs.size := Heap.lt_size hz
  have hSa : s.heap.objs.size ≠ z := Nat.ne_of_gt hzl
  refine callType_codes (Q₁ := fun obj s₁ => obj = .ref s.heap.objs.size ∧ s₁ = { s with heap := s.heap.push { cls := .type "list", data := .seq #[] } }) F.called_list (F.typeCall_list_1 _) F.entry_list_init
    (code_list_new _ ⟨rfl, rfl⟩) fun obj s₁ h₁ => ?_
  obtain ⟨rfl, rfl⟩ := h₁
  have hS : (s.heap.push { cls := .type "list", data := .seq #[] }).get? s.heap.objs.size = some { cls := .type "list", data := .seq #[] } := Heap.get?_push_size _ rfl
  refine ⟨⟨_, hS, rfl⟩, F.args_list_init_2 _ _, ?_⟩
  show wpAny _ A.in1.in1 (do let old ← Builtin.List.listItems (.ref s.heap.objs.size); Builtin.List.listUpdate (.ref s.heap.objs.size) (fun _ => #[]); letGo old.toList.reverse; Builtin.List.listExtendWith (.ref s.heap.objs.size) (.ref z) .none) _ _ _
  refine wpAny_bind ?_
  unfold Builtin.List.listItems
  refine wpAny_bind (wpAny_seqItems hS rfl (wpAny_pure ?_))
  show wpAny _ A.in1.in1 (updateSeq s.heap.objs.size (fun _ => #[]) >>= fun _ => letGo (#[] : Array Value).toList.reverse >>= fun _ => Builtin.List.listExtendWith (.ref s.heap.objs.size) (.ref z) .none) _ _ _
  refine wpAny_bind (wpAny_updateSeq hS rfl ?_)
  have hS2 := Heap.get?_update_self (Obj.mapSeq (fun _ => (#[] : Array Value))) hS rfl
  refine wpAny_bind (wpAny_letGo ?_)
  unfold Builtin.List.listExtendWith
  have up : ∀ (h : Heap) (f : Obj → Obj), (∀ b o, s.heap.get? b = some o → h.get? b = some o) → ∀ b o, s.heap.get? b = some o → (h.update s.heap.objs.size f).get? b = some o := fun h f q b o e =>
    (Heap.get?_update_other _ _ (Ne.symm (Nat.ne_of_lt (Heap.lt_size e)))).trans (q b o e)
  have k1 : ∀ b o, s.heap.get? b = some o → (s.heap.push { cls := .type "list", data := .seq #[] }).get? b = some o := fun b o e => Heap.get?_push_of_some _ e
  have k2 := up _ (Obj.mapSeq (fun _ => (#[] : Array Value))) k1
  have gty : ∀ {h : Heap}, (∀ b o, s.heap.get? b = some o → h.get? b = some o) → Shared.TypeIs { s with heap := h } (.ref z) "zip" := fun {h} q => ⟨_, q _ _ hz, rfl⟩
  refine wpAny_bind (wpAny_typeOf (gty k2) ?_)
  have e1 : Builtin.List.listSameRef (.ref s.heap.objs.size) (.ref z) = false := by simp [Builtin.List.listSameRef, hSa]
  have e2 : (Value.type "zip" == Value.type "list") = false := by decide
  have e3 : (Value.type "zip" == Value.type "tuple") = false := by decide
  simp only [e1, e2, e3, Bool.or_false, Bool.false_eq_true, if_false]
  refine wpAny_bind (wpAny_pyIter_zip (k2 _ _ hz) ?_)
  refine wpAny_bind (wpAny_holding ?_)
  unfold Builtin.List.listLengthHint
  refine wpAny_bind (wpAny_specialOf (gty k2) zip_no_len ?_)
  show wpAny _ A.in1.in1 (specialOf (Value.ref z) (Str.ofString "__length_hint__") >>= _) _ _ _
  refine wpAny_bind (wpAny_specialOf (gty k2) zip_no_hint ?_)
  refine wpAny_pure ?_
  show wpAny _ A.in1.in1 (rule "list.extend.makes-room" >>= fun _ => Builtin.List.listTouch (.ref s.heap.objs.size) >>= fun _ =>
    again (.builtin "list.extend.loop" ⟨[.ref s.heap.objs.size, .ref z, .none], []⟩)) _ _ _
  refine wpAny_bind (wpAny_rule ?_)
  refine wpAny_bind ?_
  show wpAny _ A.in1.in1 (updateSeq s.heap.objs.size (·.push .none) >>= fun _ => updateSeq s.heap.objs.size (·.pop)) _ _ _
  refine wpAny_bind (wpAny_updateSeq hS2 rfl ?_)
  have hS3 := Heap.get?_update_self (Obj.mapSeq (·.push Value.none)) hS2 rfl
  refine wpAny_updateSeq (hz := by seq_fits) hS3 rfl ?_
  have hS4 := Heap.get?_update_self (Obj.mapSeq (·.pop)) hS3 rfl
  have k4 := up _ (Obj.mapSeq (·.pop)) (up _ (Obj.mapSeq (·.push Value.none)) k2)
  refine wpAny_pure ⟨plainId_quiet F.plain_extend_loop _, ?_⟩
  have lt : ∀ {b o}, s.heap.get? b = some o → b < s.heap.objs.size + 1 := fun e => Nat.lt_succ_of_lt (Heap.lt_size e)
  obtain ⟨o1, ho1⟩ := D1.live _ _ s1
  obtain ⟨o2, ho2⟩ := D2.live _ _ s2
  refine zip_drain (A := A.in1) (h0 := h0) (B := s.heap.objs.size + 1) (sc := s) (S := s.heap.objs.size) sep D1 D2 ⟨lt hz, lt hTI, lt hTO, lt ho1, lt ho2, Nat.lt_succ_self _, fun b o e => ?_, hSa, Nat.ne_of_gt (Heap.lt_size hTO), Nat.ne_of_gt (Heap.lt_size hTI), fun h => Nat.lt_irrefl _ (f1 _ h), fun h => Nat.lt_irrefl _ (f2 _ h)⟩ hm
    (fun h tk Ts c q1 q2 q3 q4 q5 q6 => ⟨rfl, hQ h tk Ts c q1 q2 q3 q4 q5 q6⟩) _ 0 _ _ [] _ rfl (Nat.zero_le _) (Nat.zero_le _) ⟨fun b o e => k4 b o (hk0 b o e).1, .inl (k4 _ _ hz), k4 _ _ hTI, ⟨_, _, k4 _ _ hTO⟩, D1.frame _ _ _ s1 fun b _ o e => k4 b o e, D2.frame _ _ _ s2 fun b _ o e => k4 b o e, hS4, ?_, (fun t h => nomatch h), List.nodup_nil, rfl, (fun j t e => by simp at e)⟩
  · obtain ⟨h1, h2, h3, h4, h5⟩ := hk0 b o e
    exact ⟨h2, h3, h4, h5, Nat.ne_of_lt (Heap.lt_size h1)⟩
  · simp only [Heap.size_update, Heap.size_push]
    exact Nat.le_refl _
inductive LayP : Hp → List (V × V) → Hp → List V → Prop
  | nil {H : Hp} : LayP H [] H []
  | cons {H H' : Hp} {T : Addr} {o : Obj} {x y : V} {ps : List (V × V)} {vs : List V} (h : H T = none) (ho : o.dict = none) (k : LayP (upd H T (.frz o (.tup [x, y]))) ps H' vs) : LayP H ((x, y) :: ps) H' (.ref T :: vs)
inductive M2 : TsT → List (V × V) → Prop
  | nil : M2 [] []
  | cons {t : Addr × Value × Value} {Ts : TsT} {x y : V} {ps : List (V × V)} (h : RelV x t.2.1) (h2 : RelV y t.2.2) (k : M2 Ts ps) : M2 (t :: Ts) ((x, y) :: ps)
theorem m2_zip : ∀ {Ts : TsT} {xs ys : List V}, Ts.length = min xs.length ys.length → (∀ (j : Nat) (t : Addr × Value × Value), Ts[j]? = some t → (∃ x, xs[j]? = some x ∧ RelV x t.2.1) ∧ ∃ y, ys[j]? = some y ∧ RelV y t.2.2) → M2 Ts (xs.zip ys)
  | [], [], _, _, _ => .nil
  | [], _ :: _, [], _, _ => .nil
  | [], x :: xs, y :: ys, h, _ => by simp at h
  | t :: Ts, [], _, h, _ => by simp at h
  | t :: Ts, _ :: _, [], h, _ => by simp at h
  | t :: Ts, x :: xs, y :: ys, h, q => by
    obtain ⟨⟨x', e1, r1⟩, y', e2, r2⟩ := q 0 t rfl
    cases e1
    cases e2
    refine .cons r1 r2 (m2_zip (by simp at h; omega) fun j t e => ?_)
    obtain ⟨⟨x'', e3, r3⟩, y'', e4, r4⟩ := q (j + 1) t (by simpa using e)
    exact ⟨⟨x'', by simpa using e3, r3⟩, y'', by simpa using e4, r4⟩
theorem lay_ts {P : Program} {w : World} {h : Heap} : ∀ {Ts : TsT} {ps : List (V × V)} {H : Hp}, M2 Ts ps → HOk P w H h → (Ts.map (·.1)).Nodup → (∀ t ∈ Ts, H t.1 = none ∧ h.get? t.1 = some (tupO t.2.1 t.2.2)) →
    ∃ H' vs, LayP H ps H' vs ∧ HOk P w H' h ∧ Vals vs (Ts.map fun t => Value.ref t.1) ∧ (∀ b u, H b = some u → H' b = some u) ∧ ∀ b, (∀ t ∈ Ts, t.1 ≠ b) → H' b = H b
  | _, _, H, .nil, ok, _, _ => ⟨H, [], .nil, ok, .nil, fun _ _ q => q, fun _ _ => rfl⟩
  | _, _, H, .cons (t := t) (Ts := Ts) (x := x) (y := y) r1 r2 k, ok, nd, hh => by
    rw [List.map_cons, List.nodup_cons] at nd
    obtain ⟨hn, hg⟩ := hh t List.mem_cons_self
    have ok' : HOk P w (upd H t.1 (.frz (tupO t.2.1 t.2.2) (.tup [x, y]))) h := ok.laidN (fun _ _ q => q) hn ⟨hg, by show 2 ≤ sizeLine; decide, [t.2.1, t.2.2], .cons r1 (.cons r2 .nil), ⟨_, hg, rfl, _, rfl⟩⟩
    have hne : ∀ u ∈ Ts, u.1 ≠ t.1 := fun u hu e => nd.1 (by rw [← e]; exact List.mem_map_of_mem hu)
    obtain ⟨H', vs, l, ok2, rv, up, oth⟩ := lay_ts k ok' nd.2 fun u hu => ⟨by rw [upd_ne (hne u hu)]; exact (hh u (List.mem_cons_of_mem _ hu)).1, (hh u (List.mem_cons_of_mem _ hu)).2⟩
    refine ⟨H', .ref t.1 :: vs, .cons hn rfl l, ok2, .cons rfl rv, fun b u q => up b u ?_, fun b hb => ?_⟩
    · rw [upd_ne (ne_of_none q hn)]; exact q
    · rw [oth b fun u hu => hb u (List.mem_cons_of_mem _ hu), upd_ne (Ne.symm (hb t List.mem_cons_self))]
section
variable {X : Cx} {e1 e2 : Expr} {ta : TA} {fs : DTA} {p p2 pos pos2 : Pos}
def tListZip (K : PySem.W.Frag) (ta : TA) : TE := fun σ H Q => ta σ H fun vs H1 => ∃ (r1 r2 : Src) (xs ys : List V), vs = [r1.v, r2.v] ∧ r1.At K H1 xs ∧ r2.At K H1 ys ∧ (xs.length ≤ 1000 ∨ ys.length ≤ 1000) ∧ ∀ H2 us S, LayP H1 (xs.zip ys) H2 us → H2 S = none → Q (.ref S) (upd H2 S (.lst us))
theorem pe_listZip (hc : X.calm = true) (ha : PA X [e1, e2] ta) (hl : X.mg "list" = none) (hgl : Gl X "list") (hz : X.mg "zip" = none) (hgz : Gl X "zip")
    (hs : starEach [e1, e2] X.env = (false, eval e1 X.env) :: starEach [e2] X.env := by rfl) (hpl : (backTo pos2 (starEach [e2] X.env)).any (·.1) = false := by rfl)
    (hs1 : starEach [.Call (.Name "zip" p2) [e1, e2] [] pos2] X.env = (false, eval (.Call (.Name "zip" p2) [e1, e2] [] pos2) X.env) :: starEach [] X.env := by rfl) :
    PE X (.Call (.Name "list" p) [.Call (.Name "zip" p2) [e1, e2] [] pos2] [] pos) (tListZip X.K ta) := by
  refine ⟨fun pins s σ H Q I h => ?_⟩
  refine wpAny_Call_Name_kw (ld_blt I hgl hl b_list ?_)
  refine PyProof.Rows.callWith_type1 ?_ hs1 rfl
  rw [hs1]
  show wpAny _ _ (spliced ((false, eval (.Call (.Name "zip" p2) [e1, e2] [] pos2) X.env) :: backTo pos (starEach [] X.env))) _ _ s
  refine Calls.spliced_cons ?_
  refine wpAny_Call_Name_kw (ld_blt I hgz hz PyProof.Rows.boot_zip (PyProof.Rows.callWith_type1 (thn (ha.run pos2 pins s σ H _ I h) fun us s1 ⟨vs, H1, I1, r1, g1, g2, xs, ys, ex, hx, hy, hsz, q⟩ => ?_) hs hpl))
  subst ex
  cases r1 with
  | cons r rr =>
    cases rr with
    | cons r' rr =>
      cases rr
      obtain ⟨o1, H1c, B1, c1, gi1, b1⟩ := Src.begins I1 hx r
      obtain ⟨o2, H2c, B2, c2, gi2, b2⟩ := Src.begins I1 hy r'
      refine PySem.zip_begins2 B1 B2 c1 c2 fun h' hz' hTI hTO e1' e2' hsz' hk => ?_
      refine Calls.spliced_nil ?_
      have I2 : Inv X pins σ H1 { s1 with heap := h' } := I1.kept (t' := s1.toks) hk
      obtain ⟨f1, P1, S1, D1, st1, t1, bb1⟩ := Src.drawsA (A := X.A.in1.in1.in1) I2 (I1.ok.hd hc) hx (gi1 _ _ e1') (fun b e => Nat.ne_of_lt (b1 b e))
      obtain ⟨f2, P2, S2, D2, st2, t2, bb2⟩ := Src.drawsA (A := X.A.in1.in1.in1) I2 (I1.ok.hd hc) hy (gi2 _ _ e2') (fun b e => Nat.ne_of_lt (Nat.lt_succ_of_lt (b2 b e)))
      have sep := zip_sep2 (N := s1.heap.objs.size) (fp1 := f1) (fp2 := f2) (fun b hb => b1 b (bb1 b hb)) (fun b hb => b2 b (bb2 b hb))
      have low : ∀ (b k : Nat), b < s1.heap.objs.size → b ≠ s1.heap.objs.size + k := fun b k h => by omega
      have hsz5 : h'.objs.size = s1.heap.objs.size + 5 := hsz'
      have l5 : ∀ (b k : Nat), b < s1.heap.objs.size → b < s1.heap.objs.size + 5 := fun b k h => by omega
      refine call_list_zip (s := { s1 with heap := h' }) (h0 := s1.heap) sep D1 D2 hsz hz' hTI hTO st1 st2 (fun b o e => ⟨hk _ _ e, low b 4 (Heap.lt_size e), low b 3 (Heap.lt_size e), low b 0 (Heap.lt_size e), low b 1 (Heap.lt_size e)⟩) (fun b hb => ?_) (fun b hb => ?_) fun h2 tk Ts c k1 k2 k3 k4 k5 k6 => ?_
      · show b < h'.objs.size
        rw [hsz5]
        rcases List.mem_cons.mp hb with e | hb
        · rw [e]; exact Nat.lt_add_of_pos_right (by decide)
        · exact Nat.lt_add_right _ (b1 b (bb1 b hb))
      · show b < h'.objs.size
        rw [hsz5]
        rcases List.mem_cons.mp hb with e | hb
        · rw [e]; exact Nat.add_lt_add_left (by decide) _
        · exact Nat.lt_add_right _ (b2 b (bb2 b hb))
      have k3 : h2.get? h'.objs.size = some (lstO Ts c) := k3
      have k4 : ∀ t ∈ Ts, h2.get? t.1 = some (tupO t.2.1 t.2.2) ∧ h'.objs.size + 1 ≤ t.1 := k4
      rw [hsz5] at k3 k4
      show ∃ v H', Inv X pins σ H' _ ∧ RelV v (.ref h'.objs.size) ∧ Q v H'
      rw [hsz5]
      have nH : ∀ b : Nat, s1.heap.objs.size ≤ b → H1 b = none := fun b hb => I1.hok.fresh hb
      have ok2 : HOk X.prog X.w H1 h2 := I1.hok.kept k2
      obtain ⟨H2, vs, l, ok3, rv, up, oth⟩ := lay_ts (m2_zip k1 fun j t e => ⟨t1 _ _ (k6 j t e).1, t2 _ _ (k6 j t e).2⟩) ok2 k5 fun t ht => ⟨nH _ (by have := (k4 t ht).2; exact Nat.le_trans (Nat.le_add_right _ 6) this), (k4 t ht).1⟩
      have nS : H2 (s1.heap.objs.size + 5) = none := by
        rw [oth _ fun t ht e => by have h := (k4 t ht).2; rw [e] at h; exact Nat.lt_irrefl _ h]
        exact nH _ (Nat.le_add_right _ _)
      have hl : vs.length ≤ sizeLine := by
        rw [rv.length, List.length_map, k1, sizeLine_eq]; omega
      have I3 : Inv X pins σ (upd H2 (s1.heap.objs.size + 5) (.lst vs)) { s1 with heap := h2, toks := tk } := by
        have bl : ∀ b o, s1.heap.get? b = some o → H1 b = none → H2 b = none := fun b o e n => by
          rw [oth b fun t ht e' => by have h := (k4 t ht).2; rw [e'] at h; exact absurd (Heap.lt_size e) (Nat.not_lt.mpr (Nat.le_trans (Nat.le_add_right _ 6) h))]
          exact n
        refine I1.call' (s' := { s1 with heap := h2, toks := tk }) (ch := []) rfl ⟨fun b o e _ _ _ => k2 b o e, fun b o e _ _ _ => ⟨o.slots, k2 b o e⟩, fun b o e n _ => ?_, fun b o e _ => ⟨o, k2 b o e⟩, fun b xs e => ?_, fun b o u e => ?_, fun b qs e => ⟨#[], ?_⟩⟩ ?_ I1.bare fun b hb => nomatch hb
        · rw [upd_ne (low b 5 (Heap.lt_size e))]; exact bl b o e n
        · have q2 := up b _ e
          rw [upd_ne (ne_of_none q2 nS)]; exact q2
        · have q2 := up b _ e
          rw [upd_ne (ne_of_none q2 nS)]; exact q2
        · have q2 := up b _ e
          rw [upd_ne (ne_of_none q2 nS), q2]; simp
        · exact ok3.laidN (fun _ _ q => q) nS ⟨hl, _, c, rv, k3⟩
      exact ⟨.ref _, _, I3, rfl, q _ _ _ l nS⟩
theorem lay_grow {K : PySem.W.Frag} {F : Addr → Prop} {M : Mm} {H' : Hp} : ∀ {vs1 vs2 : List V} {ds es : List Da} {W : Addr → Prop} {H : Hp} {vs : List V}, Stt K F W M H → RDs K W H vs1 ds → RDs K W H vs2 es → LayP H (vs1.zip vs2) H' vs → ∃ W', Grow F W H W' H' ∧ Stt K F W' M H' ∧ RDs K W' H' vs (zipD ds es)
  | _, _, _, _, W, H, _, s, .nil, _, l => by
    cases l
    exact ⟨W, .refl, s, .nil⟩
  | _, _, _, _, W, H, _, s, .cons _ _, .nil, l => by
    cases l
    exact ⟨W, .refl, s, .nil⟩
  | _, _, _, _, W, H, _, s, .cons r1 k1, .cons r2 k2, l => by
    cases l with
    | cons h ho l =>
      obtain ⟨W1, g1, s1, rt⟩ := grow_frz s h ho (.cons r1 (.cons r2 .nil))
      obtain ⟨W2, g2, s2, rs⟩ := lay_grow s1 (k1.mono g1) (k2.mono g1) l
      exact ⟨W2, g1.trans g2, s2, .cons (rt.mono g2) rs⟩
def gListZip (fs : DTA) : DTE := fun δ M Q => fs δ M fun ds M1 => match ds with
  | [x, y] => rowK x M1 fun xs M2 => rowK y M2 fun ys M3 => (xs.length ≤ 1000 ∨ ys.length ≤ 1000) ∧ Q (.lst (zipD xs ys)) M3
  | _ => False
theorem d_listZip (hc : X.calm = true) (ha : DA X [e1, e2] fs) (hl : X.mg "list" = none) (hz : X.mg "zip" = none) (hgl : Gl X "list" := by rfl) (hgz : Gl X "zip" := by rfl)
    (hs : starEach [e1, e2] X.env = (false, eval e1 X.env) :: starEach [e2] X.env := by rfl) (hpl : (backTo pos2 (starEach [e2] X.env)).any (·.1) = false := by rfl)
    (hs1 : starEach [.Call (.Name "zip" p2) [e1, e2] [] pos2] X.env = (false, eval (.Call (.Name "zip" p2) [e1, e2] [] pos2) X.env) :: starEach [] X.env := by rfl) :
    DE X (.Call (.Name "list" p) [.Call (.Name "zip" p2) [e1, e2] [] pos2] [] pos) (gListZip fs) :=
  imp (pe_listZip hc ha hl hgl hz hgz hs hpl hs1) fun σ H Q ⟨δ, F, W, M, Qd, ev, s, h, k⟩ => ⟨δ, F, W, M, _, ev, s, h, fun vs H1 W1 ds M1 g1 s1 r1 q1 => by
    split at q1
    · obtain ⟨v, u, rfl, r, r'⟩ := r1.two
      obtain ⟨W2, M2, r1', xs, e1, g2, s2, d1, q2⟩ := row_src s1 r q1
      obtain ⟨W3, M3, r2', ys, e2, g3, s3, d2, q3⟩ := row_src s2 (r'.mono g2) q2
      obtain ⟨vs1, at1, k1⟩ := (d1.mono g3).at
      obtain ⟨vs2, at2, k2⟩ := d2.at
      refine ⟨r1', r2', vs1, vs2, by rw [e1, e2], at1, at2, by rw [k1.length, k2.length]; exact q3.1, fun H2 us S l hS => ?_⟩
      obtain ⟨W4, g4, s4, rs⟩ := lay_grow s3 k1 k2 l
      obtain ⟨s5, g5⟩ := s4.new hS (.lst us)
      exact ((k.mono ((g1.trans g2).trans (g3.trans g4))).mono g5).now s5 (.lst (.inl ⟨.inl rfl, .inl upd_same⟩) (rs.mono g5)) q3.2
    · exact q1.elim⟩
end
end U
namespace U
open PySem PySem.Spec PyProof.Rows L2
structure HasDefD (K : PySem.W.Frag) (x : Str) (st : Stmt) (dvs : List V) : Prop where
  ex : ∃ f fd, FunD K x x (defArgs st) (defBody st) (defScope st) dvs [] f fd ∧ PySem.W.nsIn K mainGlobals x = some (some (.ref f))
theorem hasd_mk {K : PySem.W.Frag} {x : Str} {f T : Addr} {v : V} {u : Value} {st : Stmt} {oc oT kV : Value} {od dT an : Option Addr} {osl sT : Array (Option Value)} {n : Nat} {doc pm cdv ct : Value} (a : PySem.W.nsIn K mainGlobals x = some (some (.ref f)))
    (l : K.lookup f = some ⟨oc, od, .func (PySem.W.fnOf x x (defArgs st) (defBody st) (defScope st) (.ref T) kV doc pm an cdv ct), osl⟩) (c : PySem.W.codeIn K cdv x = true) (k : PySem.W.keepIn K (.ref f) = true)
    (kd : K.lookup T = some ⟨oT, dT, .seq #[u] n, sT⟩) (ru : RelV v u) : HasDefD K x st [v] :=
  ⟨f, _, ⟨⟨oc, od, _, _, doc, pm, an, cdv, ct, osl, rfl, l, c, .inr ⟨by simp, T, _, [u], n, rfl, kd, rfl, .cons ru .nil⟩, .inl rfl⟩, k⟩, a⟩
structure KnDD (P : Program) (w : World) (K : PySem.W.Frag) (mg : Str → Option Value) (base : Heap) (x : Str) (k : Nat) (ps : List Str) (dvs : List V) (sp : DSp) : Prop where
  ex : ∃ f fd, FnOk P w K mg base CX0 k f fd ps (LSp K sp) ∧ mg x = some (.ref f) ∧ PySem.W.keepIn K (.ref f) = true ∧ ∃ ds, Vals dvs ds ∧ Binds K fd ps ds
theorem KnDD.of {P : Program} {w : World} {K : PySem.W.Frag} {mg : Str → Option Value} {base : Heap} {x : Str} {st : Stmt} {N ps : List Str} {k n : Nat} {dvs : List V} {sp : DSp} (F : HasDefD K x st dvs) (M : MgOf K mg) (S : FnScope N ps (defScope st)) (hd : dvs ≠ []) (hn : n + dvs.length = ps.length)
    (h1 : ∀ (T : Addr) (kV doc pm : Value) (an : Option Addr) (cdv ct : Value) (us its : List Value), us.length = n → its.length = dvs.length →
      ∃ k, bindArgs (PySem.W.fnOf x x (defArgs st) (defBody st) (defScope st) (.ref T) kV doc pm an cdv ct) ⟨us, []⟩ = seqItems? (.ref T) >>= k ∧ k (some its.toArray) = pure (ps.zip (us ++ its)))
    (len : ∀ ds M Q E, sp ds M Q E → ds.length = ps.length)
    (hbody : ∀ (f : Addr) (cdv : Value) (A : Around) (outer : List Env) (s : Shared) (H : Hp) (E : XK), Room k (A.deeper (envOfC x (defScope st) s.heap.objs.size f cdv)) →
      ∃ t, DB (cxOf CX0 P w K mg base N x (defScope st) f cdv A outer s H E).nox (defBody st) t ∧ ∀ ds M Q Ed, sp ds M Q Ed → t (bodyE Q) (startD N ds) M) : KnDD P w K mg base x (k + 1) ps dvs sp := by
  obtain ⟨f, fd, F, e⟩ := F.ex
  have hb := F.binds1 (ps := ps) n 0 hd (by simpa using hn) fun T kV doc pm an cdv ct us its l1 l2 => by
    obtain ⟨k, a, b⟩ := h1 T kV doc pm an cdv ct us its l1 l2
    exact ⟨k, a, by rw [List.drop_zero]; exact b⟩
  rw [List.drop_zero] at hb
  exact ⟨f, fd, F.ok S (lsp_len len) (fun cdv A outer s H vs Q E hr ⟨F, W, M, ds, Qd, Ed, r, st, h, kk, kx⟩ => by
    obtain ⟨t, d, q⟩ := hbody f cdv A outer s H E hr
    exact ⟨_, PSs.nox d, ls_body r st kk (q ds M Qd Ed h)⟩), M.of _ _ e, F.kp, hb⟩
section
variable {X : Cx} {k : Nat} {ps : List Str} {sp : DSp} {x : Str} {p pos : Pos} {e : Expr} {es : List Expr} {fs : DTA} {dvs : List V} {dfl : List Da}
theorem d_callDD (D : KnDD X.prog X.w X.K X.mg X.base x k ps dvs sp) (hd : ∀ W H, RDs X.K W H dvs dfl) (hr : Room k X.A) (ha : DA X (e :: es) fs) (hg : Gl X x := by rfl) (hdb : (x == ("__debug__" : Str)) = false := by decide)
    (he : starEach (e :: es) X.env = (false, eval e X.env) :: starEach es X.env := by rfl) (hpl : (backTo pos (starEach es X.env)).any (·.1) = false := by rfl) : DE X (.Call (.Name x p) (e :: es) [] pos) (gCallD sp dfl fs) := by
  obtain ⟨f, fd, F, m, kp, us, hu, b⟩ := D.ex
  refine imp (pe_call F hr hg m kp b hu pass0 ha hdb he hpl) fun σ H Q ⟨δ, F, W, M, Qd, ev, s, h, kk⟩ => ⟨δ, F, W, M, _, ev, s, h, fun vs H1 W1 ds M1 g1 s1 r1 q1 => ?_⟩
  exact ⟨F, W1, M1, ds ++ dfl, Qd, X0, r1.append (hd _ _), s1, q1, kk.mono g1, fun _ _ _ _ _ _ _ _ _ z => z.elim⟩
end
end U
set_option Elab.async false
set_option linter.all false
set_option maxRecDepth 100000
set_option maxHeartbeats 4000000




namespace K28
open PySem PySem.Spec PyProof.Rows L2 U
def top (i : Nat) : Stmt := PySem.Challenge.pw_blockshanded_k28_contexts_judged.main.body.getD i (.Pass ⟨0, 0, 0, 0⟩)
abbrev s_is_integer : Stmt := top 4
abbrev s_is_from : Stmt := top 5
abbrev s_is_name : Stmt := top 6
abbrev s_has_word : Stmt := top 23
abbrev s_is_deed_table : Stmt := top 24
abbrev s_is_kind : Stmt := top 25
abbrev s_is_term_in : Stmt := top 26
abbrev s_is_wrap_in : Stmt := top 27
abbrev s_is_piece : Stmt := top 28
abbrev s_are_given : Stmt := top 29
abbrev s_inside : Stmt := top 30
abbrev s_pieces_of : Stmt := top 31
abbrev s_are_parameters : Stmt := top 32
abbrev s_is_body : Stmt := top 33
abbrev s_Procedure___init__ : Stmt := inClass (top 34) 0
abbrev s_Procedure___len__ : Stmt := inClass (top 34) 7
abbrev s_Procedure___eq__ : Stmt := inClass (top 34) 8
abbrev s_Procedure___str__ : Stmt := inClass (top 34) 9
abbrev s_kind_of : Stmt := top 38
abbrev s_are_fit : Stmt := top 39
abbrev s_Program___init__ : Stmt := inClass (top 40) 0
abbrev s_Program_of : Stmt := inClass (top 40) 1
abbrev s_Program_has_name : Stmt := inClass (top 40) 7
abbrev s_Program___getitem__ : Stmt := inClass (top 40) 10
abbrev s_Program___contains__ : Stmt := inClass (top 40) 11
abbrev s_Program___len__ : Stmt := inClass (top 40) 13
abbrev s_Program___str__ : Stmt := inClass (top 40) 15
abbrev s_require_program : Stmt := top 42
abbrev s_Space___init__ : Stmt := inClass (top 44) 0
abbrev s_Space_is_relation : Stmt := inClass (top 44) 8
abbrev s_Space_is_table : Stmt := inClass (top 44) 18
abbrev s_Reckoner___init__ : Stmt := inClass (top 46) 0
abbrev s_Reckoner_is_meaning : Stmt := inClass (top 46) 9
abbrev s_Reckoner_is_context : Stmt := inClass (top 46) 10
abbrev s_require_word : Stmt := top 47
abbrev s_reckoner_of : Stmt := top 48
abbrev s_is_context : Stmt := top 49
abbrev s__law_sack : Stmt := top 51
abbrev s__law_deal : Stmt := top 52
abbrev s__law_pick : Stmt := top 53
abbrev s__law_deed : Stmt := top 54
abbrev s__law_handed : Stmt := top 55
abbrev s__law_call : Stmt := top 56
abbrev s__law_term : Stmt := top 57
abbrev s__law_wild : Stmt := top 58
abbrev s__law_framed : Stmt := top 59
abbrev s__law_plain : Stmt := top 60
abbrev s__law_made : Stmt := top 61
abbrev s__law_by_name : Stmt := top 62
abbrev s__law_powers : Stmt := top 63
abbrev s__law_space : Stmt := top 64
abbrev s__law_code : Stmt := top 65
abbrev s__law_is_relation : Stmt := top 66
abbrev s__law_is_meaning : Stmt := top 67
abbrev s__law_due : Stmt := top 68
abbrev s__law_values : Stmt := top 69
abbrev s__law_right : Stmt := top 70
abbrev s_law : Stmt := top 71
abbrev N_is_integer : List Str := ["value"]
theorem sc_is_integer : FnScope N_is_integer ["value"] (defScope s_is_integer) := ⟨rfl, rfl, rfl, by decide +kernel, rfl, by decide +kernel, by decide +kernel⟩
abbrev N_is_from : List Str := ["value", "first", "last"]
theorem sc_is_from : FnScope N_is_from ["value", "first", "last"] (defScope s_is_from) := ⟨rfl, rfl, rfl, by decide +kernel, rfl, by decide +kernel, by decide +kernel⟩
abbrev N_is_name : List Str := ["value", "letter"]
theorem sc_is_name : FnScope N_is_name ["value"] (defScope s_is_name) := ⟨rfl, rfl, rfl, by decide +kernel, rfl, by decide +kernel, by decide +kernel⟩
abbrev N_has_word : List Str := ["value", "words"]
theorem sc_has_word : FnScope N_has_word ["value", "words"] (defScope s_has_word) := ⟨rfl, rfl, rfl, by decide +kernel, rfl, by decide +kernel, by decide +kernel⟩
abbrev N_is_deed_table : List Str := ["value", "entry"]
theorem sc_is_deed_table : FnScope N_is_deed_table ["value"] (defScope s_is_deed_table) := ⟨rfl, rfl, rfl, by decide +kernel, rfl, by decide +kernel, by decide +kernel⟩
abbrev N_is_kind : List Str := ["kinds", "value", "kind"]
theorem sc_is_kind : FnScope N_is_kind ["kinds", "value", "kind"] (defScope s_is_kind) := ⟨rfl, rfl, rfl, by decide +kernel, rfl, by decide +kernel, by decide +kernel⟩
abbrev N_is_term_in : List Str := ["value", "kinds", "deep"]
theorem sc_is_term_in : FnScope N_is_term_in ["value", "kinds", "deep"] (defScope s_is_term_in) := ⟨rfl, rfl, rfl, by decide +kernel, rfl, by decide +kernel, by decide +kernel⟩
abbrev N_is_wrap_in : List Str := ["value", "kinds", "deep"]
theorem sc_is_wrap_in : FnScope N_is_wrap_in ["value", "kinds", "deep"] (defScope s_is_wrap_in) := ⟨rfl, rfl, rfl, by decide +kernel, rfl, by decide +kernel, by decide +kernel⟩
abbrev N_is_piece : List Str := ["value", "kinds", "deep", "word", "table", "terms", "first", "parameter", "name", "given", "wrap", "term", "one"]
theorem sc_is_piece : FnScope N_is_piece ["value", "kinds", "deep"] (defScope s_is_piece) := ⟨rfl, rfl, rfl, by decide +kernel, rfl, by decide +kernel, by decide +kernel⟩
abbrev N_are_given : List Str := ["given", "kinds", "deep", "value"]
theorem sc_are_given : FnScope N_are_given ["given", "kinds", "deep"] (defScope s_are_given) := ⟨rfl, rfl, rfl, by decide +kernel, rfl, by decide +kernel, by decide +kernel⟩
abbrev N_inside : List Str := ["piece", "terms", "name", "given", "wrap", "term"]
theorem sc_inside : FnScope N_inside ["piece"] (defScope s_inside) := ⟨rfl, rfl, rfl, by decide +kernel, rfl, by decide +kernel, by decide +kernel⟩
abbrev N_pieces_of : List Str := ["piece", "found", "at"]
theorem sc_pieces_of : FnScope N_pieces_of ["piece"] (defScope s_pieces_of) := ⟨rfl, rfl, rfl, by decide +kernel, rfl, by decide +kernel, by decide +kernel⟩
abbrev N_are_parameters : List Str := ["value", "pair", "name", "kind"]
theorem sc_are_parameters : FnScope N_are_parameters ["value"] (defScope s_are_parameters) := ⟨rfl, rfl, rfl, by decide +kernel, rfl, by decide +kernel, by decide +kernel⟩
abbrev N_is_body : List Str := ["value", "parameters"]
theorem sc_is_body : FnScope N_is_body ["value", "parameters"] (defScope s_is_body) := ⟨rfl, rfl, rfl, by decide +kernel, rfl, by decide +kernel, by decide +kernel⟩
abbrev N_Procedure___init__ : List Str := ["self", "name", "parameters", "body", "parameter", "kind"]
theorem sc_Procedure___init__ : FnScope N_Procedure___init__ ["self", "name", "parameters", "body"] (defScope s_Procedure___init__) := ⟨rfl, rfl, rfl, by decide +kernel, rfl, by decide +kernel, by decide +kernel⟩
abbrev N_Procedure___len__ : List Str := ["self"]
theorem sc_Procedure___len__ : FnScope N_Procedure___len__ ["self"] (defScope s_Procedure___len__) := ⟨rfl, rfl, rfl, by decide +kernel, rfl, by decide +kernel, by decide +kernel⟩
abbrev N_Procedure___eq__ : List Str := ["self", "other"]
theorem sc_Procedure___eq__ : FnScope N_Procedure___eq__ ["self", "other"] (defScope s_Procedure___eq__) := ⟨rfl, rfl, rfl, by decide +kernel, rfl, by decide +kernel, by decide +kernel⟩
abbrev N_Procedure___str__ : List Str := ["self"]
theorem sc_Procedure___str__ : FnScope N_Procedure___str__ ["self"] (defScope s_Procedure___str__) := ⟨rfl, rfl, rfl, by decide +kernel, rfl, by decide +kernel, by decide +kernel⟩
abbrev N_kind_of : List Str := ["piece"]
theorem sc_kind_of : FnScope N_kind_of ["piece"] (defScope s_kind_of) := ⟨rfl, rfl, rfl, by decide +kernel, rfl, by decide +kernel, by decide +kernel⟩
abbrev N_are_fit : List Str := ["table", "piece", "modes", "kinds", "given", "entry", "value"]
theorem sc_are_fit : FnScope N_are_fit ["table", "piece", "modes"] (defScope s_are_fit) := ⟨rfl, rfl, rfl, by decide +kernel, rfl, by decide +kernel, by decide +kernel⟩
abbrev N_Program___init__ : List Str := ["self", "modes", "procedures", "table", "one", "piece"]
theorem sc_Program___init__ : FnScope N_Program___init__ ["self", "modes", "procedures"] (defScope s_Program___init__) := ⟨rfl, rfl, rfl, by decide +kernel, rfl, by decide +kernel, by decide +kernel⟩
abbrev N_Program_of : List Str := ["cls", "modes", "procedures"]
theorem sc_Program_of : FnScope N_Program_of ["cls", "modes", "procedures"] (defScope s_Program_of) := ⟨rfl, rfl, rfl, by decide +kernel, rfl, by decide +kernel, by decide +kernel⟩
abbrev N_Program_has_name : List Str := ["self", "value"]
theorem sc_Program_has_name : FnScope N_Program_has_name ["self", "value"] (defScope s_Program_has_name) := ⟨rfl, rfl, rfl, by decide +kernel, rfl, by decide +kernel, by decide +kernel⟩
abbrev N_Program___getitem__ : List Str := ["self", "name"]
theorem sc_Program___getitem__ : FnScope N_Program___getitem__ ["self", "name"] (defScope s_Program___getitem__) := ⟨rfl, rfl, rfl, by decide +kernel, rfl, by decide +kernel, by decide +kernel⟩
abbrev N_Program___contains__ : List Str := ["self", "value"]
theorem sc_Program___contains__ : FnScope N_Program___contains__ ["self", "value"] (defScope s_Program___contains__) := ⟨rfl, rfl, rfl, by decide +kernel, rfl, by decide +kernel, by decide +kernel⟩
abbrev N_Program___len__ : List Str := ["self"]
theorem sc_Program___len__ : FnScope N_Program___len__ ["self"] (defScope s_Program___len__) := ⟨rfl, rfl, rfl, by decide +kernel, rfl, by decide +kernel, by decide +kernel⟩
abbrev N_Program___str__ : List Str := ["self"]
theorem sc_Program___str__ : FnScope N_Program___str__ ["self"] (defScope s_Program___str__) := ⟨rfl, rfl, rfl, by decide +kernel, rfl, by decide +kernel, by decide +kernel⟩
abbrev N_require_program : List Str := ["value"]
theorem sc_require_program : FnScope N_require_program ["value"] (defScope s_require_program) := ⟨rfl, rfl, rfl, by decide +kernel, rfl, by decide +kernel, by decide +kernel⟩
abbrev N_Space___init__ : List Str := ["self", "modes", "watched", "powers", "turn", "mode"]
theorem sc_Space___init__ : FnScope N_Space___init__ ["self", "modes", "watched"] (defScope s_Space___init__) := ⟨rfl, rfl, rfl, by decide +kernel, rfl, by decide +kernel, by decide +kernel⟩
abbrev N_Space_is_relation : List Str := ["self", "value"]
theorem sc_Space_is_relation : FnScope N_Space_is_relation ["self", "value"] (defScope s_Space_is_relation) := ⟨rfl, rfl, rfl, by decide +kernel, rfl, by decide +kernel, by decide +kernel⟩
abbrev N_Space_is_table : List Str := ["self", "value", "entry"]
theorem sc_Space_is_table : FnScope N_Space_is_table ["self", "value"] (defScope s_Space_is_table) := ⟨rfl, rfl, rfl, by decide +kernel, rfl, by decide +kernel, by decide +kernel⟩
abbrev N_Reckoner___init__ : List Str := ["self", "program", "word"]
theorem sc_Reckoner___init__ : FnScope N_Reckoner___init__ ["self", "program", "word"] (defScope s_Reckoner___init__) := ⟨rfl, rfl, rfl, by decide +kernel, rfl, by decide +kernel, by decide +kernel⟩
abbrev N_Reckoner_is_meaning : List Str := ["self", "kind", "value"]
theorem sc_Reckoner_is_meaning : FnScope N_Reckoner_is_meaning ["self", "kind", "value"] (defScope s_Reckoner_is_meaning) := ⟨rfl, rfl, rfl, by decide +kernel, rfl, by decide +kernel, by decide +kernel⟩
abbrev N_Reckoner_is_context : List Str := ["self", "value", "kinds", "kind", "one"]
theorem sc_Reckoner_is_context : FnScope N_Reckoner_is_context ["self", "value"] (defScope s_Reckoner_is_context) := ⟨rfl, rfl, rfl, by decide +kernel, rfl, by decide +kernel, by decide +kernel⟩
abbrev N_require_word : List Str := ["word"]
theorem sc_require_word : FnScope N_require_word ["word"] (defScope s_require_word) := ⟨rfl, rfl, rfl, by decide +kernel, rfl, by decide +kernel, by decide +kernel⟩
abbrev N_reckoner_of : List Str := ["program", "word"]
theorem sc_reckoner_of : FnScope N_reckoner_of ["program", "word"] (defScope s_reckoner_of) := ⟨rfl, rfl, rfl, by decide +kernel, rfl, by decide +kernel, by decide +kernel⟩
abbrev N_is_context : List Str := ["program", "value", "word"]
theorem sc_is_context : FnScope N_is_context ["program", "value", "word"] (defScope s_is_context) := ⟨rfl, rfl, rfl, by decide +kernel, rfl, by decide +kernel, by decide +kernel⟩
abbrev N__law_sack : List Str := ["_law_script", "_law_at", "_law_cell", "_law_great", "_law_seed"]
theorem sc__law_sack : FnScope N__law_sack ["_law_script", "_law_at"] (defScope s__law_sack) := ⟨rfl, rfl, rfl, by decide +kernel, rfl, by decide +kernel, by decide +kernel⟩
abbrev N__law_deal : List Str := ["_law_sack_here", "_law_size", "_law_found", "_law_one", "_law_two"]
theorem sc__law_deal : FnScope N__law_deal ["_law_sack_here", "_law_size"] (defScope s__law_deal) := ⟨rfl, rfl, rfl, by decide +kernel, rfl, by decide +kernel, by decide +kernel⟩
abbrev N__law_pick : List Str := ["_law_sack_here", "_law_items"]
theorem sc__law_pick : FnScope N__law_pick ["_law_sack_here", "_law_items"] (defScope s__law_pick) := ⟨rfl, rfl, rfl, by decide +kernel, rfl, by decide +kernel, by decide +kernel⟩
abbrev N__law_deed : List Str := ["_law_sack_here", "_law_modes", "_law_table", "_law_mode"]
theorem sc__law_deed : FnScope N__law_deed ["_law_sack_here", "_law_modes"] (defScope s__law_deed) := ⟨rfl, rfl, rfl, by decide +kernel, rfl, by decide +kernel, by decide +kernel⟩
abbrev N__law_handed : List Str := ["_law_sack_here", "_law_plan", "_law_own", "_law_deep", "_law_kind", "_law_wraps", "_law_heads", "_law_name", "_law_given", "_law_sort"]
theorem sc__law_handed : FnScope N__law_handed ["_law_sack_here", "_law_plan", "_law_own", "_law_deep", "_law_kind"] (defScope s__law_handed) := ⟨rfl, rfl, rfl, by decide +kernel, rfl, by decide +kernel, by decide +kernel⟩
abbrev N__law_call : List Str := ["_law_sack_here", "_law_plan", "_law_own", "_law_deep", "_law_name", "_law_given", "_law_sort"]
theorem sc__law_call : FnScope N__law_call ["_law_sack_here", "_law_plan", "_law_own", "_law_deep"] (defScope s__law_call) := ⟨rfl, rfl, rfl, by decide +kernel, rfl, by decide +kernel, by decide +kernel⟩
abbrev N__law_term : List Str := ["_law_sack_here", "_law_plan", "_law_own", "_law_deep", "_law_blocks", "_law_words", "_law_word", "_law_wrap", "_law_name", "_law_sort"]
theorem sc__law_term : FnScope N__law_term ["_law_sack_here", "_law_plan", "_law_own", "_law_deep"] (defScope s__law_term) := ⟨rfl, rfl, rfl, by decide +kernel, rfl, by decide +kernel, by decide +kernel⟩
abbrev N__law_wild : List Str := ["_law_sack_here", "_law_least", "_law_modes", "_law_kinds", "_law_plan", "_law_name", "_law_procs", "_law_own"]
theorem sc__law_wild : FnScope N__law_wild ["_law_sack_here", "_law_least"] (defScope s__law_wild) := ⟨rfl, rfl, rfl, by decide +kernel, rfl, by decide +kernel, by decide +kernel⟩
abbrev N__law_framed : List Str := ["_law_sack_here", "_law_way", "_law_deed_here", "_law_twice", "_law_locked", "_law_again", "_law_deep", "_law_loop"]
theorem sc__law_framed : FnScope N__law_framed ["_law_sack_here"] (defScope s__law_framed) := ⟨rfl, rfl, rfl, by decide +kernel, rfl, by decide +kernel, by decide +kernel⟩
abbrev N__law_plain : List Str := ["_law_sack_here"]
theorem sc__law_plain : FnScope N__law_plain ["_law_sack_here"] (defScope s__law_plain) := ⟨rfl, rfl, rfl, by decide +kernel, rfl, by decide +kernel, by decide +kernel⟩
abbrev N__law_made : List Str := ["_law_plain_here", "_law_name", "_law_own", "_law_body"]
theorem sc__law_made : FnScope N__law_made ["_law_plain_here"] (defScope s__law_made) := ⟨rfl, rfl, rfl, by decide +kernel, rfl, by decide +kernel, by decide +kernel⟩
abbrev N__law_by_name : List Str := ["_law_plain_here", "_law_name", "_law_own", "_law_body"]
theorem sc__law_by_name : FnScope N__law_by_name ["_law_plain_here"] (defScope s__law_by_name) := ⟨rfl, rfl, rfl, by decide +kernel, rfl, by decide +kernel, by decide +kernel⟩
abbrev N__law_powers : List Str := ["_law_many", "_law_found", "_law_turn"]
theorem sc__law_powers : FnScope N__law_powers ["_law_many"] (defScope s__law_powers) := ⟨rfl, rfl, rfl, by decide +kernel, rfl, by decide +kernel, by decide +kernel⟩
abbrev N__law_space : List Str := ["_law_modes", "_law_is_watched", "_law_ends_here"]
theorem sc__law_space : FnScope N__law_space ["_law_modes", "_law_is_watched"] (defScope s__law_space) := ⟨rfl, rfl, rfl, by decide +kernel, rfl, by decide +kernel, by decide +kernel⟩
abbrev N__law_code : List Str := ["_law_plain_here", "_law_word"]
theorem sc__law_code : FnScope N__law_code ["_law_plain_here", "_law_word"] (defScope s__law_code) := ⟨rfl, rfl, rfl, by decide +kernel, rfl, by decide +kernel, by decide +kernel⟩
abbrev N__law_is_relation : List Str := ["_law_code_here", "_law_value"]
theorem sc__law_is_relation : FnScope N__law_is_relation ["_law_code_here", "_law_value"] (defScope s__law_is_relation) := ⟨rfl, rfl, rfl, by decide +kernel, rfl, by decide +kernel, by decide +kernel⟩
abbrev N__law_is_meaning : List Str := ["_law_code_here", "_law_kind", "_law_value", "_law_one"]
theorem sc__law_is_meaning : FnScope N__law_is_meaning ["_law_code_here", "_law_kind", "_law_value"] (defScope s__law_is_meaning) := ⟨rfl, rfl, rfl, by decide +kernel, rfl, by decide +kernel, by decide +kernel⟩
abbrev N__law_due : List Str := ["_law_code_here", "_law_value", "_law_own", "_law_pair", "_law_one"]
theorem sc__law_due : FnScope N__law_due ["_law_code_here", "_law_value"] (defScope s__law_due) := ⟨rfl, rfl, rfl, by decide +kernel, rfl, by decide +kernel, by decide +kernel⟩
abbrev N__law_values : List Str := ["_law_sack_here", "_law_code_here", "_law_size", "_law_found", "_law_name", "_law_values_here", "_law_parameter", "_law_kind", "_law_one", "_law_odd", "_law_at"]
theorem sc__law_values : FnScope N__law_values ["_law_sack_here", "_law_code_here"] (defScope s__law_values) := ⟨rfl, rfl, rfl, by decide +kernel, rfl, by decide +kernel, by decide +kernel⟩
abbrev N__law_right : List Str := ["_law_sack_here", "_law_plain_here", "_law_program", "_law_word", "_law_code_here", "_law_value"]
theorem sc__law_right : FnScope N__law_right ["_law_sack_here"] (defScope s__law_right) := ⟨rfl, rfl, rfl, by decide +kernel, rfl, by decide +kernel, by decide +kernel⟩
abbrev N_law : List Str := ["_law_script", "_law_at", "_law_sack_here"]
theorem sc_law : FnScope N_law ["_law_script"] (defScope s_law) := ⟨rfl, rfl, rfl, by decide +kernel, rfl, by decide +kernel, by decide +kernel⟩
structure Facts (K : PySem.W.Frag) (C_Procedure : Addr) (C_Program : Addr) (C_Space : Addr) (C_Reckoner : Addr) (C_InvalidProgram : Addr) (C_InvalidOperation : Addr) : Prop where
  cls_Procedure : HasCls K "Procedure" C_Procedure
  cls_Program : HasCls K "Program" C_Program
  cls_Space : HasCls K "Space" C_Space
  cls_Reckoner : HasCls K "Reckoner" C_Reckoner
  d_is_integer : HasDef K "is_integer" s_is_integer
  d_is_from : HasDef K "is_from" s_is_from
  d_is_name : HasDef K "is_name" s_is_name
  d_has_word : HasDef K "has_word" s_has_word
  d_is_deed_table : HasDef K "is_deed_table" s_is_deed_table
  d_is_kind : HasDef K "is_kind" s_is_kind
  d_is_term_in : HasDef K "is_term_in" s_is_term_in
  d_is_wrap_in : HasDef K "is_wrap_in" s_is_wrap_in
  d_is_piece : HasDef K "is_piece" s_is_piece
  d_are_given : HasDef K "are_given" s_are_given
  d_inside : HasDef K "inside" s_inside
  d_pieces_of : HasDef K "pieces_of" s_pieces_of
  d_are_parameters : HasDef K "are_parameters" s_are_parameters
  d_is_body : HasDef K "is_body" s_is_body
  d_kind_of : HasDef K "kind_of" s_kind_of
  d_are_fit : HasDef K "are_fit" s_are_fit
  d_require_program : HasDef K "require_program" s_require_program
  d_require_word : HasDef K "require_word" s_require_word
  d_reckoner_of : HasDef K "reckoner_of" s_reckoner_of
  d_is_context : HasDefK K "is_context" s_is_context [("word", .non)]
  d__law_sack : HasDef K "_law_sack" s__law_sack
  d__law_deal : HasDef K "_law_deal" s__law_deal
  d__law_pick : HasDef K "_law_pick" s__law_pick
  d__law_deed : HasDef K "_law_deed" s__law_deed
  d__law_handed : HasDef K "_law_handed" s__law_handed
  d__law_call : HasDef K "_law_call" s__law_call
  d__law_term : HasDef K "_law_term" s__law_term
  d__law_wild : HasDefD K "_law_wild" s__law_wild [(.int 1)]
  d__law_framed : HasDef K "_law_framed" s__law_framed
  d__law_plain : HasDef K "_law_plain" s__law_plain
  d__law_made : HasDef K "_law_made" s__law_made
  d__law_by_name : HasDef K "_law_by_name" s__law_by_name
  d__law_powers : HasDef K "_law_powers" s__law_powers
  d__law_space : HasDef K "_law_space" s__law_space
  d__law_code : HasDef K "_law_code" s__law_code
  d__law_is_relation : HasDef K "_law_is_relation" s__law_is_relation
  d__law_is_meaning : HasDef K "_law_is_meaning" s__law_is_meaning
  d__law_due : HasDef K "_law_due" s__law_due
  d__law_values : HasDef K "_law_values" s__law_values
  d__law_right : HasDef K "_law_right" s__law_right
  d_law : HasDef K "law" s_law
  m_Procedure___init__ : HasMeth K C_Procedure "__init__" "Procedure.__init__" s_Procedure___init__
  m_Procedure___len__ : HasMeth K C_Procedure "__len__" "Procedure.__len__" s_Procedure___len__
  m_Procedure___eq__ : HasMeth K C_Procedure "__eq__" "Procedure.__eq__" s_Procedure___eq__
  m_Procedure___str__ : HasMeth K C_Procedure "__str__" "Procedure.__str__" s_Procedure___str__
  m_Program___init__ : HasMeth K C_Program "__init__" "Program.__init__" s_Program___init__
  c_Program_of : HasCMeth K C_Program "of" "Program.of" s_Program_of
  m_Program_has_name : HasMeth K C_Program "has_name" "Program.has_name" s_Program_has_name
  m_Program___getitem__ : HasMeth K C_Program "__getitem__" "Program.__getitem__" s_Program___getitem__
  m_Program___contains__ : HasMeth K C_Program "__contains__" "Program.__contains__" s_Program___contains__
  m_Program___len__ : HasMeth K C_Program "__len__" "Program.__len__" s_Program___len__
  m_Program___str__ : HasMeth K C_Program "__str__" "Program.__str__" s_Program___str__
  i_Space : HasInitK K C_Space "Space.__init__" s_Space___init__ [("watched", (.bl false))]
  m_Space_is_relation : HasMeth K C_Space "is_relation" "Space.is_relation" s_Space_is_relation
  m_Space_is_table : HasMeth K C_Space "is_table" "Space.is_table" s_Space_is_table
  m_Reckoner___init__ : HasMeth K C_Reckoner "__init__" "Reckoner.__init__" s_Reckoner___init__
  m_Reckoner_is_meaning : HasMeth K C_Reckoner "is_meaning" "Reckoner.is_meaning" s_Reckoner_is_meaning
  m_Reckoner_is_context : HasMeth K C_Reckoner "is_context" "Reckoner.is_context" s_Reckoner_is_context
  n_Procedure_own_name : NoAttr K C_Procedure "own_name"
  n_Procedure_own_parameters : NoAttr K C_Procedure "own_parameters"
  n_Procedure_own_body : NoAttr K C_Procedure "own_body"
  n_Procedure_own_kinds : NoAttr K C_Procedure "own_kinds"
  n_Procedure_own_pieces : NoAttr K C_Procedure "own_pieces"
  n_Procedure_own_shape : NoAttr K C_Procedure "own_shape"
  n_Program_own_has_wraps : NoAttr K C_Program "own_has_wraps"
  n_Program_own_modes : NoAttr K C_Program "own_modes"
  n_Space_own_modes : NoAttr K C_Space "own_modes"
  n_Program_own_procedures : NoAttr K C_Program "own_procedures"
  n_Program_own_table : NoAttr K C_Program "own_table"
  n_Space_own_watched : NoAttr K C_Space "own_watched"
  n_Space_own_ends : NoAttr K C_Space "own_ends"
  n_Space_own_powers : NoAttr K C_Space "own_powers"
  n_Space_own_size : NoAttr K C_Space "own_size"
  n_Space_own_same : NoAttr K C_Space "own_same"
  n_Reckoner_own_program : NoAttr K C_Reckoner "own_program"
  n_Reckoner_own_word : NoAttr K C_Reckoner "own_word"
  n_Reckoner_own_space : NoAttr K C_Reckoner "own_space"
  x_InvalidProgram : XCls K "InvalidProgram" C_InvalidProgram
  x_InvalidOperation : XCls K "InvalidOperation" C_InvalidOperation
  em_InvalidProgram_InvalidProgram : PySem.W.exmOne K (.ref C_InvalidProgram) (.ref C_InvalidProgram) = some true
  em_InvalidProgram_InvalidOperation : PySem.W.exmOne K (.ref C_InvalidProgram) (.ref C_InvalidOperation) = some false
  em_InvalidOperation_InvalidProgram : PySem.W.exmOne K (.ref C_InvalidOperation) (.ref C_InvalidProgram) = some false
  em_InvalidOperation_InvalidOperation : PySem.W.exmOne K (.ref C_InvalidOperation) (.ref C_InvalidOperation) = some true
  ne_Procedure : PySem.W.findIn K (.ref C_Procedure) "__ne__" = some (some (.builtin "object.__ne__"))
  kt_NoneType : PySem.W.kitOne K (.type "NoneType") (.ref C_Procedure) = some false
  nf_NoneType : PySem.W.notFirst K C_Procedure (.type "NoneType") = true
  kt_bool : PySem.W.kitOne K (.type "bool") (.ref C_Procedure) = some false
  nf_bool : PySem.W.notFirst K C_Procedure (.type "bool") = true
  kt_int : PySem.W.kitOne K (.type "int") (.ref C_Procedure) = some false
  nf_int : PySem.W.notFirst K C_Procedure (.type "int") = true
  kt_str : PySem.W.kitOne K (.type "str") (.ref C_Procedure) = some false
  nf_str : PySem.W.notFirst K C_Procedure (.type "str") = true
  kt_list : PySem.W.kitOne K (.type "list") (.ref C_Procedure) = some false
  nf_list : PySem.W.notFirst K C_Procedure (.type "list") = true
  kt_tuple : PySem.W.kitOne K (.type "tuple") (.ref C_Procedure) = some false
  nf_tuple : PySem.W.notFirst K C_Procedure (.type "tuple") = true
  kt_dict : PySem.W.kitOne K (.type "dict") (.ref C_Procedure) = some false
  nf_dict : PySem.W.notFirst K C_Procedure (.type "dict") = true
  mr_str : PySem.W.mroIn K C_Procedure (.type "str") = some false
  z_IndexError : PySem.W.nsIn K mainGlobals "IndexError" = some none
  z_KeyError : PySem.W.nsIn K mainGlobals "KeyError" = some none
  z_abs : PySem.W.nsIn K mainGlobals "abs" = some none
  z_all : PySem.W.nsIn K mainGlobals "all" = some none
  z_any : PySem.W.nsIn K mainGlobals "any" = some none
  z_bool : PySem.W.nsIn K mainGlobals "bool" = some none
  z_dict : PySem.W.nsIn K mainGlobals "dict" = some none
  z_int : PySem.W.nsIn K mainGlobals "int" = some none
  z_isinstance : PySem.W.nsIn K mainGlobals "isinstance" = some none
  z_len : PySem.W.nsIn K mainGlobals "len" = some none
  z_list : PySem.W.nsIn K mainGlobals "list" = some none
  z_max : PySem.W.nsIn K mainGlobals "max" = some none
  z_min : PySem.W.nsIn K mainGlobals "min" = some none
  z_range : PySem.W.nsIn K mainGlobals "range" = some none
  z_repr : PySem.W.nsIn K mainGlobals "repr" = some none
  z_sorted : PySem.W.nsIn K mainGlobals "sorted" = some none
  z_str : PySem.W.nsIn K mainGlobals "str" = some none
  z_sum : PySem.W.nsIn K mainGlobals "sum" = some none
  z_tuple : PySem.W.nsIn K mainGlobals "tuple" = some none
  z_zip : PySem.W.nsIn K mainGlobals "zip" = some none
  c_LETTERS : ∃ t, PySem.W.nsIn K mainGlobals "LETTERS" = some (some (.str "abcdefghijklmnopqrstuvwxyz" t))
  c_MAX_LETTERS : ∃ t, PySem.W.nsIn K mainGlobals "MAX_LETTERS" = some (some (.int 8 t))
  c_BLOCK : ∃ t, PySem.W.nsIn K mainGlobals "BLOCK" = some (some (.str "block" t))
  c_WRAP : ∃ t, PySem.W.nsIn K mainGlobals "WRAP" = some (some (.str "wrap" t))
  c_TERM_WORDS : KStrs K "TERM_WORDS" ["do", "seq", "or", "run", "call", "wrap"]
  c_WRAP_WORDS : KStrs K "WRAP_WORDS" ["own", "with"]
  c_MAX_PARAMETERS : ∃ t, PySem.W.nsIn K mainGlobals "MAX_PARAMETERS" = some (some (.int 3 t))
  c_MAX_DEPTH : ∃ t, PySem.W.nsIn K mainGlobals "MAX_DEPTH" = some (some (.int 6 t))
  c_MAX_TERMS : ∃ t, PySem.W.nsIn K mainGlobals "MAX_TERMS" = some (some (.int 40 t))
  c_MAX_MODES : ∃ t, PySem.W.nsIn K mainGlobals "MAX_MODES" = some (some (.int 3 t))
  c_MAIN : ∃ t, PySem.W.nsIn K mainGlobals "MAIN" = some (some (.str "main" t))
  c_MAX_PROCEDURES : ∃ t, PySem.W.nsIn K mainGlobals "MAX_PROCEDURES" = some (some (.int 8 t))
/-- the built-ins' names are free; the module's constants -/
structure Zs (mg : Str → Option Value) : Prop where
  IndexError : mg "IndexError" = none
  KeyError : mg "KeyError" = none
  abs : mg "abs" = none
  all : mg "all" = none
  any : mg "any" = none
  bool : mg "bool" = none
  dict : mg "dict" = none
  int : mg "int" = none
  isinstance : mg "isinstance" = none
  len : mg "len" = none
  list : mg "list" = none
  max : mg "max" = none
  min : mg "min" = none
  range : mg "range" = none
  repr : mg "repr" = none
  sorted : mg "sorted" = none
  str : mg "str" = none
  sum : mg "sum" = none
  tuple : mg "tuple" = none
  zip : mg "zip" = none
  c_LETTERS : ∃ t, mg "LETTERS" = some (.str "abcdefghijklmnopqrstuvwxyz" t)
  c_MAX_LETTERS : ∃ t, mg "MAX_LETTERS" = some (.int 8 t)
  c_BLOCK : ∃ t, mg "BLOCK" = some (.str "block" t)
  c_WRAP : ∃ t, mg "WRAP" = some (.str "wrap" t)
  c_MAX_PARAMETERS : ∃ t, mg "MAX_PARAMETERS" = some (.int 3 t)
  c_MAX_DEPTH : ∃ t, mg "MAX_DEPTH" = some (.int 6 t)
  c_MAX_TERMS : ∃ t, mg "MAX_TERMS" = some (.int 40 t)
  c_MAX_MODES : ∃ t, mg "MAX_MODES" = some (.int 3 t)
  c_MAIN : ∃ t, mg "MAIN" = some (.str "main" t)
  c_MAX_PROCEDURES : ∃ t, mg "MAX_PROCEDURES" = some (.int 8 t)
theorem zs_of {K : PySem.W.Frag} {mg : Str → Option Value} {C_Procedure : Addr} {C_Program : Addr} {C_Space : Addr} {C_Reckoner : Addr} {C_InvalidProgram : Addr} {C_InvalidOperation : Addr} (A : Facts K C_Procedure C_Program C_Space C_Reckoner C_InvalidProgram C_InvalidOperation) (M : MgOf K mg) : Zs mg where
  IndexError := M.of _ _ A.z_IndexError
  KeyError := M.of _ _ A.z_KeyError
  abs := M.of _ _ A.z_abs
  all := M.of _ _ A.z_all
  any := M.of _ _ A.z_any
  bool := M.of _ _ A.z_bool
  dict := M.of _ _ A.z_dict
  int := M.of _ _ A.z_int
  isinstance := M.of _ _ A.z_isinstance
  len := M.of _ _ A.z_len
  list := M.of _ _ A.z_list
  max := M.of _ _ A.z_max
  min := M.of _ _ A.z_min
  range := M.of _ _ A.z_range
  repr := M.of _ _ A.z_repr
  sorted := M.of _ _ A.z_sorted
  str := M.of _ _ A.z_str
  sum := M.of _ _ A.z_sum
  tuple := M.of _ _ A.z_tuple
  zip := M.of _ _ A.z_zip
  c_LETTERS := let ⟨_, e⟩ := A.c_LETTERS; ⟨_, M.of _ _ e⟩
  c_MAX_LETTERS := let ⟨_, e⟩ := A.c_MAX_LETTERS; ⟨_, M.of _ _ e⟩
  c_BLOCK := let ⟨_, e⟩ := A.c_BLOCK; ⟨_, M.of _ _ e⟩
  c_WRAP := let ⟨_, e⟩ := A.c_WRAP; ⟨_, M.of _ _ e⟩
  c_MAX_PARAMETERS := let ⟨_, e⟩ := A.c_MAX_PARAMETERS; ⟨_, M.of _ _ e⟩
  c_MAX_DEPTH := let ⟨_, e⟩ := A.c_MAX_DEPTH; ⟨_, M.of _ _ e⟩
  c_MAX_TERMS := let ⟨_, e⟩ := A.c_MAX_TERMS; ⟨_, M.of _ _ e⟩
  c_MAX_MODES := let ⟨_, e⟩ := A.c_MAX_MODES; ⟨_, M.of _ _ e⟩
  c_MAIN := let ⟨_, e⟩ := A.c_MAIN; ⟨_, M.of _ _ e⟩
  c_MAX_PROCEDURES := let ⟨_, e⟩ := A.c_MAX_PROCEDURES; ⟨_, M.of _ _ e⟩
def isI : Da → Bool
  | .int _ => true
  | _ => false
def isFr (x : Da) (a b : Int) : Bool := match x with
  | .int i => decide (a ≤ i) && decide (i ≤ b)
  | _ => false
def spIsInt : DSp := fun ds M Q _ => ∃ x, ds = [x] ∧ pv x ∧ Q (.bl (isI x)) M
def spIsFrom : DSp := fun ds M Q _ => ∃ x a b, ds = [x, .int a, .int b] ∧ pv x ∧ Q (.bl (isFr x a b)) M
def spIsName : DSp := fun ds M Q _ => ∃ x, ds = [x] ∧ pv x ∧ Q (.bl (nameD x)) M
theorem D_is_integer {P : Program} {w : World} {K : PySem.W.Frag} {mg : Str → Option Value} {base : Heap} {C_Procedure : Addr} {C_Program : Addr} {C_Space : Addr} {C_Reckoner : Addr} {C_InvalidProgram : Addr} {C_InvalidOperation : Addr} (A : Facts K C_Procedure C_Program C_Space C_Reckoner C_InvalidProgram C_InvalidOperation) (M : MgOf K mg) (Z : Zs mg)  : KnD P w K mg base "is_integer" 1 ["value"] spIsInt := by
  refine KnD.of A.d_is_integer M sc_is_integer (fun _ _ _ _ _ _ us hl => match us, hl with | [_], _ => rfl) (fun ds M Q E ⟨_, h, _⟩ => by rw [h]; rfl) (fun f cdv A0 outer s H E hr => ?_)
  have hu := U.hu_of hr
  have hu1 := U.hu1_of hr
  have nd := sc_is_integer.nd
  refine ⟨_, (z_one (z_ret (d_eand (d_b Z.isinstance b_isinstance (c_disiK (K := K) rfl) (d_cons (dn 0) (d_cons (d_ty Z.int b_int) d_nil))) (d_one (d_enot (d_b Z.isinstance b_isinstance (c_disiK (K := K) rfl) (d_cons (dn 0) (d_cons (d_ty Z.bool b_bool) d_nil)))))))), ?_⟩
  rintro ds M Q Ed ⟨x, rfl, ok, k⟩
  cases ok with
  | non => exact ⟨by decide, ifF (by decide) k⟩
  | bl b => exact ⟨by decide, ifT (by decide) ⟨by decide, k⟩⟩
  | int b => exact ⟨by decide, ifT (by decide) ⟨by decide, k⟩⟩
  | str b => exact ⟨by decide, ifF (by decide) k⟩
  | lst b => exact ⟨by decide, ifF (by decide) k⟩
  | tup b => exact ⟨by decide, ifF (by decide) k⟩
  | dct b => exact ⟨by decide, ifF (by decide) k⟩
theorem D_is_from {P : Program} {w : World} {K : PySem.W.Frag} {mg : Str → Option Value} {base : Heap} {C_Procedure : Addr} {C_Program : Addr} {C_Space : Addr} {C_Reckoner : Addr} {C_InvalidProgram : Addr} {C_InvalidOperation : Addr} (A : Facts K C_Procedure C_Program C_Space C_Reckoner C_InvalidProgram C_InvalidOperation) (M : MgOf K mg) (Z : Zs mg) (D_is_integer : KnD P w K mg base "is_integer" 1 ["value"] spIsInt) : KnD P w K mg base "is_from" 2 ["value", "first", "last"] spIsFrom := by
  refine KnD.of A.d_is_from M sc_is_from (fun _ _ _ _ _ _ us hl => match us, hl with | [_, _, _], _ => rfl) (fun ds M Q E ⟨_, _, _, h, _⟩ => by rw [h]; rfl) (fun f cdv A0 outer s H E hr => ?_)
  have hu := U.hu_of hr
  have hu1 := U.hu1_of hr
  have nd := sc_is_from.nd
  refine ⟨_, (z_one (z_ret (d_eand (d_call D_is_integer (hr.mono (by decide)) (d_cons (dn 0) d_nil)) (d_one (d_ech o_dle o_dle (dn 1) (dn 0) (dn 2)))))), ?_⟩
  rintro ds M Q Ed ⟨x, a, b, rfl, ok, k⟩
  refine ⟨x, rfl, ok, ?_⟩
  cases ok with
  | int i =>
    refine ifT rfl ?_
    show if _ then _ else _
    cases c : decide (a ≤ i) with
    | true =>
      have e : isFr (.int i) a b = decide (i ≤ b) := by show (decide _ && _) = _; rw [c]; rfl
      rw [e] at k
      exact ifT rfl k
    | false =>
      have e : isFr (.int i) a b = false := by show (decide _ && _) = _; rw [c]; rfl
      rw [e] at k
      exact ifF (by decide) k
  | _ => exact ifF Bool.false_ne_true k
theorem D_is_name {P : Program} {w : World} {K : PySem.W.Frag} {mg : Str → Option Value} {base : Heap} {C_Procedure : Addr} {C_Program : Addr} {C_Space : Addr} {C_Reckoner : Addr} {C_InvalidProgram : Addr} {C_InvalidOperation : Addr} (A : Facts K C_Procedure C_Program C_Space C_Reckoner C_InvalidProgram C_InvalidOperation) (M : MgOf K mg) (Z : Zs mg)  : KnD P w K mg base "is_name" 1 ["value"] spIsName := by
  refine KnD.of A.d_is_name M sc_is_name (fun _ _ _ _ _ _ us hl => match us, hl with | [_], _ => rfl) (fun ds M Q E ⟨_, h, _⟩ => by rw [h]; rfl) (fun f cdv A0 outer s H E hr => ?_)
  have hu := U.hu_of hr
  have hu1 := U.hu1_of hr
  have nd := sc_is_name.nd
  refine ⟨_, (z_cons (z_if (d_w (d_or (d_tnot (d_tv (d_b Z.isinstance b_isinstance (c_disiK (K := K) rfl) (d_cons (dn 0) (d_cons (d_ty Z.str b_str) d_nil))))) (d_or1 (d_tnot (d_tch o_dlt o_dle d_int (d_b Z.len b_len c_dlen (d_cons (dn 0) d_nil)) (d_gi Z.c_MAX_LETTERS)))))) (z_one (z_ret d_bl)) z_nil)
      (z_one (z_ret (d_b Z.all b_all (c_dall rfl) (d_cons (d_lc (own := [("letter", 1)]) (c := (.n 1)) rfl nd (d_it (dn 0)) (blkOk_by (own := [("letter", 1)]) (N := N_is_name) (sc := defScope s_is_name) (by decide +kernel)) (fun _ _ _ _ _ => (gn 1 nd)) (fun _ _ _ _ _ => d_ts0) (fun _ _ _ _ _ => (d_ecm o_dinC (dn 1) (d_gs Z.c_LETTERS)))) d_nil))))), ?_⟩
  rintro ds M Q Ed ⟨x, rfl, ok, k⟩
  cases ok with
  | str z hz =>
    have hl : z.length = z.cps.toList.length := by rw [Array.length_toList]; rfl
    refine ⟨by decide, ifF (by decide) ?_⟩
    have no : nameZ z = false → Q (.bl false) M := fun e => by
      have k' : Q (.bl (nameZ z)) M := k
      rw [e] at k'
      exact k'
    refine ⟨sz (by omega), ite2 (fun c => ?_) (fun c => ?_)⟩
    · have c' : 0 < z.length := by have := of_decide_eq_true c; omega
      refine ite2 (fun c2 => ?_) (fun c2 => ?_)
      · refine no ?_
        unfold nameZ
        rw [decide_eq_false (p := z.length ≤ 8) (fun h => by rw [decide_eq_true (by omega)] at c2; cases c2), Bool.and_false, Bool.false_and]
      · have c8 : z.length ≤ 8 := by
          apply Classical.byContradiction
          intro h
          exact c2 (by rw [decide_eq_false (by omega)]; rfl)
        refine ⟨sz (by unfold chrD; rw [List.length_map, ← hl]; omega), ?_⟩
        refine lcD_all (fun c => Da.bl (decide (c ∈ ("abcdefghijklmnopqrstuvwxyz" : Str).cps.toList))) (fun _ _ => trivial) (fun c _ Q q => ⟨c, _, rfl, rfl, q⟩) ?_
        refine ⟨_, asBls_fun _ _, ?_⟩
        have e : ((z.cps.toList.map fun c => decide (c ∈ ("abcdefghijklmnopqrstuvwxyz" : Str).cps.toList)).all id) = nameZ z := by
          unfold nameZ
          rw [decide_eq_true c', decide_eq_true c8, Bool.true_and, Bool.true_and, List.all_map]
          congr 1
          funext c
          exact letters c
        rw [e]
        exact k
    · refine ifT (by rfl) (no ?_)
      unfold nameZ
      rw [decide_eq_false (fun h => c (decide_eq_true (by omega)))]
      rfl
  | _ => exact ⟨by decide, ifT (by decide) (ifT (by rfl) k)⟩

def hasW (ws : List Str) : Da → Bool
  | .tup (.str z :: _) => ws.contains z
  | _ => false
def spHas : DSp := fun ds M Q _ => ∃ x ws, ds = [x, .tup (ws.map Da.str)] ∧ pv x ∧ Q (.bl (hasW ws x)) M
theorem D_has_word {P : Program} {w : World} {K : PySem.W.Frag} {mg : Str → Option Value} {base : Heap} {C_Procedure : Addr} {C_Program : Addr} {C_Space : Addr} {C_Reckoner : Addr} {C_InvalidProgram : Addr} {C_InvalidOperation : Addr} (A : Facts K C_Procedure C_Program C_Space C_Reckoner C_InvalidProgram C_InvalidOperation) (M : MgOf K mg) (Z : Zs mg)  : KnD P w K mg base "has_word" 1 ["value", "words"] spHas := by
  refine KnD.of A.d_has_word M sc_has_word (fun _ _ _ _ _ _ us hl => match us, hl with | [_, _], _ => rfl) (fun ds M Q E ⟨_, _, h, _⟩ => by rw [h]; rfl) (fun f cdv A0 outer s H E hr => ?_)
  have hu := U.hu_of hr
  have hu1 := U.hu1_of hr
  have nd := sc_has_word.nd
  refine ⟨_, (z_one (z_ret (d_eand (d_b Z.isinstance b_isinstance (c_disiK (K := K) rfl) (d_cons (dn 0) (d_cons (d_ty Z.tuple b_tuple) d_nil))) (d_eand (d_ecm (o_dneE hu) (dn 0) (d_tup d_nil)) (d_eand (d_b Z.isinstance b_isinstance (c_disiK (K := K) rfl) (d_cons (d_ix (dn 0) d_int) (d_cons (d_ty Z.str b_str) d_nil))) (d_one (d_ecm (o_din hu1) (d_ix (dn 0) d_int) (dn 1)))))))), ?_⟩
  rintro ds M Q Ed ⟨x, ws, rfl, ok, q⟩
  cases ok with
  | tup xs hl hx =>
    refine ⟨by decide, ifT (by decide) ?_⟩
    cases xs with
    | nil => exact ⟨rfl, q⟩
    | cons y ys =>
      refine ⟨rfl, y, (show atI (y :: ys) ((0 : Nat) : Int) = some y from atI_nat rfl), ?_⟩
      have oy := hx y List.mem_cons_self
      cases oy with
      | str z hz =>
        refine ⟨by decide, ifT (by decide) ⟨.str z, (show atI (.str z :: ys) ((0 : Nat) : Int) = some (.str z) from atI_nat rfl), flat_strs ws z, ?_⟩⟩
        rw [inD_strs]
        exact q
      | _ => exact ⟨by decide, ifF (by decide) q⟩
  | _ => exact ⟨by decide, ifF (by decide) q⟩
def isNon : Da → Bool
  | .non => true
  | _ => false
def tableB : Da → Bool
  | .tup xs => (decide (0 < xs.length) && decide (xs.length ≤ 3)) && xs.all fun e => isNon e || isFr e 0 2
  | _ => false
def spTable : DSp := fun ds M Q _ => ∃ x, ds = [x] ∧ pv x ∧ Q (.bl (tableB x)) M
theorem D_is_deed_table {P : Program} {w : World} {K : PySem.W.Frag} {mg : Str → Option Value} {base : Heap} {C_Procedure : Addr} {C_Program : Addr} {C_Space : Addr} {C_Reckoner : Addr} {C_InvalidProgram : Addr} {C_InvalidOperation : Addr} (A : Facts K C_Procedure C_Program C_Space C_Reckoner C_InvalidProgram C_InvalidOperation) (M : MgOf K mg) (Z : Zs mg) (D_is_from : KnD P w K mg base "is_from" 2 ["value", "first", "last"] spIsFrom) : KnD P w K mg base "is_deed_table" 3 ["value"] spTable := by
  refine KnD.of A.d_is_deed_table M sc_is_deed_table (fun _ _ _ _ _ _ us hl => match us, hl with | [_], _ => rfl) (fun ds M Q E ⟨_, h, _⟩ => by rw [h]; rfl) (fun f cdv A0 outer s H E hr => ?_)
  have hu := U.hu_of hr
  have hu1 := U.hu1_of hr
  have nd := sc_is_deed_table.nd
  refine ⟨_, (z_cons (z_if (d_w (d_or (d_tnot (d_tv (d_b Z.isinstance b_isinstance (c_disiK (K := K) rfl) (d_cons (dn 0) (d_cons (d_ty Z.tuple b_tuple) d_nil))))) (d_or1 (d_tnot (d_tch o_dlt o_dle d_int (d_b Z.len b_len c_dlen (d_cons (dn 0) d_nil)) (d_gi Z.c_MAX_MODES)))))) (z_one (z_ret d_bl)) z_nil)
      (z_one (z_ret (d_b Z.all b_all (c_dall rfl) (d_cons (d_lc (own := [("entry", 1)]) (c := (.n 1)) rfl nd (d_it (dn 0)) (blkOk_by (own := [("entry", 1)]) (N := N_is_deed_table) (sc := defScope s_is_deed_table) (by decide +kernel)) (fun _ _ _ _ _ => (gn 1 nd)) (fun _ _ _ _ _ => d_ts0) (fun _ _ _ _ _ => (d_eor (d_ecm o_disN (dn 1) d_non) (d_one (d_call D_is_from (hr.mono (by decide)) (d_cons (dn 1) (d_cons d_int (d_cons (d_op o_dsub (d_gi Z.c_MAX_MODES) d_int) d_nil)))))))) d_nil))))), ?_⟩
  rintro ds M Q Ed ⟨x, rfl, ok, q⟩
  cases ok with
  | tup xs hl hx =>
    have no : (decide (0 < xs.length) && decide (xs.length ≤ 3)) = false → Q (.bl false) M := fun e => by
      have k' : Q (.bl ((decide (0 < xs.length) && decide (xs.length ≤ 3)) && xs.all fun e => isNon e || isFr e 0 2)) M := q
      rw [e] at k'
      exact k'
    refine ⟨by decide, ifF (by decide) (ite2 (fun c => ?_) (fun c => ?_))⟩
    · have c' : 0 < xs.length := by have := of_decide_eq_true c; omega
      refine ite2 (fun c2 => ?_) (fun c2 => ?_)
      · refine no ?_
        rw [decide_eq_false (p := xs.length ≤ 3) (fun h => by rw [decide_eq_true (by omega)] at c2; cases c2), Bool.and_false]
      · have c8 : xs.length ≤ 3 := by
          apply Classical.byContradiction
          intro h
          exact c2 (by rw [decide_eq_false (by omega)]; rfl)
        refine ⟨sz (by omega), ?_⟩
        have key : xs = xs.map id := (List.map_id xs).symm
        rw [key]
        refine lcD_all (fun e => Da.bl (isNon e || isFr e 0 2)) (fun _ _ => trivial) (fun e he Q q => ?_) ?_
        · have oe := hx e he
          cases oe with
          | non => exact q
          | _ => exact ⟨_, 0, 2, rfl, hx _ he, q⟩
        · refine ⟨_, asBls_fun _ _, ?_⟩
          rw [List.all_map]
          have k' : Q (.bl ((decide (0 < xs.length) && decide (xs.length ≤ 3)) && xs.all fun e => isNon e || isFr e 0 2)) M := q
          rw [decide_eq_true c', decide_eq_true c8] at k'
          exact k'
    · refine ifT (by rfl) (no ?_)
      rw [decide_eq_false (fun h => c (decide_eq_true (by omega)))]
      rfl
  | _ => exact ⟨by decide, ifT (by decide) (ifT (by rfl) q)⟩
/-- the names' kinds -/
def KD (kvs : List (Key × Da)) : Prop := ∀ p ∈ kvs, ∃ z, p.2 = .str z
theorem KD.val {kvs : List (Key × Da)} (h : KD kvs) (k : Key) : valD kvs k = none ∨ ∃ z, valD kvs k = some (.str z) := by
  unfold valD
  cases e : kvs.find? fun kv => decide (kv.1 = k) with
  | none => exact .inl rfl
  | some p =>
    obtain ⟨z, hz⟩ := h p (List.mem_of_find?_eq_some e)
    exact .inr ⟨z, by rw [Option.map_some, hz]⟩
def strIs (o : Option Da) (k : Str) : Bool := match o with
  | some (.str z) => decide (z = k)
  | _ => false
def kindB (kvs : List (Key × Da)) (k : Str) : Da → Bool
  | .str z => strIs (valD kvs (.inr z)) k
  | _ => false
def spKind : DSp := fun ds M Q _ => ∃ kvs x k, ds = [.dct kvs, x, .str k] ∧ pv x ∧ KD kvs ∧ PyData.strOk k = true ∧ Q (.bl (kindB kvs k x)) M
theorem D_is_kind {P : Program} {w : World} {K : PySem.W.Frag} {mg : Str → Option Value} {base : Heap} {C_Procedure : Addr} {C_Program : Addr} {C_Space : Addr} {C_Reckoner : Addr} {C_InvalidProgram : Addr} {C_InvalidOperation : Addr} (A : Facts K C_Procedure C_Program C_Space C_Reckoner C_InvalidProgram C_InvalidOperation) (M : MgOf K mg) (Z : Zs mg)  : KnD P w K mg base "is_kind" 1 ["kinds", "value", "kind"] spKind := by
  refine KnD.of A.d_is_kind M sc_is_kind (fun _ _ _ _ _ _ us hl => match us, hl with | [_, _, _], _ => rfl) (fun ds M Q E ⟨_, _, _, h, _⟩ => by rw [h]; rfl) (fun f cdv A0 outer s H E hr => ?_)
  have hu := U.hu_of hr
  have hu1 := U.hu1_of hr
  have nd := sc_is_kind.nd
  refine ⟨_, (z_one (z_ret (d_eand (d_b Z.isinstance b_isinstance (c_disiK (K := K) rfl) (d_cons (dn 1) (d_cons (d_ty Z.str b_str) d_nil))) (d_one (d_ecm (o_deq hu) (d_get hu (dn 0) (dn 1)) (dn 2)))))), ?_⟩
  rintro ds M Q Ed ⟨kvs, x, k, rfl, ok, hk, hs, q⟩
  cases ok with
  | str z hz =>
    refine ⟨by decide, ifT (by decide) ⟨trivial, _, rfl, ?_⟩⟩
    have q' : Q (.bl (strIs (valD kvs (.inr z)) k)) M := q
    rcases hk.val (.inr z) with e | ⟨y, e⟩
    · rw [e] at q' ⊢
      exact ⟨rfl, (okN_str hs (n := 0)).ok (by decide), q'⟩
    · rw [e] at q' ⊢
      exact q'
  | _ => exact ⟨by decide, ifF (by decide) q⟩
def TW : List Str := ["do", "seq", "or", "run", "call", "wrap"]
def WW : List Str := ["own", "with"]
/-- a piece's body, by what is told of the pieces in it -/
def bodyB (r : List Str → Da → Bool) (kvs : List (Key × Da)) (z : Str) (xs : List Da) : Bool :=
  if z = "do" then (match xs with | [w, t] => nameD w && tableB t | _ => false)
  else if z = "seq" then xs.all (r TW)
  else if z = "or" then (match xs with | [] => false | f :: ts => (f :: ts).all (r TW))
  else if z = "run" then (match xs with | [p] => kindB kvs "block" p | _ => false)
  else if z = "own" then (match xs with | [p] => kindB kvs "wrap" p | _ => false)
  else if z = "call" then (match xs with | n :: gs => nameD n && gs.all fun g => r TW g || r WW g | _ => false)
  else if z = "with" then (match xs with | n :: gs => nameD n && gs.all fun g => r TW g || r WW g | _ => false)
  else if z = "wrap" then (match xs with | [w, t] => r WW w && r TW t | _ => false)
  else false
def pcB (kvs : List (Key × Da)) : Nat → List Str → Da → Bool
  | 0, _, _ => false
  | n + 1, ws, .tup (.str z :: xs) => ws.contains z && bodyB (pcB kvs n) kvs z xs
  | _, _, _ => false
def spIn (ws : List Str) (n : Nat) : DSp := fun ds M Q _ => ∃ x kvs, ds = [x, .dct kvs, .int (n : Nat)] ∧ pv x ∧ KD kvs ∧ Q (.bl (pcB kvs n ws x)) M
def spGiven (n : Nat) : DSp := fun ds M Q _ => ∃ xs kvs, ds = [.lst xs, .dct kvs, .int (n : Nat)] ∧ xs.length ≤ 5000 ∧ (∀ x ∈ xs, pv x) ∧ KD kvs ∧ Q (.bl (xs.all fun g => pcB kvs n TW g || pcB kvs n WW g)) M
def spPiece (n : Nat) : DSp := fun ds M Q _ => ∃ z xs kvs m, ds = [.tup (.str z :: xs), .dct kvs, .int (n : Nat)] ∧ n = m + 1 ∧ pv (.tup (.str z :: xs)) ∧ KD kvs ∧ Q (.bl (bodyB (pcB kvs m) kvs z xs)) M
theorem hasW_shape {ws : List Str} {x : Da} (h : hasW ws x = true) : ∃ z xs, x = .tup (.str z :: xs) ∧ ws.contains z = true := by
  cases x with
  | tup ys =>
    cases ys with
    | nil => cases h
    | cons y ys =>
      cases y with
      | str z => exact ⟨z, ys, rfl, h⟩
      | _ => cases h
  | _ => cases h
theorem pcB_no {kvs : List (Key × Da)} {ws : List Str} {x : Da} (h : hasW ws x = false) : ∀ n, pcB kvs n ws x = false
  | 0 => rfl
  | n + 1 => by
    cases x with
    | tup ys =>
      cases ys with
      | nil => rfl
      | cons y ys =>
        cases y with
        | str z =>
          show (ws.contains z && _) = false
          rw [show ws.contains z = false from h]; rfl
        | _ => rfl
    | _ => rfl
theorem pcB_yes {kvs : List (Key × Da)} {ws : List Str} {z : Str} {xs : List Da} (h : ws.contains z = true) (n : Nat) : pcB kvs (n + 1) ws (.tup (.str z :: xs)) = bodyB (pcB kvs n) kvs z xs := by
  show (ws.contains z && _) = _
  rw [h]; rfl
section
variable {P : Program} {w : World} {K : PySem.W.Frag} {mg : Str → Option Value} {base : Heap} {C_Procedure : Addr} {C_Program : Addr} {C_Space : Addr} {C_Reckoner : Addr} {C_InvalidProgram : Addr} {C_InvalidOperation : Addr}
theorem T_is_term_in (A : Facts K C_Procedure C_Program C_Space C_Reckoner C_InvalidProgram C_InvalidOperation) (M : MgOf K mg) (Z : Zs mg) {n : Nat} (D_has_word : KnD P w K mg base "has_word" 1 ["value", "words"] spHas) (D_is_piece : KnD P w K mg base "is_piece" (3 * n + 2) ["value", "kinds", "deep"] (spPiece n)) : KnD P w K mg base "is_term_in" (3 * n + 3) ["value", "kinds", "deep"] (spIn TW n) := by
  refine KnD.of A.d_is_term_in M sc_is_term_in (fun _ _ _ _ _ _ us hl => match us, hl with | [_, _, _], _ => rfl) (fun ds M Q E ⟨_, _, h, _⟩ => by rw [h]; rfl) (fun f cdv A0 outer s H E hr => ?_)
  have hu := U.hu_of hr
  have hu1 := U.hu1_of hr
  have nd := sc_is_term_in.nd
  refine ⟨_, (z_one (z_ret (d_eand (d_call D_has_word (hr.mono (by omega)) (d_cons (dn 0) (d_cons (d_gt M A.c_TERM_WORDS) d_nil))) (d_eand (d_ecm o_dgt (dn 2) d_int) (d_one (d_call D_is_piece (hr.mono (by omega)) (d_cons (dn 0) (d_cons (dn 1) (d_cons (dn 2) d_nil))))))))), ?_⟩
  rintro ds M Q Ed ⟨x, kvs, rfl, ok, hk, q⟩
  refine ⟨x, TW, rfl, ok, ?_⟩
  cases c : hasW TW x with
  | false =>
    rw [pcB_no c] at q
    exact ifF Bool.false_ne_true q
  | true =>
    obtain ⟨z, xs, rfl, hz⟩ := hasW_shape c
    refine ifT rfl ?_
    cases n with
    | zero => exact q
    | succ m =>
      rw [pcB_yes hz] at q
      refine ifT (decide_eq_true (by omega)) ⟨z, xs, kvs, m, rfl, rfl, ok, hk, q⟩
theorem T_is_wrap_in (A : Facts K C_Procedure C_Program C_Space C_Reckoner C_InvalidProgram C_InvalidOperation) (M : MgOf K mg) (Z : Zs mg) {n : Nat} (D_has_word : KnD P w K mg base "has_word" 1 ["value", "words"] spHas) (D_is_piece : KnD P w K mg base "is_piece" (3 * n + 2) ["value", "kinds", "deep"] (spPiece n)) : KnD P w K mg base "is_wrap_in" (3 * n + 3) ["value", "kinds", "deep"] (spIn WW n) := by
  refine KnD.of A.d_is_wrap_in M sc_is_wrap_in (fun _ _ _ _ _ _ us hl => match us, hl with | [_, _, _], _ => rfl) (fun ds M Q E ⟨_, _, h, _⟩ => by rw [h]; rfl) (fun f cdv A0 outer s H E hr => ?_)
  have hu := U.hu_of hr
  have hu1 := U.hu1_of hr
  have nd := sc_is_wrap_in.nd
  refine ⟨_, (z_one (z_ret (d_eand (d_call D_has_word (hr.mono (by omega)) (d_cons (dn 0) (d_cons (d_gt M A.c_WRAP_WORDS) d_nil))) (d_eand (d_ecm o_dgt (dn 2) d_int) (d_one (d_call D_is_piece (hr.mono (by omega)) (d_cons (dn 0) (d_cons (dn 1) (d_cons (dn 2) d_nil))))))))), ?_⟩
  rintro ds M Q Ed ⟨x, kvs, rfl, ok, hk, q⟩
  refine ⟨x, WW, rfl, ok, ?_⟩
  cases c : hasW WW x with
  | false =>
    rw [pcB_no c] at q
    exact ifF Bool.false_ne_true q
  | true =>
    obtain ⟨z, xs, rfl, hz⟩ := hasW_shape c
    refine ifT rfl ?_
    cases n with
    | zero => exact q
    | succ m =>
      rw [pcB_yes hz] at q
      refine ifT (decide_eq_true (by omega)) ⟨z, xs, kvs, m, rfl, rfl, ok, hk, q⟩
theorem hc_skip {c : CasD} {r : List CasD} {z : Str} {xs : List Da} {D : DEnds} {δ : De} {M : Mm} (h : c.cs.contains z = false) (q : hCases r z xs D δ M) : hCases (c :: r) z xs D δ M := by
  unfold hCases
  split
  · exact ifF (by rw [h, Bool.and_false]; exact Bool.false_ne_true) q
  · exact ifF (by rw [h, Bool.and_false]; exact Bool.false_ne_true) q
theorem hc_hit {cs : List Str} {is : List Nat} {b : DTS} {r : List CasD} {z : Str} {xs : List Da} {D : DEnds} {δ : De} {M : Mm} (h : cs.contains z = true) (hl : xs.length = is.length) (q : b D (setAll is xs δ) M) : hCases (⟨cs, is, none, b⟩ :: r) z xs D δ M :=
  ifT (c := (xs.length == is.length && cs.contains z) = true) (by rw [h, hl]; simp) q
theorem hc_miss {cs : List Str} {is : List Nat} {b : DTS} {r : List CasD} {z : Str} {xs : List Da} {D : DEnds} {δ : De} {M : Mm} (hl : xs.length ≠ is.length) (q : hCases r z xs D δ M) : hCases (⟨cs, is, none, b⟩ :: r) z xs D δ M :=
  ifF (c := (xs.length == is.length && cs.contains z) = true) (by simp [hl]) q
theorem hc_star {cs : List Str} {is : List Nat} {j : Nat} {b : DTS} {r : List CasD} {z : Str} {xs : List Da} {D : DEnds} {δ : De} {M : Mm} (h : cs.contains z = true) (hl : is.length ≤ xs.length) (q : b D (setAll (is ++ [j]) (xs.take is.length ++ [.lst (xs.drop is.length)]) δ) M) : hCases (⟨cs, is, some j, b⟩ :: r) z xs D δ M :=
  ifT (c := (decide (is.length ≤ xs.length) && cs.contains z) = true) (by rw [h, decide_eq_true hl]; rfl) q
theorem hc_short {cs : List Str} {is : List Nat} {j : Nat} {b : DTS} {r : List CasD} {z : Str} {xs : List Da} {D : DEnds} {δ : De} {M : Mm} (hl : ¬ is.length ≤ xs.length) (q : hCases r z xs D δ M) : hCases (⟨cs, is, some j, b⟩ :: r) z xs D δ M :=
  ifF (c := (decide (is.length ≤ xs.length) && cs.contains z) = true) (by rw [decide_eq_false hl, Bool.false_and]; exact Bool.false_ne_true) q
theorem T_are_given (A : Facts K C_Procedure C_Program C_Space C_Reckoner C_InvalidProgram C_InvalidOperation) (M : MgOf K mg) (Z : Zs mg) {n : Nat} (D_is_term_in : KnD P w K mg base "is_term_in" (3 * n + 3) ["value", "kinds", "deep"] (spIn TW n)) (D_is_wrap_in : KnD P w K mg base "is_wrap_in" (3 * n + 3) ["value", "kinds", "deep"] (spIn WW n)) : KnD P w K mg base "are_given" (3 * n + 4) ["given", "kinds", "deep"] (spGiven n) := by
  refine KnD.of A.d_are_given M sc_are_given (fun _ _ _ _ _ _ us hl => match us, hl with | [_, _, _], _ => rfl) (fun ds M Q E ⟨_, _, h, _⟩ => by rw [h]; rfl) (fun f cdv A0 outer s H E hr => ?_)
  have hu := U.hu_of hr
  have hu1 := U.hu1_of hr
  have nd := sc_are_given.nd
  refine ⟨_, (z_one (z_ret (d_b Z.all b_all (c_dall rfl) (d_cons (d_lc (own := [("value", 3)]) (c := (.n 3)) rfl nd (d_it (dn 0)) (blkOk_by (own := [("value", 3)]) (N := N_are_given) (sc := defScope s_are_given) (by decide +kernel)) (fun _ _ _ _ _ => (gn 3 nd)) (fun _ _ _ _ _ => d_ts0) (fun _ _ _ _ _ => (d_eor (d_call D_is_term_in (hr.mono (by omega)) (d_cons (dn 3) (d_cons (dn 1) (d_cons (dn 2) d_nil)))) (d_one (d_call D_is_wrap_in (hr.mono (by omega)) (d_cons (dn 3) (d_cons (dn 1) (d_cons (dn 2) d_nil)))))))) d_nil)))), ?_⟩
  rintro ds M Q Ed ⟨xs, kvs, rfl, hl, ok, hk, q⟩
  refine ⟨sz (by omega), ?_⟩
  have key : xs = xs.map id := (List.map_id xs).symm
  rw [key]
  refine lcD_all (fun g => Da.bl (pcB kvs n TW g || pcB kvs n WW g)) (fun _ _ => trivial) (fun g hg Q q => ⟨g, kvs, rfl, ok g hg, hk, ?_⟩) ?_
  · cases c : pcB kvs n TW g with
    | true => rw [c] at q; exact q
    | false => rw [c] at q; exact ⟨g, kvs, rfl, ok g hg, hk, q⟩
  · refine ⟨_, asBls_fun _ _, ?_⟩
    rw [List.all_map]
    exact q
end

end K28
set_option Elab.async false
set_option linter.all false
set_option maxRecDepth 100000
set_option maxHeartbeats 4000000


namespace K28
open PySem PySem.Spec PyProof.Rows L2 U
section
variable {P : Program} {w : World} {K : PySem.W.Frag} {mg : Str → Option Value} {base : Heap} {C_Procedure : Addr} {C_Program : Addr} {C_Space : Addr} {C_Reckoner : Addr} {C_InvalidProgram : Addr} {C_InvalidOperation : Addr}
theorem T_is_piece (A : Facts K C_Procedure C_Program C_Space C_Reckoner C_InvalidProgram C_InvalidOperation) (M : MgOf K mg) (Z : Zs mg) {n : Nat} (D_is_name : KnD P w K mg base "is_name" 1 ["value"] spIsName) (D_is_deed_table : KnD P w K mg base "is_deed_table" 3 ["value"] spTable) (D_is_kind : KnD P w K mg base "is_kind" 1 ["kinds", "value", "kind"] spKind) (D_is_term_in : KnD P w K mg base "is_term_in" (3 * n + 3) ["value", "kinds", "deep"] (spIn TW n)) (D_is_wrap_in : KnD P w K mg base "is_wrap_in" (3 * n + 3) ["value", "kinds", "deep"] (spIn WW n))
    (D_are_given : KnD P w K mg base "are_given" (3 * n + 4) ["given", "kinds", "deep"] (spGiven n)) : KnD P w K mg base "is_piece" (3 * n + 5) ["value", "kinds", "deep"] (spPiece (n + 1)) := by
  refine KnD.of A.d_is_piece M sc_is_piece (fun _ _ _ _ _ _ us hl => match us, hl with | [_, _, _], _ => rfl) (fun ds M Q E ⟨_, _, _, _, h, _⟩ => by rw [h]; rfl) (fun f cdv A0 outer s H E hr => ?_)
  have hu := U.hu_of hr
  have hu1 := U.hu1_of hr
  have nd := sc_is_piece.nd
  refine ⟨_, (z_cons (z_match rfl nd (dn 0) (.cons (ns' := []) (is := [3, 4]) .one (.cons (.cons .nil)) (Slts.cons (i := 3) rfl (Slts.cons (i := 4) rfl Slts.nil)) (z_one (z_ret (d_eand (d_call D_is_name (hr.mono (by omega)) (d_cons (dn 3) d_nil)) (d_one (d_call D_is_deed_table (hr.mono (by omega)) (d_cons (dn 4) d_nil))))))
      (.star (is := []) (j := 5) .one .nil (Slts.cons (i := 5) rfl Slts.nil) (z_one (z_ret (d_b Z.all b_all (c_dall rfl) (d_cons (d_lc (own := [("one", 12)]) (c := (.n 12)) rfl nd (d_it (dn 5)) (blkOk_by (own := [("one", 12)]) (N := N_is_piece) (sc := defScope s_is_piece) (by decide +kernel)) (fun _ _ _ _ _ => (gn 12 nd)) (fun _ _ _ _ _ => d_ts0) (fun _ _ _ _ _ => (d_call D_is_term_in (hr.mono (by omega)) (d_cons (dn 12) (d_cons (dn 1) (d_cons (d_op o_dsub (dn 2) d_int) d_nil)))))) d_nil))))
      (.star (is := [6]) (j := 5) .one (.cons .nil) (Slts.cons (i := 6) rfl (Slts.cons (i := 5) rfl Slts.nil)) (z_one (z_ret (d_b Z.all b_all (c_dall rfl) (d_cons (d_lc (own := [("one", 12)]) (c := (.n 12)) rfl nd (d_it (d_lst (d_cons (dn 6) (d_star (dn 5) d_nil)))) (blkOk_by (own := [("one", 12)]) (N := N_is_piece) (sc := defScope s_is_piece) (by decide +kernel)) (fun _ _ _ _ _ => (gn 12 nd)) (fun _ _ _ _ _ => d_ts0) (fun _ _ _ _ _ => (d_call D_is_term_in (hr.mono (by omega)) (d_cons (dn 12) (d_cons (dn 1) (d_cons (d_op o_dsub (dn 2) d_int) d_nil)))))) d_nil))))
      (.cons (ns' := []) (is := [7]) .one (.cons .nil) (Slts.cons (i := 7) rfl Slts.nil) (z_one (z_ret (d_call D_is_kind (hr.mono (by omega)) (d_cons (dn 1) (d_cons (dn 7) (d_cons (d_gs Z.c_BLOCK) d_nil))))))
      (.cons (ns' := []) (is := [7]) .one (.cons .nil) (Slts.cons (i := 7) rfl Slts.nil) (z_one (z_ret (d_call D_is_kind (hr.mono (by omega)) (d_cons (dn 1) (d_cons (dn 7) (d_cons (d_gs Z.c_WRAP) d_nil))))))
      (.star (is := [8]) (j := 9) .one (.cons .nil) (Slts.cons (i := 8) rfl (Slts.cons (i := 9) rfl Slts.nil)) (z_one (z_ret (d_eand (d_call D_is_name (hr.mono (by omega)) (d_cons (dn 8) d_nil)) (d_one (d_call D_are_given (hr.mono (by omega)) (d_cons (dn 9) (d_cons (dn 1) (d_cons (d_op o_dsub (dn 2) d_int) d_nil))))))))
      (.star (is := [8]) (j := 9) .one (.cons .nil) (Slts.cons (i := 8) rfl (Slts.cons (i := 9) rfl Slts.nil)) (z_one (z_ret (d_eand (d_call D_is_name (hr.mono (by omega)) (d_cons (dn 8) d_nil)) (d_one (d_call D_are_given (hr.mono (by omega)) (d_cons (dn 9) (d_cons (dn 1) (d_cons (d_op o_dsub (dn 2) d_int) d_nil))))))))
      (.cons (ns' := []) (is := [10, 11]) .one (.cons (.cons .nil)) (Slts.cons (i := 10) rfl (Slts.cons (i := 11) rfl Slts.nil)) (z_one (z_ret (d_eand (d_call D_is_wrap_in (hr.mono (by omega)) (d_cons (dn 10) (d_cons (dn 1) (d_cons (d_op o_dsub (dn 2) d_int) d_nil)))) (d_one (d_call D_is_term_in (hr.mono (by omega)) (d_cons (dn 11) (d_cons (dn 1) (d_cons (d_op o_dsub (dn 2) d_int) d_nil))))))))
      .nil)))))))))
      (z_one (z_ret d_bl))), ?_⟩
  rintro ds M Q Ed ⟨z, xs, kvs, m, rfl, hm, ok, hk, q⟩
  obtain rfl : n = m := by omega
  have ok1 : xs.length ≤ 4999 ∧ ∀ x ∈ xs, pv x := by
    cases ok with
    | tup _ hl hx => exact ⟨by rw [List.length_cons] at hl; omega, fun x h => hx x (List.mem_cons_of_mem _ h)⟩
  obtain ⟨hl, hx⟩ := ok1
  have hd : ((n + 1 : Nat) : Int) - 1 = (n : Int) := by omega
  refine ⟨show xs.length ≤ 10000 by omega, ?_⟩
  unfold bodyB at q
  by_cases e1 : z = "do"
  · subst e1
    rw [if_pos rfl] at q
    match xs, hl, hx, q with
    | [w, t], _, hx, q =>
      have q : Q (.bl (nameD w && tableB t)) M := q
      refine hc_hit rfl rfl ?_
      refine ⟨w, rfl, hx w (by simp), ?_⟩
      cases c : nameD w with
      | false =>
        rw [c] at q
        exact q
      | true =>
        rw [c] at q
        exact ⟨t, rfl, hx t (by simp), q⟩
    | [], _, _, q => exact hc_miss (by decide) (hc_skip rfl (hc_skip rfl (hc_skip rfl (hc_skip rfl (hc_skip rfl (hc_skip rfl (hc_skip rfl q)))))))
    | [_], _, _, q => exact hc_miss (by simp) (hc_skip rfl (hc_skip rfl (hc_skip rfl (hc_skip rfl (hc_skip rfl (hc_skip rfl (hc_skip rfl q)))))))
    | _ :: _ :: _ :: _, _, _, q => exact hc_miss (by simp) (hc_skip rfl (hc_skip rfl (hc_skip rfl (hc_skip rfl (hc_skip rfl (hc_skip rfl (hc_skip rfl q)))))))
  rw [if_neg e1] at q
  by_cases e2 : z = "seq"
  · subst e2
    rw [if_pos rfl] at q
    refine hc_skip rfl (hc_star rfl (Nat.zero_le _) ?_)
    refine ⟨sz (show (xs.drop 0).length ≤ 1000000 by rw [List.drop_zero]; omega), ?_⟩
    show lcD _ _ _ _ (xs.drop 0) _ _
    rw [List.drop_zero]
    have key : xs = xs.map id := (List.map_id xs).symm
    rw [key]
    refine lcD_all (fun g => Da.bl (pcB kvs n TW g)) (fun _ _ => trivial) (fun g hg Q q => ⟨g, kvs, (by rw [hd] <;> rfl), hx g hg, hk, q⟩) ?_
    refine ⟨_, asBls_fun _ _, ?_⟩
    rw [List.all_map]
    exact q
  rw [if_neg e2] at q
  by_cases e3 : z = "or"
  · subst e3
    rw [if_pos rfl] at q
    match xs, hl, hx, q with
    | f :: ts, hl, hx, q =>
      refine hc_skip rfl (hc_skip rfl (hc_star rfl (Nat.succ_le_succ (Nat.zero_le _)) ?_))
      refine ⟨sz (by simp; simp at hl; omega), sz (by simp; simp at hl; omega), ?_⟩
      have key : f :: (ts ++ []) = (f :: ts).map id := by rw [List.append_nil, List.map_id]
      show lcD _ _ _ _ (f :: (ts ++ [])) _ _
      rw [key]
      refine lcD_all (fun g => Da.bl (pcB kvs n TW g)) (fun _ _ => trivial) (fun g hg Q q => ⟨g, kvs, (by rw [hd] <;> rfl), hx g hg, hk, q⟩) ?_
      refine ⟨_, asBls_fun _ _, ?_⟩
      rw [List.all_map]
      exact q
    | [], _, _, q => exact hc_skip rfl (hc_skip rfl (hc_short (by decide) (hc_skip rfl (hc_skip rfl (hc_skip rfl (hc_skip rfl (hc_skip rfl (q))))))))
  rw [if_neg e3] at q
  by_cases e4 : z = "run"
  · subst e4
    rw [if_pos rfl] at q
    match xs, hx, q with
    | [p], hx, q =>
      refine hc_skip rfl (hc_skip rfl (hc_skip rfl (hc_hit rfl rfl ?_)))
      exact ⟨kvs, p, "block", rfl, hx p (by simp), hk, by decide +kernel, q⟩
    | [], _, q => exact hc_skip rfl (hc_skip rfl (hc_skip rfl (hc_miss (by decide) (hc_skip rfl (hc_skip rfl (hc_skip rfl (hc_skip rfl (q))))))))
    | _ :: _ :: _, _, q => exact hc_skip rfl (hc_skip rfl (hc_skip rfl (hc_miss (by simp) (hc_skip rfl (hc_skip rfl (hc_skip rfl (hc_skip rfl (q))))))))
  rw [if_neg e4] at q
  by_cases e5 : z = "own"
  · subst e5
    rw [if_pos rfl] at q
    match xs, hx, q with
    | [p], hx, q =>
      refine hc_skip rfl (hc_skip rfl (hc_skip rfl (hc_skip rfl (hc_hit rfl rfl ?_))))
      exact ⟨kvs, p, "wrap", rfl, hx p (by simp), hk, by decide +kernel, q⟩
    | [], _, q => exact hc_skip rfl (hc_skip rfl (hc_skip rfl (hc_skip rfl (hc_miss (by decide) (hc_skip rfl (hc_skip rfl (hc_skip rfl (q))))))))
    | _ :: _ :: _, _, q => exact hc_skip rfl (hc_skip rfl (hc_skip rfl (hc_skip rfl (hc_miss (by simp) (hc_skip rfl (hc_skip rfl (hc_skip rfl (q))))))))
  rw [if_neg e5] at q
  by_cases e6 : z = "call"
  · subst e6
    rw [if_pos rfl] at q
    match xs, hl, hx, q with
    | m :: gs, hl, hx, q =>
      have q : Q (.bl (nameD m && gs.all fun g => pcB kvs n TW g || pcB kvs n WW g)) M := q
      refine hc_skip rfl (hc_skip rfl (hc_skip rfl (hc_skip rfl (hc_skip rfl (hc_star rfl (Nat.succ_le_succ (Nat.zero_le _)) ?_)))))
      refine ⟨m, rfl, hx m (by simp), ?_⟩
      cases c : nameD m with
      | false =>
        rw [c] at q
        exact q
      | true =>
        rw [c] at q
        exact ⟨gs, kvs, (by rw [hd] <;> rfl), by rw [List.length_cons] at hl; omega, fun x h => hx x (List.mem_cons_of_mem _ h), hk, q⟩
    | [], _, _, q => exact hc_skip rfl (hc_skip rfl (hc_skip rfl (hc_skip rfl (hc_skip rfl (hc_short (by decide) (hc_skip rfl (hc_skip rfl (q))))))))
  rw [if_neg e6] at q
  by_cases e7 : z = "with"
  · subst e7
    rw [if_pos rfl] at q
    match xs, hl, hx, q with
    | m :: gs, hl, hx, q =>
      have q : Q (.bl (nameD m && gs.all fun g => pcB kvs n TW g || pcB kvs n WW g)) M := q
      refine hc_skip rfl (hc_skip rfl (hc_skip rfl (hc_skip rfl (hc_skip rfl (hc_skip rfl (hc_star rfl (Nat.succ_le_succ (Nat.zero_le _)) ?_))))))
      refine ⟨m, rfl, hx m (by simp), ?_⟩
      cases c : nameD m with
      | false =>
        rw [c] at q
        exact q
      | true =>
        rw [c] at q
        exact ⟨gs, kvs, (by rw [hd] <;> rfl), by rw [List.length_cons] at hl; omega, fun x h => hx x (List.mem_cons_of_mem _ h), hk, q⟩
    | [], _, _, q => exact hc_skip rfl (hc_skip rfl (hc_skip rfl (hc_skip rfl (hc_skip rfl (hc_skip rfl (hc_short (by decide) (hc_skip rfl (q))))))))
  rw [if_neg e7] at q
  by_cases e8 : z = "wrap"
  · subst e8
    rw [if_pos rfl] at q
    match xs, hx, q with
    | [w, t], hx, q =>
      have q : Q (.bl (pcB kvs n WW w && pcB kvs n TW t)) M := q
      refine hc_skip rfl (hc_skip rfl (hc_skip rfl (hc_skip rfl (hc_skip rfl (hc_skip rfl (hc_skip rfl (hc_hit rfl rfl ?_)))))))
      refine ⟨w, kvs, (by rw [hd] <;> rfl), hx w (by simp), hk, ?_⟩
      cases c : pcB kvs n WW w with
      | false =>
        rw [c] at q
        exact q
      | true =>
        rw [c] at q
        exact ⟨t, kvs, (by rw [hd] <;> rfl), hx t (by simp), hk, q⟩
    | [], _, q => exact hc_skip rfl (hc_skip rfl (hc_skip rfl (hc_skip rfl (hc_skip rfl (hc_skip rfl (hc_skip rfl (hc_miss (by decide) q)))))))
    | [_], _, q => exact hc_skip rfl (hc_skip rfl (hc_skip rfl (hc_skip rfl (hc_skip rfl (hc_skip rfl (hc_skip rfl (hc_miss (by simp) q)))))))
    | _ :: _ :: _ :: _, _, q => exact hc_skip rfl (hc_skip rfl (hc_skip rfl (hc_skip rfl (hc_skip rfl (hc_skip rfl (hc_skip rfl (hc_miss (by simp) q)))))))
  rw [if_neg e8] at q
  have ns : ∀ c : Str, z ≠ c → [c].contains z = false := fun c h => by simp [h]
  exact hc_skip (ns _ e1) (hc_skip (ns _ e2) (hc_skip (ns _ e3) (hc_skip (ns _ e4) (hc_skip (ns _ e5) (hc_skip (ns _ e6) (hc_skip (ns _ e7) (hc_skip (ns _ e8) q)))))))
end
section
variable {P : Program} {w : World} {K : PySem.W.Frag} {mg : Str → Option Value} {base : Heap} {C_Procedure : Addr} {C_Program : Addr} {C_Space : Addr} {C_Reckoner : Addr} {C_InvalidProgram : Addr} {C_InvalidOperation : Addr}
theorem R_in (A : Facts K C_Procedure C_Program C_Space C_Reckoner C_InvalidProgram C_InvalidOperation) (M : MgOf K mg) (Z : Zs mg) (D_has_word : KnD P w K mg base "has_word" 1 ["value", "words"] spHas) (D_is_name : KnD P w K mg base "is_name" 1 ["value"] spIsName) (D_is_deed_table : KnD P w K mg base "is_deed_table" 3 ["value"] spTable) (D_is_kind : KnD P w K mg base "is_kind" 1 ["kinds", "value", "kind"] spKind) : ∀ n, KnD P w K mg base "is_term_in" (3 * n + 3) ["value", "kinds", "deep"] (spIn TW n) ∧ KnD P w K mg base "is_wrap_in" (3 * n + 3) ["value", "kinds", "deep"] (spIn WW n)
  | 0 => by
    have h : KnD P w K mg base "is_piece" 2 ["value", "kinds", "deep"] (spPiece 0) := KnD.never A.d_is_piece M sc_is_piece (fun _ _ _ _ _ _ us hl => match us, hl with | [_, _, _], _ => rfl) fun ds M Q E ⟨_, _, _, _, _, h, _⟩ => by cases h
    exact ⟨T_is_term_in (n := 0) A M Z D_has_word h, T_is_wrap_in (n := 0) A M Z D_has_word h⟩
  | n + 1 => by
    obtain ⟨h1, h2⟩ := R_in A M Z D_has_word D_is_name D_is_deed_table D_is_kind n
    have h := T_is_piece A M Z D_is_name D_is_deed_table D_is_kind h1 h2 (T_are_given A M Z h1 h2)
    exact ⟨T_is_term_in (n := n + 1) A M Z D_has_word h, T_is_wrap_in (n := n + 1) A M Z D_has_word h⟩
theorem D_is_term_in (A : Facts K C_Procedure C_Program C_Space C_Reckoner C_InvalidProgram C_InvalidOperation) (M : MgOf K mg) (Z : Zs mg) (D_has_word : KnD P w K mg base "has_word" 1 ["value", "words"] spHas) (D_is_name : KnD P w K mg base "is_name" 1 ["value"] spIsName) (D_is_deed_table : KnD P w K mg base "is_deed_table" 3 ["value"] spTable) (D_is_kind : KnD P w K mg base "is_kind" 1 ["kinds", "value", "kind"] spKind) : KnD P w K mg base "is_term_in" 21 ["value", "kinds", "deep"] (spIn TW 6) := (R_in A M Z D_has_word D_is_name D_is_deed_table D_is_kind 6).1
end

end K28
set_option Elab.async false
set_option linter.all false
set_option maxRecDepth 100000
set_option maxHeartbeats 4000000


namespace K28
open PySem PySem.Spec PyProof.Rows L2 U
def kidsL (z : Str) (xs : List Da) : List Da :=
  if z = "seq" then xs else if z = "or" then xs else if z = "call" then xs.tail else if z = "with" then xs.tail
  else if z = "wrap" then (match xs with | [w, t] => [w, t] | _ => []) else []
def kidsD : Da → List Da
  | .tup (.str z :: xs) => kidsL z xs
  | _ => []
def allF : Nat → Da → List Da
  | 0, x => [x]
  | n + 1, x => x :: (kidsD x).flatMap (allF n)
def spInside : DSp := fun ds M Q _ => ∃ z xs, ds = [.tup (.str z :: xs)] ∧ xs.length ≤ 5000 ∧ Q (.lst (kidsL z xs)) M
def okP (kvs : List (Key × Da)) (n : Nat) (x : Da) : Prop := pcB kvs n TW x = true ∨ pcB kvs n WW x = true
theorem okP.shape {kvs : List (Key × Da)} {n : Nat} {x : Da} (h : okP kvs n x) : ∃ m z xs, n = m + 1 ∧ x = .tup (.str z :: xs) ∧ bodyB (pcB kvs m) kvs z xs = true := by
  cases n with
  | zero => rcases h with h | h <;> cases h
  | succ m =>
    have go : ∀ ws, pcB kvs (m + 1) ws x = true → ∃ m' z xs, m + 1 = m' + 1 ∧ x = .tup (.str z :: xs) ∧ bodyB (pcB kvs m') kvs z xs = true := fun ws h => by
      cases x with
      | tup ys =>
        cases ys with
        | nil => cases h
        | cons y ys =>
          cases y with
          | str z => exact ⟨m, z, ys, rfl, rfl, (Bool.and_eq_true_iff.mp h).2⟩
          | _ => cases h
      | _ => cases h
    exact h.elim (go _) (go _)
theorem kids_ok {kvs : List (Key × Da)} {n : Nat} {z : Str} {xs : List Da} (h : bodyB (pcB kvs n) kvs z xs = true) : ∀ y ∈ kidsL z xs, okP kvs n y := by
  unfold bodyB at h
  unfold kidsL
  by_cases e1 : z = "do"
  · subst e1; intro y hy; exact nomatch (show y ∈ ([] : List Da) from hy)
  rw [if_neg e1] at h
  by_cases e2 : z = "seq"
  · rw [if_pos e2] at h ⊢
    exact fun y hy => .inl (List.all_eq_true.mp h y hy)
  rw [if_neg e2] at h ⊢
  by_cases e3 : z = "or"
  · rw [if_pos e3] at h ⊢
    cases xs with
    | nil => cases h
    | cons f ts => exact fun y hy => .inl (List.all_eq_true.mp h y hy)
  rw [if_neg e3] at h ⊢
  by_cases e4 : z = "run"
  · subst e4; intro y hy; exact nomatch (show y ∈ ([] : List Da) from hy)
  rw [if_neg e4] at h
  by_cases e5 : z = "own"
  · subst e5; intro y hy; exact nomatch (show y ∈ ([] : List Da) from hy)
  rw [if_neg e5] at h
  have giv : ∀ {m : Da} {gs : List Da}, (nameD m && gs.all fun g => pcB kvs n TW g || pcB kvs n WW g) = true → ∀ y ∈ gs, okP kvs n y := fun {m gs} h y hy => by
    have := List.all_eq_true.mp (Bool.and_eq_true_iff.mp h).2 y hy
    exact Bool.or_eq_true_iff.mp this
  by_cases e6 : z = "call"
  · rw [if_pos e6] at h ⊢
    cases xs with
    | nil => cases h
    | cons m gs => exact giv h
  rw [if_neg e6] at h ⊢
  by_cases e7 : z = "with"
  · rw [if_pos e7] at h ⊢
    cases xs with
    | nil => cases h
    | cons m gs => exact giv h
  rw [if_neg e7] at h ⊢
  by_cases e8 : z = "wrap"
  · rw [if_pos e8] at h ⊢
    match xs, h with
    | [w, t], h =>
      have h' := Bool.and_eq_true_iff.mp h
      intro y hy
      rcases List.mem_cons.mp hy with rfl | hy
      · exact .inr h'.1
      · rcases List.mem_cons.mp hy with rfl | hy
        · exact .inl h'.2
        · cases hy
  · rw [if_neg e8] at h
    cases h
theorem kids_mem {z : Str} {xs : List Da} {y : Da} (h : y ∈ kidsL z xs) : y ∈ xs := by
  unfold kidsL at h
  split at h
  · exact h
  split at h
  · exact h
  split at h
  · exact List.mem_of_mem_tail h
  split at h
  · exact List.mem_of_mem_tail h
  split at h
  · split at h
    · exact h
    · cases h
  · cases h
theorem D_inside {P : Program} {w : World} {K : PySem.W.Frag} {mg : Str → Option Value} {base : Heap} {C_Procedure : Addr} {C_Program : Addr} {C_Space : Addr} {C_Reckoner : Addr} {C_InvalidProgram : Addr} {C_InvalidOperation : Addr} (A : Facts K C_Procedure C_Program C_Space C_Reckoner C_InvalidProgram C_InvalidOperation) (M : MgOf K mg) (Z : Zs mg)  : KnD P w K mg base "inside" 1 ["piece"] spInside := by
  refine KnD.of A.d_inside M sc_inside (fun _ _ _ _ _ _ us hl => match us, hl with | [_], _ => rfl) (fun ds M Q E ⟨_, _, h, _⟩ => by rw [h]; rfl) (fun f cdv A0 outer s H E hr => ?_)
  have hu := U.hu_of hr
  have hu1 := U.hu1_of hr
  have nd := sc_inside.nd
  refine ⟨_, (z_cons (z_match rfl nd (dn 0) (.star (is := []) (j := 1) .one .nil (Slts.cons (i := 1) rfl Slts.nil) (z_one (z_ret (dn 1)))
      (.star (is := []) (j := 1) .one .nil (Slts.cons (i := 1) rfl Slts.nil) (z_one (z_ret (dn 1)))
      (.star (is := [2]) (j := 3) .one (.cons .nil) (Slts.cons (i := 2) rfl (Slts.cons (i := 3) rfl Slts.nil)) (z_one (z_ret (dn 3)))
      (.star (is := [2]) (j := 3) .one (.cons .nil) (Slts.cons (i := 2) rfl (Slts.cons (i := 3) rfl Slts.nil)) (z_one (z_ret (dn 3)))
      (.cons (ns' := []) (is := [4, 5]) .one (.cons (.cons .nil)) (Slts.cons (i := 4) rfl (Slts.cons (i := 5) rfl Slts.nil)) (z_one (z_ret (d_lst (d_cons (dn 4) (d_cons (dn 5) d_nil)))))
      .nil))))))
      (z_one (z_ret (d_lst d_nil)))), ?_⟩
  rintro ds M Q Ed ⟨z, xs, rfl, hl, q⟩
  refine ⟨show xs.length ≤ 10000 by omega, ?_⟩
  unfold kidsL at q
  by_cases e2 : z = "seq"
  · subst e2
    rw [if_pos rfl] at q
    exact hc_star rfl (Nat.zero_le _) q
  rw [if_neg e2] at q
  by_cases e3 : z = "or"
  · subst e3
    rw [if_pos rfl] at q
    exact hc_skip rfl (hc_star rfl (Nat.zero_le _) q)
  rw [if_neg e3] at q
  by_cases e6 : z = "call"
  · subst e6
    rw [if_pos rfl] at q
    cases xs with
    | nil => exact hc_skip rfl (hc_skip rfl (hc_short (by decide) (hc_skip rfl (hc_skip rfl ⟨rfl, q⟩))))
    | cons m gs => exact hc_skip rfl (hc_skip rfl (hc_star rfl (Nat.succ_le_succ (Nat.zero_le _)) q))
  rw [if_neg e6] at q
  by_cases e7 : z = "with"
  · subst e7
    rw [if_pos rfl] at q
    cases xs with
    | nil => exact hc_skip rfl (hc_skip rfl (hc_skip rfl (hc_short (by decide) (hc_skip rfl ⟨rfl, q⟩))))
    | cons m gs => exact hc_skip rfl (hc_skip rfl (hc_skip rfl (hc_star rfl (Nat.succ_le_succ (Nat.zero_le _)) q)))
  rw [if_neg e7] at q
  by_cases e8 : z = "wrap"
  · subst e8
    rw [if_pos rfl] at q
    match xs, q with
    | [w, t], q => exact hc_skip rfl (hc_skip rfl (hc_skip rfl (hc_skip rfl (hc_hit rfl rfl ⟨rfl, q⟩))))
    | [], q => exact hc_skip rfl (hc_skip rfl (hc_skip rfl (hc_skip rfl (hc_miss (by decide) ⟨rfl, q⟩))))
    | [_], q => exact hc_skip rfl (hc_skip rfl (hc_skip rfl (hc_skip rfl (hc_miss (by simp) ⟨rfl, q⟩))))
    | _ :: _ :: _ :: _, q => exact hc_skip rfl (hc_skip rfl (hc_skip rfl (hc_skip rfl (hc_miss (by simp) ⟨rfl, q⟩))))
  rw [if_neg e8] at q
  have ns : ∀ c : Str, z ≠ c → [c].contains z = false := fun c h => by simp [h]
  exact hc_skip (ns _ e2) (hc_skip (ns _ e3) (hc_skip (ns _ e6) (hc_skip (ns _ e7) (hc_skip (ns _ e8) ⟨rfl, q⟩))))
def allT (todo : List (Nat × Da)) : List Da := todo.flatMap fun p => allF p.1 p.2
theorem kids_len (z : Str) (xs : List Da) : (kidsL z xs).length ≤ xs.length := by
  unfold kidsL
  split
  · exact Nat.le_refl _
  split
  · exact Nat.le_refl _
  split
  · rw [List.length_tail]; omega
  split
  · rw [List.length_tail]; omega
  split
  · split
    · exact Nat.le_refl _
    · exact Nat.zero_le _
  · exact Nat.zero_le _
theorem allF_pos (n : Nat) (x : Da) : 1 ≤ (allF n x).length := by cases n <;> simp [allF]
theorem allT_len : ∀ todo : List (Nat × Da), todo.length ≤ (allT todo).length
  | [] => Nat.le_refl _
  | t :: r => by
    show _ ≤ (allF t.1 t.2 ++ allT r).length
    rw [List.length_append, List.length_cons]
    have := allF_pos t.1 t.2
    have := allT_len r
    omega
def spPieces : DSp := fun ds M Q _ => ∃ x n kvs, ds = [x] ∧ pv x ∧ okP kvs n x ∧ (allF n x).length ≤ 100000 ∧ ∀ R, R.Perm (allF n x) → Q (.lst R) M
theorem D_pieces_of {P : Program} {w : World} {K : PySem.W.Frag} {mg : Str → Option Value} {base : Heap} {C_Procedure : Addr} {C_Program : Addr} {C_Space : Addr} {C_Reckoner : Addr} {C_InvalidProgram : Addr} {C_InvalidOperation : Addr} (A : Facts K C_Procedure C_Program C_Space C_Reckoner C_InvalidProgram C_InvalidOperation) (M : MgOf K mg) (Z : Zs mg) (D_inside : KnD P w K mg base "inside" 1 ["piece"] spInside) : KnD P w K mg base "pieces_of" 2 ["piece"] spPieces := by
  refine KnD.of A.d_pieces_of M sc_pieces_of (fun _ _ _ _ _ _ us hl => match us, hl with | [_], _ => rfl) (fun ds M Q E ⟨_, _, _, h, _⟩ => by rw [h]; rfl) (fun f cdv A0 outer s H E hr => ?_)
  have hu := U.hu_of hr
  have hu1 := U.hu1_of hr
  have nd := sc_pieces_of.nd
  refine ⟨_, (z_cons (ps_imp (ps_par (i := 1) (j := 2) rfl nd rfl rfl (by decide) rfl rfl (d_cons (d_lstM (d_cons (dn 0) d_nil)) (d_cons d_int d_nil)) (by rfl)) fun _ _ _ h => li_par h)
      (z_cons (z_while PassesOwn.never (d_tcm o_dlt (dn 2) (d_b Z.len b_len c_dlen (d_cons (dn 1) d_nil))) (z_cons (z_expr (d_extend (dn 1) (d_cons (d_call D_inside (hr.mono (by decide)) (d_cons (d_ix (dn 1) (dn 2)) d_nil)) d_nil)))
      (z_one (z_aug (i := 2) nd rfl (.inl rfl) d_int i_add))))
      (z_one (z_retF (d_stl (dn 1)))))), ?_⟩
  rintro ds M Q Ed ⟨x, n, kvs, rfl, ox, ok, hl, q⟩
  refine ⟨rfl, fun p hp => ?_⟩
  refine wh_ind (fun k δ M' => ∃ (done : List Da) (todo : List (Nat × Da)), k = (allT todo).length ∧ δ = [some x, some (.ref p), some (.int done.length)] ∧ M' = mput M p (.lst (done ++ todo.map (·.2))) ∧ (∀ t ∈ todo, okP kvs t.1 t.2 ∧ pv t.2) ∧ (done ++ allT todo).Perm (allF n x)) ?_ (n := (allF n x).length) ⟨[], [(n, x)], by simp [allT], rfl, rfl, by simp; exact ⟨ok, ox⟩, by simp [allT]⟩
  rintro k δ M' NX ⟨done, todo, rfl, rfl, rfl, hto, hpm⟩ next
  refine ⟨_, mput_same, ?_⟩
  cases todo with
  | nil =>
    refine ifF (by simp) ?_
    refine ⟨_, mput_same, M, by rw [mdel_put hp]; exact fun _ _ h => h, ?_⟩
    exact q _ (by simpa [allT] using hpm)
  | cons t rest =>
    refine ifT (decide_eq_true (by simp; omega)) ?_
    obtain ⟨⟨m, z, ys, e1, e2, hb⟩, hpv⟩ := (⟨(hto t List.mem_cons_self).1.shape, (hto t List.mem_cons_self).2⟩ : _ ∧ _)
    obtain ⟨t1, t2⟩ := t
    obtain rfl : t1 = m + 1 := e1
    obtain rfl : t2 = .tup (.str z :: ys) := e2
    have hyl : ys.length ≤ 5000 ∧ ∀ y ∈ ys, pv y := by
      cases hpv with
      | tup _ hl hx => exact ⟨by rw [List.length_cons] at hl; omega, fun x h => hx x (List.mem_cons_of_mem _ h)⟩
    have hkid : ∀ y ∈ kidsL z ys, y ∈ ys := fun y hy => kids_mem hy
    refine ⟨⟨p, _, rfl, mput_same⟩, ?_⟩
    refine ⟨_, .tup (.str z :: ys), mput_same, atI_nat (by simp), ?_⟩
    refine ⟨z, ys, rfl, hyl.1, ?_⟩
    have hlen := hpm.length_eq
    have hcons : allT ((m + 1, .tup (.str z :: ys)) :: rest) = (.tup (.str z :: ys) :: (kidsL z ys).flatMap (allF m)) ++ allT rest := rfl
    have happ : allT (rest ++ (kidsL z ys).map fun y => (m, y)) = allT rest ++ (kidsL z ys).flatMap (allF m) := by
      unfold allT
      rw [List.flatMap_append, List.flatMap_map]
    have hkl := kids_len z ys
    have hrl := allT_len rest
    refine ⟨_, mput_same, sz ?_, ?_⟩
    · rw [hcons] at hlen
      simp only [List.length_append, List.length_cons, List.length_map, List.map_cons] at hlen ⊢
      omega
    · rw [mput_put]
      refine next _ _ (allT (rest ++ (kidsL z ys).map fun y => (m, y))).length ?_ ⟨done ++ [.tup (.str z :: ys)], rest ++ (kidsL z ys).map fun y => (m, y), rfl, ?_, ?_, ?_, ?_⟩
      · rw [hcons, happ]
        simp only [List.length_append, List.length_cons]
        omega
      · show [some x, some (.ref p), some (.int ((done.length : Int) + 1))] = _
        rw [List.length_append]
        rfl
      · congr 2
        simp
        exact (List.map_id _).symm
      · intro t ht
        rcases List.mem_append.mp ht with h | h
        · exact hto t (List.mem_cons_of_mem _ h)
        · obtain ⟨y, hy, rfl⟩ := List.mem_map.mp h
          exact ⟨kids_ok hb y hy, hyl.2 y (hkid y hy)⟩
      · refine List.Perm.trans ?_ hpm
        rw [hcons, happ, List.append_assoc]
        refine List.Perm.append_left _ ?_
        show (Da.tup (.str z :: ys) :: (allT rest ++ (kidsL z ys).flatMap (allF m))).Perm (Da.tup (.str z :: ys) :: ((kidsL z ys).flatMap (allF m) ++ allT rest))
        exact List.Perm.cons _ List.perm_append_comm

end K28
set_option Elab.async false
set_option linter.all false
set_option maxRecDepth 100000
set_option maxHeartbeats 4000000


namespace K28
open PySem PySem.Spec PyProof.Rows L2 U
def parD (own : List (Str × Str)) : Da := .tup (own.map fun p => .tup [.str p.1, .str p.2])
def pr2 : Da → Bool
  | .tup [_, _] => true
  | _ => false
def prOk : Da → Bool
  | .tup [n, .str k] => nameD n && (["block", "wrap"] : List Str).contains k
  | _ => false
def nmsD (xs : List Da) : List Str := xs.filterMap fun x => match x with
  | .tup (.str z :: _) => some z
  | _ => none
def parB : Da → Bool
  | .tup xs => decide (xs.length ≤ 3) && (xs.all pr2 && (xs.all prOk && decide (nmsD xs).Nodup))
  | _ => false
structure OwnOk (own : List (Str × Str)) : Prop where
  len : own.length ≤ 3
  ok : ∀ p ∈ own, nameZ p.1 = true ∧ (["block", "wrap"] : List Str).contains p.2 = true
  nd : (own.map (·.1)).Nodup
theorem own_of {xs : List Da} (h : xs.all prOk = true) : ∃ own : List (Str × Str), xs = own.map (fun p => .tup [.str p.1, .str p.2]) ∧ ∀ p ∈ own, nameZ p.1 = true ∧ (["block", "wrap"] : List Str).contains p.2 = true := by
  induction xs with
  | nil => exact ⟨[], rfl, fun _ h => nomatch h⟩
  | cons x xs ih =>
    rw [List.all_cons, Bool.and_eq_true] at h
    obtain ⟨own, rfl, ho⟩ := ih h.2
    have hx := h.1
    unfold prOk at hx
    split at hx
    · rename_i n k
      cases n with
      | str z => exact ⟨(z, k) :: own, rfl, fun p hp => (List.mem_cons.mp hp).elim (fun e => by rw [e]; exact Bool.and_eq_true_iff.mp hx) (ho p)⟩
      | _ => cases hx
    · cases hx
theorem nms_own (own : List (Str × Str)) : nmsD (own.map fun p => .tup [.str p.1, .str p.2]) = own.map (·.1) := by
  unfold nmsD
  rw [List.filterMap_map]
  induction own with
  | nil => rfl
  | cons p r ih => rw [List.filterMap_cons, List.map_cons, ← ih]; rfl
theorem prOk_own {own : List (Str × Str)} (h : ∀ p ∈ own, nameZ p.1 = true ∧ (["block", "wrap"] : List Str).contains p.2 = true) : (own.map fun p : Str × Str => Da.tup [.str p.1, .str p.2]).all prOk = true := by
  rw [List.all_map, List.all_eq_true]
  intro p hp
  show (nameZ p.1 && _) = true
  rw [(h p hp).1, (h p hp).2]; rfl
theorem pr2_own (own : List (Str × Str)) : (own.map fun p : Str × Str => Da.tup [.str p.1, .str p.2]).all pr2 = true := by
  rw [List.all_map, List.all_eq_true]
  intro p hp
  rfl
theorem parB_own {own : List (Str × Str)} (h : OwnOk own) : parB (parD own) = true := by
  show (decide _ && _) = true
  rw [decide_eq_true (by rw [List.length_map]; exact h.len), pr2_own, prOk_own h.ok, nms_own, decide_eq_true h.nd]; rfl
theorem lcD_same {c : CT} {te : DTE} {δ : De} {M : Mm} (f : Da → Da) {l : List Da} {k : List Da → Mm → Prop} (h1 : ∀ x ∈ l, c.ok x) (h2 : ∀ x ∈ l, ∀ Q : DK, Q (f x) M → te (c.set x δ) M Q) (h : k (l.map f) M) : lcD c gYes te δ l k M := by
  have := lcD_all (g := id) (c := c) (te := te) (δ := δ) (M := M) f h1 h2 h
  rwa [List.map_id] at this
theorem prs_of : ∀ {xs : List Da}, xs.all pr2 = true → ∃ prs : List (Da × Da), xs = prs.map fun p => .tup [p.1, p.2]
  | [], _ => ⟨[], rfl⟩
  | x :: xs, h => by
    rw [List.all_cons, Bool.and_eq_true] at h
    obtain ⟨prs, rfl⟩ := prs_of h.2
    have hx := h.1
    unfold pr2 at hx
    split at hx
    · exact ⟨(_, _) :: prs, rfl⟩
    · cases hx
def spPars : DSp := fun ds M Q _ => ∃ x, ds = [x] ∧ pv x ∧ Q (.bl (parB x)) M
theorem D_are_parameters {P : Program} {w : World} {K : PySem.W.Frag} {mg : Str → Option Value} {base : Heap} {C_Procedure : Addr} {C_Program : Addr} {C_Space : Addr} {C_Reckoner : Addr} {C_InvalidProgram : Addr} {C_InvalidOperation : Addr} (A : Facts K C_Procedure C_Program C_Space C_Reckoner C_InvalidProgram C_InvalidOperation) (M : MgOf K mg) (Z : Zs mg) (D_is_name : KnD P w K mg base "is_name" 1 ["value"] spIsName) : KnD P w K mg base "are_parameters" 2 ["value"] spPars := by
  refine KnD.of A.d_are_parameters M sc_are_parameters (fun _ _ _ _ _ _ us hl => match us, hl with | [_], _ => rfl) (fun ds M Q E ⟨_, h, _⟩ => by rw [h]; rfl) (fun f cdv A0 outer s H E hr => ?_)
  have hu := U.hu_of hr
  have hu1 := U.hu1_of hr
  have nd := sc_are_parameters.nd
  refine ⟨_, (z_cons (z_if (d_w (d_or (d_tnot (d_tv (d_b Z.isinstance b_isinstance (c_disiK (K := K) rfl) (d_cons (dn 0) (d_cons (d_ty Z.tuple b_tuple) d_nil))))) (d_or1 (d_tcm o_dgt (d_b Z.len b_len c_dlen (d_cons (dn 0) d_nil)) (d_gi Z.c_MAX_PARAMETERS))))) (z_one (z_ret d_bl)) z_nil)
      (z_cons (z_if (d_tnot (d_tv (d_b Z.all b_all (c_dall rfl) (d_cons (d_lc (own := [("pair", 1)]) (c := (.n 1)) rfl nd (d_it (dn 0)) (blkOk_by (own := [("pair", 1)]) (N := N_are_parameters) (sc := defScope s_are_parameters) (by decide +kernel)) (fun _ _ _ _ _ => (gn 1 nd)) (fun _ _ _ _ _ => d_ts0) (fun _ _ _ _ _ => (d_eand (d_b Z.isinstance b_isinstance (c_disiK (K := K) rfl) (d_cons (dn 1) (d_cons (d_ty Z.tuple b_tuple) d_nil))) (d_one (d_ecm (o_deq hu) (d_b Z.len b_len c_dlen (d_cons (dn 1) d_nil)) d_int))))) d_nil)))) (z_one (z_ret d_bl)) z_nil)
      (z_cons (z_if (d_tnot (d_tv (d_b Z.all b_all (c_dall rfl) (d_cons (d_lc (own := [("name", 2), ("kind", 3)]) (c := (.t [2, 3])) rfl nd (d_it (dn 0)) (blkOk_by (own := [("name", 2), ("kind", 3)]) (N := N_are_parameters) (sc := defScope s_are_parameters) (by decide +kernel)) (fun _ _ _ _ _ => (pg_tup rfl (pgs_cons (gn 2 nd) (pgs_cons (gn 3 nd) pgs_nil)))) (fun _ _ _ _ _ => d_ts0) (fun _ _ _ _ _ => (d_eand (d_call D_is_name (hr.mono (by decide)) (d_cons (dn 2) d_nil)) (d_eand (d_b Z.isinstance b_isinstance (c_disiK (K := K) rfl) (d_cons (dn 3) (d_cons (d_ty Z.str b_str) d_nil))) (d_one (d_ecm (o_din hu1) (dn 3) (d_tup (d_cons (d_gs Z.c_BLOCK) (d_cons (d_gs Z.c_WRAP) d_nil))))))))) d_nil)))) (z_one (z_ret d_bl)) z_nil)
      (z_one (z_ret (d_ecm (o_deq hu) (d_lenSc (own := [("name", 2), ("kind", 3)]) (c := (.t [2, 3])) rfl nd (d_it (dn 0)) (blkOk_by (own := [("name", 2), ("kind", 3)]) (N := N_are_parameters) (sc := defScope s_are_parameters) (by decide +kernel)) (fun _ _ _ _ _ => (pg_tup rfl (pgs_cons (gn 2 nd) (pgs_cons (gn 3 nd) pgs_nil)))) (fun _ _ _ _ _ => d_ts0) (fun _ _ _ _ _ => (dn 2)) Z.len) (d_b Z.len b_len c_dlen (d_cons (dn 0) d_nil)))))))), ?_⟩
  rintro ds M Q Ed ⟨x, rfl, ok, q⟩
  cases ok with
  | tup xs hl hx =>
    have no : ∀ b : Bool, b = parB (.tup xs) → b = false → Q (.bl false) M := fun b e e2 => by rw [← e, e2] at q; exact q
    refine ⟨by decide, ifF (by decide) (ite2 (fun c => ?_) (fun c => ?_))⟩
    · refine no _ rfl ?_
      have := of_decide_eq_true c
      show (decide _ && _) = false
      rw [decide_eq_false (by omega)]; rfl
    · have h3 : xs.length ≤ 3 := by
        apply Classical.byContradiction
        intro h
        exact c (decide_eq_true (by omega))
      refine ⟨sz (by omega), ?_⟩
      refine lcD_same (fun e => Da.bl (pr2 e)) (fun _ _ => trivial) (fun e he Q q => ?_) ?_
      · have oe := hx e he
        cases oe with
        | tup ys hy hy2 =>
          refine ⟨by decide, ifT (by decide) ?_⟩
          have e2 : pr2 (.tup ys) = decide ((ys.length : Int) = 2) := by
            match ys with
            | [] => rfl
            | [_] => rfl
            | [_, _] => rfl
            | _ :: _ :: _ :: _ => exact (decide_eq_false (by simp; omega)).symm
          rw [e2] at q
          exact q
        | _ => exact ⟨by decide, ifF (by decide) q⟩
      · refine ⟨_, asBls_fun _ _, ?_⟩
        rw [List.all_map]
        cases c2 : xs.all pr2 with
        | false =>
          refine ifT (by show (!(xs.all pr2)) = true; rw [c2]; rfl) (no _ rfl ?_)
          show (_ && (xs.all pr2 && _)) = false
          rw [c2, Bool.false_and, Bool.and_false]
        | true =>
          refine ifF (by show ¬ (!(xs.all pr2)) = true; rw [c2]; decide) ?_
          obtain ⟨prs, rfl⟩ := prs_of c2
          have hp : ∀ p ∈ prs, pv p.1 ∧ pv p.2 := fun p hp => by
            cases hx _ (List.mem_map_of_mem hp) with
            | tup _ _ h => exact ⟨h _ (by simp), h _ (by simp)⟩
          refine ⟨sz (by omega), lcD_all (fun p => Da.bl (prOk (.tup [p.1, p.2]))) (fun _ _ => rfl) (fun p hp' Q q => ?_) ?_⟩
          · obtain ⟨a, b⟩ := p
            obtain ⟨pa, pb⟩ := hp _ hp'
            have q0 : nameD a = false → Q (.bl false) M := fun e => by
              have e2 : prOk (.tup [a, b]) = false := by
                unfold prOk
                split
                · rename_i n k h
                  cases h
                  rw [e]; rfl
                · rfl
              rw [e2] at q
              exact q
            refine ⟨a, rfl, pa, ?_⟩
            cases cn : nameD a with
            | false => exact q0 cn
            | true =>
              cases pb with
              | str k hk =>
                refine ⟨by decide, ifT (by decide) ⟨rfl, flat_strs ["block", "wrap"] k, ?_⟩⟩
                have e2 : prOk (.tup [a, .str k]) = inD (.str k) ((["block", "wrap"] : List Str).map Da.str) := by
                  rw [inD_strs]
                  show (nameD a && _) = _
                  rw [cn, Bool.true_and]
                rw [e2] at q
                exact q
              | _ => exact ⟨by decide, ifF (by decide) q⟩
          · refine ⟨_, asBls_fun _ _, ?_⟩
            have ea : ((prs.map fun p => prOk (.tup [p.1, p.2])).all id) = (prs.map fun p => Da.tup [p.1, p.2]).all prOk := by rw [List.all_map, List.all_map]; rfl
            rw [ea]
            cases c3 : (prs.map fun p => Da.tup [p.1, p.2]).all prOk with
            | false =>
              refine ifT (by decide) (no _ rfl ?_)
              show (_ && (_ && (List.all _ prOk && _))) = false
              rw [c3, Bool.false_and, Bool.and_false, Bool.and_false]
            | true =>
              refine ifF (by decide) ?_
              obtain ⟨own, e, ho⟩ := own_of c3
              rw [e] at q h3 ⊢
              have h3' : own.length ≤ 3 := by rw [List.length_map] at h3; exact h3
              refine ⟨Nat.ble_eq.mpr (by omega), lcS_all (fun p : Str × Str => p.1) (fun _ _ => rfl) (fun p hp Q q => q) fun L hL hm => ?_⟩
              have e2 : parB (.tup (own.map fun p => .tup [.str p.1, .str p.2])) = decide (((L.length : Nat) : Int) = (((own.map fun p => Da.tup [.str p.1, .str p.2]).length : Nat) : Int)) := by
                show (decide _ && (_ && (_ && decide (nmsD _).Nodup))) = _
                rw [decide_eq_true h3, pr2_own, prOk_own ho, nms_own]
                simp only [Bool.true_and]
                have := len_nodup hL hm
                rw [List.length_map] at this
                rw [List.length_map]
                by_cases hn : (own.map (·.1)).Nodup
                · rw [decide_eq_true hn, decide_eq_true (by have := this.mpr hn; omega)]
                · rw [decide_eq_false hn, decide_eq_false fun h => hn (this.mp (by omega))]
              rw [e2] at q
              exact q
  | _ => exact ⟨by decide, ifT (by decide) (ifT (by rfl) q)⟩

end K28
set_option Elab.async false
set_option linter.all false
set_option maxRecDepth 100000
set_option maxHeartbeats 4000000


namespace K28
open PySem PySem.Spec PyProof.Rows L2 U
def bodB (own : List (Str × Str)) (x : Da) : Bool := pcB (kvsD own) 6 TW x && decide ((allF 6 x).length ≤ 40)
def spBody : DSp := fun ds M Q _ => ∃ x own, ds = [x, parD own] ∧ OwnOk own ∧ pv x ∧ (pcB (kvsD own) 6 TW x = true → (allF 6 x).length ≤ 100000) ∧ Q (.bl (bodB own x)) M
theorem kvs_KD (own : List (Str × Str)) : KD (kvsD own) := fun p hp => by
  obtain ⟨q, _, rfl⟩ := List.mem_map.mp hp
  exact ⟨_, rfl⟩
theorem merge_own {own : List (Str × Str)} (h : (own.map (·.1)).Nodup) : mergeD [] (kvsD own) = kvsD own := mergeD_new (by simpa using inr_nodup h)
theorem D_is_body {P : Program} {w : World} {K : PySem.W.Frag} {mg : Str → Option Value} {base : Heap} {C_Procedure : Addr} {C_Program : Addr} {C_Space : Addr} {C_Reckoner : Addr} {C_InvalidProgram : Addr} {C_InvalidOperation : Addr} (A : Facts K C_Procedure C_Program C_Space C_Reckoner C_InvalidProgram C_InvalidOperation) (M : MgOf K mg) (Z : Zs mg) (D_is_term_in : KnD P w K mg base "is_term_in" 21 ["value", "kinds", "deep"] (spIn TW 6)) (D_pieces_of : KnD P w K mg base "pieces_of" 2 ["piece"] spPieces) : KnD P w K mg base "is_body" 22 ["value", "parameters"] spBody := by
  refine KnD.of A.d_is_body M sc_is_body (fun _ _ _ _ _ _ us hl => match us, hl with | [_, _], _ => rfl) (fun ds M Q E ⟨_, _, h, _⟩ => by rw [h]; rfl) (fun f cdv A0 outer s H E hr => ?_)
  have hu := U.hu_of hr
  have hu1 := U.hu1_of hr
  have nd := sc_is_body.nd
  refine ⟨_, (z_one (z_ret (d_eand (d_call D_is_term_in (hr.mono (by decide)) (d_cons (dn 0) (d_cons (d_t Z.dict b_dict (c_ddict rfl) (d_cons (dn 1) d_nil)) (d_cons (d_gi Z.c_MAX_DEPTH) d_nil)))) (d_one (d_ecm o_dle (d_b Z.len b_len c_dlen (d_cons (d_call D_pieces_of (hr.mono (by decide)) (d_cons (dn 0) d_nil)) d_nil)) (d_gi Z.c_MAX_TERMS)))))), ?_⟩
  rintro ds M Q Ed ⟨x, own, rfl, ho, ox, hb, q⟩
  refine ⟨kvsD own, by show _ = (kvsD own).map _; unfold kvsD; rw [List.map_map]; rfl, ?_⟩
  rw [merge_own ho.nd]
  refine ⟨x, kvsD own, rfl, ox, kvs_KD own, ?_⟩
  cases c : pcB (kvsD own) 6 TW x with
  | false =>
    have e : bodB own x = false := by unfold bodB; rw [c]; rfl
    rw [e] at q
    exact ifF (by decide) q
  | true =>
    refine ifT rfl ⟨x, 6, kvsD own, rfl, ox, .inl c, hb c, fun R hR => ?_⟩
    have e : bodB own x = decide (((R.length : Nat) : Int) ≤ 40) := by
      unfold bodB
      rw [c, Bool.true_and, hR.length_eq]
      by_cases h : (allF 6 x).length ≤ 40
      · rw [decide_eq_true h, decide_eq_true (by omega)]
      · rw [decide_eq_false h, decide_eq_false (by omega)]
    rw [e] at q
    exact q
/-- a procedure's attributes -/
def prcF (nm : Str) (own : List (Str × Str)) (body : Da) (R : List Da) : List (Str × Da) :=
  [("own_name", .str nm), ("own_parameters", parD own), ("own_body", body), ("own_kinds", .tup (own.map fun p => .str p.2)), ("own_pieces", .tup R), ("own_shape", .tup [.str nm, parD own, body])]
def Prc (C : Addr) (nm : Str) (own : List (Str × Str)) (body : Da) (R : List Da) : Da := .obj C (prcF nm own body R)
structure PrcOk (nm : Str) (own : List (Str × Str)) (body : Da) : Prop where
  nm : nameZ nm = true
  ow : OwnOk own
  pv : pv body
  bd : bodB own body = true
theorem pv_par {own : List (Str × Str)} (h : OwnOk own) : pv (parD own) := by
  have hz : ∀ {z : Str}, nameZ z = true → z.length ≤ 1000 := fun {z} h => by
    unfold nameZ at h
    simp only [Bool.and_eq_true, decide_eq_true_eq] at h
    omega
  have hk : ∀ {z : Str}, (["block", "wrap"] : List Str).contains z = true → z.length ≤ 1000 := fun {z} h => by
    have : z ∈ (["block", "wrap"] : List Str) := by simpa using h
    simp only [List.mem_cons, List.not_mem_nil, or_false] at this
    rcases this with rfl | rfl <;> decide +kernel
  refine .tup _ (by rw [List.length_map]; have := h.len; omega) fun x hx => ?_
  obtain ⟨p, hp, rfl⟩ := List.mem_map.mp hx
  refine .tup _ (by simp) fun y hy => ?_
  have := h.ok p hp
  simp only [List.mem_cons, List.not_mem_nil, or_false] at hy
  rcases hy with rfl | rfl
  · exact .str _ (hz this.1)
  · exact .str _ (hk this.2)
def spInitP (C : Addr) : DSp := fun ds M Q _ => ∃ p nm own body, ds = [.ref p, .str nm, parD own, body] ∧ PrcOk nm own body ∧ M p = some (.ins C []) ∧ ∀ R, R.Perm (allF 6 body) → Q .non (mput M p (.ins C (prcF nm own body R)))
theorem D_Procedure___init__ {P : Program} {w : World} {K : PySem.W.Frag} {mg : Str → Option Value} {base : Heap} {C_Procedure : Addr} {C_Program : Addr} {C_Space : Addr} {C_Reckoner : Addr} {C_InvalidProgram : Addr} {C_InvalidOperation : Addr} (A : Facts K C_Procedure C_Program C_Space C_Reckoner C_InvalidProgram C_InvalidOperation) (M : MgOf K mg) (Z : Zs mg) (D_is_name : KnD P w K mg base "is_name" 1 ["value"] spIsName) (D_are_parameters : KnD P w K mg base "are_parameters" 2 ["value"] spPars) (D_is_body : KnD P w K mg base "is_body" 22 ["value", "parameters"] spBody) (D_pieces_of : KnD P w K mg base "pieces_of" 2 ["piece"] spPieces) : KnMD P w K mg base C_Procedure "__init__" 23 ["self", "name", "parameters", "body"] (spInitP C_Procedure) := by
  refine KnMD.of A.m_Procedure___init__ sc_Procedure___init__ (fun _ _ _ _ _ _ us hl => match us, hl with | [_, _, _, _], _ => rfl) (fun ds M Q E ⟨_, _, _, _, h, _⟩ => by rw [h]; rfl) (fun f cdv A0 outer s H E hr => ?_)
  have hu := U.hu_of hr
  have hu1 := U.hu1_of hr
  have nd := sc_Procedure___init__.nd
  refine ⟨_, (z_cons (z_if (d_w (d_or (d_tnot (d_tv (d_call D_is_name (hr.mono (by decide)) (d_cons (dn 1) d_nil)))) (d_or (d_tnot (d_tv (d_call D_are_parameters (hr.mono (by decide)) (d_cons (dn 2) d_nil)))) (d_or1 (d_tnot (d_tv (d_call D_is_body (hr.mono (by decide)) (d_cons (dn 3) (d_cons (dn 2) d_nil))))))))) (z_one z_never) z_nil)
      (z_cons (z_sto A.cls_Procedure.cl A.n_Procedure_own_name (dn 1) (dn 0))
      (z_cons (z_sto A.cls_Procedure.cl A.n_Procedure_own_parameters (dn 2) (dn 0))
      (z_cons (z_sto A.cls_Procedure.cl A.n_Procedure_own_body (dn 3) (dn 0))
      (z_cons (z_sto A.cls_Procedure.cl A.n_Procedure_own_kinds (d_t Z.tuple b_tuple c_dtuple (d_cons (d_lc (own := [("parameter", 4), ("kind", 5)]) (c := (.t [4, 5])) rfl nd (d_it (dn 2)) (blkOk_by (own := [("parameter", 4), ("kind", 5)]) (N := N_Procedure___init__) (sc := defScope s_Procedure___init__) (by decide +kernel)) (fun _ _ _ _ _ => (pg_tup rfl (pgs_cons (gn 4 nd) (pgs_cons (gn 5 nd) pgs_nil)))) (fun _ _ _ _ _ => d_ts0) (fun _ _ _ _ _ => (dn 5))) d_nil)) (dn 0))
      (z_cons (z_sto A.cls_Procedure.cl A.n_Procedure_own_pieces (d_t Z.tuple b_tuple c_dtuple (d_cons (d_call D_pieces_of (hr.mono (by decide)) (d_cons (dn 3) d_nil)) d_nil)) (dn 0))
      (z_one (z_sto A.cls_Procedure.cl A.n_Procedure_own_shape (d_tup (d_cons (dn 1) (d_cons (dn 2) (d_cons (dn 3) d_nil)))) (dn 0))))))))), ?_⟩
  rintro ds M Q Ed ⟨p, nm, own, body, rfl, ho, hM, q⟩
  have hz : nm.length ≤ 1000 := by
    have h := ho.nm
    unfold nameZ at h
    simp only [Bool.and_eq_true, decide_eq_true_eq] at h
    omega
  have hb := ho.bd
  unfold bodB at hb
  rw [Bool.and_eq_true, decide_eq_true_eq] at hb
  refine ⟨.str nm, rfl, .str _ hz, ?_⟩
  refine ifF (by show ¬ (!(nameZ nm)) = true; rw [ho.nm]; decide) ?_
  refine ⟨parD own, rfl, pv_par ho.ow, ifF (by rw [parB_own ho.ow]; decide) ?_⟩
  refine ⟨body, own, rfl, ho.ow, ho.pv, fun _ => by omega, ?_⟩
  refine ifF (by rw [ho.bd]; decide) ?_
  have h3 : (own.map fun p : Str × Str => Da.tup [.str p.1, .str p.2]).length ≤ 1000000 := by rw [List.length_map]; have := ho.ow.len; omega
  refine ⟨_, hM, rfl, _, mput_same, rfl, _, mput_same, rfl, ?_⟩
  refine ⟨sz h3, lcD_all (fun p : Str × Str => Da.str p.2) (fun _ _ => rfl) (fun p hp Q q => q) ?_⟩
  refine ⟨_, mput_same, rfl, ?_⟩
  refine ⟨body, 6, kvsD own, rfl, ho.pv, .inl hb.1, by omega, fun R hR => ?_⟩
  refine ⟨_, mput_same, rfl, rfl, _, mput_same, rfl, ?_⟩
  rw [mput_put, mput_put, mput_put, mput_put, mput_put]
  exact q R hR
def spGetP (C : Addr) (g : Str → List (Str × Str) → Da → List Da → Da) : DSp := fun ds M Q _ => ∃ nm own body R, ds = [Prc C nm own body R] ∧ Q (g nm own body R) M
theorem D_Procedure___len__ {P : Program} {w : World} {K : PySem.W.Frag} {mg : Str → Option Value} {base : Heap} {C_Procedure : Addr} {C_Program : Addr} {C_Space : Addr} {C_Reckoner : Addr} {C_InvalidProgram : Addr} {C_InvalidOperation : Addr} (A : Facts K C_Procedure C_Program C_Space C_Reckoner C_InvalidProgram C_InvalidOperation) (M : MgOf K mg) (Z : Zs mg)  : KnMD P w K mg base C_Procedure "__len__" 1 ["self"] (spGetP C_Procedure fun _ _ _ R => .int (R.length : Nat)) := by
  refine KnMD.of A.m_Procedure___len__ sc_Procedure___len__ (fun _ _ _ _ _ _ us hl => match us, hl with | [_], _ => rfl) (fun ds M Q E ⟨_, _, _, _, h, _⟩ => by rw [h]; rfl) (fun f cdv A0 outer s H E hr => ?_)
  have hu := U.hu_of hr
  have hu1 := U.hu1_of hr
  have nd := sc_Procedure___len__.nd
  refine ⟨_, (z_one (z_ret (d_b Z.len b_len c_dlen (d_cons (d_fld A.cls_Procedure.cl A.n_Procedure_own_pieces (dn 0)) d_nil)))), ?_⟩
  rintro ds M Q Ed ⟨nm, own, body, R, rfl, q⟩
  exact ⟨rfl, _, rfl, q⟩

end K28
set_option Elab.async false
set_option linter.all false
set_option maxRecDepth 100000
set_option maxHeartbeats 4000000


namespace K28
open PySem PySem.Spec PyProof.Rows L2 U
def hd1 : Da → Str
  | .tup (.str z :: _) => z
  | _ => ""
theorem name_str {d : Da} (h : nameD d = true) : ∃ z, d = .str z := by
  cases d with
  | str z => exact ⟨z, rfl⟩
  | _ => cases h
theorem sec_ok {r : List Str → Da → Bool} {kvs : List (Key × Da)} {z : Str} {xs : List Da} (h : bodyB r kvs z xs = true) (hz : z = "do" ∨ z = "call" ∨ z = "with") : ∃ y t, xs = .str y :: t := by
  unfold bodyB at h
  rcases hz with rfl | rfl | rfl
  · rw [if_pos rfl] at h
    match xs, h with
    | [w, t], h =>
      obtain ⟨y, rfl⟩ := name_str (Bool.and_eq_true_iff.mp h).1
      exact ⟨y, [t], rfl⟩
  · rw [if_neg (by decide), if_neg (by decide), if_neg (by decide), if_neg (by decide), if_neg (by decide), if_pos rfl] at h
    match xs, h with
    | m :: gs, h =>
      obtain ⟨y, rfl⟩ := name_str (Bool.and_eq_true_iff.mp h).1
      exact ⟨y, gs, rfl⟩
  · rw [if_neg (by decide), if_neg (by decide), if_neg (by decide), if_neg (by decide), if_neg (by decide), if_neg (by decide), if_pos rfl] at h
    match xs, h with
    | m :: gs, h =>
      obtain ⟨y, rfl⟩ := name_str (Bool.and_eq_true_iff.mp h).1
      exact ⟨y, gs, rfl⟩
theorem allF_ok {kvs : List (Key × Da)} : ∀ {n : Nat} {x : Da}, okP kvs n x → ∀ y ∈ allF n x, ∃ m, okP kvs m y
  | 0, x, h, y, hy => by rcases h with h | h <;> cases h
  | n + 1, x, h, y, hy => by
    rcases List.mem_cons.mp hy with rfl | hy
    · exact ⟨_, h⟩
    · obtain ⟨m, z, xs, e, rfl, hb⟩ := h.shape
      obtain rfl : n = m := by omega
      obtain ⟨k, hk, hy⟩ := List.mem_flatMap.mp hy
      exact allF_ok (kids_ok hb k hk) y hy
theorem prc_R {nm : Str} {own : List (Str × Str)} {body : Da} {R : List Da} (ho : PrcOk nm own body) (hR : R.Perm (allF 6 body)) : R.length ≤ 40 ∧ ∀ x ∈ R, ∃ m z xs, x = .tup (.str z :: xs) ∧ bodyB (pcB (kvsD own) m) (kvsD own) z xs = true := by
  have hb := ho.bd
  unfold bodB at hb
  rw [Bool.and_eq_true, decide_eq_true_eq] at hb
  refine ⟨by rw [hR.length_eq]; exact hb.2, fun x hx => ?_⟩
  obtain ⟨m, hm⟩ := allF_ok (.inl hb.1) x (hR.mem_iff.mp hx)
  obtain ⟨m', z, xs, _, e, h⟩ := hm.shape
  exact ⟨m', z, xs, e, h⟩
theorem at0 {x : Da} {xs : List Da} : atI (x :: xs) 0 = some x := show atI (x :: xs) ((0 : Nat) : Int) = some x from atI_nat rfl
theorem at1 {x y : Da} {xs : List Da} : atI (x :: y :: xs) 1 = some y := show atI (x :: y :: xs) ((1 : Nat) : Int) = some y from atI_nat rfl

end K28
set_option Elab.async false
set_option linter.all false
set_option maxRecDepth 100000
set_option maxHeartbeats 4000000


namespace K28
open PySem PySem.Spec PyProof.Rows L2 U
theorem name_ok {z : Str} (h : nameZ z = true) : PyData.strOk z = true := by
  unfold nameZ at h
  simp only [Bool.and_eq_true] at h
  show z.cps.all _ = true
  rw [← Array.all_toList, List.all_eq_true]
  intro c hc
  have := List.all_eq_true.mp h.2 c hc
  simp only [Bool.and_eq_true, decide_eq_true_eq] at this
  exact decide_eq_true (by omega)
theorem table_ok {t : Da} (h : tableB t = true) : plD t = true ∧ okN 1 t := by
  cases t with
  | tup xs =>
    have h2 := (Bool.and_eq_true_iff.mp h).2
    have hx : ∀ x ∈ xs, plD x = true ∧ okN 0 x := fun x hx => by
      have := List.all_eq_true.mp h2 x hx
      cases x with
      | non => exact ⟨rfl, okN_non⟩
      | int i => exact ⟨rfl, okN_int⟩
      | _ => simp [isNon, isFr] at this
    exact ⟨plDs_of fun x h => (hx x h).1, okN_tup fun x h => (hx x h).2⟩
  | _ => cases h
theorem kind_ok {kvs : List (Key × Da)} {k : Str} {x : Da} (h : kindB kvs k x = true) (hk : ∀ z k, valD kvs (.inr z) = some k → nameZ z = true) : plD x = true ∧ okN 0 x := by
  cases x with
  | str z =>
    refine ⟨rfl, okN_str (name_ok ?_)⟩
    cases e : valD kvs (.inr z) with
    | none => have h : strIs (valD kvs (.inr z)) k = true := h; rw [e] at h; cases h
    | some d => exact hk z d e
  | _ => cases h
theorem own_val {own : List (Str × Str)} (ho : OwnOk own) {z : Str} {d : Da} (h : valD (kvsD own) (.inr z) = some d) : nameZ z = true := by
  unfold valD at h
  cases e : (kvsD own).find? fun kv => decide (kv.1 = .inr z) with
  | none => rw [e] at h; cases h
  | some p =>
    have hm := List.mem_of_find?_eq_some e
    have hp := List.find?_some e
    obtain ⟨q, hq, rfl⟩ := List.mem_map.mp hm
    have : (Sum.inr q.1 : Key) = .inr z := of_decide_eq_true hp
    rw [← Sum.inr.inj this]
    exact (ho.ok q hq).1
theorem nm_ok {d : Da} (h : nameD d = true) : plD d = true ∧ okN 0 d := by
  obtain ⟨z, rfl⟩ := name_str h
  exact ⟨rfl, okN_str (name_ok h)⟩
theorem word_ok {z : Str} {ws : List Str} (h : ws.contains z = true) (hw : ∀ w ∈ ws, PyData.strOk w = true) : PyData.strOk z = true := hw z (by simpa using h)
theorem pc_ok {kvs : List (Key × Da)} (hk : ∀ z k, valD kvs (.inr z) = some k → nameZ z = true) : ∀ {n : Nat} {ws : List Str} {x : Da}, (∀ w ∈ ws, PyData.strOk w = true) → pcB kvs n ws x = true → plD x = true ∧ okN (n + 2) x
  | 0, _, _, _, h => by cases h
  | n + 1, ws, x, hw, h => by
    have hW : ∀ w ∈ WW, PyData.strOk w = true := by decide +kernel
    have hT : ∀ w ∈ TW, PyData.strOk w = true := by decide +kernel
    have sh : hasW ws x = true := by
      cases c : hasW ws x with
      | true => rfl
      | false => rw [pcB_no c] at h; cases h
    obtain ⟨z, xs, rfl, hz⟩ := hasW_shape sh
    rw [pcB_yes hz] at h
    have hx : ∀ y ∈ xs, plD y = true ∧ okN (n + 2) y := by
      unfold bodyB at h
      split at h
      · split at h
        · rename_i w t
          obtain ⟨h1, h2⟩ := Bool.and_eq_true_iff.mp h
          intro y hy
          simp only [List.mem_cons, List.not_mem_nil, or_false] at hy
          rcases hy with rfl | rfl
          · exact ⟨(nm_ok h1).1, (nm_ok h1).2.mono (by omega)⟩
          · exact ⟨(table_ok h2).1, (table_ok h2).2.mono (by omega)⟩
        · cases h
      split at h
      · exact fun y hy => pc_ok hk hT (List.all_eq_true.mp h y hy)
      split at h
      · split at h
        · cases h
        · exact fun y hy => pc_ok hk hT (List.all_eq_true.mp h y hy)
      have one : ∀ {k : Str} {p : Da}, kindB kvs k p = true → ∀ y ∈ [p], plD y = true ∧ okN (n + 2) y := fun h y hy => by
        simp only [List.mem_cons, List.not_mem_nil, or_false] at hy
        subst hy
        exact ⟨(kind_ok h hk).1, (kind_ok h hk).2.mono (by omega)⟩
      have giv : ∀ {m : Da} {gs : List Da}, (nameD m && gs.all fun g => pcB kvs n TW g || pcB kvs n WW g) = true → ∀ y ∈ m :: gs, plD y = true ∧ okN (n + 2) y := fun {m gs} h y hy => by
        obtain ⟨h1, h2⟩ := Bool.and_eq_true_iff.mp h
        rcases List.mem_cons.mp hy with rfl | hy
        · exact ⟨(nm_ok h1).1, (nm_ok h1).2.mono (by omega)⟩
        · rcases Bool.or_eq_true_iff.mp (List.all_eq_true.mp h2 y hy) with h | h
          · exact pc_ok hk hT h
          · exact pc_ok hk hW h
      split at h
      · split at h
        · exact one h
        · cases h
      split at h
      · split at h
        · exact one h
        · cases h
      split at h
      · split at h
        · exact giv h
        · cases h
      split at h
      · split at h
        · exact giv h
        · cases h
      split at h
      · split at h
        · rename_i w t
          obtain ⟨h1, h2⟩ := Bool.and_eq_true_iff.mp h
          intro y hy
          simp only [List.mem_cons, List.not_mem_nil, or_false] at hy
          rcases hy with rfl | rfl
          · exact pc_ok hk hW h1
          · exact pc_ok hk hT h2
        · cases h
      · cases h
    refine ⟨plDs_of fun y hy => ?_, okN_tup fun y hy => ?_⟩
    · rcases List.mem_cons.mp hy with rfl | hy
      · rfl
      · exact (hx y hy).1
    · rcases List.mem_cons.mp hy with rfl | hy
      · exact okN_str (word_ok hz hw)
      · exact (hx y hy).2
def shpD (nm : Str) (own : List (Str × Str)) (body : Da) : Da := .tup [.str nm, parD own, body]
theorem shp_ok {nm : Str} {own : List (Str × Str)} {body : Da} (h : PrcOk nm own body) : plD (shpD nm own body) = true ∧ okN 9 (shpD nm own body) := by
  have hb := h.bd
  unfold bodB at hb
  rw [Bool.and_eq_true] at hb
  have b := pc_ok (fun z k e => own_val h.ow e) (n := 6) (ws := TW) (by decide +kernel) hb.1
  have hw : ∀ {z : Str}, (["block", "wrap"] : List Str).contains z = true → PyData.strOk z = true := fun h => word_ok h (by decide +kernel)
  have p : ∀ y ∈ own.map (fun p : Str × Str => Da.tup [.str p.1, .str p.2]), plD y = true ∧ okN 1 y := fun y hy => by
    obtain ⟨q, hq, rfl⟩ := List.mem_map.mp hy
    refine ⟨rfl, okN_tup fun z hz => ?_⟩
    simp only [List.mem_cons, List.not_mem_nil, or_false] at hz
    rcases hz with rfl | rfl
    · exact okN_str (name_ok (h.ow.ok q hq).1)
    · exact okN_str (hw (h.ow.ok q hq).2)
  refine ⟨plDs_of fun y hy => ?_, okN_tup fun y hy => ?_⟩
  · simp only [List.mem_cons, List.not_mem_nil, or_false] at hy
    rcases hy with rfl | rfl | rfl
    · rfl
    · exact plDs_of fun y hy => (p y hy).1
    · exact b.1
  · simp only [List.mem_cons, List.not_mem_nil, or_false] at hy
    rcases hy with rfl | rfl | rfl
    · exact okN_str (name_ok h.nm)
    · exact (okN_tup fun y hy => (p y hy).2).mono (by omega)
    · exact b.2

end K28
set_option Elab.async false
set_option linter.all false
set_option maxRecDepth 100000
set_option maxHeartbeats 4000000


namespace K28
open PySem PySem.Spec PyProof.Rows L2 U
theorem par_inj {a b : List (Str × Str)} (h : parD a = parD b) : a = b := by
  have h : a.map (fun p : Str × Str => Da.tup [.str p.1, .str p.2]) = b.map fun p => Da.tup [.str p.1, .str p.2] := by
    unfold parD at h
    exact Da.tup.inj h
  induction a generalizing b with
  | nil => cases b with
    | nil => rfl
    | cons q r => cases h
  | cons p a ih =>
    cases b with
    | nil => cases h
    | cons q b =>
      rw [List.map_cons, List.map_cons] at h
      injection h with h1 h2
      obtain ⟨p1, p2⟩ := p
      obtain ⟨q1, q2⟩ := q
      simp only [Da.tup.injEq, List.cons.injEq, Da.str.injEq, and_true] at h1
      rw [h1.1, h1.2, ih (by rw [parD, parD, h2]) h2]
def spEqP (C : Addr) : DSp := fun ds M Q _ => ∃ (nm : Str) (own : List (Str × Str)) (body : Da) (R : List Da) (y : Da) (b : Bool), ds = [Prc C nm own body R, y] ∧ PrcOk nm own body ∧
  ((∃ nm' own' body' R', y = Prc C nm' own' body' R' ∧ PrcOk nm' own' body' ∧ (b = true ↔ nm = nm' ∧ own = own' ∧ body = body')) ∨ (pv y ∧ b = false)) ∧ Q (.bl b) M
theorem D_Procedure___eq__ {P : Program} {w : World} {K : PySem.W.Frag} {mg : Str → Option Value} {base : Heap} {C_Procedure : Addr} {C_Program : Addr} {C_Space : Addr} {C_Reckoner : Addr} {C_InvalidProgram : Addr} {C_InvalidOperation : Addr} (A : Facts K C_Procedure C_Program C_Space C_Reckoner C_InvalidProgram C_InvalidOperation) (M : MgOf K mg) (Z : Zs mg)  : KnMD P w K mg base C_Procedure "__eq__" 1 ["self", "other"] (spEqP C_Procedure) := by
  refine KnMD.of A.m_Procedure___eq__ sc_Procedure___eq__ (fun _ _ _ _ _ _ us hl => match us, hl with | [_, _], _ => rfl) (fun ds M Q E ⟨_, _, _, _, _, _, h, _⟩ => by rw [h]; rfl) (fun f cdv A0 outer s H E hr => ?_)
  have hu := U.hu_of hr
  have hu1 := U.hu1_of hr
  have nd := sc_Procedure___eq__.nd
  refine ⟨_, (z_one (z_ret (d_eand (d_b Z.isinstance b_isinstance (c_disiK (K := K) rfl) (d_cons (dn 1) (d_cons (d_glob (M.of _ _ A.cls_Procedure.at_)) d_nil))) (d_one (d_ecm (o_deq hu) (d_fld A.cls_Procedure.cl A.n_Procedure_own_shape (dn 0)) (d_fld A.cls_Procedure.cl A.n_Procedure_own_shape (dn 1))))))), ?_⟩
  rintro ds M Q Ed ⟨nm, own, body, R, y, b, rfl, ho, h, q⟩
  rcases h with ⟨nm', own', body', R', rfl, ho', hb⟩ | ⟨oy, rfl⟩
  · refine ⟨A.cls_Procedure.isC, _, A.cls_Procedure.self, ?_⟩
    have e : eqD (shpD nm own body) (shpD nm' own' body') = b := by
      rw [Bool.eq_iff_iff, eqD_iff (shp_ok ho).1 (shp_ok ho').1, hb]
      constructor
      · intro h
        unfold shpD at h
        injection h with h
        injection h with h1 h
        injection h with h2 h
        injection h with h3 h
        injection h1 with h1
        exact ⟨h1, par_inj h2, h3⟩
      · rintro ⟨rfl, rfl, rfl⟩
        rfl
    refine ⟨rfl, _, rfl, rfl, _, rfl, (shp_ok ho).2.ok (by decide), (shp_ok ho').2.ok (by decide), ?_⟩
    have q' : Q (.bl (eqD (shpD nm own body) (shpD nm' own' body'))) M := by rw [e]; exact q
    exact q'
  · cases oy with
    | non => exact ⟨_, A.kt_NoneType, q⟩
    | bl _ => exact ⟨_, A.kt_bool, q⟩
    | int _ => exact ⟨_, A.kt_int, q⟩
    | str _ => exact ⟨_, A.kt_str, q⟩
    | lst _ => exact ⟨_, A.kt_list, q⟩
    | tup _ => exact ⟨_, A.kt_tuple, q⟩
    | dct _ => exact ⟨_, A.kt_dict, q⟩
abbrev iS (i : Int) : Str := Str.ofString (toString i)
def txtP (nm : Str) (own : List (Str × Str)) (R : List Da) : Str := Str.empty ++ ("procedure " : Str) ++ nm ++ (", " : Str) ++ iS (own.length : Nat) ++ (" parameters, " : Str) ++ iS (R.length : Nat) ++ (" terms" : Str)
def spStrP (C : Addr) : DSp := fun ds M Q _ => ∃ nm own body R, ds = [Prc C nm own body R] ∧ PrcOk nm own body ∧ R.length ≤ 40 ∧ Q (.str (txtP nm own R)) M
theorem D_Procedure___str__ {P : Program} {w : World} {K : PySem.W.Frag} {mg : Str → Option Value} {base : Heap} {C_Procedure : Addr} {C_Program : Addr} {C_Space : Addr} {C_Reckoner : Addr} {C_InvalidProgram : Addr} {C_InvalidOperation : Addr} (A : Facts K C_Procedure C_Program C_Space C_Reckoner C_InvalidProgram C_InvalidOperation) (M : MgOf K mg) (Z : Zs mg)  : KnMD P w K mg base C_Procedure "__str__" 1 ["self"] (spStrP C_Procedure) := by
  refine KnMD.of A.m_Procedure___str__ sc_Procedure___str__ (fun _ _ _ _ _ _ us hl => match us, hl with | [_], _ => rfl) (fun ds M Q E ⟨_, _, _, _, h, _⟩ => by rw [h]; rfl) (fun f cdv A0 outer s H E hr => ?_)
  have hu := U.hu_of hr
  have hu1 := U.hu1_of hr
  have nd := sc_Procedure___str__.nd
  refine ⟨_, (z_one (z_ret (d_joined (DJ.cons d_str (DJ.cons (d_fmt (d_fld A.cls_Procedure.cl A.n_Procedure_own_name (dn 0))) (DJ.cons d_str (DJ.cons (d_fmt (d_b Z.len b_len c_dlen (d_cons (d_fld A.cls_Procedure.cl A.n_Procedure_own_parameters (dn 0)) d_nil))) (DJ.cons d_str (DJ.cons (d_fmt (d_b Z.len b_len c_dlen (d_cons (d_fld A.cls_Procedure.cl A.n_Procedure_own_pieces (dn 0)) d_nil))) (DJ.cons d_str DJ.nil)))))))))), ?_⟩
  rintro ds M Q Ed ⟨nm, own, body, R, rfl, ho, hl, q⟩
  have hn : nm.length ≤ 8 := by
    have h := ho.nm
    unfold nameZ at h
    simp only [Bool.and_eq_true, decide_eq_true_eq] at h
    exact h.1.2
  have ho3 := ho.ow.len
  have hp : (own.map fun p : Str × Str => Da.tup [.str p.1, .str p.2]).length = own.length := List.length_map _
  have lg : ∀ {n : Nat}, n ≤ 40 → ((n : Int)).natAbs.log2 < 1920 ∧ (iS (n : Nat)).length ≤ 2 := fun {n} h => (show ∀ n : Fin 41, (((n.val : Nat) : Int)).natAbs.log2 < 1920 ∧ (iS (n.val : Nat)).length ≤ 2 by decide +kernel) ⟨n, by omega⟩
  have e1 := lg (n := (own.map fun p : Str × Str => Da.tup [.str p.1, .str p.2]).length) (by rw [hp]; omega)
  have e2 := lg hl
  have q' : Q (.str (Str.empty ++ ("procedure " : Str) ++ nm ++ (", " : Str) ++ iS ((own.map fun p : Str × Str => Da.tup [.str p.1, .str p.2]).length : Nat) ++ (" parameters, " : Str) ++ iS (R.length : Nat) ++ (" terms" : Str))) M := by rw [hp]; exact q
  have sl : ∀ a b : Str, (a ++ b).length = a.length + b.length := fun a b => Str.length_append a b
  have c0 : Str.empty.length = 0 := rfl
  have c1 : (Str.ofString "procedure ").length = 10 := by decide +kernel
  have c2 : (Str.ofString ", ").length = 2 := by decide +kernel
  have c3 : (Str.ofString " parameters, ").length = 13 := by decide +kernel
  have c4 : (Str.ofString " terms").length = 6 := by decide +kernel
  have e12 := e1.2
  have e22 := e2.2
  generalize hL : (own.map fun p : Str × Str => Da.tup [.str p.1, .str p.2]).length = L at e12 e1 q' hp
  have z1 : (Str.empty ++ Str.ofString "procedure " ++ nm).length ≤ 1000000 := by simp only [sl]; simp only [c0, c1]; omega
  have z2 : (Str.empty ++ Str.ofString "procedure " ++ nm ++ Str.ofString ", ").length ≤ 1000000 := by simp only [sl]; simp only [c0, c1, c2]; omega
  have z3 : (Str.empty ++ Str.ofString "procedure " ++ nm ++ Str.ofString ", " ++ iS (L : Nat)).length ≤ 1000000 := by simp only [sl]; simp only [c0, c1, c2]; omega
  have z4 : (Str.empty ++ Str.ofString "procedure " ++ nm ++ Str.ofString ", " ++ iS (L : Nat) ++ Str.ofString " parameters, ").length ≤ 1000000 := by simp only [sl]; simp only [c0, c1, c2, c3]; omega
  have z5 : (Str.empty ++ Str.ofString "procedure " ++ nm ++ Str.ofString ", " ++ iS (L : Nat) ++ Str.ofString " parameters, " ++ iS (R.length : Nat)).length ≤ 1000000 := by simp only [sl]; simp only [c0, c1, c2, c3]; omega
  have z6 : (Str.empty ++ Str.ofString "procedure " ++ nm ++ Str.ofString ", " ++ iS (L : Nat) ++ Str.ofString " parameters, " ++ iS (R.length : Nat) ++ Str.ofString " terms").length ≤ 1000000 := by simp only [sl]; simp only [c0, c1, c2, c3, c4]; omega
  subst hL
  exact ⟨sz (by rw [sl]; omega), rfl, _, rfl, sz (by omega), sz z1, sz z2, rfl, _, rfl, e1.1, sz z3, sz z4, rfl, _, rfl, e2.1, sz z5, sz z6, q'⟩

end K28
set_option Elab.async false
set_option linter.all false
set_option maxRecDepth 100000
set_option maxHeartbeats 4000000


namespace K28
open PySem PySem.Spec PyProof.Rows L2 U
theorem bodyB_mono {r r' : List Str → Da → Bool} {kvs : List (Key × Da)} {z : Str} {xs : List Da} (h : ∀ ws y, r ws y = true → r' ws y = true) (hb : bodyB r kvs z xs = true) : bodyB r' kvs z xs = true := by
  have hall : ∀ {ws : List Str} {ys : List Da}, ys.all (r ws) = true → ys.all (r' ws) = true := fun h1 => List.all_eq_true.mpr fun y hy => h _ _ (List.all_eq_true.mp h1 y hy)
  have giv : ∀ {gs : List Da}, (gs.all fun g => r TW g || r WW g) = true → (gs.all fun g => r' TW g || r' WW g) = true := fun h1 => List.all_eq_true.mpr fun y hy => by
    rcases Bool.or_eq_true_iff.mp (List.all_eq_true.mp h1 y hy) with e | e
    · exact Bool.or_eq_true_iff.mpr (.inl (h _ _ e))
    · exact Bool.or_eq_true_iff.mpr (.inr (h _ _ e))
  unfold bodyB at hb ⊢
  split at hb
  · rename_i e; rw [if_pos e]; exact hb
  rename_i e; rw [if_neg e]; clear e
  split at hb
  · rename_i e; rw [if_pos e]; exact hall hb
  rename_i e; rw [if_neg e]; clear e
  split at hb
  · rename_i e; rw [if_pos e]
    cases xs with
    | nil => exact hb
    | cons f ts => exact hall hb
  rename_i e; rw [if_neg e]; clear e
  split at hb
  · rename_i e; rw [if_pos e]; exact hb
  rename_i e; rw [if_neg e]; clear e
  split at hb
  · rename_i e; rw [if_pos e]; exact hb
  rename_i e; rw [if_neg e]; clear e
  split at hb
  · rename_i e; rw [if_pos e]
    cases xs with
    | nil => exact hb
    | cons m gs =>
      obtain ⟨h1, h2⟩ := Bool.and_eq_true_iff.mp hb
      exact Bool.and_eq_true_iff.mpr ⟨h1, giv h2⟩
  rename_i e; rw [if_neg e]; clear e
  split at hb
  · rename_i e; rw [if_pos e]
    cases xs with
    | nil => exact hb
    | cons m gs =>
      obtain ⟨h1, h2⟩ := Bool.and_eq_true_iff.mp hb
      exact Bool.and_eq_true_iff.mpr ⟨h1, giv h2⟩
  rename_i e; rw [if_neg e]; clear e
  split at hb
  · rename_i e; rw [if_pos e]
    match xs, hb with
    | [w, t], hb =>
      obtain ⟨h1, h2⟩ := Bool.and_eq_true_iff.mp hb
      exact Bool.and_eq_true_iff.mpr ⟨h _ _ h1, h _ _ h2⟩
  · cases hb
theorem pcB_mono {kvs : List (Key × Da)} : ∀ {n : Nat} {ws : List Str} {x : Da}, pcB kvs n ws x = true → pcB kvs (n + 1) ws x = true
  | 0, _, _, h => by cases h
  | n + 1, ws, x, h => by
    cases c : hasW ws x with
    | false => rw [pcB_no c] at h; cases h
    | true =>
      obtain ⟨z, xs, rfl, hz⟩ := hasW_shape c
      rw [pcB_yes hz] at h ⊢
      exact bodyB_mono (fun _ _ => pcB_mono) h
theorem pcB_up {kvs : List (Key × Da)} {n m : Nat} {ws : List Str} {x : Da} (hnm : n ≤ m) (h : pcB kvs n ws x = true) : pcB kvs m ws x = true := by
  induction hnm with
  | refl => exact h
  | step _ ih => exact pcB_mono ih
theorem flat_congr {α β : Type} {f g : α → List β} : ∀ {l : List α}, (∀ x ∈ l, f x = g x) → l.flatMap f = l.flatMap g
  | [], _ => rfl
  | x :: l, h => by rw [List.flatMap_cons, List.flatMap_cons, h x List.mem_cons_self, flat_congr fun y hy => h y (List.mem_cons_of_mem _ hy)]
theorem allF_up {kvs : List (Key × Da)} : ∀ {n : Nat} {x : Da}, okP kvs n x → allF (n + 1) x = allF n x
  | 0, _, h => by rcases h with h | h <;> cases h
  | n + 1, x, h => by
    obtain ⟨m, z, xs, e, rfl, hb⟩ := h.shape
    obtain rfl : n = m := by omega
    show _ :: (kidsL z xs).flatMap (allF (n + 1)) = _ :: (kidsL z xs).flatMap (allF n)
    rw [flat_congr fun y hy => allF_up (kids_ok hb y hy)]
/-- a name's parameters -/
def rowOf (rows : List (Str × List (Str × Str))) (z : Str) : List (Str × Str) := ((rows.find? fun r => decide (r.1 = z)).map (·.2)).getD []
/-- for which kind a piece can be handed -/
def kindD : Da → Str
  | .tup (.str z :: _) => if WW.contains z = true then "wrap" else "block"
  | _ => "block"
def modB (m : Nat) : Da → Bool
  | .non => true
  | .int i => decide (0 ≤ i) && decide (i < (m : Nat))
  | _ => false
/-- a piece fits a table of procedures, what is in it left out -/
def fitB (rows : List (Str × List (Str × Str))) (m : Nat) : Da → Bool
  | .tup (.str z :: xs) =>
    if z = "do" then (match xs with | [_, .tup ts] => decide (ts.length = m) && ts.all (modB m) | _ => false)
    else if z = "call" then (match xs with | .str c :: gs => decide (c ∈ rows.map (·.1)) && decide (gs.map kindD = (rowOf rows c).map (·.2)) | _ => false)
    else if z = "with" then (match xs with | .str c :: gs => decide (c ∈ rows.map (·.1)) && decide (gs.map kindD ++ [("block" : Str)] = (rowOf rows c).map (·.2)) | _ => false)
    else true
  | _ => true
abbrev Rws := List (Str × List (Str × Str))
theorem cut2 {α : Type} (a b : α) (xs : List α) : U.cutD (a :: b :: xs) (some 2) none = xs := by
  unfold U.cutD
  rw [show HT.sIx (a :: b :: xs).length 0 (some 2) = 2 from by rw [show (2 : Int) = ((2 : Nat) : Int) from rfl, HT.sIx_nat]; simp]
  simp [HT.sIx]
theorem rowOf_mem {rows : Rws} (nd : (rows.map (·.1)).Nodup) {r : Str × List (Str × Str)} (hr : r ∈ rows) : rowOf rows r.1 = r.2 := by
  unfold rowOf
  induction rows with
  | nil => cases hr
  | cons s rows ih =>
    rw [List.find?_cons]
    rw [List.map_cons, List.nodup_cons] at nd
    rcases List.mem_cons.mp hr with rfl | hr
    · simp
    · have hne : ¬ s.1 = r.1 := fun e => nd.1 (by rw [e]; exact List.mem_map_of_mem hr)
      rw [show (decide (s.1 = r.1)) = false from decide_eq_false hne]
      exact ih nd.2 hr

structure Pr where
  nm : Str
  own : List (Str × Str)
  body : Da
  R : List Da
def Pr.da (C : Addr) (r : Pr) : Da := Prc C r.nm r.own r.body r.R
def Pr.row (r : Pr) : Str × List (Str × Str) := (r.nm, r.own)
structure PrOk (r : Pr) : Prop where
  ok : PrcOk r.nm r.own r.body
  pm : r.R.Perm (allF 6 r.body)
def tblP (C : Addr) (ps : List Pr) : List (Key × Da) := ps.map fun r => (.inr r.nm, r.da C)
theorem tbl_some {C : Addr} {ps : List Pr} (nd : (ps.map Pr.nm).Nodup) {r : Pr} (hr : r ∈ ps) : valD (tblP C ps) (.inr r.nm) = some (r.da C) := by
  unfold valD tblP
  induction ps with
  | nil => cases hr
  | cons s rows ih =>
    rw [List.map_cons, List.find?_cons]
    rw [List.map_cons, List.nodup_cons] at nd
    rcases List.mem_cons.mp hr with rfl | hr
    · simp
    · have hne : ¬ ((Sum.inr s.nm : Key) = .inr r.nm) := fun e => nd.1 (by rw [Sum.inr.inj e]; exact List.mem_map_of_mem hr)
      rw [show (decide ((Sum.inr s.nm : Key) = .inr r.nm)) = false from decide_eq_false hne]
      exact ih nd.2 hr
theorem tbl_none {C : Addr} {ps : List Pr} {z : Str} (h : z ∉ ps.map Pr.nm) : valD (tblP C ps) (.inr z) = none := by
  unfold valD tblP
  rw [List.find?_eq_none.mpr fun kv hk e => ?_]
  · rfl
  · obtain ⟨r, hr, rfl⟩ := List.mem_map.mp hk
    exact h (by rw [← Sum.inr.inj (of_decide_eq_true e)]; exact List.mem_map_of_mem hr)
theorem tbl_is {C : Addr} {ps : List Pr} (nd : (ps.map Pr.nm).Nodup) (z : Str) : (valD (tblP C ps) (.inr z)).isSome = decide (z ∈ ps.map Pr.nm) := by
  by_cases h : z ∈ ps.map Pr.nm
  · obtain ⟨r, hr, rfl⟩ := List.mem_map.mp h
    rw [tbl_some nd hr, decide_eq_true h]; rfl
  · rw [tbl_none h, decide_eq_false h]; rfl
theorem at2 {x y z : Da} {xs : List Da} : atI (x :: y :: z :: xs) 2 = some z := show atI (x :: y :: z :: xs) ((2 : Nat) : Int) = some z from atI_nat rfl
theorem row_nm (ps : List Pr) : (ps.map Pr.row).map (·.1) = ps.map Pr.nm := by rw [List.map_map]; rfl
theorem okT_any {L : List Str} (h : ∀ z ∈ L, PyData.strOk z = true) : okD (.tup (L.map Da.str)) = true := (okN_tup (n := 0) fun x hx => by
  obtain ⟨z, hz, rfl⟩ := List.mem_map.mp hx; exact okN_str (h z hz)).ok (by decide)
theorem str_inj : ∀ {a b : List Str}, a.map Da.str = b.map Da.str → a = b
  | [], [], _ => rfl
  | x :: a, y :: b, h => by
    rw [List.map_cons, List.map_cons] at h
    injection h with h1 h2
    injection h1 with h1
    rw [h1, str_inj h2]
  | [], _ :: _, h => by cases h
  | _ :: _, [], h => by cases h
theorem plT_strs (L : List Str) : plD (.tup (L.map Da.str)) = true := plDs_of fun x hx => by
  obtain ⟨z, _, rfl⟩ := List.mem_map.mp hx; rfl
theorem eq_strs (a b : List Str) : eqD (.tup (a.map Da.str)) (.tup (b.map Da.str)) = decide (a = b) :=
  eqD_dec (plT_strs a) (plT_strs b) ⟨fun h => str_inj (Da.tup.inj h), fun h => by rw [h]⟩
def spKindOf : DSp := fun ds M Q _ => ∃ z xs, ds = [.tup (.str z :: xs)] ∧ Q (.str (kindD (.tup (.str z :: xs)))) M
theorem D_kind_of {P : Program} {w : World} {K : PySem.W.Frag} {mg : Str → Option Value} {base : Heap} {C_Procedure : Addr} {C_Program : Addr} {C_Space : Addr} {C_Reckoner : Addr} {C_InvalidProgram : Addr} {C_InvalidOperation : Addr} (A : Facts K C_Procedure C_Program C_Space C_Reckoner C_InvalidProgram C_InvalidOperation) (M : MgOf K mg) (Z : Zs mg)  : KnD P w K mg base "kind_of" 1 ["piece"] spKindOf := by
  refine KnD.of A.d_kind_of M sc_kind_of (fun _ _ _ _ _ _ us hl => match us, hl with | [_], _ => rfl) (fun ds M Q E ⟨_, _, h, _⟩ => by rw [h]; rfl) (fun f cdv A0 outer s H E hr => ?_)
  have hu := U.hu_of hr
  have hu1 := U.hu1_of hr
  have nd := sc_kind_of.nd
  refine ⟨_, (z_one (z_ret (d_if (d_tcm (o_din hu1) (d_ix (dn 0) d_int) (d_gt M A.c_WRAP_WORDS)) (d_gs Z.c_WRAP) (d_gs Z.c_BLOCK)))), ?_⟩
  rintro ds M Q Ed ⟨z, xs, rfl, q⟩
  refine ⟨.str z, at0, flat_strs WW z, ?_⟩
  have e : inD (.str z) (WW.map Da.str) = WW.contains z := inD_strs _ _
  show if inD (.str z) (WW.map Da.str) = true then _ else _
  rw [e]
  have q : Q (.str (if WW.contains z = true then "wrap" else "block")) M := q
  refine ite2 (fun c => ?_) (fun c => ?_)
  · rw [if_pos c] at q; exact q
  · rw [if_neg c] at q; exact q
def spFit (C : Addr) : DSp := fun ds M Q _ => ∃ (ps : List Pr) (x : Da) (z : Str) (xs : List Da) (kvs : List (Key × Da)) (n m : Nat), ds = [.dct (tblP C ps), x, .int (m : Nat)] ∧ x = .tup (.str z :: xs) ∧ xs.length ≤ 5000 ∧ bodyB (pcB kvs n) kvs z xs = true ∧ (ps.map Pr.nm).Nodup ∧ (∀ r ∈ ps, PrcOk r.nm r.own r.body) ∧ Q (.bl (fitB (ps.map Pr.row) m x)) M
theorem D_are_fit {P : Program} {w : World} {K : PySem.W.Frag} {mg : Str → Option Value} {base : Heap} {C_Procedure : Addr} {C_Program : Addr} {C_Space : Addr} {C_Reckoner : Addr} {C_InvalidProgram : Addr} {C_InvalidOperation : Addr} (A : Facts K C_Procedure C_Program C_Space C_Reckoner C_InvalidProgram C_InvalidOperation) (M : MgOf K mg) (Z : Zs mg) (D_kind_of : KnD P w K mg base "kind_of" 1 ["piece"] spKindOf) : KnD P w K mg base "are_fit" 2 ["table", "piece", "modes"] (spFit C_Procedure) := by
  refine KnD.of A.d_are_fit M sc_are_fit (fun _ _ _ _ _ _ us hl => match us, hl with | [_, _, _], _ => rfl) (fun ds M Q E ⟨_, _, _, _, _, _, _, h, _⟩ => by rw [h]; rfl) (fun f cdv A0 outer s H E hr => ?_)
  have hu := U.hu_of hr
  have hu1 := U.hu1_of hr
  have nd := sc_are_fit.nd
  refine ⟨_, (z_cons (z_if (d_tcm (o_deq hu) (d_ix (dn 1) d_int) d_str) (z_one (z_ret (d_eand (d_ecm (o_deq hu) (d_b Z.len b_len c_dlen (d_cons (d_ix (dn 1) d_int) d_nil)) (dn 2)) (d_one (d_b Z.all b_all (c_dall rfl) (d_cons (d_lc (own := [("entry", 5)]) (c := (.n 5)) rfl nd (d_it (d_ix (dn 1) d_int)) (blkOk_by (own := [("entry", 5)]) (N := N_are_fit) (sc := defScope s_are_fit) (by decide +kernel)) (fun _ _ _ _ _ => (gn 5 nd)) (fun _ _ _ _ _ => d_ts0) (fun _ _ _ _ _ => (d_eor (d_ecm o_disN (dn 5) d_non) (d_one (d_ecm o_dlt (dn 5) (dn 2)))))) d_nil)))))) z_nil)
      (z_cons (z_if (d_tcm (o_dnin hu1) (d_ix (dn 1) d_int) (d_tup (d_cons d_str (d_cons d_str d_nil)))) (z_one (z_ret d_bl)) z_nil)
      (z_cons (z_if (d_tcm (o_dninK hu) (d_ix (dn 1) d_int) (dn 0)) (z_one (z_ret d_bl)) z_nil)
      (z_cons (z_set 3 nd (d_fld A.cls_Procedure.cl A.n_Procedure_own_kinds (d_dix hu (dn 0) (d_ix (dn 1) d_int))))
      (z_cons (z_set 4 nd (d_t Z.tuple b_tuple c_dtuple (d_cons (d_lc (own := [("value", 6)]) (c := (.n 6)) rfl nd (d_it (d_sl (dn 1) (d_psome d_int) d_pnone)) (blkOk_by (own := [("value", 6)]) (N := N_are_fit) (sc := defScope s_are_fit) (by decide +kernel)) (fun _ _ _ _ _ => (gn 6 nd)) (fun _ _ _ _ _ => d_ts0) (fun _ _ _ _ _ => (d_call D_kind_of (hr.mono (by decide)) (d_cons (dn 6) d_nil)))) d_nil)))
      (z_one (z_ret (d_if (d_tcm (o_deq hu) (d_ix (dn 1) d_int) d_str) (d_ecm (o_deq hu) (dn 4) (dn 3)) (d_ecm (o_deq hu) (d_tup (d_star (dn 4) (d_cons (d_gs Z.c_BLOCK) d_nil))) (dn 3)))))))))), ?_⟩
  rintro ds M Q Ed ⟨ps, x, z, xs, kvs, n, m, rfl, rfl, hxl, hb, nd, hp, q⟩
  refine ⟨.str z, at0, ?_⟩
  by_cases e1 : z = "do"
  · subst e1
    unfold bodyB at hb
    rw [if_pos rfl] at hb
    match xs, hb with
    | [w, t], hb =>
      have ht := (Bool.and_eq_true_iff.mp hb).2
      cases t with
      | tup ts =>
        have ht : ((decide (0 < ts.length) && decide (ts.length ≤ 3)) && ts.all fun e => isNon e || isFr e 0 2) = true := ht
        rw [Bool.and_eq_true, Bool.and_eq_true, decide_eq_true_eq, decide_eq_true_eq] at ht
        have q : Q (.bl (decide (ts.length = m) && ts.all (modB m))) M := q
        refine ⟨.tup ts, at2, ?_⟩
        cases c : decide (ts.length = m) with
        | false =>
          have e : (decide (((ts.length : Nat) : Int) = (m : Int))) = false := by
            have := of_decide_eq_false c
            exact decide_eq_false (by omega)
          rw [c, Bool.false_and] at q
          show if decide (((ts.length : Nat) : Int) = (m : Int)) = true then _ else _
          rw [e]
          exact ifF (by decide) q
        | true =>
          have e : (decide (((ts.length : Nat) : Int) = (m : Int))) = true := by
            have := of_decide_eq_true c
            exact decide_eq_true (by omega)
          rw [c, Bool.true_and] at q
          show if decide (((ts.length : Nat) : Int) = (m : Int)) = true then _ else _
          rw [e]
          refine ifT rfl ⟨.tup ts, at2, sz (by have := ht.1.2; omega), ?_⟩
          have key : ts = ts.map id := (List.map_id ts).symm
          rw [key]
          refine lcD_all (fun e => Da.bl (modB m e)) (fun _ _ => trivial) (fun e he Q q => ?_) ⟨_, asBls_fun _ _, ?_⟩
          · have := List.all_eq_true.mp ht.2 e he
            cases e with
            | non => exact q
            | int i =>
              have h0 : (decide ((0 : Int) ≤ i) && decide (i ≤ 2)) = true := this
              rw [Bool.and_eq_true, decide_eq_true_eq] at h0
              have q : Q (.bl (decide (0 ≤ i) && decide (i < (m : Nat)))) M := q
              rw [decide_eq_true h0.1, Bool.true_and] at q
              exact q
            | _ => simp [isNon, isFr] at this
          · rw [List.all_map]
            exact q
      | _ => cases ht
  · refine ifF (by simpa using e1) ?_
    refine ⟨.str z, at0, rfl, flat_strs ["call", "with"] z, ?_⟩
    have e : inD (.str z) ((["call", "with"] : List Str).map Da.str) = (["call", "with"] : List Str).contains z := inD_strs _ _
    show if (!inD (.str z) ((["call", "with"] : List Str).map Da.str)) = true then _ else _
    rw [e]
    refine ite2 (fun c => ?_) (fun c => ?_)
    · have e2 : ¬ z = "call" := fun h => by subst h; simp at c
      have e3 : ¬ z = "with" := fun h => by subst h; simp at c
      have ef : fitB (ps.map Pr.row) m (.tup (.str z :: xs)) = true := by
        show (if z = "do" then _ else if z = "call" then _ else if z = "with" then _ else true) = true
        rw [if_neg e1, if_neg e2, if_neg e3]
      rw [ef] at q
      exact q
    · have e2 : z = "call" ∨ z = "with" := by
        apply Classical.byContradiction
        intro h
        rw [not_or] at h
        exact c (by simp [h.1, h.2])
      obtain ⟨y, gs, rfl⟩ := sec_ok hb (.inr e2)
      have hg : ∀ g ∈ gs, ∃ z' ys, g = .tup (.str z' :: ys) := by
        have go : ((nameD (.str y) && gs.all fun g => pcB kvs n TW g || pcB kvs n WW g) = true) := by
          unfold bodyB at hb
          rcases e2 with rfl | rfl
          · exact hb
          · exact hb
        intro g h
        have := List.all_eq_true.mp (Bool.and_eq_true_iff.mp go).2 g h
        obtain ⟨_, z', ys, _, e, _⟩ := okP.shape (Bool.or_eq_true_iff.mp this)
        exact ⟨z', ys, e⟩
      refine ⟨.str y, at1, .inr y, rfl, ?_⟩
      show if (!(valD (tblP C_Procedure ps) (.inr y)).isSome) = true then _ else _
      rw [tbl_is nd]
      by_cases hy : y ∈ ps.map Pr.nm
      · rw [decide_eq_true hy]
        refine ifF (by decide) ?_
        obtain ⟨r, hr, rfl⟩ := List.mem_map.mp hy
        have hro : rowOf (ps.map Pr.row) r.nm = r.own := rowOf_mem (r := r.row) (by rw [row_nm]; exact nd) (List.mem_map_of_mem hr)
        have hin : decide (r.nm ∈ (ps.map Pr.row).map (·.1)) = true := by rw [row_nm]; exact decide_eq_true hy
        refine ⟨.str r.nm, at1, .inr r.nm, r.da C_Procedure, rfl, tbl_some nd hr, rfl, _, rfl, ?_⟩
        show Sz (U.cutD (Da.str z :: Da.str r.nm :: gs) (some 2) none).length ∧ lcD _ _ _ _ (U.cutD (Da.str z :: Da.str r.nm :: gs) (some 2) none) _ _
        rw [cut2]
        refine ⟨sz (by simp at hxl; omega), ?_⟩
        have key : gs = gs.map id := (List.map_id gs).symm
        rw [key]
        refine lcD_all (fun g => Da.str (kindD g)) (fun _ _ => trivial) (fun g hgm Q q => ?_) ?_
        · obtain ⟨z', ys, rfl⟩ := hg g hgm
          exact ⟨z', ys, rfl, q⟩
        have ok1 : ∀ k ∈ gs.map kindD, PyData.strOk k = true := fun k hk => by
          obtain ⟨g, hgm, rfl⟩ := List.mem_map.mp hk
          obtain ⟨z', ys, rfl⟩ := hg g hgm
          show PyData.strOk (if WW.contains z' = true then "wrap" else "block") = true
          split <;> decide +kernel
        have ok2 : ∀ k ∈ r.own.map (·.2), PyData.strOk k = true := fun k hk => by
          obtain ⟨p, hpm, rfl⟩ := List.mem_map.mp hk
          exact word_ok ((hp r hr).ow.ok p hpm).2 (by decide +kernel)
        have m1 : (gs.map fun g => Da.str (kindD g)) = (gs.map kindD).map Da.str := by rw [List.map_map]; rfl
        have m2 : (r.own.map fun p => Da.str p.2) = (r.own.map (·.2)).map Da.str := by rw [List.map_map]; rfl
        rcases e2 with rfl | rfl
        · have q : Q (.bl (decide (r.nm ∈ (ps.map Pr.row).map (·.1)) && decide (gs.map kindD = (rowOf (ps.map Pr.row) r.nm).map (·.2)))) M := q
          rw [hin, hro, Bool.true_and] at q
          refine ⟨.str "call", at0, ?_⟩
          refine ⟨by rw [m1]; exact okT_any ok1, by rw [m2]; exact okT_any ok2, ?_⟩
          rw [m1, m2, eq_strs]
          exact q
        · have q : Q (.bl (decide (r.nm ∈ (ps.map Pr.row).map (·.1)) && decide (gs.map kindD ++ [("block" : Str)] = (rowOf (ps.map Pr.row) r.nm).map (·.2)))) M := q
          rw [hin, hro, Bool.true_and] at q
          refine ⟨.str "with", at0, ?_⟩
          have m3 : (gs.map fun g => Da.str (kindD g)) ++ [Da.str "block"] = (gs.map kindD ++ [("block" : Str)]).map Da.str := by rw [List.map_append, m1]; rfl
          refine ⟨sz (by simp at hxl ⊢; omega), by rw [m3]; exact okT_any (fun k hk => (List.mem_append.mp hk).elim (ok1 k) fun h => by rw [List.mem_singleton.mp h]; decide +kernel), by rw [m2]; exact okT_any ok2, ?_⟩
          rw [m3, m2, eq_strs]
          exact q
      · rw [decide_eq_false hy]
        refine ifT rfl ?_
        have ef : fitB (ps.map Pr.row) m (.tup (.str z :: .str y :: gs)) = false := by
          have hin : decide (y ∈ (ps.map Pr.row).map (·.1)) = false := by rw [row_nm]; exact decide_eq_false hy
          rcases e2 with rfl | rfl
          · show (decide (y ∈ (ps.map Pr.row).map (·.1)) && _) = false
            rw [hin]; rfl
          · show (decide (y ∈ (ps.map Pr.row).map (·.1)) && _) = false
            rw [hin]; rfl
        rw [ef] at q
        exact q

end K28
set_option Elab.async false
set_option linter.all false
set_option maxRecDepth 100000
set_option maxHeartbeats 4000000


namespace K28
open PySem PySem.Spec PyProof.Rows L2 U
def wrB (own : List (Str × Str)) : Bool := (own.map (·.2)).contains ("wrap" : Str)
structure PrgOk (m : Nat) (ps : List Pr) : Prop where
  m1 : 1 ≤ m
  m3 : m ≤ 3
  ne : ps ≠ []
  len : ps.length ≤ 8
  ok : ∀ r ∈ ps, PrOk r
  nd : (ps.map Pr.nm).Nodup
  mn : ∃ r ∈ ps, r.nm = "main" ∧ r.own = []
  ft : ∀ r ∈ ps, ∀ y ∈ allF 6 r.body, fitB (ps.map Pr.row) m y = true
  wr : ps.any (fun r => wrB r.own) = true → m < 3
def prgF (C : Addr) (m : Nat) (ps : List Pr) : List (Str × Da) :=
  [("own_has_wraps", .bl (ps.any fun r => wrB r.own)), ("own_modes", .int (m : Nat)), ("own_procedures", .tup (ps.map (Pr.da C))), ("own_table", .dct (tblP C ps))]
def Prg (C Cp : Addr) (m : Nat) (ps : List Pr) : Da := .obj C (prgF Cp m ps)
theorem tbl_fold {C : Addr} : ∀ {ps qs : List Pr}, ((qs ++ ps).map Pr.nm).Nodup → ps.foldl (fun a (x : Pr) => putDK a (Sum.inr x.nm) (x.da C)) (tblP C qs) = tblP C (qs ++ ps)
  | [], qs, _ => by rw [List.append_nil]; rfl
  | p :: ps, qs, h => by
    have hn : p.nm ∉ qs.map Pr.nm := fun hm => by
      rw [List.map_append, List.nodup_append] at h
      exact h.2.2 _ hm _ (by rw [List.map_cons]; exact List.mem_cons_self) rfl
    have e : putDK (tblP C qs) (.inr p.nm) (p.da C) = tblP C (qs ++ [p]) := by
      rw [putDK_new (by
        intro hm
        unfold tblP at hm
        rw [List.map_map] at hm
        obtain ⟨r, hr, er⟩ := List.mem_map.mp hm
        exact hn (by rw [← Sum.inr.inj er]; exact List.mem_map_of_mem hr))]
      unfold tblP
      rw [List.map_append]; rfl
    rw [List.foldl_cons, e, tbl_fold (by rw [List.append_assoc]; exact h), List.append_assoc]; rfl
theorem pv_kid {x : Da} (h : pv x) : ∀ k ∈ kidsD x, pv k := fun k hk => by
  cases x with
  | tup ys =>
    cases ys with
    | nil => cases hk
    | cons y ys =>
      cases y with
      | str z =>
        cases h with
        | tup _ _ hx => exact hx k (List.mem_cons_of_mem _ (kids_mem hk))
      | _ => cases hk
  | _ => cases hk
theorem allF_pv : ∀ {n : Nat} {x : Da}, pv x → ∀ y ∈ allF n x, pv y
  | 0, x, h, y, hy => by rw [List.mem_singleton.mp hy]; exact h
  | n + 1, x, h, y, hy => by
    rcases List.mem_cons.mp hy with rfl | hy
    · exact h
    · obtain ⟨k, hk, hy⟩ := List.mem_flatMap.mp hy
      exact allF_pv (pv_kid h k hk) y hy
theorem pr_piece {r : Pr} (h : PrOk r) : r.R.length ≤ 40 ∧ ∀ y ∈ r.R, y ∈ allF 6 r.body ∧ ∃ m z xs, y = .tup (.str z :: xs) ∧ xs.length ≤ 5000 ∧ bodyB (pcB (kvsD r.own) m) (kvsD r.own) z xs = true := by
  obtain ⟨h1, h2⟩ := prc_R h.ok h.pm
  refine ⟨h1, fun y hy => ?_⟩
  have hm := h.pm.mem_iff.mp hy
  obtain ⟨m, z, xs, rfl, hb⟩ := h2 y hy
  refine ⟨hm, m, z, xs, rfl, ?_, hb⟩
  have := allF_pv h.ok.pv _ hm
  cases this with
  | tup _ hl _ => rw [List.length_cons] at hl; omega
def spInitG (C Cp : Addr) : DSp := fun ds M Q _ => ∃ p m ps, ds = [.ref p, .int (m : Nat), .tup (ps.map (Pr.da Cp))] ∧ PrgOk m ps ∧ M p = some (.ins C []) ∧ Q .non (mput M p (.ins C (prgF Cp m ps)))
theorem D_Program___init__ {P : Program} {w : World} {K : PySem.W.Frag} {mg : Str → Option Value} {base : Heap} {C_Procedure : Addr} {C_Program : Addr} {C_Space : Addr} {C_Reckoner : Addr} {C_InvalidProgram : Addr} {C_InvalidOperation : Addr} (A : Facts K C_Procedure C_Program C_Space C_Reckoner C_InvalidProgram C_InvalidOperation) (M : MgOf K mg) (Z : Zs mg) (D_is_from : KnD P w K mg base "is_from" 2 ["value", "first", "last"] spIsFrom) (D_are_fit : KnD P w K mg base "are_fit" 2 ["table", "piece", "modes"] (spFit C_Procedure)) : KnMR P w K mg base (L2.CX P w) C_Program "__init__" 3 (spStar 2 (spInitG C_Program C_Procedure)) := by
  refine KnMR.of (ps := ["self", "modes"]) (pv := "procedures") A.m_Program___init__ sc_Program___init__ (fun _ _ _ _ _ _ us rest hl => StX.bind_star2 (B := fun z => bindArgs _ ⟨z, []⟩) (fun _ _ => rfl) (fun _ _ _ _ => rfl) us rest hl)  (fun f cdv A0 outer s H E hr => ?_)
  have hu := U.hu_of hr
  have hu1 := U.hu1_of hr
  have nd := sc_Program___init__.nd
  refine ⟨_, (z_cons (z_if (d_w (d_or (d_tnot (d_tv (d_call D_is_from (hr.mono (by decide)) (d_cons (dn 1) (d_cons d_int (d_cons (d_gi Z.c_MAX_MODES) d_nil)))))) (d_or1 (d_tnot (d_tch o_dlt o_dle d_int (d_b Z.len b_len c_dlen (d_cons (dn 2) d_nil)) (d_gi Z.c_MAX_PROCEDURES)))))) (z_one z_never) z_nil)
      (z_cons (z_if (d_tnot (d_tv (d_b Z.all b_all (c_dall rfl) (d_cons (d_lc (own := [("one", 4)]) (c := (.n 4)) rfl nd (d_it (dn 2)) (blkOk_by (own := [("one", 4)]) (N := N_Program___init__) (sc := defScope s_Program___init__) (by decide +kernel)) (fun _ _ _ _ _ => (gn 4 nd)) (fun _ _ _ _ _ => d_ts0) (fun _ _ _ _ _ => (d_b Z.isinstance b_isinstance (c_disiK (K := K) rfl) (d_cons (dn 4) (d_cons (d_glob (M.of _ _ A.cls_Procedure.at_)) d_nil))))) d_nil)))) (z_one z_never) z_nil)
      (z_cons (z_set 3 nd (d_dc (own := [("one", 4)]) (c := (.n 4)) rfl nd (d_it (dn 2)) (blkOk_by (own := [("one", 4)]) (N := N_Program___init__) (sc := defScope s_Program___init__) (by decide +kernel)) (fun _ _ _ _ _ => (gn 4 nd)) (fun _ _ _ _ _ => d_ts0) (fun _ _ _ _ _ => (d_fld A.cls_Procedure.cl A.n_Procedure_own_name (dn 4))) (fun _ _ _ _ _ => (dn 4))))
      (z_cons (z_if (d_w (d_or (d_tcm (o_dne hu) (d_b Z.len b_len c_dlenD (d_cons (dn 3) d_nil)) (d_b Z.len b_len c_dlen (d_cons (dn 2) d_nil))) (d_or (d_tcm (o_dninK hu) (d_gs Z.c_MAIN) (dn 3)) (d_or1 (d_tcm (o_dneE hu) (d_fld A.cls_Procedure.cl A.n_Procedure_own_kinds (d_dix hu (dn 3) (d_gs Z.c_MAIN))) (d_tup d_nil)))))) (z_one z_never) z_nil)
      (z_cons (z_if (d_tnot (d_tv (d_b Z.all b_all (c_dall rfl) (d_cons (d_lc2 (own := [("one", 4), ("piece", 5)]) (c := (.n 4)) (c1 := (.n 5)) (vs1 := [5]) rfl nd (d_it (dn 2)) (blkOk_by (own := [("one", 4), ("piece", 5)]) (N := N_Program___init__) (sc := defScope s_Program___init__) (by decide +kernel)) (by decide) (fun _ _ _ _ _ => (gn 4 nd)) (fun _ _ _ _ _ => d_ts0) (fun _ _ _ _ _ => (d_it (d_fld A.cls_Procedure.cl A.n_Procedure_own_pieces (dn 4)))) (fun _ _ _ _ _ => (gn 5 nd)) (fun _ _ _ _ _ => d_ts0) (fun _ _ _ _ _ => (d_call D_are_fit (hr.mono (by decide)) (d_cons (dn 3) (d_cons (dn 5) (d_cons (dn 1) d_nil)))))) d_nil)))) (z_one z_never) z_nil)
      (z_cons (z_sto A.cls_Program.cl A.n_Program_own_has_wraps (d_b Z.any b_any (c_dany rfl) (d_cons (d_lc (own := [("one", 4)]) (c := (.n 4)) rfl nd (d_it (dn 2)) (blkOk_by (own := [("one", 4)]) (N := N_Program___init__) (sc := defScope s_Program___init__) (by decide +kernel)) (fun _ _ _ _ _ => (gn 4 nd)) (fun _ _ _ _ _ => d_ts0) (fun _ _ _ _ _ => (d_ecm (o_din hu1) (d_gs Z.c_WRAP) (d_fld A.cls_Procedure.cl A.n_Procedure_own_kinds (dn 4))))) d_nil)) (dn 0))
      (z_cons (z_if (d_w (d_and (d_tv (d_fld A.cls_Program.cl A.n_Program_own_has_wraps (dn 0))) (d_and1 (d_tcm (o_deq hu) (dn 1) (d_gi Z.c_MAX_MODES))))) (z_one z_never) z_nil)
      (z_cons (z_sto A.cls_Program.cl A.n_Program_own_modes (dn 1) (dn 0))
      (z_cons (z_sto A.cls_Program.cl A.n_Program_own_procedures (dn 2) (dn 0))
      (z_one (z_sto A.cls_Program.cl A.n_Program_own_table (dn 3) (dn 0)))))))))))), ?_⟩
  rintro ds M Q Ed ⟨p, m, ps, rfl, hP, hM, q⟩
  have hm1 := hP.m1
  have hm3 := hP.m3
  have hl8 := hP.len
  refine ⟨.int (m : Nat), 1, 3, rfl, .int _, ?_⟩
  have hfr : isFr (.int (m : Nat)) 1 3 = true := by
    show (decide ((1 : Int) ≤ (m : Nat)) && decide (((m : Nat) : Int) ≤ 3)) = true
    rw [decide_eq_true (by omega), decide_eq_true (by omega)]; rfl
  have hl0 : 0 < ps.length := List.length_pos_iff.mpr hP.ne
  have hlm : (ps.map (Pr.da C_Procedure)).length = ps.length := List.length_map _
  refine ifF (by rw [hfr]; decide) ?_
  refine ifT (by rw [hlm]; exact decide_eq_true (by omega)) ?_
  refine ifF (by rw [hlm, decide_eq_true (by omega)]; decide) ?_
  refine ⟨sz (by rw [hlm]; omega), ?_⟩
  refine lcD_all (fun r : Pr => Da.bl true) (fun _ _ => trivial) (fun r hr Q q => ⟨A.cls_Procedure.isC, _, A.cls_Procedure.self, q⟩) ⟨_, asBls_fun _ _, ?_⟩
  refine ifF (by simp) ?_
  refine ⟨sz (by rw [hlm]; omega), ?_⟩
  refine dcD_map (fun r : Pr => (Sum.inr r.nm : Key)) (Pr.da C_Procedure) (fun _ _ => trivial) (fun r hr Q q => ⟨rfl, _, rfl, q⟩) (fun r hr Q q => q) ?_
  have ht : (ps.foldl (fun a (x : Pr) => putDK a (Sum.inr x.nm) (x.da C_Procedure)) []) = tblP C_Procedure ps := by
    have := tbl_fold (C := C_Procedure) (ps := ps) (qs := []) (by simpa using hP.nd)
    exact this
  rw [ht]
  have htl : (tblP C_Procedure ps).length = ps.length := List.length_map _
  refine ifF (by rw [htl, hlm]; simp) ?_
  have hmn : ("main" : Str) ∈ ps.map Pr.nm := by
    obtain ⟨r, hr, e, _⟩ := hP.mn
    rw [← e]; exact List.mem_map_of_mem hr
  refine ⟨.inr "main", rfl, ?_⟩
  refine ifF (by rw [tbl_is hP.nd, decide_eq_true hmn]; decide) ?_
  obtain ⟨⟨nm0, own0, body0, R0⟩, hr0, e0, eo⟩ := hP.mn
  obtain rfl : nm0 = "main" := e0
  obtain rfl : own0 = [] := eo
  refine ⟨.inr "main", Pr.da C_Procedure ⟨"main", [], body0, R0⟩, rfl, tbl_some hP.nd hr0, rfl, _, rfl, rfl, ?_⟩
  refine ⟨sq (by rw [hlm]; omega), ?_⟩
  refine lc2D_all (inn := fun r : Pr => r.R) (h := id) (f := fun (_ : Pr) (_ : Da) => Da.bl true) (fun r hr => ⟨trivial, sr (by have := (pr_piece (hP.ok r hr)).1; omega), fun Q q => ⟨rfl, _, rfl, by rw [List.map_id] at q; exact q⟩⟩) (fun r hr y hy => ⟨trivial, fun Q q => ?_⟩) ?_
  · obtain ⟨hm, k, z, xs, e, hxl, hb⟩ := (pr_piece (hP.ok r hr)).2 y hy
    refine ⟨ps, y, z, xs, kvsD r.own, k, m, rfl, e, hxl, hb, hP.nd, fun r hr => (hP.ok r hr).ok, ?_⟩
    rw [hP.ft r hr y hm]
    exact q
  have hfm : (ps.flatMap fun r => r.R.map fun _ => Da.bl true) = (ps.flatMap fun r => r.R).map fun _ => Da.bl true := by rw [List.map_flatMap]
  rw [hfm]
  refine ⟨_, asBls_fun (fun _ => true) _, ?_⟩
  refine ifF (by simp) ?_
  refine ⟨sz (by rw [hlm]; omega), ?_⟩
  refine lcD_all (fun r : Pr => Da.bl (wrB r.own)) (fun _ _ => trivial) (fun r hr Q q => ?_) ⟨_, asBls_fun (fun r : Pr => wrB r.own) _, ?_⟩
  · have m2 : (r.own.map fun p => Da.str p.2) = (r.own.map (·.2)).map Da.str := by rw [List.map_map]; rfl
    refine ⟨rfl, _, rfl, ?_⟩
    rw [m2]
    refine ⟨flat_strs _ _, ?_⟩
    rw [inD_strs]
    exact q
  have hwa : ((ps.map fun r : Pr => wrB r.own).any id) = ps.any fun r => wrB r.own := by rw [List.any_map]; rfl
  rw [hwa]
  have hwr := hP.wr
  refine ⟨_, hM, rfl, ?_⟩
  have fin : hSeq (hSto C_Program "own_modes" (gVar 0) (gVar 1)) (hSeq (hSto C_Program "own_procedures" (gVar 0) (gVar 2)) (hSto C_Program "own_table" (gVar 0) (gVar 3))) (bodyX Q Ed)
      (List.set (startD N_Program___init__ [.ref p, .int (m : Nat), .tup (ps.map (Pr.da C_Procedure))]) 3 (some (.dct (tblP C_Procedure ps)))) (mput M p (.ins C_Program [("own_has_wraps", .bl (ps.any fun r => wrB r.own))])) := by
    refine ⟨_, mput_same, rfl, _, mput_same, rfl, _, mput_same, rfl, ?_⟩
    rw [mput_put, mput_put, mput_put]
    exact q
  generalize (ps.any fun r => wrB r.own) = b at fin hwr
  refine ⟨_, mput_same, _, rfl, ?_⟩
  cases b with
  | false => exact fin
  | true =>
    have := hwr rfl
    have hm : decide (((m : Nat) : Int) = 3) = false := decide_eq_false (by omega)
    show if decide (((m : Nat) : Int) = 3) = true then _ else _
    rw [hm]
    exact ifF (by decide) fin
def spOf (C Cp : Addr) : DSp := fun ds M Q _ => ∃ m ps, ds = [.ref C, .int (m : Nat), .tup (ps.map (Pr.da Cp))] ∧ PrgOk m ps ∧ Q (Prg C Cp m ps) M
theorem D_Program_of {P : Program} {w : World} {K : PySem.W.Frag} {mg : Str → Option Value} {base : Heap} {C_Procedure : Addr} {C_Program : Addr} {C_Space : Addr} {C_Reckoner : Addr} {C_InvalidProgram : Addr} {C_InvalidOperation : Addr} (A : Facts K C_Procedure C_Program C_Space C_Reckoner C_InvalidProgram C_InvalidOperation) (M : MgOf K mg) (Z : Zs mg) (D_Program___init__ : KnMR P w K mg base (L2.CX P w) C_Program "__init__" 3 (spStar 2 (spInitG C_Program C_Procedure))) : KnCXD P w K mg base C_Program "of" 5 ["cls", "modes", "procedures"] (spOf C_Program C_Procedure) := by
  refine KnCXD.of A.c_Program_of sc_Program_of (fun _ _ _ _ _ _ us hl => match us, hl with | [_, _, _], _ => rfl) (fun ds M Q E ⟨_, _, h, _⟩ => by rw [h]; rfl) (fun f cdv A0 outer s H E hr => ?_)
  have hu := U.hu_of hr
  have hu1 := U.hu1_of hr
  have nd := sc_Program_of.nd
  refine ⟨_, (z_cons (z_if (d_tnot (d_tv (d_b Z.isinstance b_isinstance (c_disiK (K := K) rfl) (d_cons (dn 2) (d_cons (d_ty Z.tuple b_tuple) d_nil))))) (z_one z_never) z_nil)
      (z_one (z_retX (x_makeV (i := 0) A.cls_Program D_Program___init__ (hr.mono (by decide)) (dn 1) (dn 2))))), ?_⟩
  rintro ds M Q Ed ⟨m, ps, rfl, hP, q⟩
  have hl8 := hP.len
  refine ⟨by decide, ifF (by decide) ⟨rfl, fun p hp => ⟨[.ref p, .int (m : Nat)], ps.map (Pr.da C_Procedure), rfl, rfl, sz (by rw [List.length_map]; omega), p, m, ps, rfl, hP, mput_same, rfl, _, mput_same, ?_⟩⟩⟩
  rw [mput_put, mdel_put hp]
  exact ⟨_, fun _ _ h => h, q⟩
def spGetG (C Cp : Addr) (g : Nat → List Pr → Da) : DSp := fun ds M Q _ => ∃ m ps, ds = [Prg C Cp m ps] ∧ Q (g m ps) M
theorem D_Program___len__ {P : Program} {w : World} {K : PySem.W.Frag} {mg : Str → Option Value} {base : Heap} {C_Procedure : Addr} {C_Program : Addr} {C_Space : Addr} {C_Reckoner : Addr} {C_InvalidProgram : Addr} {C_InvalidOperation : Addr} (A : Facts K C_Procedure C_Program C_Space C_Reckoner C_InvalidProgram C_InvalidOperation) (M : MgOf K mg) (Z : Zs mg)  : KnMD P w K mg base C_Program "__len__" 1 ["self"] (spGetG C_Program C_Procedure fun _ ps => .int (ps.length : Nat)) := by
  refine KnMD.of A.m_Program___len__ sc_Program___len__ (fun _ _ _ _ _ _ us hl => match us, hl with | [_], _ => rfl) (fun ds M Q E ⟨_, _, h, _⟩ => by rw [h]; rfl) (fun f cdv A0 outer s H E hr => ?_)
  have hu := U.hu_of hr
  have hu1 := U.hu1_of hr
  have nd := sc_Program___len__.nd
  refine ⟨_, (z_one (z_ret (d_b Z.len b_len c_dlen (d_cons (d_fld A.cls_Program.cl A.n_Program_own_procedures (dn 0)) d_nil)))), ?_⟩
  rintro ds M Q Ed ⟨m, ps, rfl, q⟩
  refine ⟨rfl, _, rfl, ?_⟩
  have e : (ps.map (Pr.da C_Procedure)).length = ps.length := List.length_map _
  show Q (.int ((ps.map (Pr.da C_Procedure)).length : Nat)) M
  rw [e]
  exact q
def spHasG (C Cp : Addr) : DSp := fun ds M Q _ => ∃ m ps y, ds = [Prg C Cp m ps, y] ∧ PrgOk m ps ∧ ((∃ z, y = .str z ∧ Q (.bl (decide (z ∈ ps.map Pr.nm))) M) ∨ (∃ nm own body R, y = Prc Cp nm own body R ∧ Q (.bl false) M) ∨ (pv y ∧ (∀ z, y ≠ .str z) ∧ Q (.bl false) M))
theorem D_Program_has_name {P : Program} {w : World} {K : PySem.W.Frag} {mg : Str → Option Value} {base : Heap} {C_Procedure : Addr} {C_Program : Addr} {C_Space : Addr} {C_Reckoner : Addr} {C_InvalidProgram : Addr} {C_InvalidOperation : Addr} (A : Facts K C_Procedure C_Program C_Space C_Reckoner C_InvalidProgram C_InvalidOperation) (M : MgOf K mg) (Z : Zs mg)  : KnMD P w K mg base C_Program "has_name" 1 ["self", "value"] (spHasG C_Program C_Procedure) := by
  refine KnMD.of A.m_Program_has_name sc_Program_has_name (fun _ _ _ _ _ _ us hl => match us, hl with | [_, _], _ => rfl) (fun ds M Q E ⟨_, _, _, h, _⟩ => by rw [h]; rfl) (fun f cdv A0 outer s H E hr => ?_)
  have hu := U.hu_of hr
  have hu1 := U.hu1_of hr
  have nd := sc_Program_has_name.nd
  refine ⟨_, (z_one (z_ret (d_eand (d_b Z.isinstance b_isinstance (c_disiK (K := K) rfl) (d_cons (dn 1) (d_cons (d_ty Z.str b_str) d_nil))) (d_one (d_ecm (o_dinK hu) (dn 1) (d_fld A.cls_Program.cl A.n_Program_own_table (dn 0))))))), ?_⟩
  rintro ds M Q Ed ⟨m, ps, y, rfl, hP, h⟩
  rcases h with ⟨z, rfl, q⟩ | ⟨nm, own, body, R, rfl, q⟩ | ⟨hp, hn, q⟩
  · refine ⟨by decide, ifT (by decide) ⟨rfl, _, rfl, .inr z, rfl, ?_⟩⟩
    rw [← tbl_is (C := C_Procedure) hP.nd] at q
    exact q
  · exact ⟨A.cls_Procedure.isC, false, kit_mkT (by decide) A.mr_str, ifF (by decide) q⟩
  · cases hp with
    | str z => exact (hn z rfl).elim
    | _ => exact ⟨by decide, ifF (by decide) q⟩
theorem D_Program___contains__ {P : Program} {w : World} {K : PySem.W.Frag} {mg : Str → Option Value} {base : Heap} {C_Procedure : Addr} {C_Program : Addr} {C_Space : Addr} {C_Reckoner : Addr} {C_InvalidProgram : Addr} {C_InvalidOperation : Addr} (A : Facts K C_Procedure C_Program C_Space C_Reckoner C_InvalidProgram C_InvalidOperation) (M : MgOf K mg) (Z : Zs mg) (D_Program_has_name : KnMD P w K mg base C_Program "has_name" 1 ["self", "value"] (spHasG C_Program C_Procedure)) : KnMD P w K mg base C_Program "__contains__" 2 ["self", "value"] (spHasG C_Program C_Procedure) := by
  refine KnMD.of A.m_Program___contains__ sc_Program___contains__ (fun _ _ _ _ _ _ us hl => match us, hl with | [_, _], _ => rfl) (fun ds M Q E ⟨_, _, _, h, _⟩ => by rw [h]; rfl) (fun f cdv A0 outer s H E hr => ?_)
  have hu := U.hu_of hr
  have hu1 := U.hu1_of hr
  have nd := sc_Program___contains__.nd
  refine ⟨_, (z_one (z_ret (d_meth D_Program_has_name A.cls_Program.cl (hr.mono (by decide)) (dn 0) (d_cons (dn 1) d_nil)))), ?_⟩
  rintro ds M Q Ed ⟨m, ps, y, rfl, hP, h⟩
  exact ⟨⟨rfl, rfl⟩, m, ps, y, rfl, hP, h⟩
def spIxG (C Cp : Addr) : DSp := fun ds M Q _ => ∃ (m : Nat) (ps : List Pr) (r : Pr), ds = [Prg C Cp m ps, .str r.nm] ∧ PrgOk m ps ∧ r ∈ ps ∧ Q (r.da Cp) M
theorem D_Program___getitem__ {P : Program} {w : World} {K : PySem.W.Frag} {mg : Str → Option Value} {base : Heap} {C_Procedure : Addr} {C_Program : Addr} {C_Space : Addr} {C_Reckoner : Addr} {C_InvalidProgram : Addr} {C_InvalidOperation : Addr} (A : Facts K C_Procedure C_Program C_Space C_Reckoner C_InvalidProgram C_InvalidOperation) (M : MgOf K mg) (Z : Zs mg) (D_Program_has_name : KnMD P w K mg base C_Program "has_name" 1 ["self", "value"] (spHasG C_Program C_Procedure)) : KnMD P w K mg base C_Program "__getitem__" 2 ["self", "name"] (spIxG C_Program C_Procedure) := by
  refine KnMD.of A.m_Program___getitem__ sc_Program___getitem__ (fun _ _ _ _ _ _ us hl => match us, hl with | [_, _], _ => rfl) (fun ds M Q E ⟨_, _, _, h, _⟩ => by rw [h]; rfl) (fun f cdv A0 outer s H E hr => ?_)
  have hu := U.hu_of hr
  have hu1 := U.hu1_of hr
  have nd := sc_Program___getitem__.nd
  refine ⟨_, (z_cons (z_if (d_tnot (d_tv (d_meth D_Program_has_name A.cls_Program.cl (hr.mono (by decide)) (dn 0) (d_cons (dn 1) d_nil)))) (z_one z_never) z_nil)
      (z_one (z_ret (d_dix hu (d_fld A.cls_Program.cl A.n_Program_own_table (dn 0)) (dn 1))))), ?_⟩
  rintro ds M Q Ed ⟨m, ps, r, rfl, hP, hr, q⟩
  refine ⟨⟨rfl, rfl⟩, m, ps, .str r.nm, rfl, hP, .inl ⟨r.nm, rfl, ?_⟩⟩
  rw [decide_eq_true (List.mem_map_of_mem hr)]
  refine ifF (by decide) ⟨rfl, _, rfl, .inr r.nm, r.da C_Procedure, rfl, tbl_some hP.nd hr, q⟩
def txtG (m n : Nat) : Str := Str.empty ++ ("program of " : Str) ++ iS (m : Nat) ++ (" modes, " : Str) ++ iS (n : Nat) ++ (" procedures" : Str)
def spStrG (C Cp : Addr) : DSp := fun ds M Q _ => ∃ m ps, ds = [Prg C Cp m ps] ∧ PrgOk m ps ∧ Q (.str (txtG m ps.length)) M
theorem D_Program___str__ {P : Program} {w : World} {K : PySem.W.Frag} {mg : Str → Option Value} {base : Heap} {C_Procedure : Addr} {C_Program : Addr} {C_Space : Addr} {C_Reckoner : Addr} {C_InvalidProgram : Addr} {C_InvalidOperation : Addr} (A : Facts K C_Procedure C_Program C_Space C_Reckoner C_InvalidProgram C_InvalidOperation) (M : MgOf K mg) (Z : Zs mg)  : KnMD P w K mg base C_Program "__str__" 1 ["self"] (spStrG C_Program C_Procedure) := by
  refine KnMD.of A.m_Program___str__ sc_Program___str__ (fun _ _ _ _ _ _ us hl => match us, hl with | [_], _ => rfl) (fun ds M Q E ⟨_, _, h, _⟩ => by rw [h]; rfl) (fun f cdv A0 outer s H E hr => ?_)
  have hu := U.hu_of hr
  have hu1 := U.hu1_of hr
  have nd := sc_Program___str__.nd
  refine ⟨_, (z_one (z_ret (d_joined (DJ.cons d_str (DJ.cons (d_fmt (d_fld A.cls_Program.cl A.n_Program_own_modes (dn 0))) (DJ.cons d_str (DJ.cons (d_fmt (d_b Z.len b_len c_dlen (d_cons (d_fld A.cls_Program.cl A.n_Program_own_procedures (dn 0)) d_nil))) (DJ.cons d_str DJ.nil)))))))), ?_⟩
  rintro ds M Q Ed ⟨m, ps, rfl, hP, q⟩
  have hm3 := hP.m3
  have hl8 := hP.len
  have hp : (ps.map (Pr.da C_Procedure)).length = ps.length := List.length_map _
  have lg : ∀ {n : Nat}, n ≤ 40 → ((n : Int)).natAbs.log2 < 1920 ∧ (iS (n : Nat)).length ≤ 2 := fun {n} h => (show ∀ n : Fin 41, (((n.val : Nat) : Int)).natAbs.log2 < 1920 ∧ (iS (n.val : Nat)).length ≤ 2 by decide +kernel) ⟨n, by omega⟩
  have e1 := lg (n := m) (by omega)
  have e2 := lg (n := (ps.map (Pr.da C_Procedure)).length) (by rw [hp]; omega)
  have q' : Q (.str (Str.empty ++ ("program of " : Str) ++ iS (m : Nat) ++ (" modes, " : Str) ++ iS ((ps.map (Pr.da C_Procedure)).length : Nat) ++ (" procedures" : Str))) M := by rw [hp]; exact q
  have sl : ∀ a b : Str, (a ++ b).length = a.length + b.length := fun a b => Str.length_append a b
  have c0 : Str.empty.length = 0 := rfl
  have c1 : (Str.ofString "program of ").length = 11 := by decide +kernel
  have c2 : (Str.ofString " modes, ").length = 8 := by decide +kernel
  have c3 : (Str.ofString " procedures").length = 11 := by decide +kernel
  have e12 := e1.2
  have e22 := e2.2
  generalize hL : (ps.map (Pr.da C_Procedure)).length = L at e22 e2 q' hp
  have z1 : (Str.empty ++ Str.ofString "program of " ++ iS (m : Nat)).length ≤ 1000000 := by simp only [sl]; simp only [c0, c1]; omega
  have z2 : (Str.empty ++ Str.ofString "program of " ++ iS (m : Nat) ++ Str.ofString " modes, ").length ≤ 1000000 := by simp only [sl]; simp only [c0, c1, c2]; omega
  have z3 : (Str.empty ++ Str.ofString "program of " ++ iS (m : Nat) ++ Str.ofString " modes, " ++ iS (L : Nat)).length ≤ 1000000 := by simp only [sl]; simp only [c0, c1, c2]; omega
  have z4 : (Str.empty ++ Str.ofString "program of " ++ iS (m : Nat) ++ Str.ofString " modes, " ++ iS (L : Nat) ++ Str.ofString " procedures").length ≤ 1000000 := by simp only [sl]; simp only [c0, c1, c2, c3]; omega
  subst hL
  exact ⟨sz (by rw [sl]; decide +kernel), rfl, _, rfl, e1.1, sz z1, sz z2, rfl, _, rfl, e2.1, sz z3, sz z4, q'⟩
end K28
set_option Elab.async false
set_option linter.all false
set_option maxRecDepth 100000
set_option maxHeartbeats 4000000


namespace K28
open PySem PySem.Spec PyProof.Rows L2 U
theorem cmul_mod {x j k : Int} (h : 0 < k) (h2 : k ≤ 2 ^ 64) : CMul (x % k) j := .inl ⟨by have := Int.emod_nonneg x (show k ≠ 0 by omega); omega, Int.lt_of_lt_of_le (Int.emod_lt_of_pos x h) h2⟩
def Die (d : Addr) (M : Mm) : Prop := ∃ a b c : Int, M d = some (.lst [.int a, .int b, .int c])
def Km (d : Addr) (M M' : Mm) : Prop := ∀ p, p ≠ d → M' p = M p
theorem Km.refl {d : Addr} {M : Mm} : Km d M M := fun _ _ => rfl
theorem Km.trans {d : Addr} {M M1 M2 : Mm} (a : Km d M M1) (b : Km d M1 M2) : Km d M M2 := fun p h => (b p h).trans (a p h)
theorem Km.put {d : Addr} {M M' : Mm} {o : MO} (a : Km d M M') : Km d M (mput M' d o) := fun p h => (mput_ne h).trans (a p h)
def spNumbers : DSp := fun ds M Q _ => ∃ (ns : List Int) (i : Nat), ds = [.lst (ns.map Da.int), .int i] ∧ ns.length ≤ 63 ∧ i < 1000 ∧ ∀ d a b c, M d = none → Q (.ref d) (mput M d (.lst [.int a, .int b, .int c]))
def spCast : DSp := fun ds M Q _ => ∃ (d : Addr) (n : Nat), ds = [.ref d, .int n] ∧ Die d M ∧ 0 < n ∧ n < 1073741824 ∧ ∀ (r : Nat) M', r < n → Die d M' → Km d M M' → Q (.int r) M'
def spPick : DSp := fun ds M Q _ => ∃ (d : Addr) (xs : List Da), ds = [.ref d, .lst xs] ∧ Die d M ∧ 0 < xs.length ∧ xs.length < 1000000 ∧ ∀ x M', x ∈ xs → Die d M' → Km d M M' → Q x M'
theorem D__law_sack {P : Program} {w : World} {K : PySem.W.Frag} {mg : Str → Option Value} {base : Heap} {C_Procedure : Addr} {C_Program : Addr} {C_Space : Addr} {C_Reckoner : Addr} {C_InvalidProgram : Addr} {C_InvalidOperation : Addr} (A : Facts K C_Procedure C_Program C_Space C_Reckoner C_InvalidProgram C_InvalidOperation) (M : MgOf K mg) (Z : Zs mg)  : KnD P w K mg base "_law_sack" 1 ["_law_script", "_law_at"] spNumbers := by
  refine KnD.of A.d__law_sack M sc__law_sack (fun _ _ _ _ _ _ us hl => match us, hl with | [_, _], _ => rfl) (fun ds M Q E ⟨_, _, h, _⟩ => by rw [h]; rfl) (fun f cdv A0 outer s H E hr => ?_)
  have hu := U.hu_of hr
  have hu1 := U.hu1_of hr
  have nd := sc__law_sack.nd
  refine ⟨_, (z_cons (z_set 2 nd (d_if (d_tcm o_dlt (dn 1) (d_b Z.len b_len c_dlen (d_cons (dn 0) d_nil))) (d_ix (dn 0) (dn 1)) (d_op o_dadd (d_op o_dmul d_int (dn 1)) d_int)))
      (z_cons (z_set 3 nd (d_op o_dmod (d_t Z.int b_int c_dint (d_cons (d_b Z.abs b_abs c_dabs (d_cons (dn 2) d_nil)) d_nil)) (d_op o_dpow (d_op o_dpow d_int d_int) d_int)))
      (z_cons (z_set 4 nd (d_op o_dadd (d_op o_dadd (d_op o_dadd (d_op o_dmul (d_op o_dmod (d_t Z.int b_int c_dint (d_cons (dn 3) d_nil)) d_int) d_int) (d_op o_dmul d_int (dn 1))) (d_op o_dmul d_int (d_t Z.int b_int c_dint (d_cons (d_ecm o_dlt (dn 2) d_int) d_nil)))) d_int))
      (z_one (z_ret (d_lstM (d_cons (d_b Z.max b_max (c_dmax rfl) (d_cons d_int (d_cons (d_op o_dsub (dn 3) (d_op o_dpow d_int d_int)) d_nil))) (d_cons (d_op o_dmod (d_t Z.int b_int c_dint (d_cons (dn 4) d_nil)) d_int) (d_cons d_int d_nil))))))))), ?_⟩
  rintro ds M Q Ed ⟨ns, i, rfl, hl, hi, k⟩
  refine ite2 (fun c => ?_) (fun c => ⟨.inl (by omega), ?_⟩)
  · have c1 : i < ns.length := by
      have := of_decide_eq_true c
      rw [List.length_map] at this
      omega
    refine ⟨_, atI_nat (v := Da.int ns[i]) (by rw [List.getElem?_map, List.getElem?_eq_getElem c1]; rfl), ?_⟩
    refine ⟨⟨by decide, by decide⟩, ⟨by decide, by decide⟩, by decide, ?_⟩
    refine ⟨by decide, cmul_mod (by decide) (by decide), .inl (by omega), .inl (by omega), ?_⟩
    refine ⟨⟨by decide, by decide⟩, by decide, rfl, fun d hd => k d _ _ _ hd⟩
  · refine ⟨⟨by decide, by decide⟩, ⟨by decide, by decide⟩, by decide, ?_⟩
    refine ⟨by decide, cmul_mod (by decide) (by decide), .inl (by omega), .inl (by omega), ?_⟩
    refine ⟨⟨by decide, by decide⟩, by decide, rfl, fun d hd => k d _ _ _ hd⟩
theorem D__law_deal {P : Program} {w : World} {K : PySem.W.Frag} {mg : Str → Option Value} {base : Heap} {C_Procedure : Addr} {C_Program : Addr} {C_Space : Addr} {C_Reckoner : Addr} {C_InvalidProgram : Addr} {C_InvalidOperation : Addr} (A : Facts K C_Procedure C_Program C_Space C_Reckoner C_InvalidProgram C_InvalidOperation) (M : MgOf K mg) (Z : Zs mg)  : KnD P w K mg base "_law_deal" 1 ["_law_sack_here", "_law_size"] spCast := by
  refine KnD.of A.d__law_deal M sc__law_deal (fun _ _ _ _ _ _ us hl => match us, hl with | [_, _], _ => rfl) (fun ds M Q E ⟨_, _, h, _⟩ => by rw [h]; rfl) (fun f cdv A0 outer s H E hr => ?_)
  have hu := U.hu_of hr
  have hu1 := U.hu1_of hr
  have nd := sc__law_deal.nd
  refine ⟨_, (z_cons (z_if (d_tcm o_dgt (d_ix (dn 0) d_int) d_int) (z_cons (z_set 2 nd (d_op o_dmod (d_t Z.int b_int c_dint (d_cons (d_ix (dn 0) d_int) d_nil)) (dn 1)))
      (z_cons (z_asg (d_op o_ddiv (d_ix (dn 0) d_int) (dn 1)) (t_sub (dn 0) d_int))
      (z_one (z_ret (dn 2))))) z_nil)
      (z_cons (z_asg (d_op o_dadd (d_ix (dn 0) d_int) d_int) (t_sub (dn 0) d_int))
      (z_cons (z_set 3 nd (d_op o_dmod (d_t Z.int b_int c_dint (d_cons (d_op o_dadd (d_ix (dn 0) d_int) (d_op o_dmul d_int (d_ix (dn 0) d_int))) d_nil)) d_int))
      (z_cons (z_set 4 nd (d_op o_dadd (d_op o_dmul (d_op o_dmod (d_t Z.int b_int c_dint (d_cons (d_op o_dmul (dn 3) (dn 3)) d_nil)) d_int) (dn 3)) (d_op o_dmul d_int (d_ix (dn 0) d_int))))
      (z_one (z_ret (d_op o_dmod (d_t Z.int b_int c_dint (d_cons (d_op o_ddiv (d_op o_dmod (d_t Z.int b_int c_dint (d_cons (dn 4) d_nil)) d_int) d_int) d_nil)) (dn 1)))))))), ?_⟩
  rintro ds M Q Ed ⟨d, n, rfl, ⟨a, b, c, hd⟩, h0, h1, k⟩
  have h0' : (0 : Int) < n := by omega
  have rr : ∀ x : Int, ∃ r : Nat, x % n = r ∧ r < n := fun x => ⟨(x % n).toNat, by
    have := Int.emod_nonneg x (show (n : Int) ≠ 0 by omega); omega, by
    have := Int.emod_nonneg x (show (n : Int) ≠ 0 by omega); have := Int.emod_lt_of_pos x h0'; omega⟩
  refine ⟨_, _, hd, rfl, ite2 (fun c0 => ?_) (fun c0 => ?_)⟩
  · refine ⟨_, _, hd, rfl, h0', ?_⟩
    refine ⟨_, _, hd, rfl, ⟨h0', by omega⟩, _, _, hd, rfl, ?_⟩
    obtain ⟨r, e, hr'⟩ := rr a
    show Q (.int (a % n)) _
    rw [e]
    exact k r _ hr' ⟨_, _, _, mput_same⟩ Km.refl.put
  · refine ⟨_, _, hd, rfl, _, _, hd, rfl, ?_⟩
    refine ⟨_, _, mput_same, rfl, _, _, mput_same, rfl, .inl ⟨by decide, by decide⟩, by decide, ?_⟩
    refine ⟨cmul_mod (by decide) (by decide), by decide, cmul_mod (by decide) (by decide), _, _, mput_same, rfl, .inl ⟨by decide, by decide⟩, ?_⟩
    refine ⟨by decide, ⟨by decide, by decide⟩, h0', ?_⟩
    refine (fun (x : Int) => ?_ : ∀ x : Int, Q (.int (x % n)) _) _
    obtain ⟨r, e, hr'⟩ := rr x
    rw [e]
    exact k r _ hr' ⟨_, _, _, mput_same⟩ Km.refl.put
theorem D__law_pick {P : Program} {w : World} {K : PySem.W.Frag} {mg : Str → Option Value} {base : Heap} {C_Procedure : Addr} {C_Program : Addr} {C_Space : Addr} {C_Reckoner : Addr} {C_InvalidProgram : Addr} {C_InvalidOperation : Addr} (A : Facts K C_Procedure C_Program C_Space C_Reckoner C_InvalidProgram C_InvalidOperation) (M : MgOf K mg) (Z : Zs mg) (D__law_deal : KnD P w K mg base "_law_deal" 1 ["_law_sack_here", "_law_size"] spCast) : KnD P w K mg base "_law_pick" 2 ["_law_sack_here", "_law_items"] spPick := by
  refine KnD.of A.d__law_pick M sc__law_pick (fun _ _ _ _ _ _ us hl => match us, hl with | [_, _], _ => rfl) (fun ds M Q E ⟨_, _, h, _⟩ => by rw [h]; rfl) (fun f cdv A0 outer s H E hr => ?_)
  have hu := U.hu_of hr
  have hu1 := U.hu1_of hr
  have nd := sc__law_pick.nd
  refine ⟨_, (z_one (z_ret (d_ix (dn 1) (d_call D__law_deal (hr.mono (by decide)) (d_cons (dn 0) (d_cons (d_b Z.len b_len c_dlen (d_cons (dn 1) d_nil)) d_nil)))))), ?_⟩
  rintro ds M Q Ed ⟨d, xs, rfl, hd, h0, h1, k⟩
  refine ⟨d, xs.length, rfl, hd, h0, by omega, fun r M' hr hd' km => ?_⟩
  exact ⟨_, atI_nat (List.getElem?_eq_getElem hr), k _ _ (List.getElem_mem hr) hd' km⟩
mutual
def pvB : Da → Bool
  | .non => true
  | .bl _ => true
  | .int _ => true
  | .str z => decide (z.length ≤ 1000)
  | .lst xs => decide (xs.length ≤ 5000) && pvBs xs
  | .tup xs => decide (xs.length ≤ 5000) && pvBs xs
  | .dct _ => true
  | _ => false
def pvBs : List Da → Bool
  | [] => true
  | x :: xs => pvB x && pvBs xs
end
mutual
theorem pv_of : ∀ {x : Da}, pvB x = true → pv x
  | .non, _ => .non
  | .bl b, _ => .bl b
  | .int i, _ => .int i
  | .str z, h => .str z (of_decide_eq_true h)
  | .lst xs, h => by
    have h' : (decide (xs.length ≤ 5000) && pvBs xs) = true := by simpa [pvB] using h
    rw [Bool.and_eq_true, decide_eq_true_eq] at h'
    exact .lst xs h'.1 (pvs_of h'.2)
  | .tup xs, h => by
    have h' : (decide (xs.length ≤ 5000) && pvBs xs) = true := by simpa [pvB] using h
    rw [Bool.and_eq_true, decide_eq_true_eq] at h'
    exact .tup xs h'.1 (pvs_of h'.2)
  | .dct k, _ => .dct k
  | .obj _ _, h => by simp [pvB] at h
  | .ref _, h => by simp [pvB] at h
  | .ty _, h => by simp [pvB] at h
theorem pvs_of : ∀ {xs : List Da}, pvBs xs = true → ∀ x ∈ xs, pv x
  | [], _, x, hx => nomatch hx
  | y :: ys, h, x, hx => by
    have h' : (pvB y && pvBs ys) = true := by simpa [pvBs] using h
    rw [Bool.and_eq_true] at h'
    rcases List.mem_cons.mp hx with e | hx
    · rw [e]; exact pv_of h'.1
    · exact pvs_of h'.2 x hx
end

end K28
set_option Elab.async false
set_option linter.all false
set_option maxRecDepth 100000
set_option maxHeartbeats 4000000


namespace K28
open PySem PySem.Spec PyProof.Rows L2 U
def deedOk (m : Nat) (x : Da) : Prop := ∃ w ts, x = .tup [.str "do", .str w, .tup ts] ∧ (w = "a" ∨ w = "b" ∨ w = "go" ∨ w = "abcdefgh") ∧ ts.length = m ∧ ∀ t ∈ ts, t = .non ∨ ∃ j : Nat, j < m ∧ t = .int j
def spDeed : DSp := fun ds M Q _ => ∃ d m, ds = [.ref d, .int (m : Nat)] ∧ Die d M ∧ 1 ≤ m ∧ m ≤ 3 ∧ ∀ x M', deedOk m x → Die d M' → Km d M M' → Q x M'
theorem D__law_deed {P : Program} {w : World} {K : PySem.W.Frag} {mg : Str → Option Value} {base : Heap} {C_Procedure : Addr} {C_Program : Addr} {C_Space : Addr} {C_Reckoner : Addr} {C_InvalidProgram : Addr} {C_InvalidOperation : Addr} (A : Facts K C_Procedure C_Program C_Space C_Reckoner C_InvalidProgram C_InvalidOperation) (M : MgOf K mg) (Z : Zs mg) (D__law_pick : KnD P w K mg base "_law_pick" 2 ["_law_sack_here", "_law_items"] spPick) : KnD P w K mg base "_law_deed" 3 ["_law_sack_here", "_law_modes"] spDeed := by
  refine KnD.of A.d__law_deed M sc__law_deed (fun _ _ _ _ _ _ us hl => match us, hl with | [_, _], _ => rfl) (fun ds M Q E ⟨_, _, h, _⟩ => by rw [h]; rfl) (fun f cdv A0 outer s H E hr => ?_)
  have hu := U.hu_of hr
  have hu1 := U.hu1_of hr
  have nd := sc__law_deed.nd
  refine ⟨_, (z_cons (z_setLc (i := 2) (own := [("_law_mode", 3)]) (c := (.n 3)) rfl nd rfl rfl (sw_true rfl rfl rfl (by decide +kernel)) (d_rg1 Z.range (d_cons (dn 1) d_nil)) (blkOk_by (own := [("_law_mode", 3)]) (N := N__law_deed) (sc := defScope s__law_deed) (by decide +kernel)) (fun _ _ _ _ _ => (gn 3 nd)) (fun _ _ _ _ _ => d_ts0) (fun _ _ _ _ _ => (d_call D__law_pick (hr.mono (by decide)) (d_cons (dn 0) (d_cons (d_op o_dadd (d_lst (d_cons d_non d_nil)) (d_op o_dmul (d_lstRg rfl Z.list Z.range (dn 1)) d_int)) d_nil)))))
      (z_one (z_ret (d_tup (d_cons d_str (d_cons (d_call D__law_pick (hr.mono (by decide)) (d_cons (dn 0) (d_cons (d_lst (d_cons d_str (d_cons d_str (d_cons d_str (d_cons d_str d_nil))))) d_nil))) (d_cons (d_t Z.tuple b_tuple c_dtuple (d_cons (dn 2) d_nil)) d_nil))))))), ?_⟩
  rintro ds M Q Ed ⟨d, m, rfl, hd, h1, h3, k⟩
  refine ⟨rok (by omega) (by omega), ?_⟩
  rw [rngD0' (n := m) rfl]
  refine ⟨sz (by rw [List.length_map, List.length_range]; omega), ?_⟩
  refine lcD_st0 (fun l acc M' => Die d M' ∧ Km d M M' ∧ acc.length + l.length = m ∧ ∀ t ∈ acc, t = .non ∨ ∃ j : Nat, j < m ∧ t = .int j) ⟨hd, .refl, by rw [List.length_range]; simp, fun _ h => nomatch h⟩ (fun _ => trivial) ?_ ?_
  · rintro x l acc M' ⟨hd', km, hl, ha⟩ Q next
    have lr : (rngD 0 ((m : Nat) : Int).toNat).length = m := by rw [rngD0' (n := m) rfl, List.length_map, List.length_range]
    refine ⟨rfl, ⟨by omega, by omega⟩, by decide, by decide, by rw [lr]; omega, ?_⟩
    rw [rngD0' (n := m) rfl]
    have hin : ∀ t ∈ Da.non :: (List.replicate (2 : Int).toNat ((List.range m).map fun i : Nat => Da.int (i : Int))).flatten, t = .non ∨ ∃ j : Nat, j < m ∧ t = .int j := fun t ht => by
      rcases List.mem_cons.mp ht with e | ht
      · exact .inl e
      · obtain ⟨l', h1, h2⟩ := List.mem_flatten.mp ht
        rw [(List.mem_replicate.mp h1).2] at h2
        obtain ⟨j, hj, e⟩ := List.mem_map.mp h2
        exact .inr ⟨j, List.mem_range.mp hj, e.symm⟩
    have hlen : (List.replicate (2 : Int).toNat ((List.range m).map fun i : Nat => Da.int (i : Int))).flatten.length ≤ 6 := by
      rw [show (2 : Int).toNat = 2 from rfl]
      simp [List.replicate]
      omega
    refine ⟨sz (by rw [List.length_singleton]; omega), d, Da.non :: _, rfl, hd', by simp, Nat.lt_of_le_of_lt (Nat.succ_le_succ hlen) (by decide), fun y M2 hy hd2 km2 => next y M2 ⟨hd2, km.trans km2, ?_, fun t ht => ?_⟩⟩
    · rw [List.length_append, List.length_singleton]
      rw [List.length_cons] at hl
      omega
    · rcases List.mem_append.mp ht with h | h
      · exact ha t h
      · rw [List.mem_singleton.mp h]
        exact hin y hy
  · rintro acc M' ⟨hd', km, hl, ha⟩
    refine ⟨rfl, d, _, rfl, hd', by decide, by decide, fun w M2 hw hd2 km2 => ⟨rfl, k _ _ ?_ hd2 (km.trans km2)⟩⟩
    have hw' : ∃ z : Str, w = .str z ∧ (z = "a" ∨ z = "b" ∨ z = "go" ∨ z = "abcdefgh") := by
      simp only [List.mem_cons, List.not_mem_nil, or_false] at hw
      rcases hw with h | h | h | h
      · exact ⟨_, h, .inl rfl⟩
      · exact ⟨_, h, .inr (.inl rfl)⟩
      · exact ⟨_, h, .inr (.inr (.inl rfl))⟩
      · exact ⟨_, h, .inr (.inr (.inr rfl))⟩
    obtain ⟨z, rfl, hz⟩ := hw'
    exact ⟨z, acc, rfl, hz, by simpa using hl, ha⟩

end K28
set_option Elab.async false
set_option linter.all false
set_option maxRecDepth 100000
set_option maxHeartbeats 4000000


namespace K28
open PySem PySem.Spec PyProof.Rows L2 U
structure Gs (kvs : List (Key × Da)) (rows : Rws) (m : Nat) (ws : List Str) (n s : Nat) (x : Da) : Prop where
  ok : pcB kvs n ws x = true
  pv : pv x
  sz : (allF n x).length ≤ s
  ft : ∀ y ∈ allF n x, fitB rows m y = true
theorem allF_ups {kvs : List (Key × Da)} {ws : List Str} (hw : ws = TW ∨ ws = WW) {n n' : Nat} {x : Da} (hn : n ≤ n') (h : pcB kvs n ws x = true) : allF n' x = allF n x := by
  induction hn with
  | refl => rfl
  | @step k hk ih =>
    have h2 := pcB_up hk h
    rw [← ih]
    exact allF_up (kvs := kvs) (by rcases hw with rfl | rfl; exact .inl h2; exact .inr h2)
theorem Gs.up {kvs : List (Key × Da)} {rows : Rws} {m : Nat} {ws : List Str} (hw : ws = TW ∨ ws = WW) {n n' s s' : Nat} {x : Da} (hn : n ≤ n') (hs : s ≤ s') (h : Gs kvs rows m ws n s x) : Gs kvs rows m ws n' s' x := by
  have e := allF_ups hw hn h.ok
  exact ⟨pcB_up hn h.ok, h.pv, by rw [e]; exact Nat.le_trans h.sz hs, by rw [e]; exact h.ft⟩
theorem flat_le {n s : Nat} : ∀ {l : List Da}, (∀ y ∈ l, (allF n y).length ≤ s) → (l.flatMap (allF n)).length ≤ l.length * s
  | [], _ => by simp
  | y :: l, h => by
    rw [List.flatMap_cons, List.length_append, List.length_cons, Nat.succ_mul]
    have := h y List.mem_cons_self
    have := flat_le (l := l) fun y hy => h y (List.mem_cons_of_mem _ hy)
    omega
theorem gs_mk {kvs : List (Key × Da)} {rows : Rws} {m : Nat} {ws : List Str} {n s k : Nat} {z : Str} {xs : List Da} (hz : ws.contains z = true) (hz2 : z.length ≤ 1000) (hb : bodyB (pcB kvs n) kvs z xs = true) (hp : ∀ y ∈ xs, pv y) (hl : xs.length ≤ 4000) (hk : (kidsL z xs).length ≤ k)
    (hs : ∀ y ∈ kidsL z xs, (allF n y).length ≤ s) (hf : fitB rows m (.tup (.str z :: xs)) = true) (hfs : ∀ y ∈ kidsL z xs, ∀ u ∈ allF n y, fitB rows m u = true) : Gs kvs rows m ws (n + 1) (1 + k * s) (.tup (.str z :: xs)) := by
  refine ⟨by rw [pcB_yes hz]; exact hb, .tup _ (by rw [List.length_cons]; omega) fun y hy => ?_, ?_, fun y hy => ?_⟩
  · rcases List.mem_cons.mp hy with rfl | hy
    · exact .str _ hz2
    · exact hp y hy
  · show (_ :: (kidsL z xs).flatMap (allF n)).length ≤ _
    rw [List.length_cons]
    have h1 := flat_le hs
    have h2 : (kidsL z xs).length * s ≤ k * s := Nat.mul_le_mul_right _ hk
    omega
  · have hy : y ∈ _ :: (kidsL z xs).flatMap (allF n) := hy
    rcases List.mem_cons.mp hy with rfl | hy
    · exact hf
    · obtain ⟨u, hu, hy⟩ := List.mem_flatMap.mp hy
      exact hfs u hu y hy
/-- without pieces in it -/
theorem gs_leaf {kvs : List (Key × Da)} {rows : Rws} {m : Nat} {ws : List Str} {n : Nat} {z : Str} {xs : List Da} (hz : ws.contains z = true) (hz2 : z.length ≤ 1000) (hb : bodyB (pcB kvs n) kvs z xs = true) (hp : ∀ y ∈ xs, pv y) (hl : xs.length ≤ 4000) (hk : kidsL z xs = [])
    (hf : fitB rows m (.tup (.str z :: xs)) = true) : Gs kvs rows m ws (n + 1) 1 (.tup (.str z :: xs)) := by
  have h := gs_mk (s := 0) (k := 2) hz hz2 hb hp hl (by rw [hk]; exact Nat.zero_le _) (fun y hy => by rw [hk] at hy; cases hy) hf (fun y hy => by rw [hk] at hy; cases hy)
  exact h
theorem gs_run {kvs : List (Key × Da)} {rows : Rws} {m : Nat} {n : Nat} {p : Str} (h : kindB kvs "block" (.str p) = true) (hp : p.length ≤ 1000) : Gs kvs rows m TW (n + 1) 1 (.tup [.str "run", .str p]) :=
  gs_leaf (by decide) (by decide +kernel) h (fun y hy => by rw [List.mem_singleton.mp hy]; exact .str _ hp) (by simp) rfl rfl
theorem gs_own {kvs : List (Key × Da)} {rows : Rws} {m : Nat} {n : Nat} {p : Str} (h : kindB kvs "wrap" (.str p) = true) (hp : p.length ≤ 1000) : Gs kvs rows m WW (n + 1) 1 (.tup [.str "own", .str p]) :=
  gs_leaf (by decide) (by decide +kernel) h (fun y hy => by rw [List.mem_singleton.mp hy]; exact .str _ hp) (by simp) rfl rfl
theorem gs_none {kvs : List (Key × Da)} {rows : Rws} {m : Nat} {n : Nat} : Gs kvs rows m TW (n + 1) 1 (.tup [.str "seq"]) :=
  gs_leaf (by decide) (by decide +kernel) rfl (fun y hy => nomatch hy) (by simp) rfl rfl
theorem gs_seq {kvs : List (Key × Da)} {rows : Rws} {m : Nat} {n s : Nat} {z : Str} (hz : z = "seq" ∨ z = "or") {a b : Da} (ha : Gs kvs rows m TW n s a) (hb : Gs kvs rows m TW n s b) : Gs kvs rows m TW (n + 1) (1 + 2 * s) (.tup [.str z, a, b]) := by
  have hm : ∀ {P : Da → Prop}, P a → P b → ∀ y ∈ [a, b], P y := fun {P} h1 h2 y hy => by
    simp only [List.mem_cons, List.not_mem_nil, or_false] at hy
    rcases hy with rfl | rfl
    · exact h1
    · exact h2
  have hall : ([a, b] : List Da).all (pcB kvs n TW) = true := List.all_eq_true.mpr (hm ha.ok hb.ok)
  rcases hz with rfl | rfl
  · exact gs_mk (by decide) (by decide +kernel) hall (hm ha.pv hb.pv) (by simp) (show 2 ≤ 2 by decide) (hm (P := fun y => (allF n y).length ≤ s) ha.sz hb.sz) rfl (hm (P := fun y => ∀ u ∈ allF n y, fitB rows m u = true) ha.ft hb.ft)
  · exact gs_mk (by decide) (by decide +kernel) hall (hm ha.pv hb.pv) (by simp) (show 2 ≤ 2 by decide) (hm (P := fun y => (allF n y).length ≤ s) ha.sz hb.sz) rfl (hm (P := fun y => ∀ u ∈ allF n y, fitB rows m u = true) ha.ft hb.ft)
theorem gs_wrap {kvs : List (Key × Da)} {rows : Rws} {m : Nat} {n s : Nat} {a b : Da} (ha : Gs kvs rows m WW n s a) (hb : Gs kvs rows m TW n s b) : Gs kvs rows m TW (n + 1) (1 + 2 * s) (.tup [.str "wrap", a, b]) := by
  have hm : ∀ {P : Da → Prop}, P a → P b → ∀ y ∈ [a, b], P y := fun {P} h1 h2 y hy => by
    simp only [List.mem_cons, List.not_mem_nil, or_false] at hy
    rcases hy with rfl | rfl
    · exact h1
    · exact h2
  exact gs_mk (by decide) (by decide +kernel) (Bool.and_eq_true_iff.mpr ⟨ha.ok, hb.ok⟩) (hm ha.pv hb.pv) (by simp) (show 2 ≤ 2 by decide) (hm (P := fun y => (allF n y).length ≤ s) ha.sz hb.sz) rfl (hm (P := fun y => ∀ u ∈ allF n y, fitB rows m u = true) ha.ft hb.ft)
theorem pc_head {kvs : List (Key × Da)} {n : Nat} {ws : List Str} {x : Da} (h : pcB kvs n ws x = true) : ∃ z xs, x = .tup (.str z :: xs) ∧ ws.contains z = true := by
  cases c : hasW ws x with
  | false => rw [pcB_no c] at h; cases h
  | true => exact hasW_shape c
theorem kindD_T {kvs : List (Key × Da)} {n : Nat} {x : Da} (h : pcB kvs n TW x = true) : kindD x = "block" := by
  obtain ⟨z, xs, rfl, hz⟩ := pc_head h
  have : z ∈ TW := by simpa using hz
  unfold TW at this
  simp only [List.mem_cons, List.not_mem_nil, or_false] at this
  rcases this with rfl | rfl | rfl | rfl | rfl | rfl <;> rfl
theorem kindD_W {kvs : List (Key × Da)} {n : Nat} {x : Da} (h : pcB kvs n WW x = true) : kindD x = "wrap" := by
  obtain ⟨z, xs, rfl, hz⟩ := pc_head h
  exact if_pos hz

end K28
set_option Elab.async false
set_option linter.all false
set_option maxRecDepth 100000
set_option maxHeartbeats 4000000


namespace K28
open PySem PySem.Spec PyProof.Rows L2 U
theorem gs_deed {kvs : List (Key × Da)} {rows : Rws} {m n : Nat} {x : Da} (hm1 : 1 ≤ m) (hm : m ≤ 3) (h : deedOk m x) : Gs kvs rows m TW (n + 1) 1 x := by
  obtain ⟨w, ts, rfl, hw, hl, ht⟩ := h
  have hn : nameZ w = true := by rcases hw with rfl | rfl | rfl | rfl <;> decide +kernel
  have htb : tableB (.tup ts) = true := by
    show ((decide (0 < ts.length) && decide (ts.length ≤ 3)) && ts.all fun e => isNon e || isFr e 0 2) = true
    rw [decide_eq_true (by omega), decide_eq_true (by omega), Bool.true_and, Bool.true_and, List.all_eq_true]
    intro t h
    rcases ht t h with rfl | ⟨j, hj, rfl⟩
    · rfl
    · show (decide ((0 : Int) ≤ (j : Int)) && decide ((j : Int) ≤ 2)) = true
      rw [decide_eq_true (by omega), decide_eq_true (by omega)]; rfl
  refine gs_leaf (by decide) (by decide +kernel) ?_ (fun y hy => ?_) (by simp) rfl ?_
  · show (nameD (.str w) && tableB (.tup ts)) = true
    rw [show nameD (.str w) = true from hn, htb]; rfl
  · simp only [List.mem_cons, List.not_mem_nil, or_false] at hy
    rcases hy with rfl | rfl
    · exact .str _ (by rcases hw with rfl | rfl | rfl | rfl <;> decide +kernel)
    · refine .tup _ (by omega) fun t h => ?_
      rcases ht t h with rfl | ⟨j, _, rfl⟩
      · exact .non
      · exact .int _
  · show (decide (ts.length = m) && ts.all (modB m)) = true
    rw [decide_eq_true hl, Bool.true_and, List.all_eq_true]
    intro t h
    rcases ht t h with rfl | ⟨j, hj, rfl⟩
    · rfl
    · show (decide ((0 : Int) ≤ (j : Int)) && decide ((j : Int) < (m : Nat))) = true
      rw [decide_eq_true (by omega), decide_eq_true (by omega)]; rfl
theorem gs_call {kvs : List (Key × Da)} {rows : Rws} {m : Nat} {n s k : Nat} {c : Str} {gs : List Da} (hc : nameZ c = true) (h : ∀ g ∈ gs, Gs kvs rows m TW n s g ∨ Gs kvs rows m WW n s g) (hl : gs.length ≤ k) (hk3 : k ≤ 3) (hin : c ∈ rows.map (·.1)) :
    (gs.map kindD = (rowOf rows c).map (·.2) → Gs kvs rows m TW (n + 1) (1 + k * s) (.tup (.str "call" :: .str c :: gs))) ∧ (gs.map kindD ++ [("block" : Str)] = (rowOf rows c).map (·.2) → Gs kvs rows m WW (n + 1) (1 + k * s) (.tup (.str "with" :: .str c :: gs))) := by
  have hz : c.length ≤ 1000 := by
    unfold nameZ at hc
    simp only [Bool.and_eq_true, decide_eq_true_eq] at hc
    omega
  have hb : (nameD (.str c) && gs.all fun g => pcB kvs n TW g || pcB kvs n WW g) = true := by
    rw [show nameD (.str c) = true from hc, Bool.true_and, List.all_eq_true]
    intro g hg
    rcases h g hg with e | e
    · rw [e.ok]; rfl
    · rw [e.ok, Bool.or_true]
  have hp : ∀ y ∈ Da.str c :: gs, pv y := fun y hy => by
    rcases List.mem_cons.mp hy with rfl | hy
    · exact .str _ hz
    · exact (h y hy).elim (·.pv) (·.pv)
  have hs : ∀ y ∈ gs, (allF n y).length ≤ s := fun y hy => (h y hy).elim (·.sz) (·.sz)
  have hf : ∀ y ∈ gs, ∀ u ∈ allF n y, fitB rows m u = true := fun y hy => (h y hy).elim (·.ft) (·.ft)
  have hcc : decide (c ∈ rows.map (·.1)) = true := decide_eq_true hin
  refine ⟨fun hk => gs_mk (by decide) (by decide +kernel) hb hp (by rw [List.length_cons]; omega) hl hs ?_ hf, fun hk => gs_mk (by decide) (by decide +kernel) hb hp (by rw [List.length_cons]; omega) hl hs ?_ hf⟩
  · show (decide (c ∈ rows.map (·.1)) && decide (gs.map kindD = (rowOf rows c).map (·.2))) = true
    rw [hcc, decide_eq_true hk]; rfl
  · show (decide (c ∈ rows.map (·.1)) && decide (gs.map kindD ++ [("block" : Str)] = (rowOf rows c).map (·.2))) = true
    rw [hcc, decide_eq_true hk]; rfl
theorem Gs.tup {kvs : List (Key × Da)} {rows : Rws} {m : Nat} {ws : List Str} {n s : Nat} {x : Da} (h : Gs kvs rows m ws n s x) : ∃ xs, x = .tup xs := by
  obtain ⟨z, xs, rfl, _⟩ := pc_head h.ok
  exact ⟨_, rfl⟩
def tS : Nat → Nat
  | 0 => 1
  | e + 1 => 2 * tS e + 3
def hS : Nat → Nat
  | 0 => 1
  | e + 1 => tS e + 1

end K28
set_option Elab.async false
set_option linter.all false
set_option maxRecDepth 100000
set_option maxHeartbeats 4000000


namespace K28
open PySem PySem.Spec PyProof.Rows L2 U
def ownNames (own : List (Str × Str)) (k : Str) : List Str := (own.filter fun p => decide (p.2 = k)).map (·.1)

theorem kd_own {own : List (Str × Str)} (h : OwnOk own) {p k : Str} (hp : (p, k) ∈ own) : valD (kvsD own) (.inr p) = some (.str k) := by
  have nd := h.nd
  clear h
  unfold valD kvsD
  induction own with
  | nil => cases hp
  | cons s own ih =>
    rw [List.map_cons, List.find?_cons]
    rw [List.map_cons, List.nodup_cons] at nd
    rcases List.mem_cons.mp hp with rfl | hp
    · simp
    · have hne : ¬ ((Sum.inr s.1 : Key) = .inr p) := fun e => nd.1 (by rw [Sum.inr.inj e]; exact List.mem_map.mpr ⟨_, hp, rfl⟩)
      rw [show (decide ((Sum.inr s.1 : Key) = .inr p)) = false from decide_eq_false hne]
      exact ih hp nd.2
theorem kd_kind {own : List (Str × Str)} (h : OwnOk own) {p k : Str} (hp : p ∈ ownNames own k) : kindB (kvsD own) k (.str p) = true ∧ nameZ p = true := by
  unfold ownNames at hp
  obtain ⟨q, hq, rfl⟩ := List.mem_map.mp hp
  obtain ⟨h1, h2⟩ := List.mem_filter.mp hq
  have h3 : q.2 = k := of_decide_eq_true h2
  refine ⟨?_, (h.ok q h1).1⟩
  show strIs (valD (kvsD own) (.inr q.1)) k = true
  rw [kd_own h (k := k) (by rw [← h3]; exact h1)]
  exact decide_eq_true rfl
theorem nameZ_len {z : Str} (h : nameZ z = true) : z.length ≤ 1000 := by
  unfold nameZ at h
  simp only [Bool.and_eq_true, decide_eq_true_eq] at h
  omega
theorem cutI {α : Type} : ∀ {xs : List α}, xs.length ≤ 3 → U.cutD xs none (some (-1)) = xs.dropLast
  | [], _ => rfl
  | [_], _ => rfl
  | [_, _], _ => rfl
  | [_, _, _], _ => rfl
  | _ :: _ :: _ :: _ :: _, h => by simp at h
def tD : Nat → Nat
  | 0 => 1
  | e + 1 => e + 3
theorem hS_le : ∀ e, hS e ≤ tS e
  | 0 => Nat.le_refl _
  | e + 1 => by show tS e + 1 ≤ 2 * tS e + 3; omega
theorem tD_pos : ∀ e, 1 ≤ tD e
  | 0 => Nat.le_refl _
  | e + 1 => by show 1 ≤ e + 3; omega
theorem tD_le : ∀ e, tD e ≤ e + 2
  | 0 => by decide
  | e + 1 => Nat.le_refl _
theorem tS_pos : ∀ e, 1 ≤ tS e
  | 0 => Nat.le_refl _
  | e + 1 => by show 1 ≤ 2 * tS e + 3; omega
def ownL (own : List (Str × Str)) : Da := .lst (own.map fun p => .tup [.str p.1, .str p.2])
def kndD (own : List (Str × Str)) : Da := .tup (own.map fun p => .str p.2)
def headsD (hs : Rws) : List (Key × Da) := hs.map fun r => (Sum.inr r.1, kndD r.2)
structure HdsOk (hs : Rws) : Prop where
  ne : hs ≠ []
  len : hs.length ≤ 12
  ok : ∀ r ∈ hs, nameZ r.1 = true ∧ OwnOk r.2 ∧ r.2.length ≤ 2 ∧ r.1 ≠ "main"
  nd : (hs.map (·.1)).Nodup
/-- what is the same in all of them -/
structure Dw (d pl t : Addr) (m : Nat) (hs : Rws) (own : List (Str × Str)) (M : Mm) : Prop where
  die : Die d M
  plan : M pl = some (.dct [(.inr "modes", .int (m : Nat)), (.inr "heads", .ref t)])
  tab : M t = some (.dct (headsD hs))
  ok : HdsOk hs
  ow : OwnOk own
  m1 : 1 ≤ m
  m3 : m ≤ 3
theorem Dw.ne {d pl t : Addr} {m : Nat} {hs : Rws} {own : List (Str × Str)} {M : Mm} (h : Dw d pl t m hs own M) : pl ≠ d ∧ t ≠ d := by
  obtain ⟨a, b, c, q⟩ := h.die
  refine ⟨fun e => ?_, fun e => ?_⟩
  · have := h.plan; rw [e, q] at this; cases this
  · have := h.tab; rw [e, q] at this; cases this
theorem Dw.next {d pl t : Addr} {m : Nat} {hs : Rws} {own : List (Str × Str)} {M M' : Mm} (h : Dw d pl t m hs own M) (hd : Die d M') (km : Km d M M') : Dw d pl t m hs own M' :=
  ⟨hd, by rw [km pl h.ne.1]; exact h.plan, by rw [km t h.ne.2]; exact h.tab, h.ok, h.ow, h.m1, h.m3⟩
abbrev rwm (hs : Rws) : Rws := ("main", []) :: hs
def spTerm (n : Nat) : DSp := fun ds M Q _ => ∃ d pl t m hs own, ∃ e : Int, ds = [.ref d, .ref pl, ownL own, .int e] ∧ -1 ≤ e ∧ e + 2 ≤ n ∧ Dw d pl t m hs own M ∧ ∀ x M', Gs (kvsD own) (rwm hs) m TW (tD e.toNat) (tS e.toNat) x → Die d M' → Km d M M' → Q x M'
def Hd (hs : Rws) (m : Nat) (own : List (Str × Str)) (e : Nat) (k : Str) (x : Da) : Prop := (k = "block" ∧ Gs (kvsD own) (rwm hs) m TW (e + 1) (hS e) x) ∨ (k = "wrap" ∧ Gs (kvsD own) (rwm hs) m WW (e + 1) (hS e) x)
def spHand (n : Nat) : DSp := fun ds M Q _ => ∃ d pl t m hs own, ∃ e : Nat, ∃ k : Str, ds = [.ref d, .ref pl, ownL own, .int (e : Nat), .str k] ∧ (k = "block" ∨ k = "wrap") ∧ e + 1 ≤ n ∧ Dw d pl t m hs own M ∧ ∀ x M', (x = .non ∨ Hd hs m own e k x) → Die d M' → Km d M M' → Q x M'
def spCall (n : Nat) : DSp := fun ds M Q _ => ∃ d pl t m hs own, ∃ e : Nat, ds = [.ref d, .ref pl, ownL own, .int (e : Nat)] ∧ 1 ≤ e ∧ e + 1 ≤ n ∧ Dw d pl t m hs own M ∧ ∀ x M', Gs (kvsD own) (rwm hs) m TW (tD e) (tS e) x → Die d M' → Km d M M' → Q x M'
def lastK (own : List (Str × Str)) : Option Str := own.getLast?.map (·.2)
theorem last_split {own : List (Str × Str)} {k : Str} (h : lastK own = some k) : own.dropLast.map (·.2) ++ [k] = own.map (·.2) := by
  unfold lastK at h
  cases e : own.getLast? with
  | none => rw [e] at h; cases h
  | some p =>
    rw [e] at h
    cases h
    have hne : own ≠ [] := fun z => by rw [z] at e; cases e
    have e2 : own.getLast hne = p := by rw [List.getLast?_eq_some_getLast hne] at e; exact Option.some.inj e
    conv => rhs; rw [← List.dropLast_concat_getLast hne]
    rw [List.map_append, e2]; rfl
theorem eq_strs' (a b : List Str) : eqD (.tup (a.map Da.str)) (.tup (b.map Da.str)) = decide (a = b) :=
  eqD_dec (plT_strs a) (plT_strs b) ⟨fun h => str_inj (Da.tup.inj h), fun h => by rw [h]⟩
theorem cut_last {own : List (Str × Str)} (h : own.length ≤ 2) : eqD (.tup (U.cutD (own.map fun p => Da.str p.2) (some (-1)) none)) (.tup [.str "block"]) = decide (lastK own = some "block") := by
  match own, h with
  | [], _ => exact (eq_strs' [] ["block"]).trans (by decide)
  | [p], _ =>
    refine (eq_strs' [p.2] ["block"]).trans ?_
    show _ = decide (some p.2 = some ("block" : Str))
    congr 1
    simp
  | [p, q], _ =>
    refine (eq_strs' [q.2] ["block"]).trans ?_
    show _ = decide (some q.2 = some ("block" : Str))
    congr 1
    simp
  | _ :: _ :: _ :: _, h => exact absurd h (by simp)
theorem kind_strOk {own : List (Str × Str)} (ho : OwnOk own) {p : Str × Str} (hp : p ∈ own) : PyData.strOk p.2 = true := word_ok (ho.ok p hp).2 (by decide +kernel)
theorem cut_ok {own : List (Str × Str)} (ho : OwnOk own) (h : own.length ≤ 2) : okD (.tup (U.cutD (own.map fun p => Da.str p.2) (some (-1)) none)) = true := by
  match own, ho, h with
  | [], _, _ => exact okT_any (L := []) fun _ h => nomatch h
  | [p], ho, _ => exact okT_any (L := [p.2]) fun z hz => by rw [List.mem_singleton.mp hz]; exact kind_strOk ho List.mem_cons_self
  | [p, q], ho, _ => exact okT_any (L := [q.2]) fun z hz => by rw [List.mem_singleton.mp hz]; exact kind_strOk ho (List.mem_cons_of_mem _ List.mem_cons_self)
  | _ :: _ :: _ :: _, _, h => exact absurd h (by simp)
theorem head_keys (hs : Rws) : (headsD hs).map (·.1) = (hs.map (·.1)).map Sum.inr := by
  unfold headsD; rw [List.map_map, List.map_map]; rfl
structure HdOf (hs : Rws) (z : Str) : Prop where
  val : valD (headsD hs) (.inr z) = some (kndD (rowOf hs z))
  ok : OwnOk (rowOf hs z)
  nm : nameZ z = true
  l2 : (rowOf hs z).length ≤ 2
  row : rowOf (rwm hs) z = rowOf hs z
  mem : z ∈ (rwm hs).map (·.1)
theorem hd_of {hs : Rws} (h : HdsOk hs) {z : Str} (hz : z ∈ hs.map (·.1)) : HdOf hs z := by
  obtain ⟨r, hr, rfl⟩ := List.mem_map.mp hz
  obtain ⟨h1, h2, h3, h4⟩ := h.ok r hr
  have e := rowOf_mem h.nd hr
  refine ⟨?_, by rw [e]; exact h2, h1, by rw [e]; exact h3, ?_, List.mem_cons_of_mem _ hz⟩
  · rw [e]
    have nd := h.nd
    clear h e h1 h2 h3 h4 hz
    unfold valD headsD
    induction hs with
    | nil => cases hr
    | cons s hs ih =>
      rw [List.map_cons, List.find?_cons]
      rw [List.map_cons, List.nodup_cons] at nd
      rcases List.mem_cons.mp hr with rfl | hr
      · simp
      · have hne : ¬ ((Sum.inr s.1 : Key) = .inr r.1) := fun e => nd.1 (by rw [Sum.inr.inj e]; exact List.mem_map.mpr ⟨_, hr, rfl⟩)
        rw [show (decide ((Sum.inr s.1 : Key) = .inr r.1)) = false from decide_eq_false hne]
        exact ih hr nd.2
  · unfold rowOf rwm
    rw [List.find?_cons]
    rw [show (decide ((("main" : Str), ([] : List (Str × Str))).1 = r.1)) = false from decide_eq_false fun e => h4 e.symm]
theorem gs_ok {own : List (Str × Str)} (ho : OwnOk own) {rows : Rws} {m n s : Nat} {ws : List Str} (hw : ws = TW ∨ ws = WW) {x : Da} (h : Gs (kvsD own) rows m ws n s x) : okN (n + 2) x := by
  exact (pc_ok (kvs := kvsD own) (fun z k hv => own_val ho hv) (by rcases hw with rfl | rfl <;> decide +kernel) h.ok).2
theorem Hd.okn {own : List (Str × Str)} (ho : OwnOk own) {hs : Rws} {m e : Nat} {k : Str} {x : Da} (h : x = .non ∨ Hd hs m own e k x) : okN (e + 3) x := by
  rcases h with rfl | ⟨_, h⟩ | ⟨_, h⟩
  · exact okN_non
  · exact gs_ok ho (.inl rfl) h
  · exact gs_ok ho (.inr rfl) h
theorem Hd.kind {own : List (Str × Str)} {hs : Rws} {m e : Nat} {k : Str} {x : Da} (h : Hd hs m own e k x) : kindD x = k := by
  rcases h with ⟨rfl, h⟩ | ⟨rfl, h⟩
  · exact kindD_T h.ok
  · exact kindD_W h.ok
theorem Hd.two {own : List (Str × Str)} {hs : Rws} {m e : Nat} {k : Str} {x : Da} (h : Hd hs m own e k x) : Gs (kvsD own) (rwm hs) m TW (e + 1) (hS e) x ∨ Gs (kvsD own) (rwm hs) m WW (e + 1) (hS e) x := by
  rcases h with ⟨_, h⟩ | ⟨_, h⟩
  · exact .inl h
  · exact .inr h
/-- what was handed, one after the other -/
inductive Hds (hs : Rws) (m : Nat) (own : List (Str × Str)) (e : Nat) : List Str → List Da → Prop
  | nil : Hds hs m own e [] []
  | snoc {ks xs k x} : Hds hs m own e ks xs → (x = .non ∨ Hd hs m own e k x) → Hds hs m own e (ks ++ [k]) (xs ++ [x])
theorem Hds.all {own : List (Str × Str)} {hs : Rws} {m e : Nat} {ks : List Str} {xs : List Da} (h : Hds hs m own e ks xs) : ∀ x ∈ xs, ∃ k, x = .non ∨ Hd hs m own e k x := by
  induction h with
  | nil => exact fun _ h => nomatch h
  | snoc _ h ih =>
    intro y hy
    rcases List.mem_append.mp hy with hy | hy
    · exact ih y hy
    · rw [List.mem_singleton.mp hy]; exact ⟨_, h⟩
theorem Hds.len {own : List (Str × Str)} {hs : Rws} {m e : Nat} {ks : List Str} {xs : List Da} (h : Hds hs m own e ks xs) : xs.length = ks.length := by
  induction h with
  | nil => rfl
  | snoc _ _ ih => rw [List.length_append, List.length_append, ih]; rfl
theorem Hds.kinds {own : List (Str × Str)} {hs : Rws} {m e : Nat} {ks : List Str} {xs : List Da} (h : Hds hs m own e ks xs) (hn : ∀ x ∈ xs, x ≠ .non) : xs.map kindD = ks := by
  induction h with
  | nil => rfl
  | snoc _ h ih =>
    rw [List.map_append, ih fun x hx => hn x (List.mem_append_left _ hx), List.map_singleton, (h.resolve_left (hn _ (List.mem_append_right _ (List.mem_singleton.mpr rfl)))).kind]
theorem Hds.two {own : List (Str × Str)} {hs : Rws} {m e : Nat} {ks : List Str} {xs : List Da} (h : Hds hs m own e ks xs) (hn : ∀ x ∈ xs, x ≠ .non) : ∀ x ∈ xs, Gs (kvsD own) (rwm hs) m TW (e + 1) (hS e) x ∨ Gs (kvsD own) (rwm hs) m WW (e + 1) (hS e) x := fun x hx => by
  obtain ⟨k, hk⟩ := h.all x hx
  exact (hk.resolve_left (hn x hx)).two
theorem Hds.okd {own : List (Str × Str)} (ho : OwnOk own) {hs : Rws} {m e : Nat} (he : e ≤ 10) {ks : List Str} {xs : List Da} (h : Hds hs m own e ks xs) : okD (.lst xs) = true :=
  (okN_lst (n := e + 3) fun x hx => by obtain ⟨k, hk⟩ := h.all x hx; exact Hd.okn ho hk).ok (by omega)
theorem Hd.tup {own : List (Str × Str)} {hs : Rws} {m e : Nat} {k : Str} {x : Da} (h : Hd hs m own e k x) : ∃ ts, x = .tup ts := by
  rcases h.two with h | h <;> exact h.tup
theorem Hds.non {own : List (Str × Str)} {hs : Rws} {m e : Nat} {ks : List Str} {xs : List Da} (h : Hds hs m own e ks xs) (hi : inD .non xs = false) : ∀ x ∈ xs, x ≠ .non := fun x hx e => by
  unfold inD at hi
  rw [List.any_eq_false] at hi
  exact hi x hx (by rw [e]; rfl)

end K28
set_option Elab.async false
set_option linter.all false
set_option maxRecDepth 100000
set_option maxHeartbeats 4000000


namespace K28
open PySem PySem.Spec PyProof.Rows L2 U
section
variable {P : Program} {w : World} {K : PySem.W.Frag} {mg : Str → Option Value} {base : Heap} {C_Procedure : Addr} {C_Program : Addr} {C_Space : Addr} {C_Reckoner : Addr} {C_InvalidProgram : Addr} {C_InvalidOperation : Addr}
theorem T_hand (A : Facts K C_Procedure C_Program C_Space C_Reckoner C_InvalidProgram C_InvalidOperation) (M : MgOf K mg) (Z : Zs mg) {n : Nat} (hn : n ≤ 10) (D__law_deal : KnD P w K mg base "_law_deal" 1 ["_law_sack_here", "_law_size"] spCast) (D__law_pick : KnD P w K mg base "_law_pick" 2 ["_law_sack_here", "_law_items"] spPick) (D__law_term : KnD P w K mg base "_law_term" (3 * n + 7) ["_law_sack_here", "_law_plan", "_law_own", "_law_deep"] (spTerm (n + 1)))
    (D__law_handed : KnD P w K mg base "_law_handed" (3 * n + 5) ["_law_sack_here", "_law_plan", "_law_own", "_law_deep", "_law_kind"] (spHand n)) :
    KnD P w K mg base "_law_handed" (3 * n + 8) ["_law_sack_here", "_law_plan", "_law_own", "_law_deep", "_law_kind"] (spHand (n + 1)) := by
  refine KnD.of A.d__law_handed M sc__law_handed (fun _ _ _ _ _ _ us hl => match us, hl with | [_, _, _, _, _], _ => rfl) (fun ds M Q E ⟨_, _, _, _, _, _, _, _, h, _⟩ => by rw [h]; rfl) (fun f cdv A0 outer s H E hr => ?_)
  have hu := U.hu_of hr
  have hu1 := U.hu1_of hr
  have nd := sc__law_handed.nd
  refine ⟨_, (z_cons (z_if (d_tcm (o_deq hu) (dn 4) d_str) (z_one (z_ret (d_call D__law_term (hr.mono (by omega)) (d_cons (dn 0) (d_cons (dn 1) (d_cons (dn 2) (d_cons (d_op o_dsub (dn 3) d_int) d_nil))))))) z_nil)
      (z_cons (z_setLc (i := 5) (own := [("_law_name", 7), ("_law_sort", 9)]) (c := (.t [7, 9])) rfl nd rfl rfl (sw_true rfl rfl rfl (by decide +kernel)) (d_it (dn 2)) (blkOk_by (own := [("_law_name", 7), ("_law_sort", 9)]) (N := N__law_handed) (sc := defScope s__law_handed) (by decide +kernel)) (fun _ _ _ _ _ => (pg_tup rfl (pgs_cons (gn 7 nd) (pgs_cons (gn 9 nd) pgs_nil)))) (fun _ _ _ _ _ => (d_ts1 (d_tcm (o_deq hu) (dn 9) d_str))) (fun _ _ _ _ _ => (d_tup (d_cons d_str (d_cons (dn 7) d_nil)))))
      (z_cons (z_setLc (i := 6) (own := [("_law_name", 7)]) (c := (.n 7)) rfl nd rfl rfl (sw_true rfl rfl rfl (by decide +kernel)) (d_it (d_b Z.sorted b_sorted (c_dsortD rfl) (d_cons (d_dix hu (dn 1) d_str) d_nil))) (blkOk_by (own := [("_law_name", 7)]) (N := N__law_handed) (sc := defScope s__law_handed) (by decide +kernel)) (fun _ _ _ _ _ => (gn 7 nd)) (fun _ _ _ _ _ => (d_ts1 (d_tcm (o_deq hu) (d_sl (d_dix hu (d_dix hu (dn 1) d_str) (dn 7)) (d_psome (d_neg d_int)) d_pnone) (d_tup (d_cons d_str d_nil))))) (fun _ _ _ _ _ => (dn 7)))
      (z_cons (z_if (d_cutT (d_w (d_and (d_tcm (o_dneL hu) (dn 5) (d_lst d_nil)) (d_and1 (d_w (d_or (d_tcm (o_deqL hu) (dn 6) (d_lst d_nil)) (d_or1 (d_tcm (o_deq hu) (d_call D__law_deal (hr.mono (by omega)) (d_cons (dn 0) (d_cons d_int d_nil))) d_int)))))))) (z_one (z_ret (d_call D__law_pick (hr.mono (by omega)) (d_cons (dn 0) (d_cons (dn 5) d_nil))))) z_nil)
      (z_cons (z_if (d_w (d_or (d_tcm (o_deqL hu) (dn 6) (d_lst d_nil)) (d_or1 (d_tcm o_dlt (dn 3) d_int)))) (z_one (z_ret d_non)) z_nil)
      (z_cons (z_set 7 nd (d_call D__law_pick (hr.mono (by omega)) (d_cons (dn 0) (d_cons (dn 6) d_nil))))
      (z_cons (z_setLc (i := 8) (own := [("_law_sort", 9)]) (c := (.n 9)) rfl nd rfl rfl (sw_true rfl rfl rfl (by decide +kernel)) (d_it (d_sl (d_dix hu (d_dix hu (dn 1) d_str) (dn 7)) d_pnone (d_psome (d_neg d_int)))) (blkOk_by (own := [("_law_sort", 9)]) (N := N__law_handed) (sc := defScope s__law_handed) (by decide +kernel)) (fun _ _ _ _ _ => (gn 9 nd)) (fun _ _ _ _ _ => d_ts0) (fun _ _ _ _ _ => (d_call D__law_handed (hr.mono (by omega)) (d_cons (dn 0) (d_cons (dn 1) (d_cons (dn 2) (d_cons (d_op o_dsub (dn 3) d_int) (d_cons (dn 9) d_nil))))))))
      (z_one (z_ret (d_if (d_tcm (o_din hu1) d_non (dn 8)) d_non (d_op o_dadd (d_tup (d_cons d_str (d_cons (dn 7) d_nil))) (d_t Z.tuple b_tuple c_dtuple (d_cons (dn 8) d_nil))))))))))))), ?_⟩
  rintro ds M Q Ed ⟨d, pl, t, m, hs, own, e, k, rfl, hk, hle, hD, q⟩
  have eq0 : (e : Int) - 1 = ((e : Int) - 1) := rfl
  refine ite2 (fun c => ?_) (fun c => ?_)
  · have gk : k = "block" := of_decide_eq_true c
    refine ⟨d, pl, t, m, hs, own, (e : Int) - 1, rfl, by omega, by omega, hD, fun x M' hx hd km => q _ _ (.inr (.inl ⟨gk, ?_⟩)) hd km⟩
    cases e with
    | zero => exact hx.up (.inl rfl) (Nat.le_refl _) (Nat.le_refl _)
    | succ e =>
      rw [show (((e + 1 : Nat) : Int) - 1).toNat = e from by omega] at hx
      refine hx.up (.inl rfl) ?_ (Nat.le_succ _)
      cases e with
      | zero => exact Nat.le_succ _
      | succ e => exact Nat.le_refl _
  have gk : k = "wrap" := hk.resolve_left fun z => c (decide_eq_true z)
  have lo := hD.ow.len
  refine ⟨sz (by rw [List.length_map]; omega), ?_⟩
  refine lcD_map (fun p : Str × Str => decide (p.2 = "wrap")) (fun p => Da.tup [.str "own", .str p.1]) (fun p hp => ⟨rfl, fun Q q => q⟩) (fun p hp _ Q q => ⟨rfl, q⟩) ?_
  have hW : ∀ x ∈ (own.filter fun p : Str × Str => decide (p.2 = "wrap")).map (fun p => Da.tup [.str "own", .str p.1]), Hd hs m own e k x := fun x hx => by
    obtain ⟨p, hp, rfl⟩ := List.mem_map.mp hx
    have hz : p.1 ∈ ownNames own "wrap" := List.mem_map_of_mem hp
    obtain ⟨h1, h2⟩ := kd_kind hD.ow hz
    refine .inr ⟨gk, (gs_own (n := e) h1 (nameZ_len h2)).up (.inr rfl) (Nat.le_refl _) ?_⟩
    cases e with
    | zero => exact Nat.le_refl _
    | succ e => exact Nat.le_add_left _ _
  have lW : ((own.filter fun p : Str × Str => decide (p.2 = "wrap")).map (fun p => Da.tup [.str "own", .str p.1])).length ≤ 3 := by
    rw [List.length_map]; exact Nat.le_trans (List.length_filter_le _ _) lo
  generalize (own.filter fun p : Str × Str => decide (p.2 = "wrap")).map (fun p => Da.tup [.str "own", .str p.1]) = Ws at hW lW
  refine ⟨_, hD.plan, .inr "heads", _, rfl, rfl, headsD hs, hD.tab, hs.map (·.1), head_keys hs, by rw [List.length_map]; have := hD.ok.len; omega, fun ys hys hso => ?_⟩
  have inY : ∀ z ∈ ys, z ∈ hs.map (·.1) := fun z hz => hys.subset hz
  have lY : ys.length ≤ 12 := by rw [hys.length_eq, List.length_map]; exact hD.ok.len
  refine ⟨sz (by rw [List.length_map]; omega), ?_⟩
  refine lcD_map (fun z : Str => decide (lastK (rowOf hs z) = some "block")) (fun z => Da.str z) (fun z hz => ⟨trivial, fun Q q => ?_⟩) (fun z hz _ Q q => q) ?_
  · have hh := hd_of hD.ok (inY z hz)
    refine ⟨_, hD.plan, .inr "heads", _, rfl, rfl, headsD hs, hD.tab, .inr z, _, rfl, hh.val, rfl, ?_⟩
    refine ⟨cut_ok hh.ok hh.l2, by decide +kernel, ?_⟩
    rw [cut_last hh.l2]
    exact q
  have hL : ∀ z ∈ ys.filter (fun z : Str => decide (lastK (rowOf hs z) = some "block")), z ∈ hs.map (·.1) ∧ lastK (rowOf hs z) = some "block" := fun z hz => by
    obtain ⟨h1, h2⟩ := List.mem_filter.mp hz
    exact ⟨inY z h1, of_decide_eq_true h2⟩
  have lL : (ys.filter (fun z : Str => decide (lastK (rowOf hs z) = some "block"))).length ≤ 12 := Nat.le_trans (List.length_filter_le _ _) lY
  generalize ys.filter (fun z : Str => decide (lastK (rowOf hs z) = some "block")) = L at hL lL
  refine ⟨fun b M' => Die d M' ∧ Km d M M' ∧ (b = true → Ws ≠ []), ?_, ?_⟩
  · refine ⟨rfl, ?_⟩
    cases Ws with
    | nil => exact ⟨hD.die, .refl, fun h => nomatch h⟩
    | cons x0 Ws =>
      refine ⟨rfl, ?_⟩
      cases L with
      | nil => exact ⟨hD.die, .refl, fun _ h => nomatch h⟩
      | cons z L => exact ⟨d, 2, rfl, hD.die, by decide, by decide, fun r M' _ hd' km => ⟨hd', km, fun _ h => nomatch h⟩⟩
  rintro b M1 ⟨hd1, km1, hb⟩
  refine ite2 (fun c => ?_) (fun c => ?_)
  · refine ⟨d, Ws, rfl, hd1, List.length_pos_iff.mpr (hb c), by omega, fun x M' hx hd' km => q _ _ (.inr (hW x hx)) hd' (km1.trans km)⟩
  have hD1 := hD.next hd1 km1
  have fin : ∀ M2, Die d M2 → Km d M1 M2 → Q .non M2 := fun M2 h1 h2 => q _ _ (.inl rfl) h1 (km1.trans h2)
  refine ⟨rfl, ?_⟩
  cases L with
  | nil => exact fin _ hd1 .refl
  | cons z0 L0 =>
  refine ite2 (fun c2 => fin _ hd1 .refl) (fun c2 => ?_)
  obtain ⟨e', rfl⟩ : ∃ e', e = e' + 1 := ⟨e - 1, by have : ¬ ((e : Int) < 1) := fun h => c2 (decide_eq_true h); omega⟩
  refine ⟨d, (z0 :: L0).map Da.str, rfl, hd1, by simp, by rw [List.length_map]; omega, fun x M2 hx hd2 km2 => ?_⟩
  obtain ⟨c, hc, rfl⟩ := List.mem_map.mp hx
  have hD2 := hD1.next hd2 km2
  obtain ⟨h0, h4⟩ := hL c hc
  have hh := hd_of hD.ok h0
  have l2 := hh.l2
  refine ⟨_, hD2.plan, .inr "heads", _, rfl, rfl, headsD hs, hD2.tab, .inr c, _, rfl, hh.val, ?_⟩
  have e1 := cutI (xs := (rowOf hs c).map fun p : Str × Str => Da.str p.2) (by rw [List.length_map]; omega)
  rw [← List.map_dropLast] at e1
  show Sz (U.cutD ((rowOf hs c).map fun p : Str × Str => Da.str p.2) none (some (-1))).length ∧ lcD _ _ _ _ (U.cutD ((rowOf hs c).map fun p : Str × Str => Da.str p.2) none (some (-1))) _ _
  rw [e1]
  have e2 : ((rowOf hs c).dropLast.map fun p : Str × Str => Da.str p.2) = ((rowOf hs c).dropLast.map (·.2)).map Da.str := by rw [List.map_map]; rfl
  have hks : ∀ k' : Str, k' ∈ (rowOf hs c).dropLast.map (·.2) → k' = "block" ∨ k' = "wrap" := fun k' hk' => by
    obtain ⟨p, hp, rfl⟩ := List.mem_map.mp hk'
    have := (hh.ok.ok p (List.dropLast_subset _ hp)).2
    simpa using this
  have lks : ((rowOf hs c).dropLast.map (·.2)).length ≤ 1 := by rw [List.length_map, List.length_dropLast]; omega
  have spl := last_split h4
  rw [e2]
  generalize (rowOf hs c).dropLast.map (·.2) = ks at hks lks spl
  refine ⟨sz (by rw [List.length_map]; omega), ?_⟩
  refine lcD_st0 (fun l acc M' => Die d M' ∧ Km d M2 M' ∧ ∃ done, done ++ l = ks ∧ Hds hs m own e' done acc) ⟨hd2, .refl, [], rfl, .nil⟩ (fun _ => trivial) ?_ ?_
  · rintro k' l acc M3 ⟨hd3, km3, done, hdn, hH⟩ Q' nx
    refine ⟨d, pl, t, m, hs, own, e', k', by rw [show ((e' + 1 : Nat) : Int) - 1 = (e' : Int) by omega] <;> rfl, hks k' (by rw [← hdn]; exact List.mem_append_right _ List.mem_cons_self), by omega, hD2.next hd3 km3, fun y M4 hy hd4 km4 => nx _ _ ⟨hd4, km3.trans km4, done ++ [k'], by rw [List.append_assoc]; exact hdn, hH.snoc hy⟩⟩
  · rintro acc M3 ⟨hd3, km3, done, hdn, hH⟩
    rw [List.append_nil] at hdn
    subst hdn
    have okl : (flat2 .non acc || okD .non && okD (.lst acc)) = true := by
      rw [hH.okd hD.ow (by omega), show okD .non = true from okN_non.ok (n := 0) (by decide)]
      simp
    refine ⟨okl, ?_⟩
    show (if inD .non acc = true then _ else _)
    have hlen := hH.len
    cases hi : inD .non acc with
    | true => exact fin _ hd3 (km2.trans km3)
    | false =>
      have hne := hH.non hi
      refine ifF (by decide) ?_
      refine ⟨rfl, sz (show 2 + acc.length ≤ 1000000 by omega), q _ _ (.inr (.inr ⟨gk, ?_⟩)) hd3 (km1.trans (km2.trans km3))⟩
      have g := (gs_call (n := e' + 1) (k := 1) hh.nm (hH.two hne) (by omega) (by decide) hh.mem).2 (by rw [hH.kinds hne, hh.row]; exact spl)
      refine g.up (.inr rfl) (Nat.le_refl _) ?_
      have := hS_le e'
      show 1 + 1 * hS e' ≤ tS e' + 1
      omega
end

end K28
set_option Elab.async false
set_option linter.all false
set_option maxRecDepth 100000
set_option maxHeartbeats 4000000


namespace K28
open PySem PySem.Spec PyProof.Rows L2 U
section
variable {P : Program} {w : World} {K : PySem.W.Frag} {mg : Str → Option Value} {base : Heap} {C_Procedure : Addr} {C_Program : Addr} {C_Space : Addr} {C_Reckoner : Addr} {C_InvalidProgram : Addr} {C_InvalidOperation : Addr}
theorem T_call (A : Facts K C_Procedure C_Program C_Space C_Reckoner C_InvalidProgram C_InvalidOperation) (M : MgOf K mg) (Z : Zs mg) {n : Nat} (hn : n ≤ 10) (D__law_pick : KnD P w K mg base "_law_pick" 2 ["_law_sack_here", "_law_items"] spPick) (D__law_deed : KnD P w K mg base "_law_deed" 3 ["_law_sack_here", "_law_modes"] spDeed)
    (D__law_handed : KnD P w K mg base "_law_handed" (3 * n + 5) ["_law_sack_here", "_law_plan", "_law_own", "_law_deep", "_law_kind"] (spHand n)) :
    KnD P w K mg base "_law_call" (3 * n + 6) ["_law_sack_here", "_law_plan", "_law_own", "_law_deep"] (spCall n) := by
  refine KnD.of A.d__law_call M sc__law_call (fun _ _ _ _ _ _ us hl => match us, hl with | [_, _, _, _], _ => rfl) (fun ds M Q E ⟨_, _, _, _, _, _, _, h, _⟩ => by rw [h]; rfl) (fun f cdv A0 outer s H E hr => ?_)
  have hu := U.hu_of hr
  have hu1 := U.hu1_of hr
  have nd := sc__law_call.nd
  refine ⟨_, (z_cons (z_set 4 nd (d_call D__law_pick (hr.mono (by omega)) (d_cons (dn 0) (d_cons (d_b Z.sorted b_sorted (c_dsortD rfl) (d_cons (d_dix hu (dn 1) d_str) d_nil)) d_nil))))
      (z_cons (z_setLc (i := 5) (own := [("_law_sort", 6)]) (c := (.n 6)) rfl nd rfl rfl (sw_true rfl rfl rfl (by decide +kernel)) (d_it (d_dix hu (d_dix hu (dn 1) d_str) (dn 4))) (blkOk_by (own := [("_law_sort", 6)]) (N := N__law_call) (sc := defScope s__law_call) (by decide +kernel)) (fun _ _ _ _ _ => (gn 6 nd)) (fun _ _ _ _ _ => d_ts0) (fun _ _ _ _ _ => (d_call D__law_handed (hr.mono (by omega)) (d_cons (dn 0) (d_cons (dn 1) (d_cons (dn 2) (d_cons (dn 3) (d_cons (dn 6) d_nil))))))))
      (z_one (z_ret (d_if (d_tcm (o_din hu1) d_non (dn 5)) (d_call D__law_deed (hr.mono (by omega)) (d_cons (dn 0) (d_cons (d_dix hu (dn 1) d_str) d_nil))) (d_op o_dadd (d_tup (d_cons d_str (d_cons (dn 4) d_nil))) (d_t Z.tuple b_tuple c_dtuple (d_cons (dn 5) d_nil)))))))), ?_⟩
  rintro ds M Q Ed ⟨d, pl, t, m, hs, own, e, rfl, he, hle, hD, q⟩
  refine ⟨_, hD.plan, .inr "heads", _, rfl, rfl, headsD hs, hD.tab, hs.map (·.1), head_keys hs, by rw [List.length_map]; have := hD.ok.len; omega, fun ys hys hso => ?_⟩
  refine ⟨d, ys.map Da.str, rfl, hD.die, ?_, ?_, fun x M1 hx hd1 km1 => ?_⟩
  · rw [List.length_map, hys.length_eq, List.length_map]; exact List.length_pos_iff.mpr hD.ok.ne
  · rw [List.length_map, hys.length_eq, List.length_map]; have := hD.ok.len; omega
  obtain ⟨c, hc, rfl⟩ := List.mem_map.mp hx
  have hD1 := hD.next hd1 km1
  have hh := hd_of hD.ok (hys.subset hc)
  have l2 := hh.l2
  refine ⟨_, hD1.plan, .inr "heads", _, rfl, rfl, headsD hs, hD1.tab, .inr c, _, rfl, hh.val, ?_⟩
  show Sz ((rowOf hs c).map fun p : Str × Str => Da.str p.2).length ∧ lcD _ _ _ _ ((rowOf hs c).map fun p : Str × Str => Da.str p.2) _ _
  rw [show ((rowOf hs c).map fun p : Str × Str => Da.str p.2) = ((rowOf hs c).map (·.2)).map Da.str by rw [List.map_map]; rfl]
  have hks : ∀ k' : Str, k' ∈ (rowOf hs c).map (·.2) → k' = "block" ∨ k' = "wrap" := fun k' hk' => by
    obtain ⟨p, hp, rfl⟩ := List.mem_map.mp hk'
    have := (hh.ok.ok p hp).2
    simpa using this
  have lks : ((rowOf hs c).map (·.2)).length ≤ 2 := by rw [List.length_map]; omega
  have spl : (rowOf (rwm hs) c).map (·.2) = (rowOf hs c).map (·.2) := by rw [hh.row]
  generalize (rowOf hs c).map (·.2) = ks at hks lks spl
  refine ⟨sz (by rw [List.length_map]; omega), ?_⟩
  refine lcD_st0 (fun l acc M' => Die d M' ∧ Km d M1 M' ∧ ∃ done, done ++ l = ks ∧ Hds hs m own e done acc) ⟨hd1, .refl, [], rfl, .nil⟩ (fun _ => trivial) ?_ ?_
  · rintro k' l acc M3 ⟨hd3, km3, done, hdn, hH⟩ Q' nx
    refine ⟨d, pl, t, m, hs, own, e, k', rfl, hks k' (by rw [← hdn]; exact List.mem_append_right _ List.mem_cons_self), by omega, hD1.next hd3 km3, fun y M4 hy hd4 km4 => nx _ _ ⟨hd4, km3.trans km4, done ++ [k'], by rw [List.append_assoc]; exact hdn, hH.snoc hy⟩⟩
  · rintro acc M3 ⟨hd3, km3, done, hdn, hH⟩
    rw [List.append_nil] at hdn
    subst hdn
    have okl : (flat2 .non acc || okD .non && okD (.lst acc)) = true := by
      rw [hH.okd hD.ow (by omega), show okD .non = true from okN_non.ok (n := 0) (by decide)]
      simp
    refine ⟨okl, ?_⟩
    show (if inD .non acc = true then _ else _)
    have hlen := hH.len
    have hD3 := hD1.next hd3 km3
    obtain ⟨e', rfl⟩ : ∃ e', e = e' + 1 := ⟨e - 1, by omega⟩
    cases hi : inD .non acc with
    | true =>
      refine ifT rfl ?_
      refine ⟨_, hD3.plan, .inr "modes", _, rfl, rfl, d, m, rfl, hd3, hD.m1, hD.m3, fun x M4 hx hd4 km4 => q _ _ ?_ hd4 ((km1.trans km3).trans km4)⟩
      exact (gs_deed (n := 0) hD.m1 hD.m3 hx).up (.inl rfl) (by show 0 + 1 ≤ e' + 3; omega) (by show 1 ≤ 2 * tS e' + 3; omega)
    | false =>
      have hne := hH.non hi
      refine ifF (by decide) ?_
      refine ⟨rfl, sz (show 2 + acc.length ≤ 1000000 by omega), q _ _ ?_ hd3 (km1.trans km3)⟩
      have g := (gs_call (n := e' + 1 + 1) (k := 2) hh.nm (hH.two hne) (by omega) (by decide) hh.mem).1 (by rw [hH.kinds hne, spl])
      refine g.up (.inl rfl) (Nat.le_refl _) ?_
      show 1 + 2 * (tS e' + 1) ≤ 2 * tS e' + 3
      omega
end

end K28
set_option Elab.async false
set_option linter.all false
set_option maxRecDepth 100000
set_option maxHeartbeats 4000000


namespace K28
open PySem PySem.Spec PyProof.Rows L2 U
section
variable {P : Program} {w : World} {K : PySem.W.Frag} {mg : Str → Option Value} {base : Heap} {C_Procedure : Addr} {C_Program : Addr} {C_Space : Addr} {C_Reckoner : Addr} {C_InvalidProgram : Addr} {C_InvalidOperation : Addr}
theorem i1 {b : Bool} : (if b then (1 : Int) else 0) ≤ 10000 := by cases b <;> decide
theorem i2 {b : Bool} : -1000 ≤ (if b then (1 : Int) else 0) := by cases b <;> decide
theorem T_term (A : Facts K C_Procedure C_Program C_Space C_Reckoner C_InvalidProgram C_InvalidOperation) (M : MgOf K mg) (Z : Zs mg) {n : Nat} (D__law_pick : KnD P w K mg base "_law_pick" 2 ["_law_sack_here", "_law_items"] spPick) (D__law_deed : KnD P w K mg base "_law_deed" 3 ["_law_sack_here", "_law_modes"] spDeed)
    (D__law_handed : KnD P w K mg base "_law_handed" (3 * n + 5) ["_law_sack_here", "_law_plan", "_law_own", "_law_deep", "_law_kind"] (spHand n))
    (D__law_call : KnD P w K mg base "_law_call" (3 * n + 6) ["_law_sack_here", "_law_plan", "_law_own", "_law_deep"] (spCall n))
    (D__law_term : KnD P w K mg base "_law_term" (3 * n + 4) ["_law_sack_here", "_law_plan", "_law_own", "_law_deep"] (spTerm n)) :
    KnD P w K mg base "_law_term" (3 * n + 7) ["_law_sack_here", "_law_plan", "_law_own", "_law_deep"] (spTerm (n + 1)) := by
  refine KnD.of A.d__law_term M sc__law_term (fun _ _ _ _ _ _ us hl => match us, hl with | [_, _, _, _], _ => rfl) (fun ds M Q E ⟨_, _, _, _, _, _, _, h, _⟩ => by rw [h]; rfl) (fun f cdv A0 outer s H E hr => ?_)
  have hu := U.hu_of hr
  have hu1 := U.hu1_of hr
  have nd := sc__law_term.nd
  refine ⟨_, (z_cons (z_setLc (i := 4) (own := [("_law_name", 8), ("_law_sort", 9)]) (c := (.t [8, 9])) rfl nd rfl rfl (sw_true rfl rfl rfl (by decide +kernel)) (d_it (dn 2)) (blkOk_by (own := [("_law_name", 8), ("_law_sort", 9)]) (N := N__law_term) (sc := defScope s__law_term) (by decide +kernel)) (fun _ _ _ _ _ => (pg_tup rfl (pgs_cons (gn 8 nd) (pgs_cons (gn 9 nd) pgs_nil)))) (fun _ _ _ _ _ => (d_ts1 (d_tcm (o_deq hu) (dn 9) d_str))) (fun _ _ _ _ _ => (dn 8)))
      (z_cons (z_set 5 nd (d_op o_dadd (d_lst (d_cons d_str (d_cons d_str d_nil))) (d_op o_dmulB (d_lst (d_cons d_str (d_cons d_str (d_cons d_str d_nil)))) (d_t Z.int b_int c_dint (d_cons (d_ecm (o_dneL hu) (dn 4) (d_lst d_nil)) d_nil)))))
      (z_cons (z_cut (z_if (d_tcm o_dgt (dn 3) d_int) (z_one (z_set 5 nd (d_op o_dadd (dn 5) (d_lst (d_cons d_str (d_cons d_str (d_cons d_str (d_cons d_str (d_cons d_str (d_cons d_str (d_cons d_str d_nil))))))))))) z_nil))
      (z_cons (z_set 6 nd (d_call D__law_pick (hr.mono (by omega)) (d_cons (dn 0) (d_cons (dn 5) d_nil))))
      (z_cons (z_if (d_tcm (o_deq hu) (dn 6) d_str) (z_one (z_ret (d_tup (d_cons d_str (d_cons (d_call D__law_pick (hr.mono (by omega)) (d_cons (dn 0) (d_cons (dn 4) d_nil))) d_nil))))) z_nil)
      (z_cons (z_if (d_w (d_or (d_tcm (o_deq hu) (dn 6) d_str) (d_or1 (d_tcm (o_deq hu) (dn 6) d_str)))) (z_one (z_ret (d_tup (d_cons (dn 6) (d_cons (d_call D__law_term (hr.mono (by omega)) (d_cons (dn 0) (d_cons (dn 1) (d_cons (dn 2) (d_cons (d_op o_dsub (dn 3) d_int) d_nil))))) (d_cons (d_call D__law_term (hr.mono (by omega)) (d_cons (dn 0) (d_cons (dn 1) (d_cons (dn 2) (d_cons (d_op o_dsub (dn 3) d_int) d_nil))))) d_nil)))))) z_nil)
      (z_cons (z_if (d_tcm (o_deq hu) (dn 6) d_str) (z_one (z_ret (d_call D__law_call (hr.mono (by omega)) (d_cons (dn 0) (d_cons (dn 1) (d_cons (dn 2) (d_cons (dn 3) d_nil))))))) z_nil)
      (z_cons (z_if (d_tcm (o_deq hu) (dn 6) d_str) (z_cons (z_set 7 nd (d_call D__law_handed (hr.mono (by omega)) (d_cons (dn 0) (d_cons (dn 1) (d_cons (dn 2) (d_cons (dn 3) (d_cons d_str d_nil)))))))
      (z_one (z_ret (d_if (d_tcm o_disN (dn 7) d_non) (d_call D__law_deed (hr.mono (by omega)) (d_cons (dn 0) (d_cons (d_dix hu (dn 1) d_str) d_nil))) (d_tup (d_cons d_str (d_cons (dn 7) (d_cons (d_call D__law_term (hr.mono (by omega)) (d_cons (dn 0) (d_cons (dn 1) (d_cons (dn 2) (d_cons (d_op o_dsub (dn 3) d_int) d_nil))))) d_nil)))))))) z_nil)
      (z_one (z_ret (d_if (d_tcm (o_deq hu) (dn 6) d_str) (d_tup (d_cons d_str d_nil)) (d_call D__law_deed (hr.mono (by omega)) (d_cons (dn 0) (d_cons (d_dix hu (dn 1) d_str) d_nil)))))))))))))), ?_⟩
  rintro ds M Q Ed ⟨d, pl, t, m, hs, own, e, rfl, h1, hle, hD, q⟩
  have lo := hD.ow.len
  refine ⟨sz (by rw [List.length_map]; omega), ?_⟩
  refine lcD_map (fun p : Str × Str => decide (p.2 = "block")) (fun p => Da.str p.1) (fun p hp => ⟨rfl, fun Q q => q⟩) (fun p hp _ Q q => q) ?_
  have eB : ((own.filter fun p : Str × Str => decide (p.2 = "block")).map fun p => Da.str p.1) = (ownNames own "block").map Da.str := by unfold ownNames; rw [List.map_map]; rfl
  rw [eB]
  have hB : ∀ z ∈ ownNames own "block", kindB (kvsD own) "block" (.str z) = true ∧ nameZ z = true := fun z hz => kd_kind hD.ow hz
  have lB : (ownNames own "block").length ≤ 3 := by
    unfold ownNames; rw [List.length_map]; exact Nat.le_trans (List.length_filter_le _ _) lo
  generalize ownNames own "block" = B at hB lB
  refine ⟨rfl, rfl, rfl, ?_⟩
  have ew : ∃ ws : List Str, [Da.str "do", .str "do"] ++ (List.replicate (if (!(B.map Da.str).isEmpty) = true then (1 : Int) else 0).toNat [Da.str "run", .str "run", .str "run"]).flatten = ws.map Da.str ∧ ws ≠ [] ∧ ws.length ≤ 5 ∧ ∀ z : Str, z ∈ ws → z = "do" ∨ (z = "run" ∧ B ≠ []) := by
    cases B with
    | nil =>
      refine ⟨["do", "do"], rfl, by simp, by decide, fun z hz => ?_⟩
      simp only [List.mem_cons, List.not_mem_nil, or_false, or_self] at hz
      exact .inl hz
    | cons b B =>
      refine ⟨["do", "do", "run", "run", "run"], rfl, by simp, by decide, fun z hz => ?_⟩
      simp only [List.mem_cons, List.not_mem_nil, or_false, or_self] at hz
      rcases hz with rfl | rfl | rfl
      all_goals first | exact .inl rfl | exact .inr ⟨rfl, by simp⟩
  obtain ⟨ws, ew, hw0, hw5, hws⟩ := ew
  have ewl := congrArg List.length ew
  rw [List.length_append, List.length_map] at ewl
  refine ⟨i1, i2, by decide, sz (Nat.le_trans (Nat.le_of_eq ewl) (by omega)), ?_⟩
  show hName 5 (Da.lst (_ ++ _)) _ _ _
  rw [ew]
  clear ew ewl
  refine ⟨fun δ' M' => M' = M ∧ ∃ ws : List Str, δ' = [some (.ref d), some (.ref pl), some (ownL own), some (.int e), some (.lst (B.map Da.str)), some (.lst (ws.map Da.str)), none, none, none, none] ∧ ws ≠ [] ∧ ws.length ≤ 12 ∧ (∀ z : Str, z ∈ ws → z = "do" ∨ (z = "run" ∧ B ≠ []) ∨ (1 ≤ e ∧ (z = "seq" ∨ z = "or" ∨ z = "call" ∨ z = "wrap" ∨ z = "none"))), ?_, ?_⟩
  · refine ite2 (fun c => ?_) (fun c => ?_)
    · have he : 1 ≤ e := by have := of_decide_eq_true c; omega
      refine ⟨rfl, sz (show (ws.map Da.str).length + 7 ≤ 1000000 by rw [List.length_map]; omega), rfl, ws ++ (["seq", "seq", "or", "call", "call", "wrap", "none"] : List Str), by rw [List.map_append]; rfl, by simp, by rw [List.length_append]; show _ + 7 ≤ 12; omega, fun z hz => ?_⟩
      rcases List.mem_append.mp hz with h | h
      · rcases hws z h with h | h
        · exact .inl h
        · exact .inr (.inl h)
      · refine .inr (.inr ⟨he, ?_⟩)
        simp only [List.mem_cons, List.not_mem_nil, or_false] at h
        rcases h with h | h | h | h | h | h | h
        · exact .inl h
        · exact .inl h
        · exact .inr (.inl h)
        · exact .inr (.inr (.inl h))
        · exact .inr (.inr (.inl h))
        · exact .inr (.inr (.inr (.inl h)))
        · exact .inr (.inr (.inr (.inr h)))
    · exact ⟨rfl, ws, rfl, hw0, by omega, fun z hz => (hws z hz).imp id .inl⟩
  rintro δ' M0 ⟨rfl, ws', rfl, h0, h12, hz'⟩
  refine ⟨d, ws'.map Da.str, rfl, hD.die, by rw [List.length_map]; exact List.length_pos_iff.mpr h0, by rw [List.length_map]; omega, fun x M1 hx hd1 km1 => ?_⟩
  obtain ⟨z, hz, rfl⟩ := List.mem_map.mp hx
  have hz := hz' z hz
  clear hx hz' h12 h0 hws hw5 hw0
  have hD1 := hD.next hd1 km1
  have deed : ∀ {y M2}, deedOk m y → Die d M2 → Km d M1 M2 → Q y M2 := fun hy hd2 km2 => q _ _ ((gs_deed (n := 0) hD.m1 hD.m3 hy).up (.inl rfl) (tD_pos _) (tS_pos _)) hd2 (km1.trans km2)
  rcases hz with rfl | ⟨rfl, hne⟩ | ⟨he, hz⟩
  · exact ⟨_, hD1.plan, .inr "modes", _, rfl, rfl, d, m, rfl, hd1, hD.m1, hD.m3, fun x M2 hx hd2 km2 => deed hx hd2 km2⟩
  · refine ⟨d, B.map Da.str, rfl, hd1, by rw [List.length_map]; exact List.length_pos_iff.mpr hne, by rw [List.length_map]; omega, fun x M2 hx hd2 km2 => ⟨rfl, q _ _ ?_ hd2 (km1.trans km2)⟩⟩
    obtain ⟨p, hp, rfl⟩ := List.mem_map.mp hx
    exact (gs_run (n := 0) (hB p hp).1 (nameZ_len (hB p hp).2)).up (.inl rfl) (tD_pos _) (tS_pos _)
  obtain ⟨e', rfl⟩ : ∃ e' : Nat, e = ((e' + 1 : Nat) : Int) := ⟨(e - 1).toNat, by omega⟩
  have q : ∀ x M', Gs (kvsD own) (rwm hs) m TW (e' + 3) (2 * tS e' + 3) x → Die d M' → Km d M0 M' → Q x M' := q
  have ed : (((e' + 1 : Nat) : Int) - 1).toNat = e' := by omega
  have up : ∀ {x}, Gs (kvsD own) (rwm hs) m TW (tD (((e' + 1 : Nat) : Int) - 1).toNat) (tS (((e' + 1 : Nat) : Int) - 1).toNat) x → Gs (kvsD own) (rwm hs) m TW (e' + 2) (tS e' + 1) x := fun h => by
    rw [ed] at h
    exact h.up (.inl rfl) (tD_le _) (Nat.le_succ _)
  have e3 : 1 + 2 * (tS e' + 1) = 2 * tS e' + 3 := by omega
  rcases hz with rfl | rfl | rfl | rfl | rfl
  · refine ⟨d, pl, t, m, hs, own, _, rfl, by omega, by omega, hD1, fun x M2 hx hd2 km2 => ?_⟩
    refine ⟨d, pl, t, m, hs, own, _, rfl, by omega, by omega, hD1.next hd2 km2, fun y M3 hy hd3 km3 => ⟨rfl, q _ _ ?_ hd3 ((km1.trans km2).trans km3)⟩⟩
    rw [← e3]
    exact gs_seq (.inl rfl) (up hx) (up hy)
  · refine ⟨d, pl, t, m, hs, own, _, rfl, by omega, by omega, hD1, fun x M2 hx hd2 km2 => ?_⟩
    refine ⟨d, pl, t, m, hs, own, _, rfl, by omega, by omega, hD1.next hd2 km2, fun y M3 hy hd3 km3 => ⟨rfl, q _ _ ?_ hd3 ((km1.trans km2).trans km3)⟩⟩
    rw [← e3]
    exact gs_seq (.inr rfl) (up hx) (up hy)
  · exact ⟨d, pl, t, m, hs, own, e' + 1, rfl, by omega, by omega, hD1, fun x M2 hx hd2 km2 => q _ _ hx hd2 (km1.trans km2)⟩
  · refine ⟨d, pl, t, m, hs, own, e' + 1, "wrap", rfl, .inr rfl, by omega, hD1, fun x M2 hx hd2 km2 => ?_⟩
    have hD2 := hD1.next hd2 km2
    rcases hx with rfl | hx
    · exact ⟨_, hD2.plan, .inr "modes", _, rfl, rfl, d, m, rfl, hd2, hD.m1, hD.m3, fun x M3 hx hd3 km3 => deed hx hd3 (km2.trans km3)⟩
    · obtain ⟨xs, ex⟩ := hx.tup
      subst ex
      have hx := (hx.resolve_left fun h => absurd h.1 (by decide)).2
      refine ⟨d, pl, t, m, hs, own, _, rfl, by omega, by omega, hD2, fun y M3 hy hd3 km3 => ⟨rfl, q _ _ ?_ hd3 ((km1.trans km2).trans km3)⟩⟩
      rw [← e3]
      exact gs_wrap hx (up hy)
  · exact ⟨rfl, q _ _ ((gs_none (n := 0)).up (.inl rfl) (by omega) (by omega)) hd1 km1⟩
theorem R_term (A : Facts K C_Procedure C_Program C_Space C_Reckoner C_InvalidProgram C_InvalidOperation) (M : MgOf K mg) (Z : Zs mg) (D__law_deal : KnD P w K mg base "_law_deal" 1 ["_law_sack_here", "_law_size"] spCast) (D__law_pick : KnD P w K mg base "_law_pick" 2 ["_law_sack_here", "_law_items"] spPick) (D__law_deed : KnD P w K mg base "_law_deed" 3 ["_law_sack_here", "_law_modes"] spDeed) : ∀ n, n ≤ 10 →
    KnD P w K mg base "_law_term" (3 * n + 4) ["_law_sack_here", "_law_plan", "_law_own", "_law_deep"] (spTerm n) ∧ KnD P w K mg base "_law_handed" (3 * n + 5) ["_law_sack_here", "_law_plan", "_law_own", "_law_deep", "_law_kind"] (spHand n)
  | 0, _ => ⟨KnD.never A.d__law_term M sc__law_term (fun _ _ _ _ _ _ us hl => match us, hl with | [_, _, _, _], _ => rfl) fun ds M Q E ⟨_, _, _, _, _, _, e, _, h1, h2, _⟩ => absurd h2 (by omega),
    KnD.never A.d__law_handed M sc__law_handed (fun _ _ _ _ _ _ us hl => match us, hl with | [_, _, _, _, _], _ => rfl) fun ds M Q E ⟨_, _, _, _, _, _, e, _, _, _, h2, _⟩ => absurd h2 (by omega)⟩
  | n + 1, hn => by
    obtain ⟨h1, h2⟩ := R_term A M Z D__law_deal D__law_pick D__law_deed n (by omega)
    have hc := T_call A M Z (by omega) D__law_pick D__law_deed h2
    have ht := T_term A M Z D__law_pick D__law_deed h2 hc h1
    exact ⟨ht, T_hand A M Z (by omega) D__law_deal D__law_pick ht h2⟩
theorem D__law_term (A : Facts K C_Procedure C_Program C_Space C_Reckoner C_InvalidProgram C_InvalidOperation) (M : MgOf K mg) (Z : Zs mg) (D__law_deal : KnD P w K mg base "_law_deal" 1 ["_law_sack_here", "_law_size"] spCast) (D__law_pick : KnD P w K mg base "_law_pick" 2 ["_law_sack_here", "_law_items"] spPick) (D__law_deed : KnD P w K mg base "_law_deed" 3 ["_law_sack_here", "_law_modes"] spDeed) : KnD P w K mg base "_law_term" 19 ["_law_sack_here", "_law_plan", "_law_own", "_law_deep"] (spTerm 5) := (R_term A M Z D__law_deal D__law_pick D__law_deed 5 (by decide)).1
end

end K28
set_option Elab.async false
set_option linter.all false
set_option maxRecDepth 100000
set_option maxHeartbeats 4000000


namespace K28
open PySem PySem.Spec PyProof.Rows L2 U
structure GsB (own : List (Str × Str)) (rows : Rws) (m : Nat) (x : Da) : Prop where
  ok : pcB (kvsD own) 6 TW x = true
  pv : pv x
  len : (allF 6 x).length ≤ 40
  ft : ∀ y ∈ allF 6 x, fitB rows m y = true
theorem GsB.of {own : List (Str × Str)} {rows : Rws} {m n s : Nat} {x : Da} (h : Gs (kvsD own) rows m TW n s x) (hn : n ≤ 6) (hs : s ≤ 40) : GsB own rows m x :=
  let h' := h.up (.inl rfl) hn hs
  ⟨h'.ok, h'.pv, h'.sz, h'.ft⟩
abbrev PlR := List (Str × List (Str × Str) × Da)
structure PlOk (m : Nat) (rs : PlR) : Prop where
  m1 : 1 ≤ m
  m3 : m ≤ 3
  len : rs.length ≤ 5
  mn : (("main" : Str), ([] : List (Str × Str))) ∈ rs.map fun r => (r.1, r.2.1)
  nd : (rs.map (·.1)).Nodup
  ok : ∀ r ∈ rs, nameZ r.1 = true ∧ OwnOk r.2.1 ∧ r.2.1.length ≤ 2
  bd : ∀ r ∈ rs, GsB r.2.1 (rs.map fun r => (r.1, r.2.1)) m r.2.2
  wr : ∀ r ∈ rs, ∀ p ∈ r.2.1, p.2 = "wrap" → m < 3
def rowT (r : Str × List (Str × Str) × Da) : Da := .tup [.str r.1, parD r.2.1, r.2.2]
def plD' (m : Nat) (rs : PlR) : Da := .lst [.int (m : Nat), .lst (rs.map rowT)]
def spPlain : DSp := fun ds M Q _ => ∃ d, ds = [.ref d] ∧ Die d M ∧ ∀ m rs M', PlOk m rs → Die d M' → Km d M M' → Q (plD' m rs) M'
def spWild : DSp := fun ds M Q _ => ∃ d, ds = [.ref d, .int 1] ∧ Die d M ∧ ∀ m rs M', PlOk m rs → Die d M' → Km d M M' → Q (plD' m rs) M'
theorem cutT {α : Type} (xs : List α) (r : Nat) : U.cutD xs none (some (r : Int)) = xs.take r := by
  unfold U.cutD
  rw [show HT.sIx xs.length xs.length (some (r : Int)) = min r xs.length from HT.sIx_nat ..]
  simp [HT.sIx]
theorem die_ne {d p : Addr} {M : Mm} (hd : Die d M) (hp : M p = none) : p ≠ d := fun e => by
  obtain ⟨a, b, c, h⟩ := hd
  rw [← e, hp] at h; cases h
theorem Die.put {d p : Addr} {M : Mm} {o : MO} (hd : Die d M) (h : p ≠ d) : Die d (mput M p o) := by
  obtain ⟨a, b, c, e⟩ := hd
  exact ⟨a, b, c, by rw [mput_ne (Ne.symm h)]; exact e⟩
theorem Die.del {d p : Addr} {M : Mm} (hd : Die d M) (h : p ≠ d) : Die d (mdel M p) := by
  obtain ⟨a, b, c, e⟩ := hd
  exact ⟨a, b, c, by rw [mdel_ne (Ne.symm h)]; exact e⟩
theorem kx_none {d p : Addr} {M M' : Mm} (h : Kx d M M') (hp : M' p = none) (hpd : p ≠ d) : M p = none := by
  cases e : M p with
  | none => rfl
  | some o => rw [h p o hpd e] at hp; cases hp
theorem rowOf_none {rows : Rws} {z : Str} (h : z ∉ rows.map (·.1)) : rowOf rows z = [] := by
  unfold rowOf
  rw [List.find?_eq_none.mpr fun r hr e => h (by rw [← of_decide_eq_true e]; exact List.mem_map_of_mem hr)]
  rfl
theorem rowOf_perm {rows rows' : Rws} (nd : (rows.map (·.1)).Nodup) (h : rows'.Perm rows) (z : Str) : rowOf rows' z = rowOf rows z := by
  by_cases hz : z ∈ rows.map (·.1)
  · obtain ⟨r, hr, rfl⟩ := List.mem_map.mp hz
    rw [rowOf_mem nd hr, rowOf_mem ((h.map _).nodup_iff.mpr nd) (h.mem_iff.mpr hr)]
  · rw [rowOf_none hz, rowOf_none fun h' => hz ((h.map _).mem_iff.mp h')]
theorem fit_perm {rows rows' : Rws} {m : Nat} (nd : (rows.map (·.1)).Nodup) (h : rows'.Perm rows) (y : Da) : fitB rows' m y = fitB rows m y := by
  have h1 : ∀ c, (c ∈ rows'.map (·.1)) = (c ∈ rows.map (·.1)) := fun c => propext (h.map _).mem_iff
  have h2 := rowOf_perm nd h
  unfold fitB
  simp only [h1, h2]
theorem rows_perm {rows : Rws} {ns : List Str} (nd : (rows.map (·.1)).Nodup) (h : ns.Perm (rows.map (·.1))) : (ns.map fun z => (z, rowOf rows z)).Perm rows := by
  refine (h.map _).trans ?_
  rw [List.map_map]
  have e : rows.map ((fun z => (z, rowOf rows z)) ∘ fun r => r.1) = rows := by
    conv => rhs; rw [← List.map_id rows]
    refine List.map_congr_left fun r hr => ?_
    show (r.1, rowOf rows r.1) = r
    rw [rowOf_mem nd hr]
  rw [e]
theorem die_back {d : Addr} {M M' : Mm} (hd : Die d M') (h : Kx d M M') : ∃ M2, Sub M2 M' ∧ Die d M2 ∧ Km d M M2 := by
  obtain ⟨M2, h1, h2, h3⟩ := h.back
  obtain ⟨a, b, c, e⟩ := hd
  exact ⟨M2, h1, ⟨a, b, c, h3.trans e⟩, h2⟩
theorem Km.kx {d : Addr} {M M' : Mm} (h : Km d M M') : Kx d M M' := Kx.of h
theorem GsB.perm {own : List (Str × Str)} {rows rows' : Rws} {m : Nat} {x : Da} (h : GsB own rows m x) (nd : (rows.map (·.1)).Nodup) (p : rows'.Perm rows) : GsB own rows' m x :=
  ⟨h.ok, h.pv, h.len, fun y hy => by rw [fit_perm nd p]; exact h.ft y hy⟩
def OWN : List Str := ["x", "y", "abcdefgh"]
def zipN (k : List Str) : List (Str × Str) := OWN.zip k
theorem zipD_strs : ∀ (a b : List Str), zipD (a.map Da.str) (b.map Da.str) = (a.zip b).map fun p => Da.tup [.str p.1, .str p.2]
  | [], _ => rfl
  | _ :: _, [] => rfl
  | x :: a, y :: b => congrArg (Da.tup [.str x, .str y] :: ·) (zipD_strs a b)
theorem zipN_snd {k : List Str} (h : k.length ≤ 2) : (zipN k).map (·.2) = k := by
  match k, h with
  | [], _ => rfl
  | [_], _ => rfl
  | [_, _], _ => rfl
  | _ :: _ :: _ :: _, h => exact absurd h (by simp)
theorem zipN_ok {k : List Str} (h : k.length ≤ 2) (hk : ∀ z : Str, z ∈ k → z = "block" ∨ z = "wrap") : OwnOk (zipN k) ∧ (zipN k).length ≤ 2 := by
  have hc : ∀ z : Str, z ∈ k → (["block", "wrap"] : List Str).contains z = true := fun z hz => by rcases hk z hz with rfl | rfl <;> decide
  have nx : nameZ "x" = true := by decide +kernel
  have ny : nameZ "y" = true := by decide +kernel
  match k, h, hc with
  | [], _, _ => exact ⟨⟨show 0 ≤ 3 by decide, (fun p h => nomatch h), List.nodup_nil⟩, show 0 ≤ 2 by decide⟩
  | [a], _, hc =>
    refine ⟨⟨show 1 ≤ 3 by decide, fun p h => ?_, show ([("x" : Str)]).Nodup by decide⟩, show 1 ≤ 2 by decide⟩
    have h : p ∈ [(("x" : Str), a)] := h
    rw [List.mem_singleton.mp h]
    exact ⟨nx, hc a List.mem_cons_self⟩
  | [a, b], _, hc =>
    refine ⟨⟨show 2 ≤ 3 by decide, fun p h => ?_, show ([("x" : Str), "y"]).Nodup by decide⟩, show 2 ≤ 2 by decide⟩
    have h : p ∈ [(("x" : Str), a), (("y" : Str), b)] := h
    simp only [List.mem_cons, List.not_mem_nil, or_false] at h
    rcases h with rfl | rfl
    · exact ⟨nx, hc a List.mem_cons_self⟩
    · exact ⟨ny, hc b (List.mem_cons_of_mem _ List.mem_cons_self)⟩
  | _ :: _ :: _ :: _, h, _ => exact absurd h (by simp)
theorem heads_put {hs : Rws} {z : Str} {own : List (Str × Str)} (h : z ∉ hs.map (·.1)) : putDK (headsD hs) (.inr z) (kndD own) = headsD (hs ++ [(z, own)]) := by
  rw [putDK_new (by rw [head_keys]; intro e; obtain ⟨y, hy, e⟩ := List.mem_map.mp e; exact h (by rw [← Sum.inr.inj e]; exact hy))]
  unfold headsD
  rw [List.map_append]; rfl
section
variable {P : Program} {w : World} {K : PySem.W.Frag} {mg : Str → Option Value} {base : Heap} {C_Procedure : Addr} {C_Program : Addr} {C_Space : Addr} {C_Reckoner : Addr} {C_InvalidProgram : Addr} {C_InvalidOperation : Addr}
theorem D__law_wild (A : Facts K C_Procedure C_Program C_Space C_Reckoner C_InvalidProgram C_InvalidOperation) (M : MgOf K mg) (Z : Zs mg) (D__law_deal : KnD P w K mg base "_law_deal" 1 ["_law_sack_here", "_law_size"] spCast) (D__law_pick : KnD P w K mg base "_law_pick" 2 ["_law_sack_here", "_law_items"] spPick) (D__law_term : KnD P w K mg base "_law_term" 19 ["_law_sack_here", "_law_plan", "_law_own", "_law_deep"] (spTerm 5)) : KnDD P w K mg base "_law_wild" 20 ["_law_sack_here", "_law_least"] [.int 1] spWild := by
  refine KnDD.of (n := 1) A.d__law_wild M sc__law_wild (by simp) rfl (fun T kV doc pm an cdv ct us its l1 l2 => match us, l1, its, l2 with | [_], _, [_], _ => ⟨_, rfl, rfl⟩) (fun ds M Q E ⟨_, h, _⟩ => by rw [h]; rfl) (fun f cdv A0 outer s H E hr => ?_)
  have hu := U.hu_of hr
  have hu1 := U.hu1_of hr
  have nd := sc__law_wild.nd
  refine ⟨_, (z_cons (z_cut (z_set 2 nd (d_b Z.max b_max (c_dmax rfl) (d_cons (dn 1) (d_cons (d_call D__law_pick (hr.mono (by decide)) (d_cons (dn 0) (d_cons (d_lst (d_cons d_int (d_cons d_int (d_cons d_int (d_cons d_int (d_cons d_int d_nil)))))) d_nil))) d_nil)))))
      (z_cons (z_set 3 nd (d_lst (d_cons (d_tup (d_cons d_str d_nil)) (d_cons (d_tup (d_cons d_str (d_cons d_str d_nil))) (d_cons (d_tup (d_cons d_str d_nil)) (d_cons (d_tup d_nil) d_nil))))))
      (z_cons (z_cut (z_if (d_tcm o_dlt (dn 2) d_int) (z_one (z_set 3 nd (d_op o_dadd (dn 3) (d_lst (d_cons (d_tup (d_cons d_str d_nil)) (d_cons (d_tup (d_cons d_str (d_cons d_str d_nil))) (d_cons (d_tup (d_cons d_str (d_cons d_str d_nil))) d_nil))))))) z_nil))
      (z_cons (z_set 4 nd (d_dispN (dps_cons (dn 2) (dps_cons d_dct0M dps_nil))))
      (z_cons (z_for PassesOwn.never rfl (d_it (d_sl (d_lst (d_cons d_str (d_cons d_str (d_cons d_str d_nil)))) d_pnone (d_psome (d_op o_dadd d_int (d_call D__law_deal (hr.mono (by decide)) (d_cons (dn 0) (d_cons d_int d_nil))))))) (t_n 5 nd) (z_one (z_dput hu (d_dix hu (dn 4) d_str) (dn 5) (d_call D__law_pick (hr.mono (by decide)) (d_cons (dn 0) (d_cons (dn 3) d_nil))))))
      (z_cons (z_set 6 nd (d_lstM (d_cons (d_tup (d_cons d_str (d_cons (d_tup d_nil) (d_cons (d_call D__law_term (hr.mono (by decide)) (d_cons (dn 0) (d_cons (dn 4) (d_cons (d_lst d_nil) (d_cons d_int d_nil))))) d_nil)))) d_nil)))
      (z_cons (z_for PassesOwn.never rfl (d_it (d_b Z.sorted b_sorted (c_dsortD rfl) (d_cons (d_dix hu (dn 4) d_str) d_nil))) (t_n 5 nd) (z_cons (z_set 7 nd (d_listZip rfl (d_cons (d_lst (d_cons d_str (d_cons d_str (d_cons d_str d_nil)))) (d_cons (d_dix hu (d_dix hu (dn 4) d_str) (dn 5)) d_nil)) Z.list Z.zip))
      (z_one (z_expr (d_append (dn 6) (d_cons (d_tup (d_cons (dn 5) (d_cons (d_t Z.tuple b_tuple c_dtuple (d_cons (dn 7) d_nil)) (d_cons (d_call D__law_term (hr.mono (by decide)) (d_cons (dn 0) (d_cons (dn 4) (d_cons (dn 7) (d_cons d_int d_nil))))) d_nil)))) d_nil))))))
      (z_one (z_retF (d_lst (d_cons (dn 2) (d_cons (d_stl (dn 6)) d_nil)))))))))))), ?_⟩
  rintro ds M Q Ed ⟨d, rfl, hd, q⟩
  refine ⟨fun δ' M' => (∃ m : Nat, 1 ≤ m ∧ m ≤ 3 ∧ δ' = [some (.ref d), some (.int 1), some (.int (m : Nat)), none, none, none, none, none]) ∧ Die d M' ∧ Km d M M', ?_, ?_⟩
  · refine ⟨rfl, d, _, rfl, hd, by decide, by decide, fun x M1 hx hd1 km1 => ?_⟩
    obtain ⟨m, rfl, hm1, hm3⟩ : ∃ m : Nat, x = .int (m : Nat) ∧ 1 ≤ m ∧ m ≤ 3 := by
      simp only [List.mem_cons, List.not_mem_nil, or_false] at hx
      rcases hx with h | h | h | h | h
      · exact ⟨2, h, by decide, by decide⟩
      · exact ⟨2, h, by decide, by decide⟩
      · exact ⟨1, h, by decide, by decide⟩
      · exact ⟨2, h, by decide, by decide⟩
      · exact ⟨3, h, by decide, by decide⟩
    have em : (if (m : Int) > 1 then (m : Int) else 1) = (m : Nat) := by split <;> omega
    refine ⟨⟨m, hm1, hm3, ?_⟩, hd1, km1⟩
    show ([some (Da.ref d), some (.int 1), some (.int (if (m : Int) > 1 then (m : Int) else 1)), none, none, none, none, none] : De) = _
    rw [em]
  rintro δ' M1 ⟨⟨m, hm1, hm3, rfl⟩, hd1, km1⟩
  refine ⟨rfl, rfl, rfl, rfl, rfl, ?_⟩
  refine ⟨fun δ' M' => M' = M1 ∧ ∃ ks : List (List Str), δ' = [some (.ref d), some (.int 1), some (.int (m : Nat)), some (.lst (ks.map fun k => .tup (k.map Da.str))), none, none, none, none] ∧ ks ≠ [] ∧ ks.length ≤ 7 ∧ ∀ k ∈ ks, k.length ≤ 2 ∧ ∀ z : Str, z ∈ k → z = "block" ∨ (z = "wrap" ∧ m < 3), ?_, ?_⟩
  · refine ite2 (fun c => ?_) (fun c => ?_)
    · have c3 : m < 3 := by have := of_decide_eq_true c; omega
      refine ⟨rfl, rfl, rfl, rfl, rfl, rfl, [["block"], ["block", "block"], ["block"], [], ["wrap"], ["wrap", "block"], ["wrap", "block"]], rfl, by simp, by decide, fun k hk => ?_⟩
      have h : k.length ≤ 2 ∧ ∀ z : Str, z ∈ k → z = "block" ∨ z = "wrap" := (show ∀ k ∈ ([["block"], ["block", "block"], ["block"], [], ["wrap"], ["wrap", "block"], ["wrap", "block"]] : List (List Str)), k.length ≤ 2 ∧ ∀ z : Str, z ∈ k → z = "block" ∨ z = "wrap" by decide) k hk
      exact ⟨h.1, fun z hz => (h.2 z hz).imp id fun e => ⟨e, c3⟩⟩
    · refine ⟨rfl, [["block"], ["block", "block"], ["block"], []], rfl, by simp, by decide, fun k hk => ?_⟩
      have h : k.length ≤ 2 ∧ ∀ z : Str, z ∈ k → z = "block" := (show ∀ k ∈ ([["block"], ["block", "block"], ["block"], []] : List (List Str)), k.length ≤ 2 ∧ ∀ z : Str, z ∈ k → z = "block" by decide) k hk
      exact ⟨h.1, fun z hz => .inl (h.2 z hz)⟩
  rintro δ' M1' ⟨rfl, ks, rfl, hk0, hk7, hks⟩
  intro t ht pl hpl
  have htd := die_ne hd1 ht
  have hpt : pl ≠ t := fun e => by rw [e, mput_same] at hpl; cases hpl
  have hpl1 : M1' pl = none := by rw [mput_ne hpt] at hpl; exact hpl
  have hpd := die_ne hd1 hpl1
  have hMt : M t = none := by rw [← km1 t htd]; exact ht
  have hMp : M pl = none := by rw [← km1 pl hpd]; exact hpl1
  refine ⟨rfl, d, 3, rfl, (hd1.put htd).put hpd, by decide, by decide, fun r M3 hr hd3 km3 => ?_⟩
  have e1 : (1 + (r : Int)) = ((1 + r : Nat) : Int) := by omega
  show forD _ _ _ (U.cutD ((["f", "g", "twice"] : List Str).map Da.str) none (some (1 + (r : Int)))) _ _
  rw [e1, cutT, ← List.map_take]
  have hsub : ∀ z ∈ (["f", "g", "twice"] : List Str).take (1 + r), z ∈ (["f", "g", "twice"] : List Str) := fun z hz => List.take_subset _ _ hz
  have hnd : ((["f", "g", "twice"] : List Str).take (1 + r)).Nodup := (List.take_sublist _ _).nodup (by decide)
  have hl3 : ((["f", "g", "twice"] : List Str).take (1 + r)).length ≤ 3 := by rw [List.length_take]; exact Nat.min_le_right _ _
  have hne : (["f", "g", "twice"] : List Str).take (1 + r) ≠ [] := by rw [Nat.add_comm]; simp
  generalize (["f", "g", "twice"] : List Str).take (1 + r) = L0 at hsub hnd hl3 hne
  have hnm : ∀ z ∈ L0, nameZ z = true ∧ z ≠ "main" := fun z hz => by
    have := hsub z hz
    simp only [List.mem_cons, List.not_mem_nil, or_false] at this
    rcases this with rfl | rfl | rfl <;> exact ⟨by decide +kernel, by decide⟩
  have kx3 : Kx d M M3 := ((km1.kx.chg hMt).chg hMp).trans km3.kx
  refine forD_map (f := Da.str) (l := L0) (fun l δ M' => (∃ u5 u6 u7, δ = [some (.ref d), some (.int 1), some (.int (m : Nat)), some (.lst (ks.map fun k => .tup (k.map Da.str))), some (.ref pl), u5, u6, u7]) ∧ Die d M' ∧ Kx d M M' ∧ M' pl = some (.dct [(.inr "modes", .int (m : Nat)), (.inr "heads", .ref t)]) ∧
    ∃ hs : Rws, M' t = some (.dct (headsD hs)) ∧ hs.map (·.1) ++ l = L0 ∧ ∀ r ∈ hs, OwnOk r.2 ∧ r.2.length ≤ 2 ∧ (∃ k : List Str, k.length ≤ 2 ∧ r.2 = zipN k) ∧ ∀ p ∈ r.2, p.2 = "wrap" → m < 3) ?_ ?_ ⟨⟨_, _, _, rfl⟩, hd3, kx3, ?_, [], ?_, rfl, fun _ h => nomatch h⟩
  · rintro z l δ M4 ⟨⟨u5, u6, u7, rfl⟩, hd4, kx4, hm4, hs, hmt, hL, hok⟩ next
    refine ⟨d, _, rfl, hd4, by rw [List.length_map]; exact List.length_pos_iff.mpr hk0, by rw [List.length_map]; omega, fun x M5 hx hd5 km5 => ?_⟩
    obtain ⟨k, hk, rfl⟩ := List.mem_map.mp hx
    obtain ⟨k2, kbw⟩ := hks k hk
    obtain ⟨ho, hol⟩ := zipN_ok k2 fun z hz => (kbw z hz).imp id (·.1)
    have hwr : ∀ p ∈ zipN k, p.2 = "wrap" → m < 3 := fun p hp e => by
      have hk : p.2 ∈ k := (List.of_mem_zip hp).2
      rcases kbw _ hk with h | h
      · rw [e] at h; cases (show ("wrap" : Str) ≠ "block" by decide) h
      · exact h.2
    have hm5 : M5 pl = some (.dct [(.inr "modes", .int (m : Nat)), (.inr "heads", .ref t)]) := by rw [km5 pl hpd]; exact hm4
    have hmt5 : M5 t = some (.dct (headsD hs)) := by rw [km5 t htd]; exact hmt
    have hzn : z ∉ hs.map (·.1) := fun h => by
      rw [← hL] at hnd
      exact (List.nodup_append.mp hnd).2.2 z h z List.mem_cons_self rfl
    have hl4 : hs.length ≤ 3 := by
      have := congrArg List.length hL
      rw [List.length_append, List.length_map] at this
      omega
    have ek : (Da.tup (k.map Da.str)) = kndD (zipN k) := by
      unfold kndD
      rw [show ((zipN k).map fun p => Da.str p.2) = ((zipN k).map (·.2)).map Da.str by rw [List.map_map]; rfl, zipN_snd k2]
    refine ⟨_, hm5, .inr "heads", _, rfl, rfl, headsD hs, .inr z, hmt5, rfl, by unfold headsD; rw [List.length_map]; omega, next _ _ ⟨⟨_, _, _, rfl⟩, hd5.put htd, (kx4.trans km5.kx).chg hMt, ?_, hs ++ [(z, zipN k)], ?_, ?_, fun r hr => ?_⟩⟩
    · rw [mput_ne hpt]; exact hm5
    · rw [mput_same, ek]
      exact congrArg (fun x => some (MO.dct x)) (heads_put hzn)
    · rw [List.map_append, List.append_assoc]; exact hL
    · rcases List.mem_append.mp hr with h | h
      · exact hok r h
      · rw [List.mem_singleton.mp h]; exact ⟨ho, hol, ⟨k, k2, rfl⟩, hwr⟩
  · rintro δ M4 ⟨⟨u5, u6, u7, rfl⟩, hd4, kx4, hm4, hs, hmt, hL, hok⟩
    rw [List.append_nil] at hL
    have hH : HdsOk hs := ⟨fun e => hne (by rw [← hL, e]; rfl), by have := congrArg List.length hL; rw [List.length_map] at this; omega, fun r hr => ⟨(hnm r.1 (by rw [← hL]; exact List.mem_map_of_mem hr)).1, (hok r hr).1, (hok r hr).2.1, (hnm r.1 (by rw [← hL]; exact List.mem_map_of_mem hr)).2⟩, by rw [hL]; exact hnd⟩
    have hD4 : Dw d pl t m hs [] M4 := ⟨hd4, hm4, hmt, hH, ⟨by decide, (fun p h => nomatch h), List.nodup_nil⟩, hm1, hm3⟩
    have lh : hs.length ≤ 3 := by have := congrArg List.length hL; rw [List.length_map] at this; omega
    refine ⟨rfl, rfl, d, pl, t, m, hs, [], 3, rfl, by decide, by decide, hD4, fun x0 M5 hx0 hd5 km5 => ⟨rfl, ?_⟩⟩
    have hx0 : GsB [] (rwm hs) m x0 := GsB.of hx0 (by decide) (by decide)
    refine ⟨rfl, fun p hp => ?_⟩
    have hD5 := hD4.next hd5 km5
    have hpd' := die_ne hd5 hp
    have hplp : pl ≠ p := fun e => by have := hD5.plan; rw [e, hp] at this; cases this
    have htp : t ≠ p := fun e => by have := hD5.tab; rw [e, hp] at this; cases this
    have kx5 : Kx d M M5 := kx4.trans km5.kx
    have hMp' := kx_none kx5 hp hpd'
    have hDp : ∀ {M' o}, Dw d pl t m hs [] M' → Dw d pl t m hs [] (mput M' p o) := fun h => ⟨h.die.put hpd', by rw [mput_ne hplp]; exact h.plan, by rw [mput_ne htp]; exact h.tab, h.ok, h.ow, h.m1, h.m3⟩
    have hD6 := hDp (o := .lst [.tup [.str "main", .tup [], x0]]) hD5
    refine ⟨_, hD6.plan, .inr "heads", _, rfl, rfl, headsD hs, hD6.tab, hs.map (·.1), head_keys hs, by rw [List.length_map]; omega, fun ys hys hso => ?_⟩
    have lY : ys.length ≤ 3 := by rw [hys.length_eq, List.length_map]; exact lh
    refine forD_map (f := Da.str) (l := ys) (fun l δ M' => (∃ u5 u7, δ = [some (.ref d), some (.int 1), some (.int (m : Nat)), some (.lst (ks.map fun k => .tup (k.map Da.str))), some (.ref pl), u5, some (.ref p), u7]) ∧ Kx d M M' ∧ Dw d pl t m hs [] M' ∧
      ∃ rs : PlR, M' p = some (.lst (((("main" : Str), ([] : List (Str × Str)), x0) :: rs).map rowT)) ∧ rs.map (·.1) ++ l = ys ∧ ∀ r ∈ rs, r.2.1 = rowOf hs r.1 ∧ GsB r.2.1 (rwm hs) m r.2.2) ?_ ?_ ⟨⟨_, _, rfl⟩, kx5.put hp, hD6, [], mput_same, rfl, fun _ h => nomatch h⟩
    · rintro z l δ M6 ⟨⟨u5', u7', rfl⟩, kx6, hD, rs, hmp, hrs, hgd⟩ next
      have hz : z ∈ hs.map (·.1) := hys.subset (by rw [← hrs]; simp)
      have hh := hd_of hH hz
      have ez : zipD (OWN.map Da.str) ((rowOf hs z).map fun p : Str × Str => Da.str p.2) = (rowOf hs z).map fun p => Da.tup [.str p.1, .str p.2] := by
        obtain ⟨r, hr, rfl⟩ := List.mem_map.mp hz
        obtain ⟨_, _, ⟨k, k2, e⟩, _⟩ := hok r hr
        rw [rowOf_mem hH.nd hr, e, show ((zipN k).map fun p : Str × Str => Da.str p.2) = ((zipN k).map (·.2)).map Da.str by rw [List.map_map]; rfl, zipN_snd k2, zipD_strs]
        rfl
      refine ⟨rfl, _, hD.plan, .inr "heads", _, rfl, rfl, headsD hs, hD.tab, .inr z, _, rfl, hh.val, ?_⟩
      refine ⟨.inl (by decide), ?_⟩
      show hName 7 (Da.lst (zipD (OWN.map Da.str) ((rowOf hs z).map fun p : Str × Str => Da.str p.2))) _ _ _
      rw [ez]
      have l2 := hh.l2
      refine ⟨⟨p, _, rfl, hmp⟩, ?_⟩
      refine ⟨d, pl, t, m, hs, rowOf hs z, 3, rfl, by decide, by decide, ⟨hD.die, hD.plan, hD.tab, hD.ok, hh.ok, hD.m1, hD.m3⟩, fun x M7 hx hd7 km7 => ?_⟩
      have hrl : rs.length ≤ 3 := by
        have := congrArg List.length hrs
        rw [List.length_append, List.length_map] at this
        omega
      have hx : GsB (rowOf hs z) (rwm hs) m x := GsB.of hx (by decide) (by decide)
      refine ⟨rfl, _, by rw [km7 p hpd']; exact hmp, sz (by rw [List.length_map, List.length_cons]; omega), next _ _ ⟨⟨_, _, rfl⟩, (kx6.trans km7.kx).chg hMp', hDp (hD.next hd7 km7), rs ++ [(z, rowOf hs z, x)], ?_, ?_, fun r hr => ?_⟩⟩
      · rw [mput_same, ← List.cons_append, List.map_append]; rfl
      · rw [List.map_append, List.append_assoc]; exact hrs
      · rcases List.mem_append.mp hr with h | h
        · exact hgd r h
        · rw [List.mem_singleton.mp h]; exact ⟨rfl, hx⟩
    · rintro δ M6 ⟨⟨u5', u7', rfl⟩, kx6, hD, rs, hmp, hrs, hgd⟩
      rw [List.append_nil] at hrs
      obtain ⟨M7, s1, h7, k7⟩ := die_back (hD.die.del hpd') (kx6.del hMp')
      refine ⟨_, hmp, rfl, M7, s1, q m ((("main" : Str), ([] : List (Str × Str)), x0) :: rs) M7 ?_ h7 k7⟩
      have er : (rs.map fun r => (r.1, r.2.1)) = ys.map fun z => (z, rowOf hs z) := by
        rw [← hrs, List.map_map]
        exact List.map_congr_left fun r hr => by show (r.1, r.2.1) = (r.1, rowOf hs r.1); rw [(hgd r hr).1]
      have nmain : ("main" : Str) ∉ hs.map (·.1) := fun h => by
        obtain ⟨r, hr, e⟩ := List.mem_map.mp h
        exact (hH.ok r hr).2.2.2 e
      have ndm : ((rwm hs).map (·.1)).Nodup := List.nodup_cons.mpr ⟨nmain, hH.nd⟩
      have hper : (((("main" : Str), ([] : List (Str × Str))) :: rs.map fun r => (r.1, r.2.1)) : Rws).Perm (rwm hs) := by rw [er]; exact (rows_perm hH.nd hys).cons _
      have hm : ∀ r ∈ rs, r.1 ∈ hs.map (·.1) := fun r hr => hys.subset (by rw [← hrs]; exact List.mem_map_of_mem hr)
      refine ⟨hm1, hm3, ?_, List.mem_cons_self, ?_, fun r hr => ?_, fun r hr => ?_, fun r hr p hp e => ?_⟩
      · have := congrArg List.length hrs
        rw [List.length_map] at this
        rw [List.length_cons]; omega
      · show (("main" : Str) :: rs.map (·.1)).Nodup
        rw [hrs]
        exact List.nodup_cons.mpr ⟨fun h => nmain (hys.subset h), hys.nodup_iff.mpr hH.nd⟩
      · rcases List.mem_cons.mp hr with rfl | hr
        · exact ⟨(show nameZ "main" = true by decide +kernel), hD.ow, Nat.zero_le _⟩
        · have hh := hd_of hH (hm r hr)
          rw [(hgd r hr).1]
          exact ⟨hh.nm, hh.ok, hh.l2⟩
      · rcases List.mem_cons.mp hr with rfl | hr
        · exact hx0.perm ndm hper
        · exact (hgd r hr).2.perm ndm hper
      · rcases List.mem_cons.mp hr with rfl | hr
        · cases hp
        · obtain ⟨s, hs', e'⟩ := List.mem_map.mp (hm r hr)
          rw [(hgd r hr).1, ← e', rowOf_mem hH.nd hs'] at hp
          exact (hok s hs').2.2.2 p hp e
  · rw [km3 pl hpd, mput_same]; rfl
  · rw [km3 t htd, mput_ne (Ne.symm hpt), mput_same]; rfl
end

end K28
set_option Elab.async false
set_option linter.all false
set_option maxRecDepth 100000
set_option maxHeartbeats 4000000


namespace K28
open PySem PySem.Spec PyProof.Rows L2 U
theorem gs_list {kvs : List (Key × Da)} {rows : Rws} {m : Nat} {n s k : Nat} {z : Str} (hz : z = "seq" ∨ z = "or") {xs : List Da} (h : ∀ x ∈ xs, Gs kvs rows m TW n s x) (hl : xs.length ≤ k) (hk : k ≤ 4) (h0 : z = "seq" ∨ xs ≠ []) : Gs kvs rows m TW (n + 1) (1 + k * s) (.tup (.str z :: xs)) := by
  have hall : xs.all (pcB kvs n TW) = true := List.all_eq_true.mpr fun x hx => (h x hx).ok
  rcases hz with rfl | rfl
  · exact gs_mk (by decide) (by decide +kernel) hall (fun y hy => (h y hy).pv) (by omega) hl (fun y hy => (h y hy).sz) rfl (fun y hy => (h y hy).ft)
  · have hne : xs ≠ [] := h0.resolve_left (by decide)
    refine gs_mk (by decide) (by decide +kernel) ?_ (fun y hy => (h y hy).pv) (by omega) hl (fun y hy => (h y hy).sz) rfl (fun y hy => (h y hy).ft)
    cases xs with
    | nil => exact absurd rfl hne
    | cons x xs => exact hall
theorem gs_T {kvs : List (Key × Da)} {rows : Rws} {m n n' s s' : Nat} {x : Da} (h : Gs kvs rows m TW n s x) (hn : n ≤ n') (hs : s ≤ s') : Gs kvs rows m TW n' s' x := h.up (.inl rfl) hn hs
theorem gs_W {kvs : List (Key × Da)} {rows : Rws} {m n n' s s' : Nat} {x : Da} (h : Gs kvs rows m WW n s x) (hn : n ≤ n') (hs : s ≤ s') : Gs kvs rows m WW n' s' x := h.up (.inr rfl) hn hs
/-- a call with one thing -/
theorem gs_call1 {kvs : List (Key × Da)} {rows : Rws} {m n s : Nat} {c : Str} {g : Da} (hc : nameZ c = true) (hin : c ∈ rows.map (·.1)) (h : (Gs kvs rows m TW n s g ∧ (rowOf rows c).map (·.2) = [("block" : Str)]) ∨ (Gs kvs rows m WW n s g ∧ (rowOf rows c).map (·.2) = [("wrap" : Str)])) : Gs kvs rows m TW (n + 1) (1 + 1 * s) (.tup [.str "call", .str c, g]) := by
  rcases h with ⟨h, e⟩ | ⟨h, e⟩
  · refine (gs_call (gs := [g]) (k := 1) hc (fun y hy => by rw [List.mem_singleton.mp hy]; exact .inl h) (Nat.le_refl _) (by decide) hin).1 ?_
    rw [e, List.map_singleton, kindD_T h.ok]
  · refine (gs_call (gs := [g]) (k := 1) hc (fun y hy => by rw [List.mem_singleton.mp hy]; exact .inr h) (Nat.le_refl _) (by decide) hin).1 ?_
    rw [e, List.map_singleton, kindD_W h.ok]
def KB1 : List (Str × Str) := [("x", "block")]
def KB2 : List (Str × Str) := [("b", "block")]
def KW1 : List (Str × Str) := [("w", "wrap")]
def KW2 : List (Str × Str) := [("w", "wrap"), ("b", "block")]
theorem own_ok1 {p : Str × Str} (h1 : nameZ p.1 = true) (h2 : p.2 = "block" ∨ p.2 = "wrap") : OwnOk [p] :=
  ⟨(show 1 ≤ 3 by decide), fun q hq => by rw [List.mem_singleton.mp hq]; exact ⟨h1, by rcases h2 with e | e <;> rw [e] <;> decide⟩, by simp⟩
theorem kb1_ok : OwnOk KB1 := own_ok1 (by decide +kernel) (.inl rfl)
theorem kb2_ok : OwnOk KB2 := own_ok1 (by decide +kernel) (.inl rfl)
theorem kw1_ok : OwnOk KW1 := own_ok1 (by decide +kernel) (.inr rfl)
theorem kw2_ok : OwnOk KW2 := by
  refine ⟨by decide, fun p h => ?_, by decide⟩
  have h : p ∈ [(("w" : Str), ("wrap" : Str)), (("b" : Str), "block")] := h
  simp only [List.mem_cons, List.not_mem_nil, or_false] at h
  rcases h with rfl | rfl
  · exact ⟨by decide +kernel, by decide⟩
  · exact ⟨by decide +kernel, by decide⟩
theorem no_ok : OwnOk [] := ⟨by decide, (fun p h => nomatch h), List.nodup_nil⟩
theorem fr_run {own : List (Str × Str)} (ho : OwnOk own) {rows : Rws} {m n : Nat} {p : Str} (h : p ∈ ownNames own "block") : Gs (kvsD own) rows m TW (n + 1) 1 (.tup [.str "run", .str p]) :=
  let ⟨a, b⟩ := kd_kind ho h
  gs_run a (nameZ_len b)
theorem fr_own {own : List (Str × Str)} (ho : OwnOk own) {rows : Rws} {m n : Nat} {p : Str} (h : p ∈ ownNames own "wrap") : Gs (kvsD own) rows m WW (n + 1) 1 (.tup [.str "own", .str p]) :=
  let ⟨a, b⟩ := kd_kind ho h
  gs_own a (nameZ_len b)
theorem all2 {P : Da → Prop} {a b : Da} (h1 : P a) (h2 : P b) : ∀ x ∈ [a, b], P x := fun y hy => by
  simp only [List.mem_cons, List.not_mem_nil, or_false] at hy
  rcases hy with rfl | rfl
  · exact h1
  · exact h2
theorem all3 {P : Da → Prop} {a b c : Da} (h1 : P a) (h2 : P b) (h3 : P c) : ∀ x ∈ [a, b, c], P x := fun y hy => by
  simp only [List.mem_cons, List.not_mem_nil, or_false] at hy
  rcases hy with rfl | rfl | rfl
  · exact h1
  · exact h2
  · exact h3
def bodyTwice : Da := .tup [.str "seq", .tup [.str "run", .str "x"], .tup [.str "run", .str "x"]]
def bodyLocked : Da := .tup [.str "seq", .tup [.str "do", .str "a", .tup [.int 1, .non]], .tup [.str "run", .str "b"], .tup [.str "do", .str "b", .tup [.non, .int 0]]]
def bodyAgain : Da := .tup [.str "wrap", .tup [.str "own", .str "w"], .tup [.str "wrap", .tup [.str "own", .str "w"], .tup [.str "run", .str "b"]]]
theorem fr_twice {rows : Rws} {m : Nat} : GsB KB1 rows m bodyTwice :=
  .of (gs_list (n := 1) (s := 1) (k := 2) (.inl rfl) (all2 (fr_run kb1_ok (by decide +kernel)) (fr_run kb1_ok (by decide +kernel))) (by decide) (by decide) (.inl rfl)) (by decide) (by decide)
theorem fr_locked {rows : Rws} : GsB KB2 rows 2 bodyLocked := by
  have d1 : deedOk 2 (.tup [.str "do", .str "a", .tup [.int 1, .non]]) := ⟨_, _, rfl, .inl rfl, rfl, all2 (.inr ⟨1, by decide, rfl⟩) (.inl rfl)⟩
  have d2 : deedOk 2 (.tup [.str "do", .str "b", .tup [.non, .int 0]]) := ⟨_, _, rfl, .inr (.inl rfl), rfl, all2 (.inl rfl) (.inr ⟨0, by decide, rfl⟩)⟩
  exact .of (gs_list (n := 1) (s := 1) (k := 3) (.inl rfl) (all3 (gs_deed (by decide) (by decide) d1) (fr_run kb2_ok (by decide +kernel)) (gs_deed (by decide) (by decide) d2)) (by decide) (by decide) (.inl rfl)) (by decide) (by decide)
theorem fr_again {rows : Rws} {m : Nat} : GsB KW2 rows m bodyAgain := by
  have h1 : Gs (kvsD KW2) rows m TW 2 3 (.tup [.str "wrap", .tup [.str "own", .str "w"], .tup [.str "run", .str "b"]]) := gs_wrap (n := 1) (s := 1) (fr_own kw2_ok (by decide +kernel)) (fr_run kw2_ok (by decide +kernel))
  exact .of (gs_wrap (n := 2) (s := 3) (gs_W (fr_own (n := 0) kw2_ok (by decide +kernel)) (by decide) (by decide)) h1) (by decide) (by decide)
/-- the three programs -/
def frA (d1 d2 : Da) : PlR := [("main", [], .tup [.str "call", .str "twice", .tup [.str "or", d1, d2]]), ("twice", KB1, bodyTwice)]
def frB (d1 : Da) : PlR := [("main", [], .tup [.str "call", .str "deep", .tup [.str "with", .str "locked"]]), ("locked", KB2, bodyLocked), ("again", KW2, bodyAgain),
  ("deep", KW1, .tup [.str "or", .tup [.str "wrap", .tup [.str "own", .str "w"], d1], .tup [.str "call", .str "deep", .tup [.str "with", .str "again", .tup [.str "own", .str "w"]]]])]
def frC (d1 d2 : Da) : PlR := [("main", [], .tup [.str "call", .str "loop", d1]), ("loop", KB1, .tup [.str "or", .tup [.str "run", .str "x"], .tup [.str "call", .str "loop", .tup [.str "seq", .tup [.str "run", .str "x"], d2]]]), ("twice", KB1, bodyTwice)]
theorem fr_A {d1 d2 : Da} (h1 : deedOk 2 d1) (h2 : deedOk 2 d2) : PlOk 2 (frA d1 d2) := by
  refine ⟨by decide, by decide, (show 2 ≤ 5 by decide), List.mem_cons_self, (show (["main", "twice"] : List Str).Nodup by decide), fun r hr => ?_, fun r hr => ?_, fun _ _ _ _ _ => by decide⟩
  · simp only [frA, List.mem_cons, List.not_mem_nil, or_false] at hr
    rcases hr with rfl | rfl
    · exact ⟨(show nameZ "main" = true by decide +kernel), no_ok, (show 0 ≤ 2 by decide)⟩
    · exact ⟨(show nameZ "twice" = true by decide +kernel), kb1_ok, (show 1 ≤ 2 by decide)⟩
  · simp only [frA, List.mem_cons, List.not_mem_nil, or_false] at hr
    rcases hr with rfl | rfl
    · exact .of (gs_call1 (n := 2) (s := 3) (by decide +kernel) (show ("twice" : Str) ∈ (["main", "twice"] : List Str) by decide) (.inl ⟨gs_seq (n := 1) (s := 1) (.inr rfl) (gs_deed (by decide) (by decide) h1) (gs_deed (by decide) (by decide) h2), rfl⟩)) (by decide) (by decide)
    · exact fr_twice
theorem fr_C {d1 d2 : Da} (h1 : deedOk 2 d1) (h2 : deedOk 2 d2) : PlOk 2 (frC d1 d2) := by
  refine ⟨by decide, by decide, (show 3 ≤ 5 by decide), List.mem_cons_self, (show (["main", "loop", "twice"] : List Str).Nodup by decide), fun r hr => ?_, fun r hr => ?_, fun _ _ _ _ _ => by decide⟩
  · simp only [frC, List.mem_cons, List.not_mem_nil, or_false] at hr
    rcases hr with rfl | rfl | rfl
    · exact ⟨(show nameZ "main" = true by decide +kernel), no_ok, (show 0 ≤ 2 by decide)⟩
    · exact ⟨(show nameZ "loop" = true by decide +kernel), kb1_ok, (show 1 ≤ 2 by decide)⟩
    · exact ⟨(show nameZ "twice" = true by decide +kernel), kb1_ok, (show 1 ≤ 2 by decide)⟩
  · simp only [frC, List.mem_cons, List.not_mem_nil, or_false] at hr
    rcases hr with rfl | rfl | rfl
    · exact .of (gs_call1 (n := 1) (s := 1) (by decide +kernel) (show ("loop" : Str) ∈ (["main", "loop", "twice"] : List Str) by decide) (.inl ⟨gs_deed (by decide) (by decide) h1, rfl⟩)) (by decide) (by decide)
    · refine .of (gs_seq (n := 3) (s := 4) (.inr rfl) (gs_T (fr_run (n := 0) kb1_ok (by decide +kernel)) (by decide) (by decide)) (gs_call1 (n := 2) (s := 3) (by decide +kernel) (show ("loop" : Str) ∈ (["main", "loop", "twice"] : List Str) by decide) (.inl ⟨gs_seq (n := 1) (s := 1) (.inl rfl) (fr_run kb1_ok (by decide +kernel)) (gs_deed (by decide) (by decide) h2), rfl⟩))) (by decide) (by decide)
    · exact fr_twice
theorem fr_B {d1 : Da} (h1 : deedOk 2 d1) : PlOk 2 (frB d1) := by
  refine ⟨by decide, by decide, (show 4 ≤ 5 by decide), List.mem_cons_self, (show (["main", "locked", "again", "deep"] : List Str).Nodup by decide), fun r hr => ?_, fun r hr => ?_, fun _ _ _ _ _ => by decide⟩
  · simp only [frB, List.mem_cons, List.not_mem_nil, or_false] at hr
    rcases hr with rfl | rfl | rfl | rfl
    · exact ⟨(show nameZ "main" = true by decide +kernel), no_ok, (show 0 ≤ 2 by decide)⟩
    · exact ⟨(show nameZ "locked" = true by decide +kernel), kb2_ok, (show 1 ≤ 2 by decide)⟩
    · exact ⟨(show nameZ "again" = true by decide +kernel), kw2_ok, (show 2 ≤ 2 by decide)⟩
    · exact ⟨(show nameZ "deep" = true by decide +kernel), kw1_ok, (show 1 ≤ 2 by decide)⟩
  · have hD : ("deep" : Str) ∈ ((frB d1).map fun r => (r.1, r.2.1)).map (·.1) := by rw [List.map_map]; exact (show ("deep" : Str) ∈ (["main", "locked", "again", "deep"] : List Str) by decide)
    have hL : ("locked" : Str) ∈ ((frB d1).map fun r => (r.1, r.2.1)).map (·.1) := by rw [List.map_map]; exact (show ("locked" : Str) ∈ (["main", "locked", "again", "deep"] : List Str) by decide)
    have hA : ("again" : Str) ∈ ((frB d1).map fun r => (r.1, r.2.1)).map (·.1) := by rw [List.map_map]; exact (show ("again" : Str) ∈ (["main", "locked", "again", "deep"] : List Str) by decide)
    have eD : (rowOf ((frB d1).map fun r => (r.1, r.2.1)) "deep").map (·.2) = ([("wrap" : Str)]) := rfl
    have eL : (rowOf ((frB d1).map fun r => (r.1, r.2.1)) "locked").map (·.2) = ([("block" : Str)]) := rfl
    have eA : (rowOf ((frB d1).map fun r => (r.1, r.2.1)) "again").map (·.2) = ([("wrap" : Str), "block"]) := rfl
    generalize ((frB d1).map fun r => (r.1, r.2.1)) = rows at hD hL hA eD eL eA
    simp only [frB, List.mem_cons, List.not_mem_nil, or_false] at hr
    rcases hr with rfl | rfl | rfl | rfl
    · have w : Gs (kvsD []) rows 2 WW 2 1 (.tup [.str "with", .str "locked"]) := (gs_call (gs := []) (n := 1) (s := 1) (k := 0) (c := "locked") (by decide +kernel) (fun _ h => nomatch h) (by decide) (by decide) hL).2 (by rw [eL]; rfl)
      exact .of (gs_call1 (n := 2) (s := 1) (by decide +kernel) hD (.inr ⟨w, eD⟩)) (by decide) (by decide)
    · exact fr_locked
    · exact fr_again
    · have o : ∀ {n}, Gs (kvsD KW1) rows 2 WW (n + 1) 1 (.tup [.str "own", .str "w"]) := fr_own kw1_ok (by decide +kernel)
      have w : Gs (kvsD KW1) rows 2 WW 2 2 (.tup [.str "with", .str "again", .tup [.str "own", .str "w"]]) := (gs_call (gs := [.tup [.str "own", .str "w"]]) (n := 1) (s := 1) (k := 1) (c := "again") (by decide +kernel) (fun y hy => by rw [List.mem_singleton.mp hy]; exact .inr o) (by decide) (by decide) hA).2 (by rw [eA]; rfl)
      have c : Gs (kvsD KW1) rows 2 TW 3 3 (.tup [.str "call", .str "deep", .tup [.str "with", .str "again", .tup [.str "own", .str "w"]]]) := gs_call1 (n := 2) (s := 2) (by decide +kernel) hD (.inr ⟨w, eD⟩)
      have r : Gs (kvsD KW1) rows 2 TW 2 3 (.tup [.str "wrap", .tup [.str "own", .str "w"], d1]) := gs_wrap (n := 1) (s := 1) o (gs_deed (by decide) (by decide) h1)
      exact .of (gs_seq (n := 3) (s := 3) (.inr rfl) (gs_T r (by decide) (by decide)) c) (by decide) (by decide)
theorem D__law_framed {P : Program} {w : World} {K : PySem.W.Frag} {mg : Str → Option Value} {base : Heap} {C_Procedure : Addr} {C_Program : Addr} {C_Space : Addr} {C_Reckoner : Addr} {C_InvalidProgram : Addr} {C_InvalidOperation : Addr} (A : Facts K C_Procedure C_Program C_Space C_Reckoner C_InvalidProgram C_InvalidOperation) (M : MgOf K mg) (Z : Zs mg) (D__law_deal : KnD P w K mg base "_law_deal" 1 ["_law_sack_here", "_law_size"] spCast) (D__law_deed : KnD P w K mg base "_law_deed" 3 ["_law_sack_here", "_law_modes"] spDeed) : KnD P w K mg base "_law_framed" 4 ["_law_sack_here"] spPlain := by
  refine KnD.of A.d__law_framed M sc__law_framed (fun _ _ _ _ _ _ us hl => match us, hl with | [_], _ => rfl) (fun ds M Q E ⟨_, h, _⟩ => by rw [h]; rfl) (fun f cdv A0 outer s H E hr => ?_)
  have hu := U.hu_of hr
  have hu1 := U.hu1_of hr
  have nd := sc__law_framed.nd
  refine ⟨_, (z_cons (ps_imp (ps_par (i := 1) (j := 2) rfl nd rfl rfl (by decide) rfl rfl (d_cons (d_call D__law_deal (hr.mono (by decide)) (d_cons (dn 0) (d_cons d_int d_nil))) (d_cons (d_call D__law_deed (hr.mono (by decide)) (d_cons (dn 0) (d_cons d_int d_nil))) d_nil)) (by rfl)) fun _ _ _ h => li_par h)
      (z_cons (z_set 3 nd (d_tup (d_cons d_str (d_cons (d_tup (d_cons (d_tup (d_cons d_str (d_cons d_str d_nil))) d_nil)) (d_cons (d_tup (d_cons d_str (d_cons (d_tup (d_cons d_str (d_cons d_str d_nil))) (d_cons (d_tup (d_cons d_str (d_cons d_str d_nil))) d_nil)))) d_nil)))))
      (z_cons (z_set 4 nd (d_tup (d_cons d_str (d_cons (d_tup (d_cons (d_tup (d_cons d_str (d_cons d_str d_nil))) d_nil)) (d_cons (d_tup (d_cons d_str (d_cons (d_tup (d_cons d_str (d_cons d_str (d_cons (d_tup (d_cons d_int (d_cons d_non d_nil))) d_nil)))) (d_cons (d_tup (d_cons d_str (d_cons d_str d_nil))) (d_cons (d_tup (d_cons d_str (d_cons d_str (d_cons (d_tup (d_cons d_non (d_cons d_int d_nil))) d_nil)))) d_nil))))) d_nil)))))
      (z_cons (z_set 5 nd (d_tup (d_cons d_str (d_cons (d_tup (d_cons (d_tup (d_cons d_str (d_cons d_str d_nil))) (d_cons (d_tup (d_cons d_str (d_cons d_str d_nil))) d_nil))) (d_cons (d_tup (d_cons d_str (d_cons (d_tup (d_cons d_str (d_cons d_str d_nil))) (d_cons (d_tup (d_cons d_str (d_cons (d_tup (d_cons d_str (d_cons d_str d_nil))) (d_cons (d_tup (d_cons d_str (d_cons d_str d_nil))) d_nil)))) d_nil)))) d_nil)))))
      (z_cons (z_if (d_tcm (o_deq hu) (dn 1) d_int) (z_one (z_ret (d_lst (d_cons d_int (d_cons (d_lst (d_cons (d_tup (d_cons d_str (d_cons (d_tup d_nil) (d_cons (d_tup (d_cons d_str (d_cons d_str (d_cons (d_tup (d_cons d_str (d_cons (dn 2) (d_cons (d_call D__law_deed (hr.mono (by decide)) (d_cons (dn 0) (d_cons d_int d_nil))) d_nil)))) d_nil)))) d_nil)))) (d_cons (dn 3) d_nil))) d_nil))))) z_nil)
      (z_cons (z_if (d_tcm (o_deq hu) (dn 1) d_int) (z_cons (z_set 6 nd (d_tup (d_cons d_str (d_cons (d_tup (d_cons d_str (d_cons (d_tup (d_cons d_str (d_cons d_str d_nil))) (d_cons (dn 2) d_nil)))) (d_cons (d_tup (d_cons d_str (d_cons d_str (d_cons (d_tup (d_cons d_str (d_cons d_str (d_cons (d_tup (d_cons d_str (d_cons d_str d_nil))) d_nil)))) d_nil)))) d_nil)))))
      (z_cons (z_set 6 nd (d_tup (d_cons d_str (d_cons (d_tup (d_cons (d_tup (d_cons d_str (d_cons d_str d_nil))) d_nil)) (d_cons (dn 6) d_nil)))))
      (z_one (z_ret (d_lst (d_cons d_int (d_cons (d_lst (d_cons (d_tup (d_cons d_str (d_cons (d_tup d_nil) (d_cons (d_tup (d_cons d_str (d_cons d_str (d_cons (d_tup (d_cons d_str (d_cons d_str d_nil))) d_nil)))) d_nil)))) (d_cons (dn 4) (d_cons (dn 5) (d_cons (dn 6) d_nil))))) d_nil))))))) z_nil)
      (z_cons (z_set 7 nd (d_tup (d_cons d_str (d_cons (d_tup (d_cons d_str (d_cons d_str d_nil))) (d_cons (d_tup (d_cons d_str (d_cons d_str (d_cons (d_tup (d_cons d_str (d_cons (d_tup (d_cons d_str (d_cons d_str d_nil))) (d_cons (d_call D__law_deed (hr.mono (by decide)) (d_cons (dn 0) (d_cons d_int d_nil))) d_nil)))) d_nil)))) d_nil)))))
      (z_one (z_ret (d_lst (d_cons d_int (d_cons (d_lst (d_cons (d_tup (d_cons d_str (d_cons (d_tup d_nil) (d_cons (d_tup (d_cons d_str (d_cons d_str (d_cons (dn 2) d_nil)))) d_nil)))) (d_cons (d_tup (d_cons d_str (d_cons (d_tup (d_cons (d_tup (d_cons d_str (d_cons d_str d_nil))) d_nil)) (d_cons (dn 7) d_nil)))) (d_cons (dn 3) d_nil)))) d_nil)))))))))))), ?_⟩
  rintro ds M Q Ed ⟨d, rfl, hd, q⟩
  refine ⟨d, 3, rfl, hd, by decide, by decide, fun r M1 hr hd1 km1 => ⟨d, 2, rfl, hd1, by decide, by decide, fun d1 M2 h1 hd2 km2 => ?_⟩⟩
  repeat refine ⟨rfl, ?_⟩
  refine ite2 (fun c => ?_) (fun c => ite2 (fun c2 => ?_) (fun c2 => ?_))
  · refine ⟨rfl, d, 2, rfl, hd2, by decide, by decide, fun d2 M3 h2 hd3 km3 => ?_⟩
    repeat refine ⟨rfl, ?_⟩
    exact q 2 (frA d1 d2) M3 (fr_A h1 h2) hd3 ((km1.trans km2).trans km3)
  · repeat refine ⟨rfl, ?_⟩
    exact q 2 (frB d1) M2 (fr_B h1) hd2 (km1.trans km2)
  · refine ⟨rfl, rfl, d, 2, rfl, hd2, by decide, by decide, fun d2 M3 h2 hd3 km3 => ?_⟩
    repeat refine ⟨rfl, ?_⟩
    exact q 2 (frC d1 d2) M3 (fr_C h1 h2) hd3 ((km1.trans km2).trans km3)
theorem D__law_plain {P : Program} {w : World} {K : PySem.W.Frag} {mg : Str → Option Value} {base : Heap} {C_Procedure : Addr} {C_Program : Addr} {C_Space : Addr} {C_Reckoner : Addr} {C_InvalidProgram : Addr} {C_InvalidOperation : Addr} (A : Facts K C_Procedure C_Program C_Space C_Reckoner C_InvalidProgram C_InvalidOperation) (M : MgOf K mg) (Z : Zs mg) (D__law_deal : KnD P w K mg base "_law_deal" 1 ["_law_sack_here", "_law_size"] spCast) (D__law_framed : KnD P w K mg base "_law_framed" 4 ["_law_sack_here"] spPlain) (D__law_wild : KnDD P w K mg base "_law_wild" 20 ["_law_sack_here", "_law_least"] [.int 1] spWild) : KnD P w K mg base "_law_plain" 21 ["_law_sack_here"] spPlain := by
  refine KnD.of A.d__law_plain M sc__law_plain (fun _ _ _ _ _ _ us hl => match us, hl with | [_], _ => rfl) (fun ds M Q E ⟨_, h, _⟩ => by rw [h]; rfl) (fun f cdv A0 outer s H E hr => ?_)
  have hu := U.hu_of hr
  have hu1 := U.hu1_of hr
  have nd := sc__law_plain.nd
  refine ⟨_, (z_one (z_ret (d_if (d_tcm (o_deq hu) (d_call D__law_deal (hr.mono (by decide)) (d_cons (dn 0) (d_cons d_int d_nil))) d_int) (d_call D__law_framed (hr.mono (by decide)) (d_cons (dn 0) d_nil)) (d_callDD (dfl := [.int 1]) D__law_wild (fun _ _ => .cons (.int _) .nil) (hr.mono (by decide)) (d_cons (dn 0) d_nil))))), ?_⟩
  rintro ds M Q Ed ⟨d, rfl, hd, q⟩
  refine ⟨d, 4, rfl, hd, by decide, by decide, fun r M1 hr hd1 km1 => ite2 (fun c => ?_) (fun c => ?_)⟩
  · exact ⟨d, rfl, hd1, fun m rs M2 hP hd2 km2 => q m rs M2 hP hd2 (km1.trans km2)⟩
  · exact ⟨d, rfl, hd1, fun m rs M2 hP hd2 km2 => q m rs M2 hP hd2 (km1.trans km2)⟩

end K28
set_option Elab.async false
set_option linter.all false
set_option maxRecDepth 100000
set_option maxHeartbeats 4000000


namespace K28
open PySem PySem.Spec PyProof.Rows L2 U
def endsN (n : Nat) (w : Bool) : Nat := n + if w then 1 else 0
def pows (N : Nat) : List Da := (List.range (N + 1)).map fun k => Da.int ((2 ^ k : Nat) : Int)
def spcF (n : Nat) (w : Bool) : List (Str × Da) := [("own_modes", .int (n : Int)), ("own_watched", .bl w), ("own_ends", .int (endsN n w : Nat)), ("own_powers", .lst (pows (n * endsN n w))), ("own_size", .int ((2 ^ (n * endsN n w) : Nat) : Int)), ("own_same", .int (sam n (endsN n w) : Nat))]
def Spc (C : Addr) (n : Nat) (w : Bool) : Da := .obj C (spcF n w)
def OkN (n : Nat) : Prop := 1 ≤ n ∧ n ≤ 3
def spInit (C : Addr) : DSp := fun ds M Q _ => ∃ p n w, ds = [.ref p, .int (n : Nat), .bl w] ∧ OkN n ∧ M p = some (.ins C []) ∧ Q .non (mput M p (.ins C (spcF n w)))
theorem sz_of {n : Nat} (h : n ≤ 100) : Sz n := sz (by omega)
theorem E_le {n : Nat} {w : Bool} (h : OkN n) : n ≤ endsN n w ∧ endsN n w ≤ 4 ∧ n * endsN n w ≤ 12 := by
  obtain ⟨h1, h2⟩ := h
  have : n = 1 ∨ n = 2 ∨ n = 3 := by omega
  rcases this with rfl | rfl | rfl <;> cases w <;> decide
theorem pows_len (N : Nat) : (pows N).length = N + 1 := by unfold pows; rw [List.length_map, List.length_range]
theorem pows_get {N k : Nat} (h : k ≤ N) : (pows N)[k]? = some (.int ((2 ^ k : Nat) : Int)) := by
  unfold pows
  rw [List.getElem?_map, List.getElem?_range (by omega)]
  rfl
theorem pows_at {N k : Nat} (h : k ≤ N) : atI (pows N) (k : Nat) = some (.int ((2 ^ k : Nat) : Int)) := atI_nat (pows_get h)
theorem pows_last (N : Nat) : atI (pows N) (-1) = some (.int ((2 ^ N : Nat) : Int)) := by
  unfold atI ixN
  rw [if_neg (by decide), if_pos (by rw [pows_len]; omega), pows_len]
  have : ((-1 : Int) + ((N + 1 : Nat) : Int)).toNat = N := by omega
  show (pows N)[_]? = _
  rw [this]
  exact pows_get (Nat.le_refl _)
theorem pows_snoc (N : Nat) : pows N ++ [.int (((2 ^ N : Nat) : Int) * 2)] = pows (N + 1) := by
  unfold pows
  rw [List.range_succ (n := N + 1), List.map_append]
  show _ ++ [Da.int _] = _ ++ [Da.int ((2 ^ (N + 1) : Nat) : Int)]
  rw [show ((2 ^ (N + 1) : Nat) : Int) = ((2 ^ N : Nat) : Int) * 2 from by rw [Nat.pow_succ]; omega]
section
variable {P : Program} {w : World} {K : PySem.W.Frag} {mg : Str → Option Value} {base : Heap} {C_Procedure : Addr} {C_Program : Addr} {C_Space : Addr} {C_Reckoner : Addr} {C_InvalidProgram : Addr} {C_InvalidOperation : Addr}
theorem D_Space___init__ (A : Facts K C_Procedure C_Program C_Space C_Reckoner C_InvalidProgram C_InvalidOperation) (M : MgOf K mg) (Z : Zs mg) (D_is_from : KnD P w K mg base "is_from" 2 ["value", "first", "last"] spIsFrom) : KnK P w K mg base C_Space 3 ["self", "modes", "watched"] 2 ["watched"] [.bl false] (spInit C_Space) := by
  refine KnK.of A.i_Space sc_Space___init__ (by decide) rfl (fun D doc pm an cdv ct us zs l1 l2 => match us, l1, zs, l2 with | [_, _], _, [_], _ => ⟨_, _, _, _, _, _, rfl, rfl, rfl⟩)
    (fun D doc pm an cdv ct us ws l1 l2 => match us, l1, ws, l2 with | [_, _], _, [_], _ => rfl) (fun ds M Q E ⟨_, _, _, h, _⟩ => by rw [h]; rfl) (fun f cdv A0 outer s H E hr => ?_)
  have nd := sc_Space___init__.nd
  refine ⟨_, (z_cons (z_if (d_tnot (d_tv (d_call D_is_from (hr.mono (by decide)) (d_cons (dn 1) (d_cons d_int (d_cons (d_gi Z.c_MAX_MODES) d_nil)))))) (z_one z_never) z_nil)
      (z_cons (z_if (d_tnot (d_tv (d_b Z.isinstance b_isinstance (c_disiK (K := K) rfl) (d_cons (dn 2) (d_cons (d_ty Z.bool b_bool) d_nil))))) (z_one z_never) z_nil)
      (z_cons (z_sto A.cls_Space.cl A.n_Space_own_modes (dn 1) (dn 0))
      (z_cons (z_sto A.cls_Space.cl A.n_Space_own_watched (dn 2) (dn 0))
      (z_cons (z_sto A.cls_Space.cl A.n_Space_own_ends (d_op o_dadd (dn 1) (d_if (d_tv (dn 2)) d_int d_int)) (dn 0))
      (z_cons (z_set 3 nd (d_lst (d_cons d_int d_nil)))
      (z_cons (z_for PassesOwn.never rfl (d_rg1 Z.range (d_cons (d_op o_dmul (dn 1) (d_fld A.cls_Space.cl A.n_Space_own_ends (dn 0))) d_nil)) (t_n 4 nd) (z_one (z_set 3 nd (d_lst (d_star (dn 3) (d_cons (d_op o_dmul (d_ix (dn 3) (d_neg d_int)) d_int) d_nil))))))
      (z_cons (z_sto A.cls_Space.cl A.n_Space_own_powers (dn 3) (dn 0))
      (z_cons (z_sto A.cls_Space.cl A.n_Space_own_size (d_ix (dn 3) (d_neg d_int)) (dn 0))
      (z_one (z_sto A.cls_Space.cl A.n_Space_own_same (d_b Z.sum b_sum (c_dsum rfl) (d_cons (d_lc (own := [("mode", 5)]) (c := (.n 5)) rfl nd (d_rg1 Z.range (d_cons (dn 1) d_nil)) (blkOk_by (own := [("mode", 5)]) (N := N_Space___init__) (sc := defScope s_Space___init__) (by decide +kernel)) (fun _ _ _ _ _ => (gn 5 nd)) (fun _ _ _ _ _ => d_ts0) (fun _ _ _ _ _ => (d_ix (dn 3) (d_op o_dadd (d_op o_dmul (dn 5) (d_fld A.cls_Space.cl A.n_Space_own_ends (dn 0))) (dn 5))))) d_nil)) (dn 0)))))))))))), ?_⟩
  rintro ds M Q Ed ⟨p, n, w, rfl, hn, hp, k⟩
  have e1 : isFr (.int (n : Int)) 1 3 = true := by
    show (decide _ && decide _) = true
    rw [decide_eq_true (by have := hn.1; omega), decide_eq_true (by have := hn.2; omega)]; rfl
  obtain ⟨el1, el2, el3⟩ := E_le (w := w) hn
  refine ⟨_, _, _, rfl, .int _, ?_⟩
  rw [show isFr _ _ _ = true from e1]
  refine ⟨by decide, ifF (by decide) ?_⟩
  refine ⟨_, hp, rfl, ?_⟩
  refine ⟨_, mput_same, rfl, ?_⟩
  -- the number of ends
  have ends : ∀ {Q : DK} {M : Mm}, Q (.int (endsN n w : Nat)) M → (if w = true then Q (.int ((n : Int) + 1)) M else Q (.int ((n : Int) + 0)) M) := fun {Q M} q => by cases w <;> exact q
  have st : ∀ (Q : DK), Q (.int (endsN n w : Nat)) (mput (mput M p (.ins C_Space (putD "own_modes" (.int (n : Int)) []))) p (.ins C_Space (putD "own_watched" (.bl w) (putD "own_modes" (.int (n : Int)) [])))) →
      gOp hAdd (gVar 1) (gIf (gTru (gVar 2)) (gC (.int 1)) (gC (.int 0))) [some (.ref p), some (.int (n : Int)), some (.bl w), none, none, none] (mput (mput M p (.ins C_Space (putD "own_modes" (.int (n : Int)) []))) p (.ins C_Space (putD "own_watched" (.bl w) (putD "own_modes" (.int (n : Int)) [])))) Q := fun Q q => by cases w <;> exact q
  refine st _ ?_
  refine ⟨_, mput_same, rfl, ?_⟩
  refine ⟨rfl, ?_⟩
  refine ⟨_, mput_same, _, rfl, .inl (by have := hn.2; omega), rok (by omega) (by have : ((n : Int) * (endsN n w : Nat)) = ((n * endsN n w : Nat) : Int) := rfl; omega), ?_⟩
  refine forD_rng (n := n * endsN n w) (fun j δ M' => ∃ u, δ = [some (.ref p), some (.int (n : Int)), some (.bl w), some (.lst (pows j)), u, none] ∧ M' = mput (mput (mput M p (.ins C_Space (putD "own_modes" (.int (n : Int)) []))) p (.ins C_Space (putD "own_watched" (.bl w) (putD "own_modes" (.int (n : Int)) [])))) p (.ins C_Space (putD "own_ends" (.int (endsN n w : Nat)) (putD "own_watched" (.bl w) (putD "own_modes" (.int (n : Int)) []))))) ?_ ?_ ⟨none, rfl, rfl⟩
  · rintro j δ M' NX hj ⟨u, rfl, rfl⟩ nx
    refine ⟨_, pows_last j, .inr ⟨by decide, by decide⟩, sz_of ?_, nx _ _ ⟨some (.int (j : Int)), ?_, rfl⟩⟩
    · show (pows j ++ [_]).length ≤ 100
      rw [List.length_append, pows_len, List.length_singleton]; omega
    · show _ = [some (Da.ref p), some (Da.int (n : Int)), some (Da.bl w), some (Da.lst (pows (j + 1))), _, none]
      rw [← pows_snoc]
      rfl
  · rintro δ M' ⟨u, rfl, rfl⟩
    refine ⟨_, mput_same, rfl, ?_⟩
    refine ⟨_, pows_last _, _, mput_same, rfl, ?_⟩
    refine ⟨rok (by omega) (by have := hn.2; omega), ?_⟩
    rw [rngD0' (n := n) rfl]
    refine ⟨sz_of (by rw [List.length_map, List.length_range]; have := hn.2; omega), lcD_all (fun i : Nat => Da.int ((2 ^ (i * endsN n w + i) : Nat) : Int)) (fun _ _ => trivial) (fun i hi Q q => ?_) ?_⟩
    · have hi := List.mem_range.mp hi
      refine ⟨_, mput_same, _, rfl, .inl (by have := hn.2; omega), _, pows_at (k := i * endsN n w + i) ?_, q⟩
      have h1 : i * endsN n w ≤ (n - 1) * endsN n w := Nat.mul_le_mul_right _ (by omega)
      have h2 : (n - 1) * endsN n w + endsN n w = n * endsN n w := by
        rw [← Nat.succ_mul]; congr 1; have := hn.1; omega
      omega
    · refine ⟨_, asInts_fun _ _, _, mput_same, rfl, ?_⟩
      have es : ((List.range n).map fun i => ((2 ^ (i * endsN n w + i) : Nat) : Int)).sum = ((sam n (endsN n w) : Nat) : Int) := by
        obtain ⟨h1, h2⟩ := hn
        have : n = 1 ∨ n = 2 ∨ n = 3 := by omega
        rcases this with rfl | rfl | rfl <;> cases w <;> decide
      rw [es]
      simp only [mput_put]
      exact k
def spIsRel (C : Addr) : DSp := fun ds M Q _ => ∃ (n : Nat) (w : Bool) (x : Da), ds = [Spc C n w, x] ∧ OkN n ∧ pv x ∧ Q (.bl (isFr x 0 (((2 ^ (n * endsN n w) : Nat) : Int) - 1))) M
section
variable (A : Facts K C_Procedure C_Program C_Space C_Reckoner C_InvalidProgram C_InvalidOperation) (M : MgOf K mg) (Z : Zs mg)
include A M Z
theorem D_Space_is_relation (D_is_from : KnD P w K mg base "is_from" 2 ["value", "first", "last"] spIsFrom) : KnMD P w K mg base C_Space "is_relation" 3 ["self", "value"] (spIsRel C_Space) := by
  refine KnMD.of A.m_Space_is_relation sc_Space_is_relation (fun _ _ _ _ _ _ us hl => match us, hl with | [_, _], _ => rfl) (fun ds M Q E ⟨_, _, _, h, _⟩ => by rw [h]; rfl) (fun f cdv A0 outer s H E hr => ?_)
  have nd := sc_Space_is_relation.nd
  refine ⟨_, (z_one (z_ret (d_call D_is_from (hr.mono (by decide)) (d_cons (dn 1) (d_cons d_int (d_cons (d_op o_dsub (d_fld A.cls_Space.cl A.n_Space_own_size (dn 0)) d_int) d_nil)))))), ?_⟩
  rintro ds M Q Ed ⟨n, w, x, rfl, hn, ok, q⟩
  exact ⟨rfl, _, rfl, x, 0, _, rfl, ok, q⟩
end
end

def isTab (N : Nat) (x : Da) : Bool := match x with
  | .tup xs => decide (xs.length = 2 ^ N) && xs.all fun y => isFr y 0 (((2 ^ N : Nat) : Int) - 1)
  | _ => false
def spIsTable (C : Addr) : DSp := fun ds M Q _ => ∃ (n : Nat) (w : Bool) (x : Da), ds = [Spc C n w, x] ∧ OkN n ∧ pv x ∧ Q (.bl (isTab (n * endsN n w) x)) M
section
variable {P : Program} {w : World} {K : PySem.W.Frag} {mg : Str → Option Value} {base : Heap} {C_Procedure : Addr} {C_Program : Addr} {C_Space : Addr} {C_Reckoner : Addr} {C_InvalidProgram : Addr} {C_InvalidOperation : Addr}
variable (A : Facts K C_Procedure C_Program C_Space C_Reckoner C_InvalidProgram C_InvalidOperation) (M : MgOf K mg) (Z : Zs mg)
include A M Z
theorem D_Space_is_table (D_Space_is_relation : KnMD P w K mg base C_Space "is_relation" 3 ["self", "value"] (spIsRel C_Space)) : KnMD P w K mg base C_Space "is_table" 4 ["self", "value"] (spIsTable C_Space) := by
  refine KnMD.of A.m_Space_is_table sc_Space_is_table (fun _ _ _ _ _ _ us hl => match us, hl with | [_, _], _ => rfl) (fun ds M Q E ⟨_, _, _, h, _⟩ => by rw [h]; rfl) (fun f cdv A0 outer s H E hr => ?_)
  have hu := U.hu_of hr
  have nd := sc_Space_is_table.nd
  refine ⟨_, (z_cons (z_if (d_w (d_or (d_tnot (d_tv (d_b Z.isinstance b_isinstance (c_disiK (K := K) rfl) (d_cons (dn 1) (d_cons (d_ty Z.tuple b_tuple) d_nil))))) (d_or1 (d_tcm (o_dne hu) (d_b Z.len b_len c_dlen (d_cons (dn 1) d_nil)) (d_fld A.cls_Space.cl A.n_Space_own_size (dn 0)))))) (z_one (z_ret d_bl)) z_nil)
      (z_one (z_ret (d_b Z.all b_all (c_dall rfl) (d_cons (d_lc (own := [("entry", 2)]) (c := (.n 2)) rfl nd (d_it (dn 1)) (blkOk_by (own := [("entry", 2)]) (N := N_Space_is_table) (sc := defScope s_Space_is_table) (by decide +kernel)) (fun _ _ _ _ _ => (gn 2 nd)) (fun _ _ _ _ _ => d_ts0) (fun _ _ _ _ _ => (d_meth D_Space_is_relation A.cls_Space.cl (hr.mono (by decide)) (dn 0) (d_cons (dn 2) d_nil)))) d_nil))))), ?_⟩
  rintro ds M Q Ed ⟨n, w, x, rfl, hn, ok, q⟩
  cases x with
  | non => exact ⟨by decide, ifT (by decide) q⟩
  | bl b => exact ⟨by decide, ifT (by decide) q⟩
  | int b => exact ⟨by decide, ifT (by decide) q⟩
  | str b => exact ⟨by decide, ifT (by decide) q⟩
  | lst b => exact ⟨by decide, ifT (by decide) q⟩
  | dct b => exact ⟨by decide, ifT (by decide) q⟩
  | tup xs =>
    have ok1 : Sz xs.length := by cases ok with | tup _ h _ => exact sz (by omega)
    have ok2 : ∀ y ∈ xs, pv y := by cases ok with | tup _ _ h => exact h
    refine ⟨by decide, ifF (by decide) ⟨rfl, _, rfl, ?_⟩⟩
    cases c : decide (xs.length = 2 ^ (n * endsN n w)) with
    | false =>
      have e : isTab (n * endsN n w) (.tup xs) = false := by show (decide _ && _) = false; rw [c]; rfl
      rw [e] at q
      refine ifT ?_ q
      rw [Bool.not_eq_true']
      exact decide_eq_false fun z => of_decide_eq_false c (by omega)
    | true =>
      have e : isTab (n * endsN n w) (.tup xs) = xs.all fun y => isFr y 0 (((2 ^ (n * endsN n w) : Nat) : Int) - 1) := by show (decide _ && _) = _; rw [c]; rfl
      rw [e] at q
      refine ifF ?_ ?_
      · rw [Bool.not_eq_true', Bool.not_eq_false]
        exact decide_eq_true (by have := of_decide_eq_true c; omega)
      · have key : xs = xs.map id := (List.map_id xs).symm
        refine ⟨ok1, ?_⟩
        rw [key]
        refine lcD_all (fun y => Da.bl (isFr y 0 (((2 ^ (n * endsN n w) : Nat) : Int) - 1))) (fun _ _ => trivial) (fun y hy Q q => ⟨⟨rfl, rfl⟩, n, w, y, rfl, hn, ok2 y hy, q⟩) ?_
        refine ⟨_, asBls_fun _ _, ?_⟩
        rw [List.all_map]
        exact q
  | ty _ => cases ok
  | obj _ _ => cases ok
  | ref _ => cases ok
  | exn _ _ _ => cases ok
end

theorem prc_ofG {m : Nat} {rs : PlR} (h : PlOk m rs) {nm : Str} {own : List (Str × Str)} {body : Da} (hr : (nm, own, body) ∈ rs) : PrcOk nm own body := by
  have h1 := h.ok _ hr
  have h2 := h.bd _ hr
  refine ⟨h1.1, h1.2.1, h2.pv, ?_⟩
  unfold bodB
  rw [h2.ok, decide_eq_true h2.len]; rfl
def Pr.tri (r : Pr) : Str × List (Str × Str) × Da := (r.nm, r.own, r.body)
theorem prg_ofG {m : Nat} {rs : PlR} {ps : List Pr} (h : PlOk m rs) (e : ps.map Pr.tri = rs) (ok : ∀ r ∈ ps, PrOk r) : PrgOk m ps := by
  subst e
  have e1 : ((ps.map Pr.tri).map fun r => (r.1, r.2.1)) = ps.map Pr.row := by rw [List.map_map]; rfl
  have e2 : (ps.map Pr.tri).map (·.1) = ps.map Pr.nm := by rw [List.map_map]; rfl
  have hmn := h.mn
  have hnd := h.nd
  have hl := h.len
  rw [e1] at hmn
  rw [e2] at hnd
  rw [List.length_map] at hl
  refine ⟨h.m1, h.m3, ?_, by omega, ok, hnd, ?_, ?_, ?_⟩
  · rintro rfl
    exact nomatch hmn
  · obtain ⟨r, hr, e⟩ := List.mem_map.mp hmn
    unfold Pr.row at e
    injection e with a b
    exact ⟨r, hr, a, b⟩
  · intro r hr y hy
    have := (h.bd r.tri (List.mem_map_of_mem hr)).ft y hy
    rw [e1] at this
    exact this
  · intro hw
    obtain ⟨r, hr, hw⟩ := List.any_eq_true.mp hw
    have hw : (r.own.map (·.2)).contains ("wrap" : Str) = true := hw
    have hw : ("wrap" : Str) ∈ r.own.map (·.2) := by simpa using hw
    obtain ⟨p, hp, e⟩ := List.mem_map.mp hw
    exact h.wr r.tri (List.mem_map_of_mem hr) p hp e
def spMade (C Cp : Addr) : DSp := fun ds M Q _ => ∃ m rs, ds = [plD' m rs] ∧ PlOk m rs ∧ ∀ ps : List Pr, ps.map Pr.tri = rs → PrgOk m ps → Q (Prg C Cp m ps) M
theorem D__law_made {P : Program} {w : World} {K : PySem.W.Frag} {mg : Str → Option Value} {base : Heap} {C_Procedure : Addr} {C_Program : Addr} {C_Space : Addr} {C_Reckoner : Addr} {C_InvalidProgram : Addr} {C_InvalidOperation : Addr} (A : Facts K C_Procedure C_Program C_Space C_Reckoner C_InvalidProgram C_InvalidOperation) (M : MgOf K mg) (Z : Zs mg) (D_Program_of : KnCXD P w K mg base C_Program "of" 5 ["cls", "modes", "procedures"] (spOf C_Program C_Procedure)) (D_Procedure___init__ : KnMD P w K mg base C_Procedure "__init__" 23 ["self", "name", "parameters", "body"] (spInitP C_Procedure)) : KnD P w K mg base "_law_made" 25 ["_law_plain_here"] (spMade C_Program C_Procedure) := by
  refine KnD.of A.d__law_made M sc__law_made (fun _ _ _ _ _ _ us hl => match us, hl with | [_], _ => rfl) (fun ds M Q E ⟨_, _, h, _⟩ => by rw [h]; rfl) (fun f cdv A0 outer s H E hr => ?_)
  have hu := U.hu_of hr
  have hu1 := U.hu1_of hr
  have nd := sc__law_made.nd
  refine ⟨_, (z_one (z_ret (d_cmeth D_Program_of.d (hr.mono (by decide)) (d_glob (M.of _ _ A.cls_Program.at_)) (d_cons (d_ix (dn 0) d_int) (d_cons (d_t Z.tuple b_tuple c_dtuple (d_cons (d_lc (own := [("_law_name", 1), ("_law_own", 2), ("_law_body", 3)]) (c := (.t [1, 2, 3])) rfl nd (d_it (d_ix (dn 0) d_int)) (blkOk_by (own := [("_law_name", 1), ("_law_own", 2), ("_law_body", 3)]) (N := N__law_made) (sc := defScope s__law_made) (by decide +kernel)) (fun _ _ _ _ _ => (pg_tup rfl (pgs_cons (gn 1 nd) (pgs_cons (gn 2 nd) (pgs_cons (gn 3 nd) pgs_nil))))) (fun _ _ _ _ _ => d_ts0) (fun _ _ _ _ _ => (d_make M A.cls_Procedure D_Procedure___init__ (hr.mono (by decide)) (d_cons (dn 1) (d_cons (dn 2) (d_cons (dn 3) d_nil)))))) d_nil)) d_nil))))), ?_⟩
  rintro ds M Q Ed ⟨m, rs, rfl, hP, q⟩
  have hl5 := hP.len
  refine ⟨rfl, ?_⟩
  refine ⟨.int (m : Nat), at0, .lst (rs.map rowT), at1, sz (by rw [List.length_map]; omega), ?_⟩
  refine lcD_st0 (fun l' acc M7 => M7 = M ∧ ∃ ps : List Pr, acc = ps.map (Pr.da C_Procedure) ∧ ps.map Pr.tri ++ l' = rs ∧ ∀ r ∈ ps, PrOk r) ⟨rfl, [], rfl, rfl, fun _ h => nomatch h⟩ (fun _ => rfl) ?_ ?_
  · rintro ⟨nm, own, body⟩ l' acc M7 ⟨e7, ps, rfl, hps, hok⟩ Q' nx
    subst e7
    have hr : (nm, own, body) ∈ rs := by rw [← hps]; simp
    have ho := prc_ofG hP hr
    refine fun p hp => ⟨p, nm, own, body, rfl, ho, mput_same, fun R hR => ⟨rfl, _, mput_same, ?_⟩⟩
    rw [mput_put, mdel_put hp]
    refine nx _ _ ⟨rfl, ps ++ [⟨nm, own, body, R⟩], by rw [List.map_append]; rfl, by rw [List.map_append, List.append_assoc]; exact hps, fun r h => ?_⟩
    rcases List.mem_append.mp h with h | h
    · exact hok r h
    · rw [List.mem_singleton.mp h]; exact ⟨ho, hR⟩
  · rintro acc M7 ⟨e7, ps, rfl, hps, hok⟩
    subst e7
    rw [List.append_nil] at hps
    have hG := prg_ofG hP hps hok
    exact ⟨m, ps, rfl, hG, q ps hps hG⟩
def rowV (r : Str × List (Str × Str) × Da) : Key × Da := (.inr r.1, .tup [parD r.2.1, r.2.2])
def procsD (rs : PlR) : List (Key × Da) := rs.map rowV
def spaD (m : Nat) (w : Bool) : Da := .lst [.int (m : Nat), .int (endsN m w : Nat), .lst (pows (m * endsN m w))]
def wtc : Da → Bool
  | .non => false
  | _ => true
def WdOk (x : Da) : Prop := x = .non ∨ ∃ z : Str, x = .str z ∧ nameZ z = true
def codeD (m : Nat) (rs : PlR) (x : Da) : Da := .dct [(.inr "procs", .dct (procsD rs)), (.inr "space", spaD m (wtc x)), (.inr "word", x)]
def spByName : DSp := fun ds M Q _ => ∃ m rs, ds = [plD' m rs] ∧ PlOk m rs ∧ Q (.dct (procsD rs)) M
def spPowers : DSp := fun ds M Q _ => ∃ n : Nat, ds = [.int (n : Nat)] ∧ n ≤ 12 ∧ Q (.lst (pows n)) M
def spSpaceL : DSp := fun ds M Q _ => ∃ (m : Nat) (w : Bool), ds = [.int (m : Nat), .bl w] ∧ OkN m ∧ Q (spaD m w) M
def spCode : DSp := fun ds M Q _ => ∃ m rs x, ds = [plD' m rs, x] ∧ PlOk m rs ∧ WdOk x ∧ Q (codeD m rs x) M
theorem procs_new {rs : PlR} (nd : (rs.map (·.1)).Nodup) : mergeD [] (procsD rs) = procsD rs := by
  have h : (procsD rs).map (·.1) = (rs.map (·.1)).map Sum.inr := by unfold procsD; rw [List.map_map, List.map_map]; rfl
  refine (mergeD_new ?_).trans (List.nil_append _)
  rw [List.map_nil, List.nil_append, h]
  exact List.Pairwise.map _ (fun _ _ hne e => hne (Sum.inr.inj e)) nd
theorem D__law_by_name {P : Program} {w : World} {K : PySem.W.Frag} {mg : Str → Option Value} {base : Heap} {C_Procedure : Addr} {C_Program : Addr} {C_Space : Addr} {C_Reckoner : Addr} {C_InvalidProgram : Addr} {C_InvalidOperation : Addr} (A : Facts K C_Procedure C_Program C_Space C_Reckoner C_InvalidProgram C_InvalidOperation) (M : MgOf K mg) (Z : Zs mg)  : KnD P w K mg base "_law_by_name" 1 ["_law_plain_here"] spByName := by
  refine KnD.of A.d__law_by_name M sc__law_by_name (fun _ _ _ _ _ _ us hl => match us, hl with | [_], _ => rfl) (fun ds M Q E ⟨_, _, h, _⟩ => by rw [h]; rfl) (fun f cdv A0 outer s H E hr => ?_)
  have hu := U.hu_of hr
  have hu1 := U.hu1_of hr
  have nd := sc__law_by_name.nd
  refine ⟨_, (z_one (z_ret (d_t Z.dict b_dict (c_ddictL rfl) (d_cons (d_lc (own := [("_law_name", 1), ("_law_own", 2), ("_law_body", 3)]) (c := (.t [1, 2, 3])) rfl nd (d_it (d_ix (dn 0) d_int)) (blkOk_by (own := [("_law_name", 1), ("_law_own", 2), ("_law_body", 3)]) (N := N__law_by_name) (sc := defScope s__law_by_name) (by decide +kernel)) (fun _ _ _ _ _ => (pg_tup rfl (pgs_cons (gn 1 nd) (pgs_cons (gn 2 nd) (pgs_cons (gn 3 nd) pgs_nil))))) (fun _ _ _ _ _ => d_ts0) (fun _ _ _ _ _ => (d_tup (d_cons (dn 1) (d_cons (d_tup (d_cons (dn 2) (d_cons (dn 3) d_nil))) d_nil))))) d_nil)))), ?_⟩
  rintro ds M Q Ed ⟨m, rs, rfl, hP, q⟩
  have hl5 := hP.len
  refine ⟨.lst (rs.map rowT), at1, sz (by rw [List.length_map]; omega), ?_⟩
  refine lcD_all (f := fun r => Da.tup [.str r.1, .tup [parD r.2.1, r.2.2]]) (fun _ _ => rfl) (fun r hr Q q => ⟨rfl, rfl, q⟩) ?_
  refine ⟨procsD rs, by unfold procsD; rw [List.map_map]; rfl, ?_⟩
  rw [procs_new hP.nd]
  exact q
theorem D__law_powers {P : Program} {w : World} {K : PySem.W.Frag} {mg : Str → Option Value} {base : Heap} {C_Procedure : Addr} {C_Program : Addr} {C_Space : Addr} {C_Reckoner : Addr} {C_InvalidProgram : Addr} {C_InvalidOperation : Addr} (A : Facts K C_Procedure C_Program C_Space C_Reckoner C_InvalidProgram C_InvalidOperation) (M : MgOf K mg) (Z : Zs mg)  : KnD P w K mg base "_law_powers" 1 ["_law_many"] spPowers := by
  refine KnD.of A.d__law_powers M sc__law_powers (fun _ _ _ _ _ _ us hl => match us, hl with | [_], _ => rfl) (fun ds M Q E ⟨_, h, _⟩ => by rw [h]; rfl) (fun f cdv A0 outer s H E hr => ?_)
  have hu := U.hu_of hr
  have hu1 := U.hu1_of hr
  have nd := sc__law_powers.nd
  refine ⟨_, (z_cons (z_set 1 nd (d_lstM (d_cons d_int d_nil)))
      (z_cons (z_for PassesOwn.never rfl (d_rg1 Z.range (d_cons (dn 0) d_nil)) (t_n 2 nd) (z_one (z_expr (d_append (dn 1) (d_cons (d_op o_dmul (d_ix (dn 1) (d_neg d_int)) d_int) d_nil)))))
      (z_one (z_retF (d_stl (dn 1)))))), ?_⟩
  rintro ds M Q Ed ⟨n, rfl, hn, q⟩
  refine ⟨rfl, fun p hp => ⟨rok (by omega) (by omega), ?_⟩⟩
  refine forD_rng (n := n) (fun j δ M' => (∃ u, δ = [some (.int (n : Nat)), some (.ref p), u]) ∧ M' = mput M p (.lst (pows j))) ?_ ?_ ⟨⟨_, rfl⟩, rfl⟩
  · rintro j δ M' NX hj ⟨⟨u, rfl⟩, rfl⟩ nx
    refine ⟨⟨p, _, rfl, mput_same⟩, _, _, mput_same, pows_last j, .inr ⟨by decide, by decide⟩, _, mput_same, sz (by rw [pows_len]; omega), nx _ _ ⟨⟨_, rfl⟩, ?_⟩⟩
    rw [mput_put, pows_snoc]
  · rintro δ M' ⟨⟨u, rfl⟩, rfl⟩
    refine ⟨_, mput_same, M, ?_, q⟩
    rw [mdel_put hp]
    exact fun _ _ h => h
theorem D__law_space {P : Program} {w : World} {K : PySem.W.Frag} {mg : Str → Option Value} {base : Heap} {C_Procedure : Addr} {C_Program : Addr} {C_Space : Addr} {C_Reckoner : Addr} {C_InvalidProgram : Addr} {C_InvalidOperation : Addr} (A : Facts K C_Procedure C_Program C_Space C_Reckoner C_InvalidProgram C_InvalidOperation) (M : MgOf K mg) (Z : Zs mg) (D__law_powers : KnD P w K mg base "_law_powers" 1 ["_law_many"] spPowers) : KnD P w K mg base "_law_space" 2 ["_law_modes", "_law_is_watched"] spSpaceL := by
  refine KnD.of A.d__law_space M sc__law_space (fun _ _ _ _ _ _ us hl => match us, hl with | [_, _], _ => rfl) (fun ds M Q E ⟨_, _, h, _⟩ => by rw [h]; rfl) (fun f cdv A0 outer s H E hr => ?_)
  have hu := U.hu_of hr
  have hu1 := U.hu1_of hr
  have nd := sc__law_space.nd
  refine ⟨_, (z_cons (z_set 2 nd (d_op o_dadd (dn 0) (d_t Z.int b_int c_dint (d_cons (dn 1) d_nil))))
      (z_one (z_ret (d_lst (d_cons (dn 0) (d_cons (dn 2) (d_cons (d_call D__law_powers (hr.mono (by decide)) (d_cons (d_op o_dmul (dn 0) (dn 2)) d_nil)) d_nil))))))), ?_⟩
  rintro ds M Q Ed ⟨m, w, rfl, hm, q⟩
  obtain ⟨h1, h2, h3⟩ := E_le (w := w) hm
  have e : ((m : Int) + if w = true then (1 : Int) else 0) = ((endsN m w : Nat) : Int) := by cases w <;> rfl
  cases w with
  | false =>
    refine ⟨.inl ⟨by omega, by omega⟩, m * endsN m false, rfl, h3, rfl, q⟩
  | true =>
    refine ⟨.inl ⟨by omega, by omega⟩, m * endsN m true, rfl, h3, rfl, q⟩
theorem D__law_code {P : Program} {w : World} {K : PySem.W.Frag} {mg : Str → Option Value} {base : Heap} {C_Procedure : Addr} {C_Program : Addr} {C_Space : Addr} {C_Reckoner : Addr} {C_InvalidProgram : Addr} {C_InvalidOperation : Addr} (A : Facts K C_Procedure C_Program C_Space C_Reckoner C_InvalidProgram C_InvalidOperation) (M : MgOf K mg) (Z : Zs mg) (D__law_by_name : KnD P w K mg base "_law_by_name" 1 ["_law_plain_here"] spByName) (D__law_space : KnD P w K mg base "_law_space" 2 ["_law_modes", "_law_is_watched"] spSpaceL) : KnD P w K mg base "_law_code" 3 ["_law_plain_here", "_law_word"] spCode := by
  refine KnD.of A.d__law_code M sc__law_code (fun _ _ _ _ _ _ us hl => match us, hl with | [_, _], _ => rfl) (fun ds M Q E ⟨_, _, _, h, _⟩ => by rw [h]; rfl) (fun f cdv A0 outer s H E hr => ?_)
  have hu := U.hu_of hr
  have hu1 := U.hu1_of hr
  have nd := sc__law_code.nd
  refine ⟨_, (z_one (z_ret (d_stlD (d_dispN (dps_cons (d_call D__law_by_name (hr.mono (by decide)) (d_cons (dn 0) d_nil)) (dps_cons (d_call D__law_space (hr.mono (by decide)) (d_cons (d_ix (dn 0) d_int) (d_cons (d_ecm o_dnotN (dn 1) d_non) d_nil))) (dps_cons (dn 1) dps_nil))))))), ?_⟩
  rintro ds M Q Ed ⟨m, rs, x, rfl, hP, hx, q⟩
  have hm : OkN m := ⟨hP.m1, hP.m3⟩
  refine ⟨m, rs, rfl, hP, .int (m : Nat), at0, ?_⟩
  rcases hx with rfl | ⟨z, rfl, _⟩
  · exact ⟨m, false, rfl, hm, fun p hp => ⟨_, mput_same, by rw [mdel_put hp]; exact q⟩⟩
  · exact ⟨m, true, rfl, hm, fun p hp => ⟨_, mput_same, by rw [mdel_put hp]; exact q⟩⟩

end K28
set_option Elab.async false
set_option linter.all false
set_option maxRecDepth 100000
set_option maxHeartbeats 4000000


namespace K28
open PySem PySem.Spec PyProof.Rows L2 U
def relB (m : Nat) (w : Bool) (x : Da) : Bool := isFr x 0 (((2 ^ (m * endsN m w) : Nat) : Int) - 1)
def mnB (m : Nat) (w : Bool) (k : Str) (x : Da) : Bool := if k = "block" then relB m w x else isTab (m * endsN m w) x
def ownOf (rs : PlR) (z : Str) : List (Str × Str) := rowOf (rs.map fun r => (r.1, r.2.1)) z
def ctx3 (m : Nat) (w : Bool) (rs : PlR) (z : Str) (vs : List Da) : Bool := decide (z ∈ rs.map (·.1)) && (decide (vs.length = (ownOf rs z).length) && ((ownOf rs z).zip vs).all fun p => mnB m w p.1.2 p.2)
def ctx2 (m : Nat) (w : Bool) (rs : PlR) (z : Str) (b : Da) : Bool := match b with
  | .tup vs => ctx3 m w rs z vs
  | _ => false
def ctx1 (m : Nat) (w : Bool) (rs : PlR) (a b : Da) : Bool := match a with
  | .str z => ctx2 m w rs z b
  | _ => false
def ctxB (m : Nat) (w : Bool) (rs : PlR) (y : Da) : Bool := match y with
  | .tup [a, b] => ctx1 m w rs a b
  | _ => false
def spIsRelL : DSp := fun ds M Q _ => ∃ m rs x y, ds = [codeD m rs x, y] ∧ PlOk m rs ∧ pv y ∧ Q (.bl (relB m (wtc x) y)) M
def spIsMeanL : DSp := fun ds M Q _ => ∃ m rs x k y, ds = [codeD m rs x, .str k, y] ∧ PlOk m rs ∧ (k = "block" ∨ k = "wrap") ∧ pv y ∧ Q (.bl (mnB m (wtc x) k y)) M
def spDueL : DSp := fun ds M Q _ => ∃ m rs x y, ds = [codeD m rs x, y] ∧ PlOk m rs ∧ pv y ∧ Q (.bl (ctxB m (wtc x) rs y)) M
theorem D__law_is_relation {P : Program} {w : World} {K : PySem.W.Frag} {mg : Str → Option Value} {base : Heap} {C_Procedure : Addr} {C_Program : Addr} {C_Space : Addr} {C_Reckoner : Addr} {C_InvalidProgram : Addr} {C_InvalidOperation : Addr} (A : Facts K C_Procedure C_Program C_Space C_Reckoner C_InvalidProgram C_InvalidOperation) (M : MgOf K mg) (Z : Zs mg)  : KnD P w K mg base "_law_is_relation" 1 ["_law_code_here", "_law_value"] spIsRelL := by
  refine KnD.of A.d__law_is_relation M sc__law_is_relation (fun _ _ _ _ _ _ us hl => match us, hl with | [_, _], _ => rfl) (fun ds M Q E ⟨_, _, _, _, h, _⟩ => by rw [h]; rfl) (fun f cdv A0 outer s H E hr => ?_)
  have hu := U.hu_of hr
  have hu1 := U.hu1_of hr
  have nd := sc__law_is_relation.nd
  refine ⟨_, (z_one (z_ret (d_eand (d_b Z.isinstance b_isinstance (c_disiK (K := K) rfl) (d_cons (dn 1) (d_cons (d_ty Z.int b_int) d_nil))) (d_eand (d_enot (d_b Z.isinstance b_isinstance (c_disiK (K := K) rfl) (d_cons (dn 1) (d_cons (d_ty Z.bool b_bool) d_nil)))) (d_one (d_ech o_dle o_dlt d_int (dn 1) (d_ix (d_ix (d_dix hu (dn 0) d_str) d_int) (d_neg d_int)))))))), ?_⟩
  rintro ds M Q Ed ⟨m, rs, x, y, rfl, hP, hy, q⟩
  cases hy with
  | non => exact ⟨by decide, ifF (by decide) q⟩
  | bl b => exact ⟨by decide, ifT (by decide) ⟨by decide, ifF (by decide) q⟩⟩
  | int i =>
    refine ⟨by decide, ifT (by decide) ⟨by decide, ifT (by decide) ?_⟩⟩
    show if decide ((0 : Int) ≤ i) = true then _ else _
    cases c : decide ((0 : Int) ≤ i) with
    | false =>
      have e : relB m (wtc x) (.int i) = false := by show (decide _ && _) = false; rw [c]; rfl
      rw [e] at q
      exact ifF (by decide) q
    | true =>
      have e : relB m (wtc x) (.int i) = decide (i < ((2 ^ (m * endsN m (wtc x)) : Nat) : Int)) := by
        show (decide _ && decide _) = _
        rw [c, Bool.true_and]
        exact decide_eq_decide.mpr (by omega)
      rw [e] at q
      exact ifT rfl ⟨.inr "space", spaD m (wtc x), rfl, rfl, .lst (pows (m * endsN m (wtc x))), at2, _, pows_last _, q⟩
  | str b => exact ⟨by decide, ifF (by decide) q⟩
  | lst b => exact ⟨by decide, ifF (by decide) q⟩
  | tup b => exact ⟨by decide, ifF (by decide) q⟩
  | dct b => exact ⟨by decide, ifF (by decide) q⟩
theorem filt_emp {p : Da → Bool} : ∀ {xs : List Da}, (xs.filter fun y => !p y).isEmpty = xs.all p
  | [] => rfl
  | y :: xs => by
    cases c : p y with
    | true =>
      rw [List.filter_cons, c, List.all_cons, c, Bool.true_and]
      exact filt_emp
    | false =>
      rw [List.filter_cons, c, List.all_cons, c]; rfl
theorem D__law_is_meaning {P : Program} {w : World} {K : PySem.W.Frag} {mg : Str → Option Value} {base : Heap} {C_Procedure : Addr} {C_Program : Addr} {C_Space : Addr} {C_Reckoner : Addr} {C_InvalidProgram : Addr} {C_InvalidOperation : Addr} (A : Facts K C_Procedure C_Program C_Space C_Reckoner C_InvalidProgram C_InvalidOperation) (M : MgOf K mg) (Z : Zs mg) (D__law_is_relation : KnD P w K mg base "_law_is_relation" 1 ["_law_code_here", "_law_value"] spIsRelL) : KnD P w K mg base "_law_is_meaning" 2 ["_law_code_here", "_law_kind", "_law_value"] spIsMeanL := by
  refine KnD.of A.d__law_is_meaning M sc__law_is_meaning (fun _ _ _ _ _ _ us hl => match us, hl with | [_, _, _], _ => rfl) (fun ds M Q E ⟨_, _, _, _, _, h, _⟩ => by rw [h]; rfl) (fun f cdv A0 outer s H E hr => ?_)
  have hu := U.hu_of hr
  have hu1 := U.hu1_of hr
  have nd := sc__law_is_meaning.nd
  refine ⟨_, (z_cons (z_if (d_tcm (o_deq hu) (dn 1) d_str) (z_one (z_ret (d_call D__law_is_relation (hr.mono (by decide)) (d_cons (dn 0) (d_cons (dn 2) d_nil))))) z_nil)
      (z_cons (z_if (d_w (d_or (d_tnot (d_tv (d_b Z.isinstance b_isinstance (c_disiK (K := K) rfl) (d_cons (dn 2) (d_cons (d_ty Z.tuple b_tuple) d_nil))))) (d_or1 (d_tcm (o_dne hu) (d_b Z.len b_len c_dlen (d_cons (dn 2) d_nil)) (d_ix (d_ix (d_dix hu (dn 0) d_str) d_int) (d_neg d_int)))))) (z_one (z_ret d_bl)) z_nil)
      (z_one (z_ret (d_ecm (o_deqL hu) (d_lc (own := [("_law_one", 3)]) (c := (.n 3)) rfl nd (d_it (dn 2)) (blkOk_by (own := [("_law_one", 3)]) (N := N__law_is_meaning) (sc := defScope s__law_is_meaning) (by decide +kernel)) (fun _ _ _ _ _ => (gn 3 nd)) (fun _ _ _ _ _ => (d_ts1 (d_tnot (d_tv (d_call D__law_is_relation (hr.mono (by decide)) (d_cons (dn 0) (d_cons (dn 3) d_nil))))))) (fun _ _ _ _ _ => (dn 3))) (d_lst d_nil)))))), ?_⟩
  rintro ds M Q Ed ⟨m, rs, x, k, y, rfl, hP, hk, hy, q⟩
  refine ite2 (fun c => ?_) (fun c => ?_)
  · have e : mnB m (wtc x) k y = relB m (wtc x) y := if_pos (of_decide_eq_true c)
    rw [e] at q
    exact ⟨m, rs, x, y, rfl, hP, hy, q⟩
  · have e : mnB m (wtc x) k y = isTab (m * endsN m (wtc x)) y := if_neg fun z => c (decide_eq_true z)
    rw [e] at q
    cases hy with
    | non => exact ⟨by decide, ifT (by decide) q⟩
    | bl b => exact ⟨by decide, ifT (by decide) q⟩
    | int b => exact ⟨by decide, ifT (by decide) q⟩
    | str b => exact ⟨by decide, ifT (by decide) q⟩
    | lst b => exact ⟨by decide, ifT (by decide) q⟩
    | dct b => exact ⟨by decide, ifT (by decide) q⟩
    | tup xs hl hx =>
      refine ⟨by decide, ifF (by decide) ⟨.inr "space", spaD m (wtc x), rfl, rfl, .lst (pows (m * endsN m (wtc x))), at2, _, pows_last _, ?_⟩⟩
      cases c : decide (xs.length = 2 ^ (m * endsN m (wtc x))) with
      | false =>
        have e : isTab (m * endsN m (wtc x)) (.tup xs) = false := by show (decide _ && _) = false; rw [c]; rfl
        rw [e] at q
        refine ifT ?_ q
        rw [Bool.not_eq_true']
        exact decide_eq_false fun z => of_decide_eq_false c (by omega)
      | true =>
        have e : isTab (m * endsN m (wtc x)) (.tup xs) = xs.all fun y => relB m (wtc x) y := by show (decide _ && _) = _; rw [c]; rfl
        rw [e] at q
        refine ifF (by rw [Bool.not_eq_true', Bool.not_eq_false]; exact decide_eq_true (by have := of_decide_eq_true c; omega)) ?_
        refine ⟨sz (by omega), ?_⟩
        rw [show xs = xs.map id from (List.map_id xs).symm]
        refine lcD_map (fun y => !relB m (wtc x) y) id (fun y hy => ⟨trivial, fun Q q => ?_⟩) (fun y hy _ Q q => q) ?_
        · exact ⟨m, rs, x, y, rfl, hP, hx y hy, q⟩
        · rw [← filt_emp, ← List.map_id (xs.filter _)] at q
          exact ⟨rfl, q⟩
theorem filt_emp' {α : Type} {p : α → Bool} {f : α → Da} : ∀ {xs : List α}, ((xs.filter fun y => !p y).map f).isEmpty = xs.all p
  | [] => rfl
  | y :: xs => by
    cases c : p y with
    | true =>
      rw [List.filter_cons, c, List.all_cons, c, Bool.true_and]
      exact filt_emp'
    | false =>
      rw [List.filter_cons, c, List.all_cons, c]; rfl
theorem procs_some {rs : PlR} (nd : (rs.map (·.1)).Nodup) {r : Str × List (Str × Str) × Da} (hr : r ∈ rs) : valD (procsD rs) (.inr r.1) = some (.tup [parD r.2.1, r.2.2]) := by
  unfold valD procsD
  induction rs with
  | nil => cases hr
  | cons s rows ih =>
    rw [List.map_cons, List.find?_cons]
    rw [List.map_cons, List.nodup_cons] at nd
    rcases List.mem_cons.mp hr with rfl | hr
    · simp [rowV]
    · have hne : ¬ ((rowV s).1 = (Sum.inr r.1 : Key)) := fun e => nd.1 (by rw [show s.1 = r.1 from Sum.inr.inj e]; exact List.mem_map_of_mem hr)
      rw [show (decide ((rowV s).1 = (Sum.inr r.1 : Key))) = false from decide_eq_false hne]
      exact ih nd.2 hr
theorem procs_none {rs : PlR} {z : Str} (h : z ∉ rs.map (·.1)) : valD (procsD rs) (.inr z) = none := by
  unfold valD procsD
  rw [List.find?_eq_none.mpr fun kv hk e => ?_]
  · rfl
  · obtain ⟨r, hr, rfl⟩ := List.mem_map.mp hk
    exact h (by rw [← Sum.inr.inj (of_decide_eq_true e)]; exact List.mem_map_of_mem hr)
theorem own_at {rs : PlR} (nd : (rs.map (·.1)).Nodup) {r : Str × List (Str × Str) × Da} (hr : r ∈ rs) : ownOf rs r.1 = r.2.1 := by
  have h1 : ((rs.map fun r => (r.1, r.2.1)).map (·.1)).Nodup := by rw [List.map_map]; exact nd
  exact rowOf_mem h1 (List.mem_map_of_mem (f := fun r : Str × List (Str × Str) × Da => (r.1, r.2.1)) hr)
def zipG (p : (Str × Str) × Da) : Da := .tup [.tup [.str p.1.1, .str p.1.2], p.2]
theorem zip_par : ∀ (own : List (Str × Str)) (vs : List Da), zipD (own.map fun p => Da.tup [.str p.1, .str p.2]) vs = (own.zip vs).map zipG
  | [], _ => by simp [zipD]
  | _ :: _, [] => rfl
  | p :: own, v :: vs => congrArg (zipG (p, v) :: ·) (zip_par own vs)
theorem D__law_due {P : Program} {w : World} {K : PySem.W.Frag} {mg : Str → Option Value} {base : Heap} {C_Procedure : Addr} {C_Program : Addr} {C_Space : Addr} {C_Reckoner : Addr} {C_InvalidProgram : Addr} {C_InvalidOperation : Addr} (A : Facts K C_Procedure C_Program C_Space C_Reckoner C_InvalidProgram C_InvalidOperation) (M : MgOf K mg) (Z : Zs mg) (D__law_is_meaning : KnD P w K mg base "_law_is_meaning" 2 ["_law_code_here", "_law_kind", "_law_value"] spIsMeanL) : KnD P w K mg base "_law_due" 3 ["_law_code_here", "_law_value"] spDueL := by
  refine KnD.of A.d__law_due M sc__law_due (fun _ _ _ _ _ _ us hl => match us, hl with | [_, _], _ => rfl) (fun ds M Q E ⟨_, _, _, _, h, _⟩ => by rw [h]; rfl) (fun f cdv A0 outer s H E hr => ?_)
  have hu := U.hu_of hr
  have hu1 := U.hu1_of hr
  have nd := sc__law_due.nd
  refine ⟨_, (z_cons (z_if (d_w (d_or (d_tnot (d_tv (d_b Z.isinstance b_isinstance (c_disiK (K := K) rfl) (d_cons (dn 1) (d_cons (d_ty Z.tuple b_tuple) d_nil))))) (d_or (d_tcm (o_dne hu) (d_b Z.len b_len c_dlen (d_cons (dn 1) d_nil)) d_int) (d_or1 (d_tnot (d_tv (d_b Z.isinstance b_isinstance (c_disiK (K := K) rfl) (d_cons (d_ix (dn 1) d_int) (d_cons (d_ty Z.str b_str) d_nil))))))))) (z_one (z_ret d_bl)) z_nil)
      (z_cons (z_if (d_tcm (o_dninK hu) (d_ix (dn 1) d_int) (d_dix hu (dn 0) d_str)) (z_one (z_ret d_bl)) z_nil)
      (z_cons (z_set 2 nd (d_ix (d_dix hu (d_dix hu (dn 0) d_str) (d_ix (dn 1) d_int)) d_int))
      (z_cons (z_if (d_w (d_or (d_tnot (d_tv (d_b Z.isinstance b_isinstance (c_disiK (K := K) rfl) (d_cons (d_ix (dn 1) d_int) (d_cons (d_ty Z.tuple b_tuple) d_nil))))) (d_or1 (d_tcm (o_dne hu) (d_b Z.len b_len c_dlen (d_cons (d_ix (dn 1) d_int) d_nil)) (d_b Z.len b_len c_dlen (d_cons (dn 2) d_nil)))))) (z_one (z_ret d_bl)) z_nil)
      (z_one (z_ret (d_ecm (o_deqL hu) (d_lc (own := [("_law_pair", 3), ("_law_one", 4)]) (c := (.t [3, 4])) rfl nd (d_zip Z.zip (d_cons (dn 2) (d_cons (d_ix (dn 1) d_int) d_nil))) (blkOk_by (own := [("_law_pair", 3), ("_law_one", 4)]) (N := N__law_due) (sc := defScope s__law_due) (by decide +kernel)) (fun _ _ _ _ _ => (pg_tup rfl (pgs_cons (gn 3 nd) (pgs_cons (gn 4 nd) pgs_nil)))) (fun _ _ _ _ _ => (d_ts1 (d_tnot (d_tv (d_call D__law_is_meaning (hr.mono (by decide)) (d_cons (dn 0) (d_cons (d_ix (dn 3) d_int) (d_cons (dn 4) d_nil)))))))) (fun _ _ _ _ _ => d_int)) (d_lst d_nil)))))))), ?_⟩
  rintro ds M Q Ed ⟨m, rs, x, y, rfl, hP, hy, q⟩
  cases hy with
  | non => exact ⟨by decide, ifT (by decide) q⟩
  | bl b => exact ⟨by decide, ifT (by decide) q⟩
  | int b => exact ⟨by decide, ifT (by decide) q⟩
  | str b => exact ⟨by decide, ifT (by decide) q⟩
  | lst b => exact ⟨by decide, ifT (by decide) q⟩
  | dct b => exact ⟨by decide, ifT (by decide) q⟩
  | tup xs hl hx =>
    refine ⟨by decide, ifF (by decide) ?_⟩
    have no : ctxB m (wtc x) rs (.tup xs) = false → Q (.bl false) M := fun e => by rw [e] at q; exact q
    match xs, hl, hx, q, no with
    | [a, b], hl, hx, q, no =>
      refine ⟨a, at0, ?_⟩
      have ha := hx a List.mem_cons_self
      cases ha with
      | non => exact ⟨by decide, ifT (by decide) (no rfl)⟩
      | bl _ => exact ⟨by decide, ifT (by decide) (no rfl)⟩
      | int _ => exact ⟨by decide, ifT (by decide) (no rfl)⟩
      | lst _ => exact ⟨by decide, ifT (by decide) (no rfl)⟩
      | tup _ => exact ⟨by decide, ifT (by decide) (no rfl)⟩
      | dct _ => exact ⟨by decide, ifT (by decide) (no rfl)⟩
      | str z hz =>
        refine ⟨by decide, ifF (by decide) ?_⟩
        refine ⟨.str z, at0, .inr "procs", .dct (procsD rs), rfl, rfl, .inr z, rfl, ?_⟩
        by_cases hz : z ∈ rs.map (·.1)
        · obtain ⟨r, hr, rfl⟩ := List.mem_map.mp hz
          have hv := procs_some hP.nd hr
          have hw := own_at hP.nd hr
          rw [hv]
          refine ifF (by simp) ?_
          refine ⟨.inr "procs", .dct (procsD rs), rfl, rfl, .str r.1, at0, .inr r.1, _, rfl, hv, parD r.2.1, at0, ?_⟩
          refine ⟨b, at1, ?_⟩
          have hb := hx b (List.mem_cons_of_mem _ List.mem_cons_self)
          cases hb with
          | non => exact ⟨by decide, ifT (by decide) (no rfl)⟩
          | bl _ => exact ⟨by decide, ifT (by decide) (no rfl)⟩
          | int _ => exact ⟨by decide, ifT (by decide) (no rfl)⟩
          | lst _ => exact ⟨by decide, ifT (by decide) (no rfl)⟩
          | str _ => exact ⟨by decide, ifT (by decide) (no rfl)⟩
          | dct _ => exact ⟨by decide, ifT (by decide) (no rfl)⟩
          | tup vs hvl hvx =>
            refine ⟨by decide, ifF (by decide) ?_⟩
            have lo := (hP.ok r hr).2.2
            have pl : (r.2.1.map fun p : Str × Str => Da.tup [.str p.1, .str p.2]).length = r.2.1.length := List.length_map _
            have qe : ctxB m (wtc x) rs (.tup [.str r.1, .tup vs]) = (decide (vs.length = r.2.1.length) && (r.2.1.zip vs).all fun p => mnB m (wtc x) p.1.2 p.2) := by
              show (decide _ && (decide (vs.length = (ownOf rs r.1).length) && ((ownOf rs r.1).zip vs).all _)) = _
              rw [decide_eq_true hz, Bool.true_and, hw]
            rw [qe] at q no
            refine ⟨.tup vs, at1, ?_⟩
            cases c : decide (vs.length = r.2.1.length) with
            | false =>
              refine ifT ?_ (no (by rw [c]; rfl))
              rw [Bool.not_eq_true']
              exact decide_eq_false fun z => of_decide_eq_false c (by have z' : ((vs.length : Nat) : Int) = ((r.2.1.map fun p : Str × Str => Da.tup [.str p.1, .str p.2]).length : Nat) := z; rw [pl] at z'; omega)
            | true =>
              have hl' : vs.length = r.2.1.length := of_decide_eq_true c
              rw [c, Bool.true_and] at q
              refine ifF ?_ ?_
              · rw [Bool.not_eq_true', Bool.not_eq_false]
                exact decide_eq_true (show ((vs.length : Nat) : Int) = ((r.2.1.map fun p : Str × Str => Da.tup [.str p.1, .str p.2]).length : Nat) by rw [pl]; omega)
              refine ⟨.tup vs, at1, ?_⟩
              show Sz (zipD (r.2.1.map fun p : Str × Str => Da.tup [.str p.1, .str p.2]) vs).length ∧ lcD _ _ _ _ (zipD (r.2.1.map fun p : Str × Str => Da.tup [.str p.1, .str p.2]) vs) _ _
              rw [zip_par]
              refine ⟨sz (by rw [List.length_map, List.length_zip]; omega), ?_⟩
              refine lcD_map (fun p : (Str × Str) × Da => !mnB m (wtc x) p.1.2 p.2) (fun _ => Da.int 1) (fun p hp => ⟨rfl, fun Q q => ?_⟩) (fun p hp _ Q q => q) ?_
              · obtain ⟨h1, h2⟩ := List.of_mem_zip hp
                have hk : p.1.2 = "block" ∨ p.1.2 = "wrap" := by
                  have := ((hP.ok r hr).2.1.ok p.1 h1).2
                  simpa using this
                exact ⟨.str p.1.2, at1, m, rs, x, p.1.2, p.2, rfl, hP, hk, hvx p.2 h2, q⟩
              · refine ⟨rfl, ?_⟩
                have e := filt_emp' (p := fun p : (Str × Str) × Da => mnB m (wtc x) p.1.2 p.2) (f := fun _ => Da.int 1) (xs := r.2.1.zip vs)
                rw [← e] at q
                exact q
        · rw [procs_none hz]
          refine ifT rfl (no ?_)
          show ctx2 m (wtc x) rs z b = false
          cases b <;> first | rfl | (show (decide _ && _) = false; rw [decide_eq_false hz]; rfl)
    | [], _, _, q, no => exact no rfl
    | [_], _, _, q, no => exact no rfl
    | _ :: _ :: _ :: xs, _, _, q, no =>
      exact no rfl

end K28
set_option Elab.async false
set_option linter.all false
set_option maxRecDepth 100000
set_option maxHeartbeats 4000000


namespace K28
open PySem PySem.Spec PyProof.Rows L2 U
def rkF (C Cp CS : Addr) (m : Nat) (ps : List Pr) (x : Da) : List (Str × Da) := [("own_program", Prg C Cp m ps), ("own_word", x), ("own_space", Spc CS m (wtc x))]
def Rk (CR C Cp CS : Addr) (m : Nat) (ps : List Pr) (x : Da) : Da := .obj CR (rkF C Cp CS m ps x)
def spRInit (CR C Cp CS : Addr) : DSp := fun ds M Q _ => ∃ p m ps x, ds = [.ref p, Prg C Cp m ps, x] ∧ OkN m ∧ WdOk x ∧ M p = some (.ins CR []) ∧ Q .non (mput M p (.ins CR (rkF C Cp CS m ps x)))
theorem D_Reckoner___init__ {P : Program} {w : World} {K : PySem.W.Frag} {mg : Str → Option Value} {base : Heap} {C_Procedure : Addr} {C_Program : Addr} {C_Space : Addr} {C_Reckoner : Addr} {C_InvalidProgram : Addr} {C_InvalidOperation : Addr} (A : Facts K C_Procedure C_Program C_Space C_Reckoner C_InvalidProgram C_InvalidOperation) (M : MgOf K mg) (Z : Zs mg) (D_Space___init__ : KnK P w K mg base C_Space 3 ["self", "modes", "watched"] 2 ["watched"] [.bl false] (spInit C_Space)) : KnMD P w K mg base C_Reckoner "__init__" 5 ["self", "program", "word"] (spRInit C_Reckoner C_Program C_Procedure C_Space) := by
  refine KnMD.of A.m_Reckoner___init__ sc_Reckoner___init__ (fun _ _ _ _ _ _ us hl => match us, hl with | [_, _, _], _ => rfl) (fun ds M Q E ⟨_, _, _, _, h, _⟩ => by rw [h]; rfl) (fun f cdv A0 outer s H E hr => ?_)
  have hu := U.hu_of hr
  have hu1 := U.hu1_of hr
  have nd := sc_Reckoner___init__.nd
  refine ⟨_, (z_cons (z_sto A.cls_Reckoner.cl A.n_Reckoner_own_program (dn 1) (dn 0))
      (z_cons (z_sto A.cls_Reckoner.cl A.n_Reckoner_own_word (dn 2) (dn 0))
      (z_one (z_sto A.cls_Reckoner.cl A.n_Reckoner_own_space (d_makeK M A.cls_Space D_Space___init__ (hr.mono (by decide)) (d_cons (d_fld A.cls_Program.cl A.n_Program_own_modes (dn 1)) d_nil) (d_kcons (d_ecm o_dnotN (dn 2) d_non) d_knil)) (dn 0))))), ?_⟩
  rintro ds M Q Ed ⟨p, m, ps, x, rfl, hm, hx, hp, q⟩
  refine ⟨_, hp, rfl, _, mput_same, rfl, ?_⟩
  rw [mput_put]
  rcases hx with rfl | ⟨z, rfl, _⟩
  · refine ⟨rfl, _, rfl, rfl, rfl, fun p2 hp2 => ⟨p2, m, false, rfl, hm, mput_same, rfl, _, mput_same, ?_⟩⟩
    rw [mput_put, mdel_put hp2]
    refine ⟨_, mput_same, rfl, ?_⟩
    rw [mput_put]
    exact q
  · refine ⟨rfl, _, rfl, rfl, rfl, fun p2 hp2 => ⟨p2, m, true, rfl, hm, mput_same, rfl, _, mput_same, ?_⟩⟩
    rw [mput_put, mdel_put hp2]
    refine ⟨_, mput_same, rfl, ?_⟩
    rw [mput_put]
    exact q
def spReqP (C Cp : Addr) : DSp := fun ds M Q _ => ∃ (m : Nat) (ps : List Pr), ds = [Prg C Cp m ps] ∧ Q .non M
theorem D_require_program {P : Program} {w : World} {K : PySem.W.Frag} {mg : Str → Option Value} {base : Heap} {C_Procedure : Addr} {C_Program : Addr} {C_Space : Addr} {C_Reckoner : Addr} {C_InvalidProgram : Addr} {C_InvalidOperation : Addr} (A : Facts K C_Procedure C_Program C_Space C_Reckoner C_InvalidProgram C_InvalidOperation) (M : MgOf K mg) (Z : Zs mg)  : KnD P w K mg base "require_program" 1 ["value"] (spReqP C_Program C_Procedure) := by
  refine KnD.of A.d_require_program M sc_require_program (fun _ _ _ _ _ _ us hl => match us, hl with | [_], _ => rfl) (fun ds M Q E ⟨_, _, h, _⟩ => by rw [h]; rfl) (fun f cdv A0 outer s H E hr => ?_)
  have hu := U.hu_of hr
  have hu1 := U.hu1_of hr
  have nd := sc_require_program.nd
  refine ⟨_, (z_one (z_if (d_tnot (d_tv (d_b Z.isinstance b_isinstance (c_disiK (K := K) rfl) (d_cons (dn 0) (d_cons (d_glob (M.of _ _ A.cls_Program.at_)) d_nil))))) (z_one z_never) z_nil)), ?_⟩
  rintro ds M Q Ed ⟨m, ps, rfl, q⟩
  exact ⟨A.cls_Program.isC, _, A.cls_Program.self, ifF (by decide) q⟩
theorem nm_len' {nm : Str} (h : nameZ nm = true) : nm.length ≤ 8 := by
  unfold nameZ at h
  simp only [Bool.and_eq_true, decide_eq_true_eq] at h
  exact h.1.2
def spReqW : DSp := fun ds M Q _ => ∃ x, ds = [x] ∧ WdOk x ∧ Q .non M
theorem D_require_word {P : Program} {w : World} {K : PySem.W.Frag} {mg : Str → Option Value} {base : Heap} {C_Procedure : Addr} {C_Program : Addr} {C_Space : Addr} {C_Reckoner : Addr} {C_InvalidProgram : Addr} {C_InvalidOperation : Addr} (A : Facts K C_Procedure C_Program C_Space C_Reckoner C_InvalidProgram C_InvalidOperation) (M : MgOf K mg) (Z : Zs mg) (D_is_name : KnD P w K mg base "is_name" 1 ["value"] spIsName) : KnD P w K mg base "require_word" 2 ["word"] spReqW := by
  refine KnD.of A.d_require_word M sc_require_word (fun _ _ _ _ _ _ us hl => match us, hl with | [_], _ => rfl) (fun ds M Q E ⟨_, h, _⟩ => by rw [h]; rfl) (fun f cdv A0 outer s H E hr => ?_)
  have hu := U.hu_of hr
  have hu1 := U.hu1_of hr
  have nd := sc_require_word.nd
  refine ⟨_, (z_one (z_if (d_w (d_and (d_tcm o_dnotN (dn 0) d_non) (d_and1 (d_tnot (d_tv (d_call D_is_name (hr.mono (by decide)) (d_cons (dn 0) d_nil))))))) (z_one z_never) z_nil)), ?_⟩
  rintro ds M Q Ed ⟨x, rfl, rfl | ⟨z, rfl, hz⟩, q⟩
  · exact q
  · refine ⟨.str z, rfl, .str _ (by have := nm_len' hz; omega), ?_⟩
    rw [show nameD (.str z) = true from hz]
    exact ifF (by decide) q
def spRkOf (CR C Cp CS : Addr) : DSp := fun ds M Q _ => ∃ (m : Nat) (ps : List Pr) (x : Da), ds = [Prg C Cp m ps, x] ∧ OkN m ∧ WdOk x ∧ Q (Rk CR C Cp CS m ps x) M
theorem D_reckoner_of {P : Program} {w : World} {K : PySem.W.Frag} {mg : Str → Option Value} {base : Heap} {C_Procedure : Addr} {C_Program : Addr} {C_Space : Addr} {C_Reckoner : Addr} {C_InvalidProgram : Addr} {C_InvalidOperation : Addr} (A : Facts K C_Procedure C_Program C_Space C_Reckoner C_InvalidProgram C_InvalidOperation) (M : MgOf K mg) (Z : Zs mg) (D_require_program : KnD P w K mg base "require_program" 1 ["value"] (spReqP C_Program C_Procedure)) (D_require_word : KnD P w K mg base "require_word" 2 ["word"] spReqW) (D_Reckoner___init__ : KnMD P w K mg base C_Reckoner "__init__" 5 ["self", "program", "word"] (spRInit C_Reckoner C_Program C_Procedure C_Space)) : KnD P w K mg base "reckoner_of" 7 ["program", "word"] (spRkOf C_Reckoner C_Program C_Procedure C_Space) := by
  refine KnD.of A.d_reckoner_of M sc_reckoner_of (fun _ _ _ _ _ _ us hl => match us, hl with | [_, _], _ => rfl) (fun ds M Q E ⟨_, _, _, h, _⟩ => by rw [h]; rfl) (fun f cdv A0 outer s H E hr => ?_)
  have hu := U.hu_of hr
  have hu1 := U.hu1_of hr
  have nd := sc_reckoner_of.nd
  refine ⟨_, (z_cons (z_expr (d_call D_require_program (hr.mono (by decide)) (d_cons (dn 0) d_nil)))
      (z_cons (z_expr (d_call D_require_word (hr.mono (by decide)) (d_cons (dn 1) d_nil)))
      (z_one (z_ret (d_make M A.cls_Reckoner D_Reckoner___init__ (hr.mono (by decide)) (d_cons (dn 0) (d_cons (dn 1) d_nil))))))), ?_⟩
  rintro ds M Q Ed ⟨m, ps, x, rfl, hm, hx, q⟩
  refine ⟨m, ps, rfl, _, rfl, hx, fun p hp => ⟨p, m, ps, x, rfl, hm, hx, mput_same, rfl, _, mput_same, ?_⟩⟩
  rw [mput_put, mdel_put hp]
  exact q
def spIsMean (CR C Cp CS : Addr) : DSp := fun ds M Q _ => ∃ (m : Nat) (ps : List Pr) (x y : Da) (k : Str), ds = [Rk CR C Cp CS m ps x, .str k, y] ∧ OkN m ∧ pv y ∧ Q (.bl (mnB m (wtc x) k y)) M
theorem D_Reckoner_is_meaning {P : Program} {w : World} {K : PySem.W.Frag} {mg : Str → Option Value} {base : Heap} {C_Procedure : Addr} {C_Program : Addr} {C_Space : Addr} {C_Reckoner : Addr} {C_InvalidProgram : Addr} {C_InvalidOperation : Addr} (A : Facts K C_Procedure C_Program C_Space C_Reckoner C_InvalidProgram C_InvalidOperation) (M : MgOf K mg) (Z : Zs mg) (D_Space_is_relation : KnMD P w K mg base C_Space "is_relation" 3 ["self", "value"] (spIsRel C_Space)) (D_Space_is_table : KnMD P w K mg base C_Space "is_table" 4 ["self", "value"] (spIsTable C_Space)) : KnMD P w K mg base C_Reckoner "is_meaning" 5 ["self", "kind", "value"] (spIsMean C_Reckoner C_Program C_Procedure C_Space) := by
  refine KnMD.of A.m_Reckoner_is_meaning sc_Reckoner_is_meaning (fun _ _ _ _ _ _ us hl => match us, hl with | [_, _, _], _ => rfl) (fun ds M Q E ⟨_, _, _, _, _, h, _⟩ => by rw [h]; rfl) (fun f cdv A0 outer s H E hr => ?_)
  have hu := U.hu_of hr
  have hu1 := U.hu1_of hr
  have nd := sc_Reckoner_is_meaning.nd
  refine ⟨_, (z_one (z_ret (d_if (d_tcm (o_deq hu) (dn 1) (d_gs Z.c_BLOCK)) (d_meth D_Space_is_relation A.cls_Space.cl (hr.mono (by decide)) (d_fld A.cls_Reckoner.cl A.n_Reckoner_own_space (dn 0)) (d_cons (dn 2) d_nil)) (d_meth D_Space_is_table A.cls_Space.cl (hr.mono (by decide)) (d_fld A.cls_Reckoner.cl A.n_Reckoner_own_space (dn 0)) (d_cons (dn 2) d_nil))))), ?_⟩
  rintro ds M Q Ed ⟨m, ps, x, y, k, rfl, hm, hy, q⟩
  refine ite2 (fun c => ?_) (fun c => ?_)
  · rw [show mnB m (wtc x) k y = relB m (wtc x) y from if_pos (of_decide_eq_true c)] at q
    exact ⟨rfl, _, rfl, ⟨rfl, rfl⟩, m, wtc x, y, rfl, hm, hy, q⟩
  · rw [show mnB m (wtc x) k y = isTab (m * endsN m (wtc x)) y from if_neg fun z => c (decide_eq_true z)] at q
    exact ⟨rfl, _, rfl, ⟨rfl, rfl⟩, m, wtc x, y, rfl, hm, hy, q⟩
def ctxP (m : Nat) (w : Bool) (ps : List Pr) (y : Da) : Bool := ctxB m w (ps.map Pr.tri) y
def zipK (p : (Str × Str) × Da) : Da := .tup [.str p.1.2, p.2]
theorem zip_kin : ∀ (own : List (Str × Str)) (vs : List Da), zipD (own.map fun p => Da.str p.2) vs = (own.zip vs).map zipK
  | [], _ => by simp [zipD]
  | _ :: _, [] => rfl
  | p :: own, v :: vs => congrArg (zipK (p, v) :: ·) (zip_kin own vs)
def spIsCtx (CR C Cp CS : Addr) : DSp := fun ds M Q _ => ∃ (m : Nat) (ps : List Pr) (x y : Da), ds = [Rk CR C Cp CS m ps x, y] ∧ PrgOk m ps ∧ pv y ∧ Q (.bl (ctxP m (wtc x) ps y)) M
theorem D_Reckoner_is_context {P : Program} {w : World} {K : PySem.W.Frag} {mg : Str → Option Value} {base : Heap} {C_Procedure : Addr} {C_Program : Addr} {C_Space : Addr} {C_Reckoner : Addr} {C_InvalidProgram : Addr} {C_InvalidOperation : Addr} (A : Facts K C_Procedure C_Program C_Space C_Reckoner C_InvalidProgram C_InvalidOperation) (M : MgOf K mg) (Z : Zs mg) (D_Program_has_name : KnMD P w K mg base C_Program "has_name" 1 ["self", "value"] (spHasG C_Program C_Procedure)) (D_Reckoner_is_meaning : KnMD P w K mg base C_Reckoner "is_meaning" 5 ["self", "kind", "value"] (spIsMean C_Reckoner C_Program C_Procedure C_Space)) : KnMD P w K mg base C_Reckoner "is_context" 6 ["self", "value"] (spIsCtx C_Reckoner C_Program C_Procedure C_Space) := by
  refine KnMD.of A.m_Reckoner_is_context sc_Reckoner_is_context (fun _ _ _ _ _ _ us hl => match us, hl with | [_, _], _ => rfl) (fun ds M Q E ⟨_, _, _, _, h, _⟩ => by rw [h]; rfl) (fun f cdv A0 outer s H E hr => ?_)
  have hu := U.hu_of hr
  have hu1 := U.hu1_of hr
  have nd := sc_Reckoner_is_context.nd
  refine ⟨_, (z_cons (z_if (d_w (d_or (d_tnot (d_tv (d_b Z.isinstance b_isinstance (c_disiK (K := K) rfl) (d_cons (dn 1) (d_cons (d_ty Z.tuple b_tuple) d_nil))))) (d_or (d_tcm (o_dne hu) (d_b Z.len b_len c_dlen (d_cons (dn 1) d_nil)) d_int) (d_or1 (d_tnot (d_tv (d_meth D_Program_has_name A.cls_Program.cl (hr.mono (by decide)) (d_fld A.cls_Reckoner.cl A.n_Reckoner_own_program (dn 0)) (d_cons (d_ix (dn 1) d_int) d_nil)))))))) (z_one (z_ret d_bl)) z_nil)
      (z_cons (z_set 2 nd (d_fld A.cls_Procedure.cl A.n_Procedure_own_kinds (d_dix hu (d_fld A.cls_Program.cl A.n_Program_own_table (d_fld A.cls_Reckoner.cl A.n_Reckoner_own_program (dn 0))) (d_ix (dn 1) d_int))))
      (z_cons (z_if (d_w (d_or (d_tnot (d_tv (d_b Z.isinstance b_isinstance (c_disiK (K := K) rfl) (d_cons (d_ix (dn 1) d_int) (d_cons (d_ty Z.tuple b_tuple) d_nil))))) (d_or1 (d_tcm (o_dne hu) (d_b Z.len b_len c_dlen (d_cons (d_ix (dn 1) d_int) d_nil)) (d_b Z.len b_len c_dlen (d_cons (dn 2) d_nil)))))) (z_one (z_ret d_bl)) z_nil)
      (z_one (z_ret (d_b Z.all b_all (c_dall rfl) (d_cons (d_lc (own := [("kind", 3), ("one", 4)]) (c := (.t [3, 4])) rfl nd (d_zip Z.zip (d_cons (dn 2) (d_cons (d_ix (dn 1) d_int) d_nil))) (blkOk_by (own := [("kind", 3), ("one", 4)]) (N := N_Reckoner_is_context) (sc := defScope s_Reckoner_is_context) (by decide +kernel)) (fun _ _ _ _ _ => (pg_tup rfl (pgs_cons (gn 3 nd) (pgs_cons (gn 4 nd) pgs_nil)))) (fun _ _ _ _ _ => d_ts0) (fun _ _ _ _ _ => (d_meth D_Reckoner_is_meaning A.cls_Reckoner.cl (hr.mono (by decide)) (dn 0) (d_cons (dn 3) (d_cons (dn 4) d_nil))))) d_nil))))))), ?_⟩
  rintro ds M Q Ed ⟨m, ps, x, y, rfl, hP, hy, q⟩
  have hm : OkN m := ⟨hP.m1, hP.m3⟩
  cases hy with
  | non => exact ⟨by decide, ifT (by decide) q⟩
  | bl b => exact ⟨by decide, ifT (by decide) q⟩
  | int b => exact ⟨by decide, ifT (by decide) q⟩
  | str b => exact ⟨by decide, ifT (by decide) q⟩
  | lst b => exact ⟨by decide, ifT (by decide) q⟩
  | dct b => exact ⟨by decide, ifT (by decide) q⟩
  | tup xs hl hx =>
    refine ⟨by decide, ifF (by decide) ?_⟩
    have no : ctxP m (wtc x) ps (.tup xs) = false → Q (.bl false) M := fun e => by rw [e] at q; exact q
    match xs, hl, hx, q, no with
    | [], _, _, q, no => exact no rfl
    | [_], _, _, q, no => exact no rfl
    | _ :: _ :: _ :: xs, _, _, q, no => exact no rfl
    | [a, b], hl, hx, q, no =>
      have ha := hx a List.mem_cons_self
      have hb := hx b (List.mem_cons_of_mem _ List.mem_cons_self)
      refine ⟨rfl, _, rfl, ⟨rfl, rfl⟩, a, at0, m, ps, a, rfl, hP, ?_⟩
      have nms : (ps.map Pr.tri).map (·.1) = ps.map Pr.nm := by rw [List.map_map]; rfl
      have bad : (∀ z, a ≠ .str z) → ctxP m (wtc x) ps (.tup [a, b]) = false := fun h => by
        cases a with
        | str z => exact absurd rfl (h z)
        | _ => rfl
      by_cases hz : ∃ z, a = .str z
      · obtain ⟨z, rfl⟩ := hz
        refine .inl ⟨z, rfl, ?_⟩
        by_cases hn : z ∈ ps.map Pr.nm
        · rw [decide_eq_true hn]
          refine ifF (by decide) ?_
          obtain ⟨r, hr, rfl⟩ := List.mem_map.mp hn
          refine ⟨rfl, _, rfl, rfl, _, rfl, .str r.nm, at0, .inr r.nm, r.da C_Procedure, rfl, tbl_some hP.nd hr, rfl, _, rfl, ?_⟩
          refine ⟨b, at1, ?_⟩
          cases hb with
          | non => exact ⟨by decide, ifT (by decide) (no rfl)⟩
          | bl _ => exact ⟨by decide, ifT (by decide) (no rfl)⟩
          | int _ => exact ⟨by decide, ifT (by decide) (no rfl)⟩
          | lst _ => exact ⟨by decide, ifT (by decide) (no rfl)⟩
          | str _ => exact ⟨by decide, ifT (by decide) (no rfl)⟩
          | dct _ => exact ⟨by decide, ifT (by decide) (no rfl)⟩
          | tup vs hvl hvx =>
            refine ⟨by decide, ifF (by decide) ?_⟩
            have lo := (hP.ok r hr).ok.ow.len
            have pl : (r.own.map fun p : Str × Str => Da.str p.2).length = r.own.length := List.length_map _
            have hw : ownOf (ps.map Pr.tri) r.nm = r.own := own_at (r := r.tri) (by rw [nms]; exact hP.nd) (List.mem_map_of_mem hr)
            have qe : ctxP m (wtc x) ps (.tup [.str r.nm, .tup vs]) = (decide (vs.length = r.own.length) && (r.own.zip vs).all fun p => mnB m (wtc x) p.1.2 p.2) := by
              show (decide (r.nm ∈ (ps.map Pr.tri).map (·.1)) && (decide (vs.length = (ownOf (ps.map Pr.tri) r.nm).length) && ((ownOf (ps.map Pr.tri) r.nm).zip vs).all _)) = _
              rw [nms, decide_eq_true hn, Bool.true_and, hw]
            rw [qe] at q no
            refine ⟨.tup vs, at1, ?_⟩
            cases c : decide (vs.length = r.own.length) with
            | false =>
              refine ifT ?_ (no (by rw [c]; rfl))
              rw [Bool.not_eq_true']
              exact decide_eq_false fun z => of_decide_eq_false c (by have z' : ((vs.length : Nat) : Int) = ((r.own.map fun p : Str × Str => Da.str p.2).length : Nat) := z; rw [pl] at z'; omega)
            | true =>
              have hl' : vs.length = r.own.length := of_decide_eq_true c
              rw [c, Bool.true_and] at q
              refine ifF ?_ ?_
              · rw [Bool.not_eq_true', Bool.not_eq_false]
                exact decide_eq_true (show ((vs.length : Nat) : Int) = ((r.own.map fun p : Str × Str => Da.str p.2).length : Nat) by rw [pl]; omega)
              refine ⟨.tup vs, at1, ?_⟩
              show Sz (zipD (r.own.map fun p : Str × Str => Da.str p.2) vs).length ∧ lcD _ _ _ _ (zipD (r.own.map fun p : Str × Str => Da.str p.2) vs) _ _
              rw [zip_kin]
              refine ⟨sz (by rw [List.length_map, List.length_zip]; omega), ?_⟩
              refine lcD_all (fun p : (Str × Str) × Da => Da.bl (mnB m (wtc x) p.1.2 p.2)) (fun _ _ => rfl) (fun p hp Q q => ?_) ⟨_, asBls_fun _ _, ?_⟩
              · obtain ⟨h1, h2⟩ := List.of_mem_zip hp
                exact ⟨⟨rfl, rfl⟩, m, ps, x, p.2, p.1.2, rfl, hm, hvx p.2 h2, q⟩
              · rw [List.all_map]
                exact q
        · rw [decide_eq_false hn]
          refine ifT (by decide) (no ?_)
          show ctx2 m (wtc x) (ps.map Pr.tri) z b = false
          cases b <;> first | rfl | (show (decide (z ∈ (ps.map Pr.tri).map (·.1)) && _) = false; rw [nms, decide_eq_false hn]; rfl)
      · have hz' : ∀ z, a ≠ .str z := fun z e => hz ⟨z, e⟩
        exact .inr (.inr ⟨ha, hz', ifT (by decide) (no (bad hz'))⟩)
def spCtx (C Cp : Addr) : DSp := fun ds M Q _ => ∃ (m : Nat) (ps : List Pr) (y x : Da), ds = [Prg C Cp m ps, y, x] ∧ PrgOk m ps ∧ WdOk x ∧ pv y ∧ Q (.bl (ctxP m (wtc x) ps y)) M
section
variable {P : Program} {w : World} {K : PySem.W.Frag} {mg : Str → Option Value} {base : Heap} {C_Procedure : Addr} {C_Program : Addr} {C_Space : Addr} {C_Reckoner : Addr} {C_InvalidProgram : Addr} {C_InvalidOperation : Addr}
theorem D_is_context (A : Facts K C_Procedure C_Program C_Space C_Reckoner C_InvalidProgram C_InvalidOperation) (M : MgOf K mg) (Z : Zs mg) (D_reckoner_of : KnD P w K mg base "reckoner_of" 7 ["program", "word"] (spRkOf C_Reckoner C_Program C_Procedure C_Space)) (D_Reckoner_is_context : KnMD P w K mg base C_Reckoner "is_context" 6 ["self", "value"] (spIsCtx C_Reckoner C_Program C_Procedure C_Space)) : KnDK P w K mg base "is_context" 13 ["program", "value", "word"] 2 ["word"] [.non] (spCtx C_Program C_Procedure) := by
  refine KnDK.of A.d_is_context M sc_is_context (by decide) rfl (fun D doc pm an cdv ct us zs l1 l2 => match us, l1, zs, l2 with | [_, _], _, [_], _ => ⟨_, _, _, _, _, _, rfl, rfl, rfl⟩)
    (fun D doc pm an cdv ct us ws l1 l2 => match us, l1, ws, l2 with | [_, _], _, [_], _ => rfl) (fun ds M Q E ⟨_, _, _, _, h, _⟩ => by rw [h]; rfl) (fun f cdv A0 outer s H E hr => ?_)
  have hu := U.hu_of hr
  have hu1 := U.hu1_of hr
  have nd := sc_is_context.nd
  refine ⟨_, (z_one (z_ret (d_meth D_Reckoner_is_context A.cls_Reckoner.cl (hr.mono (by decide)) (d_call D_reckoner_of (hr.mono (by decide)) (d_cons (dn 0) (d_cons (dn 2) d_nil))) (d_cons (dn 1) d_nil)))), ?_⟩
  rintro ds M Q Ed ⟨m, ps, y, x, rfl, hP, hx, hy, q⟩
  exact ⟨m, ps, x, rfl, ⟨hP.m1, hP.m3⟩, hx, ⟨rfl, rfl⟩, m, ps, x, y, rfl, hP, hy, q⟩
end

end K28
set_option Elab.async false
set_option linter.all false
set_option maxRecDepth 100000
namespace U
open PySem PySem.Spec PyProof.Rows L2
variable {X : Cx}
def hAddR : D2 := fun x y M Q => match x with
  | .lst xs => lstK y M fun ys => Sz (xs.length + ys.length) ∧ ∀ p, M p = none → Q (.ref p) (mput M p (.lst (xs ++ ys)))
  | .ref p => ∃ xs, M p = some (.lst xs) ∧ lstK y M fun ys => Sz (xs.length + ys.length) ∧ ∀ p, M p = none → Q (.ref p) (mput M p (.lst (xs ++ ys)))
  | _ => False
theorem o_daddR : DO X (binaryOp .Add) hAddR := do_imp fun x y H Q ⟨F, W, M, d, e, Qd, r1, r2, s, h, k⟩ => by
  unfold hAddR at h
  split at h
  · cases r1 with
    | lst hs rv =>
      obtain ⟨b, ws, ds, rfl, ht, rw_, hz, q⟩ := lst_of s r2 h
      exact ⟨_, op_catL, _, b, _, ws, rfl, rfl, hs.sq, ht, by rw [rv.length, rw_.length]; exact hz.ok, fun p hp => k.newM s hp (rv.append rw_) q⟩
  · cases r1
    obtain ⟨xs, hm, h⟩ := h
    obtain ⟨a, vs, ds, e1, hs, rv, hz, q⟩ := lst_of (k := fun ds => ds = xs ∧ lstK e M fun ys => Sz (ds.length + ys.length) ∧ ∀ p, M p = none → Qd (.ref p) (mput M p (.lst (ds ++ ys)))) s (.ref _) ⟨xs, hm, rfl, h⟩
    cases e1
    obtain ⟨b, ws, es, rfl, ht, rw_, hz2, q2⟩ := lst_of s r2 q
    exact ⟨_, op_catL, _, b, _, ws, rfl, rfl, hs, ht, by rw [rv.length, rw_.length]; exact hz2.ok, fun p hp => k.newM s hp (rv.append rw_) q2⟩
  · exact h.elim
end U
set_option Elab.async false
set_option linter.all false
set_option maxRecDepth 100000
set_option maxHeartbeats 4000000


namespace K28
open PySem PySem.Spec PyProof.Rows L2 U
set_option pp.deepTerms false
set_option pp.deepTerms.threshold 12
set_option pp.maxSteps 800
theorem rep_flat (y : Da) : ∀ n : Nat, (List.replicate n [y]).flatten = List.replicate n y
  | 0 => rfl
  | n + 1 => by
    rw [List.replicate_succ, List.flatten_cons, rep_flat y n, List.replicate_succ]; rfl
theorem rep_pv {y : Da} {n : Nat} (h : pv y) (hn : n ≤ 5000) : pv (.tup (List.replicate n [y]).flatten) ∧ pv (.lst (List.replicate n [y]).flatten) := by
  rw [rep_flat]
  exact ⟨.tup _ (by rw [List.length_replicate]; exact hn) fun v hv => by rw [List.eq_of_mem_replicate hv]; exact h, .lst _ (by rw [List.length_replicate]; exact hn) fun v hv => by rw [List.eq_of_mem_replicate hv]; exact h⟩
theorem cut_sub (ws : List Da) (a b : Option Int) : (U.cutD ws a b).Sublist ws := by
  unfold U.cutD
  exact (List.take_sublist _ _).trans (List.drop_sublist _ _)
def spValues : DSp := fun ds M Q _ => ∃ d m rs x, ds = [.ref d, codeD m rs x] ∧ Die d M ∧ PlOk m rs ∧ ∀ vs M', (∀ v ∈ vs, pv v) → vs.length ≤ 2000 → Die d M' → Km d M M' → Q (.lst vs) M'
theorem D__law_values {P : Program} {w : World} {K : PySem.W.Frag} {mg : Str → Option Value} {base : Heap} {C_Procedure : Addr} {C_Program : Addr} {C_Space : Addr} {C_Reckoner : Addr} {C_InvalidProgram : Addr} {C_InvalidOperation : Addr} (A : Facts K C_Procedure C_Program C_Space C_Reckoner C_InvalidProgram C_InvalidOperation) (M : MgOf K mg) (Z : Zs mg) (D__law_deal : KnD P w K mg base "_law_deal" 1 ["_law_sack_here", "_law_size"] spCast) (D__law_pick : KnD P w K mg base "_law_pick" 2 ["_law_sack_here", "_law_items"] spPick) : KnD P w K mg base "_law_values" 3 ["_law_sack_here", "_law_code_here"] spValues := by
  refine KnD.of A.d__law_values M sc__law_values (fun _ _ _ _ _ _ us hl => match us, hl with | [_, _], _ => rfl) (fun ds M Q E ⟨_, _, _, _, h, _⟩ => by rw [h]; rfl) (fun f cdv A0 outer s H E hr => ?_)
  have hu := U.hu_of hr
  have hu1 := U.hu1_of hr
  have nd := sc__law_values.nd
  refine ⟨_, (z_cons (z_set 2 nd (d_ix (d_ix (d_dix hu (dn 1) d_str) d_int) (d_neg d_int)))
      (z_cons (z_set 3 nd (d_lstM (d_cons d_non (d_cons d_int (d_cons (d_tup d_nil) (d_cons d_str (d_cons (d_tup (d_cons d_str d_nil)) (d_cons (d_tup (d_cons d_str (d_cons (d_tup d_nil) d_nil))) (d_cons (d_lst (d_cons d_str (d_cons (d_tup d_nil) d_nil))) (d_cons (d_tup (d_cons d_str (d_cons (d_tup d_nil) d_nil))) (d_cons (d_tup (d_cons d_str (d_cons (d_lst d_nil) d_nil))) d_nil)))))))))))
      (z_cons (z_for PassesOwn.never rfl (d_it (d_b Z.sorted b_sorted (c_dsortD rfl) (d_cons (d_dix hu (dn 1) d_str) d_nil))) (t_n 4 nd) (z_cons (z_set 5 nd (d_lstM d_nil))
      (z_cons (z_for PassesOwn.never rfl (d_it (d_ix (d_dix hu (d_dix hu (dn 1) d_str) (dn 4)) d_int)) (t_tup rfl (t_cons (t_n 6 nd) (t_cons (t_n 7 nd) t_nil))) (z_cons (z_set 8 nd (d_call D__law_deal (hr.mono (by decide)) (d_cons (dn 0) (d_cons (dn 2) d_nil))))
      (z_one (z_expr (d_append (dn 5) (d_cons (d_if (d_tcm (o_deq hu) (dn 7) d_str) (dn 8) (d_op o_dmulB (d_tup (d_cons (dn 8) d_nil)) (dn 2))) d_nil))))))
      (z_cons (z_stlV 5 (z_set 3 nd (d_op o_daddR (dn 3) (d_lst (d_cons (d_tup (d_cons (dn 4) (d_cons (d_t Z.tuple b_tuple c_dtuple (d_cons (dn 5) d_nil)) d_nil))) (d_cons (d_tup (d_cons (dn 4) (d_cons (d_op o_dadd (d_t Z.tuple b_tuple c_dtuple (d_cons (dn 5) d_nil)) (d_tup (d_cons d_int d_nil))) d_nil))) (d_cons (d_tup (d_cons (dn 4) (d_cons (d_t Z.tuple b_tuple c_dtuple (d_cons (d_sl (dn 5) (d_psome d_int) d_pnone) d_nil)) d_nil))) (d_cons (d_tup (d_cons (dn 4) (d_cons (dn 5) d_nil))) d_nil))))))))
      (z_cons (z_set 3 nd (d_op o_daddR (dn 3) (d_lst (d_cons (d_tup (d_cons (dn 4) (d_cons (d_t Z.tuple b_tuple c_dtuple (d_cons (dn 5) d_nil)) (d_cons d_int d_nil)))) (d_cons (d_tup (d_cons d_str (d_cons (d_t Z.tuple b_tuple c_dtuple (d_cons (dn 5) d_nil)) d_nil))) (d_cons (d_tup (d_cons d_int (d_cons (d_t Z.tuple b_tuple c_dtuple (d_cons (dn 5) d_nil)) d_nil))) (d_cons (d_t Z.tuple b_tuple c_dtuple (d_cons (dn 5) d_nil)) d_nil)))))))
      (z_cons (z_set 9 nd (d_lst (d_cons (dn 2) (d_cons (d_neg d_int) (d_cons d_non (d_cons d_bl (d_cons d_str (d_cons (d_tup d_nil) (d_cons (d_op o_dmulB (d_tup (d_cons d_int d_nil)) (dn 2)) (d_cons (d_op o_dmulB (d_tup (d_cons d_int d_nil)) (d_op o_dsub (dn 2) d_int)) (d_cons (d_op o_dmulB (d_tup (d_cons (dn 2) d_nil)) (dn 2)) (d_cons (d_op o_dmulB (d_lst (d_cons d_int d_nil)) (dn 2)) d_nil))))))))))))
      (z_cons (z_set 9 nd (d_call D__law_pick (hr.mono (by decide)) (d_cons (dn 0) (d_cons (dn 9) d_nil))))
      (z_one (z_if (d_tcm (o_dneL hu) (dn 5) (d_lst d_nil)) (z_cons (z_set 10 nd (d_call D__law_deal (hr.mono (by decide)) (d_cons (dn 0) (d_cons (d_b Z.len b_len c_dlen (d_cons (dn 5) d_nil)) d_nil))))
      (z_one (z_expr (d_append (dn 3) (d_cons (d_tup (d_cons (dn 4) (d_cons (d_op o_dadd (d_op o_dadd (d_t Z.tuple b_tuple c_dtuple (d_cons (d_sl (dn 5) d_pnone (d_psome (dn 10))) d_nil)) (d_tup (d_cons (dn 9) d_nil))) (d_t Z.tuple b_tuple c_dtuple (d_cons (d_sl (dn 5) (d_psome (d_op o_dadd (dn 10) d_int)) d_pnone) d_nil))) d_nil))) d_nil))))) z_nil)))))))))
      (z_one (z_retF (d_stl (dn 3))))))), ?_⟩
  rintro ds M Q Ed ⟨d, m, rs, x, rfl, hd, hP, q⟩
  have hm : OkN m := ⟨hP.m1, hP.m3⟩
  obtain ⟨e1, e2, e3⟩ := E_le (w := wtc x) hm
  have hN0 : 2 ≤ 2 ^ (m * endsN m (wtc x)) := Nat.pow_le_pow_right (n := 2) (by decide) (i := 1) (j := m * endsN m (wtc x)) (Nat.mul_pos hm.1 (Nat.le_trans hm.1 e1))
  have hN1 : 2 ^ (m * endsN m (wtc x)) ≤ 4096 := Nat.pow_le_pow_right (n := 2) (by decide) (i := m * endsN m (wtc x)) (j := 12) e3
  refine ⟨.inr "space", spaD m (wtc x), rfl, rfl, .lst (pows (m * endsN m (wtc x))), at2, _, pows_last _, ?_⟩
  generalize 2 ^ (m * endsN m (wtc x)) = N at hN0 hN1
  repeat refine ⟨rfl, ?_⟩
  intro f0 hf0
  have f0d := die_ne hd hf0
  refine ⟨.inr "procs", .dct (procsD rs), rfl, rfl, rs.map (·.1), (by unfold procsD; rw [List.map_map, List.map_map]; rfl), by rw [List.length_map]; have := hP.len; omega, fun ys hys hso => ?_⟩
  have lY : ys.length ≤ 5 := by rw [hys.length_eq, List.length_map]; exact hP.len
  refine forD_map (f := Da.str) (l := ys) (fun l δ M' => (∃ u4 u5 u6 u7 u8 u9 u10 f, δ = [some (.ref d), some (codeD m rs x), some (.int (N : Nat)), some (.ref f), u4, u5, u6, u7, u8, u9, u10] ∧ M f = none ∧
    ∃ vs, M' f = some (.lst vs) ∧ (∀ v ∈ vs, pv v) ∧ vs.length + 9 * l.length ≤ 60) ∧ Die d M' ∧ Kx d M M' ∧ ∀ z ∈ l, z ∈ rs.map (·.1)) ?_ ?_ ?_
  · rintro z l δ M1 ⟨⟨u4, u5, u6, u7, u8, u9, u10, f, rfl, hf, vs, hmf, hvs, hvl⟩, hd1, kx1, hzl⟩ next
    obtain ⟨r, hr, rfl⟩ := List.mem_map.mp (hzl z List.mem_cons_self)
    have hv := procs_some hP.nd hr
    obtain ⟨hnm, how, hol⟩ := hP.ok r hr
    refine ⟨rfl, fun p hp => ?_⟩
    have hpd := die_ne hd1 hp
    have hpf : f ≠ p := fun e => by rw [← e, hmf] at hp; cases hp
    have hMp := kx_none kx1 hp hpd
    have hfd : f ≠ d := fun e => by obtain ⟨a, b, c, q⟩ := hd; rw [← e, hf] at q; cases q
    refine ⟨.inr "procs", .dct (procsD rs), rfl, rfl, .inr r.1, _, rfl, hv, parD r.2.1, at0, ?_⟩
    refine forD_map (f := fun p : Str × Str => Da.tup [.str p.1, .str p.2]) (l := r.2.1) (fun l δ M' => (∃ u6 u7 u8 u9 u10, δ = [some (.ref d), some (codeD m rs x), some (.int (N : Nat)), some (.ref f), some (.str r.1), some (.ref p), u6, u7, u8, u9, u10]) ∧ M' f = some (.lst vs) ∧
      (∃ ws, M' p = some (.lst ws) ∧ (∀ v ∈ ws, pv v) ∧ ws.length + l.length = r.2.1.length) ∧ Die d M' ∧ Kx d M M') ?_ ?_ ⟨⟨_, _, _, _, _, rfl⟩, by rw [mput_ne hpf]; exact hmf, ⟨[], mput_same, (fun _ h => nomatch h), by rw [List.length_nil, Nat.zero_add]⟩, hd1.put hpd, kx1.put hp⟩
    · rintro k l δ M2 ⟨⟨u6, u7, u8, u9, u10, rfl⟩, hmf2, ⟨ws, hmp, hws, hwl⟩, hd2, kx2⟩ next2
      refine ⟨rfl, d, N, rfl, hd2, by omega, by omega, fun o M3 ho hd3 km3 => ?_⟩
      have hmp3 : M3 p = some (.lst ws) := by rw [km3 p hpd]; exact hmp
      have hmf3 : M3 f = some (.lst vs) := by rw [km3 f hfd]; exact hmf2
      have pw : ∀ y, pv y → ∀ v ∈ ws ++ [y], pv v := fun y hy v hv => by
        rcases List.mem_append.mp hv with h | h
        · exact hws v h
        · rw [List.mem_singleton.mp h]; exact hy
      have lw : ∀ y : Da, (ws ++ [y]).length + l.length = r.2.1.length := fun y => by
        rw [List.length_append, List.length_singleton]
        rw [List.length_cons] at hwl
        omega
      have lw2 : ws.length ≤ 2 := by omega
      refine ⟨⟨p, _, rfl, hmp3⟩, ite2 (fun c => ?_) (fun c => ?_)⟩
      · exact ⟨_, hmp3, sz (by omega), next2 _ _ ⟨⟨_, _, _, _, _, rfl⟩, by rw [mput_ne hpf]; exact hmf3, ⟨_, mput_same, pw _ (.int _), lw _⟩, hd3.put hpd, (kx2.trans km3.kx).chg hMp⟩⟩
      · refine ⟨rfl, by simp, by omega, by omega, (show 1 ≤ 100 by decide), ?_⟩
        exact ⟨_, hmp3, sz (by omega), next2 _ _ ⟨⟨_, _, _, _, _, rfl⟩, by rw [mput_ne hpf]; exact hmf3, ⟨_, mput_same, pw _ (rep_pv (.int _) (by omega)).1, lw _⟩, hd3.put hpd, (kx2.trans km3.kx).chg hMp⟩⟩
    · rintro δ M2 ⟨⟨u6, u7, u8, u9, u10, rfl⟩, hmf2, ⟨ws, hmp, hws, hwl⟩, hd2, kx2⟩
      rw [List.length_nil, Nat.add_zero] at hwl
      have w2 : ws.length ≤ 2 := by omega
      refine ⟨p, ws, rfl, hmp, ?_⟩
      have hmf3 : mdel M2 p f = some (.lst vs) := by rw [mdel_ne hpf]; exact hmf2
      have hd3 := hd2.del hpd
      have kx3 := kx2.del hMp
      generalize mdel M2 p = M3 at hmf3 hd3 kx3
      refine ⟨rfl, rfl, sz (by rw [List.length_singleton]; omega), rfl, rfl, rfl, rfl, vs, hmf3, sz ?_, fun f2 hf2 => ?_⟩
      · show vs.length + 4 ≤ 1000000
        omega
      have hf2d := die_ne hd3 hf2
      have hMf2 := kx_none kx3 hf2 hf2d
      refine ⟨rfl, rfl, rfl, rfl, _, mput_same, sz ?_, fun f3 hf3 => ?_⟩
      · rw [List.length_append]
        show vs.length + 4 + 4 ≤ 1000000
        omega
      have hf3d : f3 ≠ d := die_ne (hd3.put hf2d) hf3
      have hf32 : f2 ≠ f3 := fun e => by rw [← e, mput_same] at hf3; cases hf3
      have hMf3 : M f3 = none := kx_none (kx3.put hf2) hf3 hf3d
      have pt : pv (.tup ws) := .tup _ (by omega) hws
      refine ⟨rfl, rfl, by simp, by omega, by omega, (show 1 ≤ 100 by decide), rfl, by simp, by omega, by omega, (show 1 ≤ 100 by decide), rfl, by simp, by omega, by omega, (show 1 ≤ 100 by decide), rfl, by omega, by omega, (show 1 ≤ 100 by decide), rfl, ?_⟩
      refine ⟨d, _, rfl, (hd3.put hf2d).put hf3d, by simp, (show 10 < 1000000 by decide), fun y M5 hy hd5 km5 => ?_⟩
      have hpy : pv y := by
        simp only [List.mem_cons, List.not_mem_nil, or_false] at hy
        rcases hy with rfl | rfl | rfl | rfl | rfl | rfl | rfl | rfl | rfl | rfl
        · exact .int _
        · exact .int _
        · exact .non
        · exact .bl _
        · exact .str _ (by decide +kernel)
        · exact .tup _ (by decide) fun _ h => nomatch h
        · exact (rep_pv (.int _) (by omega)).1
        · exact (rep_pv (.int _) (by omega)).1
        · exact (rep_pv (.int _) (by omega)).1
        · exact (rep_pv (.int _) (by omega)).2
      have h5 := (km5 f3 hf3d).trans mput_same
      have kx5 := ((kx3.put hf2).put hf3).trans km5.kx
      have pn : pv (.str r.1) := .str _ (nameZ_len hnm)
      have p2 : ∀ {a b : Da}, pv a → pv b → pv (.tup [a, b]) := fun {a b} ha hb => .tup _ (show 2 ≤ 5000 by decide) (all2 ha hb)
      have hpA : ∀ v ∈ (vs ++ [Da.tup [.str r.1, .tup ws], .tup [.str r.1, .tup (ws ++ [.int 0])], .tup [.str r.1, .tup (U.cutD ws (some 1) none)], .tup [.str r.1, .lst ws]]) ++ [Da.tup [.str r.1, .tup ws, .int 0], .tup [.str "nobody", .tup ws], .tup [.int 0, .tup ws], .tup ws], pv v := fun v hv => by
        rcases List.mem_append.mp hv with hv | hv
        · rcases List.mem_append.mp hv with hv | hv
          · exact hvs v hv
          · simp only [List.mem_cons, List.not_mem_nil, or_false] at hv
            rcases hv with rfl | rfl | rfl | rfl
            · exact p2 pn pt
            · refine p2 pn (.tup _ (by rw [List.length_append, List.length_singleton]; omega) fun v hv => ?_)
              rcases List.mem_append.mp hv with h | h
              · exact hws v h
              · rw [List.mem_singleton.mp h]; exact .int _
            · refine p2 pn (.tup _ ?_ fun v hv => hws v ?_)
              · exact Nat.le_trans (cut_sub ws _ _).length_le (by omega)
              · exact (cut_sub ws _ _).subset hv
            · exact p2 pn (.lst _ (by omega) hws)
        · simp only [List.mem_cons, List.not_mem_nil, or_false] at hv
          rcases hv with rfl | rfl | rfl | rfl
          · exact .tup _ (show 3 ≤ 5000 by decide) (all3 pn pt (.int _))
          · exact p2 (.str _ (by decide +kernel)) pt
          · exact p2 (.int _) pt
          · exact pt
      have hlA : ((vs ++ [Da.tup [.str r.1, .tup ws], .tup [.str r.1, .tup (ws ++ [.int 0])], .tup [.str r.1, .tup (U.cutD ws (some 1) none)], .tup [.str r.1, .lst ws]]) ++ [Da.tup [.str r.1, .tup ws, .int 0], .tup [.str "nobody", .tup ws], .tup [.int 0, .tup ws], .tup ws]).length = vs.length + 8 := by
        rw [List.length_append, List.length_append]; rfl
      have hzl' : ∀ z ∈ l, z ∈ rs.map (·.1) := fun z hz => hzl z (List.mem_cons_of_mem _ hz)
      rw [List.length_cons] at hvl
      generalize (vs ++ [Da.tup [.str r.1, .tup ws], .tup [.str r.1, .tup (ws ++ [.int 0])], .tup [.str r.1, .tup (U.cutD ws (some 1) none)], .tup [.str r.1, .lst ws]]) ++ [Da.tup [.str r.1, .tup ws, .int 0], .tup [.str "nobody", .tup ws], .tup [.int 0, .tup ws], .tup ws] = A at h5 hpA hlA
      refine ⟨rfl, ite2 (fun c => ?_) (fun c => ?_)⟩
      · have hne : 0 < ws.length := by
          cases ws with
          | nil => cases c
          | cons w ws => exact Nat.succ_pos _
        refine ⟨d, ws.length, rfl, hd5, hne, by omega, fun t M6 ht hd6 km6 => ?_⟩
        have h6 := (km6 f3 hf3d).trans h5
        have kx6 := kx5.trans km6.kx
        have hA := cut_sub ws none (some (t : Int))
        have hB := cut_sub ws (some ((t : Int) + 1)) none
        refine ⟨⟨f3, _, rfl, h6⟩, rfl, ?_⟩
        refine ⟨sz (by have := hA.length_le; rw [List.length_singleton]; omega), sz (by have := hA.length_le; have := hB.length_le; rw [List.length_append, List.length_singleton]; omega), rfl, A, h6, sz (by omega), ?_⟩
        refine next _ _ ⟨⟨_, _, _, _, _, _, _, f3, rfl, hMf3, _, mput_same, fun v hv => ?_, by rw [List.length_append, List.length_singleton]; omega⟩, hd6.put hf3d, kx6.chg hMf3, hzl'⟩
        rcases List.mem_append.mp hv with hv | hv
        · exact hpA v hv
        · rw [List.mem_singleton.mp hv]
          refine p2 pn (.tup _ (by have := hA.length_le; have := hB.length_le; rw [List.length_append, List.length_append, List.length_singleton]; omega) fun v hv => ?_)
          rcases List.mem_append.mp hv with hv | hv
          · rcases List.mem_append.mp hv with hv | hv
            · exact hws v (hA.subset hv)
            · rw [List.mem_singleton.mp hv]; exact hpy
          · exact hws v (hB.subset hv)
      · exact next _ _ ⟨⟨_, _, _, _, _, _, _, f3, rfl, hMf3, A, h5, hpA, by omega⟩, hd5, kx5, hzl'⟩
  · rintro δ M1 ⟨⟨u4, u5, u6, u7, u8, u9, u10, f, rfl, hf, vs, hmf, hvs, hvl⟩, hd1, kx1, hzl⟩
    have hfd : f ≠ d := fun e => by obtain ⟨a, b, c, q⟩ := hd; rw [← e, hf] at q; cases q
    obtain ⟨M2, s1, h2, k2⟩ := die_back (hd1.del hfd) (kx1.del hf)
    exact ⟨_, hmf, M2, s1, q vs M2 hvs (by omega) h2 k2⟩
  · refine ⟨⟨_, _, _, _, _, _, _, f0, rfl, hf0, _, mput_same, fun v hv => ?_, by rw [show List.length _ = 9 from rfl]; omega⟩, hd.put f0d, Kx.refl.put hf0, fun z hz => hys.subset hz⟩
    exact pvs_of (by decide +kernel) v hv

end K28
set_option Elab.async false
set_option linter.all false
set_option maxRecDepth 100000
set_option maxHeartbeats 4000000


namespace K28
open PySem PySem.Spec PyProof.Rows L2 U
set_option pp.deepTerms false
set_option pp.deepTerms.threshold 12
set_option pp.maxSteps 800
def spRightS : DSp := fun ds M Q _ => ∃ d, ds = [.ref d] ∧ Die d M ∧ ∀ M', Die d M' → Km d M M' → Q (.bl true) M'
theorem D__law_right {P : Program} {w : World} {K : PySem.W.Frag} {mg : Str → Option Value} {base : Heap} {C_Procedure : Addr} {C_Program : Addr} {C_Space : Addr} {C_Reckoner : Addr} {C_InvalidProgram : Addr} {C_InvalidOperation : Addr} (A : Facts K C_Procedure C_Program C_Space C_Reckoner C_InvalidProgram C_InvalidOperation) (M : MgOf K mg) (Z : Zs mg) (D__law_plain : KnD P w K mg base "_law_plain" 21 ["_law_sack_here"] spPlain) (D__law_made : KnD P w K mg base "_law_made" 25 ["_law_plain_here"] (spMade C_Program C_Procedure)) (D__law_pick : KnD P w K mg base "_law_pick" 2 ["_law_sack_here", "_law_items"] spPick) (D__law_code : KnD P w K mg base "_law_code" 3 ["_law_plain_here", "_law_word"] spCode) (D__law_values : KnD P w K mg base "_law_values" 3 ["_law_sack_here", "_law_code_here"] spValues) (D_is_context : KnDK P w K mg base "is_context" 13 ["program", "value", "word"] 2 ["word"] [.non] (spCtx C_Program C_Procedure)) (D__law_due : KnD P w K mg base "_law_due" 3 ["_law_code_here", "_law_value"] spDueL) : KnD P w K mg base "_law_right" 26 ["_law_sack_here"] spRightS := by
  refine KnD.of A.d__law_right M sc__law_right (fun _ _ _ _ _ _ us hl => match us, hl with | [_], _ => rfl) (fun ds M Q E ⟨_, h, _⟩ => by rw [h]; rfl) (fun f cdv A0 outer s H E hr => ?_)
  have hu := U.hu_of hr
  have hu1 := U.hu1_of hr
  have nd := sc__law_right.nd
  refine ⟨_, (z_cons (z_set 1 nd (d_call D__law_plain (hr.mono (by decide)) (d_cons (dn 0) d_nil)))
      (z_cons (ps_imp (ps_par (i := 2) (j := 3) rfl nd rfl rfl (by decide) rfl rfl (d_cons (d_call D__law_made (hr.mono (by decide)) (d_cons (dn 1) d_nil)) (d_cons (d_call D__law_pick (hr.mono (by decide)) (d_cons (dn 0) (d_cons (d_lst (d_cons d_non (d_cons d_str (d_cons d_str d_nil)))) d_nil))) d_nil)) (by rfl)) fun _ _ _ h => li_par h)
      (z_cons (z_set 4 nd (d_call D__law_code (hr.mono (by decide)) (d_cons (dn 1) (d_cons (dn 3) d_nil))))
      (z_cons (z_for PassesOwn.never rfl (d_it (d_call D__law_values (hr.mono (by decide)) (d_cons (dn 0) (d_cons (dn 4) d_nil)))) (t_n 5 nd) (z_one (z_if (d_tcm (o_dneS hu) (d_b Z.repr b_repr c_drepr (d_cons (d_callK D_is_context (hr.mono (by decide)) (d_cons (dn 2) (d_cons (dn 5) d_nil)) (d_kcons (dn 3) d_knil)) d_nil)) (d_b Z.repr b_repr c_drepr (d_cons (d_call D__law_due (hr.mono (by decide)) (d_cons (dn 4) (d_cons (dn 5) d_nil))) d_nil))) (z_one (z_ret d_bl)) z_nil)))
      (z_one (z_ret d_bl)))))), ?_⟩
  rintro ds M Q Ed ⟨d, rfl, hd, q⟩
  refine ⟨d, rfl, hd, fun m rs M1 hP hd1 km1 => ⟨m, rs, rfl, hP, fun ps hps hG => ⟨rfl, d, _, rfl, hd1, by decide, by decide, fun x M2 hx hd2 km2 => ?_⟩⟩⟩
  have hW : WdOk x := by
    simp only [List.mem_cons, List.not_mem_nil, or_false] at hx
    rcases hx with h | h | h
    · exact .inl h
    · exact .inr ⟨_, h, by decide +kernel⟩
    · exact .inr ⟨_, h, by decide +kernel⟩
  refine ⟨m, rs, x, rfl, hP, hW, d, m, rs, x, rfl, hd2, hP, fun vs M3 hvs hvl hd3 km3 => ?_⟩
  refine forD_ind (fun l δ M' => M' = M3 ∧ (∃ u, δ = [some (.ref d), some (plD' m rs), some (Prg C_Program C_Procedure m ps), some x, some (codeD m rs x), u]) ∧ ∀ v ∈ l, pv v) ?_ ?_ ⟨rfl, ⟨_, rfl⟩, hvs⟩
  · rintro v l δ M' ⟨rfl, ⟨u, rfl⟩, hl⟩ next
    have hv := hl v List.mem_cons_self
    refine ⟨rfl, rfl, m, ps, v, x, rfl, hG, hW, hv, ?_⟩
    rw [show ctxP m (wtc x) ps v = ctxB m (wtc x) rs v from by unfold ctxP; rw [hps]]
    refine ⟨m, rs, x, v, rfl, hP, hv, ?_⟩
    generalize ctxB m (wtc x) rs v = b
    cases b
    · exact ⟨_, rfl, rfl, ifF (by decide +kernel) (next _ _ ⟨rfl, ⟨_, rfl⟩, fun v hv => hl v (List.mem_cons_of_mem _ hv)⟩)⟩
    · exact ⟨_, rfl, rfl, ifF (by decide +kernel) (next _ _ ⟨rfl, ⟨_, rfl⟩, fun v hv => hl v (List.mem_cons_of_mem _ hv)⟩)⟩
  · rintro δ M' ⟨rfl, ⟨u, rfl⟩, hl⟩
    exact q M' hd3 ((km1.trans km2).trans km3)
theorem D_law {P : Program} {w : World} {K : PySem.W.Frag} {mg : Str → Option Value} {base : Heap} {C_Procedure : Addr} {C_Program : Addr} {C_Space : Addr} {C_Reckoner : Addr} {C_InvalidProgram : Addr} {C_InvalidOperation : Addr} (A : Facts K C_Procedure C_Program C_Space C_Reckoner C_InvalidProgram C_InvalidOperation) (M : MgOf K mg) (Z : Zs mg) {f : Addr} {fd : FuncData} (F : Fun K "law" "law" s_law f fd)
  (D__law_sack : KnD P w K mg base "_law_sack" 1 ["_law_script", "_law_at"] spNumbers) (D__law_right : KnD P w K mg base "_law_right" 26 ["_law_sack_here"] spRightS) : FnOk P w K mg base CX0 40 f fd ["_law_script"] (LSp K spLawD) := by
  refine fnok_of F sc_law (fun ds M Q E ⟨_, h, _⟩ => by rw [h]; rfl) (fun f cdv A0 outer s H E hr => ?_)
  have hu := U.hu_of hr
  have nd := sc_law.nd
  refine ⟨_, (z_cons (z_for PassesOwn.never rfl (d_rg1 Z.range (d_cons (d_b Z.max b_max (c_dmax rfl) (d_cons d_int (d_cons (d_b Z.min b_min (c_dmin rfl) (d_cons d_int (d_cons (d_b Z.len b_len c_dlen (d_cons (dn 0) d_nil)) d_nil))) d_nil))) d_nil)) (t_n 1 nd) (z_cons (z_set 2 nd (d_call D__law_sack (hr.mono (by decide)) (d_cons (dn 0) (d_cons (dn 1) d_nil))))
      (z_one (z_if (d_w (d_or (d_tnot (d_tv (d_call D__law_right (hr.mono (by decide)) (d_cons (dn 2) d_nil)))) (d_or1 (d_tnot (d_tv (d_call D__law_right (hr.mono (by decide)) (d_cons (dn 2) d_nil))))))) (z_one (z_ret d_bl)) z_nil))))
      (z_one (z_ret d_bl))), ?_⟩
  rintro ds M Q Ed ⟨ns, rfl, hl, q⟩
  obtain ⟨k, hk, hk2⟩ : ∃ k : Nat, (if (if (((ns.map Da.int).length : Nat) : Int) < 6 then (((ns.map Da.int).length : Nat) : Int) else 6) > 1 then (if (((ns.map Da.int).length : Nat) : Int) < 6 then (((ns.map Da.int).length : Nat) : Int) else 6) else 1) = (k : Nat) ∧ k ≤ 6 := by
    refine ⟨(if (if (((ns.map Da.int).length : Nat) : Int) < 6 then (((ns.map Da.int).length : Nat) : Int) else 6) > 1 then (if (((ns.map Da.int).length : Nat) : Int) < 6 then (((ns.map Da.int).length : Nat) : Int) else 6) else 1).toNat, ?_, ?_⟩
    · rw [Int.toNat_of_nonneg]
      split <;> split <;> omega
    · split <;> split <;> omega
  refine ⟨rok (by rw [hk]; omega) (by rw [hk]; omega), ?_⟩
  rw [hk]
  refine forD_rng (n := k) (fun j δ M' => ∃ u v, δ = [some (.lst (ns.map Da.int)), u, v]) ?_ ?_ ⟨_, _, rfl⟩
  · rintro j δ M' NX hj ⟨u, v, rfl⟩ nx
    refine ⟨ns, j, rfl, hl, by omega, fun d a b c hd => ?_⟩
    refine ⟨d, rfl, ⟨_, _, _, mput_same⟩, fun M3 hd3 _ => ⟨d, rfl, hd3, fun M4 hd4 _ => nx _ _ ⟨_, _, rfl⟩⟩⟩
  · rintro δ M' ⟨u, v, rfl⟩
    exact q M'
theorem all_ok {P : Program} {w : World} {K : PySem.W.Frag} {mg : Str → Option Value} {h base : Heap} {C_Procedure : Addr} {C_Program : Addr} {C_Space : Addr} {C_Reckoner : Addr} {C_InvalidProgram : Addr} {C_InvalidOperation : Addr} (A : Facts K C_Procedure C_Program C_Space C_Reckoner C_InvalidProgram C_InvalidOperation) (X : K.In h) (G : h.Ns mainGlobals mg)
    {f : Addr} {fd : FuncData} (F : Fun K "law" "law" s_law f fd) : FnOk P w K mg base CX0 40 f fd ["_law_script"] (LSp K spLawD) := by
  have M := MgOf.mk' X G
  have Z := zs_of A M
  have d_is_integer := D_is_integer (P := P) (w := w) (base := base) A M Z 
  have d_is_from := D_is_from (P := P) (w := w) (base := base) A M Z d_is_integer
  have d_is_name := D_is_name (P := P) (w := w) (base := base) A M Z 
  have d_has_word := D_has_word (P := P) (w := w) (base := base) A M Z 
  have d_is_deed_table := D_is_deed_table (P := P) (w := w) (base := base) A M Z d_is_from
  have d_is_kind := D_is_kind (P := P) (w := w) (base := base) A M Z 
  have d_is_term_in := D_is_term_in (P := P) (w := w) (base := base) A M Z d_has_word d_is_name d_is_deed_table d_is_kind
  have d_inside := D_inside (P := P) (w := w) (base := base) A M Z 
  have d_pieces_of := D_pieces_of (P := P) (w := w) (base := base) A M Z d_inside
  have d_are_parameters := D_are_parameters (P := P) (w := w) (base := base) A M Z d_is_name
  have d_is_body := D_is_body (P := P) (w := w) (base := base) A M Z d_is_term_in d_pieces_of
  have d_Procedure___init__ := D_Procedure___init__ (P := P) (w := w) (base := base) A M Z d_is_name d_are_parameters d_is_body d_pieces_of
  have d_Procedure___len__ := D_Procedure___len__ (P := P) (w := w) (base := base) A M Z 
  have d_Procedure___eq__ := D_Procedure___eq__ (P := P) (w := w) (base := base) A M Z 
  have d_Procedure___str__ := D_Procedure___str__ (P := P) (w := w) (base := base) A M Z 
  have d_kind_of := D_kind_of (P := P) (w := w) (base := base) A M Z 
  have d_are_fit := D_are_fit (P := P) (w := w) (base := base) A M Z d_kind_of
  have d_Program___init__ := D_Program___init__ (P := P) (w := w) (base := base) A M Z d_is_from d_are_fit
  have d_Program_of := D_Program_of (P := P) (w := w) (base := base) A M Z d_Program___init__
  have d_Program___len__ := D_Program___len__ (P := P) (w := w) (base := base) A M Z 
  have d_Program_has_name := D_Program_has_name (P := P) (w := w) (base := base) A M Z 
  have d_Program___contains__ := D_Program___contains__ (P := P) (w := w) (base := base) A M Z d_Program_has_name
  have d_Program___getitem__ := D_Program___getitem__ (P := P) (w := w) (base := base) A M Z d_Program_has_name
  have d_Program___str__ := D_Program___str__ (P := P) (w := w) (base := base) A M Z 
  have d__law_sack := D__law_sack (P := P) (w := w) (base := base) A M Z 
  have d__law_deal := D__law_deal (P := P) (w := w) (base := base) A M Z 
  have d__law_pick := D__law_pick (P := P) (w := w) (base := base) A M Z d__law_deal
  have d__law_deed := D__law_deed (P := P) (w := w) (base := base) A M Z d__law_pick
  have d__law_term := D__law_term (P := P) (w := w) (base := base) A M Z d__law_deal d__law_pick d__law_deed
  have d__law_wild := D__law_wild (P := P) (w := w) (base := base) A M Z d__law_deal d__law_pick d__law_term
  have d__law_framed := D__law_framed (P := P) (w := w) (base := base) A M Z d__law_deal d__law_deed
  have d__law_plain := D__law_plain (P := P) (w := w) (base := base) A M Z d__law_deal d__law_framed d__law_wild
  have d_Space___init__ := D_Space___init__ (P := P) (w := w) (base := base) A M Z d_is_from
  have d_Space_is_relation := D_Space_is_relation (P := P) (w := w) (base := base) A M Z d_is_from
  have d_Space_is_table := D_Space_is_table (P := P) (w := w) (base := base) A M Z d_Space_is_relation
  have d__law_made := D__law_made (P := P) (w := w) (base := base) A M Z d_Program_of d_Procedure___init__
  have d__law_by_name := D__law_by_name (P := P) (w := w) (base := base) A M Z 
  have d__law_powers := D__law_powers (P := P) (w := w) (base := base) A M Z 
  have d__law_space := D__law_space (P := P) (w := w) (base := base) A M Z d__law_powers
  have d__law_code := D__law_code (P := P) (w := w) (base := base) A M Z d__law_by_name d__law_space
  have d__law_is_relation := D__law_is_relation (P := P) (w := w) (base := base) A M Z 
  have d__law_is_meaning := D__law_is_meaning (P := P) (w := w) (base := base) A M Z d__law_is_relation
  have d__law_due := D__law_due (P := P) (w := w) (base := base) A M Z d__law_is_meaning
  have d_Reckoner___init__ := D_Reckoner___init__ (P := P) (w := w) (base := base) A M Z d_Space___init__
  have d_require_program := D_require_program (P := P) (w := w) (base := base) A M Z 
  have d_require_word := D_require_word (P := P) (w := w) (base := base) A M Z d_is_name
  have d_reckoner_of := D_reckoner_of (P := P) (w := w) (base := base) A M Z d_require_program d_require_word d_Reckoner___init__
  have d_Reckoner_is_meaning := D_Reckoner_is_meaning (P := P) (w := w) (base := base) A M Z d_Space_is_relation d_Space_is_table
  have d_Reckoner_is_context := D_Reckoner_is_context (P := P) (w := w) (base := base) A M Z d_Program_has_name d_Reckoner_is_meaning
  have d_is_context := D_is_context (P := P) (w := w) (base := base) A M Z d_reckoner_of d_Reckoner_is_context
  have d__law_values := D__law_values (P := P) (w := w) (base := base) A M Z d__law_deal d__law_pick
  have d__law_right := D__law_right (P := P) (w := w) (base := base) A M Z d__law_plain d__law_made d__law_pick d__law_code d__law_values d_is_context d__law_due
  exact D_law A M Z F d__law_sack d__law_right
theorem law_start {K : PySem.W.Frag} {H : Hp} {a : Addr} {ns : List Int} (hl : ns.length ≤ 63) (hS : SqL K H a (ns.map V.int)) : LSp K spLawD [.ref a] H (fun v _ => v = .bl true) fun _ _ _ => False := by
  obtain ⟨s, r⟩ := start_state hS
  refine ⟨NoF, _, _, _, fun d _ => d = .bl true, X0, r, s, ⟨ns, rfl, hl, fun _ => rfl⟩, fun v H' W' d M' g s' r q => ?_, fun _ _ _ _ _ _ _ _ _ z => z.elim⟩
  subst q
  cases r
  rfl
theorem fin {P : Program} {w : World} {K : PySem.W.Frag} {mg : Str → Option Value} {h : Heap} (X : K.In h) (G : h.Ns mainGlobals mg) (A : ∃ C1 C2 C3 C4 C5 C6, Facts K C1 C2 C3 C4 C5 C6) :
    HasDef K "law" s_law ∧ ∀ (f : Addr) (fd : FuncData) (base : Heap), K.In base → base.Ns mainGlobals mg → Fun K "law" "law" s_law f fd → FnOk P w K mg base CX0 40 f fd ["_law_script"] (LSp K spLawD) := by
  obtain ⟨C1, C2, C3, C4, C5, C6, A⟩ := A
  exact ⟨A.d_law, fun _ _ base _ _ F => all_ok A X G F⟩

end K28
set_option Elab.async false
set_option linter.all false
set_option maxRecDepth 100000
set_option maxHeartbeats 4000000




namespace K28
open PySem PySem.Spec PyProof.Rows L2 U
end K28
namespace PySem.W.Fast
def tw4453732136551493632 : Unit := ()
def tw2195881012277581856 : Unit := ()
def tw12186137888475004960 : Unit := ()
def tw4087802793120550944 : Unit := ()
def tw15451431825724501024 : Unit := ()
def tw1689949464870304832 : Unit := ()
def tw3412146206713761920 : Unit := ()
def tw16634728579807961248 : Unit := ()
def tw7291366500111367392 : Unit := ()
def tw4823359631200535840 : Unit := ()
def tw15704504132492747072 : Unit := ()
def tw17600010413275970912 : Unit := ()
def tw6941849785238714784 : Unit := ()
def tw14071869244440951232 : Unit := ()
def tw10233025074072998400 : Unit := ()
def tw7006878929849122336 : Unit := ()
def tw2717573572900686400 : Unit := ()
def tw17695131214158185024 : Unit := ()
def tw3820993104371417696 : Unit := ()
def tw6589210816937141856 : Unit := ()
def tw11579289234940146304 : Unit := ()
def tw7557781855173722752 : Unit := ()
def tw18100070905887615648 : Unit := ()
def tw726093926934672096 : Unit := ()
def tw785393548553562912 : Unit := ()
def tw12412686643380342592 : Unit := ()
def tw17035562473324159840 : Unit := ()
def tw7416859598382084960 : Unit := ()
def tw13544703517507854240 : Unit := ()
def tw6013317137377625121 : Unit := ()
def tw4271507215275214881 : Unit := ()
def tw14239734573196458145 : Unit := ()
def tw8671265398442936545 : Unit := ()
def tw15355337963593383169 : Unit := ()
def tw17573914544611314977 : Unit := ()
def tw17541725313591962913 : Unit := ()
def tw7581733924254905633 : Unit := ()
def tw8434084249418200353 : Unit := ()
def tw15668978091624271169 : Unit := ()
def tw7719664272888643905 : Unit := ()
def tw13984934655644255553 : Unit := ()
def tw5561009728143058273 : Unit := ()
def tw7955255297604896129 : Unit := ()
def tw18111103739001835969 : Unit := ()
def tw11390320035828908513 : Unit := ()
def tw14816885035335905761 : Unit := ()
def tw17596556106108340769 : Unit := ()
def tw5195129317035276833 : Unit := ()
def tw487416625717583425 : Unit := ()
def tw11425093149316799073 : Unit := ()
def tw8149023365296571009 : Unit := ()
def tw866840568864924321 : Unit := ()
def tw9867479118567226113 : Unit := ()
def tw4072598171335622401 : Unit := ()
def tw4992165338753512225 : Unit := ()
def tw3656545799868830497 : Unit := ()
def tw12251438198275252161 : Unit := ()
def tw8395455550026038209 : Unit := ()
def tw8980896356565394434 : Unit := ()
def tw13307293322636461122 : Unit := ()
def tw10010105268108344418 : Unit := ()
def tw18254478154041831586 : Unit := ()
def tw5429021167642466498 : Unit := ()
def tw15308318894037134530 : Unit := ()
def tw17958243394654003426 : Unit := ()
def tw2079338581972122850 : Unit := ()
def tw5827577280960972034 : Unit := ()
def tw10348849737165400322 : Unit := ()
def tw1826277863993180450 : Unit := ()
def tw3462011057667953954 : Unit := ()
def tw17476276138810276130 : Unit := ()
def tw1803379185868357954 : Unit := ()
def tw3365849690793794914 : Unit := ()
def tw12098988686326948226 : Unit := ()
def tw6823934009093059970 : Unit := ()
def tw605820278455473570 : Unit := ()
def tw2616873390043284898 : Unit := ()
def tw4888856319322760642 : Unit := ()
def tw15882560570181278178 : Unit := ()
def tw12353429680613029346 : Unit := ()
def tw8564387656712982018 : Unit := ()
def tw9403725501068657154 : Unit := ()
def tw17890053259555502626 : Unit := ()
def tw7515441901321011778 : Unit := ()
def tw9286606166741600866 : Unit := ()
def tw7288873967627704994 : Unit := ()
def tw9149647058572028642 : Unit := ()
def tw6985078029387054882 : Unit := ()
def tw6002451405537466146 : Unit := ()
def tw15126789379863235394 : Unit := ()
def tw5589481410170354498 : Unit := ()
def tw13034456781732438914 : Unit := ()
def tw10899788572226046882 : Unit := ()
def tw11990671378297446338 : Unit := ()
def tw4752903607410320322 : Unit := ()
def tw13210536431236703202 : Unit := ()
def tw10038788360262576098 : Unit := ()
def tw1527368965019298786 : Unit := ()
def tw7072427869088352291 : Unit := ()
def tw11336683064761966627 : Unit := ()
def tw4160622861950549027 : Unit := ()
def tw9454131454403803203 : Unit := ()
def tw9425263834341836899 : Unit := ()
def tw15302087749953232003 : Unit := ()
def tw5174866073799521411 : Unit := ()
def tw10303265166256543907 : Unit := ()
def tw7872978700491463843 : Unit := ()
def tw7279640478275958979 : Unit := ()
def tw1148249710795303139 : Unit := ()
def tw1979916212538407139 : Unit := ()
def tw5218463405002627331 : Unit := ()
def tw10477827514238838019 : Unit := ()
def tw15168044170696401187 : Unit := ()
def tw7207118320609328419 : Unit := ()
def tw3122692948932697475 : Unit := ()
def tw2376272847549934979 : Unit := ()
def tw2922166004078087587 : Unit := ()
def tw17438943140084746691 : Unit := ()
def tw12983939913439690211 : Unit := ()
def tw18379875057949506051 : Unit := ()
def tw14137018588163464739 : Unit := ()
def tw4755175425457814115 : Unit := ()
def tw17014838965855296131 : Unit := ()
def tw5509183913738913411 : Unit := ()
def tw125000639072521859 : Unit := ()
def tw14721038974306144899 : Unit := ()
def tw15885138845383193219 : Unit := ()
def tw2790336001831662211 : Unit := ()
def tw5420082805537683107 : Unit := ()
def tw7322166914043289347 : Unit := ()
def tw129113367639492387 : Unit := ()
def tw16904794128706877219 : Unit := ()
def tw5418843691475641155 : Unit := ()
def tw3652330538499783523 : Unit := ()
def tw3742341368019284867 : Unit := ()
def tw6507125678002194339 : Unit := ()
def tw13284798542885825475 : Unit := ()
def tw452928814956765123 : Unit := ()
def tw15022375671351604163 : Unit := ()
def tw14410976202638757859 : Unit := ()
def tw917200523507052515 : Unit := ()
def tw5770643186536355844 : Unit := ()
def tw616336724380933124 : Unit := ()
def tw12300184686718675972 : Unit := ()
def tw10931820667893022788 : Unit := ()
def tw12697724679704783940 : Unit := ()
def tw12540032254604854340 : Unit := ()
def tw13519699675601091684 : Unit := ()
def tw3443417263251405924 : Unit := ()
def tw9083634943512966276 : Unit := ()
def tw16858383949475648676 : Unit := ()
def tw12596200287725489380 : Unit := ()
def tw6963140133508980964 : Unit := ()
def tw15712902550706989284 : Unit := ()
def tw4980982377428693220 : Unit := ()
def tw7887142604485708004 : Unit := ()
def tw8803660071606271268 : Unit := ()
def tw13453599842438893860 : Unit := ()
def tw874204485675012388 : Unit := ()
def tw17018293703037834532 : Unit := ()
def tw7111860663396217156 : Unit := ()
def tw18311070985073581380 : Unit := ()
def tw7658239910911189348 : Unit := ()
def tw16565325299722765668 : Unit := ()
def tw10081544939505505636 : Unit := ()
def tw5439095843349126532 : Unit := ()
def tw8927019935592675716 : Unit := ()
def tw12223311183298279844 : Unit := ()
def tw17444205216324906436 : Unit := ()
def tw7384322410144709092 : Unit := ()
def tw13774362699251897860 : Unit := ()
def tw5779066278293215780 : Unit := ()
def tw5371986608062864932 : Unit := ()
def tw1765622378862541348 : Unit := ()
def tw17421933683747495556 : Unit := ()
def tw18007452289553079940 : Unit := ()
def tw15868334077129645700 : Unit := ()
def tw8656843320346142340 : Unit := ()
def tw716055123324851908 : Unit := ()
def tw1048074306285080292 : Unit := ()
def tw17117763005420191492 : Unit := ()
def tw7788775372780447556 : Unit := ()
def tw16515212740179146564 : Unit := ()
def tw2507531493090881348 : Unit := ()
def tw13857482981175110500 : Unit := ()
def tw17325327543388418916 : Unit := ()
def tw14018672311029257060 : Unit := ()
def tw14534669067317565284 : Unit := ()
def tw9289095661163838308 : Unit := ()
def tw3084034852961386372 : Unit := ()
def tw11957726938001459108 : Unit := ()
def tw11636286553842874276 : Unit := ()
def tw17654792597599117252 : Unit := ()
def tw16115004132320798660 : Unit := ()
def tw2276962511980956677 : Unit := ()
def tw13112678041105487877 : Unit := ()
def tw7829703460735920165 : Unit := ()
def tw10929838911972018245 : Unit := ()
def tw5793648836666548293 : Unit := ()
def tw10014658532495584325 : Unit := ()
def tw12243615122964595813 : Unit := ()
def tw7195863343960064261 : Unit := ()
def tw14662737883466999045 : Unit := ()
def tw6862551948891157765 : Unit := ()
def tw5810917674373592357 : Unit := ()
def tw16714248048872545573 : Unit := ()
def tw7514870583726902597 : Unit := ()
def tw16484431920199020869 : Unit := ()
def tw1212066622331818341 : Unit := ()
def tw5524852987889558885 : Unit := ()
def tw7071515881223122277 : Unit := ()
def tw11602931853229180293 : Unit := ()
def tw12528398380957776357 : Unit := ()
def tw2533843412457736677 : Unit := ()
def tw11580233850574533189 : Unit := ()
def tw9050486023936669253 : Unit := ()
def tw9146380811270520389 : Unit := ()
def tw6275475831648684741 : Unit := ()
def tw2824736915821607621 : Unit := ()
def tw13695798020510490341 : Unit := ()
def tw2274383041983759109 : Unit := ()
def tw1299193113803662181 : Unit := ()
def tw1147642240465493861 : Unit := ()
def tw16831354267344919525 : Unit := ()
def tw16030002568368950278 : Unit := ()
def tw16753144350713204742 : Unit := ()
def tw4733850852381873190 : Unit := ()
def tw13503993623106328678 : Unit := ()
def tw562098211598780518 : Unit := ()
def tw6368005819544066150 : Unit := ()
def tw6607444931318549638 : Unit := ()
def tw14525457708389914790 : Unit := ()
def tw16699317673142034726 : Unit := ()
def tw9797720342922642726 : Unit := ()
def tw2580110360504126758 : Unit := ()
def tw2794932207190528294 : Unit := ()
def tw17636284047489053030 : Unit := ()
def tw349147219558606214 : Unit := ()
def tw2984191838704431494 : Unit := ()
def tw2894405560842757542 : Unit := ()
def tw12858792526424391078 : Unit := ()
def tw9191994614851292582 : Unit := ()
def tw15882749709172023750 : Unit := ()
def tw12262505526100314598 : Unit := ()
def tw2075572879879746054 : Unit := ()
def tw17261405291652863494 : Unit := ()
def tw14541857820778576422 : Unit := ()
def tw5897916662496574022 : Unit := ()
def tw894204765532208710 : Unit := ()
def tw11960815727982772934 : Unit := ()
def tw17618673067408754374 : Unit := ()
def tw15448798649316049638 : Unit := ()
def tw13530797877074993894 : Unit := ()
def tw14012132657705461478 : Unit := ()
def tw16810898696191552230 : Unit := ()
def tw482837134131127014 : Unit := ()
def tw14003092021789207302 : Unit := ()
def tw12025741773995477830 : Unit := ()
def tw8571273420420680518 : Unit := ()
def tw15983642595023318854 : Unit := ()
def tw10964225622246379494 : Unit := ()
def tw2668511984920205319 : Unit := ()
def tw2629692970199499783 : Unit := ()
def tw91487927245114407 : Unit := ()
def tw13187874284486891559 : Unit := ()
def tw5519505823345705063 : Unit := ()
def tw7608557246525064359 : Unit := ()
def tw11140120773680527591 : Unit := ()
def tw7843142902047774983 : Unit := ()
def tw9395837599978430759 : Unit := ()
def tw8309480919454689575 : Unit := ()
def tw17980228743207102759 : Unit := ()
def tw8194830529699228967 : Unit := ()
def tw11156274361105983815 : Unit := ()
def tw17572751028319502663 : Unit := ()
def tw15089580748881684839 : Unit := ()
def tw16694824253066757511 : Unit := ()
def tw4172641560393551335 : Unit := ()
def tw8909168409533577735 : Unit := ()
def tw7083396708039393831 : Unit := ()
def tw17494295900836729415 : Unit := ()
def tw8861169941598412359 : Unit := ()
def tw10048555871717061191 : Unit := ()
def tw15954549012911835751 : Unit := ()
def tw15182433900861397703 : Unit := ()
def tw159515260255723207 : Unit := ()
def tw10264379722675117799 : Unit := ()
def tw14352301990097222375 : Unit := ()
def tw14328263551370459879 : Unit := ()
def tw2409313344777696039 : Unit := ()
def tw9828287000111896359 : Unit := ()
def tw2132644017837603623 : Unit := ()
def tw7514144015257178055 : Unit := ()
def tw9607211839464971207 : Unit := ()
def tw5694286910147903431 : Unit := ()
def tw10094746976361928647 : Unit := ()
def tw7013196417980786663 : Unit := ()
def tw17394438810919479304 : Unit := ()
def tw2426219772023003144 : Unit := ()
def tw4140054471618690056 : Unit := ()
def tw12397425337363901480 : Unit := ()
def tw16178976736085100584 : Unit := ()
def tw11837651661834688584 : Unit := ()
def tw15537829432344749128 : Unit := ()
def tw12494624804053121128 : Unit := ()
def tw5198676082296003752 : Unit := ()
def tw10541690086720629928 : Unit := ()
def tw14922897880571432200 : Unit := ()
def tw1425737113795457288 : Unit := ()
def tw10093709436432460072 : Unit := ()
def tw17994390630799329576 : Unit := ()
def tw9397756068066311496 : Unit := ()
def tw201049889959625032 : Unit := ()
def tw8018586767615810920 : Unit := ()
def tw9185116288030196104 : Unit := ()
def tw10849052524525921704 : Unit := ()
def tw4048747320680753608 : Unit := ()
def tw1356589017311954376 : Unit := ()
def tw12282790176402495944 : Unit := ()
def tw1969933305718221288 : Unit := ()
def tw13859043876796771880 : Unit := ()
def tw2632718602303289928 : Unit := ()
def tw17398720795281336936 : Unit := ()
def tw7635210092678594184 : Unit := ()
def tw9113250877230333608 : Unit := ()
def tw10983811676047192776 : Unit := ()
def tw17670900652424260296 : Unit := ()
def tw5221255253381782248 : Unit := ()
def tw17526199900980338472 : Unit := ()
def tw7930249659430472520 : Unit := ()
def tw8823484080360352616 : Unit := ()
def tw11059738797871630216 : Unit := ()
def tw4784866454018884520 : Unit := ()
def tw12223169366454286248 : Unit := ()
def tw1091523254527211432 : Unit := ()
def tw5938432842283404200 : Unit := ()
def tw2971889241624611784 : Unit := ()
def tw6013816416639009736 : Unit := ()
def tw17694343743336614888 : Unit := ()
def tw10320360400007665640 : Unit := ()
def tw17762922592664650761 : Unit := ()
def tw14713251444368578569 : Unit := ()
def tw16535131656244699145 : Unit := ()
def tw13809744674835228681 : Unit := ()
def tw11825720357074675785 : Unit := ()
def tw2380506399532119113 : Unit := ()
def tw5983745001913218121 : Unit := ()
def tw99910334921101417 : Unit := ()
def tw2986091999223886057 : Unit := ()
def tw13042339394605645033 : Unit := ()
def tw13577053229560372489 : Unit := ()
def tw236318999255235849 : Unit := ()
def tw7843295395879187753 : Unit := ()
def tw875061797279785289 : Unit := ()
def tw8476090442088908137 : Unit := ()
def tw8052963862709952873 : Unit := ()
def tw7181370261456259497 : Unit := ()
def tw7609019727127334313 : Unit := ()
def tw8568040615418214857 : Unit := ()
def tw5385026686533174761 : Unit := ()
def tw4280932039347336681 : Unit := ()
def tw1554625087029345769 : Unit := ()
def tw7642325693457291785 : Unit := ()
def tw14640123890274456137 : Unit := ()
def tw6636120462333592169 : Unit := ()
def tw2684254636095956585 : Unit := ()
def tw180616131675879017 : Unit := ()
def tw14390684897394826889 : Unit := ()
def tw9990086754533395113 : Unit := ()
def tw11701071505656495817 : Unit := ()
def tw15581873892396919529 : Unit := ()
def tw7854872277870278377 : Unit := ()
def tw15081426930476353289 : Unit := ()
def tw13844289530572156681 : Unit := ()
def tw15948768028023896841 : Unit := ()
def tw13100325753695521545 : Unit := ()
def tw3108941510910745481 : Unit := ()
def tw7343651586016863113 : Unit := ()
def tw14177622385350279081 : Unit := ()
def tw16913257759087927241 : Unit := ()
def tw14016380865145589705 : Unit := ()
def tw3786422018597721065 : Unit := ()
def tw10346116388955905001 : Unit := ()
def tw7287527506714925130 : Unit := ()
def tw1220199880828825674 : Unit := ()
def tw4248432628774387786 : Unit := ()
def tw12954475406747299914 : Unit := ()
def tw5151379376541406314 : Unit := ()
def tw15211307955238285482 : Unit := ()
def tw9535886023847166122 : Unit := ()
def tw9081931103630689546 : Unit := ()
def tw5983318120977107210 : Unit := ()
def tw8576312798334159114 : Unit := ()
def tw6761357889421279562 : Unit := ()
def tw18217780091179835754 : Unit := ()
def tw14628966453497358698 : Unit := ()
def tw8197245755647940010 : Unit := ()
def tw8355257158046280106 : Unit := ()
def tw2367401105020720618 : Unit := ()
def tw8907577950921661930 : Unit := ()
def tw5423495950231963146 : Unit := ()
def tw13465560680204083722 : Unit := ()
def tw13728607728733984298 : Unit := ()
def tw12865956173612597802 : Unit := ()
def tw3913310166711103018 : Unit := ()
def tw18401367543134528106 : Unit := ()
def tw12009227342634893994 : Unit := ()
def tw15629143282876240554 : Unit := ()
def tw9797240213730302666 : Unit := ()
def tw72168793392044746 : Unit := ()
def tw16029770045565122282 : Unit := ()
def tw10259130050783138570 : Unit := ()
def tw1996387719804811018 : Unit := ()
def tw9969250094371825514 : Unit := ()
def tw9563498007409341322 : Unit := ()
def tw14788548345218029450 : Unit := ()
def tw8251556182730823562 : Unit := ()
def tw17136061375702600618 : Unit := ()
def tw8010323167223418794 : Unit := ()
def tw14175912874058587050 : Unit := ()
def tw2495134389966458794 : Unit := ()
def tw1816596443683068906 : Unit := ()
def tw12205636088514170858 : Unit := ()
def tw12157288579302333515 : Unit := ()
def tw15925150999692663883 : Unit := ()
def tw8038604954832315499 : Unit := ()
def tw6721797250308222059 : Unit := ()
def tw16438455579627526283 : Unit := ()
def tw894118411158432907 : Unit := ()
def tw9169224402117238955 : Unit := ()
def tw12872657686097779915 : Unit := ()
def tw141820257639209195 : Unit := ()
def tw12917877799964086539 : Unit := ()
def tw7538481504568477003 : Unit := ()
def tw4554465956836188491 : Unit := ()
def tw8301868042126160203 : Unit := ()
def tw2363527267932623211 : Unit := ()
def tw3454228566164413835 : Unit := ()
def tw17143042267946754443 : Unit := ()
def tw6809631068288105931 : Unit := ()
def tw1309173797094316491 : Unit := ()
def tw5985646826305908171 : Unit := ()
def tw16415722971476556235 : Unit := ()
def tw2902262442879395307 : Unit := ()
def tw15078837118347425259 : Unit := ()
def tw11040191078634648043 : Unit := ()
def tw1433466481318607371 : Unit := ()
def tw2202936495400021547 : Unit := ()
def tw3859136121521450571 : Unit := ()
def tw1849808878396498539 : Unit := ()
def tw11547303150078402187 : Unit := ()
def tw12628993551122213547 : Unit := ()
def tw2518613067590791883 : Unit := ()
def tw15839522462002793195 : Unit := ()
def tw17585069110288704235 : Unit := ()
def tw6202151306429325099 : Unit := ()
def tw5314426915784612715 : Unit := ()
def tw17985407911117347691 : Unit := ()
def tw13211322716311933835 : Unit := ()
def tw13068851179785481099 : Unit := ()
def tw2285542381563878315 : Unit := ()
def tw13266199314946073515 : Unit := ()
def tw13003263247433246667 : Unit := ()
def tw12286896561373562827 : Unit := ()
def tw17537241289742710763 : Unit := ()
def tw6171326435328230412 : Unit := ()
def tw11125474842818246700 : Unit := ()
def tw12757023803288227948 : Unit := ()
def tw4137190331965026412 : Unit := ()
def tw8382256375801202796 : Unit := ()
def tw9208048758739672204 : Unit := ()
def tw14058248015094566028 : Unit := ()
def tw12923289274583909548 : Unit := ()
def tw10548975362510228652 : Unit := ()
def tw10303759548551016652 : Unit := ()
def tw17033023187024833740 : Unit := ()
def tw7976539204745077996 : Unit := ()
def tw3792453464739620108 : Unit := ()
def tw3233870643796653388 : Unit := ()
def tw7164436741790986604 : Unit := ()
def tw3644978428740088204 : Unit := ()
def tw17708316472624204204 : Unit := ()
def tw11578821295991019948 : Unit := ()
def tw1992958585247596044 : Unit := ()
def tw4432593932144777804 : Unit := ()
def tw7203378536658480748 : Unit := ()
def tw6157841150631443052 : Unit := ()
def tw10291790593870301836 : Unit := ()
def tw12044476945318480524 : Unit := ()
def tw8107310993969001100 : Unit := ()
def tw139028083427385004 : Unit := ()
def tw15633701641003154092 : Unit := ()
def tw3052709808674628268 : Unit := ()
def tw1523343540923586284 : Unit := ()
def tw13209449361182567180 : Unit := ()
def tw12697803914251331340 : Unit := ()
def tw15743801150982142796 : Unit := ()
def tw10223233245008088908 : Unit := ()
def tw9759397355526614860 : Unit := ()
def tw9617475223762376556 : Unit := ()
def tw13374415030714498924 : Unit := ()
def tw4837609274531320748 : Unit := ()
def tw2629028815016139724 : Unit := ()
def tw17091148696758234221 : Unit := ()
def tw15810200632202868909 : Unit := ()
def tw15179293562465214637 : Unit := ()
def tw12579947066384540845 : Unit := ()
def tw4417261530321841325 : Unit := ()
def tw4025498476551576781 : Unit := ()
def tw17358489801543717101 : Unit := ()
def tw12685217631868756269 : Unit := ()
def tw15792165681781601581 : Unit := ()
def tw4846267655820442925 : Unit := ()
def tw17210403749101184365 : Unit := ()
def tw16021463046139191693 : Unit := ()
def tw3058720947595172237 : Unit := ()
def tw1746293728628071821 : Unit := ()
def tw12361812854090874285 : Unit := ()
def tw1625313511223049645 : Unit := ()
def tw8779470431301043661 : Unit := ()
def tw8553886451797052877 : Unit := ()
def tw7851021367569939917 : Unit := ()
def tw15547855943612049933 : Unit := ()
def tw13042123050597801485 : Unit := ()
def tw12614948034388032013 : Unit := ()
def tw12069535919611707949 : Unit := ()
def tw2347801570653450797 : Unit := ()
def tw5631303029568976429 : Unit := ()
def tw18007895356037122701 : Unit := ()
def tw2585057933067899533 : Unit := ()
def tw10379947915329639085 : Unit := ()
def tw1207378630719220397 : Unit := ()
def tw13679546449719751373 : Unit := ()
def tw1896109891528524525 : Unit := ()
def tw14240136471804554989 : Unit := ()
def tw17908298750495526669 : Unit := ()
def tw8911928281936476973 : Unit := ()
def tw1580584771788554029 : Unit := ()
def tw11444161708495305517 : Unit := ()
def tw15241423468164779917 : Unit := ()
def tw8108705151968188301 : Unit := ()
def tw16775538618298121101 : Unit := ()
def tw7918747477809842061 : Unit := ()
def tw7831222911924927373 : Unit := ()
def tw2436187184792213453 : Unit := ()
def tw6324500386579164109 : Unit := ()
def tw9912745299746375661 : Unit := ()
def tw10107508520241145870 : Unit := ()
def tw183514080308768782 : Unit := ()
def tw5201871670803406926 : Unit := ()
def tw128836376579059790 : Unit := ()
def tw17446025929058097262 : Unit := ()
def tw2256163172985566318 : Unit := ()
def tw4085618200056317102 : Unit := ()
def tw8577947003665041582 : Unit := ()
def tw7160241022017207470 : Unit := ()
def tw10347149035256747214 : Unit := ()
def tw11609100628348414158 : Unit := ()
def tw2524318481579064526 : Unit := ()
def tw777229213447080142 : Unit := ()
def tw1552265298890806478 : Unit := ()
def tw14364292527722859790 : Unit := ()
def tw5891134830133129518 : Unit := ()
def tw13188580330096844078 : Unit := ()
def tw10448163987584485742 : Unit := ()
def tw3755742928349554030 : Unit := ()
def tw11910676797898594702 : Unit := ()
def tw2395543293745839502 : Unit := ()
def tw9032422238065547694 : Unit := ()
def tw12970089261465795054 : Unit := ()
def tw15347312173164869230 : Unit := ()
def tw8234662830778246766 : Unit := ()
def tw2521132703896533614 : Unit := ()
def tw3768842047440794286 : Unit := ()
def tw3324725934777982638 : Unit := ()
def tw13266930755464570574 : Unit := ()
def tw10052610222938670798 : Unit := ()
def tw11716519629751203566 : Unit := ()
def tw16963226740242593518 : Unit := ()
def tw13744460857141447406 : Unit := ()
def tw13333643871174913774 : Unit := ()
def tw12924366067786452750 : Unit := ()
def tw6103048592956823374 : Unit := ()
def tw13350511480683240270 : Unit := ()
def tw18323210382257863502 : Unit := ()
def tw9355927600103636814 : Unit := ()
def tw6824445479167714126 : Unit := ()
def tw16825593418109250382 : Unit := ()
def tw11544963675436930958 : Unit := ()
def tw9797875719014310798 : Unit := ()
def tw13366488977918502862 : Unit := ()
def tw14904344646125661134 : Unit := ()
def tw17050414002043513806 : Unit := ()
def tw8241088251358620654 : Unit := ()
def tw6587307095530875886 : Unit := ()
def tw17506983156222495759 : Unit := ()
def tw3711702165371654191 : Unit := ()
def tw9314070750235560015 : Unit := ()
def tw17129520216519251023 : Unit := ()
def tw11345420541796840527 : Unit := ()
def tw6050805051655543951 : Unit := ()
def tw14076269771328348303 : Unit := ()
def tw10945238281319542927 : Unit := ()
def tw15022953775272237263 : Unit := ()
def tw9182824483322534127 : Unit := ()
def tw8605983353095111919 : Unit := ()
def tw1891765981152234767 : Unit := ()
def tw5928958411467286799 : Unit := ()
def tw10696837278083329327 : Unit := ()
def tw6020794389245565295 : Unit := ()
def tw2016989913012286831 : Unit := ()
def tw14853869659527297391 : Unit := ()
def tw10642654449209985391 : Unit := ()
def tw16238699373288249743 : Unit := ()
def tw2801150031372646799 : Unit := ()
def tw13399777487447556527 : Unit := ()
def tw9013532423520199087 : Unit := ()
def tw17570073840753827247 : Unit := ()
def tw17323808137418271151 : Unit := ()
def tw13858270347894613455 : Unit := ()
def tw10684485206405558767 : Unit := ()
def tw8783299414872542703 : Unit := ()
def tw16626058076166016527 : Unit := ()
def tw6237852828560897583 : Unit := ()
def tw11661527235744174671 : Unit := ()
def tw7724762354539991631 : Unit := ()
def tw2208319044989590095 : Unit := ()
def tw12940210709193270863 : Unit := ()
def tw5278258915358107279 : Unit := ()
def tw17706433321924433615 : Unit := ()
def tw3751573523231545039 : Unit := ()
def tw7403328323966281423 : Unit := ()
def tw4109075873795713743 : Unit := ()
def tw2718406646239753935 : Unit := ()
def tw11676294653763011311 : Unit := ()
def tw16524295918363807503 : Unit := ()
def tw6692708330511565615 : Unit := ()
def tw12689988048106515247 : Unit := ()
def tw12930531810943864687 : Unit := ()
def tw2856251596608928623 : Unit := ()
def tw5587765959070836623 : Unit := ()
def tw2996586664652576687 : Unit := ()
def tw15552417362305927087 : Unit := ()
def tw7439655605265569743 : Unit := ()
def tw1556211893832360911 : Unit := ()
def tw7219403511250218959 : Unit := ()
def tw7094193100715212783 : Unit := ()
def tw6684079416412759023 : Unit := ()
def tw475910884770872303 : Unit := ()
def tw17598840778874443824 : Unit := ()
def tw11313850819326500912 : Unit := ()
def tw569733607894400080 : Unit := ()
def tw3868261952060327024 : Unit := ()
def tw11171717753300397168 : Unit := ()
def tw17562373009722683504 : Unit := ()
def tw13416521838401481840 : Unit := ()
def tw13628995521094929552 : Unit := ()
def tw8127405168397209776 : Unit := ()
def tw5129849846706166960 : Unit := ()
def tw2582147585720587504 : Unit := ()
def tw18299916338196620560 : Unit := ()
def tw7153643093760243984 : Unit := ()
def tw1990506233209217360 : Unit := ()
def tw6067037901881497968 : Unit := ()
def tw5673865331367656880 : Unit := ()
def tw17605542073170263472 : Unit := ()
def tw9034306175022781904 : Unit := ()
def tw7028011529300428336 : Unit := ()
def tw11402390830875234864 : Unit := ()
def tw5475003119369623120 : Unit := ()
def tw7483618082027988560 : Unit := ()
def tw15364530893056925328 : Unit := ()
def tw8155650176406910608 : Unit := ()
def tw6195453228461600432 : Unit := ()
def tw12035204651872205488 : Unit := ()
def tw8791637483528412848 : Unit := ()
def tw12564914710808952528 : Unit := ()
def tw1108442464176464688 : Unit := ()
def tw7698577610645925680 : Unit := ()
def tw9324390137174863696 : Unit := ()
def tw18247075106269240176 : Unit := ()
def tw1606652900524233616 : Unit := ()
def tw6045514776070270864 : Unit := ()
def tw4880848936701167536 : Unit := ()
def tw16129712320740888560 : Unit := ()
def tw15040691939414029296 : Unit := ()
def tw12093014734620849136 : Unit := ()
def tw12885348224561842225 : Unit := ()
def tw6620013393386174545 : Unit := ()
def tw15078416200072249457 : Unit := ()
def tw9674641589183373425 : Unit := ()
def tw17309960914858249361 : Unit := ()
def tw3432949290345960593 : Unit := ()
def tw18178872149322103953 : Unit := ()
def tw1641383163500930225 : Unit := ()
def tw5960740768714531089 : Unit := ()
def tw3458902760178098481 : Unit := ()
def tw4500818772805833073 : Unit := ()
def tw12702734052297505137 : Unit := ()
def tw13590433785679036849 : Unit := ()
def tw4565995831309019601 : Unit := ()
def tw4691818588525539793 : Unit := ()
def tw2357809702354277841 : Unit := ()
def tw7337192471135929841 : Unit := ()
def tw9185368216451053073 : Unit := ()
def tw9042974487112844881 : Unit := ()
def tw3423043716439065169 : Unit := ()
def tw908909754930611793 : Unit := ()
def tw16436731776989806193 : Unit := ()
def tw3947296107061680785 : Unit := ()
def tw2642622052363918001 : Unit := ()
def tw9776944453328576209 : Unit := ()
def tw4785298269310133969 : Unit := ()
def tw770878253594538705 : Unit := ()
def tw12506124982558259921 : Unit := ()
def tw14758487098150297329 : Unit := ()
def tw13205338256749824849 : Unit := ()
def tw7722337945152467793 : Unit := ()
def tw10823981769765459825 : Unit := ()
def tw16803802235717897073 : Unit := ()
def tw17018151185845708689 : Unit := ()
def tw6311275442354959281 : Unit := ()
def tw10817257581914539953 : Unit := ()
def tw5122479544180822961 : Unit := ()
def tw13968517339232558033 : Unit := ()
def tw3528967190427884497 : Unit := ()
def tw18192958744763465681 : Unit := ()
def tw14417789938375541745 : Unit := ()
def tw9058717076573593618 : Unit := ()
def tw11987888914390675474 : Unit := ()
def tw4908104018474258482 : Unit := ()
def tw17082651159005222962 : Unit := ()
def tw9509218930261729394 : Unit := ()
def tw17599133733657221266 : Unit := ()
def tw9982262189299226770 : Unit := ()
def tw13423087754378868914 : Unit := ()
def tw8894259220942136562 : Unit := ()
def tw12018984322346826994 : Unit := ()
def tw15263264060856231154 : Unit := ()
def tw11335364391032668434 : Unit := ()
def tw1575462757984892306 : Unit := ()
def tw6815177510929986962 : Unit := ()
def tw8807560630860235282 : Unit := ()
def tw1578724002821044786 : Unit := ()
def tw12368329881125202514 : Unit := ()
def tw14306349243129609842 : Unit := ()
def tw7524580804994330226 : Unit := ()
def tw6663799311204947602 : Unit := ()
def tw6453890459957700274 : Unit := ()
def tw5119313614939928242 : Unit := ()
def tw6218960966339105490 : Unit := ()
def tw696558590820201170 : Unit := ()
def tw10891079175522466514 : Unit := ()
def tw3065310094462185202 : Unit := ()
def tw11538055792459403026 : Unit := ()
def tw8476335357458372370 : Unit := ()
def tw4470999596300745554 : Unit := ()
def tw9359910810442449746 : Unit := ()
def tw5624938414848899026 : Unit := ()
def tw3721174730857936850 : Unit := ()
def tw8403654344927201299 : Unit := ()
def tw3860768806309482515 : Unit := ()
def tw8351476274332888115 : Unit := ()
def tw5538271596243438675 : Unit := ()
def tw11904988975598395475 : Unit := ()
def tw1906409808008906867 : Unit := ()
def tw7976625236608239731 : Unit := ()
def tw15336178695520978067 : Unit := ()
def tw1576608551929772211 : Unit := ()
def tw13600618656007891155 : Unit := ()
def tw15483513745384959251 : Unit := ()
def tw3588152675724660019 : Unit := ()
def tw14104900249597219123 : Unit := ()
def tw16754238215874613555 : Unit := ()
def tw1064341386368491923 : Unit := ()
def tw8180517070473214355 : Unit := ()
def tw16358055598815404435 : Unit := ()
def tw6000001690313500115 : Unit := ()
def tw10773087718836040147 : Unit := ()
def tw8106005600734093811 : Unit := ()
def tw18259869003695225331 : Unit := ()
def tw6875204653277486643 : Unit := ()
def tw10814411985022465587 : Unit := ()
def tw3837022289332181587 : Unit := ()
def tw9757810293303456339 : Unit := ()
def tw239542365891541587 : Unit := ()
def tw13824685325541772915 : Unit := ()
def tw7266556428194077299 : Unit := ()
def tw3168008720221161107 : Unit := ()
def tw6019416920349925011 : Unit := ()
def tw13536635138806728371 : Unit := ()
def tw10133877424059437779 : Unit := ()
def tw11542119933799418643 : Unit := ()
def tw6091694619633965843 : Unit := ()
def tw16919360791573521203 : Unit := ()
def tw10949352169357273907 : Unit := ()
def tw6262018953810807635 : Unit := ()
def tw1318378647883830099 : Unit := ()
def tw1309478576604044115 : Unit := ()
def tw4748583596554264435 : Unit := ()
def tw14663997563222971251 : Unit := ()
def tw1633767784807061395 : Unit := ()
def tw6097570349903488947 : Unit := ()
def tw10379526352698163155 : Unit := ()
def tw9852621139415281684 : Unit := ()
def tw4521625606004271124 : Unit := ()
def tw1296488126427861140 : Unit := ()
def tw8800648968937256084 : Unit := ()
def tw5955598628324703380 : Unit := ()
def tw10101827674745998516 : Unit := ()
def tw1169059351260802228 : Unit := ()
def tw14341234326282468532 : Unit := ()
def tw17139919024444353748 : Unit := ()
def tw12946960672482760980 : Unit := ()
def tw9721358583170793812 : Unit := ()
def tw16363610393531183444 : Unit := ()
def tw7287220078338430324 : Unit := ()
def tw1038275991383103860 : Unit := ()
def tw12541604975847897460 : Unit := ()
def tw15748358587225591188 : Unit := ()
def tw12379665599729854868 : Unit := ()
def tw2830637079567919508 : Unit := ()
def tw4260560059245971892 : Unit := ()
def tw1284372802716513748 : Unit := ()
def tw3401351343860898260 : Unit := ()
def tw16517436392894224884 : Unit := ()
def tw7089494272048523764 : Unit := ()
def tw9611743409298220628 : Unit := ()
def tw16090802505054406260 : Unit := ()
def tw8550875165349829236 : Unit := ()
def tw7934033487426029236 : Unit := ()
def tw15355869804193976020 : Unit := ()
def tw13980873879133431508 : Unit := ()
def tw10815545895947332308 : Unit := ()
def tw5747774537362471668 : Unit := ()
def tw1970009622421400340 : Unit := ()
def tw11812952757453455156 : Unit := ()
def tw1524406948095361876 : Unit := ()
def tw15135803446274630484 : Unit := ()
def tw10029481509873883028 : Unit := ()
def tw6211106180472611732 : Unit := ()
def tw7555312921839629236 : Unit := ()
def tw10327700909208854484 : Unit := ()
def tw15395309042323300340 : Unit := ()
def tw11611046578843216884 : Unit := ()
def tw1770681437726371828 : Unit := ()
def tw7352321401136644117 : Unit := ()
def tw12458761632182041685 : Unit := ()
def tw7656856340725999733 : Unit := ()
def tw14027701025795036277 : Unit := ()
def tw4750709729619809429 : Unit := ()
def tw8395472799703799957 : Unit := ()
def tw15891416956921986197 : Unit := ()
def tw2641207023076357333 : Unit := ()
def tw14020096538613390613 : Unit := ()
def tw1985708157162692949 : Unit := ()
def tw1232798482262699349 : Unit := ()
def tw13915101075297259861 : Unit := ()
def tw5892109173749175637 : Unit := ()
def tw6854003280272499125 : Unit := ()
def tw9938002090986580405 : Unit := ()
def tw3245473393512374741 : Unit := ()
def tw17185565824461237717 : Unit := ()
def tw392149663502667253 : Unit := ()
def tw6602334752718931445 : Unit := ()
def tw10457497243390072309 : Unit := ()
def tw10529091348794761717 : Unit := ()
def tw3419959846705715733 : Unit := ()
def tw1304670363788263989 : Unit := ()
def tw13219121994527044245 : Unit := ()
def tw14151331427612014261 : Unit := ()
def tw541274044107638517 : Unit := ()
def tw983066514638119701 : Unit := ()
def tw14980171902700991253 : Unit := ()
def tw17925431928642885429 : Unit := ()
def tw15489556604840934197 : Unit := ()
def tw4455983850225896309 : Unit := ()
def tw11486417092913621877 : Unit := ()
def tw17827524649782509429 : Unit := ()
def tw3685253737322021781 : Unit := ()
def tw6085190274464755605 : Unit := ()
def tw16144776273515135893 : Unit := ()
def tw68072140569009045 : Unit := ()
def tw5933663650138394549 : Unit := ()
def tw14367450855613937589 : Unit := ()
def tw2930184532379143125 : Unit := ()
def tw6681922715204285397 : Unit := ()
def tw5608807063334207477 : Unit := ()
def tw8571173058219668469 : Unit := ()
def tw12427254845429373974 : Unit := ()
def tw16182422546684849206 : Unit := ()
def tw4592006801998864438 : Unit := ()
def tw4589342455035100214 : Unit := ()
def tw4187474222475472982 : Unit := ()
def tw1849458531990569142 : Unit := ()
def tw6835052155587822806 : Unit := ()
def tw4980617469798717654 : Unit := ()
def tw5762632770784133366 : Unit := ()
def tw11477265027855378678 : Unit := ()
def tw12924505651783842070 : Unit := ()
def tw3224921901116705110 : Unit := ()
def tw14258065960115138902 : Unit := ()
def tw5270730874696707446 : Unit := ()
def tw12379170864252146070 : Unit := ()
def tw5351945754323490390 : Unit := ()
def tw10418841719512644214 : Unit := ()
def tw14264060183459357302 : Unit := ()
def tw906350631528256150 : Unit := ()
def tw14953940890212928182 : Unit := ()
def tw11485554003677522646 : Unit := ()
def tw14014637653107298006 : Unit := ()
def tw2291948073944320758 : Unit := ()
def tw16012860656967063350 : Unit := ()
def tw13624397289857529654 : Unit := ()
def tw14110718059230974774 : Unit := ()
def tw11680170549547401014 : Unit := ()
def tw13262230955207438198 : Unit := ()
def tw8848687151717425078 : Unit := ()
def tw2221889302412681142 : Unit := ()
def tw13448059340877427638 : Unit := ()
def tw11846482767326097366 : Unit := ()
def tw8937183675123434519 : Unit := ()
def tw1053586182027685943 : Unit := ()
def tw9856612963945923639 : Unit := ()
def tw8079814822793699383 : Unit := ()
def tw265770164279246967 : Unit := ()
def tw7867067931878429815 : Unit := ()
def tw8288798554848076951 : Unit := ()
def tw10356770678084432023 : Unit := ()
def tw1473464382905925815 : Unit := ()
def tw14605838852879951095 : Unit := ()
def tw11837434641878859031 : Unit := ()
def tw2799691308036378903 : Unit := ()
def tw17497342330172250423 : Unit := ()
def tw3163610724110048567 : Unit := ()
def tw5967071681477230935 : Unit := ()
def tw11017159365656241495 : Unit := ()
def tw302551011955617175 : Unit := ()
def tw6618178230677982615 : Unit := ()
def tw7198186318369740279 : Unit := ()
def tw6380092922349250071 : Unit := ()
def tw1592961255429435927 : Unit := ()
def tw3113677631071228535 : Unit := ()
def tw2171893061482254007 : Unit := ()
def tw16291343687045999287 : Unit := ()
def tw14717052217032482551 : Unit := ()
def tw12635091750161991415 : Unit := ()
def tw8593101907415336727 : Unit := ()
def tw2726585085057028887 : Unit := ()
def tw9093108230775027511 : Unit := ()
def tw6050963640592881495 : Unit := ()
def tw2868642724873146263 : Unit := ()
def tw6550147244588132247 : Unit := ()
def tw8954707016149969879 : Unit := ()
def tw6066940847644325944 : Unit := ()
def tw4600233890855730232 : Unit := ()
def tw7743956530216839320 : Unit := ()
def tw4468703361231999128 : Unit := ()
def tw11472635606344957080 : Unit := ()
def tw6021289065798358200 : Unit := ()
def tw6978340030240831704 : Unit := ()
def tw13454431427386904824 : Unit := ()
def tw6969973436877588888 : Unit := ()
def tw11865691245329045944 : Unit := ()
def tw8002059832669575640 : Unit := ()
def tw5085872233611456984 : Unit := ()
def tw13974028236691501560 : Unit := ()
def tw6655941205267201560 : Unit := ()
def tw17196912602181222936 : Unit := ()
def tw343354708559713816 : Unit := ()
def tw1984914796399912536 : Unit := ()
def tw14176797475758085752 : Unit := ()
def tw942734643019079320 : Unit := ()
def tw2751442623668165304 : Unit := ()
def tw12744596193858467512 : Unit := ()
def tw9159075190878544664 : Unit := ()
def tw2990717799482247960 : Unit := ()
def tw10141267391539379992 : Unit := ()
def tw13302407437307876152 : Unit := ()
def tw8083299893176312632 : Unit := ()
def tw12154611663285442360 : Unit := ()
def tw11794536698758190904 : Unit := ()
def tw18372911125612448632 : Unit := ()
def tw18111219512806132632 : Unit := ()
def tw9993392331372416984 : Unit := ()
def tw6120494258892453880 : Unit := ()
def tw14419436851287519224 : Unit := ()
def tw7233508161959952441 : Unit := ()
def tw8133389512463211577 : Unit := ()
def tw13585664891912148057 : Unit := ()
def tw17632798630492718265 : Unit := ()
def tw11938965388463345881 : Unit := ()
def tw13774514979793973497 : Unit := ()
def tw11108352252697146617 : Unit := ()
def tw7693570242583179577 : Unit := ()
def tw3668396261699518809 : Unit := ()
def tw12936078205296214361 : Unit := ()
def tw5548941488550226265 : Unit := ()
def tw6594387537518697849 : Unit := ()
def tw16736707779701930361 : Unit := ()
def tw3371804803569559001 : Unit := ()
def tw10566357830980306425 : Unit := ()
def tw15479818524417183257 : Unit := ()
def tw6163292540887894585 : Unit := ()
def tw16235767745130219065 : Unit := ()
def tw2676534836636809785 : Unit := ()
def tw7619300405859029593 : Unit := ()
def tw1516243164496012921 : Unit := ()
def tw11472095033845048985 : Unit := ()
def tw9589183149974950585 : Unit := ()
def tw4774329893094136505 : Unit := ()
def tw11779315845296139993 : Unit := ()
def tw3975735549712301817 : Unit := ()
def tw4110035328420601625 : Unit := ()
def tw2122704645346446169 : Unit := ()
def tw16369181803168617305 : Unit := ()
def tw11693186193320901465 : Unit := ()
def tw16836801902234383225 : Unit := ()
def tw15666764827326253977 : Unit := ()
def tw2742442215125970841 : Unit := ()
def tw9064400045196121049 : Unit := ()
def tw11368618308335575001 : Unit := ()
def tw10171147144055963641 : Unit := ()
def tw8086886981511644186 : Unit := ()
def tw8774294179432730650 : Unit := ()
def tw16529425765357831194 : Unit := ()
def tw14239638172419865658 : Unit := ()
def tw4420213725999851578 : Unit := ()
def tw13490176477751014490 : Unit := ()
def tw5900667098323004570 : Unit := ()
def tw10265823107282246842 : Unit := ()
def tw18382662434868175034 : Unit := ()
def tw9923011606135023802 : Unit := ()
def tw13832577318206220474 : Unit := ()
def tw3626961053556436154 : Unit := ()
def tw16228184404327590106 : Unit := ()
def tw14313083299399142682 : Unit := ()
def tw13814783767771694362 : Unit := ()
def tw5736613428862750010 : Unit := ()
def tw17664300299218586938 : Unit := ()
def tw15956131149149509946 : Unit := ()
def tw7066512131081828666 : Unit := ()
def tw14498674065991756122 : Unit := ()
def tw15652081559898265018 : Unit := ()
def tw8145201896126716346 : Unit := ()
def tw9655285121896662458 : Unit := ()
def tw13935360247290061242 : Unit := ()
def tw14487588934206951898 : Unit := ()
def tw6970199725665924570 : Unit := ()
def tw3189000918379815386 : Unit := ()
def tw1750811751099666938 : Unit := ()
def tw8690200566165739034 : Unit := ()
def tw16269612022766250522 : Unit := ()
def tw14801129475699605018 : Unit := ()
def tw5567893976035982874 : Unit := ()
def tw198759826116325946 : Unit := ()
def tw9297916964241367642 : Unit := ()
def tw15316008768434401882 : Unit := ()
def tw11221422233987545690 : Unit := ()
def tw1019454261749656186 : Unit := ()
def tw12554917347328663194 : Unit := ()
def tw5686576847715489434 : Unit := ()
def tw16523537548900850330 : Unit := ()
def tw15718663500856791738 : Unit := ()
def tw7276594550645793466 : Unit := ()
def tw7856104815035910906 : Unit := ()
def tw5653749699442743034 : Unit := ()
def tw1419103625555716858 : Unit := ()
def tw6826137572247711482 : Unit := ()
def tw12314354593212076826 : Unit := ()
def tw10205757129640025914 : Unit := ()
def tw8502619945042761530 : Unit := ()
def tw4697341828960520026 : Unit := ()
def tw8027931277339633498 : Unit := ()
def tw32600502267166586 : Unit := ()
def tw7428105556246613882 : Unit := ()
def tw2985035189468748698 : Unit := ()
def tw17314207890030128026 : Unit := ()
def tw3062849791500389306 : Unit := ()
def tw5852325211512297402 : Unit := ()
def tw1296163563652157402 : Unit := ()
def tw513103360797628378 : Unit := ()
def tw8994934314249849850 : Unit := ()
def tw4722503791928396794 : Unit := ()
def tw14680241125050295323 : Unit := ()
def tw5893087864845721659 : Unit := ()
def tw9871688185247368283 : Unit := ()
def tw764057423079444571 : Unit := ()
def tw2646337219935182939 : Unit := ()
def tw4843146584570828955 : Unit := ()
def tw16033196964397070555 : Unit := ()
def tw9163301807048911099 : Unit := ()
def tw13530671780660360475 : Unit := ()
def tw10135261894836643099 : Unit := ()
def tw2070747393151724827 : Unit := ()
def tw11241148326371395899 : Unit := ()
def tw12634748585753998683 : Unit := ()
def tw597232592561734011 : Unit := ()
def tw13727642042662996347 : Unit := ()
def tw17068144766537170299 : Unit := ()
def tw1000243464196161947 : Unit := ()
def tw7847950445168757147 : Unit := ()
def tw2342196831030933915 : Unit := ()
def tw1939014377814852027 : Unit := ()
def tw10644661593698047419 : Unit := ()
def tw9515065111046666683 : Unit := ()
def tw6860824675279433179 : Unit := ()
def tw16127051396050791931 : Unit := ()
def tw10466197676472278587 : Unit := ()
def tw17418794379494403707 : Unit := ()
def tw6550748260195287675 : Unit := ()
def tw17886491867413557915 : Unit := ()
def tw13223815885681188507 : Unit := ()
def tw5530779657326979739 : Unit := ()
def tw14787605006065808091 : Unit := ()
def tw5550546912098774779 : Unit := ()
def tw14462411246450545435 : Unit := ()
def tw17910813971445337883 : Unit := ()
def tw953381942612523803 : Unit := ()
def tw5863083742969655099 : Unit := ()
def tw6652484027479819131 : Unit := ()
def tw5157570158892427131 : Unit := ()
def tw16314198421268870011 : Unit := ()
def tw15536698937499116411 : Unit := ()
def tw689977922861805467 : Unit := ()
def tw2837863290690492411 : Unit := ()
def tw4291799248710016092 : Unit := ()
def tw3982311493989100636 : Unit := ()
def tw15699258779132878972 : Unit := ()
def tw5154766773971445884 : Unit := ()
def tw5791179691700554908 : Unit := ()
def tw6958405489447595164 : Unit := ()
def tw16860101341359929596 : Unit := ()
def tw1955306111099483452 : Unit := ()
def tw6011507259923653948 : Unit := ()
def tw9059123766223051100 : Unit := ()
def tw9543165257714276732 : Unit := ()
def tw13371334744810812796 : Unit := ()
def tw4187615546304892348 : Unit := ()
def tw13328382756422202812 : Unit := ()
def tw6009768738860163548 : Unit := ()
def tw17690842282509862396 : Unit := ()
def tw4501641878606430716 : Unit := ()
def tw3471504150777190908 : Unit := ()
def tw7752030993706040860 : Unit := ()
def tw7763951662163547676 : Unit := ()
def tw13301005339450639964 : Unit := ()
def tw899683789355825756 : Unit := ()
def tw13070167170441694844 : Unit := ()
def tw8047066594448089756 : Unit := ()
def tw1937009712360504988 : Unit := ()
def tw2280997923653137084 : Unit := ()
def tw7398936710456979164 : Unit := ()
def tw5559139924149070588 : Unit := ()
def tw4882100988256233244 : Unit := ()
def tw7701625379955878716 : Unit := ()
def tw5142566705774647100 : Unit := ()
def tw17436235132588911420 : Unit := ()
def tw1791896242431118172 : Unit := ()
def tw2377778884155944828 : Unit := ()
def tw14235588426861241212 : Unit := ()
def tw5083075787597162396 : Unit := ()
def tw16720788472073954236 : Unit := ()
def tw113396841747393468 : Unit := ()
def tw158728104789900220 : Unit := ()
def tw9729923405738552316 : Unit := ()
def tw893645807849265148 : Unit := ()
def tw18356909026319655932 : Unit := ()
def tw2886739988122699805 : Unit := ()
def tw5949560688145904669 : Unit := ()
def tw12254095539071052829 : Unit := ()
def tw6711125250947242045 : Unit := ()
def tw17269200992885772381 : Unit := ()
def tw1869882545346790493 : Unit := ()
def tw13725339773277655197 : Unit := ()
def tw3769504911979611325 : Unit := ()
def tw8485147839487053053 : Unit := ()
def tw4798332169499428093 : Unit := ()
def tw1233321022594229533 : Unit := ()
def tw734636217167705373 : Unit := ()
def tw17983929642229138749 : Unit := ()
def tw12175430346778100029 : Unit := ()
def tw13383837750090772829 : Unit := ()
def tw17340719877384165725 : Unit := ()
def tw15577834475326558621 : Unit := ()
def tw17270427708669694397 : Unit := ()
def tw558864993355649533 : Unit := ()
def tw2889575437627176477 : Unit := ()
def tw1286766495005559325 : Unit := ()
def tw3579304709387022877 : Unit := ()
def tw6117120289825076797 : Unit := ()
def tw3554253595647949373 : Unit := ()
def tw10381742175519593021 : Unit := ()
def tw7475289549386245693 : Unit := ()
def tw14911706421407948381 : Unit := ()
def tw10517172024148449885 : Unit := ()
def tw18313810650766045789 : Unit := ()
def tw8664801888304365149 : Unit := ()
def tw2595265357183329917 : Unit := ()
def tw8593367970900689533 : Unit := ()
def tw15804908843849775741 : Unit := ()
def tw6108466696003280541 : Unit := ()
def tw12838701371517768413 : Unit := ()
def tw4260726707791060733 : Unit := ()
def tw9023413417589436253 : Unit := ()
def tw16697651463475963773 : Unit := ()
def tw10839360742995971005 : Unit := ()
def tw15962630691290996669 : Unit := ()
def tw13154085549770350557 : Unit := ()
def tw16181114968455303133 : Unit := ()
def tw3218935681465064445 : Unit := ()
def tw1700637574084612093 : Unit := ()
def tw15209846667565517886 : Unit := ()
def tw1991350661455616094 : Unit := ()
def tw2229454341636106334 : Unit := ()
def tw10892605838959487166 : Unit := ()
def tw12335859132693369086 : Unit := ()
def tw18274876302725768446 : Unit := ()
def tw419890621961380190 : Unit := ()
def tw5292141060923594174 : Unit := ()
def tw7995218878431313342 : Unit := ()
def tw5643624011070492126 : Unit := ()
def tw2530324583049349662 : Unit := ()
def tw5609886429338446398 : Unit := ()
def tw17426554119375636030 : Unit := ()
def tw15697897389995080478 : Unit := ()
def tw10973587817161523006 : Unit := ()
def tw12519609103777533790 : Unit := ()
def tw5757810784085397374 : Unit := ()
def tw3187731241667348414 : Unit := ()
def tw1272455064062805950 : Unit := ()
def tw8552218937309916094 : Unit := ()
def tw15677740282428179454 : Unit := ()
def tw17722133058617796606 : Unit := ()
def tw17127585939587534879 : Unit := ()
def tw18226901458728358943 : Unit := ()
def tw3686316125108410399 : Unit := ()
def tw13631318137449225247 : Unit := ()
def tw1800439169710023711 : Unit := ()
def tw9015063080908754047 : Unit := ()
def tw18064667966358064255 : Unit := ()
def tw15463203176434745471 : Unit := ()
def tw8169022135069957247 : Unit := ()
def tw16850857245527532671 : Unit := ()
def tw4108668899216312479 : Unit := ()
def tw4021531051684061343 : Unit := ()
def tw6301037577173221567 : Unit := ()
def tw10869551039278465247 : Unit := ()
def tw1649288130616513759 : Unit := ()
def tw11635078232317622527 : Unit := ()
def tw5148142215007829247 : Unit := ()
def tw14811372899070910751 : Unit := ()
def tw15239006978395712831 : Unit := ()
def tw5055943956564002175 : Unit := ()
def tw1736555127261065599 : Unit := ()
def tw11205830557840337311 : Unit := ()
def tw7721803807366150623 : Unit := ()
def tw5799659198819586559 : Unit := ()
def tw9882089999926826527 : Unit := ()
def tw12735534306534697503 : Unit := ()
def tw876190624053833343 : Unit := ()
def tw5960164175526021791 : Unit := ()
def tw3184291983418755775 : Unit := ()
def tw13139745328808692511 : Unit := ()
def tw2244426086210866975 : Unit := ()
def tw4345790427250327327 : Unit := ()
def tw9201200737055457087 : Unit := ()
def tw4165213775272680287 : Unit := ()
def tw1194887868430523231 : Unit := ()
def tw3431296538938167135 : Unit := ()
def tw3022947893515209599 : Unit := ()
def tw7675105472168628127 : Unit := ()
def tw6146834893551286207 : Unit := ()
def tw2057811453406696383 : Unit := ()
def tw12673689537516681183 : Unit := ()
def tw7252471684714258399 : Unit := ()
def tw604239414860892159 : Unit := ()
end PySem.W.Fast
open PySem PySem.W PyProof.Rows
set_option maxRecDepth 100000 in
set_option maxHeartbeats 0 in
theorem PySem.Challenge.cw_blockshanded_k28_contexts_judged_holds : PySem.Challenge.rw_blockshanded_k28_contexts_judged.Holds := by
  w_on; o_law; k_head; (case hw => w_witness2)
  k_fill
  refine U.walk_law (l := PySem.Challenge.rw_blockshanded_k28_contexts_judged) (n := 63) (k := 40) (x := "_law_script") (st := K28.s_law) (sp := fun K => U.LSp K U.spLawD) rfl (by decide) rfl ⟨rfl, by decide, by decide⟩ rfl (fun w h Y => PySem.W.kIn_of Y) (fun _ _ _ _ _ _ us hl => match us, hl with | [_], _ => rfl) ?F (fun K H a ns hl _ hS => K28.law_start hl hS)
  case F =>
    intro w mg h KX G
    refine K28.fin KX G ?A
    refine' ⟨_, _, _, _, _, _, ?f⟩
    case f =>
      constructor
      case cls_Procedure => (refine' U.HasCls.mk' ?qa ?qb ?qc ?qd ?qe ?qf ?qg ?qh ?qi ?qj ?qk; (case qa => k_is); (case qb => k_is); (case qc => k_is); (case qd => k_is); (case qe => k_is); (case qf => k_is); (case qg => k_is); (case qh => k_is); (case qi => k_is); (case qj => k_is); (case qk => k_is))
      case cls_Program => (refine' U.HasCls.mk' ?qa ?qb ?qc ?qd ?qe ?qf ?qg ?qh ?qi ?qj ?qk; (case qa => k_is); (case qb => k_is); (case qc => k_is); (case qd => k_is); (case qe => k_is); (case qf => k_is); (case qg => k_is); (case qh => k_is); (case qi => k_is); (case qj => k_is); (case qk => k_is))
      case cls_Space => (refine' U.HasCls.mk' ?qa ?qb ?qc ?qd ?qe ?qf ?qg ?qh ?qi ?qj ?qk; (case qa => k_is); (case qb => k_is); (case qc => k_is); (case qd => k_is); (case qe => k_is); (case qf => k_is); (case qg => k_is); (case qh => k_is); (case qi => k_is); (case qj => k_is); (case qk => k_is))
      case cls_Reckoner => (refine' U.HasCls.mk' ?qa ?qb ?qc ?qd ?qe ?qf ?qg ?qh ?qi ?qj ?qk; (case qa => k_is); (case qb => k_is); (case qc => k_is); (case qd => k_is); (case qe => k_is); (case qf => k_is); (case qg => k_is); (case qh => k_is); (case qi => k_is); (case qj => k_is); (case qk => k_is))
      case d_is_integer => (refine' U.has_mk ?qa ?ql ?qc ?qk; (case qa => k_is); (case ql => k_is); (case qc => k_is); (case qk => k_is))
      case d_is_from => (refine' U.has_mk ?qa ?ql ?qc ?qk; (case qa => k_is); (case ql => k_is); (case qc => k_is); (case qk => k_is))
      case d_is_name => (refine' U.has_mk ?qa ?ql ?qc ?qk; (case qa => k_is); (case ql => k_is); (case qc => k_is); (case qk => k_is))
      case d_has_word => (refine' U.has_mk ?qa ?ql ?qc ?qk; (case qa => k_is); (case ql => k_is); (case qc => k_is); (case qk => k_is))
      case d_is_deed_table => (refine' U.has_mk ?qa ?ql ?qc ?qk; (case qa => k_is); (case ql => k_is); (case qc => k_is); (case qk => k_is))
      case d_is_kind => (refine' U.has_mk ?qa ?ql ?qc ?qk; (case qa => k_is); (case ql => k_is); (case qc => k_is); (case qk => k_is))
      case d_is_term_in => (refine' U.has_mk ?qa ?ql ?qc ?qk; (case qa => k_is); (case ql => k_is); (case qc => k_is); (case qk => k_is))
      case d_is_wrap_in => (refine' U.has_mk ?qa ?ql ?qc ?qk; (case qa => k_is); (case ql => k_is); (case qc => k_is); (case qk => k_is))
      case d_is_piece => (refine' U.has_mk ?qa ?ql ?qc ?qk; (case qa => k_is); (case ql => k_is); (case qc => k_is); (case qk => k_is))
      case d_are_given => (refine' U.has_mk ?qa ?ql ?qc ?qk; (case qa => k_is); (case ql => k_is); (case qc => k_is); (case qk => k_is))
      case d_inside => (refine' U.has_mk ?qa ?ql ?qc ?qk; (case qa => k_is); (case ql => k_is); (case qc => k_is); (case qk => k_is))
      case d_pieces_of => (refine' U.has_mk ?qa ?ql ?qc ?qk; (case qa => k_is); (case ql => k_is); (case qc => k_is); (case qk => k_is))
      case d_are_parameters => (refine' U.has_mk ?qa ?ql ?qc ?qk; (case qa => k_is); (case ql => k_is); (case qc => k_is); (case qk => k_is))
      case d_is_body => (refine' U.has_mk ?qa ?ql ?qc ?qk; (case qa => k_is); (case ql => k_is); (case qc => k_is); (case qk => k_is))
      case d_kind_of => (refine' U.has_mk ?qa ?ql ?qc ?qk; (case qa => k_is); (case ql => k_is); (case qc => k_is); (case qk => k_is))
      case d_are_fit => (refine' U.has_mk ?qa ?ql ?qc ?qk; (case qa => k_is); (case ql => k_is); (case qc => k_is); (case qk => k_is))
      case d_require_program => (refine' U.has_mk ?qa ?ql ?qc ?qk; (case qa => k_is); (case ql => k_is); (case qc => k_is); (case qk => k_is))
      case d_require_word => (refine' U.has_mk ?qa ?ql ?qc ?qk; (case qa => k_is); (case ql => k_is); (case qc => k_is); (case qk => k_is))
      case d_reckoner_of => (refine' U.has_mk ?qa ?ql ?qc ?qk; (case qa => k_is); (case ql => k_is); (case qc => k_is); (case qk => k_is))
      case d_is_context => (refine' U.hask_mk ?qa ?ql ?qc ?qk ?qd ?qr; (case qa => k_is); (case ql => k_is); (case qc => k_is); (case qk => k_is); (case qd => k_is); (case qr => rfl))
      case d__law_sack => (refine' U.has_mk ?qa ?ql ?qc ?qk; (case qa => k_is); (case ql => k_is); (case qc => k_is); (case qk => k_is))
      case d__law_deal => (refine' U.has_mk ?qa ?ql ?qc ?qk; (case qa => k_is); (case ql => k_is); (case qc => k_is); (case qk => k_is))
      case d__law_pick => (refine' U.has_mk ?qa ?ql ?qc ?qk; (case qa => k_is); (case ql => k_is); (case qc => k_is); (case qk => k_is))
      case d__law_deed => (refine' U.has_mk ?qa ?ql ?qc ?qk; (case qa => k_is); (case ql => k_is); (case qc => k_is); (case qk => k_is))
      case d__law_handed => (refine' U.has_mk ?qa ?ql ?qc ?qk; (case qa => k_is); (case ql => k_is); (case qc => k_is); (case qk => k_is))
      case d__law_call => (refine' U.has_mk ?qa ?ql ?qc ?qk; (case qa => k_is); (case ql => k_is); (case qc => k_is); (case qk => k_is))
      case d__law_term => (refine' U.has_mk ?qa ?ql ?qc ?qk; (case qa => k_is); (case ql => k_is); (case qc => k_is); (case qk => k_is))
      case d__law_wild => (refine' U.hasd_mk ?qa ?ql ?qc ?qk ?qd ?qr; (case qa => k_is); (case ql => k_is); (case qc => k_is); (case qk => k_is); (case qd => k_is); (case qr => first | rfl | exact ⟨_, rfl⟩))
      case d__law_framed => (refine' U.has_mk ?qa ?ql ?qc ?qk; (case qa => k_is); (case ql => k_is); (case qc => k_is); (case qk => k_is))
      case d__law_plain => (refine' U.has_mk ?qa ?ql ?qc ?qk; (case qa => k_is); (case ql => k_is); (case qc => k_is); (case qk => k_is))
      case d__law_made => (refine' U.has_mk ?qa ?ql ?qc ?qk; (case qa => k_is); (case ql => k_is); (case qc => k_is); (case qk => k_is))
      case d__law_by_name => (refine' U.has_mk ?qa ?ql ?qc ?qk; (case qa => k_is); (case ql => k_is); (case qc => k_is); (case qk => k_is))
      case d__law_powers => (refine' U.has_mk ?qa ?ql ?qc ?qk; (case qa => k_is); (case ql => k_is); (case qc => k_is); (case qk => k_is))
      case d__law_space => (refine' U.has_mk ?qa ?ql ?qc ?qk; (case qa => k_is); (case ql => k_is); (case qc => k_is); (case qk => k_is))
      case d__law_code => (refine' U.has_mk ?qa ?ql ?qc ?qk; (case qa => k_is); (case ql => k_is); (case qc => k_is); (case qk => k_is))
      case d__law_is_relation => (refine' U.has_mk ?qa ?ql ?qc ?qk; (case qa => k_is); (case ql => k_is); (case qc => k_is); (case qk => k_is))
      case d__law_is_meaning => (refine' U.has_mk ?qa ?ql ?qc ?qk; (case qa => k_is); (case ql => k_is); (case qc => k_is); (case qk => k_is))
      case d__law_due => (refine' U.has_mk ?qa ?ql ?qc ?qk; (case qa => k_is); (case ql => k_is); (case qc => k_is); (case qk => k_is))
      case d__law_values => (refine' U.has_mk ?qa ?ql ?qc ?qk; (case qa => k_is); (case ql => k_is); (case qc => k_is); (case qk => k_is))
      case d__law_right => (refine' U.has_mk ?qa ?ql ?qc ?qk; (case qa => k_is); (case ql => k_is); (case qc => k_is); (case qk => k_is))
      case d_law => (refine' U.has_mk ?qa ?ql ?qc ?qk; (case qa => k_is); (case ql => k_is); (case qc => k_is); (case qk => k_is))
      case m_Procedure___init__ => (refine' U.meth_mk ?qa ?qi ?ql ?qc ?qk ?qg ?qt ?qf ?qp; (case qa => k_is); (case qi => k_is); (case ql => k_is); (case qc => k_is); (case qk => k_is); (case qg => k_is); (case qt => k_is); (case qf => k_is); (case qp => decide +kernel))
      case m_Procedure___len__ => (refine' U.meth_mk ?qa ?qi ?ql ?qc ?qk ?qg ?qt ?qf ?qp; (case qa => k_is); (case qi => k_is); (case ql => k_is); (case qc => k_is); (case qk => k_is); (case qg => k_is); (case qt => k_is); (case qf => k_is); (case qp => decide +kernel))
      case m_Procedure___eq__ => (refine' U.meth_mk ?qa ?qi ?ql ?qc ?qk ?qg ?qt ?qf ?qp; (case qa => k_is); (case qi => k_is); (case ql => k_is); (case qc => k_is); (case qk => k_is); (case qg => k_is); (case qt => k_is); (case qf => k_is); (case qp => decide +kernel))
      case m_Procedure___str__ => (refine' U.meth_mk ?qa ?qi ?ql ?qc ?qk ?qg ?qt ?qf ?qp; (case qa => k_is); (case qi => k_is); (case ql => k_is); (case qc => k_is); (case qk => k_is); (case qg => k_is); (case qt => k_is); (case qf => k_is); (case qp => decide +kernel))
      case m_Program___init__ => (refine' U.meth_mk ?qa ?qi ?ql ?qc ?qk ?qg ?qt ?qf ?qp; (case qa => k_is); (case qi => k_is); (case ql => k_is); (case qc => k_is); (case qk => k_is); (case qg => k_is); (case qt => k_is); (case qf => k_is); (case qp => decide +kernel))
      case c_Program_of => (refine' U.cmeth_mk ?qa ?qb ?qc ?qr ?qf ?ql ?qd ?qk; (case qa => k_is); (case qb => k_is); (case qc => k_is); (case qr => k_is); (case qf => k_is); (case ql => k_is); (case qd => k_is); (case qk => k_is))
      case m_Program_has_name => (refine' U.meth_mk ?qa ?qi ?ql ?qc ?qk ?qg ?qt ?qf ?qp; (case qa => k_is); (case qi => k_is); (case ql => k_is); (case qc => k_is); (case qk => k_is); (case qg => k_is); (case qt => k_is); (case qf => k_is); (case qp => decide +kernel))
      case m_Program___getitem__ => (refine' U.meth_mk ?qa ?qi ?ql ?qc ?qk ?qg ?qt ?qf ?qp; (case qa => k_is); (case qi => k_is); (case ql => k_is); (case qc => k_is); (case qk => k_is); (case qg => k_is); (case qt => k_is); (case qf => k_is); (case qp => decide +kernel))
      case m_Program___contains__ => (refine' U.meth_mk ?qa ?qi ?ql ?qc ?qk ?qg ?qt ?qf ?qp; (case qa => k_is); (case qi => k_is); (case ql => k_is); (case qc => k_is); (case qk => k_is); (case qg => k_is); (case qt => k_is); (case qf => k_is); (case qp => decide +kernel))
      case m_Program___len__ => (refine' U.meth_mk ?qa ?qi ?ql ?qc ?qk ?qg ?qt ?qf ?qp; (case qa => k_is); (case qi => k_is); (case ql => k_is); (case qc => k_is); (case qk => k_is); (case qg => k_is); (case qt => k_is); (case qf => k_is); (case qp => decide +kernel))
      case m_Program___str__ => (refine' U.meth_mk ?qa ?qi ?ql ?qc ?qk ?qg ?qt ?qf ?qp; (case qa => k_is); (case qi => k_is); (case ql => k_is); (case qc => k_is); (case qk => k_is); (case qg => k_is); (case qt => k_is); (case qf => k_is); (case qp => decide +kernel))
      case i_Space => (refine' U.initk_mk ?qa ?qi ?ql ?qc ?qk ?qg ?qt ?qf ?qd ?qr ?qp; (case qa => k_is); (case qi => k_is); (case ql => k_is); (case qc => k_is); (case qk => k_is); (case qg => k_is); (case qt => k_is); (case qf => k_is); (case qd => k_is); (case qr => rfl); (case qp => decide +kernel))
      case m_Space_is_relation => (refine' U.meth_mk ?qa ?qi ?ql ?qc ?qk ?qg ?qt ?qf ?qp; (case qa => k_is); (case qi => k_is); (case ql => k_is); (case qc => k_is); (case qk => k_is); (case qg => k_is); (case qt => k_is); (case qf => k_is); (case qp => decide +kernel))
      case m_Space_is_table => (refine' U.meth_mk ?qa ?qi ?ql ?qc ?qk ?qg ?qt ?qf ?qp; (case qa => k_is); (case qi => k_is); (case ql => k_is); (case qc => k_is); (case qk => k_is); (case qg => k_is); (case qt => k_is); (case qf => k_is); (case qp => decide +kernel))
      case m_Reckoner___init__ => (refine' U.meth_mk ?qa ?qi ?ql ?qc ?qk ?qg ?qt ?qf ?qp; (case qa => k_is); (case qi => k_is); (case ql => k_is); (case qc => k_is); (case qk => k_is); (case qg => k_is); (case qt => k_is); (case qf => k_is); (case qp => decide +kernel))
      case m_Reckoner_is_meaning => (refine' U.meth_mk ?qa ?qi ?ql ?qc ?qk ?qg ?qt ?qf ?qp; (case qa => k_is); (case qi => k_is); (case ql => k_is); (case qc => k_is); (case qk => k_is); (case qg => k_is); (case qt => k_is); (case qf => k_is); (case qp => decide +kernel))
      case m_Reckoner_is_context => (refine' U.meth_mk ?qa ?qi ?ql ?qc ?qk ?qg ?qt ?qf ?qp; (case qa => k_is); (case qi => k_is); (case ql => k_is); (case qc => k_is); (case qk => k_is); (case qg => k_is); (case qt => k_is); (case qf => k_is); (case qp => decide +kernel))
      case n_Procedure_own_name => (refine' U.noattr_mk ?qa; (case qa => k_is))
      case n_Procedure_own_parameters => (refine' U.noattr_mk ?qa; (case qa => k_is))
      case n_Procedure_own_body => (refine' U.noattr_mk ?qa; (case qa => k_is))
      case n_Procedure_own_kinds => (refine' U.noattr_mk ?qa; (case qa => k_is))
      case n_Procedure_own_pieces => (refine' U.noattr_mk ?qa; (case qa => k_is))
      case n_Procedure_own_shape => (refine' U.noattr_mk ?qa; (case qa => k_is))
      case n_Program_own_has_wraps => (refine' U.noattr_mk ?qa; (case qa => k_is))
      case n_Program_own_modes => (refine' U.noattr_mk ?qa; (case qa => k_is))
      case n_Space_own_modes => (refine' U.noattr_mk ?qa; (case qa => k_is))
      case n_Program_own_procedures => (refine' U.noattr_mk ?qa; (case qa => k_is))
      case n_Program_own_table => (refine' U.noattr_mk ?qa; (case qa => k_is))
      case n_Space_own_watched => (refine' U.noattr_mk ?qa; (case qa => k_is))
      case n_Space_own_ends => (refine' U.noattr_mk ?qa; (case qa => k_is))
      case n_Space_own_powers => (refine' U.noattr_mk ?qa; (case qa => k_is))
      case n_Space_own_size => (refine' U.noattr_mk ?qa; (case qa => k_is))
      case n_Space_own_same => (refine' U.noattr_mk ?qa; (case qa => k_is))
      case n_Reckoner_own_program => (refine' U.noattr_mk ?qa; (case qa => k_is))
      case n_Reckoner_own_word => (refine' U.noattr_mk ?qa; (case qa => k_is))
      case n_Reckoner_own_space => (refine' U.noattr_mk ?qa; (case qa => k_is))
      case x_InvalidProgram => (refine' ⟨?qa, ?qb, ?qc, ?qd, ?qe⟩; (case qa => k_is); (case qb => k_exc); (case qc => k_is); (case qd => k_is); (case qe => k_is))
      case x_InvalidOperation => (refine' ⟨?qa, ?qb, ?qc, ?qd, ?qe⟩; (case qa => k_is); (case qb => k_exc); (case qc => k_is); (case qd => k_is); (case qe => k_is))
      case em_InvalidProgram_InvalidProgram => (first | k_is | kernel_rfl)
      case em_InvalidProgram_InvalidOperation => (first | k_is | kernel_rfl)
      case em_InvalidOperation_InvalidProgram => (first | k_is | kernel_rfl)
      case em_InvalidOperation_InvalidOperation => (first | k_is | kernel_rfl)
      case ne_Procedure => (k_is)
      case kt_NoneType => (refine' U.kit_mk ?qa ?qb ?qc; (case qa => k_is); (case qb => k_is); (case qc => k_is))
      case nf_NoneType => (k_is)
      case kt_bool => (refine' U.kit_mk ?qa ?qb ?qc; (case qa => k_is); (case qb => k_is); (case qc => k_is))
      case nf_bool => (k_is)
      case kt_int => (refine' U.kit_mk ?qa ?qb ?qc; (case qa => k_is); (case qb => k_is); (case qc => k_is))
      case nf_int => (k_is)
      case kt_str => (refine' U.kit_mk ?qa ?qb ?qc; (case qa => k_is); (case qb => k_is); (case qc => k_is))
      case nf_str => (k_is)
      case kt_list => (refine' U.kit_mk ?qa ?qb ?qc; (case qa => k_is); (case qb => k_is); (case qc => k_is))
      case nf_list => (k_is)
      case kt_tuple => (refine' U.kit_mk ?qa ?qb ?qc; (case qa => k_is); (case qb => k_is); (case qc => k_is))
      case nf_tuple => (k_is)
      case kt_dict => (refine' U.kit_mk ?qa ?qb ?qc; (case qa => k_is); (case qb => k_is); (case qc => k_is))
      case nf_dict => (k_is)
      case mr_str => (k_is)
      case z_IndexError => (k_is)
      case z_KeyError => (k_is)
      case z_abs => (k_is)
      case z_all => (k_is)
      case z_any => (k_is)
      case z_bool => (k_is)
      case z_dict => (k_is)
      case z_int => (k_is)
      case z_isinstance => (k_is)
      case z_len => (k_is)
      case z_list => (k_is)
      case z_max => (k_is)
      case z_min => (k_is)
      case z_range => (k_is)
      case z_repr => (k_is)
      case z_sorted => (k_is)
      case z_str => (k_is)
      case z_sum => (k_is)
      case z_tuple => (k_is)
      case z_zip => (k_is)
      case c_LETTERS => (refine' U.cst_str ?qe; (case qe => k_is))
      case c_MAX_LETTERS => (refine' U.cst_int ?qe; (case qe => k_is))
      case c_BLOCK => (refine' U.cst_str ?qe; (case qe => k_is))
      case c_WRAP => (refine' U.cst_str ?qe; (case qe => k_is))
      case c_TERM_WORDS => (refine' U.kstrs_mk ?qa ?qb ?qc ?qd; (case qa => k_is); (case qb => k_is); (case qc => decide +kernel); (case qd => exact (.cons ⟨_, rfl⟩ (.cons ⟨_, rfl⟩ (.cons ⟨_, rfl⟩ (.cons ⟨_, rfl⟩ (.cons ⟨_, rfl⟩ (.cons ⟨_, rfl⟩ .nil))))))))
      case c_WRAP_WORDS => (refine' U.kstrs_mk ?qa ?qb ?qc ?qd; (case qa => k_is); (case qb => k_is); (case qc => decide +kernel); (case qd => exact (.cons ⟨_, rfl⟩ (.cons ⟨_, rfl⟩ .nil))))
      case c_MAX_PARAMETERS => (refine' U.cst_int ?qe; (case qe => k_is))
      case c_MAX_DEPTH => (refine' U.cst_int ?qe; (case qe => k_is))
      case c_MAX_TERMS => (refine' U.cst_int ?qe; (case qe => k_is))
      case c_MAX_MODES => (refine' U.cst_int ?qe; (case qe => k_is))
      case c_MAIN => (refine' U.cst_str ?qe; (case qe => k_is))
      case c_MAX_PROCEDURES => (refine' U.cst_int ?qe; (case qe => k_is))
#print axioms PySem.Challenge.cw_blockshanded_k28_contexts_judged_holds
