import PyProof.Rows.All
import Wide.All
import OpenK.AllK
import Wide.FinOn
import HandS.ForMost
import HandS.IsInst
import HandS.Flow
import HandS.Wide
import HandS.Style
import HandS.RaiseMore
import HandS.Steps
import HandS.MakeKwOnly
import HandS.Property
import HandS.OwnEq
import HandS.MethStar
import HandS.TupSets
import HandS.Deep
import HandS.FStr
import HandS.TupAny
import HandS.TupMul
import HandS.Conv
import HandS.Zip
import HandS.Lambda
import HandS.Exc
import PyProof.Rows.SeqMore
import PyProof.ListMulAny
import HandS.TryOnly
import HandS.WideBits
import PyProof.WalksMore
import KE.KUnpackStar
import HandS.SetBool
import HandS.SetFor
import HandS.More
import HandS.Dict
import PyProof.AttrMissHeap
import PyProof.NeKinds
import HandS.ExcOwn
import HandS.Small
import HandS.TryMany
import HandS.WordsExc
import HandS.EndTab
import HandS.HeadWalk
import HandS.DictComp
import HandS.ClsMeth
import HandS.Star
import PyProof.Rows.SortShellAny
import PyProof.EqKinds
import PyProof.Claim2Refuses
import KE.KExcInit
import HandS.ExcInit
import HandS.ExcField
import PyProof.RulesRaise
import PyProof.FactsTree
import HandS.ExcIs
import KE.GoesMore
import KE.GoesEnum
import KE.KIsAll
import KE.KTryMore
import HandS.ExcValue
import PySem.Challenge.RW_blockshanded_k00_errors_and_what_they_ke
set_option Elab.async false
set_option linter.all false
set_option maxRecDepth 100000
set_option maxHeartbeats 2000000
namespace U
open PySem PySem.Spec PyProof.Rows L2
section
variable {X : Cx} {a b c e : Expr} {ta tb tc te t t' : TE} {pos : Pos}
theorem imp (h : PE X e t) (f : ∀ σ H Q, t' σ H Q → t σ H Q) : PE X e t' := ⟨fun pins s σ H Q I q => h.run pins s σ H Q I (f σ H Q q)⟩
theorem callImp {f : Value} {r r' : List V → Hp → VK → Prop} (h : CallR X f r) (g : ∀ xs H Q, r' xs H Q → r xs H Q) : CallR X f r' :=
  fun pins s σ H xs us Q I rx q => h pins s σ H xs us Q I rx (g xs H Q q)
/-- several rules of one operation, chosen by the values -/
theorem opCases {f : Value → Value → Sem Value} {r : R2} (h : ∀ x y H Q, r x y H Q → ∃ r' : R2, OpR X f r' ∧ r' x y H Q) : OpR X f r :=
  fun pins s σ H x y v u Q I rx ry q => let ⟨_, o, q'⟩ := h x y H Q q; o pins s σ H x y v u Q I rx ry q'
theorem callCases {f : Value} {r : List V → Hp → VK → Prop} (h : ∀ xs H Q, r xs H Q → ∃ r' : List V → Hp → VK → Prop, CallR X f r' ∧ r' xs H Q) : CallR X f r :=
  fun pins s σ H xs us Q I rx q => let ⟨_, o, q'⟩ := h xs H Q q; o pins s σ H xs us Q I rx q'

def fVar (i : Nat) : TE := fun σ H Q => match σ[i]? with | some (some v) => Q v H | _ => False
theorem n (i : Nat) {x : Str} {pos : Pos} (hN : X.N[i]? = some x := by rfl) (hv : Vis X.env.scope x := by first | exact Or.inl rfl | exact Or.inr (Or.inl rfl) | exact Or.inr (Or.inr rfl))
    (hd : (x == ("__debug__" : Str)) = false := by decide) (hcd : (x == ("__classdict__" : Str)) = false := by decide) : PE X (.Name x pos) (fVar i) :=
  imp (pe_var hN hv hd hcd) fun σ H Q h => by
    unfold fVar at h
    split at h
    · rename_i v e
      exact ⟨v, e, h⟩
    · exact h.elim

def fAdd : R2 := fun x y H Q => match x, y with
  | .int i, .int j => Q (.int (i + j)) H
  | .int i, .bl k => Q (.int (i + b2i k)) H
  | .str a, .str b => a.length + b.length ≤ sizeLine ∧ Q (.str (a ++ b)) H
  | .ref l, .ref r => rCat (.ref l) (.ref r) H Q
  | _, _ => False
theorem o_add : OpR X (binaryOp .Add) fAdd := opCases fun x y H Q h => by
  cases x <;> cases y <;> first | exact h.elim | skip
  · exact ⟨_, op_add_ib, _, _, rfl, rfl, h⟩
  · exact ⟨_, op_add, _, _, rfl, rfl, h⟩
  · exact ⟨_, op_add_str, _, _, rfl, rfl, h.1, h.2⟩
  · exact ⟨_, op_cat, h⟩
def fSub : R2 := fun x y H Q => match x, y with
  | .int i, .int j => Q (.int (i - j)) H
  | _, _ => False
theorem o_sub : OpR X (binaryOp .Sub) fSub := opCases fun x y H Q h => by
  cases x <;> cases y <;> first | exact h.elim | exact ⟨_, op_sub, _, _, rfl, rfl, h⟩
def fMul : R2 := fun x y H Q => match x, y with
  | .int i, .int j => CMul i j ∧ Q (.int (i * j)) H
  | .ref l, .int k => rRep (.ref l) (.int k) H Q
  | _, _ => False
theorem o_mul : OpR X (binaryOp .Mult) fMul := opCases fun x y H Q h => by
  cases x <;> cases y <;> first | exact h.elim | exact ⟨_, op_mul, _, _, rfl, rfl, h.1, h.2⟩ | exact ⟨_, op_rep, h⟩
def fDiv : R2 := fun x y H Q => match x, y with
  | .int i, .int j => CDiv i j ∧ Q (.int (i / j)) H
  | _, _ => False
theorem o_div : OpR X (binaryOp .FloorDiv) fDiv := opCases fun x y H Q h => by
  cases x <;> cases y <;> first | exact h.elim | exact ⟨_, op_fdiv, _, _, rfl, rfl, h.1, h.2⟩
def fMod : R2 := fun x y H Q => match x, y with
  | .int i, .int j => 0 < j ∧ Q (.int (i % j)) H
  | _, _ => False
theorem o_mod : OpR X (binaryOp .Mod) fMod := opCases fun x y H Q h => by
  cases x <;> cases y <;> first | exact h.elim | exact ⟨_, op_mod, _, _, rfl, rfl, h.1, h.2⟩
/-- a written power of written numbers -/
def CPowW (i j : Int) : Prop := 0 ≤ j ∧ (Builtin.Int.intBits i : Int) * j ≤ 2 ^ 27
theorem op_powW : OpR X (binaryOp .Pow) (rI CPowW fun i j => .int (i ^ j.toNat)) := opI fun _ _ _ _ _ _ _ hc q => pow_int hc.1 hc.2 q
def fPow : R2 := fun x y H Q => match x, y with
  | .int i, .int j => CPowW i j ∧ Q (.int (i ^ j.toNat)) H
  | _, _ => False
theorem o_pow : OpR X (binaryOp .Pow) fPow := opCases fun x y H Q h => by
  cases x <;> cases y <;> first | exact h.elim | exact ⟨_, op_powW, _, _, rfl, rfl, h.1, h.2⟩

def fLt : R2 := fun x y H Q => match x, y with
  | .int i, .int j => Q (.bl (decide (i < j))) H
  | .str a, .str b => Q (.bl (decide (a.cps.toList < b.cps.toList))) H
  | _, _ => False
def fGt : R2 := fun x y H Q => match x, y with
  | .int i, .int j => Q (.bl (decide (j < i))) H
  | .str a, .str b => Q (.bl (decide (b.cps.toList < a.cps.toList))) H
  | _, _ => False
theorem o_lt : OpR X (compareOp .Lt) fLt := opCases fun x y H Q h => by
  cases x <;> cases y <;> first | exact h.elim | exact ⟨_, op_lt, _, _, rfl, rfl, h⟩ | exact ⟨_, op_lt_str, _, _, rfl, rfl, h⟩
theorem o_gt : OpR X (compareOp .Gt) fGt := opCases fun x y H Q h => by
  cases x <;> cases y <;> first | exact h.elim | exact ⟨_, op_gt, _, _, rfl, rfl, h⟩ | exact ⟨_, op_gt_str, _, _, rfl, rfl, h⟩
/-- == of two scalars at once; of data by what it holds -/
def fEq (K : PySem.W.Frag) : R2 := fun x y H Q => match x, y with
  | .int i, .int j => Q (.bl (decide (i = j))) H
  | .str a, .str b => Q (.bl (decide (a = b))) H
  | .bl a, .bl b => Q (.bl (decide (a = b))) H
  | _, _ => rEqD K x y H Q
def fNe (K : PySem.W.Frag) : R2 := fun x y H Q => match x, y with
  | .int i, .int j => Q (.bl (!decide (i = j))) H
  | .str a, .str b => Q (.bl (!decide (a = b))) H
  | .bl a, .bl b => Q (.bl (!decide (a = b))) H
  | _, _ => rNeD K x y H Q
theorem dI {i j : Int} : decide (V.int i = V.int j) = decide (i = j) := by simp
theorem dS {i j : Str} : decide (V.str i = V.str j) = decide (i = j) := by simp
theorem dB {i j : Bool} : decide (V.bl i = V.bl j) = decide (i = j) := by simp
theorem o_eq (hu : X.A.units + 64 < cLine) : OpR X (compareOp .Eq) (fEq X.K) := opCases fun x y H Q h => by
  cases x <;> cases y <;> first | exact ⟨_, op_eqD hu, h⟩ | exact ⟨_, op_eq, rfl, by rw [dI]; exact h⟩ | exact ⟨_, op_eq, rfl, by rw [dS]; exact h⟩ | exact ⟨_, op_eq, rfl, by rw [dB]; exact h⟩
theorem o_ne (hu : X.A.units + 64 < cLine) : OpR X (compareOp .NotEq) (fNe X.K) := opCases fun x y H Q h => by
  cases x <;> cases y <;> first | exact ⟨_, op_neD hu, h⟩ | exact ⟨_, op_ne, rfl, by rw [dI]; exact h⟩ | exact ⟨_, op_ne, rfl, by rw [dS]; exact h⟩ | exact ⟨_, op_ne, rfl, by rw [dB]; exact h⟩
def fTest (t : TE) : TT := fun σ H Q => t σ H fun x H' => match x with
  | .bl k => Q k H'
  | _ => False
theorem fTest_eq : fTest = tTest := by
  funext t σ H Q
  show t σ H _ = t σ H _
  congr 1
  funext x H'
  cases x <;> simp
/-- a comparison as a test, as a value -/
theorem tcm {op : CmpOp} {r : R2} (ho : OpR X (compareOp op) r) (ha : PE X a ta) (hb : PE X b tb) (hm : behindInMarks op b = false := by first | exact nomark _ | rfl) : PT X (.Compare a [op] [b] pos) (fTest (tOp r ta tb)) := by
  rw [fTest_eq]; exact pt_cmpR ho ha hb hm
theorem ecm {op : CmpOp} {r : R2} (ho : OpR X (compareOp op) r) (ha : PE X a ta) (hb : PE X b tb) (hm : behindInMarks op b = false := by first | exact nomark _ | rfl) : PE X (.Compare a [op] [b] pos) (tOp r ta tb) := pe_cmpR ho ha hb hm
/-- any value as a test -/
def fTru (K : PySem.W.Frag) (t : TE) : TT := fun σ H Q => t σ H fun x H' => match x with
  | .bl k => Q k H'
  | .non => Q false H'
  | .int i => Q (i != 0) H'
  | .str y => y.length ≤ sizeLine ∧ Q ((y.length : Int) != 0) H'
  | x => ∃ k, TruV K x H' k ∧ Q k H'
theorem fTru_eq {K : PySem.W.Frag} {t : TE} : fTru K t = fun σ H Q => t σ H fun x H' => ∃ k, TruV K x H' k ∧ Q k H' := by
  funext σ H Q
  show t σ H _ = t σ H _
  congr 1
  funext x H'
  cases x <;> first | (apply propext; exact ⟨fun ⟨h1, h2⟩ => ⟨_, ⟨h1, rfl⟩, h2⟩, fun ⟨k, ⟨h1, h2⟩, h3⟩ => ⟨h1, h2 ▸ h3⟩⟩) | simp [TruV]
theorem tv (ha : PE X a ta) (he : ∀ whole, isTrue a X.env whole = (do let v ← whole; standAt a.pos; holding [v] (truthy v)) := by intro _; rfl) : PT X a (fTru X.K ta) := by
  rw [fTru_eq]; exact pt_truth ha he
variable {rest : List Expr}
def fAbs : List V → Hp → VK → Prop := fun xs H Q => match xs with
  | [.int i] => Q (.int (if i < 0 then -i else i)) H
  | _ => False
theorem c_abs : CallR X (.builtin "abs") fAbs := callImp call_abs fun xs H Q h => by
  unfold fAbs at h; split at h
  · exact ⟨_, rfl, h⟩
  · exact h.elim
def fMax : List V → Hp → VK → Prop := fun xs H Q => match xs with
  | [.int i, .int j] => Q (.int (if j > i then j else i)) H
  | _ => False
theorem c_max (hc : X.calm = true) : CallR X (.builtin "max") fMax := callImp (call_max2 hc) fun xs H Q h => by
  unfold fMax at h; split at h
  · exact ⟨_, _, rfl, h⟩
  · exact h.elim
def fMin : List V → Hp → VK → Prop := fun xs H Q => match xs with
  | [.int i, .int j] => Q (.int (if j < i then j else i)) H
  | _ => False
theorem c_min (hc : X.calm = true) : CallR X (.builtin "min") fMin := callImp (call_min2 hc) fun xs H Q h => by
  unfold fMin at h; split at h
  · exact ⟨_, _, rfl, h⟩
  · exact h.elim
def fInt : List V → Hp → VK → Prop := fun xs H Q => match xs with
  | [.int i] => Q (.int i) H
  | [.bl k] => Q (.int (if k then 1 else 0)) H
  | _ => False
theorem c_int : CallR X (.type "int") fInt := callImp call_int1 fun xs H Q h => by
  unfold fInt at h; split at h
  · exact .inl ⟨_, rfl, h⟩
  · exact .inr ⟨_, rfl, h⟩
  · exact h.elim
def fLen (K : PySem.W.Frag) : List V → Hp → VK → Prop := fun xs H Q => match xs with
  | [.str y] => y.length ≤ sizeLine ∧ Q (.int y.length) H
  | [.ref p] => ∃ n : Nat, ((∃ xs, SqL K H p xs ∧ n = xs.length) ∨ ∃ xs, SqT K H p xs ∧ n = xs.length) ∧ Q (.int n) H
  | _ => False
theorem c_len : CallR X (.builtin "len") (fLen X.K) := callImp call_len fun xs H Q h => by
  unfold fLen at h; split at h
  · exact ⟨_, _, rfl, ⟨h.1, rfl⟩, h.2⟩
  · obtain ⟨n, h1, h2⟩ := h
    exact ⟨_, n, rfl, h1, h2⟩
  · exact h.elim
theorem set (i : Nat) {x : Str} {pos' : Pos} {te : TE} (hN : X.N.Nodup) (he : PE X e te) (hi : X.N[i]? = some x := by rfl) (hx : Loc X.env.scope x := by first | exact Or.inl rfl | exact Or.inr rfl) (hs : swapsWith e (some (.Name x pos')) pos.line X.env = pure false := by rfl)
    (hf : X.fn x = true ∨ X.env.scope.names.lookup x = some .local := by first | exact .inl rfl | exact .inr rfl) : PS X (.Assign [.Name x pos'] e pos) (tAsg te (gName i)) := ps_set hN hi hx he hs hf
theorem gn (i : Nat) {x : Str} {pos : Pos} (hN : X.N.Nodup) (hi : X.N[i]? = some x := by rfl) (hx : Loc X.env.scope x := by first | exact Or.inl rfl | exact Or.inr rfl)
    (hf : X.fn x = true ∨ X.env.scope.names.lookup x = some .local := by first | exact .inl rfl | exact .inr rfl) : PG X (.Name x pos) (gName i) := pg_name hN hi hx hf
/-- o[i] = v on a list -/
def fSetL : V → V → V → Hp → (Hp → Prop) → Prop := fun o i v H Q => match o, i with
  | .ref p, .int k => ∃ xs j, H p = some (.lst xs) ∧ ixN xs.length k = some j ∧ Q (upd H p (.lst (xs.set j v)))
  | _, _ => False
theorem s_list : PSet X fSetL := fun pins s σ H o i v ov iv u Q I r1 r2 r3 h => by
  cases o <;> cases i <;> first | exact h.elim | skip
  obtain ⟨xs, j, h1, h2, h3⟩ := h
  exact set_list pins s σ H _ _ v ov iv u Q I r1 r2 r3 ⟨_, xs, _, j, rfl, rfl, h1, h2, h3⟩
/-- xs[i]: a list, a tuple, a text -/
def fIx (K : PySem.W.Frag) : R2 := fun x y H Q => match x, y with
  | .str z, .int i => z.length ≤ sizeLine ∧ ∃ c, atI z.cps.toList i = some c ∧ Q (.str ⟨#[c]⟩) H
  | .ref p, .int i => ∃ xs v, (SqL K H p xs ∨ SqT K H p xs) ∧ atI xs i = some v ∧ Q v H
  | _, _ => False
theorem x_seq : IxR X (fIx X.K) := fun value slice pins s σ H x y v u Q I rx ry h hs => by
  cases x <;> cases y <;> first | exact h.elim | skip
  · obtain ⟨h1, c, h2, h3⟩ := h
    exact ix_str value slice pins s σ H _ _ v u Q I rx ry ⟨_, _, c, rfl, rfl, h1, h2, h3⟩ hs
  · obtain ⟨xs, z, h1 | h1, h2, h3⟩ := h
    · exact ix_list value slice pins s σ H _ _ v u Q I rx ry ⟨_, xs, _, z, rfl, rfl, h1, h2, h3⟩ hs
    · exact ix_tup value slice pins s σ H _ _ v u Q I rx ry ⟨_, xs, _, z, rfl, rfl, h1, h2, h3⟩ hs
theorem ix (ha : PE X a ta) (hb : PE X b tb) (hs : PlainIx b := by exact fun _ _ => rfl) : PE X (.Subscript a b pos) (tOp (fIx X.K) ta tb) := pe_ix x_seq ha hb hs
end
theorem b_len : bootBuiltins "len" = some (.builtin "len") := by decide +kernel
theorem b_abs : bootBuiltins "abs" = some (.builtin "abs") := by decide +kernel
theorem b_max : bootBuiltins "max" = some (.builtin "max") := by decide +kernel
theorem b_min : bootBuiltins "min" = some (.builtin "min") := by decide +kernel
theorem b_repr : bootBuiltins "repr" = some (.builtin "repr") := by decide +kernel
theorem b_isinstance : bootBuiltins "isinstance" = some (.builtin "isinstance") := by decide +kernel
theorem b_int : bootBuiltins "int" = some (.type "int") := by decide +kernel
section
variable {X : Cx} {e : Expr} {es : List Expr} {t : TA} {p pos : Pos} {x : Str}
theorem e_ty {T : String} (m : X.mg x = none) (hv : bootBuiltins x = some (.type T)) (hg : Gl X x := by rfl) (hn : x ≠ "__name__" := by decide) (hd : (x == ("__debug__" : Str)) = false := by decide) : PE X (.Name x pos) (tC (.ty T)) := pe_bltn hg m hv rfl hn hd
def kinds : List String := ["NoneType", "bool", "int", "str", "list", "tuple", "dict"]
end
/-- the def st stands under the name x -/
structure HasDef (K : PySem.W.Frag) (x : Str) (st : Stmt) : Prop where
  ex : ∃ f fd, Fun K x x st f fd ∧ PySem.W.nsIn K mainGlobals x = some (some (.ref f))
theorem has_mk {K : PySem.W.Frag} {x : Str} {st : Stmt} {f : Addr} {oc : Value} {od an : Option Addr} {osl : Array (Option Value)} {kV doc pm cdv ct : Value} (a : PySem.W.nsIn K mainGlobals x = some (some (.ref f)))
    (l : K.lookup f = some ⟨oc, od, .func (PySem.W.fnOf x x (defArgs st) (defBody st) (defScope st) .none kV doc pm an cdv ct), osl⟩) (c : PySem.W.codeIn K cdv x = true) (k : PySem.W.keepIn K (.ref f) = true) : HasDef K x st := ⟨_, _, fun_mk l c k, a⟩
/-- what the module's names hold -/
structure MgOf (K : PySem.W.Frag) (mg : Str → Option Value) : Prop where
  of : ∀ x v, PySem.W.nsIn K mainGlobals x = some v → mg x = v
theorem MgOf.mk' {K : PySem.W.Frag} {h : Heap} {mg : Str → Option Value} (X : K.In h) (G : h.Ns mainGlobals mg) : MgOf K mg := ⟨fun x v e => by
  cases v with
  | none => exact PySem.W.mg_none_of X G e
  | some v => exact PySem.W.mg_of X G e⟩
/-- a def that keeps its promise -/
structure Known (P : Program) (w : World) (K : PySem.W.Frag) (mg : Str → Option Value) (base : Heap) (CX : CXT) (x : Str) (k : Nat) (ps : List Str) (sp : Sp) : Prop where
  ex : ∃ f fd, FnOk P w K mg base CX k f fd ps sp ∧ mg x = some (.ref f) ∧ PySem.W.keepIn K (.ref f) = true ∧ Binds K fd ps []
theorem Known.imp {P : Program} {w : World} {K : PySem.W.Frag} {mg : Str → Option Value} {base : Heap} {CX : CXT} {x : Str} {k : Nat} {ps : List Str} {sp sp' : Sp} (D : Known P w K mg base CX x k ps sp) (h : ∀ vs H Q E, sp' vs H Q E → sp vs H Q E) : Known P w K mg base CX x k ps sp' := by
  obtain ⟨f, fd, F, r⟩ := D.ex
  exact ⟨f, fd, F.imp h, r⟩
theorem Known.of {P : Program} {w : World} {K : PySem.W.Frag} {mg : Str → Option Value} {base : Heap} {x : Str} {st : Stmt} {N ps : List Str} {k : Nat} {sp : Sp} (F : HasDef K x st) (M : MgOf K mg) (S : FnScope N ps (defScope st))
    (hb : ∀ (kV doc pm : Value) (an : Option Addr) (cdv ct : Value) (us : List Value), us.length = ps.length → bindArgs (PySem.W.fnOf x x (defArgs st) (defBody st) (defScope st) .none kV doc pm an cdv ct) ⟨us, []⟩ = pure (ps.zip us))
    (len : ∀ vs H Q E, sp vs H Q E → vs.length = ps.length)
    (hbody : ∀ (f : Addr) (cdv : Value) (A : Around) (outer : List Env) (s : Shared) (H : Hp) (vs : List V) (Q : VK) (E : XK), Room k (A.deeper (envOfC x (defScope st) s.heap.objs.size f cdv)) → sp vs H Q E →
      ∃ t, PSs (cxOf CX0 P w K mg base N x (defScope st) f cdv A outer s H E).nox (defBody st) t ∧ t { nx := fun _ H' => Q .non H', rt := Q } (start N vs) H) : Known P w K mg base CX0 x (k + 1) ps sp := by
  obtain ⟨f, fd, F, e⟩ := F.ex
  exact ⟨f, fd, F.ok S len (hbody f), M.of _ _ e, F.kp, F.binds hb⟩
section
variable {X : Cx} {CX : CXT} {k : Nat} {ps : List Str} {sp : Sp} {E : XK} {x : Str} {p pos : Pos} {e : Expr} {es : List Expr} {t : TA}
def fCall (sp : Sp) (E : XK) (t : TA) : TE := fun σ H Q => t σ H fun vs H1 => sp vs H1 Q E
theorem callX (D : Known X.prog X.w X.K X.mg X.base CX x k ps sp) (hr : Room k X.A) (hx : Passes CX X E) (ha : PA X (e :: es) t) (hg : Gl X x := by rfl) (hdb : (x == ("__debug__" : Str)) = false := by decide)
    (he : starEach (e :: es) X.env = (false, eval e X.env) :: starEach es X.env := by rfl) (hpl : (backTo pos (starEach es X.env)).any (·.1) = false := by rfl) : PE X (.Call (.Name x p) (e :: es) [] pos) (fCall sp E t) := by
  obtain ⟨f, fd, F, m, kp, b⟩ := D.ex
  have h : tCall sp [] E t = fCall sp E t := by
    funext σ H Q
    show t σ H (fun vs H1 => sp (vs ++ []) H1 Q E) = _
    simp only [List.append_nil]
    rfl
  rw [← h]
  exact pe_call F hr hg m kp b .nil hx ha hdb he hpl
theorem call (D : Known X.prog X.w X.K X.mg X.base CX0 x k ps sp) (hr : Room k X.A) (ha : PA X (e :: es) t) (hg : Gl X x := by rfl) (hdb : (x == ("__debug__" : Str)) = false := by decide)
    (he : starEach (e :: es) X.env = (false, eval e X.env) :: starEach es X.env := by rfl) (hpl : (backTo pos (starEach es X.env)).any (·.1) = false := by rfl) : PE X (.Call (.Name x p) (e :: es) [] pos) (fCall sp E0 t) := callX D hr pass0 ha hg hdb he hpl
end
section
variable {X : Cx} {pos : Pos} {x : Str}
end
theorem ifF {c A B : Prop} [Decidable c] (h : ¬ c) (b : B) : if c then A else B := by rw [if_neg h]; exact b
end U
set_option Elab.async false
set_option linter.all false
set_option maxRecDepth 100000
set_option maxHeartbeats 2000000
namespace U
open PySem PySem.Spec PyProof.Rows L2
def fFrz (t : TE) : TE := fun σ H Q => t σ H fun v H1 => match v with
  | .ref p => (∃ u, H1 p = some u ∧ Mut (some u) ∧ ∀ od, Q (.ref p) (upd H1 p (.frz od u))) ∨ Q (.ref p) H1
  | v => Q v H1
section
variable {X : Cx} {e : Expr} {t : TE}
theorem frz (h : PE X e t) : PE X e (fFrz t) := by
  refine ⟨fun pins s σ H Q I q => ?_⟩
  refine thn (h.run pins s σ H _ I q) fun u s1 ⟨v, H1, I1, r, q1⟩ => ?_
  cases v with
  | ref p =>
    rcases q1 with ⟨u', hp, mu, q1⟩ | q1
    · obtain ⟨od, I2⟩ := I1.lock hp mu
      exact ⟨_, _, I2, r, q1 od⟩
    · exact ⟨_, _, I1, r, q1⟩
  | _ => exact ⟨_, _, I1, r, q1⟩
end
/-- an object that stands still: a tuple, what is locked -/
def Stb : HO → Prop
  | .tup _ => True
  | .frz _ _ => True
  | .ins _ _ _ => True
  | _ => False
/-- what stands still stands -/
def Stab (H H' : Hp) : Prop := ∀ b o, Stb o → H b = some o → H' b = some o
theorem Stab.refl (H : Hp) : Stab H H := fun _ _ _ h => h
theorem Stab.trans {H H1 H2 : Hp} (a : Stab H H1) (b : Stab H1 H2) : Stab H H2 := fun c o n h => b c o n (a c o n h)
theorem Stab.new {H : Hp} {p : Addr} {o : HO} (h : H p = none) : Stab H (upd H p o) := fun b u _ e => by rw [upd_ne (ne_of_none e h)]; exact e
theorem Stab.seqT {K : PySem.W.Frag} {H H' : Hp} {a : Addr} {xs : List V} (s : Stab H H') (h : SqT K H a xs) : SqT K H' a xs := by
  rcases h with (h | ⟨o, h⟩) | h
  · exact .inl (.inl (s _ _ trivial h))
  · exact .inl (.inr ⟨o, s _ _ trivial h⟩)
  · exact .inr h
/-- a list that stands still -/
def Lk (H : Hp) (a : Addr) (xs : List V) : Prop := ∃ o, H a = some (.frz o (.lst xs))
theorem Lk.seq {K : PySem.W.Frag} {H : Hp} {a : Addr} {xs : List V} (h : Lk H a xs) : SqL K H a xs := .inl (.inr h)
theorem Stab.lk {H H' : Hp} {a : Addr} {xs : List V} (s : Stab H H') (h : Lk H a xs) : Lk H' a xs := let ⟨o, h⟩ := h; ⟨o, s _ _ trivial h⟩
mutual
inductive Rp (K : PySem.W.Frag) (H : Hp) : V → PyData → Prop
  | non : Rp K H .non .none
  | bl (b : Bool) : Rp K H (.bl b) (.bool b)
  | int (i : Int) : Rp K H (.int i) (.int i)
  | str (x : Str) : Rp K H (.str x) (.str x)
  | lst {a : Addr} {xs : List V} {ds : List PyData} : Lk H a xs → RpAll K H xs ds → Rp K H (.ref a) (.list ds)
  | tup {a : Addr} {xs : List V} {ds : List PyData} : SqT K H a xs → RpAll K H xs ds → Rp K H (.ref a) (.tuple ds)
inductive RpAll (K : PySem.W.Frag) (H : Hp) : List V → List PyData → Prop
  | nil : RpAll K H [] []
  | cons {v : V} {vs : List V} {d : PyData} {ds : List PyData} : Rp K H v d → RpAll K H vs ds → RpAll K H (v :: vs) (d :: ds)
end
section
variable {K : PySem.W.Frag} {H H' : Hp}
mutual
theorem Rp.mono (s : Stab H H') : ∀ {v : V} {d : PyData}, Rp K H v d → Rp K H' v d
  | _, _, .non => .non
  | _, _, .bl b => .bl b
  | _, _, .int i => .int i
  | _, _, .str x => .str x
  | _, _, .lst h k => .lst (s.lk h) (RpAll.mono s k)
  | _, _, .tup h k => .tup (s.seqT h) (RpAll.mono s k)
theorem RpAll.mono (s : Stab H H') : ∀ {vs : List V} {ds : List PyData}, RpAll K H vs ds → RpAll K H' vs ds
  | _, _, .nil => .nil
  | _, _, .cons h k => .cons (Rp.mono s h) (RpAll.mono s k)
end
mutual
theorem Rp.dp : ∀ {v : V} {d : PyData}, Rp K H v d → Dp K H v d
  | _, _, .non => .non
  | _, _, .bl b => .bl b
  | _, _, .int i => .int i
  | _, _, .str x => .str x
  | _, _, .lst h k => .lst h.seq (RpAll.dp k)
  | _, _, .tup h k => .tup h (RpAll.dp k)
theorem RpAll.dp : ∀ {vs : List V} {ds : List PyData}, RpAll K H vs ds → DpAll K H vs ds
  | _, _, .nil => .nil
  | _, _, .cons h k => .cons (Rp.dp h) (RpAll.dp k)
end
theorem RpAll.length : ∀ {vs : List V} {ds : List PyData}, RpAll K H vs ds → vs.length = ds.length
  | _, _, .nil => rfl
  | _, _, .cons _ k => by rw [List.length_cons, List.length_cons, k.length]
theorem RpAll.get : ∀ {vs : List V} {ds : List PyData} {i : Nat} {v : V}, RpAll K H vs ds → vs[i]? = some v → ∃ d, ds[i]? = some d ∧ Rp K H v d
  | _, _, 0, _, .cons h _, e => by cases e; exact ⟨_, rfl, h⟩
  | _, _, i + 1, _, .cons _ k, e => RpAll.get (i := i) k e
  | _, _, _, _, .nil, e => by simp at e
theorem RpAll.append : ∀ {vs ws : List V} {ds es : List PyData}, RpAll K H vs ds → RpAll K H ws es → RpAll K H (vs ++ ws) (ds ++ es)
  | _, _, _, _, .nil, k => k
  | _, _, _, _, .cons h t, k => .cons h (RpAll.append t k)
theorem RpAll.one {v : V} {d : PyData} (h : Rp K H v d) : RpAll K H [v] [d] := .cons h .nil
theorem RpAll.ints : ∀ {vs : List V} {ns : List Int}, RpAll K H vs (ns.map PyData.int) → vs = ns.map V.int
  | _, [], .nil => rfl
  | _, n :: ns, .cons h k => by cases h; rw [RpAll.ints k]; rfl
end
structure HasCls (K : PySem.W.Frag) (x : Str) (C : Addr) : Prop where
  at_ : PySem.W.nsIn K mainGlobals x = some (some (.ref C))
  cl : Cls K C
  mks : PySem.W.makesIn K C = true
  kc : PySem.W.keepIn K (.ref C) = true
  ha : PySem.W.findIn K (.ref C) "__class__" = some (some (.builtin "object.__class__"))
  hn : PySem.W.specialIn K (.builtin "object.__class__") "__get__" = some (some (.builtin "getset_descriptor.__get__"))
  tk : PySem.W.takesIn K (.builtin "object.__class__") = some true
  hm : PySem.W.mroIn K C (.type "object") = some true
  self : PySem.W.kitOne K (.ref C) (.ref C) = some true
theorem HasCls.mk' {K : PySem.W.Frag} {x : Str} {C : Addr} (a : PySem.W.nsIn K mainGlobals x = some (some (.ref C))) (pg : PySem.W.plainGet K C Str.empty = true) (hd : PySem.W.hasDictIn K C = true) (po : PySem.W.plainOver K C = true)
    (sa : PySem.W.findIn K (.ref C) "__setattr__" = some (some (.builtin "object.__setattr__"))) (mk : PySem.W.makesIn K C = true) (kc : PySem.W.keepIn K (.ref C) = true) (ha : PySem.W.findIn K (.ref C) "__class__" = some (some (.builtin "object.__class__")))
    (hn : PySem.W.specialIn K (.builtin "object.__class__") "__get__" = some (some (.builtin "getset_descriptor.__get__"))) (tk : PySem.W.takesIn K (.builtin "object.__class__") = some true) (hm : PySem.W.mroIn K C (.type "object") = some true) : HasCls K x C := ⟨a, ⟨pg, hd, po, sa⟩, mk, kc, ha, hn, tk, hm, by unfold PySem.W.kitOne; rw [if_pos (by simp)]⟩
/-- a method -/
structure HasMeth (K : PySem.W.Frag) (C : Addr) (m qual : Str) (st : Stmt) : Prop where
  ex : ∃ f fd, Fun K m qual st f fd ∧ BMeth K C m f
structure KnownM (P : Program) (w : World) (K : PySem.W.Frag) (mg : Str → Option Value) (base : Heap) (CX : CXT) (C : Addr) (m : Str) (k : Nat) (ps : List Str) (sp : Sp) : Prop where
  ex : ∃ f fd, FnOk P w K mg base CX k f fd ps sp ∧ BMeth K C m f ∧ Binds K fd ps []
theorem KnownM.of {P : Program} {w : World} {K : PySem.W.Frag} {mg : Str → Option Value} {base : Heap} {C : Addr} {m qual : Str} {st : Stmt} {N ps : List Str} {k : Nat} {sp : Sp} (F : HasMeth K C m qual st) (S : FnScope N ps (defScope st))
    (hb : ∀ (kV doc pm : Value) (an : Option Addr) (cdv ct : Value) (us : List Value), us.length = ps.length → bindArgs (PySem.W.fnOf m qual (defArgs st) (defBody st) (defScope st) .none kV doc pm an cdv ct) ⟨us, []⟩ = pure (ps.zip us))
    (len : ∀ vs H Q E, sp vs H Q E → vs.length = ps.length)
    (hbody : ∀ (f : Addr) (cdv : Value) (A : Around) (outer : List Env) (s : Shared) (H : Hp) (vs : List V) (Q : VK) (E : XK), Room k (A.deeper (envOfC qual (defScope st) s.heap.objs.size f cdv)) → sp vs H Q E →
      ∃ t, PSs (cxOf CX0 P w K mg base N qual (defScope st) f cdv A outer s H E).nox (defBody st) t ∧ t { nx := fun _ H' => Q .non H', rt := Q } (start N vs) H) : KnownM P w K mg base CX0 C m (k + 1) ps sp := by
  obtain ⟨f, fd, F, e⟩ := F.ex
  exact ⟨f, fd, F.ok S len (hbody f), e, F.binds hb⟩
section
variable {X : Cx} {CX : CXT} {k : Nat} {C : Addr} {ps : List Str} {sp : Sp} {E : XK} {f m x : Str} {p apos pos : Pos} {e e1 e2 o : Expr} {es : List Expr} {ta t1 t2 : TE} {t : TA}
/-- o.m(e, ..) -/
def fMeth (C : Addr) (m : Str) (sp : Sp) (E : XK) (ta : TE) (t : TA) : TE := fun σ H Q => ta σ H fun x H1 => match x with
  | .ref a => ∃ dx fs, H1 a = some (.ins C dx fs) ∧ fs.lookup m = none ∧ t σ H1 fun vs H2 => sp (.ref a :: vs) H2 Q E
  | _ => False
theorem methX {pl : Sem Bool} (D : KnownM X.prog X.w X.K X.mg X.base CX C m k ps sp) (c : Cls X.K C) (hr : Room k X.A) (hx : Passes CX X E) (he : PE X o ta) (ha : PA X (e :: es) t)
    (hst : starEach (e :: es) X.env = (false, eval e X.env) :: starEach es X.env := by rfl) (hpl : (backTo pos (starEach es X.env)).any (·.1) = false := by rfl)
    (ht : eval (.Call (.Attribute o m apos) (e :: es) [] pos) X.env = (do
      let ov ← eval o X.env
      standAt apos.atName
      let (f, first) ← holding [ov] (getMethod ov m pl)
      callWith pos f first (backTo pos (starEach (e :: es) X.env)) (backToKw pos (keywordEach [] X.env))) := by rfl) :
    PE X (.Call (.Attribute o m apos) (e :: es) [] pos) (fMeth C m sp E ta t) := by
  obtain ⟨f, fd, F, B, b⟩ := D.ex
  refine ⟨fun pins s σ H Q I h => ?_⟩
  refine PySem.W.methodCall_KW (pl := pl) (thn (he.run pins s σ H _ I h) fun u s1 ⟨x, H1, I1, rx, q⟩ => ?_) ht
  cases x <;> first | exact q.elim | skip
  obtain ⟨dx, fs, ea, l, q⟩ := q
  obtain rfl : u = Value.ref _ := rx
  refine getmeth_ok I1 ea c B.mt l ?_
  refine PySem.W.callWith_K (first := [.ref _]) (h₀ := X.base) I.ok.mod.kin B.mt.kp (thn (ha.run pos pins s1 σ H1 _ I1 q) fun us s2 ⟨vs, H2, I2, r, q2⟩ => ⟨I2.kIn, ?_⟩) hst hpl
  refine run_fn (us := .ref _ :: us) (vs := .ref _ :: vs) (dvs := []) (ds := []) F hr b .nil hx I2 (.cons rfl r) ?_
  rw [List.append_nil]
  exact q2
theorem meth {pl : Sem Bool} (D : KnownM X.prog X.w X.K X.mg X.base CX0 C m k ps sp) (c : Cls X.K C) (hr : Room k X.A) (he : PE X o ta) (ha : PA X (e :: es) t)
    (hst : starEach (e :: es) X.env = (false, eval e X.env) :: starEach es X.env := by rfl) (hpl : (backTo pos (starEach es X.env)).any (·.1) = false := by rfl)
    (ht : eval (.Call (.Attribute o m apos) (e :: es) [] pos) X.env = (do
      let ov ← eval o X.env
      standAt apos.atName
      let (f, first) ← holding [ov] (getMethod ov m pl)
      callWith pos f first (backTo pos (starEach (e :: es) X.env)) (backToKw pos (keywordEach [] X.env))) := by rfl) :
    PE X (.Call (.Attribute o m apos) (e :: es) [] pos) (fMeth C m sp E0 ta t) := methX D c hr pass0 he ha hst hpl ht
theorem fnR_of {P : Program} {w : World} {K : PySem.W.Frag} {mg : Str → Option Value} {base : Heap} {CX : CXT} {k : Nat} {f : Addr} {fd : FuncData} {ps : List Str} {sp : Sp} (F : FnOk P w K mg base CX k f fd ps sp) (b : Binds K fd ps []) : FnR P w K mg base CX k f sp :=
  (F.raw b .nil).imp fun vs H Q E q => by rw [List.append_nil]; exact q
end
section
open PySem.W
variable {prog : Program} {w : World} {A : Around} {E : Value → Shared → Prop} {s : Shared} {K : Frag} {x C L f : Addr} {h₀ : Heap} {m : Str → Option Value} {ox : Obj} {od : Option Obj} {b tb : Value}
end
section
variable {X : Cx} {C : Addr} {k : Nat} {ps : List Str} {sp : Sp}
end
end U
set_option Elab.async false
set_option linter.all false
set_option maxRecDepth 100000
set_option maxHeartbeats 4000000
namespace U
open PySem PySem.Spec PyProof.Rows L2 HT
section
variable {X : Cx} {es : List Expr} {t : TA} {pos : Pos}
def tTupF (t : TA) : TE := fun σ H Q => t σ H fun xs H1 => xs.length ≤ sizeLine ∧ ∀ p, H1 p = none → ∀ o : Obj, o.dict = none → Q (.ref p) (upd H1 p (.frz o (.tup xs)))
theorem pe_tupF {x1} (h : PA X es t) : PE X (.Tuple es x1 pos) (tTupF t) := by
  refine ⟨fun pins s σ H Q I hq => ?_⟩
  refine wpAny_Tuple_spliced (thn (h.run pos pins s σ H _ I hq) fun us s1 ⟨xs, H1, I1, r, z, q⟩ => ⟨by rw [← r.length]; exact z, ?_⟩)
  have hf : H1 s1.heap.objs.size = none := I1.hok.fresh (Nat.le_refl _)
  refine ⟨.ref s1.heap.objs.size, upd H1 s1.heap.objs.size (.frz { cls := .type "tuple", data := .seq us.toArray } (.tup xs)), I1.laid (t' := s1.toks) (fun b u e => Heap.get?_push_of_some _ e) (Nat.le_refl _) ?_, rfl, q _ hf _ rfl⟩
  exact ⟨Heap.get?_push_size _ rfl, z, us, r, ⟨_, Heap.get?_push_size _ rfl, rfl, _, rfl⟩⟩
def rCatTF (K : PySem.W.Frag) : R2 := fun x y H Q => ∃ a b xs ys, x = .ref a ∧ y = .ref b ∧ SqT K H a xs ∧ SqT K H b ys ∧ xs ≠ [] ∧ xs.length + ys.length ≤ sizeLine ∧
  (ys = [] → Q (.ref a) H) ∧ (ys ≠ [] → ∀ p, H p = none → ∀ o : Obj, o.dict = none → Q (.ref p) (upd H p (.frz o (.tup (xs ++ ys)))))
theorem op_catTF : OpR X (binaryOp .Add) (rCatTF X.K) := by
  intro pins s σ H x y v u Q I rx ry h
  obtain ⟨a, b, xs, ys, rfl, rfl, ha, hb, hx, hz, q1, q2⟩ := h
  cases rx
  cases ry
  obtain ⟨its, r1, p1, _⟩ := I.tuple ha
  obtain ⟨its2, r2, p2, _⟩ := I.tuple hb
  refine HT.cat_tup p1 p2 (fun z => hx (r1.nil_iff.mp z)) (fun z => ⟨.ref a, H, I, rfl, q1 (r2.nil_iff.mp z)⟩) (fun z => ?_) (by rw [← r1.length, ← r2.length]; exact hz)
  refine ⟨.ref s.heap.objs.size, _, I.laid (t' := s.toks) (o := .frz { cls := .type "tuple", data := .seq (its ++ its2).toArray } (.tup (xs ++ ys))) (fun b ob q => Heap.get?_push_of_some _ q) (Nat.le_refl _) ?_, rfl, q2 (fun w => z (r2.nil_iff.mpr w)) _ (I.hok.fresh (Nat.le_refl _)) _ rfl⟩
  exact ⟨Heap.get?_push_size _ rfl, by rw [List.length_append]; exact hz, _, r1.append r2, IsTup.new _ _⟩
def rCatAF (K : PySem.W.Frag) : R2 := fun x y H Q => ∃ a b xs ys, x = .ref a ∧ y = .ref b ∧ SqT K H a xs ∧ SqT K H b ys ∧ xs.length + ys.length ≤ sizeLine ∧
  (xs = [] → Q (.ref b) H) ∧ (xs ≠ [] → ys = [] → Q (.ref a) H) ∧ (xs ≠ [] → ys ≠ [] → ∀ p, H p = none → ∀ o : Obj, o.dict = none → Q (.ref p) (upd H p (.frz o (.tup (xs ++ ys)))))
theorem op_catAF : OpR X (binaryOp .Add) (rCatAF X.K) := by
  intro pins s σ H x y v u Q I rx ry h
  obtain ⟨a, b, xs, ys, rfl, rfl, ha, hb, hz, q0, q1, q2⟩ := h
  by_cases hx : xs = []
  · subst hx
    cases rx
    cases ry
    obtain ⟨its, r1, p1, _⟩ := I.tuple ha
    obtain ⟨its2, r2, p2, _⟩ := I.tuple hb
    cases r1
    exact cat_tup0 p1 p2 ⟨.ref b, H, I, rfl, q0 rfl⟩
  · exact op_catTF pins s σ H _ _ v u Q I rx ry ⟨a, b, xs, ys, rfl, rfl, ha, hb, hx, hz, q1 hx, q2 hx⟩
def rRepTF (K : PySem.W.Frag) : R2 := fun x y H Q => ∃ l k xs, x = .ref l ∧ y = .int k ∧ SqT K H l xs ∧ xs ≠ [] ∧ 2 ≤ k ∧ k ≤ 1000 ∧ xs.length ≤ 1000 ∧ ∀ p, H p = none → ∀ o : Obj, o.dict = none → Q (.ref p) (upd H p (.frz o (.tup (List.replicate k.toNat xs).flatten)))
theorem op_repTF : OpR X (binaryOp .Mult) (rRepTF X.K) := by
  intro pins s σ H x y v u Q I rx ry h
  obtain ⟨l, k, xs, rfl, rfl, hT, hne, h1, h2, hz, q⟩ := h
  cases rx
  obtain ⟨t, rfl⟩ := ry
  obtain ⟨its, r, ⟨⟨cls, dd, data, sl⟩, ho, hc, n, hd⟩, hs⟩ := I.tuple hT
  simp only at hc hd
  subst hc hd
  have hle : its.length = xs.length := r.length.symm
  have hn : its ≠ [] := fun e => hne (by
    rw [e] at hle
    exact List.eq_nil_of_length_eq_zero hle.symm)
  have hi : its.toArray.isEmpty = false := by
    cases its with
    | nil => exact absurd rfl hn
    | cons a b => rfl
  have hsz0 : its.toArray.size = xs.length := by rw [List.size_toArray, hle]
  have hm : ((its.toArray.size : Nat) : Int) * k ≤ 1000000 := by
    rw [hsz0]
    have a1 : ((xs.length : Nat) : Int) * k ≤ 1000 * k := Int.mul_le_mul_of_nonneg_right (by omega) (by omega)
    omega
  have flen : (List.replicate k.toNat its).flatten.length ≤ sizeLine := by
    rw [PyProof.Rows.lm_len_rep_flat, hle, sizeLine_eq]
    have a1 : k.toNat * xs.length ≤ 1000 * 1000 := Nat.mul_le_mul (by omega) hz
    omega
  have c0 : (decide (k < -(2 ^ 63)) || decide (k ≥ 2 ^ 63)) = false := by
    rw [decide_eq_false (by omega), decide_eq_false (by omega)] <;> rfl
  have c1 : (its.toArray.isEmpty || k == 1) = false := by
    rw [hi, Bool.false_or]
    exact beq_eq_false_iff_ne.mpr (by omega)
  have c2 : (decide (k ≤ 0) || its.toArray.isEmpty) = false := by
    rw [hi, Bool.or_false]
    exact decide_eq_false (by omega)
  have c4 : Builtin.Tuple.tupleTooMany (((its.toArray.size : Nat) : Int) * k) = false := by
    unfold Builtin.Tuple.tupleTooMany
    rw [sizeLine_eq]
    exact decide_eq_false (by omega)
  refine wpAny_binaryOp_repeat_ref (T := "tuple") (U := "int") (by decide) ⟨_, ho, rfl⟩ (fun s' => typeIs_int s' k t) noFill_tuple_mul F.fills_int_mul F.slot_int_rmul repeat_tuple F.slot_int_index.lookup
    (call_meets F.slot_int_rmul (typeIs_int s k t) F.entry_int_rmul (F.args_int_rmul_2 _ _) (int_rmul_tuple k t l its.toArray n dd sl)
      ⟨ho, rfl, ⟨_, ho, rfl⟩, call_meets F.slot_tuple_mul ⟨_, ho, rfl⟩ F.entry_tuple_mul (F.args_tuple_mul_2 _ _) (tuple_mulW l its.toArray n dd sl k t c0 c1 c2 (by omega) c4 (by rw [size_rep, List.size_toArray]; exact flen)) ⟨ho, ?_⟩⟩)
  rw [size_rep]
  refine ⟨.ref s.heap.objs.size, _, I.laid (t' := s.toks) (o := .frz { cls := .type "tuple", data := .seq (List.replicate k.toNat its).flatten.toArray } (.tup (List.replicate k.toNat xs).flatten)) (fun b ob q => Heap.get?_push_of_some _ q) (Nat.le_refl _) ?_, rfl, q _ (I.hok.fresh (Nat.le_refl _)) _ rfl⟩
  exact ⟨Heap.get?_push_size _ rfl, by rw [PyProof.Rows.lm_len_rep_flat, sizeLine_eq]; have a1 : k.toNat * xs.length ≤ 1000 * 1000 := Nat.mul_le_mul (by omega) hz; omega, _, r.rep k.toNat, IsTup.new _ _⟩
end
section
variable {X : Cx} {e : Expr} {te : L2.St → Hp → (Int → Int → Hp → Prop) → Prop}
end
end U
set_option Elab.async false
set_option linter.all false
set_option maxRecDepth 100000
set_option maxHeartbeats 2000000
namespace U
open PySem PySem.Spec PyProof.Rows L2
/-- plain data; a thing that changes is an address -/
inductive Da where
  | non | bl (b : Bool) | int (i : Int) | str (x : Str) | ty (n : String)
  | lst (xs : List Da) | tup (xs : List Da) | obj (C : Addr) (fs : List (Str × Da)) | ref (a : Addr) | dct (kvs : List (Key × Da)) | exn (a dd : Addr) (fs : List (Str × Da))
/-- what changes: a list, an instance -/
inductive MO where
  | lst (xs : List Da) | ins (C : Addr) (fs : List (Str × Da)) | dct (kvs : List (Key × Da)) | tbl (q : Str) | exc (a C : Addr) (fs : List (Str × Da))
abbrev Mm := Addr → Option MO
abbrev De := List (Option Da)
abbrev DK := Da → Mm → Prop
/-- an exception: its class, its attributes -/
abbrev DX := Value → List (Str × Da) → Mm → Prop
def mput (M : Mm) (a : Addr) (o : MO) : Mm := fun b => if b = a then some o else M b
def mdel (M : Mm) (a : Addr) : Mm := fun b => if b = a then none else M b
theorem mput_same {M : Mm} {a : Addr} {o : MO} : mput M a o a = some o := by unfold mput; rw [if_pos rfl]
theorem mput_ne {M : Mm} {a b : Addr} {o : MO} (h : b ≠ a) : mput M a o b = M b := by unfold mput; rw [if_neg h]
def putD (f : Str) (v : Da) : List (Str × Da) → List (Str × Da)
  | [] => [(f, v)]
  | (g, x) :: r => if g = f then (g, v) :: r else (g, x) :: putD f v r
def Sl (K : PySem.W.Frag) (W : Addr → Prop) (H : Hp) (a : Addr) (vs : List V) : Prop := (W a ∧ Rd H a (.lst vs)) ∨ SqL K (fun _ => none) a vs
def Sp' (K : PySem.W.Frag) (W : Addr → Prop) (H : Hp) (a : Addr) (vs : List V) : Prop := (W a ∧ Rd H a (.tup vs)) ∨ SqT K (fun _ => none) a vs ∧ ∃ o, K.lookup a = some o ∧ o.dict = none
mutual
inductive RD (K : PySem.W.Frag) (W : Addr → Prop) (H : Hp) : V → Da → Prop
  | non : RD K W H .non .non
  | bl (b : Bool) : RD K W H (.bl b) (.bl b)
  | int (i : Int) : RD K W H (.int i) (.int i)
  | str (x : Str) : RD K W H (.str x) (.str x)
  | ty (n : String) : RD K W H (.ty n) (.ty n)
  | lst {a : Addr} {vs : List V} {ds : List Da} : Sl K W H a vs → RDs K W H vs ds → RD K W H (.ref a) (.lst ds)
  | tup {a : Addr} {vs : List V} {ds : List Da} : Sp' K W H a vs → RDs K W H vs ds → RD K W H (.ref a) (.tup ds)
  | obj {a C dx : Addr} {vs : List (Str × V)} {fs : List (Str × Da)} : W a → H a = some (.ins C dx vs) → RF K W H vs fs → RD K W H (.ref a) (.obj C fs)
  | ref (a : Addr) : RD K W H (.ref a) (.ref a)
  | dct {a : Addr} {vs : List (Key × V)} {ds : List (Key × Da)} : W a → H a = some (.dK vs) → RK K W H vs ds → RD K W H (.ref a) (.dct ds)
  | exn {a dd : Addr} {vs : List (Str × V)} {fs : List (Str × Da)} : W dd → H dd = some (.xd vs) → RF K W H vs fs → RD K W H (.ref a) (.exn a dd fs)
inductive RDs (K : PySem.W.Frag) (W : Addr → Prop) (H : Hp) : List V → List Da → Prop
  | nil : RDs K W H [] []
  | cons {v : V} {vs : List V} {d : Da} {ds : List Da} : RD K W H v d → RDs K W H vs ds → RDs K W H (v :: vs) (d :: ds)
inductive RF (K : PySem.W.Frag) (W : Addr → Prop) (H : Hp) : List (Str × V) → List (Str × Da) → Prop
  | nil : RF K W H [] []
  | cons {f : Str} {v : V} {vs : List (Str × V)} {d : Da} {ds : List (Str × Da)} : RD K W H v d → RF K W H vs ds → RF K W H ((f, v) :: vs) ((f, d) :: ds)
inductive RK (K : PySem.W.Frag) (W : Addr → Prop) (H : Hp) : List (Key × V) → List (Key × Da) → Prop
  | nil : RK K W H [] []
  | cons {f : Key} {v : V} {vs : List (Key × V)} {d : Da} {ds : List (Key × Da)} : RD K W H v d → RK K W H vs ds → RK K W H ((f, v) :: vs) ((f, d) :: ds)
end
/-- the heap grows: what is settled or another's stands -/
structure Grow (F W : Addr → Prop) (H : Hp) (W' : Addr → Prop) (H' : Hp) : Prop where
  w : ∀ a, W a → W' a
  h : ∀ a, W a → H' a = H a
  f : ∀ a, F a → H' a = H a
theorem Grow.refl {F W : Addr → Prop} {H : Hp} : Grow F W H W H := ⟨fun _ h => h, fun _ _ => rfl, fun _ _ => rfl⟩
theorem Grow.trans {F W W1 W2 : Addr → Prop} {H H1 H2 : Hp} (a : Grow F W H W1 H1) (b : Grow F W1 H1 W2 H2) : Grow F W H W2 H2 :=
  ⟨fun c h => b.w c (a.w c h), fun c h => (b.h c (a.w c h)).trans (a.h c h), fun c h => (b.f c h).trans (a.f c h)⟩
theorem Grow.less {F F' W W' : Addr → Prop} {H H' : Hp} (g : Grow F' W H W' H') (h : ∀ a, F a → F' a) : Grow F W H W' H' := ⟨g.w, g.h, fun a q => g.f a (h a q)⟩
section
variable {K : PySem.W.Frag} {F W W' : Addr → Prop} {H H' : Hp} {a : Addr}
theorem rd_mono {u : HO} (e : H' a = H a) (h : Rd H a u) : Rd H' a u := by unfold Rd at *; rw [e]; exact h
theorem Sl.mono {vs : List V} (g : Grow F W H W' H') : Sl K W H a vs → Sl K W' H' a vs
  | .inl ⟨w, h⟩ => .inl ⟨g.w _ w, rd_mono (g.h _ w) h⟩
  | .inr h => .inr h
theorem Sp'.mono {vs : List V} (g : Grow F W H W' H') : Sp' K W H a vs → Sp' K W' H' a vs
  | .inl ⟨w, h⟩ => .inl ⟨g.w _ w, rd_mono (g.h _ w) h⟩
  | .inr h => .inr h
theorem Sl.sq {vs : List V} : Sl K W H a vs → SqL K H a vs
  | .inl ⟨_, h⟩ => .inl h
  | .inr (.inl (.inl h)) => nomatch h
  | .inr (.inl (.inr ⟨_, h⟩)) => nomatch h
  | .inr (.inr h) => .inr h
theorem Sp'.sq {vs : List V} : Sp' K W H a vs → SqT K H a vs
  | .inl ⟨_, h⟩ => .inl h
  | .inr ⟨.inl (.inl h), _⟩ => nomatch h
  | .inr ⟨.inl (.inr ⟨_, h⟩), _⟩ => nomatch h
  | .inr ⟨.inr h, _⟩ => .inr h
mutual
theorem RD.mono (g : Grow F W H W' H') : ∀ {v : V} {d : Da}, RD K W H v d → RD K W' H' v d
  | _, _, .non => .non
  | _, _, .bl b => .bl b
  | _, _, .int i => .int i
  | _, _, .str x => .str x
  | _, _, .ty x => .ty x
  | _, _, .ref x => .ref x
  | _, _, .lst h k => .lst (h.mono g) (RDs.mono g k)
  | _, _, .tup h k => .tup (h.mono g) (RDs.mono g k)
  | _, _, .obj w h k => .obj (g.w _ w) ((g.h _ w).trans h) (RF.mono g k)
  | _, _, .dct w h k => .dct (g.w _ w) ((g.h _ w).trans h) (RK.mono g k)
  | _, _, .exn w h k => .exn (g.w _ w) ((g.h _ w).trans h) (RF.mono g k)
theorem RDs.mono (g : Grow F W H W' H') : ∀ {vs : List V} {ds : List Da}, RDs K W H vs ds → RDs K W' H' vs ds
  | _, _, .nil => .nil
  | _, _, .cons h k => .cons (RD.mono g h) (RDs.mono g k)
theorem RF.mono (g : Grow F W H W' H') : ∀ {vs : List (Str × V)} {ds : List (Str × Da)}, RF K W H vs ds → RF K W' H' vs ds
  | _, _, .nil => .nil
  | _, _, .cons h k => .cons (RD.mono g h) (RF.mono g k)
theorem RK.mono (g : Grow F W H W' H') : ∀ {vs : List (Key × V)} {ds : List (Key × Da)}, RK K W H vs ds → RK K W' H' vs ds
  | _, _, .nil => .nil
  | _, _, .cons h k => .cons (RD.mono g h) (RK.mono g k)
end
theorem RDs.length : ∀ {vs : List V} {ds : List Da}, RDs K W H vs ds → vs.length = ds.length
  | _, _, .nil => rfl
  | _, _, .cons _ k => by rw [List.length_cons, List.length_cons, k.length]
theorem RDs.get : ∀ {vs : List V} {ds : List Da} {i : Nat} {d : Da}, RDs K W H vs ds → ds[i]? = some d → ∃ v, vs[i]? = some v ∧ RD K W H v d
  | _, _, 0, _, .cons h _, e => by cases e; exact ⟨_, rfl, h⟩
  | _, _, i + 1, _, .cons _ k, e => RDs.get (i := i) k e
  | _, _, _, _, .nil, e => by simp at e
theorem RDs.append : ∀ {vs ws : List V} {ds es : List Da}, RDs K W H vs ds → RDs K W H ws es → RDs K W H (vs ++ ws) (ds ++ es)
  | _, _, _, _, .nil, k => k
  | _, _, _, _, .cons h t, k => .cons h (RDs.append t k)
theorem RDs.take : ∀ {vs : List V} {ds : List Da} (n : Nat), RDs K W H vs ds → RDs K W H (vs.take n) (ds.take n)
  | _, _, 0, _ => .nil
  | _, _, _ + 1, .nil => .nil
  | _, _, n + 1, .cons h k => .cons h (RDs.take n k)
theorem RDs.drop : ∀ {vs : List V} {ds : List Da} (n : Nat), RDs K W H vs ds → RDs K W H (vs.drop n) (ds.drop n)
  | _, _, 0, h => h
  | _, _, _ + 1, .nil => .nil
  | _, _, n + 1, .cons _ k => RDs.drop n k
theorem RDs.set : ∀ {vs : List V} {ds : List Da} {v : V} {d : Da} (n : Nat), RDs K W H vs ds → RD K W H v d → RDs K W H (vs.set n v) (ds.set n d)
  | _, _, _, _, _, .nil, _ => .nil
  | _, _, _, _, 0, .cons _ k, r => .cons r k
  | _, _, _, _, n + 1, .cons h k, r => .cons h (RDs.set n k r)
theorem RDs.ints : ∀ {vs : List V} {ns : List Int}, RDs K W H vs (ns.map Da.int) → vs = ns.map V.int
  | _, [], .nil => rfl
  | _, n :: ns, .cons h k => by cases h; rw [RDs.ints k]; rfl
theorem RF.get : ∀ {vs : List (Str × V)} {fs : List (Str × Da)} {f : Str} {d : Da}, RF K W H vs fs → fs.lookup f = some d → ∃ v, vs.lookup f = some v ∧ RD K W H v d
  | _, _, _, _, .nil, e => by simp at e
  | _, _, f, d, .cons (f := g) h k, e => by
    rw [List.lookup_cons] at e ⊢
    cases q : (f == g) with
    | true => rw [q] at e; cases e; exact ⟨_, rfl, h⟩
    | false => rw [q] at e; exact RF.get k e
theorem RF.none : ∀ {vs : List (Str × V)} {fs : List (Str × Da)} {f : Str}, RF K W H vs fs → fs.lookup f = none → vs.lookup f = none
  | _, _, _, .nil, e => rfl
  | _, _, f, .cons (f := g) h k, e => by
    rw [List.lookup_cons] at e ⊢
    cases q : (f == g) with
    | true => rw [q] at e; cases e
    | false => rw [q] at e; exact RF.none k e
theorem RF.length : ∀ {vs : List (Str × V)} {fs : List (Str × Da)}, RF K W H vs fs → vs.length = fs.length
  | _, _, .nil => rfl
  | _, _, .cons _ k => by rw [List.length_cons, List.length_cons, k.length]
theorem RF.put : ∀ {vs : List (Str × V)} {fs : List (Str × Da)} {f : Str} {v : V} {d : Da}, RF K W H vs fs → RD K W H v d → RF K W H (putF f v vs) (putD f d fs)
  | _, _, _, _, _, .nil, r => .cons r .nil
  | _, _, f, _, _, .cons (f := g) h k, r => by
    unfold putF putD
    split
    · exact .cons r k
    · exact .cons h (RF.put k r)
end
/-- an error object at a, its class, its dict -/
def exoG (a C : Addr) (d : Option Addr) : HO := .ext fun h => ∃ oe, h.get? a = some oe ∧ Zc (.ref C) d oe ∧ ∃ vs, oe.data = .fields vs
/-- what an error object keeps -/
def XRd (K : PySem.W.Frag) (W : Addr → Prop) (H : Hp) (fs : List (Str × Da)) : Option Addr → Prop
  | none => fs = []
  | some dd => fs ≠ [] ∧ ∃ vs, W dd ∧ H dd = some (.xd vs) ∧ RF K W H vs fs
theorem XRd.mono {K : PySem.W.Frag} {F W W' : Addr → Prop} {H H' : Hp} (g : Grow F W H W' H') {fs : List (Str × Da)} : ∀ {d : Option Addr}, XRd K W H fs d → XRd K W' H' fs d
  | none, h => h
  | some _, ⟨n, vs, w, e, r⟩ => ⟨n, vs, g.w _ w, (g.h _ w).trans e, r.mono g⟩
/-- a thing of the memory -/
inductive MR (K : PySem.W.Frag) (W : Addr → Prop) (H : Hp) : MO → HO → Prop
  | lst {xs : List Da} {vs : List V} : RDs K W H vs xs → MR K W H (.lst xs) (.lst vs)
  | ins {C dx : Addr} {fs : List (Str × Da)} {vs : List (Str × V)} : RF K W H vs fs → MR K W H (.ins C fs) (.ins C dx vs)
  | dct {ds : List (Key × Da)} {vs : List (Key × V)} : RK K W H vs ds → MR K W H (.dct ds) (.dK vs)
  | tbl {q : Str} {ps : Array Value} : TriplesOk ps.toList → (∀ (pos : Pos) (cv : Value), codeAmong pos ps.toList = some cv → ∃ c, cv = .ref c ∧ W c ∧ H c = some (LamX.CodeO c q)) → MR K W H (.tbl q) (.tbl ps)
  | exc {a C : Addr} {d : Option Addr} {fs : List (Str × Da)} : XRd K W H fs d → MR K W H (.exc a C fs) (exoG a C d)
theorem MR.mono {K : PySem.W.Frag} {F W W' : Addr → Prop} {H H' : Hp} (g : Grow F W H W' H') {o : MO} {u : HO} (h : MR K W H o u) : MR K W' H' o u := by
  cases h with
  | lst h => exact .lst (h.mono g)
  | ins h => exact .ins (h.mono g)
  | dct h => exact .dct (h.mono g)
  | exc h => exact .exc (h.mono g)
  | tbl h1 h2 => exact .tbl h1 fun pos cv e => let ⟨c, a, b, d⟩ := h2 pos cv e; ⟨c, a, g.w _ b, (g.h _ b).trans d⟩
/-- a settled tuple stands frozen, without a dict of its own -/
def NT : HO → Prop
  | .tup _ => False
  | .frz o u => match u with
    | .tup _ => o.dict = none
    | _ => True
  | _ => True
theorem MR.nt {K : PySem.W.Frag} {W : Addr → Prop} {H : Hp} {o : MO} {u : HO} (h : MR K W H o u) : NT u := by
  cases h <;> exact trivial
structure Stt (K : PySem.W.Frag) (F W : Addr → Prop) (M : Mm) (H : Hp) : Prop where
  wf : ∀ a, W a → ∃ o, H a = some o
  fr : ∀ a, F a → ¬ W a ∧ M a = none ∧ ∃ o, H a = some o
  dis : ∀ a o, M a = some o → ¬ W a
  mem : ∀ a o, M a = some o → ∃ u, H a = some u ∧ MR K W H o u
  pl : ∀ a o, W a → H a = some o → NT o
def wadd (W : Addr → Prop) (p : Addr) : Addr → Prop := fun a => a = p ∨ W a
section
variable {K : PySem.W.Frag} {F W W' : Addr → Prop} {H H' : Hp} {M : Mm} {p : Addr}
theorem Stt.freeM (s : Stt K F W M H) (h : H p = none) : M p = none := by
  cases e : M p with
  | none => rfl
  | some o => obtain ⟨u, q, _⟩ := s.mem _ _ e; rw [h] at q; cases q
theorem Stt.freeW (s : Stt K F W M H) (h : H p = none) : ¬ W p := fun w => by obtain ⟨o, q⟩ := s.wf _ w; rw [h] at q; cases q
theorem Stt.freeF (s : Stt K F W M H) (h : H p = none) : ¬ F p := fun w => by obtain ⟨_, _, o, q⟩ := s.fr _ w; rw [h] at q; cases q
theorem Stt.neW (s : Stt K F W M H) (h : H p = none) {a : Addr} (w : W a) : a ≠ p := fun e => s.freeW h (e ▸ w)
theorem Stt.neF (s : Stt K F W M H) (h : H p = none) {a : Addr} (w : F a) : a ≠ p := fun e => s.freeF h (e ▸ w)
theorem grow_new {o : HO} (s : Stt K F W M H) (h : H p = none) : Grow F W H W (upd H p o) :=
  ⟨fun _ h => h, fun a w => upd_ne (s.neW h w), fun a w => upd_ne (s.neF h w)⟩
/-- junk -/
theorem Stt.junk (s : Stt K F W M H) (h : H p = none) (o : HO) : Stt K F W M (upd H p o) where
  wf := fun a w => by
    by_cases e : a = p
    · subst e; exact ⟨o, upd_same⟩
    · rw [upd_ne e]; exact s.wf a w
  fr := fun a w => ⟨(s.fr a w).1, (s.fr a w).2.1, by rw [upd_ne (s.neF h w)]; exact (s.fr a w).2.2⟩
  dis := s.dis
  mem := fun a u e => by
    obtain ⟨v, q, r⟩ := s.mem a u e
    exact ⟨v, by rw [upd_ne (ne_of_none q h)]; exact q, r.mono (grow_new s h)⟩
  pl := fun a u w e => by rw [upd_ne (s.neW h w)] at e; exact s.pl a u w e
/-- a new settled thing -/
theorem Stt.new (s : Stt K F W M H) (h : H p = none) (o : HO) (ho : NT o := by exact trivial) : Stt K F (wadd W p) M (upd H p o) ∧ Grow F W H (wadd W p) (upd H p o) := by
  have g : Grow F W H (wadd W p) (upd H p o) := ⟨fun _ h => .inr h, (grow_new s h).h, (grow_new s h).f⟩
  refine ⟨⟨fun a w => ?_, fun a w => ⟨?_, (s.fr a w).2.1, by rw [upd_ne (s.neF h w)]; exact (s.fr a w).2.2⟩, fun a u e w => ?_, fun a u e => ?_, fun a u w e => ?_⟩, g⟩
  · rcases w with w | w
    · subst w; exact ⟨o, upd_same⟩
    · rw [upd_ne (s.neW h w)]; exact s.wf a w
  · rintro (e | e)
    · exact s.freeF h (e ▸ w)
    · exact (s.fr a w).1 e
  · rcases w with w | w
    · subst w; rw [s.freeM h] at e; cases e
    · exact s.dis a u e w
  · obtain ⟨v, q, r⟩ := s.mem a u e
    exact ⟨v, by rw [upd_ne (ne_of_none q h)]; exact q, r.mono g⟩
  · rcases w with w | w
    · subst w; rw [upd_same] at e; cases e; exact ho
    · rw [upd_ne (s.neW h w)] at e; exact s.pl a u w e
/-- a new thing of the memory -/
theorem Stt.newM (s : Stt K F W M H) (h : H p = none) {o : HO} {u : MO} (r : MR K W H u o) : Stt K F W (mput M p u) (upd H p o) := by
  refine ⟨fun a w => ?_, fun a w => ⟨(s.fr a w).1, ?_, by rw [upd_ne (s.neF h w)]; exact (s.fr a w).2.2⟩, fun a v e w => ?_, fun a v e => ?_, fun a v w e => by rw [upd_ne (s.neW h w)] at e; exact s.pl a v w e⟩
  · rw [upd_ne (s.neW h w)]; exact s.wf a w
  · rw [mput_ne (s.neF h w)]; exact (s.fr a w).2.1
  · by_cases q : a = p
    · subst q; exact s.freeW h w
    · rw [mput_ne q] at e; exact s.dis a v e w
  · by_cases q : a = p
    · subst q; rw [mput_same] at e; cases e; exact ⟨o, upd_same, r.mono (grow_new s h)⟩
    · rw [mput_ne q] at e
      obtain ⟨x, q', r'⟩ := s.mem a v e
      exact ⟨x, by rw [upd_ne q]; exact q', r'.mono (grow_new s h)⟩
theorem grow_put {o : HO} {v : MO} (s : Stt K F W M H) (h : M p = some v) : Grow F W H W (upd H p o) :=
  ⟨fun _ h => h, fun a w => upd_ne (fun e => s.dis _ _ h (e ▸ w)), fun a w => upd_ne (fun e => by subst e; rw [(s.fr a w).2.1] at h; cases h)⟩
/-- a thing of the memory changes -/
theorem Stt.put (s : Stt K F W M H) {v : MO} (h : M p = some v) {o : HO} {u : MO} (r : MR K W H u o) : Stt K F W (mput M p u) (upd H p o) := by
  have g := grow_put (o := o) s h
  refine ⟨fun a w => ?_, fun a w => ?_, fun a v' e w => ?_, fun a v' e => ?_, fun a v' w e => by rw [g.h a w] at e; exact s.pl a v' w e⟩
  · rw [g.h a w]; exact s.wf a w
  · have ne : a ≠ p := fun e => by subst e; rw [(s.fr a w).2.1] at h; cases h
    exact ⟨(s.fr a w).1, by rw [mput_ne ne]; exact (s.fr a w).2.1, by rw [upd_ne ne]; exact (s.fr a w).2.2⟩
  · by_cases q : a = p
    · subst q; exact s.dis _ _ h w
    · rw [mput_ne q] at e; exact s.dis a v' e w
  · by_cases q : a = p
    · subst q; rw [mput_same] at e; cases e; exact ⟨o, upd_same, r.mono g⟩
    · rw [mput_ne q] at e
      obtain ⟨x, q', r'⟩ := s.mem a v' e
      exact ⟨x, by rw [upd_ne q]; exact q', r'.mono g⟩
/-- a thing of the memory changes no more -/
theorem Stt.settle (s : Stt K F W M H) {v : MO} (h : M p = some v) : Stt K F (wadd W p) (mdel M p) H ∧ Grow F W H (wadd W p) H := by
  have g : Grow F W H (wadd W p) H := ⟨fun _ h => .inr h, fun _ _ => rfl, fun _ _ => rfl⟩
  refine ⟨⟨fun a w => ?_, fun a w => ⟨?_, ?_, (s.fr a w).2.2⟩, fun a u e w => ?_, fun a u e => ?_, fun a u w e => ?_⟩, g⟩
  · rcases w with w | w
    · subst w; obtain ⟨u, q, _⟩ := s.mem _ _ h; exact ⟨u, q⟩
    · exact s.wf a w
  · rintro (e | e)
    · subst e; rw [(s.fr a w).2.1] at h; cases h
    · exact (s.fr a w).1 e
  · unfold mdel; split
    · rfl
    · exact (s.fr a w).2.1
  · unfold mdel at e
    split at e
    · cases e
    · rename_i ne
      rcases w with w | w
      · exact ne w
      · exact s.dis a u e w
  · unfold mdel at e
    split at e
    · cases e
    · obtain ⟨x, q', r'⟩ := s.mem a u e
      exact ⟨x, q', r'.mono g⟩
  · rcases w with w | w
    · subst w; obtain ⟨x, q, mr⟩ := s.mem _ _ h; rw [q] at e; cases e; exact mr.nt
    · exact s.pl a u w e
/-- a thing of the memory is forgotten -/
theorem Stt.forget (s : Stt K F W M H) {M' : Mm} (h : ∀ a o, M' a = some o → M a = some o) : Stt K F W M' H :=
  ⟨s.wf, fun a w => ⟨(s.fr a w).1, (by
    cases e : M' a with
    | none => rfl
    | some o => have q := h a o e; rw [(s.fr a w).2.1] at q; cases q), (s.fr a w).2.2⟩, fun a o e => s.dis a o (h a o e), fun a o e => s.mem a o (h a o e), s.pl⟩
end
end U
set_option Elab.async false
set_option linter.all false
set_option maxRecDepth 100000
set_option maxHeartbeats 2000000
namespace U
open PySem PySem.Spec PyProof.Rows L2
/-- the names' values -/
def EnvO (K : PySem.W.Frag) (W : Addr → Prop) (H : Hp) : Option Da → Option V → Prop
  | none, _ => True
  | some d, ov => ∃ v, ov = some v ∧ RD K W H v d
abbrev EnvR (K : PySem.W.Frag) (W : Addr → Prop) (H : Hp) : De → L2.St → Prop := Paired (EnvO K W H)
theorem EnvO.mono {K : PySem.W.Frag} {F W W' : Addr → Prop} {H H' : Hp} (g : Grow F W H W' H') : ∀ {a : Option Da} {b : Option V}, EnvO K W H a b → EnvO K W' H' a b
  | none, _, _ => trivial
  | some _, _, ⟨v, e, r⟩ => ⟨v, e, r.mono g⟩
theorem EnvR.mono {K : PySem.W.Frag} {F W W' : Addr → Prop} {H H' : Hp} (g : Grow F W H W' H') : ∀ {δ : De} {σ : L2.St}, EnvR K W H δ σ → EnvR K W' H' δ σ
  | _, _, .nil => .nil
  | _, _, .cons h t => .cons (h.mono g) (EnvR.mono g t)
theorem EnvR.get {K : PySem.W.Frag} {W : Addr → Prop} {H : Hp} : ∀ {δ : De} {σ : L2.St} {i : Nat} {d : Da}, EnvR K W H δ σ → δ[i]? = some (some d) → ∃ v, σ[i]? = some (some v) ∧ RD K W H v d
  | _, _, _, _, .nil, e => by simp at e
  | _, _, 0, d, .cons h _, e => by
    simp at e; subst e
    obtain ⟨v, e, r⟩ := h
    exact ⟨v, by simp [e], r⟩
  | _, _, i + 1, d, .cons _ t, e => by
    obtain ⟨v, h1, h2⟩ := EnvR.get (i := i) t (by simpa using e)
    exact ⟨v, by simpa using h1, h2⟩
theorem EnvR.set {K : PySem.W.Frag} {W : Addr → Prop} {H : Hp} {v : V} {d : Da} (r : RD K W H v d) : ∀ {δ : De} {σ : L2.St} (i : Nat), EnvR K W H δ σ → EnvR K W H (δ.set i (some d)) (σ.set i (some v))
  | _, _, _, .nil => .nil
  | _, _, 0, .cons _ t => .cons ⟨v, rfl, r⟩ t
  | _, _, i + 1, .cons h t => .cons h (EnvR.set r i t)
theorem EnvR.del {K : PySem.W.Frag} {W : Addr → Prop} {H : Hp} : ∀ {δ : De} {σ : L2.St} (i : Nat), EnvR K W H δ σ → EnvR K W H (δ.set i none) (σ.set i none)
  | _, _, _, .nil => .nil
  | _, _, 0, .cons _ t => .cons trivial t
  | _, _, i + 1, .cons h t => .cons h (EnvR.del i t)
/-- the end: what is related, grown -/
def Kt {α β : Type} (R : (Addr → Prop) → Hp → α → β → Prop) (K : PySem.W.Frag) (F W : Addr → Prop) (H : Hp) (Qd : β → Mm → Prop) (Q : α → Hp → Prop) : Prop :=
  ∀ v H' W' d M', Grow F W H W' H' → Stt K F W' M' H' → R W' H' v d → Qd d M' → Q v H'
theorem Kt.mono {α β : Type} {R : (Addr → Prop) → Hp → α → β → Prop} {K : PySem.W.Frag} {F W W1 : Addr → Prop} {H H1 : Hp} {Qd : β → Mm → Prop} {Q : α → Hp → Prop} (g : Grow F W H W1 H1) (k : Kt R K F W H Qd Q) : Kt R K F W1 H1 Qd Q :=
  fun v H' W' d M' g' => k v H' W' d M' (g.trans g')
abbrev DR (β : Type) := De → Mm → (β → Mm → Prop) → Prop
/-- a reading over data as a reading -/
def Li {α β : Type} (R : (Addr → Prop) → Hp → α → β → Prop) (K : PySem.W.Frag) (f : DR β) : L2.St → Hp → (α → Hp → Prop) → Prop := fun σ H Q =>
  ∃ δ F W M Qd, EnvR K W H δ σ ∧ Stt K F W M H ∧ f δ M Qd ∧ Kt R K F W H Qd Q
abbrev DTE := DR Da
abbrev DTT := DR Bool
abbrev DTA := DR (List Da)
abbrev rE (K : PySem.W.Frag) : (Addr → Prop) → Hp → V → Da → Prop := RD K
abbrev rT : (Addr → Prop) → Hp → Bool → Bool → Prop := fun _ _ a b => a = b
abbrev rA (K : PySem.W.Frag) : (Addr → Prop) → Hp → List V → List Da → Prop := RDs K
def DE (X : Cx) (e : Expr) (f : DTE) : Prop := PE X e (Li (rE X.K) X.K f)
def DT (X : Cx) (e : Expr) (f : DTT) : Prop := PT X e (Li rT X.K f)
def DW (X : Cx) (e : Expr) (f : DTT) : Prop := PW X e (Li rT X.K f)
def DA (X : Cx) (es : List Expr) (f : DTA) : Prop := PA X es (Li (rA X.K) X.K f)
/-- what is ready at once -/
theorem Kt.now {α β : Type} {R : (Addr → Prop) → Hp → α → β → Prop} {K : PySem.W.Frag} {F W : Addr → Prop} {M : Mm} {H : Hp} {Qd : β → Mm → Prop} {Q : α → Hp → Prop} (k : Kt R K F W H Qd Q) (s : Stt K F W M H) {v : α} {d : β} (r : R W H v d) (q : Qd d M) : Q v H :=
  k v H W d M .refl s r q
/-- one reading, then another -/
theorem Li.bind {α β γ ε : Type} {R : (Addr → Prop) → Hp → α → β → Prop} {R' : (Addr → Prop) → Hp → γ → ε → Prop} {K : PySem.W.Frag} {f : DR β} {g : β → DR ε} {σ : L2.St} {H : Hp} {Q : γ → Hp → Prop} {C : α → Hp → Prop}
    (h : Li R' K (fun δ M Q => f δ M fun x M1 => g x δ M1 Q) σ H Q) (c : ∀ v H1 d, (∃ W1, R W1 H1 v d ∧ ∃ δ F M Qd, EnvR K W1 H1 δ σ ∧ Stt K F W1 M H1 ∧ g d δ M Qd ∧ Kt R' K F W1 H1 Qd Q) → C v H1) : Li R K f σ H C := by
  obtain ⟨δ, F, W, M, Qd, e, s, h, k⟩ := h
  exact ⟨δ, F, W, M, _, e, s, h, fun v H1 W1 d M1 g1 s1 r1 q1 => c v H1 d ⟨W1, r1, δ, F, M1, Qd, e.mono g1, s1, q1, k.mono g1⟩⟩
section
variable {X : Cx} {a b c e : Expr} {es rest : List Expr} {fa fb fc f : DTE} {ft fu : DTT} {fs : DTA} {pos p : Pos}
theorem pt_imp {t t' : TT} (h : PT X e t) (f : ∀ σ H Q, t' σ H Q → t σ H Q) : PT X e t' := ⟨fun pins s σ H Q I q => h.run pins s σ H Q I (f σ H Q q)⟩
theorem pw_imp {t t' : TT} (h : PW X e t) (f : ∀ σ H Q, t' σ H Q → t σ H Q) : PW X e t' := ⟨fun wh pins s σ H Q I q => h.run wh pins s σ H Q I (f σ H Q q)⟩
theorem pa_imp {t t' : TA} (h : PA X es t) (f : ∀ σ H Q, t' σ H Q → t σ H Q) : PA X es t' := ⟨fun po pins s σ H Q I q => h.run po pins s σ H Q I (f σ H Q q)⟩
def gVar (i : Nat) : DTE := fun δ M Q => match δ[i]? with | some (some v) => Q v M | _ => False
theorem dn (i : Nat) {x : Str} {pos : Pos} (hN : X.N[i]? = some x := by rfl) (hv : Vis X.env.scope x := by first | exact Or.inl rfl | exact Or.inr (Or.inl rfl) | exact Or.inr (Or.inr rfl))
    (hd : (x == ("__debug__" : Str)) = false := by decide) (hcd : (x == ("__classdict__" : Str)) = false := by decide) : DE X (.Name x pos) (gVar i) :=
  imp (pe_var hN hv hd hcd) fun σ H Q ⟨δ, F, W, M, Qd, e, s, h, k⟩ => by
    unfold gVar at h
    split at h
    · rename_i d q
      obtain ⟨v, q', r⟩ := e.get q
      exact ⟨v, q', k.now s r h⟩
    · exact h.elim
def gC (d : Da) : DTE := fun _ M Q => Q d M
theorem d_const {v : V} {d : Da} (h : PE X e (tC v)) (r : ∀ W H, RD X.K W H v d) : DE X e (gC d) := imp h fun σ H Q ⟨δ, F, W, M, Qd, e, s, h, k⟩ => k.now s (r W H) h
theorem d_int {i j pos} : DE X (.Constant (.int i) j pos) (gC (.int i)) := d_const pe_int fun _ _ => .int _
theorem d_bl {b j pos} : DE X (.Constant (.bool b) j pos) (gC (.bl b)) := d_const pe_bl fun _ _ => .bl _
theorem d_non {j pos} : DE X (.Constant .none j pos) (gC .non) := d_const pe_non fun _ _ => .non
theorem d_str {x j pos} : DE X (.Constant (.str x) j pos) (gC (.str x)) := d_const pe_str fun _ _ => .str _
theorem d_ty {T : String} {x : Str} (m : X.mg x = none) (hv : bootBuiltins x = some (.type T)) (hg : Gl X x := by rfl) (hn : x ≠ "__name__" := by decide) (hd : (x == ("__debug__" : Str)) = false := by decide) : DE X (.Name x pos) (gC (.ty T)) := d_const (e_ty m hv hg hn hd) fun _ _ => .ty _
theorem d_glob {x : Str} {a : Addr} (hm : X.mg x = some (.ref a)) (hg : Gl X x := by rfl) (hd : (x == ("__debug__" : Str)) = false := by decide) : DE X (.Name x pos) (gC (.ref a)) := d_const (v := .ref a) (pe_glob hg hm rfl hd) fun _ _ => .ref _
abbrev D2 := Da → Da → Mm → DK → Prop
def L2o (K : PySem.W.Frag) (g : D2) : R2 := fun x y H Q => ∃ F W M d e Qd, RD K W H x d ∧ RD K W H y e ∧ Stt K F W M H ∧ g d e M Qd ∧ Kt (rE K) K F W H Qd Q
def DO (X : Cx) (f : Value → Value → Sem Value) (g : D2) : Prop := OpR X f (L2o X.K g)
def gOp (g : D2) (fa fb : DTE) : DTE := fun δ M Q => fa δ M fun x M1 => fb δ M1 fun y M2 => g x y M2 Q
theorem li_op {K : PySem.W.Frag} {g : D2} {σ : L2.St} {H : Hp} {Q : VK} (h : Li (rE K) K (gOp g fa fb) σ H Q) : tOp (L2o K g) (Li (rE K) K fa) (Li (rE K) K fb) σ H Q := by
  obtain ⟨δ, F, W, M, Qd, e, s, h, k⟩ := h
  exact ⟨δ, F, W, M, _, e, s, h, fun v H1 W1 d M1 g1 s1 r1 q1 => ⟨δ, F, W1, M1, _, e.mono g1, s1, q1, fun u H2 W2 d2 M2 g2 s2 r2 q2 => ⟨F, W2, M2, d, d2, Qd, r1.mono g2, r2, s2, q2, k.mono (g1.trans g2)⟩⟩⟩
theorem d_op {op : Operator} {g : D2} (ho : DO X (binaryOp op) g) (ha : DE X a fa) (hb : DE X b fb) : DE X (.BinOp a op b pos) (gOp g fa fb) := imp (pe_op ho ha hb) fun _ _ _ h => li_op h
/-- an operation of scalars -/
theorem do_imp {f : Value → Value → Sem Value} {g : D2} (h : ∀ x y H Q, L2o X.K g x y H Q → ∃ r : R2, OpR X f r ∧ r x y H Q) : DO X f g := opCases h
/-- a size that is small enough -/
def Sz (n : Nat) : Prop := Nat.ble n 1000000 = true
theorem sz {n : Nat} (h : n ≤ 1000000) : Sz n := Nat.ble_eq.mpr h
theorem Sz.le {n : Nat} (h : Sz n) : n ≤ 1000000 := Nat.ble_eq.mp h
theorem Sz.ok {n : Nat} (h : Sz n) : n ≤ sizeLine := by have := h.le; rw [sizeLine_eq]; omega
/-- a new settled row -/
theorem Kt.newL {K : PySem.W.Frag} {F W : Addr → Prop} {M : Mm} {H : Hp} {Qd : DK} {Q : VK} {q : Addr} {vs : List V} {ds : List Da} (k : Kt (rE K) K F W H Qd Q) (s : Stt K F W M H) (h : H q = none) (r : RDs K W H vs ds) (z : Qd (.lst ds) M) : Q (.ref q) (upd H q (.lst vs)) := by
  obtain ⟨s1, g1⟩ := s.new h (.lst vs)
  exact (k.mono g1).now s1 (.lst (.inl ⟨.inl rfl, .inl upd_same⟩) (r.mono g1)) z
theorem Kt.newT {K : PySem.W.Frag} {F W : Addr → Prop} {M : Mm} {H : Hp} {Qd : DK} {Q : VK} {q : Addr} {vs : List V} {ds : List Da} (k : Kt (rE K) K F W H Qd Q) (s : Stt K F W M H) (h : H q = none) (r : RDs K W H vs ds) {o : Obj} (ho : o.dict = none) (z : Qd (.tup ds) M) : Q (.ref q) (upd H q (.frz o (.tup vs))) := by
  obtain ⟨s1, g1⟩ := s.new h (.frz o (.tup vs)) ho
  exact (k.mono g1).now s1 (.tup (.inl ⟨.inl rfl, .inr ⟨o, upd_same⟩⟩) (r.mono g1)) z
theorem Kt.newM {K : PySem.W.Frag} {F W : Addr → Prop} {M : Mm} {H : Hp} {Qd : DK} {Q : VK} {q : Addr} {vs : List V} {ds : List Da} (k : Kt (rE K) K F W H Qd Q) (s : Stt K F W M H) (h : H q = none) (r : RDs K W H vs ds) (z : ∀ p, M p = none → Qd (.ref p) (mput M p (.lst ds))) : Q (.ref q) (upd H q (.lst vs)) :=
  (k.mono (grow_new s h)).now (s.newM h (.lst r)) (.ref q) (z q (s.freeM h))
/-- list + list, whatever they are -/
def rCatL (K : PySem.W.Frag) : R2 := fun x y H Q => ∃ l b xs zs, x = .ref l ∧ y = .ref b ∧ SqL K H l xs ∧ SqL K H b zs ∧ xs.length + zs.length ≤ sizeLine ∧ ∀ p, H p = none → Q (.ref p) (upd H p (.lst (xs ++ zs)))
theorem op_catL : OpR X (binaryOp .Add) (rCatL X.K) := by
  intro pins s σ H x y v u Q I rx ry h
  obtain ⟨l, b, xs, zs, rfl, rfl, hH, hB, hz, q⟩ := h
  cases rx
  cases ry
  obtain ⟨its, r, ⟨⟨cls, dd, data, sl⟩, n, ho, hc, _, hd⟩, h1⟩ := I.list hH
  obtain ⟨its2, r2, ⟨⟨cls2, dd2, data2, sl2⟩, n2, ho2, hc2, _, hd2⟩, h2⟩ := I.list hB
  simp only at hc hd hc2 hd2
  subst hc hd hc2 hd2
  have l1 := r.length
  have l2 := r2.length
  refine concat_meets ⟨_, ho, rfl⟩ ⟨_, ho2, rfl⟩ noFill_list_add seq_list_add PySem.F.slot_list_add PySem.F.entry_list_add (PySem.F.args_list_add_2 _ _) (PyProof.Rows.list_addW l b its.toArray its2.toArray n n2 _ _ sl sl2 (by rw [List.size_toArray, List.size_toArray]; omega)) ⟨ho, ho2, ?_⟩
  have ea : its.toArray ++ its2.toArray = (its ++ its2).toArray := by simp
  rw [ea]
  exact ⟨.ref _, _, I.lnew (t' := s.toks) (r.append r2) (by rw [List.length_append]; omega), rfl, q _ I.fresh⟩
/-- what a row's items are -/
def lstK (x : Da) (M : Mm) (k : List Da → Prop) : Prop := match x with
  | .lst xs => k xs
  | .ref p => ∃ xs, M p = some (.lst xs) ∧ k xs
  | _ => False
theorem lst_of {K : PySem.W.Frag} {F W : Addr → Prop} {H : Hp} {M : Mm} {v : V} {d : Da} (s : Stt K F W M H) (r : RD K W H v d) {k : List Da → Prop} (h : lstK d M k) : ∃ a vs ds, v = .ref a ∧ SqL K H a vs ∧ RDs K W H vs ds ∧ k ds := by
  cases r with
  | lst hs rv => exact ⟨_, _, _, rfl, hs.sq, rv, h⟩
  | ref p =>
    obtain ⟨xs, hm, h⟩ := h
    obtain ⟨u, hu, mr⟩ := s.mem _ _ hm
    cases mr with
    | lst rv => exact ⟨_, _, _, rfl, SqL.of hu, rv, h⟩
  | _ => exact h.elim
def hAdd : D2 := fun x y M Q => match x, y with
  | .int i, .int j => Q (.int (i + j)) M
  | .int i, .bl k => Q (.int (i + b2i k)) M
  | .str a, .str b => a.length + b.length ≤ sizeLine ∧ Q (.str (a ++ b)) M
  | .tup xs, .tup ys => Sz (xs.length + ys.length) ∧ Q (.tup (xs ++ ys)) M
  | .lst xs, y => lstK y M fun ys => Sz (xs.length + ys.length) ∧ Q (.lst (xs ++ ys)) M
  | .ref p, y => ∃ xs, M p = some (.lst xs) ∧ lstK y M fun ys => Sz (xs.length + ys.length) ∧ Q (.lst (xs ++ ys)) M
  | _, _ => False
theorem o_dadd : DO X (binaryOp .Add) hAdd := do_imp fun x y H Q ⟨F, W, M, d, e, Qd, r1, r2, s, h, k⟩ => by
  unfold hAdd at h
  split at h
  · cases r1; cases r2; exact ⟨_, o_add, k.now s (.int _) h⟩
  · cases r1; cases r2; exact ⟨_, o_add, k.now s (.int _) h⟩
  · cases r1; cases r2; exact ⟨_, o_add, h.1, k.now s (.str _) h.2⟩
  · cases r1 with
    | @tup a vs _ hs rv =>
      cases r2 with
      | @tup b ws _ ht rw_ =>
        refine ⟨_, op_catAF, _, _, vs, ws, rfl, rfl, hs.sq, ht.sq, by rw [rv.length, rw_.length]; exact h.1.ok, fun e => ?_, fun _ e => ?_, fun _ _ p hp o ho => ?_⟩
        · subst e
          cases rv
          exact k.now s (.tup ht rw_) h.2
        · subst e
          cases rw_
          have q := h.2
          rw [List.append_nil] at q
          exact k.now s (.tup hs rv) q
        · exact k.newT s hp (rv.append rw_) ho h.2
  · cases r1 with
    | lst hs rv =>
      obtain ⟨b, ws, ds, rfl, ht, rw_, hz, q⟩ := lst_of s r2 h
      exact ⟨_, op_catL, _, b, _, ws, rfl, rfl, hs.sq, ht, by rw [rv.length, rw_.length]; exact hz.ok, fun p hp => k.newL s hp (rv.append rw_) q⟩
  · cases r1
    obtain ⟨xs, hm, h⟩ := h
    obtain ⟨a, vs, ds, e1, hs, rv, hz, q⟩ := lst_of (k := fun ds => ds = xs ∧ lstK e M fun ys => Sz (ds.length + ys.length) ∧ Qd (.lst (ds ++ ys)) M) s (.ref _) ⟨xs, hm, rfl, h⟩
    cases e1
    obtain ⟨b, ws, es, rfl, ht, rw_, hz2, q2⟩ := lst_of s r2 q
    exact ⟨_, op_catL, _, b, _, ws, rfl, rfl, hs, ht, by rw [rv.length, rw_.length]; exact hz2.ok, fun p hp => k.newL s hp (rv.append rw_) q2⟩
  · exact h.elim
def hSub : D2 := fun x y M Q => match x, y with
  | .int i, .int j => Q (.int (i - j)) M
  | _, _ => False
theorem o_dsub : DO X (binaryOp .Sub) hSub := do_imp fun x y H Q ⟨F, W, M, d, e, Qd, r1, r2, s, h, k⟩ => by
  refine ⟨_, o_sub, ?_⟩
  cases r1 <;> cases r2 <;> first | exact h.elim | exact k.now s (.int _) h
theorem RDs.flat_rep {K : PySem.W.Frag} {W : Addr → Prop} {H : Hp} {vs : List V} {ds : List Da} (r : RDs K W H vs ds) : ∀ n : Nat, RDs K W H (List.replicate n vs).flatten (List.replicate n ds).flatten
  | 0 => .nil
  | n + 1 => by
    rw [List.replicate_succ, List.replicate_succ, List.flatten_cons, List.flatten_cons]
    exact r.append (RDs.flat_rep r n)
def rRepL (K : PySem.W.Frag) : R2 := fun x y H Q => ∃ l k xs, x = .ref l ∧ y = .int k ∧ SqL K H l xs ∧ -(2 ^ 63) ≤ k ∧ k < 2 ^ 63 ∧ xs.length * k.toNat ≤ sizeLine ∧
  ∀ p, H p = none → Q (.ref p) (upd H p (.lst (List.replicate k.toNat xs).flatten))
theorem op_repL : OpR X (binaryOp .Mult) (rRepL X.K) := by
  intro pins s σ H x y v u Q I rx ry h
  obtain ⟨l, k, xs, rfl, rfl, hH, h1, h2, hz, q⟩ := h
  cases rx
  obtain ⟨t, rfl⟩ := ry
  obtain ⟨its, r, ⟨⟨cls, dd, data, sl⟩, n, e, hc, _, hd⟩, _⟩ := I.list hH
  simp only at hc hd
  subst hc hd
  have hl := r.length
  have hlen : its.toArray.size * k.toNat ≤ sizeLine := by rw [List.size_toArray, ← hl]; exact hz
  have hcap : ¬ its.toArray.size * k.toNat > (2 ^ 63 - 1) / 8 := by
    have : (sizeLine : Nat) ≤ (2 ^ 63 - 1) / 8 := by decide
    omega
  have hfit : ¬ (!Builtin.List.listFitsIndex k) = true := by
    rw [fitsIndex_both h1 h2]
    exact Bool.false_ne_true
  have hlong : ¬ Builtin.List.listTooLong (its.toArray.size * k.toNat) = true := by
    rw [notLongL hlen]
    exact Bool.false_ne_true
  have hnew : List.foldl (fun x1 x2 => x1 ++ x2) #[] (List.replicate (if its.toArray.isEmpty = true then 0 else k.toNat) its.toArray) = (List.replicate k.toNat its).flatten.toArray := by
    have f0 : ∀ m : Nat, List.foldl (fun x1 x2 => x1 ++ x2) #[] (List.replicate m its.toArray) = (List.replicate m its).flatten.toArray := fun m => by
      have := foldl_rep its m []
      rw [List.nil_append] at this
      exact this
    rw [f0]
    cases its with
    | nil => simp
    | cons a r' => rw [if_neg (by simp)]
  refine wpAny_binaryOp_repeat_ref (T := "list") (U := "int") (by decide) ⟨_, e, rfl⟩ (fun s' => typeIs_int s' k t) noFill_list_mul F.fills_int_mul F.slot_int_rmul repeat_list F.slot_int_index.lookup
    (call_meets F.slot_int_rmul (typeIs_int s k t) F.entry_int_rmul (F.args_int_rmul_2 _ _) (lm_int_rmul_list_any k t l its.toArray n _ sl)
      ⟨e, rfl, ⟨_, e, rfl⟩, call_meets F.slot_list_mul ⟨_, e, rfl⟩ F.entry_list_mul (F.args_list_mul_2 _ _) (lm_list_mul_any l its.toArray n _ sl k t hfit hcap hlong) ⟨e, ?_⟩⟩)
  rw [hnew]
  exact ⟨.ref _, _, I.lnew (t' := s.toks) (r.rep k.toNat) (by rw [PyProof.Rows.lm_len_rep_flat, Nat.mul_comm]; exact hz), rfl, q _ I.fresh⟩
def hMul : D2 := fun x y M Q => match x, y with
  | .int i, .int j => CMul i j ∧ Q (.int (i * j)) M
  | .tup xs, .int k => xs ≠ [] ∧ 2 ≤ k ∧ k ≤ 1000 ∧ xs.length ≤ 1000 ∧ Q (.tup (List.replicate k.toNat xs).flatten) M
  | .lst xs, .int k => k ≤ 1000 ∧ -1000 ≤ k ∧ xs.length ≤ 1000 ∧ Q (.lst (List.replicate k.toNat xs).flatten) M
  | _, _ => False
theorem o_dmul : DO X (binaryOp .Mult) hMul := do_imp fun x y H Q ⟨F, W, M, d, e, Qd, r1, r2, s, h, k⟩ => by
  unfold hMul at h
  split at h
  · cases r1; cases r2; exact ⟨_, o_mul, h.1, k.now s (.int _) h.2⟩
  · cases r1 with
    | @tup a vs _ hs rv =>
      cases r2
      exact ⟨_, op_repTF, _, _, vs, rfl, rfl, hs.sq, fun e => h.1 (by subst e; cases rv; rfl), h.2.1, h.2.2.1, by rw [rv.length]; exact h.2.2.2.1, fun p hp o ho => k.newT s hp (rv.flat_rep _) ho h.2.2.2.2⟩
  · cases r1 with
    | @lst a vs _ hs rv =>
      cases r2
      obtain ⟨h1, h2, h3, q⟩ := h
      have key : ∀ j : Int, j ≤ 1000 → vs.length * j.toNat ≤ sizeLine := fun j hj => by
        rw [rv.length, sizeLine_eq]
        have := Nat.mul_le_mul h3 (show j.toNat ≤ 1000 by omega)
        omega
      exact ⟨_, op_repL, _, _, vs, rfl, rfl, hs.sq, by omega, by omega, key _ h1, fun p hp => k.newL s hp (rv.flat_rep _) q⟩
  · exact h.elim
def hDiv : D2 := fun x y M Q => match x, y with
  | .int i, .int j => CDiv i j ∧ Q (.int (i / j)) M
  | _, _ => False
theorem o_ddiv : DO X (binaryOp .FloorDiv) hDiv := do_imp fun x y H Q ⟨F, W, M, d, e, Qd, r1, r2, s, h, k⟩ => by
  refine ⟨_, o_div, ?_⟩
  cases r1 <;> cases r2 <;> first | exact h.elim | exact ⟨h.1, k.now s (.int _) h.2⟩
def hMod : D2 := fun x y M Q => match x, y with
  | .int i, .int j => 0 < j ∧ Q (.int (i % j)) M
  | _, _ => False
theorem o_dmod : DO X (binaryOp .Mod) hMod := do_imp fun x y H Q ⟨F, W, M, d, e, Qd, r1, r2, s, h, k⟩ => by
  refine ⟨_, o_mod, ?_⟩
  cases r1 <;> cases r2 <;> first | exact h.elim | exact ⟨h.1, k.now s (.int _) h.2⟩
def hPow : D2 := fun x y M Q => match x, y with
  | .int i, .int j => CPowW i j ∧ Q (.int (i ^ j.toNat)) M
  | _, _ => False
theorem o_dpow : DO X (binaryOp .Pow) hPow := do_imp fun x y H Q ⟨F, W, M, d, e, Qd, r1, r2, s, h, k⟩ => by
  refine ⟨_, o_pow, ?_⟩
  cases r1 <;> cases r2 <;> first | exact h.elim | exact ⟨h.1, k.now s (.int _) h.2⟩
def gNeg (f : DTE) : DTE := fun δ M Q => f δ M fun x M1 => match x with
  | .int i => Q (.int (-i)) M1
  | _ => False
theorem d_neg (h : DE X e f) : DE X (.UnaryOp .USub e pos) (gNeg f) := imp (pe_un un_neg h) fun σ H Q ⟨δ, F, W, M, Qd, ev, s, h, k⟩ =>
  ⟨δ, F, W, M, _, ev, s, h, fun v H1 W1 d M1 g1 s1 r1 q1 => by
    cases r1 <;> first | exact q1.elim | exact ⟨_, rfl, (k.mono g1).now s1 (.int _) q1⟩⟩
mutual
def toP : Da → PyData
  | .non => .none
  | .bl b => .bool b
  | .int i => .int i
  | .str x => .str x
  | .ty _ => .none
  | .lst xs => .list (toPs xs)
  | .tup xs => .tuple (toPs xs)
  | .obj _ _ => .none
  | .ref _ => .none
  | .dct _ => .none
  | .exn _ _ _ => .none
def toPs : List Da → List PyData
  | [] => []
  | x :: xs => toP x :: toPs xs
end
mutual
/-- data without things that change -/
def pure? : Da → Bool
  | .lst xs => pures? xs
  | .tup xs => pures? xs
  | .obj _ _ => false
  | .ref _ => false
  | .ty _ => false
  | .dct _ => false
  | .exn _ _ _ => false
  | _ => true
def pures? : List Da → Bool
  | [] => true
  | x :: xs => pure? x && pures? xs
end
mutual
theorem RD.dp {K : PySem.W.Frag} {W : Addr → Prop} {H : Hp} : ∀ {v : V} {d : Da}, RD K W H v d → pure? d = true → Dp K H v (toP d)
  | _, _, .non, _ => .non
  | _, _, .bl b, _ => .bl b
  | _, _, .int i, _ => .int i
  | _, _, .str x, _ => .str x
  | _, _, .ty x, h => nomatch h
  | _, _, .ref x, h => nomatch h
  | _, _, .lst h k, q => .lst h.sq (RDs.dp k q)
  | _, _, .tup h k, q => .tup h.sq (RDs.dp k q)
  | _, _, .obj _ _ _, h => nomatch h
  | _, _, .dct _ _ _, h => nomatch h
  | _, _, .exn _ _ _, h => nomatch h
theorem RDs.dp {K : PySem.W.Frag} {W : Addr → Prop} {H : Hp} : ∀ {vs : List V} {ds : List Da}, RDs K W H vs ds → pures? ds = true → DpAll K H vs (toPs ds)
  | _, _, .nil, _ => .nil
  | _, _, .cons h k, q => by
    have q' := (Bool.and_eq_true_iff.mp q)
    exact .cons (RD.dp h q'.1) (RDs.dp k q'.2)
end
def eqD (x y : Da) : Bool := PyData.eqv (toP x) (toP y)
/-- what == may be asked -/
def okD (x : Da) : Bool := pure? x && SeqAt.shaped (toP x)
theorem okD.pure {x : Da} (h : okD x = true) : pure? x = true := (Bool.and_eq_true_iff.mp h).1
theorem okD.shp {x : Da} (h : okD x = true) : SeqAt.shaped (toP x) = true := (Bool.and_eq_true_iff.mp h).2
def hEq : D2 := fun x y M Q => match x, y with
  | .int i, .int j => Q (.bl (decide (i = j))) M
  | .str a, .str b => Q (.bl (decide (a = b))) M
  | .bl a, .bl b => Q (.bl (decide (a = b))) M
  | x, y => okD x = true ∧ okD y = true ∧ Q (.bl (eqD x y)) M
def hNe : D2 := fun x y M Q => match x, y with
  | .int i, .int j => Q (.bl (!decide (i = j))) M
  | .str a, .str b => Q (.bl (!decide (a = b))) M
  | .bl a, .bl b => Q (.bl (!decide (a = b))) M
  | x, y => okD x = true ∧ okD y = true ∧ Q (.bl (!eqD x y)) M
theorem o_deq (hu : X.A.units + 64 < cLine) : DO X (compareOp .Eq) hEq := do_imp fun x y H Q ⟨F, W, M, d, e, Qd, r1, r2, s, h, k⟩ => by
  have gen : okD d = true ∧ okD e = true ∧ Qd (.bl (eqD d e)) M → ∃ r : R2, OpR X (compareOp .Eq) r ∧ r x y H Q := fun ⟨h1, h2, h3⟩ =>
    ⟨_, op_eqD hu, _, _, r1.dp (okD.pure h1), r2.dp (okD.pure h2), okD.shp h1, okD.shp h2, k.now s (.bl _) h3⟩
  have sc : ∀ {b : Bool}, OpR X (compareOp .Eq) (fEq X.K) := o_eq hu
  unfold hEq at h
  split at h
  · cases r1; cases r2; exact ⟨_, o_eq hu, k.now s (.bl _) h⟩
  · cases r1; cases r2; exact ⟨_, o_eq hu, k.now s (.bl _) h⟩
  · cases r1; cases r2; exact ⟨_, o_eq hu, k.now s (.bl _) h⟩
  · exact gen h
theorem o_dne (hu : X.A.units + 64 < cLine) : DO X (compareOp .NotEq) hNe := do_imp fun x y H Q ⟨F, W, M, d, e, Qd, r1, r2, s, h, k⟩ => by
  have gen : okD d = true ∧ okD e = true ∧ Qd (.bl (!eqD d e)) M → ∃ r : R2, OpR X (compareOp .NotEq) r ∧ r x y H Q := fun ⟨h1, h2, h3⟩ =>
    ⟨_, op_neD hu, _, _, r1.dp (okD.pure h1), r2.dp (okD.pure h2), okD.shp h1, okD.shp h2, k.now s (.bl _) h3⟩
  unfold hNe at h
  split at h
  · cases r1; cases r2; exact ⟨_, o_ne hu, k.now s (.bl _) h⟩
  · cases r1; cases r2; exact ⟨_, o_ne hu, k.now s (.bl _) h⟩
  · cases r1; cases r2; exact ⟨_, o_ne hu, k.now s (.bl _) h⟩
  · exact gen h
def hLt : D2 := fun x y M Q => match x, y with
  | .int i, .int j => Q (.bl (decide (i < j))) M
  | .str a, .str b => Q (.bl (decide (a.cps.toList < b.cps.toList))) M
  | _, _ => False
def hGt : D2 := fun x y M Q => match x, y with
  | .int i, .int j => Q (.bl (decide (j < i))) M
  | .str a, .str b => Q (.bl (decide (b.cps.toList < a.cps.toList))) M
  | _, _ => False
theorem o_dlt : DO X (compareOp .Lt) hLt := do_imp fun x y H Q ⟨F, W, M, d, e, Qd, r1, r2, s, h, k⟩ => by
  refine ⟨_, o_lt, ?_⟩
  cases r1 <;> cases r2 <;> first | exact h.elim | exact k.now s (.bl _) h
theorem o_dgt : DO X (compareOp .Gt) hGt := do_imp fun x y H Q ⟨F, W, M, d, e, Qd, r1, r2, s, h, k⟩ => by
  refine ⟨_, o_gt, ?_⟩
  cases r1 <;> cases r2 <;> first | exact h.elim | exact k.now s (.bl _) h
def gTst (f : DTE) : DTT := fun δ M Q => f δ M fun x M1 => match x with
  | .bl k => Q k M1
  | _ => False
theorem d_tcm {op : CmpOp} {g : D2} (ho : DO X (compareOp op) g) (ha : DE X a fa) (hb : DE X b fb) (hm : behindInMarks op b = false := by first | exact nomark _ | rfl) : DT X (.Compare a [op] [b] pos) (gTst (gOp g fa fb)) :=
  pt_imp (tcm ho ha hb hm) fun σ H Q ⟨δ, F, W, M, Qd, e, s, h, k⟩ => li_op ⟨δ, F, W, M, _, e, s, h, fun v H1 W1 d M1 g1 s1 r1 q1 => by
    cases r1 <;> first | exact q1.elim | exact (k.mono g1).now s1 rfl q1⟩
theorem d_ecm {op : CmpOp} {g : D2} (ho : DO X (compareOp op) g) (ha : DE X a fa) (hb : DE X b fb) (hm : behindInMarks op b = false := by first | exact nomark _ | rfl) : DE X (.Compare a [op] [b] pos) (gOp g fa fb) :=
  imp (ecm ho ha hb hm) fun _ _ _ h => li_op h
/-- any value as a test -/
def gTru (f : DTE) : DTT := fun δ M Q => f δ M fun x M1 => match x with
  | .bl k => Q k M1
  | .non => Q false M1
  | .int i => Q (i != 0) M1
  | .str y => y.length ≤ sizeLine ∧ Q ((y.length : Int) != 0) M1
  | .lst xs => Q (!xs.isEmpty) M1
  | .tup xs => Q (!xs.isEmpty) M1
  | .ref p => ∃ xs, M1 p = some (.lst xs) ∧ Q (!xs.isEmpty) M1
  | _ => False
theorem RDs.emp {K : PySem.W.Frag} {W : Addr → Prop} {H : Hp} {vs : List V} {ds : List Da} (r : RDs K W H vs ds) : (!vs.isEmpty) = !ds.isEmpty := by cases r <;> rfl
theorem d_tv (ha : DE X e f) (he : ∀ whole, isTrue e X.env whole = (do let v ← whole; standAt e.pos; holding [v] (truthy v)) := by intro _; rfl) : DT X e (gTru f) :=
  pt_imp (tv ha he) fun σ H Q ⟨δ, F, W, M, Qd, ev, s, h, k⟩ => ⟨δ, F, W, M, _, ev, s, h, fun v H1 W1 d M1 g1 s1 r1 q1 => by
    have k1 := k.mono g1
    cases r1 with
    | non => exact k1.now s1 rfl q1
    | bl b => exact k1.now s1 rfl q1
    | int b => exact k1.now s1 rfl q1
    | str b => exact ⟨q1.1, k1.now s1 rfl q1.2⟩
    | lst hs rv => exact ⟨_, .inl ⟨_, hs.sq, rv.emp.symm⟩, k1.now s1 rfl q1⟩
    | tup hs rv => exact ⟨_, .inr (.inl ⟨_, hs.sq, rv.emp.symm⟩), k1.now s1 rfl q1⟩
    | ref p =>
      obtain ⟨xs, hm, q⟩ := q1
      obtain ⟨u, hu, mr⟩ := s1.mem _ _ hm
      cases mr with
      | lst rv => exact ⟨_, .inl ⟨_, SqL.of hu, rv.emp.symm⟩, k1.now s1 rfl q⟩
    | _ => exact q1.elim⟩
def gOr (t u : DTT) : DTT := fun δ M Q => t δ M fun c M1 => if c = true then Q true M1 else u δ M1 Q
def gNot (t : DTT) : DTT := fun δ M Q => t δ M fun c M1 => Q (!c) M1
theorem d_or1 (ha : DT X a ft) : DW X (.BoolOp .Or [a] pos) ft := pw_or1 ha
theorem d_or (ha : DT X a ft) (hb : DW X (.BoolOp .Or (b :: rest) pos) fu) : DW X (.BoolOp .Or (a :: b :: rest) pos) (gOr ft fu) :=
  pw_imp (pw_or ha hb) fun σ H Q ⟨δ, F, W, M, Qd, ev, s, h, k⟩ => ⟨δ, F, W, M, _, ev, s, h, fun v H1 W1 d M1 g1 s1 r1 q1 => by
    cases r1
    cases v with
    | false => exact ⟨δ, F, W1, M1, Qd, ev.mono g1, s1, q1, k.mono g1⟩
    | true => exact (k.mono g1).now s1 rfl q1⟩
theorem d_w (h : DW X e ft) : DT X e ft := PW.pt h
theorem d_tnot (ha : DT X a ft) : DT X (.UnaryOp .Not a pos) (gNot ft) := pt_imp (pt_not ha) fun σ H Q ⟨δ, F, W, M, Qd, ev, s, h, k⟩ => ⟨δ, F, W, M, _, ev, s, h, fun v H1 W1 d M1 g1 s1 r1 q1 => by
    cases r1
    exact (k.mono g1).now s1 rfl q1⟩
def gIf (t : DTT) (fa fb : DTE) : DTE := fun δ M Q => t δ M fun c M1 => if c = true then fa δ M1 Q else fb δ M1 Q
theorem d_if (hc : DT X c ft) (ha : DE X a fa) (hb : DE X b fb) : DE X (.IfExp c a b pos) (gIf ft fa fb) := imp (pe_ifExp hc ha hb) fun σ H Q ⟨δ, F, W, M, Qd, ev, s, h, k⟩ => ⟨δ, F, W, M, _, ev, s, h, fun v H1 W1 d M1 g1 s1 r1 q1 => by
    cases r1
    cases v with
    | true => exact ⟨δ, F, W1, M1, Qd, ev.mono g1, s1, q1, k.mono g1⟩
    | false => exact ⟨δ, F, W1, M1, Qd, ev.mono g1, s1, q1, k.mono g1⟩⟩
end
end U
set_option Elab.async false
set_option linter.all false
set_option maxRecDepth 100000
set_option maxHeartbeats 2000000
namespace U
open PySem PySem.Spec PyProof.Rows L2
section
variable {K : PySem.W.Frag} {F W : Addr → Prop} {H : Hp} {M : Mm}
theorem Stt.list (s : Stt K F W M H) {p : Addr} {xs : List Da} (h : M p = some (.lst xs)) : ∃ vs, H p = some (.lst vs) ∧ RDs K W H vs xs := by
  obtain ⟨u, hu, mr⟩ := s.mem _ _ h
  cases mr with
  | lst rv => exact ⟨_, hu, rv⟩
end
section
variable {X : Cx} {a b c e : Expr} {es rest : List Expr} {fa fb fc f : DTE} {ft fu : DTT} {fs : DTA} {pos p : Pos}
def gNil : DTA := fun _ M Q => Q [] M
def gCons (fa : DTE) (fs : DTA) : DTA := fun δ M Q => fa δ M fun x M1 => fs δ M1 fun xs M2 => Q (x :: xs) M2
theorem d_nil : DA X [] gNil := pa_imp pa_nil fun σ H Q ⟨δ, F, W, M, Qd, ev, s, h, k⟩ => k.now s .nil h
theorem d_cons (ha : DE X e f) (hr : DA X es fs) (hs : starEach (e :: es) X.env = (false, eval e X.env) :: starEach es X.env := by rfl) : DA X (e :: es) (gCons f fs) :=
  pa_imp (pa_cons ha hr hs) fun σ H Q ⟨δ, F, W, M, Qd, ev, s, h, k⟩ => ⟨δ, F, W, M, _, ev, s, h, fun v H1 W1 d M1 g1 s1 r1 q1 => ⟨δ, F, W1, M1, _, ev.mono g1, s1, q1, fun vs H2 W2 ds M2 g2 s2 r2 q2 =>
    (k.mono (g1.trans g2)).now s2 (.cons (r1.mono g2) r2) q2⟩⟩
def gTup (fs : DTA) : DTE := fun δ M Q => fs δ M fun xs M1 => Sz xs.length ∧ Q (.tup xs) M1
def gLst (fs : DTA) : DTE := fun δ M Q => fs δ M fun xs M1 => Sz xs.length ∧ Q (.lst xs) M1
def gLstM (fs : DTA) : DTE := fun δ M Q => fs δ M fun xs M1 => Sz xs.length ∧ ∀ p, M1 p = none → Q (.ref p) (mput M1 p (.lst xs))
theorem d_tup {x1} (h : DA X es fs) : DE X (.Tuple es x1 pos) (gTup fs) := imp (pe_tupF h) fun σ H Q ⟨δ, F, W, M, Qd, ev, s, h, k⟩ => ⟨δ, F, W, M, _, ev, s, h, fun vs H1 W1 ds M1 g1 s1 r1 q1 =>
  ⟨by rw [RDs.length r1]; exact q1.1.ok, fun p hp o ho => (k.mono g1).newT s1 hp r1 ho q1.2⟩⟩
theorem d_lst (h : DA X es fs) : DE X (.List es pos) (gLst fs) := imp (pe_lst h) fun σ H Q ⟨δ, F, W, M, Qd, ev, s, h, k⟩ => ⟨δ, F, W, M, _, ev, s, h, fun vs H1 W1 ds M1 g1 s1 r1 q1 =>
  ⟨by rw [RDs.length r1]; exact q1.1.ok, fun p hp => (k.mono g1).newL s1 hp r1 q1.2⟩⟩
theorem d_lstM (h : DA X es fs) : DE X (.List es pos) (gLstM fs) := imp (pe_lst h) fun σ H Q ⟨δ, F, W, M, Qd, ev, s, h, k⟩ => ⟨δ, F, W, M, _, ev, s, h, fun vs H1 W1 ds M1 g1 s1 r1 q1 =>
  ⟨by rw [RDs.length r1]; exact q1.1.ok, fun p hp => (k.mono g1).newM s1 hp r1 q1.2⟩⟩
theorem atI_rel {K : PySem.W.Frag} {W : Addr → Prop} {H : Hp} {vs : List V} {ds : List Da} {i : Int} {d : Da} (r : RDs K W H vs ds) (h : atI ds i = some d) : ∃ v, atI vs i = some v ∧ RD K W H v d := by
  unfold atI at h ⊢
  rw [r.length]
  cases e : ixN ds.length i with
  | none => rw [e] at h; cases h
  | some j => rw [e] at h; exact r.get h
def hIx : D2 := fun x y M Q => match x, y with
  | .str z, .int i => Sz z.length ∧ ∃ c, atI z.cps.toList i = some c ∧ Q (.str ⟨#[c]⟩) M
  | .lst xs, .int i => ∃ v, atI xs i = some v ∧ Q v M
  | .tup xs, .int i => ∃ v, atI xs i = some v ∧ Q v M
  | .ref p, .int i => ∃ xs v, M p = some (.lst xs) ∧ atI xs i = some v ∧ Q v M
  | _, _ => False
theorem d_ix (ha : DE X a fa) (hb : DE X b fb) (hs : PlainIx b := by exact fun _ _ => rfl) : DE X (.Subscript a b pos) (gOp hIx fa fb) := imp (ix ha hb hs) fun σ H Q h => by
  obtain ⟨δ, F, W, M, Qd, ev, s, h, k⟩ := h
  refine ⟨δ, F, W, M, _, ev, s, h, fun v H1 W1 d M1 g1 s1 r1 q1 => ⟨δ, F, W1, M1, _, ev.mono g1, s1, q1, fun u H2 W2 e M2 g2 s2 r2 q2 => ?_⟩⟩
  have k2 := k.mono (g1.trans g2)
  have r1' := r1.mono g2
  unfold hIx at q2
  split at q2
  · cases r1'; cases r2
    obtain ⟨hz, c, hc, q⟩ := q2
    exact ⟨hz.ok, c, hc, k2.now s2 (.str _) q⟩
  · cases r1' with
    | lst hs rv =>
      cases r2
      obtain ⟨x, hx, q⟩ := q2
      obtain ⟨y, hy, ry⟩ := atI_rel rv hx
      exact ⟨_, y, .inl hs.sq, hy, k2.now s2 ry q⟩
  · cases r1' with
    | tup hs rv =>
      cases r2
      obtain ⟨x, hx, q⟩ := q2
      obtain ⟨y, hy, ry⟩ := atI_rel rv hx
      exact ⟨_, y, .inr hs.sq, hy, k2.now s2 ry q⟩
  · cases r1' with
    | ref p =>
      cases r2
      obtain ⟨xs, x, hm, hx, q⟩ := q2
      obtain ⟨vs, hv, rv⟩ := s2.list hm
      obtain ⟨y, hy, ry⟩ := atI_rel rv hx
      exact ⟨_, y, .inl (SqL.of hv), hy, k2.now s2 ry q⟩
  · exact q2.elim
end
end U
set_option Elab.async false
set_option linter.all false
set_option maxRecDepth 100000
set_option maxHeartbeats 2000000
namespace U
open PySem PySem.Spec PyProof.Rows L2
abbrev DC := List Da → Mm → DK → Prop
def L2c (K : PySem.W.Frag) (g : DC) : List V → Hp → VK → Prop := fun xs H Q => ∃ F W M ds Qd, RDs K W H xs ds ∧ Stt K F W M H ∧ g ds M Qd ∧ Kt (rE K) K F W H Qd Q
def gBi (g : DC) (fs : DTA) : DTE := fun δ M Q => fs δ M fun ds M1 => g ds M1 Q
def CD (X : Cx) (f : Value) (g : DC) : Prop := CallR X f (L2c X.K g)
section
variable {X : Cx} {a b c e : Expr} {es rest : List Expr} {fa fb fc f : DTE} {ft fu : DTT} {fs : DTA} {pos p : Pos} {g : DC}
theorem li_cb {K : PySem.W.Frag} {σ : L2.St} {H : Hp} {Q : VK} (h : Li (rE K) K (gBi g fs) σ H Q) : tCB (L2c K g) (Li (rA K) K fs) σ H Q := by
  obtain ⟨δ, F, W, M, Qd, ev, s, h, k⟩ := h
  exact ⟨δ, F, W, M, _, ev, s, h, fun vs H1 W1 ds M1 g1 s1 r1 q1 => ⟨F, W1, M1, ds, Qd, r1, s1, q1, k.mono g1⟩⟩
theorem d_b {x : Str} {id : String} (m : X.mg x = none) (hv : bootBuiltins x = some (.builtin id)) (hc : CD X (.builtin id) g) (ha : DA X (e :: es) fs) (hg : Gl X x := by rfl) (hn : x ≠ "__name__" := by decide) (hdb : (x == ("__debug__" : Str)) = false := by decide)
    (he : starEach (e :: es) X.env = (false, eval e X.env) :: starEach es X.env := by rfl) (hpl : (backTo pos (starEach es X.env)).any (·.1) = false := by rfl) : DE X (.Call (.Name x p) (e :: es) [] pos) (gBi g fs) :=
  imp (pe_callB hc hg m hv ha hn hdb he hpl) fun _ _ _ h => li_cb h
theorem d_t {x : Str} {T : String} (m : X.mg x = none) (hv : bootBuiltins x = some (.type T)) (hc : CD X (.type T) g) (ha : DA X (e :: es) fs) (hg : Gl X x := by rfl) (hn : x ≠ "__name__" := by decide) (hdb : (x == ("__debug__" : Str)) = false := by decide)
    (he : starEach (e :: es) X.env = (false, eval e X.env) :: starEach es X.env := by rfl) (hpl : (backTo pos (starEach es X.env)).any (·.1) = false := by rfl) : DE X (.Call (.Name x p) (e :: es) [] pos) (gBi g fs) :=
  imp (pe_callTy hc hg m hv ha hn hdb he hpl) fun _ _ _ h => li_cb h
theorem cd_imp {f : Value} (h : ∀ xs H Q, L2c X.K g xs H Q → ∃ r : List V → Hp → VK → Prop, CallR X f r ∧ r xs H Q) : CD X f g := callCases h
theorem RDs.one {K : PySem.W.Frag} {W : Addr → Prop} {H : Hp} {vs : List V} {d : Da} (r : RDs K W H vs [d]) : ∃ v, vs = [v] ∧ RD K W H v d := by
  cases r with
  | cons h k => cases k; exact ⟨_, rfl, h⟩
theorem RDs.two {K : PySem.W.Frag} {W : Addr → Prop} {H : Hp} {vs : List V} {d e : Da} (r : RDs K W H vs [d, e]) : ∃ v u, vs = [v, u] ∧ RD K W H v d ∧ RD K W H u e := by
  cases r with
  | cons h k =>
    obtain ⟨u, rfl, q⟩ := k.one
    exact ⟨_, _, rfl, h, q⟩
def kLen : DC := fun xs M Q => match xs with
  | [.str y] => Sz y.length ∧ Q (.int y.length) M
  | [.lst xs] => Q (.int xs.length) M
  | [.tup xs] => Q (.int xs.length) M
  | [.ref p] => ∃ xs, M p = some (.lst xs) ∧ Q (.int xs.length) M
  | _ => False
theorem c_dlen : CD X (.builtin "len") kLen := cd_imp fun vs H Q ⟨F, W, M, ds, Qd, r, s, h, k⟩ => by
  refine ⟨_, c_len, ?_⟩
  unfold kLen at h
  split at h
  · obtain ⟨v, rfl, r1⟩ := r.one; cases r1
    exact ⟨h.1.ok, k.now s (.int _) h.2⟩
  · obtain ⟨v, rfl, r1⟩ := r.one
    cases r1 with
    | lst hs rv => exact ⟨_, .inl ⟨_, hs.sq, rfl⟩, by rw [rv.length]; exact k.now s (.int _) h⟩
  · obtain ⟨v, rfl, r1⟩ := r.one
    cases r1 with
    | tup hs rv => exact ⟨_, .inr ⟨_, hs.sq, rfl⟩, by rw [rv.length]; exact k.now s (.int _) h⟩
  · obtain ⟨v, rfl, r1⟩ := r.one
    cases r1 with
    | ref p =>
      obtain ⟨xs, hm, q⟩ := h
      obtain ⟨vs, hv, rv⟩ := s.list hm
      exact ⟨_, .inl ⟨_, SqL.of hv, rfl⟩, by rw [rv.length]; exact k.now s (.int _) q⟩
  · exact h.elim
def kAbs : DC := fun xs M Q => match xs with
  | [.int i] => Q (.int (if i < 0 then -i else i)) M
  | _ => False
theorem c_dabs : CD X (.builtin "abs") kAbs := cd_imp fun vs H Q ⟨F, W, M, ds, Qd, r, s, h, k⟩ => by
  refine ⟨_, c_abs, ?_⟩
  unfold kAbs at h
  split at h
  · obtain ⟨v, rfl, r1⟩ := r.one; cases r1; exact k.now s (.int _) h
  · exact h.elim
def kMax : DC := fun xs M Q => match xs with
  | [.int i, .int j] => Q (.int (if j > i then j else i)) M
  | _ => False
theorem c_dmax (hc : X.calm = true) : CD X (.builtin "max") kMax := cd_imp fun vs H Q ⟨F, W, M, ds, Qd, r, s, h, k⟩ => by
  refine ⟨_, c_max hc, ?_⟩
  unfold kMax at h
  split at h
  · obtain ⟨v, u, rfl, r1, r2⟩ := r.two; cases r1; cases r2; exact k.now s (.int _) h
  · exact h.elim
def kMin : DC := fun xs M Q => match xs with
  | [.int i, .int j] => Q (.int (if j < i then j else i)) M
  | _ => False
theorem c_dmin (hc : X.calm = true) : CD X (.builtin "min") kMin := cd_imp fun vs H Q ⟨F, W, M, ds, Qd, r, s, h, k⟩ => by
  refine ⟨_, c_min hc, ?_⟩
  unfold kMin at h
  split at h
  · obtain ⟨v, u, rfl, r1, r2⟩ := r.two; cases r1; cases r2; exact k.now s (.int _) h
  · exact h.elim
def kInt : DC := fun xs M Q => match xs with
  | [.int i] => Q (.int i) M
  | [.bl b] => Q (.int (if b then 1 else 0)) M
  | _ => False
theorem c_dint : CD X (.type "int") kInt := cd_imp fun vs H Q ⟨F, W, M, ds, Qd, r, s, h, k⟩ => by
  refine ⟨_, c_int, ?_⟩
  unfold kInt at h
  split at h
  · obtain ⟨v, rfl, r1⟩ := r.one; cases r1; exact k.now s (.int _) h
  · obtain ⟨v, rfl, r1⟩ := r.one; cases r1; exact k.now s (.int _) h
  · exact h.elim
/-- x.append(y), x.pop(i) .. -/
def hAppend (x : Da) (xs : List Da) (M : Mm) (Q : DK) : Prop := match x, xs with
  | .ref p, [y] => ∃ ds, M p = some (.lst ds) ∧ Sz ds.length ∧ Q .non (mput M p (.lst (ds ++ [y])))
  | _, _ => False
def gMe (g : Da → List Da → Mm → DK → Prop) (f : DTE) (fs : DTA) : DTE := fun δ M Q => f δ M fun x M1 => (∃ p ds, x = .ref p ∧ M1 p = some (.lst ds)) ∧ fs δ M1 fun xs M2 => g x xs M2 Q
def L2m (K : PySem.W.Frag) (g : Da → List Da → Mm → DK → Prop) : V → List V → Hp → VK → Prop := fun x xs H Q => ∃ F W M d ds Qd, RD K W H x d ∧ RDs K W H xs ds ∧ Stt K F W M H ∧ g d ds M Qd ∧ Kt (rE K) K F W H Qd Q
theorem mtImp {id : String} {r r' : V → List V → Hp → VK → Prop} (h : MtR X id r) (f : ∀ x xs H Q, r' x xs H Q → r x xs H Q) : MtR X id r' := fun pins s σ H x xs v us Q I rx rv q => h pins s σ H x xs v us Q I rx rv (f x xs H Q q)
theorem Kt.putL {K : PySem.W.Frag} {F W : Addr → Prop} {M : Mm} {H : Hp} {Qd : DK} {Q : VK} {q : Addr} {vs : List V} {ds : List Da} {o : MO} {v : V} {d : Da} (k : Kt (rE K) K F W H Qd Q) (s : Stt K F W M H) (h : M q = some o) (r : RDs K W H vs ds) (rv : RD K W H v d) (z : Qd d (mput M q (.lst ds))) : Q v (upd H q (.lst vs)) :=
  (k.mono (grow_put s h)).now (s.put h (.lst r)) (rv.mono (grow_put s h)) z
theorem mt_dappend (h : MtR X "list.append" rAppend) : MtR X "list.append" (L2m X.K hAppend) := mtImp h fun x xs H Q ⟨F, W, M, d, ds, Qd, r, rs, s, q, k⟩ => by
  unfold hAppend at q
  split at q
  · cases r
    obtain ⟨y, rfl, ry⟩ := rs.one
    obtain ⟨es, hm, hz, q⟩ := q
    obtain ⟨vs, hv, rv⟩ := s.list hm
    exact ⟨_, vs, y, rfl, rfl, hv, by rw [rv.length]; have := hz.le; rw [sizeLine_eq]; omega, k.putL s hm (rv.append (.cons ry .nil)) .non q⟩
  · exact q.elim
variable {o : Expr} {apos cpos : Pos} {name : Str} {id : String} {gm : Da → List Da → Mm → DK → Prop}
theorem li_me {K : PySem.W.Frag} {σ : L2.St} {H : Hp} {Q : VK} (h : Li (rE K) K (gMe gm f fs) σ H Q) : tBM K "list" (L2m K gm) (Li (rE K) K f) (Li (rA K) K fs) σ H Q := by
  obtain ⟨δ, F, W, M, Qd, ev, s, h, k⟩ := h
  refine ⟨δ, F, W, M, _, ev, s, h, fun v H1 W1 d M1 g1 s1 r1 q1 => ?_⟩
  obtain ⟨⟨p, ds, rfl, hm⟩, q1⟩ := q1
  cases r1
  obtain ⟨vs, hv, rv⟩ := s1.list hm
  exact ⟨.inl ⟨rfl, vs, SqL.of hv⟩, δ, F, W1, M1, _, ev.mono g1, s1, q1, fun us H2 W2 es M2 g2 s2 r2 q2 => ⟨F, W2, M2, _, es, Qd, .ref p, r2, s2, q2, k.mono (g1.trans g2)⟩⟩
theorem d_me (slot : Slot "list" name id) (hty : typeOf (.builtin id) = pure (.type "method_descriptor")) (hm : MtR X id (L2m X.K gm)) (ho : DE X o f) (ha : DA X (e :: es) fs)
    (hbase : attributeBase o name X.env (eval o X.env) = eval o X.env := by rfl)
    (hfew : ((backTo cpos (starEach (e :: es) X.env)).all (fun x => !x.1) && (backToKw cpos (keywordEach [] X.env)).all (fun x => x.1.isSome)
      && decide ((e :: es).length + ([] : List Keyword).length + (if ([] : List Keyword).isEmpty then 0 else 1) < 30)) = true := by rfl)
    (hline : (apos.endLine == cpos.line) = true := by rfl) (hs : starEach (e :: es) X.env = (false, eval e X.env) :: starEach es X.env := by rfl) (hplain : (backTo cpos (starEach es X.env)).any (·.1) = false := by rfl) :
    DE X (.Call (.Attribute o name apos) (e :: es) [] cpos) (gMe gm f fs) := imp (pe_bm PySem.F.plainAttrs_list slot hty hm ho ha hbase hfew hline hs hplain) fun _ _ _ h => li_me h
theorem d_append (ho : DE X o f) (ha : DA X (e :: es) fs)
    (hbase : attributeBase o "append" X.env (eval o X.env) = eval o X.env := by rfl)
    (hfew : ((backTo cpos (starEach (e :: es) X.env)).all (fun x => !x.1) && (backToKw cpos (keywordEach [] X.env)).all (fun x => x.1.isSome)
      && decide ((e :: es).length + ([] : List Keyword).length + (if ([] : List Keyword).isEmpty then 0 else 1) < 30)) = true := by rfl)
    (hline : (apos.endLine == cpos.line) = true := by rfl) (hs : starEach (e :: es) X.env = (false, eval e X.env) :: starEach es X.env := by rfl) (hplain : (backTo cpos (starEach es X.env)).any (·.1) = false := by rfl) :
    DE X (.Call (.Attribute o "append" apos) (e :: es) [] cpos) (gMe hAppend f fs) := d_me PySem.F.slot_list_append PySem.F.type_list_append (mt_dappend mt_append) ho ha hbase hfew hline hs hplain
end
/-- what the context takes of an exception -/
def EXm (X : Cx) : XK := fun cls d H => ∀ σ u s', XE X (fun c d' σ' H' => c = cls ∧ d' = d ∧ σ' = σ ∧ H' = H) u s' → X.xe u s'
theorem EXm.takes (X : Cx) : Takes X (fun cls d _ H => EXm X cls d H) := fun u s' ⟨a, B, sI, pins, σ, H, cls, d, e, I, nb, up, sky, na, os, ag, w⟩ =>
  w σ u s' ⟨a, B, sI, pins, σ, H, cls, d, e, I, nb, up, sky, na, os, ag, rfl, rfl, rfl, rfl⟩
theorem EXm.of {X : Cx} {W : WX} (tk : Takes X W) {cls : Value} {d : Option Addr} {H : Hp} (h : ∀ σ, σ.length = X.N.length → W cls d σ H) : EXm X cls d H := fun σ u s' ⟨a, B, sI, pins, σ', H', cls', d', e, I, nb, up, sky, na, os, ag, h1, h2, h3, h4⟩ => by
  subst h1 h2 h3 h4
  exact tk u s' ⟨a, B, sI, pins, σ', H', cls', d', e, I, nb, up, sky, na, os, ag, h _ I.len⟩
/-- an exception's own values -/
def XR (K : PySem.W.Frag) (W : Addr → Prop) (H : Hp) : Option Addr → List (Str × Da) → Prop
  | none, fs => fs = []
  | some a, fs => fs ≠ [] ∧ ∃ vs, W a ∧ H a = some (.xd vs) ∧ RF K W H vs fs
def KX (K : PySem.W.Frag) (F W : Addr → Prop) (H : Hp) (Ed : DX) (E : XK) : Prop :=
  ∀ cls d H' W' fs M', Grow F W H W' H' → Stt K F W' M' H' → XR K W' H' d fs → Ed cls fs M' → E cls d H'
theorem KX.mono {K : PySem.W.Frag} {F W W1 : Addr → Prop} {H H1 : Hp} {Ed : DX} {E : XK} (g : Grow F W H W1 H1) (k : KX K F W H Ed E) : KX K F W1 H1 Ed E :=
  fun c d H' W' fs M' g' => k c d H' W' fs M' (g.trans g')
structure DEnds where
  nx : De → Mm → Prop
  rt : DK
  bk : De → Mm → Prop := fun _ _ => False
  ct : De → Mm → Prop := fun _ _ => False
  ex : DX := fun _ _ _ => False
abbrev DTS := DEnds → De → Mm → Prop
def KE (K : PySem.W.Frag) (F W : Addr → Prop) (H : Hp) (Qd : De → Mm → Prop) (Q : L2.St → Hp → Prop) : Prop :=
  ∀ σ H' W' δ M', Grow F W H W' H' → Stt K F W' M' H' → EnvR K W' H' δ σ → Qd δ M' → Q σ H'
theorem KE.mono {K : PySem.W.Frag} {F W W1 : Addr → Prop} {H H1 : Hp} {Qd : De → Mm → Prop} {Q : L2.St → Hp → Prop} (g : Grow F W H W1 H1) (k : KE K F W H Qd Q) : KE K F W1 H1 Qd Q :=
  fun v H' W' d M' g' => k v H' W' d M' (g.trans g')
theorem KE.now {K : PySem.W.Frag} {F W : Addr → Prop} {H : Hp} {M : Mm} {Qd : De → Mm → Prop} {Q : L2.St → Hp → Prop} {σ : L2.St} {δ : De} (k : KE K F W H Qd Q) (s : Stt K F W M H) (e : EnvR K W H δ σ) (q : Qd δ M) : Q σ H := k σ H W δ M .refl s e q
structure KS (K : PySem.W.Frag) (E : XK) (F W : Addr → Prop) (H : Hp) (Dd : DEnds) (D : Ends) : Prop where
  nx : KE K F W H Dd.nx D.nx
  rt : Kt (rE K) K F W H Dd.rt D.rt
  bk : KE K F W H Dd.bk D.bk
  ct : KE K F W H Dd.ct D.ct
  ex : KX K F W H Dd.ex E
theorem KS.mono {K : PySem.W.Frag} {E : XK} {F W W1 : Addr → Prop} {H H1 : Hp} {Dd : DEnds} {D : Ends} (g : Grow F W H W1 H1) (k : KS K E F W H Dd D) : KS K E F W1 H1 Dd D := ⟨k.nx.mono g, k.rt.mono g, k.bk.mono g, k.ct.mono g, k.ex.mono g⟩
def LS (K : PySem.W.Frag) (E : XK) (f : DTS) : TS := fun D σ H => ∃ δ F W M Dd, EnvR K W H δ σ ∧ Stt K F W M H ∧ f Dd δ M ∧ KS K E F W H Dd D
def DS (X : Cx) (st : Stmt) (f : DTS) : Prop := PS X st (LS X.K (EXm X) f)
def DB (X : Cx) (st : List Stmt) (f : DTS) : Prop := PSs X st (LS X.K (EXm X) f)
theorem ps_imp {X : Cx} {st : Stmt} {t t' : TS} (h : PS X st t) (f : ∀ D σ H, t' D σ H → t D σ H) : PS X st t' := ⟨fun pins s σ H D I q => h.run pins s σ H D I (f D σ H q)⟩
theorem pss_imp {X : Cx} {st : List Stmt} {t t' : TS} (h : PSs X st t) (f : ∀ D σ H, t' D σ H → t D σ H) : PSs X st t' := ⟨fun pins s σ H D I q => h.run pins s σ H D I (f D σ H q)⟩
section
variable {X : Cx} {a b c e : Expr} {es : List Expr} {st : Stmt} {rest body : List Stmt} {fa fb fc f : DTE} {ft fu : DTT} {fs : DTA} {pos p : Pos} {t u : DTS}
def hNext : DTS := fun D δ M => D.nx δ M
def hSeq (t u : DTS) : DTS := fun D δ M => t { D with nx := u D } δ M
theorem z_nil : DB X [] hNext := pss_imp pss_nil fun D σ H ⟨δ, F, W, M, Dd, ev, s, h, k⟩ => k.nx.now s ev h
theorem z_one (h : DS X st t) : DB X [st] t := pss_one h
theorem z_cons (h1 : DS X st t) (h2 : DB X rest u) : DB X (st :: rest) (hSeq t u) := pss_imp (pss_cons h1 h2) fun D σ H ⟨δ, F, W, M, Dd, ev, s, h, k⟩ =>
  ⟨δ, F, W, M, _, ev, s, h, fun σ' H' W' δ' M' g s' e' q => ⟨δ', F, W', M', Dd, e', s', q, k.mono g⟩, k.rt, k.bk, k.ct, k.ex⟩
def hDrop (f : DTE) : DTS := fun D δ M => f δ M fun _ M1 => D.nx δ M1
theorem z_expr (he : DE X e f) (hs : swapsWith e none pos.line X.env = pure false := by rfl) : DS X (.Expr e pos) (hDrop f) := ps_imp (ps_expr he hs) fun D σ H ⟨δ, F, W, M, Dd, ev, s, h, k⟩ =>
  ⟨δ, F, W, M, _, ev, s, h, fun v H1 W1 d M1 g1 s1 r1 q1 => (k.nx.mono g1).now s1 (ev.mono g1) q1⟩
def hRet (f : DTE) : DTS := fun D δ M => f δ M D.rt
theorem z_ret (he : DE X e f) : DS X (.Return (some e) pos) (hRet f) := ps_imp (ps_ret he) fun D σ H ⟨δ, F, W, M, Dd, ev, s, h, k⟩ => ⟨δ, F, W, M, _, ev, s, h, k.rt⟩
def hIf (c : DTT) (t u : DTS) : DTS := fun D δ M => c δ M fun b M1 => if b = true then t D δ M1 else u D δ M1
theorem z_if {a b : List Stmt} (hc : DT X c ft) (ha : DB X a t) (hb : DB X b u) : DS X (.If c a b pos) (hIf ft t u) := ps_imp (ps_if hc ha hb) fun D σ H ⟨δ, F, W, M, Dd, ev, s, h, k⟩ =>
  ⟨δ, F, W, M, _, ev, s, h, fun v H1 W1 d M1 g1 s1 r1 q1 => by
    cases r1
    cases v with
    | true => exact ⟨δ, F, W1, M1, Dd, ev.mono g1, s1, q1, k.mono g1⟩
    | false => exact ⟨δ, F, W1, M1, Dd, ev.mono g1, s1, q1, k.mono g1⟩⟩
abbrev DTG := Da → De → Mm → (De → Mm → Prop) → Prop
def LG (K : PySem.W.Frag) (g : DTG) : TG := fun v σ H Q => ∃ δ F W M d Qd, EnvR K W H δ σ ∧ Stt K F W M H ∧ RD K W H v d ∧ g d δ M Qd ∧ KE K F W H Qd Q
def DG (X : Cx) (t : Expr) (g : DTG) : Prop := PG X t (LG X.K g)
theorem pg_imp {tg : Expr} {t t' : TG} (h : PG X tg t) (f : ∀ v σ H Q, t' v σ H Q → t v σ H Q) : PG X tg t' := ⟨fun pins s σ H v u Q I r q => h.run pins s σ H v u Q I r (f v σ H Q q)⟩
def hName (i : Nat) : DTG := fun d δ M Q => Q (δ.set i (some d)) M
theorem t_n (i : Nat) {x : Str} {pos : Pos} (hN : X.N.Nodup) (hi : X.N[i]? = some x := by rfl) (hx : Loc X.env.scope x := by first | exact Or.inl rfl | exact Or.inr rfl)
    (hf : X.fn x = true ∨ X.env.scope.names.lookup x = some .local := by first | exact .inl rfl | exact .inr rfl) : DG X (.Name x pos) (hName i) :=
  pg_imp (gn i hN hi hx hf) fun v σ H Q ⟨δ, F, W, M, d, Qd, ev, s, r, h, k⟩ => k.now s (ev.set r i) h
/-- p[i] = v on a list of the memory -/
def hSubT (fo fi : DTE) : DTG := fun d δ M Q => fo δ M fun o M1 => fi δ M1 fun i M2 => match o, i with
  | .ref p, .int k => ∃ xs j, M2 p = some (.lst xs) ∧ ixN xs.length k = some j ∧ Q δ (mput M2 p (.lst (xs.set j d)))
  | _, _ => False
theorem t_sub {o i : Expr} {fo fi : DTE} (ho : DE X o fo) (hi : DE X i fi)
    (ha : ∀ v, assign (.Subscript o i pos) X.env v = (do
      let ov ← holding [v] (eval o X.env)
      let iv ← holding [v, ov] (eval i X.env)
      standAt pos
      holding [v, ov, iv] (setItem ov iv v)
      release [v, ov, iv] []) := by intro _; rfl) : DG X (.Subscript o i pos) (hSubT fo fi) := pg_imp (pg_sub ho hi s_list ha) fun v σ H Q ⟨δ, F, W, M, d, Qd, ev, s, r, h, k⟩ =>
  ⟨δ, F, W, M, _, ev, s, h, fun v1 H1 W1 d1 M1 g1 s1 r1 q1 => ⟨δ, F, W1, M1, _, ev.mono g1, s1, q1, fun v2 H2 W2 d2 M2 g2 s2 r2 q2 => by
    have r1' := r1.mono g2
    cases r1' <;> cases r2 <;> first | exact q2.elim | skip
    rename_i p j
    obtain ⟨xs, n, hm, hn, q⟩ := q2
    obtain ⟨vs, hv, rv⟩ := s2.list hm
    have g3 := grow_put (o := .lst (vs.set n v)) s2 hm
    exact ⟨vs, n, hv, by rw [rv.length]; exact hn, (k.mono ((g1.trans g2).trans g3)).now (s2.put hm (.lst (rv.set n (r.mono (g1.trans g2))))) (ev.mono ((g1.trans g2).trans g3)) q⟩⟩⟩
def hAsg (f : DTE) (g : DTG) : DTS := fun D δ M => f δ M fun d M1 => g d δ M1 D.nx
theorem z_asg {tg : Expr} {g : DTG} (he : DE X e f) (hg : DG X tg g) (hs : swapsWithSole [tg] e pos.line X.env = pure false := by rfl) (hw : swappedStores [tg] e X.env = pure none := by rfl)
    (h1 : (assignEach [tg] X.env).map (·.2) = [assign tg X.env] := by rfl) : DS X (.Assign [tg] e pos) (hAsg f g) := ps_imp (ps_asg he hg hs hw h1) fun D σ H ⟨δ, F, W, M, Dd, ev, s, h, k⟩ =>
  ⟨δ, F, W, M, _, ev, s, h, fun v H1 W1 d M1 g1 s1 r1 q1 => ⟨δ, F, W1, M1, d, _, ev.mono g1, s1, r1, q1, k.nx.mono g1⟩⟩
theorem z_set (i : Nat) {x : Str} {pos' : Pos} (hN : X.N.Nodup) (he : DE X e f) (hi : X.N[i]? = some x := by rfl) (hx : Loc X.env.scope x := by first | exact Or.inl rfl | exact Or.inr rfl) (hs : swapsWith e (some (.Name x pos')) pos.line X.env = pure false := by rfl)
    (hf : X.fn x = true ∨ X.env.scope.names.lookup x = some .local := by first | exact .inl rfl | exact .inr rfl) : DS X (.Assign [.Name x pos'] e pos) (hAsg f (hName i)) := ps_imp (set i hN he hi hx hs hf) fun D σ H ⟨δ, F, W, M, Dd, ev, s, h, k⟩ =>
  ⟨δ, F, W, M, _, ev, s, h, fun v H1 W1 d M1 g1 s1 r1 q1 => (k.nx.mono g1).now s1 ((ev.mono g1).set r1 i) q1⟩
/-- x, y = a, b -/
def hPar (i j : Nat) (fs : DTA) : DTS := fun D δ M => fs δ M fun ds M1 => match ds with
  | [d, e] => D.nx ((δ.set i (some d)).set j (some e)) M1
  | _ => False
theorem li_par {i j : Nat} {E : XK} {D : Ends} {σ : L2.St} {H : Hp} (h : LS X.K E (hPar i j fs) D σ H) : tPar i j (Li (rA X.K) X.K fs) D σ H := by
  obtain ⟨δ, F, W, M, Dd, ev, s, h, k⟩ := h
  refine ⟨δ, F, W, M, _, ev, s, h, fun v H1 W1 d M1 g1 s1 r1 q1 => ?_⟩
  split at q1
  · obtain ⟨x, y, rfl, rx, ry⟩ := r1.two
    exact ⟨x, y, rfl, (k.nx.mono g1).now s1 (((ev.mono g1).set rx i).set ry j) q1⟩
  · exact q1.elim
end
end U
set_option Elab.async false
set_option linter.all false
set_option maxRecDepth 100000
set_option maxHeartbeats 2000000
namespace U
open PySem PySem.Spec PyProof.Rows L2
abbrev NoF : Addr → Prop := fun _ => False
theorem Grow.noF {F W W' : Addr → Prop} {H H' : Hp} (g : Grow F W H W' H') : Grow NoF W H W' H' := ⟨g.w, g.h, fun _ z => z.elim⟩
/-- the iterator yields these -/
def ItR (K : PySem.W.Frag) (W : Addr → Prop) (H : Hp) (J : It) (ds : List Da) : Prop :=
  ∀ F' W' H' M', Grow NoF W H W' H' → Stt K F' W' M' H' →
    (∀ i d, ds[i]? = some d → J.go i H' ∧ ∀ x H'', J.yld i H' x H'' → ∃ W'', Grow F' W' H' W'' H'' ∧ Stt K F' W'' M' H'' ∧ RD K W'' H'' x d) ∧ ∀ i, ds.length ≤ i → J.stop i H'
theorem ItR.mono {K : PySem.W.Frag} {F W W1 : Addr → Prop} {H H1 : Hp} {J : It} {ds : List Da} (g : Grow F W H W1 H1) (h : ItR K W H J ds) : ItR K W1 H1 J ds :=
  fun F' W' H' M' g' s => h F' W' H' M' (g.noF.trans g') s
theorem it_list {K : PySem.W.Frag} {W : Addr → Prop} {H : Hp} {a : Addr} {vs : List V} {ds : List Da} (hs : Sl K W H a vs) (rv : RDs K W H vs ds) : ItR K W H (Itl K a) ds := fun F' W' H' M' g s => by
  have q := (hs.mono g).sq
  have rv' := rv.mono g
  refine ⟨fun i d hd => ?_, fun i hi => ⟨vs, q, by rw [rv'.length]; exact hi⟩⟩
  obtain ⟨v, hv, r⟩ := rv'.get hd
  refine ⟨⟨vs, v, q, hv⟩, fun x H'' y => ?_⟩
  obtain ⟨rfl, y⟩ := y
  have e := y vs q
  rw [hv] at e
  cases e
  exact ⟨W', .refl, s, r⟩
theorem it_tup {K : PySem.W.Frag} {W : Addr → Prop} {H : Hp} {a : Addr} {vs : List V} {ds : List Da} (hs : Sp' K W H a vs) (rv : RDs K W H vs ds) : ItR K W H (Itt K a) ds := fun F' W' H' M' g s => by
  have q := (hs.mono g).sq
  have rv' := rv.mono g
  refine ⟨fun i d hd => ?_, fun i hi => ⟨vs, q, by rw [rv'.length]; exact hi⟩⟩
  obtain ⟨v, hv, r⟩ := rv'.get hd
  refine ⟨⟨vs, v, q, hv⟩, fun x H'' y => ?_⟩
  obtain ⟨rfl, y⟩ := y
  have e := y vs q
  rw [hv] at e
  cases e
  exact ⟨W', .refl, s, r⟩
/-- lo, lo + 1, .. -/
def rngD (lo : Int) (n : Nat) : List Da := (List.range n).map fun i => Da.int (lo + (i : Nat))
theorem it_rng {K : PySem.W.Frag} {W : Addr → Prop} {H : Hp} (lo : Int) (n : Nat) : ItR K W H (Itr lo n) (rngD lo n) := fun F' W' H' M' g s => by
  have hl : (rngD lo n).length = n := by unfold rngD; rw [List.length_map, List.length_range]
  refine ⟨fun i d hd => ?_, fun i hi => by rw [hl] at hi; exact hi⟩
  have hi : i < n := by have := (List.getElem?_eq_some_iff.mp hd).1; rw [hl] at this; exact this
  refine ⟨hi, fun x H'' y => ?_⟩
  obtain ⟨rfl, rfl⟩ := y
  unfold rngD at hd
  rw [List.getElem?_map, List.getElem?_range hi] at hd
  cases hd
  exact ⟨W', .refl, s, .int _⟩
def chrD (x : Str) : List Da := x.cps.toList.map fun c => Da.str ⟨#[c]⟩
theorem it_str {K : PySem.W.Frag} {W : Addr → Prop} {H : Hp} (x : Str) : ItR K W H (Its x) (chrD x) := fun F' W' H' M' g s => by
  have hl : (chrD x).length = x.cps.size := by unfold chrD; rw [List.length_map]; exact Array.length_toList
  refine ⟨fun i d hd => ?_, fun i hi => by rw [hl] at hi; exact hi⟩
  have hi : i < x.cps.size := by have := (List.getElem?_eq_some_iff.mp hd).1; rw [hl] at this; exact this
  refine ⟨hi, fun y H'' z => ?_⟩
  obtain ⟨rfl, c, hc, rfl⟩ := z
  unfold chrD at hd
  rw [List.getElem?_map, Array.getElem?_toList, hc] at hd
  cases hd
  exact ⟨W', .refl, s, .str _⟩
abbrev DTI := DR (List Da)
def LI (K : PySem.W.Frag) (f : DTI) : TI := fun σ H R => ∃ δ F W M Qd, EnvR K W H δ σ ∧ Stt K F W M H ∧ f δ M Qd ∧ ∀ J H' W' M' ds, Grow F W H W' H' → Stt K F W' M' H' → ItR K W' H' J ds → Qd ds M' → R J H'
def DI (X : Cx) (tg iter : Expr) (f : DTI) : Prop := PI X tg iter (LI X.K f)
theorem pi_imp {X : Cx} {tg e : Expr} {t t' : TI} (h : PI X tg e t) (f : ∀ σ H R, t' σ H R → t σ H R) : PI X tg e t' := ⟨fun pins s σ H R I q => h.run pins s σ H R I (f σ H R q)⟩
section
variable {X : Cx} {tg a b c e : Expr} {es : List Expr} {st : Stmt} {rest body : List Stmt} {fa fb fc f : DTE} {ft fu : DTT} {fs : DTA} {pos p : Pos} {t u : DTS} {di : DTI}
/-- any row, a text -/
def iAny (K : PySem.W.Frag) (tl : TE) : TI := fun σ H R => tl σ H fun x H1 => match x with
  | .str z => R (Its z) H1
  | .ref a => ((∃ xs, SqL K H1 a xs) ∧ R (Itl K a) H1) ∨ ((∃ xs, SqT K H1 a xs) ∧ R (Itt K a) H1)
  | _ => False
theorem pi_any {l : Expr} {tl : TE} (hl : PE X l tl) : PI X tg l (iAny X.K tl) := by
  refine ⟨fun pins s σ H R I h => ?_⟩
  refine thn (hl.run pins s σ H _ I h) fun v s1 ⟨x, H1, I1, r1, q1⟩ => ?_
  cases x <;> first | exact q1.elim | skip
  · rename_i z
    obtain ⟨t, rfl⟩ := r1
    cases ha : z.cps.all (· < 128)
    · exact wpAny_pyIter_wide ha (pi_one (tk := s1.toks) I1 _ (turn_str _ z t "str_iterator" (.inr rfl)) ⟨_, Heap.get?_push_size _ rfl, rfl, rfl⟩ q1)
    · exact wpAny_pyIter_ascii ha (pi_one (tk := s1.toks) I1 _ (turn_str _ z t "str_ascii_iterator" (.inl rfl)) ⟨_, Heap.get?_push_size _ rfl, rfl, rfl⟩ q1)
  · rename_i a
    cases r1
    rcases q1 with ⟨⟨xs, hq⟩, q⟩ | ⟨⟨xs, hq⟩, q⟩
    · obtain ⟨its, rv, p, hz⟩ := I1.list hq
      refine wpAny_pyIter_list p.isList ?_
      refine ⟨s1.heap.objs.size, [s1.heap.objs.size], _, _, H1, rfl, I1.kept (t' := s1.toks) fun b o e => Heap.get?_push_of_some _ e, turn_list a _, ⟨_, Heap.get?_push_size _ rfl, rfl, rfl⟩, fun b hb => ?_, q⟩
      have e : b = s1.heap.objs.size := by simpa using hb
      subst e
      exact I1.fpOk (Nat.le_refl _) (I1.hok.fresh (Nat.le_refl _))
    · obtain ⟨its, rv, p, hz⟩ := I1.tuple hq
      refine wpAny_pyIter_tuple (show s1.heap.IsTuple a its.toArray from p) ?_
      refine ⟨s1.heap.objs.size, [s1.heap.objs.size], _, _, H1, rfl, I1.kept (t' := s1.toks) fun b o e => Heap.get?_push_of_some _ e, turn_tuple a _, ⟨_, Heap.get?_push_size _ rfl, rfl, rfl⟩, fun b hb => ?_, q⟩
      have e : b = s1.heap.objs.size := by simpa using hb
      subst e
      exact I1.fpOk (Nat.le_refl _) (I1.hok.fresh (Nat.le_refl _))
def gIt (f : DTE) : DTI := fun δ M Q => f δ M fun x M1 => match x with
  | .lst ds => Q ds M1
  | .tup ds => Q ds M1
  | .str z => Q (chrD z) M1
  | .ref p => ∃ ds, M1 p = some (.lst ds) ∧ Q ds (mdel M1 p)
  | _ => False
theorem d_it (h : DE X e f) : DI X tg e (gIt f) := pi_imp (pi_any h) fun σ H R ⟨δ, F, W, M, Qd, ev, s, h, k⟩ => ⟨δ, F, W, M, _, ev, s, h, fun v H1 W1 d M1 g1 s1 r1 q1 => by
  cases r1 with
  | lst hs rv => exact .inl ⟨⟨_, hs.sq⟩, k _ _ W1 M1 _ g1 s1 (it_list hs rv) q1⟩
  | tup hs rv => exact .inr ⟨⟨_, hs.sq⟩, k _ _ W1 M1 _ g1 s1 (it_tup hs rv) q1⟩
  | str z => exact k _ _ W1 M1 _ g1 s1 (it_str z) q1
  | ref p =>
    obtain ⟨ds, hm, q⟩ := q1
    obtain ⟨s2, g2⟩ := s1.settle hm
    obtain ⟨vs, hv, rv⟩ := s1.list hm
    exact .inl ⟨⟨_, SqL.of hv⟩, k _ _ _ _ _ (g1.trans g2) s2 (it_list (.inl ⟨.inl rfl, .inl hv⟩) (rv.mono g2)) q⟩
  | _ => exact q1.elim⟩
/-- a range -/
def Rok (i : Int) : Prop := -(2 ^ 62) ≤ i ∧ i < 2 ^ 62
def gRg1 (fs : DTA) : DTI := fun δ M Q => fs δ M fun ds M1 => match ds with
  | [.int j] => Rok j ∧ Q (rngD 0 j.toNat) M1
  | _ => False
def gRg2 (fs : DTA) : DTI := fun δ M Q => fs δ M fun ds M1 => match ds with
  | [.int i, .int j] => (Rok i ∧ Rok j) ∧ Q (rngD i (j - i).toNat) M1
  | _ => False
theorem d_rg1 (hm : X.mg "range" = none) (ha : DA X [a] fs) (hg : Gl X "range" := by rfl) (hs : starEach [a] X.env = [(false, eval a X.env)] := by rfl) : DI X tg (.Call (.Name "range" p) [a] [] pos) (gRg1 fs) :=
  pi_imp (pi_range1 hg hm ha hs) fun σ H R ⟨δ, F, W, M, Qd, ev, s, h, k⟩ => ⟨δ, F, W, M, _, ev, s, h, fun vs H1 W1 ds M1 g1 s1 r1 q1 => by
    split at q1
    · obtain ⟨v, rfl, r⟩ := r1.one
      cases r
      exact ⟨_, rfl, q1.1.1, q1.1.2, k _ _ W1 M1 _ g1 s1 (it_rng _ _) q1.2⟩
    · exact q1.elim⟩
theorem d_rg2 (hm : X.mg "range" = none) (ha : DA X [a, b] fs) (hg : Gl X "range" := by rfl) (hs : starEach [a, b] X.env = [(false, eval a X.env), (false, eval b X.env)] := by rfl) (hs2 : starEach [b] X.env = [(false, eval b X.env)] := by rfl) : DI X tg (.Call (.Name "range" p) [a, b] [] pos) (gRg2 fs) :=
  pi_imp (pi_range2 hg hm ha hs hs2) fun σ H R ⟨δ, F, W, M, Qd, ev, s, h, k⟩ => ⟨δ, F, W, M, _, ev, s, h, fun vs H1 W1 ds M1 g1 s1 r1 q1 => by
    split at q1
    · obtain ⟨v, u, rfl, r, r'⟩ := r1.two
      cases r
      cases r'
      exact ⟨_, _, rfl, ⟨q1.1.1.1, q1.1.1.2, q1.1.2.1, q1.1.2.2⟩, k _ _ W1 M1 _ g1 s1 (it_rng _ _) q1.2⟩
    · exact q1.elim⟩
def forD (g : DTG) (tb : DTS) (D : DEnds) : List Da → De → Mm → Prop
  | [], δ, M => D.nx δ M
  | d :: ds, δ, M => g d δ M fun δ2 M2 => tb { D with nx := forD g tb D ds, ct := forD g tb D ds, bk := D.nx } δ2 M2
def hFor (di : DTI) (g : DTG) (tb : DTS) : DTS := fun D δ M => di δ M fun ds M1 => forD g tb D ds δ M1
theorem z_for {g : DTG} {tb : DTS} (hp : PassesOwn (model X.prog X.w) X.A X.env X.xe) (hc : X.calm = true) (hi : DI X tg e di) (hg : DG X tg g) (hb : DB X body tb)
    (hs : ∀ x, foldedSetIterable e X.env x = pure x := by intro _; rfl) : DS X (.For tg e body [] pos) (hFor di g tb) := ps_imp (ps_for hp hc hi hg hb hs) fun D σ H ⟨δ, F, W, M, Dd, ev, s, h, k⟩ => by
  refine ⟨δ, F, W, M, _, ev, s, h, fun J H1 W1 M1 ds g1 s1 ij q => ?_⟩
  let Pv : Nat → L2.St → Hp → Prop := fun i σ H => ∃ δ W2 M2, Grow F W1 H1 W2 H ∧ Stt X.K F W2 M2 H ∧ EnvR X.K W2 H δ σ ∧ forD g tb Dd (ds.drop i) δ M2
  refine ⟨fun i m σ H => m = ds.length - i ∧ i ≤ ds.length ∧ Pv i σ H, ⟨ds.length, by simp, Nat.zero_le _, δ, W1, M1, .refl, s1, ev.mono g1, q⟩, ?_⟩
  rintro i m σ2 H2 ⟨rfl, hi, δ2, W2, M2, g2, s2, ev2, q2⟩
  obtain ⟨go, stop⟩ := ij F W2 H2 M2 g2.noF s2
  by_cases hlt : i < ds.length
  · have hd : ds[i]? = some ds[i] := List.getElem?_eq_getElem hlt
    obtain ⟨go1, go2⟩ := go i _ hd
    refine .inr ⟨go1, Pv (i + 1), fun σ' H' p' => ⟨ds.length - (i + 1), by omega, rfl, hlt, p'⟩, fun x H3 y => ?_⟩
    obtain ⟨W3, g3, s3, r3⟩ := go2 x H3 y
    rw [List.drop_eq_getElem_cons hlt] at q2
    refine ⟨δ2, F, W3, M2, _, _, ev2.mono g3, s3, r3, q2, fun σ4 H4 W4 δ4 M4 g4 s4 e4 q4 => ?_⟩
    have gg := g2.trans (g3.trans g4)
    have nx : KE X.K F W4 H4 (forD g tb Dd (ds.drop (i + 1))) (Pv (i + 1)) := fun σ5 H5 W5 δ5 M5 g5 s5 e5 q5 => ⟨δ5, W5, M5, gg.trans g5, s5, e5, q5⟩
    exact ⟨δ4, F, W4, M4, _, e4, s4, q4, nx, (k.mono (g1.trans gg)).rt, (k.mono (g1.trans gg)).nx, nx, (k.mono (g1.trans gg)).ex⟩
  · have e : i = ds.length := by omega
    subst e
    rw [List.drop_length] at q2
    exact .inl ⟨stop _ (Nat.le_refl _), (k.nx.mono (g1.trans g2)).now s2 ev2 q2⟩
end
end U
set_option Elab.async false
set_option linter.all false
set_option maxRecDepth 100000
set_option maxHeartbeats 2000000
namespace U
open PySem PySem.Spec PyProof.Rows L2
/-- a comprehension's target: a name, a tuple of names -/
inductive CT where
  | n (i : Nat) | t (is : List Nat)
def CT.slots : CT → List Nat
  | .n i => [i]
  | .t is => is
def setsV : List Nat → TGs
  | [] => L2.gNil
  | i :: is => L2.gCons (L2.gName i) (setsV is)
def CT.tg (K : PySem.W.Frag) : CT → TG
  | .n i => gName i
  | .t is => L2.gTup K is.length (setsV is)
/-- the slots set -/
def setsD : List Nat → List Da → De → De
  | i :: is, d :: ds, δ => setsD is ds (δ.set i (some d))
  | _, _, δ => δ
def CT.ok : CT → Da → Prop
  | .n _, _ => True
  | .t is, .tup ds => ds.length = is.length
  | .t _, _ => False
def CT.set : CT → Da → De → De
  | .n i, d, δ => δ.set i (some d)
  | .t is, .tup ds, δ => setsD is ds δ
  | .t _, _, δ => δ
def wipeD (δ : De) : List Nat → De
  | [] => δ
  | v :: vs => (wipeD δ vs).set v none
theorem EnvR.wipe {K : PySem.W.Frag} {W : Addr → Prop} {H : Hp} {δ : De} {σ : L2.St} (e : EnvR K W H δ σ) : ∀ vs : List Nat, EnvR K W H (wipeD δ vs) (wipe σ vs)
  | [] => e
  | v :: vs => (EnvR.wipe e vs).del v
theorem wipe_set_in {x : Option V} {i : Nat} : ∀ {vs : List Nat} {σ : L2.St}, i ∈ vs → wipe (σ.set i x) vs = wipe σ vs
  | [], _, h => by simp at h
  | v :: vs, σ, h => by
    show (wipe (σ.set i x) vs).set v none = (wipe σ vs).set v none
    by_cases hm : i ∈ vs
    · rw [wipe_set_in hm]
    · have e : i = v := by
        rcases List.mem_cons.mp h with e | e
        · exact e
        · exact absurd e hm
      subst e
      have : ∀ (ws : List Nat) (σ : L2.St), i ∉ ws → wipe (σ.set i x) ws = (wipe σ ws).set i x := by
        intro ws
        induction ws with
        | nil => intro σ _; rfl
        | cons w ws ih =>
          intro σ hn
          have hn' : ¬ i = w ∧ i ∉ ws := by simpa using hn
          show (wipe (σ.set i x) ws).set w none = ((wipe σ ws).set w none).set i x
          rw [ih σ hn'.2, List.set_comm _ _ hn'.1]
      rw [this vs σ hm, List.set_set]
theorem wipe_wipe : ∀ (vs ws : List Nat) (σ : L2.St), (∀ v ∈ vs, v ∈ ws) → wipe (wipe σ vs) ws = wipe σ ws
  | [], _, _, _ => rfl
  | v :: vs, ws, σ, h => by
    show wipe ((wipe σ vs).set v none) ws = _
    rw [wipe_set_in (h v List.mem_cons_self), wipe_wipe vs ws σ fun u hu => h u (List.mem_cons_of_mem _ hu)]
section
variable {K : PySem.W.Frag} {W : Addr → Prop} {H : Hp}
theorem setsV_ok {ws : List Nat} : ∀ {is : List Nat} {vs : List V} {ds : List Da} {δ : De} {σ : L2.St} {Q : L2.St → Hp → Prop}, (∀ i ∈ is, i ∈ ws) → ds.length = is.length → RDs K W H vs ds → EnvR K W H δ σ →
    (∀ σ2, wipe σ2 ws = wipe σ ws → EnvR K W H (setsD is ds δ) σ2 → Q σ2 H) → setsV is vs σ H Q
  | [], vs, ds, δ, σ, Q, _, hl, rv, ev, q => by
    have : ds = [] := List.eq_nil_of_length_eq_zero hl
    subst this
    cases rv with
    | nil => exact ⟨rfl, q σ rfl ev⟩
  | i :: is, vs, ds, δ, σ, Q, hm, hl, rv, ev, q => by
    cases rv with
    | nil => simp at hl
    | cons r rr =>
      refine ⟨_, _, rfl, ?_⟩
      refine setsV_ok (fun j hj => hm j (List.mem_cons_of_mem _ hj)) (by simpa using hl) rr (ev.set r i) fun σ2 e1 e2 => q σ2 ?_ e2
      rw [e1, wipe_set_in (hm i List.mem_cons_self)]
theorem ct_ok {c : CT} {ws : List Nat} {v : V} {d : Da} {δ : De} {σ : L2.St} {Q : L2.St → Hp → Prop} (hm : ∀ i ∈ c.slots, i ∈ ws) (ho : c.ok d) (r : RD K W H v d) (ev : EnvR K W H δ σ)
    (q : ∀ σ2, wipe σ2 ws = wipe σ ws → EnvR K W H (c.set d δ) σ2 → Q σ2 H) : c.tg K v σ H Q := by
  cases c with
  | n i => exact q _ (wipe_set_in (hm i (by simp [CT.slots]))) (ev.set r i)
  | t is =>
    cases d with
    | tup ds =>
      cases r with
      | tup hs rv => exact ⟨_, _, rfl, hs.sq, by rw [rv.length]; exact ho, setsV_ok hm ho rv ev q⟩
    | _ => exact ho.elim
end
/-- [te for c in .. if tt] -/
def lcD (c : CT) (tt : DTT) (te : DTE) (δ : De) : List Da → (List Da → Mm → Prop) → Mm → Prop
  | [], k, M => k [] M
  | d :: ds, k, M => c.ok d ∧ tt (c.set d δ) M fun b M2 => if b = true then te (c.set d δ) M2 fun y M3 => lcD c tt te δ ds (fun ys M4 => k (y :: ys) M4) M3 else lcD c tt te δ ds k M2
def gYes : DTT := fun _ M Q => Q true M
def gLc (di : DTI) (c : CT) (tt : DTT) (te : DTE) (vs : List Nat) : DTE := fun δ M Q => di δ M fun ds M1 => Sz ds.length ∧ lcD c tt te (wipeD δ vs) ds (fun ys M2 => Q (.lst ys) M2) M1
def gLcM (di : DTI) (c : CT) (tt : DTT) (te : DTE) (vs : List Nat) : DTE := fun δ M Q => di δ M fun ds M1 => Sz ds.length ∧ lcD c tt te (wipeD δ vs) ds (fun ys M2 => ∀ p, M2 p = none → Q (.ref p) (mput M2 p (.lst ys))) M1
/-- with one more address of another's -/
def fadd (F : Addr → Prop) (p : Addr) : Addr → Prop := fun a => a = p ∨ F a
section
variable {K : PySem.W.Frag} {F W : Addr → Prop} {H : Hp} {M : Mm} {p : Addr}
theorem Stt.addF (s : Stt K F W M H) (h : H p = none) (o : HO) : Stt K (fadd F p) W M (upd H p o) := by
  have s2 := s.junk h o
  refine ⟨s2.wf, fun a w => ?_, s2.dis, s2.mem, s2.pl⟩
  rcases w with w | w
  · subst w; exact ⟨s.freeW h, s.freeM h, _, upd_same⟩
  · exact s2.fr a w
/-- another's thing is changed by its owner -/
theorem Stt.chgF (s : Stt K (fadd F p) W M H) (o : HO) : Stt K (fadd F p) W M (upd H p o) ∧ Grow NoF W H W (upd H p o) := by
  have hp := s.fr p (.inl rfl)
  have g : Grow NoF W H W (upd H p o) := ⟨fun _ h => h, fun a w => upd_ne (fun e => hp.1 (e ▸ w)), fun _ z => z.elim⟩
  refine ⟨⟨fun a w => ?_, fun a w => ⟨(s.fr a w).1, (s.fr a w).2.1, ?_⟩, s.dis, fun a u e => ?_, fun a u w e => by rw [g.h a w] at e; exact s.pl a u w e⟩, g⟩
  · rw [g.h a w]; exact s.wf a w
  · by_cases e : a = p
    · subst e; exact ⟨o, upd_same⟩
    · rw [upd_ne e]; exact (s.fr a w).2.2
  · have ne : a ≠ p := fun z => by subst z; rw [hp.2.1] at e; cases e
    obtain ⟨x, q, r⟩ := s.mem a u e
    exact ⟨x, by rw [upd_ne ne]; exact q, r.mono g⟩
/-- .. becomes settled, or a thing of the memory -/
theorem Stt.endW (s : Stt K (fadd F p) W M H) (hF : ¬ F p) (hn : ∀ o, H p = some o → NT o) : Stt K F (wadd W p) M H ∧ Grow F W H (wadd W p) H := by
  obtain ⟨h1, h2, o, h3⟩ := s.fr p (.inl rfl)
  have g : Grow F W H (wadd W p) H := ⟨fun _ h => .inr h, fun _ _ => rfl, fun _ _ => rfl⟩
  refine ⟨⟨fun a w => ?_, fun a w => ⟨?_, (s.fr a (.inr w)).2.1, (s.fr a (.inr w)).2.2⟩, fun a u e w => ?_, fun a u e => ?_, fun a u w e => w.elim (fun z => hn u (z ▸ e)) fun w => s.pl a u w e⟩, g⟩
  · rcases w with w | w
    · subst w; exact ⟨o, h3⟩
    · exact s.wf a w
  · rintro (e | e)
    · subst e; exact hF w
    · exact (s.fr a (.inr w)).1 e
  · rcases w with w | w
    · subst w; rw [h2] at e; cases e
    · exact s.dis a u e w
  · obtain ⟨x, q, r⟩ := s.mem a u e
    exact ⟨x, q, r.mono g⟩
theorem Stt.endM (s : Stt K (fadd F p) W M H) (hF : ¬ F p) {u : MO} {o : HO} (ho : H p = some o) (r : MR K W H u o) : Stt K F W (mput M p u) H := by
  obtain ⟨h1, h2, _⟩ := s.fr p (.inl rfl)
  refine ⟨s.wf, fun a w => ⟨(s.fr a (.inr w)).1, ?_, (s.fr a (.inr w)).2.2⟩, fun a v e w => ?_, fun a v e => ?_, s.pl⟩
  · rw [mput_ne (show a ≠ p from fun e => hF (e ▸ w))]; exact (s.fr a (.inr w)).2.1
  · by_cases q : a = p
    · subst q; exact h1 w
    · rw [mput_ne q] at e; exact s.dis a v e w
  · by_cases q : a = p
    · subst q; rw [mput_same] at e; cases e; exact ⟨o, ho, r⟩
    · rw [mput_ne q] at e; exact s.mem a v e
end
/-- a grown heap, but for one address that was free -/
theorem grow_drop {F W W' W2 : Addr → Prop} {H H1 H2 : Hp} {p : Addr} (g : Grow F W H W' H1) (g2 : Grow (fadd F p) W' H1 W2 H2) : Grow F W H W2 H2 := g.trans (g2.less fun a h => .inr h)
section
variable {X : Cx} {tg elt iter : Expr} {ifs : List Expr} {scope : Scope} {own : List (Str × Nat)} {pos spos py : Pos} {di : DTI} {c : CT} {tt : DTT} {te : DTE} {y : Str} {i : Nat}
theorem li_lc {K : PySem.W.Frag} {vs : List Nat} (hv : ∀ i ∈ c.slots, i ∈ vs) {σ : L2.St} {H : Hp} {Q : VK} (M2 : Bool) (h : Li (rE K) K (if M2 = true then gLcM di c tt te vs else gLc di c tt te vs) σ H Q) : tLc (LI K di) (c.tg K) (Li rT K tt) (Li (rE K) K te) vs σ H Q := by
  obtain ⟨δ, F, W, M, Qd, ev, s, h, k⟩ := h
  -- the wanted end, of the row
  have h' : di δ M fun ds M1 => Sz ds.length ∧ lcD c tt te (wipeD δ vs) ds (fun ys M2' => if M2 = true then ∀ p, M2' p = none → Qd (.ref p) (mput M2' p (.lst ys)) else Qd (.lst ys) M2') M1 := by
    cases M2 <;> exact h
  clear h
  refine ⟨δ, F, W, M, _, ev, s, h', fun J H1 W1 M1 ds g1 s1 ij ⟨hz, q⟩ D hD => ?_⟩
  have hFD : ¬ F D := s1.freeF hD
  let Kf : List Da → Mm → Prop := fun ys M2' => if M2 = true then ∀ p, M2' p = none → Qd (.ref p) (mput M2' p (.lst ys)) else Qd (.lst ys) M2'
  let Pv : Nat → Hp → Prop := fun i H2 => ∃ W2 Md ac acc, Grow F W1 H1 W2 H2 ∧ Stt K (fadd F D) W2 Md H2 ∧ H2 D = some (.lst ac) ∧ RDs K W2 H2 ac acc ∧ acc.length ≤ i ∧ lcD c tt te (wipeD δ vs) (ds.drop i) (fun ys M4 => Kf (acc ++ ys) M4) Md
  refine ⟨fun i m H2 => m = ds.length - i ∧ i ≤ ds.length ∧ Pv i H2, ⟨ds.length, by simp, Nat.zero_le _, W1, M1, [], [], grow_new s1 hD, s1.addF hD _, upd_same, .nil, Nat.le_refl _, q⟩, ?_⟩
  rintro i m H2 ⟨rfl, hi, W2, Md, ac, acc, g2, s2, hac, rac, hal, q2⟩
  obtain ⟨go, stop⟩ := ij (fadd F D) W2 H2 Md g2.noF s2
  by_cases hlt : i < ds.length
  · have hd : ds[i]? = some ds[i] := List.getElem?_eq_getElem hlt
    obtain ⟨go1, go2⟩ := go i _ hd
    refine .inr ⟨go1, Pv (i + 1), fun H' p' => ⟨ds.length - (i + 1), by omega, rfl, hlt, p'⟩, fun x H3 y => ?_⟩
    obtain ⟨W3, g3, s3, r3⟩ := go2 x H3 y
    rw [List.drop_eq_getElem_cons hlt] at q2
    obtain ⟨ok, q2⟩ := q2
    have e3 : EnvR K W3 H3 (wipeD δ vs) (wipe σ vs) := (ev.mono (grow_drop (g1.trans g2) g3)).wipe vs
    refine ct_ok hv ok r3 e3 fun σ2 hw ev2 => ⟨by rw [hw, wipe_wipe vs vs σ fun _ h => h], _, fadd F D, W3, Md, _, ev2, s3, q2, fun b H4 W4 b' M4 g4 s4 eb q4 => ?_⟩
    cases eb
    have gg := g3.trans g4
    cases b with
    | false =>
      refine ⟨W4, M4, ac, acc, grow_drop g2 gg, s4, ?_, rac.mono gg, Nat.le_succ_of_le hal, q4⟩
      rw [gg.f D (.inl rfl)]; exact hac
    | true =>
      refine ⟨_, fadd F D, W4, M4, _, ev2.mono g4, s4, q4, fun v H5 W5 d M5 g5 s5 r5 q5 => ⟨ac, ?_, ?_, ?_⟩⟩
      · rw [(gg.trans g5).f D (.inl rfl)]; exact hac
      · rw [rac.length]; have := hz.le; rw [sizeLine_eq]; omega
      · obtain ⟨s6, g6⟩ := s5.chgF (.lst (ac ++ [v]))
        have g7 : Grow F W2 H2 W5 H5 := (gg.trans g5).less fun a h => .inr h
        refine ⟨W5, M5, ac ++ [v], acc ++ [d], ?_, s6, upd_same, ((rac.mono (gg.trans g5)).append (.cons r5 .nil)).mono g6, by rw [List.length_append, List.length_singleton]; omega, ?_⟩
        · have g8 := g2.trans g7
          refine ⟨g8.w, fun a w => ?_, fun a w => ?_⟩
          · rw [upd_ne (s1.neW hD w)]; exact g8.h a w
          · rw [upd_ne (s1.neF hD w)]; exact g8.f a w
        · have e : (fun ys M4 => Kf (acc ++ [d] ++ ys) M4) = fun ys M4 => Kf (acc ++ d :: ys) M4 := by funext ys M4; rw [List.append_assoc]; rfl
          rw [e]; exact q5
  · have e : i = ds.length := by omega
    subst e
    rw [List.drop_length] at q2
    have q3 : Kf acc Md := by have : Kf (acc ++ []) Md := q2; rwa [List.append_nil] at this
    refine .inl ⟨stop _ (Nat.le_refl _), ?_⟩
    cases M2 with
    | true =>
      have q4 : ∀ p, Md p = none → Qd (.ref p) (mput Md p (.lst acc)) := q3
      exact (k.mono (g1.trans g2)).now (s2.endM hFD hac (.lst rac)) (.ref D) (q4 D (s2.fr D (.inl rfl)).2.1)
    | false =>
      obtain ⟨s3, g3⟩ := s2.endW hFD (by intro o e; rw [hac] at e; cases e; exact trivial)
      exact (k.mono ((g1.trans g2).trans g3)).now s3 (.lst (.inl ⟨.inl rfl, .inl hac⟩) (rac.mono g3)) q3
/-- the tests of a comprehension -/
def DTs (X : Cx) (ifs : List Expr) (f : DTT) : Prop := PTs X ifs (Li rT X.K f)
theorem d_ts0 : DTs X [] gYes := ⟨fun pins s σ H Q I ⟨δ, F, W, M, Qd, ev, st, h, k⟩ => pts_nil.run pins s σ H Q I (k.now st rfl h)⟩
theorem d_ts1 {e : Expr} (h : DT X e tt) : DTs X [e] tt := pts_one h
section
variable (hc : X.calm = true) (hN : X.N.Nodup) (hi : DI X tg iter di) (ok : BlkOk X.N X.env.scope scope own)
    (hg : ∀ (s : Shared) (H : Hp) (C : Addr) (cl : List (Str × Addr)) (fp : List Addr), PG (X.blk s H scope (compEnvC scope cl C X.env) fp) tg (c.tg X.K)) (ht : ∀ (s : Shared) (H : Hp) (C : Addr) (cl : List (Str × Addr)) (fp : List Addr), DTs (X.blk s H scope (compEnvC scope cl C X.env) fp) ifs tt)
    (he : ∀ (s : Shared) (H : Hp) (C : Addr) (cl : List (Str × Addr)) (fp : List Addr), DE (X.blk s H scope (compEnvC scope cl C X.env) fp) elt te)
include hc hN hi ok hg ht he in
theorem d_lc (hv : ∀ i ∈ c.slots, i ∈ own.map (·.2) := by decide) (hs : ∀ x, foldedSetIterable iter X.env x = pure x := by intro _; rfl) :
    DE X (.ListComp elt [⟨tg, iter, ifs, 0⟩] scope pos) (gLc di c tt te (own.map (·.2))) := imp (pe_lc (wi := LI X.K di) (g := c.tg X.K) (tt := Li rT X.K tt) (te := Li (rE X.K) X.K te) hc hN hi ok hg ht he hs) fun σ H Q h => li_lc hv false h
end
theorem li_set {K : PySem.W.Frag} {t : TE} {f : DTE} {E : XK} {D : Ends} {σ : L2.St} {H : Hp} (hf : ∀ σ H Q, Li (rE K) K f σ H Q → t σ H Q) (h : LS K E (hAsg f (hName i)) D σ H) : tAsg t (L2.gName i) D σ H := by
  obtain ⟨δ, F, W, M, Dd, ev, s, h, k⟩ := h
  exact hf _ _ _ ⟨δ, F, W, M, _, ev, s, h, fun v H1 W1 d M1 g1 s1 r1 q1 => (k.nx.mono g1).now s1 ((ev.mono g1).set r1 i) q1⟩
section
variable (hc : X.calm = true) (hN : X.N.Nodup) (hy : X.N[i]? = some y) (hyl : X.env.scope.names.lookup y = some .local) (hsw : swapsWith (.ListComp elt [⟨tg, iter, ifs, 0⟩] scope pos) (some (.Name y py)) spos.line X.env = pure true)
    (hi : DI X tg iter di) (ok : BlkOk X.N X.env.scope scope own)
    (hg : ∀ (s : Shared) (H : Hp) (C : Addr) (cl : List (Str × Addr)) (fp : List Addr), PG (X.blk s H scope (compEnvC scope cl C X.env) fp) tg (c.tg X.K)) (ht : ∀ (s : Shared) (H : Hp) (C : Addr) (cl : List (Str × Addr)) (fp : List Addr), DTs (X.blk s H scope (compEnvC scope cl C X.env) fp) ifs tt)
    (he : ∀ (s : Shared) (H : Hp) (C : Addr) (cl : List (Str × Addr)) (fp : List Addr), DE (X.blk s H scope (compEnvC scope cl C X.env) fp) elt te)
include hc hN hy hyl hsw hi ok hg ht he in
theorem z_setLc (hv : ∀ i ∈ c.slots, i ∈ own.map (·.2) := by decide) (hs : ∀ x, foldedSetIterable iter X.env x = pure x := by intro _; rfl) :
    DS X (.Assign [.Name y py] (.ListComp elt [⟨tg, iter, ifs, 0⟩] scope pos) spos) (hAsg (gLc di c tt te (own.map (·.2))) (hName i)) :=
  ps_imp (ps_setLc (wi := LI X.K di) (g := c.tg X.K) (tt := Li rT X.K tt) (te := Li (rE X.K) X.K te) hc hN hy hyl hsw hi ok hg ht he hs) fun D σ H h => li_set (fun σ H Q h => li_lc hv false h) h
end
def Sq (n : Nat) : Prop := Nat.ble n 5000 = true
def Sr (n : Nat) : Prop := Nat.ble n 3000 = true
theorem sq {n : Nat} (h : n ≤ 5000) : Sq n := Nat.ble_eq.mpr h
theorem Sq.le {n : Nat} (h : Sq n) : n ≤ 5000 := Nat.ble_eq.mp h
theorem Sr.le {n : Nat} (h : Sr n) : n ≤ 3000 := Nat.ble_eq.mp h
section
variable {tg1 iter1 : Expr} {ifs1 : List Expr} {vs1 : List Nat} {di1 : DTI} {c1 : CT} {tt1 : DTT} (hc : X.calm = true) (hN : X.N.Nodup) (hi : DI X tg iter di) (ok : BlkOk X.N X.env.scope scope own) (hvs : ∀ i ∈ vs1, i ∈ own.map (·.2))
    (hg : ∀ (s : Shared) (H : Hp) (C : Addr) (cl : List (Str × Addr)) (fp : List Addr), PG (X.blk s H scope (compEnvC scope cl C X.env) fp) tg (c.tg X.K)) (ht : ∀ (s : Shared) (H : Hp) (C : Addr) (cl : List (Str × Addr)) (fp : List Addr), DTs (X.blk s H scope (compEnvC scope cl C X.env) fp) ifs tt)
    (hi1 : ∀ (s : Shared) (H : Hp) (C : Addr) (cl : List (Str × Addr)) (fp : List Addr), DI (X.blk s H scope (compEnvC scope cl C X.env) fp) tg1 iter1 di1)
    (hg1 : ∀ (s : Shared) (H : Hp) (C : Addr) (cl : List (Str × Addr)) (fp : List Addr), PG (X.blk s H scope (compEnvC scope cl C X.env) fp) tg1 (c1.tg X.K)) (ht1 : ∀ (s : Shared) (H : Hp) (C : Addr) (cl : List (Str × Addr)) (fp : List Addr), DTs (X.blk s H scope (compEnvC scope cl C X.env) fp) ifs1 tt1)
    (he : ∀ (s : Shared) (H : Hp) (C : Addr) (cl : List (Str × Addr)) (fp : List Addr), DE (X.blk s H scope (compEnvC scope cl C X.env) fp) elt te)
end
end
end U
set_option Elab.async false
set_option linter.all false
set_option maxRecDepth 100000
set_option maxHeartbeats 2000000
namespace U
open PySem PySem.Spec PyProof.Rows L2
/-- a def's promise over data -/
abbrev DSp := List Da → Mm → DK → DX → Prop
def X0 : DX := fun _ _ _ => False
def LSp (K : PySem.W.Frag) (sp : DSp) : Sp := fun vs H Q E => ∃ F W M ds Qd Ed, RDs K W H vs ds ∧ Stt K F W M H ∧ sp ds M Qd Ed ∧ Kt (rE K) K F W H Qd Q ∧ KX K F W H Ed E
def startD (N : List Str) (ds : List Da) : De := ds.map some ++ List.replicate (N.length - ds.length) none
theorem env_start {K : PySem.W.Frag} {W : Addr → Prop} {H : Hp} (N : List Str) {vs : List V} {ds : List Da} (r : RDs K W H vs ds) : EnvR K W H (startD N ds) (start N vs) := by
  have h1 : ∀ (n : Nat), EnvR K W H (List.replicate n none) (List.replicate n none) := fun n => by
    induction n with
    | zero => exact .nil
    | succ n ih => exact .cons trivial ih
  have h2 : ∀ {vs : List V} {ds : List Da} (n : Nat), RDs K W H vs ds → EnvR K W H (ds.map some ++ List.replicate n none) (vs.map some ++ List.replicate n none) := by
    intro vs
    induction vs with
    | nil => intro ds n r; cases r; exact h1 n
    | cons v vs ih =>
      intro ds n r
      cases r with
      | cons h k => exact .cons ⟨v, rfl, h⟩ (ih n k)
  unfold startD L2.start
  rw [r.length]
  exact h2 _ r
/-- the body's ends -/
def bodyE (Q : DK) : DEnds := { nx := fun _ M => Q .non M, rt := Q }
theorem ls_body {K : PySem.W.Frag} {F W : Addr → Prop} {M : Mm} {H : Hp} {N : List Str} {vs : List V} {ds : List Da} {Qd : DK} {Q : VK} {E : XK} {t : DTS} (r : RDs K W H vs ds) (s : Stt K F W M H) (k : Kt (rE K) K F W H Qd Q) (h : t (bodyE Qd) (startD N ds) M) :
    LS K E t { nx := fun _ H' => Q .non H', rt := Q } (start N vs) H :=
  ⟨_, F, W, M, _, env_start N r, s, h, fun σ H' W' δ M' g s' e q => k _ _ _ _ _ g s' .non q, k, fun _ _ _ _ _ _ _ _ z => z.elim, fun _ _ _ _ _ _ _ _ z => z.elim, fun _ _ _ _ _ _ _ _ _ z => z.elim⟩
abbrev KnD (P : Program) (w : World) (K : PySem.W.Frag) (mg : Str → Option Value) (base : Heap) (x : Str) (k : Nat) (ps : List Str) (sp : DSp) : Prop := Known P w K mg base CX0 x k ps (LSp K sp)
abbrev KnMD (P : Program) (w : World) (K : PySem.W.Frag) (mg : Str → Option Value) (base : Heap) (C : Addr) (m : Str) (k : Nat) (ps : List Str) (sp : DSp) : Prop := KnownM P w K mg base CX0 C m k ps (LSp K sp)
theorem lsp_len {K : PySem.W.Frag} {sp : DSp} {n : Nat} (len : ∀ ds M Q E, sp ds M Q E → ds.length = n) : ∀ vs H Q E, LSp K sp vs H Q E → vs.length = n := fun vs H Q E ⟨F, W, M, ds, Qd, Ed, r, s, h, _⟩ => by rw [r.length]; exact len _ _ _ _ h
theorem KnD.of {P : Program} {w : World} {K : PySem.W.Frag} {mg : Str → Option Value} {base : Heap} {x : Str} {st : Stmt} {N ps : List Str} {k : Nat} {sp : DSp} (F : HasDef K x st) (M : MgOf K mg) (S : FnScope N ps (defScope st))
    (hb : ∀ (kV doc pm : Value) (an : Option Addr) (cdv ct : Value) (us : List Value), us.length = ps.length → bindArgs (PySem.W.fnOf x x (defArgs st) (defBody st) (defScope st) .none kV doc pm an cdv ct) ⟨us, []⟩ = pure (ps.zip us))
    (len : ∀ ds M Q E, sp ds M Q E → ds.length = ps.length)
    (hbody : ∀ (f : Addr) (cdv : Value) (A : Around) (outer : List Env) (s : Shared) (H : Hp) (E : XK), Room k (A.deeper (envOfC x (defScope st) s.heap.objs.size f cdv)) →
      ∃ t, DB (cxOf CX0 P w K mg base N x (defScope st) f cdv A outer s H E).nox (defBody st) t ∧ ∀ ds M Q Ed, sp ds M Q Ed → t (bodyE Q) (startD N ds) M) : KnD P w K mg base x (k + 1) ps sp :=
  Known.of F M S hb (lsp_len len) fun f cdv A outer s H vs Q E hr ⟨F, W, M, ds, Qd, Ed, r, st, h, kk, kx⟩ => by
    obtain ⟨t, d, q⟩ := hbody f cdv A outer s H E hr
    exact ⟨_, d, ls_body r st kk (q ds M Qd Ed h)⟩
theorem KnMD.of {P : Program} {w : World} {K : PySem.W.Frag} {mg : Str → Option Value} {base : Heap} {C : Addr} {m qual : Str} {st : Stmt} {N ps : List Str} {k : Nat} {sp : DSp} (F : HasMeth K C m qual st) (S : FnScope N ps (defScope st))
    (hb : ∀ (kV doc pm : Value) (an : Option Addr) (cdv ct : Value) (us : List Value), us.length = ps.length → bindArgs (PySem.W.fnOf m qual (defArgs st) (defBody st) (defScope st) .none kV doc pm an cdv ct) ⟨us, []⟩ = pure (ps.zip us))
    (len : ∀ ds M Q E, sp ds M Q E → ds.length = ps.length)
    (hbody : ∀ (f : Addr) (cdv : Value) (A : Around) (outer : List Env) (s : Shared) (H : Hp) (E : XK), Room k (A.deeper (envOfC qual (defScope st) s.heap.objs.size f cdv)) →
      ∃ t, DB (cxOf CX0 P w K mg base N qual (defScope st) f cdv A outer s H E).nox (defBody st) t ∧ ∀ ds M Q Ed, sp ds M Q Ed → t (bodyE Q) (startD N ds) M) : KnMD P w K mg base C m (k + 1) ps sp :=
  KnownM.of F S hb (lsp_len len) fun f cdv A outer s H vs Q E hr ⟨F, W, M, ds, Qd, Ed, r, st, h, kk, kx⟩ => by
    obtain ⟨t, d, q⟩ := hbody f cdv A outer s H E hr
    exact ⟨_, d, ls_body r st kk (q ds M Qd Ed h)⟩
section
variable {X : Cx} {k : Nat} {ps : List Str} {sp : DSp} {x m f : Str} {p pos apos : Pos} {a b e e1 e2 o : Expr} {es : List Expr} {fs : DTA} {C : Addr} {fa f1 f2 : DTE}
def gCall (sp : DSp) (fs : DTA) : DTE := fun δ M Q => fs δ M fun ds M1 => sp ds M1 Q X0
theorem d_call (D : KnD X.prog X.w X.K X.mg X.base x k ps sp) (hr : Room k X.A) (ha : DA X (e :: es) fs) (hg : Gl X x := by rfl) (hdb : (x == ("__debug__" : Str)) = false := by decide)
    (he : starEach (e :: es) X.env = (false, eval e X.env) :: starEach es X.env := by rfl) (hpl : (backTo pos (starEach es X.env)).any (·.1) = false := by rfl) : DE X (.Call (.Name x p) (e :: es) [] pos) (gCall sp fs) :=
  imp (U.call D hr ha hg hdb he hpl) fun σ H Q ⟨δ, F, W, M, Qd, ev, s, h, kk⟩ => ⟨δ, F, W, M, _, ev, s, h, fun vs H1 W1 ds M1 g1 s1 r1 q1 => ⟨F, W1, M1, ds, Qd, X0, r1, s1, q1, kk.mono g1, fun _ _ _ _ _ _ _ _ _ z => z.elim⟩⟩
end
structure HasProp (K : PySem.W.Frag) (C : Addr) (m qual : Str) (st : Stmt) : Prop where
  ex : ∃ p g fd, Fun K m qual st g fd ∧ PropOf K C m p g
structure KnPD (P : Program) (w : World) (K : PySem.W.Frag) (mg : Str → Option Value) (base : Heap) (C : Addr) (m : Str) (k : Nat) (ps : List Str) (sp : DSp) : Prop where
  ex : ∃ p g fd, FnOk P w K mg base CX0 k g fd ps (LSp K sp) ∧ PropOf K C m p g ∧ Binds K fd ps []
theorem KnPD.of {P : Program} {w : World} {K : PySem.W.Frag} {mg : Str → Option Value} {base : Heap} {C : Addr} {m qual : Str} {st : Stmt} {N ps : List Str} {k : Nat} {sp : DSp} (F : HasProp K C m qual st) (S : FnScope N ps (defScope st))
    (hb : ∀ (kV doc pm : Value) (an : Option Addr) (cdv ct : Value) (us : List Value), us.length = ps.length → bindArgs (PySem.W.fnOf m qual (defArgs st) (defBody st) (defScope st) .none kV doc pm an cdv ct) ⟨us, []⟩ = pure (ps.zip us))
    (len : ∀ ds M Q E, sp ds M Q E → ds.length = ps.length)
    (hbody : ∀ (f : Addr) (cdv : Value) (A : Around) (outer : List Env) (s : Shared) (H : Hp) (E : XK), Room k (A.deeper (envOfC qual (defScope st) s.heap.objs.size f cdv)) →
      ∃ t, DB (cxOf CX0 P w K mg base N qual (defScope st) f cdv A outer s H E).nox (defBody st) t ∧ ∀ ds M Q Ed, sp ds M Q Ed → t (bodyE Q) (startD N ds) M) : KnPD P w K mg base C m (k + 1) ps sp := by
  obtain ⟨p, g, fd, F, pr⟩ := F.ex
  exact ⟨p, g, fd, F.ok S (lsp_len len) (fun cdv A outer s H vs Q E hr ⟨F, W, M, ds, Qd, Ed, r, st, h, kk, kx⟩ => by
    obtain ⟨t, d, q⟩ := hbody g cdv A outer s H E hr
    exact ⟨_, d, ls_body r st kk (q ds M Qd Ed h)⟩), pr, F.binds hb⟩
section
variable {X : Cx} {k : Nat} {ps : List Str} {sp : DSp} {x m f : Str} {p pos apos : Pos} {a b e e1 e2 o : Expr} {es : List Expr} {fs : DTA} {C : Addr} {fa f1 f2 : DTE}
end
structure HasInitK (K : PySem.W.Frag) (C : Addr) (qual : Str) (st : Stmt) (kws : List (Str × V)) : Prop where
  ex : ∃ f fd, FunD K "__init__" qual (defArgs st) (defBody st) (defScope st) [] kws f fd ∧ BMeth K C "__init__" f
/-- a promise of an __init__ with keywords ks behind n positional parameters -/
structure KnK (P : Program) (w : World) (K : PySem.W.Frag) (mg : Str → Option Value) (base : Heap) (C : Addr) (k : Nat) (ps : List Str) (n : Nat) (ks : List Str) (dvs : List V) (sp : DSp) : Prop where
  ex : ∃ f fd, FnOk P w K mg base CX0 k f fd ps (LSp K sp) ∧ BMeth K C "__init__" f ∧ (∃ ds, Vals dvs ds ∧ Binds K fd ps ds) ∧ KBn K fd ps n ks (fun us ws => us ++ ws) (fun vs zs => vs ++ zs)
theorem KnK.of {P : Program} {w : World} {K : PySem.W.Frag} {mg : Str → Option Value} {base : Heap} {C : Addr} {qual : Str} {st : Stmt} {N ps : List Str} {k n : Nat} {ks : List Str} {kws : List (Str × V)} {sp : DSp} (F : HasInitK K C qual st kws) (S : FnScope N ps (defScope st)) (hk : kws ≠ []) (hn : n + kws.length = ps.length)
    (h1 : ∀ (D : Addr) (doc pm : Value) (an : Option Addr) (cdv ct : Value) (us zs : List Value), us.length = n → zs.length = kws.length →
      KwChain D ((kws.map (·.1)).zip zs) (bindArgs (PySem.W.fnOf "__init__" qual (defArgs st) (defBody st) (defScope st) .none (.ref D) doc pm an cdv ct) ⟨us, []⟩) (ps.zip (us ++ zs)))
    (h2 : ∀ (D : Addr) (doc pm : Value) (an : Option Addr) (cdv ct : Value) (us ws : List Value), us.length = n → ws.length = ks.length →
      bindArgs (PySem.W.fnOf "__init__" qual (defArgs st) (defBody st) (defScope st) .none (.ref D) doc pm an cdv ct) ⟨us, ks.zip ws⟩ = pure (ps.zip (us ++ ws)))
    (len : ∀ ds M Q E, sp ds M Q E → ds.length = ps.length)
    (hbody : ∀ (f : Addr) (cdv : Value) (A : Around) (outer : List Env) (s : Shared) (H : Hp) (E : XK), Room k (A.deeper (envOfC qual (defScope st) s.heap.objs.size f cdv)) →
      ∃ t, DB (cxOf CX0 P w K mg base N qual (defScope st) f cdv A outer s H E).nox (defBody st) t ∧ ∀ ds M Q Ed, sp ds M Q Ed → t (bodyE Q) (startD N ds) M) : KnK P w K mg base C (k + 1) ps n ks (kws.map (·.2)) sp := by
  obtain ⟨f, fd, F, B⟩ := F.ex
  refine ⟨f, fd, F.ok S (lsp_len len) (fun cdv A outer s H vs Q E hr ⟨F, W, M, ds, Qd, Ed, r, st, h, kk, kx⟩ => by
    obtain ⟨t, d, q⟩ := hbody f cdv A outer s H E hr
    exact ⟨_, PSs.nox d, ls_body r st kk (q ds M Qd Ed h)⟩), B, F.binds0 n hk hn h1, ?_⟩
  obtain ⟨mv, kb⟩ := F.kbinds0 (ps := ps) n ks [] (fun us _ ws => us ++ ws) hk (fun q hq => nomatch hq) (fun r1 _ r3 => r1.append r3) fun D doc pm an cdv ct us mv ws l1 l2 l3 => h2 D doc pm an cdv ct us ws l1 l3
  exact kb
section
variable {X : Cx} {k n : Nat} {ps ks : List Str} {sp : DSp} {x : Str} {p pos : Pos} {e : Expr} {es : List Expr} {kws : List Keyword} {fs fk : DTA} {C : Addr} {dvs : List V} {dfl : List Da}
end
end U
set_option Elab.async false
set_option linter.all false
set_option maxRecDepth 100000
set_option maxHeartbeats 2000000
namespace U
open PySem PySem.Spec PyProof.Rows L2
section
variable {K : PySem.W.Frag} {F W : Addr → Prop} {M : Mm} {H : Hp}
end
section
variable {X : Cx} {k : Nat} {ps : List Str} {sp : DSp} {x m f : Str} {p pos apos : Pos} {a b e e1 e2 o : Expr} {es : List Expr} {fs : DTA} {C : Addr} {fa f1 f2 : DTE} {g : DC}
def tupI (ns : List Int) : Da := .tup (ns.map Da.int)
theorem RDs.tups {K : PySem.W.Frag} {W : Addr → Prop} {H : Hp} : ∀ {vs : List V} {ms : List (List Int)}, RDs K W H vs (ms.map tupI) → ∃ ks : List (Addr × List Int), vs = ks.map (fun p => V.ref p.1) ∧ ms = ks.map (·.2) ∧ ∀ p ∈ ks, Sp' K W H p.1 (p.2.map V.int)
  | _, [], .nil => ⟨[], rfl, rfl, fun p hp => nomatch hp⟩
  | _, m :: ms, .cons h k => by
    obtain ⟨ks, e1, e2, e3⟩ := RDs.tups k
    cases h with
    | @tup a vs _ hs rv =>
      rw [rv.ints] at hs
      exact ⟨(a, m) :: ks, by rw [e1]; rfl, by rw [e2]; rfl, fun p hp => by
        rcases List.mem_cons.mp hp with e | e
        · rw [e]; exact hs
        · exact e3 p e⟩
end
end U
set_option Elab.async false
set_option linter.all false
set_option maxRecDepth 100000
set_option maxHeartbeats 2000000
namespace U
open PySem PySem.Spec PyProof.Rows L2
theorem hu_of {k : Nat} {A : Around} (r : Room k A) : A.units + 64 < cLine := by have := r.un; omega
theorem hu1_of {k : Nat} {A : Around} (r : Room k A) : A.units + 65 < cLine := by have := r.un; omega
section
variable {X : Cx} {fs : DTA}
end
theorem rngD0 (n : Nat) : rngD 0 n = (List.range n).map fun i : Nat => Da.int (i : Int) := by
  unfold rngD
  congr 1
  funext i
  rw [Int.zero_add]
theorem rok {i : Int} (h1 : -1000000 ≤ i) (h2 : i ≤ 1000000) : Rok i := ⟨by omega, by omega⟩
/-- .. over what was something else -/
theorem lcD_map {α : Type} {c : CT} {tt : DTT} {te : DTE} {δ : De} {M : Mm} {g : α → Da} (p : α → Bool) (f : α → Da) : ∀ {l : List α} {k : List Da → Mm → Prop}, (∀ x ∈ l, c.ok (g x) ∧ ∀ Q : Bool → Mm → Prop, Q (p x) M → tt (c.set (g x) δ) M Q) →
    (∀ x ∈ l, p x = true → ∀ Q : DK, Q (f x) M → te (c.set (g x) δ) M Q) → k ((l.filter p).map f) M → lcD c tt te δ (l.map g) k M
  | [], k, _, _, h => h
  | x :: l, k, h1, h2, h => by
    obtain ⟨o, t⟩ := h1 x List.mem_cons_self
    refine ⟨o, t _ ?_⟩
    have r1 : ∀ e ∈ l, c.ok (g e) ∧ ∀ Q : Bool → Mm → Prop, Q (p e) M → tt (c.set (g e) δ) M Q := fun e he => h1 e (List.mem_cons_of_mem _ he)
    have r2 : ∀ e ∈ l, p e = true → ∀ Q : DK, Q (f e) M → te (c.set (g e) δ) M Q := fun e he => h2 e (List.mem_cons_of_mem _ he)
    cases e : p x with
    | true =>
      rw [List.filter_cons_of_pos e, List.map_cons] at h
      exact h2 x List.mem_cons_self e _ (lcD_map p f r1 r2 h)
    | false =>
      rw [List.filter_cons_of_neg (by rw [e]; exact Bool.false_ne_true)] at h
      exact lcD_map p f r1 r2 h
/-- one that may change the memory: I by what is still to come and what was made -/
theorem lcD_st {α : Type} {c : CT} {te : DTE} {δ : De} {g : α → Da} {k : List Da → Mm → Prop} (I : List α → List Da → Mm → Prop) (ho : ∀ x, c.ok (g x))
    (hs : ∀ x l acc M, I (x :: l) acc M → ∀ Q : DK, (∀ y M', I l (acc ++ [y]) M' → Q y M') → te (c.set (g x) δ) M Q) (hn : ∀ acc M, I [] acc M → k acc M) : ∀ {l : List α} {acc : List Da} {M : Mm}, I l acc M → lcD c gYes te δ (l.map g) (fun ys M' => k (acc ++ ys) M') M
  | [], acc, M, h => by
    show k (acc ++ []) M
    rw [List.append_nil]; exact hn acc M h
  | x :: l, acc, M, h => ⟨ho x, hs x l acc M h _ fun y M' h' => by
      have e : (fun ys M' => k (acc ++ y :: ys) M') = fun ys M' => k ((acc ++ [y]) ++ ys) M' := by funext ys M'; rw [List.append_assoc]; rfl
      show lcD c gYes te δ (l.map g) (fun ys M' => k (acc ++ y :: ys) M') M'
      rw [e]
      exact lcD_st I ho hs hn h'⟩
/-- a loop over numbers from 0 on: I by how many are done -/
theorem forD_rng {g : DTG} {tb : DTS} {D : DEnds} {n : Nat} (I : Nat → De → Mm → Prop)
    (hs : ∀ (j : Nat) δ M (NX : De → Mm → Prop), j < n → I j δ M → (∀ δ' M', I (j + 1) δ' M' → NX δ' M') → g (.int (j : Int)) δ M fun δ2 M2 => tb { D with nx := NX, ct := NX, bk := D.nx } δ2 M2)
    (hn : ∀ δ M, I n δ M → D.nx δ M) {δ : De} {M : Mm} (h : I 0 δ M) : forD g tb D (rngD 0 n) δ M := by
  rw [rngD0, List.range_eq_range']
  have go : ∀ (k j : Nat) δ M, j + k = n → I j δ M → forD g tb D ((List.range' j k).map fun i : Nat => Da.int (i : Int)) δ M := by
    intro k
    induction k with
    | zero => intro j δ M e h; have e : j = n := by omega
              subst e; exact hn δ M h
    | succ k ih => intro j δ M e h; exact hs j δ M _ (by omega) h fun δ' M' h' => ih (j + 1) δ' M' (by omega) h'
  exact go n 0 δ M (by omega) h
theorem rds_ints {K : PySem.W.Frag} {W : Addr → Prop} {H : Hp} : ∀ ns : List Int, RDs K W H (ns.map V.int) (ns.map Da.int)
  | [] => .nil
  | n :: ns => .cons (.int n) (rds_ints ns)
theorem start_state {K : PySem.W.Frag} {H : Hp} {a : Addr} {ns : List Int} (hS : SqL K H a (ns.map V.int)) : Stt K NoF (fun b => b = a ∧ Rd H a (.lst (ns.map V.int))) (fun _ => none) H ∧ RDs K (fun b => b = a ∧ Rd H a (.lst (ns.map V.int))) H [.ref a] [.lst (ns.map Da.int)] := by
  refine ⟨⟨fun b ⟨e, w⟩ => ?_, fun a w => w.elim, fun a o e => (nomatch e), fun a o e => (nomatch e), fun b o ⟨e, w⟩ q => ?_⟩, .cons (.lst (vs := ns.map V.int) ?_ (rds_ints ns)) .nil⟩
  · subst e
    rcases w with h | ⟨o, h⟩
    · exact ⟨_, h⟩
    · exact ⟨_, h⟩
  · subst e
    rcases w with h | ⟨o, h⟩
    · rw [h] at q; cases q; exact trivial
    · rw [h] at q; cases q; exact trivial
  · rcases hS with h | h
    · exact .inl ⟨⟨rfl, h⟩, h⟩
    · exact .inr (.inr h)
/-- the law's promise -/
def spLawD : DSp := fun ds M Q _ => ∃ ns : List Int, ds = [.lst (ns.map Da.int)] ∧ ns.length ≤ 63 ∧ ∀ M', Q (.bl true) M'
end U
set_option Elab.async false
set_option linter.all false
set_option maxRecDepth 100000
set_option maxHeartbeats 2000000
namespace U
open PySem PySem.Spec PyProof.Rows L2
/-- the number with these bits below N -/
def ofB (f : Nat → Bool) : Nat → Nat
  | 0 => 0
  | n + 1 => ofB f n + if f n = true then 2 ^ n else 0
def led (n E a b m e : Nat) : Bool := (e == n && a.testBit (m * E + e)) || (List.range n).any fun v => a.testBit (m * E + v) && b.testBit (v * E + e)
section
variable {n E a b c : Nat} (hE : 0 < E) (hn : n ≤ E)
include hE hn
/-- what is done at the watched end -/
def dne (n E a : Nat) : Nat := ofB (fun k => a.testBit k && (k % E == n)) (n * E)
end
end U
set_option Elab.async false
set_option linter.all false
set_option maxRecDepth 100000
set_option maxHeartbeats 2000000
namespace U
open PySem PySem.Spec PyProof.Rows L2
section
variable {X : Cx} {a b c e : Expr} {es rest : List Expr} {fa fb fc f : DTE} {fs : DTA} {pos p : Pos}
/-- {} that changes no more -/
def gDct0 : DTE := fun _ M Q => Q (.dct []) M
theorem d_dct0 : DE X (.Dict [] [] pos) gDct0 := imp pe_dnewK fun σ H Q ⟨δ, F, W, M, Qd, ev, s, h, k⟩ => fun p hp => by
  obtain ⟨s1, g1⟩ := s.new hp (.dK [])
  exact (k.mono g1).now s1 (.dct (.inl rfl) upd_same .nil) h
end
end U
set_option Elab.async false
set_option linter.all false
set_option maxRecDepth 100000
set_option maxHeartbeats 2000000
namespace U
end U
set_option Elab.async false
set_option linter.all false
set_option maxRecDepth 100000
set_option maxHeartbeats 2000000
namespace U
open PySem PySem.Spec PyProof.Rows L2
structure okN (n : Nat) (x : Da) : Prop where
  p : pure? x = true
  c : PyData.canLay0 (toP x) = true
  d : PyData.depth (toP x) ≤ n
theorem okN.ok {n : Nat} {x : Da} (h : okN n x) (hn : n ≤ 64) : okD x = true := by
  unfold okD SeqAt.shaped
  rw [h.p, h.c, Bool.true_and, Bool.true_and]
  exact decide_eq_true (Nat.le_trans h.d hn)
theorem okN.mono {n m : Nat} {x : Da} (h : okN n x) (k : n ≤ m) : okN m x := ⟨h.p, h.c, Nat.le_trans h.d k⟩
def Sub (M2 M1 : Mm) : Prop := ∀ a o, M2 a = some o → M1 a = some o
section
variable {X : Cx} {e : Expr} {f : DTE} {pos : Pos}
def hRetF (f : DTE) : DTS := fun D δ M => f δ M fun x M1 => ∃ M2, Sub M2 M1 ∧ D.rt x M2
theorem z_retF (he : DE X e f) : DS X (.Return (some e) pos) (hRetF f) := ps_imp (ps_ret he) fun D σ H ⟨δ, F, W, M, Dd, ev, s, h, k⟩ =>
  ⟨δ, F, W, M, _, ev, s, h, fun v H1 W1 d M1 g1 s1 r1 ⟨M2, sb, q⟩ => k.rt v H1 W1 d M2 g1 (s1.forget sb) r1 q⟩
end
section
variable {X : Cx} {a : Expr} {f : DTE} {pos pos2 p p2 : Pos}
end
/-- all but d stands, maybe more -/
def Kx (d : Addr) (M M' : Mm) : Prop := ∀ p o, p ≠ d → M p = some o → M' p = some o
theorem Kx.refl {d : Addr} {M : Mm} : Kx d M M := fun _ _ _ h => h
theorem Kx.trans {d : Addr} {M M1 M2 : Mm} (a : Kx d M M1) (b : Kx d M1 M2) : Kx d M M2 := fun p o h q => b p o h (a p o h q)
theorem Kx.put {d p : Addr} {M M' : Mm} {o : MO} (a : Kx d M M') (h : M' p = none) : Kx d M (mput M' p o) := fun q u n e => by
  rw [mput_ne (fun z => by subst z; rw [a q u n e] at h; cases h)]; exact a q u n e
theorem Kx.del {d p : Addr} {M M' : Mm} (a : Kx d M M') (h : M p = none) : Kx d M (mdel M' p) := fun q u n e => by
  unfold mdel
  rw [if_neg (fun z => by subst z; rw [h] at e; cases e)]; exact a q u n e
theorem Kx.of {d : Addr} {M M' : Mm} (h : ∀ p, p ≠ d → M' p = M p) : Kx d M M' := fun p o n e => (h p n).trans e
/-- a comprehension that may change the memory -/
theorem lcD_st0 {α : Type} {c : CT} {te : DTE} {δ : De} {g : α → Da} {k : List Da → Mm → Prop} (I : List α → List Da → Mm → Prop) {l : List α} {M : Mm} (h : I l [] M) (ho : ∀ x, c.ok (g x))
    (hs : ∀ x l acc M, I (x :: l) acc M → ∀ Q : DK, (∀ y M', I l (acc ++ [y]) M' → Q y M') → te (c.set (g x) δ) M Q) (hn : ∀ acc M, I [] acc M → k acc M) : lcD c gYes te δ (l.map g) k M :=
  lcD_st (acc := []) I ho hs hn h
end U
set_option Elab.async false
set_option linter.all false
set_option maxRecDepth 100000
set_option maxHeartbeats 2000000
namespace US0
open PySem PySem.Spec PyProof.Rows L2
section
variable {P : Program} {w : World} {A : Around} {E : Value → Shared → Prop} {s : Shared}
end
end US0
set_option Elab.async false
set_option linter.all false
set_option maxRecDepth 100000
set_option maxHeartbeats 2000000
namespace U
open PySem PySem.Spec PyProof.Rows L2
section
variable {X : Cx} {a : Expr} {f : DTE} {p p2 q pos : Pos}
end
end U
namespace U
open PySem PySem.Spec PyProof.Rows L2
section
variable {X : Cx}
end
end U
namespace U
open L2
end U
namespace U
open PySem PySem.Spec PyProof.Rows L2
section
variable {X : Cx} {e : Expr} {f : DTE} {ft : DTT} {st : Stmt} {t : DTS}
def hCut (t : DTS) : DTS := fun D δ M => ∃ P : De → Mm → Prop, t { D with nx := P } δ M ∧ ∀ δ' M', P δ' M' → D.nx δ' M'
theorem z_cut (h : DS X st t) : DS X st (hCut t) := ps_imp h fun D σ H ⟨δ, F, W, M, Dd, ev, s, ⟨P, h, hp⟩, k⟩ =>
  ⟨δ, F, W, M, { Dd with nx := P }, ev, s, h, fun σ H' W' δ' M' g s e q => k.nx σ H' W' δ' M' g s e (hp δ' M' q), k.rt, k.bk, k.ct, k.ex⟩
end
end U
namespace U
open PySem
/-- of another class of the text -/
theorem kit_mkR {K : PySem.W.Frag} {D C : Addr} {x} {r : Bool} (n : (D == C) = false) (a : PySem.W.clsIn K C = some x) (b : PySem.W.typeIn K (.ref C) = some (.type "type")) (c : PySem.W.subIn K (.ref D) (.ref C) = some r) : PySem.W.kitOne K (.ref D) (.ref C) = some r := by
  unfold PySem.W.kitOne PySem.W.kitCls
  rw [if_neg (by
    intro h
    have : D = C := by simpa using h
    subst this
    simp at n)]
  simp only [a, b]
  rw [if_pos (by simp)]
  exact c
end U
set_option Elab.async false
set_option linter.all false
set_option maxRecDepth 100000
set_option maxHeartbeats 2000000
namespace UP0
open PySem PySem.Spec PySem.Calls PyProof.Rows PySem.W
section
variable {prog : Program} {w : World} {A : Around} {E : Value → Shared → Prop} {s : Shared}
end
end UP0
namespace U
open PySem PySem.Spec PyProof.Rows L2
section
variable {X : Cx}
/-- names that are bound -/
inductive PCaps : List Pattern → List Str → Prop
  | nil : PCaps [] []
  | cons {n : Str} {pos} {ps : List Pattern} {ns : List Str} : PCaps ps ns → PCaps (.MatchAs none (some n) pos :: ps) (n :: ns)
theorem PCaps.length : ∀ {ps ns}, PCaps ps ns → ps.length = ns.length
  | _, _, .nil => rfl
  | _, _, .cons h => by rw [List.length_cons, List.length_cons, h.length]
/-- the names' slots -/
structure Slts (X : Cx) (ns : List Str) (is : List Nat) : Prop where
  len : ns.length = is.length
  at_ : ∀ (k : Nat) (n : Str) (i : Nat), ns[k]? = some n → is[k]? = some i → X.N[i]? = some n ∧ Loc X.env.scope n ∧ (X.fn n = true ∨ X.env.scope.names.lookup n = some .local)
end
end U
set_option Elab.async false
set_option linter.all false
set_option maxRecDepth 100000
set_option maxHeartbeats 2000000
namespace U
open PySem PySem.Spec PyProof.Rows L2
section
variable {X : Cx}
end
end U
set_option Elab.async false
set_option linter.all false
set_option maxRecDepth 100000
set_option maxHeartbeats 2000000
namespace UX0
open PySem PySem.Spec PyProof.Rows L2 PpSet
def keyS (e : Int × Value) : Str := match e.2 with | .str k _ => k | _ => Str.empty
def GoodS (w : World) (e : Int × Value) : Prop := ∃ k tk, e.2 = Value.str k tk ∧ e.1 = hashStr w k
/-- the set of bools at a: S its members, n their number; its table rises and can be walked -/
def SetS (w : World) (h : Heap) (a : Addr) (S : Str → Bool) (n : Nat) : Prop :=
  ∃ o es ep t, h.get? a = some o ∧ o.ExactSet ∧ o.data = .set es ep t ∧ (∀ e ∈ es.toList, GoodS w e) ∧ (es.toList.map keyS).Nodup ∧ (∀ k, S k = true ↔ k ∈ es.toList.map keyS) ∧
    es.size < scanBound ∧ t.fits es.size = true ∧ es.size = n ∧ Ris t.place.toList ∧ (w.params.followText "set-order" = true ∨ t.led = true)

section
variable {P : Program} {w : World} {h h' : Heap} {a : Addr} {S : Str → Bool} {n : Nat}

theorem SetS.at (R : SetS w h a S n) (k : ∀ o, h.get? a = some o → h'.get? a = some o) : SetS w h' a S n := by
  obtain ⟨o, es, ep, t, ho, r⟩ := R
  exact ⟨o, es, ep, t, k o ho, r⟩
theorem SetS.congr {S' : Str → Bool} (R : SetS w h a S n) (e : ∀ k, S' k = S k) : SetS w h a S' n := by
  have q : S' = S := funext e
  rw [q]; exact R
end

section
variable {P : Program} {w : World} {A : Around} {E : Value → Shared → Prop} {s : Shared} {a : Addr} {S : Str → Bool} {n : Nat}

end
section
variable {P : Program} {w : World} {A : Around} {E : Value → Shared → Prop} {s : Shared}
end
section
variable {X : Cx}
end
section
variable {prog : Program} {w : World} {A : Around} {R : Result → Shared → Prop} {s : Shared} {env : Env}
end

section
variable {X : Cx}
end

section
variable {P : Program} {w : World} {A : Around} {E : Value → Shared → Prop} {s : Shared}
end
section
variable {P : Program} {w : World} {A : Around} {E : Value → Shared → Prop} {s : Shared} {a : Addr}
end

end UX0
set_option Elab.async false
set_option linter.all false
set_option maxRecDepth 100000
set_option maxHeartbeats 2000000
namespace U
open PySem PySem.Spec PyProof.Rows L2 UX0
section
variable {X : Cx} {tg elt iter : Expr} {ifs : List Expr} {scope : Scope} {own : List (Str × Nat)} {pos p pos2 p2 : Pos} {di : DTI} {c : CT} {tt : DTT} {te : DTE}
section
variable (hc : X.calm = true) (hN : X.N.Nodup) (hi : DI X tg iter di) (ok : BlkOk X.N X.env.scope scope own)
    (hg : ∀ (s : Shared) (H : Hp) (C : Addr) (cl : List (Str × Addr)) (fp : List Addr), PG (X.blk s H scope (compEnvC scope cl C X.env) fp) tg (c.tg X.K)) (ht : ∀ (s : Shared) (H : Hp) (C : Addr) (cl : List (Str × Addr)) (fp : List Addr), DTs (X.blk s H scope (compEnvC scope cl C X.env) fp) ifs tt)
    (he : ∀ (s : Shared) (H : Hp) (C : Addr) (cl : List (Str × Addr)) (fp : List Addr), DE (X.blk s H scope (compEnvC scope cl C X.env) fp) elt te)
end
end
end U
set_option Elab.async false
set_option linter.all false
set_option maxRecDepth 100000
set_option maxHeartbeats 2000000
namespace UZ0
open PySem PySem.Spec PyProof.Rows L2
section
variable {prog : Program} {w : World} {A : Around} {E : Value → Shared → Prop}
end
end UZ0
namespace U
open PySem PySem.Spec PyProof.Rows L2 UX0 UZ0
def valD (kvs : List (Key × Da)) (k : Key) : Option Da := (kvs.find? fun kv => decide (kv.1 = k)).map (·.2)
def putDK (kvs : List (Key × Da)) (k : Key) (d : Da) : List (Key × Da) :=
  if (kvs.any fun kv => decide (kv.1 = k)) = true then kvs.map (fun kv => if kv.1 = k then (kv.1, d) else kv) else kvs ++ [(k, d)]
section
variable {K : PySem.W.Frag} {F W W' : Addr → Prop} {H H' : Hp} {M : Mm} {p : Addr}
theorem RK.length : ∀ {vs : List (Key × V)} {ds : List (Key × Da)}, RK K W H vs ds → vs.length = ds.length
  | _, _, .nil => rfl
  | _, _, .cons _ k => by rw [List.length_cons, List.length_cons, k.length]
theorem RK.keys : ∀ {vs : List (Key × V)} {ds : List (Key × Da)}, RK K W H vs ds → vs.map (·.1) = ds.map (·.1)
  | _, _, .nil => rfl
  | _, _, .cons _ k => by rw [List.map_cons, List.map_cons, k.keys]
theorem RK.any (f : Key → Bool) : ∀ {vs : List (Key × V)} {ds : List (Key × Da)}, RK K W H vs ds → (vs.any fun kv => f kv.1) = ds.any fun kv => f kv.1
  | _, _, .nil => rfl
  | _, _, .cons _ k => by rw [List.any_cons, List.any_cons, k.any f]
theorem RK.val {k : Key} : ∀ {vs : List (Key × V)} {ds : List (Key × Da)}, RK K W H vs ds → (valV vs k = none ∧ valD ds k = none) ∨ ∃ v d, valV vs k = some v ∧ valD ds k = some d ∧ RD K W H v d
  | _, _, .nil => .inl ⟨rfl, rfl⟩
  | _, _, .cons (f := f) h t => by
    by_cases e : f = k
    · exact .inr ⟨_, _, valV_pos e, by simp [valD, List.find?_cons, e], h⟩
    · rw [valV_neg e]
      have : ∀ (d : Da) (ds : List (Key × Da)), valD ((f, d) :: ds) k = valD ds k := fun d ds => by simp [valD, List.find?_cons, e]
      rw [this]
      exact t.val
theorem RK.append : ∀ {vs ws : List (Key × V)} {ds es : List (Key × Da)}, RK K W H vs ds → RK K W H ws es → RK K W H (vs ++ ws) (ds ++ es)
  | _, _, _, _, .nil, r => r
  | _, _, _, _, .cons h t, r => .cons h (t.append r)
theorem RK.mapPut {k : Key} {v : V} {d : Da} (h : RD K W H v d) : ∀ {vs : List (Key × V)} {ds : List (Key × Da)}, RK K W H vs ds → RK K W H (vs.map fun kv => if kv.1 = k then (kv.1, v) else kv) (ds.map fun kv => if kv.1 = k then (kv.1, d) else kv)
  | _, _, .nil => .nil
  | _, _, .cons (f := f) h0 t => by
    rw [List.map_cons, List.map_cons]
    by_cases q : f = k
    · simp only [q, if_true]; exact .cons h (RK.mapPut h t)
    · simp only [q, if_false]; exact .cons h0 (RK.mapPut h t)
theorem RK.put {k : Key} {v : V} {d : Da} {vs : List (Key × V)} {ds : List (Key × Da)} (r : RK K W H vs ds) (h : RD K W H v d) : RK K W H (putK vs k v) (putDK ds k d) := by
  unfold putK putDK
  have e : (vs.any fun kv => decide (kv.1 = k)) = ds.any fun kv => decide (kv.1 = k) := r.any (fun x => decide (x = k))
  rw [e]
  split
  · exact RK.mapPut h r
  · exact r.append (.cons h .nil)
theorem Stt.dict (s : Stt K F W M H) {kvs : List (Key × Da)} (h : M p = some (.dct kvs)) : ∃ vs, H p = some (.dK vs) ∧ RK K W H vs kvs := by
  obtain ⟨u, hu, mr⟩ := s.mem _ _ h
  cases mr with
  | dct rv => exact ⟨_, hu, rv⟩
end
section
variable {X : Cx} {o i e value : Expr} {fo fi f fv : DTE} {pos apos cpos p : Pos}
/-- a tuple without a dict of its own -/
def PlT (K : PySem.W.Frag) (H : Hp) (a : Addr) (vs : List V) : Prop := (∃ o, H a = some (.frz o (.tup vs)) ∧ o.dict = none) ∨ (SqT K (fun _ => none) a vs ∧ ∃ o, K.lookup a = some o ∧ o.dict = none)
theorem PlT.run {pins : List (Addr × Obj)} {σ : L2.St} {H : Hp} {s : Shared} {a : Addr} {vs : List V} (I : Inv X pins σ H s) (h : PlT X.K H a vs) : ∃ (o : Obj) (its : List Value) (n : Nat), s.heap.get? a = some o ∧ o.cls = .type "tuple" ∧ o.dict = none ∧ o.data = .seq its.toArray n ∧ Vals vs its ∧ vs.length ≤ sizeLine := by
  rcases h with ⟨o, h, hd⟩ | ⟨h, o, hk, hd⟩
  · have q : ObjOk X.prog X.w H s.heap a (.frz o (.tup vs)) := I.hok a _ h
    obtain ⟨q1, q2⟩ := q
    obtain ⟨z, its, r, o2, e, hc, n, hdt⟩ := q2
    rw [q1] at e
    cases e
    exact ⟨o, its, n, q1, hc, hd, hdt, r, z⟩
  · rcases h with h | ⟨o2, its, n, hk2, hc, hs, hz, r⟩
    · rcases h with h | ⟨_, h⟩ <;> cases h
    · rw [hk] at hk2
      cases hk2
      exact ⟨o, its.toList, n, I.kIn a o hk, hc, hd, by simpa using hs, r, by rw [r.length]; simpa using hz⟩
end
end U
set_option Elab.async false
set_option linter.all false
set_option maxRecDepth 100000
set_option maxHeartbeats 2000000
namespace U
open PySem PySem.Spec PyProof.Rows L2 UX0 UZ0
section
variable {X : Cx} {a e : Expr} {fa f : DTE} {pos p : Pos}
theorem Slts.nil : Slts X [] [] := ⟨rfl, fun k n i e => by simp at e⟩
theorem Slts.cons {n : Str} {i : Nat} {ns : List Str} {is : List Nat} (hi : X.N[i]? = some n) (r : Slts X ns is) (hx : Loc X.env.scope n := by first | exact Or.inl rfl | exact Or.inr rfl)
    (hf : X.fn n = true ∨ X.env.scope.names.lookup n = some .local := by first | exact .inl rfl | exact .inr rfl) : Slts X (n :: ns) (i :: is) := by
  refine ⟨by rw [List.length_cons, List.length_cons, r.len], fun k m j e1 e2 => ?_⟩
  cases k with
  | zero => cases e1; cases e2; exact ⟨hi, hx, hf⟩
  | succ k => exact r.at_ k m j (by simpa using e1) (by simpa using e2)
end
end U
set_option Elab.async false
set_option linter.all false
set_option maxRecDepth 100000
set_option maxHeartbeats 2000000
namespace U
open PySem PySem.Spec PyProof.Rows L2
section
variable {X : Cx}
end
/-- values of the plain kinds, all the way down -/
inductive pv : Da → Prop
  | non : pv .non
  | bl (b : Bool) : pv (.bl b)
  | int (i : Int) : pv (.int i)
  | str (z : Str) : z.length ≤ 1000 → pv (.str z)
  | lst (xs : List Da) : xs.length ≤ 5000 → (∀ x ∈ xs, pv x) → pv (.lst xs)
  | tup (xs : List Da) : xs.length ≤ 5000 → (∀ x ∈ xs, pv x) → pv (.tup xs)
  | dct (kvs : List (Key × Da)) : pv (.dct kvs)
end U
namespace U
open PySem PySem.Spec PyProof.Rows L2
/-- a def whose promise nobody can ask for -/
theorem KnD.never {P : Program} {w : World} {K : PySem.W.Frag} {mg : Str → Option Value} {base : Heap} {x : Str} {st : Stmt} {N ps : List Str} {k : Nat} {sp : DSp} (F : HasDef K x st) (M : MgOf K mg) (S : FnScope N ps (defScope st))
    (hb : ∀ (kV doc pm : Value) (an : Option Addr) (cdv ct : Value) (us : List Value), us.length = ps.length → bindArgs (PySem.W.fnOf x x (defArgs st) (defBody st) (defScope st) .none kV doc pm an cdv ct) ⟨us, []⟩ = pure (ps.zip us))
    (no : ∀ ds M Q E, ¬ sp ds M Q E) : KnD P w K mg base x (k + 1) ps sp :=
  Known.of F M S hb (lsp_len fun ds M Q E h => (no _ _ _ _ h).elim) fun f cdv A outer s H vs Q E hr ⟨F, W, M, ds, Qd, Ed, r, st, h, kk, kx⟩ => (no _ _ _ _ h).elim
end U
namespace U
end U
namespace U
open PySem PySem.Spec PyProof.Rows L2
end U
namespace U
open PySem PySem.Spec PyProof.Rows L2
section
variable {X : Cx} {C : Addr} {k : Nat} {ps : List Str}
end
end U
namespace U
open PySem PySem.Spec PyProof.Rows L2
end U
set_option Elab.async false
set_option linter.all false
set_option maxRecDepth 100000
set_option maxHeartbeats 2000000
namespace U
open PySem PySem.Spec PyProof.Rows L2
abbrev KnXD (P : Program) (w : World) (K : PySem.W.Frag) (mg : Str → Option Value) (base : Heap) (x : Str) (k : Nat) (ps : List Str) (sp : DSp) : Prop := Known P w K mg base (L2.CX P w) x k ps (LSp K sp)
abbrev KnMXD (P : Program) (w : World) (K : PySem.W.Frag) (mg : Str → Option Value) (base : Heap) (C : Addr) (m : Str) (k : Nat) (ps : List Str) (sp : DSp) : Prop := KnownM P w K mg base (L2.CX P w) C m k ps (LSp K sp)
def bodyX (Q : DK) (Ed : DX) : DEnds := { nx := fun _ M => Q .non M, rt := Q, ex := Ed }
theorem ls_bodyX {K : PySem.W.Frag} {F W : Addr → Prop} {M : Mm} {H : Hp} {N : List Str} {vs : List V} {ds : List Da} {Qd : DK} {Q : VK} {Ed : DX} {E : XK} {t : DTS} (r : RDs K W H vs ds) (s : Stt K F W M H) (k : Kt (rE K) K F W H Qd Q) (kx : KX K F W H Ed E) (h : t (bodyX Qd Ed) (startD N ds) M) :
    LS K E t { nx := fun _ H' => Q .non H', rt := Q } (start N vs) H :=
  ⟨_, F, W, M, _, env_start N r, s, h, fun σ H' W' δ M' g s' e q => k _ _ _ _ _ g s' .non q, k, fun _ _ _ _ _ _ _ _ z => z.elim, fun _ _ _ _ _ _ _ _ z => z.elim, kx⟩
theorem kx_def {P : Program} {w : World} {K : PySem.W.Frag} {mg : Str → Option Value} {base : Heap} {N : List Str} {x : Str} {sc : Scope} {f : Addr} {cdv : Value} {A : Around} {outer : List Env} {s : Shared} {H0 : Hp} {E : XK} {F W : Addr → Prop} {H : Hp} {Ed : DX} (kx : KX K F W H Ed E) :
    KX K F W H Ed (EXm (cxOf (L2.CX P w) P w K mg base N x sc f cdv A outer s H0 E)) :=
  fun cls d H' W' fs M' g s' r q => EXm.of (takes_of rfl rfl rfl rfl) fun _ _ => kx cls d H' W' fs M' g s' r q
theorem KnXD.of {P : Program} {w : World} {K : PySem.W.Frag} {mg : Str → Option Value} {base : Heap} {x : Str} {st : Stmt} {N ps : List Str} {k : Nat} {sp : DSp} (F : HasDef K x st) (M : MgOf K mg) (S : FnScope N ps (defScope st))
    (hb : ∀ (kV doc pm : Value) (an : Option Addr) (cdv ct : Value) (us : List Value), us.length = ps.length → bindArgs (PySem.W.fnOf x x (defArgs st) (defBody st) (defScope st) .none kV doc pm an cdv ct) ⟨us, []⟩ = pure (ps.zip us))
    (len : ∀ ds M Q E, sp ds M Q E → ds.length = ps.length)
    (hbody : ∀ (f : Addr) (cdv : Value) (A : Around) (outer : List Env) (s : Shared) (H : Hp) (E : XK), Room k (A.deeper (envOfC x (defScope st) s.heap.objs.size f cdv)) →
      ∃ t, DB (cxOf (L2.CX P w) P w K mg base N x (defScope st) f cdv A outer s H E) (defBody st) t ∧ ∀ ds M Q Ed, sp ds M Q Ed → t (bodyX Q Ed) (startD N ds) M) : KnXD P w K mg base x (k + 1) ps sp := by
  obtain ⟨f, fd, G, e⟩ := F.ex
  refine ⟨f, fd, G.okX S (lsp_len len) (fun cdv A outer s H vs Q E hr ⟨F, W, M, ds, Qd, Ed, r, st, h, kk, kx⟩ => ?_), M.of _ _ e, G.kp, G.binds hb⟩
  obtain ⟨t, d, q⟩ := hbody f cdv A outer s H E hr
  exact ⟨_, d, ls_bodyX r st kk (kx_def kx) (q ds M Qd Ed h)⟩
theorem KnMXD.of {P : Program} {w : World} {K : PySem.W.Frag} {mg : Str → Option Value} {base : Heap} {C : Addr} {m qual : Str} {st : Stmt} {N ps : List Str} {k : Nat} {sp : DSp} (F : HasMeth K C m qual st) (S : FnScope N ps (defScope st))
    (hb : ∀ (kV doc pm : Value) (an : Option Addr) (cdv ct : Value) (us : List Value), us.length = ps.length → bindArgs (PySem.W.fnOf m qual (defArgs st) (defBody st) (defScope st) .none kV doc pm an cdv ct) ⟨us, []⟩ = pure (ps.zip us))
    (len : ∀ ds M Q E, sp ds M Q E → ds.length = ps.length)
    (hbody : ∀ (f : Addr) (cdv : Value) (A : Around) (outer : List Env) (s : Shared) (H : Hp) (E : XK), Room k (A.deeper (envOfC qual (defScope st) s.heap.objs.size f cdv)) →
      ∃ t, DB (cxOf (L2.CX P w) P w K mg base N qual (defScope st) f cdv A outer s H E) (defBody st) t ∧ ∀ ds M Q Ed, sp ds M Q Ed → t (bodyX Q Ed) (startD N ds) M) : KnMXD P w K mg base C m (k + 1) ps sp := by
  obtain ⟨f, fd, G, e⟩ := F.ex
  refine ⟨f, fd, G.okX S (lsp_len len) (fun cdv A outer s H vs Q E hr ⟨F, W, M, ds, Qd, Ed, r, st, h, kk, kx⟩ => ?_), e, G.binds hb⟩
  obtain ⟨t, d, q⟩ := hbody f cdv A outer s H E hr
  exact ⟨_, d, ls_bodyX r st kk (kx_def kx) (q ds M Qd Ed h)⟩
def spN (sp : DSp) : DSp := fun ds M Q _ => sp ds M Q X0
theorem FnOk.nox {P : Program} {w : World} {K : PySem.W.Frag} {mg : Str → Option Value} {base : Heap} {k : Nat} {f : Addr} {fd : FuncData} {ps : List Str} {sp : DSp} (F : FnOk P w K mg base (L2.CX P w) k f fd ps (LSp K sp)) : FnOk P w K mg base CX0 k f fd ps (LSp K (spN sp)) := by
  have x0 : ∀ {vs H Q E}, LSp K (spN sp) vs H Q E → LSp K sp vs H Q (fun _ _ _ => False) := fun ⟨F, W, M, ds, Qd, Ed, r, s, h, k, _⟩ => ⟨F, W, M, ds, Qd, X0, r, s, h, k, fun _ _ _ _ _ _ _ _ _ z => z.elim⟩
  refine ⟨fun vs H Q E h => F.len vs H Q _ (x0 h), fun A outer s H args us vs Q E hr e0 hb hv hs => ?_⟩
  refine codeAny_mono (F.run A outer s H args us vs Q _ hr e0 hb hv (x0 hs)) fun r s' hq => ?_
  cases r with
  | error e =>
    obtain ⟨_, _, _, _, _, _, _, _, _, _, _, _, z⟩ := (show L2.CX P w outer H s (fun _ _ _ => False) e s' from hq)
    exact z.elim
  | ok fl => cases fl <;> exact hq
theorem KnXD.d {P : Program} {w : World} {K : PySem.W.Frag} {mg : Str → Option Value} {base : Heap} {x : Str} {k : Nat} {ps : List Str} {sp : DSp} (D : KnXD P w K mg base x k ps sp) : KnD P w K mg base x k ps (spN sp) := by
  obtain ⟨f, fd, F, r⟩ := D.ex
  exact ⟨f, fd, FnOk.nox F, r⟩
theorem KnMXD.d {P : Program} {w : World} {K : PySem.W.Frag} {mg : Str → Option Value} {base : Heap} {C : Addr} {m : Str} {k : Nat} {ps : List Str} {sp : DSp} (D : KnMXD P w K mg base C m k ps sp) : KnMD P w K mg base C m k ps (spN sp) := by
  obtain ⟨f, fd, F, r⟩ := D.ex
  exact ⟨f, fd, FnOk.nox F, r⟩
abbrev XDE := De → Mm → DK → DX → Prop
abbrev XDA := De → Mm → (List Da → Mm → Prop) → DX → Prop
section
variable {X : Cx} {k : Nat} {ps : List Str} {sp : DSp} {x m : Str} {p pos apos : Pos} {a b e o : Expr} {es : List Expr} {fa : XDE} {fs : XDA} {f fo : DTE} {C : Addr}
/-- an own exception class without an own __init__ -/
structure XCls (K : PySem.W.Frag) (x : Str) (C : Addr) : Prop where
  at_ : PySem.W.nsIn K mainGlobals x = some (some (.ref C))
  exc : PySem.W.excIn K C [.type "ValueError", .type "Exception", .type "BaseException", .type "object"] "ValueError.__new__" = true
  kp : PySem.W.keepIn K (.ref C) = true
  sub : PySem.W.subIn K (.ref C) (.type "BaseException") = some true
  ty : PySem.W.typeIn K (.ref C) = some (.type "type")
end
end U
set_option Elab.async false
set_option linter.all false
set_option maxRecDepth 100000
set_option maxHeartbeats 2000000
namespace U
open PySem PySem.Spec PyProof.Rows L2 LamX
/-- a table, of whose code objects V holds -/
def TabV (V : Addr → Prop) (H : Hp) (P : Addr) (q : Str) : Prop := ∃ ps : Array Value, H P = some (.tbl ps) ∧ TriplesOk ps.toList ∧ ∀ (pos : Pos) (cv : Value), codeAmong pos ps.toList = some cv → ∃ c, cv = .ref c ∧ H c = some (CodeO c q) ∧ V c
theorem TabV.imp {V V' : Addr → Prop} {H : Hp} {P : Addr} {q : Str} (h : TabV V H P q) (f : ∀ c, V c → V' c) : TabV V' H P q :=
  let ⟨ps, a, b, d⟩ := h; ⟨ps, a, b, fun pos cv e => let ⟨c, x, y, z⟩ := d pos cv e; ⟨c, x, y, f c z⟩⟩
section
variable {X : Cx} {pins : List (Addr × Obj)} {σ : L2.St} {H : Hp} {s : Shared}
end
section
variable {X : Cx}
end
end U
namespace U
open PySem PySem.Spec PyProof.Rows L2 LamX
theorem ls_E {K : PySem.W.Frag} {E E' : XK} {f : DTS} {D : Ends} {σ : L2.St} {H : Hp} (h : ∀ cls d H, E cls d H → E' cls d H) (q : LS K E f D σ H) : LS K E' f D σ H := by
  obtain ⟨δ, F, W, M, Dd, ev, s, hf, k⟩ := q
  exact ⟨δ, F, W, M, Dd, ev, s, hf, k.nx, k.rt, k.bk, k.ct, fun cls d H' W' fs M' g s' r e => h _ _ _ (k.ex cls d H' W' fs M' g s' r e)⟩
inductive HdsD (X : Cx) : List ExceptHandler → List (Value × DTS) → Prop
  | nil : HdsD X [] []
  | cons {x : Str} {c : Value} {th : DTS} {b₀ : Stmt} {suite : List Stmt} {np pos' : Pos} {hds : List ExceptHandler} {l : List (Value × DTS)} (hc : Names X x c) (hsu : ∀ (a : Addr) (oe : Obj) (pn : List (Addr × Obj)), DB (X.suite a ((a, oe) :: pn)) (b₀ :: suite) th) (r : HdsD X hds l) :
      HdsD X (.ExceptHandler (some (.Name x np)) none (b₀ :: suite) pos' :: hds) ((c, th) :: l)
def upH (K : PySem.W.Frag) (l : List (Value × DTS)) : List (Value × (Addr → Value → Option Addr → TS)) := l.map fun p => (p.1, fun _ _ _ => LS K (fun _ _ _ => False) p.2)
theorem HdsD.ok {X : Cx} {hds : List ExceptHandler} {l : List (Value × DTS)} (h : HdsD X hds l) : HdsOk X hds (upH X.K l) := by
  induction h with
  | nil => exact .nil
  | cons hc hsu r ih => exact .cons hc (fun a oe cls d pn _ _ => pss_imp (hsu a oe pn) fun D σ H q => ls_E (fun _ _ _ z => z.elim) q) ih
structure HasDefC (K : PySem.W.Frag) (x : Str) (st : Stmt) (c : Addr) : Prop where
  ex : ∃ (f : Addr) (oc : Value) (od an : Option Addr) (osl : Array (Option Value)) (kV doc pm ct : Value), PySem.W.nsIn K mainGlobals x = some (some (.ref f)) ∧ K.lookup f = some ⟨oc, od, .func (PySem.W.fnOf x x (defArgs st) (defBody st) (defScope st) .none kV doc pm an (.ref c) ct), osl⟩ ∧
    PySem.W.codeIn K (.ref c) x = true ∧ PySem.W.keepIn K (.ref f) = true
theorem HasDefC.d {K : PySem.W.Frag} {x : Str} {st : Stmt} {c : Addr} (h : HasDefC K x st c) : HasDef K x st := by
  obtain ⟨f, oc, od, an, osl, kV, doc, pm, ct, a, l, h, k⟩ := h.ex
  exact has_mk a l h k
section
variable {K : PySem.W.Frag}
end
section
variable {X : Cx} {Ng : List Str} {x a q : Str} {sg : Scope} {g : Addr} {cdg : Value} {h₀ : ExceptHandler} {hds : List ExceptHandler} {l : List (Value × DTS)} {p1 p2 p3 p8 : Pos} {rest : List Stmt} {u : DTS}
end
section
variable {X : Cx} {Ng : List Str} {x a : Str} {st : Stmt} {h₀ : ExceptHandler} {hds : List ExceptHandler} {l : List (Value × DTS)} {p1 p2 p3 p8 p lpos pos : Pos} {rest : List Stmt} {u : DTS} {P c : Addr} {k : Nat} {params : Arguments} {body : Expr} {scope : Scope} {gb : XDE}
end
end U
set_option Elab.async false
set_option linter.all false
set_option maxRecDepth 100000
set_option maxHeartbeats 2000000
namespace U
open PySem PySem.Spec PyProof.Rows L2 LamX
def memT (qs : List (Addr × Str)) : Mm := fun a => (qs.find? fun p => decide (p.1 = a)).map fun p => .tbl p.2
end U
set_option Elab.async false
set_option linter.all false
set_option maxRecDepth 100000
set_option maxHeartbeats 2000000
namespace U
open PySem PySem.Spec PyProof.Rows L2
section
variable {X : Cx} {tg kx vx iter : Expr} {ifs : List Expr} {scope : Scope} {own : List (Str × Nat)} {pos spos py : Pos} {di : DTI} {c : CT} {tt : DTT} {tk tv : DTE} {y : Str} {i : Nat}
section
variable (hc : X.calm = true) (hN : X.N.Nodup) (hi : DI X tg iter di) (ok : BlkOk X.N X.env.scope scope own)
    (hg : ∀ (s : Shared) (H : Hp) (C : Addr) (cl : List (Str × Addr)) (fp : List Addr), PG (X.blk s H scope (compEnvC scope cl C X.env) fp) tg (c.tg X.K)) (ht : ∀ (s : Shared) (H : Hp) (C : Addr) (cl : List (Str × Addr)) (fp : List Addr), DTs (X.blk s H scope (compEnvC scope cl C X.env) fp) ifs tt)
    (hk : ∀ (s : Shared) (H : Hp) (C : Addr) (cl : List (Str × Addr)) (fp : List Addr), DE (X.blk s H scope (compEnvC scope cl C X.env) fp) kx tk) (he : ∀ (s : Shared) (H : Hp) (C : Addr) (cl : List (Str × Addr)) (fp : List Addr), DE (X.blk s H scope (compEnvC scope cl C X.env) fp) vx tv)
end
end
section
variable {X : Cx}
end
end U
set_option Elab.async false
set_option linter.all false
set_option maxRecDepth 100000
set_option maxHeartbeats 2000000
namespace U
open PySem PySem.Spec PyProof.Rows L2 StX
section
variable {CX : CXT} {P : Program} {w : World} {K : PySem.W.Frag} {mg : Str → Option Value} {base : Heap} {k : Nat} {f : Addr} {name qual : Str} {params : Arguments} {body : List Stmt} {scope : Scope} {dV kV doc pm cdv ct oc : Value} {an od : Option Addr}
  {osl : Array (Option Value)} {N ps : List Str} {sp : Sp}
theorem fn_starF {pv : Str} (lk : K.lookup f = some ⟨oc, od, .func (PySem.W.fnOf name qual params body scope dV kV doc pm an cdv ct), osl⟩) (hcd : PySem.W.codeIn K cdv qual = true) (S : FnScope N (ps ++ [pv]) scope) (hCX : CXUp CX)
    (hb : ∀ us rest : List Value, us.length = ps.length → bindArgs (PySem.W.fnOf name qual params body scope dV kV doc pm an cdv ct) ⟨us ++ rest, []⟩ = (newTuple rest >>= fun t => pure (ps.zip us ++ [(pv, t)])))
    (hbody : ∀ (A : Around) (outer : List Env) (s : Shared) (H : Hp) (vs : List V) (Q : VK) (E : XK), Room k (A.deeper (envOfC qual scope s.heap.objs.size f cdv)) → sp vs H Q E →
      ∃ t, PSs (cxOf CX P w K mg base N qual scope f cdv A outer s H E) body t ∧ t { nx := fun _ H' => Q .non H', rt := Q } (start N vs) H) :
    FnR P w K mg base CX (k + 1) f (fun vs H Q E => ∃ ws rest, vs = ws ++ rest ∧ ws.length = ps.length ∧ rest.length ≤ sizeLine ∧ ∀ p, H p = Option.none → ∀ o : Obj, o.dict = none → sp (ws ++ [V.ref p]) (upd H p (.frz o (.tup rest))) Q E) := by
  intro A outer s H us vs Q E hr e0 r hsp
  obtain ⟨ws, rest, ev, hl, hz, hq⟩ := hsp
  subst ev
  obtain ⟨u1, u2, eu, r1, r2⟩ := vals_split r
  subst eu
  have hn : H s.heap.objs.size = Option.none := e0.hok.fresh (Nat.le_refl _)
  have hl1 : u1.length = ps.length := by rw [← r1.length]; exact hl
  have hl2 : u2.length ≤ sizeLine := by rw [← r2.length]; exact hz
  refine run_bnd lk hcd S hr e0 (G := fun xs H2 => ∃ (p : Addr) (o : Obj), H p = Option.none ∧ o.dict = none ∧ xs = ws ++ [V.ref p] ∧ H2 = upd H p (.frz o (.tup rest))) (fun A' Ex Q' h => ?_) fun s2 H2 xs ⟨p, o, hp, ho, ex, eH⟩ hr' => ?_
  · rw [hb u1 u2 hl1]
    refine wpAny_bind (wpAny_newTuple (wpAny_pure ?_) hl2)
    have new : ObjOk P w (upd H s.heap.objs.size (.frz { cls := .type "tuple", data := .seq u2.toArray } (.tup rest))) (s.heap.push ({ cls := .type "tuple", data := .seq u2.toArray } : Obj)) s.heap.objs.size (.frz { cls := .type "tuple", data := .seq u2.toArray } (.tup rest)) := ⟨Heap.get?_push_size _ rfl, hz, u2, r2, ⟨_, Heap.get?_push_size _ rfl, rfl, _, rfl⟩⟩
    have un := un_laid (fs := frs outer) (s := s) (o := ({ cls := .type "tuple", data := .seq u2.toArray } : Obj)) (u := .frz { cls := .type "tuple", data := .seq u2.toArray } (.tup rest)) hn
    have z := h _ _ (ws ++ [V.ref s.heap.objs.size]) (u1 ++ [Value.ref s.heap.objs.size]) (env0_laid e0 new) un rfl (fun e s' => hCX outer s H _ _ E e s' un (fun b o q => Heap.get?_push_of_some _ q) rfl) (r1.append (.cons rfl .nil))
      (by rw [List.length_append, List.length_append, hl] <;> rfl) ⟨_, _, hn, rfl, rfl, rfl⟩
    rw [List.zip_append hl1.symm] at z
    exact z
  · subst ex eH
    exact hbody A outer s2 _ _ Q E hr' (hq p hp o ho)
end
end U
namespace U
open PySem PySem.Spec PyProof.Rows L2 StX
/-- arguments, the last ones as one tuple -/
def spStar (n : Nat) (sp : DSp) : DSp := fun ds M Q Ed => ∃ ws rest, ds = ws ++ rest ∧ ws.length = n ∧ Sz rest.length ∧ sp (ws ++ [.tup rest]) M Q Ed
structure KnMR (P : Program) (w : World) (K : PySem.W.Frag) (mg : Str → Option Value) (base : Heap) (CX : CXT) (C : Addr) (m : Str) (k : Nat) (sp : DSp) : Prop where
  ex : ∃ f, FnR P w K mg base CX k f (LSp K sp) ∧ BMeth K C m f
theorem KnMR.of {P : Program} {w : World} {K : PySem.W.Frag} {mg : Str → Option Value} {base : Heap} {C : Addr} {m qual : Str} {st : Stmt} {N ps : List Str} {pv : Str} {k : Nat} {sp : DSp} (F : HasMeth K C m qual st) (S : FnScope N (ps ++ [pv]) (defScope st))
    (hb : ∀ (kV doc pm : Value) (an : Option Addr) (cdv ct : Value) (us rest : List Value), us.length = ps.length → bindArgs (PySem.W.fnOf m qual (defArgs st) (defBody st) (defScope st) .none kV doc pm an cdv ct) ⟨us ++ rest, []⟩ = (newTuple rest >>= fun t => pure (ps.zip us ++ [(pv, t)])))
    (hbody : ∀ (f : Addr) (cdv : Value) (A : Around) (outer : List Env) (s : Shared) (H : Hp) (E : XK), Room k (A.deeper (envOfC qual (defScope st) s.heap.objs.size f cdv)) →
      ∃ t, DB (cxOf (L2.CX P w) P w K mg base N qual (defScope st) f cdv A outer s H E) (defBody st) t ∧ ∀ ds M Q Ed, sp ds M Q Ed → t (bodyX Q Ed) (startD N ds) M) : KnMR P w K mg base (L2.CX P w) C m (k + 1) (spStar ps.length sp) := by
  obtain ⟨f, fd, G, e⟩ := F.ex
  obtain ⟨oc, od, kV, doc, pm, an, cdv, ct, osl, rfl, lk, hcd⟩ := G.ex
  refine ⟨f, FnR.imp (fn_starF (sp := LSp K sp) lk hcd S StX.cxUp (hb _ _ _ _ _ _) fun A outer s H vs Q E hr ⟨F, W, M, ds, Qd, Ed, r, st, h, kk, kx⟩ => ?_) fun vs H Q E ⟨F, W, M, ds, Qd, Ed, r, st, ⟨ws, rest, e1, hl, hz, h⟩, kk, kx⟩ => ?_, e⟩
  · obtain ⟨t, d, q⟩ := hbody f cdv A outer s H E hr
    exact ⟨_, d, ls_bodyX r st kk (kx_def kx) (q ds M Qd Ed h)⟩
  · subst e1
    have hlen := r.length
    rw [List.length_append] at hlen
    refine ⟨vs.take ps.length, vs.drop ps.length, (List.take_append_drop _ _).symm, by rw [List.length_take]; omega, ?_, fun p hp o ho => ?_⟩
    · have := hz.le
      rw [List.length_drop, sizeLine_eq]; omega
    · obtain ⟨s1, g1⟩ := st.new hp (.frz o (.tup (vs.drop ps.length))) ho
      have r1 : RDs K W H (vs.take ps.length) ws := by
        have := r.take ps.length
        have e : (ws ++ rest).take ps.length = ws := by rw [← hl]; exact List.take_left
        rwa [e] at this
      have r2 : RDs K W H (vs.drop ps.length) rest := by
        have := r.drop ps.length
        have e : (ws ++ rest).drop ps.length = rest := by rw [← hl]; exact List.drop_left
        rwa [e] at this
      exact ⟨F, _, M, _, Qd, Ed, (r1.mono g1).append (.cons (.tup (.inl ⟨.inl rfl, .inr ⟨o, upd_same⟩⟩) (r2.mono g1)) .nil), s1, h, kk.mono g1, kx.mono g1⟩
theorem FnR.nox {P : Program} {w : World} {K : PySem.W.Frag} {mg : Str → Option Value} {base : Heap} {k : Nat} {f : Addr} {sp : DSp} (F : FnR P w K mg base (L2.CX P w) k f (LSp K sp)) : FnR P w K mg base CX0 k f (LSp K (spN sp)) := by
  have x0 : ∀ {vs H Q E}, LSp K (spN sp) vs H Q E → LSp K sp vs H Q (fun _ _ _ => False) := fun ⟨F, W, M, ds, Qd, Ed, r, s, h, k, _⟩ => ⟨F, W, M, ds, Qd, X0, r, s, h, k, fun _ _ _ _ _ _ _ _ _ z => z.elim⟩
  intro A outer s H us vs Q E hr e0 hv hs
  refine codeAny_mono (F A outer s H us vs Q _ hr e0 hv (x0 hs)) fun r s' hq => ?_
  cases r with
  | error e =>
    obtain ⟨_, _, _, _, _, _, _, _, _, _, _, _, z⟩ := (show L2.CX P w outer H s (fun _ _ _ => False) e s' from hq)
    exact z.elim
  | ok fl => cases fl <;> exact hq
theorem KnMR.d {P : Program} {w : World} {K : PySem.W.Frag} {mg : Str → Option Value} {base : Heap} {C : Addr} {m : Str} {k : Nat} {sp : DSp} (D : KnMR P w K mg base (L2.CX P w) C m k sp) : KnMR P w K mg base CX0 C m k (spN sp) := by
  obtain ⟨f, F, r⟩ := D.ex
  exact ⟨f, FnR.nox F, r⟩
section
variable {X : Cx} {k i : Nat} {sp : DSp} {x m : Str} {p pos apos spos : Pos} {e o e1 e2 : Expr} {es : List Expr} {fs : XDA} {fd : DTA} {fo : DTE} {C : Addr} {f1 f2 : XDE} {g1 g2 : DTE}
end
end U
set_option Elab.async false
set_option linter.all false
set_option maxRecDepth 100000
set_option maxHeartbeats 2000000
namespace U
open PySem PySem.Spec PyProof.Rows L2 ClX
structure HasCMeth (K : PySem.W.Frag) (C : Addr) (m qual : Str) (st : Stmt) : Prop where
  ex : ∃ g fd mc p, Fun K m qual st g fd ∧ CRead K C mc ∧ CMet K C mc m p g
structure KnC (P : Program) (w : World) (K : PySem.W.Frag) (mg : Str → Option Value) (base : Heap) (CX : CXT) (C : Addr) (m : Str) (k : Nat) (sp : DSp) : Prop where
  ex : ∃ g mc p, FnR P w K mg base CX k g (LSp K sp) ∧ CRead K C mc ∧ CMet K C mc m p g
abbrev KnCXD (P : Program) (w : World) (K : PySem.W.Frag) (mg : Str → Option Value) (base : Heap) (C : Addr) (m : Str) (k : Nat) (ps : List Str) (sp : DSp) : Prop := KnC P w K mg base (L2.CX P w) C m k sp
theorem KnCXD.of {P : Program} {w : World} {K : PySem.W.Frag} {mg : Str → Option Value} {base : Heap} {C : Addr} {m qual : Str} {st : Stmt} {N ps : List Str} {k : Nat} {sp : DSp} (F : HasCMeth K C m qual st) (S : FnScope N ps (defScope st))
    (hb : ∀ (kV doc pm : Value) (an : Option Addr) (cdv ct : Value) (us : List Value), us.length = ps.length → bindArgs (PySem.W.fnOf m qual (defArgs st) (defBody st) (defScope st) .none kV doc pm an cdv ct) ⟨us, []⟩ = pure (ps.zip us))
    (len : ∀ ds M Q E, sp ds M Q E → ds.length = ps.length)
    (hbody : ∀ (f : Addr) (cdv : Value) (A : Around) (outer : List Env) (s : Shared) (H : Hp) (E : XK), Room k (A.deeper (envOfC qual (defScope st) s.heap.objs.size f cdv)) →
      ∃ t, DB (cxOf (L2.CX P w) P w K mg base N qual (defScope st) f cdv A outer s H E) (defBody st) t ∧ ∀ ds M Q Ed, sp ds M Q Ed → t (bodyX Q Ed) (startD N ds) M) : KnCXD P w K mg base C m (k + 1) ps sp := by
  obtain ⟨g, fd, mc, p, G, r, c⟩ := F.ex
  refine ⟨g, mc, p, fnR_of (G.okX S (lsp_len len) fun cdv A outer s H vs Q E hr ⟨F, W, M, ds, Qd, Ed, r, st, h, kk, kx⟩ => ?_) (G.binds hb), r, c⟩
  obtain ⟨t, d, q⟩ := hbody g cdv A outer s H E hr
  exact ⟨_, d, ls_bodyX r st kk (kx_def kx) (q ds M Qd Ed h)⟩
theorem KnC.d {P : Program} {w : World} {K : PySem.W.Frag} {mg : Str → Option Value} {base : Heap} {C : Addr} {m : Str} {k : Nat} {sp : DSp} (D : KnC P w K mg base (L2.CX P w) C m k sp) : KnC P w K mg base CX0 C m k (spN sp) := by
  obtain ⟨g, mc, p, F, r⟩ := D.ex
  exact ⟨g, mc, p, FnR.nox F, r⟩
section
variable {X : Cx} {k : Nat} {sp : DSp} {x m : Str} {p pos apos : Pos} {e o i : Expr} {es : List Expr} {fs : XDA} {fd : DTA} {fo fi : DTE} {C : Addr} {ps : List Str}
end
end U
set_option Elab.async false
set_option linter.all false
set_option maxRecDepth 100000
set_option maxHeartbeats 2000000
namespace VG0
open PySem PySem.Spec PyProof.Rows L2 UX0
section
variable {prog : Program} {w : World} {A : Around} {R : Result → Shared → Prop} {s : Shared} {elt t0 i0 t1 i1 : Expr} {ifs0 ifs1 : List Expr} {scope : Scope} {pos : Pos} {it acc : Value} {env : Env}
end

section
variable {X : Cx}
end
end VG0
namespace U
open PySem PySem.Spec PyProof.Rows L2 UX0
section
variable {X : Cx} {tg elt iter tg1 iter1 : Expr} {ifs ifs1 : List Expr} {scope : Scope} {own : List (Str × Nat)} {vs1 : List Nat} {pos p pos2 p2 : Pos} {di di1 : DTI} {c c1 : CT} {tt tt1 : DTT} {te : DTE}
section
variable (hc : X.calm = true) (hN : X.N.Nodup) (hi : DI X tg iter di) (ok : BlkOk X.N X.env.scope scope own) (hvs : ∀ i ∈ vs1, i ∈ own.map (·.2))
    (hg : ∀ (s : Shared) (H : Hp) (C : Addr) (cl : List (Str × Addr)) (fp : List Addr), PG (X.blk s H scope (compEnvC scope cl C X.env) fp) tg (c.tg X.K)) (ht : ∀ (s : Shared) (H : Hp) (C : Addr) (cl : List (Str × Addr)) (fp : List Addr), DTs (X.blk s H scope (compEnvC scope cl C X.env) fp) ifs tt)
    (hi1 : ∀ (s : Shared) (H : Hp) (C : Addr) (cl : List (Str × Addr)) (fp : List Addr), DI (X.blk s H scope (compEnvC scope cl C X.env) fp) tg1 iter1 di1)
    (hg1 : ∀ (s : Shared) (H : Hp) (C : Addr) (cl : List (Str × Addr)) (fp : List Addr), PG (X.blk s H scope (compEnvC scope cl C X.env) fp) tg1 (c1.tg X.K)) (ht1 : ∀ (s : Shared) (H : Hp) (C : Addr) (cl : List (Str × Addr)) (fp : List Addr), DTs (X.blk s H scope (compEnvC scope cl C X.env) fp) ifs1 tt1)
    (he : ∀ (s : Shared) (H : Hp) (C : Addr) (cl : List (Str × Addr)) (fp : List Addr), DE (X.blk s H scope (compEnvC scope cl C X.env) fp) elt te)
end
end
section
variable {X : Cx} {a e : Expr} {fa f : DTE} {pos p : Pos}
end
end U
set_option Elab.async false
set_option linter.all false
set_option maxRecDepth 100000
set_option maxHeartbeats 2000000
namespace U
open PySem PySem.Spec PyProof.Rows L2
section
variable {X : Cx}
end
/-- of a kind that is built in -/
theorem kit_mkT {K : PySem.W.Frag} {D : Addr} {T : String} {r : Bool} (h : PySem.W.kitMeta T = true) (c : PySem.W.mroIn K D (.type T) = some r) : PySem.W.kitOne K (.ref D) (.type T) = some r := by
  unfold PySem.W.kitOne PySem.W.kitCls
  rw [if_neg (by simp)]
  simp only [h, if_true]
  exact c
end U
set_option Elab.async false
set_option linter.all false
set_option maxRecDepth 100000
set_option maxHeartbeats 2000000
namespace U
open PySem PySem.Spec PyProof.Rows L2 UX0
section
variable {X : Cx}
end
end U
set_option Elab.async false
set_option linter.all false
set_option maxRecDepth 100000
set_option maxHeartbeats 2000000
namespace U
open PySem PySem.Spec PyProof.Rows L2 UZ0
section
variable {X : Cx} {pos ppos : Pos} {keys : List (Option Expr)} {values : List Expr} {value : Expr} {fs : List (Str × DTE)} {f : DTE} {x : Str} {j : Nat}
end
end U
set_option Elab.async false
set_option linter.all false
set_option maxRecDepth 100000
set_option maxHeartbeats 2000000
namespace U
open PySem PySem.Spec PyProof.Rows L2
section
variable {X : Cx}
end
end U
set_option Elab.async false
set_option linter.all false
set_option maxRecDepth 100000
set_option maxHeartbeats 2000000
namespace PySem.SeqAt
open AutoSeq1 (wpAny_loadPart')
open MeetsSeq MeetsSeq2 MeetsSeq3 SeqRoads2
section
variable {A : Around} {s : Shared}
end
end PySem.SeqAt
namespace U
open PySem PySem.Spec PyProof.Rows L2 UX0
section
variable {X : Cx}
end
end U
set_option Elab.async false
set_option linter.all false
set_option maxRecDepth 100000
set_option maxHeartbeats 2000000
namespace U
open PySem PySem.Spec PyProof.Rows L2 UX0
section
variable {X : Cx}
end
section
variable {X : Cx} {a e : Expr} {fa f : DTE} {pos p : Pos}
end
end U
set_option Elab.async false
set_option linter.all false
set_option maxRecDepth 100000
set_option maxHeartbeats 2000000
namespace PySem.SeqAt
open AutoSeq1 (wpAny_loadPart')
open MeetsSeq MeetsSeq2 MeetsSeq3 SeqRoads2
section
variable {A : Around} {s : Shared}
end
end PySem.SeqAt
namespace U
open PySem PySem.Spec PyProof.Rows L2 UX0
section
variable {X : Cx}
end
end U
set_option Elab.async false
set_option linter.all false
set_option maxRecDepth 100000
set_option maxHeartbeats 2000000
namespace HT
open PySem PySem.Spec PyProof.Rows L2
section
variable {prog : Program} {w : World} {A : Around} {E : Value → Shared → Prop} {s : Shared}
end
end HT

namespace U
open PySem PySem.Spec PyProof.Rows L2
section
variable {X : Cx}
end
end U
set_option Elab.async false
set_option linter.all false
set_option maxRecDepth 100000
set_option maxHeartbeats 2000000
namespace PySem.SeqAt
open AutoSeq1 (wpAny_loadPart')
open MeetsSeq MeetsSeq2 MeetsSeq3 SeqRoads2
section
variable {prog : Program} {w : World} {A : Around} {R : Result → Shared → Prop}
end
section
variable {prog : Program} {w : World} {A : Around} {E : Value → Shared → Prop} {s : Shared}
end
end PySem.SeqAt
namespace U
open PySem PySem.Spec PyProof.Rows L2
section
variable {X : Cx} {C : Addr} {k : Nat} {ps : List Str} {sp : DSp} {f : Str}
end
end U
set_option Elab.async false
set_option linter.all false
set_option maxRecDepth 100000
set_option maxHeartbeats 2000000
namespace U
open PySem PySem.Spec PyProof.Rows L2 LamX
/-- a def at f, its code object at c -/
structure FunC (K : PySem.W.Frag) (x : Str) (st : Stmt) (f : Addr) (fd : FuncData) (c : Addr) : Prop where
  ex : ∃ (oc : Value) (od an : Option Addr) (osl : Array (Option Value)) (kV doc pm ct : Value), fd = PySem.W.fnOf x x (defArgs st) (defBody st) (defScope st) .none kV doc pm an (.ref c) ct ∧ K.lookup f = some ⟨oc, od, .func fd, osl⟩ ∧ PySem.W.codeIn K (.ref c) x = true ∧ PySem.W.keepIn K (.ref f) = true
theorem FunC.g {K : PySem.W.Frag} {x : Str} {st : Stmt} {f : Addr} {fd : FuncData} {c : Addr} (F : FunC K x st f fd c) : Fun K x x st f fd := by
  obtain ⟨oc, od, an, osl, kV, doc, pm, ct, rfl, l, h, kp⟩ := F.ex
  exact fun_mk l h kp
end U
set_option Elab.async false
set_option linter.all false
set_option maxRecDepth 100000
set_option maxHeartbeats 2000000
namespace U
open PySem PySem.Spec PyProof.Rows L2 UX0 UZ0
section
variable {X : Cx}
end
end U
set_option Elab.async false
set_option linter.all false
set_option maxRecDepth 100000
set_option maxHeartbeats 2000000
namespace VS0
open PySem PySem.SeqAt
open AutoSeq1 (wpAny_loadPart')
open MeetsSeq MeetsSeq2 MeetsSeq3 SeqRoads2
section
variable {prog : Program} {w : World} {A : Around} {R : Result → Shared → Prop}
end
section
variable {prog : Program} {w : World} {A : Around} {E : Value → Shared → Prop} {s : Shared}
end
end VS0
namespace U
open PySem PySem.Spec PyProof.Rows L2 UX0 UZ0
section
variable {X : Cx} {o i e e2 value : Expr} {fo fi fd f fv : DTE} {pos apos cpos p : Pos}
end
section
variable {X : Cx} {C : Addr} {k : Nat} {ps : List Str} {sp : DSp}
end
end U
set_option Elab.async false
set_option linter.all false
set_option maxRecDepth 100000
set_option maxHeartbeats 2000000
namespace U
open PySem PySem.Spec PyProof.Rows L2
def gLstT (K : PySem.W.Frag) (is : List Nat) : TG := L2.gLst K is.length (setsV is)
section
variable {X : Cx} {tg elt iter : Expr} {ifs : List Expr} {scope : Scope} {own : List (Str × Nat)} {pos : Pos} {di : DTI} {is : List Nat} {tt : DTT} {te : DTE}
section
variable (hc : X.calm = true) (hN : X.N.Nodup) (hi : DI X tg iter di) (ok : BlkOk X.N X.env.scope scope own)
    (hg : ∀ (s : Shared) (H : Hp) (C : Addr) (cl : List (Str × Addr)) (fp : List Addr), PG (X.blk s H scope (compEnvC scope cl C X.env) fp) tg (gLstT X.K is)) (ht : ∀ (s : Shared) (H : Hp) (C : Addr) (cl : List (Str × Addr)) (fp : List Addr), DTs (X.blk s H scope (compEnvC scope cl C X.env) fp) ifs tt)
    (he : ∀ (s : Shared) (H : Hp) (C : Addr) (cl : List (Str × Addr)) (fp : List Addr), DE (X.blk s H scope (compEnvC scope cl C X.env) fp) elt te)
end
end
end U
set_option Elab.async false
set_option linter.all false
set_option maxRecDepth 100000
set_option maxHeartbeats 2000000
namespace L2
open PySem PySem.Spec PyProof.Rows
inductive HdsOkN (X : Cx) : List ExceptHandler → List (Value × Option Nat × (Addr → Value → Option Addr → TS)) → Prop
  | nil : HdsOkN X [] []
  | cons {x : Str} {c : Value} {ts : Addr → Value → Option Addr → TS} {b₀ : Stmt} {suite : List Stmt} {np pos' : Pos} {hds : List ExceptHandler} {l : List (Value × Option Nat × (Addr → Value → Option Addr → TS))} (hc : Names X x c)
      (hsu : ∀ (a : Addr) (oe : Obj) (cls : Value) (d : Option Addr) (pn : List (Addr × Obj)), Zc cls d oe → (∃ vs, oe.data = .fields vs) → PSs (X.suite a ((a, oe) :: pn)) (b₀ :: suite) (ts a cls d)) (r : HdsOkN X hds l) :
      HdsOkN X (.ExceptHandler (some (.Name x np)) none (b₀ :: suite) pos' :: hds) ((c, none, ts) :: l)
  | asx {x n : Str} {c : Value} {i : Nat} {ts : Addr → Value → Option Addr → TS} {b₀ : Stmt} {suite : List Stmt} {np pos' : Pos} {hds : List ExceptHandler} {l : List (Value × Option Nat × (Addr → Value → Option Addr → TS))} (hc : Names X x c)
      (hN : X.N.Nodup) (hi : X.N[i]? = some n) (hln : X.env.kindOf n = some .local)
      (hsu : ∀ (a : Addr) (oe : Obj) (cls : Value) (d : Option Addr) (pn : List (Addr × Obj)), Zc cls d oe → (∃ vs, oe.data = .fields vs) → PSs (X.suite a ((a, oe) :: pn)) (b₀ :: suite) (ts a cls d)) (r : HdsOkN X hds l) :
      HdsOkN X (.ExceptHandler (some (.Name x np)) (some n) (b₀ :: suite) pos' :: hds) ((c, some i, ts) :: l)
section
variable {X : Cx} {body : List Stmt} {h₀ : ExceptHandler} {hds : List ExceptHandler} {l : List (Value × Option Nat × (Addr → Value → Option Addr → TS))} {pos : Pos} {tb : WX → TS} {Wout : WX}
end
end L2
set_option Elab.async false
set_option linter.all false
set_option maxRecDepth 100000
set_option maxHeartbeats 4000000
namespace VV0
open PySem PySem.HandSPX PySem.Builtin PySem.Builtin.ObjectAttr
/-- the facts of a built-in base; its __new__ may be another one's (KeyError: LookupError's) -/
structure EB2 (B Bn newId initId : String) (bm : List Value) : Prop where
  ends : newId.endsWith ".__new__" = true
  owner : newId.dropRight 8 = Bn
  entry : entryFor table newId = some Builtin.«BaseException.__new__»
  quiet : newId.startsWith "lifetime." = false
  init : Slot B "__init__" initId
  initEntry : entryFor table initId = some Builtin.«BaseException.__init__»
  initSplit : splitId initId = some (B, "__init__")
  initKind : builtinKind initId = some .slot
  initRow : Manifest.signature? initId = some ⟨.positional, "*", B, .self, [⟨"args", .varPos, false⟩]⟩
  noStar : (B != "*") = true
  noStarN : (Bn != "*") = true
  newSplit : splitId newId = some (Bn, "__new__")
  newKind : builtinKind newId = some .builtinFn
  newRow : Manifest.signature? newId = some ⟨.any, Bn, Bn, .cls, [⟨"args", .varPos, false⟩, ⟨"kwargs", .varKw, false⟩]⟩
  hasB : bm.contains (.type B) = true
  hasN : bm.contains (.type Bn) = true
  noAttr : bm.contains (.type "AttributeError") = false
  noName : bm.contains (.type "NameError") = false
  canon : Manifest.canonical newId = Manifest.canonical "BaseException.__new__"
theorem EB2.of {B newId initId : String} {bm : List Value} (F : ExcBaseFacts B newId initId bm) : EB2 B B newId initId bm :=
  ⟨F.ends, F.owner, F.entry, F.quiet, F.init, F.initEntry, F.initSplit, F.initKind, F.initRow, F.noStar, F.noStar, F.newSplit, F.newKind, F.newRow, F.hasB, F.hasB, F.noAttr, F.noName, F.canon⟩
section
variable {M : Model} {A : Around} {E : Value → Shared → Prop} {h : Heap} {g : Array GenState} {d : Drawn} {t : Nat} {os : OsState}
variable {nm q : Str} {C N : Addr} {bs bm bmB : List Value} {hdct : Bool} {sn : List Str} {sub : List Value} {ab : Bool} {col : Option Bool} {dd : Option Addr} {k0 k1 k2 k3 k5 : Option Value} {B Bn newId initId : String}
theorem check_new_own (F : EB2 B Bn newId initId bmB) (hT : ∀ X : String, bm.contains (.type X) = bmB.contains (.type X)) {rest : List Value} {Q : Unit → Shared → Prop}
    (hC : h.get? C = some (excClassObj nm q C N bs bm hdct sn sub ab col dd k0 k1 k2 k3 k5 newId)) (hq : Q () ⟨h, g, d, t, os⟩) : wpAny M A (checkBuiltinCall newId ⟨.ref C :: rest, []⟩) Q E ⟨h, g, d, t, os⟩ := by
  have hcont : (Value.ref C :: bm).contains (.type Bn) = true := by rw [List.contains_cons, hT, F.hasN, Bool.or_true]
  have hstar := F.noStarN
  simp only [checkBuiltinCall, F.newKind, F.newSplit, F.newRow]
  repeat (first | refine wpAny_loadPart_at hC ?_ | (refine wpAny_isSubtype_exc hC ?_; rw [hcont]) | refine wpAny_staticBase_exc hC ?_ | refine wpAny_madeBy_exc hC ?_ | simp only [bne_self_eq_false, Bool.false_eq_true, if_false] | wp_step)
  exact hq
theorem check_init_own (F : EB2 B Bn newId initId bmB) (hT : ∀ X : String, bm.contains (.type X) = bmB.contains (.type X)) {e : Addr} {oe : Obj} {rest : List Value} {Q : Unit → Shared → Prop}
    (hC : h.get? C = some (excClassObj nm q C N bs bm hdct sn sub ab col dd k0 k1 k2 k3 k5 newId)) (he : h.get? e = some oe) (hcls : oe.cls = .ref C) (hq : Q () ⟨h, g, d, t, os⟩) :
    wpAny M A (checkBuiltinCall initId ⟨.ref e :: rest, []⟩) Q E ⟨h, g, d, t, os⟩ := by
  have hcB : (Value.ref C :: bm).contains (.type B) = true := by rw [List.contains_cons, hT, F.hasB, Bool.or_true]
  have hshort := F.noStar
  simp only [checkBuiltinCall, F.initKind, F.initSplit, F.initRow]
  repeat (first | (with_reducible refine wpAny_loadPart_at he ?_; rw [hcls]) | with_reducible refine wpAny_loadPart_at hC ?_ | (with_reducible refine wpAny_isSubtype_exc hC ?_; rw [hcB]) | wp_step)
  refine wpAny_onRaise ?_
  rw [show ∀ (a b : String) (n : Nat), Bind.check ⟨.positional, "*", B, .self, [⟨"args", .varPos, false⟩]⟩ a b n (List.map (fun x => x.fst) ({ pos := Value.ref e :: rest } : Args).kw) = pure () from
    fun a b n => check_star_args _ _ _ _ _ _]
  exact wpAny_pure hq
end

section
variable {prog : Program} {w : World} {A : Around} {E : Value → Shared → Prop} {R : Result → Shared → Prop} {h : Heap} {g : Array GenState} {d : Drawn} {t : Nat} {os : OsState}
variable {nm q : Str} {C N : Addr} {bs bm bmB : List Value} {hdct : Bool} {sn : List Str} {sub : List Value} {ab : Bool} {col : Option Bool} {dd : Option Addr} {k0 k1 k2 k3 k5 : Option Value} {B Bn newId initId : String}

theorem new_own (F : EB2 B Bn newId initId bmB) (hT : ∀ X : String, bm.contains (.type X) = bmB.contains (.type X)) {rest : List Value}
    (hC : h.get? C = some (excClassObj nm q C N bs bm hdct sn sub ab col dd k0 k1 k2 k3 k5 newId))
    (hq : R (.ok (.ret (.ref (h.objs.size + 1)))) ⟨(h.push { cls := .type "tuple", data := .seq rest.toArray }).push
      { cls := .ref C, data := .fields #[.ref h.objs.size, .none, .none, .none, .bool false, .none] }, g, d, t, os⟩) (hrest : rest.length ≤ sizeLine) :
    codeAny (model prog w) A (.builtin newId ⟨.ref C :: rest, []⟩) R ⟨h, g, d, t, os⟩ := by
  have hends := F.ends
  have hcB : (Value.ref C :: bm).contains (.type Bn) = true := by rw [List.contains_cons, hT, F.hasN, Bool.or_true]
  have hcA : (Value.ref C :: bm).contains (.type "AttributeError") = false := by rw [List.contains_cons, hT, F.noAttr]; rfl
  have hcN : (Value.ref C :: bm).contains (.type "NameError") = false := by rw [List.contains_cons, hT, F.noName]; rfl
  refine codeAny_builtinAt F.entry ?_
  unfold Builtin.«BaseException.__new__»
  refine wpAt_bind ?_
  show wpAt _ _ _ (stack >>= _) _ _ _
  refine wpAt_bind (wpAt_stack fun p below => wpAt_of_wpAny ?_)
  wp_walk
  refine wpAt_of_wpAny ?_
  rw [F.owner]
  repeat (first | with_reducible refine wpAny_madeHere_exc F.canon hC ?_ | with_reducible refine wpAny_loadPart_at hC ?_ | (with_reducible refine wpAny_isSubtype_exc hC ?_; first | rw [hcB] | rw [hcA] | rw [hcN]) | wp_step)
  show R _ _
  rw [Heap.size_push]
  exact hq

theorem type_call_own (F : EB2 B Bn newId initId bmB) (hT : ∀ X : String, bm.contains (.type X) = bmB.contains (.type X)) {rest : List Value} {fI : Addr} {Q : Fin → Shared → Prop}
    (hC : h.get? C = some (excClassObj nm q C N bs bm hdct sn sub ab col dd k0 k1 k2 k3 k5 newId))
    (hi : W.Looks (model prog w) h (typeLookup (.ref C) "__init__") (some (.ref fI))) (hb : ∀ self, W.Looks (model prog w) h (bindSpecial (.ref fI) self) (.ref fI, [self])) (hrest : rest.length ≤ sizeLine)
    (hq : codeAny (model prog w) A (.call (.ref fI) ⟨.ref (h.objs.size + 1) :: rest, []⟩)
      (fun r s' => match r with | .ok (.ret v) => v = .none ∧ Q (.done (.ret (.ref (h.objs.size + 1)))) s' | .ok _ => False | .error e => E e s')
      ⟨(h.push (W.kdv_tup rest)).push (excO C h.objs.size), g, d, t, os⟩) :
    wpAny (model prog w) A (Builtin.«type.__call__» ⟨.ref C :: rest, []⟩) Q E ⟨h, g, d, t, os⟩ := by
  repeat (first | with_reducible refine wpAny_loadPart_at hC ?_ | with_reducible refine wpAny_madeBy_exc hC ?_ | wp_step)
  refine codeAny_call_builtin_code (Code.quiet_builtin _ F.quiet) (check_new_own F hT hC ?_)
  refine new_own F hT hC ?_ hrest
  show wpAny _ _ _ _ _ _
  have k : ∀ b o, h.get? b = some o → ((h.push (W.kdv_tup rest)).push (excO C h.objs.size)).get? b = some o := fun b o e => Heap.get?_push_of_some _ (Heap.get?_push_of_some _ e)
  have hC₁ := k _ _ hC
  have hget : ((h.push (W.kdv_tup rest)).push (excO C h.objs.size)).get? (h.objs.size + 1) = some (excO C h.objs.size) := by heap_get
  have hcC : (Value.ref C :: bm).contains (.ref C) = true := by simp
  have i1 := hi.keeps k
  have b1 := (hb (.ref (h.objs.size + 1))).keeps k
  unfold isInstance
  repeat (first | with_reducible refine wpAny_loadPart_at hget ?_ | (with_reducible refine wpAny_isSubtype_exc hC₁ ?_; rw [hcC]) | wp_step)
  show wpAny _ _ (typeLookup (.ref C) _) _ _ _
  refine i1.at ?_
  refine wpAny_holding (wpAny_bind (b1.at ?_))
  refine wpAny_bind (wpAny_call (codeAny_mono hq fun r s' z => ?_))
  rcases r with e | (v | _ | _ | _) <;> first | exact z | exact z.elim | skip
  obtain ⟨rfl, z⟩ := z
  first
    | exact wpAny_pure (wpAny_pure z)
    | (wp_walk; exact z)

theorem call_own (F : EB2 B Bn newId initId bmB) (hT : ∀ X : String, bm.contains (.type X) = bmB.contains (.type X)) {rest : List Value} {fI : Addr}
    (hC : h.get? C = some (excClassObj nm q C N bs bm hdct sn sub ab col dd k0 k1 k2 k3 k5 newId))
    (hi : W.Looks (model prog w) h (typeLookup (.ref C) "__init__") (some (.ref fI))) (hb : ∀ self, W.Looks (model prog w) h (bindSpecial (.ref fI) self) (.ref fI, [self])) (hrest : rest.length ≤ sizeLine)
    (hq : codeAny (model prog w) (A.under (.builtin "type.__call__" ⟨.ref C :: rest, []⟩)) (.call (.ref fI) ⟨.ref (h.objs.size + 1) :: rest, []⟩) (W.InitBack (h.objs.size + 1) R)
      ⟨(h.push (W.kdv_tup rest)).push (excO C h.objs.size), g, d, t, os⟩) :
    codeAny (model prog w) A (.call (.ref C) ⟨rest, []⟩) R ⟨h, g, d, t, os⟩ := by
  have f1 := tc_lookup
  have f2 := tc_bind (.ref C)
  have hTy : (⟨h, g, d, t, os⟩ : Shared).TypeIs (.ref C) "type" := ⟨_, hC, rfl⟩
  refine codeAny_of_tree ?_
  show wpAny _ _ (callAny (.ref C) _) _ _ _
  repeat (any_goals (first | assumption | with_reducible refine wpAny_loadPart_at hC ?_ | wp_step))
  refine ⟨rfl, ?_⟩
  refine codeAny_call_builtin_at (Code.quiet_builtin _ (by decide +kernel)) entry_typeCall (wpAny_check_type_call_sub hC (type_call_own F hT hC hi hb hrest ?_))
  refine codeAny_mono hq fun r s' z => ?_
  rcases r with e | (v | _ | _ | _) <;> exact z

/-- ValueError.__init__(e, ..): the args are laid anew -/
theorem init_base (F : EB2 B Bn newId initId bmB) (hT : ∀ X : String, bm.contains (.type X) = bmB.contains (.type X)) {e t0 : Addr} {rest : List Value}
    (hC : h.get? C = some (excClassObj nm q C N bs bm hdct sn sub ab col dd k0 k1 k2 k3 k5 newId)) (he : h.get? e = some (excO C t0)) (hrest : rest.length ≤ sizeLine)
    (hq : ∀ h' t1, (∀ b o, b ≠ e → h.get? b = some o → h'.get? b = some o) → h'.get? e = some (excO C t1) → R (.ok (.ret .none)) ⟨h', g, d, t, os⟩) :
    codeAny (model prog w) A (.call (.builtin initId) ⟨.ref e :: rest, []⟩) R ⟨h, g, d, t, os⟩ := by
  refine codeAny_call_builtin F.init.plain F.initEntry (check_init_own F hT hC he rfl ?_)
  wp_walk
  refine hq _ h.objs.size (fun b o hb ho => ?_) ?_
  · rw [Heap.get?_update_other _ _ (Ne.symm hb)]
    exact Heap.get?_push_of_some _ ho
  · rw [Heap.get?_update_self _ (Heap.get?_push_of_some _ he) rfl]
    rfl
end

structure TlOk (tl : List Value) : Prop where
  pass : ∀ self, refuseLoop self "__setattr__" tl = pure ()
  obj : tl.contains (.type "object") = true
section
variable {prog : Program} {w : World} {A : Around} {E : Value → Shared → Prop} {R : Result → Shared → Prop} {hp : Heap} {g : Array GenState} {d : Drawn} {t : Nat} {os : OsState}
theorem exc_osaT {tl : List Value} (T : TlOk tl) {K : W.Frag} {name : Str} {tk : Tok} {v : Value} {x C : Addr} {fv : Array Value} {cd : ClassData}
    (X : K.In hp) (hx : hp.get? x = some { cls := .ref C, data := .fields fv }) (hcd : W.clsIn K C = some cd) (hm : cd.mro = .ref C :: tl) (hh : cd.hasDict = true) (ha : W.findIn K (.ref C) name = some none)
    (hq : ∀ h' tk' dx, (∀ b o, b ≠ x → hp.get? b = some o → h'.get? b = some o) → hp.objs.size ≤ dx → dx ≠ x → h'.get? x = some { cls := .ref C, dict := some dx, data := .fields fv } →
      h'.Ns1 dx (fun y => if y = name then some v else none) → R (.ok (.ret .none)) ⟨h', g, d, tk', os⟩) :
    codeAny (model prog w) A (.call (.builtin "object.__setattr__") ⟨[.ref x, .str name tk, v], []⟩) R ⟨hp, g, d, t, os⟩ := by
  have I : W.InstAt hp x { cls := .ref C, data := .fields fv } C none := ⟨hx, rfl, rfl, trivial⟩
  have SF := F.store_object
  have ne : cd.mro.isEmpty = false := by rw [hm]; rfl
  have hob : cd.mro.contains (.type "object") = true := by rw [hm, List.contains_cons, T.obj, Bool.or_true]
  have hxs : x ≠ hp.objs.size := Nat.ne_of_lt (Heap.lt_size hx)
  have sub : W.Looks (model prog w) hp (isInstance (.ref x) (.type "object")) true := I.type.andThen (W.looks_mroIn X (by unfold W.mroIn; rw [hcd, Option.bind_some, if_neg (by rw [ne]; decide), hob]))
  refine codeAny_call_builtin SF.slot.plain SF.entry (@W.check_slot (model prog w) _ _ ⟨hp, g, d, t, os⟩ "object.__setattr__" "object" "__setattr__" (.ref x) [.str name tk, v] [] _ SF.kind SF.split sub (SF.args (.ref x) (.str name tk) v) ?_)
  have hmr : W.Looks (model prog w) hp (mroOf (.ref C)) cd.mro := (W.looks_clsIn X hcd).andThen .now
  have L3 : W.Looks (model prog w) hp (storeTaker? none) none := .now
  have hcls : W.Looks (model prog w) hp (classData C) cd := W.looks_clsIn X hcd
  rw [W.osa_eq, refuse_eq]
  refine wpAny_bind (wpAny_bind (I.type.at (wpAny_bind (hmr.at ?_))))
  rw [hm, refuseLoop_ref, T.pass]
  refine wpAny_pure (wpAny_bind (I.type.at (wpAny_bind ((W.looks_findIn X ha).at (wpAny_bind (L3.at ?_))))))
  show wpAny _ _ (storeInOwnDict (.ref x) (.ref C) (.str name tk) name v false) _ _ _
  obtain ⟨nm, bs, mro, ns, qn, hd, sn, sb, ab, col, del⟩ := cd
  dsimp only at hh
  subst hh
  unfold storeInOwnDict ownDictForStores
  repeat (first | with_reducible refine store_in_new ?_ ?_ | with_reducible refine wpAny_loadPart_at hx ?_ | with_reducible refine hcls.at ?_ | wp_step)
  · exact ⟨_, #[], _, (Heap.get?_update_ne _ _ _ _ hxs.symm).trans (Heap.get?_push_at rfl rfl), rfl, fun e he => absurd he (by simp), fun _ => rfl⟩
  · intro h' tk' hn' hs
    have hx₁ : (hp.push { cls := .type "dict", data := .dict #[] }).get? x = some { cls := .ref C, data := .fields fv } := Heap.get?_push_of_some _ hx
    refine hq h' tk' hp.objs.size (fun b o hb ho => ?_) (Nat.le_refl _) hxs.symm ?_ hn'
    · exact (hs.2 b (Nat.ne_of_lt (Heap.lt_size ho))).trans ((Heap.get?_update_ne _ _ _ _ hb).trans (Heap.get?_push_of_some _ ho))
    · exact (hs.2 x hxs).trans (Heap.get?_update_self _ hx₁ rfl)
end
end VV0
namespace L2
open PySem PySem.Spec PyProof.Rows
structure OexT (K : PySem.W.Frag) (C : Addr) (B newId initId : String) (tl : List Value) : Prop where
  base : ∃ Bn, VV0.EB2 B Bn newId initId tl
  tlok : VV0.TlOk tl
  cls : ∃ nm q N bs sn sub ab col dd k0 k1 k2 k3 k5, K.lookup C = some (excClassObj nm q C N bs tl true sn sub ab col dd k0 k1 k2 k3 k5 newId)
  sa : PySem.W.findIn K (.ref C) "__setattr__" = some (some (.builtin "object.__setattr__"))
  exC : PySem.W.subIn K (.ref C) (.type "BaseException") = some true
  tyC : PySem.W.typeIn K (.ref C) = some (.type "type")
  kC : PySem.W.keepIn K (.ref C) = true
section
variable {X : Cx} {pins : List (Addr × Obj)} {σ : St} {H : Hp} {s : Shared} {a C dx : Addr} {f : Str} {y : V} {u : Value} {fs : List (Str × V)} {Q : Unit → Shared → Prop} {E : Value → Shared → Prop} {A : Around} {B newId initId : String} {tl : List Value}
theorem ost_newT (T : OexT X.K C B newId initId tl) (I : Inv X pins σ H s) (e : H a = some (exo a C none)) (hno : PySem.W.findIn X.K (.ref C) f = some none) (ry : RelV y u)
    (h : ∀ dx s', H dx = none → dx ≠ a → Inv X pins σ (upd (upd H dx (exd dx [(f, y)])) a (exo a C (some dx))) s' → Q () s') : wpAny (model X.prog X.w) A (setAttr (.ref a) f u) Q E s := by
  obtain ⟨nm, q, N, bs, sn, sub, ab, col, dd, k0, k1, k2, k3, k5, hC⟩ := T.cls
  have hcl : PySem.W.clsIn X.K C = some { name := nm, bases := bs, mro := .ref C :: tl, ns := N, qualname := q, hasDict := true, slotNames := sn, subclasses := sub, abstract := ab, collection := col, hasDel := false } := by unfold PySem.W.clsIn; rw [hC] <;> rfl
  obtain ⟨t1, ho⟩ := exo_at I.hok e
  obtain ⟨hp, g, d, t, os⟩ := s
  refine PySem.W.set_plain I.kIn (ox := { cls := .ref C, dict := none, data := .fields #[.ref t1, .none, .none, .none, .bool false, .none] }) (od := none) ⟨ho, rfl, rfl, trivial⟩ T.sa ?_
  refine VV0.exc_osaT T.tlok I.kIn ho hcl rfl rfl hno (fun h' tk' dx k dn dne hx hn => ?_)
  have hnd : H dx = none := I.hok.fresh dn
  have nd : ∀ {b : Addr} {o : Obj}, hp.get? b = some o → b ≠ dx := fun {b o} q => Nat.ne_of_lt (Nat.lt_of_lt_of_le (Heap.lt_size q) dn)
  have na : ∀ {b : Addr}, H b = none → b ≠ a := fun {b} n z => by
    rw [z, e] at n
    cases n
  have Un1 : Un X.fs [] H (upd (upd H dx (exd dx [(f, y)])) a (exo a C (some dx))) hp h' := {
    keep := fun b o q n _ _ => k b o (na n) q
    slot := fun b o q n _ _ => ⟨o.slots, k b o (na n) q⟩
    free := fun b o q n _ => by rw [upd_ne (na n), upd_ne (nd q)]; exact n
    there := fun b o q _ => by
      by_cases hb : b = a
      · exact ⟨_, by rw [hb]; exact hx⟩
      · exact ⟨o, k b o hb q⟩
    tups := fun b xs q => by rw [upd_ne (at_ne e q exo_tup), upd_ne (ne_of_none q hnd)]; exact q
    frzs := fun b o v q => by rw [upd_ne (at_ne e q exo_frz), upd_ne (ne_of_none q hnd)]; exact q
    tbls := fun b ps q => ⟨#[], by rw [upd_ne (at_ne e q exo_tbl), upd_ne (ne_of_none q hnd), q]; simp⟩ }
  refine h dx _ hnd dne (I.un (t' := tk') Un1 fun b o q => ?_)
  by_cases hb : b = a
  · subst hb
    rw [upd_same] at q
    cases q
    exact exo_ok hx
  · rw [upd_ne hb] at q
    by_cases hd : b = dx
    · subst hd
      rw [upd_same] at q
      cases q
      exact exd_ok hn (relO_put (fs := []) ry fun g => True.intro)
    · rw [upd_ne hd] at q
      exact (I.hok b o q).stay (fun c v hc z => k c v (by
          rcases hc with hc | hc
          · rw [hc]
            exact hb
          · exact at_ne e hc exo_own) z)
        (fun c hc => by rw [upd_ne (at_ne e hc exo_own), upd_ne (ne_of_none hc hnd)]; exact hc) (fun c xs hc => by rw [upd_ne (at_ne e hc exo_tup), upd_ne (ne_of_none hc hnd)]; exact hc)
theorem oinit_okT {us : List Value} {Q : Value → Shared → Prop} (T : OexT X.K C B newId initId tl) (I : Inv X pins σ H s) (e : H a = some (exo a C none)) (hl : us.length ≤ sizeLine) (h : ∀ s', Inv X pins σ H s' → Q .none s') :
    wpAny (model X.prog X.w) A (call (.builtin initId) (.ref a :: us)) Q E s := by
  obtain ⟨nm, q, N, bs, sn, sub, ab, col, dd, k0, k1, k2, k3, k5, hC⟩ := T.cls
  obtain ⟨t1, ho⟩ := exo_at I.hok e
  obtain ⟨hp, g, d, t, os⟩ := s
  refine wpAny_call (VV0.init_base T.base.choose_spec (fun _ => rfl) (I.kIn _ _ hC) ho hl fun h' t2 k hx => ?_)
  have J := I.write (t' := t) (x := a) (e := a) (o := exo a C none) (by rw [e]; exact True.intro) (.inl rfl) k ⟨_, hx⟩ (exo_ok hx)
  have eu : upd H a (exo a C none) = H := by
    funext b
    by_cases hb : b = a
    · rw [hb, upd_same, e]
    · rw [upd_ne hb]
  rw [eu] at J
  exact h _ J
end
def tVeT (K : PySem.W.Frag) (B newId initId : String) (tl : List Value) (ta : TA) : TE := fun σ H Q => ta σ H fun vs H1 => ∃ (a C : Addr) (ws : List V), vs = .ref a :: ws ∧ ws.length ≤ 1000 ∧ OexT K C B newId initId tl ∧ H1 a = some (exo a C none) ∧ Q .non H1
def tOstT (K : PySem.W.Frag) (B newId initId : String) (tl : List Value) (f : Str) (to te : TE) : TS := fun D σ H => te σ H fun y H1 => to σ H1 fun x H2 => ∃ a C : Addr, x = .ref a ∧ OexT K C B newId initId tl ∧ PySem.W.findIn K (.ref C) f = some none ∧
  (H2 a = some (exo a C none) ∧ ∀ dx, H2 dx = none → dx ≠ a → D.nx σ (upd (upd H2 dx (exd dx [(f, y)])) a (exo a C (some dx))))
section
variable {X : Cx} {o e : Expr} {es : List Expr} {to te : TE} {ta : TA} {f : Str} {p p' p1 p2 pos : Pos} {B newId initId : String} {tl : List Value}
theorem pe_binit {pl : Sem Bool} {nB : Str} (hg : Gl X nB) (hm : X.mg nB = none) (hbt : bootBuiltins nB = some (.type B)) (hn1 : nB ≠ "__name__") (hn2 : (nB == ("__debug__" : Str)) = false) (hty : typeOf (.type B) = pure (.type "type")) (vV : PySem.W.findCls X.K (.type B) (.type "type") "__init__" = some (.val (.builtin initId))) (hst : PySem.Manifest.isStub B = false) (hhi : PySem.W.handedIn (Value.builtin initId) = true) (ha : PA X (e :: es) ta)
    (hc : eval (.Call (.Attribute (.Name nB p1) "__init__" p2) (e :: es) [] pos) X.env = (do
      let ov ← eval (.Name nB p1) X.env
      standAt p2.atName
      let (f, first) ← holding [ov] (getMethod ov "__init__" pl)
      callWith pos f first (backTo pos (starEach (e :: es) X.env)) (backToKw pos (keywordEach [] X.env))) := by rfl)
    (he : starEach (e :: es) X.env = (false, eval e X.env) :: starEach es X.env := by rfl) (hpl : (backTo pos (starEach es X.env)).any (·.1) = false := by rfl) :
    PE X (.Call (.Attribute (.Name nB p1) "__init__" p2) (e :: es) [] pos) (tVeT X.K B newId initId tl ta) := by
  refine ⟨fun pins s σ H Q I h => ?_⟩
  refine PySem.W.methodCall_KW (ld_blt I hg hm hbt ?_ hn1 hn2) hc
  obtain ⟨m, fr⟩ := I.fr
  refine PySem.W.method_type fr I.ok.mod.kin hty hst vV hhi ?_
  show wpAny _ _ (callWith pos (Value.builtin initId) [] (backTo pos (starEach (e :: es) X.env)) []) _ _ _
  refine PyProof.Rows.callWith_method1 (thn (ha.run pos pins _ σ H _ (I.tok _) h) fun us s1 ⟨vs, H1, I1, r1, a, C, ws, ev, hl, T, ea, q⟩ => ?_) he hpl
  subst ev
  cases r1 with
  | @cons _ u0 _ ur ra rw' =>
    obtain rfl : u0 = Value.ref a := ra
    have hlen : ur.length ≤ sizeLine := by
      rw [← Paired.length rw', sizeLine_eq]
      omega
    exact oinit_okT T I1 ea hlen fun s' J => ⟨.non, H1, J, rfl, q⟩
theorem ps_ostT (ho : PE X o to) (he : PE X e te) (hs : swapsWith e (some (.Attribute o f p')) pos.line X.env = pure false := by rfl) : PS X (.Assign [.Attribute o f p'] e pos) (tOstT X.K B newId initId tl f to te) := by
  refine ⟨fun pins s σ H D I h => ?_⟩
  refine plainObj_wpAny_Assign_Attribute (thn (he.run pins s σ H _ I h) fun v s1 ⟨y, H1, I1, r1, q1⟩ => thn (ho.run pins s1 σ H1 _ I1 q1) fun u s2 ⟨x, H2, I2, r2, a, C, ex, T, hno, q⟩ => ?_) hs
  subst ex
  obtain rfl : u = Value.ref a := r2
  obtain ⟨ea, q⟩ := q
  exact ost_newT T I2 ea hno r1 fun dx s' n ne J => ⟨σ, _, J, q dx n ne⟩
theorem pmk_oexT {CX : CXT} {x : Str} {C fI : Addr} {k : Nat} {fd : FuncData} {ps : List Str} {sp : Sp} {ds : List Value} {dvs : List V} (T : OexT X.K C B newId initId tl) (iC : PySem.W.findIn X.K (.ref C) "__init__" = some (some (.ref fI))) (tI : PySem.W.typeIn X.K (.ref fI) = some (.type "function"))
    (F1 : FnOk X.prog X.w X.K X.mg X.base CX k fI fd ps sp) (hr : Room (k + 1) X.A) (hb : Binds X.K fd ps ds) (hd : Vals dvs ds) (hx : Passes CX X (fun _ _ _ => False)) (hg : Gl X x) (hm : X.mg x = some (.ref C)) (ha : PA X (e :: es) ta)
    (hdb : (x == ("__debug__" : Str)) = false := by decide) (he : starEach (e :: es) X.env = (false, eval e X.env) :: starEach es X.env := by rfl) (hpl : (backTo pos (starEach es X.env)).any (·.1) = false := by rfl) :
    PMk X (.Call (.Name x p) (e :: es) [] pos) (tMkO C sp dvs ta) := by
  intro pins s σ H Q I h
  obtain ⟨nm, q, N, bs, sn, sub, ab, col, dd, k0, k1, k2, k3, k5, hC⟩ := T.cls
  refine wpAny_Call_Name_kw (ld_glob I hg hm ?_ hdb)
  refine PySem.W.callWith_K (h₀ := X.base) I.ok.mod.kin T.kC (thn (ha.run pos pins s σ H _ I h) fun us s1 ⟨vs, H1, I1, r1, hz, q1⟩ => ⟨I1.kIn, ?_⟩) he hpl
  show wpAny _ _ (call (.ref C) us) _ _ _
  obtain ⟨hp, g, dr, tk, os⟩ := s1
  have hsz : hp.objs.size ≤ hp.objs.size + 1 := Nat.le_succ _
  have hn : H1 (hp.objs.size + 1) = none := I1.hok.fresh hsz
  have hq := q1 (hp.objs.size + 1) hn
  have kk : ∀ b o, hp.get? b = some o → ((hp.push (PySem.W.kdv_tup us)).push (PySem.HandSPX.excO C hp.objs.size)).get? b = some o := fun b o e => Heap.get?_push_of_some _ (Heap.get?_push_of_some _ e)
  have hget : ((hp.push (PySem.W.kdv_tup us)).push (PySem.HandSPX.excO C hp.objs.size)).get? (hp.objs.size + 1) = some (PySem.HandSPX.excO C hp.objs.size) := by heap_get
  have I2 : Inv X pins σ (upd H1 (hp.objs.size + 1) (exo (hp.objs.size + 1) C none)) ⟨(hp.push (PySem.W.kdv_tup us)).push (PySem.HandSPX.excO C hp.objs.size), g, dr, tk, os⟩ :=
    I1.laid (t' := tk) (a := hp.objs.size + 1) (o := exo (hp.objs.size + 1) C none) (h' := (hp.push (PySem.W.kdv_tup us)).push (PySem.HandSPX.excO C hp.objs.size)) kk hsz (exo_ok hget)
  have r2 : Vals (V.ref (hp.objs.size + 1) :: (vs ++ dvs)) (Value.ref (hp.objs.size + 1) :: (us ++ ds)) := .cons rfl (r1.append hd)
  have hl : (Value.ref (hp.objs.size + 1) :: us ++ ds).length = ps.length := by
    have e := r2.length
    rw [F1.len _ _ _ _ hq] at e
    exact e.symm
  have hus : us.length ≤ sizeLine := by
    rw [← Paired.length r1, sizeLine_eq]
    omega
  refine wpAny_call (VV0.call_own T.base.choose_spec (fun _ => rfl) (I1.kIn _ _ hC) (PySem.W.looks_findIn I1.kIn iC) (fun self => PySem.W.bind_fn I1.kIn self tI) hus
    (codeAny_mono (F1.run _ X.stack _ _ ⟨Value.ref (hp.objs.size + 1) :: us, []⟩ (Value.ref (hp.objs.size + 1) :: (us ++ ds)) _ _ (fun _ _ _ => False) (hr.make C us []) (I2.env0.make C us []) (hb _ (Value.ref (hp.objs.size + 1) :: us) I2.kIn hl) r2 hq) fun r s' hq' => ?_))
  cases r with
  | error er => exact hx pins σ _ _ er s' I2 hq'
  | ok fl =>
    cases fl with
    | ret u =>
      obtain ⟨v, H2, os2, bare2, un2, hok2, rv, ev, d, fs, ea, ed, hd1, q2⟩ := hq'
      subst ev
      obtain ⟨h2, g2, d2, t2, os'⟩ := s'
      exact ⟨rv, mk_end (raises_own T.exC T.tyC) I1 hsz kk un2 hok2 os2 bare2 ea ed hd1 q2⟩
    | next => exact False.elim hq'
    | brk => exact False.elim hq'
    | cont => exact False.elim hq'
end
end L2
namespace L2
open PySem PySem.Spec PyProof.Rows
/-- the promise of an own __init__(self, x): B.__init__(self, x); self.f = x -/
def spErr (C : Addr) (f : Str) : Sp := fun vs H Q _ => ∃ (a : Addr) (v : V), vs = [.ref a, v] ∧ H a = some (exo a C none) ∧ ∀ dx, H dx = none → dx ≠ a → Q .non (upd (upd H dx (exd dx [(f, v)])) a (exo a C (some dx)))
end L2
namespace U
open PySem PySem.Spec PyProof.Rows L2
end U
namespace U
open PySem PySem.Spec PyProof.Rows L2
section
variable {X : Cx} {B newId initId : String} {tl : List Value} {C fI : Addr} {k : Nat} {fd : FuncData} {x f : Str} {e : Expr} {fe : DTE} {p pos pos' : Pos}
end
end U
set_option maxRecDepth 100000
namespace VW0
open PySem PySem.F PySem.Builtin PySem.Builtin.ObjectAttr
theorem base_KeyError : VV0.EB2 "KeyError" "LookupError" "LookupError.__new__" "KeyError.__init__" [.type "KeyError", .type "LookupError", .type "Exception", .type "BaseException", .type "object"] where
  ends := excCall_LookupError.ends
  owner := excCall_LookupError.owner
  entry := excCall_LookupError.entry
  quiet := excCall_LookupError.quiet
  init := .of (owner := "KeyError") (n := "__init__") (by rw [typeLookup_type, builtinLookup_eq_fast]; kernel_rfl) (by decide +kernel) (by decide +kernel) (by decide +kernel)
    (by first | exact .inl (by decide +kernel) | exact .inr (by decide +kernel)) (by rw [isSubtype_type]; kernel_rfl)
  initEntry := entryFor_alias (id' := "BaseException.__init__") (by rw [fastTable_eq_tree]; kernel_rfl) (by first | rfl | decide +kernel) (by decide +kernel) (by rw [fastTable_eq_tree]; kernel_rfl)
  initSplit := by kernel_rfl
  initKind := by kernel_rfl
  initRow := by kernel_rfl
  noStar := by decide +kernel
  noStarN := by decide +kernel
  newSplit := excBase_LookupError.newSplit
  newKind := excBase_LookupError.newKind
  newRow := excBase_LookupError.newRow
  hasB := by decide +kernel
  hasN := by decide +kernel
  noAttr := by decide +kernel
  noName := by decide +kernel
  canon := by decide +kernel
structure Passes (tl : List Value) : Prop where
  passes : ∀ self, refuseLoop self "__setattr__" tl = pure ()
theorem store_KeyError : Passes [.type "KeyError", .type "LookupError", .type "Exception", .type "BaseException", .type "object"] where
  passes := fun self => by kernel_rfl
end VW0
set_option Elab.async false
set_option linter.all false
set_option maxRecDepth 100000
set_option maxHeartbeats 2000000
namespace U
open PySem PySem.Spec PyProof.Rows L2
abbrev Th := Addr → Value → Option Addr → DTS
inductive HdsD2 (X : Cx) : List ExceptHandler → List (Value × Option Nat × Th) → Prop
  | nil : HdsD2 X [] []
  | cons {x : Str} {c : Value} {th : Th} {b₀ : Stmt} {suite : List Stmt} {np pos' : Pos} {hds : List ExceptHandler} {l : List (Value × Option Nat × Th)} (hc : Names X x c)
      (hsu : ∀ (a : Addr) (oe : Obj) (cls : Value) (d : Option Addr) (pn : List (Addr × Obj)), Zc cls d oe → (∃ vs, oe.data = .fields vs) → DB (X.suite a ((a, oe) :: pn)) (b₀ :: suite) (th a cls d)) (r : HdsD2 X hds l) :
      HdsD2 X (.ExceptHandler (some (.Name x np)) none (b₀ :: suite) pos' :: hds) ((c, none, th) :: l)
  | asx {x n : Str} {c : Value} {i : Nat} {th : Th} {b₀ : Stmt} {suite : List Stmt} {np pos' : Pos} {hds : List ExceptHandler} {l : List (Value × Option Nat × Th)} (hc : Names X x c) (hN : X.N.Nodup) (hi : X.N[i]? = some n) (hln : X.env.kindOf n = some .local)
      (hsu : ∀ (a : Addr) (oe : Obj) (cls : Value) (d : Option Addr) (pn : List (Addr × Obj)), Zc cls d oe → (∃ vs, oe.data = .fields vs) → DB (X.suite a ((a, oe) :: pn)) (b₀ :: suite) (th a cls d)) (r : HdsD2 X hds l) :
      HdsD2 X (.ExceptHandler (some (.Name x np)) (some n) (b₀ :: suite) pos' :: hds) ((c, some i, th) :: l)
def upH2 (K : PySem.W.Frag) (l : List (Value × Option Nat × Th)) : List (Value × Option Nat × (Addr → Value → Option Addr → TS)) := l.map fun p => (p.1, p.2.1, fun a cls d => LS K (fun _ _ _ => False) (p.2.2 a cls d))
theorem HdsD2.ok {X : Cx} {hds : List ExceptHandler} {l : List (Value × Option Nat × Th)} (h : HdsD2 X hds l) : HdsOkN X hds (upH2 X.K l) := by
  induction h with
  | nil => exact .nil
  | cons hc hsu r ih => exact .cons hc (fun a oe cls d pn z v => pss_imp (hsu a oe cls d pn z v) fun D σ H q => ls_E (fun _ _ _ z => z.elim) q) ih
  | asx hc hN hi hln hsu r ih => exact .asx hc hN hi hln (fun a oe cls d pn z v => pss_imp (hsu a oe cls d pn z v) fun D σ H q => ls_E (fun _ _ _ z => z.elim) q) ih
end U
namespace U
open PySem PySem.Spec PyProof.Rows L2
end U
namespace U
open PySem PySem.Spec PyProof.Rows L2
theorem RF.lk {K : PySem.W.Frag} {W : Addr → Prop} {H : Hp} {f : Str} {y : Da} : ∀ {vs : List (Str × V)} {fs : List (Str × Da)}, RF K W H vs fs → fs.lookup f = some y → ∃ v, vs.lookup f = some v ∧ RD K W H v y
  | _, _, .nil, h => nomatch h
  | _, _, .cons (f := g) r rr, h => by
    rw [List.lookup_cons] at h ⊢
    cases e : f == g with
    | true => rw [e] at h; cases h; exact ⟨_, rfl, r⟩
    | false => rw [e] at h; exact RF.lk rr h
end U
set_option Elab.async false
set_option linter.all false
set_option maxRecDepth 100000
set_option maxHeartbeats 4000000
namespace L2
open PySem PySem.Spec PyProof.Rows
/-- a promise of a def that is called where nothing guards the stack -/
structure FnOkG (P : Program) (w : World) (K : PySem.W.Frag) (mg : Str → Option Value) (base : Heap) (CX : CXT) (k : Nat) (f : Addr) (fd : FuncData) (ps : List Str) (sp : Sp) : Prop where
  len : ∀ vs H Q E, sp vs H Q E → vs.length = ps.length
  run : ∀ (A : Around) (outer : List Env) (s : Shared) (H : Hp) (args : Args) (us : List Value) (vs : List V) (Q : VK) (E : XK), A.guards = some [] → Room k A → Env0 P w K mg base A outer s H → BindsTo s fd args (ps.zip us) → Vals vs us → sp vs H Q E →
    codeAny (model P w) A (.call (.ref f) args) (CR CX outer P w H s Q E) s
theorem FnOk.g {P : Program} {w : World} {K : PySem.W.Frag} {mg : Str → Option Value} {base : Heap} {CX : CXT} {k : Nat} {f : Addr} {fd : FuncData} {ps : List Str} {sp : Sp} (F : FnOk P w K mg base CX k f fd ps sp) : FnOkG P w K mg base CX k f fd ps sp :=
  ⟨F.len, fun A outer s H args us vs Q E _ hr => F.run A outer s H args us vs Q E hr⟩
theorem fn_ofG {CX : CXT} {P : Program} {w : World} {K : PySem.W.Frag} {mg : Str → Option Value} {base : Heap} {k : Nat} {f : Addr} {name qual : Str} {params : Arguments} {body : List Stmt} {scope : Scope} {dV kV doc pm cdv ct oc : Value} {an od : Option Addr}
    {osl : Array (Option Value)} {N ps : List Str} {sp : Sp} (lk : K.lookup f = some ⟨oc, od, .func (PySem.W.fnOf name qual params body scope dV kV doc pm an cdv ct), osl⟩) (hcd : PySem.W.codeIn K cdv qual = true) (S : FnScope N ps scope)
    (len : ∀ vs H Q E, sp vs H Q E → vs.length = ps.length)
    (hbody : ∀ (A : Around) (outer : List Env) (s : Shared) (H : Hp) (vs : List V) (Q : VK) (E : XK), A.guards = some [] → Room k (A.deeper (envOfC qual scope s.heap.objs.size f cdv)) → sp vs H Q E →
      ∃ t, PSs (cxOf CX P w K mg base N qual scope f cdv A outer s H E) body t ∧ t { nx := fun _ H' => Q .non H', rt := Q } (start N vs) H) :
    FnOkG P w K mg base CX (k + 1) f (PySem.W.fnOf name qual params body scope dV kV doc pm an cdv ct) ps sp := by
  refine ⟨len, fun A outer s H args us vs Q E hgd hr e0 hb r hsp => ?_⟩
  have hl := len _ _ _ _ hsp
  have KX : K.In s.heap := e0.mod.kin.keeps fun b o e => (e0.bs b o e).1
  have lim : s.heap.NoLimit := e0.mod.nolimit.keeps fun b o e => (e0.bs b o e).1
  have hkind : ∀ y ∈ ps.zip us, scope.names.lookup y.1 = some .local ∨ (scope.names.lookup y.1 = some .cell ∧ ((cellsFrom (s.heap.objs.size + 1) scope.names []).lookup y.1).isSome = true) := fun ⟨n, v⟩ hy => by
    rcases S.par n (List.of_mem_zip hy).1 with q | q
    · exact .inl q
    · exact .inr ⟨q, PySem.W.cellsFrom_some _ _ _ (.inl q)⟩
  refine codeAny_call_function hr.depth (KX _ _ lk) rfl S.co S.gen rfl (PySem.W.codeRec_of KX hcd) (hb _ _ _ _ ?_)
  refine wpAny_newFunctionEnv_cells S.kind hkind fun env he s1 x => ?_
  subst he
  refine ⟨lim.keeps x.toInCall.keep, codeAny_func ?_⟩
  obtain ⟨t, ht, hq⟩ := hbody A outer s H vs Q E hgd (hr.deeper _) hsp
  have I : Inv (cxOf CX P w K mg base N qual scope f cdv A outer s H E) [] (start N vs) H s1 := inv_start S hr.hd e0 hl r x
  refine wpAny_mono (ht.run [] s1 (start N vs) H _ I hq) (fun fl s' hs => ?_) fun e s' hs => hs
  have fin : ∀ {σ' : St} {H' : Hp} {v : V} {u : Value}, Inv (cxOf CX P w K mg base N qual scope f cdv A outer s H E) [] σ' H' s' → RelV v u → Q v H' → CE outer P w H s Q u s' :=
    fun {σ' H' v u} J rv q => ⟨v, H', J.os, J.bare, J.base, J.hok, rv, q⟩
  cases fl with
  | ret u =>
    obtain ⟨v, σ', H', J, rv, q⟩ := hs
    exact fin J rv q
  | next =>
    obtain ⟨σ', H', J, q⟩ := hs
    exact fin (v := V.non) (u := Value.none) J rfl q
  | brk =>
    obtain ⟨_, _, _, q⟩ := hs
    exact False.elim q
  | cont =>
    obtain ⟨_, _, _, q⟩ := hs
    exact False.elim q
section
variable {X : Cx} {CX : CXT} {k : Nat} {f C : Addr} {fd : FuncData} {ps : List Str} {sp : Sp} {dvs : List V} {ds : List Value} {E : XK} {x m : Str} {p pos apos : Pos} {e o : Expr} {es : List Expr} {ta : TE} {t : TA}
theorem run_fnG {pins : List (Addr × Obj)} {σ : St} {H : Hp} {s : Shared} {Q : VK} {us : List Value} {vs : List V} (hgd : X.A.guards = some []) (F : FnOkG X.prog X.w X.K X.mg X.base CX k f fd ps sp) (hr : Room k X.A) (hb : Binds X.K fd ps ds) (hd : Vals dvs ds) (hx : Passes CX X E)
    (I : Inv X pins σ H s) (r : Vals vs us) (h : sp (vs ++ dvs) H Q E) : wpAny (model X.prog X.w) X.A (call (.ref f) us) (EP X pins σ Q) X.xe s := by
  have r2 : Vals (vs ++ dvs) (us ++ ds) := r.append hd
  have hl : (us ++ ds).length = ps.length := by rw [← r2.length]; exact F.len _ _ _ _ h
  refine wpAny_call (codeAny_mono (F.run X.A X.stack s H ⟨us, []⟩ (us ++ ds) (vs ++ dvs) Q E hgd hr I.env0 (hb s us I.kIn hl) r2 h) fun r s' hq => ?_)
  cases r with
  | error e => exact hx pins σ H s e s' I hq
  | ok fl =>
    cases fl with
    | ret u => exact I.after hq
    | next => exact False.elim hq
    | brk => exact False.elim hq
    | cont => exact False.elim hq
theorem pe_callG (hgd : X.A.guards = some []) (F : FnOkG X.prog X.w X.K X.mg X.base CX k f fd ps sp) (hr : Room k X.A) (hg : Gl X x) (hm : X.mg x = some (.ref f)) (hk : PySem.W.keepIn X.K (.ref f) = true) (hb : Binds X.K fd ps ds) (hd : Vals dvs ds) (hx : Passes CX X E)
    (ha : PA X (e :: es) t) (hdb : (x == ("__debug__" : Str)) = false := by decide) (he : starEach (e :: es) X.env = (false, eval e X.env) :: starEach es X.env := by rfl) (hpl : (backTo pos (starEach es X.env)).any (·.1) = false := by rfl) :
    PE X (.Call (.Name x p) (e :: es) [] pos) (tCall sp dvs E t) := by
  refine ⟨fun pins s σ H Q I h => ?_⟩
  refine wpAny_Call_Name_kw (ld_glob I hg hm ?_ hdb)
  refine PySem.W.callWith_K (h₀ := X.base) I.ok.mod.kin hk (thn (ha.run pos pins s σ H _ I h) fun us s1 ⟨vs, H1, I1, r, q⟩ => ⟨I1.kIn, ?_⟩) he hpl
  exact run_fnG hgd F hr hb hd hx I1 r q
end
end L2
namespace LamX
open PySem PySem.Spec PyProof.Rows L2
theorem law_callTsG {P : Program} {w : World} {K : PySem.W.Frag} {mg mb : Str → Option Value} {CX : CXT} {k : Nat} {fa a : Addr} {cs : List (Addr × Addr)} {fd : FuncData} {x : Str} {sp : Sp} {s₁ : Shared} {vs : List Value} {ns : List Int}
    (KX : K.In s₁.heap) (hns : s₁.heap.Ns mainGlobals mg) (hb : s₁.heap.Ns builtinsNs mb) (hbb : ∀ x : Str, x ≠ "__name__" → mb x = bootBuiltins x) (hlim : s₁.heap.NoLimit) (hg : s₁.gens = #[])
    (hT : ∀ p ∈ cs, s₁.heap.get? p.2 = some { cls := .none, data := .fields #[] }) (nT : ∀ p ∈ cs, K.lookup p.2 = none) (C : ∀ p ∈ cs, PySem.W.CodeHd s₁.heap p.1 p.2)
    (hbm : ∃ (bm : Addr) (ob : Obj), mg "__builtins__" = some (.ref bm) ∧ bm ≠ builtinsNs ∧ s₁.heap.get? bm = some ob ∧ ob.cls = .type "module" ∧ ob.dict = some builtinsNs ∧ ob.data = .plain)
    (ha : s₁.heap.get? a = some { cls := .type "list", data := .seq vs.toArray }) (hi : IntsAre vs ns) (hl : ns.length ≤ sizeLine) (hr : Room k callerA)
    (F : ∀ base : Heap, K.In base → base.Ns mainGlobals mg → (∀ p ∈ cs, TabB base mg p.1 p.2) → FnOkG P w K mg base CX k fa fd [x] sp) (hbind : ∀ (s : Shared) (u : Value), BindsTo s fd ⟨[u], []⟩ [(x, u)])
    (hsp : ∀ H : Hp, (∀ p ∈ cs, H p.2 = some (.tbl #[])) → SqL K H a (ns.map V.int) → sp [.ref a] H (fun v _ => v = .bl true) fun _ _ _ => False)
    (hCX : ∀ H e s', CX [] H s₁ (fun _ _ _ => False) e s' → False) :
    codeAny (model P w) callerA (.call (.ref fa) ⟨[.ref a], []⟩) (fun r s' => r = .ok (.ret (.bool true)) ∧ OldK s₁.heap s'.heap ∧ s'.os = s₁.os ∧ AllBare s'.gens) s₁ := by
  have rv := vals_ints hi
  have lenV := hi.length
  have isT : ∀ b : Addr, b ∈ cs.map (·.2) → s₁.heap.get? b = some { cls := .none, data := .fields #[] } := fun b hb => by
    obtain ⟨p, hp, e⟩ := List.mem_map.mp hb
    rw [← e]
    exact hT p hp
  have aT : a ∉ cs.map (·.2) := fun z => by
    have q := isT a z
    rw [ha] at q
    have z' : Data.seq vs.toArray _ = Data.fields #[] := congrArg Obj.data (Option.some.inj q)
    cases z'
  have memT : ∀ p ∈ cs, p.2 ∈ cs.map (·.2) := fun p hp => List.mem_map.mpr ⟨p, hp, rfl⟩
  -- from an abstract heap in which nothing but the script and the tables may be tracked
  have core : ∀ H : Hp, (∀ p ∈ cs, H p.2 = some (.tbl #[])) → (∀ b, H b = none ∨ b ∈ cs.map (·.2) ∨ ∃ o xs, H b = some (.frz o (.lst xs))) → SqL K H a (ns.map V.int) → HOk P w H s₁.heap → (∀ b, H b ≠ none → b = a ∨ b ∈ cs.map (·.2)) → (H a ≠ none → K.lookup a = none) →
      codeAny (model P w) callerA (.call (.ref fa) ⟨[.ref a], []⟩) (fun r s' => r = .ok (.ret (.bool true)) ∧ OldK s₁.heap s'.heap ∧ s'.os = s₁.os ∧ AllBare s'.gens) s₁ := by
    intro H hH hO hS hok hA hK
    have base_of : ∀ {b : Addr} {o : Obj}, s₁.heap.get? b = some o → H b = none → (hidT s₁.heap H).get? b = some o := fun e n => hidT_get e n
    have noD : ∀ {b : Addr} {o : Obj}, s₁.heap.get? b = some o → (∀ vs n, o.data ≠ .seq vs n) → o.data ≠ .fields #[] → H b = none := fun {b o} e h1 h2 => by
      cases q : H b with
      | none => rfl
      | some u =>
        rcases hA b (by rw [q]; simp) with e' | e'
        · rw [e', ha] at e
          cases e
          exact (h1 _ _ rfl).elim
        · rw [isT b e'] at e
          cases e
          exact (h2 rfl).elim
    have noA : ∀ {b : Addr} {o : Obj} {es : Array DictEntry} {ep : Nat}, s₁.heap.get? b = some o → o.data = .dict es ep → H b = none := fun {b o es ep} e d => by
      refine noD e (fun vs n z => ?_) fun z => ?_
      · rw [d] at z
        cases z
      · rw [d] at z
        cases z
    have nsK : ∀ {b : Addr} {m : Str → Option Value}, s₁.heap.Ns b m → (hidT s₁.heap H).Ns b m := fun {b m} ⟨o, es, ep, e, d, r⟩ => ⟨o, es, ep, base_of e (noA e d), d, r⟩
    have hKb : K.In (hidT s₁.heap H) := fun b o e => base_of (KX b o e) (by
      cases q : H b with
      | none => rfl
      | some u =>
        rcases hA b (by rw [q]; simp) with e' | e'
        · rw [e'] at e q
          rw [hK (by rw [q]; simp)] at e
          cases e
        · obtain ⟨p, hp, ep⟩ := List.mem_map.mp e'
          rw [← ep, nT p hp] at e
          cases e)
    have hM : L2.Mod K mg (hidT s₁.heap H) := ⟨hKb, nsK hns, ⟨mb, nsK hb, hbb⟩, let ⟨mc, h1, h2⟩ := hlim; ⟨mc, nsK h1, h2⟩⟩
    have TB : ∀ p ∈ cs, TabB (hidT s₁.heap H) mg p.1 p.2 := fun p hp => by
      have hTp := hT p hp
      refine ⟨?_, ?_, fun z => ?_⟩
      · obtain ⟨o, us, file, tf, flags, tg, inF, text, tt, e1, r1, r2, r3, r4, r5, r6, r7, r8, hne⟩ := C p hp
        refine ⟨o, us, file, tf, flags, tg, inF, text, tt, base_of e1 (noD e1 (fun vs n z => ?_) fun z => ?_), r1, r2, r3, r4, r5, r6, r7, r8, hne⟩
        · rw [r2] at z
          cases z
        · rw [r2] at z
          cases z
          simp at r3
      · obtain ⟨bm, ob, b1, b2, b3, b4, b5, b6⟩ := hbm
        have nG : bm ≠ mainGlobals := fun q => by
          obtain ⟨o, es, ep, e, hd, _⟩ := hns
          rw [q, e] at b3
          cases b3
          rw [hd] at b6
          cases b6
        have nP : bm ≠ p.2 := fun q => by
          rw [q, hTp] at b3
          cases b3
          cases b6
        refine ⟨bm, ob, b1, b2, nG, nP, base_of b3 (noD b3 (fun vs n z => ?_) fun z => ?_), b4, b5, b6⟩
        · rw [b6] at z
          cases z
        · rw [b6] at z
          cases z
      · obtain ⟨o, es, ep, e, hd, _⟩ := hns
        rw [z, hTp] at e
        cases e
        cases hd
    have e0 : Env0 P w K mg (hidT s₁.heap H) callerA [] s₁ H := ⟨rfl, hM, fun b o e => of_hidT e, Nat.le_of_eq (hidT_size _ _), trivial, fun b hb => absurd (show b ∈ ([] : List Addr) from hb) (by simp), hok, .of_eq hg⟩
    refine codeAny_mono ((F _ hKb (nsK hns) TB).run callerA [] s₁ H ⟨[.ref a], []⟩ [.ref a] [.ref a] _ _ rfl hr e0 (hbind s₁ (.ref a)) (.cons rfl .nil) (hsp H hH hS)) fun r s' h => ?_
    cases r with
    | error e => exact (hCX H e s' h).elim
    | ok fl =>
      cases fl with
      | next => exact False.elim h
      | brk => exact False.elim h
      | cont => exact False.elim h
      | ret u =>
        obtain ⟨v, H', os, bare, un, hok', r', q⟩ := h
        have q' : v = .bl true := q
        subst q'
        obtain rfl : u = Value.bool true := r'
        have key : ∀ b o, b ∉ cs.map (·.2) → s₁.heap.get? b = some o → s'.heap.get? b = some o := fun b o nb e => by
          cases q : H b with
          | none => exact un.keep b o e q (by intro z; exact absurd (show b ∈ ([] : List Addr) from z) (by simp)) (by simp)
          | some u =>
            rcases hO b with z | z | ⟨ob, xs, z⟩
            · rw [q] at z; cases z
            · exact absurd z nb
            · have z2 := un.frzs b ob _ z
              obtain ⟨e1, _⟩ := hok b _ z
              obtain ⟨e2, _⟩ := hok' b _ z2
              rw [e] at e1; cases e1
              exact e2
        have grown : ∀ p ∈ cs, ∃ more : Array Value, s'.heap.get? p.2 = some { cls := .none, data := .fields more } := fun p hp => by
          obtain ⟨more, z⟩ := un.tbls p.2 #[] (hH p hp)
          exact ⟨_, hok' p.2 _ z⟩
        refine ⟨rfl, ⟨fun b o e => ?_, fun b o e => ?_⟩, os, bare⟩
        · by_cases hb : b ∈ cs.map (·.2)
          · obtain ⟨p, hp, ep⟩ := List.mem_map.mp hb
            obtain ⟨more, hm⟩ := grown p hp
            rw [← ep] at e ⊢
            rw [hT p hp] at e
            cases e
            exact .inr (.inl ⟨((C p hp).tab (hT p hp)).isCodeTable, rfl, #[], more, rfl, by rw [Array.empty_append]; exact hm⟩)
          · exact .inl (key b o hb e)
        · by_cases hb : b ∈ cs.map (·.2)
          · obtain ⟨p, hp, ep⟩ := List.mem_map.mp hb
            obtain ⟨more, hm⟩ := grown p hp
            rw [← ep]
            exact ⟨_, hm⟩
          · exact ⟨o, key b o hb e⟩
  cases hk : K.lookup a with
  | some o =>
    have e := KX a o hk
    rw [ha] at e
    cases e
    refine core (fun b => if b ∈ cs.map (·.2) then some (.tbl #[]) else none) (fun p hp => if_pos (memT p hp)) (fun b => ?_) (.inr ⟨_, vs.toArray, _, hk, rfl, rfl, rfl, by rw [List.size_toArray, lenV]; exact hl, by simpa using rv⟩) (fun b u z => ?_) (fun b z => ?_) fun z => absurd (show (if a ∈ cs.map (·.2) then some (HO.tbl #[]) else none) = none from if_neg aT) z
    · by_cases hb : b ∈ cs.map (·.2)
      · exact .inr (.inl hb)
      · exact .inl (if_neg hb)
    · by_cases hb : b ∈ cs.map (·.2)
      · have z' := (if_pos hb).symm.trans z
        cases z'
        exact isT b hb
      · have z' := (if_neg hb).symm.trans z
        cases z'
    · by_cases hb : b ∈ cs.map (·.2)
      · exact .inr hb
      · exact absurd (if_neg hb) z
  | none =>
    refine core (fun b => if b = a then some (.frz { cls := .type "list", data := .seq vs.toArray } (.lst (ns.map V.int))) else if b ∈ cs.map (·.2) then some (.tbl #[]) else none) (fun p hp => (if_neg (show ¬ p.2 = a from fun z => aT (by rw [← z]; exact memT p hp))).trans (if_pos (memT p hp))) (fun b => ?_)
      (.inl (.inr ⟨{ cls := .type "list", data := .seq vs.toArray }, if_pos rfl⟩)) (fun b u z => ?_) (fun b z => ?_) fun _ => hk
    · by_cases hb : b = a
      · exact .inr (.inr ⟨_, _, if_pos hb⟩)
      · by_cases hb2 : b ∈ cs.map (·.2)
        · exact .inr (.inl hb2)
        · exact .inl ((if_neg hb).trans (if_neg hb2))
    · by_cases hb : b = a
      · have z' := (if_pos hb).symm.trans z
        cases z'
        rw [hb]
        exact ⟨ha, by rw [List.length_map]; exact hl, vs, _, rv, ha⟩
      · have z1 := (if_neg hb).symm.trans z
        by_cases hb2 : b ∈ cs.map (·.2)
        · have z' := (if_pos hb2).symm.trans z1
          cases z'
          exact isT b hb2
        · have z' := (if_neg hb2).symm.trans z1
          cases z'
    · by_cases hb : b = a
      · exact .inl hb
      · by_cases hb2 : b ∈ cs.map (·.2)
        · exact .inr hb2
        · exact absurd ((if_neg hb).trans (if_neg hb2)) z
def LawAtSG (l : PySem.W.OpenLaw) (w : World) (K : PySem.W.Frag) (CX : CXT) (k n : Nat) (x : Str) (mg : Str → Option Value) (fa : Addr) (h : Heap) : Prop :=
  ∃ (fd : FuncData) (cs : List (Addr × Addr)) (sp : Sp), (∀ p ∈ cs, h.get? p.2 = some { cls := .none, data := .fields #[] }) ∧ (∀ p ∈ cs, K.lookup p.2 = none) ∧ (∀ p ∈ cs, PySem.W.CodeHd h p.1 p.2) ∧ (∀ (s : Shared) (u : Value), BindsTo s fd ⟨[u], []⟩ [(x, u)]) ∧
    (∀ (H : Hp) (a : Addr) (ns : List Int), ns.length ≤ n → (∀ z ∈ ns, Builtin.Int.intBits z ≤ 1048576) → (∀ p ∈ cs, H p.2 = some (.tbl #[])) → SqL K H a (ns.map V.int) → sp [.ref a] H (fun v _ => v = .bl true) fun _ _ _ => False) ∧
    ∀ base : Heap, K.In base → base.Ns mainGlobals mg → (∀ p ∈ cs, TabB base mg p.1 p.2) → FnOkG l.prog w K mg base CX k fa fd [x] sp
theorem walk_ofTsEG {l : PySem.W.OpenLaw} {n k : Nat} {q : Program} {loose : List Str} {XP : (Str → Option Value) → Heap → Prop} {YP : World → Heap → Prop} {d : DefRec} {CX : World → CXT} {x : Str}
    (hn : l.most = some n) (hn2 : n ≤ sizeLine) (hdf : d.params.defaults = []) (hr : Room k callerA)
    (F : ∀ (w : World) (mg : Str → Option Value) (fa : Addr) (h : Heap), YP w h → h.Ns mainGlobals mg → mg d.name = some (.ref fa) → ∃ K : PySem.W.Frag, K.In h ∧ LawAtSG l w K (CX w) k n x mg fa h)
    (hCX : ∀ (w : World) (H : Hp) (s : Shared) (e : Value) (s' : Shared), CX w [] H s (fun _ _ _ => False) e s' → False) :
    PySem.W.WalkO q loose XP YP l.row.toRowW d [] (fun f vs => PySem.call f vs) := by
  refine Att.attach_callB hn hdf fun w s₀ s₁ mg mb fa o pm cd doc a vs ns G Y ho hd hcd hmg hobj hints hlen hbits hg => ?_
  obtain ⟨K, KX, fd, cs, sp, hT, nT, C, hb, hsp, hF⟩ := F w mg fa _ Y G.T.g hmg
  exact law_callTsG KX G.T.g G.T.b G.T.builtins G.T.nolimit hg hT nT C G.T.bmain hobj hints (Nat.le_trans hlen hn2) hr hF hb (fun H hH hS => hsp H a ns hlen hbits hH hS) fun H e s' => hCX w H s₁ e s'
end LamX
namespace U
open PySem PySem.Spec PyProof.Rows L2 LamX
theorem walk_lawTG {l : PySem.W.OpenLaw} {n k : Nat} {q : Program} {loose : List Str} {XP : (Str → Option Value) → Heap → Prop} {YP : World → Heap → Prop} {d : DefRec} {K : Params → PySem.W.Frag} {x : Str} {st : Stmt} {ts : List Addr} {sp : PySem.W.Frag → List (Addr × Str) → Sp}
    (hn : l.most = some n) (hn2 : n ≤ sizeLine) (hdf : d.params.defaults = []) (hr : Room k callerA) (hnm : d.name = "law") (hY : ∀ (w : World) (h : Heap), YP w h → (K w.params).In h) (hT : ∀ (w : World) (h : Heap), YP w h → ∀ P ∈ ts, h.get? P = some (PySem.W.tabObj #[]))
    (hb : ∀ (kV doc pm : Value) (an : Option Addr) (cdv ct : Value) (us : List Value), us.length = ([x] : List Str).length → bindArgs (PySem.W.fnOf "law" "law" (defArgs st) (defBody st) (defScope st) .none kV doc pm an cdv ct) ⟨us, []⟩ = pure (([x] : List Str).zip us))
    (F : ∀ (w : World) (mg : Str → Option Value) (h : Heap), (K w.params).In h → h.Ns mainGlobals mg → HasDef (K w.params) "law" st ∧ ∃ (cs : List (Addr × Addr)) (qs : List (Addr × Str)), (∀ p ∈ cs, p.2 ∈ ts ∧ (K w.params).lookup p.2 = none ∧ PySem.W.codeHdIn (K w.params) p.1 p.2 = true) ∧
      qs.map (·.1) = cs.map (·.2) ∧ (qs.map (·.1)).Nodup ∧ ∀ (f : Addr) (fd : FuncData) (base : Heap), (K w.params).In base → base.Ns mainGlobals mg → (∀ p ∈ cs, TabB base mg p.1 p.2) → Fun (K w.params) "law" "law" st f fd → FnOkG l.prog w (K w.params) mg base CX0 k f fd [x] (sp (K w.params) qs))
    (hsp : ∀ (K : PySem.W.Frag) (qs : List (Addr × Str)) (H : Hp) (a : Addr) (ns : List Int), (qs.map (·.1)).Nodup → ns.length ≤ n → (∀ p ∈ qs, H p.1 = some (.tbl #[])) → SqL K H a (ns.map V.int) → sp K qs [.ref a] H (fun v _ => v = .bl true) fun _ _ _ => False) :
    PySem.W.WalkO q loose XP YP l.row.toRowW d [] (fun f vs => PySem.call f vs) := by
  refine walk_ofTsEG (n := n) (k := k) (x := x) (CX := fun _ => CX0) hn hn2 hdf hr (fun w mg fa h Y G hfa => ?_) fun _ _ _ _ _ z => z
  have X := hY w h Y
  obtain ⟨D, cs, qs, h1, h2, h3, G2⟩ := F w mg h X G
  obtain ⟨f, fd, Fn, e⟩ := D.ex
  have e1 := PySem.W.mg_of X G e
  rw [hnm, e1] at hfa
  cases hfa
  obtain ⟨oc, od, kV, doc, pm, an, cdv, ct, osl, e2, _⟩ := id Fn.ex
  refine ⟨_, X, fd, cs, sp (K w.params) qs, fun p hp => hT w h Y _ (h1 p hp).1, fun p hp => (h1 p hp).2.1, fun p hp => PySem.W.codeHd_of_K X (h1 p hp).2.2, fun s v => ?_, fun H a ns l1 _ l3 l4 => ?_, fun base X' G' T => G2 _ _ base X' G' T Fn⟩
  · rw [e2]
    exact .of_eq (hb kV doc pm an cdv ct [v] rfl)
  · refine hsp _ qs H a ns h3 l1 (fun p hp => ?_) l4
    have : p.1 ∈ cs.map (·.2) := by rw [← h2]; exact List.mem_map_of_mem hp
    obtain ⟨r, hr, e⟩ := List.mem_map.mp this
    rw [← e]
    exact l3 r hr
end U
namespace U
open PySem PySem.Spec PyProof.Rows L2 LamX
/-- a def that keeps its promise where nothing guards the stack -/
structure KnDG (P : Program) (w : World) (K : PySem.W.Frag) (mg : Str → Option Value) (base : Heap) (x : Str) (k : Nat) (ps : List Str) (sp : DSp) : Prop where
  ex : ∃ f fd, FnOkG P w K mg base CX0 k f fd ps (LSp K sp) ∧ mg x = some (.ref f) ∧ PySem.W.keepIn K (.ref f) = true ∧ Binds K fd ps []
theorem KnDG.of {P : Program} {w : World} {K : PySem.W.Frag} {mg : Str → Option Value} {base : Heap} {x : Str} {st : Stmt} {N ps : List Str} {k : Nat} {sp : DSp} (F : HasDef K x st) (M : MgOf K mg) (S : FnScope N ps (defScope st))
    (hb : ∀ (kV doc pm : Value) (an : Option Addr) (cdv ct : Value) (us : List Value), us.length = ps.length → bindArgs (PySem.W.fnOf x x (defArgs st) (defBody st) (defScope st) .none kV doc pm an cdv ct) ⟨us, []⟩ = pure (ps.zip us))
    (len : ∀ ds M Q E, sp ds M Q E → ds.length = ps.length)
    (hbody : ∀ (f : Addr) (cdv : Value) (A : Around) (outer : List Env) (s : Shared) (H : Hp) (E : XK), A.guards = some [] → Room k (A.deeper (envOfC x (defScope st) s.heap.objs.size f cdv)) →
      ∃ t, DB (cxOf CX0 P w K mg base N x (defScope st) f cdv A outer s H E).nox (defBody st) t ∧ ∀ ds M Q Ed, sp ds M Q Ed → t (bodyE Q) (startD N ds) M) : KnDG P w K mg base x (k + 1) ps sp := by
  obtain ⟨f, fd, G, e⟩ := F.ex
  have kp := G.kp
  have bb := G.binds hb
  obtain ⟨oc, od, kV, doc, pm, an, cdv, ct, osl, rfl, lk, hcd'⟩ := G.ex
  refine ⟨f, _, fn_ofG lk hcd' S (lsp_len len) (fun A outer s H vs Q E hgd hr ⟨F, W, M, ds, Qd, Ed, r, st, h, kk, kx⟩ => ?_), M.of _ _ e, kp, bb⟩
  obtain ⟨t, d, q⟩ := hbody f cdv A outer s H E hgd hr
  exact ⟨_, PSs.nox d, ls_body r st kk (q ds M Qd Ed h)⟩
theorem fnok_ofG {P : Program} {w : World} {K : PySem.W.Frag} {mg : Str → Option Value} {base : Heap} {x : Str} {st : Stmt} {N ps : List Str} {k : Nat} {sp : DSp} {f : Addr} {fd : FuncData} (G : Fun K x x st f fd) (S : FnScope N ps (defScope st))
    (len : ∀ ds M Q E, sp ds M Q E → ds.length = ps.length)
    (hbody : ∀ (f : Addr) (cdv : Value) (A : Around) (outer : List Env) (s : Shared) (H : Hp) (E : XK), A.guards = some [] → Room k (A.deeper (envOfC x (defScope st) s.heap.objs.size f cdv)) →
      ∃ t, DB (cxOf CX0 P w K mg base N x (defScope st) f cdv A outer s H E).nox (defBody st) t ∧ ∀ ds M Q Ed, sp ds M Q Ed → t (bodyE Q) (startD N ds) M) : FnOkG P w K mg base CX0 (k + 1) f fd ps (LSp K sp) := by
  obtain ⟨oc, od, kV, doc, pm, an, cdv, ct, osl, rfl, lk, hcd'⟩ := G.ex
  refine fn_ofG lk hcd' S (lsp_len len) (fun A outer s H vs Q E hgd hr ⟨F, W, M, ds, Qd, Ed, r, st, h, kk, kx⟩ => ?_)
  obtain ⟨t, d, q⟩ := hbody f cdv A outer s H E hgd hr
  exact ⟨_, PSs.nox d, ls_body r st kk (q ds M Qd Ed h)⟩
section
variable {X : Cx} {k : Nat} {ps : List Str} {sp : DSp} {x : Str} {p pos : Pos} {e : Expr} {es : List Expr} {fs : DTA}
theorem d_callG (hgd : X.A.guards = some []) (D : KnDG X.prog X.w X.K X.mg X.base x k ps sp) (hr : Room k X.A) (ha : DA X (e :: es) fs) (hg : Gl X x := by rfl) (hdb : (x == ("__debug__" : Str)) = false := by decide)
    (he : starEach (e :: es) X.env = (false, eval e X.env) :: starEach es X.env := by rfl) (hpl : (backTo pos (starEach es X.env)).any (·.1) = false := by rfl) : DE X (.Call (.Name x p) (e :: es) [] pos) (gCall sp fs) := by
  obtain ⟨f, fd, F, m, kp, b⟩ := D.ex
  have hh : tCall (LSp X.K sp) [] E0 (Li (rA X.K) X.K fs) = fCall (LSp X.K sp) E0 (Li (rA X.K) X.K fs) := by
    funext σ H Q
    show (Li (rA X.K) X.K fs) σ H (fun vs H1 => LSp X.K sp (vs ++ []) H1 Q E0) = _
    simp only [List.append_nil]
    rfl
  have hp := pe_callG (E := E0) (p := p) hgd F hr hg m kp b .nil pass0 ha hdb he hpl
  rw [hh] at hp
  exact imp hp fun σ H Q ⟨δ, F, W, M, Qd, ev, s, h, kk⟩ => ⟨δ, F, W, M, _, ev, s, h, fun vs H1 W1 ds M1 g1 s1 r1 q1 => ⟨F, W1, M1, ds, Qd, X0, r1, s1, q1, kk.mono g1, fun _ _ _ _ _ _ _ _ _ z => z.elim⟩⟩
end
mutual
inductive PD : Da → PyData → Prop
  | non : PD .non .none
  | bl (b : Bool) : PD (.bl b) (.bool b)
  | int (i : Int) : PD (.int i) (.int i)
  | str (x : Str) : PD (.str x) (.str x)
  | lst {ds : List Da} {xs : List PyData} : PDs ds xs → PD (.lst ds) (.list xs)
  | tup {ds : List Da} {xs : List PyData} : PDs ds xs → PD (.tup ds) (.tuple xs)
  | dct : PD (.dct []) (.dict [])
inductive PDs : List Da → List PyData → Prop
  | nil : PDs [] []
  | cons {d : Da} {ds : List Da} {x : PyData} {xs : List PyData} : PD d x → PDs ds xs → PDs (d :: ds) (x :: xs)
end
section
variable {X : Cx} {pins : List (Addr × Obj)} {σ : L2.St} {H : Hp} {s : Shared} {W : Addr → Prop}
theorem reads_dct {a : Addr} (I : Inv X pins σ H s) (h : H a = some (.dK [])) : Reads s.heap (.ref a) (.dict []) [a] ∧ sysModules ≠ a := by
  obtain ⟨_, hm, vs, kv, o, es, ep, ho, hx, hd, hk, hp, _⟩ := dk_of I.hok h
  cases kv
  have he : es.toList = [] := by
    cases e : es.toList with
    | nil => rfl
    | cons z zs => rw [e] at hp; cases hp
  refine ⟨?_, fun z => by rw [z] at hm; simp at hm⟩
  have r : Reads s.heap (.ref a) (.dict []) (a :: [] ++ []) := .dict ho hx.1 hd (by rw [he]; exact .nil) (by rw [he]; exact .nil)
  exact r
mutual
theorem reads_of (I : Inv X pins σ H s) : ∀ {v : V} {d : Da} {p : PyData} {u : Value}, RD X.K W H v d → PD d p → p.hasDict = false → RelV v u → ∃ as, Reads s.heap u p as
  | _, _, _, _, .non, .non, _, ru => by cases ru; exact ⟨_, .none⟩
  | _, _, _, _, .bl b, .bl _, _, ru => by cases ru; exact ⟨_, .bool b⟩
  | _, _, _, _, .int i, .int _, _, ru => by obtain ⟨t, rfl⟩ := ru; exact ⟨_, .int i t⟩
  | _, _, _, _, .str x, .str _, _, ru => by obtain ⟨t, rfl⟩ := ru; exact ⟨_, .str x t⟩
  | _, _, _, _, .lst hs rv, .lst ps, hd, ru => by
    cases ru
    obtain ⟨its, r, ⟨o, n, e, c, _, dt⟩, _⟩ := I.list hs.sq
    obtain ⟨as, ra⟩ := reads_all I rv ps (by simpa [PyData.hasDict] using hd) r
    exact ⟨_, .list e c dt ra⟩
  | _, _, _, _, .tup hs rv, .tup ps, hd, ru => by
    cases ru
    obtain ⟨its, r, ⟨o, e, c, n, dt⟩, _⟩ := I.tuple hs.sq
    obtain ⟨as, ra⟩ := reads_all I rv ps (by simpa [PyData.hasDict] using hd) r
    exact ⟨_, .tuple e c dt ra⟩
  | _, _, _, _, .dct _ _ _, .dct, hd, _ => by simp [PyData.hasDict] at hd
theorem reads_all (I : Inv X pins σ H s) : ∀ {vs : List V} {ds : List Da} {ps : List PyData} {us : List Value}, RDs X.K W H vs ds → PDs ds ps → PyData.hasDictAll ps = false → Vals vs us → ∃ as, ReadsAll s.heap us ps as
  | _, _, _, _, .nil, .nil, _, r => by cases r; exact ⟨_, .nil⟩
  | _, _, _, _, .cons h k, .cons p q, hd, r => by
    cases r with
    | cons r rr =>
      rw [PyData.hasDictAll, Bool.or_eq_false_iff] at hd
      obtain ⟨as, a⟩ := reads_of I h p hd.1 r
      obtain ⟨bs, b⟩ := reads_all I k q hd.2 rr
      exact ⟨_, .cons a b⟩
end
end
end U
set_option Elab.async false
set_option linter.all false
set_option maxRecDepth 100000
set_option maxHeartbeats 4000000
namespace U
open PySem PySem.Spec PyProof.Rows L2
/-- what the written part says of an own error class that keeps a value, straight over a built-in one -/
structure XErr (K : PySem.W.Frag) (x : Str) (C : Addr) (qual : Str) (st : Stmt) (f : Str) (B newId initId : String) (tl : List Value) : Prop where
  at_ : PySem.W.nsIn K mainGlobals x = some (some (.ref C))
  T : OexT K C B newId initId tl
  meth : ∃ fI fd, Fun K "__init__" qual st fI fd ∧ PySem.W.findIn K (.ref C) "__init__" = some (some (.ref fI)) ∧ PySem.W.typeIn K (.ref fI) = some (.type "function")
  no : PySem.W.findIn K (.ref C) f = some none
  vV : PySem.W.findCls K (.type B) (.type "type") "__init__" = some (.val (.builtin initId))
  xf : XfC K C
theorem xerr_mk {K : PySem.W.Frag} {x : Str} {C : Addr} {qual : Str} {st : Stmt} {f : Str} {B newId initId : String} {tl : List Value} {nm q : Str} {N : Addr} {bs : List Value} {sn : List Str} {sub : List Value} {ab : Bool} {col : Option Bool} {dd : Option Addr} {k0 k1 k2 k3 k5 : Option Value}
    {fI : Addr} {oc : Value} {od an : Option Addr} {osl : Array (Option Value)} {kV doc pm cdv ct : Value} {Bn : String} (base : VV0.EB2 B Bn newId initId tl) (tlok : VV0.TlOk tl) (qa : PySem.W.nsIn K mainGlobals x = some (some (.ref C))) (ql : K.lookup C = some (excClassObj nm q C N bs tl true sn sub ab col dd k0 k1 k2 k3 k5 newId))
    (qs : PySem.W.findIn K (.ref C) "__setattr__" = some (some (.builtin "object.__setattr__"))) (qe : PySem.W.subIn K (.ref C) (.type "BaseException") = some true) (qt : PySem.W.typeIn K (.ref C) = some (.type "type")) (qk : PySem.W.keepIn K (.ref C) = true)
    (qi : PySem.W.findIn K (.ref C) "__init__" = some (some (.ref fI))) (qm : K.lookup fI = some ⟨oc, od, .func (PySem.W.fnOf "__init__" qual (defArgs st) (defBody st) (defScope st) .none kV doc pm an cdv ct), osl⟩) (qc : PySem.W.codeIn K cdv qual = true) (qf : PySem.W.keepIn K (.ref fI) = true)
    (qy : PySem.W.typeIn K (.ref fI) = some (.type "function")) (qn : PySem.W.findIn K (.ref C) f = some none) (qv : PySem.W.findCls K (.type B) (.type "type") "__init__" = some (.val (.builtin initId)))
    (qg : PySem.W.findIn K (.ref C) "__getattribute__" = some (some (.builtin "BaseException.__getattribute__"))) (qh : PySem.W.findIn K (.ref C) "__getattr__" = some none) (qd : PySem.W.hasDictIn K C = true) : XErr K x C qual st f B newId initId tl :=
  ⟨qa, ⟨⟨Bn, base⟩, tlok, ⟨_, _, _, _, _, _, _, _, _, _, _, _, _, _, ql⟩, qs, qe, qt, qk⟩, ⟨_, _, fun_mk qm qc qf, qi, qy⟩, qn, qv, ⟨qg, qh, qe, qd⟩⟩
/-- an own error class, its __init__ walked -/
structure KnErr (P : Program) (w : World) (K : PySem.W.Frag) (mg : Str → Option Value) (base : Heap) (x : Str) (C : Addr) (f : Str) (k : Nat) : Prop where
  ex : ∃ (B newId initId : String) (tl : List Value) (fI : Addr) (fd : FuncData), OexT K C B newId initId tl ∧ PySem.W.findIn K (.ref C) "__init__" = some (some (.ref fI)) ∧ PySem.W.typeIn K (.ref fI) = some (.type "function") ∧
    FnOk P w K mg base CX0 k fI fd ["self", f] (spErr C f) ∧ Binds K fd ["self", f] [] ∧ mg x = some (.ref C)
theorem KnErr.of {P : Program} {w : World} {K : PySem.W.Frag} {mg : Str → Option Value} {base : Heap} {x : Str} {C : Addr} {qual : Str} {st : Stmt} {f : Str} {B newId initId : String} {tl : List Value} {N : List Str} (F : XErr K x C qual st f B newId initId tl) (M : MgOf K mg)
    (S : FnScope N ["self", f] (defScope st))
    (hb : ∀ (kV doc pm : Value) (an : Option Addr) (cdv ct : Value) (us : List Value), us.length = (["self", f] : List Str).length → bindArgs (PySem.W.fnOf "__init__" qual (defArgs st) (defBody st) (defScope st) .none kV doc pm an cdv ct) ⟨us, []⟩ = pure ((["self", f] : List Str).zip us))
    (hbody : ∀ (fI : Addr) (cdv : Value) (A : Around) (outer : List Env) (s : Shared) (H : Hp) (E : XK), ∃ t, PSs (cxOf CX0 P w K mg base N qual (defScope st) fI cdv A outer s H E).nox (defBody st) t ∧
      ∀ (a : Addr) (v : V) (Q : VK), H a = some (exo a C none) → (∀ dx, H dx = none → dx ≠ a → Q .non (upd (upd H dx (exd dx [(f, v)])) a (exo a C (some dx)))) → t { nx := fun _ H' => Q .non H', rt := Q } (start N [.ref a, v]) H) : KnErr P w K mg base x C f 1 := by
  obtain ⟨fI, fd, G, iC, tI⟩ := F.meth
  refine ⟨B, newId, initId, tl, fI, fd, F.T, iC, tI, G.ok S (fun vs H Q E ⟨a, v, e, _⟩ => by rw [e]; rfl) (fun cdv A outer s H vs Q E hr ⟨a, v, e, ha, q⟩ => ?_), G.binds hb, M.of _ _ F.at_⟩
  obtain ⟨t, d, k⟩ := hbody fI cdv A outer s H E
  subst e
  exact ⟨t, d, k a v Q ha q⟩
/-- B.__init__(self, x); self.f = x -/
def errT (K : PySem.W.Frag) (B newId initId : String) (tl : List Value) (f : Str) : TS := tSeq (tDrop (tVeT K B newId initId tl (tCons (tVar 0) (tCons (tVar 1) tNil)))) (tOstT K B newId initId tl f (tVar 0) (tVar 1))
theorem err_end {K : PySem.W.Frag} {C : Addr} {B newId initId : String} {tl : List Value} {f : Str} {N : List Str} {a : Addr} {v : V} {Q : VK} {H : Hp} (T : OexT K C B newId initId tl) (hno : PySem.W.findIn K (.ref C) f = some none)
    (ha : H a = some (exo a C none)) (q : ∀ dx, H dx = none → dx ≠ a → Q .non (upd (upd H dx (exd dx [(f, v)])) a (exo a C (some dx)))) : errT K B newId initId tl f { nx := fun _ H' => Q .non H', rt := Q } (start N [.ref a, v]) H :=
  ⟨.ref a, rfl, v, rfl, a, C, [v], rfl, by simp, T, ha, v, rfl, .ref a, rfl, a, C, rfl, T, hno, ha, q⟩
section
variable {X : Cx} {k : Nat} {x f : Str} {C : Addr} {e : Expr} {fe : DTE} {p pos pos' : Pos}
end
end U

namespace U
open PySem PySem.Spec PyProof.Rows L2 LamX
theorem _root_.L2.Takes.len {X : Cx} {W : WX} (t : Takes X W) : Takes X (fun cls d σ H => σ.length = X.N.length → W cls d σ H) := fun u s' ⟨a, B, sI, pins, σ, H, cls, d, e, I, nb, up, sky, na, os, ag, w⟩ =>
  t u s' ⟨a, B, sI, pins, σ, H, cls, d, e, I, nb, up, sky, na, os, ag, w I.len⟩
section
variable {X : Cx} {Ng : List Str} {x a q : Str} {sg : Scope} {g : Addr} {cdg : Value} {h₀ : ExceptHandler} {hds : List ExceptHandler} {l : List (Value × Option Nat × Th)} {p1 p2 p3 p8 : Pos} {rest : List Stmt} {u : DTS}
end
section
variable {X : Cx} {Ng : List Str} {x a : Str} {st : Stmt} {h₀ : ExceptHandler} {hds : List ExceptHandler} {l : List (Value × Option Nat × Th)} {p1 p2 p3 p8 p lpos pos : Pos} {rest : List Stmt} {u : DTS} {P c : Addr} {k : Nat} {params : Arguments} {body : Expr} {scope : Scope} {gb : XDE}
end
end U
set_option Elab.async false
set_option linter.all false
set_option maxRecDepth 100000
set_option maxHeartbeats 2000000
namespace U
open PySem PySem.Spec PyProof.Rows L2
structure KnKX (P : Program) (w : World) (K : PySem.W.Frag) (mg : Str → Option Value) (base : Heap) (C : Addr) (k : Nat) (ps : List Str) (n : Nat) (ks : List Str) (dvs : List V) (sp : DSp) : Prop where
  ex : ∃ f fd, FnOk P w K mg base (L2.CX P w) k f fd ps (LSp K sp) ∧ BMeth K C "__init__" f ∧ (∃ ds, Vals dvs ds ∧ Binds K fd ps ds) ∧ KBn K fd ps n ks (fun us ws => us ++ ws) (fun vs zs => vs ++ zs)
theorem KnKX.of {P : Program} {w : World} {K : PySem.W.Frag} {mg : Str → Option Value} {base : Heap} {C : Addr} {qual : Str} {st : Stmt} {N ps : List Str} {k n : Nat} {ks : List Str} {kws : List (Str × V)} {sp : DSp} (F : HasInitK K C qual st kws) (S : FnScope N ps (defScope st)) (hk : kws ≠ []) (hn : n + kws.length = ps.length)
    (h1 : ∀ (D : Addr) (doc pm : Value) (an : Option Addr) (cdv ct : Value) (us zs : List Value), us.length = n → zs.length = kws.length →
      KwChain D ((kws.map (·.1)).zip zs) (bindArgs (PySem.W.fnOf "__init__" qual (defArgs st) (defBody st) (defScope st) .none (.ref D) doc pm an cdv ct) ⟨us, []⟩) (ps.zip (us ++ zs)))
    (h2 : ∀ (D : Addr) (doc pm : Value) (an : Option Addr) (cdv ct : Value) (us ws : List Value), us.length = n → ws.length = ks.length →
      bindArgs (PySem.W.fnOf "__init__" qual (defArgs st) (defBody st) (defScope st) .none (.ref D) doc pm an cdv ct) ⟨us, ks.zip ws⟩ = pure (ps.zip (us ++ ws)))
    (len : ∀ ds M Q E, sp ds M Q E → ds.length = ps.length)
    (hbody : ∀ (f : Addr) (cdv : Value) (A : Around) (outer : List Env) (s : Shared) (H : Hp) (E : XK), Room k (A.deeper (envOfC qual (defScope st) s.heap.objs.size f cdv)) →
      ∃ t, DB (cxOf (L2.CX P w) P w K mg base N qual (defScope st) f cdv A outer s H E) (defBody st) t ∧ ∀ ds M Q Ed, sp ds M Q Ed → t (bodyX Q Ed) (startD N ds) M) : KnKX P w K mg base C (k + 1) ps n ks (kws.map (·.2)) sp := by
  obtain ⟨f, fd, F, B⟩ := F.ex
  refine ⟨f, fd, F.ok S (lsp_len len) (fun cdv A outer s H vs Q E hr ⟨F, W, M, ds, Qd, Ed, r, st, h, kk, kx⟩ => by
    obtain ⟨t, d, q⟩ := hbody f cdv A outer s H E hr
    exact ⟨_, d, ls_bodyX r st kk (kx_def kx) (q ds M Qd Ed h)⟩), B, F.binds0 n hk hn h1, ?_⟩
  obtain ⟨mv, kb⟩ := F.kbinds0 (ps := ps) n ks [] (fun us _ ws => us ++ ws) hk (fun q hq => nomatch hq) (fun r1 _ r3 => r1.append r3) fun D doc pm an cdv ct us mv ws l1 l2 l3 => h2 D doc pm an cdv ct us ws l1 l3
  exact kb
theorem KnKX.d {P : Program} {w : World} {K : PySem.W.Frag} {mg : Str → Option Value} {base : Heap} {C : Addr} {k n : Nat} {ps ks : List Str} {dvs : List V} {sp : DSp} (D : KnKX P w K mg base C k ps n ks dvs sp) : KnK P w K mg base C k ps n ks dvs (spN sp) := by
  obtain ⟨f, fd, F, r⟩ := D.ex
  exact ⟨f, fd, FnOk.nox F, r⟩
section
variable {X : Cx} {k n : Nat} {ps ks : List Str} {sp : DSp} {x : Str} {p pos : Pos} {e : Expr} {es : List Expr} {kws : List Keyword} {fs fk : DTA} {C : Addr} {dvs : List V} {dfl : List Da}
end
end U
namespace U
open PySem PySem.Spec PyProof.Rows L2
section
variable {X : Cx}
end
end U
namespace U
open PySem PySem.Spec PyProof.Rows L2
end U
set_option Elab.async false
set_option linter.all false
set_option maxRecDepth 100000
set_option maxHeartbeats 2000000
namespace U
open PySem PySem.Spec PyProof.Rows L2
end U
set_option Elab.async false
set_option linter.all false
set_option maxRecDepth 100000
set_option maxHeartbeats 4000000
namespace U
open PySem PySem.Spec PyProof.Rows L2
section
variable {X : Cx}
def rRepTB (K : PySem.W.Frag) : R2 := fun x y H Q => ∃ l k xs, x = .ref l ∧ y = .int k ∧ SqT K H l xs ∧ xs ≠ [] ∧ 2 ≤ k ∧ k ≤ 10000 ∧ xs.length ≤ 100 ∧ ∀ p, H p = none → ∀ o : Obj, o.dict = none → Q (.ref p) (upd H p (.frz o (.tup (List.replicate k.toNat xs).flatten)))
theorem op_repTB : OpR X (binaryOp .Mult) (rRepTB X.K) := by
  intro pins s σ H x y v u Q I rx ry h
  obtain ⟨l, k, xs, rfl, rfl, hT, hne, h1, h2, hz, q⟩ := h
  cases rx
  obtain ⟨t, rfl⟩ := ry
  obtain ⟨its, r, ⟨⟨cls, dd, data, sl⟩, ho, hc, n, hd⟩, hs⟩ := I.tuple hT
  simp only at hc hd
  subst hc hd
  have hle : its.length = xs.length := r.length.symm
  have hn : its ≠ [] := fun e => hne (by
    rw [e] at hle
    exact List.eq_nil_of_length_eq_zero hle.symm)
  have hi : its.toArray.isEmpty = false := by
    cases its with
    | nil => exact absurd rfl hn
    | cons a b => rfl
  have hsz0 : its.toArray.size = xs.length := by rw [List.size_toArray, hle]
  have hm : ((its.toArray.size : Nat) : Int) * k ≤ 1000000 := by
    rw [hsz0]
    have a1 : ((xs.length : Nat) : Int) * k ≤ 100 * k := Int.mul_le_mul_of_nonneg_right (by omega) (by omega)
    omega
  have flen : (List.replicate k.toNat its).flatten.length ≤ sizeLine := by
    rw [PyProof.Rows.lm_len_rep_flat, hle, sizeLine_eq]
    have a1 : k.toNat * xs.length ≤ 10000 * 100 := Nat.mul_le_mul (by omega) hz
    omega
  have c0 : (decide (k < -(2 ^ 63)) || decide (k ≥ 2 ^ 63)) = false := by
    rw [decide_eq_false (by omega), decide_eq_false (by omega)] <;> rfl
  have c1 : (its.toArray.isEmpty || k == 1) = false := by
    rw [hi, Bool.false_or]
    exact beq_eq_false_iff_ne.mpr (by omega)
  have c2 : (decide (k ≤ 0) || its.toArray.isEmpty) = false := by
    rw [hi, Bool.or_false]
    exact decide_eq_false (by omega)
  have c4 : Builtin.Tuple.tupleTooMany (((its.toArray.size : Nat) : Int) * k) = false := by
    unfold Builtin.Tuple.tupleTooMany
    rw [sizeLine_eq]
    exact decide_eq_false (by omega)
  refine wpAny_binaryOp_repeat_ref (T := "tuple") (U := "int") (by decide) ⟨_, ho, rfl⟩ (fun s' => typeIs_int s' k t) noFill_tuple_mul F.fills_int_mul F.slot_int_rmul repeat_tuple F.slot_int_index.lookup
    (call_meets F.slot_int_rmul (typeIs_int s k t) F.entry_int_rmul (F.args_int_rmul_2 _ _) (int_rmul_tuple k t l its.toArray n dd sl)
      ⟨ho, rfl, ⟨_, ho, rfl⟩, call_meets F.slot_tuple_mul ⟨_, ho, rfl⟩ F.entry_tuple_mul (F.args_tuple_mul_2 _ _) (tuple_mulW l its.toArray n dd sl k t c0 c1 c2 (by omega) c4 (by rw [size_rep, List.size_toArray]; exact flen)) ⟨ho, ?_⟩⟩)
  rw [size_rep]
  refine ⟨.ref s.heap.objs.size, _, I.laid (t' := s.toks) (o := .frz { cls := .type "tuple", data := .seq (List.replicate k.toNat its).flatten.toArray } (.tup (List.replicate k.toNat xs).flatten)) (fun b ob q => Heap.get?_push_of_some _ q) (Nat.le_refl _) ?_, rfl, q _ (I.hok.fresh (Nat.le_refl _)) _ rfl⟩
  exact ⟨Heap.get?_push_size _ rfl, by rw [PyProof.Rows.lm_len_rep_flat, sizeLine_eq]; have a1 : k.toNat * xs.length ≤ 10000 * 100 := Nat.mul_le_mul (by omega) hz; omega, _, r.rep k.toNat, IsTup.new _ _⟩
end
end U
namespace U
open PySem PySem.Spec PyProof.Rows L2
/-- t * 1 is t -/
theorem tuple_mul1 (l : Addr) (items : Array Value) (n : Nat) (dd : Option Addr) (sl : Array (Option Value)) (u : Tok) :
    Meets (Builtin.«tuple.__mul__» ⟨[.ref l, .int 1 u], []⟩) (fun _ R s => s.heap.get? l = some { cls := .type "tuple", dict := dd, data := .seq items n, slots := sl } ∧ R (.ok (.ret (Value.ref l))) s) :=
  .of_wp fun prog w A R s h => by
    obtain ⟨hp, g, d, tk, os⟩ := s
    obtain ⟨hl, h⟩ := h
    have f1 := AutoSeq1.idx_int
    have c1 : (items.isEmpty || ((1 : Int) == 1)) = true := by rw [show ((1 : Int) == 1) = true from rfl, Bool.or_true]
    wp_walk using wpAny_loadPart' hl
    repeat (first
      | (refine wpAny_ite_true (decide_eq_true c1) ?_; wp_walk using wpAny_loadPart' hl)
      | (refine wpAny_ite_false (decide_eq_false (by decide)) ?_; wp_walk using wpAny_loadPart' hl))
    exact ⟨_, rfl, h⟩
def rMul1 (K : PySem.W.Frag) : R2 := fun x y H Q => ∃ l xs, x = .ref l ∧ y = .int 1 ∧ SqT K H l xs ∧ Q (.ref l) H
theorem op_mul1 {X : Cx} : OpR X (binaryOp .Mult) (rMul1 X.K) := by
  intro pins s σ H x y v u Q I rx ry h
  obtain ⟨l, xs, rfl, rfl, hT, q⟩ := h
  cases rx
  obtain ⟨t, rfl⟩ := ry
  obtain ⟨its, r, ⟨⟨cls, dd, data, sl⟩, ho, hc, n, hd⟩, hs⟩ := I.tuple hT
  simp only at hc hd
  subst hc hd
  refine wpAny_binaryOp_repeat_ref (T := "tuple") (U := "int") (by decide) ⟨_, ho, rfl⟩ (fun s' => typeIs_int s' 1 t) noFill_tuple_mul F.fills_int_mul F.slot_int_rmul repeat_tuple F.slot_int_index.lookup
    (call_meets F.slot_int_rmul (typeIs_int s 1 t) F.entry_int_rmul (F.args_int_rmul_2 _ _) (int_rmul_tuple 1 t l its.toArray n dd sl)
      ⟨ho, rfl, ⟨_, ho, rfl⟩, call_meets F.slot_tuple_mul ⟨_, ho, rfl⟩ F.entry_tuple_mul (F.args_tuple_mul_2 _ _) (tuple_mul1 l its.toArray n dd sl t) ⟨ho, ?_⟩⟩)
  exact ⟨.ref l, H, I, rfl, q⟩
/-- x * k for rows, up to ten thousand times -/
def hMulB : D2 := fun x y M Q => match x, y with
  | .tup xs, .int k => xs ≠ [] ∧ 1 ≤ k ∧ k ≤ 10000 ∧ xs.length ≤ 100 ∧ Q (.tup (List.replicate k.toNat xs).flatten) M
  | .lst xs, .int k => k ≤ 10000 ∧ -1000 ≤ k ∧ xs.length ≤ 100 ∧ Q (.lst (List.replicate k.toNat xs).flatten) M
  | _, _ => False
theorem o_dmulB {X : Cx} : DO X (binaryOp .Mult) hMulB := do_imp fun x y H Q ⟨F, W, M, d, e, Qd, r1, r2, s, h, k⟩ => by
  unfold hMulB at h
  split at h
  · rename_i ds k'
    cases r1 with
    | @tup a vs _ hs rv =>
      cases r2
      by_cases h1 : k' = 1
      · subst h1
        have e : (List.replicate (1 : Int).toNat ds).flatten = ds := by simp
        rw [e] at h
        exact ⟨_, op_mul1, a, vs, rfl, rfl, hs.sq, k.now s (.tup hs rv) h.2.2.2.2⟩
      · exact ⟨_, op_repTB, _, _, vs, rfl, rfl, hs.sq, fun e => h.1 (by subst e; cases rv; rfl), by omega, h.2.2.1, by rw [rv.length]; exact h.2.2.2.1, fun p hp o ho => k.newT s hp (rv.flat_rep _) ho h.2.2.2.2⟩
  · cases r1 with
    | @lst a vs _ hs rv =>
      cases r2
      obtain ⟨h1, h2, h3, q⟩ := h
      have key : ∀ j : Int, j ≤ 10000 → vs.length * j.toNat ≤ sizeLine := fun j hj => by
        rw [rv.length, sizeLine_eq]
        have := Nat.mul_le_mul h3 (show j.toNat ≤ 10000 by omega)
        omega
      exact ⟨_, op_repL, _, _, vs, rfl, rfl, hs.sq, by omega, by omega, key _ h1, fun p hp => k.newL s hp (rv.flat_rep _) q⟩
  · exact h.elim
end U
set_option Elab.async false
set_option linter.all false
set_option maxRecDepth 100000
set_option maxHeartbeats 2000000
namespace U
open PySem PySem.Spec PyProof.Rows L2
section
variable {K : PySem.W.Frag} {D : DEnds} {δ : De} {M : Mm} {t v u : DTS} {gb : XDE} {l : List (Value × Option Nat × Th)} {n i : Nat} {P tt : Addr} {q s : Str} {zs : List Da}
end
end U
set_option Elab.async false
set_option linter.all false
set_option maxRecDepth 100000
set_option maxHeartbeats 2000000
namespace U
open PySem PySem.Spec PyProof.Rows L2
section
variable {X : Cx} {CX : CXT} {E : XK} {k : Nat} {ps : List Str} {C : Addr} {o i : Expr} {pos : Pos} {fo fi : DTE}
end
end U
namespace U
open PySem PySem.Spec PyProof.Rows L2
end U
namespace U
open PySem PySem.Spec PyProof.Rows L2
end U
set_option Elab.async false
set_option linter.all false
set_option maxRecDepth 100000
set_option maxHeartbeats 2000000
namespace U
open PySem PySem.Spec PyProof.Rows L2
section
variable {X : Cx} {k : Nat} {ps : List Str} {sp : DSp} {x : Str} {p pos : Pos} {e : Expr} {es : List Expr} {fs : DTA}
end
def hAddM : D2 := fun x y M Q => match x, y with
  | .lst xs, y => lstK y M fun ys => Sz (xs.length + ys.length) ∧ ∀ p, M p = none → Q (.ref p) (mput M p (.lst (xs ++ ys)))
  | _, _ => False
theorem o_daddM {X : Cx} : DO X (binaryOp .Add) hAddM := do_imp fun x y H Q ⟨F, W, M, d, e, Qd, r1, r2, s, h, k⟩ => by
  unfold hAddM at h
  split at h
  · cases r1 with
    | lst hs rv =>
      obtain ⟨b, ws, ds, rfl, ht, rw_, hz, q⟩ := lst_of s r2 h
      exact ⟨_, op_catL, _, b, _, ws, rfl, rfl, hs.sq, ht, by rw [rv.length, rw_.length]; exact hz.ok, fun p hp => k.newM s hp (rv.append rw_) q⟩
  · exact h.elim
end U
set_option Elab.async false
set_option linter.all false
set_option maxRecDepth 100000
set_option maxHeartbeats 2000000
namespace U
open PySem PySem.Spec PyProof.Rows L2
/-- what is walked: a text, a list, a tuple -/
inductive Src where
  | txt (x : Str) | lst (a : Addr) | tup (a : Addr)
def Src.v : Src → V
  | .txt x => .str x
  | .lst a => .ref a
  | .tup a => .ref a
/-- its items in the heap -/
def Src.At (K : PySem.W.Frag) (H : Hp) : Src → List V → Prop
  | .txt x, vs => vs = x.cps.toList.map fun c => V.str ⟨#[c]⟩
  | .lst a, vs => SqL K H a vs
  | .tup a, vs => SqT K H a vs
/-- its iterator at its turn -/
def Src.It (h : Heap) (it i : Nat) : Src → Prop
  | .txt x => ∃ t, h.IsStrIter it (strIterType x) x t i
  | .lst a => h.IsListIter it a i
  | .tup a => h.IsTupleIter it a i
theorem Src.It.keep {h h' : Heap} {it i : Nat} (k : ∀ o, h.get? it = some o → h'.get? it = some o) : ∀ {s : Src}, s.It h it i → s.It h' it i
  | .txt _, ⟨t, o, e, r⟩ => ⟨t, o, k o e, r⟩
  | .lst _, ⟨o, e, r⟩ => ⟨o, k o e, r⟩
  | .tup _, ⟨o, e, r⟩ => ⟨o, k o e, r⟩
section
variable {X : Cx} {pins : List (Addr × Obj)} {σ : L2.St} {H : Hp} {s : Shared}
theorem Src.inj (I : Inv X pins σ H s) : ∀ {r : Src} {xs ys : List V}, r.At X.K H xs → r.At X.K H ys → xs = ys
  | .txt _, _, _, h1, h2 => h1.trans h2.symm
  | .lst _, _, _, h1, h2 => I.list_inj h1 h2
  | .tup _, _, _, h1, h2 => I.tuple_inj h1 h2
end
def Src.D (K : PySem.W.Frag) (W : Addr → Prop) (H : Hp) : Src → List Da → Prop
  | .txt x, ds => ds = chrD x
  | .lst a, ds => ∃ vs, Sl K W H a vs ∧ RDs K W H vs ds
  | .tup a, ds => ∃ vs, Sp' K W H a vs ∧ RDs K W H vs ds
theorem Src.D.mono {K : PySem.W.Frag} {F W W' : Addr → Prop} {H H' : Hp} (g : Grow F W H W' H') {ds : List Da} : ∀ {r : Src}, r.D K W H ds → r.D K W' H' ds
  | .txt _, h => h
  | .lst _, ⟨vs, h, k⟩ => ⟨vs, h.mono g, k.mono g⟩
  | .tup _, ⟨vs, h, k⟩ => ⟨vs, h.mono g, k.mono g⟩
theorem chrs_rd {K : PySem.W.Frag} {W : Addr → Prop} {H : Hp} : ∀ l : List Nat, RDs K W H (l.map fun c => V.str ⟨#[c]⟩) (l.map fun c => Da.str ⟨#[c]⟩)
  | [] => .nil
  | _ :: l => .cons (.str _) (chrs_rd l)
theorem Src.D.at {K : PySem.W.Frag} {W : Addr → Prop} {H : Hp} {ds : List Da} : ∀ {r : Src}, r.D K W H ds → ∃ vs, r.At K H vs ∧ RDs K W H vs ds
  | .txt x, h => by
    have h : ds = chrD x := h
    subst h
    exact ⟨_, rfl, chrs_rd _⟩
  | .lst _, ⟨vs, h, k⟩ => ⟨vs, h.sq, k⟩
  | .tup _, ⟨vs, h, k⟩ => ⟨vs, h.sq, k⟩
section
variable {X : Cx} {a b : Expr} {es : List Expr} {fs : DTA} {pos p tpos : Pos} {elts : List Expr} {kk : Nat}
end
end U
set_option Elab.async false
set_option linter.all false
set_option maxRecDepth 100000
set_option maxHeartbeats 2000000
namespace U
open PySem PySem.Spec PyProof.Rows L2
section
variable {X : Cx} {st : Stmt} {t : DTS}
end
end U
set_option Elab.async false
set_option linter.all false
set_option maxRecDepth 100000
set_option maxHeartbeats 2000000
namespace U
open PySem PySem.Spec PyProof.Rows L2
section
variable {X : Cx} {C : Addr} {f : Str} {pos tpos : Pos} {o value : Expr} {ta tv : TE} {fa fv : DTE}
end
end U
set_option Elab.async false
set_option linter.all false
set_option maxRecDepth 100000
set_option maxHeartbeats 2000000
namespace U
open PySem PySem.Spec PyProof.Rows L2
section
variable {X : Cx} {e : Expr} {es : List Expr} {p pos : Pos} {C : Addr} {sp : DSp} {ps : List Str} {k : Nat} {x : Str} {fs : DTA}
end
theorem KnMD.never {P : Program} {w : World} {K : PySem.W.Frag} {mg : Str → Option Value} {base : Heap} {C : Addr} {m qual : Str} {st : Stmt} {N ps : List Str} {k : Nat} {sp : DSp} (F : HasMeth K C m qual st) (S : FnScope N ps (defScope st))
    (hb : ∀ (kV doc pm : Value) (an : Option Addr) (cdv ct : Value) (us : List Value), us.length = ps.length → bindArgs (PySem.W.fnOf m qual (defArgs st) (defBody st) (defScope st) .none kV doc pm an cdv ct) ⟨us, []⟩ = pure (ps.zip us))
    (no : ∀ ds M Q E, ¬ sp ds M Q E) : KnMD P w K mg base C m (k + 1) ps sp :=
  KnownM.of F S hb (lsp_len fun ds M Q E h => (no _ _ _ _ h).elim) fun f cdv A outer s H vs Q E hr ⟨F, W, M, ds, Qd, Ed, r, st, h, kk, kx⟩ => (no _ _ _ _ h).elim
end U
set_option Elab.async false
set_option linter.all false
set_option maxRecDepth 100000
set_option maxHeartbeats 2000000
namespace U
open PySem PySem.Spec PyProof.Rows L2
section
variable {X : Cx}
end
section
variable {X : Cx} {e : Expr} {f : DTE}
end
end U
set_option Elab.async false
set_option linter.all false
set_option maxRecDepth 100000
set_option maxHeartbeats 4000000
namespace PySem.W
open PySem PySem.Spec PySem.Calls PyProof.Rows
section
variable {prog : Program} {w : World} {A : Around} {E : Value → Shared → Prop} {s : Shared} {K : Frag} {x D : Addr} {ox : Obj} {od : Option Obj}
theorem findObj_dataO {C : Addr} {name : Str} {a g : Value} (hc : (clsIn K C).isSome = true) (ha : findIn K (.ref C) name = some (some a)) (hg : specialIn K a "__get__" = some (some g)) (ht : takesIn K a = some true) : findObj K C od name = some (.bind g a) := by
  obtain ⟨cd, hc⟩ := Option.isSome_iff_exists.mp hc
  unfold findObj
  rw [hc, Option.bind_some, ha, Option.bind_some]
  simp [hg, ht]
theorem kin_classO {Q : Option Value → Shared → Prop} (hga : findIn K (.ref D) "__getattribute__" = some (some (.builtin "BaseException.__getattribute__"))) (hgt : findIn K (.ref D) "__getattr__" = some none) (hsub : subIn K (.ref D) (.type "BaseException") = some true)
    (hdct : hasDictIn K D = true) (ha : findIn K (.ref D) "__class__" = some (some (.builtin "object.__class__")))
    (hn : specialIn K (.builtin "object.__class__") "__get__" = some (some (.builtin "getset_descriptor.__get__"))) (htk : takesIn K (.builtin "object.__class__") = some true) (hm : mroIn K D (.type "object") = some true)
    (X : K.In s.heap) (I : InstAt s.heap x ox D od) (h : Q (some (.ref D)) { s with toks := s.toks + 1 }) : wpAny (model prog w) A (getAttr? (.ref x) "__class__") Q E s := by
  have hf : findObj K D od "__class__" = some (.bind (.builtin "getset_descriptor.__get__") (.builtin "object.__class__")) := findObj_dataO (by obtain ⟨cd, hc, _⟩ := any_some hdct; rw [hc]; rfl) ha hn htk
  obtain ⟨hp, g, d, t, os⟩ := s
  have L0 := I.type (M := model prog w)
  have L1 := looks_findIn (M := model prog w) X hga
  have L2 := looks_findIn (M := model prog w) X hgt
  have L3 := looks_find (M := model prog w) X I hf
  have sub : Looks (model prog w) hp (isInstance (.ref x) (.type "BaseException")) true := L0.andThen (looks_subIn X hsub)
  have hx0 : (false && onTheHeap (Value.builtin "BaseException.__getattribute__")) = false := rfl
  have hx2 : (Value.builtin "BaseException.__getattribute__" == Value.builtin "object.__getattribute__") = false := by decide +kernel
  have hx1 : (onTheHeap (Value.ref D) && Value.builtin "BaseException.__getattribute__" == Value.builtin "object.__getattribute__") = false := by rw [hx2]; rfl
  unfold getAttr? getAttrBy? getAttrBy
  refine wpAny_bind (wpAny_mkText (wpAny_bind (wpAny_attempt (wpAny_holding (wpAny_bind (L0.at (wpAny_bind (L1.at ?_))))))))
  show wpAny _ _ (if (onTheHeap (Value.ref D) && Value.builtin "BaseException.__getattribute__" == Value.builtin "object.__getattribute__") = true then _ else _) _ _ _
  rw [hx1, if_neg Bool.false_ne_true]
  unfold getAttrByItsOwn hookBefore
  refine wpAny_bind ?_
  rw [if_pos (show onTheHeap (Value.ref D) = true from rfl)]
  refine L2.at ?_
  refine wpAny_bind (wpAny_attempt (wpAny_holding ?_))
  unfold callGetattribute
  rw [hx0, if_neg Bool.false_ne_true]
  unfold boundAndCalled
  rw [PySem.F.excAttr_ValueError.ga.bind (.ref x)]
  refine wpAny_bind (wpAny_pure ?_)
  show wpAny _ _ (call (.builtin "BaseException.__getattribute__") [.ref x, .str "__class__" t]) _ _ _
  refine wpAny_call (codeAny_call_builtin PySem.F.excAttr_ValueError.ga.plain PySem.F.entry_bexc_ga ?_)
  refine @check_slot (model prog w) _ _ ⟨hp, g, d, t + 1, os⟩ "BaseException.__getattribute__" "BaseException" "__getattribute__" (.ref x) [.str "__class__" t] [] _ (by decide +kernel) (by decide +kernel) sub (PySem.F.args_bexc_ga (.ref x) (.str "__class__" t)) ?_
  unfold Builtin.«object.__getattribute__»
  refine wpAny_bind (wpAny_of_eq (a := ((Value.ref x : Value), [Value.str "__class__" t])) (by first | rfl | (simp only [slotArgs]; rfl)) ?_)
  refine wpAny_bind (wpAny_pure (wpAny_bind (L0.at (wpAny_bind (L3.at ?_)))))
  show wpAny _ _ (holding [Value.builtin "object.__class__"] (call (.builtin "getset_descriptor.__get__") [.builtin "object.__class__", .ref x, .ref D]) >>= ret) _ _ _
  refine wpAny_bind (wpAny_holding (wpAny_call (class_get (s := ⟨hp, g, d, t + 1, os⟩) (ox := ox) (od := od) X I hm ?_)))
  refine wpAny_pure ?_
  show wpAny _ _ (handedOut (.ref D)) _ _ _
  rw [handedOut_of (v := .ref D) rfl]
  first
    | exact wpAny_pure (wpAny_pure h)
    | exact wpAny_pure h
    | exact wpAny_pure (wpAny_bind (wpAny_pure (wpAny_pure h)))
theorem handS_kitx_excO (hga : findIn K (.ref D) "__getattribute__" = some (some (.builtin "BaseException.__getattribute__"))) (hgt : findIn K (.ref D) "__getattr__" = some none) (hsub : subIn K (.ref D) (.type "BaseException") = some true) (hdct : hasDictIn K D = true) (ha : findIn K (.ref D) "__class__" = some (some (.builtin "object.__class__")))
    (hn : specialIn K (.builtin "object.__class__") "__get__" = some (some (.builtin "getset_descriptor.__get__"))) (htk : takesIn K (.builtin "object.__class__") = some true) (hm : mroIn K D (.type "object") = some true) :
    KitX K (.ref x) (.ref D) (fun h => InstAt h x ox D od) where
  ty := fun _ _ _ I => I.type
  it := fun _ _ X _ => by
    obtain ⟨cdD, hcD, _⟩ := any_some hdct
    unfold clsIn at hcD
    split at hcD
    · rename_i c' d' cd' sl' ho
      intro A' Q' E' s' k q
      unfold isType loadHead
      exact wpAny_bind (wpAny_loadPart (k _ _ (X _ _ ho)) (wpAny_pure q))
    · cases hcD
  ne := fun h tp dd its n sl X htp => by
    obtain ⟨cdD, hcD, _⟩ := any_some hdct
    refine Bool.eq_false_iff.mpr fun q => ?_
    have e : D = tp := Value.ref.inj (beq_iff_eq.mp q)
    subst e
    unfold clsIn at hcD
    split at hcD
    · rename_i c' d' cd' sl' ho
      have z := (X _ _ ho).symm.trans htp
      cases z
    · cases hcD
  ca := fun X I k => kin_classO hga hgt hsub hdct ha hn htk hm X I k
end
end PySem.W
namespace U
open PySem PySem.Spec PyProof.Rows L2
section
variable {X : Cx}
/-- isinstance(e, c), e an error of the heap -/
def rIsG (K : PySem.W.Frag) : List V → Hp → VK → Prop := fun xs H Q => ∃ (a C : Addr) (d : Option Addr) (c : V) (cv : Value) (b : Bool), xs = [.ref a, c] ∧ H a = some (exoG a C d) ∧ (∀ dd, d = some dd → ∃ vs, H dd = some (.xd vs)) ∧ ExcC K C ∧ (∀ u, RelV c u → u = cv) ∧ PySem.W.kitOne K (.ref C) cv = some b ∧ Q (.bl b) H
theorem call_isG : CallR X (.builtin "isinstance") (rIsG X.K) := by
  intro pins s σ H xs us Q I r h
  obtain ⟨a, D, d, c, cv, b, rfl, ha, hd, C, hcv, e, q⟩ := h
  cases r with
  | cons rx rr =>
    cases rr with
    | cons rt rr =>
      cases rr
      cases rx
      have ec := hcv _ rt
      subst ec
      obtain ⟨⟨oe, hget, hz, vs, hv⟩, _⟩ := (show ObjOk X.prog X.w H s.heap a (exoG a D d) from I.hok a _ ha)
      obtain ⟨od, J⟩ : ∃ od, PySem.W.InstAt s.heap a oe D od := by
        obtain ⟨oc, oda, odt, osl⟩ := oe
        obtain ⟨h1, h2⟩ := hz
        dsimp only at h1 h2 hv
        subst h1 h2 hv
        cases oda with
        | none => exact ⟨none, hget, rfl, rfl, trivial⟩
        | some dd =>
          obtain ⟨ws, hx⟩ := hd dd rfl
          obtain ⟨mA, n, _⟩ := (show ObjOk X.prog X.w H s.heap dd (.xd ws) from I.hok dd _ hx)
          obtain ⟨o, ho⟩ : ∃ o, s.heap.get? dd = some o := by obtain ⟨_, _, _, e, _⟩ := n; exact ⟨_, e⟩
          exact ⟨some o, hget, rfl, rfl, ho⟩
      exact PySem.W.kia_one (PySem.W.handS_kitx_excO C.hg C.hk C.hs C.hd C.ha C.hn C.ht C.hm) I.kIn J e (fun z => nomatch z) fun tk => ⟨.bl b, H, I.kept (t' := tk) fun _ _ z => z, rfl, q⟩
def kIsG (K : PySem.W.Frag) : DC := fun xs M Q => match xs with
  | [.ref p, .ty T] => ∃ C fs b, M p = some (.exc p C fs) ∧ ExcC K C ∧ PySem.W.kitOne K (.ref C) (.type T) = some b ∧ Q (.bl b) M
  | [.ref p, .ref c] => ∃ C fs b, M p = some (.exc p C fs) ∧ ExcC K C ∧ PySem.W.kitOne K (.ref C) (.ref c) = some b ∧ Q (.bl b) M
  | _ => False
theorem exc_at {K : PySem.W.Frag} {F W : Addr → Prop} {M : Mm} {H : Hp} {p C : Addr} {fs : List (Str × Da)} (s : Stt K F W M H) (hm : M p = some (.exc p C fs)) : ∃ d, H p = some (exoG p C d) ∧ XRd K W H fs d := by
  obtain ⟨u, hu, mr⟩ := s.mem _ _ hm
  cases mr with
  | exc h => exact ⟨_, hu, h⟩
theorem c_disG : CD X (.builtin "isinstance") (kIsG X.K) := cd_imp fun vs H Q ⟨F, W, M, ds, Qd, r, s, h, kk⟩ => by
  unfold kIsG at h
  split at h
  · obtain ⟨C, fs, b, hm, hC, hk, q⟩ := h
    obtain ⟨v, u, rfl, r1, r2⟩ := r.two
    cases r1
    cases r2
    obtain ⟨d, hd, xr⟩ := exc_at s hm
    exact ⟨_, call_isG, _, C, d, .ty _, .type _, b, rfl, hd, (fun dd e => by subst e; exact let ⟨_, ws, _, e, _⟩ := xr; ⟨ws, e⟩), hC, (fun u h => h), hk, kk.now s (.bl _) q⟩
  · obtain ⟨C, fs, b, hm, hC, hk, q⟩ := h
    obtain ⟨v, u, rfl, r1, r2⟩ := r.two
    cases r1
    cases r2
    obtain ⟨d, hd, xr⟩ := exc_at s hm
    exact ⟨_, call_isG, _, C, d, .ref _, .ref _, b, rfl, hd, (fun dd e => by subst e; exact let ⟨_, ws, _, e, _⟩ := xr; ⟨ws, e⟩), hC, (fun u h => h), hk, kk.now s (.bl _) q⟩
  · exact h.elim
end
end U
namespace U
open PySem PySem.Spec PyProof.Rows L2
theorem Inv.at_ {X : Cx} {pins : List (Addr × Obj)} {σ : List (Option V)} {H : Hp} {s s' : Shared} (I : L2.Inv X pins σ H s) (h : s'.heap = s.heap) (o : s'.os = s.os) (b : AllBare s'.gens) : L2.Inv X pins σ H s' :=
  { ok := I.ok, os := o.trans I.os, bare := b, base := by rw [h]; exact I.base, loc := by rw [h]; exact I.loc, cell := by rw [h]; exact I.cell, free := I.free, freeC := I.freeC, pin := by rw [h]; exact I.pin, hok := by rw [h]; exact I.hok, len := I.len }
theorem exoG_ok {P : Program} {w : World} {H : Hp} {h : Heap} {a C : Addr} {d : Option Addr} {oe : Obj} {vs : Array Value} (e : h.get? a = some oe) (z : Zc (.ref C) d oe) (hd : oe.data = .fields vs) : ObjOk P w H h a (exoG a C d) :=
  ⟨⟨oe, e, z, vs, hd⟩, ⟨oe, e⟩, fun _ _ ⟨o, e, r⟩ k => ⟨o, k o e, r⟩⟩
section
variable {X : Cx}
/-- an error that is made and stays a value -/
theorem pe_excG {e : Expr} {t : L2.St → Hp → XK → Prop} (he : PMk X e t) : PE X e (fun σ H Q => t σ H fun cls d H' => ∃ C, cls = .ref C ∧ ∀ a, H' a = none → Q (.ref a) (upd H' a (exoG a C d))) := by
  refine ⟨fun pins s σ H Q I h => wpAny_mono (he pins s σ H _ I h) (fun u s1 hu => ?_) fun _ _ x => x⟩
  obtain ⟨a, oe, vs, sI, H', cls, d, rfl, J, k, hne, ha, hz, hd, h1, na, os, ag, r, C, rfl, q⟩ := hu
  have J2 := J.laidN (t' := sI.toks) k hne na (exoG_ok (P := X.prog) (w := X.w) (H := upd H' a (exoG a C d)) ha hz hd)
  exact ⟨.ref a, _, Inv.at_ J2 rfl os ag, rfl, q a na⟩
variable {B newId initId : String} {tl : List Value} {C fI : Addr} {k : Nat} {fd : FuncData} {x f : Str} {e : Expr} {fe : DTE} {p pos : Pos}
/-- C(e), an error class with an own __init__ that keeps its argument -/
def gNewV (C : Addr) (f : Str) (fd : DTE) : DTE := fun δ M Q => gCons fd gNil δ M fun ds M1 => ∃ y, ds = [y] ∧ ∀ p, M1 p = none → Q (.ref p) (mput M1 p (.exc p C [(f, y)]))
theorem d_newV (T : OexT X.K C B newId initId tl) (iC : PySem.W.findIn X.K (.ref C) "__init__" = some (some (.ref fI))) (tI : PySem.W.typeIn X.K (.ref fI) = some (.type "function"))
    (F1 : FnOk X.prog X.w X.K X.mg X.base CX0 k fI fd ["self", f] (spErr C f)) (hr : Room (k + 1) X.A) (hb : Binds X.K fd ["self", f] []) (hg : Gl X x) (hm : X.mg x = some (.ref C)) (he : DE X e fe)
    (hx : Passes CX0 X (fun _ _ _ => False)) (hdb : (x == ("__debug__" : Str)) = false := by decide) (hst : starEach [e] X.env = (false, eval e X.env) :: starEach [] X.env := by rfl) (hpl : (backTo pos (starEach [] X.env)).any (·.1) = false := by rfl) :
    DE X (.Call (.Name x p) [e] [] pos) (gNewV C f fe) :=
  imp (pe_excG (pmk_oexT (ds := []) (dvs := []) T iC tI F1 hr hb .nil hx hg hm (d_cons (hs := hst) he d_nil) hdb hst hpl)) fun σ H Q ⟨δ, F, W, M, Qd, ev, s, h, kk⟩ => by
    refine ⟨δ, F, W, M, _, ev, s, h, fun vs H1 W1 ds M1 g1 s1 r1 ⟨y, e, q⟩ => ?_⟩
    subst e
    obtain ⟨v, rfl, r⟩ := RDs.one r1
    refine ⟨by simp, fun a ha => ⟨a, v, rfl, upd_same, fun dx hd hne => ?_⟩⟩
    have hd1 : H1 dx = none := by rw [upd_ne hne] at hd; exact hd
    refine ⟨rfl, dx, [(f, v)], upd_same, by rw [upd_ne hne, upd_same], hd1, ?_⟩
    have eH : upd (del (upd (upd (upd H1 a (exo a C none)) dx (exd dx [(f, v)])) a (exo a C (some dx))) a) dx (.xd [(f, v)]) = upd H1 dx (.xd [(f, v)]) := by
      funext b
      by_cases h1 : b = dx
      · rw [h1, upd_same, upd_same]
      · rw [upd_ne h1, upd_ne h1]
        by_cases h2 : b = a
        · rw [h2, del_same, ha]
        · rw [del_ne h2, upd_ne h2, upd_ne h1, upd_ne h2]
    rw [eH]
    have hF : ¬ F dx := s1.freeF hd1
    obtain ⟨s3, g3⟩ := (s1.addF hd1 (.xd [(f, v)])).endW hF (by intro o e; rw [upd_same] at e; cases e; exact trivial)
    have g := (grow_new (o := .xd [(f, v)]) s1 hd1).trans g3
    refine ⟨C, rfl, fun b hb => ?_⟩
    have s5 := s3.newM hb (.exc (a := b) (C := C) (d := some dx) (fs := [(f, y)]) ⟨by simp, [(f, v)], .inl rfl, upd_same, .cons (r.mono g) .nil⟩)
    exact (kk.mono ((g1.trans g).trans (grow_new s3 hb))).now s5 (.ref b) (q b (s3.freeM hb))
end
end U
namespace U
open PySem PySem.Spec PyProof.Rows L2
section
variable {X : Cx}
/-- C(e), an own error class (WB) -/
theorem d_newE {k : Nat} {x f : Str} {C : Addr} {e : Expr} {fe : DTE} {p pos : Pos} (D : KnErr X.prog X.w X.K X.mg X.base x C f k) (hr : Room (k + 1) X.A) (he : DE X e fe) (hg : Gl X x := by rfl)
    (hdb : (x == ("__debug__" : Str)) = false := by decide) (hst : starEach [e] X.env = (false, eval e X.env) :: starEach [] X.env := by rfl) (hpl : (backTo pos (starEach [] X.env)).any (·.1) = false := by rfl) :
    DE X (.Call (.Name x p) [e] [] pos) (gNewV C f fe) := by
  obtain ⟨B, newId, initId, tl, fI, fd, T, iC, tI, F1, b, m⟩ := D.ex
  exact d_newV T iC tI F1 hr b hg m he pass0 hdb hst hpl
/-- C(e), an own error class without own __init__ -/
theorem pe_excP {C : Addr} {bmB : List Value} {B newId initId : String} {x : Str} {e : Expr} {ta : TE} {p pos : Pos} (F : ExcBaseFacts B newId initId bmB) (q : PySem.W.excIn X.K C bmB newId = true) (gC : X.mg x = some (.ref C)) (kC : PySem.W.keepIn X.K (.ref C) = true) (hg : Gl X x)
    (he : PE X e ta) (hs : starEach [e] X.env = (false, eval e X.env) :: starEach [] X.env := by rfl) (hdb : (x == ("__debug__" : Str)) = false := by decide) :
    PE X (.Call (.Name x p) [e] [] pos) (fun σ H Q => ta σ H fun _ H1 => ∀ a, H1 a = none → Q (.ref a) (upd H1 a (exoG a C none))) := by
  refine ⟨fun pins s σ H Q I h => ?_⟩
  refine wpAny_Call_Name_kw (ld_glob I hg gC ?_ hdb)
  refine PySem.W.callWith_K (h₀ := X.base) I.ok.mod.kin kC ?_ hs (by rfl)
  rw [hs]
  show wpAny _ _ (PySem.spliced ((false, eval e X.env) :: backTo pos (starEach [] X.env))) _ _ s
  refine Calls.spliced_cons (thn (he.run pins s σ H _ I h) fun u s1 ⟨v, H1, I1, r1, q1⟩ => ?_)
  refine Calls.spliced_nil ⟨I1.kIn, ?_⟩
  show wpAny _ _ (PySem.call (.ref C) [u]) _ _ _
  obtain ⟨bm, N, nm, qn, bs, hdct, sn, sub, ab, col, dd, k0, k1, k2, k3, k5, mN, hC, hN, hni, T⟩ := exc_obj I1.kIn q
  refine wpAny_call_exc_subT F T hC hN hni (fun h' a hm => ?_) (by show 1 ≤ sizeLine; rw [sizeLine_eq]; omega)
  have hn : H1 a = none := I1.hok.gone hm.new
  obtain ⟨t, ht, _, _⟩ := hm.there
  exact ⟨.ref a, upd H1 a (exoG a C none), I1.laidN hm.keeps hm.new hn (exoG_ok ht ⟨rfl, rfl⟩ rfl), rfl, q1 a hn⟩
def gNewP (C : Addr) (fd : DTE) : DTE := fun δ M Q => fd δ M fun _ M1 => ∀ p, M1 p = none → Q (.ref p) (mput M1 p (.exc p C []))
theorem d_newP {C : Addr} {x : Str} {e : Expr} {fe : DTE} {p pos : Pos} (M : MgOf X.K X.mg) (c : XCls X.K x C) (he : DE X e fe) (hg : Gl X x := by rfl)
    (hs : starEach [e] X.env = (false, eval e X.env) :: starEach [] X.env := by rfl) (hdb : (x == ("__debug__" : Str)) = false := by decide) :
    DE X (.Call (.Name x p) [e] [] pos) (gNewP C fe) :=
  imp (pe_excP PySem.F.excBase_ValueError c.exc (M.of _ _ c.at_) c.kp hg he hs hdb) fun σ H Q ⟨δ, F, W, M, Qd, ev, s, h, kk⟩ =>
    ⟨δ, F, W, M, _, ev, s, h, fun v H1 W1 d M1 g1 s1 r1 q => fun a ha => by
      have s5 := s1.newM ha (.exc (a := a) (C := C) (d := none) (fs := []) rfl)
      exact (kk.mono (g1.trans (grow_new s1 ha))).now s5 (.ref a) (q a (s1.freeM ha))⟩
/-- e.f of an error of the heap -/
def tXg (K : PySem.W.Frag) (C : Addr) (n : Str) (te : TE) : TE := fun σ H Q => te σ H fun x H1 => ∃ a dd fs v, x = .ref a ∧ H1 a = some (exoG a C (some dd)) ∧ H1 dd = some (.xd fs) ∧ fs.lookup n = some v ∧ Q v H1
theorem pe_xg {C : Addr} {e : Expr} {te : TE} {pos : Pos} {n : Str} (T : XfC X.K C) (hno : PySem.W.findIn X.K (.ref C) n = some none) (he : PE X e te) (hb : attributeBase e n X.env (eval e X.env) = eval e X.env := by rfl) :
    PE X (.Attribute e n pos) (tXg X.K C n te) := by
  refine ⟨fun pins s σ H Q I h => ?_⟩
  refine attr_of hb (thn (he.run pins s σ H _ I h) fun u s1 hh => ?_)
  obtain ⟨x, H1, I1, rx, a, dd, fs, v, ex, e0, ea, l, q⟩ := hh
  subst ex
  obtain rfl : u = Value.ref a := rx
  obtain ⟨⟨oe, ha, hz, vs, hd⟩, _⟩ := (show ObjOk X.prog X.w H1 s1.heap a (exoG a C (some dd)) from I1.hok a _ e0)
  have hx : ObjOk X.prog X.w H1 s1.heap dd (.xd fs) := I1.hok dd _ ea
  obtain ⟨mA, hns, hr⟩ := hx
  obtain ⟨od, ho, hl⟩ := lookIn_ns hns
  obtain ⟨u, hu, ru⟩ := RelO.some_of (v := v) (o := mA n) (by rw [← l]; exact hr n)
  have J : PySem.W.InstAt s1.heap a oe C (some od) := ⟨ha, hz.1, by unfold PySem.W.notCls; rw [hd] <;> rfl, by rw [hz.2]; exact ho⟩
  exact HandSPX.exc_get I1.kIn J T.ga T.gg T.exC (PySem.W.findObj_own T.hdC hno rfl (by rw [hl, hu])) (handed_of ru) ⟨v, H1, I1.tok _, ru, q⟩
def gXg (C : Addr) (f : Str) (fe : DTE) : DTE := fun δ M Q => fe δ M fun x M1 => ∃ p fs y, x = .ref p ∧ M1 p = some (.exc p C fs) ∧ fs.lookup f = some y ∧ Q y M1
theorem d_xg {C : Addr} {e : Expr} {fe : DTE} {pos : Pos} {f : Str} (T : XfC X.K C) (hno : PySem.W.findIn X.K (.ref C) f = some none) (he : DE X e fe) (hb : attributeBase e f X.env (eval e X.env) = eval e X.env := by rfl) : DE X (.Attribute e f pos) (gXg C f fe) :=
  imp (pe_xg T hno he hb) fun σ H Q ⟨δ, F, W, M, Qd, ev, s, h, k⟩ => ⟨δ, F, W, M, _, ev, s, h, fun v H1 W1 x M1 g1 s1 r1 ⟨p, fs, y, ex, hm, hl, q⟩ => by
    subst ex
    cases r1
    obtain ⟨d, hd, xr⟩ := exc_at s1 hm
    cases d with
    | none => rw [show fs = [] from xr] at hl; cases hl
    | some dd =>
      obtain ⟨_, ws, _, hx, rf⟩ := xr
      obtain ⟨v, hv, rv⟩ := RF.lk rf hl
      exact ⟨p, dd, ws, v, rfl, hd, hx, hv, (k.mono g1).now s1 rv q⟩⟩
end
end U
set_option Elab.async false
set_option linter.all false
set_option maxRecDepth 100000
set_option maxHeartbeats 2000000
namespace U
open PySem PySem.Spec PyProof.Rows L2
section
variable {X : Cx} {e : Expr} {es : List Expr} {ta : TA} {p1 p2 pos : Pos} {D : Addr} {mc : Value}
theorem pe_binitC {pl : Sem Bool} {nB : Str} (hg : Gl X nB) (hm : X.mg nB = some (.ref D)) (hdb : (nB == ("__debug__" : Str)) = false) (rd : PySem.W.readsIn X.K D mc = true) (rg : PySem.W.specialIn X.K (.ref D) "__getattribute__" = some (some (.builtin "type.__getattribute__"))) (vV : PySem.W.findCls X.K (.ref D) mc "__init__" = some (.val (.builtin "ValueError.__init__"))) (ha : PA X (e :: es) ta)
    (hc : eval (.Call (.Attribute (.Name nB p1) "__init__" p2) (e :: es) [] pos) X.env = (do
      let ov ← eval (.Name nB p1) X.env
      standAt p2.atName
      let (f, first) ← holding [ov] (getMethod ov "__init__" pl)
      callWith pos f first (backTo pos (starEach (e :: es) X.env)) (backToKw pos (keywordEach [] X.env))) := by rfl)
    (he : starEach (e :: es) X.env = (false, eval e X.env) :: starEach es X.env := by rfl) (hpl : (backTo pos (starEach es X.env)).any (·.1) = false := by rfl) :
    PE X (.Call (.Attribute (.Name nB p1) "__init__" p2) (e :: es) [] pos) (tVeI X.K ta) := by
  refine ⟨fun pins s σ H Q I h => ?_⟩
  refine PySem.W.methodCall_KW (ld_glob I hg hm ?_ hdb) hc
  refine PySem.W.method_cls I.kIn rg (PySem.W.cls_value I.kIn rd vV (by decide +kernel) ?_)
  show wpAny _ _ (callWith pos (Value.builtin "ValueError.__init__") [] (backTo pos (starEach (e :: es) X.env)) []) _ _ _
  refine PyProof.Rows.callWith_method1 (thn (ha.run pos pins _ σ H _ (I.tok _) h) fun us s1 ⟨vs, H1, I1, r1, a, C, ws, ev, hl, T, ea, q⟩ => ?_) he hpl
  subst ev
  cases r1 with
  | @cons _ u0 _ ur ra rw' =>
    obtain rfl : u0 = Value.ref a := ra
    have hlen : ur.length ≤ sizeLine := by
      rw [← Paired.length rw', sizeLine_eq]
      omega
    exact oinit_ok T I1 ea hlen fun s' J => ⟨.non, H1, J, rfl, q⟩
variable {C fI : Addr} {k : Nat} {fd : FuncData} {x f : Str} {fe : DTE} {p : Pos}
theorem d_newW (T : OexC X.K C) (iC : PySem.W.findIn X.K (.ref C) "__init__" = some (some (.ref fI))) (tI : PySem.W.typeIn X.K (.ref fI) = some (.type "function"))
    (F1 : FnOk X.prog X.w X.K X.mg X.base CX0 k fI fd ["self", f] (spErr C f)) (hr : Room (k + 1) X.A) (hb : Binds X.K fd ["self", f] []) (hg : Gl X x) (hm : X.mg x = some (.ref C)) (he : DE X e fe)
    (hx : Passes CX0 X (fun _ _ _ => False)) (hdb : (x == ("__debug__" : Str)) = false := by decide) (hst : starEach [e] X.env = (false, eval e X.env) :: starEach [] X.env := by rfl) (hpl : (backTo pos (starEach [] X.env)).any (·.1) = false := by rfl) :
    DE X (.Call (.Name x p) [e] [] pos) (gNewV C f fe) :=
  imp (pe_excG (pmk_oex (ds := []) (dvs := []) T iC tI F1 hr hb .nil hx hg hm (d_cons (hs := hst) he d_nil) hdb hst hpl)) fun σ H Q ⟨δ, F, W, M, Qd, ev, s, h, kk⟩ => by
    refine ⟨δ, F, W, M, _, ev, s, h, fun vs H1 W1 ds M1 g1 s1 r1 ⟨y, e, q⟩ => ?_⟩
    subst e
    obtain ⟨v, rfl, r⟩ := RDs.one r1
    refine ⟨by simp, fun a ha => ⟨a, v, rfl, upd_same, fun dx hd hne => ?_⟩⟩
    have hd1 : H1 dx = none := by rw [upd_ne hne] at hd; exact hd
    refine ⟨rfl, dx, [(f, v)], upd_same, by rw [upd_ne hne, upd_same], hd1, ?_⟩
    have eH : upd (del (upd (upd (upd H1 a (exo a C none)) dx (exd dx [(f, v)])) a (exo a C (some dx))) a) dx (.xd [(f, v)]) = upd H1 dx (.xd [(f, v)]) := by
      funext b
      by_cases h1 : b = dx
      · rw [h1, upd_same, upd_same]
      · rw [upd_ne h1, upd_ne h1]
        by_cases h2 : b = a
        · rw [h2, del_same, ha]
        · rw [del_ne h2, upd_ne h2, upd_ne h1, upd_ne h2]
    rw [eH]
    have hF : ¬ F dx := s1.freeF hd1
    obtain ⟨s3, g3⟩ := (s1.addF hd1 (.xd [(f, v)])).endW hF (by intro o e; rw [upd_same] at e; cases e; exact trivial)
    have g := (grow_new (o := .xd [(f, v)]) s1 hd1).trans g3
    refine ⟨C, rfl, fun b hb => ?_⟩
    have s5 := s3.newM hb (.exc (a := b) (C := C) (d := some dx) (fs := [(f, y)]) ⟨by simp, [(f, v)], .inl rfl, upd_same, .cons (r.mono g) .nil⟩)
    exact (kk.mono ((g1.trans g).trans (grow_new s3 hb))).now s5 (.ref b) (q b (s3.freeM hb))
end
/-- B.__init__(self, x); self.f = x, B a class of the text over ValueError -/
def errV (K : PySem.W.Frag) (f : Str) : TS := tSeq (tDrop (tVeI K (tCons (tVar 0) (tCons (tVar 1) tNil)))) (tOst K f (tVar 0) (tVar 1))
theorem err_endV {K : PySem.W.Frag} {C : Addr} {f : Str} {N : List Str} {a : Addr} {v : V} {Q : VK} {H : Hp} (T : OexC K C) (hno : PySem.W.findIn K (.ref C) f = some none)
    (ha : H a = some (exo a C none)) (q : ∀ dx, H dx = none → dx ≠ a → Q .non (upd (upd H dx (exd dx [(f, v)])) a (exo a C (some dx)))) : errV K f { nx := fun _ H' => Q .non H', rt := Q } (start N [.ref a, v]) H :=
  ⟨.ref a, rfl, v, rfl, a, C, [v], rfl, by simp, T, ha, v, rfl, .ref a, rfl, a, C, rfl, T, hno, .inl ⟨ha, q⟩⟩
end U
namespace U
open PySem PySem.Spec PyProof.Rows L2
/-- what the text must say of an error class over a class of the text over ValueError -/
structure XErrW (K : PySem.W.Frag) (x : Str) (C : Addr) (qual : Str) (st : Stmt) (f : Str) (D : Addr) : Prop where
  at_ : PySem.W.nsIn K mainGlobals x = some (some (.ref C))
  T : OexC K C
  meth : ∃ fI fd, Fun K "__init__" qual st fI fd ∧ PySem.W.findIn K (.ref C) "__init__" = some (some (.ref fI)) ∧ PySem.W.typeIn K (.ref fI) = some (.type "function")
  no : PySem.W.findIn K (.ref C) f = some none
  rd : PySem.W.readsIn K D (.type "type") = true
  rg : PySem.W.specialIn K (.ref D) "__getattribute__" = some (some (.builtin "type.__getattribute__"))
  vV : PySem.W.findCls K (.ref D) (.type "type") "__init__" = some (.val (.builtin "ValueError.__init__"))
  xf : XfC K C
theorem xerrw_mk {K : PySem.W.Frag} {x : Str} {C D : Addr} {qual : Str} {st : Stmt} {f : Str} {nm q : Str} {N : Addr} {bs bm : List Value} {sn : List Str} {sub : List Value} {ab : Bool} {col : Option Bool} {dd : Option Addr} {k0 k1 k2 k3 k5 : Option Value}
    {fI : Addr} {oc : Value} {od an : Option Addr} {osl : Array (Option Value)} {kV doc pm cdv ct : Value} (qa : PySem.W.nsIn K mainGlobals x = some (some (.ref C))) (ql : K.lookup C = some (excClassObj nm q C N bs bm true sn sub ab col dd k0 k1 k2 k3 k5 "ValueError.__new__")) (qb : PySem.HandSPX.refsVE bm = true)
    (qs : PySem.W.findIn K (.ref C) "__setattr__" = some (some (.builtin "object.__setattr__"))) (qe : PySem.W.subIn K (.ref C) (.type "BaseException") = some true) (qt : PySem.W.typeIn K (.ref C) = some (.type "type")) (qk : PySem.W.keepIn K (.ref C) = true)
    (qi : PySem.W.findIn K (.ref C) "__init__" = some (some (.ref fI))) (qm : K.lookup fI = some ⟨oc, od, .func (PySem.W.fnOf "__init__" qual (defArgs st) (defBody st) (defScope st) .none kV doc pm an cdv ct), osl⟩) (qc : PySem.W.codeIn K cdv qual = true) (qf : PySem.W.keepIn K (.ref fI) = true)
    (qy : PySem.W.typeIn K (.ref fI) = some (.type "function")) (qn : PySem.W.findIn K (.ref C) f = some none) (qr : PySem.W.readsIn K D (.type "type") = true) (qw : PySem.W.specialIn K (.ref D) "__getattribute__" = some (some (.builtin "type.__getattribute__")))
    (qv : PySem.W.findCls K (.ref D) (.type "type") "__init__" = some (.val (.builtin "ValueError.__init__")))
    (qg : PySem.W.findIn K (.ref C) "__getattribute__" = some (some (.builtin "BaseException.__getattribute__"))) (qh : PySem.W.findIn K (.ref C) "__getattr__" = some none) (qd : PySem.W.hasDictIn K C = true) : XErrW K x C qual st f D :=
  ⟨qa, ⟨⟨_, _, _, _, _, _, _, _, _, _, _, _, _, _, _, ql, qb⟩, qs, qe, qt, qk⟩, ⟨_, _, fun_mk qm qc qf, qi, qy⟩, qn, qr, qw, qv, ⟨qg, qh, qe, qd⟩⟩
/-- an own error class, its __init__ walked -/
structure KnErrW (P : Program) (w : World) (K : PySem.W.Frag) (mg : Str → Option Value) (base : Heap) (x : Str) (C : Addr) (f : Str) (k : Nat) : Prop where
  ex : ∃ (fI : Addr) (fd : FuncData), OexC K C ∧ PySem.W.findIn K (.ref C) "__init__" = some (some (.ref fI)) ∧ PySem.W.typeIn K (.ref fI) = some (.type "function") ∧
    FnOk P w K mg base CX0 k fI fd ["self", f] (spErr C f) ∧ Binds K fd ["self", f] [] ∧ mg x = some (.ref C)
theorem KnErrW.of {P : Program} {w : World} {K : PySem.W.Frag} {mg : Str → Option Value} {base : Heap} {x : Str} {C D : Addr} {qual : Str} {st : Stmt} {f : Str} {N : List Str} (F : XErrW K x C qual st f D) (M : MgOf K mg)
    (S : FnScope N ["self", f] (defScope st))
    (hb : ∀ (kV doc pm : Value) (an : Option Addr) (cdv ct : Value) (us : List Value), us.length = (["self", f] : List Str).length → bindArgs (PySem.W.fnOf "__init__" qual (defArgs st) (defBody st) (defScope st) .none kV doc pm an cdv ct) ⟨us, []⟩ = pure ((["self", f] : List Str).zip us))
    (hbody : ∀ (fI : Addr) (cdv : Value) (A : Around) (outer : List Env) (s : Shared) (H : Hp) (E : XK), ∃ t, PSs (cxOf CX0 P w K mg base N qual (defScope st) fI cdv A outer s H E).nox (defBody st) t ∧
      ∀ (a : Addr) (v : V) (Q : VK), H a = some (exo a C none) → (∀ dx, H dx = none → dx ≠ a → Q .non (upd (upd H dx (exd dx [(f, v)])) a (exo a C (some dx)))) → t { nx := fun _ H' => Q .non H', rt := Q } (start N [.ref a, v]) H) : KnErrW P w K mg base x C f 1 := by
  obtain ⟨fI, fd, G, iC, tI⟩ := F.meth
  refine ⟨fI, fd, F.T, iC, tI, G.ok S (fun vs H Q E ⟨a, v, e, _⟩ => by rw [e]; rfl) (fun cdv A outer s H vs Q E hr ⟨a, v, e, ha, q⟩ => ?_), G.binds hb, M.of _ _ F.at_⟩
  obtain ⟨t, d, k⟩ := hbody fI cdv A outer s H E
  subst e
  exact ⟨t, d, k a v Q ha q⟩
end U
namespace U
open PySem PySem.Spec PyProof.Rows L2
/-- C(e), C an error class over a class of the text -/
theorem d_newF {X : Cx} {k : Nat} {x f : Str} {C : Addr} {e : Expr} {fe : DTE} {p pos : Pos} (D : KnErrW X.prog X.w X.K X.mg X.base x C f k) (hr : Room (k + 1) X.A) (he : DE X e fe) (hg : Gl X x := by rfl)
    (hdb : (x == ("__debug__" : Str)) = false := by decide) (hst : starEach [e] X.env = (false, eval e X.env) :: starEach [] X.env := by rfl) (hpl : (backTo pos (starEach [] X.env)).any (·.1) = false := by rfl) :
    DE X (.Call (.Name x p) [e] [] pos) (gNewV C f fe) := by
  obtain ⟨fI, fd, T, iC, tI, F1, b, m⟩ := D.ex
  exact d_newW T iC tI F1 hr b hg m he pass0 hdb hst hpl
end U
set_option Elab.async false
set_option linter.all false
set_option maxRecDepth 100000
set_option maxHeartbeats 4000000
namespace U
open PySem PySem.Spec PyProof.Rows L2
inductive PDi : List Da → List PyData → Prop
  | nil : PDi [] []
  | cons {d : Da} {ds : List Da} {x : PyData} {xs : List PyData} : PD d x → (x.hasDict = false ∨ d = .dct []) → PDi ds xs → PDi (d :: ds) (x :: xs)
section
variable {X : Cx} {pins : List (Addr × Obj)} {σ : L2.St} {H : Hp} {s : Shared} {W : Addr → Prop}
theorem reads_it (I : Inv X pins σ H s) {v : V} {d : Da} {p : PyData} {u : Value} (rd : RD X.K W H v d) (pd : PD d p) (c : p.hasDict = false ∨ d = .dct []) (ru : RelV v u) : ∃ as, Reads s.heap u p as ∧ (p.hasDict = true → sysModules ∉ as) := by
  rcases c with hd | rfl
  · obtain ⟨as, ra⟩ := reads_of I rd pd hd ru
    exact ⟨as, ra, PyData.noDict_hsm hd⟩
  · cases pd
    cases rd with
    | dct w h rk =>
      cases ru
      cases rk
      obtain ⟨ra, hm⟩ := reads_dct I h
      exact ⟨_, ra, fun _ z => hm (List.mem_singleton.mp z)⟩
theorem reprk_items (I : Inv X pins σ H s) : ∀ {vs : List V} {ds : List Da} {ps : List PyData} {us : List Value}, RDs X.K W H vs ds → PDi ds ps → Vals vs us → PyData.showableAll ps = true → (∀ t ∈ PyData.shownAll ps, t.length ≤ sizeLine) →
    ∃ as bs, ReadsAll s.heap us ps as ∧ ReadAtMost s.heap (PyData.depthAll ps) bs ∧ ReprAllK X.prog X.w bs s.heap (PyData.depthAll ps) us (PyData.shownAll ps)
  | _, _, _, _, .nil, .nil, r, _, _ => by
    cases r
    exact ⟨[], [], .nil, (fun _ h => nomatch h), by simp only [PyData.shownAll]; exact .nil⟩
  | _, _, _, _, .cons h k, .cons (x := d) (xs := ds) p c q, r, hs, hz => by
    cases r with
    | cons r rr =>
      have hs' : d.showable = true ∧ PyData.showableAll ds = true := by simpa [PyData.showableAll] using hs
      obtain ⟨a1, r1, m1⟩ := reads_it I h p c r
      obtain ⟨b1, hb1, k1⟩ := ReprK.of_reads (prog := X.prog) (w := X.w) r1 hs'.1 m1 (hz _ (by simp only [PyData.shownAll]; exact List.mem_cons_self ..))
      obtain ⟨a2, b2, r2, hb2, k2⟩ := reprk_items I k q rr hs'.2 (fun t ht => hz t (by simp only [PyData.shownAll]; exact List.mem_cons_of_mem _ ht))
      refine ⟨_, b1 ++ b2, .cons r1 r2, ?_, ?_⟩
      · intro b hm
        simp only [PyData.depthAll]
        rcases List.mem_append.mp hm with hm | hm
        · obtain ⟨d', as', r', hd'⟩ := hb1 b hm
          exact ⟨d', as', r', Nat.le_trans hd' (Nat.le_max_left _ _)⟩
        · obtain ⟨d', as', r', hd'⟩ := hb2 b hm
          exact ⟨d', as', r', Nat.le_trans hd' (Nat.le_max_right _ _)⟩
      · simp only [PyData.depthAll, PyData.shownAll]
        exact .cons ((k1.more fun b hb => List.mem_append_left _ hb).level_le (Nat.le_max_left _ _)) (k2.more_le (fun b hb => List.mem_append_right _ hb) (Nat.le_max_right _ _))
end
structure ShwL (ds : List Da) (ps : List PyData) : Prop where
  pd : PDi ds ps
  sh : PyData.showableAll ps = true
  sz : (PyData.list ps).shown.length ≤ sizeLine
  dp : (PyData.list ps).depth ≤ 20
def kReprL : DC := fun xs M Q => match xs with
  | [.lst ds] => ∃ ps, ShwL ds ps ∧ Q (.str (PyData.list ps).shown) M
  | _ => False
def rReprL (K : PySem.W.Frag) : List V → Hp → VK → Prop := fun xs H Q => ∃ v ds ps W, xs = [v] ∧ RD K W H v (.lst ds) ∧ ShwL ds ps ∧ Q (.str (PyData.list ps).shown) H
section
variable {X : Cx}
theorem c_reprL (hgd : X.A.guards = some []) (hu : X.A.units + 64 < cLine) : CallR X (.builtin "repr") (rReprL X.K) := by
  intro pins s σ H xs us Q I r h
  obtain ⟨v, ds, ps, W, rfl, rd, sw, q⟩ := h
  have hsz := sw.sz
  have hdp := sw.dp
  obtain ⟨u, rfl, ru⟩ := vals1 r
  cases rd with
  | lst hs rv =>
    cases ru
    obtain ⟨its, rr, ⟨o, n, h1, h2, _, h3⟩, _⟩ := I.list hs.sq
    have hz' : (listText (PyData.shownAll ps)).length ≤ sizeLine := by simpa only [PyData.shown] using hsz
    obtain ⟨as, bs, h4, hb, hk⟩ := reprk_items I rv sw.pd rr sw.sh (fun t ht => Nat.le_trans (listText_mem_le ht) hz')
    have hna := not_mem_of_deeper (Reads.list h1 h2 h3 h4) (by simp only [PyData.depth]; omega) hb
    refine call_repr_slot (by omega) ⟨o, h1, h2⟩ F.slot_list_repr.toG ?_
    simp only [PyData.depth] at hdp
    cases its with
    | nil =>
      cases h4
      refine call_list_repr_empty ⟨o, h1, h2⟩ h1 h3 ?_
      have q' : Q (.str (PyData.list []).shown) H := q
      simp only [PyData.shown, PyData.shownAll, listText_nil] at q'
      exact ⟨_, _, rfl, .str _, H, I.tok _, ⟨_, rfl⟩, q'⟩
    | cons x l =>
      refine call_list_reprK h1 h2 h3 hna (by simpa using hk.length_eq) (fun i y e => hk.item i y (by simpa using e)) hgd (fun b _ => Clear.nil b) (by show X.A.units + 1 + _ < cLine; omega) (fun _ _ e => e) (fun h' u tk hkp => ?_) hz'
      have q' : Q (.str (PyData.list ps).shown) H := q
      simp only [PyData.shown] at q'
      exact ⟨_, _, rfl, .str _, H, I.kept hkp, ⟨_, rfl⟩, q'⟩
theorem c_dreprL (hgd : X.A.guards = some []) (hu : X.A.units + 64 < cLine) : CD X (.builtin "repr") kReprL := cd_imp fun vs H Q ⟨F, W, M, ds, Qd, r, s, h, kk⟩ => by
  refine ⟨_, c_reprL hgd hu, ?_⟩
  unfold kReprL at h
  split at h
  · obtain ⟨v, rfl, r1⟩ := r.one
    obtain ⟨ps, sw, q⟩ := h
    exact ⟨v, _, ps, W, rfl, r1, sw, kk.now s (.str _) q⟩
  · exact h.elim
end
end U
set_option Elab.async false
set_option linter.all false
set_option maxRecDepth 100000
set_option maxHeartbeats 4000000




namespace K00
open PySem PySem.Spec PyProof.Rows L2 U
def top (i : Nat) : Stmt := PySem.Challenge.pw_blockshanded_k00_errors_and_what_they_ke.main.body.getD i (.Pass ⟨0, 0, 0, 0⟩)
abbrev s_ParseError___init__ : Stmt := inClass (top 6) 0
abbrev s_UnknownName___init__ : Stmt := inClass (top 7) 0
abbrev s_InvalidNumber___init__ : Stmt := inClass (top 8) 0
abbrev s_NothingToUndo___init__ : Stmt := inClass (top 9) 0
abbrev s_Refused___init__ : Stmt := inClass (top 10) 0
abbrev s_TooMany___init__ : Stmt := inClass (top 11) 0
abbrev s__law_numbers : Stmt := top 13
abbrev s__law_cast : Stmt := top 14
abbrev s__law_pick : Stmt := top 15
abbrev s__law_of_hands : Stmt := top 16
abbrev s__law_of_others : Stmt := top 17
abbrev s__law_right : Stmt := top 18
abbrev s_law : Stmt := top 19
abbrev N_ParseError___init__ : List Str := ["self", "line"]
theorem sc_ParseError___init__ : FnScope N_ParseError___init__ ["self", "line"] (defScope s_ParseError___init__) := ⟨rfl, rfl, rfl, by decide +kernel, rfl, by decide +kernel, by decide +kernel⟩
abbrev N_UnknownName___init__ : List Str := ["self", "name"]
theorem sc_UnknownName___init__ : FnScope N_UnknownName___init__ ["self", "name"] (defScope s_UnknownName___init__) := ⟨rfl, rfl, rfl, by decide +kernel, rfl, by decide +kernel, by decide +kernel⟩
abbrev N_InvalidNumber___init__ : List Str := ["self", "value"]
theorem sc_InvalidNumber___init__ : FnScope N_InvalidNumber___init__ ["self", "value"] (defScope s_InvalidNumber___init__) := ⟨rfl, rfl, rfl, by decide +kernel, rfl, by decide +kernel, by decide +kernel⟩
abbrev N_NothingToUndo___init__ : List Str := ["self", "many"]
theorem sc_NothingToUndo___init__ : FnScope N_NothingToUndo___init__ ["self", "many"] (defScope s_NothingToUndo___init__) := ⟨rfl, rfl, rfl, by decide +kernel, rfl, by decide +kernel, by decide +kernel⟩
abbrev N_Refused___init__ : List Str := ["self", "name"]
theorem sc_Refused___init__ : FnScope N_Refused___init__ ["self", "name"] (defScope s_Refused___init__) := ⟨rfl, rfl, rfl, by decide +kernel, rfl, by decide +kernel, by decide +kernel⟩
abbrev N_TooMany___init__ : List Str := ["self", "limit"]
theorem sc_TooMany___init__ : FnScope N_TooMany___init__ ["self", "limit"] (defScope s_TooMany___init__) := ⟨rfl, rfl, rfl, by decide +kernel, rfl, by decide +kernel, by decide +kernel⟩
abbrev N__law_numbers : List Str := ["_law_script", "_law_at", "_law_cell", "_law_whole", "_law_mixed"]
theorem sc__law_numbers : FnScope N__law_numbers ["_law_script", "_law_at"] (defScope s__law_numbers) := ⟨rfl, rfl, rfl, by decide +kernel, rfl, by decide +kernel, by decide +kernel⟩
abbrev N__law_cast : List Str := ["_law_die", "_law_total", "_law_found", "_law_one", "_law_two"]
theorem sc__law_cast : FnScope N__law_cast ["_law_die", "_law_total"] (defScope s__law_cast) := ⟨rfl, rfl, rfl, by decide +kernel, rfl, by decide +kernel, by decide +kernel⟩
abbrev N__law_pick : List Str := ["_law_die", "_law_items"]
theorem sc__law_pick : FnScope N__law_pick ["_law_die", "_law_items"] (defScope s__law_pick) := ⟨rfl, rfl, rfl, by decide +kernel, rfl, by decide +kernel, by decide +kernel⟩
abbrev N__law_of_hands : List Str := ["_law_error", "_law_told", "_law_at"]
theorem sc__law_of_hands : FnScope N__law_of_hands ["_law_error"] (defScope s__law_of_hands) := ⟨rfl, rfl, rfl, by decide +kernel, rfl, by decide +kernel, by decide +kernel⟩
abbrev N__law_of_others : List Str := ["_law_error", "_law_found"]
theorem sc__law_of_others : FnScope N__law_of_others ["_law_error"] (defScope s__law_of_others) := ⟨rfl, rfl, rfl, by decide +kernel, rfl, by decide +kernel, by decide +kernel⟩
abbrev N__law_right : List Str := ["_law_die", "_law_some", "_law_items", "_law_word", "_law_plain", "_law_parse", "_law_unknown", "_law_wrong", "_law_undo", "_law_refused", "_law_over", "_law_told", "_law_keeping", "_law_due", "_law_turn", "_law_error", "_law_at"]
theorem sc__law_right : FnScope N__law_right ["_law_die"] (defScope s__law_right) := ⟨rfl, rfl, rfl, by decide +kernel, rfl, by decide +kernel, by decide +kernel⟩
abbrev N_law : List Str := ["_law_script", "_law_at"]
theorem sc_law : FnScope N_law ["_law_script"] (defScope s_law) := ⟨rfl, rfl, rfl, by decide +kernel, rfl, by decide +kernel, by decide +kernel⟩
structure Facts (K : PySem.W.Frag) (C_HandError : Addr) (C_InvalidProgram : Addr) (C_InvalidMeaning : Addr) (C_InvalidOperation : Addr) (C_InvalidCommand : Addr) (C_UnknownName : Addr) (C_InvalidNumber : Addr) (C_NothingToUndo : Addr) (C_Refused : Addr) (C_TooMany : Addr) (C_ParseError : Addr) : Prop where
  d__law_numbers : HasDef K "_law_numbers" s__law_numbers
  d__law_cast : HasDef K "_law_cast" s__law_cast
  d__law_pick : HasDef K "_law_pick" s__law_pick
  d__law_of_hands : HasDef K "_law_of_hands" s__law_of_hands
  d__law_of_others : HasDef K "_law_of_others" s__law_of_others
  d__law_right : HasDef K "_law_right" s__law_right
  d_law : HasDef K "law" s_law
  x_HandError : XCls K "HandError" C_HandError
  x_InvalidProgram : XCls K "InvalidProgram" C_InvalidProgram
  x_InvalidMeaning : XCls K "InvalidMeaning" C_InvalidMeaning
  x_InvalidOperation : XCls K "InvalidOperation" C_InvalidOperation
  x_InvalidCommand : XCls K "InvalidCommand" C_InvalidCommand
  xe_UnknownName : XErr K "UnknownName" C_UnknownName "UnknownName.__init__" s_UnknownName___init__ "name" "KeyError" "LookupError.__new__" "KeyError.__init__" [.type "KeyError", .type "LookupError", .type "Exception", .type "BaseException", .type "object"]
  zb_UnknownName : PySem.W.nsIn K mainGlobals "KeyError" = some none
  xe_InvalidNumber : XErr K "InvalidNumber" C_InvalidNumber "InvalidNumber.__init__" s_InvalidNumber___init__ "value" "IndexError" "IndexError.__new__" "IndexError.__init__" [.type "IndexError", .type "LookupError", .type "Exception", .type "BaseException", .type "object"]
  zb_InvalidNumber : PySem.W.nsIn K mainGlobals "IndexError" = some none
  xe_NothingToUndo : XErr K "NothingToUndo" C_NothingToUndo "NothingToUndo.__init__" s_NothingToUndo___init__ "many" "LookupError" "LookupError.__new__" "LookupError.__init__" [.type "LookupError", .type "Exception", .type "BaseException", .type "object"]
  zb_NothingToUndo : PySem.W.nsIn K mainGlobals "LookupError" = some none
  xe_Refused : XErr K "Refused" C_Refused "Refused.__init__" s_Refused___init__ "name" "ArithmeticError" "ArithmeticError.__new__" "ArithmeticError.__init__" [.type "ArithmeticError", .type "Exception", .type "BaseException", .type "object"]
  zb_Refused : PySem.W.nsIn K mainGlobals "ArithmeticError" = some none
  xe_TooMany : XErr K "TooMany" C_TooMany "TooMany.__init__" s_TooMany___init__ "limit" "OverflowError" "OverflowError.__new__" "OverflowError.__init__" [.type "OverflowError", .type "ArithmeticError", .type "Exception", .type "BaseException", .type "object"]
  zb_TooMany : PySem.W.nsIn K mainGlobals "OverflowError" = some none
  xe_ParseError : XErrW K "ParseError" C_ParseError "ParseError.__init__" s_ParseError___init__ "line" C_HandError
  em_HandError_HandError : PySem.W.exmOne K (.ref C_HandError) (.ref C_HandError) = some true
  em_HandError_InvalidProgram : PySem.W.exmOne K (.ref C_HandError) (.ref C_InvalidProgram) = some false
  em_HandError_InvalidMeaning : PySem.W.exmOne K (.ref C_HandError) (.ref C_InvalidMeaning) = some false
  em_HandError_InvalidOperation : PySem.W.exmOne K (.ref C_HandError) (.ref C_InvalidOperation) = some false
  em_HandError_InvalidCommand : PySem.W.exmOne K (.ref C_HandError) (.ref C_InvalidCommand) = some false
  em_HandError_UnknownName : PySem.W.exmOne K (.ref C_HandError) (.ref C_UnknownName) = some false
  em_HandError_InvalidNumber : PySem.W.exmOne K (.ref C_HandError) (.ref C_InvalidNumber) = some false
  em_HandError_NothingToUndo : PySem.W.exmOne K (.ref C_HandError) (.ref C_NothingToUndo) = some false
  em_HandError_Refused : PySem.W.exmOne K (.ref C_HandError) (.ref C_Refused) = some false
  em_HandError_TooMany : PySem.W.exmOne K (.ref C_HandError) (.ref C_TooMany) = some false
  em_InvalidProgram_HandError : PySem.W.exmOne K (.ref C_InvalidProgram) (.ref C_HandError) = some true
  em_InvalidProgram_InvalidProgram : PySem.W.exmOne K (.ref C_InvalidProgram) (.ref C_InvalidProgram) = some true
  em_InvalidProgram_InvalidMeaning : PySem.W.exmOne K (.ref C_InvalidProgram) (.ref C_InvalidMeaning) = some false
  em_InvalidProgram_InvalidOperation : PySem.W.exmOne K (.ref C_InvalidProgram) (.ref C_InvalidOperation) = some false
  em_InvalidProgram_InvalidCommand : PySem.W.exmOne K (.ref C_InvalidProgram) (.ref C_InvalidCommand) = some false
  em_InvalidProgram_UnknownName : PySem.W.exmOne K (.ref C_InvalidProgram) (.ref C_UnknownName) = some false
  em_InvalidProgram_InvalidNumber : PySem.W.exmOne K (.ref C_InvalidProgram) (.ref C_InvalidNumber) = some false
  em_InvalidProgram_NothingToUndo : PySem.W.exmOne K (.ref C_InvalidProgram) (.ref C_NothingToUndo) = some false
  em_InvalidProgram_Refused : PySem.W.exmOne K (.ref C_InvalidProgram) (.ref C_Refused) = some false
  em_InvalidProgram_TooMany : PySem.W.exmOne K (.ref C_InvalidProgram) (.ref C_TooMany) = some false
  em_InvalidMeaning_HandError : PySem.W.exmOne K (.ref C_InvalidMeaning) (.ref C_HandError) = some true
  em_InvalidMeaning_InvalidProgram : PySem.W.exmOne K (.ref C_InvalidMeaning) (.ref C_InvalidProgram) = some false
  em_InvalidMeaning_InvalidMeaning : PySem.W.exmOne K (.ref C_InvalidMeaning) (.ref C_InvalidMeaning) = some true
  em_InvalidMeaning_InvalidOperation : PySem.W.exmOne K (.ref C_InvalidMeaning) (.ref C_InvalidOperation) = some false
  em_InvalidMeaning_InvalidCommand : PySem.W.exmOne K (.ref C_InvalidMeaning) (.ref C_InvalidCommand) = some false
  em_InvalidMeaning_UnknownName : PySem.W.exmOne K (.ref C_InvalidMeaning) (.ref C_UnknownName) = some false
  em_InvalidMeaning_InvalidNumber : PySem.W.exmOne K (.ref C_InvalidMeaning) (.ref C_InvalidNumber) = some false
  em_InvalidMeaning_NothingToUndo : PySem.W.exmOne K (.ref C_InvalidMeaning) (.ref C_NothingToUndo) = some false
  em_InvalidMeaning_Refused : PySem.W.exmOne K (.ref C_InvalidMeaning) (.ref C_Refused) = some false
  em_InvalidMeaning_TooMany : PySem.W.exmOne K (.ref C_InvalidMeaning) (.ref C_TooMany) = some false
  em_InvalidOperation_HandError : PySem.W.exmOne K (.ref C_InvalidOperation) (.ref C_HandError) = some true
  em_InvalidOperation_InvalidProgram : PySem.W.exmOne K (.ref C_InvalidOperation) (.ref C_InvalidProgram) = some false
  em_InvalidOperation_InvalidMeaning : PySem.W.exmOne K (.ref C_InvalidOperation) (.ref C_InvalidMeaning) = some false
  em_InvalidOperation_InvalidOperation : PySem.W.exmOne K (.ref C_InvalidOperation) (.ref C_InvalidOperation) = some true
  em_InvalidOperation_InvalidCommand : PySem.W.exmOne K (.ref C_InvalidOperation) (.ref C_InvalidCommand) = some false
  em_InvalidOperation_UnknownName : PySem.W.exmOne K (.ref C_InvalidOperation) (.ref C_UnknownName) = some false
  em_InvalidOperation_InvalidNumber : PySem.W.exmOne K (.ref C_InvalidOperation) (.ref C_InvalidNumber) = some false
  em_InvalidOperation_NothingToUndo : PySem.W.exmOne K (.ref C_InvalidOperation) (.ref C_NothingToUndo) = some false
  em_InvalidOperation_Refused : PySem.W.exmOne K (.ref C_InvalidOperation) (.ref C_Refused) = some false
  em_InvalidOperation_TooMany : PySem.W.exmOne K (.ref C_InvalidOperation) (.ref C_TooMany) = some false
  em_InvalidCommand_HandError : PySem.W.exmOne K (.ref C_InvalidCommand) (.ref C_HandError) = some true
  em_InvalidCommand_InvalidProgram : PySem.W.exmOne K (.ref C_InvalidCommand) (.ref C_InvalidProgram) = some false
  em_InvalidCommand_InvalidMeaning : PySem.W.exmOne K (.ref C_InvalidCommand) (.ref C_InvalidMeaning) = some false
  em_InvalidCommand_InvalidOperation : PySem.W.exmOne K (.ref C_InvalidCommand) (.ref C_InvalidOperation) = some false
  em_InvalidCommand_InvalidCommand : PySem.W.exmOne K (.ref C_InvalidCommand) (.ref C_InvalidCommand) = some true
  em_InvalidCommand_UnknownName : PySem.W.exmOne K (.ref C_InvalidCommand) (.ref C_UnknownName) = some false
  em_InvalidCommand_InvalidNumber : PySem.W.exmOne K (.ref C_InvalidCommand) (.ref C_InvalidNumber) = some false
  em_InvalidCommand_NothingToUndo : PySem.W.exmOne K (.ref C_InvalidCommand) (.ref C_NothingToUndo) = some false
  em_InvalidCommand_Refused : PySem.W.exmOne K (.ref C_InvalidCommand) (.ref C_Refused) = some false
  em_InvalidCommand_TooMany : PySem.W.exmOne K (.ref C_InvalidCommand) (.ref C_TooMany) = some false
  em_UnknownName_HandError : PySem.W.exmOne K (.ref C_UnknownName) (.ref C_HandError) = some false
  em_UnknownName_InvalidProgram : PySem.W.exmOne K (.ref C_UnknownName) (.ref C_InvalidProgram) = some false
  em_UnknownName_InvalidMeaning : PySem.W.exmOne K (.ref C_UnknownName) (.ref C_InvalidMeaning) = some false
  em_UnknownName_InvalidOperation : PySem.W.exmOne K (.ref C_UnknownName) (.ref C_InvalidOperation) = some false
  em_UnknownName_InvalidCommand : PySem.W.exmOne K (.ref C_UnknownName) (.ref C_InvalidCommand) = some false
  em_UnknownName_UnknownName : PySem.W.exmOne K (.ref C_UnknownName) (.ref C_UnknownName) = some true
  em_UnknownName_InvalidNumber : PySem.W.exmOne K (.ref C_UnknownName) (.ref C_InvalidNumber) = some false
  em_UnknownName_NothingToUndo : PySem.W.exmOne K (.ref C_UnknownName) (.ref C_NothingToUndo) = some false
  em_UnknownName_Refused : PySem.W.exmOne K (.ref C_UnknownName) (.ref C_Refused) = some false
  em_UnknownName_TooMany : PySem.W.exmOne K (.ref C_UnknownName) (.ref C_TooMany) = some false
  em_InvalidNumber_HandError : PySem.W.exmOne K (.ref C_InvalidNumber) (.ref C_HandError) = some false
  em_InvalidNumber_InvalidProgram : PySem.W.exmOne K (.ref C_InvalidNumber) (.ref C_InvalidProgram) = some false
  em_InvalidNumber_InvalidMeaning : PySem.W.exmOne K (.ref C_InvalidNumber) (.ref C_InvalidMeaning) = some false
  em_InvalidNumber_InvalidOperation : PySem.W.exmOne K (.ref C_InvalidNumber) (.ref C_InvalidOperation) = some false
  em_InvalidNumber_InvalidCommand : PySem.W.exmOne K (.ref C_InvalidNumber) (.ref C_InvalidCommand) = some false
  em_InvalidNumber_UnknownName : PySem.W.exmOne K (.ref C_InvalidNumber) (.ref C_UnknownName) = some false
  em_InvalidNumber_InvalidNumber : PySem.W.exmOne K (.ref C_InvalidNumber) (.ref C_InvalidNumber) = some true
  em_InvalidNumber_NothingToUndo : PySem.W.exmOne K (.ref C_InvalidNumber) (.ref C_NothingToUndo) = some false
  em_InvalidNumber_Refused : PySem.W.exmOne K (.ref C_InvalidNumber) (.ref C_Refused) = some false
  em_InvalidNumber_TooMany : PySem.W.exmOne K (.ref C_InvalidNumber) (.ref C_TooMany) = some false
  em_NothingToUndo_HandError : PySem.W.exmOne K (.ref C_NothingToUndo) (.ref C_HandError) = some false
  em_NothingToUndo_InvalidProgram : PySem.W.exmOne K (.ref C_NothingToUndo) (.ref C_InvalidProgram) = some false
  em_NothingToUndo_InvalidMeaning : PySem.W.exmOne K (.ref C_NothingToUndo) (.ref C_InvalidMeaning) = some false
  em_NothingToUndo_InvalidOperation : PySem.W.exmOne K (.ref C_NothingToUndo) (.ref C_InvalidOperation) = some false
  em_NothingToUndo_InvalidCommand : PySem.W.exmOne K (.ref C_NothingToUndo) (.ref C_InvalidCommand) = some false
  em_NothingToUndo_UnknownName : PySem.W.exmOne K (.ref C_NothingToUndo) (.ref C_UnknownName) = some false
  em_NothingToUndo_InvalidNumber : PySem.W.exmOne K (.ref C_NothingToUndo) (.ref C_InvalidNumber) = some false
  em_NothingToUndo_NothingToUndo : PySem.W.exmOne K (.ref C_NothingToUndo) (.ref C_NothingToUndo) = some true
  em_NothingToUndo_Refused : PySem.W.exmOne K (.ref C_NothingToUndo) (.ref C_Refused) = some false
  em_NothingToUndo_TooMany : PySem.W.exmOne K (.ref C_NothingToUndo) (.ref C_TooMany) = some false
  em_Refused_HandError : PySem.W.exmOne K (.ref C_Refused) (.ref C_HandError) = some false
  em_Refused_InvalidProgram : PySem.W.exmOne K (.ref C_Refused) (.ref C_InvalidProgram) = some false
  em_Refused_InvalidMeaning : PySem.W.exmOne K (.ref C_Refused) (.ref C_InvalidMeaning) = some false
  em_Refused_InvalidOperation : PySem.W.exmOne K (.ref C_Refused) (.ref C_InvalidOperation) = some false
  em_Refused_InvalidCommand : PySem.W.exmOne K (.ref C_Refused) (.ref C_InvalidCommand) = some false
  em_Refused_UnknownName : PySem.W.exmOne K (.ref C_Refused) (.ref C_UnknownName) = some false
  em_Refused_InvalidNumber : PySem.W.exmOne K (.ref C_Refused) (.ref C_InvalidNumber) = some false
  em_Refused_NothingToUndo : PySem.W.exmOne K (.ref C_Refused) (.ref C_NothingToUndo) = some false
  em_Refused_Refused : PySem.W.exmOne K (.ref C_Refused) (.ref C_Refused) = some true
  em_Refused_TooMany : PySem.W.exmOne K (.ref C_Refused) (.ref C_TooMany) = some false
  em_TooMany_HandError : PySem.W.exmOne K (.ref C_TooMany) (.ref C_HandError) = some false
  em_TooMany_InvalidProgram : PySem.W.exmOne K (.ref C_TooMany) (.ref C_InvalidProgram) = some false
  em_TooMany_InvalidMeaning : PySem.W.exmOne K (.ref C_TooMany) (.ref C_InvalidMeaning) = some false
  em_TooMany_InvalidOperation : PySem.W.exmOne K (.ref C_TooMany) (.ref C_InvalidOperation) = some false
  em_TooMany_InvalidCommand : PySem.W.exmOne K (.ref C_TooMany) (.ref C_InvalidCommand) = some false
  em_TooMany_UnknownName : PySem.W.exmOne K (.ref C_TooMany) (.ref C_UnknownName) = some false
  em_TooMany_InvalidNumber : PySem.W.exmOne K (.ref C_TooMany) (.ref C_InvalidNumber) = some false
  em_TooMany_NothingToUndo : PySem.W.exmOne K (.ref C_TooMany) (.ref C_NothingToUndo) = some false
  em_TooMany_Refused : PySem.W.exmOne K (.ref C_TooMany) (.ref C_Refused) = some false
  em_TooMany_TooMany : PySem.W.exmOne K (.ref C_TooMany) (.ref C_TooMany) = some true
  exc_HandError : ExcC K C_HandError
  ki_HandError_InvalidProgram : PySem.W.kitOne K (.ref C_HandError) (.ref C_InvalidProgram) = some false
  ki_HandError_InvalidMeaning : PySem.W.kitOne K (.ref C_HandError) (.ref C_InvalidMeaning) = some false
  ki_HandError_InvalidOperation : PySem.W.kitOne K (.ref C_HandError) (.ref C_InvalidOperation) = some false
  ki_HandError_InvalidCommand : PySem.W.kitOne K (.ref C_HandError) (.ref C_InvalidCommand) = some false
  ki_HandError_ParseError : PySem.W.kitOne K (.ref C_HandError) (.ref C_ParseError) = some false
  ki_HandError_UnknownName : PySem.W.kitOne K (.ref C_HandError) (.ref C_UnknownName) = some false
  ki_HandError_InvalidNumber : PySem.W.kitOne K (.ref C_HandError) (.ref C_InvalidNumber) = some false
  ki_HandError_NothingToUndo : PySem.W.kitOne K (.ref C_HandError) (.ref C_NothingToUndo) = some false
  ki_HandError_Refused : PySem.W.kitOne K (.ref C_HandError) (.ref C_Refused) = some false
  ki_HandError_TooMany : PySem.W.kitOne K (.ref C_HandError) (.ref C_TooMany) = some false
  mr_HandError_ValueError : PySem.W.mroIn K C_HandError (.type "ValueError") = some true
  mr_HandError_KeyError : PySem.W.mroIn K C_HandError (.type "KeyError") = some false
  mr_HandError_IndexError : PySem.W.mroIn K C_HandError (.type "IndexError") = some false
  mr_HandError_LookupError : PySem.W.mroIn K C_HandError (.type "LookupError") = some false
  mr_HandError_ArithmeticError : PySem.W.mroIn K C_HandError (.type "ArithmeticError") = some false
  mr_HandError_OverflowError : PySem.W.mroIn K C_HandError (.type "OverflowError") = some false
  exc_InvalidProgram : ExcC K C_InvalidProgram
  ki_InvalidProgram_HandError : PySem.W.kitOne K (.ref C_InvalidProgram) (.ref C_HandError) = some true
  ki_InvalidProgram_InvalidMeaning : PySem.W.kitOne K (.ref C_InvalidProgram) (.ref C_InvalidMeaning) = some false
  ki_InvalidProgram_InvalidOperation : PySem.W.kitOne K (.ref C_InvalidProgram) (.ref C_InvalidOperation) = some false
  ki_InvalidProgram_InvalidCommand : PySem.W.kitOne K (.ref C_InvalidProgram) (.ref C_InvalidCommand) = some false
  ki_InvalidProgram_ParseError : PySem.W.kitOne K (.ref C_InvalidProgram) (.ref C_ParseError) = some false
  ki_InvalidProgram_UnknownName : PySem.W.kitOne K (.ref C_InvalidProgram) (.ref C_UnknownName) = some false
  ki_InvalidProgram_InvalidNumber : PySem.W.kitOne K (.ref C_InvalidProgram) (.ref C_InvalidNumber) = some false
  ki_InvalidProgram_NothingToUndo : PySem.W.kitOne K (.ref C_InvalidProgram) (.ref C_NothingToUndo) = some false
  ki_InvalidProgram_Refused : PySem.W.kitOne K (.ref C_InvalidProgram) (.ref C_Refused) = some false
  ki_InvalidProgram_TooMany : PySem.W.kitOne K (.ref C_InvalidProgram) (.ref C_TooMany) = some false
  mr_InvalidProgram_ValueError : PySem.W.mroIn K C_InvalidProgram (.type "ValueError") = some true
  mr_InvalidProgram_KeyError : PySem.W.mroIn K C_InvalidProgram (.type "KeyError") = some false
  mr_InvalidProgram_IndexError : PySem.W.mroIn K C_InvalidProgram (.type "IndexError") = some false
  mr_InvalidProgram_LookupError : PySem.W.mroIn K C_InvalidProgram (.type "LookupError") = some false
  mr_InvalidProgram_ArithmeticError : PySem.W.mroIn K C_InvalidProgram (.type "ArithmeticError") = some false
  mr_InvalidProgram_OverflowError : PySem.W.mroIn K C_InvalidProgram (.type "OverflowError") = some false
  exc_InvalidMeaning : ExcC K C_InvalidMeaning
  ki_InvalidMeaning_HandError : PySem.W.kitOne K (.ref C_InvalidMeaning) (.ref C_HandError) = some true
  ki_InvalidMeaning_InvalidProgram : PySem.W.kitOne K (.ref C_InvalidMeaning) (.ref C_InvalidProgram) = some false
  ki_InvalidMeaning_InvalidOperation : PySem.W.kitOne K (.ref C_InvalidMeaning) (.ref C_InvalidOperation) = some false
  ki_InvalidMeaning_InvalidCommand : PySem.W.kitOne K (.ref C_InvalidMeaning) (.ref C_InvalidCommand) = some false
  ki_InvalidMeaning_ParseError : PySem.W.kitOne K (.ref C_InvalidMeaning) (.ref C_ParseError) = some false
  ki_InvalidMeaning_UnknownName : PySem.W.kitOne K (.ref C_InvalidMeaning) (.ref C_UnknownName) = some false
  ki_InvalidMeaning_InvalidNumber : PySem.W.kitOne K (.ref C_InvalidMeaning) (.ref C_InvalidNumber) = some false
  ki_InvalidMeaning_NothingToUndo : PySem.W.kitOne K (.ref C_InvalidMeaning) (.ref C_NothingToUndo) = some false
  ki_InvalidMeaning_Refused : PySem.W.kitOne K (.ref C_InvalidMeaning) (.ref C_Refused) = some false
  ki_InvalidMeaning_TooMany : PySem.W.kitOne K (.ref C_InvalidMeaning) (.ref C_TooMany) = some false
  mr_InvalidMeaning_ValueError : PySem.W.mroIn K C_InvalidMeaning (.type "ValueError") = some true
  mr_InvalidMeaning_KeyError : PySem.W.mroIn K C_InvalidMeaning (.type "KeyError") = some false
  mr_InvalidMeaning_IndexError : PySem.W.mroIn K C_InvalidMeaning (.type "IndexError") = some false
  mr_InvalidMeaning_LookupError : PySem.W.mroIn K C_InvalidMeaning (.type "LookupError") = some false
  mr_InvalidMeaning_ArithmeticError : PySem.W.mroIn K C_InvalidMeaning (.type "ArithmeticError") = some false
  mr_InvalidMeaning_OverflowError : PySem.W.mroIn K C_InvalidMeaning (.type "OverflowError") = some false
  exc_InvalidOperation : ExcC K C_InvalidOperation
  ki_InvalidOperation_HandError : PySem.W.kitOne K (.ref C_InvalidOperation) (.ref C_HandError) = some true
  ki_InvalidOperation_InvalidProgram : PySem.W.kitOne K (.ref C_InvalidOperation) (.ref C_InvalidProgram) = some false
  ki_InvalidOperation_InvalidMeaning : PySem.W.kitOne K (.ref C_InvalidOperation) (.ref C_InvalidMeaning) = some false
  ki_InvalidOperation_InvalidCommand : PySem.W.kitOne K (.ref C_InvalidOperation) (.ref C_InvalidCommand) = some false
  ki_InvalidOperation_ParseError : PySem.W.kitOne K (.ref C_InvalidOperation) (.ref C_ParseError) = some false
  ki_InvalidOperation_UnknownName : PySem.W.kitOne K (.ref C_InvalidOperation) (.ref C_UnknownName) = some false
  ki_InvalidOperation_InvalidNumber : PySem.W.kitOne K (.ref C_InvalidOperation) (.ref C_InvalidNumber) = some false
  ki_InvalidOperation_NothingToUndo : PySem.W.kitOne K (.ref C_InvalidOperation) (.ref C_NothingToUndo) = some false
  ki_InvalidOperation_Refused : PySem.W.kitOne K (.ref C_InvalidOperation) (.ref C_Refused) = some false
  ki_InvalidOperation_TooMany : PySem.W.kitOne K (.ref C_InvalidOperation) (.ref C_TooMany) = some false
  mr_InvalidOperation_ValueError : PySem.W.mroIn K C_InvalidOperation (.type "ValueError") = some true
  mr_InvalidOperation_KeyError : PySem.W.mroIn K C_InvalidOperation (.type "KeyError") = some false
  mr_InvalidOperation_IndexError : PySem.W.mroIn K C_InvalidOperation (.type "IndexError") = some false
  mr_InvalidOperation_LookupError : PySem.W.mroIn K C_InvalidOperation (.type "LookupError") = some false
  mr_InvalidOperation_ArithmeticError : PySem.W.mroIn K C_InvalidOperation (.type "ArithmeticError") = some false
  mr_InvalidOperation_OverflowError : PySem.W.mroIn K C_InvalidOperation (.type "OverflowError") = some false
  exc_InvalidCommand : ExcC K C_InvalidCommand
  ki_InvalidCommand_HandError : PySem.W.kitOne K (.ref C_InvalidCommand) (.ref C_HandError) = some true
  ki_InvalidCommand_InvalidProgram : PySem.W.kitOne K (.ref C_InvalidCommand) (.ref C_InvalidProgram) = some false
  ki_InvalidCommand_InvalidMeaning : PySem.W.kitOne K (.ref C_InvalidCommand) (.ref C_InvalidMeaning) = some false
  ki_InvalidCommand_InvalidOperation : PySem.W.kitOne K (.ref C_InvalidCommand) (.ref C_InvalidOperation) = some false
  ki_InvalidCommand_ParseError : PySem.W.kitOne K (.ref C_InvalidCommand) (.ref C_ParseError) = some false
  ki_InvalidCommand_UnknownName : PySem.W.kitOne K (.ref C_InvalidCommand) (.ref C_UnknownName) = some false
  ki_InvalidCommand_InvalidNumber : PySem.W.kitOne K (.ref C_InvalidCommand) (.ref C_InvalidNumber) = some false
  ki_InvalidCommand_NothingToUndo : PySem.W.kitOne K (.ref C_InvalidCommand) (.ref C_NothingToUndo) = some false
  ki_InvalidCommand_Refused : PySem.W.kitOne K (.ref C_InvalidCommand) (.ref C_Refused) = some false
  ki_InvalidCommand_TooMany : PySem.W.kitOne K (.ref C_InvalidCommand) (.ref C_TooMany) = some false
  mr_InvalidCommand_ValueError : PySem.W.mroIn K C_InvalidCommand (.type "ValueError") = some true
  mr_InvalidCommand_KeyError : PySem.W.mroIn K C_InvalidCommand (.type "KeyError") = some false
  mr_InvalidCommand_IndexError : PySem.W.mroIn K C_InvalidCommand (.type "IndexError") = some false
  mr_InvalidCommand_LookupError : PySem.W.mroIn K C_InvalidCommand (.type "LookupError") = some false
  mr_InvalidCommand_ArithmeticError : PySem.W.mroIn K C_InvalidCommand (.type "ArithmeticError") = some false
  mr_InvalidCommand_OverflowError : PySem.W.mroIn K C_InvalidCommand (.type "OverflowError") = some false
  exc_ParseError : ExcC K C_ParseError
  ki_ParseError_HandError : PySem.W.kitOne K (.ref C_ParseError) (.ref C_HandError) = some true
  ki_ParseError_InvalidProgram : PySem.W.kitOne K (.ref C_ParseError) (.ref C_InvalidProgram) = some false
  ki_ParseError_InvalidMeaning : PySem.W.kitOne K (.ref C_ParseError) (.ref C_InvalidMeaning) = some false
  ki_ParseError_InvalidOperation : PySem.W.kitOne K (.ref C_ParseError) (.ref C_InvalidOperation) = some false
  ki_ParseError_InvalidCommand : PySem.W.kitOne K (.ref C_ParseError) (.ref C_InvalidCommand) = some false
  ki_ParseError_UnknownName : PySem.W.kitOne K (.ref C_ParseError) (.ref C_UnknownName) = some false
  ki_ParseError_InvalidNumber : PySem.W.kitOne K (.ref C_ParseError) (.ref C_InvalidNumber) = some false
  ki_ParseError_NothingToUndo : PySem.W.kitOne K (.ref C_ParseError) (.ref C_NothingToUndo) = some false
  ki_ParseError_Refused : PySem.W.kitOne K (.ref C_ParseError) (.ref C_Refused) = some false
  ki_ParseError_TooMany : PySem.W.kitOne K (.ref C_ParseError) (.ref C_TooMany) = some false
  mr_ParseError_ValueError : PySem.W.mroIn K C_ParseError (.type "ValueError") = some true
  mr_ParseError_KeyError : PySem.W.mroIn K C_ParseError (.type "KeyError") = some false
  mr_ParseError_IndexError : PySem.W.mroIn K C_ParseError (.type "IndexError") = some false
  mr_ParseError_LookupError : PySem.W.mroIn K C_ParseError (.type "LookupError") = some false
  mr_ParseError_ArithmeticError : PySem.W.mroIn K C_ParseError (.type "ArithmeticError") = some false
  mr_ParseError_OverflowError : PySem.W.mroIn K C_ParseError (.type "OverflowError") = some false
  exc_UnknownName : ExcC K C_UnknownName
  ki_UnknownName_HandError : PySem.W.kitOne K (.ref C_UnknownName) (.ref C_HandError) = some false
  ki_UnknownName_InvalidProgram : PySem.W.kitOne K (.ref C_UnknownName) (.ref C_InvalidProgram) = some false
  ki_UnknownName_InvalidMeaning : PySem.W.kitOne K (.ref C_UnknownName) (.ref C_InvalidMeaning) = some false
  ki_UnknownName_InvalidOperation : PySem.W.kitOne K (.ref C_UnknownName) (.ref C_InvalidOperation) = some false
  ki_UnknownName_InvalidCommand : PySem.W.kitOne K (.ref C_UnknownName) (.ref C_InvalidCommand) = some false
  ki_UnknownName_ParseError : PySem.W.kitOne K (.ref C_UnknownName) (.ref C_ParseError) = some false
  ki_UnknownName_InvalidNumber : PySem.W.kitOne K (.ref C_UnknownName) (.ref C_InvalidNumber) = some false
  ki_UnknownName_NothingToUndo : PySem.W.kitOne K (.ref C_UnknownName) (.ref C_NothingToUndo) = some false
  ki_UnknownName_Refused : PySem.W.kitOne K (.ref C_UnknownName) (.ref C_Refused) = some false
  ki_UnknownName_TooMany : PySem.W.kitOne K (.ref C_UnknownName) (.ref C_TooMany) = some false
  mr_UnknownName_ValueError : PySem.W.mroIn K C_UnknownName (.type "ValueError") = some false
  mr_UnknownName_KeyError : PySem.W.mroIn K C_UnknownName (.type "KeyError") = some true
  mr_UnknownName_IndexError : PySem.W.mroIn K C_UnknownName (.type "IndexError") = some false
  mr_UnknownName_LookupError : PySem.W.mroIn K C_UnknownName (.type "LookupError") = some true
  mr_UnknownName_ArithmeticError : PySem.W.mroIn K C_UnknownName (.type "ArithmeticError") = some false
  mr_UnknownName_OverflowError : PySem.W.mroIn K C_UnknownName (.type "OverflowError") = some false
  exc_InvalidNumber : ExcC K C_InvalidNumber
  ki_InvalidNumber_HandError : PySem.W.kitOne K (.ref C_InvalidNumber) (.ref C_HandError) = some false
  ki_InvalidNumber_InvalidProgram : PySem.W.kitOne K (.ref C_InvalidNumber) (.ref C_InvalidProgram) = some false
  ki_InvalidNumber_InvalidMeaning : PySem.W.kitOne K (.ref C_InvalidNumber) (.ref C_InvalidMeaning) = some false
  ki_InvalidNumber_InvalidOperation : PySem.W.kitOne K (.ref C_InvalidNumber) (.ref C_InvalidOperation) = some false
  ki_InvalidNumber_InvalidCommand : PySem.W.kitOne K (.ref C_InvalidNumber) (.ref C_InvalidCommand) = some false
  ki_InvalidNumber_ParseError : PySem.W.kitOne K (.ref C_InvalidNumber) (.ref C_ParseError) = some false
  ki_InvalidNumber_UnknownName : PySem.W.kitOne K (.ref C_InvalidNumber) (.ref C_UnknownName) = some false
  ki_InvalidNumber_NothingToUndo : PySem.W.kitOne K (.ref C_InvalidNumber) (.ref C_NothingToUndo) = some false
  ki_InvalidNumber_Refused : PySem.W.kitOne K (.ref C_InvalidNumber) (.ref C_Refused) = some false
  ki_InvalidNumber_TooMany : PySem.W.kitOne K (.ref C_InvalidNumber) (.ref C_TooMany) = some false
  mr_InvalidNumber_ValueError : PySem.W.mroIn K C_InvalidNumber (.type "ValueError") = some false
  mr_InvalidNumber_KeyError : PySem.W.mroIn K C_InvalidNumber (.type "KeyError") = some false
  mr_InvalidNumber_IndexError : PySem.W.mroIn K C_InvalidNumber (.type "IndexError") = some true
  mr_InvalidNumber_LookupError : PySem.W.mroIn K C_InvalidNumber (.type "LookupError") = some true
  mr_InvalidNumber_ArithmeticError : PySem.W.mroIn K C_InvalidNumber (.type "ArithmeticError") = some false
  mr_InvalidNumber_OverflowError : PySem.W.mroIn K C_InvalidNumber (.type "OverflowError") = some false
  exc_NothingToUndo : ExcC K C_NothingToUndo
  ki_NothingToUndo_HandError : PySem.W.kitOne K (.ref C_NothingToUndo) (.ref C_HandError) = some false
  ki_NothingToUndo_InvalidProgram : PySem.W.kitOne K (.ref C_NothingToUndo) (.ref C_InvalidProgram) = some false
  ki_NothingToUndo_InvalidMeaning : PySem.W.kitOne K (.ref C_NothingToUndo) (.ref C_InvalidMeaning) = some false
  ki_NothingToUndo_InvalidOperation : PySem.W.kitOne K (.ref C_NothingToUndo) (.ref C_InvalidOperation) = some false
  ki_NothingToUndo_InvalidCommand : PySem.W.kitOne K (.ref C_NothingToUndo) (.ref C_InvalidCommand) = some false
  ki_NothingToUndo_ParseError : PySem.W.kitOne K (.ref C_NothingToUndo) (.ref C_ParseError) = some false
  ki_NothingToUndo_UnknownName : PySem.W.kitOne K (.ref C_NothingToUndo) (.ref C_UnknownName) = some false
  ki_NothingToUndo_InvalidNumber : PySem.W.kitOne K (.ref C_NothingToUndo) (.ref C_InvalidNumber) = some false
  ki_NothingToUndo_Refused : PySem.W.kitOne K (.ref C_NothingToUndo) (.ref C_Refused) = some false
  ki_NothingToUndo_TooMany : PySem.W.kitOne K (.ref C_NothingToUndo) (.ref C_TooMany) = some false
  mr_NothingToUndo_ValueError : PySem.W.mroIn K C_NothingToUndo (.type "ValueError") = some false
  mr_NothingToUndo_KeyError : PySem.W.mroIn K C_NothingToUndo (.type "KeyError") = some false
  mr_NothingToUndo_IndexError : PySem.W.mroIn K C_NothingToUndo (.type "IndexError") = some false
  mr_NothingToUndo_LookupError : PySem.W.mroIn K C_NothingToUndo (.type "LookupError") = some true
  mr_NothingToUndo_ArithmeticError : PySem.W.mroIn K C_NothingToUndo (.type "ArithmeticError") = some false
  mr_NothingToUndo_OverflowError : PySem.W.mroIn K C_NothingToUndo (.type "OverflowError") = some false
  exc_Refused : ExcC K C_Refused
  ki_Refused_HandError : PySem.W.kitOne K (.ref C_Refused) (.ref C_HandError) = some false
  ki_Refused_InvalidProgram : PySem.W.kitOne K (.ref C_Refused) (.ref C_InvalidProgram) = some false
  ki_Refused_InvalidMeaning : PySem.W.kitOne K (.ref C_Refused) (.ref C_InvalidMeaning) = some false
  ki_Refused_InvalidOperation : PySem.W.kitOne K (.ref C_Refused) (.ref C_InvalidOperation) = some false
  ki_Refused_InvalidCommand : PySem.W.kitOne K (.ref C_Refused) (.ref C_InvalidCommand) = some false
  ki_Refused_ParseError : PySem.W.kitOne K (.ref C_Refused) (.ref C_ParseError) = some false
  ki_Refused_UnknownName : PySem.W.kitOne K (.ref C_Refused) (.ref C_UnknownName) = some false
  ki_Refused_InvalidNumber : PySem.W.kitOne K (.ref C_Refused) (.ref C_InvalidNumber) = some false
  ki_Refused_NothingToUndo : PySem.W.kitOne K (.ref C_Refused) (.ref C_NothingToUndo) = some false
  ki_Refused_TooMany : PySem.W.kitOne K (.ref C_Refused) (.ref C_TooMany) = some false
  mr_Refused_ValueError : PySem.W.mroIn K C_Refused (.type "ValueError") = some false
  mr_Refused_KeyError : PySem.W.mroIn K C_Refused (.type "KeyError") = some false
  mr_Refused_IndexError : PySem.W.mroIn K C_Refused (.type "IndexError") = some false
  mr_Refused_LookupError : PySem.W.mroIn K C_Refused (.type "LookupError") = some false
  mr_Refused_ArithmeticError : PySem.W.mroIn K C_Refused (.type "ArithmeticError") = some true
  mr_Refused_OverflowError : PySem.W.mroIn K C_Refused (.type "OverflowError") = some false
  exc_TooMany : ExcC K C_TooMany
  ki_TooMany_HandError : PySem.W.kitOne K (.ref C_TooMany) (.ref C_HandError) = some false
  ki_TooMany_InvalidProgram : PySem.W.kitOne K (.ref C_TooMany) (.ref C_InvalidProgram) = some false
  ki_TooMany_InvalidMeaning : PySem.W.kitOne K (.ref C_TooMany) (.ref C_InvalidMeaning) = some false
  ki_TooMany_InvalidOperation : PySem.W.kitOne K (.ref C_TooMany) (.ref C_InvalidOperation) = some false
  ki_TooMany_InvalidCommand : PySem.W.kitOne K (.ref C_TooMany) (.ref C_InvalidCommand) = some false
  ki_TooMany_ParseError : PySem.W.kitOne K (.ref C_TooMany) (.ref C_ParseError) = some false
  ki_TooMany_UnknownName : PySem.W.kitOne K (.ref C_TooMany) (.ref C_UnknownName) = some false
  ki_TooMany_InvalidNumber : PySem.W.kitOne K (.ref C_TooMany) (.ref C_InvalidNumber) = some false
  ki_TooMany_NothingToUndo : PySem.W.kitOne K (.ref C_TooMany) (.ref C_NothingToUndo) = some false
  ki_TooMany_Refused : PySem.W.kitOne K (.ref C_TooMany) (.ref C_Refused) = some false
  mr_TooMany_ValueError : PySem.W.mroIn K C_TooMany (.type "ValueError") = some false
  mr_TooMany_KeyError : PySem.W.mroIn K C_TooMany (.type "KeyError") = some false
  mr_TooMany_IndexError : PySem.W.mroIn K C_TooMany (.type "IndexError") = some false
  mr_TooMany_LookupError : PySem.W.mroIn K C_TooMany (.type "LookupError") = some false
  mr_TooMany_ArithmeticError : PySem.W.mroIn K C_TooMany (.type "ArithmeticError") = some true
  mr_TooMany_OverflowError : PySem.W.mroIn K C_TooMany (.type "OverflowError") = some true
  z_ArithmeticError : PySem.W.nsIn K mainGlobals "ArithmeticError" = some none
  z_IndexError : PySem.W.nsIn K mainGlobals "IndexError" = some none
  z_KeyError : PySem.W.nsIn K mainGlobals "KeyError" = some none
  z_LookupError : PySem.W.nsIn K mainGlobals "LookupError" = some none
  z_OverflowError : PySem.W.nsIn K mainGlobals "OverflowError" = some none
  z_ValueError : PySem.W.nsIn K mainGlobals "ValueError" = some none
  z_abs : PySem.W.nsIn K mainGlobals "abs" = some none
  z_int : PySem.W.nsIn K mainGlobals "int" = some none
  z_isinstance : PySem.W.nsIn K mainGlobals "isinstance" = some none
  z_len : PySem.W.nsIn K mainGlobals "len" = some none
  z_max : PySem.W.nsIn K mainGlobals "max" = some none
  z_min : PySem.W.nsIn K mainGlobals "min" = some none
  z_range : PySem.W.nsIn K mainGlobals "range" = some none
  z_repr : PySem.W.nsIn K mainGlobals "repr" = some none
/-- the built-ins' names are free; the module's constants -/
structure Zs (mg : Str → Option Value) : Prop where
  ArithmeticError : mg "ArithmeticError" = none
  IndexError : mg "IndexError" = none
  KeyError : mg "KeyError" = none
  LookupError : mg "LookupError" = none
  OverflowError : mg "OverflowError" = none
  ValueError : mg "ValueError" = none
  abs : mg "abs" = none
  int : mg "int" = none
  isinstance : mg "isinstance" = none
  len : mg "len" = none
  max : mg "max" = none
  min : mg "min" = none
  range : mg "range" = none
  repr : mg "repr" = none
theorem zs_of {K : PySem.W.Frag} {mg : Str → Option Value} {C_HandError : Addr} {C_InvalidProgram : Addr} {C_InvalidMeaning : Addr} {C_InvalidOperation : Addr} {C_InvalidCommand : Addr} {C_UnknownName : Addr} {C_InvalidNumber : Addr} {C_NothingToUndo : Addr} {C_Refused : Addr} {C_TooMany : Addr} {C_ParseError : Addr} (A : Facts K C_HandError C_InvalidProgram C_InvalidMeaning C_InvalidOperation C_InvalidCommand C_UnknownName C_InvalidNumber C_NothingToUndo C_Refused C_TooMany C_ParseError) (M : MgOf K mg) : Zs mg where
  ArithmeticError := M.of _ _ A.z_ArithmeticError
  IndexError := M.of _ _ A.z_IndexError
  KeyError := M.of _ _ A.z_KeyError
  LookupError := M.of _ _ A.z_LookupError
  OverflowError := M.of _ _ A.z_OverflowError
  ValueError := M.of _ _ A.z_ValueError
  abs := M.of _ _ A.z_abs
  int := M.of _ _ A.z_int
  isinstance := M.of _ _ A.z_isinstance
  len := M.of _ _ A.z_len
  max := M.of _ _ A.z_max
  min := M.of _ _ A.z_min
  range := M.of _ _ A.z_range
  repr := M.of _ _ A.z_repr
theorem D_ParseError___init__ {P : Program} {w : World} {K : PySem.W.Frag} {mg : Str → Option Value} {base : Heap} {C_HandError : Addr} {C_InvalidProgram : Addr} {C_InvalidMeaning : Addr} {C_InvalidOperation : Addr} {C_InvalidCommand : Addr} {C_UnknownName : Addr} {C_InvalidNumber : Addr} {C_NothingToUndo : Addr} {C_Refused : Addr} {C_TooMany : Addr} {C_ParseError : Addr} (A : Facts K C_HandError C_InvalidProgram C_InvalidMeaning C_InvalidOperation C_InvalidCommand C_UnknownName C_InvalidNumber C_NothingToUndo C_Refused C_TooMany C_ParseError) (M : MgOf K mg) (Z : Zs mg) : KnErrW P w K mg base "ParseError" C_ParseError "line" 1 :=
  KnErrW.of A.xe_ParseError M sc_ParseError___init__ (fun _ _ _ _ _ _ us hl => match us, hl with | [_, _], _ => rfl) fun fI cdv A0 outer s H E => ⟨_, pss_cons (ps_expr (pe_binitC (nB := "HandError") (by rfl) (M.of _ _ A.x_HandError.at_) (by decide) A.xe_ParseError.rd A.xe_ParseError.rg A.xe_ParseError.vV (pa_cons (pe_var (i := 0) rfl (Or.inl rfl)) (pa_cons (pe_var (i := 1) rfl (Or.inl rfl)) pa_nil)))) (pss_one (ps_ost (pe_var (i := 0) rfl (Or.inl rfl)) (pe_var (i := 1) rfl (Or.inl rfl)))), fun a v Q ha q => err_endV A.xe_ParseError.T A.xe_ParseError.no ha q⟩
theorem D_UnknownName___init__ {P : Program} {w : World} {K : PySem.W.Frag} {mg : Str → Option Value} {base : Heap} {C_HandError : Addr} {C_InvalidProgram : Addr} {C_InvalidMeaning : Addr} {C_InvalidOperation : Addr} {C_InvalidCommand : Addr} {C_UnknownName : Addr} {C_InvalidNumber : Addr} {C_NothingToUndo : Addr} {C_Refused : Addr} {C_TooMany : Addr} {C_ParseError : Addr} (A : Facts K C_HandError C_InvalidProgram C_InvalidMeaning C_InvalidOperation C_InvalidCommand C_UnknownName C_InvalidNumber C_NothingToUndo C_Refused C_TooMany C_ParseError) (M : MgOf K mg) (Z : Zs mg) : KnErr P w K mg base "UnknownName" C_UnknownName "name" 1 :=
  KnErr.of A.xe_UnknownName M sc_UnknownName___init__ (fun _ _ _ _ _ _ us hl => match us, hl with | [_, _], _ => rfl) fun fI cdv A0 outer s H E => ⟨_, pss_cons (ps_expr (pe_binit (nB := "KeyError") (by rfl) (M.of _ _ A.zb_UnknownName) rfl (by decide) (by decide) rfl A.xe_UnknownName.vV (by decide +kernel) (by decide +kernel) (pa_cons (pe_var (i := 0) rfl (Or.inl rfl)) (pa_cons (pe_var (i := 1) rfl (Or.inl rfl)) pa_nil)))) (pss_one (ps_ostT (pe_var (i := 0) rfl (Or.inl rfl)) (pe_var (i := 1) rfl (Or.inl rfl)))), fun a v Q ha q => err_end A.xe_UnknownName.T A.xe_UnknownName.no ha q⟩
theorem D_InvalidNumber___init__ {P : Program} {w : World} {K : PySem.W.Frag} {mg : Str → Option Value} {base : Heap} {C_HandError : Addr} {C_InvalidProgram : Addr} {C_InvalidMeaning : Addr} {C_InvalidOperation : Addr} {C_InvalidCommand : Addr} {C_UnknownName : Addr} {C_InvalidNumber : Addr} {C_NothingToUndo : Addr} {C_Refused : Addr} {C_TooMany : Addr} {C_ParseError : Addr} (A : Facts K C_HandError C_InvalidProgram C_InvalidMeaning C_InvalidOperation C_InvalidCommand C_UnknownName C_InvalidNumber C_NothingToUndo C_Refused C_TooMany C_ParseError) (M : MgOf K mg) (Z : Zs mg) : KnErr P w K mg base "InvalidNumber" C_InvalidNumber "value" 1 :=
  KnErr.of A.xe_InvalidNumber M sc_InvalidNumber___init__ (fun _ _ _ _ _ _ us hl => match us, hl with | [_, _], _ => rfl) fun fI cdv A0 outer s H E => ⟨_, pss_cons (ps_expr (pe_binit (nB := "IndexError") (by rfl) (M.of _ _ A.zb_InvalidNumber) rfl (by decide) (by decide) rfl A.xe_InvalidNumber.vV (by decide +kernel) (by decide +kernel) (pa_cons (pe_var (i := 0) rfl (Or.inl rfl)) (pa_cons (pe_var (i := 1) rfl (Or.inl rfl)) pa_nil)))) (pss_one (ps_ostT (pe_var (i := 0) rfl (Or.inl rfl)) (pe_var (i := 1) rfl (Or.inl rfl)))), fun a v Q ha q => err_end A.xe_InvalidNumber.T A.xe_InvalidNumber.no ha q⟩
theorem D_NothingToUndo___init__ {P : Program} {w : World} {K : PySem.W.Frag} {mg : Str → Option Value} {base : Heap} {C_HandError : Addr} {C_InvalidProgram : Addr} {C_InvalidMeaning : Addr} {C_InvalidOperation : Addr} {C_InvalidCommand : Addr} {C_UnknownName : Addr} {C_InvalidNumber : Addr} {C_NothingToUndo : Addr} {C_Refused : Addr} {C_TooMany : Addr} {C_ParseError : Addr} (A : Facts K C_HandError C_InvalidProgram C_InvalidMeaning C_InvalidOperation C_InvalidCommand C_UnknownName C_InvalidNumber C_NothingToUndo C_Refused C_TooMany C_ParseError) (M : MgOf K mg) (Z : Zs mg) : KnErr P w K mg base "NothingToUndo" C_NothingToUndo "many" 1 :=
  KnErr.of A.xe_NothingToUndo M sc_NothingToUndo___init__ (fun _ _ _ _ _ _ us hl => match us, hl with | [_, _], _ => rfl) fun fI cdv A0 outer s H E => ⟨_, pss_cons (ps_expr (pe_binit (nB := "LookupError") (by rfl) (M.of _ _ A.zb_NothingToUndo) rfl (by decide) (by decide) rfl A.xe_NothingToUndo.vV (by decide +kernel) (by decide +kernel) (pa_cons (pe_var (i := 0) rfl (Or.inl rfl)) (pa_cons (pe_var (i := 1) rfl (Or.inl rfl)) pa_nil)))) (pss_one (ps_ostT (pe_var (i := 0) rfl (Or.inl rfl)) (pe_var (i := 1) rfl (Or.inl rfl)))), fun a v Q ha q => err_end A.xe_NothingToUndo.T A.xe_NothingToUndo.no ha q⟩
theorem D_Refused___init__ {P : Program} {w : World} {K : PySem.W.Frag} {mg : Str → Option Value} {base : Heap} {C_HandError : Addr} {C_InvalidProgram : Addr} {C_InvalidMeaning : Addr} {C_InvalidOperation : Addr} {C_InvalidCommand : Addr} {C_UnknownName : Addr} {C_InvalidNumber : Addr} {C_NothingToUndo : Addr} {C_Refused : Addr} {C_TooMany : Addr} {C_ParseError : Addr} (A : Facts K C_HandError C_InvalidProgram C_InvalidMeaning C_InvalidOperation C_InvalidCommand C_UnknownName C_InvalidNumber C_NothingToUndo C_Refused C_TooMany C_ParseError) (M : MgOf K mg) (Z : Zs mg) : KnErr P w K mg base "Refused" C_Refused "name" 1 :=
  KnErr.of A.xe_Refused M sc_Refused___init__ (fun _ _ _ _ _ _ us hl => match us, hl with | [_, _], _ => rfl) fun fI cdv A0 outer s H E => ⟨_, pss_cons (ps_expr (pe_binit (nB := "ArithmeticError") (by rfl) (M.of _ _ A.zb_Refused) rfl (by decide) (by decide) rfl A.xe_Refused.vV (by decide +kernel) (by decide +kernel) (pa_cons (pe_var (i := 0) rfl (Or.inl rfl)) (pa_cons (pe_var (i := 1) rfl (Or.inl rfl)) pa_nil)))) (pss_one (ps_ostT (pe_var (i := 0) rfl (Or.inl rfl)) (pe_var (i := 1) rfl (Or.inl rfl)))), fun a v Q ha q => err_end A.xe_Refused.T A.xe_Refused.no ha q⟩
theorem D_TooMany___init__ {P : Program} {w : World} {K : PySem.W.Frag} {mg : Str → Option Value} {base : Heap} {C_HandError : Addr} {C_InvalidProgram : Addr} {C_InvalidMeaning : Addr} {C_InvalidOperation : Addr} {C_InvalidCommand : Addr} {C_UnknownName : Addr} {C_InvalidNumber : Addr} {C_NothingToUndo : Addr} {C_Refused : Addr} {C_TooMany : Addr} {C_ParseError : Addr} (A : Facts K C_HandError C_InvalidProgram C_InvalidMeaning C_InvalidOperation C_InvalidCommand C_UnknownName C_InvalidNumber C_NothingToUndo C_Refused C_TooMany C_ParseError) (M : MgOf K mg) (Z : Zs mg) : KnErr P w K mg base "TooMany" C_TooMany "limit" 1 :=
  KnErr.of A.xe_TooMany M sc_TooMany___init__ (fun _ _ _ _ _ _ us hl => match us, hl with | [_, _], _ => rfl) fun fI cdv A0 outer s H E => ⟨_, pss_cons (ps_expr (pe_binit (nB := "OverflowError") (by rfl) (M.of _ _ A.zb_TooMany) rfl (by decide) (by decide) rfl A.xe_TooMany.vV (by decide +kernel) (by decide +kernel) (pa_cons (pe_var (i := 0) rfl (Or.inl rfl)) (pa_cons (pe_var (i := 1) rfl (Or.inl rfl)) pa_nil)))) (pss_one (ps_ostT (pe_var (i := 0) rfl (Or.inl rfl)) (pe_var (i := 1) rfl (Or.inl rfl)))), fun a v Q ha q => err_end A.xe_TooMany.T A.xe_TooMany.no ha q⟩

end K00
set_option Elab.async false
set_option linter.all false
set_option maxRecDepth 100000
set_option maxHeartbeats 4000000




namespace K00
open PySem PySem.Spec PyProof.Rows L2 U
theorem cmul_mod {x j k : Int} (h : 0 < k) (h2 : k ≤ 2 ^ 64) : CMul (x % k) j := .inl ⟨by have := Int.emod_nonneg x (show k ≠ 0 by omega); omega, Int.lt_of_lt_of_le (Int.emod_lt_of_pos x h) h2⟩
def Die (d : Addr) (M : Mm) : Prop := ∃ a b c : Int, M d = some (.lst [.int a, .int b, .int c])
def Km (d : Addr) (M M' : Mm) : Prop := ∀ p, p ≠ d → M' p = M p
theorem Km.refl {d : Addr} {M : Mm} : Km d M M := fun _ _ => rfl
theorem Km.trans {d : Addr} {M M1 M2 : Mm} (a : Km d M M1) (b : Km d M1 M2) : Km d M M2 := fun p h => (b p h).trans (a p h)
theorem Km.put {d : Addr} {M M' : Mm} {o : MO} (a : Km d M M') : Km d M (mput M' d o) := fun p h => (mput_ne h).trans (a p h)
def spNumbers : DSp := fun ds M Q _ => ∃ (ns : List Int) (i : Nat), ds = [.lst (ns.map Da.int), .int i] ∧ ns.length ≤ 63 ∧ i < 1000 ∧ ∀ d a b c, M d = none → Q (.ref d) (mput M d (.lst [.int a, .int b, .int c]))
def spCast : DSp := fun ds M Q _ => ∃ (d : Addr) (n : Nat), ds = [.ref d, .int n] ∧ Die d M ∧ 0 < n ∧ n < 1073741824 ∧ ∀ (r : Nat) M', r < n → Die d M' → Km d M M' → Q (.int r) M'
def spPick : DSp := fun ds M Q _ => ∃ (d : Addr) (xs : List Da), ds = [.ref d, .lst xs] ∧ Die d M ∧ 0 < xs.length ∧ xs.length < 1000000 ∧ ∀ x M', x ∈ xs → Die d M' → Km d M M' → Q x M'
theorem D__law_numbers {P : Program} {w : World} {K : PySem.W.Frag} {mg : Str → Option Value} {base : Heap} {C_HandError : Addr} {C_InvalidProgram : Addr} {C_InvalidMeaning : Addr} {C_InvalidOperation : Addr} {C_InvalidCommand : Addr} {C_UnknownName : Addr} {C_InvalidNumber : Addr} {C_NothingToUndo : Addr} {C_Refused : Addr} {C_TooMany : Addr} {C_ParseError : Addr} (A : Facts K C_HandError C_InvalidProgram C_InvalidMeaning C_InvalidOperation C_InvalidCommand C_UnknownName C_InvalidNumber C_NothingToUndo C_Refused C_TooMany C_ParseError) (M : MgOf K mg) (Z : Zs mg)  : KnD P w K mg base "_law_numbers" 1 ["_law_script", "_law_at"] spNumbers := by
  refine KnD.of A.d__law_numbers M sc__law_numbers (fun _ _ _ _ _ _ us hl => match us, hl with | [_, _], _ => rfl) (fun ds M Q E ⟨_, _, h, _⟩ => by rw [h]; rfl) (fun f cdv A0 outer s H E hr => ?_)
  have hu := U.hu_of hr
  have hu1 := U.hu1_of hr
  have nd := sc__law_numbers.nd
  refine ⟨_, (z_cons (z_set 2 nd (d_if (d_tcm o_dlt (dn 1) (d_b Z.len b_len c_dlen (d_cons (dn 0) d_nil))) (d_ix (dn 0) (dn 1)) (d_op o_dadd (d_op o_dmul d_int (dn 1)) d_int)))
      (z_cons (z_set 3 nd (d_op o_dmod (d_t Z.int b_int c_dint (d_cons (d_b Z.abs b_abs c_dabs (d_cons (dn 2) d_nil)) d_nil)) (d_op o_dpow (d_op o_dpow d_int d_int) d_int)))
      (z_cons (z_set 4 nd (d_op o_dadd (d_op o_dadd (d_op o_dadd (d_op o_dmul (dn 3) d_int) (d_op o_dmul d_int (dn 1))) (d_op o_dmul d_int (d_t Z.int b_int c_dint (d_cons (d_ecm o_dlt (dn 2) d_int) d_nil)))) d_int))
      (z_one (z_ret (d_lstM (d_cons (d_b Z.max b_max (c_dmax rfl) (d_cons d_int (d_cons (d_op o_dsub (dn 3) (d_op o_dpow d_int d_int)) d_nil))) (d_cons (d_op o_dmod (d_t Z.int b_int c_dint (d_cons (dn 4) d_nil)) d_int) (d_cons d_int d_nil))))))))), ?_⟩
  rintro ds M Q Ed ⟨ns, i, rfl, hl, hi, k⟩
  refine ite2 (fun c => ?_) (fun c => ⟨.inl (by omega), ?_⟩)
  · have c1 : i < ns.length := by
      have := of_decide_eq_true c
      rw [List.length_map] at this
      omega
    refine ⟨_, atI_nat (v := Da.int ns[i]) (by rw [List.getElem?_map, List.getElem?_eq_getElem c1]; rfl), ?_⟩
    refine ⟨⟨by decide, by decide⟩, ⟨by decide, by decide⟩, by decide, ?_⟩
    refine ⟨.inr (by omega), .inl (by omega), .inl (by omega), ?_⟩
    refine ⟨⟨by decide, by decide⟩, by decide, rfl, fun d hd => k d _ _ _ hd⟩
  · refine ⟨⟨by decide, by decide⟩, ⟨by decide, by decide⟩, by decide, ?_⟩
    refine ⟨.inr (by omega), .inl (by omega), .inl (by omega), ?_⟩
    refine ⟨⟨by decide, by decide⟩, by decide, rfl, fun d hd => k d _ _ _ hd⟩
theorem D__law_cast {P : Program} {w : World} {K : PySem.W.Frag} {mg : Str → Option Value} {base : Heap} {C_HandError : Addr} {C_InvalidProgram : Addr} {C_InvalidMeaning : Addr} {C_InvalidOperation : Addr} {C_InvalidCommand : Addr} {C_UnknownName : Addr} {C_InvalidNumber : Addr} {C_NothingToUndo : Addr} {C_Refused : Addr} {C_TooMany : Addr} {C_ParseError : Addr} (A : Facts K C_HandError C_InvalidProgram C_InvalidMeaning C_InvalidOperation C_InvalidCommand C_UnknownName C_InvalidNumber C_NothingToUndo C_Refused C_TooMany C_ParseError) (M : MgOf K mg) (Z : Zs mg)  : KnD P w K mg base "_law_cast" 1 ["_law_die", "_law_total"] spCast := by
  refine KnD.of A.d__law_cast M sc__law_cast (fun _ _ _ _ _ _ us hl => match us, hl with | [_, _], _ => rfl) (fun ds M Q E ⟨_, _, h, _⟩ => by rw [h]; rfl) (fun f cdv A0 outer s H E hr => ?_)
  have hu := U.hu_of hr
  have hu1 := U.hu1_of hr
  have nd := sc__law_cast.nd
  refine ⟨_, (z_cons (z_if (d_tcm o_dgt (d_ix (dn 0) d_int) d_int) (z_cons (z_set 2 nd (d_op o_dmod (d_t Z.int b_int c_dint (d_cons (d_ix (dn 0) d_int) d_nil)) (dn 1)))
      (z_cons (z_asg (d_op o_ddiv (d_ix (dn 0) d_int) (dn 1)) (t_sub (dn 0) d_int))
      (z_one (z_ret (dn 2))))) z_nil)
      (z_cons (z_asg (d_op o_dadd (d_ix (dn 0) d_int) d_int) (t_sub (dn 0) d_int))
      (z_cons (z_set 3 nd (d_op o_dmod (d_t Z.int b_int c_dint (d_cons (d_op o_dadd (d_ix (dn 0) d_int) (d_op o_dmul d_int (d_ix (dn 0) d_int))) d_nil)) d_int))
      (z_cons (z_set 4 nd (d_op o_dadd (d_op o_dmul (d_op o_dmod (d_t Z.int b_int c_dint (d_cons (d_op o_dmul (dn 3) (dn 3)) d_nil)) d_int) (dn 3)) (d_op o_dmul d_int (d_ix (dn 0) d_int))))
      (z_one (z_ret (d_op o_dmod (d_t Z.int b_int c_dint (d_cons (d_op o_ddiv (d_op o_dmod (d_t Z.int b_int c_dint (d_cons (d_op o_dadd (dn 4) (d_ix (dn 0) d_int)) d_nil)) d_int) d_int) d_nil)) (dn 1)))))))), ?_⟩
  rintro ds M Q Ed ⟨d, n, rfl, ⟨a, b, c, hd⟩, h0, h1, k⟩
  have h0' : (0 : Int) < n := by omega
  have rr : ∀ x : Int, ∃ r : Nat, x % n = r ∧ r < n := fun x => ⟨(x % n).toNat, by
    have := Int.emod_nonneg x (show (n : Int) ≠ 0 by omega); omega, by
    have := Int.emod_nonneg x (show (n : Int) ≠ 0 by omega); have := Int.emod_lt_of_pos x h0'; omega⟩
  refine ⟨_, _, hd, rfl, ite2 (fun c0 => ?_) (fun c0 => ?_)⟩
  · refine ⟨_, _, hd, rfl, h0', ?_⟩
    refine ⟨_, _, hd, rfl, ⟨h0', by omega⟩, _, _, hd, rfl, ?_⟩
    obtain ⟨r, e, hr'⟩ := rr a
    show Q (.int (a % n)) _
    rw [e]
    exact k r _ hr' ⟨_, _, _, mput_same⟩ Km.refl.put
  · refine ⟨_, _, hd, rfl, _, _, hd, rfl, ?_⟩
    refine ⟨_, _, mput_same, rfl, _, _, mput_same, rfl, .inl ⟨by decide, by decide⟩, by decide, ?_⟩
    refine ⟨cmul_mod (by decide) (by decide), by decide, cmul_mod (by decide) (by decide), _, _, mput_same, rfl, .inl ⟨by decide, by decide⟩, ?_⟩
    refine ⟨_, _, mput_same, rfl, by decide, ⟨by decide, by decide⟩, h0', ?_⟩
    refine (fun (x : Int) => ?_ : ∀ x : Int, Q (.int (x % n)) _) _
    obtain ⟨r, e, hr'⟩ := rr x
    rw [e]
    exact k r _ hr' ⟨_, _, _, mput_same⟩ Km.refl.put
theorem D__law_pick {P : Program} {w : World} {K : PySem.W.Frag} {mg : Str → Option Value} {base : Heap} {C_HandError : Addr} {C_InvalidProgram : Addr} {C_InvalidMeaning : Addr} {C_InvalidOperation : Addr} {C_InvalidCommand : Addr} {C_UnknownName : Addr} {C_InvalidNumber : Addr} {C_NothingToUndo : Addr} {C_Refused : Addr} {C_TooMany : Addr} {C_ParseError : Addr} (A : Facts K C_HandError C_InvalidProgram C_InvalidMeaning C_InvalidOperation C_InvalidCommand C_UnknownName C_InvalidNumber C_NothingToUndo C_Refused C_TooMany C_ParseError) (M : MgOf K mg) (Z : Zs mg) (D__law_cast : KnD P w K mg base "_law_cast" 1 ["_law_die", "_law_total"] spCast) : KnD P w K mg base "_law_pick" 2 ["_law_die", "_law_items"] spPick := by
  refine KnD.of A.d__law_pick M sc__law_pick (fun _ _ _ _ _ _ us hl => match us, hl with | [_, _], _ => rfl) (fun ds M Q E ⟨_, _, h, _⟩ => by rw [h]; rfl) (fun f cdv A0 outer s H E hr => ?_)
  have hu := U.hu_of hr
  have hu1 := U.hu1_of hr
  have nd := sc__law_pick.nd
  refine ⟨_, (z_one (z_ret (d_ix (dn 1) (d_call D__law_cast (hr.mono (by decide)) (d_cons (dn 0) (d_cons (d_b Z.len b_len c_dlen (d_cons (dn 1) d_nil)) d_nil)))))), ?_⟩
  rintro ds M Q Ed ⟨d, xs, rfl, hd, h0, h1, k⟩
  refine ⟨d, xs.length, rfl, hd, h0, by omega, fun r M' hr hd' km => ?_⟩
  exact ⟨_, atI_nat (List.getElem?_eq_getElem hr), k _ _ (List.getElem_mem hr) hd' km⟩
def pick6 (b : Nat → Bool) : List Da := ((List.range 6).filter b).map fun (i : Nat) => Da.int (i : Int)
def spHands (K : PySem.W.Frag) (cs : List Addr) : DSp := fun ds M Q _ => ∃ (p C : Addr) (fs : List (Str × Da)) (b : Nat → Bool), ds = [.ref p] ∧ M p = some (.exc p C fs) ∧ ExcC K C ∧ (∀ (i : Nat) (c : Addr), cs[i]? = some c → PySem.W.kitOne K (.ref C) (.ref c) = some (b i)) ∧ Q (.lst (pick6 b)) M
def W1 (b : Bool) (s : Str) : List Da := (List.replicate (if b then (1 : Int) else 0).toNat [Da.str s]).flatten
theorem W1_len {b : Bool} {s : Str} : (W1 b s).length ≤ 1 := by cases b <;> simp [W1]
theorem i1 {b : Bool} : (if b then (1 : Int) else 0) ≤ 10000 := by cases b <;> decide
theorem i2 {b : Bool} : -1000 ≤ (if b then (1 : Int) else 0) := by cases b <;> decide
theorem lapp {xs ys : List Da} {m n : Nat} (h1 : xs.length ≤ m) (h2 : ys.length ≤ n) : (xs ++ ys).length ≤ m + n := by rw [List.length_append]; omega
theorem szA {xs ys : List Da} {m n : Nat} (h1 : xs.length ≤ m) (h2 : ys.length ≤ n) (h : m + n ≤ 1000000) : Sz (xs.length + ys.length) := sz (by omega)
def othW (b : Nat → Bool) : List Da := W1 (b 0) "name" ++ W1 (b 1) "number" ++ W1 (b 2) "undo" ++ W1 (b 3) "refused" ++ W1 (b 4) "over" ++ W1 (b 5) "value" ++ W1 (b 6) "key" ++ W1 (b 7) "index" ++ W1 (b 8) "lookup" ++ W1 (b 9) "arithmetic" ++ W1 (b 10) "overflow"
def spOthers (K : PySem.W.Frag) (cs : List Addr) : DSp := fun ds M Q _ => ∃ (p C : Addr) (fs : List (Str × Da)) (b : Nat → Bool), ds = [.ref p] ∧ M p = some (.exc p C fs) ∧ ExcC K C ∧ (∀ (i : Nat) (c : Addr), cs[i]? = some c → PySem.W.kitOne K (.ref C) (.ref c) = some (b i)) ∧
  (∀ (i : Nat) (T : String), (["ValueError", "KeyError", "IndexError", "LookupError", "ArithmeticError", "OverflowError"] : List String)[i]? = some T → PySem.W.kitOne K (.ref C) (.type T) = some (b (5 + i))) ∧ Q (.lst (othW b)) M
theorem b_ValueError : bootBuiltins "ValueError" = some (.type "ValueError") := by decide +kernel
theorem b_KeyError : bootBuiltins "KeyError" = some (.type "KeyError") := by decide +kernel
theorem b_IndexError : bootBuiltins "IndexError" = some (.type "IndexError") := by decide +kernel
theorem b_LookupError : bootBuiltins "LookupError" = some (.type "LookupError") := by decide +kernel
theorem b_ArithmeticError : bootBuiltins "ArithmeticError" = some (.type "ArithmeticError") := by decide +kernel
theorem b_OverflowError : bootBuiltins "OverflowError" = some (.type "OverflowError") := by decide +kernel
theorem D__law_of_hands {P : Program} {w : World} {K : PySem.W.Frag} {mg : Str → Option Value} {base : Heap} {C_HandError : Addr} {C_InvalidProgram : Addr} {C_InvalidMeaning : Addr} {C_InvalidOperation : Addr} {C_InvalidCommand : Addr} {C_UnknownName : Addr} {C_InvalidNumber : Addr} {C_NothingToUndo : Addr} {C_Refused : Addr} {C_TooMany : Addr} {C_ParseError : Addr} (A : Facts K C_HandError C_InvalidProgram C_InvalidMeaning C_InvalidOperation C_InvalidCommand C_UnknownName C_InvalidNumber C_NothingToUndo C_Refused C_TooMany C_ParseError) (M : MgOf K mg) (Z : Zs mg)  : KnD P w K mg base "_law_of_hands" 1 ["_law_error"] (spHands K [C_HandError, C_InvalidProgram, C_InvalidMeaning, C_InvalidOperation, C_InvalidCommand, C_ParseError]) := by
  refine KnD.of A.d__law_of_hands M sc__law_of_hands (fun _ _ _ _ _ _ us hl => match us, hl with | [_], _ => rfl) (fun ds M Q E ⟨_, _, _, _, h, _⟩ => by rw [h]; rfl) (fun f cdv A0 outer s H E hr => ?_)
  have hu := U.hu_of hr
  have hu1 := U.hu1_of hr
  have nd := sc__law_of_hands.nd
  refine ⟨_, (z_cons (z_set 1 nd (d_lst (d_cons (d_b Z.isinstance b_isinstance (show CD _ _ (kIsG K) from c_disG) (d_cons (dn 0) (d_cons (d_glob (M.of _ _ A.x_HandError.at_)) d_nil))) (d_cons (d_b Z.isinstance b_isinstance (show CD _ _ (kIsG K) from c_disG) (d_cons (dn 0) (d_cons (d_glob (M.of _ _ A.x_InvalidProgram.at_)) d_nil))) (d_cons (d_b Z.isinstance b_isinstance (show CD _ _ (kIsG K) from c_disG) (d_cons (dn 0) (d_cons (d_glob (M.of _ _ A.x_InvalidMeaning.at_)) d_nil))) d_nil)))))
      (z_cons (z_set 1 nd (d_op o_daddM (dn 1) (d_lst (d_cons (d_b Z.isinstance b_isinstance (show CD _ _ (kIsG K) from c_disG) (d_cons (dn 0) (d_cons (d_glob (M.of _ _ A.x_InvalidOperation.at_)) d_nil))) (d_cons (d_b Z.isinstance b_isinstance (show CD _ _ (kIsG K) from c_disG) (d_cons (dn 0) (d_cons (d_glob (M.of _ _ A.x_InvalidCommand.at_)) d_nil))) d_nil)))))
      (z_cons (z_expr (d_append (dn 1) (d_cons (d_b Z.isinstance b_isinstance (show CD _ _ (kIsG K) from c_disG) (d_cons (dn 0) (d_cons (d_glob (M.of _ _ A.xe_ParseError.at_)) d_nil))) d_nil)))
      (z_one (z_retF (d_lc (own := [("_law_at", 2)]) (c := (.n 2)) rfl nd (d_rg1 Z.range (d_cons d_int d_nil)) (blkOk_by (own := [("_law_at", 2)]) (N := N__law_of_hands) (sc := defScope s__law_of_hands) (by decide +kernel)) (fun _ _ _ _ _ => (gn 2 nd)) (fun _ _ _ _ _ => (d_ts1 (d_tv (d_ix (dn 1) (dn 2))))) (fun _ _ _ _ _ => (dn 2)))))))), ?_⟩
  rintro ds M Q Ed ⟨p, C, fs, b, rfl, hm, hC, hk, q⟩
  refine ⟨C, fs, b 0, hm, hC, hk 0 _ rfl, C, fs, b 1, hm, hC, hk 1 _ rfl, C, fs, b 2, hm, hC, hk 2 _ rfl, ?_⟩
  refine ⟨rfl, ?_⟩
  refine ⟨C, fs, b 3, hm, hC, hk 3 _ rfl, C, fs, b 4, hm, hC, hk 4 _ rfl, rfl, rfl, ?_⟩
  intro pt ht
  have hpt : p ≠ pt := fun e => by rw [e, ht] at hm; cases hm
  have hm' : ∀ o, mput M pt o p = some (.exc p C fs) := fun o => by rw [mput_ne hpt]; exact hm
  refine ⟨⟨pt, _, rfl, mput_same⟩, C, fs, b 5, hm' _, hC, hk 5 _ rfl, _, mput_same, rfl, ?_⟩
  refine ⟨rok (by decide) (by decide), ?_⟩
  show Sz 6 ∧ lcD _ _ _ _ ((List.range 6).map fun (i : Nat) => Da.int i) _ _
  refine ⟨rfl, lcD_map b (fun (i : Nat) => Da.int i) (fun i hi => ⟨?_, fun Q' q' => ?_⟩) (fun i hi hb Q' q' => ?_) ?_⟩
  · trivial
  · have hi' := List.mem_range.mp hi
    refine ⟨_, .bl (b i), mput_same, ?_, q'⟩
    rcases i with _|_|_|_|_|_|i
    any_goals rfl
    omega
  · exact q'
  · refine ⟨M, fun a o h => ?_, q⟩
    have ha : a ≠ pt := fun e => by rw [e, ht] at h; cases h
    rw [mput_ne ha, mput_ne ha]; exact h
theorem D__law_of_others {P : Program} {w : World} {K : PySem.W.Frag} {mg : Str → Option Value} {base : Heap} {C_HandError : Addr} {C_InvalidProgram : Addr} {C_InvalidMeaning : Addr} {C_InvalidOperation : Addr} {C_InvalidCommand : Addr} {C_UnknownName : Addr} {C_InvalidNumber : Addr} {C_NothingToUndo : Addr} {C_Refused : Addr} {C_TooMany : Addr} {C_ParseError : Addr} (A : Facts K C_HandError C_InvalidProgram C_InvalidMeaning C_InvalidOperation C_InvalidCommand C_UnknownName C_InvalidNumber C_NothingToUndo C_Refused C_TooMany C_ParseError) (M : MgOf K mg) (Z : Zs mg)  : KnD P w K mg base "_law_of_others" 1 ["_law_error"] (spOthers K [C_UnknownName, C_InvalidNumber, C_NothingToUndo, C_Refused, C_TooMany]) := by
  refine KnD.of A.d__law_of_others M sc__law_of_others (fun _ _ _ _ _ _ us hl => match us, hl with | [_], _ => rfl) (fun ds M Q E ⟨_, _, _, _, h, _⟩ => by rw [h]; rfl) (fun f cdv A0 outer s H E hr => ?_)
  have hu := U.hu_of hr
  have hu1 := U.hu1_of hr
  have nd := sc__law_of_others.nd
  refine ⟨_, (z_cons (z_set 1 nd (d_op o_dadd (d_op o_dmulB (d_lst (d_cons d_str d_nil)) (d_t Z.int b_int c_dint (d_cons (d_b Z.isinstance b_isinstance (show CD _ _ (kIsG K) from c_disG) (d_cons (dn 0) (d_cons (d_glob (M.of _ _ A.xe_UnknownName.at_)) d_nil))) d_nil))) (d_op o_dmulB (d_lst (d_cons d_str d_nil)) (d_t Z.int b_int c_dint (d_cons (d_b Z.isinstance b_isinstance (show CD _ _ (kIsG K) from c_disG) (d_cons (dn 0) (d_cons (d_glob (M.of _ _ A.xe_InvalidNumber.at_)) d_nil))) d_nil)))))
      (z_cons (z_set 1 nd (d_op o_dadd (dn 1) (d_op o_dmulB (d_lst (d_cons d_str d_nil)) (d_t Z.int b_int c_dint (d_cons (d_b Z.isinstance b_isinstance (show CD _ _ (kIsG K) from c_disG) (d_cons (dn 0) (d_cons (d_glob (M.of _ _ A.xe_NothingToUndo.at_)) d_nil))) d_nil)))))
      (z_cons (z_set 1 nd (d_op o_dadd (d_op o_dadd (dn 1) (d_op o_dmulB (d_lst (d_cons d_str d_nil)) (d_t Z.int b_int c_dint (d_cons (d_b Z.isinstance b_isinstance (show CD _ _ (kIsG K) from c_disG) (d_cons (dn 0) (d_cons (d_glob (M.of _ _ A.xe_Refused.at_)) d_nil))) d_nil)))) (d_op o_dmulB (d_lst (d_cons d_str d_nil)) (d_t Z.int b_int c_dint (d_cons (d_b Z.isinstance b_isinstance (show CD _ _ (kIsG K) from c_disG) (d_cons (dn 0) (d_cons (d_glob (M.of _ _ A.xe_TooMany.at_)) d_nil))) d_nil)))))
      (z_cons (z_set 1 nd (d_op o_dadd (d_op o_dadd (dn 1) (d_op o_dmulB (d_lst (d_cons d_str d_nil)) (d_t Z.int b_int c_dint (d_cons (d_b Z.isinstance b_isinstance (show CD _ _ (kIsG K) from c_disG) (d_cons (dn 0) (d_cons (d_ty Z.ValueError b_ValueError) d_nil))) d_nil)))) (d_op o_dmulB (d_lst (d_cons d_str d_nil)) (d_t Z.int b_int c_dint (d_cons (d_b Z.isinstance b_isinstance (show CD _ _ (kIsG K) from c_disG) (d_cons (dn 0) (d_cons (d_ty Z.KeyError b_KeyError) d_nil))) d_nil)))))
      (z_cons (z_set 1 nd (d_op o_dadd (dn 1) (d_op o_dmulB (d_lst (d_cons d_str d_nil)) (d_t Z.int b_int c_dint (d_cons (d_b Z.isinstance b_isinstance (show CD _ _ (kIsG K) from c_disG) (d_cons (dn 0) (d_cons (d_ty Z.IndexError b_IndexError) d_nil))) d_nil)))))
      (z_cons (z_set 1 nd (d_op o_dadd (dn 1) (d_op o_dmulB (d_lst (d_cons d_str d_nil)) (d_t Z.int b_int c_dint (d_cons (d_b Z.isinstance b_isinstance (show CD _ _ (kIsG K) from c_disG) (d_cons (dn 0) (d_cons (d_ty Z.LookupError b_LookupError) d_nil))) d_nil)))))
      (z_cons (z_set 1 nd (d_op o_dadd (dn 1) (d_op o_dmulB (d_lst (d_cons d_str d_nil)) (d_t Z.int b_int c_dint (d_cons (d_b Z.isinstance b_isinstance (show CD _ _ (kIsG K) from c_disG) (d_cons (dn 0) (d_cons (d_ty Z.ArithmeticError b_ArithmeticError) d_nil))) d_nil)))))
      (z_one (z_ret (d_op o_dadd (dn 1) (d_op o_dmulB (d_lst (d_cons d_str d_nil)) (d_t Z.int b_int c_dint (d_cons (d_b Z.isinstance b_isinstance (show CD _ _ (kIsG K) from c_disG) (d_cons (dn 0) (d_cons (d_ty Z.OverflowError b_OverflowError) d_nil))) d_nil))))))))))))), ?_⟩
  rintro ds M Q Ed ⟨p, C, fs, b, rfl, hm, hC, h1, h2, q⟩
  refine ⟨rfl, C, fs, b 0, hm, hC, h1 0 _ rfl, i1, i2, by decide, ?_⟩
  refine ⟨rfl, C, fs, b 1, hm, hC, h1 1 _ rfl, i1, i2, by decide, szA (W1_len (b := b 0) (s := "name")) (W1_len (b := b 1) (s := "number")) (by decide), ?_⟩
  refine ⟨rfl, C, fs, b 2, hm, hC, h1 2 _ rfl, i1, i2, by decide, szA (lapp (W1_len (b := b 0) (s := "name")) (W1_len (b := b 1) (s := "number"))) (W1_len (b := b 2) (s := "undo")) (by decide), ?_⟩
  refine ⟨rfl, C, fs, b 3, hm, hC, h1 3 _ rfl, i1, i2, by decide, szA (lapp (lapp (W1_len (b := b 0) (s := "name")) (W1_len (b := b 1) (s := "number"))) (W1_len (b := b 2) (s := "undo"))) (W1_len (b := b 3) (s := "refused")) (by decide), ?_⟩
  refine ⟨rfl, C, fs, b 4, hm, hC, h1 4 _ rfl, i1, i2, by decide, szA (lapp (lapp (lapp (W1_len (b := b 0) (s := "name")) (W1_len (b := b 1) (s := "number"))) (W1_len (b := b 2) (s := "undo"))) (W1_len (b := b 3) (s := "refused"))) (W1_len (b := b 4) (s := "over")) (by decide), ?_⟩
  refine ⟨rfl, C, fs, b 5, hm, hC, h2 0 _ rfl, i1, i2, by decide, szA (lapp (lapp (lapp (lapp (W1_len (b := b 0) (s := "name")) (W1_len (b := b 1) (s := "number"))) (W1_len (b := b 2) (s := "undo"))) (W1_len (b := b 3) (s := "refused"))) (W1_len (b := b 4) (s := "over"))) (W1_len (b := b 5) (s := "value")) (by decide), ?_⟩
  refine ⟨rfl, C, fs, b 6, hm, hC, h2 1 _ rfl, i1, i2, by decide, szA (lapp (lapp (lapp (lapp (lapp (W1_len (b := b 0) (s := "name")) (W1_len (b := b 1) (s := "number"))) (W1_len (b := b 2) (s := "undo"))) (W1_len (b := b 3) (s := "refused"))) (W1_len (b := b 4) (s := "over"))) (W1_len (b := b 5) (s := "value"))) (W1_len (b := b 6) (s := "key")) (by decide), ?_⟩
  refine ⟨rfl, C, fs, b 7, hm, hC, h2 2 _ rfl, i1, i2, by decide, szA (lapp (lapp (lapp (lapp (lapp (lapp (W1_len (b := b 0) (s := "name")) (W1_len (b := b 1) (s := "number"))) (W1_len (b := b 2) (s := "undo"))) (W1_len (b := b 3) (s := "refused"))) (W1_len (b := b 4) (s := "over"))) (W1_len (b := b 5) (s := "value"))) (W1_len (b := b 6) (s := "key"))) (W1_len (b := b 7) (s := "index")) (by decide), ?_⟩
  refine ⟨rfl, C, fs, b 8, hm, hC, h2 3 _ rfl, i1, i2, by decide, szA (lapp (lapp (lapp (lapp (lapp (lapp (lapp (W1_len (b := b 0) (s := "name")) (W1_len (b := b 1) (s := "number"))) (W1_len (b := b 2) (s := "undo"))) (W1_len (b := b 3) (s := "refused"))) (W1_len (b := b 4) (s := "over"))) (W1_len (b := b 5) (s := "value"))) (W1_len (b := b 6) (s := "key"))) (W1_len (b := b 7) (s := "index"))) (W1_len (b := b 8) (s := "lookup")) (by decide), ?_⟩
  refine ⟨rfl, C, fs, b 9, hm, hC, h2 4 _ rfl, i1, i2, by decide, szA (lapp (lapp (lapp (lapp (lapp (lapp (lapp (lapp (W1_len (b := b 0) (s := "name")) (W1_len (b := b 1) (s := "number"))) (W1_len (b := b 2) (s := "undo"))) (W1_len (b := b 3) (s := "refused"))) (W1_len (b := b 4) (s := "over"))) (W1_len (b := b 5) (s := "value"))) (W1_len (b := b 6) (s := "key"))) (W1_len (b := b 7) (s := "index"))) (W1_len (b := b 8) (s := "lookup"))) (W1_len (b := b 9) (s := "arithmetic")) (by decide), ?_⟩
  refine ⟨rfl, C, fs, b 10, hm, hC, h2 5 _ rfl, i1, i2, by decide, szA (lapp (lapp (lapp (lapp (lapp (lapp (lapp (lapp (lapp (W1_len (b := b 0) (s := "name")) (W1_len (b := b 1) (s := "number"))) (W1_len (b := b 2) (s := "undo"))) (W1_len (b := b 3) (s := "refused"))) (W1_len (b := b 4) (s := "over"))) (W1_len (b := b 5) (s := "value"))) (W1_len (b := b 6) (s := "key"))) (W1_len (b := b 7) (s := "index"))) (W1_len (b := b 8) (s := "lookup"))) (W1_len (b := b 9) (s := "arithmetic"))) (W1_len (b := b 10) (s := "overflow")) (by decide), ?_⟩
  exact q

end K00
set_option Elab.async false
set_option linter.all false
set_option maxRecDepth 100000
set_option maxHeartbeats 4000000




namespace K00
open PySem PySem.Spec PyProof.Rows L2 U
theorem kself {K : PySem.W.Frag} {v : Value} : PySem.W.kitOne K v v = some true := by unfold PySem.W.kitOne; rw [if_pos (by simp)]
theorem mput_none {M : Mm} {p q : Addr} {o : MO} (h : mput M p o q = none) : q ≠ p ∧ M q = none := by
  by_cases e : q = p
  · rw [e, mput_same] at h; cases h
  · rw [mput_ne e] at h; exact ⟨e, h⟩
theorem qtrue {Q : DK} {b : Bool} {M : Mm} (h : b = true) (q : Q (.bl true) M) : Q (.bl b) M := h ▸ q
def someL : List Da := [.int 0, .int 7, .str "p", .str "", .tup [.str "p", .int 3], .non, .int (-1), .int (10 ^ 39), .lst [.int 1], .dct [], .bl true, .tup [], .str "a b"]
theorem shw_some {x : Da} (h : x ∈ someL) : ∃ p, PD x p ∧ (p.hasDict = false ∨ x = .dct []) ∧ p.showable = true ∧ p.shown.length ≤ 100 ∧ p.depth ≤ 3 := by
  simp only [someL, List.mem_cons, List.not_mem_nil, or_false] at h
  rcases h with rfl | rfl | rfl | rfl | rfl | rfl | rfl | rfl | rfl | rfl | rfl | rfl | rfl
  · exact ⟨.int 0, .int _, .inl rfl, by decide +kernel, by decide +kernel, by decide +kernel⟩
  · exact ⟨.int 7, .int _, .inl rfl, by decide +kernel, by decide +kernel, by decide +kernel⟩
  · exact ⟨.str "p", .str _, .inl rfl, by decide +kernel, by decide +kernel, by decide +kernel⟩
  · exact ⟨.str "", .str _, .inl rfl, by decide +kernel, by decide +kernel, by decide +kernel⟩
  · exact ⟨.tuple [.str "p", .int 3], .tup (.cons (.str _) (.cons (.int _) .nil)), .inl rfl, by decide +kernel, by decide +kernel, by decide +kernel⟩
  · exact ⟨.none, .non, .inl rfl, by decide +kernel, by decide +kernel, by decide +kernel⟩
  · exact ⟨.int (-1), .int _, .inl rfl, by decide +kernel, by decide +kernel, by decide +kernel⟩
  · exact ⟨.int (10 ^ 39), .int _, .inl rfl, by decide +kernel, by decide +kernel, by decide +kernel⟩
  · exact ⟨.list [.int 1], .lst (.cons (.int _) .nil), .inl rfl, by decide +kernel, by decide +kernel, by decide +kernel⟩
  · exact ⟨.dict [], .dct, .inr rfl, by decide +kernel, by decide +kernel, by decide +kernel⟩
  · exact ⟨.bool true, .bl _, .inl rfl, by decide +kernel, by decide +kernel, by decide +kernel⟩
  · exact ⟨.tuple [], .tup .nil, .inl rfl, by decide +kernel, by decide +kernel, by decide +kernel⟩
  · exact ⟨.str "a b", .str _, .inl rfl, by decide +kernel, by decide +kernel, by decide +kernel⟩
theorem shw_all : ∀ {xs : List Da}, (∀ x ∈ xs, x ∈ someL) → ∃ ps, PDi xs ps ∧ PyData.showableAll ps = true ∧ ((PyData.shownAll ps).map (·.length)).sum ≤ 100 * xs.length ∧ (PyData.shownAll ps).length = xs.length ∧ PyData.depthAll ps ≤ 3
  | [], _ => ⟨[], .nil, rfl, by simp [PyData.shownAll], by simp [PyData.shownAll], by simp [PyData.depthAll]⟩
  | x :: xs, h => by
    obtain ⟨p, a, b, c, d, e⟩ := shw_some (h x List.mem_cons_self)
    obtain ⟨ps, a', c', d', n', e'⟩ := shw_all (xs := xs) fun y hy => h y (List.mem_cons_of_mem _ hy)
    refine ⟨p :: ps, .cons a b a', ?_, ?_, ?_, ?_⟩
    · simp only [PyData.showableAll, c, c', Bool.and_self]
    · simp only [PyData.shownAll, List.map_cons, List.sum_cons, List.length_cons]; omega
    · simp only [PyData.shownAll, List.length_cons, n']
    · simp only [PyData.depthAll]; omega
theorem shwL_of {xs : List Da} (h : ∀ x ∈ xs, x ∈ someL) (hl : xs.length = 6) : ∃ ps, ShwL xs ps := by
  obtain ⟨ps, a, b, c, n, e⟩ := shw_all h
  refine ⟨ps, a, b, ?_, ?_⟩
  · simp only [PyData.shown]
    refine Nat.le_trans (listText_len_le _) ?_
    rw [n, sizeLine_eq]; omega
  · simp only [PyData.depth]; omega
section
variable {K : PySem.W.Frag} {C_HandError : Addr} {C_InvalidProgram : Addr} {C_InvalidMeaning : Addr} {C_InvalidOperation : Addr} {C_InvalidCommand : Addr} {C_UnknownName : Addr} {C_InvalidNumber : Addr} {C_NothingToUndo : Addr} {C_Refused : Addr} {C_TooMany : Addr} {C_ParseError : Addr} (A : Facts K C_HandError C_InvalidProgram C_InvalidMeaning C_InvalidOperation C_InvalidCommand C_UnknownName C_InvalidNumber C_NothingToUndo C_Refused C_TooMany C_ParseError)
include A
def bH_HandError : Nat → Bool := (fun i => ([true, false, false, false, false, false] : List Bool).getD i false)
theorem hk_HandError : ∀ (i : Nat) (c : Addr), ([C_HandError, C_InvalidProgram, C_InvalidMeaning, C_InvalidOperation, C_InvalidCommand, C_ParseError] : List Addr)[i]? = some c → PySem.W.kitOne K (.ref C_HandError) (.ref c) = some (bH_HandError i) := by
  intro i c h
  rcases i with _|_|_|_|_|_|i
  · cases h; exact kself
  · cases h; exact A.ki_HandError_InvalidProgram
  · cases h; exact A.ki_HandError_InvalidMeaning
  · cases h; exact A.ki_HandError_InvalidOperation
  · cases h; exact A.ki_HandError_InvalidCommand
  · cases h; exact A.ki_HandError_ParseError
  · simp at h
def bO_HandError : Nat → Bool := (fun i => ([false, false, false, false, false, true, false, false, false, false, false] : List Bool).getD i false)
theorem ok_HandError : ∀ (i : Nat) (c : Addr), ([C_UnknownName, C_InvalidNumber, C_NothingToUndo, C_Refused, C_TooMany] : List Addr)[i]? = some c → PySem.W.kitOne K (.ref C_HandError) (.ref c) = some (bO_HandError i) := by
  intro i c h
  rcases i with _|_|_|_|_|i
  · cases h; exact A.ki_HandError_UnknownName
  · cases h; exact A.ki_HandError_InvalidNumber
  · cases h; exact A.ki_HandError_NothingToUndo
  · cases h; exact A.ki_HandError_Refused
  · cases h; exact A.ki_HandError_TooMany
  · simp at h
theorem om_HandError : ∀ (i : Nat) (T : String), (["ValueError", "KeyError", "IndexError", "LookupError", "ArithmeticError", "OverflowError"] : List String)[i]? = some T → PySem.W.kitOne K (.ref C_HandError) (.type T) = some (bO_HandError (5 + i)) := by
  intro i c h
  rcases i with _|_|_|_|_|_|i
  · cases h; exact U.kit_mkT (by decide) A.mr_HandError_ValueError
  · cases h; exact U.kit_mkT (by decide) A.mr_HandError_KeyError
  · cases h; exact U.kit_mkT (by decide) A.mr_HandError_IndexError
  · cases h; exact U.kit_mkT (by decide) A.mr_HandError_LookupError
  · cases h; exact U.kit_mkT (by decide) A.mr_HandError_ArithmeticError
  · cases h; exact U.kit_mkT (by decide) A.mr_HandError_OverflowError
  · simp at h
def bH_InvalidProgram : Nat → Bool := (fun i => ([true, true, false, false, false, false] : List Bool).getD i false)
theorem hk_InvalidProgram : ∀ (i : Nat) (c : Addr), ([C_HandError, C_InvalidProgram, C_InvalidMeaning, C_InvalidOperation, C_InvalidCommand, C_ParseError] : List Addr)[i]? = some c → PySem.W.kitOne K (.ref C_InvalidProgram) (.ref c) = some (bH_InvalidProgram i) := by
  intro i c h
  rcases i with _|_|_|_|_|_|i
  · cases h; exact A.ki_InvalidProgram_HandError
  · cases h; exact kself
  · cases h; exact A.ki_InvalidProgram_InvalidMeaning
  · cases h; exact A.ki_InvalidProgram_InvalidOperation
  · cases h; exact A.ki_InvalidProgram_InvalidCommand
  · cases h; exact A.ki_InvalidProgram_ParseError
  · simp at h
def bO_InvalidProgram : Nat → Bool := (fun i => ([false, false, false, false, false, true, false, false, false, false, false] : List Bool).getD i false)
theorem ok_InvalidProgram : ∀ (i : Nat) (c : Addr), ([C_UnknownName, C_InvalidNumber, C_NothingToUndo, C_Refused, C_TooMany] : List Addr)[i]? = some c → PySem.W.kitOne K (.ref C_InvalidProgram) (.ref c) = some (bO_InvalidProgram i) := by
  intro i c h
  rcases i with _|_|_|_|_|i
  · cases h; exact A.ki_InvalidProgram_UnknownName
  · cases h; exact A.ki_InvalidProgram_InvalidNumber
  · cases h; exact A.ki_InvalidProgram_NothingToUndo
  · cases h; exact A.ki_InvalidProgram_Refused
  · cases h; exact A.ki_InvalidProgram_TooMany
  · simp at h
theorem om_InvalidProgram : ∀ (i : Nat) (T : String), (["ValueError", "KeyError", "IndexError", "LookupError", "ArithmeticError", "OverflowError"] : List String)[i]? = some T → PySem.W.kitOne K (.ref C_InvalidProgram) (.type T) = some (bO_InvalidProgram (5 + i)) := by
  intro i c h
  rcases i with _|_|_|_|_|_|i
  · cases h; exact U.kit_mkT (by decide) A.mr_InvalidProgram_ValueError
  · cases h; exact U.kit_mkT (by decide) A.mr_InvalidProgram_KeyError
  · cases h; exact U.kit_mkT (by decide) A.mr_InvalidProgram_IndexError
  · cases h; exact U.kit_mkT (by decide) A.mr_InvalidProgram_LookupError
  · cases h; exact U.kit_mkT (by decide) A.mr_InvalidProgram_ArithmeticError
  · cases h; exact U.kit_mkT (by decide) A.mr_InvalidProgram_OverflowError
  · simp at h
def bH_InvalidMeaning : Nat → Bool := (fun i => ([true, false, true, false, false, false] : List Bool).getD i false)
theorem hk_InvalidMeaning : ∀ (i : Nat) (c : Addr), ([C_HandError, C_InvalidProgram, C_InvalidMeaning, C_InvalidOperation, C_InvalidCommand, C_ParseError] : List Addr)[i]? = some c → PySem.W.kitOne K (.ref C_InvalidMeaning) (.ref c) = some (bH_InvalidMeaning i) := by
  intro i c h
  rcases i with _|_|_|_|_|_|i
  · cases h; exact A.ki_InvalidMeaning_HandError
  · cases h; exact A.ki_InvalidMeaning_InvalidProgram
  · cases h; exact kself
  · cases h; exact A.ki_InvalidMeaning_InvalidOperation
  · cases h; exact A.ki_InvalidMeaning_InvalidCommand
  · cases h; exact A.ki_InvalidMeaning_ParseError
  · simp at h
def bO_InvalidMeaning : Nat → Bool := (fun i => ([false, false, false, false, false, true, false, false, false, false, false] : List Bool).getD i false)
theorem ok_InvalidMeaning : ∀ (i : Nat) (c : Addr), ([C_UnknownName, C_InvalidNumber, C_NothingToUndo, C_Refused, C_TooMany] : List Addr)[i]? = some c → PySem.W.kitOne K (.ref C_InvalidMeaning) (.ref c) = some (bO_InvalidMeaning i) := by
  intro i c h
  rcases i with _|_|_|_|_|i
  · cases h; exact A.ki_InvalidMeaning_UnknownName
  · cases h; exact A.ki_InvalidMeaning_InvalidNumber
  · cases h; exact A.ki_InvalidMeaning_NothingToUndo
  · cases h; exact A.ki_InvalidMeaning_Refused
  · cases h; exact A.ki_InvalidMeaning_TooMany
  · simp at h
theorem om_InvalidMeaning : ∀ (i : Nat) (T : String), (["ValueError", "KeyError", "IndexError", "LookupError", "ArithmeticError", "OverflowError"] : List String)[i]? = some T → PySem.W.kitOne K (.ref C_InvalidMeaning) (.type T) = some (bO_InvalidMeaning (5 + i)) := by
  intro i c h
  rcases i with _|_|_|_|_|_|i
  · cases h; exact U.kit_mkT (by decide) A.mr_InvalidMeaning_ValueError
  · cases h; exact U.kit_mkT (by decide) A.mr_InvalidMeaning_KeyError
  · cases h; exact U.kit_mkT (by decide) A.mr_InvalidMeaning_IndexError
  · cases h; exact U.kit_mkT (by decide) A.mr_InvalidMeaning_LookupError
  · cases h; exact U.kit_mkT (by decide) A.mr_InvalidMeaning_ArithmeticError
  · cases h; exact U.kit_mkT (by decide) A.mr_InvalidMeaning_OverflowError
  · simp at h
def bH_InvalidOperation : Nat → Bool := (fun i => ([true, false, false, true, false, false] : List Bool).getD i false)
theorem hk_InvalidOperation : ∀ (i : Nat) (c : Addr), ([C_HandError, C_InvalidProgram, C_InvalidMeaning, C_InvalidOperation, C_InvalidCommand, C_ParseError] : List Addr)[i]? = some c → PySem.W.kitOne K (.ref C_InvalidOperation) (.ref c) = some (bH_InvalidOperation i) := by
  intro i c h
  rcases i with _|_|_|_|_|_|i
  · cases h; exact A.ki_InvalidOperation_HandError
  · cases h; exact A.ki_InvalidOperation_InvalidProgram
  · cases h; exact A.ki_InvalidOperation_InvalidMeaning
  · cases h; exact kself
  · cases h; exact A.ki_InvalidOperation_InvalidCommand
  · cases h; exact A.ki_InvalidOperation_ParseError
  · simp at h
def bO_InvalidOperation : Nat → Bool := (fun i => ([false, false, false, false, false, true, false, false, false, false, false] : List Bool).getD i false)
theorem ok_InvalidOperation : ∀ (i : Nat) (c : Addr), ([C_UnknownName, C_InvalidNumber, C_NothingToUndo, C_Refused, C_TooMany] : List Addr)[i]? = some c → PySem.W.kitOne K (.ref C_InvalidOperation) (.ref c) = some (bO_InvalidOperation i) := by
  intro i c h
  rcases i with _|_|_|_|_|i
  · cases h; exact A.ki_InvalidOperation_UnknownName
  · cases h; exact A.ki_InvalidOperation_InvalidNumber
  · cases h; exact A.ki_InvalidOperation_NothingToUndo
  · cases h; exact A.ki_InvalidOperation_Refused
  · cases h; exact A.ki_InvalidOperation_TooMany
  · simp at h
theorem om_InvalidOperation : ∀ (i : Nat) (T : String), (["ValueError", "KeyError", "IndexError", "LookupError", "ArithmeticError", "OverflowError"] : List String)[i]? = some T → PySem.W.kitOne K (.ref C_InvalidOperation) (.type T) = some (bO_InvalidOperation (5 + i)) := by
  intro i c h
  rcases i with _|_|_|_|_|_|i
  · cases h; exact U.kit_mkT (by decide) A.mr_InvalidOperation_ValueError
  · cases h; exact U.kit_mkT (by decide) A.mr_InvalidOperation_KeyError
  · cases h; exact U.kit_mkT (by decide) A.mr_InvalidOperation_IndexError
  · cases h; exact U.kit_mkT (by decide) A.mr_InvalidOperation_LookupError
  · cases h; exact U.kit_mkT (by decide) A.mr_InvalidOperation_ArithmeticError
  · cases h; exact U.kit_mkT (by decide) A.mr_InvalidOperation_OverflowError
  · simp at h
def bH_InvalidCommand : Nat → Bool := (fun i => ([true, false, false, false, true, false] : List Bool).getD i false)
theorem hk_InvalidCommand : ∀ (i : Nat) (c : Addr), ([C_HandError, C_InvalidProgram, C_InvalidMeaning, C_InvalidOperation, C_InvalidCommand, C_ParseError] : List Addr)[i]? = some c → PySem.W.kitOne K (.ref C_InvalidCommand) (.ref c) = some (bH_InvalidCommand i) := by
  intro i c h
  rcases i with _|_|_|_|_|_|i
  · cases h; exact A.ki_InvalidCommand_HandError
  · cases h; exact A.ki_InvalidCommand_InvalidProgram
  · cases h; exact A.ki_InvalidCommand_InvalidMeaning
  · cases h; exact A.ki_InvalidCommand_InvalidOperation
  · cases h; exact kself
  · cases h; exact A.ki_InvalidCommand_ParseError
  · simp at h
def bO_InvalidCommand : Nat → Bool := (fun i => ([false, false, false, false, false, true, false, false, false, false, false] : List Bool).getD i false)
theorem ok_InvalidCommand : ∀ (i : Nat) (c : Addr), ([C_UnknownName, C_InvalidNumber, C_NothingToUndo, C_Refused, C_TooMany] : List Addr)[i]? = some c → PySem.W.kitOne K (.ref C_InvalidCommand) (.ref c) = some (bO_InvalidCommand i) := by
  intro i c h
  rcases i with _|_|_|_|_|i
  · cases h; exact A.ki_InvalidCommand_UnknownName
  · cases h; exact A.ki_InvalidCommand_InvalidNumber
  · cases h; exact A.ki_InvalidCommand_NothingToUndo
  · cases h; exact A.ki_InvalidCommand_Refused
  · cases h; exact A.ki_InvalidCommand_TooMany
  · simp at h
theorem om_InvalidCommand : ∀ (i : Nat) (T : String), (["ValueError", "KeyError", "IndexError", "LookupError", "ArithmeticError", "OverflowError"] : List String)[i]? = some T → PySem.W.kitOne K (.ref C_InvalidCommand) (.type T) = some (bO_InvalidCommand (5 + i)) := by
  intro i c h
  rcases i with _|_|_|_|_|_|i
  · cases h; exact U.kit_mkT (by decide) A.mr_InvalidCommand_ValueError
  · cases h; exact U.kit_mkT (by decide) A.mr_InvalidCommand_KeyError
  · cases h; exact U.kit_mkT (by decide) A.mr_InvalidCommand_IndexError
  · cases h; exact U.kit_mkT (by decide) A.mr_InvalidCommand_LookupError
  · cases h; exact U.kit_mkT (by decide) A.mr_InvalidCommand_ArithmeticError
  · cases h; exact U.kit_mkT (by decide) A.mr_InvalidCommand_OverflowError
  · simp at h
def bH_ParseError : Nat → Bool := (fun i => ([true, false, false, false, false, true] : List Bool).getD i false)
theorem hk_ParseError : ∀ (i : Nat) (c : Addr), ([C_HandError, C_InvalidProgram, C_InvalidMeaning, C_InvalidOperation, C_InvalidCommand, C_ParseError] : List Addr)[i]? = some c → PySem.W.kitOne K (.ref C_ParseError) (.ref c) = some (bH_ParseError i) := by
  intro i c h
  rcases i with _|_|_|_|_|_|i
  · cases h; exact A.ki_ParseError_HandError
  · cases h; exact A.ki_ParseError_InvalidProgram
  · cases h; exact A.ki_ParseError_InvalidMeaning
  · cases h; exact A.ki_ParseError_InvalidOperation
  · cases h; exact A.ki_ParseError_InvalidCommand
  · cases h; exact kself
  · simp at h
def bO_ParseError : Nat → Bool := (fun i => ([false, false, false, false, false, true, false, false, false, false, false] : List Bool).getD i false)
theorem ok_ParseError : ∀ (i : Nat) (c : Addr), ([C_UnknownName, C_InvalidNumber, C_NothingToUndo, C_Refused, C_TooMany] : List Addr)[i]? = some c → PySem.W.kitOne K (.ref C_ParseError) (.ref c) = some (bO_ParseError i) := by
  intro i c h
  rcases i with _|_|_|_|_|i
  · cases h; exact A.ki_ParseError_UnknownName
  · cases h; exact A.ki_ParseError_InvalidNumber
  · cases h; exact A.ki_ParseError_NothingToUndo
  · cases h; exact A.ki_ParseError_Refused
  · cases h; exact A.ki_ParseError_TooMany
  · simp at h
theorem om_ParseError : ∀ (i : Nat) (T : String), (["ValueError", "KeyError", "IndexError", "LookupError", "ArithmeticError", "OverflowError"] : List String)[i]? = some T → PySem.W.kitOne K (.ref C_ParseError) (.type T) = some (bO_ParseError (5 + i)) := by
  intro i c h
  rcases i with _|_|_|_|_|_|i
  · cases h; exact U.kit_mkT (by decide) A.mr_ParseError_ValueError
  · cases h; exact U.kit_mkT (by decide) A.mr_ParseError_KeyError
  · cases h; exact U.kit_mkT (by decide) A.mr_ParseError_IndexError
  · cases h; exact U.kit_mkT (by decide) A.mr_ParseError_LookupError
  · cases h; exact U.kit_mkT (by decide) A.mr_ParseError_ArithmeticError
  · cases h; exact U.kit_mkT (by decide) A.mr_ParseError_OverflowError
  · simp at h
def bH_UnknownName : Nat → Bool := (fun i => ([false, false, false, false, false, false] : List Bool).getD i false)
theorem hk_UnknownName : ∀ (i : Nat) (c : Addr), ([C_HandError, C_InvalidProgram, C_InvalidMeaning, C_InvalidOperation, C_InvalidCommand, C_ParseError] : List Addr)[i]? = some c → PySem.W.kitOne K (.ref C_UnknownName) (.ref c) = some (bH_UnknownName i) := by
  intro i c h
  rcases i with _|_|_|_|_|_|i
  · cases h; exact A.ki_UnknownName_HandError
  · cases h; exact A.ki_UnknownName_InvalidProgram
  · cases h; exact A.ki_UnknownName_InvalidMeaning
  · cases h; exact A.ki_UnknownName_InvalidOperation
  · cases h; exact A.ki_UnknownName_InvalidCommand
  · cases h; exact A.ki_UnknownName_ParseError
  · simp at h
def bO_UnknownName : Nat → Bool := (fun i => ([true, false, false, false, false, false, true, false, true, false, false] : List Bool).getD i false)
theorem ok_UnknownName : ∀ (i : Nat) (c : Addr), ([C_UnknownName, C_InvalidNumber, C_NothingToUndo, C_Refused, C_TooMany] : List Addr)[i]? = some c → PySem.W.kitOne K (.ref C_UnknownName) (.ref c) = some (bO_UnknownName i) := by
  intro i c h
  rcases i with _|_|_|_|_|i
  · cases h; exact kself
  · cases h; exact A.ki_UnknownName_InvalidNumber
  · cases h; exact A.ki_UnknownName_NothingToUndo
  · cases h; exact A.ki_UnknownName_Refused
  · cases h; exact A.ki_UnknownName_TooMany
  · simp at h
theorem om_UnknownName : ∀ (i : Nat) (T : String), (["ValueError", "KeyError", "IndexError", "LookupError", "ArithmeticError", "OverflowError"] : List String)[i]? = some T → PySem.W.kitOne K (.ref C_UnknownName) (.type T) = some (bO_UnknownName (5 + i)) := by
  intro i c h
  rcases i with _|_|_|_|_|_|i
  · cases h; exact U.kit_mkT (by decide) A.mr_UnknownName_ValueError
  · cases h; exact U.kit_mkT (by decide) A.mr_UnknownName_KeyError
  · cases h; exact U.kit_mkT (by decide) A.mr_UnknownName_IndexError
  · cases h; exact U.kit_mkT (by decide) A.mr_UnknownName_LookupError
  · cases h; exact U.kit_mkT (by decide) A.mr_UnknownName_ArithmeticError
  · cases h; exact U.kit_mkT (by decide) A.mr_UnknownName_OverflowError
  · simp at h
def bH_InvalidNumber : Nat → Bool := (fun i => ([false, false, false, false, false, false] : List Bool).getD i false)
theorem hk_InvalidNumber : ∀ (i : Nat) (c : Addr), ([C_HandError, C_InvalidProgram, C_InvalidMeaning, C_InvalidOperation, C_InvalidCommand, C_ParseError] : List Addr)[i]? = some c → PySem.W.kitOne K (.ref C_InvalidNumber) (.ref c) = some (bH_InvalidNumber i) := by
  intro i c h
  rcases i with _|_|_|_|_|_|i
  · cases h; exact A.ki_InvalidNumber_HandError
  · cases h; exact A.ki_InvalidNumber_InvalidProgram
  · cases h; exact A.ki_InvalidNumber_InvalidMeaning
  · cases h; exact A.ki_InvalidNumber_InvalidOperation
  · cases h; exact A.ki_InvalidNumber_InvalidCommand
  · cases h; exact A.ki_InvalidNumber_ParseError
  · simp at h
def bO_InvalidNumber : Nat → Bool := (fun i => ([false, true, false, false, false, false, false, true, true, false, false] : List Bool).getD i false)
theorem ok_InvalidNumber : ∀ (i : Nat) (c : Addr), ([C_UnknownName, C_InvalidNumber, C_NothingToUndo, C_Refused, C_TooMany] : List Addr)[i]? = some c → PySem.W.kitOne K (.ref C_InvalidNumber) (.ref c) = some (bO_InvalidNumber i) := by
  intro i c h
  rcases i with _|_|_|_|_|i
  · cases h; exact A.ki_InvalidNumber_UnknownName
  · cases h; exact kself
  · cases h; exact A.ki_InvalidNumber_NothingToUndo
  · cases h; exact A.ki_InvalidNumber_Refused
  · cases h; exact A.ki_InvalidNumber_TooMany
  · simp at h
theorem om_InvalidNumber : ∀ (i : Nat) (T : String), (["ValueError", "KeyError", "IndexError", "LookupError", "ArithmeticError", "OverflowError"] : List String)[i]? = some T → PySem.W.kitOne K (.ref C_InvalidNumber) (.type T) = some (bO_InvalidNumber (5 + i)) := by
  intro i c h
  rcases i with _|_|_|_|_|_|i
  · cases h; exact U.kit_mkT (by decide) A.mr_InvalidNumber_ValueError
  · cases h; exact U.kit_mkT (by decide) A.mr_InvalidNumber_KeyError
  · cases h; exact U.kit_mkT (by decide) A.mr_InvalidNumber_IndexError
  · cases h; exact U.kit_mkT (by decide) A.mr_InvalidNumber_LookupError
  · cases h; exact U.kit_mkT (by decide) A.mr_InvalidNumber_ArithmeticError
  · cases h; exact U.kit_mkT (by decide) A.mr_InvalidNumber_OverflowError
  · simp at h
def bH_NothingToUndo : Nat → Bool := (fun i => ([false, false, false, false, false, false] : List Bool).getD i false)
theorem hk_NothingToUndo : ∀ (i : Nat) (c : Addr), ([C_HandError, C_InvalidProgram, C_InvalidMeaning, C_InvalidOperation, C_InvalidCommand, C_ParseError] : List Addr)[i]? = some c → PySem.W.kitOne K (.ref C_NothingToUndo) (.ref c) = some (bH_NothingToUndo i) := by
  intro i c h
  rcases i with _|_|_|_|_|_|i
  · cases h; exact A.ki_NothingToUndo_HandError
  · cases h; exact A.ki_NothingToUndo_InvalidProgram
  · cases h; exact A.ki_NothingToUndo_InvalidMeaning
  · cases h; exact A.ki_NothingToUndo_InvalidOperation
  · cases h; exact A.ki_NothingToUndo_InvalidCommand
  · cases h; exact A.ki_NothingToUndo_ParseError
  · simp at h
def bO_NothingToUndo : Nat → Bool := (fun i => ([false, false, true, false, false, false, false, false, true, false, false] : List Bool).getD i false)
theorem ok_NothingToUndo : ∀ (i : Nat) (c : Addr), ([C_UnknownName, C_InvalidNumber, C_NothingToUndo, C_Refused, C_TooMany] : List Addr)[i]? = some c → PySem.W.kitOne K (.ref C_NothingToUndo) (.ref c) = some (bO_NothingToUndo i) := by
  intro i c h
  rcases i with _|_|_|_|_|i
  · cases h; exact A.ki_NothingToUndo_UnknownName
  · cases h; exact A.ki_NothingToUndo_InvalidNumber
  · cases h; exact kself
  · cases h; exact A.ki_NothingToUndo_Refused
  · cases h; exact A.ki_NothingToUndo_TooMany
  · simp at h
theorem om_NothingToUndo : ∀ (i : Nat) (T : String), (["ValueError", "KeyError", "IndexError", "LookupError", "ArithmeticError", "OverflowError"] : List String)[i]? = some T → PySem.W.kitOne K (.ref C_NothingToUndo) (.type T) = some (bO_NothingToUndo (5 + i)) := by
  intro i c h
  rcases i with _|_|_|_|_|_|i
  · cases h; exact U.kit_mkT (by decide) A.mr_NothingToUndo_ValueError
  · cases h; exact U.kit_mkT (by decide) A.mr_NothingToUndo_KeyError
  · cases h; exact U.kit_mkT (by decide) A.mr_NothingToUndo_IndexError
  · cases h; exact U.kit_mkT (by decide) A.mr_NothingToUndo_LookupError
  · cases h; exact U.kit_mkT (by decide) A.mr_NothingToUndo_ArithmeticError
  · cases h; exact U.kit_mkT (by decide) A.mr_NothingToUndo_OverflowError
  · simp at h
def bH_Refused : Nat → Bool := (fun i => ([false, false, false, false, false, false] : List Bool).getD i false)
theorem hk_Refused : ∀ (i : Nat) (c : Addr), ([C_HandError, C_InvalidProgram, C_InvalidMeaning, C_InvalidOperation, C_InvalidCommand, C_ParseError] : List Addr)[i]? = some c → PySem.W.kitOne K (.ref C_Refused) (.ref c) = some (bH_Refused i) := by
  intro i c h
  rcases i with _|_|_|_|_|_|i
  · cases h; exact A.ki_Refused_HandError
  · cases h; exact A.ki_Refused_InvalidProgram
  · cases h; exact A.ki_Refused_InvalidMeaning
  · cases h; exact A.ki_Refused_InvalidOperation
  · cases h; exact A.ki_Refused_InvalidCommand
  · cases h; exact A.ki_Refused_ParseError
  · simp at h
def bO_Refused : Nat → Bool := (fun i => ([false, false, false, true, false, false, false, false, false, true, false] : List Bool).getD i false)
theorem ok_Refused : ∀ (i : Nat) (c : Addr), ([C_UnknownName, C_InvalidNumber, C_NothingToUndo, C_Refused, C_TooMany] : List Addr)[i]? = some c → PySem.W.kitOne K (.ref C_Refused) (.ref c) = some (bO_Refused i) := by
  intro i c h
  rcases i with _|_|_|_|_|i
  · cases h; exact A.ki_Refused_UnknownName
  · cases h; exact A.ki_Refused_InvalidNumber
  · cases h; exact A.ki_Refused_NothingToUndo
  · cases h; exact kself
  · cases h; exact A.ki_Refused_TooMany
  · simp at h
theorem om_Refused : ∀ (i : Nat) (T : String), (["ValueError", "KeyError", "IndexError", "LookupError", "ArithmeticError", "OverflowError"] : List String)[i]? = some T → PySem.W.kitOne K (.ref C_Refused) (.type T) = some (bO_Refused (5 + i)) := by
  intro i c h
  rcases i with _|_|_|_|_|_|i
  · cases h; exact U.kit_mkT (by decide) A.mr_Refused_ValueError
  · cases h; exact U.kit_mkT (by decide) A.mr_Refused_KeyError
  · cases h; exact U.kit_mkT (by decide) A.mr_Refused_IndexError
  · cases h; exact U.kit_mkT (by decide) A.mr_Refused_LookupError
  · cases h; exact U.kit_mkT (by decide) A.mr_Refused_ArithmeticError
  · cases h; exact U.kit_mkT (by decide) A.mr_Refused_OverflowError
  · simp at h
def bH_TooMany : Nat → Bool := (fun i => ([false, false, false, false, false, false] : List Bool).getD i false)
theorem hk_TooMany : ∀ (i : Nat) (c : Addr), ([C_HandError, C_InvalidProgram, C_InvalidMeaning, C_InvalidOperation, C_InvalidCommand, C_ParseError] : List Addr)[i]? = some c → PySem.W.kitOne K (.ref C_TooMany) (.ref c) = some (bH_TooMany i) := by
  intro i c h
  rcases i with _|_|_|_|_|_|i
  · cases h; exact A.ki_TooMany_HandError
  · cases h; exact A.ki_TooMany_InvalidProgram
  · cases h; exact A.ki_TooMany_InvalidMeaning
  · cases h; exact A.ki_TooMany_InvalidOperation
  · cases h; exact A.ki_TooMany_InvalidCommand
  · cases h; exact A.ki_TooMany_ParseError
  · simp at h
def bO_TooMany : Nat → Bool := (fun i => ([false, false, false, false, true, false, false, false, false, true, true] : List Bool).getD i false)
theorem ok_TooMany : ∀ (i : Nat) (c : Addr), ([C_UnknownName, C_InvalidNumber, C_NothingToUndo, C_Refused, C_TooMany] : List Addr)[i]? = some c → PySem.W.kitOne K (.ref C_TooMany) (.ref c) = some (bO_TooMany i) := by
  intro i c h
  rcases i with _|_|_|_|_|i
  · cases h; exact A.ki_TooMany_UnknownName
  · cases h; exact A.ki_TooMany_InvalidNumber
  · cases h; exact A.ki_TooMany_NothingToUndo
  · cases h; exact A.ki_TooMany_Refused
  · cases h; exact kself
  · simp at h
theorem om_TooMany : ∀ (i : Nat) (T : String), (["ValueError", "KeyError", "IndexError", "LookupError", "ArithmeticError", "OverflowError"] : List String)[i]? = some T → PySem.W.kitOne K (.ref C_TooMany) (.type T) = some (bO_TooMany (5 + i)) := by
  intro i c h
  rcases i with _|_|_|_|_|_|i
  · cases h; exact U.kit_mkT (by decide) A.mr_TooMany_ValueError
  · cases h; exact U.kit_mkT (by decide) A.mr_TooMany_KeyError
  · cases h; exact U.kit_mkT (by decide) A.mr_TooMany_IndexError
  · cases h; exact U.kit_mkT (by decide) A.mr_TooMany_LookupError
  · cases h; exact U.kit_mkT (by decide) A.mr_TooMany_ArithmeticError
  · cases h; exact U.kit_mkT (by decide) A.mr_TooMany_OverflowError
  · simp at h
end
def spRight : DSp := fun ds M Q _ => ∃ d : Addr, ds = [.ref d] ∧ Die d M ∧ ∀ M', Q (.bl true) M'
theorem D__law_right {P : Program} {w : World} {K : PySem.W.Frag} {mg : Str → Option Value} {base : Heap} {C_HandError : Addr} {C_InvalidProgram : Addr} {C_InvalidMeaning : Addr} {C_InvalidOperation : Addr} {C_InvalidCommand : Addr} {C_UnknownName : Addr} {C_InvalidNumber : Addr} {C_NothingToUndo : Addr} {C_Refused : Addr} {C_TooMany : Addr} {C_ParseError : Addr} (A : Facts K C_HandError C_InvalidProgram C_InvalidMeaning C_InvalidOperation C_InvalidCommand C_UnknownName C_InvalidNumber C_NothingToUndo C_Refused C_TooMany C_ParseError) (M : MgOf K mg) (Z : Zs mg) (D__law_pick : KnD P w K mg base "_law_pick" 2 ["_law_die", "_law_items"] spPick) (D__law_of_hands : KnD P w K mg base "_law_of_hands" 1 ["_law_error"] (spHands K [C_HandError, C_InvalidProgram, C_InvalidMeaning, C_InvalidOperation, C_InvalidCommand, C_ParseError])) (D__law_of_others : KnD P w K mg base "_law_of_others" 1 ["_law_error"] (spOthers K [C_UnknownName, C_InvalidNumber, C_NothingToUndo, C_Refused, C_TooMany])) (D_ParseError___init__ : KnErrW P w K mg base "ParseError" C_ParseError "line" 1) (D_UnknownName___init__ : KnErr P w K mg base "UnknownName" C_UnknownName "name" 1) (D_InvalidNumber___init__ : KnErr P w K mg base "InvalidNumber" C_InvalidNumber "value" 1) (D_NothingToUndo___init__ : KnErr P w K mg base "NothingToUndo" C_NothingToUndo "many" 1) (D_Refused___init__ : KnErr P w K mg base "Refused" C_Refused "name" 1) (D_TooMany___init__ : KnErr P w K mg base "TooMany" C_TooMany "limit" 1) : KnDG P w K mg base "_law_right" 3 ["_law_die"] spRight := by
  refine KnDG.of A.d__law_right M sc__law_right (fun _ _ _ _ _ _ us hl => match us, hl with | [_], _ => rfl) (fun ds M Q E ⟨_, h, _⟩ => by rw [h]; rfl) (fun f cdv A0 outer s H E hgd hr => ?_)
  have hu := U.hu_of hr
  have hu1 := U.hu1_of hr
  have nd := sc__law_right.nd
  refine ⟨_, (z_cons (z_set 1 nd (d_lst (d_cons d_int (d_cons d_int (d_cons d_str (d_cons d_str (d_cons (d_tup (d_cons d_str (d_cons d_int d_nil))) (d_cons d_non (d_cons (d_neg d_int) (d_cons (d_op o_dpow d_int d_int) (d_cons (d_lst (d_cons d_int d_nil)) (d_cons d_dct0 (d_cons d_bl (d_cons (d_tup d_nil) (d_cons d_str d_nil)))))))))))))))
      (z_cons (z_setLc (i := 2) (own := [("_law_turn", 14)]) (c := (.n 14)) rfl nd rfl rfl (sw_true rfl rfl rfl (by decide +kernel)) (d_rg1 Z.range (d_cons d_int d_nil)) (blkOk_by (own := [("_law_turn", 14)]) (N := N__law_right) (sc := defScope s__law_right) (by decide +kernel)) (fun _ _ _ _ _ => (gn 14 nd)) (fun _ _ _ _ _ => d_ts0) (fun _ _ _ _ _ => (d_call D__law_pick (hr.mono (by decide)) (d_cons (dn 0) (d_cons (dn 1) d_nil)))))
      (z_cons (z_set 3 nd (d_call D__law_pick (hr.mono (by decide)) (d_cons (dn 0) (d_cons (d_lst (d_cons d_str (d_cons d_str (d_cons d_str d_nil)))) d_nil))))
      (z_cons (z_cut (z_set 4 nd (d_lst (d_cons (d_newP M A.x_HandError (dn 3)) (d_cons (d_newP M A.x_InvalidProgram (dn 3)) (d_cons (d_newP M A.x_InvalidMeaning (dn 3)) (d_cons (d_newP M A.x_InvalidOperation (dn 3)) (d_cons (d_newP M A.x_InvalidCommand (dn 3)) d_nil))))))))
      (z_cons (z_if (d_tcm (o_dne hu) (d_lc (own := [("_law_error", 15)]) (c := (.n 15)) rfl nd (d_it (dn 4)) (blkOk_by (own := [("_law_error", 15)]) (N := N__law_right) (sc := defScope s__law_right) (by decide +kernel)) (fun _ _ _ _ _ => (gn 15 nd)) (fun _ _ _ _ _ => d_ts0) (fun _ _ _ _ _ => (d_call D__law_of_hands (hr.mono (by decide)) (d_cons (dn 15) d_nil)))) (d_op o_dadd (d_lst (d_cons (d_lst (d_cons d_int d_nil)) d_nil)) (d_lc (own := [("_law_at", 16)]) (c := (.n 16)) rfl nd (d_rg2 Z.range (d_cons d_int (d_cons d_int d_nil))) (blkOk_by (own := [("_law_at", 16)]) (N := N__law_right) (sc := defScope s__law_right) (by decide +kernel)) (fun _ _ _ _ _ => (gn 16 nd)) (fun _ _ _ _ _ => d_ts0) (fun _ _ _ _ _ => (d_lst (d_cons d_int (d_cons (dn 16) d_nil))))))) (z_one (z_ret d_bl)) z_nil)
      (z_cons (z_if (d_tcm (o_dne hu) (d_lc (own := [("_law_error", 15)]) (c := (.n 15)) rfl nd (d_it (dn 4)) (blkOk_by (own := [("_law_error", 15)]) (N := N__law_right) (sc := defScope s__law_right) (by decide +kernel)) (fun _ _ _ _ _ => (gn 15 nd)) (fun _ _ _ _ _ => d_ts0) (fun _ _ _ _ _ => (d_call D__law_of_others (hr.mono (by decide)) (d_cons (dn 15) d_nil)))) (d_op o_dmulB (d_lst (d_cons (d_lst (d_cons d_str d_nil)) d_nil)) d_int)) (z_one (z_ret d_bl)) z_nil)
      (z_cons (ps_imp (ps_par (i := 5) (j := 6) rfl nd rfl rfl (by decide) rfl rfl (d_cons (d_newF D_ParseError___init__ (hr.mono (by decide)) (d_ix (dn 2) d_int)) (d_cons (d_newE D_UnknownName___init__ (hr.mono (by decide)) (d_ix (dn 2) d_int)) d_nil)) (by rfl)) fun _ _ _ h => li_par h)
      (z_cons (ps_imp (ps_par (i := 7) (j := 8) rfl nd rfl rfl (by decide) rfl rfl (d_cons (d_newE D_InvalidNumber___init__ (hr.mono (by decide)) (d_ix (dn 2) d_int)) (d_cons (d_newE D_NothingToUndo___init__ (hr.mono (by decide)) (d_ix (dn 2) d_int)) d_nil)) (by rfl)) fun _ _ _ h => li_par h)
      (z_cons (z_cut (ps_imp (ps_par (i := 9) (j := 10) rfl nd rfl rfl (by decide) rfl rfl (d_cons (d_newE D_Refused___init__ (hr.mono (by decide)) (d_ix (dn 2) d_int)) (d_cons (d_newE D_TooMany___init__ (hr.mono (by decide)) (d_ix (dn 2) d_int)) d_nil)) (by rfl)) fun _ _ _ h => li_par h))
      (z_cons (z_set 11 nd (d_lst (d_cons (d_xg A.xe_ParseError.xf A.xe_ParseError.no (dn 5)) (d_cons (d_xg A.xe_UnknownName.xf A.xe_UnknownName.no (dn 6)) (d_cons (d_xg A.xe_InvalidNumber.xf A.xe_InvalidNumber.no (dn 7)) (d_cons (d_xg A.xe_NothingToUndo.xf A.xe_NothingToUndo.no (dn 8)) (d_cons (d_xg A.xe_Refused.xf A.xe_Refused.no (dn 9)) (d_cons (d_xg A.xe_TooMany.xf A.xe_TooMany.no (dn 10)) d_nil))))))))
      (z_cons (z_if (d_w (d_or (d_tcm (o_dne hu) (d_b Z.repr b_repr (c_dreprL hgd hu) (d_cons (dn 11) d_nil)) (d_b Z.repr b_repr (c_dreprL hgd hu) (d_cons (dn 2) d_nil))) (d_or1 (d_tcm (o_dne hu) (d_call D__law_of_hands (hr.mono (by decide)) (d_cons (dn 5) d_nil)) (d_lst (d_cons d_int (d_cons d_int d_nil))))))) (z_one (z_ret d_bl)) z_nil)
      (z_cons (z_if (d_tcm (o_dne hu) (d_call D__law_of_others (hr.mono (by decide)) (d_cons (dn 5) d_nil)) (d_lst (d_cons d_str d_nil))) (z_one (z_ret d_bl)) z_nil)
      (z_cons (z_cut (z_set 12 nd (d_lst (d_cons (dn 6) (d_cons (dn 7) (d_cons (dn 8) (d_cons (dn 9) (d_cons (dn 10) d_nil))))))))
      (z_cons (z_if (d_tcm (o_dne hu) (d_lc (own := [("_law_error", 15)]) (c := (.n 15)) rfl nd (d_it (dn 12)) (blkOk_by (own := [("_law_error", 15)]) (N := N__law_right) (sc := defScope s__law_right) (by decide +kernel)) (fun _ _ _ _ _ => (gn 15 nd)) (fun _ _ _ _ _ => d_ts0) (fun _ _ _ _ _ => (d_call D__law_of_hands (hr.mono (by decide)) (d_cons (dn 15) d_nil)))) (d_op o_dmulB (d_lst (d_cons (d_lst d_nil) d_nil)) d_int)) (z_one (z_ret d_bl)) z_nil)
      (z_cons (z_set 13 nd (d_lst (d_cons (d_lst (d_cons d_str (d_cons d_str (d_cons d_str d_nil)))) (d_cons (d_lst (d_cons d_str (d_cons d_str (d_cons d_str d_nil)))) (d_cons (d_lst (d_cons d_str (d_cons d_str d_nil))) d_nil)))))
      (z_cons (z_set 13 nd (d_op o_dadd (dn 13) (d_lst (d_cons (d_lst (d_cons d_str (d_cons d_str d_nil))) (d_cons (d_lst (d_cons d_str (d_cons d_str (d_cons d_str d_nil)))) d_nil)))))
      (z_one (z_ret (d_ecm (o_deq hu) (d_lc (own := [("_law_error", 15)]) (c := (.n 15)) rfl nd (d_it (dn 12)) (blkOk_by (own := [("_law_error", 15)]) (N := N__law_right) (sc := defScope s__law_right) (by decide +kernel)) (fun _ _ _ _ _ => (gn 15 nd)) (fun _ _ _ _ _ => d_ts0) (fun _ _ _ _ _ => (d_call D__law_of_others (hr.mono (by decide)) (d_cons (dn 15) d_nil)))) (dn 13)))))))))))))))))))), ?_⟩
  rintro ds M Q Ed ⟨d, rfl, hd, q⟩
  refine ⟨rfl, ⟨by decide, by decide⟩, rfl, rfl, rfl, ?_⟩
  refine ⟨rok (by decide) (by decide), ?_⟩
  show Sz 6 ∧ lcD _ _ _ _ ((List.range 6).map fun (i : Nat) => Da.int i) _ _
  refine ⟨rfl, lcD_st0 (fun (l : List Nat) acc M' => Die d M' ∧ acc.length + l.length = 6 ∧ ∀ x ∈ acc, x ∈ someL) ⟨hd, rfl, fun _ h => nomatch h⟩ (fun _ => trivial) ?_ ?_⟩
  · rintro x l acc M' ⟨hd', hl, ha⟩ Q next
    refine ⟨d, someL, rfl, hd', by decide, by decide, fun y M2 hy hd2 _ => next _ _ ⟨hd2, ?_, fun z hz => ?_⟩⟩
    · rw [List.length_append, List.length_singleton]; rw [List.length_cons] at hl; omega
    · rcases List.mem_append.mp hz with hz | hz
      · exact ha z hz
      · rw [List.mem_singleton.mp hz]; exact hy
  rintro acc M1 ⟨hd1, hl, ha⟩
  obtain ⟨x0, x1, x2, x3, x4, x5, rfl⟩ : ∃ x0 x1 x2 x3 x4 x5, acc = [x0, x1, x2, x3, x4, x5] := by
    match acc, hl with
    | [a, b, c, e, f, g], _ => exact ⟨a, b, c, e, f, g, rfl⟩
  refine ⟨rfl, d, _, rfl, hd1, by decide, by decide, fun wd M2 hw hd2 _ => ?_⟩
  refine ⟨fun δ' M' => ∃ (p0 p1 p2 p3 p4 : Addr) (v1 : Option Da), δ' = [some (.ref d), v1, some (.lst [x0, x1, x2, x3, x4, x5]), some wd, some (.lst [.ref p0, .ref p1, .ref p2, .ref p3, .ref p4]), none, none, none, none, none, none, none, none, none, none, none, none] ∧ M' p0 = some (.exc p0 C_HandError []) ∧ M' p1 = some (.exc p1 C_InvalidProgram []) ∧ M' p2 = some (.exc p2 C_InvalidMeaning []) ∧ M' p3 = some (.exc p3 C_InvalidOperation []) ∧ M' p4 = some (.exc p4 C_InvalidCommand []), ?_, ?_⟩
  rotate_left
  rintro δ' M3 ⟨p0, p1, p2, p3, p4, v1, rfl, e0, e1, e2, e3, e4⟩
  rotate_left
  intro p0 h0 p1 h1 p2 h2 p3 h3 p4 h4
  obtain ⟨n10, _⟩ := mput_none h1
  obtain ⟨n21, h2a⟩ := mput_none h2
  obtain ⟨n20, _⟩ := mput_none h2a
  obtain ⟨n32, h3a⟩ := mput_none h3
  obtain ⟨n31, h3b⟩ := mput_none h3a
  obtain ⟨n30, _⟩ := mput_none h3b
  obtain ⟨n43, h4a⟩ := mput_none h4
  obtain ⟨n42, h4b⟩ := mput_none h4a
  obtain ⟨n41, h4c⟩ := mput_none h4b
  obtain ⟨n40, _⟩ := mput_none h4c
  generalize hM : mput (mput (mput (mput (mput M2 p0 (MO.exc p0 C_HandError [])) p1 (MO.exc p1 C_InvalidProgram [])) p2 (MO.exc p2 C_InvalidMeaning [])) p3 (MO.exc p3 C_InvalidOperation [])) p4 (MO.exc p4 C_InvalidCommand []) = M3
  have e4 : M3 p4 = some (.exc p4 C_InvalidCommand []) := by rw [← hM, mput_same]
  have e3 : M3 p3 = some (.exc p3 C_InvalidOperation []) := by rw [← hM, mput_ne n43.symm, mput_same]
  have e2 : M3 p2 = some (.exc p2 C_InvalidMeaning []) := by rw [← hM, mput_ne n42.symm, mput_ne n32.symm, mput_same]
  have e1 : M3 p1 = some (.exc p1 C_InvalidProgram []) := by rw [← hM, mput_ne n41.symm, mput_ne n31.symm, mput_ne n21.symm, mput_same]
  have e0 : M3 p0 = some (.exc p0 C_HandError []) := by rw [← hM, mput_ne n40.symm, mput_ne n30.symm, mput_ne n20.symm, mput_ne n10.symm, mput_same]
  exact ⟨rfl, p0, p1, p2, p3, p4, _, rfl, e0, e1, e2, e3, e4⟩
  refine ⟨rfl, ?_⟩
  refine ⟨trivial, p0, C_HandError, [], bH_HandError, rfl, e0, A.exc_HandError, hk_HandError A, ?_⟩
  refine ⟨trivial, p1, C_InvalidProgram, [], bH_InvalidProgram, rfl, e1, A.exc_InvalidProgram, hk_InvalidProgram A, ?_⟩
  refine ⟨trivial, p2, C_InvalidMeaning, [], bH_InvalidMeaning, rfl, e2, A.exc_InvalidMeaning, hk_InvalidMeaning A, ?_⟩
  refine ⟨trivial, p3, C_InvalidOperation, [], bH_InvalidOperation, rfl, e3, A.exc_InvalidOperation, hk_InvalidOperation A, ?_⟩
  refine ⟨trivial, p4, C_InvalidCommand, [], bH_InvalidCommand, rfl, e4, A.exc_InvalidCommand, hk_InvalidCommand A, ?_⟩
  refine ⟨rfl, rfl, ⟨rok (by decide) (by decide), rok (by decide) (by decide)⟩, ?_⟩
  refine ⟨rfl, trivial, rfl, trivial, rfl, trivial, rfl, trivial, rfl, ?_⟩
  refine ⟨rfl, by decide +kernel, by decide +kernel, ?_⟩
  refine ifF (by decide +kernel) ?_
  refine ⟨rfl, trivial, p0, C_HandError, [], bO_HandError, rfl, e0, A.exc_HandError, ok_HandError A, om_HandError A, ?_⟩
  refine ⟨trivial, p1, C_InvalidProgram, [], bO_InvalidProgram, rfl, e1, A.exc_InvalidProgram, ok_InvalidProgram A, om_InvalidProgram A, ?_⟩
  refine ⟨trivial, p2, C_InvalidMeaning, [], bO_InvalidMeaning, rfl, e2, A.exc_InvalidMeaning, ok_InvalidMeaning A, om_InvalidMeaning A, ?_⟩
  refine ⟨trivial, p3, C_InvalidOperation, [], bO_InvalidOperation, rfl, e3, A.exc_InvalidOperation, ok_InvalidOperation A, om_InvalidOperation A, ?_⟩
  refine ⟨trivial, p4, C_InvalidCommand, [], bO_InvalidCommand, rfl, e4, A.exc_InvalidCommand, ok_InvalidCommand A, om_InvalidCommand A, ?_⟩
  refine ⟨rfl, rfl, by decide, by decide, by decide, by decide +kernel, by decide +kernel, ifF (by decide +kernel) ?_⟩
  refine ⟨x0, rfl, x0, rfl, fun p5 h5 => ?_⟩
  refine ⟨x1, rfl, x1, rfl, fun p6 h6 => ?_⟩
  refine ⟨x2, rfl, x2, rfl, fun p7 h7 => ?_⟩
  refine ⟨x3, rfl, x3, rfl, fun p8 h8 => ?_⟩
  refine ⟨fun δ' M' => ∃ (p5 p6 p7 p8 p9 pa : Addr) (v1 v4 : Option Da), δ' = [some (.ref d), v1, some (.lst [x0, x1, x2, x3, x4, x5]), some wd, v4, some (.ref p5), some (.ref p6), some (.ref p7), some (.ref p8), some (.ref p9), some (.ref pa), none, none, none, none, none, none] ∧ M' p5 = some (.exc p5 C_ParseError [("line", x0)]) ∧ M' p6 = some (.exc p6 C_UnknownName [("name", x1)]) ∧ M' p7 = some (.exc p7 C_InvalidNumber [("value", x2)]) ∧ M' p8 = some (.exc p8 C_NothingToUndo [("many", x3)]) ∧ M' p9 = some (.exc p9 C_Refused [("name", x4)]) ∧ M' pa = some (.exc pa C_TooMany [("limit", x5)]), ?_, ?_⟩
  rotate_left
  rintro δ' M4 ⟨p5, p6, p7, p8, p9, pa, v1, v4, rfl, g0, g1, g2, g3, g4, g5⟩
  rotate_left
  refine ⟨x4, rfl, x4, rfl, fun p9 h9 => ?_⟩
  refine ⟨x5, rfl, x5, rfl, fun pa ha' => ?_⟩
  obtain ⟨m10, k10⟩ := mput_none h6
  obtain ⟨m21, k21⟩ := mput_none h7
  obtain ⟨m20, k20⟩ := mput_none k21
  obtain ⟨m32, k32⟩ := mput_none h8
  obtain ⟨m31, k31⟩ := mput_none k32
  obtain ⟨m30, k30⟩ := mput_none k31
  obtain ⟨m43, k43⟩ := mput_none h9
  obtain ⟨m42, k42⟩ := mput_none k43
  obtain ⟨m41, k41⟩ := mput_none k42
  obtain ⟨m40, k40⟩ := mput_none k41
  obtain ⟨m54, k54⟩ := mput_none ha'
  obtain ⟨m53, k53⟩ := mput_none k54
  obtain ⟨m52, k52⟩ := mput_none k53
  obtain ⟨m51, k51⟩ := mput_none k52
  obtain ⟨m50, k50⟩ := mput_none k51
  generalize hM : mput (mput (mput (mput (mput (mput M3 p5 (MO.exc p5 C_ParseError [("line", x0)])) p6 (MO.exc p6 C_UnknownName [("name", x1)])) p7 (MO.exc p7 C_InvalidNumber [("value", x2)])) p8 (MO.exc p8 C_NothingToUndo [("many", x3)])) p9 (MO.exc p9 C_Refused [("name", x4)])) pa (MO.exc pa C_TooMany [("limit", x5)]) = M4
  have g0 : M4 p5 = some (.exc p5 C_ParseError [("line", x0)]) := by rw [← hM, mput_ne m50.symm, mput_ne m40.symm, mput_ne m30.symm, mput_ne m20.symm, mput_ne m10.symm, mput_same]
  have g1 : M4 p6 = some (.exc p6 C_UnknownName [("name", x1)]) := by rw [← hM, mput_ne m51.symm, mput_ne m41.symm, mput_ne m31.symm, mput_ne m21.symm, mput_same]
  have g2 : M4 p7 = some (.exc p7 C_InvalidNumber [("value", x2)]) := by rw [← hM, mput_ne m52.symm, mput_ne m42.symm, mput_ne m32.symm, mput_same]
  have g3 : M4 p8 = some (.exc p8 C_NothingToUndo [("many", x3)]) := by rw [← hM, mput_ne m53.symm, mput_ne m43.symm, mput_same]
  have g4 : M4 p9 = some (.exc p9 C_Refused [("name", x4)]) := by rw [← hM, mput_ne m54.symm, mput_same]
  have g5 : M4 pa = some (.exc pa C_TooMany [("limit", x5)]) := by rw [← hM, mput_same]
  exact ⟨p5, p6, p7, p8, p9, pa, _, _, rfl, g0, g1, g2, g3, g4, g5⟩
  refine ⟨p5, _, x0, rfl, g0, rfl, p6, _, x1, rfl, g1, rfl, p7, _, x2, rfl, g2, rfl, p8, _, x3, rfl, g3, rfl, p9, _, x4, rfl, g4, rfl, pa, _, x5, rfl, g5, rfl, rfl, ?_⟩
  obtain ⟨ps, sw⟩ := shwL_of ha hl
  refine ⟨ps, sw, ps, sw, ?_⟩
  refine ifF (by simp) ?_
  refine ⟨p5, C_ParseError, _, bH_ParseError, rfl, g0, A.exc_ParseError, hk_ParseError A, ?_⟩
  refine ⟨rfl, by decide +kernel, by decide +kernel, ifF (by decide +kernel) ?_⟩
  refine ⟨p5, C_ParseError, _, bO_ParseError, rfl, g0, A.exc_ParseError, ok_ParseError A, om_ParseError A, rfl, by decide +kernel, by decide +kernel, ifF (by decide +kernel) ?_⟩
  refine ⟨fun δ' M' => M' = M4 ∧ ∃ (v1 v2 v3 v4 v5 v6 v7 v8 v9 va vb : Option Da), δ' = [some (.ref d), v1, v2, v3, v4, v5, v6, v7, v8, v9, va, vb, some (.lst [.ref p6, .ref p7, .ref p8, .ref p9, .ref pa]), none, none, none, none], ⟨rfl, rfl, _, _, _, _, _, _, _, _, _, _, _, rfl⟩, ?_⟩
  rintro δ' M' ⟨rfl, v1', v2, v3, v4', v5, v6, v7, v8, v9, va, vb, rfl⟩
  refine ⟨rfl, trivial, p6, C_UnknownName, _, bH_UnknownName, rfl, g1, A.exc_UnknownName, hk_UnknownName A, ?_⟩
  refine ⟨trivial, p7, C_InvalidNumber, _, bH_InvalidNumber, rfl, g2, A.exc_InvalidNumber, hk_InvalidNumber A, ?_⟩
  refine ⟨trivial, p8, C_NothingToUndo, _, bH_NothingToUndo, rfl, g3, A.exc_NothingToUndo, hk_NothingToUndo A, ?_⟩
  refine ⟨trivial, p9, C_Refused, _, bH_Refused, rfl, g4, A.exc_Refused, hk_Refused A, ?_⟩
  refine ⟨trivial, pa, C_TooMany, _, bH_TooMany, rfl, g5, A.exc_TooMany, hk_TooMany A, ?_⟩
  refine ⟨rfl, rfl, by decide, by decide, by decide, by decide +kernel, by decide +kernel, ifF (by decide +kernel) ?_⟩
  refine ⟨rfl, rfl, rfl, rfl, ?_⟩
  refine ⟨rfl, rfl, rfl, rfl, ?_⟩
  refine ⟨rfl, trivial, p6, C_UnknownName, _, bO_UnknownName, rfl, g1, A.exc_UnknownName, ok_UnknownName A, om_UnknownName A, ?_⟩
  refine ⟨trivial, p7, C_InvalidNumber, _, bO_InvalidNumber, rfl, g2, A.exc_InvalidNumber, ok_InvalidNumber A, om_InvalidNumber A, ?_⟩
  refine ⟨trivial, p8, C_NothingToUndo, _, bO_NothingToUndo, rfl, g3, A.exc_NothingToUndo, ok_NothingToUndo A, om_NothingToUndo A, ?_⟩
  refine ⟨trivial, p9, C_Refused, _, bO_Refused, rfl, g4, A.exc_Refused, ok_Refused A, om_Refused A, ?_⟩
  refine ⟨trivial, pa, C_TooMany, _, bO_TooMany, rfl, g5, A.exc_TooMany, ok_TooMany A, om_TooMany A, ?_⟩
  refine ⟨by decide +kernel, by decide +kernel, ?_⟩
  exact qtrue (by decide +kernel) (q _)

end K00
set_option Elab.async false
set_option linter.all false
set_option maxRecDepth 100000
set_option maxHeartbeats 4000000




namespace K00
open PySem PySem.Spec PyProof.Rows L2 U
theorem D_law {P : Program} {w : World} {K : PySem.W.Frag} {mg : Str → Option Value} {base : Heap} {C_HandError : Addr} {C_InvalidProgram : Addr} {C_InvalidMeaning : Addr} {C_InvalidOperation : Addr} {C_InvalidCommand : Addr} {C_UnknownName : Addr} {C_InvalidNumber : Addr} {C_NothingToUndo : Addr} {C_Refused : Addr} {C_TooMany : Addr} {C_ParseError : Addr} (A : Facts K C_HandError C_InvalidProgram C_InvalidMeaning C_InvalidOperation C_InvalidCommand C_UnknownName C_InvalidNumber C_NothingToUndo C_Refused C_TooMany C_ParseError) (M : MgOf K mg) (Z : Zs mg) {f : Addr} {fd : FuncData} (F : Fun K "law" "law" s_law f fd)
  (D__law_numbers : KnD P w K mg base "_law_numbers" 1 ["_law_script", "_law_at"] spNumbers) (D__law_right : KnDG P w K mg base "_law_right" 3 ["_law_die"] spRight) : FnOkG P w K mg base CX0 40 f fd ["_law_script"] (LSp K spLawD) := by
  refine fnok_ofG F sc_law (fun ds M Q E ⟨_, h, _⟩ => by rw [h]; rfl) (fun f cdv A0 outer s H E hgd hr => ?_)
  have hu := U.hu_of hr
  have nd := sc_law.nd
  refine ⟨_, (z_cons (z_for PassesOwn.never rfl (d_rg1 Z.range (d_cons (d_b Z.max b_max (c_dmax rfl) (d_cons d_int (d_cons (d_b Z.min b_min (c_dmin rfl) (d_cons d_int (d_cons (d_b Z.len b_len c_dlen (d_cons (dn 0) d_nil)) d_nil))) d_nil))) d_nil)) (t_n 1 nd) (z_one (z_if (d_tnot (d_tv (d_callG hgd D__law_right (hr.mono (by decide)) (d_cons (d_call D__law_numbers (hr.mono (by decide)) (d_cons (dn 0) (d_cons (dn 1) d_nil))) d_nil)))) (z_one (z_ret d_bl)) z_nil)))
      (z_one (z_ret d_bl))), ?_⟩
  rintro ds M Q Ed ⟨ns, rfl, hl, q⟩
  obtain ⟨k, hk, hk2⟩ : ∃ k : Nat, (if (if (((ns.map Da.int).length : Nat) : Int) < 8 then (((ns.map Da.int).length : Nat) : Int) else 8) > 1 then (if (((ns.map Da.int).length : Nat) : Int) < 8 then (((ns.map Da.int).length : Nat) : Int) else 8) else 1) = (k : Int) ∧ k ≤ 8 := by
    refine ⟨(if (if (((ns.map Da.int).length : Nat) : Int) < 8 then (((ns.map Da.int).length : Nat) : Int) else 8) > 1 then (if (((ns.map Da.int).length : Nat) : Int) < 8 then (((ns.map Da.int).length : Nat) : Int) else 8) else 1).toNat, ?_, ?_⟩
    · rw [Int.toNat_of_nonneg]
      split <;> split <;> omega
    · split <;> split <;> omega
  refine ⟨rok (by rw [hk]; omega) (by rw [hk]; omega), ?_⟩
  rw [hk]
  refine forD_rng (n := k) (fun j δ M' => ∃ u, δ = [some (.lst (ns.map Da.int)), u]) ?_ ?_ ⟨_, rfl⟩
  · rintro j δ M' NX hj ⟨u, rfl⟩ nx
    refine ⟨ns, j, rfl, hl, by omega, fun d a b c hd => ?_⟩
    refine ⟨d, rfl, ⟨_, _, _, mput_same⟩, fun M3 => ?_⟩
    exact nx _ _ ⟨_, rfl⟩
  · rintro δ M' ⟨u, rfl⟩
    exact q _
theorem all_ok {P : Program} {w : World} {K : PySem.W.Frag} {mg : Str → Option Value} {h base : Heap} {C_HandError : Addr} {C_InvalidProgram : Addr} {C_InvalidMeaning : Addr} {C_InvalidOperation : Addr} {C_InvalidCommand : Addr} {C_UnknownName : Addr} {C_InvalidNumber : Addr} {C_NothingToUndo : Addr} {C_Refused : Addr} {C_TooMany : Addr} {C_ParseError : Addr} (A : Facts K C_HandError C_InvalidProgram C_InvalidMeaning C_InvalidOperation C_InvalidCommand C_UnknownName C_InvalidNumber C_NothingToUndo C_Refused C_TooMany C_ParseError) (X : K.In h) (G : h.Ns mainGlobals mg)
    {f : Addr} {fd : FuncData} (F : Fun K "law" "law" s_law f fd) : FnOkG P w K mg base CX0 40 f fd ["_law_script"] (LSp K spLawD) := by
  have M := MgOf.mk' X G
  have Z := zs_of A M
  have d_UnknownName___init__ := D_UnknownName___init__ (P := P) (w := w) (base := base) A M Z 
  have d_InvalidNumber___init__ := D_InvalidNumber___init__ (P := P) (w := w) (base := base) A M Z 
  have d_NothingToUndo___init__ := D_NothingToUndo___init__ (P := P) (w := w) (base := base) A M Z 
  have d_Refused___init__ := D_Refused___init__ (P := P) (w := w) (base := base) A M Z 
  have d_TooMany___init__ := D_TooMany___init__ (P := P) (w := w) (base := base) A M Z 
  have d_ParseError___init__ := D_ParseError___init__ (P := P) (w := w) (base := base) A M Z 
  have d__law_numbers := D__law_numbers (P := P) (w := w) (base := base) A M Z 
  have d__law_cast := D__law_cast (P := P) (w := w) (base := base) A M Z 
  have d__law_pick := D__law_pick (P := P) (w := w) (base := base) A M Z d__law_cast
  have d__law_of_hands := D__law_of_hands (P := P) (w := w) (base := base) A M Z 
  have d__law_of_others := D__law_of_others (P := P) (w := w) (base := base) A M Z 
  have d__law_right := D__law_right (P := P) (w := w) (base := base) A M Z d__law_pick d__law_of_hands d__law_of_others d_ParseError___init__ d_UnknownName___init__ d_InvalidNumber___init__ d_NothingToUndo___init__ d_Refused___init__ d_TooMany___init__
  exact D_law A M Z F d__law_numbers d__law_right
theorem law_start {K : PySem.W.Frag} {H : Hp} {a : Addr} {ns : List Int} (hl : ns.length ≤ 63) (hS : SqL K H a (ns.map V.int)) : LSp K spLawD [.ref a] H (fun v _ => v = .bl true) fun _ _ _ => False := by
  obtain ⟨s, r⟩ := start_state hS
  refine ⟨NoF, _, _, _, fun d _ => d = .bl true, X0, r, s, ⟨ns, rfl, hl, fun _ => rfl⟩, fun v H' W' d M' g s' r q => ?_, fun _ _ _ _ _ _ _ _ _ z => z.elim⟩
  subst q
  cases r
  rfl
theorem fin {P : Program} {w : World} {K : PySem.W.Frag} {mg : Str → Option Value} {h : Heap} (X : K.In h) (G : h.Ns mainGlobals mg) (A : ∃ C1 C2 C3 C4 C5 C6 C7 C8 C9 C10 C11, Facts K C1 C2 C3 C4 C5 C6 C7 C8 C9 C10 C11) :
    HasDef K "law" s_law ∧ ∃ (cs : List (Addr × Addr)) (qs : List (Addr × Str)), (∀ p ∈ cs, p.2 ∈ ([] : List Addr) ∧ K.lookup p.2 = none ∧ PySem.W.codeHdIn K p.1 p.2 = true) ∧
      qs.map (·.1) = cs.map (·.2) ∧ (qs.map (·.1)).Nodup ∧ ∀ (f : Addr) (fd : FuncData) (base : Heap), K.In base → base.Ns mainGlobals mg → (∀ p ∈ cs, LamX.TabB base mg p.1 p.2) → Fun K "law" "law" s_law f fd → FnOkG P w K mg base CX0 40 f fd ["_law_script"] (LSp K spLawD) := by
  obtain ⟨C1, C2, C3, C4, C5, C6, C7, C8, C9, C10, C11, A⟩ := A
  exact ⟨A.d_law, [], [], (fun _ h => nomatch h), rfl, List.nodup_nil, fun _ _ base _ _ _ F => all_ok A X G F⟩

end K00
set_option Elab.async false
set_option linter.all false
set_option maxRecDepth 100000
set_option maxHeartbeats 4000000




namespace K00
open PySem PySem.Spec PyProof.Rows L2 U
end K00
open PySem PySem.W PyProof.Rows
set_option maxRecDepth 100000 in
set_option maxHeartbeats 0 in
theorem PySem.Challenge.cw_blockshanded_k00_errors_and_what_they_ke_holds : PySem.Challenge.rw_blockshanded_k00_errors_and_what_they_ke.Holds := by
  w_on; o_law; k_head; (case hw => w_witness2)
  k_fill
  refine U.walk_lawTG (l := PySem.Challenge.rw_blockshanded_k00_errors_and_what_they_ke) (n := 63) (k := 40) (x := "_law_script") (st := K00.s_law) (ts := []) (sp := fun K _ => U.LSp K U.spLawD) rfl (by decide) rfl ⟨rfl, by decide, by decide⟩ rfl (fun w h Y => PySem.W.kIn_of Y) (fun w h Y P hP => (nomatch hP)) (fun _ _ _ _ _ _ us hl => match us, hl with | [_], _ => rfl) ?F (fun K qs H a ns nd hl hq hS => K00.law_start hl hS)
  case F =>
    intro w mg h KX G
    refine K00.fin KX G ?A
    refine' ⟨_, _, _, _, _, _, _, _, _, _, _, ?f⟩
    case f =>
      constructor
      case d__law_numbers => (refine' U.has_mk ?qa ?ql ?qc ?qk; (case qa => k_is); (case ql => k_is); (case qc => k_is); (case qk => k_is))
      case d__law_cast => (refine' U.has_mk ?qa ?ql ?qc ?qk; (case qa => k_is); (case ql => k_is); (case qc => k_is); (case qk => k_is))
      case d__law_pick => (refine' U.has_mk ?qa ?ql ?qc ?qk; (case qa => k_is); (case ql => k_is); (case qc => k_is); (case qk => k_is))
      case d__law_of_hands => (refine' U.has_mk ?qa ?ql ?qc ?qk; (case qa => k_is); (case ql => k_is); (case qc => k_is); (case qk => k_is))
      case d__law_of_others => (refine' U.has_mk ?qa ?ql ?qc ?qk; (case qa => k_is); (case ql => k_is); (case qc => k_is); (case qk => k_is))
      case d__law_right => (refine' U.has_mk ?qa ?ql ?qc ?qk; (case qa => k_is); (case ql => k_is); (case qc => k_is); (case qk => k_is))
      case d_law => (refine' U.has_mk ?qa ?ql ?qc ?qk; (case qa => k_is); (case ql => k_is); (case qc => k_is); (case qk => k_is))
      case x_HandError => (refine' ⟨?qa, ?qb, ?qc, ?qd, ?qe⟩; (case qa => k_is); (case qb => k_exc); (case qc => k_is); (case qd => k_is); (case qe => k_is))
      case x_InvalidProgram => (refine' ⟨?qa, ?qb, ?qc, ?qd, ?qe⟩; (case qa => k_is); (case qb => k_exc); (case qc => k_is); (case qd => k_is); (case qe => k_is))
      case x_InvalidMeaning => (refine' ⟨?qa, ?qb, ?qc, ?qd, ?qe⟩; (case qa => k_is); (case qb => k_exc); (case qc => k_is); (case qd => k_is); (case qe => k_is))
      case x_InvalidOperation => (refine' ⟨?qa, ?qb, ?qc, ?qd, ?qe⟩; (case qa => k_is); (case qb => k_exc); (case qc => k_is); (case qd => k_is); (case qe => k_is))
      case x_InvalidCommand => (refine' ⟨?qa, ?qb, ?qc, ?qd, ?qe⟩; (case qa => k_is); (case qb => k_exc); (case qc => k_is); (case qd => k_is); (case qe => k_is))
      case xe_UnknownName => (refine' U.xerr_mk VW0.base_KeyError ⟨VW0.store_KeyError.passes, by decide +kernel⟩ ?qa ?ql ?qs ?qe ?qt ?qk ?qi ?qm ?qc ?qf ?qy ?qn ?qv ?qg ?qh ?qd; (case qa => k_is); (case ql => k_is); (case qs => k_is); (case qe => k_is); (case qt => k_is); (case qk => k_is); (case qi => k_is); (case qm => k_is); (case qc => k_is); (case qf => k_is); (case qy => k_is); (case qn => k_is); (case qv => k_is); (case qg => k_is); (case qh => k_is); (case qd => k_is))
      case zb_UnknownName => (k_is)
      case xe_InvalidNumber => (refine' U.xerr_mk (VV0.EB2.of PySem.F.excBase_IndexError) ⟨PySem.F.store_IndexError.passes, by decide +kernel⟩ ?qa ?ql ?qs ?qe ?qt ?qk ?qi ?qm ?qc ?qf ?qy ?qn ?qv ?qg ?qh ?qd; (case qa => k_is); (case ql => k_is); (case qs => k_is); (case qe => k_is); (case qt => k_is); (case qk => k_is); (case qi => k_is); (case qm => k_is); (case qc => k_is); (case qf => k_is); (case qy => k_is); (case qn => k_is); (case qv => k_is); (case qg => k_is); (case qh => k_is); (case qd => k_is))
      case zb_InvalidNumber => (k_is)
      case xe_NothingToUndo => (refine' U.xerr_mk (VV0.EB2.of PySem.F.excBase_LookupError) ⟨PySem.F.store_LookupError.passes, by decide +kernel⟩ ?qa ?ql ?qs ?qe ?qt ?qk ?qi ?qm ?qc ?qf ?qy ?qn ?qv ?qg ?qh ?qd; (case qa => k_is); (case ql => k_is); (case qs => k_is); (case qe => k_is); (case qt => k_is); (case qk => k_is); (case qi => k_is); (case qm => k_is); (case qc => k_is); (case qf => k_is); (case qy => k_is); (case qn => k_is); (case qv => k_is); (case qg => k_is); (case qh => k_is); (case qd => k_is))
      case zb_NothingToUndo => (k_is)
      case xe_Refused => (refine' U.xerr_mk (VV0.EB2.of PySem.F.excBase_ArithmeticError) ⟨PySem.F.store_ArithmeticError.passes, by decide +kernel⟩ ?qa ?ql ?qs ?qe ?qt ?qk ?qi ?qm ?qc ?qf ?qy ?qn ?qv ?qg ?qh ?qd; (case qa => k_is); (case ql => k_is); (case qs => k_is); (case qe => k_is); (case qt => k_is); (case qk => k_is); (case qi => k_is); (case qm => k_is); (case qc => k_is); (case qf => k_is); (case qy => k_is); (case qn => k_is); (case qv => k_is); (case qg => k_is); (case qh => k_is); (case qd => k_is))
      case zb_Refused => (k_is)
      case xe_TooMany => (refine' U.xerr_mk (VV0.EB2.of PySem.F.excBase_OverflowError) ⟨PySem.F.store_OverflowError.passes, by decide +kernel⟩ ?qa ?ql ?qs ?qe ?qt ?qk ?qi ?qm ?qc ?qf ?qy ?qn ?qv ?qg ?qh ?qd; (case qa => k_is); (case ql => k_is); (case qs => k_is); (case qe => k_is); (case qt => k_is); (case qk => k_is); (case qi => k_is); (case qm => k_is); (case qc => k_is); (case qf => k_is); (case qy => k_is); (case qn => k_is); (case qv => k_is); (case qg => k_is); (case qh => k_is); (case qd => k_is))
      case zb_TooMany => (k_is)
      case xe_ParseError => (refine' U.xerrw_mk ?qa ?ql ?qb ?qs ?qe ?qt ?qk ?qi ?qm ?qc ?qf ?qy ?qn ?qr ?qw ?qv ?qg ?qh ?qd; (case qa => k_is); (case ql => k_is); (case qb => decide +kernel); (case qs => k_is); (case qe => k_is); (case qt => k_is); (case qk => k_is); (case qi => k_is); (case qm => k_is); (case qc => k_is); (case qf => k_is); (case qy => k_is); (case qn => k_is); (case qr => k_is); (case qw => k_is); (case qv => k_is); (case qg => k_is); (case qh => k_is); (case qd => k_is))
      case em_HandError_HandError => (first | k_is | kernel_rfl)
      case em_HandError_InvalidProgram => (first | k_is | kernel_rfl)
      case em_HandError_InvalidMeaning => (first | k_is | kernel_rfl)
      case em_HandError_InvalidOperation => (first | k_is | kernel_rfl)
      case em_HandError_InvalidCommand => (first | k_is | kernel_rfl)
      case em_HandError_UnknownName => (first | k_is | kernel_rfl)
      case em_HandError_InvalidNumber => (first | k_is | kernel_rfl)
      case em_HandError_NothingToUndo => (first | k_is | kernel_rfl)
      case em_HandError_Refused => (first | k_is | kernel_rfl)
      case em_HandError_TooMany => (first | k_is | kernel_rfl)
      case em_InvalidProgram_HandError => (first | k_is | kernel_rfl)
      case em_InvalidProgram_InvalidProgram => (first | k_is | kernel_rfl)
      case em_InvalidProgram_InvalidMeaning => (first | k_is | kernel_rfl)
      case em_InvalidProgram_InvalidOperation => (first | k_is | kernel_rfl)
      case em_InvalidProgram_InvalidCommand => (first | k_is | kernel_rfl)
      case em_InvalidProgram_UnknownName => (first | k_is | kernel_rfl)
      case em_InvalidProgram_InvalidNumber => (first | k_is | kernel_rfl)
      case em_InvalidProgram_NothingToUndo => (first | k_is | kernel_rfl)
      case em_InvalidProgram_Refused => (first | k_is | kernel_rfl)
      case em_InvalidProgram_TooMany => (first | k_is | kernel_rfl)
      case em_InvalidMeaning_HandError => (first | k_is | kernel_rfl)
      case em_InvalidMeaning_InvalidProgram => (first | k_is | kernel_rfl)
      case em_InvalidMeaning_InvalidMeaning => (first | k_is | kernel_rfl)
      case em_InvalidMeaning_InvalidOperation => (first | k_is | kernel_rfl)
      case em_InvalidMeaning_InvalidCommand => (first | k_is | kernel_rfl)
      case em_InvalidMeaning_UnknownName => (first | k_is | kernel_rfl)
      case em_InvalidMeaning_InvalidNumber => (first | k_is | kernel_rfl)
      case em_InvalidMeaning_NothingToUndo => (first | k_is | kernel_rfl)
      case em_InvalidMeaning_Refused => (first | k_is | kernel_rfl)
      case em_InvalidMeaning_TooMany => (first | k_is | kernel_rfl)
      case em_InvalidOperation_HandError => (first | k_is | kernel_rfl)
      case em_InvalidOperation_InvalidProgram => (first | k_is | kernel_rfl)
      case em_InvalidOperation_InvalidMeaning => (first | k_is | kernel_rfl)
      case em_InvalidOperation_InvalidOperation => (first | k_is | kernel_rfl)
      case em_InvalidOperation_InvalidCommand => (first | k_is | kernel_rfl)
      case em_InvalidOperation_UnknownName => (first | k_is | kernel_rfl)
      case em_InvalidOperation_InvalidNumber => (first | k_is | kernel_rfl)
      case em_InvalidOperation_NothingToUndo => (first | k_is | kernel_rfl)
      case em_InvalidOperation_Refused => (first | k_is | kernel_rfl)
      case em_InvalidOperation_TooMany => (first | k_is | kernel_rfl)
      case em_InvalidCommand_HandError => (first | k_is | kernel_rfl)
      case em_InvalidCommand_InvalidProgram => (first | k_is | kernel_rfl)
      case em_InvalidCommand_InvalidMeaning => (first | k_is | kernel_rfl)
      case em_InvalidCommand_InvalidOperation => (first | k_is | kernel_rfl)
      case em_InvalidCommand_InvalidCommand => (first | k_is | kernel_rfl)
      case em_InvalidCommand_UnknownName => (first | k_is | kernel_rfl)
      case em_InvalidCommand_InvalidNumber => (first | k_is | kernel_rfl)
      case em_InvalidCommand_NothingToUndo => (first | k_is | kernel_rfl)
      case em_InvalidCommand_Refused => (first | k_is | kernel_rfl)
      case em_InvalidCommand_TooMany => (first | k_is | kernel_rfl)
      case em_UnknownName_HandError => (first | k_is | kernel_rfl)
      case em_UnknownName_InvalidProgram => (first | k_is | kernel_rfl)
      case em_UnknownName_InvalidMeaning => (first | k_is | kernel_rfl)
      case em_UnknownName_InvalidOperation => (first | k_is | kernel_rfl)
      case em_UnknownName_InvalidCommand => (first | k_is | kernel_rfl)
      case em_UnknownName_UnknownName => (first | k_is | kernel_rfl)
      case em_UnknownName_InvalidNumber => (first | k_is | kernel_rfl)
      case em_UnknownName_NothingToUndo => (first | k_is | kernel_rfl)
      case em_UnknownName_Refused => (first | k_is | kernel_rfl)
      case em_UnknownName_TooMany => (first | k_is | kernel_rfl)
      case em_InvalidNumber_HandError => (first | k_is | kernel_rfl)
      case em_InvalidNumber_InvalidProgram => (first | k_is | kernel_rfl)
      case em_InvalidNumber_InvalidMeaning => (first | k_is | kernel_rfl)
      case em_InvalidNumber_InvalidOperation => (first | k_is | kernel_rfl)
      case em_InvalidNumber_InvalidCommand => (first | k_is | kernel_rfl)
      case em_InvalidNumber_UnknownName => (first | k_is | kernel_rfl)
      case em_InvalidNumber_InvalidNumber => (first | k_is | kernel_rfl)
      case em_InvalidNumber_NothingToUndo => (first | k_is | kernel_rfl)
      case em_InvalidNumber_Refused => (first | k_is | kernel_rfl)
      case em_InvalidNumber_TooMany => (first | k_is | kernel_rfl)
      case em_NothingToUndo_HandError => (first | k_is | kernel_rfl)
      case em_NothingToUndo_InvalidProgram => (first | k_is | kernel_rfl)
      case em_NothingToUndo_InvalidMeaning => (first | k_is | kernel_rfl)
      case em_NothingToUndo_InvalidOperation => (first | k_is | kernel_rfl)
      case em_NothingToUndo_InvalidCommand => (first | k_is | kernel_rfl)
      case em_NothingToUndo_UnknownName => (first | k_is | kernel_rfl)
      case em_NothingToUndo_InvalidNumber => (first | k_is | kernel_rfl)
      case em_NothingToUndo_NothingToUndo => (first | k_is | kernel_rfl)
      case em_NothingToUndo_Refused => (first | k_is | kernel_rfl)
      case em_NothingToUndo_TooMany => (first | k_is | kernel_rfl)
      case em_Refused_HandError => (first | k_is | kernel_rfl)
      case em_Refused_InvalidProgram => (first | k_is | kernel_rfl)
      case em_Refused_InvalidMeaning => (first | k_is | kernel_rfl)
      case em_Refused_InvalidOperation => (first | k_is | kernel_rfl)
      case em_Refused_InvalidCommand => (first | k_is | kernel_rfl)
      case em_Refused_UnknownName => (first | k_is | kernel_rfl)
      case em_Refused_InvalidNumber => (first | k_is | kernel_rfl)
      case em_Refused_NothingToUndo => (first | k_is | kernel_rfl)
      case em_Refused_Refused => (first | k_is | kernel_rfl)
      case em_Refused_TooMany => (first | k_is | kernel_rfl)
      case em_TooMany_HandError => (first | k_is | kernel_rfl)
      case em_TooMany_InvalidProgram => (first | k_is | kernel_rfl)
      case em_TooMany_InvalidMeaning => (first | k_is | kernel_rfl)
      case em_TooMany_InvalidOperation => (first | k_is | kernel_rfl)
      case em_TooMany_InvalidCommand => (first | k_is | kernel_rfl)
      case em_TooMany_UnknownName => (first | k_is | kernel_rfl)
      case em_TooMany_InvalidNumber => (first | k_is | kernel_rfl)
      case em_TooMany_NothingToUndo => (first | k_is | kernel_rfl)
      case em_TooMany_Refused => (first | k_is | kernel_rfl)
      case em_TooMany_TooMany => (first | k_is | kernel_rfl)
      case exc_HandError => (refine' ⟨?qa, ?qb, ?qc, ?qd, ?qe, ?qf, ?qg, ?qh⟩; (case qa => k_is); (case qb => k_is); (case qc => k_is); (case qd => k_is); (case qe => k_is); (case qf => k_is); (case qg => k_is); (case qh => k_is))
      case ki_HandError_InvalidProgram => (refine' U.kit_mkR (by decide) ?qa ?qb ?qc; (case qa => k_is); (case qb => k_is); (case qc => k_is))
      case ki_HandError_InvalidMeaning => (refine' U.kit_mkR (by decide) ?qa ?qb ?qc; (case qa => k_is); (case qb => k_is); (case qc => k_is))
      case ki_HandError_InvalidOperation => (refine' U.kit_mkR (by decide) ?qa ?qb ?qc; (case qa => k_is); (case qb => k_is); (case qc => k_is))
      case ki_HandError_InvalidCommand => (refine' U.kit_mkR (by decide) ?qa ?qb ?qc; (case qa => k_is); (case qb => k_is); (case qc => k_is))
      case ki_HandError_ParseError => (refine' U.kit_mkR (by decide) ?qa ?qb ?qc; (case qa => k_is); (case qb => k_is); (case qc => k_is))
      case ki_HandError_UnknownName => (refine' U.kit_mkR (by decide) ?qa ?qb ?qc; (case qa => k_is); (case qb => k_is); (case qc => k_is))
      case ki_HandError_InvalidNumber => (refine' U.kit_mkR (by decide) ?qa ?qb ?qc; (case qa => k_is); (case qb => k_is); (case qc => k_is))
      case ki_HandError_NothingToUndo => (refine' U.kit_mkR (by decide) ?qa ?qb ?qc; (case qa => k_is); (case qb => k_is); (case qc => k_is))
      case ki_HandError_Refused => (refine' U.kit_mkR (by decide) ?qa ?qb ?qc; (case qa => k_is); (case qb => k_is); (case qc => k_is))
      case ki_HandError_TooMany => (refine' U.kit_mkR (by decide) ?qa ?qb ?qc; (case qa => k_is); (case qb => k_is); (case qc => k_is))
      case mr_HandError_ValueError => (k_is)
      case mr_HandError_KeyError => (k_is)
      case mr_HandError_IndexError => (k_is)
      case mr_HandError_LookupError => (k_is)
      case mr_HandError_ArithmeticError => (k_is)
      case mr_HandError_OverflowError => (k_is)
      case exc_InvalidProgram => (refine' ⟨?qa, ?qb, ?qc, ?qd, ?qe, ?qf, ?qg, ?qh⟩; (case qa => k_is); (case qb => k_is); (case qc => k_is); (case qd => k_is); (case qe => k_is); (case qf => k_is); (case qg => k_is); (case qh => k_is))
      case ki_InvalidProgram_HandError => (refine' U.kit_mkR (by decide) ?qa ?qb ?qc; (case qa => k_is); (case qb => k_is); (case qc => k_is))
      case ki_InvalidProgram_InvalidMeaning => (refine' U.kit_mkR (by decide) ?qa ?qb ?qc; (case qa => k_is); (case qb => k_is); (case qc => k_is))
      case ki_InvalidProgram_InvalidOperation => (refine' U.kit_mkR (by decide) ?qa ?qb ?qc; (case qa => k_is); (case qb => k_is); (case qc => k_is))
      case ki_InvalidProgram_InvalidCommand => (refine' U.kit_mkR (by decide) ?qa ?qb ?qc; (case qa => k_is); (case qb => k_is); (case qc => k_is))
      case ki_InvalidProgram_ParseError => (refine' U.kit_mkR (by decide) ?qa ?qb ?qc; (case qa => k_is); (case qb => k_is); (case qc => k_is))
      case ki_InvalidProgram_UnknownName => (refine' U.kit_mkR (by decide) ?qa ?qb ?qc; (case qa => k_is); (case qb => k_is); (case qc => k_is))
      case ki_InvalidProgram_InvalidNumber => (refine' U.kit_mkR (by decide) ?qa ?qb ?qc; (case qa => k_is); (case qb => k_is); (case qc => k_is))
      case ki_InvalidProgram_NothingToUndo => (refine' U.kit_mkR (by decide) ?qa ?qb ?qc; (case qa => k_is); (case qb => k_is); (case qc => k_is))
      case ki_InvalidProgram_Refused => (refine' U.kit_mkR (by decide) ?qa ?qb ?qc; (case qa => k_is); (case qb => k_is); (case qc => k_is))
      case ki_InvalidProgram_TooMany => (refine' U.kit_mkR (by decide) ?qa ?qb ?qc; (case qa => k_is); (case qb => k_is); (case qc => k_is))
      case mr_InvalidProgram_ValueError => (k_is)
      case mr_InvalidProgram_KeyError => (k_is)
      case mr_InvalidProgram_IndexError => (k_is)
      case mr_InvalidProgram_LookupError => (k_is)
      case mr_InvalidProgram_ArithmeticError => (k_is)
      case mr_InvalidProgram_OverflowError => (k_is)
      case exc_InvalidMeaning => (refine' ⟨?qa, ?qb, ?qc, ?qd, ?qe, ?qf, ?qg, ?qh⟩; (case qa => k_is); (case qb => k_is); (case qc => k_is); (case qd => k_is); (case qe => k_is); (case qf => k_is); (case qg => k_is); (case qh => k_is))
      case ki_InvalidMeaning_HandError => (refine' U.kit_mkR (by decide) ?qa ?qb ?qc; (case qa => k_is); (case qb => k_is); (case qc => k_is))
      case ki_InvalidMeaning_InvalidProgram => (refine' U.kit_mkR (by decide) ?qa ?qb ?qc; (case qa => k_is); (case qb => k_is); (case qc => k_is))
      case ki_InvalidMeaning_InvalidOperation => (refine' U.kit_mkR (by decide) ?qa ?qb ?qc; (case qa => k_is); (case qb => k_is); (case qc => k_is))
      case ki_InvalidMeaning_InvalidCommand => (refine' U.kit_mkR (by decide) ?qa ?qb ?qc; (case qa => k_is); (case qb => k_is); (case qc => k_is))
      case ki_InvalidMeaning_ParseError => (refine' U.kit_mkR (by decide) ?qa ?qb ?qc; (case qa => k_is); (case qb => k_is); (case qc => k_is))
      case ki_InvalidMeaning_UnknownName => (refine' U.kit_mkR (by decide) ?qa ?qb ?qc; (case qa => k_is); (case qb => k_is); (case qc => k_is))
      case ki_InvalidMeaning_InvalidNumber => (refine' U.kit_mkR (by decide) ?qa ?qb ?qc; (case qa => k_is); (case qb => k_is); (case qc => k_is))
      case ki_InvalidMeaning_NothingToUndo => (refine' U.kit_mkR (by decide) ?qa ?qb ?qc; (case qa => k_is); (case qb => k_is); (case qc => k_is))
      case ki_InvalidMeaning_Refused => (refine' U.kit_mkR (by decide) ?qa ?qb ?qc; (case qa => k_is); (case qb => k_is); (case qc => k_is))
      case ki_InvalidMeaning_TooMany => (refine' U.kit_mkR (by decide) ?qa ?qb ?qc; (case qa => k_is); (case qb => k_is); (case qc => k_is))
      case mr_InvalidMeaning_ValueError => (k_is)
      case mr_InvalidMeaning_KeyError => (k_is)
      case mr_InvalidMeaning_IndexError => (k_is)
      case mr_InvalidMeaning_LookupError => (k_is)
      case mr_InvalidMeaning_ArithmeticError => (k_is)
      case mr_InvalidMeaning_OverflowError => (k_is)
      case exc_InvalidOperation => (refine' ⟨?qa, ?qb, ?qc, ?qd, ?qe, ?qf, ?qg, ?qh⟩; (case qa => k_is); (case qb => k_is); (case qc => k_is); (case qd => k_is); (case qe => k_is); (case qf => k_is); (case qg => k_is); (case qh => k_is))
      case ki_InvalidOperation_HandError => (refine' U.kit_mkR (by decide) ?qa ?qb ?qc; (case qa => k_is); (case qb => k_is); (case qc => k_is))
      case ki_InvalidOperation_InvalidProgram => (refine' U.kit_mkR (by decide) ?qa ?qb ?qc; (case qa => k_is); (case qb => k_is); (case qc => k_is))
      case ki_InvalidOperation_InvalidMeaning => (refine' U.kit_mkR (by decide) ?qa ?qb ?qc; (case qa => k_is); (case qb => k_is); (case qc => k_is))
      case ki_InvalidOperation_InvalidCommand => (refine' U.kit_mkR (by decide) ?qa ?qb ?qc; (case qa => k_is); (case qb => k_is); (case qc => k_is))
      case ki_InvalidOperation_ParseError => (refine' U.kit_mkR (by decide) ?qa ?qb ?qc; (case qa => k_is); (case qb => k_is); (case qc => k_is))
      case ki_InvalidOperation_UnknownName => (refine' U.kit_mkR (by decide) ?qa ?qb ?qc; (case qa => k_is); (case qb => k_is); (case qc => k_is))
      case ki_InvalidOperation_InvalidNumber => (refine' U.kit_mkR (by decide) ?qa ?qb ?qc; (case qa => k_is); (case qb => k_is); (case qc => k_is))
      case ki_InvalidOperation_NothingToUndo => (refine' U.kit_mkR (by decide) ?qa ?qb ?qc; (case qa => k_is); (case qb => k_is); (case qc => k_is))
      case ki_InvalidOperation_Refused => (refine' U.kit_mkR (by decide) ?qa ?qb ?qc; (case qa => k_is); (case qb => k_is); (case qc => k_is))
      case ki_InvalidOperation_TooMany => (refine' U.kit_mkR (by decide) ?qa ?qb ?qc; (case qa => k_is); (case qb => k_is); (case qc => k_is))
      case mr_InvalidOperation_ValueError => (k_is)
      case mr_InvalidOperation_KeyError => (k_is)
      case mr_InvalidOperation_IndexError => (k_is)
      case mr_InvalidOperation_LookupError => (k_is)
      case mr_InvalidOperation_ArithmeticError => (k_is)
      case mr_InvalidOperation_OverflowError => (k_is)
      case exc_InvalidCommand => (refine' ⟨?qa, ?qb, ?qc, ?qd, ?qe, ?qf, ?qg, ?qh⟩; (case qa => k_is); (case qb => k_is); (case qc => k_is); (case qd => k_is); (case qe => k_is); (case qf => k_is); (case qg => k_is); (case qh => k_is))
      case ki_InvalidCommand_HandError => (refine' U.kit_mkR (by decide) ?qa ?qb ?qc; (case qa => k_is); (case qb => k_is); (case qc => k_is))
      case ki_InvalidCommand_InvalidProgram => (refine' U.kit_mkR (by decide) ?qa ?qb ?qc; (case qa => k_is); (case qb => k_is); (case qc => k_is))
      case ki_InvalidCommand_InvalidMeaning => (refine' U.kit_mkR (by decide) ?qa ?qb ?qc; (case qa => k_is); (case qb => k_is); (case qc => k_is))
      case ki_InvalidCommand_InvalidOperation => (refine' U.kit_mkR (by decide) ?qa ?qb ?qc; (case qa => k_is); (case qb => k_is); (case qc => k_is))
      case ki_InvalidCommand_ParseError => (refine' U.kit_mkR (by decide) ?qa ?qb ?qc; (case qa => k_is); (case qb => k_is); (case qc => k_is))
      case ki_InvalidCommand_UnknownName => (refine' U.kit_mkR (by decide) ?qa ?qb ?qc; (case qa => k_is); (case qb => k_is); (case qc => k_is))
      case ki_InvalidCommand_InvalidNumber => (refine' U.kit_mkR (by decide) ?qa ?qb ?qc; (case qa => k_is); (case qb => k_is); (case qc => k_is))
      case ki_InvalidCommand_NothingToUndo => (refine' U.kit_mkR (by decide) ?qa ?qb ?qc; (case qa => k_is); (case qb => k_is); (case qc => k_is))
      case ki_InvalidCommand_Refused => (refine' U.kit_mkR (by decide) ?qa ?qb ?qc; (case qa => k_is); (case qb => k_is); (case qc => k_is))
      case ki_InvalidCommand_TooMany => (refine' U.kit_mkR (by decide) ?qa ?qb ?qc; (case qa => k_is); (case qb => k_is); (case qc => k_is))
      case mr_InvalidCommand_ValueError => (k_is)
      case mr_InvalidCommand_KeyError => (k_is)
      case mr_InvalidCommand_IndexError => (k_is)
      case mr_InvalidCommand_LookupError => (k_is)
      case mr_InvalidCommand_ArithmeticError => (k_is)
      case mr_InvalidCommand_OverflowError => (k_is)
      case exc_ParseError => (refine' ⟨?qa, ?qb, ?qc, ?qd, ?qe, ?qf, ?qg, ?qh⟩; (case qa => k_is); (case qb => k_is); (case qc => k_is); (case qd => k_is); (case qe => k_is); (case qf => k_is); (case qg => k_is); (case qh => k_is))
      case ki_ParseError_HandError => (refine' U.kit_mkR (by decide) ?qa ?qb ?qc; (case qa => k_is); (case qb => k_is); (case qc => k_is))
      case ki_ParseError_InvalidProgram => (refine' U.kit_mkR (by decide) ?qa ?qb ?qc; (case qa => k_is); (case qb => k_is); (case qc => k_is))
      case ki_ParseError_InvalidMeaning => (refine' U.kit_mkR (by decide) ?qa ?qb ?qc; (case qa => k_is); (case qb => k_is); (case qc => k_is))
      case ki_ParseError_InvalidOperation => (refine' U.kit_mkR (by decide) ?qa ?qb ?qc; (case qa => k_is); (case qb => k_is); (case qc => k_is))
      case ki_ParseError_InvalidCommand => (refine' U.kit_mkR (by decide) ?qa ?qb ?qc; (case qa => k_is); (case qb => k_is); (case qc => k_is))
      case ki_ParseError_UnknownName => (refine' U.kit_mkR (by decide) ?qa ?qb ?qc; (case qa => k_is); (case qb => k_is); (case qc => k_is))
      case ki_ParseError_InvalidNumber => (refine' U.kit_mkR (by decide) ?qa ?qb ?qc; (case qa => k_is); (case qb => k_is); (case qc => k_is))
      case ki_ParseError_NothingToUndo => (refine' U.kit_mkR (by decide) ?qa ?qb ?qc; (case qa => k_is); (case qb => k_is); (case qc => k_is))
      case ki_ParseError_Refused => (refine' U.kit_mkR (by decide) ?qa ?qb ?qc; (case qa => k_is); (case qb => k_is); (case qc => k_is))
      case ki_ParseError_TooMany => (refine' U.kit_mkR (by decide) ?qa ?qb ?qc; (case qa => k_is); (case qb => k_is); (case qc => k_is))
      case mr_ParseError_ValueError => (k_is)
      case mr_ParseError_KeyError => (k_is)
      case mr_ParseError_IndexError => (k_is)
      case mr_ParseError_LookupError => (k_is)
      case mr_ParseError_ArithmeticError => (k_is)
      case mr_ParseError_OverflowError => (k_is)
      case exc_UnknownName => (refine' ⟨?qa, ?qb, ?qc, ?qd, ?qe, ?qf, ?qg, ?qh⟩; (case qa => k_is); (case qb => k_is); (case qc => k_is); (case qd => k_is); (case qe => k_is); (case qf => k_is); (case qg => k_is); (case qh => k_is))
      case ki_UnknownName_HandError => (refine' U.kit_mkR (by decide) ?qa ?qb ?qc; (case qa => k_is); (case qb => k_is); (case qc => k_is))
      case ki_UnknownName_InvalidProgram => (refine' U.kit_mkR (by decide) ?qa ?qb ?qc; (case qa => k_is); (case qb => k_is); (case qc => k_is))
      case ki_UnknownName_InvalidMeaning => (refine' U.kit_mkR (by decide) ?qa ?qb ?qc; (case qa => k_is); (case qb => k_is); (case qc => k_is))
      case ki_UnknownName_InvalidOperation => (refine' U.kit_mkR (by decide) ?qa ?qb ?qc; (case qa => k_is); (case qb => k_is); (case qc => k_is))
      case ki_UnknownName_InvalidCommand => (refine' U.kit_mkR (by decide) ?qa ?qb ?qc; (case qa => k_is); (case qb => k_is); (case qc => k_is))
      case ki_UnknownName_ParseError => (refine' U.kit_mkR (by decide) ?qa ?qb ?qc; (case qa => k_is); (case qb => k_is); (case qc => k_is))
      case ki_UnknownName_InvalidNumber => (refine' U.kit_mkR (by decide) ?qa ?qb ?qc; (case qa => k_is); (case qb => k_is); (case qc => k_is))
      case ki_UnknownName_NothingToUndo => (refine' U.kit_mkR (by decide) ?qa ?qb ?qc; (case qa => k_is); (case qb => k_is); (case qc => k_is))
      case ki_UnknownName_Refused => (refine' U.kit_mkR (by decide) ?qa ?qb ?qc; (case qa => k_is); (case qb => k_is); (case qc => k_is))
      case ki_UnknownName_TooMany => (refine' U.kit_mkR (by decide) ?qa ?qb ?qc; (case qa => k_is); (case qb => k_is); (case qc => k_is))
      case mr_UnknownName_ValueError => (k_is)
      case mr_UnknownName_KeyError => (k_is)
      case mr_UnknownName_IndexError => (k_is)
      case mr_UnknownName_LookupError => (k_is)
      case mr_UnknownName_ArithmeticError => (k_is)
      case mr_UnknownName_OverflowError => (k_is)
      case exc_InvalidNumber => (refine' ⟨?qa, ?qb, ?qc, ?qd, ?qe, ?qf, ?qg, ?qh⟩; (case qa => k_is); (case qb => k_is); (case qc => k_is); (case qd => k_is); (case qe => k_is); (case qf => k_is); (case qg => k_is); (case qh => k_is))
      case ki_InvalidNumber_HandError => (refine' U.kit_mkR (by decide) ?qa ?qb ?qc; (case qa => k_is); (case qb => k_is); (case qc => k_is))
      case ki_InvalidNumber_InvalidProgram => (refine' U.kit_mkR (by decide) ?qa ?qb ?qc; (case qa => k_is); (case qb => k_is); (case qc => k_is))
      case ki_InvalidNumber_InvalidMeaning => (refine' U.kit_mkR (by decide) ?qa ?qb ?qc; (case qa => k_is); (case qb => k_is); (case qc => k_is))
      case ki_InvalidNumber_InvalidOperation => (refine' U.kit_mkR (by decide) ?qa ?qb ?qc; (case qa => k_is); (case qb => k_is); (case qc => k_is))
      case ki_InvalidNumber_InvalidCommand => (refine' U.kit_mkR (by decide) ?qa ?qb ?qc; (case qa => k_is); (case qb => k_is); (case qc => k_is))
      case ki_InvalidNumber_ParseError => (refine' U.kit_mkR (by decide) ?qa ?qb ?qc; (case qa => k_is); (case qb => k_is); (case qc => k_is))
      case ki_InvalidNumber_UnknownName => (refine' U.kit_mkR (by decide) ?qa ?qb ?qc; (case qa => k_is); (case qb => k_is); (case qc => k_is))
      case ki_InvalidNumber_NothingToUndo => (refine' U.kit_mkR (by decide) ?qa ?qb ?qc; (case qa => k_is); (case qb => k_is); (case qc => k_is))
      case ki_InvalidNumber_Refused => (refine' U.kit_mkR (by decide) ?qa ?qb ?qc; (case qa => k_is); (case qb => k_is); (case qc => k_is))
      case ki_InvalidNumber_TooMany => (refine' U.kit_mkR (by decide) ?qa ?qb ?qc; (case qa => k_is); (case qb => k_is); (case qc => k_is))
      case mr_InvalidNumber_ValueError => (k_is)
      case mr_InvalidNumber_KeyError => (k_is)
      case mr_InvalidNumber_IndexError => (k_is)
      case mr_InvalidNumber_LookupError => (k_is)
      case mr_InvalidNumber_ArithmeticError => (k_is)
      case mr_InvalidNumber_OverflowError => (k_is)
      case exc_NothingToUndo => (refine' ⟨?qa, ?qb, ?qc, ?qd, ?qe, ?qf, ?qg, ?qh⟩; (case qa => k_is); (case qb => k_is); (case qc => k_is); (case qd => k_is); (case qe => k_is); (case qf => k_is); (case qg => k_is); (case qh => k_is))
      case ki_NothingToUndo_HandError => (refine' U.kit_mkR (by decide) ?qa ?qb ?qc; (case qa => k_is); (case qb => k_is); (case qc => k_is))
      case ki_NothingToUndo_InvalidProgram => (refine' U.kit_mkR (by decide) ?qa ?qb ?qc; (case qa => k_is); (case qb => k_is); (case qc => k_is))
      case ki_NothingToUndo_InvalidMeaning => (refine' U.kit_mkR (by decide) ?qa ?qb ?qc; (case qa => k_is); (case qb => k_is); (case qc => k_is))
      case ki_NothingToUndo_InvalidOperation => (refine' U.kit_mkR (by decide) ?qa ?qb ?qc; (case qa => k_is); (case qb => k_is); (case qc => k_is))
      case ki_NothingToUndo_InvalidCommand => (refine' U.kit_mkR (by decide) ?qa ?qb ?qc; (case qa => k_is); (case qb => k_is); (case qc => k_is))
      case ki_NothingToUndo_ParseError => (refine' U.kit_mkR (by decide) ?qa ?qb ?qc; (case qa => k_is); (case qb => k_is); (case qc => k_is))
      case ki_NothingToUndo_UnknownName => (refine' U.kit_mkR (by decide) ?qa ?qb ?qc; (case qa => k_is); (case qb => k_is); (case qc => k_is))
      case ki_NothingToUndo_InvalidNumber => (refine' U.kit_mkR (by decide) ?qa ?qb ?qc; (case qa => k_is); (case qb => k_is); (case qc => k_is))
      case ki_NothingToUndo_Refused => (refine' U.kit_mkR (by decide) ?qa ?qb ?qc; (case qa => k_is); (case qb => k_is); (case qc => k_is))
      case ki_NothingToUndo_TooMany => (refine' U.kit_mkR (by decide) ?qa ?qb ?qc; (case qa => k_is); (case qb => k_is); (case qc => k_is))
      case mr_NothingToUndo_ValueError => (k_is)
      case mr_NothingToUndo_KeyError => (k_is)
      case mr_NothingToUndo_IndexError => (k_is)
      case mr_NothingToUndo_LookupError => (k_is)
      case mr_NothingToUndo_ArithmeticError => (k_is)
      case mr_NothingToUndo_OverflowError => (k_is)
      case exc_Refused => (refine' ⟨?qa, ?qb, ?qc, ?qd, ?qe, ?qf, ?qg, ?qh⟩; (case qa => k_is); (case qb => k_is); (case qc => k_is); (case qd => k_is); (case qe => k_is); (case qf => k_is); (case qg => k_is); (case qh => k_is))
      case ki_Refused_HandError => (refine' U.kit_mkR (by decide) ?qa ?qb ?qc; (case qa => k_is); (case qb => k_is); (case qc => k_is))
      case ki_Refused_InvalidProgram => (refine' U.kit_mkR (by decide) ?qa ?qb ?qc; (case qa => k_is); (case qb => k_is); (case qc => k_is))
      case ki_Refused_InvalidMeaning => (refine' U.kit_mkR (by decide) ?qa ?qb ?qc; (case qa => k_is); (case qb => k_is); (case qc => k_is))
      case ki_Refused_InvalidOperation => (refine' U.kit_mkR (by decide) ?qa ?qb ?qc; (case qa => k_is); (case qb => k_is); (case qc => k_is))
      case ki_Refused_InvalidCommand => (refine' U.kit_mkR (by decide) ?qa ?qb ?qc; (case qa => k_is); (case qb => k_is); (case qc => k_is))
      case ki_Refused_ParseError => (refine' U.kit_mkR (by decide) ?qa ?qb ?qc; (case qa => k_is); (case qb => k_is); (case qc => k_is))
      case ki_Refused_UnknownName => (refine' U.kit_mkR (by decide) ?qa ?qb ?qc; (case qa => k_is); (case qb => k_is); (case qc => k_is))
      case ki_Refused_InvalidNumber => (refine' U.kit_mkR (by decide) ?qa ?qb ?qc; (case qa => k_is); (case qb => k_is); (case qc => k_is))
      case ki_Refused_NothingToUndo => (refine' U.kit_mkR (by decide) ?qa ?qb ?qc; (case qa => k_is); (case qb => k_is); (case qc => k_is))
      case ki_Refused_TooMany => (refine' U.kit_mkR (by decide) ?qa ?qb ?qc; (case qa => k_is); (case qb => k_is); (case qc => k_is))
      case mr_Refused_ValueError => (k_is)
      case mr_Refused_KeyError => (k_is)
      case mr_Refused_IndexError => (k_is)
      case mr_Refused_LookupError => (k_is)
      case mr_Refused_ArithmeticError => (k_is)
      case mr_Refused_OverflowError => (k_is)
      case exc_TooMany => (refine' ⟨?qa, ?qb, ?qc, ?qd, ?qe, ?qf, ?qg, ?qh⟩; (case qa => k_is); (case qb => k_is); (case qc => k_is); (case qd => k_is); (case qe => k_is); (case qf => k_is); (case qg => k_is); (case qh => k_is))
      case ki_TooMany_HandError => (refine' U.kit_mkR (by decide) ?qa ?qb ?qc; (case qa => k_is); (case qb => k_is); (case qc => k_is))
      case ki_TooMany_InvalidProgram => (refine' U.kit_mkR (by decide) ?qa ?qb ?qc; (case qa => k_is); (case qb => k_is); (case qc => k_is))
      case ki_TooMany_InvalidMeaning => (refine' U.kit_mkR (by decide) ?qa ?qb ?qc; (case qa => k_is); (case qb => k_is); (case qc => k_is))
      case ki_TooMany_InvalidOperation => (refine' U.kit_mkR (by decide) ?qa ?qb ?qc; (case qa => k_is); (case qb => k_is); (case qc => k_is))
      case ki_TooMany_InvalidCommand => (refine' U.kit_mkR (by decide) ?qa ?qb ?qc; (case qa => k_is); (case qb => k_is); (case qc => k_is))
      case ki_TooMany_ParseError => (refine' U.kit_mkR (by decide) ?qa ?qb ?qc; (case qa => k_is); (case qb => k_is); (case qc => k_is))
      case ki_TooMany_UnknownName => (refine' U.kit_mkR (by decide) ?qa ?qb ?qc; (case qa => k_is); (case qb => k_is); (case qc => k_is))
      case ki_TooMany_InvalidNumber => (refine' U.kit_mkR (by decide) ?qa ?qb ?qc; (case qa => k_is); (case qb => k_is); (case qc => k_is))
      case ki_TooMany_NothingToUndo => (refine' U.kit_mkR (by decide) ?qa ?qb ?qc; (case qa => k_is); (case qb => k_is); (case qc => k_is))
      case ki_TooMany_Refused => (refine' U.kit_mkR (by decide) ?qa ?qb ?qc; (case qa => k_is); (case qb => k_is); (case qc => k_is))
      case mr_TooMany_ValueError => (k_is)
      case mr_TooMany_KeyError => (k_is)
      case mr_TooMany_IndexError => (k_is)
      case mr_TooMany_LookupError => (k_is)
      case mr_TooMany_ArithmeticError => (k_is)
      case mr_TooMany_OverflowError => (k_is)
      case z_ArithmeticError => (k_is)
      case z_IndexError => (k_is)
      case z_KeyError => (k_is)
      case z_LookupError => (k_is)
      case z_OverflowError => (k_is)
      case z_ValueError => (k_is)
      case z_abs => (k_is)
      case z_int => (k_is)
      case z_isinstance => (k_is)
      case z_len => (k_is)
      case z_max => (k_is)
      case z_min => (k_is)
      case z_range => (k_is)
      case z_repr => (k_is)
#print axioms PySem.Challenge.cw_blockshanded_k00_errors_and_what_they_ke_holds
