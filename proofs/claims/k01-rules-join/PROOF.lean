import PyProof.Rows.All
import Wide.All
import OpenK.AllK
import Wide.FinOn
import HandS.ForMost
import HandS.ForExc
import HandS.Wide
import HandS.IsInst
import HandS.Star
import HandS.CallLocal
import HandS.MakeKwOnly
import HandS.MakeKw
import HandS.Defaults
import HandS.ClsMeth
import HandS.DictComp
import HandS.OwnEq
import HandS.FStr
import HandS.RaiseMore
import HandS.Zip
import HandS.Walk
import HandS.Style
import HandS.Codes
import HandS.SetKeys
import HandS.Strs
import HandS.Conv
import HandS.NoneIn
import HandS.ExcInit
import HandS.Head0
import HandS.Head1
import HandS.Head2
import HandS.HeadEnd
import HandS.HeadHook1
import HandS.HeadHook2
import HandS.HeadHook3
import KE.GoesEnumKw
import PyProof.ReprRoads
import HandS.ExcField
import HandS.ExcIs
import HandS.TryMany
import HandS.IterVal
import KE.KExcIs
import KE.KOwnIter
import HandS.HeadNt
import PySem.Challenge.RW_intoone_k01_rules_join
import HandS.Nested
import KE.KSuper
import KE.KCallOwn
set_option Elab.async false
set_option linter.all false
set_option maxRecDepth 100000
set_option maxHeartbeats 0
/-! # Part 1: rules beside the hand layer's, in one form -/
namespace M
open PySem PySem.Spec PyProof.Rows L2
/-! ### operators by name -/
def aAdd : R2 := rI0 fun i j => .int (i + j)
def aSub : R2 := rI0 fun i j => .int (i - j)
def aMul : R2 := rI CMulW fun i j => .int (i * j)
def aMod : R2 := rI (fun _ j => j ≠ 0) fun i j => .int (i.fmod j)
def aDiv : R2 := rI CDivW fun i j => .int (i / j)
def CPow2 (i j : Int) : Prop := 0 ≤ j ∧ j ≤ 100 ∧ i.natAbs < 2 ^ 100
def aPow : R2 := rI CPow2 fun i j => .int (i ^ j.toNat)
def aNeg : V → Hp → VK → Prop := rU fun i => .int (-i)
def aAddS : R2 := fun x y H Q => ∃ i j, x = .str i ∧ y = .str j ∧ i.length + j.length ≤ sizeLine ∧ Q (.str (i ++ j)) H
def aCat : R2 := rCat
def aCatT (K : PySem.W.Frag) : R2 := rCatT K
def aRep : R2 := rRep
def aEq : R2 := rEq
def aNe : R2 := rNe
def aEqD (K : PySem.W.Frag) : R2 := rEqD K
def aNeD (K : PySem.W.Frag) : R2 := rNeD K
def aLt : R2 := rI0 fun i j => .bl (decide (i < j))
def aLe : R2 := rI0 fun i j => .bl (decide (i ≤ j))
def aGt : R2 := rI0 fun i j => .bl (decide (j < i))
def aGe : R2 := rI0 fun i j => .bl (decide (j ≤ i))
def aIsN : R2 := fun x y H Q => y = .non ∧ Q (.bl (decide (x = .non))) H
def aNotN : R2 := fun x y H Q => y = .non ∧ Q (.bl (!decide (x = .non))) H
def aIn (K : PySem.W.Frag) : R2 := rIn K false
def aNotIn (K : PySem.W.Frag) : R2 := rIn K true
def aInS : R2 := fun x y H Q => ∃ (c : Nat) (z : Str), x = .str ⟨#[c]⟩ ∧ y = .str z ∧ Q (.bl (decide (c ∈ z.cps.toList))) H
def aNotInS : R2 := fun x y H Q => ∃ (c : Nat) (z : Str), x = .str ⟨#[c]⟩ ∧ y = .str z ∧ Q (.bl (!decide (c ∈ z.cps.toList))) H
section
variable {X : Cx}
theorem oAdd : OpR X (binaryOp .Add) aAdd := op_add
theorem oSub : OpR X (binaryOp .Sub) aSub := op_sub
theorem oMul : OpR X (binaryOp .Mult) aMul := op_mulW
theorem oMod : OpR X (binaryOp .Mod) aMod := op_modN
theorem oPow : OpR X (binaryOp .Pow) aPow := opI fun i j _ _ _ _ _ hc q => by
  have h1 : Builtin.Int.intBits i ≤ 101 := by
    unfold Builtin.Int.intBits
    split
    · omega
    · have := PySem.Flt.log2_lt_of (by decide) hc.2.2
      omega
  refine pow_int hc.1 ?_ q
  have h2 : (Builtin.Int.intBits i : Int) ≤ 101 := by omega
  have h3 := hc.2.1
  have h4 := hc.1
  have h5 : (Builtin.Int.intBits i : Int) * j ≤ 101 * 100 := Int.mul_le_mul h2 h3 h4 (by decide)
  exact Int.le_trans h5 (by decide)
theorem oDiv : OpR X (binaryOp .FloorDiv) aDiv := op_fdivW
theorem oAddS : OpR X (binaryOp .Add) aAddS := op_add_str
theorem oCat : OpR X (binaryOp .Add) aCat := op_cat
theorem oCatT : OpR X (binaryOp .Add) (aCatT X.K) := op_catT
theorem oRep : OpR X (binaryOp .Mult) aRep := op_rep
theorem oEq : OpR X (compareOp .Eq) aEq := op_eq
theorem oNe : OpR X (compareOp .NotEq) aNe := op_ne
theorem oEqD (hu : X.A.units + 64 < cLine) : OpR X (compareOp .Eq) (aEqD X.K) := op_eqD hu
theorem oNeD (hu : X.A.units + 64 < cLine) : OpR X (compareOp .NotEq) (aNeD X.K) := op_neD hu
theorem oLt : OpR X (compareOp .Lt) aLt := op_lt
theorem oLe : OpR X (compareOp .LtE) aLe := op_le
theorem oGt : OpR X (compareOp .Gt) aGt := op_gt
theorem oGe : OpR X (compareOp .GtE) aGe := op_ge
theorem oIsN : OpR X (compareOp .Is) aIsN := op_isN
theorem oNotN : OpR X (compareOp .IsNot) aNotN := op_notN
theorem oIn : OpR X (compareOp .In) (aIn X.K) := op_in_seq
theorem oNotIn : OpR X (compareOp .NotIn) (aNotIn X.K) := op_notIn_seq
theorem oInS : OpR X (compareOp .In) aInS := op_in_sign
theorem oNotInS : OpR X (compareOp .NotIn) aNotInS := op_notIn_sign
end
/-! ### built-ins by name -/
def aLen (K : PySem.W.Frag) : List V → Hp → VK → Prop := fun xs H Q => ∃ x n, xs = [x] ∧ LenV K x H n ∧ Q (.int n) H
def aInt : List V → Hp → VK → Prop := fun xs H Q => (∃ i, xs = [.int i] ∧ Q (.int i) H) ∨ ∃ k, xs = [.bl k] ∧ Q (.int (if k then 1 else 0)) H
def aAbs : List V → Hp → VK → Prop := fun xs H Q => ∃ i, xs = [.int i] ∧ Q (.int (if i < 0 then -i else i)) H
def aMax2 : List V → Hp → VK → Prop := fun xs H Q => ∃ i j, xs = [.int i, .int j] ∧ Q (.int (if j > i then j else i)) H
def aMin2 : List V → Hp → VK → Prop := fun xs H Q => ∃ i j, xs = [.int i, .int j] ∧ Q (.int (if j < i then j else i)) H
def aListOf (K : PySem.W.Frag) : List V → Hp → VK → Prop := fun xs H Q => ∃ p ys, xs = [.ref p] ∧ (SqL K H p ys ∨ SqT K H p ys) ∧ ∀ l, H l = none → Q (.ref l) (upd H l (.lst ys))
def aRepI : List V → Hp → VK → Prop := fun xs H Q => ∃ i, xs = [.int i] ∧ i.natAbs.log2 < 1920 ∧ Q (.str (toString i)) H
def aSplit : V → List V → Hp → VK → Prop := fun x xs H Q => ∃ a b, x = .str a ∧ xs = [.str b] ∧ (b.length == 0) = false ∧ a.length + 2 ≤ sizeLine ∧ rNewStrs (Txt.split a b) H Q
def aJoin (K : PySem.W.Frag) : V → List V → Hp → VK → Prop := fun x xs H Q => ∃ a p, ∃ ys : List Str, x = .str a ∧ xs = [.ref p] ∧ (SqL K H p (ys.map V.str) ∨ SqT K H p (ys.map V.str)) ∧ (ys.map (·.length)).sum + ys.length * a.length ≤ 16777216 ∧ Q (.str (Txt.join a ys)) H
section
variable {X : Cx}
theorem oLen : CallR X (.builtin "len") (aLen X.K) := call_len
theorem oInt : CallR X (.type "int") aInt := call_int1
theorem oAbs : CallR X (.builtin "abs") aAbs := call_abs
theorem oMax2 (hc : X.calm = true) : CallR X (.builtin "max") aMax2 := call_max2 hc
theorem oMin2 (hc : X.calm = true) : CallR X (.builtin "min") aMin2 := call_min2 hc
theorem oListOf : CallR X (.type "list") (aListOf X.K) := call_list_of
theorem oRepI : CallR X (.builtin "repr") aRepI := SkE.call_repr_int
end
/-! ### a name of the module -/
theorem pe_gl {X : Cx} {x : Str} {pos : Pos} {v : V} (hg : Gl X x) (hm : ∃ u, X.mg x = some u ∧ RelV v u) (hd : (x == ("__debug__" : Str)) = false := by decide) : PE X (.Name x pos) (tC v) := by
  obtain ⟨u, h, r⟩ := hm
  exact pe_glob hg h r (hd := hd)
theorem glc {mg : Str → Option Value} {x : Str} {a : Addr} (h : mg x = some (.ref a)) : ∃ u, mg x = some u ∧ RelV (.ref a) u := ⟨_, h, rfl⟩
/-! ### a def of the module, called -/
structure Cal (P : Program) (w : World) (K : PySem.W.Frag) (mg : Str → Option Value) (base : Heap) (x : Str) (k : Nat) (sp : Sp) : Prop where
  ex : ∃ (f : Addr) (fd : FuncData) (ps : List Str), FnOk P w K mg base CX0 k f fd ps sp ∧ mg x = some (.ref f) ∧ PySem.W.keepIn K (.ref f) = true ∧ Binds K fd ps []
structure MCal (P : Program) (w : World) (K : PySem.W.Frag) (mg : Str → Option Value) (base : Heap) (C : Addr) (m : Str) (k : Nat) (sp : Sp) : Prop where
  ex : ∃ (f : Addr) (fd : FuncData) (ps : List Str), FnOk P w K mg base CX0 k f fd ps sp ∧ Meth K C m f ∧ Binds K fd ps []
def tF (sp : Sp) (t : TA) : TE := fun σ H Q => t σ H fun vs H1 => sp vs H1 Q E0
def tF0 (sp : Sp) : TE := fun σ H Q => sp [] H Q E0
def tMc (C : Addr) (m : Str) (sp : Sp) (ta : TE) (t : TA) : TE := fun σ H Q => ta σ H fun x H1 => ∃ a dx fs, x = .ref a ∧ H1 a = some (.ins C dx fs) ∧ fs.lookup m = none ∧ t σ H1 fun vs H2 => sp (x :: vs) H2 Q E0
def tM0 (C : Addr) (m : Str) (sp : Sp) (ta : TE) : TE := fun σ H Q => ta σ H fun x H1 => ∃ a dx fs, x = .ref a ∧ H1 a = some (.ins C dx fs) ∧ fs.lookup m = none ∧ sp [x] H1 Q E0
section
variable {X : Cx} {k : Nat} {sp : Sp} {x m : Str} {C : Addr} {p pos apos : Pos} {e o : Expr} {es : List Expr} {t : TA} {ta : TE}
theorem pe_fc (G : Cal X.prog X.w X.K X.mg X.base x k sp) (hr : Room k X.A) (hg : Gl X x) (ha : PA X (e :: es) t) (hdb : (x == ("__debug__" : Str)) = false := by decide)
    (he : starEach (e :: es) X.env = (false, eval e X.env) :: starEach es X.env := by rfl) (hpl : (backTo pos (starEach es X.env)).any (·.1) = false := by rfl) : PE X (.Call (.Name x p) (e :: es) [] pos) (tF sp t) := by
  obtain ⟨f, fd, ps, F, hm, hk, hb⟩ := G.ex
  refine ⟨fun pins s σ H Q I h => ?_⟩
  refine (pe_call F hr hg hm hk hb .nil (pass0 (X := X)) ha hdb he hpl).run pins s σ H Q I ?_
  have e0 : (fun (vs : List V) (H1 : Hp) => sp (vs ++ []) H1 Q E0) = fun vs H1 => sp vs H1 Q E0 := by
    funext vs H1
    rw [List.append_nil]
  show t σ H (fun vs H1 => sp (vs ++ []) H1 Q E0)
  rw [e0]
  exact h
theorem pe_fc0 (G : Cal X.prog X.w X.K X.mg X.base x k sp) (hr : Room k X.A) (hg : Gl X x) (hdb : (x == ("__debug__" : Str)) = false := by decide) : PE X (.Call (.Name x p) [] [] pos) (tF0 sp) := by
  obtain ⟨f, fd, ps, F, hm, hk, hb⟩ := G.ex
  exact ⟨fun pins s σ H Q I h => (pe_call0 F hr hg hm hk hb .nil (pass0 (X := X)) hdb).run pins s σ H Q I h⟩
theorem pe_mc {pl : Sem Bool} (c : Cls X.K C) (Mm : MCal X.prog X.w X.K X.mg X.base C m k sp) (hr : Room k X.A) (he : PE X o ta) (ha : PA X (e :: es) t)
    (hst : starEach (e :: es) X.env = (false, eval e X.env) :: starEach es X.env := by rfl) (hpl : (backTo pos (starEach es X.env)).any (·.1) = false := by rfl)
    (ht : eval (.Call (.Attribute o m apos) (e :: es) [] pos) X.env = (do
      let ov ← eval o X.env
      standAt apos.atName
      let (f, first) ← holding [ov] (getMethod ov m pl)
      callWith pos f first (backTo pos (starEach (e :: es) X.env)) (backToKw pos (keywordEach [] X.env))) := by rfl) : PE X (.Call (.Attribute o m apos) (e :: es) [] pos) (tMc C m sp ta t) := by
  obtain ⟨f, fd, ps, F, hm, hb⟩ := Mm.ex
  refine ⟨fun pins s σ H Q I h => ?_⟩
  refine (pe_meth he c hm F hr hb .nil (pass0 (X := X)) ha hst hpl ht).run pins s σ H Q I ?_
  have e0 : (fun (x : V) (H1 : Hp) => ∃ a dx fs, x = .ref a ∧ H1 a = some (.ins C dx fs) ∧ fs.lookup m = none ∧ t σ H1 fun vs H2 => sp (x :: (vs ++ [])) H2 Q E0) = fun x H1 => ∃ a dx fs, x = .ref a ∧ H1 a = some (.ins C dx fs) ∧ fs.lookup m = none ∧ t σ H1 fun vs H2 => sp (x :: vs) H2 Q E0 := by
    simp only [List.append_nil]
  show ta σ H (fun x H1 => ∃ a dx fs, x = .ref a ∧ H1 a = some (.ins C dx fs) ∧ fs.lookup m = none ∧ t σ H1 fun vs H2 => sp (x :: (vs ++ [])) H2 Q E0)
  rw [e0]
  exact h
theorem pe_mc0 {pl : Sem Bool} (c : Cls X.K C) (Mm : MCal X.prog X.w X.K X.mg X.base C m k sp) (hr : Room k X.A) (he : PE X o ta)
    (ht : eval (.Call (.Attribute o m apos) [] [] pos) X.env = (do
      let ov ← eval o X.env
      standAt apos.atName
      let (f, first) ← holding [ov] (getMethod ov m pl)
      callWith pos f first (backTo pos (starEach [] X.env)) (backToKw pos (keywordEach [] X.env))) := by rfl) : PE X (.Call (.Attribute o m apos) [] [] pos) (tM0 C m sp ta) := by
  obtain ⟨f, fd, ps, F, hm, hb⟩ := Mm.ex
  refine ⟨fun pins s σ H Q I h => ?_⟩
  exact (pe_meth0 he c hm F hr hb .nil (pass0 (X := X)) ht).run pins s σ H Q I h
end
end M

namespace M
open PySem PySem.Spec PyProof.Rows L2
section
variable {D : Ends} {σ : L2.St} {H : Hp} {t u : TS} {te ta tb tc : TE} {tt tu : TT} {tr : TA} {g : TG} {Q : VK} {QA : List V → Hp → Prop} {QB : Bool → Hp → Prop} {QS : L2.St → Hp → Prop} {r : R2} {v x y : V} {i j : Int} {n m l : Nat} {b : Bool} {sp : Sp} {K : PySem.W.Frag}
theorem g_seq (h : t { D with nx := u D } σ H) : tSeq t u D σ H := h
theorem g_asg (h : te σ H fun x H1 => g x σ H1 D.nx) : tAsg te g D σ H := h
theorem g_name (h : QS (σ.set n (some v)) H) : gName n v σ H QS := h
theorem g_var (e : σ[n]? = some (some v)) (h : Q v H) : tVar n σ H Q := ⟨v, e, h⟩
theorem g_c (h : Q v H) : tC v σ H Q := h
theorem g_op (h : ta σ H fun x H1 => tb σ H1 fun y H2 => r x y H2 Q) : tOp r ta tb σ H Q := h
theorem g_un {r : V → Hp → VK → Prop} (h : ta σ H fun x H1 => r x H1 Q) : tUn r ta σ H Q := h
theorem g_if (h : tt σ H fun c H1 => if c = true then ta σ H1 Q else tb σ H1 Q) : tIf tt ta tb σ H Q := h
theorem g_ifs (h : tt σ H fun c H1 => if c = true then t D σ H1 else u D σ H1) : tIfS tt t u D σ H := h
theorem g_test (h : te σ H fun x H1 => ∃ k, x = .bl k ∧ QB k H1) : tTest te σ H QB := h
theorem g_B (h : te σ H fun x H1 => ∃ k, x = .bl k ∧ QB k H1) : tB te σ H QB := h
theorem g_bl {R : Bool → Prop} (h : R b) : ∃ k, V.bl b = .bl k ∧ R k := ⟨b, rfl, h⟩
theorem g_and (h : tt σ H fun c H1 => if c = true then tu σ H1 QB else QB false H1) : tAnd tt tu σ H QB := h
theorem g_or (h : tt σ H fun c H1 => if c = true then QB true H1 else tu σ H1 QB) : tOr tt tu σ H QB := h
theorem g_not (h : tt σ H fun c H1 => QB (!c) H1) : tNot tt σ H QB := h
theorem g_andV (h : ta σ H fun x H1 => ∃ c, x = .bl c ∧ if c = true then tb σ H1 Q else Q (.bl false) H1) : tAndV ta tb σ H Q := h
theorem g_orV (h : ta σ H fun x H1 => ∃ c, x = .bl c ∧ if c = true then Q (.bl true) H1 else tb σ H1 Q) : tOrV ta tb σ H Q := h
theorem g_notV (h : ta σ H fun x H1 => ∃ c, x = .bl c ∧ Q (.bl (!c)) H1) : tNotV ta σ H Q := h
theorem g_cb {r : List V → Hp → VK → Prop} (h : tr σ H fun vs H1 => r vs H1 Q) : tCB r tr σ H Q := h
theorem g_cons (h : ta σ H fun x H1 => tr σ H1 fun xs H2 => QA (x :: xs) H2) : tCons ta tr σ H QA := h
theorem g_nil (h : QA [] H) : tNil σ H QA := h
theorem g_f (h : tr σ H fun vs H1 => sp vs H1 Q E0) : tF sp tr σ H Q := h
theorem g_f0 (h : sp [] H Q E0) : tF0 sp σ H Q := h
theorem g_ret (h : te σ H D.rt) : tRet te D σ H := h
theorem g_retN (h : D.rt .non H) : tRetN D σ H := h
theorem g_drop (h : te σ H fun _ H1 => D.nx σ H1) : tDrop te D σ H := h
theorem g_next (h : D.nx σ H) : tNext D σ H := h
theorem g_cont (h : D.ct σ H) : tCont D σ H := h
theorem g_par (h : tr σ H fun vs H1 => ∃ v w, vs = [v, w] ∧ D.nx ((σ.set n (some v)).set m (some w)) H1) : tPar n m tr D σ H := h
theorem g_par2 {R : V → V → Prop} (h : R x y) : ∃ v w, [x, y] = [v, w] ∧ R v w := ⟨x, y, rfl, h⟩
theorem g_par3 (h : tr σ H fun vs H1 => ∃ u v w, vs = [u, v, w] ∧ D.nx (((σ.set n (some u)).set m (some v)).set l (some w)) H1) : tPar3 n m l tr D σ H := h
theorem g_lst (h : tr σ H fun xs H1 => xs.length ≤ sizeLine ∧ ∀ p, H1 p = none → Q (.ref p) (upd H1 p (.lst xs))) : tLst tr σ H Q := h
theorem g_tup (h : tr σ H fun xs H1 => xs.length ≤ sizeLine ∧ ∀ p, H1 p = none → Q (.ref p) (upd H1 p (.tup xs))) : tTup tr σ H Q := h
theorem g_sub {ts : TSet} (h : ta σ H fun o H1 => tb σ H1 fun i H2 => ts o i v H2 fun H3 => QS σ H3) : gSub ta tb ts v σ H QS := h
theorem g_chain {r' : R2} (h : ta σ H fun x H1 => tb σ H1 fun y H2 => r x y H2 fun z H3 => ∃ k, z = .bl k ∧ (if k = true then tc σ H3 fun w' H4 => r' y w' H4 Q else Q (.bl false) H3)) : tChain r r' ta tb tc σ H Q := h
theorem g_noPart {QO : Option Int → Hp → Prop} (h : QO none H) : tNoPart σ H QO := h
theorem g_part {QO : Option Int → Hp → Prop} (h : te σ H fun x H1 => ∃ i, x = .int i ∧ QO (some i) H1) : tPart te σ H QO := h
theorem g_int {QO : Int → Prop} (h : QO i) : ∃ k, V.int i = .int k ∧ QO k := ⟨i, rfl, h⟩
theorem g_sl {r : V → Option Int → Option Int → Hp → VK → Prop} {tl th : TO} (h : te σ H fun x H1 => tl σ H1 fun l H2 => th σ H2 fun u H3 => r x l u H3 Q) : tSl r te tl th σ H Q := h
theorem g_yes (h : QB true H) : tYes σ H QB := h
theorem g_aAdd (h : Q (.int (i + j)) H) : aAdd (.int i) (.int j) H Q := ⟨i, j, rfl, rfl, h⟩
theorem g_aSub (h : Q (.int (i - j)) H) : aSub (.int i) (.int j) H Q := ⟨i, j, rfl, rfl, h⟩
theorem g_aNeg (h : Q (.int (-i)) H) : aNeg (.int i) H Q := ⟨i, rfl, h⟩
theorem g_aMod (hj : j ≠ 0) (h : Q (.int (i.fmod j)) H) : aMod (.int i) (.int j) H Q := ⟨i, j, rfl, rfl, hj, h⟩
theorem g_aMul (hi : i.natAbs < 2 ^ 200) (hj : j.natAbs < 2 ^ 200) (h : Q (.int (i * j)) H) : aMul (.int i) (.int j) H Q := ⟨i, j, rfl, rfl, wide_mul hi hj (by decide) (by decide) (by decide), h⟩
theorem g_aDiv (h0 : 0 < j) (hj : j.natAbs < 2 ^ 200) (h : Q (.int (i / j)) H) : aDiv (.int i) (.int j) H Q := ⟨i, j, rfl, rfl, wide_div h0 hj (by decide) (by decide), h⟩
theorem g_aPow (h0 : 0 ≤ j) (h1 : j ≤ 100) (hi : i.natAbs < 2 ^ 100) (h : Q (.int (i ^ j.toNat)) H) : aPow (.int i) (.int j) H Q := ⟨i, j, rfl, rfl, ⟨h0, h1, hi⟩, h⟩
theorem g_aLt (h : Q (.bl (decide (i < j))) H) : aLt (.int i) (.int j) H Q := ⟨i, j, rfl, rfl, h⟩
theorem g_aLe (h : Q (.bl (decide (i ≤ j))) H) : aLe (.int i) (.int j) H Q := ⟨i, j, rfl, rfl, h⟩
theorem g_aGt (h : Q (.bl (decide (j < i))) H) : aGt (.int i) (.int j) H Q := ⟨i, j, rfl, rfl, h⟩
theorem g_aGe (h : Q (.bl (decide (j ≤ i))) H) : aGe (.int i) (.int j) H Q := ⟨i, j, rfl, rfl, h⟩
theorem g_aEq (hs : scal x y = true) (h : Q (.bl (decide (x = y))) H) : aEq x y H Q := ⟨hs, h⟩
theorem g_aNe (hs : scal x y = true) (h : Q (.bl (!decide (x = y))) H) : aNe x y H Q := ⟨hs, h⟩
theorem g_aIsN (h : Q (.bl (decide (x = .non))) H) : aIsN x .non H Q := ⟨rfl, h⟩
theorem g_aNotN (h : Q (.bl (!decide (x = .non))) H) : aNotN x .non H Q := ⟨rfl, h⟩
theorem g_aAbs (h : Q (.int (if i < 0 then -i else i)) H) : aAbs [.int i] H Q := ⟨i, rfl, h⟩
theorem g_aMax2 (h : Q (.int (if j > i then j else i)) H) : aMax2 [.int i, .int j] H Q := ⟨i, j, rfl, h⟩
theorem g_aMin2 (h : Q (.int (if j < i then j else i)) H) : aMin2 [.int i, .int j] H Q := ⟨i, j, rfl, h⟩
theorem g_aInt (h : Q (.int i) H) : aInt [.int i] H Q := .inl ⟨i, rfl, h⟩
theorem g_iteT {A B : Prop} (h : A) : if true = true then A else B := iteT h
theorem g_iteF {A B : Prop} (h : B) : if false = true then A else B := iteF h
/-- an undecided test -/
theorem g_ite {p A B : Prop} [Decidable p] (h1 : p → A) (h2 : ¬ p → B) : if decide p = true then A else B := by
  by_cases hp : p
  · rw [if_pos (decide_eq_true hp)]; exact h1 hp
  · rw [decide_eq_false hp, if_neg Bool.false_ne_true]; exact h2 hp
theorem g_iteN {p A B : Prop} [Decidable p] (h1 : ¬ p → A) (h2 : p → B) : if (!decide p) = true then A else B := by
  by_cases hp : p
  · rw [decide_eq_true hp]; exact iteF (h2 hp)
  · rw [decide_eq_false hp]; exact iteT (h1 hp)
theorem g_iteB {A B : Prop} (h1 : b = true → A) (h2 : b = false → B) : if b = true then A else B := by
  cases b with
  | true => exact iteT (h1 rfl)
  | false => exact iteF (h2 rfl)
/-! ### lists -/
theorem g_ixL {a : Addr} {xs : List V} (hs : SqL K H a xs) (hi : atI xs i = some v) (h : Q v H) : rIxL K (.ref a) (.int i) H Q := ⟨a, xs, i, v, rfl, rfl, hs, hi, h⟩
theorem g_ixT {a : Addr} {xs : List V} (hs : SqT K H a xs) (hi : atI xs i = some v) (h : Q v H) : rIxT K (.ref a) (.int i) H Q := ⟨a, xs, i, v, rfl, rfl, hs, hi, h⟩
theorem g_setL {a : Addr} {xs : List V} {QH : Hp → Prop} (hs : H a = some (.lst xs)) (hi : ixN xs.length i = some n) (h : QH (upd H a (.lst (xs.set n v)))) : rSetL (.ref a) (.int i) v H QH := ⟨a, xs, i, n, rfl, rfl, hs, hi, h⟩
theorem g_len {a : Addr} {xs : List V} (hs : SqL K H a xs ∨ SqT K H a xs) (h : Q (.int (xs.length : Nat)) H) : aLen K [.ref a] H Q := ⟨_, xs.length, rfl, hs.imp (fun q => ⟨xs, q, rfl⟩) fun q => ⟨xs, q, rfl⟩, h⟩
theorem g_app {a : Addr} {xs : List V} (hs : H a = some (.lst xs)) (hl : xs.length < 100000) (h : Q .non (upd H a (.lst (xs ++ [v])))) : rAppend (.ref a) [v] H Q := ⟨a, xs, v, rfl, rfl, hs, Nat.lt_of_lt_of_le hl (by decide), h⟩
theorem g_bm {T : String} {r : V → List V → Hp → VK → Prop} (h : te σ H fun x H1 => tyV K T x H1 ∧ tr σ H1 fun xs H2 => r x xs H2 Q) : tBM K T r te tr σ H Q := h
theorem g_ty {a : Addr} {xs : List V} {P : Prop} (hs : H a = some (.lst xs)) (h : P) : tyV K "list" (.ref a) H ∧ P := ⟨.inl ⟨rfl, _, .inl (.inl hs)⟩, h⟩
theorem sz {n : Nat} (h : n ≤ 100000) : n ≤ sizeLine := Nat.le_trans h (by decide)
end
/-! ### heaps -/
/-- b's own contents apart, all that was tracked stands -/
def Kp (b : Addr) (H H' : Hp) : Prop := ∀ a o, a ≠ b → H a = some o → H' a = some o
theorem Kp.refl {b : Addr} {H : Hp} : Kp b H H := fun _ _ _ h => h
theorem Kp.trans {b : Addr} {H H1 H2 : Hp} (a : Kp b H H1) (c : Kp b H1 H2) : Kp b H H2 := fun x o n h => c x o n (a x o n h)
theorem Kp.of {b : Addr} {H H' : Hp} (e : Same H H') : Kp b H H' := fun a o _ h => e a o h
theorem Kp.mut {b p : Addr} {H H' : Hp} {o : HO} (e : Kp b H H') (h : H p = none) : Kp b H (upd H' p o) := fun a u n ha => by
  rw [upd_ne (ne_of_none ha h)]
  exact e a u n ha
theorem Kp.self {b : Addr} {H H' : Hp} {o : HO} (e : Kp b H H') : Kp b H (upd H' b o) := fun a u n ha => by
  rw [upd_ne n]
  exact e a u n ha
theorem Kp.l {b a : Addr} {H H' : Hp} {K : PySem.W.Frag} {xs : List V} (e : Kp b H H') (n : a ≠ b) (h : SqL K H a xs) : SqL K H' a xs := by
  rcases h with (h | ⟨o, h⟩) | h
  · exact .inl (.inl (e _ _ n h))
  · exact .inl (.inr ⟨o, e _ _ n h⟩)
  · exact .inr h
theorem Kp.free {b a : Addr} {H H' : Hp} (e : Kp b H H') (n : a ≠ b) (h : H' a = none) : H a = none := by
  cases q : H a with
  | none => rfl
  | some o => rw [e a o n q] at h; cases h
theorem Same.new {H : Hp} {p : Addr} {o : HO} (h : H p = none) : Same H (upd H p o) := fun a u e => by
  rw [upd_ne (ne_of_none e h)]
  exact e
end M

namespace M
open PySem PySem.Spec PyProof.Rows L2
/-! ### an instance of a class without __init__ -/
structure NewF (K : PySem.W.Frag) (C : Addr) : Prop where
  mks : PySem.W.makesIn K C = true
  ini : PySem.W.findIn K (.ref C) "__init__" = some (some (.builtin "object.__init__"))
  kp : PySem.W.keepIn K (.ref C) = true
def tNew0 (C : Addr) : TE := fun _ H Q => ∀ x dx, H x = none → H dx = none → dx ≠ x → Q (.ref x) (upd (upd H dx (.own x)) x (.ins C dx []))
theorem pe_new0 {X : Cx} {C : Addr} {x : Str} {p pos : Pos} (N : NewF X.K C) (hg : Gl X x) (hm : X.mg x = some (.ref C)) (hdb : (x == ("__debug__" : Str)) = false := by decide) : PE X (.Call (.Name x p) [] [] pos) (tNew0 C) := by
  refine ⟨fun pins s σ H Q I h => ?_⟩
  refine wpAny_Call_Name_kw (ld_glob I hg hm ?_ hdb)
  refine PySem.W.callWith_K0 I.kIn N.kp (wpAny_call (make_map0 I.kIn N.mks N.ini (fun self => PySem.W.Looks.of_pure (PySem.W.oi_bind self)) ?_))
  have q := h (s.heap.objs.size + 1) s.heap.objs.size (I.hok.fresh (Nat.le_succ _)) (I.hok.fresh (Nat.le_refl _)) (Nat.ne_of_lt (Nat.lt_succ_self _))
  have I2 := Inv.made (C := C) I
  have g2 : ((s.heap.push PySem.W.emptyDict).push (PySem.W.instObj C s.heap.objs.size)).get? (s.heap.objs.size + 1) = some (PySem.W.instObj C s.heap.objs.size) := by
    have := Heap.get?_push_size (s.heap.push PySem.W.emptyDict) (o := PySem.W.instObj C s.heap.objs.size) rfl
    rwa [Heap.size_push] at this
  have Y := PySem.W.makes_of (M := model X.prog X.w) I.kIn N.mks
  have t1 : PySem.W.Looks (model X.prog X.w) ((s.heap.push PySem.W.emptyDict).push (PySem.W.instObj C s.heap.objs.size)) (typeOf (.ref (s.heap.objs.size + 1))) (.ref C) := (PySem.W.Looks.ld g2).andThen .now
  have t2 : PySem.W.Looks (model X.prog X.w) ((s.heap.push PySem.W.emptyDict).push (PySem.W.instObj C s.heap.objs.size)) (isInstance (.ref (s.heap.objs.size + 1)) (.type "object")) true := t1.andThen (Y.top.keeps fun b o e => Heap.get?_push_of_some _ (Heap.get?_push_of_some _ e))
  refine codeAny_call_builtin PySem.W.oi_plain PySem.W.entry_oi (@PySem.W.check_slot (model X.prog X.w) _ _ _ "object.__init__" "object" "__init__" (.ref (s.heap.objs.size + 1)) [] [] _ PySem.W.oi_kind PySem.W.oi_split t2 (PySem.W.oi_args _) ?_)
  rw [PySem.W.oi_run]
  exact wpAny_pure (And.intro rfl ⟨V.ref (s.heap.objs.size + 1), _, I2, rfl, q⟩)
/-! ### an instance by its __init__, positional or with keywords -/
structure ICal (P : Program) (w : World) (K : PySem.W.Frag) (mg : Str → Option Value) (base : Heap) (x : Str) (C : Addr) (k : Nat) (sp : Sp) : Prop where
  ex : ∃ (f : Addr) (fd : FuncData) (ps : List Str), Mk K C f ∧ FnOk P w K mg base CX0 k f fd ps sp ∧ Binds K fd ps [] ∧ mg x = some (.ref C)
structure KCal (P : Program) (w : World) (K : PySem.W.Frag) (mg : Str → Option Value) (base : Heap) (x : Str) (C : Addr) (k : Nat) (sp : Sp) (n : Nat) (ks : List Str) (gV : List V → List V → List V) : Prop where
  ex : ∃ (f : Addr) (fd : FuncData) (ps : List Str) (g : List Value → List Value → List Value), Mk K C f ∧ FnOk P w K mg base CX0 k f fd ps sp ∧ KBn K fd ps (n + 1) ks g gV ∧ mg x = some (.ref C)
def tMkK (C : Addr) (n : Nat) (ks : List Str) (sp : Sp) (gV : List V → List V → List V) (t tk : TA) : TE := tMakeK C n ks.length sp gV E0 t tk
def tMk (C : Addr) (sp : Sp) (t : TA) : TE := tMake C sp [] E0 t
section
variable {X : Cx} {k n : Nat} {sp : Sp} {x : Str} {C : Addr} {p pos : Pos} {e : Expr} {es : List Expr} {kws : List Keyword} {t tk : TA} {ks : List Str} {gV : List V → List V → List V}
theorem pe_mk (G : ICal X.prog X.w X.K X.mg X.base x C k sp) (hr : Room (k + 1) X.A) (hg : Gl X x) (ha : PA X (e :: es) t) (hdb : (x == ("__debug__" : Str)) = false := by decide)
    (he : starEach (e :: es) X.env = (false, eval e X.env) :: starEach es X.env := by rfl) (hpl : (backTo pos (starEach es X.env)).any (·.1) = false := by rfl) : PE X (.Call (.Name x p) (e :: es) [] pos) (tMk C sp t) := by
  obtain ⟨f, fd, ps, Mm, F, hb, hm⟩ := G.ex
  exact ⟨fun pins s σ H Q I h => (pe_make Mm F hr hg hm hb .nil (pass0 (X := X)) ha hdb he hpl).run pins s σ H Q I h⟩
theorem pe_mkK (G : KCal X.prog X.w X.K X.mg X.base x C k sp n ks gV) (hr : Room (k + 1) X.A) (hg : Gl X x) (ha : PA X (e :: es) t) (hkw : PK X kws tk)
    (hall : (backToKw pos (keywordEach kws X.env)).all (·.1.isSome) = true := by rfl) (hks : (backToKw pos (keywordEach kws X.env)).filterMap (·.1) = ks := by rfl) (hdb : (x == ("__debug__" : Str)) = false := by decide)
    (he : starEach (e :: es) X.env = (false, eval e X.env) :: starEach es X.env := by rfl) (hpl : ((backTo pos (starEach (e :: es) X.env)).any (·.1) || (backToKw pos (keywordEach kws X.env)).any (·.1.isNone)) = false := by rfl) :
    PE X (.Call (.Name x p) (e :: es) kws pos) (tMkK C n ks sp gV t tk) := by
  obtain ⟨f, fd, ps, g, Mm, F, hb, hm⟩ := G.ex
  exact ⟨fun pins s σ H Q I h => (pe_makeK Mm F hr hg hm hb (pass0 (X := X)) ha hkw hall hks hdb he hpl).run pins s σ H Q I h⟩
end
/-! ### a written dict with text keys, read -/
def aKd (K : PySem.W.Frag) (d : Addr) : R2 := fun x y H Q => ∃ (z : Str) (u : Value) (v : V), x = .ref d ∧ y = .str z ∧ PySem.W.nsIn K d z = some (some u) ∧ RelV v u ∧ Q v H
def aNotInKd (K : PySem.W.Frag) (d : Addr) : R2 := fun x y H Q => ∃ (z : Str) (r : Option Value), x = .str z ∧ y = .ref d ∧ PySem.W.nsIn K d z = some r ∧ Q (.bl (!r.isSome)) H
theorem ix_kd {X : Cx} {d : Addr} (D : ∃ es n, KDict X.K X.w d es n) : IxR X (aKd X.K d) := by
  obtain ⟨es, n, D⟩ := D
  intro value slice pins s σ H x y v u Q I rx ry h hs
  obtain ⟨z, u0, v0, ex, ey, e, ru, q⟩ := h
  exact ix_kdict value slice pins s σ H x y v u Q I rx ry ⟨d, z, v0, ex, ey, ⟨es, n, u0, D.at_, D.lit, e, ru⟩, q⟩ hs
theorem oNotInKd {X : Cx} {d : Addr} (D : ∃ es n, KDict X.K X.w d es n) : OpR X (compareOp .NotIn) (aNotInKd X.K d) := by
  obtain ⟨es, n, D⟩ := D
  exact op_notIn_kd D
/-! ### a classmethod of a class, called -/
structure CmCal (P : Program) (w : World) (K : PySem.W.Frag) (mg : Str → Option Value) (base : Heap) (C : Addr) (m : Str) (k : Nat) (sp : Sp) : Prop where
  ex : ∃ (f p : Addr) (fd : FuncData) (ps : List Str) (mc : Value), FnOk P w K mg base CX0 k f fd ps sp ∧ Binds K fd ps [] ∧ ClX.CRead K C mc ∧ ClX.CMet K C mc m p f
def tCm (C : Addr) (sp : Sp) (ta : TE) (t : TA) : TE := fun σ H Q => ta σ H fun x H1 => x = .ref C ∧ t σ H1 fun vs H2 => sp (.ref C :: vs) H2 Q E0
theorem pe_cm {X : Cx} {k : Nat} {C : Addr} {m : Str} {sp : Sp} {o e : Expr} {es : List Expr} {pos apos : Pos} {ta : TE} {t : TA} {pl : Sem Bool} (Mm : CmCal X.prog X.w X.K X.mg X.base C m k sp) (hr : Room k X.A) (he : PE X o ta) (ha : PA X (e :: es) t)
    (hst : starEach (e :: es) X.env = (false, eval e X.env) :: starEach es X.env := by rfl) (hpl : (backTo pos (starEach es X.env)).any (·.1) = false := by rfl)
    (ht : eval (.Call (.Attribute o m apos) (e :: es) [] pos) X.env = (do
      let ov ← eval o X.env
      standAt apos.atName
      let (f, first) ← holding [ov] (getMethod ov m pl)
      callWith pos f first (backTo pos (starEach (e :: es) X.env)) (backToKw pos (keywordEach [] X.env))) := by rfl) : PE X (.Call (.Attribute o m apos) (e :: es) [] pos) (tCm C sp ta t) := by
  obtain ⟨f, p, fd, ps, mc, F, hb, cr, cm⟩ := Mm.ex
  have F1 : FnR X.prog X.w X.K X.mg X.base CX0 k f sp := (F.raw hb .nil).imp fun vs H Q E h => by
    rw [List.append_nil]
    exact h
  exact ⟨fun pins s σ H Q I h => (ClX.pe_cmeth he cr cm F1 hr (pass0 (X := X)) ha hst hpl ht).run pins s σ H Q I h⟩
/-! ### cls(..), cls a local that holds the class -/
def tClsL (i : Nat) (C : Addr) (sp : Sp) (t : TA) : TE := fun σ H Q => σ[i]? = some (some (.ref C)) ∧ tMake C sp [] E0 t σ H Q
theorem pe_clsL {X : Cx} {k i : Nat} {sp : Sp} {x y : Str} {C : Addr} {p pos : Pos} {e : Expr} {es : List Expr} {t : TA} (G : ICal X.prog X.w X.K X.mg X.base y C k sp) (hr : Room (k + 1) X.A) (hN : X.N[i]? = some x) (hv : Vis X.env.scope x) (ha : PA X (e :: es) t) (hdb : (x == ("__debug__" : Str)) = false := by decide) (hcd : (x == ("__classdict__" : Str)) = false := by decide)
    (he : starEach (e :: es) X.env = (false, eval e X.env) :: starEach es X.env := by rfl) (hpl : (backTo pos (starEach es X.env)).any (·.1) = false := by rfl) : PE X (.Call (.Name x p) (e :: es) [] pos) (tClsL i C sp t) := by
  obtain ⟨f, fd, ps, Mm, F, hb, hm⟩ := G.ex
  refine ⟨fun pins s σ H Q I h => ?_⟩
  obtain ⟨hs, ht⟩ := h
  refine wpAny_Call_Name_kw (thn ((pe_var (pos := p) hN hv hdb hcd).run pins s σ H (fun v H1 => v = .ref C ∧ H1 = H) I ⟨.ref C, hs, rfl, rfl⟩) fun u s1 hh => ?_)
  obtain ⟨v, H1, I1, r1, e1, e2⟩ := hh
  subst e1 e2
  cases r1
  refine PySem.W.callWith_K (h₀ := X.base) I.ok.mod.kin Mm.kp (thn (ha.run pos pins s1 σ _ _ I1 ht) fun us s2 hh => ?_) he hpl
  obtain ⟨vs, H2, I2, r, q⟩ := hh
  exact ⟨I2.kIn, run_make Mm F hr hb .nil (pass0 (X := X)) I2 r q⟩
/-! ### == by an own __eq__ -/
inductive TyE (K : PySem.W.Frag) (H : Hp) : V → Value → Prop where
  | str (z : Str) : TyE K H (.str z) (.type "str")
  | ins {a C dx : Addr} {fs : List (Str × V)} (e : H a = some (.ins C dx fs)) : TyE K H (.ref a) (.ref C)
def aOwn (K : PySem.W.Frag) (f : Addr) (sp : Sp) : R2 := fun x y H Q => ∃ a C dx fs t, x = .ref a ∧ H a = some (.ins C dx fs) ∧ PySem.W.findIn K (.ref C) "__eq__" = some (some (.ref f)) ∧ TyE K H y t ∧ PySem.W.notFirst K C t = true ∧
  sp [x, y] H (fun v H1 => ∃ b, v = .bl b ∧ Q v H1) E0
theorem oOwn {X : Cx} {k : Nat} {f : Addr} {fd : FuncData} {ps : List Str} {sp : Sp} (F : FnOk X.prog X.w X.K X.mg X.base CX0 k f fd ps sp) (hf : PySem.W.isFn X.K (.ref f) = true) (hb : Binds X.K fd ps []) (hr : Room k X.A) (hu : X.A.units < cLine) : OpR X (compareOp .Eq) (aOwn X.K f sp) := by
  intro pins s σ H x y v u Q I rx ry h
  obtain ⟨a, C, dx, fs, t, rfl, ha, hs, ty, hn, hsp⟩ := h
  cases rx
  obtain ⟨mA, J, _⟩ := ins_get I.hok ha
  obtain ⟨od, J, _⟩ := J.look
  obtain ⟨m, hF⟩ := I.fr
  have hty : PySem.W.Looks (model X.prog X.w) s.heap (typeOf u) t := by
    cases ty with
    | str z =>
      obtain ⟨tk, rfl⟩ := ry
      exact PySem.W.Looks.of_pure rfl
    | ins e =>
      cases ry
      obtain ⟨mB, J', _⟩ := ins_get I.hok e
      obtain ⟨od', J', _⟩ := J'.look
      exact J'.type
  show wpAny (model X.prog X.w) X.A (richCompare .Eq (.ref a) u) (EP X pins σ Q) X.xe s
  refine PySem.W.cmp_K (op := .Eq) (tb := t) hu hF I.ok.mod.kin J hty hn hs hf ?_
  have r2 : Vals [V.ref a, y] [Value.ref a, u] := .cons rfl (.cons ry .nil)
  refine thn (run_fn (Q := fun v H1 => ∃ b, v = .bl b ∧ Q v H1) (us := [.ref a, u]) (vs := [.ref a, y]) F hr hb .nil (pass0 (X := X)) I r2 (by simpa using hsp)) fun w1 s1 hh => ?_
  obtain ⟨z, H1, I1, rz, b, ez, q⟩ := hh
  subst ez
  cases rz
  exact ⟨.bl b, H1, I1, rfl, q⟩
end M

namespace M
open PySem PySem.Spec PyProof.Rows L2
/-! ### enumerate(list, start=k) -/
def IteS (K : PySem.W.Frag) (a : Addr) (k0 : Int) : It :=
  ⟨fun i H => ∃ (xs : List V) (x : V), SqL K H a xs ∧ xs[i]? = some x, fun i H v H1 => ∃ T x, v = .ref T ∧ H T = none ∧ H1 = upd H T (.tup [.int (k0 + (i : Nat)), x]) ∧ ∀ xs, SqL K H a xs → xs[i]? = some x, fun i H => ∃ xs : List V, SqL K H a xs ∧ xs.length = i⟩
theorem turn_enumS {P : Program} {w : World} {K : PySem.W.Frag} {elts : List Expr} {kk : Nat} {tpos : Pos} (a e it : Addr) (k0 : Int) :
    Turn P w K (.Tuple elts kk tpos) (IteS K a k0) [e, it] e (fun i h => (∃ old, IsEnum h e it (k0 + ((i : Nat) : Int)) old) ∧ h.IsListIter it a i ∧ e ≠ it) where
  mem := List.mem_cons_self
  obj := fun i h st b hb => by
    obtain ⟨⟨old, he⟩, ⟨o, ho, hc, hd⟩, _⟩ := st
    rcases List.mem_cons.mp hb with z | z
    · rw [z]
      exact ⟨_, he, fun v q => by cases q⟩
    · rw [List.mem_singleton.mp z]
      exact ⟨o, ho, fun v q => by rw [hd] at q; cases q⟩
  keep := fun i h h1 st k => by
    obtain ⟨⟨old, he⟩, hi, hne⟩ := st
    exact ⟨⟨old, k e List.mem_cons_self _ he⟩, hi.at fun o q => k it (List.mem_cons_of_mem _ List.mem_cons_self) o q, hne⟩
  item := by
    intro X hP hw hK hc i pins s σ H E I hf st hg
    subst hP hw hK
    obtain ⟨⟨old, he⟩, hit, hne⟩ := st
    obtain ⟨xs, x, hq, hx⟩ := hg
    obtain ⟨its, rv, p, hz⟩ := I.list hq
    obtain ⟨u, hu, ru⟩ := rv.get hx
    have hel : e < s.heap.objs.size := Heap.lt_size he
    have hil : it < s.heap.objs.size := let ⟨_, q, _⟩ := hit; Heap.lt_size q
    have hla : a ≠ it := fun z => by
      obtain ⟨o1, q1, c1, _⟩ := hit
      obtain ⟨o2, q2, c2, _⟩ := p.isList
      rw [z, q1] at q2
      rw [← Option.some.inj q2, c1] at c2
      exact absurd c2 (by decide)
    have D := Draws.list (prog := X.prog) (w := X.w) (A := X.A.in1) (I.ok.hd hc) it a hla its.toArray
    have hef : e ∉ [it, a] := fun z => by
      rcases List.mem_cons.mp z with z | z
      · exact hne z
      · obtain ⟨o2, q2, c2, _⟩ := p.isList
        rw [← List.mem_singleton.mp z, he] at q2
        rw [← Option.some.inj q2] at c2
        exact absurd (show Value.type "enumerate" = Value.type "list" from c2) (by decide)
    have hlt : i < its.toArray.size := by
      rw [List.size_toArray, ← rv.length]
      exact (List.getElem?_eq_some_iff.mp hx).1
    refine wpAny_pyNext_enum_itemC D he ⟨hit, p.isList⟩ hlt hne hef fun y h1 tk hy ho st1 hT hsz hk => ?_
    have ey : y = u := by
      have h0 : its.toArray[i]? = some y := hy
      rw [List.getElem?_toArray, hu] at h0
      exact (Option.some.inj h0).symm
    subst ey
    refine ⟨_, rfl, wpAny_letOwnedTupleGo_enum (s := { s with heap := h1, toks := tk + 1 }) ho fun h2 he2 sb => ?_⟩
    have hT2 : h2.get? s.heap.objs.size = some { cls := .type "tuple", data := .seq #[.int (k0 + ((i : Nat) : Int)) tk, y] } := (sb.2 _ (Nat.ne_of_gt hel)).trans hT
    have new : ObjOk X.prog X.w (upd H s.heap.objs.size (.tup [.int (k0 + (i : Nat)), x])) h2 s.heap.objs.size (.tup [.int (k0 + (i : Nat)), x]) :=
      ⟨by show 2 ≤ sizeLine; decide, [.int (k0 + ((i : Nat) : Int)) tk, y], .cons ⟨_, rfl⟩ (.cons ru .nil), ⟨_, hT2, rfl, _, rfl⟩⟩
    have I1 : Inv X pins σ (upd H s.heap.objs.size (.tup [.int (k0 + (i : Nat)), x])) { s with heap := h2, toks := tk + 1 } :=
      I.turnedNew (ch := [e, it]) (fun b ob hb q => (sb.2 b (fun z => hb (by simp [z]))).trans (hk b ob (fun z => hb (by simp [z])) (fun z => hb (by simp [z])) q)) hf (Nat.le_refl _) new
    refine ⟨.ref s.heap.objs.size, _, I1, rfl, ⟨_, x, rfl, I.hok.fresh (Nat.le_refl _), rfl, fun ys hy2 => by rw [I.list_inj hy2 hq]; exact hx⟩, ⟨⟨y, ?_⟩, st1.1.at fun o q => (sb.2 it (Ne.symm hne)).trans q, hne⟩, fun b hb => ?_⟩
    · have e1 : k0 + ((i + 1 : Nat) : Int) = k0 + (i : Int) + 1 := by omega
      rw [e1]; exact he2
    · have hb2 : b < s.heap.objs.size := by
        rcases List.mem_cons.mp hb with z | z
        · rw [z]; exact hel
        · rw [List.mem_singleton.mp z]; exact hil
      rw [upd_ne (Nat.ne_of_lt hb2)]
      exact (hf b hb).1
  done := by
    intro X hP hw hK hc i pins s σ H E I hf st hg
    subst hP hw hK
    obtain ⟨⟨old, he⟩, hit, hne⟩ := st
    obtain ⟨xs, hq, hx⟩ := hg
    obtain ⟨its, rv, p, hz⟩ := I.list hq
    have hb : it ∈ [e, it] := List.mem_cons_of_mem _ List.mem_cons_self
    obtain ⟨f0, f1, f2, f3, f4, f5⟩ := hf it hb
    have hl := rv.length
    have hla : a ≠ it := fun z => by
      obtain ⟨o1, q1, c1, _⟩ := hit
      obtain ⟨o2, q2, c2, _⟩ := p.isList
      rw [z, q1] at q2
      rw [← Option.some.inj q2, c1] at c2
      exact absurd c2 (by decide)
    have D := Draws.list (prog := X.prog) (w := X.w) (A := X.A.in1) (I.ok.hd hc) it a hla its.toArray
    have ei : i = its.toArray.size := by
      rw [List.size_toArray, ← hl, hx]
    subst ei
    exact wpAny_pyNext_enum_endD D he ⟨hit, p.isList⟩ fun h1 eb => ⟨rfl, I.turned (t' := s.toks) (fun b o hb q => eb b o hb q) f0 f1 f3 f4 f5⟩
  self := fun A i s Q E st h => let ⟨⟨_, he⟩, _⟩ := st; wpAny_pyIter_enum he h
def iEnumK (K : PySem.W.Frag) (ta : TA) (tk : TE) : TI := fun σ H R => ta σ H fun vs H1 => tCons tk tNil σ H1 fun ws H2 => ∃ a xs k0, vs = [.ref a] ∧ ws = [.int k0] ∧ -(2 ^ 63) ≤ k0 ∧ k0 < 2 ^ 63 ∧ SqL K H2 a xs ∧ R (IteS K a k0) H2
theorem callType_kw {M : Model} {A : Around} {E : Value → Shared → Prop} {s : Shared} {env : Env} {pos : Pos} {T : String} {Q : Value → Shared → Prop} {e : Expr} {rest : List Expr} {kws : List Keyword} (hall : (backToKw pos (keywordEach kws env)).all (·.1.isSome) = true)
    (h : wpAny M A (spliced (backTo pos (starEach (e :: rest) env))) (fun vs s₁ => wpAny M A (evalAll ((backToKw pos (keywordEach kws env)).map (·.2))) (fun ks s₂ => wpAny M A (call (.type T) vs (((backToKw pos (keywordEach kws env)).filterMap (·.1)).zip ks)) Q E s₂) E s₁) E s)
    (hplain : ((backTo pos (starEach (e :: rest) env)).any (·.1) || (backToKw pos (keywordEach kws env)).any (·.1.isNone)) = false) (he : starEach (e :: rest) env = (false, eval e env) :: starEach rest env) :
    wpAny M A (callWith pos (.type T) [] (backTo pos (starEach (e :: rest) env)) (backToKw pos (keywordEach kws env))) Q E s := by
  unfold callWith
  refine wpAny_bind (wpAny_holding (wpAny_mono (evalArgs_kw2 (f := .type T) (Q := fun z s1 => wpAny M A (call (.type T) ([] ++ z.pos) z.kw) Q E s1) hall h he) (fun z s1 hz => wpAny_bind (wpAny_standAt ?_)) fun _ _ y => y))
  simp only [hplain]
  exact wpAny_bind (wpAny_pure (wpAny_bind (wpAny_mono hz (fun r s2 hr => wpAny_bind (wpAny_holding (wpAny_point (wpAny_pure hr)))) fun _ _ y => y)))
theorem pi_enumK {X : Cx} {e v : Expr} {ta : TA} {tk : TE} {p pos tpos kpos : Pos} {elts : List Expr} {kk : Nat} (hg : Gl X "enumerate") (hm : X.mg "enumerate" = none) (ha : PA X [e] ta) (hv : PE X v tk)
    (hs : starEach [e] X.env = [(false, eval e X.env)] := by rfl) : PI X (.Tuple elts kk tpos) (.Call (.Name "enumerate" p) [e] [⟨some "start", v, kpos⟩] pos) (iEnumK X.K ta tk) := by
  refine ⟨fun pins s σ H R I h => ?_⟩
  refine wpAny_Call_Name_kw (ld_blt I hg hm boot_enumerate ?_)
  refine callType_kw rfl (thn (ha.run pos pins s σ H _ I h) fun us s1 hh => ?_) (by rw [hs]; rfl) hs
  obtain ⟨vs, H1, I1, r1, q1⟩ := hh
  refine thn ((pk_cons hv pk_nil : PK X [⟨some "start", v, kpos⟩] (tCons tk tNil)).run pos pins s1 σ H1 _ I1 q1) fun ws s2 hh => ?_
  obtain ⟨ys, H2, I2, r2, a, xs, k0, ev, ek, b0, b1, hq, q⟩ := hh
  subst ev ek
  cases r1 with
  | cons r rr =>
    cases rr
    cases r
    cases r2 with
    | cons r3 rr =>
      cases rr
      obtain ⟨tt, rfl⟩ := r3
      obtain ⟨its, rv, p', hz⟩ := I2.list hq
      refine enum_begins_start (begins_list a its.toArray) p'.isList b0 b1 fun h1 he hit hsz hk => ?_
      refine wpAny_pyIter_enum he ?_
      have I3 : Inv X pins σ H2 { s2 with heap := h1 } := I2.kept (t' := s2.toks) hk
      have hli : h1.IsListIter s2.heap.objs.size a 0 := ⟨_, hit, rfl, rfl⟩
      have he0 : IsEnum h1 (s2.heap.objs.size + 1) s2.heap.objs.size (k0 + ((0 : Nat) : Int)) .none := by
        have e0 : k0 + ((0 : Nat) : Int) = k0 := by omega
        rw [e0]; exact he
      refine ⟨s2.heap.objs.size + 1, [s2.heap.objs.size + 1, s2.heap.objs.size], _, _, H2, rfl, I3, turn_enumS a (s2.heap.objs.size + 1) s2.heap.objs.size k0, ⟨⟨.none, he0⟩, hli, Nat.succ_ne_self _⟩, fun b hb => ?_, q⟩
      have hle : s2.heap.objs.size ≤ b := by
        rcases List.mem_cons.mp hb with z | z
        · rw [z]; exact Nat.le_succ _
        · rw [List.mem_singleton.mp z]; exact Nat.le_refl _
      exact I2.fpOk hle (I2.hok.fresh hle)
theorem walk_enumS {K : PySem.W.Frag} {a : Addr} {xs : List V} {k0 : Int} : Walk (IteS K a k0) xs.length (fun H => SqL K H a xs) (YPair (fun i => some (.int (k0 + (i : Nat)))) (fun i => xs[i]?)) := by
  refine ⟨fun i _ hi q => ⟨xs, xs[i], q, by simp [hi]⟩, fun _ q => ⟨xs, q, rfl⟩, fun i H v H1 _ q y => ?_⟩
  obtain ⟨T, x, h1, h2, h3, h4⟩ := y
  exact ⟨T, _, x, h1, h2, h3, rfl, h4 xs q⟩
end M

namespace M
open PySem PySem.Spec PyProof.Rows L2
/-! ### len(set(texts)) -/
/-- the different ones, each at its first place -/
def ddF (acc : List Str) (x : Str) : List Str := if x ∈ acc then acc else acc ++ [x]
def dd (xs : List Str) : List Str := xs.foldl ddF []
theorem dd_snoc (xs : List Str) (x : Str) : dd (xs ++ [x]) = ddF (dd xs) x := by
  unfold dd
  rw [List.foldl_append]
  rfl
theorem ddF_mem (x y : Str) (acc : List Str) : x ∈ ddF acc y ↔ x ∈ acc ∨ x = y := by
  unfold ddF
  by_cases h : y ∈ acc
  · rw [if_pos h]
    exact ⟨.inl, fun q => q.elim id fun e => e ▸ h⟩
  · rw [if_neg h]
    simp [List.mem_append]
theorem ddF_mems (x : Str) : ∀ (xs acc : List Str), x ∈ xs.foldl ddF acc ↔ x ∈ acc ∨ x ∈ xs
  | [], acc => by simp
  | y :: ys, acc => by
    rw [List.foldl_cons, ddF_mems x ys, ddF_mem]
    simp [or_assoc]
theorem dd_mem (x : Str) (xs : List Str) : x ∈ dd xs ↔ x ∈ xs := by
  unfold dd
  rw [ddF_mems]
  simp
theorem ddF_nodup {acc : List Str} (x : Str) (h : acc.Nodup) : (ddF acc x).Nodup := by
  unfold ddF
  by_cases e : x ∈ acc
  · rw [if_pos e]; exact h
  · rw [if_neg e]
    exact List.nodup_append.mpr ⟨h, by simp, fun a ha b hb => by rw [List.mem_singleton.mp hb]; exact fun q => e (q ▸ ha)⟩
theorem dd_self : ∀ (xs acc : List Str), (acc ++ xs).Nodup → xs.foldl ddF acc = acc ++ xs
  | [], acc, _ => by simp
  | y :: ys, acc, h => by
    have h1 : y ∉ acc := fun q => (List.nodup_append.mp h).2.2 y q y List.mem_cons_self rfl
    have e : ddF acc y = acc ++ [y] := by unfold ddF; rw [if_neg h1]
    rw [List.foldl_cons, e, dd_self ys (acc ++ [y]) (by rw [List.append_assoc]; exact h), List.append_assoc]
    rfl
theorem ddF_len (xs : List Str) : ∀ acc : List Str, (xs.foldl ddF acc).length ≤ acc.length + xs.length := by
  induction xs with
  | nil => intro acc; simp
  | cons y ys ih =>
    intro acc
    have h := ih (ddF acc y)
    have h2 : (ddF acc y).length ≤ acc.length + 1 := by
      unfold ddF
      split <;> simp
    rw [List.foldl_cons, List.length_cons]
    omega
theorem dd_len (xs : List Str) : (dd xs).length ≤ xs.length := by
  have := ddF_len xs []
  simpa [dd] using this
theorem dd_nodup_len {xs : List Str} (h : (dd xs).length = xs.length) : xs.Nodup := by
  suffices q : ∀ (ys acc : List Str), acc.Nodup → (ys.foldl ddF acc).length = acc.length + ys.length → (acc ++ ys).Nodup by
    have := q xs [] List.nodup_nil (by simpa [dd] using h)
    simpa using this
  intro ys
  induction ys with
  | nil => intro acc ha _; simpa using ha
  | cons y ys ih =>
    intro acc ha e
    have e1 : (ys.foldl ddF (ddF acc y)).length = acc.length + (ys.length + 1) := e
    have b := ddF_len ys (ddF acc y)
    by_cases hy : y ∈ acc
    · have e2 : ddF acc y = acc := by unfold ddF; rw [if_pos hy]
      rw [e2] at b e1
      omega
    · have e2 : ddF acc y = acc ++ [y] := by unfold ddF; rw [if_neg hy]
      rw [e2] at e1
      have n2 : (acc ++ [y]).Nodup := e2 ▸ ddF_nodup y ha
      have := ih (acc ++ [y]) n2 (by rw [e1, List.length_append]; simp; omega)
      rw [List.append_assoc] at this
      exact this
section
variable {prog : Program} {w : World} {A : Around} {R : Result → Shared → Prop} {J : Addr} {fp wr : List Addr} {G : Array GenState → Array GenState → Prop} {n : Nat} {Pq : Nat → Value → Prop} {St : Nat → Shared → Prop}
/-- what stands in the set behind i texts -/
abbrev HasTx (prog : Program) (w : World) (h : Heap) (S : Addr) (xs : List Str) (i : Nat) : Prop := h.SetOf (PySem.strKind prog w) S (fun k => decide (k ∈ dd (xs.take i))) (dd (xs.take i)).length
theorem HasTx.moved {h h1 : Heap} {S : Addr} {xs : List Str} {i : Nat} (q : HasTx prog w h S xs i) (k : ∀ o, h.get? S = some o → h1.get? S = some o) : HasTx prog w h1 S xs i := by
  obtain ⟨o, es, ep, t, ho, r⟩ := q
  exact ⟨o, es, ep, t, k o ho, r⟩
theorem loopTx (Wk : WalksS prog w A.in1 J fp wr G n Pq St) (S : Addr) (hSf : S ∉ fp) (xs : List Str) (hsz : xs.length = n) (hn1 : n < 4000) (hval : ∀ i v, Pq i v → ∃ t, v = .str (xs.getD i Str.empty) t) :
    ∀ (k i : Nat) (s : Shared), n - i = k → i ≤ n → St i s → HasTx prog w s.heap S xs i → (∀ s1, Moved (S :: wr) G s s1 → HasTx prog w s1.heap S xs n → R (.ok (.ret .none)) s1) →
      codeAny (model prog w) A (.builtin "set.update.loop" ⟨[.ref S, .ref J], []⟩) R s := by
  have hSw : S ∉ wr := fun h => hSf (Wk.sub _ h)
  intro k
  induction k with
  | zero =>
    intro i s hk hi st hS hR
    have e : i = n := by omega
    subst e
    refine codeAny_builtin PyProof.Rows.F.entry_set_update_loop ?_
    rw [Around.under_plainId PyProof.Rows.F.plain_set_update_loop _]
    show wpAny _ A.in1 (pyNext (.ref J) >>= _) _ _ s
    refine wpAny_bind (Wk.done s _ _ st fun s1 hm => ?_)
    exact wpAny_pure (hR s1 (hm.mono fun b hb => List.mem_cons_of_mem _ hb) (hS.moved fun o q => hm.heap S o hSw q))
  | succ k ih =>
    intro i s hk hi st hS hR
    have hlt : i < n := by omega
    have hlx : i < xs.length := by omega
    refine codeAny_builtin PyProof.Rows.F.entry_set_update_loop ?_
    rw [Around.under_plainId PyProof.Rows.F.plain_set_update_loop _]
    show wpAny _ A.in1 (pyNext (.ref J) >>= _) _ _ s
    refine wpAny_bind (Wk.item i s _ _ hlt st fun v s1 hP st1 hm => ?_)
    obtain ⟨t, rfl⟩ := hval i v hP
    have hS1 : HasTx prog w s1.heap S xs i := hS.moved fun o q => hm.heap S o hSw q
    show wpAny _ A.in1 (holding [Value.str (xs.getD i Str.empty) t] (setAdd S (.str (xs.getD i Str.empty) t)) >>= _) _ _ s1
    refine wpAny_bind (wpAny_holding ?_); unfold setAdd
    refine wpAny_holding (wpAny_bind ((PySem.strKind prog w).pyHash (k := xs.getD i Str.empty) (strKind_is _ _ _ _) ?_))
    have small : (dd (xs.take i)).length + 1 < scanBound := by
      have h1 := dd_len (xs.take i)
      rw [List.length_take] at h1
      unfold scanBound
      omega
    refine wpAny_setAddHashed_of (knd := PySem.strKind prog w) (s := { s1 with toks := s1.toks + 1 }) (strKind_is _ _ _ _) rfl hS1 small fun h2 hsb hS2 => ?_
    have et : xs.take (i + 1) = xs.take i ++ [xs.getD i Str.empty] := by
      rw [List.take_add_one, List.getElem?_eq_getElem hlx, List.getD_eq_getElem?_getD, List.getElem?_eq_getElem hlx]
      rfl
    have hSi : HasTx prog w h2 S xs (i + 1) := by
      refine PyProof.Rows.SetOf_congr hS2 (fun y => ?_) ?_
      · show (decide (y ∈ dd (xs.take i)) || decide (y = xs.getD i Str.empty)) = decide (y ∈ dd (xs.take (i + 1)))
        rw [et, dd_snoc, ← Bool.decide_or]
        exact decide_eq_decide.mpr (ddF_mem _ _ _).symm
      · rw [et, dd_snoc]
        unfold ddF
        by_cases q : xs.getD i Str.empty ∈ dd (xs.take i)
        · rw [if_pos q, decide_eq_true q, if_pos rfl]
        · rw [if_neg q, decide_eq_false q, if_neg Bool.false_ne_true, List.length_append]
          all_goals rfl
    refine wpAny_pure ⟨plainId_quiet PyProof.Rows.F.plain_set_update_loop _, ih (i + 1) _ (by omega) hlt (Wk.frame _ s1 _ _ st1 (Nat.le_succ _) fun b hb o e => ?_) hSi fun s3 hm3 hS3 => ?_⟩
    · rw [hsb.2 b (fun q : b = S => hSf (by rw [← q]; exact hb))]; exact e
    · refine hR s3 (Moved.trans Wk.gtrans ((hm.mono fun b hb => List.mem_cons_of_mem _ hb).then_heap (Nat.le_succ _) fun b o hb e => ?_) hm3) hS3
      rw [hsb.2 b (fun q : b = S => hb (by rw [q]; exact List.mem_cons_self))]; exact e
theorem set_of_texts {A : Around} {E : Value → Shared → Prop} {s : Shared} {l : Addr} {items : Array Value} {xs : List Str} {Q : Value → Shared → Prop} (hh : A.handled = none) (hl : s.heap.IsList l items) (hi : PyProof.Rows.StrsAre items.toList xs) (hn1 : xs.length < 4000)
    (h : ∀ (h1 : Heap) (tk : Nat), HasTx prog w h1 s.heap.objs.size xs xs.length → (∀ b o, b < s.heap.objs.size → s.heap.get? b = some o → h1.get? b = some o) → Q (.ref s.heap.objs.size) { s with heap := h1, toks := tk }) : wpAny (model prog w) A (call (.type "set") [.ref l]) Q E s := by
  have hsz : xs.length = items.size := by rw [← StrsAre.len_eq hi, Array.length_toList]
  obtain ⟨c, tl, hmro⟩ := PySem.F.called_set.mro; have hmade := PySem.F.called_set.made; have hsub := PySem.F.called_set.sub
  refine wpAny_call (codeAny_of_tree ?_); show wpAny _ _ (callAny (.type "set") _) _ _ _
  refine wpAny_pure ⟨Code.quiet_builtin _ (by decide +kernel), codeAny_builtin PySem.F.entry_type_call ?_⟩; rw [Around.under_plain (weight_type_call_type "set" [.ref l] []) rfl]
  have f1 := PySem.F.called_set.notType; have f2 := PySem.F.called_set.canCreate; have f3 := PySem.F.typeCall_set_1 (.ref l)
  repeat (any_goals (first | assumption | wp_step))
  let N0 (led : Bool) : Obj := { cls := .type "set", dict := none, data := .set #[] 0 (.fresh 0 0 led) }
  refine codeAny_mono (code_set_new_1 (.ref l) (E := E) (Q₁ := fun obj s1 => ∃ led : Bool, obj = .ref s.heap.objs.size ∧ s1 = { s with heap := s.heap.push (N0 led) }) fun led => ⟨led, rfl, rfl⟩) fun r s1 hr => ?_
  cases r with
  | error e => exact hr
  | ok fl =>
    cases fl with
    | ret obj =>
      obtain ⟨led, rfl, rfl⟩ := hr
      have hS : (s.heap.push (N0 led)).get? s.heap.objs.size = some (N0 led) := Heap.get?_push_size _ rfl
      have hT : Shared.TypeIs { s with heap := s.heap.push (N0 led) } (.ref s.heap.objs.size) "set" := ⟨_, hS, rfl⟩
      have f4 := PySem.F.called_set.init.lookup; have f5 := PySem.F.called_set.init.bind (.ref s.heap.objs.size)
      repeat (any_goals (first | assumption | wp_step))
      refine codeAny_mono (codeAny_call_builtin (R := wants (fun r s2 => r = .none ∧ ∃ h1 tk, s2 = { s with heap := h1, toks := tk } ∧ HasTx prog w h1 s.heap.objs.size xs xs.length ∧ ∀ b o, b < s.heap.objs.size → s.heap.get? b = some o → h1.get? b = some o) E) PySem.F.called_set.init.plain PySem.F.entry_set_init (check_set_init_1 hT ?_)) fun r2 s2 hr2 => ?_
      · obtain ⟨⟨oc, od, dt, sl⟩, hol, hcl, nl, hdl⟩ := hl
        simp only at hcl hdl; subst hcl hdl
        have hol2 : (s.heap.push (N0 led)).get? l = some { cls := .type "list", dict := od, data := .seq items nl, slots := sl } := Heap.get?_push_of_some _ hol
        have g1 := PySem.F.sub_list_set; have g2 := PySem.F.sub_list_frozenset; have g3 : (Value.type "list" == Value.type "dict") = false := by decide
        have hl1 : (s.heap.push (N0 led)).IsList l items := ⟨_, hol2, rfl, nl, rfl⟩
        unfold Builtin.«set.__init__» noKeywords Builtin.Frozenset.updateFrom
        generalize hPI : pyIter = PI
        wp_walk
        subst hPI
        refine wpAny_pyIter_list hl1 (wpAny_bind (wpAny_runValue ?_))
        have lS : l < s.heap.objs.size := Heap.lt_size hol
        have hh3 : A.in1.in1.in1.handled = none := by simp [hh]
        have lI : l ≠ (s.heap.push (N0 led)).objs.size := by rw [Heap.size_push]; exact Nat.ne_of_lt (Nat.lt_succ_of_lt lS)
        have hSf : s.heap.objs.size ∉ [(s.heap.push (N0 led)).objs.size, l] := by
          rw [Heap.size_push]
          intro z
          rcases List.mem_cons.mp z with z | z
          · exact Nat.ne_of_lt (Nat.lt_succ_self _) z
          · exact Nat.ne_of_gt lS (List.mem_singleton.mp z)
        have hval : ∀ (i : Nat) (v : Value), items[i]? = some v → ∃ t, v = .str (xs.getD i Str.empty) t := fun i v hv => SS.strs_at hi i v (by rw [Array.getElem?_toList]; exact hv)
        refine loopTx (n := items.size) ((Walks.list hh3 _ l lI items).toS) s.heap.objs.size hSf xs hsz (by rw [← hsz]; exact hn1) hval (items.size - 0) 0 _ (by omega) (Nat.zero_le _) ⟨⟨_, Heap.get?_push_size _ rfl, rfl, rfl⟩, (hl1.push _)⟩ ?c1 ?c2
        case c1 => exact PyProof.Rows.SetOf_congr ((PyProof.Rows.setObjOf_fresh (knd := PySem.strKind prog w) led).setOf (Heap.get?_push_of_some _ hS) (by unfold scanBound; omega)) (fun _ => rfl) rfl
        case c2 =>
          intro s3 hm hS3
          rw [← hsz] at hS3
          obtain ⟨h3, g3', d3, tk3, os3⟩ := s3
          have eg : g3' = s.gens := hm.gens; have ed : d3 = s.drawn := hm.drawn; have eo : os3 = s.os := hm.os
          subst eg ed eo
          show wpAny _ _ _ _ _ _
          refine wpAny_pure ?_
          show wpAny _ _ (ret Value.none) _ _ _
          refine wpAny_pure ⟨rfl, h3, tk3, rfl, hS3, fun b o hb e => hm.heap b o (fun z => ?_) (Heap.get?_push_of_some _ (Heap.get?_push_of_some _ e))⟩
          rcases List.mem_cons.mp z with z | z
          · exact Nat.ne_of_lt hb z
          · have z2 := List.mem_singleton.mp z
            rw [Heap.size_push] at z2
            exact Nat.ne_of_lt (Nat.lt_succ_of_lt hb) z2
      · cases r2 with
        | error e => exact hr2
        | ok fl2 =>
          cases fl2 with
          | ret r =>
            obtain ⟨rfl, h1, tk, rfl, hS3, hk3⟩ := hr2
            repeat (any_goals (first | assumption | wp_step))
            exact h _ _ hS3 hk3
          | _ => exact hr2.elim
    | _ => exact hr.elim
end
/-- len(set(xs)), xs a list of texts -/
def tLenTx (K : PySem.W.Frag) (ta : TE) : TE := fun σ H Q => ta σ H fun x H1 => ∃ (l : Addr) (xs : List Str), x = .ref l ∧ SqL K H1 l (xs.map V.str) ∧ xs.length < 4000 ∧ Q (.int ((dd xs).length : Nat)) H1
theorem pe_lenTx {X : Cx} {a : Expr} {ta : TE} {p p2 q pos : Pos} (hc : X.calm = true) (hg : Gl X "len") (hm : X.mg "len" = none) (hg2 : Gl X "set") (hm2 : X.mg "set" = none) (ha : PE X a ta)
    (na : starEach [a] X.env = (false, eval a X.env) :: starEach [] X.env := by rfl) : PE X (.Call (.Name "len" p) [.Call (.Name "set" p2) [a] [] q] [] pos) (tLenTx X.K ta) := by
  refine ⟨fun pins s σ H Q I h => ?_⟩
  refine Call_ (ld_blt I hg hm boot_len (PyProof.Rows.callWith_builtin1 (PyProof.Rows.args_cons ?_ rfl) rfl rfl))
  refine Call_ (ld_blt I hg2 hm2 boot_set (PyProof.Rows.callWith_type1 (PyProof.Rows.args_cons (thn (ha.run pins s σ H _ I h) fun v s1 hh => PyProof.Rows.args_nil ?_) na) na rfl))
  obtain ⟨x, H1, I1, r1, l, xs, rfl, hq, hl, q1⟩ := hh
  cases r1
  obtain ⟨its, r, pl, hz⟩ := I1.list hq
  refine set_of_texts (I1.ok.hd hc) pl.isList (by simpa using L2.strsAre_of r) hl fun h1 tk hS hk => PyProof.Rows.args_nil ?_
  rw [HasTx, List.take_length] at hS
  obtain ⟨o, es, ep, t, ho, hex, hd, _, _, hb, hf, hn⟩ := hS
  have I2 : Inv X pins σ H1 { s1 with heap := h1, toks := tk } := I1.kept fun b o e => hk b o (Heap.lt_size e) e
  exact call_len_set ho hex hd hf (by unfold scanBound at hb; omega) ⟨.int ((dd xs).length : Nat), H1, I2.tok _, ⟨_, by rw [hn]⟩, q1⟩
end M

namespace M
open PySem PySem.Spec PyProof.Rows L2
/-! ### defs that are called where no repr runs -/
structure FnG (P : Program) (w : World) (K : PySem.W.Frag) (mg : Str → Option Value) (base : Heap) (k : Nat) (f : Addr) (fd : FuncData) (ps : List Str) (sp : Sp) : Prop where
  len : ∀ vs H Q E, sp vs H Q E → vs.length = ps.length
  go : ∀ (A : Around) (outer : List Env) (s : Shared) (H : Hp) (args : Args) (us : List Value) (vs : List V) (Q : VK) (E : XK), A.guards = some [] → Room k A → Env0 P w K mg base A outer s H → BindsTo s fd args (ps.zip us) → Vals vs us → sp vs H Q E →
    codeAny (model P w) A (.call (.ref f) args) (CR CX0 outer P w H s Q E) s
section
variable {P : Program} {w : World} {K : PySem.W.Frag} {mg : Str → Option Value} {base : Heap} {x qual : Str} {params : Arguments} {body : List Stmt} {scope : Scope} {dvs : List V} {kws : List (Str × V)} {f : Addr} {fd : FuncData}
theorem FnG.mk2 {N ps : List Str} {k : Nat} {sp : Sp} (F : FunD K x qual params body scope dvs kws f fd) (S : FnScope N ps scope) (len : ∀ vs H Q E, sp vs H Q E → vs.length = ps.length)
    (hbody : ∀ (cdv : Value) (A : Around) (outer : List Env) (s : Shared) (H : Hp) (vs : List V) (Q : VK) (E : XK), A.guards = some [] → Room k (A.deeper (envOfC qual scope s.heap.objs.size f cdv)) → sp vs H Q E →
      ∃ t, PSs (cxOf CX0 P w K mg base N qual scope f cdv A outer s H E) body t ∧ t { nx := fun _ H1 => Q .non H1, rt := Q } (start N vs) H) : FnG P w K mg base (k + 1) f fd ps sp := by
  refine ⟨len, fun A outer s H args us vs Q E hgd hr e0 hb r hsp => ?_⟩
  obtain ⟨oc, od, dV, kV, doc, pm, an, cdv, ct, osl, rfl, lk, hcd, _, _⟩ := F.ex
  have hl := len _ _ _ _ hsp; have KX : K.In s.heap := e0.mod.kin.keeps fun b o e => (e0.bs b o e).1; have lim : s.heap.NoLimit := e0.mod.nolimit.keeps fun b o e => (e0.bs b o e).1
  have hk : ∀ y ∈ ps.zip us, scope.names.lookup y.1 = some .local ∨ (scope.names.lookup y.1 = some .cell ∧ ((cellsFrom (s.heap.objs.size + 1) scope.names []).lookup y.1).isSome = true) := fun y hy => by
    rcases S.par y.1 (List.of_mem_zip (a := y.1) (b := y.2) hy).1 with q | q
    · exact .inl q
    · exact .inr ⟨q, PySem.W.cellsFrom_some _ _ _ (.inl q)⟩
  refine codeAny_call_function hr.depth (KX _ _ lk) rfl S.co S.gen rfl (PySem.W.codeRec_of KX hcd) (hb _ _ _ _ (wpAny_newFunctionEnv_cells S.kind hk fun env he s1 z => ?_))
  subst he
  refine ⟨lim.keeps z.toInCall.keep, codeAny_func ?_⟩
  obtain ⟨t, ht, hq⟩ := hbody cdv A outer s H vs Q E hgd (hr.deeper _) hsp
  have I := inv_start (CX := CX0) (E := E) (N := N) (qual := qual) S hr.hd e0 hl r z
  refine wpAny_mono (ht.run [] s1 (start N vs) H _ I hq) (fun fl s2 hs => ?_) fun e s2 hs => hs
  have fin : ∀ {σ1 : L2.St} {H1 : Hp} {v : V} {u : Value}, Inv (cxOf CX0 P w K mg base N qual scope f cdv A outer s H E) [] σ1 H1 s2 → RelV v u → Q v H1 → CE outer P w H s Q u s2 := fun {σ1 H1 v u} J rv q => ⟨v, H1, J.os, J.bare, J.base, J.hok, rv, q⟩
  cases fl with
  | ret u => obtain ⟨v, σ1, H1, J, rv, q⟩ := hs; exact fin J rv q
  | next => obtain ⟨σ1, H1, J, q⟩ := hs; exact fin (v := V.non) (u := Value.none) J rfl q
  | brk => obtain ⟨_, _, _, q⟩ := hs; exact False.elim q
  | cont => obtain ⟨_, _, _, q⟩ := hs; exact False.elim q
end
structure CalG (P : Program) (w : World) (K : PySem.W.Frag) (mg : Str → Option Value) (base : Heap) (x : Str) (k : Nat) (sp : Sp) : Prop where
  ex : ∃ (f : Addr) (fd : FuncData) (ps : List Str), FnG P w K mg base k f fd ps sp ∧ mg x = some (.ref f) ∧ PySem.W.keepIn K (.ref f) = true ∧ Binds K fd ps []
theorem pe_fcG {X : Cx} {k : Nat} {sp : Sp} {x : Str} {p pos : Pos} {e : Expr} {es : List Expr} {t : TA} (G : CalG X.prog X.w X.K X.mg X.base x k sp) (hgd : X.A.guards = some []) (hr : Room k X.A) (hg : Gl X x) (ha : PA X (e :: es) t) (hdb : (x == ("__debug__" : Str)) = false := by decide)
    (he : starEach (e :: es) X.env = (false, eval e X.env) :: starEach es X.env := by rfl) (hpl : (backTo pos (starEach es X.env)).any (·.1) = false := by rfl) : PE X (.Call (.Name x p) (e :: es) [] pos) (tF sp t) := by
  obtain ⟨f, fd, ps, F, hm, hk, hb⟩ := G.ex
  refine ⟨fun pins s σ H Q I h => ?_⟩
  refine wpAny_Call_Name_kw (ld_glob I hg hm (PySem.W.callWith_K (h₀ := X.base) I.ok.mod.kin hk (thn (ha.run pos pins s σ H _ I h) fun us s1 hh => ?_) he hpl) hdb)
  obtain ⟨vs, H1, I1, r, q⟩ := hh
  refine ⟨I1.kIn, ?_⟩
  have hl : (us ++ []).length = ps.length := by
    rw [List.append_nil, ← r.length]
    exact F.len _ _ _ _ q
  have b := hb s1 us I1.kIn hl
  rw [List.append_nil] at b
  show wpAny _ _ (call (.ref f) us) _ _ _
  refine wpAny_call (codeAny_mono (F.go X.A X.stack s1 H1 ⟨us, []⟩ us vs Q E0 hgd hr I1.env0 b r q) fun rr s2 hq => ?_)
  cases rr with
  | error e => exact (pass0 (X := X)) pins σ H1 s1 e s2 I1 hq
  | ok fl =>
    cases fl with
    | ret u => exact I1.after hq
    | next => exact hq.elim
    | brk => exact hq.elim
    | cont => exact hq.elim
/-! ### repr -/
def aRepr (K : PySem.W.Frag) : List V → Hp → VK → Prop := fun xs H Q => (∃ i, xs = [.int i] ∧ i.natAbs.log2 < 1920 ∧ Q (.str (toString i)) H) ∨ (∃ b : Bool, xs = [.bl b] ∧ Q (.str (if b then "True" else "False")) H) ∨
  ∃ a d, xs = [.ref a] ∧ Dp K H (.ref a) d ∧ d.showable = true ∧ d.hasDict = false ∧ d.depth ≤ 50 ∧ d.shown.length ≤ sizeLine ∧ Q (.str d.shown) H
theorem oRepr {X : Cx} (hu : X.A.units + 64 < cLine) (hgd : X.A.guards = some []) : CallR X (.builtin "repr") (aRepr X.K) := by
  intro pins s σ H xs us Q I r h
  rcases h with ⟨i, rfl, hz, q⟩ | ⟨b, rfl, q⟩ | ⟨a, d, rfl, hd, h1, h2, h3, h4, q⟩
  · exact SkE.call_repr_int pins s σ H _ us Q I r ⟨i, rfl, hz, q⟩
  · obtain ⟨u, rfl, r1⟩ := vals1 r
    cases r1
    exact call_repr_gives (PySem.typeIs_bool s b) F.slot_bool_repr F.entry_bool_repr (F.args_bool_repr_1 _) (gives_bool_repr b) ⟨.str _, H, I.tok _, ⟨_, rfl⟩, q⟩ rfl (by cases b <;> decide)
  · obtain ⟨u, rfl, r1⟩ := vals1 r
    cases r1
    obtain ⟨as, rd⟩ := Dp.reads I d _ _ hd rfl
    exact repr_of_reads' rd h1 (fun q => by rw [h2] at q; cases q) hgd (by omega) (fun b o e => e) (fun h1 u tk k => ⟨.str _, H, I.kept k, ⟨_, rfl⟩, q⟩) h4
end M

namespace M
open PySem PySem.Spec PyProof.Rows L2
/-! ### the law's own call -/
theorem law_go {P : Program} {w : World} {K : PySem.W.Frag} {mg mb : Str → Option Value} {k : Nat} {fa a : Addr} {fd : FuncData} {x : Str} {sp : Sp} {s : Shared} {vs : List Value} {ns : List Int} (KX : K.In s.heap) (hns : s.heap.Ns mainGlobals mg) (hb : s.heap.Ns builtinsNs mb) (hbb : ∀ x : Str, x ≠ "__name__" → mb x = bootBuiltins x) (hlim : s.heap.NoLimit) (hg : s.gens = #[])
    (ha : s.heap.get? a = some { cls := .type "list", data := .seq vs.toArray }) (hi : IntsAre vs ns) (hl : ns.length ≤ sizeLine) (hr : Room k callerA) (F : ∀ base : Heap, K.In base → base.Ns mainGlobals mg → FnG P w K mg base k fa fd [x] sp) (hbind : ∀ (s : Shared) (u : Value), BindsTo s fd ⟨[u], []⟩ [(x, u)])
    (hsp : ∀ H : Hp, SqL K H a (ns.map V.int) → sp [.ref a] H (fun v _ => v = .bl true) E0) :
    codeAny (model P w) callerA (.call (.ref fa) ⟨[.ref a], []⟩) (fun r s1 => r = .ok (.ret (.bool true)) ∧ OldK s.heap s1.heap ∧ s1.os = s.os ∧ AllBare s1.gens) s := by
  have rv := vals_ints hi; have lenV := hi.length
  have main : ∀ H : Hp, (∀ b u, H b = some u → b = a ∧ ∃ o xs, u = .frz o (.lst xs)) → SqL K H a (ns.map V.int) → HOk P w H s.heap → (H a ≠ none → K.lookup a = none) →
      codeAny (model P w) callerA (.call (.ref fa) ⟨[.ref a], []⟩) (fun r s1 => r = .ok (.ret (.bool true)) ∧ OldK s.heap s1.heap ∧ s1.os = s.os ∧ AllBare s1.gens) s := by
    intro H hO hS hok hK
    have free : ∀ {b : Addr} {o : Obj} {es : Array DictEntry} {ep : Nat}, s.heap.get? b = some o → o.data = .dict es ep → H b = none := fun {b o es ep} e d => by
      cases q : H b with
      | none => rfl
      | some u =>
        rw [(hO b u q).1, ha] at e
        rw [← Option.some.inj e] at d
        cases (show Data.seq vs.toArray _ = Data.dict es ep from d)
    have nsK : ∀ {b : Addr} {m : Str → Option Value}, s.heap.Ns b m → (hidT s.heap H).Ns b m := fun {b m} q => let ⟨o, es, ep, e, d, r⟩ := q; ⟨o, es, ep, hidT_get e (free e d), d, r⟩
    have hKb : K.In (hidT s.heap H) := fun b o e => hidT_get (KX b o e) (by
      cases q : H b with
      | none => rfl
      | some u =>
        have eb := (hO b u q).1
        subst eb
        have := hK (by rw [q]; exact nofun)
        rw [this] at e
        cases e)
    have e0 : Env0 P w K mg (hidT s.heap H) callerA [] s H := ⟨rfl, ⟨hKb, nsK hns, ⟨mb, nsK hb, hbb⟩, let ⟨mc, h1, h2⟩ := hlim; ⟨mc, nsK h1, h2⟩⟩, fun b o e => of_hidT e, Nat.le_of_eq (hidT_size _ _), trivial, (fun b hb => by cases hb), hok, .of_eq hg⟩
    refine codeAny_mono ((F _ hKb (nsK hns)).go callerA [] s H ⟨[.ref a], []⟩ [.ref a] [.ref a] _ _ rfl hr e0 (hbind s (.ref a)) (.cons rfl .nil) (hsp H hS)) fun r s1 h => ?_
    cases r with
    | error e => exact False.elim h
    | ok fl =>
      cases fl with
      | next => exact False.elim h
      | brk => exact False.elim h
      | cont => exact False.elim h
      | ret u =>
        obtain ⟨v, H1, os, bare, un, hok1, r1, q⟩ := h
        subst q
        obtain rfl : u = Value.bool true := r1
        refine ⟨rfl, OldK.of_keep fun b o e => ?_, os, bare⟩
        cases q : H b with
        | none => exact un.keep b o e q nofun nofun
        | some u =>
          obtain ⟨_, ob, xs, z⟩ := hO b u q
          subst z
          obtain ⟨e1, _⟩ := hok b _ q
          obtain ⟨e2, _⟩ := hok1 b _ (un.frzs b ob _ q)
          rw [e] at e1
          rw [Option.some.inj e1]; exact e2
  cases hk : K.lookup a with
  | some o =>
    have e := KX a o hk
    rw [ha] at e
    have e2 := Option.some.inj e
    subst e2
    exact main (fun _ => none) (fun b u z => nomatch z) (.inr ⟨_, vs.toArray, _, hk, rfl, rfl, rfl, by rw [List.size_toArray, lenV]; exact hl, by simpa using rv⟩) (fun b u z => nomatch z) (fun z => absurd rfl z)
  | none =>
    let Hs : Hp := fun b => if b = a then some (.frz { cls := .type "list", data := .seq vs.toArray } (.lst (ns.map V.int))) else none
    have at_ : ∀ b u, Hs b = some u → b = a ∧ u = .frz { cls := .type "list", data := .seq vs.toArray } (.lst (ns.map V.int)) := fun b u z => by
      by_cases h : b = a
      · have z2 : Hs b = some (.frz { cls := .type "list", data := .seq vs.toArray } (.lst (ns.map V.int))) := if_pos h
        rw [z2] at z
        exact ⟨h, (Option.some.inj z).symm⟩
      · have z2 : Hs b = none := if_neg h
        rw [z2] at z
        cases z
    refine main Hs (fun b u z => ⟨(at_ b u z).1, _, _, (at_ b u z).2⟩) (.inl (.inr ⟨_, if_pos rfl⟩)) (fun b u z => ?_) fun _ => hk
    obtain ⟨h1, h2⟩ := at_ b u z
    subst h1 h2
    exact ⟨ha, by rw [List.length_map]; exact hl, vs, _, rv, ha⟩
theorem walk_go {l : PySem.W.OpenLaw} {n k : Nat} {q : Program} {loose : List Str} {XP : (Str → Option Value) → Heap → Prop} {YP : World → Heap → Prop} {d : DefRec} {x : Str} (hn : l.most = some n) (hn2 : n ≤ sizeLine) (hdf : d.params.defaults = []) (hr : Room k callerA)
    (F : ∀ (w : World) (mg : Str → Option Value) (fa : Addr) (h : Heap), YP w h → h.Ns mainGlobals mg → mg d.name = some (.ref fa) → ∃ (K : PySem.W.Frag) (fd : FuncData) (sp : Sp), K.In h ∧ (∀ (s : Shared) (u : Value), BindsTo s fd ⟨[u], []⟩ [(x, u)]) ∧
        (∀ (H : Hp) (a : Addr) (ns : List Int), ns.length ≤ n → SqL K H a (ns.map V.int) → sp [.ref a] H (fun v _ => v = .bl true) E0) ∧ ∀ base : Heap, K.In base → base.Ns mainGlobals mg → FnG l.prog w K mg base k fa fd [x] sp) :
    PySem.W.WalkO q loose XP YP l.row.toRowW d [] (fun f vs => PySem.call f vs) := by
  refine Att.attach_call hn hdf fun w s0 s1 mg mb fa o pm cd doc a vs ns G Y ho hd hcd hmg hobj hints hlen hg => ?_
  obtain ⟨K, fd, sp, KX, hb, hsp, hF⟩ := F w mg fa _ Y G.T.g hmg
  exact law_go KX G.T.g G.T.b G.T.builtins G.T.nolimit hg hobj hints (Nat.le_trans hlen hn2) hr hF hb (fun H hS => hsp H a ns hlen hS)
end M

namespace M
open PySem PySem.Spec PyProof.Rows L2
structure EqCal (P : Program) (w : World) (K : PySem.W.Frag) (mg : Str → Option Value) (base : Heap) (f : Addr) (k : Nat) (sp : Sp) : Prop where
  ex : ∃ (fd : FuncData) (ps : List Str), FnOk P w K mg base CX0 k f fd ps sp ∧ PySem.W.isFn K (.ref f) = true ∧ Binds K fd ps []
theorem oOwnC {X : Cx} {k : Nat} {f : Addr} {sp : Sp} (G : EqCal X.prog X.w X.K X.mg X.base f k sp) (hr : Room k X.A) (hu : X.A.units < cLine) : OpR X (compareOp .Eq) (aOwn X.K f sp) := by
  obtain ⟨fd, ps, F, hf, hb⟩ := G.ex
  exact oOwn F hf hb hr hu
theorem hU0 {n : Nat} (h : n + 64 < cLine) : n < cLine := Nat.lt_of_le_of_lt (Nat.le_add_right _ _) h
end M
namespace M
open PySem PySem.Spec PyProof.Rows L2
/-! ### a list, != [] -/
def aNe0 (K : PySem.W.Frag) : R2 := fun x y H Q => ∃ a xs b, x = .ref a ∧ y = .ref b ∧ SqL K H a xs ∧ SqL K H b [] ∧ Q (.bl (!xs.isEmpty)) H
theorem oNe0 {X : Cx} (hu : X.A.units < cLine) : OpR X (compareOp .NotEq) (aNe0 X.K) := by
  intro pins s σ H x y v u Q I rx ry h
  obtain ⟨a, xs, b, rfl, rfl, hx, hy, q⟩ := h
  cases rx
  cases ry
  obtain ⟨its, r, p, _⟩ := I.list hx
  obtain ⟨jts, r2, p2, _⟩ := I.list hy
  cases r2
  cases r with
  | nil =>
    exact SeqAt.RcNeAt.lists (e := fun _ => true) p.isList p2.isList rfl hu (fun j h1 _ => by simp at h1) X.prog X.w X.xe _ ⟨.bl false, H, I, rfl, q⟩
  | cons _ _ =>
    exact SeqAt.RcNeAt.lists_lengths p.isList p2.isList (by simp) hu X.prog X.w X.xe _ ⟨.bl true, H, I, rfl, q⟩
end M

namespace M
open PySem PySem.Spec PyProof.Rows L2
/-! ### what stands still: a ghost G below the heap H; S may be turned, the rest stands, G grows -/
structure Us (S : Addr → Prop) (G H G' H' : Hp) : Prop where
  gg : Same G G'
  gh : Same G' H'
  hh : ∀ a o, ¬ S a → H a = some o → H' a = some o
  nw : ∀ a, G a = none → H a ≠ none → G' a = none ∧ H' a ≠ none
def No : Addr → Prop := fun _ => False
def On (b : Addr) : Addr → Prop := fun a => a = b
theorem Same.ne_none {H H' : Hp} (e : Same H H') {a : Addr} (h : H a ≠ none) : H' a ≠ none := by
  cases q : H a with
  | none => exact absurd q h
  | some o => rw [e a o q]; exact nofun
section
variable {S S' : Addr → Prop} {G H G' H' G1 H1 G2 H2 : Hp} {p a b : Addr} {o o' : HO}
theorem Us.refl (g : Same G H) : Us S G H G H := ⟨Same.refl _, g, fun _ _ _ h => h, fun _ h q => ⟨h, q⟩⟩
theorem Us.trans (x : Us S G H G1 H1) (y : Us S G1 H1 G2 H2) : Us S G H G2 H2 :=
  ⟨x.gg.trans y.gg, y.gh, fun a o n h => y.hh a o n (x.hh a o n h), fun a h1 h2 => let ⟨q1, q2⟩ := x.nw a h1 h2; y.nw a q1 q2⟩
theorem Us.sub (x : Us S G H G' H') (s : ∀ a, S a → S' a) : Us S' G H G' H' := ⟨x.gg, x.gh, fun a o n h => x.hh a o (fun q => n (s a q)) h, x.nw⟩
theorem Us.any (x : Us No G H G' H') : Us S G H G' H' := x.sub fun _ h => h.elim
theorem Us.sm (x : Us No G H G' H') : Same H H' := fun a o h => x.hh a o (fun h => h) h
/-- nothing was changed -/
theorem Us.same (g : Same G H) (e : Same H H') : Us S G H G H' := ⟨Same.refl _, g.trans e, fun a o _ h => e a o h, fun a h1 h2 => ⟨h1, Same.ne_none e h2⟩⟩
/-- the ghost grew -/
theorem Us.grow (g : Same G1 H') (e : Same H H') (gg : Same G G1) (nw : ∀ a, G a = none → H a ≠ none → G1 a = none) : Us S G H G1 H' := ⟨gg, g, fun a o _ h => e a o h, fun a h1 h2 => ⟨nw a h1 h2, Same.ne_none e h2⟩⟩
theorem Same.upd2 (g : Same G H) (p : Addr) (o : HO) : Same (upd G p o) (upd H p o) := fun a u h => by
  by_cases e : a = p
  · subst e; rw [upd_same] at h ⊢; exact h
  · rw [upd_ne e] at h ⊢; exact g a u h
/-- a new thing that stands still -/
theorem Us.new (g : Same G H) (o : HO) (hp : H p = none) : Us S G H (upd G p o) (upd H p o) :=
  Us.grow (Same.upd2 g p o) (Same.new hp) (Same.new (g.free hp)) fun a h1 h2 => by rw [upd_ne (fun e => h2 (by rw [e]; exact hp))]; exact h1
/-- a new thing, to be turned -/
theorem Us.newM (g : Same G H) (o : HO) (hp : H p = none) : Us S G H G (upd H p o) := Us.same g (Same.new hp)
/-- a thing that G does not know is turned -/
theorem Same.mut (g : Same G H) (o : HO) (hp : G p = none) : Same G (upd H p o) := fun a u h => by
  rw [upd_ne (ne_of_none h hp)]
  exact g a u h
theorem upd_nn (h : H a ≠ none) : (upd H p o) a ≠ none := by
  by_cases e : a = p
  · subst e; rw [upd_same]; exact nofun
  · rw [upd_ne e]; exact h
theorem Us.turn (u : Us S G H G' H') (o : HO) (hs : S p) (hp : G' p = none) : Us S G H G' (upd H' p o) :=
  ⟨u.gg, Same.mut u.gh o hp, fun a o n h => by rw [upd_ne (fun e => n (by rw [e]; exact hs))]; exact u.hh a o n h, fun a h1 h2 => let ⟨q1, q2⟩ := u.nw a h1 h2; ⟨q1, upd_nn q2⟩⟩
/-- a thing made since H is turned -/
theorem Us.turnN (u : Us S G H G' H') (o : HO) (hn : H p = none) (hp : G' p = none) : Us S G H G' (upd H' p o) :=
  ⟨u.gg, Same.mut u.gh o hp, fun a o n h => by rw [upd_ne (ne_of_none h hn)]; exact u.hh a o n h, fun a h1 h2 => let ⟨q1, q2⟩ := u.nw a h1 h2; ⟨q1, upd_nn q2⟩⟩
/-- a thing made since H stands still from now on -/
theorem Us.fix (u : Us S G H G' H') (hn : H p = none) (hp : G' p = none) (ho : H' p = some o) : Us S G H (upd G' p o) H' :=
  ⟨u.gg.trans (Same.new hp), fun a q h => by
    by_cases e : a = p
    · subst e; rw [upd_same] at h; rw [← h]; exact ho
    · rw [upd_ne e] at h; exact u.gh a q h, u.hh, fun a h1 h2 => let ⟨q1, q2⟩ := u.nw a h1 h2; ⟨by rw [upd_ne (fun e => h2 (by rw [e]; exact hn))]; exact q1, q2⟩⟩
theorem Us.no (u : Us S G H G' H') (g : G a = none) (h : H a = some o) : G' a = none := (u.nw a g (by rw [h]; exact nofun)).1
theorem Us.k (u : Us S G H G' H') (n : ¬ S a) (h : H a = some o) : H' a = some o := u.hh a o n h
theorem Us.kN (u : Us No G H G' H') (h : H a = some o) : H' a = some o := u.hh a o (fun h => h) h
theorem Us.free (u : Us No G H G' H') (h : H' a = none) : H a = none := by
  cases q : H a with
  | none => rfl
  | some o => rw [u.kN q] at h; cases h
theorem Us.freeS (u : Us S G H G' H') (n : ¬ S a) (h : H' a = none) : H a = none := by
  cases q : H a with
  | none => rfl
  | some o => rw [u.k n q] at h; cases h
end
/-! ### things told by the ghost -/
abbrev Rep (α : Type) := Hp → V → α → Prop
class Mon {α : Type} (R : Rep α) : Prop where
  mono : ∀ {G G' : Hp} {v : V} {a : α}, Same G G' → R G v a → R G' v a
theorem mo {α : Type} {R : Rep α} [Mon R] {G G' : Hp} {v : V} {a : α} (e : Same G G') (h : R G v a) : R G' v a := Mon.mono e h
def qI : Rep Int := fun _ v i => v = .int i
def qS : Rep Str := fun _ v i => v = .str i
def qB : Rep Bool := fun _ v i => v = .bl i
def vO : Option Str → V
  | none => .non
  | some x => .str x
def qO : Rep (Option Str) := fun _ v i => v = vO i
instance : Mon qI := ⟨fun _ h => h⟩
instance : Mon qS := ⟨fun _ h => h⟩
instance : Mon qB := ⟨fun _ h => h⟩
instance : Mon qO := ⟨fun _ h => h⟩
def Ls {α : Type} (R : Rep α) : Rep (List α) := fun G v L => ∃ a xs, v = .ref a ∧ G a = some (.lst xs) ∧ Paired (R G) xs L
section
variable {K : PySem.W.Frag} {G G' H H' : Hp} {α β : Type} {R : Rep α} {S : Addr → Prop}
theorem paired_mono [Mon R] (e : Same G G') : ∀ {xs : List V} {L : List α}, Paired (R G) xs L → Paired (R G') xs L
  | _, _, .nil => .nil
  | _, _, .cons h t => .cons (Mon.mono e h) (paired_mono e t)
instance [Mon R] : Mon (Ls R) := ⟨fun e h => by
  obtain ⟨a, xs, rfl, hs, hp⟩ := h
  exact ⟨a, xs, rfl, e _ _ hs, paired_mono e hp⟩⟩
theorem paired_at {R : V → α → Prop} : ∀ {xs : List V} {L : List α} {i : Nat} {x : V}, Paired R xs L → xs[i]? = some x → ∃ a, L[i]? = some a ∧ R x a
  | _, _, i, d, .nil, e => by simp at e
  | _, _, 0, d, .cons h _, e => by simp at e; subst e; exact ⟨_, rfl, h⟩
  | _, _, i + 1, d, .cons _ t, e => by
    obtain ⟨v, h1, h2⟩ := paired_at (i := i) t (by simpa using e)
    exact ⟨v, by simpa using h1, h2⟩
theorem paired_atR {R : V → α → Prop} : ∀ {xs : List V} {L : List α} {i : Nat} {a : α}, Paired R xs L → L[i]? = some a → ∃ x, xs[i]? = some x ∧ R x a
  | _, _, i, d, .nil, e => by simp at e
  | _, _, 0, d, .cons h _, e => by simp at e; subst e; exact ⟨_, rfl, h⟩
  | _, _, i + 1, d, .cons _ t, e => by
    obtain ⟨v, h1, h2⟩ := paired_atR (i := i) t (by simpa using e)
    exact ⟨v, by simpa using h1, h2⟩
theorem paired_snoc {R : V → α → Prop} : ∀ {xs : List V} {L : List α} {x : V} {a : α}, Paired R xs L → R x a → Paired R (xs ++ [x]) (L ++ [a])
  | _, _, _, _, .nil, h => .cons h .nil
  | _, _, _, _, .cons h t, q => .cons h (paired_snoc t q)
theorem paired_app {R : V → α → Prop} : ∀ {xs ys : List V} {L M : List α}, Paired R xs L → Paired R ys M → Paired R (xs ++ ys) (L ++ M)
  | _, _, _, _, .nil, h => h
  | _, _, _, _, .cons h t, q => .cons h (paired_app t q)
theorem paired_map {f : α → V} : ∀ {L : List α}, Paired (fun v a => v = f a) (L.map f) L
  | [] => .nil
  | _ :: _ => .cons rfl paired_map
theorem paired_eq {f : α → V} : ∀ {xs : List V} {L : List α}, Paired (fun v a => v = f a) xs L → xs = L.map f
  | _, _, .nil => rfl
  | _, _, .cons h t => by rw [List.map_cons, h, paired_eq t]
variable {Q : VK} {v : V} {L : List α} {a : α} {i : Int}
theorem Ls.len (h : Ls R G v L) (g : Same G H) (k : Q (.int (L.length : Nat)) H) : aLen K [v] H Q := by
  obtain ⟨a, xs, rfl, hs, hp⟩ := h
  refine g_len (.inl (SqL.of (g _ _ hs))) ?_
  rw [Paired.length hp]
  exact k
theorem atI_paired {R : V → α → Prop} {xs : List V} (h : Paired R xs L) (e : atI L i = some a) : ∃ v, atI xs i = some v ∧ R v a := by
  unfold atI at e ⊢
  rw [Paired.length h]
  cases q : ixN L.length i with
  | none => rw [q] at e; cases e
  | some j =>
    rw [q] at e
    exact paired_atR (i := j) h e
theorem Ls.ix (h : Ls R G v L) (g : Same G H) (hi : atI L i = some a) (k : ∀ u, R G u a → Q u H) : rIxL K v (.int i) H Q := by
  obtain ⟨p, xs, rfl, hs, hp⟩ := h
  obtain ⟨u, h1, h2⟩ := atI_paired hp hi
  exact ⟨p, xs, i, u, rfl, rfl, SqL.of (g _ _ hs), h1, k u h2⟩
theorem atI_nat {n : Nat} (h : L[n]? = some a) : atI L (n : Int) = some a := by
  have hn := (List.getElem?_eq_some_iff.mp h).1
  unfold atI ixN
  rw [if_pos (by omega), if_pos (by omega)]
  simp [h]
theorem Ls.ty (h : Ls R G v L) (g : Same G H) : tyV K "list" v H := by
  obtain ⟨p, xs, rfl, hs, hp⟩ := h
  exact .inl ⟨rfl, xs, SqL.of (g _ _ hs)⟩
theorem ls_map {f : α → V} (h : Ls (fun _ v a => v = f a) G v L) : ∃ a, v = .ref a ∧ G a = some (.lst (L.map f)) := by
  obtain ⟨a, xs, rfl, hs, hp⟩ := h
  refine ⟨a, rfl, ?_⟩
  rw [← paired_eq hp]; exact hs
theorem map_ls {f : α → V} {p : Addr} (h : G p = some (.lst (L.map f))) : Ls (fun _ v a => v = f a) G (.ref p) L := ⟨p, _, rfl, h, paired_map⟩
theorem Ls.ints {L : List Int} (h : Ls qI G v L) : ∃ a, v = .ref a ∧ G a = some (.lst (L.map V.int)) := ls_map h
theorem Ls.strs {L : List Str} (h : Ls qS G v L) : ∃ a, v = .ref a ∧ G a = some (.lst (L.map V.str)) := ls_map h
theorem Ls.bls {L : List Bool} (h : Ls qB G v L) : ∃ a, v = .ref a ∧ G a = some (.lst (L.map V.bl)) := ls_map h
theorem ints_ls {L : List Int} {p : Addr} (h : G p = some (.lst (L.map V.int))) : Ls qI G (.ref p) L := map_ls h
theorem strs_ls {L : List Str} {p : Addr} (h : G p = some (.lst (L.map V.str))) : Ls qS G (.ref p) L := map_ls h
theorem Ls.cast {R' : Rep β} {L' : List β} (h : Ls R G v L) (e : ∀ xs, Paired (R G) xs L → Paired (R' G) xs L') : Ls R' G v L' := by
  obtain ⟨a, xs, rfl, hs, hp⟩ := h
  exact ⟨a, xs, rfl, hs, e xs hp⟩
/-! ### comprehensions -/
theorem filter_snoc (f : α → Bool) (l : List α) (a : α) : (l ++ [a]).filter f = if f a = true then l.filter f ++ [a] else l.filter f := by
  rw [List.filter_append]
  by_cases h : f a = true
  · rw [if_pos h]; simp [h]
  · rw [if_neg h]; simp [h]
theorem take_snoc {l : List α} {i : Nat} {x : α} (h : l[i]? = some x) : l.take (i + 1) = l.take i ++ [x] := by
  rw [List.take_add_one, h]
  rfl
/-- what is left to do at the end of a turn -/
structure LcK (S : Addr → Prop) (P : Hp → Prop) (R2 : Rep β) (t : Bool) (y : β) (G H : Hp) (Cv : VK) (Cn : Hp → Prop) : Prop where
  y : t = true → ∀ v G4 H4, Us S G H G4 H4 → P H4 → R2 G4 v y → Cv v H4
  n : t = false → ∀ G4 H4, Us S G H G4 H4 → P H4 → Cn H4
theorem lc_g {J : It} {n : Nat} {Y : Nat → Hp → V → Hp → Prop} {GG : Hp → Prop} {gt : TG} {tt : TT} {te : TE} {vs : List Nat} {σ : L2.St} {R2 : Rep β} [Mon R2] (P : Nat → Hp → Prop) (hP : ∀ i H H', (∀ a, S a → H' a = H a) → P i H → P i H') (f : α → Bool) (h : α → β)
    (wk : Walk J n GG Y) (hn : L.length = n) (hz : n ≤ 90000) (g : Same G H) (hG : ∀ G1 H1, Us S G H G1 H1 → GG H1) (hS : ∀ a, S a → H a ≠ none) (p0 : P 0 H)
    (hs : ∀ (i : Nat) (a : α) (x : V) (G1 H0 H1 : Hp) (Cv : VK) (Cn : Hp → Prop), L[i]? = some a → Us S G H G1 H0 → P i H0 → Y i H0 x H1 → LcK S (P (i + 1)) R2 (f a) (h a) G1 H0 Cv Cn →
      gt x (wipe σ vs) H1 fun σ2 H2 => wipe σ2 vs = wipe σ vs ∧ tt σ2 H2 fun b H3 => if b = true then te σ2 H3 Cv else Cn H3)
    {Qd : Addr → Hp → Prop} (k : ∀ p G2 H2, H p = none → Us S G H G2 H2 → P n H2 → Ls R2 G2 (.ref p) ((L.filter f).map h) → Qd p H2) :
    ∀ D, H D = none → ∃ W : Nat → Nat → Hp → Prop, (∃ m, W 0 m (upd H D (.lst []))) ∧ ∀ i m H, W i m H →
      (J.stop i H ∧ Qd D H) ∨ (J.go i H ∧ ∃ Nx : Hp → Prop, (∀ H', Nx H' → ∃ m', m' < m ∧ W (i + 1) m' H') ∧ ∀ x H', J.yld i H x H' → gt x (wipe σ vs) H' fun σ2 H2 => wipe σ2 vs = wipe σ vs ∧ tt σ2 H2 fun b H3 =>
        if b = true then te σ2 H3 fun y H4 => ∃ acc, H4 D = some (.lst acc) ∧ acc.length < sizeLine ∧ Nx (upd H4 D (.lst (acc ++ [y]))) else Nx H3) := by
  intro D hD
  have nD : ¬ S D := fun q => hS D q hD
  have gD : G D = none := g.free hD
  refine lc_it wk (Pv := fun i H1 => ∃ G1 acc, Us S G H G1 H1 ∧ G1 D = none ∧ H1 D = some (.lst acc) ∧ Paired (R2 G1) acc (((L.take i).filter f).map h) ∧ acc.length ≤ i ∧ P i H1)
    ⟨G, [], Us.newM g _ hD, gD, upd_same, .nil, Nat.le_refl _, hP _ _ _ (fun a q => upd_ne (fun e => nD (by rw [← e]; exact q))) p0⟩ (fun i H1 _ p => ?_) (fun i x H0 H1 hi p y => ?_) (fun H1 p => ?_)
  · obtain ⟨G1, acc, e1, _⟩ := p
    exact hG G1 H1 e1
  · obtain ⟨G1, acc, u, gd, hd, hp, hl, hpp⟩ := p
    obtain ⟨a, ha⟩ : ∃ a, L[i]? = some a := ⟨L[i]'(by omega), List.getElem?_eq_getElem (by omega)⟩
    have hlen : acc.length < sizeLine := Nat.lt_of_le_of_lt hl (Nat.lt_of_lt_of_le hi (Nat.le_trans hz (by decide)))
    refine hs i a x G1 H0 H1 _ _ ha u hpp y ⟨fun q v G4 H4 u4 p4 hv => ?_, fun q G4 H4 u4 p4 => ?_⟩
    · have d4 : H4 D = some (.lst acc) := u4.k nD hd
      have g4 : G4 D = none := u4.no gd hd
      refine ⟨acc, d4, hlen, G4, acc ++ [v], (u.trans u4).turnN _ hD g4, g4, upd_same, ?_, ?_, hP _ _ _ (fun a q => upd_ne (fun e => nD (by rw [← e]; exact q))) p4⟩
      · rw [take_snoc ha, filter_snoc, if_pos q, List.map_append]
        exact paired_snoc (paired_mono u4.gg hp) hv
      · rw [List.length_append]; simp; omega
    · refine ⟨G4, acc, u.trans u4, u4.no gd hd, u4.k nD hd, ?_, Nat.le_succ_of_le hl, p4⟩
      rw [take_snoc ha, filter_snoc, if_neg (by rw [q]; exact Bool.false_ne_true)]
      exact paired_mono u4.gg hp
  · obtain ⟨G1, acc, u, gd, hd, hp, hl, hpp⟩ := p
    have ht : L.take n = L := by rw [← hn]; exact List.take_length
    rw [ht] at hp
    exact k D _ H1 hD (u.fix hD gd hd) hpp ⟨D, acc, rfl, upd_same, paired_mono (Same.new gd) hp⟩
def Yes (_ : Nat) (_ : Hp) : Prop := True
section
variable {gt : TG} {tt : TT} {te : TE} {vs : List Nat} {σ : L2.St} {R2 : Rep β} [Mon R2] [Mon R] {tl : TE}
/-- over a list, told by R; elements only make things -/
theorem lc_list (f : α → Bool) (h : α → β) (g : Same G H) (hz : L.length ≤ 90000)
    (hl : ∀ QV : VK, (∀ G1 H1, Us No G H G1 H1 → ∀ v, Ls R G1 v L → QV v H1) → tl σ H QV)
    (hs : ∀ (i : Nat) (a : α) (x : V) (G1 H0 : Hp) (Cv : VK) (Cn : Hp → Prop), L[i]? = some a → Us No G H G1 H0 → R G1 x a → LcK No (fun _ => True) R2 (f a) (h a) G1 H0 Cv Cn →
      gt x (wipe σ vs) H0 fun σ2 H2 => wipe σ2 vs = wipe σ vs ∧ tt σ2 H2 fun b H3 => if b = true then te σ2 H3 Cv else Cn H3)
    (k : ∀ v G2 H2, Us No G H G2 H2 → Ls R2 G2 v ((L.filter f).map h) → Q v H2) : tLc (iList K tl) gt tt te vs σ H Q := by
  refine hl _ fun G1 H1 u v hv => ?_
  obtain ⟨a, xs, rfl, hs1, hp⟩ := hv
  refine ⟨a, rfl, ⟨xs, SqL.of (u.gh _ _ hs1)⟩, ?_⟩
  refine lc_g (Qd := fun p H2 => Q (.ref p) H2) (S := No) (P := fun _ _ => True) (L := L) (fun _ _ _ _ _ => trivial) f h (walk_list (K := K) (a := a) (xs := xs)) (Paired.length hp).symm (by rw [Paired.length hp]; exact hz) u.gh (fun G2 H2 u2 => SqL.of (u2.gh _ _ (u2.gg _ _ hs1))) (fun _ h => h.elim) trivial (fun i b x G2 H0 H2 Cv Cn hb u2 _ y kk => ?_) (fun p G2 H2 _ u2 _ r => k _ G2 H2 (u.trans u2) r)
  obtain ⟨rfl, hx⟩ := y
  obtain ⟨b', e1, e2⟩ := paired_at hp hx
  have e3 : b' = b := Option.some.inj (e1.symm.trans hb)
  subst e3
  exact hs i b' x G2 H2 Cv Cn hb (u.trans u2) (Mon.mono u2.gg e2) kk
/-- over enumerate(list) -/
theorem lc_enum (f : α × Nat → Bool) (h : α × Nat → β) {tr : TE} (g : Same G H) (hz : L.length ≤ 90000)
    (hl : ∀ QV : VK, (∀ G1 H1, Us No G H G1 H1 → ∀ v, Ls R G1 v L → QV v H1) → tr σ H QV)
    (hs : ∀ (i : Nat) (a : α) (x : V) (T : Addr) (G1 H0 : Hp) (Cv : VK) (Cn : Hp → Prop), L[i]? = some a → Us No G H G1 H0 → R G1 x a → G1 T = some (.tup [.int (i : Nat), x]) → LcK No (fun _ => True) R2 (f (a, i)) (h (a, i)) G1 H0 Cv Cn →
      gt (.ref T) (wipe σ vs) H0 fun σ2 H2 => wipe σ2 vs = wipe σ vs ∧ tt σ2 H2 fun b H3 => if b = true then te σ2 H3 Cv else Cn H3)
    (k : ∀ v G2 H2, Us No G H G2 H2 → Ls R2 G2 v ((L.zipIdx.filter f).map h) → Q v H2) : tLc (iEnum K (tCons tr tNil)) gt tt te vs σ H Q := by
  refine hl _ fun G1 H1 u v hv => ?_
  obtain ⟨a, xs, rfl, hs1, hp⟩ := hv
  refine ⟨a, xs, rfl, SqL.of (u.gh _ _ hs1), ?_⟩
  refine lc_g (Qd := fun p H2 => Q (.ref p) H2) (S := No) (P := fun _ _ => True) (L := L.zipIdx) (fun _ _ _ _ _ => trivial) f h (walk_enum (K := K) (a := a) (xs := xs)) (by rw [List.length_zipIdx]; exact (Paired.length hp).symm) (by rw [Paired.length hp]; exact hz) u.gh (fun G2 H2 u2 => SqL.of (u2.gh _ _ (u2.gg _ _ hs1))) (fun _ h => h.elim) trivial (fun i b x G2 H0 H2 Cv Cn hb u2 _ y kk => ?_) (fun p G2 H2 _ u2 _ r => k _ G2 H2 (u.trans u2) r)
  obtain ⟨T, x1, x2, rfl, hT, rfl, e1, e2⟩ := y
  obtain ⟨b', e3, e4⟩ := paired_at hp e2
  rw [List.getElem?_zipIdx, e3] at hb
  have e5 : b = (b', i) := by
    have := Option.some.inj hb
    simpa using this.symm
  subst e5
  have e6 : x1 = .int (i : Nat) := (Option.some.inj e1).symm
  subst e6
  have un : Us No G2 H0 (upd G2 T (.tup [.int (i : Nat), x2])) (upd H0 T (.tup [.int (i : Nat), x2])) := Us.new u2.gh _ hT
  exact hs i b' x2 T _ _ Cv Cn e3 ((u.trans u2).trans un) (Mon.mono (u2.gg.trans un.gg) e4) upd_same ⟨fun q v G4 H4 u4 _ r => kk.y q v G4 H4 (un.trans u4) trivial r, fun q G4 H4 u4 _ => kk.n q G4 H4 (un.trans u4) trivial⟩
end
end
end M

namespace M
open PySem PySem.Spec PyProof.Rows L2
/-! ### targets, in, ==, + -/
section
variable {K : PySem.W.Frag} {G H : Hp} {α : Type} {R : Rep α} {S : Addr → Prop} {σ : L2.St} {Q : VK} {QS : L2.St → Hp → Prop} {v w : V} {vs xs : List V} {n : Nat} {a p : Addr} {t : TG} {u : TGs}
theorem g_gTup {t : TGs} (h : H a = some (.tup xs)) (hl : xs.length = n) (k : t xs σ H QS) : gTup K n t (.ref a) σ H QS := ⟨a, xs, rfl, SqT.of h, hl, k⟩
theorem g_gUnl {t : TGs} (h : H a = some (.lst xs)) (hl : xs.length = n) (k : t xs σ H QS) : gUnl K n t (.ref a) σ H QS := ⟨a, xs, rfl, SqL.of h, hl, k⟩
theorem g_gCons (k : t v σ H fun σ' H' => u vs σ' H' QS) : gCons t u (v :: vs) σ H QS := ⟨v, vs, rfl, k⟩
theorem g_gNil (k : QS σ H) : gNil [] σ H QS := ⟨rfl, k⟩
theorem inV_str (z : Str) : ∀ L : List Str, inV (.str z) (L.map V.str) = decide (z ∈ L)
  | [] => rfl
  | x :: L => by
    have e : inV (.str z) ((x :: L).map V.str) = ((x == z) || inV (.str z) (L.map V.str)) := rfl
    rw [e, inV_str z L]
    by_cases h : x = z
    · subst h; simp
    · have h2 : ¬ z = x := fun q => h q.symm
      simp [h, h2]
theorem inV_bl (z : Bool) : ∀ L : List Bool, inV (.bl z) (L.map V.bl) = decide (z ∈ L)
  | [] => rfl
  | x :: L => by
    have e : inV (.bl z) ((x :: L).map V.bl) = ((x == z) || inV (.bl z) (L.map V.bl)) := rfl
    rw [e, inV_bl z L]
    cases x <;> cases z <;> simp
theorem inV_int (z : Int) : ∀ L : List Int, inV (.int z) (L.map V.int) = decide (z ∈ L)
  | [] => rfl
  | x :: L => by
    have e : inV (.int z) ((x :: L).map V.int) = ((x == z) || inV (.int z) (L.map V.int)) := rfl
    rw [e, inV_int z L]
    by_cases h : x = z
    · subst h; simp
    · have h2 : ¬ z = x := fun q => h q.symm
      simp [h, h2]
theorem inV_opt (z : Str) : ∀ L : List (Option Str), inV (.str z) (L.map vO) = decide (some z ∈ L)
  | [] => rfl
  | none :: L => by
    have e : inV (.str z) ((none :: L).map vO) = (false || inV (.str z) (L.map vO)) := rfl
    rw [e, inV_opt z L]; simp
  | some x :: L => by
    have e : inV (.str z) ((some x :: L).map vO) = ((x == z) || inV (.str z) (L.map vO)) := rfl
    rw [e, inV_opt z L]
    by_cases h : x = z
    · subst h; simp
    · have h2 : ¬ z = x := fun q => h q.symm
      simp [h, h2]
theorem flat_map {α : Type} {f : α → V} (hf : ∀ a, flatV (f a) = true) (L : List α) : (L.map f).all flatV = true := by
  rw [List.all_eq_true]
  intro x hx
  obtain ⟨a, _, rfl⟩ := List.mem_map.mp hx
  exact hf a
def OnSeq (K : PySem.W.Frag) (H : Hp) (v : V) (xs : List V) : Prop := ∃ p, v = .ref p ∧ (SqL K H p xs ∨ SqT K H p xs)
theorem onL (h : H p = some (.lst xs)) : OnSeq K H (.ref p) xs := ⟨p, rfl, .inl (SqL.of h)⟩
theorem onT (h : H p = some (.tup xs)) : OnSeq K H (.ref p) xs := ⟨p, rfl, .inr (SqT.of h)⟩
theorem Ls.on {f : α → V} {L : List α} (h : Ls (fun _ v a => v = f a) G v L) (g : Same G H) : OnSeq K H v (L.map f) := by
  obtain ⟨p, rfl, q⟩ := ls_map h
  exact onL (g _ _ q)
theorem g_in {x : V} (h : OnSeq K H v xs) (fx : flatV x = true) (fs : xs.all flatV = true) (k : Q (.bl (inV x xs)) H) : aIn K x v H Q := by
  obtain ⟨p, rfl, hs⟩ := h
  exact ⟨p, xs, rfl, hs, fx, fs, k⟩
theorem g_notIn {x : V} (h : OnSeq K H v xs) (fx : flatV x = true) (fs : xs.all flatV = true) (k : Q (.bl (!inV x xs)) H) : aNotIn K x v H Q := by
  obtain ⟨p, rfl, hs⟩ := h
  exact ⟨p, xs, rfl, hs, fx, fs, k⟩
theorem g_inS {z : Str} {L : List Str} (h : OnSeq K H v (L.map V.str)) (k : Q (.bl (decide (z ∈ L))) H) : aIn K (.str z) v H Q :=
  g_in h rfl (flat_map (fun _ => rfl) L) (by rw [inV_str]; exact k)
theorem g_notInS {z : Str} {L : List Str} (h : OnSeq K H v (L.map V.str)) (k : Q (.bl (!decide (z ∈ L))) H) : aNotIn K (.str z) v H Q :=
  g_notIn h rfl (flat_map (fun _ => rfl) L) (by rw [inV_str]; exact k)
theorem g_inB {z : Bool} {L : List Bool} (h : OnSeq K H v (L.map V.bl)) (k : Q (.bl (decide (z ∈ L))) H) : aIn K (.bl z) v H Q :=
  g_in h rfl (flat_map (fun _ => rfl) L) (by rw [inV_bl]; exact k)
theorem g_notInB {z : Bool} {L : List Bool} (h : OnSeq K H v (L.map V.bl)) (k : Q (.bl (!decide (z ∈ L))) H) : aNotIn K (.bl z) v H Q :=
  g_notIn h rfl (flat_map (fun _ => rfl) L) (by rw [inV_bl]; exact k)
theorem g_notInI {z : Int} {L : List Int} (h : OnSeq K H v (L.map V.int)) (k : Q (.bl (!decide (z ∈ L))) H) : aNotIn K (.int z) v H Q :=
  g_notIn h rfl (flat_map (fun _ => rfl) L) (by rw [inV_int]; exact k)
theorem g_inO {z : Str} {L : List (Option Str)} (h : Ls qO G v L) (g : Same G H) (k : Q (.bl (decide (some z ∈ L))) H) : aIn K (.str z) v H Q :=
  g_in (h.on g) rfl (flat_map (f := vO) (fun o => by cases o <;> rfl) L) (by rw [inV_opt]; exact k)
/-! ### == of flat lists -/
class Dat (R : Rep α) where
  enc : α → PyData
  dp : ∀ {K : PySem.W.Frag} {G H : Hp} {v : V} {a : α}, Same G H → R G v a → Dp K H v (enc a)
def strA (x : Str) : Bool := x.cps.all (· < 0x110000)
instance : Dat qI := ⟨fun i => .int i, fun _ h => by cases h; exact .int _⟩
instance : Dat qS := ⟨fun i => .str i, fun _ h => by cases h; exact .str _⟩
instance : Dat qB := ⟨fun i => .bool i, fun _ h => by cases h; exact .bl _⟩
def pO : Option Str → PyData
  | none => .none
  | some x => .str x
instance : Dat qO := ⟨pO, fun {_ _ _ _ a} _ h => by cases a with | none => cases h; exact .non | some x => cases h; exact .str _⟩
theorem paired_dp [Dat R] (g : Same G H) : ∀ {xs : List V} {L : List α}, Paired (R G) xs L → DpAll K H xs (L.map (Dat.enc R))
  | _, _, .nil => .nil
  | _, _, .cons h t => .cons (Dat.dp g h) (paired_dp g t)
theorem Ls.dp [Dat R] {L : List α} (h : Ls R G v L) (g : Same G H) : Dp K H v (.list (L.map (Dat.enc R))) := by
  obtain ⟨p, xs, rfl, q, hp⟩ := h
  exact .lst (SqL.of (g _ _ q)) (paired_dp g hp)
/-- that a datum is plain and not deep -/
def Fit (n : Nat) (d : PyData) : Prop := d.canLay0 = true ∧ d.depth ≤ n
theorem fit_all {n : Nat} : ∀ {ds : List PyData}, (∀ d ∈ ds, Fit n d) → PyData.canLayAll0 ds = true ∧ PyData.depthAll ds ≤ n
  | [], _ => ⟨by simp only [PyData.canLayAll0], by simp [PyData.depthAll]⟩
  | d :: ds, h => by
    obtain ⟨h1, h2⟩ := fit_all fun e he => h e (List.mem_cons_of_mem _ he)
    obtain ⟨h3, h4⟩ := h d (List.mem_cons_self ..)
    refine ⟨by simp only [PyData.canLayAll0, h3, h1, Bool.and_self], ?_⟩
    simp only [PyData.depthAll]
    omega
theorem fit_list {n : Nat} {ds : List PyData} (h : ∀ d ∈ ds, Fit n d) : Fit (n + 1) (.list ds) := by
  obtain ⟨h1, h2⟩ := fit_all h
  exact ⟨by simp only [PyData.canLay0]; exact h1, by simp only [PyData.depth]; omega⟩
theorem fit_tuple {n : Nat} {ds : List PyData} (h : ∀ d ∈ ds, Fit n d) : Fit (n + 1) (.tuple ds) := by
  obtain ⟨h1, h2⟩ := fit_all h
  exact ⟨by simp only [PyData.canLay0]; exact h1, by simp only [PyData.depth]; omega⟩
theorem fit_shaped {d : PyData} (h : Fit 64 d) : SeqAt.shaped d = true := by
  show (d.canLay0 && decide (d.depth ≤ 64)) = true
  rw [h.1, decide_eq_true h.2]; rfl
theorem Fit.mono {n m : Nat} {d : PyData} (h : Fit n d) (l : n ≤ m) : Fit m d := ⟨h.1, Nat.le_trans h.2 l⟩
theorem fit_int (i : Int) : Fit 0 (.int i) := ⟨by simp [PyData.canLay0], by simp [PyData.depth]⟩
theorem fit_bool (i : Bool) : Fit 0 (.bool i) := ⟨by simp [PyData.canLay0], by simp [PyData.depth]⟩
theorem fit_none : Fit 0 .none := ⟨by simp [PyData.canLay0], by simp [PyData.depth]⟩
theorem fit_str {x : Str} (h : strA x = true) : Fit 0 (.str x) := ⟨by simp only [PyData.canLay0]; exact h, by simp [PyData.depth]⟩
theorem eqv_nil (ds : List PyData) : PyData.eqv (.list ds) (.list []) = ds.isEmpty := by cases ds <;> simp [PyData.eqv, PyData.eqvAll]
/-- a list, is it empty -/
theorem g_eq0 [Dat R] {L : List α} (h : Ls R G v L) (g : Same G H) (hp : H p = some (.lst [])) (hf : ∀ a ∈ L, Fit 60 (Dat.enc R a)) (k : Q (.bl L.isEmpty) H) : aEqD K v (.ref p) H Q := by
  refine ⟨_, .list [], h.dp g, .lst (SqL.of hp) .nil, fit_shaped ((fit_list (n := 60) fun d hd => ?_).mono (by decide)), rfl, ?_⟩
  · obtain ⟨a, ha, rfl⟩ := List.mem_map.mp hd
    exact hf a ha
  · rw [eqv_nil, List.isEmpty_map]; exact k
theorem g_ne0 [Dat R] {L : List α} (h : Ls R G v L) (g : Same G H) (hp : H p = some (.lst [])) (hf : ∀ a ∈ L, Fit 60 (Dat.enc R a)) (k : Q (.bl (!L.isEmpty)) H) : aNeD K v (.ref p) H Q := by
  refine ⟨_, .list [], h.dp g, .lst (SqL.of hp) .nil, fit_shaped ((fit_list (n := 60) fun d hd => ?_).mono (by decide)), rfl, ?_⟩
  · obtain ⟨a, ha, rfl⟩ := List.mem_map.mp hd
    exact hf a ha
  · rw [eqv_nil, List.isEmpty_map]; exact k
theorem eqvAll_str : ∀ L M : List Str, PyData.eqvAll (L.map fun i => PyData.str i) (M.map fun i => PyData.str i) = decide (L = M)
  | [], [] => by simp [PyData.eqvAll]
  | [], _ :: _ => by simp [PyData.eqvAll]
  | _ :: _, [] => by simp [PyData.eqvAll]
  | x :: L, y :: M => by
    simp only [List.map_cons, PyData.eqvAll, PyData.eqv, eqvAll_str L M, List.cons.injEq]
    by_cases h : x = y
    · subst h; simp
    · simp [h]
/-- two lists of texts -/
theorem g_neS {L M : List Str} {G' : Hp} (h : Ls qS G v L) (g : Same G H) (h' : Ls qS G' w M) (g' : Same G' H) (f : ∀ a ∈ L, strA a = true) (f' : ∀ a ∈ M, strA a = true) (k : Q (.bl (!decide (L = M))) H) : aNeD K v w H Q := by
  have ff : ∀ {L : List Str}, (∀ a ∈ L, strA a = true) → SeqAt.shaped (.list (L.map (Dat.enc qS))) = true := fun {L} q => fit_shaped ((fit_list (n := 0) fun d hd => by
    obtain ⟨a, ha, rfl⟩ := List.mem_map.mp hd
    exact fit_str (q a ha)).mono (by decide))
  refine ⟨_, _, h.dp g, h'.dp g', ff f, ff f', ?_⟩
  have e : PyData.eqv (.list (L.map (Dat.enc qS))) (.list (M.map (Dat.enc qS))) = decide (L = M) := by
    show PyData.eqv (.list (L.map fun i => PyData.str i)) (.list (M.map fun i => PyData.str i)) = _
    simp only [PyData.eqv, eqvAll_str]
  rw [e]; exact k
/-! ### + of lists, a new list -/
theorem g_cat {x y : Addr} {xs zs : List V} (h1 : H x = some (.lst xs)) (h2 : H y = some (.lst zs)) (hz : xs.length + zs.length ≤ 100000) (k : ∀ p, H p = none → Q (.ref p) (upd H p (.lst (xs ++ zs)))) : aCat (.ref x) (.ref y) H Q :=
  ⟨x, y, xs, zs, rfl, rfl, h1, h2, sz hz, k⟩
theorem Ls.cat [Mon R] {L M : List α} (h : Ls R G v L) (h' : Ls R G w M) (g : Same G H) (hz : L.length + M.length ≤ 100000) (k : ∀ G1 H1 v1, Us No G H G1 H1 → Ls R G1 v1 (L ++ M) → Q v1 H1) : aCat v w H Q := by
  obtain ⟨a, xs, rfl, h1, h2⟩ := h
  obtain ⟨b, ys, rfl, h3, h4⟩ := h'
  refine g_cat (g _ _ h1) (g _ _ h3) (by rw [Paired.length h2, Paired.length h4]; exact hz) fun p hp => ?_
  have u := Us.new (S := No) g (.lst (xs ++ ys)) hp
  exact k _ _ _ u ⟨p, _, rfl, upd_same, paired_mono u.gg (paired_app h2 h4)⟩
theorem g_addS {x y : Str} (h : x.length + y.length ≤ 1000000) (k : Q (.str (x ++ y)) H) : aAddS (.str x) (.str y) H Q := ⟨x, y, rfl, rfl, Nat.le_trans h (by decide), k⟩
theorem g_m1 {r : V → List V → Hp → VK → Prop} {to te : TE} (h : to σ H fun x H1 => (∃ a, x = .str a) ∧ te σ H1 fun y H2 => r x [y] H2 Q) : tM1 r to te σ H Q := h
theorem g_isS {z : Str} {P : Prop} (h : P) : (∃ a, V.str z = .str a) ∧ P := ⟨⟨z, rfl⟩, h⟩
theorem g_join {x : Str} {L : List Str} (h : H a = some (.lst (L.map V.str))) (hz : (L.map (·.length)).sum + L.length * x.length ≤ 16777216) (k : Q (.str (Txt.join x L)) H) : aJoin K (.str x) [.ref a] H Q := ⟨x, a, L, rfl, rfl, .inl (SqL.of h), hz, k⟩
theorem g_split {x y : Str} (h : (y.length == 0) = false) (hz : x.length ≤ 10000000) (k : ∀ p, H p = none → Q (.ref p) (upd H p (.lst ((Txt.split x y).map V.str)))) : aSplit (.str x) [.str y] H Q := ⟨x, y, rfl, rfl, h, Nat.le_trans (Nat.add_le_add_right hz 2) (by decide), k⟩
theorem g_ixS {x : Str} {i : Int} {d : Nat} (hz : x.length ≤ 1000000) (h : atI x.cps.toList i = some d) (k : Q (.str ⟨#[d]⟩) H) : rIxS (.str x) (.int i) H Q := ⟨x, i, d, rfl, rfl, Nat.le_trans hz (by decide), h, k⟩
def FoJ (J : It) (g : TG) (tb : TS) : TS := fun D σ H1 => ∃ W : Nat → Nat → L2.St → Hp → Prop, (∃ m, W 0 m σ H1) ∧ ∀ i m σ H, W i m σ H →
  (J.stop i H ∧ D.nx σ H) ∨ (J.go i H ∧ ∃ N : L2.St → Hp → Prop, (∀ σ' H', N σ' H' → ∃ m', m' < m ∧ W (i + 1) m' σ' H') ∧ ∀ x H', J.yld i H x H' → g x σ H' fun σ2 H2 => tb { D with nx := N, ct := N, bk := D.nx } σ2 H2)
theorem g_for {wi : TI} {g : TG} {tb : TS} {D : Ends} (h : wi σ H fun J H1 => FoJ J g tb D σ H1) : tFor wi g tb D σ H := h
theorem g_rng1 {ta : TA} {R' : It → Hp → Prop} (h : ta σ H fun vs H1 => ∃ j : Int, vs = [.int j] ∧ -(2 ^ 62) ≤ j ∧ j < 2 ^ 62 ∧ R' (Itr 0 j.toNat) H1) : iRng1 ta σ H R' := h
theorem g_iInt {j : Int} {P : Int → Prop} (h1 : -(2 ^ 62) ≤ j) (h2 : j < 2 ^ 62) (h : P j) : ∃ i : Int, [V.int j] = [.int i] ∧ -(2 ^ 62) ≤ i ∧ i < 2 ^ 62 ∧ P i := ⟨j, rfl, h1, h2, h⟩
theorem fo_rng {n : Nat} {g : TG} {tb : TS} {D : Ends} (Pv : Nat → L2.St → Hp → Prop) (h0 : Pv 0 σ H)
    (hs : ∀ i σ H, i < n → Pv i σ H → g (.int (i : Nat)) σ H fun σ2 H2 => tb { D with nx := Pv (i + 1), ct := Pv (i + 1), bk := D.nx } σ2 H2) (hd : ∀ σ H, Pv n σ H → D.nx σ H) : FoJ (Itr 0 n) g tb D σ H :=
  for_range (lo := 0) Pv h0 (fun i σ H h p => by rw [Int.zero_add]; exact hs i σ H h p) hd
/-- for over a list that stands still -/
theorem fo_list {tl : TE} {g : TG} {tb : TS} {D : Ends} {L : List α} (gg : Same G H) (Pv : Nat → L2.St → Hp → Prop)
    (hl : ∀ QV : VK, (∀ v, Ls R G v L → QV v H) → tl σ H QV) (hG : ∀ i σ H, Pv i σ H → Same G H) (h0 : Pv 0 σ H)
    (hs : ∀ i a x σ H, L[i]? = some a → R G x a → Pv i σ H → g x σ H fun σ2 H2 => tb { D with nx := Pv (i + 1), ct := Pv (i + 1), bk := D.nx } σ2 H2) (hd : ∀ σ H, Pv L.length σ H → D.nx σ H) : tFor (iList K tl) g tb D σ H := by
  refine hl _ fun v hv => ?_
  obtain ⟨p, xs, rfl, hp, hq⟩ := hv
  refine ⟨p, rfl, ⟨xs, SqL.of (gg _ _ hp)⟩, ?_⟩
  refine for_list (K := K) (xs := xs) Pv h0 (fun i σ H _ q => SqL.of (hG i σ H q _ _ hp)) (fun i x σ H hx q => ?_) fun σ H q => hd σ H (by rw [← Paired.length hq]; exact q)
  obtain ⟨a, h1, h2⟩ := paired_at hq hx
  exact hs i a x σ H h1 h2 q
theorem g_lenL {L : List α} (h : Ls R G v L) (g : Same G H) (k : Q (.int (L.length : Nat)) H) : aLen K [v] H Q := h.len g k
theorem g_aEqS {x y : Str} (k : Q (.bl (decide (x = y))) H) : aEq (.str x) (.str y) H Q := g_aEq rfl (by rw [show decide (V.str x = V.str y) = decide (x = y) from decide_eq_decide.mpr ⟨fun h => by cases h; rfl, fun h => by rw [h]⟩]; exact k)
theorem g_aNeS {x y : Str} (k : Q (.bl (!decide (x = y))) H) : aNe (.str x) (.str y) H Q := g_aNe rfl (by rw [show decide (V.str x = V.str y) = decide (x = y) from decide_eq_decide.mpr ⟨fun h => by cases h; rfl, fun h => by rw [h]⟩]; exact k)
theorem g_aEqI {x y : Int} (k : Q (.bl (decide (x = y))) H) : aEq (.int x) (.int y) H Q := g_aEq rfl (by rw [show decide (V.int x = V.int y) = decide (x = y) from decide_eq_decide.mpr ⟨fun h => by cases h; rfl, fun h => by rw [h]⟩]; exact k)
theorem g_aNeI {x y : Int} (k : Q (.bl (!decide (x = y))) H) : aNe (.int x) (.int y) H Q := g_aNe rfl (by rw [show decide (V.int x = V.int y) = decide (x = y) from decide_eq_decide.mpr ⟨fun h => by cases h; rfl, fun h => by rw [h]⟩]; exact k)
theorem g_iteNT {A B : Prop} (h : A) : if (!false) = true then A else B := iteT h
theorem g_iteNF {A B : Prop} (h : B) : if (!true) = true then A else B := iteF h
end
end M

namespace M
open PySem PySem.Spec PyProof.Rows L2
/-! ### except clauses, one after another, with and without a name -/
/-- the exception a lies on the ground, seen from the frame X -/
structure Down (X : Cx) (pins : List (Addr × Obj)) (σ : L2.St) (H : Hp) (a : Addr) (cls : Value) (d : Option Addr) (s : Shared) : Prop where
  ex : ∃ (B : Heap) (t : Shared), Inv X pins σ H t ∧ (∀ b o, t.heap.get? b = some o → b ∉ frs X.stack → B.get? b = some o) ∧ t.heap.UpToSlots s.heap ∧ HandSPX.FlyingZ B (X.env :: X.outer) a (Zc cls d) s.heap ∧ H a = none ∧ s.os = t.os ∧ AllBare s.gens
/-- these clauses treat what lies on the ground -/
def Hdl (X : Cx) (hds : List ExceptHandler) (Wh : Ends → WX) : Prop := ∀ (pins : List (Addr × Obj)) (σ : L2.St) (H : Hp) (a : Addr) (cls : Value) (d : Option Addr) (s : Shared) (D : Ends), Down X pins σ H a cls d s → Wh D cls d σ H →
  wpAny (model X.prog X.w) X.A (handleBy (.ref a) X.env hds) (SP X pins D) X.xe s
section
variable {X : Cx} {pins : List (Addr × Obj)} {σ : L2.St} {H : Hp} {a : Addr} {cls : Value} {d : Option Addr} {s : Shared}
theorem off_frame {B h : Heap} {l : List Env} {o : Obj} {vs : Array Value} (ff : h.FunFrames B l) (e : h.get? a = some o) (dd : o.data = .fields vs) : a ∉ frs l := fun hm => by
  obtain ⟨_, o', e', nd⟩ := ff.mem hm
  have q := Option.some.inj (e.symm.trans e')
  subst q
  exact nd _ dd
theorem Down.inSuite (g : Down X pins σ H a cls d s) (hf : X.env.frame = some X.env.locals) : ∃ oe, Inv (X.suite a ((a, oe) :: (X.pn ++ pins))) [] σ H s ∧ s.heap.get? a = some oe ∧ Zc cls d oe ∧ ∃ vs, oe.data = .fields vs := by
  obtain ⟨B, t, I, nb, up, fl, na, os, ag⟩ := g.ex
  obtain ⟨oe, vs, he, hz, hd⟩ := fl.there
  have nf := off_frame fl.2.2.1 he hd
  have J := I.landed nb fl.1 up os ag
  refine ⟨oe, J.suite he hd na (fun z => nf ?_) (fun hm => nf ?_), he, hz, vs, hd⟩
  · exact List.mem_filterMap.mpr ⟨X.env, List.mem_cons_self, by rw [hf, z]⟩
  · obtain ⟨e, h1, h2⟩ := List.mem_filterMap.mp hm
    exact List.mem_filterMap.mpr ⟨e, List.mem_cons_of_mem _ h1, h2⟩
theorem Down.again (g : Down X pins σ H a cls d s) {A : Around} {Q : Unit → Shared → Prop} {E : Value → Shared → Prop} (h : ∀ h', Down X pins σ H a cls d { s with heap := h' } → Q () { s with heap := h' }) : wpAny (model X.prog X.w) A (setFlight (.ref a) none) Q E s := by
  obtain ⟨B, t, I, nb, up, fl, na, os, ag⟩ := g.ex
  exact HandSPX.lands_againZ fl fun h' fl' up' => h h' ⟨B, t, I, nb, up.trans up', fl', na, os, ag⟩
theorem Down.ok (g : Down X pins σ H a cls d s) : X.Ok := by
  obtain ⟨_, _, I, _⟩ := g.ex
  exact I.ok
theorem Down.none (g : Down X pins σ H a cls d s) : H a = none := by
  obtain ⟨_, _, _, _, _, _, na, _⟩ := g.ex
  exact na
/-- the test of a clause -/
theorem Down.test (g : Down X pins σ H a cls d s) (hf : X.env.frame = some X.env.locals) {x : Str} {c : Value} {np : Pos} {b : Bool} {Q : Bool → Shared → Prop} {E E' : Value → Shared → Prop} (hc : Names X x c) (hb : PySem.W.exmOne X.K cls c = some b) (h : Q b s) :
    wpAny (model X.prog X.w) (X.A.mark (some (.ref a))) (eval (.Name x np) X.env) (fun v s₁ => wpAny (model X.prog X.w) (X.A.mark (some (.ref a))) (excMatches (.ref a) v) Q E s₁) E' s := by
  obtain ⟨oe, S, he, hz, _⟩ := g.inSuite hf
  have tyA : PySem.W.Looks (model X.prog X.w) s.heap (typeOf (.ref a)) cls := fun _ _ _ _ k q => wpAny_typeOf_ref (k _ _ he) (hz.1 ▸ q)
  have LM := PySem.W.exm_one (M := model X.prog X.w) S.kIn tyA hb
  obtain ⟨hg, hdb, hm | ⟨hm, hv, hn⟩⟩ := hc
  · exact ld_glob S hg hm (LM.here h) hdb
  · exact ld_blt S hg hm hv (LM.here h) hn hdb
theorem sp_unsuite {oe : Obj} {pn : List (Addr × Obj)} {D : Ends} {f : Flow} {t : Shared} (ok : X.Ok) (z : SP (X.suite a ((a, oe) :: (X.pn ++ pins))) pn D f t) : SP X pins D f t := by
  cases f with
  | ret u => exact let ⟨v, _, _, S, r, q⟩ := z; ⟨v, _, _, S.unsuite ok, r, q⟩
  | next => exact let ⟨_, _, S, q⟩ := z; ⟨_, _, S.unsuite ok, q⟩
  | brk => exact let ⟨_, _, S, q⟩ := z; ⟨_, _, S.unsuite ok, q⟩
  | cont => exact let ⟨_, _, S, q⟩ := z; ⟨_, _, S.unsuite ok, q⟩
end
section
variable {X : Cx} {hds : List ExceptHandler} {Wh : Ends → WX} {Wout : WX} {x n : Str} {c : Value} {np pos pos' : Pos} {b₀ : Stmt} {suite body : List Stmt} {ts : Addr → Value → Option Addr → TS} {tb : WX → TS} {i : Nat}
/-- no clause is left: it goes on -/
theorem hdl_nil (hs : X.stack = X.env :: X.outer) (hf : X.env.frame = some X.env.locals) (tk : Takes X Wout) : Hdl X [] (fun _ => Wout) := by
  intro pins σ H a cls d s D g w
  obtain ⟨B, t, I, nb, up, fl, na, os, ag⟩ := g.ex
  obtain ⟨_, _, _, oe, vs, T, _, _, he, _, hd, h1, _⟩ := id fl
  have go : wpAny (model X.prog X.w) X.A (setFlight (.ref a) X.env.frame) (fun _ u => wpAny (model X.prog X.w) X.A (throw (.ref a) : Sem Flow) (SP X pins D) X.xe u) X.xe s := by
    rw [hf]
    exact HandSPX.setFlight_upZ fl fun h4 held up4 => wpAny_throw (tk _ _ ⟨a, B, t, pins, σ, H, cls, d, rfl, I, nb, up.trans up4, .inr (.inr (hs ▸ held)), na, os, ag, w⟩)
  have ne : ¬ (Value.ref T == Value.none) = true := by simp
  refine wpAny_handleBy_nil ?_
  unfold PySem.passOn
  refine wpAny_bind (wpAny_field he hd h1 ?_)
  rw [if_neg ne]
  first
  | exact wpAny_bind go
  | exact wpAny_bind (wpAny_pure (wpAny_bind go))
/-- except x: suite -/
theorem hdl_cls (hf : X.env.frame = some X.env.locals) (hc : Names X x c) (hsu : ∀ (a : Addr) (oe : Obj) (cls : Value) (d : Option Addr) (pn : List (Addr × Obj)), Zc cls d oe → (∃ vs, oe.data = .fields vs) → PSs (X.suite a ((a, oe) :: pn)) (b₀ :: suite) (ts a cls d)) (r : Hdl X hds Wh) :
    Hdl X (.ExceptHandler (some (.Name x np)) none (b₀ :: suite) pos' :: hds) (fun D cls d σ H => ∃ b, PySem.W.exmOne X.K cls c = some b ∧ (b = true → ∀ a, H a = none → ts a cls d D σ H) ∧ (b = false → Wh D cls d σ H)) := by
  intro pins σ H a cls d s D g w
  obtain ⟨b, hb, yes, no⟩ := w
  refine wpAny_handleBy_cons (codeAny_handlers_test (g.test hf hc hb ?_)) (by intro q; cases q)
  cases b with
  | false => exact r pins σ H a cls d s D g (no rfl)
  | true =>
    refine codeAny_handlers_suite (g.again fun h' g' => ?_)
    obtain ⟨oe, S, _, hz, hv⟩ := g'.inSuite hf
    exact wpAny_mono ((hsu a oe cls d _ hz hv).run [] _ σ H D S (yes rfl a g.none)) (fun f t q => sp_unsuite g.ok q) fun _ _ z => z.elim
/-- except x as n: suite -/
theorem hdl_as (hf : X.env.frame = some X.env.locals) (hN : X.N.Nodup) (hi : X.N[i]? = some n) (hl : X.env.kindOf n = some .local) (hc : Names X x c) (hsu : ∀ (a : Addr) (oe : Obj) (cls : Value) (d : Option Addr) (pn : List (Addr × Obj)), Zc cls d oe → (∃ vs, oe.data = .fields vs) → PSs (X.suite a ((a, oe) :: pn)) (b₀ :: suite) (ts a cls d)) (r : Hdl X hds Wh) :
    Hdl X (.ExceptHandler (some (.Name x np)) (some n) (b₀ :: suite) pos' :: hds) (fun D cls d σ H => ∃ b, PySem.W.exmOne X.K cls c = some b ∧ (b = true → ∀ a, H a = none → ts a cls d { nx := fun σ' H' => D.nx (σ'.set i none) H', rt := D.rt, bk := fun σ' H' => D.bk (σ'.set i none) H', ct := fun σ' H' => D.ct (σ'.set i none) H' } (σ.set i (some (.ref a))) H) ∧ (b = false → Wh D cls d σ H)) := by
  intro pins σ H a cls d s D g w
  obtain ⟨b, hb, yes, no⟩ := w
  refine wpAny_handleBy_cons (codeAny_handlers_test (g.test hf hc hb ?_)) (by intro q; cases q)
  cases b with
  | false => exact r pins σ H a cls d s D g (no rfl)
  | true =>
    refine codeAny_handlers_suite_as (g.again fun h' g' => ?_)
    obtain ⟨oe, S, _, hz, hv⟩ := g'.inSuite hf
    refine store_ok (X := X.suite a ((a, oe) :: (X.pn ++ pins))) (v := .ref a) S hN hi (.inl hl) rfl (fun s5 S5 => ?_) (.inr hl)
    refine wpAny_mono ((hsu a oe cls d _ hz hv).run [] s5 _ H _ S5 (yes rfl a g.none)) (fun f t q => ?_) fun _ _ z => z.elim
    cases f with
    | ret u => exact let ⟨v, _, _, S6, r6, q6⟩ := q; gone_ok (S6.unsuite g.ok) hN hi hl fun _ J => ⟨v, _, _, J, r6, q6⟩
    | next => exact let ⟨_, _, S6, q6⟩ := q; gone_ok (S6.unsuite g.ok) hN hi hl fun _ J => ⟨_, _, J, q6⟩
    | brk => exact let ⟨_, _, S6, q6⟩ := q; gone_ok (S6.unsuite g.ok) hN hi hl fun _ J => ⟨_, _, J, q6⟩
    | cont => exact let ⟨_, _, S6, q6⟩ := q; gone_ok (S6.unsuite g.ok) hN hi hl fun _ J => ⟨_, _, J, q6⟩
/-- try: body / clauses -/
theorem ps_try_h {h₀ : ExceptHandler} (hs : X.stack = X.env :: X.outer) (hf : X.env.frame = some X.env.locals)
    (hb : ∀ (W : WX) (pn : List (Addr × Obj)) (xe : Value → Shared → Prop), Takes (X.tr pn xe) W → PassesOwn (model X.prog X.w) X.A X.env xe → PSs (X.tr pn xe) body (tb W)) (hh : Hdl X (h₀ :: hds) Wh) : PS X (.Try body (h₀ :: hds) [] [] pos) (fun D σ H => tb (Wh D) D σ H) := by
  refine ⟨fun pins s σ H D I h => ?_⟩
  have ok := I.ok
  have hfr : X.A.frames = some (X.env :: X.outer) := hs ▸ ok.frames
  refine wpAny_Try_except (wpAny_mono ((hb (Wh D) (X.pn ++ pins) _ (fun u s' xx => ?_) PassesOwn.looking).run [] s σ H D (I.toTry _) h) (fun f t q => ?_) fun e t he => he)
  · obtain ⟨a, B, t, ps, σ', H', cls, d, rfl, J, nb, up, sky, na, os, ag, w⟩ := xx
    exact Sky.land Zc.steady hfr hf (hs ▸ sky) fun h3 fl3 up3 => hh pins σ' H' a cls d _ D ⟨B, t, J.ofTry ok, nb, up.trans up3, fl3, na, os, ag⟩ w
  · cases f with
    | ret u => exact let ⟨v, _, _, J, r, q'⟩ := q; ⟨v, _, _, J.ofTry ok, r, q'⟩
    | next => exact wpAny_execs_nil (let ⟨_, _, J, q'⟩ := q; ⟨_, _, J.ofTry ok, q'⟩)
    | brk => exact let ⟨_, _, J, q'⟩ := q; ⟨_, _, J.ofTry ok, q'⟩
    | cont => exact let ⟨_, _, J, q'⟩ := q; ⟨_, _, J.ofTry ok, q'⟩
end
end M

namespace M
open PySem PySem.Spec PyProof.Rows L2
/-! ### own errors: made, raised, let out by a def, caught -/
/-- what a class of errors of the program must say, so that an instance's fields are set and read and isinstance asks it rightly -/
structure ErrC (K : PySem.W.Frag) (C : Addr) : Prop where
  o : OexC K C
  x : XfC K C
  cl : (PySem.W.clsIn K C).isSome = true
  ha : PySem.W.findIn K (.ref C) "__class__" = some (some (.builtin "object.__class__"))
  hn : PySem.W.specialIn K (.builtin "object.__class__") "__get__" = some (some (.builtin "getset_descriptor.__get__"))
  ht : PySem.W.takesIn K (.builtin "object.__class__") = some true
  hm : PySem.W.mroIn K C (.type "object") = some true
/-- B.__init__(self, ..), B an own class over ValueError without an __init__ -/
theorem pe_einit {X : Cx} {x : Str} {C : Addr} {mc : Value} {e : Expr} {es : List Expr} {ta : TA} {p1 p2 pos : Pos} {pl : Sem Bool} (hg : Gl X x) (hm : X.mg x = some (.ref C)) (r : ClX.CRead X.K C mc) (hv : PySem.W.findCls X.K (.ref C) mc "__init__" = some (.val (.builtin "ValueError.__init__"))) (ha : PA X (e :: es) ta)
    (hdb : (x == ("__debug__" : Str)) = false := by decide) (hc : eval (.Call (.Attribute (.Name x p1) "__init__" p2) (e :: es) [] pos) X.env = (do
      let ov ← eval (.Name x p1) X.env
      standAt p2.atName
      let (f, first) ← holding [ov] (getMethod ov "__init__" pl)
      callWith pos f first (backTo pos (starEach (e :: es) X.env)) (backToKw pos (keywordEach [] X.env))) := by rfl)
    (he : starEach (e :: es) X.env = (false, eval e X.env) :: starEach es X.env := by rfl) (hpl : (backTo pos (starEach es X.env)).any (·.1) = false := by rfl) : PE X (.Call (.Attribute (.Name x p1) "__init__" p2) (e :: es) [] pos) (tVeI X.K ta) := by
  refine ⟨fun pins s σ H Q I h => ?_⟩
  refine PySem.W.methodCall_KW (pl := pl) (ld_glob I hg hm ?_ hdb) hc
  refine PySem.W.method_cls I.kIn r.ga (PySem.W.cls_value I.kIn r.rd hv rfl ?_)
  show wpAny _ _ (callWith pos (Value.builtin "ValueError.__init__") [] (backTo pos (starEach (e :: es) X.env)) []) _ _ _
  refine PyProof.Rows.callWith_method1 (thn (ha.run pos pins _ σ H _ (I.tok _) h) fun us s1 hh => ?_) he hpl
  obtain ⟨vs, H1, I1, r1, a, D, ws, ev, hl, T, ea, q⟩ := hh
  subst ev
  cases r1 with
  | cons ra rw' =>
    cases ra
    have hlen := Paired.length rw'
    exact oinit_ok T I1 ea (by rw [← hlen, sizeLine_eq]; omega) fun s' J => ⟨.non, H1, J, rfl, q⟩
/-- an own error, made by its name -/
structure OCal (P : Program) (w : World) (K : PySem.W.Frag) (mg : Str → Option Value) (base : Heap) (x : Str) (C : Addr) (k : Nat) (sp : Sp) : Prop where
  ex : ∃ (f : Addr) (fd : FuncData) (ps : List Str), OexC K C ∧ PySem.W.findIn K (.ref C) "__init__" = some (some (.ref f)) ∧ PySem.W.typeIn K (.ref f) = some (.type "function") ∧ FnOk P w K mg base CX0 k f fd ps sp ∧ Binds K fd ps [] ∧ mg x = some (.ref C)
def tRz (C : Addr) (sp : Sp) (W : WX) (ta : TA) : TS := fun _ σ H => tMkO C sp [] ta σ H fun cls d H' => W cls d σ H'
theorem ps_rz {X : Cx} {x : Str} {C : Addr} {k : Nat} {sp : Sp} {W : WX} {e : Expr} {es : List Expr} {ta : TA} {p pos pos' : Pos} (G : OCal X.prog X.w X.K X.mg X.base x C k sp) (hc : X.calm = true) (tk : Takes X W) (hr : Room (k + 1) X.A) (hg : Gl X x) (ha : PA X (e :: es) ta)
    (hdb : (x == ("__debug__" : Str)) = false := by decide) (he : starEach (e :: es) X.env = (false, eval e X.env) :: starEach es X.env := by rfl) (hpl : (backTo pos (starEach es X.env)).any (·.1) = false := by rfl) : PS X (.Raise (some (.Call (.Name x p) (e :: es) [] pos)) none pos') (tRz C sp W ta) := by
  obtain ⟨f, fd, ps, T, h1, h2, F, hb, hm⟩ := G.ex
  exact ps_raise hc tk (pmk_oex T h1 h2 F hr hb .nil pass0 hg hm ha hdb he hpl)
/-! ### a def that may let an error out, called where what it lets out is taken -/
structure CalX (P : Program) (w : World) (K : PySem.W.Frag) (mg : Str → Option Value) (base : Heap) (x : Str) (k : Nat) (sp : Sp) : Prop where
  ex : ∃ (f : Addr) (fd : FuncData) (ps : List Str), FnOk P w K mg base (L2.CX P w) k f fd ps sp ∧ mg x = some (.ref f) ∧ PySem.W.keepIn K (.ref f) = true ∧ Binds K fd ps []
structure MCalX (P : Program) (w : World) (K : PySem.W.Frag) (mg : Str → Option Value) (base : Heap) (C : Addr) (m : Str) (k : Nat) (sp : Sp) : Prop where
  ex : ∃ (f : Addr) (fd : FuncData) (ps : List Str), FnOk P w K mg base (L2.CX P w) k f fd ps sp ∧ Meth K C m f ∧ Binds K fd ps []
structure CmCalX (P : Program) (w : World) (K : PySem.W.Frag) (mg : Str → Option Value) (base : Heap) (C : Addr) (m : Str) (k : Nat) (sp : Sp) : Prop where
  ex : ∃ (f p : Addr) (fd : FuncData) (ps : List Str) (mc : Value), FnOk P w K mg base (L2.CX P w) k f fd ps sp ∧ Binds K fd ps [] ∧ ClX.CRead K C mc ∧ ClX.CMet K C mc m p f
def tFX (W : WX) (sp : Sp) (t : TA) : TE := fun σ H Q => t σ H fun vs H1 => sp vs H1 Q fun cls d H' => W cls d σ H'
def tMcX (W : WX) (C : Addr) (m : Str) (sp : Sp) (ta : TE) (t : TA) : TE := fun σ H Q => ta σ H fun x H1 => ∃ a dx fs, x = .ref a ∧ H1 a = some (.ins C dx fs) ∧ fs.lookup m = none ∧ t σ H1 fun vs H2 => sp (x :: vs) H2 Q fun cls d H' => W cls d σ H'
def tCmX (W : WX) (C : Addr) (sp : Sp) (ta : TE) (t : TA) : TE := fun σ H Q => ta σ H fun x H1 => x = .ref C ∧ t σ H1 fun vs H2 => sp (.ref C :: vs) H2 Q fun cls d H' => W cls d σ H'
section
variable {X : Cx} {W : WX} {k : Nat} {x m : Str} {C : Addr} {sp : Sp} {p pos apos : Pos} {e o : Expr} {es : List Expr} {ta : TE} {t : TA}
theorem go_code {f : Addr} {fd : FuncData} {ps : List Str} {pins : List (Addr × Obj)} {σ : L2.St} {H : Hp} {s : Shared} {Q : VK} {us : List Value} {vs : List V} (tk : Takes X W) (F : FnOk X.prog X.w X.K X.mg X.base (L2.CX X.prog X.w) k f fd ps sp) (hr : Room k X.A) (hb : Binds X.K fd ps [])
    (I : Inv X pins σ H s) (r : Vals vs us) (h : sp vs H Q fun cls d H' => W cls d σ H') : codeAny (model X.prog X.w) X.A (.call (.ref f) ⟨us, []⟩) (fun r s' => match r with | .ok (.ret v) => EP X pins σ Q v s' | .ok _ => False | .error e => X.xe e s') s := by
  have b : BindsTo s fd ⟨us, []⟩ (ps.zip us) := by
    have z := hb s us I.kIn (by rw [List.append_nil, ← r.length]; exact F.len _ _ _ _ h)
    rwa [List.append_nil] at z
  refine codeAny_mono (F.run X.A X.stack s H ⟨us, []⟩ us vs Q _ hr I.env0 b r h) fun rr s2 hq => ?_
  match rr, hq with
  | .error e, hq => exact tk e s2 (XE.of_call I (fun _ _ _ z => z) hq)
  | .ok (.ret u), hq => exact I.after hq
  | .ok .next, hq => exact hq.elim
  | .ok .brk, hq => exact hq.elim
  | .ok .cont, hq => exact hq.elim
theorem go_fn {f : Addr} {fd : FuncData} {ps : List Str} {pins : List (Addr × Obj)} {σ : L2.St} {H : Hp} {s : Shared} {Q : VK} {us : List Value} {vs : List V} (tk : Takes X W) (F : FnOk X.prog X.w X.K X.mg X.base (L2.CX X.prog X.w) k f fd ps sp) (hr : Room k X.A) (hb : Binds X.K fd ps [])
    (I : Inv X pins σ H s) (r : Vals vs us) (h : sp vs H Q fun cls d H' => W cls d σ H') : wpAny (model X.prog X.w) X.A (call (.ref f) us) (EP X pins σ Q) X.xe s := wpAny_call (go_code tk F hr hb I r h)
theorem pe_fX (tk : Takes X W) (G : CalX X.prog X.w X.K X.mg X.base x k sp) (hr : Room k X.A) (hg : Gl X x) (ha : PA X (e :: es) t) (hdb : (x == ("__debug__" : Str)) = false := by decide)
    (he : starEach (e :: es) X.env = (false, eval e X.env) :: starEach es X.env := by rfl) (hpl : (backTo pos (starEach es X.env)).any (·.1) = false := by rfl) : PE X (.Call (.Name x p) (e :: es) [] pos) (tFX W sp t) := by
  obtain ⟨f, fd, ps, F, hm, hk, hb⟩ := G.ex
  refine ⟨fun pins s σ H Q I h => ?_⟩
  refine wpAny_Call_Name_kw (ld_glob I hg hm (PySem.W.callWith_K (h₀ := X.base) I.ok.mod.kin hk (thn (ha.run pos pins s σ H _ I h) fun us s1 hh => ?_) he hpl) hdb)
  obtain ⟨vs, H1, I1, r, q⟩ := hh
  exact ⟨I1.kIn, go_fn tk F hr hb I1 r q⟩
theorem pe_mcX {pl : Sem Bool} (tk : Takes X W) (c : Cls X.K C) (Mm : MCalX X.prog X.w X.K X.mg X.base C m k sp) (hr : Room k X.A) (he : PE X o ta) (ha : PA X (e :: es) t)
    (hst : starEach (e :: es) X.env = (false, eval e X.env) :: starEach es X.env := by rfl) (hpl : (backTo pos (starEach es X.env)).any (·.1) = false := by rfl)
    (ht : eval (.Call (.Attribute o m apos) (e :: es) [] pos) X.env = (do
      let ov ← eval o X.env
      standAt apos.atName
      let (f, first) ← holding [ov] (getMethod ov m pl)
      callWith pos f first (backTo pos (starEach (e :: es) X.env)) (backToKw pos (keywordEach [] X.env))) := by rfl) : PE X (.Call (.Attribute o m apos) (e :: es) [] pos) (tMcX W C m sp ta t) := by
  obtain ⟨f, fd, ps, F, hm, hb⟩ := Mm.ex
  refine ⟨fun pins s σ H Q I h => ?_⟩
  refine PySem.W.methodCall_KW (pl := pl) (thn (he.run pins s σ H _ I h) fun u s1 hh => ?_) ht
  obtain ⟨x, H1, I1, rx, a, dx, fs, ex, ea, l, q⟩ := hh
  subst ex
  cases rx
  refine getmeth_ok I1 ea c hm l (PySem.W.callWith_K (first := [.ref a]) (h₀ := X.base) I.ok.mod.kin hm.kp (thn (ha.run pos pins s1 σ H1 _ I1 q) fun us s2 hh => ?_) hst hpl)
  obtain ⟨vs, H2, I2, r, q2⟩ := hh
  exact ⟨I2.kIn, go_fn (vs := .ref a :: vs) tk F hr hb I2 (.cons rfl r) q2⟩
theorem pe_cmX {pl : Sem Bool} (tk : Takes X W) (Mm : CmCalX X.prog X.w X.K X.mg X.base C m k sp) (hr : Room k X.A) (he : PE X o ta) (ha : PA X (e :: es) t)
    (hst : starEach (e :: es) X.env = (false, eval e X.env) :: starEach es X.env := by rfl) (hpl : (backTo pos (starEach es X.env)).any (·.1) = false := by rfl)
    (ht : eval (.Call (.Attribute o m apos) (e :: es) [] pos) X.env = (do
      let ov ← eval o X.env
      standAt apos.atName
      let (f, first) ← holding [ov] (getMethod ov m pl)
      callWith pos f first (backTo pos (starEach (e :: es) X.env)) (backToKw pos (keywordEach [] X.env))) := by rfl) : PE X (.Call (.Attribute o m apos) (e :: es) [] pos) (tCmX W C sp ta t) := by
  obtain ⟨f, q, fd, ps, mc, F, hb, r, c⟩ := Mm.ex
  refine ⟨fun pins s σ H Q I h => ?_⟩
  refine PySem.W.methodCall_KW (pl := pl) (thn (he.run pins s σ H _ I h) fun u s1 hh => ?_) ht
  obtain ⟨x, H1, I1, rx, ex, q1⟩ := hh
  subst ex
  cases rx
  refine ClX.getmethcm_ok I1 r c fun s2 I2 => ClX.callwith_cm I2 (ClX.base_none I1 (Nat.le_refl _)) c.fi (thn (ha.run pos _ s2 σ H1 _ I2 q1) fun us s3 hh => ?_) hst hpl
  obtain ⟨vs, H2, I3, rv, q2⟩ := hh
  refine ⟨⟨ClX.pin_at I3, I3.kIn⟩, ?_⟩
  have z : wpAny (model X.prog X.w) X.A (call (.ref s1.heap.objs.size) us) (EP X ((s1.heap.objs.size, PySem.W.methodObj (.ref f) (.ref C)) :: pins) σ Q) X.xe s3 :=
    wpAny_call (PySem.W.method_call (ClX.pin_at I3) (go_code (us := .ref C :: us) (vs := .ref C :: vs) tk F hr hb I3 (.cons rfl rv) q2))
  exact thn z fun _ _ y => ClX.unpinE y
end
/-! ### in a suite -/
/-- isinstance(e, c), e the error that the suite holds -/
def aIsX (K : PySem.W.Frag) (D a : Addr) (cls : Value) (d : Option Addr) : List V → Hp → VK → Prop := fun xs H Q => ∃ (c : V) (cv : Value) (b : Bool), xs = [.ref a, c] ∧ cls = .ref D ∧ (∀ u, RelV c u → u = cv) ∧ (∀ dd, d = some dd → ∃ fs, H dd = some (.xd fs)) ∧ PySem.W.kitOne K (.ref D) cv = some b ∧ Q (.bl b) H
theorem oIsX {X : Cx} {a D : Addr} {oe : Obj} {cls : Value} {d : Option Addr} {pn : List (Addr × Obj)} (T : ErrC X.K D) (hz : Zc cls d oe) (hf : ∃ vs, oe.data = .fields vs) : CallR (X.suite a ((a, oe) :: pn)) (.builtin "isinstance") (aIsX X.K D a cls d) := by
  intro pins s σ H xs us Q I r h
  obtain ⟨c, cv, b, rfl, ec, hcv, hd, e, q⟩ := h
  subst ec
  cases r with
  | cons rx rr =>
    cases rr with
    | cons rt rr =>
      cases rr
      cases rx
      cases hcv _ rt
      obtain ⟨hget, _⟩ := I.pin (a, oe) (List.mem_append_left _ List.mem_cons_self)
      obtain ⟨vs, hv⟩ := hf
      have J : ∃ od, PySem.W.InstAt s.heap a oe D od := by
        have hnc : PySem.W.notCls oe := by
          unfold PySem.W.notCls
          rw [hv] <;> rfl
        cases d with
        | none => exact ⟨none, hget, hz.1, hnc, by rw [hz.2]; trivial⟩
        | some dd =>
          obtain ⟨fs, hx⟩ := hd dd rfl
          have hx : ObjOk X.prog X.w H s.heap dd (.xd fs) := I.hok dd _ hx
          obtain ⟨mA, hns, _⟩ := hx
          obtain ⟨od, ho, _⟩ := lookIn_ns hns
          exact ⟨some od, hget, hz.1, hnc, by rw [hz.2]; exact ho⟩
      obtain ⟨od, J⟩ := J
      exact PySem.W.kia_one (PySem.W.kitx_exc T.cl T.x.ga T.x.gg T.x.exC T.ha T.hn T.ht T.hm) I.kIn J e (fun z => nomatch z) fun tk => ⟨.bl b, H, I.kept (t' := tk) fun _ _ z => z, rfl, q⟩
end M

namespace M
open PySem PySem.Spec PyProof.Rows L2
/-! ### own __len__, __contains__, __iter__ -/
/-- a special method's def at f -/
structure SCal (P : Program) (w : World) (K : PySem.W.Frag) (mg : Str → Option Value) (base : Heap) (f : Addr) (k : Nat) (sp : Sp) : Prop where
  ex : ∃ (fd : FuncData) (ps : List Str), FnOk P w K mg base CX0 k f fd ps sp ∧ PySem.W.isFn K (.ref f) = true ∧ Binds K fd ps []
section
variable {X : Cx} {k : Nat} {f : Addr} {sp : Sp}
theorem run_sub {A : Around} {pins : List (Addr × Obj)} {σ : L2.St} {H : Hp} {s : Shared} {Q : VK} {us : List Value} {vs : List V} (sb : Sub X k A) (G : SCal X.prog X.w X.K X.mg X.base f k sp) (I : Inv X pins σ H s) (r : Vals vs us) (h : sp vs H Q E0) :
    wpAny (model X.prog X.w) A (call (.ref f) us) (EP X pins σ Q) X.xe s := by
  obtain ⟨fd, ps, F, _, hb⟩ := G.ex
  have b : BindsTo s fd ⟨us, []⟩ (ps.zip us) := by
    have z := hb s us I.kIn (by rw [List.append_nil, ← r.length]; exact F.len _ _ _ _ h)
    rwa [List.append_nil] at z
  have e := I.env0
  have e0 : Env0 X.prog X.w X.K X.mg X.base A X.stack s H := ⟨sb.fr ▸ e.frames, e.mod, e.bs, e.bsz, e.funs, e.frf, e.hok, e.bare⟩
  refine wpAny_call (codeAny_mono (F.run A X.stack s H ⟨us, []⟩ us vs Q E0 sb.room e0 b r h) fun rr s2 hq => ?_)
  match rr, hq with
  | .ok (.ret u), hq => exact I.after hq
  | .ok .next, hq => exact hq.elim
  | .ok .brk, hq => exact hq.elim
  | .ok .cont, hq => exact hq.elim
/-- len(o), o an instance with an own __len__ at f -/
def aLenO (K : PySem.W.Frag) (f : Addr) (sp : Sp) : List V → Hp → VK → Prop := fun xs H Q => ∃ a C dx fs, xs = [.ref a] ∧ H a = some (.ins C dx fs) ∧ PySem.W.findIn K (.ref C) "__len__" = some (some (.ref f)) ∧ sp [.ref a] H (fun v H1 => ∃ i : Int, v = .int i ∧ 0 ≤ i ∧ i < 2 ^ 63 ∧ Q (.int i) H1) E0
theorem oLenO (G : SCal X.prog X.w X.K X.mg X.base f k sp) (hr : Room (k + 1) X.A) : CallR X (.builtin "len") (aLenO X.K f sp) := by
  intro pins s σ H xs us Q I r h
  obtain ⟨a, C, dx, fs, rfl, ha, hs, hsp⟩ := h
  cases r with
  | cons ra rn =>
    cases rn
    cases ra
    obtain ⟨mA, J, _⟩ := ins_get I.hok ha
    obtain ⟨od, J, _⟩ := J.look
    obtain ⟨m, hF⟩ := I.fr
    have hf : PySem.W.isFn X.K (.ref f) = true := by
      obtain ⟨_, _, _, hf, _⟩ := G.ex
      exact hf
    refine PySem.W.len_K hF I.ok.mod.kin J hs hf (thn (run_sub ⟨hr.in1, rfl⟩ G I (show Vals [V.ref a] [Value.ref a] from .cons rfl .nil) hsp) fun u s1 hh => ?_)
    obtain ⟨v, H1, I1, rv, i, ev, h0, h1, q⟩ := hh
    subst ev
    obtain ⟨t, rfl⟩ := rv
    exact ⟨⟨h0, h1⟩, .int i, H1, I1.tok _, ⟨_, rfl⟩, q⟩
/-- y in o, o an instance with an own __contains__ at f -/
def aInO (K : PySem.W.Frag) (f : Addr) (sp : Sp) (neg : Bool) : R2 := fun y x H Q => ∃ a C dx fs, x = .ref a ∧ H a = some (.ins C dx fs) ∧ PySem.W.findIn K (.ref C) "__contains__" = some (some (.ref f)) ∧ sp [.ref a, y] H (fun v H1 => ∃ b : Bool, v = .bl b ∧ Q (.bl (b != neg)) H1) E0
theorem oInO (G : SCal X.prog X.w X.K X.mg X.base f k sp) (hr : Room k X.A) : OpR X (compareOp .In) (aInO X.K f sp false) := by
  intro pins s σ H y x u v Q I ry rx h
  obtain ⟨a, C, dx, fs, rfl, ha, hs, hsp⟩ := h
  cases rx
  obtain ⟨mA, J, _⟩ := ins_get I.hok ha
  obtain ⟨od, J, _⟩ := J.look
  obtain ⟨m, hF⟩ := I.fr
  have hf : PySem.W.isFn X.K (.ref f) = true := by
    obtain ⟨_, _, _, hf, _⟩ := G.ex
    exact hf
  refine PySem.W.in_K hF I.ok.mod.kin J hs hf (thn (run_sub ⟨hr, rfl⟩ G I (show Vals [V.ref a, y] [Value.ref a, u] from .cons rfl (.cons ry .nil)) hsp) fun w1 s1 hh => ?_)
  obtain ⟨z, H1, I1, rz, b, ez, q⟩ := hh
  subst ez
  cases rz
  refine wpAny_pure ⟨.bl b, H1, I1, rfl, ?_⟩
  rwa [Bool.bne_false] at q
theorem oNotInO (G : SCal X.prog X.w X.K X.mg X.base f k sp) (hr : Room k X.A) : OpR X (compareOp .NotIn) (aInO X.K f sp true) := by
  intro pins s σ H y x u v Q I ry rx h
  obtain ⟨a, C, dx, fs, rfl, ha, hs, hsp⟩ := h
  cases rx
  obtain ⟨mA, J, _⟩ := ins_get I.hok ha
  obtain ⟨od, J, _⟩ := J.look
  obtain ⟨m, hF⟩ := I.fr
  have hf : PySem.W.isFn X.K (.ref f) = true := by
    obtain ⟨_, _, _, hf, _⟩ := G.ex
    exact hf
  refine PySem.W.notIn_K hF I.ok.mod.kin J hs hf (thn (run_sub ⟨hr, rfl⟩ G I (show Vals [V.ref a, y] [Value.ref a, u] from .cons rfl (.cons ry .nil)) hsp) fun w1 s1 hh => ?_)
  obtain ⟨z, H1, I1, rz, b, ez, q⟩ := hh
  subst ez
  cases rz
  refine wpAny_pure ⟨.bl (!b), H1, I1, rfl, ?_⟩
  rwa [Bool.bne_true] at q
end
/-! a def that is told that the heap has n places at least -/
structure FnN (P : Program) (w : World) (K : PySem.W.Frag) (mg : Str → Option Value) (base : Heap) (n k : Nat) (f : Addr) (fd : FuncData) (ps : List Str) (sp : Sp) : Prop where
  len : ∀ vs H Q E, sp vs H Q E → vs.length = ps.length
  go : ∀ (A : Around) (outer : List Env) (s : Shared) (H : Hp) (args : Args) (us : List Value) (vs : List V) (Q : VK) (E : XK), n ≤ s.heap.objs.size → Room k A → Env0 P w K mg base A outer s H → BindsTo s fd args (ps.zip us) → Vals vs us → sp vs H Q E →
    codeAny (model P w) A (.call (.ref f) args) (CR CX0 outer P w H s Q E) s
section
variable {P : Program} {w : World} {K : PySem.W.Frag} {mg : Str → Option Value} {base : Heap} {x qual : Str} {params : Arguments} {body : List Stmt} {scope : Scope} {dvs : List V} {kws : List (Str × V)} {f : Addr} {fd : FuncData}
theorem FnN.mk2 {N ps : List Str} {n k : Nat} {sp : Sp} (F : FunD K x qual params body scope dvs kws f fd) (S : FnScope N ps scope) (len : ∀ vs H Q E, sp vs H Q E → vs.length = ps.length)
    (hbody : ∀ (cdv : Value) (A : Around) (outer : List Env) (s : Shared) (H : Hp) (vs : List V) (Q : VK) (E : XK), n ≤ s.heap.objs.size → Room k (A.deeper (envOfC qual scope s.heap.objs.size f cdv)) → sp vs H Q E →
      ∃ t, PSs (cxOf CX0 P w K mg base N qual scope f cdv A outer s H E) body t ∧ t { nx := fun _ H1 => Q .non H1, rt := Q } (start N vs) H) : FnN P w K mg base n (k + 1) f fd ps sp := by
  refine ⟨len, fun A outer s H args us vs Q E hn hr e0 hb r hsp => ?_⟩
  obtain ⟨oc, od, dV, kV, doc, pm, an, cdv, ct, osl, rfl, lk, hcd, _, _⟩ := F.ex
  have hl := len _ _ _ _ hsp; have KX : K.In s.heap := e0.mod.kin.keeps fun b o e => (e0.bs b o e).1; have lim : s.heap.NoLimit := e0.mod.nolimit.keeps fun b o e => (e0.bs b o e).1
  have hk : ∀ y ∈ ps.zip us, scope.names.lookup y.1 = some .local ∨ (scope.names.lookup y.1 = some .cell ∧ ((cellsFrom (s.heap.objs.size + 1) scope.names []).lookup y.1).isSome = true) := fun y hy => by
    rcases S.par y.1 (List.of_mem_zip (a := y.1) (b := y.2) hy).1 with q | q
    · exact .inl q
    · exact .inr ⟨q, PySem.W.cellsFrom_some _ _ _ (.inl q)⟩
  refine codeAny_call_function hr.depth (KX _ _ lk) rfl S.co S.gen rfl (PySem.W.codeRec_of KX hcd) (hb _ _ _ _ (wpAny_newFunctionEnv_cells S.kind hk fun env he s1 z => ?_))
  subst he
  refine ⟨lim.keeps z.toInCall.keep, codeAny_func ?_⟩
  obtain ⟨t, ht, hq⟩ := hbody cdv A outer s H vs Q E hn (hr.deeper _) hsp
  have I := inv_start (CX := CX0) (E := E) (N := N) (qual := qual) S hr.hd e0 hl r z
  refine wpAny_mono (ht.run [] s1 (start N vs) H _ I hq) (fun fl s2 hs => ?_) fun e s2 hs => hs
  have fin : ∀ {σ1 : L2.St} {H1 : Hp} {v : V} {u : Value}, Inv (cxOf CX0 P w K mg base N qual scope f cdv A outer s H E) [] σ1 H1 s2 → RelV v u → Q v H1 → CE outer P w H s Q u s2 := fun {σ1 H1 v u} J rv q => ⟨v, H1, J.os, J.bare, J.base, J.hok, rv, q⟩
  cases fl with
  | ret u => obtain ⟨v, σ1, H1, J, rv, q⟩ := hs; exact fin J rv q
  | next => obtain ⟨σ1, H1, J, q⟩ := hs; exact fin (v := V.non) (u := Value.none) J rfl q
  | brk => obtain ⟨_, _, _, q⟩ := hs; exact False.elim q
  | cont => obtain ⟨_, _, _, q⟩ := hs; exact False.elim q
end
/-- a def at f that keeps sp n where the heap has n places -/
structure NCal (P : Program) (w : World) (K : PySem.W.Frag) (mg : Str → Option Value) (base : Heap) (f : Addr) (k : Nat) (sp : Nat → Sp) : Prop where
  ex : ∃ (fd : FuncData) (ps : List Str), (∀ n, FnN P w K mg base n k f fd ps (sp n)) ∧ PySem.W.isFn K (.ref f) = true ∧ Binds K fd ps []
theorem oIterN {X : Cx} {n : Nat} (hn : n ≤ X.s_0.heap.objs.size) : CallR X (.builtin "iter") (ItX.rIterN X.K n) := fun pins s σ H xs us Q I r h => by
  obtain ⟨l, zs, e, hq, q⟩ := h
  exact ItX.call_iterN pins s σ H xs us Q I r ⟨l, zs, e, hq, fun it h1 h2 => q it h1 (Nat.le_trans hn h2)⟩
/-- for .. in o, o an instance whose __iter__ at f gives a new iterator of a list -/
def iOwn (K : PySem.W.Frag) (f : Addr) (sp : Nat → Sp) (te : TE) : TI := fun σ H R => te σ H fun x H1 => ∃ a C dx fs, x = .ref a ∧ H1 a = some (.ins C dx fs) ∧ PySem.W.findIn K (.ref C) "__iter__" = some (some (.ref f)) ∧
  ∀ n, sp n [.ref a] H1 (fun v H2 => ∃ l it, v = .ref it ∧ n ≤ it ∧ H2 it = some (ItO l it 0) ∧ R (ItX.ItlF K l 0) (ItX.dropH H2 it)) E0
theorem pi_own {X : Cx} {k : Nat} {f : Addr} {sp : Nat → Sp} {tg e : Expr} {te : TE} (G : NCal X.prog X.w X.K X.mg X.base f k sp) (hr : Room k X.A) (he : PE X e te) : PI X tg e (iOwn X.K f sp te) := by
  refine ⟨fun pins s σ H R I h => thn (he.run pins s σ H _ I h) fun u s1 hh => ?_⟩
  obtain ⟨x, H1, I1, rx, a, C, dx, fs, ex, ha, hs, hsp⟩ := hh
  subst ex
  cases rx
  have hsp := hsp X.s_0.heap.objs.size
  obtain ⟨fd, ps, F, hf, hb⟩ := G.ex
  obtain ⟨mA, J, _⟩ := ins_get I1.hok ha
  obtain ⟨od, J, _⟩ := J.look
  obtain ⟨m, hF⟩ := I1.fr
  have r : Vals [V.ref a] [Value.ref a] := .cons rfl .nil
  have b : BindsTo s1 fd ⟨[.ref a], []⟩ (ps.zip [.ref a]) := by
    have z := hb s1 [.ref a] I1.kIn (by rw [List.append_nil, ← r.length]; exact (F _).len _ _ _ _ hsp)
    rwa [List.append_nil] at z
  refine PySem.W.owit_iter hF I1.ok.mod.kin J hs hf (wpAny_call (codeAny_mono ((F _).go X.A X.stack s1 H1 ⟨[.ref a], []⟩ [.ref a] [.ref a] _ E0 I1.sz hr I1.env0 b r hsp) fun rr s2 hq => ?_))
  match rr, hq with
  | .ok .next, hq => exact hq.elim
  | .ok .brk, hq => exact hq.elim
  | .ok .cont, hq => exact hq.elim
  | .ok (.ret u), hq =>
    obtain ⟨v, H3, I3, rv, l, it, ev, hn, hi0, q0⟩ := I1.after hq
    subst ev
    cases rv
    have eo := itO_get I3 hi0
    have hT : s2.TypeIs (.ref it) "list_iterator" := ⟨_, eo, rfl⟩
    have hi' := hi0
    unfold ItO at hi'
    show wpAny _ _ (specialOf (.ref it) "__next__") _ _ _
    refine wpAny_specialOf (name := Str.ofString "__next__") hT slot_listiter_next.lookup ?_
    have st : s2.heap.IsListIter it l (0 + 0) := ⟨_, eo, rfl, rfl⟩
    refine ⟨it, [it], _, _, ItX.dropH H3 it, rfl, ItX.inv_drop I3 hi', ItX.turn_listF l it 0, st, fun c hc => ?_, q0⟩
    have e : c = it := by simpa using hc
    rw [e]
    exact ItX.inv_fp I3 hi0 hn
end M
namespace M
open PySem PySem.Spec PyProof.Rows L2
/-! ### readings of a try with clauses -/
def tTry (tb : WX → TS) (Wh : Ends → WX) : TS := fun D σ H => tb (Wh D) D σ H
def hNo : Ends → WX := fun _ _ _ _ _ => False
def hOut (E : XK) : Ends → WX := fun _ cls d _ H => E cls d H
def hCls (K : PySem.W.Frag) (c : Value) (ts : Addr → Value → Option Addr → TS) (Wh : Ends → WX) : Ends → WX := fun D cls d σ H => ∃ b, PySem.W.exmOne K cls c = some b ∧ (b = true → ∀ a, H a = none → ts a cls d D σ H) ∧ (b = false → Wh D cls d σ H)
def hAs (K : PySem.W.Frag) (c : Value) (i : Nat) (ts : Addr → Value → Option Addr → TS) (Wh : Ends → WX) : Ends → WX := fun D cls d σ H => ∃ b, PySem.W.exmOne K cls c = some b ∧
  (b = true → ∀ a, H a = none → ts a cls d { nx := fun σ' H' => D.nx (σ'.set i none) H', rt := D.rt, bk := fun σ' H' => D.bk (σ'.set i none) H', ct := fun σ' H' => D.ct (σ'.set i none) H' } (σ.set i (some (.ref a))) H) ∧ (b = false → Wh D cls d σ H)
section
variable {X : Cx} {hds : List ExceptHandler} {Wh : Ends → WX} {Wout : WX} {x n : Str} {c : Value} {np pos pos' : Pos} {b₀ : Stmt} {suite body : List Stmt} {ts : Addr → Value → Option Addr → TS} {tb : WX → TS} {i : Nat}
theorem hd_no (hs : X.stack = X.env :: X.outer) (hf : X.env.frame = some X.env.locals) : Hdl X [] hNo := hdl_nil hs hf takes_none5
theorem hd_out {E : XK} (hs : X.stack = X.env :: X.outer) (hf : X.env.frame = some X.env.locals) (tk : Takes X fun cls d _ H => E cls d H) : Hdl X [] (hOut E) := hdl_nil hs hf tk
theorem hd_cls (hf : X.env.frame = some X.env.locals) (hc : Names X x c) (hsu : ∀ (a : Addr) (oe : Obj) (cls : Value) (d : Option Addr) (pn : List (Addr × Obj)), Zc cls d oe → (∃ vs, oe.data = .fields vs) → PSs (X.suite a ((a, oe) :: pn)) (b₀ :: suite) (ts a cls d)) (r : Hdl X hds Wh) :
    Hdl X (.ExceptHandler (some (.Name x np)) none (b₀ :: suite) pos' :: hds) (hCls X.K c ts Wh) := hdl_cls hf hc hsu r
theorem hd_as (hf : X.env.frame = some X.env.locals) (hN : X.N.Nodup) (hi : X.N[i]? = some n) (hl : X.env.kindOf n = some .local) (hc : Names X x c) (hsu : ∀ (a : Addr) (oe : Obj) (cls : Value) (d : Option Addr) (pn : List (Addr × Obj)), Zc cls d oe → (∃ vs, oe.data = .fields vs) → PSs (X.suite a ((a, oe) :: pn)) (b₀ :: suite) (ts a cls d)) (r : Hdl X hds Wh) :
    Hdl X (.ExceptHandler (some (.Name x np)) (some n) (b₀ :: suite) pos' :: hds) (hAs X.K c i ts Wh) := hdl_as hf hN hi hl hc hsu r
theorem ps_try {h₀ : ExceptHandler} (hs : X.stack = X.env :: X.outer) (hf : X.env.frame = some X.env.locals)
    (hb : ∀ (W : WX) (pn : List (Addr × Obj)) (xe : Value → Shared → Prop), Takes (X.tr pn xe) W → PassesOwn (model X.prog X.w) X.A X.env xe → PSs (X.tr pn xe) body (tb W)) (hh : Hdl X (h₀ :: hds) Wh) : PS X (.Try body (h₀ :: hds) [] [] pos) (tTry tb Wh) := ps_try_h hs hf hb hh
end
/-- e.f, e the error that the suite holds -/
theorem pe_exf {X : Cx} {a C : Addr} {oe : Obj} {cls : Value} {d : Option Addr} {pn : List (Addr × Obj)} {e : Expr} {te : TE} {pos : Pos} {n : Str} (T : ErrC X.K C) (hno : PySem.W.findIn X.K (.ref C) n = some none)
    (hz : Zc cls d oe) (hf : ∃ vs, oe.data = .fields vs) (he : PE (X.suite a ((a, oe) :: pn)) e te) (hb : attributeBase e n X.env (eval e X.env) = eval e X.env := by rfl) : PE (X.suite a ((a, oe) :: pn)) (.Attribute e n pos) (tXf a cls d C n te) := pe_xf T.x hno hz hf he hb
end M

namespace M
open PySem PySem.Spec PyProof.Rows L2
/-! ### methods by the receiver's own class; instances called; == where the right one's class lies below the left one's -/
structure MCalD (P : Program) (w : World) (K : PySem.W.Frag) (mg : Str → Option Value) (base : Heap) (R : Addr → Sp → Prop) (m : Str) (k : Nat) : Prop where
  ex : ∀ C sp, R C sp → Cls K C ∧ ∃ (f : Addr) (fd : FuncData) (ps : List Str), FnOk P w K mg base CX0 k f fd ps sp ∧ Meth K C m f ∧ Binds K fd ps []
def tMcD (R : Addr → Sp → Prop) (m : Str) (ta : TE) (t : TA) : TE := fun σ H Q => ta σ H fun x H1 => ∃ a C dx fs sp, x = .ref a ∧ H1 a = some (.ins C dx fs) ∧ R C sp ∧ fs.lookup m = none ∧ t σ H1 fun vs H2 => sp (x :: vs) H2 Q E0
/-- the instances of S's classes may be called -/
structure CallD (P : Program) (w : World) (K : PySem.W.Frag) (mg : Str → Option Value) (base : Heap) (S : Addr → Prop) (k : Nat) (sp : Sp) : Prop where
  ex : ∃ (g : Addr) (fd : FuncData) (ps : List Str), FnOk P w K mg base CX0 k g fd ps sp ∧ Binds K fd ps [] ∧ ∀ C, S C → StX.CallO K C g
def tCallD (S : Addr → Prop) (sp : Sp) (tf : TE) (t : TA) : TE := fun σ H Q => tf σ H fun y H1 => ∃ a, y = V.ref a ∧ t σ H1 fun vs H2 => ∃ C dx fs, H2 a = some (.ins C dx fs) ∧ S C ∧ sp (V.ref a :: vs) H2 Q E0
section
variable {X : Cx} {R : Addr → Sp → Prop} {S : Addr → Prop} {k : Nat} {m : Str} {sp : Sp} {o e fe : Expr} {es : List Expr} {ta tf : TE} {t : TA} {pos apos : Pos}
theorem pe_mcD {pl : Sem Bool} (Mm : MCalD X.prog X.w X.K X.mg X.base R m k) (hr : Room k X.A) (he : PE X o ta) (ha : PA X (e :: es) t)
    (hst : starEach (e :: es) X.env = (false, eval e X.env) :: starEach es X.env := by rfl) (hpl : (backTo pos (starEach es X.env)).any (·.1) = false := by rfl)
    (ht : eval (.Call (.Attribute o m apos) (e :: es) [] pos) X.env = (do
      let ov ← eval o X.env
      standAt apos.atName
      let (f, first) ← holding [ov] (getMethod ov m pl)
      callWith pos f first (backTo pos (starEach (e :: es) X.env)) (backToKw pos (keywordEach [] X.env))) := by rfl) : PE X (.Call (.Attribute o m apos) (e :: es) [] pos) (tMcD R m ta t) := by
  refine ⟨fun pins s σ H Q I h => ?_⟩
  refine PySem.W.methodCall_KW (pl := pl) (thn (he.run pins s σ H _ I h) fun u s1 hh => ?_) ht
  obtain ⟨x, H1, I1, rx, a, C, dx, fs, sp, ex, ea, hR, l, q⟩ := hh
  obtain ⟨c, f, fd, ps, F, hm, hb⟩ := Mm.ex C sp hR
  subst ex
  obtain rfl : u = Value.ref a := rx
  refine getmeth_ok I1 ea c hm l ?_
  refine PySem.W.callWith_K (first := [.ref a]) (h₀ := X.base) I.ok.mod.kin hm.kp (thn (ha.run pos pins s1 σ H1 _ I1 q) fun us s2 hh => ?_) hst hpl
  obtain ⟨vs, H2, I2, r, q2⟩ := hh
  exact ⟨I2.kIn, run_fn (us := .ref a :: us) (vs := .ref a :: vs) F hr hb .nil (pass0 (X := X)) I2 (.cons rfl r) (by rw [List.append_nil]; exact q2)⟩
theorem run_code {f : Addr} {fd : FuncData} {ps : List Str} {pins : List (Addr × Obj)} {σ : L2.St} {H : Hp} {s : Shared} {Q : VK} {us : List Value} {vs : List V} (F : FnOk X.prog X.w X.K X.mg X.base CX0 k f fd ps sp) (hr : Room k X.A) (hb : Binds X.K fd ps [])
    (I : Inv X pins σ H s) (r : Vals vs us) (h : sp vs H Q E0) : codeAny (model X.prog X.w) X.A (.call (.ref f) ⟨us, []⟩) (fun r s' => match r with | .ok (.ret v) => EP X pins σ Q v s' | .ok _ => False | .error e => X.xe e s') s := by
  have b : BindsTo s fd ⟨us, []⟩ (ps.zip us) := by
    have z := hb s us I.kIn (by rw [List.append_nil, ← r.length]; exact F.len _ _ _ _ h)
    rwa [List.append_nil] at z
  refine codeAny_mono (F.run X.A X.stack s H ⟨us, []⟩ us vs Q E0 hr I.env0 b r h) fun rr s2 hq => ?_
  match rr, hq with
  | .error e, hq => exact pass0 (X := X) pins σ H s e s2 I hq
  | .ok (.ret u), hq => exact I.after hq
  | .ok .next, hq => exact hq.elim
  | .ok .brk, hq => exact hq.elim
  | .ok .cont, hq => exact hq.elim
theorem pe_callD (G : CallD X.prog X.w X.K X.mg X.base S k sp) (hr : Room k X.A) (hf : PE X fe tf) (ha : PA X (e :: es) t)
    (ht : eval (.Call fe (e :: es) [] pos) X.env = (do callWith pos (← eval fe X.env) [] (backTo pos (starEach (e :: es) X.env)) (backToKw pos (keywordEach [] X.env))) := by rfl)
    (he : starEach (e :: es) X.env = (false, eval e X.env) :: starEach es X.env := by rfl) (hpl : (backTo pos (starEach es X.env)).any (·.1) = false := by rfl) : PE X (.Call fe (e :: es) [] pos) (tCallD S sp tf t) := by
  obtain ⟨g, fd, ps, F, hb, hc⟩ := G.ex
  refine ⟨fun pins s σ H Q I h => ?_⟩
  refine Call_ (thn (hf.run pins s σ H _ I h) fun u s1 hh => ?_) ht
  obtain ⟨y, H1, I1, ry, a, ey, q⟩ := hh
  subst ey
  obtain rfl : u = Value.ref a := ry
  refine StX.callO_with (thn (ha.run pos pins s1 σ H1 _ I1 q) fun us s2 hh => ?_) he hpl
  obtain ⟨vs, H2, I2, r, C, dx, fs, hi, hS, q2⟩ := hh
  obtain ⟨ox, od, J, hd⟩ := StX.insC_at (X := X) I2 (.inr ⟨dx, fs, hi⟩)
  have c := hc C hS
  exact ⟨⟨C, ox, od, J, hd⟩, wpAny_call (PySem.W.kco_code I2.kIn J hd c.at_ c.fn c.fi (run_code (us := .ref a :: us) (vs := .ref a :: vs) F hr hb I2 (.cons rfl r) q2))⟩
end
section
open PySem.W
variable {prog : Program} {w : World} {A : Around} {E : Value → Shared → Prop} {s : Shared} {K : Frag} {x y C D L f : Addr} {h₀ : Heap} {m : Str → Option Value} {ox oy : Obj} {od ody : Option Obj}
theorem cmp_R {Q : Value → Shared → Prop} (hu : A.units < cLine) (F : Fr h₀ L s.heap m) (X₀ : K.In h₀) (I : InstAt s.heap x ox C od) (J : InstAt s.heap y oy D ody) (hne : D ≠ C) (hsub : subIn K (.ref D) (.ref C) = some true)
    (hs : findIn K (.ref D) "__eq__" = some (some (.ref f))) (hf : isFn K (.ref f) = true)
    (h : wpAny (model prog w) A (call (.ref f) [.ref y, .ref x]) (PySem.W.CmpBack Q) E s) : wpAny (model prog w) A (richCompare .Eq (.ref x) (.ref y)) Q E s := by
  have X := X₀.keeps F.keep
  have one : wpAny (model prog w) A (tryCompare (.ref y) "__eq__" (.ref x)) (fun r s' => ∃ v, r = some v ∧ Q v s') E s := by
    unfold tryCompare
    refine wpAny_bind (ifBound_K X J hs hf (wpAny_mono h (fun v s' hv => ?_) fun _ _ e => e))
    cases v <;> first | exact hv.elim | exact wpAny_pure ⟨_, rfl, hv⟩
  unfold richCompare
  simp only [oneThing_ref]
  refine wpAny_holding (wpAny_bind (wpAny_cRoomFor hu ?_))
  refine wpAny_bind (I.type.here (wpAny_bind (J.type.here ?_)))
  have e0 : ((Value.ref C != Value.ref D) = true) := by simp [bne_iff_ne, Ne.symm hne]
  rw [if_pos e0]
  refine wpAny_bind ((looks_subIn X hsub).here ?_)
  simp only [if_true]
  refine wpAny_bind (wpAny_mono one (fun r s' z => ?_) fun _ _ e => e)
  obtain ⟨v, rfl, hq⟩ := z
  exact wpAny_bind (wpAny_rule (wpAny_pure hq))
end
/-- .. where the class of y lies below that of x: y is asked -/
def aEqR (K : PySem.W.Frag) (f : Addr) (sp : Sp) : R2 := fun x y H Q => ∃ a C dx fs b D d2 fs2, x = .ref a ∧ y = .ref b ∧ H a = some (.ins C dx fs) ∧ H b = some (.ins D d2 fs2) ∧ PySem.W.findIn K (.ref D) "__eq__" = some (some (.ref f)) ∧ D ≠ C ∧
  PySem.W.subIn K (.ref D) (.ref C) = some true ∧ sp [y, x] H (fun v H1 => ∃ b, v = .bl b ∧ Q v H1) E0
def aOwnR (K : PySem.W.Frag) (f : Addr) (sp : Sp) : R2 := fun x y H Q => aOwn K f sp x y H Q ∨ aEqR K f sp x y H Q
theorem oOwnR {X : Cx} {k : Nat} {f : Addr} {sp : Sp} (G : EqCal X.prog X.w X.K X.mg X.base f k sp) (hr : Room k X.A) (hu : X.A.units < cLine) : OpR X (compareOp .Eq) (aOwnR X.K f sp) := by
  intro pins s σ H x y v u Q I rx ry h
  rcases h with h | h
  · exact oOwnC G hr hu pins s σ H x y v u Q I rx ry h
  obtain ⟨fd, ps, F, hf, hb⟩ := G.ex
  obtain ⟨a, C, dx, fs, b, D, d2, fs2, rfl, rfl, ha, hb2, hs, hne, hsub, hsp⟩ := h
  cases rx
  cases ry
  obtain ⟨mA, J, _⟩ := ins_get I.hok ha
  obtain ⟨od, J, _⟩ := J.look
  obtain ⟨mB, J2, _⟩ := ins_get I.hok hb2
  obtain ⟨od2, J2, _⟩ := J2.look
  obtain ⟨m, hF⟩ := I.fr
  show wpAny (model X.prog X.w) X.A (richCompare .Eq (.ref a) (.ref b)) (EP X pins σ Q) X.xe s
  refine cmp_R hu hF I.ok.mod.kin J J2 hne hsub hs hf ?_
  have r2 : Vals [V.ref b, V.ref a] [Value.ref b, Value.ref a] := .cons rfl (.cons rfl .nil)
  refine thn (run_fn (Q := fun v H1 => ∃ b, v = .bl b ∧ Q v H1) (us := [.ref b, .ref a]) (vs := [.ref b, .ref a]) F hr hb .nil (pass0 (X := X)) I r2 (by simpa using hsp)) fun w1 s1 hh => ?_
  obtain ⟨z, H1, I1, rz, b, ez, q⟩ := hh
  subst ez
  cases rz
  exact ⟨.bl b, H1, I1, rfl, q⟩
end M

namespace M
open PySem PySem.Spec PyProof.Rows L2 NdefX
/-! ### defs of a class that say super(): the class stands in the cell __class__ -/
/-- the def: it captured __class__, the class D in the cell cc; its code object at cda -/
structure FunS (P : Program) (K : PySem.W.Frag) (x qual : Str) (params : Arguments) (body : List Stmt) (scope : Scope) (dvs : List V) (kws : List (Str × V)) (D cc cda f : Addr) (fd : FuncData) : Prop where
  ex : ∃ (oc : Value) (od : Option Addr) (dV kV doc pm : Value) (an : Option Addr) (ct : Value) (osl : Array (Option Value)),
    fd = PySem.W.fnX x qual params body scope [("__class__", cc)] dV kV doc pm an (.ref cda) ct ∧ K.lookup f = some ⟨oc, od, .func fd, osl⟩ ∧ PySem.W.codeIn K (.ref cda) qual = true ∧ DflV K dV dvs ∧ KwdV K kV kws
  code : ∃ (ccl : Value) (cdd : Option Addr) (vs : Array Value) (ccs : Array (Option Value)) (file : Str) (tf : Tok), K.lookup cda = some ⟨ccl, cdd, .fields vs, ccs⟩ ∧ vs[2]? = some (.str file tf) ∧ ((P.main.file : Str) == file) = true
  cell : ∃ (cl : Value) (cld : Option Addr) (csl : Array (Option Value)), K.lookup cc = some ⟨cl, cld, .cell (some (.ref D)), csl⟩
  cls : ∃ cd, PySem.W.clsIn K D = some cd
  kp : PySem.W.keepIn K (.ref f) = true
  top : (P.main.scope.names.lookup ("super" : Str)).isSome = false
/-- the slots of such a def: parameters are plain locals, other names may stand in cells, __class__ is free -/
structure SScope (N ps : List Str) (sc : Scope) : Prop where
  kind : sc.kind = .function
  co : sc.isCoroutine = false
  gen : sc.isGenerator = false
  nd : N.Nodup
  pre : N.take ps.length = ps
  par : ∀ x ∈ ps, sc.names.lookup x = some .local
  free : ∀ y ∈ sc.names, y.2 = .free → y.1 = ("__class__" : Str)
def sscB (N ps : List Str) (sc : Scope) : Bool :=
  decide (sc.kind = .function) && (!sc.isCoroutine && (!sc.isGenerator && (decide N.Nodup && (decide (N.take ps.length = ps) && (ps.all (fun x => decide (sc.names.lookup x = some .local)) && sc.names.all (fun y => !decide (y.2 = .free) || decide (y.1 = ("__class__" : Str))))))))
theorem sscope_by {N ps : List Str} {sc : Scope} (h : sscB N ps sc = true) : SScope N ps sc := by
  unfold sscB at h
  simp only [Bool.and_eq_true, Bool.not_eq_true', decide_eq_true_eq, List.all_eq_true, Bool.or_eq_true, decide_eq_false_iff_not] at h
  obtain ⟨h1, h2, h3, h4, h5, h6, h7⟩ := h
  exact ⟨h1, h2, h3, h4, h5, h6, fun y hy e => (h7 y hy).elim (fun z => absurd e z) id⟩
/-- own cells, then the captured one -/
abbrev cellsS (scope : Scope) (L cc : Addr) : List (Str × Addr) := cellsFrom (L + 1) scope.names [("__class__", cc)]
abbrev envS (qual : Str) (scope : Scope) (L f cda cc : Addr) : Env := PySem.W.envX qual scope L f (.ref cda) (cellsS scope L cc)
def scx (CX : CXT) (P : Program) (w : World) (K : PySem.W.Frag) (mg : Str → Option Value) (base : Heap) (N : List Str) (qual : Str) (scope : Scope) (cc cda f : Addr) (A : Around) (outer : List Env) (s : Shared) (H : Hp) (E : XK) : Cx where
  prog := P
  w := w
  K := K
  mg := mg
  base := base
  A := A.deeper (envS qual scope s.heap.objs.size f cda cc)
  N := N
  s_0 := s
  H_0 := H
  env := envS qual scope s.heap.objs.size f cda cc
  outer := outer
  stack := envS qual scope s.heap.objs.size f cda cc :: outer
  ex := []
  calm := true
  fn := fun x => x != ("__class__" : Str)
  pn := []
  xe := fun e s' => wpAny (model P w) (A.deeper (envS qual scope s.heap.objs.size f cda cc)) (leaving (envS qual scope s.heap.objs.size f cda cc) e) (fun _ s'' => CX outer H s E e s'') (fun e' s'' => CX outer H s E e' s'') s'
theorem cellsFrom_app : ∀ (names : List (Str × NameKind)) (n : Nat) (acc : List (Str × Addr)), cellsFrom n names acc = cellsFrom n names [] ++ acc
  | [], _, _ => rfl
  | (name, kind) :: r, n, acc => by
    unfold cellsFrom
    split
    · rw [cellsFrom_app r (n + 1) ((name, n) :: acc), cellsFrom_app r (n + 1) [(name, n)], List.append_assoc]; rfl
    · exact cellsFrom_app r n acc
theorem newEnvS {M : Model} {A : Around} {E : Value → Shared → Prop} {s : Shared} {scope : Scope} {globals : Addr} {closure : List (Str × Addr)} {binds : List (Str × Value)} {qual : Str} {func : Option Addr} {code : Value} {builtins : Addr} {Q : Env → Shared → Prop}
    (hl : ∀ x ∈ binds, scope.names.lookup x.1 = some .local) (hk : scope.kind = .function)
    (hQ : ∀ h', h'.Ns s.heap.objs.size (fun x => binds.reverse.lookup x) → Heap.SameBut s.heap.objs.size (pushCells (s.heap.push { cls := .type "frame", data := .dict #[] }) scope.names) h' →
      Q (newEnv scope s.heap.objs.size globals (cellsFrom (s.heap.objs.size + 1) scope.names closure) qual func code none builtins) { s with heap := h', toks := s.toks + binds.length }) :
    wpAny M A (newFunctionEnv scope globals closure binds qual func code none builtins) Q E s := by
  simp only [newFunctionEnv, Option.isSome_none, Bool.false_eq_true, if_false]
  simp only [newEnv] at hQ
  refine wpAny_bind (wpAny_alloc ?_)
  refine wpAny_bind (wpAny_layCells _ (fun name kind cells => by cases hkc : kind == NameKind.cell <;> simp [hkc]) _ _ _ _ ?_)
  rw [show ({ s with heap := s.heap.push { cls := .type "frame", data := .dict #[] } } : Shared).heap.objs.size = s.heap.objs.size + 1 from Heap.size_push ..]
  refine wpAny_bind ?_
  refine wpAny_forIn_list _
    (fun rest _ s' => ∃ done h', binds = done ++ rest ∧ s' = { s with heap := h', toks := s.toks + done.length } ∧
      h'.Ns s.heap.objs.size (fun x => done.reverse.lookup x) ∧
      Heap.SameBut s.heap.objs.size (pushCells (s.heap.push { cls := .type "frame", data := .dict #[] }) scope.names) h') _ ?_ ?_ binds _
    ⟨[], _, rfl, rfl, (Heap.Ns.new s.heap (.type "frame")).keeps (pushCells_keeps _ _), Heap.SameBut.refl ..⟩
  · rintro ⟨name, v⟩ rest _ s' ⟨done, h', hb, rfl, hns, hsb⟩
    have hk' : Env.kindOf { scope, locals := s.heap.objs.size, globals, cells := cellsFrom (s.heap.objs.size + 1) scope.names closure, qual, func, code, frame := some s.heap.objs.size, builtins } name = some .local :=
      hl (name, v) (by rw [hb]; simp)
    have hp : (({ scope, locals := s.heap.objs.size, globals, cells := cellsFrom (s.heap.objs.size + 1) scope.names closure, qual, func, code, frame := some s.heap.objs.size, builtins } : Env).scope.kind == .class || (({ scope, locals := s.heap.objs.size, globals, cells := cellsFrom (s.heap.objs.size + 1) scope.names closure, qual, func, code, frame := some s.heap.objs.size, builtins } : Env).scope.kind == .module &&
        ({ scope, locals := s.heap.objs.size, globals, cells := cellsFrom (s.heap.objs.size + 1) scope.names closure, qual, func, code, frame := some s.heap.objs.size, builtins } : Env).locals != ({ scope, locals := s.heap.objs.size, globals, cells := cellsFrom (s.heap.objs.size + 1) scope.names closure, qual, func, code, frame := some s.heap.objs.size, builtins } : Env).globals)) = false := by
      show (scope.kind == .class || (scope.kind == .module && _)) = false
      rw [hk]; rfl
    simp only [storeName_local hk' hp]
    refine wpAny_bind (wpAny_nsSet hns fun h'' hns' hsb' => wpAny_pure ⟨done ++ [(name, v)], h'', by simp [hb], ?_, ?_, hsb.trans hsb'⟩)
    · simp [Nat.add_assoc]
    · rw [lookup_reverse_snoc]; exact hns'
  · rintro _ s' ⟨done, h', hb, rfl, hns, hsb⟩
    rw [List.append_nil] at hb; subst hb
    exact wpAny_pure (hQ h' hns hsb)
section
variable {CX : CXT} {P : Program} {w : World} {K : PySem.W.Frag} {mg : Str → Option Value} {base : Heap} {N ps : List Str} {qual : Str} {scope : Scope} {cc cda f : Addr} {A : Around} {outer : List Env} {s : Shared} {H : Hp} {E : XK} {us : List Value} {vs : List V}
theorem inv_startS {h₁ : Heap} {tk : Nat} {D : Value} (S : SScope N ps scope) (hd : A.handled = none) (e0 : Env0 P w K mg base A outer s H) (hl : vs.length = ps.length) (r : Vals vs us) (hcell : s.heap.IsCell cc (some D)) (hH : H cc = none)
    (hns : h₁.Ns s.heap.objs.size fun y => (ps.zip us).reverse.lookup y) (hsb : Heap.SameBut s.heap.objs.size (pushCells (s.heap.push { cls := .type "frame", data := .dict #[] }) scope.names) h₁) :
    Inv (scx CX P w K mg base N qual scope cc cda f A outer s H E) [] (start N vs) H { s with heap := h₁, toks := tk } := by
  have hpl : ps.length ≤ N.length := by have := congrArg List.length S.pre; rw [List.length_take] at this; omega
  have kp : ∀ b o, s.heap.get? b = some o → h₁.get? b = some o := fun b o e => hsb.extBut b o (Nat.ne_of_lt (Heap.lt_size e)) (pushCells_keeps _ _ b o (Heap.get?_push_of_some _ e))
  have noA : ∀ b : Addr, b ∉ (scx CX P w K mg base N qual scope cc cda f A outer s H E).ex := fun b z => absurd (show b ∈ ([] : List Addr) from z) (by simp)
  have cellK : ∀ {c : Addr} {v : Option Value}, s.heap.IsCell c v → h₁.IsCell c v := fun {c v} ⟨o, ho, hd⟩ => ⟨o, kp _ _ ho, hd⟩
  have ok := cellsFrom_ok scope.names (s.heap.push { cls := .type "frame", data := .dict #[] }) (s.heap.objs.size + 1) [] ⟨fun _ _ hm => (nomatch hm), List.Pairwise.nil⟩ (by rw [Heap.size_push]; exact Nat.le_refl _)
  rw [Heap.size_push] at ok
  have hcc : cc < s.heap.objs.size := hcell.lt
  have mem : ∀ y c, (cellsS scope s.heap.objs.size cc).lookup y = some c → ((y, c) ∈ cellsFrom (s.heap.objs.size + 1) scope.names [] ∧ s.heap.objs.size + 1 ≤ c ∧ h₁.IsCell c none) ∨ (y = ("__class__" : Str) ∧ c = cc) := fun y c e => by
    have m := PySem.mem_of_lookup e
    unfold cellsS at m
    rw [cellsFrom_app] at m
    rcases List.mem_append.mp m with m | m
    · obtain ⟨z1, z2⟩ := ok.empty y c m
      obtain ⟨o, ho, hod⟩ := z1
      exact .inl ⟨m, z2, o, hsb.extBut c o (Nat.ne_of_gt (Nat.lt_of_succ_le z2)) ho, hod⟩
    · rw [List.mem_singleton] at m
      cases m
      exact .inr ⟨rfl, rfl⟩
  refine ⟨⟨e0.mod, S.kind, rfl, rfl, Nat.le_refl _, fun y z c h1 h2 => ?_, fun y hy => ?_, fun y c h1 h => ?_, fun _ => hd, Around.frames_deeper e0.frames, .inr ⟨rfl, rfl⟩, fun b z => absurd z (noA b), e0.bs, e0.bsz, fun b _ _ => noA b, fun b z => absurd z (noA b), e0.funs, e0.frf⟩,
    rfl, e0.bare, Un.kept kp, ⟨_, hns, fun i y v h1 h2 h3 => ?_⟩, fun y c h => ?_, e0.hok.fresh (Nat.le_refl _), fun y c h => ?_, fun p hp => absurd (show p ∈ ([] : List (Addr × Obj)) from hp) (by simp), e0.hok.kept kp, ?_⟩
  · rcases mem y c h1 with ⟨m1, b1, _⟩ | ⟨e1, e1'⟩ <;> rcases mem z c h2 with ⟨m2, b2, _⟩ | ⟨e2, e2'⟩
    · exact name_of_addr ok.apart m1 m2
    · rw [e2'] at b1; exact absurd hcc (Nat.not_lt.mpr (Nat.le_of_succ_le b1))
    · rw [e1'] at b2; exact absurd hcc (Nat.not_lt.mpr (Nat.le_of_succ_le b2))
    · rw [e1, e2]
  · have hy : scope.names.lookup y = some .cell ∨ scope.names.lookup y = some .free := hy
    rcases hy with hy | hy
    · obtain ⟨c, e⟩ := cell_has (n := s.heap.objs.size + 1) hy
      refine ⟨c, ?_⟩
      show List.lookup y (cellsFrom (s.heap.objs.size + 1) scope.names [("__class__", cc)]) = some c
      rw [cellsFrom_app, List.lookup_append, e]; rfl
    · have := S.free _ (PySem.mem_of_lookup hy) rfl
      have e : y = ("__class__" : Str) := this
      show ∃ c, List.lookup y (cellsFrom (s.heap.objs.size + 1) scope.names [("__class__", cc)]) = some c
      rw [cellsFrom_app, List.lookup_append]
      cases q : List.lookup y (cellsFrom (s.heap.objs.size + 1) scope.names []) with
      | some c => exact ⟨c, rfl⟩
      | none => subst e; exact ⟨cc, rfl⟩
  · rcases mem y c h with ⟨_, b1, _⟩ | ⟨e1, _⟩
    · exact Nat.le_of_succ_le b1
    · subst e1
      have h1 : (("__class__" : Str) != ("__class__" : Str)) = true := h1
      exact absurd h1 (by decide)
  · have hi : i < vs.length := by
      unfold L2.start at h2
      by_cases hi : i < vs.length
      · exact hi
      · rw [List.getElem?_append_right (by simpa using hi)] at h2
        rw [List.getElem?_replicate] at h2
        split at h2 <;> cases h2
    have ha : vs[i]? = some v := by
      unfold L2.start at h2
      rw [List.getElem?_append_left (by simpa using hi), List.getElem?_map] at h2
      cases e : vs[i]? with
      | none => rw [e] at h2; cases h2
      | some a => rw [e] at h2; cases h2; rfl
    obtain ⟨u, hu, rv⟩ := r.get ha
    have h1 : N[i]? = some y := h1
    have hp : ps[i]? = some y := by
      rw [← S.pre, List.getElem?_take_of_lt (by omega)]; exact h1
    have ndP : ps.Nodup := by rw [← S.pre]; exact S.nd.sublist (List.take_sublist _ _)
    exact ⟨u, rv, .inl ⟨S.par y (List.mem_of_getElem? hp), zip_look ndP hp hu⟩⟩
  · rcases mem y c h with ⟨_, _, b1⟩ | ⟨_, e1⟩
    · exact ⟨_, b1⟩
    · subst e1; exact ⟨_, cellK hcell⟩
  · rcases mem y c h with ⟨_, b1, _⟩ | ⟨_, e1⟩
    · exact e0.hok.fresh (Nat.le_of_succ_le b1)
    · subst e1; exact hH
  · unfold L2.start
    show _ = N.length
    rw [List.length_append, List.length_map, List.length_replicate]
    omega
end
/-- statements, the activation known -/
structure PSsA (X : Cx) (body : List Stmt) (st : List Stmt) (t : TS) : Prop where
  run : ∀ (pins : List (Addr × Obj)) (s : Shared) (σ : L2.St) (H : Hp) (D : Ends), Inv X pins σ H s → t D σ H → PySem.wpAt (model X.prog X.w) X.A (.func body X.env) (execs st X.env) (SP X pins D) X.xe s
structure PEA (X : Cx) (body : List Stmt) (e : Expr) (t : TE) : Prop where
  run : ∀ (pins : List (Addr × Obj)) (s : Shared) (σ : L2.St) (H : Hp) (Q : VK), Inv X pins σ H s → t σ H Q → PySem.wpAt (model X.prog X.w) X.A (.func body X.env) (eval e X.env) (EP X pins σ Q) X.xe s
section
variable {X : Cx} {body st rest : List Stmt} {s0 : Stmt} {t t2 : TS} {e : Expr} {te : TE} {pos : Pos}
theorem psA_of (h : PSs X st t) : PSsA X body st t := ⟨fun pins s σ H D I q => PySem.wpAt_of_wpAny (h.run pins s σ H D I q)⟩
theorem psA_cons (h : PS X s0 t) (h2 : PSsA X body rest t2) : PSsA X body (s0 :: rest) (tSeq t t2) := by
  refine ⟨fun pins s σ H D I q => ks_wpAt_execs_cons (PySem.wpAt_of_wpAny (wpAny_mono (h.run pins s σ H _ I q) (fun f s' hs => ?_) fun _ _ z => z))⟩
  cases f with
  | next =>
    obtain ⟨σ', H', I', q'⟩ := hs
    exact h2.run pins s' σ' H' D I' q'
  | ret v => exact hs
  | brk => exact hs
  | cont => exact hs
theorem psA_ret (h : PEA X body e te) : PSsA X body (.Return (some e) pos :: rest) (tRet te) := by
  refine ⟨fun pins s σ H D I q => ks_wpAt_execs_cons (ks_wpAt_Return_some ?_)⟩
  refine ks_wpAt_mono (h.run pins s σ H _ I q) (fun v s' hs => ?_) fun _ _ z => z
  obtain ⟨v', H', I', r, q'⟩ := hs
  exact ⟨v', σ, H', I', r, q'⟩
theorem psA_expr (h : PEA X body e te) (h2 : PSs X rest t2) (hs : swapsWith e none pos.line X.env = pure false := by rfl) : PSsA X body (.Expr e pos :: rest) (tSeq (tDrop te) t2) := by
  refine ⟨fun pins s σ H D I q => ks_wpAt_execs_cons (ks_wpAt_Expr_any ?_ I.quiet hs)⟩
  refine ks_wpAt_mono (h.run pins s σ H _ I q) (fun v s' hs => ?_) fun _ _ z => z
  obtain ⟨v', H', I', r, q'⟩ := hs
  exact PySem.wpAt_of_wpAny (h2.run pins s' σ H' D I' q')
end
section
variable {P : Program} {w : World} {K : PySem.W.Frag} {mg : Str → Option Value} {base : Heap} {x qual : Str} {params : Arguments} {body : List Stmt} {scope : Scope} {dvs : List V} {kws : List (Str × V)} {D cc cda f : Addr} {fd : FuncData}
theorem FunS.ok {CX : CXT} {N ps : List Str} {k : Nat} {sp : Sp} (F : FunS P K x qual params body scope dvs kws D cc cda f fd) (S : SScope N ps scope) (len : ∀ vs H Q E, sp vs H Q E → vs.length = ps.length)
    (hbody : ∀ (A : Around) (outer : List Env) (s : Shared) (H : Hp) (vs : List V) (Q : VK) (E : XK), Room k (A.deeper (envS qual scope s.heap.objs.size f cda cc)) → sp vs H Q E →
      ∃ t, PSsA (scx CX P w K mg base N qual scope cc cda f A outer s H E) body body t ∧ t { nx := fun _ H1 => Q .non H1, rt := Q } (start N vs) H) : FnOk P w K mg base CX (k + 1) f fd ps sp := by
  refine ⟨len, fun A outer s H args us vs Q E hr e0 hb r hsp => ?_⟩
  obtain ⟨oc, od, dV, kV, doc, pm, an, ct, osl, rfl, lk, hcd, _, _⟩ := F.ex
  obtain ⟨cl, cld, csl, lc⟩ := F.cell
  have hl := len _ _ _ _ hsp
  have KX : K.In s.heap := e0.mod.kin.keeps fun b o e => (e0.bs b o e).1
  have lim : s.heap.NoLimit := e0.mod.nolimit.keeps fun b o e => (e0.bs b o e).1
  refine codeAny_call_function (body := body) hr.depth (KX _ _ lk) rfl S.co S.gen rfl (PySem.W.codeRec_of KX hcd) (hb _ _ _ _ ?_)
  refine newEnvS (fun y hy => S.par y.1 (List.of_mem_zip (a := y.1) (b := y.2) hy).1) S.kind fun h₁ hns hsb => ?_
  refine ⟨lim.keeps fun b o e => hsb.extBut b o (Nat.ne_of_lt (Heap.lt_size e)) (pushCells_keeps _ _ b o (Heap.get?_push_of_some _ e)), ?_⟩
  refine ks_codeAny_funcAt ?_
  obtain ⟨t, ht, hq⟩ := hbody A outer s H vs Q E (hr.deeper _) hsp
  have I := inv_startS (CX := CX) (qual := qual) (cda := cda) (f := f) (A := A) (outer := outer) (E := E) (N := N) (tk := s.toks + (ps.zip us).length) S hr.hd e0 hl r ⟨_, KX _ _ lc, rfl⟩ (e0.bs _ _ (e0.mod.kin _ _ lc)).2 hns hsb
  refine ks_wpAt_mono (ht.run [] _ (start N vs) H _ I hq) (fun fl s2 hs => ?_) fun e s2 hs => hs
  have fin : ∀ {σ1 : L2.St} {H1 : Hp} {v : V} {u : Value}, Inv (scx CX P w K mg base N qual scope cc cda f A outer s H E) [] σ1 H1 s2 → RelV v u → Q v H1 → CE outer P w H s Q u s2 := fun {σ1 H1 v u} J rv q => ⟨v, H1, J.os, J.bare, J.base, J.hok, rv, q⟩
  cases fl with
  | ret u => obtain ⟨v, σ1, H1, J, rv, q⟩ := hs; exact fin J rv q
  | next => obtain ⟨σ1, H1, J, q⟩ := hs; exact fin (v := V.non) (u := Value.none) J rfl q
  | brk => obtain ⟨_, _, _, q⟩ := hs; exact False.elim q
  | cont => obtain ⟨_, _, _, q⟩ := hs; exact False.elim q
end
/-! ### super().m(e, ..) -/
/-- behind D in the line of each class of S stands the def of m, which keeps sp -/
structure SupCal (P : Program) (w : World) (K : PySem.W.Frag) (mg : Str → Option Value) (base : Heap) (D : Addr) (S : Addr → Prop) (m : Str) (k : Nat) (sp : Sp) : Prop where
  ex : ∃ (f2 : Addr) (fd : FuncData) (ps : List Str), FnOk P w K mg base CX0 k f2 fd ps sp ∧ Binds K fd ps [] ∧ PySem.W.fnIn K f2 = true ∧ PySem.W.typeIn K (.ref f2) = some (.type "function") ∧ PySem.W.nsIn K cStatics "thirdparty.any" = some none ∧
    ∀ C, S C → PySem.W.ks_superIn K C D m = some (some (.ref f2)) ∧ PySem.W.mroIn K C (.ref D) = some true
def tSup (S : Addr → Prop) (sp : Sp) (t : TA) : TE := fun σ H Q => ∃ a C dx fs, σ[0]? = some (some (V.ref a)) ∧ H a = some (.ins C dx fs) ∧ S C ∧ t σ H fun vs H1 => sp (V.ref a :: vs) H1 Q E0
section
variable {X : Cx} {body0 : List Stmt} {x qual m : Str} {params : Arguments} {body : List Stmt} {scope : Scope} {dvs : List V} {kws : List (Str × V)} {D cc cda f : Addr} {fd : FuncData} {S : Addr → Prop} {k : Nat} {sp : Sp} {e : Expr} {es : List Expr} {t : TA} {ar : Arg} {p0 p1 pos apos : Pos}
theorem pea_super {pl : Sem Bool} (F : FunS X.prog X.K x qual params body scope dvs kws D cc cda f fd) (U : SupCal X.prog X.w X.K X.mg X.base D S m k sp) (hr : Room k X.A) (hsu : X.mg "super" = none) (ha : PA X (e :: es) t)
    (hp : (params.posonlyargs ++ params.args).head? = some ar := by rfl) (hN : X.N[0]? = some ar.arg := by rfl)
    (hks : X.env.kindOf "super" = some .globalImplicit := by rfl) (hkc : X.env.kindOf "__class__" = some .free := by rfl) (hka : X.env.kindOf ar.arg = some .local := by rfl)
    (hfu : X.env.func = some f := by rfl) (hco : X.env.code = .ref cda := by rfl) (hcl : X.env.cells.lookup ("__class__" : Str) = some cc := by rfl) (hat : (m == ("__class__" : Str)) = false := by decide)
    (hst : starEach (e :: es) X.env = (false, eval e X.env) :: starEach es X.env := by rfl) (hpl : (backTo pos (starEach es X.env)).any (·.1) = false := by rfl)
    (he : eval (.Call (.Attribute (.Call (.Name "super" p0) [] [] p1) m apos) (e :: es) [] pos) X.env = (do
      let ov ← attributeBase (.Call (.Name "super" p0) [] [] p1) m X.env (eval (.Call (.Name "super" p0) [] [] p1) X.env)
      standAt apos.atName
      let (f, first) ← holding [ov] (getMethod ov m pl)
      callWith pos f first (backTo pos (starEach (e :: es) X.env)) []) := by rfl) : PEA X body0 (.Call (.Attribute (.Call (.Name "super" p0) [] [] p1) m apos) (e :: es) [] pos) (tSup S sp t) := by
  refine ⟨fun pins s σ H Q I h => ?_⟩
  obtain ⟨a, C, dx, fs, h0, hi, hS, q⟩ := h
  obtain ⟨oc, od, dV, kV, doc, pm, an, ct, osl, rfl, lk, hcd, _, _⟩ := F.ex
  obtain ⟨ccl, cdd, cvs, ccs, file, tf, lcode, hvs, hfile⟩ := F.code
  obtain ⟨cl, cld, csl, lcell⟩ := F.cell
  obtain ⟨cdD, hD⟩ := F.cls
  obtain ⟨f2, fd2, ps, G, hb, hfn, hty, hop, hcl2⟩ := U.ex
  obtain ⟨hsup, hmro⟩ := hcl2 C hS
  have KX := I.kIn
  obtain ⟨mA, J, _⟩ := ins_get I.hok hi
  obtain ⟨odx, J, _⟩ := J.look
  obtain ⟨oD, hD1, hD2⟩ : ∃ oD, s.heap.get? D = some oD ∧ oD.data = .cls cdD := by
    unfold PySem.W.clsIn at hD
    split at hD
    · rename_i c d cd' sl ho
      cases hD
      exact ⟨_, KX _ _ ho, rfl⟩
    · cases hD
  obtain ⟨mm, hns, hloc⟩ := I.loc
  have hv : mm ar.arg = some (.ref a) := by
    obtain ⟨u, ru, lo⟩ := hloc 0 ar.arg (V.ref a) hN h0 (.inl hka)
    cases ru
    rcases lo with lo | ⟨lo, _⟩
    · exact lo.2
    · rw [hka] at lo
      rcases lo with lo | lo <;> cases lo
  refine ks_wpAt_MethodCall ?_ he
  refine ks_wpAt_super_base hks hkc hat hfu (KX _ _ lk) rfl hp hco (KX _ _ lcode) rfl hvs hfile F.top ?_
  obtain ⟨mb, b1, b2⟩ := I.mod.blt
  refine PySem.W.ks_loadName_global I.ok.kind hks (Calls.loadGlobal_builtin (by rw [I.ok.glob]; exact I.mod.glob.keeps I.bk) hsu (by rw [I.ok.blt]; exact b1.keeps I.bk) ((b2 _ (by decide)).trans (by first | rfl | kernel_rfl)) ⟨rfl, ?_⟩)
  refine wpAny_loadName_free I.ok.kind hkc hcl ⟨_, KX _ _ lcell, rfl⟩ ?_
  refine wpAny_loadName_local I.ok.kind hka hns hv ?_
  refine ks_wpAny_isType_cls hD1 hD2 ⟨rfl, ?_⟩
  obtain ⟨hh, g, d, tk, os⟩ := s
  refine ks_wpAny_call_super hD1 hD2 J.at_ J.cls (fun c e => ?_) (PySem.W.looks_mroIn KX hmro) (fun h' e kp => ?_)
  · have := J.no
    unfold PySem.W.notCls at this
    rw [e] at this
    exact Bool.noConfusion this
  have I1 : Inv X pins σ H ⟨h', g, d, tk, os⟩ := I.kept (t' := tk) kp
  have KX1 : X.K.In h' := I1.kIn
  unfold PySem.W.ks_superIn at hsup
  cases hc : PySem.W.clsIn X.K C with
  | none => rw [hc] at hsup; cases hsup
  | some cd =>
    rw [hc] at hsup
    obtain ⟨of, hof, hofc⟩ : ∃ of, h'.get? f2 = some of ∧ of.cls = .type "function" := by
      have ht' : (X.K.lookup f2).map (·.cls) = some (.type "function") := hty
      cases z : X.K.lookup f2 with
      | none => rw [z] at ht'; cases ht'
      | some of => rw [z] at ht'; exact ⟨of, KX1 _ _ z, Option.some.inj ht'⟩
    refine ks_wpAny_getMethod_super e (PySem.W.looks_opaque KX1 hop) (l₀ := cd.mro) ?_ rfl KX1 hsup hof hofc (PySem.W.ks_ne KX J hc) hat ?_
    · exact fun A Q E s k q => wpAny_bind ((PySem.W.looks_clsIn KX1 hc) A _ E s k (wpAny_pure q))
    have I2 := ClX.met_new (g := f2) (C := a) I1
    refine ClX.callwith_cm I2 (ClX.base_none I1 (Nat.le_refl _)) hfn (thn (ha.run pos _ _ σ H _ I2 q) fun us s3 hh => ?_) hst hpl
    obtain ⟨vs, H2, I3, rv, q2⟩ := hh
    refine ⟨⟨ClX.pin_at I3, I3.kIn⟩, ?_⟩
    have z := wpAny_call (PySem.W.method_call (ClX.pin_at I3) (run_code (us := .ref a :: us) (vs := .ref a :: vs) G hr hb I3 (.cons rfl rv) q2))
    exact thn z fun _ _ y => ClX.unpinE y
end
end M

namespace M
open PySem PySem.Spec PyProof.Rows L2
/-- the addresses of what the top has made -/
structure Cs where
  Rule : Addr
  Add : Addr
  Most : Addr
  Least : Addr
  First : Addr
  Newest : Addr
  Rule_eq : Addr
/-- rule_named -/
def N_rule_named : List Str := ["word"]
def t_rule_named (K : PySem.W.Frag) (c : Cs) : TS := (tSeq (tIfS (tTest (tOp aEq (tVar 0) (tC (.str "add")))) (tRet (tNew0 c.Add)) tNext)
  (tSeq (tIfS (tTest (tOp aEq (tVar 0) (tC (.str "most")))) (tRet (tNew0 c.Most)) tNext)
  (tSeq (tIfS (tTest (tOp aEq (tVar 0) (tC (.str "least")))) (tRet (tNew0 c.Least)) tNext)
  (tSeq (tIfS (tTest (tOp aEq (tVar 0) (tC (.str "first")))) (tRet (tNew0 c.First)) tNext)
  (tRet (tNew0 c.Newest))))))
def W_rule_named (K : PySem.W.Frag) (c : Cs) : Sp := fun vs H Q _ => vs.length = 1 ∧ t_rule_named K c { nx := fun _ H1 => Q .non H1, rt := Q } (start N_rule_named vs) H
/-- Add.pick -/
def N_Add_pick : List Str := ["self", "cells", "times"]
def t_Add_pick (K : PySem.W.Frag) (c : Cs) : TS := (tRet (tCB (rSum K) (tCons (tVar 1) tNil)))
def W_Add_pick (K : PySem.W.Frag) (c : Cs) : Sp := fun vs H Q _ => vs.length = 3 ∧ t_Add_pick K c { nx := fun _ H1 => Q .non H1, rt := Q } (start N_Add_pick vs) H
/-- Most.pick -/
def N_Most_pick : List Str := ["self", "cells", "times"]
def t_Most_pick (K : PySem.W.Frag) (c : Cs) : TS := (tRet (tCB (rMax K) (tCons (tVar 1) tNil)))
def W_Most_pick (K : PySem.W.Frag) (c : Cs) : Sp := fun vs H Q _ => vs.length = 3 ∧ t_Most_pick K c { nx := fun _ H1 => Q .non H1, rt := Q } (start N_Most_pick vs) H
/-- Least.pick -/
def N_Least_pick : List Str := ["self", "cells", "times"]
def t_Least_pick (K : PySem.W.Frag) (c : Cs) : TS := (tRet (tCB (rMin K) (tCons (tVar 1) tNil)))
def W_Least_pick (K : PySem.W.Frag) (c : Cs) : Sp := fun vs H Q _ => vs.length = 3 ∧ t_Least_pick K c { nx := fun _ H1 => Q .non H1, rt := Q } (start N_Least_pick vs) H
/-- First.pick -/
def N_First_pick : List Str := ["self", "cells", "times"]
def t_First_pick (K : PySem.W.Frag) (c : Cs) : TS := (tRet (tOp (rIxL K) (tVar 1) (tC (.int 0))))
def W_First_pick (K : PySem.W.Frag) (c : Cs) : Sp := fun vs H Q _ => vs.length = 3 ∧ t_First_pick K c { nx := fun _ H1 => Q .non H1, rt := Q } (start N_First_pick vs) H
/-- Newest.pick -/
def N_Newest_pick : List Str := ["self", "cells", "times", "latest", "cell", "time", "newest", "__class__"]
def t_Newest_pick (K : PySem.W.Frag) (c : Cs) : TS := (tSeq (tAsg (tCB (rMax K) (tCons (tVar 2) tNil)) (gName 3))
  (tSeq (tAsg (tLc (iZip K (tCons (tVar 1) (tCons (tVar 2) tNil))) (gTup K 2 (gCons (gName 4) (gCons (gName 5) gNil))) (tTest (tOp aEq (tVar 5) (tVar 3))) (tVar 4) [4, 5]) (gName 6))
  (tRet (tSup (· = c.Newest) (W_First_pick K c) (tCons (tVar 6) (tCons (tVar 2) tNil))))))
def W_Newest_pick (K : PySem.W.Frag) (c : Cs) : Sp := fun vs H Q _ => vs.length = 3 ∧ t_Newest_pick K c { nx := fun _ H1 => Q .non H1, rt := Q } (start N_Newest_pick vs) H
/-- the classes of the rules -/
def Rl (c : Cs) (C : Addr) : Prop := C = c.Add ∨ C = c.Most ∨ C = c.Least ∨ C = c.First ∨ C = c.Newest
def pickR (K : PySem.W.Frag) (c : Cs) (C : Addr) (sp : Sp) : Prop := (C = c.Add ∧ sp = W_Add_pick K c) ∨ (C = c.Most ∧ sp = W_Most_pick K c) ∨ (C = c.Least ∧ sp = W_Least_pick K c) ∨ (C = c.First ∧ sp = W_First_pick K c) ∨ (C = c.Newest ∧ sp = W_Newest_pick K c)
/-- Rule.__call__ -/
def N_Rule_call : List Str := ["self", "cells", "times"]
def t_Rule_call (K : PySem.W.Frag) (c : Cs) : TS := (tRet (tMcD (pickR K c) "pick" (tVar 0) (tCons (tVar 1) (tCons (tVar 2) tNil))))
def W_Rule_call (K : PySem.W.Frag) (c : Cs) : Sp := fun vs H Q _ => vs.length = 3 ∧ t_Rule_call K c { nx := fun _ H1 => Q .non H1, rt := Q } (start N_Rule_call vs) H
/-- Rule.__eq__ -/
def N_Rule_eq : List Str := ["self", "other"]
def t_Rule_eq (K : PySem.W.Frag) (c : Cs) : TS := (tRet (tAndV (tCB (rIsi K) (tCons (tVar 1) (tCons (tC (.ref c.Rule)) tNil))) (tOp aEq (tCon K (tVar 0) "WORD") (tCon K (tVar 1) "WORD"))))
def W_Rule_eq (K : PySem.W.Frag) (c : Cs) : Sp := fun vs H Q _ => vs.length = 2 ∧ t_Rule_eq K c { nx := fun _ H1 => Q .non H1, rt := Q } (start N_Rule_eq vs) H
/-- _law_bag -/
def N_bag : List Str := ["_law_script", "_law_at", "_law_cell"]
def t_bag (K : PySem.W.Frag) (c : Cs) : TS := (tSeq (tAsg (tIf (tTest (tOp aLt (tVar 1) (tCB (aLen K) (tCons (tVar 0) tNil)))) (tOp (rIxL K) (tVar 0) (tVar 1)) (tC (.int 0))) (gName 2))
  (tRet (tLst (tCons (tIf (tTest (tOp aGe (tCB aAbs (tCons (tVar 2) tNil)) (tOp aPow (tC (.int 10)) (tC (.int 18))))) (tCB aAbs (tCons (tVar 2) tNil)) (tC (.int 0))) (tCons (tOp aAdd (tOp aAdd (tOp aMod (tCB aInt (tCons (tVar 2) tNil)) (tC (.int 2305843009213693951))) (tOp aMul (tC (.int 65537)) (tVar 1))) (tC (.int 11))) (tCons (tC (.int 0)) tNil))))))
def W_bag (K : PySem.W.Frag) (c : Cs) : Sp := fun vs H Q _ => vs.length = 2 ∧ t_bag K c { nx := fun _ H1 => Q .non H1, rt := Q } (start N_bag vs) H
/-- _law_take -/
def N_take : List Str := ["_law_bag_here", "_law_many", "_law_found", "_law_mixed"]
def t_take (K : PySem.W.Frag) (c : Cs) : TS := (tSeq (tIfS (tTest (tOp aGt (tOp (rIxL K) (tVar 0) (tC (.int 0))) (tC (.int 0)))) (tSeq (tAsg (tOp aMod (tCB aInt (tCons (tOp (rIxL K) (tVar 0) (tC (.int 0))) tNil)) (tVar 1)) (gName 2))
  (tSeq (tAsg (tOp aDiv (tOp (rIxL K) (tVar 0) (tC (.int 0))) (tVar 1)) (gSub (tVar 0) (tC (.int 0)) rSetL))
  (tRet (tVar 2)))) tNext)
  (tSeq (tAsg (tOp aAdd (tOp (rIxL K) (tVar 0) (tC (.int 2))) (tC (.int 1))) (gSub (tVar 0) (tC (.int 2)) rSetL))
  (tSeq (tAsg (tOp aMod (tCB aInt (tCons (tOp aAdd (tOp aPow (tOp aAdd (tOp (rIxL K) (tVar 0) (tC (.int 1))) (tOp aMul (tC (.int 7368787)) (tOp (rIxL K) (tVar 0) (tC (.int 2))))) (tC (.int 2))) (tOp (rIxL K) (tVar 0) (tC (.int 1)))) tNil)) (tC (.int 2305843009213693951))) (gName 3))
  (tSeq (tAsg (tOp aMod (tCB aInt (tCons (tOp aAdd (tOp aPow (tVar 3) (tC (.int 2))) (tOp aMul (tC (.int 15485863)) (tOp (rIxL K) (tVar 0) (tC (.int 2))))) tNil)) (tC (.int 2305843009213693921))) (gName 3))
  (tRet (tOp aMod (tCB aInt (tCons (tOp aDiv (tVar 3) (tC (.int 1024))) tNil)) (tVar 1)))))))
def W_take (K : PySem.W.Frag) (c : Cs) : Sp := fun vs H Q _ => vs.length = 2 ∧ t_take K c { nx := fun _ H1 => Q .non H1, rt := Q } (start N_take vs) H
/-- _law_of -/
def N_of : List Str := ["_law_bag_here", "_law_some"]
def t_of (K : PySem.W.Frag) (c : Cs) : TS := (tRet (tOp (rIxL K) (tVar 1) (tF (W_take K c) (tCons (tVar 0) (tCons (tCB (aLen K) (tCons (tVar 1) tNil)) tNil)))))
def W_of (K : PySem.W.Frag) (c : Cs) : Sp := fun vs H Q _ => vs.length = 2 ∧ t_of K c { nx := fun _ H1 => Q .non H1, rt := Q } (start N_of vs) H
/-- _law_number -/
def N_number : List Str := ["_law_bag_here", "_law_size", "_law_found"]
def t_number (K : PySem.W.Frag) (c : Cs) : TS := (tSeq (tAsg (tF (W_take K c) (tCons (tVar 0) (tCons (tC (.int 4)) tNil))) (gName 1))
  (tSeq (tIfS (tTest (tOp aLt (tVar 1) (tC (.int 2)))) (tRet (tOp aSub (tF (W_take K c) (tCons (tVar 0) (tCons (tC (.int 5)) tNil))) (tC (.int 2)))) tNext)
  (tSeq (tAsg (tF (W_take K c) (tCons (tVar 0) (tCons (tOp aPow (tC (.int 10)) (tC (.int 6))) tNil))) (gName 2))
  (tSeq (tIfS (tTest (tOp aEq (tVar 1) (tC (.int 3)))) (tAsg (tOp aAdd (tOp aMul (tF (W_take K c) (tCons (tVar 0) (tCons (tOp aPow (tC (.int 10)) (tC (.int 18))) tNil))) (tOp aPow (tC (.int 10)) (tC (.int 18)))) (tF (W_take K c) (tCons (tVar 0) (tCons (tOp aPow (tC (.int 10)) (tC (.int 18))) tNil)))) (gName 2)) tNext)
  (tRet (tOp aMul (tVar 2) (tOp aSub (tC (.int 1)) (tOp aMul (tC (.int 2)) (tF (W_take K c) (tCons (tVar 0) (tCons (tC (.int 2)) tNil)))))))))))
def W_number (K : PySem.W.Frag) (c : Cs) : Sp := fun vs H Q _ => vs.length = 1 ∧ t_number K c { nx := fun _ H1 => Q .non H1, rt := Q } (start N_number vs) H
/-- _law_numbers -/
def N_numbers : List Str := ["_law_bag_here", "_law_many", "_law_found", "_law_turn", "_law_one"]
def t_numbers (K : PySem.W.Frag) (c : Cs) : TS := (tSeq (tAsg (tLst tNil) (gName 2))
  (tSeq (tFor (iRng1 (tCons (tVar 1) tNil)) (gName 3) (tSeq (tAsg (tF (W_number K c) (tCons (tVar 0) tNil)) (gName 4))
  (tDrop (tBM K "list" rAppend (tVar 2) (tCons (tIf (tTest (tOp (aIn K) (tVar 4) (tVar 2))) (tOp aAdd (tCB (rMax K) (tCons (tVar 2) tNil)) (tC (.int 1))) (tVar 4)) tNil)))))
  (tRet (tVar 2))))
def W_numbers (K : PySem.W.Frag) (c : Cs) : Sp := fun vs H Q _ => vs.length = 2 ∧ t_numbers K c { nx := fun _ H1 => Q .non H1, rt := Q } (start N_numbers vs) H
/-- _law_newest -/
def N_newest : List Str := ["_law_cells", "_law_times", "_law_found", "_law_best", "_law_cell", "_law_time"]
def t_newest (K : PySem.W.Frag) (c : Cs) : TS := (tSeq (tAsg (tOp (rIxL K) (tVar 0) (tC (.int 0))) (gName 2))
  (tSeq (tAsg (tOp (rIxL K) (tVar 1) (tC (.int 0))) (gName 3))
  (tSeq (tFor (iZip K (tCons (tVar 0) (tCons (tVar 1) tNil))) (gTup K 2 (gCons (gName 4) (gCons (gName 5) gNil))) (tIfS (tTest (tOp aGt (tVar 5) (tVar 3))) (tPar 2 3 (tCons (tVar 4) (tCons (tVar 5) tNil))) tNext))
  (tRet (tVar 2)))))
def W_newest (K : PySem.W.Frag) (c : Cs) : Sp := fun vs H Q _ => vs.length = 2 ∧ t_newest K c { nx := fun _ H1 => Q .non H1, rt := Q } (start N_newest vs) H
/-- _law_due -/
def N_due : List Str := ["_law_word", "_law_cells", "_law_times", "_law_total", "_law_low", "_law_high", "_law_cell"]
def t_due (K : PySem.W.Frag) (c : Cs) : TS := (tSeq (tPar3 3 4 5 (tCons (tC (.int 0)) (tCons (tOp (rIxL K) (tVar 1) (tC (.int 0))) (tCons (tOp (rIxL K) (tVar 1) (tC (.int 0))) tNil))))
  (tSeq (tFor (iList K (tVar 1)) (gName 6) (tSeq (tAsg (tOp aAdd (tVar 3) (tVar 6)) (gName 3))
  (tSeq (tAsg (tIf (tTest (tOp aLt (tVar 6) (tVar 4))) (tVar 6) (tVar 4)) (gName 4))
  (tAsg (tIf (tTest (tOp aGt (tVar 6) (tVar 5))) (tVar 6) (tVar 5)) (gName 5)))))
  (tRet (tDGet (tDisp [((tC (.str "add")), (tVar 3)), ((tC (.str "most")), (tVar 5)), ((tC (.str "least")), (tVar 4)), ((tC (.str "first")), (tOp (rIxL K) (tVar 1) (tC (.int 0)))), ((tC (.str "newest")), (tF (W_newest K c) (tCons (tVar 1) (tCons (tVar 2) tNil))))]) (tVar 0)))))
def W_due (K : PySem.W.Frag) (c : Cs) : Sp := fun vs H Q _ => vs.length = 3 ∧ t_due K c { nx := fun _ H1 => Q .non H1, rt := Q } (start N_due vs) H
/-- law -/
def N_law : List Str := ["_law_script", "_law_words", "_law_rules", "_law_rule", "_law_k", "_law_at", "_law_bag_here", "_law_many", "_law_turn", "_law_cells", "_law_some", "_law_times", "_law_kept_cells", "_law_kept_times", "_law_word", "_law_told", "_law_again", "_law_other", "_law_j"]
def t_law (K : PySem.W.Frag) (c : Cs) : TS := (tSeq (tAsg (tLst (tCons (tC (.str "add")) (tCons (tC (.str "most")) (tCons (tC (.str "least")) (tCons (tC (.str "first")) (tCons (tC (.str "newest")) tNil)))))) (gName 1))
  (tSeq (tAsg (tLst (tCons (tNew0 c.Add) (tCons (tNew0 c.Most) (tCons (tNew0 c.Least) (tCons (tNew0 c.First) (tCons (tNew0 c.Newest) tNil)))))) (gName 2))
  (tSeq (tIfS (tOr (tTest (tOp (aNeD K) (tLc (iList K (tVar 2)) (gName 3) tYes (tCon K (tVar 3) "WORD") [3]) (tVar 1))) (tNot (tB (tCB (rIsi K) (tCons (tOp (rIxL K) (tVar 2) (tC (.int 4))) (tCons (tC (.ref c.First)) tNil)))))) (tRet (tC (.bl false))) tNext)
  (tSeq (tIfS (tTest (tOp (aNeD K) (tLc (iRng1 (tCons (tC (.int 3)) tNil)) (gName 4) tYes (tCB (rIsi K) (tCons (tOp (rIxL K) (tVar 2) (tVar 4)) (tCons (tC (.ref c.First)) tNil))) [4]) (tLst (tCons (tC (.bl false)) (tCons (tC (.bl false)) (tCons (tC (.bl false)) tNil)))))) (tRet (tC (.bl false))) tNext)
  (tSeq (tFor (iRng1 (tCons (tCB aMax2 (tCons (tC (.int 1)) (tCons (tCB aMin2 (tCons (tC (.int 5)) (tCons (tCB (aLen K) (tCons (tVar 0) tNil)) tNil))) tNil))) tNil)) (gName 5) (tSeq (tAsg (tF (W_bag K c) (tCons (tVar 0) (tCons (tVar 5) tNil))) (gName 6))
  (tSeq (tAsg (tOp aAdd (tC (.int 1)) (tF (W_take K c) (tCons (tVar 6) (tCons (tC (.int 6)) tNil)))) (gName 7))
  (tSeq (tAsg (tTup (tCons (tLc (iRng1 (tCons (tVar 7) tNil)) (gName 8) tYes (tF (W_number K c) (tCons (tVar 6) tNil)) [8]) (tCons (tF (W_numbers K c) (tCons (tVar 6) (tCons (tC (.int 3)) tNil))) tNil))) (gTup K 2 (gCons (gName 9) (gCons (gName 10) gNil))))
  (tSeq (tAsg (tLc (iRng1 (tCons (tVar 7) tNil)) (gName 8) tYes (tF (W_of K c) (tCons (tVar 6) (tCons (tVar 10) tNil))) [8]) (gName 11))
  (tSeq (tPar 12 13 (tCons (tCB (aListOf K) (tCons (tVar 9) tNil)) (tCons (tCB (aListOf K) (tCons (tVar 11) tNil)) tNil)))
  (tFor (iEnum K (tCons (tVar 1) tNil)) (gTup K 2 (gCons (gName 4) (gCons (gName 14) gNil))) (tSeq (tAsg (tF (W_rule_named K c) (tCons (tVar 14) tNil)) (gName 3))
  (tSeq (tPar 15 16 (tCons (tCallD (Rl c) (W_Rule_call K c) (tVar 3) (tCons (tVar 9) (tCons (tVar 11) tNil))) (tCons (tCallD (Rl c) (W_Rule_call K c) (tOp (rIxL K) (tVar 2) (tVar 4)) (tCons (tCB (aListOf K) (tCons (tVar 9) tNil)) (tCons (tCB (aListOf K) (tCons (tVar 11) tNil)) tNil))) tNil)))
  (tSeq (tIfS (tOr (tTest (tOp (aNeD K) (tVar 9) (tVar 12))) (tTest (tOp (aNeD K) (tVar 11) (tVar 13)))) (tRet (tC (.bl false))) tNext)
  (tSeq (tIfS (tOr (tTest (tOp aNe (tCB aRepI (tCons (tVar 15) tNil)) (tCB aRepI (tCons (tF (W_due K c) (tCons (tVar 14) (tCons (tVar 9) (tCons (tVar 11) tNil)))) tNil)))) (tTest (tOp aNe (tCB aRepI (tCons (tVar 16) tNil)) (tCB aRepI (tCons (tVar 15) tNil))))) (tRet (tC (.bl false))) tNext)
  (tSeq (tIfS (tOr (tNot (tB (tCB (rIsi K) (tCons (tVar 3) (tCons (tC (.ref c.Rule)) tNil))))) (tTest (tOp (aNeD K) (tLc (iList K (tVar 2)) (gName 17) tYes (tOp (aOwnR K c.Rule_eq (W_Rule_eq K c)) (tVar 3) (tVar 17)) [17]) (tLc (iRng1 (tCons (tC (.int 5)) tNil)) (gName 18) tYes (tOp aEq (tVar 4) (tVar 18)) [18])))) (tRet (tC (.bl false))) tNext)
  (tIfS (tOr (tTest (tOp aNe (tCB aRepI (tCons (tCallD (Rl c) (W_Rule_call K c) (tVar 3) (tCons (tSl (rSlL K) (tVar 9) tNoPart (tPart (tC (.int 1)))) (tCons (tSl (rSlL K) (tVar 11) tNoPart (tPart (tC (.int 1)))) tNil))) tNil)) (tCB aRepI (tCons (tOp (rIxL K) (tVar 9) (tC (.int 0))) tNil)))) (tTest (tOp (aOwnR K c.Rule_eq (W_Rule_eq K c)) (tVar 3) (tVar 14)))) (tRet (tC (.bl false))) tNext)))))))))))))
  (tRet (tC (.bl true))))))))
def W_law (K : PySem.W.Frag) (c : Cs) : Sp := fun vs H Q _ => vs.length = 1 ∧ t_law K c { nx := fun _ H1 => Q .non H1, rt := Q } (start N_law vs) H

end M
local macro_rules | `(tactic| walk_at "m_go1") => `(tactic| first
  | with_reducible (first
  | refine M.g_seq ?_
  | refine M.g_asg ?_
  | refine M.g_name ?_
  | refine M.g_c ?_
  | refine M.g_op ?_
  | refine M.g_un ?_
  | refine M.g_if ?_
  | refine M.g_ifs ?_
  | refine M.g_test ?_
  | refine M.g_B ?_
  | refine M.g_bl ?_
  | refine M.g_and ?_
  | refine M.g_or ?_
  | refine M.g_not ?_
  | refine M.g_andV ?_
  | refine M.g_orV ?_
  | refine M.g_notV ?_
  | refine M.g_cb ?_
  | refine M.g_cons ?_
  | refine M.g_nil ?_
  | refine M.g_f ?_
  | refine M.g_f0 ?_
  | refine M.g_ret ?_
  | refine M.g_retN ?_
  | refine M.g_drop ?_
  | refine M.g_next ?_
  | refine M.g_cont ?_
  | refine M.g_par ?_
  | refine M.g_par3 ?_
  | refine M.g_lst ?_
  | refine M.g_tup ?_
  | refine M.g_sub ?_
  | refine M.g_chain ?_
  | refine M.g_noPart ?_
  | refine M.g_part ?_
  | refine M.g_sl ?_
  | refine M.g_yes ?_
  | refine M.g_int ?_
  | refine M.g_aAdd ?_
  | refine M.g_aSub ?_
  | refine M.g_aNeg ?_
  | refine M.g_aLt ?_
  | refine M.g_aLe ?_
  | refine M.g_aGt ?_
  | refine M.g_aGe ?_
  | refine M.g_aAbs ?_
  | refine M.g_aMax2 ?_
  | refine M.g_aMin2 ?_
  | refine M.g_aInt ?_
  | refine M.g_aIsN ?_
  | refine M.g_aNotN ?_
  | refine M.g_gCons ?_
  | refine M.g_gNil ?_
  | refine M.g_aEqS ?_
  | refine M.g_aNeS ?_
  | refine M.g_aEqI ?_
  | refine M.g_aNeI ?_
  | refine M.g_iteNT ?_
  | refine M.g_iteNF ?_
  | refine M.g_iteT ?_
  | refine M.g_iteF ?_)
  | ((with_reducible refine M.g_var (v := ?v) ?e ?_); case e => exact rfl)
  | ((with_reducible refine M.g_aEq ?e ?_); case e => exact rfl)
  | ((with_reducible refine M.g_aNe ?e ?_); case e => exact rfl)
  | ((with_reducible refine M.g_aMod ?e ?_); case e => first | decide | omega))
local macro_rules | `(tactic| walk_at "m_go") => `(tactic| (repeat (walk_at "m_go1")))
local macro_rules | `(tactic| walk_at "m_ite") => `(tactic| (first | (with_reducible refine @M.g_ite _ _ _ _ ?_ ?_) | (with_reducible refine @M.g_iteN _ _ _ _ ?_ ?_) | (with_reducible refine M.g_iteB ?_ ?_)))

namespace M
open PySem PySem.Spec PyProof.Rows L2
/-- a bag of draws: three ints, the last one at most z -/
def Bag (H : Hp) (b : Addr) (z : Nat) : Prop := ∃ x y w : Int, H b = some (.lst [.int x, .int y, .int w]) ∧ 0 ≤ x ∧ 0 ≤ y ∧ y < 9223372036854775808 ∧ 0 ≤ w ∧ w ≤ z
theorem Bag.mono {H : Hp} {b : Addr} {z z' : Nat} (h : Bag H b z) (l : z ≤ z') : Bag H b z' := by
  obtain ⟨x, y, w, h1, h2, h3, h4, h5, h6⟩ := h
  exact ⟨x, y, w, h1, h2, h3, h4, h5, by omega⟩
theorem Bag.same {H H' : Hp} {b : Addr} {z : Nat} (h : Bag H b z) (e : H' b = H b) : Bag H' b z := by
  obtain ⟨x, y, w, h1, h2⟩ := h
  exact ⟨x, y, w, by rw [e]; exact h1, h2⟩
theorem Bag.ext {H H' : Hp} {b : Addr} {z : Nat} (h : Bag H b z) (e : Same H H') : Bag H' b z := by
  obtain ⟨x, y, w, h1, h2⟩ := h
  exact ⟨x, y, w, e _ _ h1, h2⟩
theorem Bag.ne {H : Hp} {b a : Addr} {z : Nat} (h : Bag H b z) (e : H a = none) : a ≠ b := by
  obtain ⟨x, y, w, h1, h2⟩ := h
  exact (ne_of_none h1 e).symm
/-- from 0 to n - 1 -/
def spTake : Sp := fun vs H Q _ => ∃ (b : Addr) (n : Int) (z : Nat), vs = [.ref b, .int n] ∧ 0 < n ∧ n < 2 ^ 100 ∧ z < 100000000000000000000 ∧ Bag H b z ∧ ∀ (r : Int) (H' : Hp), 0 ≤ r → r < n → Kp b H H' → Bag H' b (z + 1) → Q (.int r) H'
section
variable {K : PySem.W.Frag} {c : Cs}
theorem fmod_in {i j : Int} (h : 0 < j) : 0 ≤ i.fmod j ∧ i.fmod j < j := by
  rw [Int.fmod_eq_emod_of_nonneg i (by omega)]
  exact ⟨Int.emod_nonneg i (by omega), Int.emod_lt_of_pos i h⟩
theorem pure_take (vs : List V) (H : Hp) (Q : VK) (E : XK) (h : spTake vs H Q E) : W_take K c vs H Q E := by
  obtain ⟨b, n, z, rfl, hn, hn2, hz, hB, k⟩ := h
  obtain ⟨x, y, w, hb, hx, hy, hy2, hw, hwz⟩ := hB
  have hz' : (z : Int) < 100000000000000000000 := by omega
  have fin : ∀ (r : Int) (x' w' : Int), 0 ≤ r → r < n → 0 ≤ x' → 0 ≤ w' → w' ≤ z + 1 → Q (.int r) (upd H b (.lst [.int x', .int y, .int w'])) := fun r x' w' h1 h2 h3 h4 h5 =>
    k r _ h1 h2 (Kp.self Kp.refl) ⟨x', y, w', upd_same, h3, hy, hy2, h4, by omega⟩
  refine ⟨rfl, ?_⟩
  show t_take K c _ [some (.ref b), some (.int n), none, none] H
  unfold t_take
  walk_at "m_go"
  refine g_ixL (SqL.of hb) (by rfl) ?_
  walk_at "m_go"
  walk_at "m_ite" <;> intro hp
  · walk_at "m_go"
    refine g_ixL (SqL.of hb) (by rfl) ?_
    walk_at "m_go"
    refine g_ixL (SqL.of hb) (by rfl) ?_
    walk_at "m_go"
    refine g_aDiv hn (by omega) ?_
    walk_at "m_go"
    refine g_setL hb (by rfl) ?_
    walk_at "m_go"
    exact fin _ _ _ (fmod_in hn).1 (fmod_in hn).2 (Int.ediv_nonneg hx (by omega)) hw (by omega)
  · walk_at "m_go"
    refine g_ixL (SqL.of hb) (by rfl) ?_
    walk_at "m_go"
    refine g_setL hb (by rfl) ?_
    have hb1 : upd H b (.lst ([V.int x, V.int y, V.int w].set 2 (.int (w + 1)))) b = some (.lst [V.int x, V.int y, V.int (w + 1)]) := upd_same
    walk_at "m_go"
    refine g_ixL (SqL.of hb1) (by rfl) ?_
    walk_at "m_go"
    refine g_ixL (SqL.of hb1) (by rfl) ?_
    refine g_aMul (by omega) (by omega) ?_
    walk_at "m_go"
    refine g_aPow (by decide) (by decide) (by omega) ?_
    walk_at "m_go"
    refine g_ixL (SqL.of hb1) (by rfl) ?_
    walk_at "m_go"
    refine g_aPow (by decide) (by decide) ?_ ?_
    · have := fmod_in (i := (y + 7368787 * (w + 1)) ^ (2 : Int).toNat + y) (j := 2305843009213693951) (by decide)
      omega
    walk_at "m_go"
    refine g_ixL (SqL.of hb1) (by rfl) ?_
    refine g_aMul (by omega) (by omega) ?_
    walk_at "m_go"
    refine g_aDiv (by decide) (by decide) ?_
    walk_at "m_go"
    exact fin _ _ _ (fmod_in hn).1 (fmod_in hn).2 hx (by omega) (by omega)
end
end M

namespace M
open PySem PySem.Spec PyProof.Rows L2
section
variable {σ : L2.St} {H : Hp} {Q : VK} {D : Ends}
theorem joinTE {te : TE} (R : V → Hp → Prop) (h1 : ∀ Q' : VK, (∀ x H1, R x H1 → Q' x H1) → te σ H Q') (h2 : ∀ x H1, R x H1 → Q x H1) : te σ H Q := h1 Q h2
theorem joinTS {t : TS} (R : L2.St → Hp → Prop) (h1 : ∀ nx' : L2.St → Hp → Prop, (∀ σ H, R σ H → nx' σ H) → t { D with nx := nx' } σ H) (h2 : ∀ σ H, R σ H → D.nx σ H) : t D σ H := h1 D.nx h2
end
/-! ### a bag beside the ghost -/
structure BG (b : Addr) (z : Nat) (G H : Hp) : Prop where
  gn : G b = none
  bag : Bag H b z
section
variable {b : Addr} {z z' : Nat} {G H G' H' G2 : Hp} {S : Addr → Prop} {p : Addr} {o : HO}
theorem BG.ex (B : BG b z G H) : ∃ o, H b = some o := by obtain ⟨x, y, w, h, _⟩ := B.bag; exact ⟨_, h⟩
theorem BG.up (B : BG b z G H) (u : Us No G H G' H') : BG b z G' H' := by
  obtain ⟨o, h⟩ := B.ex
  exact ⟨u.no B.gn h, B.bag.same (by rw [h]; exact u.kN h)⟩
theorem BG.mono (B : BG b z G H) (l : z ≤ z') : BG b z' G H := ⟨B.gn, B.bag.mono l⟩
theorem BG.ne (B : BG b z G H) (h : H p = none) : b ≠ p := fun e => by
  obtain ⟨o, q⟩ := B.ex
  rw [e, h] at q; cases q
theorem BG.neG (B : BG b z G H) (h : G p = some o) : p ≠ b := fun e => by
  have q := B.gn
  rw [← e, h] at q; cases q
theorem us_kp (g : Same G H) (hb : G b = none) (k : Kp b H H') (n : H' b ≠ none) : Us (On b) G H G H' :=
  ⟨Same.refl _, fun a o h => k a o (fun e => by rw [e, hb] at h; cases h) (g a o h), fun a o q h => k a o q h, fun a h1 h2 => ⟨h1, by
    by_cases e : a = b
    · rw [e]; exact n
    · cases q : H a with
      | none => exact absurd q h2
      | some o => rw [k a o e q]; exact nofun⟩⟩
theorem Us.drop (u : Us S G2 H G2 H') (e : Same G G2) : Us S G H G H' :=
  ⟨Same.refl _, e.trans u.gh, u.hh, fun a h1 h2 => ⟨h1, by
    cases q : G2 a with
    | none => exact (u.nw a q h2).2
    | some o => rw [u.gh a o q]; exact nofun⟩⟩
theorem BG.drop (B : BG b z G2 H) (e : Same G G2) : BG b z G H := ⟨e.free B.gn, B.bag⟩
end
section
variable {K : PySem.W.Frag} {c : Cs} {b : Addr} {z : Nat} {G H : Hp} {Q : VK} {E : XK}
theorem take_g {n : Int} (g : Same G H) (B : BG b z G H) (h0 : 0 < n) (h1 : n < 2 ^ 100) (hz : z < 100000000000000000000) (k : ∀ (r : Int) (H' : Hp), 0 ≤ r → r < n → Us (On b) G H G H' → BG b (z + 1) G H' → Q (.int r) H') : W_take K c [.ref b, .int n] H Q E :=
  pure_take _ _ _ _ ⟨b, n, z, rfl, h0, h1, hz, B.bag, fun r H' r0 r1 kp B' => by
    have q := B'
    obtain ⟨x, y, w, h, _⟩ := q
    exact k r H' r0 r1 (us_kp g B.gn kp (by rw [h]; exact nofun)) ⟨B.gn, B'⟩⟩
theorem of_g {p : Addr} {xs : List V} (g : Same G H) (B : BG b z G H) (hp : H p = some (.lst xs)) (hpb : p ≠ b) (h0 : 0 < xs.length) (h1 : xs.length ≤ 1000) (hz : z < 100000000000000000000) (k : ∀ (i : Nat) (v : V) (H' : Hp), xs[i]? = some v → Us (On b) G H G H' → BG b (z + 1) G H' → Q v H') : W_of K c [.ref b, .ref p] H Q E := by
  refine ⟨rfl, ?_⟩
  show t_of K c _ [some (.ref b), some (.ref p)] H
  unfold t_of
  walk_at "m_go"
  refine g_len (.inl (SqL.of hp)) ?_
  walk_at "m_go"
  refine take_g g B (by omega) (by omega) hz fun r H' r0 r1 u B' => ?_
  have hi : xs[r.toNat]? = some (xs[r.toNat]'(by omega)) := List.getElem?_eq_getElem (by omega)
  have e : atI xs r = some (xs[r.toNat]'(by omega)) := by
    have := atI_nat hi
    rwa [show ((r.toNat : Nat) : Int) = r by omega] at this
  exact g_ixL (SqL.of (u.k hpb hp)) e (k _ _ H' hi u B')
end
section
variable {K : PySem.W.Frag} {c : Cs} {G H : Hp} {Q : VK} {E : XK} {σ : L2.St} {D : Ends} {sa : Addr} {L : List Int}
theorem bag_g (g : Same G H) (hs : SqL K G sa (L.map V.int)) {n : Nat} (hn : n ≤ 10) (k : ∀ b H', Us No G H G H' → BG b 0 G H' → Q (.ref b) H') : W_bag K c [.ref sa, .int (n : Nat)] H Q E := by
  refine ⟨rfl, ?_⟩
  show t_bag K c _ [some (.ref sa), some (.int (n : Nat)), none] H
  unfold t_bag
  have hs1 : SqL K H sa (L.map V.int) := g.seq hs
  walk_at "m_go1"
  walk_at "m_go1"
  refine joinTE (fun x H' => ∃ i : Int, x = .int i ∧ H' = H) (fun Q' kq => ?_) (fun x H' r => ?_)
  · walk_at "m_go"
    refine g_len (.inl hs1) ?_
    rw [List.length_map]
    walk_at "m_go"
    walk_at "m_ite" <;> intro hp
    · obtain ⟨i, hi⟩ : ∃ i, L[n]? = some i := ⟨L[n]'(by omega), List.getElem?_eq_getElem (by omega)⟩
      walk_at "m_go"
      refine g_ixL hs1 (atI_nat (by rw [List.getElem?_map, hi]; rfl)) (kq _ _ ⟨i, rfl, rfl⟩)
    · walk_at "m_go"
      exact kq _ _ ⟨0, rfl, rfl⟩
  obtain ⟨i, rfl, rfl⟩ := r
  walk_at "m_go1"
  walk_at "m_go1"
  refine g_lst (g_cons ?_)
  refine joinTE (fun x H1 => ∃ j : Int, x = .int j ∧ 0 ≤ j ∧ H1 = H') (fun Q' kq => ?_) (fun x H1 r => ?_)
  · walk_at "m_go"
    refine g_aPow (by decide) (by decide) (by decide) ?_
    walk_at "m_go"
    walk_at "m_ite" <;> intro hp
    · walk_at "m_go"
      refine kq _ _ ⟨_, rfl, ?_, rfl⟩
      split <;> omega
    · walk_at "m_go"
      exact kq _ _ ⟨0, rfl, by omega, rfl⟩
  obtain ⟨j, rfl, hj, rfl⟩ := r
  walk_at "m_go"
  refine g_aMul (by decide) (by omega) ?_
  walk_at "m_go"
  refine ⟨sz (by simp), fun b hb => ?_⟩
  have u := Us.newM (S := No) g (.lst [V.int j, .int (i.fmod 2305843009213693951 + 65537 * (n : Nat) + 11), .int 0]) hb
  have hf := fmod_in (i := i) (j := 2305843009213693951) (by decide)
  exact k b _ u ⟨g.free hb, ⟨j, i.fmod 2305843009213693951 + 65537 * (n : Nat) + 11, 0, upd_same, hj, by omega, by omega, by omega, by omega⟩⟩
end
end M

namespace M
open PySem PySem.Spec PyProof.Rows L2
section
variable {K : PySem.W.Frag} {c : Cs} {b : Addr} {z : Nat} {G H : Hp} {Q : VK} {E : XK} {σ : L2.St} {D : Ends}
theorem number_g (g : Same G H) (B : BG b z G H) (hz : z + 10 < 100000000000000000000) (k : ∀ i H', i.natAbs < 2 ^ 124 → Us (On b) G H G H' → BG b (z + 5) G H' → Q (.int i) H') : W_number K c [.ref b] H Q E := by
  refine ⟨rfl, ?_⟩
  show t_number K c _ [some (.ref b), none, none] H
  unfold t_number
  walk_at "m_go"
  refine take_g (E := E0) g B (by decide) (by decide) (by omega) fun r H1 r0 r1 u1 B1 => ?_
  walk_at "m_go"
  walk_at "m_ite" <;> intro h
  · walk_at "m_go"
    refine take_g (E := E0) u1.gh B1 (by decide) (by decide) (by omega) fun r2 H2 q0 q1 u2 B2 => ?_
    walk_at "m_go"
    exact k _ _ (by omega) (u1.trans u2) (B2.mono (by omega))
  walk_at "m_go"
  refine g_aPow (by decide) (by decide) (by decide) ?_
  walk_at "m_go"
  rw [show (10 : Int) ^ (6 : Int).toNat = 1000000 by decide]
  refine take_g (E := E0) u1.gh B1 (by decide) (by decide) (by omega) fun r2 H2 q0 q1 u2 B2 => ?_
  have u12 := u1.trans u2
  walk_at "m_go1"
  walk_at "m_go1"
  refine joinTS (fun σ' H' => ∃ f : Int, σ' = [some (.ref b), some (.int r), some (.int f)] ∧ 0 ≤ f ∧ f < 2 ^ 122 ∧ Us (On b) G H G H' ∧ BG b (z + 4) G H') (fun nx' kq => ?_) (fun σ' H' rr => ?_)
  · walk_at "m_go"
    walk_at "m_ite" <;> intro h3
    · walk_at "m_go"
      refine g_aPow (by decide) (by decide) (by decide) ?_
      walk_at "m_go"
      rw [show (10 : Int) ^ (18 : Int).toNat = 1000000000000000000 by decide]
      refine take_g (E := E0) u2.gh B2 (by decide) (by decide) (by omega) fun r3 H3 p0 p1 u3 B3 => ?_
      walk_at "m_go"
      refine g_aPow (by decide) (by decide) (by decide) ?_
      rw [show (10 : Int) ^ (18 : Int).toNat = 1000000000000000000 by decide]
      refine g_aMul (by omega) (by decide) ?_
      walk_at "m_go"
      refine g_aPow (by decide) (by decide) (by decide) ?_
      walk_at "m_go"
      rw [show (10 : Int) ^ (18 : Int).toNat = 1000000000000000000 by decide]
      refine take_g (E := E0) u3.gh B3 (by decide) (by decide) (by omega) fun r4 H4 s0 s1 u4 B4 => ?_
      walk_at "m_go"
      exact kq _ _ ⟨_, rfl, by omega, by omega, u12.trans (u3.trans u4), B4⟩
    · walk_at "m_go"
      exact kq _ _ ⟨_, rfl, by omega, by omega, u12, B2.mono (by omega)⟩
  obtain ⟨f, rfl, f0, f1, u3, B3⟩ := rr
  walk_at "m_go"
  refine take_g (E := E0) u3.gh B3 (by decide) (by decide) (by omega) fun r4 H4 s0 s1 u4 B4 => ?_
  refine g_aMul (by decide) (by omega) ?_
  walk_at "m_go"
  refine g_aMul (by omega) (by omega) ?_
  walk_at "m_go"
  have hr : r4 = 0 ∨ r4 = 1 := by omega
  refine k _ _ ?_ (u3.trans u4) (B4.mono (by omega))
  rcases hr with rfl | rfl
  · omega
  · omega
end
end M

namespace M
open PySem PySem.Spec PyProof.Rows L2
/-- r is the first of the pairs at the greatest time -/
def Fst (Z : List (Int × Int)) (r : Int × Int) : Prop := ∃ pre post, Z = pre ++ r :: post ∧ (∀ y ∈ pre, y.2 < r.2) ∧ ∀ y ∈ Z, y.2 ≤ r.2
theorem fst_one (z : Int × Int) : Fst [z] z := ⟨[], [], rfl, by simp, by simp⟩
theorem fst_new {Z : List (Int × Int)} {r z : Int × Int} (h : Fst Z r) (hz : r.2 < z.2) : Fst (Z ++ [z]) z := by
  obtain ⟨pre, post, e, h1, h2⟩ := h
  refine ⟨Z, [], rfl, fun y hy => ?_, fun y hy => ?_⟩
  · have := h2 y hy; omega
  · rcases List.mem_append.mp hy with hy | hy
    · have := h2 y hy; omega
    · rw [List.mem_singleton.mp hy]; exact Int.le_refl _
theorem fst_keep {Z : List (Int × Int)} {r z : Int × Int} (h : Fst Z r) (hz : z.2 ≤ r.2) : Fst (Z ++ [z]) r := by
  obtain ⟨pre, post, e, h1, h2⟩ := h
  refine ⟨pre, post ++ [z], by rw [e]; simp, h1, fun y hy => ?_⟩
  rcases List.mem_append.mp hy with hy | hy
  · exact h2 y hy
  · rw [List.mem_singleton.mp hy]; exact hz
theorem fst_uniq {Z : List (Int × Int)} {r s : Int × Int} (h : Fst Z r) (h' : Fst Z s) : r = s := by
  obtain ⟨p1, q1, e1, a1, b1⟩ := h
  obtain ⟨p2, q2, e2, a2, b2⟩ := h'
  have m1 : r ∈ Z := by rw [e1]; simp
  have m2 : s ∈ Z := by rw [e2]; simp
  have et : r.2 = s.2 := Int.le_antisymm (b2 r m1) (b1 s m2)
  have hl : p1.length = p2.length := by
    rcases Nat.lt_trichotomy p1.length p2.length with h | h | h
    · exfalso
      have : r ∈ p2 := by
        have q := congrArg (fun l => l[p1.length]?) (e1.symm.trans e2)
        simp only [List.getElem?_append_right (Nat.le_refl _), Nat.sub_self, List.getElem?_cons_zero, List.getElem?_append_left h] at q
        exact List.mem_of_getElem? q.symm
      have := a2 r this
      omega
    · exact h
    · exfalso
      have : s ∈ p1 := by
        have q := congrArg (fun l => l[p2.length]?) (e1.symm.trans e2)
        simp only [List.getElem?_append_right (Nat.le_refl _), Nat.sub_self, List.getElem?_cons_zero, List.getElem?_append_left h] at q
        exact List.mem_of_getElem? q
      have := a1 s this
      omega
  have q := congrArg (fun l => l[p1.length]?) (e1.symm.trans e2)
  simp only [List.getElem?_append_right (Nat.le_refl _), Nat.sub_self, List.getElem?_cons_zero] at q
  rw [hl, List.getElem?_append_right (Nat.le_refl _), Nat.sub_self] at q
  exact Option.some.inj q
theorem fst_filter {Z : List (Int × Int)} {r : Int × Int} (h : Fst Z r) {m : Int} (hm : m ∈ Z.map Prod.snd) (hx : ∀ y ∈ Z.map Prod.snd, y ≤ m) : ((Z.filter fun z => decide (z.2 = m)).map Prod.fst)[0]? = some r.1 := by
  obtain ⟨pre, post, e, h1, h2⟩ := h
  have em : m = r.2 := by
    obtain ⟨z, hz, rfl⟩ := List.mem_map.mp hm
    exact Int.le_antisymm (h2 z hz) (hx _ (List.mem_map.mpr ⟨r, by rw [e]; simp, rfl⟩))
  subst em
  rw [e, List.filter_append, List.filter_eq_nil_iff.mpr (fun y hy => by have := h1 y hy; simp; omega), List.nil_append, List.filter_cons, if_pos (decide_eq_true rfl)]
  rfl
/-- what each rule shall give -/
def Due (i : Nat) (C T : List Int) (v : Int) : Prop := match i with
  | 0 => v = C.sum
  | 1 => v ∈ C ∧ ∀ y ∈ C, y ≤ v
  | 2 => v ∈ C ∧ ∀ y ∈ C, v ≤ y
  | 3 => C[0]? = some v
  | _ => ∃ t, Fst (C.zip T) (v, t)
theorem due_uniq {i : Nat} {C T : List Int} {v w : Int} (h : Due i C T v) (h' : Due i C T w) : v = w := by
  match i, h, h' with
  | 0, h, h' => exact Eq.trans (show v = C.sum from h) (show w = C.sum from h').symm
  | 1, ⟨a, b⟩, ⟨a', b'⟩ => exact Int.le_antisymm (b' v a) (b w a')
  | 2, ⟨a, b⟩, ⟨a', b'⟩ => exact Int.le_antisymm (b w a') (b' v a)
  | 3, h, h' => exact Option.some.inj ((show C[0]? = some v from h).symm.trans (show C[0]? = some w from h'))
  | i + 4, ⟨t, h⟩, ⟨t', h'⟩ => exact congrArg Prod.fst (fst_uniq h h')
theorem due_one {i : Nat} {c t v : Int} (h : Due i [c] [t] v) : v = c := by
  match i, h with
  | 0, h => exact (show v = [c].sum from h).trans (by simp)
  | 1, ⟨a, _⟩ => exact List.mem_singleton.mp a
  | 2, ⟨a, _⟩ => exact List.mem_singleton.mp a
  | 3, h => exact (Option.some.inj (show some c = some v from h)).symm
  | i + 4, ⟨t', h⟩ =>
    have : ((v, t') : Int × Int) ∈ ([(c, t)] : List (Int × Int)) := by
      obtain ⟨p, q, e, _⟩ := h
      have e : ([(c, t)] : List (Int × Int)) = p ++ (v, t') :: q := e
      rw [e]; simp
    exact congrArg Prod.fst (List.mem_singleton.mp this)
theorem sum_bound {B : Nat} : ∀ {C : List Int}, (∀ x ∈ C, x.natAbs ≤ B) → C.sum.natAbs ≤ C.length * B
  | [], _ => by simp
  | x :: C, h => by
    have h1 := h x (List.mem_cons_self ..)
    have h2 := sum_bound fun y hy => h y (List.mem_cons_of_mem _ hy)
    rw [List.sum_cons, List.length_cons, Nat.succ_mul]
    have := Int.natAbs_add_le x C.sum
    omega
theorem due_bound {i : Nat} {C T : List Int} {v : Int} (h : Due i C T v) (hC : ∀ x ∈ C, x.natAbs ≤ 2 ^ 125) (hl : C.length ≤ 6) : v.natAbs < 2 ^ 130 := by
  have mem : v ∈ C → v.natAbs < 2 ^ 130 := fun q => by have := hC v q; omega
  match i, h with
  | 0, h =>
    rw [show v = C.sum from h]
    have := sum_bound hC
    have : C.length * 2 ^ 125 ≤ 6 * 2 ^ 125 := Nat.mul_le_mul_right _ hl
    omega
  | 1, ⟨a, _⟩ => exact mem a
  | 2, ⟨a, _⟩ => exact mem a
  | 3, h => exact mem (List.mem_of_getElem? (show C[0]? = some v from h))
  | i + 4, ⟨t', h⟩ =>
    obtain ⟨p, q, e, _⟩ := h
    have m : (v, t') ∈ C.zip T := by rw [e]; simp
    exact mem (List.of_mem_zip m).1
section
variable {K : PySem.W.Frag} {c : Cs} {b : Addr} {z : Nat} {G H : Hp} {Q : VK} {E : XK} {σ : L2.St} {D : Ends} {cv tv : V} {C T : List Int}
theorem ls_ixI {L : List Int} {n : Nat} {w : Int} {pv : V} (h : Ls qI G pv L) (g : Same G H) (hn : L[n]? = some w) (k : Q (.int w) H) : rIxL K pv (.int (n : Nat)) H Q := by
  obtain ⟨p, rfl, hp⟩ := ls_map h
  exact g_ixL (SqL.of (g _ _ hp)) (atI_nat (by rw [List.getElem?_map, hn]; rfl)) k
theorem numbers_g (g : Same G H) (B : BG b z G H) (hz : z + 200 < 100000000000000000000) {n : Nat} (hn : n ≤ 10) (k : ∀ v G' H' L, Us (On b) G H G' H' → BG b (z + 100) G' H' → Ls qI G' v L → L.length = n → (∀ i ∈ L, i.natAbs ≤ 2 ^ 125) → Q v H') : W_numbers K c [.ref b, .int (n : Nat)] H Q E := by
  refine ⟨rfl, ?_⟩
  show t_numbers K c _ [some (.ref b), some (.int (n : Nat)), none, none, none] H
  unfold t_numbers
  walk_at "m_go"
  refine ⟨sz (by simp), fun p hp => ?_⟩
  have u0 := Us.newM (S := On b) g (.lst []) hp
  have B0 : BG b z G (upd H p (.lst [])) := ⟨B.gn, B.bag.same (upd_ne (B.ne hp))⟩
  have pb : p ≠ b := (B.ne hp).symm
  have gp : G p = none := g.free hp
  have h0 : (upd H p (.lst [])) p = some (.lst []) := upd_same
  generalize upd H p (.lst []) = H0 at u0 B0 h0
  walk_at "m_go"
  refine g_for (g_rng1 ?_)
  walk_at "m_go"
  refine g_iInt (by omega) (by omega) ?_
  refine fo_rng (n := n) (fun i σ H' => ∃ (L : List Int) (s3 s4 : Option V), σ = [some (.ref b), some (.int (n : Nat)), some (.ref p), s3, s4] ∧ Us (On b) G H G H' ∧ BG b (z + 6 * i) G H' ∧ H' p = some (.lst (L.map V.int)) ∧ L.length = i ∧ ∀ x ∈ L, x.natAbs ≤ 2 ^ 124 + i) ⟨[], none, none, rfl, u0, B0, h0, rfl, by simp⟩ (fun i σ H' hi q => ?_) (fun σ H' q => ?_)
  · obtain ⟨L, s3, s4, rfl, u, Bi, hL, hl, hb⟩ := q
    walk_at "m_go"
    refine number_g (E := E0) u.gh Bi (by omega) fun one H1 hone u1 B1 => ?_
    have h1 := u1.k pb hL
    walk_at "m_go"
    refine g_bm ?_
    walk_at "m_go"
    refine g_ty h1 ?_
    walk_at "m_go"
    have fin : ∀ x : Int, x.natAbs ≤ 2 ^ 124 + (i + 1) → rAppend (.ref p) [.int x] H1 (fun _ H2 => ∃ (L : List Int) (s3 s4 : Option V), [some (V.ref b), some (.int (n : Nat)), some (.ref p), some (.int (i : Nat)), some (.int one)] = [some (.ref b), some (.int (n : Nat)), some (.ref p), s3, s4] ∧ Us (On b) G H G H2 ∧ BG b (z + 6 * (i + 1)) G H2 ∧ H2 p = some (.lst (L.map V.int)) ∧ L.length = i + 1 ∧ ∀ x ∈ L, x.natAbs ≤ 2 ^ 124 + (i + 1)) := fun x hx => by
      refine g_app h1 (by rw [List.length_map]; omega) ?_
      refine ⟨L ++ [x], _, _, rfl, (u.trans u1).turnN _ hp gp, ⟨B1.gn, (B1.bag.same (upd_ne pb.symm)).mono (by omega)⟩, by rw [upd_same, List.map_append]; rfl, by simp [hl], fun y hy => ?_⟩
      rcases List.mem_append.mp hy with hy | hy
      · have := hb y hy; omega
      · rw [List.mem_singleton.mp hy]; exact hx
    refine g_in (onL h1) rfl (List.all_eq_true.mpr fun y hy => by obtain ⟨w, _, rfl⟩ := List.mem_map.mp hy; rfl) ?_
    cases hin : inV (.int one) (L.map V.int) with
    | false =>
      walk_at "m_go"
      exact fin one (by omega)
    | true =>
      have hne : L ≠ [] := fun e => by rw [e] at hin; cases hin
      walk_at "m_go"
      refine ⟨p, L, rfl, SqL.of h1, by cases L with | nil => exact absurd rfl hne | cons _ _ => simp, fun m hm _ => ?_⟩
      walk_at "m_go"
      have := hb m hm
      exact fin (m + 1) (by omega)
  · obtain ⟨L, s3, s4, rfl, u, Bi, hL, hl, hb⟩ := q
    walk_at "m_go"
    exact k _ _ _ L (u.fix hp gp hL) ⟨by rw [upd_ne pb.symm]; exact Bi.gn, Bi.bag.mono (by omega)⟩ (ints_ls upd_same) hl (fun i hi => by have := hb i hi; omega)
end
end M

namespace M
open PySem PySem.Spec PyProof.Rows L2
structure Tin (K : PySem.W.Frag) (C : Addr) : Prop where
  cl : Cls K C
  ha : PySem.W.findIn K (.ref C) "__class__" = some (some (.builtin "object.__class__"))
  hn : PySem.W.specialIn K (.builtin "object.__class__") "__get__" = some (some (.builtin "getset_descriptor.__get__"))
  htk : PySem.W.takesIn K (.builtin "object.__class__") = some true
  hm : PySem.W.mroIn K C (.type "object") = some true
def rcl (c : Cs) : Nat → Addr
  | 0 => c.Add
  | 1 => c.Most
  | 2 => c.Least
  | 3 => c.First
  | _ => c.Newest
def wrd : Nat → Str
  | 0 => "add"
  | 1 => "most"
  | 2 => "least"
  | 3 => "first"
  | _ => "newest"
structure KR (K : PySem.W.Frag) (c : Cs) : Prop where
  tin : ∀ i, i < 5 → Tin K (rcl c i)
  con : ∀ i, i < 5 → ∃ u, Con K (rcl c i) "WORD" (.str (wrd i)) u
  kr : ∀ i, i < 5 → PySem.W.kitOne K (.ref (rcl c i)) (.ref c.Rule) = some true
  kf : ∀ i, i < 5 → PySem.W.kitOne K (.ref (rcl c i)) (.ref c.First) = some (decide (3 ≤ i))
  eq : ∀ i, i < 5 → PySem.W.findIn K (.ref (rcl c i)) "__eq__" = some (some (.ref c.Rule_eq))
  nf : ∀ i j, i < 5 → j < 5 → PySem.W.notFirst K (rcl c i) (.ref (rcl c j)) = true ∨ (rcl c j ≠ rcl c i ∧ PySem.W.subIn K (.ref (rcl c j)) (.ref (rcl c i)) = some true)
  nfS : ∀ i, i < 5 → PySem.W.notFirst K (rcl c i) (.type "str") = true
  isS : PySem.W.kitOne K (.type "str") (.ref c.Rule) = some false
section
variable {K : PySem.W.Frag} {c : Cs} {b : Addr} {z : Nat} {G H : Hp} {Q : VK} {E : XK} {σ : L2.St} {D : Ends} {cv tv : V} {C T : List Int} {i j : Nat} {a dx d2 : Addr}
theorem isi_t {v u : V} {t : Value} {w : Value} {r : Bool} (hc : ClsV u w) (ht : TyX K H v t) (hk : PySem.W.kitOne K t w = some r) (k : Q (.bl r) H) : rIsi K [v, u] H Q := ⟨v, u, t, w, r, rfl, hc, ht, hk, k⟩
theorem Tin.ty {C : Addr} {fs : List (Str × V)} (T : Tin K C) (h : H a = some (.ins C dx fs)) : TyX K H (.ref a) (.ref C) := .base (.ins h T.cl T.ha T.hn T.htk T.hm)
theorem g_con {ta : TE} {f : Str} (h : ta σ H fun x H1 => ∃ a C dx fs v u, x = .ref a ∧ H1 a = some (.ins C dx fs) ∧ Cls K C ∧ Con K C f v u ∧ fs.lookup f = none ∧ Q v H1) : tCon K ta f σ H Q := h
theorem g_pair {trs : List (TE × TE)} {tk tv : TE} {QP : List (V × V) → Hp → Prop} (h : tk σ H fun k H1 => tv σ H1 fun v H2 => tPairs trs σ H2 fun ps H3 => QP ((k, v) :: ps) H3) : tPairs ((tk, tv) :: trs) σ H QP := h
theorem g_pair0 {QP : List (V × V) → Hp → Prop} (h : QP [] H) : tPairs [] σ H QP := h
theorem g_disp {trs : List (TE × TE)} (h : ∀ p, H p = none → tPairs trs σ (upd H p (.dK [])) fun ps H2 => H2 p = some (.dK []) ∧ ∃ kvs : List (Key × V), ps = kvs.map (fun kv => (kV kv.1, kv.2)) ∧ kvs.length ≤ 15 ∧ Q (.ref p) (upd H2 p (.dK (mergeK [] kvs)))) : tDisp trs σ H Q := h
theorem g_dget {td ty : TE} (h : td σ H fun x H1 => ty σ H1 fun y H2 => ∃ a v, x = .ref a ∧ DGet H2 a y (some v) ∧ Q v H2) : tDGet td ty σ H Q := h
theorem dgetS {a : Addr} {x : Str} {kvs : List (Key × V)} {v : V} {P : V → Prop} (h : H a = some (.dK kvs)) (e : valV kvs (.inr x) = some v) (k : P v) : ∃ b u, V.ref a = .ref b ∧ DGet H b (.str x) (some u) ∧ P u :=
  ⟨a, v, rfl, by rw [← e]; exact DGet.k (k := .inr x) h, k⟩
theorem rule_named_g (hi : i < 5) (k : ∀ x dx, H x = none → H dx = none → dx ≠ x → Q (.ref x) (upd (upd H dx (.own x)) x (.ins (rcl c i) dx []))) : W_rule_named K c [.str (wrd i)] H Q E := by
  refine ⟨rfl, ?_⟩
  show t_rule_named K c _ [some (.str (wrd i))] H
  unfold t_rule_named
  have hw : ∀ x y : Str, (x == y) = decide (x = y) := fun x y => by by_cases h : x = y <;> simp [h]
  match i, hi with
  | 0, _ =>
    walk_at "m_go"
    rw [decide_eq_true (show wrd 0 = ("add" : Str) from rfl)]
    walk_at "m_go"
    exact k
  | 1, _ =>
    walk_at "m_go"
    rw [decide_eq_false (show ¬ wrd 1 = ("add" : Str) by decide +kernel)]
    walk_at "m_go"
    rw [decide_eq_true (show wrd 1 = ("most" : Str) from rfl)]
    walk_at "m_go"
    exact k
  | 2, _ =>
    walk_at "m_go"
    rw [decide_eq_false (show ¬ wrd 2 = ("add" : Str) by decide +kernel)]
    walk_at "m_go"
    rw [decide_eq_false (show ¬ wrd 2 = ("most" : Str) by decide +kernel)]
    walk_at "m_go"
    rw [decide_eq_true (show wrd 2 = ("least" : Str) from rfl)]
    walk_at "m_go"
    exact k
  | 3, _ =>
    walk_at "m_go"
    rw [decide_eq_false (show ¬ wrd 3 = ("add" : Str) by decide +kernel)]
    walk_at "m_go"
    rw [decide_eq_false (show ¬ wrd 3 = ("most" : Str) by decide +kernel)]
    walk_at "m_go"
    rw [decide_eq_false (show ¬ wrd 3 = ("least" : Str) by decide +kernel)]
    walk_at "m_go"
    rw [decide_eq_true (show wrd 3 = ("first" : Str) from rfl)]
    walk_at "m_go"
    exact k
  | 4, _ =>
    walk_at "m_go"
    rw [decide_eq_false (show ¬ wrd 4 = ("add" : Str) by decide +kernel)]
    walk_at "m_go"
    rw [decide_eq_false (show ¬ wrd 4 = ("most" : Str) by decide +kernel)]
    walk_at "m_go"
    rw [decide_eq_false (show ¬ wrd 4 = ("least" : Str) by decide +kernel)]
    walk_at "m_go"
    rw [decide_eq_false (show ¬ wrd 4 = ("first" : Str) by decide +kernel)]
    walk_at "m_go"
    exact k
theorem zip_at {m : Nat} {x y : Int} (h1 : C[m]? = some x) (h2 : T[m]? = some y) : (C.zip T)[m]? = some (x, y) := by
  rw [List.getElem?_zip_eq_some]; exact ⟨h1, h2⟩
theorem map_at {m : Nat} {x : V} {L : List Int} (h : (L.map V.int)[m]? = some x) : ∃ w, L[m]? = some w ∧ x = .int w := by
  rw [List.getElem?_map] at h
  cases q : L[m]? with
  | none => rw [q] at h; cases h
  | some w => rw [q] at h; exact ⟨w, rfl, (Option.some.inj h).symm⟩
theorem newest_g (g : Same G H) (hc : Ls qI G cv C) (ht : Ls qI G tv T) (hl : C.length = T.length) (h0 : 0 < C.length) (h6 : C.length ≤ 10) (k : ∀ r H', Same H H' → Fst (C.zip T) r → Q (.int r.1) H') : W_newest K c [cv, tv] H Q E := by
  refine ⟨rfl, ?_⟩
  show t_newest K c _ [some cv, some tv, none, none, none, none] H
  unfold t_newest
  obtain ⟨c0, hc0⟩ : ∃ c0, C[0]? = some c0 := ⟨_, List.getElem?_eq_getElem h0⟩
  obtain ⟨t0, ht0⟩ : ∃ t0, T[0]? = some t0 := ⟨_, List.getElem?_eq_getElem (by omega)⟩
  walk_at "m_go"
  refine ls_ixI (n := 0) hc g hc0 ?_
  walk_at "m_go"
  refine ls_ixI (n := 0) ht g ht0 ?_
  walk_at "m_go"
  obtain ⟨pc, rfl, hpc⟩ := ls_map hc
  obtain ⟨pt, rfl, hpt⟩ := ls_map ht
  refine g_for ?_
  show tCons _ _ _ _ _
  walk_at "m_go"
  refine ⟨pc, pt, C.map V.int, T.map V.int, rfl, SqL.of (g _ _ hpc), SqL.of (g _ _ hpt), ?_⟩
  refine for_it (walk_zip (K := K) (a := pc) (b := pt) (xs := C.map V.int) (ys := T.map V.int) (n := C.length) (by rw [List.length_map, List.length_map]; omega)) (fun m σ H' => ∃ (r : Int × Int) (s4 s5 : Option V), σ = [some (.ref pc), some (.ref pt), some (.int r.1), some (.int r.2), s4, s5] ∧ Same H H' ∧ ((m = 0 ∧ r = (c0, t0)) ∨ Fst ((C.zip T).take m) r))
    ⟨(c0, t0), none, none, rfl, Same.refl _, .inl ⟨rfl, rfl⟩⟩ (fun m σ H' _ q => ?_) (fun m x σ H3 H4 hm q y => ?_) (fun σ H' q => ?_)
  · obtain ⟨_, _, _, _, e, _⟩ := q
    exact ⟨SqL.of ((g.trans e) _ _ hpc), SqL.of ((g.trans e) _ _ hpt)⟩
  · obtain ⟨r, s4, s5, rfl, e, hr⟩ := q
    obtain ⟨T', x1, y1, rfl, hT', rfl, e1, e2⟩ := y
    obtain ⟨cm, hcm, rfl⟩ := map_at e1
    obtain ⟨tm, htm, rfl⟩ := map_at e2
    have hz := zip_at hcm htm
    have en := e.trans (Same.new (o := .tup [.int cm, .int tm]) hT')
    refine g_gTup upd_same rfl ?_
    walk_at "m_go"
    rcases hr with ⟨rfl, rfl⟩ | hr
    · rw [hc0] at hcm
      rw [ht0] at htm
      cases hcm; cases htm
      rw [decide_eq_false (show ¬ t0 < t0 by omega)]
      walk_at "m_go"
      refine ⟨(c0, t0), _, _, rfl, en, .inr ?_⟩
      rw [take_snoc hz]
      exact fst_one _
    · by_cases h : r.2 < tm
      · rw [decide_eq_true h]
        walk_at "m_go"
        refine g_par2 ?_
        refine ⟨(cm, tm), _, _, rfl, en, .inr ?_⟩
        rw [take_snoc hz]
        exact fst_new hr h
      · rw [decide_eq_false h]
        walk_at "m_go"
        refine ⟨r, _, _, rfl, en, .inr ?_⟩
        rw [take_snoc hz]
        exact fst_keep hr (by show tm ≤ r.2; omega)
  · obtain ⟨r, s4, s5, rfl, e, hr⟩ := q
    walk_at "m_go"
    rcases hr with ⟨hm, _⟩ | hr
    · omega
    · rw [List.take_of_length_le (by rw [List.length_zip]; omega)] at hr
      exact k r H' e hr
end
end M

namespace M
open PySem PySem.Spec PyProof.Rows L2
section
variable {K : PySem.W.Frag} {c : Cs} {b : Addr} {z : Nat} {G H : Hp} {Q : VK} {E : XK} {σ : L2.St} {D : Ends} {cv tv : V} {C T : List Int} {i j : Nat} {a dx d2 : Addr}
theorem due_at {i : Nat} (hi : i < 5) (v0 v1 v2 v3 v4 : V) : valV (mergeK [] [((.inr ("add" : Str) : Key), v0), (.inr ("most" : Str), v1), (.inr ("least" : Str), v2), (.inr ("first" : Str), v3), (.inr ("newest" : Str), v4)]) (.inr (wrd i)) = some (match i with | 0 => v0 | 1 => v1 | 2 => v2 | 3 => v3 | _ => v4) := by
  match i, hi with
  | 0, _ => rfl
  | 1, _ => rfl
  | 2, _ => rfl
  | 3, _ => rfl
  | 4, _ => rfl
theorem due_g (g : Same G H) (hi : i < 5) (hc : Ls qI G cv C) (ht : Ls qI G tv T) (hl : C.length = T.length) (h0 : 0 < C.length) (h6 : C.length ≤ 10) (k : ∀ v H', Same H H' → Due i C T v → Q (.int v) H') : W_due K c [.str (wrd i), cv, tv] H Q E := by
  refine ⟨rfl, ?_⟩
  show t_due K c _ [some (.str (wrd i)), some cv, some tv, none, none, none, none] H
  unfold t_due
  obtain ⟨c0, hc0⟩ : ∃ c0, C[0]? = some c0 := ⟨_, List.getElem?_eq_getElem h0⟩
  have hmem0 := List.mem_of_getElem? hc0
  walk_at "m_go"
  refine ls_ixI (n := 0) hc g hc0 ?_
  walk_at "m_go"
  refine ls_ixI (n := 0) hc g hc0 ?_
  walk_at "m_go"
  refine ⟨_, _, _, rfl, ?_⟩
  dsimp only
  refine g_seq ?_
  refine fo_list (G := G) (R := qI) (L := C) g (fun m σ H' => ∃ (lo hi : Int) (s6 : Option V), σ = [some (.str (wrd i)), some cv, some tv, some (.int (C.take m).sum), some (.int lo), some (.int hi), s6] ∧ H' = H ∧ lo ∈ C ∧ hi ∈ C ∧ (∀ y ∈ C.take m, lo ≤ y) ∧ (∀ y ∈ C.take m, y ≤ hi))
    (fun QV kk => ?_) (fun m σ H' q => ?_) ⟨c0, c0, none, by simp [List.set], rfl, hmem0, hmem0, by simp, by simp⟩ (fun m y x σ H' hm hx q => ?_) (fun σ H' q => ?_)
  · walk_at "m_go"
    exact kk _ hc
  · obtain ⟨_, _, _, _, rfl, _⟩ := q
    exact g
  · obtain ⟨lo, hi', s6, rfl, rfl, ml, mh, l1, h1⟩ := q
    have hx2 : x = .int y := hx
    subst hx2
    have my := List.mem_of_getElem? hm
    have es : (C.take m).sum + y = (C.take (m + 1)).sum := by rw [take_snoc hm, List.sum_append]; simp
    have all : ∀ {p : Int → Prop}, (∀ w ∈ C.take m, p w) → p y → ∀ w ∈ C.take (m + 1), p w := fun {p} a1 a2 w hw => by
      rw [take_snoc hm] at hw
      rcases List.mem_append.mp hw with hw | hw
      · exact a1 w hw
      · rw [List.mem_singleton.mp hw]; exact a2
    walk_at "m_go"
    rw [es]
    by_cases q1 : y < lo <;> by_cases q2 : hi' < y
    · rw [decide_eq_true q1]
      walk_at "m_go"
      rw [decide_eq_true q2]
      walk_at "m_go"
      exact ⟨_, _, _, rfl, rfl, my, my, all (fun w hw => by have := l1 w hw; omega) (Int.le_refl _), all (fun w hw => by have := h1 w hw; omega) (Int.le_refl _)⟩
    · rw [decide_eq_true q1]
      walk_at "m_go"
      rw [decide_eq_false q2]
      walk_at "m_go"
      exact ⟨_, _, _, rfl, rfl, my, mh, all (fun w hw => by have := l1 w hw; omega) (Int.le_refl _), all h1 (by omega)⟩
    · rw [decide_eq_false q1]
      walk_at "m_go"
      rw [decide_eq_true q2]
      walk_at "m_go"
      exact ⟨_, _, _, rfl, rfl, ml, my, all l1 (by omega), all (fun w hw => by have := h1 w hw; omega) (Int.le_refl _)⟩
    · rw [decide_eq_false q1]
      walk_at "m_go"
      rw [decide_eq_false q2]
      walk_at "m_go"
      exact ⟨_, _, _, rfl, rfl, ml, mh, all l1 (by omega), all h1 (by omega)⟩
  · obtain ⟨lo, hi', s6, rfl, rfl, ml, mh, l1, h1⟩ := q
    rw [List.take_length] at l1 h1 ⊢
    walk_at "m_go"
    refine g_dget (g_disp fun p hp => ?_)
    have en := Same.new (o := .dK []) hp
    have hpp : (upd H' p (.dK [])) p = some (.dK []) := upd_same
    have gn := g.trans en
    generalize upd H' p (.dK []) = H1 at en hpp gn
    refine g_pair ?_
    walk_at "m_go"
    refine g_pair ?_
    walk_at "m_go"
    refine g_pair ?_
    walk_at "m_go"
    refine g_pair ?_
    walk_at "m_go"
    refine ls_ixI (n := 0) hc gn hc0 ?_
    refine g_pair ?_
    walk_at "m_go"
    refine newest_g (E := E0) gn hc ht hl h0 h6 fun r H2 e2 hr => ?_
    refine g_pair0 ⟨e2 _ _ hpp, [((.inr ("add" : Str) : Key), .int C.sum), (.inr ("most" : Str), .int hi'), (.inr ("least" : Str), .int lo), (.inr ("first" : Str), .int c0), (.inr ("newest" : Str), .int r.1)], rfl, (show 5 ≤ 15 by decide), ?_⟩
    walk_at "m_go"
    have sm : Same H' (upd H2 p (.dK (mergeK [] [((.inr ("add" : Str) : Key), V.int C.sum), (.inr ("most" : Str), .int hi'), (.inr ("least" : Str), .int lo), (.inr ("first" : Str), .int c0), (.inr ("newest" : Str), .int r.1)]))) := Same.mut (en.trans e2) _ hp
    refine dgetS upd_same (due_at hi _ _ _ _ _) ?_
    match i, hi with
    | 0, _ => exact k _ _ sm rfl
    | 1, _ => exact k _ _ sm ⟨mh, h1⟩
    | 2, _ => exact k _ _ sm ⟨ml, l1⟩
    | 3, _ => exact k _ _ sm hc0
    | 4, _ => exact k _ _ sm ⟨r.2, hr⟩
/-! ### the rules -/
theorem fst_snoc {Z : List (Int × Int)} {z : Int × Int} : (Z = [] ∨ ∃ r, Fst Z r) → ∃ r, Fst (Z ++ [z]) r
  | .inl h => ⟨z, by rw [h]; exact fst_one z⟩
  | .inr ⟨r, h⟩ => by
    by_cases q : r.2 < z.2
    · exact ⟨z, fst_new h q⟩
    · exact ⟨r, fst_keep h (by omega)⟩
theorem fst_ex {Z : List (Int × Int)} (h : Z ≠ []) : ∃ r, Fst Z r := by
  have : ∀ n, n ≤ Z.length → Z.take n = [] ∨ ∃ r, Fst (Z.take n) r := by
    intro n
    induction n with
    | zero => intro _; exact .inl (by simp)
    | succ n ih =>
      intro hn
      obtain ⟨z, hz⟩ : ∃ z, Z[n]? = some z := ⟨_, List.getElem?_eq_getElem (by omega)⟩
      rw [take_snoc hz]
      exact .inr (fst_snoc (ih (by omega)))
  rcases this Z.length (Nat.le_refl _) with q | q
  · rw [List.take_length] at q; exact absurd q h
  · rwa [List.take_length] at q
def LcJ (J : It) (g : TG) (tt : TT) (te : TE) (vs : List Nat) : TE := fun σ H1 Q => ∀ D, H1 D = none → ∃ W : Nat → Nat → Hp → Prop, (∃ m, W 0 m (upd H1 D (.lst []))) ∧ ∀ i m H, W i m H →
  (J.stop i H ∧ Q (.ref D) H) ∨ (J.go i H ∧ ∃ Nx : Hp → Prop, (∀ H', Nx H' → ∃ m', m' < m ∧ W (i + 1) m' H') ∧ ∀ x H', J.yld i H x H' → g x (wipe σ vs) H' fun σ2 H2 => wipe σ2 vs = wipe σ vs ∧ tt σ2 H2 fun b H3 =>
    if b = true then te σ2 H3 fun y H4 => ∃ acc, H4 D = some (.lst acc) ∧ acc.length < sizeLine ∧ Nx (upd H4 D (.lst (acc ++ [y]))) else Nx H3)
theorem g_lc {wi : TI} {gt : TG} {tt : TT} {te : TE} {vs : List Nat} {σ : L2.St} (h : wi σ H fun J H1 => LcJ J gt tt te vs σ H1 Q) : tLc wi gt tt te vs σ H Q := h
theorem g_mcD {R : Addr → Sp → Prop} {m : Str} {ta : TE} {t : TA} (h : ta σ H fun x H1 => ∃ a C dx fs sp, x = .ref a ∧ H1 a = some (.ins C dx fs) ∧ R C sp ∧ fs.lookup m = none ∧ t σ H1 fun vs H2 => sp (x :: vs) H2 Q E0) : tMcD R m ta t σ H Q := h
def spI (K : PySem.W.Frag) (c : Cs) : Nat → Sp
  | 0 => W_Add_pick K c
  | 1 => W_Most_pick K c
  | 2 => W_Least_pick K c
  | 3 => W_First_pick K c
  | _ => W_Newest_pick K c
theorem spI_R (hi : i < 5) : pickR K c (rcl c i) (spI K c i) := by
  match i, hi with
  | 0, _ => exact .inl ⟨rfl, rfl⟩
  | 1, _ => exact .inr (.inl ⟨rfl, rfl⟩)
  | 2, _ => exact .inr (.inr (.inl ⟨rfl, rfl⟩))
  | 3, _ => exact .inr (.inr (.inr (.inl ⟨rfl, rfl⟩)))
  | 4, _ => exact .inr (.inr (.inr (.inr ⟨rfl, rfl⟩)))
theorem rcl_R (hi : i < 5) : Rl c (rcl c i) := by
  match i, hi with
  | 0, _ => exact .inl rfl
  | 1, _ => exact .inr (.inl rfl)
  | 2, _ => exact .inr (.inr (.inl rfl))
  | 3, _ => exact .inr (.inr (.inr (.inl rfl)))
  | 4, _ => exact .inr (.inr (.inr (.inr rfl)))
theorem first_g {L : List Int} {v : Int} {lv : V} {x : V} (g : Same G H) (hc : Ls qI G lv L) (h0 : L[0]? = some v) (k : Q (.int v) H) : W_First_pick K c [x, lv, tv] H Q E := by
  refine ⟨rfl, ?_⟩
  show t_First_pick K c _ [some x, some lv, some tv] H
  unfold t_First_pick
  walk_at "m_go"
  exact ls_ixI (n := 0) hc g h0 k
theorem g_sup {S : Addr → Prop} {sp : Sp} {t : TA} (h : ∃ a C dx fs, σ[0]? = some (some (V.ref a)) ∧ H a = some (.ins C dx fs) ∧ S C ∧ t σ H fun vs H1 => sp (V.ref a :: vs) H1 Q E0) : tSup S sp t σ H Q := h
theorem pick_g (g : Same G H) (hi : i < 5) (ha : H a = some (.ins (rcl c i) dx [])) (hc : Ls qI G cv C) (ht : Ls qI G tv T) (hl : C.length = T.length) (h0 : 0 < C.length) (h6 : C.length ≤ 10) (k : ∀ v H', Same H H' → Due i C T v → Q (.int v) H') : spI K c i [.ref a, cv, tv] H Q E := by
  obtain ⟨pc, rfl, hpc⟩ := ls_map hc
  obtain ⟨pt, rfl, hpt⟩ := ls_map ht
  match i, hi with
  | 0, _ =>
    refine ⟨rfl, ?_⟩
    show t_Add_pick K c _ [some (.ref a), some (.ref pc), some (.ref pt)] H
    unfold t_Add_pick
    walk_at "m_go"
    exact ⟨pc, C, rfl, SqL.of (g _ _ hpc), k _ _ (Same.refl _) rfl⟩
  | 1, _ =>
    refine ⟨rfl, ?_⟩
    show t_Most_pick K c _ [some (.ref a), some (.ref pc), some (.ref pt)] H
    unfold t_Most_pick
    walk_at "m_go"
    exact ⟨pc, C, rfl, SqL.of (g _ _ hpc), h0, fun m h1 h2 => k _ _ (Same.refl _) ⟨h1, h2⟩⟩
  | 2, _ =>
    refine ⟨rfl, ?_⟩
    show t_Least_pick K c _ [some (.ref a), some (.ref pc), some (.ref pt)] H
    unfold t_Least_pick
    walk_at "m_go"
    exact ⟨pc, C, rfl, SqL.of (g _ _ hpc), h0, fun m h1 h2 => k _ _ (Same.refl _) ⟨h1, h2⟩⟩
  | 3, _ =>
    obtain ⟨c0, hc0⟩ : ∃ c0, C[0]? = some c0 := ⟨_, List.getElem?_eq_getElem h0⟩
    exact first_g (E := E) g hc hc0 (k _ _ (Same.refl _) hc0)
  | 4, _ =>
    refine ⟨rfl, ?_⟩
    show t_Newest_pick K c _ [some (.ref a), some (.ref pc), some (.ref pt), none, none, none, none, none] H
    unfold t_Newest_pick
    walk_at "m_go"
    refine ⟨pt, T, rfl, SqL.of (g _ _ hpt), by omega, fun m hm hx => ?_⟩
    walk_at "m_go"
    refine g_lc ?_
    show tCons _ _ _ _ _
    walk_at "m_go"
    refine ⟨pc, pt, C.map V.int, T.map V.int, rfl, SqL.of (g _ _ hpc), SqL.of (g _ _ hpt), ?_⟩
    have hz : (C.zip T).length = C.length := by rw [List.length_zip]; omega
    refine lc_g (Qd := fun p H2 => _) (R2 := qI) (S := No) (P := fun _ _ => True) (L := C.zip T) (fun _ _ _ _ _ => trivial) (fun z => decide (z.2 = m)) Prod.fst (walk_zip (K := K) (a := pc) (b := pt) (xs := C.map V.int) (ys := T.map V.int) (n := C.length) (by rw [List.length_map, List.length_map]; omega)) hz (by omega) g (fun G1 H1 u => ⟨SqL.of (u.gh _ _ (u.gg _ _ hpc)), SqL.of (u.gh _ _ (u.gg _ _ hpt))⟩) (fun _ h => h.elim) trivial (fun j' z x G2 H2 H3 Cv Cn hz' u2 _ y kk => ?_) (fun p G2 H2 _ u2 _ r => ?_)
    · obtain ⟨T', x1, y1, rfl, hT', rfl, e1, e2⟩ := y
      obtain ⟨cm, hcm, rfl⟩ := map_at e1
      obtain ⟨tm, htm, rfl⟩ := map_at e2
      have hz2 := zip_at hcm htm
      rw [hz'] at hz2
      cases hz2
      have un := Us.new (S := No) u2.gh (.tup [V.int cm, .int tm]) hT'
      refine g_gTup upd_same rfl ?_
      walk_at "m_go"
      refine ⟨rfl, ?_⟩
      walk_at "m_go"
      cases q : decide (tm = m) with
      | true =>
        walk_at "m_go"
        exact kk.y q _ _ _ un trivial rfl
      | false =>
        walk_at "m_go"
        exact kk.n q _ _ un trivial
    · walk_at "m_go"
      refine g_sup ⟨a, c.Newest, dx, [], rfl, u2.kN ha, rfl, ?_⟩
      walk_at "m_go"
      have hT : ∀ L : List Int, ∀ L2 : List Int, L.length = L2.length → (L.zip L2).map Prod.snd = L2 := fun L L2 h => List.map_snd_zip (by omega)
      have hm' : m ∈ (C.zip T).map Prod.snd := by rw [hT C T hl]; exact hm
      have hx' : ∀ y ∈ (C.zip T).map Prod.snd, y ≤ m := by rw [hT C T hl]; exact hx
      obtain ⟨f, hf⟩ : ∃ f, Fst (C.zip T) f := fst_ex (by intro e; rw [e] at hz; simp at hz; omega)
      exact first_g u2.gh r (fst_filter hf hm' hx') (k _ _ u2.sm ⟨f.2, hf⟩)
theorem call_g (g : Same G H) (hi : i < 5) (ha : H a = some (.ins (rcl c i) dx [])) (hc : Ls qI G cv C) (ht : Ls qI G tv T) (hl : C.length = T.length) (h0 : 0 < C.length) (h6 : C.length ≤ 10) (k : ∀ v H', Same H H' → Due i C T v → Q (.int v) H') : W_Rule_call K c [.ref a, cv, tv] H Q E := by
  refine ⟨rfl, ?_⟩
  show t_Rule_call K c _ [some (.ref a), some cv, some tv] H
  unfold t_Rule_call
  walk_at "m_go"
  refine g_mcD ?_
  walk_at "m_go"
  refine ⟨a, _, dx, [], _, rfl, ha, spI_R hi, rfl, ?_⟩
  walk_at "m_go"
  exact pick_g (E := E0) g hi ha hc ht hl h0 h6 k
theorem wrd_inj (hi : i < 5) (hj : j < 5) : decide (wrd i = wrd j) = decide (i = j) := by
  have : ∀ i, i < 5 → ∀ j, j < 5 → decide (wrd i = wrd j) = decide (i = j) := by decide +kernel
  exact this i hi j hj
theorem eqr_g (R : KR K c) (hi : i < 5) (hj : j < 5) {a b : Addr} (ha : H a = some (.ins (rcl c i) dx [])) (hb : H b = some (.ins (rcl c j) d2 [])) (k : Q (.bl (decide (i = j))) H) : W_Rule_eq K c [.ref a, .ref b] H Q E := by
  refine ⟨rfl, ?_⟩
  show t_Rule_eq K c _ [some (.ref a), some (.ref b)] H
  unfold t_Rule_eq
  obtain ⟨u1, k1⟩ := R.con i hi
  obtain ⟨u2, k2⟩ := R.con j hj
  walk_at "m_go"
  refine isi_t (.own c.Rule) ((R.tin j hj).ty hb) (R.kr j hj) ?_
  walk_at "m_go"
  refine g_con ?_
  walk_at "m_go"
  refine ⟨a, _, dx, [], _, _, rfl, ha, (R.tin i hi).cl, k1, rfl, ?_⟩
  refine g_con ?_
  walk_at "m_go"
  refine ⟨b, _, d2, [], _, _, rfl, hb, (R.tin j hj).cl, k2, rfl, ?_⟩
  walk_at "m_go"
  rw [wrd_inj hi hj]
  exact k
theorem eq_g (R : KR K c) (hi : i < 5) (hj : j < 5) {a b : Addr} (ha : H a = some (.ins (rcl c i) dx [])) (hb : H b = some (.ins (rcl c j) d2 [])) (k : Q (.bl (decide (i = j))) H) : aOwnR K c.Rule_eq (W_Rule_eq K c) (.ref a) (.ref b) H Q := by
  rcases R.nf i j hi hj with h | ⟨h1, h2⟩
  · refine .inl ⟨a, _, dx, [], .ref (rcl c j), rfl, ha, R.eq i hi, .ins hb, h, ?_⟩
    exact eqr_g R hi hj ha hb ⟨_, rfl, k⟩
  · refine .inr ⟨a, _, dx, [], b, _, d2, [], rfl, rfl, ha, hb, R.eq j hj, h1, h2, ?_⟩
    refine eqr_g R hj hi hb ha ⟨_, rfl, ?_⟩
    rw [show decide (j = i) = decide (i = j) by by_cases e : i = j <;> simp [e, eq_comm]]
    exact k
theorem eqs_g (R : KR K c) (hi : i < 5) {x : Str} (ha : H a = some (.ins (rcl c i) dx [])) (k : Q (.bl false) H) : aOwnR K c.Rule_eq (W_Rule_eq K c) (.ref a) (.str x) H Q := by
  refine .inl ⟨a, _, dx, [], .type "str", rfl, ha, R.eq i hi, .str x, R.nfS i hi, ?_⟩
  refine ⟨rfl, ?_⟩
  show t_Rule_eq K c _ [some (.ref a), some (.str x)] H
  unfold t_Rule_eq
  walk_at "m_go"
  refine isi_t (.own c.Rule) (.base (.str x)) R.isS ?_
  walk_at "m_go"
  exact k
end
end M

namespace M
open PySem PySem.Spec PyProof.Rows L2
def qRu (c : Cs) : Rep Nat := fun G v i => ∃ a dx, v = .ref a ∧ i < 5 ∧ G a = some (.ins (rcl c i) dx [])
instance {c : Cs} : Mon (qRu c) := ⟨fun e h => let ⟨a, dx, h1, h2, h3⟩ := h; ⟨a, dx, h1, h2, e _ _ h3⟩⟩
def qPI (P : Int → Prop) : Rep Nat := fun _ v _ => ∃ w, v = .int w ∧ P w
instance {P : Int → Prop} : Mon (qPI P) := ⟨fun _ h => h⟩
theorem qpi_list {P : Int → Prop} {G : Hp} {xs : List V} {L : List Nat} (h : Paired (qPI P G) xs L) : ∃ M : List Int, M.length = L.length ∧ (∀ i ∈ M, P i) ∧ xs = M.map V.int := by
  induction h with
  | nil => exact ⟨[], rfl, by simp, rfl⟩
  | cons r t ih =>
    obtain ⟨w, rfl, hw⟩ := r
    obtain ⟨M, h1, h2, rfl⟩ := ih
    refine ⟨w :: M, by simp [h1], fun i hi => ?_, rfl⟩
    rcases List.mem_cons.mp hi with e | hi
    · rw [e]; exact hw
    · exact h2 i hi
def five : List Nat := [0, 1, 2, 3, 4]
theorem five_at {i : Nat} (h : i < 5) : five[i]? = some i := by
  match i, h with
  | 0, _ => rfl
  | 1, _ => rfl
  | 2, _ => rfl
  | 3, _ => rfl
  | 4, _ => rfl
section
variable {K : PySem.W.Frag} {c : Cs} {b : Addr} {z : Nat} {G H : Hp} {Q : VK} {E : XK} {σ : L2.St} {D : Ends} {cv tv x y v : V} {C T : List Int} {i j : Nat} {a dx d2 sa : Addr} {L : List Int}
theorem Us.new2 {S : Addr → Prop} {o o' : HO} {x dx : Addr} (g : Same G H) (hx : H x = none) (hd : H dx = none) (ne : dx ≠ x) : Us S G H (upd (upd G dx o) x o') (upd (upd H dx o) x o') :=
  (Us.new g o hd).trans (Us.new (Us.new (S := S) g o hd).gh o' (by rw [upd_ne ne.symm]; exact hx))
theorem ne_same {d : PyData} (hx : Dp K H x d) (hy : Dp K H y d) (hf : Fit 64 d) (k : Q (.bl false) H) : aNeD K x y H Q :=
  ⟨d, d, hx, hy, fit_shaped hf, fit_shaped hf, by rw [SeqAt.eqv_refl d hf.1]; exact k⟩
theorem ne_ls {α : Type} {R : Rep α} [Dat R] {L : List α} (h1 : Ls R G x L) (h2 : Ls R G y L) (g : Same G H) (hf : ∀ a ∈ L, Fit 60 (Dat.enc R a)) (k : Q (.bl false) H) : aNeD K x y H Q :=
  ne_same (h1.dp g) (h2.dp g) (Fit.mono (fit_list (n := 60) fun d hd => by obtain ⟨a, ha, rfl⟩ := List.mem_map.mp hd; exact hf a ha) (by decide)) k
theorem ne_ints {L : List Int} (h1 : Ls qI G x L) (h2 : Ls qI G y L) (g : Same G H) (k : Q (.bl false) H) : aNeD K x y H Q := ne_ls h1 h2 g (fun a _ => (fit_int a).mono (by decide)) k
theorem ne_bls {L : List Bool} (h1 : Ls qB G x L) (h2 : Ls qB G y L) (g : Same G H) (k : Q (.bl false) H) : aNeD K x y H Q := ne_ls h1 h2 g (fun a _ => (fit_bool a).mono (by decide)) k
theorem log_lt {i : Int} (h : i.natAbs < 2 ^ 130) : i.natAbs.log2 < 1920 := by
  by_cases h0 : i.natAbs = 0
  · rw [h0]; decide
  · have := (Nat.log2_lt h0).mpr h
    omega
theorem rep_i {i : Int} (h : i.natAbs < 2 ^ 130) (k : Q (.str (toString i)) H) : aRepI [.int i] H Q := ⟨_, rfl, log_lt h, k⟩
theorem ne_rep {i j : Int} (h : i = j) (k : Q (.bl false) H) : aNe (.str (toString i)) (.str (toString j)) H Q := by
  subst h
  refine g_aNeS ?_
  rw [decide_eq_true rfl]
  exact k
theorem g_callD {S : Addr → Prop} {sp : Sp} {tf : TE} {t : TA} (h : tf σ H fun y H1 => ∃ a, y = V.ref a ∧ t σ H1 fun vs H2 => ∃ C dx fs, H2 a = some (.ins C dx fs) ∧ S C ∧ sp (V.ref a :: vs) H2 Q E0) : tCallD S sp tf t σ H Q := h
theorem Ls.copyI {L : List Int} (h : Ls qI G v L) (g : Same G H) (k : ∀ v1 G1 H1, Us No G H G1 H1 → Ls qI G1 v1 L → Q v1 H1) : aListOf K [v] H Q := by
  obtain ⟨p, rfl, hp⟩ := ls_map h
  refine ⟨p, L.map V.int, rfl, .inl (SqL.of (g _ _ hp)), fun l hl => ?_⟩
  have u := Us.new (S := No) g (.lst (L.map V.int)) hl
  exact k _ _ _ u (ints_ls upd_same)
theorem Ls.take1I {L : List Int} (h : Ls qI G v L) (g : Same G H) (k : ∀ v1 G1 H1, Us No G H G1 H1 → Ls qI G1 v1 (L.take 1) → Q v1 H1) : rSlL K v none (some 1) H Q := by
  obtain ⟨p, rfl, hp⟩ := ls_map h
  refine ⟨p, L.map V.int, rfl, SqL.of (g _ _ hp), fun l hl => ?_⟩
  have e : cutV (L.map V.int) none (some 1) = (L.take 1).map V.int := by
    unfold cutV
    rw [HT.sIx_none, List.drop_zero, Nat.sub_zero, show HT.sIx (L.map V.int).length (L.map V.int).length (some 1) = min 1 (L.map V.int).length from HT.sIx_nat _ _ 1, List.map_take]
    by_cases h : 1 ≤ (L.map V.int).length
    · rw [Nat.min_eq_left h]
    · rw [Nat.min_eq_right (by omega), List.take_of_length_le (by omega), List.take_of_length_le (by omega)]
  rw [e]
  have u := Us.new (S := No) g (.lst ((L.take 1).map V.int)) hl
  exact k _ _ _ u (ints_ls upd_same)
theorem ints_paired : ∀ M : List Int, Paired (qI G) (M.map V.int) M
  | [] => .nil
  | _ :: M => .cons rfl (ints_paired M)
theorem g_yesC {gt : TG} {te : TE} {vs : List Nat} {x : V} {σ0 τ : L2.St} {H0 : Hp} {Cv : VK} {Cn : Hp → Prop} (h : gt x σ0 H0 fun σ2 H2 => wipe σ2 vs = τ ∧ te σ2 H2 Cv) : gt x σ0 H0 fun σ2 H2 => wipe σ2 vs = τ ∧ tYes σ2 H2 fun b H3 => if b = true then te σ2 H3 Cv else Cn H3 := by
  have e : (fun (σ2 : L2.St) (H2 : Hp) => wipe σ2 vs = τ ∧ tYes σ2 H2 fun b H3 => if b = true then te σ2 H3 Cv else Cn H3) = fun σ2 H2 => wipe σ2 vs = τ ∧ te σ2 H2 Cv := by
    funext σ2 H2
    show (wipe σ2 vs = τ ∧ if true = true then te σ2 H2 Cv else Cn H2) = _
    rw [if_pos rfl]
  rw [e]; exact h
/-- some numbers, each drawn -/
theorem draw_lc {gt : TG} {te : TE} {vs : List Nat} {n s : Nat} (g : Same G H) (B : BG b z G H) (hn : n ≤ 1000) (P : Int → Prop)
    (hs : ∀ (i : Nat) (G1 H0 : Hp) (zz : Nat) (Cv : VK), i < n → Us (On b) G H G1 H0 → BG b zz G1 H0 → zz ≤ z + s * i → (∀ v G4 H4, Us (On b) G1 H0 G4 H4 → BG b (zz + s) G4 H4 → P v → Cv (.int v) H4) →
      gt (.int (i : Nat)) (wipe σ vs) H0 fun σ2 H2 => wipe σ2 vs = wipe σ vs ∧ te σ2 H2 Cv)
    (k : ∀ v G' H' L, Us (On b) G H G' H' → BG b (z + s * n) G' H' → Ls qI G' v L → L.length = n → (∀ i ∈ L, P i) → Q v H') : LcJ (Itr 0 n) gt tYes te vs σ H Q := by
  refine lc_g (Qd := fun p H2 => Q (.ref p) H2) (R2 := qPI P) (S := On b) (P := fun i H => Bag H b (z + s * i)) (L := List.range n) (fun i H H' e p => p.same (e b rfl)) (fun _ => true) (fun i => i) (walk_range (lo := 0) (n := n)) (by simp) (by omega) g (fun _ _ _ => trivial) (fun a e => ?_) B.bag (fun i a x G2 H2 H3 Cv Cn ha u2 p2 y kk => ?_) (fun p G2 H2 hp u2 p2 r => ?_)
  · obtain ⟨o, q⟩ := B.ex
    rw [show a = b from e, q]; exact nofun
  · obtain ⟨e1, e2⟩ := y
    subst e1 e2
    have hi : i < n := by
      have := (List.getElem?_eq_some_iff.mp ha).1
      rwa [List.length_range] at this
    obtain ⟨o, q⟩ := B.ex
    dsimp only
    rw [Int.zero_add]
    have h := hs i G2 H3 (z + s * i) Cv hi u2 ⟨u2.no B.gn q, p2⟩ (Nat.le_refl _) fun v G4 H4 u4 B4 hv => kk.y rfl _ _ _ u4 (by rw [Nat.mul_succ, ← Nat.add_assoc]; exact B4.bag) ⟨v, rfl, hv⟩
    exact g_yesC (gt := gt) (te := te) (vs := vs) (τ := wipe σ vs) (Cv := Cv) (Cn := Cn) h
  · obtain ⟨p', xs, e, hx, hpr⟩ := r
    cases e
    obtain ⟨M, hM, hc, rfl⟩ := qpi_list hpr
    rw [List.map_id', List.filter_eq_self.mpr (fun _ _ => rfl), List.length_range] at hM
    obtain ⟨o, q⟩ := B.ex
    exact k _ G2 H2 M u2 ⟨u2.no B.gn q, p2⟩ ⟨p, _, rfl, hx, ints_paired M⟩ hM hc
end
end M

namespace M
open PySem PySem.Spec PyProof.Rows L2
def wrds : List Str := five.map wrd
section
variable {K : PySem.W.Frag} {c : Cs} {b : Addr} {z : Nat} {G H : Hp} {Q : VK} {E : XK} {σ : L2.St} {D : Ends} {cv tv x y v : V} {C T : List Int} {i j : Nat} {a dx d2 sa : Addr} {L : List Int}
theorem new_rule (g : Same G H) (i : Nat) (k : ∀ a dx G1 H1, Us No G H G1 H1 → G1 a = some (.ins (rcl c i) dx []) → Q (.ref a) H1) : tNew0 (rcl c i) σ H Q := by
  intro x dx hx hd ne
  exact k x dx _ _ (Us.new2 g hx hd ne) upd_same
theorem five_lt {i : Nat} (h : i ∈ five) : i < 5 := by
  have : ∀ i ∈ five, i < 5 := by decide
  exact this i h
theorem wrds_fit : ∀ w ∈ wrds, Fit 60 (Dat.enc qS w) := fun w hw => by
  have : wrds.all strA = true := by decide +kernel
  exact (fit_str (List.all_eq_true.mp this w hw)).mono (by decide)
theorem bool_lc {gt : TG} {te : TE} {vs : List Nat} {n : Nat} (g : Same G H) (hn : n ≤ 1000) (f : Nat → Bool)
    (hs : ∀ (i : Nat) (G1 H0 : Hp) (Cv : VK), i < n → Us No G H G1 H0 → (∀ G4 H4, Us No G1 H0 G4 H4 → Cv (.bl (f i)) H4) → gt (.int (i : Nat)) (wipe σ vs) H0 fun σ2 H2 => wipe σ2 vs = wipe σ vs ∧ te σ2 H2 Cv)
    (k : ∀ v G' H', Us No G H G' H' → Ls qB G' v ((List.range n).map f) → Q v H') : LcJ (Itr 0 n) gt tYes te vs σ H Q := by
  refine lc_g (Qd := fun p H2 => Q (.ref p) H2) (R2 := qB) (S := No) (P := fun _ _ => True) (L := List.range n) (fun _ _ _ _ _ => trivial) (fun _ => true) f (walk_range (lo := 0) (n := n)) (by simp) (by omega) g (fun _ _ _ => trivial) (fun _ h => h.elim) trivial (fun i a x G2 H2 H3 Cv Cn ha u2 p2 y kk => ?_) (fun p G2 H2 hp u2 p2 r => ?_)
  · obtain ⟨e1, e2⟩ := y
    subst e1 e2
    have hi := (List.getElem?_eq_some_iff.mp ha).1
    rw [List.length_range] at hi
    have hai : a = i := by
      rw [List.getElem?_range hi] at ha
      exact (Option.some.inj ha).symm
    subst hai
    dsimp only
    rw [Int.zero_add]
    exact g_yesC (gt := gt) (te := te) (vs := vs) (τ := wipe σ vs) (Cv := Cv) (Cn := Cn) (hs a G2 H3 Cv hi u2 fun G4 H4 u4 => kk.y rfl _ _ _ u4 trivial rfl)
  · rw [List.filter_eq_self.mpr (fun _ _ => rfl)] at r
    exact k _ G2 H2 u2 r
theorem law_pure (R : KR K c) (g : Same G H) (hs : SqL K G sa (L.map V.int)) (hL : L.length ≤ 63) (k : ∀ H', Q (.bl true) H') : W_law K c [.ref sa] H Q E := by
  refine ⟨rfl, ?_⟩
  show t_law K c _ [some (.ref sa), none, none, none, none, none, none, none, none, none, none, none, none, none, none, none, none, none, none] H
  unfold t_law
  walk_at "m_go"
  refine ⟨sz (by simp), fun pw hpw => ?_⟩
  have u0 := Us.new (S := No) g (.lst (wrds.map V.str)) hpw
  have w0 : Ls qS (upd G pw (.lst (wrds.map V.str))) (.ref pw) wrds := strs_ls upd_same
  have ew : ([V.str "add", .str "most", .str "least", .str "first", .str "newest"] : List V) = wrds.map V.str := rfl
  rw [ew]
  generalize upd H pw (.lst (wrds.map V.str)) = H0 at u0
  generalize upd G pw (.lst (wrds.map V.str)) = G0 at u0 w0
  walk_at "m_go"
  refine new_rule u0.gh 0 fun a0 d0 G1 H1 u1 f0 => ?_
  walk_at "m_go"
  refine new_rule u1.gh 1 fun a1 d1 G2 H2 u2 f1 => ?_
  walk_at "m_go"
  refine new_rule u2.gh 2 fun a2 d2 G3 H3 u3 f2 => ?_
  walk_at "m_go"
  refine new_rule u3.gh 3 fun a3 d3 G4 H4 u4 f3 => ?_
  walk_at "m_go"
  refine new_rule u4.gh 4 fun a4 d4 G5 H5 u5 f4 => ?_
  walk_at "m_go"
  refine ⟨sz (by simp), fun pr hpr => ?_⟩
  have u6 := Us.new (S := No) u5.gh (.lst [V.ref a0, .ref a1, .ref a2, .ref a3, .ref a4]) hpr
  have hR : Ls (qRu c) (upd G5 pr (.lst [V.ref a0, .ref a1, .ref a2, .ref a3, .ref a4])) (.ref pr) five := by
    refine ⟨pr, _, rfl, upd_same, ?_⟩
    have e5 := u6.gg
    exact .cons ⟨a0, d0, rfl, by decide, e5 _ _ (u5.gg _ _ (u4.gg _ _ (u3.gg _ _ (u2.gg _ _ f0))))⟩ (.cons ⟨a1, d1, rfl, by decide, e5 _ _ (u5.gg _ _ (u4.gg _ _ (u3.gg _ _ f1)))⟩ (.cons ⟨a2, d2, rfl, by decide, e5 _ _ (u5.gg _ _ (u4.gg _ _ f2))⟩
      (.cons ⟨a3, d3, rfl, by decide, e5 _ _ (u5.gg _ _ f3)⟩ (.cons ⟨a4, d4, rfl, by decide, e5 _ _ f4⟩ .nil))))
  have w6 := mo (u1.gg.trans (u2.gg.trans (u3.gg.trans (u4.gg.trans (u5.gg.trans u6.gg))))) w0
  have g6 : Same G (upd G5 pr (.lst [V.ref a0, .ref a1, .ref a2, .ref a3, .ref a4])) := u0.gg.trans (u1.gg.trans (u2.gg.trans (u3.gg.trans (u4.gg.trans (u5.gg.trans u6.gg)))))
  generalize upd H5 pr (.lst [V.ref a0, .ref a1, .ref a2, .ref a3, .ref a4]) = H6 at u6
  generalize upd G5 pr (.lst [V.ref a0, .ref a1, .ref a2, .ref a3, .ref a4]) = G6 at u6 hR w6 g6
  have h6 := u6.gh
  clear u0 u1 u2 u3 u4 u5 u6 f0 f1 f2 f3 f4 w0
  -- the words
  walk_at "m_go"
  refine lc_list (R := qRu c) (R2 := qS) (L := five) (fun _ => true) wrd h6 (by decide) (fun QV kk => ?_) (fun j i x G4 H4 Cv Cn ha u hx kk => ?_) (fun nv G7 H7 u7 hnv => ?_)
  · walk_at "m_go"
    exact kk _ _ (Us.refl h6) _ hR
  · obtain ⟨a, dx, rfl, hi, hf⟩ := hx
    walk_at "m_go"
    refine ⟨rfl, ?_⟩
    walk_at "m_go"
    obtain ⟨v1, k1⟩ := R.con i hi
    refine g_con ?_
    walk_at "m_go"
    refine ⟨a, _, dx, [], _, _, rfl, u.gh _ _ hf, (R.tin i hi).cl, k1, rfl, ?_⟩
    exact kk.y rfl _ _ _ (Us.refl u.gh) trivial rfl
  rw [List.filter_eq_self.mpr (fun _ _ => rfl)] at hnv
  walk_at "m_go"
  refine ne_ls hnv (mo u7.gg w6) u7.gh wrds_fit ?_
  walk_at "m_go"
  refine (mo u7.gg hR).ix u7.gh (atI_nat (five_at (i := 4) (by decide))) fun v4 hv4 => ?_
  obtain ⟨r4, x4, rfl, _, f4⟩ := hv4
  walk_at "m_go"
  refine isi_t (.own c.First) ((R.tin 4 (by decide)).ty (u7.gh _ _ f4)) (R.kf 4 (by decide)) ?_
  rw [decide_eq_true (show 3 ≤ 4 by decide)]
  walk_at "m_go"
  -- no others are Firsts
  refine g_lc (g_rng1 ?_)
  walk_at "m_go"
  refine g_iInt (by decide) (by decide) ?_
  refine bool_lc (n := 3) u7.gh (by decide) (fun _ => false) (fun i G1 H0 Cv hi u kk => ?_) (fun v8 G8 H8 u8 w8 => ?_)
  · walk_at "m_go"
    refine ⟨rfl, ?_⟩
    walk_at "m_go"
    refine (mo (u7.gg.trans u.gg) hR).ix u.gh (atI_nat (five_at (i := i) (by omega))) fun v4 hv4 => ?_
    obtain ⟨r5, x5, rfl, hi5, f5⟩ := hv4
    walk_at "m_go"
    refine isi_t (.own c.First) ((R.tin i hi5).ty (u.gh _ _ f5)) (R.kf i hi5) ?_
    rw [decide_eq_false (show ¬ 3 ≤ i by omega)]
    exact kk _ _ (Us.refl u.gh)
  walk_at "m_go"
  refine ⟨sz (by simp), fun pb hpb => ?_⟩
  have u9 := Us.new (S := No) u8.gh (.lst [V.bl false, .bl false, .bl false]) hpb
  refine ne_bls (mo u9.gg w8) ⟨pb, _, rfl, upd_same, .cons rfl (.cons rfl (.cons rfl .nil))⟩ u9.gh ?_
  have h9 : Same G6 (upd H8 pb (.lst [V.bl false, .bl false, .bl false])) := h6.trans (u7.sm.trans (u8.sm.trans u9.sm))
  generalize upd H8 pb (.lst [V.bl false, .bl false, .bl false]) = H9 at h9
  clear u7 u8 u9 w8 hnv
  walk_at "m_go"
  refine g_for (g_rng1 ?_)
  walk_at "m_go"
  refine g_len (.inl ((g6.trans h9).seq hs)) ?_
  rw [List.length_map]
  walk_at "m_go"
  generalize hj : (if (if ((L.length : Nat) : Int) < 5 then ((L.length : Nat) : Int) else 5) > 1 then (if ((L.length : Nat) : Int) < 5 then ((L.length : Nat) : Int) else 5) else 1) = jj
  have hj5 : 1 ≤ jj ∧ jj ≤ 5 := by rw [← hj]; split <;> split at * <;> omega
  refine g_iInt (by omega) (by omega) ?_
  refine fo_rng (n := jj.toNat) (fun m σ H' => ∃ s3 s4 s5 s6 s7 s8 s9 s10 s11 s12 s13 s14 s15 s16 s17 s18 : Option V, σ = [some (.ref sa), some (.ref pw), some (.ref pr), s3, s4, s5, s6, s7, s8, s9, s10, s11, s12, s13, s14, s15, s16, s17, s18] ∧ Same G6 H') ⟨_, _, _, _, _, _, _, _, _, _, _, _, _, _, _, _, rfl, h9⟩ (fun m σ H0 hm q => ?_) (fun σ H' q => ?_)
  · obtain ⟨s3, s4, s5, s6, s7, s8, s9, s10, s11, s12, s13, s14, s15, s16, s17, s18, rfl, g0⟩ := q
    walk_at "m_go"
    refine bag_g (E := E0) g0 (g6.seq hs) (by omega) fun b H1 u1 B1 => ?_
    walk_at "m_go"
    refine take_g (E := E0) u1.gh B1 (by decide) (by decide) (by decide) fun r H2 r0 r1 u2 B2 => ?_
    walk_at "m_go"
    obtain ⟨n, hn⟩ : ∃ n : Nat, 1 + r = (n : Nat) := ⟨(1 + r).toNat, by omega⟩
    rw [hn]
    refine g_lc (g_rng1 ?_)
    walk_at "m_go"
    refine g_iInt (by omega) (by omega) ?_
    refine draw_lc (n := n) (s := 5) u2.gh B2 (by omega) (fun i => i.natAbs ≤ 2 ^ 125) (fun i G1 H0 zz Cv hi u B hzz kk => ?_) (fun v3 G3 H3 C u3 B3 hC lC bC => ?_)
    · walk_at "m_go"
      refine ⟨rfl, ?_⟩
      walk_at "m_go"
      refine number_g (E := E0) u.gh B (Nat.lt_of_le_of_lt (show zz + 10 ≤ 100 by omega) (by decide)) fun w H4 hw u4 B4 => ?_
      exact kk w _ _ u4 B4 (by omega)
    walk_at "m_go"
    refine numbers_g (E := E0) (n := 3) u3.gh B3 (Nat.lt_of_le_of_lt (show 0 + 1 + 5 * n + 200 ≤ 300 by omega) (by decide)) (by decide) fun v4 G4 H4 S u4 B4 hS lS bS => ?_
    walk_at "m_go"
    refine ⟨sz (by simp), fun T hT => ?_⟩
    have u5 := Us.new (S := No) u4.gh (.tup [v3, v4]) hT
    refine g_gTup upd_same rfl ?_
    have B5 := B4.up u5
    have hC5 := mo (u4.gg.trans u5.gg) hC
    have hS5 := mo u5.gg hS
    have e65 := u3.gg.trans (u4.gg.trans u5.gg)
    generalize upd H4 T (.tup [v3, v4]) = H5 at u5 B5
    generalize upd G4 T (.tup [v3, v4]) = G5 at u5 B5 hC5 hS5 e65
    walk_at "m_go"
    refine g_lc (g_rng1 ?_)
    walk_at "m_go"
    refine g_iInt (by omega) (by omega) ?_
    obtain ⟨pS, rfl, hpS⟩ := ls_map hS5
    refine draw_lc (n := n) (s := 1) u5.gh B5 (by omega) (fun _ => True) (fun i G1 H0 zz Cv hi u B hzz kk => ?_) (fun v6 G6' H6' T u6 B6 hT6 lT _ => ?_)
    · walk_at "m_go"
      refine ⟨rfl, ?_⟩
      walk_at "m_go"
      have hp1 := u.gg _ _ hpS
      refine of_g (E := E0) u.gh B (u.gh _ _ hp1) (B.neG hp1) (by rw [List.length_map]; omega) (by rw [List.length_map]; omega) (Nat.lt_of_le_of_lt (show zz ≤ 1000 by omega) (by decide)) fun i0 v H7 hv u7 B7 => ?_
      obtain ⟨w, _, rfl⟩ := map_at hv
      exact kk w _ _ u7 B7 trivial
    have hC6 := mo u6.gg hC5
    walk_at "m_go"
    refine hC6.copyI u6.gh fun v7 G7 H7 u7 hK7 => ?_
    walk_at "m_go"
    refine (mo u7.gg hT6).copyI u7.gh fun v8 G8 H8 u8 hK8 => ?_
    walk_at "m_go"
    refine g_par2 ?_
    have e6 : Same G6 G8 := e65.trans (u6.gg.trans (u7.gg.trans u8.gg))
    have hC8 := mo (u7.gg.trans u8.gg) hC6
    have hT8 := mo (u7.gg.trans u8.gg) hT6
    have hK7 := mo u8.gg hK7
    have hR8 := mo e6 hR
    have hw8 := mo e6 w6
    have g8 := u8.gh
    have lCT : C.length = T.length := by omega
    have lC0 : 0 < C.length := by omega
    have lC6 : C.length ≤ 10 := by omega
    obtain ⟨c0, hc0⟩ : ∃ c0, C[0]? = some c0 := ⟨_, List.getElem?_eq_getElem lC0⟩
    obtain ⟨t0, ht0⟩ : ∃ t0, T[0]? = some t0 := ⟨_, List.getElem?_eq_getElem (by omega)⟩
    have eC1 : C.take 1 = [c0] := by
      cases C with
      | nil => simp at lC0
      | cons x r => simp at hc0; simp [hc0]
    have eT1 : T.take 1 = [t0] := by
      cases T with
      | nil => simp at ht0
      | cons x r => simp at ht0; simp [ht0]
    have bd : ∀ {i : Nat} {v : Int}, Due i C T v → v.natAbs < 2 ^ 130 := fun h => due_bound h bC (by omega)
    clear u1 u2 u3 u4 u5 u6 u7 u8 B1 B2 B3 B4 B5 B6 hC hS hS5 hC5 hC6 hT6 e65
    dsimp only [List.set]
    obtain ⟨pw', e1, hpw8⟩ := hw8.strs
    cases e1
    refine g_for ?_
    show tCons _ _ _ _ _
    walk_at "m_go"
    refine ⟨pw, wrds.map V.str, rfl, SqL.of (g8 _ _ hpw8), ?_⟩
    refine for_it (walk_enum (K := K) (a := pw) (xs := wrds.map V.str)) (fun m' σ H' => ∃ s3 s4 s14 s15 s16 s17 s18 : Option V, σ = [some (.ref sa), some (.ref pw), some (.ref pr), s3, s4, some (.int (m : Nat)), some (.ref b), some (.int (n : Nat)), s8, some v3, some (.ref pS), some v6, some v7, some v8, s14, s15, s16, s17, s18] ∧ Same G8 H')
      ⟨_, _, _, _, _, _, _, rfl, g8⟩ (fun i σ H' _ q => ?_) (fun i x σ H3 H4 hi q y => ?_) (fun σ H' q => ?_)
    · obtain ⟨_, _, _, _, _, _, _, _, e⟩ := q
      exact SqL.of (e _ _ hpw8)
    · obtain ⟨s3, s4, s14, s15, s16, s17, s18, rfl, gi⟩ := q
      obtain ⟨T', y1, y2, rfl, hT', rfl, e1, e2⟩ := y
      have hi5 : i < 5 := hi
      cases e1
      have ewd : y2 = .str (wrd i) := by
        have e2 : (wrds.map V.str)[i]? = some y2 := e2
        rw [List.getElem?_map, show wrds[i]? = some (wrd i) from by unfold wrds; rw [List.getElem?_map, five_at hi5]; rfl] at e2
        exact (Option.some.inj e2).symm
      subst ewd
      have gn := gi.trans (Same.new (o := .tup [.int (i : Nat), .str (wrd i)]) hT')
      refine g_gTup upd_same rfl ?_
      generalize upd H3 T' (.tup [.int (i : Nat), .str (wrd i)]) = H5 at gn
      walk_at "m_go"
      refine rule_named_g (E := E0) hi5 fun x dx hx hd ne => ?_
      have ux := Us.new2 (S := No) (o := .own x) (o' := .ins (rcl c i) dx []) gn hx hd ne
      have fx : (upd (upd G8 dx (.own x)) x (.ins (rcl c i) dx [])) x = some (.ins (rcl c i) dx []) := upd_same
      generalize upd (upd H5 dx (.own x)) x (.ins (rcl c i) dx []) = H6 at ux
      generalize upd (upd G8 dx (.own x)) x (.ins (rcl c i) dx []) = G9 at ux fx
      have hC9 := mo ux.gg hC8
      have hT9 := mo ux.gg hT8
      walk_at "m_go"
      refine g_callD ?_
      walk_at "m_go"
      refine ⟨x, rfl, ?_⟩
      walk_at "m_go"
      refine ⟨rcl c i, dx, [], ux.gh _ _ fx, rcl_R hi5, ?_⟩
      refine call_g (E := E0) ux.gh hi5 (ux.gh _ _ fx) hC9 hT9 lCT lC0 lC6 fun told H7 e7 hd7 => ?_
      have g7 := ux.gh.trans e7
      walk_at "m_go"
      refine g_callD ?_
      walk_at "m_go"
      refine (mo ux.gg hR8).ix g7 (atI_nat (five_at hi5)) fun vr hvr => ?_
      obtain ⟨ar, dr, rfl, _, fr⟩ := hvr
      refine ⟨ar, rfl, ?_⟩
      walk_at "m_go"
      refine hC9.copyI g7 fun v10 G10 H10 u10 hC10 => ?_
      walk_at "m_go"
      refine (mo u10.gg hT9).copyI u10.gh fun v11 G11 H11 u11 hT11 => ?_
      walk_at "m_go"
      have fr11 := u11.gh _ _ (u11.gg _ _ (u10.gg _ _ fr))
      refine ⟨rcl c i, dr, [], fr11, rcl_R hi5, ?_⟩
      refine call_g (E := E0) u11.gh hi5 fr11 (mo u11.gg hC10) hT11 lCT lC0 lC6 fun again H12 e12 hd12 => ?_
      have g12 : Same G9 H12 := (u10.gg.trans u11.gg).trans (u11.gh.trans e12)
      have eq1 := due_uniq hd12 hd7
      subst eq1
      walk_at "m_go"
      refine g_par2 ?_
      walk_at "m_go"
      refine ne_ints hC9 (mo ux.gg hK7) g12 ?_
      walk_at "m_go"
      refine ne_ints hT9 (mo ux.gg hK8) g12 ?_
      walk_at "m_go"
      refine rep_i (bd hd12) ?_
      walk_at "m_go"
      refine due_g (E := E0) g12 hi5 hC9 hT9 lCT lC0 lC6 fun due H13 e13 hd13 => ?_
      have g13 := g12.trans e13
      walk_at "m_go"
      refine rep_i (bd hd13) ?_
      refine ne_rep (due_uniq hd12 hd13) ?_
      walk_at "m_go"
      refine rep_i (bd hd12) ?_
      walk_at "m_go"
      refine rep_i (bd hd12) ?_
      refine ne_rep rfl ?_
      walk_at "m_go"
      refine isi_t (.own c.Rule) ((R.tin i hi5).ty (g13 _ _ fx)) (R.kr i hi5) ?_
      walk_at "m_go"
      refine lc_list (R := qRu c) (R2 := qB) (L := five) (fun _ => true) (fun j => decide (i = j)) g13 (by decide) (fun QV kk => ?_) (fun j' j x' G4 H4 Cv Cn ha u hx' kk => ?_) (fun nv G14 H14 u14 hnv => ?_)
      · walk_at "m_go"
        exact kk _ _ (Us.refl g13) _ (mo ux.gg hR8)
      · obtain ⟨a, dx', rfl, hj, hf⟩ := hx'
        walk_at "m_go"
        refine ⟨rfl, ?_⟩
        walk_at "m_go"
        refine eq_g R hi5 hj (u.gh _ _ (u.gg _ _ fx)) (u.gh _ _ hf) ?_
        exact kk.y rfl _ _ _ (Us.refl u.gh) trivial rfl
      rw [List.filter_eq_self.mpr (fun _ _ => rfl)] at hnv
      walk_at "m_go"
      refine g_lc (g_rng1 ?_)
      walk_at "m_go"
      refine g_iInt (by decide) (by decide) ?_
      refine bool_lc (n := 5) u14.gh (by decide) (fun j => decide (i = j)) (fun j G1 H0 Cv hj u kk => ?_) (fun v15 G15 H15 u15 w15 => ?_)
      · walk_at "m_go"
        refine ⟨rfl, ?_⟩
        walk_at "m_go"
        rw [show decide (((i : Nat) : Int) = ((j : Nat) : Int)) = decide (i = j) by by_cases e : i = j <;> simp [e]; omega]
        exact kk _ _ (Us.refl u.gh)
      walk_at "m_go"
      refine ne_bls (mo u15.gg hnv) w15 u15.gh ?_
      have g15 : Same G9 H15 := (u14.gg.trans u15.gg).trans u15.gh
      walk_at "m_go"
      refine g_callD ?_
      walk_at "m_go"
      refine ⟨x, rfl, ?_⟩
      walk_at "m_go"
      refine hC9.take1I g15 fun v16 G16 H16 u16 hC16 => ?_
      walk_at "m_go"
      refine (mo u16.gg hT9).take1I u16.gh fun v17 G17 H17 u17 hT17 => ?_
      walk_at "m_go"
      have f17 := u17.gh _ _ (u17.gg _ _ (u16.gg _ _ fx))
      refine ⟨rcl c i, dx, [], f17, rcl_R hi5, ?_⟩
      rw [eC1] at hC16
      rw [eT1] at hT17
      refine call_g (E := E0) u17.gh hi5 f17 (mo u17.gg hC16) hT17 rfl (show 0 < 1 by decide) (show 1 ≤ 10 by decide) fun one H18 e18 hd18 => ?_
      have eo := due_one hd18
      subst eo
      have g18 : Same G9 H18 := (u16.gg.trans u17.gg).trans (u17.gh.trans e18)
      have b0 := bC one (List.mem_of_getElem? hc0)
      walk_at "m_go"
      refine rep_i (by omega) ?_
      walk_at "m_go"
      refine ls_ixI (n := 0) hC9 g18 hc0 ?_
      walk_at "m_go"
      refine rep_i (i := one) (by omega) ?_
      refine ne_rep rfl ?_
      walk_at "m_go"
      refine eqs_g R hi5 (g18 _ _ fx) ?_
      walk_at "m_go"
      exact ⟨_, _, _, _, _, _, _, rfl, ux.gg.trans g18⟩
    · obtain ⟨s3, s4, s14, s15, s16, s17, s18, rfl, gi⟩ := q
      exact ⟨_, _, _, _, _, _, _, _, _, _, _, _, _, _, _, _, rfl, e6.trans gi⟩
  · walk_at "m_go"
    exact k H'
end
end M

namespace M
open PySem PySem.Spec PyProof.Rows L2
def top (i : Nat) : Stmt := PySem.Challenge.pw_intoone_k01_rules_join.main.body.getD i (.Pass ⟨0, 0, 0, 0⟩)
structure Tx (w : World) (K : PySem.W.Frag) (mg : Str → Option Value) (c : Cs) : Prop where
  n_abs : mg "abs" = none
  n_enumerate : mg "enumerate" = none
  n_int : mg "int" = none
  n_isinstance : mg "isinstance" = none
  n_len : mg "len" = none
  n_list : mg "list" = none
  n_max : mg "max" = none
  n_min : mg "min" = none
  n_range : mg "range" = none
  n_repr : mg "repr" = none
  n_sum : mg "sum" = none
  n_super : mg "super" = none
  n_zip : mg "zip" = none
  m_Add : mg "Add" = some (.ref c.Add)
  m_First : mg "First" = some (.ref c.First)
  m_Least : mg "Least" = some (.ref c.Least)
  m_Most : mg "Most" = some (.ref c.Most)
  m_Newest : mg "Newest" = some (.ref c.Newest)
  m_Rule : mg "Rule" = some (.ref c.Rule)
section
variable {P : Program} {w : World} {K : PySem.W.Frag} {mg : Str → Option Value} {base : Heap} {c : Cs} {f : Addr} {fd : FuncData}
abbrev s_rule_named : Stmt := top 7
theorem sc_rule_named : FnScope N_rule_named ["word"] (defScope s_rule_named) := ⟨rfl, rfl, rfl, by decide +kernel, rfl, by decide +kernel, by decide +kernel⟩
theorem ok_rule_named (F : FunD K "rule_named" "rule_named" (defArgs s_rule_named) (defBody s_rule_named) (defScope s_rule_named) [] [] f fd) (T : Tx w K mg c) (N_Add : NewF K c.Add) (N_Most : NewF K c.Most) (N_Least : NewF K c.Least) (N_First : NewF K c.First) (N_Newest : NewF K c.Newest) : FnOk P w K mg base CX0 1 f fd ["word"] (W_rule_named K c) := by
  refine F.ok sc_rule_named (fun vs H Q E h => h.1) (fun cdv A outer s H vs Q E hr h => ⟨t_rule_named K c, PSs.nox ?_, h.2⟩)
  exact (pss_cons (ps_if (pt_cmpR oEq (pv 0) pe_str (by rfl))
    (pss_one (ps_ret (pe_new0 N_Add rfl T.m_Add))) pss_nil)
  (pss_cons (ps_if (pt_cmpR oEq (pv 0) pe_str (by rfl))
    (pss_one (ps_ret (pe_new0 N_Most rfl T.m_Most))) pss_nil)
  (pss_cons (ps_if (pt_cmpR oEq (pv 0) pe_str (by rfl))
    (pss_one (ps_ret (pe_new0 N_Least rfl T.m_Least))) pss_nil)
  (pss_cons (ps_if (pt_cmpR oEq (pv 0) pe_str (by rfl))
    (pss_one (ps_ret (pe_new0 N_First rfl T.m_First))) pss_nil)
  (pss_one (ps_ret (pe_new0 N_Newest rfl T.m_Newest)))))))
abbrev s_Add_pick : Stmt := inClass (top 2) 1
theorem sc_Add_pick : FnScope N_Add_pick ["self", "cells", "times"] (defScope s_Add_pick) := ⟨rfl, rfl, rfl, by decide +kernel, rfl, by decide +kernel, by decide +kernel⟩
theorem ok_Add_pick (F : FunD K "pick" "Add.pick" (defArgs s_Add_pick) (defBody s_Add_pick) (defScope s_Add_pick) [] [] f fd) (T : Tx w K mg c) : FnOk P w K mg base CX0 1 f fd ["self", "cells", "times"] (W_Add_pick K c) := by
  refine F.ok sc_Add_pick (fun vs H Q E h => h.1) (fun cdv A outer s H vs Q E hr h => ⟨t_Add_pick K c, PSs.nox ?_, h.2⟩)
  exact (pss_one (ps_ret (pe_callB (cr_sum rfl) (by rfl) T.n_sum (by decide +kernel) (pa_cons (pv 1) pa_nil))))
abbrev s_Most_pick : Stmt := inClass (top 3) 1
theorem sc_Most_pick : FnScope N_Most_pick ["self", "cells", "times"] (defScope s_Most_pick) := ⟨rfl, rfl, rfl, by decide +kernel, rfl, by decide +kernel, by decide +kernel⟩
theorem ok_Most_pick (F : FunD K "pick" "Most.pick" (defArgs s_Most_pick) (defBody s_Most_pick) (defScope s_Most_pick) [] [] f fd) (T : Tx w K mg c) : FnOk P w K mg base CX0 1 f fd ["self", "cells", "times"] (W_Most_pick K c) := by
  refine F.ok sc_Most_pick (fun vs H Q E h => h.1) (fun cdv A outer s H vs Q E hr h => ⟨t_Most_pick K c, PSs.nox ?_, h.2⟩)
  exact (pss_one (ps_ret (pe_callB (cr_max rfl) (by rfl) T.n_max (by decide +kernel) (pa_cons (pv 1) pa_nil))))
abbrev s_Least_pick : Stmt := inClass (top 4) 1
theorem sc_Least_pick : FnScope N_Least_pick ["self", "cells", "times"] (defScope s_Least_pick) := ⟨rfl, rfl, rfl, by decide +kernel, rfl, by decide +kernel, by decide +kernel⟩
theorem ok_Least_pick (F : FunD K "pick" "Least.pick" (defArgs s_Least_pick) (defBody s_Least_pick) (defScope s_Least_pick) [] [] f fd) (T : Tx w K mg c) : FnOk P w K mg base CX0 1 f fd ["self", "cells", "times"] (W_Least_pick K c) := by
  refine F.ok sc_Least_pick (fun vs H Q E h => h.1) (fun cdv A outer s H vs Q E hr h => ⟨t_Least_pick K c, PSs.nox ?_, h.2⟩)
  exact (pss_one (ps_ret (pe_callB (cr_min rfl) (by rfl) T.n_min (by decide +kernel) (pa_cons (pv 1) pa_nil))))
abbrev s_First_pick : Stmt := inClass (top 5) 1
theorem sc_First_pick : FnScope N_First_pick ["self", "cells", "times"] (defScope s_First_pick) := ⟨rfl, rfl, rfl, by decide +kernel, rfl, by decide +kernel, by decide +kernel⟩
theorem ok_First_pick (F : FunD K "pick" "First.pick" (defArgs s_First_pick) (defBody s_First_pick) (defScope s_First_pick) [] [] f fd) (T : Tx w K mg c) : FnOk P w K mg base CX0 1 f fd ["self", "cells", "times"] (W_First_pick K c) := by
  refine F.ok sc_First_pick (fun vs H Q E h => h.1) (fun cdv A outer s H vs Q E hr h => ⟨t_First_pick K c, PSs.nox ?_, h.2⟩)
  exact (pss_one (ps_ret (pe_ix ix_list (pv 1) pe_int (fun _ _ => rfl))))
abbrev s_Newest_pick : Stmt := inClass (top 6) 1
theorem sc_Newest_pick : SScope N_Newest_pick ["self", "cells", "times"] (defScope s_Newest_pick) := sscope_by (by decide +kernel)
theorem ok_Newest_pick {cc cda : Addr} (F : FunS P K "pick" "Newest.pick" (defArgs s_Newest_pick) (defBody s_Newest_pick) (defScope s_Newest_pick) [] [] c.Newest cc cda f fd) (T : Tx w K mg c) (U_pick : SupCal P w K mg base c.Newest (· = c.Newest) "pick" 1 (W_First_pick K c)) : FnOk P w K mg base CX0 2 f fd ["self", "cells", "times"] (W_Newest_pick K c) := by
  refine F.ok sc_Newest_pick (fun vs H Q E h => h.1) (fun A outer s H vs Q E hr h => ⟨t_Newest_pick K c, ?_, h.2⟩)
  exact (psA_cons (ps_set (i := 3) sc_Newest_pick.nd rfl (Or.inr rfl) (pe_callB (cr_max rfl) (by rfl) T.n_max (by decide +kernel) (pa_cons (pv 2) pa_nil)))
  (psA_cons (ps_setLc (i := 6) (own := [("cell", 4), ("time", 5)]) rfl sc_Newest_pick.nd rfl rfl (sw_true rfl rfl rfl (by decide +kernel)) (pi_zip rfl T.n_zip (pa_cons (pv 1) (pa_cons (pv 2) pa_nil))) (blkOk_by (own := [("cell", 4), ("time", 5)]) (N := N_Newest_pick) (sc := defScope s_Newest_pick) (by decide +kernel)) (fun _ _ _ _ _ => (pg_tup rfl (pgs_cons (pg_name (i := 4) sc_Newest_pick.nd rfl (by first | exact Or.inl rfl | exact Or.inr rfl)) (pgs_cons (pg_name (i := 5) sc_Newest_pick.nd rfl (by first | exact Or.inl rfl | exact Or.inr rfl)) pgs_nil)))) (fun _ _ _ _ _ => (pts_one (pt_cmpR oEq (pv 5) (pv 3) (by rfl)))) (fun _ _ _ _ _ => (pv 4)))
  (psA_ret (pea_super F U_pick (hr.mono (by decide)) T.n_super (pa_cons (pv 6) (pa_cons (pv 2) pa_nil))))))
abbrev s_Rule_call : Stmt := inClass (top 1) 2
theorem sc_Rule_call : FnScope N_Rule_call ["self", "cells", "times"] (defScope s_Rule_call) := ⟨rfl, rfl, rfl, by decide +kernel, rfl, by decide +kernel, by decide +kernel⟩
theorem ok_Rule_call (F : FunD K "__call__" "Rule.__call__" (defArgs s_Rule_call) (defBody s_Rule_call) (defScope s_Rule_call) [] [] f fd) (T : Tx w K mg c) (D_pick : MCalD P w K mg base (pickR K c) "pick" 2) : FnOk P w K mg base CX0 3 f fd ["self", "cells", "times"] (W_Rule_call K c) := by
  refine F.ok sc_Rule_call (fun vs H Q E h => h.1) (fun cdv A outer s H vs Q E hr h => ⟨t_Rule_call K c, PSs.nox ?_, h.2⟩)
  exact (pss_one (ps_ret (pe_mcD D_pick (hr.mono (by decide)) (pv 0) (pa_cons (pv 1) (pa_cons (pv 2) pa_nil)))))
abbrev s_Rule_eq : Stmt := inClass (top 1) 3
theorem sc_Rule_eq : FnScope N_Rule_eq ["self", "other"] (defScope s_Rule_eq) := ⟨rfl, rfl, rfl, by decide +kernel, rfl, by decide +kernel, by decide +kernel⟩
theorem ok_Rule_eq (F : FunD K "__eq__" "Rule.__eq__" (defArgs s_Rule_eq) (defBody s_Rule_eq) (defScope s_Rule_eq) [] [] f fd) (T : Tx w K mg c) : FnOk P w K mg base CX0 1 f fd ["self", "other"] (W_Rule_eq K c) := by
  refine F.ok sc_Rule_eq (fun vs H Q E h => h.1) (fun cdv A outer s H vs Q E hr h => ⟨t_Rule_eq K c, PSs.nox ?_, h.2⟩)
  exact (pss_one (ps_ret (pe_and (pe_callB call_isi (by rfl) T.n_isinstance (by decide +kernel) (pa_cons (pv 1) (pa_cons (pe_gl rfl (glc T.m_Rule)) pa_nil))) (pe_one (pe_cmpR oEq (pe_con (pv 0) rfl) (pe_con (pv 1) rfl) (by rfl))))))
abbrev s_bag : Stmt := top 9
theorem sc_bag : FnScope N_bag ["_law_script", "_law_at"] (defScope s_bag) := ⟨rfl, rfl, rfl, by decide +kernel, rfl, by decide +kernel, by decide +kernel⟩
theorem ok_bag (F : FunD K "_law_bag" "_law_bag" (defArgs s_bag) (defBody s_bag) (defScope s_bag) [] [] f fd) (T : Tx w K mg c) : FnOk P w K mg base CX0 1 f fd ["_law_script", "_law_at"] (W_bag K c) := by
  refine F.ok sc_bag (fun vs H Q E h => h.1) (fun cdv A outer s H vs Q E hr h => ⟨t_bag K c, PSs.nox ?_, h.2⟩)
  exact (pss_cons (ps_set (i := 2) sc_bag.nd rfl (Or.inl rfl) (pe_ifExp (pt_cmpR oLt (pv 1) (pe_callB oLen (by rfl) T.n_len (by decide +kernel) (pa_cons (pv 0) pa_nil)) (by rfl)) (pe_ix ix_list (pv 0) (pv 1) (fun _ _ => rfl)) pe_int))
  (pss_one (ps_ret (pe_lst (pa_cons (pe_ifExp (pt_cmpR oGe (pe_callB oAbs (by rfl) T.n_abs (by decide +kernel) (pa_cons (pv 2) pa_nil)) (pe_op oPow pe_int pe_int) (by rfl)) (pe_callB oAbs (by rfl) T.n_abs (by decide +kernel) (pa_cons (pv 2) pa_nil)) pe_int) (pa_cons (pe_op oAdd (pe_op oAdd (pe_op oMod (pe_callTy oInt (by rfl) T.n_int (by decide +kernel) (pa_cons (pv 2) pa_nil)) pe_int) (pe_op oMul pe_int (pv 1))) pe_int) (pa_cons pe_int pa_nil)))))))
abbrev s_take : Stmt := top 10
theorem sc_take : FnScope N_take ["_law_bag_here", "_law_many"] (defScope s_take) := ⟨rfl, rfl, rfl, by decide +kernel, rfl, by decide +kernel, by decide +kernel⟩
theorem ok_take (F : FunD K "_law_take" "_law_take" (defArgs s_take) (defBody s_take) (defScope s_take) [] [] f fd) (T : Tx w K mg c) : FnOk P w K mg base CX0 1 f fd ["_law_bag_here", "_law_many"] (W_take K c) := by
  refine F.ok sc_take (fun vs H Q E h => h.1) (fun cdv A outer s H vs Q E hr h => ⟨t_take K c, PSs.nox ?_, h.2⟩)
  exact (pss_cons (ps_if (pt_cmpR oGt (pe_ix ix_list (pv 0) pe_int (fun _ _ => rfl)) pe_int (by rfl))
    (pss_cons (ps_set (i := 2) sc_take.nd rfl (Or.inl rfl) (pe_op oMod (pe_callTy oInt (by rfl) T.n_int (by decide +kernel) (pa_cons (pe_ix ix_list (pv 0) pe_int (fun _ _ => rfl)) pa_nil)) (pv 1)))
  (pss_cons (ps_asg (pe_op oDiv (pe_ix ix_list (pv 0) pe_int (fun _ _ => rfl)) (pv 1)) (pg_sub (pv 0) pe_int set_list))
  (pss_one (ps_ret (pv 2))))) pss_nil)
  (pss_cons (ps_asg (pe_op oAdd (pe_ix ix_list (pv 0) pe_int (fun _ _ => rfl)) pe_int) (pg_sub (pv 0) pe_int set_list))
  (pss_cons (ps_set (i := 3) sc_take.nd rfl (Or.inl rfl) (pe_op oMod (pe_callTy oInt (by rfl) T.n_int (by decide +kernel) (pa_cons (pe_op oAdd (pe_op oPow (pe_op oAdd (pe_ix ix_list (pv 0) pe_int (fun _ _ => rfl)) (pe_op oMul pe_int (pe_ix ix_list (pv 0) pe_int (fun _ _ => rfl)))) pe_int) (pe_ix ix_list (pv 0) pe_int (fun _ _ => rfl))) pa_nil)) pe_int))
  (pss_cons (ps_set (i := 3) sc_take.nd rfl (Or.inl rfl) (pe_op oMod (pe_callTy oInt (by rfl) T.n_int (by decide +kernel) (pa_cons (pe_op oAdd (pe_op oPow (pv 3) pe_int) (pe_op oMul pe_int (pe_ix ix_list (pv 0) pe_int (fun _ _ => rfl)))) pa_nil)) pe_int))
  (pss_one (ps_ret (pe_op oMod (pe_callTy oInt (by rfl) T.n_int (by decide +kernel) (pa_cons (pe_op oDiv (pv 3) pe_int) pa_nil)) (pv 1))))))))
abbrev s_of : Stmt := top 11
theorem sc_of : FnScope N_of ["_law_bag_here", "_law_some"] (defScope s_of) := ⟨rfl, rfl, rfl, by decide +kernel, rfl, by decide +kernel, by decide +kernel⟩
theorem ok_of (F : FunD K "_law_of" "_law_of" (defArgs s_of) (defBody s_of) (defScope s_of) [] [] f fd) (T : Tx w K mg c) (G_take : Cal P w K mg base "_law_take" 1 (W_take K c)) : FnOk P w K mg base CX0 2 f fd ["_law_bag_here", "_law_some"] (W_of K c) := by
  refine F.ok sc_of (fun vs H Q E h => h.1) (fun cdv A outer s H vs Q E hr h => ⟨t_of K c, PSs.nox ?_, h.2⟩)
  exact (pss_one (ps_ret (pe_ix ix_list (pv 1) (pe_fc G_take (hr.mono (by decide)) rfl (pa_cons (pv 0) (pa_cons (pe_callB oLen (by rfl) T.n_len (by decide +kernel) (pa_cons (pv 1) pa_nil)) pa_nil))) (fun _ _ => rfl))))
abbrev s_number : Stmt := top 12
theorem sc_number : FnScope N_number ["_law_bag_here"] (defScope s_number) := ⟨rfl, rfl, rfl, by decide +kernel, rfl, by decide +kernel, by decide +kernel⟩
theorem ok_number (F : FunD K "_law_number" "_law_number" (defArgs s_number) (defBody s_number) (defScope s_number) [] [] f fd) (T : Tx w K mg c) (G_take : Cal P w K mg base "_law_take" 1 (W_take K c)) : FnOk P w K mg base CX0 2 f fd ["_law_bag_here"] (W_number K c) := by
  refine F.ok sc_number (fun vs H Q E h => h.1) (fun cdv A outer s H vs Q E hr h => ⟨t_number K c, PSs.nox ?_, h.2⟩)
  exact (pss_cons (ps_set (i := 1) sc_number.nd rfl (Or.inl rfl) (pe_fc G_take (hr.mono (by decide)) rfl (pa_cons (pv 0) (pa_cons pe_int pa_nil))))
  (pss_cons (ps_if (pt_cmpR oLt (pv 1) pe_int (by rfl))
    (pss_one (ps_ret (pe_op oSub (pe_fc G_take (hr.mono (by decide)) rfl (pa_cons (pv 0) (pa_cons pe_int pa_nil))) pe_int))) pss_nil)
  (pss_cons (ps_set (i := 2) sc_number.nd rfl (Or.inl rfl) (pe_fc G_take (hr.mono (by decide)) rfl (pa_cons (pv 0) (pa_cons (pe_op oPow pe_int pe_int) pa_nil))))
  (pss_cons (ps_if (pt_cmpR oEq (pv 1) pe_int (by rfl))
    (pss_one (ps_set (i := 2) sc_number.nd rfl (Or.inl rfl) (pe_op oAdd (pe_op oMul (pe_fc G_take (hr.mono (by decide)) rfl (pa_cons (pv 0) (pa_cons (pe_op oPow pe_int pe_int) pa_nil))) (pe_op oPow pe_int pe_int)) (pe_fc G_take (hr.mono (by decide)) rfl (pa_cons (pv 0) (pa_cons (pe_op oPow pe_int pe_int) pa_nil)))))) pss_nil)
  (pss_one (ps_ret (pe_op oMul (pv 2) (pe_op oSub pe_int (pe_op oMul pe_int (pe_fc G_take (hr.mono (by decide)) rfl (pa_cons (pv 0) (pa_cons pe_int pa_nil))))))))))))
abbrev s_numbers : Stmt := top 13
theorem sc_numbers : FnScope N_numbers ["_law_bag_here", "_law_many"] (defScope s_numbers) := ⟨rfl, rfl, rfl, by decide +kernel, rfl, by decide +kernel, by decide +kernel⟩
theorem ok_numbers (F : FunD K "_law_numbers" "_law_numbers" (defArgs s_numbers) (defBody s_numbers) (defScope s_numbers) [] [] f fd) (T : Tx w K mg c) (G_number : Cal P w K mg base "_law_number" 2 (W_number K c)) : FnOk P w K mg base CX0 3 f fd ["_law_bag_here", "_law_many"] (W_numbers K c) := by
  refine F.ok sc_numbers (fun vs H Q E h => h.1) (fun cdv A outer s H vs Q E hr h => ⟨t_numbers K c, PSs.nox ?_, h.2⟩)
  exact (pss_cons (ps_set (i := 2) sc_numbers.nd rfl (Or.inl rfl) (pe_lst pa_nil))
  (pss_cons (ps_for PassesOwn.never rfl (pi_range1 rfl T.n_range (pa_cons (pv 1) pa_nil)) (pg_name (i := 3) sc_numbers.nd rfl (by first | exact Or.inl rfl | exact Or.inr rfl))
    (pss_cons (ps_set (i := 4) sc_numbers.nd rfl (Or.inl rfl) (pe_fc G_number (hr.mono (by decide)) rfl (pa_cons (pv 0) pa_nil)))
  (pss_one (ps_expr (pe_bm PySem.F.plainAttrs_list PySem.F.slot_list_append PySem.F.type_list_append mt_append (pv 2) (pa_cons (pe_ifExp (pt_cmpR oIn (pv 4) (pv 2) (by rfl)) (pe_op oAdd (pe_callB (cr_max rfl) (by rfl) T.n_max (by decide +kernel) (pa_cons (pv 2) pa_nil)) pe_int) (pv 4)) pa_nil))))))
  (pss_one (ps_ret (pv 2)))))
abbrev s_newest : Stmt := top 14
theorem sc_newest : FnScope N_newest ["_law_cells", "_law_times"] (defScope s_newest) := ⟨rfl, rfl, rfl, by decide +kernel, rfl, by decide +kernel, by decide +kernel⟩
theorem ok_newest (F : FunD K "_law_newest" "_law_newest" (defArgs s_newest) (defBody s_newest) (defScope s_newest) [] [] f fd) (T : Tx w K mg c) : FnOk P w K mg base CX0 1 f fd ["_law_cells", "_law_times"] (W_newest K c) := by
  refine F.ok sc_newest (fun vs H Q E h => h.1) (fun cdv A outer s H vs Q E hr h => ⟨t_newest K c, PSs.nox ?_, h.2⟩)
  exact (pss_cons (ps_set (i := 2) sc_newest.nd rfl (Or.inl rfl) (pe_ix ix_list (pv 0) pe_int (fun _ _ => rfl)))
  (pss_cons (ps_set (i := 3) sc_newest.nd rfl (Or.inl rfl) (pe_ix ix_list (pv 1) pe_int (fun _ _ => rfl)))
  (pss_cons (ps_for PassesOwn.never rfl (pi_zip rfl T.n_zip (pa_cons (pv 0) (pa_cons (pv 1) pa_nil))) (pg_tup rfl (pgs_cons (pg_name (i := 4) sc_newest.nd rfl (by first | exact Or.inl rfl | exact Or.inr rfl)) (pgs_cons (pg_name (i := 5) sc_newest.nd rfl (by first | exact Or.inl rfl | exact Or.inr rfl)) pgs_nil)))
    (pss_one (ps_if (pt_cmpR oGt (pv 5) (pv 3) (by rfl))
    (pss_one (ps_par rfl sc_newest.nd rfl rfl (by decide) rfl rfl (pa_cons (pv 4) (pa_cons (pv 5) pa_nil)) (by rfl))) pss_nil)))
  (pss_one (ps_ret (pv 2))))))
abbrev s_due : Stmt := top 15
theorem sc_due : FnScope N_due ["_law_word", "_law_cells", "_law_times"] (defScope s_due) := ⟨rfl, rfl, rfl, by decide +kernel, rfl, by decide +kernel, by decide +kernel⟩
theorem ok_due (F : FunD K "_law_due" "_law_due" (defArgs s_due) (defBody s_due) (defScope s_due) [] [] f fd) (T : Tx w K mg c) (G_newest : Cal P w K mg base "_law_newest" 1 (W_newest K c)) : FnOk P w K mg base CX0 2 f fd ["_law_word", "_law_cells", "_law_times"] (W_due K c) := by
  refine F.ok sc_due (fun vs H Q E h => h.1) (fun cdv A outer s H vs Q E hr h => ⟨t_due K c, PSs.nox ?_, h.2⟩)
  have hu := hu_of hr
  exact (pss_cons (ps_par3 rfl sc_due.nd rfl rfl rfl (by decide) (by decide) (by decide) rfl rfl rfl (pa_cons pe_int (pa_cons (pe_ix ix_list (pv 1) pe_int (fun _ _ => rfl)) (pa_cons (pe_ix ix_list (pv 1) pe_int (fun _ _ => rfl)) pa_nil))) (by rfl))
  (pss_cons (ps_for PassesOwn.never rfl (pi_list (pv 1)) (pg_name (i := 6) sc_due.nd rfl (by first | exact Or.inl rfl | exact Or.inr rfl))
    (pss_cons (ps_set (i := 3) sc_due.nd rfl (Or.inl rfl) (pe_op oAdd (pv 3) (pv 6)))
  (pss_cons (ps_set (i := 4) sc_due.nd rfl (Or.inl rfl) (pe_ifExp (pt_cmpR oLt (pv 6) (pv 4) (by rfl)) (pv 6) (pv 4)))
  (pss_one (ps_set (i := 5) sc_due.nd rfl (Or.inl rfl) (pe_ifExp (pt_cmpR oGt (pv 6) (pv 5) (by rfl)) (pv 6) (pv 5)))))))
  (pss_one (ps_ret (pe_dget hu (pe_disp (pps_cons pe_str (pv 3) (pps_cons pe_str (pv 5) (pps_cons pe_str (pv 4) (pps_cons pe_str (pe_ix ix_list (pv 1) pe_int (fun _ _ => rfl)) (pps_cons pe_str (pe_fc G_newest (hr.mono (by decide)) rfl (pa_cons (pv 1) (pa_cons (pv 2) pa_nil))) pps_nil))))) (by rfl) (by rfl) (fun z => by cases z) (by decide)) (pv 0) (fun _ _ => rfl))))))
abbrev s_law : Stmt := top 16
theorem sc_law : FnScope N_law ["_law_script"] (defScope s_law) := ⟨rfl, rfl, rfl, by decide +kernel, rfl, by decide +kernel, by decide +kernel⟩
theorem ok_law (F : FunD K "law" "law" (defArgs s_law) (defBody s_law) (defScope s_law) [] [] f fd) (T : Tx w K mg c) (G_bag : Cal P w K mg base "_law_bag" 1 (W_bag K c)) (G_take : Cal P w K mg base "_law_take" 1 (W_take K c)) (G_number : Cal P w K mg base "_law_number" 2 (W_number K c)) (G_numbers : Cal P w K mg base "_law_numbers" 3 (W_numbers K c)) (G_of : Cal P w K mg base "_law_of" 2 (W_of K c)) (G_rule_named : Cal P w K mg base "rule_named" 1 (W_rule_named K c)) (G_due : Cal P w K mg base "_law_due" 2 (W_due K c)) (N_Add : NewF K c.Add) (N_Most : NewF K c.Most) (N_Least : NewF K c.Least) (N_First : NewF K c.First) (N_Newest : NewF K c.Newest) (C_Rule : CallD P w K mg base (Rl c) 3 (W_Rule_call K c)) (Q_eq : EqCal P w K mg base c.Rule_eq 1 (W_Rule_eq K c)) : FnOk P w K mg base CX0 4 f fd ["_law_script"] (W_law K c) := by
  refine F.ok sc_law (fun vs H Q E h => h.1) (fun cdv A outer s H vs Q E hr h => ⟨t_law K c, PSs.nox ?_, h.2⟩)
  have hU := hr.units
  exact (pss_cons (ps_set (i := 1) sc_law.nd rfl (Or.inl rfl) (pe_lst (pa_cons pe_str (pa_cons pe_str (pa_cons pe_str (pa_cons pe_str (pa_cons pe_str pa_nil)))))))
  (pss_cons (ps_set (i := 2) sc_law.nd rfl (Or.inr rfl) (pe_lst (pa_cons (pe_new0 N_Add rfl T.m_Add) (pa_cons (pe_new0 N_Most rfl T.m_Most) (pa_cons (pe_new0 N_Least rfl T.m_Least) (pa_cons (pe_new0 N_First rfl T.m_First) (pa_cons (pe_new0 N_Newest rfl T.m_Newest) pa_nil)))))))
  (pss_cons (ps_if (PW.pt (pw_or (pt_cmpR (oNeD hU) (pe_lc (own := [("_law_rule", 3)]) rfl sc_law.nd (pi_list (pv 2)) (blkOk_by (own := [("_law_rule", 3)]) (N := N_law) (sc := defScope s_law) (by decide +kernel)) (fun _ _ _ _ _ => (pg_name (i := 3) sc_law.nd rfl (by first | exact Or.inl rfl | exact Or.inr rfl))) (fun _ _ _ _ _ => pts_nil) (fun _ _ _ _ _ => (pe_con (pv 3) rfl))) (pv 1) (by rfl)) (pw_or1 (pt_not (pt_val (pe_callB call_isi (by rfl) T.n_isinstance (by decide +kernel) (pa_cons (pe_ix ix_list (pv 2) pe_int (fun _ _ => rfl)) (pa_cons (pe_gl rfl (glc T.m_First)) pa_nil))))))))
    (pss_one (ps_ret pe_bl)) pss_nil)
  (pss_cons (ps_if (pt_cmpR (oNeD hU) (pe_lc (own := [("_law_k", 4)]) rfl sc_law.nd (pi_range1 rfl T.n_range (pa_cons pe_int pa_nil)) (blkOk_by (own := [("_law_k", 4)]) (N := N_law) (sc := defScope s_law) (by decide +kernel)) (fun _ _ _ _ _ => (pg_name (i := 4) sc_law.nd rfl (by first | exact Or.inl rfl | exact Or.inr rfl))) (fun _ _ _ _ _ => pts_nil) (fun _ _ _ _ _ => (pe_callB call_isi (by rfl) T.n_isinstance (by decide +kernel) (pa_cons (pe_ix ix_list (pv 2) (pv 4) (fun _ _ => rfl)) (pa_cons (pe_gl rfl (glc T.m_First)) pa_nil))))) (pe_lst (pa_cons pe_bl (pa_cons pe_bl (pa_cons pe_bl pa_nil)))) (by rfl))
    (pss_one (ps_ret pe_bl)) pss_nil)
  (pss_cons (ps_for PassesOwn.never rfl (pi_range1 rfl T.n_range (pa_cons (pe_callB (oMax2 rfl) (by rfl) T.n_max (by decide +kernel) (pa_cons pe_int (pa_cons (pe_callB (oMin2 rfl) (by rfl) T.n_min (by decide +kernel) (pa_cons pe_int (pa_cons (pe_callB oLen (by rfl) T.n_len (by decide +kernel) (pa_cons (pv 0) pa_nil)) pa_nil))) pa_nil))) pa_nil)) (pg_name (i := 5) sc_law.nd rfl (by first | exact Or.inl rfl | exact Or.inr rfl))
    (pss_cons (ps_set (i := 6) sc_law.nd rfl (Or.inr rfl) (pe_fc G_bag (hr.mono (by decide)) rfl (pa_cons (pv 0) (pa_cons (pv 5) pa_nil))))
  (pss_cons (ps_set (i := 7) sc_law.nd rfl (Or.inl rfl) (pe_op oAdd pe_int (pe_fc G_take (hr.mono (by decide)) rfl (pa_cons (pv 6) (pa_cons pe_int pa_nil)))))
  (pss_cons (ps_asg (pe_tup (pa_cons (pe_lc (own := [("_law_turn", 8)]) rfl sc_law.nd (pi_range1 rfl T.n_range (pa_cons (pv 7) pa_nil)) (blkOk_by (own := [("_law_turn", 8)]) (N := N_law) (sc := defScope s_law) (by decide +kernel)) (fun _ _ _ _ _ => (pg_name (i := 8) sc_law.nd rfl (by first | exact Or.inl rfl | exact Or.inr rfl))) (fun _ _ _ _ _ => pts_nil) (fun _ _ _ _ _ => (pe_fc G_number (hr.mono (by decide)) rfl (pa_cons (pv 6) pa_nil)))) (pa_cons (pe_fc G_numbers (hr.mono (by decide)) rfl (pa_cons (pv 6) (pa_cons pe_int pa_nil))) pa_nil))) (pg_tup rfl (pgs_cons (pg_name (i := 9) sc_law.nd rfl (by first | exact Or.inl rfl | exact Or.inr rfl)) (pgs_cons (pg_name (i := 10) sc_law.nd rfl (by first | exact Or.inl rfl | exact Or.inr rfl)) pgs_nil))))
  (pss_cons (ps_setLc (i := 11) (own := [("_law_turn", 8)]) rfl sc_law.nd rfl rfl (sw_true rfl rfl rfl (by decide +kernel)) (pi_range1 rfl T.n_range (pa_cons (pv 7) pa_nil)) (blkOk_by (own := [("_law_turn", 8)]) (N := N_law) (sc := defScope s_law) (by decide +kernel)) (fun _ _ _ _ _ => (pg_name (i := 8) sc_law.nd rfl (by first | exact Or.inl rfl | exact Or.inr rfl))) (fun _ _ _ _ _ => pts_nil) (fun _ _ _ _ _ => (pe_fc G_of (hr.mono (by decide)) rfl (pa_cons (pv 6) (pa_cons (pv 10) pa_nil)))))
  (pss_cons (ps_par rfl sc_law.nd rfl rfl (by decide) rfl rfl (pa_cons (pe_callTy oListOf (by rfl) T.n_list (by decide +kernel) (pa_cons (pv 9) pa_nil)) (pa_cons (pe_callTy oListOf (by rfl) T.n_list (by decide +kernel) (pa_cons (pv 11) pa_nil)) pa_nil)) (by rfl))
  (pss_one (ps_for PassesOwn.never rfl (pi_enum rfl T.n_enumerate (pa_cons (pv 1) pa_nil)) (pg_tup rfl (pgs_cons (pg_name (i := 4) sc_law.nd rfl (by first | exact Or.inl rfl | exact Or.inr rfl)) (pgs_cons (pg_name (i := 14) sc_law.nd rfl (by first | exact Or.inl rfl | exact Or.inr rfl)) pgs_nil)))
    (pss_cons (ps_set (i := 3) sc_law.nd rfl (Or.inr rfl) (pe_fc G_rule_named (hr.mono (by decide)) rfl (pa_cons (pv 14) pa_nil)))
  (pss_cons (ps_par rfl sc_law.nd rfl rfl (by decide) rfl rfl (pa_cons (pe_callD C_Rule (hr.mono (by decide)) (pv 3) (pa_cons (pv 9) (pa_cons (pv 11) pa_nil))) (pa_cons (pe_callD C_Rule (hr.mono (by decide)) (pe_ix ix_list (pv 2) (pv 4) (fun _ _ => rfl)) (pa_cons (pe_callTy oListOf (by rfl) T.n_list (by decide +kernel) (pa_cons (pv 9) pa_nil)) (pa_cons (pe_callTy oListOf (by rfl) T.n_list (by decide +kernel) (pa_cons (pv 11) pa_nil)) pa_nil))) pa_nil)) (by rfl))
  (pss_cons (ps_if (PW.pt (pw_or (pt_cmpR (oNeD hU) (pv 9) (pv 12) (by rfl)) (pw_or1 (pt_cmpR (oNeD hU) (pv 11) (pv 13) (by rfl)))))
    (pss_one (ps_ret pe_bl)) pss_nil)
  (pss_cons (ps_if (PW.pt (pw_or (pt_cmpR oNe (pe_callB oRepI (by rfl) T.n_repr (by decide +kernel) (pa_cons (pv 15) pa_nil)) (pe_callB oRepI (by rfl) T.n_repr (by decide +kernel) (pa_cons (pe_fc G_due (hr.mono (by decide)) rfl (pa_cons (pv 14) (pa_cons (pv 9) (pa_cons (pv 11) pa_nil)))) pa_nil)) (by rfl)) (pw_or1 (pt_cmpR oNe (pe_callB oRepI (by rfl) T.n_repr (by decide +kernel) (pa_cons (pv 16) pa_nil)) (pe_callB oRepI (by rfl) T.n_repr (by decide +kernel) (pa_cons (pv 15) pa_nil)) (by rfl)))))
    (pss_one (ps_ret pe_bl)) pss_nil)
  (pss_cons (ps_if (PW.pt (pw_or (pt_not (pt_val (pe_callB call_isi (by rfl) T.n_isinstance (by decide +kernel) (pa_cons (pv 3) (pa_cons (pe_gl rfl (glc T.m_Rule)) pa_nil))))) (pw_or1 (pt_cmpR (oNeD hU) (pe_lc (own := [("_law_other", 17)]) rfl sc_law.nd (pi_list (pv 2)) (blkOk_by (own := [("_law_other", 17)]) (N := N_law) (sc := defScope s_law) (by decide +kernel)) (fun _ _ _ _ _ => (pg_name (i := 17) sc_law.nd rfl (by first | exact Or.inl rfl | exact Or.inr rfl))) (fun _ _ _ _ _ => pts_nil) (fun _ _ _ _ _ => (pe_cmpR (oOwnR Q_eq (hr.mono (by decide)) (hU0 hU)) (pv 3) (pv 17) (by rfl)))) (pe_lc (own := [("_law_j", 18)]) rfl sc_law.nd (pi_range1 rfl T.n_range (pa_cons pe_int pa_nil)) (blkOk_by (own := [("_law_j", 18)]) (N := N_law) (sc := defScope s_law) (by decide +kernel)) (fun _ _ _ _ _ => (pg_name (i := 18) sc_law.nd rfl (by first | exact Or.inl rfl | exact Or.inr rfl))) (fun _ _ _ _ _ => pts_nil) (fun _ _ _ _ _ => (pe_cmpR oEq (pv 4) (pv 18) (by rfl)))) (by rfl)))))
    (pss_one (ps_ret pe_bl)) pss_nil)
  (pss_one (ps_if (PW.pt (pw_or (pt_cmpR oNe (pe_callB oRepI (by rfl) T.n_repr (by decide +kernel) (pa_cons (pe_callD C_Rule (hr.mono (by decide)) (pv 3) (pa_cons (pe_slice sl_list (pv 9) po_none (po_some pe_int)) (pa_cons (pe_slice sl_list (pv 11) po_none (po_some pe_int)) pa_nil))) pa_nil)) (pe_callB oRepI (by rfl) T.n_repr (by decide +kernel) (pa_cons (pe_ix ix_list (pv 9) pe_int (fun _ _ => rfl)) pa_nil)) (by rfl)) (pw_or1 (pt_cmpR (oOwnR Q_eq (hr.mono (by decide)) (hU0 hU)) (pv 3) (pv 14) (by rfl)))))
    (pss_one (ps_ret pe_bl)) pss_nil)))))))))))))))
  (pss_one (ps_ret pe_bl)))))))
end

end M
namespace M
open PySem PySem.Spec PyProof.Rows L2
/-! ### the Hook: facts, defs at any address, tables with text keys, one Bool more -/
abbrev AlM : Type := (He.AlD × List (Option (List (Option (Str × Int))))) × Bool
def obsM (fa : List He.Fa) (fn : List He5.DefA) (tb : List He.Tab) (ex : PySem.W.Frag → Bool) (K : PySem.W.Frag) : AlM := ((He5.obsA fa fn K, tb.map fun t => He.dicW K (t.1 K)), ex K)
def valM (fn : List He5.DefA) (tb : List He.Tab) (w : World) : AlM := ((He5.valA fn, tb.map fun t => some (He.keysIn w.params t.2)), true)
structure SaysM (fa : List He.Fa) (fn : List He5.DefA) (tb : List He.Tab) (ex : PySem.W.Frag → Bool) (w : World) (K : PySem.W.Frag) : Prop where
  a : He5.SaysA fa fn K
  t : (tb.map fun t => He.dicW K (t.1 K)) = tb.map fun t => some (He.keysIn w.params t.2)
  x : ex K = true
theorem saysM_of {fa : List He.Fa} {fn : List He5.DefA} {tb : List He.Tab} {ex : PySem.W.Frag → Bool} {w : World} {K : PySem.W.Frag} (e : obsM fa fn tb ex K = valM fn tb w) : SaysM fa fn tb ex w K :=
  ⟨congrArg (fun z : AlM => z.1.1) e, congrArg (fun z : AlM => z.1.2) e, congrArg (fun z : AlM => z.2) e⟩
def obsMG (n : Nat) (fa : List He.Fa) (fn : List He5.DefA) (tb : List He.Tab) (ex : PySem.W.Frag → Bool) (g : Addr → Option Obj) : AlM := obsM fa fn tb ex (He.frG g (He5.asA g n))
def hookM (n : Nat) (fa : List He.Fa) (fn : List He5.DefA) (tb : List He.Tab) (ex : PySem.W.Frag → Bool) : PySem.W.Hook where
  α := AlM
  obs := fun s => obsMG n fa fn tb ex s.heap.get?
  val := fun w => valM fn tb w
  says := fun w h => ∃ K : PySem.W.Frag, K.In h ∧ SaysM fa fn tb ex w K
  of := fun _ _ e => ⟨_, He.frG_in, saysM_of e⟩
  keeps := fun _ _ _ ⟨K, hK, c⟩ k => ⟨K, PySem.W.Frag.In.keeps hK k, c⟩
theorem obsMG_eq {n : Nat} {fa : List He.Fa} {fn : List He5.DefA} {tb : List He.Tab} {ex : PySem.W.Frag → Bool} {g : Addr → Option Obj} {s : Shared} (h : ∀ a, g a = s.heap.get? a) : obsMG n fa fn tb ex g = (hookM n fa fn tb ex).obs s := by
  have e : g = s.heap.get? := funext h
  rw [e] <;> rfl
theorem SaysM.tab {fa : List He.Fa} {fn : List He5.DefA} {tb : List He.Tab} {ex : PySem.W.Frag → Bool} {w : World} {K : PySem.W.Frag} (c : SaysM fa fn tb ex w K) (i : Nat) {t : He.Tab} (h : tb[i]? = some t := by rfl) : ∃ es n, KDict K w (t.1 K) es n := by
  have e : (tb.map fun t => He.dicW K (t.1 K))[i]? = (tb.map fun t => some (He.keysIn w.params t.2))[i]? := by rw [c.t]
  rw [List.getElem?_map, List.getElem?_map, h] at e
  exact He.dicW_ok (Option.some.inj e)
end M

namespace M
open PySem PySem.Spec PyProof.Rows L2
/-! ### the Hook of a law whose defs say super() -/
abbrev FnX : Type := Option (Str × Str × Arguments × FuncBody × Scope × Addr × List Str × Addr)
def fnX0 (K : PySem.W.Frag) (a : Addr) : FnX := match K.lookup a with
  | some ⟨_, _, .func fd, _⟩ => some (fd.name, fd.qualname, fd.params, fd.body, fd.scope, fd.globals, fd.closure.map Prod.fst, fd.builtins)
  | _ => none
structure DefS where
  at_ : PySem.W.Frag → Addr
  cls : Str
  name : Str
  qual : Str
  params : Arguments
  body : List Stmt
  scope : Scope
  dfl : List He.Dv := []
  kwd : List (Str × He.Dv) := []
def DefS.val (d : DefS) : FnX := some (d.name, d.qual, d.params, .stmts d.body, d.scope, mainGlobals, ["__class__"], builtinsNs)
def DefS.dvs (K : PySem.W.Frag) (d : DefS) : List V := d.dfl.map (He.Dv.v K)
def DefS.kws (K : PySem.W.Frag) (d : DefS) : List (Str × V) := d.kwd.map fun q => (q.1, q.2.v K)
def cellB (K : PySem.W.Frag) (c D : Addr) : Bool := match K.lookup c with
  | some ⟨_, _, .cell (some (.ref D')), _⟩ => decide (D' = D)
  | _ => false
theorem cellB_ok {K : PySem.W.Frag} {c D : Addr} (h : cellB K c D = true) : ∃ (cl : Value) (cld : Option Addr) (csl : Array (Option Value)), K.lookup c = some ⟨cl, cld, .cell (some (.ref D)), csl⟩ := by
  unfold cellB at h
  split at h
  · rename_i cl cld D' csl e
    rw [of_decide_eq_true h] at e
    exact ⟨_, _, _, e⟩
  · cases h
def fileB (K : PySem.W.Frag) (c : Addr) (file : Str) : Bool := match K.lookup c with
  | some ⟨_, _, .fields vs, _⟩ => (match vs[2]? with
    | some (Value.str f _) => file == f
    | _ => false)
  | _ => false
theorem fileB_ok {K : PySem.W.Frag} {c : Addr} {file : Str} (h : fileB K c file = true) : ∃ (ccl : Value) (cdd : Option Addr) (vs : Array Value) (ccs : Array (Option Value)) (f : Str) (tf : Tok), K.lookup c = some ⟨ccl, cdd, .fields vs, ccs⟩ ∧ vs[2]? = some (.str f tf) ∧ (file == f) = true := by
  unfold fileB at h
  split at h
  · rename_i ccl cdd vs ccs e
    split at h
    · rename_i f tf e2
      exact ⟨_, _, _, _, _, _, e, e2, h⟩
    · cases h
  · cases h
def DefS.ok (file : Str) (K : PySem.W.Frag) (d : DefS) : Bool := PySem.W.keepIn K (.ref (d.at_ K)) && (match K.lookup (d.at_ K) with
  | some ⟨_, _, .func fd, _⟩ => (match fd.closure, fd.code with
    | [(_, cc)], .ref cda => PySem.W.codeIn K (.ref cda) d.qual && (He.dflB K fd.defaults (d.dvs K) && (He.kwdB K fd.kwdefaults (d.kws K) && (cellB K cc (He.ga K d.cls) && (fileB K cda file && (PySem.W.clsIn K (He.ga K d.cls)).isSome))))
    | _, _ => false)
  | _ => false)
theorem DefS.funS {K : PySem.W.Frag} {P : Program} {file : Str} {d : DefS} (hf : P.main.file = file) (ht : (P.main.scope.names.lookup ("super" : Str)).isSome = false) (e : fnX0 K (d.at_ K) = d.val) (c : d.ok file K = true) :
    ∃ cc cda fd, FunS P K d.name d.qual d.params d.body d.scope (d.dvs K) (d.kws K) (He.ga K d.cls) cc cda (d.at_ K) fd := by
  obtain ⟨kp, c2⟩ := He.ba c
  unfold fnX0 at e
  cases q : K.lookup (d.at_ K) with
  | none =>
    rw [q] at c2
    cases c2
  | some o =>
    obtain ⟨oc, od, dt, osl⟩ := o
    rw [q] at c2 e
    cases dt with
    | func fd =>
      obtain ⟨n1, n2, n3, n4, n5, n6, n7, n8, n9, n10, n11, n12, n13, n14, n15⟩ := fd
      have e2 : (some (n1, n2, n3, n4, n5, n6, n7.map Prod.fst, n15) : FnX) = (some (d.name, d.qual, d.params, FuncBody.stmts d.body, d.scope, mainGlobals, [("__class__" : Str)], builtinsNs) : FnX) := e
      simp only [Option.some.injEq, Prod.mk.injEq] at e2
      obtain ⟨h1, h2, h3, h4, h5, h6, h7, h8⟩ := e2
      subst h1 h2 h3 h4 h5 h6 h8
      match n7, n13, h7, c2, q with
      | [(nm, cc)], .ref cda, h7, c2, q =>
        have hn : nm = ("__class__" : Str) := by simpa using h7
        subst hn
        have c3 : (PySem.W.codeIn K (.ref cda) d.qual && (He.dflB K n8 (d.dvs K) && (He.kwdB K n9 (d.kws K) && (cellB K cc (He.ga K d.cls) && (fileB K cda file && (PySem.W.clsIn K (He.ga K d.cls)).isSome))))) = true := c2
        obtain ⟨k1, k2⟩ := He.ba c3
        obtain ⟨k3, k4⟩ := He.ba k2
        obtain ⟨k5, k6⟩ := He.ba k4
        obtain ⟨k7, k8⟩ := He.ba k6
        obtain ⟨k9, k10⟩ := He.ba k8
        refine ⟨cc, cda, _, ⟨oc, od, n8, n9, n10, n11, n12, n14, osl, rfl, q, k1, He.dflB_ok k3, He.kwdB_ok k5⟩, ?_, cellB_ok k7, Option.isSome_iff_exists.mp k10, kp, ht⟩
        rw [hf]; exact fileB_ok k9
    | _ => cases c2
theorem FunS.bindsN {P : Program} {K : PySem.W.Frag} {x qual : Str} {params : Arguments} {body : List Stmt} {scope : Scope} {kws : List (Str × V)} {D cc cda f : Addr} {fd : FuncData} {ps : List Str} (F : FunS P K x qual params body scope [] kws D cc cda f fd)
    (h : ∀ (kV doc pm : Value) (an : Option Addr) (cdv ct : Value) (us : List Value), us.length = ps.length → bindArgs (PySem.W.fnX x qual params body scope [("__class__", cc)] .none kV doc pm an cdv ct) ⟨us, []⟩ = pure (ps.zip us)) : Binds K fd ps [] := by
  obtain ⟨oc, od, dV, kV, doc, pm, an, ct, osl, rfl, lk, hcd, hD, hK⟩ := F.ex
  rcases hD with ⟨_, rfl⟩ | ⟨e, _⟩
  · exact .all (h kV doc pm an (.ref cda) ct)
  · exact absurd rfl e
abbrev AlS : Type := AlM × List FnX
def exS (ex : PySem.W.Frag → Bool) (fs : List DefS) (file : Str) (K : PySem.W.Frag) : Bool := ex K && fs.all fun d => d.ok file K
def obsS (fa : List He.Fa) (fn : List He5.DefA) (tb : List He.Tab) (ex : PySem.W.Frag → Bool) (fs : List DefS) (file : Str) (K : PySem.W.Frag) : AlS := (obsM fa fn tb (exS ex fs file) K, fs.map fun d => fnX0 K (d.at_ K))
def valS (fn : List He5.DefA) (tb : List He.Tab) (fs : List DefS) (w : World) : AlS := (valM fn tb w, fs.map DefS.val)
structure SaysS (fa : List He.Fa) (fn : List He5.DefA) (tb : List He.Tab) (ex : PySem.W.Frag → Bool) (fs : List DefS) (file : Str) (w : World) (K : PySem.W.Frag) : Prop where
  m : SaysM fa fn tb (exS ex fs file) w K
  s : (fs.map fun d => fnX0 K (d.at_ K)) = fs.map DefS.val
def obsSG (n : Nat) (fa : List He.Fa) (fn : List He5.DefA) (tb : List He.Tab) (ex : PySem.W.Frag → Bool) (fs : List DefS) (file : Str) (g : Addr → Option Obj) : AlS := obsS fa fn tb ex fs file (He.frG g (He5.asA g n))
def hookS (n : Nat) (fa : List He.Fa) (fn : List He5.DefA) (tb : List He.Tab) (ex : PySem.W.Frag → Bool) (fs : List DefS) (file : Str) : PySem.W.Hook where
  α := AlS
  obs := fun s => obsSG n fa fn tb ex fs file s.heap.get?
  val := fun w => valS fn tb fs w
  says := fun w h => ∃ K : PySem.W.Frag, K.In h ∧ SaysS fa fn tb ex fs file w K
  of := fun _ _ e => ⟨_, He.frG_in, saysM_of (congrArg (fun z : AlS => z.1) e), congrArg (fun z : AlS => z.2) e⟩
  keeps := fun _ _ _ ⟨K, hK, c⟩ k => ⟨K, PySem.W.Frag.In.keeps hK k, c⟩
theorem obsSG_eq {n : Nat} {fa : List He.Fa} {fn : List He5.DefA} {tb : List He.Tab} {ex : PySem.W.Frag → Bool} {fs : List DefS} {file : Str} {g : Addr → Option Obj} {s : Shared} (h : ∀ a, g a = s.heap.get? a) : obsSG n fa fn tb ex fs file g = (hookS n fa fn tb ex fs file).obs s := by
  have e : g = s.heap.get? := funext h
  rw [e] <;> rfl
section
variable {fa : List He.Fa} {fn : List He5.DefA} {tb : List He.Tab} {ex : PySem.W.Frag → Bool} {fs : List DefS} {file : Str} {w : World} {K : PySem.W.Frag}
theorem SaysS.a (c : SaysS fa fn tb ex fs file w K) : He5.SaysA fa fn K := c.m.a
theorem SaysS.x (c : SaysS fa fn tb ex fs file w K) : ex K = true := (He.ba (show (ex K && fs.all fun d => d.ok file K) = true from c.m.x)).1
theorem SaysS.tab (c : SaysS fa fn tb ex fs file w K) (i : Nat) {t : He.Tab} (h : tb[i]? = some t := by rfl) : ∃ es n, KDict K w (t.1 K) es n := c.m.tab i h
theorem SaysS.defS {P : Program} (c : SaysS fa fn tb ex fs file w K) (hf : P.main.file = file) (ht : (P.main.scope.names.lookup ("super" : Str)).isSome = false) (i : Nat) {d : DefS} (h : fs[i]? = some d := by rfl) :
    ∃ cc cda fd, FunS P K d.name d.qual d.params d.body d.scope (d.dvs K) (d.kws K) (He.ga K d.cls) cc cda (d.at_ K) fd := by
  have e2 : (fs.map fun d => fnX0 K (d.at_ K))[i]? = (fs.map DefS.val)[i]? := by rw [c.s]
  rw [List.getElem?_map, List.getElem?_map, h] at e2
  exact DefS.funS hf ht (Option.some.inj e2) (List.all_eq_true.mp (He.ba (show (ex K && fs.all fun d => d.ok file K) = true from c.m.x)).2 d (List.mem_of_getElem? h))
end
end M

namespace M
open PySem PySem.Spec PyProof.Rows L2
/-! ### the head's facts -/
def faG : List He.Fa := (["Add", "First", "Least", "Most", "Newest", "Rule", "rule_named"] : List Str).map fun x => .glo x
def faL : List He.Fa := (["_law_bag", "_law_take", "_law_of", "_law_number", "_law_numbers", "_law_newest", "_law_due", "law"] : List Str).map fun x => .glo x
def faN : List He.Fa := (["abs", "enumerate", "int", "isinstance", "len", "list", "max", "min", "range", "repr", "sum", "super", "zip"] : List Str).map fun x => .free x
def faC : List He.Fa := [.meth "Add" "pick", .meth "Most" "pick", .meth "Least" "pick", .meth "First" "pick", .meth "Newest" "pick"]
def faAll : List He.Fa := faG ++ faL ++ faN ++ faC
def newB (K : PySem.W.Frag) (x : Str) : Bool := PySem.W.makesIn K (He.ga K x) && (He.eqO (PySem.W.findIn K (.ref (He.ga K x)) "__init__") (some (some (.builtin "object.__init__"))) && PySem.W.keepIn K (.ref (He.ga K x)))
def tinB (K : PySem.W.Frag) (x : Str) : Bool := (He.Fa.cls x).ok K && (He.eqO (PySem.W.findIn K (.ref (He.ga K x)) "__class__") (some (some (.builtin "object.__class__"))) && decide (PySem.W.mroIn K (He.ga K x) (.type "object") = some true))
def objB (K : PySem.W.Frag) : Bool := He.eqO (PySem.W.specialIn K (.builtin "object.__class__") "__get__") (some (some (.builtin "getset_descriptor.__get__"))) && decide (PySem.W.takesIn K (.builtin "object.__class__") = some true)
def kitB (K : PySem.W.Frag) (a : Addr) (v : Value) (r : Bool) : Bool := decide (PySem.W.kitOne K (.ref a) v = some r)
def rn : Nat → Str
  | 0 => "Add"
  | 1 => "Most"
  | 2 => "Least"
  | 3 => "First"
  | _ => "Newest"
def all5 (f : Nat → Bool) : Bool := ([0, 1, 2, 3, 4] : List Nat).all f
theorem all5_ok {f : Nat → Bool} (h : all5 f = true) {i : Nat} (hi : i < 5) : f i = true := by
  unfold all5 at h
  refine List.all_eq_true.mp h i ?_
  match i, hi with
  | 0, _ => simp
  | 1, _ => simp
  | 2, _ => simp
  | 3, _ => simp
  | 4, _ => simp
def ruleB (K : PySem.W.Frag) (i : Nat) : Bool := newB K (rn i) && (tinB K (rn i) && (He.conB K (rn i) "WORD" (.str (wrd i)) && (kitB K (He.ga K (rn i)) (.ref (He.ga K "Rule")) true && (kitB K (He.ga K (rn i)) (.ref (He.ga K "First")) (decide (3 ≤ i)) &&
  (He.eqO (PySem.W.findIn K (.ref (He.ga K (rn i))) "__eq__") (some (some (.ref (He.ma K (He.ga K "Rule") "__eq__")))) && (PySem.W.notFirst K (He.ga K (rn i)) (.type "str") && He.eqO (PySem.W.findIn K (.ref (He.ga K (rn i))) "__call__") (some (some (.ref (He.ma K (He.ga K "Rule") "__call__"))))))))))
def supB (K : PySem.W.Frag) : Bool := PySem.W.fnIn K (He.ma K (He.ga K "First") "pick") && (decide (PySem.W.typeIn K (.ref (He.ma K (He.ga K "First") "pick")) = some (.type "function")) && (He.eqO (PySem.W.nsIn K cStatics "thirdparty.any") (some none) &&
  (He.eqO (PySem.W.ks_superIn K (He.ga K "Newest") (He.ga K "Newest") "pick") (some (some (.ref (He.ma K (He.ga K "First") "pick")))) && decide (PySem.W.mroIn K (He.ga K "Newest") (.ref (He.ga K "Newest")) = some true))))
def exA (K : PySem.W.Frag) : Bool := objB K && (all5 (ruleB K) && ((all5 fun i => all5 fun j => PySem.W.notFirst K (He.ga K (rn i)) (.ref (He.ga K (rn j))) || (decide (He.ga K (rn j) ≠ He.ga K (rn i)) && decide (PySem.W.subIn K (.ref (He.ga K (rn j))) (.ref (He.ga K (rn i))) = some true))) &&
  (decide (PySem.W.kitOne K (.type "str") (.ref (He.ga K "Rule")) = some false) && (PySem.W.isFn K (.ref (He.ma K (He.ga K "Rule") "__eq__")) && (PySem.W.isFn K (.ref (He.ma K (He.ga K "Rule") "__call__")) && (PySem.W.fnIn K (He.ma K (He.ga K "Rule") "__call__") && supB K))))))
def tbL : List He.Tab := []
def pfile : Str := PySem.Challenge.pw_intoone_k01_rules_join.main.file
def d_rule_named : He5.DefA := ⟨fun K => He.ga K "rule_named", "rule_named", "rule_named", defArgs s_rule_named, defBody s_rule_named, defScope s_rule_named, [], []⟩
def d_Add_pick : He5.DefA := ⟨fun K => He.ma K (He.ga K "Add") "pick", "pick", "Add.pick", defArgs s_Add_pick, defBody s_Add_pick, defScope s_Add_pick, [], []⟩
def d_Most_pick : He5.DefA := ⟨fun K => He.ma K (He.ga K "Most") "pick", "pick", "Most.pick", defArgs s_Most_pick, defBody s_Most_pick, defScope s_Most_pick, [], []⟩
def d_Least_pick : He5.DefA := ⟨fun K => He.ma K (He.ga K "Least") "pick", "pick", "Least.pick", defArgs s_Least_pick, defBody s_Least_pick, defScope s_Least_pick, [], []⟩
def d_First_pick : He5.DefA := ⟨fun K => He.ma K (He.ga K "First") "pick", "pick", "First.pick", defArgs s_First_pick, defBody s_First_pick, defScope s_First_pick, [], []⟩
def d_Rule_call : He5.DefA := ⟨fun K => He.ma K (He.ga K "Rule") "__call__", "__call__", "Rule.__call__", defArgs s_Rule_call, defBody s_Rule_call, defScope s_Rule_call, [], []⟩
def d_Rule_eq : He5.DefA := ⟨fun K => He.ma K (He.ga K "Rule") "__eq__", "__eq__", "Rule.__eq__", defArgs s_Rule_eq, defBody s_Rule_eq, defScope s_Rule_eq, [], []⟩
def d_bag : He5.DefA := ⟨fun K => He.ga K "_law_bag", "_law_bag", "_law_bag", defArgs s_bag, defBody s_bag, defScope s_bag, [], []⟩
def d_take : He5.DefA := ⟨fun K => He.ga K "_law_take", "_law_take", "_law_take", defArgs s_take, defBody s_take, defScope s_take, [], []⟩
def d_of : He5.DefA := ⟨fun K => He.ga K "_law_of", "_law_of", "_law_of", defArgs s_of, defBody s_of, defScope s_of, [], []⟩
def d_number : He5.DefA := ⟨fun K => He.ga K "_law_number", "_law_number", "_law_number", defArgs s_number, defBody s_number, defScope s_number, [], []⟩
def d_numbers : He5.DefA := ⟨fun K => He.ga K "_law_numbers", "_law_numbers", "_law_numbers", defArgs s_numbers, defBody s_numbers, defScope s_numbers, [], []⟩
def d_newest : He5.DefA := ⟨fun K => He.ga K "_law_newest", "_law_newest", "_law_newest", defArgs s_newest, defBody s_newest, defScope s_newest, [], []⟩
def d_due : He5.DefA := ⟨fun K => He.ga K "_law_due", "_law_due", "_law_due", defArgs s_due, defBody s_due, defScope s_due, [], []⟩
def d_law : He5.DefA := ⟨fun K => He.ga K "law", "law", "law", defArgs s_law, defBody s_law, defScope s_law, [], []⟩
def d_Newest_pick : DefS := ⟨fun K => He.ma K (He.ga K "Newest") "pick", "Newest", "pick", "Newest.pick", defArgs s_Newest_pick, defBody s_Newest_pick, defScope s_Newest_pick, [], []⟩
def fnL : List He5.DefA := [d_rule_named, d_Add_pick, d_Most_pick, d_Least_pick, d_First_pick, d_Rule_call, d_Rule_eq, d_bag, d_take, d_of, d_number, d_numbers, d_newest, d_due, d_law]
def fsL : List DefS := [d_Newest_pick]
end M

namespace M
open PySem PySem.Spec PyProof.Rows L2
def cs (K : PySem.W.Frag) : Cs := ⟨He.ga K "Rule", He.ga K "Add", He.ga K "Most", He.ga K "Least", He.ga K "First", He.ga K "Newest", He.ma K (He.ga K "Rule") "__eq__"⟩
abbrev SM (w : World) (K : PySem.W.Frag) : Prop := SaysS faAll fnL tbL exA fsL pfile w K
theorem factsM {w : World} {K : PySem.W.Frag} (c : SM w K) {f : He.Fa} (h : f ∈ faAll) : f.ok K = true := by
  obtain ⟨i, hi⟩ := List.getElem?_of_mem h
  exact c.a.fact i hi
section
variable {w : World} {K : PySem.W.Frag} {h : Heap} {mg : Str → Option Value} {f : He.Fa}
theorem in_g (i : Nat) (h : faG[i]? = some f := by rfl) : f ∈ faAll := by unfold faAll; simp only [List.mem_append]; exact .inl (.inl (.inl (List.mem_of_getElem? h)))
theorem in_l (i : Nat) (h : faL[i]? = some f := by rfl) : f ∈ faAll := by unfold faAll; simp only [List.mem_append]; exact .inl (.inl (.inr (List.mem_of_getElem? h)))
theorem in_n (i : Nat) (h : faN[i]? = some f := by rfl) : f ∈ faAll := by unfold faAll; simp only [List.mem_append]; exact .inl (.inr (List.mem_of_getElem? h))
theorem in_c (i : Nat) (h : faC[i]? = some f := by rfl) : f ∈ faAll := by unfold faAll; simp only [List.mem_append]; exact .inr (List.mem_of_getElem? h)
theorem glo_at (X : K.In h) (G : h.Ns mainGlobals mg) (c : SM w K) {x : Str} (hx : He.Fa.glo x ∈ faAll) : mg x = some (.ref (He.ga K x)) := He.glo_ok X G (factsM c hx)
theorem free_at (X : K.In h) (G : h.Ns mainGlobals mg) (c : SM w K) {x : Str} (hx : He.Fa.free x ∈ faAll) : mg x = none := He.free_ok X G (factsM c hx)
theorem tx_of (X : K.In h) (G : h.Ns mainGlobals mg) (c : SM w K) : Tx w K mg (cs K) where
  n_abs := free_at X G c (in_n 0)
  n_enumerate := free_at X G c (in_n 1)
  n_int := free_at X G c (in_n 2)
  n_isinstance := free_at X G c (in_n 3)
  n_len := free_at X G c (in_n 4)
  n_list := free_at X G c (in_n 5)
  n_max := free_at X G c (in_n 6)
  n_min := free_at X G c (in_n 7)
  n_range := free_at X G c (in_n 8)
  n_repr := free_at X G c (in_n 9)
  n_sum := free_at X G c (in_n 10)
  n_super := free_at X G c (in_n 11)
  n_zip := free_at X G c (in_n 12)
  m_Add := glo_at X G c (in_g 0)
  m_First := glo_at X G c (in_g 1)
  m_Least := glo_at X G c (in_g 2)
  m_Most := glo_at X G c (in_g 3)
  m_Newest := glo_at X G c (in_g 4)
  m_Rule := glo_at X G c (in_g 5)
end
end M

namespace M
open PySem PySem.Spec PyProof.Rows L2
section
variable {w : World} {K : PySem.W.Frag} {h : Heap} {mg : Str → Option Value}
theorem tin_of {x : Str} (ho : objB K = true) (h : tinB K x = true) : Tin K (He.ga K x) := by
  obtain ⟨h1, h2⟩ := He.ba h
  obtain ⟨h3, h4⟩ := He.ba h2
  obtain ⟨o1, o2⟩ := He.ba ho
  exact ⟨He.cls_ok h1, He.eqO_ok h3, He.eqO_ok o1, of_decide_eq_true o2, of_decide_eq_true h4⟩
theorem new_of {x : Str} (h : newB K x = true) : NewF K (He.ga K x) := by
  obtain ⟨h1, h2⟩ := He.ba h
  obtain ⟨h3, h4⟩ := He.ba h2
  exact ⟨h1, He.eqO_ok h3, h4⟩
theorem rcl_eq {i : Nat} (hi : i < 5) : He.ga K (rn i) = rcl (cs K) i := by
  match i, hi with
  | 0, _ => rfl
  | 1, _ => rfl
  | 2, _ => rfl
  | 3, _ => rfl
  | 4, _ => rfl
structure XX (K : PySem.W.Frag) : Prop where
  ho : objB K = true
  hr : ∀ i, i < 5 → ruleB K i = true
  hn : ∀ i, i < 5 → ∀ j, j < 5 → (PySem.W.notFirst K (He.ga K (rn i)) (.ref (He.ga K (rn j))) || (decide (He.ga K (rn j) ≠ He.ga K (rn i)) && decide (PySem.W.subIn K (.ref (He.ga K (rn j))) (.ref (He.ga K (rn i))) = some true))) = true
  hs : PySem.W.kitOne K (.type "str") (.ref (He.ga K "Rule")) = some false
  fe : PySem.W.isFn K (.ref (He.ma K (He.ga K "Rule") "__eq__")) = true
  fc : PySem.W.isFn K (.ref (He.ma K (He.ga K "Rule") "__call__")) = true
  fi : PySem.W.fnIn K (He.ma K (He.ga K "Rule") "__call__") = true
  su : supB K = true
theorem xx_of (c : SM w K) : XX K := by
  obtain ⟨h1, h⟩ := He.ba (show exA K = true from c.x)
  obtain ⟨h2, h⟩ := He.ba h
  obtain ⟨h3, h⟩ := He.ba h
  obtain ⟨h4, h⟩ := He.ba h
  obtain ⟨h5, h⟩ := He.ba h
  obtain ⟨h6, h⟩ := He.ba h
  obtain ⟨h7, h8⟩ := He.ba h
  exact ⟨h1, fun i hi => all5_ok h2 hi, fun i hi j hj => all5_ok (all5_ok h3 hi) hj, of_decide_eq_true h4, h5, h6, h7, h8⟩
theorem kr_of (c : SM w K) : KR K (cs K) := by
  have x := xx_of c
  refine ⟨fun i hi => ?_, fun i hi => ?_, fun i hi => ?_, fun i hi => ?_, fun i hi => ?_, fun i j hi hj => ?_, fun i hi => ?_, x.hs⟩
  all_goals
    obtain ⟨a1, h⟩ := He.ba (x.hr i hi)
    obtain ⟨a2, h⟩ := He.ba h
    obtain ⟨a3, h⟩ := He.ba h
    obtain ⟨a4, h⟩ := He.ba h
    obtain ⟨a5, h⟩ := He.ba h
    obtain ⟨a6, h⟩ := He.ba h
    obtain ⟨a7, a8⟩ := He.ba h
    rw [← rcl_eq hi]
  · exact tin_of x.ho a2
  · exact He.conB_ok a3
  · exact of_decide_eq_true a4
  · exact of_decide_eq_true a5
  · exact He.eqO_ok a6
  · rw [← rcl_eq hj]
    rcases Bool.or_eq_true_iff.mp (x.hn i hi j hj) with q | q
    · exact .inl q
    · obtain ⟨q1, q2⟩ := He.ba q
      exact .inr ⟨of_decide_eq_true q1, of_decide_eq_true q2⟩
  · exact a7
theorem callO_at (c : SM w K) : ∀ C, Rl (cs K) C → StX.CallO K C (He.ma K (He.ga K "Rule") "__call__") := fun C hC => by
  have x := xx_of c
  have at_ : ∀ i, i < 5 → StX.CallO K (He.ga K (rn i)) (He.ma K (He.ga K "Rule") "__call__") := fun i hi => by
    obtain ⟨_, h⟩ := He.ba (x.hr i hi)
    obtain ⟨_, h⟩ := He.ba h
    obtain ⟨_, h⟩ := He.ba h
    obtain ⟨_, h⟩ := He.ba h
    obtain ⟨_, h⟩ := He.ba h
    obtain ⟨_, h⟩ := He.ba h
    obtain ⟨_, a8⟩ := He.ba h
    exact ⟨He.eqO_ok a8, x.fc, x.fi⟩
  rcases hC with rfl | rfl | rfl | rfl | rfl
  · exact at_ 0 (by decide)
  · exact at_ 1 (by decide)
  · exact at_ 2 (by decide)
  · exact at_ 3 (by decide)
  · exact at_ 4 (by decide)
theorem newAt (c : SM w K) (i : Nat) (hi : i < 5) : NewF K (He.ga K (rn i)) := new_of (He.ba ((xx_of c).hr i hi)).1
theorem tinAt (c : SM w K) (i : Nat) (hi : i < 5) : Cls K (He.ga K (rn i)) := (tin_of (xx_of c).ho (He.ba (He.ba ((xx_of c).hr i hi)).2).1).cl
end
end M

namespace M
open PySem PySem.Spec PyProof.Rows L2
theorem FnG.ofOk {P : Program} {w : World} {K : PySem.W.Frag} {mg : Str → Option Value} {base : Heap} {k : Nat} {f : Addr} {fd : FuncData} {ps : List Str} {sp : Sp} (F : FnOk P w K mg base CX0 k f fd ps sp) : FnG P w K mg base k f fd ps sp :=
  ⟨F.len, fun A outer s H args us vs Q E _ hr e0 hb r h => F.run A outer s H args us vs Q E hr e0 hb r h⟩
theorem joined {P : Program} (hf : P.main.file = pfile) (ht : (P.main.scope.names.lookup ("super" : Str)).isSome = false) {w : World} {K : PySem.W.Frag} {h : Heap} {mg : Str → Option Value} (X : K.In h) (G : h.Ns mainGlobals mg) (c : SM w K) : ∃ fd : FuncData, (∀ (s : Shared) (u : Value), BindsTo s fd ⟨[u], []⟩ [("_law_script", u)]) ∧ ∀ base : Heap, FnG P w K mg base 4 (He.ga K "law") fd ["_law_script"] (W_law K (cs K)) := by
  obtain ⟨fd_law, F_law⟩ := c.a.def_ 14 (d := d_law) rfl
  refine ⟨fd_law, fun s v => F_law.bindsA (ps := ["_law_script"]) (fun _ _ _ _ _ _ us hl => match us, hl with | [_], _ => rfl) s [v] rfl, fun base => ?_⟩
  have T : Tx w K mg (cs K) := tx_of X G c
  have N_Add : NewF K (cs K).Add := newAt c 0 (by decide)
  have N_Most : NewF K (cs K).Most := newAt c 1 (by decide)
  have N_Least : NewF K (cs K).Least := newAt c 2 (by decide)
  have N_First : NewF K (cs K).First := newAt c 3 (by decide)
  have N_Newest : NewF K (cs K).Newest := newAt c 4 (by decide)
  obtain ⟨fd_rule_named, F_rule_named⟩ := c.a.def_ 0 (d := d_rule_named) rfl
  have G_rule_named : Cal P w K mg base "rule_named" 1 (W_rule_named K (cs K)) := ⟨_, fd_rule_named, _, (ok_rule_named F_rule_named T N_Add N_Most N_Least N_First N_Newest), glo_at X G c (in_g 6), F_rule_named.kp, (F_rule_named.bindsN fun _ _ _ _ _ _ us hl => match us, hl with | [_], _ => rfl)⟩
  obtain ⟨fd_Add_pick, F_Add_pick⟩ := c.a.def_ 1 (d := d_Add_pick) rfl
  have b_Add : Binds K fd_Add_pick ["self", "cells", "times"] [] := (F_Add_pick.bindsN fun _ _ _ _ _ _ us hl => match us, hl with | [_, _, _], _ => rfl)
  have k_Add : FnOk P w K mg base CX0 2 _ fd_Add_pick ["self", "cells", "times"] (W_Add_pick K (cs K)) := FnOk.mono (ok_Add_pick F_Add_pick T ) (by decide)
  obtain ⟨fd_Most_pick, F_Most_pick⟩ := c.a.def_ 2 (d := d_Most_pick) rfl
  have b_Most : Binds K fd_Most_pick ["self", "cells", "times"] [] := (F_Most_pick.bindsN fun _ _ _ _ _ _ us hl => match us, hl with | [_, _, _], _ => rfl)
  have k_Most : FnOk P w K mg base CX0 2 _ fd_Most_pick ["self", "cells", "times"] (W_Most_pick K (cs K)) := FnOk.mono (ok_Most_pick F_Most_pick T ) (by decide)
  obtain ⟨fd_Least_pick, F_Least_pick⟩ := c.a.def_ 3 (d := d_Least_pick) rfl
  have b_Least : Binds K fd_Least_pick ["self", "cells", "times"] [] := (F_Least_pick.bindsN fun _ _ _ _ _ _ us hl => match us, hl with | [_, _, _], _ => rfl)
  have k_Least : FnOk P w K mg base CX0 2 _ fd_Least_pick ["self", "cells", "times"] (W_Least_pick K (cs K)) := FnOk.mono (ok_Least_pick F_Least_pick T ) (by decide)
  obtain ⟨fd_First_pick, F_First_pick⟩ := c.a.def_ 4 (d := d_First_pick) rfl
  have b_First : Binds K fd_First_pick ["self", "cells", "times"] [] := (F_First_pick.bindsN fun _ _ _ _ _ _ us hl => match us, hl with | [_, _, _], _ => rfl)
  have k_First : FnOk P w K mg base CX0 2 _ fd_First_pick ["self", "cells", "times"] (W_First_pick K (cs K)) := FnOk.mono (ok_First_pick F_First_pick T ) (by decide)
  obtain ⟨cc_Newest_pick, cda_Newest_pick, fd_Newest_pick, F_Newest_pick⟩ := c.defS hf ht 0 (d := d_Newest_pick) rfl
  have U_pick : SupCal P w K mg base (cs K).Newest (· = (cs K).Newest) "pick" 1 (W_First_pick K (cs K)) := by
    obtain ⟨s1, h⟩ := He.ba (xx_of c).su
    obtain ⟨s2, h⟩ := He.ba h
    obtain ⟨s3, h⟩ := He.ba h
    obtain ⟨s4, s5⟩ := He.ba h
    exact ⟨_, fd_First_pick, _, ok_First_pick F_First_pick T, b_First, s1, of_decide_eq_true s2, He.eqO_ok s3, fun C hC => by subst hC; exact ⟨He.eqO_ok s4, of_decide_eq_true s5⟩⟩
  have b_Newest : Binds K fd_Newest_pick ["self", "cells", "times"] [] := (F_Newest_pick.bindsN fun _ _ _ _ _ _ us hl => match us, hl with | [_, _, _], _ => rfl)
  have k_Newest : FnOk P w K mg base CX0 2 _ fd_Newest_pick ["self", "cells", "times"] (W_Newest_pick K (cs K)) := FnOk.mono (ok_Newest_pick F_Newest_pick T U_pick) (by decide)
  obtain ⟨fd_Rule_call, F_Rule_call⟩ := c.a.def_ 5 (d := d_Rule_call) rfl
  have D_pick : MCalD P w K mg base (pickR K (cs K)) "pick" 2 := ⟨fun C sp hR => by
    rcases hR with ⟨rfl, rfl⟩ | ⟨rfl, rfl⟩ | ⟨rfl, rfl⟩ | ⟨rfl, rfl⟩ | ⟨rfl, rfl⟩
    · exact ⟨tinAt c 0 (by decide), _, _, _, k_Add, He.meth_ok (factsM c (in_c 0)), b_Add⟩
    · exact ⟨tinAt c 1 (by decide), _, _, _, k_Most, He.meth_ok (factsM c (in_c 1)), b_Most⟩
    · exact ⟨tinAt c 2 (by decide), _, _, _, k_Least, He.meth_ok (factsM c (in_c 2)), b_Least⟩
    · exact ⟨tinAt c 3 (by decide), _, _, _, k_First, He.meth_ok (factsM c (in_c 3)), b_First⟩
    · exact ⟨tinAt c 4 (by decide), _, _, _, k_Newest, He.meth_ok (factsM c (in_c 4)), b_Newest⟩⟩
  have C_Rule : CallD P w K mg base (Rl (cs K)) 3 (W_Rule_call K (cs K)) := ⟨_, fd_Rule_call, _, (ok_Rule_call F_Rule_call T D_pick), (F_Rule_call.bindsN fun _ _ _ _ _ _ us hl => match us, hl with | [_, _, _], _ => rfl), callO_at c⟩
  obtain ⟨fd_Rule_eq, F_Rule_eq⟩ := c.a.def_ 6 (d := d_Rule_eq) rfl
  have Q_eq : EqCal P w K mg base (cs K).Rule_eq 1 (W_Rule_eq K (cs K)) := ⟨fd_Rule_eq, _, (ok_Rule_eq F_Rule_eq T ), (xx_of c).fe, (F_Rule_eq.bindsN fun _ _ _ _ _ _ us hl => match us, hl with | [_, _], _ => rfl)⟩
  obtain ⟨fd_bag, F_bag⟩ := c.a.def_ 7 (d := d_bag) rfl
  have G_bag : Cal P w K mg base "_law_bag" 1 (W_bag K (cs K)) := ⟨_, fd_bag, _, (ok_bag F_bag T ), glo_at X G c (in_l 0), F_bag.kp, (F_bag.bindsN fun _ _ _ _ _ _ us hl => match us, hl with | [_, _], _ => rfl)⟩
  obtain ⟨fd_take, F_take⟩ := c.a.def_ 8 (d := d_take) rfl
  have G_take : Cal P w K mg base "_law_take" 1 (W_take K (cs K)) := ⟨_, fd_take, _, (ok_take F_take T ), glo_at X G c (in_l 1), F_take.kp, (F_take.bindsN fun _ _ _ _ _ _ us hl => match us, hl with | [_, _], _ => rfl)⟩
  obtain ⟨fd_of, F_of⟩ := c.a.def_ 9 (d := d_of) rfl
  have G_of : Cal P w K mg base "_law_of" 2 (W_of K (cs K)) := ⟨_, fd_of, _, (ok_of F_of T G_take), glo_at X G c (in_l 2), F_of.kp, (F_of.bindsN fun _ _ _ _ _ _ us hl => match us, hl with | [_, _], _ => rfl)⟩
  obtain ⟨fd_number, F_number⟩ := c.a.def_ 10 (d := d_number) rfl
  have G_number : Cal P w K mg base "_law_number" 2 (W_number K (cs K)) := ⟨_, fd_number, _, (ok_number F_number T G_take), glo_at X G c (in_l 3), F_number.kp, (F_number.bindsN fun _ _ _ _ _ _ us hl => match us, hl with | [_], _ => rfl)⟩
  obtain ⟨fd_numbers, F_numbers⟩ := c.a.def_ 11 (d := d_numbers) rfl
  have G_numbers : Cal P w K mg base "_law_numbers" 3 (W_numbers K (cs K)) := ⟨_, fd_numbers, _, (ok_numbers F_numbers T G_number), glo_at X G c (in_l 4), F_numbers.kp, (F_numbers.bindsN fun _ _ _ _ _ _ us hl => match us, hl with | [_, _], _ => rfl)⟩
  obtain ⟨fd_newest, F_newest⟩ := c.a.def_ 12 (d := d_newest) rfl
  have G_newest : Cal P w K mg base "_law_newest" 1 (W_newest K (cs K)) := ⟨_, fd_newest, _, (ok_newest F_newest T ), glo_at X G c (in_l 5), F_newest.kp, (F_newest.bindsN fun _ _ _ _ _ _ us hl => match us, hl with | [_, _], _ => rfl)⟩
  obtain ⟨fd_due, F_due⟩ := c.a.def_ 13 (d := d_due) rfl
  have G_due : Cal P w K mg base "_law_due" 2 (W_due K (cs K)) := ⟨_, fd_due, _, (ok_due F_due T G_newest), glo_at X G c (in_l 6), F_due.kp, (F_due.bindsN fun _ _ _ _ _ _ us hl => match us, hl with | [_, _, _], _ => rfl)⟩
  exact FnG.ofOk (ok_law F_law T G_bag G_take G_number G_numbers G_of G_rule_named G_due N_Add N_Most N_Least N_First N_Newest C_Rule Q_eq)
end M

namespace M
open PySem PySem.Spec PyProof.Rows L2
abbrev RR : PySem.W.OpenRow := PySem.W.OpenLaw.row PySem.Challenge.rw_intoone_k01_rules_join
abbrev hkM : PySem.W.Hook := hookS 6 faAll fnL tbL exA fsL pfile
def obM (s : PySem.W.SharedT) : AlS := obsSG 6 faAll fnL tbL exA fsL pfile (HandSHeadRun.getT s)
theorem obM_eq (s : PySem.W.SharedT) : obM s = hkM.obs s.abs := obsSG_eq (HandSHeadRun.getT_eq s)
def loose1 : List Str := ["Rule", "Add", "Most", "Least", "First", "Newest", "rule_named", "_law_bag", "_law_take", "_law_of", "_law_number", "_law_numbers", "_law_newest", "_law_due"]
def loose : List Str := loose1
open PySem.W HandSHeadRun in
theorem tLookF (w : World) (os : OsState) : (endF (stepQ (denQ tabQ) RR.prog (w.withFollow "special-get-raises" false)) 6000 RR.prog (w.withFollow "special-get-raises" false) os).map (fun s => looksF RR.prog (boot_heap ((w.withFollow "special-get-raises" false)).params) s.abs) = some true := by kernel_rfl
open PySem.W HandSHeadRun in
theorem tLookT (w : World) (os : OsState) : (endF (stepQ (denQ tabQ) RR.prog (w.withFollow "special-get-raises" true)) 6000 RR.prog (w.withFollow "special-get-raises" true) os).map (fun s => looksF RR.prog (boot_heap ((w.withFollow "special-get-raises" true)).params) s.abs) = some true := by kernel_rfl
open PySem.W HandSHeadRun in
theorem tLook (w : World) (os : OsState) : (endF (stepQ (denQ tabQ) RR.prog w) 6000 RR.prog w os).map (fun s => looksF RR.prog (boot_heap (w).params) s.abs) = some true := PySem.W.byRow2 "special-get-raises" (P := fun w => (endF (stepQ (denQ tabQ) RR.prog w) 6000 RR.prog w os).map (fun s => looksF RR.prog (boot_heap (w).params) s.abs) = some true) (fun w => tLookF w os) (fun w => tLookT w os) w
open PySem.W HandSHeadRun in
theorem tSeenF (w : World) (os : OsState) : (endF (stepQ (denQ tabQ) RR.prog (w.withFollow "special-get-raises" false)) 6000 RR.prog (w.withFollow "special-get-raises" false) os).map (fun s => seenQ (PySem.W.view RR.prog [16]) loose (importedModules RR.prog.main.body) (fun s => xlAt (PySem.W.view RR.prog [16]) [] s && recOk RR.toRowW.records s) s.abs) = some (openGood (PySem.W.view RR.prog [16]) loose) := by kernel_rfl
open PySem.W HandSHeadRun in
theorem tSeenT (w : World) (os : OsState) : (endF (stepQ (denQ tabQ) RR.prog (w.withFollow "special-get-raises" true)) 6000 RR.prog (w.withFollow "special-get-raises" true) os).map (fun s => seenQ (PySem.W.view RR.prog [16]) loose (importedModules RR.prog.main.body) (fun s => xlAt (PySem.W.view RR.prog [16]) [] s && recOk RR.toRowW.records s) s.abs) = some (openGood (PySem.W.view RR.prog [16]) loose) := by kernel_rfl
open PySem.W HandSHeadRun in
theorem tSeen (w : World) (os : OsState) : (endF (stepQ (denQ tabQ) RR.prog w) 6000 RR.prog w os).map (fun s => seenQ (PySem.W.view RR.prog [16]) loose (importedModules RR.prog.main.body) (fun s => xlAt (PySem.W.view RR.prog [16]) [] s && recOk RR.toRowW.records s) s.abs) = some (openGood (PySem.W.view RR.prog [16]) loose) := PySem.W.byRow2 "special-get-raises" (P := fun w => (endF (stepQ (denQ tabQ) RR.prog w) 6000 RR.prog w os).map (fun s => seenQ (PySem.W.view RR.prog [16]) loose (importedModules RR.prog.main.body) (fun s => xlAt (PySem.W.view RR.prog [16]) [] s && recOk RR.toRowW.records s) s.abs) = some (openGood (PySem.W.view RR.prog [16]) loose)) (fun w => tSeenF w os) (fun w => tSeenT w os) w
open PySem.W HandSHeadRun in
theorem tObF (w : World) (os : OsState) : (endF (stepQ (denQ tabQ) RR.prog (w.withFollow "special-get-raises" false)) 6000 RR.prog (w.withFollow "special-get-raises" false) os).map (fun s => obM s) = some (hkM.val (w.withFollow "special-get-raises" false)) := by kernel_rfl
open PySem.W HandSHeadRun in
theorem tObT (w : World) (os : OsState) : (endF (stepQ (denQ tabQ) RR.prog (w.withFollow "special-get-raises" true)) 6000 RR.prog (w.withFollow "special-get-raises" true) os).map (fun s => obM s) = some (hkM.val (w.withFollow "special-get-raises" true)) := by kernel_rfl
open PySem.W HandSHeadRun in
theorem tOb (w : World) (os : OsState) : (endF (stepQ (denQ tabQ) RR.prog w) 6000 RR.prog w os).map (fun s => obM s) = some (hkM.val w) := PySem.W.byRow2 "special-get-raises" (P := fun w => (endF (stepQ (denQ tabQ) RR.prog w) 6000 RR.prog w os).map (fun s => obM s) = some (hkM.val w)) (fun w => tObF w os) (fun w => tObT w os) w
theorem map3 {α β γ δ : Type} {o : Option α} {f : α → β} {g : α → γ} {k : α → δ} {x : β} {y : γ} {z : δ} (h1 : o.map f = some x) (h2 : o.map g = some y) (h3 : o.map k = some z) : o.map (fun s => (f s, g s, k s)) = some (x, y, z) := by
  cases o with
  | none => cases h1
  | some s =>
    have e1 : f s = x := Option.some.inj h1
    have e2 : g s = y := Option.some.inj h2
    have e3 : k s = z := Option.some.inj h3
    show some (f s, g s, k s) = some (x, y, z)
    rw [e1, e2, e3]
theorem run (w : World) : HandSHeadRun.RunEq RR (PySem.W.view RR.prog [16]) hkM obM 6000 loose w := fun os => map3 (tLook w os) (tSeen w os) (tOb w os)
end M
open PySem PySem.W PySem.Calls PyProof.Rows
theorem PySem.Challenge.cw_intoone_k01_rules_join_holds : PySem.Challenge.rw_intoone_k01_rules_join.Holds := by
  w_on; o_law
  refine HandSHeadRun.head_any (r := M.RR) (q := view M.RR.prog [16]) (H := M.hkM) (ob := M.obM) (M := 6000) (loose := M.loose) (d := HandSHeadRun.topDef M.RR.prog 16) (kwd := []) M.obM_eq
    (by kernel_rfl) (fun s => by kernel_rfl) M.run (by kernel_rfl) (by kernel_rfl) (by kernel_rfl) (by rfl) (by first | assumption | decide +kernel) (by decide +kernel) ⟨rfl, rfl, rfl, rfl, rfl, by decide +kernel⟩ ?hw ?hc
  case hw => w_witness2
  case hc =>
    refine M.walk_go (l := PySem.Challenge.rw_intoone_k01_rules_join) (n := 63) (k := 4) (x := "_law_script") rfl (by decide) (by kernel_rfl) ⟨rfl, by decide, by decide⟩ ?F
    intro w mg fa h Y G hmg0
    obtain ⟨K, KX, c⟩ := Y
    have hmg : mg ("law" : PySem.Str) = some (.ref fa) := by
      have e : (HandSHeadRun.topDef M.RR.prog 16).name = ("law" : PySem.Str) := by kernel_rfl
      rw [← e]
      exact hmg0
    have ea := hmg.symm.trans (M.glo_at KX G c (M.in_l 7))
    cases ea
    obtain ⟨fd, hb, hF⟩ := M.joined (P := (PySem.Challenge.rw_intoone_k01_rules_join).prog) (by kernel_rfl) (by kernel_rfl) KX G c
    exact ⟨K, fd, M.W_law K (M.cs K), KX, hb, fun H a ns hl hS => M.law_pure (M.kr_of c) (L2.Same.refl H) hS hl fun _ => rfl, fun base _ _ => hF base⟩

