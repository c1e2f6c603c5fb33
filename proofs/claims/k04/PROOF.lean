import PyProof.Rows.All
import Wide.All
import OpenK.AllK
import Wide.FinOn
import HandS.ForMost
import HandS.IsInst
import HandS.Style
import HandS.StrMore
import HandS.RaiseMore
import HandS.Conv
import HandS.Flow
import HandS.Codes
import KE.KExcSuper
import HandS.ForExc
import HandS.TryMany
import HandS.Lambda
import HandS.CallLocal
import HandS.More
import HandS.EndTab
import HandS.OwnEq
import HandS.FStr
import HandS.ClsMeth
import HandS.DeepEq
import HandS.WordsExc
import HandS.CallSlots
import KE.KCallOwn
import HandS.ReplaceLit
import HandS.ReplaceList
import HandS.Property
import HandS.NamedTupSort
import PyProof.Rows.SetFrom
import HandS.DictComp
import HandS.Set
import PyProof.Rows.SortShellAny
import HandS.Star
import HandS.NoneIn
import HandS.ListItems
import HandS.Finally
import KE.KDictCopyH
import HandS.TupSets
import HandS.TupLe
import KE.KIsAll
import HandS.ExcIs
import HandS.ExcValue
import KE.KExcIs
import PyProof.ExcBaseAll.ValueError
import PySem.Challenge.RW_chaincompass_k04_errors_by_class
import KE.OsRunLaw
set_option Elab.async false
set_option linter.all false
set_option maxRecDepth 100000
set_option maxHeartbeats 4000000
namespace G
open PySem PySem.Spec PyProof.Rows L2
section
variable {X : Cx}
def rStrMul : R2 := fun x y H Q => ∃ z n, x = .str z ∧ y = .int n ∧ 0 ≤ n ∧ n ≤ 100000 ∧ z.length * n.toNat ≤ 1000000 ∧ Q (.str (Txt.mul z n)) H
def rAddU : R2 := fun x y H Q => rI0 (fun i j => .int (i + j)) x y H Q ∨ (∃ i j, x = .str i ∧ y = .str j ∧ i.length + j.length ≤ sizeLine ∧ Q (.str (i ++ j)) H) ∨ rCat x y H Q
theorem op_addU : OpR X (binaryOp .Add) rAddU := op_add.or (op_add_str.or op_cat)
def rFdivU : R2 := rI CDivN fun i j => .int (i.fdiv j)
theorem op_fdivU : OpR X (binaryOp .FloorDiv) rFdivU := op_fdivN
def rModU : R2 := rI (fun _ j => j ≠ 0) fun i j => .int (i.fmod j)
theorem op_modU : OpR X (binaryOp .Mod) rModU := op_modN
def rPowU : R2 := rI CPow fun i j => .int (i ^ j.toNat)
theorem op_powU : OpR X (binaryOp .Pow) rPowU := op_pow
def rEqU (K : PySem.W.Frag) : R2 := fun x y H Q => rEq x y H Q ∨ rEqD K x y H Q
theorem op_eqU {K : PySem.W.Frag} (hK : X.K = K) (hu : X.A.units + 64 < cLine) : OpR X (compareOp .Eq) (rEqU K) := hK ▸ op_eq.or (op_eqD hu)
def rNeU (K : PySem.W.Frag) : R2 := fun x y H Q => rNe x y H Q ∨ rNeD K x y H Q
theorem op_neU {K : PySem.W.Frag} (hK : X.K = K) (hu : X.A.units + 64 < cLine) : OpR X (compareOp .NotEq) (rNeU K) := hK ▸ op_ne.or (op_neD hu)
def rLtU : R2 := fun x y H Q => rI0 (fun i j => .bl (decide (i < j))) x y H Q ∨ ∃ i j, x = .str i ∧ y = .str j ∧ Q (.bl (decide (i.cps.toList < j.cps.toList))) H
theorem op_ltU : OpR X (compareOp .Lt) rLtU := op_lt.or op_lt_str
def rLeU : R2 := fun x y H Q => rI0 (fun i j => .bl (decide (i ≤ j))) x y H Q ∨ ∃ i j, x = .str i ∧ y = .str j ∧ Q (.bl (!decide (j.cps.toList < i.cps.toList))) H
def rGtU : R2 := fun x y H Q => rI0 (fun i j => .bl (decide (j < i))) x y H Q ∨ ∃ i j, x = .str i ∧ y = .str j ∧ Q (.bl (decide (j.cps.toList < i.cps.toList))) H
theorem op_gtU : OpR X (compareOp .Gt) rGtU := op_gt.or op_gt_str
def rGeU : R2 := fun x y H Q => rI0 (fun i j => .bl (decide (j ≤ i))) x y H Q ∨ ∃ i j, x = .str i ∧ y = .str j ∧ Q (.bl (!decide (i.cps.toList < j.cps.toList))) H
def rInU (K : PySem.W.Frag) : R2 := fun x y H Q => rIn K false x y H Q ∨ ∃ (c : Nat) (z : Str), x = .str ⟨#[c]⟩ ∧ y = .str z ∧ Q (.bl (decide (c ∈ z.cps.toList))) H
def rNotInU (K : PySem.W.Frag) : R2 := fun x y H Q => rIn K true x y H Q ∨ ∃ (c : Nat) (z : Str), x = .str ⟨#[c]⟩ ∧ y = .str z ∧ Q (.bl (!decide (c ∈ z.cps.toList))) H
def rIsU : R2 := fun x y H Q => (y = .non ∧ Q (.bl (decide (x = .non))) H) ∨ rIsB x y H Q
def rIsNotU : R2 := fun x y H Q => (y = .non ∧ Q (.bl (!decide (x = .non))) H) ∨ rNotB x y H Q
def rSlU (K : PySem.W.Frag) : V → Option Int → Option Int → Hp → VK → Prop := fun x lo hi H Q => rSlL K x lo hi H Q ∨ rSlS x lo hi H Q ∨ rSlT K x lo hi H Q
theorem ix_U {K : PySem.W.Frag} (hK : X.K = K) : IxR X (rIx K) := hK ▸ ix_seq
def rLenU (K : PySem.W.Frag) : List V → Hp → VK → Prop := fun xs H Q => (∃ x n, xs = [x] ∧ LenV K x H n ∧ Q (.int n) H) ∨ ∃ a kvs, xs = [V.ref a] ∧ Rd H a (.dK kvs) ∧ Q (.int kvs.length) H
theorem call_lenRd : CallR X (.builtin "len") (fun xs H Q => ∃ a kvs, xs = [V.ref a] ∧ Rd H a (.dK kvs) ∧ Q (.int kvs.length) H) := by
  intro pins s σ H xs us Q I r h
  obtain ⟨a, kvs, rfl, ha, q⟩ := h
  obtain ⟨u, rfl, ru⟩ := vals1 r
  cases ru
  exact d_len I ha fun t s' I' => ⟨.int kvs.length, H, I', ⟨t, rfl⟩, q⟩
theorem call_lenU {K : PySem.W.Frag} (hK : X.K = K) : CallR X (.builtin "len") (rLenU K) := hK ▸ call_len.or call_lenRd
def rMaxU (K : PySem.W.Frag) : List V → Hp → VK → Prop := fun xs H Q => (∃ i j, xs = [.int i, .int j] ∧ Q (.int (if j > i then j else i)) H) ∨ rMax K xs H Q
theorem call_maxU {K : PySem.W.Frag} (hK : X.K = K) (hc : X.calm = true) : CallR X (.builtin "max") (rMaxU K) := hK ▸ (call_max2 hc).or (cr_max hc)
def rMinU (K : PySem.W.Frag) : List V → Hp → VK → Prop := fun xs H Q => (∃ i j, xs = [.int i, .int j] ∧ Q (.int (if j < i then j else i)) H) ∨ rMin K xs H Q
theorem call_minU {K : PySem.W.Frag} (hK : X.K = K) (hc : X.calm = true) : CallR X (.builtin "min") (rMinU K) := hK ▸ (call_min2 hc).or (cr_min hc)
def rInt1 : List V → Hp → VK → Prop := fun xs H Q => (∃ i, xs = [.int i] ∧ Q (.int i) H) ∨ ∃ k, xs = [.bl k] ∧ Q (.int (if k then 1 else 0)) H
theorem call_intU : CallR X (.type "int") rInt1 := call_int1
def rM0 (g : Str → V) : V → List V → Hp → VK → Prop := fun x xs H Q => ∃ a, x = .str a ∧ xs = [] ∧ True ∧ Q (g a) H
def rReprB : List V → Hp → VK → Prop := fun xs H Q => ∃ b : Bool, xs = [.bl b] ∧ Q (.str (if b then "True" else "False")) H
theorem call_reprB : CallR X (.builtin "repr") rReprB := by
  intro pins s σ H xs us Q I r h
  obtain ⟨b, rfl, q⟩ := h
  obtain ⟨u, rfl, ru⟩ := vals1 r
  cases (show u = Value.bool b from ru)
  exact PySem.P.repr_of_bool ⟨.str _, H, I.tok _, ⟨_, rfl⟩, q⟩
def rReprU : List V → Hp → VK → Prop := fun xs H Q => rReprB xs H Q ∨ ∃ i, xs = [.int i] ∧ i.natAbs.log2 < 1920 ∧ Q (.str (toString i)) H
theorem call_reprU : CallR X (.builtin "repr") rReprU := call_reprB.or SkE.call_repr_int
theorem op_mul_str : OpR X (binaryOp .Mult) rStrMul := by
  intro pins s σ H x y v u Q I rx ry h
  obtain ⟨z, n, rfl, rfl, h0, h1, h2, q⟩ := h
  obtain ⟨t, rfl⟩ := rx
  obtain ⟨t', rfl⟩ := ry
  refine PySem.SB.mul ⟨?_, fun h3 h4 => ?_, fun h3 h4 => ?_⟩ fun t'' k => ⟨.str _, H, I.tok _, ⟨_, rfl⟩, q⟩
  · rw [Bool.or_eq_false_iff]
    exact ⟨decide_eq_false (by omega), decide_eq_false (by omega)⟩
  · have hn : 1 ≤ n.toNat := by omega
    have h5 : z.length * 1 ≤ z.length * n.toNat := Nat.mul_le_mul_left _ hn
    have h6 : (100000000 : Int) ≤ (2 ^ 63 - 1) / n := by
      rw [Int.le_ediv_iff_mul_le (by omega)]
      omega
    omega
  · unfold Builtin.Str.tooLong
    exact decide_eq_false (by rw [sizeLine_eq]; omega)
def rMulU : R2 := fun x y H Q => rI CMul (fun i j => .int (i * j)) x y H Q ∨ rRep x y H Q ∨ rStrMul x y H Q
theorem op_mulU : OpR X (binaryOp .Mult) rMulU := op_mul.or (op_rep.or op_mul_str)
end
section
variable {X : Cx} {K : PySem.W.Frag}
theorem pe_bmU (hK : X.K = K) {T id : String} {name : Str} {r : V → List V → Hp → VK → Prop} {o e : Expr} {es : List Expr} {to : TE} {t : TA} {apos cpos : Pos} (pa : PlainAttrs T) (slot : Slot T name id) (hty : typeOf (.builtin id) = pure (.type "method_descriptor")) (hm : MtR X id r) (ho : PE X o to) (ha : PA X (e :: es) t)
    (hbase : attributeBase o name X.env (eval o X.env) = eval o X.env := by rfl)
    (hfew : ((backTo cpos (starEach (e :: es) X.env)).all (fun x => !x.1) && (backToKw cpos (keywordEach [] X.env)).all (fun x => x.1.isSome)
      && decide ((e :: es).length + ([] : List Keyword).length + (if ([] : List Keyword).isEmpty then 0 else 1) < 30)) = true := by rfl)
    (hline : (apos.endLine == cpos.line) = true := by rfl) (hs : starEach (e :: es) X.env = (false, eval e X.env) :: starEach es X.env := by rfl) (hplain : (backTo cpos (starEach es X.env)).any (·.1) = false := by rfl) :
    PE X (.Call (.Attribute o name apos) (e :: es) [] cpos) (tBM K T r to t) := hK ▸ pe_bm pa slot hty hm ho ha hbase hfew hline hs hplain
def rJoin (K : PySem.W.Frag) : V → List V → Hp → VK → Prop := fun x xs H Q => ∃ a p, ∃ ys : List Str, x = .str a ∧ xs = [.ref p] ∧ (SqL K H p (ys.map V.str) ∨ SqT K H p (ys.map V.str)) ∧
      (ys.map (·.length)).sum + ys.length * a.length ≤ 16777216 ∧ Q (.str (Txt.join a ys)) H
def rSplit : V → List V → Hp → VK → Prop := fun x xs H Q => ∃ a b, x = .str a ∧ xs = [.str b] ∧ (b.length == 0) = false ∧ a.length + 2 ≤ sizeLine ∧ rNewStrs (Txt.split a b) H Q
theorem pg_tupU (hK : X.K = K) {es : List Expr} {k : Nat} {t : TGs} {n : Nat} {pos : Pos} (hc : X.calm = true) (h : PGs X es t)
    (hn : (assignEach es X.env).length = n := by rfl) (hst : (assignEach es X.env).findIdx? (·.1) = none := by rfl) : PG X (.Tuple es k pos) (gTup K n t) := hK ▸ pg_tup hc h hn hst
theorem pi_enumU (hK : X.K = K) {elts : List Expr} {kk : Nat} {tpos p pos : Pos} {e : Expr} {ta : TA} (hg : Gl X "enumerate") (hm : X.mg "enumerate" = none) (ha : PA X [e] ta) (hs : starEach [e] X.env = [(false, eval e X.env)] := by rfl) : PI X (.Tuple elts kk tpos) (.Call (.Name "enumerate" p) [e] [] pos) (iEnum K ta) := hK ▸ pi_enum hg hm ha hs
end
def isBl (x : V) (H : Hp) (R : Bool → Hp → Prop) : Prop := ∃ k, x = .bl k ∧ R k H
def isTwo (vs : List V) (H : Hp) (R : V → V → Hp → Prop) : Prop := ∃ v w, vs = [v, w] ∧ R v w H
def newL (xs : List V) (H : Hp) (Q : VK) : Prop := xs.length ≤ sizeLine ∧ ∀ p, H p = none → Q (.ref p) (upd H p (.lst xs))
def newT (xs : List V) (H : Hp) (Q : VK) : Prop := xs.length ≤ sizeLine ∧ ∀ p, H p = none → Q (.ref p) (upd H p (.tup xs))
def strT (x : V) (H : Hp) (P : Hp → Prop) : Prop := (∃ a, x = .str a) ∧ P H
def mkR (C : Addr) (sp : Sp) (dvs : List V) (E : XK) (vs : List V) (H : Hp) (Q : VK) : Prop := ∀ x dx, H x = none → H dx = none → dx ≠ x → sp (.ref x :: (vs ++ dvs)) (upd (upd H dx (.own x)) x (.ins C dx [])) (fun v H2 => v = .non ∧ Q (.ref x) H2) E
def putR (K : PySem.W.Frag) (f : Str) (x y : V) (H : Hp) (N : Hp → Prop) : Prop := ∃ a C dx fs, x = .ref a ∧ H a = some (.ins C dx fs) ∧ Cls K C ∧ NoAttr K C f ∧ fs.length < 1000 ∧ N (upd H a (.ins C dx (putF f y fs)))
def getR (K : PySem.W.Frag) (f : Str) (x : V) (H : Hp) (Q : VK) : Prop := ∃ a C dx fs v, x = .ref a ∧ H a = some (.ins C dx fs) ∧ Cls K C ∧ NoAttr K C f ∧ fs.lookup f = some v ∧ Q v H
def isI (x : V) (H : Hp) (R : Int → Hp → Prop) : Prop := ∃ i, x = .int i ∧ R i H
def dispR (p : Addr) (ps : List (V × V)) (H : Hp) (Q : VK) : Prop := H p = some (.dK []) ∧ ∃ kvs : List (Key × V), ps = kvs.map (fun kv => (kV kv.1, kv.2)) ∧ kvs.length ≤ 15 ∧ Q (.ref p) (upd H p (.dK (mergeK [] kvs)))
def mtT (K : PySem.W.Frag) (T : String) (x : V) (H : Hp) (P : Hp → Prop) : Prop := tyV K T x H ∧ P H
section
variable {K : PySem.W.Frag} {σ : L2.St} {H : Hp} {Q : VK} {R : Bool → Hp → Prop} {i : Nat} {v x y : V} {ta tb tc te : TE} {t u : TT} {r r' : R2} {D : Ends} {st su : TS} {g : TG} {tA : TA} {QA : List V → Hp → Prop} {QS : L2.St → Hp → Prop}
theorem w_var (h : σ[i]? = some (some v)) (q : Q v H) : tVar i σ H Q := ⟨v, h, q⟩
theorem w_c (q : Q v H) : tC v σ H Q := q
theorem w_op (q : ta σ H fun x H1 => tb σ H1 fun y H2 => r x y H2 Q) : tOp r ta tb σ H Q := q
theorem w_un {r : V → Hp → VK → Prop} (q : ta σ H fun x H1 => r x H1 Q) : tUn r ta σ H Q := q
theorem w_test (q : ta σ H fun x H' => isBl x H' R) : tTest ta σ H R := q
theorem w_B (q : ta σ H fun x H' => isBl x H' R) : tB ta σ H R := q
theorem w_bl {b : Bool} (q : R b H) : isBl (.bl b) H R := ⟨b, rfl, q⟩
theorem w_and (q : t σ H fun c H1 => if c = true then u σ H1 R else R false H1) : tAnd t u σ H R := q
theorem w_or (q : t σ H fun c H1 => if c = true then R true H1 else u σ H1 R) : tOr t u σ H R := q
theorem w_not (q : t σ H fun c H1 => R (!c) H1) : tNot t σ H R := q
theorem w_andV (q : ta σ H fun x H1 => isBl x H1 fun c H1 => if c = true then tb σ H1 Q else Q (.bl false) H1) : tAndV ta tb σ H Q := q
theorem w_orV (q : ta σ H fun x H1 => isBl x H1 fun c H1 => if c = true then Q (.bl true) H1 else tb σ H1 Q) : tOrV ta tb σ H Q := q
theorem w_notV (q : ta σ H fun x H1 => isBl x H1 fun c H1 => Q (.bl (!c)) H1) : tNotV ta σ H Q := q
theorem w_if (q : t σ H fun c H1 => if c = true then ta σ H1 Q else tb σ H1 Q) : tIf t ta tb σ H Q := q
theorem w_chain (q : ta σ H fun x H1 => tb σ H1 fun y H2 => r x y H2 fun z H3 => isBl z H3 fun k H3 => if k = true then tc σ H3 fun w' H4 => r' y w' H4 Q else Q (.bl false) H3) : tChain r r' ta tb tc σ H Q := q
theorem w_nil (q : QA [] H) : tNil σ H QA := q
theorem w_cons (q : te σ H fun x H1 => tA σ H1 fun xs H2 => QA (x :: xs) H2) : tCons te tA σ H QA := q
theorem w_CB {rc : List V → Hp → VK → Prop} (q : tA σ H fun vs H1 => rc vs H1 Q) : tCB rc tA σ H Q := q
theorem w_call {sp : Sp} {dvs : List V} {E : XK} (q : tA σ H fun vs H1 => sp (vs ++ dvs) H1 Q E) : tCall sp dvs E tA σ H Q := q
theorem w_lst (q : tA σ H fun xs H1 => newL xs H1 Q) : tLst tA σ H Q := q
theorem w_tup (q : tA σ H fun xs H1 => newT xs H1 Q) : tTup tA σ H Q := q
theorem w_seq (q : st { D with nx := su D } σ H) : tSeq st su D σ H := q
theorem w_asg (q : te σ H fun x H1 => g x σ H1 D.nx) : tAsg te g D σ H := q
theorem w_gname (q : QS (σ.set i (some v)) H) : gName i v σ H QS := q
theorem w_gsub {ts : TSet} (q : ta σ H fun o H1 => tb σ H1 fun i H2 => ts o i v H2 fun H3 => QS σ H3) : gSub ta tb ts v σ H QS := q
theorem w_ifS (q : t σ H fun b H1 => if b = true then st D σ H1 else su D σ H1) : tIfS t st su D σ H := q
theorem w_ret (q : te σ H D.rt) : tRet te D σ H := q
theorem w_retN (q : D.rt .non H) : tRetN D σ H := q
theorem w_drop (q : te σ H fun _ H1 => D.nx σ H1) : tDrop te D σ H := q
theorem w_next (q : D.nx σ H) : tNext D σ H := q
theorem w_par {j : Nat} (q : tA σ H fun vs H1 => isTwo vs H1 fun v w H1 => D.nx ((σ.set i (some v)).set j (some w)) H1) : tPar i j tA D σ H := q
theorem w_two {P : V → V → Hp → Prop} (q : P x y H) : isTwo [x, y] H P := ⟨x, y, rfl, q⟩
theorem w_sl {rs : V → Option Int → Option Int → Hp → VK → Prop} {tl th : TO} (q : te σ H fun x H1 => tl σ H1 fun l H2 => th σ H2 fun u H3 => rs x l u H3 Q) : tSl rs te tl th σ H Q := q
theorem w_bm0 {T : String} {rm : V → List V → Hp → VK → Prop} (q : ta σ H fun x H1 => mtT K T x H1 fun H1 => rm x [] H1 Q) : tBM0 K T rm ta σ H Q := q
theorem w_bm {T : String} {rm : V → List V → Hp → VK → Prop} (q : ta σ H fun x H1 => mtT K T x H1 fun H1 => tA σ H1 fun xs H2 => rm x xs H2 Q) : tBM K T rm ta tA σ H Q := q
theorem w_m1 {rm : V → List V → Hp → VK → Prop} (q : ta σ H fun x H1 => strT x H1 fun H1 => te σ H1 fun y H2 => rm x [y] H2 Q) : tM1 rm ta te σ H Q := q
theorem m_strT {z : Str} {P : Hp → Prop} (q : P H) : strT (.str z) H P := ⟨⟨z, rfl⟩, q⟩
theorem m_str {z : Str} {P : Hp → Prop} (q : P H) : mtT K "str" (.str z) H P := ⟨rfl, q⟩
theorem m_lst {p : Addr} {xs : List V} {P : Hp → Prop} (h : SqL K H p xs) (q : P H) : mtT K "list" (.ref p) H P := ⟨.inl ⟨rfl, xs, h⟩, q⟩
theorem m_s0 {z : Str} {gs : Str → V} (q : Q (gs z) H) : rM0 gs (.str z) [] H Q := ⟨z, rfl, rfl, trivial, q⟩
theorem w_make {C : Addr} {sp : Sp} {dvs : List V} {E : XK} (q : tA σ H fun vs H1 => mkR C sp dvs E vs H1 Q) : tMake C sp dvs E tA σ H Q := q
theorem w_sfld {f : Str} (q : te σ H fun y H1 => ta σ H1 fun x H2 => putR K f x y H2 fun H3 => D.nx σ H3) : sFld K ta te f D σ H := q
theorem w_fld {f : Str} (q : ta σ H fun x H1 => getR K f x H1 Q) : tFld K ta f σ H Q := q
theorem w_noPart {QO : Option Int → Hp → Prop} (q : QO none H) : tNoPart σ H QO := q
theorem w_part {QO : Option Int → Hp → Prop} (q : te σ H fun x H1 => isI x H1 fun i H1 => QO (some i) H1) : tPart te σ H QO := q
theorem w_isI {j : Int} {RI : Int → Hp → Prop} (q : RI j H) : isI (.int j) H RI := ⟨j, rfl, q⟩
theorem w_disp {trs : List (TE × TE)} (q : ∀ p, H p = none → tPairs trs σ (upd H p (.dK [])) fun ps H2 => dispR p ps H2 Q) : tDisp trs σ H Q := q
theorem w_pair0 {QP : List (V × V) → Hp → Prop} (q : QP [] H) : tPairs [] σ H QP := q
theorem w_pair1 {QP : List (V × V) → Hp → Prop} {trs : List (TE × TE)} (q : ta σ H fun x H1 => tb σ H1 fun y H2 => tPairs trs σ H2 fun ps H3 => QP ((x, y) :: ps) H3) : tPairs ((ta, tb) :: trs) σ H QP := q
theorem w_yes (q : R true H) : tYes σ H R := q
theorem a_addI {a b : Int} (q : Q (.int (a + b)) H) : rAddU (.int a) (.int b) H Q := .inl ⟨a, b, rfl, rfl, q⟩
theorem a_I0 {f : Int → Int → V} {a b : Int} (q : Q (f a b) H) : rI0 f (.int a) (.int b) H Q := ⟨a, b, rfl, rfl, q⟩
theorem a_mulI {a b : Int} (h : CMul a b) (q : Q (.int (a * b)) H) : rMulU (.int a) (.int b) H Q := .inl ⟨a, b, rfl, rfl, h, q⟩
theorem c_reprB {b : Bool} (q : Q (.str (if b then "True" else "False")) H) : rReprU [.bl b] H Q := .inl ⟨b, rfl, q⟩
theorem w_dnew (q : ∀ p, H p = none → Q (.ref p) (upd H p (.dK []))) : tDNewK σ H Q := q
theorem a_fdiv {a b : Int} (h : CDivN a b) (q : Q (.int (a.fdiv b)) H) : rFdivU (.int a) (.int b) H Q := ⟨a, b, rfl, rfl, h, q⟩
theorem a_mod {a b : Int} (h : b ≠ 0) (q : Q (.int (a.fmod b)) H) : rModU (.int a) (.int b) H Q := ⟨a, b, rfl, rfl, h, q⟩
theorem a_pow {a b : Int} (h : CPow a b) (q : Q (.int (a ^ b.toNat)) H) : rPowU (.int a) (.int b) H Q := ⟨a, b, rfl, rfl, h, q⟩
theorem a_neg {a : Int} (q : Q (.int (-a)) H) : rU (fun i => .int (-i)) (.int a) H Q := ⟨a, rfl, q⟩
theorem a_ltI {a b : Int} (q : Q (.bl (decide (a < b))) H) : rLtU (.int a) (.int b) H Q := .inl ⟨a, b, rfl, rfl, q⟩
theorem a_leI {a b : Int} (q : Q (.bl (decide (a ≤ b))) H) : rLeU (.int a) (.int b) H Q := .inl ⟨a, b, rfl, rfl, q⟩
theorem a_gtI {a b : Int} (q : Q (.bl (decide (b < a))) H) : rGtU (.int a) (.int b) H Q := .inl ⟨a, b, rfl, rfl, q⟩
theorem a_geI {a b : Int} (q : Q (.bl (decide (b ≤ a))) H) : rGeU (.int a) (.int b) H Q := .inl ⟨a, b, rfl, rfl, q⟩
theorem a_ltS {a b : Str} (q : Q (.bl (decide (a.cps.toList < b.cps.toList))) H) : rLtU (.str a) (.str b) H Q := .inr ⟨a, b, rfl, rfl, q⟩
theorem a_eqI {a b : Int} (q : Q (.bl (decide (a = b))) H) : rEqU K (.int a) (.int b) H Q := .inl ⟨rfl, by rw [show decide (V.int a = V.int b) = decide (a = b) from decide_eq_decide.mpr ⟨V.int.inj, congrArg _⟩]; exact q⟩
theorem a_eqS {a b : Str} (q : Q (.bl (decide (a = b))) H) : rEqU K (.str a) (.str b) H Q := .inl ⟨rfl, by rw [show decide (V.str a = V.str b) = decide (a = b) from decide_eq_decide.mpr ⟨V.str.inj, congrArg _⟩]; exact q⟩
theorem a_neS {a b : Str} (q : Q (.bl (!decide (a = b))) H) : rNeU K (.str a) (.str b) H Q := .inl ⟨rfl, by rw [show decide (V.str a = V.str b) = decide (a = b) from decide_eq_decide.mpr ⟨V.str.inj, congrArg _⟩]; exact q⟩
theorem a_neI {a b : Int} (q : Q (.bl (!decide (a = b))) H) : rNeU K (.int a) (.int b) H Q := .inl ⟨rfl, by rw [show decide (V.int a = V.int b) = decide (a = b) from decide_eq_decide.mpr ⟨V.int.inj, congrArg _⟩]; exact q⟩
theorem a_isnotB {a b : Bool} (q : Q (.bl (!decide (a = b))) H) : rIsNotU (.bl a) (.bl b) H Q := .inr ⟨a, b, rfl, rfl, q⟩
theorem a_isB {a b : Bool} (q : Q (.bl (decide (a = b))) H) : rIsU (.bl a) (.bl b) H Q := .inr ⟨a, b, rfl, rfl, q⟩
theorem a_isN (q : Q (.bl (decide (x = .non))) H) : rIsU x .non H Q := .inl ⟨rfl, q⟩
theorem a_isnotN (q : Q (.bl (!decide (x = .non))) H) : rIsNotU x .non H Q := .inl ⟨rfl, q⟩
theorem a_ixL {p : Addr} {xs : List V} {k : Int} (h : H p = some (.lst xs)) (ha : atI xs k = some v) (q : Q v H) : rIx K (.ref p) (.int k) H Q := .inl ⟨p, xs, k, v, rfl, rfl, .of h, ha, q⟩
theorem a_ixLK {p : Addr} {xs : List V} {k : Int} (h : SqL K H p xs) (ha : atI xs k = some v) (q : Q v H) : rIx K (.ref p) (.int k) H Q := .inl ⟨p, xs, k, v, rfl, rfl, h, ha, q⟩
theorem a_set {p : Addr} {xs : List V} {k : Int} {j : Nat} {QH : Hp → Prop} (h : H p = some (.lst xs)) (ha : ixN xs.length k = some j) (q : QH (upd H p (.lst (xs.set j v)))) : rSetL (.ref p) (.int k) v H QH := ⟨p, xs, k, j, rfl, rfl, h, ha, q⟩
theorem c_int {a : Int} (q : Q (.int a) H) : rInt1 [.int a] H Q := .inl ⟨a, rfl, q⟩
theorem c_intB {a : Bool} (q : Q (.int (if a then 1 else 0)) H) : rInt1 [.bl a] H Q := .inr ⟨a, rfl, q⟩
theorem c_lenL {p : Addr} {xs : List V} (h : SqL K H p xs) (q : Q (.int xs.length) H) : rLenU K [.ref p] H Q := .inl ⟨.ref p, xs.length, rfl, .inl ⟨xs, h, rfl⟩, q⟩
theorem c_max {a b : Int} (q : Q (.int (if b > a then b else a)) H) : rMaxU K [.int a, .int b] H Q := .inl ⟨a, b, rfl, q⟩
theorem c_min {a b : Int} (q : Q (.int (if b < a then b else a)) H) : rMinU K [.int a, .int b] H Q := .inl ⟨a, b, rfl, q⟩
end
theorem sz1000 {n : Nat} (h : n ≤ 1000) : n ≤ sizeLine := Nat.le_of_lt (small1000 h)
theorem newL_of {xs : List V} {H : Hp} {Q : VK} (h : Nat.ble xs.length 1000 = true) (q : ∀ p, H p = none → Q (.ref p) (upd H p (.lst xs))) : newL xs H Q := ⟨sz1000 (Nat.le_of_ble_eq_true h), q⟩
theorem iteNT {A B : Prop} (h : B) : if (!true) = true then A else B := iteF h
theorem iteNF {A B : Prop} (h : A) : if (!false) = true then A else B := iteT h
theorem iteD {p A B : Prop} [Decidable p] (h1 : p → A) (h2 : ¬ p → B) : if decide p = true then A else B := ite2 (fun h => h1 (of_decide_eq_true h)) fun h => h2 fun q => h (decide_eq_true q)
def Ex (G J : Hp) : Prop := ∀ a o, G a = some o → J a = some o
theorem Ex.refl (G : Hp) : Ex G G := fun _ _ => id
theorem Ex.trans {F G J : Hp} (a : Ex F G) (b : Ex G J) : Ex F J := fun x o => b x o ∘ a x o
theorem Ex.new {H : Hp} {p : Addr} {o : HO} (h : H p = none) : Ex H (upd H p o) := fun a u e => by rw [upd_ne (ne_of_none e h)]; exact e
theorem Ex.fresh {H H' : Hp} {p : Addr} (e : Ex H H') (h : H' p = none) : H p = none := by
  cases h1 : H p with
  | none => rfl
  | some o => rw [e p o h1] at h; cases h
theorem Ex.rd {H H' : Hp} {a : Addr} {u : HO} (e : Ex H H') (h : Rd H a u) : Rd H' a u := by
  rcases h with h | ⟨o, h⟩
  · exact Or.inl (e a _ h)
  · exact Or.inr ⟨o, e a _ h⟩
theorem Ex.l {K : PySem.W.Frag} {H H' : Hp} {a : Addr} {xs : List V} (e : Ex H H') (h : SqL K H a xs) : SqL K H' a xs := h.elim (fun h => .inl (e.rd h)) .inr
theorem Ex.t {K : PySem.W.Frag} {H H' : Hp} {a : Addr} {xs : List V} (e : Ex H H') (h : SqT K H a xs) : SqT K H' a xs := h.elim (fun h => .inl (e.rd h)) .inr
/-- all stands but what is at p -/
def ExB (p : Addr) (H H' : Hp) : Prop := ∀ a o, a ≠ p → H a = some o → H' a = some o
theorem ExB.refl {p : Addr} (H : Hp) : ExB p H H := fun _ _ _ h => h
theorem ExB.trans {p : Addr} {H H1 H2 : Hp} (a : ExB p H H1) (b : ExB p H1 H2) : ExB p H H2 := fun x o n h => b x o n (a x o n h)
theorem ExB.upd {p : Addr} {H H' : Hp} {o : HO} (e : ExB p H H') : ExB p H (upd H' p o) := fun a u n h => by rw [upd_ne n]; exact e a u n h
theorem ExB.new {p q : Addr} {H H' : Hp} {o : HO} (e : ExB p H H') (h : H' q = none) : ExB p H (L2.upd H' q o) := fun a u n ha => by rw [upd_ne (ne_of_none (e a u n ha) h)]; exact e a u n ha
theorem ExB.of {p : Addr} {H H' : Hp} (e : Ex H H') : ExB p H H' := fun a o _ h => e a o h
/-- what stands apart from p goes on -/
theorem Ex.box {p : Addr} {G H H' : Hp} (e : Ex G H) (b : ExB p H H') (n : G p = none) : Ex G H' := fun a o h => b a o (ne_of_none h n) (e a o h)
theorem ExB.at {p q : Addr} {H H' : Hp} {o : HO} (e : ExB p H H') (h : H q = some o) (n : q ≠ p) : H' q = some o := e q o n h
structure Walks (J : It) (xs : List V) (Gd : Hp → Prop) : Prop where
  go : ∀ i H x, Gd H → xs[i]? = some x → J.go i H
  yl : ∀ i H x H', Gd H → i < xs.length → J.yld i H x H' → H' = H ∧ xs[i]? = some x
  st : ∀ H, Gd H → J.stop xs.length H
theorem wk_list {K : PySem.W.Frag} {a : Addr} {xs : List V} : Walks (Itl K a) xs (fun H => SqL K H a xs) := ⟨fun i H x h e => ⟨xs, x, h, e⟩, fun i H x H' h _ y => ⟨y.1, y.2 xs h⟩, fun H h => ⟨xs, h, Nat.le_refl _⟩⟩
theorem wk_tup {K : PySem.W.Frag} {a : Addr} {xs : List V} : Walks (Itt K a) xs (fun H => SqT K H a xs) := ⟨fun i H x h e => ⟨xs, x, h, e⟩, fun i H x H' h _ y => ⟨y.1, y.2 xs h⟩, fun H h => ⟨xs, h, Nat.le_refl _⟩⟩
def signsV (z : Str) : List V := z.cps.toList.map fun c => .str ⟨#[c]⟩
theorem wk_str {z : Str} : Walks (Its z) (signsV z) (fun _ => True) := by
  refine ⟨fun i H x _ e => ?_, fun i H x H' _ hi y => ⟨y.1, ?_⟩, fun H _ => ?_⟩
  · have h := (List.getElem?_eq_some_iff.mp e).1
    unfold signsV at h
    rw [List.length_map, Array.length_toList] at h
    exact h
  · obtain ⟨c, hc, rfl⟩ := y.2
    unfold signsV
    rw [List.getElem?_map, Array.getElem?_toList, hc]
    rfl
  · show z.cps.size ≤ (signsV z).length
    unfold signsV
    rw [List.length_map, Array.length_toList]
    exact Nat.le_refl _
def rangeV (lo : Int) (n : Nat) : List V := (List.range n).map fun i => .int (lo + (i : Nat))
theorem wk_range {lo : Int} {n : Nat} : Walks (Itr lo n) (rangeV lo n) (fun _ => True) := by
  refine ⟨fun i H x _ e => ?_, fun i H x H' _ hi y => ⟨y.1, ?_⟩, fun H _ => ?_⟩
  · have h := (List.getElem?_eq_some_iff.mp e).1
    unfold rangeV at h
    rw [List.length_map, List.length_range] at h
    exact h
  · unfold rangeV at hi ⊢
    rw [List.length_map, List.length_range] at hi
    rw [List.getElem?_map, List.getElem?_range hi, y.2]
    rfl
  · show n ≤ (rangeV lo n).length
    unfold rangeV
    rw [List.length_map, List.length_range]
    exact Nat.le_refl _
def lcPut (D : Addr) (y : V) (H : Hp) (Nx : Hp → Prop) : Prop := ∃ acc, H D = some (.lst acc) ∧ acc.length < sizeLine ∧ Nx (upd H D (.lst (acc ++ [y])))
def lcT (D : Addr) (tt : TT) (te : TE) (Nx : Hp → Prop) (σ : L2.St) (H : Hp) : Prop := tt σ H fun b H3 => if b = true then te σ H3 fun y H4 => lcPut D y H4 Nx else Nx H3
def lcW (D : Addr) (tt : TT) (te : TE) (vs : List Nat) (σ0 : L2.St) (Nx : Hp → Prop) (σ : L2.St) (H : Hp) : Prop := wipe σ vs = wipe σ0 vs ∧ lcT D tt te Nx σ H
def lcR (J : It) (g : TG) (tt : TT) (te : TE) (vs : List Nat) (σ : L2.St) (H1 : Hp) (Q : VK) : Prop := ∀ D, H1 D = none → ∃ W : Nat → Nat → Hp → Prop, (∃ m, W 0 m (upd H1 D (.lst []))) ∧ ∀ i m H, W i m H →
  (J.stop i H ∧ Q (.ref D) H) ∨ (J.go i H ∧ ∃ Nx : Hp → Prop, (∀ H', Nx H' → ∃ m', m' < m ∧ W (i + 1) m' H') ∧ ∀ x H', J.yld i H x H' → g x (wipe σ vs) H' fun σ2 H2 => lcW D tt te vs σ Nx σ2 H2)
theorem w_lc {wi : TI} {g : TG} {tt : TT} {te : TE} {vs : List Nat} {σ : L2.St} {H : Hp} {Q : VK} (q : wi σ H fun J H1 => lcR J g tt te vs σ H1 Q) : tLc wi g tt te vs σ H Q := q
def forR (J : It) (g : TG) (tb : TS) (D : Ends) (σ : L2.St) (H1 : Hp) : Prop := ∃ W : Nat → Nat → L2.St → Hp → Prop, (∃ m, W 0 m σ H1) ∧ ∀ i m σ H, W i m σ H →
  (J.stop i H ∧ D.nx σ H) ∨ (J.go i H ∧ ∃ N : L2.St → Hp → Prop, (∀ σ' H', N σ' H' → ∃ m', m' < m ∧ W (i + 1) m' σ' H') ∧ ∀ x H', J.yld i H x H' → g x σ H' fun σ2 H2 => tb { D with nx := N, ct := N, bk := D.nx } σ2 H2)
theorem w_for {wi : TI} {g : TG} {tb : TS} {D : Ends} {σ : L2.St} {H : Hp} (q : wi σ H fun J H1 => forR J g tb D σ H1) : tFor wi g tb D σ H := q
def itL (K : PySem.W.Frag) (x : V) (H : Hp) (R : It → Hp → Prop) : Prop := ∃ a, x = .ref a ∧ (∃ xs, SqL K H a xs) ∧ R (Itl K a) H
def itT (K : PySem.W.Frag) (x : V) (H : Hp) (R : It → Hp → Prop) : Prop := ∃ a, x = .ref a ∧ (∃ xs, SqT K H a xs) ∧ R (Itt K a) H
def itS (x : V) (H : Hp) (R : It → Hp → Prop) : Prop := ∃ z, x = .str z ∧ R (Its z) H
def itR1 (vs : List V) (H : Hp) (R : It → Hp → Prop) : Prop := ∃ j : Int, vs = [.int j] ∧ -(2 ^ 62) ≤ j ∧ j < 2 ^ 62 ∧ R (Itr 0 j.toNat) H
def itR2 (vs : List V) (H : Hp) (R : It → Hp → Prop) : Prop := ∃ i j : Int, vs = [.int i, .int j] ∧ (-(2 ^ 62) ≤ i ∧ i < 2 ^ 62 ∧ -(2 ^ 62) ≤ j ∧ j < 2 ^ 62) ∧ R (Itr i (j - i).toNat) H
section
variable {K : PySem.W.Frag} {σ : L2.St} {H : Hp} {t : TE} {tA : TA} {R : It → Hp → Prop}
theorem w_iR1 (q : tA σ H fun vs H1 => itR1 vs H1 R) : iRng1 tA σ H R := q
theorem w_iR2 (q : tA σ H fun vs H1 => itR2 vs H1 R) : iRng2 tA σ H R := q
theorem w_lcW {D : Addr} {tt : TT} {te : TE} {vs : List Nat} {σ0 : L2.St} {Nx : Hp → Prop} (h : wipe σ vs = wipe σ0 vs) (q : tt σ H fun b H3 => if b = true then te σ H3 fun y H4 => lcPut D y H4 Nx else Nx H3) : lcW D tt te vs σ0 Nx σ H := ⟨h, q⟩
end
def lowc (c : Nat) : Bool := decide (97 ≤ c) && decide (c ≤ 122)
def isName (z : Str) : Bool := decide (1 ≤ z.length) && (decide (z.length ≤ 8) && z.cps.toList.all lowc)
theorem lay_strs : ∀ ys : List Str, (∀ y ∈ ys, PyData.strOk y = true) → PyData.canLayAll0 (ys.map PyData.str) = true ∧ PyData.depthAll (ys.map PyData.str) = 0
  | [], _ => ⟨by simp [PyData.canLayAll0], by simp [PyData.depthAll]⟩
  | y :: ys, h => by
    obtain ⟨h1, h2⟩ := lay_strs ys fun z hz => h z (List.mem_cons_of_mem _ hz)
    have h3 := h y List.mem_cons_self
    exact ⟨by simp [PyData.canLayAll0, PyData.canLay0, h1, h3], by simp [PyData.depthAll, PyData.depth, h2]⟩
theorem shaped_strs {ys : List Str} (h : ∀ y ∈ ys, PyData.strOk y = true) : SeqAt.shaped (.list (ys.map PyData.str)) = true := by
  obtain ⟨h1, h2⟩ := lay_strs ys h
  simp [SeqAt.shaped, PyData.canLay0, PyData.depth, h1, h2]
theorem lay_ints : ∀ ys : List Int, PyData.canLayAll0 (ys.map PyData.int) = true ∧ PyData.depthAll (ys.map PyData.int) = 0
  | [] => ⟨by simp [PyData.canLayAll0], by simp [PyData.depthAll]⟩
  | y :: ys => by
    obtain ⟨h1, h2⟩ := lay_ints ys
    exact ⟨by simp [PyData.canLayAll0, PyData.canLay0, h1], by simp [PyData.depthAll, PyData.depth, h2]⟩
theorem shaped_ints (ys : List Int) : SeqAt.shaped (.list (ys.map PyData.int)) = true := by
  obtain ⟨h1, h2⟩ := lay_ints ys
  simp [SeqAt.shaped, PyData.canLay0, PyData.depth, h1, h2]
def OkS (z : Str) (n : Nat) : Prop := z.length ≤ n ∧ PyData.strOk z = true
theorem OkS.line {z : Str} {n : Nat} (h : OkS z n) (hn : n ≤ 1000000 := by decide) : z.length ≤ sizeLine := Nat.le_trans h.1 (Nat.le_trans hn (by decide))
theorem OkS.mono {z : Str} {m n : Nat} (h : OkS z m) (hm : m ≤ n) : OkS z n := ⟨Nat.le_trans h.1 hm, h.2⟩
theorem TyOf.ex {K : PySem.W.Frag} {H H' : Hp} {v : V} {T : Value} (x : Ex H H') (h : TyOf K H v T) : TyOf K H' v T := by
  cases h with
  | non => exact .non
  | bl b => exact .bl b
  | int i => exact .int i
  | str z => exact .str z
  | flt z => exact .flt z
  | lst e => exact .lst (x _ _ e)
  | frz e => exact .frz (x _ _ e)
  | tup e => exact .tup (x _ _ e)
  | dK e => exact .dK (x _ _ e)
  | dT e => exact .dT (x _ _ e)
  | ins e cl ha hn ht hm => exact .ins (x _ _ e) cl ha hn ht hm
theorem TyX.ex {K : PySem.W.Frag} {H H' : Hp} {v : V} {T : Value} (x : Ex H H') (h : TyX K H v T) : TyX K H' v T := by
  cases h with
  | base h => exact .base (TyOf.ex x h)
  | byt b => exact .byt b
  | set e => exact .set (x _ _ e)
  | kList e c => exact .kList e c
  | kTuple e c => exact .kTuple e c
  | kDict e c => exact .kDict e c
  | fTuple e => exact .fTuple (x _ _ e)
  | fDict e => exact .fDict (x _ _ e)
/-- a value that is a text, a bool, or neither text nor number -/
def OddV (K : PySem.W.Frag) (H : Hp) (v : V) : Prop := (∃ z, v = .str z ∧ OkS z 10000) ∨ (∃ b, v = .bl b) ∨ ∃ T, TyX K H v T ∧ PySem.W.kitOne K T (.type "str") = some false ∧ PySem.W.kitOne K T (.type "int") = some false ∧ PySem.W.kitOne K T (.type "bool") = some false
theorem OddV.ex {K : PySem.W.Frag} {H H' : Hp} {v : V} (x : Ex H H') (h : OddV K H v) : OddV K H' v := by
  rcases h with h | h | ⟨T, h, r⟩
  · exact .inl h
  · exact .inr (.inl h)
  · exact .inr (.inr ⟨T, TyX.ex x h, r⟩)
def IsBox (o : HO) (n : Nat) : Prop := ∃ a b c : Int, o = .lst [.int a, .int b, .int c] ∧ 0 ≤ a ∧ 0 ≤ b ∧ b < 2147483629 ∧ 0 ≤ c ∧ c ≤ (n : Int)
theorem fmod_lo (a : Int) {m : Int} (h : 0 < m) : 0 ≤ a.fmod m := by rw [Int.fmod_eq_emod_of_nonneg a (Int.le_of_lt h)]; exact Int.emod_nonneg _ (by omega)
theorem fmod_hi (a : Int) {m : Int} (h : 0 < m) : a.fmod m < m := by rw [Int.fmod_eq_emod_of_nonneg a (Int.le_of_lt h)]; exact Int.emod_lt_of_pos _ h
theorem fdiv_lo {a m : Int} (ha : 0 ≤ a) (h : 0 < m) : 0 ≤ a.fdiv m := by rw [Int.fdiv_eq_ediv_of_nonneg a (Int.le_of_lt h)]; exact Int.ediv_nonneg ha (Int.le_of_lt h)
def hi2 (a b : Str) : Str := if a.cps.toList < b.cps.toList then b else a
def IsMeas (C : Addr) (H : Hp) (x : Addr) (k a b : Str) : Prop := ∃ dx t, H x = some (.ins C dx [("own_kind", .str k), ("own_ends", .ref t)]) ∧ H t = some (.tup [.str a, .str b])
theorem IsMeas.mono {C : Addr} {H H' : Hp} {x : Addr} {k a b : Str} (e : Ex H H') (h : IsMeas C H x k a b) : IsMeas C H' x k a b := let ⟨dx, t, h1, h2⟩ := h; ⟨dx, t, e _ _ h1, e _ _ h2⟩
def sp_cell (K : PySem.W.Frag) : Sp := fun vs H Q _ => ∃ (a : Addr) (ns : List Int) (k : Nat), vs = [.ref a, .int (k : Int)] ∧ SqL K H a (ns.map V.int) ∧ ns.length ≤ 63 ∧ k ≤ 100 ∧ ∀ c : Int, Q (.int c) H
def sp_box : Sp := fun vs H Q _ => ∃ c : Int, vs = [.int c] ∧ ∀ p o, H p = none → IsBox o 0 → Q (.ref p) (upd H p o)
def BoxAt (H : Hp) (p : Addr) (n : Nat) : Prop := ∃ o, H p = some o ∧ IsBox o n
theorem IsBox.mono {o : HO} {m n : Nat} (h : IsBox o m) (hm : m ≤ n) : IsBox o n := let ⟨a, b, c, e, h1, h2, h3, h4, h5⟩ := h; ⟨a, b, c, e, h1, h2, h3, h4, by omega⟩
theorem BoxAt.mono {H : Hp} {p : Addr} {m n : Nat} (h : BoxAt H p m) (hm : m ≤ n) : BoxAt H p n := let ⟨o, h1, h2⟩ := h; ⟨o, h1, h2.mono hm⟩
theorem BoxAt.ex {H H' : Hp} {p : Addr} {n : Nat} (e : Ex H H') (h : BoxAt H p n) : BoxAt H' p n := let ⟨o, h1, h2⟩ := h; ⟨o, e _ _ h1, h2⟩
theorem BoxAt.new {H : Hp} {p q : Addr} {n : Nat} {o : HO} (h : BoxAt H p n) (hq : H q = none) : BoxAt (upd H q o) p n := h.ex (Ex.new hq)
theorem BoxAt.upd {H : Hp} {p q : Addr} {n : Nat} {o : HO} (h : BoxAt H p n) (hq : q ≠ p) : BoxAt (L2.upd H q o) p n := let ⟨u, h1, h2⟩ := h; ⟨u, (upd_ne hq.symm).trans h1, h2⟩
theorem BoxAt.ne {H : Hp} {p q : Addr} {n : Nat} (h : BoxAt H p n) (hq : H q = none) : p ≠ q := let ⟨_, h1, _⟩ := h; ne_of_none h1 hq
def sp_take : Sp := fun vs H Q _ => ∃ (p : Addr) (m : Int) (o : HO) (n : Nat), vs = [.ref p, .int m] ∧ H p = some o ∧ IsBox o n ∧ n ≤ 1000000000 ∧ 0 < m ∧ m < 1073741824 ∧ ∀ (d : Int) (o' : HO), 0 ≤ d → d < m → IsBox o' (n + 1) → Q (.int d) (upd H p o')
end G
set_option Elab.async false
set_option linter.all false
set_option maxRecDepth 100000
set_option maxHeartbeats 4000000
namespace PySem
namespace ErrX
open PySem.W PySem.Calls PyProof.Rows PySem.HandSPX
def iA (f : Str) (p1 p2 : Pos) : Arguments := { posonlyargs := [], args := [{ arg := "self", annotation := none, pos := p1 }, { arg := f, annotation := none, pos := p2 }], vararg := none, kwonlyargs := [], kw_defaults := [], kwarg := none, defaults := [] }
def iB (f m : Str) (j : Nat) (a1 a2 a3 a4 a5 a6 q1 q2 q3 q4 : Pos) : List Stmt :=
  [.Expr (.Call (.Attribute (.Call (.Name "super" a1) [] [] a2) "__init__" a3) [.Constant (.str m) j a4] [] a5) a6, .Assign [.Attribute (.Name "self" q1) f q2] (.Name f q3) q4]
def iS (f : Str) : Scope := { kind := .function, names := [("self", .local), (f, .local), ("__class__", .free), ("super", .globalImplicit)], isGenerator := false, isCoroutine := false, more := [] }
/-- what the written part says of the class cn, at C, and of its __init__, at fI -/
structure ErrTxt (prog : Program) (K : Frag) (mg : Str → Option Value) (cn f : Str) (C fI : Addr) : Prop where
  gC : mg cn = some (.ref C)
  cls : ∃ nm q N bs bm sn sub ab col dd k0 k1 k2 k3 k5, K.lookup C = some (excClassObj nm q C N bs bm true sn sub ab col dd k0 k1 k2 k3 k5 "ValueError.__new__") ∧ refsVE bm = true ∧ alongIn K "__init__" bm = some (some (.builtin "ValueError.__init__"))
  sa : findIn K (.ref C) "__setattr__" = some (some (.builtin "object.__setattr__"))
  ga : findIn K (.ref C) "__getattribute__" = some (some (.builtin "BaseException.__getattribute__"))
  gg : findIn K (.ref C) "__getattr__" = some none
  noN : findIn K (.ref C) f = some none
  iC : findIn K (.ref C) "__init__" = some (some (.ref fI))
  tC : typeIn K (.ref fI) = some (.type "function")
  kC : keepIn K (.ref C) = true
  exC : subIn K (.ref C) (.type "BaseException") = some true
  veC : subIn K (.ref C) (.type "ValueError") = some true
  miC : mroIn K C (.ref C) = some true
  tyC : typeIn K (.ref C) = some (.type "type")
  hdC : hasDictIn K C = true
  op : nsIn K cStatics "thirdparty.any" = some none
  fs : f ≠ "self"
  fc : f ≠ "__class__"
  fu : f ≠ "super"
  fg : (f == ("__debug__" : Str)) = false
  mS : mg "super" = none
  htop : (prog.main.scope.names.lookup ("super" : Str)).isSome = false
  fn : ∃ (oc : Value) (od : Option Addr) (doc pm : Value) (an : Option Addr) (cda : Addr) (ct : Value) (osl : Array (Option Value)) (p1 p2 : Pos) (m : Str) (j : Nat) (a1 a2 a3 a4 a5 a6 q1 q2 q3 q4 : Pos) (cc : Addr) (q : Str) (ccl : Value) (cdd : Option Addr) (vs : Array Value) (ccs : Array (Option Value)) (file : Str) (tf : Tok) (cl : Value) (cld : Option Addr) (csl : Array (Option Value)),
    K.lookup fI = some ⟨oc, od, .func (ksFn "__init__" q (iA f p1 p2) (iB f m j a1 a2 a3 a4 a5 a6 q1 q2 q3 q4) (iS f) .none .none doc pm an (.ref cda) ct cc), osl⟩ ∧ codeIn K (.ref cda) q = true ∧
    K.lookup cda = some ⟨ccl, cdd, .fields vs, ccs⟩ ∧ vs[2]? = some (.str file tf) ∧ ((prog.main.file : Str) == file) = true ∧ K.lookup cc = some ⟨cl, cld, .cell (some (.ref C)), csl⟩ ∧
    (∀ (s : Shared) (x v : Value), BindsTo s (ksFn "__init__" q (iA f p1 p2) (iB f m j a1 a2 a3 a4 a5 a6 q1 q2 q3 q4) (iS f) .none .none doc pm an (.ref cda) ct cc) ⟨[x, v], []⟩ [("self", x), (f, v)]) ∧
    (∀ env : Env, ∃ pl : Sem Bool, eval (.Call (.Attribute (.Call (.Name "super" a1) [] [] a2) "__init__" a3) [.Constant (.str m) j a4] [] a5) env = (do
      let ov ← attributeBase (.Call (.Name "super" a1) [] [] a2) "__init__" env (eval (.Call (.Name "super" a1) [] [] a2) env)
      standAt a3.atName
      let (f, first) ← holding [ov] (getMethod ov "__init__" pl)
      callWith a5 f first (backTo a5 (starEach [.Constant (.str m) j a4] env)) []))
theorem one_size (v : Value) : [v].length ≤ sizeLine := by
  rw [sizeLine_eq]
  exact (by decide : 1 ≤ 16777216)
/-- what __init__ leaves of a fresh exception at x -/
structure InitEnd (h h' : Heap) (x C dx t1 : Addr) (f : Str) (v : Value) : Prop where
  keep : ∀ b o, b ≠ x → h.get? b = some o → h'.get? b = some o
  obj : h'.get? x = some { cls := .ref C, dict := some dx, data := .fields #[.ref t1, .none, .none, .none, .bool false, .none] }
  dbig : h.objs.size ≤ dx
  dne : dx ≠ x
  ns : h'.Ns1 dx (fun y => if y = f then some v else none)
/-- a made error -/
structure OwnMade (h h' : Heap) (e C d : Addr) (f : Str) (v : Value) : Prop where
  keep : ∀ b o, h.get? b = some o → h'.get? b = some o
  new : h.objs.size ≤ e
  obj : ∃ t1 : Addr, h'.get? e = some { cls := .ref C, dict := some d, data := .fields #[.ref t1, .none, .none, .none, .bool false, .none] }
  dbig : h.objs.size ≤ d
  dne : d ≠ e
  ns : h'.Ns1 d (fun y => if y = f then some v else none)
section
variable {prog : Program} {w : World} {A : Around} {E : Value → Shared → Prop} {h : Heap} {g : Array GenState} {d : Drawn} {t : Nat} {os : OsState}
variable {nm q : Str} {C N : Addr} {bs bm : List Value} {hdct : Bool} {sn : List Str} {sub : List Value} {ab : Bool} {col : Option Bool} {dd : Option Addr} {k0 k1 k2 k3 k5 : Option Value}
/-- ValueError.__init__, bound to the error at e, called -/
theorem call_mw {u e t0 : Addr} {rest : List Value} {Q : Value → Shared → Prop}
    (hC : h.get? C = some (excClassObj nm q C N bs bm hdct sn sub ab col dd k0 k1 k2 k3 k5 "ValueError.__new__")) (he : h.get? e = some (excO C t0)) (hu : h.get? u = some (kxs_mw "ValueError.__init__" e)) (hrest : rest.length ≤ sizeLine)
    (hq : ∀ h' t1, (∀ b o, b ≠ e → h.get? b = some o → h'.get? b = some o) → h'.get? e = some (excO C t1) → Q .none ⟨h', g, d, t, os⟩) :
    wpAny (model prog w) A (call (.ref u) rest) Q E ⟨h, g, d, t, os⟩ := by
  refine wpAny_call (codeAny_of_tree ?_)
  show wpAny _ A.in1 (callAny (.ref u) ⟨rest, []⟩) _ _ _
  simp only [callAny]
  refine wpAny_bind (wpAny_load hu ?_)
  simp only [kxs_mw, show (Value.type "method-wrapper" == Value.type "method" || Value.type "method-wrapper" == Value.type "builtin_function_or_method" || Value.type "method-wrapper" == Value.type "method-wrapper") = true by decide, if_true]
  refine KFB.if_so (by decide) ?_
  refine wpAny_bind (check_bound_init F.excBase_ValueError.toExcCallFacts hC he rfl ?_)
  refine wpAny_bind (wpAny_pure (wpAny_pure ?_))
  refine ⟨plainId_quiet F.excBase_ValueError.init.plain _, codeAny_builtin F.excBase_ValueError.initEntry ?_⟩
  exact exc_init_tree (cls := .ref C) (t0 := t0) (dv := none) (c2 := .none) (c3 := .none) (b4 := .bool false) he hrest fun h' k e' _ => hq h' _ k e'
end
section
variable {prog : Program} {w : World} {A : Around} {E : Value → Shared → Prop} {R : Result → Shared → Prop} {s : Shared} {K : Frag} {mg mb : Str → Option Value} {C fI : Addr} {cn f : Str}
theorem err_init (T : ErrTxt prog K mg cn f C fI) {x t0 : Addr} {v : Value} (X : K.In s.heap) (hg : s.heap.Ns mainGlobals mg) (hb : s.heap.Ns builtinsNs mb) (hbb : ∀ x : Str, x ≠ "__name__" → mb x = bootBuiltins x) (hlim : s.heap.NoLimit) (hx : s.heap.get? x = some (excO C t0)) (hnx : K.lookup x = none) (hroom : A.depth < recursionLimit)
    (hq : ∀ h' tk dx t1, InitEnd s.heap h' x C dx t1 f v → R (.ok (.ret .none)) { s with heap := h', toks := tk }) :
    codeAny (model prog w) A (.call (.ref fI) ⟨[.ref x, v], []⟩) R s := by
  obtain ⟨oc, od, doc, pm, an, cda, ct, osl, p1, p2, m, j, a1, a2, a3, a4, a5, a6, q1, q2, q3, q4, cc, q, ccl, cdd, vs, ccs, file, tf, cl, cld, csl, ho, hcd, hcode, hvs, hfile, hcell, hbind, hev⟩ := T.fn
  obtain ⟨nm, qq, N, bs, bm, sn, sub, ab, col, dd, k0, k1, k2, k3, k5, hC, hbm, hal⟩ := T.cls
  have hcl : clsIn K C = some { name := nm, bases := bs, mro := .ref C :: bm, ns := N, qualname := qq, hasDict := true, slotNames := sn, subclasses := sub, abstract := ab, collection := col, hasDel := false } := by unfold clsIn; rw [hC] <;> rfl
  refine ks_codeAny_call_defAt (fd := ksFn "__init__" q (iA f p1 p2) (iB f m j a1 a2 a3 a4 a5 a6 q1 q2 q3 q4) (iS f) .none .none doc pm an (.ref cda) ct cc) (body := iB f m j a1 a2 a3 a4 a5 a6 q1 q2 q3 q4) (binds := [("self", .ref x), (f, v)])
    hroom (X _ _ ho) rfl hlim (codeRec_of X hcd) rfl (hbind s (.ref x) v) ?_ ?_ (fun h₁ hns k => ?_)
  · intro y hy
    have : y ∈ [(("self" : Str), NameKind.local), (f, NameKind.local), (("__class__" : Str), NameKind.free), (("super" : Str), NameKind.globalImplicit)] := hy
    simp only [List.mem_cons, List.not_mem_nil, or_false] at this
    rcases this with rfl | rfl | rfl | rfl <;> exact fun z => NameKind.noConfusion z
  · intro y hy
    have hf : (f == ("self" : Str)) = false := by simpa using T.fs
    rcases List.mem_cons.mp hy with rfl | hy
    · rfl
    · have : y = (f, v) := by simpa using hy
      subst this
      show List.lookup f [(("self" : Str), NameKind.local), (f, NameKind.local), (("__class__" : Str), NameKind.free), (("super" : Str), NameKind.globalImplicit)] = some .local
      simp [List.lookup, hf]
  · have hfb : (("self" : Str) == f) = false := by
      have := T.fs
      simpa using fun z : ("self" : Str) = f => this z.symm
    have hm1 : ([(("self" : Str), Value.ref x), (f, v)] : List (Str × Value)).reverse.lookup f = some v := by
      show List.lookup f [(f, v), (("self" : Str), Value.ref x)] = some v
      simp [List.lookup]
    have hm2 : ([(("self" : Str), Value.ref x), (f, v)] : List (Str × Value)).reverse.lookup ("self" : Str) = some (Value.ref x) := by
      show List.lookup ("self" : Str) [(f, v), (("self" : Str), Value.ref x)] = some (Value.ref x)
      simp [List.lookup, hfb]
    have hfb' : (f == ("self" : Str)) = false := by simpa using T.fs
    have hkf : (iS f).names.lookup f = some .local := by
      show List.lookup f [(("self" : Str), NameKind.local), (f, NameKind.local), (("__class__" : Str), NameKind.free), (("super" : Str), NameKind.globalImplicit)] = some .local
      simp [List.lookup, hfb']
    have hks : (iS f).names.lookup ("super" : Str) = some .globalImplicit := by
      have h1 : (("super" : Str) == f) = false := by simpa using fun z : ("super" : Str) = f => T.fu z.symm
      have h2 : (("super" : Str) == ("self" : Str)) = false := by decide +kernel
      have h3 : (("super" : Str) == ("__class__" : Str)) = false := by decide +kernel
      show List.lookup ("super" : Str) [(("self" : Str), NameKind.local), (f, NameKind.local), (("__class__" : Str), NameKind.free), (("super" : Str), NameKind.globalImplicit)] = some .globalImplicit
      simp [List.lookup, h1, h2, h3]
    have hkc : (iS f).names.lookup ("__class__" : Str) = some .free := by
      have h1 : (("__class__" : Str) == f) = false := by simpa using fun z : ("__class__" : Str) = f => T.fc z.symm
      have h2 : (("__class__" : Str) == ("self" : Str)) = false := by decide +kernel
      show List.lookup ("__class__" : Str) [(("self" : Str), NameKind.local), (f, NameKind.local), (("__class__" : Str), NameKind.free), (("super" : Str), NameKind.globalImplicit)] = some .free
      simp [List.lookup, h1, h2]
    have hxL : s.heap.objs.size ≠ x := Nat.ne_of_gt (Heap.lt_size hx)
    have X₁ : K.In h₁ := X.keeps k
    have hx₁ := k _ _ hx
    have hD1 : h₁.get? C = some _ := X₁ _ _ hC
    show _root_.PySem.wpAt (model prog w) _ (.func (iB f m j a1 a2 a3 a4 a5 a6 q1 q2 q3 q4) (ksEnv q (iS f) s.heap.objs.size fI (.ref cda) cc)) (execs (iB f m j a1 a2 a3 a4 a5 a6 q1 q2 q3 q4) (ksEnv q (iS f) s.heap.objs.size fI (.ref cda) cc)) _ _ _
    obtain ⟨pl, hpl⟩ := hev (ksEnv q (iS f) s.heap.objs.size fI (.ref cda) cc)
    refine ks_wpAt_execs_cons (ks_wpAt_Expr_any (ks_wpAt_MethodCall (he := hpl) (ks_wpAt_super_base (env := ksEnv q (iS f) s.heap.objs.size fI (.ref cda) cc) hks hkc (by decide) rfl (X₁ _ _ ho) rfl (ar := { arg := "self", annotation := none, pos := p1 }) rfl rfl (X₁ _ _ hcode) rfl hvs hfile T.htop ?_)))
    refine ks_loadName_global rfl hks (loadGlobal_builtin (env := ksEnv q (iS f) s.heap.objs.size fI (.ref cda) cc) (hg.keeps k) T.mS (hb.keeps k) ((hbb _ (by decide +kernel)).trans (by decide +kernel)) ⟨rfl, ?_⟩)
    refine wpAny_loadName_free rfl hkc rfl ⟨_, X₁ _ _ hcell, rfl⟩ ?_
    refine wpAny_loadName_local rfl rfl hns hm2 ?_
    refine ks_wpAny_isType_cls hD1 rfl ⟨rfl, ?_⟩
    refine ks_wpAny_call_super hD1 rfl hx₁ rfl (fun c e => nomatch e) (looks_mroIn X₁ T.miC) (fun h₂ e₂ k₂ => ?_)
    have X₂ : K.In h₂ := X₁.keeps k₂
    have hx₂ := k₂ _ _ hx₁
    have I₂ : InstAt h₂ x (excO C t0) C none := ⟨hx₂, rfl, rfl, trivial⟩
    refine kxs_getMethod kxs_ValueError e₂ (looks_opaque X₂ T.op) (l₀ := .ref C :: bm) (fun A Q E s k q => wpAny_bind ((looks_clsIn X₂ hcl) A _ E s k (wpAny_pure q))) (by simp [List.dropWhile_cons]) X₂ hal (I₂.type.andThen (looks_subIn X₂ T.veC)) (ks_ne X₂ I₂ hcl) (by decide) ?_
    have k₃ : ∀ b o, h₂.get? b = some o → (h₂.push (kxs_mw "ValueError.__init__" x)).get? b = some o := fun b o e => Heap.get?_push_of_some _ e
    have hu₃ : (h₂.push (kxs_mw "ValueError.__init__" x)).get? h₂.objs.size = some (kxs_mw "ValueError.__init__" x) := Heap.get?_push_at rfl rfl
    refine kxs_callWith (i := "ValueError.__init__") (x := x) rfl ?_
    refine evalArgs_plain ?_
    show wpAny _ _ (spliced ((false, eval (.Constant (.str m) j a4) (ksEnv q (iS f) s.heap.objs.size fI (.ref cda) cc)) :: backTo a5 (starEach [] (ksEnv q (iS f) s.heap.objs.size fI (.ref cda) cc)))) _ _ _
    refine Calls.spliced_cons (Calls.Constant_str ?_)
    refine Calls.spliced_nil ⟨hu₃, ?_⟩
    have hx₃ := k₃ _ _ hx₂
    have hC₃ := k₃ _ _ (X₂ _ _ hC)
    refine call_mw hC₃ hx₃ hu₃ (one_size _) (fun h₄ t1 k₄ hx₄ => ?_)
    have k04 : ∀ b o, b ≠ x → h₁.get? b = some o → h₄.get? b = some o := fun b o hb e => k₄ b o hb (k₃ b o (k₂ b o e))
    have X₄ : K.In h₄ := fun b o e => k04 b o (fun z => by rw [z, hnx] at e; cases e) (X₁ b o e)
    obtain ⟨oL, es, ep, hL, hLr⟩ := hns
    have hns₄ : h₄.Ns s.heap.objs.size (fun y => ([(("self" : Str), Value.ref x), (f, v)] : List (Str × Value)).reverse.lookup y) := ⟨oL, es, ep, k04 _ _ hxL hL, hLr⟩
    show _root_.PySem.wpAt (model prog w) _ _ (execs _ _) _ _ _
    refine ks_wpAt_execs_cons (ks_wpAt_Assign_Attr ?_)
    refine wpAt_of_wpAny ?_
    refine wpAny_Name (wpAny_loadName_local (env := ksEnv q (iS f) s.heap.objs.size fI (.ref cda) cc) rfl hkf hns₄ hm1 ?_) T.fg
    refine wpAny_Name (wpAny_loadName_local (env := ksEnv q (iS f) s.heap.objs.size fI (.ref cda) cc) rfl rfl hns₄ hm2 ?_) (by decide)
    refine set_plain X₄ (ox := excO C t1) (od := none) ⟨hx₄, rfl, rfl, trivial⟩ T.sa ?_
    refine exc_osa X₄ hx₄ hcl (show refsVE (.ref C :: bm) = true from hbm) rfl T.noN (fun h₅ tk₅ dx k₅ dn dne hx₅ hn₅ => ?_)
    show _root_.PySem.wpAt (model prog w) _ _ (execs [] _) _ _ _
    have z : s.heap.objs.size < h₄.objs.size := hns₄.lt
    exact wpAt_of_wpAny (wpAny_execs_nil (hq h₅ tk₅ dx t1 ⟨fun b o hb e => k₅ b o hb (k04 b o hb (k b o e)), hx₅, Nat.le_of_lt (Nat.lt_of_lt_of_le z dn), dne, hn₅⟩))
theorem err_made (T : ErrTxt prog K mg cn f C fI) {v : Value} (X : K.In s.heap) (hg : s.heap.Ns mainGlobals mg) (hb : s.heap.Ns builtinsNs mb) (hbb : ∀ x : Str, x ≠ "__name__" → mb x = bootBuiltins x) (hlim : s.heap.NoLimit) (hroom : A.depth + 1 < recursionLimit)
    (hq : ∀ h' tk e d, OwnMade s.heap h' e C d f v → R (.ok (.ret (.ref e))) { s with heap := h', toks := tk }) :
    codeAny (model prog w) A (.call (.ref C) ⟨[v], []⟩) R s := by
  obtain ⟨nm, q, N, bs, bm, sn, sub, ab, col, dd, k0, k1, k2, k3, k5, hC, hbm, hal⟩ := T.cls
  obtain ⟨hp, g, dr, tk, os⟩ := s
  have k : ∀ b o, hp.get? b = some o → ((hp.push (kdv_tup [v])).push (excO C hp.objs.size)).get? b = some o := fun b o e => Heap.get?_push_of_some _ (Heap.get?_push_of_some _ e)
  have hget : ((hp.push (kdv_tup [v])).push (excO C hp.objs.size)).get? (hp.objs.size + 1) = some (excO C hp.objs.size) := by heap_get
  have hnx : K.lookup (hp.objs.size + 1) = none := by
    cases e : K.lookup (hp.objs.size + 1) with
    | none => rfl
    | some o =>
      have z : hp.get? (hp.objs.size + 1) = some o := X _ _ e
      exact absurd (Nat.lt_of_succ_lt (Heap.lt_size z)) (Nat.lt_irrefl _)
  refine call_own F.excBase_ValueError (fun X => refsVE_contains X bm hbm) (X _ _ hC) (looks_findIn X T.iC) (fun self => bind_fn X self T.tC) (one_size v) ?_
  refine err_init (s := ⟨(hp.push (kdv_tup [v])).push (excO C hp.objs.size), g, dr, tk, os⟩) T (X.keeps k) (hg.keeps k) (hb.keeps k) hbb (hlim.keeps k) hget hnx ?_ fun h' tk' dx t1 ⟨k', hx, dn, dne, hns⟩ => ?_
  · show A.depth + 1 < recursionLimit
    exact hroom
  · have old : ∀ b o, hp.get? b = some o → h'.get? b = some o := fun b o e => k' b o (Nat.ne_of_lt (Nat.lt_succ_of_lt (Heap.lt_size e))) (k b o e)
    have z : hp.objs.size + 1 + 1 ≤ dx := by
      first
        | (simpa only [Heap.size_push] using dn)
        | exact dn
        | (have q := dn; rw [Heap.size_push, Heap.size_push] at q; exact q)
    exact ⟨rfl, hq h' tk' (hp.objs.size + 1) dx ⟨old, Nat.le_succ _, ⟨t1, hx⟩, Nat.le_trans (Nat.le_trans (Nat.le_succ _) (Nat.le_succ _)) z, dne, hns⟩⟩
end
end ErrX
end PySem
namespace G
open PySem PySem.Spec PyProof.Rows L2
theorem relO_one {f : Str} {v : V} {v' : Value} (r : RelV v v') (y : Str) : RelO (List.lookup y [(f, v)]) (if y = f then some v' else none) := by
  by_cases hw : y = f
  · subst hw
    rw [if_pos rfl]
    have q : List.lookup y [(y, v)] = some v := by simp [List.lookup]
    rw [q]
    exact r
  · rw [if_neg hw]
    have qw : (y == f) = false := by simpa using hw
    have q2 : List.lookup y [(f, v)] = none := by simp [List.lookup, qw]
    rw [q2]
    trivial
section
variable {X : Cx} {C fI : Addr} {cn f : Str}
/-- cn(e) -/
def mkE (C : Addr) (f : Str) (vs : List V) (H : Hp) (Q : XK) : Prop := ∃ v, vs = [v] ∧ ∀ d, H d = none → Q (.ref C) (some d) (upd H d (.xd [(f, v)]))
def tMkE (C : Addr) (f : Str) (ta : TA) : L2.St → Hp → XK → Prop := fun σ H Q => ta σ H fun vs H1 => mkE C f vs H1 Q
theorem pmk_err {a : Expr} {ta : TA} {p pos : Pos} {k : Nat} (T : PySem.ErrX.ErrTxt X.prog X.K X.mg cn f C fI) (hr : Room k X.A) (ha : PA X [a] ta) (hg : Gl X cn)
    (hdb : (cn == ("__debug__" : Str)) = false := by decide) (he : starEach (a :: []) X.env = (false, eval a X.env) :: starEach [] X.env := by rfl) (hpl : (backTo pos (starEach [] X.env)).any (·.1) = false := by rfl) :
    PMk X (.Call (.Name cn p) [a] [] pos) (tMkE C f ta) := by
  intro pins s σ H Q I h
  refine wpAny_Call_Name_kw (ld_glob I hg T.gC ?_ hdb)
  refine PySem.W.callWith_K (h₀ := X.base) I.ok.mod.kin T.kC (thn (ha.run pos pins s σ H _ I h) fun us s1 hh => ?_) he hpl
  obtain ⟨vs, H1, I1, r1, v, ev, q1⟩ := hh
  subst ev
  refine ⟨I1.kIn, ?_⟩
  cases r1 with
  | cons rv rn =>
    rename_i v' us'
    cases rn
    show wpAny _ _ (call (.ref C) [v']) _ _ _
    have hlim := I1.nolimit
    obtain ⟨mb, hmb, hbb⟩ := I1.mod.blt
    have hgl : s1.heap.Ns mainGlobals X.mg := I1.mod.glob.keeps I1.bk
    have hbl : s1.heap.Ns builtinsNs mb := hmb.keeps I1.bk
    obtain ⟨hp, g, dr, tk, os⟩ := s1
    refine wpAny_call (PySem.ErrX.err_made T I1.kIn hgl hbl hbb hlim (by have := hr.dp; omega) fun h' tk' e d M => ?_)
    show MkP X pins σ Q (.ref e) ⟨h', g, dr, tk', os⟩
    obtain ⟨t1, hoe⟩ := M.obj
    have hns := M.ns
    obtain ⟨G', g1, g2⟩ := restrict h' fun b => decide (b ≠ e)
    have gk : ∀ b, b ≠ e → G'.get? b = h'.get? b := fun b hb => g1 b (decide_eq_true hb)
    have ge : G'.get? e = none := g2 e (by simp)
    have old : ∀ b o, hp.get? b = some o → G'.get? b = some o := fun b o q => (gk b (Nat.ne_of_lt (Nat.lt_of_lt_of_le (Heap.lt_size q) M.new))).trans (M.keep b o q)
    have ob : ObjOk X.prog X.w (upd H1 d (.xd [(f, v)])) G' d (.xd [(f, v)]) :=
      ⟨_, hns.at (fun o q => (gk d M.dne).trans q), fun y => relO_one rv y⟩
    have J : Inv X pins σ (upd H1 d (.xd [(f, v)])) ⟨G', g, dr, tk', os⟩ := I1.laid (t' := tk') old M.dbig ob
    refine ⟨e, _, _, ⟨G', g, dr, tk', os⟩, _, .ref C, some d, rfl, J, fun b o q => ?_, ge, hoe, ⟨rfl, rfl⟩, rfl, rfl, ?_, rfl, I1.bare, raises_own T.exC T.tyC, q1 d (I1.hok.fresh M.dbig)⟩
    · by_cases hb : b = e
      · have q' : G'.get? b = some o := q
        rw [hb, ge] at q'; cases q'
      · exact (gk b hb).symm.trans q
    · rw [upd_ne (Ne.symm M.dne)]
      exact I1.hok.fresh M.new
/-- raise cn(e) -/
def tRaiseE (C : Addr) (f : Str) (W : WX) (ta : TA) : TS := fun _ σ H => ta σ H fun vs H1 => mkE C f vs H1 fun cls d H' => W cls d σ H'
/-- e.f, e the exception that the suite holds (at a; its class cls, its dict d) -/
def tGetE (C : Addr) (f : Str) (a : Addr) (cls : Value) (d : Option Addr) (te : TE) : TE := fun σ H Q => te σ H fun x H1 => x = .ref a ∧ cls = .ref C ∧ ∃ (dd : Addr) (v : V), d = some dd ∧ H1 dd = some (.xd [(f, v)]) ∧ Q v H1
end
end G
set_option Elab.async false
set_option linter.all false
set_option maxRecDepth 100000
set_option maxHeartbeats 3900000
namespace G
open PySem Spec PyProof.Rows L2
section
variable {X : Cx} {pins : List (Addr × Obj)} {σ : L2.St} {H : Hp} {cls : Value} {d : Option Addr} {a : Addr} {B : Heap} {sI s : Shared} {D : Ends} {W : WX}
/-- what a clause wishes: its class tells, then its suite, or the other clauses -/
def wOne (K : PySem.W.Frag) (C : Value) (yes no : WX) : WX := fun cls d σ H => ∃ b, PySem.W.exmOne K cls C = some b ∧ if b then yes cls d σ H else no cls d σ H
end
end G
set_option Elab.async false
set_option linter.all false
set_option maxRecDepth 100000
set_option maxHeartbeats 3900000
namespace G
open PySem Spec PyProof.Rows L2
section
variable {X : Cx} {base : Heap} {σ : L2.St} {A : Around} {outer : List Env} {s : Shared} {H : Hp} {E : XK} {scope : Scope} {p : Str} {f c : Addr}
/-- what a call of it asks -/
def spLam (c : Addr) (q : Str) (tb : XK → TE) (σ : L2.St) : Sp := fun vs H Q E => ∃ v, vs = [v] ∧ H c = some (LamX.CodeO c q) ∧ tb E (σ ++ [some v]) H Q
end
def tLam1 (T : List (Addr × Str)) (q : Str) (tb : XK → TE) (spg : Addr → Sp → Sp) (E : XK) (t : TA) : TE := fun σ H Q =>
  LamX.Tabs T H ∧ ∀ (f c : Addr) (H1 : Hp), LamX.ExtN H H1 → LamX.Tabs T H1 → H1 c = some (LamX.CodeO c q) → t σ H1 fun vs H2 => spg f (spLam c q tb σ) (.ref f :: vs) H2 Q E
end G
set_option Elab.async false
set_option linter.all false
set_option maxRecDepth 100000
set_option maxHeartbeats 3900000
namespace G
open PySem Spec PyProof.Rows L2
section
variable {X : Cx} {CX : CXT} {k : Nat} {f C : Addr} {fd : FuncData} {ps : List Str} {sp : Sp} {E : XK}
/-- str(x) by its own def -/
def rStrO (C : Addr) (sp : Sp) (E : XK) : List V → Hp → VK → Prop := fun xs H Q => ∃ a dx fs, xs = [.ref a] ∧ H a = some (.ins C dx fs) ∧ sp [.ref a] H (fun v H' => (∃ z, v = .str z) ∧ Q v H') E
/-- x(e, ..), x a local that holds the class at C -/
def tMakeL (i : Nat) (C : Addr) (sp : Sp) (E : XK) (t : TA) : TE := fun σ H Q => σ[i]? = some (some (.ref C)) ∧ tMake C sp [] E t σ H Q
end
end G
set_option Elab.async false
set_option linter.all false
set_option maxRecDepth 100000
set_option maxHeartbeats 3900000
namespace G
open PySem Spec PyProof.Rows L2
section
variable {X : Cx} {k i : Nat} {f : Addr} {sp : Sp} {W : WX} {x : Str} {p pos : Pos} {e : Expr} {es : List Expr} {t : TA}
/-- x(e, ..) under a try: what is thrown is wished for at the slots as they stand -/
def tCallW (i : Nat) (f : Addr) (sp : Sp) (W : WX) (t : TA) : TE := fun σ H Q => σ[i]? = some (some (.ref f)) ∧ t σ H fun vs H1 => sp vs H1 Q fun cls d H' => W cls d σ H'
end
section
variable {X : Cx} {K : PySem.W.Frag}
def rListU (K : PySem.W.Frag) : List V → Hp → VK → Prop := fun xs H Q => ∃ p ys, xs = [.ref p] ∧ (SqL K H p ys ∨ SqT K H p ys) ∧ ∀ l, H l = none → Q (.ref l) (upd H l (.lst ys))
end
end G
namespace G
open PySem Spec PyProof.Rows L2
end G
set_option Elab.async false
set_option linter.all false
set_option maxRecDepth 100000
set_option maxHeartbeats 3900000
namespace G
open PySem Spec PyProof.Rows L2
/-- some names, no two alike -/
structure Good (xs : List Str) (m : Nat) : Prop where
  len : xs.length = m
  nd : xs.Nodup
  name : ∀ x ∈ xs, isName x = true
theorem Good.take {xs : List Str} {m n : Nat} (h : Good xs m) (hn : n ≤ m) : Good (xs.take n) n := ⟨by rw [List.length_take, h.len]; omega, h.nd.sublist (List.take_sublist _ _), fun x hx => h.name x (List.mem_of_mem_take hx)⟩
def jsR (ts : List TE) (acc : Str) (σ : L2.St) (x : V) (H : Hp) (Q : Str → Hp → Prop) : Prop := ∃ y : Str, x = .str y ∧ (acc ++ y).length ≤ sizeLine ∧ tJs ts (acc ++ y) σ H Q
def fmtR (x : V) (H : Hp) (Q : VK) : Prop := (∃ y : Str, x = .str y ∧ y.length ≤ sizeLine ∧ Q (.str y) H) ∨ ∃ i : Int, x = .int i ∧ i.natAbs.log2 < 1920 ∧ Q (.str (toString i)) H
section
variable {K : PySem.W.Frag} {σ : L2.St} {H : Hp} {Q : VK} {QJ : Str → Hp → Prop} {t ta : TE} {ts : List TE} {acc y : Str} {tA : TA} {x : V} {C : Addr} {sp : Sp} {E : XK} {i : Nat}
theorem w_js (q : t σ H fun x H1 => jsR ts acc σ x H1 QJ) : tJs (t :: ts) acc σ H QJ := q
theorem w_jsn (q : QJ acc H) : tJs [] acc σ H QJ := q
theorem w_fmt (q : t σ H fun x H1 => fmtR x H1 Q) : tFmt t σ H Q := q
theorem w_makeL (h : σ[i]? = some (some (.ref C))) (q : tMake C sp [] E tA σ H Q) : tMakeL i C sp E tA σ H Q := ⟨h, q⟩
end
end G
set_option Elab.async false
set_option linter.all false
set_option maxRecDepth 100000
set_option maxHeartbeats 3900000
namespace G
open PySem Spec PyProof.Rows L2
section
variable {σ : L2.St} {H : Hp} {C : Addr} {f : Str} {W : WX} {ta : TA} {D : Ends} {v : V} {Q E : XK} {H0 : Hp} {tb : WX → TS} {K : PySem.W.Frag} {yes no : WX} {cls : Value} {d : Option Addr} {c : Value} {b : Bool}
theorem w_raiseE (q : ta σ H fun vs H1 => mkE C f vs H1 fun cls d H' => W cls d σ H') : tRaiseE C f W ta D σ H := q
def getE (C : Addr) (f : Str) (a : Addr) (cls : Value) (d : Option Addr) (x : V) (H : Hp) (Q : VK) : Prop := x = .ref a ∧ cls = .ref C ∧ ∃ (dd : Addr) (v : V), d = some dd ∧ H dd = some (.xd [(f, v)]) ∧ Q v H
theorem w_getE {a : Addr} {te : TE} {Q : VK} (q : te σ H fun x H1 => getE C f a cls d x H1 Q) : tGetE C f a cls d te σ H Q := q
theorem w_callW {i : Nat} {fa : Addr} {sp : Sp} {t : TA} {Q : VK} (h : σ[i]? = some (some (.ref fa))) (q : t σ H fun vs H1 => sp vs H1 Q fun cls d H' => W cls d σ H') : tCallW i fa sp W t σ H Q := ⟨h, q⟩
end
/-- a new list is the answer -/
def NewL (xs : List V) (H : Hp) (Q : VK) : Prop := ∀ p H', Ex H H' → H p = none → H' p = some (.lst xs) → Q (.ref p) H'
inductive Odd (C : Addr) (H : Hp) : V → Prop
  | non : Odd C H .non
  | bl (b : Bool) : Odd C H (.bl b)
  | int (i : Int) : Odd C H (.int i)
  | str {z : Str} (h : OkS z 10000) : Odd C H (.str z)
  | lst {a : Addr} {xs : List V} (h : H a = some (.lst xs)) (hf : ∀ x ∈ xs, flatB x = true) : Odd C H (.ref a)
  | tup {a : Addr} {ys : List Str} (h : H a = some (.tup (ys.map V.str))) (hf : ∀ y ∈ ys, PyData.strOk y = true) : Odd C H (.ref a)
  | dic {a : Addr} (h : H a = some (.dK [])) : Odd C H (.ref a)
  | meas {x : Addr} {k a b : Str} (h : IsMeas C H x k a b) (hk : OkS k 100) (ha : OkS a 100) (hb : OkS b 100) : Odd C H (.ref x)
theorem IsMeas.ext {C : Addr} {H H' : Hp} {x : Addr} {k a b : Str} (e : LamX.ExtN H H') (h : IsMeas C H x k a b) : IsMeas C H' x k a b :=
  let ⟨dx, t, h1, h2⟩ := h
  ⟨dx, t, e _ _ h1 (fun _ z => nomatch z), e _ _ h2 (fun _ z => nomatch z)⟩
theorem Odd.ext {C : Addr} {H H' : Hp} {v : V} (e : LamX.ExtN H H') (h : Odd C H v) : Odd C H' v := by
  cases h with
  | non => exact .non
  | bl b => exact .bl b
  | int i => exact .int i
  | str h => exact .str h
  | lst h hf => exact .lst (e _ _ h (fun _ z => nomatch z)) hf
  | tup h hf => exact .tup (e _ _ h (fun _ z => nomatch z)) hf
  | dic h => exact .dic (e _ _ h (fun _ z => nomatch z))
  | meas h hk ha hb => exact .meas (h.ext e) hk ha hb
theorem Ex.n {H H' : Hp} (e : Ex H H') : LamX.ExtN H H' := LamX.ExtN.of e
def lamR (T : List (Addr × Str)) (q : Str) (tb : XK → TE) (spg : Addr → Sp → Sp) (E : XK) (t : TA) (σ : L2.St) (H : Hp) (Q : VK) : Prop := ∀ (f c : Addr) (H1 : Hp), LamX.ExtN H H1 → LamX.Tabs T H1 → H1 c = some (LamX.CodeO c q) → t σ H1 fun vs H2 => spg f (spLam c q tb σ) (.ref f :: vs) H2 Q E
theorem w_lam1 {T : List (Addr × Str)} {q : Str} {tb : XK → TE} {spg : Addr → Sp → Sp} {E : XK} {t : TA} {σ : L2.St} {H : Hp} {Q : VK} (hT : LamX.Tabs T H) (h : lamR T q tb spg E t σ H Q) : tLam1 T q tb spg E t σ H Q := ⟨hT, h⟩
def isR (C : Addr) (x : V) (P : Prop) : Prop := x = .ref C ∧ P
theorem is_of {C : Addr} {P : Prop} (p : P) : isR C (.ref C) P := ⟨rfl, p⟩
theorem w_cmeth {C : Addr} {sp : Sp} {E : XK} {ta : TE} {t : TA} {σ : L2.St} {H : Hp} {Q : VK} (q : ta σ H fun x H1 => isR C x (t σ H1 fun vs H2 => sp (.ref C :: vs) H2 Q E)) : ClX.tCMeth C sp E ta t σ H Q := q
theorem ExtN.l {K : PySem.W.Frag} {H H' : Hp} {a : Addr} {xs : List V} (e : LamX.ExtN H H') (h : SqL K H a xs) : SqL K H' a xs := h.elim (fun h => .inl (h.elim (fun h => .inl (e _ _ h (fun _ z => nomatch z))) fun ⟨o, h⟩ => .inr ⟨o, e _ _ h (fun _ z => nomatch z)⟩)) .inr
theorem BoxAt.ext {H H' : Hp} {p : Addr} {n : Nat} (e : LamX.ExtN H H') (h : BoxAt H p n) : BoxAt H' p n := by
  obtain ⟨o, h1, h2⟩ := h
  refine ⟨o, e _ _ h1 (fun ps z => ?_), h2⟩
  obtain ⟨a, b, c, e2, _⟩ := h2
  rw [e2] at z
  cases z
end G
set_option Elab.async false
set_option linter.all false
set_option maxRecDepth 100000
set_option maxHeartbeats 3900000
namespace M
open PySem PySem.Spec PyProof.Rows L2 G
inductive D where
  | non | bl (b : Bool) | int (i : Int) | str (z : Str) | ty (n : String) | adr (a : Addr)
  | lst (xs : List D) | scr (xs : List D) | tup (xs : List D) | dic (kvs : List (Key × D)) | ins (C : Addr) (fs : List (Str × D)) | exc (C : Addr) (fs : List (Str × D)) | obj (k : Nat) | btp (xs : List D)
inductive SO where
  | lst (xs : List D) | dic (kvs : List (Key × D)) | ins (C : Addr) (fs : List (Str × D)) | frz (d : D) | box (n : Nat) | lck (ob : Obj) (vs : List (Key × V)) (kvs : List (Key × D))
abbrev SH := List SO
def SO.live : SO → Bool
  | .frz _ => false
  | _ => true
/-- a tuple of the program's own top: a default, a constant -/
def KTup (K : PySem.W.Frag) (a : Addr) (vs : List V) : Prop := ∃ (o : Obj) (its : Array Value) (n : Nat), K.lookup a = some o ∧ o.cls = .type "tuple" ∧ o.data = .seq its n ∧ its.size ≤ sizeLine ∧ Vals vs its.toList
/-- an exception that is a value: its class, its dict -/
def ExV (C : Addr) (od : Option Addr) (a : Addr) : HO := .ext fun h => ∃ (oe : Obj) (vs : Array Value), h.get? a = some oe ∧ Zc (.ref C) od oe ∧ oe.data = .fields vs
section
variable (K : PySem.W.Frag) (al : List Addr) (G : Hp)
mutual
inductive Den : V → D → Prop
  | non : Den .non .non
  | bl (b : Bool) : Den (.bl b) (.bl b)
  | int (i : Int) : Den (.int i) (.int i)
  | str (z : Str) : Den (.str z) (.str z)
  | ty (n : String) : Den (.ty n) (.ty n)
  | adr (a : Addr) : Den (.ref a) (.adr a)
  | lst {a : Addr} {vs : List V} {xs : List D} : G a = some (.lst vs) → DenL vs xs → Den (.ref a) (.lst xs)
  | scr {a : Addr} {vs : List V} {xs : List D} : SqL K G a vs → DenL vs xs → Den (.ref a) (.scr xs)
  | tup {a : Addr} {vs : List V} {xs : List D} : G a = some (.tup vs) → DenL vs xs → Den (.ref a) (.tup xs)
  | exc {a C : Addr} {od : Option Addr} {vs : List (Str × V)} {xs : List (Str × D)} : G a = some (ExV C od a) → (∀ dd, od = some dd → G dd = some (.xd vs)) → (od = none → vs = []) → DenF vs xs → Den (.ref a) (.exc C xs)
  | dic {a : Addr} {ob : Obj} {vs : List (Key × V)} {xs : List (Key × D)} : G a = some (.frz ob (.dK vs)) → DenK vs xs → Den (.ref a) (.dic xs)
  | ins {a C dx : Addr} {vs : List (Str × V)} {xs : List (Str × D)} : G a = some (.ins C dx vs) → DenF vs xs → Den (.ref a) (.ins C xs)
  | obj {k : Nat} {a : Addr} : al[k]? = some a → Den (.ref a) (.obj k)
  | btp {a : Addr} {vs : List V} {xs : List D} : KTup K a vs → DenL vs xs → Den (.ref a) (.btp xs)
inductive DenL : List V → List D → Prop
  | nil : DenL [] []
  | cons {v : V} {d : D} {vs : List V} {ds : List D} : Den v d → DenL vs ds → DenL (v :: vs) (d :: ds)
inductive DenK : List (Key × V) → List (Key × D) → Prop
  | nil : DenK [] []
  | cons {k : Key} {v : V} {d : D} {vs : List (Key × V)} {ds : List (Key × D)} : Den v d → DenK vs ds → DenK ((k, v) :: vs) ((k, d) :: ds)
inductive DenF : List (Str × V) → List (Str × D) → Prop
  | nil : DenF [] []
  | cons {k : Str} {v : V} {d : D} {vs : List (Str × V)} {ds : List (Str × D)} : Den v d → DenF vs ds → DenF ((k, v) :: vs) ((k, d) :: ds)
end
end
section
variable {K : PySem.W.Frag} {al al' : List Addr} {G G' : Hp}
mutual
theorem Den.mono (ha : ∀ (k : Nat) (a : Addr), al[k]? = some a → al'[k]? = some a) (hg : Ex G G') : ∀ {v : V} {d : D}, Den K al G v d → Den K al' G' v d
  | _, _, .non => .non
  | _, _, .bl b => .bl b
  | _, _, .int i => .int i
  | _, _, .str z => .str z
  | _, _, .ty n => .ty n
  | _, _, .adr a => .adr a
  | _, _, .lst h r => .lst (hg _ _ h) (DenL.mono ha hg r)
  | _, _, .scr h r => .scr (hg.l h) (DenL.mono ha hg r)
  | _, _, .tup h r => .tup (hg _ _ h) (DenL.mono ha hg r)
  | _, _, .exc h h2 h3 r => .exc (hg _ _ h) (fun dd e => hg _ _ (h2 dd e)) h3 (DenF.mono ha hg r)
  | _, _, .dic h r => .dic (hg _ _ h) (DenK.mono ha hg r)
  | _, _, .ins h r => .ins (hg _ _ h) (DenF.mono ha hg r)
  | _, _, .obj h => .obj (ha _ _ h)
  | _, _, .btp h r => .btp h (DenL.mono ha hg r)
theorem DenL.mono (ha : ∀ (k : Nat) (a : Addr), al[k]? = some a → al'[k]? = some a) (hg : Ex G G') : ∀ {v : List V} {d : List D}, DenL K al G v d → DenL K al' G' v d
  | _, _, .nil => .nil
  | _, _, .cons h r => .cons (Den.mono ha hg h) (DenL.mono ha hg r)
theorem DenK.mono (ha : ∀ (k : Nat) (a : Addr), al[k]? = some a → al'[k]? = some a) (hg : Ex G G') : ∀ {v : List (Key × V)} {d : List (Key × D)}, DenK K al G v d → DenK K al' G' v d
  | _, _, .nil => .nil
  | _, _, .cons h r => .cons (Den.mono ha hg h) (DenK.mono ha hg r)
theorem DenF.mono (ha : ∀ (k : Nat) (a : Addr), al[k]? = some a → al'[k]? = some a) (hg : Ex G G') : ∀ {v : List (Str × V)} {d : List (Str × D)}, DenF K al G v d → DenF K al' G' v d
  | _, _, .nil => .nil
  | _, _, .cons h r => .cons (Den.mono ha hg h) (DenF.mono ha hg r)
end
theorem DenL.length : ∀ {vs : List V} {ds : List D}, DenL K al G vs ds → vs.length = ds.length
  | _, _, .nil => rfl
  | _, _, .cons _ r => by rw [List.length_cons, List.length_cons, DenL.length r]
theorem DenL.get : ∀ {vs : List V} {ds : List D} {i : Nat} {d : D}, DenL K al G vs ds → ds[i]? = some d → ∃ v, vs[i]? = some v ∧ Den K al G v d
  | _, _, i, d, .nil, e => by simp at e
  | _, _, 0, d, .cons h _, e => by simp at e; subst e; exact ⟨_, rfl, h⟩
  | _, _, i + 1, d, .cons _ r, e => by
    obtain ⟨v, h1, h2⟩ := DenL.get (i := i) (d := d) r (by simpa using e)
    exact ⟨v, by simpa using h1, h2⟩
theorem DenL.append : ∀ {vs us : List V} {ds es : List D}, DenL K al G vs ds → DenL K al G us es → DenL K al G (vs ++ us) (ds ++ es)
  | _, _, _, _, .nil, s => s
  | _, _, _, _, .cons h r, s => .cons h (r.append s)
theorem DenL.take : ∀ {vs : List V} {ds : List D} (n : Nat), DenL K al G vs ds → DenL K al G (vs.take n) (ds.take n)
  | _, _, 0, _ => .nil
  | _, _, _ + 1, .nil => .nil
  | _, _, n + 1, .cons h r => .cons h (r.take n)
theorem DenL.drop : ∀ {vs : List V} {ds : List D} (n : Nat), DenL K al G vs ds → DenL K al G (vs.drop n) (ds.drop n)
  | _, _, 0, r => r
  | _, _, _ + 1, .nil => .nil
  | _, _, n + 1, .cons _ r => r.drop n
theorem DenL.set {v : V} {d : D} (h : Den K al G v d) : ∀ {vs : List V} {ds : List D} (i : Nat), DenL K al G vs ds → DenL K al G (vs.set i v) (ds.set i d)
  | _, _, _, .nil => .nil
  | _, _, 0, .cons _ r => .cons h r
  | _, _, i + 1, .cons q r => .cons q (DenL.set h i r)
theorem DenL.erase : ∀ {vs : List V} {ds : List D} (i : Nat), DenL K al G vs ds → DenL K al G (vs.eraseIdx i) (ds.eraseIdx i)
  | _, _, _, .nil => .nil
  | _, _, 0, .cons _ r => r
  | _, _, i + 1, .cons q r => .cons q (DenL.erase i r)
theorem DenL.reverse : ∀ {vs : List V} {ds : List D}, DenL K al G vs ds → DenL K al G vs.reverse ds.reverse
  | _, _, .nil => .nil
  | _, _, .cons h r => by
    rw [List.reverse_cons, List.reverse_cons]
    exact r.reverse.append (.cons h .nil)
theorem DenL.flatten : ∀ {vs : List V} {ds : List D} (n : Nat), DenL K al G vs ds → DenL K al G (List.replicate n vs).flatten (List.replicate n ds).flatten
  | _, _, 0, _ => .nil
  | _, _, n + 1, r => by
    rw [List.replicate_succ, List.replicate_succ, List.flatten_cons, List.flatten_cons]
    exact r.append (r.flatten n)
theorem DenL.strs : ∀ zs : List Str, DenL K al G (zs.map V.str) (zs.map D.str)
  | [] => .nil
  | z :: zs => .cons (.str z) (DenL.strs zs)
theorem DenL.ints : ∀ zs : List Int, DenL K al G (zs.map V.int) (zs.map D.int)
  | [] => .nil
  | z :: zs => .cons (.int z) (DenL.ints zs)
theorem DenL.of_ints : ∀ {vs : List V} {zs : List Int}, DenL K al G vs (zs.map D.int) → vs = zs.map V.int
  | _, [], .nil => rfl
  | _, z :: zs, .cons h r => by
    cases h
    rw [DenL.of_ints r]
    rfl
theorem DenF.lookup {f : Str} : ∀ {vs : List (Str × V)} {ds : List (Str × D)} {d : D}, DenF K al G vs ds → ds.lookup f = some d → ∃ v, vs.lookup f = some v ∧ Den K al G v d
  | _, _, _, .nil, e => by cases e
  | _, _, d, .cons (k := k) h r, e => by
    by_cases q : f == k
    · simp only [List.lookup, q] at e ⊢
      cases e
      exact ⟨_, rfl, h⟩
    · simp only [List.lookup, q] at e ⊢
      exact r.lookup e
theorem DenF.none {f : Str} : ∀ {vs : List (Str × V)} {ds : List (Str × D)}, DenF K al G vs ds → ds.lookup f = none → vs.lookup f = none
  | _, _, .nil, e => rfl
  | _, _, .cons (k := k) h r, e => by
    by_cases q : f == k
    · simp only [List.lookup, q] at e ⊢
      cases e
    · simp only [List.lookup, q] at e ⊢
      exact r.none e
theorem DenF.length : ∀ {vs : List (Str × V)} {ds : List (Str × D)}, DenF K al G vs ds → vs.length = ds.length
  | _, _, .nil => rfl
  | _, _, .cons _ r => by rw [List.length_cons, List.length_cons, r.length]
theorem DenK.length : ∀ {vs : List (Key × V)} {ds : List (Key × D)}, DenK K al G vs ds → vs.length = ds.length
  | _, _, .nil => rfl
  | _, _, .cons _ r => by rw [List.length_cons, List.length_cons, r.length]
def putFD (f : Str) (d : D) : List (Str × D) → List (Str × D)
  | [] => [(f, d)]
  | (g, e) :: r => if g = f then (g, d) :: r else (g, e) :: putFD f d r
end
def Ent (K : PySem.W.Frag) (al : List Addr) (G H : Hp) (a : Addr) : SO → Prop
  | .lst xs => ∃ vs, H a = some (.lst vs) ∧ DenL K al G vs xs
  | .dic xs => ∃ vs, H a = some (.dK vs) ∧ DenK K al G vs xs
  | .ins C xs => ∃ dx vs, H a = some (.ins C dx vs) ∧ DenF K al G vs xs
  | .frz d => Den K al G (.ref a) d
  | .box n => BoxAt H a n
  | .lck ob vs xs => H a = some (.frz ob (.dK vs)) ∧ DenK K al G vs xs
structure Rep (K : PySem.W.Frag) (tb : List (Addr × Str)) (al : List Addr) (G : Hp) (c : SH) (H : Hp) : Prop where
  len : al.length = c.length
  sub : Ex G H
  ent : ∀ (k : Nat) (a : Addr) (o : SO), al[k]? = some a → c[k]? = some o → Ent K al G H a o
  out : ∀ (k : Nat) (a : Addr) (o : SO), al[k]? = some a → c[k]? = some o → o.live = true → G a = none
  inj : ∀ (i j : Nat) (a : Addr) (o : SO), al[i]? = some a → al[j]? = some a → c[i]? = some o → o.live = true → i = j
  tak : ∀ (k : Nat) (a : Addr), al[k]? = some a → ∃ u, H a = some u ∧ ∀ ps, u ≠ .tbl ps
  gt : ∀ (a : Addr) (ps : Array Value), G a ≠ some (.tbl ps)
  tab : LamX.Tabs tb H
def Liv (al : List Addr) (c : SH) (a : Addr) : Prop := ∃ (k : Nat) (o : SO), al[k]? = some a ∧ c[k]? = some o ∧ o.live = true
/-- free, or a code object's table -/
def Fr (H : Hp) (a : Addr) : Prop := ∀ o, H a = some o → ∃ ps, o = .tbl ps
theorem Fr.of {H : Hp} {a : Addr} (h : H a = none) : Fr H a := fun o e => by rw [h] at e; cases e
structure Le (al : List Addr) (G : Hp) (c : SH) (H : Hp) (al' : List Addr) (G' : Hp) (c' : SH) (H' : Hp) : Prop where
  ad : ∀ (k : Nat) (a : Addr), al[k]? = some a → al'[k]? = some a
  g : Ex G G'
  fr : ∀ (a : Addr) (o : HO), H a = some o → ¬ Liv al c a → (∀ ps, o ≠ .tbl ps) → H' a = some o
  nl : ∀ (a : Addr), Liv al' c' a → Liv al c a ∨ Fr H a
  dom : ∀ (a : Addr), Fr H' a → Fr H a
  gn : ∀ (a : Addr) (o : HO), G' a = some o → (∃ u, G a = some u) ∨ Fr H a ∨ Liv al c a
  nd : ∀ (k : Nat) (a : Addr), al'[k]? = some a → (∃ j : Nat, al[j]? = some a) ∨ Fr H a
theorem Le.refl {al : List Addr} {G : Hp} {c : SH} {H : Hp} : Le al G c H al G c H := ⟨fun _ _ => id, Ex.refl _, fun _ _ h _ _ => h, fun _ => .inl, fun _ => id, fun _ _ h => .inl ⟨_, h⟩, fun k _ h => .inl ⟨k, h⟩⟩
theorem Le.trans {al al1 al2 : List Addr} {G G1 G2 : Hp} {c c1 c2 : SH} {H H1 H2 : Hp} (a : Le al G c H al1 G1 c1 H1) (b : Le al1 G1 c1 H1 al2 G2 c2 H2) : Le al G c H al2 G2 c2 H2 where
  ad k x h := b.ad k x (a.ad k x h)
  g := a.g.trans b.g
  fr x o h n t := b.fr x o (a.fr x o h n t) (fun l => (a.nl x l).elim n fun z => by obtain ⟨ps, e⟩ := z o h; exact t ps e) t
  nl x l := by
    rcases b.nl x l with h | h
    · exact a.nl x h
    · exact .inr (a.dom x h)
  dom x h := a.dom x (b.dom x h)
  gn x o h := by
    rcases b.gn x o h with ⟨u, h⟩ | h | h
    · exact a.gn x u h
    · exact .inr (.inl (a.dom x h))
    · exact (a.nl x h).elim (fun h => .inr (.inr h)) fun h => .inr (.inl h)
  nd k x h := by
    rcases b.nd k x h with ⟨j, h⟩ | h
    · exact a.nd j x h
    · exact .inr (a.dom x h)
theorem fr_upd {H : Hp} {p a : Addr} {o : HO} (hp : H p = none ∨ ∃ u, H p = some u ∧ ∀ ps, u ≠ .tbl ps) (ho : ∀ ps, o ≠ .tbl ps) (h : Fr (upd H p o) a) : Fr H a := by
  by_cases e : a = p
  · rw [e] at h
    obtain ⟨ps, e2⟩ := h o upd_same
    exact absurd e2 (ho ps)
  · intro u hu
    exact h u (by rw [upd_ne e]; exact hu)
section
variable {K : PySem.W.Frag} {tb : List (Addr × Str)} {al al' : List Addr} {G G' : Hp} {c c' : SH} {H H' : Hp} {v : V} {d : D}
theorem Den.le (h : Den K al G v d) (l : Le al G c H al' G' c' H') : Den K al' G' v d := h.mono l.ad l.g
theorem DenL.le {vs : List V} {ds : List D} (h : DenL K al G vs ds) (l : Le al G c H al' G' c' H') : DenL K al' G' vs ds := h.mono l.ad l.g
theorem Ent.there {a : Addr} {o : SO} (h : Ent K al G H a o) (l : o.live = true) : ∃ u, H a = some u ∧ (∀ ps, u ≠ .tbl ps) ∧ (∀ φ, u ≠ .ext φ) := by
  cases o with
  | lst xs => obtain ⟨vs, h, _⟩ := h; exact ⟨_, h, nofun, nofun⟩
  | dic xs => obtain ⟨vs, h, _⟩ := h; exact ⟨_, h, nofun, nofun⟩
  | ins C xs => obtain ⟨dx, vs, h, _⟩ := h; exact ⟨_, h, nofun, nofun⟩
  | frz d => cases l
  | box n =>
    obtain ⟨o, h, x, y, z, rfl, _⟩ := h
    exact ⟨_, h, nofun, nofun⟩
  | lck ob vs xs => obtain ⟨h, _⟩ := h; exact ⟨_, h, nofun, nofun⟩
theorem tabs_upd {a : Addr} {u o : HO} (h : LamX.Tabs tb H) (e : H a = some u) (n : ∀ ps, u ≠ .tbl ps) (n2 : ∀ φ, u ≠ .ext φ) : LamX.Tabs tb (upd H a o) := by
  intro p hp
  obtain ⟨ps, h1, h2, h3⟩ := h p hp
  refine ⟨ps, ?_, h2, fun pos cv e2 => ?_⟩
  · rw [upd_ne (fun z => by rw [z, e] at h1; exact n ps (Option.some.inj h1))]
    exact h1
  · obtain ⟨cc, r1, r2⟩ := h3 pos cv e2
    refine ⟨cc, r1, ?_⟩
    rw [upd_ne (fun z => by rw [z, e] at r2; exact n2 _ (Option.some.inj r2))]
    exact r2
theorem Ent.ext {a : Addr} {o : SO} (h : Ent K al G H a o) (ha : ∀ (k : Nat) (a : Addr), al[k]? = some a → al'[k]? = some a) (hg : Ex G G') (hh : ∀ u, H a = some u → H' a = some u) : Ent K al' G' H' a o := by
  cases o with
  | lst xs => obtain ⟨vs, h, r⟩ := h; exact ⟨vs, hh _ h, r.mono ha hg⟩
  | dic xs => obtain ⟨vs, h, r⟩ := h; exact ⟨vs, hh _ h, r.mono ha hg⟩
  | ins C xs => obtain ⟨dx, vs, h, r⟩ := h; exact ⟨dx, vs, hh _ h, r.mono ha hg⟩
  | frz d => exact Den.mono ha hg h
  | box n => obtain ⟨u, h, r⟩ := h; exact ⟨u, hh _ h, r⟩
  | lck ob vs xs => obtain ⟨h, r⟩ := h; exact ⟨hh _ h, r.mono ha hg⟩
theorem Rep.fresh (R : Rep K tb al G c H) {p : Addr} (hp : H p = none) : G p = none := R.sub.fresh hp
/-- a live address is taken -/
theorem Rep.liv (R : Rep K tb al G c H) {a : Addr} (h : Liv al c a) : ∃ u, H a = some u ∧ (∀ ps, u ≠ .tbl ps) ∧ (∀ φ, u ≠ .ext φ) := by
  obtain ⟨k, o, h1, h2, h3⟩ := h
  exact Ent.there (R.ent k a o h1 h2) h3
theorem Rep.den_some (R : Rep K tb al G c H) {a : Addr} {k : Nat} (h : al[k]? = some a) : k < c.length := by
  have := (List.getElem?_eq_some_iff.mp h).1
  rw [R.len] at this
  exact this
/-- new data -/
theorem Rep.data (R : Rep K tb al G c H) {p : Addr} {o : HO} (hp : H p = none) (ho : ∀ ps, o ≠ .tbl ps) : Rep K tb al (upd G p o) c (upd H p o) where
  len := R.len
  sub a u h := by
    by_cases e : a = p
    · rw [e, upd_same] at h ⊢; exact h
    · rw [upd_ne e] at h ⊢; exact R.sub a u h
  ent k a s h1 h2 := Ent.ext (R.ent k a s h1 h2) (fun _ _ => id) (Ex.new (R.fresh hp)) fun u hu => Ex.new hp a u hu
  out k a s h1 h2 h3 := by
    obtain ⟨u, hu, _⟩ := Ent.there (R.ent k a s h1 h2) h3
    rw [upd_ne (ne_of_none hu hp)]
    exact R.out k a s h1 h2 h3
  inj := R.inj
  tak k a h := let ⟨u, hu, n⟩ := R.tak k a h; ⟨u, Ex.new hp a u hu, n⟩
  gt a ps h := by
    by_cases e : a = p
    · rw [e, upd_same] at h; exact ho ps (Option.some.inj h)
    · rw [upd_ne e] at h; exact R.gt a ps h
  tab := R.tab.ext (Ex.new hp)
theorem gn_upd {p : Addr} {o : HO} (hp : Fr H p) : ∀ (a : Addr) (u : HO), upd G p o a = some u → (∃ u, G a = some u) ∨ Fr H a ∨ Liv al c a := fun a u h => by
  by_cases e : a = p
  · rw [e]; exact .inr (.inl hp)
  · rw [upd_ne e] at h; exact .inl ⟨_, h⟩
theorem Le.data {p : Addr} (hp : H p = none) (hg : G p = none) {o : HO} (ho : ∀ ps, o ≠ .tbl ps) : Le al G c H al (upd G p o) c (upd H p o) where
  ad _ _ := id
  g := Ex.new hg
  fr a u h _ _ := Ex.new hp a u h
  nl a := .inl
  dom a h := fr_upd (.inl hp) ho h
  gn := gn_upd (.of hp)
  nd k _ h := .inl ⟨k, h⟩
/-- the heap grows, nothing else -/
theorem Rep.grow (R : Rep K tb al G c H) (e : Ex H H') : Rep K tb al G c H' where
  len := R.len
  sub := R.sub.trans e
  ent k a s h1 h2 := Ent.ext (R.ent k a s h1 h2) (fun _ _ => id) (Ex.refl _) fun u hu => e a u hu
  out := R.out
  inj := R.inj
  tak k a h := let ⟨u, hu, n⟩ := R.tak k a h; ⟨u, e a u hu, n⟩
  gt := R.gt
  tab := R.tab.ext e
/-- what stands apart is taken for data -/
theorem Rep.adopt (R : Rep K tb al G c H) {a : Addr} {u : HO} (hu : H a = some u) (hn : ¬ Liv al c a) (ht : ∀ ps, u ≠ .tbl ps) : Rep K tb al (upd G a u) c H ∧ Ex G (upd G a u) := by
  have ex : Ex G (upd G a u) := fun b w h => by
    by_cases e : b = a
    · rw [e] at h ⊢
      rw [R.sub _ _ h] at hu
      rw [upd_same, ← hu]
    · rw [upd_ne e]; exact h
  refine ⟨{ R with sub := fun b w h => ?_, ent := fun k b s h1 h2 => Ent.ext (R.ent k b s h1 h2) (fun _ _ => id) ex fun w hw => hw, out := fun k b s h1 h2 h3 => ?_, gt := fun b ps h => ?_ }, ex⟩
  · by_cases e : b = a
    · rw [e, upd_same] at h; rw [e, hu]; exact h
    · rw [upd_ne e] at h; exact R.sub b w h
  · have e : b ≠ a := fun z => hn ⟨k, s, by rw [← z]; exact h1, h2, h3⟩
    rw [upd_ne e]
    exact R.out k b s h1 h2 h3
  · by_cases e : b = a
    · rw [e, upd_same] at h; exact ht ps (Option.some.inj h)
    · rw [upd_ne e] at h; exact R.gt b ps h
theorem Le.grow (e : Ex H H') : Le al G c H al G c H' where
  ad _ _ := id
  g := Ex.refl _
  fr a u h _ _ := e a u h
  nl a := .inl
  dom a h o ho := h o (e a o ho)
  gn _ _ h := .inl ⟨_, h⟩
  nd k _ h := .inl ⟨k, h⟩
theorem get_app {α : Type} {xs : List α} {y x : α} {k : Nat} (h : (xs ++ [y])[k]? = some x) : xs[k]? = some x ∨ (k = xs.length ∧ x = y) := by
  by_cases hk : k < xs.length
  · rw [List.getElem?_append_left hk] at h
    exact .inl h
  · rw [List.getElem?_append_right (by omega)] at h
    by_cases e : k - xs.length = 0
    · rw [e] at h
      simp at h
      exact .inr ⟨by omega, h.symm⟩
    · obtain ⟨j, hj⟩ : ∃ j, k - xs.length = j + 1 := ⟨k - xs.length - 1, by omega⟩
      rw [hj] at h
      simp at h
theorem app_get {α : Type} {xs : List α} {y x : α} {k : Nat} (h : xs[k]? = some x) : (xs ++ [y])[k]? = some x := by
  rw [List.getElem?_append_left (List.getElem?_eq_some_iff.mp h).1]
  exact h
/-- a new object that may change -/
theorem Rep.obj (R : Rep K tb al G c H) {p : Addr} {o : SO} (hn : H p = none) (ex : Ex H H') (he : Ent K (al ++ [p]) G H' p o) (hl : o.live = true) : Rep K tb (al ++ [p]) G (c ++ [o]) H' where
  len := by rw [List.length_append, List.length_append, R.len]; rfl
  sub := R.sub.trans ex
  ent k a s h1 h2 := by
    rcases get_app h1 with g1 | ⟨e1, e2⟩
    · rcases get_app h2 with g2 | ⟨e3, e4⟩
      · exact Ent.ext (R.ent k a s g1 g2) (fun _ _ => app_get) (Ex.refl _) fun u hu => ex a u hu
      · have := R.den_some g1
        omega
    · rcases get_app h2 with g2 | ⟨e3, e4⟩
      · have := (List.getElem?_eq_some_iff.mp g2).1
        have := R.len
        omega
      · subst e2 e4
        exact he
  out k a s h1 h2 h3 := by
    rcases get_app h1 with g1 | ⟨e1, e2⟩
    · rcases get_app h2 with g2 | ⟨e3, e4⟩
      · exact R.out k a s g1 g2 h3
      · have := R.den_some g1
        omega
    · rw [e2]
      exact R.fresh hn
  inj i j a s h1 h2 h3 h4 := by
    have nw : ∀ k : Nat, al[k]? ≠ some p := fun k g => by
      obtain ⟨u, hu, _⟩ := R.tak k p g
      rw [hn] at hu
      cases hu
    rcases get_app h1 with g1 | ⟨e1, e2⟩
    · rcases get_app h2 with g2 | ⟨e3, e4⟩
      · rcases get_app h3 with g3 | ⟨e5, e6⟩
        · exact R.inj i j a s g1 g2 g3 h4
        · have := R.den_some g1
          omega
      · rw [e4] at g1
        exact absurd g1 (nw i)
    · rcases get_app h2 with g2 | ⟨e3, e4⟩
      · rw [e2] at g2
        exact absurd g2 (nw j)
      · omega
  tak k a h := by
    rcases get_app h with g | ⟨_, e⟩
    · obtain ⟨u, hu, n⟩ := R.tak k a g
      exact ⟨u, ex a u hu, n⟩
    · subst e
      obtain ⟨u, hu, n, _⟩ := Ent.there he hl
      exact ⟨u, hu, n⟩
  gt := R.gt
  tab := R.tab.ext ex
theorem Le.obj {p : Addr} {o : SO} (R : Rep K tb al G c H) (hn : H p = none) (ex : Ex H H') : Le al G c H (al ++ [p]) G (c ++ [o]) H' where
  ad _ _ := app_get
  g := Ex.refl _
  fr a u h _ _ := ex a u h
  nl a h := by
    obtain ⟨k, s, h1, h2, h3⟩ := h
    rcases get_app h1 with g1 | ⟨e1, e2⟩
    · rcases get_app h2 with g2 | ⟨e3, e4⟩
      · exact .inl ⟨k, s, g1, g2, h3⟩
      · have := R.den_some g1
        omega
    · rw [e2]
      exact .inr (.of hn)
  dom a h o ho := h o (ex a o ho)
  gn _ _ h := .inl ⟨_, h⟩
  nd k a h := by
    rcases get_app h with g | ⟨_, e⟩
    · exact .inl ⟨k, g⟩
    · rw [e]; exact .inr (.of hn)
theorem set_get {α : Type} {xs : List α} {y x : α} {i k : Nat} (h : (xs.set i y)[k]? = some x) : (k = i ∧ x = y) ∨ (k ≠ i ∧ xs[k]? = some x) := by
  rw [List.getElem?_set] at h
  by_cases e : i = k
  · rw [if_pos e] at h
    split at h
    · cases h
      exact .inl ⟨e.symm, rfl⟩
    · cases h
  · rw [if_neg e] at h
    exact .inr ⟨fun z => e z.symm, h⟩
/-- an object changes -/
theorem Rep.change (R : Rep K tb al G c H) {k : Nat} {a : Addr} {s o : SO} {u : HO} (ha : al[k]? = some a) (hs : c[k]? = some s) (hl : s.live = true) (he : Ent K al G (upd H a u) a o) (ho : o.live = true) : Rep K tb al G (c.set k o) (upd H a u) where
  len := by rw [List.length_set]; exact R.len
  sub b w h := by
    rw [upd_ne (fun z => by rw [z, R.out k a s ha hs hl] at h; cases h)]
    exact R.sub b w h
  ent j b q h1 h2 := by
    rcases set_get h2 with ⟨e1, e2⟩ | ⟨e1, e2⟩
    · subst e1 e2
      rw [ha] at h1
      cases h1
      exact he
    · by_cases e : b = a
      · subst e
        exact absurd (R.inj k j b s ha h1 hs hl).symm e1
      · exact Ent.ext (R.ent j b q h1 e2) (fun _ _ => id) (Ex.refl _) fun w hw => by rw [upd_ne e]; exact hw
  out j b q h1 h2 h3 := by
    rcases set_get h2 with ⟨e1, e2⟩ | ⟨e1, e2⟩
    · subst e1
      rw [ha] at h1
      cases h1
      exact R.out j a s ha hs hl
    · exact R.out j b q h1 e2 h3
  inj i j b q h1 h2 h3 h4 := by
    rcases set_get h3 with ⟨e1, e2⟩ | ⟨e1, e2⟩
    · subst e1
      exact R.inj i j b s h1 h2 hs hl
    · exact R.inj i j b q h1 h2 e2 h4
  tak j b h := by
    by_cases e : b = a
    · subst e
      obtain ⟨w, h1, h2, _⟩ := Ent.there he ho
      exact ⟨w, h1, h2⟩
    · rw [upd_ne e]; exact R.tak j b h
  gt := R.gt
  tab := by
    obtain ⟨w, h1, h2, h3⟩ := Ent.there (R.ent k a s ha hs) hl
    exact tabs_upd R.tab h1 h2 h3
theorem Le.change (R : Rep K tb al G c H) {k : Nat} {a : Addr} {s o : SO} {u : HO} (ha : al[k]? = some a) (hs : c[k]? = some s) (hl : s.live = true) (hu : ∀ ps, u ≠ .tbl ps) : Le al G c H al G (c.set k o) (upd H a u) where
  ad _ _ := id
  g := Ex.refl _
  fr b w h n _ := by
    have e : b ≠ a := fun z => n ⟨k, s, by rw [z]; exact ha, hs, hl⟩
    rw [upd_ne e]
    exact h
  nl b h := by
    obtain ⟨j, q, h1, h2, h3⟩ := h
    rcases set_get h2 with ⟨e1, e2⟩ | ⟨e1, e2⟩
    · subst e1
      exact .inl ⟨j, s, h1, hs, hl⟩
    · exact .inl ⟨j, q, h1, e2, h3⟩
  dom b h := by
    obtain ⟨w, h1, h2, _⟩ := Ent.there (R.ent k a s ha hs) hl
    exact fr_upd (.inr ⟨w, h1, h2⟩) hu h
  gn _ _ h := .inl ⟨_, h⟩
  nd k _ h := .inl ⟨k, h⟩
/-- an object becomes data -/
theorem Rep.freeze (R : Rep K tb al G c H) {k : Nat} {a : Addr} {s : SO} {u : HO} {d : D} (ha : al[k]? = some a) (hs : c[k]? = some s) (hl : s.live = true) (hu : H a = some u) (hd : Den K al (upd G a u) (.ref a) d) : Rep K tb al (upd G a u) (c.set k (.frz d)) H where
  len := by rw [List.length_set]; exact R.len
  sub b w h := by
    by_cases e : b = a
    · rw [e, upd_same] at h; rw [e, hu]; exact h
    · rw [upd_ne e] at h; exact R.sub b w h
  ent j b q h1 h2 := by
    rcases set_get h2 with ⟨e1, e2⟩ | ⟨e1, e2⟩
    · subst e1 e2
      rw [ha] at h1
      cases h1
      exact hd
    · exact Ent.ext (R.ent j b q h1 e2) (fun _ _ => id) (Ex.new (R.out k a s ha hs hl)) fun w hw => hw
  out j b q h1 h2 h3 := by
    rcases set_get h2 with ⟨e1, e2⟩ | ⟨e1, e2⟩
    · subst e2
      cases h3
    · have e : b ≠ a := fun z => e1 (R.inj k j a s ha (by rw [← z]; exact h1) hs hl).symm
      rw [upd_ne e]
      exact R.out j b q h1 e2 h3
  inj i j b q h1 h2 h3 h4 := by
    rcases set_get h3 with ⟨e1, e2⟩ | ⟨e1, e2⟩
    · subst e2
      cases h4
    · exact R.inj i j b q h1 h2 e2 h4
  tak := R.tak
  gt b ps h := by
    by_cases e : b = a
    · rw [e, upd_same] at h
      obtain ⟨w, h1, h2, _⟩ := Ent.there (R.ent k a s ha hs) hl
      rw [hu] at h1
      cases h1
      exact h2 ps (Option.some.inj h)
    · rw [upd_ne e] at h; exact R.gt b ps h
  tab := R.tab
theorem Le.freeze (R : Rep K tb al G c H) {k : Nat} {a : Addr} {s : SO} {u : HO} {d : D} (ha : al[k]? = some a) (hs : c[k]? = some s) (hl : s.live = true) : Le al G c H al (upd G a u) (c.set k (.frz d)) H where
  ad _ _ := id
  g := Ex.new (R.out k a s ha hs hl)
  fr b w h n _ := h
  nl b h := by
    obtain ⟨j, q, h1, h2, h3⟩ := h
    rcases set_get h2 with ⟨e1, e2⟩ | ⟨e1, e2⟩
    · subst e2
      cases h3
    · exact .inl ⟨j, q, h1, e2, h3⟩
  dom b h := h
  gn b w h := by
    by_cases e : b = a
    · rw [e]; exact .inr (.inr ⟨k, s, ha, hs, hl⟩)
    · rw [upd_ne e] at h; exact .inl ⟨_, h⟩
  nd k _ h := .inl ⟨k, h⟩
end
mutual
def nb (n : Nat) : D → Bool
  | .lst xs => nbL n xs
  | .scr xs => nbL n xs
  | .tup xs => nbL n xs
  | .btp xs => nbL n xs
  | .exc _ xs => nbF n xs
  | .dic xs => nbK n xs
  | .ins _ xs => nbF n xs
  | .obj k => decide (k < n)
  | _ => true
def nbL (n : Nat) : List D → Bool
  | [] => true
  | x :: xs => nb n x && nbL n xs
def nbK (n : Nat) : List (Key × D) → Bool
  | [] => true
  | (_, x) :: xs => nb n x && nbK n xs
def nbF (n : Nat) : List (Str × D) → Bool
  | [] => true
  | (_, x) :: xs => nb n x && nbF n xs
end
section
variable {K : PySem.W.Frag} {al : List Addr} {G : Hp} {n : Nat}
mutual
theorem Den.cut : ∀ {v : V} {d : D}, Den K al G v d → nb n d = true → Den K (al.take n) G v d
  | _, _, .non, _ => .non
  | _, _, .bl b, _ => .bl b
  | _, _, .int i, _ => .int i
  | _, _, .str z, _ => .str z
  | _, _, .ty n, _ => .ty n
  | _, _, .adr a, _ => .adr a
  | _, _, .lst h r, e => .lst h (DenL.cut r (by simpa [nb] using e))
  | _, _, .scr h r, e => .scr h (DenL.cut r (by simpa [nb] using e))
  | _, _, .exc h h2 h3 r, e => .exc h h2 h3 (DenF.cut r (by simpa [nb] using e))
  | _, _, .tup h r, e => .tup h (DenL.cut r (by simpa [nb] using e))
  | _, _, .btp h r, e => .btp h (DenL.cut r (by simpa [nb] using e))
  | _, _, .dic h r, e => .dic h (DenK.cut r (by simpa [nb] using e))
  | _, _, .ins h r, e => .ins h (DenF.cut r (by simpa [nb] using e))
  | _, _, .obj h, e => .obj (by
      simp only [nb, decide_eq_true_eq] at e
      rw [List.getElem?_take_of_lt e]
      exact h)
theorem DenL.cut : ∀ {v : List V} {d : List D}, DenL K al G v d → nbL n d = true → DenL K (al.take n) G v d
  | _, _, .nil, _ => .nil
  | _, _, .cons h r, e => .cons (Den.cut h (by simp [nbL] at e; exact e.1)) (DenL.cut r (by simp [nbL] at e; exact e.2))
theorem DenK.cut : ∀ {v : List (Key × V)} {d : List (Key × D)}, DenK K al G v d → nbK n d = true → DenK K (al.take n) G v d
  | _, _, .nil, _ => .nil
  | _, _, .cons h r, e => .cons (Den.cut h (by simp [nbK] at e; exact e.1)) (DenK.cut r (by simp [nbK] at e; exact e.2))
theorem DenF.cut : ∀ {v : List (Str × V)} {d : List (Str × D)}, DenF K al G v d → nbF n d = true → DenF K (al.take n) G v d
  | _, _, .nil, _ => .nil
  | _, _, .cons h r, e => .cons (Den.cut h (by simp [nbF] at e; exact e.1)) (DenF.cut r (by simp [nbF] at e; exact e.2))
end
mutual
theorem Den.nb (hn : al.length ≤ n) : ∀ {v : V} {d : D}, Den K al G v d → nb n d = true
  | _, _, .non => rfl
  | _, _, .bl b => rfl
  | _, _, .int i => rfl
  | _, _, .str z => rfl
  | _, _, .ty n => rfl
  | _, _, .adr a => rfl
  | _, _, .lst h r => by simpa [M.nb] using DenL.nb hn r
  | _, _, .scr h r => by simpa [M.nb] using DenL.nb hn r
  | _, _, .exc h h2 h3 r => by simpa [M.nb] using DenF.nb hn r
  | _, _, .tup h r => by simpa [M.nb] using DenL.nb hn r
  | _, _, .btp h r => by simpa [M.nb] using DenL.nb hn r
  | _, _, .dic h r => by simpa [M.nb] using DenK.nb hn r
  | _, _, .ins h r => by simpa [M.nb] using DenF.nb hn r
  | _, _, .obj h => by
    have := (List.getElem?_eq_some_iff.mp h).1
    simp only [M.nb, decide_eq_true_eq]
    omega
theorem DenL.nb (hn : al.length ≤ n) : ∀ {v : List V} {d : List D}, DenL K al G v d → nbL n d = true
  | _, _, .nil => rfl
  | _, _, .cons h r => by simp [nbL, Den.nb hn h, DenL.nb hn r]
theorem DenK.nb (hn : al.length ≤ n) : ∀ {v : List (Key × V)} {d : List (Key × D)}, DenK K al G v d → nbK n d = true
  | _, _, .nil => rfl
  | _, _, .cons h r => by simp [nbK, Den.nb hn h, DenK.nb hn r]
theorem DenF.nb (hn : al.length ≤ n) : ∀ {v : List (Str × V)} {d : List (Str × D)}, DenF K al G v d → nbF n d = true
  | _, _, .nil => rfl
  | _, _, .cons h r => by simp [nbF, Den.nb hn h, DenF.nb hn r]
end
end
def SO.nb (n : Nat) : SO → Bool
  | .lst xs => nbL n xs
  | .dic xs => nbK n xs
  | .ins _ xs => nbF n xs
  | .frz d => M.nb n d
  | .box _ => true
  | .lck _ _ xs => nbK n xs
section
variable {K : PySem.W.Frag} {tb : List (Addr × Str)} {al al' : List Addr} {G G' : Hp} {c c' : SH} {H H' : Hp} {v : V} {d : D} {n : Nat}
theorem Ent.cut {a : Addr} {o : SO} (h : Ent K al G H a o) (e : o.nb n = true) : Ent K (al.take n) G H a o := by
  cases o with
  | lst xs => obtain ⟨vs, h, r⟩ := h; exact ⟨vs, h, r.cut e⟩
  | dic xs => obtain ⟨vs, h, r⟩ := h; exact ⟨vs, h, r.cut e⟩
  | ins C xs => obtain ⟨dx, vs, h, r⟩ := h; exact ⟨dx, vs, h, r.cut e⟩
  | frz d => exact Den.cut h e
  | box n => exact h
  | lck ob vs xs => obtain ⟨h, r⟩ := h; exact ⟨h, r.cut e⟩
theorem Ent.nb {a : Addr} {o : SO} (h : Ent K al G H a o) (hn : al.length ≤ n) : o.nb n = true := by
  cases o with
  | lst xs => obtain ⟨vs, h, r⟩ := h; exact r.nb hn
  | dic xs => obtain ⟨vs, h, r⟩ := h; exact r.nb hn
  | ins C xs => obtain ⟨dx, vs, h, r⟩ := h; exact r.nb hn
  | frz d => exact Den.nb hn h
  | box n => rfl
  | lck ob vs xs => obtain ⟨h, r⟩ := h; exact r.nb hn
theorem take_get {α : Type} {xs : List α} {n k : Nat} {x : α} (h : (xs.take n)[k]? = some x) : k < n ∧ xs[k]? = some x := by
  rw [List.getElem?_take] at h
  split at h
  · exact ⟨by assumption, h⟩
  · cases h
/-- objects are let go -/
theorem Rep.cut (R : Rep K tb al G c H) (h : ∀ o ∈ c.take n, o.nb n = true) : Rep K tb (al.take n) G (c.take n) H where
  len := by rw [List.length_take, List.length_take, R.len]
  sub := R.sub
  ent k a o h1 h2 := Ent.cut (R.ent k a o (take_get h1).2 (take_get h2).2) (h o (List.mem_of_getElem? h2))
  out k a o h1 h2 h3 := R.out k a o (take_get h1).2 (take_get h2).2 h3
  inj i j a o h1 h2 h3 h4 := R.inj i j a o (take_get h1).2 (take_get h2).2 (take_get h3).2 h4
  tak k a h := R.tak k a (take_get h).2
  gt := R.gt
  tab := R.tab
theorem Le.cut (l : Le al G c H al' G' c' H') (hn : al.length ≤ n) : Le al G c H (al'.take n) G' (c'.take n) H' where
  ad k a h := by
    have := (List.getElem?_eq_some_iff.mp h).1
    rw [List.getElem?_take_of_lt (by omega)]
    exact l.ad k a h
  g := l.g
  fr := l.fr
  nl a h := by
    obtain ⟨k, o, h1, h2, h3⟩ := h
    exact l.nl a ⟨k, o, (take_get h1).2, (take_get h2).2, h3⟩
  dom := l.dom
  gn := l.gn
  nd k a h := l.nd k a (take_get h).2
/-- behind a lambda's making -/
theorem Rep.extn (R : Rep K tb al G c H) (e : LamX.ExtN H H') (t : LamX.Tabs tb H') : Rep K tb al G c H' where
  len := R.len
  sub a o h := e a o (R.sub a o h) fun ps z => R.gt a ps (by rw [h, z])
  ent k a s h1 h2 := Ent.ext (R.ent k a s h1 h2) (fun _ _ => id) (Ex.refl _) fun u hu => by
    obtain ⟨w, hw, n⟩ := R.tak k a h1
    rw [hw] at hu
    exact e a u (hw.trans hu) (Option.some.inj hu ▸ n)
  out := R.out
  inj := R.inj
  tak k a h := let ⟨u, hu, n⟩ := R.tak k a h; ⟨u, e a u hu n, n⟩
  gt := R.gt
  tab := t
theorem Le.extn (e : LamX.ExtN H H') : Le al G c H al G c H' where
  ad _ _ := id
  g := Ex.refl _
  fr a u h _ n := e a u h n
  nl a := .inl
  dom a h o ho := by
    by_cases t : ∃ ps, o = .tbl ps
    · exact t
    · exact h o (e a o ho fun ps z => t ⟨ps, z⟩)
  gn _ _ h := .inl ⟨_, h⟩
  nd k _ h := .inl ⟨k, h⟩
theorem Le.adopt (l : Le al G c H al' G' c' H') {a : Addr} {u : HO} (hu : H' a = some u) (ex : Ex G' (upd G' a u)) (hf : Fr H a) : Le al G c H al' (upd G' a u) c' H' where
  ad := l.ad
  g := l.g.trans ex
  fr := l.fr
  nl := l.nl
  dom := l.dom
  gn b w h := by
    by_cases e : b = a
    · rw [e]; exact .inr (.inl hf)
    · rw [upd_ne e] at h; exact l.gn b w h
  nd := l.nd
end
end M
set_option Elab.async false
set_option linter.all false
set_option maxRecDepth 100000
set_option maxHeartbeats 3900000
namespace M
open PySem PySem.Spec PyProof.Rows L2 G
abbrev Env := List (Option D)
def SRel (K : PySem.W.Frag) (al : List Addr) (G : Hp) (σ : L2.St) (δ : Env) : Prop := σ.length = δ.length ∧ ∀ (i : Nat) (d : D), δ[i]? = some (some d) → ∃ v, σ[i]? = some (some v) ∧ Den K al G v d
abbrev QD := D → SH → Prop
abbrev XD := Addr → Str → D → SH → Prop
abbrev Fn := List D → SH → XD → QD → Prop
abbrev ME := Env → SH → XD → QD → Prop
abbrev MT := Env → SH → XD → (Bool → SH → Prop) → Prop
abbrev MA := Env → SH → XD → (List D → SH → Prop) → Prop
abbrev MO := Env → SH → XD → (Option Int → SH → Prop) → Prop
section
variable (K : PySem.W.Frag) (tb : List (Addr × Str)) (al : List Addr) (G : Hp) (c : SH) (H : Hp)
def Ret (Φ : QD) (Q : VK) : Prop := ∀ (d : D) (c' : SH) (al' : List Addr) (G' H' : Hp) (v : V), Rep K tb al' G' c' H' → Le al G c H al' G' c' H' → Den K al' G' v d → Φ d c' → Q v H'
def RetT (Φ : Bool → SH → Prop) (Q : Bool → Hp → Prop) : Prop := ∀ (b : Bool) (c' : SH) (al' : List Addr) (G' H' : Hp), Rep K tb al' G' c' H' → Le al G c H al' G' c' H' → Φ b c' → Q b H'
def RetO (Φ : Option Int → SH → Prop) (Q : Option Int → Hp → Prop) : Prop := ∀ (b : Option Int) (c' : SH) (al' : List Addr) (G' H' : Hp), Rep K tb al' G' c' H' → Le al G c H al' G' c' H' → Φ b c' → Q b H'
def RetA (Φ : List D → SH → Prop) (Q : List V → Hp → Prop) : Prop := ∀ (ds : List D) (c' : SH) (al' : List Addr) (G' H' : Hp) (vs : List V), Rep K tb al' G' c' H' → Le al G c H al' G' c' H' → DenL K al' G' vs ds → Φ ds c' → Q vs H'
def RetH (Φ : SH → Prop) (N : Hp → Prop) : Prop := ∀ (c' : SH) (al' : List Addr) (G' H' : Hp), Rep K tb al' G' c' H' → Le al G c H al' G' c' H' → Φ c' → N H'
def RetE (Φ : Env → SH → Prop) (N : L2.St → Hp → Prop) : Prop := ∀ (δ : Env) (c' : SH) (al' : List Addr) (G' H' : Hp) (σ : L2.St), Rep K tb al' G' c' H' → Le al G c H al' G' c' H' → SRel K al' G' σ δ → Φ δ c' → N σ H'
def Thr (Ψ : XD) (E : XK) : Prop := ∀ (C : Addr) (f : Str) (d : D) (c' : SH) (al' : List Addr) (G' H' : Hp) (dd : Addr) (v : V), Rep K tb al' G' c' H' → Le al G c H al' G' c' H' → Fr H dd → H' dd = some (.xd [(f, v)]) → Den K al' G' v d → Ψ C f d c' → E (.ref C) (some dd) H'
def ThrS (Ψ : Addr → Str → D → Env → SH → Prop) (W : WX) : Prop := ∀ (C : Addr) (f : Str) (d : D) (δ : Env) (c' : SH) (al' : List Addr) (G' H' : Hp) (dd : Addr) (v : V) (σ : L2.St), Rep K tb al' G' c' H' → Le al G c H al' G' c' H' → SRel K al' G' σ δ → Fr H dd → H' dd = some (.xd [(f, v)]) → Den K al' G' v d → Ψ C f d δ c' → W (.ref C) (some dd) σ H'
structure Go (W : WX) (σ : L2.St) (δ : Env) (Ψ : XD) : Prop where
  rep : Rep K tb al G c H
  env : SRel K al G σ δ
  thr : Thr K tb al G c H Ψ fun C d H' => W C d σ H'
end
section
variable {K : PySem.W.Frag} {tb : List (Addr × Str)} {al al' : List Addr} {G G' : Hp} {c c' : SH} {H H' : Hp} {W : WX} {σ : L2.St} {δ : Env} {Ψ : XD}
theorem SRel.le (h : SRel K al G σ δ) (l : Le al G c H al' G' c' H') : SRel K al' G' σ δ := ⟨h.1, fun i d e => let ⟨v, h1, h2⟩ := h.2 i d e; ⟨v, h1, h2.le l⟩⟩
theorem SRel.set {v : V} {d : D} {i : Nat} (h : SRel K al G σ δ) (q : Den K al G v d) : SRel K al G (σ.set i (some v)) (δ.set i (some d)) := by
  refine ⟨by rw [List.length_set, List.length_set]; exact h.1, fun j e he => ?_⟩
  rcases set_get he with ⟨rfl, e2⟩ | ⟨n, e2⟩
  · cases e2
    have hj : j < δ.length := by
      have := (List.getElem?_eq_some_iff.mp he).1
      rwa [List.length_set] at this
    refine ⟨v, ?_, q⟩
    rw [List.getElem?_set, if_pos rfl, if_pos (by rw [h.1]; exact hj)]
  · obtain ⟨u, h1, h2⟩ := h.2 j e e2
    refine ⟨u, ?_, h2⟩
    rw [List.getElem?_set, if_neg (fun z => n z.symm)]
    exact h1
theorem SRel.wipe1 {i : Nat} {o : Option V} (h : SRel K al G σ δ) : SRel K al G (σ.set i o) (δ.set i none) := by
  refine ⟨by rw [List.length_set, List.length_set]; exact h.1, fun j e he => ?_⟩
  rcases set_get he with ⟨rfl, e2⟩ | ⟨n, e2⟩
  · cases e2
  · obtain ⟨u, h1, h2⟩ := h.2 j e e2
    refine ⟨u, ?_, h2⟩
    rw [List.getElem?_set, if_neg (fun z => n z.symm)]
    exact h1
theorem Ret.le {Φ : QD} {Q : VK} (h : Ret K tb al G c H Φ Q) (l : Le al G c H al' G' c' H') : Ret K tb al' G' c' H' Φ Q := fun d c2 al2 G2 H2 v r l2 => h d c2 al2 G2 H2 v r (l.trans l2)
theorem RetT.le {Φ : Bool → SH → Prop} {Q : Bool → Hp → Prop} (h : RetT K tb al G c H Φ Q) (l : Le al G c H al' G' c' H') : RetT K tb al' G' c' H' Φ Q := fun d c2 al2 G2 H2 r l2 => h d c2 al2 G2 H2 r (l.trans l2)
theorem RetO.le {Φ : Option Int → SH → Prop} {Q : Option Int → Hp → Prop} (h : RetO K tb al G c H Φ Q) (l : Le al G c H al' G' c' H') : RetO K tb al' G' c' H' Φ Q := fun d c2 al2 G2 H2 r l2 => h d c2 al2 G2 H2 r (l.trans l2)
theorem RetA.le {Φ : List D → SH → Prop} {Q : List V → Hp → Prop} (h : RetA K tb al G c H Φ Q) (l : Le al G c H al' G' c' H') : RetA K tb al' G' c' H' Φ Q := fun d c2 al2 G2 H2 v r l2 => h d c2 al2 G2 H2 v r (l.trans l2)
theorem RetH.le {Φ : SH → Prop} {N : Hp → Prop} (h : RetH K tb al G c H Φ N) (l : Le al G c H al' G' c' H') : RetH K tb al' G' c' H' Φ N := fun c2 al2 G2 H2 r l2 => h c2 al2 G2 H2 r (l.trans l2)
theorem RetE.le {Φ : Env → SH → Prop} {N : L2.St → Hp → Prop} (h : RetE K tb al G c H Φ N) (l : Le al G c H al' G' c' H') : RetE K tb al' G' c' H' Φ N := fun d c2 al2 G2 H2 s r l2 => h d c2 al2 G2 H2 s r (l.trans l2)
theorem Thr.le {E : XK} (h : Thr K tb al G c H Ψ E) (l : Le al G c H al' G' c' H') : Thr K tb al' G' c' H' Ψ E := fun C f d c2 al2 G2 H2 dd v r l2 fr => h C f d c2 al2 G2 H2 dd v r (l.trans l2) (l.dom dd fr)
theorem ThrS.le {Ψ : Addr → Str → D → Env → SH → Prop} (h : ThrS K tb al G c H Ψ W) (l : Le al G c H al' G' c' H') : ThrS K tb al' G' c' H' Ψ W := fun C f d e c2 al2 G2 H2 dd v s r l2 sr fr => h C f d e c2 al2 G2 H2 dd v s r (l.trans l2) sr (l.dom dd fr)
theorem Go.le (g : Go K tb al G c H W σ δ Ψ) (r : Rep K tb al' G' c' H') (l : Le al G c H al' G' c' H') : Go K tb al' G' c' H' W σ δ Ψ := ⟨r, g.env.le l, g.thr.le l⟩
end
section
variable (K : PySem.W.Frag) (tb : List (Addr × Str)) (W : WX)
def SndE (t : TE) (m : ME) : Prop := ∀ al G c H σ δ Ψ Φ Q, Go K tb al G c H W σ δ Ψ → m δ c Ψ Φ → Ret K tb al G c H Φ Q → t σ H Q
def SndT (t : TT) (m : MT) : Prop := ∀ al G c H σ δ Ψ Φ Q, Go K tb al G c H W σ δ Ψ → m δ c Ψ Φ → RetT K tb al G c H Φ Q → t σ H Q
def SndA (t : TA) (m : MA) : Prop := ∀ al G c H σ δ Ψ Φ Q, Go K tb al G c H W σ δ Ψ → m δ c Ψ Φ → RetA K tb al G c H Φ Q → t σ H Q
def SndO (t : TO) (m : MO) : Prop := ∀ al G c H σ δ Ψ Φ Q, Go K tb al G c H W σ δ Ψ → m δ c Ψ Φ → RetO K tb al G c H Φ Q → t σ H Q
/-- operators, calls by values -/
def DOp (r : R2) (op : D → D → SH → QD → Prop) : Prop := ∀ al G c H x y dx dy Φ Q, Rep K tb al G c H → Den K al G x dx → Den K al G y dy → op dx dy c Φ → Ret K tb al G c H Φ Q → r x y H Q
def DUn (r : V → Hp → VK → Prop) (op : D → SH → QD → Prop) : Prop := ∀ al G c H x dx Φ Q, Rep K tb al G c H → Den K al G x dx → op dx c Φ → Ret K tb al G c H Φ Q → r x H Q
def DCall (r : List V → Hp → VK → Prop) (op : List D → SH → QD → Prop) : Prop := ∀ al G c H xs ds Φ Q, Rep K tb al G c H → DenL K al G xs ds → op ds c Φ → Ret K tb al G c H Φ Q → r xs H Q
def DMt (r : V → List V → Hp → VK → Prop) (op : D → List D → SH → QD → Prop) : Prop := ∀ al G c H x xs dx ds Φ Q, Rep K tb al G c H → Den K al G x dx → DenL K al G xs ds → op dx ds c Φ → Ret K tb al G c H Φ Q → r x xs H Q
end
def varM (i : Nat) : ME := fun δ c _ Φ => match δ[i]? with
  | some (some d) => Φ d c
  | _ => False
def cM (d : D) : ME := fun _ c _ Φ => Φ d c
def opM (op : D → D → SH → QD → Prop) (a b : ME) : ME := fun δ c Ψ Φ => a δ c Ψ fun x c1 => b δ c1 Ψ fun y c2 => op x y c2 Φ
def unM (op : D → SH → QD → Prop) (a : ME) : ME := fun δ c Ψ Φ => a δ c Ψ fun x c1 => op x c1 Φ
def blD (x : D) (c : SH) (Φ : Bool → SH → Prop) : Prop := match x with
  | .bl k => Φ k c
  | _ => False
def testM (a : ME) : MT := fun δ c Ψ Φ => a δ c Ψ fun x c1 => blD x c1 Φ
def andT (a b : MT) : MT := fun δ c Ψ Φ => a δ c Ψ fun k c1 => if k = true then b δ c1 Ψ Φ else Φ false c1
def orT (a b : MT) : MT := fun δ c Ψ Φ => a δ c Ψ fun k c1 => if k = true then Φ true c1 else b δ c1 Ψ Φ
def notT (a : MT) : MT := fun δ c Ψ Φ => a δ c Ψ fun k c1 => Φ (!k) c1
def andM (a b : ME) : ME := fun δ c Ψ Φ => a δ c Ψ fun x c1 => blD x c1 fun k c1 => if k = true then b δ c1 Ψ Φ else Φ (.bl false) c1
def orM (a b : ME) : ME := fun δ c Ψ Φ => a δ c Ψ fun x c1 => blD x c1 fun k c1 => if k = true then Φ (.bl true) c1 else b δ c1 Ψ Φ
def notM (a : ME) : ME := fun δ c Ψ Φ => a δ c Ψ fun x c1 => blD x c1 fun k c1 => Φ (.bl (!k)) c1
def ifM (t : MT) (a b : ME) : ME := fun δ c Ψ Φ => t δ c Ψ fun k c1 => if k = true then a δ c1 Ψ Φ else b δ c1 Ψ Φ
def chainM (op op' : D → D → SH → QD → Prop) (a b e : ME) : ME := fun δ c Ψ Φ => a δ c Ψ fun x c1 => b δ c1 Ψ fun y c2 => op x y c2 fun z c3 => blD z c3 fun k c3 => if k = true then e δ c3 Ψ fun w c4 => op' y w c4 Φ else Φ (.bl false) c3
def nilM : MA := fun _ c _ Φ => Φ [] c
def consM (a : ME) (b : MA) : MA := fun δ c Ψ Φ => a δ c Ψ fun x c1 => b δ c1 Ψ fun xs c2 => Φ (x :: xs) c2
/-- a new list: an object that may change (lv), or data -/
def newL (lv : Bool) (xs : List D) (c : SH) (Φ : QD) : Prop := xs.length ≤ sizeLine ∧ if lv = true then Φ (.obj c.length) (c ++ [.lst xs]) else Φ (.lst xs) c
def lstM (lv : Bool) (a : MA) : ME := fun δ c Ψ Φ => a δ c Ψ fun xs c1 => newL lv xs c1 Φ
def tupM (a : MA) : ME := fun δ c Ψ Φ => a δ c Ψ fun xs c1 => xs.length ≤ sizeLine ∧ Φ (.tup xs) c1
def cbM (op : List D → SH → QD → Prop) (a : MA) : ME := fun δ c Ψ Φ => a δ c Ψ fun xs c1 => op xs c1 Φ
def callM (F : Fn) (ds : List D) (a : MA) : ME := fun δ c Ψ Φ => a δ c Ψ fun xs c1 => F (xs ++ ds) c1 Ψ Φ
def noPartM : MO := fun _ c _ Φ => Φ none c
def intD (x : D) (c : SH) (Φ : Int → SH → Prop) : Prop := match x with
  | .int i => Φ i c
  | _ => False
def partM (a : ME) : MO := fun δ c Ψ Φ => a δ c Ψ fun x c1 => intD x c1 fun i c1 => Φ (some i) c1
def slM (op : D → Option Int → Option Int → SH → QD → Prop) (a : ME) (lo hi : MO) : ME := fun δ c Ψ Φ => a δ c Ψ fun x c1 => lo δ c1 Ψ fun l c2 => hi δ c2 Ψ fun u c3 => op x l u c3 Φ
section
variable {K : PySem.W.Frag} {tb : List (Addr × Str)} {W : WX} {ta tb' tc te : TE} {a b e : ME} {t u : TT} {mt mu : MT} {tA : TA} {mA : MA}
theorem snd_var {i : Nat} : SndE K tb W (tVar i) (varM i) := by
  intro al G c H σ δ Ψ Φ Q g m r
  unfold varM at m
  split at m
  · rename_i d h
    obtain ⟨v, h1, h2⟩ := g.env.2 i d h
    exact ⟨v, h1, r d c al G H v g.rep .refl h2 m⟩
  · cases m
theorem snd_c {v : V} {d : D} (h : ∀ al G, Den K al G v d) : SndE K tb W (tC v) (cM d) := fun al G c H σ δ Ψ Φ Q g m r => r d c al G H v g.rep .refl (h al G) m
theorem snd_op {r : R2} {op : D → D → SH → QD → Prop} (ho : DOp K tb r op) (ha : SndE K tb W ta a) (hb : SndE K tb W tb' b) : SndE K tb W (tOp r ta tb') (opM op a b) := by
  intro al G c H σ δ Ψ Φ Q g m q
  refine ha al G c H σ δ Ψ _ _ g m fun x c1 al1 G1 H1 v r1 l1 d1 m1 => ?_
  refine hb al1 G1 c1 H1 σ δ Ψ _ _ (g.le r1 l1) m1 fun y c2 al2 G2 H2 w r2 l2 d2 m2 => ?_
  exact ho al2 G2 c2 H2 v w x y Φ Q r2 (d1.le l2) d2 m2 (q.le (l1.trans l2))
theorem snd_un {r : V → Hp → VK → Prop} {op : D → SH → QD → Prop} (ho : DUn K tb r op) (ha : SndE K tb W ta a) : SndE K tb W (tUn r ta) (unM op a) := by
  intro al G c H σ δ Ψ Φ Q g m q
  refine ha al G c H σ δ Ψ _ _ g m fun x c1 al1 G1 H1 v r1 l1 d1 m1 => ?_
  exact ho al1 G1 c1 H1 v x Φ Q r1 d1 m1 (q.le l1)
theorem blD_of {al : List Addr} {G : Hp} {x : D} {v : V} {c : SH} {Φ : Bool → SH → Prop} (m : blD x c Φ) (h : Den K al G v x) : ∃ k, v = .bl k ∧ Φ k c := by
  unfold blD at m
  split at m
  · cases h
    exact ⟨_, rfl, m⟩
  · cases m
theorem snd_test (ha : SndE K tb W ta a) : SndT K tb W (tTest ta) (testM a) := by
  intro al G c H σ δ Ψ Φ Q g m q
  refine ha al G c H σ δ Ψ _ _ g m fun x c1 al1 G1 H1 v r1 l1 d1 m1 => ?_
  obtain ⟨k, e, h⟩ := blD_of m1 d1
  exact ⟨k, e, q k c1 al1 G1 H1 r1 l1 h⟩
theorem snd_B (ha : SndE K tb W ta a) : SndT K tb W (tB ta) (testM a) := snd_test ha
theorem snd_and (ha : SndT K tb W t mt) (hb : SndT K tb W u mu) : SndT K tb W (tAnd t u) (andT mt mu) := by
  intro al G c H σ δ Ψ Φ Q g m q
  refine ha al G c H σ δ Ψ _ _ g m fun k c1 al1 G1 H1 r1 l1 m1 => ?_
  cases k with
  | true => exact iteT (hb al1 G1 c1 H1 σ δ Ψ _ _ (g.le r1 l1) m1 (q.le l1))
  | false => exact iteF (q false c1 al1 G1 H1 r1 l1 m1)
theorem snd_or (ha : SndT K tb W t mt) (hb : SndT K tb W u mu) : SndT K tb W (tOr t u) (orT mt mu) := by
  intro al G c H σ δ Ψ Φ Q g m q
  refine ha al G c H σ δ Ψ _ _ g m fun k c1 al1 G1 H1 r1 l1 m1 => ?_
  cases k with
  | false => exact iteF (hb al1 G1 c1 H1 σ δ Ψ _ _ (g.le r1 l1) m1 (q.le l1))
  | true => exact iteT (q true c1 al1 G1 H1 r1 l1 m1)
theorem snd_not (ha : SndT K tb W t mt) : SndT K tb W (tNot t) (notT mt) := by
  intro al G c H σ δ Ψ Φ Q g m q
  exact ha al G c H σ δ Ψ _ _ g m fun k c1 al1 G1 H1 r1 l1 m1 => q (!k) c1 al1 G1 H1 r1 l1 m1
theorem snd_andV (ha : SndE K tb W ta a) (hb : SndE K tb W tb' b) : SndE K tb W (tAndV ta tb') (andM a b) := by
  intro al G c H σ δ Ψ Φ Q g m q
  refine ha al G c H σ δ Ψ _ _ g m fun x c1 al1 G1 H1 v r1 l1 d1 m1 => ?_
  obtain ⟨k, e, h⟩ := blD_of m1 d1
  refine ⟨k, e, ?_⟩
  cases k with
  | true => exact iteT (hb al1 G1 c1 H1 σ δ Ψ _ _ (g.le r1 l1) h (q.le l1))
  | false => exact iteF (q (.bl false) c1 al1 G1 H1 _ r1 l1 (.bl false) h)
theorem snd_orV (ha : SndE K tb W ta a) (hb : SndE K tb W tb' b) : SndE K tb W (tOrV ta tb') (orM a b) := by
  intro al G c H σ δ Ψ Φ Q g m q
  refine ha al G c H σ δ Ψ _ _ g m fun x c1 al1 G1 H1 v r1 l1 d1 m1 => ?_
  obtain ⟨k, e, h⟩ := blD_of m1 d1
  refine ⟨k, e, ?_⟩
  cases k with
  | false => exact iteF (hb al1 G1 c1 H1 σ δ Ψ _ _ (g.le r1 l1) h (q.le l1))
  | true => exact iteT (q (.bl true) c1 al1 G1 H1 _ r1 l1 (.bl true) h)
theorem snd_notV (ha : SndE K tb W ta a) : SndE K tb W (tNotV ta) (notM a) := by
  intro al G c H σ δ Ψ Φ Q g m q
  refine ha al G c H σ δ Ψ _ _ g m fun x c1 al1 G1 H1 v r1 l1 d1 m1 => ?_
  obtain ⟨k, e, h⟩ := blD_of m1 d1
  exact ⟨k, e, q (.bl (!k)) c1 al1 G1 H1 _ r1 l1 (.bl _) h⟩
theorem snd_if (ht : SndT K tb W t mt) (ha : SndE K tb W ta a) (hb : SndE K tb W tb' b) : SndE K tb W (tIf t ta tb') (ifM mt a b) := by
  intro al G c H σ δ Ψ Φ Q g m q
  refine ht al G c H σ δ Ψ _ _ g m fun k c1 al1 G1 H1 r1 l1 m1 => ?_
  cases k with
  | true => exact iteT (ha al1 G1 c1 H1 σ δ Ψ _ _ (g.le r1 l1) m1 (q.le l1))
  | false => exact iteF (hb al1 G1 c1 H1 σ δ Ψ _ _ (g.le r1 l1) m1 (q.le l1))
theorem snd_chain {r r' : R2} {op op' : D → D → SH → QD → Prop} (ho : DOp K tb r op) (ho' : DOp K tb r' op') (ha : SndE K tb W ta a) (hb : SndE K tb W tb' b) (he : SndE K tb W tc e) : SndE K tb W (tChain r r' ta tb' tc) (chainM op op' a b e) := by
  intro al G c H σ δ Ψ Φ Q g m q
  refine ha al G c H σ δ Ψ _ _ g m fun x c1 al1 G1 H1 v r1 l1 d1 m1 => ?_
  refine hb al1 G1 c1 H1 σ δ Ψ _ _ (g.le r1 l1) m1 fun y c2 al2 G2 H2 w r2 l2 d2 m2 => ?_
  refine ho al2 G2 c2 H2 v w x y _ _ r2 (d1.le l2) d2 m2 fun z c3 al3 G3 H3 u r3 l3 d3 m3 => ?_
  obtain ⟨k, ek, h⟩ := blD_of m3 d3
  refine ⟨k, ek, ?_⟩
  cases k with
  | false => exact iteF (q (.bl false) c3 al3 G3 H3 _ r3 ((l1.trans l2).trans l3) (.bl false) h)
  | true =>
    refine iteT (he al3 G3 c3 H3 σ δ Ψ _ _ (g.le r3 ((l1.trans l2).trans l3)) h fun z4 c4 al4 G4 H4 u4 r4 l4 d4 m4 => ?_)
    exact ho' al4 G4 c4 H4 w u4 y z4 Φ Q r4 (d2.le (l3.trans l4)) d4 m4 (q.le (((l1.trans l2).trans l3).trans l4))
theorem snd_nil : SndA K tb W tNil nilM := fun al G c H σ δ Ψ Φ Q g m q => q [] c al G H [] g.rep .refl .nil m
theorem snd_cons (ha : SndE K tb W ta a) (hA : SndA K tb W tA mA) : SndA K tb W (tCons ta tA) (consM a mA) := by
  intro al G c H σ δ Ψ Φ Q g m q
  refine ha al G c H σ δ Ψ _ _ g m fun x c1 al1 G1 H1 v r1 l1 d1 m1 => ?_
  refine hA al1 G1 c1 H1 σ δ Ψ _ _ (g.le r1 l1) m1 fun xs c2 al2 G2 H2 vs r2 l2 d2 m2 => ?_
  exact q (x :: xs) c2 al2 G2 H2 (v :: vs) r2 (l1.trans l2) (.cons (d1.le l2) d2) m2
/-- a new list -/
theorem newL_ok {al : List Addr} {G : Hp} {c : SH} {H : Hp} {lv : Bool} {xs : List D} {vs : List V} {Φ : QD} {Q : VK} {p : Addr} (R : Rep K tb al G c H) (hp : H p = none) (hd : DenL K al G vs xs) (m : newL lv xs c Φ) (q : Ret K tb al G c H Φ Q) : Q (.ref p) (upd H p (.lst vs)) := by
  obtain ⟨_, m⟩ := m
  have hg := R.fresh hp
  cases lv with
  | false =>
    rw [if_neg (by decide)] at m
    exact q (.lst xs) c al (upd G p (.lst vs)) _ (.ref p) (R.data hp nofun) (Le.data hp hg nofun) (.lst upd_same (hd.mono (fun _ _ => id) (Ex.new hg))) m
  | true =>
    rw [if_pos rfl] at m
    have R2 : Rep K tb (al ++ [p]) G (c ++ [.lst xs]) (upd H p (.lst vs)) := R.obj hp (Ex.new hp) ⟨vs, upd_same, hd.mono (fun _ _ => app_get) (Ex.refl _)⟩ rfl
    refine q (.obj c.length) _ _ G _ (.ref p) R2 (Le.obj R hp (Ex.new hp)) (.obj ?_) m
    rw [← R.len, List.getElem?_append_right (Nat.le_refl _), Nat.sub_self]
    rfl
theorem snd_lst {lv : Bool} (hA : SndA K tb W tA mA) : SndE K tb W (tLst tA) (lstM lv mA) := by
  intro al G c H σ δ Ψ Φ Q g m q
  refine hA al G c H σ δ Ψ _ _ g m fun xs c1 al1 G1 H1 vs r1 l1 d1 m1 => ?_
  exact ⟨by rw [d1.length]; exact m1.1, fun p hp => newL_ok r1 hp d1 m1 (q.le l1)⟩
theorem snd_tup (hA : SndA K tb W tA mA) : SndE K tb W (tTup tA) (tupM mA) := by
  intro al G c H σ δ Ψ Φ Q g m q
  refine hA al G c H σ δ Ψ _ _ g m fun xs c1 al1 G1 H1 vs r1 l1 d1 m1 => ?_
  refine ⟨by rw [d1.length]; exact m1.1, fun p hp => ?_⟩
  have hg := r1.fresh hp
  exact q (.tup xs) c1 al1 (upd G1 p (.tup vs)) _ (.ref p) (r1.data hp nofun) (l1.trans (Le.data hp hg nofun)) (.tup upd_same (d1.mono (fun _ _ => id) (Ex.new hg))) m1.2
theorem snd_CB {rc : List V → Hp → VK → Prop} {op : List D → SH → QD → Prop} (ho : DCall K tb rc op) (hA : SndA K tb W tA mA) : SndE K tb W (tCB rc tA) (cbM op mA) := by
  intro al G c H σ δ Ψ Φ Q g m q
  refine hA al G c H σ δ Ψ _ _ g m fun xs c1 al1 G1 H1 vs r1 l1 d1 m1 => ?_
  exact ho al1 G1 c1 H1 vs xs Φ Q r1 d1 m1 (q.le l1)
theorem snd_noPart : SndO K tb W tNoPart noPartM := fun al G c H σ δ Ψ Φ Q g m q => q none c al G H g.rep .refl m
theorem snd_part (ha : SndE K tb W ta a) : SndO K tb W (tPart ta) (partM a) := by
  intro al G c H σ δ Ψ Φ Q g m q
  refine ha al G c H σ δ Ψ _ _ g m fun x c1 al1 G1 H1 v r1 l1 d1 m1 => ?_
  unfold intD at m1
  split at m1
  · cases d1
    exact ⟨_, rfl, q _ c1 al1 G1 H1 r1 l1 m1⟩
  · cases m1
theorem snd_sl {rs : V → Option Int → Option Int → Hp → VK → Prop} {op : D → Option Int → Option Int → SH → QD → Prop} {tl th : TO} {lo hi : MO}
    (ho : ∀ al G c H x dx l u Φ Q, Rep K tb al G c H → Den K al G x dx → op dx l u c Φ → Ret K tb al G c H Φ Q → rs x l u H Q) (ha : SndE K tb W ta a) (hl : SndO K tb W tl lo) (hh : SndO K tb W th hi) : SndE K tb W (tSl rs ta tl th) (slM op a lo hi) := by
  intro al G c H σ δ Ψ Φ Q g m q
  refine ha al G c H σ δ Ψ _ _ g m fun x c1 al1 G1 H1 v r1 l1 d1 m1 => ?_
  refine hl al1 G1 c1 H1 σ δ Ψ _ _ (g.le r1 l1) m1 fun l c2 al2 G2 H2 r2 l2 m2 => ?_
  refine hh al2 G2 c2 H2 σ δ Ψ _ _ (g.le r2 (l1.trans l2)) m2 fun u c3 al3 G3 H3 r3 l3 m3 => ?_
  exact ho al3 G3 c3 H3 v x l u Φ Q r3 (d1.le (l2.trans l3)) m3 (q.le ((l1.trans l2).trans l3))
/-- the promise of a def by its mirror -/
def SpG (K : PySem.W.Frag) (tb : List (Addr × Str)) (F : Fn) : Sp := fun vs H Q E => ∃ al G c as Ψ Φ, Rep K tb al G c H ∧ DenL K al G vs as ∧ F as c Ψ Φ ∧ Ret K tb al G c H Φ Q ∧ Thr K tb al G c H Ψ E
theorem DenL.appendC {al : List Addr} {G : Hp} {vs dvs : List V} {as ds : List D} (h : DenL K al G vs as) (hd : ∀ al G, DenL K al G dvs ds) : DenL K al G (vs ++ dvs) (as ++ ds) := h.append (hd al G)
theorem snd_call {F : Fn} {dvs : List V} {ds : List D} (hd : ∀ al G, DenL K al G dvs ds) (hA : SndA K tb W tA mA) : SndE K tb W (tCallSD (SpG K tb F) dvs (WE W) tA) (callM F ds mA) := by
  intro al G c H σ δ Ψ Φ Q g m q
  refine hA al G c H σ δ Ψ _ _ g m fun xs c1 al1 G1 H1 vs r1 l1 d1 m1 => ?_
  exact ⟨al1, G1, c1, xs ++ ds, Ψ, Φ, r1, d1.appendC hd, m1, q.le l1, g.thr.le l1⟩
end
end M
set_option Elab.async false
set_option linter.all false
set_option maxRecDepth 100000
set_option maxHeartbeats 3900000
namespace M
open PySem PySem.Spec PyProof.Rows L2 G
def tMethSD (C : Addr) (m : Str) (sp : Sp) (dvs : List V) (E : L2.St → XK) (ta : TE) (t : TA) : TE := fun σ H Q => ta σ H fun x H1 => ∃ a dx fs, x = .ref a ∧ H1 a = some (.ins C dx fs) ∧ fs.lookup m = none ∧
  t σ H1 fun vs H2 => sp (x :: (vs ++ dvs)) H2 Q (E σ)
def tMakeSD (C : Addr) (sp : Sp) (dvs : List V) (E : L2.St → XK) (t : TA) : TE := fun σ H Q => t σ H fun vs H1 => ∀ x dx, H1 x = none → H1 dx = none → dx ≠ x →
  sp (.ref x :: (vs ++ dvs)) (upd (upd H1 dx (.own x)) x (.ins C dx [])) (fun v H2 => v = .non ∧ Q (.ref x) H2) (E σ)
def out1 (n : Nat) (c : SH) : D → D
  | .obj k => if k < n then .obj k else match c[k]? with
    | some (.lst xs) => .lst xs
    | some (.ins C xs) => .ins C xs
    | some (.frz d) => d
    | _ => .obj k
  | d => d
/-- objects stay as they were, or hold nothing newer -/
def okc (c c' : SH) : Prop := ∀ (i : Nat) (o : SO), c'[i]? = some o → c[i]? = some o ∨ o.nb c.length = true
def clo (c : SH) (Φ : QD) (d : D) (c' : SH) : Prop := Φ d c' ∨ (okc c (c'.take c.length) ∧ nb c.length (out1 c.length c' d) = true ∧ Φ (out1 c.length c' d) (c'.take c.length))
section
variable {K : PySem.W.Frag} {tb : List (Addr × Str)} {al al' : List Addr} {G G' : Hp} {c c' : SH} {H H' : Hp} {W : WX} {σ : L2.St} {δ : Env} {Ψ : XD}
theorem set_take {α : Type} {xs : List α} {y : α} {n k : Nat} (h : n ≤ k) : (xs.set k y).take n = xs.take n := by
  apply List.ext_getElem?
  intro i
  rw [List.getElem?_take, List.getElem?_take]
  by_cases hi : i < n
  · rw [if_pos hi, if_pos hi, List.getElem?_set, if_neg (by omega)]
  · rw [if_neg hi, if_neg hi]
theorem Rep.cutc (R : Rep K tb al G c H) (R' : Rep K tb al' G' c' H') (h : okc c (c'.take c.length)) : Rep K tb (al'.take c.length) G' (c'.take c.length) H' := by
  refine R'.cut fun o ho => ?_
  obtain ⟨i, hi⟩ := List.getElem?_of_mem ho
  rcases h i o hi with h1 | h1
  · have hl := (List.getElem?_eq_some_iff.mp h1).1
    have ha : al[i]? = some (al[i]'(by rw [R.len]; exact hl)) := List.getElem?_eq_getElem (by rw [R.len]; exact hl)
    exact Ent.nb (R.ent i _ o ha h1) (Nat.le_of_eq R.len)
  · exact h1
/-- the end of a def, in three parts: state, order, value -/
theorem clo_ok {Φ : QD} {d : D} {v : V} (R : Rep K tb al G c H) (R' : Rep K tb al' G' c' H') (l : Le al G c H al' G' c' H') (hd : Den K al' G' v d) (m : clo c Φ d c') :
    ∃ d2 c2 al2 G2, Rep K tb al2 G2 c2 H' ∧ Le al G c H al2 G2 c2 H' ∧ Den K al2 G2 v d2 ∧ Φ d2 c2 := by
  rcases m with m | ⟨ho, hn, m⟩
  · exact ⟨d, c', al', G', R', l, hd, m⟩
  · have plain : out1 c.length c' d = d → ∃ d2 c2 al2 G2, Rep K tb al2 G2 c2 H' ∧ Le al G c H al2 G2 c2 H' ∧ Den K al2 G2 v d2 ∧ Φ d2 c2 := fun e => by
      rw [e] at hn m
      exact ⟨d, _, _, G', R.cutc R' ho, l.cut (Nat.le_of_eq R.len), hd.cut hn, m⟩
    have frozen : ∀ (k : Nat) (a : Addr) (s : SO) (u : HO) (e : D), c.length ≤ k → v = .ref a → al'[k]? = some a → c'[k]? = some s → s.live = true → H' a = some u → out1 c.length c' d = e → Den K al' (upd G' a u) (.ref a) e → ∃ d2 c2 al2 G2, Rep K tb al2 G2 c2 H' ∧ Le al G c H al2 G2 c2 H' ∧ Den K al2 G2 v d2 ∧ Φ d2 c2 := by
      intro k a s u e hk hv ha hs hl hu he hden
      rw [he] at hn m
      have R2 := R'.freeze ha hs hl hu hden
      have l2 := l.trans (Le.freeze R' ha hs hl (u := u) (d := e))
      have et : (c'.set k (.frz e)).take c.length = c'.take c.length := set_take hk
      have R3 := R.cutc R2 (by rw [et]; exact ho)
      have l3 := l2.cut (Nat.le_of_eq R.len)
      rw [et] at R3 l3
      subst hv
      exact ⟨e, _, _, _, R3, l3, hden.cut hn, m⟩
    cases d with
    | obj k =>
      by_cases hk : k < c.length
      · exact plain (by simp only [out1, if_pos hk])
      · cases hd with
        | obj ha =>
          have hlt := R'.den_some ha
          have hs : c'[k]? = some c'[k] := List.getElem?_eq_getElem hlt
          have ent := R'.ent k _ _ ha hs
          have gn := R'.out k _ _ ha hs
          generalize c'[k] = s at hs ent gn
          have hk2 : c.length ≤ k := by omega
          cases s with
          | lst xs =>
            obtain ⟨vs, h1, h2⟩ := ent
            exact frozen k _ _ _ (.lst xs) hk2 rfl ha hs rfl h1 (by simp only [out1, if_neg hk, hs]) (.lst upd_same (h2.mono (fun _ _ => id) (Ex.new (gn rfl))))
          | dic xs =>
            have he : out1 c.length c' (.obj k) = .obj k := by simp only [out1, if_neg hk, hs]
            rw [he] at hn
            simp only [nb, decide_eq_true_eq] at hn
            exact absurd hn hk
          | ins C xs =>
            obtain ⟨dx, vs, h1, h2⟩ := ent
            exact frozen k _ _ _ (.ins C xs) hk2 rfl ha hs rfl h1 (by simp only [out1, if_neg hk, hs]) (.ins upd_same (h2.mono (fun _ _ => id) (Ex.new (gn rfl))))
          | frz e =>
            have he : out1 c.length c' (.obj k) = e := by simp only [out1, if_neg hk, hs]
            rw [he] at hn m
            exact ⟨e, _, _, G', R.cutc R' ho, l.cut (Nat.le_of_eq R.len), Den.cut ent hn, m⟩
          | box n =>
            have he : out1 c.length c' (.obj k) = .obj k := by simp only [out1, if_neg hk, hs]
            rw [he] at hn
            simp only [nb, decide_eq_true_eq] at hn
            exact absurd hn hk
          | lck ob vs xs =>
            have he : out1 c.length c' (.obj k) = .obj k := by simp only [out1, if_neg hk, hs]
            rw [he] at hn
            simp only [nb, decide_eq_true_eq] at hn
            exact absurd hn hk
    | _ => exact plain rfl
end
end M
set_option Elab.async false
set_option linter.all false
set_option maxRecDepth 100000
set_option maxHeartbeats 3900000
namespace M
open PySem PySem.Spec PyProof.Rows L2 G
structure EndsD where
  nx : Env → SH → Prop
  rt : QD
  bk : Env → SH → Prop
  ct : Env → SH → Prop
  xc : Addr → Str → D → Env → SH → Prop
abbrev MS := Env → SH → EndsD → Prop
abbrev MG := D → Env → SH → XD → (Env → SH → Prop) → Prop
abbrev MGs := List D → Env → SH → XD → (Env → SH → Prop) → Prop
abbrev MI := Env → SH → XD → (List D → (SH → Prop) → SH → Prop) → Prop
abbrev EndsD.x (e : EndsD) (δ : Env) : XD := fun C f d c => e.xc C f d δ c
structure EndOk (K : PySem.W.Frag) (tb : List (Addr × Str)) (W : WX) (al : List Addr) (G : Hp) (c : SH) (H : Hp) (e : EndsD) (D : Ends) : Prop where
  nx : RetE K tb al G c H e.nx D.nx
  rt : Ret K tb al G c H e.rt D.rt
  bk : RetE K tb al G c H e.bk D.bk
  ct : RetE K tb al G c H e.ct D.ct
  xc : ThrS K tb al G c H e.xc W
section
variable (K : PySem.W.Frag) (tb : List (Addr × Str)) (W : WX)
def SndS (t : TS) (m : MS) : Prop := ∀ al G c H σ δ e D, Rep K tb al G c H → SRel K al G σ δ → m δ c e → EndOk K tb W al G c H e D → t D σ H
def SndG (g : TG) (m : MG) : Prop := ∀ al G c H σ δ Ψ v x N R, Go K tb al G c H W σ δ Ψ → Den K al G v x → m x δ c Ψ N → RetE K tb al G c H N R → g v σ H R
/-- what is walked -/
structure Iter (J : It) (xs : List D) (gd : SH → Prop) (al : List Addr) (G : Hp) (c : SH) (H : Hp) : Prop where
  go : ∀ (i : Nat) (x : D) al1 G1 c1 H1, xs[i]? = some x → Rep K tb al1 G1 c1 H1 → Le al G c H al1 G1 c1 H1 → gd c1 → J.go i H1
  yl : ∀ (i : Nat) (x : D) al1 G1 c1 H1 v H', xs[i]? = some x → Rep K tb al1 G1 c1 H1 → Le al G c H al1 G1 c1 H1 → gd c1 → J.yld i H1 v H' → ∃ G', Rep K tb al1 G' c1 H' ∧ Le al1 G1 c1 H1 al1 G' c1 H' ∧ Den K al1 G' v x
  st : ∀ al1 G1 c1 H1, Rep K tb al1 G1 c1 H1 → Le al G c H al1 G1 c1 H1 → gd c1 → J.stop xs.length H1
def SndI (wi : TI) (m : MI) : Prop := ∀ al G c H σ δ Ψ Φ R, Go K tb al G c H W σ δ Ψ → m δ c Ψ Φ → (∀ xs gd c' al' G' H' J, Rep K tb al' G' c' H' → Le al G c H al' G' c' H' → Iter K tb J xs gd al' G' c' H' → Φ xs gd c' → R J H') → wi σ H R
end
section
variable {K : PySem.W.Frag} {tb : List (Addr × Str)} {W : WX} {al al' : List Addr} {G G' : Hp} {c c' : SH} {H H' : Hp} {σ : L2.St} {δ : Env} {e : EndsD} {D : Ends}
theorem EndOk.le (k : EndOk K tb W al G c H e D) (l : Le al G c H al' G' c' H') : EndOk K tb W al' G' c' H' e D := ⟨k.nx.le l, k.rt.le l, k.bk.le l, k.ct.le l, k.xc.le l⟩
theorem EndOk.go (k : EndOk K tb W al G c H e D) (r : Rep K tb al G c H) (s : SRel K al G σ δ) : Go K tb al G c H W σ δ (e.x δ) := ⟨r, s, fun C f d c2 al2 G2 H2 dd v r2 l2 fr hd den x => k.xc C f d δ c2 al2 G2 H2 dd v σ r2 l2 (s.le l2) fr hd den x⟩
theorem Go.set {v : V} {x : M.D} {i : Nat} {Ψ : XD} (g : Go K tb al G c H W σ δ Ψ) (q : Den K al G v x) : SRel K al G (σ.set i (some v)) (δ.set i (some x)) := g.env.set q
end
def seqM (a b : MS) : MS := fun δ c e => a δ c { e with nx := fun δ' c' => b δ' c' e }
def asgM (a : ME) (g : MG) : MS := fun δ c e => a δ c (e.x δ) fun x c1 => g x δ c1 (e.x δ) e.nx
def gnameM (i : Nat) : MG := fun x δ c _ N => N (δ.set i (some x)) c
def dropM (a : ME) : MS := fun δ c e => a δ c (e.x δ) fun _ c1 => e.nx δ c1
def retM (a : ME) : MS := fun δ c e => a δ c (e.x δ) e.rt
def retNM : MS := fun _ c e => e.rt .non c
def nextM : MS := fun δ c e => e.nx δ c
def breakM : MS := fun δ c e => e.bk δ c
def contM : MS := fun δ c e => e.ct δ c
def ifS (t : MT) (a b : MS) : MS := fun δ c e => t δ c (e.x δ) fun k c1 => if k = true then a δ c1 e else b δ c1 e
def twoD (xs : List D) (k : D → D → Prop) : Prop := match xs with
  | [x, y] => k x y
  | _ => False
def oneD (xs : List D) (k : D → Prop) : Prop := match xs with
  | [x] => k x
  | _ => False
def parM (i j : Nat) (a : MA) : MS := fun δ c e => a δ c (e.x δ) fun xs c1 => twoD xs fun x y => e.nx ((δ.set i (some x)).set j (some y)) c1
def raiseM (C : Addr) (f : Str) (a : MA) : MS := fun δ c e => a δ c (e.x δ) fun xs c1 => oneD xs fun x => e.xc C f x δ c1
def forD (gd : SH → Prop) (g : MG) (b : MS) : List D → Env → SH → EndsD → Prop
  | [], δ, c, e => gd c ∧ e.nx δ c
  | x :: xs, δ, c, e => gd c ∧ g x δ c (e.x δ) fun δ1 c1 => b δ1 c1 { e with nx := fun δ2 c2 => forD gd g b xs δ2 c2 e, ct := fun δ2 c2 => forD gd g b xs δ2 c2 e, bk := e.nx }
def forM (i : MI) (g : MG) (b : MS) : MS := fun δ c e => i δ c (e.x δ) fun xs gd c1 => forD gd g b xs δ c1 e
def whileM (t : MT) (b : MS) : MS := fun δ c e => ∃ I : Nat → Env → SH → Prop, (∃ m, I m δ c) ∧ ∀ m δ c, I m δ c → t δ c (e.x δ) fun k c1 => if k = true then b δ c1 { e with nx := fun δ' c' => ∃ m', m' < m ∧ I m' δ' c', ct := fun δ' c' => ∃ m', m' < m ∧ I m' δ' c', bk := e.nx } else e.nx δ c1
section
variable {K : PySem.W.Frag} {tb : List (Addr × Str)} {W : WX} {ta te : TE} {a : ME} {st su : TS} {ms mu : MS} {t : TT} {mt : MT} {tA : TA} {mA : MA} {g : TG} {mg : MG} {wi : TI} {mi : MI}
theorem snd_seq (h : SndS K tb W st ms) (k : SndS K tb W su mu) : SndS K tb W (tSeq st su) (seqM ms mu) := by
  intro al G c H σ δ e D R s m q
  refine h al G c H σ δ _ _ R s m { q with nx := fun δ2 c2 al2 G2 H2 σ2 R2 l2 s2 m2 => ?_ }
  exact k al2 G2 c2 H2 σ2 δ2 e D R2 s2 m2 (q.le l2)
theorem snd_gname {i : Nat} : SndG K tb W (gName i) (gnameM i) := fun al G c H σ δ Ψ v x N R g d m q => q _ c al G H _ g.rep .refl (g.set d) m
theorem snd_asg (ha : SndE K tb W ta a) (hg : SndG K tb W g mg) : SndS K tb W (tAsg ta g) (asgM a mg) := by
  intro al G c H σ δ e D R s m q
  refine ha al G c H σ δ (e.x δ) _ _ (q.go R s) m fun x c1 al1 G1 H1 v r1 l1 d1 m1 => ?_
  exact hg al1 G1 c1 H1 σ δ (e.x δ) v x e.nx D.nx ((q.le l1).go r1 (s.le l1)) d1 m1 (q.le l1).nx
theorem snd_drop (ha : SndE K tb W ta a) : SndS K tb W (tDrop ta) (dropM a) := by
  intro al G c H σ δ e D R s m q
  exact ha al G c H σ δ (e.x δ) _ _ (q.go R s) m fun x c1 al1 G1 H1 v r1 l1 d1 m1 => q.nx δ c1 al1 G1 H1 σ r1 l1 (s.le l1) m1
theorem snd_ret (ha : SndE K tb W ta a) : SndS K tb W (tRet ta) (retM a) := by
  intro al G c H σ δ e D R s m q
  exact ha al G c H σ δ (e.x δ) _ _ (q.go R s) m q.rt
theorem snd_retN : SndS K tb W tRetN retNM := fun al G c H σ δ e D R s m q => q.rt .non c al G H .non R .refl .non m
theorem snd_next : SndS K tb W tNext nextM := fun al G c H σ δ e D R s m q => q.nx δ c al G H σ R .refl s m
theorem snd_break : SndS K tb W tBreak breakM := fun al G c H σ δ e D R s m q => q.bk δ c al G H σ R .refl s m
theorem snd_cont : SndS K tb W tCont contM := fun al G c H σ δ e D R s m q => q.ct δ c al G H σ R .refl s m
theorem snd_ifS (ht : SndT K tb W t mt) (h : SndS K tb W st ms) (k : SndS K tb W su mu) : SndS K tb W (tIfS t st su) (ifS mt ms mu) := by
  intro al G c H σ δ e D R s m q
  refine ht al G c H σ δ (e.x δ) _ _ (q.go R s) m fun b c1 al1 G1 H1 r1 l1 m1 => ?_
  cases b with
  | true => exact iteT (h al1 G1 c1 H1 σ δ e D r1 (s.le l1) m1 (q.le l1))
  | false => exact iteF (k al1 G1 c1 H1 σ δ e D r1 (s.le l1) m1 (q.le l1))
theorem snd_par {i j : Nat} (hA : SndA K tb W tA mA) : SndS K tb W (tPar i j tA) (parM i j mA) := by
  intro al G c H σ δ e D R s m q
  refine hA al G c H σ δ (e.x δ) _ _ (q.go R s) m fun xs c1 al1 G1 H1 vs r1 l1 d1 m1 => ?_
  unfold twoD at m1
  split at m1
  · cases d1 with
    | cons d1 d2 =>
      cases d2 with
      | cons d2 d3 =>
        cases d3
        exact ⟨_, _, rfl, q.nx _ c1 al1 G1 H1 _ r1 l1 (((s.le l1).set d1).set d2) m1⟩
  · cases m1
theorem snd_raise {C : Addr} {f : Str} (hA : SndA K tb W tA mA) : SndS K tb W (tRaiseE C f W tA) (raiseM C f mA) := by
  intro al G c H σ δ e D R s m q
  refine hA al G c H σ δ (e.x δ) _ _ (q.go R s) m fun xs c1 al1 G1 H1 vs r1 l1 d1 m1 => ?_
  unfold oneD at m1
  split at m1
  · cases d1 with
    | cons d1 d2 =>
      cases d2
      rename_i v
      refine ⟨v, rfl, fun dd hd => ?_⟩
      have ex : Ex H1 (upd H1 dd (.xd [(f, v)])) := Ex.new hd
      exact q.xc C f _ δ c1 al1 G1 _ dd _ σ (r1.grow ex) (l1.trans (Le.grow ex)) (s.le l1) (l1.dom dd (.of hd)) upd_same d1 m1
  · cases m1
theorem drop_get {α : Type} {xs : List α} {i : Nat} (h : i < xs.length) : xs.drop i = xs[i] :: xs.drop (i + 1) := List.drop_eq_getElem_cons h
theorem snd_for (hi : SndI K tb W wi mi) (hg : SndG K tb W g mg) (hb : SndS K tb W st ms) : SndS K tb W (tFor wi g st) (forM mi mg ms) := by
  intro al G c H σ δ e D R s m q
  refine w_for (hi al G c H σ δ (e.x δ) _ _ (q.go R s) m fun xs gd c1 al1 G1 H1 J r1 l1 it m1 => ?_)
  refine ⟨fun i n σ2 H2 => n = xs.length - i ∧ i ≤ xs.length ∧ ∃ al2 G2 c2 δ2, Rep K tb al2 G2 c2 H2 ∧ Le al1 G1 c1 H1 al2 G2 c2 H2 ∧ SRel K al2 G2 σ2 δ2 ∧ forD gd mg ms (xs.drop i) δ2 c2 e, ⟨_, rfl, Nat.zero_le _, al1, G1, c1, δ, r1, .refl, s.le l1, m1⟩, ?_⟩
  rintro i n σ2 H2 ⟨rfl, hle, al2, G2, c2, δ2, r2, l2, s2, m2⟩
  by_cases hlt : i < xs.length
  · rw [drop_get hlt] at m2
    obtain ⟨hgd, m2⟩ := m2
    have hx : xs[i]? = some xs[i] := List.getElem?_eq_getElem hlt
    refine .inr ⟨it.go i _ al2 G2 c2 H2 hx r2 l2 hgd, fun σ3 H3 => ∃ al3 G3 c3 δ3, Rep K tb al3 G3 c3 H3 ∧ Le al1 G1 c1 H1 al3 G3 c3 H3 ∧ SRel K al3 G3 σ3 δ3 ∧ forD gd mg ms (xs.drop (i + 1)) δ3 c3 e, ?_, ?_⟩
    · rintro σ3 H3 ⟨al3, G3, c3, δ3, r3, l3, s3, m3⟩
      exact ⟨xs.length - (i + 1), by omega, rfl, hlt, al3, G3, c3, δ3, r3, l3, s3, m3⟩
    · intro v H' y
      obtain ⟨G', r', l', d'⟩ := it.yl i _ al2 G2 c2 H2 v H' hx r2 l2 hgd y
      have q2 := (q.le l1).le (l2.trans l')
      refine hg al2 G' c2 H' σ2 δ2 (e.x δ2) v _ _ _ (q2.go r' (s2.le l')) d' m2 fun δ3 c3 al3 G3 H3 σ3 r3 l3 s3 m3 => ?_
      have back : ∀ (δ4 : Env) (c4 : SH) (al4 : List Addr) (G4 H4 : Hp) (σ4 : L2.St), Rep K tb al4 G4 c4 H4 → Le al3 G3 c3 H3 al4 G4 c4 H4 → SRel K al4 G4 σ4 δ4 → forD gd mg ms (xs.drop (i + 1)) δ4 c4 e → ∃ al3 G3 c3 δ3, Rep K tb al3 G3 c3 H4 ∧ Le al1 G1 c1 H1 al3 G3 c3 H4 ∧ SRel K al3 G3 σ4 δ3 ∧ forD gd mg ms (xs.drop (i + 1)) δ3 c3 e :=
        fun δ4 c4 al4 G4 H4 σ4 r4 l4 s4 m4 => ⟨al4, G4, c4, δ4, r4, ((l2.trans l').trans l3).trans l4, s4, m4⟩
      exact hb al3 G3 c3 H3 σ3 δ3 _ _ r3 s3 m3 { nx := back, ct := back, rt := (q2.le l3).rt, bk := (q2.le l3).nx, xc := (q2.le l3).xc }
  · have hi2 : i = xs.length := by omega
    subst hi2
    rw [List.drop_length] at m2
    obtain ⟨hgd, m2⟩ := m2
    exact .inl ⟨it.st al2 G2 c2 H2 r2 l2 hgd, ((q.le l1).le l2).nx δ2 c2 al2 G2 H2 σ2 r2 .refl s2 m2⟩
theorem snd_while (ht : SndT K tb W t mt) (hb : SndS K tb W st ms) : SndS K tb W (tWhile t st) (whileM mt ms) := by
  intro al G c H σ δ e D R s m q
  obtain ⟨I, ⟨m0, h0⟩, hs⟩ := m
  refine ⟨fun n σ2 H2 => ∃ al2 G2 c2 δ2, Rep K tb al2 G2 c2 H2 ∧ Le al G c H al2 G2 c2 H2 ∧ SRel K al2 G2 σ2 δ2 ∧ I n δ2 c2, ⟨m0, al, G, c, δ, R, .refl, s, h0⟩, ?_⟩
  rintro n σ2 H2 ⟨al2, G2, c2, δ2, r2, l2, s2, i2⟩
  refine ht al2 G2 c2 H2 σ2 δ2 (e.x δ2) _ _ ((q.le l2).go r2 s2) (hs n δ2 c2 i2) fun k c3 al3 G3 H3 r3 l3 m3 => ?_
  cases k with
  | false => exact iteF (q.nx δ2 c3 al3 G3 H3 σ2 r3 (l2.trans l3) (s2.le l3) m3)
  | true =>
    refine iteT ⟨fun σ4 H4 => ∃ n', n' < n ∧ ∃ al4 G4 c4 δ4, Rep K tb al4 G4 c4 H4 ∧ Le al G c H al4 G4 c4 H4 ∧ SRel K al4 G4 σ4 δ4 ∧ I n' δ4 c4, fun _ _ h => h, ?_⟩
    have back : ∀ (δ4 : Env) (c4 : SH) (al4 : List Addr) (G4 H4 : Hp) (σ4 : L2.St), Rep K tb al4 G4 c4 H4 → Le al3 G3 c3 H3 al4 G4 c4 H4 → SRel K al4 G4 σ4 δ4 → (∃ n', n' < n ∧ I n' δ4 c4) → ∃ n', n' < n ∧ ∃ al4 G4 c4 δ4, Rep K tb al4 G4 c4 H4 ∧ Le al G c H al4 G4 c4 H4 ∧ SRel K al4 G4 σ4 δ4 ∧ I n' δ4 c4 :=
      fun δ4 c4 al4 G4 H4 σ4 r4 l4 s4 h => let ⟨n', hn, h⟩ := h; ⟨n', hn, al4, G4, c4, δ4, r4, (l2.trans l3).trans l4, s4, h⟩
    have q3 := q.le (l2.trans l3)
    exact hb al3 G3 c3 H3 σ2 δ2 _ _ r3 (s2.le l3) m3 { nx := back, ct := back, rt := q3.rt, bk := q3.nx, xc := q3.xc }
end
def fnD (np ns : Nat) (b : MS) : Fn := fun as c Ψ Φ => as.length = np ∧ b (as.map some ++ List.replicate (ns - as.length) none) c { nx := fun _ c' => clo c Φ .non c', rt := fun d c' => clo c Φ d c', bk := fun _ _ => False, ct := fun _ _ => False, xc := fun C f d _ c' => clo c (fun d c' => Ψ C f d c') d c' }
theorem den_start {K : PySem.W.Frag} {al : List Addr} {G : Hp} {N : List Str} {vs : List V} {as : List D} (h : DenL K al G vs as) : SRel K al G (L2.start N vs) (as.map some ++ List.replicate (N.length - as.length) none) := by
  have hl := h.length
  constructor
  · unfold L2.start
    rw [List.length_append, List.length_append, List.length_map, List.length_map, List.length_replicate, List.length_replicate, hl]
  · intro i d e
    by_cases hi : i < as.length
    · rw [List.getElem?_append_left (by rw [List.length_map]; exact hi), List.getElem?_map] at e
      obtain ⟨x, hx, e⟩ := Option.map_eq_some_iff.mp e
      cases e
      obtain ⟨v, h1, h2⟩ := h.get hx
      refine ⟨v, ?_, h2⟩
      unfold L2.start
      rw [List.getElem?_append_left (by rw [List.length_map, hl]; exact hi), List.getElem?_map, h1]
      rfl
    · rw [List.getElem?_append_right (by rw [List.length_map]; omega), List.getElem?_replicate] at e
      split at e <;> cases e
theorem fn_ok {K : PySem.W.Frag} {tb : List (Addr × Str)} {t : TS} {b : MS} {np : Nat} {N : List Str} {vs : List V} {H : Hp} {Q : VK} {E : XK} (h : SndS K tb (fun C d _ H => E C d H) t b) (hs : SpG K tb (fnD np N.length b) vs H Q E) : t { nx := fun _ H' => Q .non H', rt := Q } (L2.start N vs) H := by
  obtain ⟨al, G, c, as, Ψ, Φ, R, dn, ⟨hn, m⟩, q, x⟩ := hs
  refine h al G c H _ _ _ _ R (den_start dn) m ⟨fun δ c1 al1 G1 H1 σ1 r1 l1 s1 m1 => ?_, fun d c1 al1 G1 H1 v r1 l1 d1 m1 => ?_, fun δ c1 al1 G1 H1 σ1 r1 l1 s1 m1 => m1.elim, fun δ c1 al1 G1 H1 σ1 r1 l1 s1 m1 => m1.elim, fun C f d δ c1 al1 G1 H1 dd v σ1 r1 l1 s1 fr hd den m1 => ?_⟩
  · obtain ⟨d2, c2, al2, G2, r2, l2, d2', m2⟩ := clo_ok R r1 l1 .non m1
    exact q d2 c2 al2 G2 H1 _ r2 l2 d2' m2
  · obtain ⟨d2, c2, al2, G2, r2, l2, d2', m2⟩ := clo_ok R r1 l1 d1 m1
    exact q d2 c2 al2 G2 H1 _ r2 l2 d2' m2
  · obtain ⟨d2, c2, al2, G2, r2, l2, d2', m2⟩ := clo_ok R r1 l1 den m1
    exact x C f d2 c2 al2 G2 H1 dd v r2 l2 fr hd d2' m2
theorem fn_len {K : PySem.W.Frag} {tb : List (Addr × Str)} {np ns : Nat} {b : MS} {vs : List V} {H : Hp} {Q : VK} {E : XK} (hs : SpG K tb (fnD np ns b) vs H Q E) : vs.length = np := by
  obtain ⟨al, G, c, as, Ψ, Φ, R, dn, ⟨hn, m⟩, q, x⟩ := hs
  rw [dn.length, hn]
end M
set_option Elab.async false
set_option linter.all false
set_option maxRecDepth 100000
set_option maxHeartbeats 3900000
namespace M
open PySem PySem.Spec PyProof.Rows L2 G
def view (c : SH) : D → D
  | .obj k => match c[k]? with
    | some (.lst xs) => .lst xs
    | some (.dic xs) => .dic xs
    | some (.lck _ _ xs) => .dic xs
    | some (.ins C fs) => .ins C fs
    | some (.frz d) => d
    | _ => .obj k
  | d => d
/-- what is to be read at a value: itself in H, its parts as data -/
inductive Vw (K : PySem.W.Frag) (al : List Addr) (G H : Hp) : V → D → Prop
  | non : Vw K al G H .non .non
  | bl (b : Bool) : Vw K al G H (.bl b) (.bl b)
  | int (i : Int) : Vw K al G H (.int i) (.int i)
  | str (z : Str) : Vw K al G H (.str z) (.str z)
  | ty (n : String) : Vw K al G H (.ty n) (.ty n)
  | adr (a : Addr) : Vw K al G H (.ref a) (.adr a)
  | lst {a : Addr} {vs : List V} {xs : List D} : H a = some (.lst vs) → DenL K al G vs xs → Vw K al G H (.ref a) (.lst xs)
  | scr {a : Addr} {vs : List V} {xs : List D} : SqL K H a vs → DenL K al G vs xs → Vw K al G H (.ref a) (.scr xs)
  | tup {a : Addr} {vs : List V} {xs : List D} : H a = some (.tup vs) → DenL K al G vs xs → Vw K al G H (.ref a) (.tup xs)
  | exc {a C : Addr} {od : Option Addr} {vs : List (Str × V)} {xs : List (Str × D)} : H a = some (ExV C od a) → (∀ dd, od = some dd → H dd = some (.xd vs)) → (od = none → vs = []) → DenF K al G vs xs → Vw K al G H (.ref a) (.exc C xs)
  | dic {a : Addr} {vs : List (Key × V)} {xs : List (Key × D)} : Rd H a (.dK vs) → DenK K al G vs xs → Vw K al G H (.ref a) (.dic xs)
  | ins {a C dx : Addr} {vs : List (Str × V)} {xs : List (Str × D)} : H a = some (.ins C dx vs) → DenF K al G vs xs → Vw K al G H (.ref a) (.ins C xs)
  | obj {k : Nat} {a : Addr} : al[k]? = some a → Vw K al G H (.ref a) (.obj k)
  | btp {a : Addr} {vs : List V} {xs : List D} : KTup K a vs → DenL K al G vs xs → Vw K al G H (.ref a) (.btp xs)
section
variable {K : PySem.W.Frag} {tb : List (Addr × Str)} {W : WX} {al al' : List Addr} {G G' : Hp} {c c' : SH} {H H' : Hp} {v w : V} {x y : D}
theorem Den.vwG (ex : Ex G H) (h : Den K al G v x) : Vw K al G H v x := by
  cases h with
  | non => exact .non
  | bl b => exact .bl b
  | int i => exact .int i
  | str z => exact .str z
  | ty n => exact .ty n
  | adr a => exact .adr a
  | lst h r => exact .lst (ex _ _ h) r
  | scr h r => exact .scr (ex.l h) r
  | tup h r => exact .tup (ex _ _ h) r
  | exc h h2 h3 r => exact .exc (ex _ _ h) (fun dd e => ex _ _ (h2 dd e)) h3 r
  | dic h r => exact .dic (.inr ⟨_, ex _ _ h⟩) r
  | ins h r => exact .ins (ex _ _ h) r
  | obj h => exact .obj h
  | btp h r => exact .btp h r
theorem Rep.vw (R : Rep K tb al G c H) (h : Den K al G v x) : Vw K al G H v (view c x) := by
  cases h with
  | @obj k a h =>
    have hk := R.den_some h
    have hs : c[k]? = some c[k] := List.getElem?_eq_getElem hk
    have e := R.ent k a _ h hs
    generalize c[k] = s at hs e
    unfold view
    simp only [hs]
    cases s with
    | lst xs => obtain ⟨vs, h1, h2⟩ := e; exact .lst h1 h2
    | dic xs => obtain ⟨vs, h1, h2⟩ := e; exact .dic (.inl h1) h2
    | ins C xs => obtain ⟨dx, vs, h1, h2⟩ := e; exact .ins h1 h2
    | frz d => exact Den.vwG R.sub e
    | box n => exact .obj h
    | lck ob vs xs => obtain ⟨h1, h2⟩ := e; exact .dic (.inr ⟨_, h1⟩) h2
  | _ => exact Den.vwG R.sub (by constructor <;> assumption)
end
def addD (lv : Bool) (x y : D) (c : SH) (Φ : QD) : Prop := match view c x, view c y with
  | .int a, .int b => Φ (.int (a + b)) c
  | .str a, .str b => a.length + b.length ≤ sizeLine ∧ Φ (.str (a ++ b)) c
  | .lst a, .lst b => newL lv (a ++ b) c Φ
  | _, _ => False
def subD (x y : D) (c : SH) (Φ : QD) : Prop := match view c x, view c y with
  | .int a, .int b => Φ (.int (a - b)) c
  | _, _ => False
def mulD (lv : Bool) (x y : D) (c : SH) (Φ : QD) : Prop := match view c x, view c y with
  | .int a, .int b => CMul a b ∧ Φ (.int (a * b)) c
  | .str z, .int n => (0 ≤ n ∧ n ≤ 100000 ∧ z.length * n.toNat ≤ 1000000) ∧ Φ (.str (Txt.mul z n)) c
  | .lst a, .int n => (-(2 ^ 63) ≤ n ∧ n < 2 ^ 63) ∧ newL lv (List.replicate n.toNat a).flatten c Φ
  | _, _ => False
def fdivD (x y : D) (c : SH) (Φ : QD) : Prop := match view c x, view c y with
  | .int a, .int b => CDivN a b ∧ Φ (.int (a.fdiv b)) c
  | _, _ => False
def modD (x y : D) (c : SH) (Φ : QD) : Prop := match view c x, view c y with
  | .int a, .int b => b ≠ 0 ∧ Φ (.int (a.fmod b)) c
  | _, _ => False
def powD (x y : D) (c : SH) (Φ : QD) : Prop := match view c x, view c y with
  | .int a, .int b => CPow a b ∧ Φ (.int (a ^ b.toNat)) c
  | _, _ => False
def negD (x : D) (c : SH) (Φ : QD) : Prop := match x with
  | .int a => Φ (.int (-a)) c
  | _ => False
def ltD (x y : D) (c : SH) (Φ : QD) : Prop := match view c x, view c y with
  | .int a, .int b => Φ (.bl (decide (a < b))) c
  | .str a, .str b => Φ (.bl (decide (a.cps.toList < b.cps.toList))) c
  | _, _ => False
def leD (x y : D) (c : SH) (Φ : QD) : Prop := match view c x, view c y with
  | .int a, .int b => Φ (.bl (decide (a ≤ b))) c
  | .str a, .str b => Φ (.bl (!decide (b.cps.toList < a.cps.toList))) c
  | _, _ => False
def gtD (x y : D) (c : SH) (Φ : QD) : Prop := match view c x, view c y with
  | .int a, .int b => Φ (.bl (decide (b < a))) c
  | .str a, .str b => Φ (.bl (decide (b.cps.toList < a.cps.toList))) c
  | _, _ => False
def geD (x y : D) (c : SH) (Φ : QD) : Prop := match view c x, view c y with
  | .int a, .int b => Φ (.bl (decide (b ≤ a))) c
  | .str a, .str b => Φ (.bl (!decide (a.cps.toList < b.cps.toList))) c
  | _, _ => False
section
variable {K : PySem.W.Frag} {tb : List (Addr × Str)}
theorem dop_add {lv : Bool} : DOp K tb rAddU (addD lv) := by
  intro al G c H x y dx dy Φ Q R hx hy m q
  have vx := R.vw hx
  have vy := R.vw hy
  unfold addD at m
  split at m
  · rename_i e1 e2
    rw [e1] at vx; rw [e2] at vy
    cases vx; cases vy
    exact .inl ⟨_, _, rfl, rfl, q _ c al G H _ R .refl (.int _) m⟩
  · rename_i e1 e2
    rw [e1] at vx; rw [e2] at vy
    cases vx; cases vy
    exact .inr (.inl ⟨_, _, rfl, rfl, m.1, q _ c al G H _ R .refl (.str _) m.2⟩)
  · rename_i e1 e2
    rw [e1] at vx; rw [e2] at vy
    cases vx with
    | lst h1 r1 =>
      cases vy with
      | lst h2 r2 =>
        refine .inr (.inr ⟨_, _, _, _, rfl, rfl, h1, h2, ?_, fun p hp => newL_ok R hp (r1.append r2) m q⟩)
        have := m.1
        rw [List.length_append] at this
        rw [r1.length, r2.length]
        exact this
  · cases m
theorem dop_sub : DOp K tb (rI0 fun i j => .int (i - j)) subD := by
  intro al G c H x y dx dy Φ Q R hx hy m q
  have vx := R.vw hx
  have vy := R.vw hy
  unfold subD at m
  split at m
  · rename_i e1 e2
    rw [e1] at vx; rw [e2] at vy
    cases vx; cases vy
    exact ⟨_, _, rfl, rfl, q _ c al G H _ R .refl (.int _) m⟩
  · cases m
theorem dop_mul {lv : Bool} : DOp K tb rMulU (mulD lv) := by
  intro al G c H x y dx dy Φ Q R hx hy m q
  have vx := R.vw hx
  have vy := R.vw hy
  unfold mulD at m
  split at m
  · rename_i e1 e2
    rw [e1] at vx; rw [e2] at vy
    cases vx; cases vy
    exact .inl ⟨_, _, rfl, rfl, m.1, q _ c al G H _ R .refl (.int _) m.2⟩
  · rename_i e1 e2
    rw [e1] at vx; rw [e2] at vy
    cases vx; cases vy
    exact .inr (.inr ⟨_, _, rfl, rfl, m.1.1, m.1.2.1, m.1.2.2, q _ c al G H _ R .refl (.str _) m.2⟩)
  · rename_i e1 e2
    rw [e1] at vx; rw [e2] at vy
    cases vx with
    | lst h1 r1 =>
      cases vy
      refine .inr (.inl ⟨_, _, _, rfl, rfl, h1, m.1.1, m.1.2, ?_, fun p hp => newL_ok R hp (r1.flatten _) m.2 q⟩)
      have h3 := m.2.1
      rw [← (r1.flatten _).length, List.length_flatten, List.map_replicate, List.sum_replicate_nat, Nat.mul_comm] at h3
      exact h3
  · cases m
theorem dop_fdiv : DOp K tb rFdivU fdivD := by
  intro al G c H x y dx dy Φ Q R hx hy m q
  have vx := R.vw hx
  have vy := R.vw hy
  unfold fdivD at m
  split at m
  · rename_i e1 e2
    rw [e1] at vx; rw [e2] at vy
    cases vx; cases vy
    exact ⟨_, _, rfl, rfl, m.1, q _ c al G H _ R .refl (.int _) m.2⟩
  · cases m
theorem dop_mod : DOp K tb rModU modD := by
  intro al G c H x y dx dy Φ Q R hx hy m q
  have vx := R.vw hx
  have vy := R.vw hy
  unfold modD at m
  split at m
  · rename_i e1 e2
    rw [e1] at vx; rw [e2] at vy
    cases vx; cases vy
    exact ⟨_, _, rfl, rfl, m.1, q _ c al G H _ R .refl (.int _) m.2⟩
  · cases m
theorem dop_pow : DOp K tb rPowU powD := by
  intro al G c H x y dx dy Φ Q R hx hy m q
  have vx := R.vw hx
  have vy := R.vw hy
  unfold powD at m
  split at m
  · rename_i e1 e2
    rw [e1] at vx; rw [e2] at vy
    cases vx; cases vy
    exact ⟨_, _, rfl, rfl, m.1, q _ c al G H _ R .refl (.int _) m.2⟩
  · cases m
theorem dun_neg : DUn K tb (rU fun i => .int (-i)) negD := by
  intro al G c H x dx Φ Q R hx m q
  unfold negD at m
  split at m
  · cases hx
    exact ⟨_, rfl, q _ c al G H _ R .refl (.int _) m⟩
  · cases m
theorem dop_lt : DOp K tb rLtU ltD := by
  intro al G c H x y dx dy Φ Q R hx hy m q
  have vx := R.vw hx
  have vy := R.vw hy
  unfold ltD at m
  split at m
  · rename_i e1 e2
    rw [e1] at vx; rw [e2] at vy
    cases vx; cases vy
    exact .inl ⟨_, _, rfl, rfl, q _ c al G H _ R .refl (.bl _) m⟩
  · rename_i e1 e2
    rw [e1] at vx; rw [e2] at vy
    cases vx; cases vy
    exact .inr ⟨_, _, rfl, rfl, q _ c al G H _ R .refl (.bl _) m⟩
  · cases m
theorem dop_le : DOp K tb rLeU leD := by
  intro al G c H x y dx dy Φ Q R hx hy m q
  have vx := R.vw hx
  have vy := R.vw hy
  unfold leD at m
  split at m
  · rename_i e1 e2
    rw [e1] at vx; rw [e2] at vy
    cases vx; cases vy
    exact .inl ⟨_, _, rfl, rfl, q _ c al G H _ R .refl (.bl _) m⟩
  · rename_i e1 e2
    rw [e1] at vx; rw [e2] at vy
    cases vx; cases vy
    exact .inr ⟨_, _, rfl, rfl, q _ c al G H _ R .refl (.bl _) m⟩
  · cases m
theorem dop_gt : DOp K tb rGtU gtD := by
  intro al G c H x y dx dy Φ Q R hx hy m q
  have vx := R.vw hx
  have vy := R.vw hy
  unfold gtD at m
  split at m
  · rename_i e1 e2
    rw [e1] at vx; rw [e2] at vy
    cases vx; cases vy
    exact .inl ⟨_, _, rfl, rfl, q _ c al G H _ R .refl (.bl _) m⟩
  · rename_i e1 e2
    rw [e1] at vx; rw [e2] at vy
    cases vx; cases vy
    exact .inr ⟨_, _, rfl, rfl, q _ c al G H _ R .refl (.bl _) m⟩
  · cases m
theorem dop_ge : DOp K tb rGeU geD := by
  intro al G c H x y dx dy Φ Q R hx hy m q
  have vx := R.vw hx
  have vy := R.vw hy
  unfold geD at m
  split at m
  · rename_i e1 e2
    rw [e1] at vx; rw [e2] at vy
    cases vx; cases vy
    exact .inl ⟨_, _, rfl, rfl, q _ c al G H _ R .refl (.bl _) m⟩
  · rename_i e1 e2
    rw [e1] at vx; rw [e2] at vy
    cases vx; cases vy
    exact .inr ⟨_, _, rfl, rfl, q _ c al G H _ R .refl (.bl _) m⟩
  · cases m
end
def nonD : D → Bool
  | .non => true
  | _ => false
def isD (x y : D) (c : SH) (Φ : QD) : Prop := match x, y with
  | .bl a, .bl b => Φ (.bl (decide (a = b))) c
  | x, .non => Φ (.bl (nonD x)) c
  | _, _ => False
def isntD (x y : D) (c : SH) (Φ : QD) : Prop := match x, y with
  | .bl a, .bl b => Φ (.bl (!decide (a = b))) c
  | x, .non => Φ (.bl (!nonD x)) c
  | _, _ => False
section
variable {K : PySem.W.Frag} {tb : List (Addr × Str)}
theorem den_non {al : List Addr} {G : Hp} {v : V} {x : D} (h : Den K al G v x) : decide (v = .non) = nonD x := by
  cases h <;> rfl
theorem dop_is : DOp K tb rIsU isD := by
  intro al G c H x y dx dy Φ Q R hx hy m q
  unfold isD at m
  split at m
  · cases hx; cases hy
    exact .inr ⟨_, _, rfl, rfl, q _ c al G H _ R .refl (.bl _) m⟩
  · cases hy
    refine .inl ⟨rfl, q _ c al G H _ R .refl ?_ m⟩
    rw [den_non hx]
    exact .bl _
  · cases m
theorem dop_isnt : DOp K tb rIsNotU isntD := by
  intro al G c H x y dx dy Φ Q R hx hy m q
  unfold isntD at m
  split at m
  · cases hx; cases hy
    exact .inr ⟨_, _, rfl, rfl, q _ c al G H _ R .refl (.bl _) m⟩
  · cases hy
    refine .inl ⟨rfl, q _ c al G H _ R .refl ?_ m⟩
    rw [den_non hx]
    exact .bl _
  · cases m
end
def ixD (x y : D) (c : SH) (Φ : QD) : Prop := match view c x, y with
  | .lst xs, .int i => match atI xs i with
    | some d => Φ d c
    | none => False
  | .scr xs, .int i => match atI xs i with
    | some d => Φ d c
    | none => False
  | .tup xs, .int i => match atI xs i with
    | some d => Φ d c
    | none => False
  | .str z, .int i => z.length ≤ sizeLine ∧ match atI z.cps.toList i with
    | some k => Φ (.str ⟨#[k]⟩) c
    | none => False
  | _, _ => False
def cutD (xs : List D) (lo hi : Option Int) : List D := (xs.drop (HT.sIx xs.length 0 lo)).take (HT.sIx xs.length xs.length hi - HT.sIx xs.length 0 lo)
def slD (lv : Bool) (x : D) (lo hi : Option Int) (c : SH) (Φ : QD) : Prop := match view c x with
  | .lst xs => newL lv (cutD xs lo hi) c Φ
  | .scr xs => newL lv (cutD xs lo hi) c Φ
  | .str z => z.length ≤ sizeLine ∧ Φ (.str (cutS z lo hi)) c
  | .tup xs => ¬ (HT.sIx xs.length 0 lo = 0 ∧ HT.sIx xs.length xs.length hi = xs.length) ∧ Φ (.tup (cutD xs lo hi)) c
  | _ => False
def lenD (xs : List D) (c : SH) (Φ : QD) : Prop := oneD xs fun x => match view c x with
  | .lst xs => Φ (.int xs.length) c
  | .scr xs => Φ (.int xs.length) c
  | .tup xs => Φ (.int xs.length) c
  | .btp xs => Φ (.int xs.length) c
  | .dic xs => Φ (.int xs.length) c
  | .str z => z.length ≤ sizeLine ∧ Φ (.int z.length) c
  | _ => False
section
variable {K : PySem.W.Frag} {tb : List (Addr × Str)}
theorem den_atI {al : List Addr} {G : Hp} {vs : List V} {xs : List D} {i : Int} {d : D} (h : DenL K al G vs xs) (e : atI xs i = some d) : ∃ v, atI vs i = some v ∧ Den K al G v d := by
  unfold atI at e ⊢
  rw [h.length]
  obtain ⟨j, h1, h2⟩ := Option.bind_eq_some_iff.mp e
  obtain ⟨v, h3, h4⟩ := h.get h2
  exact ⟨v, by rw [h1]; exact h3, h4⟩
theorem dop_ix : DOp K tb (rIx K) ixD := by
  intro al G c H x y dx dy Φ Q R hx hy m q
  have vx := R.vw hx
  unfold ixD at m
  split at m
  · rename_i e1
    rw [e1] at vx
    split at m
    · rename_i d e2
      cases hy
      cases vx with
      | lst h1 r1 =>
        obtain ⟨v, h3, h4⟩ := den_atI r1 e2
        exact .inl ⟨_, _, _, v, rfl, rfl, .of h1, h3, q d c al G H v R .refl h4 m⟩
    · cases m
  · rename_i e1
    rw [e1] at vx
    split at m
    · rename_i d e2
      cases hy
      cases vx with
      | scr h1 r1 =>
        obtain ⟨v, h3, h4⟩ := den_atI r1 e2
        exact .inl ⟨_, _, _, v, rfl, rfl, h1, h3, q d c al G H v R .refl h4 m⟩
    · cases m
  · rename_i e1
    rw [e1] at vx
    split at m
    · rename_i d e2
      cases hy
      cases vx with
      | tup h1 r1 =>
        obtain ⟨v, h3, h4⟩ := den_atI r1 e2
        exact .inr (.inl ⟨_, _, _, v, rfl, rfl, .of h1, h3, q d c al G H v R .refl h4 m⟩)
    · cases m
  · rename_i e1
    rw [e1] at vx
    obtain ⟨m0, m⟩ := m
    split at m
    · rename_i k e2
      cases hy
      cases vx
      exact .inr (.inr ⟨_, _, k, rfl, rfl, m0, e2, q _ c al G H _ R .refl (.str _) m⟩)
    · cases m
  · cases m
theorem den_cut {al : List Addr} {G : Hp} {vs : List V} {xs : List D} {lo hi : Option Int} (h : DenL K al G vs xs) : DenL K al G (cutV vs lo hi) (cutD xs lo hi) := by
  unfold cutV cutD
  rw [h.length]
  exact (h.drop _).take _
theorem dsl {lv : Bool} : ∀ al G c H x dx l u Φ Q, Rep K tb al G c H → Den K al G x dx → slD lv dx l u c Φ → Ret K tb al G c H Φ Q → rSlU K x l u H Q := by
  intro al G c H x dx l u Φ Q R hx m q
  have vx := R.vw hx
  unfold slD at m
  split at m
  · rename_i e1
    rw [e1] at vx
    cases vx with
    | lst h1 r1 => exact .inl ⟨_, _, rfl, .of h1, fun p hp => newL_ok R hp (den_cut r1) m q⟩
  · rename_i e1
    rw [e1] at vx
    cases vx with
    | scr h1 r1 => exact .inl ⟨_, _, rfl, h1, fun p hp => newL_ok R hp (den_cut r1) m q⟩
  · rename_i e1
    rw [e1] at vx
    cases vx
    exact .inr (.inl ⟨_, rfl, m.1, q _ c al G H _ R .refl (.str _) m.2⟩)
  · rename_i e1
    rw [e1] at vx
    cases vx with
    | tup h1 r1 =>
      refine .inr (.inr ⟨_, _, rfl, .of h1, by rw [r1.length]; exact m.1, fun p hp => ?_⟩)
      have hg := R.fresh hp
      exact q _ c al _ _ (.ref p) (R.data hp nofun) (Le.data hp hg nofun) (.tup upd_same ((den_cut r1).mono (fun _ _ => id) (Ex.new hg))) m.2
  · cases m
theorem oneD_of {al : List Addr} {G : Hp} {vs : List V} {xs : List D} {k : D → Prop} (m : oneD xs k) (h : DenL K al G vs xs) : ∃ x v, xs = [x] ∧ vs = [v] ∧ Den K al G v x ∧ k x := by
  unfold oneD at m
  split at m
  · cases h with
    | cons h1 h2 =>
      cases h2
      exact ⟨_, _, rfl, rfl, h1, m⟩
  · cases m
theorem twoD_of {al : List Addr} {G : Hp} {vs : List V} {xs : List D} {k : D → D → Prop} (m : twoD xs k) (h : DenL K al G vs xs) : ∃ x y v w, xs = [x, y] ∧ vs = [v, w] ∧ Den K al G v x ∧ Den K al G w y ∧ k x y := by
  unfold twoD at m
  split at m
  · cases h with
    | cons h1 h2 =>
      cases h2 with
      | cons h2 h3 =>
        cases h3
        exact ⟨_, _, _, _, rfl, rfl, h1, h2, m⟩
  · cases m
end
end M
set_option Elab.async false
set_option linter.all false
set_option maxRecDepth 100000
set_option maxHeartbeats 3900000
namespace M
open PySem PySem.Spec PyProof.Rows L2 G
def iV (K : PySem.W.Frag) (t : TE) : TI := fun σ H R => t σ H fun x H1 => itL K x H1 R ∨ itT K x H1 R ∨ itS x H1 R
theorem pi_V {X : Cx} {K : PySem.W.Frag} (hK : X.K = K) {tg e : Expr} {t : TE} (h : PE X e t) : PI X tg e (iV K t) := by
  subst hK
  constructor
  intro pins s σ H R I q
  refine thn (h.run pins s σ H _ I q) ?_
  rintro v s1 ⟨x, H1, J, r, ⟨a, rfl, ⟨xs, hq⟩, q⟩ | ⟨a, rfl, ⟨xs, hq⟩, q⟩ | ⟨z, rfl, q⟩⟩
  · cases r
    obtain ⟨its, rv, p, hz⟩ := J.list hq
    exact wpAny_pyIter_list p.isList (pi_one (tk := s1.toks) J _ (turn_list a _) ⟨_, Heap.get?_push_size _ rfl, rfl, rfl⟩ q)
  · cases r
    obtain ⟨its, rv, p, hz⟩ := J.tuple hq
    exact wpAny_pyIter_tuple (show s1.heap.IsTuple a its.toArray from p) (pi_one (tk := s1.toks) J _ (turn_tuple a _) ⟨_, Heap.get?_push_size _ rfl, rfl, rfl⟩ q)
  · obtain ⟨t, rfl⟩ := r
    by_cases ha : z.cps.all (· < 128) = true
    · exact wpAny_pyIter_ascii ha (pi_one (tk := s1.toks) J _ (turn_str _ z t _ (.inl rfl)) ⟨_, Heap.get?_push_size _ rfl, rfl, rfl⟩ q)
    · exact wpAny_pyIter_wide (by simpa using ha) (pi_one (tk := s1.toks) J _ (turn_str _ z t _ (.inr rfl)) ⟨_, Heap.get?_push_size _ rfl, rfl, rfl⟩ q)
def signsD (z : Str) : List D := z.cps.toList.map fun k => .str ⟨#[k]⟩
def itemsD : D → Option (List D)
  | .lst xs => some xs
  | .scr xs => some xs
  | .tup xs => some xs
  | .btp xs => some xs
  | .str z => some (signsD z)
  | _ => none
def itM (a : ME) : MI := fun δ c Ψ Φ => a δ c Ψ fun x c1 => match itemsD (view c1 x) with
  | some xs => Φ xs (fun c' => view c' x = view c1 x) c1
  | none => False
def rngD (lo : Int) (n : Nat) : List D := (List.range n).map fun i => .int (lo + (i : Nat))
def rng1M (a : MA) : MI := fun δ c Ψ Φ => a δ c Ψ fun xs c1 => oneD xs fun x => intD x c1 fun j c1 => (-(2 ^ 62) ≤ j ∧ j < 2 ^ 62) ∧ Φ (rngD 0 j.toNat) (fun _ => True) c1
def rng2M (a : MA) : MI := fun δ c Ψ Φ => a δ c Ψ fun xs c1 => twoD xs fun x y => intD x c1 fun i c1 => intD y c1 fun j c1 => (-(2 ^ 62) ≤ i ∧ i < 2 ^ 62 ∧ -(2 ^ 62) ≤ j ∧ j < 2 ^ 62) ∧ Φ (rngD i (j - i).toNat) (fun _ => True) c1
def enumD : Nat → List D → List D
  | _, [] => []
  | i, x :: xs => .tup [.int (i : Nat), x] :: enumD (i + 1) xs
def lstD : D → Option (List D)
  | .lst xs => some xs
  | .scr xs => some xs
  | _ => none
def enumM (a : MA) : MI := fun δ c Ψ Φ => a δ c Ψ fun xs c1 => oneD xs fun x => match lstD (view c1 x) with
  | some xs => Φ (enumD 0 xs) (fun c' => view c' x = view c1 x) c1
  | none => False
def zipD : List D → List D → List D
  | x :: xs, y :: ys => .tup [x, y] :: zipD xs ys
  | _, _ => []
def zipM (a : MA) : MI := fun δ c Ψ Φ => a δ c Ψ fun xs c1 => twoD xs fun x y => match lstD (view c1 x), lstD (view c1 y) with
  | some xs, some ys => Φ (zipD xs ys) (fun c' => view c' x = view c1 x ∧ view c' y = view c1 y) c1
  | _, _ => False
section
variable {K : PySem.W.Frag} {tb : List (Addr × Str)} {W : WX} {ta te : TE} {a : ME} {tA : TA} {mA : MA}
theorem signs_den {al : List Addr} {G : Hp} (z : Str) : DenL K al G (signsV z) (signsD z) := by
  unfold signsV signsD
  induction z.cps.toList with
  | nil => exact .nil
  | cons k r ih => exact .cons (.str _) ih
theorem range_den {al : List Addr} {G : Hp} (lo : Int) (n : Nat) : DenL K al G (rangeV lo n) (rngD lo n) := by
  unfold rangeV rngD
  induction List.range n with
  | nil => exact .nil
  | cons k r ih => exact .cons (.int _) ih
/-- what walks known values -/
theorem iter_of {J : It} {xs : List D} {gd : SH → Prop} {al : List Addr} {G : Hp} {c : SH} {H : Hp} (h : ∀ al1 G1 c1 H1, Rep K tb al1 G1 c1 H1 → Le al G c H al1 G1 c1 H1 → gd c1 → ∃ (vs : List V) (Gd : Hp → Prop), Walks J vs Gd ∧ Gd H1 ∧ DenL K al1 G1 vs xs) : Iter K tb J xs gd al G c H where
  go i x al1 G1 c1 H1 hx R l g := by
    obtain ⟨vs, Gd, wk, hg, dn⟩ := h al1 G1 c1 H1 R l g
    obtain ⟨v, h1, h2⟩ := dn.get hx
    exact wk.go i H1 v hg h1
  yl i x al1 G1 c1 H1 v H' hx R l g y := by
    obtain ⟨vs, Gd, wk, hg, dn⟩ := h al1 G1 c1 H1 R l g
    obtain ⟨u, h1, h2⟩ := dn.get hx
    obtain ⟨e, h3⟩ := wk.yl i H1 v H' hg (List.getElem?_eq_some_iff.mp h1).1 y
    rw [h1] at h3
    cases h3
    subst e
    exact ⟨G1, R, .refl, h2⟩
  st al1 G1 c1 H1 R l g := by
    obtain ⟨vs, Gd, wk, hg, dn⟩ := h al1 G1 c1 H1 R l g
    rw [← dn.length]
    exact wk.st H1 hg
theorem snd_itV (ha : SndE K tb W ta a) : SndI K tb W (iV K ta) (itM a) := by
  intro al G c H σ δ Ψ Φ R g m q
  refine ha al G c H σ δ Ψ _ _ g m fun x c1 al1 G1 H1 v r1 l1 d1 m1 => ?_
  split at m1
  · rename_i xs e
    have vx := r1.vw d1
    have key : ∀ {y : D}, view c1 x = y → ∀ al2 G2 c2 H2, Rep K tb al2 G2 c2 H2 → Le al1 G1 c1 H1 al2 G2 c2 H2 → view c2 x = view c1 x → Vw K al2 G2 H2 v y := fun e2 al2 G2 c2 H2 r2 l2 gd => by
      have := r2.vw (d1.le l2)
      rw [gd, e2] at this
      exact this
    cases e2 : view c1 x with
    | lst ys =>
      rw [e2] at e vx
      cases e
      cases vx with
      | @lst b vs _ h1 dn =>
        refine .inl ⟨_, rfl, ⟨_, .of h1⟩, q xs _ c1 al1 G1 H1 _ r1 l1 (iter_of fun al2 G2 c2 H2 r2 l2 gd => ?_) m1⟩
        have := key e2 al2 G2 c2 H2 r2 l2 gd
        cases this with
        | lst h3 d3 => exact ⟨_, _, wk_list, .of h3, d3⟩
    | scr ys =>
      rw [e2] at e vx
      cases e
      cases vx with
      | scr h1 dn =>
        refine .inl ⟨_, rfl, ⟨_, h1⟩, q xs _ c1 al1 G1 H1 _ r1 l1 (iter_of fun al2 G2 c2 H2 r2 l2 gd => ?_) m1⟩
        have := key e2 al2 G2 c2 H2 r2 l2 gd
        cases this with
        | scr h3 d3 => exact ⟨_, _, wk_list, h3, d3⟩
    | tup ys =>
      rw [e2] at e vx
      cases e
      cases vx with
      | tup h1 dn =>
        refine .inr (.inl ⟨_, rfl, ⟨_, .of h1⟩, q xs _ c1 al1 G1 H1 _ r1 l1 (iter_of fun al2 G2 c2 H2 r2 l2 gd => ?_) m1⟩)
        have := key e2 al2 G2 c2 H2 r2 l2 gd
        cases this with
        | tup h3 d3 => exact ⟨_, _, wk_tup, .of h3, d3⟩
    | btp ys =>
      rw [e2] at e vx
      cases e
      cases vx with
      | btp h1 dn =>
        refine .inr (.inl ⟨_, rfl, ⟨_, .inr h1⟩, q xs _ c1 al1 G1 H1 _ r1 l1 (iter_of fun al2 G2 c2 H2 r2 l2 gd => ?_) m1⟩)
        have := key e2 al2 G2 c2 H2 r2 l2 gd
        cases this with
        | btp h3 d3 => exact ⟨_, _, wk_tup, .inr h3, d3⟩
    | str z =>
      rw [e2] at e vx
      cases e
      cases vx
      exact .inr (.inr ⟨_, rfl, q (signsD z) _ c1 al1 G1 H1 _ r1 l1 (iter_of fun al2 G2 c2 H2 r2 l2 gd => ⟨_, _, wk_str, trivial, signs_den z⟩) m1⟩)
    | _ => rw [e2] at e; cases e
  · cases m1
theorem intD_of {al : List Addr} {G : Hp} {x : D} {v : V} {c : SH} {Φ : Int → SH → Prop} (m : intD x c Φ) (h : Den K al G v x) : ∃ i, x = .int i ∧ v = .int i ∧ Φ i c := by
  unfold intD at m
  split at m
  · cases h
    exact ⟨_, rfl, rfl, m⟩
  · cases m
theorem snd_rng1 (hA : SndA K tb W tA mA) : SndI K tb W (iRng1 tA) (rng1M mA) := by
  intro al G c H σ δ Ψ Φ R g m q
  refine hA al G c H σ δ Ψ _ _ g m fun xs c1 al1 G1 H1 vs r1 l1 d1 m1 => ?_
  obtain ⟨x, v, rfl, rfl, dx, m2⟩ := oneD_of m1 d1
  obtain ⟨j, rfl, rfl, ⟨h1, h2⟩, m3⟩ := intD_of m2 dx
  exact ⟨j, rfl, h1, h2, q _ _ c1 al1 G1 H1 _ r1 l1 (iter_of fun al2 G2 c2 H2 r2 l2 gd => ⟨_, _, wk_range, trivial, range_den _ _⟩) m3⟩
theorem snd_rng2 (hA : SndA K tb W tA mA) : SndI K tb W (iRng2 tA) (rng2M mA) := by
  intro al G c H σ δ Ψ Φ R g m q
  refine hA al G c H σ δ Ψ _ _ g m fun xs c1 al1 G1 H1 vs r1 l1 d1 m1 => ?_
  obtain ⟨x, y, v, w, rfl, rfl, dx, dy, m2⟩ := twoD_of m1 d1
  obtain ⟨i, rfl, rfl, m3⟩ := intD_of m2 dx
  obtain ⟨j, rfl, rfl, hb, m4⟩ := intD_of m3 dy
  exact ⟨i, j, rfl, hb, q _ _ c1 al1 G1 H1 _ r1 l1 (iter_of fun al2 G2 c2 H2 r2 l2 gd => ⟨_, _, wk_range, trivial, range_den _ _⟩) m4⟩
theorem lst_vw {al : List Addr} {G H : Hp} {v : V} {y : D} {xs : List D} (e : lstD y = some xs) (h : Vw K al G H v y) : ∃ b vs, v = .ref b ∧ SqL K H b vs ∧ DenL K al G vs xs := by
  cases h with
  | lst h d => cases e; exact ⟨_, _, rfl, .of h, d⟩
  | scr h d => cases e; exact ⟨_, _, rfl, h, d⟩
  | _ => cases e
theorem enum_get : ∀ (xs : List D) (i j : Nat) (x : D), (enumD j xs)[i]? = some x → ∃ y, xs[i]? = some y ∧ x = .tup [.int ((j + i : Nat) : Int), y]
  | [], i, j, x, h => by simp [enumD] at h
  | y :: ys, 0, j, x, h => by simp [enumD] at h; exact ⟨y, rfl, h.symm⟩
  | y :: ys, i + 1, j, x, h => by
    rw [enumD, List.getElem?_cons_succ] at h
    obtain ⟨z, h1, h2⟩ := enum_get ys i (j + 1) x h
    refine ⟨z, by rw [List.getElem?_cons_succ]; exact h1, ?_⟩
    rw [h2, show j + 1 + i = j + (i + 1) by omega]
theorem enum_len : ∀ (xs : List D) (j : Nat), (enumD j xs).length = xs.length
  | [], _ => rfl
  | _ :: ys, j => by rw [enumD, List.length_cons, List.length_cons, enum_len ys]
/-- a new pair -/
theorem pair_new {al : List Addr} {G : Hp} {c : SH} {H : Hp} {T : Addr} {vs : List V} {ds : List D} (R : Rep K tb al G c H) (hT : H T = none) (dn : DenL K al G vs ds) : Rep K tb al (upd G T (.tup vs)) c (upd H T (.tup vs)) ∧ Le al G c H al (upd G T (.tup vs)) c (upd H T (.tup vs)) ∧ Den K al (upd G T (.tup vs)) (.ref T) (.tup ds) :=
  ⟨R.data hT nofun, Le.data hT (R.fresh hT) nofun, .tup upd_same (dn.mono (fun _ _ => id) (Ex.new (R.fresh hT)))⟩
theorem snd_enum (hA : SndA K tb W tA mA) : SndI K tb W (iEnum K tA) (enumM mA) := by
  intro al G c H σ δ Ψ Φ R g m q
  refine hA al G c H σ δ Ψ _ _ g m fun xs c1 al1 G1 H1 vs r1 l1 d1 m1 => ?_
  obtain ⟨x, v, rfl, rfl, dx, m2⟩ := oneD_of m1 d1
  split at m2
  · rename_i ys e
    obtain ⟨b, us, rfl, hq, dn⟩ := lst_vw e (r1.vw dx)
    have key : ∀ al2 G2 c2 H2, Rep K tb al2 G2 c2 H2 → Le al1 G1 c1 H1 al2 G2 c2 H2 → view c2 x = view c1 x → ∃ ws, SqL K H2 b ws ∧ DenL K al2 G2 ws ys := fun al2 G2 c2 H2 r2 l2 gd => by
      have h := r2.vw (dx.le l2)
      rw [gd] at h
      obtain ⟨b2, ws, e2, h3, h4⟩ := lst_vw e h
      cases e2
      exact ⟨ws, h3, h4⟩
    refine ⟨b, us, rfl, hq, q _ _ c1 al1 G1 H1 _ r1 l1 ⟨fun i y al2 G2 c2 H2 hy r2 l2 gd => ?_, fun i y al2 G2 c2 H2 u H' hy r2 l2 gd yl => ?_, fun al2 G2 c2 H2 r2 l2 gd => ?_⟩ m2⟩
    · obtain ⟨z, h1, _⟩ := enum_get ys i 0 y hy
      obtain ⟨ws, h3, h4⟩ := key al2 G2 c2 H2 r2 l2 gd
      obtain ⟨w, h5, _⟩ := h4.get h1
      exact ⟨ws, w, h3, h5⟩
    · obtain ⟨z, h1, rfl⟩ := enum_get ys i 0 y hy
      obtain ⟨ws, h3, h4⟩ := key al2 G2 c2 H2 r2 l2 gd
      obtain ⟨w, h5, h6⟩ := h4.get h1
      obtain ⟨T, w2, rfl, hT, rfl, hw⟩ := yl
      rw [hw ws h3] at h5
      cases h5
      obtain ⟨p1, p2, p3⟩ := pair_new (vs := [.int (i : Nat), w]) (ds := [.int ((0 + i : Nat) : Int), z]) r2 hT (.cons (by rw [Nat.zero_add]; exact .int _) (.cons h6 .nil))
      exact ⟨_, p1, p2, p3⟩
    · obtain ⟨ws, h3, h4⟩ := key al2 G2 c2 H2 r2 l2 gd
      exact ⟨ws, h3, by rw [enum_len, h4.length]; exact Nat.le_refl _⟩
  · cases m2
theorem zip_get : ∀ (xs ys : List D) (i : Nat) (x : D), (zipD xs ys)[i]? = some x → ∃ y z, xs[i]? = some y ∧ ys[i]? = some z ∧ x = .tup [y, z]
  | [], _, i, x, h => by simp [zipD] at h
  | _ :: _, [], i, x, h => by simp [zipD] at h
  | y :: ys, z :: zs, 0, x, h => by simp [zipD] at h; exact ⟨y, z, rfl, rfl, h.symm⟩
  | y :: ys, z :: zs, i + 1, x, h => by
    rw [zipD, List.getElem?_cons_succ] at h
    obtain ⟨a, b, h1, h2, h3⟩ := zip_get ys zs i x h
    exact ⟨a, b, by rw [List.getElem?_cons_succ]; exact h1, by rw [List.getElem?_cons_succ]; exact h2, h3⟩
theorem zip_len : ∀ (xs ys : List D), xs.length ≤ (zipD xs ys).length ∨ ys.length ≤ (zipD xs ys).length
  | [], _ => .inl (Nat.zero_le _)
  | _ :: _, [] => .inr (Nat.zero_le _)
  | _ :: xs, _ :: ys => by
    rw [zipD, List.length_cons, List.length_cons, List.length_cons]
    rcases zip_len xs ys with h | h
    · exact .inl (Nat.succ_le_succ h)
    · exact .inr (Nat.succ_le_succ h)
theorem snd_zip (hA : SndA K tb W tA mA) : SndI K tb W (iZip K tA) (zipM mA) := by
  intro al G c H σ δ Ψ Φ R g m q
  refine hA al G c H σ δ Ψ _ _ g m fun xs c1 al1 G1 H1 vs r1 l1 d1 m1 => ?_
  obtain ⟨x, y, v, w, rfl, rfl, dx, dy, m2⟩ := twoD_of m1 d1
  split at m2
  · rename_i xs ys ex ey
    obtain ⟨b1, us, rfl, hq1, dn1⟩ := lst_vw ex (r1.vw dx)
    obtain ⟨b2, ws, rfl, hq2, dn2⟩ := lst_vw ey (r1.vw dy)
    have key : ∀ {b : Addr} {x : D} {xs : List D}, lstD (view c1 x) = some xs → Den K al1 G1 (.ref b) x → ∀ al2 G2 c2 H2, Rep K tb al2 G2 c2 H2 → Le al1 G1 c1 H1 al2 G2 c2 H2 → view c2 x = view c1 x → ∃ ws, SqL K H2 b ws ∧ DenL K al2 G2 ws xs := fun e dx al2 G2 c2 H2 r2 l2 gd => by
      have h := r2.vw (dx.le l2)
      rw [gd] at h
      obtain ⟨b2, ws, e2, h3, h4⟩ := lst_vw e h
      cases e2
      exact ⟨ws, h3, h4⟩
    refine ⟨b1, b2, us, ws, rfl, hq1, hq2, q _ _ c1 al1 G1 H1 _ r1 l1 ⟨fun i y al2 G2 c2 H2 hy r2 l2 gd => ?_, fun i y al2 G2 c2 H2 u H' hy r2 l2 gd yl => ?_, fun al2 G2 c2 H2 r2 l2 gd => ?_⟩ m2⟩
    · obtain ⟨z1, z2, h1, h2, _⟩ := zip_get xs ys i y hy
      obtain ⟨w1, h3, h4⟩ := key ex dx al2 G2 c2 H2 r2 l2 gd.1
      obtain ⟨w2, h5, h6⟩ := key ey dy al2 G2 c2 H2 r2 l2 gd.2
      obtain ⟨p1, h7, _⟩ := h4.get h1
      obtain ⟨p2, h8, _⟩ := h6.get h2
      exact ⟨w1, w2, p1, p2, h3, h5, h7, h8⟩
    · obtain ⟨z1, z2, h1, h2, rfl⟩ := zip_get xs ys i y hy
      obtain ⟨w1, h3, h4⟩ := key ex dx al2 G2 c2 H2 r2 l2 gd.1
      obtain ⟨w2, h5, h6⟩ := key ey dy al2 G2 c2 H2 r2 l2 gd.2
      obtain ⟨p1, h7, h7'⟩ := h4.get h1
      obtain ⟨p2, h8, h8'⟩ := h6.get h2
      obtain ⟨T, x2, y2, rfl, hT, rfl, hw1, hw2⟩ := yl
      rw [hw1 w1 h3] at h7
      rw [hw2 w2 h5] at h8
      cases h7
      cases h8
      obtain ⟨p1, p2, p3⟩ := pair_new (vs := [_, _]) (ds := [z1, z2]) r2 hT (.cons h7' (.cons h8' .nil))
      exact ⟨_, p1, p2, p3⟩
    · obtain ⟨w1, h3, h4⟩ := key ex dx al2 G2 c2 H2 r2 l2 gd.1
      obtain ⟨w2, h5, h6⟩ := key ey dy al2 G2 c2 H2 r2 l2 gd.2
      exact ⟨w1, w2, h3, h5, by rw [h4.length, h6.length]; exact zip_len xs ys⟩
  · cases m2
end
def noX : XD := fun _ _ _ _ => False
def W0 : WX := fun _ _ _ _ => False
theorem thr0 {K : PySem.W.Frag} {tb : List (Addr × Str)} {al : List Addr} {G : Hp} {c : SH} {H : Hp} {E : XK} : Thr K tb al G c H noX E := fun _ _ _ _ _ _ _ _ _ _ _ _ _ _ z => z.elim
def wipeD (δ : Env) : List Nat → Env
  | [] => δ
  | v :: vs => (wipeD δ vs).set v none
theorem SRel.wipe {K : PySem.W.Frag} {al : List Addr} {G : Hp} {σ : L2.St} {δ : Env} (h : SRel K al G σ δ) : ∀ vs : List Nat, SRel K al G (wipe σ vs) (wipeD δ vs)
  | [] => h
  | _ :: vs => (h.wipe vs).wipe1
theorem wipe_get (σ : L2.St) (i : Nat) : ∀ vs : List Nat, (wipe σ vs)[i]? = if i ∈ vs then (σ[i]?).map (fun _ => none) else σ[i]?
  | [] => by simp [wipe]
  | v :: vs => by
    rw [wipe, List.getElem?_set]
    by_cases e : v = i
    · subst e
      rw [if_pos rfl, wipe_length, if_pos List.mem_cons_self]
      by_cases h : v < σ.length
      · rw [if_pos h, List.getElem?_eq_getElem h]; rfl
      · rw [if_neg h, List.getElem?_eq_none (by omega)]; rfl
    · rw [if_neg e, wipe_get σ i vs]
      have : (i ∈ v :: vs) ↔ i ∈ vs := by
        rw [List.mem_cons]
        exact ⟨fun h => h.resolve_left fun z => e z.symm, .inr⟩
      simp only [this]
theorem wipe_set {i : Nat} {vs : List Nat} {o : Option V} (σ : L2.St) (h : i ∈ vs) : wipe (σ.set i o) vs = wipe σ vs := by
  apply List.ext_getElem?
  intro j
  rw [wipe_get, wipe_get]
  by_cases hj : j ∈ vs
  · rw [if_pos hj, if_pos hj, List.getElem?_set]
    by_cases e : i = j
    · subst e
      by_cases hl : i < σ.length
      · rw [if_pos rfl, if_pos hl, List.getElem?_eq_getElem hl]; rfl
      · rw [if_pos rfl, if_neg hl, List.getElem?_eq_none (by omega)]
    · rw [if_neg e]
  · rw [if_neg hj, if_neg hj, List.getElem?_set, if_neg fun e => hj (by rw [← e]; exact h)]
theorem wipe_wipe (σ : L2.St) (vs : List Nat) : wipe (wipe σ vs) vs = wipe σ vs := by
  apply List.ext_getElem?
  intro j
  rw [wipe_get, wipe_get]
  by_cases hj : j ∈ vs
  · rw [if_pos hj, if_pos hj]
    cases σ[j]? <;> rfl
  · rw [if_neg hj, if_neg hj]
section
variable (K : PySem.W.Frag) (tb : List (Addr × Str)) (W : WX) (vs : List Nat)
/-- a target that stores within vs alone -/
def SndGO (g : TG) (m : MG) : Prop := ∀ al G c H σ δ Ψ v x N R, Go K tb al G c H W σ δ Ψ → Den K al G v x → m x δ c Ψ N → (∀ (δ' : Env) (c' : SH) (al' : List Addr) (G' H' : Hp) (σ' : L2.St), Rep K tb al' G' c' H' → Le al G c H al' G' c' H' → SRel K al' G' σ' δ' → wipe σ' vs = wipe σ vs → N δ' c' → R σ' H') → g v σ H R
def SndGOs (g : TGs) (m : MGs) : Prop := ∀ al G c H σ δ v x N R, Rep K tb al G c H → SRel K al G σ δ → DenL K al G v x → m x δ c noX N → (∀ (δ' : Env) (c' : SH) (al' : List Addr) (G' H' : Hp) (σ' : L2.St), Rep K tb al' G' c' H' → Le al G c H al' G' c' H' → SRel K al' G' σ' δ' → wipe σ' vs = wipe σ vs → N δ' c' → R σ' H') → g v σ H R
end
/-- the targets of a pair, names alone -/
def gnilM : MGs := fun xs δ c _ N => xs = [] ∧ N δ c
def gconsM (i : Nat) (g : MGs) : MGs := fun xs δ c Ψ N => match xs with
  | x :: r => g r (δ.set i (some x)) c Ψ N
  | [] => False
def gtupM (g : MGs) : MG := fun x δ c _ N => match view c x with
  | .tup xs => g xs δ c noX N
  | _ => False
section
variable {K : PySem.W.Frag} {tb : List (Addr × Str)} {W : WX} {vs : List Nat}
theorem sgo_name {i : Nat} (h : i ∈ vs) : SndGO K tb W vs (gName i) (gnameM i) := fun al G c H σ δ Ψ v x N R g d m q => q _ c al G H _ g.rep .refl (g.set d) (wipe_set σ h) m
theorem sgo_nil : SndGOs K tb vs gNil gnilM := fun al G c H σ δ v x N R r s d m q => by
  obtain ⟨rfl, m⟩ := m
  cases d
  exact ⟨rfl, q δ c al G H σ r .refl s rfl m⟩
theorem sgo_cons {i : Nat} {g : TGs} {mg : MGs} (h : i ∈ vs) (hg : SndGOs K tb vs g mg) : SndGOs K tb vs (gCons (gName i) g) (gconsM i mg) := by
  intro al G c H σ δ v x N R r s d m q
  cases d with
  | nil => cases m
  | cons d1 d2 =>
    refine ⟨_, _, rfl, ?_⟩
    exact hg al G c H _ _ _ _ N R r (s.set d1) d2 m fun δ' c' al' G' H' σ' r' l' s' w' n' => q δ' c' al' G' H' σ' r' l' s' (w'.trans (wipe_set σ h)) n'
theorem sgo_tup {n : Nat} {g : TGs} {mg : MGs} (hn : ∀ xs δ c Ψ N, mg xs δ c Ψ N → xs.length = n) (hg : SndGOs K tb vs g mg) : SndGO K tb W vs (gTup K n g) (gtupM mg) := by
  intro al G c H σ δ Ψ v x N R go d m q
  have vx := go.rep.vw d
  unfold gtupM at m
  split at m
  · rename_i xs e
    rw [e] at vx
    cases vx with
    | tup h1 dn => exact ⟨_, _, rfl, .of h1, by rw [dn.length]; exact hn _ _ _ _ _ m, hg al G c H σ δ _ _ N R go.rep go.env dn m q⟩
  · cases m
theorem glen_nil : ∀ xs δ c Ψ N, gnilM xs δ c Ψ N → xs.length = 0 := fun xs δ c Ψ N h => by rw [h.1]; rfl
theorem glen_cons {n i : Nat} {mg : MGs} (h : ∀ xs δ c Ψ N, mg xs δ c Ψ N → xs.length = n) : ∀ xs δ c Ψ N, gconsM i mg xs δ c Ψ N → xs.length = n + 1 := fun xs δ c Ψ N m => by
  unfold gconsM at m
  split at m
  · rw [List.length_cons, h _ _ _ _ _ m]
  · cases m
/-- as a target of an assignment or a for -/
theorem SndGO.g {g : TG} {m : MG} (h : SndGO K tb W vs g m) : SndG K tb W g m := fun al G c H σ δ Ψ v x N R go d mm q => h al G c H σ δ Ψ v x N R go d mm fun δ' c' al' G' H' σ' r' l' s' _ n' => q δ' c' al' G' H' σ' r' l' s' n'
end
/-- the turns of a comprehension: what is put to the list -/
def lcD (gd : SH → Prop) (turn : D → SH → (Option D → SH → Prop) → Prop) : List D → List D → SH → (List D → SH → Prop) → Prop
  | [], acc, c, Φ => gd c ∧ Φ acc c
  | x :: xs, acc, c, Φ => gd c ∧ turn x c fun o c1 => acc.length < sizeLine ∧ lcD gd turn xs (acc ++ o.toList) c1 Φ
def turnD (g : MG) (t : MT) (e : ME) (δ : Env) : D → SH → (Option D → SH → Prop) → Prop := fun x c k => g x δ c noX fun δ2 c2 => t δ2 c2 noX fun b c3 => if b = true then e δ2 c3 noX fun y c4 => k (some y) c4 else k none c3
/-- what becomes of the list: data, or an object that may change -/
def endL (lv : Bool) (Φ : QD) (xs : List D) (c : SH) : Prop := if lv = true then Φ (.obj c.length) (c ++ [.lst xs]) else Φ (.lst xs) c
def lcM (lv : Bool) (i : MI) (g : MG) (t : MT) (e : ME) (vs : List Nat) : ME := fun δ c Ψ Φ => i δ c Ψ fun xs gd c1 => lcD gd (turnD g t e (wipeD δ vs)) xs [] c1 (endL lv Φ)
section
variable {K : PySem.W.Frag} {tb : List (Addr × Str)} {W : WX} {al al' : List Addr} {G G' : Hp} {c c' : SH} {H H' : Hp}
/-- a thing that is no data and no object changes -/
theorem Rep.foreign (R : Rep K tb al G c H) {a : Addr} {u o : HO} (hu : H a = some u) (n1 : ∀ ps, u ≠ .tbl ps) (n2 : ∀ φ, u ≠ .ext φ) (hg : G a = none) (hl : ¬ Liv al c a) (hf : ∀ k : Nat, al[k]? ≠ some a) : Rep K tb al G c (upd H a o) where
  len := R.len
  sub b w h := by
    rw [upd_ne (fun z => by rw [z, hg] at h; cases h)]
    exact R.sub b w h
  ent k b s h1 h2 := Ent.ext (R.ent k b s h1 h2) (fun _ _ => id) (Ex.refl _) fun w hw => by
    rw [upd_ne (fun z => hf k (by rw [← z]; exact h1))]
    exact hw
  out := R.out
  inj := R.inj
  tak k b h := by
    rw [upd_ne (fun z => hf k (by rw [← z]; exact h))]
    exact R.tak k b h
  gt := R.gt
  tab := tabs_upd R.tab hu n1 n2
/-- what is apart at a state stays apart -/
structure Apart (al : List Addr) (G : Hp) (c : SH) (a : Addr) : Prop where
  g : G a = none
  k : ∀ k : Nat, al[k]? ≠ some a
theorem Apart.liv {a : Addr} (h : Apart al G c a) : ¬ Liv al c a := fun ⟨k, _, h1, _⟩ => h.k k h1
theorem Apart.le {a : Addr} {u : HO} (h : Apart al G c a) (hu : H a = some u) (n1 : ∀ ps, u ≠ .tbl ps) (l : Le al G c H al' G' c' H') : Apart al' G' c' a ∧ H' a = some u := by
  have nf : ¬ Fr H a := fun z => by obtain ⟨ps, e⟩ := z u hu; exact n1 ps e
  refine ⟨⟨?_, fun k hk => ?_⟩, l.fr a u hu h.liv n1⟩
  · cases e : G' a with
    | none => rfl
    | some o =>
      rcases l.gn a o e with ⟨w, z⟩ | z | z
      · rw [h.g] at z; cases z
      · exact absurd z nf
      · exact absurd z h.liv
  · rcases l.nd k a hk with ⟨j, z⟩ | z
    · exact h.k j z
    · exact nf z
theorem Apart.new (R : Rep K tb al G c H) {a : Addr} (h : H a = none) : Apart al G c a := ⟨R.fresh h, fun k hk => by obtain ⟨u, hu, _⟩ := R.tak k a hk; rw [h] at hu; cases hu⟩
theorem Le.foreign (l : Le al G c H al' G' c' H') {a : Addr} {o : HO} (h : Fr H a) (ho : ∀ ps, o ≠ .tbl ps) : Le al G c H al' G' c' (upd H' a o) where
  ad := l.ad
  g := l.g
  fr b u hb n t := by
    rw [upd_ne (fun z => by rw [z] at hb; obtain ⟨ps, e⟩ := h u hb; exact t ps e)]
    exact l.fr b u hb n t
  nl := l.nl
  dom b hb := by
    by_cases e : b = a
    · rw [e]; exact h
    · exact l.dom b fun u hu => hb u (by rw [upd_ne e]; exact hu)
  gn := l.gn
  nd := l.nd
/-- a thing apart becomes an object -/
theorem Rep.own (R : Rep K tb al G c H) {a : Addr} {u : HO} {o : SO} (ap : Apart al G c a) (hu : H a = some u) (nt : ∀ ps, u ≠ .tbl ps) (he : Ent K (al ++ [a]) G H a o) (hl : o.live = true) : Rep K tb (al ++ [a]) G (c ++ [o]) H ∧ True ∧ (al ++ [a])[c.length]? = some a := by
  refine ⟨{ len := by rw [List.length_append, List.length_append, R.len]; rfl, sub := R.sub, ent := fun k b s h1 h3 => ?_, out := fun k b s h1 h3 h4 => ?_, inj := fun i j b s h1 h3 h4 h5 => ?_, tak := fun k b h => ?_, gt := R.gt, tab := R.tab }, trivial, ?_⟩
  · rcases get_app h1 with g1 | ⟨e1, e2⟩
    · rcases get_app h3 with g2 | ⟨e3, e4⟩
      · exact Ent.ext (R.ent k b s g1 g2) (fun _ _ => app_get) (Ex.refl _) fun w hw => hw
      · have := R.den_some g1
        omega
    · rcases get_app h3 with g2 | ⟨e3, e4⟩
      · have := (List.getElem?_eq_some_iff.mp g2).1
        have := R.len
        omega
      · subst e2 e4
        exact he
  · rcases get_app h1 with g1 | ⟨e1, e2⟩
    · rcases get_app h3 with g2 | ⟨e3, e4⟩
      · exact R.out k b s g1 g2 h4
      · have := R.den_some g1
        omega
    · rw [e2]
      exact ap.g
  · rcases get_app h1 with g1 | ⟨e1, e2⟩
    · rcases get_app h3 with g2 | ⟨e3, e4⟩
      · rcases get_app h4 with g3 | ⟨e5, e6⟩
        · exact R.inj i j b s g1 g2 g3 h5
        · have := R.den_some g1
          omega
      · rw [e4] at g1
        exact absurd g1 (ap.k i)
    · rcases get_app h3 with g2 | ⟨e3, e4⟩
      · rw [e2] at g2
        exact absurd g2 (ap.k j)
      · omega
  · rcases get_app h with g | ⟨_, e⟩
    · exact R.tak k b g
    · rw [e]; exact ⟨_, hu, nt⟩
  · rw [← R.len, List.getElem?_append_right (Nat.le_refl _), Nat.sub_self]
    rfl
theorem Le.own (l : Le al G c H al' G' c' H') (R : Rep K tb al' G' c' H') {a : Addr} {o : SO} (hf : Fr H a) : Le al G c H (al' ++ [a]) G' (c' ++ [o]) H' := {
  l with
  ad := fun k b h => app_get (l.ad k b h)
  nl := fun b h => by
    obtain ⟨k, s, h1, h3, h4⟩ := h
    rcases get_app h1 with g1 | ⟨e1, e2⟩
    · rcases get_app h3 with g2 | ⟨e3, e4⟩
      · exact l.nl b ⟨k, s, g1, g2, h4⟩
      · have := R.den_some g1
        omega
    · rw [e2]; exact .inr hf
  nd := fun k b h => by
    rcases get_app h with g | ⟨_, e⟩
    · exact l.nd k b g
    · rw [e]; exact .inr hf }
theorem snd_lc {lv : Bool} {wi : TI} {mi : MI} {g : TG} {mg : MG} {tt : TT} {mt : MT} {te : TE} {me : ME} {vs : List Nat} (hi : SndI K tb W wi mi) (hg : SndGO K tb W0 vs g mg) (ht : SndT K tb W0 tt mt) (he : SndE K tb W0 te me) : SndE K tb W (tLc wi g tt te vs) (lcM lv mi mg mt me vs) := by
  intro al G c H σ δ Ψ Φ Q go m q
  refine w_lc (hi al G c H σ δ Ψ _ _ go m fun xs gd c1 al1 G1 H1 J r1 l1 it m1 => ?_)
  intro D hD
  have e1 : SRel K al1 G1 σ δ := go.env.le l1
  refine ⟨fun i n H2 => n = xs.length - i ∧ i ≤ xs.length ∧ ∃ al2 G2 c2 acc avs, Rep K tb al2 G2 c2 H2 ∧ Le al1 G1 c1 H1 al2 G2 c2 H2 ∧ Apart al2 G2 c2 D ∧ H2 D = some (.lst avs) ∧ DenL K al2 G2 avs acc ∧ lcD gd (turnD mg mt me (wipeD δ vs)) (xs.drop i) acc c2 (endL lv Φ), ⟨_, rfl, Nat.zero_le _, al1, G1, c1, [], [], r1.grow (Ex.new hD), Le.grow (Ex.new hD), Apart.new r1 hD, upd_same, .nil, m1⟩, ?_⟩
  rintro i n H2 ⟨rfl, hle, al2, G2, c2, acc, avs, r2, l2, ap2, h2, d2, m2⟩
  by_cases hlt : i < xs.length
  · rw [drop_get hlt] at m2
    obtain ⟨hgd, m2⟩ := m2
    have hx : xs[i]? = some xs[i] := List.getElem?_eq_getElem hlt
    refine .inr ⟨it.go i _ al2 G2 c2 H2 hx r2 l2 hgd, fun H3 => ∃ al3 G3 c3 acc3 avs3, Rep K tb al3 G3 c3 H3 ∧ Le al1 G1 c1 H1 al3 G3 c3 H3 ∧ Apart al3 G3 c3 D ∧ H3 D = some (.lst avs3) ∧ DenL K al3 G3 avs3 acc3 ∧ lcD gd (turnD mg mt me (wipeD δ vs)) (xs.drop (i + 1)) acc3 c3 (endL lv Φ), ?_, ?_⟩
    · rintro H3 ⟨al3, G3, c3, acc3, avs3, r3⟩
      exact ⟨xs.length - (i + 1), by omega, rfl, hlt, al3, G3, c3, acc3, avs3, r3⟩
    · intro v H' y
      obtain ⟨G', r', l', d'⟩ := it.yl i _ al2 G2 c2 H2 v H' hx r2 l2 hgd y
      obtain ⟨ap', h'⟩ := ap2.le h2 nofun l'
      have go' : Go K tb al2 G' c2 H' W0 (wipe σ vs) (wipeD δ vs) noX := ⟨r', ((e1.le l2).le l').wipe vs, thr0⟩
      refine hg al2 G' c2 H' _ _ noX v _ _ _ go' d' m2 fun δ3 c3 al3 G3 H3 σ3 r3 l3 s3 w3 m3 => ?_
      rw [wipe_wipe] at w3
      refine ⟨w3, ?_⟩
      have go3 : Go K tb al3 G3 c3 H3 W0 σ3 δ3 noX := ⟨r3, s3, thr0⟩
      refine ht al3 G3 c3 H3 σ3 δ3 noX _ _ go3 m3 fun b c4 al4 G4 H4 r4 l4 m4 => ?_
      have l24 := (l'.trans l3).trans l4
      cases b with
      | false =>
        obtain ⟨ap4, h4⟩ := ap2.le h2 nofun l24
        refine iteF ⟨al4, G4, c4, acc, avs, r4, l2.trans l24, ap4, h4, d2.le l24, ?_⟩
        have := m4.2
        rwa [Option.toList_none, List.append_nil] at this
      | true =>
        refine iteT (he al4 G4 c4 H4 σ3 δ3 noX _ _ (go3.le r4 l4) m4 fun y c5 al5 G5 H5 w r5 l5 d5 m5 => ?_)
        have l25 := l24.trans l5
        obtain ⟨ap5, h5⟩ := ap2.le h2 nofun l25
        have hl := m5.1
        refine ⟨avs, h5, by rw [d2.length]; exact hl, al5, G5, c5, acc ++ [y], avs ++ [w], r5.foreign h5 nofun nofun ap5.g ap5.liv ap5.k, (l2.trans l25).foreign (.of hD) nofun, ap5, upd_same, (d2.le l25).append (.cons d5 .nil), m5.2⟩
  · have hi2 : i = xs.length := by omega
    subst hi2
    rw [List.drop_length] at m2
    obtain ⟨hgd, m2⟩ := m2
    refine .inl ⟨it.st al2 G2 c2 H2 r2 l2 hgd, ?_⟩
    unfold endL at m2
    cases lv with
    | false =>
      rw [if_neg (by decide)] at m2
      obtain ⟨r3, ex⟩ := r2.adopt h2 ap2.liv nofun
      exact q (.lst acc) c2 al2 _ H2 (.ref D) r3 (l1.trans (l2.adopt h2 ex (.of hD))) (.lst upd_same (d2.mono (fun _ _ => id) ex)) m2
    | true =>
      rw [if_pos rfl] at m2
      obtain ⟨r3, _, k3⟩ := r2.own ap2 h2 nofun (o := .lst acc) ⟨avs, h2, d2.mono (fun _ _ => app_get) (Ex.refl _)⟩ rfl
      exact q (.obj c2.length) _ _ G2 H2 (.ref D) r3 (l1.trans (l2.own r2 (.of hD))) (.obj k3) m2
end
end M
set_option Elab.async false
set_option linter.all false
set_option maxRecDepth 100000
set_option maxHeartbeats 3900000
namespace M
open PySem PySem.Spec PyProof.Rows L2 G
mutual
def pyW (ob : Nat → Option PyData) : D → Option PyData
  | .non => some .none
  | .bl b => some (.bool b)
  | .int i => some (.int i)
  | .str z => some (.str z)
  | .lst xs => (pyWL ob xs).map .list
  | .scr xs => (pyWL ob xs).map .list
  | .tup xs => (pyWL ob xs).map .tuple
  | .obj k => ob k
  | _ => none
def pyWL (ob : Nat → Option PyData) : List D → Option (List PyData)
  | [] => some []
  | x :: xs => match pyW ob x, pyWL ob xs with
    | some p, some ps => some (p :: ps)
    | _, _ => none
end
def pyO (c : SH) (k : Nat) : Option PyData := match c[k]? with
  | some (.lst xs) => (pyWL (fun _ => none) xs).map .list
  | some (.frz d) => pyW (fun _ => none) d
  | _ => none
abbrev pyC (c : SH) : D → Option PyData := pyW (pyO c)
section
variable {K : PySem.W.Frag} {al : List Addr} {G H : Hp} {ob : Nat → Option PyData}
mutual
theorem den_py (ex : Ex G H) (ho : ∀ (k : Nat) (a : Addr) (p : PyData), al[k]? = some a → ob k = some p → Dp K H (.ref a) p) : ∀ {v : V} {d : D} {p : PyData}, Den K al G v d → pyW ob d = some p → Dp K H v p
  | _, _, _, .non, e => by simp only [pyW] at e; cases e; exact .non
  | _, _, _, .bl b, e => by simp only [pyW] at e; cases e; exact .bl b
  | _, _, _, .int b, e => by simp only [pyW] at e; cases e; exact .int b
  | _, _, _, .str b, e => by simp only [pyW] at e; cases e; exact .str b
  | _, _, _, .ty b, e => by simp only [pyW] at e; cases e
  | _, _, _, .adr b, e => by simp only [pyW] at e; cases e
  | _, _, _, .lst h r, e => by
    simp only [pyW] at e
    obtain ⟨ps, h1, rfl⟩ := Option.map_eq_some_iff.mp e
    exact .lst (.of (ex _ _ h)) (den_pyL ex ho r h1)
  | _, _, _, .scr h r, e => by
    simp only [pyW] at e
    obtain ⟨ps, h1, rfl⟩ := Option.map_eq_some_iff.mp e
    exact .lst (ex.l h) (den_pyL ex ho r h1)
  | _, _, _, .tup h r, e => by
    simp only [pyW] at e
    obtain ⟨ps, h1, rfl⟩ := Option.map_eq_some_iff.mp e
    exact .tup (.of (ex _ _ h)) (den_pyL ex ho r h1)
  | _, _, _, .exc h h2 h3 r, e => by simp only [pyW] at e; cases e
  | _, _, _, .dic h r, e => by simp only [pyW] at e; cases e
  | _, _, _, .ins h r, e => by simp only [pyW] at e; cases e
  | _, _, _, .obj h, e => by simp only [pyW] at e; exact ho _ _ _ h e
  | _, _, _, .btp h r, e => by simp only [pyW] at e; cases e
theorem den_pyL (ex : Ex G H) (ho : ∀ (k : Nat) (a : Addr) (p : PyData), al[k]? = some a → ob k = some p → Dp K H (.ref a) p) : ∀ {v : List V} {d : List D} {p : List PyData}, DenL K al G v d → pyWL ob d = some p → DpAll K H v p
  | _, _, _, .nil, e => by simp only [pyWL] at e; cases e; exact .nil
  | _, _, _, .cons h r, e => by
    simp only [pyWL] at e
    split at e
    · rename_i p ps h1 h2
      cases e
      exact .cons (den_py ex ho h h1) (den_pyL ex ho r h2)
    · cases e
end
end
section
variable {K : PySem.W.Frag} {tb : List (Addr × Str)} {al : List Addr} {G H : Hp} {c : SH}
theorem Rep.py (R : Rep K tb al G c H) {v : V} {d : D} {p : PyData} (h : Den K al G v d) (e : pyC c d = some p) : Dp K H v p := by
  refine den_py R.sub (fun k a p hk hp => ?_) h e
  unfold pyO at hp
  split at hp
  · rename_i xs hs
    obtain ⟨vs, h1, h2⟩ := R.ent k a _ hk hs
    obtain ⟨ps, h3, rfl⟩ := Option.map_eq_some_iff.mp hp
    exact .lst (.of h1) (den_pyL R.sub (fun _ _ _ _ z => by cases z) h2 h3)
  · rename_i d hs
    exact den_py R.sub (fun _ _ _ _ z => by cases z) (R.ent k a _ hk hs) hp
  · cases hp
end
def scD : D → D → Option Bool
  | .non, .non => some true
  | .int a, .int b => some (decide (a = b))
  | .bl a, .bl b => some (decide (a = b))
  | .str a, .str b => some (decide (a = b))
  | .non, .int _ => some false | .int _, .non => some false | .non, .bl _ => some false | .bl _, .non => some false | .non, .str _ => some false | .str _, .non => some false
  | .int _, .str _ => some false | .str _, .int _ => some false | .bl _, .str _ => some false | .str _, .bl _ => some false
  | _, _ => none
def eqB (x y : D) (c : SH) (k : Bool → Prop) : Prop := match scD x y with
  | some b => k b
  | none => match pyC c x, pyC c y with
    | some p, some q => (SeqAt.shaped p = true ∧ SeqAt.shaped q = true) ∧ k (PyData.eqv p q)
    | _, _ => False
def eqD (x y : D) (c : SH) (Φ : QD) : Prop := eqB x y c fun b => Φ (.bl b) c
def neD (x y : D) (c : SH) (Φ : QD) : Prop := eqB x y c fun b => Φ (.bl (!b)) c
section
variable {K : PySem.W.Frag} {tb : List (Addr × Str)}
theorem scD_ok {al : List Addr} {G : Hp} {v w : V} {x y : D} {b : Bool} (hx : Den K al G v x) (hy : Den K al G w y) (e : scD x y = some b) : scal v w = true ∧ decide (v = w) = b := by
  cases hx <;> cases hy <;> first
    | (cases e; done)
    | (cases e; exact ⟨rfl, by simp⟩)
theorem dop_eq : DOp K tb (rEqU K) eqD := by
  intro al G c H x y dx dy Φ Q R hx hy m q
  unfold eqD eqB at m
  split at m
  · rename_i b e
    obtain ⟨h1, h2⟩ := scD_ok hx hy e
    refine .inl ⟨h1, ?_⟩
    rw [h2]
    exact q _ c al G H _ R .refl (.bl _) m
  · split at m
    · rename_i p p' e1 e2
      exact .inr ⟨p, p', R.py hx e1, R.py hy e2, m.1.1, m.1.2, q _ c al G H _ R .refl (.bl _) m.2⟩
    · cases m
theorem dop_ne : DOp K tb (rNeU K) neD := by
  intro al G c H x y dx dy Φ Q R hx hy m q
  unfold neD eqB at m
  split at m
  · rename_i b e
    obtain ⟨h1, h2⟩ := scD_ok hx hy e
    refine .inl ⟨h1, ?_⟩
    rw [h2]
    exact q _ c al G H _ R .refl (.bl _) m
  · split at m
    · rename_i p p' e1 e2
      exact .inr ⟨p, p', R.py hx e1, R.py hy e2, m.1.1, m.1.2, q _ c al G H _ R .refl (.bl _) m.2⟩
    · cases m
end
def flatD : D → Bool
  | .non => true
  | .bl _ => true
  | .int _ => true
  | .str _ => true
  | _ => false
def eqF : D → D → Bool
  | .non, .non => true
  | .bl a, .bl b => a == b
  | .bl a, .int b => (if a then 1 else 0) == b
  | .int a, .bl b => a == (if b then 1 else 0)
  | .int a, .int b => a == b
  | .str a, .str b => a == b
  | _, _ => false
def inF (x : D) (xs : List D) : Bool := xs.any fun y => eqF y x
def sign1 (z : Str) : Option Nat := if z.cps.size = 1 then z.cps[0]? else none
def inD (neg : Bool) (x y : D) (c : SH) (Φ : QD) : Prop := match view c y with
  | .lst ys => (flatD x = true ∧ ys.all flatD = true) ∧ Φ (.bl (if neg then !inF x ys else inF x ys)) c
  | .scr ys => (flatD x = true ∧ ys.all flatD = true) ∧ Φ (.bl (if neg then !inF x ys else inF x ys)) c
  | .tup ys => (flatD x = true ∧ ys.all flatD = true) ∧ Φ (.bl (if neg then !inF x ys else inF x ys)) c
  | .str z => match x with
    | .str y => match sign1 y with
      | some k => Φ (.bl (if neg then !decide (k ∈ z.cps.toList) else decide (k ∈ z.cps.toList))) c
      | none => False
    | _ => False
  | _ => False
section
variable {K : PySem.W.Frag} {tb : List (Addr × Str)}
theorem flat_den {al : List Addr} {G : Hp} {v : V} {x : D} (h : Den K al G v x) (f : flatD x = true) : flatV v = true := by
  cases h <;> first | rfl | cases f
theorem flat_denL {al : List Addr} {G : Hp} : ∀ {vs : List V} {xs : List D}, DenL K al G vs xs → xs.all flatD = true → vs.all flatV = true
  | _, _, .nil, _ => rfl
  | _, _, .cons h r, f => by
    rw [List.all_cons, Bool.and_eq_true] at f ⊢
    exact ⟨flat_den h f.1, flat_denL r f.2⟩
theorem eqF_den {al : List Addr} {G : Hp} {v w : V} {x y : D} (hx : Den K al G v x) (hy : Den K al G w y) (fx : flatD x = true) (fy : flatD y = true) : eqV v w = eqF x y := by
  cases hx <;> first | (cases fx; done) | (cases hy <;> first | (cases fy; done) | rfl)
theorem inF_den {al : List Addr} {G : Hp} {v : V} {x : D} (hx : Den K al G v x) (fx : flatD x = true) : ∀ {vs : List V} {xs : List D}, DenL K al G vs xs → xs.all flatD = true → inV v vs = inF x xs
  | _, _, .nil, _ => rfl
  | _, _, .cons h r, f => by
    rw [List.all_cons, Bool.and_eq_true] at f
    have ih := inF_den hx fx r f.2
    unfold inV inF at ih ⊢
    rw [List.any_cons, List.any_cons, ih, eqF_den h hx f.1 fx]
theorem sign1_eq {z : Str} {k : Nat} (h : sign1 z = some k) : z = ⟨#[k]⟩ := by
  unfold sign1 at h
  split at h
  · rename_i e
    obtain ⟨a⟩ := z
    simp only at e h
    congr 1
    apply Array.ext
    · simpa using e
    · intro i h1 h2
      have : i = 0 := by simp at h2; exact h2
      subst this
      rw [Array.getElem?_eq_getElem h1] at h
      cases h
      rfl
  · cases h
theorem in_ok {neg : Bool} {al : List Addr} {G : Hp} {c : SH} {H : Hp} {x y : V} {dx dy : D} {Φ : QD} {Q : VK} (R : Rep K tb al G c H) (hx : Den K al G x dx) (hy : Den K al G y dy) (m : inD neg dx dy c Φ) (q : Ret K tb al G c H Φ Q) :
    rIn K neg x y H Q ∨ ∃ (k : Nat) (z : Str), x = .str ⟨#[k]⟩ ∧ y = .str z ∧ Q (.bl (if neg then !decide (k ∈ z.cps.toList) else decide (k ∈ z.cps.toList))) H := by
  have vy := R.vw hy
  unfold inD at m
  split at m
  · rename_i ys e
    rw [e] at vy
    cases vy with
    | lst h d => exact .inl ⟨_, _, rfl, .inl (.of h), flat_den hx m.1.1, flat_denL d m.1.2, by rw [inF_den hx m.1.1 d m.1.2]; exact q _ c al G H _ R .refl (.bl _) m.2⟩
  · rename_i ys e
    rw [e] at vy
    cases vy with
    | scr h d => exact .inl ⟨_, _, rfl, .inl h, flat_den hx m.1.1, flat_denL d m.1.2, by rw [inF_den hx m.1.1 d m.1.2]; exact q _ c al G H _ R .refl (.bl _) m.2⟩
  · rename_i ys e
    rw [e] at vy
    cases vy with
    | tup h d => exact .inl ⟨_, _, rfl, .inr (.of h), flat_den hx m.1.1, flat_denL d m.1.2, by rw [inF_den hx m.1.1 d m.1.2]; exact q _ c al G H _ R .refl (.bl _) m.2⟩
  · rename_i z e
    rw [e] at vy
    cases vy
    split at m
    · split at m
      · rename_i y k e2
        cases hx
        refine .inr ⟨k, z, by rw [sign1_eq e2], rfl, q _ c al G H _ R .refl (.bl _) m⟩
      · cases m
    · cases m
  · cases m
theorem dop_in : DOp K tb (rInU K) (inD false) := fun al G c H x y dx dy Φ Q R hx hy m q => in_ok R hx hy m q
theorem dop_nin : DOp K tb (rNotInU K) (inD true) := fun al G c H x y dx dy Φ Q R hx hy m q => in_ok R hx hy m q
end
def tyD : D → Option String
  | .non => some "NoneType"
  | .bl _ => some "bool"
  | .int _ => some "int"
  | .str _ => some "str"
  | .lst _ => some "list"
  | .tup _ => some "tuple"
  | .btp _ => some "tuple"
  | .dic _ => some "dict"
  | _ => none
/-- what is to be known of a class for isinstance of its instances -/
structure InsK (K : PySem.W.Frag) (C : Addr) : Prop where
  cl : Cls K C
  a : PySem.W.findIn K (.ref C) "__class__" = some (some (.builtin "object.__class__"))
  n : PySem.W.specialIn K (.builtin "object.__class__") "__get__" = some (some (.builtin "getset_descriptor.__get__"))
  t : PySem.W.takesIn K (.builtin "object.__class__") = some true
  m : PySem.W.mroIn K C (.type "object") = some true
def clD : D → Option Value
  | .ty n => some (.type n)
  | .adr C => some (.ref C)
  | _ => none
def isi1 (K : PySem.W.Frag) (d : D) (u : Value) (k : Bool → Prop) : Prop := match d with
  | .ins C _ => InsK K C ∧ ∃ b, PySem.W.kitOne K (.ref C) u = some b ∧ k b
  | d => match tyD d with
    | some n => ∃ b, PySem.W.kitOne K (.type n) u = some b ∧ k b
    | none => False
def clsD : List D → Option (List Value)
  | [] => some []
  | x :: xs => match clD x, clsD xs with
    | some u, some us => some (u :: us)
    | _, _ => none
def isiN (K : PySem.W.Frag) (d : D) (us : List Value) (k : Bool → Prop) : Prop := match d with
  | .ins C _ => InsK K C ∧ ∃ b, PySem.W.kitAny K (.ref C) us = some b ∧ k b
  | d => match tyD d with
    | some n => ∃ b, PySem.W.kitAny K (.type n) us = some b ∧ k b
    | none => False
def isiD (K : PySem.W.Frag) (xs : List D) (c : SH) (Φ : QD) : Prop := twoD xs fun x y => match y with
  | .tup ys => match clsD ys with
    | some us => isiN K (view c x) us fun b => Φ (.bl b) c
    | none => False
  | y => match clD y with
    | some u => isi1 K (view c x) u fun b => Φ (.bl b) c
    | none => False
def rIsiU (K : PySem.W.Frag) : List V → Hp → VK → Prop := fun xs H Q => rIsi K xs H Q ∨ rIsiT K xs H Q
theorem call_isiV {X : Cx} {K : PySem.W.Frag} (hK : X.K = K) : CallR X (.builtin "isinstance") (rIsiU K) := hK ▸ call_isi.or call_isiT
section
variable {K : PySem.W.Frag} {tb : List (Addr × Str)}
theorem ty_vw {al : List Addr} {G H : Hp} {v : V} {d : D} {n : String} (h : Vw K al G H v d) (e : tyD d = some n) : TyX K H v (.type n) := by
  cases h with
  | non => cases e; exact .base .non
  | bl b => cases e; exact .base (.bl b)
  | int i => cases e; exact .base (.int i)
  | str z => cases e; exact .base (.str z)
  | lst h r => cases e; exact .base (.lst h)
  | tup h r => cases e; exact .base (.tup h)
  | btp h r =>
    cases e
    obtain ⟨o, its, n, h1, h2, _⟩ := h
    exact .kTuple h1 h2
  | dic h r =>
    cases e
    rcases h with h | ⟨o, h⟩
    · exact .base (.dK h)
    · exact .fDict h
  | _ => cases e
theorem cl_den {al : List Addr} {G : Hp} {v : V} {d : D} {u : Value} (h : Den K al G v d) (e : clD d = some u) : ClsV v u := by
  cases h with
  | ty n => cases e; exact .ty n
  | adr a => cases e; exact .own a
  | _ => cases e
theorem cls_den {al : List Addr} {G : Hp} : ∀ {vs : List V} {ds : List D} {us : List Value}, DenL K al G vs ds → clsD ds = some us → Paired ClsV vs us
  | _, _, _, .nil, e => by cases e; exact .nil
  | _, _, _, .cons h r, e => by
    unfold clsD at e
    split at e
    · rename_i h1 h2
      cases e
      exact .cons (cl_den h h1) (cls_den r h2)
    · cases e
theorem isi1_ok {al : List Addr} {G H : Hp} {v : V} {d : D} {u : Value} {k : Bool → Prop} (h : Vw K al G H v d) (m : isi1 K d u k) : ∃ T b, TyX K H v T ∧ PySem.W.kitOne K T u = some b ∧ k b := by
  unfold isi1 at m
  split at m
  · obtain ⟨i, b, h1, h2⟩ := m
    cases h with
    | ins e r => exact ⟨_, b, .base (.ins e i.cl i.a i.n i.t i.m), h1, h2⟩
  · split at m
    · rename_i n e
      obtain ⟨b, h1, h2⟩ := m
      exact ⟨_, b, ty_vw h e, h1, h2⟩
    · cases m
theorem isiN_ok {al : List Addr} {G H : Hp} {v : V} {d : D} {us : List Value} {k : Bool → Prop} (h : Vw K al G H v d) (m : isiN K d us k) : ∃ T b, TyX K H v T ∧ PySem.W.kitAny K T us = some b ∧ k b := by
  unfold isiN at m
  split at m
  · obtain ⟨i, b, h1, h2⟩ := m
    cases h with
    | ins e r => exact ⟨_, b, .base (.ins e i.cl i.a i.n i.t i.m), h1, h2⟩
  · split at m
    · rename_i n e
      obtain ⟨b, h1, h2⟩ := m
      exact ⟨_, b, ty_vw h e, h1, h2⟩
    · cases m
theorem dc_isi : DCall K tb (rIsiU K) (isiD K) := by
  intro al G c H xs ds Φ Q R hd m q
  obtain ⟨x, y, v, w, rfl, rfl, dx, dy, m2⟩ := twoD_of m hd
  have vx := R.vw dx
  split at m2
  · rename_i ys
    split at m2
    · rename_i us e
      obtain ⟨T, b, h1, h2, h3⟩ := isiN_ok vx m2
      have vy := Den.vwG R.sub dy
      cases vy with
      | tup h r => exact .inr ⟨v, _, _, T, us, b, rfl, h, cls_den r e, h1, h2, q _ c al G H _ R .refl (.bl _) h3⟩
    · cases m2
  · split at m2
    · rename_i u e
      obtain ⟨T, b, h1, h2, h3⟩ := isi1_ok vx m2
      exact .inl ⟨v, w, T, u, b, rfl, cl_den dy e, h1, h2, q _ c al G H _ R .refl (.bl _) h3⟩
    · cases m2
theorem dc_len : DCall K tb (rLenU K) lenD := by
  intro al G c H xs ds Φ Q R hd m q
  obtain ⟨x, v, rfl, rfl, dx, m2⟩ := oneD_of m hd
  have vx := R.vw dx
  split at m2
  · rename_i ys e
    rw [e] at vx
    cases vx with
    | lst h r => exact .inl ⟨_, _, rfl, .inl ⟨_, .of h, rfl⟩, by rw [r.length]; exact q _ c al G H _ R .refl (.int _) m2⟩
  · rename_i ys e
    rw [e] at vx
    cases vx with
    | scr h r => exact .inl ⟨_, _, rfl, .inl ⟨_, h, rfl⟩, by rw [r.length]; exact q _ c al G H _ R .refl (.int _) m2⟩
  · rename_i ys e
    rw [e] at vx
    cases vx with
    | tup h r => exact .inl ⟨_, _, rfl, .inr ⟨_, .of h, rfl⟩, by rw [r.length]; exact q _ c al G H _ R .refl (.int _) m2⟩
  · rename_i ys e
    rw [e] at vx
    cases vx with
    | btp h r => exact .inl ⟨_, _, rfl, .inr ⟨_, .inr h, rfl⟩, by rw [r.length]; exact q _ c al G H _ R .refl (.int _) m2⟩
  · rename_i ys e
    rw [e] at vx
    cases vx with
    | dic h r => exact .inr ⟨_, _, rfl, h, by rw [r.length]; exact q _ c al G H _ R .refl (.int _) m2⟩
  · rename_i z e
    rw [e] at vx
    cases vx
    exact .inl ⟨.str z, _, rfl, ⟨m2.1, rfl⟩, q _ c al G H _ R .refl (.int _) m2.2⟩
  · cases m2
end
end M
set_option Elab.async false
set_option linter.all false
set_option maxRecDepth 100000
set_option maxHeartbeats 3900000
namespace M
open PySem PySem.Spec PyProof.Rows L2 G
def fldD (C : Addr) (f : Str) (x : D) (c : SH) (Φ : QD) : Prop := match view c x with
  | .ins C' fs => C' = C ∧ match fs.lookup f with
    | some d => Φ d c
    | none => False
  | _ => False
def fldM (C : Addr) (f : Str) (a : ME) : ME := fun δ c Ψ Φ => a δ c Ψ fun x c1 => fldD C f x c1 Φ
def putD (C : Addr) (f : Str) (x y : D) (c : SH) (N : SH → Prop) : Prop := match x with
  | .obj k => match c[k]? with
    | some (.ins C' fs) => C' = C ∧ fs.length < 1000 ∧ N (c.set k (.ins C (putFD f y fs)))
    | _ => False
  | _ => False
def sfldM (C : Addr) (f : Str) (o v : ME) : MS := fun δ c e => v δ c (e.x δ) fun y c1 => o δ c1 (e.x δ) fun x c2 => putD C f x y c2 fun c3 => e.nx δ c3
def insD (C : Addr) (m : Str) (x : D) (c : SH) (k : Prop) : Prop := match view c x with
  | .ins C' fs => C' = C ∧ fs.lookup m = none ∧ k
  | _ => False
def methM (C : Addr) (m : Str) (F : Fn) (ds : List D) (a : ME) (b : MA) : ME := fun δ c Ψ Φ => a δ c Ψ fun x c1 => insD C m x c1 (b δ c1 Ψ fun xs c2 => F (x :: (xs ++ ds)) c2 Ψ Φ)
def propM (C : Addr) (F : Fn) (a : ME) : ME := fun δ c Ψ Φ => a δ c Ψ fun x c1 => (match view c1 x with
  | .ins C' _ => C' = C
  | _ => False) ∧ F [x] c1 noX Φ
/-- C(..): an object that may change (lv), or data -/
def makeD (lv : Bool) (C : Addr) (F : Fn) (xs : List D) (c : SH) (Ψ : XD) (Φ : QD) : Prop := F (.obj c.length :: xs) (c ++ [.ins C []]) (fun D f d c2 => clo c (Ψ D f) d c2) fun v c2 => v = .non ∧ if lv = true then Φ (.obj c.length) c2 else clo c Φ (.obj c.length) c2
def makeM (lv : Bool) (C : Addr) (F : Fn) (ds : List D) (a : MA) : ME := fun δ c Ψ Φ => a δ c Ψ fun xs c1 => makeD lv C F (xs ++ ds) c1 Ψ Φ
section
variable {K : PySem.W.Frag} {tb : List (Addr × Str)} {W : WX} {ta te : TE} {a b : ME} {tA : TA} {mA : MA} {C : Addr} {f m : Str} {F : Fn}
theorem snd_fld (cl : Cls K C) (na : NoAttr K C f) (ha : SndE K tb W ta a) : SndE K tb W (tFld K ta f) (fldM C f a) := by
  intro al G c H σ δ Ψ Φ Q g mm q
  refine ha al G c H σ δ Ψ _ _ g mm fun x c1 al1 G1 H1 v r1 l1 d1 m1 => ?_
  have vx := r1.vw d1
  unfold fldD at m1
  split at m1
  · rename_i C' fs e
    rw [e] at vx
    obtain ⟨rfl, m1⟩ := m1
    split at m1
    · rename_i d e2
      cases vx with
      | ins h r =>
        obtain ⟨u, h1, h2⟩ := r.lookup e2
        exact ⟨_, _, _, _, u, rfl, h, cl, na, h1, q d c1 al1 G1 H1 u r1 l1 h2 m1⟩
    · cases m1
  · cases m1
theorem putF_den {al : List Addr} {G : Hp} {v : V} {d : D} (h : Den K al G v d) : ∀ {vs : List (Str × V)} {ds : List (Str × D)}, DenF K al G vs ds → DenF K al G (putF f v vs) (putFD f d ds)
  | _, _, .nil => .cons h .nil
  | _, _, .cons (k := k) q r => by
    unfold putF putFD
    by_cases e : k = f
    · rw [if_pos e, if_pos e]; exact .cons h r
    · rw [if_neg e, if_neg e]; exact .cons q (putF_den h r)
theorem snd_sfld (cl : Cls K C) (na : NoAttr K C f) (ha : SndE K tb W ta a) (hv : SndE K tb W te b) : SndS K tb W (sFld K ta te f) (sfldM C f a b) := by
  intro al G c H σ δ e D R s mm q
  refine hv al G c H σ δ (e.x δ) _ _ (q.go R s) mm fun y c1 al1 G1 H1 w r1 l1 d1 m1 => ?_
  refine ha al1 G1 c1 H1 σ δ (e.x δ) _ _ ((q.le l1).go r1 (s.le l1)) m1 fun x c2 al2 G2 H2 v r2 l2 d2 m2 => ?_
  unfold putD at m2
  split at m2
  · rename_i k
    split at m2
    · rename_i C' fs hs
      obtain ⟨rfl, hl, m2⟩ := m2
      cases d2 with
      | @obj _ ax hk =>
        have hs2 := hs
        obtain ⟨dx, vs, h1, h2⟩ := r2.ent k _ _ hk hs
        refine ⟨_, _, dx, vs, rfl, h1, cl, na, by rw [h2.length]; exact hl, ?_⟩
        have ent : Ent K al2 G2 (upd H2 ax (.ins C' dx (putF f w vs))) ax (.ins C' (putFD f y fs)) := ⟨dx, _, upd_same, putF_den (d1.le l2) h2⟩
        have lc : Le al2 G2 c2 H2 al2 G2 (c2.set k (.ins C' (putFD f y fs))) (upd H2 ax (.ins C' dx (putF f w vs))) := Le.change r2 hk hs2 rfl nofun
        exact q.nx δ _ al2 G2 _ σ (r2.change hk hs2 rfl ent rfl) ((l1.trans l2).trans lc) ((s.le l1).le (l2.trans lc)) m2
    · cases m2
  · cases m2
theorem snd_meth {dvs : List V} {ds : List D} (hd : ∀ al G, DenL K al G dvs ds) (ha : SndE K tb W ta a) (hA : SndA K tb W tA mA) : SndE K tb W (tMethSD C m (SpG K tb F) dvs (WE W) ta tA) (methM C m F ds a mA) := by
  intro al G c H σ δ Ψ Φ Q g mm q
  refine ha al G c H σ δ Ψ _ _ g mm fun x c1 al1 G1 H1 v r1 l1 d1 m1 => ?_
  have vx := r1.vw d1
  unfold insD at m1
  split at m1
  · rename_i C' fs e
    rw [e] at vx
    obtain ⟨rfl, hl, m1⟩ := m1
    cases vx with
    | ins h r =>
      refine ⟨_, _, _, rfl, h, r.none hl, ?_⟩
      refine hA al1 G1 c1 H1 σ δ Ψ _ _ (g.le r1 l1) m1 fun xs c2 al2 G2 H2 vs r2 l2 d2 m2 => ?_
      exact ⟨al2, G2, c2, _, Ψ, Φ, r2, .cons (d1.le l2) (d2.appendC hd), m2, q.le (l1.trans l2), g.thr.le (l1.trans l2)⟩
  · cases m1
theorem snd_prop (ha : SndE K tb W ta a) : SndE K tb W (tProp C (SpG K tb F) [] (fun _ _ _ => False) ta) (propM C F a) := by
  intro al G c H σ δ Ψ Φ Q g mm q
  refine ha al G c H σ δ Ψ _ _ g mm fun x c1 al1 G1 H1 v r1 l1 d1 m1 => ?_
  have vx := r1.vw d1
  obtain ⟨m0, m1⟩ := m1
  split at m0
  · rename_i C' fs e
    rw [e] at vx
    subst m0
    cases vx with
    | ins h r => exact ⟨_, _, _, rfl, h, al1, G1, c1, _, noX, Φ, r1, .cons d1 .nil, m1, q.le l1, thr0⟩
  · cases m0
theorem snd_make {lv : Bool} {dvs : List V} {ds : List D} (hd : ∀ al G, DenL K al G dvs ds) (hA : SndA K tb W tA mA) : SndE K tb W (tMakeSD C (SpG K tb F) dvs (WE W) tA) (makeM lv C F ds mA) := by
  intro al G c H σ δ Ψ Φ Q g mm q
  refine hA al G c H σ δ Ψ _ _ g mm fun xs c1 al1 G1 H1 vs r1 l1 d1 m1 => ?_
  intro x dx hx hdx nx
  have e1 : Ex H1 (upd H1 dx (.own x)) := Ex.new hdx
  have e2 : Ex (upd H1 dx (.own x)) (upd (upd H1 dx (.own x)) x (.ins C dx [])) := Ex.new (by rw [upd_ne nx.symm]; exact hx)
  have ex := e1.trans e2
  have r2 : Rep K tb (al1 ++ [x]) G1 (c1 ++ [.ins C []]) (upd (upd H1 dx (.own x)) x (.ins C dx [])) := r1.obj hx ex ⟨dx, [], upd_same, .nil⟩ rfl
  have l2 : Le al1 G1 c1 H1 (al1 ++ [x]) G1 (c1 ++ [.ins C []]) (upd (upd H1 dx (.own x)) x (.ins C dx [])) := Le.obj r1 hx ex
  have hk : (al1 ++ [x])[c1.length]? = some x := by
    rw [← r1.len, List.getElem?_append_right (Nat.le_refl _), Nat.sub_self]
    rfl
  refine ⟨_, _, _, _, _, _, r2, .cons (.obj hk) ((d1.le l2).appendC hd), m1, fun d c3 al3 G3 H3 v r3 l3 d3 m3 => ?_, fun D f d c3 al3 G3 H3 dd v r3 l3 fr hdd d3 m3 => ?_⟩
  · obtain ⟨rfl, m3⟩ := m3
    cases d3
    refine ⟨rfl, ?_⟩
    have hx3 : Den K al3 G3 (.ref x) (.obj c1.length) := .obj (l3.ad _ _ hk)
    cases lv with
    | true =>
      rw [if_pos rfl] at m3
      exact q _ c3 al3 G3 H3 _ r3 ((l1.trans l2).trans l3) hx3 m3
    | false =>
      rw [if_neg (by decide)] at m3
      obtain ⟨d4, c4, al4, G4, r4, l4, d4', m4⟩ := clo_ok r1 r3 (l2.trans l3) hx3 m3
      exact q d4 c4 al4 G4 H3 _ r4 (l1.trans l4) d4' m4
  · obtain ⟨d4, c4, al4, G4, r4, l4, d4', m4⟩ := clo_ok r1 r3 (l2.trans l3) d3 m3
    exact g.thr D f d4 c4 al4 G4 H3 dd v r4 (l1.trans l4) (l1.dom _ (l2.dom _ fr)) hdd d4' m4
end
def tyM (T : String) : D → Prop
  | .lst _ => T = "list"
  | .scr _ => T = "list"
  | .str _ => T = "str"
  | _ => False
def bm0M (T : String) (op : D → List D → SH → QD → Prop) (a : ME) : ME := fun δ c Ψ Φ => a δ c Ψ fun x c1 => tyM T (view c1 x) ∧ op x [] c1 Φ
def bmM (T : String) (op : D → List D → SH → QD → Prop) (a : ME) (b : MA) : ME := fun δ c Ψ Φ => a δ c Ψ fun x c1 => tyM T (view c1 x) ∧ b δ c1 Ψ fun xs c2 => op x xs c2 Φ
def m1M (op : D → List D → SH → QD → Prop) (a b : ME) : ME := fun δ c Ψ Φ => a δ c Ψ fun x c1 => tyM "str" x ∧ b δ c1 Ψ fun y c2 => op x [y] c2 Φ
def liveL (x : D) (c : SH) (k : Nat → List D → Prop) : Prop := match x with
  | .obj i => match c[i]? with
    | some (.lst xs) => k i xs
    | _ => False
  | _ => False
def appendD (x : D) (xs : List D) (c : SH) (Φ : QD) : Prop := oneD xs fun y => liveL x c fun k ys => ys.length < sizeLine ∧ Φ .non (c.set k (.lst (ys ++ [y])))
def extendD (x : D) (xs : List D) (c : SH) (Φ : QD) : Prop := oneD xs fun y => liveL x c fun k ys => match view c y with
  | .lst zs => ys.length + zs.length ≤ sizeLine ∧ Φ .non (c.set k (.lst (ys ++ zs)))
  | _ => False
def popD (x : D) (xs : List D) (c : SH) (Φ : QD) : Prop := xs = [] ∧ liveL x c fun k ys => match ys[ys.length - 1]? with
  | some y => Φ y (c.set k (.lst ys.dropLast))
  | none => False
def popAtD (x : D) (xs : List D) (c : SH) (Φ : QD) : Prop := oneD xs fun i => intD i c fun i c => (-(2 ^ 63) ≤ i ∧ i < 2 ^ 63) ∧ liveL x c fun k ys => match seqIndex? i ys.length with
  | some j => match ys[j]? with
    | some y => Φ y (c.set k (.lst (ys.eraseIdx j)))
    | none => False
  | none => False
def s0D (g : Str → D) (x : D) (xs : List D) (c : SH) (Φ : QD) : Prop := xs = [] ∧ match x with
  | .str z => Φ (g z) c
  | _ => False
def strsD : List D → Option (List Str)
  | [] => some []
  | .str z :: xs => match strsD xs with
    | some zs => some (z :: zs)
    | none => none
  | _ => none
def seqD : D → Option (List D)
  | .lst xs => some xs
  | .scr xs => some xs
  | .tup xs => some xs
  | .btp xs => some xs
  | _ => none
def joinD (x : D) (xs : List D) (c : SH) (Φ : QD) : Prop := oneD xs fun y => match x with
  | .str a => match seqD (view c y) with
    | some ys => match strsD ys with
      | some zs => (zs.map (·.length)).sum + zs.length * a.length ≤ 16777216 ∧ Φ (.str (Txt.join a zs)) c
      | none => False
    | none => False
  | _ => False
def splitD (lv : Bool) (x : D) (xs : List D) (c : SH) (Φ : QD) : Prop := oneD xs fun y => match x, y with
  | .str a, .str b => ((b.length == 0) = false ∧ a.length + 2 ≤ sizeLine) ∧ newL lv ((Txt.split a b).map .str) c Φ
  | _, _ => False
section
variable {K : PySem.W.Frag} {tb : List (Addr × Str)} {W : WX} {ta te : TE} {a b : ME} {tA : TA} {mA : MA} {T : String} {r : V → List V → Hp → VK → Prop} {op : D → List D → SH → QD → Prop}
theorem ty_ok {al : List Addr} {G H : Hp} {v : V} {d : D} (h : Vw K al G H v d) (m : tyM T d) : tyV K T v H := by
  cases h with
  | lst h r => exact .inl ⟨m, _, .of h⟩
  | scr h r => exact .inl ⟨m, _, h⟩
  | str z => exact m
  | _ => cases m
theorem snd_bm0 (ho : DMt K tb r op) (ha : SndE K tb W ta a) : SndE K tb W (tBM0 K T r ta) (bm0M T op a) := by
  intro al G c H σ δ Ψ Φ Q g mm q
  refine ha al G c H σ δ Ψ _ _ g mm fun x c1 al1 G1 H1 v r1 l1 d1 m1 => ?_
  exact ⟨ty_ok (r1.vw d1) m1.1, ho al1 G1 c1 H1 v [] x [] Φ Q r1 d1 .nil m1.2 (q.le l1)⟩
theorem snd_bm (ho : DMt K tb r op) (ha : SndE K tb W ta a) (hA : SndA K tb W tA mA) : SndE K tb W (tBM K T r ta tA) (bmM T op a mA) := by
  intro al G c H σ δ Ψ Φ Q g mm q
  refine ha al G c H σ δ Ψ _ _ g mm fun x c1 al1 G1 H1 v r1 l1 d1 m1 => ?_
  refine ⟨ty_ok (r1.vw d1) m1.1, ?_⟩
  refine hA al1 G1 c1 H1 σ δ Ψ _ _ (g.le r1 l1) m1.2 fun xs c2 al2 G2 H2 vs r2 l2 d2 m2 => ?_
  exact ho al2 G2 c2 H2 v vs x xs Φ Q r2 (d1.le l2) d2 m2 (q.le (l1.trans l2))
theorem snd_m1 (ho : DMt K tb r op) (ha : SndE K tb W ta a) (hb : SndE K tb W te b) : SndE K tb W (tM1 r ta te) (m1M op a b) := by
  intro al G c H σ δ Ψ Φ Q g mm q
  refine ha al G c H σ δ Ψ _ _ g mm fun x c1 al1 G1 H1 v r1 l1 d1 m1 => ?_
  obtain ⟨m0, m1⟩ := m1
  have hz : ∃ z, v = .str z := by
    cases d1 with
    | str z => exact ⟨z, rfl⟩
    | lst => exact absurd (show ("str" : String) = "list" from m0) (by decide)
    | scr => exact absurd (show ("str" : String) = "list" from m0) (by decide)
    | _ => cases m0
  refine ⟨hz, ?_⟩
  refine hb al1 G1 c1 H1 σ δ Ψ _ _ (g.le r1 l1) m1 fun y c2 al2 G2 H2 w r2 l2 d2 m2 => ?_
  exact ho al2 G2 c2 H2 v [w] x [y] Φ Q r2 (d1.le l2) (.cons d2 .nil) m2 (q.le (l1.trans l2))
theorem live_of {al : List Addr} {G : Hp} {c : SH} {H : Hp} {x : D} {v : V} {k : Nat → List D → Prop} (R : Rep K tb al G c H) (h : Den K al G v x) (m : liveL x c k) : ∃ i l vs ys, v = .ref l ∧ al[i]? = some l ∧ c[i]? = some (.lst ys) ∧ H l = some (.lst vs) ∧ DenL K al G vs ys ∧ k i ys := by
  unfold liveL at m
  split at m
  · split at m
    · rename_i i _ ys hs
      cases h with
      | obj hk =>
        obtain ⟨vs, h1, h2⟩ := R.ent i _ _ hk hs
        exact ⟨i, _, vs, ys, rfl, hk, hs, h1, h2, m⟩
    · cases m
  · cases m
theorem change_lst {al : List Addr} {G : Hp} {c : SH} {H : Hp} {i : Nat} {l : Addr} {ys zs : List D} {ws : List V} (R : Rep K tb al G c H) (h1 : al[i]? = some l) (h2 : c[i]? = some (.lst ys)) (d : DenL K al G ws zs) : Rep K tb al G (c.set i (.lst zs)) (upd H l (.lst ws)) ∧ Le al G c H al G (c.set i (.lst zs)) (upd H l (.lst ws)) :=
  ⟨R.change h1 h2 rfl ⟨ws, upd_same, d⟩ rfl, Le.change R h1 h2 rfl nofun⟩
theorem dm_append : DMt K tb rAppend appendD := by
  intro al G c H x xs dx ds Φ Q R hx hd m q
  obtain ⟨y, w, rfl, rfl, dy, m2⟩ := oneD_of m hd
  obtain ⟨i, l, vs, ys, rfl, h1, h2, h3, h4, m3⟩ := live_of R hx m2
  obtain ⟨r2, l2⟩ := change_lst R h1 h2 (h4.append (.cons dy .nil))
  exact ⟨l, vs, w, rfl, rfl, h3, by rw [h4.length]; exact m3.1, q .non _ al G _ .non r2 l2 .non m3.2⟩
theorem dm_extend : DMt K tb rExtend extendD := by
  intro al G c H x xs dx ds Φ Q R hx hd m q
  obtain ⟨y, w, rfl, rfl, dy, m2⟩ := oneD_of m hd
  obtain ⟨i, l, vs, ys, rfl, h1, h2, h3, h4, m3⟩ := live_of R hx m2
  have vy := R.vw dy
  split at m3
  · rename_i zs e
    rw [e] at vy
    cases vy with
    | lst h5 h6 =>
      obtain ⟨r2, l2⟩ := change_lst R h1 h2 (h4.append h6)
      exact ⟨l, _, vs, _, rfl, rfl, h3, h5, by rw [h4.length, h6.length]; exact m3.1, q .non _ al G _ .non r2 l2 .non m3.2⟩
  · cases m3
theorem den_dropLast {al : List Addr} {G : Hp} {vs : List V} {ds : List D} (h : DenL K al G vs ds) : DenL K al G vs.dropLast ds.dropLast := by
  rw [List.dropLast_eq_take, List.dropLast_eq_take, h.length]
  exact h.take _
theorem dm_pop : DMt K tb rPop popD := by
  intro al G c H x xs dx ds Φ Q R hx hd m q
  obtain ⟨rfl, m2⟩ := m
  cases hd
  obtain ⟨i, l, vs, ys, rfl, h1, h2, h3, h4, m3⟩ := live_of R hx m2
  split at m3
  · rename_i y e
    obtain ⟨r2, l2⟩ := change_lst R h1 h2 (den_dropLast h4)
    obtain ⟨w, h5, h6⟩ := h4.get e
    exact ⟨l, vs, w, rfl, rfl, h3, by rw [h4.length]; exact h5, q y _ al G _ w r2 l2 (h6.le l2) m3⟩
  · cases m3
theorem dm_popAt : DMt K tb rPopAt popAtD := by
  intro al G c H x xs dx ds Φ Q R hx hd m q
  obtain ⟨y, w, rfl, rfl, dy, m2⟩ := oneD_of m hd
  obtain ⟨j, rfl, rfl, ⟨b1, b2⟩, m3⟩ := intD_of m2 dy
  obtain ⟨i, l, vs, ys, rfl, h1, h2, h3, h4, m4⟩ := live_of R hx m3
  split at m4
  · rename_i n e
    split at m4
    · rename_i y e2
      obtain ⟨r2, l2⟩ := change_lst R h1 h2 (h4.erase n)
      obtain ⟨w, h5, h6⟩ := h4.get e2
      exact ⟨l, vs, j, n, w, rfl, rfl, h3, b1, b2, by rw [h4.length]; exact e, h5, q y _ al G _ w r2 l2 (h6.le l2) m4⟩
    · cases m4
  · cases m4
theorem dm_s0 {g : Str → V} {gd : Str → D} (hg : ∀ al G z, Den K al G (g z) (gd z)) : DMt K tb (rM0 g) (s0D gd) := by
  intro al G c H x xs dx ds Φ Q R hx hd m q
  obtain ⟨rfl, m2⟩ := m
  cases hd
  split at m2
  · cases hx
    exact ⟨_, rfl, rfl, trivial, q _ c al G H _ R .refl (hg al G _) m2⟩
  · cases m2
theorem strs_den {al : List Addr} {G : Hp} : ∀ {vs : List V} {xs : List D} {zs : List Str}, DenL K al G vs xs → strsD xs = some zs → vs = zs.map V.str
  | _, _, _, .nil, e => by cases e; rfl
  | _, _, _, .cons h r, e => by
    cases h with
    | str z =>
      unfold strsD at e
      split at e
      · rename_i zs h2
        cases e
        rw [strs_den r h2]
        rfl
      · cases e
    | _ => cases e
theorem seq_vw {al : List Addr} {G H : Hp} {v : V} {y : D} {xs : List D} (e : seqD y = some xs) (h : Vw K al G H v y) : ∃ p vs, v = .ref p ∧ (SqL K H p vs ∨ SqT K H p vs) ∧ DenL K al G vs xs := by
  cases h with
  | lst h d => cases e; exact ⟨_, _, rfl, .inl (.of h), d⟩
  | scr h d => cases e; exact ⟨_, _, rfl, .inl h, d⟩
  | tup h d => cases e; exact ⟨_, _, rfl, .inr (.of h), d⟩
  | btp h d => cases e; exact ⟨_, _, rfl, .inr (.inr h), d⟩
  | _ => cases e
theorem dm_join : DMt K tb (rJoin K) joinD := by
  intro al G c H x xs dx ds Φ Q R hx hd m q
  obtain ⟨y, w, rfl, rfl, dy, m2⟩ := oneD_of m hd
  split at m2
  · split at m2
    · rename_i ys e
      split at m2
      · rename_i zs e2
        cases hx
        obtain ⟨p, vs, rfl, h1, h2⟩ := seq_vw e (R.vw dy)
        have h3 := strs_den h2 e2
        rw [h3] at h1
        exact ⟨_, p, zs, rfl, rfl, h1, m2.1, q _ c al G H _ R .refl (.str _) m2.2⟩
      · cases m2
    · cases m2
  · cases m2
theorem dm_split {lv : Bool} : DMt K tb rSplit (splitD lv) := by
  intro al G c H x xs dx ds Φ Q R hx hd m q
  obtain ⟨y, w, rfl, rfl, dy, m2⟩ := oneD_of m hd
  split at m2
  · rename_i a b
    cases hx
    cases dy
    exact ⟨a, b, rfl, rfl, m2.1.1, m2.1.2, fun p hp => newL_ok R hp (DenL.strs _) m2.2 q⟩
  · cases m2
def listD (lv : Bool) (xs : List D) (c : SH) (Φ : QD) : Prop := oneD xs fun x => match seqD (view c x) with
  | some ys => newL lv ys c Φ
  | none => False
theorem dc_list {lv : Bool} : DCall K tb (rListU K) (listD lv) := by
  intro al G c H xs ds Φ Q R hd m q
  obtain ⟨x, v, rfl, rfl, dx, m2⟩ := oneD_of m hd
  split at m2
  · rename_i ys e
    obtain ⟨p, vs, rfl, h1, h2⟩ := seq_vw e (R.vw dx)
    exact ⟨p, vs, rfl, h1, fun l hl => newL_ok R hl h2 m2 q⟩
  · cases m2
def int1D (xs : List D) (c : SH) (Φ : QD) : Prop := oneD xs fun x => match x with
  | .int i => Φ (.int i) c
  | .bl k => Φ (.int (if k then 1 else 0)) c
  | _ => False
theorem dc_int : DCall K tb rInt1 int1D := by
  intro al G c H xs ds Φ Q R hd m q
  obtain ⟨x, v, rfl, rfl, dx, m2⟩ := oneD_of m hd
  split at m2
  · cases dx; exact .inl ⟨_, rfl, q _ c al G H _ R .refl (.int _) m2⟩
  · cases dx; exact .inr ⟨_, rfl, q _ c al G H _ R .refl (.int _) m2⟩
  · cases m2
def max2D (xs : List D) (c : SH) (Φ : QD) : Prop := twoD xs fun x y => intD x c fun i c => intD y c fun j c => Φ (.int (if j > i then j else i)) c
def min2D (xs : List D) (c : SH) (Φ : QD) : Prop := twoD xs fun x y => intD x c fun i c => intD y c fun j c => Φ (.int (if j < i then j else i)) c
theorem dc_max2 : DCall K tb (rMaxU K) max2D := by
  intro al G c H xs ds Φ Q R hd m q
  obtain ⟨x, y, v, w, rfl, rfl, dx, dy, m2⟩ := twoD_of m hd
  obtain ⟨i, rfl, rfl, m3⟩ := intD_of m2 dx
  obtain ⟨j, rfl, rfl, m4⟩ := intD_of m3 dy
  exact .inl ⟨i, j, rfl, q _ c al G H _ R .refl (.int _) m4⟩
theorem dc_min2 : DCall K tb (rMinU K) min2D := by
  intro al G c H xs ds Φ Q R hd m q
  obtain ⟨x, y, v, w, rfl, rfl, dx, dy, m2⟩ := twoD_of m hd
  obtain ⟨i, rfl, rfl, m3⟩ := intD_of m2 dx
  obtain ⟨j, rfl, rfl, m4⟩ := intD_of m3 dy
  exact .inl ⟨i, j, rfl, q _ c al G H _ R .refl (.int _) m4⟩
end
end M
set_option Elab.async false
set_option linter.all false
set_option maxRecDepth 100000
set_option maxHeartbeats 3900000
namespace M
open PySem PySem.Spec PyProof.Rows L2 G
def rCmpX (K : PySem.W.Frag) (C : Addr) (sp : Sp) (fin : Bool → Bool) : R2 := fun x y H Q => ∃ a dx fs T, x = .ref a ∧ H a = some (.ins C dx fs) ∧ TyX K H y T ∧ PySem.W.notFirst K C T = true ∧ sp [x, y] H (fun v H' => ∃ b, v = .bl b ∧ Q (.bl (fin b)) H') fun _ _ _ => False
def rInX (C : Addr) (sp : Sp) (fin : Bool → Bool) : R2 := fun y x H Q => ∃ a dx fs, x = .ref a ∧ H a = some (.ins C dx fs) ∧ sp [x, y] H (fun v H' => ∃ b, v = .bl b ∧ Q (.bl (fin b)) H') fun _ _ _ => False
def tyT (K : PySem.W.Frag) (d : D) (T : Value) : Prop := match d with
  | .ins C _ => InsK K C ∧ T = .ref C
  | d => ∃ n, tyD d = some n ∧ T = .type n
def cmpX (K : PySem.W.Frag) (C : Addr) (F : Fn) (fin : Bool → Bool) (x y : D) (c : SH) (Φ : QD) : Prop := match view c x with
  | .ins C' _ => C' = C ∧ (∃ T, tyT K (view c y) T ∧ PySem.W.notFirst K C T = true) ∧ F [x, y] c noX fun v c' => blD v c' fun b c' => Φ (.bl (fin b)) c'
  | _ => False
def inX (C : Addr) (F : Fn) (fin : Bool → Bool) (y x : D) (c : SH) (Φ : QD) : Prop := match view c x with
  | .ins C' _ => C' = C ∧ F [x, y] c noX fun v c' => blD v c' fun b c' => Φ (.bl (fin b)) c'
  | _ => False
def orD (o1 o2 : D → D → SH → QD → Prop) (x y : D) (c : SH) (Φ : QD) : Prop := o1 x y c Φ ∨ o2 x y c Φ
def orC (o1 o2 : List D → SH → QD → Prop) (xs : List D) (c : SH) (Φ : QD) : Prop := o1 xs c Φ ∨ o2 xs c Φ
def strX (C : Addr) (F : Fn) (xs : List D) (c : SH) (Φ : QD) : Prop := oneD xs fun x => match view c x with
  | .ins C' _ => C' = C ∧ F [x] c noX fun v c' => match v with
    | .str z => Φ (.str z) c'
    | _ => False
  | _ => False
section
variable {K : PySem.W.Frag} {tb : List (Addr × Str)} {W : WX} {C : Addr} {F : Fn} {fin : Bool → Bool}
theorem tyT_ok {al : List Addr} {G H : Hp} {v : V} {d : D} {T : Value} (h : Vw K al G H v d) (m : tyT K d T) : TyX K H v T := by
  unfold tyT at m
  split at m
  · obtain ⟨i, rfl⟩ := m
    cases h with
    | ins e r => exact .base (.ins e i.cl i.a i.n i.t i.m)
  · obtain ⟨n, e, rfl⟩ := m
    exact ty_vw h e
theorem dop_or {r1 r2 : R2} {o1 o2 : D → D → SH → QD → Prop} (h1 : DOp K tb r1 o1) (h2 : DOp K tb r2 o2) : DOp K tb (fun x y H Q => r1 x y H Q ∨ r2 x y H Q) (orD o1 o2) := by
  intro al G c H x y dx dy Φ Q R hx hy m q
  exact m.elim (fun m => .inl (h1 al G c H x y dx dy Φ Q R hx hy m q)) fun m => .inr (h2 al G c H x y dx dy Φ Q R hx hy m q)
theorem dc_or {r1 r2 : List V → Hp → VK → Prop} {o1 o2 : List D → SH → QD → Prop} (h1 : DCall K tb r1 o1) (h2 : DCall K tb r2 o2) : DCall K tb (fun x H Q => r1 x H Q ∨ r2 x H Q) (orC o1 o2) := by
  intro al G c H xs ds Φ Q R hx m q
  exact m.elim (fun m => .inl (h1 al G c H xs ds Φ Q R hx m q)) fun m => .inr (h2 al G c H xs ds Φ Q R hx m q)
theorem dop_cmpX : DOp K tb (rCmpX K C (SpG K tb F) fin) (cmpX K C F fin) := by
  intro al G c H x y dx dy Φ Q R hx hy m q
  have vx := R.vw hx
  have vy := R.vw hy
  unfold cmpX at m
  split at m
  · rename_i e
    rw [e] at vx
    obtain ⟨rfl, ⟨T, h1, h2⟩, m⟩ := m
    cases vx with
    | ins h r =>
      refine ⟨_, _, _, T, rfl, h, tyT_ok vy h1, h2, al, G, c, _, noX, _, R, .cons hx (.cons hy .nil), m, fun d c2 al2 G2 H2 v r2 l2 d2 m2 => ?_, thr0⟩
      obtain ⟨b, rfl, h3⟩ := blD_of m2 d2
      exact ⟨b, rfl, q _ c2 al2 G2 H2 _ r2 l2 (.bl _) h3⟩
  · cases m
theorem dop_inX : DOp K tb (rInX C (SpG K tb F) fin) (inX C F fin) := by
  intro al G c H x y dx dy Φ Q R hx hy m q
  have vy := R.vw hy
  unfold inX at m
  split at m
  · rename_i e
    rw [e] at vy
    obtain ⟨rfl, m⟩ := m
    cases vy with
    | ins h r =>
      refine ⟨_, _, _, rfl, h, al, G, c, _, noX, _, R, .cons hy (.cons hx .nil), m, fun d c2 al2 G2 H2 v r2 l2 d2 m2 => ?_, thr0⟩
      obtain ⟨b, rfl, h3⟩ := blD_of m2 d2
      exact ⟨b, rfl, q _ c2 al2 G2 H2 _ r2 l2 (.bl _) h3⟩
  · cases m
theorem dc_strX : DCall K tb (rStrO C (SpG K tb F) fun _ _ _ => False) (strX C F) := by
  intro al G c H xs ds Φ Q R hd m q
  obtain ⟨x, v, rfl, rfl, dx, m2⟩ := oneD_of m hd
  have vx := R.vw dx
  split at m2
  · rename_i e
    rw [e] at vx
    obtain ⟨rfl, m2⟩ := m2
    cases vx with
    | ins h r =>
      refine ⟨_, _, _, rfl, h, al, G, c, _, noX, _, R, .cons dx .nil, m2, fun d c2 al2 G2 H2 w r2 l2 d2 m3 => ?_, thr0⟩
      dsimp only at m3
      split at m3
      · cases d2
        exact ⟨⟨_, rfl⟩, q _ c2 al2 G2 H2 _ r2 l2 (.str _) m3⟩
      · cases m3
  · cases m2
end
def fmtM (a : ME) : ME := fun δ c Ψ Φ => a δ c Ψ fun x c1 => match x with
  | .str y => y.length ≤ sizeLine ∧ Φ (.str y) c1
  | .int i => i.natAbs.log2 < 1920 ∧ Φ (.str (toString i)) c1
  | _ => False
def jsD : List ME → Str → Env → SH → XD → (Str → SH → Prop) → Prop
  | [], acc, _, c, _, Φ => Φ acc c
  | m :: ms, acc, δ, c, Ψ, Φ => m δ c Ψ fun x c1 => match x with
    | .str y => (acc ++ y).length ≤ sizeLine ∧ jsD ms (acc ++ y) δ c1 Ψ Φ
    | _ => False
def jsM (ms : List ME) : ME := fun δ c Ψ Φ => jsD ms Str.empty δ c Ψ fun out c1 => Φ (.str out) c1
inductive SndJ (K : PySem.W.Frag) (tb : List (Addr × Str)) (W : WX) : List TE → List ME → Prop
  | nil : SndJ K tb W [] []
  | cons {t : TE} {m : ME} {ts : List TE} {ms : List ME} : SndE K tb W t m → SndJ K tb W ts ms → SndJ K tb W (t :: ts) (m :: ms)
section
variable {K : PySem.W.Frag} {tb : List (Addr × Str)} {W : WX} {ta : TE} {a : ME}
theorem snd_fmt (ha : SndE K tb W ta a) : SndE K tb W (tFmt ta) (fmtM a) := by
  intro al G c H σ δ Ψ Φ Q g m q
  refine ha al G c H σ δ Ψ _ _ g m fun x c1 al1 G1 H1 v r1 l1 d1 m1 => ?_
  split at m1
  · cases d1
    exact .inl ⟨_, rfl, m1.1, q _ c1 al1 G1 H1 _ r1 l1 (.str _) m1.2⟩
  · cases d1
    exact .inr ⟨_, rfl, m1.1, q _ c1 al1 G1 H1 _ r1 l1 (.str _) m1.2⟩
  · cases m1
theorem jsD_ok {al : List Addr} {G : Hp} {c : SH} {H : Hp} {σ : L2.St} {δ : Env} {Ψ : XD} : ∀ {ts : List TE} {ms : List ME}, SndJ K tb W ts ms → ∀ {al1 G1 c1 H1}, Go K tb al1 G1 c1 H1 W σ δ Ψ → Le al G c H al1 G1 c1 H1 → ∀ {acc : Str} {Φ : Str → SH → Prop} {Q : Str → Hp → Prop}, jsD ms acc δ c1 Ψ Φ → (∀ z c2 al2 G2 H2, Rep K tb al2 G2 c2 H2 → Le al G c H al2 G2 c2 H2 → Φ z c2 → Q z H2) → tJs ts acc σ H1 Q
  | _, _, .nil, al1, G1, c1, H1, g, l, acc, Φ, Q, m, q => q acc c1 al1 G1 H1 g.rep l m
  | _, _, .cons h r, al1, G1, c1, H1, g, l, acc, Φ, Q, m, q => by
    refine h al1 G1 c1 H1 σ δ Ψ _ _ g m fun x c2 al2 G2 H2 v r2 l2 d2 m2 => ?_
    split at m2
    · cases d2
      exact ⟨_, rfl, m2.1, jsD_ok r (g.le r2 l2) (l.trans l2) m2.2 q⟩
    · cases m2
theorem snd_js {ts : List TE} {ms : List ME} (h : SndJ K tb W ts ms) : SndE K tb W (fun σ H Q => tJs ts Str.empty σ H fun out H1 => Q (.str out) H1) (jsM ms) := by
  intro al G c H σ δ Ψ Φ Q g m q
  exact jsD_ok h g .refl m fun z c2 al2 G2 H2 r2 l2 m2 => q _ c2 al2 G2 H2 _ r2 l2 (.str _) m2
end
end M
set_option Elab.async false
set_option linter.all false
set_option maxRecDepth 100000
set_option maxHeartbeats 3900000
namespace M
open PySem PySem.Spec PyProof.Rows L2 G
abbrev Hds := List (Addr × Option (Str × Str))
def dealR (K : PySem.W.Frag) : Hds → Addr → Str → V → Hp → VK → Prop
  | [], _, _, _, _, _ => False
  | (Ci, o) :: hs, C, f, v, H, Q => ∃ b, PySem.W.exmOne K (.ref C) (.ref Ci) = some b ∧ if b = true then (match o with
    | some (w, g) => C = Ci ∧ f = g ∧ NewL [.str w, v] H Q
    | none => NewL [.str (Str.ofString "other")] H Q) else dealR K hs C f v H Q
def sp_caughtG (K : PySem.W.Frag) (hs : Hds) (fa : Addr) (spA : Sp) : Sp := fun vs H Q _ => ∃ v, vs = [.ref fa, v] ∧ ∀ (Q' : VK) (E' : XK), (∀ r H1, NewL [.str (Str.ofString "told"), r] H1 Q → Q' r H1) →
  (∀ (C : Addr) (f : Str) (dd : Addr) (v' : V) (H1 : Hp), H1 dd = some (.xd [(f, v')]) → dealR K hs C f v' H1 Q → E' (.ref C) (some dd) H1) → spA [v] H Q' E'
def dealD (K : PySem.W.Frag) : Hds → Addr → Str → D → SH → QD → Prop
  | [], _, _, _, _, _ => False
  | (Ci, o) :: hs, C, f, d, c, Φ => ∃ b, PySem.W.exmOne K (.ref C) (.ref Ci) = some b ∧ if b = true then (match o with
    | some (w, g) => C = Ci ∧ f = g ∧ Φ (.lst [.str w, d]) c
    | none => Φ (.lst [.str (Str.ofString "other")]) c) else dealD K hs C f d c Φ
def caughtM (K : PySem.W.Frag) (hs : Hds) (lam : ME) (a : MA) : ME := fun δ c Ψ Φ => a δ c Ψ fun xs c1 => oneD xs fun x => lam (δ ++ [some x]) c1 (fun C f d c' => dealD K hs C f d c' Φ) fun d c' => Φ (.lst [.str (Str.ofString "told"), d]) c'
section
variable {K : PySem.W.Frag} {tb : List (Addr × Str)} {W : WX} {al al' : List Addr} {G G' : Hp} {c c' : SH} {H H' : Hp}
theorem new_lst {Φ : QD} {Q : VK} {vs : List V} {ds : List D} (R : Rep K tb al' G' c' H') (l : Le al G c H al' G' c' H') (dn : DenL K al' G' vs ds) (m : Φ (.lst ds) c') (q : Ret K tb al G c H Φ Q) : NewL vs H' Q := by
  intro p H2 ex hp hl
  have R2 := R.grow ex
  have l2 := l.trans (Le.grow ex)
  have nl : ¬ Liv al' c' p := (Apart.new R hp).liv
  obtain ⟨R3, ex3⟩ := R2.adopt hl nl nofun
  exact q _ c' al' _ H2 _ R3 (l2.adopt hl ex3 (l.dom _ (.of hp))) (.lst upd_same (dn.mono (fun _ _ => id) ex3)) m
theorem deal_ok {C : Addr} {f : Str} {d : D} {v : V} {Φ : QD} {Q : VK} (R : Rep K tb al' G' c' H') (l : Le al G c H al' G' c' H') (dn : Den K al' G' v d) (q : Ret K tb al G c H Φ Q) : ∀ hs : Hds, dealD K hs C f d c' Φ → dealR K hs C f v H' Q
  | [], m => m
  | (Ci, o) :: hs, ⟨b, hb, m⟩ => by
    refine ⟨b, hb, ?_⟩
    cases b with
    | false => exact iteF (deal_ok R l dn q hs m)
    | true =>
      refine iteT ?_
      rw [if_pos rfl] at m
      cases o with
      | none => exact new_lst R l (.cons (.str _) .nil) m q
      | some wg => exact ⟨m.1, m.2.1, new_lst R l (.cons (.str _) (.cons dn .nil)) m.2.2 q⟩
theorem snd_caught {q : Str} {tbd : XK → TE} {hs : Hds} {lam : ME} {E : XK} {tA : TA} {mA : MA} (hl : ∀ E, SndE K tb (fun C d _ H => E C d H) (tbd E) lam) (hA : SndA K tb W tA mA) : SndE K tb W (tLam1 tb q tbd (fun f sp => sp_caughtG K hs f sp) E tA) (caughtM K hs lam mA) := by
  intro al G c H σ δ Ψ Φ Q g m qq
  refine ⟨g.rep.tab, fun f cc H1 ex t1 hc => ?_⟩
  have r1 := g.rep.extn ex t1
  have l1 : Le al G c H al G c H1 := Le.extn ex
  refine hA al G c H1 σ δ Ψ _ _ (g.le r1 l1) m fun xs c2 al2 G2 H2 vs r2 l2 d2 m2 => ?_
  obtain ⟨x, v, rfl, rfl, dx, m3⟩ := oneD_of m2 d2
  refine ⟨v, rfl, fun Q' E' hQ hE => ⟨v, rfl, ?_, ?_⟩⟩
  · refine l2.fr cc _ hc (fun z => ?_) nofun
    obtain ⟨u, hu, _, n⟩ := r1.liv z
    rw [hc] at hu
    cases hu
    exact n _ rfl
  · have s2 : SRel K al2 G2 (σ ++ [some v]) (δ ++ [some x]) := by
      have s := (g.env.le l1).le l2
      refine ⟨by rw [List.length_append, List.length_append, s.1]; rfl, fun i d hi => ?_⟩
      rcases get_app hi with h | ⟨e, e2⟩
      · obtain ⟨w, h1, h2⟩ := s.2 i d h
        exact ⟨w, app_get h1, h2⟩
      · cases e2
        refine ⟨v, ?_, dx⟩
        rw [e, ← s.1, List.getElem?_append_right (Nat.le_refl _), Nat.sub_self]
        rfl
    refine hl E' al2 G2 c2 H2 _ _ _ _ _ ⟨r2, s2, fun C f d c3 al3 G3 H3 dd w r3 l3 fr hd d3 m4 => ?_⟩ m3 fun d c3 al3 G3 H3 w r3 l3 d3 m4 => ?_
    · exact hE C f dd w H3 hd (deal_ok r3 ((l1.trans l2).trans l3) d3 qq hs m4)
    · exact hQ w H3 (new_lst r3 ((l1.trans l2).trans l3) (.cons (.str _) (.cons d3 .nil)) m4 qq)
end
end M
set_option Elab.async false
set_option linter.all false
set_option maxRecDepth 100000
set_option maxHeartbeats 3900000
namespace M
open PySem PySem.Spec PyProof.Rows L2 G
def yesM : MT := fun _ c _ Φ => Φ true c
def neverM : MS := fun _ _ _ => False
theorem snd_yes {K : PySem.W.Frag} {tb : List (Addr × Str)} {W : WX} : SndT K tb W tYes yesM := fun al G c H σ δ Ψ Φ Q g m q => q true c al G H g.rep .refl m
theorem snd_never {K : PySem.W.Frag} {tb : List (Addr × Str)} {W : WX} : SndS K tb W tNever neverM := fun al G c H σ δ e D R s m q => m
def rStrU : List V → Hp → VK → Prop := fun xs H Q => (∃ a, xs = [.str a] ∧ Q (.str a) H) ∨ ∃ i, xs = [.int i] ∧ i.natAbs.log2 < 1920 ∧ Q (.str (toString i)) H
def strD (xs : List D) (c : SH) (Φ : QD) : Prop := oneD xs fun x => match x with
  | .str a => Φ (.str a) c
  | .int i => i.natAbs.log2 < 1920 ∧ Φ (.str (toString i)) c
  | _ => False
theorem dc_str {K : PySem.W.Frag} {tb : List (Addr × Str)} : DCall K tb rStrU strD := by
  intro al G c H xs ds Φ Q R hd m q
  obtain ⟨x, v, rfl, rfl, dx, m2⟩ := oneD_of m hd
  split at m2
  · cases dx; exact .inl ⟨_, rfl, q _ c al G H _ R .refl (.str _) m2⟩
  · cases dx; exact .inr ⟨_, rfl, m2.1, q _ c al G H _ R .refl (.str _) m2.2⟩
  · cases m2
def reprD (xs : List D) (c : SH) (Φ : QD) : Prop := oneD xs fun x => match x with
  | .bl b => Φ (.str (if b then "True" else "False")) c
  | .int i => i.natAbs.log2 < 1920 ∧ Φ (.str (toString i)) c
  | _ => False
theorem dc_repr {K : PySem.W.Frag} {tb : List (Addr × Str)} : DCall K tb rReprU reprD := by
  intro al G c H xs ds Φ Q R hd m q
  obtain ⟨x, v, rfl, rfl, dx, m2⟩ := oneD_of m hd
  split at m2
  · cases dx; exact .inl ⟨_, rfl, q _ c al G H _ R .refl (.str _) m2⟩
  · cases dx; exact .inr ⟨_, rfl, m2.1, q _ c al G H _ R .refl (.str _) m2.2⟩
  · cases m2
def newK (lv : Bool) (xs : List (Key × D)) (c : SH) (Φ : QD) : Prop := if lv = true then Φ (.obj c.length) (c ++ [.dic xs]) else Φ (.dic xs) c
def dnewM (lv : Bool) : ME := fun _ c _ Φ => newK lv [] c Φ
/-- a new dict that stays as it is: locked at once -/
def tLk (t : TE) : TE := fun σ H Q => t σ H fun x H1 => ∃ d u, x = .ref d ∧ H1 d = some u ∧ Mut (some u) ∧ ∀ od, Q x (upd H1 d (.frz od u))
section
variable {K : PySem.W.Frag} {tb : List (Addr × Str)} {al al1 : List Addr} {G G1 : Hp} {c c1 : SH} {H H1 : Hp} {xs : List (Key × D)} {vs : List (Key × V)} {Φ : QD} {Q : VK} {p : Addr} {W : WX}
theorem lk_of (R : Rep K tb al1 G1 c1 H1) (ap : Apart al1 G1 c1 p) (hp : H1 p = some (.dK vs)) (hd : DenK K al1 G1 vs xs) (l : Le al G c H al1 G1 c1 H1) (hn : Fr H p) (q : Ret K tb al G c H Φ Q) (m : Φ (.dic xs) c1) :
    ∃ d u, V.ref p = .ref d ∧ H1 d = some u ∧ Mut (some u) ∧ ∀ od, Q (.ref p) (upd H1 d (.frz od u)) := by
  refine ⟨p, _, rfl, hp, trivial, fun od => ?_⟩
  have r2 := R.foreign (o := .frz od (.dK vs)) hp nofun nofun ap.g ap.liv ap.k
  have l2 := l.foreign (o := .frz od (.dK vs)) hn nofun
  obtain ⟨r3, e3⟩ := r2.adopt upd_same ap.liv nofun
  exact q _ c1 al1 _ _ _ r3 (l2.adopt upd_same e3 hn) (.dic upd_same (hd.mono (fun _ _ => id) e3)) m
theorem lk_new (R : Rep K tb al G c H) (hp : H p = none) (hd : DenK K al G vs xs) (q : Ret K tb al G c H Φ Q) (m : Φ (.dic xs) c) :
    ∃ d u, V.ref p = .ref d ∧ (upd H p (.dK vs)) d = some u ∧ Mut (some u) ∧ ∀ od, Q (.ref p) (upd (upd H p (.dK vs)) d (.frz od u)) :=
  lk_of (R.grow (Ex.new hp)) (Apart.new R hp) upd_same hd (Le.grow (Ex.new hp)) (.of hp) q m
theorem newK_ok (R : Rep K tb al G c H) (hp : H p = none) (hd : DenK K al G vs xs) (m : newK true xs c Φ) (q : Ret K tb al G c H Φ Q) : Q (.ref p) (upd H p (.dK vs)) := by
  unfold newK at m
  rw [if_pos rfl] at m
  have R2 : Rep K tb (al ++ [p]) G (c ++ [.dic xs]) (upd H p (.dK vs)) := R.obj hp (Ex.new hp) ⟨vs, upd_same, hd.mono (fun _ _ => app_get) (Ex.refl _)⟩ rfl
  refine q (.obj c.length) _ _ G _ (.ref p) R2 (Le.obj R hp (Ex.new hp)) (.obj ?_) m
  rw [← R.len, List.getElem?_append_right (Nat.le_refl _), Nat.sub_self]
  rfl
theorem newK_f (m : newK false xs c Φ) : Φ (.dic xs) c := by
  unfold newK at m
  rw [if_neg (by decide)] at m
  exact m
theorem snd_dnew : SndE K tb W tDNewK (dnewM true) := fun al G c H σ δ Ψ Φ Q g m q p hp => newK_ok g.rep hp .nil m q
theorem snd_dnewL : SndE K tb W (tLk tDNewK) (dnewM false) := fun al G c H σ δ Ψ Φ Q g m q p hp => lk_new g.rep hp .nil q (newK_f m)
/-- a live dict becomes data -/
def lkM (a : ME) : ME := fun δ c Ψ Φ => a δ c Ψ fun x c1 => match x with
  | .obj k => match c1[k]? with
    | some (.dic xs) => Φ (.dic xs) (c1.set k (.frz (.dic xs)))
    | _ => False
  | _ => False
theorem snd_lk {ta : TE} {a : ME} (ha : SndE K tb W ta a) : SndE K tb W (tLk ta) (lkM a) := by
  intro al G c H σ δ Ψ Φ Q g m q
  refine ha al G c H σ δ Ψ _ _ g m fun x c1 al1 G1 H1 v r1 l1 d1 m1 => ?_
  split at m1
  · rename_i k
    split at m1
    · rename_i xs hs
      cases d1 with
      | obj hk =>
        obtain ⟨vs, h1, h2⟩ := r1.ent k _ _ hk hs
        refine ⟨_, _, rfl, h1, trivial, fun od => ?_⟩
        have r2 := r1.change (u := .frz od (.dK vs)) hk hs rfl (o := .lck od vs xs) ⟨upd_same, h2⟩ rfl
        have l2 := Le.change (o := .lck od vs xs) r1 hk hs rfl (u := .frz od (.dK vs)) nofun
        have hs2 : (c1.set k (SO.lck od vs xs))[k]? = some (.lck od vs xs) := by rw [List.getElem?_set, if_pos rfl, if_pos (List.getElem?_eq_some_iff.mp hs).1]
        have gn : G1 _ = none := r1.out k _ _ hk hs rfl
        have hden : Den K al1 (upd G1 _ (.frz od (.dK vs))) (.ref _) (.dic xs) := .dic upd_same (h2.mono (fun _ _ => id) (Ex.new gn))
        have r3 := r2.freeze hk hs2 rfl upd_same hden
        have l3 := Le.freeze r2 hk hs2 rfl (u := .frz od (.dK vs)) (d := .dic xs)
        rw [List.set_set] at r3 l3
        exact q _ _ _ _ _ _ r3 ((l1.trans l2).trans l3) hden m1
    · cases m1
  · cases m1
end
theorem fn_cx0 {P : Program} {w : World} {K : PySem.W.Frag} {mg : Str → Option Value} {base : Heap} {k : Nat} {f : Addr} {fd : FuncData} {ps : List Str} {sp : Sp} (F : FnOk P w K mg base CX0 k f fd ps sp) : FnOk P w K mg base (L2.CX P w) k f fd ps sp := by
  refine ⟨F.len, fun A outer s H args us vs Q E hr e0 hb hv hs => ?_⟩
  refine codeAny_mono (F.run A outer s H args us vs Q E hr e0 hb hv hs) fun r s' h => ?_
  cases r with
  | error e => exact False.elim h
  | ok fl => cases fl <;> exact h
/-- a promise by a mirror from another one -/
theorem fn_imp {P : Program} {w : World} {K : PySem.W.Frag} {mg : Str → Option Value} {base : Heap} {CX : CXT} {k : Nat} {f : Addr} {fd : FuncData} {ps : List Str} {sp : Sp} {tb : List (Addr × Str)} {F : Fn} (h : FnOk P w K mg base CX k f fd ps sp)
    (i : ∀ al G c H as vs Ψ Φ Q E, Rep K tb al G c H → DenL K al G vs as → F as c Ψ Φ → Ret K tb al G c H Φ Q → Thr K tb al G c H Ψ E → sp vs H Q E) : FnOk P w K mg base CX k f fd ps (SpG K tb F) :=
  h.imp fun vs H Q E ⟨al, G, c, as, Ψ, Φ, r, d, m, q, x⟩ => i al G c H as vs Ψ Φ Q E r d m q x
def cellF : Fn := fun as c _ Φ => ∃ (ns : List Int) (k : Nat), as = [.scr (ns.map .int), .int (k : Int)] ∧ ns.length ≤ 63 ∧ k ≤ 100 ∧ ∀ i : Int, Φ (.int i) c
def boxF : Fn := fun as c _ Φ => ∃ i : Int, as = [.int i] ∧ Φ (.obj c.length) (c ++ [.box 0])
def takeF : Fn := fun as c _ Φ => ∃ (k n : Nat) (m : Int), as = [.obj k, .int m] ∧ c[k]? = some (.box n) ∧ n ≤ 1000000000 ∧ 0 < m ∧ m < 1073741824 ∧ ∀ d : Int, 0 ≤ d → d < m → Φ (.int d) (c.set k (.box (n + 1)))
section
variable {P : Program} {w : World} {K : PySem.W.Frag} {mg : Str → Option Value} {base : Heap} {CX : CXT} {k : Nat} {f : Addr} {fd : FuncData} {ps : List Str} {tb : List (Addr × Str)}
theorem cell_ok (h : FnOk P w K mg base CX k f fd ps (sp_cell K)) : FnOk P w K mg base CX k f fd ps (SpG K tb cellF) := fn_imp h fun al G c H as vs Ψ Φ Q E r d m q x => by
  obtain ⟨ns, k, rfl, h1, h2, m⟩ := m
  cases d with
  | cons d1 d2 =>
    cases d2 with
    | cons d2 d3 =>
      cases d3
      cases d2
      cases d1 with
      | scr hs dn =>
        have e := dn.of_ints
        subst e
        exact ⟨_, ns, k, rfl, r.sub.l hs, h1, h2, fun i => q _ c al G H _ r .refl (.int i) (m i)⟩
theorem box_ok (h : FnOk P w K mg base CX k f fd ps sp_box) : FnOk P w K mg base CX k f fd ps (SpG K tb boxF) := fn_imp h fun al G c H as vs Ψ Φ Q E r d m q x => by
  obtain ⟨i, rfl, m⟩ := m
  cases d with
  | cons d1 d2 =>
    cases d2
    cases d1
    refine ⟨i, rfl, fun p o hp hb => ?_⟩
    have R2 : Rep K tb (al ++ [p]) G (c ++ [.box 0]) (upd H p o) := r.obj hp (Ex.new hp) ⟨o, upd_same, hb⟩ rfl
    refine q (.obj c.length) _ _ G _ (.ref p) R2 (Le.obj r hp (Ex.new hp)) (.obj ?_) m
    rw [← r.len, List.getElem?_append_right (Nat.le_refl _), Nat.sub_self]
    rfl
theorem take_ok (h : FnOk P w K mg base CX k f fd ps sp_take) : FnOk P w K mg base CX k f fd ps (SpG K tb takeF) := fn_imp h fun al G c H as vs Ψ Φ Q E r d m q x => by
  obtain ⟨k, n, j, rfl, hk, h1, h2, h3, m⟩ := m
  cases d with
  | cons d1 d2 =>
    cases d2 with
    | cons d2 d3 =>
      cases d3
      cases d2
      cases d1 with
      | @obj _ p hp =>
        obtain ⟨o, ho, hb⟩ := r.ent k p _ hp hk
        refine ⟨p, j, o, n, rfl, ho, hb, h1, h2, h3, fun d o' h4 h5 h6 => ?_⟩
        have nt : ∀ ps, o' ≠ .tbl ps := by
          obtain ⟨_, _, _, rfl, _⟩ := h6
          exact nofun
        have en : Ent K al G (upd H p o') p (.box (n + 1)) := ⟨o', upd_same, h6⟩
        exact q _ _ al G _ _ (r.change hp hk rfl en rfl) (Le.change r hp hk rfl nt) (.int d) (m d h4 h5)
end
end M
set_option Elab.async false
set_option linter.all false
set_option maxRecDepth 100000
set_option maxHeartbeats 3900000
namespace M
open PySem PySem.Spec PyProof.Rows L2 G
section
variable {κ : Type} [DecidableEq κ]
/-- the first i keys without repetition -/
def met (key : Nat → κ) : Nat → List κ
  | 0 => []
  | i + 1 => if key i ∈ met key i then met key i else met key i ++ [key i]
end
end M
set_option Elab.async false
set_option linter.all false
set_option maxRecDepth 100000
set_option maxHeartbeats 3900000
namespace M
open PySem PySem.Spec PyProof.Rows L2 G
def metS (zs : List Str) : Nat := (met (fun i => zs.getD i Str.empty) zs.length).length
def rLenSet (K : PySem.W.Frag) (x : V) (H : Hp) (Q : VK) : Prop := ∃ (l : Addr) (zs : List Str), x = .ref l ∧ (SqL K H l (zs.map V.str) ∨ SqT K H l (zs.map V.str)) ∧ zs.length ≤ 4000 ∧ Q (.int (metS zs : Nat)) H
def tLenSet (K : PySem.W.Frag) (ta : TE) : TE := fun σ H Q => ta σ H fun x H1 => rLenSet K x H1 Q
/-- its mirror -/
def lenSetM (a : ME) : ME := fun δ c Ψ Φ => a δ c Ψ fun x c1 => match seqD (view c1 x) with
  | some ys => match strsD ys with
    | some zs => zs.length ≤ 4000 ∧ Φ (.int (metS zs : Nat)) c1
    | none => False
  | none => False
theorem snd_lenSet {K : PySem.W.Frag} {tb : List (Addr × Str)} {W : WX} {ta : TE} {a : ME} (ha : SndE K tb W ta a) : SndE K tb W (tLenSet K ta) (lenSetM a) := by
  intro al G c H σ δ Ψ Φ Q g m q
  refine ha al G c H σ δ Ψ _ _ g m fun x c1 al1 G1 H1 v r1 l1 d1 m1 => ?_
  split at m1
  · rename_i ys e
    split at m1
    · rename_i zs e2
      obtain ⟨p, vs, rfl, h1, h2⟩ := seq_vw e (r1.vw d1)
      rw [strs_den h2 e2] at h1
      exact ⟨p, zs, rfl, h1, m1.1, q _ c1 al1 G1 H1 _ r1 l1 (.int _) m1.2⟩
    · cases m1
  · cases m1
end M
set_option Elab.async false
set_option linter.all false
set_option maxRecDepth 100000
set_option maxHeartbeats 3900000
namespace M
open PySem PySem.Spec PyProof.Rows L2 G
structure FunV (K : PySem.W.Frag) (x qual : Str) (st : Stmt) (f : Addr) (fd : FuncData) : Prop where
  ex : ∃ (oc : Value) (od : Option Addr) (dV kV doc pm : Value) (an : Option Addr) (cdv ct : Value) (osl : Array (Option Value)), fd = PySem.W.fnOf x qual (defArgs st) (defBody st) (defScope st) dV kV doc pm an cdv ct ∧ K.lookup f = some ⟨oc, od, .func fd, osl⟩ ∧ PySem.W.codeIn K cdv qual = true
  kp : PySem.W.keepIn K (.ref f) = true
section
variable {P : Program} {w : World} {K : PySem.W.Frag} {mg : Str → Option Value} {base : Heap} {x qual : Str} {st : Stmt} {f : Addr} {fd : FuncData} {N ps : List Str} {k : Nat} {sp : Sp}
theorem funV_mk {oc : Value} {od an : Option Addr} {osl : Array (Option Value)} {dV kV doc pm cdv ct : Value} (l : K.lookup f = some ⟨oc, od, .func (PySem.W.fnOf x qual (defArgs st) (defBody st) (defScope st) dV kV doc pm an cdv ct), osl⟩)
    (c : PySem.W.codeIn K cdv qual = true) (k : PySem.W.keepIn K (.ref f) = true) : FunV K x qual st f (PySem.W.fnOf x qual (defArgs st) (defBody st) (defScope st) dV kV doc pm an cdv ct) := ⟨⟨oc, od, dV, kV, doc, pm, an, cdv, ct, osl, rfl, l, c⟩, k⟩
theorem FunV.okX (F : FunV K x qual st f fd) (S : FnScope N ps (defScope st)) (len : ∀ vs H Q E, sp vs H Q E → vs.length = ps.length)
    (body : ∀ (cdv : Value) (A : Around) (outer : List PySem.Env) (s : Shared) (H : Hp) (vs : List V) (Q : VK) (E : XK), Room k (A.deeper (envOfC qual (defScope st) s.heap.objs.size f cdv)) → sp vs H Q E →
      ∃ t, PSs (cxOf (L2.CX P w) P w K mg base N qual (defScope st) f cdv A outer s H E) (defBody st) t ∧ t { nx := fun _ H' => Q .non H', rt := Q } (L2.start N vs) H) : FnOk P w K mg base (L2.CX P w) (k + 1) f fd ps sp := by
  obtain ⟨_, _, _, _, _, _, _, cdv, _, _, rfl, lk, hc⟩ := F.ex
  exact fn_of lk hc S len (body cdv)
end
section
variable {X : Cx} {K : PySem.W.Frag} {tb : List (Addr × Str)} {W : WX}
def rSortedU (K : PySem.W.Frag) : List V → Hp → VK → Prop := fun xs H Q => rSortedS K xs H Q ∨ rSorted K xs H Q
def blsD : List D → Option (List Bool)
  | [] => some []
  | .bl b :: xs => match blsD xs with
    | some bs => some (b :: bs)
    | none => none
  | _ => none
def intsD : List D → Option (List Int)
  | [] => some []
  | .int b :: xs => match intsD xs with
    | some bs => some (b :: bs)
    | none => none
  | _ => none
theorem bls_den {al : List Addr} {G : Hp} : ∀ {vs : List V} {xs : List D} {zs : List Bool}, DenL K al G vs xs → blsD xs = some zs → vs = zs.map V.bl
  | _, _, _, .nil, e => by cases e; rfl
  | _, _, _, .cons h r, e => by
    cases h with
    | bl z =>
      unfold blsD at e
      split at e
      · rename_i zs h2
        cases e
        rw [bls_den r h2]
        rfl
      · cases e
    | _ => cases e
theorem ints_den {al : List Addr} {G : Hp} : ∀ {vs : List V} {xs : List D} {zs : List Int}, DenL K al G vs xs → intsD xs = some zs → vs = zs.map V.int
  | _, _, _, .nil, e => by cases e; rfl
  | _, _, _, .cons h r, e => by
    cases h with
    | int z =>
      unfold intsD at e
      split at e
      · rename_i zs h2
        cases e
        rw [ints_den r h2]
        rfl
      · cases e
    | _ => cases e
def allD (xs : List D) (c : SH) (Φ : QD) : Prop := oneD xs fun x => match lstD (view c x) with
  | some ys => match blsD ys with
    | some bs => Φ (.bl (bs.all id)) c
    | none => False
  | none => False
def anyD (xs : List D) (c : SH) (Φ : QD) : Prop := oneD xs fun x => match lstD (view c x) with
  | some ys => match blsD ys with
    | some bs => Φ (.bl (bs.any id)) c
    | none => False
  | none => False
def sumD (xs : List D) (c : SH) (Φ : QD) : Prop := oneD xs fun x => match lstD (view c x) with
  | some ys => match intsD ys with
    | some bs => Φ (.int bs.sum) c
    | none => False
  | none => False
def sortedD (lv : Bool) (xs : List D) (c : SH) (Φ : QD) : Prop := oneD xs fun x => match lstD (view c x) with
  | some ys => (∃ zs, strsD ys = some zs ∧ zs.length < 64 ∧ ∀ us : List Str, us.Perm zs → sortedS us = true → newL lv (us.map .str) c Φ) ∨ ∃ zs, intsD ys = some zs ∧ zs.length < 64 ∧ ∀ us : List Int, us.Perm zs → us.Pairwise (· ≤ ·) → newL lv (us.map .int) c Φ
  | none => False
theorem dc_all : DCall K tb (rAll K) allD := by
  intro al G c H xs ds Φ Q R hd m q
  obtain ⟨x, v, rfl, rfl, dx, m2⟩ := oneD_of m hd
  split at m2
  · rename_i ys e
    split at m2
    · rename_i bs e2
      obtain ⟨b, vs, rfl, h1, h2⟩ := lst_vw e (R.vw dx)
      rw [bls_den h2 e2] at h1
      exact ⟨b, bs, rfl, h1, q _ c al G H _ R .refl (.bl _) m2⟩
    · cases m2
  · cases m2
theorem dc_any : DCall K tb (rAny K) anyD := by
  intro al G c H xs ds Φ Q R hd m q
  obtain ⟨x, v, rfl, rfl, dx, m2⟩ := oneD_of m hd
  split at m2
  · rename_i ys e
    split at m2
    · rename_i bs e2
      obtain ⟨b, vs, rfl, h1, h2⟩ := lst_vw e (R.vw dx)
      rw [bls_den h2 e2] at h1
      exact ⟨b, bs, rfl, h1, q _ c al G H _ R .refl (.bl _) m2⟩
    · cases m2
  · cases m2
theorem dc_sum : DCall K tb (rSum K) sumD := by
  intro al G c H xs ds Φ Q R hd m q
  obtain ⟨x, v, rfl, rfl, dx, m2⟩ := oneD_of m hd
  split at m2
  · rename_i ys e
    split at m2
    · rename_i bs e2
      obtain ⟨b, vs, rfl, h1, h2⟩ := lst_vw e (R.vw dx)
      rw [ints_den h2 e2] at h1
      exact ⟨b, bs, rfl, h1, q _ c al G H _ R .refl (.int _) m2⟩
    · cases m2
  · cases m2
theorem dc_sorted {lv : Bool} : DCall K tb (rSortedU K) (sortedD lv) := by
  intro al G c H xs ds Φ Q R hd m q
  obtain ⟨x, v, rfl, rfl, dx, m2⟩ := oneD_of m hd
  split at m2
  · rename_i ys e
    obtain ⟨b, vs, rfl, h1, h2⟩ := lst_vw e (R.vw dx)
    rcases m2 with ⟨zs, e2, h64, m2⟩ | ⟨zs, e2, h64, m2⟩
    · rw [strs_den h2 e2] at h1
      exact .inl ⟨b, zs, rfl, h1, h64, fun us p hp hs hn => newL_ok R hn (DenL.strs us) (m2 us hp hs) q⟩
    · rw [ints_den h2 e2] at h1
      exact .inr ⟨b, zs, rfl, h1, h64, fun us p hp hs hn => newL_ok R hn (DenL.ints us) (m2 us hp hs) q⟩
  · cases m2
def revM (lv : Bool) (a : ME) : ME := fun δ c Ψ Φ => a δ c Ψ fun x c1 => match lstD (view c1 x) with
  | some ys => newL lv ys.reverse c1 Φ
  | none => False
theorem snd_rev {lv : Bool} {ta : TE} {a : ME} (ha : SndE K tb W ta a) : SndE K tb W (tRevL K ta) (revM lv a) := by
  intro al G c H σ δ Ψ Φ Q g m q
  refine ha al G c H σ δ Ψ _ _ g m fun x c1 al1 G1 H1 v r1 l1 d1 m1 => ?_
  split at m1
  · rename_i ys e
    obtain ⟨b, vs, rfl, h1, h2⟩ := lst_vw e (r1.vw d1)
    exact ⟨b, vs, rfl, h1, fun p hp => newL_ok r1 hp h2.reverse m1 (q.le l1)⟩
  · cases m1
def par3M (i j l : Nat) (a : MA) : MS := fun δ c e => a δ c (e.x δ) fun xs c1 => match xs with
  | [x, y, z] => e.nx (((δ.set i (some x)).set j (some y)).set l (some z)) c1
  | _ => False
theorem snd_par3 {i j l : Nat} {tA : TA} {mA : MA} (hA : SndA K tb W tA mA) : SndS K tb W (tPar3 i j l tA) (par3M i j l mA) := by
  intro al G c H σ δ e D R s m q
  refine hA al G c H σ δ (e.x δ) _ _ (q.go R s) m fun xs c1 al1 G1 H1 vs r1 l1 d1 m1 => ?_
  split at m1
  · cases d1 with
    | cons d1 d2 =>
      cases d2 with
      | cons d2 d3 =>
        cases d3 with
        | cons d3 d4 =>
          cases d4
          exact ⟨_, _, _, rfl, q.nx _ c1 al1 G1 H1 _ r1 l1 ((((s.le l1).set d1).set d2).set d3) m1⟩
  · cases m1
def rTupU (K : PySem.W.Frag) : List V → Hp → VK → Prop := fun xs H Q => ∃ p ys, xs = [.ref p] ∧ ((SqL K H p ys ∧ ∀ l, H l = none → Q (.ref l) (upd H l (.tup ys))) ∨ (SqT K H p ys ∧ Q (.ref p) H))
def tupleD (xs : List D) (c : SH) (Φ : QD) : Prop := oneD xs fun x => match view c x with
  | .lst ys => Φ (.tup ys) c
  | .scr ys => Φ (.tup ys) c
  | .tup ys => Φ x c
  | _ => False
theorem dc_tuple : DCall K tb (rTupU K) tupleD := by
  intro al G c H xs ds Φ Q R hd m q
  obtain ⟨x, v, rfl, rfl, dx, m2⟩ := oneD_of m hd
  have vx := R.vw dx
  have new : ∀ {vs : List V} {ys : List D}, DenL K al G vs ys → Φ (.tup ys) c → ∀ l, H l = none → Q (.ref l) (upd H l (.tup vs)) := fun dn m l hl =>
    let ⟨r2, l2, d2⟩ := pair_new R hl dn
    q _ c al _ _ _ r2 l2 d2 m
  split at m2
  · rename_i ys e
    rw [e] at vx
    cases vx with
    | lst h r => exact ⟨_, _, rfl, .inl ⟨.of h, new r m2⟩⟩
  · rename_i ys e
    rw [e] at vx
    cases vx with
    | scr h r => exact ⟨_, _, rfl, .inl ⟨h, new r m2⟩⟩
  · rename_i ys e
    rw [e] at vx
    cases vx with
    | tup h r => exact ⟨_, _, rfl, .inr ⟨.of h, q _ c al G H _ R .refl dx m2⟩⟩
  · cases m2
end
end M
set_option Elab.async false
set_option linter.all false
set_option maxRecDepth 100000
set_option maxHeartbeats 3900000
namespace M
open PySem PySem.Spec PyProof.Rows L2 G
def keyD : D → Option Key
  | .int i => some (.inl i)
  | .str z => some (.inr z)
  | _ => none
def putKD (kvs : List (Key × D)) (k : Key) (v : D) : List (Key × D) := if (kvs.any fun kv => decide (kv.1 = k)) = true then kvs.map (fun kv => if kv.1 = k then (kv.1, v) else kv) else kvs ++ [(k, v)]
def mergeD (kvs more : List (Key × D)) : List (Key × D) := more.foldl (fun acc kv => putKD acc kv.1 kv.2) kvs
def valD (kvs : List (Key × D)) (k : Key) : Option D := (kvs.find? fun kv => decide (kv.1 = k)).map (·.2)
section
variable {K : PySem.W.Frag} {al : List Addr} {G : Hp}
theorem DenK.append : ∀ {vs us : List (Key × V)} {ds es : List (Key × D)}, DenK K al G vs ds → DenK K al G us es → DenK K al G (vs ++ us) (ds ++ es)
  | _, _, _, _, .nil, s => s
  | _, _, _, _, .cons h r, s => .cons h (r.append s)
theorem DenK.any {k : Key} : ∀ {vs : List (Key × V)} {ds : List (Key × D)}, DenK K al G vs ds → (vs.any fun kv => decide (kv.1 = k)) = (ds.any fun kv => decide (kv.1 = k))
  | _, _, .nil => rfl
  | _, _, .cons h r => by rw [List.any_cons, List.any_cons, r.any]
theorem DenK.put1 {k : Key} {v : V} {d : D} (hv : Den K al G v d) : ∀ {vs : List (Key × V)} {ds : List (Key × D)}, DenK K al G vs ds → DenK K al G (vs.map fun kv => if kv.1 = k then (kv.1, v) else kv) (ds.map fun kv => if kv.1 = k then (kv.1, d) else kv)
  | _, _, .nil => .nil
  | _, _, .cons (k := j) h r => by
    rw [List.map_cons, List.map_cons]
    by_cases e : j = k
    · rw [if_pos e, if_pos e]; exact .cons hv (r.put1 hv)
    · rw [if_neg e, if_neg e]; exact .cons h (r.put1 hv)
theorem DenK.put {k : Key} {v : V} {d : D} {vs : List (Key × V)} {ds : List (Key × D)} (h : DenK K al G vs ds) (hv : Den K al G v d) : DenK K al G (putK vs k v) (putKD ds k d) := by
  unfold putK putKD
  rw [h.any]
  split
  · exact h.put1 hv
  · exact h.append (.cons hv .nil)
theorem DenK.merge : ∀ {us : List (Key × V)} {es : List (Key × D)}, DenK K al G us es → ∀ {vs : List (Key × V)} {ds : List (Key × D)}, DenK K al G vs ds → DenK K al G (mergeK vs us) (mergeD ds es)
  | _, _, .nil, _, _, h => h
  | _, _, .cons q r, _, _, h => r.merge (h.put q)
theorem DenK.val {k : Key} : ∀ {vs : List (Key × V)} {ds : List (Key × D)} {d : D}, DenK K al G vs ds → valD ds k = some d → ∃ v, valV vs k = some v ∧ Den K al G v d
  | _, _, _, .nil, e => by cases e
  | _, _, d, .cons (k := j) h r, e => by
    unfold valD valV at *
    by_cases q : j = k
    · simp only [List.find?_cons, q, decide_true] at e ⊢
      cases e
      exact ⟨_, rfl, h⟩
    · simp only [List.find?_cons, q, decide_false] at e ⊢
      exact DenK.val r e
theorem DenK.val0 {k : Key} : ∀ {vs : List (Key × V)} {ds : List (Key × D)}, DenK K al G vs ds → valD ds k = none → valV vs k = none
  | _, _, .nil, e => rfl
  | _, _, .cons (k := j) h r, e => by
    unfold valD valV at *
    by_cases q : j = k
    · simp only [List.find?_cons, q, decide_true] at e
      cases e
    · simp only [List.find?_cons, q, decide_false] at e ⊢
      exact DenK.val0 r e
theorem key_den {v : V} {d : D} {k : Key} (h : Den K al G v d) (e : keyD d = some k) : v = kV k := by
  cases h with
  | int i => cases e; rfl
  | str z => cases e; rfl
  | _ => cases e
end
abbrev MP := Env → SH → XD → (List (Key × D) → SH → Prop) → Prop
def pnilM : MP := fun _ c _ Φ => Φ [] c
def pconsM (k v : ME) (r : MP) : MP := fun δ c Ψ Φ => k δ c Ψ fun x c1 => v δ c1 Ψ fun y c2 => match keyD x with
  | some j => r δ c2 Ψ fun ps c3 => Φ ((j, y) :: ps) c3
  | none => False
def dispM (lv : Bool) (p : MP) : ME := fun δ c Ψ Φ => p δ c Ψ fun kvs c1 => kvs.length ≤ 15 ∧ newK lv (mergeD [] kvs) c1 Φ
def SndP (K : PySem.W.Frag) (tb : List (Addr × Str)) (W : WX) (trs : List (TE × TE)) (m : MP) : Prop := ∀ al G c H σ δ Ψ Φ Q, Go K tb al G c H W σ δ Ψ → m δ c Ψ Φ → (∀ kvs vs c' al' G' H', Rep K tb al' G' c' H' → Le al G c H al' G' c' H' → DenK K al' G' vs kvs → Φ kvs c' → Q (vs.map fun kv => (kV kv.1, kv.2)) H') → tPairs trs σ H Q
section
variable {K : PySem.W.Frag} {tb : List (Addr × Str)} {W : WX} {tk tv ta : TE} {mk mv a b : ME} {trs : List (TE × TE)} {mp : MP}
theorem snd_pnil : SndP K tb W [] pnilM := fun al G c H σ δ Ψ Φ Q g m q => q [] [] c al G H g.rep .refl .nil m
theorem snd_pcons (hk : SndE K tb W tk mk) (hv : SndE K tb W tv mv) (hr : SndP K tb W trs mp) : SndP K tb W ((tk, tv) :: trs) (pconsM mk mv mp) := by
  intro al G c H σ δ Ψ Φ Q g m q
  refine hk al G c H σ δ Ψ _ _ g m fun x c1 al1 G1 H1 v r1 l1 d1 m1 => ?_
  refine hv al1 G1 c1 H1 σ δ Ψ _ _ (g.le r1 l1) m1 fun y c2 al2 G2 H2 w r2 l2 d2 m2 => ?_
  split at m2
  · rename_i j e
    refine hr al2 G2 c2 H2 σ δ Ψ _ _ (g.le r2 (l1.trans l2)) m2 fun kvs vs c3 al3 G3 H3 r3 l3 d3 m3 => ?_
    rw [key_den d1 e]
    exact q ((j, y) :: kvs) ((j, w) :: vs) c3 al3 G3 H3 r3 ((l1.trans l2).trans l3) (.cons (d2.le l3) d3) m3
  · cases m2
theorem snd_disp (hp : SndP K tb W trs mp) : SndE K tb W (tDisp trs) (dispM true mp) := by
  intro al G c H σ δ Ψ Φ Q g m q p hn
  have ex : Ex H (upd H p (.dK [])) := Ex.new hn
  have r0 := g.rep.grow ex
  have l0 : Le al G c H al G c (upd H p (.dK [])) := Le.grow ex
  have ap : Apart al G c p := Apart.new g.rep hn
  refine hp al G c _ σ δ Ψ _ _ (g.le r0 l0) m fun kvs vs c1 al1 G1 H1 r1 l1 d1 m1 => ?_
  obtain ⟨ap1, h1⟩ := ap.le (u := .dK []) upd_same nofun l1
  refine ⟨h1, vs, rfl, by rw [d1.length]; exact m1.1, ?_⟩
  have dn : DenK K al1 G1 (mergeK [] vs) (mergeD [] kvs) := d1.merge .nil
  have r2 : Rep K tb al1 G1 c1 (upd H1 p (.dK (mergeK [] vs))) := r1.foreign h1 nofun nofun ap1.g ap1.liv ap1.k
  have l2 : Le al G c H al1 G1 c1 (upd H1 p (.dK (mergeK [] vs))) := (l0.trans l1).foreign (.of hn) nofun
  have m2 := m1.2
  unfold newK at m2
  rw [if_pos rfl] at m2
  obtain ⟨r3, l3, k3⟩ := r2.own ap1 upd_same nofun (o := .dic (mergeD [] kvs)) ⟨_, upd_same, dn.mono (fun _ _ => app_get) (Ex.refl _)⟩ rfl
  exact q _ _ _ G1 _ _ r3 (l2.own r2 (.of hn)) (.obj k3) m2
theorem snd_dispL (hp : SndP K tb W trs mp) : SndE K tb W (tLk (tDisp trs)) (dispM false mp) := by
  intro al G c H σ δ Ψ Φ Q g m q p hn
  have ex : Ex H (upd H p (.dK [])) := Ex.new hn
  have r0 := g.rep.grow ex
  have l0 : Le al G c H al G c (upd H p (.dK [])) := Le.grow ex
  have ap : Apart al G c p := Apart.new g.rep hn
  refine hp al G c _ σ δ Ψ _ _ (g.le r0 l0) m fun kvs vs c1 al1 G1 H1 r1 l1 d1 m1 => ?_
  obtain ⟨ap1, h1⟩ := ap.le (u := .dK []) upd_same nofun l1
  refine ⟨h1, vs, rfl, by rw [d1.length]; exact m1.1, ?_⟩
  have dn : DenK K al1 G1 (mergeK [] vs) (mergeD [] kvs) := d1.merge .nil
  have r2 : Rep K tb al1 G1 c1 (upd H1 p (.dK (mergeK [] vs))) := r1.foreign h1 nofun nofun ap1.g ap1.liv ap1.k
  have l2 : Le al G c H al1 G1 c1 (upd H1 p (.dK (mergeK [] vs))) := (l0.trans l1).foreign (.of hn) nofun
  exact lk_of r2 ap1 upd_same dn l2 (.of hn) q (newK_f m1.2)
def dgetD (x y : D) (c : SH) (Φ : QD) : Prop := match view c x, keyD y with
  | .dic kvs, some k => match valD kvs k with
    | some d => Φ d c
    | none => False
  | _, _ => False
theorem snd_dget {td ty : TE} (ha : SndE K tb W td a) (hb : SndE K tb W ty b) : SndE K tb W (tDGet td ty) (opM dgetD a b) := by
  intro al G c H σ δ Ψ Φ Q g m q
  refine ha al G c H σ δ Ψ _ _ g m fun x c1 al1 G1 H1 v r1 l1 d1 m1 => ?_
  refine hb al1 G1 c1 H1 σ δ Ψ _ _ (g.le r1 l1) m1 fun y c2 al2 G2 H2 w r2 l2 d2 m2 => ?_
  have vx := r2.vw (d1.le l2)
  unfold dgetD at m2
  split at m2
  · rename_i e1 e2
    rw [e1] at vx
    split at m2
    · rename_i d e3
      cases vx with
      | dic h r =>
        obtain ⟨u, h1, h2⟩ := r.val e3
        exact ⟨_, u, rfl, .inl ⟨_, _, h, key_den d2 e2, h1.symm⟩, q d c2 al2 G2 H2 u r2 (l1.trans l2) h2 m2⟩
    · cases m2
  · cases m2
end
end M
set_option Elab.async false
set_option linter.all false
set_option maxRecDepth 100000
set_option maxHeartbeats 3900000
namespace M
open PySem PySem.Spec PyProof.Rows L2 G
structure FnG (P : Program) (w : World) (K : PySem.W.Frag) (mg : Str → Option Value) (base : Heap) (CX : CXT) (k : Nat) (f : Addr) (fd : FuncData) (ps : List Str) (sp : Sp) : Prop where
  len : ∀ vs H Q E, sp vs H Q E → vs.length = ps.length
  run : ∀ (A : Around) (outer : List PySem.Env) (s : Shared) (H : Hp) (args : Args) (us : List Value) (vs : List V) (Q : VK) (E : XK), A.guards = some [] → Room k A → Env0 P w K mg base A outer s H → BindsTo s fd args (ps.zip us) → Vals vs us → sp vs H Q E →
    codeAny (model P w) A (.call (.ref f) args) (CR CX outer P w H s Q E) s
section
variable {P : Program} {w : World} {K : PySem.W.Frag} {mg : Str → Option Value} {base : Heap} {CX : CXT} {k : Nat} {f : Addr} {fd : FuncData} {N ps : List Str} {sp : Sp} {x qual : Str} {st : Stmt}
theorem FnG.of (F : FnOk P w K mg base CX k f fd ps sp) : FnG P w K mg base CX k f fd ps sp := ⟨F.len, fun A outer s H args us vs Q E _ => F.run A outer s H args us vs Q E⟩
/-- one A at a time: a def's promise is that of its body there -/
theorem FunV.okG (F : FunV K x qual st f fd) (S : FnScope N ps (defScope st)) (len : ∀ vs H Q E, sp vs H Q E → vs.length = ps.length)
    (body : ∀ (cdv : Value) (A : Around) (outer : List PySem.Env) (s : Shared) (H : Hp) (vs : List V) (Q : VK) (E : XK), A.guards = some [] → Room k (A.deeper (envOfC qual (defScope st) s.heap.objs.size f cdv)) → sp vs H Q E →
      ∃ t, PSs (cxOf (L2.CX P w) P w K mg base N qual (defScope st) f cdv A outer s H E) (defBody st) t ∧ t { nx := fun _ H' => Q .non H', rt := Q } (L2.start N vs) H) : FnG P w K mg base (L2.CX P w) (k + 1) f fd ps sp := by
  obtain ⟨_, _, _, _, _, _, _, cdv, _, _, rfl, lk, hc⟩ := F.ex
  refine ⟨len, fun A outer s H args us vs Q E hg hr e0 hb r hsp => ?_⟩
  have KX : K.In s.heap := e0.mod.kin.keeps fun b o e => (e0.bs b o e).1
  have lim : s.heap.NoLimit := e0.mod.nolimit.keeps fun b o e => (e0.bs b o e).1
  refine codeAny_call_function hr.depth (KX _ _ lk) rfl S.co S.gen rfl (PySem.W.codeRec_of KX hc) (hb _ _ _ _ (wpAny_newFunctionEnv_cells S.kind (fun y hy => ?_) fun env he s1 z => ?_))
  · exact (S.par y.1 (List.of_mem_zip (show (y.1, y.2) ∈ _ from hy)).1).imp id fun q => ⟨q, PySem.W.cellsFrom_some _ _ _ (.inl q)⟩
  · subst he
    refine ⟨lim.keeps z.toInCall.keep, codeAny_func ?_⟩
    obtain ⟨t, ht, hq⟩ := body cdv A outer s H vs Q E hg (hr.deeper _) hsp
    refine wpAny_mono (ht.run [] s1 _ H _ (inv_start S hr.hd e0 (len _ _ _ _ hsp) r z) hq) (fun fl s' hs => ?_) fun e s' hs => hs
    cases fl with
    | ret u => obtain ⟨v, σ', H', J, rv, q⟩ := hs; exact ⟨v, H', J.os, J.bare, J.base, J.hok, rv, q⟩
    | next => obtain ⟨σ', H', J, q⟩ := hs; exact ⟨.non, H', J.os, J.bare, J.base, J.hok, rfl, q⟩
    | brk => obtain ⟨_, _, _, q⟩ := hs; exact q.elim
    | cont => obtain ⟨_, _, _, q⟩ := hs; exact q.elim
end
/-- the abstract heap at the law's call: the script (unless it is written), the empty tables -/
def stH (K : PySem.W.Frag) (a : Addr) (o : Obj) (xs : List V) (ts : List Addr) : Hp := fun b => if b = a ∧ K.lookup a = none then some (.frz o (.lst xs)) else if b ∈ ts then some (.tbl #[]) else none
theorem stH_of {K : PySem.W.Frag} {a b : Addr} {o : Obj} {xs : List V} {ts : List Addr} {u : HO} (h : stH K a o xs ts b = some u) : (b = a ∧ K.lookup a = none ∧ u = .frz o (.lst xs)) ∨ (b ∈ ts ∧ u = .tbl #[]) := by
  unfold stH at h
  split at h
  · rename_i z; cases h; exact .inl ⟨z.1, z.2, rfl⟩
  · split at h
    · rename_i z; cases h; exact .inr ⟨z, rfl⟩
    · cases h
theorem law_callG {P : Program} {w : World} {K : PySem.W.Frag} {mg mb : Str → Option Value} {CX : CXT} {k : Nat} {fa a : Addr} {cs : List (Addr × Addr)} {fd : FuncData} {x : Str} {sp : Sp} {s₁ : Shared} {vs : List Value} {ns : List Int}
    (KX : K.In s₁.heap) (hns : s₁.heap.Ns mainGlobals mg) (hb : s₁.heap.Ns builtinsNs mb) (hbb : ∀ x : Str, x ≠ "__name__" → mb x = bootBuiltins x) (hlim : s₁.heap.NoLimit) (hg : s₁.gens = #[])
    (hT : ∀ p ∈ cs, s₁.heap.get? p.2 = some { cls := .none, data := .fields #[] }) (nT : ∀ p ∈ cs, K.lookup p.2 = none) (C : ∀ p ∈ cs, PySem.W.CodeHd s₁.heap p.1 p.2)
    (hbm : ∃ (bm : Addr) (ob : Obj), mg "__builtins__" = some (.ref bm) ∧ bm ≠ builtinsNs ∧ s₁.heap.get? bm = some ob ∧ ob.cls = .type "module" ∧ ob.dict = some builtinsNs ∧ ob.data = .plain)
    (ha : s₁.heap.get? a = some { cls := .type "list", data := .seq vs.toArray }) (hi : IntsAre vs ns) (hl : ns.length ≤ sizeLine) (hr : Room k callerA)
    (F : ∀ base : Heap, K.In base → base.Ns mainGlobals mg → (∀ p ∈ cs, LamX.TabB base mg p.1 p.2) → FnG P w K mg base CX k fa fd [x] sp) (hbind : ∀ (s : Shared) (u : Value), BindsTo s fd ⟨[u], []⟩ [(x, u)])
    (hsp : ∀ H : Hp, (∀ p ∈ cs, H p.2 = some (.tbl #[])) → SqL K H a (ns.map V.int) → sp [.ref a] H (fun v _ => v = .bl true) fun _ _ _ => False)
    (hCX : ∀ H e s', CX [] H s₁ (fun _ _ _ => False) e s' → False) :
    codeAny (model P w) callerA (.call (.ref fa) ⟨[.ref a], []⟩) (fun r s' => r = .ok (.ret (.bool true)) ∧ OldK s₁.heap s'.heap ∧ s'.os = s₁.os ∧ AllBare s'.gens) s₁ := by
  obtain ⟨H, hH⟩ : ∃ H, H = stH K a { cls := .type "list", data := .seq vs.toArray } (ns.map V.int) (cs.map (·.2)) := ⟨_, rfl⟩
  have tab : ∀ b ∈ cs.map (·.2), s₁.heap.get? b = some { cls := .none, data := .fields #[] } ∧ K.lookup b = none := fun b hb => by
    obtain ⟨p, hp, rfl⟩ := List.mem_map.mp hb
    exact ⟨hT p hp, nT p hp⟩
  have na : a ∉ cs.map (·.2) := fun z => by
    have q := (tab a z).1
    rw [ha] at q
    cases q
  -- what lies under H
  have und : ∀ {b u}, H b = some u → (b = a ∧ K.lookup a = none ∧ u = .frz { cls := .type "list", data := .seq vs.toArray } (.lst (ns.map V.int))) ∨ (b ∈ cs.map (·.2) ∧ u = .tbl #[]) := fun h => stH_of (hH ▸ h)
  have hTb : ∀ p ∈ cs, H p.2 = some (.tbl #[]) := fun p hp => by
    have m : p.2 ∈ cs.map (·.2) := List.mem_map.mpr ⟨p, hp, rfl⟩
    rw [hH]
    show (if p.2 = a ∧ _ then _ else if p.2 ∈ cs.map (·.2) then _ else _) = _
    have ne : ¬ (p.2 = a ∧ K.lookup a = none) := fun z => na (z.1 ▸ m)
    exact (if_neg ne).trans (if_pos m)
  have nk : ∀ {b o}, K.lookup b = some o → H b = none := fun {b o} e => by
    cases q : H b with
    | none => rfl
    | some u =>
      rcases und q with ⟨rfl, z, _⟩ | ⟨z, _⟩
      · rw [z] at e; cases e
      · rw [(tab b z).2] at e; cases e
  have free : ∀ {b o}, s₁.heap.get? b = some o → (∀ us n, o.data ≠ .seq us n) → o.data ≠ .fields #[] → H b = none := fun {b o} e n1 n2 => by
    cases q : H b with
    | none => rfl
    | some u =>
      rcases und q with ⟨rfl, _, _⟩ | ⟨z, _⟩
      · rw [ha] at e; cases e; exact (n1 _ _ rfl).elim
      · rw [(tab b z).1] at e; cases e; exact (n2 rfl).elim
  have up : ∀ {b m}, s₁.heap.Ns b m → (hidT s₁.heap H).Ns b m := fun ⟨o, es, ep, e, d, r⟩ => ⟨o, es, ep, hidT_get e (free e (fun _ _ z => by rw [d] at z; cases z) fun z => by rw [d] at z; cases z), d, r⟩
  have hKb : K.In (hidT s₁.heap H) := fun b o e => hidT_get (KX b o e) (nk e)
  have hM : L2.Mod K mg (hidT s₁.heap H) := ⟨hKb, up hns, ⟨mb, up hb, hbb⟩, let ⟨mc, h1, h2⟩ := hlim; ⟨mc, up h1, h2⟩⟩
  have hok : HOk P w H s₁.heap := fun b u q => by
    rcases und q with ⟨rfl, _, rfl⟩ | ⟨z, rfl⟩
    · exact ⟨ha, by rw [List.length_map]; exact hl, vs, _, vals_ints hi, ha⟩
    · exact (tab b z).1
  have hS : SqL K H a (ns.map V.int) := by
    cases hk : K.lookup a with
    | none => exact .inl (.inr ⟨{ cls := .type "list", data := .seq vs.toArray }, by rw [hH]; exact if_pos ⟨rfl, hk⟩⟩)
    | some o =>
      have e := KX a o hk
      rw [ha] at e
      cases e
      exact .inr ⟨_, vs.toArray, _, hk, rfl, rfl, rfl, by rw [List.size_toArray, hi.length]; exact hl, by simpa using vals_ints hi⟩
  have TB : ∀ p ∈ cs, LamX.TabB (hidT s₁.heap H) mg p.1 p.2 := fun p hp => by
    have ht := hT p hp
    obtain ⟨g, gs, gp, g1, g2, _⟩ := hns
    refine ⟨?_, ?_, fun z => ?_⟩
    · obtain ⟨o, us, file, tf, flags, tg, inF, text, tt, e1, r1, r2, r3, r⟩ := C p hp
      refine ⟨o, us, file, tf, flags, tg, inF, text, tt, hidT_get e1 (free e1 (fun _ _ z => by rw [r2] at z; cases z) fun z => ?_), r1, r2, r3, r⟩
      rw [r2] at z
      cases z
      simp at r3
    · obtain ⟨bm, ob, b1, b2, b3, b4, b5, b6⟩ := hbm
      refine ⟨bm, ob, b1, b2, fun q => ?_, fun q => ?_, hidT_get b3 (free b3 (fun _ _ z => by rw [b6] at z; cases z) fun z => by rw [b6] at z; cases z), b4, b5, b6⟩
      · rw [q, g1] at b3; cases b3; rw [g2] at b6; cases b6
      · rw [q, ht] at b3; cases b3; cases b6
    · rw [z, ht] at g1; cases g1; cases g2
  have e0 : Env0 P w K mg (hidT s₁.heap H) callerA [] s₁ H := ⟨rfl, hM, fun b o e => of_hidT e, Nat.le_of_eq (hidT_size _ _), trivial, fun b hb => absurd (show b ∈ ([] : List Addr) from hb) (by simp), hok, .of_eq hg⟩
  refine codeAny_mono ((F _ hKb (up hns) TB).run callerA [] s₁ H ⟨[.ref a], []⟩ [.ref a] [.ref a] _ _ rfl hr e0 (hbind s₁ (.ref a)) (.cons rfl .nil) (hsp H hTb hS)) fun r s' h => ?_
  match r, h with
  | .error e, h => exact (hCX H e s' h).elim
  | .ok .next, h => exact False.elim h
  | .ok .brk, h => exact False.elim h
  | .ok .cont, h => exact False.elim h
  | .ok (.ret u), ⟨v, H', os, bare, un, hok', r', q⟩ =>
    cases (show v = .bl true from q)
    cases (show u = Value.bool true from r')
    have key : ∀ b o, b ∉ cs.map (·.2) → s₁.heap.get? b = some o → s'.heap.get? b = some o := fun b o nb e => by
      cases q : H b with
      | none => exact un.keep b o e q (fun z => absurd (show b ∈ ([] : List Addr) from z) (by simp)) (by simp)
      | some u =>
        rcases und q with ⟨rfl, _, rfl⟩ | ⟨z, _⟩
        · have z2 := (hok' b _ (un.frzs b _ _ q)).1
          rw [ha] at e
          cases e
          exact z2
        · exact absurd z nb
    have grown : ∀ p ∈ cs, ∃ more : Array Value, s'.heap.get? p.2 = some { cls := .none, data := .fields more } := fun p hp => let ⟨more, z⟩ := un.tbls p.2 #[] (hTb p hp); ⟨_, hok' p.2 _ z⟩
    refine ⟨rfl, ⟨fun b o e => ?_, fun b o e => ?_⟩, os, bare⟩
    · by_cases hb : b ∈ cs.map (·.2)
      · obtain ⟨p, hp, rfl⟩ := List.mem_map.mp hb
        obtain ⟨more, hm⟩ := grown p hp
        rw [hT p hp] at e
        cases e
        exact .inr (.inl ⟨((C p hp).tab (hT p hp)).isCodeTable, rfl, #[], more, rfl, by rw [Array.empty_append]; exact hm⟩)
      · exact .inl (key b o hb e)
    · by_cases hb : b ∈ cs.map (·.2)
      · obtain ⟨p, hp, rfl⟩ := List.mem_map.mp hb
        obtain ⟨more, hm⟩ := grown p hp
        exact ⟨_, hm⟩
      · exact ⟨o, key b o hb e⟩
/-- what is known of the law's promise at the head's heap -/
def LawAtG (l : PySem.W.OpenLaw) (w : World) (K : PySem.W.Frag) (CX : CXT) (k n : Nat) (x : Str) (mg : Str → Option Value) (fa : Addr) (h : Heap) : Prop :=
  ∃ (fd : FuncData) (cs : List (Addr × Addr)) (sp : Sp), (∀ p ∈ cs, h.get? p.2 = some { cls := .none, data := .fields #[] }) ∧ (∀ p ∈ cs, K.lookup p.2 = none) ∧ (∀ p ∈ cs, PySem.W.CodeHd h p.1 p.2) ∧ (∀ (s : Shared) (u : Value), BindsTo s fd ⟨[u], []⟩ [(x, u)]) ∧
    (∀ (H : Hp) (a : Addr) (ns : List Int), ns.length ≤ n → (∀ z ∈ ns, Builtin.Int.intBits z ≤ 1048576) → (∀ p ∈ cs, H p.2 = some (.tbl #[])) → SqL K H a (ns.map V.int) → sp [.ref a] H (fun v _ => v = .bl true) fun _ _ _ => False) ∧
    ∀ base : Heap, K.In base → base.Ns mainGlobals mg → (∀ p ∈ cs, LamX.TabB base mg p.1 p.2) → FnG l.prog w K mg base CX k fa fd [x] sp
theorem walk_ofG {l : PySem.W.OpenLaw} {n k : Nat} {q : Program} {loose : List Str} {XP : (Str → Option Value) → Heap → Prop} {YP : World → Heap → Prop} {d : DefRec} {K : Params → PySem.W.Frag} {CX : World → CXT} {x : Str}
    (hn : l.most = some n) (hn2 : n ≤ sizeLine) (hdf : d.params.defaults = []) (hr : Room k callerA) (hY : ∀ (w : World) (h : Heap), YP w h → (K w.params).In h)
    (F : ∀ (w : World) (mg : Str → Option Value) (fa : Addr) (h : Heap), YP w h → (K w.params).In h → h.Ns mainGlobals mg → mg d.name = some (.ref fa) → LawAtG l w (K w.params) (CX w) k n x mg fa h)
    (hCX : ∀ (w : World) (H : Hp) (s : Shared) (e : Value) (s' : Shared), CX w [] H s (fun _ _ _ => False) e s' → False) :
    PySem.W.WalkO q loose XP YP l.row.toRowW d [] (fun f vs => PySem.call f vs) := by
  refine Att.attach_callB hn hdf fun w s₀ s₁ mg mb fa o pm cd doc a vs ns G Y ho hd hcd hmg hobj hints hlen hbits hg => ?_
  have KX := hY w _ Y
  obtain ⟨fd, cs, sp, hT, nT, C, hb, hsp, hF⟩ := F w mg fa _ Y KX G.T.g hmg
  exact law_callG KX G.T.g G.T.b G.T.builtins G.T.nolimit hg hT nT C G.T.bmain hobj hints (Nat.le_trans hlen hn2) hr hF hb (fun H hH hS => hsp H a ns hlen hbits hH hS) fun H e s' => hCX w H s₁ e s'
end M
set_option Elab.async false
set_option linter.all false
set_option maxRecDepth 100000
set_option maxHeartbeats 3900000
namespace M
open PySem PySem.Spec PyProof.Rows L2 G
def rReprG (K : PySem.W.Frag) : List V → Hp → VK → Prop := fun xs H Q => ∃ (a : Addr) (p : PyData), xs = [.ref a] ∧ Dp K H (.ref a) p ∧ p.showable = true ∧ p.hasDict = false ∧ p.depth ≤ 60 ∧ p.shown.length ≤ sizeLine ∧ Q (.str p.shown) H
section
variable {X : Cx} {K : PySem.W.Frag} {tb : List (Addr × Str)} {W : WX}
def reprGD (xs : List D) (c : SH) (Φ : QD) : Prop := oneD xs fun x => match pyC c x with
  | some (.list ps) => ((PyData.list ps).showable = true ∧ (PyData.list ps).hasDict = false ∧ (PyData.list ps).depth ≤ 60 ∧ (PyData.list ps).shown.length ≤ sizeLine) ∧ Φ (.str (PyData.list ps).shown) c
  | some (.tuple ps) => ((PyData.tuple ps).showable = true ∧ (PyData.tuple ps).hasDict = false ∧ (PyData.tuple ps).depth ≤ 60 ∧ (PyData.tuple ps).shown.length ≤ sizeLine) ∧ Φ (.str (PyData.tuple ps).shown) c
  | _ => False
theorem dc_reprG : DCall K tb (rReprG K) reprGD := by
  intro al G c H xs ds Φ Q R hd m q
  obtain ⟨x, v, rfl, rfl, dx, m2⟩ := oneD_of m hd
  split at m2
  · rename_i ps e
    have dp := R.py dx e
    obtain ⟨⟨h1, h2, h3, h4⟩, m⟩ := m2
    cases dp with
    | lst h r => exact ⟨_, _, rfl, .lst h r, h1, h2, h3, h4, q _ c al G H _ R .refl (.str _) m⟩
  · rename_i ps e
    have dp := R.py dx e
    obtain ⟨⟨h1, h2, h3, h4⟩, m⟩ := m2
    cases dp with
    | tup h r => exact ⟨_, _, rfl, .tup h r, h1, h2, h3, h4, q _ c al G H _ R .refl (.str _) m⟩
  · cases m2
def rInP (K : PySem.W.Frag) (fin : Bool → Bool) : R2 := fun x y H Q => ∃ (d : PyData) (ds : List PyData), Dp K H x d ∧ (Dp K H y (.list ds) ∨ Dp K H y (.tuple ds)) ∧ SeqAt.shaped d = true ∧ SeqAt.shaped (.list ds) = true ∧ Q (.bl (fin (ds.any fun z => PyData.eqv z d))) H
def inP (fin : Bool → Bool) (x y : D) (c : SH) (Φ : QD) : Prop := match pyC c x, pyC c y with
  | some d, some (.list ds) => (SeqAt.shaped d = true ∧ SeqAt.shaped (.list ds) = true) ∧ Φ (.bl (fin (ds.any fun z => PyData.eqv z d))) c
  | some d, some (.tuple ds) => (SeqAt.shaped d = true ∧ SeqAt.shaped (.list ds) = true) ∧ Φ (.bl (fin (ds.any fun z => PyData.eqv z d))) c
  | _, _ => False
theorem dop_inP {fin : Bool → Bool} : DOp K tb (rInP K fin) (inP fin) := by
  intro al G c H x y dx dy Φ Q R hx hy m q
  unfold inP at m
  split at m
  · rename_i d ds e1 e2
    exact ⟨d, ds, R.py hx e1, .inl (R.py hy e2), m.1.1, m.1.2, q _ c al G H _ R .refl (.bl _) m.2⟩
  · rename_i d ds e1 e2
    exact ⟨d, ds, R.py hx e1, .inr (R.py hy e2), m.1.1, m.1.2, q _ c al G H _ R .refl (.bl _) m.2⟩
  · cases m
inductive DpK (K : PySem.W.Frag) (H : Hp) : List (Key × V) → List (Key × PyData) → Prop
  | nil : DpK K H [] []
  | cons {k : Key} {v : V} {p : PyData} {vs : List (Key × V)} {ps : List (Key × PyData)} : Dp K H v p → SeqAt.shaped p = true → DpK K H vs ps → DpK K H ((k, v) :: vs) ((k, p) :: ps)
theorem DpK.length {H : Hp} : ∀ {vs : List (Key × V)} {ps : List (Key × PyData)}, DpK K H vs ps → vs.length = ps.length
  | _, _, .nil => rfl
  | _, _, .cons _ _ r => congrArg (· + 1) r.length
def lookP (ls : List (Key × PyData)) (k : Key) : Option PyData := (ls.find? fun kv => decide (kv.1 = k)).map (·.2)
def hitsB (ls : List (Key × PyData)) : List (Key × PyData) → Bool
  | [] => true
  | (k, v) :: r => match lookP ls k with
    | some y => PyData.eqv v y && hitsB ls r
    | none => false
def eqK (ks ls : List (Key × PyData)) : Bool := ks.length == ls.length && hitsB ls ks
def rEqK (K : PySem.W.Frag) (fin : Bool → Bool) : R2 := fun x y H Q => ∃ a b ks ls kp lp, x = .ref a ∧ y = .ref b ∧ Rd H a (.dK ks) ∧ Rd H b (.dK ls) ∧ DpK K H ks kp ∧ DpK K H ls lp ∧ Q (.bl (fin (eqK kp lp))) H
theorem rd_dict {pins : List (Addr × Obj)} {σ : L2.St} {H : Hp} {s : Shared} (I : Inv X pins σ H s) {a : Addr} {ks : List (Key × V)} (h : Rd H a (.dK ks)) : (a == sysModules) = false ∧ ∃ va, KV ks va ∧ s.heap.DictOf (mixKind X.prog X.w) a va := by
  rcases h with h | ⟨o, h⟩
  · obtain ⟨_, ya, va, ra, da⟩ := (show ObjOk X.prog X.w H s.heap a (.dK ks) from I.hok a _ h)
    exact ⟨ya, va, ra, da⟩
  · obtain ⟨_, _, ya, va, ra, da⟩ := (show ObjOk X.prog X.w H s.heap a (.frz o (.dK ks)) from I.hok a _ h)
    exact ⟨ya, va, ra, da⟩
def pyK (c : SH) : List (Key × D) → Option (List (Key × PyData))
  | [] => some []
  | (k, d) :: r => match pyC c d, pyK c r with
    | some p, some ps => if SeqAt.shaped p = true then some ((k, p) :: ps) else none
    | _, _ => none
theorem Rep.pyK {al : List Addr} {G H : Hp} {c : SH} (R : Rep K tb al G c H) : ∀ {vs : List (Key × V)} {ds : List (Key × D)} {ps : List (Key × PyData)}, DenK K al G vs ds → pyK c ds = some ps → DpK K H vs ps
  | _, _, _, .nil, e => by cases e; exact .nil
  | _, _, _, .cons h r, e => by
    unfold M.pyK at e
    split at e
    · rename_i p ps h1 h2
      split at e
      · rename_i sh
        cases e
        exact .cons (R.py h h1) sh (R.pyK r h2)
      · cases e
    · cases e
def eqKD (fin : Bool → Bool) (x y : D) (c : SH) (Φ : QD) : Prop := match view c x, view c y with
  | .dic ks, .dic ls => match pyK c ks, pyK c ls with
    | some kp, some lp => Φ (.bl (fin (eqK kp lp))) c
    | _, _ => False
  | _, _ => False
theorem dop_eqK {fin : Bool → Bool} : DOp K tb (rEqK K fin) (eqKD fin) := by
  intro al G c H x y dx dy Φ Q R hx hy m q
  have vx := R.vw hx
  have vy := R.vw hy
  unfold eqKD at m
  split at m
  · rename_i ks ls e1 e2
    rw [e1] at vx
    rw [e2] at vy
    split at m
    · rename_i kp lp h1 h2
      cases vx with
      | dic ha da =>
        cases vy with
        | dic hb db => exact ⟨_, _, _, _, kp, lp, rfl, rfl, ha, hb, R.pyK da h1, R.pyK db h2, q _ c al G H _ R .refl (.bl _) m⟩
    · cases m
  · cases m
end
end M
set_option Elab.async false
set_option linter.all false
set_option maxRecDepth 100000
set_option maxHeartbeats 3900000
namespace M
open PySem PySem.Spec PyProof.Rows L2 G
section
variable {P : Program} {w : World} {K : PySem.W.Frag} {mg : Str → Option Value} {base : Heap} {x qual : Str} {st : Stmt} {f : Addr} {fd : FuncData} {N ps : List Str} {k : Nat} {sp : Sp}
theorem Room.u65 {A : Around} (hr : Room k A) : A.units + 65 < cLine := by have := hr.un; omega
/-- a def that throws nothing -/
theorem FunV.ok (F : FunV K x qual st f fd) (S : FnScope N ps (defScope st)) (len : ∀ vs H Q E, sp vs H Q E → vs.length = ps.length)
    (body : ∀ (cdv : Value) (A : Around) (outer : List PySem.Env) (s : Shared) (H : Hp) (vs : List V) (Q : VK) (E : XK), Room k (A.deeper (envOfC qual (defScope st) s.heap.objs.size f cdv)) → sp vs H Q E →
      ∃ t, PSs (cxOf CX0 P w K mg base N qual (defScope st) f cdv A outer s H E).nox (defBody st) t ∧ t { nx := fun _ H' => Q .non H', rt := Q } (L2.start N vs) H) : FnOk P w K mg base CX0 (k + 1) f fd ps sp := by
  obtain ⟨_, _, _, _, _, _, _, cdv, _, _, rfl, lk, hc⟩ := F.ex
  refine fn_of lk hc S len fun A outer s H vs Q E hr hs => ?_
  obtain ⟨t, h, q⟩ := body cdv A outer s H vs Q E hr hs
  exact ⟨t, h.nox, q⟩
theorem cx_none {H : Hp} {s s' : Shared} {e : Value} (h : L2.CX P w [] H s (fun _ _ _ => False) e s') : False := let ⟨_, _, _, _, _, _, _, _, _, _, _, _, z⟩ := h; z
def unT (H : Hp) : Hp := fun b => match H b with
  | some (.tbl _) => none
  | o => o
theorem unT_of {H : Hp} {b : Addr} {o : HO} (h : unT H b = some o) : H b = some o ∧ ∀ q, o ≠ .tbl q := by
  unfold unT at h
  split at h
  · cases h
  · rename_i n
    refine ⟨h, fun q z => ?_⟩
    subst z
    exact n _ h
theorem unT_is {H : Hp} {b : Addr} {o : HO} (h : H b = some o) (n : ∀ q, o ≠ .tbl q) : unT H b = some o := by
  unfold unT
  split
  · rename_i q e
    rw [h] at e
    cases e
    exact (n q rfl).elim
  · exact h
theorem law_sp {tb : List (Addr × Str)} {H : Hp} {a : Addr} {ns : List Int} {F : Fn} (hT : LamX.Tabs tb H) (hS : SqL K H a (ns.map V.int)) (m : F [.scr (ns.map .int)] [] noX fun d _ => d = .bl true) : SpG K tb F [.ref a] H (fun v _ => v = .bl true) fun _ _ _ => False := by
  refine ⟨[], unT H, [], [.scr (ns.map .int)], noX, _, ⟨rfl, fun b o e => (unT_of e).1, (fun _ _ _ h => absurd h (by simp)), (fun _ _ _ h => absurd h (by simp)), (fun _ _ _ _ h => absurd h (by simp)), (fun _ _ h => absurd h (by simp)), fun b q e => (unT_of e).2 q rfl, hT⟩, .cons (.scr ?_ (DenL.ints ns)) .nil, m, fun d c al G H' v r l dn e => ?_, thr0⟩
  · rcases hS with (h | ⟨o, h⟩) | h
    · exact .inl (.inl (unT_is h nofun))
    · exact .inl (.inr ⟨o, unT_is h nofun⟩)
    · exact .inr h
  · subst e
    cases dn
    rfl
theorem snd_lcE {tb : List (Addr × Str)} {W : WX} {lv : Bool} {wi : TI} {mi : MI} {g : TG} {mg : MG} {tt : TT} {mt : MT} {te : TE} {me : ME} {vs vs' : List Nat} (e : vs' = vs) (hi : SndI K tb W wi mi) (hg : SndGO K tb (fun _ _ _ _ => False) vs g mg) (ht : SndT K tb (fun _ _ _ _ => False) tt mt) (he : SndE K tb (fun _ _ _ _ => False) te me) : SndE K tb W (tLc wi g tt te vs') (lcM lv mi mg mt me vs) := by subst e; exact snd_lc hi hg ht he
end
end M
set_option Elab.async false
set_option linter.all false
set_option maxRecDepth 100000
set_option maxHeartbeats 3900000
namespace M
open PySem PySem.Spec PyProof.Rows L2 G
section
variable {X : Cx} {K : PySem.W.Frag} {tb : List (Addr × Str)}
def rMaxS : List V → Hp → VK → Prop := fun xs H Q => ∃ a b : Str, xs = [.str a, .str b] ∧ Q (.str (if a.cps.toList < b.cps.toList then b else a)) H
def rMinS : List V → Hp → VK → Prop := fun xs H Q => ∃ a b : Str, xs = [.str a, .str b] ∧ Q (.str (if b.cps.toList < a.cps.toList then b else a)) H
def maxSD (xs : List D) (c : SH) (Φ : QD) : Prop := twoD xs fun x y => match x, y with
  | .str a, .str b => Φ (.str (if a.cps.toList < b.cps.toList then b else a)) c
  | _, _ => False
def minSD (xs : List D) (c : SH) (Φ : QD) : Prop := twoD xs fun x y => match x, y with
  | .str a, .str b => Φ (.str (if b.cps.toList < a.cps.toList then b else a)) c
  | _, _ => False
theorem dc_maxS : DCall K tb rMaxS maxSD := by
  intro al G c H xs ds Φ Q R hd m q
  obtain ⟨x, y, v, w, rfl, rfl, dx, dy, m2⟩ := twoD_of m hd
  split at m2
  · cases dx; cases dy; exact ⟨_, _, rfl, q _ c al G H _ R .refl (.str _) m2⟩
  · cases m2
theorem dc_minS : DCall K tb rMinS minSD := by
  intro al G c H xs ds Φ Q R hd m q
  obtain ⟨x, y, v, w, rfl, rfl, dx, dy, m2⟩ := twoD_of m hd
  split at m2
  · cases dx; cases dy; exact ⟨_, _, rfl, q _ c al G H _ R .refl (.str _) m2⟩
  · cases m2
end
end M
set_option Elab.async false
set_option linter.all false
set_option maxRecDepth 100000
set_option maxHeartbeats 3900000
namespace M
open PySem PySem.Spec PyProof.Rows L2 G
section
variable {δ : Env} {c : SH} {Ψ : XD} {Φ : QD} {ΦT : Bool → SH → Prop} {ΦA : List D → SH → Prop} {ΦO : Option Int → SH → Prop} {N : Env → SH → Prop} {e : EndsD} {a b d3 : ME} {t u : MT} {A : MA} {s1 s2 : MS} {g : MG} {i j np ns : Nat} {d x y : D} {op op' : D → D → SH → QD → Prop} {un : D → SH → QD → Prop} {cb : List D → SH → QD → Prop} {C : Addr} {f m : Str} {F : Fn} {ds as : List D} {mi : MI}
theorem e_fn {b : MS} (hl : as.length = np) (hδ : as.map some ++ List.replicate (ns - as.length) none = δ) (h : b δ c { nx := fun _ c' => clo c Φ .non c', rt := fun d c' => clo c Φ d c', bk := fun _ _ => False, ct := fun _ _ => False, xc := fun C f d _ c' => clo c (fun d c' => Ψ C f d c') d c' }) : fnD np ns b as c Ψ Φ := ⟨hl, hδ ▸ h⟩
theorem e_seq (h : s1 δ c { e with nx := fun δ' c' => s2 δ' c' e }) : seqM s1 s2 δ c e := h
theorem e_asg (h : a δ c (e.x δ) fun x c1 => g x δ c1 (e.x δ) e.nx) : asgM a g δ c e := h
theorem e_gname (h : N (δ.set i (some x)) c) : gnameM i x δ c Ψ N := h
theorem e_drop (h : a δ c (e.x δ) fun _ c1 => e.nx δ c1) : dropM a δ c e := h
theorem e_ret (h : a δ c (e.x δ) e.rt) : retM a δ c e := h
theorem e_next (h : e.nx δ c) : nextM δ c e := h
theorem e_ifS (h : t δ c (e.x δ) fun k c1 => if k = true then s1 δ c1 e else s2 δ c1 e) : ifS t s1 s2 δ c e := h
theorem e_par (h : A δ c (e.x δ) fun xs c1 => twoD xs fun x y => e.nx ((δ.set i (some x)).set j (some y)) c1) : parM i j A δ c e := h
theorem e_raise (h : A δ c (e.x δ) fun xs c1 => oneD xs fun x => e.xc C f x δ c1) : raiseM C f A δ c e := h
theorem e_for (h : mi δ c (e.x δ) fun xs gd c1 => forD gd g s1 xs δ c1 e) : forM mi g s1 δ c e := h
theorem e_var (h : δ[i]? = some (some d)) (q : Φ d c) : varM i δ c Ψ Φ := by unfold varM; rw [h]; exact q
theorem e_c (q : Φ d c) : cM d δ c Ψ Φ := q
theorem e_op (h : a δ c Ψ fun x c1 => b δ c1 Ψ fun y c2 => op x y c2 Φ) : opM op a b δ c Ψ Φ := h
theorem e_un (h : a δ c Ψ fun x c1 => un x c1 Φ) : unM un a δ c Ψ Φ := h
theorem e_test (h : a δ c Ψ fun x c1 => blD x c1 ΦT) : testM a δ c Ψ ΦT := h
theorem e_bl {k : Bool} (h : ΦT k c) : blD (.bl k) c ΦT := h
theorem e_andT (h : t δ c Ψ fun k c1 => if k = true then u δ c1 Ψ ΦT else ΦT false c1) : andT t u δ c Ψ ΦT := h
theorem e_orT (h : t δ c Ψ fun k c1 => if k = true then ΦT true c1 else u δ c1 Ψ ΦT) : orT t u δ c Ψ ΦT := h
theorem e_notT (h : t δ c Ψ fun k c1 => ΦT (!k) c1) : notT t δ c Ψ ΦT := h
theorem e_andM (h : a δ c Ψ fun x c1 => blD x c1 fun k c1 => if k = true then b δ c1 Ψ Φ else Φ (.bl false) c1) : andM a b δ c Ψ Φ := h
theorem e_orM (h : a δ c Ψ fun x c1 => blD x c1 fun k c1 => if k = true then Φ (.bl true) c1 else b δ c1 Ψ Φ) : orM a b δ c Ψ Φ := h
theorem e_notM (h : a δ c Ψ fun x c1 => blD x c1 fun k c1 => Φ (.bl (!k)) c1) : notM a δ c Ψ Φ := h
theorem e_ifM (h : t δ c Ψ fun k c1 => if k = true then a δ c1 Ψ Φ else b δ c1 Ψ Φ) : ifM t a b δ c Ψ Φ := h
theorem e_chain (h : a δ c Ψ fun x c1 => b δ c1 Ψ fun y c2 => op x y c2 fun z c3 => blD z c3 fun k c3 => if k = true then d3 δ c3 Ψ fun w c4 => op' y w c4 Φ else Φ (.bl false) c3) : chainM op op' a b d3 δ c Ψ Φ := h
theorem e_nil (h : ΦA [] c) : nilM δ c Ψ ΦA := h
theorem e_cons (h : a δ c Ψ fun x c1 => A δ c1 Ψ fun xs c2 => ΦA (x :: xs) c2) : consM a A δ c Ψ ΦA := h
theorem e_lst (h : A δ c Ψ fun xs c1 => xs.length ≤ sizeLine ∧ Φ (.lst xs) c1) : lstM false A δ c Ψ Φ := by
  have : newL false = fun xs c Φ => xs.length ≤ sizeLine ∧ Φ (.lst xs) c := by
    funext xs c Φ; unfold newL; rw [if_neg (by decide)]
  show A δ c Ψ fun xs c1 => newL false xs c1 Φ
  rw [this]; exact h
theorem e_lstO (h : A δ c Ψ fun xs c1 => xs.length ≤ sizeLine ∧ Φ (.obj c1.length) (c1 ++ [.lst xs])) : lstM true A δ c Ψ Φ := by
  have : newL true = fun xs c Φ => xs.length ≤ sizeLine ∧ Φ (.obj c.length) (c ++ [.lst xs]) := by
    funext xs c Φ; unfold newL; rw [if_pos rfl]
  show A δ c Ψ fun xs c1 => newL true xs c1 Φ
  rw [this]; exact h
theorem e_tup (h : A δ c Ψ fun xs c1 => xs.length ≤ sizeLine ∧ Φ (.tup xs) c1) : tupM A δ c Ψ Φ := h
theorem e_cb (h : A δ c Ψ fun xs c1 => cb xs c1 Φ) : cbM cb A δ c Ψ Φ := h
theorem e_call (h : A δ c Ψ fun xs c1 => F (xs ++ ds) c1 Ψ Φ) : callM F ds A δ c Ψ Φ := h
theorem e_meth (h : a δ c Ψ fun x c1 => insD C m x c1 (A δ c1 Ψ fun xs c2 => F (x :: (xs ++ ds)) c2 Ψ Φ)) : methM C m F ds a A δ c Ψ Φ := h
theorem e_prop (h : a δ c Ψ fun x c1 => (match view c1 x with
  | .ins C' _ => C' = C
  | _ => False) ∧ F [x] c1 noX Φ) : propM C F a δ c Ψ Φ := h
theorem e_make (h : A δ c Ψ fun xs c1 => makeD false C F (xs ++ ds) c1 Ψ Φ) : makeM false C F ds A δ c Ψ Φ := h
theorem e_fld (h : a δ c Ψ fun x c1 => fldD C f x c1 Φ) : fldM C f a δ c Ψ Φ := h
theorem e_sfld (h : b δ c (e.x δ) fun y c1 => a δ c1 (e.x δ) fun x c2 => putD C f x y c2 fun c3 => e.nx δ c3) : sfldM C f a b δ c e := h
theorem e_noPart (h : ΦO none c) : noPartM δ c Ψ ΦO := h
theorem e_part (h : a δ c Ψ fun x c1 => intD x c1 fun i c1 => ΦO (some i) c1) : partM a δ c Ψ ΦO := h
theorem e_int {k : Int} {ΦI : Int → SH → Prop} (h : ΦI k c) : intD (.int k) c ΦI := h
theorem e_sl {lo hi : MO} {so : D → Option Int → Option Int → SH → QD → Prop} (h : a δ c Ψ fun x c1 => lo δ c1 Ψ fun l c2 => hi δ c2 Ψ fun u c3 => so x l u c3 Φ) : slM so a lo hi δ c Ψ Φ := h
theorem e_bm {T : String} {mo : D → List D → SH → QD → Prop} (h : a δ c Ψ fun x c1 => tyM T (view c1 x) ∧ A δ c1 Ψ fun xs c2 => mo x xs c2 Φ) : bmM T mo a A δ c Ψ Φ := h
theorem e_bm0 {T : String} {mo : D → List D → SH → QD → Prop} (h : a δ c Ψ fun x c1 => tyM T (view c1 x) ∧ mo x [] c1 Φ) : bm0M T mo a δ c Ψ Φ := h
theorem e_m1 {mo : D → List D → SH → QD → Prop} (h : a δ c Ψ fun x c1 => tyM "str" x ∧ b δ c1 Ψ fun y c2 => mo x [y] c2 Φ) : m1M mo a b δ c Ψ Φ := h
theorem e_it {ΦI : List D → (SH → Prop) → SH → Prop} (h : a δ c Ψ fun x c1 => match itemsD (view c1 x) with
  | some xs => ΦI xs (fun c' => view c' x = view c1 x) c1
  | none => False) : itM a δ c Ψ ΦI := h
theorem e_rng1 {ΦI : List D → (SH → Prop) → SH → Prop} (h : A δ c Ψ fun xs c1 => oneD xs fun x => intD x c1 fun j c1 => (-(2 ^ 62) ≤ j ∧ j < 2 ^ 62) ∧ ΦI (rngD 0 j.toNat) (fun _ => True) c1) : rng1M A δ c Ψ ΦI := h
theorem e_lc {lv : Bool} {vs : List Nat} (h : mi δ c Ψ fun xs gd c1 => lcD gd (turnD g t a (wipeD δ vs)) xs [] c1 (endL lv Φ)) : lcM lv mi g t a vs δ c Ψ Φ := h
theorem e_caught {K : PySem.W.Frag} {hs : Hds} (h : A δ c Ψ fun xs c1 => oneD xs fun x => a (δ ++ [some x]) c1 (fun C f d c' => dealD K hs C f d c' Φ) fun d c' => Φ (.lst [.str (Str.ofString "told"), d]) c') : caughtM K hs a A δ c Ψ Φ := h
theorem e_two {k : D → D → Prop} (h : k x y) : twoD [x, y] k := h
theorem e_one {k : D → Prop} (h : k x) : oneD [x] k := h
theorem e_ifT {p q : Prop} (h : p) : (if true = true then p else q) := by rw [if_pos rfl]; exact h
theorem e_ifF {p q : Prop} (h : q) : (if false = true then p else q) := by rw [if_neg (by decide)]; exact h
end
theorem for_inv {gd : SH → Prop} {g : MG} {b : MS} {e : EndsD} (P : Env → SH → Prop) : ∀ (xs : List D),
    (∀ x ∈ xs, ∀ (δ : Env) (c : SH) (e' : EndsD), P δ c → (∀ δ c, P δ c → e'.nx δ c) → (∀ δ c, P δ c → e'.ct δ c) → e'.rt = e.rt → e'.xc = e.xc → e'.bk = e.nx → gd c ∧ g x δ c (e.x δ) fun δ1 c1 => b δ1 c1 e') → (∀ δ c, P δ c → gd c ∧ e.nx δ c) → ∀ δ c, P δ c → forD gd g b xs δ c e
  | [], _, fin, δ, c, h => fin δ c h
  | x :: xs, step, fin, δ, c, h => by
    have go := for_inv P xs (fun y hy => step y (List.mem_cons_of_mem _ hy)) fin
    exact step x List.mem_cons_self δ c _ h (fun δ c h => go δ c h) (fun δ c h => go δ c h) rfl rfl rfl
theorem lc_map {α : Type} {gd : SH → Prop} {turn : D → SH → (Option D → SH → Prop) → Prop} {Φ : List D → SH → Prop} {c : SH} (F : α → D) (f : α → Option D) (hg : gd c) : ∀ (ys : List α) (acc : List D), acc.length + ys.length < sizeLine → (∀ y ∈ ys, ∀ k, k (f y) c → turn (F y) c k) → Φ (acc ++ ys.filterMap f) c → lcD gd turn (ys.map F) acc c Φ
  | [], acc, _, _, q => ⟨hg, by simpa using q⟩
  | y :: ys, acc, hl, step, q => by
    refine ⟨hg, step y List.mem_cons_self _ ⟨by simp at hl; omega, lc_map F f hg ys _ ?_ (fun z hz => step z (List.mem_cons_of_mem _ hz)) ?_⟩⟩
    · simp at hl ⊢
      cases f y <;> simp <;> omega
    · rw [List.append_assoc]
      have e : (f y).toList ++ ys.filterMap f = (y :: ys).filterMap f := by
        cases h : f y <;> simp [List.filterMap_cons, h]
      rw [e]
      exact q
end M
set_option Elab.async false
set_option linter.all false
set_option maxRecDepth 100000
set_option maxHeartbeats 3900000
namespace M
open PySem PySem.Spec PyProof.Rows L2 G
theorem e_ifNT {p q : Prop} (h : q) : (if (!true) = true then p else q) := by rw [if_neg (by decide)]; exact h
theorem e_ifNF {p q : Prop} (h : p) : (if (!false) = true then p else q) := by rw [if_pos (by decide)]; exact h
section
variable {K : PySem.W.Frag} {c : SH} {Φ : QD} {x : D} {C : Addr}
/-- isinstance(x, T) is known -/
def Isi (K : PySem.W.Frag) (c : SH) (x : D) (u : Value) (b : Bool) : Prop := ∀ k : Bool → Prop, k b → isi1 K (view c x) u k
theorem isi_ty {n m : String} {b : Bool} (h : tyD (view c x) = some n) (hk : PySem.W.kitOne K (.type n) (.type m) = some b) : Isi K c x (.type m) b := fun k q => by
  unfold isi1
  split
  · rename_i e; rw [e] at h; cases h
  · rw [h]; exact ⟨b, hk, q⟩
theorem e_isi {n : String} {b : Bool} (h : Isi K c x (.type n) b) (q : Φ (.bl b) c) : isiD K [x, .ty n] c Φ := h _ q
theorem e_py {y : D} {p p' : PyData} (h : scD x y = none) (h1 : pyC c x = some p) (h2 : pyC c y = some p') (s1 : SeqAt.shaped p = true) (s2 : SeqAt.shaped p' = true) (q : Φ (.bl (PyData.eqv p p')) c) : eqD x y c Φ := by
  unfold eqD eqB; rw [h, h1, h2]; exact ⟨⟨s1, s2⟩, q⟩
theorem e_pyN {y : D} {p p' : PyData} (h : scD x y = none) (h1 : pyC c x = some p) (h2 : pyC c y = some p') (s1 : SeqAt.shaped p = true) (s2 : SeqAt.shaped p' = true) (q : Φ (.bl (!PyData.eqv p p')) c) : neD x y c Φ := by
  unfold neD eqB; rw [h, h1, h2]; exact ⟨⟨s1, s2⟩, q⟩
theorem e_leI {a b : Int} (q : Φ (.bl (decide (a ≤ b))) c) : leD (.int a) (.int b) c Φ := q
theorem e_ltI {a b : Int} (q : Φ (.bl (decide (a < b))) c) : ltD (.int a) (.int b) c Φ := q
theorem e_gtI {a b : Int} (q : Φ (.bl (decide (b < a))) c) : gtD (.int a) (.int b) c Φ := q
theorem e_geI {a b : Int} (q : Φ (.bl (decide (b ≤ a))) c) : geD (.int a) (.int b) c Φ := q
theorem e_ltS {a b : Str} (q : Φ (.bl (decide (a.cps.toList < b.cps.toList))) c) : ltD (.str a) (.str b) c Φ := q
theorem e_eqI {a b : Int} (q : Φ (.bl (decide (a = b))) c) : eqD (.int a) (.int b) c Φ := q
theorem e_eqS {a b : Str} (q : Φ (.bl (decide (a = b))) c) : eqD (.str a) (.str b) c Φ := q
theorem e_neI {a b : Int} (q : Φ (.bl (!decide (a = b))) c) : neD (.int a) (.int b) c Φ := q
theorem e_neS {a b : Str} (q : Φ (.bl (!decide (a = b))) c) : neD (.str a) (.str b) c Φ := q
theorem e_neB {a b : Bool} (q : Φ (.bl (!decide (a = b))) c) : neD (.bl a) (.bl b) c Φ := q
theorem e_isB {a b : Bool} (q : Φ (.bl (decide (a = b))) c) : isD (.bl a) (.bl b) c Φ := q
theorem e_isntB {a b : Bool} (q : Φ (.bl (!decide (a = b))) c) : isntD (.bl a) (.bl b) c Φ := q
theorem e_addI {lv : Bool} {a b : Int} (q : Φ (.int (a + b)) c) : addD lv (.int a) (.int b) c Φ := q
theorem e_addL {a b : List D} (h : a.length + b.length ≤ sizeLine) (q : Φ (.lst (a ++ b)) c) : addD false (.lst a) (.lst b) c Φ := ⟨by rw [List.length_append]; exact h, e_ifF q⟩
theorem e_subI {a b : Int} (q : Φ (.int (a - b)) c) : subD (.int a) (.int b) c Φ := q
theorem e_mulS {lv : Bool} {z : Str} {n : Int} (h : 0 ≤ n ∧ n ≤ 100000 ∧ z.length * n.toNat ≤ 1000000) (q : Φ (.str (Txt.mul z n)) c) : mulD lv (.str z) (.int n) c Φ := ⟨h, q⟩
theorem e_modI {a b : Int} (h : b ≠ 0) (q : Φ (.int (a.fmod b)) c) : modD (.int a) (.int b) c Φ := ⟨h, q⟩
theorem e_int1 {a : Int} (q : Φ (.int a) c) : int1D [.int a] c Φ := q
theorem e_max2 {a b : Int} (q : Φ (.int (if b > a then b else a)) c) : max2D [.int a, .int b] c Φ := q
theorem e_min2 {a b : Int} (q : Φ (.int (if b < a then b else a)) c) : min2D [.int a, .int b] c Φ := q
theorem e_lenL {xs : List D} (q : Φ (.int xs.length) c) : lenD [.lst xs] c Φ := q
theorem e_lenT {xs : List D} (q : Φ (.int xs.length) c) : lenD [.tup xs] c Φ := q
theorem e_lenR {xs : List D} (q : Φ (.int xs.length) c) : lenD [.scr xs] c Φ := q
def jsK (ms : List ME) (acc : Str) (δ : Env) (Ψ : XD) (ΦS : Str → SH → Prop) (x : D) (c1 : SH) : Prop := match x with
  | .str y => (acc ++ y).length ≤ sizeLine ∧ jsD ms (acc ++ y) δ c1 Ψ ΦS
  | _ => False
def fmtK (Φ : QD) (x : D) (c1 : SH) : Prop := match x with
  | .str y => y.length ≤ sizeLine ∧ Φ (.str y) c1
  | .int i => i.natAbs.log2 < 1920 ∧ Φ (.str (toString i)) c1
  | _ => False
theorem e_js {ms : List ME} {δ : Env} {Ψ : XD} (h : jsD ms Str.empty δ c Ψ fun out c1 => Φ (.str out) c1) : jsM ms δ c Ψ Φ := h
theorem e_jsc {m : ME} {ms : List ME} {acc : Str} {δ : Env} {Ψ : XD} {ΦS : Str → SH → Prop} (h : m δ c Ψ (jsK ms acc δ Ψ ΦS)) : jsD (m :: ms) acc δ c Ψ ΦS := h
theorem e_jsn {acc : Str} {δ : Env} {Ψ : XD} {ΦS : Str → SH → Prop} (h : ΦS acc c) : jsD [] acc δ c Ψ ΦS := h
theorem e_fmt {a : ME} {δ : Env} {Ψ : XD} (h : a δ c Ψ (fmtK Φ)) : fmtM a δ c Ψ Φ := h
theorem e_yes {δ : Env} {Ψ : XD} {ΦT : Bool → SH → Prop} (h : ΦT true c) : yesM δ c Ψ ΦT := h
theorem e_turn {g : MG} {t : MT} {a : ME} {δ : Env} {k : Option D → SH → Prop} (h : g x δ c noX fun δ2 c2 => t δ2 c2 noX fun b c3 => if b = true then a δ2 c3 noX fun y c4 => k (some y) c4 else k none c3) : turnD g t a δ x c k := h
end
end M
set_option Elab.async false
set_option linter.all false
set_option maxRecDepth 100000
set_option maxHeartbeats 3900000
namespace M
open PySem PySem.Spec PyProof.Rows L2 G
end M
set_option Elab.async false
set_option linter.all false
set_option maxRecDepth 100000
set_option maxHeartbeats 3900000
namespace M
open PySem PySem.Spec PyProof.Rows L2 G
mutual
def pureD : D → Bool
  | .non => true
  | .bl _ => true
  | .int _ => true
  | .str _ => true
  | .lst xs => pureL xs
  | .tup xs => pureL xs
  | .ins _ fs => pureF fs
  | _ => false
def pureL : List D → Bool
  | [] => true
  | x :: xs => pureD x && pureL xs
def pureF : List (Str × D) → Bool
  | [] => true
  | (_, x) :: xs => pureD x && pureF xs
end
end M
set_option Elab.async false
set_option linter.all false
set_option maxRecDepth 100000
set_option maxHeartbeats 3900000
namespace M
open PySem PySem.Spec PyProof.Rows L2 G
def insC (C : Addr) : D → Bool
  | .ins C' _ => decide (C' = C)
  | _ => false
def itemX (C : Addr) (F : Fn) (x y : D) (c : SH) (k : Bool → Prop) : Prop := (pureD x = true ∧ pureD y = true ∧ insC C x = true ∧ insC C y = true) ∧ (x = y → k true) ∧ F [x, y] c noX fun v c' => c' = c ∧ ∃ b, v = .bl b ∧ k b
def eqLs (C : Addr) (F : Fn) : List D → List D → SH → (Bool → Prop) → Prop
  | [], [], _, k => k true
  | x :: xs, y :: ys, c, k => itemX C F x y c fun b => if b = true then eqLs C F xs ys c k else k false
  | _, _, _, _ => False
def rLX (K : PySem.W.Frag) (tb : List (Addr × Str)) (C : Addr) (F : Fn) : R2 := fun x y H Q => ∃ al G c dx dy xs ys Φ, Rep K tb al G c H ∧ Den K al G x dx ∧ Den K al G y dy ∧ view c dx = .lst xs ∧ view c dy = .lst ys ∧ (xs.length ≠ ys.length → Φ (.bl false) c) ∧ (xs.length = ys.length → eqLs C F xs ys c fun b => Φ (.bl b) c) ∧ Ret K tb al G c H Φ Q
theorem DenL.at {K : PySem.W.Frag} {al : List Addr} {G : Hp} : ∀ {vs : List V} {xs : List D}, DenL K al G vs xs → ∀ (i : Nat) (h1 : i < vs.length) (h2 : i < xs.length), Den K al G vs[i] xs[i]
  | _, _, .cons h r, 0, _, _ => h
  | _, _, .cons h r, i + 1, h1, h2 => DenL.at r i (Nat.lt_of_succ_lt_succ h1) (Nat.lt_of_succ_lt_succ h2)
theorem vals_at : ∀ {vs : List V} {us : List Value}, Vals vs us → ∀ (i : Nat) (h1 : i < vs.length) (h2 : i < us.length), RelV vs[i] us[i]
  | _, _, .cons h r, 0, _, _ => h
  | _, _, .cons h r, i + 1, h1, h2 => vals_at r i (Nat.lt_of_succ_lt_succ h1) (Nat.lt_of_succ_lt_succ h2)
def eqLX (C : Addr) (F : Fn) (x y : D) (c : SH) (Φ : QD) : Prop := match view c x, view c y with
  | .lst xs, .lst ys => (xs.length ≠ ys.length → Φ (.bl false) c) ∧ (xs.length = ys.length → eqLs C F xs ys c fun b => Φ (.bl b) c)
  | _, _ => False
theorem dop_eqLX {K : PySem.W.Frag} {tb : List (Addr × Str)} {C : Addr} {F : Fn} : DOp K tb (rLX K tb C F) (eqLX C F) := by
  intro al G c H x y dx dy Φ Q R hx hy m q
  unfold eqLX at m
  split at m
  · rename_i xs ys e1 e2
    exact ⟨al, G, c, dx, dy, xs, ys, Φ, R, hx, hy, e1, e2, m.1, m.2, q⟩
  · cases m
end M
set_option Elab.async false
set_option linter.all false
set_option maxRecDepth 100000
set_option maxHeartbeats 3900000
namespace M
open PySem PySem.Spec PyProof.Rows L2 G
section
variable {X : Cx} {k : Nat} {f C : Addr} {fd : FuncData} {ps : List Str} {sp : Sp}
def rLenX (C : Addr) (sp : Sp) : List V → Hp → VK → Prop := fun xs H Q => ∃ a dx fs, xs = [.ref a] ∧ H a = some (.ins C dx fs) ∧ sp [.ref a] H (fun v H' => ∃ n : Nat, v = .int (n : Int) ∧ n < 2 ^ 62 ∧ Q (.int (n : Int)) H') fun _ _ _ => False
end
def lenXD (C : Addr) (F : Fn) (xs : List D) (c : SH) (Φ : QD) : Prop := oneD xs fun x => match view c x with
  | .ins C' _ => C' = C ∧ F [x] c noX fun v c' => ∃ n : Nat, v = .int (n : Int) ∧ n < 2 ^ 62 ∧ Φ (.int (n : Int)) c'
  | _ => False
section
variable {K : PySem.W.Frag} {tb : List (Addr × Str)} {C : Addr} {F : Fn}
theorem dc_lenX : DCall K tb (rLenX C (SpG K tb F)) (lenXD C F) := by
  intro al G c H xs ds Φ Q R hd m q
  obtain ⟨x, v, rfl, rfl, dx, m2⟩ := oneD_of m hd
  have vx := R.vw dx
  split at m2
  · rename_i e
    rw [e] at vx
    obtain ⟨rfl, m2⟩ := m2
    cases vx with
    | ins h r =>
      refine ⟨_, _, _, rfl, h, al, G, c, _, noX, _, R, .cons dx .nil, m2, fun d c2 al2 G2 H2 w r2 l2 dn m3 => ?_, thr0⟩
      obtain ⟨n, rfl, hn, m3⟩ := m3
      cases dn
      exact ⟨n, rfl, hn, q _ c2 al2 G2 H2 _ r2 l2 (.int _) m3⟩
  · cases m2
end
end M
set_option Elab.async false
set_option linter.all false
set_option maxRecDepth 100000
set_option maxHeartbeats 3900000
namespace M
open PySem PySem.Spec PyProof.Rows L2 G
theorem Room.u1 {k : Nat} {A : Around} (hr : Room k A) : A.units + 1 < cLine := by have := hr.un; omega
def keyOD : Key → D
  | .inl i => .int i
  | .inr z => .str z
theorem keyOD_den {K : PySem.W.Frag} {al : List Addr} {G : Hp} : ∀ k : Key, Den K al G (kV k) (keyOD k)
  | .inl i => .int i
  | .inr z => .str z
theorem DenK.get {K : PySem.W.Frag} {al : List Addr} {G : Hp} : ∀ {vs : List (Key × V)} {ds : List (Key × D)} {i : Nat} {k : Key} {d : D}, DenK K al G vs ds → ds[i]? = some (k, d) → ∃ v, vs[i]? = some (k, v) ∧ Den K al G v d
  | _, _, i, _, d, .nil, e => by simp at e
  | _, _, 0, _, d, .cons h _, e => by simp at e; obtain ⟨rfl, rfl⟩ := e; exact ⟨_, rfl, h⟩
  | _, _, i + 1, _, d, .cons _ r, e => by
    obtain ⟨v, h1, h2⟩ := DenK.get (i := i) r (by simpa using e)
    exact ⟨v, by simpa using h1, h2⟩
def itemsM (a : ME) : MI := fun δ c Ψ Φ => a δ c Ψ fun x c1 => match x with
  | .dic kvs => Φ (kvs.map fun kv => .tup [keyOD kv.1, kv.2]) (fun _ => True) c1
  | _ => False
def valuesM (a : ME) : MI := fun δ c Ψ Φ => a δ c Ψ fun x c1 => match x with
  | .dic kvs => Φ (kvs.map (·.2)) (fun _ => True) c1
  | _ => False
section
variable {K : PySem.W.Frag} {tb : List (Addr × Str)} {W : WX} {ta tv ty : TE} {a b mv : ME}
theorem snd_items (ha : SndE K tb W ta a) : SndI K tb W (iItems ta) (itemsM a) := by
  intro al G c H σ δ Ψ Φ R g m q
  refine ha al G c H σ δ Ψ _ _ g m fun x c1 al1 G1 H1 v r1 l1 d1 m1 => ?_
  split at m1
  · rename_i kvs
    cases d1 with
    | dic h r =>
      refine ⟨_, _, _, rfl, r1.sub _ _ h, q _ _ c1 al1 G1 H1 _ r1 l1 ⟨fun i y al2 G2 c2 H2 hy r2 l2 _ => ⟨r2.sub _ _ (l2.g _ _ h), ?_⟩, fun i y al2 G2 c2 H2 u H' hy r2 l2 _ yl => ?_, fun al2 G2 c2 H2 r2 l2 _ => ⟨r2.sub _ _ (l2.g _ _ h), ?_⟩⟩ m1⟩
      · have := (List.getElem?_eq_some_iff.mp hy).1
        rw [List.length_map] at this
        rw [r.length]
        exact this
      · rw [List.getElem?_map] at hy
        obtain ⟨⟨k, d⟩, h1, h2⟩ := Option.map_eq_some_iff.mp hy
        cases h2
        obtain ⟨w, h3, h4⟩ := r.get h1
        obtain ⟨T, k', v', hk, rfl, hT, rfl⟩ := yl
        rw [h3] at hk
        cases hk
        obtain ⟨p1, p2, p3⟩ := pair_new (vs := [kV k, w]) (ds := [keyOD k, d]) r2 hT (.cons (keyOD_den k) (.cons (h4.le l2) .nil))
        exact ⟨_, p1, p2, p3⟩
      · rw [List.length_map, r.length]
        exact Nat.le_refl _
  · cases m1
theorem snd_values (ha : SndE K tb W ta a) : SndI K tb W (iVals ta) (valuesM a) := by
  intro al G c H σ δ Ψ Φ R g m q
  refine ha al G c H σ δ Ψ _ _ g m fun x c1 al1 G1 H1 v r1 l1 d1 m1 => ?_
  split at m1
  · rename_i kvs
    cases d1 with
    | dic h r =>
      refine ⟨_, _, _, rfl, r1.sub _ _ h, q _ _ c1 al1 G1 H1 _ r1 l1 ⟨fun i y al2 G2 c2 H2 hy r2 l2 _ => ⟨r2.sub _ _ (l2.g _ _ h), ?_⟩, fun i y al2 G2 c2 H2 u H' hy r2 l2 _ yl => ?_, fun al2 G2 c2 H2 r2 l2 _ => ⟨r2.sub _ _ (l2.g _ _ h), ?_⟩⟩ m1⟩
      · have := (List.getElem?_eq_some_iff.mp hy).1
        rw [List.length_map] at this
        rw [r.length]
        exact this
      · rw [List.getElem?_map] at hy
        obtain ⟨⟨k, d⟩, h1, h2⟩ := Option.map_eq_some_iff.mp hy
        cases h2
        obtain ⟨w, h3, h4⟩ := r.get h1
        obtain ⟨rfl, k', hk⟩ := yl
        rw [h3] at hk
        cases hk
        exact ⟨G2, r2, .refl, h4.le l2⟩
      · rw [List.length_map, r.length]
        exact Nat.le_refl _
  · cases m1
def gtupnM (n : Nat) (g : MGs) : MG := fun x δ c _ N => match view c x with
  | .tup xs => xs.length = n ∧ g xs δ c noX N
  | _ => False
def gconsXM (m : MG) (g : MGs) : MGs := fun xs δ c _ N => match xs with
  | x :: r => m x δ c noX fun δ1 c1 => g r δ1 c1 noX N
  | [] => False
theorem sgo_tupn {vs : List Nat} {n : Nat} {g : TGs} {mg : MGs} (hg : SndGOs K tb vs g mg) : SndGO K tb W vs (gTup K n g) (gtupnM n mg) := by
  intro al G c H σ δ Ψ v x N R go d m q
  have vx := go.rep.vw d
  unfold gtupnM at m
  split at m
  · rename_i xs e
    rw [e] at vx
    cases vx with
    | tup h1 dn => exact ⟨_, _, rfl, .of h1, by rw [dn.length]; exact m.1, hg al G c H σ δ _ _ N R go.rep go.env dn m.2 q⟩
  · cases m
theorem sgo_consX {vs : List Nat} {tg : TG} {m : MG} {g : TGs} {mg : MGs} (hm : SndGO K tb (fun _ _ _ _ => False) vs tg m) (hg : SndGOs K tb vs g mg) : SndGOs K tb vs (gCons tg g) (gconsXM m mg) := by
  intro al G c H σ δ v x N R r s d mm q
  cases d with
  | nil => cases mm
  | cons d1 d2 =>
    refine ⟨_, _, rfl, ?_⟩
    refine hm al G c H σ δ noX _ _ _ _ ⟨r, s, thr0⟩ d1 mm fun δ1 c1 al1 G1 H1 σ1 r1 l1 s1 w1 m1 => ?_
    exact hg al1 G1 c1 H1 _ _ _ _ N R r1 s1 (d2.le l1) m1 fun δ' c' al' G' H' σ' r' l' s' w' n' => q δ' c' al' G' H' σ' r' (l1.trans l') s' (w'.trans w1) n'
def dcD (gd : SH → Prop) (turn : D → SH → (Option (Key × D) → SH → Prop) → Prop) : List D → List (Key × D) → SH → (List (Key × D) → SH → Prop) → Prop
  | [], acc, c, Φ => gd c ∧ Φ acc c
  | x :: xs, acc, c, Φ => gd c ∧ turn x c fun o c1 => acc.length < sizeLine ∧ dcD gd turn xs (match o with
    | some kv => putKD acc kv.1 kv.2
    | none => acc) c1 Φ
def turnK (g : MG) (t : MT) (k e : ME) (δ : Env) : D → SH → (Option (Key × D) → SH → Prop) → Prop := fun x c kk => g x δ c noX fun δ2 c2 => t δ2 c2 noX fun b c3 => if b = true then k δ2 c3 noX fun y c4 => e δ2 c4 noX fun z c5 => (match keyD y with
  | some j => kk (some (j, z)) c5
  | none => False) else kk none c3
def dcM (lv : Bool) (i : MI) (g : MG) (t : MT) (k e : ME) (vs : List Nat) : ME := fun δ c Ψ Φ => i δ c Ψ fun xs gd c1 => dcD gd (turnK g t k e (wipeD δ vs)) xs [] c1 fun kvs c2 => newK lv kvs c2 Φ
theorem dc_go {wi : TI} {mi : MI} {g : TG} {mg : MG} {tt : TT} {mt : MT} {tk te : TE} {mk me : ME} {vs : List Nat} (hi : SndI K tb W wi mi) (hg : SndGO K tb W0 vs g mg) (ht : SndT K tb W0 tt mt) (hk : SndE K tb W0 tk mk) (he : SndE K tb W0 te me)
    {al G c H σ δ Ψ} {Φ : List (Key × D) → SH → Prop} {Q : VK} (go : Go K tb al G c H W σ δ Ψ) (m : mi δ c Ψ fun xs gd c1 => dcD gd (turnK mg mt mk me (wipeD δ vs)) xs [] c1 Φ)
    (q : ∀ D kvs avs al' G' c' H', Rep K tb al' G' c' H' → Le al G c H al' G' c' H' → Apart al' G' c' D → Fr H D → H' D = some (.dK avs) → DenK K al' G' avs kvs → Φ kvs c' → Q (.ref D) H') : tDc wi g tt tk te vs σ H Q := by
  refine hi al G c H σ δ Ψ _ _ go m fun xs gd c1 al1 G1 H1 J r1 l1 it m1 => ?_
  intro D hD
  have e1 : SRel K al1 G1 σ δ := go.env.le l1
  refine ⟨fun i n H2 => n = xs.length - i ∧ i ≤ xs.length ∧ ∃ al2 G2 c2 acc avs, Rep K tb al2 G2 c2 H2 ∧ Le al1 G1 c1 H1 al2 G2 c2 H2 ∧ Apart al2 G2 c2 D ∧ H2 D = some (.dK avs) ∧ DenK K al2 G2 avs acc ∧ dcD gd (turnK mg mt mk me (wipeD δ vs)) (xs.drop i) acc c2 Φ, ⟨_, rfl, Nat.zero_le _, al1, G1, c1, [], [], r1.grow (Ex.new hD), Le.grow (Ex.new hD), Apart.new r1 hD, upd_same, .nil, m1⟩, ?_⟩
  rintro i n H2 ⟨rfl, hle, al2, G2, c2, acc, avs, r2, l2, ap2, h2, d2, m2⟩
  by_cases hlt : i < xs.length
  · rw [drop_get hlt] at m2
    obtain ⟨hgd, m2⟩ := m2
    have hx : xs[i]? = some xs[i] := List.getElem?_eq_getElem hlt
    refine .inr ⟨it.go i _ al2 G2 c2 H2 hx r2 l2 hgd, fun H3 => ∃ al3 G3 c3 acc3 avs3, Rep K tb al3 G3 c3 H3 ∧ Le al1 G1 c1 H1 al3 G3 c3 H3 ∧ Apart al3 G3 c3 D ∧ H3 D = some (.dK avs3) ∧ DenK K al3 G3 avs3 acc3 ∧ dcD gd (turnK mg mt mk me (wipeD δ vs)) (xs.drop (i + 1)) acc3 c3 Φ, ?_, ?_⟩
    · rintro H3 ⟨al3, G3, c3, acc3, avs3, r3⟩
      exact ⟨xs.length - (i + 1), by omega, rfl, hlt, al3, G3, c3, acc3, avs3, r3⟩
    · intro v H' y
      obtain ⟨G', r', l', d'⟩ := it.yl i _ al2 G2 c2 H2 v H' hx r2 l2 hgd y
      obtain ⟨ap', h'⟩ := ap2.le h2 nofun l'
      have go' : Go K tb al2 G' c2 H' W0 (wipe σ vs) (wipeD δ vs) noX := ⟨r', ((e1.le l2).le l').wipe vs, thr0⟩
      refine hg al2 G' c2 H' _ _ noX v _ _ _ go' d' m2 fun δ3 c3 al3 G3 H3 σ3 r3 l3 s3 w3 m3 => ?_
      rw [wipe_wipe] at w3
      refine ⟨w3, ?_⟩
      have go3 : Go K tb al3 G3 c3 H3 W0 σ3 δ3 noX := ⟨r3, s3, thr0⟩
      refine ht al3 G3 c3 H3 σ3 δ3 noX _ _ go3 m3 fun b c4 al4 G4 H4 r4 l4 m4 => ?_
      have l24 := (l'.trans l3).trans l4
      cases b with
      | false =>
        obtain ⟨ap4, h4⟩ := ap2.le h2 nofun l24
        exact iteF ⟨al4, G4, c4, acc, avs, r4, l2.trans l24, ap4, h4, d2.mono l24.ad l24.g, m4.2⟩
      | true =>
        refine iteT (hk al4 G4 c4 H4 σ3 δ3 noX _ _ (go3.le r4 l4) m4 fun y c5 al5 G5 H5 w r5 l5 d5 m5 => ?_)
        refine he al5 G5 c5 H5 σ3 δ3 noX _ _ ((go3.le r4 l4).le r5 l5) m5 fun z c6 al6 G6 H6 u r6 l6 d6 m6 => ?_
        have l26 := (l24.trans l5).trans l6
        obtain ⟨ap6, h6⟩ := ap2.le h2 nofun l26
        split at m6
        · rename_i j ej
          have hl := m6.1
          have d26 : DenK K al6 G6 avs acc := d2.mono l26.ad l26.g
          refine ⟨avs, j, key_den d5 ej, h6, by rw [d2.length]; exact hl, al6, G6, c6, putKD acc j z, putK avs j u, r6.foreign h6 nofun nofun ap6.g ap6.liv ap6.k, (l2.trans l26).foreign (.of hD) nofun, ap6, upd_same, d26.put d6, m6.2⟩
        · cases m6
  · have hi2 : i = xs.length := by omega
    subst hi2
    rw [List.drop_length] at m2
    obtain ⟨hgd, m2⟩ := m2
    refine .inl ⟨it.st al2 G2 c2 H2 r2 l2 hgd, q D acc avs al2 G2 c2 H2 r2 (l1.trans l2) ap2 (l1.dom _ (.of hD)) h2 d2 m2⟩
theorem snd_dcE {wi : TI} {mi : MI} {g : TG} {mg : MG} {tt : TT} {mt : MT} {tk te : TE} {mk me : ME} {vs vs' : List Nat} (e : vs' = vs) (hi : SndI K tb W wi mi) (hg : SndGO K tb (fun _ _ _ _ => False) vs g mg) (ht : SndT K tb (fun _ _ _ _ => False) tt mt) (hk : SndE K tb (fun _ _ _ _ => False) tk mk) (he : SndE K tb (fun _ _ _ _ => False) te me) : SndE K tb W (tLk (tDc wi g tt tk te vs')) (dcM false mi mg mt mk me vs) := by
  subst e
  intro al G c H σ δ Ψ Φ Q go m q
  exact dc_go hi hg ht hk he go m fun D kvs avs al' G' c' H' r' l' ap' fr hD dn m' => lk_of r' ap' hD dn l' fr q (newK_f m')
def dputM (o i v : ME) : MS := fun δ c e => v δ c (e.x δ) fun z c1 => o δ c1 (e.x δ) fun x c2 => i δ c2 (e.x δ) fun y c3 => match x, keyD y with
  | .obj k, some j => (match c3[k]? with
    | some (.dic kvs) => kvs.length < sizeLine ∧ e.nx δ (c3.set k (.dic (putKD kvs j z)))
    | _ => False)
  | _, _ => False
theorem snd_dput (ho : SndE K tb W ta a) (hi : SndE K tb W ty b) (hv : SndE K tb W tv mv) : SndS K tb W (sDPut ta ty tv) (dputM a b mv) := by
  intro al G c H σ δ e D R s mm q
  refine hv al G c H σ δ (e.x δ) _ _ (q.go R s) mm fun z c1 al1 G1 H1 w r1 l1 d1 m1 => ?_
  refine ho al1 G1 c1 H1 σ δ (e.x δ) _ _ ((q.le l1).go r1 (s.le l1)) m1 fun x c2 al2 G2 H2 v r2 l2 d2 m2 => ?_
  refine hi al2 G2 c2 H2 σ δ (e.x δ) _ _ ((q.le (l1.trans l2)).go r2 (s.le (l1.trans l2))) m2 fun y c3 al3 G3 H3 u r3 l3 d3 m3 => ?_
  split at m3
  · rename_i k j ej
    split at m3
    · rename_i kvs hs
      cases d2 with
      | obj hk =>
        have hk3 := l3.ad _ _ hk
        obtain ⟨vs, h1, h2⟩ := r3.ent k _ _ hk3 hs
        refine ⟨_, _, rfl, .inl ⟨vs, j, h1, key_den d3 ej, by rw [h2.length]; exact m3.1, rfl⟩, ?_⟩
        have en : DenK K al3 G3 (putK vs j w) (putKD kvs j z) := h2.put (d1.le (l2.trans l3))
        have r4 := r3.change (u := .dK (putK vs j w)) hk3 hs rfl (o := .dic (putKD kvs j z)) ⟨_, upd_same, en⟩ rfl
        have l4 := Le.change (o := .dic (putKD kvs j z)) r3 hk3 hs rfl (u := .dK (putK vs j w)) nofun
        have l14 := ((l1.trans l2).trans l3).trans l4
        exact q.nx δ _ _ _ _ σ r4 l14 (s.le l14) m3.2
    · cases m3
  · cases m3
def rDictU (K : PySem.W.Frag) : List V → Hp → VK → Prop := fun xs H Q => (∃ (a : Addr) (kvs : List (Key × V)), xs = [.ref a] ∧ Rd H a (.dK kvs) ∧ ∀ p, H p = none → Q (.ref p) (upd H p (.dK kvs))) ∨
  ∃ (a : Addr) (ps : List Addr) (kvs : List (Key × V)), xs = [.ref a] ∧ SqL K H a (ps.map V.ref) ∧ Paired (fun p kv => SqT K H p [kV kv.1, kv.2]) ps kvs ∧ ∀ p, H p = none → Q (.ref p) (upd H p (.dK (mergeK [] kvs)))
def pairsD : List D → Option (List (Key × D))
  | [] => some []
  | .tup [x, y] :: r => match keyD x, pairsD r with
    | some k, some kvs => some ((k, y) :: kvs)
    | _, _ => none
  | _ => none
theorem pairs_den {al : List Addr} {G H : Hp} (ex : Ex G H) : ∀ {vs : List V} {ds : List D} {kvs : List (Key × D)}, DenL K al G vs ds → pairsD ds = some kvs → ∃ (ps : List Addr) (us : List (Key × V)), vs = ps.map V.ref ∧ Paired (fun p kv => SqT K H p [kV kv.1, kv.2]) ps us ∧ DenK K al G us kvs
  | _, _, _, .nil, e => by cases e; exact ⟨[], [], rfl, .nil, .nil⟩
  | _, _, kvs, .cons (d := d) h r, e => by
    unfold pairsD at e
    split at e
    · rename_i he; cases he
    · rename_i x y r' he
      cases he
      split at e
      · rename_i k ks e1 e2
        cases e
        obtain ⟨ps, us, rfl, pr, dn⟩ := pairs_den ex r e2
        cases h with
        | tup hg hl =>
          cases hl with
          | cons hx hl =>
            cases hl with
            | cons hy hl =>
              cases hl
              have ek := key_den hx e1
              subst ek
              exact ⟨_ :: ps, (k, _) :: us, rfl, .cons (.of (ex _ _ hg)) pr, .cons hy dn⟩
      · cases e
    · cases e
def dictD (xs : List D) (c : SH) (k : List (Key × D) → Prop) : Prop := oneD xs fun x => match view c x with
  | .dic kvs => k kvs
  | .lst ys => (match pairsD ys with
    | some kvs => k (mergeD [] kvs)
    | none => False)
  | _ => False
def dictM (lv : Bool) (A : MA) : ME := fun δ c Ψ Φ => A δ c Ψ fun xs c1 => dictD xs c1 fun kvs => newK lv kvs c1 Φ
theorem dict_go {al : List Addr} {G : Hp} {c : SH} {H : Hp} {vs : List V} {ds : List D} {k : List (Key × D) → Prop} {Q : VK} (R : Rep K tb al G c H) (dn : DenL K al G vs ds) (m : dictD ds c k) (q : ∀ p us kvs, H p = none → DenK K al G us kvs → k kvs → Q (.ref p) (upd H p (.dK us))) : rDictU K vs H Q := by
  obtain ⟨x, v, rfl, rfl, dx, m2⟩ := oneD_of m dn
  have vx := R.vw dx
  split at m2
  · rename_i kvs e
    rw [e] at vx
    cases vx with
    | dic h r => exact .inl ⟨_, _, rfl, h, fun p hp => q p _ kvs hp r m2⟩
  · rename_i ys e
    rw [e] at vx
    split at m2
    · rename_i kvs e2
      cases vx with
      | lst h r =>
        obtain ⟨ps, us, rfl, pr, dk⟩ := pairs_den R.sub r e2
        exact .inr ⟨_, ps, us, rfl, .of h, pr, fun p hp => q p _ _ hp (dk.merge .nil) m2⟩
    · cases m2
  · cases m2
variable {tA : TA} {mA : MA}
theorem snd_dict (hA : SndA K tb W tA mA) : SndE K tb W (tCB (rDictU K) tA) (dictM true mA) := by
  intro al G c H σ δ Ψ Φ Q g m q
  refine hA al G c H σ δ Ψ _ _ g m fun xs c1 al1 G1 H1 vs r1 l1 d1 m1 => ?_
  exact dict_go r1 d1 m1 fun p us kvs hp dk mk => newK_ok r1 hp dk mk (q.le l1)
theorem snd_dictL (hA : SndA K tb W tA mA) : SndE K tb W (tLk (tCB (rDictU K) tA)) (dictM false mA) := by
  intro al G c H σ δ Ψ Φ Q g m q
  refine hA al G c H σ δ Ψ _ _ g m fun xs c1 al1 G1 H1 vs r1 l1 d1 m1 => ?_
  exact dict_go r1 d1 m1 fun p us kvs hp dk mk => lk_new r1 hp dk (q.le l1) (newK_f mk)
def rSortedK (K : PySem.W.Frag) : List V → Hp → VK → Prop := fun xs H Q => ∃ (a : Addr) (kvs : List (Key × V)) (ks : List Str), xs = [.ref a] ∧ Rd H a (.dK kvs) ∧ kvs.map (·.1) = ks.map Sum.inr ∧ ks.length < 64 ∧
    ∀ ys p, ys.Perm ks → sortedS ys = true → H p = none → Q (.ref p) (upd H p (.lst (ys.map V.str)))
def keysS : List (Key × D) → Option (List Str)
  | [] => some []
  | (.inr z, _) :: r => (keysS r).map (z :: ·)
  | _ => none
theorem keysS_den {al : List Addr} {G : Hp} : ∀ {vs : List (Key × V)} {ds : List (Key × D)} {ks : List Str}, DenK K al G vs ds → keysS ds = some ks → vs.map (·.1) = ks.map Sum.inr
  | _, _, _, .nil, e => by cases e; rfl
  | _, _, ks, .cons (k := k) h r, e => by
    cases k with
    | inl i => cases e
    | inr z =>
      simp only [keysS] at e
      obtain ⟨zs, e1, rfl⟩ := Option.map_eq_some_iff.mp e
      rw [List.map_cons, List.map_cons, keysS_den r e1]
def sortedKD (lv : Bool) (xs : List D) (c : SH) (Φ : QD) : Prop := oneD xs fun x => match view c x with
  | .dic kvs => ∃ ks, keysS kvs = some ks ∧ ks.length < 64 ∧ ∀ ys, ys.Perm ks → sortedS ys = true → newL lv (ys.map .str) c Φ
  | _ => False
theorem dc_sortK {lv : Bool} : DCall K tb (rSortedK K) (sortedKD lv) := by
  intro al G c H xs ds Φ Q R hd m q
  obtain ⟨x, v, rfl, rfl, dx, m2⟩ := oneD_of m hd
  have vx := R.vw dx
  split at m2
  · rename_i kvs e
    rw [e] at vx
    obtain ⟨ks, e2, h64, m2⟩ := m2
    cases vx with
    | dic h r => exact ⟨_, _, ks, rfl, h, keysS_den r e2, h64, fun ys p hp hs hn => newL_ok R hn (DenL.strs ys) (m2 ys hp hs) q⟩
  · cases m2
def maxLD (xs : List D) (c : SH) (Φ : QD) : Prop := oneD xs fun x => match lstD (view c x) with
  | some ys => ∃ zs, intsD ys = some zs ∧ 0 < zs.length ∧ ∀ m, m ∈ zs → (∀ y, y ∈ zs → y ≤ m) → Φ (.int m) c
  | none => False
def minLD (xs : List D) (c : SH) (Φ : QD) : Prop := oneD xs fun x => match lstD (view c x) with
  | some ys => ∃ zs, intsD ys = some zs ∧ 0 < zs.length ∧ ∀ m, m ∈ zs → (∀ y, y ∈ zs → m ≤ y) → Φ (.int m) c
  | none => False
theorem dc_maxL : DCall K tb (rMaxU K) (orC max2D maxLD) := by
  intro al G c H xs ds Φ Q R hd m q
  rcases m with m | m
  · exact dc_max2 al G c H xs ds Φ Q R hd m q
  · obtain ⟨x, v, rfl, rfl, dx, m2⟩ := oneD_of m hd
    split at m2
    · rename_i ys e
      obtain ⟨b, vs, rfl, h1, h2⟩ := lst_vw e (R.vw dx)
      obtain ⟨zs, e2, h0, m2⟩ := m2
      rw [ints_den h2 e2] at h1
      exact .inr ⟨b, zs, rfl, h1, h0, fun m hm hy => q _ c al G H _ R .refl (.int _) (m2 m hm hy)⟩
    · cases m2
theorem dc_minL : DCall K tb (rMinU K) (orC min2D minLD) := by
  intro al G c H xs ds Φ Q R hd m q
  rcases m with m | m
  · exact dc_min2 al G c H xs ds Φ Q R hd m q
  · obtain ⟨x, v, rfl, rfl, dx, m2⟩ := oneD_of m hd
    split at m2
    · rename_i ys e
      obtain ⟨b, vs, rfl, h1, h2⟩ := lst_vw e (R.vw dx)
      obtain ⟨zs, e2, h0, m2⟩ := m2
      rw [ints_den h2 e2] at h1
      exact .inr ⟨b, zs, rfl, h1, h0, fun m hm hy => q _ c al G H _ R .refl (.int _) (m2 m hm hy)⟩
    · cases m2
end
end M
set_option Elab.async false
set_option linter.all false
set_option maxRecDepth 100000
set_option maxHeartbeats 3900000
namespace G
open PySem PySem.Spec PyProof.Rows L2
end G
namespace M
open PySem PySem.Spec PyProof.Rows L2 G
def toldD (x : D) : D := .lst [.str (Str.ofString "told"), x]
def caseM (K : PySem.W.Frag) (hs : Hds) (lam : ME) (rest : Fn) (a b d : ME) : ME := fun δ c Ψ Φ => a δ c Ψ fun p1 c1 => b δ c1 Ψ fun p2 c2 => d δ c2 Ψ fun p3 c3 =>
  lam (δ ++ [some p1]) c3 (fun C g x c' => dealD K hs C g x c' fun fd c'' => rest [p1, p2, p3, fd] c'' noX Φ) fun x c' => rest [p1, p2, p3, toldD x] c' noX Φ
end M
set_option Elab.async false
set_option linter.all false
set_option maxRecDepth 100000
set_option maxHeartbeats 3900000
namespace M
open PySem PySem.Spec PyProof.Rows L2 G
section
variable {K : PySem.W.Frag} {c : SH} {Ψ : XD} {Φ : QD}
theorem e_ixT {x : D} {xs : List D} {i : Int} (h : atI xs i = some x) (q : Φ x c) : ixD (.tup xs) (.int i) c Φ := by
  show (match atI xs i with | some d => Φ d c | none => False)
  rw [h]
  exact q
theorem e_ixL {x : D} {xs : List D} {i : Int} (h : atI xs i = some x) (q : Φ x c) : ixD (.lst xs) (.int i) c Φ := by
  show (match atI xs i with | some d => Φ d c | none => False)
  rw [h]
  exact q
theorem e_ix0 {x : D} {xs : List D} (q : Φ x c) : ixD (.tup (x :: xs)) (.int 0) c Φ := e_ixT (atI_nat (j := 0) rfl) q
theorem e_ix1 {x y : D} {xs : List D} (q : Φ y c) : ixD (.tup (x :: y :: xs)) (.int 1) c Φ := e_ixT (atI_nat (j := 1) rfl) q
theorem len_le {n : Nat} (h : n ≤ 1000) : n ≤ sizeLine := Nat.le_trans h (by decide)
theorem pyWL_strs (ob : Nat → Option PyData) : ∀ xs : List Str, pyWL ob (xs.map .str) = some (xs.map PyData.str)
  | [] => rfl
  | x :: xs => by simp only [List.map_cons, pyWL, pyW, pyWL_strs ob xs]
theorem e_dnew {δ : M.Env} (q : Φ (.dic []) c) : dnewM false δ c Ψ Φ := by show newK false [] c Φ; unfold newK; exact e_ifF q
theorem box_len {i n : Nat} (hb : c[i]? = some (.box n)) : i < c.length := (List.getElem?_eq_some_iff.mp hb).1
theorem box_set {i n : Nat} {o : SO} (hb : c[i]? = some (.box n)) : (c.set i o)[i]? = some o := by
  rw [List.getElem?_set, if_pos rfl, if_pos (box_len hb)]
theorem e_gtup2 {x y : D} {i j : Nat} {δ : M.Env} {N : M.Env → SH → Prop} (q : N ((δ.set i (some x)).set j (some y)) c) : gtupM (gconsM i (gconsM j gnilM)) (.tup [x, y]) δ c Ψ N := ⟨rfl, q⟩
theorem for_ix {gd : SH → Prop} {g : MG} {b : MS} {e : EndsD} (P : Nat → M.Env → SH → Prop) (K0 : Nat) : ∀ (xs : List D) (k : Nat), k + xs.length ≤ K0 →
    (∀ x ∈ xs, ∀ (k : Nat) (δ : M.Env) (c : SH) (e' : EndsD), k < K0 → P k δ c → (∀ δ c, P (k + 1) δ c → e'.nx δ c) → gd c ∧ g x δ c (e.x δ) fun δ1 c1 => b δ1 c1 e') → (∀ δ c, P (k + xs.length) δ c → gd c ∧ e.nx δ c) → ∀ δ c, P k δ c → forD gd g b xs δ c e
  | [], k, _, _, fin, δ, c, h => fin δ c h
  | x :: xs, k, hk, step, fin, δ, c, h => by
    have go := for_ix P K0 xs (k + 1) (by simp at hk; omega) (fun y hy => step y (List.mem_cons_of_mem _ hy)) (fun δ c h => fin δ c (by rw [List.length_cons, show k + (xs.length + 1) = k + 1 + xs.length by omega]; exact h))
    exact step x List.mem_cons_self k δ c _ (by simp at hk; omega) h (fun δ c h => go δ c h)
end
end M
set_option Elab.async false
set_option linter.all false
set_option maxRecDepth 100000
set_option maxHeartbeats 3900000
namespace M
open PySem PySem.Spec PyProof.Rows L2 G
section
variable {K : PySem.W.Frag} {δ : Env} {c : SH} {Ψ : XD} {Φ : QD} {a b k e : ME} {A : MA} {g : MG} {t : MT} {mi : MI} {x y : D} {ΦI : List D → (SH → Prop) → SH → Prop} {kvs : List (Key × D)}
theorem e_sz {α : Type} {xs : List α} {p : Prop} (h : Nat.ble xs.length sizeLine = true) (q : p) : xs.length ≤ sizeLine ∧ p := ⟨Nat.le_of_ble_eq_true h, q⟩
theorem e_ixL0 {xs : List D} (q : Φ x c) : ixD (.lst (x :: xs)) (.int 0) c Φ := e_ixL (atI_nat (j := 0) rfl) q
theorem e_ixL1 {x y : D} {xs : List D} (q : Φ y c) : ixD (.lst (x :: y :: xs)) (.int 1) c Φ := e_ixL (atI_nat (j := 1) rfl) q
theorem e_ixL2 {x y z : D} {xs : List D} (q : Φ z c) : ixD (.lst (x :: y :: z :: xs)) (.int 2) c Φ := e_ixL (atI_nat (j := 2) rfl) q
def itMK (ΦI : List D → (SH → Prop) → SH → Prop) (x : D) (c : SH) : Prop := match itemsD (view c x) with
  | some xs => ΦI xs (fun c' => view c' x = view c x) c
  | none => False
theorem e_itM (h : a δ c Ψ (itMK ΦI)) : itM a δ c Ψ ΦI := h
theorem e_itL {xs : List D} (h : ΦI xs (fun c' => view c' (.lst xs) = view c (.lst xs)) c) : itMK ΦI (.lst xs) c := h
theorem e_itT {xs : List D} (h : ΦI xs (fun c' => view c' (.tup xs) = view c (.tup xs)) c) : itMK ΦI (.tup xs) c := h
def itemsK (ΦI : List D → (SH → Prop) → SH → Prop) (x : D) (c : SH) : Prop := match x with
  | .dic kvs => ΦI (kvs.map fun kv => .tup [keyOD kv.1, kv.2]) (fun _ => True) c
  | _ => False
def valuesK (ΦI : List D → (SH → Prop) → SH → Prop) (x : D) (c : SH) : Prop := match x with
  | .dic kvs => ΦI (kvs.map (·.2)) (fun _ => True) c
  | _ => False
theorem e_itemsM (h : a δ c Ψ (itemsK ΦI)) : itemsM a δ c Ψ ΦI := h
theorem e_valuesM (h : a δ c Ψ (valuesK ΦI)) : valuesM a δ c Ψ ΦI := h
theorem e_itemsD (h : ΦI (kvs.map fun kv => .tup [keyOD kv.1, kv.2]) (fun _ => True) c) : itemsK ΦI (.dic kvs) c := h
theorem e_valuesD (h : ΦI (kvs.map (·.2)) (fun _ => True) c) : valuesK ΦI (.dic kvs) c := h
theorem e_dc {vs : List Nat} (h : mi δ c Ψ fun xs gd c1 => dcD gd (turnK g t k e (wipeD δ vs)) xs [] c1 fun kvs c2 => newK false kvs c2 Φ) : dcM false mi g t k e vs δ c Ψ Φ := h
theorem e_lenD (q : Φ (.int kvs.length) c) : lenD [.dic kvs] c Φ := q
theorem e_newK (q : Φ (.dic kvs) c) : newK false kvs c Φ := by unfold newK; exact e_ifF q
def turnKK (kk : Option (Key × D) → SH → Prop) (z y : D) (c : SH) : Prop := match keyD y with
  | some j => kk (some (j, z)) c
  | none => False
theorem e_turnK {kk : Option (Key × D) → SH → Prop} (h : g x δ c noX fun δ2 c2 => t δ2 c2 noX fun b c3 => if b = true then k δ2 c3 noX fun y c4 => e δ2 c4 noX fun z c5 => turnKK kk z y c5 else kk none c3) : turnK g t k e δ x c kk := h
theorem e_keyS {kk : Option (Key × D) → SH → Prop} {z : D} {s : Str} (q : kk (some (.inr s, z)) c) : turnKK kk z (.str s) c := q
theorem e_dict (h : A δ c Ψ fun xs c1 => dictD xs c1 fun kvs => newK false kvs c1 Φ) : dictM false A δ c Ψ Φ := h
theorem e_dictC {kk : List (Key × D) → Prop} (q : kk kvs) : dictD [.dic kvs] c kk := q
theorem e_gtup3n {i j l : Nat} {x y z : D} {N : Env → SH → Prop} (q : N (((δ.set i (some x)).set j (some y)).set l (some z)) c) : gtupnM 2 (gconsM i (gconsXM (gtupnM 2 (gconsM j (gconsM l gnilM))) gnilM)) (.tup [x, .tup [y, z]]) δ c Ψ N := ⟨rfl, rfl, rfl, rfl, q⟩
def lkK (Φ : QD) (x : D) (c1 : SH) : Prop := match x with
  | .obj k => match c1[k]? with
    | some (.dic xs) => Φ (.dic xs) (c1.set k (.frz (.dic xs)))
    | _ => False
  | _ => False
theorem e_lkM (h : a δ c Ψ (lkK Φ)) : lkM a δ c Ψ Φ := h
def dputK (e : EndsD) (δ : Env) (z x y : D) (c3 : SH) : Prop := match x, keyD y with
  | .obj k, some j => (match c3[k]? with
    | some (.dic kvs) => kvs.length < sizeLine ∧ e.nx δ (c3.set k (.dic (putKD kvs j z)))
    | _ => False)
  | _, _ => False
theorem e_dputM {o i v : ME} {e : EndsD} (h : v δ c (e.x δ) fun z c1 => o δ c1 (e.x δ) fun x c2 => i δ c2 (e.x δ) fun y c3 => dputK e δ z x y c3) : dputM o i v δ c e := h
theorem e_dputD {e : EndsD} {z : D} {k : Nat} {s : Str} (h : c[k]? = some (.dic kvs)) (hl : kvs.length < sizeLine) (q : e.nx δ (c.set k (.dic (putKD kvs (.inr s) z)))) : dputK e δ z (.obj k) (.str s) c := by
  unfold dputK
  simp only [keyD, h]
  exact ⟨hl, q⟩
theorem e_isN (q : Φ (.bl (nonD x)) c) : isD x .non c Φ := by cases x <;> exact q
theorem e_isntN (q : Φ (.bl (!nonD x)) c) : isntD x .non c Φ := by cases x <;> exact q
theorem e_caseM {K : PySem.W.Frag} {hs : Hds} {lam d3 : ME} {rest : Fn} (h : a δ c Ψ fun p1 c1 => b δ c1 Ψ fun p2 c2 => d3 δ c2 Ψ fun p3 c3 => lam (δ ++ [some p1]) c3 (fun C g x c' => dealD K hs C g x c' fun fd c'' => rest [p1, p2, p3, fd] c'' noX Φ) fun x c' => rest [p1, p2, p3, toldD x] c' noX Φ) : caseM K hs lam rest a b d3 δ c Ψ Φ := h
theorem e_negI {i : Int} (q : Φ (.int (-i)) c) : negD (.int i) c Φ := q
theorem e_ifdT {p : Prop} [Decidable p] {u v : Prop} (h : p) (q : u) : (if decide p = true then u else v) := by rw [decide_eq_true h]; exact e_ifT q
theorem e_ifdF {p : Prop} [Decidable p] {u v : Prop} (h : ¬ p) (q : v) : (if decide p = true then u else v) := by rw [decide_eq_false h]; exact e_ifF q
end
end M
set_option Elab.async false
set_option linter.all false
set_option maxRecDepth 100000
set_option maxHeartbeats 3900000
namespace M
open PySem PySem.Spec PyProof.Rows L2 G
theorem lt_sz {n : Nat} (h : n ≤ 1000) : n < sizeLine := Nat.lt_of_le_of_lt h (by decide)
end M
set_option Elab.async false
set_option linter.all false
set_option maxRecDepth 100000
set_option maxHeartbeats 3900000
namespace M
open PySem PySem.Spec PyProof.Rows L2 G
structure Od (K : PySem.W.Frag) (op : D → D → SH → QD → Prop) (x : D) : Prop where
  bo : ∃ b, ∀ c, Isi K c x (.type "bool") b
  eq : ∀ (c : SH) (Φ : QD), Φ (.bl true) c → op x x c Φ
  nb : ∀ n, nb n x = true
section
variable {K : PySem.W.Frag} {o1 o2 : D → D → SH → QD → Prop} {x : D}
theorem Od.l (h : Od K o1 x) : Od K (orD o1 o2) x := ⟨h.bo, fun c Φ q => .inl (h.eq c Φ q), h.nb⟩
end
end M
set_option Elab.async false
set_option linter.all false
set_option maxRecDepth 100000
set_option maxHeartbeats 3900000
namespace M
open PySem PySem.Spec PyProof.Rows L2 G
section
variable {prog : Program} {w : World} {κ : Type} [DecidableEq κ] (knd : KeyKind prog w κ)
def Apt (l : List (Int × Value)) : Prop := l.Pairwise fun e e' => ∀ k, knd.is k e.2 = true → knd.is k e'.2 = true → False
def SetG (h : Heap) (a : Addr) (S : κ → Bool) (n : Nat) : Prop :=
  ∃ o es ep t, h.get? a = some o ∧ o.ExactSet ∧ o.data = .set es ep t ∧ ElemsOf knd es.toList ∧ (∀ k, S k = true ↔ ∃ e ∈ es.toList, knd.is k e.2 = true) ∧ es.size < scanBound ∧ t.fits es.size = true ∧ es.size = n ∧
    Apt knd es.toList ∧ L2.Ris t.place.toList ∧ (w.params.followText "set-order" = true ∨ t.led = true)
variable {knd} {A : Around} {E : Value → Shared → Prop} {s : Shared}
theorem SetG.of {h : Heap} {a : Addr} {S : κ → Bool} {n : Nat} (x : SetG knd h a S n) : h.SetOf knd a S n := let ⟨o, es, ep, t, h1, h2, h3, h4, h5, h6, h7, h8, _⟩ := x; ⟨o, es, ep, t, h1, h2, h3, h4, h5, h6, h7, h8⟩
end
end M
set_option Elab.async false
set_option linter.all false
set_option maxRecDepth 100000
set_option maxHeartbeats 3900000
namespace M
open PySem PySem.Spec PyProof.Rows L2 G
def rSortSet (K : PySem.W.Frag) (x : V) (H : Hp) (Q : VK) : Prop := ∃ (l : Addr) (zs : List Str), x = .ref l ∧ (SqL K H l (zs.map V.str) ∨ SqT K H l (zs.map V.str)) ∧ zs.length ≤ 4000 ∧ ∀ (ys : List Str) (p : Addr), sortedS ys = true → ys.Nodup → (∀ z, z ∈ ys ↔ z ∈ zs) → H p = none → Q (.ref p) (upd H p (.lst (ys.map V.str)))
def tSortSet (K : PySem.W.Frag) (ta : TE) : TE := fun σ H Q => ta σ H fun x H1 => rSortSet K x H1 Q
/-- its mirror -/
def sortSetM (lv : Bool) (a : ME) : ME := fun δ c Ψ Φ => a δ c Ψ fun x c1 => match seqD (view c1 x) with
  | some ys => match strsD ys with
    | some zs => zs.length ≤ 4000 ∧ ∀ us : List Str, sortedS us = true → us.Nodup → (∀ z, z ∈ us ↔ z ∈ zs) → newL lv (us.map .str) c1 Φ
    | none => False
  | none => False
theorem snd_sortSet {K : PySem.W.Frag} {tb : List (Addr × Str)} {W : WX} {lv : Bool} {ta : TE} {a : ME} (ha : SndE K tb W ta a) : SndE K tb W (tSortSet K ta) (sortSetM lv a) := by
  intro al G c H σ δ Ψ Φ Q g m q
  refine ha al G c H σ δ Ψ _ _ g m fun x c1 al1 G1 H1 v r1 l1 d1 m1 => ?_
  split at m1
  · rename_i ys e
    split at m1
    · rename_i zs e2
      obtain ⟨p, vs, rfl, h1, h2⟩ := seq_vw e (r1.vw d1)
      rw [strs_den h2 e2] at h1
      exact ⟨p, zs, rfl, h1, m1.1, fun us b hs nd hm hn => newL_ok r1 hn (DenL.strs us) (m1.2 us hs nd hm) (q.le l1)⟩
    · cases m1
  · cases m1
end M
set_option Elab.async false
set_option linter.all false
set_option maxRecDepth 100000
set_option maxHeartbeats 3900000
namespace M
open PySem PySem.Spec PyProof.Rows L2 G
def addT (K : PySem.W.Frag) (C : Addr) (n : String) : Prop := (∃ r, PySem.W.findIn K (.type n) "__add__" = some r) ∧ (∃ r, PySem.W.findIn K (.type n) "__radd__" = some r) ∧ PySem.W.subIn K (.type n) (.ref C) = some false
def addOk (K : PySem.W.Frag) (C : Addr) (T : Value) : Prop := T = .ref C ∨ ∃ n, T = .type n ∧ addT K C n
def tAddX (K : PySem.W.Frag) (C : Addr) (sp : Sp) (E : L2.St → XK) (ta tb : TE) : TE := fun σ H Q => ta σ H fun x H1 => tb σ H1 fun y H2 => ∃ a dx fs T, x = .ref a ∧ H2 a = some (.ins C dx fs) ∧ TyX K H2 y T ∧ addOk K C T ∧ sp [x, y] H2 Q (E σ)
def addXM (K : PySem.W.Frag) (C : Addr) (F : Fn) (a b : ME) : ME := fun δ c Ψ Φ => a δ c Ψ fun x c1 => b δ c1 Ψ fun y c2 => (match view c2 x with
  | .ins C' _ => C' = C ∧ (∃ T, tyT K (view c2 y) T ∧ addOk K C T) ∧ F [x, y] c2 Ψ Φ
  | _ => False)
theorem snd_addX {K : PySem.W.Frag} {tb : List (Addr × Str)} {W : WX} {C : Addr} {F : Fn} {ta tb' : TE} {a b : ME} (ha : SndE K tb W ta a) (hb : SndE K tb W tb' b) : SndE K tb W (tAddX K C (SpG K tb F) (WE W) ta tb') (addXM K C F a b) := by
  intro al G c H σ δ Ψ Φ Q g m q
  refine ha al G c H σ δ Ψ _ _ g m fun x c1 al1 G1 H1 v r1 l1 d1 m1 => ?_
  refine hb al1 G1 c1 H1 σ δ Ψ _ _ (g.le r1 l1) m1 fun y c2 al2 G2 H2 u r2 l2 d2 m2 => ?_
  have vx := r2.vw (d1.le l2)
  have vy := r2.vw d2
  split at m2
  · rename_i e
    rw [e] at vx
    obtain ⟨rfl, ⟨T, h1, h2⟩, m⟩ := m2
    cases vx with
    | ins h r => exact ⟨_, _, _, T, rfl, h, tyT_ok vy h1, h2, al2, G2, c2, _, Ψ, Φ, r2, .cons (d1.le l2) (.cons d2 .nil), m, q.le (l1.trans l2), g.thr.le (l1.trans l2)⟩
  · cases m2
end M
set_option Elab.async false
set_option linter.all false
set_option maxRecDepth 100000
set_option maxHeartbeats 3900000
namespace M
open PySem PySem.Spec PyProof.Rows L2 G
abbrev IR := D → D → SH → (Bool → Prop) → Prop
def eqGs (r : IR) : List D → List D → SH → (Bool → Prop) → Prop
  | [], [], _, k => k true
  | x :: xs, y :: ys, c, k => r x y c fun b => if b = true then eqGs r xs ys c k else k false
  | _, _, _, _ => False
def rLG (K : PySem.W.Frag) (tb : List (Addr × Str)) (r : IR) : R2 := fun x y H Q => ∃ al G c dx dy xs ys Φ, Rep K tb al G c H ∧ Den K al G x dx ∧ Den K al G y dy ∧ view c dx = .lst xs ∧ view c dy = .lst ys ∧ (xs.length ≠ ys.length → Φ (.bl false) c) ∧ (xs.length = ys.length → eqGs r xs ys c fun b => Φ (.bl b) c) ∧ Ret K tb al G c H Φ Q
def eqGD (r : IR) (x y : D) (c : SH) (Φ : QD) : Prop := match view c x, view c y with
  | .lst xs, .lst ys => (xs.length ≠ ys.length → Φ (.bl false) c) ∧ (xs.length = ys.length → eqGs r xs ys c fun b => Φ (.bl b) c)
  | _, _ => False
theorem dop_eqG {K : PySem.W.Frag} {tb : List (Addr × Str)} {r : IR} : DOp K tb (rLG K tb r) (eqGD r) := by
  intro al G c H x y dx dy Φ Q R hx hy m q
  unfold eqGD at m
  split at m
  · rename_i xs ys e1 e2
    exact ⟨al, G, c, dx, dy, xs, ys, Φ, R, hx, hy, e1, e2, m.1, m.2, q⟩
  · cases m
def listRgM (lv : Bool) (a : ME) : ME := fun δ c Ψ Φ => a δ c Ψ fun x c1 => intD x c1 fun n c1 => RgOk 0 n ∧ newL lv (rngD 0 n.toNat) c1 Φ
theorem rgV_den {K : PySem.W.Frag} {al : List Addr} {G : Hp} (n : Int) : DenL K al G (rgV 0 n) (rngD 0 n.toNat) := by
  unfold rgV rngD
  rw [Int.sub_zero]
  generalize List.range n.toNat = l
  induction l with
  | nil => exact .nil
  | cons i l ih => exact .cons (.int _) ih
theorem snd_listRg {K : PySem.W.Frag} {tb : List (Addr × Str)} {W : WX} {lv : Bool} {ta : TE} {a : ME} (ha : SndE K tb W ta a) : SndE K tb W (tLstRg (tRg1 ta)) (listRgM lv a) := by
  intro al G c H σ δ Ψ Φ Q g m q
  refine ha al G c H σ δ Ψ _ _ g m fun x c1 al1 G1 H1 v r1 l1 d1 m1 => ?_
  obtain ⟨i, rfl, rfl, h1, h2⟩ := intD_of m1 d1
  exact ⟨i, rfl, h1, fun p hp => newL_ok r1 hp (rgV_den i) h2 (q.le l1)⟩
end M
set_option Elab.async false
set_option linter.all false
set_option maxRecDepth 100000
set_option maxHeartbeats 3900000
namespace M
open PySem PySem.Spec PyProof.Rows L2 G
def anyE (m : Bool → ME) : ME := fun δ c Ψ Φ => ∃ b, m b δ c Ψ Φ
section
variable {K : PySem.W.Frag} {tb : List (Addr × Str)} {W : WX} {t : TE} {m : Bool → ME} {δ : Env} {c : SH} {Ψ : XD} {Φ : QD}
theorem snd_anyE (h : ∀ b, SndE K tb W t (m b)) : SndE K tb W t (anyE m) := fun al G c H σ δ Ψ Φ Q g ⟨b, mb⟩ q => h b al G c H σ δ Ψ Φ Q g mb q
end
end M
set_option Elab.async false
set_option linter.all false
set_option maxRecDepth 100000
set_option maxHeartbeats 3900000
namespace M
open PySem PySem.Spec PyProof.Rows L2 G
section
variable {K : PySem.W.Frag} {c : SH} {Ψ : XD} {Φ : QD}
theorem py_view {d : D} {zs : List D} {ps : List PyData} (h : view c d = .lst zs) (hz : ∀ ob, pyWL ob zs = some ps) : pyC c d = some (.list ps) := by
  cases d with
  | lst xs =>
    cases h
    simp only [pyC, pyW, hz, Option.map_some]
  | obj k =>
    simp only [view] at h
    simp only [pyC, pyW, pyO]
    cases e : c[k]? with
    | none => rw [e] at h; cases h
    | some o =>
      rw [e] at h
      cases o with
      | lst xs => cases h; simp only [hz, Option.map_some]
      | frz d => simp only at h; subst h; simp only [pyW, hz, Option.map_some]
      | _ => cases h
  | _ => cases h
theorem sc_view {d e : D} {zs : List D} (h : view c d = .lst zs) : scD d e = none := by
  cases d with
  | lst xs => cases e <;> rfl
  | obj k => cases e <;> rfl
  | _ => cases h
theorem eqvS1 (a b : Str) : PyData.eqv (.str a) (.str b) = decide (a = b) := by
  by_cases h : a = b
  · subst h; simp [PyData.eqv]
  · simp [PyData.eqv, h]
theorem eqvI1 (a b : Int) : PyData.eqv (.int a) (.int b) = decide (a = b) := by
  by_cases h : a = b
  · subst h; simp [PyData.eqv]
  · simp [PyData.eqv, h]
theorem eqvSs : ∀ xs ys : List Str, PyData.eqvAll (xs.map .str) (ys.map .str) = decide (xs = ys)
  | [], [] => by simp [PyData.eqvAll]
  | [], y :: ys => by simp [PyData.eqvAll]
  | x :: xs, [] => by simp [PyData.eqvAll]
  | x :: xs, y :: ys => by
    rw [List.map_cons, List.map_cons]
    simp only [PyData.eqvAll, eqvS1, eqvSs xs ys]
    by_cases h1 : x = y
    · by_cases h2 : xs = ys
      · simp [h1, h2]
      · simp [h1, h2]
    · simp [h1]
theorem eqvIs : ∀ xs ys : List Int, PyData.eqvAll (xs.map .int) (ys.map .int) = decide (xs = ys)
  | [], [] => by simp [PyData.eqvAll]
  | [], y :: ys => by simp [PyData.eqvAll]
  | x :: xs, [] => by simp [PyData.eqvAll]
  | x :: xs, y :: ys => by
    rw [List.map_cons, List.map_cons]
    simp only [PyData.eqvAll, eqvI1, eqvIs xs ys]
    by_cases h1 : x = y
    · by_cases h2 : xs = ys
      · simp [h1, h2]
      · simp [h1, h2]
    · simp [h1]
theorem eqvSl (xs ys : List Str) : PyData.eqv (.list (xs.map .str)) (.list (ys.map .str)) = decide (xs = ys) := by
  rw [← eqvSs]; simp [PyData.eqv]
theorem eqvIl (xs ys : List Int) : PyData.eqv (.list (xs.map .int)) (.list (ys.map .int)) = decide (xs = ys) := by
  rw [← eqvIs]; simp [PyData.eqv]
theorem pyWL_ints (ob : Nat → Option PyData) : ∀ xs : List Int, pyWL ob (xs.map .int) = some (xs.map PyData.int)
  | [] => rfl
  | x :: xs => by simp only [List.map_cons, pyWL, pyW, pyWL_ints ob xs]
theorem e_neSs {d e : D} {xs ys : List Str} (h1 : view c d = .lst (xs.map .str)) (h2 : view c e = .lst (ys.map .str)) (o1 : ∀ x ∈ xs, PyData.strOk x = true) (o2 : ∀ x ∈ ys, PyData.strOk x = true) (q : Φ (.bl (!decide (xs = ys))) c) : neD d e c Φ :=
  e_pyN (sc_view h1) (py_view h1 fun ob => pyWL_strs ob xs) (py_view h2 fun ob => pyWL_strs ob ys) (shaped_strs o1) (shaped_strs o2) (by rw [eqvSl]; exact q)
theorem e_eqIs {d e : D} {xs ys : List Int} (h1 : view c d = .lst (xs.map .int)) (h2 : view c e = .lst (ys.map .int)) (q : Φ (.bl (decide (xs = ys))) c) : eqD d e c Φ :=
  e_py (sc_view h1) (py_view h1 fun ob => pyWL_ints ob xs) (py_view h2 fun ob => pyWL_ints ob ys) (shaped_ints xs) (shaped_ints ys) (by rw [eqvIl]; exact q)
theorem e_neIs {d e : D} {xs ys : List Int} (h1 : view c d = .lst (xs.map .int)) (h2 : view c e = .lst (ys.map .int)) (q : Φ (.bl (!decide (xs = ys))) c) : neD d e c Φ :=
  e_pyN (sc_view h1) (py_view h1 fun ob => pyWL_ints ob xs) (py_view h2 fun ob => pyWL_ints ob ys) (shaped_ints xs) (shaped_ints ys) (by rw [eqvIl]; exact q)
/-- a list or a tuple of texts -/
def SqS (c : SH) (d : D) (xs : List Str) : Prop := view c d = .lst (xs.map .str) ∨ view c d = .tup (xs.map .str)
theorem SqS.seq {d : D} {xs : List Str} (h : SqS c d xs) : seqD (view c d) = some (xs.map .str) := by
  rcases h with h | h <;> rw [h] <;> rfl
theorem SqS.len {d : D} {xs : List Str} (h : SqS c d xs) (q : Φ (.int xs.length) c) : lenD [d] c Φ := by
  rcases h with h | h
  · unfold lenD oneD
    dsimp only
    rw [h]
    show Φ (.int ((xs.map D.str).length : Int)) c
    rw [List.length_map]
    exact q
  · unfold lenD oneD
    dsimp only
    rw [h]
    show Φ (.int ((xs.map D.str).length : Int)) c
    rw [List.length_map]
    exact q
end
theorem for_from {gd : SH → Prop} {g : MG} {b : MS} {e : EndsD} (F : Nat → D) (P : Nat → Env → SH → Prop) : ∀ (m k n : Nat), k + m = n →
    (∀ k, k < n → ∀ (δ : Env) (c : SH) (e' : EndsD), P k δ c → (∀ δ c, P (k + 1) δ c → e'.nx δ c) → (∀ δ c, P (k + 1) δ c → e'.ct δ c) → e'.rt = e.rt → e'.xc = e.xc → e'.bk = e.nx → gd c ∧ g (F k) δ c (e.x δ) fun δ1 c1 => b δ1 c1 e') → (∀ δ c, P n δ c → gd c ∧ e.nx δ c) → ∀ δ c, P k δ c → forD gd g b ((List.range' k m).map F) δ c e
  | 0, k, n, hn, _, fin, δ, c, h => fin δ c (by rw [← hn]; exact h)
  | m + 1, k, n, hn, step, fin, δ, c, h => by
    have go := for_from F P m (k + 1) n (by omega) step fin
    rw [List.range'_succ, List.map_cons]
    exact step k (by omega) δ c _ h (fun δ c h => go δ c h) (fun δ c h => go δ c h) rfl rfl rfl
theorem for_rng {gd : SH → Prop} {g : MG} {b : MS} {e : EndsD} (F : Nat → D) (P : Nat → Env → SH → Prop) (n : Nat)
    (step : ∀ k, k < n → ∀ (δ : Env) (c : SH) (e' : EndsD), P k δ c → (∀ δ c, P (k + 1) δ c → e'.nx δ c) → (∀ δ c, P (k + 1) δ c → e'.ct δ c) → e'.rt = e.rt → e'.xc = e.xc → e'.bk = e.nx → gd c ∧ g (F k) δ c (e.x δ) fun δ1 c1 => b δ1 c1 e') (fin : ∀ δ c, P n δ c → gd c ∧ e.nx δ c) : ∀ δ c, P 0 δ c → forD gd g b ((List.range n).map F) δ c e := by
  rw [List.range_eq_range']
  exact for_from F P n 0 n (Nat.zero_add n) step fin
section
variable {K : PySem.W.Frag} {δ : Env} {c : SH} {Ψ : XD} {Φ : QD} {A : MA} {a b : ME}
theorem e_rng2 {ΦI : List D → (SH → Prop) → SH → Prop} (h : A δ c Ψ fun xs c1 => twoD xs fun x y => intD x c1 fun i c1 => intD y c1 fun j c1 => (-(2 ^ 62) ≤ i ∧ i < 2 ^ 62 ∧ -(2 ^ 62) ≤ j ∧ j < 2 ^ 62) ∧ ΦI (rngD i (j - i).toNat) (fun _ => True) c1) : rng2M A δ c Ψ ΦI := h
theorem e_disp {lv : Bool} {p : MP} (h : p δ c Ψ fun kvs c1 => kvs.length ≤ 15 ∧ newK lv (mergeD [] kvs) c1 Φ) : dispM lv p δ c Ψ Φ := h
def pconK (δ : Env) (Ψ : XD) (r : MP) (ΦP : List (Key × D) → SH → Prop) (x y : D) (c : SH) : Prop := match keyD x with
  | some j => r δ c Ψ fun ps c3 => ΦP ((j, y) :: ps) c3
  | none => False
theorem e_pcons {r : MP} {ΦP : List (Key × D) → SH → Prop} (h : a δ c Ψ fun x c1 => b δ c1 Ψ fun y c2 => pconK δ Ψ r ΦP x y c2) : pconsM a b r δ c Ψ ΦP := h
theorem e_pconS {r : MP} {ΦP : List (Key × D) → SH → Prop} {z : Str} {y : D} (h : r δ c Ψ fun ps c3 => ΦP ((.inr z, y) :: ps) c3) : pconK δ Ψ r ΦP (.str z) y c := h
theorem e_pnil {ΦP : List (Key × D) → SH → Prop} (h : ΦP [] c) : pnilM δ c Ψ ΦP := h
def par3K (i j l : Nat) (δ : Env) (e : EndsD) (xs : List D) (c1 : SH) : Prop := match xs with
  | [x, y, z] => e.nx (((δ.set i (some x)).set j (some y)).set l (some z)) c1
  | _ => False
theorem e_par3 {i j l : Nat} {e : EndsD} (h : A δ c (e.x δ) (par3K i j l δ e)) : par3M i j l A δ c e := h
theorem e_par3K {i j l : Nat} {e : EndsD} {x y z : D} (h : e.nx (((δ.set i (some x)).set j (some y)).set l (some z)) c) : par3K i j l δ e [x, y, z] c := h
theorem e_int1b {k : Bool} (q : Φ (.int (if k then 1 else 0)) c) : int1D [.bl k] c Φ := q
def revK (lv : Bool) (Φ : QD) (x : D) (c1 : SH) : Prop := match lstD (view c1 x) with
  | some ys => newL lv ys.reverse c1 Φ
  | none => False
theorem e_rev {lv : Bool} (h : a δ c Ψ (revK lv Φ)) : revM lv a δ c Ψ Φ := h
def enumK (ΦI : List D → (SH → Prop) → SH → Prop) (x : D) (c1 : SH) : Prop := match lstD (view c1 x) with
  | some xs => ΦI (enumD 0 xs) (fun c' => view c' x = view c1 x) c1
  | none => False
theorem e_enum {ΦI : List D → (SH → Prop) → SH → Prop} (h : A δ c Ψ fun xs c1 => oneD xs fun x => enumK ΦI x c1) : enumM A δ c Ψ ΦI := h
theorem e_enumL {ΦI : List D → (SH → Prop) → SH → Prop} {xs : List D} (h : ΦI (enumD 0 xs) (fun c' => view c' (.lst xs) = view c (.lst xs)) c) : enumK ΦI (.lst xs) c := h
theorem e_gtup3 {x y z : D} {i j l : Nat} {N : Env → SH → Prop} (q : N (((δ.set i (some x)).set j (some y)).set l (some z)) c) : gtupM (gconsM i (gconsM j (gconsM l gnilM))) (.tup [x, y, z]) δ c Ψ N := ⟨rfl, q⟩
def sortSetK (lv : Bool) (Φ : QD) (x : D) (c1 : SH) : Prop := match seqD (view c1 x) with
  | some ys => match strsD ys with
    | some zs => zs.length ≤ 4000 ∧ ∀ us : List Str, sortedS us = true → us.Nodup → (∀ z, z ∈ us ↔ z ∈ zs) → newL lv (us.map .str) c1 Φ
    | none => False
  | none => False
theorem e_sortSet {lv : Bool} (h : a δ c Ψ (sortSetK lv Φ)) : sortSetM lv a δ c Ψ Φ := h
theorem e_listRg {lv : Bool} (h : a δ c Ψ fun x c1 => intD x c1 fun n c1 => RgOk 0 n ∧ newL lv (rngD 0 n.toNat) c1 Φ) : listRgM lv a δ c Ψ Φ := h
theorem e_addX {C : Addr} {F : Fn} (h : a δ c Ψ fun x c1 => b δ c1 Ψ fun y c2 => (match view c2 x with
  | .ins C' _ => C' = C ∧ (∃ T, tyT K (view c2 y) T ∧ addOk K C T) ∧ F [x, y] c2 Ψ Φ
  | _ => False)) : addXM K C F a b δ c Ψ Φ := h
end
end M
set_option Elab.async false
set_option linter.all false
set_option maxRecDepth 100000
set_option maxHeartbeats 3900000
namespace M
open PySem PySem.Spec PyProof.Rows L2 G
def tame (x : Str) : Prop := ∀ a k : Nat, x.cps.toList[1]? = some a → x.cps.toList[2]? = some a → x.cps.toList[7]? = some k → k = a
structure GoodT (xs : List Str) (m : Nat) : Prop extends Good xs m where
  tm : ∀ x ∈ xs, tame x
theorem GoodT.take {xs : List Str} {m n : Nat} (h : GoodT xs m) (hn : n ≤ m) : GoodT (xs.take n) n := ⟨h.toGood.take hn, fun x hx => h.tm x (List.mem_of_mem_take hx)⟩
end M
set_option Elab.async false
set_option linter.all false
set_option maxRecDepth 100000
set_option maxHeartbeats 3900000
namespace M
open PySem PySem.Spec PyProof.Rows L2 G
open AutoSeq1 (wpAny_loadPart')
def inGs (r : IR) (x : D) : List D → SH → (Bool → Prop) → Prop
  | [], _, k => k false
  | y :: ys, c, k => r y x c fun b => if b = true then k true else inGs r x ys c k
def rInG (K : PySem.W.Frag) (tb : List (Addr × Str)) (r : IR) (f : Bool → Bool) : R2 := fun x y H Q => ∃ al G c dx dy ys Φ, Rep K tb al G c H ∧ Den K al G x dx ∧ Den K al G y dy ∧ view c dy = .lst ys ∧ (inGs r dx ys c fun b => Φ (.bl (f b)) c) ∧ Ret K tb al G c H Φ Q
def inGD (r : IR) (f : Bool → Bool) (x y : D) (c : SH) (Φ : QD) : Prop := match view c y with
  | .lst ys => inGs r x ys c fun b => Φ (.bl (f b)) c
  | _ => False
theorem dop_inG {K : PySem.W.Frag} {tb : List (Addr × Str)} {r : IR} {f : Bool → Bool} : DOp K tb (rInG K tb r f) (inGD r f) := by
  intro al G c H x y dx dy Φ Q R hx hy m q
  unfold inGD at m
  split at m
  · rename_i ys e2
    exact ⟨al, G, c, dx, dy, ys, Φ, R, hx, hy, e2, m, q⟩
  · cases m
def tGetX (C : Addr) (sp : Sp) (E : L2.St → XK) (ta tb : TE) : TE := fun σ H Q => ta σ H fun x H1 => tb σ H1 fun y H2 => ∃ a dx fs, x = .ref a ∧ H2 a = some (.ins C dx fs) ∧ sp [x, y] H2 Q (E σ)
def getXM (C : Addr) (F : Fn) (a b : ME) : ME := fun δ c Ψ Φ => a δ c Ψ fun x c1 => b δ c1 Ψ fun y c2 => (match view c2 x with
  | .ins C' _ => C' = C ∧ F [x, y] c2 Ψ Φ
  | _ => False)
theorem snd_getX {K : PySem.W.Frag} {tb : List (Addr × Str)} {W : WX} {C : Addr} {F : Fn} {ta tb' : TE} {a b : ME} (ha : SndE K tb W ta a) (hb : SndE K tb W tb' b) : SndE K tb W (tGetX C (SpG K tb F) (WE W) ta tb') (getXM C F a b) := by
  intro al G c H σ δ Ψ Φ Q g m q
  refine ha al G c H σ δ Ψ _ _ g m fun x c1 al1 G1 H1 v r1 l1 d1 m1 => ?_
  refine hb al1 G1 c1 H1 σ δ Ψ _ _ (g.le r1 l1) m1 fun y c2 al2 G2 H2 u r2 l2 d2 m2 => ?_
  have vx := r2.vw (d1.le l2)
  split at m2
  · rename_i e
    rw [e] at vx
    obtain ⟨rfl, mm⟩ := m2
    cases vx with
    | ins h r => exact ⟨_, _, _, rfl, h, al2, G2, c2, _, Ψ, Φ, r2, .cons (d1.le l2) (.cons d2 .nil), mm, q.le (l1.trans l2), g.thr.le (l1.trans l2)⟩
  · cases m2
end M
set_option Elab.async false
set_option linter.all false
set_option maxRecDepth 100000
set_option maxHeartbeats 3900000
namespace M
open PySem PySem.Spec PyProof.Rows L2 G
def clearD (x : D) (xs : List D) (c : SH) (Φ : QD) : Prop := xs = [] ∧ liveL x c fun k ys => Φ .non (c.set k (.lst []))
def reverseD (x : D) (xs : List D) (c : SH) (Φ : QD) : Prop := xs = [] ∧ liveL x c fun k ys => Φ .non (c.set k (.lst ys.reverse))
section
variable {K : PySem.W.Frag} {tb : List (Addr × Str)}
theorem dm_clear : DMt K tb rClear clearD := by
  intro al G c H x xs dx ds Φ Q R hx hd m q
  obtain ⟨rfl, m2⟩ := m
  cases hd
  obtain ⟨i, l, vs, ys, rfl, h1, h2, h3, h4, m3⟩ := live_of R hx m2
  obtain ⟨r2, l2⟩ := change_lst R h1 h2 (ws := []) (zs := []) .nil
  exact ⟨l, vs, rfl, rfl, h3, q .non _ al G _ .non r2 l2 .non m3⟩
theorem dm_reverse : DMt K tb rReverse reverseD := by
  intro al G c H x xs dx ds Φ Q R hx hd m q
  obtain ⟨rfl, m2⟩ := m
  cases hd
  obtain ⟨i, l, vs, ys, rfl, h1, h2, h3, h4, m3⟩ := live_of R hx m2
  obtain ⟨r2, l2⟩ := change_lst R h1 h2 h4.reverse
  exact ⟨l, vs, rfl, rfl, h3, q .non _ al G _ .non r2 l2 .non m3⟩
end
def rSortedTS (K : PySem.W.Frag) : List V → Hp → VK → Prop := fun vs H Q => ∃ (a : Addr) (xs : List Str), vs = [V.ref a] ∧ SqT K H a (xs.map V.str) ∧ xs.length < 64 ∧ ∀ (ys : List Str) (p : Addr), ys.Perm xs → sortedS ys = true → H p = none → Q (.ref p) (upd H p (.lst (ys.map V.str)))
def sortedTD (lv : Bool) (xs : List D) (c : SH) (Φ : QD) : Prop := oneD xs fun x => match view c x with
  | .tup ys => ∃ zs, strsD ys = some zs ∧ zs.length < 64 ∧ ∀ us : List Str, us.Perm zs → sortedS us = true → newL lv (us.map .str) c Φ
  | _ => False
theorem dc_sortedT {K : PySem.W.Frag} {tb : List (Addr × Str)} {lv : Bool} : DCall K tb (rSortedTS K) (sortedTD lv) := by
  intro al G c H xs ds Φ Q R hd m q
  obtain ⟨x, v, rfl, rfl, dx, m2⟩ := oneD_of m hd
  have vx := R.vw dx
  split at m2
  · rename_i ys e
    rw [e] at vx
    obtain ⟨zs, e2, h64, m2⟩ := m2
    cases vx with
    | tup h1 r1 =>
      rw [strs_den r1 e2] at h1
      exact ⟨_, zs, rfl, .of h1, h64, fun us p hp hs hn => newL_ok R hn (DenL.strs us) (m2 us hp hs) q⟩
  · cases m2
end M
set_option Elab.async false
set_option linter.all false
set_option maxRecDepth 100000
set_option maxHeartbeats 3900000
namespace M
open PySem PySem.Spec PyProof.Rows L2 G StX
def starM (a : ME) (A : MA) : MA := fun δ c Ψ Φ => a δ c Ψ fun x c1 => match seqD (view c1 x) with
  | some xs => A δ c1 Ψ fun ys c2 => Φ (xs ++ ys) c2
  | none => False
theorem snd_star {K : PySem.W.Frag} {tb : List (Addr × Str)} {W : WX} {ta : TE} {a : ME} {tA : TA} {mA : MA} (ha : SndE K tb W ta a) (hA : SndA K tb W tA mA) : SndA K tb W (tStar K ta tA) (starM a mA) := by
  intro al G c H σ δ Ψ Φ Q g m q
  refine ha al G c H σ δ Ψ _ _ g m fun x c1 al1 G1 H1 v r1 l1 d1 m1 => ?_
  split at m1
  · rename_i ys e
    obtain ⟨p, vs, rfl, h1, h2⟩ := seq_vw e (r1.vw d1)
    refine ⟨p, vs, rfl, h1.symm, ?_⟩
    refine hA al1 G1 c1 H1 σ δ Ψ _ _ (g.le r1 l1) m1 fun xs c2 al2 G2 H2 us r2 l2 d2 m2 => ?_
    exact q (ys ++ xs) c2 al2 G2 H2 (vs ++ us) r2 (l1.trans l2) ((h2.le l2).append d2) m2
  · cases m1
def starK (A : MA) (δ : Env) (Ψ : XD) (ΦA : List D → SH → Prop) (x : D) (c1 : SH) : Prop := match seqD (view c1 x) with
  | some xs => A δ c1 Ψ fun ys c2 => ΦA (xs ++ ys) c2
  | none => False
theorem e_star {a : ME} {A : MA} {δ : Env} {c : SH} {Ψ : XD} {ΦA : List D → SH → Prop} (h : a δ c Ψ (starK A δ Ψ ΦA)) : starM a A δ c Ψ ΦA := h
theorem e_starL {A : MA} {δ : Env} {c : SH} {Ψ : XD} {ΦA : List D → SH → Prop} {xs : List D} (h : A δ c Ψ fun ys c2 => ΦA (xs ++ ys) c2) : starK A δ Ψ ΦA (.lst xs) c := h
abbrev keyN (ks : List L2.Key) : Nat → L2.Key := fun i => ks.getD i (Sum.inl 0)
def metK (ks : List L2.Key) : Nat := (met (keyN ks) ks.length).length
def rLenSetK (K : PySem.W.Frag) (x : V) (H : Hp) (Q : VK) : Prop := ∃ (l : Addr) (ks : List L2.Key), x = .ref l ∧ (SqL K H l (ks.map kV) ∨ SqT K H l (ks.map kV)) ∧ ks.length ≤ 4000 ∧ Q (.int (metK ks : Nat)) H
def tLenSetK (K : PySem.W.Frag) (ta : TE) : TE := fun σ H Q => ta σ H fun x H1 => rLenSetK K x H1 Q
def keysD : List D → Option (List L2.Key)
  | [] => some []
  | d :: r => match keyD d, keysD r with
    | some k, some ks => some (k :: ks)
    | _, _ => none
theorem keys_den {K : PySem.W.Frag} {al : List Addr} {G : Hp} : ∀ {vs : List V} {ds : List D} {ks : List L2.Key}, DenL K al G vs ds → keysD ds = some ks → vs = ks.map kV
  | _, _, _, .nil, e => by cases e; rfl
  | _, _, _, .cons h r, e => by
    unfold keysD at e
    split at e
    · rename_i k ks e1 e2
      cases e
      rw [key_den h e1, keys_den r e2]
      rfl
    · cases e
def lenSetKM (a : ME) : ME := fun δ c Ψ Φ => a δ c Ψ fun x c1 => match seqD (view c1 x) with
  | some ys => match keysD ys with
    | some ks => ks.length ≤ 4000 ∧ Φ (.int (metK ks : Nat)) c1
    | none => False
  | none => False
theorem snd_lenSetK {K : PySem.W.Frag} {tb : List (Addr × Str)} {W : WX} {ta : TE} {a : ME} (ha : SndE K tb W ta a) : SndE K tb W (tLenSetK K ta) (lenSetKM a) := by
  intro al G c H σ δ Ψ Φ Q g m q
  refine ha al G c H σ δ Ψ _ _ g m fun x c1 al1 G1 H1 v r1 l1 d1 m1 => ?_
  split at m1
  · rename_i ys e
    split at m1
    · rename_i ks e2
      obtain ⟨p, vs, rfl, h1, h2⟩ := seq_vw e (r1.vw d1)
      rw [keys_den h2 e2] at h1
      exact ⟨p, ks, rfl, h1, m1.1, q _ c1 al1 G1 H1 _ r1 l1 (.int _) m1.2⟩
    · cases m1
  · cases m1
def lskD (Φ : QD) (x : D) (c1 : SH) : Prop := match seqD (view c1 x) with
  | some ys => match keysD ys with
    | some ks => ks.length ≤ 4000 ∧ Φ (.int (metK ks : Nat)) c1
    | none => False
  | none => False
theorem e_lsk {a : ME} {δ : Env} {c : SH} {Ψ : XD} {Φ : QD} (h : a δ c Ψ (lskD Φ)) : lenSetKM a δ c Ψ Φ := h
def gunlM (n : Nat) (g : MGs) : MG := fun x δ c _ N => match lstD (view c x) with
  | some xs => xs.length = n ∧ g xs δ c noX N
  | none => False
theorem sgo_unl {K : PySem.W.Frag} {tb : List (Addr × Str)} {W : WX} {vs : List Nat} {n : Nat} {g : TGs} {mg : MGs} (hg : SndGOs K tb vs g mg) : SndGO K tb W vs (gUnl K n g) (gunlM n mg) := by
  intro al G c H σ δ Ψ v x N R go d m q
  have vx := go.rep.vw d
  unfold gunlM at m
  split at m
  · rename_i xs e
    obtain ⟨b, us, rfl, h1, dn⟩ := lst_vw e vx
    exact ⟨_, _, rfl, h1, by rw [dn.length]; exact m.1, hg al G c H σ δ _ _ N R go.rep go.env dn m.2 q⟩
  · cases m
theorem e_gunl2 {x y : D} {i j : Nat} {δ : M.Env} {c : SH} {Ψ : XD} {N : M.Env → SH → Prop} (q : N ((δ.set i (some x)).set j (some y)) c) : gunlM 2 (gconsM i (gconsM j gnilM)) (.lst [x, y]) δ c Ψ N := ⟨rfl, rfl, q⟩
end M
set_option Elab.async false
set_option linter.all false
set_option maxRecDepth 100000
set_option maxHeartbeats 3900000
namespace M
open PySem PySem.Spec PyProof.Rows L2 G StX
def tTryN (K : PySem.W.Frag) (C : Value) (tb : WX → TS) (ts : TS) (W : WX) : TS := fun D σ H => tb (wOne K C (fun cls d σ H => ∀ a, H a = none → ts D σ H) W) D σ H
/-- the mirror: what the body throws, told from its class -/
def tryM (K : PySem.W.Frag) (C : Addr) (b h : MS) : MS := fun δ c e => b δ c { e with xc := fun C' f d δ' c' => ∃ k, PySem.W.exmOne K (.ref C') (.ref C) = some k ∧ if k = true then h δ' c' e else e.xc C' f d δ' c' }
theorem snd_try {K : PySem.W.Frag} {tb : List (Addr × Str)} {W : WX} {C : Addr} {t : WX → TS} {ts : TS} {b h : MS} (hb : ∀ V, SndS K tb V (t V) b) (hh : SndS K tb W ts h) : SndS K tb W (tTryN K (.ref C) t ts W) (tryM K C b h) := by
  intro al G c H σ δ e D R s m k
  refine hb _ al G c H σ δ _ D R s m ⟨k.nx, k.rt, k.bk, k.ct, ?_⟩
  intro C' f d δ' c' al' G' H' dd v σ' R' l' s' fr hd den w
  obtain ⟨kk, h1, h2⟩ := w
  refine ⟨kk, h1, ?_⟩
  cases kk with
  | true =>
    rw [if_pos rfl] at h2 ⊢
    exact fun a _ => hh al' G' c' H' σ' δ' e D R' s' h2 (k.le l')
  | false =>
    rw [if_neg (by decide)] at h2 ⊢
    exact k.xc C' f d δ' c' al' G' H' dd v σ' R' l' s' fr hd den h2
theorem e_try {K : PySem.W.Frag} {C : Addr} {b h : MS} {δ : Env} {c : SH} {e : EndsD} (q : b δ c { e with xc := fun C' f d δ' c' => ∃ k, PySem.W.exmOne K (.ref C') (.ref C) = some k ∧ if k = true then h δ' c' e else e.xc C' f d δ' c' }) : tryM K C b h δ c e := q
def tCMethSD (C : Addr) (sp : Sp) (E : L2.St → XK) (ta : TE) (t : TA) : TE := fun σ H Q => ta σ H fun x H1 => x = .ref C ∧ t σ H1 fun vs H2 => sp (.ref C :: vs) H2 Q (E σ)
def cmM (C : Addr) (F : Fn) (a : ME) (A : MA) : ME := fun δ c Ψ Φ => a δ c Ψ fun x c1 => x = .adr C ∧ A δ c1 Ψ fun xs c2 => F (x :: xs) c2 Ψ Φ
section
variable {K : PySem.W.Frag} {tb : List (Addr × Str)} {W : WX} {ta : TE} {a : ME} {tA : TA} {mA : MA} {C : Addr} {F : Fn}
theorem snd_cm (ha : SndE K tb W ta a) (hA : SndA K tb W tA mA) : SndE K tb W (tCMethSD C (SpG K tb F) (WE W) ta tA) (cmM C F a mA) := by
  intro al G c H σ δ Ψ Φ Q g m q
  refine ha al G c H σ δ Ψ _ _ g m fun x c1 al1 G1 H1 v r1 l1 d1 m1 => ?_
  obtain ⟨rfl, m1⟩ := m1
  cases d1 with
  | adr =>
    refine ⟨rfl, hA al1 G1 c1 H1 σ δ Ψ _ _ (g.le r1 l1) m1 fun xs c2 al2 G2 H2 vs r2 l2 d2 m2 => ?_⟩
    exact ⟨al2, G2, c2, _, Ψ, Φ, r2, .cons (.adr C) d2, m2, q.le (l1.trans l2), g.thr.le (l1.trans l2)⟩
def makeLM (i : Nat) (C : Addr) (F : Fn) (A : MA) : ME := fun δ c Ψ Φ => varM i δ c Ψ fun x c1 => x = .adr C ∧ A δ c1 Ψ fun xs c2 => makeD false C F xs c2 noX Φ
theorem snd_makeL {i : Nat} (hA : SndA K tb W tA mA) : SndE K tb W (tMakeL i C (SpG K tb F) (fun _ _ _ => False) tA) (makeLM i C F mA) := by
  intro al G c H σ δ Ψ Φ Q g m q
  unfold makeLM varM at m
  split at m
  · rename_i d h
    obtain ⟨rfl, m⟩ := m
    obtain ⟨v, h1, h2⟩ := g.env.2 i _ h
    cases h2
    refine ⟨h1, ?_⟩
    refine hA al G c H σ δ Ψ _ _ g m fun xs c1 al1 G1 H1 vs r1 l1 d1 m1 => ?_
    intro x dx hx hdx nx
    have e1 : Ex H1 (upd H1 dx (.own x)) := Ex.new hdx
    have e2 : Ex (upd H1 dx (.own x)) (upd (upd H1 dx (.own x)) x (.ins C dx [])) := Ex.new (by rw [upd_ne nx.symm]; exact hx)
    have ex := e1.trans e2
    have r2 : Rep K tb (al1 ++ [x]) G1 (c1 ++ [.ins C []]) (upd (upd H1 dx (.own x)) x (.ins C dx [])) := r1.obj hx ex ⟨dx, [], upd_same, .nil⟩ rfl
    have l2 : Le al1 G1 c1 H1 (al1 ++ [x]) G1 (c1 ++ [.ins C []]) (upd (upd H1 dx (.own x)) x (.ins C dx [])) := Le.obj r1 hx ex
    have hk : (al1 ++ [x])[c1.length]? = some x := by
      rw [← r1.len, List.getElem?_append_right (Nat.le_refl _), Nat.sub_self]
      rfl
    rw [List.append_nil]
    refine ⟨_, _, _, _, _, _, r2, .cons (.obj hk) (d1.le l2), m1, fun d c3 al3 G3 H3 v r3 l3 d3 m3 => ?_, fun D f d c3 al3 G3 H3 dd v r3 l3 fr hdd d3 m3 => ?_⟩
    · obtain ⟨rfl, m3⟩ := m3
      cases d3
      refine ⟨rfl, ?_⟩
      have hx3 : Den K al3 G3 (.ref x) (.obj c1.length) := .obj (l3.ad _ _ hk)
      rw [if_neg (by decide)] at m3
      obtain ⟨d4, c4, al4, G4, r4, l4, d4', m4⟩ := clo_ok r1 r3 (l2.trans l3) hx3 m3
      exact q d4 c4 al4 G4 H3 _ r4 (l1.trans l4) d4' m4
    · rcases m3 with h | ⟨_, _, h⟩ <;> exact h.elim
  · cases m
end
theorem e_cm {a : ME} {C : Addr} {F : Fn} {mA : MA} {δ : Env} {c : SH} {Ψ : XD} {Φ : QD} (h : a δ c Ψ fun x c1 => x = .adr C ∧ mA δ c1 Ψ fun xs c2 => F (x :: xs) c2 Ψ Φ) : cmM C F a mA δ c Ψ Φ := h
theorem e_makeL {C : Addr} {F : Fn} {mA : MA} {i : Nat} {δ : Env} {c : SH} {Ψ : XD} {Φ : QD} (h : varM i δ c Ψ fun x c1 => x = .adr C ∧ mA δ c1 Ψ fun xs c2 => makeD false C F xs c2 noX Φ) : makeLM i C F mA δ c Ψ Φ := h
def rStarts : V → List V → Hp → VK → Prop := fun x xs H Q => ∃ a b, x = .str a ∧ xs = [.str b] ∧ Q (.bl (Txt.startswith a b)) H
def rRemove : V → List V → Hp → VK → Prop := fun x xs H Q => ∃ a b, x = .str a ∧ xs = [.str b] ∧ a.length ≤ sizeLine ∧ Q (.str (Txt.removeprefix a b)) H
def startsD (x : D) (xs : List D) (c : SH) (Φ : QD) : Prop := match x, xs with
  | .str a, [.str b] => Φ (.bl (Txt.startswith a b)) c
  | _, _ => False
def removeD (x : D) (xs : List D) (c : SH) (Φ : QD) : Prop := match x, xs with
  | .str a, [.str b] => a.length ≤ sizeLine ∧ Φ (.str (Txt.removeprefix a b)) c
  | _, _ => False
section
variable {K : PySem.W.Frag} {tb : List (Addr × Str)}
theorem dm_starts : DMt K tb rStarts startsD := by
  intro al G c H x xs dx ds Φ Q R hx hd m q
  unfold startsD at m
  split at m
  · cases hx
    cases hd with
    | cons h r =>
      cases h
      cases r
      exact ⟨_, _, rfl, rfl, q _ c al G H _ R .refl (.bl _) m⟩
  · cases m
theorem dm_remove : DMt K tb rRemove removeD := by
  intro al G c H x xs dx ds Φ Q R hx hd m q
  unfold removeD at m
  split at m
  · cases hx
    cases hd with
    | cons h r =>
      cases h
      cases r
      exact ⟨_, _, rfl, rfl, m.1, q _ c al G H _ R .refl (.str _) m.2⟩
  · cases m
end
theorem e_starts {a b : Str} {c : SH} {Φ : QD} (q : Φ (.bl (Txt.startswith a b)) c) : startsD (.str a) [.str b] c Φ := q
def tBack (K : PySem.W.Frag) (te : TE) : TE := fun σ H Q => te σ H fun x H1 => ∃ a xs, x = .ref a ∧ SqL K H1 a xs ∧ xs.length ≤ 3 ∧ ∀ p, H1 p = none → Q (.ref p) (upd H1 p (.lst (xs.drop 1).reverse))
def backM (lv : Bool) (a : ME) : ME := fun δ c Ψ Φ => a δ c Ψ fun x c1 => match lstD (view c1 x) with
  | some xs => xs.length ≤ 3 ∧ newL lv (xs.drop 1).reverse c1 Φ
  | none => False
theorem snd_back {K : PySem.W.Frag} {tb : List (Addr × Str)} {W : WX} {ta : TE} {a : ME} {lv : Bool} (ha : SndE K tb W ta a) : SndE K tb W (tBack K ta) (backM lv a) := by
  intro al G c H σ δ Ψ Φ Q g m q
  refine ha al G c H σ δ Ψ _ _ g m fun x c1 al1 G1 H1 v r1 l1 d1 m1 => ?_
  split at m1
  · rename_i ys e
    obtain ⟨b, vs, rfl, h1, h2⟩ := lst_vw e (r1.vw d1)
    exact ⟨b, vs, rfl, h1, by rw [h2.length]; exact m1.1, fun p hp => newL_ok r1 hp ((h2.drop 1).reverse) m1.2 (q.le l1)⟩
  · cases m1
def backK (Φ : QD) (x : D) (c1 : SH) : Prop := match lstD (view c1 x) with
  | some xs => xs.length ≤ 3 ∧ newL false (xs.drop 1).reverse c1 Φ
  | none => False
theorem e_back {a : ME} {δ : Env} {c : SH} {Ψ : XD} {Φ : QD} (h : a δ c Ψ (backK Φ)) : backM false a δ c Ψ Φ := h
end M
set_option Elab.async false
set_option linter.all false
set_option maxRecDepth 100000
set_option maxHeartbeats 3900000
namespace M
open PySem PySem.Spec PyProof.Rows L2 G StX
class W (p : Prop) (q : outParam Prop) : Prop where
  run : q → p
class Ws (p : Prop) (q : outParam Prop) : Prop where
  run : q → p
instance (priority := low) Ws.refl {p : Prop} : Ws p p := ⟨id⟩
instance Ws.step {p r q : Prop} [a : W p r] [b : Ws r q] : Ws p q := ⟨fun h => a.run (b.run h)⟩
theorem wgo {p r q : Prop} [a : W p r] [b : Ws r q] (h : q) : p := a.run (b.run h)
class At (δ : Env) (i : Nat) (d : outParam D) : Prop where
  eq : δ[i]? = some (some d)
class Put (δ : Env) (i : Nat) (x : Option D) (δ' : outParam Env) : Prop where
  eq : δ.set i x = δ'
section
variable {δ δ1 δ2 : Env} {o x y : Option D} {d : D} {i j : Nat} {vs : List Nat}
instance At.zero : At (some d :: δ) 0 d := ⟨rfl⟩
instance At.succ [h : At δ i d] : At (o :: δ) (i + 1) d := ⟨by simpa using h.eq⟩
instance Put.zero : Put (o :: δ) 0 x (x :: δ) := ⟨rfl⟩
instance Put.succ [h : Put δ i x δ1] : Put (o :: δ) (i + 1) x (o :: δ1) := ⟨by rw [List.set_cons_succ, h.eq]⟩
instance Put.put [h : Put δ j y δ1] [k : Put δ1 i x δ2] : Put (δ.set j y) i x δ2 := ⟨by rw [h.eq, k.eq]⟩
instance Put.wipe0 [h : Put δ i x δ1] : Put (wipeD δ []) i x δ1 := ⟨h.eq⟩
instance Put.wipe {v : Nat} [h : Put (wipeD δ vs) v none δ1] [k : Put δ1 i x δ2] : Put (wipeD δ (v :: vs)) i x δ2 := ⟨by show ((wipeD δ vs).set v none).set i x = δ2; rw [h.eq, k.eq]⟩
instance At.put [h : Put δ j y δ1] [k : At δ1 i d] : At (δ.set j y) i d := ⟨by rw [h.eq, k.eq]⟩
instance At.wipe0 [h : At δ i d] : At (wipeD δ []) i d := ⟨h.eq⟩
instance At.wipe {v : Nat} [h : Put (wipeD δ vs) v none δ1] [k : At δ1 i d] : At (wipeD δ (v :: vs)) i d := ⟨by show ((wipeD δ vs).set v none)[i]? = _; rw [h.eq, k.eq]⟩
instance At.app0 : At ([] ++ [some d]) 0 d := ⟨rfl⟩
instance At.appz : At ((some d :: δ) ++ [x]) 0 d := ⟨rfl⟩
instance At.apps [h : At (δ ++ [x]) i d] : At ((o :: δ) ++ [x]) (i + 1) d := ⟨by simpa using h.eq⟩
class Sh {α : Type} (xs : List α) (n : Nat) : Prop where
  le : xs.length ≤ n
instance Sh.nil {α : Type} {n : Nat} : Sh ([] : List α) n := ⟨Nat.zero_le _⟩
instance Sh.cons {α : Type} {z : α} {xs : List α} {n : Nat} [h : Sh xs n] : Sh (z :: xs) (n + 1) := ⟨Nat.succ_le_succ h.le⟩
end
section
variable {δ δ1 : Env} {c : SH} {Ψ : XD} {Φ : QD} {N : Env → SH → Prop} {i : Nat} {d x : D}
instance w_var [h : At δ i d] : W (varM i δ c Ψ Φ) (Φ d c) := ⟨e_var h.eq⟩
instance w_gname [h : Put δ i (some x) δ1] : W (gnameM i x δ c Ψ N) (N δ1 c) := ⟨fun q => e_gname (by rw [h.eq]; exact q)⟩
instance w_sz {α : Type} {xs : List α} {p : Prop} [h : Sh xs 100] : W (xs.length ≤ sizeLine ∧ p) p := ⟨fun q => ⟨Nat.le_trans h.le (by decide), q⟩⟩
end
section
variable {δ : Env} {c : SH} {Ψ : XD} {Φ : QD} {ΦT : Bool → SH → Prop} {ΦA : List D → SH → Prop} {ΦO : Option Int → SH → Prop} {N : Env → SH → Prop} {e : EndsD} {a b d3 : ME} {t u : MT} {A : MA} {s1 s2 : MS} {g : MG} {i j np ns : Nat} {d x y : D} {op op' : D → D → SH → QD → Prop} {un : D → SH → QD → Prop} {cb : List D → SH → QD → Prop} {C : Addr} {f m : Str} {F : Fn} {ds as : List D} {mi : MI}
instance w_seq  : W (seqM s1 s2 δ c e) (s1 δ c { e with nx := fun δ' c' => s2 δ' c' e }) := ⟨e_seq⟩
instance w_asg  : W (asgM a g δ c e) (a δ c (e.x δ) fun x c1 => g x δ c1 (e.x δ) e.nx) := ⟨e_asg⟩
instance w_drop  : W (dropM a δ c e) (a δ c (e.x δ) fun _ c1 => e.nx δ c1) := ⟨e_drop⟩
instance w_ret  : W (retM a δ c e) (a δ c (e.x δ) e.rt) := ⟨e_ret⟩
instance w_next  : W (nextM δ c e) (e.nx δ c) := ⟨e_next⟩
instance w_ifS  : W (ifS t s1 s2 δ c e) (t δ c (e.x δ) fun k c1 => if k = true then s1 δ c1 e else s2 δ c1 e) := ⟨e_ifS⟩
instance w_par  : W (parM i j A δ c e) (A δ c (e.x δ) fun xs c1 => twoD xs fun x y => e.nx ((δ.set i (some x)).set j (some y)) c1) := ⟨e_par⟩
instance w_raise  : W (raiseM C f A δ c e) (A δ c (e.x δ) fun xs c1 => oneD xs fun x => e.xc C f x δ c1) := ⟨e_raise⟩
instance w_for  : W (forM mi g s1 δ c e) (mi δ c (e.x δ) fun xs gd c1 => forD gd g s1 xs δ c1 e) := ⟨e_for⟩
instance w_c  : W (cM d δ c Ψ Φ) (Φ d c) := ⟨e_c⟩
instance w_op  : W (opM op a b δ c Ψ Φ) (a δ c Ψ fun x c1 => b δ c1 Ψ fun y c2 => op x y c2 Φ) := ⟨e_op⟩
instance w_un  : W (unM un a δ c Ψ Φ) (a δ c Ψ fun x c1 => un x c1 Φ) := ⟨e_un⟩
instance w_test  : W (testM a δ c Ψ ΦT) (a δ c Ψ fun x c1 => blD x c1 ΦT) := ⟨e_test⟩
instance w_bl {k : Bool} : W (blD (.bl k) c ΦT) (ΦT k c) := ⟨e_bl⟩
instance w_andT  : W (andT t u δ c Ψ ΦT) (t δ c Ψ fun k c1 => if k = true then u δ c1 Ψ ΦT else ΦT false c1) := ⟨e_andT⟩
instance w_orT  : W (orT t u δ c Ψ ΦT) (t δ c Ψ fun k c1 => if k = true then ΦT true c1 else u δ c1 Ψ ΦT) := ⟨e_orT⟩
instance w_notT  : W (notT t δ c Ψ ΦT) (t δ c Ψ fun k c1 => ΦT (!k) c1) := ⟨e_notT⟩
instance w_andM  : W (andM a b δ c Ψ Φ) (a δ c Ψ fun x c1 => blD x c1 fun k c1 => if k = true then b δ c1 Ψ Φ else Φ (.bl false) c1) := ⟨e_andM⟩
instance w_orM  : W (orM a b δ c Ψ Φ) (a δ c Ψ fun x c1 => blD x c1 fun k c1 => if k = true then Φ (.bl true) c1 else b δ c1 Ψ Φ) := ⟨e_orM⟩
instance w_notM  : W (notM a δ c Ψ Φ) (a δ c Ψ fun x c1 => blD x c1 fun k c1 => Φ (.bl (!k)) c1) := ⟨e_notM⟩
instance w_ifM  : W (ifM t a b δ c Ψ Φ) (t δ c Ψ fun k c1 => if k = true then a δ c1 Ψ Φ else b δ c1 Ψ Φ) := ⟨e_ifM⟩
instance w_chain  : W (chainM op op' a b d3 δ c Ψ Φ) (a δ c Ψ fun x c1 => b δ c1 Ψ fun y c2 => op x y c2 fun z c3 => blD z c3 fun k c3 => if k = true then d3 δ c3 Ψ fun w c4 => op' y w c4 Φ else Φ (.bl false) c3) := ⟨e_chain⟩
instance w_nil  : W (nilM δ c Ψ ΦA) (ΦA [] c) := ⟨e_nil⟩
instance w_cons  : W (consM a A δ c Ψ ΦA) (a δ c Ψ fun x c1 => A δ c1 Ψ fun xs c2 => ΦA (x :: xs) c2) := ⟨e_cons⟩
instance w_lst  : W (lstM false A δ c Ψ Φ) (A δ c Ψ fun xs c1 => xs.length ≤ sizeLine ∧ Φ (.lst xs) c1) := ⟨e_lst⟩
instance w_lstO  : W (lstM true A δ c Ψ Φ) (A δ c Ψ fun xs c1 => xs.length ≤ sizeLine ∧ Φ (.obj c1.length) (c1 ++ [.lst xs])) := ⟨e_lstO⟩
instance w_tup  : W (tupM A δ c Ψ Φ) (A δ c Ψ fun xs c1 => xs.length ≤ sizeLine ∧ Φ (.tup xs) c1) := ⟨e_tup⟩
instance w_cb  : W (cbM cb A δ c Ψ Φ) (A δ c Ψ fun xs c1 => cb xs c1 Φ) := ⟨e_cb⟩
instance w_call  : W (callM F ds A δ c Ψ Φ) (A δ c Ψ fun xs c1 => F (xs ++ ds) c1 Ψ Φ) := ⟨e_call⟩
instance w_meth  : W (methM C m F ds a A δ c Ψ Φ) (a δ c Ψ fun x c1 => insD C m x c1 (A δ c1 Ψ fun xs c2 => F (x :: (xs ++ ds)) c2 Ψ Φ)) := ⟨e_meth⟩
instance w_prop  : W (propM C F a δ c Ψ Φ) (a δ c Ψ fun x c1 => (match view c1 x with
  | .ins C' _ => C' = C
  | _ => False) ∧ F [x] c1 noX Φ) := ⟨e_prop⟩
instance w_make  : W (makeM false C F ds A δ c Ψ Φ) (A δ c Ψ fun xs c1 => makeD false C F (xs ++ ds) c1 Ψ Φ) := ⟨e_make⟩
instance w_fld  : W (fldM C f a δ c Ψ Φ) (a δ c Ψ fun x c1 => fldD C f x c1 Φ) := ⟨e_fld⟩
instance w_sfld  : W (sfldM C f a b δ c e) (b δ c (e.x δ) fun y c1 => a δ c1 (e.x δ) fun x c2 => putD C f x y c2 fun c3 => e.nx δ c3) := ⟨e_sfld⟩
instance w_noPart  : W (noPartM δ c Ψ ΦO) (ΦO none c) := ⟨e_noPart⟩
instance w_part  : W (partM a δ c Ψ ΦO) (a δ c Ψ fun x c1 => intD x c1 fun i c1 => ΦO (some i) c1) := ⟨e_part⟩
instance w_int {k : Int} {ΦI : Int → SH → Prop} : W (intD (.int k) c ΦI) (ΦI k c) := ⟨e_int⟩
instance w_sl {lo hi : MO} {so : D → Option Int → Option Int → SH → QD → Prop} : W (slM so a lo hi δ c Ψ Φ) (a δ c Ψ fun x c1 => lo δ c1 Ψ fun l c2 => hi δ c2 Ψ fun u c3 => so x l u c3 Φ) := ⟨e_sl⟩
instance w_bm {T : String} {mo : D → List D → SH → QD → Prop} : W (bmM T mo a A δ c Ψ Φ) (a δ c Ψ fun x c1 => tyM T (view c1 x) ∧ A δ c1 Ψ fun xs c2 => mo x xs c2 Φ) := ⟨e_bm⟩
instance w_bm0 {T : String} {mo : D → List D → SH → QD → Prop} : W (bm0M T mo a δ c Ψ Φ) (a δ c Ψ fun x c1 => tyM T (view c1 x) ∧ mo x [] c1 Φ) := ⟨e_bm0⟩
instance w_m1 {mo : D → List D → SH → QD → Prop} : W (m1M mo a b δ c Ψ Φ) (a δ c Ψ fun x c1 => tyM "str" x ∧ b δ c1 Ψ fun y c2 => mo x [y] c2 Φ) := ⟨e_m1⟩
instance w_rng1 {ΦI : List D → (SH → Prop) → SH → Prop} : W (rng1M A δ c Ψ ΦI) (A δ c Ψ fun xs c1 => oneD xs fun x => intD x c1 fun j c1 => (-(2 ^ 62) ≤ j ∧ j < 2 ^ 62) ∧ ΦI (rngD 0 j.toNat) (fun _ => True) c1) := ⟨e_rng1⟩
instance w_lc {lv : Bool} {vs : List Nat} : W (lcM lv mi g t a vs δ c Ψ Φ) (mi δ c Ψ fun xs gd c1 => lcD gd (turnD g t a (wipeD δ vs)) xs [] c1 (endL lv Φ)) := ⟨e_lc⟩
instance w_caught {K : PySem.W.Frag} {hs : Hds} : W (caughtM K hs a A δ c Ψ Φ) (A δ c Ψ fun xs c1 => oneD xs fun x => a (δ ++ [some x]) c1 (fun C f d c' => dealD K hs C f d c' Φ) fun d c' => Φ (.lst [.str (Str.ofString "told"), d]) c') := ⟨e_caught⟩
instance w_two {k : D → D → Prop} : W (twoD [x, y] k) (k x y) := ⟨e_two⟩
instance w_one {k : D → Prop} : W (oneD [x] k) (k x) := ⟨e_one⟩
instance w_ifT {p q : Prop} : W ((if true = true then p else q)) (p) := ⟨e_ifT⟩
instance w_ifF {p q : Prop} : W ((if false = true then p else q)) (q) := ⟨e_ifF⟩
end
section
instance w_ifNT {p q : Prop} : W ((if (!true) = true then p else q)) (q) := ⟨e_ifNT⟩
instance w_ifNF {p q : Prop} : W ((if (!false) = true then p else q)) (p) := ⟨e_ifNF⟩
end
section
variable {K : PySem.W.Frag} {c : SH} {Φ : QD} {x : D} {C : Addr}
instance w_leI {a b : Int} : W (leD (.int a) (.int b) c Φ) (Φ (.bl (decide (a ≤ b))) c) := ⟨e_leI⟩
instance w_ltI {a b : Int} : W (ltD (.int a) (.int b) c Φ) (Φ (.bl (decide (a < b))) c) := ⟨e_ltI⟩
instance w_gtI {a b : Int} : W (gtD (.int a) (.int b) c Φ) (Φ (.bl (decide (b < a))) c) := ⟨e_gtI⟩
instance w_geI {a b : Int} : W (geD (.int a) (.int b) c Φ) (Φ (.bl (decide (b ≤ a))) c) := ⟨e_geI⟩
instance w_ltS {a b : Str} : W (ltD (.str a) (.str b) c Φ) (Φ (.bl (decide (a.cps.toList < b.cps.toList))) c) := ⟨e_ltS⟩
instance w_eqI {a b : Int} : W (eqD (.int a) (.int b) c Φ) (Φ (.bl (decide (a = b))) c) := ⟨e_eqI⟩
instance w_eqS {a b : Str} : W (eqD (.str a) (.str b) c Φ) (Φ (.bl (decide (a = b))) c) := ⟨e_eqS⟩
instance w_neI {a b : Int} : W (neD (.int a) (.int b) c Φ) (Φ (.bl (!decide (a = b))) c) := ⟨e_neI⟩
instance w_neS {a b : Str} : W (neD (.str a) (.str b) c Φ) (Φ (.bl (!decide (a = b))) c) := ⟨e_neS⟩
instance w_neB {a b : Bool} : W (neD (.bl a) (.bl b) c Φ) (Φ (.bl (!decide (a = b))) c) := ⟨e_neB⟩
instance w_isB {a b : Bool} : W (isD (.bl a) (.bl b) c Φ) (Φ (.bl (decide (a = b))) c) := ⟨e_isB⟩
instance w_isntB {a b : Bool} : W (isntD (.bl a) (.bl b) c Φ) (Φ (.bl (!decide (a = b))) c) := ⟨e_isntB⟩
instance w_addI {lv : Bool} {a b : Int} : W (addD lv (.int a) (.int b) c Φ) (Φ (.int (a + b)) c) := ⟨e_addI⟩
instance w_subI {a b : Int} : W (subD (.int a) (.int b) c Φ) (Φ (.int (a - b)) c) := ⟨e_subI⟩
instance w_int1 {a : Int} : W (int1D [.int a] c Φ) (Φ (.int a) c) := ⟨e_int1⟩
instance w_max2 {a b : Int} : W (max2D [.int a, .int b] c Φ) (Φ (.int (if b > a then b else a)) c) := ⟨e_max2⟩
instance w_min2 {a b : Int} : W (min2D [.int a, .int b] c Φ) (Φ (.int (if b < a then b else a)) c) := ⟨e_min2⟩
instance w_lenL {xs : List D} : W (lenD [.lst xs] c Φ) (Φ (.int xs.length) c) := ⟨e_lenL⟩
instance w_lenT {xs : List D} : W (lenD [.tup xs] c Φ) (Φ (.int xs.length) c) := ⟨e_lenT⟩
instance w_lenR {xs : List D} : W (lenD [.scr xs] c Φ) (Φ (.int xs.length) c) := ⟨e_lenR⟩
instance w_js {ms : List ME} {δ : Env} {Ψ : XD} : W (jsM ms δ c Ψ Φ) (jsD ms Str.empty δ c Ψ fun out c1 => Φ (.str out) c1) := ⟨e_js⟩
instance w_jsc {m : ME} {ms : List ME} {acc : Str} {δ : Env} {Ψ : XD} {ΦS : Str → SH → Prop} : W (jsD (m :: ms) acc δ c Ψ ΦS) (m δ c Ψ (jsK ms acc δ Ψ ΦS)) := ⟨e_jsc⟩
instance w_jsn {acc : Str} {δ : Env} {Ψ : XD} {ΦS : Str → SH → Prop} : W (jsD [] acc δ c Ψ ΦS) (ΦS acc c) := ⟨e_jsn⟩
instance w_fmt {a : ME} {δ : Env} {Ψ : XD} : W (fmtM a δ c Ψ Φ) (a δ c Ψ (fmtK Φ)) := ⟨e_fmt⟩
instance w_yes {δ : Env} {Ψ : XD} {ΦT : Bool → SH → Prop} : W (yesM δ c Ψ ΦT) (ΦT true c) := ⟨e_yes⟩
instance w_turn {g : MG} {t : MT} {a : ME} {δ : Env} {k : Option D → SH → Prop} : W (turnD g t a δ x c k) (g x δ c noX fun δ2 c2 => t δ2 c2 noX fun b c3 => if b = true then a δ2 c3 noX fun y c4 => k (some y) c4 else k none c3) := ⟨e_turn⟩
end
section
variable {K : PySem.W.Frag} {c : SH} {Ψ : XD} {Φ : QD}
instance w_ix0 {x : D} {xs : List D} : W (ixD (.tup (x :: xs)) (.int 0) c Φ) (Φ x c) := ⟨e_ix0⟩
instance w_ix1 {x y : D} {xs : List D} : W (ixD (.tup (x :: y :: xs)) (.int 1) c Φ) (Φ y c) := ⟨e_ix1⟩
instance w_dnew {δ : M.Env} : W (dnewM false δ c Ψ Φ) (Φ (.dic []) c) := ⟨e_dnew⟩
instance w_gtup2 {x y : D} {i j : Nat} {δ : M.Env} {N : M.Env → SH → Prop} : W (gtupM (gconsM i (gconsM j gnilM)) (.tup [x, y]) δ c Ψ N) (N ((δ.set i (some x)).set j (some y)) c) := ⟨e_gtup2⟩
end
section
variable {K : PySem.W.Frag} {δ : Env} {c : SH} {Ψ : XD} {Φ : QD} {a b k e : ME} {A : MA} {g : MG} {t : MT} {mi : MI} {x y : D} {ΦI : List D → (SH → Prop) → SH → Prop} {kvs : List (Key × D)}
instance w_ixL0 {xs : List D} : W (ixD (.lst (x :: xs)) (.int 0) c Φ) (Φ x c) := ⟨e_ixL0⟩
instance w_ixL1 {x y : D} {xs : List D} : W (ixD (.lst (x :: y :: xs)) (.int 1) c Φ) (Φ y c) := ⟨e_ixL1⟩
instance w_ixL2 {x y z : D} {xs : List D} : W (ixD (.lst (x :: y :: z :: xs)) (.int 2) c Φ) (Φ z c) := ⟨e_ixL2⟩
instance w_itM  : W (itM a δ c Ψ ΦI) (a δ c Ψ (itMK ΦI)) := ⟨e_itM⟩
instance w_itL {xs : List D} : W (itMK ΦI (.lst xs) c) (ΦI xs (fun c' => view c' (.lst xs) = view c (.lst xs)) c) := ⟨e_itL⟩
instance w_itT {xs : List D} : W (itMK ΦI (.tup xs) c) (ΦI xs (fun c' => view c' (.tup xs) = view c (.tup xs)) c) := ⟨e_itT⟩
instance w_itemsM  : W (itemsM a δ c Ψ ΦI) (a δ c Ψ (itemsK ΦI)) := ⟨e_itemsM⟩
instance w_valuesM  : W (valuesM a δ c Ψ ΦI) (a δ c Ψ (valuesK ΦI)) := ⟨e_valuesM⟩
instance w_itemsD  : W (itemsK ΦI (.dic kvs) c) (ΦI (kvs.map fun kv => .tup [keyOD kv.1, kv.2]) (fun _ => True) c) := ⟨e_itemsD⟩
instance w_valuesD  : W (valuesK ΦI (.dic kvs) c) (ΦI (kvs.map (·.2)) (fun _ => True) c) := ⟨e_valuesD⟩
instance w_dc {vs : List Nat} : W (dcM false mi g t k e vs δ c Ψ Φ) (mi δ c Ψ fun xs gd c1 => dcD gd (turnK g t k e (wipeD δ vs)) xs [] c1 fun kvs c2 => newK false kvs c2 Φ) := ⟨e_dc⟩
instance w_lenD  : W (lenD [.dic kvs] c Φ) (Φ (.int kvs.length) c) := ⟨e_lenD⟩
instance w_newK  : W (newK false kvs c Φ) (Φ (.dic kvs) c) := ⟨e_newK⟩
instance w_turnK {kk : Option (Key × D) → SH → Prop} : W (turnK g t k e δ x c kk) (g x δ c noX fun δ2 c2 => t δ2 c2 noX fun b c3 => if b = true then k δ2 c3 noX fun y c4 => e δ2 c4 noX fun z c5 => turnKK kk z y c5 else kk none c3) := ⟨e_turnK⟩
instance w_keyS {kk : Option (Key × D) → SH → Prop} {z : D} {s : Str} : W (turnKK kk z (.str s) c) (kk (some (.inr s, z)) c) := ⟨e_keyS⟩
instance w_dict  : W (dictM false A δ c Ψ Φ) (A δ c Ψ fun xs c1 => dictD xs c1 fun kvs => newK false kvs c1 Φ) := ⟨e_dict⟩
instance w_dictC {kk : List (Key × D) → Prop} : W (dictD [.dic kvs] c kk) (kk kvs) := ⟨e_dictC⟩
instance w_gtup3n {i j l : Nat} {x y z : D} {N : Env → SH → Prop} : W (gtupnM 2 (gconsM i (gconsXM (gtupnM 2 (gconsM j (gconsM l gnilM))) gnilM)) (.tup [x, .tup [y, z]]) δ c Ψ N) (N (((δ.set i (some x)).set j (some y)).set l (some z)) c) := ⟨e_gtup3n⟩
instance w_lkM  : W (lkM a δ c Ψ Φ) (a δ c Ψ (lkK Φ)) := ⟨e_lkM⟩
instance w_dputM {o i v : ME} {e : EndsD} : W (dputM o i v δ c e) (v δ c (e.x δ) fun z c1 => o δ c1 (e.x δ) fun x c2 => i δ c2 (e.x δ) fun y c3 => dputK e δ z x y c3) := ⟨e_dputM⟩
instance w_isN  : W (isD x .non c Φ) (Φ (.bl (nonD x)) c) := ⟨e_isN⟩
instance w_isntN  : W (isntD x .non c Φ) (Φ (.bl (!nonD x)) c) := ⟨e_isntN⟩
instance w_caseM {K : PySem.W.Frag} {hs : Hds} {lam d3 : ME} {rest : Fn} : W (caseM K hs lam rest a b d3 δ c Ψ Φ) (a δ c Ψ fun p1 c1 => b δ c1 Ψ fun p2 c2 => d3 δ c2 Ψ fun p3 c3 => lam (δ ++ [some p1]) c3 (fun C g x c' => dealD K hs C g x c' fun fd c'' => rest [p1, p2, p3, fd] c'' noX Φ) fun x c' => rest [p1, p2, p3, toldD x] c' noX Φ) := ⟨e_caseM⟩
instance w_negI {i : Int} : W (negD (.int i) c Φ) (Φ (.int (-i)) c) := ⟨e_negI⟩
end
section
variable {K : PySem.W.Frag} {δ : Env} {c : SH} {Ψ : XD} {Φ : QD} {A : MA} {a b : ME}
instance w_rng2 {ΦI : List D → (SH → Prop) → SH → Prop} : W (rng2M A δ c Ψ ΦI) (A δ c Ψ fun xs c1 => twoD xs fun x y => intD x c1 fun i c1 => intD y c1 fun j c1 => (-(2 ^ 62) ≤ i ∧ i < 2 ^ 62 ∧ -(2 ^ 62) ≤ j ∧ j < 2 ^ 62) ∧ ΦI (rngD i (j - i).toNat) (fun _ => True) c1) := ⟨e_rng2⟩
instance w_disp {lv : Bool} {p : MP} : W (dispM lv p δ c Ψ Φ) (p δ c Ψ fun kvs c1 => kvs.length ≤ 15 ∧ newK lv (mergeD [] kvs) c1 Φ) := ⟨e_disp⟩
instance w_pcons {r : MP} {ΦP : List (Key × D) → SH → Prop} : W (pconsM a b r δ c Ψ ΦP) (a δ c Ψ fun x c1 => b δ c1 Ψ fun y c2 => pconK δ Ψ r ΦP x y c2) := ⟨e_pcons⟩
instance w_pconS {r : MP} {ΦP : List (Key × D) → SH → Prop} {z : Str} {y : D} : W (pconK δ Ψ r ΦP (.str z) y c) (r δ c Ψ fun ps c3 => ΦP ((.inr z, y) :: ps) c3) := ⟨e_pconS⟩
instance w_pnil {ΦP : List (Key × D) → SH → Prop} : W (pnilM δ c Ψ ΦP) (ΦP [] c) := ⟨e_pnil⟩
instance w_par3 {i j l : Nat} {e : EndsD} : W (par3M i j l A δ c e) (A δ c (e.x δ) (par3K i j l δ e)) := ⟨e_par3⟩
instance w_par3K {i j l : Nat} {e : EndsD} {x y z : D} : W (par3K i j l δ e [x, y, z] c) (e.nx (((δ.set i (some x)).set j (some y)).set l (some z)) c) := ⟨e_par3K⟩
instance w_int1b {k : Bool} : W (int1D [.bl k] c Φ) (Φ (.int (if k then 1 else 0)) c) := ⟨e_int1b⟩
instance w_rev {lv : Bool} : W (revM lv a δ c Ψ Φ) (a δ c Ψ (revK lv Φ)) := ⟨e_rev⟩
instance w_enum {ΦI : List D → (SH → Prop) → SH → Prop} : W (enumM A δ c Ψ ΦI) (A δ c Ψ fun xs c1 => oneD xs fun x => enumK ΦI x c1) := ⟨e_enum⟩
instance w_enumL {ΦI : List D → (SH → Prop) → SH → Prop} {xs : List D} : W (enumK ΦI (.lst xs) c) (ΦI (enumD 0 xs) (fun c' => view c' (.lst xs) = view c (.lst xs)) c) := ⟨e_enumL⟩
instance w_gtup3 {x y z : D} {i j l : Nat} {N : Env → SH → Prop} : W (gtupM (gconsM i (gconsM j (gconsM l gnilM))) (.tup [x, y, z]) δ c Ψ N) (N (((δ.set i (some x)).set j (some y)).set l (some z)) c) := ⟨e_gtup3⟩
instance w_sortSet {lv : Bool} : W (sortSetM lv a δ c Ψ Φ) (a δ c Ψ (sortSetK lv Φ)) := ⟨e_sortSet⟩
instance w_listRg {lv : Bool} : W (listRgM lv a δ c Ψ Φ) (a δ c Ψ fun x c1 => intD x c1 fun n c1 => RgOk 0 n ∧ newL lv (rngD 0 n.toNat) c1 Φ) := ⟨e_listRg⟩
instance w_addX {C : Addr} {F : Fn} : W (addXM K C F a b δ c Ψ Φ) (a δ c Ψ fun x c1 => b δ c1 Ψ fun y c2 => (match view c2 x with
  | .ins C' _ => C' = C ∧ (∃ T, tyT K (view c2 y) T ∧ addOk K C T) ∧ F [x, y] c2 Ψ Φ
  | _ => False)) := ⟨e_addX⟩
end
section
instance w_star {a : ME} {A : MA} {δ : Env} {c : SH} {Ψ : XD} {ΦA : List D → SH → Prop} : W (starM a A δ c Ψ ΦA) (a δ c Ψ (starK A δ Ψ ΦA)) := ⟨e_star⟩
instance w_starL {A : MA} {δ : Env} {c : SH} {Ψ : XD} {ΦA : List D → SH → Prop} {xs : List D} : W (starK A δ Ψ ΦA (.lst xs) c) (A δ c Ψ fun ys c2 => ΦA (xs ++ ys) c2) := ⟨e_starL⟩
instance w_lsk {a : ME} {δ : Env} {c : SH} {Ψ : XD} {Φ : QD} : W (lenSetKM a δ c Ψ Φ) (a δ c Ψ (lskD Φ)) := ⟨e_lsk⟩
instance w_gunl2 {x y : D} {i j : Nat} {δ : M.Env} {c : SH} {Ψ : XD} {N : M.Env → SH → Prop} : W (gunlM 2 (gconsM i (gconsM j gnilM)) (.lst [x, y]) δ c Ψ N) (N ((δ.set i (some x)).set j (some y)) c) := ⟨e_gunl2⟩
end
section
instance w_try {K : PySem.W.Frag} {C : Addr} {b h : MS} {δ : Env} {c : SH} {e : EndsD} : W (tryM K C b h δ c e) (b δ c { e with xc := fun C' f d δ' c' => ∃ k, PySem.W.exmOne K (.ref C') (.ref C) = some k ∧ if k = true then h δ' c' e else e.xc C' f d δ' c' }) := ⟨e_try⟩
instance w_cm {a : ME} {C : Addr} {F : Fn} {mA : MA} {δ : Env} {c : SH} {Ψ : XD} {Φ : QD} : W (cmM C F a mA δ c Ψ Φ) (a δ c Ψ fun x c1 => x = .adr C ∧ mA δ c1 Ψ fun xs c2 => F (x :: xs) c2 Ψ Φ) := ⟨e_cm⟩
instance w_makeL {C : Addr} {F : Fn} {mA : MA} {i : Nat} {δ : Env} {c : SH} {Ψ : XD} {Φ : QD} : W (makeLM i C F mA δ c Ψ Φ) (varM i δ c Ψ fun x c1 => x = .adr C ∧ mA δ c1 Ψ fun xs c2 => makeD false C F xs c2 noX Φ) := ⟨e_makeL⟩
instance w_starts {a b : Str} {c : SH} {Φ : QD} : W (startsD (.str a) [.str b] c Φ) (Φ (.bl (Txt.startswith a b)) c) := ⟨e_starts⟩
instance w_back {a : ME} {δ : Env} {c : SH} {Ψ : XD} {Φ : QD} : W (backM false a δ c Ψ Φ) (a δ c Ψ (backK Φ)) := ⟨e_back⟩
end
end M
set_option Elab.async false
set_option linter.all false
set_option maxRecDepth 100000
set_option maxHeartbeats 3900000
namespace M
open PySem PySem.Spec PyProof.Rows L2 G StX
class Ok (p : Prop) : Prop where
  ok : p
class GL (mg : MGs) (n : Nat) : Prop where
  ok : ∀ xs δ c Ψ N, mg xs δ c Ψ N → xs.length = n
class DL (K : PySem.W.Frag) (vs : List V) (ds : List D) : Prop where
  ok : ∀ al G, DenL K al G vs ds
section
variable {K : PySem.W.Frag} {tb : List (Addr × Str)} {W : WX} {vs vs' : List Nat} {n i j : Nat}
instance Ok.cls {p q : Prop} [a : Ok p] [b : Ok q] : Ok (p ∧ q) := ⟨⟨a.ok, b.ok⟩⟩
instance : GL gnilM 0 := ⟨glen_nil⟩
instance {mg : MGs} [h : GL mg n] : GL (gconsM i mg) (n + 1) := ⟨glen_cons h.ok⟩
instance : DL K [] [] := ⟨fun _ _ => .nil⟩
instance {xs : List V} {ds : List D} [h : DL K xs ds] : DL K (.non :: xs) (.non :: ds) := ⟨fun al G => .cons .non (h.ok al G)⟩
instance {xs : List V} {ds : List D} {b : Bool} [h : DL K xs ds] : DL K (.bl b :: xs) (.bl b :: ds) := ⟨fun al G => .cons (.bl b) (h.ok al G)⟩
instance : Ok (SndE K tb W (tC .non) (cM .non)) := ⟨snd_c fun _ _ => .non⟩
instance {b : Bool} : Ok (SndE K tb W (tC (.bl b)) (cM (.bl b))) := ⟨snd_c fun _ _ => .bl b⟩
instance {b : Int} : Ok (SndE K tb W (tC (.int b)) (cM (.int b))) := ⟨snd_c fun _ _ => .int b⟩
instance {b : Str} : Ok (SndE K tb W (tC (.str b)) (cM (.str b))) := ⟨snd_c fun _ _ => .str b⟩
instance {b : String} : Ok (SndE K tb W (tC (.ty b)) (cM (.ty b))) := ⟨snd_c fun _ _ => .ty b⟩
instance {b : Addr} : Ok (SndE K tb W (tC (.ref b)) (cM (.adr b))) := ⟨snd_c fun _ _ => .adr b⟩
instance (priority := low) Ok.memS [h : Ok (i ∈ vs)] : Ok (i ∈ j :: vs) := ⟨List.mem_cons_of_mem _ h.ok⟩
instance Ok.mem0 : Ok (i ∈ i :: vs) := ⟨List.mem_cons_self⟩
instance Ok.map0 : Ok (List.map (fun x : Str × Nat => x.2) [] = []) := ⟨rfl⟩
instance Ok.mapS {a : Str} {r : List (Str × Nat)} [h : Ok (List.map (fun x : Str × Nat => x.2) r = vs)] : Ok (List.map (fun x : Str × Nat => x.2) ((a, i) :: r) = i :: vs) := ⟨by rw [List.map_cons, h.ok]⟩
instance Ok.same {α : Type} {a : α} : Ok (a = a) := ⟨rfl⟩
instance {f : Str → Bool} : Ok (DMt K tb (rM0 fun a => .bl (f a)) (s0D fun a => .bl (f a))) := ⟨dm_s0 fun _ _ _ => .bl _⟩
end
section
variable {K : PySem.W.Frag} {tb : List (Addr × Str)} {W : WX} {ta te tb' t1 t2 t3 : TE} {a b d : ME} {tA : TA} {mA : MA} {C : Addr} {f m : Str} {F : Fn} {dvs : List V} {ds : List D} {lv : Bool} {vs vs' : List Nat}
instance [h : DL K dvs ds] [hA : Ok (SndA K tb W tA mA)] : Ok (SndE K tb W (tCallSD (SpG K tb F) dvs (WE W) tA) (callM F ds mA)) := ⟨snd_call h.ok hA.ok⟩
instance [h : DL K dvs ds] [ha : Ok (SndE K tb W ta a)] [hA : Ok (SndA K tb W tA mA)] : Ok (SndE K tb W (tMethSD C m (SpG K tb F) dvs (WE W) ta tA) (methM C m F ds a mA)) := ⟨snd_meth h.ok ha.ok hA.ok⟩
instance [h : DL K dvs ds] [hA : Ok (SndA K tb W tA mA)] : Ok (SndE K tb W (tMakeSD C (SpG K tb F) dvs (WE W) tA) (makeM lv C F ds mA)) := ⟨snd_make h.ok hA.ok⟩
instance [ha : Ok (SndE K tb W ta a)] : Ok (SndE K tb W (tProp C (SpG K tb F) [] (fun _ _ _ => False) ta) (propM C F a)) := ⟨snd_prop ha.ok⟩
instance {tl th : TO} {lo hi : MO} [ha : Ok (SndE K tb W ta a)] [hl : Ok (SndO K tb W tl lo)] [hh : Ok (SndO K tb W th hi)] : Ok (SndE K tb W (tSl (rSlU K) ta tl th) (slM (slD lv) a lo hi)) := ⟨snd_sl dsl ha.ok hl.ok hh.ok⟩
instance {wi : TI} {mi : MI} {g : TG} {mg : MG} {tt : TT} {mt : MT} {me : ME} [e : Ok (vs' = vs)] [hi : Ok (SndI K tb W wi mi)] [hg : Ok (SndGO K tb (fun _ _ _ _ => False) vs g mg)] [ht : Ok (SndT K tb (fun _ _ _ _ => False) tt mt)] [he : Ok (SndE K tb (fun _ _ _ _ => False) te me)] : Ok (SndE K tb W (tLc wi g tt te vs') (lcM lv mi mg mt me vs)) := ⟨snd_lcE e.ok hi.ok hg.ok ht.ok he.ok⟩
instance {wi : TI} {mi : MI} {g : TG} {mg : MG} {tt : TT} {mt : MT} {tk : TE} {mk me : ME} [e : Ok (vs' = vs)] [hi : Ok (SndI K tb W wi mi)] [hg : Ok (SndGO K tb (fun _ _ _ _ => False) vs g mg)] [ht : Ok (SndT K tb (fun _ _ _ _ => False) tt mt)] [hk : Ok (SndE K tb (fun _ _ _ _ => False) tk mk)] [he : Ok (SndE K tb (fun _ _ _ _ => False) te me)] : Ok (SndE K tb W (tLk (tDc wi g tt tk te vs')) (dcM false mi mg mt mk me vs)) := ⟨snd_dcE e.ok hi.ok hg.ok ht.ok hk.ok he.ok⟩
instance {g : TGs} {mg : MGs} {n : Nat} [hn : GL mg n] [hg : Ok (SndGOs K tb vs g mg)] : Ok (SndGO K tb W vs (gTup K n g) (gtupM mg)) := ⟨sgo_tup hn.ok hg.ok⟩
instance {i : Nat} [h : Ok (i ∈ vs)] : Ok (SndGO K tb W vs (gName i) (gnameM i)) := ⟨sgo_name h.ok⟩
instance {i : Nat} {g : TGs} {mg : MGs} [h : Ok (i ∈ vs)] [hg : Ok (SndGOs K tb vs g mg)] : Ok (SndGOs K tb vs (gCons (gName i) g) (gconsM i mg)) := ⟨sgo_cons h.ok hg.ok⟩
instance (priority := low) {g : TG} {mg : MG} [h : Ok (SndGO K tb W [0, 1, 2, 3, 4, 5, 6, 7, 8, 9, 10, 11, 12, 13, 14, 15, 16, 17, 18, 19, 20, 21, 22, 23, 24, 25] g mg)] : Ok (SndG K tb W g mg) := ⟨h.ok.g⟩
instance {q : Str} {tbd : XK → TE} {lam : ME} {hs : Hds} {E : XK} [hl : ∀ E : XK, Ok (SndE K tb (fun C d _ H => E C d H) (tbd E) lam)] [hA : Ok (SndA K tb W tA mA)] : Ok (SndE K tb W (tLam1 tb q tbd (fun f sp => sp_caughtG K hs f sp) E tA) (caughtM K hs lam mA)) := ⟨snd_caught (fun E => (hl E).ok) hA.ok⟩
instance {t : TE} {mb : Bool → ME} [h : ∀ b, Ok (SndE K tb W t (mb b))] : Ok (SndE K tb W t (anyE mb)) := ⟨snd_anyE fun b => (h b).ok⟩
instance {t : WX → TS} {ts : TS} {b h : MS} [hb : ∀ V : WX, Ok (SndS K tb V (t V) b)] [hh : Ok (SndS K tb W ts h)] : Ok (SndS K tb W (tTryN K (.ref C) t ts W) (tryM K C b h)) := ⟨snd_try (fun V => (hb V).ok) hh.ok⟩
instance : Ok (SndJ K tb W [] []) := ⟨.nil⟩
instance {ts : List TE} {ms : List ME} [h : Ok (SndE K tb W ta a)] [k : Ok (SndJ K tb W ts ms)] : Ok (SndJ K tb W (ta :: ts) (a :: ms)) := ⟨.cons h.ok k.ok⟩
instance {ts : List TE} {ms : List ME} [h : Ok (SndJ K tb W ts ms)] : Ok (SndE K tb W (fun σ H Q => tJs ts Str.empty σ H fun out H1 => Q (.str out) H1) (jsM ms)) := ⟨snd_js h.ok⟩
end
section
variable   {K : PySem.W.Frag} {tb : List (Addr × Str)} {W : WX} {ta tb' tc te : TE} {a b e : ME} {t u : TT} {mt mu : MT} {tA : TA} {mA : MA}
instance i_snd_var {i : Nat}  : Ok (SndE K tb W (tVar i) (varM i)) := ⟨snd_var⟩
end
section
variable   {K : PySem.W.Frag} {tb : List (Addr × Str)} {W : WX} {ta tb' tc te : TE} {a b e : ME} {t u : TT} {mt mu : MT} {tA : TA} {mA : MA}
instance i_snd_op {r : R2} {op : D → D → SH → QD → Prop} [ho : Ok (DOp K tb r op)] [ha : Ok (SndE K tb W ta a)] [hb : Ok (SndE K tb W tb' b)] : Ok (SndE K tb W (tOp r ta tb') (opM op a b)) := ⟨snd_op ho.ok ha.ok hb.ok⟩
end
section
variable   {K : PySem.W.Frag} {tb : List (Addr × Str)} {W : WX} {ta tb' tc te : TE} {a b e : ME} {t u : TT} {mt mu : MT} {tA : TA} {mA : MA}
instance i_snd_un {r : V → Hp → VK → Prop} {op : D → SH → QD → Prop} [ho : Ok (DUn K tb r op)] [ha : Ok (SndE K tb W ta a)] : Ok (SndE K tb W (tUn r ta) (unM op a)) := ⟨snd_un ho.ok ha.ok⟩
end
section
variable   {K : PySem.W.Frag} {tb : List (Addr × Str)} {W : WX} {ta tb' tc te : TE} {a b e : ME} {t u : TT} {mt mu : MT} {tA : TA} {mA : MA}
instance i_snd_test  [ha : Ok (SndE K tb W ta a)] : Ok (SndT K tb W (tTest ta) (testM a)) := ⟨snd_test ha.ok⟩
end
section
variable   {K : PySem.W.Frag} {tb : List (Addr × Str)} {W : WX} {ta tb' tc te : TE} {a b e : ME} {t u : TT} {mt mu : MT} {tA : TA} {mA : MA}
instance i_snd_B  [ha : Ok (SndE K tb W ta a)] : Ok (SndT K tb W (tB ta) (testM a)) := ⟨snd_B ha.ok⟩
end
section
variable   {K : PySem.W.Frag} {tb : List (Addr × Str)} {W : WX} {ta tb' tc te : TE} {a b e : ME} {t u : TT} {mt mu : MT} {tA : TA} {mA : MA}
instance i_snd_and  [ha : Ok (SndT K tb W t mt)] [hb : Ok (SndT K tb W u mu)] : Ok (SndT K tb W (tAnd t u) (andT mt mu)) := ⟨snd_and ha.ok hb.ok⟩
end
section
variable   {K : PySem.W.Frag} {tb : List (Addr × Str)} {W : WX} {ta tb' tc te : TE} {a b e : ME} {t u : TT} {mt mu : MT} {tA : TA} {mA : MA}
instance i_snd_or  [ha : Ok (SndT K tb W t mt)] [hb : Ok (SndT K tb W u mu)] : Ok (SndT K tb W (tOr t u) (orT mt mu)) := ⟨snd_or ha.ok hb.ok⟩
end
section
variable   {K : PySem.W.Frag} {tb : List (Addr × Str)} {W : WX} {ta tb' tc te : TE} {a b e : ME} {t u : TT} {mt mu : MT} {tA : TA} {mA : MA}
instance i_snd_not  [ha : Ok (SndT K tb W t mt)] : Ok (SndT K tb W (tNot t) (notT mt)) := ⟨snd_not ha.ok⟩
end
section
variable   {K : PySem.W.Frag} {tb : List (Addr × Str)} {W : WX} {ta tb' tc te : TE} {a b e : ME} {t u : TT} {mt mu : MT} {tA : TA} {mA : MA}
instance i_snd_andV  [ha : Ok (SndE K tb W ta a)] [hb : Ok (SndE K tb W tb' b)] : Ok (SndE K tb W (tAndV ta tb') (andM a b)) := ⟨snd_andV ha.ok hb.ok⟩
end
section
variable   {K : PySem.W.Frag} {tb : List (Addr × Str)} {W : WX} {ta tb' tc te : TE} {a b e : ME} {t u : TT} {mt mu : MT} {tA : TA} {mA : MA}
instance i_snd_orV  [ha : Ok (SndE K tb W ta a)] [hb : Ok (SndE K tb W tb' b)] : Ok (SndE K tb W (tOrV ta tb') (orM a b)) := ⟨snd_orV ha.ok hb.ok⟩
end
section
variable   {K : PySem.W.Frag} {tb : List (Addr × Str)} {W : WX} {ta tb' tc te : TE} {a b e : ME} {t u : TT} {mt mu : MT} {tA : TA} {mA : MA}
instance i_snd_notV  [ha : Ok (SndE K tb W ta a)] : Ok (SndE K tb W (tNotV ta) (notM a)) := ⟨snd_notV ha.ok⟩
end
section
variable   {K : PySem.W.Frag} {tb : List (Addr × Str)} {W : WX} {ta tb' tc te : TE} {a b e : ME} {t u : TT} {mt mu : MT} {tA : TA} {mA : MA}
instance i_snd_if  [ht : Ok (SndT K tb W t mt)] [ha : Ok (SndE K tb W ta a)] [hb : Ok (SndE K tb W tb' b)] : Ok (SndE K tb W (tIf t ta tb') (ifM mt a b)) := ⟨snd_if ht.ok ha.ok hb.ok⟩
end
section
variable   {K : PySem.W.Frag} {tb : List (Addr × Str)} {W : WX} {ta tb' tc te : TE} {a b e : ME} {t u : TT} {mt mu : MT} {tA : TA} {mA : MA}
instance i_snd_chain {r r' : R2} {op op' : D → D → SH → QD → Prop} [ho : Ok (DOp K tb r op)] [ho' : Ok (DOp K tb r' op')] [ha : Ok (SndE K tb W ta a)] [hb : Ok (SndE K tb W tb' b)] [he : Ok (SndE K tb W tc e)] : Ok (SndE K tb W (tChain r r' ta tb' tc) (chainM op op' a b e)) := ⟨snd_chain ho.ok ho'.ok ha.ok hb.ok he.ok⟩
end
section
variable   {K : PySem.W.Frag} {tb : List (Addr × Str)} {W : WX} {ta tb' tc te : TE} {a b e : ME} {t u : TT} {mt mu : MT} {tA : TA} {mA : MA}
instance i_snd_nil   : Ok (SndA K tb W tNil nilM) := ⟨snd_nil⟩
end
section
variable   {K : PySem.W.Frag} {tb : List (Addr × Str)} {W : WX} {ta tb' tc te : TE} {a b e : ME} {t u : TT} {mt mu : MT} {tA : TA} {mA : MA}
instance i_snd_cons  [ha : Ok (SndE K tb W ta a)] [hA : Ok (SndA K tb W tA mA)] : Ok (SndA K tb W (tCons ta tA) (consM a mA)) := ⟨snd_cons ha.ok hA.ok⟩
end
section
variable   {K : PySem.W.Frag} {tb : List (Addr × Str)} {W : WX} {ta tb' tc te : TE} {a b e : ME} {t u : TT} {mt mu : MT} {tA : TA} {mA : MA}
instance i_snd_lst {lv : Bool} [hA : Ok (SndA K tb W tA mA)] : Ok (SndE K tb W (tLst tA) (lstM lv mA)) := ⟨snd_lst hA.ok⟩
end
section
variable   {K : PySem.W.Frag} {tb : List (Addr × Str)} {W : WX} {ta tb' tc te : TE} {a b e : ME} {t u : TT} {mt mu : MT} {tA : TA} {mA : MA}
instance i_snd_tup  [hA : Ok (SndA K tb W tA mA)] : Ok (SndE K tb W (tTup tA) (tupM mA)) := ⟨snd_tup hA.ok⟩
end
section
variable   {K : PySem.W.Frag} {tb : List (Addr × Str)} {W : WX} {ta tb' tc te : TE} {a b e : ME} {t u : TT} {mt mu : MT} {tA : TA} {mA : MA}
instance i_snd_CB {rc : List V → Hp → VK → Prop} {op : List D → SH → QD → Prop} [ho : Ok (DCall K tb rc op)] [hA : Ok (SndA K tb W tA mA)] : Ok (SndE K tb W (tCB rc tA) (cbM op mA)) := ⟨snd_CB ho.ok hA.ok⟩
end
section
variable   {K : PySem.W.Frag} {tb : List (Addr × Str)} {W : WX} {ta tb' tc te : TE} {a b e : ME} {t u : TT} {mt mu : MT} {tA : TA} {mA : MA}
instance i_snd_noPart   : Ok (SndO K tb W tNoPart noPartM) := ⟨snd_noPart⟩
end
section
variable   {K : PySem.W.Frag} {tb : List (Addr × Str)} {W : WX} {ta tb' tc te : TE} {a b e : ME} {t u : TT} {mt mu : MT} {tA : TA} {mA : MA}
instance i_snd_part  [ha : Ok (SndE K tb W ta a)] : Ok (SndO K tb W (tPart ta) (partM a)) := ⟨snd_part ha.ok⟩
end
section
variable   {K : PySem.W.Frag} {tb : List (Addr × Str)} {W : WX} {ta te : TE} {a : ME} {st su : TS} {ms mu : MS} {t : TT} {mt : MT} {tA : TA} {mA : MA} {g : TG} {mg : MG} {wi : TI} {mi : MI}
instance i_snd_seq  [h : Ok (SndS K tb W st ms)] [k : Ok (SndS K tb W su mu)] : Ok (SndS K tb W (tSeq st su) (seqM ms mu)) := ⟨snd_seq h.ok k.ok⟩
end
section
variable   {K : PySem.W.Frag} {tb : List (Addr × Str)} {W : WX} {ta te : TE} {a : ME} {st su : TS} {ms mu : MS} {t : TT} {mt : MT} {tA : TA} {mA : MA} {g : TG} {mg : MG} {wi : TI} {mi : MI}
instance i_snd_gname {i : Nat}  : Ok (SndG K tb W (gName i) (gnameM i)) := ⟨snd_gname⟩
end
section
variable   {K : PySem.W.Frag} {tb : List (Addr × Str)} {W : WX} {ta te : TE} {a : ME} {st su : TS} {ms mu : MS} {t : TT} {mt : MT} {tA : TA} {mA : MA} {g : TG} {mg : MG} {wi : TI} {mi : MI}
instance i_snd_asg  [ha : Ok (SndE K tb W ta a)] [hg : Ok (SndG K tb W g mg)] : Ok (SndS K tb W (tAsg ta g) (asgM a mg)) := ⟨snd_asg ha.ok hg.ok⟩
end
section
variable   {K : PySem.W.Frag} {tb : List (Addr × Str)} {W : WX} {ta te : TE} {a : ME} {st su : TS} {ms mu : MS} {t : TT} {mt : MT} {tA : TA} {mA : MA} {g : TG} {mg : MG} {wi : TI} {mi : MI}
instance i_snd_drop  [ha : Ok (SndE K tb W ta a)] : Ok (SndS K tb W (tDrop ta) (dropM a)) := ⟨snd_drop ha.ok⟩
end
section
variable   {K : PySem.W.Frag} {tb : List (Addr × Str)} {W : WX} {ta te : TE} {a : ME} {st su : TS} {ms mu : MS} {t : TT} {mt : MT} {tA : TA} {mA : MA} {g : TG} {mg : MG} {wi : TI} {mi : MI}
instance i_snd_ret  [ha : Ok (SndE K tb W ta a)] : Ok (SndS K tb W (tRet ta) (retM a)) := ⟨snd_ret ha.ok⟩
end
section
variable   {K : PySem.W.Frag} {tb : List (Addr × Str)} {W : WX} {ta te : TE} {a : ME} {st su : TS} {ms mu : MS} {t : TT} {mt : MT} {tA : TA} {mA : MA} {g : TG} {mg : MG} {wi : TI} {mi : MI}
instance i_snd_retN   : Ok (SndS K tb W tRetN retNM) := ⟨snd_retN⟩
end
section
variable   {K : PySem.W.Frag} {tb : List (Addr × Str)} {W : WX} {ta te : TE} {a : ME} {st su : TS} {ms mu : MS} {t : TT} {mt : MT} {tA : TA} {mA : MA} {g : TG} {mg : MG} {wi : TI} {mi : MI}
instance i_snd_next   : Ok (SndS K tb W tNext nextM) := ⟨snd_next⟩
end
section
variable   {K : PySem.W.Frag} {tb : List (Addr × Str)} {W : WX} {ta te : TE} {a : ME} {st su : TS} {ms mu : MS} {t : TT} {mt : MT} {tA : TA} {mA : MA} {g : TG} {mg : MG} {wi : TI} {mi : MI}
instance i_snd_break   : Ok (SndS K tb W tBreak breakM) := ⟨snd_break⟩
end
section
variable   {K : PySem.W.Frag} {tb : List (Addr × Str)} {W : WX} {ta te : TE} {a : ME} {st su : TS} {ms mu : MS} {t : TT} {mt : MT} {tA : TA} {mA : MA} {g : TG} {mg : MG} {wi : TI} {mi : MI}
instance i_snd_cont   : Ok (SndS K tb W tCont contM) := ⟨snd_cont⟩
end
section
variable   {K : PySem.W.Frag} {tb : List (Addr × Str)} {W : WX} {ta te : TE} {a : ME} {st su : TS} {ms mu : MS} {t : TT} {mt : MT} {tA : TA} {mA : MA} {g : TG} {mg : MG} {wi : TI} {mi : MI}
instance i_snd_ifS  [ht : Ok (SndT K tb W t mt)] [h : Ok (SndS K tb W st ms)] [k : Ok (SndS K tb W su mu)] : Ok (SndS K tb W (tIfS t st su) (ifS mt ms mu)) := ⟨snd_ifS ht.ok h.ok k.ok⟩
end
section
variable   {K : PySem.W.Frag} {tb : List (Addr × Str)} {W : WX} {ta te : TE} {a : ME} {st su : TS} {ms mu : MS} {t : TT} {mt : MT} {tA : TA} {mA : MA} {g : TG} {mg : MG} {wi : TI} {mi : MI}
instance i_snd_par {i j : Nat} [hA : Ok (SndA K tb W tA mA)] : Ok (SndS K tb W (tPar i j tA) (parM i j mA)) := ⟨snd_par hA.ok⟩
end
section
variable   {K : PySem.W.Frag} {tb : List (Addr × Str)} {W : WX} {ta te : TE} {a : ME} {st su : TS} {ms mu : MS} {t : TT} {mt : MT} {tA : TA} {mA : MA} {g : TG} {mg : MG} {wi : TI} {mi : MI}
instance i_snd_raise {C : Addr} {f : Str} [hA : Ok (SndA K tb W tA mA)] : Ok (SndS K tb W (tRaiseE C f W tA) (raiseM C f mA)) := ⟨snd_raise hA.ok⟩
end
section
variable   {K : PySem.W.Frag} {tb : List (Addr × Str)} {W : WX} {ta te : TE} {a : ME} {st su : TS} {ms mu : MS} {t : TT} {mt : MT} {tA : TA} {mA : MA} {g : TG} {mg : MG} {wi : TI} {mi : MI}
instance i_snd_for  [hi : Ok (SndI K tb W wi mi)] [hg : Ok (SndG K tb W g mg)] [hb : Ok (SndS K tb W st ms)] : Ok (SndS K tb W (tFor wi g st) (forM mi mg ms)) := ⟨snd_for hi.ok hg.ok hb.ok⟩
end
section
variable   {K : PySem.W.Frag} {tb : List (Addr × Str)} {W : WX} {ta te : TE} {a : ME} {st su : TS} {ms mu : MS} {t : TT} {mt : MT} {tA : TA} {mA : MA} {g : TG} {mg : MG} {wi : TI} {mi : MI}
instance i_snd_while  [ht : Ok (SndT K tb W t mt)] [hb : Ok (SndS K tb W st ms)] : Ok (SndS K tb W (tWhile t st) (whileM mt ms)) := ⟨snd_while ht.ok hb.ok⟩
end
section
variable   {K : PySem.W.Frag} {tb : List (Addr × Str)}
instance i_dop_add {lv : Bool}  : Ok (DOp K tb rAddU (addD lv)) := ⟨dop_add⟩
end
section
variable   {K : PySem.W.Frag} {tb : List (Addr × Str)}
instance i_dop_sub   : Ok (DOp K tb (rI0 fun i j => .int (i - j)) subD) := ⟨dop_sub⟩
end
section
variable   {K : PySem.W.Frag} {tb : List (Addr × Str)}
instance i_dop_mul {lv : Bool}  : Ok (DOp K tb rMulU (mulD lv)) := ⟨dop_mul⟩
end
section
variable   {K : PySem.W.Frag} {tb : List (Addr × Str)}
instance i_dop_fdiv   : Ok (DOp K tb rFdivU fdivD) := ⟨dop_fdiv⟩
end
section
variable   {K : PySem.W.Frag} {tb : List (Addr × Str)}
instance i_dop_mod   : Ok (DOp K tb rModU modD) := ⟨dop_mod⟩
end
section
variable   {K : PySem.W.Frag} {tb : List (Addr × Str)}
instance i_dop_pow   : Ok (DOp K tb rPowU powD) := ⟨dop_pow⟩
end
section
variable   {K : PySem.W.Frag} {tb : List (Addr × Str)}
instance i_dun_neg   : Ok (DUn K tb (rU fun i => .int (-i)) negD) := ⟨dun_neg⟩
end
section
variable   {K : PySem.W.Frag} {tb : List (Addr × Str)}
instance i_dop_lt   : Ok (DOp K tb rLtU ltD) := ⟨dop_lt⟩
end
section
variable   {K : PySem.W.Frag} {tb : List (Addr × Str)}
instance i_dop_le   : Ok (DOp K tb rLeU leD) := ⟨dop_le⟩
end
section
variable   {K : PySem.W.Frag} {tb : List (Addr × Str)}
instance i_dop_gt   : Ok (DOp K tb rGtU gtD) := ⟨dop_gt⟩
end
section
variable   {K : PySem.W.Frag} {tb : List (Addr × Str)}
instance i_dop_ge   : Ok (DOp K tb rGeU geD) := ⟨dop_ge⟩
end
section
variable   {K : PySem.W.Frag} {tb : List (Addr × Str)}
instance i_dop_is   : Ok (DOp K tb rIsU isD) := ⟨dop_is⟩
end
section
variable   {K : PySem.W.Frag} {tb : List (Addr × Str)}
instance i_dop_isnt   : Ok (DOp K tb rIsNotU isntD) := ⟨dop_isnt⟩
end
section
variable   {K : PySem.W.Frag} {tb : List (Addr × Str)}
instance i_dop_ix   : Ok (DOp K tb (rIx K) ixD) := ⟨dop_ix⟩
end
section
variable   {K : PySem.W.Frag} {tb : List (Addr × Str)} {W : WX} {ta te : TE} {a : ME} {tA : TA} {mA : MA}
instance i_snd_itV  [ha : Ok (SndE K tb W ta a)] : Ok (SndI K tb W (iV K ta) (itM a)) := ⟨snd_itV ha.ok⟩
end
section
variable   {K : PySem.W.Frag} {tb : List (Addr × Str)} {W : WX} {ta te : TE} {a : ME} {tA : TA} {mA : MA}
instance i_snd_rng1  [hA : Ok (SndA K tb W tA mA)] : Ok (SndI K tb W (iRng1 tA) (rng1M mA)) := ⟨snd_rng1 hA.ok⟩
end
section
variable   {K : PySem.W.Frag} {tb : List (Addr × Str)} {W : WX} {ta te : TE} {a : ME} {tA : TA} {mA : MA}
instance i_snd_rng2  [hA : Ok (SndA K tb W tA mA)] : Ok (SndI K tb W (iRng2 tA) (rng2M mA)) := ⟨snd_rng2 hA.ok⟩
end
section
variable   {K : PySem.W.Frag} {tb : List (Addr × Str)} {W : WX} {ta te : TE} {a : ME} {tA : TA} {mA : MA}
instance i_snd_enum  [hA : Ok (SndA K tb W tA mA)] : Ok (SndI K tb W (iEnum K tA) (enumM mA)) := ⟨snd_enum hA.ok⟩
end
section
variable   {K : PySem.W.Frag} {tb : List (Addr × Str)} {W : WX} {ta te : TE} {a : ME} {tA : TA} {mA : MA}
instance i_snd_zip  [hA : Ok (SndA K tb W tA mA)] : Ok (SndI K tb W (iZip K tA) (zipM mA)) := ⟨snd_zip hA.ok⟩
end
section
variable   {K : PySem.W.Frag} {tb : List (Addr × Str)} {W : WX} {vs : List Nat}
instance i_sgo_nil   : Ok (SndGOs K tb vs gNil gnilM) := ⟨sgo_nil⟩
end
section
variable   {K : PySem.W.Frag} {tb : List (Addr × Str)}
instance i_dop_eq   : Ok (DOp K tb (rEqU K) eqD) := ⟨dop_eq⟩
end
section
variable   {K : PySem.W.Frag} {tb : List (Addr × Str)}
instance i_dop_ne   : Ok (DOp K tb (rNeU K) neD) := ⟨dop_ne⟩
end
section
variable   {K : PySem.W.Frag} {tb : List (Addr × Str)}
instance i_dop_in   : Ok (DOp K tb (rInU K) (inD false)) := ⟨dop_in⟩
end
section
variable   {K : PySem.W.Frag} {tb : List (Addr × Str)}
instance i_dop_nin   : Ok (DOp K tb (rNotInU K) (inD true)) := ⟨dop_nin⟩
end
section
variable   {K : PySem.W.Frag} {tb : List (Addr × Str)}
instance i_dc_isi   : Ok (DCall K tb (rIsiU K) (isiD K)) := ⟨dc_isi⟩
end
section
variable   {K : PySem.W.Frag} {tb : List (Addr × Str)}
instance i_dc_len   : Ok (DCall K tb (rLenU K) lenD) := ⟨dc_len⟩
end
section
variable   {K : PySem.W.Frag} {tb : List (Addr × Str)} {W : WX} {ta te : TE} {a b : ME} {tA : TA} {mA : MA} {C : Addr} {f m : Str} {F : Fn}
instance i_snd_fld  [cl : Ok (Cls K C)] [na : Ok (NoAttr K C f)] [ha : Ok (SndE K tb W ta a)] : Ok (SndE K tb W (tFld K ta f) (fldM C f a)) := ⟨snd_fld cl.ok na.ok ha.ok⟩
end
section
variable   {K : PySem.W.Frag} {tb : List (Addr × Str)} {W : WX} {ta te : TE} {a b : ME} {tA : TA} {mA : MA} {C : Addr} {f m : Str} {F : Fn}
instance i_snd_sfld  [cl : Ok (Cls K C)] [na : Ok (NoAttr K C f)] [ha : Ok (SndE K tb W ta a)] [hv : Ok (SndE K tb W te b)] : Ok (SndS K tb W (sFld K ta te f) (sfldM C f a b)) := ⟨snd_sfld cl.ok na.ok ha.ok hv.ok⟩
end
section
variable   {K : PySem.W.Frag} {tb : List (Addr × Str)} {W : WX} {ta te : TE} {a b : ME} {tA : TA} {mA : MA} {T : String} {r : V → List V → Hp → VK → Prop} {op : D → List D → SH → QD → Prop}
instance i_snd_bm0  [ho : Ok (DMt K tb r op)] [ha : Ok (SndE K tb W ta a)] : Ok (SndE K tb W (tBM0 K T r ta) (bm0M T op a)) := ⟨snd_bm0 ho.ok ha.ok⟩
end
section
variable   {K : PySem.W.Frag} {tb : List (Addr × Str)} {W : WX} {ta te : TE} {a b : ME} {tA : TA} {mA : MA} {T : String} {r : V → List V → Hp → VK → Prop} {op : D → List D → SH → QD → Prop}
instance i_snd_bm  [ho : Ok (DMt K tb r op)] [ha : Ok (SndE K tb W ta a)] [hA : Ok (SndA K tb W tA mA)] : Ok (SndE K tb W (tBM K T r ta tA) (bmM T op a mA)) := ⟨snd_bm ho.ok ha.ok hA.ok⟩
end
section
variable   {K : PySem.W.Frag} {tb : List (Addr × Str)} {W : WX} {ta te : TE} {a b : ME} {tA : TA} {mA : MA} {T : String} {r : V → List V → Hp → VK → Prop} {op : D → List D → SH → QD → Prop}
instance i_snd_m1  [ho : Ok (DMt K tb r op)] [ha : Ok (SndE K tb W ta a)] [hb : Ok (SndE K tb W te b)] : Ok (SndE K tb W (tM1 r ta te) (m1M op a b)) := ⟨snd_m1 ho.ok ha.ok hb.ok⟩
end
section
variable   {K : PySem.W.Frag} {tb : List (Addr × Str)} {W : WX} {ta te : TE} {a b : ME} {tA : TA} {mA : MA} {T : String} {r : V → List V → Hp → VK → Prop} {op : D → List D → SH → QD → Prop}
instance i_dm_append   : Ok (DMt K tb rAppend appendD) := ⟨dm_append⟩
end
section
variable   {K : PySem.W.Frag} {tb : List (Addr × Str)} {W : WX} {ta te : TE} {a b : ME} {tA : TA} {mA : MA} {T : String} {r : V → List V → Hp → VK → Prop} {op : D → List D → SH → QD → Prop}
instance i_dm_extend   : Ok (DMt K tb rExtend extendD) := ⟨dm_extend⟩
end
section
variable   {K : PySem.W.Frag} {tb : List (Addr × Str)} {W : WX} {ta te : TE} {a b : ME} {tA : TA} {mA : MA} {T : String} {r : V → List V → Hp → VK → Prop} {op : D → List D → SH → QD → Prop}
instance i_dm_pop   : Ok (DMt K tb rPop popD) := ⟨dm_pop⟩
end
section
variable   {K : PySem.W.Frag} {tb : List (Addr × Str)} {W : WX} {ta te : TE} {a b : ME} {tA : TA} {mA : MA} {T : String} {r : V → List V → Hp → VK → Prop} {op : D → List D → SH → QD → Prop}
instance i_dm_popAt   : Ok (DMt K tb rPopAt popAtD) := ⟨dm_popAt⟩
end
section
variable   {K : PySem.W.Frag} {tb : List (Addr × Str)} {W : WX} {ta te : TE} {a b : ME} {tA : TA} {mA : MA} {T : String} {r : V → List V → Hp → VK → Prop} {op : D → List D → SH → QD → Prop}
instance i_dm_join   : Ok (DMt K tb (rJoin K) joinD) := ⟨dm_join⟩
end
section
variable   {K : PySem.W.Frag} {tb : List (Addr × Str)} {W : WX} {ta te : TE} {a b : ME} {tA : TA} {mA : MA} {T : String} {r : V → List V → Hp → VK → Prop} {op : D → List D → SH → QD → Prop}
instance i_dm_split {lv : Bool}  : Ok (DMt K tb rSplit (splitD lv)) := ⟨dm_split⟩
end
section
variable   {K : PySem.W.Frag} {tb : List (Addr × Str)} {W : WX} {ta te : TE} {a b : ME} {tA : TA} {mA : MA} {T : String} {r : V → List V → Hp → VK → Prop} {op : D → List D → SH → QD → Prop}
instance i_dc_list {lv : Bool}  : Ok (DCall K tb (rListU K) (listD lv)) := ⟨dc_list⟩
end
section
variable   {K : PySem.W.Frag} {tb : List (Addr × Str)} {W : WX} {ta te : TE} {a b : ME} {tA : TA} {mA : MA} {T : String} {r : V → List V → Hp → VK → Prop} {op : D → List D → SH → QD → Prop}
instance i_dc_int   : Ok (DCall K tb rInt1 int1D) := ⟨dc_int⟩
end
section
variable   {K : PySem.W.Frag} {tb : List (Addr × Str)} {W : WX} {ta te : TE} {a b : ME} {tA : TA} {mA : MA} {T : String} {r : V → List V → Hp → VK → Prop} {op : D → List D → SH → QD → Prop}
instance i_dc_max2   : Ok (DCall K tb (rMaxU K) max2D) := ⟨dc_max2⟩
end
section
variable   {K : PySem.W.Frag} {tb : List (Addr × Str)} {W : WX} {ta te : TE} {a b : ME} {tA : TA} {mA : MA} {T : String} {r : V → List V → Hp → VK → Prop} {op : D → List D → SH → QD → Prop}
instance i_dc_min2   : Ok (DCall K tb (rMinU K) min2D) := ⟨dc_min2⟩
end
section
variable   {K : PySem.W.Frag} {tb : List (Addr × Str)} {W : WX} {C : Addr} {F : Fn} {fin : Bool → Bool}
instance i_dop_or {r1 r2 : R2} {o1 o2 : D → D → SH → QD → Prop} [h1 : Ok (DOp K tb r1 o1)] [h2 : Ok (DOp K tb r2 o2)] : Ok (DOp K tb (fun x y H Q => r1 x y H Q ∨ r2 x y H Q) (orD o1 o2)) := ⟨dop_or h1.ok h2.ok⟩
end
section
variable   {K : PySem.W.Frag} {tb : List (Addr × Str)} {W : WX} {C : Addr} {F : Fn} {fin : Bool → Bool}
instance i_dc_or {r1 r2 : List V → Hp → VK → Prop} {o1 o2 : List D → SH → QD → Prop} [h1 : Ok (DCall K tb r1 o1)] [h2 : Ok (DCall K tb r2 o2)] : Ok (DCall K tb (fun x H Q => r1 x H Q ∨ r2 x H Q) (orC o1 o2)) := ⟨dc_or h1.ok h2.ok⟩
end
section
variable   {K : PySem.W.Frag} {tb : List (Addr × Str)} {W : WX} {C : Addr} {F : Fn} {fin : Bool → Bool}
instance i_dop_cmpX   : Ok (DOp K tb (rCmpX K C (SpG K tb F) fin) (cmpX K C F fin)) := ⟨dop_cmpX⟩
end
section
variable   {K : PySem.W.Frag} {tb : List (Addr × Str)} {W : WX} {C : Addr} {F : Fn} {fin : Bool → Bool}
instance i_dop_inX   : Ok (DOp K tb (rInX C (SpG K tb F) fin) (inX C F fin)) := ⟨dop_inX⟩
end
section
variable   {K : PySem.W.Frag} {tb : List (Addr × Str)} {W : WX} {C : Addr} {F : Fn} {fin : Bool → Bool}
instance i_dc_strX   : Ok (DCall K tb (rStrO C (SpG K tb F) fun _ _ _ => False) (strX C F)) := ⟨dc_strX⟩
end
section
variable   {K : PySem.W.Frag} {tb : List (Addr × Str)} {W : WX} {ta : TE} {a : ME}
instance i_snd_fmt  [ha : Ok (SndE K tb W ta a)] : Ok (SndE K tb W (tFmt ta) (fmtM a)) := ⟨snd_fmt ha.ok⟩
end
section
instance i_snd_yes {K : PySem.W.Frag} {tb : List (Addr × Str)} {W : WX}  : Ok (SndT K tb W tYes yesM) := ⟨snd_yes⟩
end
section
instance i_snd_never {K : PySem.W.Frag} {tb : List (Addr × Str)} {W : WX}  : Ok (SndS K tb W tNever neverM) := ⟨snd_never⟩
end
section
instance i_dc_str {K : PySem.W.Frag} {tb : List (Addr × Str)}  : Ok (DCall K tb rStrU strD) := ⟨dc_str⟩
end
section
instance i_dc_repr {K : PySem.W.Frag} {tb : List (Addr × Str)}  : Ok (DCall K tb rReprU reprD) := ⟨dc_repr⟩
end
section
variable   {K : PySem.W.Frag} {tb : List (Addr × Str)} {al al1 : List Addr} {G G1 : Hp} {c c1 : SH} {H H1 : Hp} {xs : List (Key × D)} {vs : List (Key × V)} {Φ : QD} {Q : VK} {p : Addr} {W : WX}
instance i_snd_dnew   : Ok (SndE K tb W tDNewK (dnewM true)) := ⟨snd_dnew⟩
end
section
variable   {K : PySem.W.Frag} {tb : List (Addr × Str)} {al al1 : List Addr} {G G1 : Hp} {c c1 : SH} {H H1 : Hp} {xs : List (Key × D)} {vs : List (Key × V)} {Φ : QD} {Q : VK} {p : Addr} {W : WX}
instance i_snd_dnewL   : Ok (SndE K tb W (tLk tDNewK) (dnewM false)) := ⟨snd_dnewL⟩
end
section
variable   {K : PySem.W.Frag} {tb : List (Addr × Str)} {al al1 : List Addr} {G G1 : Hp} {c c1 : SH} {H H1 : Hp} {xs : List (Key × D)} {vs : List (Key × V)} {Φ : QD} {Q : VK} {p : Addr} {W : WX}
instance i_snd_lk {ta : TE} {a : ME} [ha : Ok (SndE K tb W ta a)] : Ok (SndE K tb W (tLk ta) (lkM a)) := ⟨snd_lk ha.ok⟩
end
section
variable   {X : Cx} {K : PySem.W.Frag} {tb : List (Addr × Str)} {W : WX}
instance i_dc_all   : Ok (DCall K tb (rAll K) allD) := ⟨dc_all⟩
end
section
variable   {X : Cx} {K : PySem.W.Frag} {tb : List (Addr × Str)} {W : WX}
instance i_dc_any   : Ok (DCall K tb (rAny K) anyD) := ⟨dc_any⟩
end
section
variable   {X : Cx} {K : PySem.W.Frag} {tb : List (Addr × Str)} {W : WX}
instance i_dc_sum   : Ok (DCall K tb (rSum K) sumD) := ⟨dc_sum⟩
end
section
variable   {X : Cx} {K : PySem.W.Frag} {tb : List (Addr × Str)} {W : WX}
instance i_dc_sorted {lv : Bool}  : Ok (DCall K tb (rSortedU K) (sortedD lv)) := ⟨dc_sorted⟩
end
section
variable   {X : Cx} {K : PySem.W.Frag} {tb : List (Addr × Str)} {W : WX}
instance i_snd_rev {lv : Bool} {ta : TE} {a : ME} [ha : Ok (SndE K tb W ta a)] : Ok (SndE K tb W (tRevL K ta) (revM lv a)) := ⟨snd_rev ha.ok⟩
end
section
variable   {X : Cx} {K : PySem.W.Frag} {tb : List (Addr × Str)} {W : WX}
instance i_snd_par3 {i j l : Nat} {tA : TA} {mA : MA} [hA : Ok (SndA K tb W tA mA)] : Ok (SndS K tb W (tPar3 i j l tA) (par3M i j l mA)) := ⟨snd_par3 hA.ok⟩
end
section
variable   {X : Cx} {K : PySem.W.Frag} {tb : List (Addr × Str)} {W : WX}
instance i_dc_tuple   : Ok (DCall K tb (rTupU K) tupleD) := ⟨dc_tuple⟩
end
section
variable   {K : PySem.W.Frag} {tb : List (Addr × Str)} {W : WX} {tk tv ta : TE} {mk mv a b : ME} {trs : List (TE × TE)} {mp : MP}
instance i_snd_pnil   : Ok (SndP K tb W [] pnilM) := ⟨snd_pnil⟩
end
section
variable   {K : PySem.W.Frag} {tb : List (Addr × Str)} {W : WX} {tk tv ta : TE} {mk mv a b : ME} {trs : List (TE × TE)} {mp : MP}
instance i_snd_pcons  [hk : Ok (SndE K tb W tk mk)] [hv : Ok (SndE K tb W tv mv)] [hr : Ok (SndP K tb W trs mp)] : Ok (SndP K tb W ((tk, tv) :: trs) (pconsM mk mv mp)) := ⟨snd_pcons hk.ok hv.ok hr.ok⟩
end
section
variable   {K : PySem.W.Frag} {tb : List (Addr × Str)} {W : WX} {tk tv ta : TE} {mk mv a b : ME} {trs : List (TE × TE)} {mp : MP}
instance i_snd_disp  [hp : Ok (SndP K tb W trs mp)] : Ok (SndE K tb W (tDisp trs) (dispM true mp)) := ⟨snd_disp hp.ok⟩
end
section
variable   {K : PySem.W.Frag} {tb : List (Addr × Str)} {W : WX} {tk tv ta : TE} {mk mv a b : ME} {trs : List (TE × TE)} {mp : MP}
instance i_snd_dispL  [hp : Ok (SndP K tb W trs mp)] : Ok (SndE K tb W (tLk (tDisp trs)) (dispM false mp)) := ⟨snd_dispL hp.ok⟩
end
section
variable   {K : PySem.W.Frag} {tb : List (Addr × Str)} {W : WX} {tk tv ta : TE} {mk mv a b : ME} {trs : List (TE × TE)} {mp : MP}
instance i_snd_dget {td ty : TE} [ha : Ok (SndE K tb W td a)] [hb : Ok (SndE K tb W ty b)] : Ok (SndE K tb W (tDGet td ty) (opM dgetD a b)) := ⟨snd_dget ha.ok hb.ok⟩
end
section
variable   {K : PySem.W.Frag} {tb : List (Addr × Str)} {W : WX} {ta tv ty : TE} {a b mv : ME}
instance i_snd_items  [ha : Ok (SndE K tb W ta a)] : Ok (SndI K tb W (iItems ta) (itemsM a)) := ⟨snd_items ha.ok⟩
end
section
variable   {K : PySem.W.Frag} {tb : List (Addr × Str)} {W : WX} {ta tv ty : TE} {a b mv : ME}
instance i_snd_values  [ha : Ok (SndE K tb W ta a)] : Ok (SndI K tb W (iVals ta) (valuesM a)) := ⟨snd_values ha.ok⟩
end
section
variable   {K : PySem.W.Frag} {tb : List (Addr × Str)} {W : WX} {ta tv ty : TE} {a b mv : ME}
instance i_sgo_tupn {vs : List Nat} {n : Nat} {g : TGs} {mg : MGs} [hg : Ok (SndGOs K tb vs g mg)] : Ok (SndGO K tb W vs (gTup K n g) (gtupnM n mg)) := ⟨sgo_tupn hg.ok⟩
end
section
variable   {K : PySem.W.Frag} {tb : List (Addr × Str)} {W : WX} {ta tv ty : TE} {a b mv : ME}
instance i_sgo_consX {vs : List Nat} {tg : TG} {m : MG} {g : TGs} {mg : MGs} [hm : Ok (SndGO K tb (fun _ _ _ _ => False) vs tg m)] [hg : Ok (SndGOs K tb vs g mg)] : Ok (SndGOs K tb vs (gCons tg g) (gconsXM m mg)) := ⟨sgo_consX hm.ok hg.ok⟩
end
section
variable   {K : PySem.W.Frag} {tb : List (Addr × Str)} {W : WX} {ta tv ty : TE} {a b mv : ME}
instance i_snd_dput  [ho : Ok (SndE K tb W ta a)] [hi : Ok (SndE K tb W ty b)] [hv : Ok (SndE K tb W tv mv)] : Ok (SndS K tb W (sDPut ta ty tv) (dputM a b mv)) := ⟨snd_dput ho.ok hi.ok hv.ok⟩
end
section
variable   {K : PySem.W.Frag} {tb : List (Addr × Str)} {W : WX} {ta tv ty : TE} {a b mv : ME} {tA : TA} {mA : MA}
instance i_snd_dict  [hA : Ok (SndA K tb W tA mA)] : Ok (SndE K tb W (tCB (rDictU K) tA) (dictM true mA)) := ⟨snd_dict hA.ok⟩
end
section
variable   {K : PySem.W.Frag} {tb : List (Addr × Str)} {W : WX} {ta tv ty : TE} {a b mv : ME} {tA : TA} {mA : MA}
instance i_snd_dictL  [hA : Ok (SndA K tb W tA mA)] : Ok (SndE K tb W (tLk (tCB (rDictU K) tA)) (dictM false mA)) := ⟨snd_dictL hA.ok⟩
end
section
variable   {K : PySem.W.Frag} {tb : List (Addr × Str)} {W : WX} {ta tv ty : TE} {a b mv : ME} {tA : TA} {mA : MA}
instance i_dc_sortK {lv : Bool}  : Ok (DCall K tb (rSortedK K) (sortedKD lv)) := ⟨dc_sortK⟩
end
section
variable   {K : PySem.W.Frag} {tb : List (Addr × Str)} {W : WX} {ta tv ty : TE} {a b mv : ME} {tA : TA} {mA : MA}
instance i_dc_maxL   : Ok (DCall K tb (rMaxU K) (orC max2D maxLD)) := ⟨dc_maxL⟩
end
section
variable   {K : PySem.W.Frag} {tb : List (Addr × Str)} {W : WX} {ta tv ty : TE} {a b mv : ME} {tA : TA} {mA : MA}
instance i_dc_minL   : Ok (DCall K tb (rMinU K) (orC min2D minLD)) := ⟨dc_minL⟩
end
section
variable   {X : Cx} {K : PySem.W.Frag} {tb : List (Addr × Str)} {W : WX}
instance i_dc_reprG   : Ok (DCall K tb (rReprG K) reprGD) := ⟨dc_reprG⟩
end
section
variable   {X : Cx} {K : PySem.W.Frag} {tb : List (Addr × Str)} {W : WX}
instance i_dop_inP {fin : Bool → Bool}  : Ok (DOp K tb (rInP K fin) (inP fin)) := ⟨dop_inP⟩
end
section
variable   {X : Cx} {K : PySem.W.Frag} {tb : List (Addr × Str)} {W : WX}
instance i_dop_eqK {fin : Bool → Bool}  : Ok (DOp K tb (rEqK K fin) (eqKD fin)) := ⟨dop_eqK⟩
end
section
variable   {X : Cx} {K : PySem.W.Frag} {tb : List (Addr × Str)}
instance i_dc_maxS   : Ok (DCall K tb rMaxS maxSD) := ⟨dc_maxS⟩
end
section
variable   {X : Cx} {K : PySem.W.Frag} {tb : List (Addr × Str)}
instance i_dc_minS   : Ok (DCall K tb rMinS minSD) := ⟨dc_minS⟩
end
section
variable   {K : PySem.W.Frag} {tb : List (Addr × Str)} {C : Addr} {F : Fn}
instance i_dc_lenX   : Ok (DCall K tb (rLenX C (SpG K tb F)) (lenXD C F)) := ⟨dc_lenX⟩
end
section
instance i_dop_eqLX {K : PySem.W.Frag} {tb : List (Addr × Str)} {C : Addr} {F : Fn}  : Ok (DOp K tb (rLX K tb C F) (eqLX C F)) := ⟨dop_eqLX⟩
end
section
instance i_dop_eqG {K : PySem.W.Frag} {tb : List (Addr × Str)} {r : IR}  : Ok (DOp K tb (rLG K tb r) (eqGD r)) := ⟨dop_eqG⟩
end
section
instance i_snd_listRg {K : PySem.W.Frag} {tb : List (Addr × Str)} {W : WX} {lv : Bool} {ta : TE} {a : ME} [ha : Ok (SndE K tb W ta a)] : Ok (SndE K tb W (tLstRg (tRg1 ta)) (listRgM lv a)) := ⟨snd_listRg ha.ok⟩
end
section
instance i_dop_inG {K : PySem.W.Frag} {tb : List (Addr × Str)} {r : IR} {f : Bool → Bool}  : Ok (DOp K tb (rInG K tb r f) (inGD r f)) := ⟨dop_inG⟩
end
section
instance i_snd_getX {K : PySem.W.Frag} {tb : List (Addr × Str)} {W : WX} {C : Addr} {F : Fn} {ta tb' : TE} {a b : ME} [ha : Ok (SndE K tb W ta a)] [hb : Ok (SndE K tb W tb' b)] : Ok (SndE K tb W (tGetX C (SpG K tb F) (WE W) ta tb') (getXM C F a b)) := ⟨snd_getX ha.ok hb.ok⟩
end
section
variable   {K : PySem.W.Frag} {tb : List (Addr × Str)}
instance i_dm_clear   : Ok (DMt K tb rClear clearD) := ⟨dm_clear⟩
end
section
variable   {K : PySem.W.Frag} {tb : List (Addr × Str)}
instance i_dm_reverse   : Ok (DMt K tb rReverse reverseD) := ⟨dm_reverse⟩
end
section
instance i_dc_sortedT {K : PySem.W.Frag} {tb : List (Addr × Str)} {lv : Bool}  : Ok (DCall K tb (rSortedTS K) (sortedTD lv)) := ⟨dc_sortedT⟩
end
section
instance i_snd_addX {K : PySem.W.Frag} {tb : List (Addr × Str)} {W : WX} {C : Addr} {F : Fn} {ta tb' : TE} {a b : ME} [ha : Ok (SndE K tb W ta a)] [hb : Ok (SndE K tb W tb' b)] : Ok (SndE K tb W (tAddX K C (SpG K tb F) (WE W) ta tb') (addXM K C F a b)) := ⟨snd_addX ha.ok hb.ok⟩
end
section
instance i_snd_sortSet {K : PySem.W.Frag} {tb : List (Addr × Str)} {W : WX} {lv : Bool} {ta : TE} {a : ME} [ha : Ok (SndE K tb W ta a)] : Ok (SndE K tb W (tSortSet K ta) (sortSetM lv a)) := ⟨snd_sortSet ha.ok⟩
end
section
instance i_snd_lenSet {K : PySem.W.Frag} {tb : List (Addr × Str)} {W : WX} {ta : TE} {a : ME} [ha : Ok (SndE K tb W ta a)] : Ok (SndE K tb W (tLenSet K ta) (lenSetM a)) := ⟨snd_lenSet ha.ok⟩
end
section
instance i_snd_star {K : PySem.W.Frag} {tb : List (Addr × Str)} {W : WX} {ta : TE} {a : ME} {tA : TA} {mA : MA} [ha : Ok (SndE K tb W ta a)] [hA : Ok (SndA K tb W tA mA)] : Ok (SndA K tb W (tStar K ta tA) (starM a mA)) := ⟨snd_star ha.ok hA.ok⟩
end
section
instance i_snd_lenSetK {K : PySem.W.Frag} {tb : List (Addr × Str)} {W : WX} {ta : TE} {a : ME} [ha : Ok (SndE K tb W ta a)] : Ok (SndE K tb W (tLenSetK K ta) (lenSetKM a)) := ⟨snd_lenSetK ha.ok⟩
end
section
instance i_sgo_unl {K : PySem.W.Frag} {tb : List (Addr × Str)} {W : WX} {vs : List Nat} {n : Nat} {g : TGs} {mg : MGs} [hg : Ok (SndGOs K tb vs g mg)] : Ok (SndGO K tb W vs (gUnl K n g) (gunlM n mg)) := ⟨sgo_unl hg.ok⟩
end
section
variable   {K : PySem.W.Frag} {tb : List (Addr × Str)} {W : WX} {ta : TE} {a : ME} {tA : TA} {mA : MA} {C : Addr} {F : Fn}
instance i_snd_cm  [ha : Ok (SndE K tb W ta a)] [hA : Ok (SndA K tb W tA mA)] : Ok (SndE K tb W (tCMethSD C (SpG K tb F) (WE W) ta tA) (cmM C F a mA)) := ⟨snd_cm ha.ok hA.ok⟩
end
section
variable   {K : PySem.W.Frag} {tb : List (Addr × Str)} {W : WX} {ta : TE} {a : ME} {tA : TA} {mA : MA} {C : Addr} {F : Fn}
instance i_snd_makeL {i : Nat} [hA : Ok (SndA K tb W tA mA)] : Ok (SndE K tb W (tMakeL i C (SpG K tb F) (fun _ _ _ => False) tA) (makeLM i C F mA)) := ⟨snd_makeL hA.ok⟩
end
section
variable   {K : PySem.W.Frag} {tb : List (Addr × Str)}
instance i_dm_starts   : Ok (DMt K tb rStarts startsD) := ⟨dm_starts⟩
end
section
variable   {K : PySem.W.Frag} {tb : List (Addr × Str)}
instance i_dm_remove   : Ok (DMt K tb rRemove removeD) := ⟨dm_remove⟩
end
section
instance i_snd_back {K : PySem.W.Frag} {tb : List (Addr × Str)} {W : WX} {ta : TE} {a : ME} {lv : Bool} [ha : Ok (SndE K tb W ta a)] : Ok (SndE K tb W (tBack K ta) (backM lv a)) := ⟨snd_back ha.ok⟩
end
end M
set_option Elab.async false
set_option linter.all false
set_option maxRecDepth 100000
set_option maxHeartbeats 3900000
namespace M
open PySem PySem.Spec PyProof.Rows L2 G
/-- x(..), x an instance of the class at C with a __call__ of its own -/
def tCallO (C : Addr) (sp : Sp) (E : L2.St → XK) (ta : TE) (t : TA) : TE := fun σ H Q => ta σ H fun x H1 => ∃ a, x = .ref a ∧ t σ H1 fun vs H2 => (∃ dx fs, H2 a = some (.ins C dx fs)) ∧ sp (x :: vs) H2 Q (E σ)
def isIns (C : Addr) (c : SH) (x : D) : Prop := match view c x with
  | .ins C' _ => C' = C
  | _ => False
def callO (C : Addr) (F : Fn) (a : ME) (A : MA) : ME := fun δ c Ψ Φ => a δ c Ψ fun x c1 => isIns C c1 x ∧ A δ c1 Ψ fun xs c2 => isIns C c2 x ∧ F (x :: xs) c2 Ψ Φ
section
variable {K : PySem.W.Frag} {tb : List (Addr × Str)} {W : WX} {ta : TE} {a : ME} {tA : TA} {mA : MA} {C : Addr} {F : Fn} {δ : Env} {c : SH} {Ψ : XD} {Φ : QD}
theorem isIns_at {al : List Addr} {G H : Hp} {v : V} {x : D} (R : Rep K tb al G c H) (d : Den K al G v x) (m : isIns C c x) : ∃ a dx fs, v = .ref a ∧ H a = some (.ins C dx fs) := by
  have vx := R.vw d
  unfold isIns at m
  split at m
  · rename_i e
    rw [e] at vx
    subst m
    cases vx with
    | ins h r => exact ⟨_, _, _, rfl, h⟩
  · cases m
theorem snd_callO (ha : SndE K tb W ta a) (hA : SndA K tb W tA mA) : SndE K tb W (tCallO C (SpG K tb F) (WE W) ta tA) (callO C F a mA) := by
  intro al G c H σ δ Ψ Φ Q g m q
  refine ha al G c H σ δ Ψ _ _ g m fun x c1 al1 G1 H1 v r1 l1 d1 m1 => ?_
  obtain ⟨i1, m1⟩ := m1
  obtain ⟨b, _, _, rfl, _⟩ := isIns_at r1 d1 i1
  refine ⟨b, rfl, hA al1 G1 c1 H1 σ δ Ψ _ _ (g.le r1 l1) m1 fun xs c2 al2 G2 H2 vs r2 l2 d2 m2 => ?_⟩
  obtain ⟨i2, m2⟩ := m2
  obtain ⟨b2, dx, fs, e2, h2⟩ := isIns_at r2 (d1.le l2) i2
  cases e2
  exact ⟨⟨dx, fs, h2⟩, al2, G2, c2, _, Ψ, Φ, r2, .cons (d1.le l2) d2, m2, q.le (l1.trans l2), g.thr.le (l1.trans l2)⟩
theorem e_callO (h : a δ c Ψ fun x c1 => isIns C c1 x ∧ mA δ c1 Ψ fun xs c2 => isIns C c2 x ∧ F (x :: xs) c2 Ψ Φ) : callO C F a mA δ c Ψ Φ := h
instance [ha : Ok (SndE K tb W ta a)] [hA : Ok (SndA K tb W tA mA)] : Ok (SndE K tb W (tCallO C (SpG K tb F) (WE W) ta tA) (callO C F a mA)) := ⟨snd_callO ha.ok hA.ok⟩
instance w_callO : M.W (callO C F a mA δ c Ψ Φ) (a δ c Ψ fun x c1 => isIns C c1 x ∧ mA δ c1 Ψ fun xs c2 => isIns C c2 x ∧ F (x :: xs) c2 Ψ Φ) := ⟨e_callO⟩
end
end M
set_option Elab.async false
set_option linter.all false
set_option maxRecDepth 100000
set_option maxHeartbeats 3900000
namespace M
open PySem PySem.Spec PyProof.Rows L2 G
def tListVals (te : TE) : TE := fun σ H Q => te σ H fun x H1 => ∃ d kvs, x = .ref d ∧ Rd H1 d (.dK kvs) ∧ kvs.length ≤ sizeLine ∧ ∀ p, H1 p = none → Q (.ref p) (upd H1 p (.lst (kvs.map (·.2))))
def tListItemsR (te : TE) : TE := fun σ H Q => te σ H fun x H1 => ∃ d kvs, x = .ref d ∧ Rd H1 d (.dK kvs) ∧ kvs.length ≤ sizeLine ∧
  ∀ (H' : Hp) (p : Addr) (ts : List Addr), (∀ b o, H1 b = some o → H' b = some o) → H1 p = none → (∀ t ∈ ts, H1 t = none) → p ∉ ts → H' p = some (.lst (ts.map V.ref)) → Paired (fun (t : Addr) (q : Key × V) => H' t = some (.tup [kV q.1, q.2])) ts kvs → Q (.ref p) H'
section
variable {K : PySem.W.Frag} {tb : List (Addr × Str)} {W : WX} {ta : TE} {a : ME} {δ : Env} {c : SH} {Ψ : XD} {Φ : QD}
def pairD (kv : Key × D) : D := .tup [keyOD kv.1, kv.2]
theorem new_items {al : List Addr} {G H H' : Hp} {c : SH} {p : Addr} {ts : List Addr} {kvs : List (Key × V)} {ds : List (Key × D)} (R : Rep K tb al G c H) (e : ∀ b o, H b = some o → H' b = some o) (hp : H p = none) (ht : ∀ t ∈ ts, H t = none)
    (hl : H' p = some (.lst (ts.map V.ref))) (hpr : Paired (fun (t : Addr) (q : Key × V) => H' t = some (.tup [kV q.1, q.2])) ts kvs) (dk : DenK K al G kvs ds) :
    ∃ G', Rep K tb al G' c H' ∧ Le al G c H al G' c H' ∧ Den K al G' (.ref p) (.lst (ds.map pairD)) := by
  have R' := R.grow e
  let S : Addr → Prop := fun b => b = p ∨ b ∈ ts
  have fresh : ∀ b, S b → H b = none := fun b h => h.elim (fun z => z ▸ hp) (ht b)
  have shape : ∀ b, S b → ∃ o, H' b = some o ∧ ∀ ps, o ≠ .tbl ps := fun b h => by
    rcases h with rfl | h
    · exact ⟨_, hl, nofun⟩
    · obtain ⟨_, y, _, _, h3⟩ := LiI.paired_ix hpr h
      exact ⟨_, h3, nofun⟩
  classical
  let G' : Hp := fun b => if S b then H' b else G b
  have gin : ∀ b, S b → G' b = H' b := fun b h => if_pos h
  have gout : ∀ b, ¬ S b → G' b = G b := fun b h => if_neg h
  have ex : Ex G G' := fun b u h => by
    have hn : ¬ S b := fun z => by
      have := R.sub b u h
      rw [fresh b z] at this
      cases this
    rw [gout b hn]
    exact h
  have rep : Rep K tb al G' c H' := { R' with
    sub := fun b u h => by
      by_cases z : S b
      · rw [gin b z] at h; exact h
      · rw [gout b z] at h; exact R'.sub b u h
    ent := fun k b s h1 h2 => Ent.ext (R'.ent k b s h1 h2) (fun _ _ => id) ex fun u hu => hu
    out := fun k b s h1 h2 h3 => by
      have hn : ¬ S b := fun z => by
        obtain ⟨u, hu, _⟩ := R.tak k b h1
        rw [fresh b z] at hu
        cases hu
      rw [gout b hn]
      exact R.out k b s h1 h2 h3
    gt := fun b ps h => by
      by_cases z : S b
      · rw [gin b z] at h
        obtain ⟨o, h1, h2⟩ := shape b z
        rw [h1] at h
        injection h with h
        exact h2 ps h
      · rw [gout b z] at h; exact R.gt b ps h }
  refine ⟨G', rep, ⟨fun _ _ h => h, ex, fun b o h _ _ => e b o h, fun b => .inl, fun b h o ho => h o (e b o ho), fun b o h => ?_, fun k b h => .inl ⟨k, h⟩⟩, ?_⟩
  · by_cases z : S b
    · exact .inr (.inl (.of (fresh b z)))
    · rw [gout b z] at h
      exact .inl ⟨o, h⟩
  · refine .lst (by rw [gin p (.inl rfl)]; exact hl) ?_
    have go : ∀ {ts : List Addr} {kvs : List (Key × V)} {ds : List (Key × D)}, (∀ t ∈ ts, S t) → Paired (fun (t : Addr) (q : Key × V) => H' t = some (.tup [kV q.1, q.2])) ts kvs → DenK K al G kvs ds → DenL K al G' (ts.map V.ref) (ds.map pairD) := by
      intro ts
      induction ts with
      | nil =>
        intro kvs ds _ h d
        cases h
        cases d
        exact .nil
      | cons t ts ih =>
        intro kvs ds hS h d
        cases h with
        | cons h r =>
          cases d with
          | cons hd rd =>
            exact .cons (.tup (by rw [gin t (hS t List.mem_cons_self)]; exact h) (.cons (keyOD_den _) (.cons (hd.mono (fun _ _ => id) ex) .nil))) (ih (fun t ht => hS t (List.mem_cons_of_mem _ ht)) r rd)
    exact go (fun t h => .inr h) hpr dk
def listVM (lv : Bool) (a : ME) : ME := fun δ c Ψ Φ => a δ c Ψ fun x c1 => match view c1 x with
  | .dic kvs => newL lv (kvs.map (·.2)) c1 Φ
  | _ => False
def listIM (a : ME) : ME := fun δ c Ψ Φ => a δ c Ψ fun x c1 => match view c1 x with
  | .dic kvs => kvs.length ≤ sizeLine ∧ Φ (.lst (kvs.map pairD)) c1
  | _ => False
theorem denK_vals {al : List Addr} {G : Hp} : ∀ {vs : List (Key × V)} {ds : List (Key × D)}, DenK K al G vs ds → DenL K al G (vs.map (·.2)) (ds.map (·.2))
  | _, _, .nil => .nil
  | _, _, .cons h r => .cons h (denK_vals r)
theorem snd_listV {lv : Bool} (ha : SndE K tb W ta a) : SndE K tb W (tListVals ta) (listVM lv a) := by
  intro al G c H σ δ Ψ Φ Q g m q
  refine ha al G c H σ δ Ψ _ _ g m fun x c1 al1 G1 H1 v r1 l1 d1 m1 => ?_
  have vx := r1.vw d1
  split at m1
  · rename_i kvs e
    rw [e] at vx
    cases vx with
    | dic h r =>
      refine ⟨_, _, rfl, h, ?_, fun p hp => newL_ok r1 hp (denK_vals r) m1 (q.le l1)⟩
      have := m1.1
      rw [List.length_map] at this
      rw [r.length]
      exact this
  · cases m1
theorem snd_listI (ha : SndE K tb W ta a) : SndE K tb W (tListItemsR ta) (listIM a) := by
  intro al G c H σ δ Ψ Φ Q g m q
  refine ha al G c H σ δ Ψ _ _ g m fun x c1 al1 G1 H1 v r1 l1 d1 m1 => ?_
  have vx := r1.vw d1
  split at m1
  · rename_i kvs e
    rw [e] at vx
    cases vx with
    | dic h r =>
      refine ⟨_, _, rfl, h, by rw [r.length]; exact m1.1, fun H' p ts e1 e2 e3 e4 e5 e6 => ?_⟩
      obtain ⟨G', R', L', D'⟩ := new_items r1 e1 e2 e3 e5 e6 r
      exact q _ c1 al1 G' H' _ R' (l1.trans L') D' m1.2
  · cases m1
def lvK (Φ : QD) (x : D) (c1 : SH) : Prop := match view c1 x with
  | .dic kvs => newL false (kvs.map (·.2)) c1 Φ
  | _ => False
def liK (Φ : QD) (x : D) (c1 : SH) : Prop := match view c1 x with
  | .dic kvs => kvs.length ≤ sizeLine ∧ Φ (.lst (kvs.map pairD)) c1
  | _ => False
theorem e_listV (h : a δ c Ψ (lvK Φ)) : listVM false a δ c Ψ Φ := h
theorem e_listI (h : a δ c Ψ (liK Φ)) : listIM a δ c Ψ Φ := h
instance [ha : Ok (SndE K tb W ta a)] {lv : Bool} : Ok (SndE K tb W (tListVals ta) (listVM lv a)) := ⟨snd_listV ha.ok⟩
instance [ha : Ok (SndE K tb W ta a)] : Ok (SndE K tb W (tListItemsR ta) (listIM a)) := ⟨snd_listI ha.ok⟩
instance : M.W (listVM false a δ c Ψ Φ) (a δ c Ψ (lvK Φ)) := ⟨e_listV⟩
instance : M.W (listIM a δ c Ψ Φ) (a δ c Ψ (liK Φ)) := ⟨e_listI⟩
end
end M
set_option Elab.async false
set_option linter.all false
set_option maxRecDepth 100000
set_option maxHeartbeats 3900000
namespace M
open PySem PySem.Spec PyProof.Rows L2 G
def tLenSetT (K : PySem.W.Frag) (ta : TE) : TE := fun σ H Q => ta σ H fun x H1 => ∃ (l : Addr) (ks : List (Addr × List Int)), x = .ref l ∧ SqL K H1 l (ks.map fun p => V.ref p.1) ∧ (∀ p ∈ ks, SqT K H1 p.1 (p.2.map V.int)) ∧ ks.length < 64 ∧
  ∀ L : List (List Int), L.Nodup → (∀ k, k ∈ L ↔ k ∈ ks.map (·.2)) → Q (.int (L.length : Nat)) H1
def tupsD : List D → Option (List (List Int))
  | [] => some []
  | .tup xs :: r => match intsD xs, tupsD r with
    | some ns, some l => some (ns :: l)
    | _, _ => none
  | _ => none
def lenSetTM (a : ME) : ME := fun δ c Ψ Φ => a δ c Ψ fun x c1 => match view c1 x with
  | .lst ys => match tupsD ys with
    | some ks => ks.length < 64 ∧ ∀ L : List (List Int), L.Nodup → (∀ k, k ∈ L ↔ k ∈ ks) → Φ (.int (L.length : Nat)) c1
    | none => False
  | _ => False
section
variable {K : PySem.W.Frag} {tb : List (Addr × Str)} {W : WX} {ta : TE} {a : ME} {δ : Env} {c : SH} {Ψ : XD} {Φ : QD}
theorem tups_den {al : List Addr} {G H : Hp} {c : SH} (R : Rep K tb al G c H) : ∀ {vs : List V} {ds : List D} {l : List (List Int)}, DenL K al G vs ds → tupsD ds = some l → ∃ ks : List (Addr × List Int), vs = ks.map (fun p => V.ref p.1) ∧ l = ks.map (·.2) ∧ ∀ p ∈ ks, SqT K H p.1 (p.2.map V.int)
  | _, _, _, .nil, e => by cases e; exact ⟨[], rfl, rfl, by simp⟩
  | _, _, _, .cons h r, e => by
    cases h with
    | tup h hd =>
      unfold tupsD at e
      split at e
      · rename_i ns l2 e1 e2
        cases e
        obtain ⟨ks, rfl, rfl, h3⟩ := tups_den R r e2
        rw [ints_den hd e1] at h
        refine ⟨(_, ns) :: ks, rfl, rfl, fun p hp => ?_⟩
        rcases List.mem_cons.mp hp with rfl | hp
        · exact .of (R.sub _ _ h)
        · exact h3 p hp
      · cases e
    | _ => cases e
theorem snd_lenSetT (ha : SndE K tb W ta a) : SndE K tb W (tLenSetT K ta) (lenSetTM a) := by
  intro al G c H σ δ Ψ Φ Q g m q
  refine ha al G c H σ δ Ψ _ _ g m fun x c1 al1 G1 H1 v r1 l1 d1 m1 => ?_
  have vx := r1.vw d1
  split at m1
  · rename_i ys e
    rw [e] at vx
    split at m1
    · rename_i ks e2
      cases vx with
      | lst h hd =>
        obtain ⟨kp, rfl, rfl, h3⟩ := tups_den r1 hd e2
        exact ⟨_, kp, rfl, .of h, h3, by have := m1.1; rwa [List.length_map] at this, fun L nd hm => q _ c1 al1 G1 H1 _ r1 l1 (.int _) (m1.2 L nd hm)⟩
    · cases m1
  · cases m1
def lstK (Φ : QD) (x : D) (c1 : SH) : Prop := match view c1 x with
  | .lst ys => match tupsD ys with
    | some ks => ks.length < 64 ∧ ∀ L : List (List Int), L.Nodup → (∀ k, k ∈ L ↔ k ∈ ks) → Φ (.int (L.length : Nat)) c1
    | none => False
  | _ => False
theorem e_lenSetT (h : a δ c Ψ (lstK Φ)) : lenSetTM a δ c Ψ Φ := h
instance [ha : Ok (SndE K tb W ta a)] : Ok (SndE K tb W (tLenSetT K ta) (lenSetTM a)) := ⟨snd_lenSetT ha.ok⟩
instance : M.W (lenSetTM a δ c Ψ Φ) (a δ c Ψ (lstK Φ)) := ⟨e_lenSetT⟩
def dclrM (a : ME) : ME := fun δ c Ψ Φ => a δ c Ψ fun x c1 => match x with
  | .obj k => (match c1[k]? with
    | some (.dic _) => Φ .non (c1.set k (.dic []))
    | _ => False)
  | _ => False
theorem snd_dclr (ha : SndE K tb W ta a) : SndE K tb W (tBM0 K "dict" rDClear ta) (dclrM a) := by
  intro al G c H σ δ Ψ Φ Q g m q
  refine ha al G c H σ δ Ψ _ _ g m fun x c1 al1 G1 H1 v r1 l1 d1 m1 => ?_
  split at m1
  · split at m1
    · rename_i k _ kvs hs
      cases d1 with
      | obj hk =>
        obtain ⟨vs, h1, h2⟩ := r1.ent k _ _ hk hs
        refine ⟨.inr (.inr (.inl ⟨rfl, .inl ⟨vs, h1⟩⟩)), _, vs, rfl, rfl, h1, ?_⟩
        have r4 := r1.change (u := .dK []) hk hs rfl (o := .dic []) ⟨_, upd_same, .nil⟩ rfl
        have l4 := Le.change (o := .dic []) r1 hk hs rfl (u := .dK []) nofun
        exact q .non _ al1 G1 _ .non r4 (l1.trans l4) .non m1
    · cases m1
  · cases m1
instance [ha : Ok (SndE K tb W ta a)] : Ok (SndE K tb W (tBM0 K "dict" rDClear ta) (dclrM a)) := ⟨snd_dclr ha.ok⟩
end
end M
set_option Elab.async false
set_option linter.all false
set_option maxRecDepth 100000
set_option maxHeartbeats 3900000
namespace M
open PySem PySem.Spec PyProof.Rows L2 G
section
variable {X : Cx} {K : PySem.W.Frag}
def rSame : R2 := fun x y H Q => ∃ a ks, x = .ref a ∧ y = .ref a ∧ Rd H a (.dK ks) ∧ Q (.bl true) H
inductive SameV : V → V → Prop
  | str (z : Str) : SameV (.str z) (.str z)
  | ref (a : Addr) : SameV (.ref a) (.ref a)
def rNeSL (K : PySem.W.Frag) : R2 := fun x y H Q => ∃ a b vs, x = .ref a ∧ y = .ref b ∧ SqL K H a vs ∧ SqL K H b vs ∧ (∀ v ∈ vs, SameV v v) ∧ Q (.bl false) H
theorem same_eq {A : Around} {s : Shared} {v : V} {x y : Value} (h : SameV v v) (rx : RelV v x) (ry : RelV v y) : SeqAt.EqAt A s x y true := by
  cases h with
  | str z =>
    obtain ⟨t, rfl⟩ := rx
    obtain ⟨t', rfl⟩ := ry
    have := SeqAt.EqAt.str_str (A := A) (s := s) z t z t'
    rwa [beq_self_eq_true] at this
  | ref a =>
    cases (show x = Value.ref a from rx)
    cases (show y = Value.ref a from ry)
    exact SeqAt.EqAt.same _
theorem op_neSL (hK : X.K = K) (hu : X.A.units + 1 < cLine) : OpR X (compareOp .NotEq) (rNeSL K) := by
  subst hK
  rintro pins s σ H x y v u Q I rx ry ⟨a, b, vs, rfl, rfl, ha, hb, sm, q⟩
  cases (show v = Value.ref a from rx)
  cases (show u = Value.ref b from ry)
  obtain ⟨its, r1, p1, _⟩ := I.list ha
  obtain ⟨its2, r2, p2, _⟩ := I.list hb
  have z1 : its.toArray.size = vs.length := by rw [List.size_toArray, ← r1.length]
  have z2 : its2.toArray.size = vs.length := by rw [List.size_toArray, ← r2.length]
  have go := SeqAt.RcNeAt.lists (A := X.A) (s := s) (e := fun _ => true) p1.isList p2.isList (by rw [z1, z2]) (by omega) (fun j h1 h2 => by
    have j1 : j < vs.length := by rw [← z1]; exact h1
    have q1 := vals_at r1 j j1 (by simpa using h1)
    have q2 := vals_at r2 j j1 (by simpa using h2)
    have e1 : its.toArray[j] = its[j]'(by simpa using h1) := by simp
    have e2 : its2.toArray[j] = its2[j]'(by simpa using h2) := by simp
    rw [e1, e2]
    exact same_eq (sm _ (List.getElem_mem j1)) q1 q2)
  have al : (List.range its.toArray.size).all (fun _ => true) = true := by simp
  rw [al] at go
  show wpAny (model X.prog X.w) X.A (richCompare .NotEq (.ref a) (.ref b)) (EP X pins σ Q) X.xe s
  exact go X.prog X.w X.xe _ ⟨.bl false, H, I, rfl, q⟩
end
def sameD (x y : D) (c : SH) (Φ : QD) : Prop := ∃ k kvs, x = .obj k ∧ y = .obj k ∧ view c (.obj k) = .dic kvs ∧ Φ (.bl true) c
def neSLD (x y : D) (c : SH) (Φ : QD) : Prop := ∃ xs, view c x = .lst xs ∧ view c y = .lst xs ∧ (∀ d ∈ xs, (∃ z, d = .str z) ∨ ∃ j, d = .obj j) ∧ Φ (.bl false) c
section
variable {K : PySem.W.Frag} {tb : List (Addr × Str)} {W : WX} {al : List Addr} {G : Hp}
theorem den_same {v w : V} {d : D} (h1 : Den K al G v d) (h2 : Den K al G w d) (h : (∃ z, d = .str z) ∨ ∃ j, d = .obj j) : v = w ∧ SameV v v := by
  rcases h with ⟨z, rfl⟩ | ⟨j, rfl⟩
  · cases h1
    cases h2
    exact ⟨rfl, .str _⟩
  · cases h1 with
    | obj h1 =>
      cases h2 with
      | obj h2 =>
        rw [h1] at h2
        cases h2
        exact ⟨rfl, .ref _⟩
theorem denL_same : ∀ {vs ws : List V} {ds : List D}, DenL K al G vs ds → DenL K al G ws ds → (∀ d ∈ ds, (∃ z, d = .str z) ∨ ∃ j, d = .obj j) → vs = ws ∧ ∀ v ∈ vs, SameV v v
  | _, _, _, .nil, .nil, _ => ⟨rfl, by simp⟩
  | _, _, _, .cons h1 r1, .cons h2 r2, h => by
    obtain ⟨rfl, s⟩ := den_same h1 h2 (h _ List.mem_cons_self)
    obtain ⟨rfl, s2⟩ := denL_same r1 r2 fun d hd => h d (List.mem_cons_of_mem _ hd)
    exact ⟨rfl, fun v hv => (List.mem_cons.mp hv).elim (fun e => e ▸ s) (s2 v)⟩
theorem dop_same : DOp K tb rSame sameD := by
  intro al G c H x y dx dy Φ Q R hx hy m q
  obtain ⟨k, kvs, rfl, rfl, e, m⟩ := m
  have vx := R.vw hx
  rw [e] at vx
  cases hx with
  | obj h1 =>
    cases hy with
    | obj h2 =>
      rw [h1] at h2
      cases h2
      cases vx with
      | dic h r => exact ⟨_, _, rfl, rfl, h, q _ c al G H _ R .refl (.bl _) m⟩
theorem dop_neSL : DOp K tb (rNeSL K) neSLD := by
  intro al G c H x y dx dy Φ Q R hx hy m q
  obtain ⟨xs, e1, e2, hs, m⟩ := m
  have vx := R.vw hx
  have vy := R.vw hy
  rw [e1] at vx
  rw [e2] at vy
  cases vx with
  | lst h1 r1 =>
    cases vy with
    | lst h2 r2 =>
      obtain ⟨rfl, s⟩ := denL_same r1 r2 hs
      exact ⟨_, _, _, rfl, rfl, .of h1, .of h2, s, q _ c al G H _ R .refl (.bl _) m⟩
def tAnyK (te : TE) : TE := fun σ H Q => te σ H Q ∨ tLk te σ H Q
def anyK (f : Bool → ME) : ME := fun δ c Ψ Φ => f true δ c Ψ Φ ∨ f false δ c Ψ Φ
theorem snd_anyK {te : TE} {f : Bool → ME} (h1 : SndE K tb W te (f true)) (h2 : SndE K tb W (tLk te) (f false)) : SndE K tb W (tAnyK te) (anyK f) := fun al G c H σ δ Ψ Φ Q g m q =>
  m.elim (fun z => .inl (h1 al G c H σ δ Ψ Φ Q g z q)) fun z => .inr (h2 al G c H σ δ Ψ Φ Q g z q)
instance : Ok (DOp K tb rSame sameD) := ⟨dop_same⟩
instance : Ok (DOp K tb (rNeSL K) neSLD) := ⟨dop_neSL⟩
instance {te : TE} {f : Bool → ME} [h1 : Ok (SndE K tb W te (f true))] [h2 : Ok (SndE K tb W (tLk te) (f false))] : Ok (SndE K tb W (tAnyK te) (anyK f)) := ⟨snd_anyK h1.ok h2.ok⟩
end
section
variable {X : Cx}
def rInK (fin : Bool → Bool) : R2 := fun x y H Q => ∃ a kvs k, x = kV k ∧ y = .ref a ∧ Rd H a (.dK kvs) ∧ Q (.bl (fin (valV kvs k).isSome)) H
end
def inKD (fin : Bool → Bool) (x y : D) (c : SH) (Φ : QD) : Prop := match view c y, keyD x with
  | .dic kvs, some k => Φ (.bl (fin (valD kvs k).isSome)) c
  | _, _ => False
section
variable {K : PySem.W.Frag} {tb : List (Addr × Str)}
theorem dop_inDk {fin : Bool → Bool} : DOp K tb (rInK fin) (inKD fin) := by
  intro al G c H x y dx dy Φ Q R hx hy m q
  have vy := R.vw hy
  unfold inKD at m
  split at m
  · rename_i kvs k e1 e2
    rw [e1] at vy
    cases vy with
    | @dic a vs _ h r =>
      refine ⟨_, vs, k, key_den hx e2, rfl, h, ?_⟩
      have e : (valV vs k).isSome = (valD kvs k).isSome := by
        cases hv : valD kvs k with
        | none => rw [r.val0 hv]; rfl
        | some d => obtain ⟨w, h1, _⟩ := r.val hv; rw [h1]; rfl
      rw [e]
      exact q _ c al G H _ R .refl (.bl _) m
  · cases m
instance {fin : Bool → Bool} : Ok (DOp K tb (rInK fin) (inKD fin)) := ⟨dop_inDk⟩
end
section
variable {X : Cx}
def rListK : List V → Hp → VK → Prop := fun xs H Q => ∃ a kvs, xs = [.ref a] ∧ Rd H a (.dK kvs) ∧ kvs.length ≤ sizeLine ∧ ∀ p, H p = none → Q (.ref p) (upd H p (.lst (kvs.map fun kv => kV kv.1)))
end
def listKD (lv : Bool) (xs : List D) (c : SH) (Φ : QD) : Prop := oneD xs fun x => match view c x with
  | .dic kvs => newL lv (kvs.map fun kv => keyOD kv.1) c Φ
  | _ => False
section
variable {K : PySem.W.Frag} {tb : List (Addr × Str)}
theorem denK_keys {al : List Addr} {G : Hp} : ∀ {vs : List (Key × V)} {ds : List (Key × D)}, DenK K al G vs ds → DenL K al G (vs.map fun kv => kV kv.1) (ds.map fun kv => keyOD kv.1)
  | _, _, .nil => .nil
  | _, _, .cons _ r => .cons (keyOD_den _) (denK_keys r)
theorem dc_listK {lv : Bool} : DCall K tb rListK (listKD lv) := by
  intro al G c H xs ds Φ Q R hd m q
  obtain ⟨x, v, rfl, rfl, dx, m2⟩ := oneD_of m hd
  have vx := R.vw dx
  split at m2
  · rename_i kvs e
    rw [e] at vx
    cases vx with
    | dic h r =>
      refine ⟨_, _, rfl, h, ?_, fun p hp => newL_ok R hp (denK_keys r) m2 q⟩
      have := m2.1
      rw [List.length_map] at this
      rw [r.length]
      exact this
  · cases m2
instance {lv : Bool} : Ok (DCall K tb rListK (listKD lv)) := ⟨dc_listK⟩
end
end M
set_option Elab.async false
set_option linter.all false
set_option maxRecDepth 100000
set_option maxHeartbeats 3900000
namespace M
open PySem PySem.Spec PyProof.Rows L2 G
def wLock (d : Addr) (od : Obj) (u : HO) (W : WX) : WX := fun cls dd σ H' => H' d = some (.frz od u) ∧ W cls dd σ (upd H' d u)
def tLockX (t : WX → TS) (W : WX) : TS := fun D σ H => t W D σ H ∨ ∃ d u, H d = some u ∧ Mut (some u) ∧ ∀ od, t (wLock d od u W) ⟨fun σ' H' => H' d = some (.frz od u) ∧ D.nx σ' (upd H' d u), fun v H' => H' d = some (.frz od u) ∧ D.rt v (upd H' d u), fun σ' H' => H' d = some (.frz od u) ∧ D.bk σ' (upd H' d u), fun σ' H' => H' d = some (.frz od u) ∧ D.ct σ' (upd H' d u)⟩ σ (upd H d (.frz od u))
def lkE (k : Nat) (ob : Obj) (vs : List (Key × V)) (kvs : List (Key × D)) (e : EndsD) : EndsD where
  nx δ' c' := c'[k]? = some (.lck ob vs kvs) ∧ e.nx δ' (c'.set k (.dic kvs))
  rt d c' := c'[k]? = some (.lck ob vs kvs) ∧ e.rt d (c'.set k (.dic kvs))
  bk δ' c' := c'[k]? = some (.lck ob vs kvs) ∧ e.bk δ' (c'.set k (.dic kvs))
  ct δ' c' := c'[k]? = some (.lck ob vs kvs) ∧ e.ct δ' (c'.set k (.dic kvs))
  xc C f d δ' c' := c'[k]? = some (.lck ob vs kvs) ∧ e.xc C f d δ' (c'.set k (.dic kvs))
def lockM (m : MS) : MS := fun δ c e => m δ c e ∨ ∃ k kvs, c[k]? = some (.dic kvs) ∧ ∀ ob vs, m δ (c.set k (.lck ob vs kvs)) (lkE k ob vs kvs e)
section
variable {K : PySem.W.Frag} {tb : List (Addr × Str)} {W : WX} {t : WX → TS} {m : MS} {ta : TE} {a : ME}
theorem unlk {al' : List Addr} {G' : Hp} {c' : SH} {H' : Hp} {k : Nat} {p : Addr} {ob : Obj} {vs : List (Key × V)} {kvs : List (Key × D)} (R' : Rep K tb al' G' c' H') (hk : al'[k]? = some p) (hs : c'[k]? = some (.lck ob vs kvs)) :
    H' p = some (.frz ob (.dK vs)) ∧ Rep K tb al' G' (c'.set k (.dic kvs)) (upd H' p (.dK vs)) ∧ Le al' G' c' H' al' G' (c'.set k (.dic kvs)) (upd H' p (.dK vs)) := by
  obtain ⟨h1, h2⟩ := R'.ent k p _ hk hs
  exact ⟨h1, R'.change (u := .dK vs) hk hs rfl (o := .dic kvs) ⟨vs, upd_same, h2⟩ rfl, Le.change R' hk hs rfl nofun⟩
theorem snd_lock (hb : ∀ V, SndS K tb V (t V) m) : SndS K tb W (tLockX t W) (lockM m) := by
  intro al G c H σ δ e D R s mm q
  rcases mm with mm | ⟨k, kvs, hs, mm⟩
  · exact .inl (hb W al G c H σ δ e D R s mm q)
  have hkl := (List.getElem?_eq_some_iff.mp hs).1
  obtain ⟨p, hk⟩ : ∃ p, al[k]? = some p := ⟨al[k]'(by rw [R.len]; exact hkl), List.getElem?_eq_getElem _⟩
  obtain ⟨vs, h1, h2⟩ := R.ent k p _ hk hs
  refine .inr ⟨p, .dK vs, h1, trivial, fun od => ?_⟩
  have r2 := R.change (u := .frz od (.dK vs)) hk hs rfl (o := .lck od vs kvs) ⟨upd_same, h2⟩ rfl
  have l2 := Le.change (o := .lck od vs kvs) R hk hs rfl (u := .frz od (.dK vs)) nofun
  refine hb _ al G _ _ σ δ _ _ r2 (s.le l2) (mm od vs) ⟨?_, ?_, ?_, ?_, ?_⟩
  · rintro δ' c' al' G' H' σ' R' l' s' ⟨e1, e2⟩
    obtain ⟨h3, r3, l3⟩ := unlk R' (l'.ad _ _ hk) e1
    exact ⟨h3, q.nx δ' _ al' G' _ σ' r3 ((l2.trans l').trans l3) (s'.le l3) e2⟩
  · rintro d c' al' G' H' v R' l' dn ⟨e1, e2⟩
    obtain ⟨h3, r3, l3⟩ := unlk R' (l'.ad _ _ hk) e1
    exact ⟨h3, q.rt d _ al' G' _ v r3 ((l2.trans l').trans l3) (dn.le l3) e2⟩
  · rintro δ' c' al' G' H' σ' R' l' s' ⟨e1, e2⟩
    obtain ⟨h3, r3, l3⟩ := unlk R' (l'.ad _ _ hk) e1
    exact ⟨h3, q.bk δ' _ al' G' _ σ' r3 ((l2.trans l').trans l3) (s'.le l3) e2⟩
  · rintro δ' c' al' G' H' σ' R' l' s' ⟨e1, e2⟩
    obtain ⟨h3, r3, l3⟩ := unlk R' (l'.ad _ _ hk) e1
    exact ⟨h3, q.ct δ' _ al' G' _ σ' r3 ((l2.trans l').trans l3) (s'.le l3) e2⟩
  · rintro C f d δ' c' al' G' H' dd v σ' R' l' s' fr hd den ⟨e1, e2⟩
    obtain ⟨h3, r3, l3⟩ := unlk R' (l'.ad _ _ hk) e1
    have ne : dd ≠ p := fun z => by rw [z, h3] at hd; cases hd
    refine ⟨h3, q.xc C f d δ' _ al' G' _ dd v σ' r3 ((l2.trans l').trans l3) (s'.le l3) (fun o ho => fr o (by rw [upd_ne ne]; exact ho)) (by rw [upd_ne ne]; exact hd) (den.le l3) e2⟩
def itemsLM (a : ME) : MI := fun δ c Ψ Φ => a δ c Ψ fun x c1 => match x with
  | .dic kvs => Φ (kvs.map pairD) (fun _ => True) c1
  | .obj k => (match c1[k]? with
    | some (.lck ob vs kvs) => Φ (kvs.map pairD) (fun c' => c'[k]? = some (.lck ob vs kvs)) c1
    | _ => False)
  | _ => False
theorem snd_itemsL (ha : SndE K tb W ta a) : SndI K tb W (iItems ta) (itemsLM a) := by
  intro al G c H σ δ Ψ Φ R g m q
  refine ha al G c H σ δ Ψ _ _ g m fun x c1 al1 G1 H1 v r1 l1 d1 m1 => ?_
  split at m1
  · rename_i kvs
    cases d1 with
    | dic h r =>
      refine ⟨_, _, _, rfl, r1.sub _ _ h, q _ _ c1 al1 G1 H1 _ r1 l1 ⟨fun i y al2 G2 c2 H2 hy r2 l2 _ => ⟨r2.sub _ _ (l2.g _ _ h), ?_⟩, fun i y al2 G2 c2 H2 u H' hy r2 l2 _ yl => ?_, fun al2 G2 c2 H2 r2 l2 _ => ⟨r2.sub _ _ (l2.g _ _ h), ?_⟩⟩ m1⟩
      · have := (List.getElem?_eq_some_iff.mp hy).1
        rw [List.length_map] at this
        rw [r.length]
        exact this
      · rw [List.getElem?_map] at hy
        obtain ⟨⟨k, d⟩, h1, h2⟩ := Option.map_eq_some_iff.mp hy
        cases h2
        obtain ⟨w, h3, h4⟩ := r.get h1
        obtain ⟨T, k', v', hk, rfl, hT, rfl⟩ := yl
        rw [h3] at hk
        cases hk
        obtain ⟨p1, p2, p3⟩ := pair_new (vs := [kV k, w]) (ds := [keyOD k, d]) r2 hT (.cons (keyOD_den k) (.cons (h4.le l2) .nil))
        exact ⟨_, p1, p2, p3⟩
      · rw [List.length_map, r.length]
        exact Nat.le_refl _
  · rename_i k
    split at m1
    · rename_i ob vs kvs hs
      cases d1 with
      | obj hk =>
        obtain ⟨h, r⟩ := r1.ent k _ _ hk hs
        refine ⟨_, _, _, rfl, h, q _ _ c1 al1 G1 H1 _ r1 l1 ⟨fun i y al2 G2 c2 H2 hy r2 l2 gd => ⟨(r2.ent k _ (.lck ob vs kvs) (l2.ad _ _ hk) gd).1, ?_⟩, fun i y al2 G2 c2 H2 u H' hy r2 l2 _ yl => ?_, fun al2 G2 c2 H2 r2 l2 gd => ⟨(r2.ent k _ (.lck ob vs kvs) (l2.ad _ _ hk) gd).1, ?_⟩⟩ m1⟩
        · have := (List.getElem?_eq_some_iff.mp hy).1
          rw [List.length_map] at this
          rw [r.length]
          exact this
        · rw [List.getElem?_map] at hy
          obtain ⟨⟨k, d⟩, h1, h2⟩ := Option.map_eq_some_iff.mp hy
          cases h2
          obtain ⟨w, h3, h4⟩ := r.get h1
          obtain ⟨T, k', v', hk, rfl, hT, rfl⟩ := yl
          rw [h3] at hk
          cases hk
          obtain ⟨p1, p2, p3⟩ := pair_new (vs := [kV k, w]) (ds := [keyOD k, d]) r2 hT (.cons (keyOD_den k) (.cons (h4.le l2) .nil))
          exact ⟨_, p1, p2, p3⟩
        · rw [List.length_map, r.length]
          exact Nat.le_refl _
    · cases m1
  · cases m1
instance {t : WX → TS} [h : ∀ V, Ok (SndS K tb V (t V) m)] : Ok (SndS K tb W (tLockX t W) (lockM m)) := ⟨snd_lock fun V => (h V).ok⟩
instance [ha : Ok (SndE K tb W ta a)] : Ok (SndI K tb W (iItems ta) (itemsLM a)) := ⟨snd_itemsL ha.ok⟩
end
end M
set_option Elab.async false
set_option linter.all false
set_option maxRecDepth 100000
set_option maxHeartbeats 3900000
namespace M
open PySem PySem.Spec PyProof.Rows L2 G
/-- [item for target in iter if ..], the item may throw: W, the wish at the outer slots -/
def tLcX (wi : TI) (g : TG) (tt : TT) (te : WX → TE) (vs : List Nat) (W : WX) : TE := fun σ H Q => wi σ H fun J H1 => ∀ D, H1 D = none → ∃ Y : Nat → Nat → Hp → Prop, (∃ m, Y 0 m (upd H1 D (.lst []))) ∧ ∀ i m H, Y i m H →
  (J.stop i H ∧ Q (.ref D) H) ∨ (J.go i H ∧ ∃ Nx : Hp → Prop, (∀ H', Nx H' → ∃ m', m' < m ∧ Y (i + 1) m' H') ∧ ∀ x H', J.yld i H x H' → g x (wipe σ vs) H' fun σ2 H2 => wipe σ2 vs = wipe σ vs ∧ tt σ2 H2 fun b H3 =>
    if b = true then te (fun cls d _ H' => W cls d σ H') σ2 H3 fun y H4 => ∃ acc, H4 D = some (.lst acc) ∧ acc.length < sizeLine ∧ Nx (upd H4 D (.lst (acc ++ [y]))) else Nx H3)
def turnDX (g : MG) (t : MT) (e : ME) (δ : Env) (Ψ : XD) : D → SH → (Option D → SH → Prop) → Prop := fun x c k => g x δ c noX fun δ2 c2 => t δ2 c2 noX fun b c3 => if b = true then e δ2 c3 Ψ fun y c4 => k (some y) c4 else k none c3
def lcXM (lv : Bool) (i : MI) (g : MG) (t : MT) (e : ME) (vs : List Nat) : ME := fun δ c Ψ Φ => i δ c Ψ fun xs gd c1 => lcD gd (turnDX g t e (wipeD δ vs) Ψ) xs [] c1 (endL lv Φ)
section
variable {K : PySem.W.Frag} {tb : List (Addr × Str)} {W : WX}
theorem snd_lcX {lv : Bool} {wi : TI} {mi : MI} {g : TG} {mg : MG} {tt : TT} {mt : MT} {te : WX → TE} {me : ME} {vs : List Nat} (hi : SndI K tb W wi mi) (hg : SndGO K tb W0 vs g mg) (ht : SndT K tb W0 tt mt) (he : ∀ V, SndE K tb V (te V) me) : SndE K tb W (tLcX wi g tt te vs W) (lcXM lv mi mg mt me vs) := by
  intro al G c H σ δ Ψ Φ Q go m q
  refine hi al G c H σ δ Ψ _ _ go m fun xs gd c1 al1 G1 H1 J r1 l1 it m1 => ?_
  intro D hD
  have e1 : SRel K al1 G1 σ δ := go.env.le l1
  have th1 := go.thr.le l1
  refine ⟨fun i n H2 => n = xs.length - i ∧ i ≤ xs.length ∧ ∃ al2 G2 c2 acc avs, Rep K tb al2 G2 c2 H2 ∧ Le al1 G1 c1 H1 al2 G2 c2 H2 ∧ Apart al2 G2 c2 D ∧ H2 D = some (.lst avs) ∧ DenL K al2 G2 avs acc ∧ lcD gd (turnDX mg mt me (wipeD δ vs) Ψ) (xs.drop i) acc c2 (endL lv Φ), ⟨_, rfl, Nat.zero_le _, al1, G1, c1, [], [], r1.grow (Ex.new hD), Le.grow (Ex.new hD), Apart.new r1 hD, upd_same, .nil, m1⟩, ?_⟩
  rintro i n H2 ⟨rfl, hle, al2, G2, c2, acc, avs, r2, l2, ap2, h2, d2, m2⟩
  by_cases hlt : i < xs.length
  · rw [drop_get hlt] at m2
    obtain ⟨hgd, m2⟩ := m2
    have hx : xs[i]? = some xs[i] := List.getElem?_eq_getElem hlt
    refine .inr ⟨it.go i _ al2 G2 c2 H2 hx r2 l2 hgd, fun H3 => ∃ al3 G3 c3 acc3 avs3, Rep K tb al3 G3 c3 H3 ∧ Le al1 G1 c1 H1 al3 G3 c3 H3 ∧ Apart al3 G3 c3 D ∧ H3 D = some (.lst avs3) ∧ DenL K al3 G3 avs3 acc3 ∧ lcD gd (turnDX mg mt me (wipeD δ vs) Ψ) (xs.drop (i + 1)) acc3 c3 (endL lv Φ), ?_, ?_⟩
    · rintro H3 ⟨al3, G3, c3, acc3, avs3, r3⟩
      exact ⟨xs.length - (i + 1), by omega, rfl, hlt, al3, G3, c3, acc3, avs3, r3⟩
    · intro v H' y
      obtain ⟨G', r', l', d'⟩ := it.yl i _ al2 G2 c2 H2 v H' hx r2 l2 hgd y
      obtain ⟨ap', h'⟩ := ap2.le h2 nofun l'
      have go' : Go K tb al2 G' c2 H' W0 (wipe σ vs) (wipeD δ vs) noX := ⟨r', ((e1.le l2).le l').wipe vs, thr0⟩
      refine hg al2 G' c2 H' _ _ noX v _ _ _ go' d' m2 fun δ3 c3 al3 G3 H3 σ3 r3 l3 s3 w3 m3 => ?_
      rw [wipe_wipe] at w3
      refine ⟨w3, ?_⟩
      have go3 : Go K tb al3 G3 c3 H3 W0 σ3 δ3 noX := ⟨r3, s3, thr0⟩
      refine ht al3 G3 c3 H3 σ3 δ3 noX _ _ go3 m3 fun b c4 al4 G4 H4 r4 l4 m4 => ?_
      have l24 := (l'.trans l3).trans l4
      cases b with
      | false =>
        obtain ⟨ap4, h4⟩ := ap2.le h2 nofun l24
        refine iteF ⟨al4, G4, c4, acc, avs, r4, l2.trans l24, ap4, h4, d2.le l24, ?_⟩
        have := m4.2
        rwa [Option.toList_none, List.append_nil] at this
      | true =>
        have go4 : Go K tb al4 G4 c4 H4 (fun cls d _ H' => W cls d σ H') σ3 δ3 Ψ := ⟨r4, s3.le l4, th1.le (l2.trans l24)⟩
        refine iteT (he _ al4 G4 c4 H4 σ3 δ3 Ψ _ _ go4 m4 fun y c5 al5 G5 H5 w r5 l5 d5 m5 => ?_)
        have l25 := l24.trans l5
        obtain ⟨ap5, h5⟩ := ap2.le h2 nofun l25
        have hl := m5.1
        refine ⟨avs, h5, by rw [d2.length]; exact hl, al5, G5, c5, acc ++ [y], avs ++ [w], r5.foreign h5 nofun nofun ap5.g ap5.liv ap5.k, (l2.trans l25).foreign (.of hD) nofun, ap5, upd_same, (d2.le l25).append (.cons d5 .nil), m5.2⟩
  · have hi2 : i = xs.length := by omega
    subst hi2
    rw [List.drop_length] at m2
    obtain ⟨hgd, m2⟩ := m2
    refine .inl ⟨it.st al2 G2 c2 H2 r2 l2 hgd, ?_⟩
    unfold endL at m2
    cases lv with
    | false =>
      rw [if_neg (by decide)] at m2
      obtain ⟨r3, ex⟩ := r2.adopt h2 ap2.liv nofun
      exact q (.lst acc) c2 al2 _ H2 (.ref D) r3 (l1.trans (l2.adopt h2 ex (.of hD))) (.lst upd_same (d2.mono (fun _ _ => id) ex)) m2
    | true =>
      rw [if_pos rfl] at m2
      obtain ⟨r3, _, k3⟩ := r2.own ap2 h2 nofun (o := .lst acc) ⟨avs, h2, d2.mono (fun _ _ => app_get) (Ex.refl _)⟩ rfl
      exact q (.obj c2.length) _ _ G2 H2 (.ref D) r3 (l1.trans (l2.own r2 (.of hD))) (.obj k3) m2
theorem snd_lcXE {lv : Bool} {wi : TI} {mi : MI} {g : TG} {mg : MG} {tt : TT} {mt : MT} {te : WX → TE} {me : ME} {vs vs' : List Nat} (e : vs' = vs) (hi : SndI K tb W wi mi) (hg : SndGO K tb W0 vs g mg) (ht : SndT K tb W0 tt mt) (he : ∀ V, SndE K tb V (te V) me) : SndE K tb W (tLcX wi g tt te vs' W) (lcXM lv mi mg mt me vs) := by
  subst e
  exact snd_lcX hi hg ht he
instance {lv : Bool} {wi : TI} {mi : MI} {g : TG} {mg : MG} {tt : TT} {mt : MT} {te : WX → TE} {me : ME} {vs vs' : List Nat} [e : Ok (vs' = vs)] [hi : Ok (SndI K tb W wi mi)] [hg : Ok (SndGO K tb (fun _ _ _ _ => False) vs g mg)] [ht : Ok (SndT K tb (fun _ _ _ _ => False) tt mt)] [he : ∀ V, Ok (SndE K tb V (te V) me)] : Ok (SndE K tb W (tLcX wi g tt te vs' W) (lcXM lv mi mg mt me vs)) := ⟨snd_lcXE e.ok hi.ok hg.ok ht.ok fun V => (he V).ok⟩
end
theorem e_lcX {lv : Bool} {mi : MI} {g : MG} {t : MT} {a : ME} {vs : List Nat} {δ : Env} {c : SH} {Ψ : XD} {Φ : QD} (h : mi δ c Ψ fun xs gd c1 => lcD gd (turnDX g t a (wipeD δ vs) Ψ) xs [] c1 (endL lv Φ)) : lcXM lv mi g t a vs δ c Ψ Φ := h
theorem e_turnX {g : MG} {t : MT} {a : ME} {δ : Env} {x : D} {c : SH} {Ψ : XD} {k : Option D → SH → Prop} (h : g x δ c noX fun δ2 c2 => t δ2 c2 noX fun b c3 => if b = true then a δ2 c3 Ψ fun y c4 => k (some y) c4 else k none c3) : turnDX g t a δ Ψ x c k := h
instance {lv : Bool} {mi : MI} {g : MG} {t : MT} {a : ME} {vs : List Nat} {δ : Env} {c : SH} {Ψ : XD} {Φ : QD} : M.W (lcXM lv mi g t a vs δ c Ψ Φ) (mi δ c Ψ fun xs gd c1 => lcD gd (turnDX g t a (wipeD δ vs) Ψ) xs [] c1 (endL lv Φ)) := ⟨e_lcX⟩
instance {g : MG} {t : MT} {a : ME} {δ : Env} {x : D} {c : SH} {Ψ : XD} {k : Option D → SH → Prop} : M.W (turnDX g t a δ Ψ x c k) (g x δ c noX fun δ2 c2 => t δ2 c2 noX fun b c3 => if b = true then a δ2 c3 Ψ fun y c4 => k (some y) c4 else k none c3) := ⟨e_turnX⟩
end M
set_option Elab.async false
set_option linter.all false
set_option maxRecDepth 100000
set_option maxHeartbeats 3900000
namespace M
open PySem PySem.Spec PyProof.Rows L2 G
def absD (xs : List D) (c : SH) (Φ : QD) : Prop := oneD xs fun x => match x with
  | .int i => Φ (.int (if i < 0 then -i else i)) c
  | _ => False
def rAbs : List V → Hp → VK → Prop := fun xs H Q => ∃ i, xs = [.int i] ∧ Q (.int (if i < 0 then -i else i)) H
def rGt2 (K : PySem.W.Frag) : R2 := fun x y H Q => ∃ (a b : Addr) (x1 x2 y1 y2 : Int), x = .ref a ∧ y = .ref b ∧ SqT K H a [.int x1, .int x2] ∧ SqT K H b [.int y1, .int y2] ∧ Q (.bl (decide (y1 < x1 ∨ (x1 = y1 ∧ y2 < x2)))) H
def gt2D (x y : D) (c : SH) (Φ : QD) : Prop := match x, y with
  | .tup [.int x1, .int x2], .tup [.int y1, .int y2] => Φ (.bl (decide (y1 < x1 ∨ (x1 = y1 ∧ y2 < x2)))) c
  | _, _ => False
section
variable {K : PySem.W.Frag} {tb : List (Addr × Str)}
theorem dc_abs : DCall K tb rAbs absD := by
  intro al G c H xs ds Φ Q R hd m q
  obtain ⟨x, v, rfl, rfl, dx, m2⟩ := oneD_of m hd
  split at m2
  · cases dx
    exact ⟨_, rfl, q _ c al G H _ R .refl (.int _) m2⟩
  · cases m2
theorem tup2_den {al : List Addr} {G H : Hp} {c : SH} {v : V} {x1 x2 : Int} (R : Rep K tb al G c H) (h : Den K al G v (.tup [.int x1, .int x2])) : ∃ a, v = .ref a ∧ SqT K H a [.int x1, .int x2] := by
  cases h with
  | tup h r =>
    cases r with
    | cons h1 r => cases r with
      | cons h2 r => cases r with
        | nil =>
          cases h1
          cases h2
          exact ⟨_, rfl, .of (R.sub _ _ h)⟩
theorem dop_gt2 : DOp K tb (rGt2 K) gt2D := by
  intro al G c H x y dx dy Φ Q R hx hy m q
  unfold gt2D at m
  split at m
  · obtain ⟨a, rfl, ha⟩ := tup2_den R hx
    obtain ⟨b, rfl, hb⟩ := tup2_den R hy
    exact ⟨a, b, _, _, _, _, rfl, rfl, ha, hb, q _ c al G H _ R .refl (.bl _) m⟩
  · cases m
instance : Ok (DCall K tb rAbs absD) := ⟨dc_abs⟩
instance : Ok (DOp K tb (rGt2 K) gt2D) := ⟨dop_gt2⟩
end
theorem e_abs {i : Int} {c : SH} {Φ : QD} (q : Φ (.int (if i < 0 then -i else i)) c) : absD [.int i] c Φ := q
instance {i : Int} {c : SH} {Φ : QD} : M.W (absD [.int i] c Φ) (Φ (.int (if i < 0 then -i else i)) c) := ⟨e_abs⟩
theorem e_gt2 {x1 x2 y1 y2 : Int} {c : SH} {Φ : QD} (q : Φ (.bl (decide (y1 < x1 ∨ (x1 = y1 ∧ y2 < x2)))) c) : gt2D (.tup [.int x1, .int x2]) (.tup [.int y1, .int y2]) c Φ := q
instance {x1 x2 y1 y2 : Int} {c : SH} {Φ : QD} : M.W (gt2D (.tup [.int x1, .int x2]) (.tup [.int y1, .int y2]) c Φ) (Φ (.bl (decide (y1 < x1 ∨ (x1 = y1 ∧ y2 < x2)))) c) := ⟨e_gt2⟩
end M
set_option Elab.async false
set_option linter.all false
set_option maxRecDepth 100000
set_option maxHeartbeats 3900000
namespace PySem
namespace ErrX
open PySem.W PySem.Calls PyProof.Rows PySem.HandSPX
def iA0 (p1 : Pos) : Arguments := { posonlyargs := [], args := [{ arg := "self", annotation := none, pos := p1 }], vararg := none, kwonlyargs := [], kw_defaults := [], kwarg := none, defaults := [] }
def iB0 (m : Str) (j : Nat) (a1 a2 a3 a4 a5 a6 : Pos) : List Stmt := [.Expr (.Call (.Attribute (.Call (.Name "super" a1) [] [] a2) "__init__" a3) [.Constant (.str m) j a4] [] a5) a6]
def iS0 : Scope := { kind := .function, names := [("self", .local), ("__class__", .free), ("super", .globalImplicit)], isGenerator := false, isCoroutine := false, more := [] }
/-- as ErrTxt, an __init__ without a field -/
structure ErrTxt0 (prog : Program) (K : Frag) (mg : Str → Option Value) (cn : Str) (C fI : Addr) : Prop where
  gC : mg cn = some (.ref C)
  cls : ∃ nm q N bs bm sn sub ab col dd k0 k1 k2 k3 k5, K.lookup C = some (excClassObj nm q C N bs bm true sn sub ab col dd k0 k1 k2 k3 k5 "ValueError.__new__") ∧ refsVE bm = true ∧ alongIn K "__init__" bm = some (some (.builtin "ValueError.__init__"))
  sa : findIn K (.ref C) "__setattr__" = some (some (.builtin "object.__setattr__"))
  ga : findIn K (.ref C) "__getattribute__" = some (some (.builtin "BaseException.__getattribute__"))
  gg : findIn K (.ref C) "__getattr__" = some none
  iC : findIn K (.ref C) "__init__" = some (some (.ref fI))
  tC : typeIn K (.ref fI) = some (.type "function")
  kC : keepIn K (.ref C) = true
  exC : subIn K (.ref C) (.type "BaseException") = some true
  veC : subIn K (.ref C) (.type "ValueError") = some true
  miC : mroIn K C (.ref C) = some true
  tyC : typeIn K (.ref C) = some (.type "type")
  hdC : hasDictIn K C = true
  op : nsIn K cStatics "thirdparty.any" = some none
  mS : mg "super" = none
  htop : (prog.main.scope.names.lookup ("super" : Str)).isSome = false
  fn : ∃ (oc : Value) (od : Option Addr) (doc pm : Value) (an : Option Addr) (cda : Addr) (ct : Value) (osl : Array (Option Value)) (p1 : Pos) (m : Str) (j : Nat) (a1 a2 a3 a4 a5 a6 : Pos) (cc : Addr) (q : Str) (ccl : Value) (cdd : Option Addr) (vs : Array Value) (ccs : Array (Option Value)) (file : Str) (tf : Tok) (cl : Value) (cld : Option Addr) (csl : Array (Option Value)),
    K.lookup fI = some ⟨oc, od, .func (ksFn "__init__" q (iA0 p1) (iB0 m j a1 a2 a3 a4 a5 a6) iS0 .none .none doc pm an (.ref cda) ct cc), osl⟩ ∧ codeIn K (.ref cda) q = true ∧
    K.lookup cda = some ⟨ccl, cdd, .fields vs, ccs⟩ ∧ vs[2]? = some (.str file tf) ∧ ((prog.main.file : Str) == file) = true ∧ K.lookup cc = some ⟨cl, cld, .cell (some (.ref C)), csl⟩ ∧
    (∀ (s : Shared) (x : Value), BindsTo s (ksFn "__init__" q (iA0 p1) (iB0 m j a1 a2 a3 a4 a5 a6) iS0 .none .none doc pm an (.ref cda) ct cc) ⟨[x], []⟩ [("self", x)]) ∧
    (∀ env : Env, ∃ pl : Sem Bool, eval (.Call (.Attribute (.Call (.Name "super" a1) [] [] a2) "__init__" a3) [.Constant (.str m) j a4] [] a5) env = (do
      let ov ← attributeBase (.Call (.Name "super" a1) [] [] a2) "__init__" env (eval (.Call (.Name "super" a1) [] [] a2) env)
      standAt a3.atName
      let (f, first) ← holding [ov] (getMethod ov "__init__" pl)
      callWith a5 f first (backTo a5 (starEach [.Constant (.str m) j a4] env)) []))
section
variable {M : Model} {A : Around} {E : Value → Shared → Prop} {h : Heap} {g : Array GenState} {d : Drawn} {t : Nat} {os : OsState} {kw : List (Str × Value)}
variable {nm q : Str} {C N : Addr} {bs bm bmB : List Value} {hdct : Bool} {sn : List Str} {sub : List Value} {ab : Bool} {col : Option Bool} {dd : Option Addr} {k0 k1 k2 k3 k5 : Option Value} {B newId initId : String}
theorem kw_check_type {rest : List Value} {Q : Unit → Shared → Prop} (hC : h.get? C = some (excClassObj nm q C N bs bm hdct sn sub ab col dd k0 k1 k2 k3 k5 newId)) (hq : Q () ⟨h, g, d, t, os⟩) : wpAny M A (checkBuiltinCall "type.__call__" ⟨.ref C :: rest, kw⟩) Q E ⟨h, g, d, t, os⟩ := by
  have f3 := tc_sub
  have hT : (⟨h, g, d, t, os⟩ : Shared).TypeIs (.ref C) "type" := ⟨_, hC, rfl⟩
  simp only [checkBuiltinCall, tc_kind, tc_split]
  repeat (any_goals (first | assumption | with_reducible refine wpAny_loadPart_at hC ?_ | with_reducible refine wpAny_onRaise ?_ | with_reducible refine wpAny_map ?_ | wp_step))
theorem kw_check_new (F : ExcBaseFacts B newId initId bmB) (hT : ∀ X : String, bm.contains (.type X) = bmB.contains (.type X)) {rest : List Value} {Q : Unit → Shared → Prop}
    (hC : h.get? C = some (excClassObj nm q C N bs bm hdct sn sub ab col dd k0 k1 k2 k3 k5 newId)) (hq : Q () ⟨h, g, d, t, os⟩) : wpAny M A (checkBuiltinCall newId ⟨.ref C :: rest, kw⟩) Q E ⟨h, g, d, t, os⟩ := by
  have hcont : (Value.ref C :: bm).contains (.type B) = true := by rw [List.contains_cons, hT, F.hasB, Bool.or_true]
  have hstar := F.noStar
  simp only [checkBuiltinCall, F.newKind, F.newSplit, F.newRow]
  repeat (first | refine wpAny_loadPart_at hC ?_ | (refine wpAny_isSubtype_exc hC ?_; rw [hcont]) | refine wpAny_staticBase_exc hC ?_ | refine wpAny_madeBy_exc hC ?_ | simp only [bne_self_eq_false, Bool.false_eq_true, if_false] | wp_step)
  exact hq
end
section
variable {prog : Program} {w : World} {A : Around} {E : Value → Shared → Prop} {R : Result → Shared → Prop} {h : Heap} {g : Array GenState} {d : Drawn} {t : Nat} {os : OsState} {kw : List (Str × Value)}
variable {nm q : Str} {C N : Addr} {bs bm bmB : List Value} {hdct : Bool} {sn : List Str} {sub : List Value} {ab : Bool} {col : Option Bool} {dd : Option Addr} {k0 k1 k2 k3 k5 : Option Value} {B newId initId : String}
theorem kw_new (F : ExcBaseFacts B newId initId bmB) (hT : ∀ X : String, bm.contains (.type X) = bmB.contains (.type X)) {rest : List Value}
    (hC : h.get? C = some (excClassObj nm q C N bs bm hdct sn sub ab col dd k0 k1 k2 k3 k5 newId))
    (hq : R (.ok (.ret (.ref (h.objs.size + 1)))) ⟨(h.push (kdv_tup rest)).push (excO C h.objs.size), g, d, t, os⟩) (hrest : rest.length ≤ sizeLine) :
    codeAny (model prog w) A (.builtin newId ⟨.ref C :: rest, kw⟩) R ⟨h, g, d, t, os⟩ := by
  have hends := F.ends
  have cB : (Value.ref C :: bm).contains (.type B) = true := by rw [List.contains_cons, hT, F.hasB, Bool.or_true]
  have cA : (Value.ref C :: bm).contains (.type "AttributeError") = false := by rw [List.contains_cons, hT, F.noAttr]; rfl
  have cN : (Value.ref C :: bm).contains (.type "NameError") = false := by rw [List.contains_cons, hT, F.noName]; rfl
  refine codeAny_builtinAt F.entry ?_
  unfold Builtin.«BaseException.__new__»
  refine wpAt_bind ?_
  show wpAt _ _ _ (stack >>= _) _ _ _
  refine wpAt_bind (wpAt_stack fun p below => wpAt_of_wpAny ?_)
  wp_walk
  refine wpAt_of_wpAny ?_
  rw [F.owner]
  repeat (first | with_reducible refine wpAny_madeHere_exc F.canon hC ?_ | with_reducible refine wpAny_loadPart_at hC ?_ | (with_reducible refine wpAny_isSubtype_exc hC ?_; first | rw [cB] | rw [cA] | rw [cN]) | wp_step)
  show R _ _
  rw [Heap.size_push]
  exact hq
theorem kw_type_call (F : ExcBaseFacts B newId initId bmB) (hT : ∀ X : String, bm.contains (.type X) = bmB.contains (.type X)) {rest : List Value} {fI : Addr} {Q : Fin → Shared → Prop}
    (hC : h.get? C = some (excClassObj nm q C N bs bm hdct sn sub ab col dd k0 k1 k2 k3 k5 newId))
    (hi : W.Looks (model prog w) h (typeLookup (.ref C) "__init__") (some (.ref fI))) (hb : ∀ self, W.Looks (model prog w) h (bindSpecial (.ref fI) self) (.ref fI, [self])) (hrest : rest.length ≤ sizeLine)
    (hq : codeAny (model prog w) A (.call (.ref fI) ⟨.ref (h.objs.size + 1) :: rest, kw⟩)
      (fun r s' => match r with | .ok (.ret v) => v = .none ∧ Q (.done (.ret (.ref (h.objs.size + 1)))) s' | .ok _ => False | .error e => E e s') ⟨(h.push (kdv_tup rest)).push (excO C h.objs.size), g, d, t, os⟩) :
    wpAny (model prog w) A (Builtin.«type.__call__» ⟨.ref C :: rest, kw⟩) Q E ⟨h, g, d, t, os⟩ := by
  repeat (first | with_reducible refine wpAny_loadPart_at hC ?_ | with_reducible refine wpAny_madeBy_exc hC ?_ | wp_step)
  refine codeAny_call_builtin_code (Code.quiet_builtin _ F.quiet) (kw_check_new F hT hC ?_)
  refine kw_new F hT hC ?_ hrest
  show wpAny _ _ _ _ _ _
  have kp : ∀ b o, h.get? b = some o → ((h.push (kdv_tup rest)).push (excO C h.objs.size)).get? b = some o := fun b o e => Heap.get?_push_of_some _ (Heap.get?_push_of_some _ e)
  have hC1 := kp _ _ hC
  have hg : ((h.push (kdv_tup rest)).push (excO C h.objs.size)).get? (h.objs.size + 1) = some (excO C h.objs.size) := by heap_get
  have cC : (Value.ref C :: bm).contains (.ref C) = true := by simp
  have j1 := hi.keeps kp
  have j2 := (hb (.ref (h.objs.size + 1))).keeps kp
  unfold isInstance
  repeat (first | with_reducible refine wpAny_loadPart_at hg ?_ | (with_reducible refine wpAny_isSubtype_exc hC1 ?_; rw [cC]) | wp_step)
  show wpAny _ _ (typeLookup (.ref C) _) _ _ _
  refine j1.at ?_
  refine wpAny_holding (wpAny_bind (j2.at ?_))
  refine wpAny_bind (wpAny_call (codeAny_mono hq fun r s' z => ?_))
  rcases r with e | (v | _ | _ | _) <;> first | exact z | exact z.elim | skip
  obtain ⟨rfl, z⟩ := z
  first
    | exact wpAny_pure (wpAny_pure z)
    | (wp_walk; exact z)
theorem kw_call (F : ExcBaseFacts B newId initId bmB) (hT : ∀ X : String, bm.contains (.type X) = bmB.contains (.type X)) {rest : List Value} {fI : Addr}
    (hC : h.get? C = some (excClassObj nm q C N bs bm hdct sn sub ab col dd k0 k1 k2 k3 k5 newId))
    (hi : W.Looks (model prog w) h (typeLookup (.ref C) "__init__") (some (.ref fI))) (hb : ∀ self, W.Looks (model prog w) h (bindSpecial (.ref fI) self) (.ref fI, [self])) (hrest : rest.length ≤ sizeLine)
    (hq : codeAny (model prog w) (A.under (.builtin "type.__call__" ⟨.ref C :: rest, kw⟩)) (.call (.ref fI) ⟨.ref (h.objs.size + 1) :: rest, kw⟩) (W.InitBack (h.objs.size + 1) R) ⟨(h.push (kdv_tup rest)).push (excO C h.objs.size), g, d, t, os⟩) :
    codeAny (model prog w) A (.call (.ref C) ⟨rest, kw⟩) R ⟨h, g, d, t, os⟩ := by
  have f1 := tc_lookup
  have f2 := tc_bind (.ref C)
  have hTy : (⟨h, g, d, t, os⟩ : Shared).TypeIs (.ref C) "type" := ⟨_, hC, rfl⟩
  refine codeAny_of_tree ?_
  show wpAny _ _ (callAny (.ref C) _) _ _ _
  repeat (any_goals (first | assumption | with_reducible refine wpAny_loadPart_at hC ?_ | wp_step))
  refine ⟨rfl, ?_⟩
  refine codeAny_call_builtin_at (Code.quiet_builtin _ (by decide +kernel)) entry_typeCall (kw_check_type hC (kw_type_call F hT hC hi hb hrest ?_))
  refine codeAny_mono hq fun r s' z => ?_
  rcases r with e | (v | _ | _ | _) <;> exact z
end
section
variable {prog : Program} {w : World} {A : Around} {E : Value → Shared → Prop} {R : Result → Shared → Prop} {s : Shared} {K : Frag} {mg mb : Str → Option Value} {C fI : Addr} {cn f : Str}
theorem err_initA (T : ErrTxt prog K mg cn f C fI) {x t0 : Addr} {v : Value} {ar : Args} (hbd : ∀ fd oc od osl, K.lookup fI = some ⟨oc, od, .func fd, osl⟩ → BindsTo s fd ar [("self", .ref x), (f, v)]) (X : K.In s.heap) (hg : s.heap.Ns mainGlobals mg) (hb : s.heap.Ns builtinsNs mb) (hbb : ∀ x : Str, x ≠ "__name__" → mb x = bootBuiltins x) (hlim : s.heap.NoLimit) (hx : s.heap.get? x = some (excO C t0)) (hnx : K.lookup x = none) (hroom : A.depth < recursionLimit)
    (hq : ∀ h' tk dx t1, InitEnd s.heap h' x C dx t1 f v → R (.ok (.ret .none)) { s with heap := h', toks := tk }) :
    codeAny (model prog w) A (.call (.ref fI) ar) R s := by
  obtain ⟨oc, od, doc, pm, an, cda, ct, osl, p1, p2, m, j, a1, a2, a3, a4, a5, a6, q1, q2, q3, q4, cc, q, ccl, cdd, vs, ccs, file, tf, cl, cld, csl, ho, hcd, hcode, hvs, hfile, hcell, hbind, hev⟩ := T.fn
  obtain ⟨nm, qq, N, bs, bm, sn, sub, ab, col, dd, k0, k1, k2, k3, k5, hC, hbm, hal⟩ := T.cls
  have hcl : clsIn K C = some { name := nm, bases := bs, mro := .ref C :: bm, ns := N, qualname := qq, hasDict := true, slotNames := sn, subclasses := sub, abstract := ab, collection := col, hasDel := false } := by unfold clsIn; rw [hC] <;> rfl
  refine ks_codeAny_call_defAt (fd := ksFn "__init__" q (iA f p1 p2) (iB f m j a1 a2 a3 a4 a5 a6 q1 q2 q3 q4) (iS f) .none .none doc pm an (.ref cda) ct cc) (body := iB f m j a1 a2 a3 a4 a5 a6 q1 q2 q3 q4) (binds := [("self", .ref x), (f, v)])
    hroom (X _ _ ho) rfl hlim (codeRec_of X hcd) rfl (hbd _ _ _ _ ho) ?_ ?_ (fun h₁ hns k => ?_)
  · intro y hy
    have : y ∈ [(("self" : Str), NameKind.local), (f, NameKind.local), (("__class__" : Str), NameKind.free), (("super" : Str), NameKind.globalImplicit)] := hy
    simp only [List.mem_cons, List.not_mem_nil, or_false] at this
    rcases this with rfl | rfl | rfl | rfl <;> exact fun z => NameKind.noConfusion z
  · intro y hy
    have hf : (f == ("self" : Str)) = false := by simpa using T.fs
    rcases List.mem_cons.mp hy with rfl | hy
    · rfl
    · have : y = (f, v) := by simpa using hy
      subst this
      show List.lookup f [(("self" : Str), NameKind.local), (f, NameKind.local), (("__class__" : Str), NameKind.free), (("super" : Str), NameKind.globalImplicit)] = some .local
      simp [List.lookup, hf]
  · have hfb : (("self" : Str) == f) = false := by
      have := T.fs
      simpa using fun z : ("self" : Str) = f => this z.symm
    have hm1 : ([(("self" : Str), Value.ref x), (f, v)] : List (Str × Value)).reverse.lookup f = some v := by
      show List.lookup f [(f, v), (("self" : Str), Value.ref x)] = some v
      simp [List.lookup]
    have hm2 : ([(("self" : Str), Value.ref x), (f, v)] : List (Str × Value)).reverse.lookup ("self" : Str) = some (Value.ref x) := by
      show List.lookup ("self" : Str) [(f, v), (("self" : Str), Value.ref x)] = some (Value.ref x)
      simp [List.lookup, hfb]
    have hfb' : (f == ("self" : Str)) = false := by simpa using T.fs
    have hkf : (iS f).names.lookup f = some .local := by
      show List.lookup f [(("self" : Str), NameKind.local), (f, NameKind.local), (("__class__" : Str), NameKind.free), (("super" : Str), NameKind.globalImplicit)] = some .local
      simp [List.lookup, hfb']
    have hks : (iS f).names.lookup ("super" : Str) = some .globalImplicit := by
      have h1 : (("super" : Str) == f) = false := by simpa using fun z : ("super" : Str) = f => T.fu z.symm
      have h2 : (("super" : Str) == ("self" : Str)) = false := by decide +kernel
      have h3 : (("super" : Str) == ("__class__" : Str)) = false := by decide +kernel
      show List.lookup ("super" : Str) [(("self" : Str), NameKind.local), (f, NameKind.local), (("__class__" : Str), NameKind.free), (("super" : Str), NameKind.globalImplicit)] = some .globalImplicit
      simp [List.lookup, h1, h2, h3]
    have hkc : (iS f).names.lookup ("__class__" : Str) = some .free := by
      have h1 : (("__class__" : Str) == f) = false := by simpa using fun z : ("__class__" : Str) = f => T.fc z.symm
      have h2 : (("__class__" : Str) == ("self" : Str)) = false := by decide +kernel
      show List.lookup ("__class__" : Str) [(("self" : Str), NameKind.local), (f, NameKind.local), (("__class__" : Str), NameKind.free), (("super" : Str), NameKind.globalImplicit)] = some .free
      simp [List.lookup, h1, h2]
    have hxL : s.heap.objs.size ≠ x := Nat.ne_of_gt (Heap.lt_size hx)
    have X₁ : K.In h₁ := X.keeps k
    have hx₁ := k _ _ hx
    have hD1 : h₁.get? C = some _ := X₁ _ _ hC
    show _root_.PySem.wpAt (model prog w) _ (.func (iB f m j a1 a2 a3 a4 a5 a6 q1 q2 q3 q4) (ksEnv q (iS f) s.heap.objs.size fI (.ref cda) cc)) (execs (iB f m j a1 a2 a3 a4 a5 a6 q1 q2 q3 q4) (ksEnv q (iS f) s.heap.objs.size fI (.ref cda) cc)) _ _ _
    obtain ⟨pl, hpl⟩ := hev (ksEnv q (iS f) s.heap.objs.size fI (.ref cda) cc)
    refine ks_wpAt_execs_cons (ks_wpAt_Expr_any (ks_wpAt_MethodCall (he := hpl) (ks_wpAt_super_base (env := ksEnv q (iS f) s.heap.objs.size fI (.ref cda) cc) hks hkc (by decide) rfl (X₁ _ _ ho) rfl (ar := { arg := "self", annotation := none, pos := p1 }) rfl rfl (X₁ _ _ hcode) rfl hvs hfile T.htop ?_)))
    refine ks_loadName_global rfl hks (loadGlobal_builtin (env := ksEnv q (iS f) s.heap.objs.size fI (.ref cda) cc) (hg.keeps k) T.mS (hb.keeps k) ((hbb _ (by decide +kernel)).trans (by decide +kernel)) ⟨rfl, ?_⟩)
    refine wpAny_loadName_free rfl hkc rfl ⟨_, X₁ _ _ hcell, rfl⟩ ?_
    refine wpAny_loadName_local rfl rfl hns hm2 ?_
    refine ks_wpAny_isType_cls hD1 rfl ⟨rfl, ?_⟩
    refine ks_wpAny_call_super hD1 rfl hx₁ rfl (fun c e => nomatch e) (looks_mroIn X₁ T.miC) (fun h₂ e₂ k₂ => ?_)
    have X₂ : K.In h₂ := X₁.keeps k₂
    have hx₂ := k₂ _ _ hx₁
    have I₂ : InstAt h₂ x (excO C t0) C none := ⟨hx₂, rfl, rfl, trivial⟩
    refine kxs_getMethod kxs_ValueError e₂ (looks_opaque X₂ T.op) (l₀ := .ref C :: bm) (fun A Q E s k q => wpAny_bind ((looks_clsIn X₂ hcl) A _ E s k (wpAny_pure q))) (by simp [List.dropWhile_cons]) X₂ hal (I₂.type.andThen (looks_subIn X₂ T.veC)) (ks_ne X₂ I₂ hcl) (by decide) ?_
    have k₃ : ∀ b o, h₂.get? b = some o → (h₂.push (kxs_mw "ValueError.__init__" x)).get? b = some o := fun b o e => Heap.get?_push_of_some _ e
    have hu₃ : (h₂.push (kxs_mw "ValueError.__init__" x)).get? h₂.objs.size = some (kxs_mw "ValueError.__init__" x) := Heap.get?_push_at rfl rfl
    refine kxs_callWith (i := "ValueError.__init__") (x := x) rfl ?_
    refine evalArgs_plain ?_
    show wpAny _ _ (spliced ((false, eval (.Constant (.str m) j a4) (ksEnv q (iS f) s.heap.objs.size fI (.ref cda) cc)) :: backTo a5 (starEach [] (ksEnv q (iS f) s.heap.objs.size fI (.ref cda) cc)))) _ _ _
    refine Calls.spliced_cons (Calls.Constant_str ?_)
    refine Calls.spliced_nil ⟨hu₃, ?_⟩
    have hx₃ := k₃ _ _ hx₂
    have hC₃ := k₃ _ _ (X₂ _ _ hC)
    refine call_mw hC₃ hx₃ hu₃ (one_size _) (fun h₄ t1 k₄ hx₄ => ?_)
    have k04 : ∀ b o, b ≠ x → h₁.get? b = some o → h₄.get? b = some o := fun b o hb e => k₄ b o hb (k₃ b o (k₂ b o e))
    have X₄ : K.In h₄ := fun b o e => k04 b o (fun z => by rw [z, hnx] at e; cases e) (X₁ b o e)
    obtain ⟨oL, es, ep, hL, hLr⟩ := hns
    have hns₄ : h₄.Ns s.heap.objs.size (fun y => ([(("self" : Str), Value.ref x), (f, v)] : List (Str × Value)).reverse.lookup y) := ⟨oL, es, ep, k04 _ _ hxL hL, hLr⟩
    show _root_.PySem.wpAt (model prog w) _ _ (execs _ _) _ _ _
    refine ks_wpAt_execs_cons (ks_wpAt_Assign_Attr ?_)
    refine wpAt_of_wpAny ?_
    refine wpAny_Name (wpAny_loadName_local (env := ksEnv q (iS f) s.heap.objs.size fI (.ref cda) cc) rfl hkf hns₄ hm1 ?_) T.fg
    refine wpAny_Name (wpAny_loadName_local (env := ksEnv q (iS f) s.heap.objs.size fI (.ref cda) cc) rfl rfl hns₄ hm2 ?_) (by decide)
    refine set_plain X₄ (ox := excO C t1) (od := none) ⟨hx₄, rfl, rfl, trivial⟩ T.sa ?_
    refine exc_osa X₄ hx₄ hcl (show refsVE (.ref C :: bm) = true from hbm) rfl T.noN (fun h₅ tk₅ dx k₅ dn dne hx₅ hn₅ => ?_)
    show _root_.PySem.wpAt (model prog w) _ _ (execs [] _) _ _ _
    have z : s.heap.objs.size < h₄.objs.size := hns₄.lt
    exact wpAt_of_wpAny (wpAny_execs_nil (hq h₅ tk₅ dx t1 ⟨fun b o hb e => k₅ b o hb (k04 b o hb (k b o e)), hx₅, Nat.le_of_lt (Nat.lt_of_lt_of_le z dn), dne, hn₅⟩))
theorem err_madeK (T : ErrTxt prog K mg cn f C fI) {v : Value} (hkw : ∀ fd oc od osl, K.lookup fI = some ⟨oc, od, .func fd, osl⟩ → ∀ (s : Shared) (x v : Value), BindsTo s fd ⟨[x], [(f, v)]⟩ [("self", x), (f, v)]) (X : K.In s.heap) (hg : s.heap.Ns mainGlobals mg) (hb : s.heap.Ns builtinsNs mb) (hbb : ∀ x : Str, x ≠ "__name__" → mb x = bootBuiltins x) (hlim : s.heap.NoLimit) (hroom : A.depth + 1 < recursionLimit)
    (hq : ∀ h' tk e d, OwnMade s.heap h' e C d f v → R (.ok (.ret (.ref e))) { s with heap := h', toks := tk }) :
    codeAny (model prog w) A (.call (.ref C) ⟨[], [(f, v)]⟩) R s := by
  obtain ⟨nm, q, N, bs, bm, sn, sub, ab, col, dd, k0, k1, k2, k3, k5, hC, hbm, hal⟩ := T.cls
  obtain ⟨hp, g, dr, tk, os⟩ := s
  have k : ∀ b o, hp.get? b = some o → ((hp.push (kdv_tup [])).push (excO C hp.objs.size)).get? b = some o := fun b o e => Heap.get?_push_of_some _ (Heap.get?_push_of_some _ e)
  have hget : ((hp.push (kdv_tup [])).push (excO C hp.objs.size)).get? (hp.objs.size + 1) = some (excO C hp.objs.size) := by heap_get
  have hnx : K.lookup (hp.objs.size + 1) = none := by
    cases e : K.lookup (hp.objs.size + 1) with
    | none => rfl
    | some o =>
      have z : hp.get? (hp.objs.size + 1) = some o := X _ _ e
      exact absurd (Nat.lt_of_succ_lt (Heap.lt_size z)) (Nat.lt_irrefl _)
  refine kw_call F.excBase_ValueError (fun X => refsVE_contains X bm hbm) (X _ _ hC) (looks_findIn X T.iC) (fun self => bind_fn X self T.tC) (Nat.zero_le _) ?_
  refine err_initA (s := ⟨(hp.push (kdv_tup [])).push (excO C hp.objs.size), g, dr, tk, os⟩) T (fun fd oc od osl ho => hkw fd oc od osl ho _ _ v) (X.keeps k) (hg.keeps k) (hb.keeps k) hbb (hlim.keeps k) hget hnx ?_ fun h' tk' dx t1 ⟨k', hx, dn, dne, hns⟩ => ?_
  · show A.depth + 1 < recursionLimit
    exact hroom
  · have old : ∀ b o, hp.get? b = some o → h'.get? b = some o := fun b o e => k' b o (Nat.ne_of_lt (Nat.lt_succ_of_lt (Heap.lt_size e))) (k b o e)
    have z : hp.objs.size + 1 + 1 ≤ dx := by
      first
        | (simpa only [Heap.size_push] using dn)
        | exact dn
        | (have q := dn; rw [Heap.size_push, Heap.size_push] at q; exact q)
    exact ⟨rfl, hq h' tk' (hp.objs.size + 1) dx ⟨old, Nat.le_succ _, ⟨t1, hx⟩, Nat.le_trans (Nat.le_trans (Nat.le_succ _) (Nat.le_succ _)) z, dne, hns⟩⟩
theorem err_init0 (T : ErrTxt0 prog K mg cn C fI) {x t0 : Addr} (X : K.In s.heap) (hg : s.heap.Ns mainGlobals mg) (hb : s.heap.Ns builtinsNs mb) (hbb : ∀ x : Str, x ≠ "__name__" → mb x = bootBuiltins x) (hlim : s.heap.NoLimit) (hx : s.heap.get? x = some (excO C t0)) (hnx : K.lookup x = none) (hroom : A.depth < recursionLimit)
    (hq : ∀ h' tk t1, (∀ b o, b ≠ x → s.heap.get? b = some o → h'.get? b = some o) → h'.get? x = some (excO C t1) → R (.ok (.ret .none)) { s with heap := h', toks := tk }) :
    codeAny (model prog w) A (.call (.ref fI) ⟨[.ref x], []⟩) R s := by
  obtain ⟨oc, od, doc, pm, an, cda, ct, osl, p1, m, j, a1, a2, a3, a4, a5, a6, cc, q, ccl, cdd, vs, ccs, file, tf, cl, cld, csl, ho, hcd, hcode, hvs, hfile, hcell, hbind, hev⟩ := T.fn
  obtain ⟨nm, qq, N, bs, bm, sn, sub, ab, col, dd, k0, k1, k2, k3, k5, hC, hbm, hal⟩ := T.cls
  have hcl : clsIn K C = some { name := nm, bases := bs, mro := .ref C :: bm, ns := N, qualname := qq, hasDict := true, slotNames := sn, subclasses := sub, abstract := ab, collection := col, hasDel := false } := by unfold clsIn; rw [hC] <;> rfl
  refine ks_codeAny_call_defAt (fd := ksFn "__init__" q (iA0 p1) (iB0 m j a1 a2 a3 a4 a5 a6) iS0 .none .none doc pm an (.ref cda) ct cc) (body := iB0 m j a1 a2 a3 a4 a5 a6) (binds := [("self", .ref x)])
    hroom (X _ _ ho) rfl hlim (codeRec_of X hcd) rfl (hbind s (.ref x)) ?_ ?_ (fun h₁ hns k => ?_)
  · intro y hy
    have : y ∈ [(("self" : Str), NameKind.local), (("__class__" : Str), NameKind.free), (("super" : Str), NameKind.globalImplicit)] := hy
    simp only [List.mem_cons, List.not_mem_nil, or_false] at this
    rcases this with rfl | rfl | rfl <;> exact fun z => NameKind.noConfusion z
  · intro y hy
    have : y = (("self" : Str), Value.ref x) := by simpa using hy
    subst this
    rfl
  · have hm2 : ([(("self" : Str), Value.ref x)] : List (Str × Value)).reverse.lookup ("self" : Str) = some (Value.ref x) := by
      show List.lookup ("self" : Str) [(("self" : Str), Value.ref x)] = some (Value.ref x)
      simp [List.lookup]
    have hks : iS0.names.lookup ("super" : Str) = some .globalImplicit := by decide +kernel
    have hkc : iS0.names.lookup ("__class__" : Str) = some .free := by decide +kernel
    have hxL : s.heap.objs.size ≠ x := Nat.ne_of_gt (Heap.lt_size hx)
    have X₁ : K.In h₁ := X.keeps k
    have hx₁ := k _ _ hx
    have hD1 : h₁.get? C = some _ := X₁ _ _ hC
    show _root_.PySem.wpAt (model prog w) _ (.func (iB0 m j a1 a2 a3 a4 a5 a6) (ksEnv q iS0 s.heap.objs.size fI (.ref cda) cc)) (execs (iB0 m j a1 a2 a3 a4 a5 a6) (ksEnv q iS0 s.heap.objs.size fI (.ref cda) cc)) _ _ _
    obtain ⟨pl, hpl⟩ := hev (ksEnv q iS0 s.heap.objs.size fI (.ref cda) cc)
    refine ks_wpAt_execs_cons (ks_wpAt_Expr_any (ks_wpAt_MethodCall (he := hpl) (ks_wpAt_super_base (env := ksEnv q iS0 s.heap.objs.size fI (.ref cda) cc) hks hkc (by decide) rfl (X₁ _ _ ho) rfl (ar := { arg := "self", annotation := none, pos := p1 }) rfl rfl (X₁ _ _ hcode) rfl hvs hfile T.htop ?_)))
    refine ks_loadName_global rfl hks (loadGlobal_builtin (env := ksEnv q iS0 s.heap.objs.size fI (.ref cda) cc) (hg.keeps k) T.mS (hb.keeps k) ((hbb _ (by decide +kernel)).trans (by decide +kernel)) ⟨rfl, ?_⟩)
    refine wpAny_loadName_free rfl hkc rfl ⟨_, X₁ _ _ hcell, rfl⟩ ?_
    refine wpAny_loadName_local rfl rfl hns hm2 ?_
    refine ks_wpAny_isType_cls hD1 rfl ⟨rfl, ?_⟩
    refine ks_wpAny_call_super hD1 rfl hx₁ rfl (fun c e => nomatch e) (looks_mroIn X₁ T.miC) (fun h₂ e₂ k₂ => ?_)
    have X₂ : K.In h₂ := X₁.keeps k₂
    have hx₂ := k₂ _ _ hx₁
    have I₂ : InstAt h₂ x (excO C t0) C none := ⟨hx₂, rfl, rfl, trivial⟩
    refine kxs_getMethod kxs_ValueError e₂ (looks_opaque X₂ T.op) (l₀ := .ref C :: bm) (fun A Q E s k q => wpAny_bind ((looks_clsIn X₂ hcl) A _ E s k (wpAny_pure q))) (by simp [List.dropWhile_cons]) X₂ hal (I₂.type.andThen (looks_subIn X₂ T.veC)) (ks_ne X₂ I₂ hcl) (by decide) ?_
    have k₃ : ∀ b o, h₂.get? b = some o → (h₂.push (kxs_mw "ValueError.__init__" x)).get? b = some o := fun b o e => Heap.get?_push_of_some _ e
    have hu₃ : (h₂.push (kxs_mw "ValueError.__init__" x)).get? h₂.objs.size = some (kxs_mw "ValueError.__init__" x) := Heap.get?_push_at rfl rfl
    refine kxs_callWith (i := "ValueError.__init__") (x := x) rfl ?_
    refine evalArgs_plain ?_
    show wpAny _ _ (spliced ((false, eval (.Constant (.str m) j a4) (ksEnv q iS0 s.heap.objs.size fI (.ref cda) cc)) :: backTo a5 (starEach [] (ksEnv q iS0 s.heap.objs.size fI (.ref cda) cc)))) _ _ _
    refine Calls.spliced_cons (Calls.Constant_str ?_)
    refine Calls.spliced_nil ⟨hu₃, ?_⟩
    have hx₃ := k₃ _ _ hx₂
    have hC₃ := k₃ _ _ (X₂ _ _ hC)
    refine call_mw hC₃ hx₃ hu₃ (one_size _) (fun h₄ t1 k₄ hx₄ => ?_)
    have k04 : ∀ b o, b ≠ x → h₁.get? b = some o → h₄.get? b = some o := fun b o hb e => k₄ b o hb (k₃ b o (k₂ b o e))
    show _root_.PySem.wpAt (model prog w) _ _ (execs [] _) _ _ _
    exact wpAt_of_wpAny (wpAny_execs_nil (hq h₄ _ t1 (fun b o hb e => k04 b o hb (k b o e)) hx₄))
theorem err_made0 (T : ErrTxt0 prog K mg cn C fI) (X : K.In s.heap) (hg : s.heap.Ns mainGlobals mg) (hb : s.heap.Ns builtinsNs mb) (hbb : ∀ x : Str, x ≠ "__name__" → mb x = bootBuiltins x) (hlim : s.heap.NoLimit) (hroom : A.depth + 1 < recursionLimit)
    (hq : ∀ h' tk e t1, (∀ b o, s.heap.get? b = some o → h'.get? b = some o) → s.heap.objs.size ≤ e → h'.get? e = some (excO C t1) → R (.ok (.ret (.ref e))) { s with heap := h', toks := tk }) :
    codeAny (model prog w) A (.call (.ref C) ⟨[], []⟩) R s := by
  obtain ⟨nm, q, N, bs, bm, sn, sub, ab, col, dd, k0, k1, k2, k3, k5, hC, hbm, hal⟩ := T.cls
  obtain ⟨hp, g, dr, tk, os⟩ := s
  have k : ∀ b o, hp.get? b = some o → ((hp.push (kdv_tup [])).push (excO C hp.objs.size)).get? b = some o := fun b o e => Heap.get?_push_of_some _ (Heap.get?_push_of_some _ e)
  have hget : ((hp.push (kdv_tup [])).push (excO C hp.objs.size)).get? (hp.objs.size + 1) = some (excO C hp.objs.size) := by heap_get
  have hnx : K.lookup (hp.objs.size + 1) = none := by
    cases e : K.lookup (hp.objs.size + 1) with
    | none => rfl
    | some o =>
      have z : hp.get? (hp.objs.size + 1) = some o := X _ _ e
      exact absurd (Nat.lt_of_succ_lt (Heap.lt_size z)) (Nat.lt_irrefl _)
  refine kw_call F.excBase_ValueError (fun X => refsVE_contains X bm hbm) (X _ _ hC) (looks_findIn X T.iC) (fun self => bind_fn X self T.tC) (Nat.zero_le _) ?_
  refine err_init0 (s := ⟨(hp.push (kdv_tup [])).push (excO C hp.objs.size), g, dr, tk, os⟩) T (X.keeps k) (hg.keeps k) (hb.keeps k) hbb (hlim.keeps k) hget hnx ?_ fun h' tk' t1 k' hx => ?_
  · show A.depth + 1 < recursionLimit
    exact hroom
  · exact ⟨rfl, hq h' tk' (hp.objs.size + 1) t1 (fun b o e => k' b o (Nat.ne_of_lt (Nat.lt_succ_of_lt (Heap.lt_size e))) (k b o e)) (Nat.le_succ _) hx⟩
end
end ErrX
end PySem
set_option Elab.async false
set_option linter.all false
set_option maxRecDepth 100000
set_option maxHeartbeats 3900000
namespace M
open PySem PySem.Spec PyProof.Rows L2 G
section
variable {X : Cx} {C fI : Addr} {cn f : Str}
theorem exV_ok {P : Program} {w : World} {H : Hp} {h : Heap} {a C : Addr} {od : Option Addr} {oe : Obj} {vs : Array Value} (e : h.get? a = some oe) (z : Zc (.ref C) od oe) (d : oe.data = .fields vs) : ObjOk P w H h a (ExV C od a) :=
  ⟨⟨oe, vs, e, z, d⟩, ⟨oe, e⟩, fun _ _ ⟨o, v, q, r⟩ k => ⟨o, v, k o q, r⟩⟩
/-- what makes an exception, as a value -/
def tOfMk (C : Addr) (t : L2.St → Hp → XK → Prop) : TE := fun σ H Q => t σ H fun cls d H' => cls = .ref C ∧ ∀ a, H' a = none → Q (.ref a) (upd H' a (ExV C d a))
theorem pe_ofMk {e : Expr} {t : L2.St → Hp → XK → Prop} (hm : PMk X e t) : PE X e (tOfMk C t) := by
  refine ⟨fun pins s σ H Q I h => ?_⟩
  refine wpAny_mono (hm pins s σ H _ I h) (fun u s1 hu => ?_) fun _ _ z => z
  obtain ⟨a, oe, vs, sI, H', cls, d, rfl, J, k, hne, ha, hz, hd, h1, na, os, ag, r, rfl, q⟩ := hu
  exact ⟨.ref a, _, J.call' (ch := []) os (Un.laidN k hne na) (J.hok.laidN k na (exV_ok ha hz hd)) ag (fun _ z => nomatch z), rfl, q a na⟩
/-- cn(e) -/
def tMkV (C : Addr) (f : Str) (ta : TA) : TE := tOfMk C (tMkE C f ta)
theorem pe_mkV {a : Expr} {ta : TA} {p pos : Pos} {k : Nat} (T : PySem.ErrX.ErrTxt X.prog X.K X.mg cn f C fI) (hr : Room k X.A) (ha : PA X [a] ta) (hg : Gl X cn)
    (hdb : (cn == ("__debug__" : Str)) = false := by decide) (he : starEach (a :: []) X.env = (false, eval a X.env) :: starEach [] X.env := by rfl) (hpl : (backTo pos (starEach [] X.env)).any (·.1) = false := by rfl) :
    PE X (.Call (.Name cn p) [a] [] pos) (tMkV C f ta) := pe_ofMk (pmk_err T hr ha hg hdb he hpl)
/-- cn(f = e) -/
def KwB (K : PySem.W.Frag) (f : Str) (fI : Addr) : Prop := ∀ fd oc od osl, K.lookup fI = some ⟨oc, od, .func fd, osl⟩ → ∀ (s : Shared) (x v : Value), BindsTo s fd ⟨[x], [(f, v)]⟩ [("self", x), (f, v)]
theorem made_mk {pins : List (Addr × Obj)} {σ : L2.St} {H : Hp} {s : Shared} {Q : XK} {h' : Heap} {e d : Addr} {v : V} {v' : Value} {tk : Nat} (I : Inv X pins σ H s) (rv : RelV v v') (M : PySem.ErrX.OwnMade s.heap h' e C d f v') (r : Raises X (.ref C)) (q : Q (.ref C) (some d) (upd H d (.xd [(f, v)]))) : MkP X pins σ Q (.ref e) { s with heap := h', toks := tk } := by
  obtain ⟨t1, hoe⟩ := M.obj
  have hns := M.ns
  obtain ⟨W, g1, g2⟩ := restrict h' fun b => decide (b ≠ e)
  have gk : ∀ b, b ≠ e → W.get? b = h'.get? b := fun b hb => g1 b (decide_eq_true hb)
  have ge : W.get? e = none := g2 e (by simp)
  have old : ∀ b o, s.heap.get? b = some o → W.get? b = some o := fun b o q => (gk b (Nat.ne_of_lt (Nat.lt_of_lt_of_le (Heap.lt_size q) M.new))).trans (M.keep b o q)
  have ob : ObjOk X.prog X.w (upd H d (.xd [(f, v)])) W d (.xd [(f, v)]) := ⟨_, hns.at (fun o q => (gk d M.dne).trans q), fun y => relO_one rv y⟩
  have J : Inv X pins σ (upd H d (.xd [(f, v)])) { s with heap := W, toks := tk } := I.laid (t' := tk) old M.dbig ob
  refine ⟨e, _, _, _, _, .ref C, some d, rfl, J, fun b o q => ?_, ge, hoe, ⟨rfl, rfl⟩, rfl, rfl, ?_, rfl, I.bare, r, q⟩
  · by_cases hb : b = e
    · have z : W.get? b = some o := q
      rw [hb, ge] at z; cases z
    · exact (gk b hb).symm.trans q
  · rw [upd_ne (Ne.symm M.dne)]
    exact I.hok.fresh M.new
theorem pe_mkK {a : Expr} {ta : TA} {p pos kpos : Pos} {k : Nat} (T : PySem.ErrX.ErrTxt X.prog X.K X.mg cn f C fI) (B : KwB X.K f fI) (hr : Room k X.A) (ha : PK X [⟨some f, a, kpos⟩] ta) (hg : Gl X cn)
    (hdb : (cn == ("__debug__" : Str)) = false := by decide) (hall : (backToKw pos (keywordEach [⟨some f, a, kpos⟩] X.env)).all (·.1.isSome) = true := by rfl) (hks : (backToKw pos (keywordEach [⟨some f, a, kpos⟩] X.env)).filterMap (·.1) = [f] := by rfl)
    (hpl : ((backTo pos (starEach [] X.env)).any (·.1) || (backToKw pos (keywordEach [⟨some f, a, kpos⟩] X.env)).any (·.1.isNone)) = false := by rfl) :
    PE X (.Call (.Name cn p) [] [⟨some f, a, kpos⟩] pos) (tMkV C f ta) := by
  refine pe_ofMk ?_
  intro pins s σ H Q I h
  refine wpAny_Call_Name_kw (ld_glob I hg T.gC ?_ hdb)
  refine PySem.W.callWith_KW0 (h₀ := X.base) I.ok.mod.kin T.kC hall (thn (ha.run pos pins s σ H _ I h) fun ws s1 hh => ?_) hpl
  obtain ⟨vs, H1, I1, r1, v, ev, q1⟩ := hh
  subst ev
  refine ⟨I1.kIn, ?_⟩
  rw [hks]
  cases r1 with
  | cons rv rn =>
    rename_i v' us'
    cases rn
    show wpAny _ _ (call (.ref C) [] [(f, v')]) _ _ _
    obtain ⟨mb, hmb, hbb⟩ := I1.mod.blt
    exact wpAny_call (PySem.ErrX.err_madeK T B I1.kIn (I1.mod.glob.keeps I1.bk) (hmb.keeps I1.bk) hbb I1.nolimit (by have := hr.dp; omega) fun h' tk' e d M => made_mk I1 rv M (raises_own T.exC T.tyC) (q1 d (I1.hok.fresh M.dbig)))
/-- cn() -/
def tMk0 (C : Addr) : TE := fun σ H Q => ∀ a, H a = none → Q (.ref a) (upd H a (ExV C none a))
theorem pe_mk0 {p pos : Pos} {k : Nat} (T : PySem.ErrX.ErrTxt0 X.prog X.K X.mg cn C fI) (hr : Room k X.A) (hg : Gl X cn) (hdb : (cn == ("__debug__" : Str)) = false := by decide) :
    PE X (.Call (.Name cn p) [] [] pos) (tMk0 C) := by
  refine ⟨fun pins s σ H Q I h => ?_⟩
  refine wpAny_Call_Name_kw (ld_glob I hg T.gC ?_ hdb)
  refine PySem.W.callWith_K0 I.kIn T.kC ?_
  show wpAny _ _ (call (.ref C) []) _ _ _
  obtain ⟨mb, hmb, hbb⟩ := I.mod.blt
  refine wpAny_call (PySem.ErrX.err_made0 T I.kIn (I.mod.glob.keeps I.bk) (hmb.keeps I.bk) hbb I.nolimit (by have := hr.dp; omega) fun h' tk' e t1 k hn he => ?_)
  have na : H e = none := I.hok.fresh hn
  have hne : s.heap.get? e = none := by
    cases z : s.heap.get? e with
    | none => rfl
    | some o => exact absurd (Heap.lt_size z) (Nat.not_lt.mpr hn)
  exact ⟨.ref e, _, I.call' (s' := { s with heap := h', toks := tk' }) (ch := []) rfl (Un.laidN k hne na) (I.hok.laidN k na (exV_ok he ⟨rfl, rfl⟩ rfl)) I.bare (fun _ z => nomatch z), rfl, h e na⟩
/-- e.f -/
def tGetV (C : Addr) (f : Str) (te : TE) : TE := fun σ H Q => te σ H fun x H1 => ∃ (a dd : Addr) (v : V), x = .ref a ∧ H1 a = some (ExV C (some dd) a) ∧ H1 dd = some (.xd [(f, v)]) ∧ Q v H1
theorem pe_getV {e : Expr} {te : TE} {pos : Pos} (T : PySem.ErrX.ErrTxt X.prog X.K X.mg cn f C fI) (he : PE X e te) (hb : attributeBase e f X.env (eval e X.env) = eval e X.env := by rfl) : PE X (.Attribute e f pos) (tGetV C f te) := by
  refine ⟨fun pins s σ H Q I h => ?_⟩
  refine attr_of hb (thn (he.run pins s σ H _ I h) fun u s1 hh => ?_)
  obtain ⟨x, H1, I1, rx, a, dd, v, rfl, ea, ed, q⟩ := hh
  obtain rfl : u = Value.ref a := rx
  obtain ⟨⟨oe, vs, ha, hz, hd⟩, _, _⟩ := I1.hok a _ ea
  have hx : ObjOk X.prog X.w H1 s1.heap dd (.xd [(f, v)]) := I1.hok dd _ ed
  obtain ⟨mA, hns, hr⟩ := hx
  obtain ⟨od, ho, hl⟩ := lookIn_ns hns
  have l : List.lookup f [(f, v)] = some v := by simp [List.lookup]
  obtain ⟨u, hu, ru⟩ := RelO.some_of (v := v) (o := mA f) (by rw [← l]; exact hr f)
  have J : PySem.W.InstAt s1.heap a oe C (some od) := ⟨ha, hz.1, by unfold PySem.W.notCls; rw [hd] <;> rfl, by rw [hz.2]; exact ho⟩
  exact HandSPX.exc_get I1.kIn J T.ga T.gg T.exC (PySem.W.findObj_own T.hdC T.noN rfl (by rw [hl, hu])) (handed_of ru) ⟨v, H1, I1.tok _, ru, q⟩
end
def rIsV (K : PySem.W.Frag) : List V → Hp → VK → Prop := fun xs H Q => ∃ (a C : Addr) (od : Option Addr) (c : V) (cv : Value) (b : Bool), xs = [.ref a, c] ∧ H a = some (ExV C od a) ∧ (∀ dd, od = some dd → ∃ fs, H dd = some (.xd fs)) ∧ L2.ExcC K C ∧ ClsV c cv ∧ PySem.W.kitOne K (.ref C) cv = some b ∧ Q (.bl b) H
theorem clsV_rel {c : V} {cv u : Value} (h : ClsV c cv) (r : RelV c u) : u = cv := by
  cases h with
  | ty n => exact r
  | own a => exact r
theorem call_isEV {X : Cx} {K : PySem.W.Frag} (hK : X.K = K) : CallR X (.builtin "isinstance") (rIsV K) := by
  subst hK
  intro pins s σ H xs us Q I r h
  obtain ⟨a, C, od, c, cv, b, rfl, ea, hd, Z, hc, hk, q⟩ := h
  cases r with
  | cons rx rr =>
    cases rr with
    | cons rt rr =>
      cases rr
      cases rx
      have ec := clsV_rel hc rt
      subst ec
      rename_i u
      obtain ⟨⟨oe, vs, ha, hz, hv⟩, _, _⟩ := I.hok a _ ea
      have hcl : (PySem.W.clsIn X.K C).isSome = true := by
        have := Z.hd
        unfold PySem.W.hasDictIn at this
        cases e : PySem.W.clsIn X.K C with
        | none => rw [e] at this; cases this
        | some _ => rfl
      have nc : PySem.W.notCls oe := by unfold PySem.W.notCls; rw [hv] <;> rfl
      have go : ∀ ob : Option Obj, PySem.W.InstAt s.heap a oe C ob → wpAny (model X.prog X.w) X.A (call (.builtin "isinstance") [.ref a, u]) (EP X pins σ Q) X.xe s := fun ob J =>
        PySem.W.kia_one (PySem.W.kitx_exc hcl Z.hg Z.hk Z.hs Z.ha Z.hn Z.ht Z.hm) I.kIn J hk (fun z => nomatch z) fun tk => ⟨.bl b, H, I.kept (t' := tk) fun _ _ z => z, rfl, q⟩
      cases od with
      | none => exact go none ⟨ha, hz.1, nc, by rw [hz.2]; trivial⟩
      | some dd =>
        obtain ⟨fs, e⟩ := hd dd rfl
        have hx : ObjOk X.prog X.w H s.heap dd (.xd fs) := I.hok dd _ e
        obtain ⟨mA, hns, hr⟩ := hx
        obtain ⟨ob, ho, _⟩ := lookIn_ns hns
        exact go (some ob) ⟨ha, hz.1, nc, by rw [hz.2]; exact ho⟩
def mkVM (C : Addr) (f : Str) (A : MA) : ME := fun δ c Ψ Φ => A δ c Ψ fun xs c1 => oneD xs fun x => Φ (.exc C [(f, x)]) c1
def mk0M (C : Addr) : ME := fun _ c _ Φ => Φ (.exc C []) c
def getVM (C : Addr) (f : Str) (a : ME) : ME := fun δ c Ψ Φ => a δ c Ψ fun x c1 => match x with
  | .exc C' [(g, d)] => C' = C ∧ g = f ∧ Φ d c1
  | _ => False
def isVD (K : PySem.W.Frag) (xs : List D) (c : SH) (Φ : QD) : Prop := twoD xs fun x y => match x with
  | .exc C _ => L2.ExcC K C ∧ (match clD y with
    | some u => ∃ b, PySem.W.kitOne K (.ref C) u = some b ∧ Φ (.bl b) c
    | none => False)
  | _ => False
section
variable {K : PySem.W.Frag} {tb : List (Addr × Str)} {W : WX} {C : Addr} {f : Str} {ta : TE} {a : ME} {tA : TA} {mA : MA}
theorem snd_mkV (hA : SndA K tb W tA mA) : SndE K tb W (tMkV C f tA) (mkVM C f mA) := by
  intro al G c H σ δ Ψ Φ Q g m q
  refine hA al G c H σ δ Ψ _ _ g m fun xs c1 al1 G1 H1 vs r1 l1 d1 m1 => ?_
  obtain ⟨x, v, rfl, rfl, dx, m2⟩ := oneD_of m1 d1
  refine ⟨v, rfl, fun dd hd => ⟨rfl, fun p hp => ?_⟩⟩
  have hg := r1.fresh hd
  have r2 := r1.data (o := .xd [(f, v)]) hd nofun
  have hg2 := r2.fresh hp
  have r3 := r2.data (o := ExV C (some dd) p) hp nofun
  have ne : dd ≠ p := fun z => by rw [← z, upd_same] at hp; cases hp
  have l3 := (l1.trans (Le.data (o := .xd [(f, v)]) hd hg nofun)).trans (Le.data (o := ExV C (some dd) p) hp hg2 nofun)
  refine q (.exc C [(f, x)]) c1 al1 _ _ (.ref p) r3 l3 (.exc (vs := [(f, v)]) upd_same (fun d e => ?_) (fun e => nomatch e) (.cons (dx.mono (fun _ _ => id) ((Ex.new hg).trans (Ex.new hg2))) .nil)) m2
  cases e
  rw [upd_ne ne, upd_same]
theorem snd_mk0 : SndE K tb W (tMk0 C) (mk0M C) := by
  intro al G c H σ δ Ψ Φ Q g m q p hp
  have hg := g.rep.fresh hp
  exact q (.exc C []) c al _ _ (.ref p) (g.rep.data (o := ExV C none p) hp nofun) (Le.data (o := ExV C none p) hp hg nofun) (.exc upd_same (fun d e => nomatch e) (fun _ => rfl) .nil) m
theorem snd_getV (ha : SndE K tb W ta a) : SndE K tb W (tGetV C f ta) (getVM C f a) := by
  intro al G c H σ δ Ψ Φ Q g m q
  refine ha al G c H σ δ Ψ _ _ g m fun x c1 al1 G1 H1 v r1 l1 d1 m1 => ?_
  split at m1
  · obtain ⟨rfl, rfl, m2⟩ := m1
    cases d1 with
    | exc h1 h2 h3 r =>
      rename_i a od vs
      cases r with
      | cons hv rr =>
        rename_i w us
        cases rr
        cases od with
        | none => cases h3 rfl
        | some dd => exact ⟨a, dd, w, rfl, r1.sub _ _ h1, r1.sub _ _ (h2 dd rfl), q _ c1 al1 G1 H1 _ r1 l1 hv m2⟩
  · cases m1
theorem dc_isV : DCall K tb (rIsV K) (isVD K) := by
  intro al G c H xs ds Φ Q R hd m q
  obtain ⟨x, y, v, u, rfl, rfl, dx, dy, m2⟩ := twoD_of m hd
  split at m2
  · obtain ⟨Z, m3⟩ := m2
    split at m3
    · rename_i cv e
      obtain ⟨b, hk, m4⟩ := m3
      cases dx with
      | exc h1 h2 h3 r => exact ⟨_, _, _, _, _, b, rfl, R.sub _ _ h1, fun dd e => ⟨_, R.sub _ _ (h2 dd e)⟩, Z, cl_den dy e, hk, q _ c al G H _ R .refl (.bl _) m4⟩
    · cases m3
  · cases m2
instance [hA : Ok (SndA K tb W tA mA)] : Ok (SndE K tb W (tMkV C f tA) (mkVM C f mA)) := ⟨snd_mkV hA.ok⟩
instance : Ok (SndE K tb W (tMk0 C) (mk0M C)) := ⟨snd_mk0⟩
instance [ha : Ok (SndE K tb W ta a)] : Ok (SndE K tb W (tGetV C f ta) (getVM C f a)) := ⟨snd_getV ha.ok⟩
instance : Ok (DCall K tb (rIsV K) (isVD K)) := ⟨dc_isV⟩
end
section
variable {K : PySem.W.Frag} {C : Addr} {f : Str} {a : ME} {A : MA} {δ : Env} {c : SH} {Ψ : XD} {Φ : QD}
theorem e_mkV (h : A δ c Ψ fun xs c1 => oneD xs fun x => Φ (.exc C [(f, x)]) c1) : mkVM C f A δ c Ψ Φ := h
theorem e_mk0 (h : Φ (.exc C []) c) : mk0M C δ c Ψ Φ := h
def getVK (C : Addr) (f : Str) (Φ : QD) (x : D) (c1 : SH) : Prop := match x with
  | .exc C' [(g, d)] => C' = C ∧ g = f ∧ Φ d c1
  | _ => False
theorem e_getV (h : a δ c Ψ (getVK C f Φ)) : getVM C f a δ c Ψ Φ := h
theorem e_getVK {d : D} (q : Φ d c) : getVK C f Φ (.exc C [(f, d)]) c := ⟨rfl, rfl, q⟩
instance : M.W (mkVM C f A δ c Ψ Φ) (A δ c Ψ fun xs c1 => oneD xs fun x => Φ (.exc C [(f, x)]) c1) := ⟨e_mkV⟩
instance : M.W (mk0M C δ c Ψ Φ) (Φ (.exc C []) c) := ⟨e_mk0⟩
instance : M.W (getVM C f a δ c Ψ Φ) (a δ c Ψ (getVK C f Φ)) := ⟨e_getV⟩
instance {d : D} : M.W (getVK C f Φ (.exc C [(f, d)]) c) (Φ d c) := ⟨e_getVK⟩
theorem e_isV {fs : List (Str × D)} {y : D} {u : Value} {b : Bool} (Z : L2.ExcC K C) (e : clD y = some u) (hk : PySem.W.kitOne K (.ref C) u = some b) (q : Φ (.bl b) c) : isVD K [.exc C fs, y] c Φ := by
  refine ⟨Z, ?_⟩
  rw [e]
  exact ⟨b, hk, q⟩
end
end M
set_option Elab.async false
set_option linter.all false
set_option maxRecDepth 100000
set_option maxHeartbeats 3900000
namespace M
open PySem PySem.Spec PyProof.Rows L2 G
def tCallE (cand : Addr → Sp → Prop) (E : L2.St → XK) (tf : TE) (t : TA) : TE := fun σ H Q => tf σ H fun x H1 => ∃ f sp, x = .ref f ∧ cand f sp ∧ t σ H1 fun vs H2 => sp vs H2 Q (E σ)
theorem pe_callE {X : Cx} {CX : CXT} {cand : Addr → Sp → Prop} {E : L2.St → XK} {func e : Expr} {es : List Expr} {tf : TE} {t : TA} {pos : Pos} (hf : PE X func tf) (ha : PA X (e :: es) t)
    (hF : ∀ f sp, cand f sp → ∃ k fd ps, FnOk X.prog X.w X.K X.mg X.base CX k f fd ps sp ∧ Room k X.A ∧ PySem.W.keepIn X.K (.ref f) = true ∧ Binds X.K fd ps []) (hx : ∀ σ, PassesAt CX X σ (E σ))
    (hev : eval (.Call func (e :: es) [] pos) X.env = (do callWith pos (← eval func X.env) [] (backTo pos (starEach (e :: es) X.env)) (backToKw pos (keywordEach [] X.env))) := by rfl)
    (he : starEach (e :: es) X.env = (false, eval e X.env) :: starEach es X.env := by rfl) (hpl : (backTo pos (starEach es X.env)).any (·.1) = false := by rfl) :
    PE X (.Call func (e :: es) [] pos) (tCallE cand E tf t) := by
  refine ⟨fun pins s σ H Q I h => ?_⟩
  rw [hev]
  refine wpAny_bind (thn (hf.run pins s σ H _ I h) fun u s1 ⟨x, H1, I1, rx, f, sp, ex, cd, h2⟩ => ?_)
  subst ex
  cases (show u = Value.ref f from rx)
  obtain ⟨k, fd, ps, F, hr, hk, hb⟩ := hF f sp cd
  refine PySem.W.callWith_K (h₀ := X.base) I1.ok.mod.kin hk (thn (ha.run pos pins s1 σ H1 _ I1 h2) fun us s2 ⟨vs, H2, I2, r, q⟩ => ⟨I2.kIn, ?_⟩) he hpl
  exact run_fnSD F hr hb .nil (hx σ) I2 r (by rw [List.append_nil]; exact q)
def candF (K : PySem.W.Frag) (tb : List (Addr × Str)) (Fs : List (Addr × Fn)) : Addr → Sp → Prop := fun f sp => ∃ F, (f, F) ∈ Fs ∧ sp = SpG K tb F
def callEM (Fs : List (Addr × Fn)) (a : ME) (A : MA) : ME := fun δ c Ψ Φ => a δ c Ψ fun x c1 => match x with
  | .adr f => ∃ F, (f, F) ∈ Fs ∧ A δ c1 Ψ fun xs c2 => F xs c2 Ψ Φ
  | _ => False
section
variable {K : PySem.W.Frag} {tb : List (Addr × Str)} {W : WX} {ta : TE} {a : ME} {tA : TA} {mA : MA} {Fs : List (Addr × Fn)}
theorem snd_callE (ha : SndE K tb W ta a) (hA : SndA K tb W tA mA) : SndE K tb W (tCallE (candF K tb Fs) (WE W) ta tA) (callEM Fs a mA) := by
  intro al G c H σ δ Ψ Φ Q g m q
  refine ha al G c H σ δ Ψ _ _ g m fun x c1 al1 G1 H1 v r1 l1 d1 m1 => ?_
  split at m1
  · obtain ⟨F, hF, m2⟩ := m1
    cases d1
    refine ⟨_, _, rfl, ⟨F, hF, rfl⟩, ?_⟩
    refine hA al1 G1 c1 H1 σ δ Ψ _ _ (g.le r1 l1) m2 fun xs c2 al2 G2 H2 vs r2 l2 d2 m3 => ?_
    exact ⟨al2, G2, c2, xs, Ψ, Φ, r2, d2, m3, q.le (l1.trans l2), g.thr.le (l1.trans l2)⟩
  · cases m1
instance [ha : Ok (SndE K tb W ta a)] [hA : Ok (SndA K tb W tA mA)] : Ok (SndE K tb W (tCallE (candF K tb Fs) (WE W) ta tA) (callEM Fs a mA)) := ⟨snd_callE ha.ok hA.ok⟩
end
section
variable {a : ME} {A : MA} {δ : Env} {c : SH} {Ψ : XD} {Φ : QD} {Fs : List (Addr × Fn)}
def callEK (Fs : List (Addr × Fn)) (A : MA) (δ : Env) (Ψ : XD) (Φ : QD) (x : D) (c1 : SH) : Prop := match x with
  | .adr f => ∃ F, (f, F) ∈ Fs ∧ A δ c1 Ψ fun xs c2 => F xs c2 Ψ Φ
  | _ => False
theorem e_callE (h : a δ c Ψ (callEK Fs A δ Ψ Φ)) : callEM Fs a A δ c Ψ Φ := h
instance : M.W (callEM Fs a A δ c Ψ Φ) (a δ c Ψ (callEK Fs A δ Ψ Φ)) := ⟨e_callE⟩
theorem e_callEK {f : Addr} {F : Fn} (hF : (f, F) ∈ Fs) (h : A δ c Ψ fun xs c2 => F xs c2 Ψ Φ) : callEK Fs A δ Ψ Φ (.adr f) c := ⟨F, hF, h⟩
end
end M
set_option Elab.async false
set_option linter.all false
set_option maxRecDepth 100000
set_option maxHeartbeats 3900000
namespace M
open PySem PySem.Spec PyProof.Rows L2 G
theorem err_mk {l : PySem.W.OpenLaw} {K : PySem.W.Frag} {h : Heap} {mg : Str → Option Value} {cn f : Str} {C I : Addr} {nm qq : Str} {N : Addr} {bs bm : List Value} {sn : List Str} {sub : List Value} {ab : Bool} {col : Option Bool} {dd : Option Addr} {x0 x1 x2 x3 x5 : Option Value} {oc doc pm ct ccl cl : Value} {od an cdd cld : Option Addr} {osl ccs csl : Array (Option Value)} {cda cc : Addr} {p1 p2 a1 a2 a3 a4 a5 a6 q1 q2 q3 q4 : Pos} {mm q file : Str} {j : Nat} {vs : Array Value} {tf : Tok} (X : K.In h) (Gx : h.Ns mainGlobals mg) (aC : PySem.W.nsIn K mainGlobals cn = some (some (.ref C)))
    (xL : K.lookup C = some (PySem.excClassObj nm qq C N bs bm true sn sub ab col dd x0 x1 x2 x3 x5 "ValueError.__new__"))
    (rv : PySem.HandSPX.refsVE bm = true)
    (al : PySem.W.alongIn K "__init__" bm = some (some (.builtin "ValueError.__init__")))
    (sa : PySem.W.findIn K (.ref C) "__setattr__" = some (some (.builtin "object.__setattr__")))
    (ga : PySem.W.findIn K (.ref C) "__getattribute__" = some (some (.builtin "BaseException.__getattribute__")))
    (gg : PySem.W.findIn K (.ref C) "__getattr__" = some none)
    (nn : PySem.W.findIn K (.ref C) f = some none)
    (ic : PySem.W.findIn K (.ref C) "__init__" = some (some (.ref I)))
    (tc : PySem.W.typeIn K (.ref I) = some (.type "function"))
    (kc : PySem.W.keepIn K (.ref C) = true)
    (ex : PySem.W.subIn K (.ref C) (.type "BaseException") = some true)
    (ve : PySem.W.subIn K (.ref C) (.type "ValueError") = some true)
    (mi : PySem.W.mroIn K C (.ref C) = some true)
    (ty : PySem.W.typeIn K (.ref C) = some (.type "type"))
    (hd : PySem.W.hasDictIn K C = true)
    (fl : K.lookup I = some ⟨oc, od, .func (PySem.W.ksFn "__init__" q (PySem.ErrX.iA f p1 p2) (PySem.ErrX.iB f mm j a1 a2 a3 a4 a5 a6 q1 q2 q3 q4) (PySem.ErrX.iS f) .none .none doc pm an (.ref cda) ct cc), osl⟩)
    (fc : PySem.W.codeIn K (.ref cda) q = true)
    (fd : K.lookup cda = some ⟨ccl, cdd, .fields vs, ccs⟩)
    (f2 : vs[2]? = some (.str file tf))
    (ff : ((l.prog.main.file : Str) == file) = true)
    (ev : ∀ env : PySem.Env, ∃ pl : Sem Bool, eval (.Call (.Attribute (.Call (.Name "super" a1) [] [] a2) "__init__" a3) [.Constant (.str mm) j a4] [] a5) env = (do
      let ov ← attributeBase (.Call (.Name "super" a1) [] [] a2) "__init__" env (eval (.Call (.Name "super" a1) [] [] a2) env)
      standAt a3.atName
      let (f, first) ← holding [ov] (getMethod ov "__init__" pl)
      callWith a5 f first (backTo a5 (starEach [.Constant (.str mm) j a4] env)) []))
    (fk : K.lookup cc = some ⟨cl, cld, .cell (some (.ref C)), csl⟩)
    (ca : PySem.W.findIn K (.ref C) "__class__" = some (some (.builtin "object.__class__")))
    (cn_ : PySem.W.specialIn K (.builtin "object.__class__") "__get__" = some (some (.builtin "getset_descriptor.__get__")))
    (ck : PySem.W.takesIn K (.builtin "object.__class__") = some true)
    (cm : PySem.W.mroIn K C (.type "object") = some true)
    (sup : PySem.W.nsIn K mainGlobals "super" = some none)
    (htop : (l.prog.main.scope.names.lookup ("super" : Str)).isSome = false)
    (opn : PySem.W.nsIn K cStatics "thirdparty.any" = some none)
    (fs : f ≠ "self")
    (fcl : f ≠ "__class__")
    (fu : f ≠ "super")
    (fg : (f == ("__debug__" : Str)) = false)
    (bp : ∀ (s : Shared) (x v : Value), BindsTo s (PySem.W.ksFn "__init__" q (PySem.ErrX.iA f p1 p2) (PySem.ErrX.iB f mm j a1 a2 a3 a4 a5 a6 q1 q2 q3 q4) (PySem.ErrX.iS f) .none .none doc pm an (.ref cda) ct cc) ⟨[x, v], []⟩ [("self", x), (f, v)])
    (bk : ∀ (s : Shared) (x v : Value), BindsTo s (PySem.W.ksFn "__init__" q (PySem.ErrX.iA f p1 p2) (PySem.ErrX.iB f mm j a1 a2 a3 a4 a5 a6 q1 q2 q3 q4) (PySem.ErrX.iS f) .none .none doc pm an (.ref cda) ct cc) ⟨[x], [(f, v)]⟩ [("self", x), (f, v)]) :
    PySem.ErrX.ErrTxt l.prog K mg cn f C I ∧ KwB K f I ∧ L2.ExcC K C := by
  refine ⟨{ gC := PySem.W.mg_of X Gx aC, cls := ⟨_, _, _, _, _, _, _, _, _, _, _, _, _, _, _, xL, rv, al⟩, sa := sa, ga := ga, gg := gg, noN := nn, iC := ic, tC := tc, kC := kc, exC := ex, veC := ve, miC := mi, tyC := ty, hdC := hd, op := opn, fs := fs, fc := fcl, fu := fu, fg := fg, mS := PySem.W.mg_none_of X Gx sup, htop := htop, fn := ⟨_, _, _, _, _, _, _, _, _, _, _, _, _, _, _, _, _, _, _, _, _, _, _, _, _, _, _, _, _, _, _, _, _, fl, fc, fd, f2, ff, fk, bp, ev⟩ }, fun fdx ocx odx oslx ho s x v => ?_, ⟨ga, gg, ex, hd, ca, cn_, ck, cm⟩⟩
  rw [fl] at ho
  injection ho with ho
  injection ho with _ _ ho _
  injection ho with ho
  subst ho
  exact bk s x v
theorem err_mk0 {l : PySem.W.OpenLaw} {K : PySem.W.Frag} {h : Heap} {mg : Str → Option Value} {cn : Str} {C I : Addr} {nm qq : Str} {N : Addr} {bs bm : List Value} {sn : List Str} {sub : List Value} {ab : Bool} {col : Option Bool} {dd : Option Addr} {x0 x1 x2 x3 x5 : Option Value} {oc doc pm ct ccl cl : Value} {od an cdd cld : Option Addr} {osl ccs csl : Array (Option Value)} {cda cc : Addr} {p1  a1 a2 a3 a4 a5 a6 : Pos} {mm q file : Str} {j : Nat} {vs : Array Value} {tf : Tok} (X : K.In h) (Gx : h.Ns mainGlobals mg) (aC : PySem.W.nsIn K mainGlobals cn = some (some (.ref C)))
    (xL : K.lookup C = some (PySem.excClassObj nm qq C N bs bm true sn sub ab col dd x0 x1 x2 x3 x5 "ValueError.__new__"))
    (rv : PySem.HandSPX.refsVE bm = true)
    (al : PySem.W.alongIn K "__init__" bm = some (some (.builtin "ValueError.__init__")))
    (sa : PySem.W.findIn K (.ref C) "__setattr__" = some (some (.builtin "object.__setattr__")))
    (ga : PySem.W.findIn K (.ref C) "__getattribute__" = some (some (.builtin "BaseException.__getattribute__")))
    (gg : PySem.W.findIn K (.ref C) "__getattr__" = some none)
    (ic : PySem.W.findIn K (.ref C) "__init__" = some (some (.ref I)))
    (tc : PySem.W.typeIn K (.ref I) = some (.type "function"))
    (kc : PySem.W.keepIn K (.ref C) = true)
    (ex : PySem.W.subIn K (.ref C) (.type "BaseException") = some true)
    (ve : PySem.W.subIn K (.ref C) (.type "ValueError") = some true)
    (mi : PySem.W.mroIn K C (.ref C) = some true)
    (ty : PySem.W.typeIn K (.ref C) = some (.type "type"))
    (hd : PySem.W.hasDictIn K C = true)
    (fl : K.lookup I = some ⟨oc, od, .func (PySem.W.ksFn "__init__" q (PySem.ErrX.iA0 p1) (PySem.ErrX.iB0 mm j a1 a2 a3 a4 a5 a6) PySem.ErrX.iS0 .none .none doc pm an (.ref cda) ct cc), osl⟩)
    (fc : PySem.W.codeIn K (.ref cda) q = true)
    (fd : K.lookup cda = some ⟨ccl, cdd, .fields vs, ccs⟩)
    (f2 : vs[2]? = some (.str file tf))
    (ff : ((l.prog.main.file : Str) == file) = true)
    (ev : ∀ env : PySem.Env, ∃ pl : Sem Bool, eval (.Call (.Attribute (.Call (.Name "super" a1) [] [] a2) "__init__" a3) [.Constant (.str mm) j a4] [] a5) env = (do
      let ov ← attributeBase (.Call (.Name "super" a1) [] [] a2) "__init__" env (eval (.Call (.Name "super" a1) [] [] a2) env)
      standAt a3.atName
      let (f, first) ← holding [ov] (getMethod ov "__init__" pl)
      callWith a5 f first (backTo a5 (starEach [.Constant (.str mm) j a4] env)) []))
    (fk : K.lookup cc = some ⟨cl, cld, .cell (some (.ref C)), csl⟩)
    (ca : PySem.W.findIn K (.ref C) "__class__" = some (some (.builtin "object.__class__")))
    (cn_ : PySem.W.specialIn K (.builtin "object.__class__") "__get__" = some (some (.builtin "getset_descriptor.__get__")))
    (ck : PySem.W.takesIn K (.builtin "object.__class__") = some true)
    (cm : PySem.W.mroIn K C (.type "object") = some true)
    (sup : PySem.W.nsIn K mainGlobals "super" = some none)
    (htop : (l.prog.main.scope.names.lookup ("super" : Str)).isSome = false)
    (opn : PySem.W.nsIn K cStatics "thirdparty.any" = some none)
    (bp : ∀ (s : Shared) (x : Value), BindsTo s (PySem.W.ksFn "__init__" q (PySem.ErrX.iA0 p1) (PySem.ErrX.iB0 mm j a1 a2 a3 a4 a5 a6) PySem.ErrX.iS0 .none .none doc pm an (.ref cda) ct cc) ⟨[x], []⟩ [("self", x)]) :
    PySem.ErrX.ErrTxt0 l.prog K mg cn C I ∧ L2.ExcC K C := by
  exact ⟨{ gC := PySem.W.mg_of X Gx aC, cls := ⟨_, _, _, _, _, _, _, _, _, _, _, _, _, _, _, xL, rv, al⟩, sa := sa, ga := ga, gg := gg, iC := ic, tC := tc, kC := kc, exC := ex, veC := ve, miC := mi, tyC := ty, hdC := hd, op := opn, mS := PySem.W.mg_none_of X Gx sup, htop := htop, fn := ⟨_, _, _, _, _, _, _, _, _, _, _, _, _, _, _, _, _, _, _, _, _, _, _, _, _, _, _, _, fl, fc, fd, f2, ff, fk, bp, ev⟩ }, ⟨ga, gg, ex, hd, ca, cn_, ck, cm⟩⟩
end M
set_option Elab.async false
set_option linter.all false
set_option maxRecDepth 100000
set_option maxHeartbeats 3900000
namespace PySem
mutual
inductive RdN (h : Heap) : Value → PyData → Prop
  | none : RdN h .none .none
  | bool (b : Bool) : RdN h (.bool b) (.bool b)
  | int (i : Int) (t : Tok) : RdN h (.int i t) (.int i)
  | str (x : Str) (t : Tok) : RdN h (.str x t) (.str x)
  | list {a : Addr} {o : Obj} {vs : Array Value} {n : Nat} {xs : List PyData} : h.get? a = some o → o.cls = .type "list" → o.data = .seq vs n → RdNA h vs.toList xs → RdN h (.ref a) (.list xs)
  | tuple {a : Addr} {o : Obj} {vs : Array Value} {n : Nat} {xs : List PyData} : h.get? a = some o → o.cls = .type "tuple" → o.data = .seq vs n → RdNA h vs.toList xs → RdN h (.ref a) (.tuple xs)
  | dict {a : Addr} {o : Obj} {es : Array DictEntry} {n : Nat} {kvs : List (PyData × PyData)} : h.get? a = some o → o.cls = .type "dict" → o.data = .dict es n → RdNA h (es.toList.map (·.key)) (kvs.map (·.1)) → RdNA h (es.toList.map (·.val)) (kvs.map (·.2)) → (a == sysModules) = false → RdN h (.ref a) (.dict kvs)
inductive RdNA (h : Heap) : List Value → List PyData → Prop
  | nil : RdNA h [] []
  | cons {v : Value} {vs : List Value} {d : PyData} {ds : List PyData} : RdN h v d → RdNA h vs ds → RdNA h (v :: vs) (d :: ds)
end
section
variable {h₀ : Heap} {prog : Program} {w : World}
mutual
theorem RdN.reads : ∀ {v : Value} {d : PyData}, RdN h₀ v d → ∃ as, Reads h₀ v d as
  | _, _, .none => ⟨_, .none⟩
  | _, _, .bool b => ⟨_, .bool b⟩
  | _, _, .int i t => ⟨_, .int i t⟩
  | _, _, .str x t => ⟨_, .str x t⟩
  | _, _, .list h1 h2 h3 h4 => let ⟨_, r⟩ := RdNA.reads h4; ⟨_, .list h1 h2 h3 r⟩
  | _, _, .tuple h1 h2 h3 h4 => let ⟨_, r⟩ := RdNA.reads h4; ⟨_, .tuple h1 h2 h3 r⟩
  | _, _, .dict h1 h2 h3 h4 h5 _ => let ⟨_, r⟩ := RdNA.reads h4; let ⟨_, q⟩ := RdNA.reads h5; ⟨_, .dict h1 h2 h3 r q⟩
theorem RdNA.reads : ∀ {vs : List Value} {ds : List PyData}, RdNA h₀ vs ds → ∃ as, ReadsAll h₀ vs ds as
  | _, _, .nil => ⟨_, .nil⟩
  | _, _, .cons r q => let ⟨_, r⟩ := RdN.reads r; let ⟨_, q⟩ := RdNA.reads q; ⟨_, .cons r q⟩
end
mutual
theorem RdN.shows : ∀ {v : Value} {d : PyData}, RdN h₀ v d → d.showable = true → d.shown.length ≤ sizeLine → ∃ bs, ReadAtMost h₀ d.depth bs ∧ ReprK prog w bs h₀ d.depth v d.shown
  | _, _, .none, _, _ => ⟨[], (fun _ z => nomatch z), by simp only [PyData.shown]; exact .of_is ReprIs.none _ _ _⟩
  | _, _, .bool b, _, _ => ⟨[], (fun _ z => nomatch z), by simp only [PyData.shown]; exact .of_is (ReprIs.bool b) _ _ _⟩
  | _, _, .int i t, hs, _ => ⟨[], (fun _ z => nomatch z), by simp only [PyData.shown]; exact .of_is (ReprIs.int t (by simpa [PyData.showable] using hs)) _ _ _⟩
  | _, _, .str x t, _, hz => ⟨[], (fun _ z => nomatch z), by simp only [PyData.shown]; exact .of_is (ReprIs.str x t (by simpa only [PyData.shown] using hz)) _ _ _⟩
  | _, _, .list (a := a) (vs := vs) (xs := xs) h1 h2 h3 h4, hs, hz => by
    have hl : (listText (PyData.shownAll xs)).length ≤ sizeLine := by simpa only [PyData.shown] using hz
    obtain ⟨bs, hb, hk⟩ := RdNA.shows h4 (by simpa [PyData.showable] using hs) fun t ht => Nat.le_trans (listText_mem_le ht) hl
    obtain ⟨as, r4⟩ := h4.reads
    have r : Reads h₀ (.ref a) (.list xs) _ := .list h1 h2 h3 r4
    have na : a ∉ bs := not_mem_of_deeper r (by simp only [PyData.depth]; omega) hb
    refine ⟨a :: bs, ReadAtMost.cons r (by simp only [PyData.depth]; omega) hb, ?_⟩
    simp only [PyData.depth, PyData.shown]
    obtain ⟨l⟩ := vs
    cases l with
    | nil =>
      have z : RdNA h₀ [] xs := h4
      cases z
      simp only [PyData.shownAll, listText_nil]
      exact ReprK.listEmpty h1 h2 h3
    | cons x l => exact ReprK.list h1 h2 h3 na (by simpa using hk.length_eq) (fun i y e => hk.item i y (by simpa using e))
  | _, _, .tuple (a := a) (xs := xs) h1 h2 h3 h4, hs, hz => by
    have hl : (tupleText (PyData.shownAll xs)).length ≤ sizeLine := by simpa only [PyData.shown] using hz
    obtain ⟨bs, hb, hk⟩ := RdNA.shows h4 (by simpa [PyData.showable] using hs) fun t ht => Nat.le_trans (tupleText_mem_le ht) hl
    obtain ⟨as, r4⟩ := h4.reads
    have r : Reads h₀ (.ref a) (.tuple xs) _ := .tuple h1 h2 h3 r4
    have na : a ∉ bs := not_mem_of_deeper r (by simp only [PyData.depth]; omega) hb
    refine ⟨a :: bs, ReadAtMost.cons r (by simp only [PyData.depth]; omega) hb, ?_⟩
    simp only [PyData.depth, PyData.shown]
    exact ReprK.tuple h1 h2 h3 na hk
  | _, _, .dict (a := a) (es := es) (kvs := kvs) h1 h2 h3 h4 h5 h6, hs, hz => by
    have hl : (dictText (PyData.shownKv kvs)).length ≤ sizeLine := by simpa only [PyData.shown] using hz
    obtain ⟨s1, s2⟩ := PyData.showableKv_split kvs (by simpa [PyData.showable] using hs)
    obtain ⟨b1, hb1, k1⟩ := RdNA.shows h4 s1 fun t ht => let ⟨p, hp, q⟩ := PyData.shownKv_key_le kvs t ht; Nat.le_trans q (Nat.le_trans (dictText_mem_le hp) hl)
    obtain ⟨b2, hb2, k2⟩ := RdNA.shows h5 s2 fun t ht => let ⟨p, hp, q⟩ := PyData.shownKv_val_le kvs t ht; Nat.le_trans q (Nat.le_trans (dictText_mem_le hp) hl)
    obtain ⟨as, r4⟩ := h4.reads
    obtain ⟨cs, r5⟩ := h5.reads
    have r : Reads h₀ (.ref a) (.dict kvs) _ := .dict h1 h2 h3 r4 r5
    have hb : ReadAtMost h₀ (PyData.depthKv kvs) (b1 ++ b2) := (hb1.mono (PyData.depthAll_keys_le kvs)).append (hb2.mono (PyData.depthAll_vals_le kvs))
    have na : a ∉ b1 ++ b2 := not_mem_of_deeper r (by simp only [PyData.depth]; omega) hb
    refine ⟨a :: (b1 ++ b2), ReadAtMost.cons r (by simp only [PyData.depth]; omega) hb, ?_⟩
    simp only [PyData.depth, PyData.shown, PyData.shownKv_eq]
    exact ReprK.dict h1 h2 h3 h6 na (ReprEntriesK.of_two es.toList _ _ (k1.more_le (fun b hb => List.mem_append_left _ hb) (PyData.depthAll_keys_le kvs)) (k2.more_le (fun b hb => List.mem_append_right _ hb) (PyData.depthAll_vals_le kvs)))
theorem RdNA.shows : ∀ {vs : List Value} {ds : List PyData}, RdNA h₀ vs ds → PyData.showableAll ds = true → (∀ t ∈ PyData.shownAll ds, t.length ≤ sizeLine) → ∃ bs, ReadAtMost h₀ (PyData.depthAll ds) bs ∧ ReprAllK prog w bs h₀ (PyData.depthAll ds) vs (PyData.shownAll ds)
  | _, _, .nil, _, _ => ⟨[], (fun _ z => nomatch z), by simp only [PyData.shownAll]; exact .nil⟩
  | _, _, .cons (d := d) (ds := ds) r rs, hs, hz => by
    have hs2 : d.showable = true ∧ PyData.showableAll ds = true := by simpa [PyData.showableAll] using hs
    obtain ⟨b1, hb1, k1⟩ := RdN.shows r hs2.1 (hz _ (by simp only [PyData.shownAll]; exact List.mem_cons_self))
    obtain ⟨b2, hb2, k2⟩ := RdNA.shows rs hs2.2 fun t ht => hz t (by simp only [PyData.shownAll]; exact List.mem_cons_of_mem _ ht)
    refine ⟨b1 ++ b2, fun b hm => ?_, ?_⟩
    · simp only [PyData.depthAll]
      rcases List.mem_append.mp hm with hm | hm
      · obtain ⟨d1, a1, r1, q1⟩ := hb1 b hm
        exact ⟨d1, a1, r1, Nat.le_trans q1 (Nat.le_max_left _ _)⟩
      · obtain ⟨d1, a1, r1, q1⟩ := hb2 b hm
        exact ⟨d1, a1, r1, Nat.le_trans q1 (Nat.le_max_right _ _)⟩
    · simp only [PyData.depthAll, PyData.shownAll]
      exact .cons ((k1.more fun b hb => List.mem_append_left _ hb).level_le (Nat.le_max_left _ _)) (k2.more_le (fun b hb => List.mem_append_right _ hb) (Nat.le_max_right _ _))
end
end
end PySem
set_option Elab.async false
set_option linter.all false
set_option maxRecDepth 100000
set_option maxHeartbeats 3900000
namespace M
open PySem PySem.Spec PyProof.Rows L2 G
def keyP : Key → PyData
  | .inl i => .int i
  | .inr z => .str z
mutual
inductive Dq (K : PySem.W.Frag) (H : Hp) : V → PyData → Prop
  | non : Dq K H .non .none
  | bl (b : Bool) : Dq K H (.bl b) (.bool b)
  | int (i : Int) : Dq K H (.int i) (.int i)
  | str (z : Str) : Dq K H (.str z) (.str z)
  | lst {a : Addr} {vs : List V} {ps : List PyData} : SqL K H a vs → DqL K H vs ps → Dq K H (.ref a) (.list ps)
  | tup {a : Addr} {vs : List V} {ps : List PyData} : SqT K H a vs → DqL K H vs ps → Dq K H (.ref a) (.tuple ps)
  | dic {a : Addr} {kvs : List (Key × V)} {ps : List (PyData × PyData)} : Rd H a (.dK kvs) → DqK K H kvs ps → Dq K H (.ref a) (.dict ps)
inductive DqL (K : PySem.W.Frag) (H : Hp) : List V → List PyData → Prop
  | nil : DqL K H [] []
  | cons {v : V} {p : PyData} {vs : List V} {ps : List PyData} : Dq K H v p → DqL K H vs ps → DqL K H (v :: vs) (p :: ps)
inductive DqK (K : PySem.W.Frag) (H : Hp) : List (Key × V) → List (PyData × PyData) → Prop
  | nil : DqK K H [] []
  | cons {k : Key} {v : V} {p : PyData} {vs : List (Key × V)} {ps : List (PyData × PyData)} : Dq K H v p → DqK K H vs ps → DqK K H ((k, v) :: vs) ((keyP k, p) :: ps)
end
section
variable {X : Cx} {pins : List (Addr × Obj)} {σ : L2.St} {H : Hp} {s : Shared}
theorem key_reads {P : Program} {w : World} {h : Heap} {k : Key} {u : Value} (hk : (mixKind P w).is k u = true) : RdN h u (keyP k) := by
  have r := relV_key (show keyIs k u = true from hk)
  cases k with
  | inl i => obtain ⟨t, rfl⟩ := r; exact .int i t
  | inr z => obtain ⟨t, rfl⟩ := r; exact .str z t
mutual
theorem Dq.reads (I : Inv X pins σ H s) : ∀ {v : V} {p : PyData} {u : Value}, Dq X.K H v p → RelV v u → RdN s.heap u p
  | _, _, _, .non, r => by cases r; exact .none
  | _, _, _, .bl b, r => by cases r; exact .bool b
  | _, _, _, .int i, r => by obtain ⟨t, rfl⟩ := r; exact .int i t
  | _, _, _, .str z, r => by obtain ⟨t, rfl⟩ := r; exact .str z t
  | _, _, _, .lst hs hr, r => by
    cases r
    obtain ⟨its, rv, ⟨o, n, ho, hc, _, hd⟩, _⟩ := I.list hs
    exact .list ho hc hd (DqL.reads I hr rv)
  | _, _, _, .tup hs hr, r => by
    cases r
    obtain ⟨its, rv, ⟨o, ho, hc, n, hd⟩, _⟩ := I.tuple hs
    exact .tuple ho hc hd (DqL.reads I hr rv)
  | _, _, _, .dic (a := a0) hs hr, r => by
    cases r
    obtain ⟨ya, va, kv, o, es, ep, ho, hx, hd, _, hp, _⟩ := rd_dict I hs
    obtain ⟨h1, h2⟩ := DqK.reads I hr kv hp
    exact .dict ho hx.1 hd h1 h2 ya
theorem DqL.reads (I : Inv X pins σ H s) : ∀ {vs : List V} {ps : List PyData} {us : List Value}, DqL X.K H vs ps → Vals vs us → RdNA s.heap us ps
  | _, _, _, .nil, r => by cases r; exact .nil
  | _, _, _, .cons h hr, r => by
    cases r with
    | cons r1 r2 => exact .cons (Dq.reads I h r1) (DqL.reads I hr r2)
theorem DqK.reads (I : Inv X pins σ H s) : ∀ {kvs : List (Key × V)} {ps : List (PyData × PyData)} {va : List (Key × Value)} {es : List DictEntry}, DqK X.K H kvs ps → KV kvs va → Pairs (mixKind X.prog X.w) es va → RdNA s.heap (es.map (·.key)) (ps.map (·.1)) ∧ RdNA s.heap (es.map (·.val)) (ps.map (·.2))
  | _, _, _, _, .nil, r, p => by
    cases r
    cases p
    exact ⟨.nil, .nil⟩
  | _, _, _, _, .cons h hr, r, p => by
    cases r with
    | cons r1 r2 =>
      cases p with
      | cons k1 v1 p2 =>
        obtain ⟨h1, h2⟩ := DqK.reads I hr r2 p2
        have h4 := Dq.reads I h (v1 ▸ r1.2)
        have e := r1.1
        dsimp only at e
        refine ⟨.cons ?_ h1, .cons h4 h2⟩
        rw [e]
        exact key_reads k1
end
end
theorem showsN {prog : Program} {w : World} {h₀ : Heap} {a : Addr} {d : PyData} (r : RdN h₀ (.ref a) d) (hs : d.showable = true) (hsz : d.shown.length ≤ sizeLine) : ∃ T idr, ShowsBy prog w h₀ a d T idr := by
  cases r with
  | list h1 h2 h3 h4 =>
    rename_i o vs n xs
    have hz' : (listText (PyData.shownAll xs)).length ≤ sizeLine := by simpa only [PyData.shown] using hsz
    obtain ⟨bs, hb, hk⟩ := RdNA.shows (prog := prog) (w := w) h4 (by simpa [PyData.showable] using hs) (fun t ht => Nat.le_trans (listText_mem_le ht) hz')
    obtain ⟨as, r4⟩ := h4.reads
    have hna : a ∉ bs := not_mem_of_deeper (.list h1 h2 h3 r4) (by simp only [PyData.depth]; omega) hb
    refine ⟨"list", "list.__repr__", F.slot_list_repr.toG, F.slot_list_str, F.slot_list_format, fun s hk0 => ⟨o, hk0 _ _ h1, h2⟩, fun A E s Q hg hu hk0 hQ => ?_⟩
    simp only [PyData.depth] at hu
    simp only [PyData.shown] at hQ
    obtain ⟨l⟩ := vs
    cases l with
    | nil =>
      have h4' : RdNA h₀ [] xs := h4
      cases h4'
      simp only [PyData.shownAll, listText_nil] at hQ
      exact call_list_repr_empty ⟨o, hk0 _ _ h1, h2⟩ (hk0 _ _ h1) h3 (hQ s.heap _ _ fun _ _ e => e)
    | cons x l =>
      exact call_list_reprK h1 h2 h3 hna (by simpa using hk.length_eq) (fun i y e => hk.item i y (by simpa using e)) hg (fun b _ => Clear.nil b) hu hk0 hQ hz'
  | tuple h1 h2 h3 h4 =>
    rename_i o vs n xs
    have hz' : (tupleText (PyData.shownAll xs)).length ≤ sizeLine := by simpa only [PyData.shown] using hsz
    obtain ⟨bs, hb, hk⟩ := RdNA.shows (prog := prog) (w := w) h4 (by simpa [PyData.showable] using hs) (fun t ht => Nat.le_trans (tupleText_mem_le ht) hz')
    obtain ⟨as, r4⟩ := h4.reads
    have hna : a ∉ bs := not_mem_of_deeper (.tuple h1 h2 h3 r4) (by simp only [PyData.depth]; omega) hb
    refine ⟨"tuple", "tuple.__repr__", F.slot_tuple_repr, F.slot_tuple_str, F.slot_tuple_format, fun s hk0 => ⟨o, hk0 _ _ h1, h2⟩, fun A E s Q hg hu hk0 hQ => ?_⟩
    simp only [PyData.depth] at hu
    simp only [PyData.shown] at hQ
    exact call_tuple_reprK h1 h2 h3 hna hk hg (fun b _ => Clear.nil b) hu hk0 hQ hz'
  | dict h1 h2 h3 h4 h5 h6 =>
    rename_i o es n kvs
    have hz' : (dictText (PyData.shownKv kvs)).length ≤ sizeLine := by simpa only [PyData.shown] using hsz
    obtain ⟨hs1, hs2⟩ := PyData.showableKv_split kvs (by simpa [PyData.showable] using hs)
    obtain ⟨b1, hb1, k1⟩ := RdNA.shows (prog := prog) (w := w) h4 hs1 (fun t ht => let ⟨p, hp, hl⟩ := PyData.shownKv_key_le kvs t ht; Nat.le_trans hl (Nat.le_trans (dictText_mem_le hp) hz'))
    obtain ⟨b2, hb2, k2⟩ := RdNA.shows (prog := prog) (w := w) h5 hs2 (fun t ht => let ⟨p, hp, hl⟩ := PyData.shownKv_val_le kvs t ht; Nat.le_trans hl (Nat.le_trans (dictText_mem_le hp) hz'))
    obtain ⟨as, r4⟩ := h4.reads
    obtain ⟨cs, r5⟩ := h5.reads
    have hb : ReadAtMost h₀ (PyData.depthKv kvs) (b1 ++ b2) := (hb1.mono (PyData.depthAll_keys_le kvs)).append (hb2.mono (PyData.depthAll_vals_le kvs))
    have hna : a ∉ b1 ++ b2 := not_mem_of_deeper (.dict h1 h2 h3 r4 r5) (by simp only [PyData.depth]; omega) hb
    refine ⟨"dict", "dict.__repr__", F.slot_dict_repr, F.slot_dict_str, F.slot_dict_format, fun s hk0 => ⟨o, hk0 _ _ h1, h2⟩, fun A E s Q hg hu hk0 hQ => ?_⟩
    simp only [PyData.depth] at hu
    simp only [PyData.shown, PyData.shownKv_eq] at hQ
    exact call_dict_reprK h1 h2 h3 h6 hna (ReprEntriesK.of_two es.toList _ _
      (k1.more_le (fun b hb => List.mem_append_left _ hb) (PyData.depthAll_keys_le kvs)) (k2.more_le (fun b hb => List.mem_append_right _ hb) (PyData.depthAll_vals_le kvs))) hg (fun b _ => Clear.nil b) hu hk0 hQ (by rw [← PyData.shownKv_eq]; exact hz')
theorem reprN {prog : Program} {w : World} {h₀ : Heap} {a : Addr} {d : PyData} {A : Around} {E : Value → Shared → Prop} {s : Shared} {Q : Value → Shared → Prop} (r : RdN h₀ (.ref a) d) (hs : d.showable = true) (hg : A.guards = some []) (hu : A.units + (d.depth + 1) < cLine) (hk0 : ∀ b o, h₀.get? b = some o → s.heap.get? b = some o)
    (hQ : ∀ h' u tk, (∀ b o, s.heap.get? b = some o → h'.get? b = some o) → Q (.str d.shown u) { s with heap := h', toks := tk })
    (hsz : d.shown.length ≤ sizeLine) : wpAny (model prog w) A (call (.builtin "repr") [.ref a]) Q E s := by
  obtain ⟨T, idr, S⟩ := showsN (prog := prog) (w := w) r hs hsz
  exact call_repr_slot (by omega) (S.typeIs s hk0) S.slotRepr (S.call A.in1 E s _ hg (by show A.units + 1 + d.depth < cLine; omega) hk0 fun h' u tk hk => ⟨_, _, rfl, hQ h' u tk hk⟩)
def rReprZ (K : PySem.W.Frag) : List V → Hp → VK → Prop := fun xs H Q => ∃ (a : Addr) (p : PyData), xs = [.ref a] ∧ Dq K H (.ref a) p ∧ p.showable = true ∧ p.depth ≤ 60 ∧ p.shown.length ≤ sizeLine ∧ Q (.str p.shown) H
theorem call_reprZ {X : Cx} {K : PySem.W.Frag} (hK : X.K = K) (hG : X.A.guards = some []) (hu : X.A.units + 64 < cLine) : CallR X (.builtin "repr") (rReprZ K) := by
  subst hK
  intro pins s σ H xs us Q I r h
  obtain ⟨a, p, rfl, dp, h1, h3, h4, q⟩ := h
  obtain ⟨u, rfl, ru⟩ := vals1 r
  have rd := Dq.reads I dp ru
  cases (show u = Value.ref a from ru)
  exact reprN rd h1 hG (by omega) (fun _ _ e => e) (fun h' u tk hk => ⟨.str _, H, I.kept hk, ⟨_, rfl⟩, q⟩) h4
mutual
def pyZ (ob : Nat → Option PyData) : D → Option PyData
  | .non => some .none
  | .bl b => some (.bool b)
  | .int i => some (.int i)
  | .str z => some (.str z)
  | .lst xs => (pyZL ob xs).map .list
  | .tup xs => (pyZL ob xs).map .tuple
  | .dic kvs => (pyZK ob kvs).map .dict
  | .obj k => ob k
  | _ => none
def pyZL (ob : Nat → Option PyData) : List D → Option (List PyData)
  | [] => some []
  | x :: xs => match pyZ ob x, pyZL ob xs with
    | some p, some ps => some (p :: ps)
    | _, _ => none
def pyZK (ob : Nat → Option PyData) : List (Key × D) → Option (List (PyData × PyData))
  | [] => some []
  | (k, x) :: xs => match pyZ ob x, pyZK ob xs with
    | some p, some ps => some ((keyP k, p) :: ps)
    | _, _ => none
end
def pyOZ (c : SH) (k : Nat) : Option PyData := match c[k]? with
  | some (.lst xs) => (pyZL (fun _ => none) xs).map .list
  | some (.dic kvs) => (pyZK (fun _ => none) kvs).map .dict
  | _ => none
section
variable {K : PySem.W.Frag} {tb : List (Addr × Str)} {al : List Addr} {G H : Hp} {c : SH} {ob : Nat → Option PyData}
mutual
theorem den_pyZ (ex : Ex G H) (ho : ∀ (k : Nat) (a : Addr) (p : PyData), al[k]? = some a → ob k = some p → Dq K H (.ref a) p) : ∀ {v : V} {d : D} {p : PyData}, Den K al G v d → pyZ ob d = some p → Dq K H v p
  | _, _, _, .non, e => by simp only [pyZ] at e; cases e; exact .non
  | _, _, _, .bl b, e => by simp only [pyZ] at e; cases e; exact .bl b
  | _, _, _, .int i, e => by simp only [pyZ] at e; cases e; exact .int i
  | _, _, _, .str z, e => by simp only [pyZ] at e; cases e; exact .str z
  | _, _, _, .ty n, e => by simp only [pyZ] at e; cases e
  | _, _, _, .adr a, e => by simp only [pyZ] at e; cases e
  | _, _, _, .lst h r, e => by
    simp only [pyZ] at e
    obtain ⟨ps, h1, rfl⟩ := Option.map_eq_some_iff.mp e
    exact .lst (.inl (.of (ex _ _ h))) (den_pyZL ex ho r h1)
  | _, _, _, .scr h r, e => by simp only [pyZ] at e; cases e
  | _, _, _, .tup h r, e => by
    simp only [pyZ] at e
    obtain ⟨ps, h1, rfl⟩ := Option.map_eq_some_iff.mp e
    exact .tup (.of (ex _ _ h)) (den_pyZL ex ho r h1)
  | _, _, _, .exc h h2 h3 r, e => by simp only [pyZ] at e; cases e
  | _, _, _, .dic h r, e => by
    simp only [pyZ] at e
    obtain ⟨ps, h1, rfl⟩ := Option.map_eq_some_iff.mp e
    exact .dic (.inr ⟨_, ex _ _ h⟩) (den_pyZK ex ho r h1)
  | _, _, _, .ins h r, e => by simp only [pyZ] at e; cases e
  | _, _, _, .obj h, e => by simp only [pyZ] at e; exact ho _ _ _ h e
  | _, _, _, .btp h r, e => by simp only [pyZ] at e; cases e
theorem den_pyZL (ex : Ex G H) (ho : ∀ (k : Nat) (a : Addr) (p : PyData), al[k]? = some a → ob k = some p → Dq K H (.ref a) p) : ∀ {v : List V} {d : List D} {p : List PyData}, DenL K al G v d → pyZL ob d = some p → DqL K H v p
  | _, _, _, .nil, e => by simp only [pyZL] at e; cases e; exact .nil
  | _, _, _, .cons h r, e => by
    simp only [pyZL] at e
    split at e
    · rename_i p ps e1 e2
      cases e
      exact .cons (den_pyZ ex ho h e1) (den_pyZL ex ho r e2)
    · cases e
theorem den_pyZK (ex : Ex G H) (ho : ∀ (k : Nat) (a : Addr) (p : PyData), al[k]? = some a → ob k = some p → Dq K H (.ref a) p) : ∀ {v : List (Key × V)} {d : List (Key × D)} {p : List (PyData × PyData)}, DenK K al G v d → pyZK ob d = some p → DqK K H v p
  | _, _, _, .nil, e => by simp only [pyZK] at e; cases e; exact .nil
  | _, _, _, .cons h r, e => by
    simp only [pyZK] at e
    split at e
    · rename_i p ps e1 e2
      cases e
      exact .cons (den_pyZ ex ho h e1) (den_pyZK ex ho r e2)
    · cases e
end
theorem Rep.pyZ (R : Rep K tb al G c H) {v : V} {d : D} {p : PyData} (h : Den K al G v d) (e : M.pyZ (pyOZ c) d = some p) : Dq K H v p := by
  refine den_pyZ R.sub (fun k a p hk hp => ?_) h e
  have no : ∀ (k : Nat) (a : Addr) (p : PyData), al[k]? = some a → (fun _ : Nat => (none : Option PyData)) k = some p → Dq K H (.ref a) p := fun _ _ _ _ z => nomatch z
  unfold pyOZ at hp
  split at hp
  · rename_i xs e1
    obtain ⟨ps, h1, rfl⟩ := Option.map_eq_some_iff.mp hp
    obtain ⟨vs, h2, h3⟩ := R.ent k a _ hk e1
    exact .lst (.inl (.of h2)) (den_pyZL R.sub no h3 h1)
  · rename_i kvs e1
    obtain ⟨ps, h1, rfl⟩ := Option.map_eq_some_iff.mp hp
    obtain ⟨vs, h2, h3⟩ := R.ent k a _ hk e1
    exact .dic (.inl h2) (den_pyZK R.sub no h3 h1)
  · cases hp
def conP : PyData → Bool
  | .list _ => true
  | .tuple _ => true
  | .dict _ => true
  | _ => false
theorem Dq.ref {v : V} {p : PyData} (h : Dq K H v p) (e : conP p = true) : ∃ a, v = .ref a := by
  cases h with
  | lst _ _ => exact ⟨_, rfl⟩
  | tup _ _ => exact ⟨_, rfl⟩
  | dic _ _ => exact ⟨_, rfl⟩
  | _ => cases e
def reprZD (xs : List D) (c : SH) (Φ : QD) : Prop := oneD xs fun x => match M.pyZ (pyOZ c) x with
  | some p => (conP p = true ∧ p.showable = true ∧ p.depth ≤ 60 ∧ p.shown.length ≤ sizeLine) ∧ Φ (.str p.shown) c
  | none => False
theorem dc_reprZ : DCall K tb (rReprZ K) reprZD := by
  intro al G c H xs ds Φ Q R hd m q
  obtain ⟨x, v, rfl, rfl, dx, m2⟩ := oneD_of m hd
  split at m2
  · rename_i p e
    obtain ⟨⟨h0, h1, h2, h3⟩, m3⟩ := m2
    have dp := R.pyZ dx e
    obtain ⟨a, rfl⟩ := dp.ref h0
    exact ⟨a, p, rfl, dp, h1, h2, h3, q _ c al G H _ R .refl (.str _) m3⟩
  · cases m2
instance : Ok (DCall K tb (rReprZ K) reprZD) := ⟨dc_reprZ⟩
end
theorem e_reprZ {x : D} {p : PyData} {c : SH} {Φ : QD} (e : pyZ (pyOZ c) x = some p) (h0 : conP p = true) (h1 : p.showable = true) (h2 : p.depth ≤ 60) (h3 : p.shown.length ≤ sizeLine) (q : Φ (.str p.shown) c) : reprZD [x] c Φ := by
  unfold reprZD oneD
  dsimp only
  rw [e]
  exact ⟨⟨h0, h1, h2, h3⟩, q⟩
end M
set_option Elab.async false
set_option linter.all false
set_option maxRecDepth 100000
set_option maxHeartbeats 3900000
namespace M
open PySem PySem.Spec PyProof.Rows L2 G
section
variable {K : PySem.W.Frag} {tb : List (Addr × Str)} {Pr : Addr → Sp → Prop}
theorem cand_nil : ∀ f sp, candF K tb [] f sp → Pr f sp := fun f sp h => by
  obtain ⟨F, h, _⟩ := h
  cases h
theorem cand_cons {f0 : Addr} {F0 : Fn} {Fs : List (Addr × Fn)} (h : Pr f0 (SpG K tb F0)) (hs : ∀ f sp, candF K tb Fs f sp → Pr f sp) : ∀ f sp, candF K tb ((f0, F0) :: Fs) f sp → Pr f sp := fun f sp z => by
  obtain ⟨F, hm, rfl⟩ := z
  rcases List.mem_cons.mp hm with e | hm
  · cases e
    exact h
  · exact hs _ _ ⟨F, hm, rfl⟩
end
/-- an own class right below ValueError, without an __init__ of its own -/
structure ExcB (K : PySem.W.Frag) (mg : Str → Option Value) (cn : Str) (C : Addr) : Prop where
  q : PySem.W.excIn K C [.type "ValueError", .type "Exception", .type "BaseException", .type "object"] "ValueError.__new__" = true
  gC : mg cn = some (.ref C)
  kC : PySem.W.keepIn K (.ref C) = true
  exC : PySem.W.subIn K (.ref C) (.type "BaseException") = some true
  tyC : PySem.W.typeIn K (.ref C) = some (.type "type")
theorem pe_ownV {X : Cx} {C : Addr} {x m : Str} {j : Nat} {p p2 pos : Pos} (T : ExcB X.K X.mg x C) (hg : Gl X x) (hdb : (x == ("__debug__" : Str)) = false := by decide) : PE X (.Call (.Name x p) [.Constant (.str m) j p2] [] pos) (tMk0 C) :=
  ⟨fun pins s σ H Q I h => (pe_ofMk (pmk_own PySem.F.excBase_ValueError T.q T.gC T.kC (raises_own T.exC T.tyC) hg hdb)).run pins s σ H Q I ⟨rfl, fun a ha => h a ha⟩⟩
/-- the same of a base error without __init__ -/
theorem err_mkB {K : PySem.W.Frag} {h : Heap} {mg : Str → Option Value} {cn : Str} {C : Addr} (X : K.In h) (Gx : h.Ns mainGlobals mg) (aC : PySem.W.nsIn K mainGlobals cn = some (some (.ref C)))
    (xq : PySem.W.excIn K C [.type "ValueError", .type "Exception", .type "BaseException", .type "object"] "ValueError.__new__" = true)
    (ga : PySem.W.findIn K (.ref C) "__getattribute__" = some (some (.builtin "BaseException.__getattribute__")))
    (gg : PySem.W.findIn K (.ref C) "__getattr__" = some none)
    (kc : PySem.W.keepIn K (.ref C) = true)
    (ex : PySem.W.subIn K (.ref C) (.type "BaseException") = some true)
    (ty : PySem.W.typeIn K (.ref C) = some (.type "type"))
    (hd : PySem.W.hasDictIn K C = true)
    (ca : PySem.W.findIn K (.ref C) "__class__" = some (some (.builtin "object.__class__")))
    (cn_ : PySem.W.specialIn K (.builtin "object.__class__") "__get__" = some (some (.builtin "getset_descriptor.__get__")))
    (ck : PySem.W.takesIn K (.builtin "object.__class__") = some true)
    (cm : PySem.W.mroIn K C (.type "object") = some true) :
    ExcB K mg cn C ∧ L2.ExcC K C := ⟨⟨xq, PySem.W.mg_of X Gx aC, kc, ex, ty⟩, ⟨ga, gg, ex, hd, ca, cn_, ck, cm⟩⟩
def kits (K : PySem.W.Frag) (C : Addr) (cs : List Addr) : List (Option Bool) := cs.map fun c => PySem.W.kitOne K (.ref C) (.ref c)
end M
set_option Elab.async false
set_option linter.all false
set_option maxRecDepth 100000
set_option maxHeartbeats 3900000
namespace K04
open PySem PySem.Spec PyProof.Rows L2 G M
def topS (i : Nat) : Stmt := PySem.Challenge.pw_chaincompass_k04_errors_by_class.main.body.getD i (.Pass ⟨0, 0, 0, 0⟩)
abbrev s_l_cell : Stmt := topS 33
theorem sc_l_cell : FnScope ["_law_script", "_law_k"] ["_law_script", "_law_k"] (defScope s_l_cell) := ⟨rfl, rfl, rfl, by decide +kernel, rfl, by decide +kernel, by decide +kernel⟩
abbrev s_l_box : Stmt := topS 34
theorem sc_l_box : FnScope ["_law_cell_here"] ["_law_cell_here"] (defScope s_l_box) := ⟨rfl, rfl, rfl, by decide +kernel, rfl, by decide +kernel, by decide +kernel⟩
abbrev s_l_take : Stmt := topS 35
theorem sc_l_take : FnScope ["_law_box_here", "_law_many", "_law_digit", "_law_found"] ["_law_box_here", "_law_many"] (defScope s_l_take) := ⟨rfl, rfl, rfl, by decide +kernel, rfl, by decide +kernel, by decide +kernel⟩
abbrev s_l_made0 : Stmt := topS 37
theorem sc_l_made0 : FnScope ["_law_place", "_law_thing", "_law_way", "_law_e"] ["_law_place", "_law_thing", "_law_way"] (defScope s_l_made0) := ⟨rfl, rfl, rfl, by decide +kernel, rfl, by decide +kernel, by decide +kernel⟩
abbrev s_l_made1 : Stmt := topS 38
theorem sc_l_made1 : FnScope ["_law_place", "_law_thing", "_law_way", "_law_e"] ["_law_place", "_law_thing", "_law_way"] (defScope s_l_made1) := ⟨rfl, rfl, rfl, by decide +kernel, rfl, by decide +kernel, by decide +kernel⟩
abbrev s_l_made2 : Stmt := topS 39
theorem sc_l_made2 : FnScope ["_law_place", "_law_thing", "_law_way", "_law_e"] ["_law_place", "_law_thing", "_law_way"] (defScope s_l_made2) := ⟨rfl, rfl, rfl, by decide +kernel, rfl, by decide +kernel, by decide +kernel⟩
abbrev s_l_kinds : Stmt := topS 40
theorem sc_l_kinds : FnScope ["_law_e", "_law_kinds_here", "_law_place", "_law_one"] ["_law_e"] (defScope s_l_kinds) := ⟨rfl, rfl, rfl, by decide +kernel, rfl, by decide +kernel, by decide +kernel⟩
abbrev s_law : Stmt := topS 41
theorem sc_law : FnScope ["_law_script", "_law_k", "_law_box_here", "_law_things", "_law_place", "_law_thing", "_law_way", "_law_e", "_law_kept", "_law_plain"] ["_law_script"] (defScope s_law) := ⟨rfl, rfl, rfl, by decide +kernel, rfl, by decide +kernel, by decide +kernel⟩
structure Top (P : Program) (K : PySem.W.Frag) (mg : Str → Option Value) where
  f_l_cell : Addr
  fd_l_cell : FuncData
  F_l_cell : FunV K "_law_cell" "_law_cell" s_l_cell f_l_cell fd_l_cell
  b_l_cell : Binds K fd_l_cell ["_law_script", "_law_k"] []
  g_l_cell : mg "_law_cell" = some (.ref f_l_cell)
  f_l_box : Addr
  fd_l_box : FuncData
  F_l_box : FunV K "_law_box" "_law_box" s_l_box f_l_box fd_l_box
  b_l_box : Binds K fd_l_box ["_law_cell_here"] []
  g_l_box : mg "_law_box" = some (.ref f_l_box)
  f_l_take : Addr
  fd_l_take : FuncData
  F_l_take : FunV K "_law_take" "_law_take" s_l_take f_l_take fd_l_take
  b_l_take : Binds K fd_l_take ["_law_box_here", "_law_many"] []
  g_l_take : mg "_law_take" = some (.ref f_l_take)
  f_l_made0 : Addr
  fd_l_made0 : FuncData
  F_l_made0 : FunV K "_law_made0" "_law_made0" s_l_made0 f_l_made0 fd_l_made0
  b_l_made0 : Binds K fd_l_made0 ["_law_place", "_law_thing", "_law_way"] []
  g_l_made0 : mg "_law_made0" = some (.ref f_l_made0)
  f_l_made1 : Addr
  fd_l_made1 : FuncData
  F_l_made1 : FunV K "_law_made1" "_law_made1" s_l_made1 f_l_made1 fd_l_made1
  b_l_made1 : Binds K fd_l_made1 ["_law_place", "_law_thing", "_law_way"] []
  g_l_made1 : mg "_law_made1" = some (.ref f_l_made1)
  f_l_made2 : Addr
  fd_l_made2 : FuncData
  F_l_made2 : FunV K "_law_made2" "_law_made2" s_l_made2 f_l_made2 fd_l_made2
  b_l_made2 : Binds K fd_l_made2 ["_law_place", "_law_thing", "_law_way"] []
  g_l_made2 : mg "_law_made2" = some (.ref f_l_made2)
  f_l_kinds : Addr
  fd_l_kinds : FuncData
  F_l_kinds : FunV K "_law_kinds" "_law_kinds" s_l_kinds f_l_kinds fd_l_kinds
  b_l_kinds : Binds K fd_l_kinds ["_law_e"] []
  g_l_kinds : mg "_law_kinds" = some (.ref f_l_kinds)
  f_law : Addr
  fd_law : FuncData
  F_law : FunV K "law" "law" s_law f_law fd_law
  b_law : Binds K fd_law ["_law_script"] []
  g_law : mg "law" = some (.ref f_law)
  m_isinstance : mg "isinstance" = none
  m_int : mg "int" = none
  m_list : mg "list" = none
  m_dict : mg "dict" = none
  m_len : mg "len" = none
  m_max : mg "max" = none
  m_min : mg "min" = none
  m_range : mg "range" = none
  m_enumerate : mg "enumerate" = none
  m_repr : mg "repr" = none
  m_ValueError : mg "ValueError" = none
  C_NothingToUndo : Addr
  I_NothingToUndo : Addr
  E_NothingToUndo : PySem.ErrX.ErrTxt0 P K mg "NothingToUndo" C_NothingToUndo I_NothingToUndo
  Z_NothingToUndo : L2.ExcC K C_NothingToUndo
  g_NothingToUndo : mg "NothingToUndo" = some (.ref C_NothingToUndo)
  C_InvalidKind : Addr
  I_InvalidKind : Addr
  E_InvalidKind : PySem.ErrX.ErrTxt P K mg "InvalidKind" "value" C_InvalidKind I_InvalidKind
  B_InvalidKind : KwB K "value" I_InvalidKind
  Z_InvalidKind : L2.ExcC K C_InvalidKind
  g_InvalidKind : mg "InvalidKind" = some (.ref C_InvalidKind)
  C_InvalidName : Addr
  I_InvalidName : Addr
  E_InvalidName : PySem.ErrX.ErrTxt P K mg "InvalidName" "name" C_InvalidName I_InvalidName
  B_InvalidName : KwB K "name" I_InvalidName
  Z_InvalidName : L2.ExcC K C_InvalidName
  g_InvalidName : mg "InvalidName" = some (.ref C_InvalidName)
  C_SameMark : Addr
  I_SameMark : Addr
  E_SameMark : PySem.ErrX.ErrTxt P K mg "SameMark" "name" C_SameMark I_SameMark
  B_SameMark : KwB K "name" I_SameMark
  Z_SameMark : L2.ExcC K C_SameMark
  g_SameMark : mg "SameMark" = some (.ref C_SameMark)
  C_InvalidText : Addr
  I_InvalidText : Addr
  E_InvalidText : PySem.ErrX.ErrTxt P K mg "InvalidText" "text" C_InvalidText I_InvalidText
  B_InvalidText : KwB K "text" I_InvalidText
  Z_InvalidText : L2.ExcC K C_InvalidText
  g_InvalidText : mg "InvalidText" = some (.ref C_InvalidText)
  C_InvalidMeasure : Addr
  I_InvalidMeasure : Addr
  E_InvalidMeasure : PySem.ErrX.ErrTxt P K mg "InvalidMeasure" "value" C_InvalidMeasure I_InvalidMeasure
  B_InvalidMeasure : KwB K "value" I_InvalidMeasure
  Z_InvalidMeasure : L2.ExcC K C_InvalidMeasure
  g_InvalidMeasure : mg "InvalidMeasure" = some (.ref C_InvalidMeasure)
  C_InvalidMarks : Addr
  I_InvalidMarks : Addr
  E_InvalidMarks : PySem.ErrX.ErrTxt P K mg "InvalidMarks" "value" C_InvalidMarks I_InvalidMarks
  B_InvalidMarks : KwB K "value" I_InvalidMarks
  Z_InvalidMarks : L2.ExcC K C_InvalidMarks
  g_InvalidMarks : mg "InvalidMarks" = some (.ref C_InvalidMarks)
  C_InvalidMeasures : Addr
  I_InvalidMeasures : Addr
  E_InvalidMeasures : PySem.ErrX.ErrTxt P K mg "InvalidMeasures" "value" C_InvalidMeasures I_InvalidMeasures
  B_InvalidMeasures : KwB K "value" I_InvalidMeasures
  Z_InvalidMeasures : L2.ExcC K C_InvalidMeasures
  g_InvalidMeasures : mg "InvalidMeasures" = some (.ref C_InvalidMeasures)
  C_InvalidNumbers : Addr
  I_InvalidNumbers : Addr
  E_InvalidNumbers : PySem.ErrX.ErrTxt P K mg "InvalidNumbers" "value" C_InvalidNumbers I_InvalidNumbers
  B_InvalidNumbers : KwB K "value" I_InvalidNumbers
  Z_InvalidNumbers : L2.ExcC K C_InvalidNumbers
  g_InvalidNumbers : mg "InvalidNumbers" = some (.ref C_InvalidNumbers)
  C_InvalidPoints : Addr
  I_InvalidPoints : Addr
  E_InvalidPoints : PySem.ErrX.ErrTxt P K mg "InvalidPoints" "value" C_InvalidPoints I_InvalidPoints
  B_InvalidPoints : KwB K "value" I_InvalidPoints
  Z_InvalidPoints : L2.ExcC K C_InvalidPoints
  g_InvalidPoints : mg "InvalidPoints" = some (.ref C_InvalidPoints)
  C_InvalidShift : Addr
  I_InvalidShift : Addr
  E_InvalidShift : PySem.ErrX.ErrTxt P K mg "InvalidShift" "value" C_InvalidShift I_InvalidShift
  B_InvalidShift : KwB K "value" I_InvalidShift
  Z_InvalidShift : L2.ExcC K C_InvalidShift
  g_InvalidShift : mg "InvalidShift" = some (.ref C_InvalidShift)
  C_InvalidFactor : Addr
  I_InvalidFactor : Addr
  E_InvalidFactor : PySem.ErrX.ErrTxt P K mg "InvalidFactor" "factor" C_InvalidFactor I_InvalidFactor
  B_InvalidFactor : KwB K "factor" I_InvalidFactor
  Z_InvalidFactor : L2.ExcC K C_InvalidFactor
  g_InvalidFactor : mg "InvalidFactor" = some (.ref C_InvalidFactor)
  C_InvalidDrift : Addr
  I_InvalidDrift : Addr
  E_InvalidDrift : PySem.ErrX.ErrTxt P K mg "InvalidDrift" "drift" C_InvalidDrift I_InvalidDrift
  B_InvalidDrift : KwB K "drift" I_InvalidDrift
  Z_InvalidDrift : L2.ExcC K C_InvalidDrift
  g_InvalidDrift : mg "InvalidDrift" = some (.ref C_InvalidDrift)
  C_InvalidReadings : Addr
  I_InvalidReadings : Addr
  E_InvalidReadings : PySem.ErrX.ErrTxt P K mg "InvalidReadings" "value" C_InvalidReadings I_InvalidReadings
  B_InvalidReadings : KwB K "value" I_InvalidReadings
  Z_InvalidReadings : L2.ExcC K C_InvalidReadings
  g_InvalidReadings : mg "InvalidReadings" = some (.ref C_InvalidReadings)
  C_InvalidChanges : Addr
  I_InvalidChanges : Addr
  E_InvalidChanges : PySem.ErrX.ErrTxt P K mg "InvalidChanges" "changes" C_InvalidChanges I_InvalidChanges
  B_InvalidChanges : KwB K "changes" I_InvalidChanges
  Z_InvalidChanges : L2.ExcC K C_InvalidChanges
  g_InvalidChanges : mg "InvalidChanges" = some (.ref C_InvalidChanges)
  C_InvalidPrices : Addr
  I_InvalidPrices : Addr
  E_InvalidPrices : PySem.ErrX.ErrTxt P K mg "InvalidPrices" "prices" C_InvalidPrices I_InvalidPrices
  B_InvalidPrices : KwB K "prices" I_InvalidPrices
  Z_InvalidPrices : L2.ExcC K C_InvalidPrices
  g_InvalidPrices : mg "InvalidPrices" = some (.ref C_InvalidPrices)
  C_InvalidKnown : Addr
  I_InvalidKnown : Addr
  E_InvalidKnown : PySem.ErrX.ErrTxt P K mg "InvalidKnown" "known" C_InvalidKnown I_InvalidKnown
  B_InvalidKnown : KwB K "known" I_InvalidKnown
  Z_InvalidKnown : L2.ExcC K C_InvalidKnown
  g_InvalidKnown : mg "InvalidKnown" = some (.ref C_InvalidKnown)
  C_InvalidWays : Addr
  I_InvalidWays : Addr
  E_InvalidWays : PySem.ErrX.ErrTxt P K mg "InvalidWays" "ways" C_InvalidWays I_InvalidWays
  B_InvalidWays : KwB K "ways" I_InvalidWays
  Z_InvalidWays : L2.ExcC K C_InvalidWays
  g_InvalidWays : mg "InvalidWays" = some (.ref C_InvalidWays)
  C_InvalidLine : Addr
  I_InvalidLine : Addr
  E_InvalidLine : PySem.ErrX.ErrTxt P K mg "InvalidLine" "line" C_InvalidLine I_InvalidLine
  B_InvalidLine : KwB K "line" I_InvalidLine
  Z_InvalidLine : L2.ExcC K C_InvalidLine
  g_InvalidLine : mg "InvalidLine" = some (.ref C_InvalidLine)
  C_OutOfRange : Addr
  I_OutOfRange : Addr
  E_OutOfRange : PySem.ErrX.ErrTxt P K mg "OutOfRange" "value" C_OutOfRange I_OutOfRange
  B_OutOfRange : KwB K "value" I_OutOfRange
  Z_OutOfRange : L2.ExcC K C_OutOfRange
  g_OutOfRange : mg "OutOfRange" = some (.ref C_OutOfRange)
  C_DuplicateMark : Addr
  I_DuplicateMark : Addr
  E_DuplicateMark : PySem.ErrX.ErrTxt P K mg "DuplicateMark" "name" C_DuplicateMark I_DuplicateMark
  B_DuplicateMark : KwB K "name" I_DuplicateMark
  Z_DuplicateMark : L2.ExcC K C_DuplicateMark
  g_DuplicateMark : mg "DuplicateMark" = some (.ref C_DuplicateMark)
  C_UnknownMark : Addr
  I_UnknownMark : Addr
  E_UnknownMark : PySem.ErrX.ErrTxt P K mg "UnknownMark" "name" C_UnknownMark I_UnknownMark
  B_UnknownMark : KwB K "name" I_UnknownMark
  Z_UnknownMark : L2.ExcC K C_UnknownMark
  g_UnknownMark : mg "UnknownMark" = some (.ref C_UnknownMark)
  C_UnknownNumber : Addr
  I_UnknownNumber : Addr
  E_UnknownNumber : PySem.ErrX.ErrTxt P K mg "UnknownNumber" "number" C_UnknownNumber I_UnknownNumber
  B_UnknownNumber : KwB K "number" I_UnknownNumber
  Z_UnknownNumber : L2.ExcC K C_UnknownNumber
  g_UnknownNumber : mg "UnknownNumber" = some (.ref C_UnknownNumber)
  C_TooMany : Addr
  I_TooMany : Addr
  E_TooMany : PySem.ErrX.ErrTxt P K mg "TooMany" "count" C_TooMany I_TooMany
  B_TooMany : KwB K "count" I_TooMany
  Z_TooMany : L2.ExcC K C_TooMany
  g_TooMany : mg "TooMany" = some (.ref C_TooMany)
  C_NotNet : Addr
  I_NotNet : Addr
  E_NotNet : PySem.ErrX.ErrTxt P K mg "NotNet" "value" C_NotNet I_NotNet
  B_NotNet : KwB K "value" I_NotNet
  Z_NotNet : L2.ExcC K C_NotNet
  g_NotNet : mg "NotNet" = some (.ref C_NotNet)
  C_NotPlacing : Addr
  I_NotPlacing : Addr
  E_NotPlacing : PySem.ErrX.ErrTxt P K mg "NotPlacing" "value" C_NotPlacing I_NotPlacing
  B_NotPlacing : KwB K "value" I_NotPlacing
  Z_NotPlacing : L2.ExcC K C_NotPlacing
  g_NotPlacing : mg "NotPlacing" = some (.ref C_NotPlacing)
  C_NotWatched : Addr
  I_NotWatched : Addr
  E_NotWatched : PySem.ErrX.ErrTxt P K mg "NotWatched" "number" C_NotWatched I_NotWatched
  B_NotWatched : KwB K "number" I_NotWatched
  Z_NotWatched : L2.ExcC K C_NotWatched
  g_NotWatched : mg "NotWatched" = some (.ref C_NotWatched)
  C_NotEnough : Addr
  I_NotEnough : Addr
  E_NotEnough : PySem.ErrX.ErrTxt P K mg "NotEnough" "count" C_NotEnough I_NotEnough
  B_NotEnough : KwB K "count" I_NotEnough
  Z_NotEnough : L2.ExcC K C_NotEnough
  g_NotEnough : mg "NotEnough" = some (.ref C_NotEnough)
  C_NotApart : Addr
  I_NotApart : Addr
  E_NotApart : PySem.ErrX.ErrTxt P K mg "NotApart" "value" C_NotApart I_NotApart
  B_NotApart : KwB K "value" I_NotApart
  Z_NotApart : L2.ExcC K C_NotApart
  g_NotApart : mg "NotApart" = some (.ref C_NotApart)
  C_NoReading : Addr
  I_NoReading : Addr
  E_NoReading : PySem.ErrX.ErrTxt P K mg "NoReading" "number" C_NoReading I_NoReading
  B_NoReading : KwB K "number" I_NoReading
  Z_NoReading : L2.ExcC K C_NoReading
  g_NoReading : mg "NoReading" = some (.ref C_NoReading)
  C_NetError : Addr
  O_NetError : ExcB K mg "NetError" C_NetError
  Z_NetError : L2.ExcC K C_NetError
  g_NetError : mg "NetError" = some (.ref C_NetError)
  kr_NothingToUndo : kits K C_NothingToUndo [C_InvalidKind, C_InvalidName, C_SameMark, C_InvalidText, C_InvalidMeasure, C_InvalidMarks, C_InvalidMeasures, C_InvalidNumbers, C_InvalidPoints, C_InvalidShift, C_InvalidFactor, C_InvalidDrift, C_InvalidReadings, C_InvalidChanges, C_InvalidPrices, C_InvalidKnown, C_InvalidWays, C_InvalidLine, C_OutOfRange, C_DuplicateMark, C_UnknownMark, C_UnknownNumber, C_TooMany, C_NotNet, C_NotPlacing, C_NotWatched, C_NotEnough, C_NotApart, C_NoReading, C_NothingToUndo] = [some false, some false, some false, some false, some false, some false, some false, some false, some false, some false, some false, some false, some false, some false, some false, some false, some false, some false, some false, some false, some false, some false, some false, some false, some false, some false, some false, some false, some false, some true]
  kv_NothingToUndo : PySem.W.kitOne K (.ref C_NothingToUndo) (.type "ValueError") = some true
  kn_NothingToUndo : PySem.W.kitOne K (.ref C_NothingToUndo) (.ref C_NetError) = some true
  kr_InvalidKind : kits K C_InvalidKind [C_InvalidKind, C_InvalidName, C_SameMark, C_InvalidText, C_InvalidMeasure, C_InvalidMarks, C_InvalidMeasures, C_InvalidNumbers, C_InvalidPoints, C_InvalidShift, C_InvalidFactor, C_InvalidDrift, C_InvalidReadings, C_InvalidChanges, C_InvalidPrices, C_InvalidKnown, C_InvalidWays, C_InvalidLine, C_OutOfRange, C_DuplicateMark, C_UnknownMark, C_UnknownNumber, C_TooMany, C_NotNet, C_NotPlacing, C_NotWatched, C_NotEnough, C_NotApart, C_NoReading, C_NothingToUndo] = [some true, some false, some false, some false, some false, some false, some false, some false, some false, some false, some false, some false, some false, some false, some false, some false, some false, some false, some false, some false, some false, some false, some false, some false, some false, some false, some false, some false, some false, some false]
  kv_InvalidKind : PySem.W.kitOne K (.ref C_InvalidKind) (.type "ValueError") = some true
  kn_InvalidKind : PySem.W.kitOne K (.ref C_InvalidKind) (.ref C_NetError) = some true
  kr_InvalidName : kits K C_InvalidName [C_InvalidKind, C_InvalidName, C_SameMark, C_InvalidText, C_InvalidMeasure, C_InvalidMarks, C_InvalidMeasures, C_InvalidNumbers, C_InvalidPoints, C_InvalidShift, C_InvalidFactor, C_InvalidDrift, C_InvalidReadings, C_InvalidChanges, C_InvalidPrices, C_InvalidKnown, C_InvalidWays, C_InvalidLine, C_OutOfRange, C_DuplicateMark, C_UnknownMark, C_UnknownNumber, C_TooMany, C_NotNet, C_NotPlacing, C_NotWatched, C_NotEnough, C_NotApart, C_NoReading, C_NothingToUndo] = [some false, some true, some false, some false, some false, some false, some false, some false, some false, some false, some false, some false, some false, some false, some false, some false, some false, some false, some false, some false, some false, some false, some false, some false, some false, some false, some false, some false, some false, some false]
  kv_InvalidName : PySem.W.kitOne K (.ref C_InvalidName) (.type "ValueError") = some true
  kn_InvalidName : PySem.W.kitOne K (.ref C_InvalidName) (.ref C_NetError) = some true
  kr_SameMark : kits K C_SameMark [C_InvalidKind, C_InvalidName, C_SameMark, C_InvalidText, C_InvalidMeasure, C_InvalidMarks, C_InvalidMeasures, C_InvalidNumbers, C_InvalidPoints, C_InvalidShift, C_InvalidFactor, C_InvalidDrift, C_InvalidReadings, C_InvalidChanges, C_InvalidPrices, C_InvalidKnown, C_InvalidWays, C_InvalidLine, C_OutOfRange, C_DuplicateMark, C_UnknownMark, C_UnknownNumber, C_TooMany, C_NotNet, C_NotPlacing, C_NotWatched, C_NotEnough, C_NotApart, C_NoReading, C_NothingToUndo] = [some false, some false, some true, some false, some false, some false, some false, some false, some false, some false, some false, some false, some false, some false, some false, some false, some false, some false, some false, some false, some false, some false, some false, some false, some false, some false, some false, some false, some false, some false]
  kv_SameMark : PySem.W.kitOne K (.ref C_SameMark) (.type "ValueError") = some true
  kn_SameMark : PySem.W.kitOne K (.ref C_SameMark) (.ref C_NetError) = some true
  kr_InvalidText : kits K C_InvalidText [C_InvalidKind, C_InvalidName, C_SameMark, C_InvalidText, C_InvalidMeasure, C_InvalidMarks, C_InvalidMeasures, C_InvalidNumbers, C_InvalidPoints, C_InvalidShift, C_InvalidFactor, C_InvalidDrift, C_InvalidReadings, C_InvalidChanges, C_InvalidPrices, C_InvalidKnown, C_InvalidWays, C_InvalidLine, C_OutOfRange, C_DuplicateMark, C_UnknownMark, C_UnknownNumber, C_TooMany, C_NotNet, C_NotPlacing, C_NotWatched, C_NotEnough, C_NotApart, C_NoReading, C_NothingToUndo] = [some false, some false, some false, some true, some false, some false, some false, some false, some false, some false, some false, some false, some false, some false, some false, some false, some false, some false, some false, some false, some false, some false, some false, some false, some false, some false, some false, some false, some false, some false]
  kv_InvalidText : PySem.W.kitOne K (.ref C_InvalidText) (.type "ValueError") = some true
  kn_InvalidText : PySem.W.kitOne K (.ref C_InvalidText) (.ref C_NetError) = some true
  kr_InvalidMeasure : kits K C_InvalidMeasure [C_InvalidKind, C_InvalidName, C_SameMark, C_InvalidText, C_InvalidMeasure, C_InvalidMarks, C_InvalidMeasures, C_InvalidNumbers, C_InvalidPoints, C_InvalidShift, C_InvalidFactor, C_InvalidDrift, C_InvalidReadings, C_InvalidChanges, C_InvalidPrices, C_InvalidKnown, C_InvalidWays, C_InvalidLine, C_OutOfRange, C_DuplicateMark, C_UnknownMark, C_UnknownNumber, C_TooMany, C_NotNet, C_NotPlacing, C_NotWatched, C_NotEnough, C_NotApart, C_NoReading, C_NothingToUndo] = [some false, some false, some false, some false, some true, some false, some false, some false, some false, some false, some false, some false, some false, some false, some false, some false, some false, some false, some false, some false, some false, some false, some false, some false, some false, some false, some false, some false, some false, some false]
  kv_InvalidMeasure : PySem.W.kitOne K (.ref C_InvalidMeasure) (.type "ValueError") = some true
  kn_InvalidMeasure : PySem.W.kitOne K (.ref C_InvalidMeasure) (.ref C_NetError) = some true
  kr_InvalidMarks : kits K C_InvalidMarks [C_InvalidKind, C_InvalidName, C_SameMark, C_InvalidText, C_InvalidMeasure, C_InvalidMarks, C_InvalidMeasures, C_InvalidNumbers, C_InvalidPoints, C_InvalidShift, C_InvalidFactor, C_InvalidDrift, C_InvalidReadings, C_InvalidChanges, C_InvalidPrices, C_InvalidKnown, C_InvalidWays, C_InvalidLine, C_OutOfRange, C_DuplicateMark, C_UnknownMark, C_UnknownNumber, C_TooMany, C_NotNet, C_NotPlacing, C_NotWatched, C_NotEnough, C_NotApart, C_NoReading, C_NothingToUndo] = [some false, some false, some false, some false, some false, some true, some false, some false, some false, some false, some false, some false, some false, some false, some false, some false, some false, some false, some false, some false, some false, some false, some false, some false, some false, some false, some false, some false, some false, some false]
  kv_InvalidMarks : PySem.W.kitOne K (.ref C_InvalidMarks) (.type "ValueError") = some true
  kn_InvalidMarks : PySem.W.kitOne K (.ref C_InvalidMarks) (.ref C_NetError) = some true
  kr_InvalidMeasures : kits K C_InvalidMeasures [C_InvalidKind, C_InvalidName, C_SameMark, C_InvalidText, C_InvalidMeasure, C_InvalidMarks, C_InvalidMeasures, C_InvalidNumbers, C_InvalidPoints, C_InvalidShift, C_InvalidFactor, C_InvalidDrift, C_InvalidReadings, C_InvalidChanges, C_InvalidPrices, C_InvalidKnown, C_InvalidWays, C_InvalidLine, C_OutOfRange, C_DuplicateMark, C_UnknownMark, C_UnknownNumber, C_TooMany, C_NotNet, C_NotPlacing, C_NotWatched, C_NotEnough, C_NotApart, C_NoReading, C_NothingToUndo] = [some false, some false, some false, some false, some false, some false, some true, some false, some false, some false, some false, some false, some false, some false, some false, some false, some false, some false, some false, some false, some false, some false, some false, some false, some false, some false, some false, some false, some false, some false]
  kv_InvalidMeasures : PySem.W.kitOne K (.ref C_InvalidMeasures) (.type "ValueError") = some true
  kn_InvalidMeasures : PySem.W.kitOne K (.ref C_InvalidMeasures) (.ref C_NetError) = some true
  kr_InvalidNumbers : kits K C_InvalidNumbers [C_InvalidKind, C_InvalidName, C_SameMark, C_InvalidText, C_InvalidMeasure, C_InvalidMarks, C_InvalidMeasures, C_InvalidNumbers, C_InvalidPoints, C_InvalidShift, C_InvalidFactor, C_InvalidDrift, C_InvalidReadings, C_InvalidChanges, C_InvalidPrices, C_InvalidKnown, C_InvalidWays, C_InvalidLine, C_OutOfRange, C_DuplicateMark, C_UnknownMark, C_UnknownNumber, C_TooMany, C_NotNet, C_NotPlacing, C_NotWatched, C_NotEnough, C_NotApart, C_NoReading, C_NothingToUndo] = [some false, some false, some false, some false, some false, some false, some false, some true, some false, some false, some false, some false, some false, some false, some false, some false, some false, some false, some false, some false, some false, some false, some false, some false, some false, some false, some false, some false, some false, some false]
  kv_InvalidNumbers : PySem.W.kitOne K (.ref C_InvalidNumbers) (.type "ValueError") = some true
  kn_InvalidNumbers : PySem.W.kitOne K (.ref C_InvalidNumbers) (.ref C_NetError) = some true
  kr_InvalidPoints : kits K C_InvalidPoints [C_InvalidKind, C_InvalidName, C_SameMark, C_InvalidText, C_InvalidMeasure, C_InvalidMarks, C_InvalidMeasures, C_InvalidNumbers, C_InvalidPoints, C_InvalidShift, C_InvalidFactor, C_InvalidDrift, C_InvalidReadings, C_InvalidChanges, C_InvalidPrices, C_InvalidKnown, C_InvalidWays, C_InvalidLine, C_OutOfRange, C_DuplicateMark, C_UnknownMark, C_UnknownNumber, C_TooMany, C_NotNet, C_NotPlacing, C_NotWatched, C_NotEnough, C_NotApart, C_NoReading, C_NothingToUndo] = [some false, some false, some false, some false, some false, some false, some false, some false, some true, some false, some false, some false, some false, some false, some false, some false, some false, some false, some false, some false, some false, some false, some false, some false, some false, some false, some false, some false, some false, some false]
  kv_InvalidPoints : PySem.W.kitOne K (.ref C_InvalidPoints) (.type "ValueError") = some true
  kn_InvalidPoints : PySem.W.kitOne K (.ref C_InvalidPoints) (.ref C_NetError) = some true
  kr_InvalidShift : kits K C_InvalidShift [C_InvalidKind, C_InvalidName, C_SameMark, C_InvalidText, C_InvalidMeasure, C_InvalidMarks, C_InvalidMeasures, C_InvalidNumbers, C_InvalidPoints, C_InvalidShift, C_InvalidFactor, C_InvalidDrift, C_InvalidReadings, C_InvalidChanges, C_InvalidPrices, C_InvalidKnown, C_InvalidWays, C_InvalidLine, C_OutOfRange, C_DuplicateMark, C_UnknownMark, C_UnknownNumber, C_TooMany, C_NotNet, C_NotPlacing, C_NotWatched, C_NotEnough, C_NotApart, C_NoReading, C_NothingToUndo] = [some false, some false, some false, some false, some false, some false, some false, some false, some false, some true, some false, some false, some false, some false, some false, some false, some false, some false, some false, some false, some false, some false, some false, some false, some false, some false, some false, some false, some false, some false]
  kv_InvalidShift : PySem.W.kitOne K (.ref C_InvalidShift) (.type "ValueError") = some true
  kn_InvalidShift : PySem.W.kitOne K (.ref C_InvalidShift) (.ref C_NetError) = some true
  kr_InvalidFactor : kits K C_InvalidFactor [C_InvalidKind, C_InvalidName, C_SameMark, C_InvalidText, C_InvalidMeasure, C_InvalidMarks, C_InvalidMeasures, C_InvalidNumbers, C_InvalidPoints, C_InvalidShift, C_InvalidFactor, C_InvalidDrift, C_InvalidReadings, C_InvalidChanges, C_InvalidPrices, C_InvalidKnown, C_InvalidWays, C_InvalidLine, C_OutOfRange, C_DuplicateMark, C_UnknownMark, C_UnknownNumber, C_TooMany, C_NotNet, C_NotPlacing, C_NotWatched, C_NotEnough, C_NotApart, C_NoReading, C_NothingToUndo] = [some false, some false, some false, some false, some false, some false, some false, some false, some false, some false, some true, some false, some false, some false, some false, some false, some false, some false, some false, some false, some false, some false, some false, some false, some false, some false, some false, some false, some false, some false]
  kv_InvalidFactor : PySem.W.kitOne K (.ref C_InvalidFactor) (.type "ValueError") = some true
  kn_InvalidFactor : PySem.W.kitOne K (.ref C_InvalidFactor) (.ref C_NetError) = some true
  kr_InvalidDrift : kits K C_InvalidDrift [C_InvalidKind, C_InvalidName, C_SameMark, C_InvalidText, C_InvalidMeasure, C_InvalidMarks, C_InvalidMeasures, C_InvalidNumbers, C_InvalidPoints, C_InvalidShift, C_InvalidFactor, C_InvalidDrift, C_InvalidReadings, C_InvalidChanges, C_InvalidPrices, C_InvalidKnown, C_InvalidWays, C_InvalidLine, C_OutOfRange, C_DuplicateMark, C_UnknownMark, C_UnknownNumber, C_TooMany, C_NotNet, C_NotPlacing, C_NotWatched, C_NotEnough, C_NotApart, C_NoReading, C_NothingToUndo] = [some false, some false, some false, some false, some false, some false, some false, some false, some false, some false, some false, some true, some false, some false, some false, some false, some false, some false, some false, some false, some false, some false, some false, some false, some false, some false, some false, some false, some false, some false]
  kv_InvalidDrift : PySem.W.kitOne K (.ref C_InvalidDrift) (.type "ValueError") = some true
  kn_InvalidDrift : PySem.W.kitOne K (.ref C_InvalidDrift) (.ref C_NetError) = some true
  kr_InvalidReadings : kits K C_InvalidReadings [C_InvalidKind, C_InvalidName, C_SameMark, C_InvalidText, C_InvalidMeasure, C_InvalidMarks, C_InvalidMeasures, C_InvalidNumbers, C_InvalidPoints, C_InvalidShift, C_InvalidFactor, C_InvalidDrift, C_InvalidReadings, C_InvalidChanges, C_InvalidPrices, C_InvalidKnown, C_InvalidWays, C_InvalidLine, C_OutOfRange, C_DuplicateMark, C_UnknownMark, C_UnknownNumber, C_TooMany, C_NotNet, C_NotPlacing, C_NotWatched, C_NotEnough, C_NotApart, C_NoReading, C_NothingToUndo] = [some false, some false, some false, some false, some false, some false, some false, some false, some false, some false, some false, some false, some true, some false, some false, some false, some false, some false, some false, some false, some false, some false, some false, some false, some false, some false, some false, some false, some false, some false]
  kv_InvalidReadings : PySem.W.kitOne K (.ref C_InvalidReadings) (.type "ValueError") = some true
  kn_InvalidReadings : PySem.W.kitOne K (.ref C_InvalidReadings) (.ref C_NetError) = some true
  kr_InvalidChanges : kits K C_InvalidChanges [C_InvalidKind, C_InvalidName, C_SameMark, C_InvalidText, C_InvalidMeasure, C_InvalidMarks, C_InvalidMeasures, C_InvalidNumbers, C_InvalidPoints, C_InvalidShift, C_InvalidFactor, C_InvalidDrift, C_InvalidReadings, C_InvalidChanges, C_InvalidPrices, C_InvalidKnown, C_InvalidWays, C_InvalidLine, C_OutOfRange, C_DuplicateMark, C_UnknownMark, C_UnknownNumber, C_TooMany, C_NotNet, C_NotPlacing, C_NotWatched, C_NotEnough, C_NotApart, C_NoReading, C_NothingToUndo] = [some false, some false, some false, some false, some false, some false, some false, some false, some false, some false, some false, some false, some false, some true, some false, some false, some false, some false, some false, some false, some false, some false, some false, some false, some false, some false, some false, some false, some false, some false]
  kv_InvalidChanges : PySem.W.kitOne K (.ref C_InvalidChanges) (.type "ValueError") = some true
  kn_InvalidChanges : PySem.W.kitOne K (.ref C_InvalidChanges) (.ref C_NetError) = some true
  kr_InvalidPrices : kits K C_InvalidPrices [C_InvalidKind, C_InvalidName, C_SameMark, C_InvalidText, C_InvalidMeasure, C_InvalidMarks, C_InvalidMeasures, C_InvalidNumbers, C_InvalidPoints, C_InvalidShift, C_InvalidFactor, C_InvalidDrift, C_InvalidReadings, C_InvalidChanges, C_InvalidPrices, C_InvalidKnown, C_InvalidWays, C_InvalidLine, C_OutOfRange, C_DuplicateMark, C_UnknownMark, C_UnknownNumber, C_TooMany, C_NotNet, C_NotPlacing, C_NotWatched, C_NotEnough, C_NotApart, C_NoReading, C_NothingToUndo] = [some false, some false, some false, some false, some false, some false, some false, some false, some false, some false, some false, some false, some false, some false, some true, some false, some false, some false, some false, some false, some false, some false, some false, some false, some false, some false, some false, some false, some false, some false]
  kv_InvalidPrices : PySem.W.kitOne K (.ref C_InvalidPrices) (.type "ValueError") = some true
  kn_InvalidPrices : PySem.W.kitOne K (.ref C_InvalidPrices) (.ref C_NetError) = some true
  kr_InvalidKnown : kits K C_InvalidKnown [C_InvalidKind, C_InvalidName, C_SameMark, C_InvalidText, C_InvalidMeasure, C_InvalidMarks, C_InvalidMeasures, C_InvalidNumbers, C_InvalidPoints, C_InvalidShift, C_InvalidFactor, C_InvalidDrift, C_InvalidReadings, C_InvalidChanges, C_InvalidPrices, C_InvalidKnown, C_InvalidWays, C_InvalidLine, C_OutOfRange, C_DuplicateMark, C_UnknownMark, C_UnknownNumber, C_TooMany, C_NotNet, C_NotPlacing, C_NotWatched, C_NotEnough, C_NotApart, C_NoReading, C_NothingToUndo] = [some false, some false, some false, some false, some false, some false, some false, some false, some false, some false, some false, some false, some false, some false, some false, some true, some false, some false, some false, some false, some false, some false, some false, some false, some false, some false, some false, some false, some false, some false]
  kv_InvalidKnown : PySem.W.kitOne K (.ref C_InvalidKnown) (.type "ValueError") = some true
  kn_InvalidKnown : PySem.W.kitOne K (.ref C_InvalidKnown) (.ref C_NetError) = some true
  kr_InvalidWays : kits K C_InvalidWays [C_InvalidKind, C_InvalidName, C_SameMark, C_InvalidText, C_InvalidMeasure, C_InvalidMarks, C_InvalidMeasures, C_InvalidNumbers, C_InvalidPoints, C_InvalidShift, C_InvalidFactor, C_InvalidDrift, C_InvalidReadings, C_InvalidChanges, C_InvalidPrices, C_InvalidKnown, C_InvalidWays, C_InvalidLine, C_OutOfRange, C_DuplicateMark, C_UnknownMark, C_UnknownNumber, C_TooMany, C_NotNet, C_NotPlacing, C_NotWatched, C_NotEnough, C_NotApart, C_NoReading, C_NothingToUndo] = [some false, some false, some false, some false, some false, some false, some false, some false, some false, some false, some false, some false, some false, some false, some false, some false, some true, some false, some false, some false, some false, some false, some false, some false, some false, some false, some false, some false, some false, some false]
  kv_InvalidWays : PySem.W.kitOne K (.ref C_InvalidWays) (.type "ValueError") = some true
  kn_InvalidWays : PySem.W.kitOne K (.ref C_InvalidWays) (.ref C_NetError) = some true
  kr_InvalidLine : kits K C_InvalidLine [C_InvalidKind, C_InvalidName, C_SameMark, C_InvalidText, C_InvalidMeasure, C_InvalidMarks, C_InvalidMeasures, C_InvalidNumbers, C_InvalidPoints, C_InvalidShift, C_InvalidFactor, C_InvalidDrift, C_InvalidReadings, C_InvalidChanges, C_InvalidPrices, C_InvalidKnown, C_InvalidWays, C_InvalidLine, C_OutOfRange, C_DuplicateMark, C_UnknownMark, C_UnknownNumber, C_TooMany, C_NotNet, C_NotPlacing, C_NotWatched, C_NotEnough, C_NotApart, C_NoReading, C_NothingToUndo] = [some false, some false, some false, some false, some false, some false, some false, some false, some false, some false, some false, some false, some false, some false, some false, some false, some false, some true, some false, some false, some false, some false, some false, some false, some false, some false, some false, some false, some false, some false]
  kv_InvalidLine : PySem.W.kitOne K (.ref C_InvalidLine) (.type "ValueError") = some true
  kn_InvalidLine : PySem.W.kitOne K (.ref C_InvalidLine) (.ref C_NetError) = some true
  kr_OutOfRange : kits K C_OutOfRange [C_InvalidKind, C_InvalidName, C_SameMark, C_InvalidText, C_InvalidMeasure, C_InvalidMarks, C_InvalidMeasures, C_InvalidNumbers, C_InvalidPoints, C_InvalidShift, C_InvalidFactor, C_InvalidDrift, C_InvalidReadings, C_InvalidChanges, C_InvalidPrices, C_InvalidKnown, C_InvalidWays, C_InvalidLine, C_OutOfRange, C_DuplicateMark, C_UnknownMark, C_UnknownNumber, C_TooMany, C_NotNet, C_NotPlacing, C_NotWatched, C_NotEnough, C_NotApart, C_NoReading, C_NothingToUndo] = [some false, some false, some false, some false, some false, some false, some false, some false, some false, some false, some false, some false, some false, some false, some false, some false, some false, some false, some true, some false, some false, some false, some false, some false, some false, some false, some false, some false, some false, some false]
  kv_OutOfRange : PySem.W.kitOne K (.ref C_OutOfRange) (.type "ValueError") = some true
  kn_OutOfRange : PySem.W.kitOne K (.ref C_OutOfRange) (.ref C_NetError) = some true
  kr_DuplicateMark : kits K C_DuplicateMark [C_InvalidKind, C_InvalidName, C_SameMark, C_InvalidText, C_InvalidMeasure, C_InvalidMarks, C_InvalidMeasures, C_InvalidNumbers, C_InvalidPoints, C_InvalidShift, C_InvalidFactor, C_InvalidDrift, C_InvalidReadings, C_InvalidChanges, C_InvalidPrices, C_InvalidKnown, C_InvalidWays, C_InvalidLine, C_OutOfRange, C_DuplicateMark, C_UnknownMark, C_UnknownNumber, C_TooMany, C_NotNet, C_NotPlacing, C_NotWatched, C_NotEnough, C_NotApart, C_NoReading, C_NothingToUndo] = [some false, some false, some false, some false, some false, some false, some false, some false, some false, some false, some false, some false, some false, some false, some false, some false, some false, some false, some false, some true, some false, some false, some false, some false, some false, some false, some false, some false, some false, some false]
  kv_DuplicateMark : PySem.W.kitOne K (.ref C_DuplicateMark) (.type "ValueError") = some true
  kn_DuplicateMark : PySem.W.kitOne K (.ref C_DuplicateMark) (.ref C_NetError) = some true
  kr_UnknownMark : kits K C_UnknownMark [C_InvalidKind, C_InvalidName, C_SameMark, C_InvalidText, C_InvalidMeasure, C_InvalidMarks, C_InvalidMeasures, C_InvalidNumbers, C_InvalidPoints, C_InvalidShift, C_InvalidFactor, C_InvalidDrift, C_InvalidReadings, C_InvalidChanges, C_InvalidPrices, C_InvalidKnown, C_InvalidWays, C_InvalidLine, C_OutOfRange, C_DuplicateMark, C_UnknownMark, C_UnknownNumber, C_TooMany, C_NotNet, C_NotPlacing, C_NotWatched, C_NotEnough, C_NotApart, C_NoReading, C_NothingToUndo] = [some false, some false, some false, some false, some false, some false, some false, some false, some false, some false, some false, some false, some false, some false, some false, some false, some false, some false, some false, some false, some true, some false, some false, some false, some false, some false, some false, some false, some false, some false]
  kv_UnknownMark : PySem.W.kitOne K (.ref C_UnknownMark) (.type "ValueError") = some true
  kn_UnknownMark : PySem.W.kitOne K (.ref C_UnknownMark) (.ref C_NetError) = some true
  kr_UnknownNumber : kits K C_UnknownNumber [C_InvalidKind, C_InvalidName, C_SameMark, C_InvalidText, C_InvalidMeasure, C_InvalidMarks, C_InvalidMeasures, C_InvalidNumbers, C_InvalidPoints, C_InvalidShift, C_InvalidFactor, C_InvalidDrift, C_InvalidReadings, C_InvalidChanges, C_InvalidPrices, C_InvalidKnown, C_InvalidWays, C_InvalidLine, C_OutOfRange, C_DuplicateMark, C_UnknownMark, C_UnknownNumber, C_TooMany, C_NotNet, C_NotPlacing, C_NotWatched, C_NotEnough, C_NotApart, C_NoReading, C_NothingToUndo] = [some false, some false, some false, some false, some false, some false, some false, some false, some false, some false, some false, some false, some false, some false, some false, some false, some false, some false, some false, some false, some false, some true, some false, some false, some false, some false, some false, some false, some false, some false]
  kv_UnknownNumber : PySem.W.kitOne K (.ref C_UnknownNumber) (.type "ValueError") = some true
  kn_UnknownNumber : PySem.W.kitOne K (.ref C_UnknownNumber) (.ref C_NetError) = some true
  kr_TooMany : kits K C_TooMany [C_InvalidKind, C_InvalidName, C_SameMark, C_InvalidText, C_InvalidMeasure, C_InvalidMarks, C_InvalidMeasures, C_InvalidNumbers, C_InvalidPoints, C_InvalidShift, C_InvalidFactor, C_InvalidDrift, C_InvalidReadings, C_InvalidChanges, C_InvalidPrices, C_InvalidKnown, C_InvalidWays, C_InvalidLine, C_OutOfRange, C_DuplicateMark, C_UnknownMark, C_UnknownNumber, C_TooMany, C_NotNet, C_NotPlacing, C_NotWatched, C_NotEnough, C_NotApart, C_NoReading, C_NothingToUndo] = [some false, some false, some false, some false, some false, some false, some false, some false, some false, some false, some false, some false, some false, some false, some false, some false, some false, some false, some false, some false, some false, some false, some true, some false, some false, some false, some false, some false, some false, some false]
  kv_TooMany : PySem.W.kitOne K (.ref C_TooMany) (.type "ValueError") = some true
  kn_TooMany : PySem.W.kitOne K (.ref C_TooMany) (.ref C_NetError) = some true
  kr_NotNet : kits K C_NotNet [C_InvalidKind, C_InvalidName, C_SameMark, C_InvalidText, C_InvalidMeasure, C_InvalidMarks, C_InvalidMeasures, C_InvalidNumbers, C_InvalidPoints, C_InvalidShift, C_InvalidFactor, C_InvalidDrift, C_InvalidReadings, C_InvalidChanges, C_InvalidPrices, C_InvalidKnown, C_InvalidWays, C_InvalidLine, C_OutOfRange, C_DuplicateMark, C_UnknownMark, C_UnknownNumber, C_TooMany, C_NotNet, C_NotPlacing, C_NotWatched, C_NotEnough, C_NotApart, C_NoReading, C_NothingToUndo] = [some false, some false, some false, some false, some false, some false, some false, some false, some false, some false, some false, some false, some false, some false, some false, some false, some false, some false, some false, some false, some false, some false, some false, some true, some false, some false, some false, some false, some false, some false]
  kv_NotNet : PySem.W.kitOne K (.ref C_NotNet) (.type "ValueError") = some true
  kn_NotNet : PySem.W.kitOne K (.ref C_NotNet) (.ref C_NetError) = some true
  kr_NotPlacing : kits K C_NotPlacing [C_InvalidKind, C_InvalidName, C_SameMark, C_InvalidText, C_InvalidMeasure, C_InvalidMarks, C_InvalidMeasures, C_InvalidNumbers, C_InvalidPoints, C_InvalidShift, C_InvalidFactor, C_InvalidDrift, C_InvalidReadings, C_InvalidChanges, C_InvalidPrices, C_InvalidKnown, C_InvalidWays, C_InvalidLine, C_OutOfRange, C_DuplicateMark, C_UnknownMark, C_UnknownNumber, C_TooMany, C_NotNet, C_NotPlacing, C_NotWatched, C_NotEnough, C_NotApart, C_NoReading, C_NothingToUndo] = [some false, some false, some false, some false, some false, some false, some false, some false, some false, some false, some false, some false, some false, some false, some false, some false, some false, some false, some false, some false, some false, some false, some false, some false, some true, some false, some false, some false, some false, some false]
  kv_NotPlacing : PySem.W.kitOne K (.ref C_NotPlacing) (.type "ValueError") = some true
  kn_NotPlacing : PySem.W.kitOne K (.ref C_NotPlacing) (.ref C_NetError) = some true
  kr_NotWatched : kits K C_NotWatched [C_InvalidKind, C_InvalidName, C_SameMark, C_InvalidText, C_InvalidMeasure, C_InvalidMarks, C_InvalidMeasures, C_InvalidNumbers, C_InvalidPoints, C_InvalidShift, C_InvalidFactor, C_InvalidDrift, C_InvalidReadings, C_InvalidChanges, C_InvalidPrices, C_InvalidKnown, C_InvalidWays, C_InvalidLine, C_OutOfRange, C_DuplicateMark, C_UnknownMark, C_UnknownNumber, C_TooMany, C_NotNet, C_NotPlacing, C_NotWatched, C_NotEnough, C_NotApart, C_NoReading, C_NothingToUndo] = [some false, some false, some false, some false, some false, some false, some false, some false, some false, some false, some false, some false, some false, some false, some false, some false, some false, some false, some false, some false, some false, some false, some false, some false, some false, some true, some false, some false, some false, some false]
  kv_NotWatched : PySem.W.kitOne K (.ref C_NotWatched) (.type "ValueError") = some true
  kn_NotWatched : PySem.W.kitOne K (.ref C_NotWatched) (.ref C_NetError) = some true
  kr_NotEnough : kits K C_NotEnough [C_InvalidKind, C_InvalidName, C_SameMark, C_InvalidText, C_InvalidMeasure, C_InvalidMarks, C_InvalidMeasures, C_InvalidNumbers, C_InvalidPoints, C_InvalidShift, C_InvalidFactor, C_InvalidDrift, C_InvalidReadings, C_InvalidChanges, C_InvalidPrices, C_InvalidKnown, C_InvalidWays, C_InvalidLine, C_OutOfRange, C_DuplicateMark, C_UnknownMark, C_UnknownNumber, C_TooMany, C_NotNet, C_NotPlacing, C_NotWatched, C_NotEnough, C_NotApart, C_NoReading, C_NothingToUndo] = [some false, some false, some false, some false, some false, some false, some false, some false, some false, some false, some false, some false, some false, some false, some false, some false, some false, some false, some false, some false, some false, some false, some false, some false, some false, some false, some true, some false, some false, some false]
  kv_NotEnough : PySem.W.kitOne K (.ref C_NotEnough) (.type "ValueError") = some true
  kn_NotEnough : PySem.W.kitOne K (.ref C_NotEnough) (.ref C_NetError) = some true
  kr_NotApart : kits K C_NotApart [C_InvalidKind, C_InvalidName, C_SameMark, C_InvalidText, C_InvalidMeasure, C_InvalidMarks, C_InvalidMeasures, C_InvalidNumbers, C_InvalidPoints, C_InvalidShift, C_InvalidFactor, C_InvalidDrift, C_InvalidReadings, C_InvalidChanges, C_InvalidPrices, C_InvalidKnown, C_InvalidWays, C_InvalidLine, C_OutOfRange, C_DuplicateMark, C_UnknownMark, C_UnknownNumber, C_TooMany, C_NotNet, C_NotPlacing, C_NotWatched, C_NotEnough, C_NotApart, C_NoReading, C_NothingToUndo] = [some false, some false, some false, some false, some false, some false, some false, some false, some false, some false, some false, some false, some false, some false, some false, some false, some false, some false, some false, some false, some false, some false, some false, some false, some false, some false, some false, some true, some false, some false]
  kv_NotApart : PySem.W.kitOne K (.ref C_NotApart) (.type "ValueError") = some true
  kn_NotApart : PySem.W.kitOne K (.ref C_NotApart) (.ref C_NetError) = some true
  kr_NoReading : kits K C_NoReading [C_InvalidKind, C_InvalidName, C_SameMark, C_InvalidText, C_InvalidMeasure, C_InvalidMarks, C_InvalidMeasures, C_InvalidNumbers, C_InvalidPoints, C_InvalidShift, C_InvalidFactor, C_InvalidDrift, C_InvalidReadings, C_InvalidChanges, C_InvalidPrices, C_InvalidKnown, C_InvalidWays, C_InvalidLine, C_OutOfRange, C_DuplicateMark, C_UnknownMark, C_UnknownNumber, C_TooMany, C_NotNet, C_NotPlacing, C_NotWatched, C_NotEnough, C_NotApart, C_NoReading, C_NothingToUndo] = [some false, some false, some false, some false, some false, some false, some false, some false, some false, some false, some false, some false, some false, some false, some false, some false, some false, some false, some false, some false, some false, some false, some false, some false, some false, some false, some false, some false, some true, some false]
  kv_NoReading : PySem.W.kitOne K (.ref C_NoReading) (.type "ValueError") = some true
  kn_NoReading : PySem.W.kitOne K (.ref C_NoReading) (.ref C_NetError) = some true
  kr_NetError : kits K C_NetError [C_InvalidKind, C_InvalidName, C_SameMark, C_InvalidText, C_InvalidMeasure, C_InvalidMarks, C_InvalidMeasures, C_InvalidNumbers, C_InvalidPoints, C_InvalidShift, C_InvalidFactor, C_InvalidDrift, C_InvalidReadings, C_InvalidChanges, C_InvalidPrices, C_InvalidKnown, C_InvalidWays, C_InvalidLine, C_OutOfRange, C_DuplicateMark, C_UnknownMark, C_UnknownNumber, C_TooMany, C_NotNet, C_NotPlacing, C_NotWatched, C_NotEnough, C_NotApart, C_NoReading, C_NothingToUndo] = [some false, some false, some false, some false, some false, some false, some false, some false, some false, some false, some false, some false, some false, some false, some false, some false, some false, some false, some false, some false, some false, some false, some false, some false, some false, some false, some false, some false, some false, some false]
  kv_NetError : PySem.W.kitOne K (.ref C_NetError) (.type "ValueError") = some true
  kn_NetError : PySem.W.kitOne K (.ref C_NetError) (.ref C_NetError) = some true
variable {P : Program} {K : PySem.W.Frag} {mg : Str → Option Value}
def Top.tabs (T : Top P K mg) : List (Addr × Str) := []
end K04
set_option Elab.async false
set_option linter.all false
set_option maxRecDepth 100000
set_option maxHeartbeats 3900000
namespace K04
open PySem PySem.Spec PyProof.Rows L2 G M
set_option synthInstance.maxHeartbeats 0
set_option synthInstance.maxSize 1000000
local macro_rules | `(tactic| walk_at "s") => `(tactic| exact Ok.ok)
local macro_rules | `(tactic| walk_at "g") => `(tactic| first
  | (with_reducible refine' w_seq ?_)
  | ((with_reducible refine' w_var ?h ?_); (case h => exact rfl))
  | (with_reducible refine' w_c ?_)
  | (with_reducible refine' w_op ?_)
  | (with_reducible refine' w_asg ?_)
  | (with_reducible refine' w_gname ?_)
  | (with_reducible refine' w_ifS ?_)
  | (with_reducible refine' w_test ?_)
  | (with_reducible refine' w_bl ?_)
  | (with_reducible refine' w_CB ?_)
  | (with_reducible refine' w_cons ?_)
  | (with_reducible refine' w_nil ?_)
  | (with_reducible refine' w_call ?_)
  | (with_reducible refine' w_ret ?_)
  | (with_reducible refine' w_drop ?_)
  | (with_reducible refine' w_next ?_)
  | (with_reducible refine' w_and ?_)
  | (with_reducible refine' w_or ?_)
  | (with_reducible refine' w_not ?_)
  | (with_reducible refine' w_andV ?_)
  | (with_reducible refine' w_orV ?_)
  | (with_reducible refine' w_notV ?_)
  | (with_reducible refine' w_if ?_)
  | (with_reducible refine' w_chain ?_)
  | (with_reducible refine' w_B ?_)
  | (with_reducible refine' w_un ?_)
  | (with_reducible refine' w_lst ?_)
  | (with_reducible refine' w_tup ?_)
  | (with_reducible refine' w_gsub ?_)
  | (with_reducible refine' w_par ?_)
  | (with_reducible refine' w_two ?_)
  | (with_reducible refine' w_sl ?_)
  | (with_reducible refine' w_retN ?_)
  | (with_reducible refine' w_yes ?_)
  | (with_reducible refine' w_m1 ?_)
  | (with_reducible refine' w_pair0 ?_)
  | (with_reducible refine' w_pair1 ?_)
  | (with_reducible refine' c_reprB ?_)
  | (with_reducible refine' w_noPart ?_)
  | (with_reducible refine' w_part ?_)
  | (with_reducible refine' w_isI ?_)
  | (with_reducible refine' w_make ?_)
  | (with_reducible refine' w_sfld ?_)
  | (with_reducible refine' w_fld ?_)
  | (with_reducible refine' w_lc ?_)
  | (with_reducible refine' w_for ?_)
  | (with_reducible refine' w_iR1 ?_)
  | (with_reducible refine' w_iR2 ?_)
  | ((with_reducible refine' w_lcW ?h ?_); (case h => exact rfl))
  | (with_reducible refine' m_strT ?_)
  | (with_reducible refine' w_bm0 ?_)
  | (with_reducible refine' w_bm ?_)
  | (with_reducible refine' m_str ?_)
  | (with_reducible refine' m_s0 ?_)
  | ((with_reducible refine' m_lst ?h ?_); (case h => first | assumption | exact SqL.of upd_same | exact SqL.of (by assumption)))
  | (with_reducible refine' a_addI ?_)
  | (with_reducible refine' a_I0 ?_)
  | ((with_reducible refine' a_mulI ?h ?_); (case h => first | exact .inl ⟨by decide, by decide⟩ | exact .inr ⟨by decide, by decide⟩ | exact .inl ⟨by omega, by omega⟩ | exact .inr ⟨by omega, by omega⟩))
  | ((with_reducible refine' a_fdiv ?h ?_); (case h => first | exact ⟨by decide, by decide⟩ | exact ⟨by omega, by omega⟩))
  | ((with_reducible refine' a_mod ?h ?_); (case h => first | decide | omega))
  | ((with_reducible refine' a_pow ?h ?_); (case h => first | exact ⟨by decide, by decide, by decide⟩ | exact ⟨by decide, by decide, by omega⟩))
  | (with_reducible refine' a_neg ?_)
  | (with_reducible refine' a_ltI ?_)
  | (with_reducible refine' a_leI ?_)
  | (with_reducible refine' a_gtI ?_)
  | (with_reducible refine' a_geI ?_)
  | (with_reducible refine' a_ltS ?_)
  | (with_reducible refine' a_eqI ?_)
  | (with_reducible refine' a_eqS ?_)
  | (with_reducible refine' a_neI ?_)
  | (with_reducible refine' a_neS ?_)
  | (with_reducible refine' a_isnotB ?_)
  | (with_reducible refine' a_isB ?_)
  | (with_reducible refine' a_isN ?_)
  | (with_reducible refine' a_isnotN ?_)
  | ((with_reducible refine' a_ixL ?h1 ?h2 ?_); (case h1 => first | assumption | exact upd_same); (case h2 => exact rfl))
  | ((with_reducible refine' a_set ?h1 ?h2 ?_); (case h1 => first | assumption | exact upd_same); (case h2 => exact rfl))
  | (with_reducible refine' c_int ?_)
  | (with_reducible refine' c_intB ?_)
  | (with_reducible refine' c_max ?_)
  | (with_reducible refine' c_min ?_)
  | ((with_reducible refine' a_fdiv ?h ?_); (case h => first | exact ⟨by decide, by decide⟩ | exact ⟨by omega, by omega⟩))
  | (with_reducible refine' iteT ?_)
  | (with_reducible refine' iteF ?_)
  | (with_reducible refine' iteNT ?_)
  | (with_reducible refine' iteNF ?_)
  | (with_reducible refine' w_js ?_)
  | (with_reducible refine' w_jsn ?_)
  | (with_reducible refine' w_fmt ?_)
  | ((with_reducible refine' w_makeL ?h ?_); (case h => exact rfl))
  | (with_reducible refine' w_raiseE ?_)
  | (with_reducible refine' w_getE ?_)
  | ((with_reducible refine' w_callW ?h ?_); (case h => exact rfl))
  | (with_reducible refine' w_cmeth ?_)
  | (with_reducible refine' is_of ?_)
  | ((with_reducible refine' w_lam1 ?h ?_); (case h => assumption)))
theorem old_l_cell {P : Program} {w : World} {K : PySem.W.Frag} {mg : Str → Option Value} {base : Heap} (T : Top P K mg) : FnOk P w K mg base CX0 (1) T.f_l_cell T.fd_l_cell ["_law_script", "_law_k"] (sp_cell K) := by
  refine T.F_l_cell.ok sc_l_cell (fun vs H Q E h => ?_) (fun cdv A outer s H vs Q E hr h => ?_)
  · obtain ⟨a, ns, k, rfl, hS, hl, hk, q⟩ := h
    rfl
  · obtain ⟨a, ns, k, rfl, hS, hl, hk, q⟩ := h
    refine ⟨_, (pss_cons (ps_if (pt_cmpR op_ltU (pv 1) (pe_callB (call_lenU (K := K) rfl) (by rfl) T.m_len PySem.boot_len (pa_cons (pv 0) pa_nil)) (nomark _)) (pss_one (ps_ret (pe_ix (ix_U (K := K) rfl) (pv 0) (pv 1) (fun _ _ => rfl)))) pss_nil)
      (pss_one (ps_ret (pe_op op_addU (pe_op op_mulU pe_int (pv 1)) pe_int)))), ?_⟩
    repeat walk_at "g"
    refine c_lenL hS ?_
    repeat walk_at "g"
    refine iteD (fun h => ?_) (fun h => ?_)
    · repeat walk_at "g"
      rw [List.length_map] at h
      have h1 : k < ns.length := by omega
      refine a_ixLK hS (atI_nat (j := k) (by rw [List.getElem?_map, List.getElem?_eq_getElem h1]; rfl)) ?_
      exact q _
    · repeat walk_at "g"
      exact q _
def m_l_cell {P : Program} {K : PySem.W.Frag} {mg : Str → Option Value} (T : Top P K mg) : Fn := cellF
theorem ok_l_cell {P : Program} {w : World} {K : PySem.W.Frag} {mg : Str → Option Value} {base : Heap} (T : Top P K mg) : FnOk P w K mg base (L2.CX P w) 1 T.f_l_cell T.fd_l_cell ["_law_script", "_law_k"] (SpG K T.tabs (m_l_cell T)) := cell_ok (fn_cx0 (old_l_cell T))
theorem old_l_box {P : Program} {w : World} {K : PySem.W.Frag} {mg : Str → Option Value} {base : Heap} (T : Top P K mg) : FnOk P w K mg base CX0 (1) T.f_l_box T.fd_l_box ["_law_cell_here"] (sp_box) := by
  refine T.F_l_box.ok sc_l_box (fun vs H Q E h => ?_) (fun cdv A outer s H vs Q E hr h => ?_)
  · obtain ⟨c, rfl, q⟩ := h
    rfl
  · obtain ⟨c, rfl, q⟩ := h
    refine ⟨_, (pss_one (ps_ret (pe_lst (pa_cons (pe_callB (call_maxU (K := K) rfl rfl) (by rfl) T.m_max (by decide +kernel) (pa_cons pe_int (pa_cons (pe_op op_sub (pv 0) (pe_op op_powU pe_int pe_int)) pa_nil))) (pa_cons (pe_op op_modU (pe_callTy call_intU (by rfl) T.m_int (by decide +kernel) (pa_cons (pv 0) pa_nil)) pe_int) (pa_cons pe_int pa_nil)))))), ?_⟩
    repeat walk_at "g"
    refine newL_of rfl fun p hp => q p _ hp ⟨_, _, _, rfl, ?_, fmod_lo _ (by decide), fmod_hi _ (by decide), by decide, by decide⟩
    split <;> omega
def m_l_box {P : Program} {K : PySem.W.Frag} {mg : Str → Option Value} (T : Top P K mg) : Fn := boxF
theorem ok_l_box {P : Program} {w : World} {K : PySem.W.Frag} {mg : Str → Option Value} {base : Heap} (T : Top P K mg) : FnOk P w K mg base (L2.CX P w) 1 T.f_l_box T.fd_l_box ["_law_cell_here"] (SpG K T.tabs (m_l_box T)) := box_ok (fn_cx0 (old_l_box T))
theorem old_l_take {P : Program} {w : World} {K : PySem.W.Frag} {mg : Str → Option Value} {base : Heap} (T : Top P K mg) : FnOk P w K mg base CX0 (1) T.f_l_take T.fd_l_take ["_law_box_here", "_law_many"] (sp_take) := by
  refine T.F_l_take.ok sc_l_take (fun vs H Q E h => ?_) (fun cdv A outer s H vs Q E hr h => ?_)
  · obtain ⟨p, m, o, n, rfl, hp, ⟨a, b, c, rfl, ha, hb, hb2, hc, hc2⟩, hn, hm, hm2, q⟩ := h
    rfl
  · obtain ⟨p, m, o, n, rfl, hp, ⟨a, b, c, rfl, ha, hb, hb2, hc, hc2⟩, hn, hm, hm2, q⟩ := h
    refine ⟨_, (pss_cons (ps_if (pt_cmpR op_gtU (pe_ix (ix_U (K := K) rfl) (pv 0) pe_int (fun _ _ => rfl)) pe_int (nomark _)) (pss_cons (ps_set (i := 2) sc_l_take.nd rfl (Or.inl rfl) (pe_op op_modU (pe_callTy call_intU (by rfl) T.m_int (by decide +kernel) (pa_cons (pe_ix (ix_U (K := K) rfl) (pv 0) pe_int (fun _ _ => rfl)) pa_nil)) (pv 1)))
      (pss_cons (ps_asg (pe_op op_fdivU (pe_ix (ix_U (K := K) rfl) (pv 0) pe_int (fun _ _ => rfl)) (pv 1)) (pg_sub (pv 0) pe_int set_list))
      (pss_one (ps_ret (pv 2))))) pss_nil)
      (pss_cons (ps_asg (pe_op op_addU (pe_ix (ix_U (K := K) rfl) (pv 0) pe_int (fun _ _ => rfl)) pe_int) (pg_sub (pv 0) pe_int set_list))
      (pss_cons (ps_set (i := 3) sc_l_take.nd rfl (Or.inl rfl) (pe_op op_modU (pe_op op_powU (pe_callTy call_intU (by rfl) T.m_int (by decide +kernel) (pa_cons (pe_op op_addU (pe_op op_addU (pe_ix (ix_U (K := K) rfl) (pv 0) pe_int (fun _ _ => rfl)) (pe_op op_mulU pe_int (pe_ix (ix_U (K := K) rfl) (pv 0) pe_int (fun _ _ => rfl)))) pe_int) pa_nil)) pe_int) pe_int))
      (pss_cons (ps_set (i := 3) sc_l_take.nd rfl (Or.inl rfl) (pe_op op_modU (pe_op op_powU (pe_callTy call_intU (by rfl) T.m_int (by decide +kernel) (pa_cons (pe_op op_addU (pv 3) (pe_op op_mulU pe_int (pe_ix (ix_U (K := K) rfl) (pv 0) pe_int (fun _ _ => rfl)))) pa_nil)) pe_int) pe_int))
      (pss_one (ps_ret (pe_op op_modU (pe_callTy call_intU (by rfl) T.m_int (by decide +kernel) (pa_cons (pe_op op_fdivU (pv 3) pe_int) pa_nil)) (pv 1)))))))), ?_⟩
    repeat walk_at "g"
    refine iteD (fun h => ?_) (fun h => ?_)
    · repeat walk_at "g"
      exact q _ _ (fmod_lo _ hm) (fmod_hi _ hm) ⟨_, _, _, rfl, fdiv_lo ha hm, hb, hb2, hc, by omega⟩
    · repeat walk_at "g"
      have e1 := fmod_lo ((b + 5011 * (c + 1) + 104) ^ Int.toNat 5) (show (0 : Int) < 2147483647 by decide)
      have e2 := fmod_hi ((b + 5011 * (c + 1) + 104) ^ Int.toNat 5) (show (0 : Int) < 2147483647 by decide)
      repeat walk_at "g"
      exact q _ _ (fmod_lo _ hm) (fmod_hi _ hm) ⟨_, _, _, rfl, ha, hb, hb2, by omega, by omega⟩
def m_l_take {P : Program} {K : PySem.W.Frag} {mg : Str → Option Value} (T : Top P K mg) : Fn := takeF
theorem ok_l_take {P : Program} {w : World} {K : PySem.W.Frag} {mg : Str → Option Value} {base : Heap} (T : Top P K mg) : FnOk P w K mg base (L2.CX P w) 1 T.f_l_take T.fd_l_take ["_law_box_here", "_law_many"] (SpG K T.tabs (m_l_take T)) := take_ok (fn_cx0 (old_l_take T))
end K04
set_option Elab.async false
set_option linter.all false
set_option maxRecDepth 100000
set_option maxHeartbeats 3900000
namespace K04
open PySem PySem.Spec PyProof.Rows L2 G M
set_option synthInstance.maxHeartbeats 0
set_option synthInstance.maxSize 1000000
local macro_rules | `(tactic| walk_at "s") => `(tactic| exact Ok.ok)
def m_l_made0 {P : Program} {K : PySem.W.Frag} {mg : Str → Option Value} (T : Top P K mg) : Fn := fnD 3 4 (seqM (ifS (testM (opM eqD (varM 0) (cM (.int 0))))
    (seqM (asgM (ifM (testM (varM 2)) (mkVM T.C_InvalidKind "value" (consM (varM 1) nilM)) (mkVM T.C_InvalidKind "value" (consM (varM 1) nilM))) (gnameM 3))
    (retM (tupM (consM (varM 3) (consM (lstM false (consM (getVM T.C_InvalidKind "value" (varM 3)) nilM)) nilM)))))
    nextM)
    (seqM (ifS (testM (opM eqD (varM 0) (cM (.int 1))))
    (seqM (asgM (ifM (testM (varM 2)) (mkVM T.C_InvalidName "name" (consM (varM 1) nilM)) (mkVM T.C_InvalidName "name" (consM (varM 1) nilM))) (gnameM 3))
    (retM (tupM (consM (varM 3) (consM (lstM false (consM (getVM T.C_InvalidName "name" (varM 3)) nilM)) nilM)))))
    nextM)
    (seqM (ifS (testM (opM eqD (varM 0) (cM (.int 2))))
    (seqM (asgM (ifM (testM (varM 2)) (mkVM T.C_SameMark "name" (consM (varM 1) nilM)) (mkVM T.C_SameMark "name" (consM (varM 1) nilM))) (gnameM 3))
    (retM (tupM (consM (varM 3) (consM (lstM false (consM (getVM T.C_SameMark "name" (varM 3)) nilM)) nilM)))))
    nextM)
    (seqM (ifS (testM (opM eqD (varM 0) (cM (.int 3))))
    (seqM (asgM (ifM (testM (varM 2)) (mkVM T.C_InvalidText "text" (consM (varM 1) nilM)) (mkVM T.C_InvalidText "text" (consM (varM 1) nilM))) (gnameM 3))
    (retM (tupM (consM (varM 3) (consM (lstM false (consM (getVM T.C_InvalidText "text" (varM 3)) nilM)) nilM)))))
    nextM)
    (seqM (ifS (testM (opM eqD (varM 0) (cM (.int 4))))
    (seqM (asgM (ifM (testM (varM 2)) (mkVM T.C_InvalidMeasure "value" (consM (varM 1) nilM)) (mkVM T.C_InvalidMeasure "value" (consM (varM 1) nilM))) (gnameM 3))
    (retM (tupM (consM (varM 3) (consM (lstM false (consM (getVM T.C_InvalidMeasure "value" (varM 3)) nilM)) nilM)))))
    nextM)
    (seqM (ifS (testM (opM eqD (varM 0) (cM (.int 5))))
    (seqM (asgM (ifM (testM (varM 2)) (mkVM T.C_InvalidMarks "value" (consM (varM 1) nilM)) (mkVM T.C_InvalidMarks "value" (consM (varM 1) nilM))) (gnameM 3))
    (retM (tupM (consM (varM 3) (consM (lstM false (consM (getVM T.C_InvalidMarks "value" (varM 3)) nilM)) nilM)))))
    nextM)
    (seqM (ifS (testM (opM eqD (varM 0) (cM (.int 6))))
    (seqM (asgM (ifM (testM (varM 2)) (mkVM T.C_InvalidMeasures "value" (consM (varM 1) nilM)) (mkVM T.C_InvalidMeasures "value" (consM (varM 1) nilM))) (gnameM 3))
    (retM (tupM (consM (varM 3) (consM (lstM false (consM (getVM T.C_InvalidMeasures "value" (varM 3)) nilM)) nilM)))))
    nextM)
    (seqM (ifS (testM (opM eqD (varM 0) (cM (.int 7))))
    (seqM (asgM (ifM (testM (varM 2)) (mkVM T.C_InvalidNumbers "value" (consM (varM 1) nilM)) (mkVM T.C_InvalidNumbers "value" (consM (varM 1) nilM))) (gnameM 3))
    (retM (tupM (consM (varM 3) (consM (lstM false (consM (getVM T.C_InvalidNumbers "value" (varM 3)) nilM)) nilM)))))
    nextM)
    (seqM (ifS (testM (opM eqD (varM 0) (cM (.int 8))))
    (seqM (asgM (ifM (testM (varM 2)) (mkVM T.C_InvalidPoints "value" (consM (varM 1) nilM)) (mkVM T.C_InvalidPoints "value" (consM (varM 1) nilM))) (gnameM 3))
    (retM (tupM (consM (varM 3) (consM (lstM false (consM (getVM T.C_InvalidPoints "value" (varM 3)) nilM)) nilM)))))
    nextM)
    (seqM (ifS (testM (opM eqD (varM 0) (cM (.int 9))))
    (seqM (asgM (ifM (testM (varM 2)) (mkVM T.C_InvalidShift "value" (consM (varM 1) nilM)) (mkVM T.C_InvalidShift "value" (consM (varM 1) nilM))) (gnameM 3))
    (retM (tupM (consM (varM 3) (consM (lstM false (consM (getVM T.C_InvalidShift "value" (varM 3)) nilM)) nilM)))))
    nextM)
    (seqM (ifS (testM (opM eqD (varM 0) (cM (.int 10))))
    (seqM (asgM (ifM (testM (varM 2)) (mkVM T.C_InvalidFactor "factor" (consM (varM 1) nilM)) (mkVM T.C_InvalidFactor "factor" (consM (varM 1) nilM))) (gnameM 3))
    (retM (tupM (consM (varM 3) (consM (lstM false (consM (getVM T.C_InvalidFactor "factor" (varM 3)) nilM)) nilM)))))
    nextM)
    (retM (tupM (consM (mk0M T.C_NothingToUndo) (consM (lstM false (consM (varM 1) nilM)) nilM)))))))))))))))
theorem ok_l_made0 {P : Program} {w : World} {K : PySem.W.Frag} {mg : Str → Option Value} {base : Heap} (T : Top P K mg) : FnOk P w K mg base (L2.CX P w) 1 T.f_l_made0 T.fd_l_made0 ["_law_place", "_law_thing", "_law_way"] (SpG K T.tabs (m_l_made0 T)) := by
  refine T.F_l_made0.okX sc_l_made0 (fun vs H Q E h => fn_len h) (fun cdv A outer s H vs Q E hr h => ?_)
  have tk : Takes _ (fun cls d _ H => E cls d H) := takes_of (E := E) (X := cxOf (L2.CX P w) P w K mg base ["_law_place", "_law_thing", "_law_way", "_law_e"] "_law_made0" (defScope s_l_made0) T.f_l_made0 cdv A outer s H E) rfl rfl rfl rfl
  refine ⟨_, (pss_cons (ps_if (pt_cmpR (op_eqU (K := K) rfl hr.units) (pv 0) pe_int (nomark _)) (pss_cons (ps_set (i := 3) sc_l_made0.nd rfl (Or.inl rfl) (pe_ifExp (pt_val (pv 2)) (pe_mkV T.E_InvalidKind hr (pa_cons (pv 1) pa_nil) (by rfl)) (pe_mkK T.E_InvalidKind T.B_InvalidKind hr (pk_cons (pv 1) pk_nil) (by rfl))))
      (pss_one (ps_ret (pe_tup (pa_cons (pv 3) (pa_cons (pe_lst (pa_cons (pe_getV T.E_InvalidKind (pv 3)) pa_nil)) pa_nil)))))) pss_nil)
      (pss_cons (ps_if (pt_cmpR (op_eqU (K := K) rfl hr.units) (pv 0) pe_int (nomark _)) (pss_cons (ps_set (i := 3) sc_l_made0.nd rfl (Or.inl rfl) (pe_ifExp (pt_val (pv 2)) (pe_mkV T.E_InvalidName hr (pa_cons (pv 1) pa_nil) (by rfl)) (pe_mkK T.E_InvalidName T.B_InvalidName hr (pk_cons (pv 1) pk_nil) (by rfl))))
      (pss_one (ps_ret (pe_tup (pa_cons (pv 3) (pa_cons (pe_lst (pa_cons (pe_getV T.E_InvalidName (pv 3)) pa_nil)) pa_nil)))))) pss_nil)
      (pss_cons (ps_if (pt_cmpR (op_eqU (K := K) rfl hr.units) (pv 0) pe_int (nomark _)) (pss_cons (ps_set (i := 3) sc_l_made0.nd rfl (Or.inl rfl) (pe_ifExp (pt_val (pv 2)) (pe_mkV T.E_SameMark hr (pa_cons (pv 1) pa_nil) (by rfl)) (pe_mkK T.E_SameMark T.B_SameMark hr (pk_cons (pv 1) pk_nil) (by rfl))))
      (pss_one (ps_ret (pe_tup (pa_cons (pv 3) (pa_cons (pe_lst (pa_cons (pe_getV T.E_SameMark (pv 3)) pa_nil)) pa_nil)))))) pss_nil)
      (pss_cons (ps_if (pt_cmpR (op_eqU (K := K) rfl hr.units) (pv 0) pe_int (nomark _)) (pss_cons (ps_set (i := 3) sc_l_made0.nd rfl (Or.inl rfl) (pe_ifExp (pt_val (pv 2)) (pe_mkV T.E_InvalidText hr (pa_cons (pv 1) pa_nil) (by rfl)) (pe_mkK T.E_InvalidText T.B_InvalidText hr (pk_cons (pv 1) pk_nil) (by rfl))))
      (pss_one (ps_ret (pe_tup (pa_cons (pv 3) (pa_cons (pe_lst (pa_cons (pe_getV T.E_InvalidText (pv 3)) pa_nil)) pa_nil)))))) pss_nil)
      (pss_cons (ps_if (pt_cmpR (op_eqU (K := K) rfl hr.units) (pv 0) pe_int (nomark _)) (pss_cons (ps_set (i := 3) sc_l_made0.nd rfl (Or.inl rfl) (pe_ifExp (pt_val (pv 2)) (pe_mkV T.E_InvalidMeasure hr (pa_cons (pv 1) pa_nil) (by rfl)) (pe_mkK T.E_InvalidMeasure T.B_InvalidMeasure hr (pk_cons (pv 1) pk_nil) (by rfl))))
      (pss_one (ps_ret (pe_tup (pa_cons (pv 3) (pa_cons (pe_lst (pa_cons (pe_getV T.E_InvalidMeasure (pv 3)) pa_nil)) pa_nil)))))) pss_nil)
      (pss_cons (ps_if (pt_cmpR (op_eqU (K := K) rfl hr.units) (pv 0) pe_int (nomark _)) (pss_cons (ps_set (i := 3) sc_l_made0.nd rfl (Or.inl rfl) (pe_ifExp (pt_val (pv 2)) (pe_mkV T.E_InvalidMarks hr (pa_cons (pv 1) pa_nil) (by rfl)) (pe_mkK T.E_InvalidMarks T.B_InvalidMarks hr (pk_cons (pv 1) pk_nil) (by rfl))))
      (pss_one (ps_ret (pe_tup (pa_cons (pv 3) (pa_cons (pe_lst (pa_cons (pe_getV T.E_InvalidMarks (pv 3)) pa_nil)) pa_nil)))))) pss_nil)
      (pss_cons (ps_if (pt_cmpR (op_eqU (K := K) rfl hr.units) (pv 0) pe_int (nomark _)) (pss_cons (ps_set (i := 3) sc_l_made0.nd rfl (Or.inl rfl) (pe_ifExp (pt_val (pv 2)) (pe_mkV T.E_InvalidMeasures hr (pa_cons (pv 1) pa_nil) (by rfl)) (pe_mkK T.E_InvalidMeasures T.B_InvalidMeasures hr (pk_cons (pv 1) pk_nil) (by rfl))))
      (pss_one (ps_ret (pe_tup (pa_cons (pv 3) (pa_cons (pe_lst (pa_cons (pe_getV T.E_InvalidMeasures (pv 3)) pa_nil)) pa_nil)))))) pss_nil)
      (pss_cons (ps_if (pt_cmpR (op_eqU (K := K) rfl hr.units) (pv 0) pe_int (nomark _)) (pss_cons (ps_set (i := 3) sc_l_made0.nd rfl (Or.inl rfl) (pe_ifExp (pt_val (pv 2)) (pe_mkV T.E_InvalidNumbers hr (pa_cons (pv 1) pa_nil) (by rfl)) (pe_mkK T.E_InvalidNumbers T.B_InvalidNumbers hr (pk_cons (pv 1) pk_nil) (by rfl))))
      (pss_one (ps_ret (pe_tup (pa_cons (pv 3) (pa_cons (pe_lst (pa_cons (pe_getV T.E_InvalidNumbers (pv 3)) pa_nil)) pa_nil)))))) pss_nil)
      (pss_cons (ps_if (pt_cmpR (op_eqU (K := K) rfl hr.units) (pv 0) pe_int (nomark _)) (pss_cons (ps_set (i := 3) sc_l_made0.nd rfl (Or.inl rfl) (pe_ifExp (pt_val (pv 2)) (pe_mkV T.E_InvalidPoints hr (pa_cons (pv 1) pa_nil) (by rfl)) (pe_mkK T.E_InvalidPoints T.B_InvalidPoints hr (pk_cons (pv 1) pk_nil) (by rfl))))
      (pss_one (ps_ret (pe_tup (pa_cons (pv 3) (pa_cons (pe_lst (pa_cons (pe_getV T.E_InvalidPoints (pv 3)) pa_nil)) pa_nil)))))) pss_nil)
      (pss_cons (ps_if (pt_cmpR (op_eqU (K := K) rfl hr.units) (pv 0) pe_int (nomark _)) (pss_cons (ps_set (i := 3) sc_l_made0.nd rfl (Or.inl rfl) (pe_ifExp (pt_val (pv 2)) (pe_mkV T.E_InvalidShift hr (pa_cons (pv 1) pa_nil) (by rfl)) (pe_mkK T.E_InvalidShift T.B_InvalidShift hr (pk_cons (pv 1) pk_nil) (by rfl))))
      (pss_one (ps_ret (pe_tup (pa_cons (pv 3) (pa_cons (pe_lst (pa_cons (pe_getV T.E_InvalidShift (pv 3)) pa_nil)) pa_nil)))))) pss_nil)
      (pss_cons (ps_if (pt_cmpR (op_eqU (K := K) rfl hr.units) (pv 0) pe_int (nomark _)) (pss_cons (ps_set (i := 3) sc_l_made0.nd rfl (Or.inl rfl) (pe_ifExp (pt_val (pv 2)) (pe_mkV T.E_InvalidFactor hr (pa_cons (pv 1) pa_nil) (by rfl)) (pe_mkK T.E_InvalidFactor T.B_InvalidFactor hr (pk_cons (pv 1) pk_nil) (by rfl))))
      (pss_one (ps_ret (pe_tup (pa_cons (pv 3) (pa_cons (pe_lst (pa_cons (pe_getV T.E_InvalidFactor (pv 3)) pa_nil)) pa_nil)))))) pss_nil)
      (pss_one (ps_ret (pe_tup (pa_cons (pe_mk0 T.E_NothingToUndo hr (by rfl)) (pa_cons (pe_lst (pa_cons (pv 1) pa_nil)) pa_nil)))))))))))))))), fn_ok ?_ h⟩
  clear tk
  repeat walk_at "s"
end K04
set_option Elab.async false
set_option linter.all false
set_option maxRecDepth 100000
set_option maxHeartbeats 3900000
namespace K04
open PySem PySem.Spec PyProof.Rows L2 G M
set_option synthInstance.maxHeartbeats 0
set_option synthInstance.maxSize 1000000
local macro_rules | `(tactic| walk_at "s") => `(tactic| exact Ok.ok)
def m_l_made1 {P : Program} {K : PySem.W.Frag} {mg : Str → Option Value} (T : Top P K mg) : Fn := fnD 3 4 (seqM (ifS (testM (opM eqD (varM 0) (cM (.int 11))))
    (seqM (asgM (ifM (testM (varM 2)) (mkVM T.C_InvalidDrift "drift" (consM (varM 1) nilM)) (mkVM T.C_InvalidDrift "drift" (consM (varM 1) nilM))) (gnameM 3))
    (retM (tupM (consM (varM 3) (consM (lstM false (consM (getVM T.C_InvalidDrift "drift" (varM 3)) nilM)) nilM)))))
    nextM)
    (seqM (ifS (testM (opM eqD (varM 0) (cM (.int 12))))
    (seqM (asgM (ifM (testM (varM 2)) (mkVM T.C_InvalidReadings "value" (consM (varM 1) nilM)) (mkVM T.C_InvalidReadings "value" (consM (varM 1) nilM))) (gnameM 3))
    (retM (tupM (consM (varM 3) (consM (lstM false (consM (getVM T.C_InvalidReadings "value" (varM 3)) nilM)) nilM)))))
    nextM)
    (seqM (ifS (testM (opM eqD (varM 0) (cM (.int 13))))
    (seqM (asgM (ifM (testM (varM 2)) (mkVM T.C_InvalidChanges "changes" (consM (varM 1) nilM)) (mkVM T.C_InvalidChanges "changes" (consM (varM 1) nilM))) (gnameM 3))
    (retM (tupM (consM (varM 3) (consM (lstM false (consM (getVM T.C_InvalidChanges "changes" (varM 3)) nilM)) nilM)))))
    nextM)
    (seqM (ifS (testM (opM eqD (varM 0) (cM (.int 14))))
    (seqM (asgM (ifM (testM (varM 2)) (mkVM T.C_InvalidPrices "prices" (consM (varM 1) nilM)) (mkVM T.C_InvalidPrices "prices" (consM (varM 1) nilM))) (gnameM 3))
    (retM (tupM (consM (varM 3) (consM (lstM false (consM (getVM T.C_InvalidPrices "prices" (varM 3)) nilM)) nilM)))))
    nextM)
    (seqM (ifS (testM (opM eqD (varM 0) (cM (.int 15))))
    (seqM (asgM (ifM (testM (varM 2)) (mkVM T.C_InvalidKnown "known" (consM (varM 1) nilM)) (mkVM T.C_InvalidKnown "known" (consM (varM 1) nilM))) (gnameM 3))
    (retM (tupM (consM (varM 3) (consM (lstM false (consM (getVM T.C_InvalidKnown "known" (varM 3)) nilM)) nilM)))))
    nextM)
    (seqM (ifS (testM (opM eqD (varM 0) (cM (.int 16))))
    (seqM (asgM (ifM (testM (varM 2)) (mkVM T.C_InvalidWays "ways" (consM (varM 1) nilM)) (mkVM T.C_InvalidWays "ways" (consM (varM 1) nilM))) (gnameM 3))
    (retM (tupM (consM (varM 3) (consM (lstM false (consM (getVM T.C_InvalidWays "ways" (varM 3)) nilM)) nilM)))))
    nextM)
    (seqM (ifS (testM (opM eqD (varM 0) (cM (.int 17))))
    (seqM (asgM (ifM (testM (varM 2)) (mkVM T.C_InvalidLine "line" (consM (varM 1) nilM)) (mkVM T.C_InvalidLine "line" (consM (varM 1) nilM))) (gnameM 3))
    (retM (tupM (consM (varM 3) (consM (lstM false (consM (getVM T.C_InvalidLine "line" (varM 3)) nilM)) nilM)))))
    nextM)
    (seqM (ifS (testM (opM eqD (varM 0) (cM (.int 18))))
    (seqM (asgM (ifM (testM (varM 2)) (mkVM T.C_OutOfRange "value" (consM (varM 1) nilM)) (mkVM T.C_OutOfRange "value" (consM (varM 1) nilM))) (gnameM 3))
    (retM (tupM (consM (varM 3) (consM (lstM false (consM (getVM T.C_OutOfRange "value" (varM 3)) nilM)) nilM)))))
    nextM)
    (seqM (ifS (testM (opM eqD (varM 0) (cM (.int 19))))
    (seqM (asgM (ifM (testM (varM 2)) (mkVM T.C_DuplicateMark "name" (consM (varM 1) nilM)) (mkVM T.C_DuplicateMark "name" (consM (varM 1) nilM))) (gnameM 3))
    (retM (tupM (consM (varM 3) (consM (lstM false (consM (getVM T.C_DuplicateMark "name" (varM 3)) nilM)) nilM)))))
    nextM)
    (seqM (ifS (testM (opM eqD (varM 0) (cM (.int 20))))
    (seqM (asgM (ifM (testM (varM 2)) (mkVM T.C_UnknownMark "name" (consM (varM 1) nilM)) (mkVM T.C_UnknownMark "name" (consM (varM 1) nilM))) (gnameM 3))
    (retM (tupM (consM (varM 3) (consM (lstM false (consM (getVM T.C_UnknownMark "name" (varM 3)) nilM)) nilM)))))
    nextM)
    (seqM (ifS (testM (opM eqD (varM 0) (cM (.int 21))))
    (seqM (asgM (ifM (testM (varM 2)) (mkVM T.C_UnknownNumber "number" (consM (varM 1) nilM)) (mkVM T.C_UnknownNumber "number" (consM (varM 1) nilM))) (gnameM 3))
    (retM (tupM (consM (varM 3) (consM (lstM false (consM (getVM T.C_UnknownNumber "number" (varM 3)) nilM)) nilM)))))
    nextM)
    (retM (tupM (consM (mk0M T.C_NothingToUndo) (consM (lstM false (consM (varM 1) nilM)) nilM)))))))))))))))
theorem ok_l_made1 {P : Program} {w : World} {K : PySem.W.Frag} {mg : Str → Option Value} {base : Heap} (T : Top P K mg) : FnOk P w K mg base (L2.CX P w) 1 T.f_l_made1 T.fd_l_made1 ["_law_place", "_law_thing", "_law_way"] (SpG K T.tabs (m_l_made1 T)) := by
  refine T.F_l_made1.okX sc_l_made1 (fun vs H Q E h => fn_len h) (fun cdv A outer s H vs Q E hr h => ?_)
  have tk : Takes _ (fun cls d _ H => E cls d H) := takes_of (E := E) (X := cxOf (L2.CX P w) P w K mg base ["_law_place", "_law_thing", "_law_way", "_law_e"] "_law_made1" (defScope s_l_made1) T.f_l_made1 cdv A outer s H E) rfl rfl rfl rfl
  refine ⟨_, (pss_cons (ps_if (pt_cmpR (op_eqU (K := K) rfl hr.units) (pv 0) pe_int (nomark _)) (pss_cons (ps_set (i := 3) sc_l_made1.nd rfl (Or.inl rfl) (pe_ifExp (pt_val (pv 2)) (pe_mkV T.E_InvalidDrift hr (pa_cons (pv 1) pa_nil) (by rfl)) (pe_mkK T.E_InvalidDrift T.B_InvalidDrift hr (pk_cons (pv 1) pk_nil) (by rfl))))
      (pss_one (ps_ret (pe_tup (pa_cons (pv 3) (pa_cons (pe_lst (pa_cons (pe_getV T.E_InvalidDrift (pv 3)) pa_nil)) pa_nil)))))) pss_nil)
      (pss_cons (ps_if (pt_cmpR (op_eqU (K := K) rfl hr.units) (pv 0) pe_int (nomark _)) (pss_cons (ps_set (i := 3) sc_l_made1.nd rfl (Or.inl rfl) (pe_ifExp (pt_val (pv 2)) (pe_mkV T.E_InvalidReadings hr (pa_cons (pv 1) pa_nil) (by rfl)) (pe_mkK T.E_InvalidReadings T.B_InvalidReadings hr (pk_cons (pv 1) pk_nil) (by rfl))))
      (pss_one (ps_ret (pe_tup (pa_cons (pv 3) (pa_cons (pe_lst (pa_cons (pe_getV T.E_InvalidReadings (pv 3)) pa_nil)) pa_nil)))))) pss_nil)
      (pss_cons (ps_if (pt_cmpR (op_eqU (K := K) rfl hr.units) (pv 0) pe_int (nomark _)) (pss_cons (ps_set (i := 3) sc_l_made1.nd rfl (Or.inl rfl) (pe_ifExp (pt_val (pv 2)) (pe_mkV T.E_InvalidChanges hr (pa_cons (pv 1) pa_nil) (by rfl)) (pe_mkK T.E_InvalidChanges T.B_InvalidChanges hr (pk_cons (pv 1) pk_nil) (by rfl))))
      (pss_one (ps_ret (pe_tup (pa_cons (pv 3) (pa_cons (pe_lst (pa_cons (pe_getV T.E_InvalidChanges (pv 3)) pa_nil)) pa_nil)))))) pss_nil)
      (pss_cons (ps_if (pt_cmpR (op_eqU (K := K) rfl hr.units) (pv 0) pe_int (nomark _)) (pss_cons (ps_set (i := 3) sc_l_made1.nd rfl (Or.inl rfl) (pe_ifExp (pt_val (pv 2)) (pe_mkV T.E_InvalidPrices hr (pa_cons (pv 1) pa_nil) (by rfl)) (pe_mkK T.E_InvalidPrices T.B_InvalidPrices hr (pk_cons (pv 1) pk_nil) (by rfl))))
      (pss_one (ps_ret (pe_tup (pa_cons (pv 3) (pa_cons (pe_lst (pa_cons (pe_getV T.E_InvalidPrices (pv 3)) pa_nil)) pa_nil)))))) pss_nil)
      (pss_cons (ps_if (pt_cmpR (op_eqU (K := K) rfl hr.units) (pv 0) pe_int (nomark _)) (pss_cons (ps_set (i := 3) sc_l_made1.nd rfl (Or.inl rfl) (pe_ifExp (pt_val (pv 2)) (pe_mkV T.E_InvalidKnown hr (pa_cons (pv 1) pa_nil) (by rfl)) (pe_mkK T.E_InvalidKnown T.B_InvalidKnown hr (pk_cons (pv 1) pk_nil) (by rfl))))
      (pss_one (ps_ret (pe_tup (pa_cons (pv 3) (pa_cons (pe_lst (pa_cons (pe_getV T.E_InvalidKnown (pv 3)) pa_nil)) pa_nil)))))) pss_nil)
      (pss_cons (ps_if (pt_cmpR (op_eqU (K := K) rfl hr.units) (pv 0) pe_int (nomark _)) (pss_cons (ps_set (i := 3) sc_l_made1.nd rfl (Or.inl rfl) (pe_ifExp (pt_val (pv 2)) (pe_mkV T.E_InvalidWays hr (pa_cons (pv 1) pa_nil) (by rfl)) (pe_mkK T.E_InvalidWays T.B_InvalidWays hr (pk_cons (pv 1) pk_nil) (by rfl))))
      (pss_one (ps_ret (pe_tup (pa_cons (pv 3) (pa_cons (pe_lst (pa_cons (pe_getV T.E_InvalidWays (pv 3)) pa_nil)) pa_nil)))))) pss_nil)
      (pss_cons (ps_if (pt_cmpR (op_eqU (K := K) rfl hr.units) (pv 0) pe_int (nomark _)) (pss_cons (ps_set (i := 3) sc_l_made1.nd rfl (Or.inl rfl) (pe_ifExp (pt_val (pv 2)) (pe_mkV T.E_InvalidLine hr (pa_cons (pv 1) pa_nil) (by rfl)) (pe_mkK T.E_InvalidLine T.B_InvalidLine hr (pk_cons (pv 1) pk_nil) (by rfl))))
      (pss_one (ps_ret (pe_tup (pa_cons (pv 3) (pa_cons (pe_lst (pa_cons (pe_getV T.E_InvalidLine (pv 3)) pa_nil)) pa_nil)))))) pss_nil)
      (pss_cons (ps_if (pt_cmpR (op_eqU (K := K) rfl hr.units) (pv 0) pe_int (nomark _)) (pss_cons (ps_set (i := 3) sc_l_made1.nd rfl (Or.inl rfl) (pe_ifExp (pt_val (pv 2)) (pe_mkV T.E_OutOfRange hr (pa_cons (pv 1) pa_nil) (by rfl)) (pe_mkK T.E_OutOfRange T.B_OutOfRange hr (pk_cons (pv 1) pk_nil) (by rfl))))
      (pss_one (ps_ret (pe_tup (pa_cons (pv 3) (pa_cons (pe_lst (pa_cons (pe_getV T.E_OutOfRange (pv 3)) pa_nil)) pa_nil)))))) pss_nil)
      (pss_cons (ps_if (pt_cmpR (op_eqU (K := K) rfl hr.units) (pv 0) pe_int (nomark _)) (pss_cons (ps_set (i := 3) sc_l_made1.nd rfl (Or.inl rfl) (pe_ifExp (pt_val (pv 2)) (pe_mkV T.E_DuplicateMark hr (pa_cons (pv 1) pa_nil) (by rfl)) (pe_mkK T.E_DuplicateMark T.B_DuplicateMark hr (pk_cons (pv 1) pk_nil) (by rfl))))
      (pss_one (ps_ret (pe_tup (pa_cons (pv 3) (pa_cons (pe_lst (pa_cons (pe_getV T.E_DuplicateMark (pv 3)) pa_nil)) pa_nil)))))) pss_nil)
      (pss_cons (ps_if (pt_cmpR (op_eqU (K := K) rfl hr.units) (pv 0) pe_int (nomark _)) (pss_cons (ps_set (i := 3) sc_l_made1.nd rfl (Or.inl rfl) (pe_ifExp (pt_val (pv 2)) (pe_mkV T.E_UnknownMark hr (pa_cons (pv 1) pa_nil) (by rfl)) (pe_mkK T.E_UnknownMark T.B_UnknownMark hr (pk_cons (pv 1) pk_nil) (by rfl))))
      (pss_one (ps_ret (pe_tup (pa_cons (pv 3) (pa_cons (pe_lst (pa_cons (pe_getV T.E_UnknownMark (pv 3)) pa_nil)) pa_nil)))))) pss_nil)
      (pss_cons (ps_if (pt_cmpR (op_eqU (K := K) rfl hr.units) (pv 0) pe_int (nomark _)) (pss_cons (ps_set (i := 3) sc_l_made1.nd rfl (Or.inl rfl) (pe_ifExp (pt_val (pv 2)) (pe_mkV T.E_UnknownNumber hr (pa_cons (pv 1) pa_nil) (by rfl)) (pe_mkK T.E_UnknownNumber T.B_UnknownNumber hr (pk_cons (pv 1) pk_nil) (by rfl))))
      (pss_one (ps_ret (pe_tup (pa_cons (pv 3) (pa_cons (pe_lst (pa_cons (pe_getV T.E_UnknownNumber (pv 3)) pa_nil)) pa_nil)))))) pss_nil)
      (pss_one (ps_ret (pe_tup (pa_cons (pe_mk0 T.E_NothingToUndo hr (by rfl)) (pa_cons (pe_lst (pa_cons (pv 1) pa_nil)) pa_nil)))))))))))))))), fn_ok ?_ h⟩
  clear tk
  repeat walk_at "s"
end K04
set_option Elab.async false
set_option linter.all false
set_option maxRecDepth 100000
set_option maxHeartbeats 3900000
namespace K04
open PySem PySem.Spec PyProof.Rows L2 G M
set_option synthInstance.maxHeartbeats 0
set_option synthInstance.maxSize 1000000
local macro_rules | `(tactic| walk_at "s") => `(tactic| exact Ok.ok)
def m_l_made2 {P : Program} {K : PySem.W.Frag} {mg : Str → Option Value} (T : Top P K mg) : Fn := fnD 3 4 (seqM (ifS (testM (opM eqD (varM 0) (cM (.int 22))))
    (seqM (asgM (ifM (testM (varM 2)) (mkVM T.C_TooMany "count" (consM (varM 1) nilM)) (mkVM T.C_TooMany "count" (consM (varM 1) nilM))) (gnameM 3))
    (retM (tupM (consM (varM 3) (consM (lstM false (consM (getVM T.C_TooMany "count" (varM 3)) nilM)) nilM)))))
    nextM)
    (seqM (ifS (testM (opM eqD (varM 0) (cM (.int 23))))
    (seqM (asgM (ifM (testM (varM 2)) (mkVM T.C_NotNet "value" (consM (varM 1) nilM)) (mkVM T.C_NotNet "value" (consM (varM 1) nilM))) (gnameM 3))
    (retM (tupM (consM (varM 3) (consM (lstM false (consM (getVM T.C_NotNet "value" (varM 3)) nilM)) nilM)))))
    nextM)
    (seqM (ifS (testM (opM eqD (varM 0) (cM (.int 24))))
    (seqM (asgM (ifM (testM (varM 2)) (mkVM T.C_NotPlacing "value" (consM (varM 1) nilM)) (mkVM T.C_NotPlacing "value" (consM (varM 1) nilM))) (gnameM 3))
    (retM (tupM (consM (varM 3) (consM (lstM false (consM (getVM T.C_NotPlacing "value" (varM 3)) nilM)) nilM)))))
    nextM)
    (seqM (ifS (testM (opM eqD (varM 0) (cM (.int 25))))
    (seqM (asgM (ifM (testM (varM 2)) (mkVM T.C_NotWatched "number" (consM (varM 1) nilM)) (mkVM T.C_NotWatched "number" (consM (varM 1) nilM))) (gnameM 3))
    (retM (tupM (consM (varM 3) (consM (lstM false (consM (getVM T.C_NotWatched "number" (varM 3)) nilM)) nilM)))))
    nextM)
    (seqM (ifS (testM (opM eqD (varM 0) (cM (.int 26))))
    (seqM (asgM (ifM (testM (varM 2)) (mkVM T.C_NotEnough "count" (consM (varM 1) nilM)) (mkVM T.C_NotEnough "count" (consM (varM 1) nilM))) (gnameM 3))
    (retM (tupM (consM (varM 3) (consM (lstM false (consM (getVM T.C_NotEnough "count" (varM 3)) nilM)) nilM)))))
    nextM)
    (seqM (ifS (testM (opM eqD (varM 0) (cM (.int 27))))
    (seqM (asgM (ifM (testM (varM 2)) (mkVM T.C_NotApart "value" (consM (varM 1) nilM)) (mkVM T.C_NotApart "value" (consM (varM 1) nilM))) (gnameM 3))
    (retM (tupM (consM (varM 3) (consM (lstM false (consM (getVM T.C_NotApart "value" (varM 3)) nilM)) nilM)))))
    nextM)
    (seqM (ifS (testM (opM eqD (varM 0) (cM (.int 28))))
    (seqM (asgM (ifM (testM (varM 2)) (mkVM T.C_NoReading "number" (consM (varM 1) nilM)) (mkVM T.C_NoReading "number" (consM (varM 1) nilM))) (gnameM 3))
    (retM (tupM (consM (varM 3) (consM (lstM false (consM (getVM T.C_NoReading "number" (varM 3)) nilM)) nilM)))))
    nextM)
    (retM (tupM (consM (mk0M T.C_NothingToUndo) (consM (lstM false (consM (varM 1) nilM)) nilM)))))))))))
theorem ok_l_made2 {P : Program} {w : World} {K : PySem.W.Frag} {mg : Str → Option Value} {base : Heap} (T : Top P K mg) : FnOk P w K mg base (L2.CX P w) 1 T.f_l_made2 T.fd_l_made2 ["_law_place", "_law_thing", "_law_way"] (SpG K T.tabs (m_l_made2 T)) := by
  refine T.F_l_made2.okX sc_l_made2 (fun vs H Q E h => fn_len h) (fun cdv A outer s H vs Q E hr h => ?_)
  have tk : Takes _ (fun cls d _ H => E cls d H) := takes_of (E := E) (X := cxOf (L2.CX P w) P w K mg base ["_law_place", "_law_thing", "_law_way", "_law_e"] "_law_made2" (defScope s_l_made2) T.f_l_made2 cdv A outer s H E) rfl rfl rfl rfl
  refine ⟨_, (pss_cons (ps_if (pt_cmpR (op_eqU (K := K) rfl hr.units) (pv 0) pe_int (nomark _)) (pss_cons (ps_set (i := 3) sc_l_made2.nd rfl (Or.inl rfl) (pe_ifExp (pt_val (pv 2)) (pe_mkV T.E_TooMany hr (pa_cons (pv 1) pa_nil) (by rfl)) (pe_mkK T.E_TooMany T.B_TooMany hr (pk_cons (pv 1) pk_nil) (by rfl))))
      (pss_one (ps_ret (pe_tup (pa_cons (pv 3) (pa_cons (pe_lst (pa_cons (pe_getV T.E_TooMany (pv 3)) pa_nil)) pa_nil)))))) pss_nil)
      (pss_cons (ps_if (pt_cmpR (op_eqU (K := K) rfl hr.units) (pv 0) pe_int (nomark _)) (pss_cons (ps_set (i := 3) sc_l_made2.nd rfl (Or.inl rfl) (pe_ifExp (pt_val (pv 2)) (pe_mkV T.E_NotNet hr (pa_cons (pv 1) pa_nil) (by rfl)) (pe_mkK T.E_NotNet T.B_NotNet hr (pk_cons (pv 1) pk_nil) (by rfl))))
      (pss_one (ps_ret (pe_tup (pa_cons (pv 3) (pa_cons (pe_lst (pa_cons (pe_getV T.E_NotNet (pv 3)) pa_nil)) pa_nil)))))) pss_nil)
      (pss_cons (ps_if (pt_cmpR (op_eqU (K := K) rfl hr.units) (pv 0) pe_int (nomark _)) (pss_cons (ps_set (i := 3) sc_l_made2.nd rfl (Or.inl rfl) (pe_ifExp (pt_val (pv 2)) (pe_mkV T.E_NotPlacing hr (pa_cons (pv 1) pa_nil) (by rfl)) (pe_mkK T.E_NotPlacing T.B_NotPlacing hr (pk_cons (pv 1) pk_nil) (by rfl))))
      (pss_one (ps_ret (pe_tup (pa_cons (pv 3) (pa_cons (pe_lst (pa_cons (pe_getV T.E_NotPlacing (pv 3)) pa_nil)) pa_nil)))))) pss_nil)
      (pss_cons (ps_if (pt_cmpR (op_eqU (K := K) rfl hr.units) (pv 0) pe_int (nomark _)) (pss_cons (ps_set (i := 3) sc_l_made2.nd rfl (Or.inl rfl) (pe_ifExp (pt_val (pv 2)) (pe_mkV T.E_NotWatched hr (pa_cons (pv 1) pa_nil) (by rfl)) (pe_mkK T.E_NotWatched T.B_NotWatched hr (pk_cons (pv 1) pk_nil) (by rfl))))
      (pss_one (ps_ret (pe_tup (pa_cons (pv 3) (pa_cons (pe_lst (pa_cons (pe_getV T.E_NotWatched (pv 3)) pa_nil)) pa_nil)))))) pss_nil)
      (pss_cons (ps_if (pt_cmpR (op_eqU (K := K) rfl hr.units) (pv 0) pe_int (nomark _)) (pss_cons (ps_set (i := 3) sc_l_made2.nd rfl (Or.inl rfl) (pe_ifExp (pt_val (pv 2)) (pe_mkV T.E_NotEnough hr (pa_cons (pv 1) pa_nil) (by rfl)) (pe_mkK T.E_NotEnough T.B_NotEnough hr (pk_cons (pv 1) pk_nil) (by rfl))))
      (pss_one (ps_ret (pe_tup (pa_cons (pv 3) (pa_cons (pe_lst (pa_cons (pe_getV T.E_NotEnough (pv 3)) pa_nil)) pa_nil)))))) pss_nil)
      (pss_cons (ps_if (pt_cmpR (op_eqU (K := K) rfl hr.units) (pv 0) pe_int (nomark _)) (pss_cons (ps_set (i := 3) sc_l_made2.nd rfl (Or.inl rfl) (pe_ifExp (pt_val (pv 2)) (pe_mkV T.E_NotApart hr (pa_cons (pv 1) pa_nil) (by rfl)) (pe_mkK T.E_NotApart T.B_NotApart hr (pk_cons (pv 1) pk_nil) (by rfl))))
      (pss_one (ps_ret (pe_tup (pa_cons (pv 3) (pa_cons (pe_lst (pa_cons (pe_getV T.E_NotApart (pv 3)) pa_nil)) pa_nil)))))) pss_nil)
      (pss_cons (ps_if (pt_cmpR (op_eqU (K := K) rfl hr.units) (pv 0) pe_int (nomark _)) (pss_cons (ps_set (i := 3) sc_l_made2.nd rfl (Or.inl rfl) (pe_ifExp (pt_val (pv 2)) (pe_mkV T.E_NoReading hr (pa_cons (pv 1) pa_nil) (by rfl)) (pe_mkK T.E_NoReading T.B_NoReading hr (pk_cons (pv 1) pk_nil) (by rfl))))
      (pss_one (ps_ret (pe_tup (pa_cons (pv 3) (pa_cons (pe_lst (pa_cons (pe_getV T.E_NoReading (pv 3)) pa_nil)) pa_nil)))))) pss_nil)
      (pss_one (ps_ret (pe_tup (pa_cons (pe_mk0 T.E_NothingToUndo hr (by rfl)) (pa_cons (pe_lst (pa_cons (pv 1) pa_nil)) pa_nil)))))))))))), fn_ok ?_ h⟩
  clear tk
  repeat walk_at "s"
end K04
set_option Elab.async false
set_option linter.all false
set_option maxRecDepth 100000
set_option maxHeartbeats 3900000
namespace K04
open PySem PySem.Spec PyProof.Rows L2 G M
set_option synthInstance.maxHeartbeats 0
set_option synthInstance.maxSize 1000000
local macro_rules | `(tactic| walk_at "s") => `(tactic| exact Ok.ok)
def m_l_kinds {P : Program} {K : PySem.W.Frag} {mg : Str → Option Value} (T : Top P K mg) : Fn := fnD 1 4 (seqM (asgM (lstM false (consM (cbM (orC (isiD K) (isVD K)) (consM (varM 0) (consM (cM (.adr T.C_InvalidKind)) nilM))) (consM (cbM (orC (isiD K) (isVD K)) (consM (varM 0) (consM (cM (.adr T.C_InvalidName)) nilM))) (consM (cbM (orC (isiD K) (isVD K)) (consM (varM 0) (consM (cM (.adr T.C_SameMark)) nilM))) nilM)))) (gnameM 1))
    (seqM (asgM (opM (addD false) (varM 1) (lstM false (consM (cbM (orC (isiD K) (isVD K)) (consM (varM 0) (consM (cM (.adr T.C_InvalidText)) nilM))) (consM (cbM (orC (isiD K) (isVD K)) (consM (varM 0) (consM (cM (.adr T.C_InvalidMeasure)) nilM))) (consM (cbM (orC (isiD K) (isVD K)) (consM (varM 0) (consM (cM (.adr T.C_InvalidMarks)) nilM))) nilM))))) (gnameM 1))
    (seqM (asgM (opM (addD false) (varM 1) (lstM false (consM (cbM (orC (isiD K) (isVD K)) (consM (varM 0) (consM (cM (.adr T.C_InvalidMeasures)) nilM))) (consM (cbM (orC (isiD K) (isVD K)) (consM (varM 0) (consM (cM (.adr T.C_InvalidNumbers)) nilM))) nilM)))) (gnameM 1))
    (seqM (asgM (opM (addD false) (varM 1) (lstM false (consM (cbM (orC (isiD K) (isVD K)) (consM (varM 0) (consM (cM (.adr T.C_InvalidPoints)) nilM))) (consM (cbM (orC (isiD K) (isVD K)) (consM (varM 0) (consM (cM (.adr T.C_InvalidShift)) nilM))) (consM (cbM (orC (isiD K) (isVD K)) (consM (varM 0) (consM (cM (.adr T.C_InvalidFactor)) nilM))) nilM))))) (gnameM 1))
    (seqM (asgM (opM (addD false) (varM 1) (lstM false (consM (cbM (orC (isiD K) (isVD K)) (consM (varM 0) (consM (cM (.adr T.C_InvalidDrift)) nilM))) (consM (cbM (orC (isiD K) (isVD K)) (consM (varM 0) (consM (cM (.adr T.C_InvalidReadings)) nilM))) (consM (cbM (orC (isiD K) (isVD K)) (consM (varM 0) (consM (cM (.adr T.C_InvalidChanges)) nilM))) nilM))))) (gnameM 1))
    (seqM (asgM (opM (addD false) (varM 1) (lstM false (consM (cbM (orC (isiD K) (isVD K)) (consM (varM 0) (consM (cM (.adr T.C_InvalidPrices)) nilM))) (consM (cbM (orC (isiD K) (isVD K)) (consM (varM 0) (consM (cM (.adr T.C_InvalidKnown)) nilM))) (consM (cbM (orC (isiD K) (isVD K)) (consM (varM 0) (consM (cM (.adr T.C_InvalidWays)) nilM))) nilM))))) (gnameM 1))
    (seqM (asgM (opM (addD false) (varM 1) (lstM false (consM (cbM (orC (isiD K) (isVD K)) (consM (varM 0) (consM (cM (.adr T.C_InvalidLine)) nilM))) (consM (cbM (orC (isiD K) (isVD K)) (consM (varM 0) (consM (cM (.adr T.C_OutOfRange)) nilM))) (consM (cbM (orC (isiD K) (isVD K)) (consM (varM 0) (consM (cM (.adr T.C_DuplicateMark)) nilM))) nilM))))) (gnameM 1))
    (seqM (asgM (opM (addD false) (varM 1) (lstM false (consM (cbM (orC (isiD K) (isVD K)) (consM (varM 0) (consM (cM (.adr T.C_UnknownMark)) nilM))) (consM (cbM (orC (isiD K) (isVD K)) (consM (varM 0) (consM (cM (.adr T.C_UnknownNumber)) nilM))) (consM (cbM (orC (isiD K) (isVD K)) (consM (varM 0) (consM (cM (.adr T.C_TooMany)) nilM))) nilM))))) (gnameM 1))
    (seqM (asgM (opM (addD false) (varM 1) (lstM false (consM (cbM (orC (isiD K) (isVD K)) (consM (varM 0) (consM (cM (.adr T.C_NotNet)) nilM))) (consM (cbM (orC (isiD K) (isVD K)) (consM (varM 0) (consM (cM (.adr T.C_NotPlacing)) nilM))) (consM (cbM (orC (isiD K) (isVD K)) (consM (varM 0) (consM (cM (.adr T.C_NotWatched)) nilM))) nilM))))) (gnameM 1))
    (seqM (asgM (opM (addD false) (varM 1) (lstM false (consM (cbM (orC (isiD K) (isVD K)) (consM (varM 0) (consM (cM (.adr T.C_NotEnough)) nilM))) (consM (cbM (orC (isiD K) (isVD K)) (consM (varM 0) (consM (cM (.adr T.C_NotApart)) nilM))) nilM)))) (gnameM 1))
    (seqM (asgM (opM (addD false) (varM 1) (lstM false (consM (cbM (orC (isiD K) (isVD K)) (consM (varM 0) (consM (cM (.adr T.C_NoReading)) nilM))) (consM (cbM (orC (isiD K) (isVD K)) (consM (varM 0) (consM (cM (.adr T.C_NothingToUndo)) nilM))) nilM)))) (gnameM 1))
    (retM (lcM false (enumM (consM (varM 1) nilM)) (gtupM (gconsM 2 (gconsM 3 gnilM))) (testM (varM 3)) (varM 2) [2, 3])))))))))))))
theorem ok_l_kinds {P : Program} {w : World} {K : PySem.W.Frag} {mg : Str → Option Value} {base : Heap} (T : Top P K mg) : FnOk P w K mg base (L2.CX P w) 1 T.f_l_kinds T.fd_l_kinds ["_law_e"] (SpG K T.tabs (m_l_kinds T)) := by
  refine T.F_l_kinds.okX sc_l_kinds (fun vs H Q E h => fn_len h) (fun cdv A outer s H vs Q E hr h => ?_)
  have tk : Takes _ (fun cls d _ H => E cls d H) := takes_of (E := E) (X := cxOf (L2.CX P w) P w K mg base ["_law_e", "_law_kinds_here", "_law_place", "_law_one"] "_law_kinds" (defScope s_l_kinds) T.f_l_kinds cdv A outer s H E) rfl rfl rfl rfl
  refine ⟨_, (pss_cons (ps_set (i := 1) sc_l_kinds.nd rfl (Or.inl rfl) (pe_lst (pa_cons (pe_callB ((call_isiV (K := K) rfl).or (call_isEV (K := K) rfl)) (by rfl) T.m_isinstance (by decide +kernel) (pa_cons (pv 0) (pa_cons (pe_glob (v := .ref T.C_InvalidKind) (by rfl) T.g_InvalidKind rfl) pa_nil))) (pa_cons (pe_callB ((call_isiV (K := K) rfl).or (call_isEV (K := K) rfl)) (by rfl) T.m_isinstance (by decide +kernel) (pa_cons (pv 0) (pa_cons (pe_glob (v := .ref T.C_InvalidName) (by rfl) T.g_InvalidName rfl) pa_nil))) (pa_cons (pe_callB ((call_isiV (K := K) rfl).or (call_isEV (K := K) rfl)) (by rfl) T.m_isinstance (by decide +kernel) (pa_cons (pv 0) (pa_cons (pe_glob (v := .ref T.C_SameMark) (by rfl) T.g_SameMark rfl) pa_nil))) pa_nil)))))
      (pss_cons (ps_set (i := 1) sc_l_kinds.nd rfl (Or.inl rfl) (pe_op op_addU (pv 1) (pe_lst (pa_cons (pe_callB ((call_isiV (K := K) rfl).or (call_isEV (K := K) rfl)) (by rfl) T.m_isinstance (by decide +kernel) (pa_cons (pv 0) (pa_cons (pe_glob (v := .ref T.C_InvalidText) (by rfl) T.g_InvalidText rfl) pa_nil))) (pa_cons (pe_callB ((call_isiV (K := K) rfl).or (call_isEV (K := K) rfl)) (by rfl) T.m_isinstance (by decide +kernel) (pa_cons (pv 0) (pa_cons (pe_glob (v := .ref T.C_InvalidMeasure) (by rfl) T.g_InvalidMeasure rfl) pa_nil))) (pa_cons (pe_callB ((call_isiV (K := K) rfl).or (call_isEV (K := K) rfl)) (by rfl) T.m_isinstance (by decide +kernel) (pa_cons (pv 0) (pa_cons (pe_glob (v := .ref T.C_InvalidMarks) (by rfl) T.g_InvalidMarks rfl) pa_nil))) pa_nil))))))
      (pss_cons (ps_set (i := 1) sc_l_kinds.nd rfl (Or.inl rfl) (pe_op op_addU (pv 1) (pe_lst (pa_cons (pe_callB ((call_isiV (K := K) rfl).or (call_isEV (K := K) rfl)) (by rfl) T.m_isinstance (by decide +kernel) (pa_cons (pv 0) (pa_cons (pe_glob (v := .ref T.C_InvalidMeasures) (by rfl) T.g_InvalidMeasures rfl) pa_nil))) (pa_cons (pe_callB ((call_isiV (K := K) rfl).or (call_isEV (K := K) rfl)) (by rfl) T.m_isinstance (by decide +kernel) (pa_cons (pv 0) (pa_cons (pe_glob (v := .ref T.C_InvalidNumbers) (by rfl) T.g_InvalidNumbers rfl) pa_nil))) pa_nil)))))
      (pss_cons (ps_set (i := 1) sc_l_kinds.nd rfl (Or.inl rfl) (pe_op op_addU (pv 1) (pe_lst (pa_cons (pe_callB ((call_isiV (K := K) rfl).or (call_isEV (K := K) rfl)) (by rfl) T.m_isinstance (by decide +kernel) (pa_cons (pv 0) (pa_cons (pe_glob (v := .ref T.C_InvalidPoints) (by rfl) T.g_InvalidPoints rfl) pa_nil))) (pa_cons (pe_callB ((call_isiV (K := K) rfl).or (call_isEV (K := K) rfl)) (by rfl) T.m_isinstance (by decide +kernel) (pa_cons (pv 0) (pa_cons (pe_glob (v := .ref T.C_InvalidShift) (by rfl) T.g_InvalidShift rfl) pa_nil))) (pa_cons (pe_callB ((call_isiV (K := K) rfl).or (call_isEV (K := K) rfl)) (by rfl) T.m_isinstance (by decide +kernel) (pa_cons (pv 0) (pa_cons (pe_glob (v := .ref T.C_InvalidFactor) (by rfl) T.g_InvalidFactor rfl) pa_nil))) pa_nil))))))
      (pss_cons (ps_set (i := 1) sc_l_kinds.nd rfl (Or.inl rfl) (pe_op op_addU (pv 1) (pe_lst (pa_cons (pe_callB ((call_isiV (K := K) rfl).or (call_isEV (K := K) rfl)) (by rfl) T.m_isinstance (by decide +kernel) (pa_cons (pv 0) (pa_cons (pe_glob (v := .ref T.C_InvalidDrift) (by rfl) T.g_InvalidDrift rfl) pa_nil))) (pa_cons (pe_callB ((call_isiV (K := K) rfl).or (call_isEV (K := K) rfl)) (by rfl) T.m_isinstance (by decide +kernel) (pa_cons (pv 0) (pa_cons (pe_glob (v := .ref T.C_InvalidReadings) (by rfl) T.g_InvalidReadings rfl) pa_nil))) (pa_cons (pe_callB ((call_isiV (K := K) rfl).or (call_isEV (K := K) rfl)) (by rfl) T.m_isinstance (by decide +kernel) (pa_cons (pv 0) (pa_cons (pe_glob (v := .ref T.C_InvalidChanges) (by rfl) T.g_InvalidChanges rfl) pa_nil))) pa_nil))))))
      (pss_cons (ps_set (i := 1) sc_l_kinds.nd rfl (Or.inl rfl) (pe_op op_addU (pv 1) (pe_lst (pa_cons (pe_callB ((call_isiV (K := K) rfl).or (call_isEV (K := K) rfl)) (by rfl) T.m_isinstance (by decide +kernel) (pa_cons (pv 0) (pa_cons (pe_glob (v := .ref T.C_InvalidPrices) (by rfl) T.g_InvalidPrices rfl) pa_nil))) (pa_cons (pe_callB ((call_isiV (K := K) rfl).or (call_isEV (K := K) rfl)) (by rfl) T.m_isinstance (by decide +kernel) (pa_cons (pv 0) (pa_cons (pe_glob (v := .ref T.C_InvalidKnown) (by rfl) T.g_InvalidKnown rfl) pa_nil))) (pa_cons (pe_callB ((call_isiV (K := K) rfl).or (call_isEV (K := K) rfl)) (by rfl) T.m_isinstance (by decide +kernel) (pa_cons (pv 0) (pa_cons (pe_glob (v := .ref T.C_InvalidWays) (by rfl) T.g_InvalidWays rfl) pa_nil))) pa_nil))))))
      (pss_cons (ps_set (i := 1) sc_l_kinds.nd rfl (Or.inl rfl) (pe_op op_addU (pv 1) (pe_lst (pa_cons (pe_callB ((call_isiV (K := K) rfl).or (call_isEV (K := K) rfl)) (by rfl) T.m_isinstance (by decide +kernel) (pa_cons (pv 0) (pa_cons (pe_glob (v := .ref T.C_InvalidLine) (by rfl) T.g_InvalidLine rfl) pa_nil))) (pa_cons (pe_callB ((call_isiV (K := K) rfl).or (call_isEV (K := K) rfl)) (by rfl) T.m_isinstance (by decide +kernel) (pa_cons (pv 0) (pa_cons (pe_glob (v := .ref T.C_OutOfRange) (by rfl) T.g_OutOfRange rfl) pa_nil))) (pa_cons (pe_callB ((call_isiV (K := K) rfl).or (call_isEV (K := K) rfl)) (by rfl) T.m_isinstance (by decide +kernel) (pa_cons (pv 0) (pa_cons (pe_glob (v := .ref T.C_DuplicateMark) (by rfl) T.g_DuplicateMark rfl) pa_nil))) pa_nil))))))
      (pss_cons (ps_set (i := 1) sc_l_kinds.nd rfl (Or.inl rfl) (pe_op op_addU (pv 1) (pe_lst (pa_cons (pe_callB ((call_isiV (K := K) rfl).or (call_isEV (K := K) rfl)) (by rfl) T.m_isinstance (by decide +kernel) (pa_cons (pv 0) (pa_cons (pe_glob (v := .ref T.C_UnknownMark) (by rfl) T.g_UnknownMark rfl) pa_nil))) (pa_cons (pe_callB ((call_isiV (K := K) rfl).or (call_isEV (K := K) rfl)) (by rfl) T.m_isinstance (by decide +kernel) (pa_cons (pv 0) (pa_cons (pe_glob (v := .ref T.C_UnknownNumber) (by rfl) T.g_UnknownNumber rfl) pa_nil))) (pa_cons (pe_callB ((call_isiV (K := K) rfl).or (call_isEV (K := K) rfl)) (by rfl) T.m_isinstance (by decide +kernel) (pa_cons (pv 0) (pa_cons (pe_glob (v := .ref T.C_TooMany) (by rfl) T.g_TooMany rfl) pa_nil))) pa_nil))))))
      (pss_cons (ps_set (i := 1) sc_l_kinds.nd rfl (Or.inl rfl) (pe_op op_addU (pv 1) (pe_lst (pa_cons (pe_callB ((call_isiV (K := K) rfl).or (call_isEV (K := K) rfl)) (by rfl) T.m_isinstance (by decide +kernel) (pa_cons (pv 0) (pa_cons (pe_glob (v := .ref T.C_NotNet) (by rfl) T.g_NotNet rfl) pa_nil))) (pa_cons (pe_callB ((call_isiV (K := K) rfl).or (call_isEV (K := K) rfl)) (by rfl) T.m_isinstance (by decide +kernel) (pa_cons (pv 0) (pa_cons (pe_glob (v := .ref T.C_NotPlacing) (by rfl) T.g_NotPlacing rfl) pa_nil))) (pa_cons (pe_callB ((call_isiV (K := K) rfl).or (call_isEV (K := K) rfl)) (by rfl) T.m_isinstance (by decide +kernel) (pa_cons (pv 0) (pa_cons (pe_glob (v := .ref T.C_NotWatched) (by rfl) T.g_NotWatched rfl) pa_nil))) pa_nil))))))
      (pss_cons (ps_set (i := 1) sc_l_kinds.nd rfl (Or.inl rfl) (pe_op op_addU (pv 1) (pe_lst (pa_cons (pe_callB ((call_isiV (K := K) rfl).or (call_isEV (K := K) rfl)) (by rfl) T.m_isinstance (by decide +kernel) (pa_cons (pv 0) (pa_cons (pe_glob (v := .ref T.C_NotEnough) (by rfl) T.g_NotEnough rfl) pa_nil))) (pa_cons (pe_callB ((call_isiV (K := K) rfl).or (call_isEV (K := K) rfl)) (by rfl) T.m_isinstance (by decide +kernel) (pa_cons (pv 0) (pa_cons (pe_glob (v := .ref T.C_NotApart) (by rfl) T.g_NotApart rfl) pa_nil))) pa_nil)))))
      (pss_cons (ps_set (i := 1) sc_l_kinds.nd rfl (Or.inl rfl) (pe_op op_addU (pv 1) (pe_lst (pa_cons (pe_callB ((call_isiV (K := K) rfl).or (call_isEV (K := K) rfl)) (by rfl) T.m_isinstance (by decide +kernel) (pa_cons (pv 0) (pa_cons (pe_glob (v := .ref T.C_NoReading) (by rfl) T.g_NoReading rfl) pa_nil))) (pa_cons (pe_callB ((call_isiV (K := K) rfl).or (call_isEV (K := K) rfl)) (by rfl) T.m_isinstance (by decide +kernel) (pa_cons (pv 0) (pa_cons (pe_glob (v := .ref T.C_NothingToUndo) (by rfl) T.g_NothingToUndo rfl) pa_nil))) pa_nil)))))
      (pss_one (ps_ret (pe_lc (own := [("_law_place", 2), ("_law_one", 3)]) (g := gTup K 2 (gCons (gName 2) (gCons (gName 3) gNil))) rfl sc_l_kinds.nd (pi_enumU (K := K) rfl (by rfl) T.m_enumerate (pa_cons (pv 1) pa_nil)) (blkOk_by (own := [("_law_place", 2), ("_law_one", 3)]) (N := ["_law_e", "_law_kinds_here", "_law_place", "_law_one"]) (sc := defScope s_l_kinds) (by decide +kernel)) (fun _ _ _ _ _ => (pg_tupU (K := K) (n := 2) rfl rfl (pgs_cons (pg_name (i := 2) sc_l_kinds.nd rfl (Or.inl rfl)) (pgs_cons (pg_name (i := 3) sc_l_kinds.nd rfl (Or.inl rfl)) pgs_nil)))) (fun _ _ _ _ _ => (pts_one (pt_val (pv 3)))) (fun _ _ _ _ _ => (pv 2)))))))))))))))), fn_ok ?_ h⟩
  clear tk
  repeat walk_at "s"
end K04
set_option Elab.async false
set_option linter.all false
set_option maxRecDepth 100000
set_option maxHeartbeats 3900000
namespace K04
open PySem PySem.Spec PyProof.Rows L2 G M
set_option synthInstance.maxHeartbeats 0
set_option synthInstance.maxSize 1000000
local macro_rules | `(tactic| walk_at "s") => `(tactic| exact Ok.ok)
def m_law {P : Program} {K : PySem.W.Frag} {mg : Str → Option Value} (T : Top P K mg) : Fn := fnD 1 10 (seqM (forM (rng1M (consM (cbM max2D (consM (cM (.int 2)) (consM (cbM min2D (consM (cM (.int 4)) (consM (cbM lenD (consM (varM 0) nilM)) nilM))) nilM))) nilM)) (gnameM 1) (seqM (asgM (callM (m_l_box T) [] (consM (callM (m_l_cell T) [] (consM (varM 0) (consM (varM 1) nilM))) nilM)) (gnameM 2))
    (seqM (asgM (lstM false (consM (cM .non) (consM (callM (m_l_take T) [] (consM (varM 2) (consM (cM (.int 100)) nilM))) (consM (opM (mulD false) (cM (.str (Str.ofString "a"))) (callM (m_l_take T) [] (consM (varM 2) (consM (cM (.int 9)) nilM)))) (consM (lstM true (consM (callM (m_l_take T) [] (consM (varM 2) (consM (cM (.int 9)) nilM))) nilM)) (consM (dispM true (pconsM (cM (.str (Str.ofString "a"))) (tupM (consM (cM (.int 1)) (consM (cM (.int 2)) nilM))) pnilM)) (consM (tupM nilM) (consM (cM (.bl true)) nilM)))))))) (gnameM 3))
    (forM (rng1M (consM (cM (.int 30)) nilM)) (gnameM 4) (seqM (asgM (opM ixD (varM 3) (callM (m_l_take T) [] (consM (varM 2) (consM (cM (.int 7)) nilM)))) (gnameM 5))
    (forM (itM (lstM false (consM (cM (.bl true)) (consM (cM (.bl false)) nilM)))) (gnameM 6) (seqM (asgM (callEM [(T.f_l_made0, (m_l_made0 T)), (T.f_l_made1, (m_l_made1 T)), (T.f_l_made2, (m_l_made2 T))] (opM ixD (lstM false (consM (cM (.adr T.f_l_made0)) (consM (cM (.adr T.f_l_made1)) (consM (cM (.adr T.f_l_made2)) nilM)))) (opM fdivD (varM 4) (cM (.int 11)))) (consM (varM 4) (consM (varM 5) (consM (varM 6) nilM)))) (gtupM (gconsM 7 (gconsM 8 gnilM))))
    (seqM (ifS (orT (notT (testM (cbM (orC (isiD K) (isVD K)) (consM (varM 7) (consM (cM (.adr T.C_NetError)) nilM))))) (orT (notT (testM (cbM (orC (isiD K) (isVD K)) (consM (varM 7) (consM (cM (.ty "ValueError")) nilM))))) (testM (opM (orD neD neSLD) (callM (m_l_kinds T) [] (consM (varM 7) nilM)) (lstM false (consM (varM 4) nilM))))))
    (retM (cM (.bl false)))
    nextM)
    (seqM (ifS (testM (opM (orD neD neSLD) (cbM (orC reprD reprZD) (consM (varM 8) nilM)) (cbM (orC reprD reprZD) (consM (lstM false (consM (varM 5) nilM)) nilM))))
    (retM (cM (.bl false)))
    nextM)
    (seqM (ifS (testM (cbM (orC (isiD K) (isVD K)) (consM (varM 5) (consM (cM (.ty "list")) nilM))))
    (dropM (bmM "list" appendD (varM 5) (consM (cM (.str (Str.ofString "late"))) nilM)))
    nextM)
    (seqM (ifS (testM (cbM (orC (isiD K) (isVD K)) (consM (varM 5) (consM (cM (.ty "dict")) nilM))))
    (dputM (varM 5) (cM (.str (Str.ofString "late"))) (cbM lenD (consM (varM 5) nilM)))
    nextM)
    (ifS (testM (opM (orD neD neSLD) (varM 8) (lstM false (consM (varM 5) nilM))))
    (retM (cM (.bl false)))
    nextM))))))))))))
    (seqM (asgM (mk0M T.C_NetError) (gnameM 9))
    (retM (andM (cbM (orC (isiD K) (isVD K)) (consM (varM 9) (consM (cM (.ty "ValueError")) nilM))) (opM eqD (callM (m_l_kinds T) [] (consM (varM 9) nilM)) (lstM false nilM))))))
theorem ok_law {P : Program} {w : World} {K : PySem.W.Frag} {mg : Str → Option Value} {base : Heap} (T : Top P K mg) : FnG P w K mg base (L2.CX P w) 2 T.f_law T.fd_law ["_law_script"] (SpG K T.tabs (m_law T)) := by
  refine T.F_law.okG sc_law (fun vs H Q E h => fn_len h) (fun cdv A outer s H vs Q E hG hr h => ?_)
  have tk : Takes _ (fun cls d _ H => E cls d H) := takes_of (E := E) (X := cxOf (L2.CX P w) P w K mg base ["_law_script", "_law_k", "_law_box_here", "_law_things", "_law_place", "_law_thing", "_law_way", "_law_e", "_law_kept", "_law_plain"] "law" (defScope s_law) T.f_law cdv A outer s H E) rfl rfl rfl rfl
  refine ⟨_, (pss_cons (ps_for (passes_of rfl) rfl (pi_range1 (by rfl) T.m_range (pa_cons (pe_callB (call_maxU (K := K) rfl rfl) (by rfl) T.m_max (by decide +kernel) (pa_cons pe_int (pa_cons (pe_callB (call_minU (K := K) rfl rfl) (by rfl) T.m_min (by decide +kernel) (pa_cons pe_int (pa_cons (pe_callB (call_lenU (K := K) rfl) (by rfl) T.m_len PySem.boot_len (pa_cons (pv 0) pa_nil)) pa_nil))) pa_nil))) pa_nil)) (pg_name (i := 1) sc_law.nd rfl (Or.inl rfl)) (pss_cons (ps_set (i := 2) sc_law.nd rfl (Or.inl rfl) (pe_callSD (ok_l_box T) (hr.mono (by decide)) (by rfl) T.g_l_box T.F_l_box.kp T.b_l_box .nil (fun σ => passAt tk σ) (pa_cons (pe_callSD (ok_l_cell T) (hr.mono (by decide)) (by rfl) T.g_l_cell T.F_l_cell.kp T.b_l_cell .nil (fun σ => passAt tk σ) (pa_cons (pv 0) (pa_cons (pv 1) pa_nil))) pa_nil)))
      (pss_cons (ps_set (i := 3) sc_law.nd rfl (Or.inl rfl) (pe_lst (pa_cons pe_non (pa_cons (pe_callSD (ok_l_take T) (hr.mono (by decide)) (by rfl) T.g_l_take T.F_l_take.kp T.b_l_take .nil (fun σ => passAt tk σ) (pa_cons (pv 2) (pa_cons pe_int pa_nil))) (pa_cons (pe_op op_mulU pe_str (pe_callSD (ok_l_take T) (hr.mono (by decide)) (by rfl) T.g_l_take T.F_l_take.kp T.b_l_take .nil (fun σ => passAt tk σ) (pa_cons (pv 2) (pa_cons pe_int pa_nil)))) (pa_cons (pe_lst (pa_cons (pe_callSD (ok_l_take T) (hr.mono (by decide)) (by rfl) T.g_l_take T.F_l_take.kp T.b_l_take .nil (fun σ => passAt tk σ) (pa_cons (pv 2) (pa_cons pe_int pa_nil))) pa_nil)) (pa_cons (pe_disp (pps_cons pe_str (pe_tup (pa_cons pe_int (pa_cons pe_int pa_nil))) pps_nil) (by rfl) (by rfl) (fun z => by cases z) (by decide)) (pa_cons (pe_tup pa_nil) (pa_cons pe_bl pa_nil)))))))))
      (pss_one (ps_for (passes_of rfl) rfl (pi_range1 (by rfl) T.m_range (pa_cons pe_int pa_nil)) (pg_name (i := 4) sc_law.nd rfl (Or.inl rfl)) (pss_cons (ps_set (i := 5) sc_law.nd rfl (Or.inl rfl) (pe_ix (ix_U (K := K) rfl) (pv 3) (pe_callSD (ok_l_take T) (hr.mono (by decide)) (by rfl) T.g_l_take T.F_l_take.kp T.b_l_take .nil (fun σ => passAt tk σ) (pa_cons (pv 2) (pa_cons pe_int pa_nil))) (fun _ _ => rfl)))
      (pss_one (ps_for (passes_of rfl) rfl (pi_V (K := K) rfl (pe_lst (pa_cons pe_bl (pa_cons pe_bl pa_nil)))) (pg_name (i := 6) sc_law.nd rfl (Or.inl rfl)) (pss_cons (ps_asg (pe_callE (pe_ix (ix_U (K := K) rfl) (pe_lst (pa_cons (pe_glob (v := .ref T.f_l_made0) (by rfl) T.g_l_made0 rfl) (pa_cons (pe_glob (v := .ref T.f_l_made1) (by rfl) T.g_l_made1 rfl) (pa_cons (pe_glob (v := .ref T.f_l_made2) (by rfl) T.g_l_made2 rfl) pa_nil)))) (pe_op op_fdivU (pv 4) pe_int) (fun _ _ => rfl)) (pa_cons (pv 4) (pa_cons (pv 5) (pa_cons (pv 6) pa_nil))) (cand_cons ⟨_, _, _, (ok_l_made0 T), hr.mono (by decide), T.F_l_made0.kp, T.b_l_made0⟩ (cand_cons ⟨_, _, _, (ok_l_made1 T), hr.mono (by decide), T.F_l_made1.kp, T.b_l_made1⟩ (cand_cons ⟨_, _, _, (ok_l_made2 T), hr.mono (by decide), T.F_l_made2.kp, T.b_l_made2⟩ cand_nil))) (fun σ => passAt tk σ)) (pg_tupU (K := K) (n := 2) rfl rfl (pgs_cons (pg_name (i := 7) sc_law.nd rfl (Or.inl rfl)) (pgs_cons (pg_name (i := 8) sc_law.nd rfl (Or.inl rfl)) pgs_nil))))
      (pss_cons (ps_if (PW.pt (pw_or (pt_not (pt_val (pe_callB ((call_isiV (K := K) rfl).or (call_isEV (K := K) rfl)) (by rfl) T.m_isinstance (by decide +kernel) (pa_cons (pv 7) (pa_cons (pe_glob (v := .ref T.C_NetError) (by rfl) T.g_NetError rfl) pa_nil))))) (pw_or (pt_not (pt_val (pe_callB ((call_isiV (K := K) rfl).or (call_isEV (K := K) rfl)) (by rfl) T.m_isinstance (by decide +kernel) (pa_cons (pv 7) (pa_cons (pe_bltn (v := .ty "ValueError") (by rfl) T.m_ValueError (by decide +kernel) rfl) pa_nil))))) (pw_or1 (pt_cmpR ((op_neU (K := K) rfl hr.units).or (op_neSL (K := K) rfl (Room.u1 hr))) (pe_callSD (ok_l_kinds T) (hr.mono (by decide)) (by rfl) T.g_l_kinds T.F_l_kinds.kp T.b_l_kinds .nil (fun σ => passAt tk σ) (pa_cons (pv 7) pa_nil)) (pe_lst (pa_cons (pv 4) pa_nil)) (nomark _)))))) (pss_one (ps_ret pe_bl)) pss_nil)
      (pss_cons (ps_if (pt_cmpR ((op_neU (K := K) rfl hr.units).or (op_neSL (K := K) rfl (Room.u1 hr))) (pe_callB (call_reprU.or (call_reprZ (K := K) rfl hG (Nat.lt_of_succ_lt (Room.u65 hr)))) (by rfl) T.m_repr (by decide +kernel) (pa_cons (pv 8) pa_nil)) (pe_callB (call_reprU.or (call_reprZ (K := K) rfl hG (Nat.lt_of_succ_lt (Room.u65 hr)))) (by rfl) T.m_repr (by decide +kernel) (pa_cons (pe_lst (pa_cons (pv 5) pa_nil)) pa_nil)) (nomark _)) (pss_one (ps_ret pe_bl)) pss_nil)
      (pss_cons (ps_if (pt_val (pe_callB ((call_isiV (K := K) rfl).or (call_isEV (K := K) rfl)) (by rfl) T.m_isinstance (by decide +kernel) (pa_cons (pv 5) (pa_cons (pe_bltn (v := .ty "list") (by rfl) T.m_list (by decide +kernel) rfl) pa_nil)))) (pss_one (ps_expr (pe_bmU (K := K) rfl PySem.F.plainAttrs_list PySem.F.slot_list_append PySem.F.type_list_append mt_append (pv 5) (pa_cons pe_str pa_nil)))) pss_nil)
      (pss_cons (ps_if (pt_val (pe_callB ((call_isiV (K := K) rfl).or (call_isEV (K := K) rfl)) (by rfl) T.m_isinstance (by decide +kernel) (pa_cons (pv 5) (pa_cons (pe_bltn (v := .ty "dict") (by rfl) T.m_dict (by decide +kernel) rfl) pa_nil)))) (pss_one (ps_dput (Room.u1 hr) (pv 5) pe_str (pe_callB (call_lenU (K := K) rfl) (by rfl) T.m_len PySem.boot_len (pa_cons (pv 5) pa_nil)) rfl)) pss_nil)
      (pss_one (ps_if (pt_cmpR ((op_neU (K := K) rfl hr.units).or (op_neSL (K := K) rfl (Room.u1 hr))) (pv 8) (pe_lst (pa_cons (pv 5) pa_nil)) (nomark _)) (pss_one (ps_ret pe_bl)) pss_nil)))))))))))))))
      (pss_cons (ps_set (i := 9) sc_law.nd rfl (Or.inl rfl) (pe_ownV T.O_NetError (by rfl)))
      (pss_one (ps_ret (pe_and (pe_callB ((call_isiV (K := K) rfl).or (call_isEV (K := K) rfl)) (by rfl) T.m_isinstance (by decide +kernel) (pa_cons (pv 9) (pa_cons (pe_bltn (v := .ty "ValueError") (by rfl) T.m_ValueError (by decide +kernel) rfl) pa_nil))) (pe_one (pe_cmpR (op_eqU (K := K) rfl hr.units) (pe_callSD (ok_l_kinds T) (hr.mono (by decide)) (by rfl) T.g_l_kinds T.F_l_kinds.kp T.b_l_kinds .nil (fun σ => passAt tk σ) (pa_cons (pv 9) pa_nil)) (pe_lst pa_nil) (nomark _)))))))), fn_ok ?_ h⟩
  clear tk
  repeat walk_at "s"
end K04
set_option Elab.async false
set_option linter.all false
set_option maxRecDepth 100000
set_option maxHeartbeats 600000
namespace K04
open PySem PySem.Spec PyProof.Rows L2 G M
local macro_rules | `(tactic| walk_at "m") => `(tactic| first
  | (with_reducible refine' e_seq ?_)
  | ((with_reducible refine' e_var ?h ?_); (case h => exact rfl))
  | (with_reducible refine' e_c ?_)
  | (with_reducible refine' e_op ?_)
  | (with_reducible refine' e_asg ?_)
  | (with_reducible refine' e_gname ?_)
  | (with_reducible refine' e_ifS ?_)
  | (with_reducible refine' e_test ?_)
  | (with_reducible refine' e_bl ?_)
  | (with_reducible refine' e_cb ?_)
  | (with_reducible refine' e_cons ?_)
  | (with_reducible refine' e_nil ?_)
  | (with_reducible refine' e_call ?_)
  | (with_reducible refine' e_ret ?_)
  | (with_reducible refine' e_drop ?_)
  | (with_reducible refine' e_next ?_)
  | (with_reducible refine' e_andT ?_)
  | (with_reducible refine' e_orT ?_)
  | (with_reducible refine' e_notT ?_)
  | (with_reducible refine' e_andM ?_)
  | (with_reducible refine' e_orM ?_)
  | (with_reducible refine' e_notM ?_)
  | (with_reducible refine' e_ifM ?_)
  | (with_reducible refine' e_chain ?_)
  | (with_reducible refine' e_un ?_)
  | (with_reducible refine' e_lst ?_)
  | (with_reducible refine' e_lstO ?_)
  | (with_reducible refine' e_tup ?_)
  | (with_reducible refine' e_par ?_)
  | (with_reducible refine' e_raise ?_)
  | (with_reducible refine' e_for ?_)
  | (with_reducible refine' e_meth ?_)
  | (with_reducible refine' e_prop ?_)
  | (with_reducible refine' e_make ?_)
  | (with_reducible refine' e_fld ?_)
  | (with_reducible refine' e_sfld ?_)
  | (with_reducible refine' e_noPart ?_)
  | (with_reducible refine' e_part ?_)
  | (with_reducible refine' e_int ?_)
  | (with_reducible refine' e_sl ?_)
  | (with_reducible refine' e_bm ?_)
  | (with_reducible refine' e_bm0 ?_)
  | (with_reducible refine' e_m1 ?_)
  | (with_reducible refine' e_it ?_)
  | (with_reducible refine' e_rng1 ?_)
  | (with_reducible refine' e_lc ?_)
  | (with_reducible refine' e_caught ?_)
  | (with_reducible refine' e_two ?_)
  | (with_reducible refine' e_one ?_)
  | (with_reducible refine' e_ifT ?_)
  | (with_reducible refine' e_ifF ?_)
  | (with_reducible refine' e_ifNT ?_)
  | (with_reducible refine' e_ifNF ?_)
  | (with_reducible refine' e_yes ?_)
  | (with_reducible refine' e_turn ?_)
  | (with_reducible refine' e_js ?_)
  | (with_reducible refine' e_jsc ?_)
  | (with_reducible refine' e_jsn ?_)
  | (with_reducible refine' e_fmt ?_)
  | (with_reducible refine' e_leI ?_)
  | (with_reducible refine' e_ltI ?_)
  | (with_reducible refine' e_gtI ?_)
  | (with_reducible refine' e_geI ?_)
  | (with_reducible refine' e_ltS ?_)
  | (with_reducible refine' e_eqI ?_)
  | (with_reducible refine' e_eqS ?_)
  | (with_reducible refine' e_neI ?_)
  | (with_reducible refine' e_neS ?_)
  | (with_reducible refine' e_neB ?_)
  | (with_reducible refine' e_isB ?_)
  | (with_reducible refine' e_isntB ?_)
  | (with_reducible refine' e_addI ?_)
  | (with_reducible refine' e_subI ?_)
  | (with_reducible refine' e_int1 ?_)
  | (with_reducible refine' e_max2 ?_)
  | (with_reducible refine' e_min2 ?_)
  | (with_reducible refine' e_lenL ?_)
  | (with_reducible refine' e_lenT ?_)
  | (with_reducible refine' e_lenR ?_)
  | (with_reducible refine' e_modI (by decide) ?_))
set_option synthInstance.maxHeartbeats 0
set_option synthInstance.maxSize 100000
local macro_rules | `(tactic| walk_at "k") => `(tactic| first
  | refine wgo ?_
  | ((with_reducible refine' e_var ?h ?_); (case h => exact rfl))
  | (with_reducible refine' e_gname ?_)
  | (with_reducible refine' e_modI (by decide) ?_)
  | ((with_reducible refine' e_sz ?h ?_); (case h => exact rfl)))
variable {P : Program} {K : PySem.W.Frag} {mg : Str → Option Value} {T : Top P K mg} {c : SH} {Ψ : XD} {Φ : QD}
theorem s_take {i n : Nat} {m : Int} (hb : c[i]? = some (.box n)) (hn : n ≤ 1000000000) (h0 : 0 < m) (h1 : m < 1073741824) (q : ∀ d : Int, 0 ≤ d → d < m → Φ (.int d) (c.set i (.box (n + 1)))) : m_l_take T [.obj i, .int m] c Ψ Φ := ⟨i, n, m, rfl, hb, hn, h0, h1, q⟩
theorem s_cell {ns : List Int} {k : Nat} (hl : ns.length ≤ 63) (hk : k ≤ 100) (q : ∀ i : Int, Φ (.int i) c) : m_l_cell T [.scr (ns.map .int), .int (k : Int)] c Ψ Φ := ⟨ns, k, rfl, hl, hk, q⟩
theorem s_box {i : Int} (q : Φ (.obj c.length) (c ++ [.box 0])) : m_l_box T [.int i] c Ψ Φ := ⟨i, rfl, q⟩
end K04
set_option Elab.async false
set_option linter.all false
set_option maxRecDepth 100000
set_option maxHeartbeats 600000
namespace K04
open PySem PySem.Spec PyProof.Rows L2 G M
local macro_rules | `(tactic| walk_at "m") => `(tactic| first
  | (with_reducible refine' e_seq ?_)
  | ((with_reducible refine' e_var ?h ?_); (case h => exact rfl))
  | (with_reducible refine' e_c ?_)
  | (with_reducible refine' e_op ?_)
  | (with_reducible refine' e_asg ?_)
  | (with_reducible refine' e_gname ?_)
  | (with_reducible refine' e_ifS ?_)
  | (with_reducible refine' e_test ?_)
  | (with_reducible refine' e_bl ?_)
  | (with_reducible refine' e_cb ?_)
  | (with_reducible refine' e_cons ?_)
  | (with_reducible refine' e_nil ?_)
  | (with_reducible refine' e_call ?_)
  | (with_reducible refine' e_ret ?_)
  | (with_reducible refine' e_drop ?_)
  | (with_reducible refine' e_next ?_)
  | (with_reducible refine' e_andT ?_)
  | (with_reducible refine' e_orT ?_)
  | (with_reducible refine' e_notT ?_)
  | (with_reducible refine' e_andM ?_)
  | (with_reducible refine' e_orM ?_)
  | (with_reducible refine' e_notM ?_)
  | (with_reducible refine' e_ifM ?_)
  | (with_reducible refine' e_chain ?_)
  | (with_reducible refine' e_un ?_)
  | (with_reducible refine' e_lst ?_)
  | (with_reducible refine' e_lstO ?_)
  | (with_reducible refine' e_tup ?_)
  | (with_reducible refine' e_par ?_)
  | (with_reducible refine' e_raise ?_)
  | (with_reducible refine' e_for ?_)
  | (with_reducible refine' e_meth ?_)
  | (with_reducible refine' e_prop ?_)
  | (with_reducible refine' e_make ?_)
  | (with_reducible refine' e_fld ?_)
  | (with_reducible refine' e_sfld ?_)
  | (with_reducible refine' e_noPart ?_)
  | (with_reducible refine' e_part ?_)
  | (with_reducible refine' e_int ?_)
  | (with_reducible refine' e_sl ?_)
  | (with_reducible refine' e_bm ?_)
  | (with_reducible refine' e_bm0 ?_)
  | (with_reducible refine' e_m1 ?_)
  | (with_reducible refine' e_it ?_)
  | (with_reducible refine' e_rng1 ?_)
  | (with_reducible refine' e_lc ?_)
  | (with_reducible refine' e_caught ?_)
  | (with_reducible refine' e_two ?_)
  | (with_reducible refine' e_one ?_)
  | (with_reducible refine' e_ifT ?_)
  | (with_reducible refine' e_ifF ?_)
  | (with_reducible refine' e_ifNT ?_)
  | (with_reducible refine' e_ifNF ?_)
  | (with_reducible refine' e_yes ?_)
  | (with_reducible refine' e_turn ?_)
  | (with_reducible refine' e_js ?_)
  | (with_reducible refine' e_jsc ?_)
  | (with_reducible refine' e_jsn ?_)
  | (with_reducible refine' e_fmt ?_)
  | (with_reducible refine' e_leI ?_)
  | (with_reducible refine' e_ltI ?_)
  | (with_reducible refine' e_gtI ?_)
  | (with_reducible refine' e_geI ?_)
  | (with_reducible refine' e_ltS ?_)
  | (with_reducible refine' e_eqI ?_)
  | (with_reducible refine' e_eqS ?_)
  | (with_reducible refine' e_neI ?_)
  | (with_reducible refine' e_neS ?_)
  | (with_reducible refine' e_neB ?_)
  | (with_reducible refine' e_isB ?_)
  | (with_reducible refine' e_isntB ?_)
  | (with_reducible refine' e_addI ?_)
  | (with_reducible refine' e_subI ?_)
  | (with_reducible refine' e_int1 ?_)
  | (with_reducible refine' e_max2 ?_)
  | (with_reducible refine' e_min2 ?_)
  | (with_reducible refine' e_lenL ?_)
  | (with_reducible refine' e_lenT ?_)
  | (with_reducible refine' e_lenR ?_)
  | (with_reducible refine' e_modI (by decide) ?_))
set_option synthInstance.maxHeartbeats 0
set_option synthInstance.maxSize 100000
local macro_rules | `(tactic| walk_at "k") => `(tactic| first
  | refine wgo ?_
  | ((with_reducible refine' e_var ?h ?_); (case h => exact rfl))
  | (with_reducible refine' e_gname ?_)
  | (with_reducible refine' e_modI (by decide) ?_)
  | ((with_reducible refine' e_sz ?h ?_); (case h => exact rfl)))
variable {P : Program} {K : PySem.W.Frag} {mg : Str → Option Value} {T : Top P K mg} {c : SH} {Ψ : XD} {Φ : QD}
theorem s_made_29 {d : D} {b : Bool} (q : Φ (.tup [.exc T.C_NothingToUndo [], .lst [d]]) c) : m_l_made2 T [.int 29, d, .bl b] c Ψ Φ := by
  refine e_fn (δ := [some _, some _, some _, none]) rfl rfl ?_
  cases b <;> (repeat (first | walk_at "k" | refine e_ifdF (by decide) ?_ | refine e_ifdT (by decide) ?_)) <;> exact .inl q
theorem s_made_0 {d : D} {b : Bool} (q : Φ (.tup [.exc T.C_InvalidKind [("value", d)], .lst [d]]) c) : m_l_made0 T [.int 0, d, .bl b] c Ψ Φ := by
  refine e_fn (δ := [some _, some _, some _, none]) rfl rfl ?_
  cases b <;> (repeat (first | walk_at "k" | refine e_ifdF (by decide) ?_ | refine e_ifdT (by decide) ?_)) <;> exact .inl q
theorem s_made_1 {d : D} {b : Bool} (q : Φ (.tup [.exc T.C_InvalidName [("name", d)], .lst [d]]) c) : m_l_made0 T [.int 1, d, .bl b] c Ψ Φ := by
  refine e_fn (δ := [some _, some _, some _, none]) rfl rfl ?_
  cases b <;> (repeat (first | walk_at "k" | refine e_ifdF (by decide) ?_ | refine e_ifdT (by decide) ?_)) <;> exact .inl q
theorem s_made_2 {d : D} {b : Bool} (q : Φ (.tup [.exc T.C_SameMark [("name", d)], .lst [d]]) c) : m_l_made0 T [.int 2, d, .bl b] c Ψ Φ := by
  refine e_fn (δ := [some _, some _, some _, none]) rfl rfl ?_
  cases b <;> (repeat (first | walk_at "k" | refine e_ifdF (by decide) ?_ | refine e_ifdT (by decide) ?_)) <;> exact .inl q
theorem s_made_3 {d : D} {b : Bool} (q : Φ (.tup [.exc T.C_InvalidText [("text", d)], .lst [d]]) c) : m_l_made0 T [.int 3, d, .bl b] c Ψ Φ := by
  refine e_fn (δ := [some _, some _, some _, none]) rfl rfl ?_
  cases b <;> (repeat (first | walk_at "k" | refine e_ifdF (by decide) ?_ | refine e_ifdT (by decide) ?_)) <;> exact .inl q
theorem s_made_4 {d : D} {b : Bool} (q : Φ (.tup [.exc T.C_InvalidMeasure [("value", d)], .lst [d]]) c) : m_l_made0 T [.int 4, d, .bl b] c Ψ Φ := by
  refine e_fn (δ := [some _, some _, some _, none]) rfl rfl ?_
  cases b <;> (repeat (first | walk_at "k" | refine e_ifdF (by decide) ?_ | refine e_ifdT (by decide) ?_)) <;> exact .inl q
theorem s_made_5 {d : D} {b : Bool} (q : Φ (.tup [.exc T.C_InvalidMarks [("value", d)], .lst [d]]) c) : m_l_made0 T [.int 5, d, .bl b] c Ψ Φ := by
  refine e_fn (δ := [some _, some _, some _, none]) rfl rfl ?_
  cases b <;> (repeat (first | walk_at "k" | refine e_ifdF (by decide) ?_ | refine e_ifdT (by decide) ?_)) <;> exact .inl q
theorem s_made_6 {d : D} {b : Bool} (q : Φ (.tup [.exc T.C_InvalidMeasures [("value", d)], .lst [d]]) c) : m_l_made0 T [.int 6, d, .bl b] c Ψ Φ := by
  refine e_fn (δ := [some _, some _, some _, none]) rfl rfl ?_
  cases b <;> (repeat (first | walk_at "k" | refine e_ifdF (by decide) ?_ | refine e_ifdT (by decide) ?_)) <;> exact .inl q
theorem s_made_7 {d : D} {b : Bool} (q : Φ (.tup [.exc T.C_InvalidNumbers [("value", d)], .lst [d]]) c) : m_l_made0 T [.int 7, d, .bl b] c Ψ Φ := by
  refine e_fn (δ := [some _, some _, some _, none]) rfl rfl ?_
  cases b <;> (repeat (first | walk_at "k" | refine e_ifdF (by decide) ?_ | refine e_ifdT (by decide) ?_)) <;> exact .inl q
theorem s_made_8 {d : D} {b : Bool} (q : Φ (.tup [.exc T.C_InvalidPoints [("value", d)], .lst [d]]) c) : m_l_made0 T [.int 8, d, .bl b] c Ψ Φ := by
  refine e_fn (δ := [some _, some _, some _, none]) rfl rfl ?_
  cases b <;> (repeat (first | walk_at "k" | refine e_ifdF (by decide) ?_ | refine e_ifdT (by decide) ?_)) <;> exact .inl q
theorem s_made_9 {d : D} {b : Bool} (q : Φ (.tup [.exc T.C_InvalidShift [("value", d)], .lst [d]]) c) : m_l_made0 T [.int 9, d, .bl b] c Ψ Φ := by
  refine e_fn (δ := [some _, some _, some _, none]) rfl rfl ?_
  cases b <;> (repeat (first | walk_at "k" | refine e_ifdF (by decide) ?_ | refine e_ifdT (by decide) ?_)) <;> exact .inl q
theorem s_made_10 {d : D} {b : Bool} (q : Φ (.tup [.exc T.C_InvalidFactor [("factor", d)], .lst [d]]) c) : m_l_made0 T [.int 10, d, .bl b] c Ψ Φ := by
  refine e_fn (δ := [some _, some _, some _, none]) rfl rfl ?_
  cases b <;> (repeat (first | walk_at "k" | refine e_ifdF (by decide) ?_ | refine e_ifdT (by decide) ?_)) <;> exact .inl q
theorem s_made_11 {d : D} {b : Bool} (q : Φ (.tup [.exc T.C_InvalidDrift [("drift", d)], .lst [d]]) c) : m_l_made1 T [.int 11, d, .bl b] c Ψ Φ := by
  refine e_fn (δ := [some _, some _, some _, none]) rfl rfl ?_
  cases b <;> (repeat (first | walk_at "k" | refine e_ifdF (by decide) ?_ | refine e_ifdT (by decide) ?_)) <;> exact .inl q
theorem s_made_12 {d : D} {b : Bool} (q : Φ (.tup [.exc T.C_InvalidReadings [("value", d)], .lst [d]]) c) : m_l_made1 T [.int 12, d, .bl b] c Ψ Φ := by
  refine e_fn (δ := [some _, some _, some _, none]) rfl rfl ?_
  cases b <;> (repeat (first | walk_at "k" | refine e_ifdF (by decide) ?_ | refine e_ifdT (by decide) ?_)) <;> exact .inl q
theorem s_made_13 {d : D} {b : Bool} (q : Φ (.tup [.exc T.C_InvalidChanges [("changes", d)], .lst [d]]) c) : m_l_made1 T [.int 13, d, .bl b] c Ψ Φ := by
  refine e_fn (δ := [some _, some _, some _, none]) rfl rfl ?_
  cases b <;> (repeat (first | walk_at "k" | refine e_ifdF (by decide) ?_ | refine e_ifdT (by decide) ?_)) <;> exact .inl q
theorem s_made_14 {d : D} {b : Bool} (q : Φ (.tup [.exc T.C_InvalidPrices [("prices", d)], .lst [d]]) c) : m_l_made1 T [.int 14, d, .bl b] c Ψ Φ := by
  refine e_fn (δ := [some _, some _, some _, none]) rfl rfl ?_
  cases b <;> (repeat (first | walk_at "k" | refine e_ifdF (by decide) ?_ | refine e_ifdT (by decide) ?_)) <;> exact .inl q
theorem s_made_15 {d : D} {b : Bool} (q : Φ (.tup [.exc T.C_InvalidKnown [("known", d)], .lst [d]]) c) : m_l_made1 T [.int 15, d, .bl b] c Ψ Φ := by
  refine e_fn (δ := [some _, some _, some _, none]) rfl rfl ?_
  cases b <;> (repeat (first | walk_at "k" | refine e_ifdF (by decide) ?_ | refine e_ifdT (by decide) ?_)) <;> exact .inl q
theorem s_made_16 {d : D} {b : Bool} (q : Φ (.tup [.exc T.C_InvalidWays [("ways", d)], .lst [d]]) c) : m_l_made1 T [.int 16, d, .bl b] c Ψ Φ := by
  refine e_fn (δ := [some _, some _, some _, none]) rfl rfl ?_
  cases b <;> (repeat (first | walk_at "k" | refine e_ifdF (by decide) ?_ | refine e_ifdT (by decide) ?_)) <;> exact .inl q
theorem s_made_17 {d : D} {b : Bool} (q : Φ (.tup [.exc T.C_InvalidLine [("line", d)], .lst [d]]) c) : m_l_made1 T [.int 17, d, .bl b] c Ψ Φ := by
  refine e_fn (δ := [some _, some _, some _, none]) rfl rfl ?_
  cases b <;> (repeat (first | walk_at "k" | refine e_ifdF (by decide) ?_ | refine e_ifdT (by decide) ?_)) <;> exact .inl q
theorem s_made_18 {d : D} {b : Bool} (q : Φ (.tup [.exc T.C_OutOfRange [("value", d)], .lst [d]]) c) : m_l_made1 T [.int 18, d, .bl b] c Ψ Φ := by
  refine e_fn (δ := [some _, some _, some _, none]) rfl rfl ?_
  cases b <;> (repeat (first | walk_at "k" | refine e_ifdF (by decide) ?_ | refine e_ifdT (by decide) ?_)) <;> exact .inl q
theorem s_made_19 {d : D} {b : Bool} (q : Φ (.tup [.exc T.C_DuplicateMark [("name", d)], .lst [d]]) c) : m_l_made1 T [.int 19, d, .bl b] c Ψ Φ := by
  refine e_fn (δ := [some _, some _, some _, none]) rfl rfl ?_
  cases b <;> (repeat (first | walk_at "k" | refine e_ifdF (by decide) ?_ | refine e_ifdT (by decide) ?_)) <;> exact .inl q
theorem s_made_20 {d : D} {b : Bool} (q : Φ (.tup [.exc T.C_UnknownMark [("name", d)], .lst [d]]) c) : m_l_made1 T [.int 20, d, .bl b] c Ψ Φ := by
  refine e_fn (δ := [some _, some _, some _, none]) rfl rfl ?_
  cases b <;> (repeat (first | walk_at "k" | refine e_ifdF (by decide) ?_ | refine e_ifdT (by decide) ?_)) <;> exact .inl q
theorem s_made_21 {d : D} {b : Bool} (q : Φ (.tup [.exc T.C_UnknownNumber [("number", d)], .lst [d]]) c) : m_l_made1 T [.int 21, d, .bl b] c Ψ Φ := by
  refine e_fn (δ := [some _, some _, some _, none]) rfl rfl ?_
  cases b <;> (repeat (first | walk_at "k" | refine e_ifdF (by decide) ?_ | refine e_ifdT (by decide) ?_)) <;> exact .inl q
theorem s_made_22 {d : D} {b : Bool} (q : Φ (.tup [.exc T.C_TooMany [("count", d)], .lst [d]]) c) : m_l_made2 T [.int 22, d, .bl b] c Ψ Φ := by
  refine e_fn (δ := [some _, some _, some _, none]) rfl rfl ?_
  cases b <;> (repeat (first | walk_at "k" | refine e_ifdF (by decide) ?_ | refine e_ifdT (by decide) ?_)) <;> exact .inl q
theorem s_made_23 {d : D} {b : Bool} (q : Φ (.tup [.exc T.C_NotNet [("value", d)], .lst [d]]) c) : m_l_made2 T [.int 23, d, .bl b] c Ψ Φ := by
  refine e_fn (δ := [some _, some _, some _, none]) rfl rfl ?_
  cases b <;> (repeat (first | walk_at "k" | refine e_ifdF (by decide) ?_ | refine e_ifdT (by decide) ?_)) <;> exact .inl q
theorem s_made_24 {d : D} {b : Bool} (q : Φ (.tup [.exc T.C_NotPlacing [("value", d)], .lst [d]]) c) : m_l_made2 T [.int 24, d, .bl b] c Ψ Φ := by
  refine e_fn (δ := [some _, some _, some _, none]) rfl rfl ?_
  cases b <;> (repeat (first | walk_at "k" | refine e_ifdF (by decide) ?_ | refine e_ifdT (by decide) ?_)) <;> exact .inl q
theorem s_made_25 {d : D} {b : Bool} (q : Φ (.tup [.exc T.C_NotWatched [("number", d)], .lst [d]]) c) : m_l_made2 T [.int 25, d, .bl b] c Ψ Φ := by
  refine e_fn (δ := [some _, some _, some _, none]) rfl rfl ?_
  cases b <;> (repeat (first | walk_at "k" | refine e_ifdF (by decide) ?_ | refine e_ifdT (by decide) ?_)) <;> exact .inl q
theorem s_made_26 {d : D} {b : Bool} (q : Φ (.tup [.exc T.C_NotEnough [("count", d)], .lst [d]]) c) : m_l_made2 T [.int 26, d, .bl b] c Ψ Φ := by
  refine e_fn (δ := [some _, some _, some _, none]) rfl rfl ?_
  cases b <;> (repeat (first | walk_at "k" | refine e_ifdF (by decide) ?_ | refine e_ifdT (by decide) ?_)) <;> exact .inl q
theorem s_made_27 {d : D} {b : Bool} (q : Φ (.tup [.exc T.C_NotApart [("value", d)], .lst [d]]) c) : m_l_made2 T [.int 27, d, .bl b] c Ψ Φ := by
  refine e_fn (δ := [some _, some _, some _, none]) rfl rfl ?_
  cases b <;> (repeat (first | walk_at "k" | refine e_ifdF (by decide) ?_ | refine e_ifdT (by decide) ?_)) <;> exact .inl q
theorem s_made_28 {d : D} {b : Bool} (q : Φ (.tup [.exc T.C_NoReading [("number", d)], .lst [d]]) c) : m_l_made2 T [.int 28, d, .bl b] c Ψ Φ := by
  refine e_fn (δ := [some _, some _, some _, none]) rfl rfl ?_
  cases b <;> (repeat (first | walk_at "k" | refine e_ifdF (by decide) ?_ | refine e_ifdT (by decide) ?_)) <;> exact .inl q
end K04
set_option Elab.async false
set_option linter.all false
set_option maxRecDepth 100000
set_option maxHeartbeats 600000
namespace K04
open PySem PySem.Spec PyProof.Rows L2 G M
local macro_rules | `(tactic| walk_at "m") => `(tactic| first
  | (with_reducible refine' e_seq ?_)
  | ((with_reducible refine' e_var ?h ?_); (case h => exact rfl))
  | (with_reducible refine' e_c ?_)
  | (with_reducible refine' e_op ?_)
  | (with_reducible refine' e_asg ?_)
  | (with_reducible refine' e_gname ?_)
  | (with_reducible refine' e_ifS ?_)
  | (with_reducible refine' e_test ?_)
  | (with_reducible refine' e_bl ?_)
  | (with_reducible refine' e_cb ?_)
  | (with_reducible refine' e_cons ?_)
  | (with_reducible refine' e_nil ?_)
  | (with_reducible refine' e_call ?_)
  | (with_reducible refine' e_ret ?_)
  | (with_reducible refine' e_drop ?_)
  | (with_reducible refine' e_next ?_)
  | (with_reducible refine' e_andT ?_)
  | (with_reducible refine' e_orT ?_)
  | (with_reducible refine' e_notT ?_)
  | (with_reducible refine' e_andM ?_)
  | (with_reducible refine' e_orM ?_)
  | (with_reducible refine' e_notM ?_)
  | (with_reducible refine' e_ifM ?_)
  | (with_reducible refine' e_chain ?_)
  | (with_reducible refine' e_un ?_)
  | (with_reducible refine' e_lst ?_)
  | (with_reducible refine' e_lstO ?_)
  | (with_reducible refine' e_tup ?_)
  | (with_reducible refine' e_par ?_)
  | (with_reducible refine' e_raise ?_)
  | (with_reducible refine' e_for ?_)
  | (with_reducible refine' e_meth ?_)
  | (with_reducible refine' e_prop ?_)
  | (with_reducible refine' e_make ?_)
  | (with_reducible refine' e_fld ?_)
  | (with_reducible refine' e_sfld ?_)
  | (with_reducible refine' e_noPart ?_)
  | (with_reducible refine' e_part ?_)
  | (with_reducible refine' e_int ?_)
  | (with_reducible refine' e_sl ?_)
  | (with_reducible refine' e_bm ?_)
  | (with_reducible refine' e_bm0 ?_)
  | (with_reducible refine' e_m1 ?_)
  | (with_reducible refine' e_it ?_)
  | (with_reducible refine' e_rng1 ?_)
  | (with_reducible refine' e_lc ?_)
  | (with_reducible refine' e_caught ?_)
  | (with_reducible refine' e_two ?_)
  | (with_reducible refine' e_one ?_)
  | (with_reducible refine' e_ifT ?_)
  | (with_reducible refine' e_ifF ?_)
  | (with_reducible refine' e_ifNT ?_)
  | (with_reducible refine' e_ifNF ?_)
  | (with_reducible refine' e_yes ?_)
  | (with_reducible refine' e_turn ?_)
  | (with_reducible refine' e_js ?_)
  | (with_reducible refine' e_jsc ?_)
  | (with_reducible refine' e_jsn ?_)
  | (with_reducible refine' e_fmt ?_)
  | (with_reducible refine' e_leI ?_)
  | (with_reducible refine' e_ltI ?_)
  | (with_reducible refine' e_gtI ?_)
  | (with_reducible refine' e_geI ?_)
  | (with_reducible refine' e_ltS ?_)
  | (with_reducible refine' e_eqI ?_)
  | (with_reducible refine' e_eqS ?_)
  | (with_reducible refine' e_neI ?_)
  | (with_reducible refine' e_neS ?_)
  | (with_reducible refine' e_neB ?_)
  | (with_reducible refine' e_isB ?_)
  | (with_reducible refine' e_isntB ?_)
  | (with_reducible refine' e_addI ?_)
  | (with_reducible refine' e_subI ?_)
  | (with_reducible refine' e_int1 ?_)
  | (with_reducible refine' e_max2 ?_)
  | (with_reducible refine' e_min2 ?_)
  | (with_reducible refine' e_lenL ?_)
  | (with_reducible refine' e_lenT ?_)
  | (with_reducible refine' e_lenR ?_)
  | (with_reducible refine' e_modI (by decide) ?_))
set_option synthInstance.maxHeartbeats 0
set_option synthInstance.maxSize 100000
local macro_rules | `(tactic| walk_at "k") => `(tactic| first
  | refine wgo ?_
  | ((with_reducible refine' e_var ?h ?_); (case h => exact rfl))
  | (with_reducible refine' e_gname ?_)
  | (with_reducible refine' e_modI (by decide) ?_)
  | ((with_reducible refine' e_sz ?h ?_); (case h => exact rfl)))
variable {P : Program} {K : PySem.W.Frag} {mg : Str → Option Value} {T : Top P K mg} {c : SH} {Ψ : XD} {Φ : QD}
def clsT (T : Top P K mg) : List Addr := [T.C_InvalidKind, T.C_InvalidName, T.C_SameMark, T.C_InvalidText, T.C_InvalidMeasure, T.C_InvalidMarks, T.C_InvalidMeasures, T.C_InvalidNumbers, T.C_InvalidPoints, T.C_InvalidShift, T.C_InvalidFactor, T.C_InvalidDrift, T.C_InvalidReadings, T.C_InvalidChanges, T.C_InvalidPrices, T.C_InvalidKnown, T.C_InvalidWays, T.C_InvalidLine, T.C_OutOfRange, T.C_DuplicateMark, T.C_UnknownMark, T.C_UnknownNumber, T.C_TooMany, T.C_NotNet, T.C_NotPlacing, T.C_NotWatched, T.C_NotEnough, T.C_NotApart, T.C_NoReading, T.C_NothingToUndo]
def posD (bs : List Bool) : List Int := (bs.zipIdx.filter (·.1)).map fun p => (p.2 : Int)
theorem enum_bls : ∀ (zs : List Bool) (i : Nat), enumD i (zs.map D.bl) = (zs.zipIdx i).map fun p => .tup [.int (p.2 : Nat), .bl p.1]
  | [], _ => rfl
  | z :: zs, i => by
    rw [List.map_cons, List.zipIdx_cons, List.map_cons, ← enum_bls zs (i + 1)]
    rfl
theorem pos_map (bs : List Bool) : (bs.zipIdx.filterMap fun p => if p.1 then some (D.int (p.2 : Nat)) else none) = (posD bs).map .int := by
  unfold posD
  rw [List.map_map]
  generalize bs.zipIdx = l
  induction l with
  | nil => rfl
  | cons p l ih =>
    obtain ⟨b, n⟩ := p
    cases b
    · simpa using ih
    · simpa using ih
theorem s_kinds {C : Addr} {fs : List (Str × D)} {b0 b1 b2 b3 b4 b5 b6 b7 b8 b9 b10 b11 b12 b13 b14 b15 b16 b17 b18 b19 b20 b21 b22 b23 b24 b25 b26 b27 b28 b29 : Bool} (Z : L2.ExcC K C) (h : kits K C (clsT T) = [some b0, some b1, some b2, some b3, some b4, some b5, some b6, some b7, some b8, some b9, some b10, some b11, some b12, some b13, some b14, some b15, some b16, some b17, some b18, some b19, some b20, some b21, some b22, some b23, some b24, some b25, some b26, some b27, some b28, some b29]) (q : Φ (.lst ((posD [b0, b1, b2, b3, b4, b5, b6, b7, b8, b9, b10, b11, b12, b13, b14, b15, b16, b17, b18, b19, b20, b21, b22, b23, b24, b25, b26, b27, b28, b29]).map .int)) c) : m_l_kinds T [.exc C fs] c Ψ Φ := by
  unfold kits clsT at h
  simp only [List.map_cons, List.map_nil, List.cons.injEq, and_true] at h
  obtain ⟨h0, h1, h2, h3, h4, h5, h6, h7, h8, h9, h10, h11, h12, h13, h14, h15, h16, h17, h18, h19, h20, h21, h22, h23, h24, h25, h26, h27, h28, h29⟩ := h

  refine e_fn (δ := [some _, none, none, none]) rfl rfl ?_
  repeat (first | walk_at "k" | refine .inr (e_isV Z rfl (by assumption) ?_) | refine e_addL (len_le (Nat.le_of_ble_eq_true rfl)) ?_)
  show lcD _ _ (enumD 0 ([b0, b1, b2, b3, b4, b5, b6, b7, b8, b9, b10, b11, b12, b13, b14, b15, b16, b17, b18, b19, b20, b21, b22, b23, b24, b25, b26, b27, b28, b29].map D.bl)) _ _ _
  rw [enum_bls]
  refine lc_map (fun p : Bool × Nat => D.tup [.int (p.2 : Nat), .bl p.1]) (fun p => if p.1 then some (D.int (p.2 : Nat)) else none) (by rfl) _ _ ?_ (fun y _ k hk => ?_) ?_
  · exact Nat.lt_of_lt_of_le (Nat.lt_of_succ_le (Nat.le_of_ble_eq_true (n := 31) (m := 1000) rfl)) (len_le (Nat.le_refl 1000))
  · obtain ⟨b, n⟩ := y
    cases b
    · repeat walk_at "k"
      exact hk
    · repeat walk_at "k"
      exact hk
  · rw [pos_map]
    repeat walk_at "k"
    exact .inl q
end K04
set_option Elab.async false
set_option linter.all false
set_option maxRecDepth 100000
set_option maxHeartbeats 600000
namespace K04
open PySem PySem.Spec PyProof.Rows L2 G M
local macro_rules | `(tactic| walk_at "m") => `(tactic| first
  | (with_reducible refine' e_seq ?_)
  | ((with_reducible refine' e_var ?h ?_); (case h => exact rfl))
  | (with_reducible refine' e_c ?_)
  | (with_reducible refine' e_op ?_)
  | (with_reducible refine' e_asg ?_)
  | (with_reducible refine' e_gname ?_)
  | (with_reducible refine' e_ifS ?_)
  | (with_reducible refine' e_test ?_)
  | (with_reducible refine' e_bl ?_)
  | (with_reducible refine' e_cb ?_)
  | (with_reducible refine' e_cons ?_)
  | (with_reducible refine' e_nil ?_)
  | (with_reducible refine' e_call ?_)
  | (with_reducible refine' e_ret ?_)
  | (with_reducible refine' e_drop ?_)
  | (with_reducible refine' e_next ?_)
  | (with_reducible refine' e_andT ?_)
  | (with_reducible refine' e_orT ?_)
  | (with_reducible refine' e_notT ?_)
  | (with_reducible refine' e_andM ?_)
  | (with_reducible refine' e_orM ?_)
  | (with_reducible refine' e_notM ?_)
  | (with_reducible refine' e_ifM ?_)
  | (with_reducible refine' e_chain ?_)
  | (with_reducible refine' e_un ?_)
  | (with_reducible refine' e_lst ?_)
  | (with_reducible refine' e_lstO ?_)
  | (with_reducible refine' e_tup ?_)
  | (with_reducible refine' e_par ?_)
  | (with_reducible refine' e_raise ?_)
  | (with_reducible refine' e_for ?_)
  | (with_reducible refine' e_meth ?_)
  | (with_reducible refine' e_prop ?_)
  | (with_reducible refine' e_make ?_)
  | (with_reducible refine' e_fld ?_)
  | (with_reducible refine' e_sfld ?_)
  | (with_reducible refine' e_noPart ?_)
  | (with_reducible refine' e_part ?_)
  | (with_reducible refine' e_int ?_)
  | (with_reducible refine' e_sl ?_)
  | (with_reducible refine' e_bm ?_)
  | (with_reducible refine' e_bm0 ?_)
  | (with_reducible refine' e_m1 ?_)
  | (with_reducible refine' e_it ?_)
  | (with_reducible refine' e_rng1 ?_)
  | (with_reducible refine' e_lc ?_)
  | (with_reducible refine' e_caught ?_)
  | (with_reducible refine' e_two ?_)
  | (with_reducible refine' e_one ?_)
  | (with_reducible refine' e_ifT ?_)
  | (with_reducible refine' e_ifF ?_)
  | (with_reducible refine' e_ifNT ?_)
  | (with_reducible refine' e_ifNF ?_)
  | (with_reducible refine' e_yes ?_)
  | (with_reducible refine' e_turn ?_)
  | (with_reducible refine' e_js ?_)
  | (with_reducible refine' e_jsc ?_)
  | (with_reducible refine' e_jsn ?_)
  | (with_reducible refine' e_fmt ?_)
  | (with_reducible refine' e_leI ?_)
  | (with_reducible refine' e_ltI ?_)
  | (with_reducible refine' e_gtI ?_)
  | (with_reducible refine' e_geI ?_)
  | (with_reducible refine' e_ltS ?_)
  | (with_reducible refine' e_eqI ?_)
  | (with_reducible refine' e_eqS ?_)
  | (with_reducible refine' e_neI ?_)
  | (with_reducible refine' e_neS ?_)
  | (with_reducible refine' e_neB ?_)
  | (with_reducible refine' e_isB ?_)
  | (with_reducible refine' e_isntB ?_)
  | (with_reducible refine' e_addI ?_)
  | (with_reducible refine' e_subI ?_)
  | (with_reducible refine' e_int1 ?_)
  | (with_reducible refine' e_max2 ?_)
  | (with_reducible refine' e_min2 ?_)
  | (with_reducible refine' e_lenL ?_)
  | (with_reducible refine' e_lenT ?_)
  | (with_reducible refine' e_lenR ?_)
  | (with_reducible refine' e_modI (by decide) ?_))
set_option synthInstance.maxHeartbeats 0
set_option synthInstance.maxSize 100000
local macro_rules | `(tactic| walk_at "k") => `(tactic| first
  | refine wgo ?_
  | ((with_reducible refine' e_var ?h ?_); (case h => exact rfl))
  | (with_reducible refine' e_gname ?_)
  | (with_reducible refine' e_modI (by decide) ?_)
  | ((with_reducible refine' e_sz ?h ?_); (case h => exact rfl)))
variable {P : Program} {K : PySem.W.Frag} {mg : Str → Option Value} {T : Top P K mg} {c : SH} {Ψ : XD} {Φ : QD}
theorem s_call {a0 a1 a2 a3 a7 a8 a9 : Option D} {n : Nat} (hn : n < 30) {d : D} {b : Bool} (q : ∀ (C : Addr) (fs : List (Str × D)), L2.ExcC K C → kits K C (clsT T) = [some (decide (0 = n)), some (decide (1 = n)), some (decide (2 = n)), some (decide (3 = n)), some (decide (4 = n)), some (decide (5 = n)), some (decide (6 = n)), some (decide (7 = n)), some (decide (8 = n)), some (decide (9 = n)), some (decide (10 = n)), some (decide (11 = n)), some (decide (12 = n)), some (decide (13 = n)), some (decide (14 = n)), some (decide (15 = n)), some (decide (16 = n)), some (decide (17 = n)), some (decide (18 = n)), some (decide (19 = n)), some (decide (20 = n)), some (decide (21 = n)), some (decide (22 = n)), some (decide (23 = n)), some (decide (24 = n)), some (decide (25 = n)), some (decide (26 = n)), some (decide (27 = n)), some (decide (28 = n)), some (decide (29 = n))] → PySem.W.kitOne K (.ref C) (.type "ValueError") = some true → PySem.W.kitOne K (.ref C) (.ref T.C_NetError) = some true → Φ (.tup [.exc C fs, .lst [d]]) c) :
    fdivD (.int (n : Int)) (.int 11) c (fun y c2 => ixD (.lst [.adr T.f_l_made0, .adr T.f_l_made1, .adr T.f_l_made2]) y c2 (callEK [(T.f_l_made0, m_l_made0 T), (T.f_l_made1, m_l_made1 T), (T.f_l_made2, m_l_made2 T)] (consM (varM 4) (consM (varM 5) (consM (varM 6) nilM))) [a0, a1, a2, a3, some (.int (n : Int)), some d, some (.bl b), a7, a8, a9] Ψ Φ)) := by
  match n, hn with
  | 0, _ =>
    refine ⟨⟨by decide, by decide⟩, ?_⟩
    refine e_ixL (x := .adr T.f_l_made0) rfl ?_
    refine e_callEK (F := m_l_made0 T) (.head _) ?_
    repeat walk_at "k"
    refine s_made_0 ?_
    exact q _ _ T.Z_InvalidKind T.kr_InvalidKind T.kv_InvalidKind T.kn_InvalidKind
  | 1, _ =>
    refine ⟨⟨by decide, by decide⟩, ?_⟩
    refine e_ixL (x := .adr T.f_l_made0) rfl ?_
    refine e_callEK (F := m_l_made0 T) (.head _) ?_
    repeat walk_at "k"
    refine s_made_1 ?_
    exact q _ _ T.Z_InvalidName T.kr_InvalidName T.kv_InvalidName T.kn_InvalidName
  | 2, _ =>
    refine ⟨⟨by decide, by decide⟩, ?_⟩
    refine e_ixL (x := .adr T.f_l_made0) rfl ?_
    refine e_callEK (F := m_l_made0 T) (.head _) ?_
    repeat walk_at "k"
    refine s_made_2 ?_
    exact q _ _ T.Z_SameMark T.kr_SameMark T.kv_SameMark T.kn_SameMark
  | 3, _ =>
    refine ⟨⟨by decide, by decide⟩, ?_⟩
    refine e_ixL (x := .adr T.f_l_made0) rfl ?_
    refine e_callEK (F := m_l_made0 T) (.head _) ?_
    repeat walk_at "k"
    refine s_made_3 ?_
    exact q _ _ T.Z_InvalidText T.kr_InvalidText T.kv_InvalidText T.kn_InvalidText
  | 4, _ =>
    refine ⟨⟨by decide, by decide⟩, ?_⟩
    refine e_ixL (x := .adr T.f_l_made0) rfl ?_
    refine e_callEK (F := m_l_made0 T) (.head _) ?_
    repeat walk_at "k"
    refine s_made_4 ?_
    exact q _ _ T.Z_InvalidMeasure T.kr_InvalidMeasure T.kv_InvalidMeasure T.kn_InvalidMeasure
  | 5, _ =>
    refine ⟨⟨by decide, by decide⟩, ?_⟩
    refine e_ixL (x := .adr T.f_l_made0) rfl ?_
    refine e_callEK (F := m_l_made0 T) (.head _) ?_
    repeat walk_at "k"
    refine s_made_5 ?_
    exact q _ _ T.Z_InvalidMarks T.kr_InvalidMarks T.kv_InvalidMarks T.kn_InvalidMarks
  | 6, _ =>
    refine ⟨⟨by decide, by decide⟩, ?_⟩
    refine e_ixL (x := .adr T.f_l_made0) rfl ?_
    refine e_callEK (F := m_l_made0 T) (.head _) ?_
    repeat walk_at "k"
    refine s_made_6 ?_
    exact q _ _ T.Z_InvalidMeasures T.kr_InvalidMeasures T.kv_InvalidMeasures T.kn_InvalidMeasures
  | 7, _ =>
    refine ⟨⟨by decide, by decide⟩, ?_⟩
    refine e_ixL (x := .adr T.f_l_made0) rfl ?_
    refine e_callEK (F := m_l_made0 T) (.head _) ?_
    repeat walk_at "k"
    refine s_made_7 ?_
    exact q _ _ T.Z_InvalidNumbers T.kr_InvalidNumbers T.kv_InvalidNumbers T.kn_InvalidNumbers
  | 8, _ =>
    refine ⟨⟨by decide, by decide⟩, ?_⟩
    refine e_ixL (x := .adr T.f_l_made0) rfl ?_
    refine e_callEK (F := m_l_made0 T) (.head _) ?_
    repeat walk_at "k"
    refine s_made_8 ?_
    exact q _ _ T.Z_InvalidPoints T.kr_InvalidPoints T.kv_InvalidPoints T.kn_InvalidPoints
  | 9, _ =>
    refine ⟨⟨by decide, by decide⟩, ?_⟩
    refine e_ixL (x := .adr T.f_l_made0) rfl ?_
    refine e_callEK (F := m_l_made0 T) (.head _) ?_
    repeat walk_at "k"
    refine s_made_9 ?_
    exact q _ _ T.Z_InvalidShift T.kr_InvalidShift T.kv_InvalidShift T.kn_InvalidShift
  | 10, _ =>
    refine ⟨⟨by decide, by decide⟩, ?_⟩
    refine e_ixL (x := .adr T.f_l_made0) rfl ?_
    refine e_callEK (F := m_l_made0 T) (.head _) ?_
    repeat walk_at "k"
    refine s_made_10 ?_
    exact q _ _ T.Z_InvalidFactor T.kr_InvalidFactor T.kv_InvalidFactor T.kn_InvalidFactor
  | 11, _ =>
    refine ⟨⟨by decide, by decide⟩, ?_⟩
    refine e_ixL (x := .adr T.f_l_made1) rfl ?_
    refine e_callEK (F := m_l_made1 T) (.tail _ (.head _)) ?_
    repeat walk_at "k"
    refine s_made_11 ?_
    exact q _ _ T.Z_InvalidDrift T.kr_InvalidDrift T.kv_InvalidDrift T.kn_InvalidDrift
  | 12, _ =>
    refine ⟨⟨by decide, by decide⟩, ?_⟩
    refine e_ixL (x := .adr T.f_l_made1) rfl ?_
    refine e_callEK (F := m_l_made1 T) (.tail _ (.head _)) ?_
    repeat walk_at "k"
    refine s_made_12 ?_
    exact q _ _ T.Z_InvalidReadings T.kr_InvalidReadings T.kv_InvalidReadings T.kn_InvalidReadings
  | 13, _ =>
    refine ⟨⟨by decide, by decide⟩, ?_⟩
    refine e_ixL (x := .adr T.f_l_made1) rfl ?_
    refine e_callEK (F := m_l_made1 T) (.tail _ (.head _)) ?_
    repeat walk_at "k"
    refine s_made_13 ?_
    exact q _ _ T.Z_InvalidChanges T.kr_InvalidChanges T.kv_InvalidChanges T.kn_InvalidChanges
  | 14, _ =>
    refine ⟨⟨by decide, by decide⟩, ?_⟩
    refine e_ixL (x := .adr T.f_l_made1) rfl ?_
    refine e_callEK (F := m_l_made1 T) (.tail _ (.head _)) ?_
    repeat walk_at "k"
    refine s_made_14 ?_
    exact q _ _ T.Z_InvalidPrices T.kr_InvalidPrices T.kv_InvalidPrices T.kn_InvalidPrices
  | 15, _ =>
    refine ⟨⟨by decide, by decide⟩, ?_⟩
    refine e_ixL (x := .adr T.f_l_made1) rfl ?_
    refine e_callEK (F := m_l_made1 T) (.tail _ (.head _)) ?_
    repeat walk_at "k"
    refine s_made_15 ?_
    exact q _ _ T.Z_InvalidKnown T.kr_InvalidKnown T.kv_InvalidKnown T.kn_InvalidKnown
  | 16, _ =>
    refine ⟨⟨by decide, by decide⟩, ?_⟩
    refine e_ixL (x := .adr T.f_l_made1) rfl ?_
    refine e_callEK (F := m_l_made1 T) (.tail _ (.head _)) ?_
    repeat walk_at "k"
    refine s_made_16 ?_
    exact q _ _ T.Z_InvalidWays T.kr_InvalidWays T.kv_InvalidWays T.kn_InvalidWays
  | 17, _ =>
    refine ⟨⟨by decide, by decide⟩, ?_⟩
    refine e_ixL (x := .adr T.f_l_made1) rfl ?_
    refine e_callEK (F := m_l_made1 T) (.tail _ (.head _)) ?_
    repeat walk_at "k"
    refine s_made_17 ?_
    exact q _ _ T.Z_InvalidLine T.kr_InvalidLine T.kv_InvalidLine T.kn_InvalidLine
  | 18, _ =>
    refine ⟨⟨by decide, by decide⟩, ?_⟩
    refine e_ixL (x := .adr T.f_l_made1) rfl ?_
    refine e_callEK (F := m_l_made1 T) (.tail _ (.head _)) ?_
    repeat walk_at "k"
    refine s_made_18 ?_
    exact q _ _ T.Z_OutOfRange T.kr_OutOfRange T.kv_OutOfRange T.kn_OutOfRange
  | 19, _ =>
    refine ⟨⟨by decide, by decide⟩, ?_⟩
    refine e_ixL (x := .adr T.f_l_made1) rfl ?_
    refine e_callEK (F := m_l_made1 T) (.tail _ (.head _)) ?_
    repeat walk_at "k"
    refine s_made_19 ?_
    exact q _ _ T.Z_DuplicateMark T.kr_DuplicateMark T.kv_DuplicateMark T.kn_DuplicateMark
  | 20, _ =>
    refine ⟨⟨by decide, by decide⟩, ?_⟩
    refine e_ixL (x := .adr T.f_l_made1) rfl ?_
    refine e_callEK (F := m_l_made1 T) (.tail _ (.head _)) ?_
    repeat walk_at "k"
    refine s_made_20 ?_
    exact q _ _ T.Z_UnknownMark T.kr_UnknownMark T.kv_UnknownMark T.kn_UnknownMark
  | 21, _ =>
    refine ⟨⟨by decide, by decide⟩, ?_⟩
    refine e_ixL (x := .adr T.f_l_made1) rfl ?_
    refine e_callEK (F := m_l_made1 T) (.tail _ (.head _)) ?_
    repeat walk_at "k"
    refine s_made_21 ?_
    exact q _ _ T.Z_UnknownNumber T.kr_UnknownNumber T.kv_UnknownNumber T.kn_UnknownNumber
  | 22, _ =>
    refine ⟨⟨by decide, by decide⟩, ?_⟩
    refine e_ixL (x := .adr T.f_l_made2) rfl ?_
    refine e_callEK (F := m_l_made2 T) (.tail _ (.tail _ (.head _))) ?_
    repeat walk_at "k"
    refine s_made_22 ?_
    exact q _ _ T.Z_TooMany T.kr_TooMany T.kv_TooMany T.kn_TooMany
  | 23, _ =>
    refine ⟨⟨by decide, by decide⟩, ?_⟩
    refine e_ixL (x := .adr T.f_l_made2) rfl ?_
    refine e_callEK (F := m_l_made2 T) (.tail _ (.tail _ (.head _))) ?_
    repeat walk_at "k"
    refine s_made_23 ?_
    exact q _ _ T.Z_NotNet T.kr_NotNet T.kv_NotNet T.kn_NotNet
  | 24, _ =>
    refine ⟨⟨by decide, by decide⟩, ?_⟩
    refine e_ixL (x := .adr T.f_l_made2) rfl ?_
    refine e_callEK (F := m_l_made2 T) (.tail _ (.tail _ (.head _))) ?_
    repeat walk_at "k"
    refine s_made_24 ?_
    exact q _ _ T.Z_NotPlacing T.kr_NotPlacing T.kv_NotPlacing T.kn_NotPlacing
  | 25, _ =>
    refine ⟨⟨by decide, by decide⟩, ?_⟩
    refine e_ixL (x := .adr T.f_l_made2) rfl ?_
    refine e_callEK (F := m_l_made2 T) (.tail _ (.tail _ (.head _))) ?_
    repeat walk_at "k"
    refine s_made_25 ?_
    exact q _ _ T.Z_NotWatched T.kr_NotWatched T.kv_NotWatched T.kn_NotWatched
  | 26, _ =>
    refine ⟨⟨by decide, by decide⟩, ?_⟩
    refine e_ixL (x := .adr T.f_l_made2) rfl ?_
    refine e_callEK (F := m_l_made2 T) (.tail _ (.tail _ (.head _))) ?_
    repeat walk_at "k"
    refine s_made_26 ?_
    exact q _ _ T.Z_NotEnough T.kr_NotEnough T.kv_NotEnough T.kn_NotEnough
  | 27, _ =>
    refine ⟨⟨by decide, by decide⟩, ?_⟩
    refine e_ixL (x := .adr T.f_l_made2) rfl ?_
    refine e_callEK (F := m_l_made2 T) (.tail _ (.tail _ (.head _))) ?_
    repeat walk_at "k"
    refine s_made_27 ?_
    exact q _ _ T.Z_NotApart T.kr_NotApart T.kv_NotApart T.kn_NotApart
  | 28, _ =>
    refine ⟨⟨by decide, by decide⟩, ?_⟩
    refine e_ixL (x := .adr T.f_l_made2) rfl ?_
    refine e_callEK (F := m_l_made2 T) (.tail _ (.tail _ (.head _))) ?_
    repeat walk_at "k"
    refine s_made_28 ?_
    exact q _ _ T.Z_NoReading T.kr_NoReading T.kv_NoReading T.kn_NoReading
  | 29, _ =>
    refine ⟨⟨by decide, by decide⟩, ?_⟩
    refine e_ixL (x := .adr T.f_l_made2) rfl ?_
    refine e_callEK (F := m_l_made2 T) (.tail _ (.tail _ (.head _))) ?_
    repeat walk_at "k"
    refine s_made_29 ?_
    exact q _ _ T.Z_NothingToUndo T.kr_NothingToUndo T.kv_NothingToUndo T.kn_NothingToUndo
  | m + 30, h => exact absurd h (by omega)
end K04
set_option Elab.async false
set_option linter.all false
set_option maxRecDepth 100000
set_option maxHeartbeats 600000
namespace K04
open PySem PySem.Spec PyProof.Rows L2 G M
local macro_rules | `(tactic| walk_at "m") => `(tactic| first
  | (with_reducible refine' e_seq ?_)
  | ((with_reducible refine' e_var ?h ?_); (case h => exact rfl))
  | (with_reducible refine' e_c ?_)
  | (with_reducible refine' e_op ?_)
  | (with_reducible refine' e_asg ?_)
  | (with_reducible refine' e_gname ?_)
  | (with_reducible refine' e_ifS ?_)
  | (with_reducible refine' e_test ?_)
  | (with_reducible refine' e_bl ?_)
  | (with_reducible refine' e_cb ?_)
  | (with_reducible refine' e_cons ?_)
  | (with_reducible refine' e_nil ?_)
  | (with_reducible refine' e_call ?_)
  | (with_reducible refine' e_ret ?_)
  | (with_reducible refine' e_drop ?_)
  | (with_reducible refine' e_next ?_)
  | (with_reducible refine' e_andT ?_)
  | (with_reducible refine' e_orT ?_)
  | (with_reducible refine' e_notT ?_)
  | (with_reducible refine' e_andM ?_)
  | (with_reducible refine' e_orM ?_)
  | (with_reducible refine' e_notM ?_)
  | (with_reducible refine' e_ifM ?_)
  | (with_reducible refine' e_chain ?_)
  | (with_reducible refine' e_un ?_)
  | (with_reducible refine' e_lst ?_)
  | (with_reducible refine' e_lstO ?_)
  | (with_reducible refine' e_tup ?_)
  | (with_reducible refine' e_par ?_)
  | (with_reducible refine' e_raise ?_)
  | (with_reducible refine' e_for ?_)
  | (with_reducible refine' e_meth ?_)
  | (with_reducible refine' e_prop ?_)
  | (with_reducible refine' e_make ?_)
  | (with_reducible refine' e_fld ?_)
  | (with_reducible refine' e_sfld ?_)
  | (with_reducible refine' e_noPart ?_)
  | (with_reducible refine' e_part ?_)
  | (with_reducible refine' e_int ?_)
  | (with_reducible refine' e_sl ?_)
  | (with_reducible refine' e_bm ?_)
  | (with_reducible refine' e_bm0 ?_)
  | (with_reducible refine' e_m1 ?_)
  | (with_reducible refine' e_it ?_)
  | (with_reducible refine' e_rng1 ?_)
  | (with_reducible refine' e_lc ?_)
  | (with_reducible refine' e_caught ?_)
  | (with_reducible refine' e_two ?_)
  | (with_reducible refine' e_one ?_)
  | (with_reducible refine' e_ifT ?_)
  | (with_reducible refine' e_ifF ?_)
  | (with_reducible refine' e_ifNT ?_)
  | (with_reducible refine' e_ifNF ?_)
  | (with_reducible refine' e_yes ?_)
  | (with_reducible refine' e_turn ?_)
  | (with_reducible refine' e_js ?_)
  | (with_reducible refine' e_jsc ?_)
  | (with_reducible refine' e_jsn ?_)
  | (with_reducible refine' e_fmt ?_)
  | (with_reducible refine' e_leI ?_)
  | (with_reducible refine' e_ltI ?_)
  | (with_reducible refine' e_gtI ?_)
  | (with_reducible refine' e_geI ?_)
  | (with_reducible refine' e_ltS ?_)
  | (with_reducible refine' e_eqI ?_)
  | (with_reducible refine' e_eqS ?_)
  | (with_reducible refine' e_neI ?_)
  | (with_reducible refine' e_neS ?_)
  | (with_reducible refine' e_neB ?_)
  | (with_reducible refine' e_isB ?_)
  | (with_reducible refine' e_isntB ?_)
  | (with_reducible refine' e_addI ?_)
  | (with_reducible refine' e_subI ?_)
  | (with_reducible refine' e_int1 ?_)
  | (with_reducible refine' e_max2 ?_)
  | (with_reducible refine' e_min2 ?_)
  | (with_reducible refine' e_lenL ?_)
  | (with_reducible refine' e_lenT ?_)
  | (with_reducible refine' e_lenR ?_)
  | (with_reducible refine' e_modI (by decide) ?_))
set_option synthInstance.maxHeartbeats 0
set_option synthInstance.maxSize 100000
local macro_rules | `(tactic| walk_at "k") => `(tactic| first
  | refine wgo ?_
  | ((with_reducible refine' e_var ?h ?_); (case h => exact rfl))
  | (with_reducible refine' e_gname ?_)
  | (with_reducible refine' e_modI (by decide) ?_)
  | ((with_reducible refine' e_sz ?h ?_); (case h => exact rfl)))
variable {P : Program} {K : PySem.W.Frag} {mg : Str → Option Value} {T : Top P K mg} {c : SH} {Ψ : XD} {Φ : QD}
theorem e_newKT {kvs : List (Key × D)} (q : Φ (.obj c.length) (c ++ [.dic kvs])) : newK true kvs c Φ := by unfold newK; exact e_ifT q
def kv0 : List (Key × D) := [(.inr (Str.ofString "a"), .tup [.int 1, .int 2])]
def late : D := .str (Str.ofString "late")
def kv1 (j : Int) : List (Key × D) := kv0 ++ [(.inr (Str.ofString "late"), .int j)]
def KvOk (kv : List (Key × D)) : Prop := kv = kv0 ∨ kv = kv1 1 ∨ kv = kv1 2
/-- what the objects hold -/
structure St4 (c : SH) (i iL iD n m : Nat) (v : Int) (kv : List (Key × D)) : Prop where
  hb : c[i]? = some (.box n)
  hL : c[iL]? = some (.lst (.int v :: List.replicate m late))
  hD : c[iD]? = some (.dic kv)
  kv : KvOk kv
def things (w v u : Int) (iL iD : Nat) : List D := [.non, .int w, .str (Txt.mul (Str.ofString "a") u), .obj iL, .obj iD, .tup [], .bl true]
def Shw (p : PyData) : Prop := (PyData.list [p]).showable = true ∧ (PyData.list [p]).depth ≤ 60 ∧ (PyData.list [p]).leavesShort 13 = true ∧ (PyData.list [p]).weight ≤ 1048576
instance (p : PyData) : Decidable (Shw p) := by unfold Shw; exact inferInstance
theorem Shw.fits {p : PyData} (h : Shw p) : (PyData.list [p]).shown.length ≤ sizeLine := PyData.shown_fits (B := 13) (by decide) (by decide) h.2.2.1 h.2.2.2
theorem shw_int : ∀ k < 100, Shw (.int (k : Nat)) := by decide +kernel
theorem shw_str : ∀ k < 9, Shw (.str (Txt.mul (Str.ofString "a") (k : Nat))) := by decide +kernel
theorem ok_str : ∀ k < 9, PyData.strOk (Txt.mul (Str.ofString "a") ((k : Nat) : Int)) = true := by decide +kernel
theorem shw_lst : ∀ v < 9, ∀ m < 61, Shw (.list (.int (v : Nat) :: List.replicate m (.str (Str.ofString "late")))) := by decide +kernel
theorem shw_dic : Shw (.dict [(.str (Str.ofString "a"), .tuple [.int 1, .int 2])]) ∧ ∀ j < 3, Shw (.dict [(.str (Str.ofString "a"), .tuple [.int 1, .int 2]), (.str (Str.ofString "late"), .int (j : Nat))]) := by decide +kernel
theorem shw_rest : Shw .none ∧ Shw (.tuple []) ∧ Shw (.bool true) := by decide +kernel
theorem pyZL_late (ob : Nat → Option PyData) : ∀ m : Nat, pyZL ob (List.replicate m late) = some (List.replicate m (.str (Str.ofString "late")))
  | 0 => rfl
  | m + 1 => by
    rw [List.replicate_succ, List.replicate_succ]
    unfold pyZL
    rw [pyZL_late ob m]
    rfl
theorem s_things {i iL iD n m w v u : Nat} {kv : List (Key × D)} (S : St4 c i iL iD n m v kv) (hm : m < 61) (hw : w < 100) (hv : v < 9) (hu : u < 9) {d : D} (hd : d ∈ things w v u iL iD) : ∃ p, pyZ (pyOZ c) d = some p ∧ Shw p := by
  simp only [things, List.mem_cons, List.not_mem_nil, or_false] at hd
  rcases hd with rfl | rfl | rfl | rfl | rfl | rfl | rfl
  · exact ⟨_, rfl, shw_rest.1⟩
  · exact ⟨_, rfl, shw_int w hw⟩
  · exact ⟨_, rfl, shw_str u hu⟩
  · refine ⟨.list (.int (v : Nat) :: List.replicate m (.str (Str.ofString "late"))), ?_, shw_lst v hv m hm⟩
    show pyOZ c iL = _
    unfold pyOZ
    rw [S.hL]
    dsimp only
    unfold pyZL
    rw [pyZL_late]
    rfl
  · rcases S.kv with rfl | rfl | rfl
    · refine ⟨_, ?_, shw_dic.1⟩
      show pyOZ c iD = _
      unfold pyOZ
      rw [S.hD]
      rfl
    · refine ⟨_, ?_, shw_dic.2 1 (by decide)⟩
      show pyOZ c iD = _
      unfold pyOZ
      rw [S.hD]
      rfl
    · refine ⟨_, ?_, shw_dic.2 2 (by decide)⟩
      show pyOZ c iD = _
      unfold pyOZ
      rw [S.hD]
      rfl
  · exact ⟨_, rfl, shw_rest.2.1⟩
  · exact ⟨_, rfl, shw_rest.2.2⟩
theorem e_reprT {c : SH} {Φ : QD} {d : D} {p : PyData} (e : pyZ (pyOZ c) d = some p) (h : Shw p) (q : Φ (.str (PyData.list [p]).shown) c) : orC reprD reprZD [.lst [d]] c Φ := by
  refine .inr (e_reprZ (p := .list [p]) ?_ rfl h.1 h.2.1 h.fits q)
  unfold pyZ pyZL
  rw [e]
  rfl
theorem St4.ne {i iL iD n m : Nat} {v : Int} {kv : List (Key × D)} (S : St4 c i iL iD n m v kv) : i ≠ iL ∧ i ≠ iD ∧ iL ≠ iD := by
  refine ⟨?_, ?_, ?_⟩ <;> rintro rfl
  · have := S.hb.symm.trans S.hL; cases this
  · have := S.hb.symm.trans S.hD; cases this
  · have := S.hL.symm.trans S.hD; cases this
theorem St4.box {i iL iD n m : Nat} {v : Int} {kv : List (Key × D)} (S : St4 c i iL iD n m v kv) (n' : Nat) : St4 (c.set i (.box n')) i iL iD n' m v kv := by
  obtain ⟨h1, h2, _⟩ := S.ne
  exact ⟨box_set S.hb, by rw [List.getElem?_set_ne h1]; exact S.hL, by rw [List.getElem?_set_ne h2]; exact S.hD, S.kv⟩
theorem St4.lst {i iL iD n m : Nat} {v : Int} {kv : List (Key × D)} (S : St4 c i iL iD n m v kv) : St4 (c.set iL (.lst ((.int v :: List.replicate m late) ++ [late]))) i iL iD n (m + 1) v kv := by
  obtain ⟨h1, h2, h3⟩ := S.ne
  have hl := (List.getElem?_eq_some_iff.mp S.hL).1
  refine ⟨by rw [List.getElem?_set_ne h1.symm]; exact S.hb, ?_, by rw [List.getElem?_set_ne h3]; exact S.hD, S.kv⟩
  rw [List.getElem?_set_self hl, List.cons_append, List.replicate_succ']
theorem St4.dic {i iL iD n m : Nat} {v : Int} {kv kv' : List (Key × D)} (S : St4 c i iL iD n m v kv) (h : KvOk kv') : St4 (c.set iD (.dic kv')) i iL iD n m v kv' := by
  obtain ⟨h1, h2, h3⟩ := S.ne
  have hl := (List.getElem?_eq_some_iff.mp S.hD).1
  exact ⟨by rw [List.getElem?_set_ne h2.symm]; exact S.hb, by rw [List.getElem?_set_ne h3.symm]; exact S.hL, by rw [List.getElem?_set_self hl], h⟩
theorem e_appendK {k : Nat} {ys : List D} {y : D} (h : c[k]? = some (.lst ys)) (hl : ys.length ≤ 900) (q : Φ .non (c.set k (.lst (ys ++ [y])))) : appendD (.obj k) [y] c Φ := by
  show liveL (.obj k) c fun k ys => ys.length < sizeLine ∧ Φ .non (c.set k (.lst (ys ++ [y])))
  unfold liveL
  dsimp only
  rw [h]
  exact ⟨lt_sz (by omega), q⟩
theorem e_lenKV {x : D} {kvs : List (Key × D)} (h : view c x = .dic kvs) (q : Φ (.int kvs.length) c) : lenD [x] c Φ := by
  unfold lenD oneD
  dsimp only
  rw [h]
  exact q
theorem e_pyS {d : D} {p : PyData} (h : pyC c (.lst [d]) = some (.list [p])) (s : SeqAt.shaped (.list [p]) = true) (e : PyData.eqv (.list [p]) (.list [p]) = true) (q : Φ (.bl false) c) : neD (.lst [d]) (.lst [d]) c Φ := e_pyN rfl h h s s (by rw [e]; exact q)
theorem put_kv {kv : List (Key × D)} (h : KvOk kv) : KvOk (putKD kv (.inr (Str.ofString "late")) (.int kv.length)) := by
  rcases h with rfl | rfl | rfl
  · exact .inr (.inl (by rfl))
  · exact .inr (.inr (by rfl))
  · exact .inr (.inr (by rfl))
theorem kv_len {kv : List (Key × D)} (h : KvOk kv) : kv.length < sizeLine := by
  rcases h with rfl | rfl | rfl <;> decide
end K04
set_option Elab.async false
set_option linter.all false
set_option maxRecDepth 100000
set_option maxHeartbeats 600000
namespace K04
open PySem PySem.Spec PyProof.Rows L2 G M
local macro_rules | `(tactic| walk_at "m") => `(tactic| first
  | (with_reducible refine' e_seq ?_)
  | ((with_reducible refine' e_var ?h ?_); (case h => exact rfl))
  | (with_reducible refine' e_c ?_)
  | (with_reducible refine' e_op ?_)
  | (with_reducible refine' e_asg ?_)
  | (with_reducible refine' e_gname ?_)
  | (with_reducible refine' e_ifS ?_)
  | (with_reducible refine' e_test ?_)
  | (with_reducible refine' e_bl ?_)
  | (with_reducible refine' e_cb ?_)
  | (with_reducible refine' e_cons ?_)
  | (with_reducible refine' e_nil ?_)
  | (with_reducible refine' e_call ?_)
  | (with_reducible refine' e_ret ?_)
  | (with_reducible refine' e_drop ?_)
  | (with_reducible refine' e_next ?_)
  | (with_reducible refine' e_andT ?_)
  | (with_reducible refine' e_orT ?_)
  | (with_reducible refine' e_notT ?_)
  | (with_reducible refine' e_andM ?_)
  | (with_reducible refine' e_orM ?_)
  | (with_reducible refine' e_notM ?_)
  | (with_reducible refine' e_ifM ?_)
  | (with_reducible refine' e_chain ?_)
  | (with_reducible refine' e_un ?_)
  | (with_reducible refine' e_lst ?_)
  | (with_reducible refine' e_lstO ?_)
  | (with_reducible refine' e_tup ?_)
  | (with_reducible refine' e_par ?_)
  | (with_reducible refine' e_raise ?_)
  | (with_reducible refine' e_for ?_)
  | (with_reducible refine' e_meth ?_)
  | (with_reducible refine' e_prop ?_)
  | (with_reducible refine' e_make ?_)
  | (with_reducible refine' e_fld ?_)
  | (with_reducible refine' e_sfld ?_)
  | (with_reducible refine' e_noPart ?_)
  | (with_reducible refine' e_part ?_)
  | (with_reducible refine' e_int ?_)
  | (with_reducible refine' e_sl ?_)
  | (with_reducible refine' e_bm ?_)
  | (with_reducible refine' e_bm0 ?_)
  | (with_reducible refine' e_m1 ?_)
  | (with_reducible refine' e_it ?_)
  | (with_reducible refine' e_rng1 ?_)
  | (with_reducible refine' e_lc ?_)
  | (with_reducible refine' e_caught ?_)
  | (with_reducible refine' e_two ?_)
  | (with_reducible refine' e_one ?_)
  | (with_reducible refine' e_ifT ?_)
  | (with_reducible refine' e_ifF ?_)
  | (with_reducible refine' e_ifNT ?_)
  | (with_reducible refine' e_ifNF ?_)
  | (with_reducible refine' e_yes ?_)
  | (with_reducible refine' e_turn ?_)
  | (with_reducible refine' e_js ?_)
  | (with_reducible refine' e_jsc ?_)
  | (with_reducible refine' e_jsn ?_)
  | (with_reducible refine' e_fmt ?_)
  | (with_reducible refine' e_leI ?_)
  | (with_reducible refine' e_ltI ?_)
  | (with_reducible refine' e_gtI ?_)
  | (with_reducible refine' e_geI ?_)
  | (with_reducible refine' e_ltS ?_)
  | (with_reducible refine' e_eqI ?_)
  | (with_reducible refine' e_eqS ?_)
  | (with_reducible refine' e_neI ?_)
  | (with_reducible refine' e_neS ?_)
  | (with_reducible refine' e_neB ?_)
  | (with_reducible refine' e_isB ?_)
  | (with_reducible refine' e_isntB ?_)
  | (with_reducible refine' e_addI ?_)
  | (with_reducible refine' e_subI ?_)
  | (with_reducible refine' e_int1 ?_)
  | (with_reducible refine' e_max2 ?_)
  | (with_reducible refine' e_min2 ?_)
  | (with_reducible refine' e_lenL ?_)
  | (with_reducible refine' e_lenT ?_)
  | (with_reducible refine' e_lenR ?_)
  | (with_reducible refine' e_modI (by decide) ?_))
set_option synthInstance.maxHeartbeats 0
set_option synthInstance.maxSize 100000
local macro_rules | `(tactic| walk_at "k") => `(tactic| first
  | refine wgo ?_
  | ((with_reducible refine' e_var ?h ?_); (case h => exact rfl))
  | (with_reducible refine' e_gname ?_)
  | (with_reducible refine' e_modI (by decide) ?_)
  | ((with_reducible refine' e_sz ?h ?_); (case h => exact rfl)))
variable {P : Program} {K : PySem.W.Frag} {mg : Str → Option Value} {T : Top P K mg} {c : SH} {Ψ : XD} {Φ : QD}
theorem pos_row : ∀ k : Nat, k < 30 → posD [decide (0 = k), decide (1 = k), decide (2 = k), decide (3 = k), decide (4 = k), decide (5 = k), decide (6 = k), decide (7 = k), decide (8 = k), decide (9 = k), decide (10 = k), decide (11 = k), decide (12 = k), decide (13 = k), decide (14 = k), decide (15 = k), decide (16 = k), decide (17 = k), decide (18 = k), decide (19 = k), decide (20 = k), decide (21 = k), decide (22 = k), decide (23 = k), decide (24 = k), decide (25 = k), decide (26 = k), decide (27 = k), decide (28 = k), decide (29 = k)] = [(k : Int)] := by decide +kernel
theorem law_true (ns : List Int) (hl : ns.length ≤ 63) : m_law T [.scr (ns.map .int)] [] noX fun d _ => d = .bl true := by
  refine e_fn (δ := [some _, none, none, none, none, none, none, none, none, none]) rfl rfl ?_
  repeat walk_at "k"
  rw [List.length_map]
  have hN : ∃ N : Nat, N ≤ 4 ∧ (if (if (ns.length : Int) < 4 then (ns.length : Int) else 4) > 2 then (if (ns.length : Int) < 4 then (ns.length : Int) else 4) else 2) = (N : Int) := by
    by_cases h1 : (ns.length : Int) < 4
    · rw [if_pos h1]
      by_cases h2 : (ns.length : Int) > 2
      · rw [if_pos h2]; exact ⟨ns.length, by omega, rfl⟩
      · rw [if_neg h2]; exact ⟨2, by decide, rfl⟩
    · rw [if_neg h1]; exact ⟨4, by decide, rfl⟩
  obtain ⟨N, hN8, eN⟩ := hN
  rw [eN]
  refine ⟨⟨by omega, by omega⟩, ?_⟩
  rw [Int.toNat_natCast]
  refine for_inv (fun δ c' => ∃ x1 x2 x3 x4 x5 x6 x7 x8, δ = [some (.scr (ns.map .int)), x1, x2, x3, x4, x5, x6, x7, x8, none]) _ ?_ ?_ _ _ ⟨_, _, _, _, _, _, _, _, rfl⟩
  · rintro x hx δ c' e' ⟨x1, x2, x3, x4, x5, x6, x7, x8, rfl⟩ nx _ _ _ _
    obtain ⟨j, hj, rfl⟩ := List.mem_map.mp hx
    have hj2 := List.mem_range.mp hj
    refine ⟨trivial, ?_⟩
    repeat walk_at "k"
    rw [Int.zero_add]
    refine s_cell hl (by omega) fun i0 => ?_
    repeat walk_at "k"
    refine s_box ?_
    have hb0 : (c' ++ [SO.box 0])[c'.length]? = some (.box 0) := by
      rw [List.getElem?_append_right (Nat.le_refl _), Nat.sub_self]; rfl
    generalize c' ++ [SO.box 0] = c0 at hb0
    generalize c'.length = i at hb0
    repeat walk_at "k"
    refine s_take hb0 (by decide) (by decide) (by decide) fun w w0 w1 => ?_
    have hb1 := box_set (o := .box (0 + 1)) hb0
    generalize c0.set i (SO.box (0 + 1)) = c1 at hb1
    repeat walk_at "k"
    refine s_take hb1 (by decide) (by decide) (by decide) fun u u0 u1 => ?_
    have hb2 := box_set (o := .box (0 + 1 + 1)) hb1
    generalize c1.set i (SO.box (0 + 1 + 1)) = c2 at hb2
    repeat walk_at "k"
    refine e_mulS ⟨u0, by omega, by show 1 * u.toNat ≤ _; omega⟩ ?_
    repeat walk_at "k"
    refine s_take hb2 (by decide) (by decide) (by decide) fun v v0 v1 => ?_
    have hb3 := box_set (o := .box (0 + 1 + 1 + 1)) hb2
    generalize c2.set i (SO.box (0 + 1 + 1 + 1)) = c3 at hb3
    repeat walk_at "k"
    refine ⟨by decide, e_newKT ?_⟩
    have hS : St4 (c3 ++ [SO.lst [.int v]] ++ [SO.dic kv0]) i c3.length (c3.length + 1) 3 0 v kv0 := by
      have hi := box_len hb3
      refine ⟨?_, ?_, ?_, .inl rfl⟩
      · rw [List.getElem?_append_left (by rw [List.length_append]; omega), List.getElem?_append_left hi]
        exact hb3
      · rw [List.getElem?_append_left (by simp), List.getElem?_append_right (Nat.le_refl _), Nat.sub_self]
        rfl
      · rw [List.getElem?_append_right (by simp), List.length_append]
        simp
    rw [show (c3 ++ [SO.lst [D.int v]]).length = c3.length + 1 by simp]
    rw [show mergeD [] [(Sum.inr (Str.ofString "a"), D.tup [D.int 1, D.int 2])] = kv0 from rfl]
    generalize c3.length + 1 = iD at hS
    generalize c3.length = iL at hS
    generalize c3 ++ [SO.lst [.int v]] ++ [SO.dic kv0] = c4 at hS
    obtain ⟨w, rfl⟩ := Int.eq_ofNat_of_zero_le w0
    obtain ⟨u, rfl⟩ := Int.eq_ofNat_of_zero_le u0
    obtain ⟨v, rfl⟩ := Int.eq_ofNat_of_zero_le v0
    repeat walk_at "k"
    refine ⟨by decide, ?_⟩
    refine for_rng (fun i => .int (0 + (i : Nat))) (fun k δ c => (∃ y4 y5 y6 y7 y8, δ = [some (D.scr (ns.map D.int)), some (D.int (j : Nat)), some (D.obj i), some (D.lst (things w v u iL iD)), y4, y5, y6, y7, y8, none]) ∧ ∃ n m kv, St4 c i iL iD n m v kv ∧ n ≤ 3 + k ∧ m ≤ 2 * k) 30 ?_ ?_ _ _ ⟨⟨_, _, _, _, _, rfl⟩, _, _, _, hS, by omega, by omega⟩
    · rintro k hk δ c e2 ⟨⟨y4, y5, y6, y7, y8, rfl⟩, n, m, kv, S, hn, hm⟩ nx2 _ _ _ _
      refine ⟨trivial, ?_⟩
      rw [Int.zero_add]
      repeat walk_at "k"
      refine s_take S.hb (by omega) (by decide) (by decide) fun t t0 t1 => ?_
      have S1 := S.box (n + 1)
      generalize c.set i (SO.box (n + 1)) = c5 at S1
      obtain ⟨t, rfl⟩ := Int.eq_ofNat_of_zero_le t0
      have tl : t < (things w v u iL iD).length := by show t < 7; omega
      refine e_ixL (x := (things w v u iL iD)[t]) (atI_nat (List.getElem?_eq_getElem tl)) ?_
      have hd := List.getElem_mem tl
      generalize (things w v u iL iD)[t] = d at hd
      repeat walk_at "k"
      refine for_ix (fun k2 δ c => (∃ y6 y7 y8, δ = [some (D.scr (ns.map D.int)), some (D.int (j : Nat)), some (D.obj i), some (D.lst (things w v u iL iD)), some (D.int (k : Nat)), some d, y6, y7, y8, none]) ∧ ∃ m kv, St4 c i iL iD (n + 1) m v kv ∧ m ≤ 2 * k + k2) 2 _ 0 (Nat.le_refl _) ?_ ?_ _ _ ⟨⟨_, _, _, rfl⟩, _, _, S1, by omega⟩
      · rintro x hx k2 δ c e3 hk2 ⟨⟨y6, y7, y8, rfl⟩, m, kv, S, hm⟩ nx3
        obtain ⟨b, rfl⟩ : ∃ b, x = .bl b := by
          simp only [List.mem_cons, List.not_mem_nil, or_false] at hx
          rcases hx with rfl | rfl <;> exact ⟨_, rfl⟩
        obtain ⟨p, hp, hs⟩ := s_things S (by omega) (by omega) (by omega) (by omega) hd
        refine ⟨rfl, ?_⟩
        repeat walk_at "k"
        refine s_call hk fun C fs Z hkits hV hN => ?_
        repeat walk_at "k"
        refine .inr (e_isV Z rfl hN ?_)
        repeat walk_at "k"
        refine .inr (e_isV Z rfl hV ?_)
        repeat walk_at "k"
        refine s_kinds Z hkits ?_
        rw [pos_row k hk]
        repeat walk_at "k"
        refine .inl (e_neIs (xs := [(k : Int)]) (ys := [(k : Int)]) rfl rfl ?_)
        rw [decide_eq_true rfl]
        repeat walk_at "k"
        refine e_reprT hp hs ?_
        repeat walk_at "k"
        refine e_reprT hp hs ?_
        repeat walk_at "k"
        refine .inl (e_neS ?_)
        rw [decide_eq_true rfl]
        repeat walk_at "k"
        simp only [things, List.mem_cons, List.not_mem_nil, or_false] at hd
        rcases hd with rfl | rfl | rfl | rfl | rfl | rfl | rfl
        · skip
          refine .inl (e_isi (isi_ty (b := false) (n := "NoneType") rfl (kit_ty (by decide +kernel))) ?_)
          repeat walk_at "k"
          refine .inl (e_isi (isi_ty (b := false) (n := "NoneType") rfl (kit_ty (by decide +kernel))) ?_)
          repeat walk_at "k"
          refine .inl (e_pyS (p := .none) rfl rfl (by decide +kernel) ?_)
          repeat walk_at "k"
          exact nx3 _ _ ⟨⟨_, _, _, rfl⟩, _, _, S, by omega⟩
        · skip
          refine .inl (e_isi (isi_ty (b := false) (n := "int") rfl (kit_ty (by decide +kernel))) ?_)
          repeat walk_at "k"
          refine .inl (e_isi (isi_ty (b := false) (n := "int") rfl (kit_ty (by decide +kernel))) ?_)
          repeat walk_at "k"
          refine .inl (e_neIs (xs := [(w : Int)]) (ys := [(w : Int)]) rfl rfl ?_)
          rw [decide_eq_true rfl]
          repeat walk_at "k"
          exact nx3 _ _ ⟨⟨_, _, _, rfl⟩, _, _, S, by omega⟩
        · skip
          refine .inl (e_isi (isi_ty (b := false) (n := "str") rfl (kit_ty (by decide +kernel))) ?_)
          repeat walk_at "k"
          refine .inl (e_isi (isi_ty (b := false) (n := "str") rfl (kit_ty (by decide +kernel))) ?_)
          repeat walk_at "k"
          have o := ok_str u (by omega)
          refine .inl (e_neSs (xs := [Txt.mul (Str.ofString "a") (u : Int)]) (ys := [Txt.mul (Str.ofString "a") (u : Int)]) rfl rfl (fun x hx => by rw [List.mem_singleton.mp hx]; exact o) (fun x hx => by rw [List.mem_singleton.mp hx]; exact o) ?_)
          rw [decide_eq_true rfl]
          repeat walk_at "k"
          exact nx3 _ _ ⟨⟨_, _, _, rfl⟩, _, _, S, by omega⟩
        · have vL : view c (.obj iL) = .lst (.int v :: List.replicate m late) := by unfold view; dsimp only; rw [S.hL]
          refine .inl (e_isi (isi_ty (b := true) (n := "list") (by rw [vL]; rfl) (kit_ty (by decide +kernel))) ?_)
          repeat walk_at "k"
          refine ⟨by rw [vL]; rfl, ?_⟩
          repeat walk_at "k"
          refine e_appendK S.hL (by rw [List.length_cons, List.length_replicate]; omega) ?_
          have S : St4 (c.set iL (.lst ((.int v :: List.replicate m late) ++ [D.str (Str.ofString "late")]))) i iL iD (n + 1) (m + 1) v kv := S.lst
          generalize c.set iL (.lst ((.int v :: List.replicate m late) ++ [D.str (Str.ofString "late")])) = c at S
          have vL : view c (.obj iL) = .lst (.int v :: List.replicate (m + 1) late) := by unfold view; dsimp only; rw [S.hL]
          repeat walk_at "k"
          refine .inl (e_isi (isi_ty (b := false) (n := "list") (by rw [vL]; rfl) (kit_ty (by decide +kernel))) ?_)
          repeat walk_at "k"
          refine .inr ⟨[.obj iL], rfl, rfl, fun d h => .inr ⟨iL, List.mem_singleton.mp h⟩, ?_⟩
          repeat walk_at "k"
          exact nx3 _ _ ⟨⟨_, _, _, rfl⟩, _, _, S, by omega⟩
        · have vD : view c (.obj iD) = .dic kv := by unfold view; dsimp only; rw [S.hD]
          refine .inl (e_isi (isi_ty (b := false) (n := "dict") (by rw [vD]; rfl) (kit_ty (by decide +kernel))) ?_)
          repeat walk_at "k"
          refine .inl (e_isi (isi_ty (b := true) (n := "dict") (by rw [vD]; rfl) (kit_ty (by decide +kernel))) ?_)
          repeat walk_at "k"
          refine e_lenKV vD ?_
          repeat walk_at "k"
          refine e_dputD S.hD (kv_len S.kv) ?_
          have S := S.dic (put_kv S.kv)
          generalize c.set iD (.dic (putKD kv (.inr (Str.ofString "late")) (.int kv.length))) = c at S
          repeat walk_at "k"
          refine .inr ⟨[.obj iD], rfl, rfl, fun d h => .inr ⟨iD, List.mem_singleton.mp h⟩, ?_⟩
          repeat walk_at "k"
          exact nx3 _ _ ⟨⟨_, _, _, rfl⟩, _, _, S, by omega⟩
        · skip
          refine .inl (e_isi (isi_ty (b := false) (n := "tuple") rfl (kit_ty (by decide +kernel))) ?_)
          repeat walk_at "k"
          refine .inl (e_isi (isi_ty (b := false) (n := "tuple") rfl (kit_ty (by decide +kernel))) ?_)
          repeat walk_at "k"
          refine .inl (e_pyS (p := .tuple []) rfl rfl (by decide +kernel) ?_)
          repeat walk_at "k"
          exact nx3 _ _ ⟨⟨_, _, _, rfl⟩, _, _, S, by omega⟩
        · skip
          refine .inl (e_isi (isi_ty (b := false) (n := "bool") rfl (kit_ty (by decide +kernel))) ?_)
          repeat walk_at "k"
          refine .inl (e_isi (isi_ty (b := false) (n := "bool") rfl (kit_ty (by decide +kernel))) ?_)
          repeat walk_at "k"
          refine .inl (e_pyS (p := .bool true) rfl rfl (by decide +kernel) ?_)
          repeat walk_at "k"
          exact nx3 _ _ ⟨⟨_, _, _, rfl⟩, _, _, S, by omega⟩
      · rintro δ c ⟨⟨y6, y7, y8, rfl⟩, m, kv, S, hm⟩
        exact ⟨rfl, nx2 _ _ ⟨⟨_, _, _, _, _, rfl⟩, _, _, _, S, by omega, by have : m ≤ 2 * k + (0 + 2) := hm; omega⟩⟩
    · rintro δ c ⟨⟨y4, y5, y6, y7, y8, rfl⟩, _⟩
      exact ⟨trivial, nx _ _ ⟨_, _, _, _, _, _, _, _, rfl⟩⟩
  rintro δ c ⟨x1, x2, x3, x4, x5, x6, x7, x8, rfl⟩
  refine ⟨trivial, ?_⟩
  repeat walk_at "k"
  refine .inr (e_isV T.Z_NetError rfl T.kv_NetError ?_)
  repeat walk_at "k"
  refine s_kinds T.Z_NetError T.kr_NetError ?_
  repeat walk_at "k"
  refine e_eqIs (xs := []) (ys := []) rfl rfl ?_
  repeat walk_at "k"
  exact .inl rfl
end K04
set_option Elab.async false
set_option linter.all false
set_option maxRecDepth 100000
set_option maxHeartbeats 3900000
namespace K04
open PySem PySem.Spec PyProof.Rows L2 G M
theorem all_mk {l : PySem.W.OpenLaw} {w : World} {K : PySem.W.Frag} {h : Heap} {mg : Str → Option Value} {fa : Addr} {f_l_cell : Addr} {od_l_cell an_l_cell : Option Addr} {sl_l_cell : Array (Option Value)} {oc_l_cell kV_l_cell dc_l_cell pm_l_cell ct_l_cell : Value} {cd_l_cell : Value} {f_l_box : Addr} {od_l_box an_l_box : Option Addr} {sl_l_box : Array (Option Value)} {oc_l_box kV_l_box dc_l_box pm_l_box ct_l_box : Value} {cd_l_box : Value} {f_l_take : Addr} {od_l_take an_l_take : Option Addr} {sl_l_take : Array (Option Value)} {oc_l_take kV_l_take dc_l_take pm_l_take ct_l_take : Value} {cd_l_take : Value} {f_l_made0 : Addr} {od_l_made0 an_l_made0 : Option Addr} {sl_l_made0 : Array (Option Value)} {oc_l_made0 kV_l_made0 dc_l_made0 pm_l_made0 ct_l_made0 : Value} {cd_l_made0 : Value} {f_l_made1 : Addr} {od_l_made1 an_l_made1 : Option Addr} {sl_l_made1 : Array (Option Value)} {oc_l_made1 kV_l_made1 dc_l_made1 pm_l_made1 ct_l_made1 : Value} {cd_l_made1 : Value} {f_l_made2 : Addr} {od_l_made2 an_l_made2 : Option Addr} {sl_l_made2 : Array (Option Value)} {oc_l_made2 kV_l_made2 dc_l_made2 pm_l_made2 ct_l_made2 : Value} {cd_l_made2 : Value} {f_l_kinds : Addr} {od_l_kinds an_l_kinds : Option Addr} {sl_l_kinds : Array (Option Value)} {oc_l_kinds kV_l_kinds dc_l_kinds pm_l_kinds ct_l_kinds : Value} {cd_l_kinds : Value} {f_law : Addr} {od_law an_law : Option Addr} {sl_law : Array (Option Value)} {oc_law kV_law dc_law pm_law ct_law : Value} {cd_law : Value} {C_NothingToUndo : Addr} {I_NothingToUndo : Addr} {C_InvalidKind : Addr} {I_InvalidKind : Addr} {C_InvalidName : Addr} {I_InvalidName : Addr} {C_SameMark : Addr} {I_SameMark : Addr} {C_InvalidText : Addr} {I_InvalidText : Addr} {C_InvalidMeasure : Addr} {I_InvalidMeasure : Addr} {C_InvalidMarks : Addr} {I_InvalidMarks : Addr} {C_InvalidMeasures : Addr} {I_InvalidMeasures : Addr} {C_InvalidNumbers : Addr} {I_InvalidNumbers : Addr} {C_InvalidPoints : Addr} {I_InvalidPoints : Addr} {C_InvalidShift : Addr} {I_InvalidShift : Addr} {C_InvalidFactor : Addr} {I_InvalidFactor : Addr} {C_InvalidDrift : Addr} {I_InvalidDrift : Addr} {C_InvalidReadings : Addr} {I_InvalidReadings : Addr} {C_InvalidChanges : Addr} {I_InvalidChanges : Addr} {C_InvalidPrices : Addr} {I_InvalidPrices : Addr} {C_InvalidKnown : Addr} {I_InvalidKnown : Addr} {C_InvalidWays : Addr} {I_InvalidWays : Addr} {C_InvalidLine : Addr} {I_InvalidLine : Addr} {C_OutOfRange : Addr} {I_OutOfRange : Addr} {C_DuplicateMark : Addr} {I_DuplicateMark : Addr} {C_UnknownMark : Addr} {I_UnknownMark : Addr} {C_UnknownNumber : Addr} {I_UnknownNumber : Addr} {C_TooMany : Addr} {I_TooMany : Addr} {C_NotNet : Addr} {I_NotNet : Addr} {C_NotPlacing : Addr} {I_NotPlacing : Addr} {C_NotWatched : Addr} {I_NotWatched : Addr} {C_NotEnough : Addr} {I_NotEnough : Addr} {C_NotApart : Addr} {I_NotApart : Addr} {C_NoReading : Addr} {I_NoReading : Addr} {C_NetError : Addr} (X : K.In h) (Gx : h.Ns mainGlobals mg) (hfa : mg "law" = some (.ref fa))
    (a_l_cell : PySem.W.nsIn K mainGlobals "_law_cell" = some (some (.ref f_l_cell)))
    (l_l_cell : K.lookup f_l_cell = some ⟨oc_l_cell, od_l_cell, .func (PySem.W.fnOf "_law_cell" "_law_cell" (defArgs s_l_cell) (defBody s_l_cell) (defScope s_l_cell) .none kV_l_cell dc_l_cell pm_l_cell an_l_cell cd_l_cell ct_l_cell), sl_l_cell⟩)
    (cc_l_cell : PySem.W.codeIn K cd_l_cell "_law_cell" = true)
    (k_l_cell : PySem.W.keepIn K (.ref f_l_cell) = true)
    (a_l_box : PySem.W.nsIn K mainGlobals "_law_box" = some (some (.ref f_l_box)))
    (l_l_box : K.lookup f_l_box = some ⟨oc_l_box, od_l_box, .func (PySem.W.fnOf "_law_box" "_law_box" (defArgs s_l_box) (defBody s_l_box) (defScope s_l_box) .none kV_l_box dc_l_box pm_l_box an_l_box cd_l_box ct_l_box), sl_l_box⟩)
    (cc_l_box : PySem.W.codeIn K cd_l_box "_law_box" = true)
    (k_l_box : PySem.W.keepIn K (.ref f_l_box) = true)
    (a_l_take : PySem.W.nsIn K mainGlobals "_law_take" = some (some (.ref f_l_take)))
    (l_l_take : K.lookup f_l_take = some ⟨oc_l_take, od_l_take, .func (PySem.W.fnOf "_law_take" "_law_take" (defArgs s_l_take) (defBody s_l_take) (defScope s_l_take) .none kV_l_take dc_l_take pm_l_take an_l_take cd_l_take ct_l_take), sl_l_take⟩)
    (cc_l_take : PySem.W.codeIn K cd_l_take "_law_take" = true)
    (k_l_take : PySem.W.keepIn K (.ref f_l_take) = true)
    (a_l_made0 : PySem.W.nsIn K mainGlobals "_law_made0" = some (some (.ref f_l_made0)))
    (l_l_made0 : K.lookup f_l_made0 = some ⟨oc_l_made0, od_l_made0, .func (PySem.W.fnOf "_law_made0" "_law_made0" (defArgs s_l_made0) (defBody s_l_made0) (defScope s_l_made0) .none kV_l_made0 dc_l_made0 pm_l_made0 an_l_made0 cd_l_made0 ct_l_made0), sl_l_made0⟩)
    (cc_l_made0 : PySem.W.codeIn K cd_l_made0 "_law_made0" = true)
    (k_l_made0 : PySem.W.keepIn K (.ref f_l_made0) = true)
    (a_l_made1 : PySem.W.nsIn K mainGlobals "_law_made1" = some (some (.ref f_l_made1)))
    (l_l_made1 : K.lookup f_l_made1 = some ⟨oc_l_made1, od_l_made1, .func (PySem.W.fnOf "_law_made1" "_law_made1" (defArgs s_l_made1) (defBody s_l_made1) (defScope s_l_made1) .none kV_l_made1 dc_l_made1 pm_l_made1 an_l_made1 cd_l_made1 ct_l_made1), sl_l_made1⟩)
    (cc_l_made1 : PySem.W.codeIn K cd_l_made1 "_law_made1" = true)
    (k_l_made1 : PySem.W.keepIn K (.ref f_l_made1) = true)
    (a_l_made2 : PySem.W.nsIn K mainGlobals "_law_made2" = some (some (.ref f_l_made2)))
    (l_l_made2 : K.lookup f_l_made2 = some ⟨oc_l_made2, od_l_made2, .func (PySem.W.fnOf "_law_made2" "_law_made2" (defArgs s_l_made2) (defBody s_l_made2) (defScope s_l_made2) .none kV_l_made2 dc_l_made2 pm_l_made2 an_l_made2 cd_l_made2 ct_l_made2), sl_l_made2⟩)
    (cc_l_made2 : PySem.W.codeIn K cd_l_made2 "_law_made2" = true)
    (k_l_made2 : PySem.W.keepIn K (.ref f_l_made2) = true)
    (a_l_kinds : PySem.W.nsIn K mainGlobals "_law_kinds" = some (some (.ref f_l_kinds)))
    (l_l_kinds : K.lookup f_l_kinds = some ⟨oc_l_kinds, od_l_kinds, .func (PySem.W.fnOf "_law_kinds" "_law_kinds" (defArgs s_l_kinds) (defBody s_l_kinds) (defScope s_l_kinds) .none kV_l_kinds dc_l_kinds pm_l_kinds an_l_kinds cd_l_kinds ct_l_kinds), sl_l_kinds⟩)
    (cc_l_kinds : PySem.W.codeIn K cd_l_kinds "_law_kinds" = true)
    (k_l_kinds : PySem.W.keepIn K (.ref f_l_kinds) = true)
    (a_law : PySem.W.nsIn K mainGlobals "law" = some (some (.ref f_law)))
    (l_law : K.lookup f_law = some ⟨oc_law, od_law, .func (PySem.W.fnOf "law" "law" (defArgs s_law) (defBody s_law) (defScope s_law) .none kV_law dc_law pm_law an_law cd_law ct_law), sl_law⟩)
    (cc_law : PySem.W.codeIn K cd_law "law" = true)
    (k_law : PySem.W.keepIn K (.ref f_law) = true)
    (y_isinstance : PySem.W.nsIn K mainGlobals "isinstance" = some none)
    (y_int : PySem.W.nsIn K mainGlobals "int" = some none)
    (y_list : PySem.W.nsIn K mainGlobals "list" = some none)
    (y_dict : PySem.W.nsIn K mainGlobals "dict" = some none)
    (y_len : PySem.W.nsIn K mainGlobals "len" = some none)
    (y_max : PySem.W.nsIn K mainGlobals "max" = some none)
    (y_min : PySem.W.nsIn K mainGlobals "min" = some none)
    (y_range : PySem.W.nsIn K mainGlobals "range" = some none)
    (y_enumerate : PySem.W.nsIn K mainGlobals "enumerate" = some none)
    (y_repr : PySem.W.nsIn K mainGlobals "repr" = some none)
    (y_ValueError : PySem.W.nsIn K mainGlobals "ValueError" = some none)
    (aC_NothingToUndo : PySem.W.nsIn K mainGlobals "NothingToUndo" = some (some (.ref C_NothingToUndo)))
    (e_NothingToUndo : PySem.ErrX.ErrTxt0 l.prog K mg "NothingToUndo" C_NothingToUndo I_NothingToUndo ∧ L2.ExcC K C_NothingToUndo)
    (aC_InvalidKind : PySem.W.nsIn K mainGlobals "InvalidKind" = some (some (.ref C_InvalidKind)))
    (e_InvalidKind : PySem.ErrX.ErrTxt l.prog K mg "InvalidKind" "value" C_InvalidKind I_InvalidKind ∧ KwB K "value" I_InvalidKind ∧ L2.ExcC K C_InvalidKind)
    (aC_InvalidName : PySem.W.nsIn K mainGlobals "InvalidName" = some (some (.ref C_InvalidName)))
    (e_InvalidName : PySem.ErrX.ErrTxt l.prog K mg "InvalidName" "name" C_InvalidName I_InvalidName ∧ KwB K "name" I_InvalidName ∧ L2.ExcC K C_InvalidName)
    (aC_SameMark : PySem.W.nsIn K mainGlobals "SameMark" = some (some (.ref C_SameMark)))
    (e_SameMark : PySem.ErrX.ErrTxt l.prog K mg "SameMark" "name" C_SameMark I_SameMark ∧ KwB K "name" I_SameMark ∧ L2.ExcC K C_SameMark)
    (aC_InvalidText : PySem.W.nsIn K mainGlobals "InvalidText" = some (some (.ref C_InvalidText)))
    (e_InvalidText : PySem.ErrX.ErrTxt l.prog K mg "InvalidText" "text" C_InvalidText I_InvalidText ∧ KwB K "text" I_InvalidText ∧ L2.ExcC K C_InvalidText)
    (aC_InvalidMeasure : PySem.W.nsIn K mainGlobals "InvalidMeasure" = some (some (.ref C_InvalidMeasure)))
    (e_InvalidMeasure : PySem.ErrX.ErrTxt l.prog K mg "InvalidMeasure" "value" C_InvalidMeasure I_InvalidMeasure ∧ KwB K "value" I_InvalidMeasure ∧ L2.ExcC K C_InvalidMeasure)
    (aC_InvalidMarks : PySem.W.nsIn K mainGlobals "InvalidMarks" = some (some (.ref C_InvalidMarks)))
    (e_InvalidMarks : PySem.ErrX.ErrTxt l.prog K mg "InvalidMarks" "value" C_InvalidMarks I_InvalidMarks ∧ KwB K "value" I_InvalidMarks ∧ L2.ExcC K C_InvalidMarks)
    (aC_InvalidMeasures : PySem.W.nsIn K mainGlobals "InvalidMeasures" = some (some (.ref C_InvalidMeasures)))
    (e_InvalidMeasures : PySem.ErrX.ErrTxt l.prog K mg "InvalidMeasures" "value" C_InvalidMeasures I_InvalidMeasures ∧ KwB K "value" I_InvalidMeasures ∧ L2.ExcC K C_InvalidMeasures)
    (aC_InvalidNumbers : PySem.W.nsIn K mainGlobals "InvalidNumbers" = some (some (.ref C_InvalidNumbers)))
    (e_InvalidNumbers : PySem.ErrX.ErrTxt l.prog K mg "InvalidNumbers" "value" C_InvalidNumbers I_InvalidNumbers ∧ KwB K "value" I_InvalidNumbers ∧ L2.ExcC K C_InvalidNumbers)
    (aC_InvalidPoints : PySem.W.nsIn K mainGlobals "InvalidPoints" = some (some (.ref C_InvalidPoints)))
    (e_InvalidPoints : PySem.ErrX.ErrTxt l.prog K mg "InvalidPoints" "value" C_InvalidPoints I_InvalidPoints ∧ KwB K "value" I_InvalidPoints ∧ L2.ExcC K C_InvalidPoints)
    (aC_InvalidShift : PySem.W.nsIn K mainGlobals "InvalidShift" = some (some (.ref C_InvalidShift)))
    (e_InvalidShift : PySem.ErrX.ErrTxt l.prog K mg "InvalidShift" "value" C_InvalidShift I_InvalidShift ∧ KwB K "value" I_InvalidShift ∧ L2.ExcC K C_InvalidShift)
    (aC_InvalidFactor : PySem.W.nsIn K mainGlobals "InvalidFactor" = some (some (.ref C_InvalidFactor)))
    (e_InvalidFactor : PySem.ErrX.ErrTxt l.prog K mg "InvalidFactor" "factor" C_InvalidFactor I_InvalidFactor ∧ KwB K "factor" I_InvalidFactor ∧ L2.ExcC K C_InvalidFactor)
    (aC_InvalidDrift : PySem.W.nsIn K mainGlobals "InvalidDrift" = some (some (.ref C_InvalidDrift)))
    (e_InvalidDrift : PySem.ErrX.ErrTxt l.prog K mg "InvalidDrift" "drift" C_InvalidDrift I_InvalidDrift ∧ KwB K "drift" I_InvalidDrift ∧ L2.ExcC K C_InvalidDrift)
    (aC_InvalidReadings : PySem.W.nsIn K mainGlobals "InvalidReadings" = some (some (.ref C_InvalidReadings)))
    (e_InvalidReadings : PySem.ErrX.ErrTxt l.prog K mg "InvalidReadings" "value" C_InvalidReadings I_InvalidReadings ∧ KwB K "value" I_InvalidReadings ∧ L2.ExcC K C_InvalidReadings)
    (aC_InvalidChanges : PySem.W.nsIn K mainGlobals "InvalidChanges" = some (some (.ref C_InvalidChanges)))
    (e_InvalidChanges : PySem.ErrX.ErrTxt l.prog K mg "InvalidChanges" "changes" C_InvalidChanges I_InvalidChanges ∧ KwB K "changes" I_InvalidChanges ∧ L2.ExcC K C_InvalidChanges)
    (aC_InvalidPrices : PySem.W.nsIn K mainGlobals "InvalidPrices" = some (some (.ref C_InvalidPrices)))
    (e_InvalidPrices : PySem.ErrX.ErrTxt l.prog K mg "InvalidPrices" "prices" C_InvalidPrices I_InvalidPrices ∧ KwB K "prices" I_InvalidPrices ∧ L2.ExcC K C_InvalidPrices)
    (aC_InvalidKnown : PySem.W.nsIn K mainGlobals "InvalidKnown" = some (some (.ref C_InvalidKnown)))
    (e_InvalidKnown : PySem.ErrX.ErrTxt l.prog K mg "InvalidKnown" "known" C_InvalidKnown I_InvalidKnown ∧ KwB K "known" I_InvalidKnown ∧ L2.ExcC K C_InvalidKnown)
    (aC_InvalidWays : PySem.W.nsIn K mainGlobals "InvalidWays" = some (some (.ref C_InvalidWays)))
    (e_InvalidWays : PySem.ErrX.ErrTxt l.prog K mg "InvalidWays" "ways" C_InvalidWays I_InvalidWays ∧ KwB K "ways" I_InvalidWays ∧ L2.ExcC K C_InvalidWays)
    (aC_InvalidLine : PySem.W.nsIn K mainGlobals "InvalidLine" = some (some (.ref C_InvalidLine)))
    (e_InvalidLine : PySem.ErrX.ErrTxt l.prog K mg "InvalidLine" "line" C_InvalidLine I_InvalidLine ∧ KwB K "line" I_InvalidLine ∧ L2.ExcC K C_InvalidLine)
    (aC_OutOfRange : PySem.W.nsIn K mainGlobals "OutOfRange" = some (some (.ref C_OutOfRange)))
    (e_OutOfRange : PySem.ErrX.ErrTxt l.prog K mg "OutOfRange" "value" C_OutOfRange I_OutOfRange ∧ KwB K "value" I_OutOfRange ∧ L2.ExcC K C_OutOfRange)
    (aC_DuplicateMark : PySem.W.nsIn K mainGlobals "DuplicateMark" = some (some (.ref C_DuplicateMark)))
    (e_DuplicateMark : PySem.ErrX.ErrTxt l.prog K mg "DuplicateMark" "name" C_DuplicateMark I_DuplicateMark ∧ KwB K "name" I_DuplicateMark ∧ L2.ExcC K C_DuplicateMark)
    (aC_UnknownMark : PySem.W.nsIn K mainGlobals "UnknownMark" = some (some (.ref C_UnknownMark)))
    (e_UnknownMark : PySem.ErrX.ErrTxt l.prog K mg "UnknownMark" "name" C_UnknownMark I_UnknownMark ∧ KwB K "name" I_UnknownMark ∧ L2.ExcC K C_UnknownMark)
    (aC_UnknownNumber : PySem.W.nsIn K mainGlobals "UnknownNumber" = some (some (.ref C_UnknownNumber)))
    (e_UnknownNumber : PySem.ErrX.ErrTxt l.prog K mg "UnknownNumber" "number" C_UnknownNumber I_UnknownNumber ∧ KwB K "number" I_UnknownNumber ∧ L2.ExcC K C_UnknownNumber)
    (aC_TooMany : PySem.W.nsIn K mainGlobals "TooMany" = some (some (.ref C_TooMany)))
    (e_TooMany : PySem.ErrX.ErrTxt l.prog K mg "TooMany" "count" C_TooMany I_TooMany ∧ KwB K "count" I_TooMany ∧ L2.ExcC K C_TooMany)
    (aC_NotNet : PySem.W.nsIn K mainGlobals "NotNet" = some (some (.ref C_NotNet)))
    (e_NotNet : PySem.ErrX.ErrTxt l.prog K mg "NotNet" "value" C_NotNet I_NotNet ∧ KwB K "value" I_NotNet ∧ L2.ExcC K C_NotNet)
    (aC_NotPlacing : PySem.W.nsIn K mainGlobals "NotPlacing" = some (some (.ref C_NotPlacing)))
    (e_NotPlacing : PySem.ErrX.ErrTxt l.prog K mg "NotPlacing" "value" C_NotPlacing I_NotPlacing ∧ KwB K "value" I_NotPlacing ∧ L2.ExcC K C_NotPlacing)
    (aC_NotWatched : PySem.W.nsIn K mainGlobals "NotWatched" = some (some (.ref C_NotWatched)))
    (e_NotWatched : PySem.ErrX.ErrTxt l.prog K mg "NotWatched" "number" C_NotWatched I_NotWatched ∧ KwB K "number" I_NotWatched ∧ L2.ExcC K C_NotWatched)
    (aC_NotEnough : PySem.W.nsIn K mainGlobals "NotEnough" = some (some (.ref C_NotEnough)))
    (e_NotEnough : PySem.ErrX.ErrTxt l.prog K mg "NotEnough" "count" C_NotEnough I_NotEnough ∧ KwB K "count" I_NotEnough ∧ L2.ExcC K C_NotEnough)
    (aC_NotApart : PySem.W.nsIn K mainGlobals "NotApart" = some (some (.ref C_NotApart)))
    (e_NotApart : PySem.ErrX.ErrTxt l.prog K mg "NotApart" "value" C_NotApart I_NotApart ∧ KwB K "value" I_NotApart ∧ L2.ExcC K C_NotApart)
    (aC_NoReading : PySem.W.nsIn K mainGlobals "NoReading" = some (some (.ref C_NoReading)))
    (e_NoReading : PySem.ErrX.ErrTxt l.prog K mg "NoReading" "number" C_NoReading I_NoReading ∧ KwB K "number" I_NoReading ∧ L2.ExcC K C_NoReading)
    (aC_NetError : PySem.W.nsIn K mainGlobals "NetError" = some (some (.ref C_NetError)))
    (e_NetError : ExcB K mg "NetError" C_NetError ∧ L2.ExcC K C_NetError)
    (kr_NothingToUndo : kits K C_NothingToUndo [C_InvalidKind, C_InvalidName, C_SameMark, C_InvalidText, C_InvalidMeasure, C_InvalidMarks, C_InvalidMeasures, C_InvalidNumbers, C_InvalidPoints, C_InvalidShift, C_InvalidFactor, C_InvalidDrift, C_InvalidReadings, C_InvalidChanges, C_InvalidPrices, C_InvalidKnown, C_InvalidWays, C_InvalidLine, C_OutOfRange, C_DuplicateMark, C_UnknownMark, C_UnknownNumber, C_TooMany, C_NotNet, C_NotPlacing, C_NotWatched, C_NotEnough, C_NotApart, C_NoReading, C_NothingToUndo] = [some false, some false, some false, some false, some false, some false, some false, some false, some false, some false, some false, some false, some false, some false, some false, some false, some false, some false, some false, some false, some false, some false, some false, some false, some false, some false, some false, some false, some false, some true])
    (kv_NothingToUndo : PySem.W.kitOne K (.ref C_NothingToUndo) (.type "ValueError") = some true)
    (kn_NothingToUndo : PySem.W.kitOne K (.ref C_NothingToUndo) (.ref C_NetError) = some true)
    (kr_InvalidKind : kits K C_InvalidKind [C_InvalidKind, C_InvalidName, C_SameMark, C_InvalidText, C_InvalidMeasure, C_InvalidMarks, C_InvalidMeasures, C_InvalidNumbers, C_InvalidPoints, C_InvalidShift, C_InvalidFactor, C_InvalidDrift, C_InvalidReadings, C_InvalidChanges, C_InvalidPrices, C_InvalidKnown, C_InvalidWays, C_InvalidLine, C_OutOfRange, C_DuplicateMark, C_UnknownMark, C_UnknownNumber, C_TooMany, C_NotNet, C_NotPlacing, C_NotWatched, C_NotEnough, C_NotApart, C_NoReading, C_NothingToUndo] = [some true, some false, some false, some false, some false, some false, some false, some false, some false, some false, some false, some false, some false, some false, some false, some false, some false, some false, some false, some false, some false, some false, some false, some false, some false, some false, some false, some false, some false, some false])
    (kv_InvalidKind : PySem.W.kitOne K (.ref C_InvalidKind) (.type "ValueError") = some true)
    (kn_InvalidKind : PySem.W.kitOne K (.ref C_InvalidKind) (.ref C_NetError) = some true)
    (kr_InvalidName : kits K C_InvalidName [C_InvalidKind, C_InvalidName, C_SameMark, C_InvalidText, C_InvalidMeasure, C_InvalidMarks, C_InvalidMeasures, C_InvalidNumbers, C_InvalidPoints, C_InvalidShift, C_InvalidFactor, C_InvalidDrift, C_InvalidReadings, C_InvalidChanges, C_InvalidPrices, C_InvalidKnown, C_InvalidWays, C_InvalidLine, C_OutOfRange, C_DuplicateMark, C_UnknownMark, C_UnknownNumber, C_TooMany, C_NotNet, C_NotPlacing, C_NotWatched, C_NotEnough, C_NotApart, C_NoReading, C_NothingToUndo] = [some false, some true, some false, some false, some false, some false, some false, some false, some false, some false, some false, some false, some false, some false, some false, some false, some false, some false, some false, some false, some false, some false, some false, some false, some false, some false, some false, some false, some false, some false])
    (kv_InvalidName : PySem.W.kitOne K (.ref C_InvalidName) (.type "ValueError") = some true)
    (kn_InvalidName : PySem.W.kitOne K (.ref C_InvalidName) (.ref C_NetError) = some true)
    (kr_SameMark : kits K C_SameMark [C_InvalidKind, C_InvalidName, C_SameMark, C_InvalidText, C_InvalidMeasure, C_InvalidMarks, C_InvalidMeasures, C_InvalidNumbers, C_InvalidPoints, C_InvalidShift, C_InvalidFactor, C_InvalidDrift, C_InvalidReadings, C_InvalidChanges, C_InvalidPrices, C_InvalidKnown, C_InvalidWays, C_InvalidLine, C_OutOfRange, C_DuplicateMark, C_UnknownMark, C_UnknownNumber, C_TooMany, C_NotNet, C_NotPlacing, C_NotWatched, C_NotEnough, C_NotApart, C_NoReading, C_NothingToUndo] = [some false, some false, some true, some false, some false, some false, some false, some false, some false, some false, some false, some false, some false, some false, some false, some false, some false, some false, some false, some false, some false, some false, some false, some false, some false, some false, some false, some false, some false, some false])
    (kv_SameMark : PySem.W.kitOne K (.ref C_SameMark) (.type "ValueError") = some true)
    (kn_SameMark : PySem.W.kitOne K (.ref C_SameMark) (.ref C_NetError) = some true)
    (kr_InvalidText : kits K C_InvalidText [C_InvalidKind, C_InvalidName, C_SameMark, C_InvalidText, C_InvalidMeasure, C_InvalidMarks, C_InvalidMeasures, C_InvalidNumbers, C_InvalidPoints, C_InvalidShift, C_InvalidFactor, C_InvalidDrift, C_InvalidReadings, C_InvalidChanges, C_InvalidPrices, C_InvalidKnown, C_InvalidWays, C_InvalidLine, C_OutOfRange, C_DuplicateMark, C_UnknownMark, C_UnknownNumber, C_TooMany, C_NotNet, C_NotPlacing, C_NotWatched, C_NotEnough, C_NotApart, C_NoReading, C_NothingToUndo] = [some false, some false, some false, some true, some false, some false, some false, some false, some false, some false, some false, some false, some false, some false, some false, some false, some false, some false, some false, some false, some false, some false, some false, some false, some false, some false, some false, some false, some false, some false])
    (kv_InvalidText : PySem.W.kitOne K (.ref C_InvalidText) (.type "ValueError") = some true)
    (kn_InvalidText : PySem.W.kitOne K (.ref C_InvalidText) (.ref C_NetError) = some true)
    (kr_InvalidMeasure : kits K C_InvalidMeasure [C_InvalidKind, C_InvalidName, C_SameMark, C_InvalidText, C_InvalidMeasure, C_InvalidMarks, C_InvalidMeasures, C_InvalidNumbers, C_InvalidPoints, C_InvalidShift, C_InvalidFactor, C_InvalidDrift, C_InvalidReadings, C_InvalidChanges, C_InvalidPrices, C_InvalidKnown, C_InvalidWays, C_InvalidLine, C_OutOfRange, C_DuplicateMark, C_UnknownMark, C_UnknownNumber, C_TooMany, C_NotNet, C_NotPlacing, C_NotWatched, C_NotEnough, C_NotApart, C_NoReading, C_NothingToUndo] = [some false, some false, some false, some false, some true, some false, some false, some false, some false, some false, some false, some false, some false, some false, some false, some false, some false, some false, some false, some false, some false, some false, some false, some false, some false, some false, some false, some false, some false, some false])
    (kv_InvalidMeasure : PySem.W.kitOne K (.ref C_InvalidMeasure) (.type "ValueError") = some true)
    (kn_InvalidMeasure : PySem.W.kitOne K (.ref C_InvalidMeasure) (.ref C_NetError) = some true)
    (kr_InvalidMarks : kits K C_InvalidMarks [C_InvalidKind, C_InvalidName, C_SameMark, C_InvalidText, C_InvalidMeasure, C_InvalidMarks, C_InvalidMeasures, C_InvalidNumbers, C_InvalidPoints, C_InvalidShift, C_InvalidFactor, C_InvalidDrift, C_InvalidReadings, C_InvalidChanges, C_InvalidPrices, C_InvalidKnown, C_InvalidWays, C_InvalidLine, C_OutOfRange, C_DuplicateMark, C_UnknownMark, C_UnknownNumber, C_TooMany, C_NotNet, C_NotPlacing, C_NotWatched, C_NotEnough, C_NotApart, C_NoReading, C_NothingToUndo] = [some false, some false, some false, some false, some false, some true, some false, some false, some false, some false, some false, some false, some false, some false, some false, some false, some false, some false, some false, some false, some false, some false, some false, some false, some false, some false, some false, some false, some false, some false])
    (kv_InvalidMarks : PySem.W.kitOne K (.ref C_InvalidMarks) (.type "ValueError") = some true)
    (kn_InvalidMarks : PySem.W.kitOne K (.ref C_InvalidMarks) (.ref C_NetError) = some true)
    (kr_InvalidMeasures : kits K C_InvalidMeasures [C_InvalidKind, C_InvalidName, C_SameMark, C_InvalidText, C_InvalidMeasure, C_InvalidMarks, C_InvalidMeasures, C_InvalidNumbers, C_InvalidPoints, C_InvalidShift, C_InvalidFactor, C_InvalidDrift, C_InvalidReadings, C_InvalidChanges, C_InvalidPrices, C_InvalidKnown, C_InvalidWays, C_InvalidLine, C_OutOfRange, C_DuplicateMark, C_UnknownMark, C_UnknownNumber, C_TooMany, C_NotNet, C_NotPlacing, C_NotWatched, C_NotEnough, C_NotApart, C_NoReading, C_NothingToUndo] = [some false, some false, some false, some false, some false, some false, some true, some false, some false, some false, some false, some false, some false, some false, some false, some false, some false, some false, some false, some false, some false, some false, some false, some false, some false, some false, some false, some false, some false, some false])
    (kv_InvalidMeasures : PySem.W.kitOne K (.ref C_InvalidMeasures) (.type "ValueError") = some true)
    (kn_InvalidMeasures : PySem.W.kitOne K (.ref C_InvalidMeasures) (.ref C_NetError) = some true)
    (kr_InvalidNumbers : kits K C_InvalidNumbers [C_InvalidKind, C_InvalidName, C_SameMark, C_InvalidText, C_InvalidMeasure, C_InvalidMarks, C_InvalidMeasures, C_InvalidNumbers, C_InvalidPoints, C_InvalidShift, C_InvalidFactor, C_InvalidDrift, C_InvalidReadings, C_InvalidChanges, C_InvalidPrices, C_InvalidKnown, C_InvalidWays, C_InvalidLine, C_OutOfRange, C_DuplicateMark, C_UnknownMark, C_UnknownNumber, C_TooMany, C_NotNet, C_NotPlacing, C_NotWatched, C_NotEnough, C_NotApart, C_NoReading, C_NothingToUndo] = [some false, some false, some false, some false, some false, some false, some false, some true, some false, some false, some false, some false, some false, some false, some false, some false, some false, some false, some false, some false, some false, some false, some false, some false, some false, some false, some false, some false, some false, some false])
    (kv_InvalidNumbers : PySem.W.kitOne K (.ref C_InvalidNumbers) (.type "ValueError") = some true)
    (kn_InvalidNumbers : PySem.W.kitOne K (.ref C_InvalidNumbers) (.ref C_NetError) = some true)
    (kr_InvalidPoints : kits K C_InvalidPoints [C_InvalidKind, C_InvalidName, C_SameMark, C_InvalidText, C_InvalidMeasure, C_InvalidMarks, C_InvalidMeasures, C_InvalidNumbers, C_InvalidPoints, C_InvalidShift, C_InvalidFactor, C_InvalidDrift, C_InvalidReadings, C_InvalidChanges, C_InvalidPrices, C_InvalidKnown, C_InvalidWays, C_InvalidLine, C_OutOfRange, C_DuplicateMark, C_UnknownMark, C_UnknownNumber, C_TooMany, C_NotNet, C_NotPlacing, C_NotWatched, C_NotEnough, C_NotApart, C_NoReading, C_NothingToUndo] = [some false, some false, some false, some false, some false, some false, some false, some false, some true, some false, some false, some false, some false, some false, some false, some false, some false, some false, some false, some false, some false, some false, some false, some false, some false, some false, some false, some false, some false, some false])
    (kv_InvalidPoints : PySem.W.kitOne K (.ref C_InvalidPoints) (.type "ValueError") = some true)
    (kn_InvalidPoints : PySem.W.kitOne K (.ref C_InvalidPoints) (.ref C_NetError) = some true)
    (kr_InvalidShift : kits K C_InvalidShift [C_InvalidKind, C_InvalidName, C_SameMark, C_InvalidText, C_InvalidMeasure, C_InvalidMarks, C_InvalidMeasures, C_InvalidNumbers, C_InvalidPoints, C_InvalidShift, C_InvalidFactor, C_InvalidDrift, C_InvalidReadings, C_InvalidChanges, C_InvalidPrices, C_InvalidKnown, C_InvalidWays, C_InvalidLine, C_OutOfRange, C_DuplicateMark, C_UnknownMark, C_UnknownNumber, C_TooMany, C_NotNet, C_NotPlacing, C_NotWatched, C_NotEnough, C_NotApart, C_NoReading, C_NothingToUndo] = [some false, some false, some false, some false, some false, some false, some false, some false, some false, some true, some false, some false, some false, some false, some false, some false, some false, some false, some false, some false, some false, some false, some false, some false, some false, some false, some false, some false, some false, some false])
    (kv_InvalidShift : PySem.W.kitOne K (.ref C_InvalidShift) (.type "ValueError") = some true)
    (kn_InvalidShift : PySem.W.kitOne K (.ref C_InvalidShift) (.ref C_NetError) = some true)
    (kr_InvalidFactor : kits K C_InvalidFactor [C_InvalidKind, C_InvalidName, C_SameMark, C_InvalidText, C_InvalidMeasure, C_InvalidMarks, C_InvalidMeasures, C_InvalidNumbers, C_InvalidPoints, C_InvalidShift, C_InvalidFactor, C_InvalidDrift, C_InvalidReadings, C_InvalidChanges, C_InvalidPrices, C_InvalidKnown, C_InvalidWays, C_InvalidLine, C_OutOfRange, C_DuplicateMark, C_UnknownMark, C_UnknownNumber, C_TooMany, C_NotNet, C_NotPlacing, C_NotWatched, C_NotEnough, C_NotApart, C_NoReading, C_NothingToUndo] = [some false, some false, some false, some false, some false, some false, some false, some false, some false, some false, some true, some false, some false, some false, some false, some false, some false, some false, some false, some false, some false, some false, some false, some false, some false, some false, some false, some false, some false, some false])
    (kv_InvalidFactor : PySem.W.kitOne K (.ref C_InvalidFactor) (.type "ValueError") = some true)
    (kn_InvalidFactor : PySem.W.kitOne K (.ref C_InvalidFactor) (.ref C_NetError) = some true)
    (kr_InvalidDrift : kits K C_InvalidDrift [C_InvalidKind, C_InvalidName, C_SameMark, C_InvalidText, C_InvalidMeasure, C_InvalidMarks, C_InvalidMeasures, C_InvalidNumbers, C_InvalidPoints, C_InvalidShift, C_InvalidFactor, C_InvalidDrift, C_InvalidReadings, C_InvalidChanges, C_InvalidPrices, C_InvalidKnown, C_InvalidWays, C_InvalidLine, C_OutOfRange, C_DuplicateMark, C_UnknownMark, C_UnknownNumber, C_TooMany, C_NotNet, C_NotPlacing, C_NotWatched, C_NotEnough, C_NotApart, C_NoReading, C_NothingToUndo] = [some false, some false, some false, some false, some false, some false, some false, some false, some false, some false, some false, some true, some false, some false, some false, some false, some false, some false, some false, some false, some false, some false, some false, some false, some false, some false, some false, some false, some false, some false])
    (kv_InvalidDrift : PySem.W.kitOne K (.ref C_InvalidDrift) (.type "ValueError") = some true)
    (kn_InvalidDrift : PySem.W.kitOne K (.ref C_InvalidDrift) (.ref C_NetError) = some true)
    (kr_InvalidReadings : kits K C_InvalidReadings [C_InvalidKind, C_InvalidName, C_SameMark, C_InvalidText, C_InvalidMeasure, C_InvalidMarks, C_InvalidMeasures, C_InvalidNumbers, C_InvalidPoints, C_InvalidShift, C_InvalidFactor, C_InvalidDrift, C_InvalidReadings, C_InvalidChanges, C_InvalidPrices, C_InvalidKnown, C_InvalidWays, C_InvalidLine, C_OutOfRange, C_DuplicateMark, C_UnknownMark, C_UnknownNumber, C_TooMany, C_NotNet, C_NotPlacing, C_NotWatched, C_NotEnough, C_NotApart, C_NoReading, C_NothingToUndo] = [some false, some false, some false, some false, some false, some false, some false, some false, some false, some false, some false, some false, some true, some false, some false, some false, some false, some false, some false, some false, some false, some false, some false, some false, some false, some false, some false, some false, some false, some false])
    (kv_InvalidReadings : PySem.W.kitOne K (.ref C_InvalidReadings) (.type "ValueError") = some true)
    (kn_InvalidReadings : PySem.W.kitOne K (.ref C_InvalidReadings) (.ref C_NetError) = some true)
    (kr_InvalidChanges : kits K C_InvalidChanges [C_InvalidKind, C_InvalidName, C_SameMark, C_InvalidText, C_InvalidMeasure, C_InvalidMarks, C_InvalidMeasures, C_InvalidNumbers, C_InvalidPoints, C_InvalidShift, C_InvalidFactor, C_InvalidDrift, C_InvalidReadings, C_InvalidChanges, C_InvalidPrices, C_InvalidKnown, C_InvalidWays, C_InvalidLine, C_OutOfRange, C_DuplicateMark, C_UnknownMark, C_UnknownNumber, C_TooMany, C_NotNet, C_NotPlacing, C_NotWatched, C_NotEnough, C_NotApart, C_NoReading, C_NothingToUndo] = [some false, some false, some false, some false, some false, some false, some false, some false, some false, some false, some false, some false, some false, some true, some false, some false, some false, some false, some false, some false, some false, some false, some false, some false, some false, some false, some false, some false, some false, some false])
    (kv_InvalidChanges : PySem.W.kitOne K (.ref C_InvalidChanges) (.type "ValueError") = some true)
    (kn_InvalidChanges : PySem.W.kitOne K (.ref C_InvalidChanges) (.ref C_NetError) = some true)
    (kr_InvalidPrices : kits K C_InvalidPrices [C_InvalidKind, C_InvalidName, C_SameMark, C_InvalidText, C_InvalidMeasure, C_InvalidMarks, C_InvalidMeasures, C_InvalidNumbers, C_InvalidPoints, C_InvalidShift, C_InvalidFactor, C_InvalidDrift, C_InvalidReadings, C_InvalidChanges, C_InvalidPrices, C_InvalidKnown, C_InvalidWays, C_InvalidLine, C_OutOfRange, C_DuplicateMark, C_UnknownMark, C_UnknownNumber, C_TooMany, C_NotNet, C_NotPlacing, C_NotWatched, C_NotEnough, C_NotApart, C_NoReading, C_NothingToUndo] = [some false, some false, some false, some false, some false, some false, some false, some false, some false, some false, some false, some false, some false, some false, some true, some false, some false, some false, some false, some false, some false, some false, some false, some false, some false, some false, some false, some false, some false, some false])
    (kv_InvalidPrices : PySem.W.kitOne K (.ref C_InvalidPrices) (.type "ValueError") = some true)
    (kn_InvalidPrices : PySem.W.kitOne K (.ref C_InvalidPrices) (.ref C_NetError) = some true)
    (kr_InvalidKnown : kits K C_InvalidKnown [C_InvalidKind, C_InvalidName, C_SameMark, C_InvalidText, C_InvalidMeasure, C_InvalidMarks, C_InvalidMeasures, C_InvalidNumbers, C_InvalidPoints, C_InvalidShift, C_InvalidFactor, C_InvalidDrift, C_InvalidReadings, C_InvalidChanges, C_InvalidPrices, C_InvalidKnown, C_InvalidWays, C_InvalidLine, C_OutOfRange, C_DuplicateMark, C_UnknownMark, C_UnknownNumber, C_TooMany, C_NotNet, C_NotPlacing, C_NotWatched, C_NotEnough, C_NotApart, C_NoReading, C_NothingToUndo] = [some false, some false, some false, some false, some false, some false, some false, some false, some false, some false, some false, some false, some false, some false, some false, some true, some false, some false, some false, some false, some false, some false, some false, some false, some false, some false, some false, some false, some false, some false])
    (kv_InvalidKnown : PySem.W.kitOne K (.ref C_InvalidKnown) (.type "ValueError") = some true)
    (kn_InvalidKnown : PySem.W.kitOne K (.ref C_InvalidKnown) (.ref C_NetError) = some true)
    (kr_InvalidWays : kits K C_InvalidWays [C_InvalidKind, C_InvalidName, C_SameMark, C_InvalidText, C_InvalidMeasure, C_InvalidMarks, C_InvalidMeasures, C_InvalidNumbers, C_InvalidPoints, C_InvalidShift, C_InvalidFactor, C_InvalidDrift, C_InvalidReadings, C_InvalidChanges, C_InvalidPrices, C_InvalidKnown, C_InvalidWays, C_InvalidLine, C_OutOfRange, C_DuplicateMark, C_UnknownMark, C_UnknownNumber, C_TooMany, C_NotNet, C_NotPlacing, C_NotWatched, C_NotEnough, C_NotApart, C_NoReading, C_NothingToUndo] = [some false, some false, some false, some false, some false, some false, some false, some false, some false, some false, some false, some false, some false, some false, some false, some false, some true, some false, some false, some false, some false, some false, some false, some false, some false, some false, some false, some false, some false, some false])
    (kv_InvalidWays : PySem.W.kitOne K (.ref C_InvalidWays) (.type "ValueError") = some true)
    (kn_InvalidWays : PySem.W.kitOne K (.ref C_InvalidWays) (.ref C_NetError) = some true)
    (kr_InvalidLine : kits K C_InvalidLine [C_InvalidKind, C_InvalidName, C_SameMark, C_InvalidText, C_InvalidMeasure, C_InvalidMarks, C_InvalidMeasures, C_InvalidNumbers, C_InvalidPoints, C_InvalidShift, C_InvalidFactor, C_InvalidDrift, C_InvalidReadings, C_InvalidChanges, C_InvalidPrices, C_InvalidKnown, C_InvalidWays, C_InvalidLine, C_OutOfRange, C_DuplicateMark, C_UnknownMark, C_UnknownNumber, C_TooMany, C_NotNet, C_NotPlacing, C_NotWatched, C_NotEnough, C_NotApart, C_NoReading, C_NothingToUndo] = [some false, some false, some false, some false, some false, some false, some false, some false, some false, some false, some false, some false, some false, some false, some false, some false, some false, some true, some false, some false, some false, some false, some false, some false, some false, some false, some false, some false, some false, some false])
    (kv_InvalidLine : PySem.W.kitOne K (.ref C_InvalidLine) (.type "ValueError") = some true)
    (kn_InvalidLine : PySem.W.kitOne K (.ref C_InvalidLine) (.ref C_NetError) = some true)
    (kr_OutOfRange : kits K C_OutOfRange [C_InvalidKind, C_InvalidName, C_SameMark, C_InvalidText, C_InvalidMeasure, C_InvalidMarks, C_InvalidMeasures, C_InvalidNumbers, C_InvalidPoints, C_InvalidShift, C_InvalidFactor, C_InvalidDrift, C_InvalidReadings, C_InvalidChanges, C_InvalidPrices, C_InvalidKnown, C_InvalidWays, C_InvalidLine, C_OutOfRange, C_DuplicateMark, C_UnknownMark, C_UnknownNumber, C_TooMany, C_NotNet, C_NotPlacing, C_NotWatched, C_NotEnough, C_NotApart, C_NoReading, C_NothingToUndo] = [some false, some false, some false, some false, some false, some false, some false, some false, some false, some false, some false, some false, some false, some false, some false, some false, some false, some false, some true, some false, some false, some false, some false, some false, some false, some false, some false, some false, some false, some false])
    (kv_OutOfRange : PySem.W.kitOne K (.ref C_OutOfRange) (.type "ValueError") = some true)
    (kn_OutOfRange : PySem.W.kitOne K (.ref C_OutOfRange) (.ref C_NetError) = some true)
    (kr_DuplicateMark : kits K C_DuplicateMark [C_InvalidKind, C_InvalidName, C_SameMark, C_InvalidText, C_InvalidMeasure, C_InvalidMarks, C_InvalidMeasures, C_InvalidNumbers, C_InvalidPoints, C_InvalidShift, C_InvalidFactor, C_InvalidDrift, C_InvalidReadings, C_InvalidChanges, C_InvalidPrices, C_InvalidKnown, C_InvalidWays, C_InvalidLine, C_OutOfRange, C_DuplicateMark, C_UnknownMark, C_UnknownNumber, C_TooMany, C_NotNet, C_NotPlacing, C_NotWatched, C_NotEnough, C_NotApart, C_NoReading, C_NothingToUndo] = [some false, some false, some false, some false, some false, some false, some false, some false, some false, some false, some false, some false, some false, some false, some false, some false, some false, some false, some false, some true, some false, some false, some false, some false, some false, some false, some false, some false, some false, some false])
    (kv_DuplicateMark : PySem.W.kitOne K (.ref C_DuplicateMark) (.type "ValueError") = some true)
    (kn_DuplicateMark : PySem.W.kitOne K (.ref C_DuplicateMark) (.ref C_NetError) = some true)
    (kr_UnknownMark : kits K C_UnknownMark [C_InvalidKind, C_InvalidName, C_SameMark, C_InvalidText, C_InvalidMeasure, C_InvalidMarks, C_InvalidMeasures, C_InvalidNumbers, C_InvalidPoints, C_InvalidShift, C_InvalidFactor, C_InvalidDrift, C_InvalidReadings, C_InvalidChanges, C_InvalidPrices, C_InvalidKnown, C_InvalidWays, C_InvalidLine, C_OutOfRange, C_DuplicateMark, C_UnknownMark, C_UnknownNumber, C_TooMany, C_NotNet, C_NotPlacing, C_NotWatched, C_NotEnough, C_NotApart, C_NoReading, C_NothingToUndo] = [some false, some false, some false, some false, some false, some false, some false, some false, some false, some false, some false, some false, some false, some false, some false, some false, some false, some false, some false, some false, some true, some false, some false, some false, some false, some false, some false, some false, some false, some false])
    (kv_UnknownMark : PySem.W.kitOne K (.ref C_UnknownMark) (.type "ValueError") = some true)
    (kn_UnknownMark : PySem.W.kitOne K (.ref C_UnknownMark) (.ref C_NetError) = some true)
    (kr_UnknownNumber : kits K C_UnknownNumber [C_InvalidKind, C_InvalidName, C_SameMark, C_InvalidText, C_InvalidMeasure, C_InvalidMarks, C_InvalidMeasures, C_InvalidNumbers, C_InvalidPoints, C_InvalidShift, C_InvalidFactor, C_InvalidDrift, C_InvalidReadings, C_InvalidChanges, C_InvalidPrices, C_InvalidKnown, C_InvalidWays, C_InvalidLine, C_OutOfRange, C_DuplicateMark, C_UnknownMark, C_UnknownNumber, C_TooMany, C_NotNet, C_NotPlacing, C_NotWatched, C_NotEnough, C_NotApart, C_NoReading, C_NothingToUndo] = [some false, some false, some false, some false, some false, some false, some false, some false, some false, some false, some false, some false, some false, some false, some false, some false, some false, some false, some false, some false, some false, some true, some false, some false, some false, some false, some false, some false, some false, some false])
    (kv_UnknownNumber : PySem.W.kitOne K (.ref C_UnknownNumber) (.type "ValueError") = some true)
    (kn_UnknownNumber : PySem.W.kitOne K (.ref C_UnknownNumber) (.ref C_NetError) = some true)
    (kr_TooMany : kits K C_TooMany [C_InvalidKind, C_InvalidName, C_SameMark, C_InvalidText, C_InvalidMeasure, C_InvalidMarks, C_InvalidMeasures, C_InvalidNumbers, C_InvalidPoints, C_InvalidShift, C_InvalidFactor, C_InvalidDrift, C_InvalidReadings, C_InvalidChanges, C_InvalidPrices, C_InvalidKnown, C_InvalidWays, C_InvalidLine, C_OutOfRange, C_DuplicateMark, C_UnknownMark, C_UnknownNumber, C_TooMany, C_NotNet, C_NotPlacing, C_NotWatched, C_NotEnough, C_NotApart, C_NoReading, C_NothingToUndo] = [some false, some false, some false, some false, some false, some false, some false, some false, some false, some false, some false, some false, some false, some false, some false, some false, some false, some false, some false, some false, some false, some false, some true, some false, some false, some false, some false, some false, some false, some false])
    (kv_TooMany : PySem.W.kitOne K (.ref C_TooMany) (.type "ValueError") = some true)
    (kn_TooMany : PySem.W.kitOne K (.ref C_TooMany) (.ref C_NetError) = some true)
    (kr_NotNet : kits K C_NotNet [C_InvalidKind, C_InvalidName, C_SameMark, C_InvalidText, C_InvalidMeasure, C_InvalidMarks, C_InvalidMeasures, C_InvalidNumbers, C_InvalidPoints, C_InvalidShift, C_InvalidFactor, C_InvalidDrift, C_InvalidReadings, C_InvalidChanges, C_InvalidPrices, C_InvalidKnown, C_InvalidWays, C_InvalidLine, C_OutOfRange, C_DuplicateMark, C_UnknownMark, C_UnknownNumber, C_TooMany, C_NotNet, C_NotPlacing, C_NotWatched, C_NotEnough, C_NotApart, C_NoReading, C_NothingToUndo] = [some false, some false, some false, some false, some false, some false, some false, some false, some false, some false, some false, some false, some false, some false, some false, some false, some false, some false, some false, some false, some false, some false, some false, some true, some false, some false, some false, some false, some false, some false])
    (kv_NotNet : PySem.W.kitOne K (.ref C_NotNet) (.type "ValueError") = some true)
    (kn_NotNet : PySem.W.kitOne K (.ref C_NotNet) (.ref C_NetError) = some true)
    (kr_NotPlacing : kits K C_NotPlacing [C_InvalidKind, C_InvalidName, C_SameMark, C_InvalidText, C_InvalidMeasure, C_InvalidMarks, C_InvalidMeasures, C_InvalidNumbers, C_InvalidPoints, C_InvalidShift, C_InvalidFactor, C_InvalidDrift, C_InvalidReadings, C_InvalidChanges, C_InvalidPrices, C_InvalidKnown, C_InvalidWays, C_InvalidLine, C_OutOfRange, C_DuplicateMark, C_UnknownMark, C_UnknownNumber, C_TooMany, C_NotNet, C_NotPlacing, C_NotWatched, C_NotEnough, C_NotApart, C_NoReading, C_NothingToUndo] = [some false, some false, some false, some false, some false, some false, some false, some false, some false, some false, some false, some false, some false, some false, some false, some false, some false, some false, some false, some false, some false, some false, some false, some false, some true, some false, some false, some false, some false, some false])
    (kv_NotPlacing : PySem.W.kitOne K (.ref C_NotPlacing) (.type "ValueError") = some true)
    (kn_NotPlacing : PySem.W.kitOne K (.ref C_NotPlacing) (.ref C_NetError) = some true)
    (kr_NotWatched : kits K C_NotWatched [C_InvalidKind, C_InvalidName, C_SameMark, C_InvalidText, C_InvalidMeasure, C_InvalidMarks, C_InvalidMeasures, C_InvalidNumbers, C_InvalidPoints, C_InvalidShift, C_InvalidFactor, C_InvalidDrift, C_InvalidReadings, C_InvalidChanges, C_InvalidPrices, C_InvalidKnown, C_InvalidWays, C_InvalidLine, C_OutOfRange, C_DuplicateMark, C_UnknownMark, C_UnknownNumber, C_TooMany, C_NotNet, C_NotPlacing, C_NotWatched, C_NotEnough, C_NotApart, C_NoReading, C_NothingToUndo] = [some false, some false, some false, some false, some false, some false, some false, some false, some false, some false, some false, some false, some false, some false, some false, some false, some false, some false, some false, some false, some false, some false, some false, some false, some false, some true, some false, some false, some false, some false])
    (kv_NotWatched : PySem.W.kitOne K (.ref C_NotWatched) (.type "ValueError") = some true)
    (kn_NotWatched : PySem.W.kitOne K (.ref C_NotWatched) (.ref C_NetError) = some true)
    (kr_NotEnough : kits K C_NotEnough [C_InvalidKind, C_InvalidName, C_SameMark, C_InvalidText, C_InvalidMeasure, C_InvalidMarks, C_InvalidMeasures, C_InvalidNumbers, C_InvalidPoints, C_InvalidShift, C_InvalidFactor, C_InvalidDrift, C_InvalidReadings, C_InvalidChanges, C_InvalidPrices, C_InvalidKnown, C_InvalidWays, C_InvalidLine, C_OutOfRange, C_DuplicateMark, C_UnknownMark, C_UnknownNumber, C_TooMany, C_NotNet, C_NotPlacing, C_NotWatched, C_NotEnough, C_NotApart, C_NoReading, C_NothingToUndo] = [some false, some false, some false, some false, some false, some false, some false, some false, some false, some false, some false, some false, some false, some false, some false, some false, some false, some false, some false, some false, some false, some false, some false, some false, some false, some false, some true, some false, some false, some false])
    (kv_NotEnough : PySem.W.kitOne K (.ref C_NotEnough) (.type "ValueError") = some true)
    (kn_NotEnough : PySem.W.kitOne K (.ref C_NotEnough) (.ref C_NetError) = some true)
    (kr_NotApart : kits K C_NotApart [C_InvalidKind, C_InvalidName, C_SameMark, C_InvalidText, C_InvalidMeasure, C_InvalidMarks, C_InvalidMeasures, C_InvalidNumbers, C_InvalidPoints, C_InvalidShift, C_InvalidFactor, C_InvalidDrift, C_InvalidReadings, C_InvalidChanges, C_InvalidPrices, C_InvalidKnown, C_InvalidWays, C_InvalidLine, C_OutOfRange, C_DuplicateMark, C_UnknownMark, C_UnknownNumber, C_TooMany, C_NotNet, C_NotPlacing, C_NotWatched, C_NotEnough, C_NotApart, C_NoReading, C_NothingToUndo] = [some false, some false, some false, some false, some false, some false, some false, some false, some false, some false, some false, some false, some false, some false, some false, some false, some false, some false, some false, some false, some false, some false, some false, some false, some false, some false, some false, some true, some false, some false])
    (kv_NotApart : PySem.W.kitOne K (.ref C_NotApart) (.type "ValueError") = some true)
    (kn_NotApart : PySem.W.kitOne K (.ref C_NotApart) (.ref C_NetError) = some true)
    (kr_NoReading : kits K C_NoReading [C_InvalidKind, C_InvalidName, C_SameMark, C_InvalidText, C_InvalidMeasure, C_InvalidMarks, C_InvalidMeasures, C_InvalidNumbers, C_InvalidPoints, C_InvalidShift, C_InvalidFactor, C_InvalidDrift, C_InvalidReadings, C_InvalidChanges, C_InvalidPrices, C_InvalidKnown, C_InvalidWays, C_InvalidLine, C_OutOfRange, C_DuplicateMark, C_UnknownMark, C_UnknownNumber, C_TooMany, C_NotNet, C_NotPlacing, C_NotWatched, C_NotEnough, C_NotApart, C_NoReading, C_NothingToUndo] = [some false, some false, some false, some false, some false, some false, some false, some false, some false, some false, some false, some false, some false, some false, some false, some false, some false, some false, some false, some false, some false, some false, some false, some false, some false, some false, some false, some false, some true, some false])
    (kv_NoReading : PySem.W.kitOne K (.ref C_NoReading) (.type "ValueError") = some true)
    (kn_NoReading : PySem.W.kitOne K (.ref C_NoReading) (.ref C_NetError) = some true)
    (kr_NetError : kits K C_NetError [C_InvalidKind, C_InvalidName, C_SameMark, C_InvalidText, C_InvalidMeasure, C_InvalidMarks, C_InvalidMeasures, C_InvalidNumbers, C_InvalidPoints, C_InvalidShift, C_InvalidFactor, C_InvalidDrift, C_InvalidReadings, C_InvalidChanges, C_InvalidPrices, C_InvalidKnown, C_InvalidWays, C_InvalidLine, C_OutOfRange, C_DuplicateMark, C_UnknownMark, C_UnknownNumber, C_TooMany, C_NotNet, C_NotPlacing, C_NotWatched, C_NotEnough, C_NotApart, C_NoReading, C_NothingToUndo] = [some false, some false, some false, some false, some false, some false, some false, some false, some false, some false, some false, some false, some false, some false, some false, some false, some false, some false, some false, some false, some false, some false, some false, some false, some false, some false, some false, some false, some false, some false])
    (kv_NetError : PySem.W.kitOne K (.ref C_NetError) (.type "ValueError") = some true)
    (kn_NetError : PySem.W.kitOne K (.ref C_NetError) (.ref C_NetError) = some true) :
    LawAtG l w K (L2.CX l.prog w) 2 63 "_law_script" mg fa h := by
  have e := hfa.symm.trans (PySem.W.mg_of X Gx a_law)
  cases e
  let T : Top l.prog K mg := { f_l_cell := f_l_cell, fd_l_cell := _, F_l_cell := funV_mk (st := s_l_cell) l_l_cell cc_l_cell k_l_cell, b_l_cell := (.all fun us hl => match us, hl with | [_, _], _ => rfl), g_l_cell := PySem.W.mg_of X Gx a_l_cell, f_l_box := f_l_box, fd_l_box := _, F_l_box := funV_mk (st := s_l_box) l_l_box cc_l_box k_l_box, b_l_box := (.all fun us hl => match us, hl with | [_], _ => rfl), g_l_box := PySem.W.mg_of X Gx a_l_box, f_l_take := f_l_take, fd_l_take := _, F_l_take := funV_mk (st := s_l_take) l_l_take cc_l_take k_l_take, b_l_take := (.all fun us hl => match us, hl with | [_, _], _ => rfl), g_l_take := PySem.W.mg_of X Gx a_l_take, f_l_made0 := f_l_made0, fd_l_made0 := _, F_l_made0 := funV_mk (st := s_l_made0) l_l_made0 cc_l_made0 k_l_made0, b_l_made0 := (.all fun us hl => match us, hl with | [_, _, _], _ => rfl), g_l_made0 := PySem.W.mg_of X Gx a_l_made0, f_l_made1 := f_l_made1, fd_l_made1 := _, F_l_made1 := funV_mk (st := s_l_made1) l_l_made1 cc_l_made1 k_l_made1, b_l_made1 := (.all fun us hl => match us, hl with | [_, _, _], _ => rfl), g_l_made1 := PySem.W.mg_of X Gx a_l_made1, f_l_made2 := f_l_made2, fd_l_made2 := _, F_l_made2 := funV_mk (st := s_l_made2) l_l_made2 cc_l_made2 k_l_made2, b_l_made2 := (.all fun us hl => match us, hl with | [_, _, _], _ => rfl), g_l_made2 := PySem.W.mg_of X Gx a_l_made2, f_l_kinds := f_l_kinds, fd_l_kinds := _, F_l_kinds := funV_mk (st := s_l_kinds) l_l_kinds cc_l_kinds k_l_kinds, b_l_kinds := (.all fun us hl => match us, hl with | [_], _ => rfl), g_l_kinds := PySem.W.mg_of X Gx a_l_kinds, f_law := _, fd_law := _, F_law := funV_mk (st := s_law) l_law cc_law k_law, b_law := (.all fun us hl => match us, hl with | [_], _ => rfl), g_law := PySem.W.mg_of X Gx a_law, m_isinstance := PySem.W.mg_none_of X Gx y_isinstance, m_int := PySem.W.mg_none_of X Gx y_int, m_list := PySem.W.mg_none_of X Gx y_list, m_dict := PySem.W.mg_none_of X Gx y_dict, m_len := PySem.W.mg_none_of X Gx y_len, m_max := PySem.W.mg_none_of X Gx y_max, m_min := PySem.W.mg_none_of X Gx y_min, m_range := PySem.W.mg_none_of X Gx y_range, m_enumerate := PySem.W.mg_none_of X Gx y_enumerate, m_repr := PySem.W.mg_none_of X Gx y_repr, m_ValueError := PySem.W.mg_none_of X Gx y_ValueError, C_NothingToUndo := C_NothingToUndo, g_NothingToUndo := PySem.W.mg_of X Gx aC_NothingToUndo, I_NothingToUndo := I_NothingToUndo, E_NothingToUndo := e_NothingToUndo.1, Z_NothingToUndo := e_NothingToUndo.2, C_InvalidKind := C_InvalidKind, g_InvalidKind := PySem.W.mg_of X Gx aC_InvalidKind, I_InvalidKind := I_InvalidKind, E_InvalidKind := e_InvalidKind.1, B_InvalidKind := e_InvalidKind.2.1, Z_InvalidKind := e_InvalidKind.2.2, C_InvalidName := C_InvalidName, g_InvalidName := PySem.W.mg_of X Gx aC_InvalidName, I_InvalidName := I_InvalidName, E_InvalidName := e_InvalidName.1, B_InvalidName := e_InvalidName.2.1, Z_InvalidName := e_InvalidName.2.2, C_SameMark := C_SameMark, g_SameMark := PySem.W.mg_of X Gx aC_SameMark, I_SameMark := I_SameMark, E_SameMark := e_SameMark.1, B_SameMark := e_SameMark.2.1, Z_SameMark := e_SameMark.2.2, C_InvalidText := C_InvalidText, g_InvalidText := PySem.W.mg_of X Gx aC_InvalidText, I_InvalidText := I_InvalidText, E_InvalidText := e_InvalidText.1, B_InvalidText := e_InvalidText.2.1, Z_InvalidText := e_InvalidText.2.2, C_InvalidMeasure := C_InvalidMeasure, g_InvalidMeasure := PySem.W.mg_of X Gx aC_InvalidMeasure, I_InvalidMeasure := I_InvalidMeasure, E_InvalidMeasure := e_InvalidMeasure.1, B_InvalidMeasure := e_InvalidMeasure.2.1, Z_InvalidMeasure := e_InvalidMeasure.2.2, C_InvalidMarks := C_InvalidMarks, g_InvalidMarks := PySem.W.mg_of X Gx aC_InvalidMarks, I_InvalidMarks := I_InvalidMarks, E_InvalidMarks := e_InvalidMarks.1, B_InvalidMarks := e_InvalidMarks.2.1, Z_InvalidMarks := e_InvalidMarks.2.2, C_InvalidMeasures := C_InvalidMeasures, g_InvalidMeasures := PySem.W.mg_of X Gx aC_InvalidMeasures, I_InvalidMeasures := I_InvalidMeasures, E_InvalidMeasures := e_InvalidMeasures.1, B_InvalidMeasures := e_InvalidMeasures.2.1, Z_InvalidMeasures := e_InvalidMeasures.2.2, C_InvalidNumbers := C_InvalidNumbers, g_InvalidNumbers := PySem.W.mg_of X Gx aC_InvalidNumbers, I_InvalidNumbers := I_InvalidNumbers, E_InvalidNumbers := e_InvalidNumbers.1, B_InvalidNumbers := e_InvalidNumbers.2.1, Z_InvalidNumbers := e_InvalidNumbers.2.2, C_InvalidPoints := C_InvalidPoints, g_InvalidPoints := PySem.W.mg_of X Gx aC_InvalidPoints, I_InvalidPoints := I_InvalidPoints, E_InvalidPoints := e_InvalidPoints.1, B_InvalidPoints := e_InvalidPoints.2.1, Z_InvalidPoints := e_InvalidPoints.2.2, C_InvalidShift := C_InvalidShift, g_InvalidShift := PySem.W.mg_of X Gx aC_InvalidShift, I_InvalidShift := I_InvalidShift, E_InvalidShift := e_InvalidShift.1, B_InvalidShift := e_InvalidShift.2.1, Z_InvalidShift := e_InvalidShift.2.2, C_InvalidFactor := C_InvalidFactor, g_InvalidFactor := PySem.W.mg_of X Gx aC_InvalidFactor, I_InvalidFactor := I_InvalidFactor, E_InvalidFactor := e_InvalidFactor.1, B_InvalidFactor := e_InvalidFactor.2.1, Z_InvalidFactor := e_InvalidFactor.2.2, C_InvalidDrift := C_InvalidDrift, g_InvalidDrift := PySem.W.mg_of X Gx aC_InvalidDrift, I_InvalidDrift := I_InvalidDrift, E_InvalidDrift := e_InvalidDrift.1, B_InvalidDrift := e_InvalidDrift.2.1, Z_InvalidDrift := e_InvalidDrift.2.2, C_InvalidReadings := C_InvalidReadings, g_InvalidReadings := PySem.W.mg_of X Gx aC_InvalidReadings, I_InvalidReadings := I_InvalidReadings, E_InvalidReadings := e_InvalidReadings.1, B_InvalidReadings := e_InvalidReadings.2.1, Z_InvalidReadings := e_InvalidReadings.2.2, C_InvalidChanges := C_InvalidChanges, g_InvalidChanges := PySem.W.mg_of X Gx aC_InvalidChanges, I_InvalidChanges := I_InvalidChanges, E_InvalidChanges := e_InvalidChanges.1, B_InvalidChanges := e_InvalidChanges.2.1, Z_InvalidChanges := e_InvalidChanges.2.2, C_InvalidPrices := C_InvalidPrices, g_InvalidPrices := PySem.W.mg_of X Gx aC_InvalidPrices, I_InvalidPrices := I_InvalidPrices, E_InvalidPrices := e_InvalidPrices.1, B_InvalidPrices := e_InvalidPrices.2.1, Z_InvalidPrices := e_InvalidPrices.2.2, C_InvalidKnown := C_InvalidKnown, g_InvalidKnown := PySem.W.mg_of X Gx aC_InvalidKnown, I_InvalidKnown := I_InvalidKnown, E_InvalidKnown := e_InvalidKnown.1, B_InvalidKnown := e_InvalidKnown.2.1, Z_InvalidKnown := e_InvalidKnown.2.2, C_InvalidWays := C_InvalidWays, g_InvalidWays := PySem.W.mg_of X Gx aC_InvalidWays, I_InvalidWays := I_InvalidWays, E_InvalidWays := e_InvalidWays.1, B_InvalidWays := e_InvalidWays.2.1, Z_InvalidWays := e_InvalidWays.2.2, C_InvalidLine := C_InvalidLine, g_InvalidLine := PySem.W.mg_of X Gx aC_InvalidLine, I_InvalidLine := I_InvalidLine, E_InvalidLine := e_InvalidLine.1, B_InvalidLine := e_InvalidLine.2.1, Z_InvalidLine := e_InvalidLine.2.2, C_OutOfRange := C_OutOfRange, g_OutOfRange := PySem.W.mg_of X Gx aC_OutOfRange, I_OutOfRange := I_OutOfRange, E_OutOfRange := e_OutOfRange.1, B_OutOfRange := e_OutOfRange.2.1, Z_OutOfRange := e_OutOfRange.2.2, C_DuplicateMark := C_DuplicateMark, g_DuplicateMark := PySem.W.mg_of X Gx aC_DuplicateMark, I_DuplicateMark := I_DuplicateMark, E_DuplicateMark := e_DuplicateMark.1, B_DuplicateMark := e_DuplicateMark.2.1, Z_DuplicateMark := e_DuplicateMark.2.2, C_UnknownMark := C_UnknownMark, g_UnknownMark := PySem.W.mg_of X Gx aC_UnknownMark, I_UnknownMark := I_UnknownMark, E_UnknownMark := e_UnknownMark.1, B_UnknownMark := e_UnknownMark.2.1, Z_UnknownMark := e_UnknownMark.2.2, C_UnknownNumber := C_UnknownNumber, g_UnknownNumber := PySem.W.mg_of X Gx aC_UnknownNumber, I_UnknownNumber := I_UnknownNumber, E_UnknownNumber := e_UnknownNumber.1, B_UnknownNumber := e_UnknownNumber.2.1, Z_UnknownNumber := e_UnknownNumber.2.2, C_TooMany := C_TooMany, g_TooMany := PySem.W.mg_of X Gx aC_TooMany, I_TooMany := I_TooMany, E_TooMany := e_TooMany.1, B_TooMany := e_TooMany.2.1, Z_TooMany := e_TooMany.2.2, C_NotNet := C_NotNet, g_NotNet := PySem.W.mg_of X Gx aC_NotNet, I_NotNet := I_NotNet, E_NotNet := e_NotNet.1, B_NotNet := e_NotNet.2.1, Z_NotNet := e_NotNet.2.2, C_NotPlacing := C_NotPlacing, g_NotPlacing := PySem.W.mg_of X Gx aC_NotPlacing, I_NotPlacing := I_NotPlacing, E_NotPlacing := e_NotPlacing.1, B_NotPlacing := e_NotPlacing.2.1, Z_NotPlacing := e_NotPlacing.2.2, C_NotWatched := C_NotWatched, g_NotWatched := PySem.W.mg_of X Gx aC_NotWatched, I_NotWatched := I_NotWatched, E_NotWatched := e_NotWatched.1, B_NotWatched := e_NotWatched.2.1, Z_NotWatched := e_NotWatched.2.2, C_NotEnough := C_NotEnough, g_NotEnough := PySem.W.mg_of X Gx aC_NotEnough, I_NotEnough := I_NotEnough, E_NotEnough := e_NotEnough.1, B_NotEnough := e_NotEnough.2.1, Z_NotEnough := e_NotEnough.2.2, C_NotApart := C_NotApart, g_NotApart := PySem.W.mg_of X Gx aC_NotApart, I_NotApart := I_NotApart, E_NotApart := e_NotApart.1, B_NotApart := e_NotApart.2.1, Z_NotApart := e_NotApart.2.2, C_NoReading := C_NoReading, g_NoReading := PySem.W.mg_of X Gx aC_NoReading, I_NoReading := I_NoReading, E_NoReading := e_NoReading.1, B_NoReading := e_NoReading.2.1, Z_NoReading := e_NoReading.2.2, C_NetError := C_NetError, g_NetError := PySem.W.mg_of X Gx aC_NetError, O_NetError := e_NetError.1, Z_NetError := e_NetError.2, kr_NothingToUndo := kr_NothingToUndo, kv_NothingToUndo := kv_NothingToUndo, kn_NothingToUndo := kn_NothingToUndo, kr_InvalidKind := kr_InvalidKind, kv_InvalidKind := kv_InvalidKind, kn_InvalidKind := kn_InvalidKind, kr_InvalidName := kr_InvalidName, kv_InvalidName := kv_InvalidName, kn_InvalidName := kn_InvalidName, kr_SameMark := kr_SameMark, kv_SameMark := kv_SameMark, kn_SameMark := kn_SameMark, kr_InvalidText := kr_InvalidText, kv_InvalidText := kv_InvalidText, kn_InvalidText := kn_InvalidText, kr_InvalidMeasure := kr_InvalidMeasure, kv_InvalidMeasure := kv_InvalidMeasure, kn_InvalidMeasure := kn_InvalidMeasure, kr_InvalidMarks := kr_InvalidMarks, kv_InvalidMarks := kv_InvalidMarks, kn_InvalidMarks := kn_InvalidMarks, kr_InvalidMeasures := kr_InvalidMeasures, kv_InvalidMeasures := kv_InvalidMeasures, kn_InvalidMeasures := kn_InvalidMeasures, kr_InvalidNumbers := kr_InvalidNumbers, kv_InvalidNumbers := kv_InvalidNumbers, kn_InvalidNumbers := kn_InvalidNumbers, kr_InvalidPoints := kr_InvalidPoints, kv_InvalidPoints := kv_InvalidPoints, kn_InvalidPoints := kn_InvalidPoints, kr_InvalidShift := kr_InvalidShift, kv_InvalidShift := kv_InvalidShift, kn_InvalidShift := kn_InvalidShift, kr_InvalidFactor := kr_InvalidFactor, kv_InvalidFactor := kv_InvalidFactor, kn_InvalidFactor := kn_InvalidFactor, kr_InvalidDrift := kr_InvalidDrift, kv_InvalidDrift := kv_InvalidDrift, kn_InvalidDrift := kn_InvalidDrift, kr_InvalidReadings := kr_InvalidReadings, kv_InvalidReadings := kv_InvalidReadings, kn_InvalidReadings := kn_InvalidReadings, kr_InvalidChanges := kr_InvalidChanges, kv_InvalidChanges := kv_InvalidChanges, kn_InvalidChanges := kn_InvalidChanges, kr_InvalidPrices := kr_InvalidPrices, kv_InvalidPrices := kv_InvalidPrices, kn_InvalidPrices := kn_InvalidPrices, kr_InvalidKnown := kr_InvalidKnown, kv_InvalidKnown := kv_InvalidKnown, kn_InvalidKnown := kn_InvalidKnown, kr_InvalidWays := kr_InvalidWays, kv_InvalidWays := kv_InvalidWays, kn_InvalidWays := kn_InvalidWays, kr_InvalidLine := kr_InvalidLine, kv_InvalidLine := kv_InvalidLine, kn_InvalidLine := kn_InvalidLine, kr_OutOfRange := kr_OutOfRange, kv_OutOfRange := kv_OutOfRange, kn_OutOfRange := kn_OutOfRange, kr_DuplicateMark := kr_DuplicateMark, kv_DuplicateMark := kv_DuplicateMark, kn_DuplicateMark := kn_DuplicateMark, kr_UnknownMark := kr_UnknownMark, kv_UnknownMark := kv_UnknownMark, kn_UnknownMark := kn_UnknownMark, kr_UnknownNumber := kr_UnknownNumber, kv_UnknownNumber := kv_UnknownNumber, kn_UnknownNumber := kn_UnknownNumber, kr_TooMany := kr_TooMany, kv_TooMany := kv_TooMany, kn_TooMany := kn_TooMany, kr_NotNet := kr_NotNet, kv_NotNet := kv_NotNet, kn_NotNet := kn_NotNet, kr_NotPlacing := kr_NotPlacing, kv_NotPlacing := kv_NotPlacing, kn_NotPlacing := kn_NotPlacing, kr_NotWatched := kr_NotWatched, kv_NotWatched := kv_NotWatched, kn_NotWatched := kn_NotWatched, kr_NotEnough := kr_NotEnough, kv_NotEnough := kv_NotEnough, kn_NotEnough := kn_NotEnough, kr_NotApart := kr_NotApart, kv_NotApart := kv_NotApart, kn_NotApart := kn_NotApart, kr_NoReading := kr_NoReading, kv_NoReading := kv_NoReading, kn_NoReading := kn_NoReading, kr_NetError := kr_NetError, kv_NetError := kv_NetError, kn_NetError := kn_NetError }
  refine ⟨T.fd_law, [], SpG K T.tabs (m_law T), (fun _ z => nomatch z), (fun _ z => nomatch z), (fun _ z => nomatch z), fun s u => .of_eq rfl, ?_, ?_⟩
  · intro H a ns hl _ hH hS
    refine law_sp ?_ hS (law_true ns hl)
    intro z hz
    simp only [Top.tabs, List.mem_cons, List.not_mem_nil, or_false] at hz
  · intro base _ _ hB
    exact ok_law T
end K04
open PySem PySem.W PyProof.Rows
set_option maxRecDepth 100000 in
set_option maxHeartbeats 0 in
theorem PySem.Challenge.cw_chaincompass_k04_errors_by_class_holds : PySem.Challenge.rw_chaincompass_k04_errors_by_class.Holds := by
  w_on; o_law; k_headL; (case hw => w_witness2)
  k_fill
  refine M.walk_ofG (l := PySem.Challenge.rw_chaincompass_k04_errors_by_class) (n := 63) (k := 2) (x := "_law_script") (CX := fun w => L2.CX PySem.Challenge.rw_chaincompass_k04_errors_by_class.prog w) rfl (by decide) rfl ⟨rfl, by decide, by decide⟩ (fun w h Y => PySem.W.kIn_of Y) ?F (fun _ _ _ _ _ h => M.cx_none h)
  case F =>
    intro w mg fa h Y KX Gx hmg
    refine' K04.all_mk KX Gx hmg ?a_l_cell ?l_l_cell ?cc_l_cell ?k_l_cell ?a_l_box ?l_l_box ?cc_l_box ?k_l_box ?a_l_take ?l_l_take ?cc_l_take ?k_l_take ?a_l_made0 ?l_l_made0 ?cc_l_made0 ?k_l_made0 ?a_l_made1 ?l_l_made1 ?cc_l_made1 ?k_l_made1 ?a_l_made2 ?l_l_made2 ?cc_l_made2 ?k_l_made2 ?a_l_kinds ?l_l_kinds ?cc_l_kinds ?k_l_kinds ?a_law ?l_law ?cc_law ?k_law ?y_isinstance ?y_int ?y_list ?y_dict ?y_len ?y_max ?y_min ?y_range ?y_enumerate ?y_repr ?y_ValueError ?aC_NothingToUndo ?e_NothingToUndo ?aC_InvalidKind ?e_InvalidKind ?aC_InvalidName ?e_InvalidName ?aC_SameMark ?e_SameMark ?aC_InvalidText ?e_InvalidText ?aC_InvalidMeasure ?e_InvalidMeasure ?aC_InvalidMarks ?e_InvalidMarks ?aC_InvalidMeasures ?e_InvalidMeasures ?aC_InvalidNumbers ?e_InvalidNumbers ?aC_InvalidPoints ?e_InvalidPoints ?aC_InvalidShift ?e_InvalidShift ?aC_InvalidFactor ?e_InvalidFactor ?aC_InvalidDrift ?e_InvalidDrift ?aC_InvalidReadings ?e_InvalidReadings ?aC_InvalidChanges ?e_InvalidChanges ?aC_InvalidPrices ?e_InvalidPrices ?aC_InvalidKnown ?e_InvalidKnown ?aC_InvalidWays ?e_InvalidWays ?aC_InvalidLine ?e_InvalidLine ?aC_OutOfRange ?e_OutOfRange ?aC_DuplicateMark ?e_DuplicateMark ?aC_UnknownMark ?e_UnknownMark ?aC_UnknownNumber ?e_UnknownNumber ?aC_TooMany ?e_TooMany ?aC_NotNet ?e_NotNet ?aC_NotPlacing ?e_NotPlacing ?aC_NotWatched ?e_NotWatched ?aC_NotEnough ?e_NotEnough ?aC_NotApart ?e_NotApart ?aC_NoReading ?e_NoReading ?aC_NetError ?e_NetError ?kr_NothingToUndo ?kv_NothingToUndo ?kn_NothingToUndo ?kr_InvalidKind ?kv_InvalidKind ?kn_InvalidKind ?kr_InvalidName ?kv_InvalidName ?kn_InvalidName ?kr_SameMark ?kv_SameMark ?kn_SameMark ?kr_InvalidText ?kv_InvalidText ?kn_InvalidText ?kr_InvalidMeasure ?kv_InvalidMeasure ?kn_InvalidMeasure ?kr_InvalidMarks ?kv_InvalidMarks ?kn_InvalidMarks ?kr_InvalidMeasures ?kv_InvalidMeasures ?kn_InvalidMeasures ?kr_InvalidNumbers ?kv_InvalidNumbers ?kn_InvalidNumbers ?kr_InvalidPoints ?kv_InvalidPoints ?kn_InvalidPoints ?kr_InvalidShift ?kv_InvalidShift ?kn_InvalidShift ?kr_InvalidFactor ?kv_InvalidFactor ?kn_InvalidFactor ?kr_InvalidDrift ?kv_InvalidDrift ?kn_InvalidDrift ?kr_InvalidReadings ?kv_InvalidReadings ?kn_InvalidReadings ?kr_InvalidChanges ?kv_InvalidChanges ?kn_InvalidChanges ?kr_InvalidPrices ?kv_InvalidPrices ?kn_InvalidPrices ?kr_InvalidKnown ?kv_InvalidKnown ?kn_InvalidKnown ?kr_InvalidWays ?kv_InvalidWays ?kn_InvalidWays ?kr_InvalidLine ?kv_InvalidLine ?kn_InvalidLine ?kr_OutOfRange ?kv_OutOfRange ?kn_OutOfRange ?kr_DuplicateMark ?kv_DuplicateMark ?kn_DuplicateMark ?kr_UnknownMark ?kv_UnknownMark ?kn_UnknownMark ?kr_UnknownNumber ?kv_UnknownNumber ?kn_UnknownNumber ?kr_TooMany ?kv_TooMany ?kn_TooMany ?kr_NotNet ?kv_NotNet ?kn_NotNet ?kr_NotPlacing ?kv_NotPlacing ?kn_NotPlacing ?kr_NotWatched ?kv_NotWatched ?kn_NotWatched ?kr_NotEnough ?kv_NotEnough ?kn_NotEnough ?kr_NotApart ?kv_NotApart ?kn_NotApart ?kr_NoReading ?kv_NoReading ?kn_NoReading ?kr_NetError ?kv_NetError ?kn_NetError
    (case a_l_cell => k_is)
    (case l_l_cell => k_is)
    (case cc_l_cell => k_is)
    (case k_l_cell => k_is)
    (case a_l_box => k_is)
    (case l_l_box => k_is)
    (case cc_l_box => k_is)
    (case k_l_box => k_is)
    (case a_l_take => k_is)
    (case l_l_take => k_is)
    (case cc_l_take => k_is)
    (case k_l_take => k_is)
    (case a_l_made0 => k_is)
    (case l_l_made0 => k_is)
    (case cc_l_made0 => k_is)
    (case k_l_made0 => k_is)
    (case a_l_made1 => k_is)
    (case l_l_made1 => k_is)
    (case cc_l_made1 => k_is)
    (case k_l_made1 => k_is)
    (case a_l_made2 => k_is)
    (case l_l_made2 => k_is)
    (case cc_l_made2 => k_is)
    (case k_l_made2 => k_is)
    (case a_l_kinds => k_is)
    (case l_l_kinds => k_is)
    (case cc_l_kinds => k_is)
    (case k_l_kinds => k_is)
    (case a_law => k_is)
    (case l_law => k_is)
    (case cc_law => k_is)
    (case k_law => k_is)
    (case y_isinstance => k_is)
    (case y_int => k_is)
    (case y_list => k_is)
    (case y_dict => k_is)
    (case y_len => k_is)
    (case y_max => k_is)
    (case y_min => k_is)
    (case y_range => k_is)
    (case y_enumerate => k_is)
    (case y_repr => k_is)
    (case y_ValueError => k_is)
    (case aC_NothingToUndo => k_is)
    (case e_NothingToUndo => 
      refine' M.err_mk0 KX Gx ?aC ?xL ?rv ?al ?sa ?ga ?gg ?ic ?tc ?kc ?ex ?ve ?mi ?ty ?hd ?fl ?fc ?fd ?f2 ?ff ?ev ?fk ?ca ?cn ?ck ?cm ?sup ?htop ?opn ?bp
      (case aC => k_is)
      (case xL => k_is)
      (case rv => first | rfl | kernel_rfl)
      (case al => kernel_rfl)
      (case sa => k_is)
      (case ga => k_is)
      (case gg => k_is)
      (case ic => k_is)
      (case tc => k_is)
      (case kc => k_is)
      (case ex => k_is)
      (case ve => k_is)
      (case mi => k_is)
      (case ty => k_is)
      (case hd => k_is)
      (case fl => k_is)
      (case fc => k_is)
      (case fd => k_is)
      (case f2 => rfl)
      (case ff => first | rfl | kernel_rfl)
      (case ev => exact fun env => ⟨_, rfl⟩)
      (case fk => k_is)
      (case ca => k_is)
      (case cn => k_is)
      (case ck => k_is)
      (case cm => k_is)
      (case sup => k_is)
      (case htop => first | rfl | kernel_rfl)
      (case opn => k_is)
      (case bp => exact fun s x => .of_eq rfl))
    (case aC_InvalidKind => k_is)
    (case e_InvalidKind => 
      refine' M.err_mk KX Gx ?aC ?xL ?rv ?al ?sa ?ga ?gg ?nn ?ic ?tc ?kc ?ex ?ve ?mi ?ty ?hd ?fl ?fc ?fd ?f2 ?ff ?ev ?fk ?ca ?cn ?ck ?cm ?sup ?htop ?opn ?fs ?fcl ?fu ?fg ?bp ?bk
      (case aC => k_is)
      (case xL => k_is)
      (case rv => first | rfl | kernel_rfl)
      (case al => kernel_rfl)
      (case sa => k_is)
      (case ga => k_is)
      (case gg => k_is)
      (case nn => k_is)
      (case ic => k_is)
      (case tc => k_is)
      (case kc => k_is)
      (case ex => k_is)
      (case ve => k_is)
      (case mi => k_is)
      (case ty => k_is)
      (case hd => k_is)
      (case fl => k_is)
      (case fc => k_is)
      (case fd => k_is)
      (case f2 => rfl)
      (case ff => first | rfl | kernel_rfl)
      (case ev => exact fun env => ⟨_, rfl⟩)
      (case fk => k_is)
      (case ca => k_is)
      (case cn => k_is)
      (case ck => k_is)
      (case cm => k_is)
      (case sup => k_is)
      (case htop => first | rfl | kernel_rfl)
      (case opn => k_is)
      (case fs => decide +kernel)
      (case fcl => decide +kernel)
      (case fu => decide +kernel)
      (case fg => decide +kernel)
      (case bp => exact fun s x v => .of_eq rfl)
      (case bk => exact fun s x v => .of_eq rfl))
    (case aC_InvalidName => k_is)
    (case e_InvalidName => 
      refine' M.err_mk KX Gx ?aC ?xL ?rv ?al ?sa ?ga ?gg ?nn ?ic ?tc ?kc ?ex ?ve ?mi ?ty ?hd ?fl ?fc ?fd ?f2 ?ff ?ev ?fk ?ca ?cn ?ck ?cm ?sup ?htop ?opn ?fs ?fcl ?fu ?fg ?bp ?bk
      (case aC => k_is)
      (case xL => k_is)
      (case rv => first | rfl | kernel_rfl)
      (case al => kernel_rfl)
      (case sa => k_is)
      (case ga => k_is)
      (case gg => k_is)
      (case nn => k_is)
      (case ic => k_is)
      (case tc => k_is)
      (case kc => k_is)
      (case ex => k_is)
      (case ve => k_is)
      (case mi => k_is)
      (case ty => k_is)
      (case hd => k_is)
      (case fl => k_is)
      (case fc => k_is)
      (case fd => k_is)
      (case f2 => rfl)
      (case ff => first | rfl | kernel_rfl)
      (case ev => exact fun env => ⟨_, rfl⟩)
      (case fk => k_is)
      (case ca => k_is)
      (case cn => k_is)
      (case ck => k_is)
      (case cm => k_is)
      (case sup => k_is)
      (case htop => first | rfl | kernel_rfl)
      (case opn => k_is)
      (case fs => decide +kernel)
      (case fcl => decide +kernel)
      (case fu => decide +kernel)
      (case fg => decide +kernel)
      (case bp => exact fun s x v => .of_eq rfl)
      (case bk => exact fun s x v => .of_eq rfl))
    (case aC_SameMark => k_is)
    (case e_SameMark => 
      refine' M.err_mk KX Gx ?aC ?xL ?rv ?al ?sa ?ga ?gg ?nn ?ic ?tc ?kc ?ex ?ve ?mi ?ty ?hd ?fl ?fc ?fd ?f2 ?ff ?ev ?fk ?ca ?cn ?ck ?cm ?sup ?htop ?opn ?fs ?fcl ?fu ?fg ?bp ?bk
      (case aC => k_is)
      (case xL => k_is)
      (case rv => first | rfl | kernel_rfl)
      (case al => kernel_rfl)
      (case sa => k_is)
      (case ga => k_is)
      (case gg => k_is)
      (case nn => k_is)
      (case ic => k_is)
      (case tc => k_is)
      (case kc => k_is)
      (case ex => k_is)
      (case ve => k_is)
      (case mi => k_is)
      (case ty => k_is)
      (case hd => k_is)
      (case fl => k_is)
      (case fc => k_is)
      (case fd => k_is)
      (case f2 => rfl)
      (case ff => first | rfl | kernel_rfl)
      (case ev => exact fun env => ⟨_, rfl⟩)
      (case fk => k_is)
      (case ca => k_is)
      (case cn => k_is)
      (case ck => k_is)
      (case cm => k_is)
      (case sup => k_is)
      (case htop => first | rfl | kernel_rfl)
      (case opn => k_is)
      (case fs => decide +kernel)
      (case fcl => decide +kernel)
      (case fu => decide +kernel)
      (case fg => decide +kernel)
      (case bp => exact fun s x v => .of_eq rfl)
      (case bk => exact fun s x v => .of_eq rfl))
    (case aC_InvalidText => k_is)
    (case e_InvalidText => 
      refine' M.err_mk KX Gx ?aC ?xL ?rv ?al ?sa ?ga ?gg ?nn ?ic ?tc ?kc ?ex ?ve ?mi ?ty ?hd ?fl ?fc ?fd ?f2 ?ff ?ev ?fk ?ca ?cn ?ck ?cm ?sup ?htop ?opn ?fs ?fcl ?fu ?fg ?bp ?bk
      (case aC => k_is)
      (case xL => k_is)
      (case rv => first | rfl | kernel_rfl)
      (case al => kernel_rfl)
      (case sa => k_is)
      (case ga => k_is)
      (case gg => k_is)
      (case nn => k_is)
      (case ic => k_is)
      (case tc => k_is)
      (case kc => k_is)
      (case ex => k_is)
      (case ve => k_is)
      (case mi => k_is)
      (case ty => k_is)
      (case hd => k_is)
      (case fl => k_is)
      (case fc => k_is)
      (case fd => k_is)
      (case f2 => rfl)
      (case ff => first | rfl | kernel_rfl)
      (case ev => exact fun env => ⟨_, rfl⟩)
      (case fk => k_is)
      (case ca => k_is)
      (case cn => k_is)
      (case ck => k_is)
      (case cm => k_is)
      (case sup => k_is)
      (case htop => first | rfl | kernel_rfl)
      (case opn => k_is)
      (case fs => decide +kernel)
      (case fcl => decide +kernel)
      (case fu => decide +kernel)
      (case fg => decide +kernel)
      (case bp => exact fun s x v => .of_eq rfl)
      (case bk => exact fun s x v => .of_eq rfl))
    (case aC_InvalidMeasure => k_is)
    (case e_InvalidMeasure => 
      refine' M.err_mk KX Gx ?aC ?xL ?rv ?al ?sa ?ga ?gg ?nn ?ic ?tc ?kc ?ex ?ve ?mi ?ty ?hd ?fl ?fc ?fd ?f2 ?ff ?ev ?fk ?ca ?cn ?ck ?cm ?sup ?htop ?opn ?fs ?fcl ?fu ?fg ?bp ?bk
      (case aC => k_is)
      (case xL => k_is)
      (case rv => first | rfl | kernel_rfl)
      (case al => kernel_rfl)
      (case sa => k_is)
      (case ga => k_is)
      (case gg => k_is)
      (case nn => k_is)
      (case ic => k_is)
      (case tc => k_is)
      (case kc => k_is)
      (case ex => k_is)
      (case ve => k_is)
      (case mi => k_is)
      (case ty => k_is)
      (case hd => k_is)
      (case fl => k_is)
      (case fc => k_is)
      (case fd => k_is)
      (case f2 => rfl)
      (case ff => first | rfl | kernel_rfl)
      (case ev => exact fun env => ⟨_, rfl⟩)
      (case fk => k_is)
      (case ca => k_is)
      (case cn => k_is)
      (case ck => k_is)
      (case cm => k_is)
      (case sup => k_is)
      (case htop => first | rfl | kernel_rfl)
      (case opn => k_is)
      (case fs => decide +kernel)
      (case fcl => decide +kernel)
      (case fu => decide +kernel)
      (case fg => decide +kernel)
      (case bp => exact fun s x v => .of_eq rfl)
      (case bk => exact fun s x v => .of_eq rfl))
    (case aC_InvalidMarks => k_is)
    (case e_InvalidMarks => 
      refine' M.err_mk KX Gx ?aC ?xL ?rv ?al ?sa ?ga ?gg ?nn ?ic ?tc ?kc ?ex ?ve ?mi ?ty ?hd ?fl ?fc ?fd ?f2 ?ff ?ev ?fk ?ca ?cn ?ck ?cm ?sup ?htop ?opn ?fs ?fcl ?fu ?fg ?bp ?bk
      (case aC => k_is)
      (case xL => k_is)
      (case rv => first | rfl | kernel_rfl)
      (case al => kernel_rfl)
      (case sa => k_is)
      (case ga => k_is)
      (case gg => k_is)
      (case nn => k_is)
      (case ic => k_is)
      (case tc => k_is)
      (case kc => k_is)
      (case ex => k_is)
      (case ve => k_is)
      (case mi => k_is)
      (case ty => k_is)
      (case hd => k_is)
      (case fl => k_is)
      (case fc => k_is)
      (case fd => k_is)
      (case f2 => rfl)
      (case ff => first | rfl | kernel_rfl)
      (case ev => exact fun env => ⟨_, rfl⟩)
      (case fk => k_is)
      (case ca => k_is)
      (case cn => k_is)
      (case ck => k_is)
      (case cm => k_is)
      (case sup => k_is)
      (case htop => first | rfl | kernel_rfl)
      (case opn => k_is)
      (case fs => decide +kernel)
      (case fcl => decide +kernel)
      (case fu => decide +kernel)
      (case fg => decide +kernel)
      (case bp => exact fun s x v => .of_eq rfl)
      (case bk => exact fun s x v => .of_eq rfl))
    (case aC_InvalidMeasures => k_is)
    (case e_InvalidMeasures => 
      refine' M.err_mk KX Gx ?aC ?xL ?rv ?al ?sa ?ga ?gg ?nn ?ic ?tc ?kc ?ex ?ve ?mi ?ty ?hd ?fl ?fc ?fd ?f2 ?ff ?ev ?fk ?ca ?cn ?ck ?cm ?sup ?htop ?opn ?fs ?fcl ?fu ?fg ?bp ?bk
      (case aC => k_is)
      (case xL => k_is)
      (case rv => first | rfl | kernel_rfl)
      (case al => kernel_rfl)
      (case sa => k_is)
      (case ga => k_is)
      (case gg => k_is)
      (case nn => k_is)
      (case ic => k_is)
      (case tc => k_is)
      (case kc => k_is)
      (case ex => k_is)
      (case ve => k_is)
      (case mi => k_is)
      (case ty => k_is)
      (case hd => k_is)
      (case fl => k_is)
      (case fc => k_is)
      (case fd => k_is)
      (case f2 => rfl)
      (case ff => first | rfl | kernel_rfl)
      (case ev => exact fun env => ⟨_, rfl⟩)
      (case fk => k_is)
      (case ca => k_is)
      (case cn => k_is)
      (case ck => k_is)
      (case cm => k_is)
      (case sup => k_is)
      (case htop => first | rfl | kernel_rfl)
      (case opn => k_is)
      (case fs => decide +kernel)
      (case fcl => decide +kernel)
      (case fu => decide +kernel)
      (case fg => decide +kernel)
      (case bp => exact fun s x v => .of_eq rfl)
      (case bk => exact fun s x v => .of_eq rfl))
    (case aC_InvalidNumbers => k_is)
    (case e_InvalidNumbers => 
      refine' M.err_mk KX Gx ?aC ?xL ?rv ?al ?sa ?ga ?gg ?nn ?ic ?tc ?kc ?ex ?ve ?mi ?ty ?hd ?fl ?fc ?fd ?f2 ?ff ?ev ?fk ?ca ?cn ?ck ?cm ?sup ?htop ?opn ?fs ?fcl ?fu ?fg ?bp ?bk
      (case aC => k_is)
      (case xL => k_is)
      (case rv => first | rfl | kernel_rfl)
      (case al => kernel_rfl)
      (case sa => k_is)
      (case ga => k_is)
      (case gg => k_is)
      (case nn => k_is)
      (case ic => k_is)
      (case tc => k_is)
      (case kc => k_is)
      (case ex => k_is)
      (case ve => k_is)
      (case mi => k_is)
      (case ty => k_is)
      (case hd => k_is)
      (case fl => k_is)
      (case fc => k_is)
      (case fd => k_is)
      (case f2 => rfl)
      (case ff => first | rfl | kernel_rfl)
      (case ev => exact fun env => ⟨_, rfl⟩)
      (case fk => k_is)
      (case ca => k_is)
      (case cn => k_is)
      (case ck => k_is)
      (case cm => k_is)
      (case sup => k_is)
      (case htop => first | rfl | kernel_rfl)
      (case opn => k_is)
      (case fs => decide +kernel)
      (case fcl => decide +kernel)
      (case fu => decide +kernel)
      (case fg => decide +kernel)
      (case bp => exact fun s x v => .of_eq rfl)
      (case bk => exact fun s x v => .of_eq rfl))
    (case aC_InvalidPoints => k_is)
    (case e_InvalidPoints => 
      refine' M.err_mk KX Gx ?aC ?xL ?rv ?al ?sa ?ga ?gg ?nn ?ic ?tc ?kc ?ex ?ve ?mi ?ty ?hd ?fl ?fc ?fd ?f2 ?ff ?ev ?fk ?ca ?cn ?ck ?cm ?sup ?htop ?opn ?fs ?fcl ?fu ?fg ?bp ?bk
      (case aC => k_is)
      (case xL => k_is)
      (case rv => first | rfl | kernel_rfl)
      (case al => kernel_rfl)
      (case sa => k_is)
      (case ga => k_is)
      (case gg => k_is)
      (case nn => k_is)
      (case ic => k_is)
      (case tc => k_is)
      (case kc => k_is)
      (case ex => k_is)
      (case ve => k_is)
      (case mi => k_is)
      (case ty => k_is)
      (case hd => k_is)
      (case fl => k_is)
      (case fc => k_is)
      (case fd => k_is)
      (case f2 => rfl)
      (case ff => first | rfl | kernel_rfl)
      (case ev => exact fun env => ⟨_, rfl⟩)
      (case fk => k_is)
      (case ca => k_is)
      (case cn => k_is)
      (case ck => k_is)
      (case cm => k_is)
      (case sup => k_is)
      (case htop => first | rfl | kernel_rfl)
      (case opn => k_is)
      (case fs => decide +kernel)
      (case fcl => decide +kernel)
      (case fu => decide +kernel)
      (case fg => decide +kernel)
      (case bp => exact fun s x v => .of_eq rfl)
      (case bk => exact fun s x v => .of_eq rfl))
    (case aC_InvalidShift => k_is)
    (case e_InvalidShift => 
      refine' M.err_mk KX Gx ?aC ?xL ?rv ?al ?sa ?ga ?gg ?nn ?ic ?tc ?kc ?ex ?ve ?mi ?ty ?hd ?fl ?fc ?fd ?f2 ?ff ?ev ?fk ?ca ?cn ?ck ?cm ?sup ?htop ?opn ?fs ?fcl ?fu ?fg ?bp ?bk
      (case aC => k_is)
      (case xL => k_is)
      (case rv => first | rfl | kernel_rfl)
      (case al => kernel_rfl)
      (case sa => k_is)
      (case ga => k_is)
      (case gg => k_is)
      (case nn => k_is)
      (case ic => k_is)
      (case tc => k_is)
      (case kc => k_is)
      (case ex => k_is)
      (case ve => k_is)
      (case mi => k_is)
      (case ty => k_is)
      (case hd => k_is)
      (case fl => k_is)
      (case fc => k_is)
      (case fd => k_is)
      (case f2 => rfl)
      (case ff => first | rfl | kernel_rfl)
      (case ev => exact fun env => ⟨_, rfl⟩)
      (case fk => k_is)
      (case ca => k_is)
      (case cn => k_is)
      (case ck => k_is)
      (case cm => k_is)
      (case sup => k_is)
      (case htop => first | rfl | kernel_rfl)
      (case opn => k_is)
      (case fs => decide +kernel)
      (case fcl => decide +kernel)
      (case fu => decide +kernel)
      (case fg => decide +kernel)
      (case bp => exact fun s x v => .of_eq rfl)
      (case bk => exact fun s x v => .of_eq rfl))
    (case aC_InvalidFactor => k_is)
    (case e_InvalidFactor => 
      refine' M.err_mk KX Gx ?aC ?xL ?rv ?al ?sa ?ga ?gg ?nn ?ic ?tc ?kc ?ex ?ve ?mi ?ty ?hd ?fl ?fc ?fd ?f2 ?ff ?ev ?fk ?ca ?cn ?ck ?cm ?sup ?htop ?opn ?fs ?fcl ?fu ?fg ?bp ?bk
      (case aC => k_is)
      (case xL => k_is)
      (case rv => first | rfl | kernel_rfl)
      (case al => kernel_rfl)
      (case sa => k_is)
      (case ga => k_is)
      (case gg => k_is)
      (case nn => k_is)
      (case ic => k_is)
      (case tc => k_is)
      (case kc => k_is)
      (case ex => k_is)
      (case ve => k_is)
      (case mi => k_is)
      (case ty => k_is)
      (case hd => k_is)
      (case fl => k_is)
      (case fc => k_is)
      (case fd => k_is)
      (case f2 => rfl)
      (case ff => first | rfl | kernel_rfl)
      (case ev => exact fun env => ⟨_, rfl⟩)
      (case fk => k_is)
      (case ca => k_is)
      (case cn => k_is)
      (case ck => k_is)
      (case cm => k_is)
      (case sup => k_is)
      (case htop => first | rfl | kernel_rfl)
      (case opn => k_is)
      (case fs => decide +kernel)
      (case fcl => decide +kernel)
      (case fu => decide +kernel)
      (case fg => decide +kernel)
      (case bp => exact fun s x v => .of_eq rfl)
      (case bk => exact fun s x v => .of_eq rfl))
    (case aC_InvalidDrift => k_is)
    (case e_InvalidDrift => 
      refine' M.err_mk KX Gx ?aC ?xL ?rv ?al ?sa ?ga ?gg ?nn ?ic ?tc ?kc ?ex ?ve ?mi ?ty ?hd ?fl ?fc ?fd ?f2 ?ff ?ev ?fk ?ca ?cn ?ck ?cm ?sup ?htop ?opn ?fs ?fcl ?fu ?fg ?bp ?bk
      (case aC => k_is)
      (case xL => k_is)
      (case rv => first | rfl | kernel_rfl)
      (case al => kernel_rfl)
      (case sa => k_is)
      (case ga => k_is)
      (case gg => k_is)
      (case nn => k_is)
      (case ic => k_is)
      (case tc => k_is)
      (case kc => k_is)
      (case ex => k_is)
      (case ve => k_is)
      (case mi => k_is)
      (case ty => k_is)
      (case hd => k_is)
      (case fl => k_is)
      (case fc => k_is)
      (case fd => k_is)
      (case f2 => rfl)
      (case ff => first | rfl | kernel_rfl)
      (case ev => exact fun env => ⟨_, rfl⟩)
      (case fk => k_is)
      (case ca => k_is)
      (case cn => k_is)
      (case ck => k_is)
      (case cm => k_is)
      (case sup => k_is)
      (case htop => first | rfl | kernel_rfl)
      (case opn => k_is)
      (case fs => decide +kernel)
      (case fcl => decide +kernel)
      (case fu => decide +kernel)
      (case fg => decide +kernel)
      (case bp => exact fun s x v => .of_eq rfl)
      (case bk => exact fun s x v => .of_eq rfl))
    (case aC_InvalidReadings => k_is)
    (case e_InvalidReadings => 
      refine' M.err_mk KX Gx ?aC ?xL ?rv ?al ?sa ?ga ?gg ?nn ?ic ?tc ?kc ?ex ?ve ?mi ?ty ?hd ?fl ?fc ?fd ?f2 ?ff ?ev ?fk ?ca ?cn ?ck ?cm ?sup ?htop ?opn ?fs ?fcl ?fu ?fg ?bp ?bk
      (case aC => k_is)
      (case xL => k_is)
      (case rv => first | rfl | kernel_rfl)
      (case al => kernel_rfl)
      (case sa => k_is)
      (case ga => k_is)
      (case gg => k_is)
      (case nn => k_is)
      (case ic => k_is)
      (case tc => k_is)
      (case kc => k_is)
      (case ex => k_is)
      (case ve => k_is)
      (case mi => k_is)
      (case ty => k_is)
      (case hd => k_is)
      (case fl => k_is)
      (case fc => k_is)
      (case fd => k_is)
      (case f2 => rfl)
      (case ff => first | rfl | kernel_rfl)
      (case ev => exact fun env => ⟨_, rfl⟩)
      (case fk => k_is)
      (case ca => k_is)
      (case cn => k_is)
      (case ck => k_is)
      (case cm => k_is)
      (case sup => k_is)
      (case htop => first | rfl | kernel_rfl)
      (case opn => k_is)
      (case fs => decide +kernel)
      (case fcl => decide +kernel)
      (case fu => decide +kernel)
      (case fg => decide +kernel)
      (case bp => exact fun s x v => .of_eq rfl)
      (case bk => exact fun s x v => .of_eq rfl))
    (case aC_InvalidChanges => k_is)
    (case e_InvalidChanges => 
      refine' M.err_mk KX Gx ?aC ?xL ?rv ?al ?sa ?ga ?gg ?nn ?ic ?tc ?kc ?ex ?ve ?mi ?ty ?hd ?fl ?fc ?fd ?f2 ?ff ?ev ?fk ?ca ?cn ?ck ?cm ?sup ?htop ?opn ?fs ?fcl ?fu ?fg ?bp ?bk
      (case aC => k_is)
      (case xL => k_is)
      (case rv => first | rfl | kernel_rfl)
      (case al => kernel_rfl)
      (case sa => k_is)
      (case ga => k_is)
      (case gg => k_is)
      (case nn => k_is)
      (case ic => k_is)
      (case tc => k_is)
      (case kc => k_is)
      (case ex => k_is)
      (case ve => k_is)
      (case mi => k_is)
      (case ty => k_is)
      (case hd => k_is)
      (case fl => k_is)
      (case fc => k_is)
      (case fd => k_is)
      (case f2 => rfl)
      (case ff => first | rfl | kernel_rfl)
      (case ev => exact fun env => ⟨_, rfl⟩)
      (case fk => k_is)
      (case ca => k_is)
      (case cn => k_is)
      (case ck => k_is)
      (case cm => k_is)
      (case sup => k_is)
      (case htop => first | rfl | kernel_rfl)
      (case opn => k_is)
      (case fs => decide +kernel)
      (case fcl => decide +kernel)
      (case fu => decide +kernel)
      (case fg => decide +kernel)
      (case bp => exact fun s x v => .of_eq rfl)
      (case bk => exact fun s x v => .of_eq rfl))
    (case aC_InvalidPrices => k_is)
    (case e_InvalidPrices => 
      refine' M.err_mk KX Gx ?aC ?xL ?rv ?al ?sa ?ga ?gg ?nn ?ic ?tc ?kc ?ex ?ve ?mi ?ty ?hd ?fl ?fc ?fd ?f2 ?ff ?ev ?fk ?ca ?cn ?ck ?cm ?sup ?htop ?opn ?fs ?fcl ?fu ?fg ?bp ?bk
      (case aC => k_is)
      (case xL => k_is)
      (case rv => first | rfl | kernel_rfl)
      (case al => kernel_rfl)
      (case sa => k_is)
      (case ga => k_is)
      (case gg => k_is)
      (case nn => k_is)
      (case ic => k_is)
      (case tc => k_is)
      (case kc => k_is)
      (case ex => k_is)
      (case ve => k_is)
      (case mi => k_is)
      (case ty => k_is)
      (case hd => k_is)
      (case fl => k_is)
      (case fc => k_is)
      (case fd => k_is)
      (case f2 => rfl)
      (case ff => first | rfl | kernel_rfl)
      (case ev => exact fun env => ⟨_, rfl⟩)
      (case fk => k_is)
      (case ca => k_is)
      (case cn => k_is)
      (case ck => k_is)
      (case cm => k_is)
      (case sup => k_is)
      (case htop => first | rfl | kernel_rfl)
      (case opn => k_is)
      (case fs => decide +kernel)
      (case fcl => decide +kernel)
      (case fu => decide +kernel)
      (case fg => decide +kernel)
      (case bp => exact fun s x v => .of_eq rfl)
      (case bk => exact fun s x v => .of_eq rfl))
    (case aC_InvalidKnown => k_is)
    (case e_InvalidKnown => 
      refine' M.err_mk KX Gx ?aC ?xL ?rv ?al ?sa ?ga ?gg ?nn ?ic ?tc ?kc ?ex ?ve ?mi ?ty ?hd ?fl ?fc ?fd ?f2 ?ff ?ev ?fk ?ca ?cn ?ck ?cm ?sup ?htop ?opn ?fs ?fcl ?fu ?fg ?bp ?bk
      (case aC => k_is)
      (case xL => k_is)
      (case rv => first | rfl | kernel_rfl)
      (case al => kernel_rfl)
      (case sa => k_is)
      (case ga => k_is)
      (case gg => k_is)
      (case nn => k_is)
      (case ic => k_is)
      (case tc => k_is)
      (case kc => k_is)
      (case ex => k_is)
      (case ve => k_is)
      (case mi => k_is)
      (case ty => k_is)
      (case hd => k_is)
      (case fl => k_is)
      (case fc => k_is)
      (case fd => k_is)
      (case f2 => rfl)
      (case ff => first | rfl | kernel_rfl)
      (case ev => exact fun env => ⟨_, rfl⟩)
      (case fk => k_is)
      (case ca => k_is)
      (case cn => k_is)
      (case ck => k_is)
      (case cm => k_is)
      (case sup => k_is)
      (case htop => first | rfl | kernel_rfl)
      (case opn => k_is)
      (case fs => decide +kernel)
      (case fcl => decide +kernel)
      (case fu => decide +kernel)
      (case fg => decide +kernel)
      (case bp => exact fun s x v => .of_eq rfl)
      (case bk => exact fun s x v => .of_eq rfl))
    (case aC_InvalidWays => k_is)
    (case e_InvalidWays => 
      refine' M.err_mk KX Gx ?aC ?xL ?rv ?al ?sa ?ga ?gg ?nn ?ic ?tc ?kc ?ex ?ve ?mi ?ty ?hd ?fl ?fc ?fd ?f2 ?ff ?ev ?fk ?ca ?cn ?ck ?cm ?sup ?htop ?opn ?fs ?fcl ?fu ?fg ?bp ?bk
      (case aC => k_is)
      (case xL => k_is)
      (case rv => first | rfl | kernel_rfl)
      (case al => kernel_rfl)
      (case sa => k_is)
      (case ga => k_is)
      (case gg => k_is)
      (case nn => k_is)
      (case ic => k_is)
      (case tc => k_is)
      (case kc => k_is)
      (case ex => k_is)
      (case ve => k_is)
      (case mi => k_is)
      (case ty => k_is)
      (case hd => k_is)
      (case fl => k_is)
      (case fc => k_is)
      (case fd => k_is)
      (case f2 => rfl)
      (case ff => first | rfl | kernel_rfl)
      (case ev => exact fun env => ⟨_, rfl⟩)
      (case fk => k_is)
      (case ca => k_is)
      (case cn => k_is)
      (case ck => k_is)
      (case cm => k_is)
      (case sup => k_is)
      (case htop => first | rfl | kernel_rfl)
      (case opn => k_is)
      (case fs => decide +kernel)
      (case fcl => decide +kernel)
      (case fu => decide +kernel)
      (case fg => decide +kernel)
      (case bp => exact fun s x v => .of_eq rfl)
      (case bk => exact fun s x v => .of_eq rfl))
    (case aC_InvalidLine => k_is)
    (case e_InvalidLine => 
      refine' M.err_mk KX Gx ?aC ?xL ?rv ?al ?sa ?ga ?gg ?nn ?ic ?tc ?kc ?ex ?ve ?mi ?ty ?hd ?fl ?fc ?fd ?f2 ?ff ?ev ?fk ?ca ?cn ?ck ?cm ?sup ?htop ?opn ?fs ?fcl ?fu ?fg ?bp ?bk
      (case aC => k_is)
      (case xL => k_is)
      (case rv => first | rfl | kernel_rfl)
      (case al => kernel_rfl)
      (case sa => k_is)
      (case ga => k_is)
      (case gg => k_is)
      (case nn => k_is)
      (case ic => k_is)
      (case tc => k_is)
      (case kc => k_is)
      (case ex => k_is)
      (case ve => k_is)
      (case mi => k_is)
      (case ty => k_is)
      (case hd => k_is)
      (case fl => k_is)
      (case fc => k_is)
      (case fd => k_is)
      (case f2 => rfl)
      (case ff => first | rfl | kernel_rfl)
      (case ev => exact fun env => ⟨_, rfl⟩)
      (case fk => k_is)
      (case ca => k_is)
      (case cn => k_is)
      (case ck => k_is)
      (case cm => k_is)
      (case sup => k_is)
      (case htop => first | rfl | kernel_rfl)
      (case opn => k_is)
      (case fs => decide +kernel)
      (case fcl => decide +kernel)
      (case fu => decide +kernel)
      (case fg => decide +kernel)
      (case bp => exact fun s x v => .of_eq rfl)
      (case bk => exact fun s x v => .of_eq rfl))
    (case aC_OutOfRange => k_is)
    (case e_OutOfRange => 
      refine' M.err_mk KX Gx ?aC ?xL ?rv ?al ?sa ?ga ?gg ?nn ?ic ?tc ?kc ?ex ?ve ?mi ?ty ?hd ?fl ?fc ?fd ?f2 ?ff ?ev ?fk ?ca ?cn ?ck ?cm ?sup ?htop ?opn ?fs ?fcl ?fu ?fg ?bp ?bk
      (case aC => k_is)
      (case xL => k_is)
      (case rv => first | rfl | kernel_rfl)
      (case al => kernel_rfl)
      (case sa => k_is)
      (case ga => k_is)
      (case gg => k_is)
      (case nn => k_is)
      (case ic => k_is)
      (case tc => k_is)
      (case kc => k_is)
      (case ex => k_is)
      (case ve => k_is)
      (case mi => k_is)
      (case ty => k_is)
      (case hd => k_is)
      (case fl => k_is)
      (case fc => k_is)
      (case fd => k_is)
      (case f2 => rfl)
      (case ff => first | rfl | kernel_rfl)
      (case ev => exact fun env => ⟨_, rfl⟩)
      (case fk => k_is)
      (case ca => k_is)
      (case cn => k_is)
      (case ck => k_is)
      (case cm => k_is)
      (case sup => k_is)
      (case htop => first | rfl | kernel_rfl)
      (case opn => k_is)
      (case fs => decide +kernel)
      (case fcl => decide +kernel)
      (case fu => decide +kernel)
      (case fg => decide +kernel)
      (case bp => exact fun s x v => .of_eq rfl)
      (case bk => exact fun s x v => .of_eq rfl))
    (case aC_DuplicateMark => k_is)
    (case e_DuplicateMark => 
      refine' M.err_mk KX Gx ?aC ?xL ?rv ?al ?sa ?ga ?gg ?nn ?ic ?tc ?kc ?ex ?ve ?mi ?ty ?hd ?fl ?fc ?fd ?f2 ?ff ?ev ?fk ?ca ?cn ?ck ?cm ?sup ?htop ?opn ?fs ?fcl ?fu ?fg ?bp ?bk
      (case aC => k_is)
      (case xL => k_is)
      (case rv => first | rfl | kernel_rfl)
      (case al => kernel_rfl)
      (case sa => k_is)
      (case ga => k_is)
      (case gg => k_is)
      (case nn => k_is)
      (case ic => k_is)
      (case tc => k_is)
      (case kc => k_is)
      (case ex => k_is)
      (case ve => k_is)
      (case mi => k_is)
      (case ty => k_is)
      (case hd => k_is)
      (case fl => k_is)
      (case fc => k_is)
      (case fd => k_is)
      (case f2 => rfl)
      (case ff => first | rfl | kernel_rfl)
      (case ev => exact fun env => ⟨_, rfl⟩)
      (case fk => k_is)
      (case ca => k_is)
      (case cn => k_is)
      (case ck => k_is)
      (case cm => k_is)
      (case sup => k_is)
      (case htop => first | rfl | kernel_rfl)
      (case opn => k_is)
      (case fs => decide +kernel)
      (case fcl => decide +kernel)
      (case fu => decide +kernel)
      (case fg => decide +kernel)
      (case bp => exact fun s x v => .of_eq rfl)
      (case bk => exact fun s x v => .of_eq rfl))
    (case aC_UnknownMark => k_is)
    (case e_UnknownMark => 
      refine' M.err_mk KX Gx ?aC ?xL ?rv ?al ?sa ?ga ?gg ?nn ?ic ?tc ?kc ?ex ?ve ?mi ?ty ?hd ?fl ?fc ?fd ?f2 ?ff ?ev ?fk ?ca ?cn ?ck ?cm ?sup ?htop ?opn ?fs ?fcl ?fu ?fg ?bp ?bk
      (case aC => k_is)
      (case xL => k_is)
      (case rv => first | rfl | kernel_rfl)
      (case al => kernel_rfl)
      (case sa => k_is)
      (case ga => k_is)
      (case gg => k_is)
      (case nn => k_is)
      (case ic => k_is)
      (case tc => k_is)
      (case kc => k_is)
      (case ex => k_is)
      (case ve => k_is)
      (case mi => k_is)
      (case ty => k_is)
      (case hd => k_is)
      (case fl => k_is)
      (case fc => k_is)
      (case fd => k_is)
      (case f2 => rfl)
      (case ff => first | rfl | kernel_rfl)
      (case ev => exact fun env => ⟨_, rfl⟩)
      (case fk => k_is)
      (case ca => k_is)
      (case cn => k_is)
      (case ck => k_is)
      (case cm => k_is)
      (case sup => k_is)
      (case htop => first | rfl | kernel_rfl)
      (case opn => k_is)
      (case fs => decide +kernel)
      (case fcl => decide +kernel)
      (case fu => decide +kernel)
      (case fg => decide +kernel)
      (case bp => exact fun s x v => .of_eq rfl)
      (case bk => exact fun s x v => .of_eq rfl))
    (case aC_UnknownNumber => k_is)
    (case e_UnknownNumber => 
      refine' M.err_mk KX Gx ?aC ?xL ?rv ?al ?sa ?ga ?gg ?nn ?ic ?tc ?kc ?ex ?ve ?mi ?ty ?hd ?fl ?fc ?fd ?f2 ?ff ?ev ?fk ?ca ?cn ?ck ?cm ?sup ?htop ?opn ?fs ?fcl ?fu ?fg ?bp ?bk
      (case aC => k_is)
      (case xL => k_is)
      (case rv => first | rfl | kernel_rfl)
      (case al => kernel_rfl)
      (case sa => k_is)
      (case ga => k_is)
      (case gg => k_is)
      (case nn => k_is)
      (case ic => k_is)
      (case tc => k_is)
      (case kc => k_is)
      (case ex => k_is)
      (case ve => k_is)
      (case mi => k_is)
      (case ty => k_is)
      (case hd => k_is)
      (case fl => k_is)
      (case fc => k_is)
      (case fd => k_is)
      (case f2 => rfl)
      (case ff => first | rfl | kernel_rfl)
      (case ev => exact fun env => ⟨_, rfl⟩)
      (case fk => k_is)
      (case ca => k_is)
      (case cn => k_is)
      (case ck => k_is)
      (case cm => k_is)
      (case sup => k_is)
      (case htop => first | rfl | kernel_rfl)
      (case opn => k_is)
      (case fs => decide +kernel)
      (case fcl => decide +kernel)
      (case fu => decide +kernel)
      (case fg => decide +kernel)
      (case bp => exact fun s x v => .of_eq rfl)
      (case bk => exact fun s x v => .of_eq rfl))
    (case aC_TooMany => k_is)
    (case e_TooMany => 
      refine' M.err_mk KX Gx ?aC ?xL ?rv ?al ?sa ?ga ?gg ?nn ?ic ?tc ?kc ?ex ?ve ?mi ?ty ?hd ?fl ?fc ?fd ?f2 ?ff ?ev ?fk ?ca ?cn ?ck ?cm ?sup ?htop ?opn ?fs ?fcl ?fu ?fg ?bp ?bk
      (case aC => k_is)
      (case xL => k_is)
      (case rv => first | rfl | kernel_rfl)
      (case al => kernel_rfl)
      (case sa => k_is)
      (case ga => k_is)
      (case gg => k_is)
      (case nn => k_is)
      (case ic => k_is)
      (case tc => k_is)
      (case kc => k_is)
      (case ex => k_is)
      (case ve => k_is)
      (case mi => k_is)
      (case ty => k_is)
      (case hd => k_is)
      (case fl => k_is)
      (case fc => k_is)
      (case fd => k_is)
      (case f2 => rfl)
      (case ff => first | rfl | kernel_rfl)
      (case ev => exact fun env => ⟨_, rfl⟩)
      (case fk => k_is)
      (case ca => k_is)
      (case cn => k_is)
      (case ck => k_is)
      (case cm => k_is)
      (case sup => k_is)
      (case htop => first | rfl | kernel_rfl)
      (case opn => k_is)
      (case fs => decide +kernel)
      (case fcl => decide +kernel)
      (case fu => decide +kernel)
      (case fg => decide +kernel)
      (case bp => exact fun s x v => .of_eq rfl)
      (case bk => exact fun s x v => .of_eq rfl))
    (case aC_NotNet => k_is)
    (case e_NotNet => 
      refine' M.err_mk KX Gx ?aC ?xL ?rv ?al ?sa ?ga ?gg ?nn ?ic ?tc ?kc ?ex ?ve ?mi ?ty ?hd ?fl ?fc ?fd ?f2 ?ff ?ev ?fk ?ca ?cn ?ck ?cm ?sup ?htop ?opn ?fs ?fcl ?fu ?fg ?bp ?bk
      (case aC => k_is)
      (case xL => k_is)
      (case rv => first | rfl | kernel_rfl)
      (case al => kernel_rfl)
      (case sa => k_is)
      (case ga => k_is)
      (case gg => k_is)
      (case nn => k_is)
      (case ic => k_is)
      (case tc => k_is)
      (case kc => k_is)
      (case ex => k_is)
      (case ve => k_is)
      (case mi => k_is)
      (case ty => k_is)
      (case hd => k_is)
      (case fl => k_is)
      (case fc => k_is)
      (case fd => k_is)
      (case f2 => rfl)
      (case ff => first | rfl | kernel_rfl)
      (case ev => exact fun env => ⟨_, rfl⟩)
      (case fk => k_is)
      (case ca => k_is)
      (case cn => k_is)
      (case ck => k_is)
      (case cm => k_is)
      (case sup => k_is)
      (case htop => first | rfl | kernel_rfl)
      (case opn => k_is)
      (case fs => decide +kernel)
      (case fcl => decide +kernel)
      (case fu => decide +kernel)
      (case fg => decide +kernel)
      (case bp => exact fun s x v => .of_eq rfl)
      (case bk => exact fun s x v => .of_eq rfl))
    (case aC_NotPlacing => k_is)
    (case e_NotPlacing => 
      refine' M.err_mk KX Gx ?aC ?xL ?rv ?al ?sa ?ga ?gg ?nn ?ic ?tc ?kc ?ex ?ve ?mi ?ty ?hd ?fl ?fc ?fd ?f2 ?ff ?ev ?fk ?ca ?cn ?ck ?cm ?sup ?htop ?opn ?fs ?fcl ?fu ?fg ?bp ?bk
      (case aC => k_is)
      (case xL => k_is)
      (case rv => first | rfl | kernel_rfl)
      (case al => kernel_rfl)
      (case sa => k_is)
      (case ga => k_is)
      (case gg => k_is)
      (case nn => k_is)
      (case ic => k_is)
      (case tc => k_is)
      (case kc => k_is)
      (case ex => k_is)
      (case ve => k_is)
      (case mi => k_is)
      (case ty => k_is)
      (case hd => k_is)
      (case fl => k_is)
      (case fc => k_is)
      (case fd => k_is)
      (case f2 => rfl)
      (case ff => first | rfl | kernel_rfl)
      (case ev => exact fun env => ⟨_, rfl⟩)
      (case fk => k_is)
      (case ca => k_is)
      (case cn => k_is)
      (case ck => k_is)
      (case cm => k_is)
      (case sup => k_is)
      (case htop => first | rfl | kernel_rfl)
      (case opn => k_is)
      (case fs => decide +kernel)
      (case fcl => decide +kernel)
      (case fu => decide +kernel)
      (case fg => decide +kernel)
      (case bp => exact fun s x v => .of_eq rfl)
      (case bk => exact fun s x v => .of_eq rfl))
    (case aC_NotWatched => k_is)
    (case e_NotWatched => 
      refine' M.err_mk KX Gx ?aC ?xL ?rv ?al ?sa ?ga ?gg ?nn ?ic ?tc ?kc ?ex ?ve ?mi ?ty ?hd ?fl ?fc ?fd ?f2 ?ff ?ev ?fk ?ca ?cn ?ck ?cm ?sup ?htop ?opn ?fs ?fcl ?fu ?fg ?bp ?bk
      (case aC => k_is)
      (case xL => k_is)
      (case rv => first | rfl | kernel_rfl)
      (case al => kernel_rfl)
      (case sa => k_is)
      (case ga => k_is)
      (case gg => k_is)
      (case nn => k_is)
      (case ic => k_is)
      (case tc => k_is)
      (case kc => k_is)
      (case ex => k_is)
      (case ve => k_is)
      (case mi => k_is)
      (case ty => k_is)
      (case hd => k_is)
      (case fl => k_is)
      (case fc => k_is)
      (case fd => k_is)
      (case f2 => rfl)
      (case ff => first | rfl | kernel_rfl)
      (case ev => exact fun env => ⟨_, rfl⟩)
      (case fk => k_is)
      (case ca => k_is)
      (case cn => k_is)
      (case ck => k_is)
      (case cm => k_is)
      (case sup => k_is)
      (case htop => first | rfl | kernel_rfl)
      (case opn => k_is)
      (case fs => decide +kernel)
      (case fcl => decide +kernel)
      (case fu => decide +kernel)
      (case fg => decide +kernel)
      (case bp => exact fun s x v => .of_eq rfl)
      (case bk => exact fun s x v => .of_eq rfl))
    (case aC_NotEnough => k_is)
    (case e_NotEnough => 
      refine' M.err_mk KX Gx ?aC ?xL ?rv ?al ?sa ?ga ?gg ?nn ?ic ?tc ?kc ?ex ?ve ?mi ?ty ?hd ?fl ?fc ?fd ?f2 ?ff ?ev ?fk ?ca ?cn ?ck ?cm ?sup ?htop ?opn ?fs ?fcl ?fu ?fg ?bp ?bk
      (case aC => k_is)
      (case xL => k_is)
      (case rv => first | rfl | kernel_rfl)
      (case al => kernel_rfl)
      (case sa => k_is)
      (case ga => k_is)
      (case gg => k_is)
      (case nn => k_is)
      (case ic => k_is)
      (case tc => k_is)
      (case kc => k_is)
      (case ex => k_is)
      (case ve => k_is)
      (case mi => k_is)
      (case ty => k_is)
      (case hd => k_is)
      (case fl => k_is)
      (case fc => k_is)
      (case fd => k_is)
      (case f2 => rfl)
      (case ff => first | rfl | kernel_rfl)
      (case ev => exact fun env => ⟨_, rfl⟩)
      (case fk => k_is)
      (case ca => k_is)
      (case cn => k_is)
      (case ck => k_is)
      (case cm => k_is)
      (case sup => k_is)
      (case htop => first | rfl | kernel_rfl)
      (case opn => k_is)
      (case fs => decide +kernel)
      (case fcl => decide +kernel)
      (case fu => decide +kernel)
      (case fg => decide +kernel)
      (case bp => exact fun s x v => .of_eq rfl)
      (case bk => exact fun s x v => .of_eq rfl))
    (case aC_NotApart => k_is)
    (case e_NotApart => 
      refine' M.err_mk KX Gx ?aC ?xL ?rv ?al ?sa ?ga ?gg ?nn ?ic ?tc ?kc ?ex ?ve ?mi ?ty ?hd ?fl ?fc ?fd ?f2 ?ff ?ev ?fk ?ca ?cn ?ck ?cm ?sup ?htop ?opn ?fs ?fcl ?fu ?fg ?bp ?bk
      (case aC => k_is)
      (case xL => k_is)
      (case rv => first | rfl | kernel_rfl)
      (case al => kernel_rfl)
      (case sa => k_is)
      (case ga => k_is)
      (case gg => k_is)
      (case nn => k_is)
      (case ic => k_is)
      (case tc => k_is)
      (case kc => k_is)
      (case ex => k_is)
      (case ve => k_is)
      (case mi => k_is)
      (case ty => k_is)
      (case hd => k_is)
      (case fl => k_is)
      (case fc => k_is)
      (case fd => k_is)
      (case f2 => rfl)
      (case ff => first | rfl | kernel_rfl)
      (case ev => exact fun env => ⟨_, rfl⟩)
      (case fk => k_is)
      (case ca => k_is)
      (case cn => k_is)
      (case ck => k_is)
      (case cm => k_is)
      (case sup => k_is)
      (case htop => first | rfl | kernel_rfl)
      (case opn => k_is)
      (case fs => decide +kernel)
      (case fcl => decide +kernel)
      (case fu => decide +kernel)
      (case fg => decide +kernel)
      (case bp => exact fun s x v => .of_eq rfl)
      (case bk => exact fun s x v => .of_eq rfl))
    (case aC_NoReading => k_is)
    (case e_NoReading => 
      refine' M.err_mk KX Gx ?aC ?xL ?rv ?al ?sa ?ga ?gg ?nn ?ic ?tc ?kc ?ex ?ve ?mi ?ty ?hd ?fl ?fc ?fd ?f2 ?ff ?ev ?fk ?ca ?cn ?ck ?cm ?sup ?htop ?opn ?fs ?fcl ?fu ?fg ?bp ?bk
      (case aC => k_is)
      (case xL => k_is)
      (case rv => first | rfl | kernel_rfl)
      (case al => kernel_rfl)
      (case sa => k_is)
      (case ga => k_is)
      (case gg => k_is)
      (case nn => k_is)
      (case ic => k_is)
      (case tc => k_is)
      (case kc => k_is)
      (case ex => k_is)
      (case ve => k_is)
      (case mi => k_is)
      (case ty => k_is)
      (case hd => k_is)
      (case fl => k_is)
      (case fc => k_is)
      (case fd => k_is)
      (case f2 => rfl)
      (case ff => first | rfl | kernel_rfl)
      (case ev => exact fun env => ⟨_, rfl⟩)
      (case fk => k_is)
      (case ca => k_is)
      (case cn => k_is)
      (case ck => k_is)
      (case cm => k_is)
      (case sup => k_is)
      (case htop => first | rfl | kernel_rfl)
      (case opn => k_is)
      (case fs => decide +kernel)
      (case fcl => decide +kernel)
      (case fu => decide +kernel)
      (case fg => decide +kernel)
      (case bp => exact fun s x v => .of_eq rfl)
      (case bk => exact fun s x v => .of_eq rfl))
    (case aC_NetError => k_is)
    (case e_NetError => 
      refine' M.err_mkB KX Gx ?aC ?xq ?ga ?gg ?kc ?ex ?ty ?hd ?ca ?cn ?ck ?cm
      (case aC => k_is)
      (case xq => first | k_is | kernel_rfl)
      (case ga => k_is)
      (case gg => k_is)
      (case kc => k_is)
      (case ex => k_is)
      (case ty => k_is)
      (case hd => k_is)
      (case ca => k_is)
      (case cn => k_is)
      (case ck => k_is)
      (case cm => k_is))
    (case kr_NothingToUndo => kernel_rfl)
    (case kv_NothingToUndo => kernel_rfl)
    (case kn_NothingToUndo => kernel_rfl)
    (case kr_InvalidKind => kernel_rfl)
    (case kv_InvalidKind => kernel_rfl)
    (case kn_InvalidKind => kernel_rfl)
    (case kr_InvalidName => kernel_rfl)
    (case kv_InvalidName => kernel_rfl)
    (case kn_InvalidName => kernel_rfl)
    (case kr_SameMark => kernel_rfl)
    (case kv_SameMark => kernel_rfl)
    (case kn_SameMark => kernel_rfl)
    (case kr_InvalidText => kernel_rfl)
    (case kv_InvalidText => kernel_rfl)
    (case kn_InvalidText => kernel_rfl)
    (case kr_InvalidMeasure => kernel_rfl)
    (case kv_InvalidMeasure => kernel_rfl)
    (case kn_InvalidMeasure => kernel_rfl)
    (case kr_InvalidMarks => kernel_rfl)
    (case kv_InvalidMarks => kernel_rfl)
    (case kn_InvalidMarks => kernel_rfl)
    (case kr_InvalidMeasures => kernel_rfl)
    (case kv_InvalidMeasures => kernel_rfl)
    (case kn_InvalidMeasures => kernel_rfl)
    (case kr_InvalidNumbers => kernel_rfl)
    (case kv_InvalidNumbers => kernel_rfl)
    (case kn_InvalidNumbers => kernel_rfl)
    (case kr_InvalidPoints => kernel_rfl)
    (case kv_InvalidPoints => kernel_rfl)
    (case kn_InvalidPoints => kernel_rfl)
    (case kr_InvalidShift => kernel_rfl)
    (case kv_InvalidShift => kernel_rfl)
    (case kn_InvalidShift => kernel_rfl)
    (case kr_InvalidFactor => kernel_rfl)
    (case kv_InvalidFactor => kernel_rfl)
    (case kn_InvalidFactor => kernel_rfl)
    (case kr_InvalidDrift => kernel_rfl)
    (case kv_InvalidDrift => kernel_rfl)
    (case kn_InvalidDrift => kernel_rfl)
    (case kr_InvalidReadings => kernel_rfl)
    (case kv_InvalidReadings => kernel_rfl)
    (case kn_InvalidReadings => kernel_rfl)
    (case kr_InvalidChanges => kernel_rfl)
    (case kv_InvalidChanges => kernel_rfl)
    (case kn_InvalidChanges => kernel_rfl)
    (case kr_InvalidPrices => kernel_rfl)
    (case kv_InvalidPrices => kernel_rfl)
    (case kn_InvalidPrices => kernel_rfl)
    (case kr_InvalidKnown => kernel_rfl)
    (case kv_InvalidKnown => kernel_rfl)
    (case kn_InvalidKnown => kernel_rfl)
    (case kr_InvalidWays => kernel_rfl)
    (case kv_InvalidWays => kernel_rfl)
    (case kn_InvalidWays => kernel_rfl)
    (case kr_InvalidLine => kernel_rfl)
    (case kv_InvalidLine => kernel_rfl)
    (case kn_InvalidLine => kernel_rfl)
    (case kr_OutOfRange => kernel_rfl)
    (case kv_OutOfRange => kernel_rfl)
    (case kn_OutOfRange => kernel_rfl)
    (case kr_DuplicateMark => kernel_rfl)
    (case kv_DuplicateMark => kernel_rfl)
    (case kn_DuplicateMark => kernel_rfl)
    (case kr_UnknownMark => kernel_rfl)
    (case kv_UnknownMark => kernel_rfl)
    (case kn_UnknownMark => kernel_rfl)
    (case kr_UnknownNumber => kernel_rfl)
    (case kv_UnknownNumber => kernel_rfl)
    (case kn_UnknownNumber => kernel_rfl)
    (case kr_TooMany => kernel_rfl)
    (case kv_TooMany => kernel_rfl)
    (case kn_TooMany => kernel_rfl)
    (case kr_NotNet => kernel_rfl)
    (case kv_NotNet => kernel_rfl)
    (case kn_NotNet => kernel_rfl)
    (case kr_NotPlacing => kernel_rfl)
    (case kv_NotPlacing => kernel_rfl)
    (case kn_NotPlacing => kernel_rfl)
    (case kr_NotWatched => kernel_rfl)
    (case kv_NotWatched => kernel_rfl)
    (case kn_NotWatched => kernel_rfl)
    (case kr_NotEnough => kernel_rfl)
    (case kv_NotEnough => kernel_rfl)
    (case kn_NotEnough => kernel_rfl)
    (case kr_NotApart => kernel_rfl)
    (case kv_NotApart => kernel_rfl)
    (case kn_NotApart => kernel_rfl)
    (case kr_NoReading => kernel_rfl)
    (case kv_NoReading => kernel_rfl)
    (case kn_NoReading => kernel_rfl)
    (case kr_NetError => kernel_rfl)
    (case kv_NetError => kernel_rfl)
    (case kn_NetError => kernel_rfl)
