import PyProof.Rows.All
import Wide.All
import OpenK.AllK
import Wide.FinOn
import HandS.ForMost
import HandS.IsInst
import HandS.Style
import HandS.StrMore
import HandS.RaiseMore
import HandS.Conv
import HandS.Flow
import HandS.Codes
import KE.KExcSuper
import HandS.ForExc
import HandS.TryMany
import HandS.Lambda
import HandS.CallLocal
import HandS.More
import HandS.EndTab
import HandS.OwnEq
import HandS.FStr
import HandS.ClsMeth
import HandS.DeepEq
import HandS.WordsExc
import HandS.CallSlots
import KE.KCallOwn
import HandS.ReplaceLit
import HandS.ReplaceList
import PySem.Challenge.RW_chaincompass_k03_measures_as_text
import KE.KNestM
set_option Elab.async false
set_option linter.all false
set_option maxRecDepth 100000
set_option maxHeartbeats 4000000
/-! G: rules that serve values of several kinds at once, and the readings' steps, by lemmas of one head each -/
namespace G
open PySem PySem.Spec PyProof.Rows L2

/-! ### rules for several kinds -/
section
variable {X : Cx}
def rStrMul : R2 := fun x y H Q => ∃ z n, x = .str z ∧ y = .int n ∧ 0 ≤ n ∧ n ≤ 100000 ∧ z.length * n.toNat ≤ 1000000 ∧ Q (.str (Txt.mul z n)) H
def rAddU : R2 := fun x y H Q => rI0 (fun i j => .int (i + j)) x y H Q ∨ (∃ i j, x = .str i ∧ y = .str j ∧ i.length + j.length ≤ sizeLine ∧ Q (.str (i ++ j)) H) ∨ rCat x y H Q
theorem op_addU : OpR X (binaryOp .Add) rAddU := op_add.or (op_add_str.or op_cat)
def rFdivU : R2 := rI CDivN fun i j => .int (i.fdiv j)
theorem op_fdivU : OpR X (binaryOp .FloorDiv) rFdivU := op_fdivN
def rModU : R2 := rI (fun _ j => j ≠ 0) fun i j => .int (i.fmod j)
theorem op_modU : OpR X (binaryOp .Mod) rModU := op_modN
def rPowU : R2 := rI CPow fun i j => .int (i ^ j.toNat)
theorem op_powU : OpR X (binaryOp .Pow) rPowU := op_pow
def rEqU (K : PySem.W.Frag) : R2 := fun x y H Q => rEq x y H Q ∨ rEqD K x y H Q
theorem op_eqU {K : PySem.W.Frag} (hK : X.K = K) (hu : X.A.units + 64 < cLine) : OpR X (compareOp .Eq) (rEqU K) := hK ▸ op_eq.or (op_eqD hu)
def rNeU (K : PySem.W.Frag) : R2 := fun x y H Q => rNe x y H Q ∨ rNeD K x y H Q
theorem op_neU {K : PySem.W.Frag} (hK : X.K = K) (hu : X.A.units + 64 < cLine) : OpR X (compareOp .NotEq) (rNeU K) := hK ▸ op_ne.or (op_neD hu)
def rLtU : R2 := fun x y H Q => rI0 (fun i j => .bl (decide (i < j))) x y H Q ∨ ∃ i j, x = .str i ∧ y = .str j ∧ Q (.bl (decide (i.cps.toList < j.cps.toList))) H
theorem op_ltU : OpR X (compareOp .Lt) rLtU := op_lt.or op_lt_str
def rLeU : R2 := fun x y H Q => rI0 (fun i j => .bl (decide (i ≤ j))) x y H Q ∨ ∃ i j, x = .str i ∧ y = .str j ∧ Q (.bl (!decide (j.cps.toList < i.cps.toList))) H
theorem op_leU : OpR X (compareOp .LtE) rLeU := op_le.or op_le_str
def rGtU : R2 := fun x y H Q => rI0 (fun i j => .bl (decide (j < i))) x y H Q ∨ ∃ i j, x = .str i ∧ y = .str j ∧ Q (.bl (decide (j.cps.toList < i.cps.toList))) H
theorem op_gtU : OpR X (compareOp .Gt) rGtU := op_gt.or op_gt_str
def rGeU : R2 := fun x y H Q => rI0 (fun i j => .bl (decide (j ≤ i))) x y H Q ∨ ∃ i j, x = .str i ∧ y = .str j ∧ Q (.bl (!decide (i.cps.toList < j.cps.toList))) H
theorem op_geU : OpR X (compareOp .GtE) rGeU := op_ge.or op_ge_str
def rInU (K : PySem.W.Frag) : R2 := fun x y H Q => rIn K false x y H Q ∨ ∃ (c : Nat) (z : Str), x = .str ⟨#[c]⟩ ∧ y = .str z ∧ Q (.bl (decide (c ∈ z.cps.toList))) H
theorem op_inU {K : PySem.W.Frag} (hK : X.K = K) : OpR X (compareOp .In) (rInU K) := hK ▸ op_in_seq.or op_in_sign
def rNotInU (K : PySem.W.Frag) : R2 := fun x y H Q => rIn K true x y H Q ∨ ∃ (c : Nat) (z : Str), x = .str ⟨#[c]⟩ ∧ y = .str z ∧ Q (.bl (!decide (c ∈ z.cps.toList))) H
theorem op_notInU {K : PySem.W.Frag} (hK : X.K = K) : OpR X (compareOp .NotIn) (rNotInU K) := hK ▸ op_notIn_seq.or op_notIn_sign
def rIsU : R2 := fun x y H Q => (y = .non ∧ Q (.bl (decide (x = .non))) H) ∨ rIsB x y H Q
theorem op_isU : OpR X (compareOp .Is) rIsU := op_isN.or op_isBl
def rIsNotU : R2 := fun x y H Q => (y = .non ∧ Q (.bl (!decide (x = .non))) H) ∨ rNotB x y H Q
theorem op_isNotU : OpR X (compareOp .IsNot) rIsNotU := op_notN.or op_notBl
def rSlU (K : PySem.W.Frag) : V → Option Int → Option Int → Hp → VK → Prop := fun x lo hi H Q => rSlL K x lo hi H Q ∨ rSlS x lo hi H Q ∨ rSlT K x lo hi H Q
theorem sl_U {K : PySem.W.Frag} (hK : X.K = K) : SlR X (rSlU K) := hK ▸ sl_list.or (sl_str.or sl_tup)
theorem ix_U {K : PySem.W.Frag} (hK : X.K = K) : IxR X (rIx K) := hK ▸ ix_seq
theorem call_isiU {K : PySem.W.Frag} (hK : X.K = K) : CallR X (.builtin "isinstance") (rIsi K) := hK ▸ call_isi
def rLenU (K : PySem.W.Frag) : List V → Hp → VK → Prop := fun xs H Q => (∃ x n, xs = [x] ∧ LenV K x H n ∧ Q (.int n) H) ∨ ∃ a kvs, xs = [V.ref a] ∧ H a = some (.dK kvs) ∧ Q (.int kvs.length) H
theorem call_lenU {K : PySem.W.Frag} (hK : X.K = K) : CallR X (.builtin "len") (rLenU K) := hK ▸ call_len.or call_lenD
def rMaxU (K : PySem.W.Frag) : List V → Hp → VK → Prop := fun xs H Q => (∃ i j, xs = [.int i, .int j] ∧ Q (.int (if j > i then j else i)) H) ∨ rMax K xs H Q
theorem call_maxU {K : PySem.W.Frag} (hK : X.K = K) (hc : X.calm = true) : CallR X (.builtin "max") (rMaxU K) := hK ▸ (call_max2 hc).or (cr_max hc)
def rMinU (K : PySem.W.Frag) : List V → Hp → VK → Prop := fun xs H Q => (∃ i j, xs = [.int i, .int j] ∧ Q (.int (if j < i then j else i)) H) ∨ rMin K xs H Q
theorem call_minU {K : PySem.W.Frag} (hK : X.K = K) (hc : X.calm = true) : CallR X (.builtin "min") (rMinU K) := hK ▸ (call_min2 hc).or (cr_min hc)
def rInt1 : List V → Hp → VK → Prop := fun xs H Q => (∃ i, xs = [.int i] ∧ Q (.int i) H) ∨ ∃ k, xs = [.bl k] ∧ Q (.int (if k then 1 else 0)) H
theorem call_intU : CallR X (.type "int") rInt1 := call_int1
def rM0 (g : Str → V) : V → List V → Hp → VK → Prop := fun x xs H Q => ∃ a, x = .str a ∧ xs = [] ∧ True ∧ Q (g a) H
theorem mt_isasciiU : MtR X "str.isascii" (rM0 fun a => .bl (Txt.isascii a)) := mt_isascii
theorem mt_isalphaU : MtR X "str.isalpha" (rM0 fun a => .bl (Txt.isalpha a)) := mt_isalpha
theorem mt_islowerU : MtR X "str.islower" (rM0 fun a => .bl (Txt.islower a)) := mt_islower
def rReprB : List V → Hp → VK → Prop := fun xs H Q => ∃ b : Bool, xs = [.bl b] ∧ Q (.str (if b then "True" else "False")) H
theorem call_reprB : CallR X (.builtin "repr") rReprB := by
  intro pins s σ H xs us Q I r h
  obtain ⟨b, rfl, q⟩ := h
  obtain ⟨u, rfl, ru⟩ := vals1 r
  cases (show u = Value.bool b from ru)
  exact PySem.P.repr_of_bool ⟨.str _, H, I.tok _, ⟨_, rfl⟩, q⟩
def rReprU : List V → Hp → VK → Prop := fun xs H Q => rReprB xs H Q ∨ ∃ i, xs = [.int i] ∧ i.natAbs.log2 < 1920 ∧ Q (.str (toString i)) H
theorem call_reprU : CallR X (.builtin "repr") rReprU := call_reprB.or SkE.call_repr_int
theorem op_mul_str : OpR X (binaryOp .Mult) rStrMul := by
  intro pins s σ H x y v u Q I rx ry h
  obtain ⟨z, n, rfl, rfl, h0, h1, h2, q⟩ := h
  obtain ⟨t, rfl⟩ := rx
  obtain ⟨t', rfl⟩ := ry
  refine PySem.SB.mul ⟨?_, fun h3 h4 => ?_, fun h3 h4 => ?_⟩ fun t'' k => ⟨.str _, H, I.tok _, ⟨_, rfl⟩, q⟩
  · rw [Bool.or_eq_false_iff]
    exact ⟨decide_eq_false (by omega), decide_eq_false (by omega)⟩
  · have hn : 1 ≤ n.toNat := by omega
    have h5 : z.length * 1 ≤ z.length * n.toNat := Nat.mul_le_mul_left _ hn
    have h6 : (100000000 : Int) ≤ (2 ^ 63 - 1) / n := by
      rw [Int.le_ediv_iff_mul_le (by omega)]
      omega
    omega
  · unfold Builtin.Str.tooLong
    exact decide_eq_false (by rw [sizeLine_eq]; omega)
def rMulU : R2 := fun x y H Q => rI CMul (fun i j => .int (i * j)) x y H Q ∨ rRep x y H Q ∨ rStrMul x y H Q
theorem op_mulU : OpR X (binaryOp .Mult) rMulU := op_mul.or (op_rep.or op_mul_str)
/-- what is walked: a list, a tuple, a text -/
def iU (K : PySem.W.Frag) (t : TE) : TI := fun σ H R => iList K t σ H R ∨ iTup K t σ H R ∨ iStr t σ H R
theorem pi_U {K : PySem.W.Frag} (hK : X.K = K) {tg e : Expr} {t : TE} (h : PE X e t) : PI X tg e (iU K t) := ⟨fun pins s σ H R I q => by
  subst hK
  rcases q with q | q | q
  · exact (pi_list h).run pins s σ H R I q
  · exact (pi_tup h).run pins s σ H R I q
  · exact (pi_str h).run pins s σ H R I q⟩
end

section
variable {X : Cx} {K : PySem.W.Frag}
theorem pe_bm0U (hK : X.K = K) {T id : String} {name : Str} {r : V → List V → Hp → VK → Prop} {o : Expr} {to : TE} {apos cpos : Pos} (pa : PlainAttrs T) (slot : Slot T name id) (hty : typeOf (.builtin id) = pure (.type "method_descriptor")) (hm : MtR X id r) (ho : PE X o to)
    (hbase : attributeBase o name X.env (eval o X.env) = eval o X.env := by rfl) (hline : (apos.endLine == cpos.line) = true := by rfl) : PE X (.Call (.Attribute o name apos) [] [] cpos) (tBM0 K T r to) := hK ▸ pe_bm0 pa slot hty hm ho hbase hline
theorem pe_bmU (hK : X.K = K) {T id : String} {name : Str} {r : V → List V → Hp → VK → Prop} {o e : Expr} {es : List Expr} {to : TE} {t : TA} {apos cpos : Pos} (pa : PlainAttrs T) (slot : Slot T name id) (hty : typeOf (.builtin id) = pure (.type "method_descriptor")) (hm : MtR X id r) (ho : PE X o to) (ha : PA X (e :: es) t)
    (hbase : attributeBase o name X.env (eval o X.env) = eval o X.env := by rfl)
    (hfew : ((backTo cpos (starEach (e :: es) X.env)).all (fun x => !x.1) && (backToKw cpos (keywordEach [] X.env)).all (fun x => x.1.isSome)
      && decide ((e :: es).length + ([] : List Keyword).length + (if ([] : List Keyword).isEmpty then 0 else 1) < 30)) = true := by rfl)
    (hline : (apos.endLine == cpos.line) = true := by rfl) (hs : starEach (e :: es) X.env = (false, eval e X.env) :: starEach es X.env := by rfl) (hplain : (backTo cpos (starEach es X.env)).any (·.1) = false := by rfl) :
    PE X (.Call (.Attribute o name apos) (e :: es) [] cpos) (tBM K T r to t) := hK ▸ pe_bm pa slot hty hm ho ha hbase hfew hline hs hplain
def rJoin (K : PySem.W.Frag) : V → List V → Hp → VK → Prop := fun x xs H Q => ∃ a p, ∃ ys : List Str, x = .str a ∧ xs = [.ref p] ∧ (SqL K H p (ys.map V.str) ∨ SqT K H p (ys.map V.str)) ∧
      (ys.map (·.length)).sum + ys.length * a.length ≤ 16777216 ∧ Q (.str (Txt.join a ys)) H
theorem pe_joinU (hK : X.K = K) {o e : Expr} {to te : TE} {apos pos : Pos} (ho : PE X o to) (he : PE X e te) (hs : starEach [e] X.env = [(false, eval e X.env)] := by rfl) (hbase : attributeBase o "join" X.env (eval o X.env) = eval o X.env := by rfl) (hline : (apos.endLine == pos.line) = true := by rfl) :
    PE X (.Call (.Attribute o "join" apos) [e] [] pos) (tM1 (rJoin K) to te) := hK ▸ pe_join ho he hs hbase hline
def rSplit : V → List V → Hp → VK → Prop := fun x xs H Q => ∃ a b, x = .str a ∧ xs = [.str b] ∧ (b.length == 0) = false ∧ a.length + 2 ≤ sizeLine ∧ rNewStrs (Txt.split a b) H Q
theorem pe_splitU {o e : Expr} {to te : TE} {apos pos : Pos} (ho : PE X o to) (he : PE X e te) (hs : starEach [e] X.env = [(false, eval e X.env)] := by rfl) (hbase : attributeBase o "split" X.env (eval o X.env) = eval o X.env := by rfl) (hline : (apos.endLine == pos.line) = true := by rfl) :
    PE X (.Call (.Attribute o "split" apos) [e] [] pos) (tM1 rSplit to te) := pe_split ho he hs hbase hline
theorem pg_tupU (hK : X.K = K) {es : List Expr} {k : Nat} {t : TGs} {n : Nat} {pos : Pos} (hc : X.calm = true) (h : PGs X es t)
    (hn : (assignEach es X.env).length = n := by rfl) (hst : (assignEach es X.env).findIdx? (·.1) = none := by rfl) : PG X (.Tuple es k pos) (gTup K n t) := hK ▸ pg_tup hc h hn hst
theorem pi_enumU (hK : X.K = K) {elts : List Expr} {kk : Nat} {tpos p pos : Pos} {e : Expr} {ta : TA} (hg : Gl X "enumerate") (hm : X.mg "enumerate" = none) (ha : PA X [e] ta) (hs : starEach [e] X.env = [(false, eval e X.env)] := by rfl) : PI X (.Tuple elts kk tpos) (.Call (.Name "enumerate" p) [e] [] pos) (iEnum K ta) := hK ▸ pi_enum hg hm ha hs
theorem pe_fldU (hK : X.K = K) {e : Expr} {f : Str} {pos : Pos} {ta : TE} (he : PE X e ta) (hb : attributeBase e f X.env (eval e X.env) = eval e X.env) : PE X (.Attribute e f pos) (tFld K ta f) := hK ▸ pe_fld he hb
theorem ps_fldU (hK : X.K = K) {o value : Expr} {f : Str} {pos pos' : Pos} {ta tv : TE} (ha : PE X o ta) (hv : PE X value tv) (hs : swapsWith value (some (.Attribute o f pos')) pos.line X.env = pure false) : PS X (.Assign [.Attribute o f pos'] value pos) (sFld K ta tv f) := hK ▸ ps_fld ha hv hs
end
/-! ### the steps of readings -/
def isBl (x : V) (H : Hp) (R : Bool → Hp → Prop) : Prop := ∃ k, x = .bl k ∧ R k H
def isTwo (vs : List V) (H : Hp) (R : V → V → Hp → Prop) : Prop := ∃ v w, vs = [v, w] ∧ R v w H
def newL (xs : List V) (H : Hp) (Q : VK) : Prop := xs.length ≤ sizeLine ∧ ∀ p, H p = none → Q (.ref p) (upd H p (.lst xs))
def newT (xs : List V) (H : Hp) (Q : VK) : Prop := xs.length ≤ sizeLine ∧ ∀ p, H p = none → Q (.ref p) (upd H p (.tup xs))
def strT (x : V) (H : Hp) (P : Hp → Prop) : Prop := (∃ a, x = .str a) ∧ P H
def mkR (C : Addr) (sp : Sp) (dvs : List V) (E : XK) (vs : List V) (H : Hp) (Q : VK) : Prop := ∀ x dx, H x = none → H dx = none → dx ≠ x → sp (.ref x :: (vs ++ dvs)) (upd (upd H dx (.own x)) x (.ins C dx [])) (fun v H2 => v = .non ∧ Q (.ref x) H2) E
def putR (K : PySem.W.Frag) (f : Str) (x y : V) (H : Hp) (N : Hp → Prop) : Prop := ∃ a C dx fs, x = .ref a ∧ H a = some (.ins C dx fs) ∧ Cls K C ∧ NoAttr K C f ∧ fs.length < 1000 ∧ N (upd H a (.ins C dx (putF f y fs)))
def getR (K : PySem.W.Frag) (f : Str) (x : V) (H : Hp) (Q : VK) : Prop := ∃ a C dx fs v, x = .ref a ∧ H a = some (.ins C dx fs) ∧ Cls K C ∧ NoAttr K C f ∧ fs.lookup f = some v ∧ Q v H
def isI (x : V) (H : Hp) (R : Int → Hp → Prop) : Prop := ∃ i, x = .int i ∧ R i H
def dispR (p : Addr) (ps : List (V × V)) (H : Hp) (Q : VK) : Prop := H p = some (.dK []) ∧ ∃ kvs : List (Key × V), ps = kvs.map (fun kv => (kV kv.1, kv.2)) ∧ kvs.length ≤ 15 ∧ Q (.ref p) (upd H p (.dK (mergeK [] kvs)))
abbrev tCut (t u : TS) : TS := C8.tCut t u
theorem pss_cut {X : Cx} {a : Stmt} {as : List Stmt} {t u : TS} (h : PS X a t) (k : PSs X as u) : PSs X (a :: as) (tCut t u) := C8.pss_cut h k
def mtT (K : PySem.W.Frag) (T : String) (x : V) (H : Hp) (P : Hp → Prop) : Prop := tyV K T x H ∧ P H
section
variable {K : PySem.W.Frag} {σ : L2.St} {H : Hp} {Q : VK} {R : Bool → Hp → Prop} {i : Nat} {v x y : V} {ta tb tc te : TE} {t u : TT} {r r' : R2} {D : Ends} {st su : TS} {g : TG} {tA : TA} {QA : List V → Hp → Prop} {QS : L2.St → Hp → Prop}
theorem w_var (h : σ[i]? = some (some v)) (q : Q v H) : tVar i σ H Q := ⟨v, h, q⟩
theorem w_c (q : Q v H) : tC v σ H Q := q
theorem w_op (q : ta σ H fun x H1 => tb σ H1 fun y H2 => r x y H2 Q) : tOp r ta tb σ H Q := q
theorem w_un {r : V → Hp → VK → Prop} (q : ta σ H fun x H1 => r x H1 Q) : tUn r ta σ H Q := q
theorem w_test (q : ta σ H fun x H' => isBl x H' R) : tTest ta σ H R := q
theorem w_B (q : ta σ H fun x H' => isBl x H' R) : tB ta σ H R := q
theorem w_bl {b : Bool} (q : R b H) : isBl (.bl b) H R := ⟨b, rfl, q⟩
theorem w_and (q : t σ H fun c H1 => if c = true then u σ H1 R else R false H1) : tAnd t u σ H R := q
theorem w_or (q : t σ H fun c H1 => if c = true then R true H1 else u σ H1 R) : tOr t u σ H R := q
theorem w_not (q : t σ H fun c H1 => R (!c) H1) : tNot t σ H R := q
theorem w_andV (q : ta σ H fun x H1 => isBl x H1 fun c H1 => if c = true then tb σ H1 Q else Q (.bl false) H1) : tAndV ta tb σ H Q := q
theorem w_orV (q : ta σ H fun x H1 => isBl x H1 fun c H1 => if c = true then Q (.bl true) H1 else tb σ H1 Q) : tOrV ta tb σ H Q := q
theorem w_notV (q : ta σ H fun x H1 => isBl x H1 fun c H1 => Q (.bl (!c)) H1) : tNotV ta σ H Q := q
theorem w_if (q : t σ H fun c H1 => if c = true then ta σ H1 Q else tb σ H1 Q) : tIf t ta tb σ H Q := q
theorem w_chain (q : ta σ H fun x H1 => tb σ H1 fun y H2 => r x y H2 fun z H3 => isBl z H3 fun k H3 => if k = true then tc σ H3 fun w' H4 => r' y w' H4 Q else Q (.bl false) H3) : tChain r r' ta tb tc σ H Q := q
theorem w_nil (q : QA [] H) : tNil σ H QA := q
theorem w_cons (q : te σ H fun x H1 => tA σ H1 fun xs H2 => QA (x :: xs) H2) : tCons te tA σ H QA := q
theorem w_CB {rc : List V → Hp → VK → Prop} (q : tA σ H fun vs H1 => rc vs H1 Q) : tCB rc tA σ H Q := q
theorem w_call {sp : Sp} {dvs : List V} {E : XK} (q : tA σ H fun vs H1 => sp (vs ++ dvs) H1 Q E) : tCall sp dvs E tA σ H Q := q
theorem w_lst (q : tA σ H fun xs H1 => newL xs H1 Q) : tLst tA σ H Q := q
theorem w_tup (q : tA σ H fun xs H1 => newT xs H1 Q) : tTup tA σ H Q := q
theorem w_seq (q : st { D with nx := su D } σ H) : tSeq st su D σ H := q
theorem w_asg (q : te σ H fun x H1 => g x σ H1 D.nx) : tAsg te g D σ H := q
theorem w_gname (q : QS (σ.set i (some v)) H) : gName i v σ H QS := q
theorem w_gsub {ts : TSet} (q : ta σ H fun o H1 => tb σ H1 fun i H2 => ts o i v H2 fun H3 => QS σ H3) : gSub ta tb ts v σ H QS := q
theorem w_ifS (q : t σ H fun b H1 => if b = true then st D σ H1 else su D σ H1) : tIfS t st su D σ H := q
theorem w_ret (q : te σ H D.rt) : tRet te D σ H := q
theorem w_retN (q : D.rt .non H) : tRetN D σ H := q
theorem w_drop (q : te σ H fun _ H1 => D.nx σ H1) : tDrop te D σ H := q
theorem w_next (q : D.nx σ H) : tNext D σ H := q
theorem w_par {j : Nat} (q : tA σ H fun vs H1 => isTwo vs H1 fun v w H1 => D.nx ((σ.set i (some v)).set j (some w)) H1) : tPar i j tA D σ H := q
theorem w_two {P : V → V → Hp → Prop} (q : P x y H) : isTwo [x, y] H P := ⟨x, y, rfl, q⟩
theorem w_sl {rs : V → Option Int → Option Int → Hp → VK → Prop} {tl th : TO} (q : te σ H fun x H1 => tl σ H1 fun l H2 => th σ H2 fun u H3 => rs x l u H3 Q) : tSl rs te tl th σ H Q := q
theorem w_bm0 {T : String} {rm : V → List V → Hp → VK → Prop} (q : ta σ H fun x H1 => mtT K T x H1 fun H1 => rm x [] H1 Q) : tBM0 K T rm ta σ H Q := q
theorem w_bm {T : String} {rm : V → List V → Hp → VK → Prop} (q : ta σ H fun x H1 => mtT K T x H1 fun H1 => tA σ H1 fun xs H2 => rm x xs H2 Q) : tBM K T rm ta tA σ H Q := q
theorem w_m1 {rm : V → List V → Hp → VK → Prop} (q : ta σ H fun x H1 => strT x H1 fun H1 => te σ H1 fun y H2 => rm x [y] H2 Q) : tM1 rm ta te σ H Q := q
theorem m_strT {z : Str} {P : Hp → Prop} (q : P H) : strT (.str z) H P := ⟨⟨z, rfl⟩, q⟩
theorem m_joinL {z : Str} {p : Addr} {ys : List Str} (h : SqL K H p (ys.map V.str)) (hz : (ys.map (·.length)).sum + ys.length * z.length ≤ 16777216) (q : Q (.str (Txt.join z ys)) H) : rJoin K (.str z) [.ref p] H Q := ⟨z, p, ys, rfl, rfl, .inl h, hz, q⟩
theorem m_joinT {z : Str} {p : Addr} {ys : List Str} (h : SqT K H p (ys.map V.str)) (hz : (ys.map (·.length)).sum + ys.length * z.length ≤ 16777216) (q : Q (.str (Txt.join z ys)) H) : rJoin K (.str z) [.ref p] H Q := ⟨z, p, ys, rfl, rfl, .inr h, hz, q⟩
theorem m_str {z : Str} {P : Hp → Prop} (q : P H) : mtT K "str" (.str z) H P := ⟨rfl, q⟩
theorem m_lst {p : Addr} {xs : List V} {P : Hp → Prop} (h : SqL K H p xs) (q : P H) : mtT K "list" (.ref p) H P := ⟨.inl ⟨rfl, xs, h⟩, q⟩
theorem m_s0 {z : Str} {gs : Str → V} (q : Q (gs z) H) : rM0 gs (.str z) [] H Q := ⟨z, rfl, rfl, trivial, q⟩
theorem w_make {C : Addr} {sp : Sp} {dvs : List V} {E : XK} (q : tA σ H fun vs H1 => mkR C sp dvs E vs H1 Q) : tMake C sp dvs E tA σ H Q := q
theorem w_sfld {f : Str} (q : te σ H fun y H1 => ta σ H1 fun x H2 => putR K f x y H2 fun H3 => D.nx σ H3) : sFld K ta te f D σ H := q
theorem w_fld {f : Str} (q : ta σ H fun x H1 => getR K f x H1 Q) : tFld K ta f σ H Q := q
theorem put_of {f : Str} {a C dx : Addr} {fs : List (Str × V)} {N : Hp → Prop} (h : H a = some (.ins C dx fs)) (c : Cls K C) (n : NoAttr K C f) (hl : fs.length < 1000) (q : N (upd H a (.ins C dx (putF f y fs)))) : putR K f (.ref a) y H N := ⟨a, C, dx, fs, rfl, h, c, n, hl, q⟩
theorem get_of {f : Str} {a C dx : Addr} {fs : List (Str × V)} (h : H a = some (.ins C dx fs)) (c : Cls K C) (n : NoAttr K C f) (l : fs.lookup f = some v) (q : Q v H) : getR K f (.ref a) H Q := ⟨a, C, dx, fs, v, rfl, h, c, n, l, q⟩
theorem a_inT {p : Addr} {xs : List V} (h : SqT K H p xs) (hx : flatV x = true) (ha : xs.all flatV = true) (q : Q (.bl (inV x xs)) H) : rInU K x (.ref p) H Q := .inl ⟨p, xs, rfl, .inr h, hx, ha, q⟩
theorem a_inL {p : Addr} {xs : List V} (h : SqL K H p xs) (hx : flatV x = true) (ha : xs.all flatV = true) (q : Q (.bl (inV x xs)) H) : rInU K x (.ref p) H Q := .inl ⟨p, xs, rfl, .inl h, hx, ha, q⟩
theorem a_ninT {p : Addr} {xs : List V} (h : SqT K H p xs) (hx : flatV x = true) (ha : xs.all flatV = true) (q : Q (.bl (!inV x xs)) H) : rNotInU K x (.ref p) H Q := .inl ⟨p, xs, rfl, .inr h, hx, ha, q⟩
theorem a_ninL {p : Addr} {xs : List V} (h : SqL K H p xs) (hx : flatV x = true) (ha : xs.all flatV = true) (q : Q (.bl (!inV x xs)) H) : rNotInU K x (.ref p) H Q := .inl ⟨p, xs, rfl, .inl h, hx, ha, q⟩
theorem w_noPart {QO : Option Int → Hp → Prop} (q : QO none H) : tNoPart σ H QO := q
theorem w_part {QO : Option Int → Hp → Prop} (q : te σ H fun x H1 => isI x H1 fun i H1 => QO (some i) H1) : tPart te σ H QO := q
theorem w_isI {j : Int} {RI : Int → Hp → Prop} (q : RI j H) : isI (.int j) H RI := ⟨j, rfl, q⟩
theorem a_slS {z : Str} {lo hi : Option Int} (hz : z.length ≤ sizeLine) (q : Q (.str (cutS z lo hi)) H) : rSlU K (.str z) lo hi H Q := .inr (.inl ⟨z, rfl, hz, q⟩)
theorem a_slL {p : Addr} {xs : List V} {lo hi : Option Int} (h : SqL K H p xs) (q : ∀ l, H l = none → Q (.ref l) (upd H l (.lst (cutV xs lo hi)))) : rSlU K (.ref p) lo hi H Q := .inl ⟨p, xs, rfl, h, q⟩
theorem w_disp {trs : List (TE × TE)} (q : ∀ p, H p = none → tPairs trs σ (upd H p (.dK [])) fun ps H2 => dispR p ps H2 Q) : tDisp trs σ H Q := q
theorem w_pair0 {QP : List (V × V) → Hp → Prop} (q : QP [] H) : tPairs [] σ H QP := q
theorem w_pair1 {QP : List (V × V) → Hp → Prop} {trs : List (TE × TE)} (q : ta σ H fun x H1 => tb σ H1 fun y H2 => tPairs trs σ H2 fun ps H3 => QP ((x, y) :: ps) H3) : tPairs ((ta, tb) :: trs) σ H QP := q
theorem w_cut (M : L2.St → Hp → Prop) (h : st { D with nx := M } σ H) (k : ∀ σ' H', M σ' H' → su D σ' H') : tCut st su D σ H := ⟨M, h, k⟩
theorem w_yes (q : R true H) : tYes σ H R := q
-- ints
theorem a_addI {a b : Int} (q : Q (.int (a + b)) H) : rAddU (.int a) (.int b) H Q := .inl ⟨a, b, rfl, rfl, q⟩
theorem a_addS {a b : Str} (h : a.length + b.length ≤ sizeLine) (q : Q (.str (a ++ b)) H) : rAddU (.str a) (.str b) H Q := .inr (.inl ⟨a, b, rfl, rfl, h, q⟩)
theorem a_addL {p p' : Addr} {xs ys : List V} (h : H p = some (.lst xs)) (h' : H p' = some (.lst ys)) (hl : xs.length + ys.length ≤ sizeLine) (q : ∀ l, H l = none → Q (.ref l) (upd H l (.lst (xs ++ ys)))) : rAddU (.ref p) (.ref p') H Q := .inr (.inr ⟨p, p', xs, ys, rfl, rfl, h, h', hl, q⟩)
theorem a_I0 {f : Int → Int → V} {a b : Int} (q : Q (f a b) H) : rI0 f (.int a) (.int b) H Q := ⟨a, b, rfl, rfl, q⟩
theorem a_mulI {a b : Int} (h : CMul a b) (q : Q (.int (a * b)) H) : rMulU (.int a) (.int b) H Q := .inl ⟨a, b, rfl, rfl, h, q⟩
theorem a_mulL {p : Addr} {xs : List V} {k : Int} (h : H p = some (.lst xs)) (h1 : -(2 ^ 63) ≤ k) (h2 : k < 2 ^ 63) (hl : xs.length * k.toNat ≤ sizeLine) (q : ∀ l, H l = none → Q (.ref l) (upd H l (.lst (List.replicate k.toNat xs).flatten))) : rMulU (.ref p) (.int k) H Q :=
  .inr (.inl ⟨p, k, xs, rfl, rfl, h, h1, h2, hl, q⟩)
theorem a_mulS {z : Str} {n : Int} (h0 : 0 ≤ n) (h1 : n ≤ 100000) (h2 : z.length * n.toNat ≤ 1000000) (q : Q (.str (Txt.mul z n)) H) : rMulU (.str z) (.int n) H Q := .inr (.inr ⟨z, n, rfl, rfl, h0, h1, h2, q⟩)
theorem c_reprB {b : Bool} (q : Q (.str (if b then "True" else "False")) H) : rReprU [.bl b] H Q := .inl ⟨b, rfl, q⟩
theorem w_dnew (q : ∀ p, H p = none → Q (.ref p) (upd H p (.dK []))) : tDNewK σ H Q := q
theorem w_tup0 (q : ∀ p, H p = none → Q (.ref p) (upd H p (.tup []))) : newT [] H Q := ⟨Nat.zero_le _, q⟩
theorem a_fdiv {a b : Int} (h : CDivN a b) (q : Q (.int (a.fdiv b)) H) : rFdivU (.int a) (.int b) H Q := ⟨a, b, rfl, rfl, h, q⟩
theorem a_mod {a b : Int} (h : b ≠ 0) (q : Q (.int (a.fmod b)) H) : rModU (.int a) (.int b) H Q := ⟨a, b, rfl, rfl, h, q⟩
theorem a_pow {a b : Int} (h : CPow a b) (q : Q (.int (a ^ b.toNat)) H) : rPowU (.int a) (.int b) H Q := ⟨a, b, rfl, rfl, h, q⟩
theorem a_neg {a : Int} (q : Q (.int (-a)) H) : rU (fun i => .int (-i)) (.int a) H Q := ⟨a, rfl, q⟩
theorem a_ltI {a b : Int} (q : Q (.bl (decide (a < b))) H) : rLtU (.int a) (.int b) H Q := .inl ⟨a, b, rfl, rfl, q⟩
theorem a_leI {a b : Int} (q : Q (.bl (decide (a ≤ b))) H) : rLeU (.int a) (.int b) H Q := .inl ⟨a, b, rfl, rfl, q⟩
theorem a_gtI {a b : Int} (q : Q (.bl (decide (b < a))) H) : rGtU (.int a) (.int b) H Q := .inl ⟨a, b, rfl, rfl, q⟩
theorem a_geI {a b : Int} (q : Q (.bl (decide (b ≤ a))) H) : rGeU (.int a) (.int b) H Q := .inl ⟨a, b, rfl, rfl, q⟩
theorem a_ltS {a b : Str} (q : Q (.bl (decide (a.cps.toList < b.cps.toList))) H) : rLtU (.str a) (.str b) H Q := .inr ⟨a, b, rfl, rfl, q⟩
theorem a_eqI {a b : Int} (q : Q (.bl (decide (a = b))) H) : rEqU K (.int a) (.int b) H Q := .inl ⟨rfl, by rw [show decide (V.int a = V.int b) = decide (a = b) from decide_eq_decide.mpr ⟨V.int.inj, congrArg _⟩]; exact q⟩
theorem a_eqS {a b : Str} (q : Q (.bl (decide (a = b))) H) : rEqU K (.str a) (.str b) H Q := .inl ⟨rfl, by rw [show decide (V.str a = V.str b) = decide (a = b) from decide_eq_decide.mpr ⟨V.str.inj, congrArg _⟩]; exact q⟩
theorem a_neS {a b : Str} (q : Q (.bl (!decide (a = b))) H) : rNeU K (.str a) (.str b) H Q := .inl ⟨rfl, by rw [show decide (V.str a = V.str b) = decide (a = b) from decide_eq_decide.mpr ⟨V.str.inj, congrArg _⟩]; exact q⟩
theorem a_neI {a b : Int} (q : Q (.bl (!decide (a = b))) H) : rNeU K (.int a) (.int b) H Q := .inl ⟨rfl, by rw [show decide (V.int a = V.int b) = decide (a = b) from decide_eq_decide.mpr ⟨V.int.inj, congrArg _⟩]; exact q⟩
theorem a_isnotB {a b : Bool} (q : Q (.bl (!decide (a = b))) H) : rIsNotU (.bl a) (.bl b) H Q := .inr ⟨a, b, rfl, rfl, q⟩
theorem a_isB {a b : Bool} (q : Q (.bl (decide (a = b))) H) : rIsU (.bl a) (.bl b) H Q := .inr ⟨a, b, rfl, rfl, q⟩
theorem a_isN (q : Q (.bl (decide (x = .non))) H) : rIsU x .non H Q := .inl ⟨rfl, q⟩
theorem a_isnotN (q : Q (.bl (!decide (x = .non))) H) : rIsNotU x .non H Q := .inl ⟨rfl, q⟩
-- items
theorem a_ixL {p : Addr} {xs : List V} {k : Int} (h : H p = some (.lst xs)) (ha : atI xs k = some v) (q : Q v H) : rIx K (.ref p) (.int k) H Q := .inl ⟨p, xs, k, v, rfl, rfl, .of h, ha, q⟩
theorem a_ixLK {p : Addr} {xs : List V} {k : Int} (h : SqL K H p xs) (ha : atI xs k = some v) (q : Q v H) : rIx K (.ref p) (.int k) H Q := .inl ⟨p, xs, k, v, rfl, rfl, h, ha, q⟩
theorem a_ixT {p : Addr} {xs : List V} {k : Int} (h : SqT K H p xs) (ha : atI xs k = some v) (q : Q v H) : rIx K (.ref p) (.int k) H Q := .inr (.inl ⟨p, xs, k, v, rfl, rfl, h, ha, q⟩)
theorem a_ixS {z : Str} {k : Int} {c : Nat} (hz : z.length ≤ sizeLine) (ha : atI z.cps.toList k = some c) (q : Q (.str ⟨#[c]⟩) H) : rIx K (.str z) (.int k) H Q := .inr (.inr ⟨z, k, c, rfl, rfl, hz, ha, q⟩)
theorem a_set {p : Addr} {xs : List V} {k : Int} {j : Nat} {QH : Hp → Prop} (h : H p = some (.lst xs)) (ha : ixN xs.length k = some j) (q : QH (upd H p (.lst (xs.set j v)))) : rSetL (.ref p) (.int k) v H QH := ⟨p, xs, k, j, rfl, rfl, h, ha, q⟩
-- calls
theorem c_int {a : Int} (q : Q (.int a) H) : rInt1 [.int a] H Q := .inl ⟨a, rfl, q⟩
theorem c_intB {a : Bool} (q : Q (.int (if a then 1 else 0)) H) : rInt1 [.bl a] H Q := .inr ⟨a, rfl, q⟩
theorem c_lenS {z : Str} (hz : z.length ≤ sizeLine) (q : Q (.int z.length) H) : rLenU K [.str z] H Q := .inl ⟨.str z, z.length, rfl, ⟨hz, rfl⟩, q⟩
theorem c_lenL {p : Addr} {xs : List V} (h : SqL K H p xs) (q : Q (.int xs.length) H) : rLenU K [.ref p] H Q := .inl ⟨.ref p, xs.length, rfl, .inl ⟨xs, h, rfl⟩, q⟩
theorem c_lenT {p : Addr} {xs : List V} (h : SqT K H p xs) (q : Q (.int xs.length) H) : rLenU K [.ref p] H Q := .inl ⟨.ref p, xs.length, rfl, .inr ⟨xs, h, rfl⟩, q⟩
theorem c_max {a b : Int} (q : Q (.int (if b > a then b else a)) H) : rMaxU K [.int a, .int b] H Q := .inl ⟨a, b, rfl, q⟩
theorem c_min {a b : Int} (q : Q (.int (if b < a then b else a)) H) : rMinU K [.int a, .int b] H Q := .inl ⟨a, b, rfl, q⟩
theorem c_isi {n : String} {T : Value} {b : Bool} (ty : TyX K H x T) (k : PySem.W.kitOne K T (.type n) = some b) (q : Q (.bl b) H) : rIsi K [x, .ty n] H Q := ⟨x, .ty n, T, .type n, b, rfl, .ty n, ty, k, q⟩
end
theorem sz1000 {n : Nat} (h : n ≤ 1000) : n ≤ sizeLine := Nat.le_of_lt (small1000 h)
theorem newL_of {xs : List V} {H : Hp} {Q : VK} (h : Nat.ble xs.length 1000 = true) (q : ∀ p, H p = none → Q (.ref p) (upd H p (.lst xs))) : newL xs H Q := ⟨sz1000 (Nat.le_of_ble_eq_true h), q⟩
theorem newT_of {xs : List V} {H : Hp} {Q : VK} (h : Nat.ble xs.length 1000 = true) (q : ∀ p, H p = none → Q (.ref p) (upd H p (.tup xs))) : newT xs H Q := ⟨sz1000 (Nat.le_of_ble_eq_true h), q⟩
theorem iteNT {A B : Prop} (h : B) : if (!true) = true then A else B := iteF h
theorem iteNF {A B : Prop} (h : A) : if (!false) = true then A else B := iteT h
theorem iteD {p A B : Prop} [Decidable p] (h1 : p → A) (h2 : ¬ p → B) : if decide p = true then A else B := ite2 (fun h => h1 (of_decide_eq_true h)) fun h => h2 fun q => h (decide_eq_true q)
theorem iteND {p A B : Prop} [Decidable p] (h1 : ¬ p → A) (h2 : p → B) : if (!decide p) = true then A else B := by
  by_cases q : p
  · rw [decide_eq_true q]; exact iteF (h2 q)
  · rw [decide_eq_false q]; exact iteT (h1 q)
/-! ### what stays -/
def Ex (G J : Hp) : Prop := ∀ a o, G a = some o → J a = some o
theorem Ex.refl (G : Hp) : Ex G G := fun _ _ => id
theorem Ex.trans {F G J : Hp} (a : Ex F G) (b : Ex G J) : Ex F J := fun x o => b x o ∘ a x o
theorem Ex.new {H : Hp} {p : Addr} {o : HO} (h : H p = none) : Ex H (upd H p o) := fun a u e => by rw [upd_ne (ne_of_none e h)]; exact e
theorem Ex.mut {H H' : Hp} {p : Addr} {o : HO} (e : Ex H H') (h : H p = none) : Ex H (upd H' p o) := fun a u ha => by rw [upd_ne (ne_of_none ha h)]; exact e a u ha
theorem Ex.fresh {H H' : Hp} {p : Addr} (e : Ex H H') (h : H' p = none) : H p = none := by
  cases h1 : H p with
  | none => rfl
  | some o => rw [e p o h1] at h; cases h
theorem Ex.rd {H H' : Hp} {a : Addr} {u : HO} (e : Ex H H') (h : Rd H a u) : Rd H' a u := by
  rcases h with h | ⟨o, h⟩
  · exact Or.inl (e a _ h)
  · exact Or.inr ⟨o, e a _ h⟩
theorem Ex.l {K : PySem.W.Frag} {H H' : Hp} {a : Addr} {xs : List V} (e : Ex H H') (h : SqL K H a xs) : SqL K H' a xs := h.elim (fun h => .inl (e.rd h)) .inr
theorem Ex.t {K : PySem.W.Frag} {H H' : Hp} {a : Addr} {xs : List V} (e : Ex H H') (h : SqT K H a xs) : SqT K H' a xs := h.elim (fun h => .inl (e.rd h)) .inr
/-- what a def promises: a value, and all that stood stands -/
def RetV (v : V) (H : Hp) (Q : VK) : Prop := ∀ H', Ex H H' → Q v H'
theorem RetV.here {v : V} {H : Hp} {Q : VK} (q : RetV v H Q) : Q v H := q H (Ex.refl H)
def del (H : Hp) (p : Addr) : Hp := fun a => if a = p then none else H a
/-- all stands but what is at p -/
def ExB (p : Addr) (H H' : Hp) : Prop := ∀ a o, a ≠ p → H a = some o → H' a = some o
theorem ExB.refl {p : Addr} (H : Hp) : ExB p H H := fun _ _ _ h => h
theorem ExB.trans {p : Addr} {H H1 H2 : Hp} (a : ExB p H H1) (b : ExB p H1 H2) : ExB p H H2 := fun x o n h => b x o n (a x o n h)
theorem ExB.upd {p : Addr} {H H' : Hp} {o : HO} (e : ExB p H H') : ExB p H (upd H' p o) := fun a u n h => by rw [upd_ne n]; exact e a u n h
theorem ExB.new {p q : Addr} {H H' : Hp} {o : HO} (e : ExB p H H') (h : H' q = none) : ExB p H (L2.upd H' q o) := fun a u n ha => by rw [upd_ne (ne_of_none (e a u n ha) h)]; exact e a u n ha
theorem ExB.mut {p q : Addr} {H H' : Hp} {o : HO} (e : ExB p H H') (h : H q = none) : ExB p H (L2.upd H' q o) := fun a u n ha => by rw [upd_ne (ne_of_none ha h)]; exact e a u n ha
theorem ExB.of {p : Addr} {H H' : Hp} (e : Ex H H') : ExB p H H' := fun a o _ h => e a o h
/-- what stands apart from p goes on -/
theorem Ex.box {p : Addr} {G H H' : Hp} (e : Ex G H) (b : ExB p H H') (n : G p = none) : Ex G H' := fun a o h => b a o (ne_of_none h n) (e a o h)
theorem ExB.at {p q : Addr} {H H' : Hp} {o : HO} (e : ExB p H H') (h : H q = some o) (n : q ≠ p) : H' q = some o := e q o n h
/-! ### loops and comprehensions over what gives a known list of values -/
structure Walks (J : It) (xs : List V) (Gd : Hp → Prop) : Prop where
  go : ∀ i H x, Gd H → xs[i]? = some x → J.go i H
  yl : ∀ i H x H', Gd H → i < xs.length → J.yld i H x H' → H' = H ∧ xs[i]? = some x
  st : ∀ H, Gd H → J.stop xs.length H
theorem wk_list {K : PySem.W.Frag} {a : Addr} {xs : List V} : Walks (Itl K a) xs (fun H => SqL K H a xs) := ⟨fun i H x h e => ⟨xs, x, h, e⟩, fun i H x H' h _ y => ⟨y.1, y.2 xs h⟩, fun H h => ⟨xs, h, Nat.le_refl _⟩⟩
theorem wk_tup {K : PySem.W.Frag} {a : Addr} {xs : List V} : Walks (Itt K a) xs (fun H => SqT K H a xs) := ⟨fun i H x h e => ⟨xs, x, h, e⟩, fun i H x H' h _ y => ⟨y.1, y.2 xs h⟩, fun H h => ⟨xs, h, Nat.le_refl _⟩⟩
def signsV (z : Str) : List V := z.cps.toList.map fun c => .str ⟨#[c]⟩
theorem wk_str {z : Str} : Walks (Its z) (signsV z) (fun _ => True) := by
  refine ⟨fun i H x _ e => ?_, fun i H x H' _ hi y => ⟨y.1, ?_⟩, fun H _ => ?_⟩
  · have h := (List.getElem?_eq_some_iff.mp e).1
    unfold signsV at h
    rw [List.length_map, Array.length_toList] at h
    exact h
  · obtain ⟨c, hc, rfl⟩ := y.2
    unfold signsV
    rw [List.getElem?_map, Array.getElem?_toList, hc]
    rfl
  · show z.cps.size ≤ (signsV z).length
    unfold signsV
    rw [List.length_map, Array.length_toList]
    exact Nat.le_refl _
def rangeV (lo : Int) (n : Nat) : List V := (List.range n).map fun i => .int (lo + (i : Nat))
theorem wk_range {lo : Int} {n : Nat} : Walks (Itr lo n) (rangeV lo n) (fun _ => True) := by
  refine ⟨fun i H x _ e => ?_, fun i H x H' _ hi y => ⟨y.1, ?_⟩, fun H _ => ?_⟩
  · have h := (List.getElem?_eq_some_iff.mp e).1
    unfold rangeV at h
    rw [List.length_map, List.length_range] at h
    exact h
  · unfold rangeV at hi ⊢
    rw [List.length_map, List.length_range] at hi
    rw [List.getElem?_map, List.getElem?_range hi, y.2]
    rfl
  · show n ≤ (rangeV lo n).length
    unfold rangeV
    rw [List.length_map, List.length_range]
    exact Nat.le_refl _
def lcPut (D : Addr) (y : V) (H : Hp) (Nx : Hp → Prop) : Prop := ∃ acc, H D = some (.lst acc) ∧ acc.length < sizeLine ∧ Nx (upd H D (.lst (acc ++ [y])))
def lcT (D : Addr) (tt : TT) (te : TE) (Nx : Hp → Prop) (σ : L2.St) (H : Hp) : Prop := tt σ H fun b H3 => if b = true then te σ H3 fun y H4 => lcPut D y H4 Nx else Nx H3
def lcW (D : Addr) (tt : TT) (te : TE) (vs : List Nat) (σ0 : L2.St) (Nx : Hp → Prop) (σ : L2.St) (H : Hp) : Prop := wipe σ vs = wipe σ0 vs ∧ lcT D tt te Nx σ H
def lcR (J : It) (g : TG) (tt : TT) (te : TE) (vs : List Nat) (σ : L2.St) (H1 : Hp) (Q : VK) : Prop := ∀ D, H1 D = none → ∃ W : Nat → Nat → Hp → Prop, (∃ m, W 0 m (upd H1 D (.lst []))) ∧ ∀ i m H, W i m H →
  (J.stop i H ∧ Q (.ref D) H) ∨ (J.go i H ∧ ∃ Nx : Hp → Prop, (∀ H', Nx H' → ∃ m', m' < m ∧ W (i + 1) m' H') ∧ ∀ x H', J.yld i H x H' → g x (wipe σ vs) H' fun σ2 H2 => lcW D tt te vs σ Nx σ2 H2)
theorem w_lc {wi : TI} {g : TG} {tt : TT} {te : TE} {vs : List Nat} {σ : L2.St} {H : Hp} {Q : VK} (q : wi σ H fun J H1 => lcR J g tt te vs σ H1 Q) : tLc wi g tt te vs σ H Q := q
theorem lc_walk {J : It} {xs : List V} {Gd : Hp → Prop} {g : TG} {tt : TT} {te : TE} {vs : List Nat} {σ : L2.St} {H1 : Hp} {Q : VK} (wk : Walks J xs Gd) (Pv : Addr → Nat → Hp → Prop) (h0 : ∀ D, H1 D = none → Pv D 0 (upd H1 D (.lst [])))
    (hG : ∀ D i H, Pv D i H → Gd H) (hs : ∀ D i x H, xs[i]? = some x → Pv D i H → g x (wipe σ vs) H fun σ2 H2 => lcW D tt te vs σ (Pv D (i + 1)) σ2 H2) (hd : ∀ D H, H1 D = none → Pv D xs.length H → Q (.ref D) H) : lcR J g tt te vs σ H1 Q := by
  intro D hD
  refine ⟨fun i m H => m = xs.length - i ∧ i ≤ xs.length ∧ Pv D i H, ⟨xs.length, by simp, Nat.zero_le _, h0 D hD⟩, ?_⟩
  rintro i m H ⟨rfl, hi, p⟩
  have q := hG D i H p
  by_cases hlt : i < xs.length
  · refine .inr ⟨wk.go i H _ q (List.getElem?_eq_getElem hlt), Pv D (i + 1), fun H' p' => ⟨xs.length - (i + 1), by omega, rfl, hlt, p'⟩, fun x H' y => ?_⟩
    obtain ⟨e, y2⟩ := wk.yl i H x H' q hlt y
    subst e
    exact hs D i x _ y2 p
  · have e : i = xs.length := by omega
    subst e
    exact .inl ⟨wk.st H q, hd D H hD p⟩
/-- a comprehension whose turns leave the heap as it is -/
def lcRes (D : Addr) (o : Option V) (H : Hp) (Nx : Hp → Prop) : Prop := match o with
  | some y => lcPut D y H Nx
  | none => Nx H
theorem lc_pure {α : Type} {ks : List α} {F : α → V} {J : It} {Gd : Hp → Prop} {g : TG} {tt : TT} {te : TE} {vs : List Nat} {σ : L2.St} {H1 : Hp} {Q : VK} (wk : Walks J (ks.map F) Gd) (f : α → Option V) (hG : ∀ H, Ex H1 H → Gd H) (hz : ks.length ≤ 1000000)
    (hs : ∀ D k H Nx, k ∈ ks → Ex H1 H → lcRes D (f k) H Nx → g (F k) (wipe σ vs) H fun σ2 H2 => lcW D tt te vs σ Nx σ2 H2) (q : ∀ D, H1 D = none → Q (.ref D) (upd H1 D (.lst (ks.filterMap f)))) : lcR J g tt te vs σ H1 Q := by
  refine lc_walk wk (fun D i H => H1 D = none ∧ H = upd H1 D (.lst ((ks.take i).filterMap f))) (fun D hD => ⟨hD, rfl⟩) (fun D i H p => hG H (by rw [p.2]; exact Ex.new p.1)) (fun D i x H hx p => ?_) (fun D H hD p => ?_)
  · obtain ⟨hD, e⟩ := p
    rw [List.getElem?_map] at hx
    obtain ⟨k, hk, rfl⟩ := Option.map_eq_some_iff.mp hx
    refine hs D k H _ (List.mem_of_getElem? hk) (by rw [e]; exact Ex.new hD) ?_
    have e2 : ks.take (i + 1) = ks.take i ++ [k] := by rw [List.take_add_one, hk]; rfl
    have hi := (List.getElem?_eq_some_iff.mp hk).1
    cases hf : f k with
    | none =>
      refine ⟨hD, ?_⟩
      rw [e, e2, List.filterMap_append, List.filterMap_cons, hf]
      simp
    | some y =>
      have hl : ((ks.take i).filterMap f).length ≤ 1000000 := Nat.le_trans (List.length_filterMap_le _ _) (by rw [List.length_take]; omega)
      refine ⟨_, by rw [e]; exact upd_same, Nat.lt_of_le_of_lt hl (by decide), hD, ?_⟩
      rw [e, e2, upd_upd, List.filterMap_append, List.filterMap_cons, hf]
      rfl
  · rw [p.2, List.length_map, List.take_length]
    exact q D hD
def forR (J : It) (g : TG) (tb : TS) (D : Ends) (σ : L2.St) (H1 : Hp) : Prop := ∃ W : Nat → Nat → L2.St → Hp → Prop, (∃ m, W 0 m σ H1) ∧ ∀ i m σ H, W i m σ H →
  (J.stop i H ∧ D.nx σ H) ∨ (J.go i H ∧ ∃ N : L2.St → Hp → Prop, (∀ σ' H', N σ' H' → ∃ m', m' < m ∧ W (i + 1) m' σ' H') ∧ ∀ x H', J.yld i H x H' → g x σ H' fun σ2 H2 => tb { D with nx := N, ct := N, bk := D.nx } σ2 H2)
theorem w_for {wi : TI} {g : TG} {tb : TS} {D : Ends} {σ : L2.St} {H : Hp} (q : wi σ H fun J H1 => forR J g tb D σ H1) : tFor wi g tb D σ H := q
theorem for_walk {J : It} {xs : List V} {Gd : Hp → Prop} {g : TG} {tb : TS} {D : Ends} {σ : L2.St} {H1 : Hp} (wk : Walks J xs Gd) (Pv : Nat → L2.St → Hp → Prop) (h0 : Pv 0 σ H1) (hG : ∀ i σ H, Pv i σ H → Gd H)
    (hs : ∀ i x σ H, xs[i]? = some x → Pv i σ H → g x σ H fun σ2 H2 => tb { D with nx := Pv (i + 1), ct := Pv (i + 1), bk := D.nx } σ2 H2) (hd : ∀ σ H, Pv xs.length σ H → D.nx σ H) : forR J g tb D σ H1 := by
  refine ⟨fun i m σ H => m = xs.length - i ∧ i ≤ xs.length ∧ Pv i σ H, ⟨xs.length, by simp, Nat.zero_le _, h0⟩, ?_⟩
  rintro i m σ H ⟨rfl, hi, p⟩
  have q := hG i σ H p
  by_cases hlt : i < xs.length
  · refine .inr ⟨wk.go i H _ q (List.getElem?_eq_getElem hlt), Pv (i + 1), fun σ' H' p' => ⟨xs.length - (i + 1), by omega, rfl, hlt, p'⟩, fun x H' y => ?_⟩
    obtain ⟨e, y2⟩ := wk.yl i H x H' q hlt y
    subst e
    exact hs i x σ _ y2 p
  · have e : i = xs.length := by omega
    subst e
    exact .inl ⟨wk.st H q, hd σ H p⟩
def itL (K : PySem.W.Frag) (x : V) (H : Hp) (R : It → Hp → Prop) : Prop := ∃ a, x = .ref a ∧ (∃ xs, SqL K H a xs) ∧ R (Itl K a) H
def itT (K : PySem.W.Frag) (x : V) (H : Hp) (R : It → Hp → Prop) : Prop := ∃ a, x = .ref a ∧ (∃ xs, SqT K H a xs) ∧ R (Itt K a) H
def itS (x : V) (H : Hp) (R : It → Hp → Prop) : Prop := ∃ z, x = .str z ∧ R (Its z) H
def itR1 (vs : List V) (H : Hp) (R : It → Hp → Prop) : Prop := ∃ j : Int, vs = [.int j] ∧ -(2 ^ 62) ≤ j ∧ j < 2 ^ 62 ∧ R (Itr 0 j.toNat) H
def itR2 (vs : List V) (H : Hp) (R : It → Hp → Prop) : Prop := ∃ i j : Int, vs = [.int i, .int j] ∧ (-(2 ^ 62) ≤ i ∧ i < 2 ^ 62 ∧ -(2 ^ 62) ≤ j ∧ j < 2 ^ 62) ∧ R (Itr i (j - i).toNat) H
section
variable {K : PySem.W.Frag} {σ : L2.St} {H : Hp} {t : TE} {tA : TA} {R : It → Hp → Prop}
theorem w_iL (q : t σ H fun x H1 => itL K x H1 R) : iU K t σ H R := .inl q
theorem w_iT (q : t σ H fun x H1 => itT K x H1 R) : iU K t σ H R := .inr (.inl q)
theorem w_iS (q : t σ H fun x H1 => itS x H1 R) : iU K t σ H R := .inr (.inr q)
theorem w_iR1 (q : tA σ H fun vs H1 => itR1 vs H1 R) : iRng1 tA σ H R := q
theorem w_iR2 (q : tA σ H fun vs H1 => itR2 vs H1 R) : iRng2 tA σ H R := q
theorem it_L {a : Addr} {xs : List V} (h : SqL K H a xs) (q : R (Itl K a) H) : itL K (.ref a) H R := ⟨a, rfl, ⟨xs, h⟩, q⟩
theorem it_T {a : Addr} {xs : List V} (h : SqT K H a xs) (q : R (Itt K a) H) : itT K (.ref a) H R := ⟨a, rfl, ⟨xs, h⟩, q⟩
theorem it_S {z : Str} (q : R (Its z) H) : itS (.str z) H R := ⟨z, rfl, q⟩
theorem it_R1 {j : Int} (h1 : -(2 ^ 62) ≤ j) (h2 : j < 2 ^ 62) (q : R (Itr 0 j.toNat) H) : itR1 [.int j] H R := ⟨j, rfl, h1, h2, q⟩
theorem it_R2 {i j : Int} (h : -(2 ^ 62) ≤ i ∧ i < 2 ^ 62 ∧ -(2 ^ 62) ≤ j ∧ j < 2 ^ 62) (q : R (Itr i (j - i).toNat) H) : itR2 [.int i, .int j] H R := ⟨i, j, rfl, h, q⟩
theorem w_lcW {D : Addr} {tt : TT} {te : TE} {vs : List Nat} {σ0 : L2.St} {Nx : Hp → Prop} (h : wipe σ vs = wipe σ0 vs) (q : tt σ H fun b H3 => if b = true then te σ H3 fun y H4 => lcPut D y H4 Nx else Nx H3) : lcW D tt te vs σ0 Nx σ H := ⟨h, q⟩
end
/-! ### names -/
def lowc (c : Nat) : Bool := decide (97 ≤ c) && decide (c ≤ 122)
def isName (z : Str) : Bool := decide (1 ≤ z.length) && (decide (z.length ≤ 8) && z.cps.toList.all lowc)
theorem ascii_tab : ∀ c : _root_.Fin 128, (PySem.Unicode.isAlpha c.val = (lowc c.val || (decide (65 ≤ c.val) && decide (c.val ≤ 90)))) ∧ PySem.Unicode.isLower c.val = lowc c.val ∧ (PySem.Unicode.isUpper c.val || PySem.Unicode.isTitle c.val) = (decide (65 ≤ c.val) && decide (c.val ≤ 90)) := by decide +kernel
theorem lowc_lt {c : Nat} (h : lowc c = true) : c < 128 := by
  unfold lowc at h
  simp only [Bool.and_eq_true, decide_eq_true_eq] at h
  omega
theorem name_tests (z : Str) (h1 : 1 ≤ z.length) : (Txt.isascii z && (Txt.isalpha z && Txt.islower z)) = z.cps.toList.all lowc := by
  have hlen : z.cps.toList.length = z.length := by simp [Str.length]
  unfold Txt.isascii Txt.isalpha Txt.islower
  rw [← Array.all_toList, ← Array.all_toList, ← Array.any_toList, ← Array.any_toList, Bool.eq_iff_iff]
  simp only [Bool.and_eq_true, Bool.not_eq_true', List.all_eq_true, List.any_eq_true, List.any_eq_false, decide_eq_true_eq]
  constructor
  · rintro ⟨ha, ⟨_, hb⟩, ⟨_, hd⟩⟩ c hc
    have hc1 := ha c hc
    obtain ⟨t1, t2, t3⟩ := ascii_tab ⟨c, hc1⟩
    have h2 := hb c hc
    have h3 := hd c hc
    simp only at t1 t2 t3
    rw [t3] at h3
    rw [t1] at h2
    cases hl : lowc c with
    | true => rfl
    | false =>
      rw [hl, Bool.false_or] at h2
      exact absurd h2 h3
  · intro ha
    refine ⟨fun c hc => lowc_lt (ha c hc), ⟨?_, fun c hc => ?_⟩, ⟨?_, fun c hc => ?_⟩⟩
    · show z.length > 0
      omega
    · obtain ⟨t1, t2, t3⟩ := ascii_tab ⟨c, lowc_lt (ha c hc)⟩
      simp only at t1
      rw [t1, ha c hc]
      rfl
    · have h0 : 0 < z.cps.toList.length := by omega
      refine ⟨z.cps.toList[0], List.getElem_mem h0, ?_⟩
      have hq := ha _ (List.getElem_mem h0)
      obtain ⟨t1, t2, t3⟩ := ascii_tab ⟨_, lowc_lt hq⟩
      simp only at t2
      rw [t2]
      exact hq
    · obtain ⟨t1, t2, t3⟩ := ascii_tab ⟨c, lowc_lt (ha c hc)⟩
      simp only at t3
      rw [t3]
      have hq := ha c hc
      unfold lowc at hq
      simp only [Bool.and_eq_true, decide_eq_true_eq] at hq ⊢
      omega
abbrev lettersS : Str := Str.ofString "abcdefghijklmnopqrstuvwxyz"
theorem letters_tab : ∀ c : _root_.Fin 128, decide (c.val ∈ lettersS.cps.toList) = lowc c.val := by decide +kernel
theorem letters_lt : ∀ c ∈ lettersS.cps.toList, c < 128 := by decide +kernel
theorem letters_mem (c : Nat) : decide (c ∈ lettersS.cps.toList) = lowc c := by
  by_cases h : c < 128
  · exact letters_tab ⟨c, h⟩
  · have h1 : lowc c = false := by
      cases q : lowc c with
      | false => rfl
      | true => exact absurd (lowc_lt q) h
    rw [h1]
    exact decide_eq_false fun q => h (letters_lt c q)
/-- the signs of a text that are no letters -/
def badSigns (z : Str) : List Str := (z.cps.toList.filter fun c => !lowc c).map fun c => ⟨#[c]⟩
theorem badSigns_eq (z : Str) : (z.cps.toList.filterMap fun c => if lowc c = true then none else some (V.str ⟨#[c]⟩)) = (badSigns z).map V.str := by
  unfold badSigns
  rw [List.map_map]
  induction z.cps.toList with
  | nil => rfl
  | cons c r ih => cases h : lowc c <;> simp [List.filterMap_cons, List.filter_cons, h, ih]
theorem badSigns_nil (z : Str) : (badSigns z).isEmpty = z.cps.toList.all lowc := by
  unfold badSigns
  rw [List.isEmpty_map, Bool.eq_iff_iff, List.isEmpty_iff, List.filter_eq_nil_iff, List.all_eq_true]
  simp only [Bool.not_eq_true', Bool.not_eq_false]
theorem dps_str {K : PySem.W.Frag} {H : Hp} : ∀ ys : List Str, DpAll K H (ys.map V.str) (ys.map PyData.str)
  | [] => .nil
  | y :: ys => .cons (.str y) (dps_str ys)
theorem dps_int {K : PySem.W.Frag} {H : Hp} : ∀ ys : List Int, DpAll K H (ys.map V.int) (ys.map PyData.int)
  | [] => .nil
  | y :: ys => .cons (.int y) (dps_int ys)
theorem a_eqD {K : PySem.W.Frag} {H : Hp} {Q : VK} {x y : V} {d e : PyData} (hd : Dp K H x d) (he : Dp K H y e) (h1 : SeqAt.shaped d = true) (h2 : SeqAt.shaped e = true) (q : Q (.bl (PyData.eqv d e)) H) : rEqU K x y H Q := .inr ⟨d, e, hd, he, h1, h2, q⟩
theorem a_neD {K : PySem.W.Frag} {H : Hp} {Q : VK} {x y : V} {d e : PyData} (hd : Dp K H x d) (he : Dp K H y e) (h1 : SeqAt.shaped d = true) (h2 : SeqAt.shaped e = true) (q : Q (.bl (!PyData.eqv d e)) H) : rNeU K x y H Q := .inr ⟨d, e, hd, he, h1, h2, q⟩
theorem lay_strs : ∀ ys : List Str, (∀ y ∈ ys, PyData.strOk y = true) → PyData.canLayAll0 (ys.map PyData.str) = true ∧ PyData.depthAll (ys.map PyData.str) = 0
  | [], _ => ⟨by simp [PyData.canLayAll0], by simp [PyData.depthAll]⟩
  | y :: ys, h => by
    obtain ⟨h1, h2⟩ := lay_strs ys fun z hz => h z (List.mem_cons_of_mem _ hz)
    have h3 := h y List.mem_cons_self
    exact ⟨by simp [PyData.canLayAll0, PyData.canLay0, h1, h3], by simp [PyData.depthAll, PyData.depth, h2]⟩
theorem shaped_strs {ys : List Str} (h : ∀ y ∈ ys, PyData.strOk y = true) : SeqAt.shaped (.list (ys.map PyData.str)) = true := by
  obtain ⟨h1, h2⟩ := lay_strs ys h
  simp [SeqAt.shaped, PyData.canLay0, PyData.depth, h1, h2]
theorem shaped_strsT {ys : List Str} (h : ∀ y ∈ ys, PyData.strOk y = true) : SeqAt.shaped (.tuple (ys.map PyData.str)) = true := by
  obtain ⟨h1, h2⟩ := lay_strs ys h
  simp [SeqAt.shaped, PyData.canLay0, PyData.depth, h1, h2]
theorem lay_ints : ∀ ys : List Int, PyData.canLayAll0 (ys.map PyData.int) = true ∧ PyData.depthAll (ys.map PyData.int) = 0
  | [] => ⟨by simp [PyData.canLayAll0], by simp [PyData.depthAll]⟩
  | y :: ys => by
    obtain ⟨h1, h2⟩ := lay_ints ys
    exact ⟨by simp [PyData.canLayAll0, PyData.canLay0, h1], by simp [PyData.depthAll, PyData.depth, h2]⟩
theorem shaped_ints (ys : List Int) : SeqAt.shaped (.list (ys.map PyData.int)) = true := by
  obtain ⟨h1, h2⟩ := lay_ints ys
  simp [SeqAt.shaped, PyData.canLay0, PyData.depth, h1, h2]
theorem shaped_nil : SeqAt.shaped (.list []) = true := by simp [SeqAt.shaped, PyData.canLay0, PyData.depth, PyData.canLayAll0, PyData.depthAll]
theorem eqv_nil (ds : List PyData) : PyData.eqv (.list ds) (.list []) = ds.isEmpty := by cases ds <;> simp [PyData.eqv, PyData.eqvAll]
def OkS (z : Str) (n : Nat) : Prop := z.length ≤ n ∧ PyData.strOk z = true
theorem OkS.line {z : Str} {n : Nat} (h : OkS z n) (hn : n ≤ 1000000 := by decide) : z.length ≤ sizeLine := Nat.le_trans h.1 (Nat.le_trans hn (by decide))
theorem OkS.sign {z : Str} {n : Nat} (h : OkS z n) {c : Nat} (hc : c ∈ z.cps.toList) : PyData.strOk ⟨#[c]⟩ = true := by
  have h2 := h.2
  unfold PyData.strOk at h2 ⊢
  rw [← Array.all_toList, List.all_eq_true] at h2
  simpa using h2 c hc
theorem badSigns_ok {z : Str} {n : Nat} (h : OkS z n) : ∀ y ∈ badSigns z, PyData.strOk y = true := fun y hy => by
  unfold badSigns at hy
  obtain ⟨c, hc, rfl⟩ := List.mem_map.mp hy
  exact h.sign (List.mem_filter.mp hc).1
theorem isName_ok {z : Str} (h : isName z = true) : OkS z 8 := by
  unfold isName at h
  simp only [Bool.and_eq_true, decide_eq_true_eq] at h
  refine ⟨h.2.1, ?_⟩
  unfold PyData.strOk
  rw [← Array.all_toList, List.all_eq_true]
  intro c hc
  have := lowc_lt (List.all_eq_true.mp h.2.2 c hc)
  exact decide_eq_true (by omega)
theorem OkS.mono {z : Str} {m n : Nat} (h : OkS z m) (hm : m ≤ n) : OkS z n := ⟨Nat.le_trans h.1 hm, h.2⟩
/-! ### texts by their signs -/
theorem OkS_iff {z : Str} {n : Nat} : OkS z n ↔ z.cps.toList.length ≤ n ∧ ∀ c ∈ z.cps.toList, c < 0x110000 := by
  unfold OkS PyData.strOk
  rw [← Array.all_toList, List.all_eq_true, show z.length = z.cps.toList.length by simp [Str.length]]
  simp only [decide_eq_true_eq]
theorem app_cps (a b : Str) : (a ++ b).cps.toList = a.cps.toList ++ b.cps.toList := by
  show (a.cps ++ b.cps).toList = _
  rw [Array.toList_append]
theorem len_cps (a : Str) : a.length = a.cps.toList.length := by simp [Str.length]
theorem ext_cps {a b : Str} (h : a.cps.toList = b.cps.toList) : a = b := by
  cases a with
  | mk x =>
    cases b with
    | mk y =>
      have : x = y := by
        cases x
        cases y
        simpa using h
      rw [this]
theorem OkS_append {a b : Str} {m n : Nat} (ha : OkS a m) (hb : OkS b n) : OkS (a ++ b) (m + n) := by
  rw [OkS_iff] at ha hb ⊢
  rw [app_cps, List.length_append]
  refine ⟨by omega, fun c hc => ?_⟩
  rcases List.mem_append.mp hc with h | h
  · exact ha.2 c h
  · exact hb.2 c h
theorem OkS_cut {z : Str} {n : Nat} (h : OkS z n) (lo hi : Option Int) : OkS (cutS z lo hi) n := by
  rw [OkS_iff] at h ⊢
  unfold cutS
  simp only
  refine ⟨?_, fun c hc => h.2 c (List.mem_of_mem_drop (List.mem_of_mem_take hc))⟩
  rw [List.length_take, List.length_drop]
  omega
theorem OkS_join {sep : Str} {k m : Nat} (hs : OkS sep k) : ∀ ys : List Str, (∀ y ∈ ys, OkS y m) → OkS (Txt.join sep ys) (ys.length * (m + k)) := by
  intro ys h
  rw [TL.join_eq]
  induction ys with
  | nil => exact ⟨Nat.zero_le _, (by decide +kernel : PyData.strOk Str.empty = true)⟩
  | cons y r ih =>
    cases r with
    | nil =>
      show OkS y _
      exact (h y List.mem_cons_self).mono (by rw [List.length_singleton]; omega)
    | cons x r =>
      show OkS (y ++ sep ++ Str.join sep (x :: r)) _
      refine (OkS_append (OkS_append (h y List.mem_cons_self) hs) (ih fun z hz => h z (List.mem_cons_of_mem _ hz))).mono ?_
      simp only [List.length_cons, Nat.add_mul]
      omega
theorem mul_fold (x : Array Nat) : ∀ (k : Nat) (acc : Array Nat), ((List.replicate k x).foldl (· ++ ·) acc).toList = acc.toList ++ (List.replicate k x.toList).flatten
  | 0, acc => by simp
  | k + 1, acc => by
    rw [List.replicate_succ, List.foldl_cons, mul_fold x k, Array.toList_append, List.replicate_succ, List.flatten_cons, List.append_assoc]
theorem mul_cps (z : Str) (n : Int) (h : 0 ≤ n) : (Txt.mul z n).cps.toList = (List.replicate n.toNat z.cps.toList).flatten := by
  unfold Txt.mul
  by_cases h1 : n < 1
  · rw [if_pos h1, show n.toNat = 0 by omega]
    rfl
  · rw [if_neg h1]
    split
    · rename_i h2
      rw [Bool.or_eq_true] at h2
      rcases h2 with h2 | h2
      · have : n = 1 := by simpa using h2
        subst this
        simp
      · have h3 : z.cps.toList = [] := by
          have : z.length = 0 := by simpa using h2
          rw [len_cps] at this
          exact List.eq_nil_of_length_eq_zero this
        rw [h3]
        simp
    · show ((List.replicate n.toNat z.cps).foldl (· ++ ·) #[]).toList = _
      rw [mul_fold]
      rfl
theorem OkS_mul {z : Str} {m : Nat} (h : OkS z m) (n : Int) (hn : 0 ≤ n) : OkS (Txt.mul z n) (m * n.toNat) := by
  rw [OkS_iff] at h ⊢
  rw [mul_cps z n hn]
  refine ⟨?_, fun c hc => ?_⟩
  · rw [List.length_flatten, List.map_replicate, List.sum_replicate_nat, Nat.mul_comm]
    exact Nat.mul_le_mul_right _ h.1
  · obtain ⟨l, hl, hc⟩ := List.mem_flatten.mp hc
    rw [List.eq_of_mem_replicate hl] at hc
    exact h.2 c hc
theorem OkS_sign (c : Nat) (h : c < 0x110000) : OkS ⟨#[c]⟩ 1 := by
  rw [OkS_iff]
  exact ⟨Nat.le_refl _, fun d hd => by
    have : d = c := by simpa using hd
    omega⟩
theorem OkS_item {z : Str} {n : Nat} (h : OkS z n) {k : Int} {c : Nat} (hc : atI z.cps.toList k = some c) : OkS ⟨#[c]⟩ 1 := by
  refine OkS_sign c ?_
  unfold atI at hc
  obtain ⟨j, _, hj⟩ := Option.bind_eq_some_iff.mp hc
  exact (OkS_iff.mp h).2 c (List.mem_of_getElem? hj)
/-- an item of a sequence at a drawn place -/
theorem atI_in {α : Type} (xs : List α) {d : Int} (h0 : 0 ≤ d) (h1 : d < (xs.length : Int)) : ∃ x, atI xs d = some x ∧ x ∈ xs := by
  have hd : d.toNat < xs.length := by omega
  refine ⟨xs[d.toNat], ?_, List.getElem_mem hd⟩
  have e : ((d.toNat : Nat) : Int) = d := by omega
  have h := atI_nat (xs := xs) (List.getElem?_eq_getElem hd)
  rw [e] at h
  exact h
/-- a value that is no text (no int, no bool) -/
def NotTy (K : PySem.W.Frag) (H : Hp) (v : V) (n : String) : Prop := ∃ T, TyX K H v T ∧ PySem.W.kitOne K T (.type n) = some false
def NotInt (K : PySem.W.Frag) (H : Hp) (v : V) : Prop := ∃ T, TyX K H v T ∧ PySem.W.kitOne K T (.type "int") = some false ∧ PySem.W.kitOne K T (.type "bool") = some false
theorem TyOf.ex {K : PySem.W.Frag} {H H' : Hp} {v : V} {T : Value} (x : Ex H H') (h : TyOf K H v T) : TyOf K H' v T := by
  cases h with
  | non => exact .non
  | bl b => exact .bl b
  | int i => exact .int i
  | str z => exact .str z
  | flt z => exact .flt z
  | lst e => exact .lst (x _ _ e)
  | frz e => exact .frz (x _ _ e)
  | tup e => exact .tup (x _ _ e)
  | dK e => exact .dK (x _ _ e)
  | dT e => exact .dT (x _ _ e)
  | ins e cl ha hn ht hm => exact .ins (x _ _ e) cl ha hn ht hm
theorem TyX.ex {K : PySem.W.Frag} {H H' : Hp} {v : V} {T : Value} (x : Ex H H') (h : TyX K H v T) : TyX K H' v T := by
  cases h with
  | base h => exact .base (TyOf.ex x h)
  | byt b => exact .byt b
  | set e => exact .set (x _ _ e)
  | kList e c => exact .kList e c
  | kTuple e c => exact .kTuple e c
  | kDict e c => exact .kDict e c
  | fTuple e => exact .fTuple (x _ _ e)
  | fDict e => exact .fDict (x _ _ e)
/-- a value that is a text, a bool, or neither text nor number -/
def OddV (K : PySem.W.Frag) (H : Hp) (v : V) : Prop := (∃ z, v = .str z ∧ OkS z 10000) ∨ (∃ b, v = .bl b) ∨ ∃ T, TyX K H v T ∧ PySem.W.kitOne K T (.type "str") = some false ∧ PySem.W.kitOne K T (.type "int") = some false ∧ PySem.W.kitOne K T (.type "bool") = some false
theorem OddV.ex {K : PySem.W.Frag} {H H' : Hp} {v : V} (x : Ex H H') (h : OddV K H v) : OddV K H' v := by
  rcases h with h | h | ⟨T, h, r⟩
  · exact .inl h
  · exact .inr (.inl h)
  · exact .inr (.inr ⟨T, TyX.ex x h, r⟩)
theorem odd_non {K : PySem.W.Frag} {H : Hp} : OddV K H .non := .inr (.inr ⟨_, .base .non, kit_ty (by decide +kernel), kit_ty (by decide +kernel), kit_ty (by decide +kernel)⟩)
theorem odd_bl {K : PySem.W.Frag} {H : Hp} (b : Bool) : OddV K H (.bl b) := .inr (.inl ⟨b, rfl⟩)
theorem odd_str {K : PySem.W.Frag} {H : Hp} {z : Str} (h : OkS z 10000) : OddV K H (.str z) := .inl ⟨z, rfl, h⟩
theorem odd_lst {K : PySem.W.Frag} {H : Hp} {a : Addr} {xs : List V} (h : H a = some (.lst xs)) : OddV K H (.ref a) := .inr (.inr ⟨_, .base (.lst h), kit_ty (by decide +kernel), kit_ty (by decide +kernel), kit_ty (by decide +kernel)⟩)
theorem odd_tup {K : PySem.W.Frag} {H : Hp} {a : Addr} {xs : List V} (h : H a = some (.tup xs)) : OddV K H (.ref a) := .inr (.inr ⟨_, .base (.tup h), kit_ty (by decide +kernel), kit_ty (by decide +kernel), kit_ty (by decide +kernel)⟩)
theorem odd_dK {K : PySem.W.Frag} {H : Hp} {a : Addr} {xs : List (Key × V)} (h : H a = some (.dK xs)) : OddV K H (.ref a) := .inr (.inr ⟨_, .base (.dK h), kit_ty (by decide +kernel), kit_ty (by decide +kernel), kit_ty (by decide +kernel)⟩)
theorem OddV.notInt {K : PySem.W.Frag} {H : Hp} {v : V} (h : OddV K H v) : (∃ b, v = .bl b) ∨ NotInt K H v := by
  rcases h with ⟨z, rfl, _⟩ | h | ⟨T, h, _, r1, r2⟩
  · exact .inr ⟨_, .base (.str z), kit_ty (by decide +kernel), kit_ty (by decide +kernel)⟩
  · exact .inl h
  · exact .inr ⟨T, h, r1, r2⟩
theorem OddV.notStr {K : PySem.W.Frag} {H : Hp} {v : V} (h : OddV K H v) : (∃ z, v = .str z ∧ OkS z 10000) ∨ NotTy K H v "str" := by
  rcases h with h | ⟨b, rfl⟩ | ⟨T, h, r, _⟩
  · exact .inl h
  · exact .inr ⟨_, .base (.bl b), kit_ty (by decide +kernel)⟩
  · exact .inr ⟨T, h, r⟩
def sp_is_name (K : PySem.W.Frag) : Sp := fun vs H Q _ => ∃ v, vs = [v] ∧ ((∃ z, v = .str z ∧ OkS z 10000 ∧ RetV (.bl (isName z)) H Q) ∨ (NotTy K H v "str" ∧ RetV (.bl false) H Q))
def sp_is_integer (K : PySem.W.Frag) : Sp := fun vs H Q _ => ∃ v lo hi, vs = [v, .int lo, .int hi] ∧ ((∃ i, v = .int i ∧ RetV (.bl (decide (lo ≤ i) && decide (i ≤ hi))) H Q) ∨ (∃ b, v = .bl b ∧ RetV (.bl false) H Q) ∨ (NotInt K H v ∧ RetV (.bl false) H Q))
/-! ### the law's box of draws: its values matter to no law, its form does -/
def IsBox (o : HO) (n : Nat) : Prop := ∃ a b c : Int, o = .lst [.int a, .int b, .int c] ∧ 0 ≤ a ∧ 0 ≤ b ∧ b < 2147483629 ∧ 0 ≤ c ∧ c ≤ (n : Int)
theorem fmod_lo (a : Int) {m : Int} (h : 0 < m) : 0 ≤ a.fmod m := by rw [Int.fmod_eq_emod_of_nonneg a (Int.le_of_lt h)]; exact Int.emod_nonneg _ (by omega)
theorem fmod_hi (a : Int) {m : Int} (h : 0 < m) : a.fmod m < m := by rw [Int.fmod_eq_emod_of_nonneg a (Int.le_of_lt h)]; exact Int.emod_lt_of_pos _ h
theorem fdiv_lo {a m : Int} (ha : 0 ≤ a) (h : 0 < m) : 0 ≤ a.fdiv m := by rw [Int.fdiv_eq_ediv_of_nonneg a (Int.le_of_lt h)]; exact Int.ediv_nonneg ha (Int.le_of_lt h)
/-! ### measures -/
def ltS (a b : Str) : Bool := decide (a.cps.toList < b.cps.toList)
def isKind (k : Str) : Prop := k = "length" ∨ k = "bearing"
def lo2 (a b : Str) : Str := if a.cps.toList < b.cps.toList then a else b
def hi2 (a b : Str) : Str := if a.cps.toList < b.cps.toList then b else a
def IsMeas (C : Addr) (H : Hp) (x : Addr) (k a b : Str) : Prop := ∃ dx t, H x = some (.ins C dx [("own_kind", .str k), ("own_ends", .ref t)]) ∧ H t = some (.tup [.str a, .str b])
theorem IsMeas.mono {C : Addr} {H H' : Hp} {x : Addr} {k a b : Str} (e : Ex H H') (h : IsMeas C H x k a b) : IsMeas C H' x k a b := let ⟨dx, t, h1, h2⟩ := h; ⟨dx, t, e _ _ h1, e _ _ h2⟩
def sp_Measure (C : Addr) : Sp := fun vs H Q _ => ∃ (x dx : Addr) (k a b : Str), vs = [.ref x, .str k, .str a, .str b] ∧ H x = some (.ins C dx []) ∧ isKind k ∧ isName a = true ∧ isName b = true ∧ a ≠ b ∧ ∀ H', ExB x H H' → IsMeas C H' x k (lo2 a b) (hi2 a b) → Q .non H'
def sp_cell (K : PySem.W.Frag) : Sp := fun vs H Q _ => ∃ (a : Addr) (ns : List Int) (k : Nat), vs = [.ref a, .int (k : Int)] ∧ SqL K H a (ns.map V.int) ∧ ns.length ≤ 63 ∧ k ≤ 100 ∧ ∀ c : Int, Q (.int c) H
def sp_box : Sp := fun vs H Q _ => ∃ c : Int, vs = [.int c] ∧ ∀ p o, H p = none → IsBox o 0 → Q (.ref p) (upd H p o)
def BoxAt (H : Hp) (p : Addr) (n : Nat) : Prop := ∃ o, H p = some o ∧ IsBox o n
theorem IsBox.mono {o : HO} {m n : Nat} (h : IsBox o m) (hm : m ≤ n) : IsBox o n := let ⟨a, b, c, e, h1, h2, h3, h4, h5⟩ := h; ⟨a, b, c, e, h1, h2, h3, h4, by omega⟩
theorem BoxAt.mono {H : Hp} {p : Addr} {m n : Nat} (h : BoxAt H p m) (hm : m ≤ n) : BoxAt H p n := let ⟨o, h1, h2⟩ := h; ⟨o, h1, h2.mono hm⟩
theorem BoxAt.ex {H H' : Hp} {p : Addr} {n : Nat} (e : Ex H H') (h : BoxAt H p n) : BoxAt H' p n := let ⟨o, h1, h2⟩ := h; ⟨o, e _ _ h1, h2⟩
theorem BoxAt.new {H : Hp} {p q : Addr} {n : Nat} {o : HO} (h : BoxAt H p n) (hq : H q = none) : BoxAt (upd H q o) p n := h.ex (Ex.new hq)
theorem BoxAt.upd {H : Hp} {p q : Addr} {n : Nat} {o : HO} (h : BoxAt H p n) (hq : q ≠ p) : BoxAt (L2.upd H q o) p n := let ⟨u, h1, h2⟩ := h; ⟨u, (upd_ne hq.symm).trans h1, h2⟩
theorem BoxAt.ne {H : Hp} {p q : Addr} {n : Nat} (h : BoxAt H p n) (hq : H q = none) : p ≠ q := let ⟨_, h1, _⟩ := h; ne_of_none h1 hq
def sp_take : Sp := fun vs H Q _ => ∃ (p : Addr) (m : Int) (o : HO) (n : Nat), vs = [.ref p, .int m] ∧ H p = some o ∧ IsBox o n ∧ n ≤ 1000000000 ∧ 0 < m ∧ m < 1073741824 ∧ ∀ (d : Int) (o' : HO), 0 ≤ d → d < m → IsBox o' (n + 1) → Q (.int d) (upd H p o')
theorem take_of {H : Hp} {p : Addr} {n : Nat} {m : Int} {Q : VK} {E : XK} (hb : BoxAt H p n) (hn : n ≤ 1000000000) (h0 : 0 < m) (h1 : m < 1073741824) (q : ∀ (d : Int) (H' : Hp), 0 ≤ d → d < m → BoxAt H' p (n + 1) → ExB p H H' → Q (.int d) H') : sp_take [.ref p, .int m] H Q E := by
  obtain ⟨o, ho, hi⟩ := hb
  exact ⟨p, m, o, n, rfl, ho, hi, hn, h0, h1, fun d o' h2 h3 h4 => q d _ h2 h3 ⟨o', upd_same, h4⟩ (ExB.upd (ExB.refl _))⟩
/-- what a def with a box promises: all stands but the box -/
def RetB (p : Addr) (n : Nat) (H : Hp) (v : V) (Q : VK) : Prop := ∀ H', ExB p H H' → BoxAt H' p n → Q v H'
end G

set_option Elab.async false
set_option linter.all false
set_option maxRecDepth 100000
set_option maxHeartbeats 4000000
/-! An own error over ValueError (a class or two in between) whose __init__ says super().__init__('..') and keeps its one argument: made, raised, read. The block of skel/42 turned to this form. -/
namespace PySem
namespace ErrX
open PySem.W PySem.Calls PyProof.Rows PySem.HandSPX
/-! ### the text of __init__ -/
def iA (f : Str) (p1 p2 : Pos) : Arguments := { posonlyargs := [], args := [{ arg := "self", annotation := none, pos := p1 }, { arg := f, annotation := none, pos := p2 }], vararg := none, kwonlyargs := [], kw_defaults := [], kwarg := none, defaults := [] }
def iB (f m : Str) (j : Nat) (a1 a2 a3 a4 a5 a6 q1 q2 q3 q4 : Pos) : List Stmt :=
  [.Expr (.Call (.Attribute (.Call (.Name "super" a1) [] [] a2) "__init__" a3) [.Constant (.str m) j a4] [] a5) a6, .Assign [.Attribute (.Name "self" q1) f q2] (.Name f q3) q4]
def iS (f : Str) : Scope := { kind := .function, names := [("self", .local), (f, .local), ("__class__", .free), ("super", .globalImplicit)], isGenerator := false, isCoroutine := false, more := [] }
/-- what the written part says of the class cn, at C, and of its __init__, at fI -/
structure ErrTxt (prog : Program) (K : Frag) (mg : Str → Option Value) (cn f : Str) (C fI : Addr) : Prop where
  gC : mg cn = some (.ref C)
  cls : ∃ nm q N bs bm sn sub ab col dd k0 k1 k2 k3 k5, K.lookup C = some (excClassObj nm q C N bs bm true sn sub ab col dd k0 k1 k2 k3 k5 "ValueError.__new__") ∧ refsVE bm = true ∧ alongIn K "__init__" bm = some (some (.builtin "ValueError.__init__"))
  sa : findIn K (.ref C) "__setattr__" = some (some (.builtin "object.__setattr__"))
  ga : findIn K (.ref C) "__getattribute__" = some (some (.builtin "BaseException.__getattribute__"))
  gg : findIn K (.ref C) "__getattr__" = some none
  noN : findIn K (.ref C) f = some none
  iC : findIn K (.ref C) "__init__" = some (some (.ref fI))
  tC : typeIn K (.ref fI) = some (.type "function")
  kC : keepIn K (.ref C) = true
  exC : subIn K (.ref C) (.type "BaseException") = some true
  veC : subIn K (.ref C) (.type "ValueError") = some true
  miC : mroIn K C (.ref C) = some true
  tyC : typeIn K (.ref C) = some (.type "type")
  hdC : hasDictIn K C = true
  op : nsIn K cStatics "thirdparty.any" = some none
  fs : f ≠ "self"
  fc : f ≠ "__class__"
  fu : f ≠ "super"
  fg : (f == ("__debug__" : Str)) = false
  mS : mg "super" = none
  htop : (prog.main.scope.names.lookup ("super" : Str)).isSome = false
  fn : ∃ (oc : Value) (od : Option Addr) (doc pm : Value) (an : Option Addr) (cda : Addr) (ct : Value) (osl : Array (Option Value)) (p1 p2 : Pos) (m : Str) (j : Nat) (a1 a2 a3 a4 a5 a6 q1 q2 q3 q4 : Pos) (cc : Addr) (q : Str) (ccl : Value) (cdd : Option Addr) (vs : Array Value) (ccs : Array (Option Value)) (file : Str) (tf : Tok) (cl : Value) (cld : Option Addr) (csl : Array (Option Value)),
    K.lookup fI = some ⟨oc, od, .func (ksFn "__init__" q (iA f p1 p2) (iB f m j a1 a2 a3 a4 a5 a6 q1 q2 q3 q4) (iS f) .none .none doc pm an (.ref cda) ct cc), osl⟩ ∧ codeIn K (.ref cda) q = true ∧
    K.lookup cda = some ⟨ccl, cdd, .fields vs, ccs⟩ ∧ vs[2]? = some (.str file tf) ∧ ((prog.main.file : Str) == file) = true ∧ K.lookup cc = some ⟨cl, cld, .cell (some (.ref C)), csl⟩ ∧
    (∀ (s : Shared) (x v : Value), BindsTo s (ksFn "__init__" q (iA f p1 p2) (iB f m j a1 a2 a3 a4 a5 a6 q1 q2 q3 q4) (iS f) .none .none doc pm an (.ref cda) ct cc) ⟨[x, v], []⟩ [("self", x), (f, v)]) ∧
    (∀ env : Env, ∃ pl : Sem Bool, eval (.Call (.Attribute (.Call (.Name "super" a1) [] [] a2) "__init__" a3) [.Constant (.str m) j a4] [] a5) env = (do
      let ov ← attributeBase (.Call (.Name "super" a1) [] [] a2) "__init__" env (eval (.Call (.Name "super" a1) [] [] a2) env)
      standAt a3.atName
      let (f, first) ← holding [ov] (getMethod ov "__init__" pl)
      callWith a5 f first (backTo a5 (starEach [.Constant (.str m) j a4] env)) []))
theorem one_size (v : Value) : [v].length ≤ sizeLine := by
  rw [sizeLine_eq]
  exact (by decide : 1 ≤ 16777216)
/-- what __init__ leaves of a fresh exception at x -/
structure InitEnd (h h' : Heap) (x C dx t1 : Addr) (f : Str) (v : Value) : Prop where
  keep : ∀ b o, b ≠ x → h.get? b = some o → h'.get? b = some o
  obj : h'.get? x = some { cls := .ref C, dict := some dx, data := .fields #[.ref t1, .none, .none, .none, .bool false, .none] }
  dbig : h.objs.size ≤ dx
  dne : dx ≠ x
  ns : h'.Ns1 dx (fun y => if y = f then some v else none)
/-- a made error -/
structure OwnMade (h h' : Heap) (e C d : Addr) (f : Str) (v : Value) : Prop where
  keep : ∀ b o, h.get? b = some o → h'.get? b = some o
  new : h.objs.size ≤ e
  obj : ∃ t1 : Addr, h'.get? e = some { cls := .ref C, dict := some d, data := .fields #[.ref t1, .none, .none, .none, .bool false, .none] }
  dbig : h.objs.size ≤ d
  dne : d ≠ e
  ns : h'.Ns1 d (fun y => if y = f then some v else none)
section
variable {prog : Program} {w : World} {A : Around} {E : Value → Shared → Prop} {h : Heap} {g : Array GenState} {d : Drawn} {t : Nat} {os : OsState}
variable {nm q : Str} {C N : Addr} {bs bm : List Value} {hdct : Bool} {sn : List Str} {sub : List Value} {ab : Bool} {col : Option Bool} {dd : Option Addr} {k0 k1 k2 k3 k5 : Option Value}
/-- ValueError.__init__, bound to the error at e, called -/
theorem call_mw {u e t0 : Addr} {rest : List Value} {Q : Value → Shared → Prop}
    (hC : h.get? C = some (excClassObj nm q C N bs bm hdct sn sub ab col dd k0 k1 k2 k3 k5 "ValueError.__new__")) (he : h.get? e = some (excO C t0)) (hu : h.get? u = some (kxs_mw "ValueError.__init__" e)) (hrest : rest.length ≤ sizeLine)
    (hq : ∀ h' t1, (∀ b o, b ≠ e → h.get? b = some o → h'.get? b = some o) → h'.get? e = some (excO C t1) → Q .none ⟨h', g, d, t, os⟩) :
    wpAny (model prog w) A (call (.ref u) rest) Q E ⟨h, g, d, t, os⟩ := by
  refine wpAny_call (codeAny_of_tree ?_)
  show wpAny _ A.in1 (callAny (.ref u) ⟨rest, []⟩) _ _ _
  simp only [callAny]
  refine wpAny_bind (wpAny_load hu ?_)
  simp only [kxs_mw, show (Value.type "method-wrapper" == Value.type "method" || Value.type "method-wrapper" == Value.type "builtin_function_or_method" || Value.type "method-wrapper" == Value.type "method-wrapper") = true by decide, if_true]
  refine KFB.if_so (by decide) ?_
  refine wpAny_bind (check_bound_init F.excBase_ValueError.toExcCallFacts hC he rfl ?_)
  refine wpAny_bind (wpAny_pure (wpAny_pure ?_))
  refine ⟨plainId_quiet F.excBase_ValueError.init.plain _, codeAny_builtin F.excBase_ValueError.initEntry ?_⟩
  exact exc_init_tree (cls := .ref C) (t0 := t0) (dv := none) (c2 := .none) (c3 := .none) (b4 := .bool false) he hrest fun h' k e' _ => hq h' _ k e'
end
section
variable {prog : Program} {w : World} {A : Around} {E : Value → Shared → Prop} {R : Result → Shared → Prop} {s : Shared} {K : Frag} {mg mb : Str → Option Value} {C fI : Addr} {cn f : Str}
theorem err_init (T : ErrTxt prog K mg cn f C fI) {x t0 : Addr} {v : Value} (X : K.In s.heap) (hg : s.heap.Ns mainGlobals mg) (hb : s.heap.Ns builtinsNs mb) (hbb : ∀ x : Str, x ≠ "__name__" → mb x = bootBuiltins x) (hlim : s.heap.NoLimit) (hx : s.heap.get? x = some (excO C t0)) (hnx : K.lookup x = none) (hroom : A.depth < recursionLimit)
    (hq : ∀ h' tk dx t1, InitEnd s.heap h' x C dx t1 f v → R (.ok (.ret .none)) { s with heap := h', toks := tk }) :
    codeAny (model prog w) A (.call (.ref fI) ⟨[.ref x, v], []⟩) R s := by
  obtain ⟨oc, od, doc, pm, an, cda, ct, osl, p1, p2, m, j, a1, a2, a3, a4, a5, a6, q1, q2, q3, q4, cc, q, ccl, cdd, vs, ccs, file, tf, cl, cld, csl, ho, hcd, hcode, hvs, hfile, hcell, hbind, hev⟩ := T.fn
  obtain ⟨nm, qq, N, bs, bm, sn, sub, ab, col, dd, k0, k1, k2, k3, k5, hC, hbm, hal⟩ := T.cls
  have hcl : clsIn K C = some { name := nm, bases := bs, mro := .ref C :: bm, ns := N, qualname := qq, hasDict := true, slotNames := sn, subclasses := sub, abstract := ab, collection := col, hasDel := false } := by unfold clsIn; rw [hC] <;> rfl
  refine ks_codeAny_call_defAt (fd := ksFn "__init__" q (iA f p1 p2) (iB f m j a1 a2 a3 a4 a5 a6 q1 q2 q3 q4) (iS f) .none .none doc pm an (.ref cda) ct cc) (body := iB f m j a1 a2 a3 a4 a5 a6 q1 q2 q3 q4) (binds := [("self", .ref x), (f, v)])
    hroom (X _ _ ho) rfl hlim (codeRec_of X hcd) rfl (hbind s (.ref x) v) ?_ ?_ (fun h₁ hns k => ?_)
  · intro y hy
    have : y ∈ [(("self" : Str), NameKind.local), (f, NameKind.local), (("__class__" : Str), NameKind.free), (("super" : Str), NameKind.globalImplicit)] := hy
    simp only [List.mem_cons, List.not_mem_nil, or_false] at this
    rcases this with rfl | rfl | rfl | rfl <;> exact fun z => NameKind.noConfusion z
  · intro y hy
    have hf : (f == ("self" : Str)) = false := by simpa using T.fs
    rcases List.mem_cons.mp hy with rfl | hy
    · rfl
    · have : y = (f, v) := by simpa using hy
      subst this
      show List.lookup f [(("self" : Str), NameKind.local), (f, NameKind.local), (("__class__" : Str), NameKind.free), (("super" : Str), NameKind.globalImplicit)] = some .local
      simp [List.lookup, hf]
  · have hfb : (("self" : Str) == f) = false := by
      have := T.fs
      simpa using fun z : ("self" : Str) = f => this z.symm
    have hm1 : ([(("self" : Str), Value.ref x), (f, v)] : List (Str × Value)).reverse.lookup f = some v := by
      show List.lookup f [(f, v), (("self" : Str), Value.ref x)] = some v
      simp [List.lookup]
    have hm2 : ([(("self" : Str), Value.ref x), (f, v)] : List (Str × Value)).reverse.lookup ("self" : Str) = some (Value.ref x) := by
      show List.lookup ("self" : Str) [(f, v), (("self" : Str), Value.ref x)] = some (Value.ref x)
      simp [List.lookup, hfb]
    have hfb' : (f == ("self" : Str)) = false := by simpa using T.fs
    have hkf : (iS f).names.lookup f = some .local := by
      show List.lookup f [(("self" : Str), NameKind.local), (f, NameKind.local), (("__class__" : Str), NameKind.free), (("super" : Str), NameKind.globalImplicit)] = some .local
      simp [List.lookup, hfb']
    have hks : (iS f).names.lookup ("super" : Str) = some .globalImplicit := by
      have h1 : (("super" : Str) == f) = false := by simpa using fun z : ("super" : Str) = f => T.fu z.symm
      have h2 : (("super" : Str) == ("self" : Str)) = false := by decide +kernel
      have h3 : (("super" : Str) == ("__class__" : Str)) = false := by decide +kernel
      show List.lookup ("super" : Str) [(("self" : Str), NameKind.local), (f, NameKind.local), (("__class__" : Str), NameKind.free), (("super" : Str), NameKind.globalImplicit)] = some .globalImplicit
      simp [List.lookup, h1, h2, h3]
    have hkc : (iS f).names.lookup ("__class__" : Str) = some .free := by
      have h1 : (("__class__" : Str) == f) = false := by simpa using fun z : ("__class__" : Str) = f => T.fc z.symm
      have h2 : (("__class__" : Str) == ("self" : Str)) = false := by decide +kernel
      show List.lookup ("__class__" : Str) [(("self" : Str), NameKind.local), (f, NameKind.local), (("__class__" : Str), NameKind.free), (("super" : Str), NameKind.globalImplicit)] = some .free
      simp [List.lookup, h1, h2]
    have hxL : s.heap.objs.size ≠ x := Nat.ne_of_gt (Heap.lt_size hx)
    have X₁ : K.In h₁ := X.keeps k
    have hx₁ := k _ _ hx
    have hD1 : h₁.get? C = some _ := X₁ _ _ hC
    show _root_.PySem.wpAt (model prog w) _ (.func (iB f m j a1 a2 a3 a4 a5 a6 q1 q2 q3 q4) (ksEnv q (iS f) s.heap.objs.size fI (.ref cda) cc)) (execs (iB f m j a1 a2 a3 a4 a5 a6 q1 q2 q3 q4) (ksEnv q (iS f) s.heap.objs.size fI (.ref cda) cc)) _ _ _
    obtain ⟨pl, hpl⟩ := hev (ksEnv q (iS f) s.heap.objs.size fI (.ref cda) cc)
    refine ks_wpAt_execs_cons (ks_wpAt_Expr_any (ks_wpAt_MethodCall (he := hpl) (ks_wpAt_super_base (env := ksEnv q (iS f) s.heap.objs.size fI (.ref cda) cc) hks hkc (by decide) rfl (X₁ _ _ ho) rfl (ar := { arg := "self", annotation := none, pos := p1 }) rfl rfl (X₁ _ _ hcode) rfl hvs hfile T.htop ?_)))
    refine ks_loadName_global rfl hks (loadGlobal_builtin (env := ksEnv q (iS f) s.heap.objs.size fI (.ref cda) cc) (hg.keeps k) T.mS (hb.keeps k) ((hbb _ (by decide +kernel)).trans (by decide +kernel)) ⟨rfl, ?_⟩)
    refine wpAny_loadName_free rfl hkc rfl ⟨_, X₁ _ _ hcell, rfl⟩ ?_
    refine wpAny_loadName_local rfl rfl hns hm2 ?_
    refine ks_wpAny_isType_cls hD1 rfl ⟨rfl, ?_⟩
    refine ks_wpAny_call_super hD1 rfl hx₁ rfl (fun c e => nomatch e) (looks_mroIn X₁ T.miC) (fun h₂ e₂ k₂ => ?_)
    have X₂ : K.In h₂ := X₁.keeps k₂
    have hx₂ := k₂ _ _ hx₁
    have I₂ : InstAt h₂ x (excO C t0) C none := ⟨hx₂, rfl, rfl, trivial⟩
    refine kxs_getMethod kxs_ValueError e₂ (looks_opaque X₂ T.op) (l₀ := .ref C :: bm) (fun A Q E s k q => wpAny_bind ((looks_clsIn X₂ hcl) A _ E s k (wpAny_pure q))) (by simp [List.dropWhile_cons]) X₂ hal (I₂.type.andThen (looks_subIn X₂ T.veC)) (ks_ne X₂ I₂ hcl) (by decide) ?_
    have k₃ : ∀ b o, h₂.get? b = some o → (h₂.push (kxs_mw "ValueError.__init__" x)).get? b = some o := fun b o e => Heap.get?_push_of_some _ e
    have hu₃ : (h₂.push (kxs_mw "ValueError.__init__" x)).get? h₂.objs.size = some (kxs_mw "ValueError.__init__" x) := Heap.get?_push_at rfl rfl
    refine kxs_callWith (i := "ValueError.__init__") (x := x) rfl ?_
    refine evalArgs_plain ?_
    show wpAny _ _ (spliced ((false, eval (.Constant (.str m) j a4) (ksEnv q (iS f) s.heap.objs.size fI (.ref cda) cc)) :: backTo a5 (starEach [] (ksEnv q (iS f) s.heap.objs.size fI (.ref cda) cc)))) _ _ _
    refine Calls.spliced_cons (Calls.Constant_str ?_)
    refine Calls.spliced_nil ⟨hu₃, ?_⟩
    have hx₃ := k₃ _ _ hx₂
    have hC₃ := k₃ _ _ (X₂ _ _ hC)
    refine call_mw hC₃ hx₃ hu₃ (one_size _) (fun h₄ t1 k₄ hx₄ => ?_)
    have k04 : ∀ b o, b ≠ x → h₁.get? b = some o → h₄.get? b = some o := fun b o hb e => k₄ b o hb (k₃ b o (k₂ b o e))
    have X₄ : K.In h₄ := fun b o e => k04 b o (fun z => by rw [z, hnx] at e; cases e) (X₁ b o e)
    obtain ⟨oL, es, ep, hL, hLr⟩ := hns
    have hns₄ : h₄.Ns s.heap.objs.size (fun y => ([(("self" : Str), Value.ref x), (f, v)] : List (Str × Value)).reverse.lookup y) := ⟨oL, es, ep, k04 _ _ hxL hL, hLr⟩
    show _root_.PySem.wpAt (model prog w) _ _ (execs _ _) _ _ _
    refine ks_wpAt_execs_cons (ks_wpAt_Assign_Attr ?_)
    refine wpAt_of_wpAny ?_
    refine wpAny_Name (wpAny_loadName_local (env := ksEnv q (iS f) s.heap.objs.size fI (.ref cda) cc) rfl hkf hns₄ hm1 ?_) T.fg
    refine wpAny_Name (wpAny_loadName_local (env := ksEnv q (iS f) s.heap.objs.size fI (.ref cda) cc) rfl rfl hns₄ hm2 ?_) (by decide)
    refine set_plain X₄ (ox := excO C t1) (od := none) ⟨hx₄, rfl, rfl, trivial⟩ T.sa ?_
    refine exc_osa X₄ hx₄ hcl (show refsVE (.ref C :: bm) = true from hbm) rfl T.noN (fun h₅ tk₅ dx k₅ dn dne hx₅ hn₅ => ?_)
    show _root_.PySem.wpAt (model prog w) _ _ (execs [] _) _ _ _
    have z : s.heap.objs.size < h₄.objs.size := hns₄.lt
    exact wpAt_of_wpAny (wpAny_execs_nil (hq h₅ tk₅ dx t1 ⟨fun b o hb e => k₅ b o hb (k04 b o hb (k b o e)), hx₅, Nat.le_of_lt (Nat.lt_of_lt_of_le z dn), dne, hn₅⟩))
theorem err_made (T : ErrTxt prog K mg cn f C fI) {v : Value} (X : K.In s.heap) (hg : s.heap.Ns mainGlobals mg) (hb : s.heap.Ns builtinsNs mb) (hbb : ∀ x : Str, x ≠ "__name__" → mb x = bootBuiltins x) (hlim : s.heap.NoLimit) (hroom : A.depth + 1 < recursionLimit)
    (hq : ∀ h' tk e d, OwnMade s.heap h' e C d f v → R (.ok (.ret (.ref e))) { s with heap := h', toks := tk }) :
    codeAny (model prog w) A (.call (.ref C) ⟨[v], []⟩) R s := by
  obtain ⟨nm, q, N, bs, bm, sn, sub, ab, col, dd, k0, k1, k2, k3, k5, hC, hbm, hal⟩ := T.cls
  obtain ⟨hp, g, dr, tk, os⟩ := s
  have k : ∀ b o, hp.get? b = some o → ((hp.push (kdv_tup [v])).push (excO C hp.objs.size)).get? b = some o := fun b o e => Heap.get?_push_of_some _ (Heap.get?_push_of_some _ e)
  have hget : ((hp.push (kdv_tup [v])).push (excO C hp.objs.size)).get? (hp.objs.size + 1) = some (excO C hp.objs.size) := by heap_get
  have hnx : K.lookup (hp.objs.size + 1) = none := by
    cases e : K.lookup (hp.objs.size + 1) with
    | none => rfl
    | some o =>
      have z : hp.get? (hp.objs.size + 1) = some o := X _ _ e
      exact absurd (Nat.lt_of_succ_lt (Heap.lt_size z)) (Nat.lt_irrefl _)
  refine call_own F.excBase_ValueError (fun X => refsVE_contains X bm hbm) (X _ _ hC) (looks_findIn X T.iC) (fun self => bind_fn X self T.tC) (one_size v) ?_
  refine err_init (s := ⟨(hp.push (kdv_tup [v])).push (excO C hp.objs.size), g, dr, tk, os⟩) T (X.keeps k) (hg.keeps k) (hb.keeps k) hbb (hlim.keeps k) hget hnx ?_ fun h' tk' dx t1 ⟨k', hx, dn, dne, hns⟩ => ?_
  · show A.depth + 1 < recursionLimit
    exact hroom
  · have old : ∀ b o, hp.get? b = some o → h'.get? b = some o := fun b o e => k' b o (Nat.ne_of_lt (Nat.lt_succ_of_lt (Heap.lt_size e))) (k b o e)
    have z : hp.objs.size + 1 + 1 ≤ dx := by
      first
        | (simpa only [Heap.size_push] using dn)
        | exact dn
        | (have q := dn; rw [Heap.size_push, Heap.size_push] at q; exact q)
    exact ⟨rfl, hq h' tk' (hp.objs.size + 1) dx ⟨old, Nat.le_succ _, ⟨t1, hx⟩, Nat.le_trans (Nat.le_trans (Nat.le_succ _) (Nat.le_succ _)) z, dne, hns⟩⟩
end
end ErrX
end PySem
namespace G
open PySem PySem.Spec PyProof.Rows L2
theorem relO_one {f : Str} {v : V} {v' : Value} (r : RelV v v') (y : Str) : RelO (List.lookup y [(f, v)]) (if y = f then some v' else none) := by
  by_cases hw : y = f
  · subst hw
    rw [if_pos rfl]
    have q : List.lookup y [(y, v)] = some v := by simp [List.lookup]
    rw [q]
    exact r
  · rw [if_neg hw]
    have qw : (y == f) = false := by simpa using hw
    have q2 : List.lookup y [(f, v)] = none := by simp [List.lookup, qw]
    rw [q2]
    trivial
section
variable {X : Cx} {C fI : Addr} {cn f : Str}
/-- cn(e) -/
def mkE (C : Addr) (f : Str) (vs : List V) (H : Hp) (Q : XK) : Prop := ∃ v, vs = [v] ∧ ∀ d, H d = none → Q (.ref C) (some d) (upd H d (.xd [(f, v)]))
def tMkE (C : Addr) (f : Str) (ta : TA) : L2.St → Hp → XK → Prop := fun σ H Q => ta σ H fun vs H1 => mkE C f vs H1 Q
theorem pmk_err {a : Expr} {ta : TA} {p pos : Pos} {k : Nat} (T : PySem.ErrX.ErrTxt X.prog X.K X.mg cn f C fI) (hr : Room k X.A) (ha : PA X [a] ta) (hg : Gl X cn)
    (hdb : (cn == ("__debug__" : Str)) = false := by decide) (he : starEach (a :: []) X.env = (false, eval a X.env) :: starEach [] X.env := by rfl) (hpl : (backTo pos (starEach [] X.env)).any (·.1) = false := by rfl) :
    PMk X (.Call (.Name cn p) [a] [] pos) (tMkE C f ta) := by
  intro pins s σ H Q I h
  refine wpAny_Call_Name_kw (ld_glob I hg T.gC ?_ hdb)
  refine PySem.W.callWith_K (h₀ := X.base) I.ok.mod.kin T.kC (thn (ha.run pos pins s σ H _ I h) fun us s1 hh => ?_) he hpl
  obtain ⟨vs, H1, I1, r1, v, ev, q1⟩ := hh
  subst ev
  refine ⟨I1.kIn, ?_⟩
  cases r1 with
  | cons rv rn =>
    rename_i v' us'
    cases rn
    show wpAny _ _ (call (.ref C) [v']) _ _ _
    have hlim := I1.nolimit
    obtain ⟨mb, hmb, hbb⟩ := I1.mod.blt
    have hgl : s1.heap.Ns mainGlobals X.mg := I1.mod.glob.keeps I1.bk
    have hbl : s1.heap.Ns builtinsNs mb := hmb.keeps I1.bk
    obtain ⟨hp, g, dr, tk, os⟩ := s1
    refine wpAny_call (PySem.ErrX.err_made T I1.kIn hgl hbl hbb hlim (by have := hr.dp; omega) fun h' tk' e d M => ?_)
    show MkP X pins σ Q (.ref e) ⟨h', g, dr, tk', os⟩
    obtain ⟨t1, hoe⟩ := M.obj
    have hns := M.ns
    obtain ⟨G', g1, g2⟩ := restrict h' fun b => decide (b ≠ e)
    have gk : ∀ b, b ≠ e → G'.get? b = h'.get? b := fun b hb => g1 b (decide_eq_true hb)
    have ge : G'.get? e = none := g2 e (by simp)
    have old : ∀ b o, hp.get? b = some o → G'.get? b = some o := fun b o q => (gk b (Nat.ne_of_lt (Nat.lt_of_lt_of_le (Heap.lt_size q) M.new))).trans (M.keep b o q)
    have ob : ObjOk X.prog X.w (upd H1 d (.xd [(f, v)])) G' d (.xd [(f, v)]) :=
      ⟨_, hns.at (fun o q => (gk d M.dne).trans q), fun y => relO_one rv y⟩
    have J : Inv X pins σ (upd H1 d (.xd [(f, v)])) ⟨G', g, dr, tk', os⟩ := I1.laid (t' := tk') old M.dbig ob
    refine ⟨e, _, _, ⟨G', g, dr, tk', os⟩, _, .ref C, some d, rfl, J, fun b o q => ?_, ge, hoe, ⟨rfl, rfl⟩, rfl, rfl, ?_, rfl, I1.bare, raises_own T.exC T.tyC, q1 d (I1.hok.fresh M.dbig)⟩
    · by_cases hb : b = e
      · have q' : G'.get? b = some o := q
        rw [hb, ge] at q'; cases q'
      · exact (gk b hb).symm.trans q
    · rw [upd_ne (Ne.symm M.dne)]
      exact I1.hok.fresh M.new
/-- raise cn(e) -/
def tRaiseE (C : Addr) (f : Str) (W : WX) (ta : TA) : TS := fun _ σ H => ta σ H fun vs H1 => mkE C f vs H1 fun cls d H' => W cls d σ H'
theorem ps_raiseE {a : Expr} {ta : TA} {W : WX} {p pos pos2 : Pos} {k : Nat} (hc : X.calm = true) (T : PySem.ErrX.ErrTxt X.prog X.K X.mg cn f C fI) (hr : Room k X.A) (tk : Takes X W) (ha : PA X [a] ta) (hg : Gl X cn)
    (hdb : (cn == ("__debug__" : Str)) = false := by decide) (he : starEach (a :: []) X.env = (false, eval a X.env) :: starEach [] X.env := by rfl) (hpl : (backTo pos (starEach [] X.env)).any (·.1) = false := by rfl) :
    PS X (.Raise (some (.Call (.Name cn p) [a] [] pos)) none pos2) (tRaiseE C f W ta) := ps_raise hc tk (pmk_err T hr ha hg hdb he hpl)
/-- e.f, e the exception that the suite holds (at a; its class cls, its dict d) -/
def tGetE (C : Addr) (f : Str) (a : Addr) (cls : Value) (d : Option Addr) (te : TE) : TE := fun σ H Q => te σ H fun x H1 => x = .ref a ∧ cls = .ref C ∧ ∃ (dd : Addr) (v : V), d = some dd ∧ H1 dd = some (.xd [(f, v)]) ∧ Q v H1
theorem pe_getE {a : Addr} {oe : Obj} {cls : Value} {d : Option Addr} {pn : List (Addr × Obj)} {e : Expr} {te : TE} {pos : Pos} (T : PySem.ErrX.ErrTxt X.prog X.K X.mg cn f C fI) (hz : Zc cls d oe) (hf : ∃ vs, oe.data = .fields vs) (he : PE (X.suite a ((a, oe) :: pn)) e te)
    (hb : attributeBase e f X.env (eval e X.env) = eval e X.env := by rfl) :
    PE (X.suite a ((a, oe) :: pn)) (.Attribute e f pos) (tGetE C f a cls d te) := by
  refine ⟨fun pins s σ H Q I h => ?_⟩
  refine attr_of hb (thn (he.run pins s σ H _ I h) fun u s1 hh => ?_)
  obtain ⟨x, H1, I1, rx, ex, ec, dd, v, ed, ea, q⟩ := hh
  subst ex
  obtain rfl : u = Value.ref a := rx
  subst ec
  subst ed
  obtain ⟨ha, _⟩ := I1.pin (a, oe) (List.mem_append_left _ List.mem_cons_self)
  obtain ⟨vs, hd⟩ := hf
  have hx : ObjOk X.prog X.w H1 s1.heap dd (.xd [(f, v)]) := I1.hok dd _ ea
  obtain ⟨mA, hns, hr⟩ := hx
  obtain ⟨od, ho, hl⟩ := lookIn_ns hns
  have l : List.lookup f [(f, v)] = some v := by simp [List.lookup]
  obtain ⟨u, hu, ru⟩ := RelO.some_of (v := v) (o := mA f) (by rw [← l]; exact hr f)
  have J : PySem.W.InstAt s1.heap a oe C (some od) := ⟨ha, hz.1, by unfold PySem.W.notCls; rw [hd] <;> rfl, by rw [hz.2]; exact ho⟩
  exact HandSPX.exc_get I1.kIn J T.ga T.gg T.exC (PySem.W.findObj_own T.hdC T.noN rfl (by rw [hl, hu])) (handed_of ru) ⟨v, H1, I1.tok _, ru, q⟩
end
end G

set_option Elab.async false
set_option linter.all false
set_option maxRecDepth 100000
set_option maxHeartbeats 3900000
/-! try, with except clauses of both kinds (with a name, without one), clause by clause: `Deals` is what a list of clauses makes of an exception that has come down at this frame -/
namespace G
open PySem Spec PyProof.Rows L2
abbrev SuiteT := Addr → Value → Option Addr → TS
/-- the name of the clause goes at every end of its suite but a return -/
def endsAs (D : Ends) (i : Nat) : Ends where
  nx σ H := D.nx (σ.set i none) H
  rt := D.rt
  bk σ H := D.bk (σ.set i none) H
  ct σ H := D.ct (σ.set i none) H
/-- the exception a has come down: `sI` is the state before it, `s` the one with its objects, `B` what stayed -/
structure Caught (X : Cx) (pins : List (Addr × Obj)) (σ : L2.St) (H : Hp) (cls : Value) (d : Option Addr) (a : Addr) (B : Heap) (sI s : Shared) : Prop where
  was : Inv X pins σ H sI
  stay : ∀ b o, sI.heap.get? b = some o → b ∉ frs X.stack → B.get? b = some o
  rise : sI.heap.UpToSlots s.heap
  down : HandSPX.FlyingZ B (X.env :: X.outer) a (Zc cls d) s.heap
  free : H a = none
  same : s.os = sI.os
  calm : AllBare s.gens
section
variable {X : Cx} {pins : List (Addr × Obj)} {σ : L2.St} {H : Hp} {cls : Value} {d : Option Addr} {a : Addr} {B : Heap} {sI s : Shared} {D : Ends} {W : WX}
theorem Caught.here (c : Caught X pins σ H cls d a B sI s) : Inv X pins σ H s := c.was.landed c.stay c.down.1 c.rise c.same c.calm
theorem Caught.to (c : Caught X pins σ H cls d a B sI s) {h : Heap} (f : HandSPX.FlyingZ B (X.env :: X.outer) a (Zc cls d) h) (u : s.heap.UpToSlots h) : Caught X pins σ H cls d a B sI { s with heap := h } where
  was := c.was
  stay := c.stay
  rise := c.rise.trans u
  down := f
  free := c.free
  same := c.same
  calm := c.calm
theorem Caught.away (c : Caught X pins σ H cls d a B sI s) : a ∉ frs (X.env :: X.outer) := by
  intro m
  obtain ⟨o, vs, e, _, k⟩ := c.down.there
  obtain ⟨_, o2, e2, no⟩ := c.down.2.2.1.mem m
  exact no vs (by rw [e] at e2; cases e2; exact k)
/-- the state of the suite, with the exception pinned -/
theorem Caught.inner (hf : X.env.frame = some X.env.locals) (c : Caught X pins σ H cls d a B sI s) :
    ∃ oe vs, Zc cls d oe ∧ oe.data = .fields vs ∧ s.heap.get? a = some oe ∧ Inv (X.suite a ((a, oe) :: (X.pn ++ pins))) [] σ H s := by
  obtain ⟨o, vs, e, z, k⟩ := c.down.there
  have far := c.away
  refine ⟨o, vs, z, k, e, c.here.suite e k c.free ?_ ?_⟩
  · intro q
    apply far
    rw [frs, List.filterMap_cons, hf, q]
    exact List.mem_cons_self
  · intro q
    apply far
    rw [frs, List.filterMap_cons, hf]
    exact List.mem_cons_of_mem _ q
/-- what a list of clauses does -/
def Deals (X : Cx) (pins : List (Addr × Obj)) (D : Ends) (hds : List ExceptHandler) (W : WX) : Prop :=
  ∀ σ H cls d a B sI s, Caught X pins σ H cls d a B sI s → W cls d σ H → wpAny (model X.prog X.w) X.A (handleBy (.ref a) X.env hds) (SP X pins D) X.xe s
/-- no clause is left: it goes on -/
theorem deals_nil (hs : X.stack = X.env :: X.outer) (hf : X.env.frame = some X.env.locals) (tk : Takes X W) : Deals X pins D [] W := by
  intro σ H cls d a B sI s c w
  have up : wpAny (model X.prog X.w) X.A (setFlight (.ref a) X.env.frame) (fun _ s' => wpAny (model X.prog X.w) X.A (throw (.ref a) : Sem Flow) (SP X pins D) X.xe s') X.xe s := by
    rw [hf]
    apply HandSPX.setFlight_upZ c.down
    intro h hold hup
    apply wpAny_throw
    apply tk
    have fly : Sky B X.stack a (Zc cls d) X.env.locals h := Or.inr (Or.inr (hs ▸ hold))
    exact ⟨a, B, sI, pins, σ, H, cls, d, rfl, c.was, c.stay, c.rise.trans hup, fly, c.free, c.same, c.calm, w⟩
  apply wpAny_handleBy_nil
  obtain ⟨_, _, _, o, vs, T, _, _, e, _, k, one, _⟩ := id c.down
  unfold PySem.passOn
  apply wpAny_bind
  apply wpAny_field e k one
  have nn : ¬ ((Value.ref T == Value.none) = true) := by simp
  rw [if_neg nn]
  first
    | exact wpAny_bind up
    | exact wpAny_bind (wpAny_pure (wpAny_bind up))
/-- the class of a clause is looked up, and asked -/
theorem Caught.ask (hf : X.env.frame = some X.env.locals) (c : Caught X pins σ H cls d a B sI s) {x : Str} {C : Value} {np : Pos} {b : Bool} (hc : Names X x C) (hb : PySem.W.exmOne X.K cls C = some b)
    {Q : Bool → Shared → Prop} {E E' : Value → Shared → Prop} (q : Q b s) :
    wpAny (model X.prog X.w) (X.A.mark (some (.ref a))) (eval (.Name x np) X.env) (fun v s' => wpAny (model X.prog X.w) (X.A.mark (some (.ref a))) (excMatches (.ref a) v) Q E' s') E s := by
  obtain ⟨o, vs, z, k, e, J⟩ := c.inner hf
  have kind : PySem.W.Looks (model X.prog X.w) s.heap (typeOf (.ref a)) cls := by
    intro A Q E s' keep q'
    apply wpAny_typeOf_ref (keep a o e)
    rw [z.1]
    exact q'
  have fits := (PySem.W.exm_one (M := model X.prog X.w) c.here.kIn kind hb).here (A := X.A.mark (some (.ref a))) (E := E') q
  obtain ⟨g, db, m | ⟨m, v, nn⟩⟩ := hc
  · exact ld_glob (X := X.suite a ((a, o) :: (X.pn ++ pins))) J g m fits db
  · exact ld_blt (X := X.suite a ((a, o) :: (X.pn ++ pins))) J g m v fits nn db
/-- a clause's suite, as the rules of suites have it -/
def SuiteOk (X : Cx) (body : List Stmt) (ts : SuiteT) : Prop :=
  ∀ (a : Addr) (oe : Obj) (cls : Value) (d : Option Addr) (pn : List (Addr × Obj)), Zc cls d oe → (∃ vs, oe.data = .fields vs) → PSs (X.suite a ((a, oe) :: pn)) body (ts a cls d)
/-- what a clause wishes: its class tells, then its suite, or the other clauses -/
def wOne (K : PySem.W.Frag) (C : Value) (yes no : WX) : WX := fun cls d σ H => ∃ b, PySem.W.exmOne K cls C = some b ∧ if b then yes cls d σ H else no cls d σ H
theorem deals_bare (hf : X.env.frame = some X.env.locals) {x : Str} {C : Value} {np p : Pos} {b₀ : Stmt} {body : List Stmt} {ts : SuiteT} {rest : List ExceptHandler} (hc : Names X x C) (hsu : SuiteOk X (b₀ :: body) ts)
    (hr : Deals X pins D rest W) : Deals X pins D (.ExceptHandler (some (.Name x np)) none (b₀ :: body) p :: rest) (wOne X.K C (fun cls d σ H => ∀ a, H a = none → ts a cls d D σ H) W) := by
  rintro σ H cls d a B sI s c ⟨b, hb, w⟩
  have ok := c.was.ok
  refine wpAny_handleBy_cons ?_ fun z => by cases z
  apply codeAny_handlers_test
  apply c.ask hf hc hb
  cases b
  · exact hr _ _ _ _ _ _ _ _ c w
  · apply codeAny_handlers_suite
    apply HandSPX.lands_againZ c.down
    intro h fly rise
    obtain ⟨o, vs, z, k, e, J⟩ := (c.to fly rise).inner hf
    have go := (hsu a o cls d (X.pn ++ pins) z ⟨vs, k⟩).run [] _ σ H D J (w a c.free)
    refine wpAny_mono go (fun f s' r => ?_) (fun _ _ z => False.elim z)
    rcases f with _ | _ | _ | v
    all_goals first
      | (obtain ⟨_, _, J, q⟩ := r
         exact ⟨_, _, J.unsuite ok, q⟩)
      | (obtain ⟨_, _, _, J, q⟩ := r
         exact ⟨_, _, _, J.unsuite ok, q⟩)
theorem deals_as (hf : X.env.frame = some X.env.locals) (hN : X.N.Nodup) {x n : Str} {i : Nat} {C : Value} {np p : Pos} {b₀ : Stmt} {body : List Stmt} {ts : SuiteT} {rest : List ExceptHandler}
    (hi : X.N[i]? = some n) (hl : X.env.kindOf n = some .local) (hc : Names X x C) (hsu : SuiteOk X (b₀ :: body) ts)
    (hr : Deals X pins D rest W) : Deals X pins D (.ExceptHandler (some (.Name x np)) (some n) (b₀ :: body) p :: rest)
      (wOne X.K C (fun cls d σ H => ∀ a, H a = none → ts a cls d (endsAs D i) (σ.set i (some (.ref a))) H) W) := by
  rintro σ H cls d a B sI s c ⟨b, hb, w⟩
  have ok := c.was.ok
  refine wpAny_handleBy_cons ?_ fun z => by cases z
  apply codeAny_handlers_test
  apply c.ask hf hc hb
  cases b
  · exact hr _ _ _ _ _ _ _ _ c w
  · apply codeAny_handlers_suite_as
    apply HandSPX.lands_againZ c.down
    intro h fly rise
    obtain ⟨o, vs, z, k, e, J⟩ := (c.to fly rise).inner hf
    refine store_ok (X := X.suite a _) (v := V.ref a) J hN hi (.inl hl) rfl ?_ (.inr hl)
    intro s1 J1
    have go := (hsu a o cls d (X.pn ++ pins) z ⟨vs, k⟩).run [] s1 _ H (endsAs D i) J1 (w a c.free)
    refine wpAny_mono go (fun f s' r => ?_) (fun _ _ z => False.elim z)
    rcases f with _ | _ | _ | v
    all_goals first
      | (obtain ⟨σ2, H2, J2, q⟩ := r
         exact gone_ok (J2.unsuite ok) hN hi hl fun _ J3 => ⟨_, _, J3, q⟩)
      | (obtain ⟨v2, σ2, H2, J2, rv, q⟩ := r
         exact gone_ok (J2.unsuite ok) hN hi hl fun _ J3 => ⟨_, _, _, J3, rv, q⟩)
end
section
variable {X : Cx} {body : List Stmt} {h₀ : ExceptHandler} {hds : List ExceptHandler} {pos : Pos} {tb : WX → TS} {W : Ends → WX}
/-- the whole: a body that may throw, and clauses that deal with it -/
theorem ps_tryD (hs : X.stack = X.env :: X.outer) (hf : X.env.frame = some X.env.locals)
    (hb : ∀ (V : WX) (pn : List (Addr × Obj)) (xe : Value → Shared → Prop), Takes (X.tr pn xe) V → PassesOwn (model X.prog X.w) X.A X.env xe → PSs (X.tr pn xe) body (tb V))
    (hh : ∀ pins D, Deals X pins D (h₀ :: hds) (W D)) : PS X (.Try body (h₀ :: hds) [] [] pos) (fun D σ H => tb (W D) D σ H) := by
  constructor
  intro pins s σ H D I h
  have ok := I.ok
  have fr : X.A.frames = some (X.env :: X.outer) := ok.frames.trans (congrArg some hs)
  apply wpAny_Try_except
  let Ebody : Value → Shared → Prop := fun e s₁ => wpAny (model X.prog X.w) X.A (noteFrame e X.env) (fun _ s₂ => wpAny (model X.prog X.w) X.A (setFlight e none)
    (fun _ s₃ => wpAny (model X.prog X.w) X.A (handleBy e X.env (h₀ :: hds)) (SP X pins D) X.xe s₃) X.xe s₂) X.xe s₁
  have takes : Takes (X.tr (X.pn ++ pins) Ebody) (W D) := by
    rintro u s' ⟨a, B, sI, _, σ', H', cls, d, rfl, J, stay, rise, fly, free, same, calm, w⟩
    have fly' : Sky B (X.env :: X.outer) a (Zc cls d) X.env.locals s'.heap := hs ▸ fly
    show wpAny (model X.prog X.w) X.A (noteFrame (.ref a) X.env) _ _ s'
    apply Sky.land Zc.steady fr hf fly'
    intro h down up
    exact hh pins D σ' H' cls d a B sI _ ⟨J.ofTry ok, stay, rise.trans up, down, free, same, calm⟩ w
  have run := (hb (W D) (X.pn ++ pins) Ebody takes PassesOwn.looking).run [] s σ H D (I.toTry Ebody) h
  refine wpAny_mono run (fun f s' r => ?_) (fun _ _ z => z)
  rcases f with _ | _ | _ | v
  all_goals first
    | (obtain ⟨_, _, J, q⟩ := r
       exact ⟨_, _, J.ofTry ok, q⟩)
    | (obtain ⟨_, _, _, J, q⟩ := r
       exact ⟨_, _, _, J.ofTry ok, q⟩)
    | (obtain ⟨_, _, J, q⟩ := r
       exact wpAny_execs_nil ⟨_, _, J.ofTry ok, q⟩)
end
end G

set_option Elab.async false
set_option linter.all false
set_option maxRecDepth 100000
set_option maxHeartbeats 3900000
/-! a lambda of one parameter as an argument: the callee is told of it over a base that is taken anew at the call, with all that is untracked and no frame; the lambda lies in that base -/
namespace G
open PySem Spec PyProof.Rows L2
/-- the base taken anew -/
def baseAt (X : Cx) (s : Shared) (H : Hp) : Heap := PySem.W.hideAll s.heap (trk s.heap H ++ frs X.stack)
section
variable {X : Cx} {pins : List (Addr × Obj)} {σ : L2.St} {H : Hp} {s : Shared} {b : Addr} {o : Obj}
theorem baseAt_get (e : s.heap.get? b = some o) (n : H b = none) (hb : b ∉ frs X.stack) : (baseAt X s H).get? b = some o := by
  apply PySem.W.hideAll_get _ e
  intro m
  rcases List.mem_append.mp m with m | m
  · have q : (H b).isSome = true := (List.mem_filter.mp m).2
    rw [n] at q
    cases q
  · exact hb m
theorem of_baseAt (e : (baseAt X s H).get? b = some o) : s.heap.get? b = some o ∧ H b = none := by
  have e1 := PySem.W.of_hideAll _ e
  refine ⟨e1, ?_⟩
  cases q : H b with
  | none => rfl
  | some u =>
    have m : b ∈ trk s.heap H ++ frs X.stack := List.mem_append_left _ (List.mem_filter.mpr ⟨List.mem_range.mpr (Heap.lt_size e1), by rw [q]; rfl⟩)
    rw [baseAt, PySem.W.hideAll_none _ m] at e
    cases e
theorem baseAt_ext (I : Inv X pins σ H s) (e : X.base.get? b = some o) : (baseAt X s H).get? b = some o := by
  obtain ⟨h1, h2⟩ := I.bs b o e
  refine baseAt_get h1 h2 fun m => ?_
  have z := (I.stack.mem m).1
  rw [e] at z
  cases z
theorem mod_up {K : PySem.W.Frag} {mg : Str → Option Value} {B B' : Heap} (m : Mod K mg B) (k : ∀ b o, B.get? b = some o → B'.get? b = some o) : Mod K mg B' := by
  obtain ⟨m1, m2, ⟨mb, m3, m4⟩, m5⟩ := m
  exact ⟨m1.keeps k, m2.keeps k, ⟨mb, m3.keeps k, m4⟩, m5.keeps k⟩
theorem env_at (I : Inv X pins σ H s) : Env0 X.prog X.w X.K X.mg (baseAt X s H) X.A X.stack s H where
  frames := I.ok.frames
  mod := mod_up I.ok.mod fun b o e => baseAt_ext I e
  bs := fun b o e => of_baseAt e
  bsz := Nat.le_of_eq (PySem.W.hideAll_size _ _)
  funs := funFrames_none I.stack fun L hL => PySem.W.hideAll_none _ (List.mem_append_right _ hL)
  frf := I.stkFree
  hok := I.hok
  bare := I.bare
end
/-- a def or lambda that lies in the base -/
structure InBase (P : Program) (w : World) (K : PySem.W.Frag) (mg : Str → Option Value) (base : Heap) (k : Nat) (f : Addr) (sp : Sp) : Prop where
  at_ : PySem.W.FnAt f base
  run : FnR P w K mg base (L2.CX P w) k f sp
section
variable {X : Cx} {k i : Nat} {f : Addr} {sp : Sp} {E : XK} {x : Str} {p pos : Pos} {e : Expr} {es : List Expr} {t : TA}
/-- x(e, ..), x a local that holds it -/
theorem pe_callIn (F : InBase X.prog X.w X.K X.mg X.base k f sp) (hr : Room k X.A) (hN : X.N[i]? = some x) (hv : Vis X.env.scope x) (hx : Passes (L2.CX X.prog X.w) X E) (ha : PA X (e :: es) t)
    (hdb : (x == ("__debug__" : Str)) = false := by decide) (hcd : (x == ("__classdict__" : Str)) = false := by decide)
    (he : starEach (e :: es) X.env = (false, eval e X.env) :: starEach es X.env := by rfl) (hpl : (backTo pos (starEach es X.env)).any (·.1) = false := by rfl) : PE X (.Call (.Name x p) (e :: es) [] pos) (tCallL i f sp [] E t) := by
  constructor
  rintro pins s σ H Q I ⟨hs, ht⟩
  have fnat : ∀ {s' : Shared} {H' : Hp}, Inv X pins σ H' s' → PySem.W.FnAt f s'.heap := by
    intro s' H' J
    obtain ⟨a, b, c, d, q⟩ := F.at_
    exact ⟨a, b, c, d, J.bk _ _ q⟩
  refine wpAny_Call_Name_kw (thn ((pe_var (pos := p) hN hv hdb hcd).run pins s σ H (fun v H1 => v = .ref f ∧ H1 = H) I ⟨.ref f, hs, rfl, rfl⟩) ?_)
  rintro u s1 ⟨v, H1, I1, r1, rfl, rfl⟩
  cases r1
  refine PySem.W.callWith_F (fnat I1) (thn (ha.run pos pins s1 σ _ _ I1 ht) ?_) he hpl
  rintro us s2 ⟨vs, H2, I2, r, q⟩
  rw [List.append_nil] at q
  exact ⟨fnat I2, wpAny_call (run_fnR (us := us) F.run hr hx I2 r q)⟩
end
/-! ### the lambda -/
/-- its names: the parameter, captured ones, globals -/
structure Lam1 (N : List Str) (sc scope : Scope) (p : Str) : Prop where
  kind : scope.kind = .function
  co : scope.isCoroutine = false
  gen : scope.isGenerator = false
  par : scope.names.lookup p = some .local
  own : ∀ y ∈ scope.names, (y.2 = .local → y.1 = p) ∧ y.2 ≠ .cell
  free : ∀ y ∈ scope.names, y.2 = .free → sc.names.lookup y.1 = some .cell ∨ sc.names.lookup y.1 = some .free
  new : p ∉ N
def lam1B (N : List Str) (sc scope : Scope) (p : Str) : Bool :=
  decide (scope.kind = .function) && !scope.isCoroutine && !scope.isGenerator && decide (scope.names.lookup p = some .local) && (scope.names.all fun y => (!decide (y.2 = .local) || decide (y.1 = p)) && !decide (y.2 = .cell))
    && (scope.names.all fun y => !decide (y.2 = .free) || (decide (sc.names.lookup y.1 = some .cell) || decide (sc.names.lookup y.1 = some .free))) && !N.contains p
theorem lam1_by {N : List Str} {sc scope : Scope} {p : Str} (h : lam1B N sc scope p = true) : Lam1 N sc scope p := by
  simp only [lam1B, Bool.and_eq_true, Bool.or_eq_true, Bool.not_eq_true', decide_eq_true_eq, decide_eq_false_iff_not, List.all_eq_true] at h
  obtain ⟨⟨⟨⟨⟨⟨h1, h2⟩, h3⟩, h4⟩, h5⟩, h6⟩, h7⟩ := h
  refine ⟨h1, h2, h3, h4, fun y hy => ⟨fun e => (h5 y hy).1.resolve_left fun z => z e, (h5 y hy).2⟩, fun y hy e => (h6 y hy).resolve_left fun z => z e, ?_⟩
  intro m
  rw [List.contains_iff_mem.mpr m] at h7
  cases h7
theorem Lam1.has {X : Cx} {scope : Scope} {p : Str} (L : Lam1 X.N X.env.scope scope p) (ok : X.Ok) : ∀ y ∈ scope.names, y.2 = .free → ∃ c, X.env.cells.lookup y.1 = some c :=
  fun y hy e => ok.has _ (L.free y hy e)
/-- the context of its body -/
def lamCx1 (X : Cx) (base : Heap) (A : Around) (outer : List Env) (s : Shared) (H : Hp) (E : XK) (scope : Scope) (p : Str) (f c : Addr) : Cx :=
  { LamX.lamCx X A outer s H E scope f c with N := X.N ++ [p], base := base }
/-- what the base holds of the captured names -/
structure Caps (X : Cx) (base : Heap) (σ : L2.St) : Prop where
  cell : ∀ y c, X.env.cells.lookup y = some c → ∃ v, base.IsCell c v
  val : ∀ (i : Nat) y v, X.N[i]? = some y → σ[i]? = some (some v) → (X.env.scope.names.lookup y = some .cell ∨ X.env.scope.names.lookup y = some .free) → ∃ u c, RelV v u ∧ X.env.cells.lookup y = some c ∧ base.IsCell c (some u)
  inj : ∀ x y c, X.env.cells.lookup x = some c → X.env.cells.lookup y = some c → x = y
  len : σ.length = X.N.length
theorem caps_at {X : Cx} {pins : List (Addr × Obj)} {σ : L2.St} {H : Hp} {s : Shared} (I : Inv X pins σ H s) (hfn : ∀ y, X.fn y = true) : Caps X (baseAt X s H) σ := by
  have up : ∀ {y c v}, X.env.cells.lookup y = some c → s.heap.IsCell c v → (baseAt X s H).IsCell c v := by
    rintro y c v hc ⟨o, ho, hd⟩
    refine ⟨o, baseAt_get ho (I.freeC y c hc) fun m => ?_, hd⟩
    rcases List.mem_cons.mp (I.stkSub c m) with e | e
    · exact I.cne y c hc e
    · obtain ⟨_, o', ho', _⟩ := I.ok.funs.mem e
      exact absurd (Nat.lt_of_lt_of_le (Heap.lt_size ho') (I.ok.cab y c (hfn y) hc)) (Nat.lt_irrefl _)
  refine ⟨fun y c hc => (I.cell y c hc).imp fun v h => up hc h, fun i y v h1 h2 h3 => ?_, I.ok.inj, I.len⟩
  obtain ⟨m, _, hl⟩ := I.loc
  obtain ⟨u, r, q⟩ := hl i y v h1 h2 (.inr h3)
  rcases q with ⟨q, _⟩ | ⟨_, c, hc, z⟩
  · have q : X.env.scope.names.lookup y = some .local := q
    rcases h3 with h3 | h3 <;> rw [q] at h3 <;> cases h3
  · exact ⟨u, c, r, hc, up hc z⟩
section
variable {X : Cx} {base : Heap} {σ : L2.St} {A : Around} {outer : List Env} {s : Shared} {H : Hp} {E : XK} {scope : Scope} {p : Str} {f c : Addr}
theorem clo_in {cells : List (Str × Addr)} {names : List (Str × NameKind)} {y : Str} {d : Addr} (hf : ∀ z ∈ names, z.2 = .free → ∃ a, cells.lookup z.1 = some a) (e : (cloFrom cells names []).lookup y = some d) : cells.lookup y = some d ∧ (y, NameKind.free) ∈ names := by
  rcases cloFrom_mem (PySem.mem_of_lookup e) with m | ⟨m, rfl⟩
  · cases m
  · obtain ⟨a, ha⟩ := hf _ m rfl
    have ha : cells.lookup y = some a := ha
    refine ⟨?_, m⟩
    rw [ha]
    rfl
theorem lam_inv {h₁ : Heap} {tk : Nat} {v : V} {u : Value} (C : Caps X base σ) (L : Lam1 X.N X.env.scope scope p) (hfree : ∀ y ∈ scope.names, y.2 = .free → ∃ a, X.env.cells.lookup y.1 = some a) (e0 : Env0 X.prog X.w X.K X.mg base A outer s H) (hd : A.handled = none)
    (hns : h₁.Ns s.heap.objs.size fun y => [(p, u)].reverse.lookup y) (kp : ∀ b o, s.heap.get? b = some o → h₁.get? b = some o) (r : RelV v u) :
    Inv (lamCx1 X base A outer s H E scope p f c) [] (σ ++ [some v]) H { s with heap := h₁, toks := tk } := by
  have cin := fun {y d} => clo_in (y := y) (d := d) hfree
  have bcell : ∀ {d w}, base.IsCell d w → h₁.IsCell d w ∧ H d = none := by
    rintro d w ⟨o, ho, hd⟩
    exact ⟨⟨o, kp _ _ (e0.bs d o ho).1, hd⟩, (e0.bs d o ho).2⟩
  have noex : ∀ b : Addr, b ∉ (lamCx1 X base A outer s H E scope p f c).ex := fun b z => nomatch (show b ∈ ([] : List Addr) from z)
  have ok : (lamCx1 X base A outer s H E scope p f c).Ok := by
    refine ⟨e0.mod, L.kind, rfl, rfl, Nat.le_refl _, ?inj, ?has, ?cab, fun _ => hd, Around.frames_deeper e0.frames, .inr ⟨rfl, rfl⟩, fun b z => absurd z (noex b), e0.bs, e0.bsz, fun b _ _ => noex b, fun b z => absurd z (noex b), e0.funs, e0.frf⟩
    case inj => exact fun y z d h1 h2 => C.inj y z d (cin h1).1 (cin h2).1
    case has =>
      intro y hy
      have hy : scope.names.lookup y = some .cell ∨ scope.names.lookup y = some .free := hy
      rcases hy with hy | hy
      · exact absurd rfl (L.own _ (PySem.mem_of_lookup hy)).2
      · exact mem_lookup (cloFrom_has (cells := X.env.cells) (acc := []) (PySem.mem_of_lookup hy))
    case cab => exact fun y d z _ => nomatch (show false = true from z)
  refine ⟨ok, rfl, e0.bare, Un.kept kp, ⟨_, hns, ?loc⟩, ?cell, e0.hok.fresh (Nat.le_refl _), ?freeC, fun q hq => absurd (show q ∈ ([] : List (Addr × Obj)) from hq) (by simp), e0.hok.kept kp, ?len⟩
  case cell =>
    intro y d e
    obtain ⟨w, hw⟩ := C.cell y d (cin e).1
    exact ⟨w, (bcell hw).1⟩
  case freeC =>
    intro y d e
    obtain ⟨w, hw⟩ := C.cell y d (cin e).1
    exact (bcell hw).2
  case len =>
    show (σ ++ [some v]).length = (X.N ++ [p]).length
    rw [List.length_append, List.length_append, C.len]
    rfl
  case loc =>
    intro i y x h1 h2 vis
    have h1 : (X.N ++ [p])[i]? = some y := h1
    have vis : Vis scope y := vis
    by_cases hi : i < X.N.length
    · rw [List.getElem?_append_left hi] at h1
      rw [List.getElem?_append_left (by rw [C.len]; exact hi)] at h2
      rcases vis with k | k | k
      · have ey : y = p := (L.own _ (PySem.mem_of_lookup k)).1 rfl
        exact absurd (List.mem_of_getElem? h1) (by rw [ey]; exact L.new)
      · exact absurd rfl (L.own _ (PySem.mem_of_lookup k)).2
      · obtain ⟨u', d, ru, hc, hw⟩ := C.val i y x h1 h2 (L.free _ (PySem.mem_of_lookup k) rfl)
        obtain ⟨d', hd'⟩ := mem_lookup (cloFrom_has (cells := X.env.cells) (acc := []) (PySem.mem_of_lookup k))
        have z := (cin hd').1
        rw [hc] at z
        cases z
        exact ⟨u', ru, .inr ⟨.inr k, d, hd', (bcell hw).1⟩⟩
    · have hj : i = X.N.length := by
        have z := List.getElem?_eq_some_iff.mp h1
        obtain ⟨z, _⟩ := z
        rw [List.length_append] at z
        have : ([p] : List Str).length = 1 := rfl
        omega
      subst hj
      have ey : y = p := by
        rw [List.getElem?_append_right (Nat.le_refl _)] at h1
        simpa using h1.symm
      have ex : x = v := by
        rw [← C.len, List.getElem?_append_right (Nat.le_refl _)] at h2
        simpa using h2.symm
      subst ey
      subst ex
      exact ⟨u, r, .inl ⟨L.par, by simp⟩⟩
/-- what a call of it asks -/
def spLam (c : Addr) (q : Str) (tb : XK → TE) (σ : L2.St) : Sp := fun vs H Q E => ∃ v, vs = [v] ∧ H c = some (LamX.CodeO c q) ∧ tb E (σ ++ [some v]) H Q
theorem lam_fn {k : Nat} {params : Arguments} {body : Expr} {pm ctv : Value} {tb : XK → TE} (C : Caps X base σ) (L : Lam1 X.N X.env.scope scope p) (hfree : ∀ y ∈ scope.names, y.2 = .free → ∃ a, X.env.cells.lookup y.1 = some a)
    (at_ : base.get? f = some (PySem.W.kla_obj "<lambda>" (X.env.qual ++ "<lambda>") params body scope (cloFrom X.env.cells scope.names []) pm c ctv))
    (hbind : ∀ u : Value, bindArgs (PySem.W.kla_fn "<lambda>" (X.env.qual ++ "<lambda>") params body scope (cloFrom X.env.cells scope.names []) pm (.ref c) ctv) ⟨[u], []⟩ = pure [(p, u)])
    (hbody : ∀ (A : Around) (outer : List Env) (s : Shared) (H : Hp) (E : XK), Room k (A.deeper (LamX.lamEnv X scope s.heap.objs.size f c)) → PE (lamCx1 X base A outer s H E scope p f c) body (tb E)) :
    InBase X.prog X.w X.K X.mg base (k + 1) f (spLam c (X.env.qual ++ "<lambda>") tb σ) := by
  refine ⟨⟨_, _, _, _, at_⟩, ?_⟩
  rintro A outer s H us vs Q E hr e0 rv ⟨v, rfl, hc, ht⟩
  obtain ⟨u, rfl, ru⟩ := vals1 rv
  obtain ⟨⟨oc, ws, t, hoc, hdc, hvc⟩, _, _⟩ := e0.hok c _ hc
  have lim : s.heap.NoLimit := e0.mod.nolimit.keeps fun b o e => (e0.bs b o e).1
  refine PySem.W.kla_callFunE hr.depth (e0.bs _ _ at_).1 rfl L.co L.gen rfl ⟨c, oc, ws, t, rfl, hoc, hdc, hvc⟩ ?_
  rw [hbind u]
  apply wpAny_pure
  refine wpAny_newFunctionEnv (fun y hy => (L.own y hy).2) ?_ (fun h₁ hns hsb => ⟨lim.fresh _ hsb, ?_⟩) L.kind
  · intro y hy
    have ey : y = (p, u) := by simpa using hy
    rw [ey]
    exact L.par
  · have kp : ∀ b o, s.heap.get? b = some o → h₁.get? b = some o := fun b o e => hsb.extBut b o (Nat.ne_of_lt (Heap.lt_size e)) (Heap.get?_push_of_some _ e)
    have J := lam_inv (E := E) (f := f) (c := c) (tk := s.toks + [(p, u)].length) C L hfree e0 hr.hd hns kp ru
    show codeAny _ _ (.expr body (LamX.lamEnv X scope s.heap.objs.size f c)) _ _
    apply PySem.W.kla_codeExpr
    refine wpAny_mono ((hbody A outer s H E (hr.deeper _)).run [] _ _ H Q J ht) ?_ fun _ _ z => z
    rintro w s' ⟨x, H', J', rx, q⟩
    exact ⟨x, H', J'.os, J'.bare, J'.base, J'.hok, rx, q⟩
end
/-! ### x(lambda p: body, e, ..) -/
def tLam1 (T : List (Addr × Str)) (q : Str) (tb : XK → TE) (spg : Addr → Sp → Sp) (E : XK) (t : TA) : TE := fun σ H Q =>
  LamX.Tabs T H ∧ ∀ (f c : Addr) (H1 : Hp), LamX.ExtN H H1 → LamX.Tabs T H1 → H1 c = some (LamX.CodeO c q) → t σ H1 fun vs H2 => spg f (spLam c q tb σ) (.ref f :: vs) H2 Q E
section
variable {X : Cx}
theorem pe_lam1 {T : List (Addr × Str)} {x p : Str} {g c₀ P : Addr} {k kg : Nat} {fd : FuncData} {psg : List Str} {spg : Addr → Sp → Sp} {CXg : CXT} {E : XK} {tb : XK → TE} {t : TA} {params : Arguments} {body : Expr} {scope : Scope} {es : List Expr} {p1 lpos pos : Pos}
    (hg : Gl X x) (hm : X.mg x = some (.ref g)) (hk : PySem.W.keepIn X.K (.ref g) = true) (hb : Binds X.K fd psg [])
    (hG : ∀ (B : Heap) (f : Addr) (sp : Sp), (∀ b o, X.base.get? b = some o → B.get? b = some o) → InBase X.prog X.w X.K X.mg B (k + 1) f sp → FnOk X.prog X.w X.K X.mg B CXg kg g fd psg (spg f sp))
    (hr : Room kg X.A) (hx : Passes CXg X E) (TB : LamX.TabB X.base X.mg c₀ P) (hcode : X.env.code = .ref c₀) (hmT : (P, X.env.qual ++ "<lambda>") ∈ T) (hu : ∀ z ∈ T, z.1 = P → z.2 = X.env.qual ++ "<lambda>")
    (L : Lam1 X.N X.env.scope scope p) (hdef : defaultsOf params X.env = ([], []))
    (hbind : ∀ (q : Str) (cl : List (Str × Addr)) (pm cv ctv u : Value), bindArgs (PySem.W.kla_fn "<lambda>" q params body scope cl pm cv ctv) ⟨[u], []⟩ = pure [(p, u)])
    (hbody : ∀ (B : Heap), (∀ b o, X.base.get? b = some o → B.get? b = some o) → ∀ (A : Around) (outer : List Env) (s : Shared) (H : Hp) (E : XK) (f c : Addr), Room k (A.deeper (LamX.lamEnv X scope s.heap.objs.size f c)) → PE (lamCx1 X B A outer s H E scope p f c) body (tb E))
    (ha : PA X es t) (hs : X.stack = X.env :: X.outer) (hf : X.env.frame = some X.env.locals) (hfn : ∀ y, X.fn y = true) (hpl : (backTo pos (starEach es X.env)).any (·.1) = false) (hdb : (x == ("__debug__" : Str)) = false := by decide) :
    PE X (.Call (.Name x p1) (.Lambda params body scope lpos :: es) [] pos) (tLam1 T (X.env.qual ++ "<lambda>") tb spg E t) := by
  constructor
  rintro pins s σ H Q I ⟨hT, h⟩
  apply wpAny_Call_Name_kw
  apply ld_glob I hg hm _ hdb
  refine PySem.W.callWith_K (h₀ := X.base) I.ok.mod.kin hk ?_ (by rfl) hpl
  show wpAny _ _ (spliced ((false, eval (.Lambda params body scope lpos) X.env) :: backTo pos (starEach es X.env))) _ _ s
  apply Calls.spliced_cons
  refine LamX.lam_make2 I TB hcode hmT hu hT hdef (L.has I.ok) ?_
  intro f c pm ctv H1 s1 I1 eN T1 hfo hfh hff hco
  have out : f ≠ X.env.locals ∧ f ∉ X.fs := by
    rw [hs] at hff
    rw [frs, List.filterMap_cons, hf] at hff
    exact ⟨fun z => hff (z ▸ List.mem_cons_self), fun z => hff (List.mem_cons_of_mem _ z)⟩
  have J1 : Inv X ((f, PySem.W.kla_obj "<lambda>" (X.env.qual ++ "<lambda>") params body scope (cloFrom X.env.cells scope.names []) pm c ctv) :: pins) σ H1 s1 := by
    refine I1.pins_of fun z hz => ?_
    rcases List.mem_cons.mp hz with e | e
    · subst e
      exact ⟨hfo, hfh, out.1, out.2, fun v q => nomatch q⟩
    · exact I1.pin z (List.mem_append_right _ e)
  refine thn (ha.run pos _ s1 σ H1 _ J1 (h f c H1 eN T1 hco)) ?_
  rintro us s2 ⟨vs, H2, J2, rv, q⟩
  have at2 := J2.pin _ (List.mem_append_right _ List.mem_cons_self)
  have I2 : Inv X pins σ H2 s2 := J2.pins_of fun z hz => J2.pin z (List.mem_append_right _ (List.mem_cons_of_mem _ hz))
  have lam : InBase X.prog X.w X.K X.mg (baseAt X s2 H2) (k + 1) f (spLam c (X.env.qual ++ "<lambda>") tb σ) :=
    lam_fn (pm := pm) (ctv := ctv) (caps_at I2 hfn) L (L.has I.ok) (baseAt_get at2.1 at2.2.1 hff) (fun u => hbind _ _ _ _ _ u) fun A outer s' H' E' hr' => hbody _ (fun b o e => baseAt_ext I2 e) A outer s' H' E' f c hr'
  have F := hG _ f _ (fun b o e => baseAt_ext I2 e) lam
  have rv' : Vals (V.ref f :: vs) (Value.ref f :: us) := .cons rfl rv
  refine ⟨I2.kIn, wpAny_call (codeAny_mono (F.run X.A X.stack s2 H2 ⟨.ref f :: us, []⟩ (.ref f :: us) (.ref f :: vs) Q E hr (env_at I2) ?_ rv' q) ?_)⟩
  · have len : (Value.ref f :: us).length = psg.length := by rw [← rv'.length]; exact F.len _ _ _ _ q
    have z := hb s2 (.ref f :: us) I2.kIn (by rw [List.append_nil]; exact len)
    rw [List.append_nil] at z
    exact z
  · intro r s' z
    rcases r with e | fl
    · exact hx pins σ H2 s2 e s' I2 z
    · rcases fl with _ | _ | _ | u
      · exact False.elim z
      · exact False.elim z
      · exact False.elim z
      · exact I2.after z
end
end G

set_option Elab.async false
set_option linter.all false
set_option maxRecDepth 100000
set_option maxHeartbeats 3900000
/-! instances with methods of their own: ==, str(x); cls(..) in a classmethod -/
namespace G
open PySem Spec PyProof.Rows L2
section
variable {X : Cx} {CX : CXT} {k : Nat} {f C : Addr} {fd : FuncData} {ps : List Str} {sp : Sp} {E : XK}
/-- the callee runs at an around below X's -/
theorem run_below {A : Around} {pins : List (Addr × Obj)} {σ : L2.St} {H : Hp} {s : Shared} {Q : VK} {us : List Value} {vs : List V} (F : FnOk X.prog X.w X.K X.mg X.base CX k f fd ps sp) (hA : Room k A) (hfr : A.frames = X.A.frames) (hb : Binds X.K fd ps [])
    (hx : Passes CX X E) (I : Inv X pins σ H s) (r : Vals vs us) (h : sp vs H Q E) : wpAny (model X.prog X.w) A (call (.ref f) us) (EP X pins σ Q) X.xe s := by
  have e := I.env0
  have e0 : Env0 X.prog X.w X.K X.mg X.base A X.stack s H := ⟨hfr.trans e.frames, e.mod, e.bs, e.bsz, e.funs, e.frf, e.hok, e.bare⟩
  have len : us.length = ps.length := by rw [← r.length]; exact F.len _ _ _ _ h
  have bd := hb s us I.kIn (by rw [List.append_nil]; exact len)
  rw [List.append_nil] at bd
  apply wpAny_call
  refine codeAny_mono (F.run A X.stack s H ⟨us, []⟩ us vs Q E hA e0 bd r h) ?_
  rintro (e | fl) s' z
  · exact hx pins σ H s e s' I z
  · rcases fl with _ | _ | _ | u
    · exact False.elim z
    · exact False.elim z
    · exact False.elim z
    · exact I.after z
/-- str(x) by its own def -/
def rStrO (C : Addr) (sp : Sp) (E : XK) : List V → Hp → VK → Prop := fun xs H Q => ∃ a dx fs, xs = [.ref a] ∧ H a = some (.ins C dx fs) ∧ sp [.ref a] H (fun v H' => (∃ z, v = .str z) ∧ Q v H') E
theorem call_strO (F : FnOk X.prog X.w X.K X.mg X.base CX k f fd ps sp) (hr : Room (k + 2) X.A) (hs : PySem.W.findIn X.K (.ref C) "__str__" = some (some (.ref f))) (hf : PySem.W.isFn X.K (.ref f) = true) (hb : Binds X.K fd ps []) (hx : Passes CX X E) :
    CallR X (.type "str") (rStrO C sp E) := by
  rintro pins s σ H xs us Q I r ⟨a, dx, fs, rfl, ha, h⟩
  obtain ⟨u, rfl, ru⟩ := vals1 r
  obtain rfl : u = Value.ref a := ru
  obtain ⟨mA, J, _⟩ := ins_get I.hok ha
  obtain ⟨od, J, _⟩ := J.look
  refine PySem.W.kso_call hr.in1.in1.units0 I.kIn J hs hf ?_
  refine wpAny_mono (run_below (vs := [.ref a]) F hr.in1.in1 rfl hb hx I (.cons rfl .nil) h) ?_ fun _ _ z => z
  rintro v s' ⟨x, H', I', rx, ⟨z, rfl⟩, q⟩
  obtain ⟨t, rfl⟩ := rx
  exact ⟨.str z, H', I', ⟨t, rfl⟩, q⟩
/-- x == y by its own def, both of one class -/
def rEqO (C : Addr) (sp : Sp) (E : XK) : R2 := fun x y H Q => ∃ a b dx fs dy gs, x = .ref a ∧ y = .ref b ∧ H a = some (.ins C dx fs) ∧ H b = some (.ins C dy gs) ∧ sp [.ref a, .ref b] H (fun v H' => (∃ c, v = .bl c) ∧ Q v H') E
theorem op_eqO (F : FnOk X.prog X.w X.K X.mg X.base CX k f fd ps sp) (hr : Room k X.A) (hs : PySem.W.findIn X.K (.ref C) "__eq__" = some (some (.ref f))) (hf : PySem.W.isFn X.K (.ref f) = true) (hb : Binds X.K fd ps []) (hx : Passes CX X E) :
    OpR X (compareOp .Eq) (rEqO C sp E) := by
  rintro pins s σ H x y v u Q I rx ry ⟨a, b, dx, fs, dy, gs, rfl, rfl, ha, hb', h⟩
  obtain rfl : v = Value.ref a := rx
  obtain rfl : u = Value.ref b := ry
  obtain ⟨mA, J, _⟩ := ins_get I.hok ha
  obtain ⟨mB, J', _⟩ := ins_get I.hok hb'
  obtain ⟨od, J, _⟩ := J.look
  obtain ⟨od', J', _⟩ := J'.look
  obtain ⟨m, hF⟩ := I.fr
  show wpAny (model X.prog X.w) X.A (richCompare .Eq (.ref a) (.ref b)) (EP X pins σ Q) X.xe s
  refine PySem.W.cmp_K (op := .Eq) (tb := .ref C) hr.units0 hF I.ok.mod.kin J J'.type (by simp [PySem.W.notFirst]) hs hf ?_
  refine wpAny_mono (run_below (vs := [.ref a, .ref b]) F hr rfl hb hx I (.cons rfl (.cons rfl .nil)) h) ?_ fun _ _ z => z
  rintro w s' ⟨z, H', I', rz, ⟨c, rfl⟩, q⟩
  obtain rfl : w = Value.bool c := rz
  exact ⟨.bl c, H', I', rfl, q⟩
/-- x(e, ..), x a local that holds the class at C -/
def tMakeL (i : Nat) (C : Addr) (sp : Sp) (E : XK) (t : TA) : TE := fun σ H Q => σ[i]? = some (some (.ref C)) ∧ tMake C sp [] E t σ H Q
theorem pe_makeL {i : Nat} {x : Str} {p pos : Pos} {e : Expr} {es : List Expr} {t : TA} (M : Mk X.K C f) (F : FnOk X.prog X.w X.K X.mg X.base CX k f fd ps sp) (hr : Room (k + 1) X.A) (hN : X.N[i]? = some x) (hv : Vis X.env.scope x) (hb : Binds X.K fd ps []) (hx : Passes CX X E)
    (ha : PA X (e :: es) t) (he : starEach (e :: es) X.env = (false, eval e X.env) :: starEach es X.env := by rfl) (hpl : (backTo pos (starEach es X.env)).any (·.1) = false := by rfl)
    (hdb : (x == ("__debug__" : Str)) = false := by decide) (hcd : (x == ("__classdict__" : Str)) = false := by decide) : PE X (.Call (.Name x p) (e :: es) [] pos) (tMakeL i C sp E t) := by
  constructor
  rintro pins s σ H Q I ⟨hs, h⟩
  refine wpAny_Call_Name_kw (thn ((pe_var (pos := p) hN hv hdb hcd).run pins s σ H (fun v H1 => v = .ref C ∧ H1 = H) I ⟨.ref C, hs, rfl, rfl⟩) ?_)
  rintro u s1 ⟨v, H1, I1, r1, rfl, rfl⟩
  cases r1
  refine PySem.W.callWith_K (h₀ := X.base) I.ok.mod.kin M.kp (thn (ha.run pos pins s1 σ _ _ I1 h) ?_) he hpl
  rintro us s2 ⟨vs, H2, I2, r, q⟩
  exact ⟨I2.kIn, run_make M F hr hb .nil hx I2 r q⟩
end
section
variable {P : Program} {w : World} {K : PySem.W.Frag} {mg : Str → Option Value} {base : Heap}
/-- a def whose code object is known -/
theorem fun_okC {x qual : Str} {st : Stmt} {f c : Addr} {fd : FuncData} {N ps : List Str} {k : Nat} {sp : Sp} (F : Fun K x qual st f fd) (hc : fd.code = .ref c) (S : FnScope N ps (defScope st)) (len : ∀ vs H Q E, sp vs H Q E → vs.length = ps.length)
    (hbody : ∀ (A : Around) (outer : List Env) (s : Shared) (H : Hp) (vs : List V) (Q : VK) (E : XK), Room k (A.deeper (envOfC qual (defScope st) s.heap.objs.size f (.ref c))) → sp vs H Q E →
      ∃ t, PSs (cxOf CX0 P w K mg base N qual (defScope st) f (.ref c) A outer s H E).nox (defBody st) t ∧ t { nx := fun _ H' => Q .non H', rt := Q } (start N vs) H) : FnOk P w K mg base CX0 (k + 1) f fd ps sp := by
  obtain ⟨oc, od, kV, doc, pm, an, cdv, ct, osl, rfl, lk, hcd⟩ := F.ex
  obtain rfl : cdv = Value.ref c := hc
  refine fn_of lk hcd S len ?_
  intro A outer s H vs Q E hr hsp
  obtain ⟨t, h, q⟩ := hbody A outer s H vs Q E hr hsp
  exact ⟨t, h.nox, q⟩
end
end G

set_option Elab.async false
set_option linter.all false
set_option maxRecDepth 100000
set_option maxHeartbeats 3900000
namespace G
open PySem Spec PyProof.Rows L2
section
variable {X : Cx} {k i : Nat} {f : Addr} {sp : Sp} {W : WX} {x : Str} {p pos : Pos} {e : Expr} {es : List Expr} {t : TA}
/-- x(e, ..) under a try: what is thrown is wished for at the slots as they stand -/
def tCallW (i : Nat) (f : Addr) (sp : Sp) (W : WX) (t : TA) : TE := fun σ H Q => σ[i]? = some (some (.ref f)) ∧ t σ H fun vs H1 => sp vs H1 Q fun cls d H' => W cls d σ H'
theorem pe_callW (F : InBase X.prog X.w X.K X.mg X.base k f sp) (hr : Room k X.A) (hN : X.N[i]? = some x) (hv : Vis X.env.scope x) (tk : Takes X W) (ha : PA X (e :: es) t)
    (he : starEach (e :: es) X.env = (false, eval e X.env) :: starEach es X.env := by rfl) (hpl : (backTo pos (starEach es X.env)).any (·.1) = false := by rfl)
    (hdb : (x == ("__debug__" : Str)) = false := by decide) (hcd : (x == ("__classdict__" : Str)) = false := by decide) : PE X (.Call (.Name x p) (e :: es) [] pos) (tCallW i f sp W t) := by
  constructor
  rintro pins s σ H Q I ⟨hs, ht⟩
  have fnat : ∀ {s' : Shared} {H' : Hp}, Inv X pins σ H' s' → PySem.W.FnAt f s'.heap := by
    intro s' H' J
    obtain ⟨a, b, c, d, q⟩ := F.at_
    exact ⟨a, b, c, d, J.bk _ _ q⟩
  refine wpAny_Call_Name_kw (thn ((pe_var (pos := p) hN hv hdb hcd).run pins s σ H (fun v H1 => v = .ref f ∧ H1 = H) I ⟨.ref f, hs, rfl, rfl⟩) ?_)
  rintro u s1 ⟨v, H1, I1, r1, rfl, rfl⟩
  cases r1
  refine PySem.W.callWith_F (fnat I1) (thn (ha.run pos pins s1 σ _ _ I1 ht) ?_) he hpl
  rintro us s2 ⟨vs, H2, I2, r, q⟩
  refine ⟨fnat I2, wpAny_call (codeAny_mono (F.run X.A X.stack s2 H2 us vs Q _ hr I2.env0 r q) ?_)⟩
  rintro (e | fl) s' z
  · exact tk e s' (XE.of_call I2 (fun _ _ _ h => h) z)
  · rcases fl with _ | _ | _ | u
    · exact False.elim z
    · exact False.elim z
    · exact False.elim z
    · exact I2.after z
theorem takesF {X : Cx} : Takes X fun _ _ _ _ => False := fun _ _ ⟨_, _, _, _, _, _, _, _, _, _, _, _, _, _, _, _, z⟩ => z.elim
end
section
variable {X : Cx} {K : PySem.W.Frag}
theorem call_sortedSU (hK : X.K = K) : CallR X (.builtin "sorted") (rSortedS K) := hK ▸ cr_sortedS
def rListU (K : PySem.W.Frag) : List V → Hp → VK → Prop := fun xs H Q => ∃ p ys, xs = [.ref p] ∧ (SqL K H p ys ∨ SqT K H p ys) ∧ ∀ l, H l = none → Q (.ref l) (upd H l (.lst ys))
theorem call_listU (hK : X.K = K) : CallR X (.type "list") (rListU K) := hK ▸ call_list_of
def rEqVU (K : PySem.W.Frag) : R2 := fun x y H Q => rEqU K x y H Q ∨ rEqV K x y H Q
theorem op_eqVU (hK : X.K = K) (hu : X.A.units + 64 < cLine) : OpR X (compareOp .Eq) (rEqVU K) := hK ▸ (op_eqU rfl hu).or (op_eqV hu)
/-! ### a token is out behind a written text's method -/
theorem pa_two {e f : Expr} {te tf : TE} {c : Str} {j : Nat} {cp apos pos : Pos} {a : Expr} {ta : TE} (he : e = .Call (.Attribute (.Constant (.str c) j cp) "join" apos) [a] [] pos) (ha : PE X a ta) (hf : PET X f tf)
    (hs : starEach [a] X.env = [(false, eval a X.env)] := by rfl) (hbase : attributeBase (.Constant (.str c) j cp) "join" X.env (eval (.Constant (.str c) j cp) X.env) = eval (.Constant (.str c) j cp) X.env := by rfl) (hline : (apos.endLine == pos.line) = true := by rfl)
    (hst : ∀ p : Pos, backTo p (starEach [e, f] X.env) = [(false, eval e X.env), (false, eval f X.env)] := by intro p; rfl) :
    PA X [e, f] (tCons (tM1 (rJoin X.K) (tC (.str c)) ta) (tCons tf tNil)) := by
  constructor
  intro pos0 pins s σ H Q I h
  rw [hst]
  apply Calls.spliced_cons
  subst he
  refine PySem.Call_method1 hbase hs hline (Calls.Constant_str ?_)
  obtain ⟨_, h⟩ := h
  have I0 : Inv X pins σ H { s with toks := s.toks + 1 } := I.tok _
  refine ⟨"str", _, PySem.F.plainAttrs_str, PySem.F.slot_str_join, PySem.F.type_str_join, typeIs_str _ _ _, (fun _ z => nomatch z), ?_⟩
  refine wpAny_mono (PySem.wpAny_toks_of (n := 1) (s := { s with toks := s.toks + 1 }) (Nat.le_add_left 1 s.toks) (Q := EP X pins σ fun v H1 => tf σ H1 fun w H2 => Q [v, w] H2) (Calls.callWith_builtin rfl (Calls.evalArgs_plain (Calls.spliced_cons ?_)))) ?_ fun _ _ z => z.2
  · refine thn (ha.run pins _ σ H _ I0 h) ?_
    rintro u s2 ⟨y, H2, I2, r2, q2⟩
    exact Calls.spliced_nil (mt_join pins s2 σ H2 (.str c) [y] _ [u] _ I2 ⟨_, rfl⟩ (.cons r2 .nil) q2)
  · rintro v s3 ⟨ht, x, H3, I3, rx, q3⟩
    apply Calls.spliced_cons
    refine thn (hf pins s3 σ H3 _ ht I3 q3) ?_
    rintro w s4 ⟨y, H4, I4, ry, q4⟩
    exact Calls.spliced_nil ⟨[x, y], H4, I4, .cons rx (.cons ry .nil), q4⟩
end
end G
namespace G
open PySem Spec PyProof.Rows L2
theorem tab_up {mg : Str → Option Value} {B B' : Heap} {c P : Addr} (t : LamX.TabB B mg c P) (k : ∀ b o, B.get? b = some o → B'.get? b = some o) : LamX.TabB B' mg c P := ⟨t.code.keeps k, t.bm.keeps k, t.gP⟩
end G

set_option Elab.async false
set_option linter.all false
set_option maxRecDepth 100000
set_option maxHeartbeats 3900000
/-! the names that the laws draw: distinct, and names -/
namespace G
open PySem Spec PyProof.Rows L2
theorem letters_ok : OkS lettersS 26 := ⟨by decide +kernel, by decide +kernel⟩
theorem letters_len : lettersS.cps.toList.length = 26 := by decide +kernel
theorem letters_at : ∀ i : _root_.Fin 26, lettersS.cps.toList[i.val]? = some (97 + i.val) := by decide +kernel
/-- the letter at i -/
def let1 (i : Int) : Str := ⟨#[97 + (i.fmod 26).toNat]⟩
theorem let1_at (i : Int) : atI lettersS.cps.toList (i.fmod 26) = some (97 + (i.fmod 26).toNat) := by
  have h0 := fmod_lo i (show (0 : Int) < 26 by decide)
  have h1 := fmod_hi i (show (0 : Int) < 26 by decide)
  have e : (((i.fmod 26).toNat : Nat) : Int) = i.fmod 26 := by omega
  have h := atI_nat (xs := lettersS.cps.toList) (letters_at ⟨(i.fmod 26).toNat, by omega⟩)
  rw [e] at h
  exact h
theorem let1_cps (i : Int) : (let1 i).cps.toList = [97 + (i.fmod 26).toNat] := rfl
theorem let1_low (i : Int) : ∀ c ∈ (let1 i).cps.toList, lowc c = true := by
  intro c hc
  have e : c = 97 + (i.fmod 26).toNat := by simpa [let1] using hc
  have h0 := fmod_lo i (show (0 : Int) < 26 by decide)
  have h1 := fmod_hi i (show (0 : Int) < 26 by decide)
  subst e
  unfold lowc
  simp only [Bool.and_eq_true, decide_eq_true_eq]
  omega
theorem let1_inj {f : Int} {j k : Nat} (hj : j < 26) (hk : k < 26) (h : 97 + ((f + 7 * (j : Int)).fmod 26).toNat = 97 + ((f + 7 * (k : Int)).fmod 26).toNat) : j = k := by
  rw [Int.fmod_eq_emod_of_nonneg _ (by decide), Int.fmod_eq_emod_of_nonneg _ (by decide)] at h
  omega
/-- some names, no two alike -/
structure Good (xs : List Str) (m : Nat) : Prop where
  len : xs.length = m
  nd : xs.Nodup
  name : ∀ x ∈ xs, isName x = true
theorem Good.perm {xs ys : List Str} {m : Nat} (h : Good xs m) (p : ys.Perm xs) : Good ys m := ⟨p.length_eq.trans h.len, p.nodup_iff.mpr h.nd, fun x hx => h.name x (p.mem_iff.mp hx)⟩
theorem Good.take {xs : List Str} {m n : Nat} (h : Good xs m) (hn : n ≤ m) : Good (xs.take n) n := ⟨by rw [List.length_take, h.len]; omega, h.nd.sublist (List.take_sublist _ _), fun x hx => h.name x (List.mem_of_mem_take hx)⟩
theorem good_of {nm : Nat → Str} {m : Nat} (hn : ∀ k, k < m → isName (nm k) = true) (hi : ∀ j k, j < m → k < m → nm j = nm k → j = k) : Good ((List.range m).map nm) m := by
  refine ⟨by rw [List.length_map, List.length_range], ?_, fun x hx => ?_⟩
  · rw [List.nodup_iff_pairwise_ne, List.pairwise_map]
    refine List.Pairwise.imp_of_mem ?_ (List.nodup_iff_pairwise_ne.mp List.nodup_range)
    intro a b ha hb hab e
    exact hab (hi a b (List.mem_range.mp ha) (List.mem_range.mp hb) e)
  · obtain ⟨k, hk, rfl⟩ := List.mem_map.mp hx
    exact hn k (List.mem_range.mp hk)
theorem isName_of {z : Str} (h1 : 1 ≤ z.cps.toList.length) (h2 : z.cps.toList.length ≤ 8) (h3 : ∀ c ∈ z.cps.toList, lowc c = true) : isName z = true := by
  unfold isName
  rw [len_cps, decide_eq_true h1, decide_eq_true h2, Bool.true_and, Bool.true_and, List.all_eq_true]
  exact h3
theorem name_low {z : Str} (h : isName z = true) : ∀ c ∈ z.cps.toList, lowc c = true := by
  unfold isName at h
  rw [Bool.and_eq_true, Bool.and_eq_true, List.all_eq_true] at h
  exact h.2.2
/-- the eight letters of the base -/
structure Base8 (z : Str) : Prop where
  len : z.cps.toList.length = 8
  low : ∀ c ∈ z.cps.toList, lowc c = true
theorem cut_to (z : Str) (n : Int) (h0 : 0 ≤ n) : (cutS z none (some n)).cps.toList = z.cps.toList.take n.toNat := by
  have e : HT.sIx z.length z.length (some n) = min n.toNat z.length := by
    show (if n < 0 then (n + (z.length : Int)).toNat else min n.toNat z.length) = _
    rw [if_neg (by omega)]
  unfold cutS
  simp only [HT.sIx_none, e, List.drop_zero, Nat.sub_zero]
  rw [len_cps, ← List.take_take, List.take_length]
theorem cutV_to {α : Type} (f : α → V) (xs : List α) (n : Int) (h0 : 0 ≤ n) : cutV (xs.map f) none (some n) = (xs.take n.toNat).map f := by
  have e : HT.sIx (xs.map f).length (xs.map f).length (some n) = min n.toNat (xs.map f).length := by
    show (if n < 0 then (n + ((xs.map f).length : Int)).toNat else min n.toNat (xs.map f).length) = _
    rw [if_neg (by omega)]
  unfold cutV
  simp only [HT.sIx_none, e, List.drop_zero, Nat.sub_zero]
  rw [← List.take_take, List.take_length, List.map_take]
theorem take_low {z : Str} (b : Base8 z) (n : Nat) : ∀ c ∈ z.cps.toList.take n, lowc c = true := fun c hc => b.low c (List.mem_of_mem_take hc)
/-- the five ways -/
theorem way0 {z : Str} (b : Base8 z) {m : Nat} (hm : m ≤ 8) : Good ((List.range m).map fun (k : Nat) => cutS z none (some ((k : Int) + 1))) m := by
  have e : ∀ k : Nat, (cutS z none (some ((k : Int) + 1))).cps.toList = z.cps.toList.take (k + 1) := fun k => by
    rw [cut_to z _ (by omega)]
    congr 1
  refine good_of (fun k hk => ?_) (fun j k hj hk h => ?_)
  · refine isName_of ?_ ?_ ?_ <;> rw [e k]
    · rw [List.length_take, b.len]; omega
    · rw [List.length_take, b.len]; omega
    · exact take_low b _
  · have h2 := congrArg (fun s : Str => s.cps.toList.length) h
    simp only [e, List.length_take, b.len] at h2
    omega
theorem way1 (f : Int) {m : Nat} (hm : m ≤ 8) : Good ((List.range m).map fun (k : Nat) => Txt.mul (let1 f) ((k : Int) + 1)) m := by
  have e : ∀ k : Nat, (Txt.mul (let1 f) ((k : Int) + 1)).cps.toList = (List.replicate (k + 1) (let1 f).cps.toList).flatten := fun k => by
    rw [mul_cps _ _ (by omega)]
    congr 2
  have l : ∀ k : Nat, (Txt.mul (let1 f) ((k : Int) + 1)).cps.toList.length = k + 1 := fun k => by
    rw [e, List.length_flatten, List.map_replicate, List.sum_replicate_nat, let1_cps]
    simp
  refine good_of (fun k hk => ?_) (fun j k hj hk h => ?_)
  · refine isName_of (by rw [l]; omega) (by rw [l]; omega) ?_
    rw [e]
    intro c hc
    obtain ⟨y, hy, hc⟩ := List.mem_flatten.mp hc
    rw [List.eq_of_mem_replicate hy] at hc
    exact let1_low f c hc
  · have h2 := congrArg (fun s : Str => s.cps.toList.length) h
    simp only [l] at h2
    omega
theorem way3 {z : Str} (b : Base8 z) (f s : Int) (hs : 0 ≤ s) (hs2 : s < 8) {m : Nat} (hm : m ≤ 26) : Good ((List.range m).map fun (k : Nat) => cutS z none (some s) ++ let1 (f + 7 * (k : Int))) m := by
  have e : ∀ k : Nat, (cutS z none (some s) ++ let1 (f + 7 * (k : Int))).cps.toList = z.cps.toList.take s.toNat ++ [97 + ((f + 7 * (k : Int)).fmod 26).toNat] := fun k => by
    rw [app_cps, cut_to z _ hs, let1_cps]
  refine good_of (fun k hk => ?_) (fun j k hj hk h => ?_)
  · refine isName_of ?_ ?_ ?_ <;> rw [e k]
    · rw [List.length_append, List.length_singleton]; omega
    · rw [List.length_append, List.length_take, b.len, List.length_singleton]; omega
    · intro c hc
      rcases List.mem_append.mp hc with hc | hc
      · exact take_low b _ c hc
      · exact let1_low _ c (by rw [let1_cps]; exact hc)
  · have h2 := congrArg (fun s : Str => s.cps.toList.getLast?) h
    simp only [e, List.getLast?_append, List.getLast?_singleton, Option.some_or, Option.some.injEq] at h2
    exact let1_inj (by omega) (by omega) h2
theorem way4 {z : Str} (b : Base8 z) (f s : Int) (hs : 0 ≤ s) (hs2 : s < 8) {m : Nat} (hm : m ≤ 26) : Good ((List.range m).map fun (k : Nat) => let1 (f + 7 * (k : Int)) ++ cutS z none (some (s * ((k : Int).fmod 2)))) m := by
  have h2 : ∀ k : Nat, 0 ≤ s * ((k : Int).fmod 2) ∧ s * ((k : Int).fmod 2) ≤ 7 := fun k => by
    have a := fmod_lo (k : Int) (show (0 : Int) < 2 by decide)
    have b := fmod_hi (k : Int) (show (0 : Int) < 2 by decide)
    have c : (k : Int).fmod 2 = 0 ∨ (k : Int).fmod 2 = 1 := by omega
    rcases c with c | c <;> rw [c] <;> omega
  have e : ∀ k : Nat, (let1 (f + 7 * (k : Int)) ++ cutS z none (some (s * ((k : Int).fmod 2)))).cps.toList = (97 + ((f + 7 * (k : Int)).fmod 26).toNat) :: z.cps.toList.take (s * ((k : Int).fmod 2)).toNat := fun k => by
    rw [app_cps, cut_to z _ (h2 k).1, let1_cps]
    rfl
  refine good_of (fun k hk => ?_) (fun j k hj hk h => ?_)
  · have := h2 k
    refine isName_of ?_ ?_ ?_ <;> rw [e k]
    · rw [List.length_cons]; omega
    · rw [List.length_cons, List.length_take, b.len]; omega
    · intro c hc
      rcases List.mem_cons.mp hc with hc | hc
      · exact let1_low _ c (by rw [let1_cps, hc]; exact List.mem_singleton_self _)
      · exact take_low b _ c hc
  · have h3 := congrArg (fun s : Str => s.cps.toList.head?) h
    simp only [e, List.head?_cons, Option.some.injEq] at h3
    exact let1_inj (by omega) (by omega) h3
def eightS : List Str := [Str.ofString "length", Str.ofString "bearing", Str.ofString "mark", Str.ofString "lengths", Str.ofString "landmark", Str.ofString "bearings", Str.ofString "ab", Str.ofString "a"]
theorem eight_good : Good eightS 8 := ⟨rfl, by decide +kernel, by decide +kernel⟩
theorem join_flat : ∀ ys : List Str, (Txt.join (Str.ofString "") ys).cps.toList = (ys.map fun y => y.cps.toList).flatten := by
  intro ys
  rw [TL.join_eq]
  induction ys with
  | nil => rfl
  | cons y r ih =>
    cases r with
    | nil =>
      show y.cps.toList = _
      simp
    | cons x r =>
      show (y ++ Str.ofString "" ++ Str.join (Str.ofString "") (x :: r)).cps.toList = _
      rw [app_cps, app_cps, ih, show (Str.ofString "").cps.toList = [] by decide +kernel, List.append_nil]
      rfl
theorem base8_of (f : Int) : Base8 (Txt.join (Str.ofString "") ((List.range 8).map fun (k : Nat) => let1 (f + 5 * (k : Int)))) := by
  have e := join_flat ((List.range 8).map fun (k : Nat) => let1 (f + 5 * (k : Int)))
  rw [List.map_map] at e
  refine ⟨?_, ?_⟩ <;> rw [e]
  · rfl
  · intro c hc
    obtain ⟨l, hl, hc⟩ := List.mem_flatten.mp hc
    obtain ⟨k, _, rfl⟩ := List.mem_map.mp hl
    exact let1_low _ c hc
theorem erase_map {α β : Type} (f : α → β) : ∀ (l : List α) (i : Nat), (l.map f).eraseIdx i = (l.eraseIdx i).map f
  | [], _ => rfl
  | _ :: _, 0 => rfl
  | x :: r, i + 1 => congrArg (f x :: ·) (erase_map f r i)
theorem erase_perm {α : Type} : ∀ (l : List α) (i : Nat) (h : i < l.length), (l[i] :: l.eraseIdx i).Perm l
  | x :: r, 0, _ => List.Perm.refl _
  | x :: r, i + 1, h => (List.Perm.swap x _ _).trans ((erase_perm r i (Nat.lt_of_succ_lt_succ h)).cons x)
/-! ### more steps -/
def jsR (ts : List TE) (acc : Str) (σ : L2.St) (x : V) (H : Hp) (Q : Str → Hp → Prop) : Prop := ∃ y : Str, x = .str y ∧ (acc ++ y).length ≤ sizeLine ∧ tJs ts (acc ++ y) σ H Q
def fmtR (x : V) (H : Hp) (Q : VK) : Prop := (∃ y : Str, x = .str y ∧ y.length ≤ sizeLine ∧ Q (.str y) H) ∨ ∃ i : Int, x = .int i ∧ i.natAbs.log2 < 1920 ∧ Q (.str (toString i)) H
section
variable {K : PySem.W.Frag} {σ : L2.St} {H : Hp} {Q : VK} {QJ : Str → Hp → Prop} {t ta : TE} {ts : List TE} {acc y : Str} {tA : TA} {x : V} {C : Addr} {sp : Sp} {E : XK} {i : Nat}
theorem w_js (q : t σ H fun x H1 => jsR ts acc σ x H1 QJ) : tJs (t :: ts) acc σ H QJ := q
theorem w_jsn (q : QJ acc H) : tJs [] acc σ H QJ := q
theorem js_of {n : Nat} (h : y.length ≤ 1000) (ha : acc.length ≤ 1000 * n) (hn : n ≤ 100) (q : tJs ts (acc ++ y) σ H QJ) : jsR ts acc σ (.str y) H QJ := ⟨y, rfl, by
  rw [len_cps, app_cps, List.length_append, ← len_cps, ← len_cps]
  have : (1000000 : Nat) ≤ sizeLine := by decide
  have : 1000 * n ≤ 1000 * 100 := Nat.mul_le_mul_left _ hn
  omega, q⟩
theorem w_fmt (q : t σ H fun x H1 => fmtR x H1 Q) : tFmt t σ H Q := q
theorem fmt_s (h : y.length ≤ sizeLine) (q : Q (.str y) H) : fmtR (.str y) H Q := .inl ⟨y, rfl, h, q⟩
theorem c_isiC {T : Value} {b : Bool} (ty : TyX K H x T) (k : PySem.W.kitOne K T (.ref C) = some b) (q : Q (.bl b) H) : rIsi K [x, .ref C] H Q := ⟨x, .ref C, T, .ref C, b, rfl, .own C, ty, k, q⟩
theorem kit_self : PySem.W.kitOne K (.ref C) (.ref C) = some true := by
  unfold PySem.W.kitOne
  rw [if_pos (by simp)]
theorem w_makeL (h : σ[i]? = some (some (.ref C))) (q : tMake C sp [] E tA σ H Q) : tMakeL i C sp E tA σ H Q := ⟨h, q⟩
theorem len_app (a b : Str) : (a ++ b).length = a.length + b.length := by rw [len_cps, app_cps, List.length_append, ← len_cps, ← len_cps]
end
section
variable {K : PySem.W.Frag} {σ : L2.St} {H : Hp} {N : L2.St → Hp → Prop} {g1 g2 : TG} {x y : V} {p : Addr} {n : Nat}
theorem g_two (h : H p = some (.tup [x, y])) (hn : 2 = n) (q : g1 x σ H fun σ' H' => g2 y σ' H' fun σ2 H2 => N σ2 H2) : gTup K n (gCons g1 (gCons g2 gNil)) (.ref p) σ H N :=
  ⟨p, [x, y], rfl, .of h, hn, x, [y], rfl, (show (fun σ' H' => gCons g2 gNil [y] σ' H' N) = fun σ' H' => g2 y σ' H' fun σ2 H2 => N σ2 H2 from by
    funext σ' H'
    refine propext ⟨fun ⟨v, r, e, h⟩ => ?_, fun h => ⟨y, [], rfl, ?_⟩⟩
    · cases e
      have e2 : (fun (σ2 : L2.St) (H2 : Hp) => gNil [] σ2 H2 N) = N := by
        funext a b
        exact propext ⟨fun z => z.2, fun z => ⟨rfl, z⟩⟩
      rw [e2] at h
      exact h
    · have e2 : (fun (σ2 : L2.St) (H2 : Hp) => gNil [] σ2 H2 N) = N := by
        funext a b
        exact propext ⟨fun z => z.2, fun z => ⟨rfl, z⟩⟩
      rw [e2]
      exact h) ▸ q⟩
end
theorem fm_range (g : Nat → Str) : ∀ l : List Nat, l.filterMap (fun k => some (V.str (g k))) = (l.map g).map V.str
  | [] => rfl
  | k :: r => congrArg (V.str (g k) :: ·) (fm_range g r)
theorem let1_self {f : Int} (h0 : 0 ≤ f) (h1 : f < 26) : atI lettersS.cps.toList f = some (97 + (f.fmod 26).toNat) := by
  have h := let1_at f
  rw [Int.fmod_eq_emod_of_nonneg _ (by decide), Int.emod_eq_of_lt h0 h1] at h ⊢
  exact h
/-! ### promises -/
def sp_mixed (K : PySem.W.Frag) : Sp := fun vs H Q _ => ∃ (p a : Addr) (n : Nat) (xs : List Str), vs = [.ref p, .ref a] ∧ BoxAt H p n ∧ n ≤ 100000000 ∧ SqL K H a (xs.map V.str) ∧ xs.length ≤ 100 ∧
  ∀ (H' : Hp) (l : Addr) (ys : List Str), ExB p H H' → BoxAt H' p (n + xs.length) → H l = none → H' l = some (.lst (ys.map V.str)) → ys.Perm xs → Q (.ref l) H'
def sp_names : Sp := fun vs H Q _ => ∃ (p : Addr) (n m : Nat), vs = [.ref p, .int (m : Int)] ∧ BoxAt H p n ∧ n ≤ 10000000 ∧ m ≤ 26 ∧
  ∀ (H' : Hp) (l : Addr) (xs : List Str), ExB p H H' → BoxAt H' p (n + 11) → H l = none → H' l = some (.lst (xs.map V.str)) → Good xs m → Q (.ref l) H'
def measT (k a b : Str) : Str := Str.empty ++ k ++ Str.ofString " " ++ a ++ Str.ofString " " ++ b
def sp_strM (C : Addr) : Sp := fun vs H Q _ => ∃ (x : Addr) (k a b : Str), vs = [.ref x] ∧ IsMeas C H x k a b ∧ k.length ≤ 100 ∧ a.length ≤ 100 ∧ b.length ≤ 100 ∧ Q (.str (measT k a b)) H
def sp_eqM (C : Addr) : Sp := fun vs H Q _ => ∃ (x y : Addr) (k a b k' a' b' : Str), vs = [.ref x, .ref y] ∧ IsMeas C H x k a b ∧ IsMeas C H y k' a' b' ∧ OkS k 100 ∧ OkS a 100 ∧ OkS b 100 ∧ OkS k' 100 ∧ OkS a' 100 ∧ OkS b' 100 ∧ Q (.bl (decide (k = k' ∧ a = a' ∧ b = b'))) H
end G

set_option Elab.async false
set_option linter.all false
set_option maxRecDepth 100000
set_option maxHeartbeats 3900000
/-! a text cut at its blanks -/
namespace G
open PySem Spec PyProof.Rows L2
abbrev blank : Str := Str.ofString " "
theorem blank_cps : blank.cps.toList = [32] := by decide +kernel
def wordsZ (z : Str) : List Str := Txt.split z blank
def cutB : List Nat → List Nat → List (List Nat)
  | acc, [] => [acc]
  | acc, c :: r => if c = 32 then acc :: cutB [] r else cutB (acc ++ [c]) r
theorem spl_cutB : ∀ (l acc : List Nat), TL.spl [32] 0 acc l = cutB acc l
  | [], acc => rfl
  | c :: r, acc => by
    by_cases h : c = 32
    · subst h
      rw [TL.spl_hit (by rfl)]
      show acc :: TL.spl [32] 0 [] r = _
      rw [spl_cutB r []]
      rfl
    · have e : TL.pre [32] (c :: r) = false := by
        unfold TL.pre
        simp [h]
      rw [TL.spl_miss e, spl_cutB r]
      show _ = if c = 32 then _ else _
      rw [if_neg h]
theorem cutB_glue : ∀ (l acc : List Nat), ((cutB acc l).intersperse [32]).flatten = acc ++ l
  | [], acc => by simp [cutB]
  | c :: r, acc => by
    by_cases h : c = 32
    · subst h
      have ih := cutB_glue r []
      have e : cutB acc (32 :: r) = acc :: cutB [] r := by simp [cutB]
      rw [e]
      cases hc : cutB [] r with
      | nil =>
        rw [hc] at ih
        exfalso
        have : cutB [] r ≠ [] := by
          clear ih hc e
          have : ∀ (l a : List Nat), cutB a l ≠ [] := by
            intro l
            induction l with
            | nil => intro a; simp [cutB]
            | cons c r ih =>
              intro a
              unfold cutB
              split
              · simp
              · exact ih _
          exact this r []
        exact this hc
      | cons p ps =>
        rw [hc] at ih
        rw [show (acc :: p :: ps).intersperse [32] = acc :: [32] :: (p :: ps).intersperse [32] from rfl, List.flatten_cons, List.flatten_cons, ih]
        simp
    · have e : cutB acc (c :: r) = cutB (acc ++ [c]) r := by simp [cutB, h]
      rw [e, cutB_glue r]
      simp
theorem cutB_mem : ∀ (l acc p : List Nat), p ∈ cutB acc l → (∀ c ∈ p, c ∈ acc ∨ c ∈ l) ∧ p.length ≤ acc.length + l.length
  | [], acc, p, h => by
    have e : p = acc := by simpa [cutB] using h
    subst e
    exact ⟨fun c hc => .inl hc, by simp⟩
  | c :: r, acc, p, h => by
    unfold cutB at h
    split at h
    · rcases List.mem_cons.mp h with e | h
      · subst e
        exact ⟨fun c hc => .inl hc, by simp⟩
      · obtain ⟨h1, h2⟩ := cutB_mem r [] p h
        refine ⟨fun d hd => (h1 d hd).elim (fun z => nomatch z) fun z => .inr (List.mem_cons_of_mem _ z), ?_⟩
        rw [List.length_nil] at h2
        rw [List.length_cons]
        omega
    · obtain ⟨h1, h2⟩ := cutB_mem r (acc ++ [c]) p h
      refine ⟨fun d hd => (h1 d hd).elim (fun z => ?_) fun z => .inr (List.mem_cons_of_mem _ z), ?_⟩
      · rcases List.mem_append.mp z with z | z
        · exact .inl z
        · rw [List.mem_singleton.mp z]
          exact .inr List.mem_cons_self
      · rw [List.length_append, List.length_singleton] at h2
        rw [List.length_cons]
        omega
theorem cutB_len : ∀ (l acc : List Nat), (cutB acc l).length ≤ l.length + 1
  | [], acc => by simp [cutB]
  | c :: r, acc => by
    unfold cutB
    split
    · have := cutB_len r []
      rw [List.length_cons, List.length_cons]
      omega
    · have := cutB_len r (acc ++ [c])
      rw [List.length_cons]
      omega
theorem words_cps (z : Str) : (wordsZ z).map (fun w => w.cps.toList) = cutB [] z.cps.toList := by
  have h := TL.split_spl z blank (by show blank.cps.toList ≠ []; rw [blank_cps]; simp) (TL.kind_ok (by decide +kernel))
  have e : TL.tl blank = [32] := blank_cps
  rw [e, spl_cutB] at h
  exact h
theorem words_ok {z : Str} {n : Nat} (h : OkS z n) : ∀ w ∈ wordsZ z, OkS w n := by
  intro w hw
  rw [OkS_iff] at h ⊢
  have m : w.cps.toList ∈ cutB [] z.cps.toList := by
    rw [← words_cps]
    exact List.mem_map.mpr ⟨w, hw, rfl⟩
  obtain ⟨h1, h2⟩ := cutB_mem _ _ _ m
  refine ⟨by rw [List.length_nil] at h2; omega, fun c hc => ?_⟩
  rcases h1 c hc with z | z
  · cases z
  · exact h.2 c z
theorem words_len {z : Str} {n : Nat} (h : OkS z n) : (wordsZ z).length ≤ n + 1 := by
  have e := congrArg List.length (words_cps z)
  rw [List.length_map] at e
  have l := cutB_len z.cps.toList []
  rw [OkS_iff] at h
  omega
theorem meas_cps (k a b : Str) : (measT k a b).cps.toList = k.cps.toList ++ 32 :: (a.cps.toList ++ 32 :: b.cps.toList) := by
  unfold measT
  rw [app_cps, app_cps, app_cps, app_cps, app_cps, show (Str.ofString " ").cps.toList = [32] from blank_cps, show Str.empty.cps.toList = [] from rfl]
  simp
theorem words_glue {z k a b : Str} (h : wordsZ z = [k, a, b]) : measT k a b = z := by
  apply ext_cps
  have g := cutB_glue z.cps.toList []
  rw [← words_cps, h] at g
  rw [meas_cps]
  simpa using g
/-- the words of a measure -/
def goodW : List Str → Bool
  | [k, a, b] => (decide (k = Str.ofString "length") || decide (k = Str.ofString "bearing")) && (isName a && (isName b && ltS a b))
  | _ => false
theorem goodW3 (k a b : Str) : goodW [k, a, b] = ((decide (k = Str.ofString "length") || decide (k = Str.ofString "bearing")) && (isName a && (isName b && decide (a.cps.toList < b.cps.toList)))) := rfl
theorem in_kinds (k : Str) : inV (.str k) [.str (Str.ofString "length"), .str (Str.ofString "bearing")] = (decide (k = Str.ofString "length") || decide (k = Str.ofString "bearing")) := by
  rw [Bool.eq_iff_iff]
  simp only [inV, List.any_cons, List.any_nil, eqV, Bool.or_false, Bool.or_eq_true, beq_iff_eq, decide_eq_true_eq]
  exact ⟨fun h => h.imp Eq.symm Eq.symm, fun h => h.imp Eq.symm Eq.symm⟩
theorem three {wl : List Str} (h : wl.length = 3) : ∃ k a b, wl = [k, a, b] := by
  match wl, h with
  | [k, a, b], _ => exact ⟨k, a, b, rfl⟩
theorem bad3 {wl : List Str} (h : wl.length ≠ 3) : goodW wl = false := by
  match wl, h with
  | [], _ => rfl
  | [_], _ => rfl
  | [_, _], _ => rfl
  | [_, _, _], h => exact absurd rfl h
  | _ :: _ :: _ :: _ :: _, _ => rfl
/-! ### promises, steps -/
/-- an own error with one field is thrown, and all that stood stands -/
def Throws (C : Addr) (f : Str) (v : V) (H : Hp) (E : XK) : Prop := ∀ d H', Ex H H' → H' d = some (.xd [(f, v)]) → E (.ref C) (some d) H'
section
variable {σ : L2.St} {H : Hp} {C : Addr} {f : Str} {W : WX} {ta : TA} {D : Ends} {v : V} {Q E : XK} {H0 : Hp} {tb : WX → TS} {K : PySem.W.Frag} {yes no : WX} {cls : Value} {d : Option Addr} {c : Value} {b : Bool}
theorem w_raiseE (q : ta σ H fun vs H1 => mkE C f vs H1 fun cls d H' => W cls d σ H') : tRaiseE C f W ta D σ H := q
theorem mkE_of (q : ∀ d, H d = none → Q (.ref C) (some d) (upd H d (.xd [(f, v)]))) : mkE C f [v] H Q := ⟨v, rfl, q⟩
theorem throw_of (t : Throws C f v H0 E) (e : Ex H0 H) (h : ∀ d H', E (.ref C) d H' → Q (.ref C) d H') : mkE C f [v] H Q := mkE_of fun d hd => h _ _ (t d _ (e.trans (Ex.new hd)) upd_same)
theorem one_yes (h : PySem.W.exmOne K cls c = some true) (q : yes cls d σ H) : wOne K c yes no cls d σ H := ⟨true, h, q⟩
theorem one_no (h : PySem.W.exmOne K cls c = some false) (q : no cls d σ H) : wOne K c yes no cls d σ H := ⟨false, h, q⟩
def getE (C : Addr) (f : Str) (a : Addr) (cls : Value) (d : Option Addr) (x : V) (H : Hp) (Q : VK) : Prop := x = .ref a ∧ cls = .ref C ∧ ∃ (dd : Addr) (v : V), d = some dd ∧ H dd = some (.xd [(f, v)]) ∧ Q v H
theorem w_getE {a : Addr} {te : TE} {Q : VK} (q : te σ H fun x H1 => getE C f a cls d x H1 Q) : tGetE C f a cls d te σ H Q := q
theorem getE_of {a dd : Addr} {Q : VK} (h : H dd = some (.xd [(f, v)])) (q : Q v H) : getE C f a (.ref C) (some dd) (.ref a) H Q := ⟨rfl, rfl, dd, v, rfl, h, q⟩
theorem w_callW {i : Nat} {fa : Addr} {sp : Sp} {t : TA} {Q : VK} (h : σ[i]? = some (some (.ref fa))) (q : t σ H fun vs H1 => sp vs H1 Q fun cls d H' => W cls d σ H') : tCallW i fa sp W t σ H Q := ⟨h, q⟩
end
def sp_read (K : PySem.W.Frag) (C CI : Addr) : Sp := fun vs H Q E => ∃ v, vs = [.ref C, v] ∧
  ((∃ z, v = .str z ∧ OkS z 10000 ∧ (goodW (wordsZ z) = true → ∀ k a b, wordsZ z = [k, a, b] → ∀ x H', Ex H H' → IsMeas C H' x k a b → Q (.ref x) H') ∧ (goodW (wordsZ z) = false → Throws CI "text" v H E)) ∨ (NotTy K H v "str" ∧ Throws CI "text" v H E))
/-- a new list is the answer -/
def NewL (xs : List V) (H : Hp) (Q : VK) : Prop := ∀ p H', Ex H H' → H p = none → H' p = some (.lst xs) → Q (.ref p) H'
/-- caught(ask, odd): what ask gives, told; or the error's name and its field -/
def sp_caught (CI : Addr) (cn f : Str) (fa : Addr) (spA : Sp) : Sp := fun vs H Q _ => ∃ v, vs = [.ref fa, v] ∧ ∀ (Q' : VK) (E' : XK), (∀ r H1, NewL [.str (Str.ofString "told"), r] H1 Q → Q' r H1) →
  (∀ dd v' H1, H1 dd = some (.xd [(f, v')]) → NewL [.str cn, v'] H1 Q → E' (.ref CI) (some dd) H1) → spA [v] H Q' E'
/-! ### odd values: each is equal to itself -/
inductive Odd (C : Addr) (H : Hp) : V → Prop
  | non : Odd C H .non
  | bl (b : Bool) : Odd C H (.bl b)
  | int (i : Int) : Odd C H (.int i)
  | str {z : Str} (h : OkS z 10000) : Odd C H (.str z)
  | lst {a : Addr} {xs : List V} (h : H a = some (.lst xs)) (hf : ∀ x ∈ xs, flatB x = true) : Odd C H (.ref a)
  | tup {a : Addr} {ys : List Str} (h : H a = some (.tup (ys.map V.str))) (hf : ∀ y ∈ ys, PyData.strOk y = true) : Odd C H (.ref a)
  | dic {a : Addr} (h : H a = some (.dK [])) : Odd C H (.ref a)
  | meas {x : Addr} {k a b : Str} (h : IsMeas C H x k a b) (hk : OkS k 100) (ha : OkS a 100) (hb : OkS b 100) : Odd C H (.ref x)
theorem IsMeas.ext {C : Addr} {H H' : Hp} {x : Addr} {k a b : Str} (e : LamX.ExtN H H') (h : IsMeas C H x k a b) : IsMeas C H' x k a b :=
  let ⟨dx, t, h1, h2⟩ := h
  ⟨dx, t, e _ _ h1 (fun _ z => nomatch z), e _ _ h2 (fun _ z => nomatch z)⟩
theorem Odd.ext {C : Addr} {H H' : Hp} {v : V} (e : LamX.ExtN H H') (h : Odd C H v) : Odd C H' v := by
  cases h with
  | non => exact .non
  | bl b => exact .bl b
  | int i => exact .int i
  | str h => exact .str h
  | lst h hf => exact .lst (e _ _ h (fun _ z => nomatch z)) hf
  | tup h hf => exact .tup (e _ _ h (fun _ z => nomatch z)) hf
  | dic h => exact .dic (e _ _ h (fun _ z => nomatch z))
  | meas h hk ha hb => exact .meas (h.ext e) hk ha hb
theorem Ex.n {H H' : Hp} (e : Ex H H') : LamX.ExtN H H' := LamX.ExtN.of e
theorem eqv_strs : ∀ ys : List Str, PyData.eqvAll (ys.map PyData.str) (ys.map PyData.str) = true
  | [] => by simp [PyData.eqvAll]
  | y :: r => by
    have := eqv_strs r
    simp [PyData.eqvAll, PyData.eqv, this]
/-- what a class of instances must be known for -/
structure InsTy (K : PySem.W.Frag) (C : Addr) : Prop where
  ty : ∀ H x dx fs, H x = some (.ins C dx fs) → TyX K H (.ref x) (.ref C)
  nb : PySem.W.kitOne K (.ref C) (.type "bool") = some false
  ns : PySem.W.kitOne K (.ref C) (.type "str") = some false
  ni : PySem.W.kitOne K (.ref C) (.type "int") = some false
section
variable {K : PySem.W.Frag} {C : Addr} {H : Hp} {v : V} {Q : VK}
theorem Odd.isBool (M : InsTy K C) (h : Odd C H v) : ∃ T b, TyX K H v T ∧ PySem.W.kitOne K T (.type "bool") = some b := by
  cases h with
  | non => exact ⟨_, false, .base .non, kit_ty (by decide +kernel)⟩
  | bl b => exact ⟨_, true, .base (.bl b), kit_ty (by decide +kernel)⟩
  | int i => exact ⟨_, false, .base (.int i), kit_ty (by decide +kernel)⟩
  | str h => exact ⟨_, false, .base (.str _), kit_ty (by decide +kernel)⟩
  | lst h hf => exact ⟨_, false, .base (.lst h), kit_ty (by decide +kernel)⟩
  | tup h hf => exact ⟨_, false, .base (.tup h), kit_ty (by decide +kernel)⟩
  | dic h => exact ⟨_, false, .base (.dK h), kit_ty (by decide +kernel)⟩
  | meas h hk ha hb =>
    obtain ⟨dx, t, h1, _⟩ := h
    exact ⟨_, false, M.ty _ _ _ _ h1, M.nb⟩
theorem Odd.isStr (M : InsTy K C) (h : Odd C H v) : (∃ z, v = .str z ∧ OkS z 10000) ∨ NotTy K H v "str" := by
  cases h with
  | non => exact .inr ⟨_, .base .non, kit_ty (by decide +kernel)⟩
  | bl b => exact .inr ⟨_, .base (.bl b), kit_ty (by decide +kernel)⟩
  | int i => exact .inr ⟨_, .base (.int i), kit_ty (by decide +kernel)⟩
  | str h => exact .inl ⟨_, rfl, h⟩
  | lst h hf => exact .inr ⟨_, .base (.lst h), kit_ty (by decide +kernel)⟩
  | tup h hf => exact .inr ⟨_, .base (.tup h), kit_ty (by decide +kernel)⟩
  | dic h => exact .inr ⟨_, .base (.dK h), kit_ty (by decide +kernel)⟩
  | meas h hk ha hb =>
    obtain ⟨dx, t, h1, _⟩ := h
    exact .inr ⟨_, M.ty _ _ _ _ h1, M.ns⟩
def rEqOdd (K : PySem.W.Frag) (C : Addr) : R2 := fun x y H Q => rEqVU K x y H Q ∨ rEqO C (sp_eqM C) E0 x y H Q
theorem odd_eq (h : Odd C H v) (q : Q (.bl true) H) : rEqOdd K C v v H Q := by
  have self : ∀ x : V, scal x x = true → rEqOdd K C x x H Q := fun x hx => .inl (.inl (.inl ⟨hx, by rw [decide_eq_true rfl]; exact q⟩))
  cases h with
  | non => exact self _ rfl
  | bl b => exact self _ rfl
  | int i => exact self _ rfl
  | str h => exact self _ rfl
  | @lst a xs h hf =>
    refine .inl (.inr ⟨1, by decide, .inl ⟨a, a, xs, xs, rfl, rfl, .of h, .of h, ?_⟩, q⟩)
    clear h
    induction xs with
    | nil => exact .nil
    | cons x r ih => exact .cons (.inl ⟨rfl, hf x List.mem_cons_self⟩) (ih fun z hz => hf z (List.mem_cons_of_mem _ hz))
  | @tup a ys h hf =>
    refine .inl (.inl (.inr ⟨_, _, .tup (.of h) (dps_str ys), .tup (.of h) (dps_str ys), shaped_strsT hf, shaped_strsT hf, ?_⟩))
    have e : PyData.eqv (.tuple (ys.map PyData.str)) (.tuple (ys.map PyData.str)) = true := by
      simp only [PyData.eqv]
      exact eqv_strs ys
    rw [e]
    exact q
  | @dic a h => exact .inl (.inr ⟨1, by decide, .inr ⟨a, a, [], [], rfl, rfl, h, h, rfl, fun _ z => nomatch z⟩, q⟩)
  | @meas x k a b h hk ha hb =>
    obtain ⟨dx, t, h1, h2⟩ := id h
    refine .inr ⟨x, x, dx, _, dx, _, rfl, rfl, h1, h1, x, x, k, a, b, k, a, b, rfl, h, h, hk, ha, hb, hk, ha, hb, ⟨_, rfl⟩, ?_⟩
    rw [decide_eq_true ⟨rfl, rfl, rfl⟩]
    exact q
theorem a_neBB {b : Bool} (q : Q (.bl false) H) : rNeU K (.bl b) (.bl b) H Q := .inl ⟨rfl, by rw [decide_eq_true rfl]; exact q⟩
end
def sp_is (C : Addr) : Sp := fun vs H Q _ => ∃ (p : Addr) (w : Str) (v : V), vs = [.ref p, .str w, v] ∧ H p = some (.lst [.str w, v]) ∧ Odd C H v ∧ Q (.bl true) H
def sp_lread : Sp := fun vs H Q _ => ∃ z, vs = [.str z] ∧ OkS z 10000 ∧ (goodW (wordsZ z) = true → NewL ((wordsZ z).map V.str) H Q) ∧ (goodW (wordsZ z) = false → RetV .non H Q)
/-! ### lists of texts, and their joins -/
theorem atI_map {α β : Type} {f : α → β} {xs : List α} {i : Int} {x : α} (h : atI xs i = some x) : atI (xs.map f) i = some (f x) := by
  unfold atI at h ⊢
  obtain ⟨j, h1, h2⟩ := Option.bind_eq_some_iff.mp h
  rw [List.length_map]
  exact Option.bind_eq_some_iff.mpr ⟨j, h1, by rw [List.getElem?_map, h2]; rfl⟩
theorem cut_strs (xs : List Str) (lo hi : Option Int) : ∃ ys : List Str, cutV (xs.map V.str) lo hi = ys.map V.str ∧ ys.length ≤ xs.length ∧ ∀ y ∈ ys, y ∈ xs := by
  refine ⟨(xs.drop (HT.sIx xs.length 0 lo)).take (HT.sIx xs.length xs.length hi - HT.sIx xs.length 0 lo), ?_, ?_, fun y hy => List.mem_of_mem_drop (List.mem_of_mem_take hy)⟩
  · unfold cutV
    rw [List.length_map, List.map_take, List.map_drop]
  · rw [List.length_take, List.length_drop]
    omega
theorem sum_le {m : Nat} : ∀ ys : List Str, (∀ y ∈ ys, OkS y m) → (ys.map (·.length)).sum ≤ ys.length * m
  | [], _ => Nat.zero_le _
  | y :: r, h => by
    have h1 := (h y List.mem_cons_self).1
    have h2 := sum_le r fun z hz => h z (List.mem_cons_of_mem _ hz)
    rw [List.map_cons, List.sum_cons, List.length_cons, Nat.add_mul]
    omega
theorem repl_mem {y z : List Nat} : ∀ (l : List Nat) (s : Nat) (c : Nat), c ∈ StrLaws.replS y z s l → c ∈ z ∨ c ∈ l
  | [], s, c, h => by
    cases s <;> simp [StrLaws.replS] at h
  | d :: r, 0, c, h => by
    unfold StrLaws.replS at h
    split at h
    · rcases List.mem_append.mp h with h | h
      · exact .inl h
      · exact (repl_mem r _ c h).imp id (List.mem_cons_of_mem _)
    · rcases List.mem_cons.mp h with h | h
      · exact .inr (by rw [h]; exact List.mem_cons_self)
      · exact (repl_mem r _ c h).imp id (List.mem_cons_of_mem _)
  | d :: r, s + 1, c, h => by
    unfold StrLaws.replS at h
    exact (repl_mem r _ c h).imp id (List.mem_cons_of_mem _)
theorem OkS_repl {x y z : Str} {m k : Nat} (hx : OkS x m) (hz : OkS z k) (hy : 1 ≤ y.length) : OkS (Txt.replace x y z) (m + (m + 1) * k) := by
  have hl := TK.replace_len x y z
  have h1 := hx.1
  have h2 := hz.1
  rw [OkS_iff] at hx hz ⊢
  refine ⟨?_, fun c hc => ?_⟩
  · rw [← len_cps]
    have h3 : (x.length + 1) * z.length ≤ (m + 1) * k := Nat.mul_le_mul (by omega) h2
    omega
  · rw [StrLaws.replace_list hy] at hc
    rcases repl_mem _ _ _ hc with h | h
    · exact hz.2 c h
    · exact hx.2 c h
section
variable {K : PySem.W.Frag} {H : Hp} {Q : VK} {p : Addr} {ys : List Str}
theorem join_of {m : Nat} (h : H p = some (.lst (ys.map V.str))) (hy : ∀ y ∈ ys, OkS y m) (hm : m ≤ 1000) (hl : ys.length ≤ 20) (q : OkS (Txt.join blank ys) (ys.length * (m + 1)) → Q (.str (Txt.join blank ys)) H) : rJoin K (.str blank) [.ref p] H Q := by
  have l1 : blank.length = 1 := by decide +kernel
  refine m_joinL (.of h) ?_ (q (OkS_join ⟨by decide +kernel, by decide +kernel⟩ ys hy))
  have h1 := sum_le ys hy
  have h2 : ys.length * m ≤ 20 * 1000 := Nat.mul_le_mul hl hm
  rw [l1]
  omega
theorem a_cat {a b : Addr} {xs zs : List V} (ha : H a = some (.lst xs)) (hb : H b = some (.lst zs)) (hl : xs.length + zs.length ≤ 1000) (q : ∀ p, H p = none → Q (.ref p) (upd H p (.lst (xs ++ zs)))) : rAddU (.ref a) (.ref b) H Q :=
  .inr (.inr ⟨a, b, xs, zs, rfl, rfl, ha, hb, Nat.le_trans hl (by decide), q⟩)
end
def sp_spoilt : Sp := fun vs H Q _ => ∃ (p : Addr) (n : Nat) (z k a b : Str), vs = [.ref p, .str z] ∧ BoxAt H p n ∧ n ≤ 10000000 ∧ OkS z 100 ∧ wordsZ z = [k, a, b] ∧
  ∀ (z' : Str) (H' : Hp), OkS z' 10000 → ExB p H H' → BoxAt H' p (n + 10) → Q (.str z') H'
/-! ### steps at lambdas -/
def lamR (T : List (Addr × Str)) (q : Str) (tb : XK → TE) (spg : Addr → Sp → Sp) (E : XK) (t : TA) (σ : L2.St) (H : Hp) (Q : VK) : Prop := ∀ (f c : Addr) (H1 : Hp), LamX.ExtN H H1 → LamX.Tabs T H1 → H1 c = some (LamX.CodeO c q) → t σ H1 fun vs H2 => spg f (spLam c q tb σ) (.ref f :: vs) H2 Q E
theorem w_lam1 {T : List (Addr × Str)} {q : Str} {tb : XK → TE} {spg : Addr → Sp → Sp} {E : XK} {t : TA} {σ : L2.St} {H : Hp} {Q : VK} (hT : LamX.Tabs T H) (h : lamR T q tb spg E t σ H Q) : tLam1 T q tb spg E t σ H Q := ⟨hT, h⟩
def isR (C : Addr) (x : V) (P : Prop) : Prop := x = .ref C ∧ P
theorem is_of {C : Addr} {P : Prop} (p : P) : isR C (.ref C) P := ⟨rfl, p⟩
theorem w_cmeth {C : Addr} {sp : Sp} {E : XK} {ta : TE} {t : TA} {σ : L2.St} {H : Hp} {Q : VK} (q : ta σ H fun x H1 => isR C x (t σ H1 fun vs H2 => sp (.ref C :: vs) H2 Q E)) : ClX.tCMeth C sp E ta t σ H Q := q
theorem codeO_tbl {c : Addr} {q : Str} (ps : Array Value) : LamX.CodeO c q ≠ .tbl ps := LamX.codeO_ne ps
theorem ExtN.l {K : PySem.W.Frag} {H H' : Hp} {a : Addr} {xs : List V} (e : LamX.ExtN H H') (h : SqL K H a xs) : SqL K H' a xs := h.elim (fun h => .inl (h.elim (fun h => .inl (e _ _ h (fun _ z => nomatch z))) fun ⟨o, h⟩ => .inr ⟨o, e _ _ h (fun _ z => nomatch z)⟩)) .inr
theorem BoxAt.ext {H H' : Hp} {p : Addr} {n : Nat} (e : LamX.ExtN H H') (h : BoxAt H p n) : BoxAt H' p n := by
  obtain ⟨o, h1, h2⟩ := h
  refine ⟨o, e _ _ h1 (fun ps z => ?_), h2⟩
  obtain ⟨a, b, c, e2, _⟩ := h2
  rw [e2] at z
  cases z
theorem RetV.to {v : V} {H H' : Hp} {Q : VK} (q : RetV v H Q) (e : Ex H H') : RetV v H' Q := fun H2 e2 => q H2 (e.trans e2)
end G

set_option Elab.async false
set_option linter.all false
set_option maxRecDepth 100000
set_option maxHeartbeats 3900000
namespace G
open PySem Spec PyProof.Rows L2
/-! ### the words of joined texts -/
theorem join3 (k a b : Str) : Txt.join blank [k, a, b] = measT k a b := by
  apply ext_cps
  rw [TL.join_eq, meas_cps]
  show (k ++ blank ++ (a ++ blank ++ b)).cps.toList = _
  rw [app_cps, app_cps, app_cps, app_cps, blank_cps]
  simp
theorem words_meas {k a b : Str} (hk : 32 ∉ k.cps.toList) (ha : 32 ∉ a.cps.toList) (hb : 32 ∉ b.cps.toList) : wordsZ (measT k a b) = [k, a, b] := by
  unfold wordsZ
  rw [← join3]
  refine TL.split_join (s := 32) (S := []) blank_cps (by decide +kernel) (by simp) ?_
  intro p hp
  simp only [List.mem_cons, List.not_mem_nil, or_false] at hp
  rcases hp with rfl | rfl | rfl <;> assumption
theorem cutB_count : ∀ (l acc : List Nat), (cutB acc l).length = l.count 32 + 1
  | [], acc => by simp [cutB]
  | c :: r, acc => by
    unfold cutB
    split
    · rename_i h
      subst h
      rw [List.length_cons, cutB_count r, List.count_cons_self]
    · rename_i h
      rw [cutB_count r, List.count_cons_of_ne (by omega)]
theorem words_count (z : Str) : (wordsZ z).length = z.cps.toList.count 32 + 1 := by
  rw [← cutB_count _ [], ← words_cps, List.length_map]
theorem bad_count {z : Str} (h : z.cps.toList.count 32 ≠ 2) : goodW (wordsZ z) = false := bad3 (by rw [words_count]; omega)
theorem count_none {l : List Nat} (h : 32 ∉ l) : l.count 32 = 0 := List.count_eq_zero.mpr h
theorem name_no32 {z : Str} (h : isName z = true) : 32 ∉ z.cps.toList := fun m => by
  have := name_low h 32 m
  revert this
  decide
theorem kind_no32 {k : Str} (h : isKind k) : 32 ∉ k.cps.toList := by
  rcases h with rfl | rfl <;> decide +kernel
theorem kind_ok {k : Str} (h : isKind k) : OkS k 7 := by
  rcases h with rfl | rfl <;> exact ⟨by decide +kernel, by decide +kernel⟩
theorem meas_count {k a b : Str} (hk : 32 ∉ k.cps.toList) (ha : 32 ∉ a.cps.toList) (hb : 32 ∉ b.cps.toList) : (measT k a b).cps.toList.count 32 = 2 := by
  rw [meas_cps, List.count_append, List.count_cons_self, List.count_append, List.count_cons_self, count_none hk, count_none ha, count_none hb]
theorem meas_ok {k a b : Str} (hk : isKind k) (ha : isName a = true) (hb : isName b = true) : OkS (measT k a b) 25 := by
  have h1 := OkS_iff.mp (kind_ok hk)
  have h2 := OkS_iff.mp (isName_ok ha)
  have h3 := OkS_iff.mp (isName_ok hb)
  rw [OkS_iff, meas_cps]
  refine ⟨by simp only [List.length_append, List.length_cons]; omega, fun c hc => ?_⟩
  simp only [List.mem_append, List.mem_cons] at hc
  rcases hc with hc | hc | hc | hc | hc
  · exact h1.2 c hc
  · omega
  · exact h2.2 c hc
  · omega
  · exact h3.2 c hc
/-! ### sorted names -/
theorem rising_get : ∀ (ys : List Str) (p : Str), risingS p ys = true → ∀ (j : Nat) (x y : Str), (p :: ys)[j]? = some x → (p :: ys)[j + 1]? = some y → ltCps y.cps.toList x.cps.toList = false
  | [], p, _, j, x, y, _, h2 => by simp at h2
  | z :: r, p, h, 0, x, y, h1, h2 => by
    have e1 : p = x := by simpa using h1
    have e2 : z = y := by simpa using h2
    subst e1 e2
    unfold risingS at h
    rw [Bool.and_eq_true, Bool.not_eq_true'] at h
    exact h.1
  | z :: r, p, h, j + 1, x, y, h1, h2 => by
    unfold risingS at h
    rw [Bool.and_eq_true] at h
    exact rising_get r z h.2 j x y (by simpa using h1) (by simpa using h2)
theorem sorted_lt {ys : List Str} (hs : sortedS ys = true) (nd : ys.Nodup) {j : Nat} {x y : Str} (h1 : ys[j]? = some x) (h2 : ys[j + 1]? = some y) : x.cps.toList < y.cps.toList := by
  cases ys with
  | nil => simp at h1
  | cons p r =>
    have h := rising_get r p hs j x y h1 h2
    have ne : x ≠ y := fun e => by
      subst e
      have h3 := (List.getElem?_eq_some_iff.mp h1)
      have h4 := (List.getElem?_eq_some_iff.mp h2)
      obtain ⟨b1, e1⟩ := h3
      obtain ⟨b2, e2⟩ := h4
      exact List.pairwise_iff_getElem.mp (List.nodup_iff_pairwise_ne.mp nd) j (j + 1) b1 b2 (by omega) (e1.trans e2.symm)
    rw [ltCps_eq, decide_eq_false_iff_not] at h
    refine Decidable.byContradiction fun hn => ne (ext_cps ?_)
    exact List.le_antisymm (List.not_lt.mp h) (List.not_lt.mp hn)
/-! ### more texts that are none -/
theorem bad_nl {k a b : Str} (hk : 32 ∉ k.cps.toList) (ha : 32 ∉ a.cps.toList) (hb : 32 ∉ b.cps.toList) : goodW (wordsZ (measT k a b ++ Str.ofString "\n")) = false := by
  have n0 : (Str.ofString "\n").cps.toList = [10] := by decide +kernel
  have e : measT k a b ++ Str.ofString "\n" = measT k a (b ++ Str.ofString "\n") := by
    apply ext_cps
    rw [app_cps, meas_cps, meas_cps, app_cps]
    simp
  have nb : 32 ∉ (b ++ Str.ofString "\n").cps.toList := by
    rw [app_cps, n0]
    simp [hb]
  rw [e, words_meas hk ha nb, goodW3]
  have : isName (b ++ Str.ofString "\n") = false := by
    cases h : isName (b ++ Str.ofString "\n") with
    | false => rfl
    | true =>
      have := name_low h 10 (by rw [app_cps, n0]; simp)
      revert this
      decide
  rw [this, Bool.false_and, Bool.and_false, Bool.and_false]
theorem bad_two {k : Str} (hk : 32 ∉ k.cps.toList) : goodW (wordsZ (k ++ Str.ofString "  ")) = false := by
  have n0 : (Str.ofString "  ").cps.toList = [32, 32] := by decide +kernel
  have n1 : (Str.ofString "").cps.toList = [] := by decide +kernel
  have e : k ++ Str.ofString "  " = measT k (Str.ofString "") (Str.ofString "") := by
    apply ext_cps
    rw [app_cps, meas_cps, n0, n1]
    simp
  rw [e, words_meas hk (by rw [n1]; simp) (by rw [n1]; simp), goodW3]
  have : isName (Str.ofString "") = false := by decide +kernel
  rw [this, Bool.false_and, Bool.and_false]
theorem cnt_app (a b : Str) : (a ++ b).cps.toList.count 32 = a.cps.toList.count 32 + b.cps.toList.count 32 := by rw [app_cps, List.count_append]
theorem cnt_blank : (Str.ofString " ").cps.toList.count 32 = 1 := by decide +kernel
/-- an odd value, and if it is a text, then none of a measure -/
def OddBad (C : Addr) (H : Hp) (v : V) : Prop := Odd C H v ∧ ∀ z, v = .str z → goodW (wordsZ z) = false
theorem OddBad.ext {C : Addr} {H H' : Hp} {v : V} (e : LamX.ExtN H H') (h : OddBad C H v) : OddBad C H' v := ⟨h.1.ext e, h.2⟩
theorem bad_str {C : Addr} {H : Hp} {z : Str} (h : OkS z 10000) (hb : goodW (wordsZ z) = false) : OddBad C H (.str z) := ⟨.str h, fun w e => by cases e; exact hb⟩
theorem bad_no {C : Addr} {H : Hp} {v : V} (h : Odd C H v) (hn : ∀ z, v ≠ .str z) : OddBad C H v := ⟨h, fun z e => absurd e (hn z)⟩
def sp_law (K : PySem.W.Frag) (tabs : List (Addr × Str)) : Sp := fun vs H Q _ => ∃ (a : Addr) (ns : List Int), vs = [.ref a] ∧ SqL K H a (ns.map V.int) ∧ ns.length ≤ 63 ∧ LamX.Tabs tabs H ∧ ∀ H', Q (.bl true) H'
theorem range_get {lo : Int} {n i : Nat} {x : V} (h : (rangeV lo n)[i]? = some x) : x = .int (lo + (i : Int)) ∧ i < n := by
  have hi := (List.getElem?_eq_some_iff.mp h).1
  unfold rangeV at h hi
  rw [List.length_map, List.length_range] at hi
  rw [List.getElem?_map, List.getElem?_range hi] at h
  exact ⟨(Option.some.inj h).symm, hi⟩
theorem atI_succ {α : Type} {xs : List α} {j : Nat} {y : α} (h : xs[j + 1]? = some y) : atI xs ((j : Int) + 1) = some y := by
  have e : ((j : Int) + 1) = ((j + 1 : Nat) : Int) := by omega
  rw [e]
  exact atI_nat h
/-- what goes on from H0 on: all but the tables, and the tables are tables -/
structure W0 (tabs : List (Addr × Str)) (H0 H : Hp) : Prop where
  ext : LamX.ExtN H0 H
  tab : LamX.Tabs tabs H
theorem W0.ex {tabs : List (Addr × Str)} {H0 H H' : Hp} (w : W0 tabs H0 H) (e : Ex H H') : W0 tabs H0 H' := ⟨w.ext.trans e.n, w.tab.ext e⟩
theorem W0.to {tabs : List (Addr × Str)} {H0 H H' : Hp} (w : W0 tabs H0 H) (e : LamX.ExtN H H') (t : LamX.Tabs tabs H') : W0 tabs H0 H' := ⟨w.ext.trans e, t⟩
theorem W0.box {tabs : List (Addr × Str)} {H0 H H' : Hp} {p : Addr} {n : Nat} (w : W0 tabs H0 H) (hb : BoxAt H p n) (hp : H0 p = none) (x : ExB p H H') : W0 tabs H0 H' := by
  obtain ⟨o, ho, a, b, c, e, _⟩ := hb
  subst e
  refine ⟨fun d u hd hu => x d u (ne_of_none hd hp) (w.ext d u hd hu), fun z hz => ?_⟩
  obtain ⟨ps, h1, h2, h3⟩ := w.tab z hz
  refine ⟨ps, x _ _ (fun e => ?_) h1, h2, fun pos cv hc => ?_⟩
  · rw [e, ho] at h1
    cases h1
  · obtain ⟨c', e1, e2⟩ := h3 pos cv hc
    refine ⟨c', e1, x _ _ (fun e => ?_) e2⟩
    rw [e, ho] at e2
    unfold LamX.CodeO at e2
    cases e2
end G

set_option Elab.async false
set_option linter.all false
set_option maxRecDepth 100000
set_option maxHeartbeats 3900000
namespace K03
open PySem PySem.Spec PyProof.Rows L2 G
local macro_rules | `(tactic| walk_at "g") => `(tactic| first
  | (with_reducible refine' w_seq ?_)
  | ((with_reducible refine' w_var ?h ?_); (case h => exact rfl))
  | (with_reducible refine' w_c ?_)
  | (with_reducible refine' w_op ?_)
  | (with_reducible refine' w_asg ?_)
  | (with_reducible refine' w_gname ?_)
  | (with_reducible refine' w_ifS ?_)
  | (with_reducible refine' w_test ?_)
  | (with_reducible refine' w_bl ?_)
  | (with_reducible refine' w_CB ?_)
  | (with_reducible refine' w_cons ?_)
  | (with_reducible refine' w_nil ?_)
  | (with_reducible refine' w_call ?_)
  | (with_reducible refine' w_ret ?_)
  | (with_reducible refine' w_drop ?_)
  | (with_reducible refine' w_next ?_)
  | (with_reducible refine' w_and ?_)
  | (with_reducible refine' w_or ?_)
  | (with_reducible refine' w_not ?_)
  | (with_reducible refine' w_andV ?_)
  | (with_reducible refine' w_orV ?_)
  | (with_reducible refine' w_notV ?_)
  | (with_reducible refine' w_if ?_)
  | (with_reducible refine' w_chain ?_)
  | (with_reducible refine' w_B ?_)
  | (with_reducible refine' w_un ?_)
  | (with_reducible refine' w_lst ?_)
  | (with_reducible refine' w_tup ?_)
  | (with_reducible refine' w_gsub ?_)
  | (with_reducible refine' w_par ?_)
  | (with_reducible refine' w_two ?_)
  | (with_reducible refine' w_sl ?_)
  | (with_reducible refine' w_retN ?_)
  | (with_reducible refine' w_yes ?_)
  | (with_reducible refine' w_m1 ?_)
  | (with_reducible refine' w_pair0 ?_)
  | (with_reducible refine' w_pair1 ?_)
  | (with_reducible refine' c_reprB ?_)
  | (with_reducible refine' w_noPart ?_)
  | (with_reducible refine' w_part ?_)
  | (with_reducible refine' w_isI ?_)
  | (with_reducible refine' w_make ?_)
  | (with_reducible refine' w_sfld ?_)
  | (with_reducible refine' w_fld ?_)
  | (with_reducible refine' w_lc ?_)
  | (with_reducible refine' w_for ?_)
  | (with_reducible refine' w_iR1 ?_)
  | (with_reducible refine' w_iR2 ?_)
  | ((with_reducible refine' w_lcW ?h ?_); (case h => exact rfl))
  | (with_reducible refine' m_strT ?_)
  | (with_reducible refine' w_bm0 ?_)
  | (with_reducible refine' w_bm ?_)
  | (with_reducible refine' m_str ?_)
  | (with_reducible refine' m_s0 ?_)
  | ((with_reducible refine' m_lst ?h ?_); (case h => first | assumption | exact SqL.of upd_same | exact SqL.of (by assumption)))
  | (with_reducible refine' a_addI ?_)
  | (with_reducible refine' a_I0 ?_)
  | ((with_reducible refine' a_mulI ?h ?_); (case h => first | exact .inl ⟨by decide, by decide⟩ | exact .inr ⟨by decide, by decide⟩ | exact .inl ⟨by omega, by omega⟩ | exact .inr ⟨by omega, by omega⟩))
  | ((with_reducible refine' a_fdiv ?h ?_); (case h => first | exact ⟨by decide, by decide⟩ | exact ⟨by omega, by omega⟩))
  | ((with_reducible refine' a_mod ?h ?_); (case h => first | decide | omega))
  | ((with_reducible refine' a_pow ?h ?_); (case h => first | exact ⟨by decide, by decide, by decide⟩ | exact ⟨by decide, by decide, by omega⟩))
  | (with_reducible refine' a_neg ?_)
  | (with_reducible refine' a_ltI ?_)
  | (with_reducible refine' a_leI ?_)
  | (with_reducible refine' a_gtI ?_)
  | (with_reducible refine' a_geI ?_)
  | (with_reducible refine' a_ltS ?_)
  | (with_reducible refine' a_eqI ?_)
  | (with_reducible refine' a_eqS ?_)
  | (with_reducible refine' a_neI ?_)
  | (with_reducible refine' a_neS ?_)
  | (with_reducible refine' a_isnotB ?_)
  | (with_reducible refine' a_isB ?_)
  | (with_reducible refine' a_isN ?_)
  | (with_reducible refine' a_isnotN ?_)
  | ((with_reducible refine' a_ixL ?h1 ?h2 ?_); (case h1 => first | assumption | exact upd_same); (case h2 => exact rfl))
  | ((with_reducible refine' a_set ?h1 ?h2 ?_); (case h1 => first | assumption | exact upd_same); (case h2 => exact rfl))
  | (with_reducible refine' c_int ?_)
  | (with_reducible refine' c_intB ?_)
  | (with_reducible refine' c_max ?_)
  | (with_reducible refine' c_min ?_)
  | ((with_reducible refine' a_fdiv ?h ?_); (case h => first | exact ⟨by decide, by decide⟩ | exact ⟨by omega, by omega⟩))
  | (with_reducible refine' iteT ?_)
  | (with_reducible refine' iteF ?_)
  | (with_reducible refine' iteNT ?_)
  | (with_reducible refine' iteNF ?_)
  | (with_reducible refine' w_js ?_)
  | (with_reducible refine' w_jsn ?_)
  | (with_reducible refine' w_fmt ?_)
  | ((with_reducible refine' w_makeL ?h ?_); (case h => exact rfl))
  | (with_reducible refine' w_raiseE ?_)
  | (with_reducible refine' w_getE ?_)
  | ((with_reducible refine' w_callW ?h ?_); (case h => exact rfl))
  | (with_reducible refine' w_cmeth ?_)
  | (with_reducible refine' is_of ?_)
  | ((with_reducible refine' w_lam1 ?h ?_); (case h => assumption)))
def topS (i : Nat) : Stmt := PySem.Challenge.pw_chaincompass_k03_measures_as_text.main.body.getD i (.Pass ⟨0, 0, 0, 0⟩)
abbrev s_is_name : Stmt := topS 10
theorem sc_is_name : FnScope ["value"] ["value"] (defScope s_is_name) := ⟨rfl, rfl, rfl, by decide +kernel, rfl, by decide +kernel, by decide +kernel⟩
abbrev s_Measure_init : Stmt := inClass (topS 11) 0
theorem sc_Measure_init : FnScope ["self", "kind", "one", "other", "name"] ["self", "kind", "one", "other"] (defScope s_Measure_init) := ⟨rfl, rfl, rfl, by decide +kernel, rfl, by decide +kernel, by decide +kernel⟩
abbrev s_Measure_read : Stmt := inClass (topS 11) 1
theorem sc_Measure_read : FnScope ["cls", "text", "words"] ["cls", "text"] (defScope s_Measure_read) := ⟨rfl, rfl, rfl, by decide +kernel, rfl, by decide +kernel, by decide +kernel⟩
abbrev s_Measure_eq : Stmt := inClass (topS 11) 4
theorem sc_Measure_eq : FnScope ["self", "other"] ["self", "other"] (defScope s_Measure_eq) := ⟨rfl, rfl, rfl, by decide +kernel, rfl, by decide +kernel, by decide +kernel⟩
abbrev s_Measure_str : Stmt := inClass (topS 11) 6
theorem sc_Measure_str : FnScope ["self"] ["self"] (defScope s_Measure_str) := ⟨rfl, rfl, rfl, by decide +kernel, rfl, by decide +kernel, by decide +kernel⟩
abbrev s_l_cell : Stmt := topS 13
theorem sc_l_cell : FnScope ["_law_script", "_law_k"] ["_law_script", "_law_k"] (defScope s_l_cell) := ⟨rfl, rfl, rfl, by decide +kernel, rfl, by decide +kernel, by decide +kernel⟩
abbrev s_l_box : Stmt := topS 14
theorem sc_l_box : FnScope ["_law_cell_here"] ["_law_cell_here"] (defScope s_l_box) := ⟨rfl, rfl, rfl, by decide +kernel, rfl, by decide +kernel, by decide +kernel⟩
abbrev s_l_take : Stmt := topS 15
theorem sc_l_take : FnScope ["_law_box_here", "_law_many", "_law_digit", "_law_found"] ["_law_box_here", "_law_many"] (defScope s_l_take) := ⟨rfl, rfl, rfl, by decide +kernel, rfl, by decide +kernel, by decide +kernel⟩
abbrev s_l_mixed : Stmt := topS 16
theorem sc_l_mixed : FnScope ["_law_box_here", "_law_some", "_law_left", "_law_k"] ["_law_box_here", "_law_some"] (defScope s_l_mixed) := ⟨rfl, rfl, rfl, by decide +kernel, rfl, by decide +kernel, by decide +kernel⟩
abbrev s_l_names : Stmt := topS 17
theorem sc_l_names : FnScope ["_law_box_here", "_law_many", "_law_way", "_law_first", "_law_letters", "_law_base", "_law_size", "_law_k"] ["_law_box_here", "_law_many"] (defScope s_l_names) := ⟨rfl, rfl, rfl, by decide +kernel, rfl, by decide +kernel, by decide +kernel⟩
abbrev s_l_caught : Stmt := topS 18
theorem sc_l_caught : FnScope ["_law_ask", "_law_odd", "e"] ["_law_ask", "_law_odd"] (defScope s_l_caught) := ⟨rfl, rfl, rfl, by decide +kernel, rfl, by decide +kernel, by decide +kernel⟩
abbrev s_l_is : Stmt := topS 19
theorem sc_l_is : FnScope ["_law_found", "_law_word", "_law_odd"] ["_law_found", "_law_word", "_law_odd"] (defScope s_l_is) := ⟨rfl, rfl, rfl, by decide +kernel, rfl, by decide +kernel, by decide +kernel⟩
abbrev s_l_read : Stmt := topS 20
theorem sc_l_read : FnScope ["_law_text", "_law_words", "_law_word", "_law_sign"] ["_law_text"] (defScope s_l_read) := ⟨rfl, rfl, rfl, by decide +kernel, rfl, by decide +kernel, by decide +kernel⟩
abbrev s_l_spoilt : Stmt := topS 21
theorem sc_l_spoilt : FnScope ["_law_box_here", "_law_text", "_law_at", "_law_way", "_law_sign", "_law_words", "_law_one", "_law_other", "_law_gone"] ["_law_box_here", "_law_text"] (defScope s_l_spoilt) := ⟨rfl, rfl, rfl, by decide +kernel, rfl, by decide +kernel, by decide +kernel⟩
abbrev s_l_text_right : Stmt := topS 22
theorem sc_l_text_right : FnScope ["_law_text", "_law_due", "_law_found"] ["_law_text"] (defScope s_l_text_right) := ⟨rfl, rfl, rfl, by decide +kernel, rfl, by decide +kernel, by decide +kernel⟩
abbrev s_law : Stmt := topS 23
theorem sc_law : FnScope ["_law_script", "_law_k", "_law_box_here", "_law_names_here", "_law_lap", "_law_kind", "_law_at", "_law_text", "_law_turn", "_law_measure", "_law_odds", "_law_odd"] ["_law_script"] (defScope s_law) := ⟨rfl, rfl, rfl, by decide +kernel, rfl, by decide +kernel, by decide +kernel⟩
structure Top (P : Program) (K : PySem.W.Frag) (mg : Str → Option Value) where
  f_is_name : Addr
  fd_is_name : FuncData
  F_is_name : Fun K "is_name" "is_name" s_is_name f_is_name fd_is_name
  b_is_name : Binds K fd_is_name ["value"] []
  g_is_name : mg "is_name" = some (.ref f_is_name)
  f_Measure_init : Addr
  fd_Measure_init : FuncData
  F_Measure_init : Fun K "__init__" "Measure.__init__" s_Measure_init f_Measure_init fd_Measure_init
  b_Measure_init : Binds K fd_Measure_init ["self", "kind", "one", "other"] []
  f_Measure_read : Addr
  fd_Measure_read : FuncData
  F_Measure_read : Fun K "read" "Measure.read" s_Measure_read f_Measure_read fd_Measure_read
  b_Measure_read : Binds K fd_Measure_read ["cls", "text"] []
  f_Measure_eq : Addr
  fd_Measure_eq : FuncData
  F_Measure_eq : Fun K "__eq__" "Measure.__eq__" s_Measure_eq f_Measure_eq fd_Measure_eq
  b_Measure_eq : Binds K fd_Measure_eq ["self", "other"] []
  f_Measure_str : Addr
  fd_Measure_str : FuncData
  F_Measure_str : Fun K "__str__" "Measure.__str__" s_Measure_str f_Measure_str fd_Measure_str
  b_Measure_str : Binds K fd_Measure_str ["self"] []
  f_l_cell : Addr
  fd_l_cell : FuncData
  F_l_cell : Fun K "_law_cell" "_law_cell" s_l_cell f_l_cell fd_l_cell
  b_l_cell : Binds K fd_l_cell ["_law_script", "_law_k"] []
  g_l_cell : mg "_law_cell" = some (.ref f_l_cell)
  f_l_box : Addr
  fd_l_box : FuncData
  F_l_box : Fun K "_law_box" "_law_box" s_l_box f_l_box fd_l_box
  b_l_box : Binds K fd_l_box ["_law_cell_here"] []
  g_l_box : mg "_law_box" = some (.ref f_l_box)
  f_l_take : Addr
  fd_l_take : FuncData
  F_l_take : Fun K "_law_take" "_law_take" s_l_take f_l_take fd_l_take
  b_l_take : Binds K fd_l_take ["_law_box_here", "_law_many"] []
  g_l_take : mg "_law_take" = some (.ref f_l_take)
  f_l_mixed : Addr
  fd_l_mixed : FuncData
  F_l_mixed : Fun K "_law_mixed" "_law_mixed" s_l_mixed f_l_mixed fd_l_mixed
  b_l_mixed : Binds K fd_l_mixed ["_law_box_here", "_law_some"] []
  g_l_mixed : mg "_law_mixed" = some (.ref f_l_mixed)
  f_l_names : Addr
  fd_l_names : FuncData
  F_l_names : Fun K "_law_names" "_law_names" s_l_names f_l_names fd_l_names
  b_l_names : Binds K fd_l_names ["_law_box_here", "_law_many"] []
  g_l_names : mg "_law_names" = some (.ref f_l_names)
  f_l_caught : Addr
  fd_l_caught : FuncData
  F_l_caught : Fun K "_law_caught" "_law_caught" s_l_caught f_l_caught fd_l_caught
  b_l_caught : Binds K fd_l_caught ["_law_ask", "_law_odd"] []
  g_l_caught : mg "_law_caught" = some (.ref f_l_caught)
  f_l_is : Addr
  fd_l_is : FuncData
  F_l_is : Fun K "_law_is" "_law_is" s_l_is f_l_is fd_l_is
  b_l_is : Binds K fd_l_is ["_law_found", "_law_word", "_law_odd"] []
  g_l_is : mg "_law_is" = some (.ref f_l_is)
  f_l_read : Addr
  fd_l_read : FuncData
  F_l_read : Fun K "_law_read" "_law_read" s_l_read f_l_read fd_l_read
  b_l_read : Binds K fd_l_read ["_law_text"] []
  g_l_read : mg "_law_read" = some (.ref f_l_read)
  f_l_spoilt : Addr
  fd_l_spoilt : FuncData
  F_l_spoilt : Fun K "_law_spoilt" "_law_spoilt" s_l_spoilt f_l_spoilt fd_l_spoilt
  b_l_spoilt : Binds K fd_l_spoilt ["_law_box_here", "_law_text"] []
  g_l_spoilt : mg "_law_spoilt" = some (.ref f_l_spoilt)
  f_l_text_right : Addr
  fd_l_text_right : FuncData
  F_l_text_right : Fun K "_law_text_right" "_law_text_right" s_l_text_right f_l_text_right fd_l_text_right
  b_l_text_right : Binds K fd_l_text_right ["_law_text"] []
  g_l_text_right : mg "_law_text_right" = some (.ref f_l_text_right)
  f_law : Addr
  fd_law : FuncData
  F_law : Fun K "law" "law" s_law f_law fd_law
  b_law : Binds K fd_law ["_law_script"] []
  g_law : mg "law" = some (.ref f_law)
  C_Measure : Addr
  g_Measure : mg "Measure" = some (.ref C_Measure)
  cl_Measure : Cls K C_Measure
  M_Measure : Mk K C_Measure f_Measure_init
  n_Measure_own_kind : NoAttr K C_Measure "own_kind"
  n_Measure_own_ends : NoAttr K C_Measure "own_ends"
  ih_Measure : PySem.W.findIn K (.ref C_Measure) "__class__" = some (some (.builtin "object.__class__"))
  in_Measure : PySem.W.specialIn K (.builtin "object.__class__") "__get__" = some (some (.builtin "getset_descriptor.__get__"))
  it_Measure : PySem.W.takesIn K (.builtin "object.__class__") = some true
  im_Measure : PySem.W.mroIn K C_Measure (.type "object") = some true
  C_NetError : Addr
  g_NetError : mg "NetError" = some (.ref C_NetError)
  u_LENGTH : Value
  g_LENGTH : mg "LENGTH" = some u_LENGTH
  r_LENGTH : RelV (.str "length") u_LENGTH
  u_BEARING : Value
  g_BEARING : mg "BEARING" = some u_BEARING
  r_BEARING : RelV (.str "bearing") u_BEARING
  m_isinstance : mg "isinstance" = none
  m_int : mg "int" = none
  m_bool : mg "bool" = none
  m_str : mg "str" = none
  m_len : mg "len" = none
  m_max : mg "max" = none
  m_min : mg "min" = none
  m_range : mg "range" = none
  m_list : mg "list" = none
  m_sorted : mg "sorted" = none
  C_InvalidText : Addr
  I_InvalidText : Addr
  g_InvalidText : mg "InvalidText" = some (.ref C_InvalidText)
  E_InvalidText : PySem.ErrX.ErrTxt P K mg "InvalidText" "text" C_InvalidText I_InvalidText
  x_InvalidText_InvalidText : PySem.W.exmOne K (.ref C_InvalidText) (.ref C_InvalidText) = some true
  c_l_text_right : Addr
  P_l_text_right : Addr
  hc_l_text_right : fd_l_text_right.code = .ref c_l_text_right
  c_law : Addr
  P_law : Addr
  hc_law : fd_law.code = .ref c_law
  pn_l_text_right_law : P_l_text_right ≠ P_law
  mc_M : Value
  cr_M : ClX.CRead K C_Measure mc_M
  pr_M : Addr
  cm_M : ClX.CMet K C_Measure mc_M "read" pr_M f_Measure_read
  eq_M : PySem.W.findIn K (.ref C_Measure) "__eq__" = some (some (.ref f_Measure_eq))
  fe_M : PySem.W.isFn K (.ref f_Measure_eq) = true
  kb_M : PySem.W.kitOne K (.ref C_Measure) (.type "bool") = some false
  ks_M : PySem.W.kitOne K (.ref C_Measure) (.type "str") = some false
  ki_M : PySem.W.kitOne K (.ref C_Measure) (.type "int") = some false
  st_M : PySem.W.findIn K (.ref C_Measure) "__str__" = some (some (.ref f_Measure_str))
  fs_M : PySem.W.isFn K (.ref f_Measure_str) = true
variable {P : Program} {K : PySem.W.Frag} {mg : Str → Option Value}
def Top.tabs (T : Top P K mg) : List (Addr × Str) := [(T.P_l_text_right, ("_law_text_right" : Str) ++ ".<locals>." ++ "<lambda>"), (T.P_law, ("law" : Str) ++ ".<locals>." ++ "<lambda>")]
structure Tbs (T : Top P K mg) (base : Heap) : Prop where
  t_l_text_right : LamX.TabB base mg T.c_l_text_right T.P_l_text_right
  t_law : LamX.TabB base mg T.c_law T.P_law
theorem Tbs.up {T : Top P K mg} {B B' : Heap} (t : Tbs T B) (k : ∀ b o, B.get? b = some o → B'.get? b = some o) : Tbs T B' := ⟨tab_up t.t_l_text_right k, tab_up t.t_law k⟩
theorem Top.in_l_text_right (T : Top P K mg) : (T.P_l_text_right, ("_law_text_right" : Str) ++ ".<locals>." ++ "<lambda>") ∈ T.tabs := List.mem_cons_self
theorem Top.un_l_text_right (T : Top P K mg) : ∀ z ∈ T.tabs, z.1 = T.P_l_text_right → z.2 = ("_law_text_right" : Str) ++ ".<locals>." ++ "<lambda>" := by
  intro z hz e
  simp only [Top.tabs, List.mem_cons, List.not_mem_nil, or_false] at hz
  rcases hz with rfl | rfl
  · rfl
  · exact absurd e.symm T.pn_l_text_right_law
theorem Top.in_law (T : Top P K mg) : (T.P_law, ("law" : Str) ++ ".<locals>." ++ "<lambda>") ∈ T.tabs := List.mem_cons_of_mem _ (List.mem_cons_self)
theorem Top.un_law (T : Top P K mg) : ∀ z ∈ T.tabs, z.1 = T.P_law → z.2 = ("law" : Str) ++ ".<locals>." ++ "<lambda>" := by
  intro z hz e
  simp only [Top.tabs, List.mem_cons, List.not_mem_nil, or_false] at hz
  rcases hz with rfl | rfl
  · exact absurd e T.pn_l_text_right_law
  · rfl
end K03

set_option Elab.async false
set_option linter.all false
set_option maxRecDepth 100000
set_option maxHeartbeats 3900000
namespace K03
open PySem PySem.Spec PyProof.Rows L2 G
local macro_rules | `(tactic| walk_at "g") => `(tactic| first
  | (with_reducible refine' w_seq ?_)
  | ((with_reducible refine' w_var ?h ?_); (case h => exact rfl))
  | (with_reducible refine' w_c ?_)
  | (with_reducible refine' w_op ?_)
  | (with_reducible refine' w_asg ?_)
  | (with_reducible refine' w_gname ?_)
  | (with_reducible refine' w_ifS ?_)
  | (with_reducible refine' w_test ?_)
  | (with_reducible refine' w_bl ?_)
  | (with_reducible refine' w_CB ?_)
  | (with_reducible refine' w_cons ?_)
  | (with_reducible refine' w_nil ?_)
  | (with_reducible refine' w_call ?_)
  | (with_reducible refine' w_ret ?_)
  | (with_reducible refine' w_drop ?_)
  | (with_reducible refine' w_next ?_)
  | (with_reducible refine' w_and ?_)
  | (with_reducible refine' w_or ?_)
  | (with_reducible refine' w_not ?_)
  | (with_reducible refine' w_andV ?_)
  | (with_reducible refine' w_orV ?_)
  | (with_reducible refine' w_notV ?_)
  | (with_reducible refine' w_if ?_)
  | (with_reducible refine' w_chain ?_)
  | (with_reducible refine' w_B ?_)
  | (with_reducible refine' w_un ?_)
  | (with_reducible refine' w_lst ?_)
  | (with_reducible refine' w_tup ?_)
  | (with_reducible refine' w_gsub ?_)
  | (with_reducible refine' w_par ?_)
  | (with_reducible refine' w_two ?_)
  | (with_reducible refine' w_sl ?_)
  | (with_reducible refine' w_retN ?_)
  | (with_reducible refine' w_yes ?_)
  | (with_reducible refine' w_m1 ?_)
  | (with_reducible refine' w_pair0 ?_)
  | (with_reducible refine' w_pair1 ?_)
  | (with_reducible refine' c_reprB ?_)
  | (with_reducible refine' w_noPart ?_)
  | (with_reducible refine' w_part ?_)
  | (with_reducible refine' w_isI ?_)
  | (with_reducible refine' w_make ?_)
  | (with_reducible refine' w_sfld ?_)
  | (with_reducible refine' w_fld ?_)
  | (with_reducible refine' w_lc ?_)
  | (with_reducible refine' w_for ?_)
  | (with_reducible refine' w_iR1 ?_)
  | (with_reducible refine' w_iR2 ?_)
  | ((with_reducible refine' w_lcW ?h ?_); (case h => exact rfl))
  | (with_reducible refine' m_strT ?_)
  | (with_reducible refine' w_bm0 ?_)
  | (with_reducible refine' w_bm ?_)
  | (with_reducible refine' m_str ?_)
  | (with_reducible refine' m_s0 ?_)
  | ((with_reducible refine' m_lst ?h ?_); (case h => first | assumption | exact SqL.of upd_same | exact SqL.of (by assumption)))
  | (with_reducible refine' a_addI ?_)
  | (with_reducible refine' a_I0 ?_)
  | ((with_reducible refine' a_mulI ?h ?_); (case h => first | exact .inl ⟨by decide, by decide⟩ | exact .inr ⟨by decide, by decide⟩ | exact .inl ⟨by omega, by omega⟩ | exact .inr ⟨by omega, by omega⟩))
  | ((with_reducible refine' a_fdiv ?h ?_); (case h => first | exact ⟨by decide, by decide⟩ | exact ⟨by omega, by omega⟩))
  | ((with_reducible refine' a_mod ?h ?_); (case h => first | decide | omega))
  | ((with_reducible refine' a_pow ?h ?_); (case h => first | exact ⟨by decide, by decide, by decide⟩ | exact ⟨by decide, by decide, by omega⟩))
  | (with_reducible refine' a_neg ?_)
  | (with_reducible refine' a_ltI ?_)
  | (with_reducible refine' a_leI ?_)
  | (with_reducible refine' a_gtI ?_)
  | (with_reducible refine' a_geI ?_)
  | (with_reducible refine' a_ltS ?_)
  | (with_reducible refine' a_eqI ?_)
  | (with_reducible refine' a_eqS ?_)
  | (with_reducible refine' a_neI ?_)
  | (with_reducible refine' a_neS ?_)
  | (with_reducible refine' a_isnotB ?_)
  | (with_reducible refine' a_isB ?_)
  | (with_reducible refine' a_isN ?_)
  | (with_reducible refine' a_isnotN ?_)
  | ((with_reducible refine' a_ixL ?h1 ?h2 ?_); (case h1 => first | assumption | exact upd_same); (case h2 => exact rfl))
  | ((with_reducible refine' a_set ?h1 ?h2 ?_); (case h1 => first | assumption | exact upd_same); (case h2 => exact rfl))
  | (with_reducible refine' c_int ?_)
  | (with_reducible refine' c_intB ?_)
  | (with_reducible refine' c_max ?_)
  | (with_reducible refine' c_min ?_)
  | ((with_reducible refine' a_fdiv ?h ?_); (case h => first | exact ⟨by decide, by decide⟩ | exact ⟨by omega, by omega⟩))
  | (with_reducible refine' iteT ?_)
  | (with_reducible refine' iteF ?_)
  | (with_reducible refine' iteNT ?_)
  | (with_reducible refine' iteNF ?_)
  | (with_reducible refine' w_js ?_)
  | (with_reducible refine' w_jsn ?_)
  | (with_reducible refine' w_fmt ?_)
  | ((with_reducible refine' w_makeL ?h ?_); (case h => exact rfl))
  | (with_reducible refine' w_raiseE ?_)
  | (with_reducible refine' w_getE ?_)
  | ((with_reducible refine' w_callW ?h ?_); (case h => exact rfl))
  | (with_reducible refine' w_cmeth ?_)
  | (with_reducible refine' is_of ?_)
  | ((with_reducible refine' w_lam1 ?h ?_); (case h => assumption)))
theorem ok_l_cell {P : Program} {w : World} {K : PySem.W.Frag} {mg : Str → Option Value} {base : Heap} (T : Top P K mg) : FnOk P w K mg base CX0 (1) T.f_l_cell T.fd_l_cell ["_law_script", "_law_k"] (sp_cell K) := by
  refine T.F_l_cell.ok sc_l_cell (fun vs H Q E h => ?_) (fun cdv A outer s H vs Q E hr h => ?_)
  · obtain ⟨a, ns, k, rfl, hS, hl, hk, q⟩ := h
    rfl
  · obtain ⟨a, ns, k, rfl, hS, hl, hk, q⟩ := h
    refine ⟨_, (pss_cons (ps_if (pt_cmpR op_ltU (pv 1) (pe_callB (call_lenU (K := K) rfl) (by rfl) T.m_len PySem.boot_len (pa_cons (pv 0) pa_nil)) (nomark _)) (pss_one (ps_ret (pe_ix (ix_U (K := K) rfl) (pv 0) (pv 1) (fun _ _ => rfl)))) pss_nil)
      (pss_one (ps_ret (pe_op op_addU (pe_op op_mulU pe_int (pv 1)) pe_int)))), ?_⟩
    repeat walk_at "g"
    refine c_lenL hS ?_
    repeat walk_at "g"
    refine iteD (fun h => ?_) (fun h => ?_)
    · repeat walk_at "g"
      rw [List.length_map] at h
      have h1 : k < ns.length := by omega
      refine a_ixLK hS (atI_nat (j := k) (by rw [List.getElem?_map, List.getElem?_eq_getElem h1]; rfl)) ?_
      exact q _
    · repeat walk_at "g"
      exact q _

theorem ok_l_box {P : Program} {w : World} {K : PySem.W.Frag} {mg : Str → Option Value} {base : Heap} (T : Top P K mg) : FnOk P w K mg base CX0 (1) T.f_l_box T.fd_l_box ["_law_cell_here"] (sp_box) := by
  refine T.F_l_box.ok sc_l_box (fun vs H Q E h => ?_) (fun cdv A outer s H vs Q E hr h => ?_)
  · obtain ⟨c, rfl, q⟩ := h
    rfl
  · obtain ⟨c, rfl, q⟩ := h
    refine ⟨_, (pss_one (ps_ret (pe_lst (pa_cons (pe_callB (call_maxU (K := K) rfl rfl) (by rfl) T.m_max (by decide +kernel) (pa_cons pe_int (pa_cons (pe_op op_sub (pv 0) (pe_op op_powU pe_int pe_int)) pa_nil))) (pa_cons (pe_op op_modU (pe_callTy call_intU (by rfl) T.m_int (by decide +kernel) (pa_cons (pv 0) pa_nil)) pe_int) (pa_cons pe_int pa_nil)))))), ?_⟩
    repeat walk_at "g"
    refine newL_of rfl fun p hp => q p _ hp ⟨_, _, _, rfl, ?_, fmod_lo _ (by decide), fmod_hi _ (by decide), by decide, by decide⟩
    split <;> omega

theorem ok_l_take {P : Program} {w : World} {K : PySem.W.Frag} {mg : Str → Option Value} {base : Heap} (T : Top P K mg) : FnOk P w K mg base CX0 (1) T.f_l_take T.fd_l_take ["_law_box_here", "_law_many"] (sp_take) := by
  refine T.F_l_take.ok sc_l_take (fun vs H Q E h => ?_) (fun cdv A outer s H vs Q E hr h => ?_)
  · obtain ⟨p, m, o, n, rfl, hp, ⟨a, b, c, rfl, ha, hb, hb2, hc, hc2⟩, hn, hm, hm2, q⟩ := h
    rfl
  · obtain ⟨p, m, o, n, rfl, hp, ⟨a, b, c, rfl, ha, hb, hb2, hc, hc2⟩, hn, hm, hm2, q⟩ := h
    refine ⟨_, (pss_cons (ps_if (pt_cmpR op_gtU (pe_ix (ix_U (K := K) rfl) (pv 0) pe_int (fun _ _ => rfl)) pe_int (nomark _)) (pss_cons (ps_set (i := 2) sc_l_take.nd rfl (Or.inl rfl) (pe_op op_modU (pe_callTy call_intU (by rfl) T.m_int (by decide +kernel) (pa_cons (pe_ix (ix_U (K := K) rfl) (pv 0) pe_int (fun _ _ => rfl)) pa_nil)) (pv 1)))
      (pss_cons (ps_asg (pe_op op_fdivU (pe_ix (ix_U (K := K) rfl) (pv 0) pe_int (fun _ _ => rfl)) (pv 1)) (pg_sub (pv 0) pe_int set_list))
      (pss_one (ps_ret (pv 2))))) pss_nil)
      (pss_cons (ps_asg (pe_op op_addU (pe_ix (ix_U (K := K) rfl) (pv 0) pe_int (fun _ _ => rfl)) pe_int) (pg_sub (pv 0) pe_int set_list))
      (pss_cons (ps_set (i := 3) sc_l_take.nd rfl (Or.inl rfl) (pe_op op_modU (pe_op op_powU (pe_callTy call_intU (by rfl) T.m_int (by decide +kernel) (pa_cons (pe_op op_addU (pe_op op_addU (pe_ix (ix_U (K := K) rfl) (pv 0) pe_int (fun _ _ => rfl)) (pe_op op_mulU pe_int (pe_ix (ix_U (K := K) rfl) (pv 0) pe_int (fun _ _ => rfl)))) pe_int) pa_nil)) pe_int) pe_int))
      (pss_cons (ps_set (i := 3) sc_l_take.nd rfl (Or.inl rfl) (pe_op op_modU (pe_op op_powU (pe_callTy call_intU (by rfl) T.m_int (by decide +kernel) (pa_cons (pe_op op_addU (pv 3) (pe_op op_mulU pe_int (pe_ix (ix_U (K := K) rfl) (pv 0) pe_int (fun _ _ => rfl)))) pa_nil)) pe_int) pe_int))
      (pss_one (ps_ret (pe_op op_modU (pe_callTy call_intU (by rfl) T.m_int (by decide +kernel) (pa_cons (pe_op op_fdivU (pv 3) pe_int) pa_nil)) (pv 1)))))))), ?_⟩
    repeat walk_at "g"
    refine iteD (fun h => ?_) (fun h => ?_)
    · repeat walk_at "g"
      exact q _ _ (fmod_lo _ hm) (fmod_hi _ hm) ⟨_, _, _, rfl, fdiv_lo ha hm, hb, hb2, hc, by omega⟩
    · repeat walk_at "g"
      have e1 := fmod_lo ((b + 5009 * (c + 1) + 103) ^ Int.toNat 5) (show (0 : Int) < 2147483647 by decide)
      have e2 := fmod_hi ((b + 5009 * (c + 1) + 103) ^ Int.toNat 5) (show (0 : Int) < 2147483647 by decide)
      repeat walk_at "g"
      exact q _ _ (fmod_lo _ hm) (fmod_hi _ hm) ⟨_, _, _, rfl, ha, hb, hb2, by omega, by omega⟩

theorem ok_is_name {P : Program} {w : World} {K : PySem.W.Frag} {mg : Str → Option Value} {base : Heap} (T : Top P K mg) : FnOk P w K mg base CX0 (1) T.f_is_name T.fd_is_name ["value"] (sp_is_name K) := by
  refine T.F_is_name.ok sc_is_name (fun vs H Q E h => ?_) (fun cdv A outer s H vs Q E hr h => ?_)
  · obtain ⟨v, rfl, h⟩ := h
    rfl
  · obtain ⟨v, rfl, h⟩ := h
    refine ⟨_, (pss_cons (ps_if (PW.pt (pw_or (pt_not (pt_val (pe_callB (call_isiU (K := K) rfl) (by rfl) T.m_isinstance (by decide +kernel) (pa_cons (pv 0) (pa_cons (pe_bltn (v := .ty "str") (by rfl) T.m_str (by decide +kernel) rfl) pa_nil))))) (pw_or1 (pt_not (pt_chain op_leU op_leU pe_int (pe_callB (call_lenU (K := K) rfl) (by rfl) T.m_len PySem.boot_len (pa_cons (pv 0) pa_nil)) pe_int))))) (pss_one (ps_ret pe_bl)) pss_nil)
      (pss_one (ps_ret (pe_and (pe_bm0U (K := K) rfl PySem.F.plainAttrs_str PySem.F.slot_str_isascii PySem.F.type_str_isascii mt_isasciiU (pv 0)) (pe_and (pe_bm0U (K := K) rfl PySem.F.plainAttrs_str PySem.F.slot_str_isalpha PySem.F.type_str_isalpha mt_isalphaU (pv 0)) (pe_one (pe_bm0U (K := K) rfl PySem.F.plainAttrs_str PySem.F.slot_str_islower PySem.F.type_str_islower mt_islowerU (pv 0)))))))), ?_⟩
    rcases h with ⟨z, rfl, hz, q⟩ | ⟨⟨Ty, ty, kt⟩, q⟩
    · have hz2 : z.length ≤ sizeLine := hz.line
      repeat walk_at "g"
      refine c_isi (.base (.str z)) (b := true) (kit_ty (by decide +kernel)) ?_
      repeat walk_at "g"
      refine c_lenS hz2 ?_
      repeat walk_at "g"
      refine iteD (fun h => ?_) (fun h => ?_)
      · repeat walk_at "g"
        refine iteND (fun h2 => ?_) (fun h2 => ?_)
        · repeat walk_at "g"
          have e : isName z = false := by
            unfold isName
            rw [decide_eq_false (show ¬ z.length ≤ 8 by omega), Bool.false_and, Bool.and_false]
          rw [e] at q
          exact q.here
        · have e : isName z = (Txt.isascii z && (Txt.isalpha z && Txt.islower z)) := by
            rw [name_tests z (by omega)]
            unfold isName
            rw [decide_eq_true (show z.length ≤ 8 by omega), decide_eq_true (show 1 ≤ z.length by omega), Bool.true_and, Bool.true_and]
          rw [e] at q
          repeat walk_at "g"
          cases h3 : Txt.isascii z with
          | false =>
            rw [h3] at q
            exact iteF q.here
          | true =>
            rw [h3] at q
            refine iteT ?_
            repeat walk_at "g"
            cases h4 : Txt.isalpha z with
            | false =>
              rw [h4] at q
              exact iteF q.here
            | true =>
              rw [h4] at q
              refine iteT ?_
              repeat walk_at "g"
              exact q.here
      · repeat walk_at "g"
        have e : isName z = false := by
          unfold isName
          rw [decide_eq_false (show ¬ 1 ≤ z.length by omega), Bool.false_and]
        rw [e] at q
        exact q.here
    · repeat walk_at "g"
      refine c_isi ty (b := false) kt ?_
      repeat walk_at "g"
      exact q.here

theorem ok_Measure_init {P : Program} {w : World} {K : PySem.W.Frag} {mg : Str → Option Value} {base : Heap} (T : Top P K mg) : FnOk P w K mg base CX0 (2) T.f_Measure_init T.fd_Measure_init ["self", "kind", "one", "other"] (sp_Measure T.C_Measure) := by
  refine T.F_Measure_init.ok sc_Measure_init (fun vs H Q E h => ?_) (fun cdv A outer s H vs Q E hr h => ?_)
  · obtain ⟨x, dx, k, a, b, rfl, hx, hk, ha, hb, hab, q⟩ := h
    rfl
  · obtain ⟨x, dx, k, a, b, rfl, hx, hk, ha, hb, hab, q⟩ := h
    refine ⟨_, (pss_cons (ps_if (PW.pt (pw_or (pt_not (pt_val (pe_callB (call_isiU (K := K) rfl) (by rfl) T.m_isinstance (by decide +kernel) (pa_cons (pv 1) (pa_cons (pe_bltn (v := .ty "str") (by rfl) T.m_str (by decide +kernel) rfl) pa_nil))))) (pw_or1 (pt_cmpR (op_notInU (K := K) rfl) (pv 1) (pe_tup (pa_cons (pe_glob (by rfl) T.g_LENGTH T.r_LENGTH) (pa_cons (pe_glob (by rfl) T.g_BEARING T.r_BEARING) pa_nil))) (by rfl))))) (pss_one ps_never) pss_nil)
      (pss_cons (ps_for PassesOwn.never rfl (pi_U (K := K) rfl (pe_tup (pa_cons (pv 2) (pa_cons (pv 3) pa_nil)))) (pg_name (i := 4) sc_Measure_init.nd rfl (Or.inl rfl)) (pss_one (ps_if (pt_not (pt_val (pe_call (ok_is_name T) (hr.mono (by decide)) (by rfl) T.g_is_name T.F_is_name.kp T.b_is_name .nil pass0 (pa_cons (pv 4) pa_nil)))) (pss_one ps_never) pss_nil)))
      (pss_cons (ps_if (pt_cmpR (op_eqU (K := K) rfl hr.units) (pv 2) (pv 3) (nomark _)) (pss_one ps_never) pss_nil)
      (pss_cons (ps_fldU (K := K) rfl (pv 0) (pv 1) rfl)
      (pss_one (ps_fldU (K := K) rfl (pv 0) (pe_ifExp (pt_cmpR op_ltU (pv 2) (pv 3) (nomark _)) (pe_tup (pa_cons (pv 2) (pa_cons (pv 3) pa_nil))) (pe_tup (pa_cons (pv 3) (pa_cons (pv 2) pa_nil)))) rfl)))))), ?_⟩
    repeat walk_at "g"
    refine c_isi (.base (.str k)) (b := true) (kit_ty (by decide +kernel)) ?_
    repeat walk_at "g"
    refine newT_of rfl fun t1 ht1 => ?_
    refine a_ninT (.of upd_same) rfl rfl ?_
    have e1 : (!inV (.str k) [.str "length", .str "bearing"]) = false := by
      rcases hk with rfl | rfl <;> decide +kernel
    rw [e1]
    repeat walk_at "g"
    refine w_iT ?_
    repeat walk_at "g"
    refine newT_of rfl fun t2 ht2 => ?_
    have ex0 : Ex H (upd (upd H t1 (.tup [.str "length", .str "bearing"])) t2 (.tup [.str a, .str b])) := (Ex.new ht1).trans (Ex.new ht2)
    refine it_T (.of upd_same) (for_walk wk_tup (fun _ σ H' => (∃ v, σ = [some (.ref x), some (.str k), some (.str a), some (.str b), v]) ∧ Ex (upd (upd H t1 (.tup [.str "length", .str "bearing"])) t2 (.tup [.str a, .str b])) H') ⟨⟨none, rfl⟩, Ex.refl _⟩ (fun _ _ _ p => p.2.t (.of upd_same)) (fun i y σ H' hy p => ?_) (fun σ H' p => ?_))
    · obtain ⟨⟨v, rfl⟩, e⟩ := p
      repeat walk_at "g"
      have hy2 : ∃ z, y = .str z ∧ isName z = true := by
        rcases List.mem_of_getElem? hy with _ | ⟨_, _ | ⟨_, h⟩⟩
        · exact ⟨a, rfl, ha⟩
        · exact ⟨b, rfl, hb⟩
        · cases h
      obtain ⟨z, rfl, hz⟩ := hy2
      refine ⟨.str z, rfl, .inl ⟨z, rfl, (isName_ok hz).mono (by decide), fun H'' e2 => ?_⟩⟩
      rw [hz]
      repeat walk_at "g"
      exact ⟨⟨_, rfl⟩, e.trans e2⟩
    · obtain ⟨⟨v, rfl⟩, e⟩ := p
      repeat walk_at "g"
      rw [decide_eq_false hab]
      repeat walk_at "g"
      have hx1 : H' x = some (.ins T.C_Measure dx []) := e _ _ (ex0 _ _ hx)
      refine put_of hx1 T.cl_Measure T.n_Measure_own_kind (by decide) ?_
      repeat walk_at "g"
      have fin : ∀ (t : Addr) (p1 p2 : Str), upd H' x (.ins T.C_Measure dx (putF "own_kind" (.str k) [])) t = none → p1 = lo2 a b → p2 = hi2 a b → putR K "own_ends" (V.ref x) (V.ref t) (upd (upd H' x (.ins T.C_Measure dx (putF "own_kind" (.str k) []))) t (.tup [.str p1, .str p2])) fun H3 => Q V.non H3 := fun t p1 p2 ht e1 e2 => by
        subst e1 e2
        have nt : x ≠ t := ne_of_none upd_same ht
        refine put_of ((upd_ne nt).trans upd_same) T.cl_Measure T.n_Measure_own_ends (by simp [putF]) (q _ (ExB.upd (ExB.new (ExB.upd (ExB.of (ex0.trans e))) ht)) ⟨dx, t, ?_, ?_⟩)
        · rw [upd_same]
          rfl
        · rw [upd_ne nt.symm, upd_same]
      refine iteD (fun h => ?_) (fun h => ?_)
      · repeat walk_at "g"
        refine newT_of rfl fun t ht => ?_
        repeat walk_at "g"
        exact fin t a b ht (if_pos h).symm (if_pos h).symm
      · repeat walk_at "g"
        refine newT_of rfl fun t ht => ?_
        repeat walk_at "g"
        exact fin t b a ht (if_neg h).symm (if_neg h).symm


end K03

set_option Elab.async false
set_option linter.all false
set_option maxRecDepth 100000
set_option maxHeartbeats 3900000
namespace K03
open PySem PySem.Spec PyProof.Rows L2 G
local macro_rules | `(tactic| walk_at "g") => `(tactic| first
  | (with_reducible refine' w_seq ?_)
  | ((with_reducible refine' w_var ?h ?_); (case h => exact rfl))
  | (with_reducible refine' w_c ?_)
  | (with_reducible refine' w_op ?_)
  | (with_reducible refine' w_asg ?_)
  | (with_reducible refine' w_gname ?_)
  | (with_reducible refine' w_ifS ?_)
  | (with_reducible refine' w_test ?_)
  | (with_reducible refine' w_bl ?_)
  | (with_reducible refine' w_CB ?_)
  | (with_reducible refine' w_cons ?_)
  | (with_reducible refine' w_nil ?_)
  | (with_reducible refine' w_call ?_)
  | (with_reducible refine' w_ret ?_)
  | (with_reducible refine' w_drop ?_)
  | (with_reducible refine' w_next ?_)
  | (with_reducible refine' w_and ?_)
  | (with_reducible refine' w_or ?_)
  | (with_reducible refine' w_not ?_)
  | (with_reducible refine' w_andV ?_)
  | (with_reducible refine' w_orV ?_)
  | (with_reducible refine' w_notV ?_)
  | (with_reducible refine' w_if ?_)
  | (with_reducible refine' w_chain ?_)
  | (with_reducible refine' w_B ?_)
  | (with_reducible refine' w_un ?_)
  | (with_reducible refine' w_lst ?_)
  | (with_reducible refine' w_tup ?_)
  | (with_reducible refine' w_gsub ?_)
  | (with_reducible refine' w_par ?_)
  | (with_reducible refine' w_two ?_)
  | (with_reducible refine' w_sl ?_)
  | (with_reducible refine' w_retN ?_)
  | (with_reducible refine' w_yes ?_)
  | (with_reducible refine' w_m1 ?_)
  | (with_reducible refine' w_pair0 ?_)
  | (with_reducible refine' w_pair1 ?_)
  | (with_reducible refine' c_reprB ?_)
  | (with_reducible refine' w_noPart ?_)
  | (with_reducible refine' w_part ?_)
  | (with_reducible refine' w_isI ?_)
  | (with_reducible refine' w_make ?_)
  | (with_reducible refine' w_sfld ?_)
  | (with_reducible refine' w_fld ?_)
  | (with_reducible refine' w_lc ?_)
  | (with_reducible refine' w_for ?_)
  | (with_reducible refine' w_iR1 ?_)
  | (with_reducible refine' w_iR2 ?_)
  | ((with_reducible refine' w_lcW ?h ?_); (case h => exact rfl))
  | (with_reducible refine' m_strT ?_)
  | (with_reducible refine' w_bm0 ?_)
  | (with_reducible refine' w_bm ?_)
  | (with_reducible refine' m_str ?_)
  | (with_reducible refine' m_s0 ?_)
  | ((with_reducible refine' m_lst ?h ?_); (case h => first | assumption | exact SqL.of upd_same | exact SqL.of (by assumption)))
  | (with_reducible refine' a_addI ?_)
  | (with_reducible refine' a_I0 ?_)
  | ((with_reducible refine' a_mulI ?h ?_); (case h => first | exact .inl ⟨by decide, by decide⟩ | exact .inr ⟨by decide, by decide⟩ | exact .inl ⟨by omega, by omega⟩ | exact .inr ⟨by omega, by omega⟩))
  | ((with_reducible refine' a_fdiv ?h ?_); (case h => first | exact ⟨by decide, by decide⟩ | exact ⟨by omega, by omega⟩))
  | ((with_reducible refine' a_mod ?h ?_); (case h => first | decide | omega))
  | ((with_reducible refine' a_pow ?h ?_); (case h => first | exact ⟨by decide, by decide, by decide⟩ | exact ⟨by decide, by decide, by omega⟩))
  | (with_reducible refine' a_neg ?_)
  | (with_reducible refine' a_ltI ?_)
  | (with_reducible refine' a_leI ?_)
  | (with_reducible refine' a_gtI ?_)
  | (with_reducible refine' a_geI ?_)
  | (with_reducible refine' a_ltS ?_)
  | (with_reducible refine' a_eqI ?_)
  | (with_reducible refine' a_eqS ?_)
  | (with_reducible refine' a_neI ?_)
  | (with_reducible refine' a_neS ?_)
  | (with_reducible refine' a_isnotB ?_)
  | (with_reducible refine' a_isB ?_)
  | (with_reducible refine' a_isN ?_)
  | (with_reducible refine' a_isnotN ?_)
  | ((with_reducible refine' a_ixL ?h1 ?h2 ?_); (case h1 => first | assumption | exact upd_same); (case h2 => exact rfl))
  | ((with_reducible refine' a_set ?h1 ?h2 ?_); (case h1 => first | assumption | exact upd_same); (case h2 => exact rfl))
  | (with_reducible refine' c_int ?_)
  | (with_reducible refine' c_intB ?_)
  | (with_reducible refine' c_max ?_)
  | (with_reducible refine' c_min ?_)
  | ((with_reducible refine' a_fdiv ?h ?_); (case h => first | exact ⟨by decide, by decide⟩ | exact ⟨by omega, by omega⟩))
  | (with_reducible refine' iteT ?_)
  | (with_reducible refine' iteF ?_)
  | (with_reducible refine' iteNT ?_)
  | (with_reducible refine' iteNF ?_)
  | (with_reducible refine' w_js ?_)
  | (with_reducible refine' w_jsn ?_)
  | (with_reducible refine' w_fmt ?_)
  | ((with_reducible refine' w_makeL ?h ?_); (case h => exact rfl))
  | (with_reducible refine' w_raiseE ?_)
  | (with_reducible refine' w_getE ?_)
  | ((with_reducible refine' w_callW ?h ?_); (case h => exact rfl))
  | (with_reducible refine' w_cmeth ?_)
  | (with_reducible refine' is_of ?_)
  | ((with_reducible refine' w_lam1 ?h ?_); (case h => assumption)))
theorem ok_Measure_str {P : Program} {w : World} {K : PySem.W.Frag} {mg : Str → Option Value} {base : Heap} (T : Top P K mg) : FnOk P w K mg base CX0 (1) T.f_Measure_str T.fd_Measure_str ["self"] (sp_strM T.C_Measure) := by
  refine T.F_Measure_str.ok sc_Measure_str (fun vs H Q E h => ?_) (fun cdv A outer s H vs Q E hr h => ?_)
  · obtain ⟨x, k, a, b, rfl, ⟨dx, t, hx, ht⟩, lk, la, lb, q⟩ := h
    rfl
  · obtain ⟨x, k, a, b, rfl, ⟨dx, t, hx, ht⟩, lk, la, lb, q⟩ := h
    refine ⟨_, (pss_one (ps_ret (pe_joined (.cons (pe_fmt (pe_fldU (K := K) rfl (pv 0) rfl)) (.cons pe_str (.cons (pe_fmt (pe_ix (ix_U (K := K) rfl) (pe_fldU (K := K) rfl (pv 0) rfl) pe_int (fun _ _ => rfl))) (.cons pe_str (.cons (pe_fmt (pe_ix (ix_U (K := K) rfl) (pe_fldU (K := K) rfl (pv 0) rfl) pe_int (fun _ _ => rfl))) .nil)))))))), ?_⟩
    have big : (1000000 : Nat) ≤ sizeLine := by decide
    have l0 : Str.empty.length = 0 := rfl
    have l1 : (Str.ofString " ").length = 1 := by decide +kernel
    repeat walk_at "g"
    refine get_of hx T.cl_Measure T.n_Measure_own_kind rfl ?_
    refine fmt_s (by omega) ?_
    refine js_of (n := 0) (by omega) (by decide) (by decide) ?_
    repeat walk_at "g"
    refine js_of (n := 1) (by decide) (by simp only [len_app]; omega) (by decide) ?_
    repeat walk_at "g"
    refine get_of hx T.cl_Measure T.n_Measure_own_ends rfl ?_
    repeat walk_at "g"
    refine a_ixT (.of ht) rfl ?_
    refine fmt_s (by omega) ?_
    refine js_of (n := 2) (by omega) (by simp only [len_app]; omega) (by decide) ?_
    repeat walk_at "g"
    refine js_of (n := 3) (by decide) (by simp only [len_app]; omega) (by decide) ?_
    repeat walk_at "g"
    refine get_of hx T.cl_Measure T.n_Measure_own_ends rfl ?_
    repeat walk_at "g"
    refine a_ixT (.of ht) rfl ?_
    refine fmt_s (by omega) ?_
    refine js_of (n := 4) (by omega) (by simp only [len_app]; omega) (by decide) ?_
    repeat walk_at "g"
    exact q

theorem ok_Measure_eq {P : Program} {w : World} {K : PySem.W.Frag} {mg : Str → Option Value} {base : Heap} (T : Top P K mg) : FnOk P w K mg base CX0 (1) T.f_Measure_eq T.fd_Measure_eq ["self", "other"] (sp_eqM T.C_Measure) := by
  refine T.F_Measure_eq.ok sc_Measure_eq (fun vs H Q E h => ?_) (fun cdv A outer s H vs Q E hr h => ?_)
  · obtain ⟨x, y, k, a, b, k', a', b', rfl, ⟨dx, t, hx, ht⟩, ⟨dy, t', hy, ht'⟩, ok, oa, ob, ok', oa', ob', q⟩ := h
    rfl
  · obtain ⟨x, y, k, a, b, k', a', b', rfl, ⟨dx, t, hx, ht⟩, ⟨dy, t', hy, ht'⟩, ok, oa, ob, ok', oa', ob', q⟩ := h
    refine ⟨_, (pss_one (ps_ret (pe_and (pe_callB (call_isiU (K := K) rfl) (by rfl) T.m_isinstance (by decide +kernel) (pa_cons (pv 1) (pa_cons (pe_glob (v := .ref T.C_Measure) (by rfl) T.g_Measure rfl) pa_nil))) (pe_and (pe_cmpR (op_eqU (K := K) rfl hr.units) (pe_fldU (K := K) rfl (pv 0) rfl) (pe_fldU (K := K) rfl (pv 1) rfl) (nomark _)) (pe_one (pe_cmpR (op_eqU (K := K) rfl hr.units) (pe_fldU (K := K) rfl (pv 0) rfl) (pe_fldU (K := K) rfl (pv 1) rfl) (nomark _))))))), ?_⟩
    repeat walk_at "g"
    refine c_isiC (.base (.ins hy T.cl_Measure T.ih_Measure T.in_Measure T.it_Measure T.im_Measure)) kit_self ?_
    repeat walk_at "g"
    refine get_of hx T.cl_Measure T.n_Measure_own_kind rfl ?_
    repeat walk_at "g"
    refine get_of hy T.cl_Measure T.n_Measure_own_kind rfl ?_
    repeat walk_at "g"
    by_cases e : k = k'
    · rw [decide_eq_true e]
      repeat walk_at "g"
      refine get_of hx T.cl_Measure T.n_Measure_own_ends rfl ?_
      repeat walk_at "g"
      refine get_of hy T.cl_Measure T.n_Measure_own_ends rfl ?_
      refine a_eqD (.tup (.of ht) (dps_str [a, b])) (.tup (.of ht') (dps_str [a', b'])) (shaped_strsT (ys := [a, b]) ?_) (shaped_strsT (ys := [a', b']) ?_) ?_
      · simp [oa.2, ob.2]
      · simp [oa'.2, ob'.2]
      · have e2 : PyData.eqv (.tuple ([a, b].map PyData.str)) (.tuple ([a', b'].map PyData.str)) = decide (k = k' ∧ a = a' ∧ b = b') := by
          rw [Bool.eq_iff_iff]
          simp [PyData.eqv, PyData.eqvAll, e]
        rw [e2]
        exact q
    · rw [decide_eq_false e]
      repeat walk_at "g"
      rw [decide_eq_false (fun h => e h.1)] at q
      exact q

theorem ok_l_mixed {P : Program} {w : World} {K : PySem.W.Frag} {mg : Str → Option Value} {base : Heap} (T : Top P K mg) : FnOk P w K mg base CX0 (2) T.f_l_mixed T.fd_l_mixed ["_law_box_here", "_law_some"] (sp_mixed K) := by
  refine T.F_l_mixed.ok sc_l_mixed (fun vs H Q E h => ?_) (fun cdv A outer s H vs Q E hr h => ?_)
  · obtain ⟨p, a, n, xs, rfl, hb, hn, hS, hl, q⟩ := h
    rfl
  · obtain ⟨p, a, n, xs, rfl, hb, hn, hS, hl, q⟩ := h
    refine ⟨_, (pss_cons (ps_set (i := 2) sc_l_mixed.nd rfl (Or.inr rfl) (pe_callTy (call_listU (K := K) rfl) (by rfl) T.m_list (by decide +kernel) (pa_cons (pv 1) pa_nil)))
      (pss_one (ps_ret (pe_lc (own := [("_law_k", 3)]) (g := gName 3) rfl sc_l_mixed.nd (pi_range1 (by rfl) T.m_range (pa_cons (pe_callB (call_lenU (K := K) rfl) (by rfl) T.m_len PySem.boot_len (pa_cons (pv 1) pa_nil)) pa_nil)) (blkOk_by (own := [("_law_k", 3)]) (N := ["_law_box_here", "_law_some", "_law_left", "_law_k"]) (sc := defScope s_l_mixed) (by decide +kernel)) (fun _ _ _ _ _ => (pg_name (i := 3) sc_l_mixed.nd rfl (Or.inl rfl))) (fun _ _ _ _ _ => pts_nil) (fun _ _ _ _ _ => (pe_bmU (K := K) rfl PySem.F.plainAttrs_list PySem.F.slot_list_pop PySem.F.type_list_pop mt_popAt (pv 2) (pa_cons (pe_call (ok_l_take T) (hr.mono (by decide)) (by rfl) T.g_l_take T.F_l_take.kp T.b_l_take .nil pass0 (pa_cons (pv 0) (pa_cons (pe_callB (call_lenU (K := K) rfl) (by rfl) T.m_len PySem.boot_len (pa_cons (pv 2) pa_nil)) pa_nil))) pa_nil))))))), ?_⟩
    repeat walk_at "g"
    refine ⟨a, _, rfl, .inl hS, fun lf hlf => ?_⟩
    have np : p ≠ lf := hb.ne hlf
    have hS1 := (Ex.new hlf (o := .lst (xs.map V.str))).l hS
    have hb1 := hb.new hlf (o := .lst (xs.map V.str))
    repeat walk_at "g"
    refine c_lenL hS1 ?_
    repeat walk_at "g"
    refine it_R1 (by rw [List.length_map]; omega) (by rw [List.length_map]; omega) ?_
    refine lc_walk wk_range (fun D i H2 => upd H lf (.lst (xs.map V.str)) D = none ∧ ExB p H H2 ∧ BoxAt H2 p (n + i) ∧ ∃ ys zs : List Str, H2 lf = some (.lst (zs.map V.str)) ∧ H2 D = some (.lst (ys.map V.str)) ∧ ys.length = i ∧ (ys ++ zs).Perm xs)
      (fun D hD => ⟨hD, (ExB.refl H).new hlf |>.new hD, hb1.new hD, [], xs, (upd_ne (ne_of_none upd_same hD)).trans upd_same, upd_same, rfl, List.Perm.refl _⟩) (fun _ _ _ _ => trivial) (fun D i x H2 hx P => ?_) (fun D H2 hD P => ?_)
    · obtain ⟨hD, xx, hb2, ys, zs, h1, h2, hi, pm⟩ := P
      have hi2 : i < xs.length := by
        have := (List.getElem?_eq_some_iff.mp hx).1
        unfold rangeV at this
        rw [List.length_map, List.length_range, List.length_map] at this
        omega
      have hz : zs.length = xs.length - i := by
        have := pm.length_eq
        rw [List.length_append] at this
        omega
      have nD : D ≠ p := (hb1.ne hD).symm
      have nDl : lf ≠ D := ne_of_none upd_same hD
      repeat walk_at "g"
      refine c_lenL (.of h1) ?_
      repeat walk_at "g"
      rw [List.length_map]
      refine take_of hb2 (by omega) (by omega) (by omega) fun d H3 hd0 hd1 hb3 x3 => ?_
      repeat walk_at "g"
      have hk : d.toNat < zs.length := by omega
      have h1' := x3.at h1 np.symm
      have h2' := x3.at h2 nD
      refine ⟨lf, zs.map V.str, d, d.toNat, V.str zs[d.toNat], rfl, rfl, h1', by omega, by omega, (ixN_seq (j := d.toNat) ?_).1, ?_, ?_⟩
      · unfold ixN
        rw [if_pos hd0, List.length_map, if_pos hd1]
      · rw [List.getElem?_map, List.getElem?_eq_getElem hk]
        rfl
      · refine ⟨ys.map V.str, (upd_ne nDl.symm).trans h2', by rw [List.length_map]; exact small1000 (by omega), hD, ((xx.trans x3).mut hlf).mut (by rw [upd_ne nDl.symm] at hD; exact hD), (hb3.upd np.symm).upd nD, ys ++ [zs[d.toNat]], zs.eraseIdx d.toNat, ?_, ?_, ?_, ?_⟩
        · rw [upd_ne nDl, upd_same, erase_map]
        · rw [upd_same, List.map_append]
          rfl
        · rw [List.length_append, hi]
          rfl
        · rw [List.append_assoc]
          exact ((erase_perm zs d.toNat hk).append_left ys).trans pm
    · obtain ⟨_, xx, hb2, ys, zs, h1, h2, hi, pm⟩ := P
      have hlen : (rangeV 0 ((xs.map V.str).length : Int).toNat).length = xs.length := by
        unfold rangeV
        rw [List.length_map, List.length_range, List.length_map]
        omega
      rw [hlen] at hb2 hi
      have hz : zs = [] := by
        have := pm.length_eq
        rw [List.length_append] at this
        exact List.eq_nil_of_length_eq_zero (by omega)
      rw [hz, List.append_nil] at pm
      rw [upd_ne (ne_of_none upd_same hD).symm] at hD
      exact q _ _ _ xx hb2 hD h2 pm


end K03

set_option Elab.async false
set_option linter.all false
set_option maxRecDepth 100000
set_option maxHeartbeats 3900000
namespace K03
open PySem PySem.Spec PyProof.Rows L2 G
local macro_rules | `(tactic| walk_at "g") => `(tactic| first
  | (with_reducible refine' w_seq ?_)
  | ((with_reducible refine' w_var ?h ?_); (case h => exact rfl))
  | (with_reducible refine' w_c ?_)
  | (with_reducible refine' w_op ?_)
  | (with_reducible refine' w_asg ?_)
  | (with_reducible refine' w_gname ?_)
  | (with_reducible refine' w_ifS ?_)
  | (with_reducible refine' w_test ?_)
  | (with_reducible refine' w_bl ?_)
  | (with_reducible refine' w_CB ?_)
  | (with_reducible refine' w_cons ?_)
  | (with_reducible refine' w_nil ?_)
  | (with_reducible refine' w_call ?_)
  | (with_reducible refine' w_ret ?_)
  | (with_reducible refine' w_drop ?_)
  | (with_reducible refine' w_next ?_)
  | (with_reducible refine' w_and ?_)
  | (with_reducible refine' w_or ?_)
  | (with_reducible refine' w_not ?_)
  | (with_reducible refine' w_andV ?_)
  | (with_reducible refine' w_orV ?_)
  | (with_reducible refine' w_notV ?_)
  | (with_reducible refine' w_if ?_)
  | (with_reducible refine' w_chain ?_)
  | (with_reducible refine' w_B ?_)
  | (with_reducible refine' w_un ?_)
  | (with_reducible refine' w_lst ?_)
  | (with_reducible refine' w_tup ?_)
  | (with_reducible refine' w_gsub ?_)
  | (with_reducible refine' w_par ?_)
  | (with_reducible refine' w_two ?_)
  | (with_reducible refine' w_sl ?_)
  | (with_reducible refine' w_retN ?_)
  | (with_reducible refine' w_yes ?_)
  | (with_reducible refine' w_m1 ?_)
  | (with_reducible refine' w_pair0 ?_)
  | (with_reducible refine' w_pair1 ?_)
  | (with_reducible refine' c_reprB ?_)
  | (with_reducible refine' w_noPart ?_)
  | (with_reducible refine' w_part ?_)
  | (with_reducible refine' w_isI ?_)
  | (with_reducible refine' w_make ?_)
  | (with_reducible refine' w_sfld ?_)
  | (with_reducible refine' w_fld ?_)
  | (with_reducible refine' w_lc ?_)
  | (with_reducible refine' w_for ?_)
  | (with_reducible refine' w_iR1 ?_)
  | (with_reducible refine' w_iR2 ?_)
  | ((with_reducible refine' w_lcW ?h ?_); (case h => exact rfl))
  | (with_reducible refine' m_strT ?_)
  | (with_reducible refine' w_bm0 ?_)
  | (with_reducible refine' w_bm ?_)
  | (with_reducible refine' m_str ?_)
  | (with_reducible refine' m_s0 ?_)
  | ((with_reducible refine' m_lst ?h ?_); (case h => first | assumption | exact SqL.of upd_same | exact SqL.of (by assumption)))
  | (with_reducible refine' a_addI ?_)
  | (with_reducible refine' a_I0 ?_)
  | ((with_reducible refine' a_mulI ?h ?_); (case h => first | exact .inl ⟨by decide, by decide⟩ | exact .inr ⟨by decide, by decide⟩ | exact .inl ⟨by omega, by omega⟩ | exact .inr ⟨by omega, by omega⟩))
  | ((with_reducible refine' a_fdiv ?h ?_); (case h => first | exact ⟨by decide, by decide⟩ | exact ⟨by omega, by omega⟩))
  | ((with_reducible refine' a_mod ?h ?_); (case h => first | decide | omega))
  | ((with_reducible refine' a_pow ?h ?_); (case h => first | exact ⟨by decide, by decide, by decide⟩ | exact ⟨by decide, by decide, by omega⟩))
  | (with_reducible refine' a_neg ?_)
  | (with_reducible refine' a_ltI ?_)
  | (with_reducible refine' a_leI ?_)
  | (with_reducible refine' a_gtI ?_)
  | (with_reducible refine' a_geI ?_)
  | (with_reducible refine' a_ltS ?_)
  | (with_reducible refine' a_eqI ?_)
  | (with_reducible refine' a_eqS ?_)
  | (with_reducible refine' a_neI ?_)
  | (with_reducible refine' a_neS ?_)
  | (with_reducible refine' a_isnotB ?_)
  | (with_reducible refine' a_isB ?_)
  | (with_reducible refine' a_isN ?_)
  | (with_reducible refine' a_isnotN ?_)
  | ((with_reducible refine' a_ixL ?h1 ?h2 ?_); (case h1 => first | assumption | exact upd_same); (case h2 => exact rfl))
  | ((with_reducible refine' a_set ?h1 ?h2 ?_); (case h1 => first | assumption | exact upd_same); (case h2 => exact rfl))
  | (with_reducible refine' c_int ?_)
  | (with_reducible refine' c_intB ?_)
  | (with_reducible refine' c_max ?_)
  | (with_reducible refine' c_min ?_)
  | ((with_reducible refine' a_fdiv ?h ?_); (case h => first | exact ⟨by decide, by decide⟩ | exact ⟨by omega, by omega⟩))
  | (with_reducible refine' iteT ?_)
  | (with_reducible refine' iteF ?_)
  | (with_reducible refine' iteNT ?_)
  | (with_reducible refine' iteNF ?_)
  | (with_reducible refine' w_js ?_)
  | (with_reducible refine' w_jsn ?_)
  | (with_reducible refine' w_fmt ?_)
  | ((with_reducible refine' w_makeL ?h ?_); (case h => exact rfl))
  | (with_reducible refine' w_raiseE ?_)
  | (with_reducible refine' w_getE ?_)
  | ((with_reducible refine' w_callW ?h ?_); (case h => exact rfl))
  | (with_reducible refine' w_cmeth ?_)
  | (with_reducible refine' is_of ?_)
  | ((with_reducible refine' w_lam1 ?h ?_); (case h => assumption)))
theorem ok_l_names {P : Program} {w : World} {K : PySem.W.Frag} {mg : Str → Option Value} {base : Heap} (T : Top P K mg) : FnOk P w K mg base CX0 (3) T.f_l_names T.fd_l_names ["_law_box_here", "_law_many"] (sp_names) := by
  refine T.F_l_names.ok sc_l_names (fun vs H Q E h => ?_) (fun cdv A outer s H vs Q E hr h => ?_)
  · obtain ⟨p, n, m, rfl, hb, hn, hm, q⟩ := h
    rfl
  · obtain ⟨p, n, m, rfl, hb, hn, hm, q⟩ := h
    refine ⟨_, (pss_cons (ps_asg (pe_tup (pa_cons (pe_call (ok_l_take T) (hr.mono (by decide)) (by rfl) T.g_l_take T.F_l_take.kp T.b_l_take .nil pass0 (pa_cons (pv 0) (pa_cons pe_int pa_nil))) (pa_cons (pe_call (ok_l_take T) (hr.mono (by decide)) (by rfl) T.g_l_take T.F_l_take.kp T.b_l_take .nil pass0 (pa_cons (pv 0) (pa_cons pe_int pa_nil))) pa_nil))) (pg_tupU (K := K) rfl rfl (pgs_cons (pg_name (i := 2) sc_l_names.nd rfl (Or.inl rfl)) (pgs_cons (pg_name (i := 3) sc_l_names.nd rfl (Or.inr rfl)) pgs_nil))))
      (pss_cons (ps_set (i := 4) sc_l_names.nd rfl (Or.inr rfl) pe_str)
      (pss_cons (ps_set (i := 5) sc_l_names.nd rfl (Or.inr rfl) (pe_joinU (K := K) rfl pe_str (pe_lc (own := [("_law_k", 7)]) (g := gName 7) rfl sc_l_names.nd (pi_range1 (by rfl) T.m_range (pa_cons pe_int pa_nil)) (blkOk_by (own := [("_law_k", 7)]) (N := ["_law_box_here", "_law_many", "_law_way", "_law_first", "_law_letters", "_law_base", "_law_size", "_law_k"]) (sc := defScope s_l_names) (by decide +kernel)) (fun _ _ _ _ _ => (pg_name (i := 7) sc_l_names.nd rfl (Or.inl rfl))) (fun _ _ _ _ _ => pts_nil) (fun _ _ _ _ _ => (pe_ix (ix_U (K := K) rfl) (pv 4) (pe_op op_modU (pe_callTy call_intU (by rfl) T.m_int (by decide +kernel) (pa_cons (pe_op op_addU (pv 3) (pe_op op_mulU pe_int (pv 7))) pa_nil)) pe_int) (fun _ _ => rfl))))))
      (pss_cons (ps_if (PW.pt (pw_and (pt_cmpR (op_eqU (K := K) rfl hr.units) (pv 2) pe_int (nomark _)) (pw_and1 (pt_cmpR op_ltU (pv 1) pe_int (nomark _))))) (pss_one (ps_ret (pe_call (ok_l_mixed T) (hr.mono (by decide)) (by rfl) T.g_l_mixed T.F_l_mixed.kp T.b_l_mixed .nil pass0 (pa_cons (pv 0) (pa_cons (pe_lc (own := [("_law_k", 7)]) (g := gName 7) rfl sc_l_names.nd (pi_range1 (by rfl) T.m_range (pa_cons (pv 1) pa_nil)) (blkOk_by (own := [("_law_k", 7)]) (N := ["_law_box_here", "_law_many", "_law_way", "_law_first", "_law_letters", "_law_base", "_law_size", "_law_k"]) (sc := defScope s_l_names) (by decide +kernel)) (fun _ _ _ _ _ => (pg_name (i := 7) sc_l_names.nd rfl (Or.inl rfl))) (fun _ _ _ _ _ => pts_nil) (fun _ _ _ _ _ => (pe_slice (sl_U (K := K) rfl) (pv 5) po_none (po_some (pe_op op_addU (pv 7) pe_int))))) pa_nil))))) pss_nil)
      (pss_cons (ps_if (PW.pt (pw_and (pt_cmpR (op_eqU (K := K) rfl hr.units) (pv 2) pe_int (nomark _)) (pw_and1 (pt_cmpR op_ltU (pv 1) pe_int (nomark _))))) (pss_one (ps_ret (pe_call (ok_l_mixed T) (hr.mono (by decide)) (by rfl) T.g_l_mixed T.F_l_mixed.kp T.b_l_mixed .nil pass0 (pa_cons (pv 0) (pa_cons (pe_lc (own := [("_law_k", 7)]) (g := gName 7) rfl sc_l_names.nd (pi_range1 (by rfl) T.m_range (pa_cons (pv 1) pa_nil)) (blkOk_by (own := [("_law_k", 7)]) (N := ["_law_box_here", "_law_many", "_law_way", "_law_first", "_law_letters", "_law_base", "_law_size", "_law_k"]) (sc := defScope s_l_names) (by decide +kernel)) (fun _ _ _ _ _ => (pg_name (i := 7) sc_l_names.nd rfl (Or.inl rfl))) (fun _ _ _ _ _ => pts_nil) (fun _ _ _ _ _ => (pe_op op_mulU (pe_ix (ix_U (K := K) rfl) (pv 4) (pv 3) (fun _ _ => rfl)) (pe_op op_addU (pv 7) pe_int)))) pa_nil))))) pss_nil)
      (pss_cons (ps_if (PW.pt (pw_and (pt_cmpR (op_eqU (K := K) rfl hr.units) (pv 2) pe_int (nomark _)) (pw_and1 (pt_cmpR op_ltU (pv 1) pe_int (nomark _))))) (pss_one (ps_ret (pe_slice (sl_U (K := K) rfl) (pe_call (ok_l_mixed T) (hr.mono (by decide)) (by rfl) T.g_l_mixed T.F_l_mixed.kp T.b_l_mixed .nil pass0 (pa_cons (pv 0) (pa_cons (pe_lst (pa_cons pe_str (pa_cons pe_str (pa_cons pe_str (pa_cons pe_str (pa_cons pe_str (pa_cons pe_str (pa_cons pe_str (pa_cons pe_str pa_nil))))))))) pa_nil))) po_none (po_some (pv 1))))) pss_nil)
      (pss_cons (ps_set (i := 6) sc_l_names.nd rfl (Or.inr rfl) (pe_call (ok_l_take T) (hr.mono (by decide)) (by rfl) T.g_l_take T.F_l_take.kp T.b_l_take .nil pass0 (pa_cons (pv 0) (pa_cons pe_int pa_nil))))
      (pss_cons (ps_if (pt_cmpR (op_eqU (K := K) rfl hr.units) (pv 2) pe_int (nomark _)) (pss_one (ps_ret (pe_lc (own := [("_law_k", 7)]) (g := gName 7) rfl sc_l_names.nd (pi_range1 (by rfl) T.m_range (pa_cons (pv 1) pa_nil)) (blkOk_by (own := [("_law_k", 7)]) (N := ["_law_box_here", "_law_many", "_law_way", "_law_first", "_law_letters", "_law_base", "_law_size", "_law_k"]) (sc := defScope s_l_names) (by decide +kernel)) (fun _ _ _ _ _ => (pg_name (i := 7) sc_l_names.nd rfl (Or.inl rfl))) (fun _ _ _ _ _ => pts_nil) (fun _ _ _ _ _ => (pe_op op_addU (pe_slice (sl_U (K := K) rfl) (pv 5) po_none (po_some (pv 6))) (pe_ix (ix_U (K := K) rfl) (pv 4) (pe_op op_modU (pe_callTy call_intU (by rfl) T.m_int (by decide +kernel) (pa_cons (pe_op op_addU (pv 3) (pe_op op_mulU pe_int (pv 7))) pa_nil)) pe_int) (fun _ _ => rfl))))))) pss_nil)
      (pss_one (ps_ret (pe_lc (own := [("_law_k", 7)]) (g := gName 7) rfl sc_l_names.nd (pi_range1 (by rfl) T.m_range (pa_cons (pv 1) pa_nil)) (blkOk_by (own := [("_law_k", 7)]) (N := ["_law_box_here", "_law_many", "_law_way", "_law_first", "_law_letters", "_law_base", "_law_size", "_law_k"]) (sc := defScope s_l_names) (by decide +kernel)) (fun _ _ _ _ _ => (pg_name (i := 7) sc_l_names.nd rfl (Or.inl rfl))) (fun _ _ _ _ _ => pts_nil) (fun _ _ _ _ _ => (pe_op op_addU (pe_ix (ix_U (K := K) rfl) (pv 4) (pe_op op_modU (pe_callTy call_intU (by rfl) T.m_int (by decide +kernel) (pa_cons (pe_op op_addU (pv 3) (pe_op op_mulU pe_int (pv 7))) pa_nil)) pe_int) (fun _ _ => rfl)) (pe_slice (sl_U (K := K) rfl) (pv 5) po_none (po_some (pe_op op_mulU (pv 6) (pe_op op_modU (pv 7) pe_int))))))))))))))))), ?_⟩
    repeat walk_at "g"
    refine take_of hb (by omega) (by decide) (by decide) fun wy H1 hw0 hw1 hb1 x1 => ?_
    repeat walk_at "g"
    refine take_of hb1 (by omega) (by decide) (by decide) fun f H2 hf0 hf1 hb2 x2 => ?_
    repeat walk_at "g"
    refine newT_of rfl fun tp htp => ?_
    refine g_two upd_same rfl ?_
    have hb3 := hb2.new htp (o := .tup [.int wy, .int f])
    have x3 : ExB p H (upd H2 tp (.tup [.int wy, .int f])) := (x1.trans x2).new htp
    generalize upd H2 tp (.tup [.int wy, .int f]) = H3 at hb3 x3
    repeat walk_at "g"
    refine it_R1 (by decide) (by decide) ?_
    refine lc_pure (ks := List.range 8) (F := fun (i : Nat) => V.int (0 + (i : Int))) wk_range (fun (k : Nat) => some (V.str (let1 (f + 5 * (k : Int))))) (fun _ _ => trivial) (by decide) (fun D k H' Nx hk e hr => ?_) (fun D hD => ?_)
    · repeat walk_at "g"
      refine a_ixS (by decide +kernel) (let1_at _) ?_
      rw [Int.zero_add]
      exact hr
    · rw [fm_range]
      refine m_joinL (.of upd_same) (by rw [show (Str.ofString "").length = 0 by decide +kernel]; show 8 + 8 * 0 ≤ 16777216; decide) ?_
      have hb4 := hb3.new hD (o := .lst (((List.range 8).map fun (k : Nat) => let1 (f + 5 * (k : Int))).map V.str))
      have x4 : ExB p H (upd H3 D (.lst (((List.range 8).map fun (k : Nat) => let1 (f + 5 * (k : Int))).map V.str))) := x3.new hD
      have B := base8_of f
      generalize upd H3 D (.lst (((List.range 8).map fun (k : Nat) => let1 (f + 5 * (k : Int))).map V.str)) = H4 at hb4 x4
      generalize Txt.join (Str.ofString "") ((List.range 8).map fun (k : Nat) => let1 (f + 5 * (k : Int))) = bs at B
      have lb : bs.length ≤ sizeLine := by
        rw [len_cps, B.len]
        decide
      have fin : ∀ (l : Addr) (xs : List Str) (H' : Hp) (j : Nat), j ≤ n + 11 → ExB p H4 H' → BoxAt H' p j → H4 l = none → H' l = some (.lst (xs.map V.str)) → Good xs m → Q (.ref l) H' := fun l xs H' j hj x5 hb5 hl h5 hg => by
        refine q H' l xs (x4.trans x5) (hb5.mono hj) ?_ h5 hg
        cases e : H l with
        | none => rfl
        | some o =>
          have := x4 l o (hb4.ne hl).symm e
          rw [hl] at this
          cases this
      have mx : ∀ (a : Addr) (xs : List Str) (H5 : Hp) (R : VK), H4 a = none → H5 = upd H4 a (.lst (xs.map V.str)) → xs.length ≤ 8 → (∀ (l : Addr) (ys : List Str) (H' : Hp), ExB p H4 H' → BoxAt H' p (n + 2 + xs.length) → H4 l = none → H' l = some (.lst (ys.map V.str)) → ys.Perm xs → R (.ref l) H') → sp_mixed K [.ref p, .ref a] H5 R E0 := fun a xs H5 R ha e hx r => by
        subst e
        refine ⟨p, a, n + 2, xs, rfl, hb4.new ha, by omega, .of upd_same, by omega, fun H' l ys y1 y2 y3 y4 y5 => r l ys H' ((ExB.of (Ex.new ha)).trans y1) y2 ?_ y4 y5⟩
        rw [upd_ne (fun z => by rw [z, upd_same] at y3; cases y3)] at y3
        exact y3
      have gz : ∀ (l : Addr) (xs : List Str) (ys : List V), H4 l = none → ys = xs.map V.str → Good xs m → Q (.ref l) (upd H4 l (.lst ys)) := fun l xs ys hl e hg => by
        subst e
        exact fin l xs _ (n + 2) (by omega) (ExB.of (Ex.new hl)) (hb4.new hl) hl upd_same hg
      have cs : (wy = 0 ∧ m < 9) ∨ (wy = 1 ∧ m < 9) ∨ (wy = 2 ∧ m < 9) ∨ wy = 3 ∨ wy = 4 ∨ (wy ≤ 2 ∧ 9 ≤ m) := by omega
      rcases cs with c | c | c | c | c | c
      all_goals repeat' (first | walk_at "g" | (refine iteD (fun h => ?_) (fun h => ?_) <;> try (exfalso; omega)))
      · refine it_R1 (by omega) (by omega) ?_
        rw [Int.toNat_natCast]
        refine lc_pure (ks := List.range m) (F := fun (i : Nat) => V.int (0 + (i : Int))) wk_range (fun (k : Nat) => some (V.str (cutS bs none (some ((k : Int) + 1))))) (fun _ _ => trivial) (by rw [List.length_range]; omega) (fun D k H' Nx hk e hr => ?_) (fun D2 hD2 => ?_)
        · repeat walk_at "g"
          refine a_slS lb ?_
          rw [Int.zero_add]
          exact hr
        · rw [fm_range]
          repeat walk_at "g"
          exact mx D2 _ _ _ hD2 rfl (by rw [(way0 B (show m ≤ 8 by omega)).len]; omega) fun l ys H' y1 y2 y3 y4 y5 => fin l ys H' _ (by rw [(way0 B (show m ≤ 8 by omega)).len]; omega) y1 y2 y3 y4 ((way0 B (by omega)).perm y5)
      · refine it_R1 (by omega) (by omega) ?_
        rw [Int.toNat_natCast]
        refine lc_pure (ks := List.range m) (F := fun (i : Nat) => V.int (0 + (i : Int))) wk_range (fun (k : Nat) => some (V.str (Txt.mul (let1 f) ((k : Int) + 1)))) (fun _ _ => trivial) (by rw [List.length_range]; omega) (fun D k H' Nx hk e hr => ?_) (fun D2 hD2 => ?_)
        · have hk2 := List.mem_range.mp hk
          repeat walk_at "g"
          refine a_ixS (by decide +kernel) (let1_self hf0 hf1) ?_
          repeat walk_at "g"
          rw [Int.zero_add]
          refine .inr (.inr ⟨_, _, rfl, rfl, by omega, by omega, ?_, hr⟩)
          have : (let1 f).length = 1 := rfl
          show (let1 f).length * _ ≤ _
          rw [this]
          omega
        · rw [fm_range]
          repeat walk_at "g"
          exact mx D2 _ _ _ hD2 rfl (by rw [(way1 f (show m ≤ 8 by omega)).len]; omega) fun l ys H' y1 y2 y3 y4 y5 => fin l ys H' _ (by rw [(way1 f (show m ≤ 8 by omega)).len]; omega) y1 y2 y3 y4 ((way1 f (by omega)).perm y5)
      · refine newL_of rfl fun a ha => ?_
        repeat walk_at "g"
        refine mx a eightS _ _ ha rfl (by decide) fun l ys H' y1 y2 y3 y4 y5 => ?_
        repeat walk_at "g"
        refine a_slL (.of y4) fun l2 hl2 => ?_
        rw [cutV_to V.str ys _ (by omega), Int.toNat_natCast]
        refine fin l2 (ys.take m) _ (n + 10) (by omega) (y1.new hl2) (y2.new hl2) ?_ upd_same ((eight_good.perm y5).take (by omega))
        cases e : H4 l2 with
        | none => rfl
        | some o =>
          have := y1 l2 o (y2.ne hl2).symm e
          rw [hl2] at this
          cases this
      all_goals refine take_of hb4 (by omega) (by decide) (by decide) fun sz H5 hs0 hs1 hb5 x5 => ?_
      all_goals repeat' (first | walk_at "g" | (refine iteD (fun h => ?_) (fun h => ?_) <;> try (exfalso; omega)))
      all_goals refine it_R1 (by omega) (by omega) ?_
      all_goals rw [Int.toNat_natCast]
      all_goals have big : (1000000 : Nat) ≤ sizeLine := by decide
      all_goals
        have lcut : ∀ x, 0 ≤ x → (cutS bs none (some x)).length ≤ 8 := fun x hx => by
          rw [len_cps, cut_to _ _ hx, List.length_take, B.len]
          omega
      all_goals
        have dn : ∀ (D2 : Addr) (xs : List Str), H5 D2 = none → Good xs m → Q (.ref D2) (upd H5 D2 (.lst (xs.map V.str))) := fun D2 xs hD2 hg => by
          refine fin D2 xs _ (n + 3) (by omega) (x5.new hD2) (hb5.new hD2) ?_ upd_same hg
          cases e : H4 D2 with
          | none => rfl
          | some o =>
            have := x5 D2 o (hb5.ne hD2).symm e
            rw [hD2] at this
            cases this
      · refine lc_pure (ks := List.range m) (F := fun (i : Nat) => V.int (0 + (i : Int))) wk_range (fun (k : Nat) => some (V.str (cutS bs none (some sz) ++ let1 (f + 7 * (k : Int))))) (fun _ _ => trivial) (by rw [List.length_range]; omega) (fun D k H' Nx hk e hr => ?_) (fun D2 hD2 => ?_)
        · repeat walk_at "g"
          refine a_slS lb ?_
          repeat walk_at "g"
          refine a_ixS (by decide +kernel) (let1_at _) ?_
          rw [Int.zero_add]
          refine a_addS ?_ hr
          have := lcut sz hs0
          show _ + 1 ≤ _
          omega
        · rw [fm_range]
          repeat walk_at "g"
          exact dn D2 _ hD2 (way3 B f sz hs0 hs1 hm)
      all_goals refine lc_pure (ks := List.range m) (F := fun (i : Nat) => V.int (0 + (i : Int))) wk_range (fun (k : Nat) => some (V.str (let1 (f + 7 * (k : Int)) ++ cutS bs none (some (sz * ((k : Int).fmod 2)))))) (fun _ _ => trivial) (by rw [List.length_range]; omega) (fun D k H' Nx hk e hr => ?_) (fun D2 hD2 => ?_)
      all_goals first
        | (rw [fm_range]
           repeat walk_at "g"
           exact dn D2 _ hD2 (way4 B f sz hs0 hs1 hm))
        | (repeat walk_at "g"
           refine a_ixS (by decide +kernel) (let1_at _) ?_
           repeat walk_at "g"
           rw [Int.zero_add]
           have a := fmod_lo (k : Int) (show (0 : Int) < 2 by decide)
           have b := fmod_hi (k : Int) (show (0 : Int) < 2 by decide)
           have c : (k : Int).fmod 2 = 0 ∨ (k : Int).fmod 2 = 1 := by omega
           have h2 : 0 ≤ sz * ((k : Int).fmod 2) := by rcases c with c | c <;> rw [c] <;> omega
           refine a_slS lb ?_
           refine a_addS ?_ hr
           have := lcut _ h2
           show 1 + _ ≤ _
           omega)


end K03

set_option Elab.async false
set_option linter.all false
set_option maxRecDepth 100000
set_option maxHeartbeats 3900000
namespace K03
open PySem PySem.Spec PyProof.Rows L2 G
local macro_rules | `(tactic| walk_at "g") => `(tactic| first
  | (with_reducible refine' w_seq ?_)
  | ((with_reducible refine' w_var ?h ?_); (case h => exact rfl))
  | (with_reducible refine' w_c ?_)
  | (with_reducible refine' w_op ?_)
  | (with_reducible refine' w_asg ?_)
  | (with_reducible refine' w_gname ?_)
  | (with_reducible refine' w_ifS ?_)
  | (with_reducible refine' w_test ?_)
  | (with_reducible refine' w_bl ?_)
  | (with_reducible refine' w_CB ?_)
  | (with_reducible refine' w_cons ?_)
  | (with_reducible refine' w_nil ?_)
  | (with_reducible refine' w_call ?_)
  | (with_reducible refine' w_ret ?_)
  | (with_reducible refine' w_drop ?_)
  | (with_reducible refine' w_next ?_)
  | (with_reducible refine' w_and ?_)
  | (with_reducible refine' w_or ?_)
  | (with_reducible refine' w_not ?_)
  | (with_reducible refine' w_andV ?_)
  | (with_reducible refine' w_orV ?_)
  | (with_reducible refine' w_notV ?_)
  | (with_reducible refine' w_if ?_)
  | (with_reducible refine' w_chain ?_)
  | (with_reducible refine' w_B ?_)
  | (with_reducible refine' w_un ?_)
  | (with_reducible refine' w_lst ?_)
  | (with_reducible refine' w_tup ?_)
  | (with_reducible refine' w_gsub ?_)
  | (with_reducible refine' w_par ?_)
  | (with_reducible refine' w_two ?_)
  | (with_reducible refine' w_sl ?_)
  | (with_reducible refine' w_retN ?_)
  | (with_reducible refine' w_yes ?_)
  | (with_reducible refine' w_m1 ?_)
  | (with_reducible refine' w_pair0 ?_)
  | (with_reducible refine' w_pair1 ?_)
  | (with_reducible refine' c_reprB ?_)
  | (with_reducible refine' w_noPart ?_)
  | (with_reducible refine' w_part ?_)
  | (with_reducible refine' w_isI ?_)
  | (with_reducible refine' w_make ?_)
  | (with_reducible refine' w_sfld ?_)
  | (with_reducible refine' w_fld ?_)
  | (with_reducible refine' w_lc ?_)
  | (with_reducible refine' w_for ?_)
  | (with_reducible refine' w_iR1 ?_)
  | (with_reducible refine' w_iR2 ?_)
  | ((with_reducible refine' w_lcW ?h ?_); (case h => exact rfl))
  | (with_reducible refine' m_strT ?_)
  | (with_reducible refine' w_bm0 ?_)
  | (with_reducible refine' w_bm ?_)
  | (with_reducible refine' m_str ?_)
  | (with_reducible refine' m_s0 ?_)
  | ((with_reducible refine' m_lst ?h ?_); (case h => first | assumption | exact SqL.of upd_same | exact SqL.of (by assumption)))
  | (with_reducible refine' a_addI ?_)
  | (with_reducible refine' a_I0 ?_)
  | ((with_reducible refine' a_mulI ?h ?_); (case h => first | exact .inl ⟨by decide, by decide⟩ | exact .inr ⟨by decide, by decide⟩ | exact .inl ⟨by omega, by omega⟩ | exact .inr ⟨by omega, by omega⟩))
  | ((with_reducible refine' a_fdiv ?h ?_); (case h => first | exact ⟨by decide, by decide⟩ | exact ⟨by omega, by omega⟩))
  | ((with_reducible refine' a_mod ?h ?_); (case h => first | decide | omega))
  | ((with_reducible refine' a_pow ?h ?_); (case h => first | exact ⟨by decide, by decide, by decide⟩ | exact ⟨by decide, by decide, by omega⟩))
  | (with_reducible refine' a_neg ?_)
  | (with_reducible refine' a_ltI ?_)
  | (with_reducible refine' a_leI ?_)
  | (with_reducible refine' a_gtI ?_)
  | (with_reducible refine' a_geI ?_)
  | (with_reducible refine' a_ltS ?_)
  | (with_reducible refine' a_eqI ?_)
  | (with_reducible refine' a_eqS ?_)
  | (with_reducible refine' a_neI ?_)
  | (with_reducible refine' a_neS ?_)
  | (with_reducible refine' a_isnotB ?_)
  | (with_reducible refine' a_isB ?_)
  | (with_reducible refine' a_isN ?_)
  | (with_reducible refine' a_isnotN ?_)
  | ((with_reducible refine' a_ixL ?h1 ?h2 ?_); (case h1 => first | assumption | exact upd_same); (case h2 => exact rfl))
  | ((with_reducible refine' a_set ?h1 ?h2 ?_); (case h1 => first | assumption | exact upd_same); (case h2 => exact rfl))
  | (with_reducible refine' c_int ?_)
  | (with_reducible refine' c_intB ?_)
  | (with_reducible refine' c_max ?_)
  | (with_reducible refine' c_min ?_)
  | ((with_reducible refine' a_fdiv ?h ?_); (case h => first | exact ⟨by decide, by decide⟩ | exact ⟨by omega, by omega⟩))
  | (with_reducible refine' iteT ?_)
  | (with_reducible refine' iteF ?_)
  | (with_reducible refine' iteNT ?_)
  | (with_reducible refine' iteNF ?_)
  | (with_reducible refine' w_js ?_)
  | (with_reducible refine' w_jsn ?_)
  | (with_reducible refine' w_fmt ?_)
  | ((with_reducible refine' w_makeL ?h ?_); (case h => exact rfl))
  | (with_reducible refine' w_raiseE ?_)
  | (with_reducible refine' w_getE ?_)
  | ((with_reducible refine' w_callW ?h ?_); (case h => exact rfl))
  | (with_reducible refine' w_cmeth ?_)
  | (with_reducible refine' is_of ?_)
  | ((with_reducible refine' w_lam1 ?h ?_); (case h => assumption)))
theorem ok_l_caught {P : Program} {w : World} {K : PySem.W.Frag} {mg : Str → Option Value} {base : Heap} (T : Top P K mg) {k : Nat} {fa : Addr} {spA : Sp} (F : InBase P w K mg base k fa spA) : FnOk P w K mg base CX0 (k + 1) T.f_l_caught T.fd_l_caught ["_law_ask", "_law_odd"] (sp_caught T.C_InvalidText "InvalidText" "text" fa spA) := by
  refine T.F_l_caught.ok sc_l_caught (fun vs H Q E h => ?_) (fun cdv A outer s H vs Q E hr h => ?_)
  · obtain ⟨v, rfl, h⟩ := h
    rfl
  · obtain ⟨v, rfl, h⟩ := h
    refine ⟨_, (pss_one (ps_tryD rfl rfl (fun V pn xe tkV _ => (pss_one (ps_ret (pe_lst (pa_cons pe_str (pa_cons (pe_callW (i := 0) F hr rfl (.inl rfl) tkV (pa_cons (pv 1) pa_nil)) pa_nil)))))) (fun pins D => (deals_as (i := 2) rfl sc_l_caught.nd rfl rfl ⟨(by rfl), by decide, .inl T.g_InvalidText⟩ (fun a oe cls d pn hz hfd => (pss_one (ps_ret (pe_lst (pa_cons pe_str (pa_cons (pe_getE T.E_InvalidText hz hfd (pv 2)) pa_nil)))))) (deals_bare rfl ⟨(by rfl), by decide, .inl T.g_NetError⟩ (fun a oe cls d pn hz hfd => (pss_one (ps_ret (pe_lst (pa_cons pe_str pa_nil))))) (deals_nil rfl rfl takesF)))))), ?_⟩
    repeat walk_at "g"
    refine h _ _ (fun r H1 n => ?_) (fun dd v' H1 hd n => ?_)
    · repeat walk_at "g"
      exact newL_of rfl fun p hp => n p _ (Ex.new hp) hp upd_same
    · refine one_yes T.x_InvalidText_InvalidText fun a ha => ?_
      repeat walk_at "g"
      refine getE_of hd ?_
      repeat walk_at "g"
      exact newL_of rfl fun p hp => n p _ (Ex.new hp) hp upd_same

theorem ok_Measure_read {P : Program} {w : World} {K : PySem.W.Frag} {mg : Str → Option Value} {base : Heap} (T : Top P K mg) : FnOk P w K mg base (L2.CX P w) (4) T.f_Measure_read T.fd_Measure_read ["cls", "text"] (sp_read K T.C_Measure T.C_InvalidText) := by
  refine T.F_Measure_read.okX sc_Measure_read (fun vs H Q E h => ?_) (fun cdv A outer s H vs Q E hr h => ?_)
  · obtain ⟨v, rfl, h⟩ := h
    rfl
  · obtain ⟨v, rfl, h⟩ := h
    have tk : Takes _ (fun cls d _ H => E cls d H) := takes_of (E := E) (X := cxOf (L2.CX P w) P w K mg base ["cls", "text", "words"] "Measure.read" (defScope s_Measure_read) T.f_Measure_read cdv A outer s H E) rfl rfl rfl rfl
    refine ⟨_, (pss_cons (ps_set (i := 2) sc_Measure_read.nd rfl (Or.inl rfl) (pe_ifExp (pt_val (pe_callB (call_isiU (K := K) rfl) (by rfl) T.m_isinstance (by decide +kernel) (pa_cons (pv 1) (pa_cons (pe_bltn (v := .ty "str") (by rfl) T.m_str (by decide +kernel) rfl) pa_nil)))) (pe_splitU (pv 1) pe_str) (pe_lst pa_nil)))
      (pss_cons (ps_if (PW.pt (pw_or (pt_cmpR (op_neU (K := K) rfl hr.units) (pe_callB (call_lenU (K := K) rfl) (by rfl) T.m_len PySem.boot_len (pa_cons (pv 2) pa_nil)) pe_int (nomark _)) (pw_or1 (pt_cmpR (op_notInU (K := K) rfl) (pe_ix (ix_U (K := K) rfl) (pv 2) pe_int (fun _ _ => rfl)) (pe_tup (pa_cons (pe_glob (by rfl) T.g_LENGTH T.r_LENGTH) (pa_cons (pe_glob (by rfl) T.g_BEARING T.r_BEARING) pa_nil))) (by rfl))))) (pss_one (ps_raiseE rfl T.E_InvalidText hr tk (pa_cons (pv 1) pa_nil) (by rfl))) pss_nil)
      (pss_cons (ps_if (PW.pt (pw_or (pt_not (pt_val (pe_call (ok_is_name T) (hr.mono (by decide)) (by rfl) T.g_is_name T.F_is_name.kp T.b_is_name .nil pass0 (pa_cons (pe_ix (ix_U (K := K) rfl) (pv 2) pe_int (fun _ _ => rfl)) pa_nil)))) (pw_or (pt_not (pt_val (pe_call (ok_is_name T) (hr.mono (by decide)) (by rfl) T.g_is_name T.F_is_name.kp T.b_is_name .nil pass0 (pa_cons (pe_ix (ix_U (K := K) rfl) (pv 2) pe_int (fun _ _ => rfl)) pa_nil)))) (pw_or1 (pt_cmpR op_geU (pe_ix (ix_U (K := K) rfl) (pv 2) pe_int (fun _ _ => rfl)) (pe_ix (ix_U (K := K) rfl) (pv 2) pe_int (fun _ _ => rfl)) (nomark _)))))) (pss_one (ps_raiseE rfl T.E_InvalidText hr tk (pa_cons (pv 1) pa_nil) (by rfl))) pss_nil)
      (pss_one (ps_ret (pe_makeL (i := 0) T.M_Measure (ok_Measure_init T) (hr.mono (by decide)) rfl (.inl rfl) T.b_Measure_init pass0 (pa_cons (pe_ix (ix_U (K := K) rfl) (pv 2) pe_int (fun _ _ => rfl)) (pa_cons (pe_ix (ix_U (K := K) rfl) (pv 2) pe_int (fun _ _ => rfl)) (pa_cons (pe_ix (ix_U (K := K) rfl) (pv 2) pe_int (fun _ _ => rfl)) pa_nil))))))))), ?_⟩
    rcases h with ⟨z, rfl, hz, hg, hb⟩ | ⟨⟨Ty, ty, kt⟩, hb⟩
    · have hz1 := hz.1
      have big : (1000000 : Nat) ≤ sizeLine := by decide
      repeat walk_at "g"
      refine c_isi (.base (.str z)) (b := true) (kit_ty (by decide +kernel)) ?_
      repeat walk_at "g"
      refine ⟨z, _, rfl, rfl, by decide, by omega, fun ws hws => ?_⟩
      have ew : Txt.split z (Str.ofString " ") = wordsZ z := rfl
      rw [ew]
      have e1 : Ex H (upd H ws (.lst ((wordsZ z).map V.str))) := Ex.new hws
      have hw : upd H ws (.lst ((wordsZ z).map V.str)) ws = some (.lst ((wordsZ z).map V.str)) := upd_same
      have wok := words_ok hz
      generalize upd H ws (.lst ((wordsZ z).map V.str)) = H1 at e1 hw
      clear ew
      generalize wordsZ z = wl at hg hb hw wok
      repeat walk_at "g"
      refine c_lenL (.of hw) ?_
      repeat walk_at "g"
      rw [List.length_map]
      refine iteND (fun h3 => ?_) (fun h3 => ?_)
      · repeat walk_at "g"
        refine throw_of (hb ?_) e1 (fun _ _ h => h)
        exact bad3 (by omega)
      · obtain ⟨k, a, b, rfl⟩ := three (wl := wl) (by omega)
        have ok := wok k (by simp)
        have oa := wok a (by simp)
        have ob := wok b (by simp)
        repeat walk_at "g"
        refine newT_of rfl fun t1 ht1 => ?_
        have e2 := e1.trans (Ex.new ht1 (o := .tup [.str (Str.ofString "length"), .str (Str.ofString "bearing")]))
        have hw2 := Ex.new ht1 (o := .tup [.str (Str.ofString "length"), .str (Str.ofString "bearing")]) _ _ hw
        refine a_ninT (.of upd_same) rfl rfl ?_
        generalize upd H1 t1 (.tup [.str (Str.ofString "length"), .str (Str.ofString "bearing")]) = H2 at e2 hw2
        rw [in_kinds]
        cases hk : (decide (k = Str.ofString "length") || decide (k = Str.ofString "bearing")) with
        | false =>
          repeat walk_at "g"
          refine throw_of (hb ?_) e2 (fun _ _ h => h)
          rw [goodW3]
          rw [hk, Bool.false_and]
        | true =>
          repeat walk_at "g"
          refine ⟨.str a, rfl, .inl ⟨a, rfl, oa, fun H3 e3 => ?_⟩⟩
          have e3' := e2.trans e3
          have hw3 := e3 _ _ hw2
          cases ha : isName a with
          | false =>
            repeat walk_at "g"
            refine throw_of (hb ?_) e3' (fun _ _ h => h)
            rw [goodW3]
            rw [ha, Bool.false_and, Bool.and_false]
          | true =>
            repeat walk_at "g"
            refine ⟨.str b, rfl, .inl ⟨b, rfl, ob, fun H4 e4 => ?_⟩⟩
            have e4' := e3'.trans e4
            have hw4 := e4 _ _ hw3
            cases hb' : isName b with
            | false =>
              repeat walk_at "g"
              refine throw_of (hb ?_) e4' (fun _ _ h => h)
              rw [goodW3]
              rw [hb', Bool.false_and, Bool.and_false, Bool.and_false]
            | true =>
              repeat walk_at "g"
              refine .inr ⟨_, _, rfl, rfl, ?_⟩
              repeat walk_at "g"
              by_cases hl : a.cps.toList < b.cps.toList
              · rw [decide_eq_true hl]
                repeat walk_at "g"
                intro x dx hx hdx nx
                refine ⟨x, dx, k, a, b, rfl, upd_same, ?_, ha, hb', ?_, fun H5 e5 hm => ⟨rfl, hg ?_ k a b rfl x H5 ?_ ?_⟩⟩
                · rw [Bool.or_eq_true, decide_eq_true_eq, decide_eq_true_eq] at hk
                  exact hk
                · intro e
                  rw [e] at hl
                  exact absurd hl (List.lt_irrefl _)
                · rw [goodW3]
                  rw [hk, ha, hb', decide_eq_true hl]
                  rfl
                · refine fun c o hc => e5 c o (ne_of_none (e4' c o hc) hx) ?_
                  rw [upd_ne (ne_of_none (e4' c o hc) hx), upd_ne (ne_of_none (e4' c o hc) hdx)]
                  exact e4' c o hc
                · unfold lo2 hi2 at hm
                  rw [if_pos hl, if_pos hl] at hm
                  exact hm
              · rw [decide_eq_false hl]
                repeat walk_at "g"
                refine throw_of (hb ?_) e4' (fun _ _ h => h)
                rw [goodW3]
                rw [decide_eq_false hl, Bool.and_false, Bool.and_false, Bool.and_false]
    · repeat walk_at "g"
      refine c_isi ty (b := false) kt ?_
      repeat walk_at "g"
      refine newL_of rfl fun ws hws => ?_
      repeat walk_at "g"
      refine c_lenL (.of upd_same) ?_
      repeat walk_at "g"
      refine iteND (fun h3 => ?_) (fun h3 => absurd h3 (by decide))
      repeat walk_at "g"
      exact throw_of hb (Ex.new hws) (fun _ _ h => h)


end K03

set_option Elab.async false
set_option linter.all false
set_option maxRecDepth 100000
set_option maxHeartbeats 3900000
namespace K03
open PySem PySem.Spec PyProof.Rows L2 G
local macro_rules | `(tactic| walk_at "g") => `(tactic| first
  | (with_reducible refine' w_seq ?_)
  | ((with_reducible refine' w_var ?h ?_); (case h => exact rfl))
  | (with_reducible refine' w_c ?_)
  | (with_reducible refine' w_op ?_)
  | (with_reducible refine' w_asg ?_)
  | (with_reducible refine' w_gname ?_)
  | (with_reducible refine' w_ifS ?_)
  | (with_reducible refine' w_test ?_)
  | (with_reducible refine' w_bl ?_)
  | (with_reducible refine' w_CB ?_)
  | (with_reducible refine' w_cons ?_)
  | (with_reducible refine' w_nil ?_)
  | (with_reducible refine' w_call ?_)
  | (with_reducible refine' w_ret ?_)
  | (with_reducible refine' w_drop ?_)
  | (with_reducible refine' w_next ?_)
  | (with_reducible refine' w_and ?_)
  | (with_reducible refine' w_or ?_)
  | (with_reducible refine' w_not ?_)
  | (with_reducible refine' w_andV ?_)
  | (with_reducible refine' w_orV ?_)
  | (with_reducible refine' w_notV ?_)
  | (with_reducible refine' w_if ?_)
  | (with_reducible refine' w_chain ?_)
  | (with_reducible refine' w_B ?_)
  | (with_reducible refine' w_un ?_)
  | (with_reducible refine' w_lst ?_)
  | (with_reducible refine' w_tup ?_)
  | (with_reducible refine' w_gsub ?_)
  | (with_reducible refine' w_par ?_)
  | (with_reducible refine' w_two ?_)
  | (with_reducible refine' w_sl ?_)
  | (with_reducible refine' w_retN ?_)
  | (with_reducible refine' w_yes ?_)
  | (with_reducible refine' w_m1 ?_)
  | (with_reducible refine' w_pair0 ?_)
  | (with_reducible refine' w_pair1 ?_)
  | (with_reducible refine' c_reprB ?_)
  | (with_reducible refine' w_noPart ?_)
  | (with_reducible refine' w_part ?_)
  | (with_reducible refine' w_isI ?_)
  | (with_reducible refine' w_make ?_)
  | (with_reducible refine' w_sfld ?_)
  | (with_reducible refine' w_fld ?_)
  | (with_reducible refine' w_lc ?_)
  | (with_reducible refine' w_for ?_)
  | (with_reducible refine' w_iR1 ?_)
  | (with_reducible refine' w_iR2 ?_)
  | ((with_reducible refine' w_lcW ?h ?_); (case h => exact rfl))
  | (with_reducible refine' m_strT ?_)
  | (with_reducible refine' w_bm0 ?_)
  | (with_reducible refine' w_bm ?_)
  | (with_reducible refine' m_str ?_)
  | (with_reducible refine' m_s0 ?_)
  | ((with_reducible refine' m_lst ?h ?_); (case h => first | assumption | exact SqL.of upd_same | exact SqL.of (by assumption)))
  | (with_reducible refine' a_addI ?_)
  | (with_reducible refine' a_I0 ?_)
  | ((with_reducible refine' a_mulI ?h ?_); (case h => first | exact .inl ⟨by decide, by decide⟩ | exact .inr ⟨by decide, by decide⟩ | exact .inl ⟨by omega, by omega⟩ | exact .inr ⟨by omega, by omega⟩))
  | ((with_reducible refine' a_fdiv ?h ?_); (case h => first | exact ⟨by decide, by decide⟩ | exact ⟨by omega, by omega⟩))
  | ((with_reducible refine' a_mod ?h ?_); (case h => first | decide | omega))
  | ((with_reducible refine' a_pow ?h ?_); (case h => first | exact ⟨by decide, by decide, by decide⟩ | exact ⟨by decide, by decide, by omega⟩))
  | (with_reducible refine' a_neg ?_)
  | (with_reducible refine' a_ltI ?_)
  | (with_reducible refine' a_leI ?_)
  | (with_reducible refine' a_gtI ?_)
  | (with_reducible refine' a_geI ?_)
  | (with_reducible refine' a_ltS ?_)
  | (with_reducible refine' a_eqI ?_)
  | (with_reducible refine' a_eqS ?_)
  | (with_reducible refine' a_neI ?_)
  | (with_reducible refine' a_neS ?_)
  | (with_reducible refine' a_isnotB ?_)
  | (with_reducible refine' a_isB ?_)
  | (with_reducible refine' a_isN ?_)
  | (with_reducible refine' a_isnotN ?_)
  | ((with_reducible refine' a_ixL ?h1 ?h2 ?_); (case h1 => first | assumption | exact upd_same); (case h2 => exact rfl))
  | ((with_reducible refine' a_set ?h1 ?h2 ?_); (case h1 => first | assumption | exact upd_same); (case h2 => exact rfl))
  | (with_reducible refine' c_int ?_)
  | (with_reducible refine' c_intB ?_)
  | (with_reducible refine' c_max ?_)
  | (with_reducible refine' c_min ?_)
  | ((with_reducible refine' a_fdiv ?h ?_); (case h => first | exact ⟨by decide, by decide⟩ | exact ⟨by omega, by omega⟩))
  | (with_reducible refine' iteT ?_)
  | (with_reducible refine' iteF ?_)
  | (with_reducible refine' iteNT ?_)
  | (with_reducible refine' iteNF ?_)
  | (with_reducible refine' w_js ?_)
  | (with_reducible refine' w_jsn ?_)
  | (with_reducible refine' w_fmt ?_)
  | ((with_reducible refine' w_makeL ?h ?_); (case h => exact rfl))
  | (with_reducible refine' w_raiseE ?_)
  | (with_reducible refine' w_getE ?_)
  | ((with_reducible refine' w_callW ?h ?_); (case h => exact rfl))
  | (with_reducible refine' w_cmeth ?_)
  | (with_reducible refine' is_of ?_)
  | ((with_reducible refine' w_lam1 ?h ?_); (case h => assumption)))
theorem Top.insM {P : Program} {K : PySem.W.Frag} {mg : Str → Option Value} (T : Top P K mg) : InsTy K T.C_Measure := ⟨fun _ _ _ _ h => .base (.ins h T.cl_Measure T.ih_Measure T.in_Measure T.it_Measure T.im_Measure), T.kb_M, T.ks_M, T.ki_M⟩
theorem ok_l_is {P : Program} {w : World} {K : PySem.W.Frag} {mg : Str → Option Value} {base : Heap} (T : Top P K mg) : FnOk P w K mg base CX0 (2) T.f_l_is T.fd_l_is ["_law_found", "_law_word", "_law_odd"] (sp_is T.C_Measure) := by
  refine T.F_l_is.ok sc_l_is (fun vs H Q E h => ?_) (fun cdv A outer s H vs Q E hr h => ?_)
  · obtain ⟨p, wd, v, rfl, hp, ho, q⟩ := h
    rfl
  · obtain ⟨p, wd, v, rfl, hp, ho, q⟩ := h
    refine ⟨_, (pss_cons (ps_if (PW.pt (pw_or (pt_cmpR (op_neU (K := K) rfl hr.units) (pe_callB (call_lenU (K := K) rfl) (by rfl) T.m_len PySem.boot_len (pa_cons (pv 0) pa_nil)) pe_int (nomark _)) (pw_or (pt_cmpR (op_neU (K := K) rfl hr.units) (pe_ix (ix_U (K := K) rfl) (pv 0) pe_int (fun _ _ => rfl)) (pv 1) (nomark _)) (pw_or1 (pt_cmpR (op_neU (K := K) rfl hr.units) (pe_callB (call_isiU (K := K) rfl) (by rfl) T.m_isinstance (by decide +kernel) (pa_cons (pe_ix (ix_U (K := K) rfl) (pv 0) pe_int (fun _ _ => rfl)) (pa_cons (pe_bltn (v := .ty "bool") (by rfl) T.m_bool (by decide +kernel) rfl) pa_nil))) (pe_callB (call_isiU (K := K) rfl) (by rfl) T.m_isinstance (by decide +kernel) (pa_cons (pv 2) (pa_cons (pe_bltn (v := .ty "bool") (by rfl) T.m_bool (by decide +kernel) rfl) pa_nil))) (nomark _)))))) (pss_one (ps_ret pe_bl)) pss_nil)
      (pss_one (ps_ret (pe_cmpR (show OpR _ _ (rEqOdd K T.C_Measure) from (op_eqVU (K := K) rfl hr.units).or (op_eqO (E := E0) (ok_Measure_eq T) (hr.mono (by decide)) T.eq_M T.fe_M T.b_Measure_eq pass0)) (pe_ix (ix_U (K := K) rfl) (pv 0) pe_int (fun _ _ => rfl)) (pv 2) (nomark _))))), ?_⟩
    obtain ⟨Ty, bb, ty, kt⟩ := ho.isBool T.insM
    repeat walk_at "g"
    refine c_lenL (.of hp) ?_
    repeat walk_at "g"
    refine iteND (fun h3 => absurd rfl h3) (fun h3 => ?_)
    repeat walk_at "g"
    refine iteND (fun h4 => absurd rfl h4) (fun h4 => ?_)
    repeat walk_at "g"
    refine c_isi ty kt ?_
    repeat walk_at "g"
    refine c_isi ty kt ?_
    refine a_neBB ?_
    repeat walk_at "g"
    exact odd_eq ho q


end K03

set_option Elab.async false
set_option linter.all false
set_option maxRecDepth 100000
set_option maxHeartbeats 3900000
namespace K03
open PySem PySem.Spec PyProof.Rows L2 G
local macro_rules | `(tactic| walk_at "g") => `(tactic| first
  | (with_reducible refine' w_seq ?_)
  | ((with_reducible refine' w_var ?h ?_); (case h => exact rfl))
  | (with_reducible refine' w_c ?_)
  | (with_reducible refine' w_op ?_)
  | (with_reducible refine' w_asg ?_)
  | (with_reducible refine' w_gname ?_)
  | (with_reducible refine' w_ifS ?_)
  | (with_reducible refine' w_test ?_)
  | (with_reducible refine' w_bl ?_)
  | (with_reducible refine' w_CB ?_)
  | (with_reducible refine' w_cons ?_)
  | (with_reducible refine' w_nil ?_)
  | (with_reducible refine' w_call ?_)
  | (with_reducible refine' w_ret ?_)
  | (with_reducible refine' w_drop ?_)
  | (with_reducible refine' w_next ?_)
  | (with_reducible refine' w_and ?_)
  | (with_reducible refine' w_or ?_)
  | (with_reducible refine' w_not ?_)
  | (with_reducible refine' w_andV ?_)
  | (with_reducible refine' w_orV ?_)
  | (with_reducible refine' w_notV ?_)
  | (with_reducible refine' w_if ?_)
  | (with_reducible refine' w_chain ?_)
  | (with_reducible refine' w_B ?_)
  | (with_reducible refine' w_un ?_)
  | (with_reducible refine' w_lst ?_)
  | (with_reducible refine' w_tup ?_)
  | (with_reducible refine' w_gsub ?_)
  | (with_reducible refine' w_par ?_)
  | (with_reducible refine' w_two ?_)
  | (with_reducible refine' w_sl ?_)
  | (with_reducible refine' w_retN ?_)
  | (with_reducible refine' w_yes ?_)
  | (with_reducible refine' w_m1 ?_)
  | (with_reducible refine' w_pair0 ?_)
  | (with_reducible refine' w_pair1 ?_)
  | (with_reducible refine' c_reprB ?_)
  | (with_reducible refine' w_noPart ?_)
  | (with_reducible refine' w_part ?_)
  | (with_reducible refine' w_isI ?_)
  | (with_reducible refine' w_make ?_)
  | (with_reducible refine' w_sfld ?_)
  | (with_reducible refine' w_fld ?_)
  | (with_reducible refine' w_lc ?_)
  | (with_reducible refine' w_for ?_)
  | (with_reducible refine' w_iR1 ?_)
  | (with_reducible refine' w_iR2 ?_)
  | ((with_reducible refine' w_lcW ?h ?_); (case h => exact rfl))
  | (with_reducible refine' m_strT ?_)
  | (with_reducible refine' w_bm0 ?_)
  | (with_reducible refine' w_bm ?_)
  | (with_reducible refine' m_str ?_)
  | (with_reducible refine' m_s0 ?_)
  | ((with_reducible refine' m_lst ?h ?_); (case h => first | assumption | exact SqL.of upd_same | exact SqL.of (by assumption)))
  | (with_reducible refine' a_addI ?_)
  | (with_reducible refine' a_I0 ?_)
  | ((with_reducible refine' a_mulI ?h ?_); (case h => first | exact .inl ⟨by decide, by decide⟩ | exact .inr ⟨by decide, by decide⟩ | exact .inl ⟨by omega, by omega⟩ | exact .inr ⟨by omega, by omega⟩))
  | ((with_reducible refine' a_fdiv ?h ?_); (case h => first | exact ⟨by decide, by decide⟩ | exact ⟨by omega, by omega⟩))
  | ((with_reducible refine' a_mod ?h ?_); (case h => first | decide | omega))
  | ((with_reducible refine' a_pow ?h ?_); (case h => first | exact ⟨by decide, by decide, by decide⟩ | exact ⟨by decide, by decide, by omega⟩))
  | (with_reducible refine' a_neg ?_)
  | (with_reducible refine' a_ltI ?_)
  | (with_reducible refine' a_leI ?_)
  | (with_reducible refine' a_gtI ?_)
  | (with_reducible refine' a_geI ?_)
  | (with_reducible refine' a_ltS ?_)
  | (with_reducible refine' a_eqI ?_)
  | (with_reducible refine' a_eqS ?_)
  | (with_reducible refine' a_neI ?_)
  | (with_reducible refine' a_neS ?_)
  | (with_reducible refine' a_isnotB ?_)
  | (with_reducible refine' a_isB ?_)
  | (with_reducible refine' a_isN ?_)
  | (with_reducible refine' a_isnotN ?_)
  | ((with_reducible refine' a_ixL ?h1 ?h2 ?_); (case h1 => first | assumption | exact upd_same); (case h2 => exact rfl))
  | ((with_reducible refine' a_set ?h1 ?h2 ?_); (case h1 => first | assumption | exact upd_same); (case h2 => exact rfl))
  | (with_reducible refine' c_int ?_)
  | (with_reducible refine' c_intB ?_)
  | (with_reducible refine' c_max ?_)
  | (with_reducible refine' c_min ?_)
  | ((with_reducible refine' a_fdiv ?h ?_); (case h => first | exact ⟨by decide, by decide⟩ | exact ⟨by omega, by omega⟩))
  | (with_reducible refine' iteT ?_)
  | (with_reducible refine' iteF ?_)
  | (with_reducible refine' iteNT ?_)
  | (with_reducible refine' iteNF ?_)
  | (with_reducible refine' w_js ?_)
  | (with_reducible refine' w_jsn ?_)
  | (with_reducible refine' w_fmt ?_)
  | ((with_reducible refine' w_makeL ?h ?_); (case h => exact rfl))
  | (with_reducible refine' w_raiseE ?_)
  | (with_reducible refine' w_getE ?_)
  | ((with_reducible refine' w_callW ?h ?_); (case h => exact rfl))
  | (with_reducible refine' w_cmeth ?_)
  | (with_reducible refine' is_of ?_)
  | ((with_reducible refine' w_lam1 ?h ?_); (case h => assumption)))
theorem ok_l_read {P : Program} {w : World} {K : PySem.W.Frag} {mg : Str → Option Value} {base : Heap} (T : Top P K mg) : FnOk P w K mg base CX0 (2) T.f_l_read T.fd_l_read ["_law_text"] (sp_lread) := by
  refine T.F_l_read.ok sc_l_read (fun vs H Q E h => ?_) (fun cdv A outer s H vs Q E hr h => ?_)
  · obtain ⟨z, rfl, hz, hg, hb⟩ := h
    rfl
  · obtain ⟨z, rfl, hz, hg, hb⟩ := h
    refine ⟨_, (pss_cons (ps_set (i := 1) sc_l_read.nd rfl (Or.inl rfl) (pe_splitU (pv 0) pe_str))
      (pss_cons (ps_if (PW.pt (pw_or (pt_cmpR (op_neU (K := K) rfl hr.units) (pe_callB (call_lenU (K := K) rfl) (by rfl) T.m_len PySem.boot_len (pa_cons (pv 1) pa_nil)) pe_int (nomark _)) (pw_or1 (pt_cmpR (op_notInU (K := K) rfl) (pe_ix (ix_U (K := K) rfl) (pv 1) pe_int (fun _ _ => rfl)) (pe_tup (pa_cons pe_str (pa_cons pe_str pa_nil))) (by rfl))))) (pss_one (ps_ret pe_non)) pss_nil)
      (pss_cons (ps_for PassesOwn.never rfl (pi_U (K := K) rfl (pe_slice (sl_U (K := K) rfl) (pv 1) (po_some pe_int) po_none)) (pg_name (i := 2) sc_l_read.nd rfl (Or.inl rfl)) (pss_one (ps_if (PW.pt (pw_or (pt_not (pt_chain op_leU op_leU pe_int (pe_callB (call_lenU (K := K) rfl) (by rfl) T.m_len PySem.boot_len (pa_cons (pv 2) pa_nil)) pe_int)) (pw_or1 (pt_cmpR (op_neU (K := K) rfl hr.units) (pe_lc (own := [("_law_sign", 3)]) (g := gName 3) rfl sc_l_read.nd (pi_U (K := K) rfl (pv 2)) (blkOk_by (own := [("_law_sign", 3)]) (N := ["_law_text", "_law_words", "_law_word", "_law_sign"]) (sc := defScope s_l_read) (by decide +kernel)) (fun _ _ _ _ _ => (pg_name (i := 3) sc_l_read.nd rfl (Or.inl rfl))) (fun _ _ _ _ _ => (pts_one (pt_cmpR (op_notInU (K := K) rfl) (pv 3) pe_str (by rfl)))) (fun _ _ _ _ _ => (pv 3))) (pe_lst pa_nil) (nomark _))))) (pss_one (ps_ret pe_non)) pss_nil)))
      (pss_one (ps_ret (pe_ifExp (pt_cmpR op_ltU (pe_ix (ix_U (K := K) rfl) (pv 1) pe_int (fun _ _ => rfl)) (pe_ix (ix_U (K := K) rfl) (pv 1) pe_int (fun _ _ => rfl)) (nomark _)) (pv 1) pe_non)))))), ?_⟩
    have hz1 := hz.1
    have big : (1000000 : Nat) ≤ sizeLine := by decide
    repeat walk_at "g"
    refine ⟨z, _, rfl, rfl, by decide, by omega, fun ws hws => ?_⟩
    have ew : Txt.split z (Str.ofString " ") = wordsZ z := rfl
    rw [ew]
    have e1 : Ex H (upd H ws (.lst ((wordsZ z).map V.str))) := Ex.new hws
    have hw : upd H ws (.lst ((wordsZ z).map V.str)) ws = some (.lst ((wordsZ z).map V.str)) := upd_same
    have wok := words_ok hz
    generalize upd H ws (.lst ((wordsZ z).map V.str)) = H1 at e1 hw
    clear ew
    generalize wordsZ z = wl at hg hb hw wok
    repeat walk_at "g"
    refine c_lenL (.of hw) ?_
    repeat walk_at "g"
    rw [List.length_map]
    refine iteND (fun h3 => ?_) (fun h3 => ?_)
    · repeat walk_at "g"
      exact hb (bad3 (by omega)) _ e1
    · obtain ⟨k, a, b, rfl⟩ := three (wl := wl) (by omega)
      have oa := wok a (by simp)
      have ob := wok b (by simp)
      repeat walk_at "g"
      refine newT_of rfl fun t1 ht1 => ?_
      have e2 := e1.trans (Ex.new ht1 (o := .tup [.str (Str.ofString "length"), .str (Str.ofString "bearing")]))
      have hw2 := Ex.new ht1 (o := .tup [.str (Str.ofString "length"), .str (Str.ofString "bearing")]) _ _ hw
      refine a_ninT (.of upd_same) rfl rfl ?_
      generalize upd H1 t1 (.tup [.str (Str.ofString "length"), .str (Str.ofString "bearing")]) = H2 at e2 hw2
      rw [in_kinds]
      cases hk : (decide (k = Str.ofString "length") || decide (k = Str.ofString "bearing")) with
      | false =>
        repeat walk_at "g"
        refine hb ?_ _ e2
        rw [goodW3, hk, Bool.false_and]
      | true =>
        repeat walk_at "g"
        refine w_iL ?_
        repeat walk_at "g"
        refine a_slL (.of hw2) fun sl hsl => ?_
        have e3 := e2.trans (Ex.new hsl (o := .lst [.str a, .str b]))
        have hw3 := Ex.new hsl (o := .lst [.str a, .str b]) _ _ hw2
        have hs3 : upd H2 sl (.lst [.str a, .str b]) sl = some (.lst [.str a, .str b]) := upd_same
        show itL K (.ref sl) (upd H2 sl (.lst [.str a, .str b])) _
        generalize upd H2 sl (.lst [.str a, .str b]) = H3 at e3 hw3 hs3
        refine it_L (.of hs3) (for_walk wk_list (fun i σ H' => Ex H3 H' ∧ (∃ v w, σ = [some (.str z), some (.ref ws), v, w]) ∧ (0 < i → isName a = true) ∧ (1 < i → isName b = true)) ⟨Ex.refl _, ⟨none, none, rfl⟩, fun h => absurd h (by omega), fun h => absurd h (by omega)⟩ (fun _ _ _ p => p.1.l (.of hs3)) (fun i y σ H' hy p => ?_) (fun σ H' p => ?_))
        · obtain ⟨ex, ⟨v, w, rfl⟩, na, nb⟩ := p
          have hy2 : ∃ zz, y = .str zz ∧ OkS zz 10000 ∧ (isName zz = false → goodW [k, a, b] = false) ∧ (isName zz = true → (0 < i + 1 → isName a = true) ∧ (1 < i + 1 → isName b = true)) := by
            match i, hy with
            | 0, hy =>
              have : y = .str a := by simpa using hy.symm
              exact ⟨a, this, oa, fun h => by rw [goodW3, h, Bool.false_and, Bool.and_false], fun h => ⟨fun _ => h, fun h2 => absurd h2 (by omega)⟩⟩
            | 1, hy =>
              have : y = .str b := by simpa using hy.symm
              exact ⟨b, this, ob, fun h => by rw [goodW3, h, Bool.false_and, Bool.and_false, Bool.and_false], fun h => ⟨fun _ => na (by omega), fun _ => h⟩⟩
            | n + 2, hy => simp at hy
          obtain ⟨y, rfl, oy, bad, good⟩ := hy2
          have ey := e3.trans ex
          have ly : y.length ≤ sizeLine := oy.line
          repeat walk_at "g"
          refine c_lenS ly ?_
          repeat walk_at "g"
          refine iteD (fun h1 => ?_) (fun h1 => ?_)
          · repeat walk_at "g"
            refine iteND (fun h2 => ?_) (fun h2 => ?_)
            · repeat walk_at "g"
              refine hb (bad ?_) _ ey
              unfold isName
              rw [decide_eq_false (show ¬ y.length ≤ 8 by omega), Bool.false_and, Bool.and_false]
            · repeat walk_at "g"
              refine w_iS ?_
              repeat walk_at "g"
              refine it_S (lc_pure wk_str (fun c => if lowc c = true then none else some (V.str ⟨#[c]⟩)) (fun _ _ => trivial) ?_ (fun D c H5 Nx hc e hr => ?_) (fun D hD => ?_))
              · rw [Array.length_toList]
                exact Nat.le_trans oy.1 (by decide)
              · repeat walk_at "g"
                refine .inr ⟨c, _, rfl, rfl, ?_⟩
                repeat walk_at "g"
                rw [letters_mem c]
                cases hl : lowc c with
                | true =>
                  rw [if_pos hl] at hr
                  exact iteF hr
                | false =>
                  rw [if_neg (by rw [hl]; decide)] at hr
                  refine iteT ?_
                  repeat walk_at "g"
                  exact hr
              · repeat walk_at "g"
                refine newL_of rfl fun p hp => ?_
                rw [badSigns_eq] at hp ⊢
                have hpD : D ≠ p := ne_of_none upd_same hp
                refine a_neD (.lst (.of ((upd_ne hpD).trans upd_same)) (dps_str _)) (.lst (.of upd_same) .nil) (shaped_strs (badSigns_ok oy)) shaped_nil ?_
                have e6 := (Ex.new hD (o := .lst ((badSigns y).map V.str))).trans (Ex.new hp (o := .lst []))
                generalize upd (upd H' D _) p _ = H6 at e6
                rw [eqv_nil, List.isEmpty_map, badSigns_nil]
                have e : isName y = y.cps.toList.all lowc := by
                  unfold isName
                  rw [decide_eq_true (show y.length ≤ 8 by omega), decide_eq_true (show 1 ≤ y.length by omega), Bool.true_and, Bool.true_and]
                rw [← e]
                cases hn : isName y with
                | false =>
                  repeat walk_at "g"
                  exact hb (bad hn) _ (ey.trans e6)
                | true =>
                  repeat walk_at "g"
                  exact ⟨ex.trans e6, ⟨_, _, rfl⟩, (good hn).1, (good hn).2⟩
          · repeat walk_at "g"
            refine hb (bad ?_) _ ey
            unfold isName
            rw [decide_eq_false (show ¬ 1 ≤ y.length by omega), Bool.false_and]
        · obtain ⟨ex, ⟨v, w, rfl⟩, na, nb⟩ := p
          have ha := na (show 0 < 2 by decide)
          have hb' := nb (show 1 < 2 by decide)
          have hw4 := ex _ _ hw3
          repeat walk_at "g"
          refine iteD (fun hl => ?_) (fun hl => ?_)
          · repeat walk_at "g"
            refine hg ?_ _ _ (e3.trans ex) hws hw4
            rw [goodW3, hk, ha, hb', decide_eq_true hl]
            rfl
          · repeat walk_at "g"
            refine hb ?_ _ (e3.trans ex)
            rw [goodW3, decide_eq_false hl, Bool.and_false, Bool.and_false, Bool.and_false]


end K03

set_option Elab.async false
set_option linter.all false
set_option maxRecDepth 100000
set_option maxHeartbeats 3900000
namespace K03
open PySem PySem.Spec PyProof.Rows L2 G
local macro_rules | `(tactic| walk_at "g") => `(tactic| first
  | (with_reducible refine' w_seq ?_)
  | ((with_reducible refine' w_var ?h ?_); (case h => exact rfl))
  | (with_reducible refine' w_c ?_)
  | (with_reducible refine' w_op ?_)
  | (with_reducible refine' w_asg ?_)
  | (with_reducible refine' w_gname ?_)
  | (with_reducible refine' w_ifS ?_)
  | (with_reducible refine' w_test ?_)
  | (with_reducible refine' w_bl ?_)
  | (with_reducible refine' w_CB ?_)
  | (with_reducible refine' w_cons ?_)
  | (with_reducible refine' w_nil ?_)
  | (with_reducible refine' w_call ?_)
  | (with_reducible refine' w_ret ?_)
  | (with_reducible refine' w_drop ?_)
  | (with_reducible refine' w_next ?_)
  | (with_reducible refine' w_and ?_)
  | (with_reducible refine' w_or ?_)
  | (with_reducible refine' w_not ?_)
  | (with_reducible refine' w_andV ?_)
  | (with_reducible refine' w_orV ?_)
  | (with_reducible refine' w_notV ?_)
  | (with_reducible refine' w_if ?_)
  | (with_reducible refine' w_chain ?_)
  | (with_reducible refine' w_B ?_)
  | (with_reducible refine' w_un ?_)
  | (with_reducible refine' w_lst ?_)
  | (with_reducible refine' w_tup ?_)
  | (with_reducible refine' w_gsub ?_)
  | (with_reducible refine' w_par ?_)
  | (with_reducible refine' w_two ?_)
  | (with_reducible refine' w_sl ?_)
  | (with_reducible refine' w_retN ?_)
  | (with_reducible refine' w_yes ?_)
  | (with_reducible refine' w_m1 ?_)
  | (with_reducible refine' w_pair0 ?_)
  | (with_reducible refine' w_pair1 ?_)
  | (with_reducible refine' c_reprB ?_)
  | (with_reducible refine' w_noPart ?_)
  | (with_reducible refine' w_part ?_)
  | (with_reducible refine' w_isI ?_)
  | (with_reducible refine' w_make ?_)
  | (with_reducible refine' w_sfld ?_)
  | (with_reducible refine' w_fld ?_)
  | (with_reducible refine' w_lc ?_)
  | (with_reducible refine' w_for ?_)
  | (with_reducible refine' w_iR1 ?_)
  | (with_reducible refine' w_iR2 ?_)
  | ((with_reducible refine' w_lcW ?h ?_); (case h => exact rfl))
  | (with_reducible refine' m_strT ?_)
  | (with_reducible refine' w_bm0 ?_)
  | (with_reducible refine' w_bm ?_)
  | (with_reducible refine' m_str ?_)
  | (with_reducible refine' m_s0 ?_)
  | ((with_reducible refine' m_lst ?h ?_); (case h => first | assumption | exact SqL.of upd_same | exact SqL.of (by assumption)))
  | (with_reducible refine' a_addI ?_)
  | (with_reducible refine' a_I0 ?_)
  | ((with_reducible refine' a_mulI ?h ?_); (case h => first | exact .inl ⟨by decide, by decide⟩ | exact .inr ⟨by decide, by decide⟩ | exact .inl ⟨by omega, by omega⟩ | exact .inr ⟨by omega, by omega⟩))
  | ((with_reducible refine' a_fdiv ?h ?_); (case h => first | exact ⟨by decide, by decide⟩ | exact ⟨by omega, by omega⟩))
  | ((with_reducible refine' a_mod ?h ?_); (case h => first | decide | omega))
  | ((with_reducible refine' a_pow ?h ?_); (case h => first | exact ⟨by decide, by decide, by decide⟩ | exact ⟨by decide, by decide, by omega⟩))
  | (with_reducible refine' a_neg ?_)
  | (with_reducible refine' a_ltI ?_)
  | (with_reducible refine' a_leI ?_)
  | (with_reducible refine' a_gtI ?_)
  | (with_reducible refine' a_geI ?_)
  | (with_reducible refine' a_ltS ?_)
  | (with_reducible refine' a_eqI ?_)
  | (with_reducible refine' a_eqS ?_)
  | (with_reducible refine' a_neI ?_)
  | (with_reducible refine' a_neS ?_)
  | (with_reducible refine' a_isnotB ?_)
  | (with_reducible refine' a_isB ?_)
  | (with_reducible refine' a_isN ?_)
  | (with_reducible refine' a_isnotN ?_)
  | ((with_reducible refine' a_ixL ?h1 ?h2 ?_); (case h1 => first | assumption | exact upd_same); (case h2 => exact rfl))
  | ((with_reducible refine' a_set ?h1 ?h2 ?_); (case h1 => first | assumption | exact upd_same); (case h2 => exact rfl))
  | (with_reducible refine' c_int ?_)
  | (with_reducible refine' c_intB ?_)
  | (with_reducible refine' c_max ?_)
  | (with_reducible refine' c_min ?_)
  | ((with_reducible refine' a_fdiv ?h ?_); (case h => first | exact ⟨by decide, by decide⟩ | exact ⟨by omega, by omega⟩))
  | (with_reducible refine' iteT ?_)
  | (with_reducible refine' iteF ?_)
  | (with_reducible refine' iteNT ?_)
  | (with_reducible refine' iteNF ?_)
  | (with_reducible refine' w_js ?_)
  | (with_reducible refine' w_jsn ?_)
  | (with_reducible refine' w_fmt ?_)
  | ((with_reducible refine' w_makeL ?h ?_); (case h => exact rfl))
  | (with_reducible refine' w_raiseE ?_)
  | (with_reducible refine' w_getE ?_)
  | ((with_reducible refine' w_callW ?h ?_); (case h => exact rfl))
  | (with_reducible refine' w_cmeth ?_)
  | (with_reducible refine' is_of ?_)
  | ((with_reducible refine' w_lam1 ?h ?_); (case h => assumption)))
theorem ok_l_spoilt {P : Program} {w : World} {K : PySem.W.Frag} {mg : Str → Option Value} {base : Heap} (T : Top P K mg) : FnOk P w K mg base CX0 (3) T.f_l_spoilt T.fd_l_spoilt ["_law_box_here", "_law_text"] (sp_spoilt) := by
  refine T.F_l_spoilt.ok sc_l_spoilt (fun vs H Q E h => ?_) (fun cdv A outer s H vs Q E hr h => ?_)
  · obtain ⟨p, n, z, k, a, b, rfl, hb, hn, hz, hw, q⟩ := h
    rfl
  · obtain ⟨p, n, z, k, a, b, rfl, hb, hn, hz, hw, q⟩ := h
    refine ⟨_, (pss_cons (ps_par (i := 2) (j := 3) (by rfl) sc_l_spoilt.nd rfl rfl (by decide) rfl rfl (pa_cons (pe_call (ok_l_take T) (hr.mono (by decide)) (by rfl) T.g_l_take T.F_l_take.kp T.b_l_take .nil pass0 (pa_cons (pv 0) (pa_cons (pe_op op_addU (pe_callB (call_lenU (K := K) rfl) (by rfl) T.m_len PySem.boot_len (pa_cons (pv 1) pa_nil)) pe_int) pa_nil))) (pa_cons (pe_call (ok_l_take T) (hr.mono (by decide)) (by rfl) T.g_l_take T.F_l_take.kp T.b_l_take .nil pass0 (pa_cons (pv 0) (pa_cons pe_int pa_nil))) pa_nil)) (by rfl))
      (pss_cons (ps_set (i := 4) sc_l_spoilt.nd rfl (Or.inl rfl) (pe_ix (ix_U (K := K) rfl) pe_str (pe_call (ok_l_take T) (hr.mono (by decide)) (by rfl) T.g_l_take T.F_l_take.kp T.b_l_take .nil pass0 (pa_cons (pv 0) (pa_cons pe_int pa_nil))) (fun _ _ => rfl)))
      (pss_cons (ps_set (i := 5) sc_l_spoilt.nd rfl (Or.inl rfl) (pe_splitU (pv 1) pe_str))
      (pss_cons (ps_if (pt_cmpR op_ltU (pv 3) pe_int (nomark _)) (pss_one (ps_ret (pe_ix (ix_U (K := K) rfl) (pe_lst (pa_cons (pe_op op_addU (pe_op op_addU (pe_slice (sl_U (K := K) rfl) (pv 1) po_none (po_some (pv 2))) (pv 4)) (pe_slice (sl_U (K := K) rfl) (pv 1) (po_some (pv 2)) po_none)) (pa_cons (pe_op op_addU (pe_slice (sl_U (K := K) rfl) (pv 1) po_none (po_some (pv 2))) (pe_slice (sl_U (K := K) rfl) (pv 1) (po_some (pe_op op_addU (pv 2) pe_int)) po_none)) (pa_cons (pe_op op_addU (pe_op op_addU (pe_slice (sl_U (K := K) rfl) (pv 1) po_none (po_some (pv 2))) (pv 4)) (pe_slice (sl_U (K := K) rfl) (pv 1) (po_some (pe_op op_addU (pv 2) pe_int)) po_none)) pa_nil)))) (pv 3) (fun _ _ => rfl)))) pss_nil)
      (pss_cons (ps_if (pt_cmpR (op_eqU (K := K) rfl hr.units) (pv 3) pe_int (nomark _)) (pss_one (ps_ret (pe_joinU (K := K) rfl pe_str (pe_lst (pa_cons (pe_ix (ix_U (K := K) rfl) (pv 5) pe_int (fun _ _ => rfl)) (pa_cons (pe_ix (ix_U (K := K) rfl) (pv 5) pe_int (fun _ _ => rfl)) (pa_cons (pe_ix (ix_U (K := K) rfl) (pv 5) pe_int (fun _ _ => rfl)) pa_nil))))))) pss_nil)
      (pss_cons (ps_if (pt_cmpR (op_eqU (K := K) rfl hr.units) (pv 3) pe_int (nomark _)) (pss_cons (ps_par (i := 6) (j := 7) (by rfl) sc_l_spoilt.nd rfl rfl (by decide) rfl rfl (pa_cons (pe_call (ok_l_take T) (hr.mono (by decide)) (by rfl) T.g_l_take T.F_l_take.kp T.b_l_take .nil pass0 (pa_cons (pv 0) (pa_cons pe_int pa_nil))) (pa_cons (pe_call (ok_l_take T) (hr.mono (by decide)) (by rfl) T.g_l_take T.F_l_take.kp T.b_l_take .nil pass0 (pa_cons (pv 0) (pa_cons pe_int pa_nil))) pa_nil)) (by rfl))
      (pss_one (ps_ret (pe_joinU (K := K) rfl pe_str (pe_op op_addU (pe_op op_addU (pe_slice (sl_U (K := K) rfl) (pv 5) po_none (po_some (pv 6))) (pe_lst (pa_cons (pe_ix (ix_U (K := K) rfl) (pv 5) (pv 7) (fun _ _ => rfl)) pa_nil))) (pe_slice (sl_U (K := K) rfl) (pv 5) (po_some (pv 6)) po_none)))))) pss_nil)
      (pss_cons (ps_if (pt_cmpR (op_eqU (K := K) rfl hr.units) (pv 3) pe_int (nomark _)) (pss_cons (ps_set (i := 8) sc_l_spoilt.nd rfl (Or.inl rfl) (pe_call (ok_l_take T) (hr.mono (by decide)) (by rfl) T.g_l_take T.F_l_take.kp T.b_l_take .nil pass0 (pa_cons (pv 0) (pa_cons pe_int pa_nil))))
      (pss_one (ps_ret (pe_joinU (K := K) rfl pe_str (pe_op op_addU (pe_slice (sl_U (K := K) rfl) (pv 5) po_none (po_some (pv 8))) (pe_slice (sl_U (K := K) rfl) (pv 5) (po_some (pe_op op_addU (pv 8) pe_int)) po_none)))))) pss_nil)
      (pss_cons (ps_if (pt_cmpR (op_eqU (K := K) rfl hr.units) (pv 3) pe_int (nomark _)) (pss_one (ps_ret (pe_joinU (K := K) rfl pe_str (pe_op op_addU (pe_slice (sl_U (K := K) rfl) (pv 5) po_none (po_some pe_int)) (pv 5))))) pss_nil)
      (pss_cons (ps_if (pt_cmpR (op_eqU (K := K) rfl hr.units) (pv 3) pe_int (nomark _)) (pss_one (ps_ret (pe_joinU (K := K) rfl pe_str (pe_call (ok_l_mixed T) (hr.mono (by decide)) (by rfl) T.g_l_mixed T.F_l_mixed.kp T.b_l_mixed .nil pass0 (pa_cons (pv 0) (pa_cons (pv 5) pa_nil)))))) pss_nil)
      (pss_one (ps_ret (pe_ix (ix_U (K := K) rfl) (pe_lst (pa_two (te := tC .non) rfl (pe_lst (pa_cons (pe_ix (ix_U (K := K) rfl) (pv 5) pe_int (fun _ _ => rfl)) (pa_cons (pe_ix (ix_U (K := K) rfl) (pv 5) pe_int (fun _ _ => rfl)) (pa_cons (pe_ix (ix_U (K := K) rfl) (pv 5) pe_int (fun _ _ => rfl)) pa_nil)))) (CwR.pet_replC (pv 1)))) (pe_op op_sub (pv 3) pe_int) (fun _ _ => rfl))))))))))))), ?_⟩
    have hz1 := hz.1
    have big : (1000000 : Nat) ≤ sizeLine := by decide
    have lz : z.length ≤ sizeLine := by omega
    repeat walk_at "g"
    refine c_lenS lz ?_
    repeat walk_at "g"
    refine take_of hb (by omega) (by omega) (by omega) fun at_ H1 ha0 ha1 hb1 x1 => ?_
    repeat walk_at "g"
    refine take_of hb1 (by omega) (by decide) (by decide) fun wy H2 hw0 hw1 hb2 x2 => ?_
    repeat walk_at "g"
    refine take_of hb2 (by omega) (by decide) (by decide) fun sg H3 hs0 hs1 hb3 x3 => ?_
    have okS : OkS (Str.ofString "abz AL`{\n_") 10 := ⟨by decide +kernel, by decide +kernel⟩
    obtain ⟨c, hc, hcm⟩ := atI_in (Str.ofString "abz AL`{\n_").cps.toList hs0 (by rw [show ((Str.ofString "abz AL`{\n_").cps.toList.length : Int) = 10 by decide +kernel]; exact hs1)
    repeat walk_at "g"
    refine a_ixS (by decide +kernel) hc ?_
    have oc := OkS_item okS hc
    generalize (⟨#[c]⟩ : Str) = sn at oc
    have hsn := oc.1
    repeat walk_at "g"
    refine ⟨z, _, rfl, rfl, by decide, by omega, fun ws hws => ?_⟩
    have ew : Txt.split z (Str.ofString " ") = [k, a, b] := hw
    rw [ew]
    have x4 : ExB p H (upd H3 ws (.lst ([k, a, b].map V.str))) := ((x1.trans x2).trans x3).new hws
    have hb4 := hb3.new hws (o := .lst ([k, a, b].map V.str))
    have hw4 : upd H3 ws (.lst ([k, a, b].map V.str)) ws = some (.lst ([k, a, b].map V.str)) := upd_same
    have wok := words_ok hz
    rw [hw] at wok
    generalize upd H3 ws (.lst ([k, a, b].map V.str)) = H4 at x4 hb4 hw4
    have nws : p ≠ ws := hb3.ne hws
    have fin : ∀ (z' : Str) (m : Nat) (H' : Hp) (j : Nat), OkS z' m → m ≤ 10000 → j ≤ n + 10 → ExB p H4 H' → BoxAt H' p j → Q (.str z') H' := fun z' m H' j o hm hj x hb => q z' H' (o.mono hm) (x4.trans x) (hb.mono hj)
    have cs : wy < 3 ∨ wy = 3 ∨ wy = 4 ∨ wy = 5 ∨ wy = 6 ∨ wy = 7 ∨ 8 ≤ wy := by omega
    rcases cs with cc | cc | cc | cc | cc | cc | cc
    all_goals repeat' (first | walk_at "g" | (refine iteD (fun h => ?_) (fun h => ?_) <;> try (exfalso; omega)))
    · have lc : ∀ lo hi, OkS (cutS z lo hi) 100 := fun lo hi => OkS_cut hz lo hi
      have c1 := (lc none (some at_)).1
      have c2 := (lc (some at_) none).1
      have c3 := (lc (some (at_ + 1)) none).1
      repeat' (first | walk_at "g" | refine a_slS lz ?_ | (refine a_addS (by first | omega | (simp only [len_app]; omega)) ?_))
      refine newL_of rfl fun l hl => ?_
      repeat walk_at "g"
      have w3 : wy = 0 ∨ wy = 1 ∨ wy = 2 := by omega
      rcases w3 with rfl | rfl | rfl
      · refine a_ixL upd_same rfl ?_
        exact fin _ _ _ (n + 3) (OkS_append (OkS_append (lc _ _) oc) (lc _ _)) (by decide) (by omega) (ExB.of (Ex.new hl)) (hb4.new hl)
      · refine a_ixL upd_same rfl ?_
        exact fin _ _ _ (n + 3) (OkS_append (lc _ _) (lc _ _)) (by decide) (by omega) (ExB.of (Ex.new hl)) (hb4.new hl)
      · refine a_ixL upd_same rfl ?_
        exact fin _ _ _ (n + 3) (OkS_append (OkS_append (lc _ _) oc) (lc _ _)) (by decide) (by omega) (ExB.of (Ex.new hl)) (hb4.new hl)
    · refine newL_of rfl fun l hl => ?_
      refine join_of (ys := [k, b, a]) (m := 100) upd_same (fun y hy => wok y (by simp at hy ⊢; rcases hy with h | h | h <;> simp [h])) (by decide) (Nat.le_of_ble_eq_true rfl) fun o => ?_
      exact fin _ _ _ (n + 3) o (Nat.le_of_ble_eq_true rfl) (by omega) (ExB.of (Ex.new hl)) (hb4.new hl)
    · refine take_of hb4 (by omega) (by decide) (by decide) fun one H5 ho0 ho1 hb5 x5 => ?_
      repeat walk_at "g"
      refine take_of hb5 (by omega) (by decide) (by decide) fun oth H6 hq0 hq1 hb6 x6 => ?_
      repeat walk_at "g"
      have hw6 := x6.at (x5.at hw4 nws.symm) nws.symm
      refine a_slL (.of hw6) fun l1 hl1 => ?_
      obtain ⟨ys1, e1, n1, m1⟩ := cut_strs [k, a, b] none (some one)
      rw [e1]
      repeat walk_at "g"
      obtain ⟨w, hwat, hwm⟩ := atI_in [k, a, b] hq0 hq1
      have hwat' : atI ([k, a, b].map V.str) oth = some (.str w) := atI_map hwat
      refine a_ixLK (.of (Ex.new hl1 _ _ hw6)) hwat' ?_
      repeat walk_at "g"
      refine newL_of rfl fun l2 hl2 => ?_
      refine a_cat (Ex.new hl2 _ _ upd_same) upd_same (by rw [List.length_map]; have : [k, a, b].length = 3 := rfl; show _ + 1 ≤ _; omega) fun l3 hl3 => ?_
      repeat walk_at "g"
      refine a_slL (.of (Ex.new hl3 _ _ (Ex.new hl2 _ _ (Ex.new hl1 _ _ hw6)))) fun l4 hl4 => ?_
      obtain ⟨ys4, e4, n4, m4⟩ := cut_strs [k, a, b] (some one) none
      rw [e4]
      refine a_cat (Ex.new hl4 _ _ upd_same) upd_same (by simp only [List.length_append, List.length_map]; have : [k, a, b].length = 3 := rfl; show ys1.length + 1 + _ ≤ _; omega) fun l5 hl5 => ?_
      have e : ys1.map V.str ++ [V.str w] ++ ys4.map V.str = (ys1 ++ [w] ++ ys4).map V.str := by
        rw [List.map_append, List.map_append]
        rfl
      rw [e]
      refine join_of (m := 100) upd_same (fun y hy => wok y ?_) (by decide) ?_ fun o => ?_
      · rcases List.mem_append.mp hy with hy | hy
        · rcases List.mem_append.mp hy with hy | hy
          · exact m1 y hy
          · rw [List.mem_singleton.mp hy]
            exact hwm
        · exact m4 y hy
      · simp only [List.length_append, List.length_singleton]
        have : [k, a, b].length = 3 := rfl
        omega
      · have lo : (ys1 ++ [w] ++ ys4).length ≤ 7 := by
          simp only [List.length_append, List.length_singleton]
          have : [k, a, b].length = 3 := rfl
          omega
        exact fin _ _ _ (n + 5) (o.mono (Nat.mul_le_mul_right _ lo)) (by decide) (by omega) ((x5.trans x6).trans (ExB.of ((((Ex.new hl1).trans (Ex.new hl2)).trans (Ex.new hl3)).trans (Ex.new hl4) |>.trans (Ex.new hl5)))) ((((hb6.new hl1).new hl2).new hl3).new hl4 |>.new hl5)
    · refine take_of hb4 (by omega) (by decide) (by decide) fun one H5 ho0 ho1 hb5 x5 => ?_
      repeat walk_at "g"
      have hw6 := x5.at hw4 nws.symm
      refine a_slL (.of hw6) fun l1 hl1 => ?_
      obtain ⟨ys1, e1, n1, m1⟩ := cut_strs [k, a, b] none (some one)
      rw [e1]
      repeat walk_at "g"
      refine a_slL (.of (Ex.new hl1 _ _ hw6)) fun l4 hl4 => ?_
      obtain ⟨ys4, e4, n4, m4⟩ := cut_strs [k, a, b] (some (one + 1)) none
      rw [e4]
      refine a_cat (Ex.new hl4 _ _ upd_same) upd_same (by simp only [List.length_map]; have : [k, a, b].length = 3 := rfl; omega) fun l5 hl5 => ?_
      rw [← List.map_append]
      refine join_of (m := 100) upd_same (fun y hy => wok y ((List.mem_append.mp hy).elim (m1 y) (m4 y))) (by decide) ?_ fun o => ?_
      · rw [List.length_append]
        have : [k, a, b].length = 3 := rfl
        omega
      · have lo : (ys1 ++ ys4).length ≤ 6 := by
          rw [List.length_append]
          have : [k, a, b].length = 3 := rfl
          omega
        exact fin _ _ _ (n + 4) (o.mono (Nat.mul_le_mul_right _ lo)) (by decide) (by omega) (x5.trans (ExB.of (((Ex.new hl1).trans (Ex.new hl4)).trans (Ex.new hl5)))) (((hb5.new hl1).new hl4).new hl5)
    · refine a_slL (.of hw4) fun l1 hl1 => ?_
      obtain ⟨ys1, e1, n1, m1⟩ := cut_strs [k, a, b] none (some 1)
      rw [e1]
      repeat walk_at "g"
      refine a_cat upd_same (Ex.new hl1 _ _ hw4) (by simp only [List.length_map]; have : [k, a, b].length = 3 := rfl; omega) fun l5 hl5 => ?_
      rw [← List.map_append]
      refine join_of (m := 100) upd_same (fun y hy => wok y ((List.mem_append.mp hy).elim (m1 y) id)) (by decide) ?_ fun o => ?_
      · rw [List.length_append]
        have : [k, a, b].length = 3 := rfl
        omega
      · have lo : (ys1 ++ [k, a, b]).length ≤ 6 := by
          rw [List.length_append]
          have : [k, a, b].length = 3 := rfl
          omega
        exact fin _ _ _ (n + 3) (o.mono (Nat.mul_le_mul_right _ lo)) (by decide) (by omega) (ExB.of ((Ex.new hl1).trans (Ex.new hl5))) ((hb4.new hl1).new hl5)
    · refine ⟨p, ws, n + 1 + 1 + 1, [k, a, b], rfl, hb4, by omega, .of hw4, Nat.le_of_ble_eq_true rfl, fun H5 l ys x5 hb5 _ hl pm => ?_⟩
      refine join_of (m := 100) hl (fun y hy => wok y (pm.mem_iff.mp hy)) (by decide) (by rw [pm.length_eq]; exact Nat.le_of_ble_eq_true rfl) fun o => ?_
      rw [pm.length_eq] at o
      exact fin _ _ _ _ o (Nat.le_of_ble_eq_true rfl) (by show n + 1 + 1 + 1 + 3 ≤ _; omega) x5 hb5
    · refine newL_of rfl fun l hl => ?_
      refine join_of (K := K) (ys := [k, a, a]) (m := 100) upd_same (fun y hy => wok y (by simp at hy ⊢; rcases hy with h | h <;> simp [h])) (by decide) (Nat.le_of_ble_eq_true rfl) fun o => ?_
      repeat walk_at "g"
      refine ⟨.str z, rfl, z, rfl, ?_, ?_⟩
      · have : (Str.ofString "length").length = 6 := by decide +kernel
        rw [this]
        omega
      · have o2 := OkS_repl (y := Str.ofString "bearing") hz (show OkS (Str.ofString "length") 6 from ⟨by decide +kernel, by decide +kernel⟩) (by decide +kernel)
        repeat walk_at "g"
        refine newL_of rfl fun l2 hl2 => ?_
        repeat walk_at "g"
        have w2 : wy - 8 = 0 ∨ wy - 8 = 1 := by omega
        rcases w2 with w2 | w2 <;> rw [w2]
        · refine a_ixL upd_same rfl ?_
          exact fin _ _ _ (n + 3) o (Nat.le_of_ble_eq_true rfl) (by omega) (ExB.of ((Ex.new hl).trans (Ex.new hl2))) ((hb4.new hl).new hl2)
        · refine a_ixL upd_same rfl ?_
          exact fin _ _ _ (n + 3) o2 (by decide) (by omega) (ExB.of ((Ex.new hl).trans (Ex.new hl2))) ((hb4.new hl).new hl2)


end K03

set_option Elab.async false
set_option linter.all false
set_option maxRecDepth 100000
set_option maxHeartbeats 3900000
namespace K03
open PySem PySem.Spec PyProof.Rows L2 G
local macro_rules | `(tactic| walk_at "g") => `(tactic| first
  | (with_reducible refine' w_seq ?_)
  | ((with_reducible refine' w_var ?h ?_); (case h => exact rfl))
  | (with_reducible refine' w_c ?_)
  | (with_reducible refine' w_op ?_)
  | (with_reducible refine' w_asg ?_)
  | (with_reducible refine' w_gname ?_)
  | (with_reducible refine' w_ifS ?_)
  | (with_reducible refine' w_test ?_)
  | (with_reducible refine' w_bl ?_)
  | (with_reducible refine' w_CB ?_)
  | (with_reducible refine' w_cons ?_)
  | (with_reducible refine' w_nil ?_)
  | (with_reducible refine' w_call ?_)
  | (with_reducible refine' w_ret ?_)
  | (with_reducible refine' w_drop ?_)
  | (with_reducible refine' w_next ?_)
  | (with_reducible refine' w_and ?_)
  | (with_reducible refine' w_or ?_)
  | (with_reducible refine' w_not ?_)
  | (with_reducible refine' w_andV ?_)
  | (with_reducible refine' w_orV ?_)
  | (with_reducible refine' w_notV ?_)
  | (with_reducible refine' w_if ?_)
  | (with_reducible refine' w_chain ?_)
  | (with_reducible refine' w_B ?_)
  | (with_reducible refine' w_un ?_)
  | (with_reducible refine' w_lst ?_)
  | (with_reducible refine' w_tup ?_)
  | (with_reducible refine' w_gsub ?_)
  | (with_reducible refine' w_par ?_)
  | (with_reducible refine' w_two ?_)
  | (with_reducible refine' w_sl ?_)
  | (with_reducible refine' w_retN ?_)
  | (with_reducible refine' w_yes ?_)
  | (with_reducible refine' w_m1 ?_)
  | (with_reducible refine' w_pair0 ?_)
  | (with_reducible refine' w_pair1 ?_)
  | (with_reducible refine' c_reprB ?_)
  | (with_reducible refine' w_noPart ?_)
  | (with_reducible refine' w_part ?_)
  | (with_reducible refine' w_isI ?_)
  | (with_reducible refine' w_make ?_)
  | (with_reducible refine' w_sfld ?_)
  | (with_reducible refine' w_fld ?_)
  | (with_reducible refine' w_lc ?_)
  | (with_reducible refine' w_for ?_)
  | (with_reducible refine' w_iR1 ?_)
  | (with_reducible refine' w_iR2 ?_)
  | ((with_reducible refine' w_lcW ?h ?_); (case h => exact rfl))
  | (with_reducible refine' m_strT ?_)
  | (with_reducible refine' w_bm0 ?_)
  | (with_reducible refine' w_bm ?_)
  | (with_reducible refine' m_str ?_)
  | (with_reducible refine' m_s0 ?_)
  | ((with_reducible refine' m_lst ?h ?_); (case h => first | assumption | exact SqL.of upd_same | exact SqL.of (by assumption)))
  | (with_reducible refine' a_addI ?_)
  | (with_reducible refine' a_I0 ?_)
  | ((with_reducible refine' a_mulI ?h ?_); (case h => first | exact .inl ⟨by decide, by decide⟩ | exact .inr ⟨by decide, by decide⟩ | exact .inl ⟨by omega, by omega⟩ | exact .inr ⟨by omega, by omega⟩))
  | ((with_reducible refine' a_fdiv ?h ?_); (case h => first | exact ⟨by decide, by decide⟩ | exact ⟨by omega, by omega⟩))
  | ((with_reducible refine' a_mod ?h ?_); (case h => first | decide | omega))
  | ((with_reducible refine' a_pow ?h ?_); (case h => first | exact ⟨by decide, by decide, by decide⟩ | exact ⟨by decide, by decide, by omega⟩))
  | (with_reducible refine' a_neg ?_)
  | (with_reducible refine' a_ltI ?_)
  | (with_reducible refine' a_leI ?_)
  | (with_reducible refine' a_gtI ?_)
  | (with_reducible refine' a_geI ?_)
  | (with_reducible refine' a_ltS ?_)
  | (with_reducible refine' a_eqI ?_)
  | (with_reducible refine' a_eqS ?_)
  | (with_reducible refine' a_neI ?_)
  | (with_reducible refine' a_neS ?_)
  | (with_reducible refine' a_isnotB ?_)
  | (with_reducible refine' a_isB ?_)
  | (with_reducible refine' a_isN ?_)
  | (with_reducible refine' a_isnotN ?_)
  | ((with_reducible refine' a_ixL ?h1 ?h2 ?_); (case h1 => first | assumption | exact upd_same); (case h2 => exact rfl))
  | ((with_reducible refine' a_set ?h1 ?h2 ?_); (case h1 => first | assumption | exact upd_same); (case h2 => exact rfl))
  | (with_reducible refine' c_int ?_)
  | (with_reducible refine' c_intB ?_)
  | (with_reducible refine' c_max ?_)
  | (with_reducible refine' c_min ?_)
  | ((with_reducible refine' a_fdiv ?h ?_); (case h => first | exact ⟨by decide, by decide⟩ | exact ⟨by omega, by omega⟩))
  | (with_reducible refine' iteT ?_)
  | (with_reducible refine' iteF ?_)
  | (with_reducible refine' iteNT ?_)
  | (with_reducible refine' iteNF ?_)
  | (with_reducible refine' w_js ?_)
  | (with_reducible refine' w_jsn ?_)
  | (with_reducible refine' w_fmt ?_)
  | ((with_reducible refine' w_makeL ?h ?_); (case h => exact rfl))
  | (with_reducible refine' w_raiseE ?_)
  | (with_reducible refine' w_getE ?_)
  | ((with_reducible refine' w_callW ?h ?_); (case h => exact rfl))
  | (with_reducible refine' w_cmeth ?_)
  | (with_reducible refine' is_of ?_)
  | ((with_reducible refine' w_lam1 ?h ?_); (case h => assumption)))
def sp_text_right (tabs : List (Addr × Str)) : Sp := fun vs H Q _ => ∃ z, vs = [.str z] ∧ OkS z 10000 ∧ LamX.Tabs tabs H ∧ ∀ H', LamX.ExtN H H' → LamX.Tabs tabs H' → Q (.bl true) H'
theorem ok_l_text_right {P : Program} {w : World} {K : PySem.W.Frag} {mg : Str → Option Value} {base : Heap} (T : Top P K mg) (hB : Tbs T base) : FnOk P w K mg base CX0 (7) T.f_l_text_right T.fd_l_text_right ["_law_text"] (sp_text_right T.tabs) := by
  refine fun_okC T.F_l_text_right T.hc_l_text_right sc_l_text_right (fun vs H Q E h => ?_) (fun A outer s H vs Q E hr h => ?_)
  · obtain ⟨z, rfl, hz, hT, q⟩ := h
    rfl
  · obtain ⟨z, rfl, hz, hT, q⟩ := h
    refine ⟨_, (pss_cons (ps_set (i := 1) sc_l_text_right.nd rfl (Or.inl rfl) (pe_call (ok_l_read T) (hr.mono (by decide)) (by rfl) T.g_l_read T.F_l_read.kp T.b_l_read .nil pass0 (pa_cons (pv 0) pa_nil)))
      (pss_cons (ps_set (i := 2) sc_l_text_right.nd rfl (Or.inl rfl) (pe_lam1 (T := T.tabs) (p := "_law_it") (k := 4) (by rfl) T.g_l_caught T.F_l_caught.kp T.b_l_caught (fun B f sp hB2 hf => ok_l_caught T hf) (hr.mono (by decide)) pass0 hB.t_l_text_right rfl T.in_l_text_right T.un_l_text_right (lam1_by (N := ["_law_text", "_law_due", "_law_found"]) (sc := defScope s_l_text_right) (by decide +kernel)) rfl (fun _ _ _ _ _ _ => rfl) (fun B hB2 A outer s H E f c hr => (ClX.pe_cmeth (pe_glob (v := .ref T.C_Measure) (by rfl) T.g_Measure rfl) T.cr_M T.cm_M ((ok_Measure_read T).raw T.b_Measure_read .nil) (hr.mono (by decide)) (passes_call (takes_of rfl rfl rfl rfl) (fun _ _ _ _ h => h)) (pa_cons (pv 3) pa_nil))) (pa_cons (pv 0) pa_nil) rfl rfl (fun _ => rfl) rfl))
      (pss_cons (ps_if (pt_cmpR op_isU (pv 1) pe_non (nomark _)) (pss_one (ps_ret (pe_call (ok_l_is T) (hr.mono (by decide)) (by rfl) T.g_l_is T.F_l_is.kp T.b_l_is .nil pass0 (pa_cons (pv 2) (pa_cons pe_str (pa_cons (pv 0) pa_nil)))))) pss_nil)
      (pss_one (ps_ret (pe_and (pe_cmpR (op_eqU (K := K) rfl hr.units) (pe_ix (ix_U (K := K) rfl) (pv 2) pe_int (fun _ _ => rfl)) pe_str (nomark _)) (pe_and (pe_cmpR (show OpR _ _ (rEqO T.C_Measure (sp_eqM T.C_Measure) E0) from op_eqO (E := E0) (ok_Measure_eq T) (hr.mono (by decide)) T.eq_M T.fe_M T.b_Measure_eq pass0) (pe_ix (ix_U (K := K) rfl) (pv 2) pe_int (fun _ _ => rfl)) (pe_make T.M_Measure (ok_Measure_init T) (hr.mono (by decide)) (by rfl) T.g_Measure T.b_Measure_init .nil pass0 (pa_cons (pe_ix (ix_U (K := K) rfl) (pv 1) pe_int (fun _ _ => rfl)) (pa_cons (pe_ix (ix_U (K := K) rfl) (pv 1) pe_int (fun _ _ => rfl)) (pa_cons (pe_ix (ix_U (K := K) rfl) (pv 1) pe_int (fun _ _ => rfl)) pa_nil)))) (nomark _)) (pe_one (pe_cmpR (op_eqU (K := K) rfl hr.units) (pe_callTy (call_strO (C := T.C_Measure) (E := E0) (ok_Measure_str T) (hr.mono (by decide)) T.st_M T.fs_M T.b_Measure_str pass0) (by rfl) T.m_str (by decide +kernel) (pa_cons (pe_ix (ix_U (K := K) rfl) (pv 2) pe_int (fun _ _ => rfl)) pa_nil)) (pv 0) (nomark _)))))))))), ?_⟩
    have hz2 : OkS z 10000 := hz
    repeat walk_at "g"
    cases hgd : goodW (wordsZ z) with
    | false =>
      refine ⟨z, rfl, hz2, fun h => (by rw [hgd] at h; cases h), fun _ H1 e1 => ?_⟩
      have hT1 : LamX.Tabs T.tabs H1 := hT.ext e1
      repeat walk_at "g"
      intro f c H2 x2 hT2 hc
      repeat walk_at "g"
      refine ⟨.str z, rfl, fun Q' E' hQ hE => ⟨.str z, rfl, hc, ?_⟩⟩
      repeat walk_at "g"
      refine ⟨.str z, rfl, .inl ⟨z, rfl, hz2, fun h => (by rw [hgd] at h; cases h), fun _ d H3 e3 hd => ?_⟩⟩
      refine hE d _ H3 hd fun p H4 e4 hp0 hp => ?_
      repeat walk_at "g"
      refine iteD (fun _ => ?_) (fun h => absurd rfl h)
      repeat walk_at "g"
      refine ⟨p, _, _, rfl, hp, .str hz2, ?_⟩
      exact q H4 ((e1.n.trans x2).trans (e3.trans e4).n) (hT2.ext (e3.trans e4))
    | true =>
      obtain ⟨k, a, b, hw⟩ : ∃ k a b, wordsZ z = [k, a, b] := by
        by_cases h3 : (wordsZ z).length = 3
        · exact three h3
        · rw [bad3 h3] at hgd
          cases hgd
      have wok := words_ok hz
      rw [hw] at wok
      have hg3 := hgd
      rw [hw, goodW3, Bool.and_eq_true, Bool.and_eq_true, Bool.and_eq_true, Bool.or_eq_true, decide_eq_true_eq, decide_eq_true_eq, decide_eq_true_eq] at hg3
      obtain ⟨hk, hna, hnb, hl⟩ := hg3
      have oa := isName_ok hna
      have ob := isName_ok hnb
      have ok : OkS k 7 := by
        rcases hk with rfl | rfl
        · exact ⟨by decide +kernel, by decide +kernel⟩
        · exact ⟨by decide +kernel, by decide +kernel⟩
      refine ⟨z, rfl, hz2, fun _ ws H1 e1 hws0 hws => ?_, fun h => (by rw [hgd] at h; cases h)⟩
      rw [hw] at hws
      have hT1 : LamX.Tabs T.tabs H1 := hT.ext e1
      repeat walk_at "g"
      intro f c H2 x2 hT2 hc
      repeat walk_at "g"
      refine ⟨.str z, rfl, fun Q' E' hQ hE => ⟨.str z, rfl, hc, ?_⟩⟩
      repeat walk_at "g"
      refine ⟨.str z, rfl, .inl ⟨z, rfl, hz2, fun _ k' a' b' hw' x H3 e3 hm => ?_, fun h => (by rw [hgd] at h; cases h)⟩⟩
      rw [hw] at hw'
      cases hw'
      refine hQ _ H3 fun p H4 e4 hp0 hp => ?_
      have hm4 := hm.mono e4
      have hws4 : H4 ws = some (.lst [.str k, .str a, .str b]) := (e3.trans e4) _ _ (x2 _ _ hws (fun _ z => nomatch z))
      have x4 : LamX.ExtN H H4 := (e1.n.trans x2).trans (e3.trans e4).n
      have hT4 := hT2.ext (e3.trans e4)
      repeat walk_at "g"
      refine iteD (fun h => nomatch h) (fun _ => ?_)
      repeat walk_at "g"
      rw [decide_eq_true rfl]
      repeat walk_at "g"
      intro x2' dx2 hx2 hdx2 nx2
      refine ⟨x2', dx2, k, a, b, rfl, upd_same, hk, hna, hnb, ?_, fun H5 e5 hm5 => ⟨rfl, ?_⟩⟩
      · intro e
        rw [e] at hl
        exact absurd hl (List.lt_irrefl _)
      · have e45 : Ex H4 H5 := fun c o hc => e5 c o (ne_of_none hc hx2) (by rw [upd_ne (ne_of_none hc hx2), upd_ne (ne_of_none hc hdx2)]; exact hc)
        unfold lo2 hi2 at hm5
        rw [if_pos hl, if_pos hl] at hm5
        have hm55 := hm4.mono e45
        have mo : ∀ {s : Str} {n : Nat}, OkS s n → n ≤ 100 → OkS s 100 := fun h hn => h.mono hn
        obtain ⟨dxx, tx, hmx, hmt⟩ := id hm55
        obtain ⟨dxy, ty, hmy, hmt2⟩ := id hm5
        refine ⟨x, x2', dxx, _, dxy, _, rfl, rfl, hmx, hmy, x, x2', k, a, b, k, a, b, rfl, hm55, hm5, mo ok (by decide), mo oa (by decide), mo ob (by decide), mo ok (by decide), mo oa (by decide), mo ob (by decide), ⟨_, rfl⟩, ?_⟩
        rw [decide_eq_true ⟨rfl, rfl, rfl⟩]
        have hp5 := e45 _ _ hp
        repeat walk_at "g"
        refine ⟨x, dxx, _, rfl, hmx, x, k, a, b, rfl, hm55, Nat.le_trans ok.1 (by decide), Nat.le_trans oa.1 (by decide), Nat.le_trans ob.1 (by decide), ⟨_, rfl⟩, ?_⟩
        rw [words_glue hw]
        repeat walk_at "g"
        rw [decide_eq_true rfl]
        exact q H5 (x4.trans e45.n) (hT4.ext e45)


end K03

set_option Elab.async false
set_option linter.all false
set_option maxRecDepth 100000
set_option maxHeartbeats 3900000
namespace K03
open PySem PySem.Spec PyProof.Rows L2 G
local macro_rules | `(tactic| walk_at "g") => `(tactic| first
  | (with_reducible refine' w_seq ?_)
  | ((with_reducible refine' w_var ?h ?_); (case h => exact rfl))
  | (with_reducible refine' w_c ?_)
  | (with_reducible refine' w_op ?_)
  | (with_reducible refine' w_asg ?_)
  | (with_reducible refine' w_gname ?_)
  | (with_reducible refine' w_ifS ?_)
  | (with_reducible refine' w_test ?_)
  | (with_reducible refine' w_bl ?_)
  | (with_reducible refine' w_CB ?_)
  | (with_reducible refine' w_cons ?_)
  | (with_reducible refine' w_nil ?_)
  | (with_reducible refine' w_call ?_)
  | (with_reducible refine' w_ret ?_)
  | (with_reducible refine' w_drop ?_)
  | (with_reducible refine' w_next ?_)
  | (with_reducible refine' w_and ?_)
  | (with_reducible refine' w_or ?_)
  | (with_reducible refine' w_not ?_)
  | (with_reducible refine' w_andV ?_)
  | (with_reducible refine' w_orV ?_)
  | (with_reducible refine' w_notV ?_)
  | (with_reducible refine' w_if ?_)
  | (with_reducible refine' w_chain ?_)
  | (with_reducible refine' w_B ?_)
  | (with_reducible refine' w_un ?_)
  | (with_reducible refine' w_lst ?_)
  | (with_reducible refine' w_tup ?_)
  | (with_reducible refine' w_gsub ?_)
  | (with_reducible refine' w_par ?_)
  | (with_reducible refine' w_two ?_)
  | (with_reducible refine' w_sl ?_)
  | (with_reducible refine' w_retN ?_)
  | (with_reducible refine' w_yes ?_)
  | (with_reducible refine' w_m1 ?_)
  | (with_reducible refine' w_pair0 ?_)
  | (with_reducible refine' w_pair1 ?_)
  | (with_reducible refine' c_reprB ?_)
  | (with_reducible refine' w_noPart ?_)
  | (with_reducible refine' w_part ?_)
  | (with_reducible refine' w_isI ?_)
  | (with_reducible refine' w_make ?_)
  | (with_reducible refine' w_sfld ?_)
  | (with_reducible refine' w_fld ?_)
  | (with_reducible refine' w_lc ?_)
  | (with_reducible refine' w_for ?_)
  | (with_reducible refine' w_iR1 ?_)
  | (with_reducible refine' w_iR2 ?_)
  | ((with_reducible refine' w_lcW ?h ?_); (case h => exact rfl))
  | (with_reducible refine' m_strT ?_)
  | (with_reducible refine' w_bm0 ?_)
  | (with_reducible refine' w_bm ?_)
  | (with_reducible refine' m_str ?_)
  | (with_reducible refine' m_s0 ?_)
  | ((with_reducible refine' m_lst ?h ?_); (case h => first | assumption | exact SqL.of upd_same | exact SqL.of (by assumption)))
  | (with_reducible refine' a_addI ?_)
  | (with_reducible refine' a_I0 ?_)
  | ((with_reducible refine' a_mulI ?h ?_); (case h => first | exact .inl ⟨by decide, by decide⟩ | exact .inr ⟨by decide, by decide⟩ | exact .inl ⟨by omega, by omega⟩ | exact .inr ⟨by omega, by omega⟩))
  | ((with_reducible refine' a_fdiv ?h ?_); (case h => first | exact ⟨by decide, by decide⟩ | exact ⟨by omega, by omega⟩))
  | ((with_reducible refine' a_mod ?h ?_); (case h => first | decide | omega))
  | ((with_reducible refine' a_pow ?h ?_); (case h => first | exact ⟨by decide, by decide, by decide⟩ | exact ⟨by decide, by decide, by omega⟩))
  | (with_reducible refine' a_neg ?_)
  | (with_reducible refine' a_ltI ?_)
  | (with_reducible refine' a_leI ?_)
  | (with_reducible refine' a_gtI ?_)
  | (with_reducible refine' a_geI ?_)
  | (with_reducible refine' a_ltS ?_)
  | (with_reducible refine' a_eqI ?_)
  | (with_reducible refine' a_eqS ?_)
  | (with_reducible refine' a_neI ?_)
  | (with_reducible refine' a_neS ?_)
  | (with_reducible refine' a_isnotB ?_)
  | (with_reducible refine' a_isB ?_)
  | (with_reducible refine' a_isN ?_)
  | (with_reducible refine' a_isnotN ?_)
  | ((with_reducible refine' a_ixL ?h1 ?h2 ?_); (case h1 => first | assumption | exact upd_same); (case h2 => exact rfl))
  | ((with_reducible refine' a_set ?h1 ?h2 ?_); (case h1 => first | assumption | exact upd_same); (case h2 => exact rfl))
  | (with_reducible refine' c_int ?_)
  | (with_reducible refine' c_intB ?_)
  | (with_reducible refine' c_max ?_)
  | (with_reducible refine' c_min ?_)
  | ((with_reducible refine' a_fdiv ?h ?_); (case h => first | exact ⟨by decide, by decide⟩ | exact ⟨by omega, by omega⟩))
  | (with_reducible refine' iteT ?_)
  | (with_reducible refine' iteF ?_)
  | (with_reducible refine' iteNT ?_)
  | (with_reducible refine' iteNF ?_)
  | (with_reducible refine' w_js ?_)
  | (with_reducible refine' w_jsn ?_)
  | (with_reducible refine' w_fmt ?_)
  | ((with_reducible refine' w_makeL ?h ?_); (case h => exact rfl))
  | (with_reducible refine' w_raiseE ?_)
  | (with_reducible refine' w_getE ?_)
  | ((with_reducible refine' w_callW ?h ?_); (case h => exact rfl))
  | (with_reducible refine' w_cmeth ?_)
  | (with_reducible refine' is_of ?_)
  | ((with_reducible refine' w_lam1 ?h ?_); (case h => assumption)))
theorem ok_law {P : Program} {w : World} {K : PySem.W.Frag} {mg : Str → Option Value} {base : Heap} (T : Top P K mg) (hB : Tbs T base) : FnOk P w K mg base CX0 (8) T.f_law T.fd_law ["_law_script"] (sp_law K T.tabs) := by
  refine fun_okC T.F_law T.hc_law sc_law (fun vs H Q E h => ?_) (fun A outer s H vs Q E hr h => ?_)
  · obtain ⟨a, ns, rfl, hS, hl, hT, q⟩ := h
    rfl
  · obtain ⟨a, ns, rfl, hS, hl, hT, q⟩ := h
    refine ⟨_, (pss_cons (ps_for PassesOwn.never rfl (pi_range1 (by rfl) T.m_range (pa_cons (pe_callB (call_maxU (K := K) rfl rfl) (by rfl) T.m_max (by decide +kernel) (pa_cons pe_int (pa_cons (pe_callB (call_minU (K := K) rfl rfl) (by rfl) T.m_min (by decide +kernel) (pa_cons pe_int (pa_cons (pe_callB (call_lenU (K := K) rfl) (by rfl) T.m_len PySem.boot_len (pa_cons (pv 0) pa_nil)) pa_nil))) pa_nil))) pa_nil)) (pg_name (i := 1) sc_law.nd rfl (Or.inl rfl)) (pss_cons (ps_set (i := 2) sc_law.nd rfl (Or.inl rfl) (pe_call (ok_l_box T) (hr.mono (by decide)) (by rfl) T.g_l_box T.F_l_box.kp T.b_l_box .nil pass0 (pa_cons (pe_call (ok_l_cell T) (hr.mono (by decide)) (by rfl) T.g_l_cell T.F_l_cell.kp T.b_l_cell .nil pass0 (pa_cons (pv 0) (pa_cons (pv 1) pa_nil))) pa_nil)))
      (pss_cons (ps_set (i := 3) sc_law.nd rfl (Or.inl rfl) (pe_callB (call_sortedSU (K := K) rfl) (by rfl) T.m_sorted (by decide +kernel) (pa_cons (pe_call (ok_l_names T) (hr.mono (by decide)) (by rfl) T.g_l_names T.F_l_names.kp T.b_l_names .nil pass0 (pa_cons (pv 2) (pa_cons (pe_op op_addU pe_int (pe_call (ok_l_take T) (hr.mono (by decide)) (by rfl) T.g_l_take T.F_l_take.kp T.b_l_take .nil pass0 (pa_cons (pv 2) (pa_cons pe_int pa_nil)))) pa_nil))) pa_nil)))
      (pss_cons (ps_for PassesOwn.never rfl (pi_range1 (by rfl) T.m_range (pa_cons pe_int pa_nil)) (pg_name (i := 4) sc_law.nd rfl (Or.inl rfl)) (pss_cons (ps_set (i := 5) sc_law.nd rfl (Or.inl rfl) (pe_ix (ix_U (K := K) rfl) (pe_lst (pa_cons pe_str (pa_cons pe_str pa_nil))) (pe_call (ok_l_take T) (hr.mono (by decide)) (by rfl) T.g_l_take T.F_l_take.kp T.b_l_take .nil pass0 (pa_cons (pv 2) (pa_cons pe_int pa_nil))) (fun _ _ => rfl)))
      (pss_cons (ps_set (i := 6) sc_law.nd rfl (Or.inl rfl) (pe_call (ok_l_take T) (hr.mono (by decide)) (by rfl) T.g_l_take T.F_l_take.kp T.b_l_take .nil pass0 (pa_cons (pv 2) (pa_cons (pe_op op_sub (pe_callB (call_lenU (K := K) rfl) (by rfl) T.m_len PySem.boot_len (pa_cons (pv 3) pa_nil)) pe_int) pa_nil))))
      (pss_cons (ps_set (i := 7) sc_law.nd rfl (Or.inl rfl) (pe_joinU (K := K) rfl pe_str (pe_lst (pa_cons (pv 5) (pa_cons (pe_ix (ix_U (K := K) rfl) (pv 3) (pv 6) (fun _ _ => rfl)) (pa_cons (pe_ix (ix_U (K := K) rfl) (pv 3) (pe_op op_addU (pv 6) pe_int) (fun _ _ => rfl)) pa_nil))))))
      (pss_cons (ps_if (PW.pt (pw_or (pt_cmpR (op_neU (K := K) rfl hr.units) (pe_callTy (call_strO (C := T.C_Measure) (E := E0) (ok_Measure_str T) (hr.mono (by decide)) T.st_M T.fs_M T.b_Measure_str pass0) (by rfl) T.m_str (by decide +kernel) (pa_cons (pe_make T.M_Measure (ok_Measure_init T) (hr.mono (by decide)) (by rfl) T.g_Measure T.b_Measure_init .nil pass0 (pa_cons (pv 5) (pa_cons (pe_ix (ix_U (K := K) rfl) (pv 3) (pe_op op_addU (pv 6) pe_int) (fun _ _ => rfl)) (pa_cons (pe_ix (ix_U (K := K) rfl) (pv 3) (pv 6) (fun _ _ => rfl)) pa_nil)))) pa_nil)) (pv 7) (nomark _)) (pw_or1 (pt_not (pt_val (pe_call (ok_l_text_right T hB) (hr.mono (by decide)) (by rfl) T.g_l_text_right T.F_l_text_right.kp T.b_l_text_right .nil pass0 (pa_cons (pv 7) pa_nil))))))) (pss_one (ps_ret pe_bl)) pss_nil)
      (pss_one (ps_for PassesOwn.never rfl (pi_range1 (by rfl) T.m_range (pa_cons pe_int pa_nil)) (pg_name (i := 8) sc_law.nd rfl (Or.inl rfl)) (pss_one (ps_if (pt_not (pt_val (pe_call (ok_l_text_right T hB) (hr.mono (by decide)) (by rfl) T.g_l_text_right T.F_l_text_right.kp T.b_l_text_right .nil pass0 (pa_cons (pe_call (ok_l_spoilt T) (hr.mono (by decide)) (by rfl) T.g_l_spoilt T.F_l_spoilt.kp T.b_l_spoilt .nil pass0 (pa_cons (pv 2) (pa_cons (pv 7) pa_nil))) pa_nil)))) (pss_one (ps_ret pe_bl)) pss_nil)))))))))
      (pss_cons (ps_set (i := 9) sc_law.nd rfl (Or.inl rfl) (pe_make T.M_Measure (ok_Measure_init T) (hr.mono (by decide)) (by rfl) T.g_Measure T.b_Measure_init .nil pass0 (pa_cons (pv 5) (pa_cons (pe_ix (ix_U (K := K) rfl) (pv 3) (pv 6) (fun _ _ => rfl)) (pa_cons (pe_ix (ix_U (K := K) rfl) (pv 3) (pe_op op_addU (pv 6) pe_int) (fun _ _ => rfl)) pa_nil)))))
      (pss_cons (ps_set (i := 10) sc_law.nd rfl (Or.inl rfl) (pe_lst (pa_cons pe_non (pa_cons pe_int (pa_cons pe_bl (pa_cons pe_str (pa_cons (pe_lst (pa_cons (pv 7) pa_nil)) (pa_cons (pe_tup (pa_cons (pv 7) pa_nil)) (pa_cons pe_dnewK (pa_cons (pe_splitU (pv 7) pe_str) (pa_cons (pe_op op_addU pe_str (pv 7)) (pa_cons (pe_op op_addU (pv 7) pe_str) (pa_cons (pe_op op_addU (pv 7) pe_str) (pa_cons (pv 9) pa_nil))))))))))))))
      (pss_cons (ps_set (i := 10) sc_law.nd rfl (Or.inl rfl) (pe_op op_addU (pv 10) (pe_lst (pa_cons (pv 5) (pa_cons (pe_op op_addU (pv 5) pe_str) (pa_cons (pe_ix (ix_U (K := K) rfl) (pv 3) pe_int (fun _ _ => rfl)) (pa_cons (pe_op op_addU (pv 5) pe_str) pa_nil)))))))
      (pss_one (ps_for PassesOwn.never rfl (pi_U (K := K) rfl (pv 10)) (pg_name (i := 11) sc_law.nd rfl (Or.inl rfl)) (pss_one (ps_if (pt_not (pt_val (pe_call (ok_l_is T) (hr.mono (by decide)) (by rfl) T.g_l_is T.F_l_is.kp T.b_l_is .nil pass0 (pa_cons (pe_lam1 (T := T.tabs) (p := "_law_it") (k := 4) (by rfl) T.g_l_caught T.F_l_caught.kp T.b_l_caught (fun B f sp hB2 hf => ok_l_caught T hf) (hr.mono (by decide)) pass0 hB.t_law rfl T.in_law T.un_law (lam1_by (N := ["_law_script", "_law_k", "_law_box_here", "_law_names_here", "_law_lap", "_law_kind", "_law_at", "_law_text", "_law_turn", "_law_measure", "_law_odds", "_law_odd"]) (sc := defScope s_law) (by decide +kernel)) rfl (fun _ _ _ _ _ _ => rfl) (fun B hB2 A outer s H E f c hr => (ClX.pe_cmeth (pe_glob (v := .ref T.C_Measure) (by rfl) T.g_Measure rfl) T.cr_M T.cm_M ((ok_Measure_read T).raw T.b_Measure_read .nil) (hr.mono (by decide)) (passes_call (takes_of rfl rfl rfl rfl) (fun _ _ _ _ h => h)) (pa_cons (pv 12) pa_nil))) (pa_cons (pv 11) pa_nil) rfl rfl (fun _ => rfl) rfl) (pa_cons pe_str (pa_cons (pv 11) pa_nil)))))) (pss_one (ps_ret pe_bl)) pss_nil)))))))))))
      (pss_one (ps_ret pe_bl))), ?_⟩
    have big : (1000000 : Nat) ≤ sizeLine := by decide
    repeat walk_at "g"
    refine c_lenL hS ?_
    repeat walk_at "g"
    refine it_R1 (by split <;> split <;> omega) (by split <;> split <;> omega) ?_
    refine for_walk wk_range (fun i σ H' => SqL K H' a (ns.map V.int) ∧ LamX.Tabs T.tabs H' ∧ ∃ v1 v2 v3 v4 v5 v6 v7 v8 v9 v10 v11, σ = [some (.ref a), v1, v2, v3, v4, v5, v6, v7, v8, v9, v10, v11]) ⟨hS, hT, _, _, _, _, _, _, _, _, _, _, _, rfl⟩ (fun _ _ _ _ => trivial) (fun i x σ H1 hx P => ?_) (fun σ H1 P => ?_)
    · obtain ⟨hS1, hT1, v1, v2, v3, v4, v5, v6, v7, v8, v9, v10, v11, rfl⟩ := P
      obtain ⟨rfl, hi⟩ := range_get hx
      have hi100 : i ≤ 100 := by
        rw [List.length_map] at hi
        split at hi <;> split at hi <;> omega
      repeat walk_at "g"
      refine ⟨a, ns, i, by rw [Int.zero_add]; rfl, hS1, hl, hi100, fun c => ?_⟩
      repeat walk_at "g"
      refine ⟨c, rfl, fun p o hp ho => ?_⟩
      have hb2 : BoxAt (upd H1 p o) p 0 := ⟨o, upd_same, ho⟩
      have w2 : W0 T.tabs H1 (upd H1 p o) := W0.ex ⟨LamX.ExtN.refl _, hT1⟩ (Ex.new hp)
      generalize upd H1 p o = H2 at hb2 w2
      repeat walk_at "g"
      refine take_of hb2 (by omega) (by decide) (by decide) fun d H3 hd0 hd1 hb3 x3 => ?_
      have w3 := w2.box hb2 hp x3
      repeat walk_at "g"
      refine ⟨p, _, (2 + d).toNat, by rw [show ((2 + d).toNat : Int) = 2 + d by omega]; rfl, hb3, by omega, by omega, fun H4 l xs x4 hb4 hl0 hl4 hg => ?_⟩
      have w4 := w3.box hb3 hp x4
      repeat walk_at "g"
      refine ⟨l, xs, rfl, .of hl4, by rw [hg.len]; omega, fun ys np pm hs hnp => ?_⟩
      have hg5 := hg.perm pm
      have hb5 := hb4.new hnp (o := .lst (ys.map V.str))
      have w5 := w4.ex (Ex.new hnp (o := .lst (ys.map V.str)))
      have hn5 : upd H4 np (.lst (ys.map V.str)) np = some (.lst (ys.map V.str)) := upd_same
      have nnp : np ≠ p := (hb4.ne hnp).symm
      generalize upd H4 np (.lst (ys.map V.str)) = H5 at hb5 w5 hn5
      have ml : ys.length = (2 + d).toNat := hg5.len
      repeat walk_at "g"
      refine it_R1 (by decide) (by decide) ?_
      refine for_walk wk_range (fun i σ H' => W0 T.tabs H1 H' ∧ BoxAt H' p (100 * i + 20) ∧ H' np = some (.lst (ys.map V.str)) ∧ ∃ u1 u4 u5 u6 u7 u8 u9 u10 u11, σ = [some (.ref a), u1, some (.ref p), some (.ref np), u4, u5, u6, u7, u8, u9, u10, u11] ∧ (0 < i → ∃ (k x y : Str) (j : Nat), isKind k ∧ ys[j]? = some x ∧ ys[j + 1]? = some y ∧ u5 = some (.str k) ∧ u6 = some (.int (j : Int)) ∧ u7 = some (.str (measT k x y))))
        ⟨w5, hb5.mono (by omega), hn5, _, _, _, _, _, _, _, _, _, rfl, fun h => absurd h (by omega)⟩ (fun _ _ _ _ => trivial) (fun i x σ H6 hx P => ?_) (fun σ H6 P => ?_)
      · obtain ⟨w6, hb6, hn6, u1, u4, u5, u6, u7, u8, u9, u10, u11, rfl, _⟩ := P
        obtain ⟨rfl, hi3⟩ := range_get hx
        have hi3' : i < 3 := hi3
        repeat walk_at "g"
        refine newL_of rfl fun kl hkl => ?_
        have hb7 := hb6.new hkl (o := .lst ([Str.ofString "length", Str.ofString "bearing"].map V.str))
        have w7 := w6.ex (Ex.new hkl (o := .lst ([Str.ofString "length", Str.ofString "bearing"].map V.str)))
        have hn7 := Ex.new hkl (o := .lst ([Str.ofString "length", Str.ofString "bearing"].map V.str)) _ _ hn6
        have hk7 : upd H6 kl (.lst ([Str.ofString "length", Str.ofString "bearing"].map V.str)) kl = some (.lst ([Str.ofString "length", Str.ofString "bearing"].map V.str)) := upd_same
        have nkl : kl ≠ p := (hb6.ne hkl).symm
        show tCall _ _ _ _ _ (upd H6 kl (.lst ([Str.ofString "length", Str.ofString "bearing"].map V.str))) _
        generalize upd H6 kl (.lst ([Str.ofString "length", Str.ofString "bearing"].map V.str)) = H7 at hb7 w7 hn7 hk7
        repeat walk_at "g"
        refine take_of hb7 (by omega) (by decide) (by decide) fun d2 H8 hd20 hd21 hb8 x8 => ?_
        have w8 := w7.box hb7 hp x8
        have hn8 := x8.at hn7 nnp
        have hk8 := x8.at hk7 nkl
        obtain ⟨k, hkat, hkm⟩ := atI_in [Str.ofString "length", Str.ofString "bearing"] hd20 hd21
        have hk : isKind k := by simpa [isKind] using hkm
        refine a_ixLK (.of hk8) (atI_map hkat) ?_
        repeat walk_at "g"
        refine c_lenL (.of hn8) ?_
        repeat walk_at "g"
        rw [List.length_map]
        refine take_of hb8 (by omega) (by omega) (by omega) fun at_ H9 ha0 ha1 hb9 x9 => ?_
        have w9 := w8.box hb8 hp x9
        have hn9 := x9.at hn8 nnp
        obtain ⟨j, rfl⟩ : ∃ j : Nat, at_ = j := ⟨at_.toNat, by omega⟩
        have hj : j + 1 < ys.length := by omega
        obtain ⟨x, hxj⟩ : ∃ x, ys[j]? = some x := ⟨_, List.getElem?_eq_getElem (by omega)⟩
        obtain ⟨y, hyj⟩ : ∃ y, ys[j + 1]? = some y := ⟨_, List.getElem?_eq_getElem hj⟩
        have hlt := sorted_lt hs hg5.nd hxj hyj
        have nx := hg5.name x (List.mem_of_getElem? hxj)
        have ny := hg5.name y (List.mem_of_getElem? hyj)
        have ox := isName_ok nx
        have oy := isName_ok ny
        have okk := kind_ok hk
        have mo := meas_ok hk nx ny
        repeat walk_at "g"
        refine a_ixLK (.of hn9) (atI_map (atI_nat hxj)) ?_
        repeat walk_at "g"
        refine a_ixLK (.of hn9) (atI_map (atI_succ hyj)) ?_
        repeat walk_at "g"
        refine newL_of rfl fun jl hjl => ?_
        have w10 := w9.ex (Ex.new hjl (o := .lst [.str k, .str x, .str y]))
        have hb10 := hb9.new hjl (o := .lst [.str k, .str x, .str y])
        have hn10 := Ex.new hjl (o := .lst [.str k, .str x, .str y]) _ _ hn9
        refine join_of (ys := [k, x, y]) (m := 100) upd_same (fun z hz => ?_) (by decide) (Nat.le_of_ble_eq_true rfl) fun _ => ?_
        · simp only [List.mem_cons, List.not_mem_nil, or_false] at hz
          rcases hz with rfl | rfl | rfl
          · exact okk.mono (by decide)
          · exact ox.mono (by decide)
          · exact oy.mono (by decide)
        · rw [join3]
          generalize upd H9 jl (.lst [.str k, .str x, .str y]) = H10 at w10 hb10 hn10
          have nlt : ¬ y.cps.toList < x.cps.toList := fun h => absurd (List.lt_trans hlt h) (List.lt_irrefl _)
          have nxy : x ≠ y := fun e => by
            rw [e] at hlt
            exact absurd hlt (List.lt_irrefl _)
          repeat walk_at "g"
          refine a_ixLK (.of hn10) (atI_map (atI_succ hyj)) ?_
          repeat walk_at "g"
          refine a_ixLK (.of hn10) (atI_map (atI_nat hxj)) ?_
          repeat walk_at "g"
          intro mx dx hmx hdx nmx
          refine ⟨mx, dx, k, y, x, rfl, upd_same, hk, ny, nx, fun e => nxy e.symm, fun H11 e11 hm11 => ⟨rfl, ?_⟩⟩
          have e1011 : Ex H10 H11 := fun c o hc => e11 c o (ne_of_none hc hmx) (by rw [upd_ne (ne_of_none hc hmx), upd_ne (ne_of_none hc hdx)]; exact hc)
          unfold G.lo2 G.hi2 at hm11
          rw [if_neg nlt, if_neg nlt] at hm11
          have w11 := w10.ex e1011
          have hb11 := hb10.ex e1011
          have hn11 := e1011 _ _ hn10
          obtain ⟨dxx, tx, hmxx, hmt⟩ := id hm11
          repeat walk_at "g"
          refine ⟨mx, dxx, _, rfl, hmxx, mx, k, x, y, rfl, hm11, Nat.le_trans okk.1 (by decide), Nat.le_trans ox.1 (by decide), Nat.le_trans oy.1 (by decide), ⟨_, rfl⟩, ?_⟩
          repeat walk_at "g"
          rw [decide_eq_true rfl]
          repeat walk_at "g"
          refine ⟨_, rfl, mo.mono (by decide), w11.tab, fun H12 x12 hT12 => ?_⟩
          have w12 := w11.to x12 hT12
          have hb12 := hb11.ext x12
          have hn12 := x12 _ _ hn11 (fun _ z => nomatch z)
          repeat walk_at "g"
          refine it_R1 (by decide) (by decide) ?_
          refine for_walk wk_range (fun j2 σ H' => W0 T.tabs H1 H' ∧ BoxAt H' p (100 * i + 30 + 10 * j2) ∧ H' np = some (.lst (ys.map V.str)) ∧ ∃ t1 t4 t8 t9 t10 t11, σ = [some (.ref a), t1, some (.ref p), some (.ref np), t4, some (.str k), some (.int (j : Int)), some (.str (measT k x y)), t8, t9, t10, t11])
            ⟨w12, hb12.mono (by omega), hn12, _, _, _, _, _, _, rfl⟩ (fun _ _ _ _ => trivial) (fun j2 x2 σ H13 hx2 P => ?_) (fun σ H13 P => ?_)
          · obtain ⟨w13, hb13, hn13, t1, t4, t8, t9, t10, t11, rfl⟩ := P
            obtain ⟨rfl, hj2⟩ := range_get hx2
            have hj2' : j2 < 5 := hj2
            repeat walk_at "g"
            refine ⟨p, _, _, k, x, y, rfl, hb13, by omega, mo.mono (by decide), words_meas (kind_no32 hk) (name_no32 nx) (name_no32 ny), fun z' H14 o14 x14 hb14 => ?_⟩
            have w14 := w13.box hb13 hp x14
            have hn14 := x14.at hn13 nnp
            repeat walk_at "g"
            refine ⟨z', rfl, o14, w14.tab, fun H15 x15 hT15 => ?_⟩
            repeat walk_at "g"
            exact ⟨w14.to x15 hT15, (hb14.ext x15).mono (by omega), x15 _ _ hn14 (fun _ z => nomatch z), _, _, _, _, _, _, rfl⟩
          · obtain ⟨w13, hb13, hn13, t1, t4, t8, t9, t10, t11, rfl⟩ := P
            exact ⟨w13, hb13.mono (by show 100 * i + 30 + 10 * 5 ≤ _; omega), hn13, _, _, _, _, _, _, _, _, _, rfl, fun _ => ⟨k, x, y, j, hk, hxj, hyj, rfl, rfl, rfl⟩⟩
      · obtain ⟨w6, hb6, hn6, u1, u4, u5, u6, u7, u8, u9, u10, u11, rfl, h3⟩ := P
        obtain ⟨k, x, y, j, hk, hxj, hyj, rfl, rfl, rfl⟩ := h3 (show 0 < 3 by decide)
        have hlt := sorted_lt hs hg5.nd hxj hyj
        have nx := hg5.name x (List.mem_of_getElem? hxj)
        have ny := hg5.name y (List.mem_of_getElem? hyj)
        have ox := isName_ok nx
        have oy := isName_ok ny
        have okk := kind_ok hk
        have mo := meas_ok hk nx ny
        have nxy : x ≠ y := fun e => by
          rw [e] at hlt
          exact absurd hlt (List.lt_irrefl _)
        repeat walk_at "g"
        refine a_ixLK (.of hn6) (atI_map (atI_nat hxj)) ?_
        repeat walk_at "g"
        refine a_ixLK (.of hn6) (atI_map (atI_succ hyj)) ?_
        repeat walk_at "g"
        intro mx dx hmx hdx nmx
        refine ⟨mx, dx, k, x, y, rfl, upd_same, hk, nx, ny, nxy, fun H7 e7 hm7 => ⟨rfl, ?_⟩⟩
        have e67 : Ex H6 H7 := fun c o hc => e7 c o (ne_of_none hc hmx) (by rw [upd_ne (ne_of_none hc hmx), upd_ne (ne_of_none hc hdx)]; exact hc)
        unfold G.lo2 G.hi2 at hm7
        rw [if_pos hlt, if_pos hlt] at hm7
        have w7 := w6.ex e67
        have hn7 := e67 _ _ hn6
        repeat walk_at "g"
        have tl : (measT k x y).length ≤ 25 := mo.1
        have l1 : (Str.ofString " ").length = 1 := by decide +kernel
        have l2 : (Str.ofString "\n").length = 1 := by decide +kernel
        have l3 : (Str.ofString "  ").length = 2 := by decide +kernel
        have kl := okk.1
        refine newL_of rfl fun ol hol => ?_
        repeat walk_at "g"
        refine newT_of rfl fun ot hot => ?_
        repeat walk_at "g"
        intro od hod
        repeat walk_at "g"
        refine ⟨_, _, rfl, rfl, by decide, by omega, fun ws hws => ?_⟩
        have ew : Txt.split (measT k x y) (Str.ofString " ") = [k, x, y] := words_meas (kind_no32 hk) (name_no32 nx) (name_no32 ny)
        rw [ew]
        have hws1 : upd (upd (upd (upd H7 ol (.lst [.str (measT k x y)])) ot (.tup [.str (measT k x y)])) od (.dK [])) ws (.lst ([k, x, y].map V.str)) ws = some (.lst ([k, x, y].map V.str)) := upd_same
        have hod1 := Ex.new hws (o := .lst ([k, x, y].map V.str)) od _ upd_same
        have hot1 := Ex.new hws (o := .lst ([k, x, y].map V.str)) _ _ (Ex.new hod (o := .dK []) ot _ upd_same)
        have hol1 := Ex.new hws (o := .lst ([k, x, y].map V.str)) _ _ (Ex.new hod (o := .dK []) _ _ (Ex.new hot (o := .tup [.str (measT k x y)]) ol _ upd_same))
        have e78 := (((Ex.new hol (o := .lst [.str (measT k x y)])).trans (Ex.new hot (o := .tup [.str (measT k x y)]))).trans (Ex.new hod (o := .dK []))).trans (Ex.new hws (o := .lst ([k, x, y].map V.str)))
        generalize upd (upd (upd (upd H7 ol (.lst [.str (measT k x y)])) ot (.tup [.str (measT k x y)])) od (.dK [])) ws (.lst ([k, x, y].map V.str)) = H8 at hws1 hod1 hot1 hol1 e78
        have w8 := w7.ex e78
        have hm8 := hm7.mono e78
        have hn8 := e78 _ _ hn7
        repeat' (first | walk_at "g" | (refine a_addS (by omega) ?_))
        refine newL_of rfl fun o1 ho1 => ?_
        repeat' (first | walk_at "g" | (refine a_addS (by omega) ?_))
        obtain ⟨n0, hn0⟩ : ∃ n0, ys[0]? = some n0 := ⟨_, List.getElem?_eq_getElem (by omega)⟩
        have nn0 := hg5.name n0 (List.mem_of_getElem? hn0)
        refine a_ixLK (.of (Ex.new ho1 _ _ hn8)) (atI_map (atI_nat (j := 0) hn0)) ?_
        repeat' (first | walk_at "g" | (refine a_addS (by omega) ?_))
        refine newL_of rfl fun o2 ho2 => ?_
        refine a_cat (Ex.new ho2 _ _ upd_same) upd_same (Nat.le_of_ble_eq_true rfl) fun o3 ho3 => ?_
        have e89 := ((Ex.new ho1 (o := .lst [.non, .int 7, .bl true, .str (Str.ofString ""), .ref ol, .ref ot, .ref od, .ref ws, .str (Str.ofString " " ++ measT k x y), .str (measT k x y ++ Str.ofString " "), .str (measT k x y ++ Str.ofString "\n"), .ref mx])).trans (Ex.new ho2 (o := .lst [.str k, .str (k ++ Str.ofString " "), .str n0, .str (k ++ Str.ofString "  ")]))).trans (Ex.new ho3 (o := .lst [.non, .int 7, .bl true, .str (Str.ofString ""), .ref ol, .ref ot, .ref od, .ref ws, .str (Str.ofString " " ++ measT k x y), .str (measT k x y ++ Str.ofString " "), .str (measT k x y ++ Str.ofString "\n"), .ref mx, .str k, .str (k ++ Str.ofString " "), .str n0, .str (k ++ Str.ofString "  ")]))
        have cnt := meas_count (kind_no32 hk) (name_no32 nx) (name_no32 ny)
        have cb := cnt_blank
        have ck := count_none (kind_no32 hk)
        have bl1 : OkS (Str.ofString " ") 1 := ⟨by decide +kernel, by decide +kernel⟩
        have bl2 : OkS (Str.ofString "\n") 1 := ⟨by decide +kernel, by decide +kernel⟩
        have bl3 : OkS (Str.ofString "  ") 2 := ⟨by decide +kernel, by decide +kernel⟩
        have allBad : ∀ v ∈ [V.non, .int 7, .bl true, .str (Str.ofString ""), .ref ol, .ref ot, .ref od, .ref ws, .str (Str.ofString " " ++ measT k x y), .str (measT k x y ++ Str.ofString " "), .str (measT k x y ++ Str.ofString "\n"), .ref mx, .str k, .str (k ++ Str.ofString " "), .str n0, .str (k ++ Str.ofString "  ")], OddBad T.C_Measure H8 v := by
          intro v hv
          simp only [List.mem_cons, List.not_mem_nil, or_false] at hv
          rcases hv with rfl | rfl | rfl | rfl | rfl | rfl | rfl | rfl | rfl | rfl | rfl | rfl | rfl | rfl | rfl | rfl
          · exact bad_no .non fun z e => nomatch e
          · exact bad_no (.int 7) fun z e => nomatch e
          · exact bad_no (.bl true) fun z e => nomatch e
          · exact bad_str ⟨by decide +kernel, by decide +kernel⟩ (by decide +kernel)
          · exact bad_no (.lst hol1 (fun v hv => by rw [List.mem_singleton.mp hv]; rfl)) fun z e => nomatch e
          · exact bad_no (.tup (ys := [measT k x y]) hot1 (fun v hv => by rw [List.mem_singleton.mp hv]; exact mo.2)) fun z e => nomatch e
          · exact bad_no (.dic hod1) fun z e => nomatch e
          · exact bad_no (.lst hws1 (fun v hv => by obtain ⟨s, _, rfl⟩ := List.mem_map.mp hv; rfl)) fun z e => nomatch e
          · exact bad_str ((OkS_append bl1 mo).mono (by decide)) (bad_count (by rw [cnt_app, cnt, cb]; decide))
          · exact bad_str ((OkS_append mo bl1).mono (by decide)) (bad_count (by rw [cnt_app, cnt, cb]; decide))
          · exact bad_str ((OkS_append mo bl2).mono (by decide)) (bad_nl (kind_no32 hk) (name_no32 nx) (name_no32 ny))
          · exact bad_no (.meas hm8 (okk.mono (by decide)) (ox.mono (by decide)) (oy.mono (by decide))) fun z e => nomatch e
          · exact bad_str (okk.mono (by decide)) (bad_count (by rw [ck]; decide))
          · exact bad_str ((OkS_append okk bl1).mono (by decide)) (bad_count (by rw [cnt_app, ck, cb]; decide))
          · exact bad_str ((isName_ok nn0).mono (by decide)) (bad_count (by rw [count_none (name_no32 nn0)]; decide))
          · exact bad_str ((OkS_append okk bl3).mono (by decide)) (bad_two (kind_no32 hk))
        have key : ∀ (σ : L2.St) (N : L2.St → Hp → Prop), (∀ H9, Ex H8 H9 → H9 o3 = some (.lst [V.non, .int 7, .bl true, .str (Str.ofString ""), .ref ol, .ref ot, .ref od, .ref ws, .str (Str.ofString " " ++ measT k x y), .str (measT k x y ++ Str.ofString " "), .str (measT k x y ++ Str.ofString "\n"), .ref mx, V.str k, .str (k ++ Str.ofString " "), .str n0, .str (k ++ Str.ofString "  ")]) → gName 10 (V.ref o3) σ H9 N) → gName 10 (V.ref o3) σ (upd (upd (upd H8 o1 (.lst [V.non, .int 7, .bl true, .str (Str.ofString ""), .ref ol, .ref ot, .ref od, .ref ws, .str (Str.ofString " " ++ measT k x y), .str (measT k x y ++ Str.ofString " "), .str (measT k x y ++ Str.ofString "\n"), .ref mx])) o2 (.lst [V.str k, .str (k ++ Str.ofString " "), .str n0, .str (k ++ Str.ofString "  ")])) o3 (.lst [V.non, .int 7, .bl true, .str (Str.ofString ""), .ref ol, .ref ot, .ref od, .ref ws, .str (Str.ofString " " ++ measT k x y), .str (measT k x y ++ Str.ofString " "), .str (measT k x y ++ Str.ofString "\n"), .ref mx, V.str k, .str (k ++ Str.ofString " "), .str n0, .str (k ++ Str.ofString "  ")])) N := fun σ N h => h _ e89 upd_same
        refine key _ _ fun H9 e9 h9 => ?_
        clear key e89
        have w9 := w8.ex e9
        have allBad9 : ∀ v ∈ [V.non, .int 7, .bl true, .str (Str.ofString ""), .ref ol, .ref ot, .ref od, .ref ws, .str (Str.ofString " " ++ measT k x y), .str (measT k x y ++ Str.ofString " "), .str (measT k x y ++ Str.ofString "\n"), .ref mx, V.str k, .str (k ++ Str.ofString " "), .str n0, .str (k ++ Str.ofString "  ")], OddBad T.C_Measure H9 v := fun v hv => (allBad v hv).ext e9.n
        generalize [V.non, .int 7, .bl true, .str (Str.ofString ""), .ref ol, .ref ot, .ref od, .ref ws, .str (Str.ofString " " ++ measT k x y), .str (measT k x y ++ Str.ofString " "), .str (measT k x y ++ Str.ofString "\n"), .ref mx, V.str k, .str (k ++ Str.ofString " "), .str n0, .str (k ++ Str.ofString "  ")] = odds at h9 allBad9
        repeat walk_at "g"
        refine w_iL ?_
        repeat walk_at "g"
        refine it_L (.of h9) (for_walk wk_list (fun i σ H' => LamX.ExtN H9 H' ∧ LamX.Tabs T.tabs H' ∧ ∃ t1 t2 t3 t4 t5 t6 t7 t8 t9 t11, σ = [some (.ref a), t1, t2, t3, t4, t5, t6, t7, t8, t9, some (.ref o3), t11]) ⟨LamX.ExtN.refl _, w9.tab, _, _, _, _, _, _, _, _, _, _, rfl⟩ (fun _ _ _ P => ExtN.l P.1 (.of h9)) (fun i v σ H10 hv P => ?_) (fun σ H10 P => ?_))
        · obtain ⟨x10, hT10, t1, t2, t3, t4, t5, t6, t7, t8, t9, t11, rfl⟩ := P
          have hvb := (allBad9 v (List.mem_of_getElem? hv)).ext x10
          repeat walk_at "g"
          intro f c H11 x11 hT11 hc
          have hv11 := hvb.ext x11
          repeat walk_at "g"
          refine ⟨v, rfl, fun Q' E' hQ hE => ⟨v, rfl, hc, ?_⟩⟩
          have thr : Throws T.C_InvalidText "text" v H11 E' := fun d H12 e12 hd => by
            refine hE d v H12 hd fun p2 H13 e13 hp0 hp2 => ?_
            repeat walk_at "g"
            refine ⟨p2, _, v, rfl, hp2, (hv11.ext (e12.trans e13).n).1, ?_⟩
            repeat walk_at "g"
            exact ⟨(x10.trans x11).trans (e12.trans e13).n, hT11.ext (e12.trans e13), _, _, _, _, _, _, _, _, _, _, rfl⟩
          repeat walk_at "g"
          refine ⟨v, rfl, ?_⟩
          rcases hv11.1.isStr T.insM with ⟨z, rfl, hz⟩ | hn
          · have bz := hv11.2 z rfl
            exact .inl ⟨z, rfl, hz, fun h => (by rw [bz] at h; cases h), fun _ => thr⟩
          · exact .inr ⟨hn, thr⟩
        · obtain ⟨x10, hT10, t1, t2, t3, t4, t5, t6, t7, t8, t9, t11, rfl⟩ := P
          exact ⟨ExtN.l (w9.ext.trans x10) hS1, hT10, _, _, _, _, _, _, _, _, _, _, _, rfl⟩
    · repeat walk_at "g"
      exact q _


end K03

set_option Elab.async false
set_option linter.all false
set_option maxRecDepth 100000
set_option maxHeartbeats 3900000
namespace K03
open PySem PySem.Spec PyProof.Rows L2 G
theorem all_mk {l : PySem.W.OpenLaw} {w : World} {K : PySem.W.Frag} {h : Heap} {mg : Str → Option Value} {fa : Addr} {C_Measure : Addr} {C_NetError : Addr} {C_InvalidText I_InvalidText : Addr} {f_0 : Addr} {od_0 an_0 : Option Addr} {sl_0 : Array (Option Value)} {oc_0 kV_0 dc_0 pm_0 ct_0 : Value} {cd_0 : Value} {f_1 : Addr} {od_1 an_1 : Option Addr} {sl_1 : Array (Option Value)} {oc_1 kV_1 dc_1 pm_1 ct_1 : Value} {cd_1 : Value} {f_2 : Addr} {od_2 an_2 : Option Addr} {sl_2 : Array (Option Value)} {oc_2 kV_2 dc_2 pm_2 ct_2 : Value} {cd_2 : Value} {pr_2 : Addr} {mc_2 : Value} {rs_2 : List Value} {f_3 : Addr} {od_3 an_3 : Option Addr} {sl_3 : Array (Option Value)} {oc_3 kV_3 dc_3 pm_3 ct_3 : Value} {cd_3 : Value} {f_4 : Addr} {od_4 an_4 : Option Addr} {sl_4 : Array (Option Value)} {oc_4 kV_4 dc_4 pm_4 ct_4 : Value} {cd_4 : Value} {f_5 : Addr} {od_5 an_5 : Option Addr} {sl_5 : Array (Option Value)} {oc_5 kV_5 dc_5 pm_5 ct_5 : Value} {cd_5 : Value} {f_6 : Addr} {od_6 an_6 : Option Addr} {sl_6 : Array (Option Value)} {oc_6 kV_6 dc_6 pm_6 ct_6 : Value} {cd_6 : Value} {f_7 : Addr} {od_7 an_7 : Option Addr} {sl_7 : Array (Option Value)} {oc_7 kV_7 dc_7 pm_7 ct_7 : Value} {cd_7 : Value} {f_8 : Addr} {od_8 an_8 : Option Addr} {sl_8 : Array (Option Value)} {oc_8 kV_8 dc_8 pm_8 ct_8 : Value} {cd_8 : Value} {f_9 : Addr} {od_9 an_9 : Option Addr} {sl_9 : Array (Option Value)} {oc_9 kV_9 dc_9 pm_9 ct_9 : Value} {cd_9 : Value} {f_10 : Addr} {od_10 an_10 : Option Addr} {sl_10 : Array (Option Value)} {oc_10 kV_10 dc_10 pm_10 ct_10 : Value} {cd_10 : Value} {f_11 : Addr} {od_11 an_11 : Option Addr} {sl_11 : Array (Option Value)} {oc_11 kV_11 dc_11 pm_11 ct_11 : Value} {cd_11 : Value} {f_12 : Addr} {od_12 an_12 : Option Addr} {sl_12 : Array (Option Value)} {oc_12 kV_12 dc_12 pm_12 ct_12 : Value} {cd_12 : Value} {f_13 : Addr} {od_13 an_13 : Option Addr} {sl_13 : Array (Option Value)} {oc_13 kV_13 dc_13 pm_13 ct_13 : Value} {cd_13 : Value} {f_14 : Addr} {od_14 an_14 : Option Addr} {sl_14 : Array (Option Value)} {oc_14 kV_14 dc_14 pm_14 ct_14 : Value} {c_14 P_14 : Addr} {vC_14 : Array Value} {oC_14 : Value} {dC_14 : Option Addr} {sC_14 : Array (Option Value)} {f_15 : Addr} {od_15 an_15 : Option Addr} {sl_15 : Array (Option Value)} {oc_15 kV_15 dc_15 pm_15 ct_15 : Value} {c_15 P_15 : Addr} {vC_15 : Array Value} {oC_15 : Value} {dC_15 : Option Addr} {sC_15 : Array (Option Value)} {t_LENGTH : Tok} {t_BEARING : Tok} {nm_InvalidText qq_InvalidText : Str} {N_InvalidText : Addr} {bs_InvalidText bm_InvalidText : List Value} {sn_InvalidText : List Str} {sub_InvalidText : List Value} {ab_InvalidText : Bool} {col_InvalidText : Option Bool} {dd_InvalidText : Option Addr} {x0_InvalidText x1_InvalidText x2_InvalidText x3_InvalidText x5_InvalidText : Option Value} {oc_InvalidText doc_InvalidText pm_InvalidText ct_InvalidText ccl_InvalidText cl_InvalidText : Value} {od_InvalidText an_InvalidText cdd_InvalidText cld_InvalidText : Option Addr} {osl_InvalidText ccs_InvalidText csl_InvalidText : Array (Option Value)} {cda_InvalidText cc_InvalidText : Addr} {p1_InvalidText p2_InvalidText a1_InvalidText a2_InvalidText a3_InvalidText a4_InvalidText a5_InvalidText a6_InvalidText q1_InvalidText q2_InvalidText q3_InvalidText q4_InvalidText : Pos} {mm_InvalidText q_InvalidText file_InvalidText : Str} {j_InvalidText : Nat} {vs_InvalidText : Array Value} {tf_InvalidText : Tok} (X : K.In h) (Gx : h.Ns mainGlobals mg) (hfa : mg "law" = some (.ref fa))
    (aC_Measure : PySem.W.nsIn K mainGlobals "Measure" = some (some (.ref C_Measure)))
    (aC_NetError : PySem.W.nsIn K mainGlobals "NetError" = some (some (.ref C_NetError)))
    (aC_InvalidText : PySem.W.nsIn K mainGlobals "InvalidText" = some (some (.ref C_InvalidText)))
    (a_0 : PySem.W.nsIn K mainGlobals "is_name" = some (some (.ref f_0)))
    (l_0 : K.lookup f_0 = some ⟨oc_0, od_0, .func (PySem.W.fnOf "is_name" "is_name" (defArgs s_is_name) (defBody s_is_name) (defScope s_is_name) .none kV_0 dc_0 pm_0 an_0 cd_0 ct_0), sl_0⟩)
    (c_0_ : PySem.W.codeIn K cd_0 "is_name" = true)
    (k_0 : PySem.W.keepIn K (.ref f_0) = true)
    (a_1 : PySem.W.findIn K (.ref C_Measure) "__init__" = some (some (.ref f_1)))
    (i_1 : PySem.W.isFn K (.ref f_1) = true)
    (l_1 : K.lookup f_1 = some ⟨oc_1, od_1, .func (PySem.W.fnOf "__init__" "Measure.__init__" (defArgs s_Measure_init) (defBody s_Measure_init) (defScope s_Measure_init) .none kV_1 dc_1 pm_1 an_1 cd_1 ct_1), sl_1⟩)
    (c_1_ : PySem.W.codeIn K cd_1 "Measure.__init__" = true)
    (k_1 : PySem.W.keepIn K (.ref f_1) = true)
    (mt_2 : PySem.W.typeIn K (.ref C_Measure) = some mc_2)
    (rd_2 : PySem.W.readsIn K C_Measure mc_2 = true)
    (gt_2 : PySem.W.specialIn K (.ref C_Measure) "__getattribute__" = some (some (.builtin "type.__getattribute__")))
    (fc_2 : PySem.W.findCls K (.ref C_Measure) mc_2 "read" = some (.get (.builtin "classmethod.__get__") (.ref pr_2) .none (.ref C_Measure)))
    (rc_2 : PySem.W.recIn K pr_2 "classmethod" = some (.ref f_2 :: rs_2))
    (fi_2 : PySem.W.fnIn K f_2 = true)
    (l_2 : K.lookup f_2 = some ⟨oc_2, od_2, .func (PySem.W.fnOf "read" "Measure.read" (defArgs s_Measure_read) (defBody s_Measure_read) (defScope s_Measure_read) .none kV_2 dc_2 pm_2 an_2 cd_2 ct_2), sl_2⟩)
    (c_2_ : PySem.W.codeIn K cd_2 "Measure.read" = true)
    (k_2 : PySem.W.keepIn K (.ref f_2) = true)
    (a_3 : PySem.W.findIn K (.ref C_Measure) "__eq__" = some (some (.ref f_3)))
    (i_3 : PySem.W.isFn K (.ref f_3) = true)
    (l_3 : K.lookup f_3 = some ⟨oc_3, od_3, .func (PySem.W.fnOf "__eq__" "Measure.__eq__" (defArgs s_Measure_eq) (defBody s_Measure_eq) (defScope s_Measure_eq) .none kV_3 dc_3 pm_3 an_3 cd_3 ct_3), sl_3⟩)
    (c_3_ : PySem.W.codeIn K cd_3 "Measure.__eq__" = true)
    (k_3 : PySem.W.keepIn K (.ref f_3) = true)
    (a_4 : PySem.W.findIn K (.ref C_Measure) "__str__" = some (some (.ref f_4)))
    (i_4 : PySem.W.isFn K (.ref f_4) = true)
    (l_4 : K.lookup f_4 = some ⟨oc_4, od_4, .func (PySem.W.fnOf "__str__" "Measure.__str__" (defArgs s_Measure_str) (defBody s_Measure_str) (defScope s_Measure_str) .none kV_4 dc_4 pm_4 an_4 cd_4 ct_4), sl_4⟩)
    (c_4_ : PySem.W.codeIn K cd_4 "Measure.__str__" = true)
    (k_4 : PySem.W.keepIn K (.ref f_4) = true)
    (a_5 : PySem.W.nsIn K mainGlobals "_law_cell" = some (some (.ref f_5)))
    (l_5 : K.lookup f_5 = some ⟨oc_5, od_5, .func (PySem.W.fnOf "_law_cell" "_law_cell" (defArgs s_l_cell) (defBody s_l_cell) (defScope s_l_cell) .none kV_5 dc_5 pm_5 an_5 cd_5 ct_5), sl_5⟩)
    (c_5_ : PySem.W.codeIn K cd_5 "_law_cell" = true)
    (k_5 : PySem.W.keepIn K (.ref f_5) = true)
    (a_6 : PySem.W.nsIn K mainGlobals "_law_box" = some (some (.ref f_6)))
    (l_6 : K.lookup f_6 = some ⟨oc_6, od_6, .func (PySem.W.fnOf "_law_box" "_law_box" (defArgs s_l_box) (defBody s_l_box) (defScope s_l_box) .none kV_6 dc_6 pm_6 an_6 cd_6 ct_6), sl_6⟩)
    (c_6_ : PySem.W.codeIn K cd_6 "_law_box" = true)
    (k_6 : PySem.W.keepIn K (.ref f_6) = true)
    (a_7 : PySem.W.nsIn K mainGlobals "_law_take" = some (some (.ref f_7)))
    (l_7 : K.lookup f_7 = some ⟨oc_7, od_7, .func (PySem.W.fnOf "_law_take" "_law_take" (defArgs s_l_take) (defBody s_l_take) (defScope s_l_take) .none kV_7 dc_7 pm_7 an_7 cd_7 ct_7), sl_7⟩)
    (c_7_ : PySem.W.codeIn K cd_7 "_law_take" = true)
    (k_7 : PySem.W.keepIn K (.ref f_7) = true)
    (a_8 : PySem.W.nsIn K mainGlobals "_law_mixed" = some (some (.ref f_8)))
    (l_8 : K.lookup f_8 = some ⟨oc_8, od_8, .func (PySem.W.fnOf "_law_mixed" "_law_mixed" (defArgs s_l_mixed) (defBody s_l_mixed) (defScope s_l_mixed) .none kV_8 dc_8 pm_8 an_8 cd_8 ct_8), sl_8⟩)
    (c_8_ : PySem.W.codeIn K cd_8 "_law_mixed" = true)
    (k_8 : PySem.W.keepIn K (.ref f_8) = true)
    (a_9 : PySem.W.nsIn K mainGlobals "_law_names" = some (some (.ref f_9)))
    (l_9 : K.lookup f_9 = some ⟨oc_9, od_9, .func (PySem.W.fnOf "_law_names" "_law_names" (defArgs s_l_names) (defBody s_l_names) (defScope s_l_names) .none kV_9 dc_9 pm_9 an_9 cd_9 ct_9), sl_9⟩)
    (c_9_ : PySem.W.codeIn K cd_9 "_law_names" = true)
    (k_9 : PySem.W.keepIn K (.ref f_9) = true)
    (a_10 : PySem.W.nsIn K mainGlobals "_law_caught" = some (some (.ref f_10)))
    (l_10 : K.lookup f_10 = some ⟨oc_10, od_10, .func (PySem.W.fnOf "_law_caught" "_law_caught" (defArgs s_l_caught) (defBody s_l_caught) (defScope s_l_caught) .none kV_10 dc_10 pm_10 an_10 cd_10 ct_10), sl_10⟩)
    (c_10_ : PySem.W.codeIn K cd_10 "_law_caught" = true)
    (k_10 : PySem.W.keepIn K (.ref f_10) = true)
    (a_11 : PySem.W.nsIn K mainGlobals "_law_is" = some (some (.ref f_11)))
    (l_11 : K.lookup f_11 = some ⟨oc_11, od_11, .func (PySem.W.fnOf "_law_is" "_law_is" (defArgs s_l_is) (defBody s_l_is) (defScope s_l_is) .none kV_11 dc_11 pm_11 an_11 cd_11 ct_11), sl_11⟩)
    (c_11_ : PySem.W.codeIn K cd_11 "_law_is" = true)
    (k_11 : PySem.W.keepIn K (.ref f_11) = true)
    (a_12 : PySem.W.nsIn K mainGlobals "_law_read" = some (some (.ref f_12)))
    (l_12 : K.lookup f_12 = some ⟨oc_12, od_12, .func (PySem.W.fnOf "_law_read" "_law_read" (defArgs s_l_read) (defBody s_l_read) (defScope s_l_read) .none kV_12 dc_12 pm_12 an_12 cd_12 ct_12), sl_12⟩)
    (c_12_ : PySem.W.codeIn K cd_12 "_law_read" = true)
    (k_12 : PySem.W.keepIn K (.ref f_12) = true)
    (a_13 : PySem.W.nsIn K mainGlobals "_law_spoilt" = some (some (.ref f_13)))
    (l_13 : K.lookup f_13 = some ⟨oc_13, od_13, .func (PySem.W.fnOf "_law_spoilt" "_law_spoilt" (defArgs s_l_spoilt) (defBody s_l_spoilt) (defScope s_l_spoilt) .none kV_13 dc_13 pm_13 an_13 cd_13 ct_13), sl_13⟩)
    (c_13_ : PySem.W.codeIn K cd_13 "_law_spoilt" = true)
    (k_13 : PySem.W.keepIn K (.ref f_13) = true)
    (a_14 : PySem.W.nsIn K mainGlobals "_law_text_right" = some (some (.ref f_14)))
    (l_14 : K.lookup f_14 = some ⟨oc_14, od_14, .func (PySem.W.fnOf "_law_text_right" "_law_text_right" (defArgs s_l_text_right) (defBody s_l_text_right) (defScope s_l_text_right) .none kV_14 dc_14 pm_14 an_14 (.ref c_14) ct_14), sl_14⟩)
    (c_14_ : PySem.W.codeIn K (.ref c_14) "_law_text_right" = true)
    (k_14 : PySem.W.keepIn K (.ref f_14) = true)
    (lc_14 : K.lookup c_14 = some ⟨oC_14, dC_14, .fields vC_14, sC_14⟩)
    (v11_14 : vC_14[11]? = some (.ref P_14))
    (ch_14 : PySem.W.codeHdIn K c_14 P_14 = true)
    (np_14 : K.lookup P_14 = none)
    (tb_14 : h.get? P_14 = some (PySem.W.tabObj #[]))
    (a_15 : PySem.W.nsIn K mainGlobals "law" = some (some (.ref f_15)))
    (l_15 : K.lookup f_15 = some ⟨oc_15, od_15, .func (PySem.W.fnOf "law" "law" (defArgs s_law) (defBody s_law) (defScope s_law) .none kV_15 dc_15 pm_15 an_15 (.ref c_15) ct_15), sl_15⟩)
    (c_15_ : PySem.W.codeIn K (.ref c_15) "law" = true)
    (k_15 : PySem.W.keepIn K (.ref f_15) = true)
    (lc_15 : K.lookup c_15 = some ⟨oC_15, dC_15, .fields vC_15, sC_15⟩)
    (v11_15 : vC_15[11]? = some (.ref P_15))
    (ch_15 : PySem.W.codeHdIn K c_15 P_15 = true)
    (np_15 : K.lookup P_15 = none)
    (tb_15 : h.get? P_15 = some (PySem.W.tabObj #[]))
    (pn_14_15 : P_14 ≠ P_15)
    (pg_Measure : PySem.W.plainGet K C_Measure Str.empty = true)
    (hd_Measure : PySem.W.hasDictIn K C_Measure = true)
    (po_Measure : PySem.W.plainOver K C_Measure = true)
    (sa_Measure : PySem.W.findIn K (.ref C_Measure) "__setattr__" = some (some (.builtin "object.__setattr__")))
    (mk_Measure : PySem.W.makesIn K C_Measure = true)
    (kc_Measure : PySem.W.keepIn K (.ref C_Measure) = true)
    (n_Measure_own_kind : PySem.W.findIn K (.ref C_Measure) "own_kind" = some none)
    (n_Measure_own_ends : PySem.W.findIn K (.ref C_Measure) "own_ends" = some none)
    (ih_Measure : PySem.W.findIn K (.ref C_Measure) "__class__" = some (some (.builtin "object.__class__")))
    (in_Measure : PySem.W.specialIn K (.builtin "object.__class__") "__get__" = some (some (.builtin "getset_descriptor.__get__")))
    (it_Measure : PySem.W.takesIn K (.builtin "object.__class__") = some true)
    (im_Measure : PySem.W.mroIn K C_Measure (.type "object") = some true)
    (zkb_M : PySem.W.kitOne K (.ref C_Measure) (.type "bool") = some false)
    (zks_M : PySem.W.kitOne K (.ref C_Measure) (.type "str") = some false)
    (zki_M : PySem.W.kitOne K (.ref C_Measure) (.type "int") = some false)
    (z_LENGTH : PySem.W.nsIn K mainGlobals "LENGTH" = some (some (.str "length" t_LENGTH)))
    (z_BEARING : PySem.W.nsIn K mainGlobals "BEARING" = some (some (.str "bearing" t_BEARING)))
    (y_isinstance : PySem.W.nsIn K mainGlobals "isinstance" = some none)
    (y_int : PySem.W.nsIn K mainGlobals "int" = some none)
    (y_bool : PySem.W.nsIn K mainGlobals "bool" = some none)
    (y_str : PySem.W.nsIn K mainGlobals "str" = some none)
    (y_len : PySem.W.nsIn K mainGlobals "len" = some none)
    (y_max : PySem.W.nsIn K mainGlobals "max" = some none)
    (y_min : PySem.W.nsIn K mainGlobals "min" = some none)
    (y_range : PySem.W.nsIn K mainGlobals "range" = some none)
    (y_list : PySem.W.nsIn K mainGlobals "list" = some none)
    (y_sorted : PySem.W.nsIn K mainGlobals "sorted" = some none)
    (y_super : PySem.W.nsIn K mainGlobals "super" = some none)
    (htop : (l.prog.main.scope.names.lookup ("super" : Str)).isSome = false)
    (opn : PySem.W.nsIn K cStatics "thirdparty.any" = some none)
    (exL_InvalidText : K.lookup C_InvalidText = some (PySem.excClassObj nm_InvalidText qq_InvalidText C_InvalidText N_InvalidText bs_InvalidText bm_InvalidText true sn_InvalidText sub_InvalidText ab_InvalidText col_InvalidText dd_InvalidText x0_InvalidText x1_InvalidText x2_InvalidText x3_InvalidText x5_InvalidText "ValueError.__new__"))
    (erv_InvalidText : PySem.HandSPX.refsVE bm_InvalidText = true)
    (eal_InvalidText : PySem.W.alongIn K "__init__" bm_InvalidText = some (some (.builtin "ValueError.__init__")))
    (esa_InvalidText : PySem.W.findIn K (.ref C_InvalidText) "__setattr__" = some (some (.builtin "object.__setattr__")))
    (ega_InvalidText : PySem.W.findIn K (.ref C_InvalidText) "__getattribute__" = some (some (.builtin "BaseException.__getattribute__")))
    (egg_InvalidText : PySem.W.findIn K (.ref C_InvalidText) "__getattr__" = some none)
    (enn_InvalidText : PySem.W.findIn K (.ref C_InvalidText) "text" = some none)
    (eic_InvalidText : PySem.W.findIn K (.ref C_InvalidText) "__init__" = some (some (.ref I_InvalidText)))
    (etc_InvalidText : PySem.W.typeIn K (.ref I_InvalidText) = some (.type "function"))
    (ekc_InvalidText : PySem.W.keepIn K (.ref C_InvalidText) = true)
    (eex_InvalidText : PySem.W.subIn K (.ref C_InvalidText) (.type "BaseException") = some true)
    (eve_InvalidText : PySem.W.subIn K (.ref C_InvalidText) (.type "ValueError") = some true)
    (emi_InvalidText : PySem.W.mroIn K C_InvalidText (.ref C_InvalidText) = some true)
    (ety_InvalidText : PySem.W.typeIn K (.ref C_InvalidText) = some (.type "type"))
    (ehd_InvalidText : PySem.W.hasDictIn K C_InvalidText = true)
    (efl_InvalidText : K.lookup I_InvalidText = some ⟨oc_InvalidText, od_InvalidText, .func (PySem.W.ksFn "__init__" q_InvalidText (PySem.ErrX.iA "text" p1_InvalidText p2_InvalidText) (PySem.ErrX.iB "text" mm_InvalidText j_InvalidText a1_InvalidText a2_InvalidText a3_InvalidText a4_InvalidText a5_InvalidText a6_InvalidText q1_InvalidText q2_InvalidText q3_InvalidText q4_InvalidText) (PySem.ErrX.iS "text") .none .none doc_InvalidText pm_InvalidText an_InvalidText (.ref cda_InvalidText) ct_InvalidText cc_InvalidText), osl_InvalidText⟩)
    (efc_InvalidText : PySem.W.codeIn K (.ref cda_InvalidText) q_InvalidText = true)
    (efd_InvalidText : K.lookup cda_InvalidText = some ⟨ccl_InvalidText, cdd_InvalidText, .fields vs_InvalidText, ccs_InvalidText⟩)
    (ef2_InvalidText : vs_InvalidText[2]? = some (.str file_InvalidText tf_InvalidText))
    (eff_InvalidText : ((l.prog.main.file : Str) == file_InvalidText) = true)
    (eev_InvalidText : ∀ env : Env, ∃ pl : Sem Bool, eval (.Call (.Attribute (.Call (.Name "super" a1_InvalidText) [] [] a2_InvalidText) "__init__" a3_InvalidText) [.Constant (.str mm_InvalidText) j_InvalidText a4_InvalidText] [] a5_InvalidText) env = (do
      let ov ← attributeBase (.Call (.Name "super" a1_InvalidText) [] [] a2_InvalidText) "__init__" env (eval (.Call (.Name "super" a1_InvalidText) [] [] a2_InvalidText) env)
      standAt a3_InvalidText.atName
      let (f, first) ← holding [ov] (getMethod ov "__init__" pl)
      callWith a5_InvalidText f first (backTo a5_InvalidText (starEach [.Constant (.str mm_InvalidText) j_InvalidText a4_InvalidText] env)) []))
    (efk_InvalidText : K.lookup cc_InvalidText = some ⟨cl_InvalidText, cld_InvalidText, .cell (some (.ref C_InvalidText)), csl_InvalidText⟩)
    (x_InvalidText_InvalidText : PySem.W.exmOne K (.ref C_InvalidText) (.ref C_InvalidText) = some true) :
    LamX.LawAtS l w K CX0 8 63 "_law_script" mg fa h := by
  have e := hfa.symm.trans (PySem.W.mg_of X Gx a_15)
  cases e
  have F_0 := fun_mk (st := s_is_name) l_0 c_0_ k_0
  have b_0 := F_0.binds (ps := ["value"]) fun _ _ _ _ _ _ us hl => match us, hl with | [_], _ => rfl
  have F_1 := fun_mk (st := s_Measure_init) l_1 c_1_ k_1
  have b_1 := F_1.binds (ps := ["self", "kind", "one", "other"]) fun _ _ _ _ _ _ us hl => match us, hl with | [_, _, _, _], _ => rfl
  have F_2 := fun_mk (st := s_Measure_read) l_2 c_2_ k_2
  have b_2 := F_2.binds (ps := ["cls", "text"]) fun _ _ _ _ _ _ us hl => match us, hl with | [_, _], _ => rfl
  have F_3 := fun_mk (st := s_Measure_eq) l_3 c_3_ k_3
  have b_3 := F_3.binds (ps := ["self", "other"]) fun _ _ _ _ _ _ us hl => match us, hl with | [_, _], _ => rfl
  have F_4 := fun_mk (st := s_Measure_str) l_4 c_4_ k_4
  have b_4 := F_4.binds (ps := ["self"]) fun _ _ _ _ _ _ us hl => match us, hl with | [_], _ => rfl
  have F_5 := fun_mk (st := s_l_cell) l_5 c_5_ k_5
  have b_5 := F_5.binds (ps := ["_law_script", "_law_k"]) fun _ _ _ _ _ _ us hl => match us, hl with | [_, _], _ => rfl
  have F_6 := fun_mk (st := s_l_box) l_6 c_6_ k_6
  have b_6 := F_6.binds (ps := ["_law_cell_here"]) fun _ _ _ _ _ _ us hl => match us, hl with | [_], _ => rfl
  have F_7 := fun_mk (st := s_l_take) l_7 c_7_ k_7
  have b_7 := F_7.binds (ps := ["_law_box_here", "_law_many"]) fun _ _ _ _ _ _ us hl => match us, hl with | [_, _], _ => rfl
  have F_8 := fun_mk (st := s_l_mixed) l_8 c_8_ k_8
  have b_8 := F_8.binds (ps := ["_law_box_here", "_law_some"]) fun _ _ _ _ _ _ us hl => match us, hl with | [_, _], _ => rfl
  have F_9 := fun_mk (st := s_l_names) l_9 c_9_ k_9
  have b_9 := F_9.binds (ps := ["_law_box_here", "_law_many"]) fun _ _ _ _ _ _ us hl => match us, hl with | [_, _], _ => rfl
  have F_10 := fun_mk (st := s_l_caught) l_10 c_10_ k_10
  have b_10 := F_10.binds (ps := ["_law_ask", "_law_odd"]) fun _ _ _ _ _ _ us hl => match us, hl with | [_, _], _ => rfl
  have F_11 := fun_mk (st := s_l_is) l_11 c_11_ k_11
  have b_11 := F_11.binds (ps := ["_law_found", "_law_word", "_law_odd"]) fun _ _ _ _ _ _ us hl => match us, hl with | [_, _, _], _ => rfl
  have F_12 := fun_mk (st := s_l_read) l_12 c_12_ k_12
  have b_12 := F_12.binds (ps := ["_law_text"]) fun _ _ _ _ _ _ us hl => match us, hl with | [_], _ => rfl
  have F_13 := fun_mk (st := s_l_spoilt) l_13 c_13_ k_13
  have b_13 := F_13.binds (ps := ["_law_box_here", "_law_text"]) fun _ _ _ _ _ _ us hl => match us, hl with | [_, _], _ => rfl
  have F_14 := fun_mk (st := s_l_text_right) l_14 c_14_ k_14
  have b_14 := F_14.binds (ps := ["_law_text"]) fun _ _ _ _ _ _ us hl => match us, hl with | [_], _ => rfl
  have F_15 := fun_mk (st := s_law) l_15 c_15_ k_15
  have b_15 := F_15.binds (ps := ["_law_script"]) fun _ _ _ _ _ _ us hl => match us, hl with | [_], _ => rfl
  have E_InvalidText : PySem.ErrX.ErrTxt l.prog K mg "InvalidText" "text" C_InvalidText I_InvalidText := { gC := PySem.W.mg_of X Gx aC_InvalidText, cls := ⟨_, _, _, _, _, _, _, _, _, _, _, _, _, _, _, exL_InvalidText, erv_InvalidText, eal_InvalidText⟩, sa := esa_InvalidText, ga := ega_InvalidText, gg := egg_InvalidText, noN := enn_InvalidText, iC := eic_InvalidText, tC := etc_InvalidText, kC := ekc_InvalidText, exC := eex_InvalidText, veC := eve_InvalidText, miC := emi_InvalidText, tyC := ety_InvalidText, hdC := ehd_InvalidText, op := opn, fs := by decide +kernel, fc := by decide +kernel, fu := by decide +kernel, fg := by decide +kernel, mS := PySem.W.mg_none_of X Gx y_super, htop := htop, fn := ⟨_, _, _, _, _, _, _, _, _, _, _, _, _, _, _, _, _, _, _, _, _, _, _, _, _, _, _, _, _, _, _, _, _, efl_InvalidText, efc_InvalidText, efd_InvalidText, ef2_InvalidText, eff_InvalidText, efk_InvalidText, fun s x v => .of_eq rfl, eev_InvalidText⟩ }
  let T : Top l.prog K mg := { f_is_name := _, fd_is_name := _, F_is_name := F_0, b_is_name := b_0, g_is_name := PySem.W.mg_of X Gx a_0, f_Measure_init := _, fd_Measure_init := _, F_Measure_init := F_1, b_Measure_init := b_1, mc_M := mc_2, cr_M := ⟨rd_2, gt_2⟩, pr_M := pr_2, cm_M := ⟨fc_2, ⟨_, rc_2⟩, fi_2⟩, f_Measure_read := _, fd_Measure_read := _, F_Measure_read := F_2, b_Measure_read := b_2, f_Measure_eq := _, fd_Measure_eq := _, F_Measure_eq := F_3, b_Measure_eq := b_3, f_Measure_str := _, fd_Measure_str := _, F_Measure_str := F_4, b_Measure_str := b_4, f_l_cell := _, fd_l_cell := _, F_l_cell := F_5, b_l_cell := b_5, g_l_cell := PySem.W.mg_of X Gx a_5, f_l_box := _, fd_l_box := _, F_l_box := F_6, b_l_box := b_6, g_l_box := PySem.W.mg_of X Gx a_6, f_l_take := _, fd_l_take := _, F_l_take := F_7, b_l_take := b_7, g_l_take := PySem.W.mg_of X Gx a_7, f_l_mixed := _, fd_l_mixed := _, F_l_mixed := F_8, b_l_mixed := b_8, g_l_mixed := PySem.W.mg_of X Gx a_8, f_l_names := _, fd_l_names := _, F_l_names := F_9, b_l_names := b_9, g_l_names := PySem.W.mg_of X Gx a_9, f_l_caught := _, fd_l_caught := _, F_l_caught := F_10, b_l_caught := b_10, g_l_caught := PySem.W.mg_of X Gx a_10, f_l_is := _, fd_l_is := _, F_l_is := F_11, b_l_is := b_11, g_l_is := PySem.W.mg_of X Gx a_11, f_l_read := _, fd_l_read := _, F_l_read := F_12, b_l_read := b_12, g_l_read := PySem.W.mg_of X Gx a_12, f_l_spoilt := _, fd_l_spoilt := _, F_l_spoilt := F_13, b_l_spoilt := b_13, g_l_spoilt := PySem.W.mg_of X Gx a_13, f_l_text_right := _, fd_l_text_right := _, F_l_text_right := F_14, b_l_text_right := b_14, g_l_text_right := PySem.W.mg_of X Gx a_14, c_l_text_right := c_14, P_l_text_right := P_14, hc_l_text_right := rfl, f_law := _, fd_law := _, F_law := F_15, b_law := b_15, g_law := PySem.W.mg_of X Gx a_15, c_law := c_15, P_law := P_15, hc_law := rfl, pn_l_text_right_law := pn_14_15, C_Measure := C_Measure, g_Measure := PySem.W.mg_of X Gx aC_Measure, cl_Measure := ⟨pg_Measure, hd_Measure, po_Measure, sa_Measure⟩, M_Measure := ⟨mk_Measure, a_1, i_1, kc_Measure⟩, n_Measure_own_kind := n_Measure_own_kind, n_Measure_own_ends := n_Measure_own_ends, ih_Measure := ih_Measure, in_Measure := in_Measure, it_Measure := it_Measure, im_Measure := im_Measure, C_NetError := C_NetError, g_NetError := PySem.W.mg_of X Gx aC_NetError, eq_M := a_3, fe_M := i_3, kb_M := zkb_M, ks_M := zks_M, ki_M := zki_M, st_M := a_4, fs_M := i_4, u_LENGTH := _, g_LENGTH := PySem.W.mg_of X Gx z_LENGTH, r_LENGTH := ⟨_, rfl⟩, u_BEARING := _, g_BEARING := PySem.W.mg_of X Gx z_BEARING, r_BEARING := ⟨_, rfl⟩, m_isinstance := PySem.W.mg_none_of X Gx y_isinstance, m_int := PySem.W.mg_none_of X Gx y_int, m_bool := PySem.W.mg_none_of X Gx y_bool, m_str := PySem.W.mg_none_of X Gx y_str, m_len := PySem.W.mg_none_of X Gx y_len, m_max := PySem.W.mg_none_of X Gx y_max, m_min := PySem.W.mg_none_of X Gx y_min, m_range := PySem.W.mg_none_of X Gx y_range, m_list := PySem.W.mg_none_of X Gx y_list, m_sorted := PySem.W.mg_none_of X Gx y_sorted, C_InvalidText := C_InvalidText, I_InvalidText := I_InvalidText, g_InvalidText := PySem.W.mg_of X Gx aC_InvalidText, E_InvalidText := E_InvalidText, x_InvalidText_InvalidText := x_InvalidText_InvalidText }
  refine ⟨T.fd_law, [(c_14, P_14), (c_15, P_15)], sp_law K T.tabs, (List.forall_mem_cons.mpr ⟨tb_14, (List.forall_mem_cons.mpr ⟨tb_15, (fun _ z => nomatch z)⟩)⟩), (List.forall_mem_cons.mpr ⟨np_14, (List.forall_mem_cons.mpr ⟨np_15, (fun _ z => nomatch z)⟩)⟩), (List.forall_mem_cons.mpr ⟨PySem.W.codeHd_of_K X ch_14, (List.forall_mem_cons.mpr ⟨PySem.W.codeHd_of_K X ch_15, (fun _ z => nomatch z)⟩)⟩), fun s u => .of_eq rfl, ?_, ?_⟩
  · intro H a ns hl _ hH hS
    refine ⟨a, ns, rfl, hS, hl, ?_, fun _ => rfl⟩
    intro z hz
    simp only [Top.tabs, List.mem_cons, List.not_mem_nil, or_false] at hz
    rcases hz with rfl | rfl
    · exact LamX.TabS.nil (hH (c_14, P_14) (List.mem_cons_self))
    · exact LamX.TabS.nil (hH (c_15, P_15) (List.mem_cons_of_mem _ (List.mem_cons_self)))
  · intro base _ _ hB
    exact ok_law T ⟨hB (c_14, P_14) (List.mem_cons_self), hB (c_15, P_15) (List.mem_cons_of_mem _ (List.mem_cons_self))⟩
end K03
open PySem PySem.W PyProof.Rows
set_option maxRecDepth 100000 in
set_option maxHeartbeats 0 in
theorem PySem.Challenge.cw_chaincompass_k03_measures_as_text_holds : PySem.Challenge.rw_chaincompass_k03_measures_as_text.Holds := by
  w_on; o_law; k_head; (case hw => w_witness2)
  k_fill
  refine LamX.walk_ofTs (l := PySem.Challenge.rw_chaincompass_k03_measures_as_text) (n := 63) (k := 8) (x := "_law_script") (CX := fun _ => L2.CX0) rfl (by decide) rfl ⟨rfl, by decide, by decide⟩ (fun w h Y => PySem.W.km_in_of Y) ?F (fun _ _ _ _ _ h => h)
  case F =>
    intro w mg fa h Y KX Gx hmg
    have hT8 := PySem.W.km_tabs_of Y
    refine' K03.all_mk KX Gx hmg ?aC_Measure ?aC_NetError ?aC_InvalidText ?a_0 ?l_0 ?c_0_ ?k_0 ?a_1 ?i_1 ?l_1 ?c_1_ ?k_1 ?mt_2 ?rd_2 ?gt_2 ?fc_2 ?rc_2 ?fi_2 ?l_2 ?c_2_ ?k_2 ?a_3 ?i_3 ?l_3 ?c_3_ ?k_3 ?a_4 ?i_4 ?l_4 ?c_4_ ?k_4 ?a_5 ?l_5 ?c_5_ ?k_5 ?a_6 ?l_6 ?c_6_ ?k_6 ?a_7 ?l_7 ?c_7_ ?k_7 ?a_8 ?l_8 ?c_8_ ?k_8 ?a_9 ?l_9 ?c_9_ ?k_9 ?a_10 ?l_10 ?c_10_ ?k_10 ?a_11 ?l_11 ?c_11_ ?k_11 ?a_12 ?l_12 ?c_12_ ?k_12 ?a_13 ?l_13 ?c_13_ ?k_13 ?a_14 ?l_14 ?c_14_ ?k_14 ?lc_14 ?v11_14 ?ch_14 ?np_14 ?tb_14 ?a_15 ?l_15 ?c_15_ ?k_15 ?lc_15 ?v11_15 ?ch_15 ?np_15 ?tb_15 ?pn_14_15 ?pg_Measure ?hd_Measure ?po_Measure ?sa_Measure ?mk_Measure ?kc_Measure ?n_Measure_own_kind ?n_Measure_own_ends ?ih_Measure ?in_Measure ?it_Measure ?im_Measure ?zkb_M ?zks_M ?zki_M ?z_LENGTH ?z_BEARING ?y_isinstance ?y_int ?y_bool ?y_str ?y_len ?y_max ?y_min ?y_range ?y_list ?y_sorted ?y_super ?htop ?opn ?exL_InvalidText ?erv_InvalidText ?eal_InvalidText ?esa_InvalidText ?ega_InvalidText ?egg_InvalidText ?enn_InvalidText ?eic_InvalidText ?etc_InvalidText ?ekc_InvalidText ?eex_InvalidText ?eve_InvalidText ?emi_InvalidText ?ety_InvalidText ?ehd_InvalidText ?efl_InvalidText ?efc_InvalidText ?efd_InvalidText ?ef2_InvalidText ?eff_InvalidText ?eev_InvalidText ?efk_InvalidText ?x_InvalidText_InvalidText
    (case aC_Measure => k_is)
    (case aC_NetError => k_is)
    (case aC_InvalidText => k_is)
    (case a_0 => k_is)
    (case l_0 => k_is)
    (case c_0_ => k_is)
    (case k_0 => k_is)
    (case a_1 => k_is)
    (case i_1 => k_is)
    (case l_1 => k_is)
    (case c_1_ => k_is)
    (case k_1 => k_is)
    (case mt_2 => k_is)
    (case rd_2 => k_is)
    (case gt_2 => k_is)
    (case fc_2 => k_is)
    (case rc_2 => k_is)
    (case fi_2 => k_is)
    (case l_2 => k_is)
    (case c_2_ => k_is)
    (case k_2 => k_is)
    (case a_3 => k_is)
    (case i_3 => k_is)
    (case l_3 => k_is)
    (case c_3_ => k_is)
    (case k_3 => k_is)
    (case a_4 => k_is)
    (case i_4 => k_is)
    (case l_4 => k_is)
    (case c_4_ => k_is)
    (case k_4 => k_is)
    (case a_5 => k_is)
    (case l_5 => k_is)
    (case c_5_ => k_is)
    (case k_5 => k_is)
    (case a_6 => k_is)
    (case l_6 => k_is)
    (case c_6_ => k_is)
    (case k_6 => k_is)
    (case a_7 => k_is)
    (case l_7 => k_is)
    (case c_7_ => k_is)
    (case k_7 => k_is)
    (case a_8 => k_is)
    (case l_8 => k_is)
    (case c_8_ => k_is)
    (case k_8 => k_is)
    (case a_9 => k_is)
    (case l_9 => k_is)
    (case c_9_ => k_is)
    (case k_9 => k_is)
    (case a_10 => k_is)
    (case l_10 => k_is)
    (case c_10_ => k_is)
    (case k_10 => k_is)
    (case a_11 => k_is)
    (case l_11 => k_is)
    (case c_11_ => k_is)
    (case k_11 => k_is)
    (case a_12 => k_is)
    (case l_12 => k_is)
    (case c_12_ => k_is)
    (case k_12 => k_is)
    (case a_13 => k_is)
    (case l_13 => k_is)
    (case c_13_ => k_is)
    (case k_13 => k_is)
    (case a_14 => k_is)
    (case l_14 => k_is)
    (case c_14_ => k_is)
    (case k_14 => k_is)
    (case lc_14 => k_is)
    (case v11_14 => rfl)
    (case ch_14 => kernel_rfl)
    (case np_14 => kernel_rfl)
    (case tb_14 => exact hT8 _ (by k_mem))
    (case a_15 => k_is)
    (case l_15 => k_is)
    (case c_15_ => k_is)
    (case k_15 => k_is)
    (case lc_15 => k_is)
    (case v11_15 => rfl)
    (case ch_15 => kernel_rfl)
    (case np_15 => kernel_rfl)
    (case tb_15 => exact hT8 _ (by k_mem))
    (case pn_14_15 => decide)
    (case pg_Measure => k_is)
    (case hd_Measure => k_is)
    (case po_Measure => k_is)
    (case sa_Measure => k_is)
    (case mk_Measure => k_is)
    (case kc_Measure => k_is)
    (case n_Measure_own_kind => k_is)
    (case n_Measure_own_ends => k_is)
    (case ih_Measure => k_is)
    (case in_Measure => k_is)
    (case it_Measure => k_is)
    (case im_Measure => k_is)
    (case zkb_M => kernel_rfl)
    (case zks_M => kernel_rfl)
    (case zki_M => kernel_rfl)
    (case z_LENGTH => k_is)
    (case z_BEARING => k_is)
    (case y_isinstance => k_is)
    (case y_int => k_is)
    (case y_bool => k_is)
    (case y_str => k_is)
    (case y_len => k_is)
    (case y_max => k_is)
    (case y_min => k_is)
    (case y_range => k_is)
    (case y_list => k_is)
    (case y_sorted => k_is)
    (case y_super => k_is)
    (case htop => first | rfl | kernel_rfl)
    (case opn => k_is)
    (case exL_InvalidText => k_is)
    (case erv_InvalidText => first | rfl | kernel_rfl)
    (case eal_InvalidText => kernel_rfl)
    (case esa_InvalidText => k_is)
    (case ega_InvalidText => k_is)
    (case egg_InvalidText => k_is)
    (case enn_InvalidText => k_is)
    (case eic_InvalidText => k_is)
    (case etc_InvalidText => k_is)
    (case ekc_InvalidText => k_is)
    (case eex_InvalidText => k_is)
    (case eve_InvalidText => k_is)
    (case emi_InvalidText => k_is)
    (case ety_InvalidText => k_is)
    (case ehd_InvalidText => k_is)
    (case efl_InvalidText => k_is)
    (case efc_InvalidText => k_is)
    (case efd_InvalidText => k_is)
    (case ef2_InvalidText => rfl)
    (case eff_InvalidText => first | rfl | kernel_rfl)
    (case eev_InvalidText => exact fun env => ⟨_, rfl⟩)
    (case efk_InvalidText => k_is)
    (case x_InvalidText_InvalidText => kernel_rfl)

