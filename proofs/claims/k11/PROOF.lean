import PyProof.Rows.All
import Wide.All
import OpenK.AllK
import Wide.FinOn
import HandS.ForMost
import HandS.IsInst
import HandS.Style
import HandS.StrMore
import HandS.RaiseMore
import HandS.Conv
import HandS.Flow
import HandS.Codes
import KE.KExcSuper
import HandS.ForExc
import HandS.TryMany
import HandS.Lambda
import HandS.CallLocal
import HandS.More
import HandS.EndTab
import HandS.OwnEq
import HandS.FStr
import HandS.ClsMeth
import HandS.DeepEq
import HandS.WordsExc
import HandS.CallSlots
import KE.KCallOwn
import HandS.ReplaceLit
import HandS.ReplaceList
import HandS.Property
import HandS.NamedTupSort
import PyProof.Rows.SetFrom
import HandS.DictComp
import PySem.Challenge.RW_chaincompass_k11_placings_moved
set_option Elab.async false
set_option linter.all false
set_option maxRecDepth 100000
set_option maxHeartbeats 4000000
/-! G: rules that serve values of several kinds at once, and the readings' steps, by lemmas of one head each -/
namespace G
open PySem PySem.Spec PyProof.Rows L2

/-! ### rules for several kinds -/
section
variable {X : Cx}
def rStrMul : R2 := fun x y H Q => ∃ z n, x = .str z ∧ y = .int n ∧ 0 ≤ n ∧ n ≤ 100000 ∧ z.length * n.toNat ≤ 1000000 ∧ Q (.str (Txt.mul z n)) H
def rAddU : R2 := fun x y H Q => rI0 (fun i j => .int (i + j)) x y H Q ∨ (∃ i j, x = .str i ∧ y = .str j ∧ i.length + j.length ≤ sizeLine ∧ Q (.str (i ++ j)) H) ∨ rCat x y H Q
theorem op_addU : OpR X (binaryOp .Add) rAddU := op_add.or (op_add_str.or op_cat)
def rFdivU : R2 := rI CDivN fun i j => .int (i.fdiv j)
theorem op_fdivU : OpR X (binaryOp .FloorDiv) rFdivU := op_fdivN
def rModU : R2 := rI (fun _ j => j ≠ 0) fun i j => .int (i.fmod j)
theorem op_modU : OpR X (binaryOp .Mod) rModU := op_modN
def rPowU : R2 := rI CPow fun i j => .int (i ^ j.toNat)
theorem op_powU : OpR X (binaryOp .Pow) rPowU := op_pow
def rEqU (K : PySem.W.Frag) : R2 := fun x y H Q => rEq x y H Q ∨ rEqD K x y H Q
theorem op_eqU {K : PySem.W.Frag} (hK : X.K = K) (hu : X.A.units + 64 < cLine) : OpR X (compareOp .Eq) (rEqU K) := hK ▸ op_eq.or (op_eqD hu)
def rNeU (K : PySem.W.Frag) : R2 := fun x y H Q => rNe x y H Q ∨ rNeD K x y H Q
theorem op_neU {K : PySem.W.Frag} (hK : X.K = K) (hu : X.A.units + 64 < cLine) : OpR X (compareOp .NotEq) (rNeU K) := hK ▸ op_ne.or (op_neD hu)
def rLtU : R2 := fun x y H Q => rI0 (fun i j => .bl (decide (i < j))) x y H Q ∨ ∃ i j, x = .str i ∧ y = .str j ∧ Q (.bl (decide (i.cps.toList < j.cps.toList))) H
theorem op_ltU : OpR X (compareOp .Lt) rLtU := op_lt.or op_lt_str
def rLeU : R2 := fun x y H Q => rI0 (fun i j => .bl (decide (i ≤ j))) x y H Q ∨ ∃ i j, x = .str i ∧ y = .str j ∧ Q (.bl (!decide (j.cps.toList < i.cps.toList))) H
theorem op_leU : OpR X (compareOp .LtE) rLeU := op_le.or op_le_str
def rGtU : R2 := fun x y H Q => rI0 (fun i j => .bl (decide (j < i))) x y H Q ∨ ∃ i j, x = .str i ∧ y = .str j ∧ Q (.bl (decide (j.cps.toList < i.cps.toList))) H
theorem op_gtU : OpR X (compareOp .Gt) rGtU := op_gt.or op_gt_str
def rGeU : R2 := fun x y H Q => rI0 (fun i j => .bl (decide (j ≤ i))) x y H Q ∨ ∃ i j, x = .str i ∧ y = .str j ∧ Q (.bl (!decide (i.cps.toList < j.cps.toList))) H
theorem op_geU : OpR X (compareOp .GtE) rGeU := op_ge.or op_ge_str
def rInU (K : PySem.W.Frag) : R2 := fun x y H Q => rIn K false x y H Q ∨ ∃ (c : Nat) (z : Str), x = .str ⟨#[c]⟩ ∧ y = .str z ∧ Q (.bl (decide (c ∈ z.cps.toList))) H
theorem op_inU {K : PySem.W.Frag} (hK : X.K = K) : OpR X (compareOp .In) (rInU K) := hK ▸ op_in_seq.or op_in_sign
def rNotInU (K : PySem.W.Frag) : R2 := fun x y H Q => rIn K true x y H Q ∨ ∃ (c : Nat) (z : Str), x = .str ⟨#[c]⟩ ∧ y = .str z ∧ Q (.bl (!decide (c ∈ z.cps.toList))) H
theorem op_notInU {K : PySem.W.Frag} (hK : X.K = K) : OpR X (compareOp .NotIn) (rNotInU K) := hK ▸ op_notIn_seq.or op_notIn_sign
def rIsU : R2 := fun x y H Q => (y = .non ∧ Q (.bl (decide (x = .non))) H) ∨ rIsB x y H Q
theorem op_isU : OpR X (compareOp .Is) rIsU := op_isN.or op_isBl
def rIsNotU : R2 := fun x y H Q => (y = .non ∧ Q (.bl (!decide (x = .non))) H) ∨ rNotB x y H Q
theorem op_isNotU : OpR X (compareOp .IsNot) rIsNotU := op_notN.or op_notBl
def rSlU (K : PySem.W.Frag) : V → Option Int → Option Int → Hp → VK → Prop := fun x lo hi H Q => rSlL K x lo hi H Q ∨ rSlS x lo hi H Q ∨ rSlT K x lo hi H Q
theorem sl_U {K : PySem.W.Frag} (hK : X.K = K) : SlR X (rSlU K) := hK ▸ sl_list.or (sl_str.or sl_tup)
theorem ix_U {K : PySem.W.Frag} (hK : X.K = K) : IxR X (rIx K) := hK ▸ ix_seq
theorem call_isiU {K : PySem.W.Frag} (hK : X.K = K) : CallR X (.builtin "isinstance") (rIsi K) := hK ▸ call_isi
def rLenU (K : PySem.W.Frag) : List V → Hp → VK → Prop := fun xs H Q => (∃ x n, xs = [x] ∧ LenV K x H n ∧ Q (.int n) H) ∨ ∃ a kvs, xs = [V.ref a] ∧ Rd H a (.dK kvs) ∧ Q (.int kvs.length) H
theorem call_lenRd : CallR X (.builtin "len") (fun xs H Q => ∃ a kvs, xs = [V.ref a] ∧ Rd H a (.dK kvs) ∧ Q (.int kvs.length) H) := by
  intro pins s σ H xs us Q I r h
  obtain ⟨a, kvs, rfl, ha, q⟩ := h
  obtain ⟨u, rfl, ru⟩ := vals1 r
  cases ru
  exact d_len I ha fun t s' I' => ⟨.int kvs.length, H, I', ⟨t, rfl⟩, q⟩
theorem call_lenU {K : PySem.W.Frag} (hK : X.K = K) : CallR X (.builtin "len") (rLenU K) := hK ▸ call_len.or call_lenRd
def rMaxU (K : PySem.W.Frag) : List V → Hp → VK → Prop := fun xs H Q => (∃ i j, xs = [.int i, .int j] ∧ Q (.int (if j > i then j else i)) H) ∨ rMax K xs H Q
theorem call_maxU {K : PySem.W.Frag} (hK : X.K = K) (hc : X.calm = true) : CallR X (.builtin "max") (rMaxU K) := hK ▸ (call_max2 hc).or (cr_max hc)
def rMinU (K : PySem.W.Frag) : List V → Hp → VK → Prop := fun xs H Q => (∃ i j, xs = [.int i, .int j] ∧ Q (.int (if j < i then j else i)) H) ∨ rMin K xs H Q
theorem call_minU {K : PySem.W.Frag} (hK : X.K = K) (hc : X.calm = true) : CallR X (.builtin "min") (rMinU K) := hK ▸ (call_min2 hc).or (cr_min hc)
def rInt1 : List V → Hp → VK → Prop := fun xs H Q => (∃ i, xs = [.int i] ∧ Q (.int i) H) ∨ ∃ k, xs = [.bl k] ∧ Q (.int (if k then 1 else 0)) H
theorem call_intU : CallR X (.type "int") rInt1 := call_int1
def rM0 (g : Str → V) : V → List V → Hp → VK → Prop := fun x xs H Q => ∃ a, x = .str a ∧ xs = [] ∧ True ∧ Q (g a) H
theorem mt_isasciiU : MtR X "str.isascii" (rM0 fun a => .bl (Txt.isascii a)) := mt_isascii
theorem mt_isalphaU : MtR X "str.isalpha" (rM0 fun a => .bl (Txt.isalpha a)) := mt_isalpha
theorem mt_islowerU : MtR X "str.islower" (rM0 fun a => .bl (Txt.islower a)) := mt_islower
def rReprB : List V → Hp → VK → Prop := fun xs H Q => ∃ b : Bool, xs = [.bl b] ∧ Q (.str (if b then "True" else "False")) H
theorem call_reprB : CallR X (.builtin "repr") rReprB := by
  intro pins s σ H xs us Q I r h
  obtain ⟨b, rfl, q⟩ := h
  obtain ⟨u, rfl, ru⟩ := vals1 r
  cases (show u = Value.bool b from ru)
  exact PySem.P.repr_of_bool ⟨.str _, H, I.tok _, ⟨_, rfl⟩, q⟩
def rReprU : List V → Hp → VK → Prop := fun xs H Q => rReprB xs H Q ∨ ∃ i, xs = [.int i] ∧ i.natAbs.log2 < 1920 ∧ Q (.str (toString i)) H
theorem call_reprU : CallR X (.builtin "repr") rReprU := call_reprB.or SkE.call_repr_int
theorem op_mul_str : OpR X (binaryOp .Mult) rStrMul := by
  intro pins s σ H x y v u Q I rx ry h
  obtain ⟨z, n, rfl, rfl, h0, h1, h2, q⟩ := h
  obtain ⟨t, rfl⟩ := rx
  obtain ⟨t', rfl⟩ := ry
  refine PySem.SB.mul ⟨?_, fun h3 h4 => ?_, fun h3 h4 => ?_⟩ fun t'' k => ⟨.str _, H, I.tok _, ⟨_, rfl⟩, q⟩
  · rw [Bool.or_eq_false_iff]
    exact ⟨decide_eq_false (by omega), decide_eq_false (by omega)⟩
  · have hn : 1 ≤ n.toNat := by omega
    have h5 : z.length * 1 ≤ z.length * n.toNat := Nat.mul_le_mul_left _ hn
    have h6 : (100000000 : Int) ≤ (2 ^ 63 - 1) / n := by
      rw [Int.le_ediv_iff_mul_le (by omega)]
      omega
    omega
  · unfold Builtin.Str.tooLong
    exact decide_eq_false (by rw [sizeLine_eq]; omega)
def rMulU : R2 := fun x y H Q => rI CMul (fun i j => .int (i * j)) x y H Q ∨ rRep x y H Q ∨ rStrMul x y H Q
theorem op_mulU : OpR X (binaryOp .Mult) rMulU := op_mul.or (op_rep.or op_mul_str)
/-- what is walked: a list, a tuple, a text -/
def iU (K : PySem.W.Frag) (t : TE) : TI := fun σ H R => iList K t σ H R ∨ iTup K t σ H R ∨ iStr t σ H R
theorem pi_U {K : PySem.W.Frag} (hK : X.K = K) {tg e : Expr} {t : TE} (h : PE X e t) : PI X tg e (iU K t) := ⟨fun pins s σ H R I q => by
  subst hK
  rcases q with q | q | q
  · exact (pi_list h).run pins s σ H R I q
  · exact (pi_tup h).run pins s σ H R I q
  · exact (pi_str h).run pins s σ H R I q⟩
end

section
variable {X : Cx} {K : PySem.W.Frag}
theorem pe_bm0U (hK : X.K = K) {T id : String} {name : Str} {r : V → List V → Hp → VK → Prop} {o : Expr} {to : TE} {apos cpos : Pos} (pa : PlainAttrs T) (slot : Slot T name id) (hty : typeOf (.builtin id) = pure (.type "method_descriptor")) (hm : MtR X id r) (ho : PE X o to)
    (hbase : attributeBase o name X.env (eval o X.env) = eval o X.env := by rfl) (hline : (apos.endLine == cpos.line) = true := by rfl) : PE X (.Call (.Attribute o name apos) [] [] cpos) (tBM0 K T r to) := hK ▸ pe_bm0 pa slot hty hm ho hbase hline
theorem pe_bmU (hK : X.K = K) {T id : String} {name : Str} {r : V → List V → Hp → VK → Prop} {o e : Expr} {es : List Expr} {to : TE} {t : TA} {apos cpos : Pos} (pa : PlainAttrs T) (slot : Slot T name id) (hty : typeOf (.builtin id) = pure (.type "method_descriptor")) (hm : MtR X id r) (ho : PE X o to) (ha : PA X (e :: es) t)
    (hbase : attributeBase o name X.env (eval o X.env) = eval o X.env := by rfl)
    (hfew : ((backTo cpos (starEach (e :: es) X.env)).all (fun x => !x.1) && (backToKw cpos (keywordEach [] X.env)).all (fun x => x.1.isSome)
      && decide ((e :: es).length + ([] : List Keyword).length + (if ([] : List Keyword).isEmpty then 0 else 1) < 30)) = true := by rfl)
    (hline : (apos.endLine == cpos.line) = true := by rfl) (hs : starEach (e :: es) X.env = (false, eval e X.env) :: starEach es X.env := by rfl) (hplain : (backTo cpos (starEach es X.env)).any (·.1) = false := by rfl) :
    PE X (.Call (.Attribute o name apos) (e :: es) [] cpos) (tBM K T r to t) := hK ▸ pe_bm pa slot hty hm ho ha hbase hfew hline hs hplain
def rJoin (K : PySem.W.Frag) : V → List V → Hp → VK → Prop := fun x xs H Q => ∃ a p, ∃ ys : List Str, x = .str a ∧ xs = [.ref p] ∧ (SqL K H p (ys.map V.str) ∨ SqT K H p (ys.map V.str)) ∧
      (ys.map (·.length)).sum + ys.length * a.length ≤ 16777216 ∧ Q (.str (Txt.join a ys)) H
theorem pe_joinU (hK : X.K = K) {o e : Expr} {to te : TE} {apos pos : Pos} (ho : PE X o to) (he : PE X e te) (hs : starEach [e] X.env = [(false, eval e X.env)] := by rfl) (hbase : attributeBase o "join" X.env (eval o X.env) = eval o X.env := by rfl) (hline : (apos.endLine == pos.line) = true := by rfl) :
    PE X (.Call (.Attribute o "join" apos) [e] [] pos) (tM1 (rJoin K) to te) := hK ▸ pe_join ho he hs hbase hline
def rSplit : V → List V → Hp → VK → Prop := fun x xs H Q => ∃ a b, x = .str a ∧ xs = [.str b] ∧ (b.length == 0) = false ∧ a.length + 2 ≤ sizeLine ∧ rNewStrs (Txt.split a b) H Q
theorem pe_splitU {o e : Expr} {to te : TE} {apos pos : Pos} (ho : PE X o to) (he : PE X e te) (hs : starEach [e] X.env = [(false, eval e X.env)] := by rfl) (hbase : attributeBase o "split" X.env (eval o X.env) = eval o X.env := by rfl) (hline : (apos.endLine == pos.line) = true := by rfl) :
    PE X (.Call (.Attribute o "split" apos) [e] [] pos) (tM1 rSplit to te) := pe_split ho he hs hbase hline
theorem pg_tupU (hK : X.K = K) {es : List Expr} {k : Nat} {t : TGs} {n : Nat} {pos : Pos} (hc : X.calm = true) (h : PGs X es t)
    (hn : (assignEach es X.env).length = n := by rfl) (hst : (assignEach es X.env).findIdx? (·.1) = none := by rfl) : PG X (.Tuple es k pos) (gTup K n t) := hK ▸ pg_tup hc h hn hst
theorem pi_enumU (hK : X.K = K) {elts : List Expr} {kk : Nat} {tpos p pos : Pos} {e : Expr} {ta : TA} (hg : Gl X "enumerate") (hm : X.mg "enumerate" = none) (ha : PA X [e] ta) (hs : starEach [e] X.env = [(false, eval e X.env)] := by rfl) : PI X (.Tuple elts kk tpos) (.Call (.Name "enumerate" p) [e] [] pos) (iEnum K ta) := hK ▸ pi_enum hg hm ha hs
theorem pe_fldU (hK : X.K = K) {e : Expr} {f : Str} {pos : Pos} {ta : TE} (he : PE X e ta) (hb : attributeBase e f X.env (eval e X.env) = eval e X.env) : PE X (.Attribute e f pos) (tFld K ta f) := hK ▸ pe_fld he hb
theorem ps_fldU (hK : X.K = K) {o value : Expr} {f : Str} {pos pos' : Pos} {ta tv : TE} (ha : PE X o ta) (hv : PE X value tv) (hs : swapsWith value (some (.Attribute o f pos')) pos.line X.env = pure false) : PS X (.Assign [.Attribute o f pos'] value pos) (sFld K ta tv f) := hK ▸ ps_fld ha hv hs
end
/-! ### the steps of readings -/
def isBl (x : V) (H : Hp) (R : Bool → Hp → Prop) : Prop := ∃ k, x = .bl k ∧ R k H
def isTwo (vs : List V) (H : Hp) (R : V → V → Hp → Prop) : Prop := ∃ v w, vs = [v, w] ∧ R v w H
def newL (xs : List V) (H : Hp) (Q : VK) : Prop := xs.length ≤ sizeLine ∧ ∀ p, H p = none → Q (.ref p) (upd H p (.lst xs))
def newT (xs : List V) (H : Hp) (Q : VK) : Prop := xs.length ≤ sizeLine ∧ ∀ p, H p = none → Q (.ref p) (upd H p (.tup xs))
def strT (x : V) (H : Hp) (P : Hp → Prop) : Prop := (∃ a, x = .str a) ∧ P H
def mkR (C : Addr) (sp : Sp) (dvs : List V) (E : XK) (vs : List V) (H : Hp) (Q : VK) : Prop := ∀ x dx, H x = none → H dx = none → dx ≠ x → sp (.ref x :: (vs ++ dvs)) (upd (upd H dx (.own x)) x (.ins C dx [])) (fun v H2 => v = .non ∧ Q (.ref x) H2) E
def putR (K : PySem.W.Frag) (f : Str) (x y : V) (H : Hp) (N : Hp → Prop) : Prop := ∃ a C dx fs, x = .ref a ∧ H a = some (.ins C dx fs) ∧ Cls K C ∧ NoAttr K C f ∧ fs.length < 1000 ∧ N (upd H a (.ins C dx (putF f y fs)))
def getR (K : PySem.W.Frag) (f : Str) (x : V) (H : Hp) (Q : VK) : Prop := ∃ a C dx fs v, x = .ref a ∧ H a = some (.ins C dx fs) ∧ Cls K C ∧ NoAttr K C f ∧ fs.lookup f = some v ∧ Q v H
def isI (x : V) (H : Hp) (R : Int → Hp → Prop) : Prop := ∃ i, x = .int i ∧ R i H
def dispR (p : Addr) (ps : List (V × V)) (H : Hp) (Q : VK) : Prop := H p = some (.dK []) ∧ ∃ kvs : List (Key × V), ps = kvs.map (fun kv => (kV kv.1, kv.2)) ∧ kvs.length ≤ 15 ∧ Q (.ref p) (upd H p (.dK (mergeK [] kvs)))
abbrev tCut (t u : TS) : TS := C8.tCut t u
theorem pss_cut {X : Cx} {a : Stmt} {as : List Stmt} {t u : TS} (h : PS X a t) (k : PSs X as u) : PSs X (a :: as) (tCut t u) := C8.pss_cut h k
def mtT (K : PySem.W.Frag) (T : String) (x : V) (H : Hp) (P : Hp → Prop) : Prop := tyV K T x H ∧ P H
section
variable {K : PySem.W.Frag} {σ : L2.St} {H : Hp} {Q : VK} {R : Bool → Hp → Prop} {i : Nat} {v x y : V} {ta tb tc te : TE} {t u : TT} {r r' : R2} {D : Ends} {st su : TS} {g : TG} {tA : TA} {QA : List V → Hp → Prop} {QS : L2.St → Hp → Prop}
theorem w_var (h : σ[i]? = some (some v)) (q : Q v H) : tVar i σ H Q := ⟨v, h, q⟩
theorem w_c (q : Q v H) : tC v σ H Q := q
theorem w_op (q : ta σ H fun x H1 => tb σ H1 fun y H2 => r x y H2 Q) : tOp r ta tb σ H Q := q
theorem w_un {r : V → Hp → VK → Prop} (q : ta σ H fun x H1 => r x H1 Q) : tUn r ta σ H Q := q
theorem w_test (q : ta σ H fun x H' => isBl x H' R) : tTest ta σ H R := q
theorem w_B (q : ta σ H fun x H' => isBl x H' R) : tB ta σ H R := q
theorem w_bl {b : Bool} (q : R b H) : isBl (.bl b) H R := ⟨b, rfl, q⟩
theorem w_and (q : t σ H fun c H1 => if c = true then u σ H1 R else R false H1) : tAnd t u σ H R := q
theorem w_or (q : t σ H fun c H1 => if c = true then R true H1 else u σ H1 R) : tOr t u σ H R := q
theorem w_not (q : t σ H fun c H1 => R (!c) H1) : tNot t σ H R := q
theorem w_andV (q : ta σ H fun x H1 => isBl x H1 fun c H1 => if c = true then tb σ H1 Q else Q (.bl false) H1) : tAndV ta tb σ H Q := q
theorem w_orV (q : ta σ H fun x H1 => isBl x H1 fun c H1 => if c = true then Q (.bl true) H1 else tb σ H1 Q) : tOrV ta tb σ H Q := q
theorem w_notV (q : ta σ H fun x H1 => isBl x H1 fun c H1 => Q (.bl (!c)) H1) : tNotV ta σ H Q := q
theorem w_if (q : t σ H fun c H1 => if c = true then ta σ H1 Q else tb σ H1 Q) : tIf t ta tb σ H Q := q
theorem w_chain (q : ta σ H fun x H1 => tb σ H1 fun y H2 => r x y H2 fun z H3 => isBl z H3 fun k H3 => if k = true then tc σ H3 fun w' H4 => r' y w' H4 Q else Q (.bl false) H3) : tChain r r' ta tb tc σ H Q := q
theorem w_nil (q : QA [] H) : tNil σ H QA := q
theorem w_cons (q : te σ H fun x H1 => tA σ H1 fun xs H2 => QA (x :: xs) H2) : tCons te tA σ H QA := q
theorem w_CB {rc : List V → Hp → VK → Prop} (q : tA σ H fun vs H1 => rc vs H1 Q) : tCB rc tA σ H Q := q
theorem w_call {sp : Sp} {dvs : List V} {E : XK} (q : tA σ H fun vs H1 => sp (vs ++ dvs) H1 Q E) : tCall sp dvs E tA σ H Q := q
theorem w_lst (q : tA σ H fun xs H1 => newL xs H1 Q) : tLst tA σ H Q := q
theorem w_tup (q : tA σ H fun xs H1 => newT xs H1 Q) : tTup tA σ H Q := q
theorem w_seq (q : st { D with nx := su D } σ H) : tSeq st su D σ H := q
theorem w_asg (q : te σ H fun x H1 => g x σ H1 D.nx) : tAsg te g D σ H := q
theorem w_gname (q : QS (σ.set i (some v)) H) : gName i v σ H QS := q
theorem w_gsub {ts : TSet} (q : ta σ H fun o H1 => tb σ H1 fun i H2 => ts o i v H2 fun H3 => QS σ H3) : gSub ta tb ts v σ H QS := q
theorem w_ifS (q : t σ H fun b H1 => if b = true then st D σ H1 else su D σ H1) : tIfS t st su D σ H := q
theorem w_ret (q : te σ H D.rt) : tRet te D σ H := q
theorem w_retN (q : D.rt .non H) : tRetN D σ H := q
theorem w_drop (q : te σ H fun _ H1 => D.nx σ H1) : tDrop te D σ H := q
theorem w_next (q : D.nx σ H) : tNext D σ H := q
theorem w_par {j : Nat} (q : tA σ H fun vs H1 => isTwo vs H1 fun v w H1 => D.nx ((σ.set i (some v)).set j (some w)) H1) : tPar i j tA D σ H := q
theorem w_two {P : V → V → Hp → Prop} (q : P x y H) : isTwo [x, y] H P := ⟨x, y, rfl, q⟩
theorem w_sl {rs : V → Option Int → Option Int → Hp → VK → Prop} {tl th : TO} (q : te σ H fun x H1 => tl σ H1 fun l H2 => th σ H2 fun u H3 => rs x l u H3 Q) : tSl rs te tl th σ H Q := q
theorem w_bm0 {T : String} {rm : V → List V → Hp → VK → Prop} (q : ta σ H fun x H1 => mtT K T x H1 fun H1 => rm x [] H1 Q) : tBM0 K T rm ta σ H Q := q
theorem w_bm {T : String} {rm : V → List V → Hp → VK → Prop} (q : ta σ H fun x H1 => mtT K T x H1 fun H1 => tA σ H1 fun xs H2 => rm x xs H2 Q) : tBM K T rm ta tA σ H Q := q
theorem w_m1 {rm : V → List V → Hp → VK → Prop} (q : ta σ H fun x H1 => strT x H1 fun H1 => te σ H1 fun y H2 => rm x [y] H2 Q) : tM1 rm ta te σ H Q := q
theorem m_strT {z : Str} {P : Hp → Prop} (q : P H) : strT (.str z) H P := ⟨⟨z, rfl⟩, q⟩
theorem m_joinL {z : Str} {p : Addr} {ys : List Str} (h : SqL K H p (ys.map V.str)) (hz : (ys.map (·.length)).sum + ys.length * z.length ≤ 16777216) (q : Q (.str (Txt.join z ys)) H) : rJoin K (.str z) [.ref p] H Q := ⟨z, p, ys, rfl, rfl, .inl h, hz, q⟩
theorem m_joinT {z : Str} {p : Addr} {ys : List Str} (h : SqT K H p (ys.map V.str)) (hz : (ys.map (·.length)).sum + ys.length * z.length ≤ 16777216) (q : Q (.str (Txt.join z ys)) H) : rJoin K (.str z) [.ref p] H Q := ⟨z, p, ys, rfl, rfl, .inr h, hz, q⟩
theorem m_str {z : Str} {P : Hp → Prop} (q : P H) : mtT K "str" (.str z) H P := ⟨rfl, q⟩
theorem m_lst {p : Addr} {xs : List V} {P : Hp → Prop} (h : SqL K H p xs) (q : P H) : mtT K "list" (.ref p) H P := ⟨.inl ⟨rfl, xs, h⟩, q⟩
theorem m_s0 {z : Str} {gs : Str → V} (q : Q (gs z) H) : rM0 gs (.str z) [] H Q := ⟨z, rfl, rfl, trivial, q⟩
theorem w_make {C : Addr} {sp : Sp} {dvs : List V} {E : XK} (q : tA σ H fun vs H1 => mkR C sp dvs E vs H1 Q) : tMake C sp dvs E tA σ H Q := q
theorem w_sfld {f : Str} (q : te σ H fun y H1 => ta σ H1 fun x H2 => putR K f x y H2 fun H3 => D.nx σ H3) : sFld K ta te f D σ H := q
theorem w_fld {f : Str} (q : ta σ H fun x H1 => getR K f x H1 Q) : tFld K ta f σ H Q := q
theorem put_of {f : Str} {a C dx : Addr} {fs : List (Str × V)} {N : Hp → Prop} (h : H a = some (.ins C dx fs)) (c : Cls K C) (n : NoAttr K C f) (hl : fs.length < 1000) (q : N (upd H a (.ins C dx (putF f y fs)))) : putR K f (.ref a) y H N := ⟨a, C, dx, fs, rfl, h, c, n, hl, q⟩
theorem get_of {f : Str} {a C dx : Addr} {fs : List (Str × V)} (h : H a = some (.ins C dx fs)) (c : Cls K C) (n : NoAttr K C f) (l : fs.lookup f = some v) (q : Q v H) : getR K f (.ref a) H Q := ⟨a, C, dx, fs, v, rfl, h, c, n, l, q⟩
theorem a_inT {p : Addr} {xs : List V} (h : SqT K H p xs) (hx : flatV x = true) (ha : xs.all flatV = true) (q : Q (.bl (inV x xs)) H) : rInU K x (.ref p) H Q := .inl ⟨p, xs, rfl, .inr h, hx, ha, q⟩
theorem a_inL {p : Addr} {xs : List V} (h : SqL K H p xs) (hx : flatV x = true) (ha : xs.all flatV = true) (q : Q (.bl (inV x xs)) H) : rInU K x (.ref p) H Q := .inl ⟨p, xs, rfl, .inl h, hx, ha, q⟩
theorem a_ninT {p : Addr} {xs : List V} (h : SqT K H p xs) (hx : flatV x = true) (ha : xs.all flatV = true) (q : Q (.bl (!inV x xs)) H) : rNotInU K x (.ref p) H Q := .inl ⟨p, xs, rfl, .inr h, hx, ha, q⟩
theorem a_ninL {p : Addr} {xs : List V} (h : SqL K H p xs) (hx : flatV x = true) (ha : xs.all flatV = true) (q : Q (.bl (!inV x xs)) H) : rNotInU K x (.ref p) H Q := .inl ⟨p, xs, rfl, .inl h, hx, ha, q⟩
theorem w_noPart {QO : Option Int → Hp → Prop} (q : QO none H) : tNoPart σ H QO := q
theorem w_part {QO : Option Int → Hp → Prop} (q : te σ H fun x H1 => isI x H1 fun i H1 => QO (some i) H1) : tPart te σ H QO := q
theorem w_isI {j : Int} {RI : Int → Hp → Prop} (q : RI j H) : isI (.int j) H RI := ⟨j, rfl, q⟩
theorem a_slS {z : Str} {lo hi : Option Int} (hz : z.length ≤ sizeLine) (q : Q (.str (cutS z lo hi)) H) : rSlU K (.str z) lo hi H Q := .inr (.inl ⟨z, rfl, hz, q⟩)
theorem a_slL {p : Addr} {xs : List V} {lo hi : Option Int} (h : SqL K H p xs) (q : ∀ l, H l = none → Q (.ref l) (upd H l (.lst (cutV xs lo hi)))) : rSlU K (.ref p) lo hi H Q := .inl ⟨p, xs, rfl, h, q⟩
theorem w_disp {trs : List (TE × TE)} (q : ∀ p, H p = none → tPairs trs σ (upd H p (.dK [])) fun ps H2 => dispR p ps H2 Q) : tDisp trs σ H Q := q
theorem w_pair0 {QP : List (V × V) → Hp → Prop} (q : QP [] H) : tPairs [] σ H QP := q
theorem w_pair1 {QP : List (V × V) → Hp → Prop} {trs : List (TE × TE)} (q : ta σ H fun x H1 => tb σ H1 fun y H2 => tPairs trs σ H2 fun ps H3 => QP ((x, y) :: ps) H3) : tPairs ((ta, tb) :: trs) σ H QP := q
theorem w_cut (M : L2.St → Hp → Prop) (h : st { D with nx := M } σ H) (k : ∀ σ' H', M σ' H' → su D σ' H') : tCut st su D σ H := ⟨M, h, k⟩
theorem w_yes (q : R true H) : tYes σ H R := q
-- ints
theorem a_addI {a b : Int} (q : Q (.int (a + b)) H) : rAddU (.int a) (.int b) H Q := .inl ⟨a, b, rfl, rfl, q⟩
theorem a_addS {a b : Str} (h : a.length + b.length ≤ sizeLine) (q : Q (.str (a ++ b)) H) : rAddU (.str a) (.str b) H Q := .inr (.inl ⟨a, b, rfl, rfl, h, q⟩)
theorem a_addL {p p' : Addr} {xs ys : List V} (h : H p = some (.lst xs)) (h' : H p' = some (.lst ys)) (hl : xs.length + ys.length ≤ sizeLine) (q : ∀ l, H l = none → Q (.ref l) (upd H l (.lst (xs ++ ys)))) : rAddU (.ref p) (.ref p') H Q := .inr (.inr ⟨p, p', xs, ys, rfl, rfl, h, h', hl, q⟩)
theorem a_I0 {f : Int → Int → V} {a b : Int} (q : Q (f a b) H) : rI0 f (.int a) (.int b) H Q := ⟨a, b, rfl, rfl, q⟩
theorem a_mulI {a b : Int} (h : CMul a b) (q : Q (.int (a * b)) H) : rMulU (.int a) (.int b) H Q := .inl ⟨a, b, rfl, rfl, h, q⟩
theorem a_mulL {p : Addr} {xs : List V} {k : Int} (h : H p = some (.lst xs)) (h1 : -(2 ^ 63) ≤ k) (h2 : k < 2 ^ 63) (hl : xs.length * k.toNat ≤ sizeLine) (q : ∀ l, H l = none → Q (.ref l) (upd H l (.lst (List.replicate k.toNat xs).flatten))) : rMulU (.ref p) (.int k) H Q :=
  .inr (.inl ⟨p, k, xs, rfl, rfl, h, h1, h2, hl, q⟩)
theorem a_mulS {z : Str} {n : Int} (h0 : 0 ≤ n) (h1 : n ≤ 100000) (h2 : z.length * n.toNat ≤ 1000000) (q : Q (.str (Txt.mul z n)) H) : rMulU (.str z) (.int n) H Q := .inr (.inr ⟨z, n, rfl, rfl, h0, h1, h2, q⟩)
theorem c_reprB {b : Bool} (q : Q (.str (if b then "True" else "False")) H) : rReprU [.bl b] H Q := .inl ⟨b, rfl, q⟩
theorem w_dnew (q : ∀ p, H p = none → Q (.ref p) (upd H p (.dK []))) : tDNewK σ H Q := q
theorem w_tup0 (q : ∀ p, H p = none → Q (.ref p) (upd H p (.tup []))) : newT [] H Q := ⟨Nat.zero_le _, q⟩
theorem a_fdiv {a b : Int} (h : CDivN a b) (q : Q (.int (a.fdiv b)) H) : rFdivU (.int a) (.int b) H Q := ⟨a, b, rfl, rfl, h, q⟩
theorem a_mod {a b : Int} (h : b ≠ 0) (q : Q (.int (a.fmod b)) H) : rModU (.int a) (.int b) H Q := ⟨a, b, rfl, rfl, h, q⟩
theorem a_pow {a b : Int} (h : CPow a b) (q : Q (.int (a ^ b.toNat)) H) : rPowU (.int a) (.int b) H Q := ⟨a, b, rfl, rfl, h, q⟩
theorem a_neg {a : Int} (q : Q (.int (-a)) H) : rU (fun i => .int (-i)) (.int a) H Q := ⟨a, rfl, q⟩
theorem a_ltI {a b : Int} (q : Q (.bl (decide (a < b))) H) : rLtU (.int a) (.int b) H Q := .inl ⟨a, b, rfl, rfl, q⟩
theorem a_leI {a b : Int} (q : Q (.bl (decide (a ≤ b))) H) : rLeU (.int a) (.int b) H Q := .inl ⟨a, b, rfl, rfl, q⟩
theorem a_gtI {a b : Int} (q : Q (.bl (decide (b < a))) H) : rGtU (.int a) (.int b) H Q := .inl ⟨a, b, rfl, rfl, q⟩
theorem a_geI {a b : Int} (q : Q (.bl (decide (b ≤ a))) H) : rGeU (.int a) (.int b) H Q := .inl ⟨a, b, rfl, rfl, q⟩
theorem a_ltS {a b : Str} (q : Q (.bl (decide (a.cps.toList < b.cps.toList))) H) : rLtU (.str a) (.str b) H Q := .inr ⟨a, b, rfl, rfl, q⟩
theorem a_eqI {a b : Int} (q : Q (.bl (decide (a = b))) H) : rEqU K (.int a) (.int b) H Q := .inl ⟨rfl, by rw [show decide (V.int a = V.int b) = decide (a = b) from decide_eq_decide.mpr ⟨V.int.inj, congrArg _⟩]; exact q⟩
theorem a_eqS {a b : Str} (q : Q (.bl (decide (a = b))) H) : rEqU K (.str a) (.str b) H Q := .inl ⟨rfl, by rw [show decide (V.str a = V.str b) = decide (a = b) from decide_eq_decide.mpr ⟨V.str.inj, congrArg _⟩]; exact q⟩
theorem a_neS {a b : Str} (q : Q (.bl (!decide (a = b))) H) : rNeU K (.str a) (.str b) H Q := .inl ⟨rfl, by rw [show decide (V.str a = V.str b) = decide (a = b) from decide_eq_decide.mpr ⟨V.str.inj, congrArg _⟩]; exact q⟩
theorem a_neI {a b : Int} (q : Q (.bl (!decide (a = b))) H) : rNeU K (.int a) (.int b) H Q := .inl ⟨rfl, by rw [show decide (V.int a = V.int b) = decide (a = b) from decide_eq_decide.mpr ⟨V.int.inj, congrArg _⟩]; exact q⟩
theorem a_isnotB {a b : Bool} (q : Q (.bl (!decide (a = b))) H) : rIsNotU (.bl a) (.bl b) H Q := .inr ⟨a, b, rfl, rfl, q⟩
theorem a_isB {a b : Bool} (q : Q (.bl (decide (a = b))) H) : rIsU (.bl a) (.bl b) H Q := .inr ⟨a, b, rfl, rfl, q⟩
theorem a_isN (q : Q (.bl (decide (x = .non))) H) : rIsU x .non H Q := .inl ⟨rfl, q⟩
theorem a_isnotN (q : Q (.bl (!decide (x = .non))) H) : rIsNotU x .non H Q := .inl ⟨rfl, q⟩
-- items
theorem a_ixL {p : Addr} {xs : List V} {k : Int} (h : H p = some (.lst xs)) (ha : atI xs k = some v) (q : Q v H) : rIx K (.ref p) (.int k) H Q := .inl ⟨p, xs, k, v, rfl, rfl, .of h, ha, q⟩
theorem a_ixLK {p : Addr} {xs : List V} {k : Int} (h : SqL K H p xs) (ha : atI xs k = some v) (q : Q v H) : rIx K (.ref p) (.int k) H Q := .inl ⟨p, xs, k, v, rfl, rfl, h, ha, q⟩
theorem a_ixT {p : Addr} {xs : List V} {k : Int} (h : SqT K H p xs) (ha : atI xs k = some v) (q : Q v H) : rIx K (.ref p) (.int k) H Q := .inr (.inl ⟨p, xs, k, v, rfl, rfl, h, ha, q⟩)
theorem a_ixS {z : Str} {k : Int} {c : Nat} (hz : z.length ≤ sizeLine) (ha : atI z.cps.toList k = some c) (q : Q (.str ⟨#[c]⟩) H) : rIx K (.str z) (.int k) H Q := .inr (.inr ⟨z, k, c, rfl, rfl, hz, ha, q⟩)
theorem a_set {p : Addr} {xs : List V} {k : Int} {j : Nat} {QH : Hp → Prop} (h : H p = some (.lst xs)) (ha : ixN xs.length k = some j) (q : QH (upd H p (.lst (xs.set j v)))) : rSetL (.ref p) (.int k) v H QH := ⟨p, xs, k, j, rfl, rfl, h, ha, q⟩
-- calls
theorem c_int {a : Int} (q : Q (.int a) H) : rInt1 [.int a] H Q := .inl ⟨a, rfl, q⟩
theorem c_intB {a : Bool} (q : Q (.int (if a then 1 else 0)) H) : rInt1 [.bl a] H Q := .inr ⟨a, rfl, q⟩
theorem c_lenS {z : Str} (hz : z.length ≤ sizeLine) (q : Q (.int z.length) H) : rLenU K [.str z] H Q := .inl ⟨.str z, z.length, rfl, ⟨hz, rfl⟩, q⟩
theorem c_lenL {p : Addr} {xs : List V} (h : SqL K H p xs) (q : Q (.int xs.length) H) : rLenU K [.ref p] H Q := .inl ⟨.ref p, xs.length, rfl, .inl ⟨xs, h, rfl⟩, q⟩
theorem c_lenT {p : Addr} {xs : List V} (h : SqT K H p xs) (q : Q (.int xs.length) H) : rLenU K [.ref p] H Q := .inl ⟨.ref p, xs.length, rfl, .inr ⟨xs, h, rfl⟩, q⟩
theorem c_max {a b : Int} (q : Q (.int (if b > a then b else a)) H) : rMaxU K [.int a, .int b] H Q := .inl ⟨a, b, rfl, q⟩
theorem c_min {a b : Int} (q : Q (.int (if b < a then b else a)) H) : rMinU K [.int a, .int b] H Q := .inl ⟨a, b, rfl, q⟩
theorem c_isi {n : String} {T : Value} {b : Bool} (ty : TyX K H x T) (k : PySem.W.kitOne K T (.type n) = some b) (q : Q (.bl b) H) : rIsi K [x, .ty n] H Q := ⟨x, .ty n, T, .type n, b, rfl, .ty n, ty, k, q⟩
end
theorem sz1000 {n : Nat} (h : n ≤ 1000) : n ≤ sizeLine := Nat.le_of_lt (small1000 h)
theorem newL_of {xs : List V} {H : Hp} {Q : VK} (h : Nat.ble xs.length 1000 = true) (q : ∀ p, H p = none → Q (.ref p) (upd H p (.lst xs))) : newL xs H Q := ⟨sz1000 (Nat.le_of_ble_eq_true h), q⟩
theorem newT_of {xs : List V} {H : Hp} {Q : VK} (h : Nat.ble xs.length 1000 = true) (q : ∀ p, H p = none → Q (.ref p) (upd H p (.tup xs))) : newT xs H Q := ⟨sz1000 (Nat.le_of_ble_eq_true h), q⟩
theorem iteNT {A B : Prop} (h : B) : if (!true) = true then A else B := iteF h
theorem iteNF {A B : Prop} (h : A) : if (!false) = true then A else B := iteT h
theorem iteD {p A B : Prop} [Decidable p] (h1 : p → A) (h2 : ¬ p → B) : if decide p = true then A else B := ite2 (fun h => h1 (of_decide_eq_true h)) fun h => h2 fun q => h (decide_eq_true q)
theorem iteND {p A B : Prop} [Decidable p] (h1 : ¬ p → A) (h2 : p → B) : if (!decide p) = true then A else B := by
  by_cases q : p
  · rw [decide_eq_true q]; exact iteF (h2 q)
  · rw [decide_eq_false q]; exact iteT (h1 q)
/-! ### what stays -/
def Ex (G J : Hp) : Prop := ∀ a o, G a = some o → J a = some o
theorem Ex.refl (G : Hp) : Ex G G := fun _ _ => id
theorem Ex.trans {F G J : Hp} (a : Ex F G) (b : Ex G J) : Ex F J := fun x o => b x o ∘ a x o
theorem Ex.new {H : Hp} {p : Addr} {o : HO} (h : H p = none) : Ex H (upd H p o) := fun a u e => by rw [upd_ne (ne_of_none e h)]; exact e
theorem Ex.mut {H H' : Hp} {p : Addr} {o : HO} (e : Ex H H') (h : H p = none) : Ex H (upd H' p o) := fun a u ha => by rw [upd_ne (ne_of_none ha h)]; exact e a u ha
theorem Ex.fresh {H H' : Hp} {p : Addr} (e : Ex H H') (h : H' p = none) : H p = none := by
  cases h1 : H p with
  | none => rfl
  | some o => rw [e p o h1] at h; cases h
theorem Ex.rd {H H' : Hp} {a : Addr} {u : HO} (e : Ex H H') (h : Rd H a u) : Rd H' a u := by
  rcases h with h | ⟨o, h⟩
  · exact Or.inl (e a _ h)
  · exact Or.inr ⟨o, e a _ h⟩
theorem Ex.l {K : PySem.W.Frag} {H H' : Hp} {a : Addr} {xs : List V} (e : Ex H H') (h : SqL K H a xs) : SqL K H' a xs := h.elim (fun h => .inl (e.rd h)) .inr
theorem Ex.t {K : PySem.W.Frag} {H H' : Hp} {a : Addr} {xs : List V} (e : Ex H H') (h : SqT K H a xs) : SqT K H' a xs := h.elim (fun h => .inl (e.rd h)) .inr
/-- what a def promises: a value, and all that stood stands -/
def RetV (v : V) (H : Hp) (Q : VK) : Prop := ∀ H', Ex H H' → Q v H'
theorem RetV.here {v : V} {H : Hp} {Q : VK} (q : RetV v H Q) : Q v H := q H (Ex.refl H)
def del (H : Hp) (p : Addr) : Hp := fun a => if a = p then none else H a
/-- all stands but what is at p -/
def ExB (p : Addr) (H H' : Hp) : Prop := ∀ a o, a ≠ p → H a = some o → H' a = some o
theorem ExB.refl {p : Addr} (H : Hp) : ExB p H H := fun _ _ _ h => h
theorem ExB.trans {p : Addr} {H H1 H2 : Hp} (a : ExB p H H1) (b : ExB p H1 H2) : ExB p H H2 := fun x o n h => b x o n (a x o n h)
theorem ExB.upd {p : Addr} {H H' : Hp} {o : HO} (e : ExB p H H') : ExB p H (upd H' p o) := fun a u n h => by rw [upd_ne n]; exact e a u n h
theorem ExB.new {p q : Addr} {H H' : Hp} {o : HO} (e : ExB p H H') (h : H' q = none) : ExB p H (L2.upd H' q o) := fun a u n ha => by rw [upd_ne (ne_of_none (e a u n ha) h)]; exact e a u n ha
theorem ExB.mut {p q : Addr} {H H' : Hp} {o : HO} (e : ExB p H H') (h : H q = none) : ExB p H (L2.upd H' q o) := fun a u n ha => by rw [upd_ne (ne_of_none ha h)]; exact e a u n ha
theorem ExB.of {p : Addr} {H H' : Hp} (e : Ex H H') : ExB p H H' := fun a o _ h => e a o h
/-- what stands apart from p goes on -/
theorem Ex.box {p : Addr} {G H H' : Hp} (e : Ex G H) (b : ExB p H H') (n : G p = none) : Ex G H' := fun a o h => b a o (ne_of_none h n) (e a o h)
theorem ExB.at {p q : Addr} {H H' : Hp} {o : HO} (e : ExB p H H') (h : H q = some o) (n : q ≠ p) : H' q = some o := e q o n h
/-! ### loops and comprehensions over what gives a known list of values -/
structure Walks (J : It) (xs : List V) (Gd : Hp → Prop) : Prop where
  go : ∀ i H x, Gd H → xs[i]? = some x → J.go i H
  yl : ∀ i H x H', Gd H → i < xs.length → J.yld i H x H' → H' = H ∧ xs[i]? = some x
  st : ∀ H, Gd H → J.stop xs.length H
theorem wk_list {K : PySem.W.Frag} {a : Addr} {xs : List V} : Walks (Itl K a) xs (fun H => SqL K H a xs) := ⟨fun i H x h e => ⟨xs, x, h, e⟩, fun i H x H' h _ y => ⟨y.1, y.2 xs h⟩, fun H h => ⟨xs, h, Nat.le_refl _⟩⟩
theorem wk_tup {K : PySem.W.Frag} {a : Addr} {xs : List V} : Walks (Itt K a) xs (fun H => SqT K H a xs) := ⟨fun i H x h e => ⟨xs, x, h, e⟩, fun i H x H' h _ y => ⟨y.1, y.2 xs h⟩, fun H h => ⟨xs, h, Nat.le_refl _⟩⟩
def signsV (z : Str) : List V := z.cps.toList.map fun c => .str ⟨#[c]⟩
theorem wk_str {z : Str} : Walks (Its z) (signsV z) (fun _ => True) := by
  refine ⟨fun i H x _ e => ?_, fun i H x H' _ hi y => ⟨y.1, ?_⟩, fun H _ => ?_⟩
  · have h := (List.getElem?_eq_some_iff.mp e).1
    unfold signsV at h
    rw [List.length_map, Array.length_toList] at h
    exact h
  · obtain ⟨c, hc, rfl⟩ := y.2
    unfold signsV
    rw [List.getElem?_map, Array.getElem?_toList, hc]
    rfl
  · show z.cps.size ≤ (signsV z).length
    unfold signsV
    rw [List.length_map, Array.length_toList]
    exact Nat.le_refl _
def rangeV (lo : Int) (n : Nat) : List V := (List.range n).map fun i => .int (lo + (i : Nat))
theorem wk_range {lo : Int} {n : Nat} : Walks (Itr lo n) (rangeV lo n) (fun _ => True) := by
  refine ⟨fun i H x _ e => ?_, fun i H x H' _ hi y => ⟨y.1, ?_⟩, fun H _ => ?_⟩
  · have h := (List.getElem?_eq_some_iff.mp e).1
    unfold rangeV at h
    rw [List.length_map, List.length_range] at h
    exact h
  · unfold rangeV at hi ⊢
    rw [List.length_map, List.length_range] at hi
    rw [List.getElem?_map, List.getElem?_range hi, y.2]
    rfl
  · show n ≤ (rangeV lo n).length
    unfold rangeV
    rw [List.length_map, List.length_range]
    exact Nat.le_refl _
def lcPut (D : Addr) (y : V) (H : Hp) (Nx : Hp → Prop) : Prop := ∃ acc, H D = some (.lst acc) ∧ acc.length < sizeLine ∧ Nx (upd H D (.lst (acc ++ [y])))
def lcT (D : Addr) (tt : TT) (te : TE) (Nx : Hp → Prop) (σ : L2.St) (H : Hp) : Prop := tt σ H fun b H3 => if b = true then te σ H3 fun y H4 => lcPut D y H4 Nx else Nx H3
def lcW (D : Addr) (tt : TT) (te : TE) (vs : List Nat) (σ0 : L2.St) (Nx : Hp → Prop) (σ : L2.St) (H : Hp) : Prop := wipe σ vs = wipe σ0 vs ∧ lcT D tt te Nx σ H
def lcR (J : It) (g : TG) (tt : TT) (te : TE) (vs : List Nat) (σ : L2.St) (H1 : Hp) (Q : VK) : Prop := ∀ D, H1 D = none → ∃ W : Nat → Nat → Hp → Prop, (∃ m, W 0 m (upd H1 D (.lst []))) ∧ ∀ i m H, W i m H →
  (J.stop i H ∧ Q (.ref D) H) ∨ (J.go i H ∧ ∃ Nx : Hp → Prop, (∀ H', Nx H' → ∃ m', m' < m ∧ W (i + 1) m' H') ∧ ∀ x H', J.yld i H x H' → g x (wipe σ vs) H' fun σ2 H2 => lcW D tt te vs σ Nx σ2 H2)
theorem w_lc {wi : TI} {g : TG} {tt : TT} {te : TE} {vs : List Nat} {σ : L2.St} {H : Hp} {Q : VK} (q : wi σ H fun J H1 => lcR J g tt te vs σ H1 Q) : tLc wi g tt te vs σ H Q := q
theorem lc_walk {J : It} {xs : List V} {Gd : Hp → Prop} {g : TG} {tt : TT} {te : TE} {vs : List Nat} {σ : L2.St} {H1 : Hp} {Q : VK} (wk : Walks J xs Gd) (Pv : Addr → Nat → Hp → Prop) (h0 : ∀ D, H1 D = none → Pv D 0 (upd H1 D (.lst [])))
    (hG : ∀ D i H, Pv D i H → Gd H) (hs : ∀ D i x H, xs[i]? = some x → Pv D i H → g x (wipe σ vs) H fun σ2 H2 => lcW D tt te vs σ (Pv D (i + 1)) σ2 H2) (hd : ∀ D H, H1 D = none → Pv D xs.length H → Q (.ref D) H) : lcR J g tt te vs σ H1 Q := by
  intro D hD
  refine ⟨fun i m H => m = xs.length - i ∧ i ≤ xs.length ∧ Pv D i H, ⟨xs.length, by simp, Nat.zero_le _, h0 D hD⟩, ?_⟩
  rintro i m H ⟨rfl, hi, p⟩
  have q := hG D i H p
  by_cases hlt : i < xs.length
  · refine .inr ⟨wk.go i H _ q (List.getElem?_eq_getElem hlt), Pv D (i + 1), fun H' p' => ⟨xs.length - (i + 1), by omega, rfl, hlt, p'⟩, fun x H' y => ?_⟩
    obtain ⟨e, y2⟩ := wk.yl i H x H' q hlt y
    subst e
    exact hs D i x _ y2 p
  · have e : i = xs.length := by omega
    subst e
    exact .inl ⟨wk.st H q, hd D H hD p⟩
/-- a comprehension whose turns leave the heap as it is -/
def lcRes (D : Addr) (o : Option V) (H : Hp) (Nx : Hp → Prop) : Prop := match o with
  | some y => lcPut D y H Nx
  | none => Nx H
theorem lc_pure {α : Type} {ks : List α} {F : α → V} {J : It} {Gd : Hp → Prop} {g : TG} {tt : TT} {te : TE} {vs : List Nat} {σ : L2.St} {H1 : Hp} {Q : VK} (wk : Walks J (ks.map F) Gd) (f : α → Option V) (hG : ∀ H, Ex H1 H → Gd H) (hz : ks.length ≤ 1000000)
    (hs : ∀ D k H Nx, k ∈ ks → Ex H1 H → lcRes D (f k) H Nx → g (F k) (wipe σ vs) H fun σ2 H2 => lcW D tt te vs σ Nx σ2 H2) (q : ∀ D, H1 D = none → Q (.ref D) (upd H1 D (.lst (ks.filterMap f)))) : lcR J g tt te vs σ H1 Q := by
  refine lc_walk wk (fun D i H => H1 D = none ∧ H = upd H1 D (.lst ((ks.take i).filterMap f))) (fun D hD => ⟨hD, rfl⟩) (fun D i H p => hG H (by rw [p.2]; exact Ex.new p.1)) (fun D i x H hx p => ?_) (fun D H hD p => ?_)
  · obtain ⟨hD, e⟩ := p
    rw [List.getElem?_map] at hx
    obtain ⟨k, hk, rfl⟩ := Option.map_eq_some_iff.mp hx
    refine hs D k H _ (List.mem_of_getElem? hk) (by rw [e]; exact Ex.new hD) ?_
    have e2 : ks.take (i + 1) = ks.take i ++ [k] := by rw [List.take_add_one, hk]; rfl
    have hi := (List.getElem?_eq_some_iff.mp hk).1
    cases hf : f k with
    | none =>
      refine ⟨hD, ?_⟩
      rw [e, e2, List.filterMap_append, List.filterMap_cons, hf]
      simp
    | some y =>
      have hl : ((ks.take i).filterMap f).length ≤ 1000000 := Nat.le_trans (List.length_filterMap_le _ _) (by rw [List.length_take]; omega)
      refine ⟨_, by rw [e]; exact upd_same, Nat.lt_of_le_of_lt hl (by decide), hD, ?_⟩
      rw [e, e2, upd_upd, List.filterMap_append, List.filterMap_cons, hf]
      rfl
  · rw [p.2, List.length_map, List.take_length]
    exact q D hD
def forR (J : It) (g : TG) (tb : TS) (D : Ends) (σ : L2.St) (H1 : Hp) : Prop := ∃ W : Nat → Nat → L2.St → Hp → Prop, (∃ m, W 0 m σ H1) ∧ ∀ i m σ H, W i m σ H →
  (J.stop i H ∧ D.nx σ H) ∨ (J.go i H ∧ ∃ N : L2.St → Hp → Prop, (∀ σ' H', N σ' H' → ∃ m', m' < m ∧ W (i + 1) m' σ' H') ∧ ∀ x H', J.yld i H x H' → g x σ H' fun σ2 H2 => tb { D with nx := N, ct := N, bk := D.nx } σ2 H2)
theorem w_for {wi : TI} {g : TG} {tb : TS} {D : Ends} {σ : L2.St} {H : Hp} (q : wi σ H fun J H1 => forR J g tb D σ H1) : tFor wi g tb D σ H := q
theorem for_walk {J : It} {xs : List V} {Gd : Hp → Prop} {g : TG} {tb : TS} {D : Ends} {σ : L2.St} {H1 : Hp} (wk : Walks J xs Gd) (Pv : Nat → L2.St → Hp → Prop) (h0 : Pv 0 σ H1) (hG : ∀ i σ H, Pv i σ H → Gd H)
    (hs : ∀ i x σ H, xs[i]? = some x → Pv i σ H → g x σ H fun σ2 H2 => tb { D with nx := Pv (i + 1), ct := Pv (i + 1), bk := D.nx } σ2 H2) (hd : ∀ σ H, Pv xs.length σ H → D.nx σ H) : forR J g tb D σ H1 := by
  refine ⟨fun i m σ H => m = xs.length - i ∧ i ≤ xs.length ∧ Pv i σ H, ⟨xs.length, by simp, Nat.zero_le _, h0⟩, ?_⟩
  rintro i m σ H ⟨rfl, hi, p⟩
  have q := hG i σ H p
  by_cases hlt : i < xs.length
  · refine .inr ⟨wk.go i H _ q (List.getElem?_eq_getElem hlt), Pv (i + 1), fun σ' H' p' => ⟨xs.length - (i + 1), by omega, rfl, hlt, p'⟩, fun x H' y => ?_⟩
    obtain ⟨e, y2⟩ := wk.yl i H x H' q hlt y
    subst e
    exact hs i x σ _ y2 p
  · have e : i = xs.length := by omega
    subst e
    exact .inl ⟨wk.st H q, hd σ H p⟩
def itL (K : PySem.W.Frag) (x : V) (H : Hp) (R : It → Hp → Prop) : Prop := ∃ a, x = .ref a ∧ (∃ xs, SqL K H a xs) ∧ R (Itl K a) H
def itT (K : PySem.W.Frag) (x : V) (H : Hp) (R : It → Hp → Prop) : Prop := ∃ a, x = .ref a ∧ (∃ xs, SqT K H a xs) ∧ R (Itt K a) H
def itS (x : V) (H : Hp) (R : It → Hp → Prop) : Prop := ∃ z, x = .str z ∧ R (Its z) H
def itR1 (vs : List V) (H : Hp) (R : It → Hp → Prop) : Prop := ∃ j : Int, vs = [.int j] ∧ -(2 ^ 62) ≤ j ∧ j < 2 ^ 62 ∧ R (Itr 0 j.toNat) H
def itR2 (vs : List V) (H : Hp) (R : It → Hp → Prop) : Prop := ∃ i j : Int, vs = [.int i, .int j] ∧ (-(2 ^ 62) ≤ i ∧ i < 2 ^ 62 ∧ -(2 ^ 62) ≤ j ∧ j < 2 ^ 62) ∧ R (Itr i (j - i).toNat) H
section
variable {K : PySem.W.Frag} {σ : L2.St} {H : Hp} {t : TE} {tA : TA} {R : It → Hp → Prop}
theorem w_iL (q : t σ H fun x H1 => itL K x H1 R) : iU K t σ H R := .inl q
theorem w_iT (q : t σ H fun x H1 => itT K x H1 R) : iU K t σ H R := .inr (.inl q)
theorem w_iS (q : t σ H fun x H1 => itS x H1 R) : iU K t σ H R := .inr (.inr q)
theorem w_iR1 (q : tA σ H fun vs H1 => itR1 vs H1 R) : iRng1 tA σ H R := q
theorem w_iR2 (q : tA σ H fun vs H1 => itR2 vs H1 R) : iRng2 tA σ H R := q
theorem it_L {a : Addr} {xs : List V} (h : SqL K H a xs) (q : R (Itl K a) H) : itL K (.ref a) H R := ⟨a, rfl, ⟨xs, h⟩, q⟩
theorem it_T {a : Addr} {xs : List V} (h : SqT K H a xs) (q : R (Itt K a) H) : itT K (.ref a) H R := ⟨a, rfl, ⟨xs, h⟩, q⟩
theorem it_S {z : Str} (q : R (Its z) H) : itS (.str z) H R := ⟨z, rfl, q⟩
theorem it_R1 {j : Int} (h1 : -(2 ^ 62) ≤ j) (h2 : j < 2 ^ 62) (q : R (Itr 0 j.toNat) H) : itR1 [.int j] H R := ⟨j, rfl, h1, h2, q⟩
theorem it_R2 {i j : Int} (h : -(2 ^ 62) ≤ i ∧ i < 2 ^ 62 ∧ -(2 ^ 62) ≤ j ∧ j < 2 ^ 62) (q : R (Itr i (j - i).toNat) H) : itR2 [.int i, .int j] H R := ⟨i, j, rfl, h, q⟩
theorem w_lcW {D : Addr} {tt : TT} {te : TE} {vs : List Nat} {σ0 : L2.St} {Nx : Hp → Prop} (h : wipe σ vs = wipe σ0 vs) (q : tt σ H fun b H3 => if b = true then te σ H3 fun y H4 => lcPut D y H4 Nx else Nx H3) : lcW D tt te vs σ0 Nx σ H := ⟨h, q⟩
end
/-! ### names -/
def lowc (c : Nat) : Bool := decide (97 ≤ c) && decide (c ≤ 122)
def isName (z : Str) : Bool := decide (1 ≤ z.length) && (decide (z.length ≤ 8) && z.cps.toList.all lowc)
theorem ascii_tab : ∀ c : _root_.Fin 128, (PySem.Unicode.isAlpha c.val = (lowc c.val || (decide (65 ≤ c.val) && decide (c.val ≤ 90)))) ∧ PySem.Unicode.isLower c.val = lowc c.val ∧ (PySem.Unicode.isUpper c.val || PySem.Unicode.isTitle c.val) = (decide (65 ≤ c.val) && decide (c.val ≤ 90)) := by decide +kernel
theorem lowc_lt {c : Nat} (h : lowc c = true) : c < 128 := by
  unfold lowc at h
  simp only [Bool.and_eq_true, decide_eq_true_eq] at h
  omega
theorem name_tests (z : Str) (h1 : 1 ≤ z.length) : (Txt.isascii z && (Txt.isalpha z && Txt.islower z)) = z.cps.toList.all lowc := by
  have hlen : z.cps.toList.length = z.length := by simp [Str.length]
  unfold Txt.isascii Txt.isalpha Txt.islower
  rw [← Array.all_toList, ← Array.all_toList, ← Array.any_toList, ← Array.any_toList, Bool.eq_iff_iff]
  simp only [Bool.and_eq_true, Bool.not_eq_true', List.all_eq_true, List.any_eq_true, List.any_eq_false, decide_eq_true_eq]
  constructor
  · rintro ⟨ha, ⟨_, hb⟩, ⟨_, hd⟩⟩ c hc
    have hc1 := ha c hc
    obtain ⟨t1, t2, t3⟩ := ascii_tab ⟨c, hc1⟩
    have h2 := hb c hc
    have h3 := hd c hc
    simp only at t1 t2 t3
    rw [t3] at h3
    rw [t1] at h2
    cases hl : lowc c with
    | true => rfl
    | false =>
      rw [hl, Bool.false_or] at h2
      exact absurd h2 h3
  · intro ha
    refine ⟨fun c hc => lowc_lt (ha c hc), ⟨?_, fun c hc => ?_⟩, ⟨?_, fun c hc => ?_⟩⟩
    · show z.length > 0
      omega
    · obtain ⟨t1, t2, t3⟩ := ascii_tab ⟨c, lowc_lt (ha c hc)⟩
      simp only at t1
      rw [t1, ha c hc]
      rfl
    · have h0 : 0 < z.cps.toList.length := by omega
      refine ⟨z.cps.toList[0], List.getElem_mem h0, ?_⟩
      have hq := ha _ (List.getElem_mem h0)
      obtain ⟨t1, t2, t3⟩ := ascii_tab ⟨_, lowc_lt hq⟩
      simp only at t2
      rw [t2]
      exact hq
    · obtain ⟨t1, t2, t3⟩ := ascii_tab ⟨c, lowc_lt (ha c hc)⟩
      simp only at t3
      rw [t3]
      have hq := ha c hc
      unfold lowc at hq
      simp only [Bool.and_eq_true, decide_eq_true_eq] at hq ⊢
      omega
abbrev lettersS : Str := Str.ofString "abcdefghijklmnopqrstuvwxyz"
theorem letters_tab : ∀ c : _root_.Fin 128, decide (c.val ∈ lettersS.cps.toList) = lowc c.val := by decide +kernel
theorem letters_lt : ∀ c ∈ lettersS.cps.toList, c < 128 := by decide +kernel
theorem letters_mem (c : Nat) : decide (c ∈ lettersS.cps.toList) = lowc c := by
  by_cases h : c < 128
  · exact letters_tab ⟨c, h⟩
  · have h1 : lowc c = false := by
      cases q : lowc c with
      | false => rfl
      | true => exact absurd (lowc_lt q) h
    rw [h1]
    exact decide_eq_false fun q => h (letters_lt c q)
/-- the signs of a text that are no letters -/
def badSigns (z : Str) : List Str := (z.cps.toList.filter fun c => !lowc c).map fun c => ⟨#[c]⟩
theorem badSigns_eq (z : Str) : (z.cps.toList.filterMap fun c => if lowc c = true then none else some (V.str ⟨#[c]⟩)) = (badSigns z).map V.str := by
  unfold badSigns
  rw [List.map_map]
  induction z.cps.toList with
  | nil => rfl
  | cons c r ih => cases h : lowc c <;> simp [List.filterMap_cons, List.filter_cons, h, ih]
theorem badSigns_nil (z : Str) : (badSigns z).isEmpty = z.cps.toList.all lowc := by
  unfold badSigns
  rw [List.isEmpty_map, Bool.eq_iff_iff, List.isEmpty_iff, List.filter_eq_nil_iff, List.all_eq_true]
  simp only [Bool.not_eq_true', Bool.not_eq_false]
theorem dps_str {K : PySem.W.Frag} {H : Hp} : ∀ ys : List Str, DpAll K H (ys.map V.str) (ys.map PyData.str)
  | [] => .nil
  | y :: ys => .cons (.str y) (dps_str ys)
theorem dps_int {K : PySem.W.Frag} {H : Hp} : ∀ ys : List Int, DpAll K H (ys.map V.int) (ys.map PyData.int)
  | [] => .nil
  | y :: ys => .cons (.int y) (dps_int ys)
theorem a_eqD {K : PySem.W.Frag} {H : Hp} {Q : VK} {x y : V} {d e : PyData} (hd : Dp K H x d) (he : Dp K H y e) (h1 : SeqAt.shaped d = true) (h2 : SeqAt.shaped e = true) (q : Q (.bl (PyData.eqv d e)) H) : rEqU K x y H Q := .inr ⟨d, e, hd, he, h1, h2, q⟩
theorem a_neD {K : PySem.W.Frag} {H : Hp} {Q : VK} {x y : V} {d e : PyData} (hd : Dp K H x d) (he : Dp K H y e) (h1 : SeqAt.shaped d = true) (h2 : SeqAt.shaped e = true) (q : Q (.bl (!PyData.eqv d e)) H) : rNeU K x y H Q := .inr ⟨d, e, hd, he, h1, h2, q⟩
theorem lay_strs : ∀ ys : List Str, (∀ y ∈ ys, PyData.strOk y = true) → PyData.canLayAll0 (ys.map PyData.str) = true ∧ PyData.depthAll (ys.map PyData.str) = 0
  | [], _ => ⟨by simp [PyData.canLayAll0], by simp [PyData.depthAll]⟩
  | y :: ys, h => by
    obtain ⟨h1, h2⟩ := lay_strs ys fun z hz => h z (List.mem_cons_of_mem _ hz)
    have h3 := h y List.mem_cons_self
    exact ⟨by simp [PyData.canLayAll0, PyData.canLay0, h1, h3], by simp [PyData.depthAll, PyData.depth, h2]⟩
theorem shaped_strs {ys : List Str} (h : ∀ y ∈ ys, PyData.strOk y = true) : SeqAt.shaped (.list (ys.map PyData.str)) = true := by
  obtain ⟨h1, h2⟩ := lay_strs ys h
  simp [SeqAt.shaped, PyData.canLay0, PyData.depth, h1, h2]
theorem shaped_strsT {ys : List Str} (h : ∀ y ∈ ys, PyData.strOk y = true) : SeqAt.shaped (.tuple (ys.map PyData.str)) = true := by
  obtain ⟨h1, h2⟩ := lay_strs ys h
  simp [SeqAt.shaped, PyData.canLay0, PyData.depth, h1, h2]
theorem lay_ints : ∀ ys : List Int, PyData.canLayAll0 (ys.map PyData.int) = true ∧ PyData.depthAll (ys.map PyData.int) = 0
  | [] => ⟨by simp [PyData.canLayAll0], by simp [PyData.depthAll]⟩
  | y :: ys => by
    obtain ⟨h1, h2⟩ := lay_ints ys
    exact ⟨by simp [PyData.canLayAll0, PyData.canLay0, h1], by simp [PyData.depthAll, PyData.depth, h2]⟩
theorem shaped_ints (ys : List Int) : SeqAt.shaped (.list (ys.map PyData.int)) = true := by
  obtain ⟨h1, h2⟩ := lay_ints ys
  simp [SeqAt.shaped, PyData.canLay0, PyData.depth, h1, h2]
theorem shaped_nil : SeqAt.shaped (.list []) = true := by simp [SeqAt.shaped, PyData.canLay0, PyData.depth, PyData.canLayAll0, PyData.depthAll]
theorem eqv_nil (ds : List PyData) : PyData.eqv (.list ds) (.list []) = ds.isEmpty := by cases ds <;> simp [PyData.eqv, PyData.eqvAll]
def OkS (z : Str) (n : Nat) : Prop := z.length ≤ n ∧ PyData.strOk z = true
theorem OkS.line {z : Str} {n : Nat} (h : OkS z n) (hn : n ≤ 1000000 := by decide) : z.length ≤ sizeLine := Nat.le_trans h.1 (Nat.le_trans hn (by decide))
theorem OkS.sign {z : Str} {n : Nat} (h : OkS z n) {c : Nat} (hc : c ∈ z.cps.toList) : PyData.strOk ⟨#[c]⟩ = true := by
  have h2 := h.2
  unfold PyData.strOk at h2 ⊢
  rw [← Array.all_toList, List.all_eq_true] at h2
  simpa using h2 c hc
theorem badSigns_ok {z : Str} {n : Nat} (h : OkS z n) : ∀ y ∈ badSigns z, PyData.strOk y = true := fun y hy => by
  unfold badSigns at hy
  obtain ⟨c, hc, rfl⟩ := List.mem_map.mp hy
  exact h.sign (List.mem_filter.mp hc).1
theorem isName_ok {z : Str} (h : isName z = true) : OkS z 8 := by
  unfold isName at h
  simp only [Bool.and_eq_true, decide_eq_true_eq] at h
  refine ⟨h.2.1, ?_⟩
  unfold PyData.strOk
  rw [← Array.all_toList, List.all_eq_true]
  intro c hc
  have := lowc_lt (List.all_eq_true.mp h.2.2 c hc)
  exact decide_eq_true (by omega)
theorem OkS.mono {z : Str} {m n : Nat} (h : OkS z m) (hm : m ≤ n) : OkS z n := ⟨Nat.le_trans h.1 hm, h.2⟩
/-! ### texts by their signs -/
theorem OkS_iff {z : Str} {n : Nat} : OkS z n ↔ z.cps.toList.length ≤ n ∧ ∀ c ∈ z.cps.toList, c < 0x110000 := by
  unfold OkS PyData.strOk
  rw [← Array.all_toList, List.all_eq_true, show z.length = z.cps.toList.length by simp [Str.length]]
  simp only [decide_eq_true_eq]
theorem app_cps (a b : Str) : (a ++ b).cps.toList = a.cps.toList ++ b.cps.toList := by
  show (a.cps ++ b.cps).toList = _
  rw [Array.toList_append]
theorem len_cps (a : Str) : a.length = a.cps.toList.length := by simp [Str.length]
theorem ext_cps {a b : Str} (h : a.cps.toList = b.cps.toList) : a = b := by
  cases a with
  | mk x =>
    cases b with
    | mk y =>
      have : x = y := by
        cases x
        cases y
        simpa using h
      rw [this]
theorem OkS_append {a b : Str} {m n : Nat} (ha : OkS a m) (hb : OkS b n) : OkS (a ++ b) (m + n) := by
  rw [OkS_iff] at ha hb ⊢
  rw [app_cps, List.length_append]
  refine ⟨by omega, fun c hc => ?_⟩
  rcases List.mem_append.mp hc with h | h
  · exact ha.2 c h
  · exact hb.2 c h
theorem OkS_cut {z : Str} {n : Nat} (h : OkS z n) (lo hi : Option Int) : OkS (cutS z lo hi) n := by
  rw [OkS_iff] at h ⊢
  unfold cutS
  simp only
  refine ⟨?_, fun c hc => h.2 c (List.mem_of_mem_drop (List.mem_of_mem_take hc))⟩
  rw [List.length_take, List.length_drop]
  omega
theorem OkS_join {sep : Str} {k m : Nat} (hs : OkS sep k) : ∀ ys : List Str, (∀ y ∈ ys, OkS y m) → OkS (Txt.join sep ys) (ys.length * (m + k)) := by
  intro ys h
  rw [TL.join_eq]
  induction ys with
  | nil => exact ⟨Nat.zero_le _, (by decide +kernel : PyData.strOk Str.empty = true)⟩
  | cons y r ih =>
    cases r with
    | nil =>
      show OkS y _
      exact (h y List.mem_cons_self).mono (by rw [List.length_singleton]; omega)
    | cons x r =>
      show OkS (y ++ sep ++ Str.join sep (x :: r)) _
      refine (OkS_append (OkS_append (h y List.mem_cons_self) hs) (ih fun z hz => h z (List.mem_cons_of_mem _ hz))).mono ?_
      simp only [List.length_cons, Nat.add_mul]
      omega
theorem mul_fold (x : Array Nat) : ∀ (k : Nat) (acc : Array Nat), ((List.replicate k x).foldl (· ++ ·) acc).toList = acc.toList ++ (List.replicate k x.toList).flatten
  | 0, acc => by simp
  | k + 1, acc => by
    rw [List.replicate_succ, List.foldl_cons, mul_fold x k, Array.toList_append, List.replicate_succ, List.flatten_cons, List.append_assoc]
theorem mul_cps (z : Str) (n : Int) (h : 0 ≤ n) : (Txt.mul z n).cps.toList = (List.replicate n.toNat z.cps.toList).flatten := by
  unfold Txt.mul
  by_cases h1 : n < 1
  · rw [if_pos h1, show n.toNat = 0 by omega]
    rfl
  · rw [if_neg h1]
    split
    · rename_i h2
      rw [Bool.or_eq_true] at h2
      rcases h2 with h2 | h2
      · have : n = 1 := by simpa using h2
        subst this
        simp
      · have h3 : z.cps.toList = [] := by
          have : z.length = 0 := by simpa using h2
          rw [len_cps] at this
          exact List.eq_nil_of_length_eq_zero this
        rw [h3]
        simp
    · show ((List.replicate n.toNat z.cps).foldl (· ++ ·) #[]).toList = _
      rw [mul_fold]
      rfl
theorem OkS_mul {z : Str} {m : Nat} (h : OkS z m) (n : Int) (hn : 0 ≤ n) : OkS (Txt.mul z n) (m * n.toNat) := by
  rw [OkS_iff] at h ⊢
  rw [mul_cps z n hn]
  refine ⟨?_, fun c hc => ?_⟩
  · rw [List.length_flatten, List.map_replicate, List.sum_replicate_nat, Nat.mul_comm]
    exact Nat.mul_le_mul_right _ h.1
  · obtain ⟨l, hl, hc⟩ := List.mem_flatten.mp hc
    rw [List.eq_of_mem_replicate hl] at hc
    exact h.2 c hc
theorem OkS_sign (c : Nat) (h : c < 0x110000) : OkS ⟨#[c]⟩ 1 := by
  rw [OkS_iff]
  exact ⟨Nat.le_refl _, fun d hd => by
    have : d = c := by simpa using hd
    omega⟩
theorem OkS_item {z : Str} {n : Nat} (h : OkS z n) {k : Int} {c : Nat} (hc : atI z.cps.toList k = some c) : OkS ⟨#[c]⟩ 1 := by
  refine OkS_sign c ?_
  unfold atI at hc
  obtain ⟨j, _, hj⟩ := Option.bind_eq_some_iff.mp hc
  exact (OkS_iff.mp h).2 c (List.mem_of_getElem? hj)
/-- an item of a sequence at a drawn place -/
theorem atI_in {α : Type} (xs : List α) {d : Int} (h0 : 0 ≤ d) (h1 : d < (xs.length : Int)) : ∃ x, atI xs d = some x ∧ x ∈ xs := by
  have hd : d.toNat < xs.length := by omega
  refine ⟨xs[d.toNat], ?_, List.getElem_mem hd⟩
  have e : ((d.toNat : Nat) : Int) = d := by omega
  have h := atI_nat (xs := xs) (List.getElem?_eq_getElem hd)
  rw [e] at h
  exact h
/-- a value that is no text (no int, no bool) -/
def NotTy (K : PySem.W.Frag) (H : Hp) (v : V) (n : String) : Prop := ∃ T, TyX K H v T ∧ PySem.W.kitOne K T (.type n) = some false
def NotInt (K : PySem.W.Frag) (H : Hp) (v : V) : Prop := ∃ T, TyX K H v T ∧ PySem.W.kitOne K T (.type "int") = some false ∧ PySem.W.kitOne K T (.type "bool") = some false
theorem TyOf.ex {K : PySem.W.Frag} {H H' : Hp} {v : V} {T : Value} (x : Ex H H') (h : TyOf K H v T) : TyOf K H' v T := by
  cases h with
  | non => exact .non
  | bl b => exact .bl b
  | int i => exact .int i
  | str z => exact .str z
  | flt z => exact .flt z
  | lst e => exact .lst (x _ _ e)
  | frz e => exact .frz (x _ _ e)
  | tup e => exact .tup (x _ _ e)
  | dK e => exact .dK (x _ _ e)
  | dT e => exact .dT (x _ _ e)
  | ins e cl ha hn ht hm => exact .ins (x _ _ e) cl ha hn ht hm
theorem TyX.ex {K : PySem.W.Frag} {H H' : Hp} {v : V} {T : Value} (x : Ex H H') (h : TyX K H v T) : TyX K H' v T := by
  cases h with
  | base h => exact .base (TyOf.ex x h)
  | byt b => exact .byt b
  | set e => exact .set (x _ _ e)
  | kList e c => exact .kList e c
  | kTuple e c => exact .kTuple e c
  | kDict e c => exact .kDict e c
  | fTuple e => exact .fTuple (x _ _ e)
  | fDict e => exact .fDict (x _ _ e)
/-- a value that is a text, a bool, or neither text nor number -/
def OddV (K : PySem.W.Frag) (H : Hp) (v : V) : Prop := (∃ z, v = .str z ∧ OkS z 10000) ∨ (∃ b, v = .bl b) ∨ ∃ T, TyX K H v T ∧ PySem.W.kitOne K T (.type "str") = some false ∧ PySem.W.kitOne K T (.type "int") = some false ∧ PySem.W.kitOne K T (.type "bool") = some false
theorem OddV.ex {K : PySem.W.Frag} {H H' : Hp} {v : V} (x : Ex H H') (h : OddV K H v) : OddV K H' v := by
  rcases h with h | h | ⟨T, h, r⟩
  · exact .inl h
  · exact .inr (.inl h)
  · exact .inr (.inr ⟨T, TyX.ex x h, r⟩)
theorem odd_non {K : PySem.W.Frag} {H : Hp} : OddV K H .non := .inr (.inr ⟨_, .base .non, kit_ty (by decide +kernel), kit_ty (by decide +kernel), kit_ty (by decide +kernel)⟩)
theorem odd_bl {K : PySem.W.Frag} {H : Hp} (b : Bool) : OddV K H (.bl b) := .inr (.inl ⟨b, rfl⟩)
theorem odd_str {K : PySem.W.Frag} {H : Hp} {z : Str} (h : OkS z 10000) : OddV K H (.str z) := .inl ⟨z, rfl, h⟩
theorem odd_lst {K : PySem.W.Frag} {H : Hp} {a : Addr} {xs : List V} (h : H a = some (.lst xs)) : OddV K H (.ref a) := .inr (.inr ⟨_, .base (.lst h), kit_ty (by decide +kernel), kit_ty (by decide +kernel), kit_ty (by decide +kernel)⟩)
theorem odd_tup {K : PySem.W.Frag} {H : Hp} {a : Addr} {xs : List V} (h : H a = some (.tup xs)) : OddV K H (.ref a) := .inr (.inr ⟨_, .base (.tup h), kit_ty (by decide +kernel), kit_ty (by decide +kernel), kit_ty (by decide +kernel)⟩)
theorem odd_dK {K : PySem.W.Frag} {H : Hp} {a : Addr} {xs : List (Key × V)} (h : H a = some (.dK xs)) : OddV K H (.ref a) := .inr (.inr ⟨_, .base (.dK h), kit_ty (by decide +kernel), kit_ty (by decide +kernel), kit_ty (by decide +kernel)⟩)
theorem OddV.notInt {K : PySem.W.Frag} {H : Hp} {v : V} (h : OddV K H v) : (∃ b, v = .bl b) ∨ NotInt K H v := by
  rcases h with ⟨z, rfl, _⟩ | h | ⟨T, h, _, r1, r2⟩
  · exact .inr ⟨_, .base (.str z), kit_ty (by decide +kernel), kit_ty (by decide +kernel)⟩
  · exact .inl h
  · exact .inr ⟨T, h, r1, r2⟩
theorem OddV.notStr {K : PySem.W.Frag} {H : Hp} {v : V} (h : OddV K H v) : (∃ z, v = .str z ∧ OkS z 10000) ∨ NotTy K H v "str" := by
  rcases h with h | ⟨b, rfl⟩ | ⟨T, h, r, _⟩
  · exact .inl h
  · exact .inr ⟨_, .base (.bl b), kit_ty (by decide +kernel)⟩
  · exact .inr ⟨T, h, r⟩
def sp_is_name (K : PySem.W.Frag) : Sp := fun vs H Q _ => ∃ v, vs = [v] ∧ ((∃ z, v = .str z ∧ OkS z 10000 ∧ RetV (.bl (isName z)) H Q) ∨ (NotTy K H v "str" ∧ RetV (.bl false) H Q))
def sp_is_integer (K : PySem.W.Frag) : Sp := fun vs H Q _ => ∃ v lo hi, vs = [v, .int lo, .int hi] ∧ ((∃ i, v = .int i ∧ RetV (.bl (decide (lo ≤ i) && decide (i ≤ hi))) H Q) ∨ (∃ b, v = .bl b ∧ RetV (.bl false) H Q) ∨ (NotInt K H v ∧ RetV (.bl false) H Q))
/-! ### the law's box of draws: its values matter to no law, its form does -/
def IsBox (o : HO) (n : Nat) : Prop := ∃ a b c : Int, o = .lst [.int a, .int b, .int c] ∧ 0 ≤ a ∧ 0 ≤ b ∧ b < 2147483629 ∧ 0 ≤ c ∧ c ≤ (n : Int)
theorem fmod_lo (a : Int) {m : Int} (h : 0 < m) : 0 ≤ a.fmod m := by rw [Int.fmod_eq_emod_of_nonneg a (Int.le_of_lt h)]; exact Int.emod_nonneg _ (by omega)
theorem fmod_hi (a : Int) {m : Int} (h : 0 < m) : a.fmod m < m := by rw [Int.fmod_eq_emod_of_nonneg a (Int.le_of_lt h)]; exact Int.emod_lt_of_pos _ h
theorem fdiv_lo {a m : Int} (ha : 0 ≤ a) (h : 0 < m) : 0 ≤ a.fdiv m := by rw [Int.fdiv_eq_ediv_of_nonneg a (Int.le_of_lt h)]; exact Int.ediv_nonneg ha (Int.le_of_lt h)
/-! ### measures -/
def ltS (a b : Str) : Bool := decide (a.cps.toList < b.cps.toList)
def isKind (k : Str) : Prop := k = "length" ∨ k = "bearing"
def lo2 (a b : Str) : Str := if a.cps.toList < b.cps.toList then a else b
def hi2 (a b : Str) : Str := if a.cps.toList < b.cps.toList then b else a
def IsMeas (C : Addr) (H : Hp) (x : Addr) (k a b : Str) : Prop := ∃ dx t, H x = some (.ins C dx [("own_kind", .str k), ("own_ends", .ref t)]) ∧ H t = some (.tup [.str a, .str b])
theorem IsMeas.mono {C : Addr} {H H' : Hp} {x : Addr} {k a b : Str} (e : Ex H H') (h : IsMeas C H x k a b) : IsMeas C H' x k a b := let ⟨dx, t, h1, h2⟩ := h; ⟨dx, t, e _ _ h1, e _ _ h2⟩
def sp_Measure (C : Addr) : Sp := fun vs H Q _ => ∃ (x dx : Addr) (k a b : Str), vs = [.ref x, .str k, .str a, .str b] ∧ H x = some (.ins C dx []) ∧ isKind k ∧ isName a = true ∧ isName b = true ∧ a ≠ b ∧ ∀ H', ExB x H H' → IsMeas C H' x k (lo2 a b) (hi2 a b) → Q .non H'
def sp_cell (K : PySem.W.Frag) : Sp := fun vs H Q _ => ∃ (a : Addr) (ns : List Int) (k : Nat), vs = [.ref a, .int (k : Int)] ∧ SqL K H a (ns.map V.int) ∧ ns.length ≤ 63 ∧ k ≤ 100 ∧ ∀ c : Int, Q (.int c) H
def sp_box : Sp := fun vs H Q _ => ∃ c : Int, vs = [.int c] ∧ ∀ p o, H p = none → IsBox o 0 → Q (.ref p) (upd H p o)
def BoxAt (H : Hp) (p : Addr) (n : Nat) : Prop := ∃ o, H p = some o ∧ IsBox o n
theorem IsBox.mono {o : HO} {m n : Nat} (h : IsBox o m) (hm : m ≤ n) : IsBox o n := let ⟨a, b, c, e, h1, h2, h3, h4, h5⟩ := h; ⟨a, b, c, e, h1, h2, h3, h4, by omega⟩
theorem BoxAt.mono {H : Hp} {p : Addr} {m n : Nat} (h : BoxAt H p m) (hm : m ≤ n) : BoxAt H p n := let ⟨o, h1, h2⟩ := h; ⟨o, h1, h2.mono hm⟩
theorem BoxAt.ex {H H' : Hp} {p : Addr} {n : Nat} (e : Ex H H') (h : BoxAt H p n) : BoxAt H' p n := let ⟨o, h1, h2⟩ := h; ⟨o, e _ _ h1, h2⟩
theorem BoxAt.new {H : Hp} {p q : Addr} {n : Nat} {o : HO} (h : BoxAt H p n) (hq : H q = none) : BoxAt (upd H q o) p n := h.ex (Ex.new hq)
theorem BoxAt.upd {H : Hp} {p q : Addr} {n : Nat} {o : HO} (h : BoxAt H p n) (hq : q ≠ p) : BoxAt (L2.upd H q o) p n := let ⟨u, h1, h2⟩ := h; ⟨u, (upd_ne hq.symm).trans h1, h2⟩
theorem BoxAt.ne {H : Hp} {p q : Addr} {n : Nat} (h : BoxAt H p n) (hq : H q = none) : p ≠ q := let ⟨_, h1, _⟩ := h; ne_of_none h1 hq
def sp_take : Sp := fun vs H Q _ => ∃ (p : Addr) (m : Int) (o : HO) (n : Nat), vs = [.ref p, .int m] ∧ H p = some o ∧ IsBox o n ∧ n ≤ 1000000000 ∧ 0 < m ∧ m < 1073741824 ∧ ∀ (d : Int) (o' : HO), 0 ≤ d → d < m → IsBox o' (n + 1) → Q (.int d) (upd H p o')
theorem take_of {H : Hp} {p : Addr} {n : Nat} {m : Int} {Q : VK} {E : XK} (hb : BoxAt H p n) (hn : n ≤ 1000000000) (h0 : 0 < m) (h1 : m < 1073741824) (q : ∀ (d : Int) (H' : Hp), 0 ≤ d → d < m → BoxAt H' p (n + 1) → ExB p H H' → Q (.int d) H') : sp_take [.ref p, .int m] H Q E := by
  obtain ⟨o, ho, hi⟩ := hb
  exact ⟨p, m, o, n, rfl, ho, hi, hn, h0, h1, fun d o' h2 h3 h4 => q d _ h2 h3 ⟨o', upd_same, h4⟩ (ExB.upd (ExB.refl _))⟩
/-- what a def with a box promises: all stands but the box -/
def RetB (p : Addr) (n : Nat) (H : Hp) (v : V) (Q : VK) : Prop := ∀ H', ExB p H H' → BoxAt H' p n → Q v H'
end G

set_option Elab.async false
set_option linter.all false
set_option maxRecDepth 100000
set_option maxHeartbeats 4000000
/-! An own error over ValueError (a class or two in between) whose __init__ says super().__init__('..') and keeps its one argument: made, raised, read. The block of skel/42 turned to this form. -/
namespace PySem
namespace ErrX
open PySem.W PySem.Calls PyProof.Rows PySem.HandSPX
/-! ### the text of __init__ -/
def iA (f : Str) (p1 p2 : Pos) : Arguments := { posonlyargs := [], args := [{ arg := "self", annotation := none, pos := p1 }, { arg := f, annotation := none, pos := p2 }], vararg := none, kwonlyargs := [], kw_defaults := [], kwarg := none, defaults := [] }
def iB (f m : Str) (j : Nat) (a1 a2 a3 a4 a5 a6 q1 q2 q3 q4 : Pos) : List Stmt :=
  [.Expr (.Call (.Attribute (.Call (.Name "super" a1) [] [] a2) "__init__" a3) [.Constant (.str m) j a4] [] a5) a6, .Assign [.Attribute (.Name "self" q1) f q2] (.Name f q3) q4]
def iS (f : Str) : Scope := { kind := .function, names := [("self", .local), (f, .local), ("__class__", .free), ("super", .globalImplicit)], isGenerator := false, isCoroutine := false, more := [] }
/-- what the written part says of the class cn, at C, and of its __init__, at fI -/
structure ErrTxt (prog : Program) (K : Frag) (mg : Str → Option Value) (cn f : Str) (C fI : Addr) : Prop where
  gC : mg cn = some (.ref C)
  cls : ∃ nm q N bs bm sn sub ab col dd k0 k1 k2 k3 k5, K.lookup C = some (excClassObj nm q C N bs bm true sn sub ab col dd k0 k1 k2 k3 k5 "ValueError.__new__") ∧ refsVE bm = true ∧ alongIn K "__init__" bm = some (some (.builtin "ValueError.__init__"))
  sa : findIn K (.ref C) "__setattr__" = some (some (.builtin "object.__setattr__"))
  ga : findIn K (.ref C) "__getattribute__" = some (some (.builtin "BaseException.__getattribute__"))
  gg : findIn K (.ref C) "__getattr__" = some none
  noN : findIn K (.ref C) f = some none
  iC : findIn K (.ref C) "__init__" = some (some (.ref fI))
  tC : typeIn K (.ref fI) = some (.type "function")
  kC : keepIn K (.ref C) = true
  exC : subIn K (.ref C) (.type "BaseException") = some true
  veC : subIn K (.ref C) (.type "ValueError") = some true
  miC : mroIn K C (.ref C) = some true
  tyC : typeIn K (.ref C) = some (.type "type")
  hdC : hasDictIn K C = true
  op : nsIn K cStatics "thirdparty.any" = some none
  fs : f ≠ "self"
  fc : f ≠ "__class__"
  fu : f ≠ "super"
  fg : (f == ("__debug__" : Str)) = false
  mS : mg "super" = none
  htop : (prog.main.scope.names.lookup ("super" : Str)).isSome = false
  fn : ∃ (oc : Value) (od : Option Addr) (doc pm : Value) (an : Option Addr) (cda : Addr) (ct : Value) (osl : Array (Option Value)) (p1 p2 : Pos) (m : Str) (j : Nat) (a1 a2 a3 a4 a5 a6 q1 q2 q3 q4 : Pos) (cc : Addr) (q : Str) (ccl : Value) (cdd : Option Addr) (vs : Array Value) (ccs : Array (Option Value)) (file : Str) (tf : Tok) (cl : Value) (cld : Option Addr) (csl : Array (Option Value)),
    K.lookup fI = some ⟨oc, od, .func (ksFn "__init__" q (iA f p1 p2) (iB f m j a1 a2 a3 a4 a5 a6 q1 q2 q3 q4) (iS f) .none .none doc pm an (.ref cda) ct cc), osl⟩ ∧ codeIn K (.ref cda) q = true ∧
    K.lookup cda = some ⟨ccl, cdd, .fields vs, ccs⟩ ∧ vs[2]? = some (.str file tf) ∧ ((prog.main.file : Str) == file) = true ∧ K.lookup cc = some ⟨cl, cld, .cell (some (.ref C)), csl⟩ ∧
    (∀ (s : Shared) (x v : Value), BindsTo s (ksFn "__init__" q (iA f p1 p2) (iB f m j a1 a2 a3 a4 a5 a6 q1 q2 q3 q4) (iS f) .none .none doc pm an (.ref cda) ct cc) ⟨[x, v], []⟩ [("self", x), (f, v)]) ∧
    (∀ env : Env, ∃ pl : Sem Bool, eval (.Call (.Attribute (.Call (.Name "super" a1) [] [] a2) "__init__" a3) [.Constant (.str m) j a4] [] a5) env = (do
      let ov ← attributeBase (.Call (.Name "super" a1) [] [] a2) "__init__" env (eval (.Call (.Name "super" a1) [] [] a2) env)
      standAt a3.atName
      let (f, first) ← holding [ov] (getMethod ov "__init__" pl)
      callWith a5 f first (backTo a5 (starEach [.Constant (.str m) j a4] env)) []))
theorem one_size (v : Value) : [v].length ≤ sizeLine := by
  rw [sizeLine_eq]
  exact (by decide : 1 ≤ 16777216)
/-- what __init__ leaves of a fresh exception at x -/
structure InitEnd (h h' : Heap) (x C dx t1 : Addr) (f : Str) (v : Value) : Prop where
  keep : ∀ b o, b ≠ x → h.get? b = some o → h'.get? b = some o
  obj : h'.get? x = some { cls := .ref C, dict := some dx, data := .fields #[.ref t1, .none, .none, .none, .bool false, .none] }
  dbig : h.objs.size ≤ dx
  dne : dx ≠ x
  ns : h'.Ns1 dx (fun y => if y = f then some v else none)
/-- a made error -/
structure OwnMade (h h' : Heap) (e C d : Addr) (f : Str) (v : Value) : Prop where
  keep : ∀ b o, h.get? b = some o → h'.get? b = some o
  new : h.objs.size ≤ e
  obj : ∃ t1 : Addr, h'.get? e = some { cls := .ref C, dict := some d, data := .fields #[.ref t1, .none, .none, .none, .bool false, .none] }
  dbig : h.objs.size ≤ d
  dne : d ≠ e
  ns : h'.Ns1 d (fun y => if y = f then some v else none)
section
variable {prog : Program} {w : World} {A : Around} {E : Value → Shared → Prop} {h : Heap} {g : Array GenState} {d : Drawn} {t : Nat} {os : OsState}
variable {nm q : Str} {C N : Addr} {bs bm : List Value} {hdct : Bool} {sn : List Str} {sub : List Value} {ab : Bool} {col : Option Bool} {dd : Option Addr} {k0 k1 k2 k3 k5 : Option Value}
/-- ValueError.__init__, bound to the error at e, called -/
theorem call_mw {u e t0 : Addr} {rest : List Value} {Q : Value → Shared → Prop}
    (hC : h.get? C = some (excClassObj nm q C N bs bm hdct sn sub ab col dd k0 k1 k2 k3 k5 "ValueError.__new__")) (he : h.get? e = some (excO C t0)) (hu : h.get? u = some (kxs_mw "ValueError.__init__" e)) (hrest : rest.length ≤ sizeLine)
    (hq : ∀ h' t1, (∀ b o, b ≠ e → h.get? b = some o → h'.get? b = some o) → h'.get? e = some (excO C t1) → Q .none ⟨h', g, d, t, os⟩) :
    wpAny (model prog w) A (call (.ref u) rest) Q E ⟨h, g, d, t, os⟩ := by
  refine wpAny_call (codeAny_of_tree ?_)
  show wpAny _ A.in1 (callAny (.ref u) ⟨rest, []⟩) _ _ _
  simp only [callAny]
  refine wpAny_bind (wpAny_load hu ?_)
  simp only [kxs_mw, show (Value.type "method-wrapper" == Value.type "method" || Value.type "method-wrapper" == Value.type "builtin_function_or_method" || Value.type "method-wrapper" == Value.type "method-wrapper") = true by decide, if_true]
  refine KFB.if_so (by decide) ?_
  refine wpAny_bind (check_bound_init F.excBase_ValueError.toExcCallFacts hC he rfl ?_)
  refine wpAny_bind (wpAny_pure (wpAny_pure ?_))
  refine ⟨plainId_quiet F.excBase_ValueError.init.plain _, codeAny_builtin F.excBase_ValueError.initEntry ?_⟩
  exact exc_init_tree (cls := .ref C) (t0 := t0) (dv := none) (c2 := .none) (c3 := .none) (b4 := .bool false) he hrest fun h' k e' _ => hq h' _ k e'
end
section
variable {prog : Program} {w : World} {A : Around} {E : Value → Shared → Prop} {R : Result → Shared → Prop} {s : Shared} {K : Frag} {mg mb : Str → Option Value} {C fI : Addr} {cn f : Str}
theorem err_init (T : ErrTxt prog K mg cn f C fI) {x t0 : Addr} {v : Value} (X : K.In s.heap) (hg : s.heap.Ns mainGlobals mg) (hb : s.heap.Ns builtinsNs mb) (hbb : ∀ x : Str, x ≠ "__name__" → mb x = bootBuiltins x) (hlim : s.heap.NoLimit) (hx : s.heap.get? x = some (excO C t0)) (hnx : K.lookup x = none) (hroom : A.depth < recursionLimit)
    (hq : ∀ h' tk dx t1, InitEnd s.heap h' x C dx t1 f v → R (.ok (.ret .none)) { s with heap := h', toks := tk }) :
    codeAny (model prog w) A (.call (.ref fI) ⟨[.ref x, v], []⟩) R s := by
  obtain ⟨oc, od, doc, pm, an, cda, ct, osl, p1, p2, m, j, a1, a2, a3, a4, a5, a6, q1, q2, q3, q4, cc, q, ccl, cdd, vs, ccs, file, tf, cl, cld, csl, ho, hcd, hcode, hvs, hfile, hcell, hbind, hev⟩ := T.fn
  obtain ⟨nm, qq, N, bs, bm, sn, sub, ab, col, dd, k0, k1, k2, k3, k5, hC, hbm, hal⟩ := T.cls
  have hcl : clsIn K C = some { name := nm, bases := bs, mro := .ref C :: bm, ns := N, qualname := qq, hasDict := true, slotNames := sn, subclasses := sub, abstract := ab, collection := col, hasDel := false } := by unfold clsIn; rw [hC] <;> rfl
  refine ks_codeAny_call_defAt (fd := ksFn "__init__" q (iA f p1 p2) (iB f m j a1 a2 a3 a4 a5 a6 q1 q2 q3 q4) (iS f) .none .none doc pm an (.ref cda) ct cc) (body := iB f m j a1 a2 a3 a4 a5 a6 q1 q2 q3 q4) (binds := [("self", .ref x), (f, v)])
    hroom (X _ _ ho) rfl hlim (codeRec_of X hcd) rfl (hbind s (.ref x) v) ?_ ?_ (fun h₁ hns k => ?_)
  · intro y hy
    have : y ∈ [(("self" : Str), NameKind.local), (f, NameKind.local), (("__class__" : Str), NameKind.free), (("super" : Str), NameKind.globalImplicit)] := hy
    simp only [List.mem_cons, List.not_mem_nil, or_false] at this
    rcases this with rfl | rfl | rfl | rfl <;> exact fun z => NameKind.noConfusion z
  · intro y hy
    have hf : (f == ("self" : Str)) = false := by simpa using T.fs
    rcases List.mem_cons.mp hy with rfl | hy
    · rfl
    · have : y = (f, v) := by simpa using hy
      subst this
      show List.lookup f [(("self" : Str), NameKind.local), (f, NameKind.local), (("__class__" : Str), NameKind.free), (("super" : Str), NameKind.globalImplicit)] = some .local
      simp [List.lookup, hf]
  · have hfb : (("self" : Str) == f) = false := by
      have := T.fs
      simpa using fun z : ("self" : Str) = f => this z.symm
    have hm1 : ([(("self" : Str), Value.ref x), (f, v)] : List (Str × Value)).reverse.lookup f = some v := by
      show List.lookup f [(f, v), (("self" : Str), Value.ref x)] = some v
      simp [List.lookup]
    have hm2 : ([(("self" : Str), Value.ref x), (f, v)] : List (Str × Value)).reverse.lookup ("self" : Str) = some (Value.ref x) := by
      show List.lookup ("self" : Str) [(f, v), (("self" : Str), Value.ref x)] = some (Value.ref x)
      simp [List.lookup, hfb]
    have hfb' : (f == ("self" : Str)) = false := by simpa using T.fs
    have hkf : (iS f).names.lookup f = some .local := by
      show List.lookup f [(("self" : Str), NameKind.local), (f, NameKind.local), (("__class__" : Str), NameKind.free), (("super" : Str), NameKind.globalImplicit)] = some .local
      simp [List.lookup, hfb']
    have hks : (iS f).names.lookup ("super" : Str) = some .globalImplicit := by
      have h1 : (("super" : Str) == f) = false := by simpa using fun z : ("super" : Str) = f => T.fu z.symm
      have h2 : (("super" : Str) == ("self" : Str)) = false := by decide +kernel
      have h3 : (("super" : Str) == ("__class__" : Str)) = false := by decide +kernel
      show List.lookup ("super" : Str) [(("self" : Str), NameKind.local), (f, NameKind.local), (("__class__" : Str), NameKind.free), (("super" : Str), NameKind.globalImplicit)] = some .globalImplicit
      simp [List.lookup, h1, h2, h3]
    have hkc : (iS f).names.lookup ("__class__" : Str) = some .free := by
      have h1 : (("__class__" : Str) == f) = false := by simpa using fun z : ("__class__" : Str) = f => T.fc z.symm
      have h2 : (("__class__" : Str) == ("self" : Str)) = false := by decide +kernel
      show List.lookup ("__class__" : Str) [(("self" : Str), NameKind.local), (f, NameKind.local), (("__class__" : Str), NameKind.free), (("super" : Str), NameKind.globalImplicit)] = some .free
      simp [List.lookup, h1, h2]
    have hxL : s.heap.objs.size ≠ x := Nat.ne_of_gt (Heap.lt_size hx)
    have X₁ : K.In h₁ := X.keeps k
    have hx₁ := k _ _ hx
    have hD1 : h₁.get? C = some _ := X₁ _ _ hC
    show _root_.PySem.wpAt (model prog w) _ (.func (iB f m j a1 a2 a3 a4 a5 a6 q1 q2 q3 q4) (ksEnv q (iS f) s.heap.objs.size fI (.ref cda) cc)) (execs (iB f m j a1 a2 a3 a4 a5 a6 q1 q2 q3 q4) (ksEnv q (iS f) s.heap.objs.size fI (.ref cda) cc)) _ _ _
    obtain ⟨pl, hpl⟩ := hev (ksEnv q (iS f) s.heap.objs.size fI (.ref cda) cc)
    refine ks_wpAt_execs_cons (ks_wpAt_Expr_any (ks_wpAt_MethodCall (he := hpl) (ks_wpAt_super_base (env := ksEnv q (iS f) s.heap.objs.size fI (.ref cda) cc) hks hkc (by decide) rfl (X₁ _ _ ho) rfl (ar := { arg := "self", annotation := none, pos := p1 }) rfl rfl (X₁ _ _ hcode) rfl hvs hfile T.htop ?_)))
    refine ks_loadName_global rfl hks (loadGlobal_builtin (env := ksEnv q (iS f) s.heap.objs.size fI (.ref cda) cc) (hg.keeps k) T.mS (hb.keeps k) ((hbb _ (by decide +kernel)).trans (by decide +kernel)) ⟨rfl, ?_⟩)
    refine wpAny_loadName_free rfl hkc rfl ⟨_, X₁ _ _ hcell, rfl⟩ ?_
    refine wpAny_loadName_local rfl rfl hns hm2 ?_
    refine ks_wpAny_isType_cls hD1 rfl ⟨rfl, ?_⟩
    refine ks_wpAny_call_super hD1 rfl hx₁ rfl (fun c e => nomatch e) (looks_mroIn X₁ T.miC) (fun h₂ e₂ k₂ => ?_)
    have X₂ : K.In h₂ := X₁.keeps k₂
    have hx₂ := k₂ _ _ hx₁
    have I₂ : InstAt h₂ x (excO C t0) C none := ⟨hx₂, rfl, rfl, trivial⟩
    refine kxs_getMethod kxs_ValueError e₂ (looks_opaque X₂ T.op) (l₀ := .ref C :: bm) (fun A Q E s k q => wpAny_bind ((looks_clsIn X₂ hcl) A _ E s k (wpAny_pure q))) (by simp [List.dropWhile_cons]) X₂ hal (I₂.type.andThen (looks_subIn X₂ T.veC)) (ks_ne X₂ I₂ hcl) (by decide) ?_
    have k₃ : ∀ b o, h₂.get? b = some o → (h₂.push (kxs_mw "ValueError.__init__" x)).get? b = some o := fun b o e => Heap.get?_push_of_some _ e
    have hu₃ : (h₂.push (kxs_mw "ValueError.__init__" x)).get? h₂.objs.size = some (kxs_mw "ValueError.__init__" x) := Heap.get?_push_at rfl rfl
    refine kxs_callWith (i := "ValueError.__init__") (x := x) rfl ?_
    refine evalArgs_plain ?_
    show wpAny _ _ (spliced ((false, eval (.Constant (.str m) j a4) (ksEnv q (iS f) s.heap.objs.size fI (.ref cda) cc)) :: backTo a5 (starEach [] (ksEnv q (iS f) s.heap.objs.size fI (.ref cda) cc)))) _ _ _
    refine Calls.spliced_cons (Calls.Constant_str ?_)
    refine Calls.spliced_nil ⟨hu₃, ?_⟩
    have hx₃ := k₃ _ _ hx₂
    have hC₃ := k₃ _ _ (X₂ _ _ hC)
    refine call_mw hC₃ hx₃ hu₃ (one_size _) (fun h₄ t1 k₄ hx₄ => ?_)
    have k04 : ∀ b o, b ≠ x → h₁.get? b = some o → h₄.get? b = some o := fun b o hb e => k₄ b o hb (k₃ b o (k₂ b o e))
    have X₄ : K.In h₄ := fun b o e => k04 b o (fun z => by rw [z, hnx] at e; cases e) (X₁ b o e)
    obtain ⟨oL, es, ep, hL, hLr⟩ := hns
    have hns₄ : h₄.Ns s.heap.objs.size (fun y => ([(("self" : Str), Value.ref x), (f, v)] : List (Str × Value)).reverse.lookup y) := ⟨oL, es, ep, k04 _ _ hxL hL, hLr⟩
    show _root_.PySem.wpAt (model prog w) _ _ (execs _ _) _ _ _
    refine ks_wpAt_execs_cons (ks_wpAt_Assign_Attr ?_)
    refine wpAt_of_wpAny ?_
    refine wpAny_Name (wpAny_loadName_local (env := ksEnv q (iS f) s.heap.objs.size fI (.ref cda) cc) rfl hkf hns₄ hm1 ?_) T.fg
    refine wpAny_Name (wpAny_loadName_local (env := ksEnv q (iS f) s.heap.objs.size fI (.ref cda) cc) rfl rfl hns₄ hm2 ?_) (by decide)
    refine set_plain X₄ (ox := excO C t1) (od := none) ⟨hx₄, rfl, rfl, trivial⟩ T.sa ?_
    refine exc_osa X₄ hx₄ hcl (show refsVE (.ref C :: bm) = true from hbm) rfl T.noN (fun h₅ tk₅ dx k₅ dn dne hx₅ hn₅ => ?_)
    show _root_.PySem.wpAt (model prog w) _ _ (execs [] _) _ _ _
    have z : s.heap.objs.size < h₄.objs.size := hns₄.lt
    exact wpAt_of_wpAny (wpAny_execs_nil (hq h₅ tk₅ dx t1 ⟨fun b o hb e => k₅ b o hb (k04 b o hb (k b o e)), hx₅, Nat.le_of_lt (Nat.lt_of_lt_of_le z dn), dne, hn₅⟩))
theorem err_made (T : ErrTxt prog K mg cn f C fI) {v : Value} (X : K.In s.heap) (hg : s.heap.Ns mainGlobals mg) (hb : s.heap.Ns builtinsNs mb) (hbb : ∀ x : Str, x ≠ "__name__" → mb x = bootBuiltins x) (hlim : s.heap.NoLimit) (hroom : A.depth + 1 < recursionLimit)
    (hq : ∀ h' tk e d, OwnMade s.heap h' e C d f v → R (.ok (.ret (.ref e))) { s with heap := h', toks := tk }) :
    codeAny (model prog w) A (.call (.ref C) ⟨[v], []⟩) R s := by
  obtain ⟨nm, q, N, bs, bm, sn, sub, ab, col, dd, k0, k1, k2, k3, k5, hC, hbm, hal⟩ := T.cls
  obtain ⟨hp, g, dr, tk, os⟩ := s
  have k : ∀ b o, hp.get? b = some o → ((hp.push (kdv_tup [v])).push (excO C hp.objs.size)).get? b = some o := fun b o e => Heap.get?_push_of_some _ (Heap.get?_push_of_some _ e)
  have hget : ((hp.push (kdv_tup [v])).push (excO C hp.objs.size)).get? (hp.objs.size + 1) = some (excO C hp.objs.size) := by heap_get
  have hnx : K.lookup (hp.objs.size + 1) = none := by
    cases e : K.lookup (hp.objs.size + 1) with
    | none => rfl
    | some o =>
      have z : hp.get? (hp.objs.size + 1) = some o := X _ _ e
      exact absurd (Nat.lt_of_succ_lt (Heap.lt_size z)) (Nat.lt_irrefl _)
  refine call_own F.excBase_ValueError (fun X => refsVE_contains X bm hbm) (X _ _ hC) (looks_findIn X T.iC) (fun self => bind_fn X self T.tC) (one_size v) ?_
  refine err_init (s := ⟨(hp.push (kdv_tup [v])).push (excO C hp.objs.size), g, dr, tk, os⟩) T (X.keeps k) (hg.keeps k) (hb.keeps k) hbb (hlim.keeps k) hget hnx ?_ fun h' tk' dx t1 ⟨k', hx, dn, dne, hns⟩ => ?_
  · show A.depth + 1 < recursionLimit
    exact hroom
  · have old : ∀ b o, hp.get? b = some o → h'.get? b = some o := fun b o e => k' b o (Nat.ne_of_lt (Nat.lt_succ_of_lt (Heap.lt_size e))) (k b o e)
    have z : hp.objs.size + 1 + 1 ≤ dx := by
      first
        | (simpa only [Heap.size_push] using dn)
        | exact dn
        | (have q := dn; rw [Heap.size_push, Heap.size_push] at q; exact q)
    exact ⟨rfl, hq h' tk' (hp.objs.size + 1) dx ⟨old, Nat.le_succ _, ⟨t1, hx⟩, Nat.le_trans (Nat.le_trans (Nat.le_succ _) (Nat.le_succ _)) z, dne, hns⟩⟩
end
end ErrX
end PySem
namespace G
open PySem PySem.Spec PyProof.Rows L2
theorem relO_one {f : Str} {v : V} {v' : Value} (r : RelV v v') (y : Str) : RelO (List.lookup y [(f, v)]) (if y = f then some v' else none) := by
  by_cases hw : y = f
  · subst hw
    rw [if_pos rfl]
    have q : List.lookup y [(y, v)] = some v := by simp [List.lookup]
    rw [q]
    exact r
  · rw [if_neg hw]
    have qw : (y == f) = false := by simpa using hw
    have q2 : List.lookup y [(f, v)] = none := by simp [List.lookup, qw]
    rw [q2]
    trivial
section
variable {X : Cx} {C fI : Addr} {cn f : Str}
/-- cn(e) -/
def mkE (C : Addr) (f : Str) (vs : List V) (H : Hp) (Q : XK) : Prop := ∃ v, vs = [v] ∧ ∀ d, H d = none → Q (.ref C) (some d) (upd H d (.xd [(f, v)]))
def tMkE (C : Addr) (f : Str) (ta : TA) : L2.St → Hp → XK → Prop := fun σ H Q => ta σ H fun vs H1 => mkE C f vs H1 Q
theorem pmk_err {a : Expr} {ta : TA} {p pos : Pos} {k : Nat} (T : PySem.ErrX.ErrTxt X.prog X.K X.mg cn f C fI) (hr : Room k X.A) (ha : PA X [a] ta) (hg : Gl X cn)
    (hdb : (cn == ("__debug__" : Str)) = false := by decide) (he : starEach (a :: []) X.env = (false, eval a X.env) :: starEach [] X.env := by rfl) (hpl : (backTo pos (starEach [] X.env)).any (·.1) = false := by rfl) :
    PMk X (.Call (.Name cn p) [a] [] pos) (tMkE C f ta) := by
  intro pins s σ H Q I h
  refine wpAny_Call_Name_kw (ld_glob I hg T.gC ?_ hdb)
  refine PySem.W.callWith_K (h₀ := X.base) I.ok.mod.kin T.kC (thn (ha.run pos pins s σ H _ I h) fun us s1 hh => ?_) he hpl
  obtain ⟨vs, H1, I1, r1, v, ev, q1⟩ := hh
  subst ev
  refine ⟨I1.kIn, ?_⟩
  cases r1 with
  | cons rv rn =>
    rename_i v' us'
    cases rn
    show wpAny _ _ (call (.ref C) [v']) _ _ _
    have hlim := I1.nolimit
    obtain ⟨mb, hmb, hbb⟩ := I1.mod.blt
    have hgl : s1.heap.Ns mainGlobals X.mg := I1.mod.glob.keeps I1.bk
    have hbl : s1.heap.Ns builtinsNs mb := hmb.keeps I1.bk
    obtain ⟨hp, g, dr, tk, os⟩ := s1
    refine wpAny_call (PySem.ErrX.err_made T I1.kIn hgl hbl hbb hlim (by have := hr.dp; omega) fun h' tk' e d M => ?_)
    show MkP X pins σ Q (.ref e) ⟨h', g, dr, tk', os⟩
    obtain ⟨t1, hoe⟩ := M.obj
    have hns := M.ns
    obtain ⟨G', g1, g2⟩ := restrict h' fun b => decide (b ≠ e)
    have gk : ∀ b, b ≠ e → G'.get? b = h'.get? b := fun b hb => g1 b (decide_eq_true hb)
    have ge : G'.get? e = none := g2 e (by simp)
    have old : ∀ b o, hp.get? b = some o → G'.get? b = some o := fun b o q => (gk b (Nat.ne_of_lt (Nat.lt_of_lt_of_le (Heap.lt_size q) M.new))).trans (M.keep b o q)
    have ob : ObjOk X.prog X.w (upd H1 d (.xd [(f, v)])) G' d (.xd [(f, v)]) :=
      ⟨_, hns.at (fun o q => (gk d M.dne).trans q), fun y => relO_one rv y⟩
    have J : Inv X pins σ (upd H1 d (.xd [(f, v)])) ⟨G', g, dr, tk', os⟩ := I1.laid (t' := tk') old M.dbig ob
    refine ⟨e, _, _, ⟨G', g, dr, tk', os⟩, _, .ref C, some d, rfl, J, fun b o q => ?_, ge, hoe, ⟨rfl, rfl⟩, rfl, rfl, ?_, rfl, I1.bare, raises_own T.exC T.tyC, q1 d (I1.hok.fresh M.dbig)⟩
    · by_cases hb : b = e
      · have q' : G'.get? b = some o := q
        rw [hb, ge] at q'; cases q'
      · exact (gk b hb).symm.trans q
    · rw [upd_ne (Ne.symm M.dne)]
      exact I1.hok.fresh M.new
/-- raise cn(e) -/
def tRaiseE (C : Addr) (f : Str) (W : WX) (ta : TA) : TS := fun _ σ H => ta σ H fun vs H1 => mkE C f vs H1 fun cls d H' => W cls d σ H'
theorem ps_raiseE {a : Expr} {ta : TA} {W : WX} {p pos pos2 : Pos} {k : Nat} (hc : X.calm = true) (T : PySem.ErrX.ErrTxt X.prog X.K X.mg cn f C fI) (hr : Room k X.A) (tk : Takes X W) (ha : PA X [a] ta) (hg : Gl X cn)
    (hdb : (cn == ("__debug__" : Str)) = false := by decide) (he : starEach (a :: []) X.env = (false, eval a X.env) :: starEach [] X.env := by rfl) (hpl : (backTo pos (starEach [] X.env)).any (·.1) = false := by rfl) :
    PS X (.Raise (some (.Call (.Name cn p) [a] [] pos)) none pos2) (tRaiseE C f W ta) := ps_raise hc tk (pmk_err T hr ha hg hdb he hpl)
/-- e.f, e the exception that the suite holds (at a; its class cls, its dict d) -/
def tGetE (C : Addr) (f : Str) (a : Addr) (cls : Value) (d : Option Addr) (te : TE) : TE := fun σ H Q => te σ H fun x H1 => x = .ref a ∧ cls = .ref C ∧ ∃ (dd : Addr) (v : V), d = some dd ∧ H1 dd = some (.xd [(f, v)]) ∧ Q v H1
theorem pe_getE {a : Addr} {oe : Obj} {cls : Value} {d : Option Addr} {pn : List (Addr × Obj)} {e : Expr} {te : TE} {pos : Pos} (T : PySem.ErrX.ErrTxt X.prog X.K X.mg cn f C fI) (hz : Zc cls d oe) (hf : ∃ vs, oe.data = .fields vs) (he : PE (X.suite a ((a, oe) :: pn)) e te)
    (hb : attributeBase e f X.env (eval e X.env) = eval e X.env := by rfl) :
    PE (X.suite a ((a, oe) :: pn)) (.Attribute e f pos) (tGetE C f a cls d te) := by
  refine ⟨fun pins s σ H Q I h => ?_⟩
  refine attr_of hb (thn (he.run pins s σ H _ I h) fun u s1 hh => ?_)
  obtain ⟨x, H1, I1, rx, ex, ec, dd, v, ed, ea, q⟩ := hh
  subst ex
  obtain rfl : u = Value.ref a := rx
  subst ec
  subst ed
  obtain ⟨ha, _⟩ := I1.pin (a, oe) (List.mem_append_left _ List.mem_cons_self)
  obtain ⟨vs, hd⟩ := hf
  have hx : ObjOk X.prog X.w H1 s1.heap dd (.xd [(f, v)]) := I1.hok dd _ ea
  obtain ⟨mA, hns, hr⟩ := hx
  obtain ⟨od, ho, hl⟩ := lookIn_ns hns
  have l : List.lookup f [(f, v)] = some v := by simp [List.lookup]
  obtain ⟨u, hu, ru⟩ := RelO.some_of (v := v) (o := mA f) (by rw [← l]; exact hr f)
  have J : PySem.W.InstAt s1.heap a oe C (some od) := ⟨ha, hz.1, by unfold PySem.W.notCls; rw [hd] <;> rfl, by rw [hz.2]; exact ho⟩
  exact HandSPX.exc_get I1.kIn J T.ga T.gg T.exC (PySem.W.findObj_own T.hdC T.noN rfl (by rw [hl, hu])) (handed_of ru) ⟨v, H1, I1.tok _, ru, q⟩
end
end G

set_option Elab.async false
set_option linter.all false
set_option maxRecDepth 100000
set_option maxHeartbeats 3900000
/-! try, with except clauses of both kinds (with a name, without one), clause by clause: `Deals` is what a list of clauses makes of an exception that has come down at this frame -/
namespace G
open PySem Spec PyProof.Rows L2
abbrev SuiteT := Addr → Value → Option Addr → TS
/-- the name of the clause goes at every end of its suite but a return -/
def endsAs (D : Ends) (i : Nat) : Ends where
  nx σ H := D.nx (σ.set i none) H
  rt := D.rt
  bk σ H := D.bk (σ.set i none) H
  ct σ H := D.ct (σ.set i none) H
/-- the exception a has come down: `sI` is the state before it, `s` the one with its objects, `B` what stayed -/
structure Caught (X : Cx) (pins : List (Addr × Obj)) (σ : L2.St) (H : Hp) (cls : Value) (d : Option Addr) (a : Addr) (B : Heap) (sI s : Shared) : Prop where
  was : Inv X pins σ H sI
  stay : ∀ b o, sI.heap.get? b = some o → b ∉ frs X.stack → B.get? b = some o
  rise : sI.heap.UpToSlots s.heap
  down : HandSPX.FlyingZ B (X.env :: X.outer) a (Zc cls d) s.heap
  free : H a = none
  same : s.os = sI.os
  calm : AllBare s.gens
section
variable {X : Cx} {pins : List (Addr × Obj)} {σ : L2.St} {H : Hp} {cls : Value} {d : Option Addr} {a : Addr} {B : Heap} {sI s : Shared} {D : Ends} {W : WX}
theorem Caught.here (c : Caught X pins σ H cls d a B sI s) : Inv X pins σ H s := c.was.landed c.stay c.down.1 c.rise c.same c.calm
theorem Caught.to (c : Caught X pins σ H cls d a B sI s) {h : Heap} (f : HandSPX.FlyingZ B (X.env :: X.outer) a (Zc cls d) h) (u : s.heap.UpToSlots h) : Caught X pins σ H cls d a B sI { s with heap := h } where
  was := c.was
  stay := c.stay
  rise := c.rise.trans u
  down := f
  free := c.free
  same := c.same
  calm := c.calm
theorem Caught.away (c : Caught X pins σ H cls d a B sI s) : a ∉ frs (X.env :: X.outer) := by
  intro m
  obtain ⟨o, vs, e, _, k⟩ := c.down.there
  obtain ⟨_, o2, e2, no⟩ := c.down.2.2.1.mem m
  exact no vs (by rw [e] at e2; cases e2; exact k)
/-- the state of the suite, with the exception pinned -/
theorem Caught.inner (hf : X.env.frame = some X.env.locals) (c : Caught X pins σ H cls d a B sI s) :
    ∃ oe vs, Zc cls d oe ∧ oe.data = .fields vs ∧ s.heap.get? a = some oe ∧ Inv (X.suite a ((a, oe) :: (X.pn ++ pins))) [] σ H s := by
  obtain ⟨o, vs, e, z, k⟩ := c.down.there
  have far := c.away
  refine ⟨o, vs, z, k, e, c.here.suite e k c.free ?_ ?_⟩
  · intro q
    apply far
    rw [frs, List.filterMap_cons, hf, q]
    exact List.mem_cons_self
  · intro q
    apply far
    rw [frs, List.filterMap_cons, hf]
    exact List.mem_cons_of_mem _ q
/-- what a list of clauses does -/
def Deals (X : Cx) (pins : List (Addr × Obj)) (D : Ends) (hds : List ExceptHandler) (W : WX) : Prop :=
  ∀ σ H cls d a B sI s, Caught X pins σ H cls d a B sI s → W cls d σ H → wpAny (model X.prog X.w) X.A (handleBy (.ref a) X.env hds) (SP X pins D) X.xe s
/-- no clause is left: it goes on -/
theorem deals_nil (hs : X.stack = X.env :: X.outer) (hf : X.env.frame = some X.env.locals) (tk : Takes X W) : Deals X pins D [] W := by
  intro σ H cls d a B sI s c w
  have up : wpAny (model X.prog X.w) X.A (setFlight (.ref a) X.env.frame) (fun _ s' => wpAny (model X.prog X.w) X.A (throw (.ref a) : Sem Flow) (SP X pins D) X.xe s') X.xe s := by
    rw [hf]
    apply HandSPX.setFlight_upZ c.down
    intro h hold hup
    apply wpAny_throw
    apply tk
    have fly : Sky B X.stack a (Zc cls d) X.env.locals h := Or.inr (Or.inr (hs ▸ hold))
    exact ⟨a, B, sI, pins, σ, H, cls, d, rfl, c.was, c.stay, c.rise.trans hup, fly, c.free, c.same, c.calm, w⟩
  apply wpAny_handleBy_nil
  obtain ⟨_, _, _, o, vs, T, _, _, e, _, k, one, _⟩ := id c.down
  unfold PySem.passOn
  apply wpAny_bind
  apply wpAny_field e k one
  have nn : ¬ ((Value.ref T == Value.none) = true) := by simp
  rw [if_neg nn]
  first
    | exact wpAny_bind up
    | exact wpAny_bind (wpAny_pure (wpAny_bind up))
/-- the class of a clause is looked up, and asked -/
theorem Caught.ask (hf : X.env.frame = some X.env.locals) (c : Caught X pins σ H cls d a B sI s) {x : Str} {C : Value} {np : Pos} {b : Bool} (hc : Names X x C) (hb : PySem.W.exmOne X.K cls C = some b)
    {Q : Bool → Shared → Prop} {E E' : Value → Shared → Prop} (q : Q b s) :
    wpAny (model X.prog X.w) (X.A.mark (some (.ref a))) (eval (.Name x np) X.env) (fun v s' => wpAny (model X.prog X.w) (X.A.mark (some (.ref a))) (excMatches (.ref a) v) Q E' s') E s := by
  obtain ⟨o, vs, z, k, e, J⟩ := c.inner hf
  have kind : PySem.W.Looks (model X.prog X.w) s.heap (typeOf (.ref a)) cls := by
    intro A Q E s' keep q'
    apply wpAny_typeOf_ref (keep a o e)
    rw [z.1]
    exact q'
  have fits := (PySem.W.exm_one (M := model X.prog X.w) c.here.kIn kind hb).here (A := X.A.mark (some (.ref a))) (E := E') q
  obtain ⟨g, db, m | ⟨m, v, nn⟩⟩ := hc
  · exact ld_glob (X := X.suite a ((a, o) :: (X.pn ++ pins))) J g m fits db
  · exact ld_blt (X := X.suite a ((a, o) :: (X.pn ++ pins))) J g m v fits nn db
/-- a clause's suite, as the rules of suites have it -/
def SuiteOk (X : Cx) (body : List Stmt) (ts : SuiteT) : Prop :=
  ∀ (a : Addr) (oe : Obj) (cls : Value) (d : Option Addr) (pn : List (Addr × Obj)), Zc cls d oe → (∃ vs, oe.data = .fields vs) → PSs (X.suite a ((a, oe) :: pn)) body (ts a cls d)
/-- what a clause wishes: its class tells, then its suite, or the other clauses -/
def wOne (K : PySem.W.Frag) (C : Value) (yes no : WX) : WX := fun cls d σ H => ∃ b, PySem.W.exmOne K cls C = some b ∧ if b then yes cls d σ H else no cls d σ H
theorem deals_bare (hf : X.env.frame = some X.env.locals) {x : Str} {C : Value} {np p : Pos} {b₀ : Stmt} {body : List Stmt} {ts : SuiteT} {rest : List ExceptHandler} (hc : Names X x C) (hsu : SuiteOk X (b₀ :: body) ts)
    (hr : Deals X pins D rest W) : Deals X pins D (.ExceptHandler (some (.Name x np)) none (b₀ :: body) p :: rest) (wOne X.K C (fun cls d σ H => ∀ a, H a = none → ts a cls d D σ H) W) := by
  rintro σ H cls d a B sI s c ⟨b, hb, w⟩
  have ok := c.was.ok
  refine wpAny_handleBy_cons ?_ fun z => by cases z
  apply codeAny_handlers_test
  apply c.ask hf hc hb
  cases b
  · exact hr _ _ _ _ _ _ _ _ c w
  · apply codeAny_handlers_suite
    apply HandSPX.lands_againZ c.down
    intro h fly rise
    obtain ⟨o, vs, z, k, e, J⟩ := (c.to fly rise).inner hf
    have go := (hsu a o cls d (X.pn ++ pins) z ⟨vs, k⟩).run [] _ σ H D J (w a c.free)
    refine wpAny_mono go (fun f s' r => ?_) (fun _ _ z => False.elim z)
    rcases f with _ | _ | _ | v
    all_goals first
      | (obtain ⟨_, _, J, q⟩ := r
         exact ⟨_, _, J.unsuite ok, q⟩)
      | (obtain ⟨_, _, _, J, q⟩ := r
         exact ⟨_, _, _, J.unsuite ok, q⟩)
theorem deals_as (hf : X.env.frame = some X.env.locals) (hN : X.N.Nodup) {x n : Str} {i : Nat} {C : Value} {np p : Pos} {b₀ : Stmt} {body : List Stmt} {ts : SuiteT} {rest : List ExceptHandler}
    (hi : X.N[i]? = some n) (hl : X.env.kindOf n = some .local) (hc : Names X x C) (hsu : SuiteOk X (b₀ :: body) ts)
    (hr : Deals X pins D rest W) : Deals X pins D (.ExceptHandler (some (.Name x np)) (some n) (b₀ :: body) p :: rest)
      (wOne X.K C (fun cls d σ H => ∀ a, H a = none → ts a cls d (endsAs D i) (σ.set i (some (.ref a))) H) W) := by
  rintro σ H cls d a B sI s c ⟨b, hb, w⟩
  have ok := c.was.ok
  refine wpAny_handleBy_cons ?_ fun z => by cases z
  apply codeAny_handlers_test
  apply c.ask hf hc hb
  cases b
  · exact hr _ _ _ _ _ _ _ _ c w
  · apply codeAny_handlers_suite_as
    apply HandSPX.lands_againZ c.down
    intro h fly rise
    obtain ⟨o, vs, z, k, e, J⟩ := (c.to fly rise).inner hf
    refine store_ok (X := X.suite a _) (v := V.ref a) J hN hi (.inl hl) rfl ?_ (.inr hl)
    intro s1 J1
    have go := (hsu a o cls d (X.pn ++ pins) z ⟨vs, k⟩).run [] s1 _ H (endsAs D i) J1 (w a c.free)
    refine wpAny_mono go (fun f s' r => ?_) (fun _ _ z => False.elim z)
    rcases f with _ | _ | _ | v
    all_goals first
      | (obtain ⟨σ2, H2, J2, q⟩ := r
         exact gone_ok (J2.unsuite ok) hN hi hl fun _ J3 => ⟨_, _, J3, q⟩)
      | (obtain ⟨v2, σ2, H2, J2, rv, q⟩ := r
         exact gone_ok (J2.unsuite ok) hN hi hl fun _ J3 => ⟨_, _, _, J3, rv, q⟩)
end
section
variable {X : Cx} {body : List Stmt} {h₀ : ExceptHandler} {hds : List ExceptHandler} {pos : Pos} {tb : WX → TS} {W : Ends → WX}
/-- the whole: a body that may throw, and clauses that deal with it -/
theorem ps_tryD (hs : X.stack = X.env :: X.outer) (hf : X.env.frame = some X.env.locals)
    (hb : ∀ (V : WX) (pn : List (Addr × Obj)) (xe : Value → Shared → Prop), Takes (X.tr pn xe) V → PassesOwn (model X.prog X.w) X.A X.env xe → PSs (X.tr pn xe) body (tb V))
    (hh : ∀ pins D, Deals X pins D (h₀ :: hds) (W D)) : PS X (.Try body (h₀ :: hds) [] [] pos) (fun D σ H => tb (W D) D σ H) := by
  constructor
  intro pins s σ H D I h
  have ok := I.ok
  have fr : X.A.frames = some (X.env :: X.outer) := ok.frames.trans (congrArg some hs)
  apply wpAny_Try_except
  let Ebody : Value → Shared → Prop := fun e s₁ => wpAny (model X.prog X.w) X.A (noteFrame e X.env) (fun _ s₂ => wpAny (model X.prog X.w) X.A (setFlight e none)
    (fun _ s₃ => wpAny (model X.prog X.w) X.A (handleBy e X.env (h₀ :: hds)) (SP X pins D) X.xe s₃) X.xe s₂) X.xe s₁
  have takes : Takes (X.tr (X.pn ++ pins) Ebody) (W D) := by
    rintro u s' ⟨a, B, sI, _, σ', H', cls, d, rfl, J, stay, rise, fly, free, same, calm, w⟩
    have fly' : Sky B (X.env :: X.outer) a (Zc cls d) X.env.locals s'.heap := hs ▸ fly
    show wpAny (model X.prog X.w) X.A (noteFrame (.ref a) X.env) _ _ s'
    apply Sky.land Zc.steady fr hf fly'
    intro h down up
    exact hh pins D σ' H' cls d a B sI _ ⟨J.ofTry ok, stay, rise.trans up, down, free, same, calm⟩ w
  have run := (hb (W D) (X.pn ++ pins) Ebody takes PassesOwn.looking).run [] s σ H D (I.toTry Ebody) h
  refine wpAny_mono run (fun f s' r => ?_) (fun _ _ z => z)
  rcases f with _ | _ | _ | v
  all_goals first
    | (obtain ⟨_, _, J, q⟩ := r
       exact ⟨_, _, J.ofTry ok, q⟩)
    | (obtain ⟨_, _, _, J, q⟩ := r
       exact ⟨_, _, _, J.ofTry ok, q⟩)
    | (obtain ⟨_, _, J, q⟩ := r
       exact wpAny_execs_nil ⟨_, _, J.ofTry ok, q⟩)
end
end G

set_option Elab.async false
set_option linter.all false
set_option maxRecDepth 100000
set_option maxHeartbeats 3900000
/-! a lambda of one parameter as an argument: the callee is told of it over a base that is taken anew at the call, with all that is untracked and no frame; the lambda lies in that base -/
namespace G
open PySem Spec PyProof.Rows L2
/-- the base taken anew -/
def baseAt (X : Cx) (s : Shared) (H : Hp) : Heap := PySem.W.hideAll s.heap (trk s.heap H ++ frs X.stack)
section
variable {X : Cx} {pins : List (Addr × Obj)} {σ : L2.St} {H : Hp} {s : Shared} {b : Addr} {o : Obj}
theorem baseAt_get (e : s.heap.get? b = some o) (n : H b = none) (hb : b ∉ frs X.stack) : (baseAt X s H).get? b = some o := by
  apply PySem.W.hideAll_get _ e
  intro m
  rcases List.mem_append.mp m with m | m
  · have q : (H b).isSome = true := (List.mem_filter.mp m).2
    rw [n] at q
    cases q
  · exact hb m
theorem of_baseAt (e : (baseAt X s H).get? b = some o) : s.heap.get? b = some o ∧ H b = none := by
  have e1 := PySem.W.of_hideAll _ e
  refine ⟨e1, ?_⟩
  cases q : H b with
  | none => rfl
  | some u =>
    have m : b ∈ trk s.heap H ++ frs X.stack := List.mem_append_left _ (List.mem_filter.mpr ⟨List.mem_range.mpr (Heap.lt_size e1), by rw [q]; rfl⟩)
    rw [baseAt, PySem.W.hideAll_none _ m] at e
    cases e
theorem baseAt_ext (I : Inv X pins σ H s) (e : X.base.get? b = some o) : (baseAt X s H).get? b = some o := by
  obtain ⟨h1, h2⟩ := I.bs b o e
  refine baseAt_get h1 h2 fun m => ?_
  have z := (I.stack.mem m).1
  rw [e] at z
  cases z
theorem mod_up {K : PySem.W.Frag} {mg : Str → Option Value} {B B' : Heap} (m : Mod K mg B) (k : ∀ b o, B.get? b = some o → B'.get? b = some o) : Mod K mg B' := by
  obtain ⟨m1, m2, ⟨mb, m3, m4⟩, m5⟩ := m
  exact ⟨m1.keeps k, m2.keeps k, ⟨mb, m3.keeps k, m4⟩, m5.keeps k⟩
theorem env_at (I : Inv X pins σ H s) : Env0 X.prog X.w X.K X.mg (baseAt X s H) X.A X.stack s H where
  frames := I.ok.frames
  mod := mod_up I.ok.mod fun b o e => baseAt_ext I e
  bs := fun b o e => of_baseAt e
  bsz := Nat.le_of_eq (PySem.W.hideAll_size _ _)
  funs := funFrames_none I.stack fun L hL => PySem.W.hideAll_none _ (List.mem_append_right _ hL)
  frf := I.stkFree
  hok := I.hok
  bare := I.bare
end
/-- a def or lambda that lies in the base -/
structure InBase (P : Program) (w : World) (K : PySem.W.Frag) (mg : Str → Option Value) (base : Heap) (k : Nat) (f : Addr) (sp : Sp) : Prop where
  at_ : PySem.W.FnAt f base
  run : FnR P w K mg base (L2.CX P w) k f sp
section
variable {X : Cx} {k i : Nat} {f : Addr} {sp : Sp} {E : XK} {x : Str} {p pos : Pos} {e : Expr} {es : List Expr} {t : TA}
/-- x(e, ..), x a local that holds it -/
theorem pe_callIn (F : InBase X.prog X.w X.K X.mg X.base k f sp) (hr : Room k X.A) (hN : X.N[i]? = some x) (hv : Vis X.env.scope x) (hx : Passes (L2.CX X.prog X.w) X E) (ha : PA X (e :: es) t)
    (hdb : (x == ("__debug__" : Str)) = false := by decide) (hcd : (x == ("__classdict__" : Str)) = false := by decide)
    (he : starEach (e :: es) X.env = (false, eval e X.env) :: starEach es X.env := by rfl) (hpl : (backTo pos (starEach es X.env)).any (·.1) = false := by rfl) : PE X (.Call (.Name x p) (e :: es) [] pos) (tCallL i f sp [] E t) := by
  constructor
  rintro pins s σ H Q I ⟨hs, ht⟩
  have fnat : ∀ {s' : Shared} {H' : Hp}, Inv X pins σ H' s' → PySem.W.FnAt f s'.heap := by
    intro s' H' J
    obtain ⟨a, b, c, d, q⟩ := F.at_
    exact ⟨a, b, c, d, J.bk _ _ q⟩
  refine wpAny_Call_Name_kw (thn ((pe_var (pos := p) hN hv hdb hcd).run pins s σ H (fun v H1 => v = .ref f ∧ H1 = H) I ⟨.ref f, hs, rfl, rfl⟩) ?_)
  rintro u s1 ⟨v, H1, I1, r1, rfl, rfl⟩
  cases r1
  refine PySem.W.callWith_F (fnat I1) (thn (ha.run pos pins s1 σ _ _ I1 ht) ?_) he hpl
  rintro us s2 ⟨vs, H2, I2, r, q⟩
  rw [List.append_nil] at q
  exact ⟨fnat I2, wpAny_call (run_fnR (us := us) F.run hr hx I2 r q)⟩
end
/-! ### the lambda -/
/-- its names: the parameter, captured ones, globals -/
structure Lam1 (N : List Str) (sc scope : Scope) (p : Str) : Prop where
  kind : scope.kind = .function
  co : scope.isCoroutine = false
  gen : scope.isGenerator = false
  par : scope.names.lookup p = some .local
  own : ∀ y ∈ scope.names, (y.2 = .local → y.1 = p) ∧ y.2 ≠ .cell
  free : ∀ y ∈ scope.names, y.2 = .free → sc.names.lookup y.1 = some .cell ∨ sc.names.lookup y.1 = some .free
  new : p ∉ N
def lam1B (N : List Str) (sc scope : Scope) (p : Str) : Bool :=
  decide (scope.kind = .function) && !scope.isCoroutine && !scope.isGenerator && decide (scope.names.lookup p = some .local) && (scope.names.all fun y => (!decide (y.2 = .local) || decide (y.1 = p)) && !decide (y.2 = .cell))
    && (scope.names.all fun y => !decide (y.2 = .free) || (decide (sc.names.lookup y.1 = some .cell) || decide (sc.names.lookup y.1 = some .free))) && !N.contains p
theorem lam1_by {N : List Str} {sc scope : Scope} {p : Str} (h : lam1B N sc scope p = true) : Lam1 N sc scope p := by
  simp only [lam1B, Bool.and_eq_true, Bool.or_eq_true, Bool.not_eq_true', decide_eq_true_eq, decide_eq_false_iff_not, List.all_eq_true] at h
  obtain ⟨⟨⟨⟨⟨⟨h1, h2⟩, h3⟩, h4⟩, h5⟩, h6⟩, h7⟩ := h
  refine ⟨h1, h2, h3, h4, fun y hy => ⟨fun e => (h5 y hy).1.resolve_left fun z => z e, (h5 y hy).2⟩, fun y hy e => (h6 y hy).resolve_left fun z => z e, ?_⟩
  intro m
  rw [List.contains_iff_mem.mpr m] at h7
  cases h7
theorem Lam1.has {X : Cx} {scope : Scope} {p : Str} (L : Lam1 X.N X.env.scope scope p) (ok : X.Ok) : ∀ y ∈ scope.names, y.2 = .free → ∃ c, X.env.cells.lookup y.1 = some c :=
  fun y hy e => ok.has _ (L.free y hy e)
/-- the context of its body -/
def lamCx1 (X : Cx) (base : Heap) (A : Around) (outer : List Env) (s : Shared) (H : Hp) (E : XK) (scope : Scope) (p : Str) (f c : Addr) : Cx :=
  { LamX.lamCx X A outer s H E scope f c with N := X.N ++ [p], base := base }
/-- what the base holds of the captured names -/
structure Caps (X : Cx) (base : Heap) (σ : L2.St) : Prop where
  cell : ∀ y c, X.env.cells.lookup y = some c → ∃ v, base.IsCell c v
  val : ∀ (i : Nat) y v, X.N[i]? = some y → σ[i]? = some (some v) → (X.env.scope.names.lookup y = some .cell ∨ X.env.scope.names.lookup y = some .free) → ∃ u c, RelV v u ∧ X.env.cells.lookup y = some c ∧ base.IsCell c (some u)
  inj : ∀ x y c, X.env.cells.lookup x = some c → X.env.cells.lookup y = some c → x = y
  len : σ.length = X.N.length
theorem caps_at {X : Cx} {pins : List (Addr × Obj)} {σ : L2.St} {H : Hp} {s : Shared} (I : Inv X pins σ H s) (hfn : ∀ y, X.fn y = true) : Caps X (baseAt X s H) σ := by
  have up : ∀ {y c v}, X.env.cells.lookup y = some c → s.heap.IsCell c v → (baseAt X s H).IsCell c v := by
    rintro y c v hc ⟨o, ho, hd⟩
    refine ⟨o, baseAt_get ho (I.freeC y c hc) fun m => ?_, hd⟩
    rcases List.mem_cons.mp (I.stkSub c m) with e | e
    · exact I.cne y c hc e
    · obtain ⟨_, o', ho', _⟩ := I.ok.funs.mem e
      exact absurd (Nat.lt_of_lt_of_le (Heap.lt_size ho') (I.ok.cab y c (hfn y) hc)) (Nat.lt_irrefl _)
  refine ⟨fun y c hc => (I.cell y c hc).imp fun v h => up hc h, fun i y v h1 h2 h3 => ?_, I.ok.inj, I.len⟩
  obtain ⟨m, _, hl⟩ := I.loc
  obtain ⟨u, r, q⟩ := hl i y v h1 h2 (.inr h3)
  rcases q with ⟨q, _⟩ | ⟨_, c, hc, z⟩
  · have q : X.env.scope.names.lookup y = some .local := q
    rcases h3 with h3 | h3 <;> rw [q] at h3 <;> cases h3
  · exact ⟨u, c, r, hc, up hc z⟩
section
variable {X : Cx} {base : Heap} {σ : L2.St} {A : Around} {outer : List Env} {s : Shared} {H : Hp} {E : XK} {scope : Scope} {p : Str} {f c : Addr}
theorem clo_in {cells : List (Str × Addr)} {names : List (Str × NameKind)} {y : Str} {d : Addr} (hf : ∀ z ∈ names, z.2 = .free → ∃ a, cells.lookup z.1 = some a) (e : (cloFrom cells names []).lookup y = some d) : cells.lookup y = some d ∧ (y, NameKind.free) ∈ names := by
  rcases cloFrom_mem (PySem.mem_of_lookup e) with m | ⟨m, rfl⟩
  · cases m
  · obtain ⟨a, ha⟩ := hf _ m rfl
    have ha : cells.lookup y = some a := ha
    refine ⟨?_, m⟩
    rw [ha]
    rfl
theorem lam_inv {h₁ : Heap} {tk : Nat} {v : V} {u : Value} (C : Caps X base σ) (L : Lam1 X.N X.env.scope scope p) (hfree : ∀ y ∈ scope.names, y.2 = .free → ∃ a, X.env.cells.lookup y.1 = some a) (e0 : Env0 X.prog X.w X.K X.mg base A outer s H) (hd : A.handled = none)
    (hns : h₁.Ns s.heap.objs.size fun y => [(p, u)].reverse.lookup y) (kp : ∀ b o, s.heap.get? b = some o → h₁.get? b = some o) (r : RelV v u) :
    Inv (lamCx1 X base A outer s H E scope p f c) [] (σ ++ [some v]) H { s with heap := h₁, toks := tk } := by
  have cin := fun {y d} => clo_in (y := y) (d := d) hfree
  have bcell : ∀ {d w}, base.IsCell d w → h₁.IsCell d w ∧ H d = none := by
    rintro d w ⟨o, ho, hd⟩
    exact ⟨⟨o, kp _ _ (e0.bs d o ho).1, hd⟩, (e0.bs d o ho).2⟩
  have noex : ∀ b : Addr, b ∉ (lamCx1 X base A outer s H E scope p f c).ex := fun b z => nomatch (show b ∈ ([] : List Addr) from z)
  have ok : (lamCx1 X base A outer s H E scope p f c).Ok := by
    refine ⟨e0.mod, L.kind, rfl, rfl, Nat.le_refl _, ?inj, ?has, ?cab, fun _ => hd, Around.frames_deeper e0.frames, .inr ⟨rfl, rfl⟩, fun b z => absurd z (noex b), e0.bs, e0.bsz, fun b _ _ => noex b, fun b z => absurd z (noex b), e0.funs, e0.frf⟩
    case inj => exact fun y z d h1 h2 => C.inj y z d (cin h1).1 (cin h2).1
    case has =>
      intro y hy
      have hy : scope.names.lookup y = some .cell ∨ scope.names.lookup y = some .free := hy
      rcases hy with hy | hy
      · exact absurd rfl (L.own _ (PySem.mem_of_lookup hy)).2
      · exact mem_lookup (cloFrom_has (cells := X.env.cells) (acc := []) (PySem.mem_of_lookup hy))
    case cab => exact fun y d z _ => nomatch (show false = true from z)
  refine ⟨ok, rfl, e0.bare, Un.kept kp, ⟨_, hns, ?loc⟩, ?cell, e0.hok.fresh (Nat.le_refl _), ?freeC, fun q hq => absurd (show q ∈ ([] : List (Addr × Obj)) from hq) (by simp), e0.hok.kept kp, ?len⟩
  case cell =>
    intro y d e
    obtain ⟨w, hw⟩ := C.cell y d (cin e).1
    exact ⟨w, (bcell hw).1⟩
  case freeC =>
    intro y d e
    obtain ⟨w, hw⟩ := C.cell y d (cin e).1
    exact (bcell hw).2
  case len =>
    show (σ ++ [some v]).length = (X.N ++ [p]).length
    rw [List.length_append, List.length_append, C.len]
    rfl
  case loc =>
    intro i y x h1 h2 vis
    have h1 : (X.N ++ [p])[i]? = some y := h1
    have vis : Vis scope y := vis
    by_cases hi : i < X.N.length
    · rw [List.getElem?_append_left hi] at h1
      rw [List.getElem?_append_left (by rw [C.len]; exact hi)] at h2
      rcases vis with k | k | k
      · have ey : y = p := (L.own _ (PySem.mem_of_lookup k)).1 rfl
        exact absurd (List.mem_of_getElem? h1) (by rw [ey]; exact L.new)
      · exact absurd rfl (L.own _ (PySem.mem_of_lookup k)).2
      · obtain ⟨u', d, ru, hc, hw⟩ := C.val i y x h1 h2 (L.free _ (PySem.mem_of_lookup k) rfl)
        obtain ⟨d', hd'⟩ := mem_lookup (cloFrom_has (cells := X.env.cells) (acc := []) (PySem.mem_of_lookup k))
        have z := (cin hd').1
        rw [hc] at z
        cases z
        exact ⟨u', ru, .inr ⟨.inr k, d, hd', (bcell hw).1⟩⟩
    · have hj : i = X.N.length := by
        have z := List.getElem?_eq_some_iff.mp h1
        obtain ⟨z, _⟩ := z
        rw [List.length_append] at z
        have : ([p] : List Str).length = 1 := rfl
        omega
      subst hj
      have ey : y = p := by
        rw [List.getElem?_append_right (Nat.le_refl _)] at h1
        simpa using h1.symm
      have ex : x = v := by
        rw [← C.len, List.getElem?_append_right (Nat.le_refl _)] at h2
        simpa using h2.symm
      subst ey
      subst ex
      exact ⟨u, r, .inl ⟨L.par, by simp⟩⟩
/-- what a call of it asks -/
def spLam (c : Addr) (q : Str) (tb : XK → TE) (σ : L2.St) : Sp := fun vs H Q E => ∃ v, vs = [v] ∧ H c = some (LamX.CodeO c q) ∧ tb E (σ ++ [some v]) H Q
theorem lam_fn {k : Nat} {params : Arguments} {body : Expr} {pm ctv : Value} {tb : XK → TE} (C : Caps X base σ) (L : Lam1 X.N X.env.scope scope p) (hfree : ∀ y ∈ scope.names, y.2 = .free → ∃ a, X.env.cells.lookup y.1 = some a)
    (at_ : base.get? f = some (PySem.W.kla_obj "<lambda>" (X.env.qual ++ "<lambda>") params body scope (cloFrom X.env.cells scope.names []) pm c ctv))
    (hbind : ∀ u : Value, bindArgs (PySem.W.kla_fn "<lambda>" (X.env.qual ++ "<lambda>") params body scope (cloFrom X.env.cells scope.names []) pm (.ref c) ctv) ⟨[u], []⟩ = pure [(p, u)])
    (hbody : ∀ (A : Around) (outer : List Env) (s : Shared) (H : Hp) (E : XK), Room k (A.deeper (LamX.lamEnv X scope s.heap.objs.size f c)) → PE (lamCx1 X base A outer s H E scope p f c) body (tb E)) :
    InBase X.prog X.w X.K X.mg base (k + 1) f (spLam c (X.env.qual ++ "<lambda>") tb σ) := by
  refine ⟨⟨_, _, _, _, at_⟩, ?_⟩
  rintro A outer s H us vs Q E hr e0 rv ⟨v, rfl, hc, ht⟩
  obtain ⟨u, rfl, ru⟩ := vals1 rv
  obtain ⟨⟨oc, ws, t, hoc, hdc, hvc⟩, _, _⟩ := e0.hok c _ hc
  have lim : s.heap.NoLimit := e0.mod.nolimit.keeps fun b o e => (e0.bs b o e).1
  refine PySem.W.kla_callFunE hr.depth (e0.bs _ _ at_).1 rfl L.co L.gen rfl ⟨c, oc, ws, t, rfl, hoc, hdc, hvc⟩ ?_
  rw [hbind u]
  apply wpAny_pure
  refine wpAny_newFunctionEnv (fun y hy => (L.own y hy).2) ?_ (fun h₁ hns hsb => ⟨lim.fresh _ hsb, ?_⟩) L.kind
  · intro y hy
    have ey : y = (p, u) := by simpa using hy
    rw [ey]
    exact L.par
  · have kp : ∀ b o, s.heap.get? b = some o → h₁.get? b = some o := fun b o e => hsb.extBut b o (Nat.ne_of_lt (Heap.lt_size e)) (Heap.get?_push_of_some _ e)
    have J := lam_inv (E := E) (f := f) (c := c) (tk := s.toks + [(p, u)].length) C L hfree e0 hr.hd hns kp ru
    show codeAny _ _ (.expr body (LamX.lamEnv X scope s.heap.objs.size f c)) _ _
    apply PySem.W.kla_codeExpr
    refine wpAny_mono ((hbody A outer s H E (hr.deeper _)).run [] _ _ H Q J ht) ?_ fun _ _ z => z
    rintro w s' ⟨x, H', J', rx, q⟩
    exact ⟨x, H', J'.os, J'.bare, J'.base, J'.hok, rx, q⟩
end
/-! ### x(lambda p: body, e, ..) -/
def tLam1 (T : List (Addr × Str)) (q : Str) (tb : XK → TE) (spg : Addr → Sp → Sp) (E : XK) (t : TA) : TE := fun σ H Q =>
  LamX.Tabs T H ∧ ∀ (f c : Addr) (H1 : Hp), LamX.ExtN H H1 → LamX.Tabs T H1 → H1 c = some (LamX.CodeO c q) → t σ H1 fun vs H2 => spg f (spLam c q tb σ) (.ref f :: vs) H2 Q E
section
variable {X : Cx}
theorem pe_lam1 {T : List (Addr × Str)} {x p : Str} {g c₀ P : Addr} {k kg : Nat} {fd : FuncData} {psg : List Str} {spg : Addr → Sp → Sp} {CXg : CXT} {E : XK} {tb : XK → TE} {t : TA} {params : Arguments} {body : Expr} {scope : Scope} {es : List Expr} {p1 lpos pos : Pos}
    (hg : Gl X x) (hm : X.mg x = some (.ref g)) (hk : PySem.W.keepIn X.K (.ref g) = true) (hb : Binds X.K fd psg [])
    (hG : ∀ (B : Heap) (f : Addr) (sp : Sp), (∀ b o, X.base.get? b = some o → B.get? b = some o) → InBase X.prog X.w X.K X.mg B (k + 1) f sp → FnOk X.prog X.w X.K X.mg B CXg kg g fd psg (spg f sp))
    (hr : Room kg X.A) (hx : Passes CXg X E) (TB : LamX.TabB X.base X.mg c₀ P) (hcode : X.env.code = .ref c₀) (hmT : (P, X.env.qual ++ "<lambda>") ∈ T) (hu : ∀ z ∈ T, z.1 = P → z.2 = X.env.qual ++ "<lambda>")
    (L : Lam1 X.N X.env.scope scope p) (hdef : defaultsOf params X.env = ([], []))
    (hbind : ∀ (q : Str) (cl : List (Str × Addr)) (pm cv ctv u : Value), bindArgs (PySem.W.kla_fn "<lambda>" q params body scope cl pm cv ctv) ⟨[u], []⟩ = pure [(p, u)])
    (hbody : ∀ (B : Heap), (∀ b o, X.base.get? b = some o → B.get? b = some o) → ∀ (A : Around) (outer : List Env) (s : Shared) (H : Hp) (E : XK) (f c : Addr), Room k (A.deeper (LamX.lamEnv X scope s.heap.objs.size f c)) → PE (lamCx1 X B A outer s H E scope p f c) body (tb E))
    (ha : PA X es t) (hs : X.stack = X.env :: X.outer) (hf : X.env.frame = some X.env.locals) (hfn : ∀ y, X.fn y = true) (hpl : (backTo pos (starEach es X.env)).any (·.1) = false) (hdb : (x == ("__debug__" : Str)) = false := by decide) :
    PE X (.Call (.Name x p1) (.Lambda params body scope lpos :: es) [] pos) (tLam1 T (X.env.qual ++ "<lambda>") tb spg E t) := by
  constructor
  rintro pins s σ H Q I ⟨hT, h⟩
  apply wpAny_Call_Name_kw
  apply ld_glob I hg hm _ hdb
  refine PySem.W.callWith_K (h₀ := X.base) I.ok.mod.kin hk ?_ (by rfl) hpl
  show wpAny _ _ (spliced ((false, eval (.Lambda params body scope lpos) X.env) :: backTo pos (starEach es X.env))) _ _ s
  apply Calls.spliced_cons
  refine LamX.lam_make2 I TB hcode hmT hu hT hdef (L.has I.ok) ?_
  intro f c pm ctv H1 s1 I1 eN T1 hfo hfh hff hco
  have out : f ≠ X.env.locals ∧ f ∉ X.fs := by
    rw [hs] at hff
    rw [frs, List.filterMap_cons, hf] at hff
    exact ⟨fun z => hff (z ▸ List.mem_cons_self), fun z => hff (List.mem_cons_of_mem _ z)⟩
  have J1 : Inv X ((f, PySem.W.kla_obj "<lambda>" (X.env.qual ++ "<lambda>") params body scope (cloFrom X.env.cells scope.names []) pm c ctv) :: pins) σ H1 s1 := by
    refine I1.pins_of fun z hz => ?_
    rcases List.mem_cons.mp hz with e | e
    · subst e
      exact ⟨hfo, hfh, out.1, out.2, fun v q => nomatch q⟩
    · exact I1.pin z (List.mem_append_right _ e)
  refine thn (ha.run pos _ s1 σ H1 _ J1 (h f c H1 eN T1 hco)) ?_
  rintro us s2 ⟨vs, H2, J2, rv, q⟩
  have at2 := J2.pin _ (List.mem_append_right _ List.mem_cons_self)
  have I2 : Inv X pins σ H2 s2 := J2.pins_of fun z hz => J2.pin z (List.mem_append_right _ (List.mem_cons_of_mem _ hz))
  have lam : InBase X.prog X.w X.K X.mg (baseAt X s2 H2) (k + 1) f (spLam c (X.env.qual ++ "<lambda>") tb σ) :=
    lam_fn (pm := pm) (ctv := ctv) (caps_at I2 hfn) L (L.has I.ok) (baseAt_get at2.1 at2.2.1 hff) (fun u => hbind _ _ _ _ _ u) fun A outer s' H' E' hr' => hbody _ (fun b o e => baseAt_ext I2 e) A outer s' H' E' f c hr'
  have F := hG _ f _ (fun b o e => baseAt_ext I2 e) lam
  have rv' : Vals (V.ref f :: vs) (Value.ref f :: us) := .cons rfl rv
  refine ⟨I2.kIn, wpAny_call (codeAny_mono (F.run X.A X.stack s2 H2 ⟨.ref f :: us, []⟩ (.ref f :: us) (.ref f :: vs) Q E hr (env_at I2) ?_ rv' q) ?_)⟩
  · have len : (Value.ref f :: us).length = psg.length := by rw [← rv'.length]; exact F.len _ _ _ _ q
    have z := hb s2 (.ref f :: us) I2.kIn (by rw [List.append_nil]; exact len)
    rw [List.append_nil] at z
    exact z
  · intro r s' z
    rcases r with e | fl
    · exact hx pins σ H2 s2 e s' I2 z
    · rcases fl with _ | _ | _ | u
      · exact False.elim z
      · exact False.elim z
      · exact False.elim z
      · exact I2.after z
end
end G

set_option Elab.async false
set_option linter.all false
set_option maxRecDepth 100000
set_option maxHeartbeats 3900000
/-! instances with methods of their own: ==, str(x); cls(..) in a classmethod -/
namespace G
open PySem Spec PyProof.Rows L2
section
variable {X : Cx} {CX : CXT} {k : Nat} {f C : Addr} {fd : FuncData} {ps : List Str} {sp : Sp} {E : XK}
/-- the callee runs at an around below X's -/
theorem run_below {A : Around} {pins : List (Addr × Obj)} {σ : L2.St} {H : Hp} {s : Shared} {Q : VK} {us : List Value} {vs : List V} (F : FnOk X.prog X.w X.K X.mg X.base CX k f fd ps sp) (hA : Room k A) (hfr : A.frames = X.A.frames) (hb : Binds X.K fd ps [])
    (hx : Passes CX X E) (I : Inv X pins σ H s) (r : Vals vs us) (h : sp vs H Q E) : wpAny (model X.prog X.w) A (call (.ref f) us) (EP X pins σ Q) X.xe s := by
  have e := I.env0
  have e0 : Env0 X.prog X.w X.K X.mg X.base A X.stack s H := ⟨hfr.trans e.frames, e.mod, e.bs, e.bsz, e.funs, e.frf, e.hok, e.bare⟩
  have len : us.length = ps.length := by rw [← r.length]; exact F.len _ _ _ _ h
  have bd := hb s us I.kIn (by rw [List.append_nil]; exact len)
  rw [List.append_nil] at bd
  apply wpAny_call
  refine codeAny_mono (F.run A X.stack s H ⟨us, []⟩ us vs Q E hA e0 bd r h) ?_
  rintro (e | fl) s' z
  · exact hx pins σ H s e s' I z
  · rcases fl with _ | _ | _ | u
    · exact False.elim z
    · exact False.elim z
    · exact False.elim z
    · exact I.after z
/-- str(x) by its own def -/
def rStrO (C : Addr) (sp : Sp) (E : XK) : List V → Hp → VK → Prop := fun xs H Q => ∃ a dx fs, xs = [.ref a] ∧ H a = some (.ins C dx fs) ∧ sp [.ref a] H (fun v H' => (∃ z, v = .str z) ∧ Q v H') E
theorem call_strO (F : FnOk X.prog X.w X.K X.mg X.base CX k f fd ps sp) (hr : Room (k + 2) X.A) (hs : PySem.W.findIn X.K (.ref C) "__str__" = some (some (.ref f))) (hf : PySem.W.isFn X.K (.ref f) = true) (hb : Binds X.K fd ps []) (hx : Passes CX X E) :
    CallR X (.type "str") (rStrO C sp E) := by
  rintro pins s σ H xs us Q I r ⟨a, dx, fs, rfl, ha, h⟩
  obtain ⟨u, rfl, ru⟩ := vals1 r
  obtain rfl : u = Value.ref a := ru
  obtain ⟨mA, J, _⟩ := ins_get I.hok ha
  obtain ⟨od, J, _⟩ := J.look
  refine PySem.W.kso_call hr.in1.in1.units0 I.kIn J hs hf ?_
  refine wpAny_mono (run_below (vs := [.ref a]) F hr.in1.in1 rfl hb hx I (.cons rfl .nil) h) ?_ fun _ _ z => z
  rintro v s' ⟨x, H', I', rx, ⟨z, rfl⟩, q⟩
  obtain ⟨t, rfl⟩ := rx
  exact ⟨.str z, H', I', ⟨t, rfl⟩, q⟩
/-- x == y by its own def, both of one class -/
def rEqO (C : Addr) (sp : Sp) (E : XK) : R2 := fun x y H Q => ∃ a b dx fs dy gs, x = .ref a ∧ y = .ref b ∧ H a = some (.ins C dx fs) ∧ H b = some (.ins C dy gs) ∧ sp [.ref a, .ref b] H (fun v H' => (∃ c, v = .bl c) ∧ Q v H') E
theorem op_eqO (F : FnOk X.prog X.w X.K X.mg X.base CX k f fd ps sp) (hr : Room k X.A) (hs : PySem.W.findIn X.K (.ref C) "__eq__" = some (some (.ref f))) (hf : PySem.W.isFn X.K (.ref f) = true) (hb : Binds X.K fd ps []) (hx : Passes CX X E) :
    OpR X (compareOp .Eq) (rEqO C sp E) := by
  rintro pins s σ H x y v u Q I rx ry ⟨a, b, dx, fs, dy, gs, rfl, rfl, ha, hb', h⟩
  obtain rfl : v = Value.ref a := rx
  obtain rfl : u = Value.ref b := ry
  obtain ⟨mA, J, _⟩ := ins_get I.hok ha
  obtain ⟨mB, J', _⟩ := ins_get I.hok hb'
  obtain ⟨od, J, _⟩ := J.look
  obtain ⟨od', J', _⟩ := J'.look
  obtain ⟨m, hF⟩ := I.fr
  show wpAny (model X.prog X.w) X.A (richCompare .Eq (.ref a) (.ref b)) (EP X pins σ Q) X.xe s
  refine PySem.W.cmp_K (op := .Eq) (tb := .ref C) hr.units0 hF I.ok.mod.kin J J'.type (by simp [PySem.W.notFirst]) hs hf ?_
  refine wpAny_mono (run_below (vs := [.ref a, .ref b]) F hr rfl hb hx I (.cons rfl (.cons rfl .nil)) h) ?_ fun _ _ z => z
  rintro w s' ⟨z, H', I', rz, ⟨c, rfl⟩, q⟩
  obtain rfl : w = Value.bool c := rz
  exact ⟨.bl c, H', I', rfl, q⟩
/-- x(e, ..), x a local that holds the class at C -/
def tMakeL (i : Nat) (C : Addr) (sp : Sp) (E : XK) (t : TA) : TE := fun σ H Q => σ[i]? = some (some (.ref C)) ∧ tMake C sp [] E t σ H Q
theorem pe_makeL {i : Nat} {x : Str} {p pos : Pos} {e : Expr} {es : List Expr} {t : TA} (M : Mk X.K C f) (F : FnOk X.prog X.w X.K X.mg X.base CX k f fd ps sp) (hr : Room (k + 1) X.A) (hN : X.N[i]? = some x) (hv : Vis X.env.scope x) (hb : Binds X.K fd ps []) (hx : Passes CX X E)
    (ha : PA X (e :: es) t) (he : starEach (e :: es) X.env = (false, eval e X.env) :: starEach es X.env := by rfl) (hpl : (backTo pos (starEach es X.env)).any (·.1) = false := by rfl)
    (hdb : (x == ("__debug__" : Str)) = false := by decide) (hcd : (x == ("__classdict__" : Str)) = false := by decide) : PE X (.Call (.Name x p) (e :: es) [] pos) (tMakeL i C sp E t) := by
  constructor
  rintro pins s σ H Q I ⟨hs, h⟩
  refine wpAny_Call_Name_kw (thn ((pe_var (pos := p) hN hv hdb hcd).run pins s σ H (fun v H1 => v = .ref C ∧ H1 = H) I ⟨.ref C, hs, rfl, rfl⟩) ?_)
  rintro u s1 ⟨v, H1, I1, r1, rfl, rfl⟩
  cases r1
  refine PySem.W.callWith_K (h₀ := X.base) I.ok.mod.kin M.kp (thn (ha.run pos pins s1 σ _ _ I1 h) ?_) he hpl
  rintro us s2 ⟨vs, H2, I2, r, q⟩
  exact ⟨I2.kIn, run_make M F hr hb .nil hx I2 r q⟩
end
section
variable {P : Program} {w : World} {K : PySem.W.Frag} {mg : Str → Option Value} {base : Heap}
/-- a def whose code object is known -/
theorem fun_okC {x qual : Str} {st : Stmt} {f c : Addr} {fd : FuncData} {N ps : List Str} {k : Nat} {sp : Sp} (F : Fun K x qual st f fd) (hc : fd.code = .ref c) (S : FnScope N ps (defScope st)) (len : ∀ vs H Q E, sp vs H Q E → vs.length = ps.length)
    (hbody : ∀ (A : Around) (outer : List Env) (s : Shared) (H : Hp) (vs : List V) (Q : VK) (E : XK), Room k (A.deeper (envOfC qual (defScope st) s.heap.objs.size f (.ref c))) → sp vs H Q E →
      ∃ t, PSs (cxOf CX0 P w K mg base N qual (defScope st) f (.ref c) A outer s H E).nox (defBody st) t ∧ t { nx := fun _ H' => Q .non H', rt := Q } (start N vs) H) : FnOk P w K mg base CX0 (k + 1) f fd ps sp := by
  obtain ⟨oc, od, kV, doc, pm, an, cdv, ct, osl, rfl, lk, hcd⟩ := F.ex
  obtain rfl : cdv = Value.ref c := hc
  refine fn_of lk hcd S len ?_
  intro A outer s H vs Q E hr hsp
  obtain ⟨t, h, q⟩ := hbody A outer s H vs Q E hr hsp
  exact ⟨t, h.nox, q⟩
end
end G

set_option Elab.async false
set_option linter.all false
set_option maxRecDepth 100000
set_option maxHeartbeats 3900000
namespace G
open PySem Spec PyProof.Rows L2
section
variable {X : Cx} {k i : Nat} {f : Addr} {sp : Sp} {W : WX} {x : Str} {p pos : Pos} {e : Expr} {es : List Expr} {t : TA}
/-- x(e, ..) under a try: what is thrown is wished for at the slots as they stand -/
def tCallW (i : Nat) (f : Addr) (sp : Sp) (W : WX) (t : TA) : TE := fun σ H Q => σ[i]? = some (some (.ref f)) ∧ t σ H fun vs H1 => sp vs H1 Q fun cls d H' => W cls d σ H'
theorem pe_callW (F : InBase X.prog X.w X.K X.mg X.base k f sp) (hr : Room k X.A) (hN : X.N[i]? = some x) (hv : Vis X.env.scope x) (tk : Takes X W) (ha : PA X (e :: es) t)
    (he : starEach (e :: es) X.env = (false, eval e X.env) :: starEach es X.env := by rfl) (hpl : (backTo pos (starEach es X.env)).any (·.1) = false := by rfl)
    (hdb : (x == ("__debug__" : Str)) = false := by decide) (hcd : (x == ("__classdict__" : Str)) = false := by decide) : PE X (.Call (.Name x p) (e :: es) [] pos) (tCallW i f sp W t) := by
  constructor
  rintro pins s σ H Q I ⟨hs, ht⟩
  have fnat : ∀ {s' : Shared} {H' : Hp}, Inv X pins σ H' s' → PySem.W.FnAt f s'.heap := by
    intro s' H' J
    obtain ⟨a, b, c, d, q⟩ := F.at_
    exact ⟨a, b, c, d, J.bk _ _ q⟩
  refine wpAny_Call_Name_kw (thn ((pe_var (pos := p) hN hv hdb hcd).run pins s σ H (fun v H1 => v = .ref f ∧ H1 = H) I ⟨.ref f, hs, rfl, rfl⟩) ?_)
  rintro u s1 ⟨v, H1, I1, r1, rfl, rfl⟩
  cases r1
  refine PySem.W.callWith_F (fnat I1) (thn (ha.run pos pins s1 σ _ _ I1 ht) ?_) he hpl
  rintro us s2 ⟨vs, H2, I2, r, q⟩
  refine ⟨fnat I2, wpAny_call (codeAny_mono (F.run X.A X.stack s2 H2 us vs Q _ hr I2.env0 r q) ?_)⟩
  rintro (e | fl) s' z
  · exact tk e s' (XE.of_call I2 (fun _ _ _ h => h) z)
  · rcases fl with _ | _ | _ | u
    · exact False.elim z
    · exact False.elim z
    · exact False.elim z
    · exact I2.after z
theorem takesF {X : Cx} : Takes X fun _ _ _ _ => False := fun _ _ ⟨_, _, _, _, _, _, _, _, _, _, _, _, _, _, _, _, z⟩ => z.elim
end
section
variable {X : Cx} {K : PySem.W.Frag}
theorem call_sortedSU (hK : X.K = K) : CallR X (.builtin "sorted") (rSortedS K) := hK ▸ cr_sortedS
def rListU (K : PySem.W.Frag) : List V → Hp → VK → Prop := fun xs H Q => ∃ p ys, xs = [.ref p] ∧ (SqL K H p ys ∨ SqT K H p ys) ∧ ∀ l, H l = none → Q (.ref l) (upd H l (.lst ys))
theorem call_listU (hK : X.K = K) : CallR X (.type "list") (rListU K) := hK ▸ call_list_of
def rEqVU (K : PySem.W.Frag) : R2 := fun x y H Q => rEqU K x y H Q ∨ rEqV K x y H Q
theorem op_eqVU (hK : X.K = K) (hu : X.A.units + 64 < cLine) : OpR X (compareOp .Eq) (rEqVU K) := hK ▸ (op_eqU rfl hu).or (op_eqV hu)
/-! ### a token is out behind a written text's method -/
theorem pa_two {e f : Expr} {te tf : TE} {c : Str} {j : Nat} {cp apos pos : Pos} {a : Expr} {ta : TE} (he : e = .Call (.Attribute (.Constant (.str c) j cp) "join" apos) [a] [] pos) (ha : PE X a ta) (hf : PET X f tf)
    (hs : starEach [a] X.env = [(false, eval a X.env)] := by rfl) (hbase : attributeBase (.Constant (.str c) j cp) "join" X.env (eval (.Constant (.str c) j cp) X.env) = eval (.Constant (.str c) j cp) X.env := by rfl) (hline : (apos.endLine == pos.line) = true := by rfl)
    (hst : ∀ p : Pos, backTo p (starEach [e, f] X.env) = [(false, eval e X.env), (false, eval f X.env)] := by intro p; rfl) :
    PA X [e, f] (tCons (tM1 (rJoin X.K) (tC (.str c)) ta) (tCons tf tNil)) := by
  constructor
  intro pos0 pins s σ H Q I h
  rw [hst]
  apply Calls.spliced_cons
  subst he
  refine PySem.Call_method1 hbase hs hline (Calls.Constant_str ?_)
  obtain ⟨_, h⟩ := h
  have I0 : Inv X pins σ H { s with toks := s.toks + 1 } := I.tok _
  refine ⟨"str", _, PySem.F.plainAttrs_str, PySem.F.slot_str_join, PySem.F.type_str_join, typeIs_str _ _ _, (fun _ z => nomatch z), ?_⟩
  refine wpAny_mono (PySem.wpAny_toks_of (n := 1) (s := { s with toks := s.toks + 1 }) (Nat.le_add_left 1 s.toks) (Q := EP X pins σ fun v H1 => tf σ H1 fun w H2 => Q [v, w] H2) (Calls.callWith_builtin rfl (Calls.evalArgs_plain (Calls.spliced_cons ?_)))) ?_ fun _ _ z => z.2
  · refine thn (ha.run pins _ σ H _ I0 h) ?_
    rintro u s2 ⟨y, H2, I2, r2, q2⟩
    exact Calls.spliced_nil (mt_join pins s2 σ H2 (.str c) [y] _ [u] _ I2 ⟨_, rfl⟩ (.cons r2 .nil) q2)
  · rintro v s3 ⟨ht, x, H3, I3, rx, q3⟩
    apply Calls.spliced_cons
    refine thn (hf pins s3 σ H3 _ ht I3 q3) ?_
    rintro w s4 ⟨y, H4, I4, ry, q4⟩
    exact Calls.spliced_nil ⟨[x, y], H4, I4, .cons rx (.cons ry .nil), q4⟩
end
end G
namespace G
open PySem Spec PyProof.Rows L2
theorem tab_up {mg : Str → Option Value} {B B' : Heap} {c P : Addr} (t : LamX.TabB B mg c P) (k : ∀ b o, B.get? b = some o → B'.get? b = some o) : LamX.TabB B' mg c P := ⟨t.code.keeps k, t.bm.keeps k, t.gP⟩
end G

set_option Elab.async false
set_option linter.all false
set_option maxRecDepth 100000
set_option maxHeartbeats 3900000
/-! the names that the laws draw: distinct, and names -/
namespace G
open PySem Spec PyProof.Rows L2
theorem letters_ok : OkS lettersS 26 := ⟨by decide +kernel, by decide +kernel⟩
theorem letters_len : lettersS.cps.toList.length = 26 := by decide +kernel
theorem letters_at : ∀ i : _root_.Fin 26, lettersS.cps.toList[i.val]? = some (97 + i.val) := by decide +kernel
/-- the letter at i -/
def let1 (i : Int) : Str := ⟨#[97 + (i.fmod 26).toNat]⟩
theorem let1_at (i : Int) : atI lettersS.cps.toList (i.fmod 26) = some (97 + (i.fmod 26).toNat) := by
  have h0 := fmod_lo i (show (0 : Int) < 26 by decide)
  have h1 := fmod_hi i (show (0 : Int) < 26 by decide)
  have e : (((i.fmod 26).toNat : Nat) : Int) = i.fmod 26 := by omega
  have h := atI_nat (xs := lettersS.cps.toList) (letters_at ⟨(i.fmod 26).toNat, by omega⟩)
  rw [e] at h
  exact h
theorem let1_cps (i : Int) : (let1 i).cps.toList = [97 + (i.fmod 26).toNat] := rfl
theorem let1_low (i : Int) : ∀ c ∈ (let1 i).cps.toList, lowc c = true := by
  intro c hc
  have e : c = 97 + (i.fmod 26).toNat := by simpa [let1] using hc
  have h0 := fmod_lo i (show (0 : Int) < 26 by decide)
  have h1 := fmod_hi i (show (0 : Int) < 26 by decide)
  subst e
  unfold lowc
  simp only [Bool.and_eq_true, decide_eq_true_eq]
  omega
theorem let1_inj {f : Int} {j k : Nat} (hj : j < 26) (hk : k < 26) (h : 97 + ((f + 7 * (j : Int)).fmod 26).toNat = 97 + ((f + 7 * (k : Int)).fmod 26).toNat) : j = k := by
  rw [Int.fmod_eq_emod_of_nonneg _ (by decide), Int.fmod_eq_emod_of_nonneg _ (by decide)] at h
  omega
/-- some names, no two alike -/
structure Good (xs : List Str) (m : Nat) : Prop where
  len : xs.length = m
  nd : xs.Nodup
  name : ∀ x ∈ xs, isName x = true
theorem Good.perm {xs ys : List Str} {m : Nat} (h : Good xs m) (p : ys.Perm xs) : Good ys m := ⟨p.length_eq.trans h.len, p.nodup_iff.mpr h.nd, fun x hx => h.name x (p.mem_iff.mp hx)⟩
theorem Good.take {xs : List Str} {m n : Nat} (h : Good xs m) (hn : n ≤ m) : Good (xs.take n) n := ⟨by rw [List.length_take, h.len]; omega, h.nd.sublist (List.take_sublist _ _), fun x hx => h.name x (List.mem_of_mem_take hx)⟩
theorem good_of {nm : Nat → Str} {m : Nat} (hn : ∀ k, k < m → isName (nm k) = true) (hi : ∀ j k, j < m → k < m → nm j = nm k → j = k) : Good ((List.range m).map nm) m := by
  refine ⟨by rw [List.length_map, List.length_range], ?_, fun x hx => ?_⟩
  · rw [List.nodup_iff_pairwise_ne, List.pairwise_map]
    refine List.Pairwise.imp_of_mem ?_ (List.nodup_iff_pairwise_ne.mp List.nodup_range)
    intro a b ha hb hab e
    exact hab (hi a b (List.mem_range.mp ha) (List.mem_range.mp hb) e)
  · obtain ⟨k, hk, rfl⟩ := List.mem_map.mp hx
    exact hn k (List.mem_range.mp hk)
theorem isName_of {z : Str} (h1 : 1 ≤ z.cps.toList.length) (h2 : z.cps.toList.length ≤ 8) (h3 : ∀ c ∈ z.cps.toList, lowc c = true) : isName z = true := by
  unfold isName
  rw [len_cps, decide_eq_true h1, decide_eq_true h2, Bool.true_and, Bool.true_and, List.all_eq_true]
  exact h3
theorem name_low {z : Str} (h : isName z = true) : ∀ c ∈ z.cps.toList, lowc c = true := by
  unfold isName at h
  rw [Bool.and_eq_true, Bool.and_eq_true, List.all_eq_true] at h
  exact h.2.2
/-- the eight letters of the base -/
structure Base8 (z : Str) : Prop where
  len : z.cps.toList.length = 8
  low : ∀ c ∈ z.cps.toList, lowc c = true
theorem cut_to (z : Str) (n : Int) (h0 : 0 ≤ n) : (cutS z none (some n)).cps.toList = z.cps.toList.take n.toNat := by
  have e : HT.sIx z.length z.length (some n) = min n.toNat z.length := by
    show (if n < 0 then (n + (z.length : Int)).toNat else min n.toNat z.length) = _
    rw [if_neg (by omega)]
  unfold cutS
  simp only [HT.sIx_none, e, List.drop_zero, Nat.sub_zero]
  rw [len_cps, ← List.take_take, List.take_length]
theorem cutV_to {α : Type} (f : α → V) (xs : List α) (n : Int) (h0 : 0 ≤ n) : cutV (xs.map f) none (some n) = (xs.take n.toNat).map f := by
  have e : HT.sIx (xs.map f).length (xs.map f).length (some n) = min n.toNat (xs.map f).length := by
    show (if n < 0 then (n + ((xs.map f).length : Int)).toNat else min n.toNat (xs.map f).length) = _
    rw [if_neg (by omega)]
  unfold cutV
  simp only [HT.sIx_none, e, List.drop_zero, Nat.sub_zero]
  rw [← List.take_take, List.take_length, List.map_take]
theorem take_low {z : Str} (b : Base8 z) (n : Nat) : ∀ c ∈ z.cps.toList.take n, lowc c = true := fun c hc => b.low c (List.mem_of_mem_take hc)
/-- the five ways -/
theorem way0 {z : Str} (b : Base8 z) {m : Nat} (hm : m ≤ 8) : Good ((List.range m).map fun (k : Nat) => cutS z none (some ((k : Int) + 1))) m := by
  have e : ∀ k : Nat, (cutS z none (some ((k : Int) + 1))).cps.toList = z.cps.toList.take (k + 1) := fun k => by
    rw [cut_to z _ (by omega)]
    congr 1
  refine good_of (fun k hk => ?_) (fun j k hj hk h => ?_)
  · refine isName_of ?_ ?_ ?_ <;> rw [e k]
    · rw [List.length_take, b.len]; omega
    · rw [List.length_take, b.len]; omega
    · exact take_low b _
  · have h2 := congrArg (fun s : Str => s.cps.toList.length) h
    simp only [e, List.length_take, b.len] at h2
    omega
theorem way1 (f : Int) {m : Nat} (hm : m ≤ 8) : Good ((List.range m).map fun (k : Nat) => Txt.mul (let1 f) ((k : Int) + 1)) m := by
  have e : ∀ k : Nat, (Txt.mul (let1 f) ((k : Int) + 1)).cps.toList = (List.replicate (k + 1) (let1 f).cps.toList).flatten := fun k => by
    rw [mul_cps _ _ (by omega)]
    congr 2
  have l : ∀ k : Nat, (Txt.mul (let1 f) ((k : Int) + 1)).cps.toList.length = k + 1 := fun k => by
    rw [e, List.length_flatten, List.map_replicate, List.sum_replicate_nat, let1_cps]
    simp
  refine good_of (fun k hk => ?_) (fun j k hj hk h => ?_)
  · refine isName_of (by rw [l]; omega) (by rw [l]; omega) ?_
    rw [e]
    intro c hc
    obtain ⟨y, hy, hc⟩ := List.mem_flatten.mp hc
    rw [List.eq_of_mem_replicate hy] at hc
    exact let1_low f c hc
  · have h2 := congrArg (fun s : Str => s.cps.toList.length) h
    simp only [l] at h2
    omega
theorem way3 {z : Str} (b : Base8 z) (f s : Int) (hs : 0 ≤ s) (hs2 : s < 8) {m : Nat} (hm : m ≤ 26) : Good ((List.range m).map fun (k : Nat) => cutS z none (some s) ++ let1 (f + 7 * (k : Int))) m := by
  have e : ∀ k : Nat, (cutS z none (some s) ++ let1 (f + 7 * (k : Int))).cps.toList = z.cps.toList.take s.toNat ++ [97 + ((f + 7 * (k : Int)).fmod 26).toNat] := fun k => by
    rw [app_cps, cut_to z _ hs, let1_cps]
  refine good_of (fun k hk => ?_) (fun j k hj hk h => ?_)
  · refine isName_of ?_ ?_ ?_ <;> rw [e k]
    · rw [List.length_append, List.length_singleton]; omega
    · rw [List.length_append, List.length_take, b.len, List.length_singleton]; omega
    · intro c hc
      rcases List.mem_append.mp hc with hc | hc
      · exact take_low b _ c hc
      · exact let1_low _ c (by rw [let1_cps]; exact hc)
  · have h2 := congrArg (fun s : Str => s.cps.toList.getLast?) h
    simp only [e, List.getLast?_append, List.getLast?_singleton, Option.some_or, Option.some.injEq] at h2
    exact let1_inj (by omega) (by omega) h2
theorem way4 {z : Str} (b : Base8 z) (f s : Int) (hs : 0 ≤ s) (hs2 : s < 8) {m : Nat} (hm : m ≤ 26) : Good ((List.range m).map fun (k : Nat) => let1 (f + 7 * (k : Int)) ++ cutS z none (some (s * ((k : Int).fmod 2)))) m := by
  have h2 : ∀ k : Nat, 0 ≤ s * ((k : Int).fmod 2) ∧ s * ((k : Int).fmod 2) ≤ 7 := fun k => by
    have a := fmod_lo (k : Int) (show (0 : Int) < 2 by decide)
    have b := fmod_hi (k : Int) (show (0 : Int) < 2 by decide)
    have c : (k : Int).fmod 2 = 0 ∨ (k : Int).fmod 2 = 1 := by omega
    rcases c with c | c <;> rw [c] <;> omega
  have e : ∀ k : Nat, (let1 (f + 7 * (k : Int)) ++ cutS z none (some (s * ((k : Int).fmod 2)))).cps.toList = (97 + ((f + 7 * (k : Int)).fmod 26).toNat) :: z.cps.toList.take (s * ((k : Int).fmod 2)).toNat := fun k => by
    rw [app_cps, cut_to z _ (h2 k).1, let1_cps]
    rfl
  refine good_of (fun k hk => ?_) (fun j k hj hk h => ?_)
  · have := h2 k
    refine isName_of ?_ ?_ ?_ <;> rw [e k]
    · rw [List.length_cons]; omega
    · rw [List.length_cons, List.length_take, b.len]; omega
    · intro c hc
      rcases List.mem_cons.mp hc with hc | hc
      · exact let1_low _ c (by rw [let1_cps, hc]; exact List.mem_singleton_self _)
      · exact take_low b _ c hc
  · have h3 := congrArg (fun s : Str => s.cps.toList.head?) h
    simp only [e, List.head?_cons, Option.some.injEq] at h3
    exact let1_inj (by omega) (by omega) h3
def eightS : List Str := [Str.ofString "length", Str.ofString "bearing", Str.ofString "mark", Str.ofString "lengths", Str.ofString "landmark", Str.ofString "bearings", Str.ofString "ab", Str.ofString "a"]
theorem eight_good : Good eightS 8 := ⟨rfl, by decide +kernel, by decide +kernel⟩
theorem join_flat : ∀ ys : List Str, (Txt.join (Str.ofString "") ys).cps.toList = (ys.map fun y => y.cps.toList).flatten := by
  intro ys
  rw [TL.join_eq]
  induction ys with
  | nil => rfl
  | cons y r ih =>
    cases r with
    | nil =>
      show y.cps.toList = _
      simp
    | cons x r =>
      show (y ++ Str.ofString "" ++ Str.join (Str.ofString "") (x :: r)).cps.toList = _
      rw [app_cps, app_cps, ih, show (Str.ofString "").cps.toList = [] by decide +kernel, List.append_nil]
      rfl
theorem base8_of (f : Int) : Base8 (Txt.join (Str.ofString "") ((List.range 8).map fun (k : Nat) => let1 (f + 5 * (k : Int)))) := by
  have e := join_flat ((List.range 8).map fun (k : Nat) => let1 (f + 5 * (k : Int)))
  rw [List.map_map] at e
  refine ⟨?_, ?_⟩ <;> rw [e]
  · rfl
  · intro c hc
    obtain ⟨l, hl, hc⟩ := List.mem_flatten.mp hc
    obtain ⟨k, _, rfl⟩ := List.mem_map.mp hl
    exact let1_low _ c hc
theorem erase_map {α β : Type} (f : α → β) : ∀ (l : List α) (i : Nat), (l.map f).eraseIdx i = (l.eraseIdx i).map f
  | [], _ => rfl
  | _ :: _, 0 => rfl
  | x :: r, i + 1 => congrArg (f x :: ·) (erase_map f r i)
theorem erase_perm {α : Type} : ∀ (l : List α) (i : Nat) (h : i < l.length), (l[i] :: l.eraseIdx i).Perm l
  | x :: r, 0, _ => List.Perm.refl _
  | x :: r, i + 1, h => (List.Perm.swap x _ _).trans ((erase_perm r i (Nat.lt_of_succ_lt_succ h)).cons x)
/-! ### more steps -/
def jsR (ts : List TE) (acc : Str) (σ : L2.St) (x : V) (H : Hp) (Q : Str → Hp → Prop) : Prop := ∃ y : Str, x = .str y ∧ (acc ++ y).length ≤ sizeLine ∧ tJs ts (acc ++ y) σ H Q
def fmtR (x : V) (H : Hp) (Q : VK) : Prop := (∃ y : Str, x = .str y ∧ y.length ≤ sizeLine ∧ Q (.str y) H) ∨ ∃ i : Int, x = .int i ∧ i.natAbs.log2 < 1920 ∧ Q (.str (toString i)) H
section
variable {K : PySem.W.Frag} {σ : L2.St} {H : Hp} {Q : VK} {QJ : Str → Hp → Prop} {t ta : TE} {ts : List TE} {acc y : Str} {tA : TA} {x : V} {C : Addr} {sp : Sp} {E : XK} {i : Nat}
theorem w_js (q : t σ H fun x H1 => jsR ts acc σ x H1 QJ) : tJs (t :: ts) acc σ H QJ := q
theorem w_jsn (q : QJ acc H) : tJs [] acc σ H QJ := q
theorem js_of {n : Nat} (h : y.length ≤ 1000) (ha : acc.length ≤ 1000 * n) (hn : n ≤ 100) (q : tJs ts (acc ++ y) σ H QJ) : jsR ts acc σ (.str y) H QJ := ⟨y, rfl, by
  rw [len_cps, app_cps, List.length_append, ← len_cps, ← len_cps]
  have : (1000000 : Nat) ≤ sizeLine := by decide
  have : 1000 * n ≤ 1000 * 100 := Nat.mul_le_mul_left _ hn
  omega, q⟩
theorem w_fmt (q : t σ H fun x H1 => fmtR x H1 Q) : tFmt t σ H Q := q
theorem fmt_s (h : y.length ≤ sizeLine) (q : Q (.str y) H) : fmtR (.str y) H Q := .inl ⟨y, rfl, h, q⟩
theorem c_isiC {T : Value} {b : Bool} (ty : TyX K H x T) (k : PySem.W.kitOne K T (.ref C) = some b) (q : Q (.bl b) H) : rIsi K [x, .ref C] H Q := ⟨x, .ref C, T, .ref C, b, rfl, .own C, ty, k, q⟩
theorem kit_self : PySem.W.kitOne K (.ref C) (.ref C) = some true := by
  unfold PySem.W.kitOne
  rw [if_pos (by simp)]
theorem w_makeL (h : σ[i]? = some (some (.ref C))) (q : tMake C sp [] E tA σ H Q) : tMakeL i C sp E tA σ H Q := ⟨h, q⟩
theorem len_app (a b : Str) : (a ++ b).length = a.length + b.length := by rw [len_cps, app_cps, List.length_append, ← len_cps, ← len_cps]
end
section
variable {K : PySem.W.Frag} {σ : L2.St} {H : Hp} {N : L2.St → Hp → Prop} {g1 g2 : TG} {x y : V} {p : Addr} {n : Nat}
theorem g_two (h : H p = some (.tup [x, y])) (hn : 2 = n) (q : g1 x σ H fun σ' H' => g2 y σ' H' fun σ2 H2 => N σ2 H2) : gTup K n (gCons g1 (gCons g2 gNil)) (.ref p) σ H N :=
  ⟨p, [x, y], rfl, .of h, hn, x, [y], rfl, (show (fun σ' H' => gCons g2 gNil [y] σ' H' N) = fun σ' H' => g2 y σ' H' fun σ2 H2 => N σ2 H2 from by
    funext σ' H'
    refine propext ⟨fun ⟨v, r, e, h⟩ => ?_, fun h => ⟨y, [], rfl, ?_⟩⟩
    · cases e
      have e2 : (fun (σ2 : L2.St) (H2 : Hp) => gNil [] σ2 H2 N) = N := by
        funext a b
        exact propext ⟨fun z => z.2, fun z => ⟨rfl, z⟩⟩
      rw [e2] at h
      exact h
    · have e2 : (fun (σ2 : L2.St) (H2 : Hp) => gNil [] σ2 H2 N) = N := by
        funext a b
        exact propext ⟨fun z => z.2, fun z => ⟨rfl, z⟩⟩
      rw [e2]
      exact h) ▸ q⟩
end
theorem fm_range (g : Nat → Str) : ∀ l : List Nat, l.filterMap (fun k => some (V.str (g k))) = (l.map g).map V.str
  | [] => rfl
  | k :: r => congrArg (V.str (g k) :: ·) (fm_range g r)
theorem let1_self {f : Int} (h0 : 0 ≤ f) (h1 : f < 26) : atI lettersS.cps.toList f = some (97 + (f.fmod 26).toNat) := by
  have h := let1_at f
  rw [Int.fmod_eq_emod_of_nonneg _ (by decide), Int.emod_eq_of_lt h0 h1] at h ⊢
  exact h
/-! ### promises -/
def sp_mixed (K : PySem.W.Frag) : Sp := fun vs H Q _ => ∃ (p a : Addr) (n : Nat) (xs : List Str), vs = [.ref p, .ref a] ∧ BoxAt H p n ∧ n ≤ 100000000 ∧ SqL K H a (xs.map V.str) ∧ xs.length ≤ 100 ∧
  ∀ (H' : Hp) (l : Addr) (ys : List Str), ExB p H H' → BoxAt H' p (n + xs.length) → H l = none → H' l = some (.lst (ys.map V.str)) → ys.Perm xs → Q (.ref l) H'
def sp_names : Sp := fun vs H Q _ => ∃ (p : Addr) (n m : Nat), vs = [.ref p, .int (m : Int)] ∧ BoxAt H p n ∧ n ≤ 10000000 ∧ m ≤ 26 ∧
  ∀ (H' : Hp) (l : Addr) (xs : List Str), ExB p H H' → BoxAt H' p (n + 11) → H l = none → H' l = some (.lst (xs.map V.str)) → Good xs m → Q (.ref l) H'
def measT (k a b : Str) : Str := Str.empty ++ k ++ Str.ofString " " ++ a ++ Str.ofString " " ++ b
def sp_strM (C : Addr) : Sp := fun vs H Q _ => ∃ (x : Addr) (k a b : Str), vs = [.ref x] ∧ IsMeas C H x k a b ∧ k.length ≤ 100 ∧ a.length ≤ 100 ∧ b.length ≤ 100 ∧ Q (.str (measT k a b)) H
def sp_eqM (C : Addr) : Sp := fun vs H Q _ => ∃ (x y : Addr) (k a b k' a' b' : Str), vs = [.ref x, .ref y] ∧ IsMeas C H x k a b ∧ IsMeas C H y k' a' b' ∧ OkS k 100 ∧ OkS a 100 ∧ OkS b 100 ∧ OkS k' 100 ∧ OkS a' 100 ∧ OkS b' 100 ∧ Q (.bl (decide (k = k' ∧ a = a' ∧ b = b'))) H
end G

set_option Elab.async false
set_option linter.all false
set_option maxRecDepth 100000
set_option maxHeartbeats 3900000
/-! a text cut at its blanks -/
namespace G
open PySem Spec PyProof.Rows L2
abbrev blank : Str := Str.ofString " "
theorem blank_cps : blank.cps.toList = [32] := by decide +kernel
def wordsZ (z : Str) : List Str := Txt.split z blank
def cutB : List Nat → List Nat → List (List Nat)
  | acc, [] => [acc]
  | acc, c :: r => if c = 32 then acc :: cutB [] r else cutB (acc ++ [c]) r
theorem spl_cutB : ∀ (l acc : List Nat), TL.spl [32] 0 acc l = cutB acc l
  | [], acc => rfl
  | c :: r, acc => by
    by_cases h : c = 32
    · subst h
      rw [TL.spl_hit (by rfl)]
      show acc :: TL.spl [32] 0 [] r = _
      rw [spl_cutB r []]
      rfl
    · have e : TL.pre [32] (c :: r) = false := by
        unfold TL.pre
        simp [h]
      rw [TL.spl_miss e, spl_cutB r]
      show _ = if c = 32 then _ else _
      rw [if_neg h]
theorem cutB_glue : ∀ (l acc : List Nat), ((cutB acc l).intersperse [32]).flatten = acc ++ l
  | [], acc => by simp [cutB]
  | c :: r, acc => by
    by_cases h : c = 32
    · subst h
      have ih := cutB_glue r []
      have e : cutB acc (32 :: r) = acc :: cutB [] r := by simp [cutB]
      rw [e]
      cases hc : cutB [] r with
      | nil =>
        rw [hc] at ih
        exfalso
        have : cutB [] r ≠ [] := by
          clear ih hc e
          have : ∀ (l a : List Nat), cutB a l ≠ [] := by
            intro l
            induction l with
            | nil => intro a; simp [cutB]
            | cons c r ih =>
              intro a
              unfold cutB
              split
              · simp
              · exact ih _
          exact this r []
        exact this hc
      | cons p ps =>
        rw [hc] at ih
        rw [show (acc :: p :: ps).intersperse [32] = acc :: [32] :: (p :: ps).intersperse [32] from rfl, List.flatten_cons, List.flatten_cons, ih]
        simp
    · have e : cutB acc (c :: r) = cutB (acc ++ [c]) r := by simp [cutB, h]
      rw [e, cutB_glue r]
      simp
theorem cutB_mem : ∀ (l acc p : List Nat), p ∈ cutB acc l → (∀ c ∈ p, c ∈ acc ∨ c ∈ l) ∧ p.length ≤ acc.length + l.length
  | [], acc, p, h => by
    have e : p = acc := by simpa [cutB] using h
    subst e
    exact ⟨fun c hc => .inl hc, by simp⟩
  | c :: r, acc, p, h => by
    unfold cutB at h
    split at h
    · rcases List.mem_cons.mp h with e | h
      · subst e
        exact ⟨fun c hc => .inl hc, by simp⟩
      · obtain ⟨h1, h2⟩ := cutB_mem r [] p h
        refine ⟨fun d hd => (h1 d hd).elim (fun z => nomatch z) fun z => .inr (List.mem_cons_of_mem _ z), ?_⟩
        rw [List.length_nil] at h2
        rw [List.length_cons]
        omega
    · obtain ⟨h1, h2⟩ := cutB_mem r (acc ++ [c]) p h
      refine ⟨fun d hd => (h1 d hd).elim (fun z => ?_) fun z => .inr (List.mem_cons_of_mem _ z), ?_⟩
      · rcases List.mem_append.mp z with z | z
        · exact .inl z
        · rw [List.mem_singleton.mp z]
          exact .inr List.mem_cons_self
      · rw [List.length_append, List.length_singleton] at h2
        rw [List.length_cons]
        omega
theorem cutB_len : ∀ (l acc : List Nat), (cutB acc l).length ≤ l.length + 1
  | [], acc => by simp [cutB]
  | c :: r, acc => by
    unfold cutB
    split
    · have := cutB_len r []
      rw [List.length_cons, List.length_cons]
      omega
    · have := cutB_len r (acc ++ [c])
      rw [List.length_cons]
      omega
theorem words_cps (z : Str) : (wordsZ z).map (fun w => w.cps.toList) = cutB [] z.cps.toList := by
  have h := TL.split_spl z blank (by show blank.cps.toList ≠ []; rw [blank_cps]; simp) (TL.kind_ok (by decide +kernel))
  have e : TL.tl blank = [32] := blank_cps
  rw [e, spl_cutB] at h
  exact h
theorem words_ok {z : Str} {n : Nat} (h : OkS z n) : ∀ w ∈ wordsZ z, OkS w n := by
  intro w hw
  rw [OkS_iff] at h ⊢
  have m : w.cps.toList ∈ cutB [] z.cps.toList := by
    rw [← words_cps]
    exact List.mem_map.mpr ⟨w, hw, rfl⟩
  obtain ⟨h1, h2⟩ := cutB_mem _ _ _ m
  refine ⟨by rw [List.length_nil] at h2; omega, fun c hc => ?_⟩
  rcases h1 c hc with z | z
  · cases z
  · exact h.2 c z
theorem words_len {z : Str} {n : Nat} (h : OkS z n) : (wordsZ z).length ≤ n + 1 := by
  have e := congrArg List.length (words_cps z)
  rw [List.length_map] at e
  have l := cutB_len z.cps.toList []
  rw [OkS_iff] at h
  omega
theorem meas_cps (k a b : Str) : (measT k a b).cps.toList = k.cps.toList ++ 32 :: (a.cps.toList ++ 32 :: b.cps.toList) := by
  unfold measT
  rw [app_cps, app_cps, app_cps, app_cps, app_cps, show (Str.ofString " ").cps.toList = [32] from blank_cps, show Str.empty.cps.toList = [] from rfl]
  simp
theorem words_glue {z k a b : Str} (h : wordsZ z = [k, a, b]) : measT k a b = z := by
  apply ext_cps
  have g := cutB_glue z.cps.toList []
  rw [← words_cps, h] at g
  rw [meas_cps]
  simpa using g
/-- the words of a measure -/
def goodW : List Str → Bool
  | [k, a, b] => (decide (k = Str.ofString "length") || decide (k = Str.ofString "bearing")) && (isName a && (isName b && ltS a b))
  | _ => false
theorem goodW3 (k a b : Str) : goodW [k, a, b] = ((decide (k = Str.ofString "length") || decide (k = Str.ofString "bearing")) && (isName a && (isName b && decide (a.cps.toList < b.cps.toList)))) := rfl
theorem in_kinds (k : Str) : inV (.str k) [.str (Str.ofString "length"), .str (Str.ofString "bearing")] = (decide (k = Str.ofString "length") || decide (k = Str.ofString "bearing")) := by
  rw [Bool.eq_iff_iff]
  simp only [inV, List.any_cons, List.any_nil, eqV, Bool.or_false, Bool.or_eq_true, beq_iff_eq, decide_eq_true_eq]
  exact ⟨fun h => h.imp Eq.symm Eq.symm, fun h => h.imp Eq.symm Eq.symm⟩
theorem three {wl : List Str} (h : wl.length = 3) : ∃ k a b, wl = [k, a, b] := by
  match wl, h with
  | [k, a, b], _ => exact ⟨k, a, b, rfl⟩
theorem bad3 {wl : List Str} (h : wl.length ≠ 3) : goodW wl = false := by
  match wl, h with
  | [], _ => rfl
  | [_], _ => rfl
  | [_, _], _ => rfl
  | [_, _, _], h => exact absurd rfl h
  | _ :: _ :: _ :: _ :: _, _ => rfl
/-! ### promises, steps -/
/-- an own error with one field is thrown, and all that stood stands -/
def Throws (C : Addr) (f : Str) (v : V) (H : Hp) (E : XK) : Prop := ∀ d H', Ex H H' → H' d = some (.xd [(f, v)]) → E (.ref C) (some d) H'
section
variable {σ : L2.St} {H : Hp} {C : Addr} {f : Str} {W : WX} {ta : TA} {D : Ends} {v : V} {Q E : XK} {H0 : Hp} {tb : WX → TS} {K : PySem.W.Frag} {yes no : WX} {cls : Value} {d : Option Addr} {c : Value} {b : Bool}
theorem w_raiseE (q : ta σ H fun vs H1 => mkE C f vs H1 fun cls d H' => W cls d σ H') : tRaiseE C f W ta D σ H := q
theorem mkE_of (q : ∀ d, H d = none → Q (.ref C) (some d) (upd H d (.xd [(f, v)]))) : mkE C f [v] H Q := ⟨v, rfl, q⟩
theorem throw_of (t : Throws C f v H0 E) (e : Ex H0 H) (h : ∀ d H', E (.ref C) d H' → Q (.ref C) d H') : mkE C f [v] H Q := mkE_of fun d hd => h _ _ (t d _ (e.trans (Ex.new hd)) upd_same)
theorem one_yes (h : PySem.W.exmOne K cls c = some true) (q : yes cls d σ H) : wOne K c yes no cls d σ H := ⟨true, h, q⟩
theorem one_no (h : PySem.W.exmOne K cls c = some false) (q : no cls d σ H) : wOne K c yes no cls d σ H := ⟨false, h, q⟩
def getE (C : Addr) (f : Str) (a : Addr) (cls : Value) (d : Option Addr) (x : V) (H : Hp) (Q : VK) : Prop := x = .ref a ∧ cls = .ref C ∧ ∃ (dd : Addr) (v : V), d = some dd ∧ H dd = some (.xd [(f, v)]) ∧ Q v H
theorem w_getE {a : Addr} {te : TE} {Q : VK} (q : te σ H fun x H1 => getE C f a cls d x H1 Q) : tGetE C f a cls d te σ H Q := q
theorem getE_of {a dd : Addr} {Q : VK} (h : H dd = some (.xd [(f, v)])) (q : Q v H) : getE C f a (.ref C) (some dd) (.ref a) H Q := ⟨rfl, rfl, dd, v, rfl, h, q⟩
theorem w_callW {i : Nat} {fa : Addr} {sp : Sp} {t : TA} {Q : VK} (h : σ[i]? = some (some (.ref fa))) (q : t σ H fun vs H1 => sp vs H1 Q fun cls d H' => W cls d σ H') : tCallW i fa sp W t σ H Q := ⟨h, q⟩
end
def sp_read (K : PySem.W.Frag) (C CI : Addr) : Sp := fun vs H Q E => ∃ v, vs = [.ref C, v] ∧
  ((∃ z, v = .str z ∧ OkS z 10000 ∧ (goodW (wordsZ z) = true → ∀ k a b, wordsZ z = [k, a, b] → ∀ x H', Ex H H' → IsMeas C H' x k a b → Q (.ref x) H') ∧ (goodW (wordsZ z) = false → Throws CI "text" v H E)) ∨ (NotTy K H v "str" ∧ Throws CI "text" v H E))
/-- a new list is the answer -/
def NewL (xs : List V) (H : Hp) (Q : VK) : Prop := ∀ p H', Ex H H' → H p = none → H' p = some (.lst xs) → Q (.ref p) H'
/-- caught(ask, odd): what ask gives, told; or the error's name and its field -/
def sp_caught (CI : Addr) (cn f : Str) (fa : Addr) (spA : Sp) : Sp := fun vs H Q _ => ∃ v, vs = [.ref fa, v] ∧ ∀ (Q' : VK) (E' : XK), (∀ r H1, NewL [.str (Str.ofString "told"), r] H1 Q → Q' r H1) →
  (∀ dd v' H1, H1 dd = some (.xd [(f, v')]) → NewL [.str cn, v'] H1 Q → E' (.ref CI) (some dd) H1) → spA [v] H Q' E'
/-! ### odd values: each is equal to itself -/
inductive Odd (C : Addr) (H : Hp) : V → Prop
  | non : Odd C H .non
  | bl (b : Bool) : Odd C H (.bl b)
  | int (i : Int) : Odd C H (.int i)
  | str {z : Str} (h : OkS z 10000) : Odd C H (.str z)
  | lst {a : Addr} {xs : List V} (h : H a = some (.lst xs)) (hf : ∀ x ∈ xs, flatB x = true) : Odd C H (.ref a)
  | tup {a : Addr} {ys : List Str} (h : H a = some (.tup (ys.map V.str))) (hf : ∀ y ∈ ys, PyData.strOk y = true) : Odd C H (.ref a)
  | dic {a : Addr} (h : H a = some (.dK [])) : Odd C H (.ref a)
  | meas {x : Addr} {k a b : Str} (h : IsMeas C H x k a b) (hk : OkS k 100) (ha : OkS a 100) (hb : OkS b 100) : Odd C H (.ref x)
theorem IsMeas.ext {C : Addr} {H H' : Hp} {x : Addr} {k a b : Str} (e : LamX.ExtN H H') (h : IsMeas C H x k a b) : IsMeas C H' x k a b :=
  let ⟨dx, t, h1, h2⟩ := h
  ⟨dx, t, e _ _ h1 (fun _ z => nomatch z), e _ _ h2 (fun _ z => nomatch z)⟩
theorem Odd.ext {C : Addr} {H H' : Hp} {v : V} (e : LamX.ExtN H H') (h : Odd C H v) : Odd C H' v := by
  cases h with
  | non => exact .non
  | bl b => exact .bl b
  | int i => exact .int i
  | str h => exact .str h
  | lst h hf => exact .lst (e _ _ h (fun _ z => nomatch z)) hf
  | tup h hf => exact .tup (e _ _ h (fun _ z => nomatch z)) hf
  | dic h => exact .dic (e _ _ h (fun _ z => nomatch z))
  | meas h hk ha hb => exact .meas (h.ext e) hk ha hb
theorem Ex.n {H H' : Hp} (e : Ex H H') : LamX.ExtN H H' := LamX.ExtN.of e
theorem eqv_strs : ∀ ys : List Str, PyData.eqvAll (ys.map PyData.str) (ys.map PyData.str) = true
  | [] => by simp [PyData.eqvAll]
  | y :: r => by
    have := eqv_strs r
    simp [PyData.eqvAll, PyData.eqv, this]
/-- what a class of instances must be known for -/
structure InsTy (K : PySem.W.Frag) (C : Addr) : Prop where
  ty : ∀ H x dx fs, H x = some (.ins C dx fs) → TyX K H (.ref x) (.ref C)
  nb : PySem.W.kitOne K (.ref C) (.type "bool") = some false
  ns : PySem.W.kitOne K (.ref C) (.type "str") = some false
  ni : PySem.W.kitOne K (.ref C) (.type "int") = some false
section
variable {K : PySem.W.Frag} {C : Addr} {H : Hp} {v : V} {Q : VK}
theorem Odd.isBool (M : InsTy K C) (h : Odd C H v) : ∃ T b, TyX K H v T ∧ PySem.W.kitOne K T (.type "bool") = some b := by
  cases h with
  | non => exact ⟨_, false, .base .non, kit_ty (by decide +kernel)⟩
  | bl b => exact ⟨_, true, .base (.bl b), kit_ty (by decide +kernel)⟩
  | int i => exact ⟨_, false, .base (.int i), kit_ty (by decide +kernel)⟩
  | str h => exact ⟨_, false, .base (.str _), kit_ty (by decide +kernel)⟩
  | lst h hf => exact ⟨_, false, .base (.lst h), kit_ty (by decide +kernel)⟩
  | tup h hf => exact ⟨_, false, .base (.tup h), kit_ty (by decide +kernel)⟩
  | dic h => exact ⟨_, false, .base (.dK h), kit_ty (by decide +kernel)⟩
  | meas h hk ha hb =>
    obtain ⟨dx, t, h1, _⟩ := h
    exact ⟨_, false, M.ty _ _ _ _ h1, M.nb⟩
theorem Odd.isStr (M : InsTy K C) (h : Odd C H v) : (∃ z, v = .str z ∧ OkS z 10000) ∨ NotTy K H v "str" := by
  cases h with
  | non => exact .inr ⟨_, .base .non, kit_ty (by decide +kernel)⟩
  | bl b => exact .inr ⟨_, .base (.bl b), kit_ty (by decide +kernel)⟩
  | int i => exact .inr ⟨_, .base (.int i), kit_ty (by decide +kernel)⟩
  | str h => exact .inl ⟨_, rfl, h⟩
  | lst h hf => exact .inr ⟨_, .base (.lst h), kit_ty (by decide +kernel)⟩
  | tup h hf => exact .inr ⟨_, .base (.tup h), kit_ty (by decide +kernel)⟩
  | dic h => exact .inr ⟨_, .base (.dK h), kit_ty (by decide +kernel)⟩
  | meas h hk ha hb =>
    obtain ⟨dx, t, h1, _⟩ := h
    exact .inr ⟨_, M.ty _ _ _ _ h1, M.ns⟩
def rEqOdd (K : PySem.W.Frag) (C : Addr) : R2 := fun x y H Q => rEqVU K x y H Q ∨ rEqO C (sp_eqM C) E0 x y H Q
theorem odd_eq (h : Odd C H v) (q : Q (.bl true) H) : rEqOdd K C v v H Q := by
  have self : ∀ x : V, scal x x = true → rEqOdd K C x x H Q := fun x hx => .inl (.inl (.inl ⟨hx, by rw [decide_eq_true rfl]; exact q⟩))
  cases h with
  | non => exact self _ rfl
  | bl b => exact self _ rfl
  | int i => exact self _ rfl
  | str h => exact self _ rfl
  | @lst a xs h hf =>
    refine .inl (.inr ⟨1, by decide, .inl ⟨a, a, xs, xs, rfl, rfl, .of h, .of h, ?_⟩, q⟩)
    clear h
    induction xs with
    | nil => exact .nil
    | cons x r ih => exact .cons (.inl ⟨rfl, hf x List.mem_cons_self⟩) (ih fun z hz => hf z (List.mem_cons_of_mem _ hz))
  | @tup a ys h hf =>
    refine .inl (.inl (.inr ⟨_, _, .tup (.of h) (dps_str ys), .tup (.of h) (dps_str ys), shaped_strsT hf, shaped_strsT hf, ?_⟩))
    have e : PyData.eqv (.tuple (ys.map PyData.str)) (.tuple (ys.map PyData.str)) = true := by
      simp only [PyData.eqv]
      exact eqv_strs ys
    rw [e]
    exact q
  | @dic a h => exact .inl (.inr ⟨1, by decide, .inr ⟨a, a, [], [], rfl, rfl, h, h, rfl, fun _ z => nomatch z⟩, q⟩)
  | @meas x k a b h hk ha hb =>
    obtain ⟨dx, t, h1, h2⟩ := id h
    refine .inr ⟨x, x, dx, _, dx, _, rfl, rfl, h1, h1, x, x, k, a, b, k, a, b, rfl, h, h, hk, ha, hb, hk, ha, hb, ⟨_, rfl⟩, ?_⟩
    rw [decide_eq_true ⟨rfl, rfl, rfl⟩]
    exact q
theorem a_neBB {b : Bool} (q : Q (.bl false) H) : rNeU K (.bl b) (.bl b) H Q := .inl ⟨rfl, by rw [decide_eq_true rfl]; exact q⟩
end
def sp_is (C : Addr) : Sp := fun vs H Q _ => ∃ (p : Addr) (w : Str) (v : V), vs = [.ref p, .str w, v] ∧ H p = some (.lst [.str w, v]) ∧ Odd C H v ∧ Q (.bl true) H
def sp_lread : Sp := fun vs H Q _ => ∃ z, vs = [.str z] ∧ OkS z 10000 ∧ (goodW (wordsZ z) = true → NewL ((wordsZ z).map V.str) H Q) ∧ (goodW (wordsZ z) = false → RetV .non H Q)
/-! ### lists of texts, and their joins -/
theorem atI_map {α β : Type} {f : α → β} {xs : List α} {i : Int} {x : α} (h : atI xs i = some x) : atI (xs.map f) i = some (f x) := by
  unfold atI at h ⊢
  obtain ⟨j, h1, h2⟩ := Option.bind_eq_some_iff.mp h
  rw [List.length_map]
  exact Option.bind_eq_some_iff.mpr ⟨j, h1, by rw [List.getElem?_map, h2]; rfl⟩
theorem cut_strs (xs : List Str) (lo hi : Option Int) : ∃ ys : List Str, cutV (xs.map V.str) lo hi = ys.map V.str ∧ ys.length ≤ xs.length ∧ ∀ y ∈ ys, y ∈ xs := by
  refine ⟨(xs.drop (HT.sIx xs.length 0 lo)).take (HT.sIx xs.length xs.length hi - HT.sIx xs.length 0 lo), ?_, ?_, fun y hy => List.mem_of_mem_drop (List.mem_of_mem_take hy)⟩
  · unfold cutV
    rw [List.length_map, List.map_take, List.map_drop]
  · rw [List.length_take, List.length_drop]
    omega
theorem sum_le {m : Nat} : ∀ ys : List Str, (∀ y ∈ ys, OkS y m) → (ys.map (·.length)).sum ≤ ys.length * m
  | [], _ => Nat.zero_le _
  | y :: r, h => by
    have h1 := (h y List.mem_cons_self).1
    have h2 := sum_le r fun z hz => h z (List.mem_cons_of_mem _ hz)
    rw [List.map_cons, List.sum_cons, List.length_cons, Nat.add_mul]
    omega
theorem repl_mem {y z : List Nat} : ∀ (l : List Nat) (s : Nat) (c : Nat), c ∈ StrLaws.replS y z s l → c ∈ z ∨ c ∈ l
  | [], s, c, h => by
    cases s <;> simp [StrLaws.replS] at h
  | d :: r, 0, c, h => by
    unfold StrLaws.replS at h
    split at h
    · rcases List.mem_append.mp h with h | h
      · exact .inl h
      · exact (repl_mem r _ c h).imp id (List.mem_cons_of_mem _)
    · rcases List.mem_cons.mp h with h | h
      · exact .inr (by rw [h]; exact List.mem_cons_self)
      · exact (repl_mem r _ c h).imp id (List.mem_cons_of_mem _)
  | d :: r, s + 1, c, h => by
    unfold StrLaws.replS at h
    exact (repl_mem r _ c h).imp id (List.mem_cons_of_mem _)
theorem OkS_repl {x y z : Str} {m k : Nat} (hx : OkS x m) (hz : OkS z k) (hy : 1 ≤ y.length) : OkS (Txt.replace x y z) (m + (m + 1) * k) := by
  have hl := TK.replace_len x y z
  have h1 := hx.1
  have h2 := hz.1
  rw [OkS_iff] at hx hz ⊢
  refine ⟨?_, fun c hc => ?_⟩
  · rw [← len_cps]
    have h3 : (x.length + 1) * z.length ≤ (m + 1) * k := Nat.mul_le_mul (by omega) h2
    omega
  · rw [StrLaws.replace_list hy] at hc
    rcases repl_mem _ _ _ hc with h | h
    · exact hz.2 c h
    · exact hx.2 c h
section
variable {K : PySem.W.Frag} {H : Hp} {Q : VK} {p : Addr} {ys : List Str}
theorem join_of {m : Nat} (h : H p = some (.lst (ys.map V.str))) (hy : ∀ y ∈ ys, OkS y m) (hm : m ≤ 1000) (hl : ys.length ≤ 20) (q : OkS (Txt.join blank ys) (ys.length * (m + 1)) → Q (.str (Txt.join blank ys)) H) : rJoin K (.str blank) [.ref p] H Q := by
  have l1 : blank.length = 1 := by decide +kernel
  refine m_joinL (.of h) ?_ (q (OkS_join ⟨by decide +kernel, by decide +kernel⟩ ys hy))
  have h1 := sum_le ys hy
  have h2 : ys.length * m ≤ 20 * 1000 := Nat.mul_le_mul hl hm
  rw [l1]
  omega
theorem a_cat {a b : Addr} {xs zs : List V} (ha : H a = some (.lst xs)) (hb : H b = some (.lst zs)) (hl : xs.length + zs.length ≤ 1000) (q : ∀ p, H p = none → Q (.ref p) (upd H p (.lst (xs ++ zs)))) : rAddU (.ref a) (.ref b) H Q :=
  .inr (.inr ⟨a, b, xs, zs, rfl, rfl, ha, hb, Nat.le_trans hl (by decide), q⟩)
end
def sp_spoilt : Sp := fun vs H Q _ => ∃ (p : Addr) (n : Nat) (z k a b : Str), vs = [.ref p, .str z] ∧ BoxAt H p n ∧ n ≤ 10000000 ∧ OkS z 100 ∧ wordsZ z = [k, a, b] ∧
  ∀ (z' : Str) (H' : Hp), OkS z' 10000 → ExB p H H' → BoxAt H' p (n + 10) → Q (.str z') H'
/-! ### steps at lambdas -/
def lamR (T : List (Addr × Str)) (q : Str) (tb : XK → TE) (spg : Addr → Sp → Sp) (E : XK) (t : TA) (σ : L2.St) (H : Hp) (Q : VK) : Prop := ∀ (f c : Addr) (H1 : Hp), LamX.ExtN H H1 → LamX.Tabs T H1 → H1 c = some (LamX.CodeO c q) → t σ H1 fun vs H2 => spg f (spLam c q tb σ) (.ref f :: vs) H2 Q E
theorem w_lam1 {T : List (Addr × Str)} {q : Str} {tb : XK → TE} {spg : Addr → Sp → Sp} {E : XK} {t : TA} {σ : L2.St} {H : Hp} {Q : VK} (hT : LamX.Tabs T H) (h : lamR T q tb spg E t σ H Q) : tLam1 T q tb spg E t σ H Q := ⟨hT, h⟩
def isR (C : Addr) (x : V) (P : Prop) : Prop := x = .ref C ∧ P
theorem is_of {C : Addr} {P : Prop} (p : P) : isR C (.ref C) P := ⟨rfl, p⟩
theorem w_cmeth {C : Addr} {sp : Sp} {E : XK} {ta : TE} {t : TA} {σ : L2.St} {H : Hp} {Q : VK} (q : ta σ H fun x H1 => isR C x (t σ H1 fun vs H2 => sp (.ref C :: vs) H2 Q E)) : ClX.tCMeth C sp E ta t σ H Q := q
theorem codeO_tbl {c : Addr} {q : Str} (ps : Array Value) : LamX.CodeO c q ≠ .tbl ps := LamX.codeO_ne ps
theorem ExtN.l {K : PySem.W.Frag} {H H' : Hp} {a : Addr} {xs : List V} (e : LamX.ExtN H H') (h : SqL K H a xs) : SqL K H' a xs := h.elim (fun h => .inl (h.elim (fun h => .inl (e _ _ h (fun _ z => nomatch z))) fun ⟨o, h⟩ => .inr ⟨o, e _ _ h (fun _ z => nomatch z)⟩)) .inr
theorem BoxAt.ext {H H' : Hp} {p : Addr} {n : Nat} (e : LamX.ExtN H H') (h : BoxAt H p n) : BoxAt H' p n := by
  obtain ⟨o, h1, h2⟩ := h
  refine ⟨o, e _ _ h1 (fun ps z => ?_), h2⟩
  obtain ⟨a, b, c, e2, _⟩ := h2
  rw [e2] at z
  cases z
theorem RetV.to {v : V} {H H' : Hp} {Q : VK} (q : RetV v H Q) (e : Ex H H') : RetV v H' Q := fun H2 e2 => q H2 (e.trans e2)
end G

set_option Elab.async false
set_option linter.all false
set_option maxRecDepth 100000
set_option maxHeartbeats 3900000
/-! M: values as data. A state of the abstract heap is told by data: what never changes any more is a tree of data (D); what may still change is an object of a list of objects (SH), named by its place -/
namespace M
open PySem PySem.Spec PyProof.Rows L2 G
inductive D where
  | non | bl (b : Bool) | int (i : Int) | str (z : Str) | ty (n : String) | adr (a : Addr)
  | lst (xs : List D) | scr (xs : List D) | tup (xs : List D) | dic (kvs : List (Key × D)) | ins (C : Addr) (fs : List (Str × D)) | exc (a dd C : Addr) (f : Str) (d : D) | obj (k : Nat)
inductive SO where
  | lst (xs : List D) | dic (kvs : List (Key × D)) | ins (C : Addr) (fs : List (Str × D)) | frz (d : D) | box (n : Nat) | lck (kvs : List (Key × D))
abbrev SH := List SO
def SO.live : SO → Bool
  | .frz _ => false
  | _ => true
section
variable (K : PySem.W.Frag) (al : List Addr) (G : Hp)
mutual
inductive Den : V → D → Prop
  | non : Den .non .non
  | bl (b : Bool) : Den (.bl b) (.bl b)
  | int (i : Int) : Den (.int i) (.int i)
  | str (z : Str) : Den (.str z) (.str z)
  | ty (n : String) : Den (.ty n) (.ty n)
  | adr (a : Addr) : Den (.ref a) (.adr a)
  | lst {a : Addr} {vs : List V} {xs : List D} : G a = some (.lst vs) → DenL vs xs → Den (.ref a) (.lst xs)
  | scr {a : Addr} {vs : List V} {xs : List D} : SqL K G a vs → DenL vs xs → Den (.ref a) (.scr xs)
  | tup {a : Addr} {vs : List V} {xs : List D} : G a = some (.tup vs) → DenL vs xs → Den (.ref a) (.tup xs)
  | exc {a dd C : Addr} {f : Str} {v : V} {d : D} : G dd = some (.xd [(f, v)]) → Den v d → Den (.ref a) (.exc a dd C f d)
  | dic {a : Addr} {ob : Obj} {vs : List (Key × V)} {xs : List (Key × D)} : G a = some (.frz ob (.dK vs)) → DenK vs xs → Den (.ref a) (.dic xs)
  | ins {a C dx : Addr} {vs : List (Str × V)} {xs : List (Str × D)} : G a = some (.ins C dx vs) → DenF vs xs → Den (.ref a) (.ins C xs)
  | obj {k : Nat} {a : Addr} : al[k]? = some a → Den (.ref a) (.obj k)
inductive DenL : List V → List D → Prop
  | nil : DenL [] []
  | cons {v : V} {d : D} {vs : List V} {ds : List D} : Den v d → DenL vs ds → DenL (v :: vs) (d :: ds)
inductive DenK : List (Key × V) → List (Key × D) → Prop
  | nil : DenK [] []
  | cons {k : Key} {v : V} {d : D} {vs : List (Key × V)} {ds : List (Key × D)} : Den v d → DenK vs ds → DenK ((k, v) :: vs) ((k, d) :: ds)
inductive DenF : List (Str × V) → List (Str × D) → Prop
  | nil : DenF [] []
  | cons {k : Str} {v : V} {d : D} {vs : List (Str × V)} {ds : List (Str × D)} : Den v d → DenF vs ds → DenF ((k, v) :: vs) ((k, d) :: ds)
end
end
section
variable {K : PySem.W.Frag} {al al' : List Addr} {G G' : Hp}
mutual
theorem Den.mono (ha : ∀ (k : Nat) (a : Addr), al[k]? = some a → al'[k]? = some a) (hg : Ex G G') : ∀ {v : V} {d : D}, Den K al G v d → Den K al' G' v d
  | _, _, .non => .non
  | _, _, .bl b => .bl b
  | _, _, .int i => .int i
  | _, _, .str z => .str z
  | _, _, .ty n => .ty n
  | _, _, .adr a => .adr a
  | _, _, .lst h r => .lst (hg _ _ h) (DenL.mono ha hg r)
  | _, _, .scr h r => .scr (hg.l h) (DenL.mono ha hg r)
  | _, _, .tup h r => .tup (hg _ _ h) (DenL.mono ha hg r)
  | _, _, .exc h r => .exc (hg _ _ h) (Den.mono ha hg r)
  | _, _, .dic h r => .dic (hg _ _ h) (DenK.mono ha hg r)
  | _, _, .ins h r => .ins (hg _ _ h) (DenF.mono ha hg r)
  | _, _, .obj h => .obj (ha _ _ h)
theorem DenL.mono (ha : ∀ (k : Nat) (a : Addr), al[k]? = some a → al'[k]? = some a) (hg : Ex G G') : ∀ {v : List V} {d : List D}, DenL K al G v d → DenL K al' G' v d
  | _, _, .nil => .nil
  | _, _, .cons h r => .cons (Den.mono ha hg h) (DenL.mono ha hg r)
theorem DenK.mono (ha : ∀ (k : Nat) (a : Addr), al[k]? = some a → al'[k]? = some a) (hg : Ex G G') : ∀ {v : List (Key × V)} {d : List (Key × D)}, DenK K al G v d → DenK K al' G' v d
  | _, _, .nil => .nil
  | _, _, .cons h r => .cons (Den.mono ha hg h) (DenK.mono ha hg r)
theorem DenF.mono (ha : ∀ (k : Nat) (a : Addr), al[k]? = some a → al'[k]? = some a) (hg : Ex G G') : ∀ {v : List (Str × V)} {d : List (Str × D)}, DenF K al G v d → DenF K al' G' v d
  | _, _, .nil => .nil
  | _, _, .cons h r => .cons (Den.mono ha hg h) (DenF.mono ha hg r)
end
theorem DenL.length : ∀ {vs : List V} {ds : List D}, DenL K al G vs ds → vs.length = ds.length
  | _, _, .nil => rfl
  | _, _, .cons _ r => by rw [List.length_cons, List.length_cons, DenL.length r]
theorem DenL.get : ∀ {vs : List V} {ds : List D} {i : Nat} {d : D}, DenL K al G vs ds → ds[i]? = some d → ∃ v, vs[i]? = some v ∧ Den K al G v d
  | _, _, i, d, .nil, e => by simp at e
  | _, _, 0, d, .cons h _, e => by simp at e; subst e; exact ⟨_, rfl, h⟩
  | _, _, i + 1, d, .cons _ r, e => by
    obtain ⟨v, h1, h2⟩ := DenL.get (i := i) (d := d) r (by simpa using e)
    exact ⟨v, by simpa using h1, h2⟩
theorem DenL.get' : ∀ {vs : List V} {ds : List D} {i : Nat} {v : V}, DenL K al G vs ds → vs[i]? = some v → ∃ d, ds[i]? = some d ∧ Den K al G v d
  | _, _, i, d, .nil, e => by simp at e
  | _, _, 0, d, .cons h _, e => by simp at e; subst e; exact ⟨_, rfl, h⟩
  | _, _, i + 1, d, .cons _ r, e => by
    obtain ⟨v, h1, h2⟩ := DenL.get' (i := i) (v := d) r (by simpa using e)
    exact ⟨v, by simpa using h1, h2⟩
theorem DenL.append : ∀ {vs us : List V} {ds es : List D}, DenL K al G vs ds → DenL K al G us es → DenL K al G (vs ++ us) (ds ++ es)
  | _, _, _, _, .nil, s => s
  | _, _, _, _, .cons h r, s => .cons h (r.append s)
theorem DenL.take : ∀ {vs : List V} {ds : List D} (n : Nat), DenL K al G vs ds → DenL K al G (vs.take n) (ds.take n)
  | _, _, 0, _ => .nil
  | _, _, _ + 1, .nil => .nil
  | _, _, n + 1, .cons h r => .cons h (r.take n)
theorem DenL.drop : ∀ {vs : List V} {ds : List D} (n : Nat), DenL K al G vs ds → DenL K al G (vs.drop n) (ds.drop n)
  | _, _, 0, r => r
  | _, _, _ + 1, .nil => .nil
  | _, _, n + 1, .cons _ r => r.drop n
theorem DenL.set {v : V} {d : D} (h : Den K al G v d) : ∀ {vs : List V} {ds : List D} (i : Nat), DenL K al G vs ds → DenL K al G (vs.set i v) (ds.set i d)
  | _, _, _, .nil => .nil
  | _, _, 0, .cons _ r => .cons h r
  | _, _, i + 1, .cons q r => .cons q (DenL.set h i r)
theorem DenL.erase : ∀ {vs : List V} {ds : List D} (i : Nat), DenL K al G vs ds → DenL K al G (vs.eraseIdx i) (ds.eraseIdx i)
  | _, _, _, .nil => .nil
  | _, _, 0, .cons _ r => r
  | _, _, i + 1, .cons q r => .cons q (DenL.erase i r)
theorem DenL.reverse : ∀ {vs : List V} {ds : List D}, DenL K al G vs ds → DenL K al G vs.reverse ds.reverse
  | _, _, .nil => .nil
  | _, _, .cons h r => by
    rw [List.reverse_cons, List.reverse_cons]
    exact r.reverse.append (.cons h .nil)
theorem DenL.flatten : ∀ {vs : List V} {ds : List D} (n : Nat), DenL K al G vs ds → DenL K al G (List.replicate n vs).flatten (List.replicate n ds).flatten
  | _, _, 0, _ => .nil
  | _, _, n + 1, r => by
    rw [List.replicate_succ, List.replicate_succ, List.flatten_cons, List.flatten_cons]
    exact r.append (r.flatten n)
theorem DenL.strs : ∀ zs : List Str, DenL K al G (zs.map V.str) (zs.map D.str)
  | [] => .nil
  | z :: zs => .cons (.str z) (DenL.strs zs)
theorem DenL.ints : ∀ zs : List Int, DenL K al G (zs.map V.int) (zs.map D.int)
  | [] => .nil
  | z :: zs => .cons (.int z) (DenL.ints zs)
theorem DenL.of_ints : ∀ {vs : List V} {zs : List Int}, DenL K al G vs (zs.map D.int) → vs = zs.map V.int
  | _, [], .nil => rfl
  | _, z :: zs, .cons h r => by
    cases h
    rw [DenL.of_ints r]
    rfl
theorem DenL.of_strs : ∀ {vs : List V} {zs : List Str}, DenL K al G vs (zs.map D.str) → vs = zs.map V.str
  | _, [], .nil => rfl
  | _, z :: zs, .cons h r => by
    cases h
    rw [DenL.of_strs r]
    rfl
theorem DenF.lookup {f : Str} : ∀ {vs : List (Str × V)} {ds : List (Str × D)} {d : D}, DenF K al G vs ds → ds.lookup f = some d → ∃ v, vs.lookup f = some v ∧ Den K al G v d
  | _, _, _, .nil, e => by cases e
  | _, _, d, .cons (k := k) h r, e => by
    by_cases q : f == k
    · simp only [List.lookup, q] at e ⊢
      cases e
      exact ⟨_, rfl, h⟩
    · simp only [List.lookup, q] at e ⊢
      exact r.lookup e
theorem DenF.none {f : Str} : ∀ {vs : List (Str × V)} {ds : List (Str × D)}, DenF K al G vs ds → ds.lookup f = none → vs.lookup f = none
  | _, _, .nil, e => rfl
  | _, _, .cons (k := k) h r, e => by
    by_cases q : f == k
    · simp only [List.lookup, q] at e ⊢
      cases e
    · simp only [List.lookup, q] at e ⊢
      exact r.none e
theorem DenF.length : ∀ {vs : List (Str × V)} {ds : List (Str × D)}, DenF K al G vs ds → vs.length = ds.length
  | _, _, .nil => rfl
  | _, _, .cons _ r => by rw [List.length_cons, List.length_cons, r.length]
theorem DenK.length : ∀ {vs : List (Key × V)} {ds : List (Key × D)}, DenK K al G vs ds → vs.length = ds.length
  | _, _, .nil => rfl
  | _, _, .cons _ r => by rw [List.length_cons, List.length_cons, r.length]
def putFD (f : Str) (d : D) : List (Str × D) → List (Str × D)
  | [] => [(f, d)]
  | (g, e) :: r => if g = f then (g, d) :: r else (g, e) :: putFD f d r
end
/-! ### the state -/
def Ent (K : PySem.W.Frag) (al : List Addr) (G H : Hp) (a : Addr) : SO → Prop
  | .lst xs => ∃ vs, H a = some (.lst vs) ∧ DenL K al G vs xs
  | .dic xs => ∃ vs, H a = some (.dK vs) ∧ DenK K al G vs xs
  | .ins C xs => ∃ dx vs, H a = some (.ins C dx vs) ∧ DenF K al G vs xs
  | .frz d => Den K al G (.ref a) d
  | .box n => BoxAt H a n
  | .lck xs => ∃ ob vs, H a = some (.frz ob (.dK vs)) ∧ DenK K al G vs xs
structure Rep (K : PySem.W.Frag) (tb : List (Addr × Str)) (al : List Addr) (G : Hp) (c : SH) (H : Hp) : Prop where
  len : al.length = c.length
  sub : Ex G H
  ent : ∀ (k : Nat) (a : Addr) (o : SO), al[k]? = some a → c[k]? = some o → Ent K al G H a o
  out : ∀ (k : Nat) (a : Addr) (o : SO), al[k]? = some a → c[k]? = some o → o.live = true → G a = none
  inj : ∀ (i j : Nat) (a : Addr) (o : SO), al[i]? = some a → al[j]? = some a → c[i]? = some o → o.live = true → i = j
  tak : ∀ (k : Nat) (a : Addr), al[k]? = some a → ∃ u, H a = some u ∧ ∀ ps, u ≠ .tbl ps
  gt : ∀ (a : Addr) (ps : Array Value), G a ≠ some (.tbl ps)
  tab : LamX.Tabs tb H
def Liv (al : List Addr) (c : SH) (a : Addr) : Prop := ∃ (k : Nat) (o : SO), al[k]? = some a ∧ c[k]? = some o ∧ o.live = true
/-- free, or a code object's table -/
def Fr (H : Hp) (a : Addr) : Prop := ∀ o, H a = some o → ∃ ps, o = .tbl ps
theorem Fr.of {H : Hp} {a : Addr} (h : H a = none) : Fr H a := fun o e => by rw [h] at e; cases e
structure Le (al : List Addr) (G : Hp) (c : SH) (H : Hp) (al' : List Addr) (G' : Hp) (c' : SH) (H' : Hp) : Prop where
  ad : ∀ (k : Nat) (a : Addr), al[k]? = some a → al'[k]? = some a
  g : Ex G G'
  fr : ∀ (a : Addr) (o : HO), H a = some o → ¬ Liv al c a → (∀ ps, o ≠ .tbl ps) → H' a = some o
  nl : ∀ (a : Addr), Liv al' c' a → Liv al c a ∨ Fr H a
  dom : ∀ (a : Addr), Fr H' a → Fr H a
  gn : ∀ (a : Addr) (o : HO), G' a = some o → (∃ u, G a = some u) ∨ Fr H a ∨ Liv al c a
  nd : ∀ (k : Nat) (a : Addr), al'[k]? = some a → (∃ j : Nat, al[j]? = some a) ∨ Fr H a
theorem Le.refl {al : List Addr} {G : Hp} {c : SH} {H : Hp} : Le al G c H al G c H := ⟨fun _ _ => id, Ex.refl _, fun _ _ h _ _ => h, fun _ => .inl, fun _ => id, fun _ _ h => .inl ⟨_, h⟩, fun k _ h => .inl ⟨k, h⟩⟩
theorem Le.trans {al al1 al2 : List Addr} {G G1 G2 : Hp} {c c1 c2 : SH} {H H1 H2 : Hp} (a : Le al G c H al1 G1 c1 H1) (b : Le al1 G1 c1 H1 al2 G2 c2 H2) : Le al G c H al2 G2 c2 H2 where
  ad k x h := b.ad k x (a.ad k x h)
  g := a.g.trans b.g
  fr x o h n t := b.fr x o (a.fr x o h n t) (fun l => (a.nl x l).elim n fun z => by obtain ⟨ps, e⟩ := z o h; exact t ps e) t
  nl x l := by
    rcases b.nl x l with h | h
    · exact a.nl x h
    · exact .inr (a.dom x h)
  dom x h := a.dom x (b.dom x h)
  gn x o h := by
    rcases b.gn x o h with ⟨u, h⟩ | h | h
    · exact a.gn x u h
    · exact .inr (.inl (a.dom x h))
    · exact (a.nl x h).elim (fun h => .inr (.inr h)) fun h => .inr (.inl h)
  nd k x h := by
    rcases b.nd k x h with ⟨j, h⟩ | h
    · exact a.nd j x h
    · exact .inr (a.dom x h)
theorem fr_upd {H : Hp} {p a : Addr} {o : HO} (hp : H p = none ∨ ∃ u, H p = some u ∧ ∀ ps, u ≠ .tbl ps) (ho : ∀ ps, o ≠ .tbl ps) (h : Fr (upd H p o) a) : Fr H a := by
  by_cases e : a = p
  · rw [e] at h
    obtain ⟨ps, e2⟩ := h o upd_same
    exact absurd e2 (ho ps)
  · intro u hu
    exact h u (by rw [upd_ne e]; exact hu)
section
variable {K : PySem.W.Frag} {tb : List (Addr × Str)} {al al' : List Addr} {G G' : Hp} {c c' : SH} {H H' : Hp} {v : V} {d : D}
theorem Den.le (h : Den K al G v d) (l : Le al G c H al' G' c' H') : Den K al' G' v d := h.mono l.ad l.g
theorem DenL.le {vs : List V} {ds : List D} (h : DenL K al G vs ds) (l : Le al G c H al' G' c' H') : DenL K al' G' vs ds := h.mono l.ad l.g
theorem Ent.notTbl {a : Addr} {o : SO} (h : Ent K al G H a o) (l : o.live = true) : ∀ ps, H a ≠ some (.tbl ps) := by
  intro ps e
  cases o with
  | lst xs => obtain ⟨vs, h, _⟩ := h; rw [e] at h; cases h
  | dic xs => obtain ⟨vs, h, _⟩ := h; rw [e] at h; cases h
  | ins C xs => obtain ⟨dx, vs, h, _⟩ := h; rw [e] at h; cases h
  | frz d => cases l
  | box n =>
    obtain ⟨o, h, x, y, z, rfl, _⟩ := h
    rw [e] at h
    cases h
  | lck xs => obtain ⟨ob, vs, h, _⟩ := h; rw [e] at h; cases h
theorem Ent.there {a : Addr} {o : SO} (h : Ent K al G H a o) (l : o.live = true) : ∃ u, H a = some u ∧ (∀ ps, u ≠ .tbl ps) ∧ (∀ φ, u ≠ .ext φ) := by
  cases o with
  | lst xs => obtain ⟨vs, h, _⟩ := h; exact ⟨_, h, nofun, nofun⟩
  | dic xs => obtain ⟨vs, h, _⟩ := h; exact ⟨_, h, nofun, nofun⟩
  | ins C xs => obtain ⟨dx, vs, h, _⟩ := h; exact ⟨_, h, nofun, nofun⟩
  | frz d => cases l
  | box n =>
    obtain ⟨o, h, x, y, z, rfl, _⟩ := h
    exact ⟨_, h, nofun, nofun⟩
  | lck xs => obtain ⟨ob, vs, h, _⟩ := h; exact ⟨_, h, nofun, nofun⟩
theorem tabs_upd {a : Addr} {u o : HO} (h : LamX.Tabs tb H) (e : H a = some u) (n : ∀ ps, u ≠ .tbl ps) (n2 : ∀ φ, u ≠ .ext φ) : LamX.Tabs tb (upd H a o) := by
  intro p hp
  obtain ⟨ps, h1, h2, h3⟩ := h p hp
  refine ⟨ps, ?_, h2, fun pos cv e2 => ?_⟩
  · rw [upd_ne (fun z => by rw [z, e] at h1; exact n ps (Option.some.inj h1))]
    exact h1
  · obtain ⟨cc, r1, r2⟩ := h3 pos cv e2
    refine ⟨cc, r1, ?_⟩
    rw [upd_ne (fun z => by rw [z, e] at r2; exact n2 _ (Option.some.inj r2))]
    exact r2
theorem Ent.ext {a : Addr} {o : SO} (h : Ent K al G H a o) (ha : ∀ (k : Nat) (a : Addr), al[k]? = some a → al'[k]? = some a) (hg : Ex G G') (hh : ∀ u, H a = some u → H' a = some u) : Ent K al' G' H' a o := by
  cases o with
  | lst xs => obtain ⟨vs, h, r⟩ := h; exact ⟨vs, hh _ h, r.mono ha hg⟩
  | dic xs => obtain ⟨vs, h, r⟩ := h; exact ⟨vs, hh _ h, r.mono ha hg⟩
  | ins C xs => obtain ⟨dx, vs, h, r⟩ := h; exact ⟨dx, vs, hh _ h, r.mono ha hg⟩
  | frz d => exact Den.mono ha hg h
  | box n => obtain ⟨u, h, r⟩ := h; exact ⟨u, hh _ h, r⟩
  | lck xs => obtain ⟨ob, vs, h, r⟩ := h; exact ⟨ob, vs, hh _ h, r.mono ha hg⟩
theorem Rep.fresh (R : Rep K tb al G c H) {p : Addr} (hp : H p = none) : G p = none := R.sub.fresh hp
/-- a live address is taken -/
theorem Rep.liv (R : Rep K tb al G c H) {a : Addr} (h : Liv al c a) : ∃ u, H a = some u ∧ (∀ ps, u ≠ .tbl ps) ∧ (∀ φ, u ≠ .ext φ) := by
  obtain ⟨k, o, h1, h2, h3⟩ := h
  exact Ent.there (R.ent k a o h1 h2) h3
theorem Rep.den_some (R : Rep K tb al G c H) {a : Addr} {k : Nat} (h : al[k]? = some a) : k < c.length := by
  have := (List.getElem?_eq_some_iff.mp h).1
  rw [R.len] at this
  exact this
/-- new data -/
theorem Rep.data (R : Rep K tb al G c H) {p : Addr} {o : HO} (hp : H p = none) (ho : ∀ ps, o ≠ .tbl ps) : Rep K tb al (upd G p o) c (upd H p o) where
  len := R.len
  sub a u h := by
    by_cases e : a = p
    · rw [e, upd_same] at h ⊢; exact h
    · rw [upd_ne e] at h ⊢; exact R.sub a u h
  ent k a s h1 h2 := Ent.ext (R.ent k a s h1 h2) (fun _ _ => id) (Ex.new (R.fresh hp)) fun u hu => Ex.new hp a u hu
  out k a s h1 h2 h3 := by
    obtain ⟨u, hu, _⟩ := Ent.there (R.ent k a s h1 h2) h3
    rw [upd_ne (ne_of_none hu hp)]
    exact R.out k a s h1 h2 h3
  inj := R.inj
  tak k a h := let ⟨u, hu, n⟩ := R.tak k a h; ⟨u, Ex.new hp a u hu, n⟩
  gt a ps h := by
    by_cases e : a = p
    · rw [e, upd_same] at h; exact ho ps (Option.some.inj h)
    · rw [upd_ne e] at h; exact R.gt a ps h
  tab := R.tab.ext (Ex.new hp)
theorem gn_upd {p : Addr} {o : HO} (hp : Fr H p) : ∀ (a : Addr) (u : HO), upd G p o a = some u → (∃ u, G a = some u) ∨ Fr H a ∨ Liv al c a := fun a u h => by
  by_cases e : a = p
  · rw [e]; exact .inr (.inl hp)
  · rw [upd_ne e] at h; exact .inl ⟨_, h⟩
theorem Le.data {p : Addr} (hp : H p = none) (hg : G p = none) {o : HO} (ho : ∀ ps, o ≠ .tbl ps) : Le al G c H al (upd G p o) c (upd H p o) where
  ad _ _ := id
  g := Ex.new hg
  fr a u h _ _ := Ex.new hp a u h
  nl a := .inl
  dom a h := fr_upd (.inl hp) ho h
  gn := gn_upd (.of hp)
  nd k _ h := .inl ⟨k, h⟩
/-- the heap grows, nothing else -/
theorem Rep.grow (R : Rep K tb al G c H) (e : Ex H H') : Rep K tb al G c H' where
  len := R.len
  sub := R.sub.trans e
  ent k a s h1 h2 := Ent.ext (R.ent k a s h1 h2) (fun _ _ => id) (Ex.refl _) fun u hu => e a u hu
  out := R.out
  inj := R.inj
  tak k a h := let ⟨u, hu, n⟩ := R.tak k a h; ⟨u, e a u hu, n⟩
  gt := R.gt
  tab := R.tab.ext e
/-- what stands apart is taken for data -/
theorem Rep.adopt (R : Rep K tb al G c H) {a : Addr} {u : HO} (hu : H a = some u) (hn : ¬ Liv al c a) (ht : ∀ ps, u ≠ .tbl ps) : Rep K tb al (upd G a u) c H ∧ Ex G (upd G a u) := by
  have ex : Ex G (upd G a u) := fun b w h => by
    by_cases e : b = a
    · rw [e] at h ⊢
      rw [R.sub _ _ h] at hu
      rw [upd_same, ← hu]
    · rw [upd_ne e]; exact h
  refine ⟨{ R with sub := fun b w h => ?_, ent := fun k b s h1 h2 => Ent.ext (R.ent k b s h1 h2) (fun _ _ => id) ex fun w hw => hw, out := fun k b s h1 h2 h3 => ?_, gt := fun b ps h => ?_ }, ex⟩
  · by_cases e : b = a
    · rw [e, upd_same] at h; rw [e, hu]; exact h
    · rw [upd_ne e] at h; exact R.sub b w h
  · have e : b ≠ a := fun z => hn ⟨k, s, by rw [← z]; exact h1, h2, h3⟩
    rw [upd_ne e]
    exact R.out k b s h1 h2 h3
  · by_cases e : b = a
    · rw [e, upd_same] at h; exact ht ps (Option.some.inj h)
    · rw [upd_ne e] at h; exact R.gt b ps h
theorem Le.grow (e : Ex H H') : Le al G c H al G c H' where
  ad _ _ := id
  g := Ex.refl _
  fr a u h _ _ := e a u h
  nl a := .inl
  dom a h o ho := h o (e a o ho)
  gn _ _ h := .inl ⟨_, h⟩
  nd k _ h := .inl ⟨k, h⟩
theorem get_app {α : Type} {xs : List α} {y x : α} {k : Nat} (h : (xs ++ [y])[k]? = some x) : xs[k]? = some x ∨ (k = xs.length ∧ x = y) := by
  by_cases hk : k < xs.length
  · rw [List.getElem?_append_left hk] at h
    exact .inl h
  · rw [List.getElem?_append_right (by omega)] at h
    by_cases e : k - xs.length = 0
    · rw [e] at h
      simp at h
      exact .inr ⟨by omega, h.symm⟩
    · obtain ⟨j, hj⟩ : ∃ j, k - xs.length = j + 1 := ⟨k - xs.length - 1, by omega⟩
      rw [hj] at h
      simp at h
theorem app_get {α : Type} {xs : List α} {y x : α} {k : Nat} (h : xs[k]? = some x) : (xs ++ [y])[k]? = some x := by
  rw [List.getElem?_append_left (List.getElem?_eq_some_iff.mp h).1]
  exact h
/-- a new object that may change -/
theorem Rep.obj (R : Rep K tb al G c H) {p : Addr} {o : SO} (hn : H p = none) (ex : Ex H H') (he : Ent K (al ++ [p]) G H' p o) (hl : o.live = true) : Rep K tb (al ++ [p]) G (c ++ [o]) H' where
  len := by rw [List.length_append, List.length_append, R.len]; rfl
  sub := R.sub.trans ex
  ent k a s h1 h2 := by
    rcases get_app h1 with g1 | ⟨e1, e2⟩
    · rcases get_app h2 with g2 | ⟨e3, e4⟩
      · exact Ent.ext (R.ent k a s g1 g2) (fun _ _ => app_get) (Ex.refl _) fun u hu => ex a u hu
      · have := R.den_some g1
        omega
    · rcases get_app h2 with g2 | ⟨e3, e4⟩
      · have := (List.getElem?_eq_some_iff.mp g2).1
        have := R.len
        omega
      · subst e2 e4
        exact he
  out k a s h1 h2 h3 := by
    rcases get_app h1 with g1 | ⟨e1, e2⟩
    · rcases get_app h2 with g2 | ⟨e3, e4⟩
      · exact R.out k a s g1 g2 h3
      · have := R.den_some g1
        omega
    · rw [e2]
      exact R.fresh hn
  inj i j a s h1 h2 h3 h4 := by
    have nw : ∀ k : Nat, al[k]? ≠ some p := fun k g => by
      obtain ⟨u, hu, _⟩ := R.tak k p g
      rw [hn] at hu
      cases hu
    rcases get_app h1 with g1 | ⟨e1, e2⟩
    · rcases get_app h2 with g2 | ⟨e3, e4⟩
      · rcases get_app h3 with g3 | ⟨e5, e6⟩
        · exact R.inj i j a s g1 g2 g3 h4
        · have := R.den_some g1
          omega
      · rw [e4] at g1
        exact absurd g1 (nw i)
    · rcases get_app h2 with g2 | ⟨e3, e4⟩
      · rw [e2] at g2
        exact absurd g2 (nw j)
      · omega
  tak k a h := by
    rcases get_app h with g | ⟨_, e⟩
    · obtain ⟨u, hu, n⟩ := R.tak k a g
      exact ⟨u, ex a u hu, n⟩
    · subst e
      obtain ⟨u, hu, n, _⟩ := Ent.there he hl
      exact ⟨u, hu, n⟩
  gt := R.gt
  tab := R.tab.ext ex
theorem Le.obj {p : Addr} {o : SO} (R : Rep K tb al G c H) (hn : H p = none) (ex : Ex H H') : Le al G c H (al ++ [p]) G (c ++ [o]) H' where
  ad _ _ := app_get
  g := Ex.refl _
  fr a u h _ _ := ex a u h
  nl a h := by
    obtain ⟨k, s, h1, h2, h3⟩ := h
    rcases get_app h1 with g1 | ⟨e1, e2⟩
    · rcases get_app h2 with g2 | ⟨e3, e4⟩
      · exact .inl ⟨k, s, g1, g2, h3⟩
      · have := R.den_some g1
        omega
    · rw [e2]
      exact .inr (.of hn)
  dom a h o ho := h o (ex a o ho)
  gn _ _ h := .inl ⟨_, h⟩
  nd k a h := by
    rcases get_app h with g | ⟨_, e⟩
    · exact .inl ⟨k, g⟩
    · rw [e]; exact .inr (.of hn)
theorem set_get {α : Type} {xs : List α} {y x : α} {i k : Nat} (h : (xs.set i y)[k]? = some x) : (k = i ∧ x = y) ∨ (k ≠ i ∧ xs[k]? = some x) := by
  rw [List.getElem?_set] at h
  by_cases e : i = k
  · rw [if_pos e] at h
    split at h
    · cases h
      exact .inl ⟨e.symm, rfl⟩
    · cases h
  · rw [if_neg e] at h
    exact .inr ⟨fun z => e z.symm, h⟩
/-- an object changes -/
theorem Rep.change (R : Rep K tb al G c H) {k : Nat} {a : Addr} {s o : SO} {u : HO} (ha : al[k]? = some a) (hs : c[k]? = some s) (hl : s.live = true) (he : Ent K al G (upd H a u) a o) (ho : o.live = true) : Rep K tb al G (c.set k o) (upd H a u) where
  len := by rw [List.length_set]; exact R.len
  sub b w h := by
    rw [upd_ne (fun z => by rw [z, R.out k a s ha hs hl] at h; cases h)]
    exact R.sub b w h
  ent j b q h1 h2 := by
    rcases set_get h2 with ⟨e1, e2⟩ | ⟨e1, e2⟩
    · subst e1 e2
      rw [ha] at h1
      cases h1
      exact he
    · by_cases e : b = a
      · subst e
        exact absurd (R.inj k j b s ha h1 hs hl).symm e1
      · exact Ent.ext (R.ent j b q h1 e2) (fun _ _ => id) (Ex.refl _) fun w hw => by rw [upd_ne e]; exact hw
  out j b q h1 h2 h3 := by
    rcases set_get h2 with ⟨e1, e2⟩ | ⟨e1, e2⟩
    · subst e1
      rw [ha] at h1
      cases h1
      exact R.out j a s ha hs hl
    · exact R.out j b q h1 e2 h3
  inj i j b q h1 h2 h3 h4 := by
    rcases set_get h3 with ⟨e1, e2⟩ | ⟨e1, e2⟩
    · subst e1
      exact R.inj i j b s h1 h2 hs hl
    · exact R.inj i j b q h1 h2 e2 h4
  tak j b h := by
    by_cases e : b = a
    · subst e
      obtain ⟨w, h1, h2, _⟩ := Ent.there he ho
      exact ⟨w, h1, h2⟩
    · rw [upd_ne e]; exact R.tak j b h
  gt := R.gt
  tab := by
    obtain ⟨w, h1, h2, h3⟩ := Ent.there (R.ent k a s ha hs) hl
    exact tabs_upd R.tab h1 h2 h3
theorem Le.change (R : Rep K tb al G c H) {k : Nat} {a : Addr} {s o : SO} {u : HO} (ha : al[k]? = some a) (hs : c[k]? = some s) (hl : s.live = true) (hu : ∀ ps, u ≠ .tbl ps) : Le al G c H al G (c.set k o) (upd H a u) where
  ad _ _ := id
  g := Ex.refl _
  fr b w h n _ := by
    have e : b ≠ a := fun z => n ⟨k, s, by rw [z]; exact ha, hs, hl⟩
    rw [upd_ne e]
    exact h
  nl b h := by
    obtain ⟨j, q, h1, h2, h3⟩ := h
    rcases set_get h2 with ⟨e1, e2⟩ | ⟨e1, e2⟩
    · subst e1
      exact .inl ⟨j, s, h1, hs, hl⟩
    · exact .inl ⟨j, q, h1, e2, h3⟩
  dom b h := by
    obtain ⟨w, h1, h2, _⟩ := Ent.there (R.ent k a s ha hs) hl
    exact fr_upd (.inr ⟨w, h1, h2⟩) hu h
  gn _ _ h := .inl ⟨_, h⟩
  nd k _ h := .inl ⟨k, h⟩
/-- an object becomes data -/
theorem Rep.freeze (R : Rep K tb al G c H) {k : Nat} {a : Addr} {s : SO} {u : HO} {d : D} (ha : al[k]? = some a) (hs : c[k]? = some s) (hl : s.live = true) (hu : H a = some u) (hd : Den K al (upd G a u) (.ref a) d) : Rep K tb al (upd G a u) (c.set k (.frz d)) H where
  len := by rw [List.length_set]; exact R.len
  sub b w h := by
    by_cases e : b = a
    · rw [e, upd_same] at h; rw [e, hu]; exact h
    · rw [upd_ne e] at h; exact R.sub b w h
  ent j b q h1 h2 := by
    rcases set_get h2 with ⟨e1, e2⟩ | ⟨e1, e2⟩
    · subst e1 e2
      rw [ha] at h1
      cases h1
      exact hd
    · exact Ent.ext (R.ent j b q h1 e2) (fun _ _ => id) (Ex.new (R.out k a s ha hs hl)) fun w hw => hw
  out j b q h1 h2 h3 := by
    rcases set_get h2 with ⟨e1, e2⟩ | ⟨e1, e2⟩
    · subst e2
      cases h3
    · have e : b ≠ a := fun z => e1 (R.inj k j a s ha (by rw [← z]; exact h1) hs hl).symm
      rw [upd_ne e]
      exact R.out j b q h1 e2 h3
  inj i j b q h1 h2 h3 h4 := by
    rcases set_get h3 with ⟨e1, e2⟩ | ⟨e1, e2⟩
    · subst e2
      cases h4
    · exact R.inj i j b q h1 h2 e2 h4
  tak := R.tak
  gt b ps h := by
    by_cases e : b = a
    · rw [e, upd_same] at h
      obtain ⟨w, h1, h2, _⟩ := Ent.there (R.ent k a s ha hs) hl
      rw [hu] at h1
      cases h1
      exact h2 ps (Option.some.inj h)
    · rw [upd_ne e] at h; exact R.gt b ps h
  tab := R.tab
theorem Le.freeze (R : Rep K tb al G c H) {k : Nat} {a : Addr} {s : SO} {u : HO} {d : D} (ha : al[k]? = some a) (hs : c[k]? = some s) (hl : s.live = true) : Le al G c H al (upd G a u) (c.set k (.frz d)) H where
  ad _ _ := id
  g := Ex.new (R.out k a s ha hs hl)
  fr b w h n _ := h
  nl b h := by
    obtain ⟨j, q, h1, h2, h3⟩ := h
    rcases set_get h2 with ⟨e1, e2⟩ | ⟨e1, e2⟩
    · subst e2
      cases h3
    · exact .inl ⟨j, q, h1, e2, h3⟩
  dom b h := h
  gn b w h := by
    by_cases e : b = a
    · rw [e]; exact .inr (.inr ⟨k, s, ha, hs, hl⟩)
    · rw [upd_ne e] at h; exact .inl ⟨_, h⟩
  nd k _ h := .inl ⟨k, h⟩
end
/-! ### no object from n on -/
mutual
def nb (n : Nat) : D → Bool
  | .lst xs => nbL n xs
  | .scr xs => nbL n xs
  | .tup xs => nbL n xs
  | .exc _ _ _ _ d => nb n d
  | .dic xs => nbK n xs
  | .ins _ xs => nbF n xs
  | .obj k => decide (k < n)
  | _ => true
def nbL (n : Nat) : List D → Bool
  | [] => true
  | x :: xs => nb n x && nbL n xs
def nbK (n : Nat) : List (Key × D) → Bool
  | [] => true
  | (_, x) :: xs => nb n x && nbK n xs
def nbF (n : Nat) : List (Str × D) → Bool
  | [] => true
  | (_, x) :: xs => nb n x && nbF n xs
end
section
variable {K : PySem.W.Frag} {al : List Addr} {G : Hp} {n : Nat}
mutual
theorem Den.cut : ∀ {v : V} {d : D}, Den K al G v d → nb n d = true → Den K (al.take n) G v d
  | _, _, .non, _ => .non
  | _, _, .bl b, _ => .bl b
  | _, _, .int i, _ => .int i
  | _, _, .str z, _ => .str z
  | _, _, .ty n, _ => .ty n
  | _, _, .adr a, _ => .adr a
  | _, _, .lst h r, e => .lst h (DenL.cut r (by simpa [nb] using e))
  | _, _, .scr h r, e => .scr h (DenL.cut r (by simpa [nb] using e))
  | _, _, .exc h r, e => .exc h (Den.cut r (by simpa [nb] using e))
  | _, _, .tup h r, e => .tup h (DenL.cut r (by simpa [nb] using e))
  | _, _, .dic h r, e => .dic h (DenK.cut r (by simpa [nb] using e))
  | _, _, .ins h r, e => .ins h (DenF.cut r (by simpa [nb] using e))
  | _, _, .obj h, e => .obj (by
      simp only [nb, decide_eq_true_eq] at e
      rw [List.getElem?_take_of_lt e]
      exact h)
theorem DenL.cut : ∀ {v : List V} {d : List D}, DenL K al G v d → nbL n d = true → DenL K (al.take n) G v d
  | _, _, .nil, _ => .nil
  | _, _, .cons h r, e => .cons (Den.cut h (by simp [nbL] at e; exact e.1)) (DenL.cut r (by simp [nbL] at e; exact e.2))
theorem DenK.cut : ∀ {v : List (Key × V)} {d : List (Key × D)}, DenK K al G v d → nbK n d = true → DenK K (al.take n) G v d
  | _, _, .nil, _ => .nil
  | _, _, .cons h r, e => .cons (Den.cut h (by simp [nbK] at e; exact e.1)) (DenK.cut r (by simp [nbK] at e; exact e.2))
theorem DenF.cut : ∀ {v : List (Str × V)} {d : List (Str × D)}, DenF K al G v d → nbF n d = true → DenF K (al.take n) G v d
  | _, _, .nil, _ => .nil
  | _, _, .cons h r, e => .cons (Den.cut h (by simp [nbF] at e; exact e.1)) (DenF.cut r (by simp [nbF] at e; exact e.2))
end
mutual
theorem Den.nb (hn : al.length ≤ n) : ∀ {v : V} {d : D}, Den K al G v d → nb n d = true
  | _, _, .non => rfl
  | _, _, .bl b => rfl
  | _, _, .int i => rfl
  | _, _, .str z => rfl
  | _, _, .ty n => rfl
  | _, _, .adr a => rfl
  | _, _, .lst h r => by simpa [M.nb] using DenL.nb hn r
  | _, _, .scr h r => by simpa [M.nb] using DenL.nb hn r
  | _, _, .exc h r => by simpa [M.nb] using Den.nb hn r
  | _, _, .tup h r => by simpa [M.nb] using DenL.nb hn r
  | _, _, .dic h r => by simpa [M.nb] using DenK.nb hn r
  | _, _, .ins h r => by simpa [M.nb] using DenF.nb hn r
  | _, _, .obj h => by
    have := (List.getElem?_eq_some_iff.mp h).1
    simp only [M.nb, decide_eq_true_eq]
    omega
theorem DenL.nb (hn : al.length ≤ n) : ∀ {v : List V} {d : List D}, DenL K al G v d → nbL n d = true
  | _, _, .nil => rfl
  | _, _, .cons h r => by simp [nbL, Den.nb hn h, DenL.nb hn r]
theorem DenK.nb (hn : al.length ≤ n) : ∀ {v : List (Key × V)} {d : List (Key × D)}, DenK K al G v d → nbK n d = true
  | _, _, .nil => rfl
  | _, _, .cons h r => by simp [nbK, Den.nb hn h, DenK.nb hn r]
theorem DenF.nb (hn : al.length ≤ n) : ∀ {v : List (Str × V)} {d : List (Str × D)}, DenF K al G v d → nbF n d = true
  | _, _, .nil => rfl
  | _, _, .cons h r => by simp [nbF, Den.nb hn h, DenF.nb hn r]
end
end
def SO.nb (n : Nat) : SO → Bool
  | .lst xs => nbL n xs
  | .dic xs => nbK n xs
  | .ins _ xs => nbF n xs
  | .frz d => M.nb n d
  | .box _ => true
  | .lck xs => nbK n xs
section
variable {K : PySem.W.Frag} {tb : List (Addr × Str)} {al al' : List Addr} {G G' : Hp} {c c' : SH} {H H' : Hp} {v : V} {d : D} {n : Nat}
theorem Ent.cut {a : Addr} {o : SO} (h : Ent K al G H a o) (e : o.nb n = true) : Ent K (al.take n) G H a o := by
  cases o with
  | lst xs => obtain ⟨vs, h, r⟩ := h; exact ⟨vs, h, r.cut e⟩
  | dic xs => obtain ⟨vs, h, r⟩ := h; exact ⟨vs, h, r.cut e⟩
  | ins C xs => obtain ⟨dx, vs, h, r⟩ := h; exact ⟨dx, vs, h, r.cut e⟩
  | frz d => exact Den.cut h e
  | box n => exact h
  | lck xs => obtain ⟨ob, vs, h, r⟩ := h; exact ⟨ob, vs, h, r.cut e⟩
theorem Ent.nb {a : Addr} {o : SO} (h : Ent K al G H a o) (hn : al.length ≤ n) : o.nb n = true := by
  cases o with
  | lst xs => obtain ⟨vs, h, r⟩ := h; exact r.nb hn
  | dic xs => obtain ⟨vs, h, r⟩ := h; exact r.nb hn
  | ins C xs => obtain ⟨dx, vs, h, r⟩ := h; exact r.nb hn
  | frz d => exact Den.nb hn h
  | box n => rfl
  | lck xs => obtain ⟨ob, vs, h, r⟩ := h; exact r.nb hn
theorem take_get {α : Type} {xs : List α} {n k : Nat} {x : α} (h : (xs.take n)[k]? = some x) : k < n ∧ xs[k]? = some x := by
  rw [List.getElem?_take] at h
  split at h
  · exact ⟨by assumption, h⟩
  · cases h
/-- objects are let go -/
theorem Rep.cut (R : Rep K tb al G c H) (h : ∀ o ∈ c.take n, o.nb n = true) : Rep K tb (al.take n) G (c.take n) H where
  len := by rw [List.length_take, List.length_take, R.len]
  sub := R.sub
  ent k a o h1 h2 := Ent.cut (R.ent k a o (take_get h1).2 (take_get h2).2) (h o (List.mem_of_getElem? h2))
  out k a o h1 h2 h3 := R.out k a o (take_get h1).2 (take_get h2).2 h3
  inj i j a o h1 h2 h3 h4 := R.inj i j a o (take_get h1).2 (take_get h2).2 (take_get h3).2 h4
  tak k a h := R.tak k a (take_get h).2
  gt := R.gt
  tab := R.tab
theorem Le.cut (l : Le al G c H al' G' c' H') (hn : al.length ≤ n) : Le al G c H (al'.take n) G' (c'.take n) H' where
  ad k a h := by
    have := (List.getElem?_eq_some_iff.mp h).1
    rw [List.getElem?_take_of_lt (by omega)]
    exact l.ad k a h
  g := l.g
  fr := l.fr
  nl a h := by
    obtain ⟨k, o, h1, h2, h3⟩ := h
    exact l.nl a ⟨k, o, (take_get h1).2, (take_get h2).2, h3⟩
  dom := l.dom
  gn := l.gn
  nd k a h := l.nd k a (take_get h).2
/-- behind a lambda's making -/
theorem Rep.extn (R : Rep K tb al G c H) (e : LamX.ExtN H H') (t : LamX.Tabs tb H') : Rep K tb al G c H' where
  len := R.len
  sub a o h := e a o (R.sub a o h) fun ps z => R.gt a ps (by rw [h, z])
  ent k a s h1 h2 := Ent.ext (R.ent k a s h1 h2) (fun _ _ => id) (Ex.refl _) fun u hu => by
    obtain ⟨w, hw, n⟩ := R.tak k a h1
    rw [hw] at hu
    exact e a u (hw.trans hu) (Option.some.inj hu ▸ n)
  out := R.out
  inj := R.inj
  tak k a h := let ⟨u, hu, n⟩ := R.tak k a h; ⟨u, e a u hu n, n⟩
  gt := R.gt
  tab := t
theorem Le.extn (e : LamX.ExtN H H') : Le al G c H al G c H' where
  ad _ _ := id
  g := Ex.refl _
  fr a u h _ n := e a u h n
  nl a := .inl
  dom a h o ho := by
    by_cases t : ∃ ps, o = .tbl ps
    · exact t
    · exact h o (e a o ho fun ps z => t ⟨ps, z⟩)
  gn _ _ h := .inl ⟨_, h⟩
  nd k _ h := .inl ⟨k, h⟩
theorem Le.adopt (l : Le al G c H al' G' c' H') {a : Addr} {u : HO} (hu : H' a = some u) (ex : Ex G' (upd G' a u)) (hf : Fr H a) : Le al G c H al' (upd G' a u) c' H' where
  ad := l.ad
  g := l.g.trans ex
  fr := l.fr
  nl := l.nl
  dom := l.dom
  gn b w h := by
    by_cases e : b = a
    · rw [e]; exact .inr (.inl hf)
    · rw [upd_ne e] at h; exact l.gn b w h
  nd := l.nd
end
end M

set_option Elab.async false
set_option linter.all false
set_option maxRecDepth 100000
set_option maxHeartbeats 3900000
/-! a reading and its mirror over data: the mirror's word for the reading -/
namespace M
open PySem PySem.Spec PyProof.Rows L2 G
abbrev Env := List (Option D)
def SRel (K : PySem.W.Frag) (al : List Addr) (G : Hp) (σ : L2.St) (δ : Env) : Prop := σ.length = δ.length ∧ ∀ (i : Nat) (d : D), δ[i]? = some (some d) → ∃ v, σ[i]? = some (some v) ∧ Den K al G v d
abbrev QD := D → SH → Prop
abbrev XD := Addr → Str → D → SH → Prop
abbrev Fn := List D → SH → XD → QD → Prop
abbrev ME := Env → SH → XD → QD → Prop
abbrev MT := Env → SH → XD → (Bool → SH → Prop) → Prop
abbrev MA := Env → SH → XD → (List D → SH → Prop) → Prop
abbrev MO := Env → SH → XD → (Option Int → SH → Prop) → Prop
section
variable (K : PySem.W.Frag) (tb : List (Addr × Str)) (al : List Addr) (G : Hp) (c : SH) (H : Hp)
def Ret (Φ : QD) (Q : VK) : Prop := ∀ (d : D) (c' : SH) (al' : List Addr) (G' H' : Hp) (v : V), Rep K tb al' G' c' H' → Le al G c H al' G' c' H' → Den K al' G' v d → Φ d c' → Q v H'
def RetT (Φ : Bool → SH → Prop) (Q : Bool → Hp → Prop) : Prop := ∀ (b : Bool) (c' : SH) (al' : List Addr) (G' H' : Hp), Rep K tb al' G' c' H' → Le al G c H al' G' c' H' → Φ b c' → Q b H'
def RetO (Φ : Option Int → SH → Prop) (Q : Option Int → Hp → Prop) : Prop := ∀ (b : Option Int) (c' : SH) (al' : List Addr) (G' H' : Hp), Rep K tb al' G' c' H' → Le al G c H al' G' c' H' → Φ b c' → Q b H'
def RetA (Φ : List D → SH → Prop) (Q : List V → Hp → Prop) : Prop := ∀ (ds : List D) (c' : SH) (al' : List Addr) (G' H' : Hp) (vs : List V), Rep K tb al' G' c' H' → Le al G c H al' G' c' H' → DenL K al' G' vs ds → Φ ds c' → Q vs H'
def RetH (Φ : SH → Prop) (N : Hp → Prop) : Prop := ∀ (c' : SH) (al' : List Addr) (G' H' : Hp), Rep K tb al' G' c' H' → Le al G c H al' G' c' H' → Φ c' → N H'
def RetE (Φ : Env → SH → Prop) (N : L2.St → Hp → Prop) : Prop := ∀ (δ : Env) (c' : SH) (al' : List Addr) (G' H' : Hp) (σ : L2.St), Rep K tb al' G' c' H' → Le al G c H al' G' c' H' → SRel K al' G' σ δ → Φ δ c' → N σ H'
def Thr (Ψ : XD) (E : XK) : Prop := ∀ (C : Addr) (f : Str) (d : D) (c' : SH) (al' : List Addr) (G' H' : Hp) (dd : Addr) (v : V), Rep K tb al' G' c' H' → Le al G c H al' G' c' H' → Fr H dd → H' dd = some (.xd [(f, v)]) → Den K al' G' v d → Ψ C f d c' → E (.ref C) (some dd) H'
def ThrS (Ψ : Addr → Str → D → Env → SH → Prop) (W : WX) : Prop := ∀ (C : Addr) (f : Str) (d : D) (δ : Env) (c' : SH) (al' : List Addr) (G' H' : Hp) (dd : Addr) (v : V) (σ : L2.St), Rep K tb al' G' c' H' → Le al G c H al' G' c' H' → SRel K al' G' σ δ → Fr H dd → H' dd = some (.xd [(f, v)]) → Den K al' G' v d → Ψ C f d δ c' → W (.ref C) (some dd) σ H'
structure Go (W : WX) (σ : L2.St) (δ : Env) (Ψ : XD) : Prop where
  rep : Rep K tb al G c H
  env : SRel K al G σ δ
  thr : Thr K tb al G c H Ψ fun C d H' => W C d σ H'
end
section
variable {K : PySem.W.Frag} {tb : List (Addr × Str)} {al al' : List Addr} {G G' : Hp} {c c' : SH} {H H' : Hp} {W : WX} {σ : L2.St} {δ : Env} {Ψ : XD}
theorem SRel.le (h : SRel K al G σ δ) (l : Le al G c H al' G' c' H') : SRel K al' G' σ δ := ⟨h.1, fun i d e => let ⟨v, h1, h2⟩ := h.2 i d e; ⟨v, h1, h2.le l⟩⟩
theorem SRel.set {v : V} {d : D} {i : Nat} (h : SRel K al G σ δ) (q : Den K al G v d) : SRel K al G (σ.set i (some v)) (δ.set i (some d)) := by
  refine ⟨by rw [List.length_set, List.length_set]; exact h.1, fun j e he => ?_⟩
  rcases set_get he with ⟨rfl, e2⟩ | ⟨n, e2⟩
  · cases e2
    have hj : j < δ.length := by
      have := (List.getElem?_eq_some_iff.mp he).1
      rwa [List.length_set] at this
    refine ⟨v, ?_, q⟩
    rw [List.getElem?_set, if_pos rfl, if_pos (by rw [h.1]; exact hj)]
  · obtain ⟨u, h1, h2⟩ := h.2 j e e2
    refine ⟨u, ?_, h2⟩
    rw [List.getElem?_set, if_neg (fun z => n z.symm)]
    exact h1
theorem SRel.wipe1 {i : Nat} {o : Option V} (h : SRel K al G σ δ) : SRel K al G (σ.set i o) (δ.set i none) := by
  refine ⟨by rw [List.length_set, List.length_set]; exact h.1, fun j e he => ?_⟩
  rcases set_get he with ⟨rfl, e2⟩ | ⟨n, e2⟩
  · cases e2
  · obtain ⟨u, h1, h2⟩ := h.2 j e e2
    refine ⟨u, ?_, h2⟩
    rw [List.getElem?_set, if_neg (fun z => n z.symm)]
    exact h1
theorem Ret.le {Φ : QD} {Q : VK} (h : Ret K tb al G c H Φ Q) (l : Le al G c H al' G' c' H') : Ret K tb al' G' c' H' Φ Q := fun d c2 al2 G2 H2 v r l2 => h d c2 al2 G2 H2 v r (l.trans l2)
theorem RetT.le {Φ : Bool → SH → Prop} {Q : Bool → Hp → Prop} (h : RetT K tb al G c H Φ Q) (l : Le al G c H al' G' c' H') : RetT K tb al' G' c' H' Φ Q := fun d c2 al2 G2 H2 r l2 => h d c2 al2 G2 H2 r (l.trans l2)
theorem RetO.le {Φ : Option Int → SH → Prop} {Q : Option Int → Hp → Prop} (h : RetO K tb al G c H Φ Q) (l : Le al G c H al' G' c' H') : RetO K tb al' G' c' H' Φ Q := fun d c2 al2 G2 H2 r l2 => h d c2 al2 G2 H2 r (l.trans l2)
theorem RetA.le {Φ : List D → SH → Prop} {Q : List V → Hp → Prop} (h : RetA K tb al G c H Φ Q) (l : Le al G c H al' G' c' H') : RetA K tb al' G' c' H' Φ Q := fun d c2 al2 G2 H2 v r l2 => h d c2 al2 G2 H2 v r (l.trans l2)
theorem RetH.le {Φ : SH → Prop} {N : Hp → Prop} (h : RetH K tb al G c H Φ N) (l : Le al G c H al' G' c' H') : RetH K tb al' G' c' H' Φ N := fun c2 al2 G2 H2 r l2 => h c2 al2 G2 H2 r (l.trans l2)
theorem RetE.le {Φ : Env → SH → Prop} {N : L2.St → Hp → Prop} (h : RetE K tb al G c H Φ N) (l : Le al G c H al' G' c' H') : RetE K tb al' G' c' H' Φ N := fun d c2 al2 G2 H2 s r l2 => h d c2 al2 G2 H2 s r (l.trans l2)
theorem Thr.le {E : XK} (h : Thr K tb al G c H Ψ E) (l : Le al G c H al' G' c' H') : Thr K tb al' G' c' H' Ψ E := fun C f d c2 al2 G2 H2 dd v r l2 fr => h C f d c2 al2 G2 H2 dd v r (l.trans l2) (l.dom dd fr)
theorem ThrS.le {Ψ : Addr → Str → D → Env → SH → Prop} (h : ThrS K tb al G c H Ψ W) (l : Le al G c H al' G' c' H') : ThrS K tb al' G' c' H' Ψ W := fun C f d e c2 al2 G2 H2 dd v s r l2 sr fr => h C f d e c2 al2 G2 H2 dd v s r (l.trans l2) sr (l.dom dd fr)
theorem Go.le (g : Go K tb al G c H W σ δ Ψ) (r : Rep K tb al' G' c' H') (l : Le al G c H al' G' c' H') : Go K tb al' G' c' H' W σ δ Ψ := ⟨r, g.env.le l, g.thr.le l⟩
end
section
variable (K : PySem.W.Frag) (tb : List (Addr × Str)) (W : WX)
def SndE (t : TE) (m : ME) : Prop := ∀ al G c H σ δ Ψ Φ Q, Go K tb al G c H W σ δ Ψ → m δ c Ψ Φ → Ret K tb al G c H Φ Q → t σ H Q
def SndT (t : TT) (m : MT) : Prop := ∀ al G c H σ δ Ψ Φ Q, Go K tb al G c H W σ δ Ψ → m δ c Ψ Φ → RetT K tb al G c H Φ Q → t σ H Q
def SndA (t : TA) (m : MA) : Prop := ∀ al G c H σ δ Ψ Φ Q, Go K tb al G c H W σ δ Ψ → m δ c Ψ Φ → RetA K tb al G c H Φ Q → t σ H Q
def SndO (t : TO) (m : MO) : Prop := ∀ al G c H σ δ Ψ Φ Q, Go K tb al G c H W σ δ Ψ → m δ c Ψ Φ → RetO K tb al G c H Φ Q → t σ H Q
/-- operators, calls by values -/
def DOp (r : R2) (op : D → D → SH → QD → Prop) : Prop := ∀ al G c H x y dx dy Φ Q, Rep K tb al G c H → Den K al G x dx → Den K al G y dy → op dx dy c Φ → Ret K tb al G c H Φ Q → r x y H Q
def DUn (r : V → Hp → VK → Prop) (op : D → SH → QD → Prop) : Prop := ∀ al G c H x dx Φ Q, Rep K tb al G c H → Den K al G x dx → op dx c Φ → Ret K tb al G c H Φ Q → r x H Q
def DCall (r : List V → Hp → VK → Prop) (op : List D → SH → QD → Prop) : Prop := ∀ al G c H xs ds Φ Q, Rep K tb al G c H → DenL K al G xs ds → op ds c Φ → Ret K tb al G c H Φ Q → r xs H Q
def DMt (r : V → List V → Hp → VK → Prop) (op : D → List D → SH → QD → Prop) : Prop := ∀ al G c H x xs dx ds Φ Q, Rep K tb al G c H → Den K al G x dx → DenL K al G xs ds → op dx ds c Φ → Ret K tb al G c H Φ Q → r x xs H Q
end
/-! ### mirrors -/
def varM (i : Nat) : ME := fun δ c _ Φ => match δ[i]? with
  | some (some d) => Φ d c
  | _ => False
def cM (d : D) : ME := fun _ c _ Φ => Φ d c
def opM (op : D → D → SH → QD → Prop) (a b : ME) : ME := fun δ c Ψ Φ => a δ c Ψ fun x c1 => b δ c1 Ψ fun y c2 => op x y c2 Φ
def unM (op : D → SH → QD → Prop) (a : ME) : ME := fun δ c Ψ Φ => a δ c Ψ fun x c1 => op x c1 Φ
def blD (x : D) (c : SH) (Φ : Bool → SH → Prop) : Prop := match x with
  | .bl k => Φ k c
  | _ => False
def testM (a : ME) : MT := fun δ c Ψ Φ => a δ c Ψ fun x c1 => blD x c1 Φ
def andT (a b : MT) : MT := fun δ c Ψ Φ => a δ c Ψ fun k c1 => if k = true then b δ c1 Ψ Φ else Φ false c1
def orT (a b : MT) : MT := fun δ c Ψ Φ => a δ c Ψ fun k c1 => if k = true then Φ true c1 else b δ c1 Ψ Φ
def notT (a : MT) : MT := fun δ c Ψ Φ => a δ c Ψ fun k c1 => Φ (!k) c1
def andM (a b : ME) : ME := fun δ c Ψ Φ => a δ c Ψ fun x c1 => blD x c1 fun k c1 => if k = true then b δ c1 Ψ Φ else Φ (.bl false) c1
def orM (a b : ME) : ME := fun δ c Ψ Φ => a δ c Ψ fun x c1 => blD x c1 fun k c1 => if k = true then Φ (.bl true) c1 else b δ c1 Ψ Φ
def notM (a : ME) : ME := fun δ c Ψ Φ => a δ c Ψ fun x c1 => blD x c1 fun k c1 => Φ (.bl (!k)) c1
def ifM (t : MT) (a b : ME) : ME := fun δ c Ψ Φ => t δ c Ψ fun k c1 => if k = true then a δ c1 Ψ Φ else b δ c1 Ψ Φ
def chainM (op op' : D → D → SH → QD → Prop) (a b e : ME) : ME := fun δ c Ψ Φ => a δ c Ψ fun x c1 => b δ c1 Ψ fun y c2 => op x y c2 fun z c3 => blD z c3 fun k c3 => if k = true then e δ c3 Ψ fun w c4 => op' y w c4 Φ else Φ (.bl false) c3
def nilM : MA := fun _ c _ Φ => Φ [] c
def consM (a : ME) (b : MA) : MA := fun δ c Ψ Φ => a δ c Ψ fun x c1 => b δ c1 Ψ fun xs c2 => Φ (x :: xs) c2
/-- a new list: an object that may change (lv), or data -/
def newL (lv : Bool) (xs : List D) (c : SH) (Φ : QD) : Prop := xs.length ≤ sizeLine ∧ if lv = true then Φ (.obj c.length) (c ++ [.lst xs]) else Φ (.lst xs) c
def lstM (lv : Bool) (a : MA) : ME := fun δ c Ψ Φ => a δ c Ψ fun xs c1 => newL lv xs c1 Φ
def tupM (a : MA) : ME := fun δ c Ψ Φ => a δ c Ψ fun xs c1 => xs.length ≤ sizeLine ∧ Φ (.tup xs) c1
def cbM (op : List D → SH → QD → Prop) (a : MA) : ME := fun δ c Ψ Φ => a δ c Ψ fun xs c1 => op xs c1 Φ
def callM (F : Fn) (ds : List D) (a : MA) : ME := fun δ c Ψ Φ => a δ c Ψ fun xs c1 => F (xs ++ ds) c1 Ψ Φ
def noPartM : MO := fun _ c _ Φ => Φ none c
def intD (x : D) (c : SH) (Φ : Int → SH → Prop) : Prop := match x with
  | .int i => Φ i c
  | _ => False
def partM (a : ME) : MO := fun δ c Ψ Φ => a δ c Ψ fun x c1 => intD x c1 fun i c1 => Φ (some i) c1
def slM (op : D → Option Int → Option Int → SH → QD → Prop) (a : ME) (lo hi : MO) : ME := fun δ c Ψ Φ => a δ c Ψ fun x c1 => lo δ c1 Ψ fun l c2 => hi δ c2 Ψ fun u c3 => op x l u c3 Φ
section
variable {K : PySem.W.Frag} {tb : List (Addr × Str)} {W : WX} {ta tb' tc te : TE} {a b e : ME} {t u : TT} {mt mu : MT} {tA : TA} {mA : MA}
theorem snd_var {i : Nat} : SndE K tb W (tVar i) (varM i) := by
  intro al G c H σ δ Ψ Φ Q g m r
  unfold varM at m
  split at m
  · rename_i d h
    obtain ⟨v, h1, h2⟩ := g.env.2 i d h
    exact ⟨v, h1, r d c al G H v g.rep .refl h2 m⟩
  · cases m
theorem snd_c {v : V} {d : D} (h : ∀ al G, Den K al G v d) : SndE K tb W (tC v) (cM d) := fun al G c H σ δ Ψ Φ Q g m r => r d c al G H v g.rep .refl (h al G) m
theorem snd_op {r : R2} {op : D → D → SH → QD → Prop} (ho : DOp K tb r op) (ha : SndE K tb W ta a) (hb : SndE K tb W tb' b) : SndE K tb W (tOp r ta tb') (opM op a b) := by
  intro al G c H σ δ Ψ Φ Q g m q
  refine ha al G c H σ δ Ψ _ _ g m fun x c1 al1 G1 H1 v r1 l1 d1 m1 => ?_
  refine hb al1 G1 c1 H1 σ δ Ψ _ _ (g.le r1 l1) m1 fun y c2 al2 G2 H2 w r2 l2 d2 m2 => ?_
  exact ho al2 G2 c2 H2 v w x y Φ Q r2 (d1.le l2) d2 m2 (q.le (l1.trans l2))
theorem snd_un {r : V → Hp → VK → Prop} {op : D → SH → QD → Prop} (ho : DUn K tb r op) (ha : SndE K tb W ta a) : SndE K tb W (tUn r ta) (unM op a) := by
  intro al G c H σ δ Ψ Φ Q g m q
  refine ha al G c H σ δ Ψ _ _ g m fun x c1 al1 G1 H1 v r1 l1 d1 m1 => ?_
  exact ho al1 G1 c1 H1 v x Φ Q r1 d1 m1 (q.le l1)
theorem blD_of {al : List Addr} {G : Hp} {x : D} {v : V} {c : SH} {Φ : Bool → SH → Prop} (m : blD x c Φ) (h : Den K al G v x) : ∃ k, v = .bl k ∧ Φ k c := by
  unfold blD at m
  split at m
  · cases h
    exact ⟨_, rfl, m⟩
  · cases m
theorem snd_test (ha : SndE K tb W ta a) : SndT K tb W (tTest ta) (testM a) := by
  intro al G c H σ δ Ψ Φ Q g m q
  refine ha al G c H σ δ Ψ _ _ g m fun x c1 al1 G1 H1 v r1 l1 d1 m1 => ?_
  obtain ⟨k, e, h⟩ := blD_of m1 d1
  exact ⟨k, e, q k c1 al1 G1 H1 r1 l1 h⟩
theorem snd_B (ha : SndE K tb W ta a) : SndT K tb W (tB ta) (testM a) := snd_test ha
theorem snd_and (ha : SndT K tb W t mt) (hb : SndT K tb W u mu) : SndT K tb W (tAnd t u) (andT mt mu) := by
  intro al G c H σ δ Ψ Φ Q g m q
  refine ha al G c H σ δ Ψ _ _ g m fun k c1 al1 G1 H1 r1 l1 m1 => ?_
  cases k with
  | true => exact iteT (hb al1 G1 c1 H1 σ δ Ψ _ _ (g.le r1 l1) m1 (q.le l1))
  | false => exact iteF (q false c1 al1 G1 H1 r1 l1 m1)
theorem snd_or (ha : SndT K tb W t mt) (hb : SndT K tb W u mu) : SndT K tb W (tOr t u) (orT mt mu) := by
  intro al G c H σ δ Ψ Φ Q g m q
  refine ha al G c H σ δ Ψ _ _ g m fun k c1 al1 G1 H1 r1 l1 m1 => ?_
  cases k with
  | false => exact iteF (hb al1 G1 c1 H1 σ δ Ψ _ _ (g.le r1 l1) m1 (q.le l1))
  | true => exact iteT (q true c1 al1 G1 H1 r1 l1 m1)
theorem snd_not (ha : SndT K tb W t mt) : SndT K tb W (tNot t) (notT mt) := by
  intro al G c H σ δ Ψ Φ Q g m q
  exact ha al G c H σ δ Ψ _ _ g m fun k c1 al1 G1 H1 r1 l1 m1 => q (!k) c1 al1 G1 H1 r1 l1 m1
theorem snd_andV (ha : SndE K tb W ta a) (hb : SndE K tb W tb' b) : SndE K tb W (tAndV ta tb') (andM a b) := by
  intro al G c H σ δ Ψ Φ Q g m q
  refine ha al G c H σ δ Ψ _ _ g m fun x c1 al1 G1 H1 v r1 l1 d1 m1 => ?_
  obtain ⟨k, e, h⟩ := blD_of m1 d1
  refine ⟨k, e, ?_⟩
  cases k with
  | true => exact iteT (hb al1 G1 c1 H1 σ δ Ψ _ _ (g.le r1 l1) h (q.le l1))
  | false => exact iteF (q (.bl false) c1 al1 G1 H1 _ r1 l1 (.bl false) h)
theorem snd_orV (ha : SndE K tb W ta a) (hb : SndE K tb W tb' b) : SndE K tb W (tOrV ta tb') (orM a b) := by
  intro al G c H σ δ Ψ Φ Q g m q
  refine ha al G c H σ δ Ψ _ _ g m fun x c1 al1 G1 H1 v r1 l1 d1 m1 => ?_
  obtain ⟨k, e, h⟩ := blD_of m1 d1
  refine ⟨k, e, ?_⟩
  cases k with
  | false => exact iteF (hb al1 G1 c1 H1 σ δ Ψ _ _ (g.le r1 l1) h (q.le l1))
  | true => exact iteT (q (.bl true) c1 al1 G1 H1 _ r1 l1 (.bl true) h)
theorem snd_notV (ha : SndE K tb W ta a) : SndE K tb W (tNotV ta) (notM a) := by
  intro al G c H σ δ Ψ Φ Q g m q
  refine ha al G c H σ δ Ψ _ _ g m fun x c1 al1 G1 H1 v r1 l1 d1 m1 => ?_
  obtain ⟨k, e, h⟩ := blD_of m1 d1
  exact ⟨k, e, q (.bl (!k)) c1 al1 G1 H1 _ r1 l1 (.bl _) h⟩
theorem snd_if (ht : SndT K tb W t mt) (ha : SndE K tb W ta a) (hb : SndE K tb W tb' b) : SndE K tb W (tIf t ta tb') (ifM mt a b) := by
  intro al G c H σ δ Ψ Φ Q g m q
  refine ht al G c H σ δ Ψ _ _ g m fun k c1 al1 G1 H1 r1 l1 m1 => ?_
  cases k with
  | true => exact iteT (ha al1 G1 c1 H1 σ δ Ψ _ _ (g.le r1 l1) m1 (q.le l1))
  | false => exact iteF (hb al1 G1 c1 H1 σ δ Ψ _ _ (g.le r1 l1) m1 (q.le l1))
theorem snd_chain {r r' : R2} {op op' : D → D → SH → QD → Prop} (ho : DOp K tb r op) (ho' : DOp K tb r' op') (ha : SndE K tb W ta a) (hb : SndE K tb W tb' b) (he : SndE K tb W tc e) : SndE K tb W (tChain r r' ta tb' tc) (chainM op op' a b e) := by
  intro al G c H σ δ Ψ Φ Q g m q
  refine ha al G c H σ δ Ψ _ _ g m fun x c1 al1 G1 H1 v r1 l1 d1 m1 => ?_
  refine hb al1 G1 c1 H1 σ δ Ψ _ _ (g.le r1 l1) m1 fun y c2 al2 G2 H2 w r2 l2 d2 m2 => ?_
  refine ho al2 G2 c2 H2 v w x y _ _ r2 (d1.le l2) d2 m2 fun z c3 al3 G3 H3 u r3 l3 d3 m3 => ?_
  obtain ⟨k, ek, h⟩ := blD_of m3 d3
  refine ⟨k, ek, ?_⟩
  cases k with
  | false => exact iteF (q (.bl false) c3 al3 G3 H3 _ r3 ((l1.trans l2).trans l3) (.bl false) h)
  | true =>
    refine iteT (he al3 G3 c3 H3 σ δ Ψ _ _ (g.le r3 ((l1.trans l2).trans l3)) h fun z4 c4 al4 G4 H4 u4 r4 l4 d4 m4 => ?_)
    exact ho' al4 G4 c4 H4 w u4 y z4 Φ Q r4 (d2.le (l3.trans l4)) d4 m4 (q.le (((l1.trans l2).trans l3).trans l4))
theorem snd_nil : SndA K tb W tNil nilM := fun al G c H σ δ Ψ Φ Q g m q => q [] c al G H [] g.rep .refl .nil m
theorem snd_cons (ha : SndE K tb W ta a) (hA : SndA K tb W tA mA) : SndA K tb W (tCons ta tA) (consM a mA) := by
  intro al G c H σ δ Ψ Φ Q g m q
  refine ha al G c H σ δ Ψ _ _ g m fun x c1 al1 G1 H1 v r1 l1 d1 m1 => ?_
  refine hA al1 G1 c1 H1 σ δ Ψ _ _ (g.le r1 l1) m1 fun xs c2 al2 G2 H2 vs r2 l2 d2 m2 => ?_
  exact q (x :: xs) c2 al2 G2 H2 (v :: vs) r2 (l1.trans l2) (.cons (d1.le l2) d2) m2
/-- a new list -/
theorem newL_ok {al : List Addr} {G : Hp} {c : SH} {H : Hp} {lv : Bool} {xs : List D} {vs : List V} {Φ : QD} {Q : VK} {p : Addr} (R : Rep K tb al G c H) (hp : H p = none) (hd : DenL K al G vs xs) (m : newL lv xs c Φ) (q : Ret K tb al G c H Φ Q) : Q (.ref p) (upd H p (.lst vs)) := by
  obtain ⟨_, m⟩ := m
  have hg := R.fresh hp
  cases lv with
  | false =>
    rw [if_neg (by decide)] at m
    exact q (.lst xs) c al (upd G p (.lst vs)) _ (.ref p) (R.data hp nofun) (Le.data hp hg nofun) (.lst upd_same (hd.mono (fun _ _ => id) (Ex.new hg))) m
  | true =>
    rw [if_pos rfl] at m
    have R2 : Rep K tb (al ++ [p]) G (c ++ [.lst xs]) (upd H p (.lst vs)) := R.obj hp (Ex.new hp) ⟨vs, upd_same, hd.mono (fun _ _ => app_get) (Ex.refl _)⟩ rfl
    refine q (.obj c.length) _ _ G _ (.ref p) R2 (Le.obj R hp (Ex.new hp)) (.obj ?_) m
    rw [← R.len, List.getElem?_append_right (Nat.le_refl _), Nat.sub_self]
    rfl
theorem snd_lst {lv : Bool} (hA : SndA K tb W tA mA) : SndE K tb W (tLst tA) (lstM lv mA) := by
  intro al G c H σ δ Ψ Φ Q g m q
  refine hA al G c H σ δ Ψ _ _ g m fun xs c1 al1 G1 H1 vs r1 l1 d1 m1 => ?_
  exact ⟨by rw [d1.length]; exact m1.1, fun p hp => newL_ok r1 hp d1 m1 (q.le l1)⟩
theorem snd_tup (hA : SndA K tb W tA mA) : SndE K tb W (tTup tA) (tupM mA) := by
  intro al G c H σ δ Ψ Φ Q g m q
  refine hA al G c H σ δ Ψ _ _ g m fun xs c1 al1 G1 H1 vs r1 l1 d1 m1 => ?_
  refine ⟨by rw [d1.length]; exact m1.1, fun p hp => ?_⟩
  have hg := r1.fresh hp
  exact q (.tup xs) c1 al1 (upd G1 p (.tup vs)) _ (.ref p) (r1.data hp nofun) (l1.trans (Le.data hp hg nofun)) (.tup upd_same (d1.mono (fun _ _ => id) (Ex.new hg))) m1.2
theorem snd_CB {rc : List V → Hp → VK → Prop} {op : List D → SH → QD → Prop} (ho : DCall K tb rc op) (hA : SndA K tb W tA mA) : SndE K tb W (tCB rc tA) (cbM op mA) := by
  intro al G c H σ δ Ψ Φ Q g m q
  refine hA al G c H σ δ Ψ _ _ g m fun xs c1 al1 G1 H1 vs r1 l1 d1 m1 => ?_
  exact ho al1 G1 c1 H1 vs xs Φ Q r1 d1 m1 (q.le l1)
theorem snd_noPart : SndO K tb W tNoPart noPartM := fun al G c H σ δ Ψ Φ Q g m q => q none c al G H g.rep .refl m
theorem snd_part (ha : SndE K tb W ta a) : SndO K tb W (tPart ta) (partM a) := by
  intro al G c H σ δ Ψ Φ Q g m q
  refine ha al G c H σ δ Ψ _ _ g m fun x c1 al1 G1 H1 v r1 l1 d1 m1 => ?_
  unfold intD at m1
  split at m1
  · cases d1
    exact ⟨_, rfl, q _ c1 al1 G1 H1 r1 l1 m1⟩
  · cases m1
theorem snd_sl {rs : V → Option Int → Option Int → Hp → VK → Prop} {op : D → Option Int → Option Int → SH → QD → Prop} {tl th : TO} {lo hi : MO}
    (ho : ∀ al G c H x dx l u Φ Q, Rep K tb al G c H → Den K al G x dx → op dx l u c Φ → Ret K tb al G c H Φ Q → rs x l u H Q) (ha : SndE K tb W ta a) (hl : SndO K tb W tl lo) (hh : SndO K tb W th hi) : SndE K tb W (tSl rs ta tl th) (slM op a lo hi) := by
  intro al G c H σ δ Ψ Φ Q g m q
  refine ha al G c H σ δ Ψ _ _ g m fun x c1 al1 G1 H1 v r1 l1 d1 m1 => ?_
  refine hl al1 G1 c1 H1 σ δ Ψ _ _ (g.le r1 l1) m1 fun l c2 al2 G2 H2 r2 l2 m2 => ?_
  refine hh al2 G2 c2 H2 σ δ Ψ _ _ (g.le r2 (l1.trans l2)) m2 fun u c3 al3 G3 H3 r3 l3 m3 => ?_
  exact ho al3 G3 c3 H3 v x l u Φ Q r3 (d1.le (l2.trans l3)) m3 (q.le ((l1.trans l2).trans l3))
/-- the promise of a def by its mirror -/
def SpG (K : PySem.W.Frag) (tb : List (Addr × Str)) (F : Fn) : Sp := fun vs H Q E => ∃ al G c as Ψ Φ, Rep K tb al G c H ∧ DenL K al G vs as ∧ F as c Ψ Φ ∧ Ret K tb al G c H Φ Q ∧ Thr K tb al G c H Ψ E
theorem DenL.appendC {al : List Addr} {G : Hp} {vs dvs : List V} {as ds : List D} (h : DenL K al G vs as) (hd : ∀ al G, DenL K al G dvs ds) : DenL K al G (vs ++ dvs) (as ++ ds) := h.append (hd al G)
theorem snd_call {F : Fn} {dvs : List V} {ds : List D} (hd : ∀ al G, DenL K al G dvs ds) (hA : SndA K tb W tA mA) : SndE K tb W (tCallSD (SpG K tb F) dvs (WE W) tA) (callM F ds mA) := by
  intro al G c H σ δ Ψ Φ Q g m q
  refine hA al G c H σ δ Ψ _ _ g m fun xs c1 al1 G1 H1 vs r1 l1 d1 m1 => ?_
  exact ⟨al1, G1, c1, xs ++ ds, Ψ, Φ, r1, d1.appendC hd, m1, q.le l1, g.thr.le l1⟩
end
end M

set_option Elab.async false
set_option linter.all false
set_option maxRecDepth 100000
set_option maxHeartbeats 3900000
namespace M
open PySem PySem.Spec PyProof.Rows L2 G
/-! ### calls whose exceptions are wished for at the slots -/
def tMethSD (C : Addr) (m : Str) (sp : Sp) (dvs : List V) (E : L2.St → XK) (ta : TE) (t : TA) : TE := fun σ H Q => ta σ H fun x H1 => ∃ a dx fs, x = .ref a ∧ H1 a = some (.ins C dx fs) ∧ fs.lookup m = none ∧
  t σ H1 fun vs H2 => sp (x :: (vs ++ dvs)) H2 Q (E σ)
def tMakeSD (C : Addr) (sp : Sp) (dvs : List V) (E : L2.St → XK) (t : TA) : TE := fun σ H Q => t σ H fun vs H1 => ∀ x dx, H1 x = none → H1 dx = none → dx ≠ x →
  sp (.ref x :: (vs ++ dvs)) (upd (upd H1 dx (.own x)) x (.ins C dx [])) (fun v H2 => v = .non ∧ Q (.ref x) H2) (E σ)
section
variable {X : Cx} {CX : CXT} {k : Nat} {f C : Addr} {fd : FuncData} {ps : List Str} {sp : Sp} {dvs : List V} {ds : List Value} {E : L2.St → XK} {x m : Str} {p cp mp : Pos} {o e : Expr} {er : List Expr} {t : TA} {ta : TE}
theorem pe_callSD0 (F : FnOk X.prog X.w X.K X.mg X.base CX k f fd ps sp) (hr : Room k X.A) (hg : Gl X x) (hm : X.mg x = some (.ref f)) (hk : PySem.W.keepIn X.K (.ref f) = true) (hb : Binds X.K fd ps ds) (hd : Vals dvs ds) (hx : ∀ σ, PassesAt CX X σ (E σ))
    (h3 : (x == ("__debug__" : Str)) = false := by decide) : PE X (.Call (.Name x p) [] [] cp) (tCallSD sp dvs E tNil) := by
  constructor
  intro pins s σ H Q I h
  refine wpAny_Call_Name_kw (ld_glob I hg hm ?_ h3)
  exact PySem.W.callWith_K0 I.kIn hk (run_fnSD (us := []) F hr hb hd (hx σ) I .nil h)
theorem pe_methSD {pl : Sem Bool} (he : PE X o ta) (c : Cls X.K C) (hm : Meth X.K C m f) (F : FnOk X.prog X.w X.K X.mg X.base CX k f fd ps sp) (hr : Room k X.A) (hb : Binds X.K fd ps ds) (hd : Vals dvs ds) (hx : ∀ σ, PassesAt CX X σ (E σ)) (ha : PA X (e :: er) t)
    (h1 : starEach (e :: er) X.env = (false, eval e X.env) :: starEach er X.env := by rfl) (h2 : (backTo cp (starEach er X.env)).any (·.1) = false := by rfl)
    (ht : eval (.Call (.Attribute o m mp) (e :: er) [] cp) X.env = (do
      let ob ← eval o X.env
      standAt mp.atName
      let (f, fst) ← holding [ob] (getMethod ob m pl)
      callWith cp f fst (backTo cp (starEach (e :: er) X.env)) (backToKw cp (keywordEach [] X.env))) := by rfl) :
    PE X (.Call (.Attribute o m mp) (e :: er) [] cp) (tMethSD C m sp dvs E ta t) := by
  constructor
  intro pins s σ H Q I h
  refine PySem.W.methodCall_KW (pl := pl) (thn (he.run pins s σ H _ I h) fun u s1 hh => ?_) ht
  obtain ⟨x, H1, J1, rz, a, dx, fs, ex, ea, l, q⟩ := hh
  subst ex
  obtain rfl : u = Value.ref a := rz
  refine getmeth_ok J1 ea c hm l ?_
  refine PySem.W.callWith_K (first := [.ref a]) (h₀ := X.base) I.ok.mod.kin hm.kp (thn (ha.run cp pins s1 σ H1 _ J1 q) fun us s2 hh => ?_) h1 h2
  obtain ⟨vs, H2, J2, r, q2⟩ := hh
  exact ⟨J2.kIn, run_fnSD (us := .ref a :: us) (vs := .ref a :: vs) F hr hb hd (hx σ) J2 (.cons rfl r) q2⟩
theorem pe_methSD0 {pl : Sem Bool} (he : PE X o ta) (c : Cls X.K C) (hm : Meth X.K C m f) (F : FnOk X.prog X.w X.K X.mg X.base CX k f fd ps sp) (hr : Room k X.A) (hb : Binds X.K fd ps ds) (hd : Vals dvs ds) (hx : ∀ σ, PassesAt CX X σ (E σ))
    (ht : eval (.Call (.Attribute o m mp) [] [] cp) X.env = (do
      let ob ← eval o X.env
      standAt mp.atName
      let (f, fst) ← holding [ob] (getMethod ob m pl)
      callWith cp f fst (backTo cp (starEach [] X.env)) (backToKw cp (keywordEach [] X.env))) := by rfl) :
    PE X (.Call (.Attribute o m mp) [] [] cp) (tMethSD C m sp dvs E ta tNil) := by
  constructor
  intro pins s σ H Q I h
  refine PySem.W.methodCall_KW (pl := pl) (thn (he.run pins s σ H _ I h) fun u s1 hh => ?_) ht
  obtain ⟨x, H1, J1, rz, a, dx, fs, ex, ea, l, q⟩ := hh
  subst ex
  obtain rfl : u = Value.ref a := rz
  refine getmeth_ok J1 ea c hm l ?_
  exact PySem.W.callWith_K0 (first := [.ref a]) J1.kIn hm.kp (run_fnSD (us := [.ref a]) (vs := [.ref a]) F hr hb hd (hx σ) J1 (.cons rfl .nil) q)
theorem pass_made {σ : L2.St} {W : WX} (tk : Takes X W) : PassesAt (L2.CX X.prog X.w) X σ (WE W σ) := passAt tk σ
theorem run_makeSD {pins : List (Addr × Obj)} {σ : L2.St} {H : Hp} {s : Shared} {Q : VK} {us : List Value} {vs : List V} (mk : Mk X.K C f) (F : FnOk X.prog X.w X.K X.mg X.base CX k f fd ps sp) (hr : Room (k + 1) X.A) (hb : Binds X.K fd ps ds) (hd : Vals dvs ds)
    (hx : PassesAt CX X σ (E σ)) (I : Inv X pins σ H s) (r : Vals vs us)
    (h : ∀ x dx, H x = none → H dx = none → dx ≠ x → sp (.ref x :: (vs ++ dvs)) (upd (upd H dx (.own x)) x (.ins C dx [])) (fun v H2 => v = .non ∧ Q (.ref x) H2) (E σ)) :
    wpAny (model X.prog X.w) X.A (call (.ref C) us) (EP X pins σ Q) X.xe s := by
  have hh := h (s.heap.objs.size + 1) s.heap.objs.size (I.hok.fresh (Nat.le_succ _)) (I.hok.fresh (Nat.le_refl _)) (Nat.ne_of_lt (Nat.lt_succ_self _))
  have J2 := Inv.made (C := C) I
  have rr : Vals (V.ref (s.heap.objs.size + 1) :: (vs ++ dvs)) (Value.ref (s.heap.objs.size + 1) :: (us ++ ds)) := .cons rfl (r.append hd)
  have hl : (Value.ref (s.heap.objs.size + 1) :: us ++ ds).length = ps.length := by
    have e := rr.length
    rw [F.len _ _ _ _ hh] at e
    exact e.symm
  refine wpAny_call (make_map (f := f) I.kIn mk.makes mk.init (beq_iff_eq.mp mk.fn) (codeAny_mono (F.run _ X.stack _ _ ⟨Value.ref (s.heap.objs.size + 1) :: us, []⟩ (Value.ref (s.heap.objs.size + 1) :: (us ++ ds)) _ _ (E σ) (hr.make C us [])
    (J2.env0.make C us []) (hb _ (Value.ref (s.heap.objs.size + 1) :: us) J2.kIn hl) rr hh) fun r s' hk => ?_))
  cases r with
  | error e => exact hx pins _ _ e s' J2 hk
  | ok fl =>
    cases fl with
    | ret u =>
      obtain ⟨v, H', I3, rv, ev, q3⟩ := J2.after hk
      subst ev
      exact ⟨rv, ⟨V.ref (s.heap.objs.size + 1), H', I3, rfl, q3⟩⟩
    | next => exact False.elim hk
    | brk => exact False.elim hk
    | cont => exact False.elim hk
theorem pe_makeSD (mk : Mk X.K C f) (F : FnOk X.prog X.w X.K X.mg X.base CX k f fd ps sp) (hr : Room (k + 1) X.A) (hg : Gl X x) (hm : X.mg x = some (.ref C)) (hb : Binds X.K fd ps ds) (hd : Vals dvs ds) (hx : ∀ σ, PassesAt CX X σ (E σ))
    (ha : PA X (e :: er) t) (h3 : (x == ("__debug__" : Str)) = false := by decide) (he : starEach (e :: er) X.env = (false, eval e X.env) :: starEach er X.env := by rfl) (h2 : (backTo cp (starEach er X.env)).any (·.1) = false := by rfl) :
    PE X (.Call (.Name x p) (e :: er) [] cp) (tMakeSD C sp dvs E t) := by
  constructor
  intro pins s σ H Q I h
  refine wpAny_Call_Name_kw (ld_glob I hg hm ?_ h3)
  refine PySem.W.callWith_K (h₀ := X.base) I.ok.mod.kin mk.kp (thn (ha.run cp pins s σ H _ I h) fun us s1 hh => ?_) he h2
  obtain ⟨vs, H1, J1, r, q⟩ := hh
  exact ⟨J1.kIn, run_makeSD mk F hr hb hd (hx σ) J1 r q⟩
theorem pe_makeSD0 (mk : Mk X.K C f) (F : FnOk X.prog X.w X.K X.mg X.base CX k f fd ps sp) (hr : Room (k + 1) X.A) (hg : Gl X x) (hm : X.mg x = some (.ref C)) (hb : Binds X.K fd ps ds) (hd : Vals dvs ds) (hx : ∀ σ, PassesAt CX X σ (E σ))
    (h3 : (x == ("__debug__" : Str)) = false := by decide) : PE X (.Call (.Name x p) [] [] cp) (tMakeSD C sp dvs E tNil) := by
  constructor
  intro pins s σ H Q I h
  refine wpAny_Call_Name_kw (ld_glob I hg hm ?_ h3)
  exact PySem.W.callWith_K0 I.kIn mk.kp (run_makeSD (us := []) mk F hr hb hd (hx σ) I .nil h)
end
/-! ### what is let go at a def's end -/
def out1 (n : Nat) (c : SH) : D → D
  | .obj k => if k < n then .obj k else match c[k]? with
    | some (.lst xs) => .lst xs
    | some (.ins C xs) => .ins C xs
    | some (.frz d) => d
    | _ => .obj k
  | d => d
/-- objects stay as they were, or hold nothing newer -/
def okc (c c' : SH) : Prop := ∀ (i : Nat) (o : SO), c'[i]? = some o → c[i]? = some o ∨ o.nb c.length = true
def clo (c : SH) (Φ : QD) (d : D) (c' : SH) : Prop := Φ d c' ∨ (okc c (c'.take c.length) ∧ nb c.length (out1 c.length c' d) = true ∧ Φ (out1 c.length c' d) (c'.take c.length))
section
variable {K : PySem.W.Frag} {tb : List (Addr × Str)} {al al' : List Addr} {G G' : Hp} {c c' : SH} {H H' : Hp} {W : WX} {σ : L2.St} {δ : Env} {Ψ : XD}
theorem set_take {α : Type} {xs : List α} {y : α} {n k : Nat} (h : n ≤ k) : (xs.set k y).take n = xs.take n := by
  apply List.ext_getElem?
  intro i
  rw [List.getElem?_take, List.getElem?_take]
  by_cases hi : i < n
  · rw [if_pos hi, if_pos hi, List.getElem?_set, if_neg (by omega)]
  · rw [if_neg hi, if_neg hi]
theorem Rep.cutc (R : Rep K tb al G c H) (R' : Rep K tb al' G' c' H') (h : okc c (c'.take c.length)) : Rep K tb (al'.take c.length) G' (c'.take c.length) H' := by
  refine R'.cut fun o ho => ?_
  obtain ⟨i, hi⟩ := List.getElem?_of_mem ho
  rcases h i o hi with h1 | h1
  · have hl := (List.getElem?_eq_some_iff.mp h1).1
    have ha : al[i]? = some (al[i]'(by rw [R.len]; exact hl)) := List.getElem?_eq_getElem (by rw [R.len]; exact hl)
    exact Ent.nb (R.ent i _ o ha h1) (Nat.le_of_eq R.len)
  · exact h1
/-- the end of a def, in three parts: state, order, value -/
theorem clo_ok {Φ : QD} {d : D} {v : V} (R : Rep K tb al G c H) (R' : Rep K tb al' G' c' H') (l : Le al G c H al' G' c' H') (hd : Den K al' G' v d) (m : clo c Φ d c') :
    ∃ d2 c2 al2 G2, Rep K tb al2 G2 c2 H' ∧ Le al G c H al2 G2 c2 H' ∧ Den K al2 G2 v d2 ∧ Φ d2 c2 := by
  rcases m with m | ⟨ho, hn, m⟩
  · exact ⟨d, c', al', G', R', l, hd, m⟩
  · have plain : out1 c.length c' d = d → ∃ d2 c2 al2 G2, Rep K tb al2 G2 c2 H' ∧ Le al G c H al2 G2 c2 H' ∧ Den K al2 G2 v d2 ∧ Φ d2 c2 := fun e => by
      rw [e] at hn m
      exact ⟨d, _, _, G', R.cutc R' ho, l.cut (Nat.le_of_eq R.len), hd.cut hn, m⟩
    have frozen : ∀ (k : Nat) (a : Addr) (s : SO) (u : HO) (e : D), c.length ≤ k → v = .ref a → al'[k]? = some a → c'[k]? = some s → s.live = true → H' a = some u → out1 c.length c' d = e → Den K al' (upd G' a u) (.ref a) e → ∃ d2 c2 al2 G2, Rep K tb al2 G2 c2 H' ∧ Le al G c H al2 G2 c2 H' ∧ Den K al2 G2 v d2 ∧ Φ d2 c2 := by
      intro k a s u e hk hv ha hs hl hu he hden
      rw [he] at hn m
      have R2 := R'.freeze ha hs hl hu hden
      have l2 := l.trans (Le.freeze R' ha hs hl (u := u) (d := e))
      have et : (c'.set k (.frz e)).take c.length = c'.take c.length := set_take hk
      have R3 := R.cutc R2 (by rw [et]; exact ho)
      have l3 := l2.cut (Nat.le_of_eq R.len)
      rw [et] at R3 l3
      subst hv
      exact ⟨e, _, _, _, R3, l3, hden.cut hn, m⟩
    cases d with
    | obj k =>
      by_cases hk : k < c.length
      · exact plain (by simp only [out1, if_pos hk])
      · cases hd with
        | obj ha =>
          have hlt := R'.den_some ha
          have hs : c'[k]? = some c'[k] := List.getElem?_eq_getElem hlt
          have ent := R'.ent k _ _ ha hs
          have gn := R'.out k _ _ ha hs
          generalize c'[k] = s at hs ent gn
          have hk2 : c.length ≤ k := by omega
          cases s with
          | lst xs =>
            obtain ⟨vs, h1, h2⟩ := ent
            exact frozen k _ _ _ (.lst xs) hk2 rfl ha hs rfl h1 (by simp only [out1, if_neg hk, hs]) (.lst upd_same (h2.mono (fun _ _ => id) (Ex.new (gn rfl))))
          | dic xs =>
            have he : out1 c.length c' (.obj k) = .obj k := by simp only [out1, if_neg hk, hs]
            rw [he] at hn
            simp only [nb, decide_eq_true_eq] at hn
            exact absurd hn hk
          | ins C xs =>
            obtain ⟨dx, vs, h1, h2⟩ := ent
            exact frozen k _ _ _ (.ins C xs) hk2 rfl ha hs rfl h1 (by simp only [out1, if_neg hk, hs]) (.ins upd_same (h2.mono (fun _ _ => id) (Ex.new (gn rfl))))
          | frz e =>
            have he : out1 c.length c' (.obj k) = e := by simp only [out1, if_neg hk, hs]
            rw [he] at hn m
            exact ⟨e, _, _, G', R.cutc R' ho, l.cut (Nat.le_of_eq R.len), Den.cut ent hn, m⟩
          | box n =>
            have he : out1 c.length c' (.obj k) = .obj k := by simp only [out1, if_neg hk, hs]
            rw [he] at hn
            simp only [nb, decide_eq_true_eq] at hn
            exact absurd hn hk
          | lck xs =>
            have he : out1 c.length c' (.obj k) = .obj k := by simp only [out1, if_neg hk, hs]
            rw [he] at hn
            simp only [nb, decide_eq_true_eq] at hn
            exact absurd hn hk
    | _ => exact plain rfl
end
end M

set_option Elab.async false
set_option linter.all false
set_option maxRecDepth 100000
set_option maxHeartbeats 3900000
namespace M
open PySem PySem.Spec PyProof.Rows L2 G
structure EndsD where
  nx : Env → SH → Prop
  rt : QD
  bk : Env → SH → Prop
  ct : Env → SH → Prop
  xc : Addr → Str → D → Env → SH → Prop
abbrev MS := Env → SH → EndsD → Prop
abbrev MG := D → Env → SH → XD → (Env → SH → Prop) → Prop
abbrev MGs := List D → Env → SH → XD → (Env → SH → Prop) → Prop
abbrev MI := Env → SH → XD → (List D → (SH → Prop) → SH → Prop) → Prop
abbrev EndsD.x (e : EndsD) (δ : Env) : XD := fun C f d c => e.xc C f d δ c
structure EndOk (K : PySem.W.Frag) (tb : List (Addr × Str)) (W : WX) (al : List Addr) (G : Hp) (c : SH) (H : Hp) (e : EndsD) (D : Ends) : Prop where
  nx : RetE K tb al G c H e.nx D.nx
  rt : Ret K tb al G c H e.rt D.rt
  bk : RetE K tb al G c H e.bk D.bk
  ct : RetE K tb al G c H e.ct D.ct
  xc : ThrS K tb al G c H e.xc W
section
variable (K : PySem.W.Frag) (tb : List (Addr × Str)) (W : WX)
def SndS (t : TS) (m : MS) : Prop := ∀ al G c H σ δ e D, Rep K tb al G c H → SRel K al G σ δ → m δ c e → EndOk K tb W al G c H e D → t D σ H
def SndG (g : TG) (m : MG) : Prop := ∀ al G c H σ δ Ψ v x N R, Go K tb al G c H W σ δ Ψ → Den K al G v x → m x δ c Ψ N → RetE K tb al G c H N R → g v σ H R
def SndGs (g : TGs) (m : MGs) : Prop := ∀ al G c H σ δ Ψ v x N R, Go K tb al G c H W σ δ Ψ → DenL K al G v x → m x δ c Ψ N → RetE K tb al G c H N R → g v σ H R
/-- what is walked -/
structure Iter (J : It) (xs : List D) (gd : SH → Prop) (al : List Addr) (G : Hp) (c : SH) (H : Hp) : Prop where
  go : ∀ (i : Nat) (x : D) al1 G1 c1 H1, xs[i]? = some x → Rep K tb al1 G1 c1 H1 → Le al G c H al1 G1 c1 H1 → gd c1 → J.go i H1
  yl : ∀ (i : Nat) (x : D) al1 G1 c1 H1 v H', xs[i]? = some x → Rep K tb al1 G1 c1 H1 → Le al G c H al1 G1 c1 H1 → gd c1 → J.yld i H1 v H' → ∃ G', Rep K tb al1 G' c1 H' ∧ Le al1 G1 c1 H1 al1 G' c1 H' ∧ Den K al1 G' v x
  st : ∀ al1 G1 c1 H1, Rep K tb al1 G1 c1 H1 → Le al G c H al1 G1 c1 H1 → gd c1 → J.stop xs.length H1
def SndI (wi : TI) (m : MI) : Prop := ∀ al G c H σ δ Ψ Φ R, Go K tb al G c H W σ δ Ψ → m δ c Ψ Φ → (∀ xs gd c' al' G' H' J, Rep K tb al' G' c' H' → Le al G c H al' G' c' H' → Iter K tb J xs gd al' G' c' H' → Φ xs gd c' → R J H') → wi σ H R
end
section
variable {K : PySem.W.Frag} {tb : List (Addr × Str)} {W : WX} {al al' : List Addr} {G G' : Hp} {c c' : SH} {H H' : Hp} {σ : L2.St} {δ : Env} {e : EndsD} {D : Ends}
theorem EndOk.le (k : EndOk K tb W al G c H e D) (l : Le al G c H al' G' c' H') : EndOk K tb W al' G' c' H' e D := ⟨k.nx.le l, k.rt.le l, k.bk.le l, k.ct.le l, k.xc.le l⟩
theorem EndOk.go (k : EndOk K tb W al G c H e D) (r : Rep K tb al G c H) (s : SRel K al G σ δ) : Go K tb al G c H W σ δ (e.x δ) := ⟨r, s, fun C f d c2 al2 G2 H2 dd v r2 l2 fr hd den x => k.xc C f d δ c2 al2 G2 H2 dd v σ r2 l2 (s.le l2) fr hd den x⟩
theorem Go.set {v : V} {x : M.D} {i : Nat} {Ψ : XD} (g : Go K tb al G c H W σ δ Ψ) (q : Den K al G v x) : SRel K al G (σ.set i (some v)) (δ.set i (some x)) := g.env.set q
end
def seqM (a b : MS) : MS := fun δ c e => a δ c { e with nx := fun δ' c' => b δ' c' e }
def asgM (a : ME) (g : MG) : MS := fun δ c e => a δ c (e.x δ) fun x c1 => g x δ c1 (e.x δ) e.nx
def gnameM (i : Nat) : MG := fun x δ c _ N => N (δ.set i (some x)) c
def dropM (a : ME) : MS := fun δ c e => a δ c (e.x δ) fun _ c1 => e.nx δ c1
def retM (a : ME) : MS := fun δ c e => a δ c (e.x δ) e.rt
def retNM : MS := fun _ c e => e.rt .non c
def nextM : MS := fun δ c e => e.nx δ c
def breakM : MS := fun δ c e => e.bk δ c
def contM : MS := fun δ c e => e.ct δ c
def ifS (t : MT) (a b : MS) : MS := fun δ c e => t δ c (e.x δ) fun k c1 => if k = true then a δ c1 e else b δ c1 e
def twoD (xs : List D) (k : D → D → Prop) : Prop := match xs with
  | [x, y] => k x y
  | _ => False
def oneD (xs : List D) (k : D → Prop) : Prop := match xs with
  | [x] => k x
  | _ => False
def parM (i j : Nat) (a : MA) : MS := fun δ c e => a δ c (e.x δ) fun xs c1 => twoD xs fun x y => e.nx ((δ.set i (some x)).set j (some y)) c1
def raiseM (C : Addr) (f : Str) (a : MA) : MS := fun δ c e => a δ c (e.x δ) fun xs c1 => oneD xs fun x => e.xc C f x δ c1
def forD (gd : SH → Prop) (g : MG) (b : MS) : List D → Env → SH → EndsD → Prop
  | [], δ, c, e => gd c ∧ e.nx δ c
  | x :: xs, δ, c, e => gd c ∧ g x δ c (e.x δ) fun δ1 c1 => b δ1 c1 { e with nx := fun δ2 c2 => forD gd g b xs δ2 c2 e, ct := fun δ2 c2 => forD gd g b xs δ2 c2 e, bk := e.nx }
def forM (i : MI) (g : MG) (b : MS) : MS := fun δ c e => i δ c (e.x δ) fun xs gd c1 => forD gd g b xs δ c1 e
def whileM (t : MT) (b : MS) : MS := fun δ c e => ∃ I : Nat → Env → SH → Prop, (∃ m, I m δ c) ∧ ∀ m δ c, I m δ c → t δ c (e.x δ) fun k c1 => if k = true then b δ c1 { e with nx := fun δ' c' => ∃ m', m' < m ∧ I m' δ' c', ct := fun δ' c' => ∃ m', m' < m ∧ I m' δ' c', bk := e.nx } else e.nx δ c1
section
variable {K : PySem.W.Frag} {tb : List (Addr × Str)} {W : WX} {ta te : TE} {a : ME} {st su : TS} {ms mu : MS} {t : TT} {mt : MT} {tA : TA} {mA : MA} {g : TG} {mg : MG} {wi : TI} {mi : MI}
theorem snd_seq (h : SndS K tb W st ms) (k : SndS K tb W su mu) : SndS K tb W (tSeq st su) (seqM ms mu) := by
  intro al G c H σ δ e D R s m q
  refine h al G c H σ δ _ _ R s m { q with nx := fun δ2 c2 al2 G2 H2 σ2 R2 l2 s2 m2 => ?_ }
  exact k al2 G2 c2 H2 σ2 δ2 e D R2 s2 m2 (q.le l2)
theorem snd_gname {i : Nat} : SndG K tb W (gName i) (gnameM i) := fun al G c H σ δ Ψ v x N R g d m q => q _ c al G H _ g.rep .refl (g.set d) m
theorem snd_asg (ha : SndE K tb W ta a) (hg : SndG K tb W g mg) : SndS K tb W (tAsg ta g) (asgM a mg) := by
  intro al G c H σ δ e D R s m q
  refine ha al G c H σ δ (e.x δ) _ _ (q.go R s) m fun x c1 al1 G1 H1 v r1 l1 d1 m1 => ?_
  exact hg al1 G1 c1 H1 σ δ (e.x δ) v x e.nx D.nx ((q.le l1).go r1 (s.le l1)) d1 m1 (q.le l1).nx
theorem snd_drop (ha : SndE K tb W ta a) : SndS K tb W (tDrop ta) (dropM a) := by
  intro al G c H σ δ e D R s m q
  exact ha al G c H σ δ (e.x δ) _ _ (q.go R s) m fun x c1 al1 G1 H1 v r1 l1 d1 m1 => q.nx δ c1 al1 G1 H1 σ r1 l1 (s.le l1) m1
theorem snd_ret (ha : SndE K tb W ta a) : SndS K tb W (tRet ta) (retM a) := by
  intro al G c H σ δ e D R s m q
  exact ha al G c H σ δ (e.x δ) _ _ (q.go R s) m q.rt
theorem snd_retN : SndS K tb W tRetN retNM := fun al G c H σ δ e D R s m q => q.rt .non c al G H .non R .refl .non m
theorem snd_next : SndS K tb W tNext nextM := fun al G c H σ δ e D R s m q => q.nx δ c al G H σ R .refl s m
theorem snd_break : SndS K tb W tBreak breakM := fun al G c H σ δ e D R s m q => q.bk δ c al G H σ R .refl s m
theorem snd_cont : SndS K tb W tCont contM := fun al G c H σ δ e D R s m q => q.ct δ c al G H σ R .refl s m
theorem snd_ifS (ht : SndT K tb W t mt) (h : SndS K tb W st ms) (k : SndS K tb W su mu) : SndS K tb W (tIfS t st su) (ifS mt ms mu) := by
  intro al G c H σ δ e D R s m q
  refine ht al G c H σ δ (e.x δ) _ _ (q.go R s) m fun b c1 al1 G1 H1 r1 l1 m1 => ?_
  cases b with
  | true => exact iteT (h al1 G1 c1 H1 σ δ e D r1 (s.le l1) m1 (q.le l1))
  | false => exact iteF (k al1 G1 c1 H1 σ δ e D r1 (s.le l1) m1 (q.le l1))
theorem snd_par {i j : Nat} (hA : SndA K tb W tA mA) : SndS K tb W (tPar i j tA) (parM i j mA) := by
  intro al G c H σ δ e D R s m q
  refine hA al G c H σ δ (e.x δ) _ _ (q.go R s) m fun xs c1 al1 G1 H1 vs r1 l1 d1 m1 => ?_
  unfold twoD at m1
  split at m1
  · cases d1 with
    | cons d1 d2 =>
      cases d2 with
      | cons d2 d3 =>
        cases d3
        exact ⟨_, _, rfl, q.nx _ c1 al1 G1 H1 _ r1 l1 (((s.le l1).set d1).set d2) m1⟩
  · cases m1
theorem snd_raise {C : Addr} {f : Str} (hA : SndA K tb W tA mA) : SndS K tb W (tRaiseE C f W tA) (raiseM C f mA) := by
  intro al G c H σ δ e D R s m q
  refine hA al G c H σ δ (e.x δ) _ _ (q.go R s) m fun xs c1 al1 G1 H1 vs r1 l1 d1 m1 => ?_
  unfold oneD at m1
  split at m1
  · cases d1 with
    | cons d1 d2 =>
      cases d2
      rename_i v
      refine ⟨v, rfl, fun dd hd => ?_⟩
      have ex : Ex H1 (upd H1 dd (.xd [(f, v)])) := Ex.new hd
      exact q.xc C f _ δ c1 al1 G1 _ dd _ σ (r1.grow ex) (l1.trans (Le.grow ex)) (s.le l1) (l1.dom dd (.of hd)) upd_same d1 m1
  · cases m1
theorem drop_get {α : Type} {xs : List α} {i : Nat} (h : i < xs.length) : xs.drop i = xs[i] :: xs.drop (i + 1) := List.drop_eq_getElem_cons h
theorem snd_for (hi : SndI K tb W wi mi) (hg : SndG K tb W g mg) (hb : SndS K tb W st ms) : SndS K tb W (tFor wi g st) (forM mi mg ms) := by
  intro al G c H σ δ e D R s m q
  refine w_for (hi al G c H σ δ (e.x δ) _ _ (q.go R s) m fun xs gd c1 al1 G1 H1 J r1 l1 it m1 => ?_)
  refine ⟨fun i n σ2 H2 => n = xs.length - i ∧ i ≤ xs.length ∧ ∃ al2 G2 c2 δ2, Rep K tb al2 G2 c2 H2 ∧ Le al1 G1 c1 H1 al2 G2 c2 H2 ∧ SRel K al2 G2 σ2 δ2 ∧ forD gd mg ms (xs.drop i) δ2 c2 e, ⟨_, rfl, Nat.zero_le _, al1, G1, c1, δ, r1, .refl, s.le l1, m1⟩, ?_⟩
  rintro i n σ2 H2 ⟨rfl, hle, al2, G2, c2, δ2, r2, l2, s2, m2⟩
  by_cases hlt : i < xs.length
  · rw [drop_get hlt] at m2
    obtain ⟨hgd, m2⟩ := m2
    have hx : xs[i]? = some xs[i] := List.getElem?_eq_getElem hlt
    refine .inr ⟨it.go i _ al2 G2 c2 H2 hx r2 l2 hgd, fun σ3 H3 => ∃ al3 G3 c3 δ3, Rep K tb al3 G3 c3 H3 ∧ Le al1 G1 c1 H1 al3 G3 c3 H3 ∧ SRel K al3 G3 σ3 δ3 ∧ forD gd mg ms (xs.drop (i + 1)) δ3 c3 e, ?_, ?_⟩
    · rintro σ3 H3 ⟨al3, G3, c3, δ3, r3, l3, s3, m3⟩
      exact ⟨xs.length - (i + 1), by omega, rfl, hlt, al3, G3, c3, δ3, r3, l3, s3, m3⟩
    · intro v H' y
      obtain ⟨G', r', l', d'⟩ := it.yl i _ al2 G2 c2 H2 v H' hx r2 l2 hgd y
      have q2 := (q.le l1).le (l2.trans l')
      refine hg al2 G' c2 H' σ2 δ2 (e.x δ2) v _ _ _ (q2.go r' (s2.le l')) d' m2 fun δ3 c3 al3 G3 H3 σ3 r3 l3 s3 m3 => ?_
      have back : ∀ (δ4 : Env) (c4 : SH) (al4 : List Addr) (G4 H4 : Hp) (σ4 : L2.St), Rep K tb al4 G4 c4 H4 → Le al3 G3 c3 H3 al4 G4 c4 H4 → SRel K al4 G4 σ4 δ4 → forD gd mg ms (xs.drop (i + 1)) δ4 c4 e → ∃ al3 G3 c3 δ3, Rep K tb al3 G3 c3 H4 ∧ Le al1 G1 c1 H1 al3 G3 c3 H4 ∧ SRel K al3 G3 σ4 δ3 ∧ forD gd mg ms (xs.drop (i + 1)) δ3 c3 e :=
        fun δ4 c4 al4 G4 H4 σ4 r4 l4 s4 m4 => ⟨al4, G4, c4, δ4, r4, ((l2.trans l').trans l3).trans l4, s4, m4⟩
      exact hb al3 G3 c3 H3 σ3 δ3 _ _ r3 s3 m3 { nx := back, ct := back, rt := (q2.le l3).rt, bk := (q2.le l3).nx, xc := (q2.le l3).xc }
  · have hi2 : i = xs.length := by omega
    subst hi2
    rw [List.drop_length] at m2
    obtain ⟨hgd, m2⟩ := m2
    exact .inl ⟨it.st al2 G2 c2 H2 r2 l2 hgd, ((q.le l1).le l2).nx δ2 c2 al2 G2 H2 σ2 r2 .refl s2 m2⟩
theorem snd_while (ht : SndT K tb W t mt) (hb : SndS K tb W st ms) : SndS K tb W (tWhile t st) (whileM mt ms) := by
  intro al G c H σ δ e D R s m q
  obtain ⟨I, ⟨m0, h0⟩, hs⟩ := m
  refine ⟨fun n σ2 H2 => ∃ al2 G2 c2 δ2, Rep K tb al2 G2 c2 H2 ∧ Le al G c H al2 G2 c2 H2 ∧ SRel K al2 G2 σ2 δ2 ∧ I n δ2 c2, ⟨m0, al, G, c, δ, R, .refl, s, h0⟩, ?_⟩
  rintro n σ2 H2 ⟨al2, G2, c2, δ2, r2, l2, s2, i2⟩
  refine ht al2 G2 c2 H2 σ2 δ2 (e.x δ2) _ _ ((q.le l2).go r2 s2) (hs n δ2 c2 i2) fun k c3 al3 G3 H3 r3 l3 m3 => ?_
  cases k with
  | false => exact iteF (q.nx δ2 c3 al3 G3 H3 σ2 r3 (l2.trans l3) (s2.le l3) m3)
  | true =>
    refine iteT ⟨fun σ4 H4 => ∃ n', n' < n ∧ ∃ al4 G4 c4 δ4, Rep K tb al4 G4 c4 H4 ∧ Le al G c H al4 G4 c4 H4 ∧ SRel K al4 G4 σ4 δ4 ∧ I n' δ4 c4, fun _ _ h => h, ?_⟩
    have back : ∀ (δ4 : Env) (c4 : SH) (al4 : List Addr) (G4 H4 : Hp) (σ4 : L2.St), Rep K tb al4 G4 c4 H4 → Le al3 G3 c3 H3 al4 G4 c4 H4 → SRel K al4 G4 σ4 δ4 → (∃ n', n' < n ∧ I n' δ4 c4) → ∃ n', n' < n ∧ ∃ al4 G4 c4 δ4, Rep K tb al4 G4 c4 H4 ∧ Le al G c H al4 G4 c4 H4 ∧ SRel K al4 G4 σ4 δ4 ∧ I n' δ4 c4 :=
      fun δ4 c4 al4 G4 H4 σ4 r4 l4 s4 h => let ⟨n', hn, h⟩ := h; ⟨n', hn, al4, G4, c4, δ4, r4, (l2.trans l3).trans l4, s4, h⟩
    have q3 := q.le (l2.trans l3)
    exact hb al3 G3 c3 H3 σ2 δ2 _ _ r3 (s2.le l3) m3 { nx := back, ct := back, rt := q3.rt, bk := q3.nx, xc := q3.xc }
end
/-! ### a def -/
def fnD (np ns : Nat) (b : MS) : Fn := fun as c Ψ Φ => as.length = np ∧ b (as.map some ++ List.replicate (ns - as.length) none) c { nx := fun _ c' => clo c Φ .non c', rt := fun d c' => clo c Φ d c', bk := fun _ _ => False, ct := fun _ _ => False, xc := fun C f d _ c' => clo c (fun d c' => Ψ C f d c') d c' }
theorem den_start {K : PySem.W.Frag} {al : List Addr} {G : Hp} {N : List Str} {vs : List V} {as : List D} (h : DenL K al G vs as) : SRel K al G (L2.start N vs) (as.map some ++ List.replicate (N.length - as.length) none) := by
  have hl := h.length
  constructor
  · unfold L2.start
    rw [List.length_append, List.length_append, List.length_map, List.length_map, List.length_replicate, List.length_replicate, hl]
  · intro i d e
    by_cases hi : i < as.length
    · rw [List.getElem?_append_left (by rw [List.length_map]; exact hi), List.getElem?_map] at e
      obtain ⟨x, hx, e⟩ := Option.map_eq_some_iff.mp e
      cases e
      obtain ⟨v, h1, h2⟩ := h.get hx
      refine ⟨v, ?_, h2⟩
      unfold L2.start
      rw [List.getElem?_append_left (by rw [List.length_map, hl]; exact hi), List.getElem?_map, h1]
      rfl
    · rw [List.getElem?_append_right (by rw [List.length_map]; omega), List.getElem?_replicate] at e
      split at e <;> cases e
theorem fn_ok {K : PySem.W.Frag} {tb : List (Addr × Str)} {t : TS} {b : MS} {np : Nat} {N : List Str} {vs : List V} {H : Hp} {Q : VK} {E : XK} (h : SndS K tb (fun C d _ H => E C d H) t b) (hs : SpG K tb (fnD np N.length b) vs H Q E) : t { nx := fun _ H' => Q .non H', rt := Q } (L2.start N vs) H := by
  obtain ⟨al, G, c, as, Ψ, Φ, R, dn, ⟨hn, m⟩, q, x⟩ := hs
  refine h al G c H _ _ _ _ R (den_start dn) m ⟨fun δ c1 al1 G1 H1 σ1 r1 l1 s1 m1 => ?_, fun d c1 al1 G1 H1 v r1 l1 d1 m1 => ?_, fun δ c1 al1 G1 H1 σ1 r1 l1 s1 m1 => m1.elim, fun δ c1 al1 G1 H1 σ1 r1 l1 s1 m1 => m1.elim, fun C f d δ c1 al1 G1 H1 dd v σ1 r1 l1 s1 fr hd den m1 => ?_⟩
  · obtain ⟨d2, c2, al2, G2, r2, l2, d2', m2⟩ := clo_ok R r1 l1 .non m1
    exact q d2 c2 al2 G2 H1 _ r2 l2 d2' m2
  · obtain ⟨d2, c2, al2, G2, r2, l2, d2', m2⟩ := clo_ok R r1 l1 d1 m1
    exact q d2 c2 al2 G2 H1 _ r2 l2 d2' m2
  · obtain ⟨d2, c2, al2, G2, r2, l2, d2', m2⟩ := clo_ok R r1 l1 den m1
    exact x C f d2 c2 al2 G2 H1 dd v r2 l2 fr hd d2' m2
theorem fn_len {K : PySem.W.Frag} {tb : List (Addr × Str)} {np ns : Nat} {b : MS} {vs : List V} {H : Hp} {Q : VK} {E : XK} (hs : SpG K tb (fnD np ns b) vs H Q E) : vs.length = np := by
  obtain ⟨al, G, c, as, Ψ, Φ, R, dn, ⟨hn, m⟩, q, x⟩ := hs
  rw [dn.length, hn]
end M

set_option Elab.async false
set_option linter.all false
set_option maxRecDepth 100000
set_option maxHeartbeats 3900000
namespace M
open PySem PySem.Spec PyProof.Rows L2 G
def view (c : SH) : D → D
  | .obj k => match c[k]? with
    | some (.lst xs) => .lst xs
    | some (.dic xs) => .dic xs
    | some (.lck xs) => .dic xs
    | some (.ins C fs) => .ins C fs
    | some (.frz d) => d
    | _ => .obj k
  | d => d
/-- what is to be read at a value: itself in H, its parts as data -/
inductive Vw (K : PySem.W.Frag) (al : List Addr) (G H : Hp) : V → D → Prop
  | non : Vw K al G H .non .non
  | bl (b : Bool) : Vw K al G H (.bl b) (.bl b)
  | int (i : Int) : Vw K al G H (.int i) (.int i)
  | str (z : Str) : Vw K al G H (.str z) (.str z)
  | ty (n : String) : Vw K al G H (.ty n) (.ty n)
  | adr (a : Addr) : Vw K al G H (.ref a) (.adr a)
  | lst {a : Addr} {vs : List V} {xs : List D} : H a = some (.lst vs) → DenL K al G vs xs → Vw K al G H (.ref a) (.lst xs)
  | scr {a : Addr} {vs : List V} {xs : List D} : SqL K H a vs → DenL K al G vs xs → Vw K al G H (.ref a) (.scr xs)
  | tup {a : Addr} {vs : List V} {xs : List D} : H a = some (.tup vs) → DenL K al G vs xs → Vw K al G H (.ref a) (.tup xs)
  | exc {a dd C : Addr} {f : Str} {v : V} {d : D} : H dd = some (.xd [(f, v)]) → Den K al G v d → Vw K al G H (.ref a) (.exc a dd C f d)
  | dic {a : Addr} {vs : List (Key × V)} {xs : List (Key × D)} : Rd H a (.dK vs) → DenK K al G vs xs → Vw K al G H (.ref a) (.dic xs)
  | ins {a C dx : Addr} {vs : List (Str × V)} {xs : List (Str × D)} : H a = some (.ins C dx vs) → DenF K al G vs xs → Vw K al G H (.ref a) (.ins C xs)
  | obj {k : Nat} {a : Addr} : al[k]? = some a → Vw K al G H (.ref a) (.obj k)
section
variable {K : PySem.W.Frag} {tb : List (Addr × Str)} {W : WX} {al al' : List Addr} {G G' : Hp} {c c' : SH} {H H' : Hp} {v w : V} {x y : D}
theorem Den.vwG (ex : Ex G H) (h : Den K al G v x) : Vw K al G H v x := by
  cases h with
  | non => exact .non
  | bl b => exact .bl b
  | int i => exact .int i
  | str z => exact .str z
  | ty n => exact .ty n
  | adr a => exact .adr a
  | lst h r => exact .lst (ex _ _ h) r
  | scr h r => exact .scr (ex.l h) r
  | tup h r => exact .tup (ex _ _ h) r
  | exc h r => exact .exc (ex _ _ h) r
  | dic h r => exact .dic (.inr ⟨_, ex _ _ h⟩) r
  | ins h r => exact .ins (ex _ _ h) r
  | obj h => exact .obj h
theorem Rep.vw (R : Rep K tb al G c H) (h : Den K al G v x) : Vw K al G H v (view c x) := by
  cases h with
  | @obj k a h =>
    have hk := R.den_some h
    have hs : c[k]? = some c[k] := List.getElem?_eq_getElem hk
    have e := R.ent k a _ h hs
    generalize c[k] = s at hs e
    unfold view
    simp only [hs]
    cases s with
    | lst xs => obtain ⟨vs, h1, h2⟩ := e; exact .lst h1 h2
    | dic xs => obtain ⟨vs, h1, h2⟩ := e; exact .dic (.inl h1) h2
    | ins C xs => obtain ⟨dx, vs, h1, h2⟩ := e; exact .ins h1 h2
    | frz d => exact Den.vwG R.sub e
    | box n => exact .obj h
    | lck xs => obtain ⟨ob, vs, h1, h2⟩ := e; exact .dic (.inr ⟨_, h1⟩) h2
  | _ => exact Den.vwG R.sub (by constructor <;> assumption)
end
/-! ### operators -/
def addD (lv : Bool) (x y : D) (c : SH) (Φ : QD) : Prop := match view c x, view c y with
  | .int a, .int b => Φ (.int (a + b)) c
  | .str a, .str b => a.length + b.length ≤ sizeLine ∧ Φ (.str (a ++ b)) c
  | .lst a, .lst b => newL lv (a ++ b) c Φ
  | _, _ => False
def subD (x y : D) (c : SH) (Φ : QD) : Prop := match view c x, view c y with
  | .int a, .int b => Φ (.int (a - b)) c
  | _, _ => False
def mulD (lv : Bool) (x y : D) (c : SH) (Φ : QD) : Prop := match view c x, view c y with
  | .int a, .int b => CMul a b ∧ Φ (.int (a * b)) c
  | .str z, .int n => (0 ≤ n ∧ n ≤ 100000 ∧ z.length * n.toNat ≤ 1000000) ∧ Φ (.str (Txt.mul z n)) c
  | .lst a, .int n => (-(2 ^ 63) ≤ n ∧ n < 2 ^ 63) ∧ newL lv (List.replicate n.toNat a).flatten c Φ
  | _, _ => False
def fdivD (x y : D) (c : SH) (Φ : QD) : Prop := match view c x, view c y with
  | .int a, .int b => CDivN a b ∧ Φ (.int (a.fdiv b)) c
  | _, _ => False
def modD (x y : D) (c : SH) (Φ : QD) : Prop := match view c x, view c y with
  | .int a, .int b => b ≠ 0 ∧ Φ (.int (a.fmod b)) c
  | _, _ => False
def powD (x y : D) (c : SH) (Φ : QD) : Prop := match view c x, view c y with
  | .int a, .int b => CPow a b ∧ Φ (.int (a ^ b.toNat)) c
  | _, _ => False
def negD (x : D) (c : SH) (Φ : QD) : Prop := match x with
  | .int a => Φ (.int (-a)) c
  | _ => False
def ltD (x y : D) (c : SH) (Φ : QD) : Prop := match view c x, view c y with
  | .int a, .int b => Φ (.bl (decide (a < b))) c
  | .str a, .str b => Φ (.bl (decide (a.cps.toList < b.cps.toList))) c
  | _, _ => False
def leD (x y : D) (c : SH) (Φ : QD) : Prop := match view c x, view c y with
  | .int a, .int b => Φ (.bl (decide (a ≤ b))) c
  | .str a, .str b => Φ (.bl (!decide (b.cps.toList < a.cps.toList))) c
  | _, _ => False
def gtD (x y : D) (c : SH) (Φ : QD) : Prop := match view c x, view c y with
  | .int a, .int b => Φ (.bl (decide (b < a))) c
  | .str a, .str b => Φ (.bl (decide (b.cps.toList < a.cps.toList))) c
  | _, _ => False
def geD (x y : D) (c : SH) (Φ : QD) : Prop := match view c x, view c y with
  | .int a, .int b => Φ (.bl (decide (b ≤ a))) c
  | .str a, .str b => Φ (.bl (!decide (a.cps.toList < b.cps.toList))) c
  | _, _ => False
section
variable {K : PySem.W.Frag} {tb : List (Addr × Str)}
theorem dop_add {lv : Bool} : DOp K tb rAddU (addD lv) := by
  intro al G c H x y dx dy Φ Q R hx hy m q
  have vx := R.vw hx
  have vy := R.vw hy
  unfold addD at m
  split at m
  · rename_i e1 e2
    rw [e1] at vx; rw [e2] at vy
    cases vx; cases vy
    exact .inl ⟨_, _, rfl, rfl, q _ c al G H _ R .refl (.int _) m⟩
  · rename_i e1 e2
    rw [e1] at vx; rw [e2] at vy
    cases vx; cases vy
    exact .inr (.inl ⟨_, _, rfl, rfl, m.1, q _ c al G H _ R .refl (.str _) m.2⟩)
  · rename_i e1 e2
    rw [e1] at vx; rw [e2] at vy
    cases vx with
    | lst h1 r1 =>
      cases vy with
      | lst h2 r2 =>
        refine .inr (.inr ⟨_, _, _, _, rfl, rfl, h1, h2, ?_, fun p hp => newL_ok R hp (r1.append r2) m q⟩)
        have := m.1
        rw [List.length_append] at this
        rw [r1.length, r2.length]
        exact this
  · cases m
theorem dop_sub : DOp K tb (rI0 fun i j => .int (i - j)) subD := by
  intro al G c H x y dx dy Φ Q R hx hy m q
  have vx := R.vw hx
  have vy := R.vw hy
  unfold subD at m
  split at m
  · rename_i e1 e2
    rw [e1] at vx; rw [e2] at vy
    cases vx; cases vy
    exact ⟨_, _, rfl, rfl, q _ c al G H _ R .refl (.int _) m⟩
  · cases m
theorem dop_mul {lv : Bool} : DOp K tb rMulU (mulD lv) := by
  intro al G c H x y dx dy Φ Q R hx hy m q
  have vx := R.vw hx
  have vy := R.vw hy
  unfold mulD at m
  split at m
  · rename_i e1 e2
    rw [e1] at vx; rw [e2] at vy
    cases vx; cases vy
    exact .inl ⟨_, _, rfl, rfl, m.1, q _ c al G H _ R .refl (.int _) m.2⟩
  · rename_i e1 e2
    rw [e1] at vx; rw [e2] at vy
    cases vx; cases vy
    exact .inr (.inr ⟨_, _, rfl, rfl, m.1.1, m.1.2.1, m.1.2.2, q _ c al G H _ R .refl (.str _) m.2⟩)
  · rename_i e1 e2
    rw [e1] at vx; rw [e2] at vy
    cases vx with
    | lst h1 r1 =>
      cases vy
      refine .inr (.inl ⟨_, _, _, rfl, rfl, h1, m.1.1, m.1.2, ?_, fun p hp => newL_ok R hp (r1.flatten _) m.2 q⟩)
      have h3 := m.2.1
      rw [← (r1.flatten _).length, List.length_flatten, List.map_replicate, List.sum_replicate_nat, Nat.mul_comm] at h3
      exact h3
  · cases m
theorem dop_fdiv : DOp K tb rFdivU fdivD := by
  intro al G c H x y dx dy Φ Q R hx hy m q
  have vx := R.vw hx
  have vy := R.vw hy
  unfold fdivD at m
  split at m
  · rename_i e1 e2
    rw [e1] at vx; rw [e2] at vy
    cases vx; cases vy
    exact ⟨_, _, rfl, rfl, m.1, q _ c al G H _ R .refl (.int _) m.2⟩
  · cases m
theorem dop_mod : DOp K tb rModU modD := by
  intro al G c H x y dx dy Φ Q R hx hy m q
  have vx := R.vw hx
  have vy := R.vw hy
  unfold modD at m
  split at m
  · rename_i e1 e2
    rw [e1] at vx; rw [e2] at vy
    cases vx; cases vy
    exact ⟨_, _, rfl, rfl, m.1, q _ c al G H _ R .refl (.int _) m.2⟩
  · cases m
theorem dop_pow : DOp K tb rPowU powD := by
  intro al G c H x y dx dy Φ Q R hx hy m q
  have vx := R.vw hx
  have vy := R.vw hy
  unfold powD at m
  split at m
  · rename_i e1 e2
    rw [e1] at vx; rw [e2] at vy
    cases vx; cases vy
    exact ⟨_, _, rfl, rfl, m.1, q _ c al G H _ R .refl (.int _) m.2⟩
  · cases m
theorem dun_neg : DUn K tb (rU fun i => .int (-i)) negD := by
  intro al G c H x dx Φ Q R hx m q
  unfold negD at m
  split at m
  · cases hx
    exact ⟨_, rfl, q _ c al G H _ R .refl (.int _) m⟩
  · cases m
theorem dop_lt : DOp K tb rLtU ltD := by
  intro al G c H x y dx dy Φ Q R hx hy m q
  have vx := R.vw hx
  have vy := R.vw hy
  unfold ltD at m
  split at m
  · rename_i e1 e2
    rw [e1] at vx; rw [e2] at vy
    cases vx; cases vy
    exact .inl ⟨_, _, rfl, rfl, q _ c al G H _ R .refl (.bl _) m⟩
  · rename_i e1 e2
    rw [e1] at vx; rw [e2] at vy
    cases vx; cases vy
    exact .inr ⟨_, _, rfl, rfl, q _ c al G H _ R .refl (.bl _) m⟩
  · cases m
theorem dop_le : DOp K tb rLeU leD := by
  intro al G c H x y dx dy Φ Q R hx hy m q
  have vx := R.vw hx
  have vy := R.vw hy
  unfold leD at m
  split at m
  · rename_i e1 e2
    rw [e1] at vx; rw [e2] at vy
    cases vx; cases vy
    exact .inl ⟨_, _, rfl, rfl, q _ c al G H _ R .refl (.bl _) m⟩
  · rename_i e1 e2
    rw [e1] at vx; rw [e2] at vy
    cases vx; cases vy
    exact .inr ⟨_, _, rfl, rfl, q _ c al G H _ R .refl (.bl _) m⟩
  · cases m
theorem dop_gt : DOp K tb rGtU gtD := by
  intro al G c H x y dx dy Φ Q R hx hy m q
  have vx := R.vw hx
  have vy := R.vw hy
  unfold gtD at m
  split at m
  · rename_i e1 e2
    rw [e1] at vx; rw [e2] at vy
    cases vx; cases vy
    exact .inl ⟨_, _, rfl, rfl, q _ c al G H _ R .refl (.bl _) m⟩
  · rename_i e1 e2
    rw [e1] at vx; rw [e2] at vy
    cases vx; cases vy
    exact .inr ⟨_, _, rfl, rfl, q _ c al G H _ R .refl (.bl _) m⟩
  · cases m
theorem dop_ge : DOp K tb rGeU geD := by
  intro al G c H x y dx dy Φ Q R hx hy m q
  have vx := R.vw hx
  have vy := R.vw hy
  unfold geD at m
  split at m
  · rename_i e1 e2
    rw [e1] at vx; rw [e2] at vy
    cases vx; cases vy
    exact .inl ⟨_, _, rfl, rfl, q _ c al G H _ R .refl (.bl _) m⟩
  · rename_i e1 e2
    rw [e1] at vx; rw [e2] at vy
    cases vx; cases vy
    exact .inr ⟨_, _, rfl, rfl, q _ c al G H _ R .refl (.bl _) m⟩
  · cases m
end
/-! ### is -/
def nonD : D → Bool
  | .non => true
  | _ => false
def isD (x y : D) (c : SH) (Φ : QD) : Prop := match x, y with
  | .bl a, .bl b => Φ (.bl (decide (a = b))) c
  | x, .non => Φ (.bl (nonD x)) c
  | _, _ => False
def isntD (x y : D) (c : SH) (Φ : QD) : Prop := match x, y with
  | .bl a, .bl b => Φ (.bl (!decide (a = b))) c
  | x, .non => Φ (.bl (!nonD x)) c
  | _, _ => False
section
variable {K : PySem.W.Frag} {tb : List (Addr × Str)}
theorem den_non {al : List Addr} {G : Hp} {v : V} {x : D} (h : Den K al G v x) : decide (v = .non) = nonD x := by
  cases h <;> rfl
theorem dop_is : DOp K tb rIsU isD := by
  intro al G c H x y dx dy Φ Q R hx hy m q
  unfold isD at m
  split at m
  · cases hx; cases hy
    exact .inr ⟨_, _, rfl, rfl, q _ c al G H _ R .refl (.bl _) m⟩
  · cases hy
    refine .inl ⟨rfl, q _ c al G H _ R .refl ?_ m⟩
    rw [den_non hx]
    exact .bl _
  · cases m
theorem dop_isnt : DOp K tb rIsNotU isntD := by
  intro al G c H x y dx dy Φ Q R hx hy m q
  unfold isntD at m
  split at m
  · cases hx; cases hy
    exact .inr ⟨_, _, rfl, rfl, q _ c al G H _ R .refl (.bl _) m⟩
  · cases hy
    refine .inl ⟨rfl, q _ c al G H _ R .refl ?_ m⟩
    rw [den_non hx]
    exact .bl _
  · cases m
end
/-! ### items, slices, lengths -/
def ixD (x y : D) (c : SH) (Φ : QD) : Prop := match view c x, y with
  | .lst xs, .int i => match atI xs i with
    | some d => Φ d c
    | none => False
  | .scr xs, .int i => match atI xs i with
    | some d => Φ d c
    | none => False
  | .tup xs, .int i => match atI xs i with
    | some d => Φ d c
    | none => False
  | .str z, .int i => z.length ≤ sizeLine ∧ match atI z.cps.toList i with
    | some k => Φ (.str ⟨#[k]⟩) c
    | none => False
  | _, _ => False
def cutD (xs : List D) (lo hi : Option Int) : List D := (xs.drop (HT.sIx xs.length 0 lo)).take (HT.sIx xs.length xs.length hi - HT.sIx xs.length 0 lo)
def slD (lv : Bool) (x : D) (lo hi : Option Int) (c : SH) (Φ : QD) : Prop := match view c x with
  | .lst xs => newL lv (cutD xs lo hi) c Φ
  | .scr xs => newL lv (cutD xs lo hi) c Φ
  | .str z => z.length ≤ sizeLine ∧ Φ (.str (cutS z lo hi)) c
  | _ => False
def lenD (xs : List D) (c : SH) (Φ : QD) : Prop := oneD xs fun x => match view c x with
  | .lst xs => Φ (.int xs.length) c
  | .scr xs => Φ (.int xs.length) c
  | .tup xs => Φ (.int xs.length) c
  | .dic xs => Φ (.int xs.length) c
  | .str z => z.length ≤ sizeLine ∧ Φ (.int z.length) c
  | _ => False
section
variable {K : PySem.W.Frag} {tb : List (Addr × Str)}
theorem den_atI {al : List Addr} {G : Hp} {vs : List V} {xs : List D} {i : Int} {d : D} (h : DenL K al G vs xs) (e : atI xs i = some d) : ∃ v, atI vs i = some v ∧ Den K al G v d := by
  unfold atI at e ⊢
  rw [h.length]
  obtain ⟨j, h1, h2⟩ := Option.bind_eq_some_iff.mp e
  obtain ⟨v, h3, h4⟩ := h.get h2
  exact ⟨v, by rw [h1]; exact h3, h4⟩
theorem dop_ix : DOp K tb (rIx K) ixD := by
  intro al G c H x y dx dy Φ Q R hx hy m q
  have vx := R.vw hx
  unfold ixD at m
  split at m
  · rename_i e1
    rw [e1] at vx
    split at m
    · rename_i d e2
      cases hy
      cases vx with
      | lst h1 r1 =>
        obtain ⟨v, h3, h4⟩ := den_atI r1 e2
        exact .inl ⟨_, _, _, v, rfl, rfl, .of h1, h3, q d c al G H v R .refl h4 m⟩
    · cases m
  · rename_i e1
    rw [e1] at vx
    split at m
    · rename_i d e2
      cases hy
      cases vx with
      | scr h1 r1 =>
        obtain ⟨v, h3, h4⟩ := den_atI r1 e2
        exact .inl ⟨_, _, _, v, rfl, rfl, h1, h3, q d c al G H v R .refl h4 m⟩
    · cases m
  · rename_i e1
    rw [e1] at vx
    split at m
    · rename_i d e2
      cases hy
      cases vx with
      | tup h1 r1 =>
        obtain ⟨v, h3, h4⟩ := den_atI r1 e2
        exact .inr (.inl ⟨_, _, _, v, rfl, rfl, .of h1, h3, q d c al G H v R .refl h4 m⟩)
    · cases m
  · rename_i e1
    rw [e1] at vx
    obtain ⟨m0, m⟩ := m
    split at m
    · rename_i k e2
      cases hy
      cases vx
      exact .inr (.inr ⟨_, _, k, rfl, rfl, m0, e2, q _ c al G H _ R .refl (.str _) m⟩)
    · cases m
  · cases m
theorem den_cut {al : List Addr} {G : Hp} {vs : List V} {xs : List D} {lo hi : Option Int} (h : DenL K al G vs xs) : DenL K al G (cutV vs lo hi) (cutD xs lo hi) := by
  unfold cutV cutD
  rw [h.length]
  exact (h.drop _).take _
theorem dsl {lv : Bool} : ∀ al G c H x dx l u Φ Q, Rep K tb al G c H → Den K al G x dx → slD lv dx l u c Φ → Ret K tb al G c H Φ Q → rSlU K x l u H Q := by
  intro al G c H x dx l u Φ Q R hx m q
  have vx := R.vw hx
  unfold slD at m
  split at m
  · rename_i e1
    rw [e1] at vx
    cases vx with
    | lst h1 r1 => exact .inl ⟨_, _, rfl, .of h1, fun p hp => newL_ok R hp (den_cut r1) m q⟩
  · rename_i e1
    rw [e1] at vx
    cases vx with
    | scr h1 r1 => exact .inl ⟨_, _, rfl, h1, fun p hp => newL_ok R hp (den_cut r1) m q⟩
  · rename_i e1
    rw [e1] at vx
    cases vx
    exact .inr (.inl ⟨_, rfl, m.1, q _ c al G H _ R .refl (.str _) m.2⟩)
  · cases m
theorem oneD_of {al : List Addr} {G : Hp} {vs : List V} {xs : List D} {k : D → Prop} (m : oneD xs k) (h : DenL K al G vs xs) : ∃ x v, xs = [x] ∧ vs = [v] ∧ Den K al G v x ∧ k x := by
  unfold oneD at m
  split at m
  · cases h with
    | cons h1 h2 =>
      cases h2
      exact ⟨_, _, rfl, rfl, h1, m⟩
  · cases m
theorem twoD_of {al : List Addr} {G : Hp} {vs : List V} {xs : List D} {k : D → D → Prop} (m : twoD xs k) (h : DenL K al G vs xs) : ∃ x y v w, xs = [x, y] ∧ vs = [v, w] ∧ Den K al G v x ∧ Den K al G w y ∧ k x y := by
  unfold twoD at m
  split at m
  · cases h with
    | cons h1 h2 =>
      cases h2 with
      | cons h2 h3 =>
        cases h3
        exact ⟨_, _, _, _, rfl, rfl, h1, h2, m⟩
  · cases m
end
end M

set_option Elab.async false
set_option linter.all false
set_option maxRecDepth 100000
set_option maxHeartbeats 3900000
namespace M
open PySem PySem.Spec PyProof.Rows L2 G
/-! ### what is walked -/
def iV (K : PySem.W.Frag) (t : TE) : TI := fun σ H R => t σ H fun x H1 => itL K x H1 R ∨ itT K x H1 R ∨ itS x H1 R
theorem pi_V {X : Cx} {K : PySem.W.Frag} (hK : X.K = K) {tg e : Expr} {t : TE} (h : PE X e t) : PI X tg e (iV K t) := by
  subst hK
  constructor
  intro pins s σ H R I q
  refine thn (h.run pins s σ H _ I q) ?_
  rintro v s1 ⟨x, H1, J, r, ⟨a, rfl, ⟨xs, hq⟩, q⟩ | ⟨a, rfl, ⟨xs, hq⟩, q⟩ | ⟨z, rfl, q⟩⟩
  · cases r
    obtain ⟨its, rv, p, hz⟩ := J.list hq
    exact wpAny_pyIter_list p.isList (pi_one (tk := s1.toks) J _ (turn_list a _) ⟨_, Heap.get?_push_size _ rfl, rfl, rfl⟩ q)
  · cases r
    obtain ⟨its, rv, p, hz⟩ := J.tuple hq
    exact wpAny_pyIter_tuple (show s1.heap.IsTuple a its.toArray from p) (pi_one (tk := s1.toks) J _ (turn_tuple a _) ⟨_, Heap.get?_push_size _ rfl, rfl, rfl⟩ q)
  · obtain ⟨t, rfl⟩ := r
    by_cases ha : z.cps.all (· < 128) = true
    · exact wpAny_pyIter_ascii ha (pi_one (tk := s1.toks) J _ (turn_str _ z t _ (.inl rfl)) ⟨_, Heap.get?_push_size _ rfl, rfl, rfl⟩ q)
    · exact wpAny_pyIter_wide (by simpa using ha) (pi_one (tk := s1.toks) J _ (turn_str _ z t _ (.inr rfl)) ⟨_, Heap.get?_push_size _ rfl, rfl, rfl⟩ q)
def signsD (z : Str) : List D := z.cps.toList.map fun k => .str ⟨#[k]⟩
def itemsD : D → Option (List D)
  | .lst xs => some xs
  | .scr xs => some xs
  | .tup xs => some xs
  | .str z => some (signsD z)
  | _ => none
def itM (a : ME) : MI := fun δ c Ψ Φ => a δ c Ψ fun x c1 => match itemsD (view c1 x) with
  | some xs => Φ xs (fun c' => view c' x = view c1 x) c1
  | none => False
def rngD (lo : Int) (n : Nat) : List D := (List.range n).map fun i => .int (lo + (i : Nat))
def rng1M (a : MA) : MI := fun δ c Ψ Φ => a δ c Ψ fun xs c1 => oneD xs fun x => intD x c1 fun j c1 => (-(2 ^ 62) ≤ j ∧ j < 2 ^ 62) ∧ Φ (rngD 0 j.toNat) (fun _ => True) c1
def rng2M (a : MA) : MI := fun δ c Ψ Φ => a δ c Ψ fun xs c1 => twoD xs fun x y => intD x c1 fun i c1 => intD y c1 fun j c1 => (-(2 ^ 62) ≤ i ∧ i < 2 ^ 62 ∧ -(2 ^ 62) ≤ j ∧ j < 2 ^ 62) ∧ Φ (rngD i (j - i).toNat) (fun _ => True) c1
def enumD : Nat → List D → List D
  | _, [] => []
  | i, x :: xs => .tup [.int (i : Nat), x] :: enumD (i + 1) xs
def lstD : D → Option (List D)
  | .lst xs => some xs
  | .scr xs => some xs
  | _ => none
def enumM (a : MA) : MI := fun δ c Ψ Φ => a δ c Ψ fun xs c1 => oneD xs fun x => match lstD (view c1 x) with
  | some xs => Φ (enumD 0 xs) (fun c' => view c' x = view c1 x) c1
  | none => False
def zipD : List D → List D → List D
  | x :: xs, y :: ys => .tup [x, y] :: zipD xs ys
  | _, _ => []
def zipM (a : MA) : MI := fun δ c Ψ Φ => a δ c Ψ fun xs c1 => twoD xs fun x y => match lstD (view c1 x), lstD (view c1 y) with
  | some xs, some ys => Φ (zipD xs ys) (fun c' => view c' x = view c1 x ∧ view c' y = view c1 y) c1
  | _, _ => False
section
variable {K : PySem.W.Frag} {tb : List (Addr × Str)} {W : WX} {ta te : TE} {a : ME} {tA : TA} {mA : MA}
theorem signs_den {al : List Addr} {G : Hp} (z : Str) : DenL K al G (signsV z) (signsD z) := by
  unfold signsV signsD
  induction z.cps.toList with
  | nil => exact .nil
  | cons k r ih => exact .cons (.str _) ih
theorem range_den {al : List Addr} {G : Hp} (lo : Int) (n : Nat) : DenL K al G (rangeV lo n) (rngD lo n) := by
  unfold rangeV rngD
  induction List.range n with
  | nil => exact .nil
  | cons k r ih => exact .cons (.int _) ih
/-- what walks known values -/
theorem iter_of {J : It} {xs : List D} {gd : SH → Prop} {al : List Addr} {G : Hp} {c : SH} {H : Hp} (h : ∀ al1 G1 c1 H1, Rep K tb al1 G1 c1 H1 → Le al G c H al1 G1 c1 H1 → gd c1 → ∃ (vs : List V) (Gd : Hp → Prop), Walks J vs Gd ∧ Gd H1 ∧ DenL K al1 G1 vs xs) : Iter K tb J xs gd al G c H where
  go i x al1 G1 c1 H1 hx R l g := by
    obtain ⟨vs, Gd, wk, hg, dn⟩ := h al1 G1 c1 H1 R l g
    obtain ⟨v, h1, h2⟩ := dn.get hx
    exact wk.go i H1 v hg h1
  yl i x al1 G1 c1 H1 v H' hx R l g y := by
    obtain ⟨vs, Gd, wk, hg, dn⟩ := h al1 G1 c1 H1 R l g
    obtain ⟨u, h1, h2⟩ := dn.get hx
    obtain ⟨e, h3⟩ := wk.yl i H1 v H' hg (List.getElem?_eq_some_iff.mp h1).1 y
    rw [h1] at h3
    cases h3
    subst e
    exact ⟨G1, R, .refl, h2⟩
  st al1 G1 c1 H1 R l g := by
    obtain ⟨vs, Gd, wk, hg, dn⟩ := h al1 G1 c1 H1 R l g
    rw [← dn.length]
    exact wk.st H1 hg
theorem snd_itV (ha : SndE K tb W ta a) : SndI K tb W (iV K ta) (itM a) := by
  intro al G c H σ δ Ψ Φ R g m q
  refine ha al G c H σ δ Ψ _ _ g m fun x c1 al1 G1 H1 v r1 l1 d1 m1 => ?_
  split at m1
  · rename_i xs e
    have vx := r1.vw d1
    have key : ∀ {y : D}, view c1 x = y → ∀ al2 G2 c2 H2, Rep K tb al2 G2 c2 H2 → Le al1 G1 c1 H1 al2 G2 c2 H2 → view c2 x = view c1 x → Vw K al2 G2 H2 v y := fun e2 al2 G2 c2 H2 r2 l2 gd => by
      have := r2.vw (d1.le l2)
      rw [gd, e2] at this
      exact this
    cases e2 : view c1 x with
    | lst ys =>
      rw [e2] at e vx
      cases e
      cases vx with
      | @lst b vs _ h1 dn =>
        refine .inl ⟨_, rfl, ⟨_, .of h1⟩, q xs _ c1 al1 G1 H1 _ r1 l1 (iter_of fun al2 G2 c2 H2 r2 l2 gd => ?_) m1⟩
        have := key e2 al2 G2 c2 H2 r2 l2 gd
        cases this with
        | lst h3 d3 => exact ⟨_, _, wk_list, .of h3, d3⟩
    | scr ys =>
      rw [e2] at e vx
      cases e
      cases vx with
      | scr h1 dn =>
        refine .inl ⟨_, rfl, ⟨_, h1⟩, q xs _ c1 al1 G1 H1 _ r1 l1 (iter_of fun al2 G2 c2 H2 r2 l2 gd => ?_) m1⟩
        have := key e2 al2 G2 c2 H2 r2 l2 gd
        cases this with
        | scr h3 d3 => exact ⟨_, _, wk_list, h3, d3⟩
    | tup ys =>
      rw [e2] at e vx
      cases e
      cases vx with
      | tup h1 dn =>
        refine .inr (.inl ⟨_, rfl, ⟨_, .of h1⟩, q xs _ c1 al1 G1 H1 _ r1 l1 (iter_of fun al2 G2 c2 H2 r2 l2 gd => ?_) m1⟩)
        have := key e2 al2 G2 c2 H2 r2 l2 gd
        cases this with
        | tup h3 d3 => exact ⟨_, _, wk_tup, .of h3, d3⟩
    | str z =>
      rw [e2] at e vx
      cases e
      cases vx
      exact .inr (.inr ⟨_, rfl, q (signsD z) _ c1 al1 G1 H1 _ r1 l1 (iter_of fun al2 G2 c2 H2 r2 l2 gd => ⟨_, _, wk_str, trivial, signs_den z⟩) m1⟩)
    | _ => rw [e2] at e; cases e
  · cases m1
theorem intD_of {al : List Addr} {G : Hp} {x : D} {v : V} {c : SH} {Φ : Int → SH → Prop} (m : intD x c Φ) (h : Den K al G v x) : ∃ i, x = .int i ∧ v = .int i ∧ Φ i c := by
  unfold intD at m
  split at m
  · cases h
    exact ⟨_, rfl, rfl, m⟩
  · cases m
theorem snd_rng1 (hA : SndA K tb W tA mA) : SndI K tb W (iRng1 tA) (rng1M mA) := by
  intro al G c H σ δ Ψ Φ R g m q
  refine hA al G c H σ δ Ψ _ _ g m fun xs c1 al1 G1 H1 vs r1 l1 d1 m1 => ?_
  obtain ⟨x, v, rfl, rfl, dx, m2⟩ := oneD_of m1 d1
  obtain ⟨j, rfl, rfl, ⟨h1, h2⟩, m3⟩ := intD_of m2 dx
  exact ⟨j, rfl, h1, h2, q _ _ c1 al1 G1 H1 _ r1 l1 (iter_of fun al2 G2 c2 H2 r2 l2 gd => ⟨_, _, wk_range, trivial, range_den _ _⟩) m3⟩
theorem snd_rng2 (hA : SndA K tb W tA mA) : SndI K tb W (iRng2 tA) (rng2M mA) := by
  intro al G c H σ δ Ψ Φ R g m q
  refine hA al G c H σ δ Ψ _ _ g m fun xs c1 al1 G1 H1 vs r1 l1 d1 m1 => ?_
  obtain ⟨x, y, v, w, rfl, rfl, dx, dy, m2⟩ := twoD_of m1 d1
  obtain ⟨i, rfl, rfl, m3⟩ := intD_of m2 dx
  obtain ⟨j, rfl, rfl, hb, m4⟩ := intD_of m3 dy
  exact ⟨i, j, rfl, hb, q _ _ c1 al1 G1 H1 _ r1 l1 (iter_of fun al2 G2 c2 H2 r2 l2 gd => ⟨_, _, wk_range, trivial, range_den _ _⟩) m4⟩
theorem lst_vw {al : List Addr} {G H : Hp} {v : V} {y : D} {xs : List D} (e : lstD y = some xs) (h : Vw K al G H v y) : ∃ b vs, v = .ref b ∧ SqL K H b vs ∧ DenL K al G vs xs := by
  cases h with
  | lst h d => cases e; exact ⟨_, _, rfl, .of h, d⟩
  | scr h d => cases e; exact ⟨_, _, rfl, h, d⟩
  | _ => cases e
theorem enum_get : ∀ (xs : List D) (i j : Nat) (x : D), (enumD j xs)[i]? = some x → ∃ y, xs[i]? = some y ∧ x = .tup [.int ((j + i : Nat) : Int), y]
  | [], i, j, x, h => by simp [enumD] at h
  | y :: ys, 0, j, x, h => by simp [enumD] at h; exact ⟨y, rfl, h.symm⟩
  | y :: ys, i + 1, j, x, h => by
    rw [enumD, List.getElem?_cons_succ] at h
    obtain ⟨z, h1, h2⟩ := enum_get ys i (j + 1) x h
    refine ⟨z, by rw [List.getElem?_cons_succ]; exact h1, ?_⟩
    rw [h2, show j + 1 + i = j + (i + 1) by omega]
theorem enum_len : ∀ (xs : List D) (j : Nat), (enumD j xs).length = xs.length
  | [], _ => rfl
  | _ :: ys, j => by rw [enumD, List.length_cons, List.length_cons, enum_len ys]
/-- a new pair -/
theorem pair_new {al : List Addr} {G : Hp} {c : SH} {H : Hp} {T : Addr} {vs : List V} {ds : List D} (R : Rep K tb al G c H) (hT : H T = none) (dn : DenL K al G vs ds) : Rep K tb al (upd G T (.tup vs)) c (upd H T (.tup vs)) ∧ Le al G c H al (upd G T (.tup vs)) c (upd H T (.tup vs)) ∧ Den K al (upd G T (.tup vs)) (.ref T) (.tup ds) :=
  ⟨R.data hT nofun, Le.data hT (R.fresh hT) nofun, .tup upd_same (dn.mono (fun _ _ => id) (Ex.new (R.fresh hT)))⟩
theorem snd_enum (hA : SndA K tb W tA mA) : SndI K tb W (iEnum K tA) (enumM mA) := by
  intro al G c H σ δ Ψ Φ R g m q
  refine hA al G c H σ δ Ψ _ _ g m fun xs c1 al1 G1 H1 vs r1 l1 d1 m1 => ?_
  obtain ⟨x, v, rfl, rfl, dx, m2⟩ := oneD_of m1 d1
  split at m2
  · rename_i ys e
    obtain ⟨b, us, rfl, hq, dn⟩ := lst_vw e (r1.vw dx)
    have key : ∀ al2 G2 c2 H2, Rep K tb al2 G2 c2 H2 → Le al1 G1 c1 H1 al2 G2 c2 H2 → view c2 x = view c1 x → ∃ ws, SqL K H2 b ws ∧ DenL K al2 G2 ws ys := fun al2 G2 c2 H2 r2 l2 gd => by
      have h := r2.vw (dx.le l2)
      rw [gd] at h
      obtain ⟨b2, ws, e2, h3, h4⟩ := lst_vw e h
      cases e2
      exact ⟨ws, h3, h4⟩
    refine ⟨b, us, rfl, hq, q _ _ c1 al1 G1 H1 _ r1 l1 ⟨fun i y al2 G2 c2 H2 hy r2 l2 gd => ?_, fun i y al2 G2 c2 H2 u H' hy r2 l2 gd yl => ?_, fun al2 G2 c2 H2 r2 l2 gd => ?_⟩ m2⟩
    · obtain ⟨z, h1, _⟩ := enum_get ys i 0 y hy
      obtain ⟨ws, h3, h4⟩ := key al2 G2 c2 H2 r2 l2 gd
      obtain ⟨w, h5, _⟩ := h4.get h1
      exact ⟨ws, w, h3, h5⟩
    · obtain ⟨z, h1, rfl⟩ := enum_get ys i 0 y hy
      obtain ⟨ws, h3, h4⟩ := key al2 G2 c2 H2 r2 l2 gd
      obtain ⟨w, h5, h6⟩ := h4.get h1
      obtain ⟨T, w2, rfl, hT, rfl, hw⟩ := yl
      rw [hw ws h3] at h5
      cases h5
      obtain ⟨p1, p2, p3⟩ := pair_new (vs := [.int (i : Nat), w]) (ds := [.int ((0 + i : Nat) : Int), z]) r2 hT (.cons (by rw [Nat.zero_add]; exact .int _) (.cons h6 .nil))
      exact ⟨_, p1, p2, p3⟩
    · obtain ⟨ws, h3, h4⟩ := key al2 G2 c2 H2 r2 l2 gd
      exact ⟨ws, h3, by rw [enum_len, h4.length]; exact Nat.le_refl _⟩
  · cases m2
theorem zip_get : ∀ (xs ys : List D) (i : Nat) (x : D), (zipD xs ys)[i]? = some x → ∃ y z, xs[i]? = some y ∧ ys[i]? = some z ∧ x = .tup [y, z]
  | [], _, i, x, h => by simp [zipD] at h
  | _ :: _, [], i, x, h => by simp [zipD] at h
  | y :: ys, z :: zs, 0, x, h => by simp [zipD] at h; exact ⟨y, z, rfl, rfl, h.symm⟩
  | y :: ys, z :: zs, i + 1, x, h => by
    rw [zipD, List.getElem?_cons_succ] at h
    obtain ⟨a, b, h1, h2, h3⟩ := zip_get ys zs i x h
    exact ⟨a, b, by rw [List.getElem?_cons_succ]; exact h1, by rw [List.getElem?_cons_succ]; exact h2, h3⟩
theorem zip_len : ∀ (xs ys : List D), xs.length ≤ (zipD xs ys).length ∨ ys.length ≤ (zipD xs ys).length
  | [], _ => .inl (Nat.zero_le _)
  | _ :: _, [] => .inr (Nat.zero_le _)
  | _ :: xs, _ :: ys => by
    rw [zipD, List.length_cons, List.length_cons, List.length_cons]
    rcases zip_len xs ys with h | h
    · exact .inl (Nat.succ_le_succ h)
    · exact .inr (Nat.succ_le_succ h)
theorem snd_zip (hA : SndA K tb W tA mA) : SndI K tb W (iZip K tA) (zipM mA) := by
  intro al G c H σ δ Ψ Φ R g m q
  refine hA al G c H σ δ Ψ _ _ g m fun xs c1 al1 G1 H1 vs r1 l1 d1 m1 => ?_
  obtain ⟨x, y, v, w, rfl, rfl, dx, dy, m2⟩ := twoD_of m1 d1
  split at m2
  · rename_i xs ys ex ey
    obtain ⟨b1, us, rfl, hq1, dn1⟩ := lst_vw ex (r1.vw dx)
    obtain ⟨b2, ws, rfl, hq2, dn2⟩ := lst_vw ey (r1.vw dy)
    have key : ∀ {b : Addr} {x : D} {xs : List D}, lstD (view c1 x) = some xs → Den K al1 G1 (.ref b) x → ∀ al2 G2 c2 H2, Rep K tb al2 G2 c2 H2 → Le al1 G1 c1 H1 al2 G2 c2 H2 → view c2 x = view c1 x → ∃ ws, SqL K H2 b ws ∧ DenL K al2 G2 ws xs := fun e dx al2 G2 c2 H2 r2 l2 gd => by
      have h := r2.vw (dx.le l2)
      rw [gd] at h
      obtain ⟨b2, ws, e2, h3, h4⟩ := lst_vw e h
      cases e2
      exact ⟨ws, h3, h4⟩
    refine ⟨b1, b2, us, ws, rfl, hq1, hq2, q _ _ c1 al1 G1 H1 _ r1 l1 ⟨fun i y al2 G2 c2 H2 hy r2 l2 gd => ?_, fun i y al2 G2 c2 H2 u H' hy r2 l2 gd yl => ?_, fun al2 G2 c2 H2 r2 l2 gd => ?_⟩ m2⟩
    · obtain ⟨z1, z2, h1, h2, _⟩ := zip_get xs ys i y hy
      obtain ⟨w1, h3, h4⟩ := key ex dx al2 G2 c2 H2 r2 l2 gd.1
      obtain ⟨w2, h5, h6⟩ := key ey dy al2 G2 c2 H2 r2 l2 gd.2
      obtain ⟨p1, h7, _⟩ := h4.get h1
      obtain ⟨p2, h8, _⟩ := h6.get h2
      exact ⟨w1, w2, p1, p2, h3, h5, h7, h8⟩
    · obtain ⟨z1, z2, h1, h2, rfl⟩ := zip_get xs ys i y hy
      obtain ⟨w1, h3, h4⟩ := key ex dx al2 G2 c2 H2 r2 l2 gd.1
      obtain ⟨w2, h5, h6⟩ := key ey dy al2 G2 c2 H2 r2 l2 gd.2
      obtain ⟨p1, h7, h7'⟩ := h4.get h1
      obtain ⟨p2, h8, h8'⟩ := h6.get h2
      obtain ⟨T, x2, y2, rfl, hT, rfl, hw1, hw2⟩ := yl
      rw [hw1 w1 h3] at h7
      rw [hw2 w2 h5] at h8
      cases h7
      cases h8
      obtain ⟨p1, p2, p3⟩ := pair_new (vs := [_, _]) (ds := [z1, z2]) r2 hT (.cons h7' (.cons h8' .nil))
      exact ⟨_, p1, p2, p3⟩
    · obtain ⟨w1, h3, h4⟩ := key ex dx al2 G2 c2 H2 r2 l2 gd.1
      obtain ⟨w2, h5, h6⟩ := key ey dy al2 G2 c2 H2 r2 l2 gd.2
      exact ⟨w1, w2, h3, h5, by rw [h4.length, h6.length]; exact zip_len xs ys⟩
  · cases m2
end
/-! ### comprehensions -/
def noX : XD := fun _ _ _ _ => False
def W0 : WX := fun _ _ _ _ => False
theorem thr0 {K : PySem.W.Frag} {tb : List (Addr × Str)} {al : List Addr} {G : Hp} {c : SH} {H : Hp} {E : XK} : Thr K tb al G c H noX E := fun _ _ _ _ _ _ _ _ _ _ _ _ _ _ z => z.elim
def wipeD (δ : Env) : List Nat → Env
  | [] => δ
  | v :: vs => (wipeD δ vs).set v none
theorem SRel.wipe {K : PySem.W.Frag} {al : List Addr} {G : Hp} {σ : L2.St} {δ : Env} (h : SRel K al G σ δ) : ∀ vs : List Nat, SRel K al G (wipe σ vs) (wipeD δ vs)
  | [] => h
  | _ :: vs => (h.wipe vs).wipe1
theorem wipe_get (σ : L2.St) (i : Nat) : ∀ vs : List Nat, (wipe σ vs)[i]? = if i ∈ vs then (σ[i]?).map (fun _ => none) else σ[i]?
  | [] => by simp [wipe]
  | v :: vs => by
    rw [wipe, List.getElem?_set]
    by_cases e : v = i
    · subst e
      rw [if_pos rfl, wipe_length, if_pos List.mem_cons_self]
      by_cases h : v < σ.length
      · rw [if_pos h, List.getElem?_eq_getElem h]; rfl
      · rw [if_neg h, List.getElem?_eq_none (by omega)]; rfl
    · rw [if_neg e, wipe_get σ i vs]
      have : (i ∈ v :: vs) ↔ i ∈ vs := by
        rw [List.mem_cons]
        exact ⟨fun h => h.resolve_left fun z => e z.symm, .inr⟩
      simp only [this]
theorem wipe_set {i : Nat} {vs : List Nat} {o : Option V} (σ : L2.St) (h : i ∈ vs) : wipe (σ.set i o) vs = wipe σ vs := by
  apply List.ext_getElem?
  intro j
  rw [wipe_get, wipe_get]
  by_cases hj : j ∈ vs
  · rw [if_pos hj, if_pos hj, List.getElem?_set]
    by_cases e : i = j
    · subst e
      by_cases hl : i < σ.length
      · rw [if_pos rfl, if_pos hl, List.getElem?_eq_getElem hl]; rfl
      · rw [if_pos rfl, if_neg hl, List.getElem?_eq_none (by omega)]
    · rw [if_neg e]
  · rw [if_neg hj, if_neg hj, List.getElem?_set, if_neg fun e => hj (by rw [← e]; exact h)]
theorem wipe_wipe (σ : L2.St) (vs : List Nat) : wipe (wipe σ vs) vs = wipe σ vs := by
  apply List.ext_getElem?
  intro j
  rw [wipe_get, wipe_get]
  by_cases hj : j ∈ vs
  · rw [if_pos hj, if_pos hj]
    cases σ[j]? <;> rfl
  · rw [if_neg hj, if_neg hj]
section
variable (K : PySem.W.Frag) (tb : List (Addr × Str)) (W : WX) (vs : List Nat)
/-- a target that stores within vs alone -/
def SndGO (g : TG) (m : MG) : Prop := ∀ al G c H σ δ Ψ v x N R, Go K tb al G c H W σ δ Ψ → Den K al G v x → m x δ c Ψ N → (∀ (δ' : Env) (c' : SH) (al' : List Addr) (G' H' : Hp) (σ' : L2.St), Rep K tb al' G' c' H' → Le al G c H al' G' c' H' → SRel K al' G' σ' δ' → wipe σ' vs = wipe σ vs → N δ' c' → R σ' H') → g v σ H R
def SndGOs (g : TGs) (m : MGs) : Prop := ∀ al G c H σ δ v x N R, Rep K tb al G c H → SRel K al G σ δ → DenL K al G v x → m x δ c noX N → (∀ (δ' : Env) (c' : SH) (al' : List Addr) (G' H' : Hp) (σ' : L2.St), Rep K tb al' G' c' H' → Le al G c H al' G' c' H' → SRel K al' G' σ' δ' → wipe σ' vs = wipe σ vs → N δ' c' → R σ' H') → g v σ H R
end
/-- the targets of a pair, names alone -/
def gnilM : MGs := fun xs δ c _ N => xs = [] ∧ N δ c
def gconsM (i : Nat) (g : MGs) : MGs := fun xs δ c Ψ N => match xs with
  | x :: r => g r (δ.set i (some x)) c Ψ N
  | [] => False
def gtupM (g : MGs) : MG := fun x δ c _ N => match view c x with
  | .tup xs => g xs δ c noX N
  | _ => False
section
variable {K : PySem.W.Frag} {tb : List (Addr × Str)} {W : WX} {vs : List Nat}
theorem sgo_name {i : Nat} (h : i ∈ vs) : SndGO K tb W vs (gName i) (gnameM i) := fun al G c H σ δ Ψ v x N R g d m q => q _ c al G H _ g.rep .refl (g.set d) (wipe_set σ h) m
theorem sgo_nil : SndGOs K tb vs gNil gnilM := fun al G c H σ δ v x N R r s d m q => by
  obtain ⟨rfl, m⟩ := m
  cases d
  exact ⟨rfl, q δ c al G H σ r .refl s rfl m⟩
theorem sgo_cons {i : Nat} {g : TGs} {mg : MGs} (h : i ∈ vs) (hg : SndGOs K tb vs g mg) : SndGOs K tb vs (gCons (gName i) g) (gconsM i mg) := by
  intro al G c H σ δ v x N R r s d m q
  cases d with
  | nil => cases m
  | cons d1 d2 =>
    refine ⟨_, _, rfl, ?_⟩
    exact hg al G c H _ _ _ _ N R r (s.set d1) d2 m fun δ' c' al' G' H' σ' r' l' s' w' n' => q δ' c' al' G' H' σ' r' l' s' (w'.trans (wipe_set σ h)) n'
theorem sgo_tup {n : Nat} {g : TGs} {mg : MGs} (hn : ∀ xs δ c Ψ N, mg xs δ c Ψ N → xs.length = n) (hg : SndGOs K tb vs g mg) : SndGO K tb W vs (gTup K n g) (gtupM mg) := by
  intro al G c H σ δ Ψ v x N R go d m q
  have vx := go.rep.vw d
  unfold gtupM at m
  split at m
  · rename_i xs e
    rw [e] at vx
    cases vx with
    | tup h1 dn => exact ⟨_, _, rfl, .of h1, by rw [dn.length]; exact hn _ _ _ _ _ m, hg al G c H σ δ _ _ N R go.rep go.env dn m q⟩
  · cases m
theorem glen_nil : ∀ xs δ c Ψ N, gnilM xs δ c Ψ N → xs.length = 0 := fun xs δ c Ψ N h => by rw [h.1]; rfl
theorem glen_cons {n i : Nat} {mg : MGs} (h : ∀ xs δ c Ψ N, mg xs δ c Ψ N → xs.length = n) : ∀ xs δ c Ψ N, gconsM i mg xs δ c Ψ N → xs.length = n + 1 := fun xs δ c Ψ N m => by
  unfold gconsM at m
  split at m
  · rw [List.length_cons, h _ _ _ _ _ m]
  · cases m
/-- as a target of an assignment or a for -/
theorem SndGO.g {g : TG} {m : MG} (h : SndGO K tb W vs g m) : SndG K tb W g m := fun al G c H σ δ Ψ v x N R go d mm q => h al G c H σ δ Ψ v x N R go d mm fun δ' c' al' G' H' σ' r' l' s' _ n' => q δ' c' al' G' H' σ' r' l' s' n'
end
/-- the turns of a comprehension: what is put to the list -/
def lcD (gd : SH → Prop) (turn : D → SH → (Option D → SH → Prop) → Prop) : List D → List D → SH → (List D → SH → Prop) → Prop
  | [], acc, c, Φ => gd c ∧ Φ acc c
  | x :: xs, acc, c, Φ => gd c ∧ turn x c fun o c1 => acc.length < sizeLine ∧ lcD gd turn xs (acc ++ o.toList) c1 Φ
def turnD (g : MG) (t : MT) (e : ME) (δ : Env) : D → SH → (Option D → SH → Prop) → Prop := fun x c k => g x δ c noX fun δ2 c2 => t δ2 c2 noX fun b c3 => if b = true then e δ2 c3 noX fun y c4 => k (some y) c4 else k none c3
/-- what becomes of the list: data, or an object that may change -/
def endL (lv : Bool) (Φ : QD) (xs : List D) (c : SH) : Prop := if lv = true then Φ (.obj c.length) (c ++ [.lst xs]) else Φ (.lst xs) c
def lcM (lv : Bool) (i : MI) (g : MG) (t : MT) (e : ME) (vs : List Nat) : ME := fun δ c Ψ Φ => i δ c Ψ fun xs gd c1 => lcD gd (turnD g t e (wipeD δ vs)) xs [] c1 (endL lv Φ)
section
variable {K : PySem.W.Frag} {tb : List (Addr × Str)} {W : WX} {al al' : List Addr} {G G' : Hp} {c c' : SH} {H H' : Hp}
/-- a thing that is no data and no object changes -/
theorem Rep.foreign (R : Rep K tb al G c H) {a : Addr} {u o : HO} (hu : H a = some u) (n1 : ∀ ps, u ≠ .tbl ps) (n2 : ∀ φ, u ≠ .ext φ) (hg : G a = none) (hl : ¬ Liv al c a) (hf : ∀ k : Nat, al[k]? ≠ some a) : Rep K tb al G c (upd H a o) where
  len := R.len
  sub b w h := by
    rw [upd_ne (fun z => by rw [z, hg] at h; cases h)]
    exact R.sub b w h
  ent k b s h1 h2 := Ent.ext (R.ent k b s h1 h2) (fun _ _ => id) (Ex.refl _) fun w hw => by
    rw [upd_ne (fun z => hf k (by rw [← z]; exact h1))]
    exact hw
  out := R.out
  inj := R.inj
  tak k b h := by
    rw [upd_ne (fun z => hf k (by rw [← z]; exact h))]
    exact R.tak k b h
  gt := R.gt
  tab := tabs_upd R.tab hu n1 n2
/-- what is apart at a state stays apart -/
structure Apart (al : List Addr) (G : Hp) (c : SH) (a : Addr) : Prop where
  g : G a = none
  k : ∀ k : Nat, al[k]? ≠ some a
theorem Apart.liv {a : Addr} (h : Apart al G c a) : ¬ Liv al c a := fun ⟨k, _, h1, _⟩ => h.k k h1
theorem Apart.le {a : Addr} {u : HO} (h : Apart al G c a) (hu : H a = some u) (n1 : ∀ ps, u ≠ .tbl ps) (l : Le al G c H al' G' c' H') : Apart al' G' c' a ∧ H' a = some u := by
  have nf : ¬ Fr H a := fun z => by obtain ⟨ps, e⟩ := z u hu; exact n1 ps e
  refine ⟨⟨?_, fun k hk => ?_⟩, l.fr a u hu h.liv n1⟩
  · cases e : G' a with
    | none => rfl
    | some o =>
      rcases l.gn a o e with ⟨w, z⟩ | z | z
      · rw [h.g] at z; cases z
      · exact absurd z nf
      · exact absurd z h.liv
  · rcases l.nd k a hk with ⟨j, z⟩ | z
    · exact h.k j z
    · exact nf z
theorem Apart.new (R : Rep K tb al G c H) {a : Addr} (h : H a = none) : Apart al G c a := ⟨R.fresh h, fun k hk => by obtain ⟨u, hu, _⟩ := R.tak k a hk; rw [h] at hu; cases hu⟩
theorem Le.foreign (l : Le al G c H al' G' c' H') {a : Addr} {o : HO} (h : Fr H a) (ho : ∀ ps, o ≠ .tbl ps) : Le al G c H al' G' c' (upd H' a o) where
  ad := l.ad
  g := l.g
  fr b u hb n t := by
    rw [upd_ne (fun z => by rw [z] at hb; obtain ⟨ps, e⟩ := h u hb; exact t ps e)]
    exact l.fr b u hb n t
  nl := l.nl
  dom b hb := by
    by_cases e : b = a
    · rw [e]; exact h
    · exact l.dom b fun u hu => hb u (by rw [upd_ne e]; exact hu)
  gn := l.gn
  nd := l.nd
/-- a thing apart becomes an object -/
theorem Rep.own (R : Rep K tb al G c H) {a : Addr} {u : HO} {o : SO} (ap : Apart al G c a) (hu : H a = some u) (nt : ∀ ps, u ≠ .tbl ps) (he : Ent K (al ++ [a]) G H a o) (hl : o.live = true) : Rep K tb (al ++ [a]) G (c ++ [o]) H ∧ True ∧ (al ++ [a])[c.length]? = some a := by
  refine ⟨{ len := by rw [List.length_append, List.length_append, R.len]; rfl, sub := R.sub, ent := fun k b s h1 h3 => ?_, out := fun k b s h1 h3 h4 => ?_, inj := fun i j b s h1 h3 h4 h5 => ?_, tak := fun k b h => ?_, gt := R.gt, tab := R.tab }, trivial, ?_⟩
  · rcases get_app h1 with g1 | ⟨e1, e2⟩
    · rcases get_app h3 with g2 | ⟨e3, e4⟩
      · exact Ent.ext (R.ent k b s g1 g2) (fun _ _ => app_get) (Ex.refl _) fun w hw => hw
      · have := R.den_some g1
        omega
    · rcases get_app h3 with g2 | ⟨e3, e4⟩
      · have := (List.getElem?_eq_some_iff.mp g2).1
        have := R.len
        omega
      · subst e2 e4
        exact he
  · rcases get_app h1 with g1 | ⟨e1, e2⟩
    · rcases get_app h3 with g2 | ⟨e3, e4⟩
      · exact R.out k b s g1 g2 h4
      · have := R.den_some g1
        omega
    · rw [e2]
      exact ap.g
  · rcases get_app h1 with g1 | ⟨e1, e2⟩
    · rcases get_app h3 with g2 | ⟨e3, e4⟩
      · rcases get_app h4 with g3 | ⟨e5, e6⟩
        · exact R.inj i j b s g1 g2 g3 h5
        · have := R.den_some g1
          omega
      · rw [e4] at g1
        exact absurd g1 (ap.k i)
    · rcases get_app h3 with g2 | ⟨e3, e4⟩
      · rw [e2] at g2
        exact absurd g2 (ap.k j)
      · omega
  · rcases get_app h with g | ⟨_, e⟩
    · exact R.tak k b g
    · rw [e]; exact ⟨_, hu, nt⟩
  · rw [← R.len, List.getElem?_append_right (Nat.le_refl _), Nat.sub_self]
    rfl
theorem Le.own (l : Le al G c H al' G' c' H') (R : Rep K tb al' G' c' H') {a : Addr} {o : SO} (hf : Fr H a) : Le al G c H (al' ++ [a]) G' (c' ++ [o]) H' := {
  l with
  ad := fun k b h => app_get (l.ad k b h)
  nl := fun b h => by
    obtain ⟨k, s, h1, h3, h4⟩ := h
    rcases get_app h1 with g1 | ⟨e1, e2⟩
    · rcases get_app h3 with g2 | ⟨e3, e4⟩
      · exact l.nl b ⟨k, s, g1, g2, h4⟩
      · have := R.den_some g1
        omega
    · rw [e2]; exact .inr hf
  nd := fun k b h => by
    rcases get_app h with g | ⟨_, e⟩
    · exact l.nd k b g
    · rw [e]; exact .inr hf }
theorem snd_lc {lv : Bool} {wi : TI} {mi : MI} {g : TG} {mg : MG} {tt : TT} {mt : MT} {te : TE} {me : ME} {vs : List Nat} (hi : SndI K tb W wi mi) (hg : SndGO K tb W0 vs g mg) (ht : SndT K tb W0 tt mt) (he : SndE K tb W0 te me) : SndE K tb W (tLc wi g tt te vs) (lcM lv mi mg mt me vs) := by
  intro al G c H σ δ Ψ Φ Q go m q
  refine w_lc (hi al G c H σ δ Ψ _ _ go m fun xs gd c1 al1 G1 H1 J r1 l1 it m1 => ?_)
  intro D hD
  have e1 : SRel K al1 G1 σ δ := go.env.le l1
  refine ⟨fun i n H2 => n = xs.length - i ∧ i ≤ xs.length ∧ ∃ al2 G2 c2 acc avs, Rep K tb al2 G2 c2 H2 ∧ Le al1 G1 c1 H1 al2 G2 c2 H2 ∧ Apart al2 G2 c2 D ∧ H2 D = some (.lst avs) ∧ DenL K al2 G2 avs acc ∧ lcD gd (turnD mg mt me (wipeD δ vs)) (xs.drop i) acc c2 (endL lv Φ), ⟨_, rfl, Nat.zero_le _, al1, G1, c1, [], [], r1.grow (Ex.new hD), Le.grow (Ex.new hD), Apart.new r1 hD, upd_same, .nil, m1⟩, ?_⟩
  rintro i n H2 ⟨rfl, hle, al2, G2, c2, acc, avs, r2, l2, ap2, h2, d2, m2⟩
  by_cases hlt : i < xs.length
  · rw [drop_get hlt] at m2
    obtain ⟨hgd, m2⟩ := m2
    have hx : xs[i]? = some xs[i] := List.getElem?_eq_getElem hlt
    refine .inr ⟨it.go i _ al2 G2 c2 H2 hx r2 l2 hgd, fun H3 => ∃ al3 G3 c3 acc3 avs3, Rep K tb al3 G3 c3 H3 ∧ Le al1 G1 c1 H1 al3 G3 c3 H3 ∧ Apart al3 G3 c3 D ∧ H3 D = some (.lst avs3) ∧ DenL K al3 G3 avs3 acc3 ∧ lcD gd (turnD mg mt me (wipeD δ vs)) (xs.drop (i + 1)) acc3 c3 (endL lv Φ), ?_, ?_⟩
    · rintro H3 ⟨al3, G3, c3, acc3, avs3, r3⟩
      exact ⟨xs.length - (i + 1), by omega, rfl, hlt, al3, G3, c3, acc3, avs3, r3⟩
    · intro v H' y
      obtain ⟨G', r', l', d'⟩ := it.yl i _ al2 G2 c2 H2 v H' hx r2 l2 hgd y
      obtain ⟨ap', h'⟩ := ap2.le h2 nofun l'
      have go' : Go K tb al2 G' c2 H' W0 (wipe σ vs) (wipeD δ vs) noX := ⟨r', ((e1.le l2).le l').wipe vs, thr0⟩
      refine hg al2 G' c2 H' _ _ noX v _ _ _ go' d' m2 fun δ3 c3 al3 G3 H3 σ3 r3 l3 s3 w3 m3 => ?_
      rw [wipe_wipe] at w3
      refine ⟨w3, ?_⟩
      have go3 : Go K tb al3 G3 c3 H3 W0 σ3 δ3 noX := ⟨r3, s3, thr0⟩
      refine ht al3 G3 c3 H3 σ3 δ3 noX _ _ go3 m3 fun b c4 al4 G4 H4 r4 l4 m4 => ?_
      have l24 := (l'.trans l3).trans l4
      cases b with
      | false =>
        obtain ⟨ap4, h4⟩ := ap2.le h2 nofun l24
        refine iteF ⟨al4, G4, c4, acc, avs, r4, l2.trans l24, ap4, h4, d2.le l24, ?_⟩
        have := m4.2
        rwa [Option.toList_none, List.append_nil] at this
      | true =>
        refine iteT (he al4 G4 c4 H4 σ3 δ3 noX _ _ (go3.le r4 l4) m4 fun y c5 al5 G5 H5 w r5 l5 d5 m5 => ?_)
        have l25 := l24.trans l5
        obtain ⟨ap5, h5⟩ := ap2.le h2 nofun l25
        have hl := m5.1
        refine ⟨avs, h5, by rw [d2.length]; exact hl, al5, G5, c5, acc ++ [y], avs ++ [w], r5.foreign h5 nofun nofun ap5.g ap5.liv ap5.k, (l2.trans l25).foreign (.of hD) nofun, ap5, upd_same, (d2.le l25).append (.cons d5 .nil), m5.2⟩
  · have hi2 : i = xs.length := by omega
    subst hi2
    rw [List.drop_length] at m2
    obtain ⟨hgd, m2⟩ := m2
    refine .inl ⟨it.st al2 G2 c2 H2 r2 l2 hgd, ?_⟩
    unfold endL at m2
    cases lv with
    | false =>
      rw [if_neg (by decide)] at m2
      obtain ⟨r3, ex⟩ := r2.adopt h2 ap2.liv nofun
      exact q (.lst acc) c2 al2 _ H2 (.ref D) r3 (l1.trans (l2.adopt h2 ex (.of hD))) (.lst upd_same (d2.mono (fun _ _ => id) ex)) m2
    | true =>
      rw [if_pos rfl] at m2
      obtain ⟨r3, _, k3⟩ := r2.own ap2 h2 nofun (o := .lst acc) ⟨avs, h2, d2.mono (fun _ _ => app_get) (Ex.refl _)⟩ rfl
      exact q (.obj c2.length) _ _ G2 H2 (.ref D) r3 (l1.trans (l2.own r2 (.of hD))) (.obj k3) m2
end
end M

set_option Elab.async false
set_option linter.all false
set_option maxRecDepth 100000
set_option maxHeartbeats 3900000
namespace M
open PySem PySem.Spec PyProof.Rows L2 G
/-! ### == and != of data -/
mutual
def pyW (ob : Nat → Option PyData) : D → Option PyData
  | .non => some .none
  | .bl b => some (.bool b)
  | .int i => some (.int i)
  | .str z => some (.str z)
  | .lst xs => (pyWL ob xs).map .list
  | .scr xs => (pyWL ob xs).map .list
  | .tup xs => (pyWL ob xs).map .tuple
  | .obj k => ob k
  | _ => none
def pyWL (ob : Nat → Option PyData) : List D → Option (List PyData)
  | [] => some []
  | x :: xs => match pyW ob x, pyWL ob xs with
    | some p, some ps => some (p :: ps)
    | _, _ => none
end
def pyO (c : SH) (k : Nat) : Option PyData := match c[k]? with
  | some (.lst xs) => (pyWL (fun _ => none) xs).map .list
  | some (.frz d) => pyW (fun _ => none) d
  | _ => none
abbrev pyC (c : SH) : D → Option PyData := pyW (pyO c)
section
variable {K : PySem.W.Frag} {al : List Addr} {G H : Hp} {ob : Nat → Option PyData}
mutual
theorem den_py (ex : Ex G H) (ho : ∀ (k : Nat) (a : Addr) (p : PyData), al[k]? = some a → ob k = some p → Dp K H (.ref a) p) : ∀ {v : V} {d : D} {p : PyData}, Den K al G v d → pyW ob d = some p → Dp K H v p
  | _, _, _, .non, e => by simp only [pyW] at e; cases e; exact .non
  | _, _, _, .bl b, e => by simp only [pyW] at e; cases e; exact .bl b
  | _, _, _, .int b, e => by simp only [pyW] at e; cases e; exact .int b
  | _, _, _, .str b, e => by simp only [pyW] at e; cases e; exact .str b
  | _, _, _, .ty b, e => by simp only [pyW] at e; cases e
  | _, _, _, .adr b, e => by simp only [pyW] at e; cases e
  | _, _, _, .lst h r, e => by
    simp only [pyW] at e
    obtain ⟨ps, h1, rfl⟩ := Option.map_eq_some_iff.mp e
    exact .lst (.of (ex _ _ h)) (den_pyL ex ho r h1)
  | _, _, _, .scr h r, e => by
    simp only [pyW] at e
    obtain ⟨ps, h1, rfl⟩ := Option.map_eq_some_iff.mp e
    exact .lst (ex.l h) (den_pyL ex ho r h1)
  | _, _, _, .tup h r, e => by
    simp only [pyW] at e
    obtain ⟨ps, h1, rfl⟩ := Option.map_eq_some_iff.mp e
    exact .tup (.of (ex _ _ h)) (den_pyL ex ho r h1)
  | _, _, _, .exc h r, e => by simp only [pyW] at e; cases e
  | _, _, _, .dic h r, e => by simp only [pyW] at e; cases e
  | _, _, _, .ins h r, e => by simp only [pyW] at e; cases e
  | _, _, _, .obj h, e => by simp only [pyW] at e; exact ho _ _ _ h e
theorem den_pyL (ex : Ex G H) (ho : ∀ (k : Nat) (a : Addr) (p : PyData), al[k]? = some a → ob k = some p → Dp K H (.ref a) p) : ∀ {v : List V} {d : List D} {p : List PyData}, DenL K al G v d → pyWL ob d = some p → DpAll K H v p
  | _, _, _, .nil, e => by simp only [pyWL] at e; cases e; exact .nil
  | _, _, _, .cons h r, e => by
    simp only [pyWL] at e
    split at e
    · rename_i p ps h1 h2
      cases e
      exact .cons (den_py ex ho h h1) (den_pyL ex ho r h2)
    · cases e
end
end
section
variable {K : PySem.W.Frag} {tb : List (Addr × Str)} {al : List Addr} {G H : Hp} {c : SH}
theorem Rep.py (R : Rep K tb al G c H) {v : V} {d : D} {p : PyData} (h : Den K al G v d) (e : pyC c d = some p) : Dp K H v p := by
  refine den_py R.sub (fun k a p hk hp => ?_) h e
  unfold pyO at hp
  split at hp
  · rename_i xs hs
    obtain ⟨vs, h1, h2⟩ := R.ent k a _ hk hs
    obtain ⟨ps, h3, rfl⟩ := Option.map_eq_some_iff.mp hp
    exact .lst (.of h1) (den_pyL R.sub (fun _ _ _ _ z => by cases z) h2 h3)
  · rename_i d hs
    exact den_py R.sub (fun _ _ _ _ z => by cases z) (R.ent k a _ hk hs) hp
  · cases hp
end
def scD : D → D → Option Bool
  | .non, .non => some true
  | .int a, .int b => some (decide (a = b))
  | .bl a, .bl b => some (decide (a = b))
  | .str a, .str b => some (decide (a = b))
  | .non, .int _ => some false | .int _, .non => some false | .non, .bl _ => some false | .bl _, .non => some false | .non, .str _ => some false | .str _, .non => some false
  | .int _, .str _ => some false | .str _, .int _ => some false | .bl _, .str _ => some false | .str _, .bl _ => some false
  | _, _ => none
def eqB (x y : D) (c : SH) (k : Bool → Prop) : Prop := match scD x y with
  | some b => k b
  | none => match pyC c x, pyC c y with
    | some p, some q => (SeqAt.shaped p = true ∧ SeqAt.shaped q = true) ∧ k (PyData.eqv p q)
    | _, _ => False
def eqD (x y : D) (c : SH) (Φ : QD) : Prop := eqB x y c fun b => Φ (.bl b) c
def neD (x y : D) (c : SH) (Φ : QD) : Prop := eqB x y c fun b => Φ (.bl (!b)) c
section
variable {K : PySem.W.Frag} {tb : List (Addr × Str)}
theorem scD_ok {al : List Addr} {G : Hp} {v w : V} {x y : D} {b : Bool} (hx : Den K al G v x) (hy : Den K al G w y) (e : scD x y = some b) : scal v w = true ∧ decide (v = w) = b := by
  cases hx <;> cases hy <;> first
    | (cases e; done)
    | (cases e; exact ⟨rfl, by simp⟩)
theorem dop_eq : DOp K tb (rEqU K) eqD := by
  intro al G c H x y dx dy Φ Q R hx hy m q
  unfold eqD eqB at m
  split at m
  · rename_i b e
    obtain ⟨h1, h2⟩ := scD_ok hx hy e
    refine .inl ⟨h1, ?_⟩
    rw [h2]
    exact q _ c al G H _ R .refl (.bl _) m
  · split at m
    · rename_i p p' e1 e2
      exact .inr ⟨p, p', R.py hx e1, R.py hy e2, m.1.1, m.1.2, q _ c al G H _ R .refl (.bl _) m.2⟩
    · cases m
theorem dop_ne : DOp K tb (rNeU K) neD := by
  intro al G c H x y dx dy Φ Q R hx hy m q
  unfold neD eqB at m
  split at m
  · rename_i b e
    obtain ⟨h1, h2⟩ := scD_ok hx hy e
    refine .inl ⟨h1, ?_⟩
    rw [h2]
    exact q _ c al G H _ R .refl (.bl _) m
  · split at m
    · rename_i p p' e1 e2
      exact .inr ⟨p, p', R.py hx e1, R.py hy e2, m.1.1, m.1.2, q _ c al G H _ R .refl (.bl _) m.2⟩
    · cases m
end
/-! ### in -/
def flatD : D → Bool
  | .non => true
  | .bl _ => true
  | .int _ => true
  | .str _ => true
  | _ => false
def eqF : D → D → Bool
  | .non, .non => true
  | .bl a, .bl b => a == b
  | .bl a, .int b => (if a then 1 else 0) == b
  | .int a, .bl b => a == (if b then 1 else 0)
  | .int a, .int b => a == b
  | .str a, .str b => a == b
  | _, _ => false
def inF (x : D) (xs : List D) : Bool := xs.any fun y => eqF y x
def sign1 (z : Str) : Option Nat := if z.cps.size = 1 then z.cps[0]? else none
def inD (neg : Bool) (x y : D) (c : SH) (Φ : QD) : Prop := match view c y with
  | .lst ys => (flatD x = true ∧ ys.all flatD = true) ∧ Φ (.bl (if neg then !inF x ys else inF x ys)) c
  | .scr ys => (flatD x = true ∧ ys.all flatD = true) ∧ Φ (.bl (if neg then !inF x ys else inF x ys)) c
  | .tup ys => (flatD x = true ∧ ys.all flatD = true) ∧ Φ (.bl (if neg then !inF x ys else inF x ys)) c
  | .str z => match x with
    | .str y => match sign1 y with
      | some k => Φ (.bl (if neg then !decide (k ∈ z.cps.toList) else decide (k ∈ z.cps.toList))) c
      | none => False
    | _ => False
  | _ => False
section
variable {K : PySem.W.Frag} {tb : List (Addr × Str)}
theorem flat_den {al : List Addr} {G : Hp} {v : V} {x : D} (h : Den K al G v x) (f : flatD x = true) : flatV v = true := by
  cases h <;> first | rfl | cases f
theorem flat_denL {al : List Addr} {G : Hp} : ∀ {vs : List V} {xs : List D}, DenL K al G vs xs → xs.all flatD = true → vs.all flatV = true
  | _, _, .nil, _ => rfl
  | _, _, .cons h r, f => by
    rw [List.all_cons, Bool.and_eq_true] at f ⊢
    exact ⟨flat_den h f.1, flat_denL r f.2⟩
theorem eqF_den {al : List Addr} {G : Hp} {v w : V} {x y : D} (hx : Den K al G v x) (hy : Den K al G w y) (fx : flatD x = true) (fy : flatD y = true) : eqV v w = eqF x y := by
  cases hx <;> first | (cases fx; done) | (cases hy <;> first | (cases fy; done) | rfl)
theorem inF_den {al : List Addr} {G : Hp} {v : V} {x : D} (hx : Den K al G v x) (fx : flatD x = true) : ∀ {vs : List V} {xs : List D}, DenL K al G vs xs → xs.all flatD = true → inV v vs = inF x xs
  | _, _, .nil, _ => rfl
  | _, _, .cons h r, f => by
    rw [List.all_cons, Bool.and_eq_true] at f
    have ih := inF_den hx fx r f.2
    unfold inV inF at ih ⊢
    rw [List.any_cons, List.any_cons, ih, eqF_den h hx f.1 fx]
theorem sign1_eq {z : Str} {k : Nat} (h : sign1 z = some k) : z = ⟨#[k]⟩ := by
  unfold sign1 at h
  split at h
  · rename_i e
    obtain ⟨a⟩ := z
    simp only at e h
    congr 1
    apply Array.ext
    · simpa using e
    · intro i h1 h2
      have : i = 0 := by simp at h2; exact h2
      subst this
      rw [Array.getElem?_eq_getElem h1] at h
      cases h
      rfl
  · cases h
theorem in_ok {neg : Bool} {al : List Addr} {G : Hp} {c : SH} {H : Hp} {x y : V} {dx dy : D} {Φ : QD} {Q : VK} (R : Rep K tb al G c H) (hx : Den K al G x dx) (hy : Den K al G y dy) (m : inD neg dx dy c Φ) (q : Ret K tb al G c H Φ Q) :
    rIn K neg x y H Q ∨ ∃ (k : Nat) (z : Str), x = .str ⟨#[k]⟩ ∧ y = .str z ∧ Q (.bl (if neg then !decide (k ∈ z.cps.toList) else decide (k ∈ z.cps.toList))) H := by
  have vy := R.vw hy
  unfold inD at m
  split at m
  · rename_i ys e
    rw [e] at vy
    cases vy with
    | lst h d => exact .inl ⟨_, _, rfl, .inl (.of h), flat_den hx m.1.1, flat_denL d m.1.2, by rw [inF_den hx m.1.1 d m.1.2]; exact q _ c al G H _ R .refl (.bl _) m.2⟩
  · rename_i ys e
    rw [e] at vy
    cases vy with
    | scr h d => exact .inl ⟨_, _, rfl, .inl h, flat_den hx m.1.1, flat_denL d m.1.2, by rw [inF_den hx m.1.1 d m.1.2]; exact q _ c al G H _ R .refl (.bl _) m.2⟩
  · rename_i ys e
    rw [e] at vy
    cases vy with
    | tup h d => exact .inl ⟨_, _, rfl, .inr (.of h), flat_den hx m.1.1, flat_denL d m.1.2, by rw [inF_den hx m.1.1 d m.1.2]; exact q _ c al G H _ R .refl (.bl _) m.2⟩
  · rename_i z e
    rw [e] at vy
    cases vy
    split at m
    · split at m
      · rename_i y k e2
        cases hx
        refine .inr ⟨k, z, by rw [sign1_eq e2], rfl, q _ c al G H _ R .refl (.bl _) m⟩
      · cases m
    · cases m
  · cases m
theorem dop_in : DOp K tb (rInU K) (inD false) := fun al G c H x y dx dy Φ Q R hx hy m q => in_ok R hx hy m q
theorem dop_nin : DOp K tb (rNotInU K) (inD true) := fun al G c H x y dx dy Φ Q R hx hy m q => in_ok R hx hy m q
end
/-! ### isinstance -/
def tyD : D → Option String
  | .non => some "NoneType"
  | .bl _ => some "bool"
  | .int _ => some "int"
  | .str _ => some "str"
  | .lst _ => some "list"
  | .tup _ => some "tuple"
  | .dic _ => some "dict"
  | _ => none
/-- what is to be known of a class for isinstance of its instances -/
structure InsK (K : PySem.W.Frag) (C : Addr) : Prop where
  cl : Cls K C
  a : PySem.W.findIn K (.ref C) "__class__" = some (some (.builtin "object.__class__"))
  n : PySem.W.specialIn K (.builtin "object.__class__") "__get__" = some (some (.builtin "getset_descriptor.__get__"))
  t : PySem.W.takesIn K (.builtin "object.__class__") = some true
  m : PySem.W.mroIn K C (.type "object") = some true
def clD : D → Option Value
  | .ty n => some (.type n)
  | .adr C => some (.ref C)
  | _ => none
def isi1 (K : PySem.W.Frag) (d : D) (u : Value) (k : Bool → Prop) : Prop := match d with
  | .ins C _ => InsK K C ∧ ∃ b, PySem.W.kitOne K (.ref C) u = some b ∧ k b
  | d => match tyD d with
    | some n => ∃ b, PySem.W.kitOne K (.type n) u = some b ∧ k b
    | none => False
def clsD : List D → Option (List Value)
  | [] => some []
  | x :: xs => match clD x, clsD xs with
    | some u, some us => some (u :: us)
    | _, _ => none
def isiN (K : PySem.W.Frag) (d : D) (us : List Value) (k : Bool → Prop) : Prop := match d with
  | .ins C _ => InsK K C ∧ ∃ b, PySem.W.kitAny K (.ref C) us = some b ∧ k b
  | d => match tyD d with
    | some n => ∃ b, PySem.W.kitAny K (.type n) us = some b ∧ k b
    | none => False
def isiD (K : PySem.W.Frag) (xs : List D) (c : SH) (Φ : QD) : Prop := twoD xs fun x y => match y with
  | .tup ys => match clsD ys with
    | some us => isiN K (view c x) us fun b => Φ (.bl b) c
    | none => False
  | y => match clD y with
    | some u => isi1 K (view c x) u fun b => Φ (.bl b) c
    | none => False
def rIsiU (K : PySem.W.Frag) : List V → Hp → VK → Prop := fun xs H Q => rIsi K xs H Q ∨ rIsiT K xs H Q
theorem call_isiV {X : Cx} {K : PySem.W.Frag} (hK : X.K = K) : CallR X (.builtin "isinstance") (rIsiU K) := hK ▸ call_isi.or call_isiT
section
variable {K : PySem.W.Frag} {tb : List (Addr × Str)}
theorem ty_vw {al : List Addr} {G H : Hp} {v : V} {d : D} {n : String} (h : Vw K al G H v d) (e : tyD d = some n) : TyX K H v (.type n) := by
  cases h with
  | non => cases e; exact .base .non
  | bl b => cases e; exact .base (.bl b)
  | int i => cases e; exact .base (.int i)
  | str z => cases e; exact .base (.str z)
  | lst h r => cases e; exact .base (.lst h)
  | tup h r => cases e; exact .base (.tup h)
  | dic h r =>
    cases e
    rcases h with h | ⟨o, h⟩
    · exact .base (.dK h)
    · exact .fDict h
  | _ => cases e
theorem cl_den {al : List Addr} {G : Hp} {v : V} {d : D} {u : Value} (h : Den K al G v d) (e : clD d = some u) : ClsV v u := by
  cases h with
  | ty n => cases e; exact .ty n
  | adr a => cases e; exact .own a
  | _ => cases e
theorem cls_den {al : List Addr} {G : Hp} : ∀ {vs : List V} {ds : List D} {us : List Value}, DenL K al G vs ds → clsD ds = some us → Paired ClsV vs us
  | _, _, _, .nil, e => by cases e; exact .nil
  | _, _, _, .cons h r, e => by
    unfold clsD at e
    split at e
    · rename_i h1 h2
      cases e
      exact .cons (cl_den h h1) (cls_den r h2)
    · cases e
theorem isi1_ok {al : List Addr} {G H : Hp} {v : V} {d : D} {u : Value} {k : Bool → Prop} (h : Vw K al G H v d) (m : isi1 K d u k) : ∃ T b, TyX K H v T ∧ PySem.W.kitOne K T u = some b ∧ k b := by
  unfold isi1 at m
  split at m
  · obtain ⟨i, b, h1, h2⟩ := m
    cases h with
    | ins e r => exact ⟨_, b, .base (.ins e i.cl i.a i.n i.t i.m), h1, h2⟩
  · split at m
    · rename_i n e
      obtain ⟨b, h1, h2⟩ := m
      exact ⟨_, b, ty_vw h e, h1, h2⟩
    · cases m
theorem isiN_ok {al : List Addr} {G H : Hp} {v : V} {d : D} {us : List Value} {k : Bool → Prop} (h : Vw K al G H v d) (m : isiN K d us k) : ∃ T b, TyX K H v T ∧ PySem.W.kitAny K T us = some b ∧ k b := by
  unfold isiN at m
  split at m
  · obtain ⟨i, b, h1, h2⟩ := m
    cases h with
    | ins e r => exact ⟨_, b, .base (.ins e i.cl i.a i.n i.t i.m), h1, h2⟩
  · split at m
    · rename_i n e
      obtain ⟨b, h1, h2⟩ := m
      exact ⟨_, b, ty_vw h e, h1, h2⟩
    · cases m
theorem dc_isi : DCall K tb (rIsiU K) (isiD K) := by
  intro al G c H xs ds Φ Q R hd m q
  obtain ⟨x, y, v, w, rfl, rfl, dx, dy, m2⟩ := twoD_of m hd
  have vx := R.vw dx
  split at m2
  · rename_i ys
    split at m2
    · rename_i us e
      obtain ⟨T, b, h1, h2, h3⟩ := isiN_ok vx m2
      have vy := Den.vwG R.sub dy
      cases vy with
      | tup h r => exact .inr ⟨v, _, _, T, us, b, rfl, h, cls_den r e, h1, h2, q _ c al G H _ R .refl (.bl _) h3⟩
    · cases m2
  · split at m2
    · rename_i u e
      obtain ⟨T, b, h1, h2, h3⟩ := isi1_ok vx m2
      exact .inl ⟨v, w, T, u, b, rfl, cl_den dy e, h1, h2, q _ c al G H _ R .refl (.bl _) h3⟩
    · cases m2
/-! ### other calls -/
theorem dc_len : DCall K tb (rLenU K) lenD := by
  intro al G c H xs ds Φ Q R hd m q
  obtain ⟨x, v, rfl, rfl, dx, m2⟩ := oneD_of m hd
  have vx := R.vw dx
  split at m2
  · rename_i ys e
    rw [e] at vx
    cases vx with
    | lst h r => exact .inl ⟨_, _, rfl, .inl ⟨_, .of h, rfl⟩, by rw [r.length]; exact q _ c al G H _ R .refl (.int _) m2⟩
  · rename_i ys e
    rw [e] at vx
    cases vx with
    | scr h r => exact .inl ⟨_, _, rfl, .inl ⟨_, h, rfl⟩, by rw [r.length]; exact q _ c al G H _ R .refl (.int _) m2⟩
  · rename_i ys e
    rw [e] at vx
    cases vx with
    | tup h r => exact .inl ⟨_, _, rfl, .inr ⟨_, .of h, rfl⟩, by rw [r.length]; exact q _ c al G H _ R .refl (.int _) m2⟩
  · rename_i ys e
    rw [e] at vx
    cases vx with
    | dic h r => exact .inr ⟨_, _, rfl, h, by rw [r.length]; exact q _ c al G H _ R .refl (.int _) m2⟩
  · rename_i z e
    rw [e] at vx
    cases vx
    exact .inl ⟨.str z, _, rfl, ⟨m2.1, rfl⟩, q _ c al G H _ R .refl (.int _) m2.2⟩
  · cases m2
end
end M

set_option Elab.async false
set_option linter.all false
set_option maxRecDepth 100000
set_option maxHeartbeats 3900000
namespace M
open PySem PySem.Spec PyProof.Rows L2 G
/-! ### fields, methods, instances of own classes -/
def fldD (C : Addr) (f : Str) (x : D) (c : SH) (Φ : QD) : Prop := match view c x with
  | .ins C' fs => C' = C ∧ match fs.lookup f with
    | some d => Φ d c
    | none => False
  | _ => False
def fldM (C : Addr) (f : Str) (a : ME) : ME := fun δ c Ψ Φ => a δ c Ψ fun x c1 => fldD C f x c1 Φ
def putD (C : Addr) (f : Str) (x y : D) (c : SH) (N : SH → Prop) : Prop := match x with
  | .obj k => match c[k]? with
    | some (.ins C' fs) => C' = C ∧ fs.length < 1000 ∧ N (c.set k (.ins C (putFD f y fs)))
    | _ => False
  | _ => False
def sfldM (C : Addr) (f : Str) (o v : ME) : MS := fun δ c e => v δ c (e.x δ) fun y c1 => o δ c1 (e.x δ) fun x c2 => putD C f x y c2 fun c3 => e.nx δ c3
def insD (C : Addr) (m : Str) (x : D) (c : SH) (k : Prop) : Prop := match view c x with
  | .ins C' fs => C' = C ∧ fs.lookup m = none ∧ k
  | _ => False
def methM (C : Addr) (m : Str) (F : Fn) (ds : List D) (a : ME) (b : MA) : ME := fun δ c Ψ Φ => a δ c Ψ fun x c1 => insD C m x c1 (b δ c1 Ψ fun xs c2 => F (x :: (xs ++ ds)) c2 Ψ Φ)
def propM (C : Addr) (F : Fn) (a : ME) : ME := fun δ c Ψ Φ => a δ c Ψ fun x c1 => (match view c1 x with
  | .ins C' _ => C' = C
  | _ => False) ∧ F [x] c1 noX Φ
/-- C(..): an object that may change (lv), or data -/
def makeD (lv : Bool) (C : Addr) (F : Fn) (xs : List D) (c : SH) (Ψ : XD) (Φ : QD) : Prop := F (.obj c.length :: xs) (c ++ [.ins C []]) (fun D f d c2 => clo c (Ψ D f) d c2) fun v c2 => v = .non ∧ if lv = true then Φ (.obj c.length) c2 else clo c Φ (.obj c.length) c2
def makeM (lv : Bool) (C : Addr) (F : Fn) (ds : List D) (a : MA) : ME := fun δ c Ψ Φ => a δ c Ψ fun xs c1 => makeD lv C F (xs ++ ds) c1 Ψ Φ
section
variable {K : PySem.W.Frag} {tb : List (Addr × Str)} {W : WX} {ta te : TE} {a b : ME} {tA : TA} {mA : MA} {C : Addr} {f m : Str} {F : Fn}
theorem snd_fld (cl : Cls K C) (na : NoAttr K C f) (ha : SndE K tb W ta a) : SndE K tb W (tFld K ta f) (fldM C f a) := by
  intro al G c H σ δ Ψ Φ Q g mm q
  refine ha al G c H σ δ Ψ _ _ g mm fun x c1 al1 G1 H1 v r1 l1 d1 m1 => ?_
  have vx := r1.vw d1
  unfold fldD at m1
  split at m1
  · rename_i C' fs e
    rw [e] at vx
    obtain ⟨rfl, m1⟩ := m1
    split at m1
    · rename_i d e2
      cases vx with
      | ins h r =>
        obtain ⟨u, h1, h2⟩ := r.lookup e2
        exact ⟨_, _, _, _, u, rfl, h, cl, na, h1, q d c1 al1 G1 H1 u r1 l1 h2 m1⟩
    · cases m1
  · cases m1
theorem putF_den {al : List Addr} {G : Hp} {v : V} {d : D} (h : Den K al G v d) : ∀ {vs : List (Str × V)} {ds : List (Str × D)}, DenF K al G vs ds → DenF K al G (putF f v vs) (putFD f d ds)
  | _, _, .nil => .cons h .nil
  | _, _, .cons (k := k) q r => by
    unfold putF putFD
    by_cases e : k = f
    · rw [if_pos e, if_pos e]; exact .cons h r
    · rw [if_neg e, if_neg e]; exact .cons q (putF_den h r)
theorem snd_sfld (cl : Cls K C) (na : NoAttr K C f) (ha : SndE K tb W ta a) (hv : SndE K tb W te b) : SndS K tb W (sFld K ta te f) (sfldM C f a b) := by
  intro al G c H σ δ e D R s mm q
  refine hv al G c H σ δ (e.x δ) _ _ (q.go R s) mm fun y c1 al1 G1 H1 w r1 l1 d1 m1 => ?_
  refine ha al1 G1 c1 H1 σ δ (e.x δ) _ _ ((q.le l1).go r1 (s.le l1)) m1 fun x c2 al2 G2 H2 v r2 l2 d2 m2 => ?_
  unfold putD at m2
  split at m2
  · rename_i k
    split at m2
    · rename_i C' fs hs
      obtain ⟨rfl, hl, m2⟩ := m2
      cases d2 with
      | @obj _ ax hk =>
        have hs2 := hs
        obtain ⟨dx, vs, h1, h2⟩ := r2.ent k _ _ hk hs
        refine ⟨_, _, dx, vs, rfl, h1, cl, na, by rw [h2.length]; exact hl, ?_⟩
        have ent : Ent K al2 G2 (upd H2 ax (.ins C' dx (putF f w vs))) ax (.ins C' (putFD f y fs)) := ⟨dx, _, upd_same, putF_den (d1.le l2) h2⟩
        have lc : Le al2 G2 c2 H2 al2 G2 (c2.set k (.ins C' (putFD f y fs))) (upd H2 ax (.ins C' dx (putF f w vs))) := Le.change r2 hk hs2 rfl nofun
        exact q.nx δ _ al2 G2 _ σ (r2.change hk hs2 rfl ent rfl) ((l1.trans l2).trans lc) ((s.le l1).le (l2.trans lc)) m2
    · cases m2
  · cases m2
theorem snd_meth {dvs : List V} {ds : List D} (hd : ∀ al G, DenL K al G dvs ds) (ha : SndE K tb W ta a) (hA : SndA K tb W tA mA) : SndE K tb W (tMethSD C m (SpG K tb F) dvs (WE W) ta tA) (methM C m F ds a mA) := by
  intro al G c H σ δ Ψ Φ Q g mm q
  refine ha al G c H σ δ Ψ _ _ g mm fun x c1 al1 G1 H1 v r1 l1 d1 m1 => ?_
  have vx := r1.vw d1
  unfold insD at m1
  split at m1
  · rename_i C' fs e
    rw [e] at vx
    obtain ⟨rfl, hl, m1⟩ := m1
    cases vx with
    | ins h r =>
      refine ⟨_, _, _, rfl, h, r.none hl, ?_⟩
      refine hA al1 G1 c1 H1 σ δ Ψ _ _ (g.le r1 l1) m1 fun xs c2 al2 G2 H2 vs r2 l2 d2 m2 => ?_
      exact ⟨al2, G2, c2, _, Ψ, Φ, r2, .cons (d1.le l2) (d2.appendC hd), m2, q.le (l1.trans l2), g.thr.le (l1.trans l2)⟩
  · cases m1
theorem snd_prop (ha : SndE K tb W ta a) : SndE K tb W (tProp C (SpG K tb F) [] (fun _ _ _ => False) ta) (propM C F a) := by
  intro al G c H σ δ Ψ Φ Q g mm q
  refine ha al G c H σ δ Ψ _ _ g mm fun x c1 al1 G1 H1 v r1 l1 d1 m1 => ?_
  have vx := r1.vw d1
  obtain ⟨m0, m1⟩ := m1
  split at m0
  · rename_i C' fs e
    rw [e] at vx
    subst m0
    cases vx with
    | ins h r => exact ⟨_, _, _, rfl, h, al1, G1, c1, _, noX, Φ, r1, .cons d1 .nil, m1, q.le l1, thr0⟩
  · cases m0
theorem snd_make {lv : Bool} {dvs : List V} {ds : List D} (hd : ∀ al G, DenL K al G dvs ds) (hA : SndA K tb W tA mA) : SndE K tb W (tMakeSD C (SpG K tb F) dvs (WE W) tA) (makeM lv C F ds mA) := by
  intro al G c H σ δ Ψ Φ Q g mm q
  refine hA al G c H σ δ Ψ _ _ g mm fun xs c1 al1 G1 H1 vs r1 l1 d1 m1 => ?_
  intro x dx hx hdx nx
  have e1 : Ex H1 (upd H1 dx (.own x)) := Ex.new hdx
  have e2 : Ex (upd H1 dx (.own x)) (upd (upd H1 dx (.own x)) x (.ins C dx [])) := Ex.new (by rw [upd_ne nx.symm]; exact hx)
  have ex := e1.trans e2
  have r2 : Rep K tb (al1 ++ [x]) G1 (c1 ++ [.ins C []]) (upd (upd H1 dx (.own x)) x (.ins C dx [])) := r1.obj hx ex ⟨dx, [], upd_same, .nil⟩ rfl
  have l2 : Le al1 G1 c1 H1 (al1 ++ [x]) G1 (c1 ++ [.ins C []]) (upd (upd H1 dx (.own x)) x (.ins C dx [])) := Le.obj r1 hx ex
  have hk : (al1 ++ [x])[c1.length]? = some x := by
    rw [← r1.len, List.getElem?_append_right (Nat.le_refl _), Nat.sub_self]
    rfl
  refine ⟨_, _, _, _, _, _, r2, .cons (.obj hk) ((d1.le l2).appendC hd), m1, fun d c3 al3 G3 H3 v r3 l3 d3 m3 => ?_, fun D f d c3 al3 G3 H3 dd v r3 l3 fr hdd d3 m3 => ?_⟩
  · obtain ⟨rfl, m3⟩ := m3
    cases d3
    refine ⟨rfl, ?_⟩
    have hx3 : Den K al3 G3 (.ref x) (.obj c1.length) := .obj (l3.ad _ _ hk)
    cases lv with
    | true =>
      rw [if_pos rfl] at m3
      exact q _ c3 al3 G3 H3 _ r3 ((l1.trans l2).trans l3) hx3 m3
    | false =>
      rw [if_neg (by decide)] at m3
      obtain ⟨d4, c4, al4, G4, r4, l4, d4', m4⟩ := clo_ok r1 r3 (l2.trans l3) hx3 m3
      exact q d4 c4 al4 G4 H3 _ r4 (l1.trans l4) d4' m4
  · obtain ⟨d4, c4, al4, G4, r4, l4, d4', m4⟩ := clo_ok r1 r3 (l2.trans l3) d3 m3
    exact g.thr D f d4 c4 al4 G4 H3 dd v r4 (l1.trans l4) (l1.dom _ (l2.dom _ fr)) hdd d4' m4
end
/-! ### methods of built-in types -/
def tyM (T : String) : D → Prop
  | .lst _ => T = "list"
  | .scr _ => T = "list"
  | .str _ => T = "str"
  | _ => False
def bm0M (T : String) (op : D → List D → SH → QD → Prop) (a : ME) : ME := fun δ c Ψ Φ => a δ c Ψ fun x c1 => tyM T (view c1 x) ∧ op x [] c1 Φ
def bmM (T : String) (op : D → List D → SH → QD → Prop) (a : ME) (b : MA) : ME := fun δ c Ψ Φ => a δ c Ψ fun x c1 => tyM T (view c1 x) ∧ b δ c1 Ψ fun xs c2 => op x xs c2 Φ
def m1M (op : D → List D → SH → QD → Prop) (a b : ME) : ME := fun δ c Ψ Φ => a δ c Ψ fun x c1 => tyM "str" x ∧ b δ c1 Ψ fun y c2 => op x [y] c2 Φ
def liveL (x : D) (c : SH) (k : Nat → List D → Prop) : Prop := match x with
  | .obj i => match c[i]? with
    | some (.lst xs) => k i xs
    | _ => False
  | _ => False
def appendD (x : D) (xs : List D) (c : SH) (Φ : QD) : Prop := oneD xs fun y => liveL x c fun k ys => ys.length < sizeLine ∧ Φ .non (c.set k (.lst (ys ++ [y])))
def extendD (x : D) (xs : List D) (c : SH) (Φ : QD) : Prop := oneD xs fun y => liveL x c fun k ys => match view c y with
  | .lst zs => ys.length + zs.length ≤ sizeLine ∧ Φ .non (c.set k (.lst (ys ++ zs)))
  | _ => False
def popD (x : D) (xs : List D) (c : SH) (Φ : QD) : Prop := xs = [] ∧ liveL x c fun k ys => match ys[ys.length - 1]? with
  | some y => Φ y (c.set k (.lst ys.dropLast))
  | none => False
def popAtD (x : D) (xs : List D) (c : SH) (Φ : QD) : Prop := oneD xs fun i => intD i c fun i c => (-(2 ^ 63) ≤ i ∧ i < 2 ^ 63) ∧ liveL x c fun k ys => match seqIndex? i ys.length with
  | some j => match ys[j]? with
    | some y => Φ y (c.set k (.lst (ys.eraseIdx j)))
    | none => False
  | none => False
def s0D (g : Str → D) (x : D) (xs : List D) (c : SH) (Φ : QD) : Prop := xs = [] ∧ match x with
  | .str z => Φ (g z) c
  | _ => False
def strsD : List D → Option (List Str)
  | [] => some []
  | .str z :: xs => match strsD xs with
    | some zs => some (z :: zs)
    | none => none
  | _ => none
def seqD : D → Option (List D)
  | .lst xs => some xs
  | .scr xs => some xs
  | .tup xs => some xs
  | _ => none
def joinD (x : D) (xs : List D) (c : SH) (Φ : QD) : Prop := oneD xs fun y => match x with
  | .str a => match seqD (view c y) with
    | some ys => match strsD ys with
      | some zs => (zs.map (·.length)).sum + zs.length * a.length ≤ 16777216 ∧ Φ (.str (Txt.join a zs)) c
      | none => False
    | none => False
  | _ => False
def splitD (lv : Bool) (x : D) (xs : List D) (c : SH) (Φ : QD) : Prop := oneD xs fun y => match x, y with
  | .str a, .str b => ((b.length == 0) = false ∧ a.length + 2 ≤ sizeLine) ∧ newL lv ((Txt.split a b).map .str) c Φ
  | _, _ => False
section
variable {K : PySem.W.Frag} {tb : List (Addr × Str)} {W : WX} {ta te : TE} {a b : ME} {tA : TA} {mA : MA} {T : String} {r : V → List V → Hp → VK → Prop} {op : D → List D → SH → QD → Prop}
theorem ty_ok {al : List Addr} {G H : Hp} {v : V} {d : D} (h : Vw K al G H v d) (m : tyM T d) : tyV K T v H := by
  cases h with
  | lst h r => exact .inl ⟨m, _, .of h⟩
  | scr h r => exact .inl ⟨m, _, h⟩
  | str z => exact m
  | _ => cases m
theorem snd_bm0 (ho : DMt K tb r op) (ha : SndE K tb W ta a) : SndE K tb W (tBM0 K T r ta) (bm0M T op a) := by
  intro al G c H σ δ Ψ Φ Q g mm q
  refine ha al G c H σ δ Ψ _ _ g mm fun x c1 al1 G1 H1 v r1 l1 d1 m1 => ?_
  exact ⟨ty_ok (r1.vw d1) m1.1, ho al1 G1 c1 H1 v [] x [] Φ Q r1 d1 .nil m1.2 (q.le l1)⟩
theorem snd_bm (ho : DMt K tb r op) (ha : SndE K tb W ta a) (hA : SndA K tb W tA mA) : SndE K tb W (tBM K T r ta tA) (bmM T op a mA) := by
  intro al G c H σ δ Ψ Φ Q g mm q
  refine ha al G c H σ δ Ψ _ _ g mm fun x c1 al1 G1 H1 v r1 l1 d1 m1 => ?_
  refine ⟨ty_ok (r1.vw d1) m1.1, ?_⟩
  refine hA al1 G1 c1 H1 σ δ Ψ _ _ (g.le r1 l1) m1.2 fun xs c2 al2 G2 H2 vs r2 l2 d2 m2 => ?_
  exact ho al2 G2 c2 H2 v vs x xs Φ Q r2 (d1.le l2) d2 m2 (q.le (l1.trans l2))
theorem snd_m1 (ho : DMt K tb r op) (ha : SndE K tb W ta a) (hb : SndE K tb W te b) : SndE K tb W (tM1 r ta te) (m1M op a b) := by
  intro al G c H σ δ Ψ Φ Q g mm q
  refine ha al G c H σ δ Ψ _ _ g mm fun x c1 al1 G1 H1 v r1 l1 d1 m1 => ?_
  obtain ⟨m0, m1⟩ := m1
  have hz : ∃ z, v = .str z := by
    cases d1 with
    | str z => exact ⟨z, rfl⟩
    | lst => exact absurd (show ("str" : String) = "list" from m0) (by decide)
    | scr => exact absurd (show ("str" : String) = "list" from m0) (by decide)
    | _ => cases m0
  refine ⟨hz, ?_⟩
  refine hb al1 G1 c1 H1 σ δ Ψ _ _ (g.le r1 l1) m1 fun y c2 al2 G2 H2 w r2 l2 d2 m2 => ?_
  exact ho al2 G2 c2 H2 v [w] x [y] Φ Q r2 (d1.le l2) (.cons d2 .nil) m2 (q.le (l1.trans l2))
theorem live_of {al : List Addr} {G : Hp} {c : SH} {H : Hp} {x : D} {v : V} {k : Nat → List D → Prop} (R : Rep K tb al G c H) (h : Den K al G v x) (m : liveL x c k) : ∃ i l vs ys, v = .ref l ∧ al[i]? = some l ∧ c[i]? = some (.lst ys) ∧ H l = some (.lst vs) ∧ DenL K al G vs ys ∧ k i ys := by
  unfold liveL at m
  split at m
  · split at m
    · rename_i i _ ys hs
      cases h with
      | obj hk =>
        obtain ⟨vs, h1, h2⟩ := R.ent i _ _ hk hs
        exact ⟨i, _, vs, ys, rfl, hk, hs, h1, h2, m⟩
    · cases m
  · cases m
theorem change_lst {al : List Addr} {G : Hp} {c : SH} {H : Hp} {i : Nat} {l : Addr} {ys zs : List D} {ws : List V} (R : Rep K tb al G c H) (h1 : al[i]? = some l) (h2 : c[i]? = some (.lst ys)) (d : DenL K al G ws zs) : Rep K tb al G (c.set i (.lst zs)) (upd H l (.lst ws)) ∧ Le al G c H al G (c.set i (.lst zs)) (upd H l (.lst ws)) :=
  ⟨R.change h1 h2 rfl ⟨ws, upd_same, d⟩ rfl, Le.change R h1 h2 rfl nofun⟩
theorem dm_append : DMt K tb rAppend appendD := by
  intro al G c H x xs dx ds Φ Q R hx hd m q
  obtain ⟨y, w, rfl, rfl, dy, m2⟩ := oneD_of m hd
  obtain ⟨i, l, vs, ys, rfl, h1, h2, h3, h4, m3⟩ := live_of R hx m2
  obtain ⟨r2, l2⟩ := change_lst R h1 h2 (h4.append (.cons dy .nil))
  exact ⟨l, vs, w, rfl, rfl, h3, by rw [h4.length]; exact m3.1, q .non _ al G _ .non r2 l2 .non m3.2⟩
theorem dm_extend : DMt K tb rExtend extendD := by
  intro al G c H x xs dx ds Φ Q R hx hd m q
  obtain ⟨y, w, rfl, rfl, dy, m2⟩ := oneD_of m hd
  obtain ⟨i, l, vs, ys, rfl, h1, h2, h3, h4, m3⟩ := live_of R hx m2
  have vy := R.vw dy
  split at m3
  · rename_i zs e
    rw [e] at vy
    cases vy with
    | lst h5 h6 =>
      obtain ⟨r2, l2⟩ := change_lst R h1 h2 (h4.append h6)
      exact ⟨l, _, vs, _, rfl, rfl, h3, h5, by rw [h4.length, h6.length]; exact m3.1, q .non _ al G _ .non r2 l2 .non m3.2⟩
  · cases m3
theorem den_dropLast {al : List Addr} {G : Hp} {vs : List V} {ds : List D} (h : DenL K al G vs ds) : DenL K al G vs.dropLast ds.dropLast := by
  rw [List.dropLast_eq_take, List.dropLast_eq_take, h.length]
  exact h.take _
theorem dm_pop : DMt K tb rPop popD := by
  intro al G c H x xs dx ds Φ Q R hx hd m q
  obtain ⟨rfl, m2⟩ := m
  cases hd
  obtain ⟨i, l, vs, ys, rfl, h1, h2, h3, h4, m3⟩ := live_of R hx m2
  split at m3
  · rename_i y e
    obtain ⟨r2, l2⟩ := change_lst R h1 h2 (den_dropLast h4)
    obtain ⟨w, h5, h6⟩ := h4.get e
    exact ⟨l, vs, w, rfl, rfl, h3, by rw [h4.length]; exact h5, q y _ al G _ w r2 l2 (h6.le l2) m3⟩
  · cases m3
theorem dm_popAt : DMt K tb rPopAt popAtD := by
  intro al G c H x xs dx ds Φ Q R hx hd m q
  obtain ⟨y, w, rfl, rfl, dy, m2⟩ := oneD_of m hd
  obtain ⟨j, rfl, rfl, ⟨b1, b2⟩, m3⟩ := intD_of m2 dy
  obtain ⟨i, l, vs, ys, rfl, h1, h2, h3, h4, m4⟩ := live_of R hx m3
  split at m4
  · rename_i n e
    split at m4
    · rename_i y e2
      obtain ⟨r2, l2⟩ := change_lst R h1 h2 (h4.erase n)
      obtain ⟨w, h5, h6⟩ := h4.get e2
      exact ⟨l, vs, j, n, w, rfl, rfl, h3, b1, b2, by rw [h4.length]; exact e, h5, q y _ al G _ w r2 l2 (h6.le l2) m4⟩
    · cases m4
  · cases m4
theorem dm_s0 {g : Str → V} {gd : Str → D} (hg : ∀ al G z, Den K al G (g z) (gd z)) : DMt K tb (rM0 g) (s0D gd) := by
  intro al G c H x xs dx ds Φ Q R hx hd m q
  obtain ⟨rfl, m2⟩ := m
  cases hd
  split at m2
  · cases hx
    exact ⟨_, rfl, rfl, trivial, q _ c al G H _ R .refl (hg al G _) m2⟩
  · cases m2
theorem strs_den {al : List Addr} {G : Hp} : ∀ {vs : List V} {xs : List D} {zs : List Str}, DenL K al G vs xs → strsD xs = some zs → vs = zs.map V.str
  | _, _, _, .nil, e => by cases e; rfl
  | _, _, _, .cons h r, e => by
    cases h with
    | str z =>
      unfold strsD at e
      split at e
      · rename_i zs h2
        cases e
        rw [strs_den r h2]
        rfl
      · cases e
    | _ => cases e
theorem seq_vw {al : List Addr} {G H : Hp} {v : V} {y : D} {xs : List D} (e : seqD y = some xs) (h : Vw K al G H v y) : ∃ p vs, v = .ref p ∧ (SqL K H p vs ∨ SqT K H p vs) ∧ DenL K al G vs xs := by
  cases h with
  | lst h d => cases e; exact ⟨_, _, rfl, .inl (.of h), d⟩
  | scr h d => cases e; exact ⟨_, _, rfl, .inl h, d⟩
  | tup h d => cases e; exact ⟨_, _, rfl, .inr (.of h), d⟩
  | _ => cases e
theorem dm_join : DMt K tb (rJoin K) joinD := by
  intro al G c H x xs dx ds Φ Q R hx hd m q
  obtain ⟨y, w, rfl, rfl, dy, m2⟩ := oneD_of m hd
  split at m2
  · split at m2
    · rename_i ys e
      split at m2
      · rename_i zs e2
        cases hx
        obtain ⟨p, vs, rfl, h1, h2⟩ := seq_vw e (R.vw dy)
        have h3 := strs_den h2 e2
        rw [h3] at h1
        exact ⟨_, p, zs, rfl, rfl, h1, m2.1, q _ c al G H _ R .refl (.str _) m2.2⟩
      · cases m2
    · cases m2
  · cases m2
theorem dm_split {lv : Bool} : DMt K tb rSplit (splitD lv) := by
  intro al G c H x xs dx ds Φ Q R hx hd m q
  obtain ⟨y, w, rfl, rfl, dy, m2⟩ := oneD_of m hd
  split at m2
  · rename_i a b
    cases hx
    cases dy
    exact ⟨a, b, rfl, rfl, m2.1.1, m2.1.2, fun p hp => newL_ok R hp (DenL.strs _) m2.2 q⟩
  · cases m2
/-! ### list(x), tuple(x), max, min, int, sorted .. -/
def listD (lv : Bool) (xs : List D) (c : SH) (Φ : QD) : Prop := oneD xs fun x => match seqD (view c x) with
  | some ys => newL lv ys c Φ
  | none => False
theorem dc_list {lv : Bool} : DCall K tb (rListU K) (listD lv) := by
  intro al G c H xs ds Φ Q R hd m q
  obtain ⟨x, v, rfl, rfl, dx, m2⟩ := oneD_of m hd
  split at m2
  · rename_i ys e
    obtain ⟨p, vs, rfl, h1, h2⟩ := seq_vw e (R.vw dx)
    exact ⟨p, vs, rfl, h1, fun l hl => newL_ok R hl h2 m2 q⟩
  · cases m2
def int1D (xs : List D) (c : SH) (Φ : QD) : Prop := oneD xs fun x => match x with
  | .int i => Φ (.int i) c
  | .bl k => Φ (.int (if k then 1 else 0)) c
  | _ => False
theorem dc_int : DCall K tb rInt1 int1D := by
  intro al G c H xs ds Φ Q R hd m q
  obtain ⟨x, v, rfl, rfl, dx, m2⟩ := oneD_of m hd
  split at m2
  · cases dx; exact .inl ⟨_, rfl, q _ c al G H _ R .refl (.int _) m2⟩
  · cases dx; exact .inr ⟨_, rfl, q _ c al G H _ R .refl (.int _) m2⟩
  · cases m2
def max2D (xs : List D) (c : SH) (Φ : QD) : Prop := twoD xs fun x y => intD x c fun i c => intD y c fun j c => Φ (.int (if j > i then j else i)) c
def min2D (xs : List D) (c : SH) (Φ : QD) : Prop := twoD xs fun x y => intD x c fun i c => intD y c fun j c => Φ (.int (if j < i then j else i)) c
theorem dc_max2 : DCall K tb (rMaxU K) max2D := by
  intro al G c H xs ds Φ Q R hd m q
  obtain ⟨x, y, v, w, rfl, rfl, dx, dy, m2⟩ := twoD_of m hd
  obtain ⟨i, rfl, rfl, m3⟩ := intD_of m2 dx
  obtain ⟨j, rfl, rfl, m4⟩ := intD_of m3 dy
  exact .inl ⟨i, j, rfl, q _ c al G H _ R .refl (.int _) m4⟩
theorem dc_min2 : DCall K tb (rMinU K) min2D := by
  intro al G c H xs ds Φ Q R hd m q
  obtain ⟨x, y, v, w, rfl, rfl, dx, dy, m2⟩ := twoD_of m hd
  obtain ⟨i, rfl, rfl, m3⟩ := intD_of m2 dx
  obtain ⟨j, rfl, rfl, m4⟩ := intD_of m3 dy
  exact .inl ⟨i, j, rfl, q _ c al G H _ R .refl (.int _) m4⟩
end
end M

set_option Elab.async false
set_option linter.all false
set_option maxRecDepth 100000
set_option maxHeartbeats 3900000
namespace M
open PySem PySem.Spec PyProof.Rows L2 G
/-! ### ==, !=, in of instances by their own defs -/
def rCmpX (K : PySem.W.Frag) (C : Addr) (sp : Sp) (fin : Bool → Bool) : R2 := fun x y H Q => ∃ a dx fs T, x = .ref a ∧ H a = some (.ins C dx fs) ∧ TyX K H y T ∧ PySem.W.notFirst K C T = true ∧ sp [x, y] H (fun v H' => ∃ b, v = .bl b ∧ Q (.bl (fin b)) H') fun _ _ _ => False
def rInX (C : Addr) (sp : Sp) (fin : Bool → Bool) : R2 := fun y x H Q => ∃ a dx fs, x = .ref a ∧ H a = some (.ins C dx fs) ∧ sp [x, y] H (fun v H' => ∃ b, v = .bl b ∧ Q (.bl (fin b)) H') fun _ _ _ => False
theorem passF {X : Cx} : Passes (L2.CX X.prog X.w) X fun _ _ _ => False := passes_call takesF fun _ _ _ _ h => h
theorem kne : builtinKind "object.__ne__" = some .slot := by decide +kernel
theorem ne_bind (self : Value) : bindSpecial (.builtin "object.__ne__") self = pure (.builtin "object.__ne__", [self]) :=
  (Slot.of (T := "object") (name := "__ne__") (owner := "object") (n := "__ne__") (by rw [typeLookup_type, builtinLookup_eq_fast]; kernel_rfl) (by decide +kernel) (by decide +kernel) (by decide +kernel)
    (.inl (by decide +kernel)) (by rw [isSubtype_type]; kernel_rfl)).bind self
section
variable {X : Cx} {k : Nat} {f C : Addr} {fd : FuncData} {ps : List Str} {sp : Sp}
/-- the def at f called by the machine, its answer a bool -/
theorem own_bool {A : Around} {pins : List (Addr × Obj)} {σ : L2.St} {H : Hp} {s : Shared} {Q : VK} {us : List Value} {vs : List V} {fin : Bool → Bool} (F : FnOk X.prog X.w X.K X.mg X.base (L2.CX X.prog X.w) k f fd ps sp) (hA : Room k A) (hfr : A.frames = X.A.frames) (hb : Binds X.K fd ps [])
    (I : Inv X pins σ H s) (r : Vals vs us) (h : sp vs H (fun v H' => ∃ b, v = .bl b ∧ Q (.bl (fin b)) H') fun _ _ _ => False) : wpAny (model X.prog X.w) A (call (.ref f) us) (fun v s' => ∃ b, v = .bool b ∧ EP X pins σ Q (.bool (fin b)) s') X.xe s := by
  refine wpAny_mono (run_below F hA hfr hb passF I r h) ?_ fun _ _ z => z
  rintro v s' ⟨z, H', I', rz, b, rfl, q⟩
  exact ⟨b, rz, .bl (fin b), H', I', rfl, q⟩
theorem op_eqX {K : PySem.W.Frag} (hK : X.K = K) (F : FnOk X.prog X.w X.K X.mg X.base (L2.CX X.prog X.w) k f fd ps sp) (hr : Room k X.A) (hs : PySem.W.findIn X.K (.ref C) "__eq__" = some (some (.ref f))) (hf : PySem.W.isFn X.K (.ref f) = true) (hb : Binds X.K fd ps []) :
    OpR X (compareOp .Eq) (rCmpX K C sp id) := by
  subst hK
  rintro pins s σ H x y v u Q I rx ry ⟨a, dx, fs, T, rfl, ha, ty, nf, h⟩
  cases (show v = Value.ref a from rx)
  obtain ⟨mA, J, _⟩ := ins_get I.hok ha
  obtain ⟨od, J, _⟩ := J.look
  obtain ⟨m, hF⟩ := I.fr
  obtain ⟨P, Z, p, _⟩ := kit_of I ry ty
  show wpAny (model X.prog X.w) X.A (richCompare .Eq (.ref a) u) (EP X pins σ Q) X.xe s
  refine PySem.W.cmp_K (op := .Eq) (tb := T) hr.units0 hF I.ok.mod.kin J (Z.ty _ _ I.kIn p) nf hs hf ?_
  refine wpAny_mono (own_bool (fin := id) F hr rfl hb I (.cons rx (.cons ry .nil)) h) ?_ fun _ _ z => z
  rintro w s' ⟨b, rfl, q⟩
  exact q
/-- != where the class has no def of its own for it -/
theorem op_neX {K : PySem.W.Frag} (hK : X.K = K) (F : FnOk X.prog X.w X.K X.mg X.base (L2.CX X.prog X.w) k f fd ps sp) (hr : Room (k + 2) X.A) (hs : PySem.W.findIn X.K (.ref C) "__eq__" = some (some (.ref f))) (hf : PySem.W.isFn X.K (.ref f) = true) (hb : Binds X.K fd ps [])
    (hn : PySem.W.findIn X.K (.ref C) "__ne__" = some (some (.builtin "object.__ne__"))) (ho : PySem.W.subIn X.K (.ref C) (.type "object") = some true) : OpR X (compareOp .NotEq) (rCmpX K C sp not) := by
  subst hK
  rintro pins s σ H x y v u Q I rx ry ⟨a, dx, fs, T, rfl, ha, ty, nf, h⟩
  cases (show v = Value.ref a from rx)
  obtain ⟨mA, J, _⟩ := ins_get I.hok ha
  obtain ⟨od, J, _⟩ := J.look
  obtain ⟨P, Z, p, _⟩ := kit_of I ry ty
  have tyb := Z.ty (model X.prog X.w) _ I.kIn p
  have hu0 : X.A.units < cLine := hr.units0
  have spn : PySem.W.Looks (model X.prog X.w) s.heap (specialOf (.ref a) "__ne__") (some (.builtin "object.__ne__")) := J.type.andThen (PySem.W.looks_findIn I.kIn hn)
  have one : wpAny (model X.prog X.w) X.A (tryCompare (.ref a) "__ne__" u) (fun r s' => ∃ v, r = some v ∧ EP X pins σ Q v s') X.xe s := by
    unfold tryCompare
    refine wpAny_bind (NtL.csib spn (ne_bind _) ?_)
    refine wpAny_call (codeAny_call_builtin (by decide +kernel) PySem.F.cmpEntry_ne ?_)
    refine PySem.W.check_slot kne PySem.F.cmpSplit_ne (J.type.andThen (PySem.W.looks_subIn I.kIn ho)) (PySem.F.cmpArgs_ne _ _) ?_
    show wpAny (model X.prog X.w) X.A.in1 (Builtin.«object.__ne__» ⟨[.ref a, u], []⟩) _ _ s
    unfold Builtin.«object.__ne__»
    have hu1 : X.A.in1.units < cLine := (hr.in1 : Room (k + 1) X.A.in1).units0
    have hr1 : Room k X.A.in1 := (hr.in1 : Room (k + 1) X.A.in1).mono (by omega)
    refine wpAny_bind (wpAny_of_eq (show slotArgs "__ne__" 1 ⟨[.ref a, u], []⟩ = pure (.ref a, [u]) from rfl) ?_)
    refine wpAny_bind (wpAny_cRoomFor hu1 ?_)
    refine wpAny_bind (PySem.W.ifBound_K I.kIn J hs hf ?_)
    refine wpAny_mono (own_bool (fin := not) F hr1 rfl hb I (.cons rx (.cons ry .nil)) h) ?_ fun _ _ z => z
    rintro w s' ⟨b, rfl, q⟩
    refine wpAny_bind (wpAny_truthy_bool (wpAny_pure ?_))
    exact wpAny_pure ⟨_, rfl, q⟩
  show wpAny (model X.prog X.w) X.A (richCompare .NotEq (.ref a) u) (EP X pins σ Q) X.xe s
  unfold richCompare
  simp only [oneThing_ref]
  refine wpAny_holding (wpAny_bind (wpAny_cRoomFor hu0 ?_))
  refine wpAny_bind (J.type.here (wpAny_bind (tyb.here ?_)))
  split
  · rename_i q
    have e : PySem.W.subIn X.K T (.ref C) = some false := by
      rcases Bool.or_eq_true_iff.mp nf with e | e
      · rw [beq_iff_eq.mp e] at q; simp at q
      · exact beq_iff_eq.mp e
    refine wpAny_bind ((PySem.W.looks_subIn I.kIn e).here ?_)
    refine wpAny_bind (wpAny_mono one (fun r s' z => ?_) fun _ _ z => z)
    obtain ⟨v, rfl, hq⟩ := z
    exact wpAny_pure hq
  · refine wpAny_bind (wpAny_pure ?_)
    refine wpAny_bind (wpAny_mono one (fun r s' z => ?_) fun _ _ z => z)
    obtain ⟨v, rfl, hq⟩ := z
    exact wpAny_pure hq
theorem op_inX (F : FnOk X.prog X.w X.K X.mg X.base (L2.CX X.prog X.w) k f fd ps sp) (hr : Room k X.A) (hs : PySem.W.findIn X.K (.ref C) "__contains__" = some (some (.ref f))) (hf : PySem.W.isFn X.K (.ref f) = true) (hb : Binds X.K fd ps []) : OpR X (compareOp .In) (rInX C sp id) := by
  rintro pins s σ H x y v u Q I rx ry ⟨a, dx, fs, rfl, ha, h⟩
  cases (show u = Value.ref a from ry)
  obtain ⟨mA, J, _⟩ := ins_get I.hok ha
  obtain ⟨od, J, _⟩ := J.look
  obtain ⟨m, hF⟩ := I.fr
  refine PySem.W.in_K hF I.ok.mod.kin J hs hf ?_
  refine wpAny_mono (own_bool (fin := id) F hr rfl hb I (.cons ry (.cons rx .nil)) h) ?_ fun _ _ z => z
  rintro w s' ⟨b, rfl, q⟩
  exact wpAny_truthy_bool q
theorem op_ninX (F : FnOk X.prog X.w X.K X.mg X.base (L2.CX X.prog X.w) k f fd ps sp) (hr : Room k X.A) (hs : PySem.W.findIn X.K (.ref C) "__contains__" = some (some (.ref f))) (hf : PySem.W.isFn X.K (.ref f) = true) (hb : Binds X.K fd ps []) : OpR X (compareOp .NotIn) (rInX C sp not) := by
  rintro pins s σ H x y v u Q I rx ry ⟨a, dx, fs, rfl, ha, h⟩
  cases (show u = Value.ref a from ry)
  obtain ⟨mA, J, _⟩ := ins_get I.hok ha
  obtain ⟨od, J, _⟩ := J.look
  obtain ⟨m, hF⟩ := I.fr
  refine PySem.W.notIn_K hF I.ok.mod.kin J hs hf ?_
  refine wpAny_mono (own_bool (fin := not) F hr rfl hb I (.cons ry (.cons rx .nil)) h) ?_ fun _ _ z => z
  rintro w s' ⟨b, rfl, q⟩
  exact wpAny_truthy_bool q
end
/-! ### their mirrors -/
def tyT (K : PySem.W.Frag) (d : D) (T : Value) : Prop := match d with
  | .ins C _ => InsK K C ∧ T = .ref C
  | d => ∃ n, tyD d = some n ∧ T = .type n
def cmpX (K : PySem.W.Frag) (C : Addr) (F : Fn) (fin : Bool → Bool) (x y : D) (c : SH) (Φ : QD) : Prop := match view c x with
  | .ins C' _ => C' = C ∧ (∃ T, tyT K (view c y) T ∧ PySem.W.notFirst K C T = true) ∧ F [x, y] c noX fun v c' => blD v c' fun b c' => Φ (.bl (fin b)) c'
  | _ => False
def inX (C : Addr) (F : Fn) (fin : Bool → Bool) (y x : D) (c : SH) (Φ : QD) : Prop := match view c x with
  | .ins C' _ => C' = C ∧ F [x, y] c noX fun v c' => blD v c' fun b c' => Φ (.bl (fin b)) c'
  | _ => False
def orD (o1 o2 : D → D → SH → QD → Prop) (x y : D) (c : SH) (Φ : QD) : Prop := o1 x y c Φ ∨ o2 x y c Φ
def orC (o1 o2 : List D → SH → QD → Prop) (xs : List D) (c : SH) (Φ : QD) : Prop := o1 xs c Φ ∨ o2 xs c Φ
def strX (C : Addr) (F : Fn) (xs : List D) (c : SH) (Φ : QD) : Prop := oneD xs fun x => match view c x with
  | .ins C' _ => C' = C ∧ F [x] c noX fun v c' => match v with
    | .str z => Φ (.str z) c'
    | _ => False
  | _ => False
section
variable {K : PySem.W.Frag} {tb : List (Addr × Str)} {W : WX} {C : Addr} {F : Fn} {fin : Bool → Bool}
theorem tyT_ok {al : List Addr} {G H : Hp} {v : V} {d : D} {T : Value} (h : Vw K al G H v d) (m : tyT K d T) : TyX K H v T := by
  unfold tyT at m
  split at m
  · obtain ⟨i, rfl⟩ := m
    cases h with
    | ins e r => exact .base (.ins e i.cl i.a i.n i.t i.m)
  · obtain ⟨n, e, rfl⟩ := m
    exact ty_vw h e
theorem dop_or {r1 r2 : R2} {o1 o2 : D → D → SH → QD → Prop} (h1 : DOp K tb r1 o1) (h2 : DOp K tb r2 o2) : DOp K tb (fun x y H Q => r1 x y H Q ∨ r2 x y H Q) (orD o1 o2) := by
  intro al G c H x y dx dy Φ Q R hx hy m q
  exact m.elim (fun m => .inl (h1 al G c H x y dx dy Φ Q R hx hy m q)) fun m => .inr (h2 al G c H x y dx dy Φ Q R hx hy m q)
theorem dc_or {r1 r2 : List V → Hp → VK → Prop} {o1 o2 : List D → SH → QD → Prop} (h1 : DCall K tb r1 o1) (h2 : DCall K tb r2 o2) : DCall K tb (fun x H Q => r1 x H Q ∨ r2 x H Q) (orC o1 o2) := by
  intro al G c H xs ds Φ Q R hx m q
  exact m.elim (fun m => .inl (h1 al G c H xs ds Φ Q R hx m q)) fun m => .inr (h2 al G c H xs ds Φ Q R hx m q)
theorem dop_cmpX : DOp K tb (rCmpX K C (SpG K tb F) fin) (cmpX K C F fin) := by
  intro al G c H x y dx dy Φ Q R hx hy m q
  have vx := R.vw hx
  have vy := R.vw hy
  unfold cmpX at m
  split at m
  · rename_i e
    rw [e] at vx
    obtain ⟨rfl, ⟨T, h1, h2⟩, m⟩ := m
    cases vx with
    | ins h r =>
      refine ⟨_, _, _, T, rfl, h, tyT_ok vy h1, h2, al, G, c, _, noX, _, R, .cons hx (.cons hy .nil), m, fun d c2 al2 G2 H2 v r2 l2 d2 m2 => ?_, thr0⟩
      obtain ⟨b, rfl, h3⟩ := blD_of m2 d2
      exact ⟨b, rfl, q _ c2 al2 G2 H2 _ r2 l2 (.bl _) h3⟩
  · cases m
theorem dop_inX : DOp K tb (rInX C (SpG K tb F) fin) (inX C F fin) := by
  intro al G c H x y dx dy Φ Q R hx hy m q
  have vy := R.vw hy
  unfold inX at m
  split at m
  · rename_i e
    rw [e] at vy
    obtain ⟨rfl, m⟩ := m
    cases vy with
    | ins h r =>
      refine ⟨_, _, _, rfl, h, al, G, c, _, noX, _, R, .cons hy (.cons hx .nil), m, fun d c2 al2 G2 H2 v r2 l2 d2 m2 => ?_, thr0⟩
      obtain ⟨b, rfl, h3⟩ := blD_of m2 d2
      exact ⟨b, rfl, q _ c2 al2 G2 H2 _ r2 l2 (.bl _) h3⟩
  · cases m
theorem dc_strX : DCall K tb (rStrO C (SpG K tb F) fun _ _ _ => False) (strX C F) := by
  intro al G c H xs ds Φ Q R hd m q
  obtain ⟨x, v, rfl, rfl, dx, m2⟩ := oneD_of m hd
  have vx := R.vw dx
  split at m2
  · rename_i e
    rw [e] at vx
    obtain ⟨rfl, m2⟩ := m2
    cases vx with
    | ins h r =>
      refine ⟨_, _, _, rfl, h, al, G, c, _, noX, _, R, .cons dx .nil, m2, fun d c2 al2 G2 H2 w r2 l2 d2 m3 => ?_, thr0⟩
      dsimp only at m3
      split at m3
      · cases d2
        exact ⟨⟨_, rfl⟩, q _ c2 al2 G2 H2 _ r2 l2 (.str _) m3⟩
      · cases m3
  · cases m2
end
/-! ### f'..' -/
def fmtM (a : ME) : ME := fun δ c Ψ Φ => a δ c Ψ fun x c1 => match x with
  | .str y => y.length ≤ sizeLine ∧ Φ (.str y) c1
  | .int i => i.natAbs.log2 < 1920 ∧ Φ (.str (toString i)) c1
  | _ => False
def jsD : List ME → Str → Env → SH → XD → (Str → SH → Prop) → Prop
  | [], acc, _, c, _, Φ => Φ acc c
  | m :: ms, acc, δ, c, Ψ, Φ => m δ c Ψ fun x c1 => match x with
    | .str y => (acc ++ y).length ≤ sizeLine ∧ jsD ms (acc ++ y) δ c1 Ψ Φ
    | _ => False
def jsM (ms : List ME) : ME := fun δ c Ψ Φ => jsD ms Str.empty δ c Ψ fun out c1 => Φ (.str out) c1
inductive SndJ (K : PySem.W.Frag) (tb : List (Addr × Str)) (W : WX) : List TE → List ME → Prop
  | nil : SndJ K tb W [] []
  | cons {t : TE} {m : ME} {ts : List TE} {ms : List ME} : SndE K tb W t m → SndJ K tb W ts ms → SndJ K tb W (t :: ts) (m :: ms)
section
variable {K : PySem.W.Frag} {tb : List (Addr × Str)} {W : WX} {ta : TE} {a : ME}
theorem snd_fmt (ha : SndE K tb W ta a) : SndE K tb W (tFmt ta) (fmtM a) := by
  intro al G c H σ δ Ψ Φ Q g m q
  refine ha al G c H σ δ Ψ _ _ g m fun x c1 al1 G1 H1 v r1 l1 d1 m1 => ?_
  split at m1
  · cases d1
    exact .inl ⟨_, rfl, m1.1, q _ c1 al1 G1 H1 _ r1 l1 (.str _) m1.2⟩
  · cases d1
    exact .inr ⟨_, rfl, m1.1, q _ c1 al1 G1 H1 _ r1 l1 (.str _) m1.2⟩
  · cases m1
theorem jsD_ok {al : List Addr} {G : Hp} {c : SH} {H : Hp} {σ : L2.St} {δ : Env} {Ψ : XD} : ∀ {ts : List TE} {ms : List ME}, SndJ K tb W ts ms → ∀ {al1 G1 c1 H1}, Go K tb al1 G1 c1 H1 W σ δ Ψ → Le al G c H al1 G1 c1 H1 → ∀ {acc : Str} {Φ : Str → SH → Prop} {Q : Str → Hp → Prop}, jsD ms acc δ c1 Ψ Φ → (∀ z c2 al2 G2 H2, Rep K tb al2 G2 c2 H2 → Le al G c H al2 G2 c2 H2 → Φ z c2 → Q z H2) → tJs ts acc σ H1 Q
  | _, _, .nil, al1, G1, c1, H1, g, l, acc, Φ, Q, m, q => q acc c1 al1 G1 H1 g.rep l m
  | _, _, .cons h r, al1, G1, c1, H1, g, l, acc, Φ, Q, m, q => by
    refine h al1 G1 c1 H1 σ δ Ψ _ _ g m fun x c2 al2 G2 H2 v r2 l2 d2 m2 => ?_
    split at m2
    · cases d2
      exact ⟨_, rfl, m2.1, jsD_ok r (g.le r2 l2) (l.trans l2) m2.2 q⟩
    · cases m2
theorem snd_js {ts : List TE} {ms : List ME} (h : SndJ K tb W ts ms) : SndE K tb W (fun σ H Q => tJs ts Str.empty σ H fun out H1 => Q (.str out) H1) (jsM ms) := by
  intro al G c H σ δ Ψ Φ Q g m q
  exact jsD_ok h g .refl m fun z c2 al2 G2 H2 r2 l2 m2 => q _ c2 al2 G2 H2 _ r2 l2 (.str _) m2
end
end M

set_option Elab.async false
set_option linter.all false
set_option maxRecDepth 100000
set_option maxHeartbeats 3900000
namespace M
open PySem PySem.Spec PyProof.Rows L2 G
/-! ### a law's _law_caught(lambda it: .., odd): what is told, or the word and the value of what is thrown -/
abbrev Hds := List (Addr × Option (Str × Str))
def dealR (K : PySem.W.Frag) : Hds → Addr → Str → V → Hp → VK → Prop
  | [], _, _, _, _, _ => False
  | (Ci, o) :: hs, C, f, v, H, Q => ∃ b, PySem.W.exmOne K (.ref C) (.ref Ci) = some b ∧ if b = true then (match o with
    | some (w, g) => C = Ci ∧ f = g ∧ NewL [.str w, v] H Q
    | none => NewL [.str (Str.ofString "other")] H Q) else dealR K hs C f v H Q
def sp_caughtG (K : PySem.W.Frag) (hs : Hds) (fa : Addr) (spA : Sp) : Sp := fun vs H Q _ => ∃ v, vs = [.ref fa, v] ∧ ∀ (Q' : VK) (E' : XK), (∀ r H1, NewL [.str (Str.ofString "told"), r] H1 Q → Q' r H1) →
  (∀ (C : Addr) (f : Str) (dd : Addr) (v' : V) (H1 : Hp), H1 dd = some (.xd [(f, v')]) → dealR K hs C f v' H1 Q → E' (.ref C) (some dd) H1) → spA [v] H Q' E'
def dealD (K : PySem.W.Frag) : Hds → Addr → Str → D → SH → QD → Prop
  | [], _, _, _, _, _ => False
  | (Ci, o) :: hs, C, f, d, c, Φ => ∃ b, PySem.W.exmOne K (.ref C) (.ref Ci) = some b ∧ if b = true then (match o with
    | some (w, g) => C = Ci ∧ f = g ∧ Φ (.lst [.str w, d]) c
    | none => Φ (.lst [.str (Str.ofString "other")]) c) else dealD K hs C f d c Φ
def caughtM (K : PySem.W.Frag) (hs : Hds) (lam : ME) (a : MA) : ME := fun δ c Ψ Φ => a δ c Ψ fun xs c1 => oneD xs fun x => lam (δ ++ [some x]) c1 (fun C f d c' => dealD K hs C f d c' Φ) fun d c' => Φ (.lst [.str (Str.ofString "told"), d]) c'
section
variable {K : PySem.W.Frag} {tb : List (Addr × Str)} {W : WX} {al al' : List Addr} {G G' : Hp} {c c' : SH} {H H' : Hp}
theorem new_lst {Φ : QD} {Q : VK} {vs : List V} {ds : List D} (R : Rep K tb al' G' c' H') (l : Le al G c H al' G' c' H') (dn : DenL K al' G' vs ds) (m : Φ (.lst ds) c') (q : Ret K tb al G c H Φ Q) : NewL vs H' Q := by
  intro p H2 ex hp hl
  have R2 := R.grow ex
  have l2 := l.trans (Le.grow ex)
  have nl : ¬ Liv al' c' p := (Apart.new R hp).liv
  obtain ⟨R3, ex3⟩ := R2.adopt hl nl nofun
  exact q _ c' al' _ H2 _ R3 (l2.adopt hl ex3 (l.dom _ (.of hp))) (.lst upd_same (dn.mono (fun _ _ => id) ex3)) m
theorem deal_ok {C : Addr} {f : Str} {d : D} {v : V} {Φ : QD} {Q : VK} (R : Rep K tb al' G' c' H') (l : Le al G c H al' G' c' H') (dn : Den K al' G' v d) (q : Ret K tb al G c H Φ Q) : ∀ hs : Hds, dealD K hs C f d c' Φ → dealR K hs C f v H' Q
  | [], m => m
  | (Ci, o) :: hs, ⟨b, hb, m⟩ => by
    refine ⟨b, hb, ?_⟩
    cases b with
    | false => exact iteF (deal_ok R l dn q hs m)
    | true =>
      refine iteT ?_
      rw [if_pos rfl] at m
      cases o with
      | none => exact new_lst R l (.cons (.str _) .nil) m q
      | some wg => exact ⟨m.1, m.2.1, new_lst R l (.cons (.str _) (.cons dn .nil)) m.2.2 q⟩
theorem snd_caught {q : Str} {tbd : XK → TE} {hs : Hds} {lam : ME} {E : XK} {tA : TA} {mA : MA} (hl : ∀ E, SndE K tb (fun C d _ H => E C d H) (tbd E) lam) (hA : SndA K tb W tA mA) : SndE K tb W (tLam1 tb q tbd (fun f sp => sp_caughtG K hs f sp) E tA) (caughtM K hs lam mA) := by
  intro al G c H σ δ Ψ Φ Q g m qq
  refine ⟨g.rep.tab, fun f cc H1 ex t1 hc => ?_⟩
  have r1 := g.rep.extn ex t1
  have l1 : Le al G c H al G c H1 := Le.extn ex
  refine hA al G c H1 σ δ Ψ _ _ (g.le r1 l1) m fun xs c2 al2 G2 H2 vs r2 l2 d2 m2 => ?_
  obtain ⟨x, v, rfl, rfl, dx, m3⟩ := oneD_of m2 d2
  refine ⟨v, rfl, fun Q' E' hQ hE => ⟨v, rfl, ?_, ?_⟩⟩
  · refine l2.fr cc _ hc (fun z => ?_) nofun
    obtain ⟨u, hu, _, n⟩ := r1.liv z
    rw [hc] at hu
    cases hu
    exact n _ rfl
  · have s2 : SRel K al2 G2 (σ ++ [some v]) (δ ++ [some x]) := by
      have s := (g.env.le l1).le l2
      refine ⟨by rw [List.length_append, List.length_append, s.1]; rfl, fun i d hi => ?_⟩
      rcases get_app hi with h | ⟨e, e2⟩
      · obtain ⟨w, h1, h2⟩ := s.2 i d h
        exact ⟨w, app_get h1, h2⟩
      · cases e2
        refine ⟨v, ?_, dx⟩
        rw [e, ← s.1, List.getElem?_append_right (Nat.le_refl _), Nat.sub_self]
        rfl
    refine hl E' al2 G2 c2 H2 _ _ _ _ _ ⟨r2, s2, fun C f d c3 al3 G3 H3 dd w r3 l3 fr hd d3 m4 => ?_⟩ m3 fun d c3 al3 G3 H3 w r3 l3 d3 m4 => ?_
    · exact hE C f dd w H3 hd (deal_ok r3 ((l1.trans l2).trans l3) d3 qq hs m4)
    · exact hQ w H3 (new_lst r3 ((l1.trans l2).trans l3) (.cons (.str _) (.cons d3 .nil)) m4 qq)
end
end M

set_option Elab.async false
set_option linter.all false
set_option maxRecDepth 100000
set_option maxHeartbeats 3900000
namespace M
open PySem PySem.Spec PyProof.Rows L2 G
def yesM : MT := fun _ c _ Φ => Φ true c
def neverM : MS := fun _ _ _ => False
theorem snd_yes {K : PySem.W.Frag} {tb : List (Addr × Str)} {W : WX} : SndT K tb W tYes yesM := fun al G c H σ δ Ψ Φ Q g m q => q true c al G H g.rep .refl m
theorem snd_never {K : PySem.W.Frag} {tb : List (Addr × Str)} {W : WX} : SndS K tb W tNever neverM := fun al G c H σ δ e D R s m q => m
/-! ### str(x) of a text or an int -/
def rStrU : List V → Hp → VK → Prop := fun xs H Q => (∃ a, xs = [.str a] ∧ Q (.str a) H) ∨ ∃ i, xs = [.int i] ∧ i.natAbs.log2 < 1920 ∧ Q (.str (toString i)) H
theorem call_strU {X : Cx} : CallR X (.type "str") rStrU := SkE.call_str_str.or call_str_int
def strD (xs : List D) (c : SH) (Φ : QD) : Prop := oneD xs fun x => match x with
  | .str a => Φ (.str a) c
  | .int i => i.natAbs.log2 < 1920 ∧ Φ (.str (toString i)) c
  | _ => False
theorem dc_str {K : PySem.W.Frag} {tb : List (Addr × Str)} : DCall K tb rStrU strD := by
  intro al G c H xs ds Φ Q R hd m q
  obtain ⟨x, v, rfl, rfl, dx, m2⟩ := oneD_of m hd
  split at m2
  · cases dx; exact .inl ⟨_, rfl, q _ c al G H _ R .refl (.str _) m2⟩
  · cases dx; exact .inr ⟨_, rfl, m2.1, q _ c al G H _ R .refl (.str _) m2.2⟩
  · cases m2
def reprD (xs : List D) (c : SH) (Φ : QD) : Prop := oneD xs fun x => match x with
  | .bl b => Φ (.str (if b then "True" else "False")) c
  | .int i => i.natAbs.log2 < 1920 ∧ Φ (.str (toString i)) c
  | _ => False
theorem dc_repr {K : PySem.W.Frag} {tb : List (Addr × Str)} : DCall K tb rReprU reprD := by
  intro al G c H xs ds Φ Q R hd m q
  obtain ⟨x, v, rfl, rfl, dx, m2⟩ := oneD_of m hd
  split at m2
  · cases dx; exact .inl ⟨_, rfl, q _ c al G H _ R .refl (.str _) m2⟩
  · cases dx; exact .inr ⟨_, rfl, m2.1, q _ c al G H _ R .refl (.str _) m2.2⟩
  · cases m2
/-! ### {} -/
def newK (lv : Bool) (xs : List (Key × D)) (c : SH) (Φ : QD) : Prop := if lv = true then Φ (.obj c.length) (c ++ [.dic xs]) else Φ (.dic xs) c
def dnewM (lv : Bool) : ME := fun _ c _ Φ => newK lv [] c Φ
/-- a new dict that stays as it is: locked at once -/
def tLk (t : TE) : TE := fun σ H Q => t σ H fun x H1 => ∃ d u, x = .ref d ∧ H1 d = some u ∧ Mut (some u) ∧ ∀ od, Q x (upd H1 d (.frz od u))
theorem pe_lk {X : Cx} {e : Expr} {t : TE} (h : PE X e t) : PE X e (tLk t) := by
  refine ⟨fun pins s σ H Q I hw => thn (h.run pins s σ H _ I hw) ?_⟩
  rintro v s1 ⟨x, H1, I1, r, d, u, ex, hd, mu, q⟩
  obtain ⟨od, I2⟩ := I1.lock hd mu
  exact ⟨x, _, I2, r, q od⟩
section
variable {K : PySem.W.Frag} {tb : List (Addr × Str)} {al al1 : List Addr} {G G1 : Hp} {c c1 : SH} {H H1 : Hp} {xs : List (Key × D)} {vs : List (Key × V)} {Φ : QD} {Q : VK} {p : Addr} {W : WX}
theorem lk_of (R : Rep K tb al1 G1 c1 H1) (ap : Apart al1 G1 c1 p) (hp : H1 p = some (.dK vs)) (hd : DenK K al1 G1 vs xs) (l : Le al G c H al1 G1 c1 H1) (hn : Fr H p) (q : Ret K tb al G c H Φ Q) (m : Φ (.dic xs) c1) :
    ∃ d u, V.ref p = .ref d ∧ H1 d = some u ∧ Mut (some u) ∧ ∀ od, Q (.ref p) (upd H1 d (.frz od u)) := by
  refine ⟨p, _, rfl, hp, trivial, fun od => ?_⟩
  have r2 := R.foreign (o := .frz od (.dK vs)) hp nofun nofun ap.g ap.liv ap.k
  have l2 := l.foreign (o := .frz od (.dK vs)) hn nofun
  obtain ⟨r3, e3⟩ := r2.adopt upd_same ap.liv nofun
  exact q _ c1 al1 _ _ _ r3 (l2.adopt upd_same e3 hn) (.dic upd_same (hd.mono (fun _ _ => id) e3)) m
theorem lk_new (R : Rep K tb al G c H) (hp : H p = none) (hd : DenK K al G vs xs) (q : Ret K tb al G c H Φ Q) (m : Φ (.dic xs) c) :
    ∃ d u, V.ref p = .ref d ∧ (upd H p (.dK vs)) d = some u ∧ Mut (some u) ∧ ∀ od, Q (.ref p) (upd (upd H p (.dK vs)) d (.frz od u)) :=
  lk_of (R.grow (Ex.new hp)) (Apart.new R hp) upd_same hd (Le.grow (Ex.new hp)) (.of hp) q m
theorem newK_ok (R : Rep K tb al G c H) (hp : H p = none) (hd : DenK K al G vs xs) (m : newK true xs c Φ) (q : Ret K tb al G c H Φ Q) : Q (.ref p) (upd H p (.dK vs)) := by
  unfold newK at m
  rw [if_pos rfl] at m
  have R2 : Rep K tb (al ++ [p]) G (c ++ [.dic xs]) (upd H p (.dK vs)) := R.obj hp (Ex.new hp) ⟨vs, upd_same, hd.mono (fun _ _ => app_get) (Ex.refl _)⟩ rfl
  refine q (.obj c.length) _ _ G _ (.ref p) R2 (Le.obj R hp (Ex.new hp)) (.obj ?_) m
  rw [← R.len, List.getElem?_append_right (Nat.le_refl _), Nat.sub_self]
  rfl
theorem newK_f (m : newK false xs c Φ) : Φ (.dic xs) c := by
  unfold newK at m
  rw [if_neg (by decide)] at m
  exact m
theorem snd_dnew : SndE K tb W tDNewK (dnewM true) := fun al G c H σ δ Ψ Φ Q g m q p hp => newK_ok g.rep hp .nil m q
theorem snd_dnewL : SndE K tb W (tLk tDNewK) (dnewM false) := fun al G c H σ δ Ψ Φ Q g m q p hp => lk_new g.rep hp .nil q (newK_f m)
/-- a live dict becomes data -/
def lkM (a : ME) : ME := fun δ c Ψ Φ => a δ c Ψ fun x c1 => match x with
  | .obj k => match c1[k]? with
    | some (.dic xs) => Φ (.dic xs) (c1.set k (.frz (.dic xs)))
    | _ => False
  | _ => False
theorem snd_lk {ta : TE} {a : ME} (ha : SndE K tb W ta a) : SndE K tb W (tLk ta) (lkM a) := by
  intro al G c H σ δ Ψ Φ Q g m q
  refine ha al G c H σ δ Ψ _ _ g m fun x c1 al1 G1 H1 v r1 l1 d1 m1 => ?_
  split at m1
  · rename_i k
    split at m1
    · rename_i xs hs
      cases d1 with
      | obj hk =>
        obtain ⟨vs, h1, h2⟩ := r1.ent k _ _ hk hs
        refine ⟨_, _, rfl, h1, trivial, fun od => ?_⟩
        have r2 := r1.change (u := .frz od (.dK vs)) hk hs rfl (o := .lck xs) ⟨od, vs, upd_same, h2⟩ rfl
        have l2 := Le.change (o := .lck xs) r1 hk hs rfl (u := .frz od (.dK vs)) nofun
        have hs2 : (c1.set k (SO.lck xs))[k]? = some (.lck xs) := by rw [List.getElem?_set, if_pos rfl, if_pos (List.getElem?_eq_some_iff.mp hs).1]
        have gn : G1 _ = none := r1.out k _ _ hk hs rfl
        have hden : Den K al1 (upd G1 _ (.frz od (.dK vs))) (.ref _) (.dic xs) := .dic upd_same (h2.mono (fun _ _ => id) (Ex.new gn))
        have r3 := r2.freeze hk hs2 rfl upd_same hden
        have l3 := Le.freeze r2 hk hs2 rfl (u := .frz od (.dK vs)) (d := .dic xs)
        rw [List.set_set] at r3 l3
        exact q _ _ _ _ _ _ r3 ((l1.trans l2).trans l3) hden m1
    · cases m1
  · cases m1
end
/-! ### defs that throw nothing -/
def noXF (F : Fn) : Fn := fun as c _ Φ => F as c noX Φ
theorem spg_nox {K : PySem.W.Frag} {tb : List (Addr × Str)} {F : Fn} {vs : List V} {H : Hp} {Q : VK} {E : XK} (h : SpG K tb (noXF F) vs H Q E) : SpG K tb F vs H Q fun _ _ _ => False :=
  let ⟨al, G, c, as, _, Φ, r, d, m, q, _⟩ := h
  ⟨al, G, c, as, noX, Φ, r, d, m, q, thr0⟩
theorem fn_cx0 {P : Program} {w : World} {K : PySem.W.Frag} {mg : Str → Option Value} {base : Heap} {k : Nat} {f : Addr} {fd : FuncData} {ps : List Str} {sp : Sp} (F : FnOk P w K mg base CX0 k f fd ps sp) : FnOk P w K mg base (L2.CX P w) k f fd ps sp := by
  refine ⟨F.len, fun A outer s H args us vs Q E hr e0 hb hv hs => ?_⟩
  refine codeAny_mono (F.run A outer s H args us vs Q E hr e0 hb hv hs) fun r s' h => ?_
  cases r with
  | error e => exact False.elim h
  | ok fl => cases fl <;> exact h
/-- a promise by a mirror from another one -/
theorem fn_imp {P : Program} {w : World} {K : PySem.W.Frag} {mg : Str → Option Value} {base : Heap} {CX : CXT} {k : Nat} {f : Addr} {fd : FuncData} {ps : List Str} {sp : Sp} {tb : List (Addr × Str)} {F : Fn} (h : FnOk P w K mg base CX k f fd ps sp)
    (i : ∀ al G c H as vs Ψ Φ Q E, Rep K tb al G c H → DenL K al G vs as → F as c Ψ Φ → Ret K tb al G c H Φ Q → Thr K tb al G c H Ψ E → sp vs H Q E) : FnOk P w K mg base CX k f fd ps (SpG K tb F) :=
  h.imp fun vs H Q E ⟨al, G, c, as, Ψ, Φ, r, d, m, q, x⟩ => i al G c H as vs Ψ Φ Q E r d m q x
/-! ### the law's draws -/
def cellF : Fn := fun as c _ Φ => ∃ (ns : List Int) (k : Nat), as = [.scr (ns.map .int), .int (k : Int)] ∧ ns.length ≤ 63 ∧ k ≤ 100 ∧ ∀ i : Int, Φ (.int i) c
def boxF : Fn := fun as c _ Φ => ∃ i : Int, as = [.int i] ∧ Φ (.obj c.length) (c ++ [.box 0])
def takeF : Fn := fun as c _ Φ => ∃ (k n : Nat) (m : Int), as = [.obj k, .int m] ∧ c[k]? = some (.box n) ∧ n ≤ 1000000000 ∧ 0 < m ∧ m < 1073741824 ∧ ∀ d : Int, 0 ≤ d → d < m → Φ (.int d) (c.set k (.box (n + 1)))
section
variable {P : Program} {w : World} {K : PySem.W.Frag} {mg : Str → Option Value} {base : Heap} {CX : CXT} {k : Nat} {f : Addr} {fd : FuncData} {ps : List Str} {tb : List (Addr × Str)}
theorem cell_ok (h : FnOk P w K mg base CX k f fd ps (sp_cell K)) : FnOk P w K mg base CX k f fd ps (SpG K tb cellF) := fn_imp h fun al G c H as vs Ψ Φ Q E r d m q x => by
  obtain ⟨ns, k, rfl, h1, h2, m⟩ := m
  cases d with
  | cons d1 d2 =>
    cases d2 with
    | cons d2 d3 =>
      cases d3
      cases d2
      cases d1 with
      | scr hs dn =>
        have e := dn.of_ints
        subst e
        exact ⟨_, ns, k, rfl, r.sub.l hs, h1, h2, fun i => q _ c al G H _ r .refl (.int i) (m i)⟩
theorem box_ok (h : FnOk P w K mg base CX k f fd ps sp_box) : FnOk P w K mg base CX k f fd ps (SpG K tb boxF) := fn_imp h fun al G c H as vs Ψ Φ Q E r d m q x => by
  obtain ⟨i, rfl, m⟩ := m
  cases d with
  | cons d1 d2 =>
    cases d2
    cases d1
    refine ⟨i, rfl, fun p o hp hb => ?_⟩
    have R2 : Rep K tb (al ++ [p]) G (c ++ [.box 0]) (upd H p o) := r.obj hp (Ex.new hp) ⟨o, upd_same, hb⟩ rfl
    refine q (.obj c.length) _ _ G _ (.ref p) R2 (Le.obj r hp (Ex.new hp)) (.obj ?_) m
    rw [← r.len, List.getElem?_append_right (Nat.le_refl _), Nat.sub_self]
    rfl
theorem take_ok (h : FnOk P w K mg base CX k f fd ps sp_take) : FnOk P w K mg base CX k f fd ps (SpG K tb takeF) := fn_imp h fun al G c H as vs Ψ Φ Q E r d m q x => by
  obtain ⟨k, n, j, rfl, hk, h1, h2, h3, m⟩ := m
  cases d with
  | cons d1 d2 =>
    cases d2 with
    | cons d2 d3 =>
      cases d3
      cases d2
      cases d1 with
      | @obj _ p hp =>
        obtain ⟨o, ho, hb⟩ := r.ent k p _ hp hk
        refine ⟨p, j, o, n, rfl, ho, hb, h1, h2, h3, fun d o' h4 h5 h6 => ?_⟩
        have nt : ∀ ps, o' ≠ .tbl ps := by
          obtain ⟨_, _, _, rfl, _⟩ := h6
          exact nofun
        have en : Ent K al G (upd H p o') p (.box (n + 1)) := ⟨o', upd_same, h6⟩
        exact q _ _ al G _ _ (r.change hp hk rfl en rfl) (Le.change r hp hk rfl nt) (.int d) (m d h4 h5)
end
end M

set_option Elab.async false
set_option linter.all false
set_option maxRecDepth 100000
set_option maxHeartbeats 3900000
/-! set(xs) of keys of any one kind -/
namespace M
open PySem PySem.Spec PyProof.Rows L2 G
section
variable {κ : Type} [DecidableEq κ]
/-- the first i keys without repetition -/
def met (key : Nat → κ) : Nat → List κ
  | 0 => []
  | i + 1 => if key i ∈ met key i then met key i else met key i ++ [key i]
theorem met_len (key : Nat → κ) : ∀ i, (met key i).length ≤ i
  | 0 => Nat.le_refl _
  | i + 1 => by
    have := met_len key i
    rw [met]
    split
    · omega
    · rw [List.length_append]; show _ + 1 ≤ _; omega
theorem met_in (key : Nat → κ) (i : Nat) (k : κ) : decide (k ∈ met key (i + 1)) = (decide (k ∈ met key i) || decide (k = key i)) := by
  rw [Bool.eq_iff_iff, Bool.or_eq_true, decide_eq_true_eq, decide_eq_true_eq, decide_eq_true_eq, met]
  split
  · rename_i h
    exact ⟨.inl, fun z => z.elim id fun e => by rw [e]; exact h⟩
  · rw [List.mem_append, List.mem_singleton]
theorem met_count (key : Nat → κ) (i : Nat) : (met key (i + 1)).length = if decide (key i ∈ met key i) = true then (met key i).length else (met key i).length + 1 := by
  rw [met]
  by_cases h : key i ∈ met key i
  · rw [if_pos h, if_pos (decide_eq_true h)]
  · rw [if_neg h, if_neg (by simpa using h), List.length_append]
    rfl
theorem met_mem (key : Nat → κ) : ∀ (i : Nat) (k : κ), k ∈ met key i ↔ ∃ j, j < i ∧ k = key j
  | 0, k => ⟨fun h => (by cases h), fun ⟨j, h, _⟩ => absurd h (Nat.not_lt_zero j)⟩
  | i + 1, k => by
    have e := met_in key i k
    rw [Bool.eq_iff_iff, Bool.or_eq_true, decide_eq_true_eq, decide_eq_true_eq, decide_eq_true_eq, met_mem key i k] at e
    rw [e]
    constructor
    · rintro (⟨j, h, r⟩ | r)
      · exact ⟨j, by omega, r⟩
      · exact ⟨i, by omega, r⟩
    · rintro ⟨j, h, r⟩
      by_cases q : j = i
      · subst q; exact .inr r
      · exact .inl ⟨j, by omega, r⟩
/-- as many as there are exactly where none is twice -/
theorem met_full (key : Nat → κ) : ∀ i, (met key i).length = i ↔ ∀ a b, a < i → b < i → key a = key b → a = b
  | 0 => ⟨fun _ a _ h => absurd h (Nat.not_lt_zero a), fun _ => rfl⟩
  | i + 1 => by
    have ih := met_full key i
    have hl := met_len key i
    rw [met_count]
    by_cases h : key i ∈ met key i
    · rw [if_pos (decide_eq_true h)]
      refine ⟨fun e => absurd e (by omega), fun e => ?_⟩
      obtain ⟨j, hj, r⟩ := (met_mem key i _).mp h
      have := e i j (by omega) (by omega) r
      omega
    · rw [if_neg (by simpa using h)]
      constructor
      · intro e a b ha hb r
        have ih2 := ih.mp (by omega)
        by_cases qa : a = i
        · by_cases qb : b = i
          · omega
          · subst qa
            exact absurd ((met_mem key a _).mpr ⟨b, by omega, r⟩) h
        · by_cases qb : b = i
          · subst qb
            exact absurd ((met_mem key b _).mpr ⟨a, by omega, r.symm⟩) h
          · exact ih2 a b (by omega) (by omega) r
      · intro e
        have := ih.mpr fun a b ha hb r => e a b (by omega) (by omega) r
        omega
end
section
variable {prog : Program} {w : World} {κ : Type} [DecidableEq κ] {knd : KeyKind prog w κ} {A : Around} {E : Value → Shared → Prop}
/-- the loop that puts what is walked into the set at S -/
theorem put_loop {R : Result → Shared → Prop} {I : Addr} {fp wr : List Addr} {gs : Array GenState → Array GenState → Prop} {n : Nat} {P : Nat → Value → Prop} {St : Nat → Shared → Prop} (wk : WalksS prog w A.in1 I fp wr gs n P St) (S : Addr) (out : S ∉ fp) (key : Nat → κ)
    (hv : ∀ i v, P i v → knd.is (key i) v = true ∧ v.scannable = true) (room : n + 1 < scanBound) :
    ∀ (m i : Nat) (s : Shared), n - i = m → i ≤ n → St i s → s.heap.SetOf knd S (fun k => decide (k ∈ met key i)) (met key i).length →
      (∀ s', Moved (S :: wr) gs s s' → s'.heap.SetOf knd S (fun k => decide (k ∈ met key n)) (met key n).length → R (.ok (.ret .none)) s') → codeAny (model prog w) A (.builtin "set.update.loop" ⟨[.ref S, .ref I], []⟩) R s := by
  have away : S ∉ wr := fun z => out (wk.sub _ z)
  have more : ∀ b ∈ wr, b ∈ S :: wr := fun _ => List.mem_cons_of_mem _
  have stays : ∀ {s s' : Shared} {T : κ → Bool} {j : Nat}, Moved wr gs s s' → s.heap.SetOf knd S T j → s'.heap.SetOf knd S T j := by
    rintro s s' T j mv ⟨o, es, ep, t, ho, r⟩
    exact ⟨o, es, ep, t, mv.heap S _ away ho, r⟩
  intro m
  induction m with
  | zero =>
    intro i s e1 e2 st hs hR
    obtain rfl : i = n := by omega
    apply codeAny_builtin F.entry_set_update_loop
    rw [Around.under_plainId F.plain_set_update_loop _]
    show wpAny _ A.in1 (pyNext (.ref I) >>= _) _ _ s
    apply wpAny_bind
    apply wk.done s _ _ st
    intro s' mv
    show wpAny _ A.in1 (ret Value.none) _ _ s'
    exact wpAny_pure (hR s' (mv.mono more) (stays mv hs))
  | succ m ih =>
    intro i s e1 e2 st hs hR
    have lt : i < n := by omega
    apply codeAny_builtin F.entry_set_update_loop
    rw [Around.under_plainId F.plain_set_update_loop _]
    show wpAny _ A.in1 (pyNext (.ref I) >>= _) _ _ s
    apply wpAny_bind
    apply wk.item i s _ _ lt st
    intro v s' p st' mv
    obtain ⟨hk, hsc⟩ := hv i v p
    show wpAny _ A.in1 (holding [v] (setAdd S v) >>= _) _ _ s'
    apply wpAny_bind
    apply wpAny_holding
    unfold setAdd
    apply wpAny_holding
    apply wpAny_bind
    refine knd.pyHash (k := key i) hk ?_
    have fits : (met key i).length + 1 < scanBound := by have := met_len key i; omega
    refine wpAny_setAddHashed_of (knd := knd) (s := { s' with toks := s'.toks + 1 }) hk hsc (show s'.heap.SetOf knd S _ _ from stays mv hs) fits fun h' same hs2 => ?_
    have hs3 : h'.SetOf knd S (fun k => decide (k ∈ met key (i + 1))) (met key (i + 1)).length := by
      refine SetOf_congr hs2 (fun k => (met_in key i k).symm) ?_
      rw [met_count]
    refine wpAny_pure ⟨plainId_quiet F.plain_set_update_loop _, ih (i + 1) _ (by omega) lt (wk.frame _ s' _ _ st' (Nat.le_succ _) fun b hb o e => ?_) hs3 fun s2 mv2 hs4 => ?_⟩
    · have ne : b ≠ S := fun z => out (z ▸ hb)
      rw [same.2 b ne]
      exact e
    · refine hR s2 (Moved.trans wk.gtrans ((mv.mono more).then_heap (Nat.le_succ _) fun b o hb e => ?_) mv2) hs4
      have ne : b ≠ S := fun z => hb (by rw [z]; exact List.mem_cons_self)
      rw [same.2 b ne]
      exact e
end
section
variable {prog : Program} {w : World} {κ : Type} [DecidableEq κ] {knd : KeyKind prog w κ} {A : Around} {E : Value → Shared → Prop} {s : Shared}
theorem set_sub : isSubtype (.type "tuple") (.type "set") = pure false := by rw [isSubtype_type]; kernel_rfl
theorem set_subf : isSubtype (.type "tuple") (.type "frozenset") = pure false := by rw [isSubtype_type]; kernel_rfl
/-- what of a thing set(..) asks: its type, and that it is walked -/
structure Src (prog : Program) (w : World) (κ : Type) [DecidableEq κ] (knd : PySem.KeyKind prog w κ) (T : String) (l : Addr) (n : Nat) (key : Nat → κ) (h : Heap) : Prop where
  obj : ∃ o, h.get? l = some o ∧ o.cls = .type T
  s1 : isSubtype (.type T) (.type "set") = pure false
  s2 : isSubtype (.type T) (.type "frozenset") = pure false
  nd : (Value.type T == Value.type "dict") = false
  room : n + 1 < scanBound
  it : ∀ (s : Shared) (S : Addr) (A B : Around) (E : Value → Shared → Prop) (Q : Value → Shared → Prop), A.handled = none → (∀ b o, h.get? b = some o → s.heap.get? b = some o) → l ≠ S → S < s.heap.objs.size →
    (∀ (I : Addr) (s2 : Shared) (fp wr : List Addr) (gs : Array GenState → Array GenState → Prop) (P : Nat → Value → Prop) (St : Nat → Shared → Prop), s2.gens = s.gens → s2.drawn = s.drawn → s2.os = s.os → (∀ b o, s.heap.get? b = some o → s2.heap.get? b = some o) → WalksS prog w A I fp wr gs n P St → S ∉ fp → (∀ b ∈ wr, s.heap.objs.size ≤ b) →
      (∀ s s', gs s s' → s' = s) → (∀ i v, P i v → knd.is (key i) v = true ∧ v.scannable = true) → St 0 s2 → Q (.ref I) s2) → wpAny (model prog w) B (pyIter (.ref l)) Q E s
theorem set_of {T : String} {l : Addr} {n : Nat} {key : Nat → κ} {Q : Value → Shared → Prop} (hh : A.handled = none) (src : Src prog w κ knd T l n key s.heap)
    (h : ∀ (h' : Heap) (tk : Nat), h'.SetOf knd s.heap.objs.size (fun k => decide (k ∈ met key n)) (met key n).length → (∀ b o, s.heap.get? b = some o → h'.get? b = some o) → Q (.ref s.heap.objs.size) { s with heap := h', toks := tk }) :
    wpAny (model prog w) A (call (.type "set") [.ref l]) Q E s := by
  obtain ⟨c, tl, hmro⟩ := PySem.F.called_set.mro
  have hmade := PySem.F.called_set.made
  have hsub := PySem.F.called_set.sub
  apply wpAny_call
  apply codeAny_of_tree
  show wpAny _ _ (callAny (.type "set") _) _ _ _
  refine wpAny_pure ⟨Code.quiet_builtin _ (by decide +kernel), codeAny_builtin PySem.F.entry_type_call ?_⟩
  rw [Around.under_plain (weight_type_call_type "set" [.ref l] []) rfl]
  have u1 := PySem.F.called_set.notType
  have u2 := PySem.F.called_set.canCreate
  have u3 := PySem.F.typeCall_set_1 (.ref l)
  repeat (any_goals (first | assumption | wp_step))
  refine codeAny_mono (code_set_new_1 (.ref l) (E := E) (Q₁ := fun ob s2 => ∃ led : Bool, ob = .ref s.heap.objs.size ∧ s2 = { s with heap := s.heap.push { cls := .type "set", dict := none, data := .set #[] 0 (.fresh 0 0 led) } }) fun led => ⟨led, rfl, rfl⟩) fun r s2 hr => ?_
  rcases r with e | fl
  · exact hr
  · rcases fl with _ | _ | _ | ob
    all_goals try exact hr.elim
    obtain ⟨led, rfl, rfl⟩ := hr
    have at0 : (s.heap.push { cls := .type "set", dict := none, data := .set #[] 0 (.fresh 0 0 led) }).get? s.heap.objs.size = some { cls := .type "set", dict := none, data := .set #[] 0 (.fresh 0 0 led) } := Heap.get?_push_size _ rfl
    have ty0 : Shared.TypeIs { s with heap := s.heap.push { cls := .type "set", dict := none, data := .set #[] 0 (.fresh 0 0 led) } } (.ref s.heap.objs.size) "set" := ⟨_, at0, rfl⟩
    have v1 := PySem.F.called_set.init.lookup
    have v2 := PySem.F.called_set.init.bind (.ref s.heap.objs.size)
    repeat (any_goals (first | assumption | wp_step))
    refine codeAny_mono (codeAny_call_builtin (R := wants (fun r s2 => r = .none ∧ ∃ h' tk, s2 = { s with heap := h', toks := tk } ∧ h'.SetOf knd s.heap.objs.size (fun k => decide (k ∈ met key n)) (met key n).length ∧ ∀ b o, s.heap.get? b = some o → h'.get? b = some o) E)
      PySem.F.called_set.init.plain PySem.F.entry_set_init (check_set_init_1 ty0 ?_)) fun r2 s2 hr2 => ?_
    · obtain ⟨⟨oc, od, odt, osl⟩, hol, hcl⟩ := src.obj
      simp only at hcl
      subst hcl
      have hol1 : (s.heap.push { cls := .type "set", dict := none, data := .set #[] 0 (.fresh 0 0 led) }).get? l = some { cls := .type T, dict := od, data := odt, slots := osl } := Heap.get?_push_of_some _ hol
      have w1 := src.s1
      have w2 := src.s2
      have w3 := src.nd
      have lt : l < s.heap.objs.size := Heap.lt_size hol
      unfold Builtin.«set.__init__» noKeywords Builtin.Frozenset.updateFrom
      generalize hPI : pyIter = PI
      wp_walk
      subst hPI
      refine src.it _ s.heap.objs.size A.in1.in1.in1 _ _ _ (by simp [hh]) (fun b o e => Heap.get?_push_of_some _ e) (Nat.ne_of_lt lt) (by rw [Heap.size_push]; exact Nat.lt_succ_self _) ?_
      intro I s2 fp wr gs P St g1 g2 g3 kp wk out wrn gsame hv st
      refine wpAny_bind (wpAny_runValue ?_)
      refine put_loop (knd := knd) wk s.heap.objs.size out key hv src.room (n - 0) 0 s2 rfl (Nat.zero_le _) st ?_ ?_
      · exact SetOf_congr ((setObjOf_fresh (knd := knd) led).setOf (kp _ _ at0) (by unfold scanBound; omega)) (fun _ => rfl) rfl
      · intro s3 mv hs
        obtain ⟨h', g', d', tk', os'⟩ := s3
        have eg : g' = s.gens := (gsame _ _ mv.gens).trans g1
        have ed : d' = s.drawn := mv.drawn.trans g2
        have eo : os' = s.os := mv.os.trans g3
        subst eg ed eo
        show wpAny _ _ _ _ _ _
        refine wpAny_pure ?_
        show wpAny _ _ (ret Value.none) _ _ _
        refine wpAny_pure ⟨rfl, h', tk', rfl, hs, fun b o e => ?_⟩
        have lb := Heap.lt_size e
        refine mv.heap b o (fun z => ?_) (kp b o (Heap.get?_push_of_some _ e))
        rcases List.mem_cons.mp z with z | z
        · exact absurd z (Nat.ne_of_lt lb)
        · have := wrn b z
          rw [Heap.size_push] at this
          exact absurd lb (Nat.not_lt.mpr (Nat.le_trans (Nat.le_succ _) this))
    · rcases r2 with e | fl
      · exact hr2
      · rcases fl with _ | _ | _ | r
        all_goals try exact hr2.elim
        obtain ⟨rfl, h', tk, rfl, hs, hk⟩ := hr2
        repeat (any_goals (first | assumption | wp_step))
        exact h _ _ hs hk
theorem src_list {l : Addr} {items : Array Value} {key : Nat → κ} {h : Heap} (hl : h.IsList l items) (hk : ∀ (i : Nat) (v : Value), items[i]? = some v → knd.is (key i) v = true ∧ v.scannable = true) (room : items.size + 1 < scanBound) : Src prog w κ knd "list" l items.size key h where
  obj := let ⟨o, h1, h2, _⟩ := hl; ⟨o, h1, h2⟩
  s1 := PySem.F.sub_list_set
  s2 := PySem.F.sub_list_frozenset
  nd := by decide
  room := room
  it s S A B E Q hh kp ne lt q := by
    have hl2 : s.heap.IsList l items := let ⟨o, h1, r⟩ := hl; ⟨o, kp _ _ h1, r⟩
    have ll : l < s.heap.objs.size := let ⟨o, h1, _⟩ := hl2; Heap.lt_size h1
    apply wpAny_pyIter_list hl2
    refine q s.heap.objs.size _ _ _ _ _ _ rfl rfl rfl (fun b o e => Heap.get?_push_of_some _ e) (PySem.Walks.list hh _ l (Nat.ne_of_lt ll) items).toS ?_ ?_ (fun _ _ z => z) hk ⟨⟨_, Heap.get?_push_size _ rfl, rfl, rfl⟩, hl2.push _⟩
    · simp only [List.mem_cons, List.not_mem_nil, or_false, not_or]
      exact ⟨Nat.ne_of_lt lt, fun z => ne z.symm⟩
    · intro b hb
      have e : b = s.heap.objs.size := by simpa using hb
      exact Nat.le_of_eq e.symm
theorem src_tuple {l : Addr} {items : Array Value} {key : Nat → κ} {h : Heap} (hl : h.IsTuple l items) (hk : ∀ (i : Nat) (v : Value), items[i]? = some v → knd.is (key i) v = true ∧ v.scannable = true) (room : items.size + 1 < scanBound) : Src prog w κ knd "tuple" l items.size key h where
  obj := let ⟨o, h1, h2, _⟩ := hl; ⟨o, h1, h2⟩
  s1 := set_sub
  s2 := set_subf
  nd := by decide
  room := room
  it s S A B E Q hh kp ne lt q := by
    have hl2 : s.heap.IsTuple l items := let ⟨o, h1, r⟩ := hl; ⟨o, kp _ _ h1, r⟩
    have ll : l < s.heap.objs.size := let ⟨o, h1, _⟩ := hl2; Heap.lt_size h1
    apply wpAny_pyIter_tuple hl2
    refine q s.heap.objs.size _ _ _ _ _ _ rfl rfl rfl (fun b o e => Heap.get?_push_of_some _ e) (PySem.Walks.tuple hh _ l (Nat.ne_of_lt ll) items).toS ?_ ?_ (fun _ _ z => z) hk ⟨⟨_, Heap.get?_push_size _ rfl, rfl, rfl⟩, hl2.push _⟩
    · simp only [List.mem_cons, List.not_mem_nil, or_false, not_or]
      exact ⟨Nat.ne_of_lt lt, fun z => ne z.symm⟩
    · intro b hb
      have e : b = s.heap.objs.size := by simpa using hb
      exact Nat.le_of_eq e.symm
end
end M

set_option Elab.async false
set_option linter.all false
set_option maxRecDepth 100000
set_option maxHeartbeats 3900000
namespace M
open PySem PySem.Spec PyProof.Rows L2 G
/-! ### len(set(x)), x a list or tuple of texts -/
def metS (zs : List Str) : Nat := (met (fun i => zs.getD i Str.empty) zs.length).length
def rLenSet (K : PySem.W.Frag) (x : V) (H : Hp) (Q : VK) : Prop := ∃ (l : Addr) (zs : List Str), x = .ref l ∧ (SqL K H l (zs.map V.str) ∨ SqT K H l (zs.map V.str)) ∧ zs.length ≤ 4000 ∧ Q (.int (metS zs : Nat)) H
def tLenSet (K : PySem.W.Frag) (ta : TE) : TE := fun σ H Q => ta σ H fun x H1 => rLenSet K x H1 Q
theorem keys_at {P : Program} {w : World} {zs : List Str} {us : List Value} (r : Vals (zs.map V.str) us) : ∀ (i : Nat) (v : Value), us.toArray[i]? = some v → (mixKind P w).is (.inr (zs.getD i Str.empty)) v = true ∧ v.scannable = true := by
  intro i v hv
  rw [List.getElem?_toArray] at hv
  have hl : i < zs.length := by
    have := (List.getElem?_eq_some_iff.mp hv).1
    rw [← r.length, List.length_map] at this
    exact this
  obtain ⟨u, h1, t, h2⟩ := r.get (i := i) (x := .str zs[i]) (by rw [List.getElem?_map, List.getElem?_eq_getElem hl]; rfl)
  rw [h1] at hv
  cases hv
  rw [h2]
  refine ⟨?_, rfl⟩
  rw [List.getD_eq_getElem?_getD, List.getElem?_eq_getElem hl]
  exact mixKind_str P w _ t
theorem met_map {α β : Type} [DecidableEq α] [DecidableEq β] (f : α → β) (hf : ∀ a b, f a = f b → a = b) (key : Nat → α) : ∀ n, met (fun i => f (key i)) n = (met key n).map f
  | 0 => rfl
  | n + 1 => by
    rw [met, met, met_map f hf key n]
    by_cases h : key n ∈ met key n
    · rw [if_pos h, if_pos (List.mem_map_of_mem h)]
    · rw [if_neg h, if_neg (fun z => by obtain ⟨a, h1, h2⟩ := List.mem_map.mp z; rw [hf _ _ h2] at h1; exact h h1), List.map_append]
      rfl
def inMet {κ : Type} [DecidableEq κ] (key : Nat → κ) (n : Nat) : κ → Bool := fun k => decide (k ∈ met key n)
abbrev keyS (zs : List Str) : Nat → L2.Key := fun i => Sum.inr (zs.getD i Str.empty)
theorem pe_lenSet {X : Cx} {K : PySem.W.Frag} (hK : X.K = K) {a : Expr} {ta : TE} {p p2 q pos : Pos} (hg : Gl X "len") (hm : X.mg "len" = none) (hg2 : Gl X "set") (hm2 : X.mg "set" = none) (ha : PE X a ta) (hc : X.calm = true := by rfl)
    (na : starEach [a] X.env = (false, eval a X.env) :: starEach [] X.env := by rfl) : PE X (.Call (.Name "len" p) [.Call (.Name "set" p2) [a] [] q] [] pos) (tLenSet K ta) := by
  subst hK
  constructor
  intro pins s σ H Q I h
  refine Call_ (ld_blt I hg hm boot_len ?_)
  refine callWith_builtin1 (args_cons ?_ rfl) rfl rfl
  refine Call_ (ld_blt I hg2 hm2 boot_set ?_)
  refine callWith_type1 (args_cons (thn (ha.run pins s σ H _ I h) ?_) na) na rfl
  rintro v s1 ⟨x, H1, J, r, l, zs, rfl, sq, few, q1⟩
  refine args_nil ?_
  cases r
  have big : (met (keyS zs) zs.length).length = metS zs := by
    unfold keyS
    rw [met_map (fun z => (Sum.inr z : L2.Key)) (fun _ _ e => Sum.inr.inj e) (fun i => zs.getD i Str.empty), List.length_map]
    rfl
  have hz : ∀ {us : List Value}, Vals (zs.map V.str) us → us.toArray.size = zs.length := fun r => by rw [List.size_toArray, ← r.length, List.length_map]
  have room : ∀ {us : List Value}, Vals (zs.map V.str) us → us.toArray.size + 1 < scanBound := fun r => by rw [hz r]; unfold scanBound; omega
  have done : ∀ (h' : Heap) (tk : Nat), h'.SetOf (mixKind X.prog X.w) s1.heap.objs.size (inMet (keyS zs) zs.length) (met (keyS zs) zs.length).length → (∀ b o, s1.heap.get? b = some o → h'.get? b = some o) →
      wpAny (model X.prog X.w) X.A (call (.builtin "len") [.ref s1.heap.objs.size]) (EP X pins σ Q) X.xe { s1 with heap := h', toks := tk } := fun h' tk hS hk => by
    rw [big] at hS
    obtain ⟨o, es, ep, t, ho, hex, hd, _, _, _, hf, hn⟩ := hS
    have J2 : Inv X pins σ H1 { s1 with heap := h', toks := tk } := J.kept fun b o e => hk b o e
    have ml : metS zs ≤ zs.length := met_len _ _
    exact call_len_set ho hex hd hf (by rw [hn]; omega) ⟨.int (metS zs : Nat), H1, J2.tok _, ⟨_, by rw [hn]⟩, q1⟩
  rcases sq with sq | sq
  · obtain ⟨us, r, pl, _⟩ := J.list sq
    refine set_of (knd := mixKind X.prog X.w) (J.ok.hd hc) (src_list pl.isList (keys_at r) (room r)) fun h' tk hS hk => ?_
    rw [hz r] at hS
    exact args_nil (done h' tk hS hk)
  · obtain ⟨us, r, pl, _⟩ := J.tuple sq
    refine set_of (knd := mixKind X.prog X.w) (J.ok.hd hc) (src_tuple (show s1.heap.IsTuple l us.toArray from pl) (keys_at r) (room r)) fun h' tk hS hk => ?_
    rw [hz r] at hS
    exact args_nil (done h' tk hS hk)
/-- its mirror -/
def lenSetM (a : ME) : ME := fun δ c Ψ Φ => a δ c Ψ fun x c1 => match seqD (view c1 x) with
  | some ys => match strsD ys with
    | some zs => zs.length ≤ 4000 ∧ Φ (.int (metS zs : Nat)) c1
    | none => False
  | none => False
theorem snd_lenSet {K : PySem.W.Frag} {tb : List (Addr × Str)} {W : WX} {ta : TE} {a : ME} (ha : SndE K tb W ta a) : SndE K tb W (tLenSet K ta) (lenSetM a) := by
  intro al G c H σ δ Ψ Φ Q g m q
  refine ha al G c H σ δ Ψ _ _ g m fun x c1 al1 G1 H1 v r1 l1 d1 m1 => ?_
  split at m1
  · rename_i ys e
    split at m1
    · rename_i zs e2
      obtain ⟨p, vs, rfl, h1, h2⟩ := seq_vw e (r1.vw d1)
      rw [strs_den h2 e2] at h1
      exact ⟨p, zs, rfl, h1, m1.1, q _ c1 al1 G1 H1 _ r1 l1 (.int _) m1.2⟩
    · cases m1
  · cases m1
theorem metS_full (zs : List Str) : metS zs = zs.length ↔ zs.Nodup := by
  unfold metS List.Nodup
  rw [met_full, List.pairwise_iff_getElem]
  have at_ : ∀ (i : Nat) (h : i < zs.length), zs.getD i Str.empty = zs[i] := fun i h => by rw [List.getD_eq_getElem?_getD, List.getElem?_eq_getElem h]; rfl
  constructor
  · intro h i j hi hj hij e
    have := h i j hi hj (by rw [at_ i hi, at_ j hj, e])
    omega
  · intro h a b ha hb e
    rw [at_ a ha, at_ b hb] at e
    by_cases q : a = b
    · exact q
    · exfalso
      rcases Nat.lt_or_gt_of_ne q with z | z
      · exact h a b ha hb z e
      · exact h b a hb ha z e.symm
end M

set_option Elab.async false
set_option linter.all false
set_option maxRecDepth 100000
set_option maxHeartbeats 3900000
namespace M
open PySem PySem.Spec PyProof.Rows L2 G
/-! ### a def of the text, whatever its defaults are -/
structure FunV (K : PySem.W.Frag) (x qual : Str) (st : Stmt) (f : Addr) (fd : FuncData) : Prop where
  ex : ∃ (oc : Value) (od : Option Addr) (dV kV doc pm : Value) (an : Option Addr) (cdv ct : Value) (osl : Array (Option Value)), fd = PySem.W.fnOf x qual (defArgs st) (defBody st) (defScope st) dV kV doc pm an cdv ct ∧ K.lookup f = some ⟨oc, od, .func fd, osl⟩ ∧ PySem.W.codeIn K cdv qual = true
  kp : PySem.W.keepIn K (.ref f) = true
section
variable {P : Program} {w : World} {K : PySem.W.Frag} {mg : Str → Option Value} {base : Heap} {x qual : Str} {st : Stmt} {f : Addr} {fd : FuncData} {N ps : List Str} {k : Nat} {sp : Sp}
theorem funV_mk {oc : Value} {od an : Option Addr} {osl : Array (Option Value)} {dV kV doc pm cdv ct : Value} (l : K.lookup f = some ⟨oc, od, .func (PySem.W.fnOf x qual (defArgs st) (defBody st) (defScope st) dV kV doc pm an cdv ct), osl⟩)
    (c : PySem.W.codeIn K cdv qual = true) (k : PySem.W.keepIn K (.ref f) = true) : FunV K x qual st f (PySem.W.fnOf x qual (defArgs st) (defBody st) (defScope st) dV kV doc pm an cdv ct) := ⟨⟨oc, od, dV, kV, doc, pm, an, cdv, ct, osl, rfl, l, c⟩, k⟩
theorem FunV.okX (F : FunV K x qual st f fd) (S : FnScope N ps (defScope st)) (len : ∀ vs H Q E, sp vs H Q E → vs.length = ps.length)
    (body : ∀ (cdv : Value) (A : Around) (outer : List PySem.Env) (s : Shared) (H : Hp) (vs : List V) (Q : VK) (E : XK), Room k (A.deeper (envOfC qual (defScope st) s.heap.objs.size f cdv)) → sp vs H Q E →
      ∃ t, PSs (cxOf (L2.CX P w) P w K mg base N qual (defScope st) f cdv A outer s H E) (defBody st) t ∧ t { nx := fun _ H' => Q .non H', rt := Q } (L2.start N vs) H) : FnOk P w K mg base (L2.CX P w) (k + 1) f fd ps sp := by
  obtain ⟨_, _, _, _, _, _, _, cdv, _, _, rfl, lk, hc⟩ := F.ex
  exact fn_of lk hc S len (body cdv)
theorem FunV.okC {c : Addr} (F : FunV K x qual st f fd) (hc : fd.code = .ref c) (S : FnScope N ps (defScope st)) (len : ∀ vs H Q E, sp vs H Q E → vs.length = ps.length)
    (body : ∀ (A : Around) (outer : List PySem.Env) (s : Shared) (H : Hp) (vs : List V) (Q : VK) (E : XK), Room k (A.deeper (envOfC qual (defScope st) s.heap.objs.size f (.ref c))) → sp vs H Q E →
      ∃ t, PSs (cxOf CX0 P w K mg base N qual (defScope st) f (.ref c) A outer s H E).nox (defBody st) t ∧ t { nx := fun _ H' => Q .non H', rt := Q } (L2.start N vs) H) : FnOk P w K mg base CX0 (k + 1) f fd ps sp := by
  obtain ⟨_, _, _, _, _, _, _, cdv, _, _, rfl, lk, hd⟩ := F.ex
  obtain rfl : cdv = Value.ref c := hc
  refine fn_of lk hd S len fun A outer s H vs Q E hr hs => ?_
  obtain ⟨t, h, q⟩ := body A outer s H vs Q E hr hs
  exact ⟨t, h.nox, q⟩
end
/-! ### sorted, all, any, sum -/
section
variable {X : Cx} {K : PySem.W.Frag} {tb : List (Addr × Str)} {W : WX}
def rSortedU (K : PySem.W.Frag) : List V → Hp → VK → Prop := fun xs H Q => rSortedS K xs H Q ∨ rSorted K xs H Q
theorem call_sortedU (hK : X.K = K) : CallR X (.builtin "sorted") (rSortedU K) := hK ▸ cr_sortedS.or cr_sorted
theorem call_allU (hK : X.K = K) (hc : X.calm = true) : CallR X (.builtin "all") (rAll K) := hK ▸ cr_all hc
theorem call_anyU (hK : X.K = K) (hc : X.calm = true) : CallR X (.builtin "any") (rAny K) := hK ▸ cr_any hc
theorem call_sumU (hK : X.K = K) (hc : X.calm = true) : CallR X (.builtin "sum") (rSum K) := hK ▸ cr_sum hc
def blsD : List D → Option (List Bool)
  | [] => some []
  | .bl b :: xs => match blsD xs with
    | some bs => some (b :: bs)
    | none => none
  | _ => none
def intsD : List D → Option (List Int)
  | [] => some []
  | .int b :: xs => match intsD xs with
    | some bs => some (b :: bs)
    | none => none
  | _ => none
theorem bls_den {al : List Addr} {G : Hp} : ∀ {vs : List V} {xs : List D} {zs : List Bool}, DenL K al G vs xs → blsD xs = some zs → vs = zs.map V.bl
  | _, _, _, .nil, e => by cases e; rfl
  | _, _, _, .cons h r, e => by
    cases h with
    | bl z =>
      unfold blsD at e
      split at e
      · rename_i zs h2
        cases e
        rw [bls_den r h2]
        rfl
      · cases e
    | _ => cases e
theorem ints_den {al : List Addr} {G : Hp} : ∀ {vs : List V} {xs : List D} {zs : List Int}, DenL K al G vs xs → intsD xs = some zs → vs = zs.map V.int
  | _, _, _, .nil, e => by cases e; rfl
  | _, _, _, .cons h r, e => by
    cases h with
    | int z =>
      unfold intsD at e
      split at e
      · rename_i zs h2
        cases e
        rw [ints_den r h2]
        rfl
      · cases e
    | _ => cases e
def allD (xs : List D) (c : SH) (Φ : QD) : Prop := oneD xs fun x => match lstD (view c x) with
  | some ys => match blsD ys with
    | some bs => Φ (.bl (bs.all id)) c
    | none => False
  | none => False
def anyD (xs : List D) (c : SH) (Φ : QD) : Prop := oneD xs fun x => match lstD (view c x) with
  | some ys => match blsD ys with
    | some bs => Φ (.bl (bs.any id)) c
    | none => False
  | none => False
def sumD (xs : List D) (c : SH) (Φ : QD) : Prop := oneD xs fun x => match lstD (view c x) with
  | some ys => match intsD ys with
    | some bs => Φ (.int bs.sum) c
    | none => False
  | none => False
def sortedD (lv : Bool) (xs : List D) (c : SH) (Φ : QD) : Prop := oneD xs fun x => match lstD (view c x) with
  | some ys => (∃ zs, strsD ys = some zs ∧ zs.length < 64 ∧ ∀ us : List Str, us.Perm zs → sortedS us = true → newL lv (us.map .str) c Φ) ∨ ∃ zs, intsD ys = some zs ∧ zs.length < 64 ∧ ∀ us : List Int, us.Perm zs → us.Pairwise (· ≤ ·) → newL lv (us.map .int) c Φ
  | none => False
theorem dc_all : DCall K tb (rAll K) allD := by
  intro al G c H xs ds Φ Q R hd m q
  obtain ⟨x, v, rfl, rfl, dx, m2⟩ := oneD_of m hd
  split at m2
  · rename_i ys e
    split at m2
    · rename_i bs e2
      obtain ⟨b, vs, rfl, h1, h2⟩ := lst_vw e (R.vw dx)
      rw [bls_den h2 e2] at h1
      exact ⟨b, bs, rfl, h1, q _ c al G H _ R .refl (.bl _) m2⟩
    · cases m2
  · cases m2
theorem dc_any : DCall K tb (rAny K) anyD := by
  intro al G c H xs ds Φ Q R hd m q
  obtain ⟨x, v, rfl, rfl, dx, m2⟩ := oneD_of m hd
  split at m2
  · rename_i ys e
    split at m2
    · rename_i bs e2
      obtain ⟨b, vs, rfl, h1, h2⟩ := lst_vw e (R.vw dx)
      rw [bls_den h2 e2] at h1
      exact ⟨b, bs, rfl, h1, q _ c al G H _ R .refl (.bl _) m2⟩
    · cases m2
  · cases m2
theorem dc_sum : DCall K tb (rSum K) sumD := by
  intro al G c H xs ds Φ Q R hd m q
  obtain ⟨x, v, rfl, rfl, dx, m2⟩ := oneD_of m hd
  split at m2
  · rename_i ys e
    split at m2
    · rename_i bs e2
      obtain ⟨b, vs, rfl, h1, h2⟩ := lst_vw e (R.vw dx)
      rw [ints_den h2 e2] at h1
      exact ⟨b, bs, rfl, h1, q _ c al G H _ R .refl (.int _) m2⟩
    · cases m2
  · cases m2
theorem dc_sorted {lv : Bool} : DCall K tb (rSortedU K) (sortedD lv) := by
  intro al G c H xs ds Φ Q R hd m q
  obtain ⟨x, v, rfl, rfl, dx, m2⟩ := oneD_of m hd
  split at m2
  · rename_i ys e
    obtain ⟨b, vs, rfl, h1, h2⟩ := lst_vw e (R.vw dx)
    rcases m2 with ⟨zs, e2, h64, m2⟩ | ⟨zs, e2, h64, m2⟩
    · rw [strs_den h2 e2] at h1
      exact .inl ⟨b, zs, rfl, h1, h64, fun us p hp hs hn => newL_ok R hn (DenL.strs us) (m2 us hp hs) q⟩
    · rw [ints_den h2 e2] at h1
      exact .inr ⟨b, zs, rfl, h1, h64, fun us p hp hs hn => newL_ok R hn (DenL.ints us) (m2 us hp hs) q⟩
  · cases m2
/-! ### xs[::-1], a, b, c = x, y, z, tuple(x) -/
theorem pe_revU (hK : X.K = K) {e : Expr} {te : TE} {k : Nat} {p1 p2 p3 pos : Pos} (he : PE X e te) : PE X (.Subscript e (.Slice none none (some (.UnaryOp .USub (.Constant (.int 1) k p1) p2)) p3) pos) (tRevL K te) := hK ▸ pe_revL he
def revM (lv : Bool) (a : ME) : ME := fun δ c Ψ Φ => a δ c Ψ fun x c1 => match lstD (view c1 x) with
  | some ys => newL lv ys.reverse c1 Φ
  | none => False
theorem snd_rev {lv : Bool} {ta : TE} {a : ME} (ha : SndE K tb W ta a) : SndE K tb W (tRevL K ta) (revM lv a) := by
  intro al G c H σ δ Ψ Φ Q g m q
  refine ha al G c H σ δ Ψ _ _ g m fun x c1 al1 G1 H1 v r1 l1 d1 m1 => ?_
  split at m1
  · rename_i ys e
    obtain ⟨b, vs, rfl, h1, h2⟩ := lst_vw e (r1.vw d1)
    exact ⟨b, vs, rfl, h1, fun p hp => newL_ok r1 hp h2.reverse m1 (q.le l1)⟩
  · cases m1
def par3M (i j l : Nat) (a : MA) : MS := fun δ c e => a δ c (e.x δ) fun xs c1 => match xs with
  | [x, y, z] => e.nx (((δ.set i (some x)).set j (some y)).set l (some z)) c1
  | _ => False
theorem snd_par3 {i j l : Nat} {tA : TA} {mA : MA} (hA : SndA K tb W tA mA) : SndS K tb W (tPar3 i j l tA) (par3M i j l mA) := by
  intro al G c H σ δ e D R s m q
  refine hA al G c H σ δ (e.x δ) _ _ (q.go R s) m fun xs c1 al1 G1 H1 vs r1 l1 d1 m1 => ?_
  split at m1
  · cases d1 with
    | cons d1 d2 =>
      cases d2 with
      | cons d2 d3 =>
        cases d3 with
        | cons d3 d4 =>
          cases d4
          exact ⟨_, _, _, rfl, q.nx _ c1 al1 G1 H1 _ r1 l1 ((((s.le l1).set d1).set d2).set d3) m1⟩
  · cases m1
def rTupU (K : PySem.W.Frag) : List V → Hp → VK → Prop := fun xs H Q => ∃ p ys, xs = [.ref p] ∧ ((SqL K H p ys ∧ ∀ l, H l = none → Q (.ref l) (upd H l (.tup ys))) ∨ (SqT K H p ys ∧ Q (.ref p) H))
theorem call_tupU (hK : X.K = K) : CallR X (.type "tuple") (rTupU K) := hK ▸ call_tuple_of
def tupleD (xs : List D) (c : SH) (Φ : QD) : Prop := oneD xs fun x => match view c x with
  | .lst ys => Φ (.tup ys) c
  | .scr ys => Φ (.tup ys) c
  | .tup ys => Φ x c
  | _ => False
theorem dc_tuple : DCall K tb (rTupU K) tupleD := by
  intro al G c H xs ds Φ Q R hd m q
  obtain ⟨x, v, rfl, rfl, dx, m2⟩ := oneD_of m hd
  have vx := R.vw dx
  have new : ∀ {vs : List V} {ys : List D}, DenL K al G vs ys → Φ (.tup ys) c → ∀ l, H l = none → Q (.ref l) (upd H l (.tup vs)) := fun dn m l hl =>
    let ⟨r2, l2, d2⟩ := pair_new R hl dn
    q _ c al _ _ _ r2 l2 d2 m
  split at m2
  · rename_i ys e
    rw [e] at vx
    cases vx with
    | lst h r => exact ⟨_, _, rfl, .inl ⟨.of h, new r m2⟩⟩
  · rename_i ys e
    rw [e] at vx
    cases vx with
    | scr h r => exact ⟨_, _, rfl, .inl ⟨h, new r m2⟩⟩
  · rename_i ys e
    rw [e] at vx
    cases vx with
    | tup h r => exact ⟨_, _, rfl, .inr ⟨.of h, q _ c al G H _ R .refl dx m2⟩⟩
  · cases m2
theorem pi_zipU (hK : X.K = K) {elts : List Expr} {kk : Nat} {tpos p pos : Pos} {es : List Expr} {ta : TA} (h : PI X (.Tuple elts kk tpos) (.Call (.Name "zip" p) es [] pos) (iZip X.K ta)) : PI X (.Tuple elts kk tpos) (.Call (.Name "zip" p) es [] pos) (iZip K ta) := hK ▸ h
end
end M

set_option Elab.async false
set_option linter.all false
set_option maxRecDepth 100000
set_option maxHeartbeats 3900000
namespace M
open PySem PySem.Spec PyProof.Rows L2 G
/-! ### dicts -/
def keyD : D → Option Key
  | .int i => some (.inl i)
  | .str z => some (.inr z)
  | _ => none
def putKD (kvs : List (Key × D)) (k : Key) (v : D) : List (Key × D) := if (kvs.any fun kv => decide (kv.1 = k)) = true then kvs.map (fun kv => if kv.1 = k then (kv.1, v) else kv) else kvs ++ [(k, v)]
def mergeD (kvs more : List (Key × D)) : List (Key × D) := more.foldl (fun acc kv => putKD acc kv.1 kv.2) kvs
def valD (kvs : List (Key × D)) (k : Key) : Option D := (kvs.find? fun kv => decide (kv.1 = k)).map (·.2)
section
variable {K : PySem.W.Frag} {al : List Addr} {G : Hp}
theorem DenK.append : ∀ {vs us : List (Key × V)} {ds es : List (Key × D)}, DenK K al G vs ds → DenK K al G us es → DenK K al G (vs ++ us) (ds ++ es)
  | _, _, _, _, .nil, s => s
  | _, _, _, _, .cons h r, s => .cons h (r.append s)
theorem DenK.any {k : Key} : ∀ {vs : List (Key × V)} {ds : List (Key × D)}, DenK K al G vs ds → (vs.any fun kv => decide (kv.1 = k)) = (ds.any fun kv => decide (kv.1 = k))
  | _, _, .nil => rfl
  | _, _, .cons h r => by rw [List.any_cons, List.any_cons, r.any]
theorem DenK.put1 {k : Key} {v : V} {d : D} (hv : Den K al G v d) : ∀ {vs : List (Key × V)} {ds : List (Key × D)}, DenK K al G vs ds → DenK K al G (vs.map fun kv => if kv.1 = k then (kv.1, v) else kv) (ds.map fun kv => if kv.1 = k then (kv.1, d) else kv)
  | _, _, .nil => .nil
  | _, _, .cons (k := j) h r => by
    rw [List.map_cons, List.map_cons]
    by_cases e : j = k
    · rw [if_pos e, if_pos e]; exact .cons hv (r.put1 hv)
    · rw [if_neg e, if_neg e]; exact .cons h (r.put1 hv)
theorem DenK.put {k : Key} {v : V} {d : D} {vs : List (Key × V)} {ds : List (Key × D)} (h : DenK K al G vs ds) (hv : Den K al G v d) : DenK K al G (putK vs k v) (putKD ds k d) := by
  unfold putK putKD
  rw [h.any]
  split
  · exact h.put1 hv
  · exact h.append (.cons hv .nil)
theorem DenK.merge : ∀ {us : List (Key × V)} {es : List (Key × D)}, DenK K al G us es → ∀ {vs : List (Key × V)} {ds : List (Key × D)}, DenK K al G vs ds → DenK K al G (mergeK vs us) (mergeD ds es)
  | _, _, .nil, _, _, h => h
  | _, _, .cons q r, _, _, h => r.merge (h.put q)
theorem DenK.val {k : Key} : ∀ {vs : List (Key × V)} {ds : List (Key × D)} {d : D}, DenK K al G vs ds → valD ds k = some d → ∃ v, valV vs k = some v ∧ Den K al G v d
  | _, _, _, .nil, e => by cases e
  | _, _, d, .cons (k := j) h r, e => by
    unfold valD valV at *
    by_cases q : j = k
    · simp only [List.find?_cons, q, decide_true] at e ⊢
      cases e
      exact ⟨_, rfl, h⟩
    · simp only [List.find?_cons, q, decide_false] at e ⊢
      exact DenK.val r e
theorem DenK.val0 {k : Key} : ∀ {vs : List (Key × V)} {ds : List (Key × D)}, DenK K al G vs ds → valD ds k = none → valV vs k = none
  | _, _, .nil, e => rfl
  | _, _, .cons (k := j) h r, e => by
    unfold valD valV at *
    by_cases q : j = k
    · simp only [List.find?_cons, q, decide_true] at e
      cases e
    · simp only [List.find?_cons, q, decide_false] at e ⊢
      exact DenK.val0 r e
theorem key_den {v : V} {d : D} {k : Key} (h : Den K al G v d) (e : keyD d = some k) : v = kV k := by
  cases h with
  | int i => cases e; rfl
  | str z => cases e; rfl
  | _ => cases e
end
/-! ### {k: v, ..} -/
abbrev MP := Env → SH → XD → (List (Key × D) → SH → Prop) → Prop
def pnilM : MP := fun _ c _ Φ => Φ [] c
def pconsM (k v : ME) (r : MP) : MP := fun δ c Ψ Φ => k δ c Ψ fun x c1 => v δ c1 Ψ fun y c2 => match keyD x with
  | some j => r δ c2 Ψ fun ps c3 => Φ ((j, y) :: ps) c3
  | none => False
def dispM (lv : Bool) (p : MP) : ME := fun δ c Ψ Φ => p δ c Ψ fun kvs c1 => kvs.length ≤ 15 ∧ newK lv (mergeD [] kvs) c1 Φ
def SndP (K : PySem.W.Frag) (tb : List (Addr × Str)) (W : WX) (trs : List (TE × TE)) (m : MP) : Prop := ∀ al G c H σ δ Ψ Φ Q, Go K tb al G c H W σ δ Ψ → m δ c Ψ Φ → (∀ kvs vs c' al' G' H', Rep K tb al' G' c' H' → Le al G c H al' G' c' H' → DenK K al' G' vs kvs → Φ kvs c' → Q (vs.map fun kv => (kV kv.1, kv.2)) H') → tPairs trs σ H Q
section
variable {K : PySem.W.Frag} {tb : List (Addr × Str)} {W : WX} {tk tv ta : TE} {mk mv a b : ME} {trs : List (TE × TE)} {mp : MP}
theorem snd_pnil : SndP K tb W [] pnilM := fun al G c H σ δ Ψ Φ Q g m q => q [] [] c al G H g.rep .refl .nil m
theorem snd_pcons (hk : SndE K tb W tk mk) (hv : SndE K tb W tv mv) (hr : SndP K tb W trs mp) : SndP K tb W ((tk, tv) :: trs) (pconsM mk mv mp) := by
  intro al G c H σ δ Ψ Φ Q g m q
  refine hk al G c H σ δ Ψ _ _ g m fun x c1 al1 G1 H1 v r1 l1 d1 m1 => ?_
  refine hv al1 G1 c1 H1 σ δ Ψ _ _ (g.le r1 l1) m1 fun y c2 al2 G2 H2 w r2 l2 d2 m2 => ?_
  split at m2
  · rename_i j e
    refine hr al2 G2 c2 H2 σ δ Ψ _ _ (g.le r2 (l1.trans l2)) m2 fun kvs vs c3 al3 G3 H3 r3 l3 d3 m3 => ?_
    rw [key_den d1 e]
    exact q ((j, y) :: kvs) ((j, w) :: vs) c3 al3 G3 H3 r3 ((l1.trans l2).trans l3) (.cons (d2.le l3) d3) m3
  · cases m2
theorem snd_disp (hp : SndP K tb W trs mp) : SndE K tb W (tDisp trs) (dispM true mp) := by
  intro al G c H σ δ Ψ Φ Q g m q p hn
  have ex : Ex H (upd H p (.dK [])) := Ex.new hn
  have r0 := g.rep.grow ex
  have l0 : Le al G c H al G c (upd H p (.dK [])) := Le.grow ex
  have ap : Apart al G c p := Apart.new g.rep hn
  refine hp al G c _ σ δ Ψ _ _ (g.le r0 l0) m fun kvs vs c1 al1 G1 H1 r1 l1 d1 m1 => ?_
  obtain ⟨ap1, h1⟩ := ap.le (u := .dK []) upd_same nofun l1
  refine ⟨h1, vs, rfl, by rw [d1.length]; exact m1.1, ?_⟩
  have dn : DenK K al1 G1 (mergeK [] vs) (mergeD [] kvs) := d1.merge .nil
  have r2 : Rep K tb al1 G1 c1 (upd H1 p (.dK (mergeK [] vs))) := r1.foreign h1 nofun nofun ap1.g ap1.liv ap1.k
  have l2 : Le al G c H al1 G1 c1 (upd H1 p (.dK (mergeK [] vs))) := (l0.trans l1).foreign (.of hn) nofun
  have m2 := m1.2
  unfold newK at m2
  rw [if_pos rfl] at m2
  obtain ⟨r3, l3, k3⟩ := r2.own ap1 upd_same nofun (o := .dic (mergeD [] kvs)) ⟨_, upd_same, dn.mono (fun _ _ => app_get) (Ex.refl _)⟩ rfl
  exact q _ _ _ G1 _ _ r3 (l2.own r2 (.of hn)) (.obj k3) m2
theorem snd_dispL (hp : SndP K tb W trs mp) : SndE K tb W (tLk (tDisp trs)) (dispM false mp) := by
  intro al G c H σ δ Ψ Φ Q g m q p hn
  have ex : Ex H (upd H p (.dK [])) := Ex.new hn
  have r0 := g.rep.grow ex
  have l0 : Le al G c H al G c (upd H p (.dK [])) := Le.grow ex
  have ap : Apart al G c p := Apart.new g.rep hn
  refine hp al G c _ σ δ Ψ _ _ (g.le r0 l0) m fun kvs vs c1 al1 G1 H1 r1 l1 d1 m1 => ?_
  obtain ⟨ap1, h1⟩ := ap.le (u := .dK []) upd_same nofun l1
  refine ⟨h1, vs, rfl, by rw [d1.length]; exact m1.1, ?_⟩
  have dn : DenK K al1 G1 (mergeK [] vs) (mergeD [] kvs) := d1.merge .nil
  have r2 : Rep K tb al1 G1 c1 (upd H1 p (.dK (mergeK [] vs))) := r1.foreign h1 nofun nofun ap1.g ap1.liv ap1.k
  have l2 : Le al G c H al1 G1 c1 (upd H1 p (.dK (mergeK [] vs))) := (l0.trans l1).foreign (.of hn) nofun
  exact lk_of r2 ap1 upd_same dn l2 (.of hn) q (newK_f m1.2)
/-! ### d[k], d.get(k, x) -/
def dgetD (x y : D) (c : SH) (Φ : QD) : Prop := match view c x, keyD y with
  | .dic kvs, some k => match valD kvs k with
    | some d => Φ d c
    | none => False
  | _, _ => False
theorem snd_dget {td ty : TE} (ha : SndE K tb W td a) (hb : SndE K tb W ty b) : SndE K tb W (tDGet td ty) (opM dgetD a b) := by
  intro al G c H σ δ Ψ Φ Q g m q
  refine ha al G c H σ δ Ψ _ _ g m fun x c1 al1 G1 H1 v r1 l1 d1 m1 => ?_
  refine hb al1 G1 c1 H1 σ δ Ψ _ _ (g.le r1 l1) m1 fun y c2 al2 G2 H2 w r2 l2 d2 m2 => ?_
  have vx := r2.vw (d1.le l2)
  unfold dgetD at m2
  split at m2
  · rename_i e1 e2
    rw [e1] at vx
    split at m2
    · rename_i d e3
      cases vx with
      | dic h r =>
        obtain ⟨u, h1, h2⟩ := r.val e3
        exact ⟨_, u, rfl, .inl ⟨_, _, h, key_den d2 e2, h1.symm⟩, q d c2 al2 G2 H2 u r2 (l1.trans l2) h2 m2⟩
    · cases m2
  · cases m2
end
end M

set_option Elab.async false
set_option linter.all false
set_option maxRecDepth 100000
set_option maxHeartbeats 3900000
/-! defs that ask for the repr of containers: nothing is being shown ahead of them -/
namespace M
open PySem PySem.Spec PyProof.Rows L2 G
structure FnG (P : Program) (w : World) (K : PySem.W.Frag) (mg : Str → Option Value) (base : Heap) (CX : CXT) (k : Nat) (f : Addr) (fd : FuncData) (ps : List Str) (sp : Sp) : Prop where
  len : ∀ vs H Q E, sp vs H Q E → vs.length = ps.length
  run : ∀ (A : Around) (outer : List PySem.Env) (s : Shared) (H : Hp) (args : Args) (us : List Value) (vs : List V) (Q : VK) (E : XK), A.guards = some [] → Room k A → Env0 P w K mg base A outer s H → BindsTo s fd args (ps.zip us) → Vals vs us → sp vs H Q E →
    codeAny (model P w) A (.call (.ref f) args) (CR CX outer P w H s Q E) s
section
variable {P : Program} {w : World} {K : PySem.W.Frag} {mg : Str → Option Value} {base : Heap} {CX : CXT} {k : Nat} {f : Addr} {fd : FuncData} {N ps : List Str} {sp : Sp} {x qual : Str} {st : Stmt}
theorem FnG.of (F : FnOk P w K mg base CX k f fd ps sp) : FnG P w K mg base CX k f fd ps sp := ⟨F.len, fun A outer s H args us vs Q E _ => F.run A outer s H args us vs Q E⟩
theorem deeper_guards {A : Around} {e : PySem.Env} : (A.deeper e).guards = A.guards := rfl
/-- one A at a time: a def's promise is that of its body there -/
theorem FunV.okG (F : FunV K x qual st f fd) (S : FnScope N ps (defScope st)) (len : ∀ vs H Q E, sp vs H Q E → vs.length = ps.length)
    (body : ∀ (cdv : Value) (A : Around) (outer : List PySem.Env) (s : Shared) (H : Hp) (vs : List V) (Q : VK) (E : XK), A.guards = some [] → Room k (A.deeper (envOfC qual (defScope st) s.heap.objs.size f cdv)) → sp vs H Q E →
      ∃ t, PSs (cxOf (L2.CX P w) P w K mg base N qual (defScope st) f cdv A outer s H E) (defBody st) t ∧ t { nx := fun _ H' => Q .non H', rt := Q } (L2.start N vs) H) : FnG P w K mg base (L2.CX P w) (k + 1) f fd ps sp := by
  obtain ⟨_, _, _, _, _, _, _, cdv, _, _, rfl, lk, hc⟩ := F.ex
  refine ⟨len, fun A outer s H args us vs Q E hg hr e0 hb r hsp => ?_⟩
  have KX : K.In s.heap := e0.mod.kin.keeps fun b o e => (e0.bs b o e).1
  have lim : s.heap.NoLimit := e0.mod.nolimit.keeps fun b o e => (e0.bs b o e).1
  refine codeAny_call_function hr.depth (KX _ _ lk) rfl S.co S.gen rfl (PySem.W.codeRec_of KX hc) (hb _ _ _ _ (wpAny_newFunctionEnv_cells S.kind (fun y hy => ?_) fun env he s1 z => ?_))
  · exact (S.par y.1 (List.of_mem_zip (show (y.1, y.2) ∈ _ from hy)).1).imp id fun q => ⟨q, PySem.W.cellsFrom_some _ _ _ (.inl q)⟩
  · subst he
    refine ⟨lim.keeps z.toInCall.keep, codeAny_func ?_⟩
    obtain ⟨t, ht, hq⟩ := body cdv A outer s H vs Q E hg (hr.deeper _) hsp
    refine wpAny_mono (ht.run [] s1 _ H _ (inv_start S hr.hd e0 (len _ _ _ _ hsp) r z) hq) (fun fl s' hs => ?_) fun e s' hs => hs
    cases fl with
    | ret u => obtain ⟨v, σ', H', J, rv, q⟩ := hs; exact ⟨v, H', J.os, J.bare, J.base, J.hok, rv, q⟩
    | next => obtain ⟨σ', H', J, q⟩ := hs; exact ⟨.non, H', J.os, J.bare, J.base, J.hok, rfl, q⟩
    | brk => obtain ⟨_, _, _, q⟩ := hs; exact q.elim
    | cont => obtain ⟨_, _, _, q⟩ := hs; exact q.elim
end
section
variable {X : Cx} {CX : CXT} {k : Nat} {f : Addr} {fd : FuncData} {ps : List Str} {sp : Sp} {ds : List Value} {dvs : List V} {E : L2.St → XK} {x : Str} {e : Expr} {es : List Expr} {t : TA} {p pos : Pos}
theorem run_G {pins : List (Addr × Obj)} {σ : L2.St} {H : Hp} {s : Shared} {Q : VK} {us : List Value} {vs : List V} (F : FnG X.prog X.w X.K X.mg X.base CX k f fd ps sp) (hG : X.A.guards = some []) (hr : Room k X.A) (hb : Binds X.K fd ps ds) (hd : Vals dvs ds) (hx : PassesAt CX X σ (E σ))
    (I : Inv X pins σ H s) (r : Vals vs us) (h : sp (vs ++ dvs) H Q (E σ)) : wpAny (model X.prog X.w) X.A (call (.ref f) us) (EP X pins σ Q) X.xe s := by
  have r2 : Vals (vs ++ dvs) (us ++ ds) := r.append hd
  refine wpAny_call (codeAny_mono (F.run X.A X.stack s H ⟨us, []⟩ (us ++ ds) _ Q (E σ) hG hr I.env0 (hb s us I.kIn (r2.length.symm.trans (F.len _ _ _ _ h))) r2 h) fun r s' hq => ?_)
  match r, hq with
  | .error e, hq => exact hx pins H s e s' I hq
  | .ok (.ret u), hq => exact I.after hq
  | .ok .next, hq => exact False.elim hq
  | .ok .brk, hq => exact False.elim hq
  | .ok .cont, hq => exact False.elim hq
theorem pe_callG (F : FnG X.prog X.w X.K X.mg X.base CX k f fd ps sp) (hG : X.A.guards = some []) (hr : Room k X.A) (hg : Gl X x) (hm : X.mg x = some (.ref f)) (hk : PySem.W.keepIn X.K (.ref f) = true) (hb : Binds X.K fd ps ds) (hd : Vals dvs ds) (hx : ∀ σ, PassesAt CX X σ (E σ))
    (ha : PA X (e :: es) t) (hdb : (x == ("__debug__" : Str)) = false := by decide) (he : starEach (e :: es) X.env = (false, eval e X.env) :: starEach es X.env := by rfl) (hpl : (backTo pos (starEach es X.env)).any (·.1) = false := by rfl) :
    PE X (.Call (.Name x p) (e :: es) [] pos) (tCallSD sp dvs E t) :=
  ⟨fun pins s σ H Q I h => wpAny_Call_Name_kw (ld_glob I hg hm (PySem.W.callWith_K (h₀ := X.base) I.ok.mod.kin hk (thn (ha.run pos pins s σ H _ I h) fun us s1 ⟨vs, H1, I1, r, q⟩ => ⟨I1.kIn, run_G F hG hr hb hd (hx σ) I1 r q⟩) he hpl) hdb)⟩
end
/-! ### the law's own call -/
/-- the abstract heap at the law's call: the script (unless it is written), the empty tables -/
def stH (K : PySem.W.Frag) (a : Addr) (o : Obj) (xs : List V) (ts : List Addr) : Hp := fun b => if b = a ∧ K.lookup a = none then some (.frz o (.lst xs)) else if b ∈ ts then some (.tbl #[]) else none
theorem stH_of {K : PySem.W.Frag} {a b : Addr} {o : Obj} {xs : List V} {ts : List Addr} {u : HO} (h : stH K a o xs ts b = some u) : (b = a ∧ K.lookup a = none ∧ u = .frz o (.lst xs)) ∨ (b ∈ ts ∧ u = .tbl #[]) := by
  unfold stH at h
  split at h
  · rename_i z; cases h; exact .inl ⟨z.1, z.2, rfl⟩
  · split at h
    · rename_i z; cases h; exact .inr ⟨z, rfl⟩
    · cases h
def empty0 : Obj := { cls := .none, data := .fields #[] }
theorem law_callG {P : Program} {w : World} {K : PySem.W.Frag} {mg mb : Str → Option Value} {CX : CXT} {k : Nat} {fa a : Addr} {cs : List (Addr × Addr)} {fd : FuncData} {x : Str} {sp : Sp} {s₁ : Shared} {vs : List Value} {ns : List Int}
    (KX : K.In s₁.heap) (hns : s₁.heap.Ns mainGlobals mg) (hb : s₁.heap.Ns builtinsNs mb) (hbb : ∀ x : Str, x ≠ "__name__" → mb x = bootBuiltins x) (hlim : s₁.heap.NoLimit) (hg : s₁.gens = #[])
    (hT : ∀ p ∈ cs, s₁.heap.get? p.2 = some { cls := .none, data := .fields #[] }) (nT : ∀ p ∈ cs, K.lookup p.2 = none) (C : ∀ p ∈ cs, PySem.W.CodeHd s₁.heap p.1 p.2)
    (hbm : ∃ (bm : Addr) (ob : Obj), mg "__builtins__" = some (.ref bm) ∧ bm ≠ builtinsNs ∧ s₁.heap.get? bm = some ob ∧ ob.cls = .type "module" ∧ ob.dict = some builtinsNs ∧ ob.data = .plain)
    (ha : s₁.heap.get? a = some { cls := .type "list", data := .seq vs.toArray }) (hi : IntsAre vs ns) (hl : ns.length ≤ sizeLine) (hr : Room k callerA)
    (F : ∀ base : Heap, K.In base → base.Ns mainGlobals mg → (∀ p ∈ cs, LamX.TabB base mg p.1 p.2) → FnG P w K mg base CX k fa fd [x] sp) (hbind : ∀ (s : Shared) (u : Value), BindsTo s fd ⟨[u], []⟩ [(x, u)])
    (hsp : ∀ H : Hp, (∀ p ∈ cs, H p.2 = some (.tbl #[])) → SqL K H a (ns.map V.int) → sp [.ref a] H (fun v _ => v = .bl true) fun _ _ _ => False)
    (hCX : ∀ H e s', CX [] H s₁ (fun _ _ _ => False) e s' → False) :
    codeAny (model P w) callerA (.call (.ref fa) ⟨[.ref a], []⟩) (fun r s' => r = .ok (.ret (.bool true)) ∧ OldK s₁.heap s'.heap ∧ s'.os = s₁.os ∧ AllBare s'.gens) s₁ := by
  obtain ⟨H, hH⟩ : ∃ H, H = stH K a { cls := .type "list", data := .seq vs.toArray } (ns.map V.int) (cs.map (·.2)) := ⟨_, rfl⟩
  have tab : ∀ b ∈ cs.map (·.2), s₁.heap.get? b = some { cls := .none, data := .fields #[] } ∧ K.lookup b = none := fun b hb => by
    obtain ⟨p, hp, rfl⟩ := List.mem_map.mp hb
    exact ⟨hT p hp, nT p hp⟩
  have na : a ∉ cs.map (·.2) := fun z => by
    have q := (tab a z).1
    rw [ha] at q
    cases q
  -- what lies under H
  have und : ∀ {b u}, H b = some u → (b = a ∧ K.lookup a = none ∧ u = .frz { cls := .type "list", data := .seq vs.toArray } (.lst (ns.map V.int))) ∨ (b ∈ cs.map (·.2) ∧ u = .tbl #[]) := fun h => stH_of (hH ▸ h)
  have hTb : ∀ p ∈ cs, H p.2 = some (.tbl #[]) := fun p hp => by
    have m : p.2 ∈ cs.map (·.2) := List.mem_map.mpr ⟨p, hp, rfl⟩
    rw [hH]
    show (if p.2 = a ∧ _ then _ else if p.2 ∈ cs.map (·.2) then _ else _) = _
    have ne : ¬ (p.2 = a ∧ K.lookup a = none) := fun z => na (z.1 ▸ m)
    exact (if_neg ne).trans (if_pos m)
  have nk : ∀ {b o}, K.lookup b = some o → H b = none := fun {b o} e => by
    cases q : H b with
    | none => rfl
    | some u =>
      rcases und q with ⟨rfl, z, _⟩ | ⟨z, _⟩
      · rw [z] at e; cases e
      · rw [(tab b z).2] at e; cases e
  have free : ∀ {b o}, s₁.heap.get? b = some o → (∀ us n, o.data ≠ .seq us n) → o.data ≠ .fields #[] → H b = none := fun {b o} e n1 n2 => by
    cases q : H b with
    | none => rfl
    | some u =>
      rcases und q with ⟨rfl, _, _⟩ | ⟨z, _⟩
      · rw [ha] at e; cases e; exact (n1 _ _ rfl).elim
      · rw [(tab b z).1] at e; cases e; exact (n2 rfl).elim
  have up : ∀ {b m}, s₁.heap.Ns b m → (hidT s₁.heap H).Ns b m := fun ⟨o, es, ep, e, d, r⟩ => ⟨o, es, ep, hidT_get e (free e (fun _ _ z => by rw [d] at z; cases z) fun z => by rw [d] at z; cases z), d, r⟩
  have hKb : K.In (hidT s₁.heap H) := fun b o e => hidT_get (KX b o e) (nk e)
  have hM : L2.Mod K mg (hidT s₁.heap H) := ⟨hKb, up hns, ⟨mb, up hb, hbb⟩, let ⟨mc, h1, h2⟩ := hlim; ⟨mc, up h1, h2⟩⟩
  have hok : HOk P w H s₁.heap := fun b u q => by
    rcases und q with ⟨rfl, _, rfl⟩ | ⟨z, rfl⟩
    · exact ⟨ha, by rw [List.length_map]; exact hl, vs, _, vals_ints hi, ha⟩
    · exact (tab b z).1
  have hS : SqL K H a (ns.map V.int) := by
    cases hk : K.lookup a with
    | none => exact .inl (.inr ⟨{ cls := .type "list", data := .seq vs.toArray }, by rw [hH]; exact if_pos ⟨rfl, hk⟩⟩)
    | some o =>
      have e := KX a o hk
      rw [ha] at e
      cases e
      exact .inr ⟨_, vs.toArray, _, hk, rfl, rfl, rfl, by rw [List.size_toArray, hi.length]; exact hl, by simpa using vals_ints hi⟩
  have TB : ∀ p ∈ cs, LamX.TabB (hidT s₁.heap H) mg p.1 p.2 := fun p hp => by
    have ht := hT p hp
    obtain ⟨g, gs, gp, g1, g2, _⟩ := hns
    refine ⟨?_, ?_, fun z => ?_⟩
    · obtain ⟨o, us, file, tf, flags, tg, inF, text, tt, e1, r1, r2, r3, r⟩ := C p hp
      refine ⟨o, us, file, tf, flags, tg, inF, text, tt, hidT_get e1 (free e1 (fun _ _ z => by rw [r2] at z; cases z) fun z => ?_), r1, r2, r3, r⟩
      rw [r2] at z
      cases z
      simp at r3
    · obtain ⟨bm, ob, b1, b2, b3, b4, b5, b6⟩ := hbm
      refine ⟨bm, ob, b1, b2, fun q => ?_, fun q => ?_, hidT_get b3 (free b3 (fun _ _ z => by rw [b6] at z; cases z) fun z => by rw [b6] at z; cases z), b4, b5, b6⟩
      · rw [q, g1] at b3; cases b3; rw [g2] at b6; cases b6
      · rw [q, ht] at b3; cases b3; cases b6
    · rw [z, ht] at g1; cases g1; cases g2
  have e0 : Env0 P w K mg (hidT s₁.heap H) callerA [] s₁ H := ⟨rfl, hM, fun b o e => of_hidT e, Nat.le_of_eq (hidT_size _ _), trivial, fun b hb => absurd (show b ∈ ([] : List Addr) from hb) (by simp), hok, .of_eq hg⟩
  refine codeAny_mono ((F _ hKb (up hns) TB).run callerA [] s₁ H ⟨[.ref a], []⟩ [.ref a] [.ref a] _ _ rfl hr e0 (hbind s₁ (.ref a)) (.cons rfl .nil) (hsp H hTb hS)) fun r s' h => ?_
  match r, h with
  | .error e, h => exact (hCX H e s' h).elim
  | .ok .next, h => exact False.elim h
  | .ok .brk, h => exact False.elim h
  | .ok .cont, h => exact False.elim h
  | .ok (.ret u), ⟨v, H', os, bare, un, hok', r', q⟩ =>
    cases (show v = .bl true from q)
    cases (show u = Value.bool true from r')
    have key : ∀ b o, b ∉ cs.map (·.2) → s₁.heap.get? b = some o → s'.heap.get? b = some o := fun b o nb e => by
      cases q : H b with
      | none => exact un.keep b o e q (fun z => absurd (show b ∈ ([] : List Addr) from z) (by simp)) (by simp)
      | some u =>
        rcases und q with ⟨rfl, _, rfl⟩ | ⟨z, _⟩
        · have z2 := (hok' b _ (un.frzs b _ _ q)).1
          rw [ha] at e
          cases e
          exact z2
        · exact absurd z nb
    have grown : ∀ p ∈ cs, ∃ more : Array Value, s'.heap.get? p.2 = some { cls := .none, data := .fields more } := fun p hp => let ⟨more, z⟩ := un.tbls p.2 #[] (hTb p hp); ⟨_, hok' p.2 _ z⟩
    refine ⟨rfl, ⟨fun b o e => ?_, fun b o e => ?_⟩, os, bare⟩
    · by_cases hb : b ∈ cs.map (·.2)
      · obtain ⟨p, hp, rfl⟩ := List.mem_map.mp hb
        obtain ⟨more, hm⟩ := grown p hp
        rw [hT p hp] at e
        cases e
        exact .inr (.inl ⟨((C p hp).tab (hT p hp)).isCodeTable, rfl, #[], more, rfl, by rw [Array.empty_append]; exact hm⟩)
      · exact .inl (key b o hb e)
    · by_cases hb : b ∈ cs.map (·.2)
      · obtain ⟨p, hp, rfl⟩ := List.mem_map.mp hb
        obtain ⟨more, hm⟩ := grown p hp
        exact ⟨_, hm⟩
      · exact ⟨o, key b o hb e⟩
/-- what is known of the law's promise at the head's heap -/
def LawAtG (l : PySem.W.OpenLaw) (w : World) (K : PySem.W.Frag) (CX : CXT) (k n : Nat) (x : Str) (mg : Str → Option Value) (fa : Addr) (h : Heap) : Prop :=
  ∃ (fd : FuncData) (cs : List (Addr × Addr)) (sp : Sp), (∀ p ∈ cs, h.get? p.2 = some { cls := .none, data := .fields #[] }) ∧ (∀ p ∈ cs, K.lookup p.2 = none) ∧ (∀ p ∈ cs, PySem.W.CodeHd h p.1 p.2) ∧ (∀ (s : Shared) (u : Value), BindsTo s fd ⟨[u], []⟩ [(x, u)]) ∧
    (∀ (H : Hp) (a : Addr) (ns : List Int), ns.length ≤ n → (∀ z ∈ ns, Builtin.Int.intBits z ≤ 1048576) → (∀ p ∈ cs, H p.2 = some (.tbl #[])) → SqL K H a (ns.map V.int) → sp [.ref a] H (fun v _ => v = .bl true) fun _ _ _ => False) ∧
    ∀ base : Heap, K.In base → base.Ns mainGlobals mg → (∀ p ∈ cs, LamX.TabB base mg p.1 p.2) → FnG l.prog w K mg base CX k fa fd [x] sp
theorem walk_ofG {l : PySem.W.OpenLaw} {n k : Nat} {q : Program} {loose : List Str} {XP : (Str → Option Value) → Heap → Prop} {YP : World → Heap → Prop} {d : DefRec} {K : Params → PySem.W.Frag} {CX : World → CXT} {x : Str}
    (hn : l.most = some n) (hn2 : n ≤ sizeLine) (hdf : d.params.defaults = []) (hr : Room k callerA) (hY : ∀ (w : World) (h : Heap), YP w h → (K w.params).In h)
    (F : ∀ (w : World) (mg : Str → Option Value) (fa : Addr) (h : Heap), YP w h → (K w.params).In h → h.Ns mainGlobals mg → mg d.name = some (.ref fa) → LawAtG l w (K w.params) (CX w) k n x mg fa h)
    (hCX : ∀ (w : World) (H : Hp) (s : Shared) (e : Value) (s' : Shared), CX w [] H s (fun _ _ _ => False) e s' → False) :
    PySem.W.WalkO q loose XP YP l.row.toRowW d [] (fun f vs => PySem.call f vs) := by
  refine Att.attach_callB hn hdf fun w s₀ s₁ mg mb fa o pm cd doc a vs ns G Y ho hd hcd hmg hobj hints hlen hbits hg => ?_
  have KX := hY w _ Y
  obtain ⟨fd, cs, sp, hT, nT, C, hb, hsp, hF⟩ := F w mg fa _ Y KX G.T.g hmg
  exact law_callG KX G.T.g G.T.b G.T.builtins G.T.nolimit hg hT nT C G.T.bmain hobj hints (Nat.le_trans hlen hn2) hr hF hb (fun H hH hS => hsp H a ns hlen hbits hH hS) fun H e s' => hCX w H s₁ e s'
end M

set_option Elab.async false
set_option linter.all false
set_option maxRecDepth 100000
set_option maxHeartbeats 3900000
namespace M
open PySem PySem.Spec PyProof.Rows L2 G
/-! ### repr of lists and tuples -/
def rReprG (K : PySem.W.Frag) : List V → Hp → VK → Prop := fun xs H Q => ∃ (a : Addr) (p : PyData), xs = [.ref a] ∧ Dp K H (.ref a) p ∧ p.showable = true ∧ p.hasDict = false ∧ p.depth ≤ 60 ∧ p.shown.length ≤ sizeLine ∧ Q (.str p.shown) H
section
variable {X : Cx} {K : PySem.W.Frag} {tb : List (Addr × Str)} {W : WX}
theorem call_reprG (hK : X.K = K) (hG : X.A.guards = some []) (hu : X.A.units + 64 < cLine) : CallR X (.builtin "repr") (rReprG K) := by
  subst hK
  intro pins s σ H xs us Q I r h
  obtain ⟨a, p, rfl, dp, h1, h2, h3, h4, q⟩ := h
  obtain ⟨u, rfl, ru⟩ := vals1 r
  obtain ⟨as, rd⟩ := Dp.reads I p _ u dp ru
  cases (show u = Value.ref a from ru)
  exact repr_of_reads' rd h1 (fun e => by rw [h2] at e; cases e) hG (by omega) (fun _ _ e => e) (fun h' u tk hk => ⟨.str _, H, I.kept hk, ⟨_, rfl⟩, q⟩) h4
def reprGD (xs : List D) (c : SH) (Φ : QD) : Prop := oneD xs fun x => match pyC c x with
  | some (.list ps) => ((PyData.list ps).showable = true ∧ (PyData.list ps).hasDict = false ∧ (PyData.list ps).depth ≤ 60 ∧ (PyData.list ps).shown.length ≤ sizeLine) ∧ Φ (.str (PyData.list ps).shown) c
  | some (.tuple ps) => ((PyData.tuple ps).showable = true ∧ (PyData.tuple ps).hasDict = false ∧ (PyData.tuple ps).depth ≤ 60 ∧ (PyData.tuple ps).shown.length ≤ sizeLine) ∧ Φ (.str (PyData.tuple ps).shown) c
  | _ => False
theorem dc_reprG : DCall K tb (rReprG K) reprGD := by
  intro al G c H xs ds Φ Q R hd m q
  obtain ⟨x, v, rfl, rfl, dx, m2⟩ := oneD_of m hd
  split at m2
  · rename_i ps e
    have dp := R.py dx e
    obtain ⟨⟨h1, h2, h3, h4⟩, m⟩ := m2
    cases dp with
    | lst h r => exact ⟨_, _, rfl, .lst h r, h1, h2, h3, h4, q _ c al G H _ R .refl (.str _) m⟩
  · rename_i ps e
    have dp := R.py dx e
    obtain ⟨⟨h1, h2, h3, h4⟩, m⟩ := m2
    cases dp with
    | tup h r => exact ⟨_, _, rfl, .tup h r, h1, h2, h3, h4, q _ c al G H _ R .refl (.str _) m⟩
  · cases m2
/-! ### x in a list or a tuple of data -/
def rInP (K : PySem.W.Frag) (fin : Bool → Bool) : R2 := fun x y H Q => ∃ (d : PyData) (ds : List PyData), Dp K H x d ∧ (Dp K H y (.list ds) ∨ Dp K H y (.tuple ds)) ∧ SeqAt.shaped d = true ∧ SeqAt.shaped (.list ds) = true ∧ Q (.bl (fin (ds.any fun z => PyData.eqv z d))) H
theorem op_inP (hK : X.K = K) (hu : X.A.units + 65 < cLine) : OpR X (compareOp .In) (rInP K id) := by
  subst hK
  rintro pins s σ H x y v u Q I rx ry ⟨d, ds, hd, he, sd, se, q⟩
  obtain ⟨as, r1⟩ := Dp.reads I d x v hd rx
  rcases he with he | he
  · obtain ⟨bs, r2⟩ := Dp.reads I (.list ds) y u he ry
    exact SeqAt.in_list_reads r2 r1 (SeqAt.canLay_of_shaped se) (SeqAt.canLay_of_shaped sd) (room_in_shaped sd hu) ⟨.bl _, H, I, rfl, q⟩
  · obtain ⟨bs, r2⟩ := Dp.reads I (.tuple ds) y u he ry
    exact SeqAt.in_tuple_reads r2 r1 (SeqAt.canLay_of_shaped se) (SeqAt.canLay_of_shaped sd) (room_in_shaped sd hu) ⟨.bl _, H, I, rfl, q⟩
theorem op_ninP (hK : X.K = K) (hu : X.A.units + 65 < cLine) : OpR X (compareOp .NotIn) (rInP K not) := by
  subst hK
  rintro pins s σ H x y v u Q I rx ry ⟨d, ds, hd, he, sd, se, q⟩
  obtain ⟨as, r1⟩ := Dp.reads I d x v hd rx
  rcases he with he | he
  · obtain ⟨bs, r2⟩ := Dp.reads I (.list ds) y u he ry
    exact SeqAt.notIn_list_reads r2 r1 (SeqAt.canLay_of_shaped se) (SeqAt.canLay_of_shaped sd) (room_in_shaped sd hu) ⟨.bl _, H, I, rfl, q⟩
  · obtain ⟨bs, r2⟩ := Dp.reads I (.tuple ds) y u he ry
    exact SeqAt.notIn_tuple_reads r2 r1 (SeqAt.canLay_of_shaped se) (SeqAt.canLay_of_shaped sd) (room_in_shaped sd hu) ⟨.bl _, H, I, rfl, q⟩
def inP (fin : Bool → Bool) (x y : D) (c : SH) (Φ : QD) : Prop := match pyC c x, pyC c y with
  | some d, some (.list ds) => (SeqAt.shaped d = true ∧ SeqAt.shaped (.list ds) = true) ∧ Φ (.bl (fin (ds.any fun z => PyData.eqv z d))) c
  | some d, some (.tuple ds) => (SeqAt.shaped d = true ∧ SeqAt.shaped (.list ds) = true) ∧ Φ (.bl (fin (ds.any fun z => PyData.eqv z d))) c
  | _, _ => False
theorem dop_inP {fin : Bool → Bool} : DOp K tb (rInP K fin) (inP fin) := by
  intro al G c H x y dx dy Φ Q R hx hy m q
  unfold inP at m
  split at m
  · rename_i d ds e1 e2
    exact ⟨d, ds, R.py hx e1, .inl (R.py hy e2), m.1.1, m.1.2, q _ c al G H _ R .refl (.bl _) m.2⟩
  · rename_i d ds e1 e2
    exact ⟨d, ds, R.py hx e1, .inr (R.py hy e2), m.1.1, m.1.2, q _ c al G H _ R .refl (.bl _) m.2⟩
  · cases m
/-! ### dicts of data compared -/
inductive DpK (K : PySem.W.Frag) (H : Hp) : List (Key × V) → List (Key × PyData) → Prop
  | nil : DpK K H [] []
  | cons {k : Key} {v : V} {p : PyData} {vs : List (Key × V)} {ps : List (Key × PyData)} : Dp K H v p → SeqAt.shaped p = true → DpK K H vs ps → DpK K H ((k, v) :: vs) ((k, p) :: ps)
theorem DpK.length {H : Hp} : ∀ {vs : List (Key × V)} {ps : List (Key × PyData)}, DpK K H vs ps → vs.length = ps.length
  | _, _, .nil => rfl
  | _, _, .cons _ _ r => congrArg (· + 1) r.length
def lookP (ls : List (Key × PyData)) (k : Key) : Option PyData := (ls.find? fun kv => decide (kv.1 = k)).map (·.2)
theorem DpK.look {H : Hp} {k : Key} : ∀ {vs : List (Key × V)} {ps : List (Key × PyData)}, DpK K H vs ps → (valV vs k = none ∧ lookP ps k = none) ∨ ∃ v p, valV vs k = some v ∧ lookP ps k = some p ∧ Dp K H v p ∧ SeqAt.shaped p = true
  | _, _, .nil => .inl ⟨rfl, rfl⟩
  | _, _, .cons (k := k') (v := v) (p := p) (vs := vs) (ps := ps) h s r => by
    by_cases e : k' = k
    · exact .inr ⟨v, p, by simp [valV, List.find?, e], by simp [lookP, List.find?, e], h, s⟩
    · have e1 : valV ((k', v) :: vs) k = valV vs k := by simp [valV, List.find?, e]
      have e2 : lookP ((k', p) :: ps) k = lookP ps k := by simp [lookP, List.find?, e]
      rw [e1, e2]
      exact r.look
def hitsB (ls : List (Key × PyData)) : List (Key × PyData) → Bool
  | [] => true
  | (k, v) :: r => match lookP ls k with
    | some y => PyData.eqv v y && hitsB ls r
    | none => false
def eqK (ks ls : List (Key × PyData)) : Bool := ks.length == ls.length && hitsB ls ks
theorem hitsK {pins : List (Addr × Obj)} {σ : L2.St} {H : Hp} {s : Shared} (I : Inv X pins σ H s) {A : Around} (hu : A.units + 64 < cLine) {ls : List (Key × V)} {lp : List (Key × PyData)} {vb : List (Key × Value)} (dl : DpK X.K H ls lp) (rb : KV ls vb) : ∀ {ks : List (Key × V)} {kp : List (Key × PyData)} {va : List (Key × Value)}, DpK X.K H ks kp → KV ks va → PySem.W.KeqHits A s vb va (hitsB lp kp)
  | _, _, _, .nil, r => by
    unfold KV at r
    cases r
    exact .nil
  | _, _, _, .cons (k := k) (v := v) (p := p) (vs := vs) (ps := ps) h sh t, r => by
    unfold KV at r
    cases r with
    | @cons _ q _ qs hq hr =>
      obtain ⟨key, u⟩ := q
      obtain ⟨e, ru⟩ := hq
      cases (show k = key from e)
      have go := hitsK I hu dl rb t (show KV vs qs from hr)
      rcases dl.look (k := k) with ⟨e1, e2⟩ | ⟨y, py, e1, e2, hy, sy⟩
      · have := rb.val k
        rw [e1] at this
        have n := RelO.none_of this
        show PySem.W.KeqHits A s vb ((k, u) :: qs) (match lookP lp k with | some y => PyData.eqv p y && hitsB lp ps | none => false)
        rw [e2]
        exact .miss n
      · have rr := rb.val k
        rw [e1] at rr
        obtain ⟨w, hw, rw'⟩ := RelO.some_of rr
        obtain ⟨as, r1⟩ := Dp.reads I p v u h ru
        obtain ⟨bs, r2⟩ := Dp.reads I py y w hy rw'
        show PySem.W.KeqHits A s vb ((k, u) :: qs) (match lookP lp k with | some y => PyData.eqv p y && hitsB lp ps | none => false)
        rw [e2]
        exact .hit hw (SeqAt.eqAt_reads p py A s u w as bs r1 r2 (SeqAt.canLay_of_shaped sh) (SeqAt.canLay_of_shaped sy) (SeqAt.room_of_shaped sh hu)) go
def rEqK (K : PySem.W.Frag) (fin : Bool → Bool) : R2 := fun x y H Q => ∃ a b ks ls kp lp, x = .ref a ∧ y = .ref b ∧ Rd H a (.dK ks) ∧ Rd H b (.dK ls) ∧ DpK K H ks kp ∧ DpK K H ls lp ∧ Q (.bl (fin (eqK kp lp))) H
theorem rd_dict {pins : List (Addr × Obj)} {σ : L2.St} {H : Hp} {s : Shared} (I : Inv X pins σ H s) {a : Addr} {ks : List (Key × V)} (h : Rd H a (.dK ks)) : (a == sysModules) = false ∧ ∃ va, KV ks va ∧ s.heap.DictOf (mixKind X.prog X.w) a va := by
  rcases h with h | ⟨o, h⟩
  · obtain ⟨_, ya, va, ra, da⟩ := (show ObjOk X.prog X.w H s.heap a (.dK ks) from I.hok a _ h)
    exact ⟨ya, va, ra, da⟩
  · obtain ⟨_, _, ya, va, ra, da⟩ := (show ObjOk X.prog X.w H s.heap a (.frz o (.dK ks)) from I.hok a _ h)
    exact ⟨ya, va, ra, da⟩
theorem op_eqK (hK : X.K = K) (hu : X.A.units + 65 < cLine) : OpR X (compareOp .Eq) (rEqK K id) := by
  subst hK
  rintro pins s σ H x y v u Q I rx ry ⟨a, b, ks, ls, kp, lp, rfl, rfl, ha, hb, dk, dl, q⟩
  cases (show v = Value.ref a from rx)
  cases (show u = Value.ref b from ry)
  obtain ⟨ya, va, ra, da⟩ := rd_dict I ha
  obtain ⟨yb, vb, rb, db⟩ := rd_dict I hb
  refine PySem.W.keq_eq (knd := mixKind X.prog X.w) ya yb da db (by omega) (fun _ => hitsK I (A := X.A.in1) (by show X.A.units + 1 + 64 < _; omega) dl rb dk ra) (fin_bl I q ?_)
  show eqK kp lp = _
  unfold eqK
  rw [← dk.length, ← dl.length, ra.length, rb.length]
theorem op_neK (hK : X.K = K) (hu : X.A.units + 65 < cLine) : OpR X (compareOp .NotEq) (rEqK K not) := by
  subst hK
  rintro pins s σ H x y v u Q I rx ry ⟨a, b, ks, ls, kp, lp, rfl, rfl, ha, hb, dk, dl, q⟩
  cases (show v = Value.ref a from rx)
  cases (show u = Value.ref b from ry)
  obtain ⟨ya, va, ra, da⟩ := rd_dict I ha
  obtain ⟨yb, vb, rb, db⟩ := rd_dict I hb
  refine PySem.W.keq_ne (knd := mixKind X.prog X.w) ya yb da db (by omega) (fun _ => hitsK I (A := X.A.in1) (by show X.A.units + 1 + 64 < _; omega) dl rb dk ra) (fin_bl I q ?_)
  show (!eqK kp lp) = _
  unfold eqK
  rw [← dk.length, ← dl.length, ra.length, rb.length]
def pyK (c : SH) : List (Key × D) → Option (List (Key × PyData))
  | [] => some []
  | (k, d) :: r => match pyC c d, pyK c r with
    | some p, some ps => if SeqAt.shaped p = true then some ((k, p) :: ps) else none
    | _, _ => none
theorem Rep.pyK {al : List Addr} {G H : Hp} {c : SH} (R : Rep K tb al G c H) : ∀ {vs : List (Key × V)} {ds : List (Key × D)} {ps : List (Key × PyData)}, DenK K al G vs ds → pyK c ds = some ps → DpK K H vs ps
  | _, _, _, .nil, e => by cases e; exact .nil
  | _, _, _, .cons h r, e => by
    unfold M.pyK at e
    split at e
    · rename_i p ps h1 h2
      split at e
      · rename_i sh
        cases e
        exact .cons (R.py h h1) sh (R.pyK r h2)
      · cases e
    · cases e
def eqKD (fin : Bool → Bool) (x y : D) (c : SH) (Φ : QD) : Prop := match view c x, view c y with
  | .dic ks, .dic ls => match pyK c ks, pyK c ls with
    | some kp, some lp => Φ (.bl (fin (eqK kp lp))) c
    | _, _ => False
  | _, _ => False
theorem dop_eqK {fin : Bool → Bool} : DOp K tb (rEqK K fin) (eqKD fin) := by
  intro al G c H x y dx dy Φ Q R hx hy m q
  have vx := R.vw hx
  have vy := R.vw hy
  unfold eqKD at m
  split at m
  · rename_i ks ls e1 e2
    rw [e1] at vx
    rw [e2] at vy
    split at m
    · rename_i kp lp h1 h2
      cases vx with
      | dic ha da =>
        cases vy with
        | dic hb db => exact ⟨_, _, _, _, kp, lp, rfl, rfl, ha, hb, R.pyK da h1, R.pyK db h2, q _ c al G H _ R .refl (.bl _) m⟩
    · cases m
  · cases m
end
end M

set_option Elab.async false
set_option linter.all false
set_option maxRecDepth 100000
set_option maxHeartbeats 3900000
namespace M
open PySem PySem.Spec PyProof.Rows L2 G
section
variable {P : Program} {w : World} {K : PySem.W.Frag} {mg : Str → Option Value} {base : Heap} {x qual : Str} {st : Stmt} {f : Addr} {fd : FuncData} {N ps : List Str} {k : Nat} {sp : Sp}
theorem Room.u65 {A : Around} (hr : Room k A) : A.units + 65 < cLine := by have := hr.un; omega
/-- a def that throws nothing -/
theorem FunV.ok (F : FunV K x qual st f fd) (S : FnScope N ps (defScope st)) (len : ∀ vs H Q E, sp vs H Q E → vs.length = ps.length)
    (body : ∀ (cdv : Value) (A : Around) (outer : List PySem.Env) (s : Shared) (H : Hp) (vs : List V) (Q : VK) (E : XK), Room k (A.deeper (envOfC qual (defScope st) s.heap.objs.size f cdv)) → sp vs H Q E →
      ∃ t, PSs (cxOf CX0 P w K mg base N qual (defScope st) f cdv A outer s H E).nox (defBody st) t ∧ t { nx := fun _ H' => Q .non H', rt := Q } (L2.start N vs) H) : FnOk P w K mg base CX0 (k + 1) f fd ps sp := by
  obtain ⟨_, _, _, _, _, _, _, cdv, _, _, rfl, lk, hc⟩ := F.ex
  refine fn_of lk hc S len fun A outer s H vs Q E hr hs => ?_
  obtain ⟨t, h, q⟩ := body cdv A outer s H vs Q E hr hs
  exact ⟨t, h.nox, q⟩
theorem cx_none {H : Hp} {s s' : Shared} {e : Value} (h : L2.CX P w [] H s (fun _ _ _ => False) e s') : False := let ⟨_, _, _, _, _, _, _, _, _, _, _, _, z⟩ := h; z
def unT (H : Hp) : Hp := fun b => match H b with
  | some (.tbl _) => none
  | o => o
theorem unT_of {H : Hp} {b : Addr} {o : HO} (h : unT H b = some o) : H b = some o ∧ ∀ q, o ≠ .tbl q := by
  unfold unT at h
  split at h
  · cases h
  · rename_i n
    refine ⟨h, fun q z => ?_⟩
    subst z
    exact n _ h
theorem unT_is {H : Hp} {b : Addr} {o : HO} (h : H b = some o) (n : ∀ q, o ≠ .tbl q) : unT H b = some o := by
  unfold unT
  split
  · rename_i q e
    rw [h] at e
    cases e
    exact (n q rfl).elim
  · exact h
theorem law_sp {tb : List (Addr × Str)} {H : Hp} {a : Addr} {ns : List Int} {F : Fn} (hT : LamX.Tabs tb H) (hS : SqL K H a (ns.map V.int)) (m : F [.scr (ns.map .int)] [] noX fun d _ => d = .bl true) : SpG K tb F [.ref a] H (fun v _ => v = .bl true) fun _ _ _ => False := by
  refine ⟨[], unT H, [], [.scr (ns.map .int)], noX, _, ⟨rfl, fun b o e => (unT_of e).1, nofun, nofun, nofun, nofun, fun b q e => (unT_of e).2 q rfl, hT⟩, .cons (.scr ?_ (DenL.ints ns)) .nil, m, fun d c al G H' v r l dn e => ?_, thr0⟩
  · rcases hS with (h | ⟨o, h⟩) | h
    · exact .inl (.inl (unT_is h nofun))
    · exact .inl (.inr ⟨o, unT_is h nofun⟩)
    · exact .inr h
  · subst e
    cases dn
    rfl
theorem snd_lcE {tb : List (Addr × Str)} {W : WX} {lv : Bool} {wi : TI} {mi : MI} {g : TG} {mg : MG} {tt : TT} {mt : MT} {te : TE} {me : ME} {vs vs' : List Nat} (e : vs' = vs) (hi : SndI K tb W wi mi) (hg : SndGO K tb (fun _ _ _ _ => False) vs g mg) (ht : SndT K tb (fun _ _ _ _ => False) tt mt) (he : SndE K tb (fun _ _ _ _ => False) te me) : SndE K tb W (tLc wi g tt te vs') (lcM lv mi mg mt me vs) := by subst e; exact snd_lc hi hg ht he
end
end M

set_option Elab.async false
set_option linter.all false
set_option maxRecDepth 100000
set_option maxHeartbeats 3900000
/-! max and min of two texts -/
namespace M
open PySem PySem.Spec PyProof.Rows L2 G
section
variable {prog : Program} {w : World} {A : Around} {E : Value → Shared → Prop} {s : Shared} {x y : Str} {t u : Tok}
def sAt (x y : Str) (i : Nat) : Str := if i = 0 then x else y
theorem sAt_of {i : Nat} {v : Value} (h : (#[Value.str x t, Value.str y u])[i]? = some v) : ∃ k, v = .str (sAt x y i) k := by
  match i with
  | 0 => cases h; exact ⟨_, rfl⟩
  | 1 => cases h; exact ⟨_, rfl⟩
  | i + 2 => simp at h
/-- the pair that max and min lay, its iterator: what was there stays -/
theorem pair_old {h' : Heap} {p q : Obj} (hk : ∀ b o, b ∉ [(s.heap.push p).objs.size] → ((s.heap.push p).push q).get? b = some o → h'.get? b = some o) : ∀ b o, s.heap.get? b = some o → h'.get? b = some o := fun b o e => by
  have lt := Heap.lt_size e
  refine hk b o (fun z => ?_) (Heap.get?_push_of_some _ (Heap.get?_push_of_some _ e))
  have z2 : b = (s.heap.push p).objs.size := by simpa using z
  rw [Heap.size_push] at z2
  rw [z2] at lt
  exact absurd lt (Nat.not_lt.mpr (Nat.le_succ _))
theorem pair_lt {p q : Obj} : ∀ c ∈ [(s.heap.push p).objs.size, s.heap.objs.size], c < ((s.heap.push p).push q).objs.size := fun c hc => by
  have e1 := Heap.size_push s.heap p
  have e2 := Heap.size_push (s.heap.push p) q
  rcases List.mem_cons.mp hc with e | hc
  · rw [e, e2]; exact Nat.lt_succ_self _
  · rcases List.mem_cons.mp hc with e | hc
    · rw [e, e2, e1]; omega
    · cases hc
theorem max_two_strs {Q : Value → Shared → Prop} (hh : A.handled = none) (h : ∀ h' tk, (∀ c o, s.heap.get? c = some o → h'.get? c = some o) → Q (if x.cps.toList < y.cps.toList then .str y u else .str x t) { s with heap := h', toks := tk }) :
    wpAny (model prog w) A (call (.builtin "max") [.str x t, .str y u]) Q E s := by
  have hT : (s.heap.push { cls := .type "tuple", data := .seq #[.str x t, .str y u] }).IsTuple s.heap.objs.size #[.str x t, .str y u] := ⟨_, Heap.get?_push_size _ rfl, rfl, 0, rfl⟩
  have ne : s.heap.objs.size ≠ (s.heap.push { cls := .type "tuple", data := .seq #[.str x t, .str y u] }).objs.size := by rw [Heap.size_push]; omega
  have cmp : CmpOf prog w A.in1 .Gt (fun i v => (#[Value.str x t, Value.str y u])[i]? = some v) (fun i j => decide ((sAt x y j).cps.toList < (sAt x y i).cps.toList)) := fun i j vi vj s Q E hi hj h => by
    obtain ⟨k, rfl⟩ := sAt_of hi
    obtain ⟨k', rfl⟩ := sAt_of hj
    exact PySem.P.gt_str h
  refine call_max_two (wpAny_pyIter_tuple hT ⟨_, [_, s.heap.objs.size], [_], _, _, _, _, rfl, Walks.tuple (A := A.in1) hh _ s.heap.objs.size ne _, ⟨⟨_, Heap.get?_push_size _ rfl, rfl, rfl⟩, hT.push _⟩, pair_lt, by simp, cmp, fun v h' tk hP hk => ?_⟩)
  have e : v = if x.cps.toList < y.cps.toList then .str y u else .str x t := by
    have hP2 : (#[Value.str x t, Value.str y u])[if decide (x.cps.toList < y.cps.toList) = true then 1 else 0]? = some v := hP
    by_cases c : x.cps.toList < y.cps.toList
    · rw [if_pos (decide_eq_true c)] at hP2; rw [if_pos c]; cases hP2; rfl
    · rw [if_neg (by rw [decide_eq_false c]; decide)] at hP2; rw [if_neg c]; cases hP2; rfl
  rw [e]
  exact h h' tk (pair_old hk)
theorem min_two_strs {Q : Value → Shared → Prop} (hh : A.handled = none) (h : ∀ h' tk, (∀ c o, s.heap.get? c = some o → h'.get? c = some o) → Q (if y.cps.toList < x.cps.toList then .str y u else .str x t) { s with heap := h', toks := tk }) :
    wpAny (model prog w) A (call (.builtin "min") [.str x t, .str y u]) Q E s := by
  have hT : (s.heap.push { cls := .type "tuple", data := .seq #[.str x t, .str y u] }).IsTuple s.heap.objs.size #[.str x t, .str y u] := ⟨_, Heap.get?_push_size _ rfl, rfl, 0, rfl⟩
  have ne : s.heap.objs.size ≠ (s.heap.push { cls := .type "tuple", data := .seq #[.str x t, .str y u] }).objs.size := by rw [Heap.size_push]; omega
  have cmp : CmpOf prog w A.in1 .Lt (fun i v => (#[Value.str x t, Value.str y u])[i]? = some v) (fun i j => decide ((sAt x y i).cps.toList < (sAt x y j).cps.toList)) := fun i j vi vj s Q E hi hj h => by
    obtain ⟨k, rfl⟩ := sAt_of hi
    obtain ⟨k', rfl⟩ := sAt_of hj
    exact lt_str h
  refine call_min_two (wpAny_pyIter_tuple hT ⟨_, [_, s.heap.objs.size], [_], _, _, _, _, rfl, Walks.tuple (A := A.in1) hh _ s.heap.objs.size ne _, ⟨⟨_, Heap.get?_push_size _ rfl, rfl, rfl⟩, hT.push _⟩, pair_lt, by simp, cmp, fun v h' tk hP hk => ?_⟩)
  have e : v = if y.cps.toList < x.cps.toList then .str y u else .str x t := by
    have hP2 : (#[Value.str x t, Value.str y u])[if decide (y.cps.toList < x.cps.toList) = true then 1 else 0]? = some v := hP
    by_cases c : y.cps.toList < x.cps.toList
    · rw [if_pos (decide_eq_true c)] at hP2; rw [if_pos c]; cases hP2; rfl
    · rw [if_neg (by rw [decide_eq_false c]; decide)] at hP2; rw [if_neg c]; cases hP2; rfl
  rw [e]
  exact h h' tk (pair_old hk)
end
section
variable {X : Cx} {K : PySem.W.Frag} {tb : List (Addr × Str)}
def rMaxS : List V → Hp → VK → Prop := fun xs H Q => ∃ a b : Str, xs = [.str a, .str b] ∧ Q (.str (if a.cps.toList < b.cps.toList then b else a)) H
def rMinS : List V → Hp → VK → Prop := fun xs H Q => ∃ a b : Str, xs = [.str a, .str b] ∧ Q (.str (if b.cps.toList < a.cps.toList then b else a)) H
theorem call_maxS (hc : X.calm = true) : CallR X (.builtin "max") rMaxS := by
  rintro pins s σ H xs us Q I r ⟨a, b, rfl, q⟩
  obtain ⟨u, w', rfl, ⟨t, rfl⟩, ⟨t', rfl⟩⟩ := vals2 r
  refine max_two_strs (I.ok.hd hc) fun h' tk k => ⟨_, H, I.kept k, ?_, q⟩
  split <;> exact ⟨_, rfl⟩
theorem call_minS (hc : X.calm = true) : CallR X (.builtin "min") rMinS := by
  rintro pins s σ H xs us Q I r ⟨a, b, rfl, q⟩
  obtain ⟨u, w', rfl, ⟨t, rfl⟩, ⟨t', rfl⟩⟩ := vals2 r
  refine min_two_strs (I.ok.hd hc) fun h' tk k => ⟨_, H, I.kept k, ?_, q⟩
  split <;> exact ⟨_, rfl⟩
def maxSD (xs : List D) (c : SH) (Φ : QD) : Prop := twoD xs fun x y => match x, y with
  | .str a, .str b => Φ (.str (if a.cps.toList < b.cps.toList then b else a)) c
  | _, _ => False
def minSD (xs : List D) (c : SH) (Φ : QD) : Prop := twoD xs fun x y => match x, y with
  | .str a, .str b => Φ (.str (if b.cps.toList < a.cps.toList then b else a)) c
  | _, _ => False
theorem dc_maxS : DCall K tb rMaxS maxSD := by
  intro al G c H xs ds Φ Q R hd m q
  obtain ⟨x, y, v, w, rfl, rfl, dx, dy, m2⟩ := twoD_of m hd
  split at m2
  · cases dx; cases dy; exact ⟨_, _, rfl, q _ c al G H _ R .refl (.str _) m2⟩
  · cases m2
theorem dc_minS : DCall K tb rMinS minSD := by
  intro al G c H xs ds Φ Q R hd m q
  obtain ⟨x, y, v, w, rfl, rfl, dx, dy, m2⟩ := twoD_of m hd
  split at m2
  · cases dx; cases dy; exact ⟨_, _, rfl, q _ c al G H _ R .refl (.str _) m2⟩
  · cases m2
end
end M

set_option Elab.async false
set_option linter.all false
set_option maxRecDepth 100000
set_option maxHeartbeats 3900000
/-! going through a mirror: what is to be shown, step by step -/
namespace M
open PySem PySem.Spec PyProof.Rows L2 G
section
variable {δ : Env} {c : SH} {Ψ : XD} {Φ : QD} {ΦT : Bool → SH → Prop} {ΦA : List D → SH → Prop} {ΦO : Option Int → SH → Prop} {N : Env → SH → Prop} {e : EndsD} {a b d3 : ME} {t u : MT} {A : MA} {s1 s2 : MS} {g : MG} {i j np ns : Nat} {d x y : D} {op op' : D → D → SH → QD → Prop} {un : D → SH → QD → Prop} {cb : List D → SH → QD → Prop} {C : Addr} {f m : Str} {F : Fn} {ds as : List D} {mi : MI}
theorem e_fn {b : MS} (hl : as.length = np) (hδ : as.map some ++ List.replicate (ns - as.length) none = δ) (h : b δ c { nx := fun _ c' => clo c Φ .non c', rt := fun d c' => clo c Φ d c', bk := fun _ _ => False, ct := fun _ _ => False, xc := fun C f d _ c' => clo c (fun d c' => Ψ C f d c') d c' }) : fnD np ns b as c Ψ Φ := ⟨hl, hδ ▸ h⟩
theorem e_clo (q : Φ d c) : clo c Φ d c := .inl q
theorem e_cloL {c' : SH} (h : c'.length = c.length) (q : Φ d c') : clo c Φ d c' := .inl q
theorem e_seq (h : s1 δ c { e with nx := fun δ' c' => s2 δ' c' e }) : seqM s1 s2 δ c e := h
theorem e_asg (h : a δ c (e.x δ) fun x c1 => g x δ c1 (e.x δ) e.nx) : asgM a g δ c e := h
theorem e_gname (h : N (δ.set i (some x)) c) : gnameM i x δ c Ψ N := h
theorem e_drop (h : a δ c (e.x δ) fun _ c1 => e.nx δ c1) : dropM a δ c e := h
theorem e_ret (h : a δ c (e.x δ) e.rt) : retM a δ c e := h
theorem e_next (h : e.nx δ c) : nextM δ c e := h
theorem e_ifS (h : t δ c (e.x δ) fun k c1 => if k = true then s1 δ c1 e else s2 δ c1 e) : ifS t s1 s2 δ c e := h
theorem e_par (h : A δ c (e.x δ) fun xs c1 => twoD xs fun x y => e.nx ((δ.set i (some x)).set j (some y)) c1) : parM i j A δ c e := h
theorem e_raise (h : A δ c (e.x δ) fun xs c1 => oneD xs fun x => e.xc C f x δ c1) : raiseM C f A δ c e := h
theorem e_for (h : mi δ c (e.x δ) fun xs gd c1 => forD gd g s1 xs δ c1 e) : forM mi g s1 δ c e := h
theorem e_var (h : δ[i]? = some (some d)) (q : Φ d c) : varM i δ c Ψ Φ := by unfold varM; rw [h]; exact q
theorem e_c (q : Φ d c) : cM d δ c Ψ Φ := q
theorem e_op (h : a δ c Ψ fun x c1 => b δ c1 Ψ fun y c2 => op x y c2 Φ) : opM op a b δ c Ψ Φ := h
theorem e_un (h : a δ c Ψ fun x c1 => un x c1 Φ) : unM un a δ c Ψ Φ := h
theorem e_test (h : a δ c Ψ fun x c1 => blD x c1 ΦT) : testM a δ c Ψ ΦT := h
theorem e_bl {k : Bool} (h : ΦT k c) : blD (.bl k) c ΦT := h
theorem e_andT (h : t δ c Ψ fun k c1 => if k = true then u δ c1 Ψ ΦT else ΦT false c1) : andT t u δ c Ψ ΦT := h
theorem e_orT (h : t δ c Ψ fun k c1 => if k = true then ΦT true c1 else u δ c1 Ψ ΦT) : orT t u δ c Ψ ΦT := h
theorem e_notT (h : t δ c Ψ fun k c1 => ΦT (!k) c1) : notT t δ c Ψ ΦT := h
theorem e_andM (h : a δ c Ψ fun x c1 => blD x c1 fun k c1 => if k = true then b δ c1 Ψ Φ else Φ (.bl false) c1) : andM a b δ c Ψ Φ := h
theorem e_orM (h : a δ c Ψ fun x c1 => blD x c1 fun k c1 => if k = true then Φ (.bl true) c1 else b δ c1 Ψ Φ) : orM a b δ c Ψ Φ := h
theorem e_notM (h : a δ c Ψ fun x c1 => blD x c1 fun k c1 => Φ (.bl (!k)) c1) : notM a δ c Ψ Φ := h
theorem e_ifM (h : t δ c Ψ fun k c1 => if k = true then a δ c1 Ψ Φ else b δ c1 Ψ Φ) : ifM t a b δ c Ψ Φ := h
theorem e_chain (h : a δ c Ψ fun x c1 => b δ c1 Ψ fun y c2 => op x y c2 fun z c3 => blD z c3 fun k c3 => if k = true then d3 δ c3 Ψ fun w c4 => op' y w c4 Φ else Φ (.bl false) c3) : chainM op op' a b d3 δ c Ψ Φ := h
theorem e_nil (h : ΦA [] c) : nilM δ c Ψ ΦA := h
theorem e_cons (h : a δ c Ψ fun x c1 => A δ c1 Ψ fun xs c2 => ΦA (x :: xs) c2) : consM a A δ c Ψ ΦA := h
theorem e_lst (h : A δ c Ψ fun xs c1 => xs.length ≤ sizeLine ∧ Φ (.lst xs) c1) : lstM false A δ c Ψ Φ := by
  have : newL false = fun xs c Φ => xs.length ≤ sizeLine ∧ Φ (.lst xs) c := by
    funext xs c Φ; unfold newL; rw [if_neg (by decide)]
  show A δ c Ψ fun xs c1 => newL false xs c1 Φ
  rw [this]; exact h
theorem e_lstO (h : A δ c Ψ fun xs c1 => xs.length ≤ sizeLine ∧ Φ (.obj c1.length) (c1 ++ [.lst xs])) : lstM true A δ c Ψ Φ := by
  have : newL true = fun xs c Φ => xs.length ≤ sizeLine ∧ Φ (.obj c.length) (c ++ [.lst xs]) := by
    funext xs c Φ; unfold newL; rw [if_pos rfl]
  show A δ c Ψ fun xs c1 => newL true xs c1 Φ
  rw [this]; exact h
theorem e_tup (h : A δ c Ψ fun xs c1 => xs.length ≤ sizeLine ∧ Φ (.tup xs) c1) : tupM A δ c Ψ Φ := h
theorem e_cb (h : A δ c Ψ fun xs c1 => cb xs c1 Φ) : cbM cb A δ c Ψ Φ := h
theorem e_call (h : A δ c Ψ fun xs c1 => F (xs ++ ds) c1 Ψ Φ) : callM F ds A δ c Ψ Φ := h
theorem e_meth (h : a δ c Ψ fun x c1 => insD C m x c1 (A δ c1 Ψ fun xs c2 => F (x :: (xs ++ ds)) c2 Ψ Φ)) : methM C m F ds a A δ c Ψ Φ := h
theorem e_prop (h : a δ c Ψ fun x c1 => (match view c1 x with
  | .ins C' _ => C' = C
  | _ => False) ∧ F [x] c1 noX Φ) : propM C F a δ c Ψ Φ := h
theorem e_make (h : A δ c Ψ fun xs c1 => makeD false C F (xs ++ ds) c1 Ψ Φ) : makeM false C F ds A δ c Ψ Φ := h
theorem e_fld (h : a δ c Ψ fun x c1 => fldD C f x c1 Φ) : fldM C f a δ c Ψ Φ := h
theorem e_sfld (h : b δ c (e.x δ) fun y c1 => a δ c1 (e.x δ) fun x c2 => putD C f x y c2 fun c3 => e.nx δ c3) : sfldM C f a b δ c e := h
theorem e_noPart (h : ΦO none c) : noPartM δ c Ψ ΦO := h
theorem e_part (h : a δ c Ψ fun x c1 => intD x c1 fun i c1 => ΦO (some i) c1) : partM a δ c Ψ ΦO := h
theorem e_int {k : Int} {ΦI : Int → SH → Prop} (h : ΦI k c) : intD (.int k) c ΦI := h
theorem e_sl {lo hi : MO} {so : D → Option Int → Option Int → SH → QD → Prop} (h : a δ c Ψ fun x c1 => lo δ c1 Ψ fun l c2 => hi δ c2 Ψ fun u c3 => so x l u c3 Φ) : slM so a lo hi δ c Ψ Φ := h
theorem e_bm {T : String} {mo : D → List D → SH → QD → Prop} (h : a δ c Ψ fun x c1 => tyM T (view c1 x) ∧ A δ c1 Ψ fun xs c2 => mo x xs c2 Φ) : bmM T mo a A δ c Ψ Φ := h
theorem e_bm0 {T : String} {mo : D → List D → SH → QD → Prop} (h : a δ c Ψ fun x c1 => tyM T (view c1 x) ∧ mo x [] c1 Φ) : bm0M T mo a δ c Ψ Φ := h
theorem e_m1 {mo : D → List D → SH → QD → Prop} (h : a δ c Ψ fun x c1 => tyM "str" x ∧ b δ c1 Ψ fun y c2 => mo x [y] c2 Φ) : m1M mo a b δ c Ψ Φ := h
theorem e_it {ΦI : List D → (SH → Prop) → SH → Prop} (h : a δ c Ψ fun x c1 => match itemsD (view c1 x) with
  | some xs => ΦI xs (fun c' => view c' x = view c1 x) c1
  | none => False) : itM a δ c Ψ ΦI := h
theorem e_rng1 {ΦI : List D → (SH → Prop) → SH → Prop} (h : A δ c Ψ fun xs c1 => oneD xs fun x => intD x c1 fun j c1 => (-(2 ^ 62) ≤ j ∧ j < 2 ^ 62) ∧ ΦI (rngD 0 j.toNat) (fun _ => True) c1) : rng1M A δ c Ψ ΦI := h
theorem e_lc {lv : Bool} {vs : List Nat} (h : mi δ c Ψ fun xs gd c1 => lcD gd (turnD g t a (wipeD δ vs)) xs [] c1 (endL lv Φ)) : lcM lv mi g t a vs δ c Ψ Φ := h
theorem e_caught {K : PySem.W.Frag} {hs : Hds} (h : A δ c Ψ fun xs c1 => oneD xs fun x => a (δ ++ [some x]) c1 (fun C f d c' => dealD K hs C f d c' Φ) fun d c' => Φ (.lst [.str (Str.ofString "told"), d]) c') : caughtM K hs a A δ c Ψ Φ := h
theorem e_two {k : D → D → Prop} (h : k x y) : twoD [x, y] k := h
theorem e_one {k : D → Prop} (h : k x) : oneD [x] k := h
theorem e_ifT {p q : Prop} (h : p) : (if true = true then p else q) := by rw [if_pos rfl]; exact h
theorem e_ifF {p q : Prop} (h : q) : (if false = true then p else q) := by rw [if_neg (by decide)]; exact h
theorem e_if {p q : Prop} {k : Bool} (h1 : k = true → p) (h2 : k = false → q) : (if k = true then p else q) := by cases k; exact e_ifF (h2 rfl); exact e_ifT (h1 rfl)
theorem e_l {o1 o2 : D → D → SH → QD → Prop} (h : o1 x y c Φ) : orD o1 o2 x y c Φ := .inl h
theorem e_r {o1 o2 : D → D → SH → QD → Prop} (h : o2 x y c Φ) : orD o1 o2 x y c Φ := .inr h
theorem e_cl {o1 o2 : List D → SH → QD → Prop} {xs : List D} (h : o1 xs c Φ) : orC o1 o2 xs c Φ := .inl h
theorem e_cr {o1 o2 : List D → SH → QD → Prop} {xs : List D} (h : o2 xs c Φ) : orC o1 o2 xs c Φ := .inr h
end
/-! ### loops -/
theorem for_inv {gd : SH → Prop} {g : MG} {b : MS} {e : EndsD} (P : Env → SH → Prop) : ∀ (xs : List D),
    (∀ x ∈ xs, ∀ (δ : Env) (c : SH) (e' : EndsD), P δ c → (∀ δ c, P δ c → e'.nx δ c) → (∀ δ c, P δ c → e'.ct δ c) → e'.rt = e.rt → e'.xc = e.xc → e'.bk = e.nx → gd c ∧ g x δ c (e.x δ) fun δ1 c1 => b δ1 c1 e') → (∀ δ c, P δ c → gd c ∧ e.nx δ c) → ∀ δ c, P δ c → forD gd g b xs δ c e
  | [], _, fin, δ, c, h => fin δ c h
  | x :: xs, step, fin, δ, c, h => by
    have go := for_inv P xs (fun y hy => step y (List.mem_cons_of_mem _ hy)) fin
    exact step x List.mem_cons_self δ c _ h (fun δ c h => go δ c h) (fun δ c h => go δ c h) rfl rfl rfl
theorem lc_map {α : Type} {gd : SH → Prop} {turn : D → SH → (Option D → SH → Prop) → Prop} {Φ : List D → SH → Prop} {c : SH} (F : α → D) (f : α → Option D) (hg : gd c) : ∀ (ys : List α) (acc : List D), acc.length + ys.length < sizeLine → (∀ y ∈ ys, ∀ k, k (f y) c → turn (F y) c k) → Φ (acc ++ ys.filterMap f) c → lcD gd turn (ys.map F) acc c Φ
  | [], acc, _, _, q => ⟨hg, by simpa using q⟩
  | y :: ys, acc, hl, step, q => by
    refine ⟨hg, step y List.mem_cons_self _ ⟨by simp at hl; omega, lc_map F f hg ys _ ?_ (fun z hz => step z (List.mem_cons_of_mem _ hz)) ?_⟩⟩
    · simp at hl ⊢
      cases f y <;> simp <;> omega
    · rw [List.append_assoc]
      have e : (f y).toList ++ ys.filterMap f = (y :: ys).filterMap f := by
        cases h : f y <;> simp [List.filterMap_cons, h]
      rw [e]
      exact q
theorem lc_inv {gd : SH → Prop} {turn : D → SH → (Option D → SH → Prop) → Prop} {Φ : List D → SH → Prop} (I : List D → List D → SH → Prop) (hI : ∀ xs acc c, I xs acc c → gd c) (step : ∀ x xs acc c, I (x :: xs) acc c → ∀ k : Option D → SH → Prop, (∀ o c1, I xs (acc ++ o.toList) c1 → k o c1) → acc.length < sizeLine ∧ turn x c k) (fin : ∀ acc c, I [] acc c → Φ acc c) : ∀ xs acc c, I xs acc c → lcD gd turn xs acc c Φ
  | [], acc, c, h => ⟨hI _ _ _ h, fin acc c h⟩
  | x :: xs, acc, c, h => by
    have s := step x xs acc c h (fun o c1 => acc.length < sizeLine ∧ lcD gd turn xs (acc ++ o.toList) c1 Φ)
    have l := (step x xs acc c h (fun _ _ => True) fun _ _ _ => trivial).1
    exact ⟨hI _ _ _ h, (s fun o c1 h1 => ⟨l, lc_inv I hI step fin xs _ c1 h1⟩).2⟩
end M

set_option Elab.async false
set_option linter.all false
set_option maxRecDepth 100000
set_option maxHeartbeats 3900000
namespace M
open PySem PySem.Spec PyProof.Rows L2 G
/-! ### ends of defs -/
section
variable {c : SH} {Φ : QD} {d : D} {o : SO}
theorem okc_app {xs : SH} : okc c ((c ++ xs).take c.length) := fun i o h => by
  rw [List.take_left] at h
  exact .inl h
theorem clo_ins {C : Addr} {fs : List (Str × D)} (hn : nb c.length (.ins C fs) = true) (q : Φ (.ins C fs) c) : clo c Φ (.obj c.length) (c ++ [.ins C fs]) := by
  have e : out1 c.length (c ++ [SO.ins C fs]) (.obj c.length) = .ins C fs := by
    unfold out1
    dsimp only
    rw [if_neg (Nat.lt_irrefl _), List.getElem?_append_right (Nat.le_refl _), Nat.sub_self]
    rfl
  refine .inr ⟨okc_app, by rw [e]; exact hn, ?_⟩
  rw [e, List.take_left]
  exact q
def D.isObj : D → Bool
  | .obj _ => true
  | _ => false
theorem out1_same {n : Nat} {c' : SH} (h : nb n d = true) : out1 n c' d = d := by
  unfold out1
  split
  · rename_i k
    have : k < n := by simpa [nb] using h
    rw [if_pos this]
  · rfl
/-- something older is thrown or given back -/
theorem clo_old {xs : SH} (hn : nb c.length d = true) (q : Φ d c) : clo c Φ d (c ++ xs) := by
  refine .inr ⟨okc_app, by rw [out1_same hn]; exact hn, ?_⟩
  rw [out1_same hn, List.take_left]
  exact q
end
theorem e_ifNT {p q : Prop} (h : q) : (if (!true) = true then p else q) := by rw [if_neg (by decide)]; exact h
theorem e_ifNF {p q : Prop} (h : p) : (if (!false) = true then p else q) := by rw [if_pos (by decide)]; exact h
theorem e_ifN {p q : Prop} {k : Bool} (h1 : k = true → q) (h2 : k = false → p) : (if (!k) = true then p else q) := by cases k; exact e_ifNF (h2 rfl); exact e_ifNT (h1 rfl)
/-! ### data, tested -/
section
variable {K : PySem.W.Frag} {c : SH} {Φ : QD} {x : D} {C : Addr}
/-- isinstance(x, T) is known -/
def Isi (K : PySem.W.Frag) (c : SH) (x : D) (u : Value) (b : Bool) : Prop := ∀ k : Bool → Prop, k b → isi1 K (view c x) u k
theorem isi_ty {n m : String} {b : Bool} (h : tyD (view c x) = some n) (hk : PySem.W.kitOne K (.type n) (.type m) = some b) : Isi K c x (.type m) b := fun k q => by
  unfold isi1
  split
  · rename_i e; rw [e] at h; cases h
  · rw [h]; exact ⟨b, hk, q⟩
theorem isi_tyC {n : String} {b : Bool} (h : tyD (view c x) = some n) (hk : PySem.W.kitOne K (.type n) (.ref C) = some b) : Isi K c x (.ref C) b := fun k q => by
  unfold isi1
  split
  · rename_i e; rw [e] at h; cases h
  · rw [h]; exact ⟨b, hk, q⟩
theorem isi_ins {fs : List (Str × D)} {u : Value} {b : Bool} (h : view c x = .ins C fs) (i : InsK K C) (hk : PySem.W.kitOne K (.ref C) u = some b) : Isi K c x u b := fun k q => by
  rw [h]
  exact ⟨i, b, hk, q⟩
theorem e_isi {n : String} {b : Bool} (h : Isi K c x (.type n) b) (q : Φ (.bl b) c) : isiD K [x, .ty n] c Φ := h _ q
theorem e_isiC {b : Bool} (h : Isi K c x (.ref C) b) (q : Φ (.bl b) c) : isiD K [x, .adr C] c Φ := h _ q
theorem e_sc {y : D} {b : Bool} (h : scD x y = some b) (q : Φ (.bl b) c) : eqD x y c Φ := by
  unfold eqD eqB; rw [h]; exact q
theorem e_scN {y : D} {b : Bool} (h : scD x y = some b) (q : Φ (.bl (!b)) c) : neD x y c Φ := by
  unfold neD eqB; rw [h]; exact q
theorem e_py {y : D} {p p' : PyData} (h : scD x y = none) (h1 : pyC c x = some p) (h2 : pyC c y = some p') (s1 : SeqAt.shaped p = true) (s2 : SeqAt.shaped p' = true) (q : Φ (.bl (PyData.eqv p p')) c) : eqD x y c Φ := by
  unfold eqD eqB; rw [h, h1, h2]; exact ⟨⟨s1, s2⟩, q⟩
theorem e_pyN {y : D} {p p' : PyData} (h : scD x y = none) (h1 : pyC c x = some p) (h2 : pyC c y = some p') (s1 : SeqAt.shaped p = true) (s2 : SeqAt.shaped p' = true) (q : Φ (.bl (!PyData.eqv p p')) c) : neD x y c Φ := by
  unfold neD eqB; rw [h, h1, h2]; exact ⟨⟨s1, s2⟩, q⟩
theorem e_leI {a b : Int} (q : Φ (.bl (decide (a ≤ b))) c) : leD (.int a) (.int b) c Φ := q
theorem e_ltI {a b : Int} (q : Φ (.bl (decide (a < b))) c) : ltD (.int a) (.int b) c Φ := q
theorem e_gtI {a b : Int} (q : Φ (.bl (decide (b < a))) c) : gtD (.int a) (.int b) c Φ := q
theorem e_geI {a b : Int} (q : Φ (.bl (decide (b ≤ a))) c) : geD (.int a) (.int b) c Φ := q
theorem e_ltS {a b : Str} (q : Φ (.bl (decide (a.cps.toList < b.cps.toList))) c) : ltD (.str a) (.str b) c Φ := q
theorem e_eqI {a b : Int} (q : Φ (.bl (decide (a = b))) c) : eqD (.int a) (.int b) c Φ := q
theorem e_eqS {a b : Str} (q : Φ (.bl (decide (a = b))) c) : eqD (.str a) (.str b) c Φ := q
theorem e_neI {a b : Int} (q : Φ (.bl (!decide (a = b))) c) : neD (.int a) (.int b) c Φ := q
theorem e_neS {a b : Str} (q : Φ (.bl (!decide (a = b))) c) : neD (.str a) (.str b) c Φ := q
theorem e_neB {a b : Bool} (q : Φ (.bl (!decide (a = b))) c) : neD (.bl a) (.bl b) c Φ := q
theorem e_isB {a b : Bool} (q : Φ (.bl (decide (a = b))) c) : isD (.bl a) (.bl b) c Φ := q
theorem e_isntB {a b : Bool} (q : Φ (.bl (!decide (a = b))) c) : isntD (.bl a) (.bl b) c Φ := q
theorem e_addI {lv : Bool} {a b : Int} (q : Φ (.int (a + b)) c) : addD lv (.int a) (.int b) c Φ := q
theorem e_addS {lv : Bool} {a b : Str} (h : a.length + b.length ≤ sizeLine) (q : Φ (.str (a ++ b)) c) : addD lv (.str a) (.str b) c Φ := ⟨h, q⟩
theorem e_addL {a b : List D} (h : a.length + b.length ≤ sizeLine) (q : Φ (.lst (a ++ b)) c) : addD false (.lst a) (.lst b) c Φ := ⟨by rw [List.length_append]; exact h, e_ifF q⟩
theorem e_subI {a b : Int} (q : Φ (.int (a - b)) c) : subD (.int a) (.int b) c Φ := q
theorem e_mulI {lv : Bool} {a b : Int} (h : CMul a b) (q : Φ (.int (a * b)) c) : mulD lv (.int a) (.int b) c Φ := ⟨h, q⟩
theorem e_mulS {lv : Bool} {z : Str} {n : Int} (h : 0 ≤ n ∧ n ≤ 100000 ∧ z.length * n.toNat ≤ 1000000) (q : Φ (.str (Txt.mul z n)) c) : mulD lv (.str z) (.int n) c Φ := ⟨h, q⟩
theorem e_modI {a b : Int} (h : b ≠ 0) (q : Φ (.int (a.fmod b)) c) : modD (.int a) (.int b) c Φ := ⟨h, q⟩
theorem e_int1 {a : Int} (q : Φ (.int a) c) : int1D [.int a] c Φ := q
theorem e_max2 {a b : Int} (q : Φ (.int (if b > a then b else a)) c) : max2D [.int a, .int b] c Φ := q
theorem e_min2 {a b : Int} (q : Φ (.int (if b < a then b else a)) c) : min2D [.int a, .int b] c Φ := q
theorem e_lenL {xs : List D} (q : Φ (.int xs.length) c) : lenD [.lst xs] c Φ := q
theorem e_lenT {xs : List D} (q : Φ (.int xs.length) c) : lenD [.tup xs] c Φ := q
theorem e_lenR {xs : List D} (q : Φ (.int xs.length) c) : lenD [.scr xs] c Φ := q
def jsK (ms : List ME) (acc : Str) (δ : Env) (Ψ : XD) (ΦS : Str → SH → Prop) (x : D) (c1 : SH) : Prop := match x with
  | .str y => (acc ++ y).length ≤ sizeLine ∧ jsD ms (acc ++ y) δ c1 Ψ ΦS
  | _ => False
def fmtK (Φ : QD) (x : D) (c1 : SH) : Prop := match x with
  | .str y => y.length ≤ sizeLine ∧ Φ (.str y) c1
  | .int i => i.natAbs.log2 < 1920 ∧ Φ (.str (toString i)) c1
  | _ => False
theorem e_js {ms : List ME} {δ : Env} {Ψ : XD} (h : jsD ms Str.empty δ c Ψ fun out c1 => Φ (.str out) c1) : jsM ms δ c Ψ Φ := h
theorem e_jsc {m : ME} {ms : List ME} {acc : Str} {δ : Env} {Ψ : XD} {ΦS : Str → SH → Prop} (h : m δ c Ψ (jsK ms acc δ Ψ ΦS)) : jsD (m :: ms) acc δ c Ψ ΦS := h
theorem e_jsn {acc : Str} {δ : Env} {Ψ : XD} {ΦS : Str → SH → Prop} (h : ΦS acc c) : jsD [] acc δ c Ψ ΦS := h
theorem e_jsk {ms : List ME} {acc y : Str} {δ : Env} {Ψ : XD} {ΦS : Str → SH → Prop} (h : (acc ++ y).length ≤ sizeLine) (q : jsD ms (acc ++ y) δ c Ψ ΦS) : jsK ms acc δ Ψ ΦS (.str y) c := ⟨h, q⟩
theorem e_fmt {a : ME} {δ : Env} {Ψ : XD} (h : a δ c Ψ (fmtK Φ)) : fmtM a δ c Ψ Φ := h
theorem e_fmtS {y : Str} (h : y.length ≤ sizeLine) (q : Φ (.str y) c) : fmtK Φ (.str y) c := ⟨h, q⟩
theorem e_yes {δ : Env} {Ψ : XD} {ΦT : Bool → SH → Prop} (h : ΦT true c) : yesM δ c Ψ ΦT := h
theorem e_turn {g : MG} {t : MT} {a : ME} {δ : Env} {k : Option D → SH → Prop} (h : g x δ c noX fun δ2 c2 => t δ2 c2 noX fun b c3 => if b = true then a δ2 c3 noX fun y c4 => k (some y) c4 else k none c3) : turnD g t a δ x c k := h
theorem lenStr {z : Str} (h : z.length ≤ sizeLine) (q : Φ (.int z.length) c) : lenD [.str z] c Φ := by
  first | exact ⟨h, q⟩ | exact q
end
end M

set_option Elab.async false
set_option linter.all false
set_option maxRecDepth 100000
set_option maxHeartbeats 3900000
/-! == of lists whose items are compared by a def: both answers -/
namespace M
open PySem PySem.Spec PyProof.Rows L2 G
section
variable {prog : Program} {w : World} {A : Around} {R : Result → Shared → Prop}
/-- two lists of N items at a state -/
def TwoL (l b : Addr) (N : Nat) (s : Shared) (it it2 : Array Value) : Prop := ∃ n n2, s.heap.get? l = some { cls := .type "list", data := .seq it n } ∧ s.heap.get? b = some { cls := .type "list", data := .seq it2 n2 } ∧ it.size = N ∧ it2.size = N
theorem eq_turns (l b : Addr) (N : Nat) (I : Nat → Shared → Prop) (turn : ∀ i s, I i s → ∃ it it2, TwoL l b N s it it2 ∧ ∀ (h1 : i < it.size) (h2 : i < it2.size), wpAny (model prog w) A.in1 (eqBool it[i] it2[i]) (fun r s' => if r = true then I (i + 1) s' else (∃ it it2, TwoL l b N s' it it2) ∧ R (.ok (.ret (.bool false))) s') (fun e s' => R (.error e) s') s)
    (fin : ∀ s, I N s → R (.ok (.ret (.bool true))) s) (k : Nat) : ∀ i : Nat, N - i = k → i ≤ N → ∀ s, I i s →
      wpAny (model prog w) A.in1 (Builtin.«list.__eq__.loop» ⟨[.ref l, .ref b, rawInt i, rawInt 2], []⟩) (GQ.FinOf prog w A R) (fun e s' => R (.error e) s') s := by
  induction k with
  | zero =>
    intro i e1 e2 s h
    obtain ⟨it, it2, ⟨n, n2, g1, g2, z1, z2⟩, _⟩ := turn _ _ h
    obtain rfl : i = N := by omega
    have done := fin s h
    obtain ⟨hp, g, d, tk, os⟩ := s
    wp_walk using wpAny_loadPart' g1, wpAny_loadPart' g2
    have o1 : it[((i : Nat) : Int).toNat]? = none := by simp; omega
    have o2 : it2[((i : Nat) : Int).toNat]? = none := by simp; omega
    rw [o1, o2]
    wp_walk using wpAny_loadPart' g1, wpAny_loadPart' g2
    show R (.ok (.ret (.bool (it.size == it2.size)))) _
    rw [z1, z2]
    simpa using done
  | succ k ih =>
    intro i e1 e2 s h
    obtain ⟨it, it2, ⟨n, n2, g1, g2, z1, z2⟩, go⟩ := turn _ _ h
    have l1 : i < it.size := by omega
    have l2 : i < it2.size := by omega
    have step := go l1 l2
    obtain ⟨hp, g, d, tk, os⟩ := s
    wp_walk using wpAny_loadPart' g1, wpAny_loadPart' g2
    have o1 : it[((i : Nat) : Int).toNat]? = some it[i] := by simp [l1]
    have o2 : it2[((i : Nat) : Int).toNat]? = some it2[i] := by simp [l2]
    have ec : ((i : Int) + 1) = ((i + 1 : Nat) : Int) := by omega
    rw [o1, o2]
    refine wpAny_bind (wpAny_mono step (fun r s2 h2 => ?_) fun _ _ z => z)
    cases r with
    | true =>
      rw [if_pos rfl] at h2
      have again := ih (i + 1) (by omega) (by omega) s2 h2
      obtain ⟨hp2, g2', d2, tk2, os2⟩ := s2
      wp_walk
      rw [ec]
      exact ⟨plainId_quiet MeetsSeq3.plain_eq_loop _, codeAny_builtin MeetsSeq3.entry_eq_loop (by
        rw [Around.under_plainId MeetsSeq3.plain_eq_loop _]
        exact again)⟩
    | false =>
      rw [if_neg (by decide)] at h2
      obtain ⟨⟨jt, jt2, m, m2, f1, f2, y1, y2⟩, r2⟩ := h2
      have p1 : i < jt.size := by omega
      have p2 : i < jt2.size := by omega
      have q1 : jt[((i : Nat) : Int).toNat]? = some jt[i] := by simp [p1]
      have q2 : jt2[((i : Nat) : Int).toNat]? = some jt2[i] := by simp [p2]
      obtain ⟨hp2, g2', d2, tk2, os2⟩ := s2
      wp_walk using wpAny_loadPart' f1, wpAny_loadPart' f2
      rw [q1, q2]
      wp_walk
      exact r2
theorem rc_lists {l b : Addr} {E : Value → Shared → Prop} {s : Shared} {Q : Value → Shared → Prop} (hu : A.units < cLine) {it it2 : Array Value} {n n2 : Nat} (g1 : s.heap.get? l = some { cls := .type "list", data := .seq it n }) (g2 : s.heap.get? b = some { cls := .type "list", data := .seq it2 n2 })
    (off : it.size ≠ it2.size → Q (.bool false) s) (on : it.size = it2.size → ∃ I : Nat → Shared → Prop, I 0 s ∧ (∀ s, I it.size s → Q (.bool true) s) ∧ ∀ i s, I i s → ∃ jt jt2, TwoL l b it.size s jt jt2 ∧ ∀ (h1 : i < jt.size) (h2 : i < jt2.size), wpAny (model prog w) A.in1 (eqBool jt[i] jt2[i]) (fun r s' => if r = true then I (i + 1) s' else (∃ jt jt2, TwoL l b it.size s' jt jt2) ∧ Q (.bool false) s') E s) :
    wpAny (model prog w) A (richCompare .Eq (.ref l) (.ref b)) Q E s := by
  refine wpAny_richCompare_same_room (op := .Eq) ⟨_, g1, rfl⟩ ⟨_, g2, rfl⟩ PySem.F.slot_list_eq (GQ.call_here PySem.F.slot_list_eq ⟨_, g1, rfl⟩ PySem.F.entry_list_eq (PySem.F.args_list_eq_2 _ _) ?_) hu
  by_cases e : it.size = it2.size
  · obtain ⟨I, h0, fin, turn⟩ := on e
    have again := eq_turns (prog := prog) (w := w) (A := A) (R := wants (fun v s' => v ≠ .notImplemented ∧ Q v s') E) l b it.size I (fun i s hi => ?_) (fun s h => ⟨nofun, fin s h⟩) _ 0 rfl (Nat.zero_le _) s h0
    · obtain ⟨hp, g, d, tk, os⟩ := s
      have f3 := AutoSeq1.sub_list_list
      have hne : ¬ (it.size != it2.size) = true := by simp [e]
      wp_walk using wpAny_loadPart' g1, wpAny_loadPart' g2
      exact ⟨plainId_quiet MeetsSeq3.plain_eq_loop _, codeAny_builtin MeetsSeq3.entry_eq_loop (by
        rw [Around.under_plainId MeetsSeq3.plain_eq_loop _]
        exact again)⟩
    · obtain ⟨jt, jt2, h2, go⟩ := turn i s hi
      refine ⟨jt, jt2, h2, fun h3 h4 => wpAny_mono (go h3 h4) (fun r s' z => ?_) fun e s' z => z⟩
      cases r with
      | true => rw [if_pos rfl] at z ⊢; exact z
      | false => rw [if_neg (by decide)] at z ⊢; exact ⟨z.1, nofun, z.2⟩
  · obtain ⟨hp, g, d, tk, os⟩ := s
    have f3 := AutoSeq1.sub_list_list
    have hne : (it.size != it2.size) = true := by simp [e]
    wp_walk using wpAny_loadPart' g1, wpAny_loadPart' g2
    exact ⟨nofun, off e⟩
end
end M

set_option Elab.async false
set_option linter.all false
set_option maxRecDepth 100000
set_option maxHeartbeats 3900000
namespace M
open PySem PySem.Spec PyProof.Rows L2 G
/-! data that a value tells of itself -/
mutual
def pureD : D → Bool
  | .non => true
  | .bl _ => true
  | .int _ => true
  | .str _ => true
  | .lst xs => pureL xs
  | .tup xs => pureL xs
  | .ins _ fs => pureF fs
  | _ => false
def pureL : List D → Bool
  | [] => true
  | x :: xs => pureD x && pureL xs
def pureF : List (Str × D) → Bool
  | [] => true
  | (_, x) :: xs => pureD x && pureF xs
end
section
variable {K : PySem.W.Frag} {al : List Addr} {G : Hp}
mutual
theorem den_fun : ∀ {v : V} {x y : D}, Den K al G v x → Den K al G v y → pureD x = true → pureD y = true → x = y
  | _, _, y, .non, h, _, p => by cases h; rfl
  | _, _, y, .bl b, h, _, p => by cases h; rfl
  | _, _, y, .int i, h, _, p => by cases h; rfl
  | _, _, y, .str z, h, _, p => by cases h; rfl
  | _, _, y, .ty n, h, q, p => by simp [pureD] at q
  | _, _, y, .adr a, h, q, p => by simp [pureD] at q
  | _, _, y, .scr h r, h', q, p => by simp [pureD] at q
  | _, _, y, .exc h r, h', q, p => by simp [pureD] at q
  | _, _, y, .dic h r, h', q, p => by simp [pureD] at q
  | _, _, y, .obj h, h', q, p => by simp [pureD] at q
  | _, _, y, .lst h r, h', q, p => by
    simp only [pureD] at q
    cases h' with
    | lst h2 r2 =>
      rw [h] at h2
      cases h2
      simp only [pureD] at p
      rw [den_funL r r2 q p]
    | tup h2 r2 => rw [h] at h2; cases h2
    | ins h2 r2 => rw [h] at h2; cases h2
    | _ => simp [pureD] at p
  | _, _, y, .tup h r, h', q, p => by
    simp only [pureD] at q
    cases h' with
    | tup h2 r2 =>
      rw [h] at h2
      cases h2
      simp only [pureD] at p
      rw [den_funL r r2 q p]
    | lst h2 r2 => rw [h] at h2; cases h2
    | ins h2 r2 => rw [h] at h2; cases h2
    | _ => simp [pureD] at p
  | _, _, y, .ins h r, h', q, p => by
    simp only [pureD] at q
    cases h' with
    | ins h2 r2 =>
      rw [h] at h2
      cases h2
      simp only [pureD] at p
      rw [den_funF r r2 q p]
    | lst h2 r2 => rw [h] at h2; cases h2
    | tup h2 r2 => rw [h] at h2; cases h2
    | _ => simp [pureD] at p
theorem den_funL : ∀ {v : List V} {x y : List D}, DenL K al G v x → DenL K al G v y → pureL x = true → pureL y = true → x = y
  | _, _, _, .nil, h, _, _ => by cases h; rfl
  | _, _, _, .cons h r, h', q, p => by
    cases h' with
    | cons h2 r2 =>
      simp only [pureL, Bool.and_eq_true] at q p
      rw [den_fun h h2 q.1 p.1, den_funL r r2 q.2 p.2]
theorem den_funF : ∀ {v : List (Str × V)} {x y : List (Str × D)}, DenF K al G v x → DenF K al G v y → pureF x = true → pureF y = true → x = y
  | _, _, _, .nil, h, _, _ => by cases h; rfl
  | _, _, _, .cons h r, h', q, p => by
    cases h' with
    | cons h2 r2 =>
      simp only [pureF, Bool.and_eq_true] at q p
      rw [den_fun h h2 q.1 p.1, den_funF r r2 q.2 p.2]
end
end
end M

set_option Elab.async false
set_option linter.all false
set_option maxRecDepth 100000
set_option maxHeartbeats 3900000
namespace M
open PySem PySem.Spec PyProof.Rows L2 G
/-! ### == of lists whose items are instances with a == of their own -/
def insC (C : Addr) : D → Bool
  | .ins C' _ => decide (C' = C)
  | _ => false
def itemX (C : Addr) (F : Fn) (x y : D) (c : SH) (k : Bool → Prop) : Prop := (pureD x = true ∧ pureD y = true ∧ insC C x = true ∧ insC C y = true) ∧ (x = y → k true) ∧ F [x, y] c noX fun v c' => c' = c ∧ ∃ b, v = .bl b ∧ k b
def eqLs (C : Addr) (F : Fn) : List D → List D → SH → (Bool → Prop) → Prop
  | [], [], _, k => k true
  | x :: xs, y :: ys, c, k => itemX C F x y c fun b => if b = true then eqLs C F xs ys c k else k false
  | _, _, _, _ => False
def rLX (K : PySem.W.Frag) (tb : List (Addr × Str)) (C : Addr) (F : Fn) : R2 := fun x y H Q => ∃ al G c dx dy xs ys Φ, Rep K tb al G c H ∧ Den K al G x dx ∧ Den K al G y dy ∧ view c dx = .lst xs ∧ view c dy = .lst ys ∧ (xs.length ≠ ys.length → Φ (.bl false) c) ∧ (xs.length = ys.length → eqLs C F xs ys c fun b => Φ (.bl b) c) ∧ Ret K tb al G c H Φ Q
theorem insC_of {C : Addr} {d : D} (h : insC C d = true) : ∃ fs, d = .ins C fs := by
  unfold insC at h
  split at h
  · rename_i C' fs
    exact ⟨fs, by rw [of_decide_eq_true h]⟩
  · cases h
theorem DenL.at {K : PySem.W.Frag} {al : List Addr} {G : Hp} : ∀ {vs : List V} {xs : List D}, DenL K al G vs xs → ∀ (i : Nat) (h1 : i < vs.length) (h2 : i < xs.length), Den K al G vs[i] xs[i]
  | _, _, .cons h r, 0, _, _ => h
  | _, _, .cons h r, i + 1, h1, h2 => DenL.at r i (Nat.lt_of_succ_lt_succ h1) (Nat.lt_of_succ_lt_succ h2)
theorem vals_at : ∀ {vs : List V} {us : List Value}, Vals vs us → ∀ (i : Nat) (h1 : i < vs.length) (h2 : i < us.length), RelV vs[i] us[i]
  | _, _, .cons h r, 0, _, _ => h
  | _, _, .cons h r, i + 1, h1, h2 => vals_at r i (Nat.lt_of_succ_lt_succ h1) (Nat.lt_of_succ_lt_succ h2)
section
variable {X : Cx} {k : Nat} {f C : Addr} {fd : FuncData} {ps : List Str} {tb : List (Addr × Str)} {F : Fn}
theorem op_eqLX {K : PySem.W.Frag} (hK : X.K = K) (hF : FnOk X.prog X.w X.K X.mg X.base (L2.CX X.prog X.w) k f fd ps (SpG K tb F)) (hr : Room (k + 1) X.A) (hs : PySem.W.findIn X.K (.ref C) "__eq__" = some (some (.ref f))) (hf : PySem.W.isFn X.K (.ref f) = true) (hb : Binds X.K fd ps []) :
    OpR X (compareOp .Eq) (rLX K tb C F) := by
  subst hK
  rintro pins s σ H x y v u Q I rx ry ⟨al, G, c, dx, dy, xs, ys, Φ, R, hx, hy, ex, ey, off, on, q⟩
  have two : ∀ {al' G' H'} {s' : Shared}, Inv X pins σ H' s' → Rep X.K tb al' G' c H' → Le al G c H al' G' c H' → ∃ l b vs ws its its2 n n2, x = .ref l ∧ y = .ref b ∧ DenL X.K al' G' vs xs ∧ DenL X.K al' G' ws ys ∧ Vals vs its ∧ Vals ws its2 ∧ s'.heap.get? l = some { cls := .type "list", data := .seq its.toArray n } ∧ s'.heap.get? b = some { cls := .type "list", data := .seq its2.toArray n2 } := by
    intro al' G' H' s' I' R' l'
    have vx := R'.vw (hx.le l')
    have vy := R'.vw (hy.le l')
    rw [ex] at vx
    rw [ey] at vy
    cases vx with
    | lst h1 r1 =>
      cases vy with
      | lst h2 r2 =>
        obtain ⟨_, its, n, v1, e1⟩ := I'.hok _ _ h1
        obtain ⟨_, its2, n2, v2, e2⟩ := I'.hok _ _ h2
        exact ⟨_, _, _, _, its, its2, n, n2, rfl, rfl, r1, r2, v1, v2, e1, e2⟩
  obtain ⟨l, b, vs, ws, its, its2, n, n2, rfl, rfl, d1, d2, v1, v2, g1, g2⟩ := two I R .refl
  cases (show v = Value.ref l from rx)
  cases (show u = Value.ref b from ry)
  have z1 : its.toArray.size = xs.length := by rw [List.size_toArray, ← v1.length, d1.length]
  have z2 : its2.toArray.size = ys.length := by rw [List.size_toArray, ← v2.length, d2.length]
  have fin : ∀ {al' G' H'} {s' : Shared} (r : Bool), Inv X pins σ H' s' → Rep X.K tb al' G' c H' → Le al G c H al' G' c H' → Φ (.bl r) c → EP X pins σ Q (.bool r) s' := fun r I' R' l' m => ⟨.bl r, _, I', rfl, q _ c _ _ _ _ R' l' (.bl r) m⟩
  show wpAny (model X.prog X.w) X.A (richCompare .Eq (.ref l) (.ref b)) (EP X pins σ Q) X.xe s
  refine rc_lists hr.units0 g1 g2 (fun ne => fin false I R .refl (off (by rw [← z1, ← z2]; exact ne))) fun e => ?_
  have el : xs.length = ys.length := by rw [← z1, ← z2]; exact e
  refine ⟨fun i s' => i ≤ xs.length ∧ ∃ al' G' H', Inv X pins σ H' s' ∧ Rep X.K tb al' G' c H' ∧ Le al G c H al' G' c H' ∧ eqLs C F (xs.drop i) (ys.drop i) c fun b => Φ (.bl b) c, ⟨Nat.zero_le _, al, G, H, I, R, .refl, on el⟩, ?_, ?_⟩
  · rintro s' ⟨_, al', G', H', I', R', l', m⟩
    rw [z1, List.drop_length, el, List.drop_length] at m
    exact fin true I' R' l' m
  · rintro i s' ⟨hi, al', G', H', I', R', l', m⟩
    obtain ⟨l2, b2, vs', ws', jt, jt2, n', n2', e1, e2, d1', d2', v1', v2', g1', g2'⟩ := two I' R' l'
    cases e1
    cases e2
    have y1 : jt.toArray.size = xs.length := by rw [List.size_toArray, ← v1'.length, d1'.length]
    have y2 : jt2.toArray.size = ys.length := by rw [List.size_toArray, ← v2'.length, d2'.length]
    have tw : ∀ {al2 G2 H2} {s2 : Shared}, Inv X pins σ H2 s2 → Rep X.K tb al2 G2 c H2 → Le al G c H al2 G2 c H2 → ∃ jt jt2, TwoL l b its.toArray.size s2 jt jt2 := fun I2 R2 l2 => by
      obtain ⟨_, _, _, _, kt, kt2, p, p2, e1, e2, f1, f2, w1, w2, h1, h2⟩ := two I2 R2 l2
      cases e1
      cases e2
      exact ⟨_, _, p, p2, h1, h2, by rw [z1, List.size_toArray, ← w1.length, f1.length], by rw [z1, el, List.size_toArray, ← w2.length, f2.length]⟩
    refine ⟨jt.toArray, jt2.toArray, ⟨n', n2', g1', g2', by rw [y1, z1], by rw [y2, z1, el]⟩, fun h1 h2 => ?_⟩
    have i1 : i < xs.length := by rw [← y1]; exact h1
    have i2 : i < ys.length := by rw [← el]; exact i1
    have j1 : i < vs'.length := by rw [d1'.length]; exact i1
    have j2 : i < ws'.length := by rw [d2'.length]; exact i2
    rw [List.drop_eq_getElem_cons i1, List.drop_eq_getElem_cons i2] at m
    obtain ⟨⟨p1, p2, c1, c2⟩, same, call⟩ := m
    have D1 := d1'.at i j1 i1
    have D2 := d2'.at i j2 i2
    have r1 := vals_at v1' i j1 (by simpa using h1)
    have r2 := vals_at v2' i j2 (by simpa using h2)
    obtain ⟨fs, ef⟩ := insC_of c1
    obtain ⟨gs, eg⟩ := insC_of c2
    have nextI : ∀ {al2 G2 H2} {s2 : Shared} (r : Bool), Inv X pins σ H2 s2 → Rep X.K tb al2 G2 c H2 → Le al G c H al2 G2 c H2 → (if r = true then eqLs C F (xs.drop (i + 1)) (ys.drop (i + 1)) c (fun b => Φ (.bl b) c) else Φ (.bl false) c) →
        (if r = true then (i + 1 ≤ xs.length ∧ ∃ al' G' H', Inv X pins σ H' s2 ∧ Rep X.K tb al' G' c H' ∧ Le al G c H al' G' c H' ∧ eqLs C F (xs.drop (i + 1)) (ys.drop (i + 1)) c fun b => Φ (.bl b) c) else (∃ jt jt2, TwoL l b its.toArray.size s2 jt jt2) ∧ EP X pins σ Q (.bool false) s2) := fun r I2 R2 l2 m => by
      cases r with
      | true => rw [if_pos rfl] at m ⊢; exact ⟨i1, _, _, _, I2, R2, l2, m⟩
      | false => rw [if_neg (by decide)] at m ⊢; exact ⟨tw I2 R2 l2, fin false I2 R2 l2 m⟩
    have W1 := R'.vw D1
    have W2 := R'.vw D2
    rw [ef] at W1
    rw [eg] at W2
    have q1 : jt.toArray[i] = jt[i]'(by simpa using h1) := by simp
    have q2 : jt2.toArray[i] = jt2[i]'(by simpa using h2) := by simp
    rw [q1, q2]
    generalize jt[i]'(by simpa using h1) = t1 at r1
    generalize jt2[i]'(by simpa using h2) = t2 at r2
    generalize vs'[i] = o1 at D1 r1 W1
    generalize ws'[i] = o2 at D2 r2 W2
    cases W1 with
    | @ins a' _ dx' fv _ hA rA =>
      cases W2 with
      | @ins b' _ dy' gv _ hB rB =>
        cases (show t1 = Value.ref a' from r1)
        cases (show t2 = Value.ref b' from r2)
        by_cases hab : a' = b'
        · subst hab
          exact SeqAt.EqAt.same (A := X.A.in1) (s := s') (.ref a') X.prog X.w X.xe _ (nextI true I' R' l' (same (den_fun D1 D2 p1 p2)))
        · obtain ⟨mA, J, _⟩ := ins_get I'.hok hA
          obtain ⟨mB, J', _⟩ := ins_get I'.hok hB
          obtain ⟨od, J, _⟩ := J.look
          obtain ⟨od', J', _⟩ := J'.look
          obtain ⟨m0, hFr⟩ := I'.fr
          have hr1 : Room k X.A.in1 := hr.in1
          refine GQ.eqBool_refG hab (PySem.W.cmp_K (op := .Eq) (tb := .ref C) hr1.units0 hFr I'.ok.mod.kin J J'.type (by simp [PySem.W.notFirst]) hs hf ?_)
          have hsp : SpG X.K tb F [.ref a', .ref b'] H' (fun v H2 => ∃ r, v = .bl r ∧ (fun w H2 => ∃ r, w = V.bl r ∧ ∃ al2 G2, Rep X.K tb al2 G2 c H2 ∧ Le al G c H al2 G2 c H2 ∧ (if r = true then eqLs C F (xs.drop (i + 1)) (ys.drop (i + 1)) c (fun b => Φ (.bl b) c) else Φ (.bl false) c)) (V.bl (id r)) H2) fun _ _ _ => False := by
            refine ⟨al', G', c, _, noX, _, R', .cons D1 (.cons D2 .nil), call, fun d c2 al2 G2 H2 w r2 l2 dn m2 => ?_, thr0⟩
            obtain ⟨rfl, r, rfl, mm⟩ := m2
            cases dn
            exact ⟨r, rfl, r, rfl, al2, G2, r2, l'.trans l2, mm⟩
          refine wpAny_mono (own_bool (A := X.A.in1) (fin := id) (Q := (fun w H2 => ∃ r, w = V.bl r ∧ ∃ al2 G2, Rep X.K tb al2 G2 c H2 ∧ Le al G c H al2 G2 c H2 ∧ (if r = true then eqLs C F (xs.drop (i + 1)) (ys.drop (i + 1)) c (fun b => Φ (.bl b) c) else Φ (.bl false) c))) hF hr1 rfl hb I' (show Vals [V.ref a', V.ref b'] [Value.ref a', Value.ref b'] from .cons rfl (.cons rfl .nil)) hsp) ?_ fun _ _ z => z
          rintro w s2 ⟨r, rfl, z, H2, I2, rz, r', rfl, al2, G2, R2, l2, mm⟩
          cases (show Value.bool (id r) = Value.bool r' from rz)
          exact ⟨_, rfl, nextI _ I2 R2 l2 mm⟩
end
def eqLX (C : Addr) (F : Fn) (x y : D) (c : SH) (Φ : QD) : Prop := match view c x, view c y with
  | .lst xs, .lst ys => (xs.length ≠ ys.length → Φ (.bl false) c) ∧ (xs.length = ys.length → eqLs C F xs ys c fun b => Φ (.bl b) c)
  | _, _ => False
theorem dop_eqLX {K : PySem.W.Frag} {tb : List (Addr × Str)} {C : Addr} {F : Fn} : DOp K tb (rLX K tb C F) (eqLX C F) := by
  intro al G c H x y dx dy Φ Q R hx hy m q
  unfold eqLX at m
  split at m
  · rename_i xs ys e1 e2
    exact ⟨al, G, c, dx, dy, xs, ys, Φ, R, hx, hy, e1, e2, m.1, m.2, q⟩
  · cases m
end M

set_option Elab.async false
set_option linter.all false
set_option maxRecDepth 100000
set_option maxHeartbeats 3900000
namespace M
open PySem PySem.Spec PyProof.Rows L2 G
/-! ### x[i] by an own __getitem__ -/
def rGetX (C : Addr) (sp : Sp) : R2 := fun x y H Q => ∃ a dx fs, x = .ref a ∧ H a = some (.ins C dx fs) ∧ sp [x, y] H Q fun _ _ _ => False
section
variable {X : Cx} {k : Nat} {f C : Addr} {fd : FuncData} {ps : List Str} {sp : Sp}
theorem op_getX (F : FnOk X.prog X.w X.K X.mg X.base (L2.CX X.prog X.w) k f fd ps sp) (hr : Room k X.A) (hq : PySem.W.noSeq X.K C = true) (hs : PySem.W.findIn X.K (.ref C) "__getitem__" = some (some (.ref f))) (hf : PySem.W.isFn X.K (.ref f) = true) (hb : Binds X.K fd ps []) :
    OpR X getItem (rGetX C sp) := by
  rintro pins s σ H x y v u Q I rx ry ⟨a, dx, fs, rfl, ha, h⟩
  cases (show v = Value.ref a from rx)
  obtain ⟨mA, J, _⟩ := ins_get I.hok ha
  obtain ⟨od, J, _⟩ := J.look
  obtain ⟨m, hF⟩ := I.fr
  exact PySem.W.getItem_K hF I.ok.mod.kin J hq hs hf (run_below F hr rfl hb passF I (.cons rx (.cons ry .nil)) h)
/-! ### len(x) by an own __len__ -/
def rLenX (C : Addr) (sp : Sp) : List V → Hp → VK → Prop := fun xs H Q => ∃ a dx fs, xs = [.ref a] ∧ H a = some (.ins C dx fs) ∧ sp [.ref a] H (fun v H' => ∃ n : Nat, v = .int (n : Int) ∧ n < 2 ^ 62 ∧ Q (.int (n : Int)) H') fun _ _ _ => False
theorem call_lenX (F : FnOk X.prog X.w X.K X.mg X.base (L2.CX X.prog X.w) k f fd ps sp) (hr : Room (k + 1) X.A) (hs : PySem.W.findIn X.K (.ref C) "__len__" = some (some (.ref f))) (hf : PySem.W.isFn X.K (.ref f) = true) (hb : Binds X.K fd ps []) :
    CallR X (.builtin "len") (rLenX C sp) := by
  rintro pins s σ H xs us Q I r ⟨a, dx, fs, rfl, ha, h⟩
  obtain ⟨u, rfl, ru⟩ := vals1 r
  cases (show u = Value.ref a from ru)
  obtain ⟨mA, J, _⟩ := ins_get I.hok ha
  obtain ⟨od, J, _⟩ := J.look
  obtain ⟨m, hF⟩ := I.fr
  refine PySem.W.len_K hF I.ok.mod.kin J hs hf (wpAny_mono (run_below F hr.in1 rfl hb passF I (.cons ru .nil) h) ?_ fun _ _ z => z)
  rintro w s' ⟨z, H', I', rz, n, rfl, hn, q⟩
  obtain ⟨t, rfl⟩ := rz
  exact ⟨⟨by omega, by omega⟩, ⟨.int _, H', I'.tok _, ⟨_, rfl⟩, q⟩⟩
end
def getXD (C : Addr) (F : Fn) (x y : D) (c : SH) (Φ : QD) : Prop := match view c x with
  | .ins C' _ => C' = C ∧ F [x, y] c noX Φ
  | _ => False
def lenXD (C : Addr) (F : Fn) (xs : List D) (c : SH) (Φ : QD) : Prop := oneD xs fun x => match view c x with
  | .ins C' _ => C' = C ∧ F [x] c noX fun v c' => ∃ n : Nat, v = .int (n : Int) ∧ n < 2 ^ 62 ∧ Φ (.int (n : Int)) c'
  | _ => False
section
variable {K : PySem.W.Frag} {tb : List (Addr × Str)} {C : Addr} {F : Fn}
theorem dop_getX : DOp K tb (rGetX C (SpG K tb F)) (getXD C F) := by
  intro al G c H x y dx dy Φ Q R hx hy m q
  have vx := R.vw hx
  unfold getXD at m
  split at m
  · rename_i e
    rw [e] at vx
    obtain ⟨rfl, m⟩ := m
    cases vx with
    | ins h r => exact ⟨_, _, _, rfl, h, al, G, c, _, noX, _, R, .cons hx (.cons hy .nil), m, q, thr0⟩
  · cases m
theorem dc_lenX : DCall K tb (rLenX C (SpG K tb F)) (lenXD C F) := by
  intro al G c H xs ds Φ Q R hd m q
  obtain ⟨x, v, rfl, rfl, dx, m2⟩ := oneD_of m hd
  have vx := R.vw dx
  split at m2
  · rename_i e
    rw [e] at vx
    obtain ⟨rfl, m2⟩ := m2
    cases vx with
    | ins h r =>
      refine ⟨_, _, _, rfl, h, al, G, c, _, noX, _, R, .cons dx .nil, m2, fun d c2 al2 G2 H2 w r2 l2 dn m3 => ?_, thr0⟩
      obtain ⟨n, rfl, hn, m3⟩ := m3
      cases dn
      exact ⟨n, rfl, hn, q _ c2 al2 G2 H2 _ r2 l2 (.int _) m3⟩
  · cases m2
end
end M

set_option Elab.async false
set_option linter.all false
set_option maxRecDepth 100000
set_option maxHeartbeats 3900000
namespace M
open PySem PySem.Spec PyProof.Rows L2 G
theorem Room.u1 {k : Nat} {A : Around} (hr : Room k A) : A.units + 1 < cLine := by have := hr.un; omega
/-! ### dicts: walks, comprehensions, stores, copies -/
def keyOD : Key → D
  | .inl i => .int i
  | .inr z => .str z
theorem keyOD_den {K : PySem.W.Frag} {al : List Addr} {G : Hp} : ∀ k : Key, Den K al G (kV k) (keyOD k)
  | .inl i => .int i
  | .inr z => .str z
theorem keyD_keyOD : ∀ k : Key, keyD (keyOD k) = some k
  | .inl _ => rfl
  | .inr _ => rfl
theorem DenK.get {K : PySem.W.Frag} {al : List Addr} {G : Hp} : ∀ {vs : List (Key × V)} {ds : List (Key × D)} {i : Nat} {k : Key} {d : D}, DenK K al G vs ds → ds[i]? = some (k, d) → ∃ v, vs[i]? = some (k, v) ∧ Den K al G v d
  | _, _, i, _, d, .nil, e => by simp at e
  | _, _, 0, _, d, .cons h _, e => by simp at e; obtain ⟨rfl, rfl⟩ := e; exact ⟨_, rfl, h⟩
  | _, _, i + 1, _, d, .cons _ r, e => by
    obtain ⟨v, h1, h2⟩ := DenK.get (i := i) r (by simpa using e)
    exact ⟨v, by simpa using h1, h2⟩
def itemsM (a : ME) : MI := fun δ c Ψ Φ => a δ c Ψ fun x c1 => match x with
  | .dic kvs => Φ (kvs.map fun kv => .tup [keyOD kv.1, kv.2]) (fun _ => True) c1
  | _ => False
def valuesM (a : ME) : MI := fun δ c Ψ Φ => a δ c Ψ fun x c1 => match x with
  | .dic kvs => Φ (kvs.map (·.2)) (fun _ => True) c1
  | _ => False
section
variable {K : PySem.W.Frag} {tb : List (Addr × Str)} {W : WX} {ta tv ty : TE} {a b mv : ME}
theorem snd_items (ha : SndE K tb W ta a) : SndI K tb W (iItems ta) (itemsM a) := by
  intro al G c H σ δ Ψ Φ R g m q
  refine ha al G c H σ δ Ψ _ _ g m fun x c1 al1 G1 H1 v r1 l1 d1 m1 => ?_
  split at m1
  · rename_i kvs
    cases d1 with
    | dic h r =>
      refine ⟨_, _, _, rfl, r1.sub _ _ h, q _ _ c1 al1 G1 H1 _ r1 l1 ⟨fun i y al2 G2 c2 H2 hy r2 l2 _ => ⟨r2.sub _ _ (l2.g _ _ h), ?_⟩, fun i y al2 G2 c2 H2 u H' hy r2 l2 _ yl => ?_, fun al2 G2 c2 H2 r2 l2 _ => ⟨r2.sub _ _ (l2.g _ _ h), ?_⟩⟩ m1⟩
      · have := (List.getElem?_eq_some_iff.mp hy).1
        rw [List.length_map] at this
        rw [r.length]
        exact this
      · rw [List.getElem?_map] at hy
        obtain ⟨⟨k, d⟩, h1, h2⟩ := Option.map_eq_some_iff.mp hy
        cases h2
        obtain ⟨w, h3, h4⟩ := r.get h1
        obtain ⟨T, k', v', hk, rfl, hT, rfl⟩ := yl
        rw [h3] at hk
        cases hk
        obtain ⟨p1, p2, p3⟩ := pair_new (vs := [kV k, w]) (ds := [keyOD k, d]) r2 hT (.cons (keyOD_den k) (.cons (h4.le l2) .nil))
        exact ⟨_, p1, p2, p3⟩
      · rw [List.length_map, r.length]
        exact Nat.le_refl _
  · cases m1
theorem snd_values (ha : SndE K tb W ta a) : SndI K tb W (iVals ta) (valuesM a) := by
  intro al G c H σ δ Ψ Φ R g m q
  refine ha al G c H σ δ Ψ _ _ g m fun x c1 al1 G1 H1 v r1 l1 d1 m1 => ?_
  split at m1
  · rename_i kvs
    cases d1 with
    | dic h r =>
      refine ⟨_, _, _, rfl, r1.sub _ _ h, q _ _ c1 al1 G1 H1 _ r1 l1 ⟨fun i y al2 G2 c2 H2 hy r2 l2 _ => ⟨r2.sub _ _ (l2.g _ _ h), ?_⟩, fun i y al2 G2 c2 H2 u H' hy r2 l2 _ yl => ?_, fun al2 G2 c2 H2 r2 l2 _ => ⟨r2.sub _ _ (l2.g _ _ h), ?_⟩⟩ m1⟩
      · have := (List.getElem?_eq_some_iff.mp hy).1
        rw [List.length_map] at this
        rw [r.length]
        exact this
      · rw [List.getElem?_map] at hy
        obtain ⟨⟨k, d⟩, h1, h2⟩ := Option.map_eq_some_iff.mp hy
        cases h2
        obtain ⟨w, h3, h4⟩ := r.get h1
        obtain ⟨rfl, k', hk⟩ := yl
        rw [h3] at hk
        cases hk
        exact ⟨G2, r2, .refl, h4.le l2⟩
      · rw [List.length_map, r.length]
        exact Nat.le_refl _
  · cases m1
/-! nested targets -/
def gtupnM (n : Nat) (g : MGs) : MG := fun x δ c _ N => match view c x with
  | .tup xs => xs.length = n ∧ g xs δ c noX N
  | _ => False
def gconsXM (m : MG) (g : MGs) : MGs := fun xs δ c _ N => match xs with
  | x :: r => m x δ c noX fun δ1 c1 => g r δ1 c1 noX N
  | [] => False
theorem sgo_tupn {vs : List Nat} {n : Nat} {g : TGs} {mg : MGs} (hg : SndGOs K tb vs g mg) : SndGO K tb W vs (gTup K n g) (gtupnM n mg) := by
  intro al G c H σ δ Ψ v x N R go d m q
  have vx := go.rep.vw d
  unfold gtupnM at m
  split at m
  · rename_i xs e
    rw [e] at vx
    cases vx with
    | tup h1 dn => exact ⟨_, _, rfl, .of h1, by rw [dn.length]; exact m.1, hg al G c H σ δ _ _ N R go.rep go.env dn m.2 q⟩
  · cases m
theorem sgo_consX {vs : List Nat} {tg : TG} {m : MG} {g : TGs} {mg : MGs} (hm : SndGO K tb (fun _ _ _ _ => False) vs tg m) (hg : SndGOs K tb vs g mg) : SndGOs K tb vs (gCons tg g) (gconsXM m mg) := by
  intro al G c H σ δ v x N R r s d mm q
  cases d with
  | nil => cases mm
  | cons d1 d2 =>
    refine ⟨_, _, rfl, ?_⟩
    refine hm al G c H σ δ noX _ _ _ _ ⟨r, s, thr0⟩ d1 mm fun δ1 c1 al1 G1 H1 σ1 r1 l1 s1 w1 m1 => ?_
    exact hg al1 G1 c1 H1 _ _ _ _ N R r1 s1 (d2.le l1) m1 fun δ' c' al' G' H' σ' r' l' s' w' n' => q δ' c' al' G' H' σ' r' (l1.trans l') s' (w'.trans w1) n'
/-! {k: v for ..} -/
def dcD (gd : SH → Prop) (turn : D → SH → (Option (Key × D) → SH → Prop) → Prop) : List D → List (Key × D) → SH → (List (Key × D) → SH → Prop) → Prop
  | [], acc, c, Φ => gd c ∧ Φ acc c
  | x :: xs, acc, c, Φ => gd c ∧ turn x c fun o c1 => acc.length < sizeLine ∧ dcD gd turn xs (match o with
    | some kv => putKD acc kv.1 kv.2
    | none => acc) c1 Φ
def turnK (g : MG) (t : MT) (k e : ME) (δ : Env) : D → SH → (Option (Key × D) → SH → Prop) → Prop := fun x c kk => g x δ c noX fun δ2 c2 => t δ2 c2 noX fun b c3 => if b = true then k δ2 c3 noX fun y c4 => e δ2 c4 noX fun z c5 => (match keyD y with
  | some j => kk (some (j, z)) c5
  | none => False) else kk none c3
def dcM (lv : Bool) (i : MI) (g : MG) (t : MT) (k e : ME) (vs : List Nat) : ME := fun δ c Ψ Φ => i δ c Ψ fun xs gd c1 => dcD gd (turnK g t k e (wipeD δ vs)) xs [] c1 fun kvs c2 => newK lv kvs c2 Φ
theorem dc_go {wi : TI} {mi : MI} {g : TG} {mg : MG} {tt : TT} {mt : MT} {tk te : TE} {mk me : ME} {vs : List Nat} (hi : SndI K tb W wi mi) (hg : SndGO K tb W0 vs g mg) (ht : SndT K tb W0 tt mt) (hk : SndE K tb W0 tk mk) (he : SndE K tb W0 te me)
    {al G c H σ δ Ψ} {Φ : List (Key × D) → SH → Prop} {Q : VK} (go : Go K tb al G c H W σ δ Ψ) (m : mi δ c Ψ fun xs gd c1 => dcD gd (turnK mg mt mk me (wipeD δ vs)) xs [] c1 Φ)
    (q : ∀ D kvs avs al' G' c' H', Rep K tb al' G' c' H' → Le al G c H al' G' c' H' → Apart al' G' c' D → Fr H D → H' D = some (.dK avs) → DenK K al' G' avs kvs → Φ kvs c' → Q (.ref D) H') : tDc wi g tt tk te vs σ H Q := by
  refine hi al G c H σ δ Ψ _ _ go m fun xs gd c1 al1 G1 H1 J r1 l1 it m1 => ?_
  intro D hD
  have e1 : SRel K al1 G1 σ δ := go.env.le l1
  refine ⟨fun i n H2 => n = xs.length - i ∧ i ≤ xs.length ∧ ∃ al2 G2 c2 acc avs, Rep K tb al2 G2 c2 H2 ∧ Le al1 G1 c1 H1 al2 G2 c2 H2 ∧ Apart al2 G2 c2 D ∧ H2 D = some (.dK avs) ∧ DenK K al2 G2 avs acc ∧ dcD gd (turnK mg mt mk me (wipeD δ vs)) (xs.drop i) acc c2 Φ, ⟨_, rfl, Nat.zero_le _, al1, G1, c1, [], [], r1.grow (Ex.new hD), Le.grow (Ex.new hD), Apart.new r1 hD, upd_same, .nil, m1⟩, ?_⟩
  rintro i n H2 ⟨rfl, hle, al2, G2, c2, acc, avs, r2, l2, ap2, h2, d2, m2⟩
  by_cases hlt : i < xs.length
  · rw [drop_get hlt] at m2
    obtain ⟨hgd, m2⟩ := m2
    have hx : xs[i]? = some xs[i] := List.getElem?_eq_getElem hlt
    refine .inr ⟨it.go i _ al2 G2 c2 H2 hx r2 l2 hgd, fun H3 => ∃ al3 G3 c3 acc3 avs3, Rep K tb al3 G3 c3 H3 ∧ Le al1 G1 c1 H1 al3 G3 c3 H3 ∧ Apart al3 G3 c3 D ∧ H3 D = some (.dK avs3) ∧ DenK K al3 G3 avs3 acc3 ∧ dcD gd (turnK mg mt mk me (wipeD δ vs)) (xs.drop (i + 1)) acc3 c3 Φ, ?_, ?_⟩
    · rintro H3 ⟨al3, G3, c3, acc3, avs3, r3⟩
      exact ⟨xs.length - (i + 1), by omega, rfl, hlt, al3, G3, c3, acc3, avs3, r3⟩
    · intro v H' y
      obtain ⟨G', r', l', d'⟩ := it.yl i _ al2 G2 c2 H2 v H' hx r2 l2 hgd y
      obtain ⟨ap', h'⟩ := ap2.le h2 nofun l'
      have go' : Go K tb al2 G' c2 H' W0 (wipe σ vs) (wipeD δ vs) noX := ⟨r', ((e1.le l2).le l').wipe vs, thr0⟩
      refine hg al2 G' c2 H' _ _ noX v _ _ _ go' d' m2 fun δ3 c3 al3 G3 H3 σ3 r3 l3 s3 w3 m3 => ?_
      rw [wipe_wipe] at w3
      refine ⟨w3, ?_⟩
      have go3 : Go K tb al3 G3 c3 H3 W0 σ3 δ3 noX := ⟨r3, s3, thr0⟩
      refine ht al3 G3 c3 H3 σ3 δ3 noX _ _ go3 m3 fun b c4 al4 G4 H4 r4 l4 m4 => ?_
      have l24 := (l'.trans l3).trans l4
      cases b with
      | false =>
        obtain ⟨ap4, h4⟩ := ap2.le h2 nofun l24
        exact iteF ⟨al4, G4, c4, acc, avs, r4, l2.trans l24, ap4, h4, d2.mono l24.ad l24.g, m4.2⟩
      | true =>
        refine iteT (hk al4 G4 c4 H4 σ3 δ3 noX _ _ (go3.le r4 l4) m4 fun y c5 al5 G5 H5 w r5 l5 d5 m5 => ?_)
        refine he al5 G5 c5 H5 σ3 δ3 noX _ _ ((go3.le r4 l4).le r5 l5) m5 fun z c6 al6 G6 H6 u r6 l6 d6 m6 => ?_
        have l26 := (l24.trans l5).trans l6
        obtain ⟨ap6, h6⟩ := ap2.le h2 nofun l26
        split at m6
        · rename_i j ej
          have hl := m6.1
          have d26 : DenK K al6 G6 avs acc := d2.mono l26.ad l26.g
          refine ⟨avs, j, key_den d5 ej, h6, by rw [d2.length]; exact hl, al6, G6, c6, putKD acc j z, putK avs j u, r6.foreign h6 nofun nofun ap6.g ap6.liv ap6.k, (l2.trans l26).foreign (.of hD) nofun, ap6, upd_same, d26.put d6, m6.2⟩
        · cases m6
  · have hi2 : i = xs.length := by omega
    subst hi2
    rw [List.drop_length] at m2
    obtain ⟨hgd, m2⟩ := m2
    refine .inl ⟨it.st al2 G2 c2 H2 r2 l2 hgd, q D acc avs al2 G2 c2 H2 r2 (l1.trans l2) ap2 (l1.dom _ (.of hD)) h2 d2 m2⟩
theorem snd_dcE {wi : TI} {mi : MI} {g : TG} {mg : MG} {tt : TT} {mt : MT} {tk te : TE} {mk me : ME} {vs vs' : List Nat} (e : vs' = vs) (hi : SndI K tb W wi mi) (hg : SndGO K tb (fun _ _ _ _ => False) vs g mg) (ht : SndT K tb (fun _ _ _ _ => False) tt mt) (hk : SndE K tb (fun _ _ _ _ => False) tk mk) (he : SndE K tb (fun _ _ _ _ => False) te me) : SndE K tb W (tLk (tDc wi g tt tk te vs')) (dcM false mi mg mt mk me vs) := by
  subst e
  intro al G c H σ δ Ψ Φ Q go m q
  exact dc_go hi hg ht hk he go m fun D kvs avs al' G' c' H' r' l' ap' fr hD dn m' => lk_of r' ap' hD dn l' fr q (newK_f m')
/-! d[k] = v -/
def dputM (o i v : ME) : MS := fun δ c e => v δ c (e.x δ) fun z c1 => o δ c1 (e.x δ) fun x c2 => i δ c2 (e.x δ) fun y c3 => match x, keyD y with
  | .obj k, some j => (match c3[k]? with
    | some (.dic kvs) => kvs.length < sizeLine ∧ e.nx δ (c3.set k (.dic (putKD kvs j z)))
    | _ => False)
  | _, _ => False
theorem snd_dput (ho : SndE K tb W ta a) (hi : SndE K tb W ty b) (hv : SndE K tb W tv mv) : SndS K tb W (sDPut ta ty tv) (dputM a b mv) := by
  intro al G c H σ δ e D R s mm q
  refine hv al G c H σ δ (e.x δ) _ _ (q.go R s) mm fun z c1 al1 G1 H1 w r1 l1 d1 m1 => ?_
  refine ho al1 G1 c1 H1 σ δ (e.x δ) _ _ ((q.le l1).go r1 (s.le l1)) m1 fun x c2 al2 G2 H2 v r2 l2 d2 m2 => ?_
  refine hi al2 G2 c2 H2 σ δ (e.x δ) _ _ ((q.le (l1.trans l2)).go r2 (s.le (l1.trans l2))) m2 fun y c3 al3 G3 H3 u r3 l3 d3 m3 => ?_
  split at m3
  · rename_i k j ej
    split at m3
    · rename_i kvs hs
      cases d2 with
      | obj hk =>
        have hk3 := l3.ad _ _ hk
        obtain ⟨vs, h1, h2⟩ := r3.ent k _ _ hk3 hs
        refine ⟨_, _, rfl, .inl ⟨vs, j, h1, key_den d3 ej, by rw [h2.length]; exact m3.1, rfl⟩, ?_⟩
        have en : DenK K al3 G3 (putK vs j w) (putKD kvs j z) := h2.put (d1.le (l2.trans l3))
        have r4 := r3.change (u := .dK (putK vs j w)) hk3 hs rfl (o := .dic (putKD kvs j z)) ⟨_, upd_same, en⟩ rfl
        have l4 := Le.change (o := .dic (putKD kvs j z)) r3 hk3 hs rfl (u := .dK (putK vs j w)) nofun
        have l14 := ((l1.trans l2).trans l3).trans l4
        exact q.nx δ _ _ _ _ σ r4 l14 (s.le l14) m3.2
    · cases m3
  · cases m3
/-! dict(x) -/
def rDictU (K : PySem.W.Frag) : List V → Hp → VK → Prop := fun xs H Q => (∃ (a : Addr) (kvs : List (Key × V)), xs = [.ref a] ∧ Rd H a (.dK kvs) ∧ ∀ p, H p = none → Q (.ref p) (upd H p (.dK kvs))) ∨
  ∃ (a : Addr) (ps : List Addr) (kvs : List (Key × V)), xs = [.ref a] ∧ SqL K H a (ps.map V.ref) ∧ Paired (fun p kv => SqT K H p [kV kv.1, kv.2]) ps kvs ∧ ∀ p, H p = none → Q (.ref p) (upd H p (.dK (mergeK [] kvs)))
theorem call_dictM {X : Cx} (hK : X.K = K) (hc : X.calm = true) : CallR X (.type "dict") (rDictU K) := by
  subst hK
  intro pins s σ H xs us Q I r h
  rcases h with h | h
  · exact call_dictD pins s σ H xs us Q I r h
  · exact call_dictP hc pins s σ H xs us Q I r h
def pairsD : List D → Option (List (Key × D))
  | [] => some []
  | .tup [x, y] :: r => match keyD x, pairsD r with
    | some k, some kvs => some ((k, y) :: kvs)
    | _, _ => none
  | _ => none
theorem pairs_den {al : List Addr} {G H : Hp} (ex : Ex G H) : ∀ {vs : List V} {ds : List D} {kvs : List (Key × D)}, DenL K al G vs ds → pairsD ds = some kvs → ∃ (ps : List Addr) (us : List (Key × V)), vs = ps.map V.ref ∧ Paired (fun p kv => SqT K H p [kV kv.1, kv.2]) ps us ∧ DenK K al G us kvs
  | _, _, _, .nil, e => by cases e; exact ⟨[], [], rfl, .nil, .nil⟩
  | _, _, kvs, .cons (d := d) h r, e => by
    unfold pairsD at e
    split at e
    · rename_i he; cases he
    · rename_i x y r' he
      cases he
      split at e
      · rename_i k ks e1 e2
        cases e
        obtain ⟨ps, us, rfl, pr, dn⟩ := pairs_den ex r e2
        cases h with
        | tup hg hl =>
          cases hl with
          | cons hx hl =>
            cases hl with
            | cons hy hl =>
              cases hl
              have ek := key_den hx e1
              subst ek
              exact ⟨_ :: ps, (k, _) :: us, rfl, .cons (.of (ex _ _ hg)) pr, .cons hy dn⟩
      · cases e
    · cases e
def dictD (xs : List D) (c : SH) (k : List (Key × D) → Prop) : Prop := oneD xs fun x => match view c x with
  | .dic kvs => k kvs
  | .lst ys => (match pairsD ys with
    | some kvs => k (mergeD [] kvs)
    | none => False)
  | _ => False
def dictM (lv : Bool) (A : MA) : ME := fun δ c Ψ Φ => A δ c Ψ fun xs c1 => dictD xs c1 fun kvs => newK lv kvs c1 Φ
theorem dict_go {al : List Addr} {G : Hp} {c : SH} {H : Hp} {vs : List V} {ds : List D} {k : List (Key × D) → Prop} {Q : VK} (R : Rep K tb al G c H) (dn : DenL K al G vs ds) (m : dictD ds c k) (q : ∀ p us kvs, H p = none → DenK K al G us kvs → k kvs → Q (.ref p) (upd H p (.dK us))) : rDictU K vs H Q := by
  obtain ⟨x, v, rfl, rfl, dx, m2⟩ := oneD_of m dn
  have vx := R.vw dx
  split at m2
  · rename_i kvs e
    rw [e] at vx
    cases vx with
    | dic h r => exact .inl ⟨_, _, rfl, h, fun p hp => q p _ kvs hp r m2⟩
  · rename_i ys e
    rw [e] at vx
    split at m2
    · rename_i kvs e2
      cases vx with
      | lst h r =>
        obtain ⟨ps, us, rfl, pr, dk⟩ := pairs_den R.sub r e2
        exact .inr ⟨_, ps, us, rfl, .of h, pr, fun p hp => q p _ _ hp (dk.merge .nil) m2⟩
    · cases m2
  · cases m2
variable {tA : TA} {mA : MA}
theorem snd_dict (hA : SndA K tb W tA mA) : SndE K tb W (tCB (rDictU K) tA) (dictM true mA) := by
  intro al G c H σ δ Ψ Φ Q g m q
  refine hA al G c H σ δ Ψ _ _ g m fun xs c1 al1 G1 H1 vs r1 l1 d1 m1 => ?_
  exact dict_go r1 d1 m1 fun p us kvs hp dk mk => newK_ok r1 hp dk mk (q.le l1)
theorem snd_dictL (hA : SndA K tb W tA mA) : SndE K tb W (tLk (tCB (rDictU K) tA)) (dictM false mA) := by
  intro al G c H σ δ Ψ Φ Q g m q
  refine hA al G c H σ δ Ψ _ _ g m fun xs c1 al1 G1 H1 vs r1 l1 d1 m1 => ?_
  exact dict_go r1 d1 m1 fun p us kvs hp dk mk => lk_new r1 hp dk (q.le l1) (newK_f mk)
/-! sorted(d), max(xs), min(xs) -/
def rSortedK (K : PySem.W.Frag) : List V → Hp → VK → Prop := fun xs H Q => ∃ (a : Addr) (kvs : List (Key × V)) (ks : List Str), xs = [.ref a] ∧ Rd H a (.dK kvs) ∧ kvs.map (·.1) = ks.map Sum.inr ∧ ks.length < 64 ∧
    ∀ ys p, ys.Perm ks → sortedS ys = true → H p = none → Q (.ref p) (upd H p (.lst (ys.map V.str)))
theorem call_sortedM {X : Cx} (hK : X.K = K) (hc : X.calm = true) : CallR X (.builtin "sorted") (fun xs H Q => rSortedU K xs H Q ∨ rSortedK K xs H Q) := (call_sortedU hK).or (call_sortedD hc)
def keysS : List (Key × D) → Option (List Str)
  | [] => some []
  | (.inr z, _) :: r => (keysS r).map (z :: ·)
  | _ => none
theorem keysS_den {al : List Addr} {G : Hp} : ∀ {vs : List (Key × V)} {ds : List (Key × D)} {ks : List Str}, DenK K al G vs ds → keysS ds = some ks → vs.map (·.1) = ks.map Sum.inr
  | _, _, _, .nil, e => by cases e; rfl
  | _, _, ks, .cons (k := k) h r, e => by
    cases k with
    | inl i => cases e
    | inr z =>
      simp only [keysS] at e
      obtain ⟨zs, e1, rfl⟩ := Option.map_eq_some_iff.mp e
      rw [List.map_cons, List.map_cons, keysS_den r e1]
def sortedKD (lv : Bool) (xs : List D) (c : SH) (Φ : QD) : Prop := oneD xs fun x => match view c x with
  | .dic kvs => ∃ ks, keysS kvs = some ks ∧ ks.length < 64 ∧ ∀ ys, ys.Perm ks → sortedS ys = true → newL lv (ys.map .str) c Φ
  | _ => False
theorem dc_sortK {lv : Bool} : DCall K tb (rSortedK K) (sortedKD lv) := by
  intro al G c H xs ds Φ Q R hd m q
  obtain ⟨x, v, rfl, rfl, dx, m2⟩ := oneD_of m hd
  have vx := R.vw dx
  split at m2
  · rename_i kvs e
    rw [e] at vx
    obtain ⟨ks, e2, h64, m2⟩ := m2
    cases vx with
    | dic h r => exact ⟨_, _, ks, rfl, h, keysS_den r e2, h64, fun ys p hp hs hn => newL_ok R hn (DenL.strs ys) (m2 ys hp hs) q⟩
  · cases m2
def maxLD (xs : List D) (c : SH) (Φ : QD) : Prop := oneD xs fun x => match lstD (view c x) with
  | some ys => ∃ zs, intsD ys = some zs ∧ 0 < zs.length ∧ ∀ m, m ∈ zs → (∀ y, y ∈ zs → y ≤ m) → Φ (.int m) c
  | none => False
def minLD (xs : List D) (c : SH) (Φ : QD) : Prop := oneD xs fun x => match lstD (view c x) with
  | some ys => ∃ zs, intsD ys = some zs ∧ 0 < zs.length ∧ ∀ m, m ∈ zs → (∀ y, y ∈ zs → m ≤ y) → Φ (.int m) c
  | none => False
theorem dc_maxL : DCall K tb (rMaxU K) (orC max2D maxLD) := by
  intro al G c H xs ds Φ Q R hd m q
  rcases m with m | m
  · exact dc_max2 al G c H xs ds Φ Q R hd m q
  · obtain ⟨x, v, rfl, rfl, dx, m2⟩ := oneD_of m hd
    split at m2
    · rename_i ys e
      obtain ⟨b, vs, rfl, h1, h2⟩ := lst_vw e (R.vw dx)
      obtain ⟨zs, e2, h0, m2⟩ := m2
      rw [ints_den h2 e2] at h1
      exact .inr ⟨b, zs, rfl, h1, h0, fun m hm hy => q _ c al G H _ R .refl (.int _) (m2 m hm hy)⟩
    · cases m2
theorem dc_minL : DCall K tb (rMinU K) (orC min2D minLD) := by
  intro al G c H xs ds Φ Q R hd m q
  rcases m with m | m
  · exact dc_min2 al G c H xs ds Φ Q R hd m q
  · obtain ⟨x, v, rfl, rfl, dx, m2⟩ := oneD_of m hd
    split at m2
    · rename_i ys e
      obtain ⟨b, vs, rfl, h1, h2⟩ := lst_vw e (R.vw dx)
      obtain ⟨zs, e2, h0, m2⟩ := m2
      rw [ints_den h2 e2] at h1
      exact .inr ⟨b, zs, rfl, h1, h0, fun m hm hy => q _ c al G H _ R .refl (.int _) (m2 m hm hy)⟩
    · cases m2
end
end M

set_option Elab.async false
set_option linter.all false
set_option maxRecDepth 100000
set_option maxHeartbeats 3900000
namespace G
open PySem PySem.Spec PyProof.Rows L2
/-! ### x(e1, e2, e3, lambda p: body) -/
def tLam4 (T : List (Addr × Str)) (q : Str) (tb : XK → TE) (spg : Addr → Sp → Sp) (E : XK) (t1 t2 t3 : TE) : TE := fun σ H Q => t1 σ H fun v1 H1 => t2 σ H1 fun v2 H2 => t3 σ H2 fun v3 H3 =>
  LamX.Tabs T H3 ∧ ∀ (f c : Addr) (H4 : Hp), LamX.ExtN H3 H4 → LamX.Tabs T H4 → H4 c = some (LamX.CodeO c q) → spg f (spLam c q tb σ) [v1, v2, v3, .ref f] H4 Q E
section
variable {X : Cx}
theorem pe_lam4 {T : List (Addr × Str)} {x p : Str} {g c₀ P : Addr} {k kg : Nat} {fd : FuncData} {psg : List Str} {spg : Addr → Sp → Sp} {CXg : CXT} {E : XK} {tb : XK → TE} {t1 t2 t3 : TE} {params : Arguments} {body e1 e2 e3 : Expr} {scope : Scope} {p1 lpos pos : Pos}
    (hg : Gl X x) (hm : X.mg x = some (.ref g)) (hk : PySem.W.keepIn X.K (.ref g) = true) (hb : Binds X.K fd psg [])
    (hG : ∀ (B : Heap) (f : Addr) (sp : Sp), (∀ b o, X.base.get? b = some o → B.get? b = some o) → InBase X.prog X.w X.K X.mg B (k + 1) f sp → FnOk X.prog X.w X.K X.mg B CXg kg g fd psg (spg f sp))
    (hr : Room kg X.A) (hx : Passes CXg X E) (TB : LamX.TabB X.base X.mg c₀ P) (hcode : X.env.code = .ref c₀) (hmT : (P, X.env.qual ++ "<lambda>") ∈ T) (hu : ∀ z ∈ T, z.1 = P → z.2 = X.env.qual ++ "<lambda>")
    (L : Lam1 X.N X.env.scope scope p) (hdef : defaultsOf params X.env = ([], []))
    (hbind : ∀ (q : Str) (cl : List (Str × Addr)) (pm cv ctv u : Value), bindArgs (PySem.W.kla_fn "<lambda>" q params body scope cl pm cv ctv) ⟨[u], []⟩ = pure [(p, u)])
    (hbody : ∀ (B : Heap), (∀ b o, X.base.get? b = some o → B.get? b = some o) → ∀ (A : Around) (outer : List Env) (s : Shared) (H : Hp) (E : XK) (f c : Addr), Room k (A.deeper (LamX.lamEnv X scope s.heap.objs.size f c)) → PE (lamCx1 X B A outer s H E scope p f c) body (tb E))
    (h1 : PE X e1 t1) (h2 : PE X e2 t2) (h3 : PE X e3 t3) (hs : X.stack = X.env :: X.outer) (hf : X.env.frame = some X.env.locals) (hfn : ∀ y, X.fn y = true)
    (hst : backTo pos (starEach [e1, e2, e3, .Lambda params body scope lpos] X.env) = [(false, eval e1 X.env), (false, eval e2 X.env), (false, eval e3 X.env), (false, eval (.Lambda params body scope lpos) X.env)])
    (hs1 : starEach (e1 :: [e2, e3, .Lambda params body scope lpos]) X.env = (false, eval e1 X.env) :: starEach [e2, e3, .Lambda params body scope lpos] X.env)
    (hpl : (backTo pos (starEach [e2, e3, .Lambda params body scope lpos] X.env)).any (·.1) = false) (hdb : (x == ("__debug__" : Str)) = false := by decide) :
    PE X (.Call (.Name x p1) [e1, e2, e3, .Lambda params body scope lpos] [] pos) (tLam4 T (X.env.qual ++ "<lambda>") tb spg E t1 t2 t3) := by
  constructor
  rintro pins s σ H Q I h
  apply wpAny_Call_Name_kw
  apply ld_glob I hg hm _ hdb
  refine PySem.W.callWith_K (h₀ := X.base) I.ok.mod.kin hk ?_ hs1 hpl
  rw [hst]
  refine Calls.spliced_cons (thn (h1.run pins s σ H _ I h) ?_)
  rintro u1 s1 ⟨v1, H1, I1, r1, h⟩
  refine Calls.spliced_cons (thn (h2.run pins s1 σ H1 _ I1 h) ?_)
  rintro u2 s2 ⟨v2, H2, I2, r2, h⟩
  refine Calls.spliced_cons (thn (h3.run pins s2 σ H2 _ I2 h) ?_)
  rintro u3 s3 ⟨v3, H3, I3, r3, hT, h⟩
  refine Calls.spliced_cons ?_
  refine LamX.lam_make2 I3 TB hcode hmT hu hT hdef (L.has I3.ok) ?_
  intro f c pm ctv H4 s4 I4 eN T4 hfo hfh hff hco
  refine Calls.spliced_nil ?_
  have q := h f c H4 eN T4 hco
  have lam : InBase X.prog X.w X.K X.mg (baseAt X s4 H4) (k + 1) f (spLam c (X.env.qual ++ "<lambda>") tb σ) :=
    lam_fn (pm := pm) (ctv := ctv) (caps_at I4 hfn) L (L.has I3.ok) (baseAt_get hfo hfh hff) (fun u => hbind _ _ _ _ _ u) fun A outer s' H' E' hr' => hbody _ (fun b o e => baseAt_ext I4 e) A outer s' H' E' f c hr'
  have F := hG _ f _ (fun b o e => baseAt_ext I4 e) lam
  have rv' : Vals [v1, v2, v3, V.ref f] [u1, u2, u3, Value.ref f] := .cons r1 (.cons r2 (.cons r3 (.cons rfl .nil)))
  refine ⟨I4.kIn, wpAny_call (codeAny_mono (F.run X.A X.stack s4 H4 ⟨[u1, u2, u3, .ref f], []⟩ [u1, u2, u3, .ref f] [v1, v2, v3, .ref f] Q E hr (env_at I4) ?_ rv' q) ?_)⟩
  · have len : [u1, u2, u3, Value.ref f].length = psg.length := by rw [← rv'.length]; exact F.len _ _ _ _ q
    have z := hb s4 [u1, u2, u3, .ref f] I4.kIn (by rw [List.append_nil]; exact len)
    rw [List.append_nil] at z
    exact z
  · intro r s' z
    rcases r with e | fl
    · exact hx pins σ H4 s4 e s' I4 z
    · rcases fl with _ | _ | _ | u
      · exact False.elim z
      · exact False.elim z
      · exact False.elim z
      · exact I4.after z
end
end G
namespace M
open PySem PySem.Spec PyProof.Rows L2 G
/-! ### a def that hands its last argument on to _law_caught at once -/
def toldD (x : D) : D := .lst [.str (Str.ofString "told"), x]
def sp_case (K : PySem.W.Frag) (tb : List (Addr × Str)) (hs : Hds) (rest : Fn) (f : Addr) (sp : Sp) : Sp := fun vs H Q _ => ∃ v1 v2 v3 al G c p1 p2 p3 Φ, vs = [v1, v2, v3, .ref f] ∧ Rep K tb al G c H ∧ Den K al G v1 p1 ∧ Den K al G v2 p2 ∧ Den K al G v3 p3 ∧ Ret K tb al G c H Φ Q ∧
  ∀ (Q' : VK) (E' : XK), Ret K tb al G c H (fun x c' => rest [p1, p2, p3, toldD x] c' noX Φ) Q' → Thr K tb al G c H (fun C g x c' => dealD K hs C g x c' fun fd c'' => rest [p1, p2, p3, fd] c'' noX Φ) E' → sp [v1] H Q' E'
def caseM (K : PySem.W.Frag) (hs : Hds) (lam : ME) (rest : Fn) (a b d : ME) : ME := fun δ c Ψ Φ => a δ c Ψ fun p1 c1 => b δ c1 Ψ fun p2 c2 => d δ c2 Ψ fun p3 c3 =>
  lam (δ ++ [some p1]) c3 (fun C g x c' => dealD K hs C g x c' fun fd c'' => rest [p1, p2, p3, fd] c'' noX Φ) fun x c' => rest [p1, p2, p3, toldD x] c' noX Φ
section
variable {K : PySem.W.Frag} {tb : List (Addr × Str)} {W : WX}
theorem snd_case {q : Str} {tbd : XK → TE} {hs : Hds} {lam : ME} {rest : Fn} {E : XK} {t1 t2 t3 : TE} {a b d : ME} (hl : ∀ E, SndE K tb (fun C d _ H => E C d H) (tbd E) lam) (h1 : SndE K tb W t1 a) (h2 : SndE K tb W t2 b) (h3 : SndE K tb W t3 d) :
    SndE K tb W (tLam4 tb q tbd (fun f sp => sp_case K tb hs rest f sp) E t1 t2 t3) (caseM K hs lam rest a b d) := by
  intro al G c H σ δ Ψ Φ Q g m qq
  refine h1 al G c H σ δ Ψ _ _ g m fun p1 c1 al1 G1 H1 v1 r1 l1 d1 m1 => ?_
  refine h2 al1 G1 c1 H1 σ δ Ψ _ _ (g.le r1 l1) m1 fun p2 c2 al2 G2 H2 v2 r2 l2 d2 m2 => ?_
  refine h3 al2 G2 c2 H2 σ δ Ψ _ _ (g.le r2 (l1.trans l2)) m2 fun p3 c3 al3 G3 H3 v3 r3 l3 d3 m3 => ?_
  refine ⟨r3.tab, fun f cc H4 ex t4 hc => ?_⟩
  have r4 := r3.extn ex t4
  have l4 : Le al3 G3 c3 H3 al3 G3 c3 H4 := Le.extn ex
  have l04 := ((l1.trans l2).trans l3).trans l4
  refine ⟨v1, v2, v3, al3, G3, c3, p1, p2, p3, Φ, rfl, r4, (d1.le l2).le l3, d2.le l3, d3, qq.le l04, fun Q' E' hQ hE => ⟨v1, rfl, hc, ?_⟩⟩
  have s2 : SRel K al3 G3 (σ ++ [some v1]) (δ ++ [some p1]) := by
    have s := g.env.le l04
    refine ⟨by rw [List.length_append, List.length_append, s.1]; rfl, fun i d hi => ?_⟩
    rcases get_app hi with h | ⟨e, e2⟩
    · obtain ⟨w, h1, h2⟩ := s.2 i d h
      exact ⟨w, app_get h1, h2⟩
    · cases e2
      refine ⟨v1, ?_, (d1.le l2).le l3⟩
      rw [e, ← s.1, List.getElem?_append_right (Nat.le_refl _), Nat.sub_self]
      rfl
  exact hl E' al3 G3 c3 H4 _ _ _ _ _ ⟨r4, s2, hE⟩ m3 hQ
/-- the def's own proof: what stands at the first assignment's two names -/
theorem case_vs {hs : Hds} {f : Addr} {sp : Sp} {rest : Fn} {vs : List V} {H : Hp} {Q : VK} {E : XK} (h : sp_case K tb hs rest f sp vs H Q E) : ∃ v1 v2 v3, vs = [v1, v2, v3, .ref f] := by
  obtain ⟨v1, v2, v3, al, G, c, p1, p2, p3, Φ, rfl, _⟩ := h
  exact ⟨v1, v2, v3, rfl⟩
theorem case_go {hs : Hds} {f : Addr} {sp : Sp} {rest : Fn} {v1 v2 v3 : V} {H : Hp} {Q : VK} {E : XK} (h : sp_case K tb hs rest f sp [v1, v2, v3, .ref f] H Q E) {E2 : XK} {Q2 : VK}
    (k : ∀ p1 p2 p3 Φ fv fd al' G' c' H', Rep K tb al' G' c' H' → Den K al' G' v1 p1 → Den K al' G' v2 p2 → Den K al' G' v3 p3 → Den K al' G' fv fd → Ret K tb al' G' c' H' Φ Q → rest [p1, p2, p3, fd] c' noX Φ → Q2 fv H') : sp_caughtG K hs f sp [.ref f, v1] H Q2 E2 := by
  obtain ⟨u1, u2, u3, al, G, c, p1, p2, p3, Φ, e, R, d1, d2, d3, q, go⟩ := h
  cases e
  have qq : Ret K tb al G c H (fun fd c'' => rest [p1, p2, p3, fd] c'' noX Φ) Q2 := fun fd c2 al2 G2 H2 fv r2 l2 df m2 => k p1 p2 p3 Φ fv fd al2 G2 c2 H2 r2 (d1.le l2) (d2.le l2) (d3.le l2) df (q.le l2) m2
  refine ⟨_, rfl, fun Q' E' hQ hE => go Q' E' ?_ ?_⟩
  · intro x c' al' G' H' v r' l' dx m
    exact hQ v H' (new_lst r' l' (.cons (.str _) (.cons dx .nil)) m qq)
  · intro C g x c' al' G' H' dd v r' l' fr hd dx m
    exact hE C g dd v H' hd (deal_ok r' l' dx qq hs m)
theorem srel_case {al : List Addr} {G : Hp} {v1 v2 v3 v4 : V} {p1 p2 p3 : D} (d1 : Den K al G v1 p1) (d2 : Den K al G v2 p2) (d3 : Den K al G v3 p3) : SRel K al G [some v1, some v2, some v3, some v4, none, none] [some p1, some p2, some p3, none, none, none] := by
  refine ⟨rfl, fun i d e => ?_⟩
  rcases i with _ | _ | _ | _ | _ | _ | i <;> simp at e
  · subst e; exact ⟨_, rfl, d1⟩
  · subst e; exact ⟨_, rfl, d2⟩
  · subst e; exact ⟨_, rfl, d3⟩
end
end M

set_option Elab.async false
set_option linter.all false
set_option maxRecDepth 100000
set_option maxHeartbeats 3900000
namespace M
open PySem PySem.Spec PyProof.Rows L2 G
/-! what the laws share: data, tested and stored -/
section
variable {K : PySem.W.Frag} {c : SH} {Ψ : XD} {Φ : QD}
theorem e_s0 {h : Str → D} {z : Str} (q : Φ (h z) c) : s0D h (.str z) [] c Φ := ⟨rfl, q⟩
theorem kss : PySem.W.kitOne K (.type "str") (.type "str") = some true := kit_ty (by decide +kernel)
theorem isi_str (z : Str) : Isi K c (.str z) (.type "str") true := isi_ty rfl kss
theorem e_ixT {x : D} {xs : List D} {i : Int} (h : atI xs i = some x) (q : Φ x c) : ixD (.tup xs) (.int i) c Φ := by
  show (match atI xs i with | some d => Φ d c | none => False)
  rw [h]
  exact q
theorem e_ixL {x : D} {xs : List D} {i : Int} (h : atI xs i = some x) (q : Φ x c) : ixD (.lst xs) (.int i) c Φ := by
  show (match atI xs i with | some d => Φ d c | none => False)
  rw [h]
  exact q
theorem e_ix0 {x : D} {xs : List D} (q : Φ x c) : ixD (.tup (x :: xs)) (.int 0) c Φ := e_ixT (atI_nat (j := 0) rfl) q
theorem e_ix1 {x y : D} {xs : List D} (q : Φ y c) : ixD (.tup (x :: y :: xs)) (.int 1) c Φ := e_ixT (atI_nat (j := 1) rfl) q
theorem lenName {z : Str} (h : isName z = true) : z.length ≤ sizeLine := Nat.le_trans (isName_ok h).1 (by decide)
theorem set_last {α : Type} {l : List α} {x y : α} : (l ++ [x]).set l.length y = l ++ [y] := by
  rw [List.set_append_right _ _ (Nat.le_refl _), Nat.sub_self]
  rfl
theorem e_put {C : Addr} {f : Str} {y : D} {fs : List (Str × D)} {N : SH → Prop} (h : fs.length < 1000) (q : N (c ++ [.ins C (putFD f y fs)])) : putD C f (.obj c.length) y (c ++ [.ins C fs]) N := by
  unfold putD
  dsimp only
  rw [List.getElem?_append_right (Nat.le_refl _), Nat.sub_self]
  show C = C ∧ fs.length < 1000 ∧ N _
  refine ⟨rfl, h, ?_⟩
  rw [set_last]
  exact q
theorem len_le {n : Nat} (h : n ≤ 1000) : n ≤ sizeLine := Nat.le_trans h (by decide)
theorem okN {a : Str} (h : isName a = true) : PyData.strOk a = true := (isName_ok h).2
theorem lst2 {α : Type} {x y : α} : [x, y].length ≤ sizeLine := by show 2 ≤ sizeLine; decide
theorem lst3 {α : Type} {x y z : α} : [x, y, z].length ≤ sizeLine := by show 3 ≤ sizeLine; decide
theorem e_listT {xs : List D} (h : xs.length ≤ sizeLine) (q : Φ (.lst xs) c) : listD false [.tup xs] c Φ := by
  first | exact ⟨h, e_ifF q⟩ | exact e_ifF q | exact q
theorem e_items {x : D} {xs : List D} {ΦI : List D → (SH → Prop) → SH → Prop} (h : itemsD (view c x) = some xs) (q : ΦI xs (fun c' => view c' x = view c x) c) : (match itemsD (view c x) with | some xs => ΦI xs (fun c' => view c' x = view c x) c | none => False) := by rw [h]; exact q
theorem pyWL_strs (ob : Nat → Option PyData) : ∀ xs : List Str, pyWL ob (xs.map .str) = some (xs.map PyData.str)
  | [] => rfl
  | x :: xs => by simp only [List.map_cons, pyWL, pyW, pyWL_strs ob xs]
theorem nbL_strs (n : Nat) : ∀ xs : List Str, nbL n (xs.map .str) = true
  | [] => rfl
  | x :: xs => by simp only [List.map_cons, nbL, nb, nbL_strs n xs, Bool.and_self]
theorem e_dnew {δ : M.Env} (q : Φ (.dic []) c) : dnewM false δ c Ψ Φ := by show newK false [] c Φ; unfold newK; exact e_ifF q
theorem view_app {xs : SH} {x : D} (h : nb c.length x = true) : view (c ++ xs) x = view c x := by
  unfold view
  split
  · rename_i k
    have : k < c.length := by simpa [nb] using h
    rw [List.getElem?_append_left this]
  · rfl
theorem isi_app {xs : SH} {x : D} {u : Value} {b : Bool} (hn : nb c.length x = true) (h : Isi K c x u b) : Isi K (c ++ xs) x u b := fun k q => by
  rw [view_app hn]
  exact h k q
theorem last_at {o : SO} {xs : SH} : ((c ++ [o]) ++ xs)[c.length]? = some o := by
  rw [List.append_assoc, List.getElem?_append_right (Nat.le_refl _), Nat.sub_self]
  rfl
theorem view_last {ys : List D} {xs : SH} : view ((c ++ [SO.lst ys]) ++ xs) (.obj c.length) = .lst ys := by
  unfold view
  dsimp only
  rw [last_at]
theorem e_append {ys : List D} {y : D} (q : Φ .non (c ++ [.lst (ys ++ [y])])) (h : ys.length < sizeLine := by decide) : appendD (.obj c.length) [y] (c ++ [.lst ys]) Φ := by
  unfold appendD oneD liveL
  dsimp only
  have e := last_at (c := c) (o := SO.lst ys) (xs := [])
  rw [List.append_nil] at e
  rw [e]
  refine ⟨h, ?_⟩
  rw [set_last]
  exact q
theorem box_len {i n : Nat} (hb : c[i]? = some (.box n)) : i < c.length := (List.getElem?_eq_some_iff.mp hb).1
theorem box_set {i n : Nat} {o : SO} (hb : c[i]? = some (.box n)) : (c.set i o)[i]? = some o := by
  rw [List.getElem?_set, if_pos rfl, if_pos (box_len hb)]
theorem okc_box {i m : Nat} : okc c (c.set i (.box m)) := fun j o h => by
  rw [List.getElem?_set] at h
  split at h
  · split at h
    · cases h; exact .inr rfl
    · cases h
  · exact .inl h
theorem clo_box {i m : Nat} {d : D} {xs : SH} (hn : nb c.length d = true) (q : Φ d (c.set i (.box m))) : clo c Φ d (c.set i (.box m) ++ xs) := by
  have e : (c.set i (SO.box m) ++ xs).take c.length = c.set i (.box m) := by
    rw [List.take_append_of_le_length (by rw [List.length_set]; exact Nat.le_refl _), List.take_of_length_le (by rw [List.length_set]; exact Nat.le_refl _)]
  refine .inr ⟨by rw [e]; exact okc_box, by rw [out1_same hn]; exact hn, ?_⟩
  rw [out1_same hn, e]
  exact q
theorem seqIx {d : Int} {n : Nat} (h0 : 0 ≤ d) (h1 : d < n) : seqIndex? d n = some d.toNat := by
  have e : (if d < 0 then d + (n : Int) else d) = d := if_neg (by omega)
  unfold seqIndex?
  simp only [e]
  first | rfl | simp [h0, h1] | (rw [if_pos ⟨h0, h1⟩])
theorem e_lenV {x : D} {ys : List D} (h : view c x = .lst ys) (q : Φ (.int ys.length) c) : lenD [x] c Φ := by
  unfold lenD oneD
  dsimp only
  rw [h]
  exact q
theorem e_popAt {k : Nat} {ys : List D} {d : Int} {y : D} (hv : c[k]? = some (.lst ys)) (h0 : 0 ≤ d) (h1 : d < ys.length) (hl : ys.length ≤ 1000) (hy : ys[d.toNat]? = some y) (q : Φ y (c.set k (.lst (ys.eraseIdx d.toNat)))) : popAtD (.obj k) [.int d] c Φ := by
  unfold popAtD oneD M.intD liveL
  dsimp only
  refine ⟨⟨by omega, by omega⟩, ?_⟩
  rw [hv]
  dsimp only
  rw [seqIx h0 h1]
  dsimp only
  rw [hy]
  exact q
theorem e_ixS {z : Str} {i : Int} {k : Nat} (hz : z.length ≤ sizeLine) (h : atI z.cps.toList i = some k) (q : Φ (.str ⟨#[k]⟩) c) : ixD (.str z) (.int i) c Φ := by
  refine ⟨hz, ?_⟩
  rw [h]
  exact q
theorem e_gtup2 {x y : D} {i j : Nat} {δ : M.Env} {N : M.Env → SH → Prop} (q : N ((δ.set i (some x)).set j (some y)) c) : gtupM (gconsM i (gconsM j gnilM)) (.tup [x, y]) δ c Ψ N := ⟨rfl, q⟩
theorem e_slS {z : Str} {lo hi : Option Int} (hz : z.length ≤ sizeLine) (q : Φ (.str (cutS z lo hi)) c) : slD false (.str z) lo hi c Φ := ⟨hz, q⟩
theorem e_slL {xs : List D} {lo hi : Option Int} (hz : (cutD xs lo hi).length ≤ sizeLine) (q : Φ (.lst (cutD xs lo hi)) c) : slD false (.lst xs) lo hi c Φ := ⟨hz, e_ifF q⟩
theorem lettersOk : lettersS.length ≤ sizeLine := by decide +kernel
theorem fm_some (g : Nat → Str) : ∀ l : List Nat, l.filterMap (fun k => some (D.str (g k))) = (l.map g).map D.str
  | [] => rfl
  | x :: l => by simp only [List.filterMap_cons, List.map_cons, fm_some g l]
theorem rng_map (n : Nat) : rngD 0 n = (List.range n).map fun i => D.int (0 + (i : Nat)) := rfl
theorem e_joinE {ys : List Str} (h : (ys.map (·.length)).sum + ys.length * 0 ≤ 16777216) (q : Φ (.str (Txt.join (Str.ofString "") ys)) c) : joinD (.str (Str.ofString "")) [.lst (ys.map .str)] c Φ := by
  have e : strsD (ys.map .str) = some ys := by
    clear h q
    induction ys with
    | nil => rfl
    | cons y ys ih => simp only [List.map_cons, strsD, ih]
  unfold joinD oneD
  dsimp only
  show (match strsD (ys.map .str) with | some zs => _ | none => _)
  rw [e]
  refine ⟨?_, q⟩
  rw [show (Str.ofString "").length = 0 by decide +kernel]
  exact h
theorem cutD_to (xs : List Str) (n : Int) (h0 : 0 ≤ n) : M.cutD (xs.map D.str) none (some n) = (xs.take n.toNat).map D.str := by
  have e : HT.sIx (xs.map D.str).length (xs.map D.str).length (some n) = min n.toNat (xs.map D.str).length := by
    show (if n < 0 then (n + ((xs.map D.str).length : Int)).toNat else min n.toNat (xs.map D.str).length) = _
    rw [if_neg (by omega)]
  unfold M.cutD
  simp only [HT.sIx_none, e, List.drop_zero, Nat.sub_zero]
  rw [← List.take_take, List.take_length, List.map_take]
theorem cm5 (k : Nat) (a : Int) (h : -1000 < a) (h2 : a < 1000) : CMul a (k : Int) := .inl ⟨by omega, by omega⟩
theorem for_ix {gd : SH → Prop} {g : MG} {b : MS} {e : EndsD} (P : Nat → M.Env → SH → Prop) (K0 : Nat) : ∀ (xs : List D) (k : Nat), k + xs.length ≤ K0 →
    (∀ x ∈ xs, ∀ (k : Nat) (δ : M.Env) (c : SH) (e' : EndsD), k < K0 → P k δ c → (∀ δ c, P (k + 1) δ c → e'.nx δ c) → gd c ∧ g x δ c (e.x δ) fun δ1 c1 => b δ1 c1 e') → (∀ δ c, P (k + xs.length) δ c → gd c ∧ e.nx δ c) → ∀ δ c, P k δ c → forD gd g b xs δ c e
  | [], k, _, _, fin, δ, c, h => fin δ c h
  | x :: xs, k, hk, step, fin, δ, c, h => by
    have go := for_ix P K0 xs (k + 1) (by simp at hk; omega) (fun y hy => step y (List.mem_cons_of_mem _ hy)) (fun δ c h => fin δ c (by rw [List.length_cons, show k + (xs.length + 1) = k + 1 + xs.length by omega]; exact h))
    exact step x List.mem_cons_self k δ c _ (by simp at hk; omega) h (fun δ c h => go δ c h)
end
end M

set_option Elab.async false
set_option linter.all false
set_option maxRecDepth 100000
set_option maxHeartbeats 3900000
namespace M
open PySem PySem.Spec PyProof.Rows L2 G
/-! going through mirrors: dicts -/
section
variable {K : PySem.W.Frag} {δ : Env} {c : SH} {Ψ : XD} {Φ : QD} {a b k e : ME} {A : MA} {g : MG} {t : MT} {mi : MI} {x y : D} {ΦI : List D → (SH → Prop) → SH → Prop} {kvs : List (Key × D)}
theorem e_sz {α : Type} {xs : List α} {p : Prop} (h : Nat.ble xs.length sizeLine = true) (q : p) : xs.length ≤ sizeLine ∧ p := ⟨Nat.le_of_ble_eq_true h, q⟩
theorem e_ixL0 {xs : List D} (q : Φ x c) : ixD (.lst (x :: xs)) (.int 0) c Φ := e_ixL (atI_nat (j := 0) rfl) q
theorem e_ixL1 {x y : D} {xs : List D} (q : Φ y c) : ixD (.lst (x :: y :: xs)) (.int 1) c Φ := e_ixL (atI_nat (j := 1) rfl) q
theorem e_ixL2 {x y z : D} {xs : List D} (q : Φ z c) : ixD (.lst (x :: y :: z :: xs)) (.int 2) c Φ := e_ixL (atI_nat (j := 2) rfl) q
def itMK (ΦI : List D → (SH → Prop) → SH → Prop) (x : D) (c : SH) : Prop := match itemsD (view c x) with
  | some xs => ΦI xs (fun c' => view c' x = view c x) c
  | none => False
theorem e_itM (h : a δ c Ψ (itMK ΦI)) : itM a δ c Ψ ΦI := h
theorem e_itL {xs : List D} (h : ΦI xs (fun c' => view c' (.lst xs) = view c (.lst xs)) c) : itMK ΦI (.lst xs) c := h
theorem e_itT {xs : List D} (h : ΦI xs (fun c' => view c' (.tup xs) = view c (.tup xs)) c) : itMK ΦI (.tup xs) c := h
theorem e_itO {x : D} {xs : List D} (e : view c x = .lst xs) (h : ΦI xs (fun c' => view c' x = view c x) c) : itMK ΦI x c := by
  unfold itMK
  rw [e] at h ⊢
  exact h
def itemsK (ΦI : List D → (SH → Prop) → SH → Prop) (x : D) (c : SH) : Prop := match x with
  | .dic kvs => ΦI (kvs.map fun kv => .tup [keyOD kv.1, kv.2]) (fun _ => True) c
  | _ => False
def valuesK (ΦI : List D → (SH → Prop) → SH → Prop) (x : D) (c : SH) : Prop := match x with
  | .dic kvs => ΦI (kvs.map (·.2)) (fun _ => True) c
  | _ => False
theorem e_itemsM (h : a δ c Ψ (itemsK ΦI)) : itemsM a δ c Ψ ΦI := h
theorem e_valuesM (h : a δ c Ψ (valuesK ΦI)) : valuesM a δ c Ψ ΦI := h
theorem e_itemsD (h : ΦI (kvs.map fun kv => .tup [keyOD kv.1, kv.2]) (fun _ => True) c) : itemsK ΦI (.dic kvs) c := h
theorem e_valuesD (h : ΦI (kvs.map (·.2)) (fun _ => True) c) : valuesK ΦI (.dic kvs) c := h
theorem e_dc {vs : List Nat} (h : mi δ c Ψ fun xs gd c1 => dcD gd (turnK g t k e (wipeD δ vs)) xs [] c1 fun kvs c2 => newK false kvs c2 Φ) : dcM false mi g t k e vs δ c Ψ Φ := h
theorem e_lenD (q : Φ (.int kvs.length) c) : lenD [.dic kvs] c Φ := q
theorem e_newK (q : Φ (.dic kvs) c) : newK false kvs c Φ := by unfold newK; exact e_ifF q
def turnKK (kk : Option (Key × D) → SH → Prop) (z y : D) (c : SH) : Prop := match keyD y with
  | some j => kk (some (j, z)) c
  | none => False
theorem e_turnK {kk : Option (Key × D) → SH → Prop} (h : g x δ c noX fun δ2 c2 => t δ2 c2 noX fun b c3 => if b = true then k δ2 c3 noX fun y c4 => e δ2 c4 noX fun z c5 => turnKK kk z y c5 else kk none c3) : turnK g t k e δ x c kk := h
theorem e_keyS {kk : Option (Key × D) → SH → Prop} {z : D} {s : Str} (q : kk (some (.inr s, z)) c) : turnKK kk z (.str s) c := q
theorem putKD_new {acc : List (Key × D)} {j : Key} {z : D} (h : j ∉ acc.map (·.1)) : putKD acc j z = acc ++ [(j, z)] := by
  unfold putKD
  rw [if_neg]
  intro h2
  obtain ⟨kv, h3, h4⟩ := List.any_eq_true.mp h2
  exact h (List.mem_map.mpr ⟨kv, h3, of_decide_eq_true h4⟩)
theorem dc_map {α : Type} {gd : SH → Prop} {turn : D → SH → (Option (Key × D) → SH → Prop) → Prop} {ΦK : List (Key × D) → SH → Prop} (F : α → D) (f : α → Key × D) (hg : gd c) : ∀ (ys : List α) (acc : List (Key × D)), (acc.map (·.1) ++ ys.map fun y => (f y).1).Nodup → acc.length + ys.length < sizeLine → (∀ y ∈ ys, ∀ kk, kk (some (f y)) c → turn (F y) c kk) → ΦK (acc ++ ys.map f) c → dcD gd turn (ys.map F) acc c ΦK
  | [], acc, _, _, _, q => ⟨hg, by simpa using q⟩
  | y :: ys, acc, nd, hl, step, q => by
    refine ⟨hg, step y List.mem_cons_self _ ⟨by simp at hl; omega, ?_⟩⟩
    have e : putKD acc (f y).1 (f y).2 = acc ++ [f y] := putKD_new fun h => by
      have := List.nodup_append.mp nd
      exact this.2.2 _ h _ (List.mem_map.mpr ⟨y, List.mem_cons_self, rfl⟩) rfl
    show dcD gd turn (ys.map F) (putKD acc (f y).1 (f y).2) c ΦK
    rw [e]
    refine dc_map F f hg ys _ ?_ (by simp at hl ⊢; omega) (fun z hz => step z (List.mem_cons_of_mem _ hz)) (by simpa using q)
    simpa [List.map_append, List.append_assoc] using nd
theorem merge_new : ∀ (more acc : List (Key × D)), (acc.map (·.1) ++ more.map (·.1)).Nodup → mergeD acc more = acc ++ more
  | [], acc, _ => by simp [mergeD]
  | kv :: more, acc, nd => by
    have e : putKD acc kv.1 kv.2 = acc ++ [kv] := putKD_new fun h => by
      have := List.nodup_append.mp nd
      exact this.2.2 _ h _ (List.mem_map.mpr ⟨kv, List.mem_cons_self, rfl⟩) rfl
    show mergeD (putKD acc kv.1 kv.2) more = _
    rw [e, merge_new more _ (by simpa [List.map_append, List.append_assoc] using nd)]
    simp
theorem e_dget {d : D} {s : Str} (h : valD kvs (.inr s) = some d) (q : Φ d c) : dgetD (.dic kvs) (.str s) c Φ := by
  show (match valD kvs (.inr s) with | some d => Φ d c | none => False)
  rw [h]
  exact q
theorem e_dict (h : A δ c Ψ fun xs c1 => dictD xs c1 fun kvs => newK false kvs c1 Φ) : dictM false A δ c Ψ Φ := h
theorem e_dictC {kk : List (Key × D) → Prop} (q : kk kvs) : dictD [.dic kvs] c kk := q
theorem e_dictP {ys : List D} {kk : List (Key × D) → Prop} (h : pairsD ys = some kvs) (q : kk (mergeD [] kvs)) : dictD [.lst ys] c kk := by
  show (match pairsD ys with | some kvs => kk (mergeD [] kvs) | none => False)
  rw [h]
  exact q
theorem pairs_map {α : Type} (f : α → Str × D) : ∀ ys : List α, pairsD (ys.map fun y => .tup [.str (f y).1, (f y).2]) = some (ys.map fun y => (.inr (f y).1, (f y).2))
  | [] => rfl
  | y :: ys => by
    rw [List.map_cons, List.map_cons]
    simp only [pairsD, keyD, pairs_map f ys]
theorem e_sortedK {ks : List Str} (h : keysS kvs = some ks) (h64 : ks.length < 64) (q : ∀ ys : List Str, ys.Perm ks → sortedS ys = true → Φ (.lst (ys.map .str)) c) : orC (sortedD false) (sortedKD false) [.dic kvs] c Φ :=
  .inr ⟨ks, h, h64, fun ys h1 h2 => ⟨by rw [List.length_map, h1.length_eq]; exact Nat.le_trans (Nat.le_of_lt h64) (by decide), e_ifF (q ys h1 h2)⟩⟩
theorem e_gtup3n {i j l : Nat} {x y z : D} {N : Env → SH → Prop} (q : N (((δ.set i (some x)).set j (some y)).set l (some z)) c) : gtupnM 2 (gconsM i (gconsXM (gtupnM 2 (gconsM j (gconsM l gnilM))) gnilM)) (.tup [x, .tup [y, z]]) δ c Ψ N := ⟨rfl, rfl, rfl, rfl, q⟩
def lkK (Φ : QD) (x : D) (c1 : SH) : Prop := match x with
  | .obj k => match c1[k]? with
    | some (.dic xs) => Φ (.dic xs) (c1.set k (.frz (.dic xs)))
    | _ => False
  | _ => False
theorem e_lkM (h : a δ c Ψ (lkK Φ)) : lkM a δ c Ψ Φ := h
theorem e_lkD {k : Nat} (h : c[k]? = some (.dic kvs)) (q : Φ (.dic kvs) (c.set k (.frz (.dic kvs)))) : lkK Φ (.obj k) c := by
  unfold lkK
  dsimp only
  rw [h]
  exact q
def dputK (e : EndsD) (δ : Env) (z x y : D) (c3 : SH) : Prop := match x, keyD y with
  | .obj k, some j => (match c3[k]? with
    | some (.dic kvs) => kvs.length < sizeLine ∧ e.nx δ (c3.set k (.dic (putKD kvs j z)))
    | _ => False)
  | _, _ => False
theorem e_dputM {o i v : ME} {e : EndsD} (h : v δ c (e.x δ) fun z c1 => o δ c1 (e.x δ) fun x c2 => i δ c2 (e.x δ) fun y c3 => dputK e δ z x y c3) : dputM o i v δ c e := h
theorem e_dputD {e : EndsD} {z : D} {k : Nat} {s : Str} (h : c[k]? = some (.dic kvs)) (hl : kvs.length < sizeLine) (q : e.nx δ (c.set k (.dic (putKD kvs (.inr s) z)))) : dputK e δ z (.obj k) (.str s) c := by
  unfold dputK
  simp only [keyD, h]
  exact ⟨hl, q⟩
theorem e_dnewT (q : Φ (.obj c.length) (c ++ [.dic []])) : dnewM true δ c Ψ Φ := by show newK true [] c Φ; unfold newK; exact e_ifT q
theorem e_isN (q : Φ (.bl (nonD x)) c) : isD x .non c Φ := by cases x <;> exact q
theorem e_isntN (q : Φ (.bl (!nonD x)) c) : isntD x .non c Φ := by cases x <;> exact q
theorem ints_of_map {α : Type} (f : α → Int) : ∀ ys : List α, intsD (ys.map fun y => .int (f y)) = some (ys.map f)
  | [] => rfl
  | y :: ys => by rw [List.map_cons, List.map_cons]; simp only [intsD, ints_of_map f ys]
theorem e_maxL {zs : List Int} (h0 : zs ≠ []) (q : ∀ m, m ∈ zs → (∀ y, y ∈ zs → y ≤ m) → Φ (.int m) c) : orC max2D maxLD [.lst (zs.map .int)] c Φ := .inr ⟨zs, by have := ints_of_map (fun i : Int => i) zs; simpa using this, List.length_pos_iff.mpr h0, q⟩
theorem e_minL {zs : List Int} (h0 : zs ≠ []) (q : ∀ m, m ∈ zs → (∀ y, y ∈ zs → m ≤ y) → Φ (.int m) c) : orC min2D minLD [.lst (zs.map .int)] c Φ := .inr ⟨zs, by have := ints_of_map (fun i : Int => i) zs; simpa using this, List.length_pos_iff.mpr h0, q⟩
theorem e_caseM {K : PySem.W.Frag} {hs : Hds} {lam d3 : ME} {rest : Fn} (h : a δ c Ψ fun p1 c1 => b δ c1 Ψ fun p2 c2 => d3 δ c2 Ψ fun p3 c3 => lam (δ ++ [some p1]) c3 (fun C g x c' => dealD K hs C g x c' fun fd c'' => rest [p1, p2, p3, fd] c'' noX Φ) fun x c' => rest [p1, p2, p3, toldD x] c' noX Φ) : caseM K hs lam rest a b d3 δ c Ψ Φ := h
theorem e_powI {i j : Int} (h : CPow i j) (q : Φ (.int (i ^ j.toNat)) c) : powD (.int i) (.int j) c Φ := ⟨h, q⟩
theorem fm_map {α β : Type} (f : α → β) (l : List α) : l.filterMap (fun x => some (f x)) = l.map f := by induction l with
  | nil => rfl
  | cons x l ih => rw [List.filterMap_cons, List.map_cons, ih]
theorem e_negI {i : Int} (q : Φ (.int (-i)) c) : negD (.int i) c Φ := q
theorem e_ifd {p : Prop} [Decidable p] {u v : Prop} (h1 : p → u) (h2 : ¬ p → v) : (if decide p = true then u else v) := by
  by_cases h : p
  · rw [decide_eq_true h]; exact e_ifT (h1 h)
  · rw [decide_eq_false h]; exact e_ifF (h2 h)
theorem e_ifdT {p : Prop} [Decidable p] {u v : Prop} (h : p) (q : u) : (if decide p = true then u else v) := by rw [decide_eq_true h]; exact e_ifT q
theorem e_ifdF {p : Prop} [Decidable p] {u v : Prop} (h : ¬ p) (q : v) : (if decide p = true then u else v) := by rw [decide_eq_false h]; exact e_ifF q
theorem e_ifnT {p : Prop} [Decidable p] {u v : Prop} (h : p) (q : v) : (if (!decide p) = true then u else v) := by rw [decide_eq_true h]; exact e_ifNT q
theorem e_ifnF {p : Prop} [Decidable p] {u v : Prop} (h : ¬ p) (q : u) : (if (!decide p) = true then u else v) := by rw [decide_eq_false h]; exact e_ifNF q
end
end M

set_option Elab.async false
set_option linter.all false
set_option maxRecDepth 100000
set_option maxHeartbeats 3900000
namespace M
open PySem PySem.Spec PyProof.Rows L2 G
theorem lt_sz {n : Nat} (h : n ≤ 1000) : n < sizeLine := Nat.lt_of_le_of_lt h (by decide)
theorem for_until {α : Type} {gd : SH → Prop} {g : MG} {b : MS} {e : EndsD} (F : α → D) (P : Env → SH → Prop) (R : α → Bool) : ∀ (xs : List α),
    (∀ x ∈ xs, R x = false → ∀ (δ : Env) (c : SH) (e' : EndsD), P δ c → (∀ δ c, P δ c → e'.nx δ c) → e'.rt = e.rt → e'.xc = e.xc → gd c ∧ g (F x) δ c (e.x δ) fun δ1 c1 => b δ1 c1 e') →
    (∀ x, xs.find? R = some x → ∀ (δ : Env) (c : SH) (e' : EndsD), P δ c → e'.rt = e.rt → e'.xc = e.xc → gd c ∧ g (F x) δ c (e.x δ) fun δ1 c1 => b δ1 c1 e') →
    (xs.find? R = none → ∀ δ c, P δ c → gd c ∧ e.nx δ c) → ∀ δ c, P δ c → forD gd g b (xs.map F) δ c e
  | [], _, _, fin, δ, c, h => fin rfl δ c h
  | x :: xs, step, out, fin, δ, c, h => by
    cases hR : R x with
    | true => exact out x (by rw [List.find?_cons_of_pos hR]) δ c _ h rfl rfl
    | false =>
      have ef : (x :: xs).find? R = xs.find? R := List.find?_cons_of_neg (by rw [hR]; decide)
      have go := for_until F P R xs (fun y hy => step y (List.mem_cons_of_mem _ hy)) (fun y hy => out y (ef.trans hy)) (fun hy => fin (ef.trans hy))
      exact step x List.mem_cons_self hR δ c _ h (fun δ c h => go δ c h) rfl rfl
theorem for_pre {α : Type} {gd : SH → Prop} {g : MG} {b : MS} {e : EndsD} (F : α → D) (P : List α → Env → SH → Prop) : ∀ (xs pre : List α),
    (∀ pre' x post, pre ++ xs = pre' ++ x :: post → ∀ (δ : Env) (c : SH) (e' : EndsD), P pre' δ c → (∀ δ c, P (pre' ++ [x]) δ c → e'.nx δ c) → (∀ δ c, P (pre' ++ [x]) δ c → e'.ct δ c) → e'.rt = e.rt → e'.xc = e.xc → gd c ∧ g (F x) δ c (e.x δ) fun δ1 c1 => b δ1 c1 e') →
    (∀ δ c, P (pre ++ xs) δ c → gd c ∧ e.nx δ c) → ∀ δ c, P pre δ c → forD gd g b (xs.map F) δ c e
  | [], pre, _, fin, δ, c, h => fin δ c (by rw [List.append_nil]; exact h)
  | x :: xs, pre, step, fin, δ, c, h => by
    have e : pre ++ x :: xs = (pre ++ [x]) ++ xs := by simp
    have go := for_pre F P xs (pre ++ [x]) (fun p y q he => step p y q (e.trans he)) (fun δ c h => fin δ c (by rw [e]; exact h))
    exact step pre x xs rfl δ c _ h (fun δ c h => go δ c h) (fun δ c h => go δ c h) rfl rfl
theorem box_self {c : SH} {i n : Nat} (h : c[i]? = some (.box n)) : c.set i (.box n) = c := by
  apply List.ext_getElem?
  intro j
  rw [List.getElem?_set]
  split
  · rename_i e
    subst e
    rw [h, if_pos (List.getElem?_eq_some_iff.mp h).1]
  · rfl
/-! a box and one more object -/
def st1 (c : SH) (i j : Nat) (o : SO) : SH := c.set i (.box j) ++ [o]
section
variable {c : SH} {i n j k : Nat} {o o' : SO}
theorem st1_box (h : c[i]? = some (.box n)) : (st1 c i j o)[i]? = some (.box j) := by
  unfold st1
  rw [List.getElem?_append_left (by rw [List.length_set]; exact box_len h)]
  exact box_set h
theorem st1_set (h : c[i]? = some (.box n)) : (st1 c i j o).set i (.box k) = st1 c i k o := by
  unfold st1
  rw [List.set_append_left _ _ (by rw [List.length_set]; exact box_len h), List.set_set]
theorem st1_at : (st1 c i j o)[c.length]? = some o := by
  unfold st1
  rw [List.getElem?_append_right (by rw [List.length_set]; exact Nat.le_refl _), List.length_set, Nat.sub_self]
  rfl
theorem st1_put : (st1 c i j o).set c.length o' = st1 c i j o' := by
  unfold st1
  rw [List.set_append_right _ _ (by rw [List.length_set]; exact Nat.le_refl _), List.length_set, Nat.sub_self]
  rfl
end
/-! ### sorted texts: one order alone -/
def leS (a b : Str) : Prop := ¬ b.cps.toList < a.cps.toList
theorem leS_anti {a b : Str} (h1 : leS a b) (h2 : leS b a) : a = b := ext_cps (List.le_antisymm (List.not_lt.mp h1) (List.not_lt.mp h2))
theorem leS_trans {a b d : Str} (h1 : leS a b) (h2 : leS b d) : leS a d := List.not_lt.mpr (List.le_trans (List.not_lt.mp h1) (List.not_lt.mp h2))
theorem rising_pw : ∀ (r : List Str) (x : Str), risingS x r = true → (x :: r).Pairwise leS
  | [], x, _ => by simp
  | y :: r, x, h => by
    unfold risingS at h
    simp only [Bool.and_eq_true, Bool.not_eq_true', decide_eq_false_iff_not] at h
    have ih := rising_pw r y h.2
    refine List.pairwise_cons.mpr ⟨fun z hz => ?_, ih⟩
    have h1 : leS x y := by have := h.1; rw [ltCps_eq] at this; exact of_decide_eq_false this
    rcases List.mem_cons.mp hz with rfl | hz
    · exact h1
    · exact leS_trans h1 ((List.pairwise_cons.mp ih).1 z hz)
theorem sorted_pw {ys : List Str} (h : sortedS ys = true) : ys.Pairwise leS := by
  cases ys with
  | nil => exact .nil
  | cons x r => exact rising_pw r x h
theorem perm_pw : ∀ {xs ys : List Str}, xs.Pairwise leS → ys.Pairwise leS → xs.Perm ys → xs = ys
  | [], ys, _, _, p => (List.Perm.eq_nil p.symm).symm
  | x :: xs, [], _, _, p => List.Perm.eq_nil p
  | x :: xs, y :: ys, h1, h2, p => by
    have e : x = y := by
      rcases List.mem_cons.mp (p.mem_iff.mp (List.mem_cons_self (a := x))) with h | h
      · exact h
      · rcases List.mem_cons.mp (p.mem_iff.mpr (List.mem_cons_self (a := y))) with h' | h'
        · exact h'.symm
        · exact leS_anti ((List.pairwise_cons.mp h1).1 y h') ((List.pairwise_cons.mp h2).1 x h)
    subst e
    rw [perm_pw (List.pairwise_cons.mp h1).2 (List.pairwise_cons.mp h2).2 (List.Perm.cons_inv p)]
theorem sorted_one {xs ys : List Str} (h1 : sortedS xs = true) (h2 : sortedS ys = true) (p : xs.Perm ys) : xs = ys := perm_pw (sorted_pw h1) (sorted_pw h2) p
/-! ### things by names -/
section
variable {β : Type}
def pick (ps : List (Str × β)) (d : β) (y : Str) : Str × β := match ps.find? (fun p => decide (p.1 = y)) with
  | some p => p
  | none => (y, d)
theorem pick_fst {ps : List (Str × β)} {d : β} {y : Str} : (pick ps d y).1 = y := by
  unfold pick
  split
  · rename_i p h
    have := List.find?_some h
    simpa using this
  · rfl
theorem pick_self {d : β} : ∀ {ps : List (Str × β)} {p : Str × β}, (ps.map (·.1)).Nodup → p ∈ ps → pick ps d p.1 = p
  | [], p, _, h => by cases h
  | q :: ps, p, nd, h => by
    obtain ⟨n1, n2⟩ := List.nodup_cons.mp nd
    rcases List.mem_cons.mp h with rfl | h
    · unfold pick
      rw [List.find?_cons_of_pos (by simp)]
    · have ne : q.1 ≠ p.1 := fun e => n1 (List.mem_map.mpr ⟨p, h, e.symm⟩)
      have := pick_self (d := d) n2 h
      unfold pick at this ⊢
      rw [List.find?_cons_of_neg (by simpa using ne)]
      exact this
theorem pick_map {ps : List (Str × β)} {d : β} (nd : (ps.map (·.1)).Nodup) : (ps.map (·.1)).map (pick ps d) = ps := by
  rw [List.map_map]
  conv => rhs; rw [← List.map_id ps]
  exact List.map_congr_left fun p hp => pick_self nd hp
theorem keys_map {ps : List (Str × β)} {d : β} (ys : List Str) : (ys.map (pick ps d)).map (·.1) = ys := by
  rw [List.map_map]
  conv => rhs; rw [← List.map_id ys]
  exact List.map_congr_left fun y _ => pick_fst
/-- the same things, both sorted by their names -/
theorem byname_one {d : β} {ps qs : List (Str × β)} (nd : (ps.map (·.1)).Nodup) (p : qs.Perm ps) (h1 : sortedS (qs.map (·.1)) = true) (h2 : sortedS (ps.map (·.1)) = true) : qs = ps := by
  have e : qs.map (·.1) = ps.map (·.1) := sorted_one h1 h2 (p.map _)
  have nd2 : (qs.map (·.1)).Nodup := by rw [e]; exact nd
  rw [← pick_map (d := d) nd2, e]
  conv => rhs; rw [← pick_map (d := d) nd]
  refine List.map_congr_left fun y hy => ?_
  obtain ⟨r, hr, rfl⟩ := List.mem_map.mp hy
  rw [pick_self nd hr, pick_self nd2 (p.mem_iff.mpr hr)]
end
end M

set_option Elab.async false
set_option linter.all false
set_option maxRecDepth 100000
set_option maxHeartbeats 3900000
namespace M
open PySem PySem.Spec PyProof.Rows L2 G
/-! ### odd values: equal to themselves, a bool or none -/
structure Od (K : PySem.W.Frag) (op : D → D → SH → QD → Prop) (x : D) : Prop where
  bo : ∃ b, ∀ c, Isi K c x (.type "bool") b
  eq : ∀ (c : SH) (Φ : QD), Φ (.bl true) c → op x x c Φ
  nb : ∀ n, nb n x = true
section
variable {K : PySem.W.Frag} {o1 o2 : D → D → SH → QD → Prop} {x : D}
theorem Od.l (h : Od K o1 x) : Od K (orD o1 o2) x := ⟨h.bo, fun c Φ q => .inl (h.eq c Φ q), h.nb⟩
theorem Od.r (h : Od K o2 x) : Od K (orD o1 o2) x := ⟨h.bo, fun c Φ q => .inr (h.eq c Φ q), h.nb⟩
theorem od_sc {n : String} {b : Bool} (h : scD x x = some true) (ht : ∀ c : SH, tyD (view c x) = some n) (hb : PySem.W.kitOne K (.type n) (.type "bool") = some b) (hn : ∀ n, nb n x = true) : Od K eqD x :=
  ⟨⟨b, fun c => isi_ty (ht c) hb⟩, fun c Φ q => e_sc h q, hn⟩
theorem od_str (z : Str) : Od K eqD (.str z) := od_sc (b := false) (by show some (decide (z = z)) = _; rw [decide_eq_true rfl]) (fun _ => rfl) (kit_ty (by decide +kernel)) (fun _ => rfl)
theorem od_non : Od K eqD .non := od_sc (b := false) rfl (fun _ => rfl) (kit_ty (by decide +kernel)) (fun _ => rfl)
theorem od_int (i : Int) : Od K eqD (.int i) := od_sc (b := false) (by show some (decide (i = i)) = _; rw [decide_eq_true rfl]) (fun _ => rfl) (kit_ty (by decide +kernel)) (fun _ => rfl)
theorem od_bl (b : Bool) : Od K eqD (.bl b) := od_sc (b := true) (by cases b <;> rfl) (fun _ => rfl) (kit_ty (by decide +kernel)) (fun _ => rfl)
/-- a list or tuple of plain data -/
theorem od_py {p : PyData} {n : String} (h0 : scD x x = none) (h : ∀ c : SH, pyC c x = some p) (s : SeqAt.shaped p = true) (e : PyData.eqv p p = true) (ht : ∀ c : SH, tyD (view c x) = some n) (hb : PySem.W.kitOne K (.type n) (.type "bool") = some false) (hn : ∀ n, nb n x = true) : Od K eqD x :=
  ⟨⟨false, fun c => isi_ty (ht c) hb⟩, fun c Φ q => e_py h0 (h c) (h c) s s (by rw [e]; exact q), hn⟩
theorem od_dic0 : Od K (eqKD id) (.dic []) := ⟨⟨false, fun c => isi_ty rfl (kit_ty (by decide +kernel))⟩, fun c Φ q => q, fun n => rfl⟩
theorem od_lst1 (i : Int) : Od K eqD (.lst [.int i]) := od_py (p := .list [.int i]) rfl (fun _ => rfl) rfl (by simp [PyData.eqv, PyData.eqvAll]) (fun _ => rfl) (kit_ty (by decide +kernel)) (fun _ => rfl)
theorem od_tup1 (i : Int) : Od K eqD (.tup [.int i]) := od_py (p := .tuple [.int i]) rfl (fun _ => rfl) rfl (by simp [PyData.eqv, PyData.eqvAll]) (fun _ => rfl) (kit_ty (by decide +kernel)) (fun _ => rfl)
end
end M

set_option Elab.async false
set_option linter.all false
set_option maxRecDepth 100000
set_option maxHeartbeats 3900000
namespace K11
open PySem PySem.Spec PyProof.Rows L2 G M
def topS (i : Nat) : Stmt := PySem.Challenge.pw_chaincompass_k11_placings_moved.main.body.getD i (.Pass ⟨0, 0, 0, 0⟩)
abbrev s_is_name : Stmt := topS 12
theorem sc_is_name : FnScope ["value"] ["value"] (defScope s_is_name) := ⟨rfl, rfl, rfl, by decide +kernel, rfl, by decide +kernel, by decide +kernel⟩
abbrev s_is_integer : Stmt := topS 10
theorem sc_is_integer : FnScope ["value", "low", "high"] ["value", "low", "high"] (defScope s_is_integer) := ⟨rfl, rfl, rfl, by decide +kernel, rfl, by decide +kernel, by decide +kernel⟩
abbrev s_is_whole : Stmt := topS 11
theorem sc_is_whole : FnScope ["value"] ["value"] (defScope s_is_whole) := ⟨rfl, rfl, rfl, by decide +kernel, rfl, by decide +kernel, by decide +kernel⟩
abbrev s_is_point : Stmt := topS 15
theorem sc_is_point : FnScope ["value", "number"] ["value"] (defScope s_is_point) := ⟨rfl, rfl, rfl, by decide +kernel, rfl, by decide +kernel, by decide +kernel⟩
abbrev s_Placing_init : Stmt := inClass (topS 16) 0
theorem sc_Placing_init : FnScope ["self", "points", "name", "point"] ["self", "points"] (defScope s_Placing_init) := ⟨rfl, rfl, rfl, by decide +kernel, rfl, by decide +kernel, by decide +kernel⟩
abbrev s_Placing_points : Stmt := inClass (topS 16) 3
theorem sc_Placing_points : FnScope ["self"] ["self"] (defScope s_Placing_points) := ⟨rfl, rfl, rfl, by decide +kernel, rfl, by decide +kernel, by decide +kernel⟩
abbrev s_Placing_eq : Stmt := inClass (topS 16) 5
theorem sc_Placing_eq : FnScope ["self", "other"] ["self", "other"] (defScope s_Placing_eq) := ⟨rfl, rfl, rfl, by decide +kernel, rfl, by decide +kernel, by decide +kernel⟩
abbrev s_Placing_placed : Stmt := inClass (topS 16) 9
theorem sc_Placing_placed : FnScope ["self", "points", "point", "number"] ["self", "points"] (defScope s_Placing_placed) := ⟨rfl, rfl, rfl, by decide +kernel, rfl, by decide +kernel, by decide +kernel⟩
abbrev s_Placing_moved : Stmt := inClass (topS 16) 10
theorem sc_Placing_moved : FnScope ["self", "dx", "dy", "number", "name", "x", "y"] ["self", "dx", "dy"] (defScope s_Placing_moved) := ⟨rfl, rfl, rfl, by decide +kernel, rfl, by decide +kernel, by decide +kernel⟩
abbrev s_Placing_turned : Stmt := inClass (topS 16) 11
theorem sc_Placing_turned : FnScope ["self", "name", "x", "y"] ["self"] (defScope s_Placing_turned) := ⟨rfl, rfl, rfl, by decide +kernel, rfl, by decide +kernel, by decide +kernel⟩
abbrev s_Placing_mirrored : Stmt := inClass (topS 16) 12
theorem sc_Placing_mirrored : FnScope ["self", "name", "x", "y"] ["self"] (defScope s_Placing_mirrored) := ⟨rfl, rfl, rfl, by decide +kernel, rfl, by decide +kernel, by decide +kernel⟩
abbrev s_Placing_stretched : Stmt := inClass (topS 16) 13
theorem sc_Placing_stretched : FnScope ["self", "factor", "name", "x", "y"] ["self", "factor"] (defScope s_Placing_stretched) := ⟨rfl, rfl, rfl, by decide +kernel, rfl, by decide +kernel, by decide +kernel⟩
abbrev s_l_cell : Stmt := topS 18
theorem sc_l_cell : FnScope ["_law_script", "_law_k"] ["_law_script", "_law_k"] (defScope s_l_cell) := ⟨rfl, rfl, rfl, by decide +kernel, rfl, by decide +kernel, by decide +kernel⟩
abbrev s_l_box : Stmt := topS 19
theorem sc_l_box : FnScope ["_law_cell_here"] ["_law_cell_here"] (defScope s_l_box) := ⟨rfl, rfl, rfl, by decide +kernel, rfl, by decide +kernel, by decide +kernel⟩
abbrev s_l_take : Stmt := topS 20
theorem sc_l_take : FnScope ["_law_box_here", "_law_many", "_law_digit", "_law_found"] ["_law_box_here", "_law_many"] (defScope s_l_take) := ⟨rfl, rfl, rfl, by decide +kernel, rfl, by decide +kernel, by decide +kernel⟩
abbrev s_l_mixed : Stmt := topS 21
theorem sc_l_mixed : FnScope ["_law_box_here", "_law_some", "_law_left", "_law_k"] ["_law_box_here", "_law_some"] (defScope s_l_mixed) := ⟨rfl, rfl, rfl, by decide +kernel, rfl, by decide +kernel, by decide +kernel⟩
abbrev s_l_names : Stmt := topS 22
theorem sc_l_names : FnScope ["_law_box_here", "_law_many", "_law_way", "_law_first", "_law_letters", "_law_base", "_law_size", "_law_k"] ["_law_box_here", "_law_many"] (defScope s_l_names) := ⟨rfl, rfl, rfl, by decide +kernel, rfl, by decide +kernel, by decide +kernel⟩
abbrev s_l_points : Stmt := topS 23
theorem sc_l_points : FnScope ["_law_box_here", "_law_marks", "_law_way", "_law_found", "_law_name", "_law_x", "_law_y", "_law_small"] ["_law_box_here", "_law_marks"] (defScope s_l_points) := ⟨rfl, rfl, rfl, by decide +kernel, rfl, by decide +kernel, by decide +kernel⟩
abbrev s_l_caught : Stmt := topS 24
theorem sc_l_caught : FnScope ["_law_ask", "_law_odd", "e"] ["_law_ask", "_law_odd"] (defScope s_l_caught) := ⟨rfl, rfl, rfl, by decide +kernel, rfl, by decide +kernel, by decide +kernel⟩
abbrev s_l_is : Stmt := topS 25
theorem sc_l_is : FnScope ["_law_found", "_law_word", "_law_odd"] ["_law_found", "_law_word", "_law_odd"] (defScope s_l_is) := ⟨rfl, rfl, rfl, by decide +kernel, rfl, by decide +kernel, by decide +kernel⟩
abbrev s_l_out : Stmt := topS 26
theorem sc_l_out : FnScope ["_law_points_here", "_law_due", "_law_name", "_law_number"] ["_law_points_here", "_law_due"] (defScope s_l_out) := ⟨rfl, rfl, rfl, by decide +kernel, rfl, by decide +kernel, by decide +kernel⟩
abbrev s_l_case_right : Stmt := topS 27
theorem sc_l_case_right : FnScope ["_law_placing", "_law_points_here", "_law_due", "_law_ask", "_law_found", "_law_out_here"] ["_law_placing", "_law_points_here", "_law_due", "_law_ask"] (defScope s_l_case_right) := ⟨rfl, rfl, rfl, by decide +kernel, rfl, by decide +kernel, by decide +kernel⟩
abbrev s_l_moves_right : Stmt := topS 28
theorem sc_l_moves_right : FnScope ["_law_box_here", "_law_placing", "_law_points_here", "_law_far", "_law_lap", "_law_due", "_law_dx", "_law_dy", "_law_factor", "_law_name", "_law_x", "_law_y"] ["_law_box_here", "_law_placing", "_law_points_here"] (defScope s_l_moves_right) := ⟨rfl, rfl, rfl, by decide +kernel, rfl, by decide +kernel, by decide +kernel⟩
abbrev s_l_refusals_right : Stmt := topS 29
theorem sc_l_refusals_right : FnScope ["_law_placing", "_law_odd"] ["_law_placing"] (defScope s_l_refusals_right) := ⟨rfl, rfl, rfl, by decide +kernel, rfl, by decide +kernel, by decide +kernel⟩
abbrev s_law : Stmt := topS 30
theorem sc_law : FnScope ["_law_script", "_law_k", "_law_box_here", "_law_points_here", "_law_placing", "_law_name", "_law_x", "_law_y"] ["_law_script"] (defScope s_law) := ⟨rfl, rfl, rfl, by decide +kernel, rfl, by decide +kernel, by decide +kernel⟩
structure Top (P : Program) (K : PySem.W.Frag) (mg : Str → Option Value) where
  C_Placing : Addr
  g_Placing : mg "Placing" = some (.ref C_Placing)
  f_is_name : Addr
  fd_is_name : FuncData
  F_is_name : FunV K "is_name" "is_name" s_is_name f_is_name fd_is_name
  b_is_name : Binds K fd_is_name ["value"] []
  g_is_name : mg "is_name" = some (.ref f_is_name)
  f_is_integer : Addr
  fd_is_integer : FuncData
  F_is_integer : FunV K "is_integer" "is_integer" s_is_integer f_is_integer fd_is_integer
  b_is_integer : Binds K fd_is_integer ["value", "low", "high"] []
  g_is_integer : mg "is_integer" = some (.ref f_is_integer)
  f_is_whole : Addr
  fd_is_whole : FuncData
  F_is_whole : FunV K "is_whole" "is_whole" s_is_whole f_is_whole fd_is_whole
  b_is_whole : Binds K fd_is_whole ["value"] []
  g_is_whole : mg "is_whole" = some (.ref f_is_whole)
  f_is_point : Addr
  fd_is_point : FuncData
  F_is_point : FunV K "is_point" "is_point" s_is_point f_is_point fd_is_point
  b_is_point : Binds K fd_is_point ["value"] []
  g_is_point : mg "is_point" = some (.ref f_is_point)
  f_Placing_init : Addr
  fd_Placing_init : FuncData
  F_Placing_init : FunV K "__init__" "Placing.__init__" s_Placing_init f_Placing_init fd_Placing_init
  b_Placing_init : Binds K fd_Placing_init ["self", "points"] []
  f_Placing_points : Addr
  fd_Placing_points : FuncData
  F_Placing_points : FunV K "points" "Placing.points" s_Placing_points f_Placing_points fd_Placing_points
  b_Placing_points : Binds K fd_Placing_points ["self"] []
  f_Placing_eq : Addr
  fd_Placing_eq : FuncData
  F_Placing_eq : FunV K "__eq__" "Placing.__eq__" s_Placing_eq f_Placing_eq fd_Placing_eq
  b_Placing_eq : Binds K fd_Placing_eq ["self", "other"] []
  f_Placing_placed : Addr
  fd_Placing_placed : FuncData
  F_Placing_placed : FunV K "placed" "Placing.placed" s_Placing_placed f_Placing_placed fd_Placing_placed
  b_Placing_placed : Binds K fd_Placing_placed ["self", "points"] []
  f_Placing_moved : Addr
  fd_Placing_moved : FuncData
  F_Placing_moved : FunV K "moved" "Placing.moved" s_Placing_moved f_Placing_moved fd_Placing_moved
  b_Placing_moved : Binds K fd_Placing_moved ["self", "dx", "dy"] []
  f_Placing_turned : Addr
  fd_Placing_turned : FuncData
  F_Placing_turned : FunV K "turned" "Placing.turned" s_Placing_turned f_Placing_turned fd_Placing_turned
  b_Placing_turned : Binds K fd_Placing_turned ["self"] []
  f_Placing_mirrored : Addr
  fd_Placing_mirrored : FuncData
  F_Placing_mirrored : FunV K "mirrored" "Placing.mirrored" s_Placing_mirrored f_Placing_mirrored fd_Placing_mirrored
  b_Placing_mirrored : Binds K fd_Placing_mirrored ["self"] []
  f_Placing_stretched : Addr
  fd_Placing_stretched : FuncData
  F_Placing_stretched : FunV K "stretched" "Placing.stretched" s_Placing_stretched f_Placing_stretched fd_Placing_stretched
  b_Placing_stretched : Binds K fd_Placing_stretched ["self", "factor"] []
  f_l_cell : Addr
  fd_l_cell : FuncData
  F_l_cell : FunV K "_law_cell" "_law_cell" s_l_cell f_l_cell fd_l_cell
  b_l_cell : Binds K fd_l_cell ["_law_script", "_law_k"] []
  g_l_cell : mg "_law_cell" = some (.ref f_l_cell)
  f_l_box : Addr
  fd_l_box : FuncData
  F_l_box : FunV K "_law_box" "_law_box" s_l_box f_l_box fd_l_box
  b_l_box : Binds K fd_l_box ["_law_cell_here"] []
  g_l_box : mg "_law_box" = some (.ref f_l_box)
  f_l_take : Addr
  fd_l_take : FuncData
  F_l_take : FunV K "_law_take" "_law_take" s_l_take f_l_take fd_l_take
  b_l_take : Binds K fd_l_take ["_law_box_here", "_law_many"] []
  g_l_take : mg "_law_take" = some (.ref f_l_take)
  f_l_mixed : Addr
  fd_l_mixed : FuncData
  F_l_mixed : FunV K "_law_mixed" "_law_mixed" s_l_mixed f_l_mixed fd_l_mixed
  b_l_mixed : Binds K fd_l_mixed ["_law_box_here", "_law_some"] []
  g_l_mixed : mg "_law_mixed" = some (.ref f_l_mixed)
  f_l_names : Addr
  fd_l_names : FuncData
  F_l_names : FunV K "_law_names" "_law_names" s_l_names f_l_names fd_l_names
  b_l_names : Binds K fd_l_names ["_law_box_here", "_law_many"] []
  g_l_names : mg "_law_names" = some (.ref f_l_names)
  f_l_points : Addr
  fd_l_points : FuncData
  F_l_points : FunV K "_law_points" "_law_points" s_l_points f_l_points fd_l_points
  b_l_points : Binds K fd_l_points ["_law_box_here", "_law_marks"] []
  g_l_points : mg "_law_points" = some (.ref f_l_points)
  f_l_caught : Addr
  fd_l_caught : FuncData
  F_l_caught : FunV K "_law_caught" "_law_caught" s_l_caught f_l_caught fd_l_caught
  b_l_caught : Binds K fd_l_caught ["_law_ask", "_law_odd"] []
  g_l_caught : mg "_law_caught" = some (.ref f_l_caught)
  f_l_is : Addr
  fd_l_is : FuncData
  F_l_is : FunV K "_law_is" "_law_is" s_l_is f_l_is fd_l_is
  b_l_is : Binds K fd_l_is ["_law_found", "_law_word", "_law_odd"] []
  g_l_is : mg "_law_is" = some (.ref f_l_is)
  f_l_out : Addr
  fd_l_out : FuncData
  F_l_out : FunV K "_law_out" "_law_out" s_l_out f_l_out fd_l_out
  b_l_out : Binds K fd_l_out ["_law_points_here", "_law_due"] []
  g_l_out : mg "_law_out" = some (.ref f_l_out)
  f_l_case_right : Addr
  fd_l_case_right : FuncData
  F_l_case_right : FunV K "_law_case_right" "_law_case_right" s_l_case_right f_l_case_right fd_l_case_right
  b_l_case_right : Binds K fd_l_case_right ["_law_placing", "_law_points_here", "_law_due", "_law_ask"] []
  g_l_case_right : mg "_law_case_right" = some (.ref f_l_case_right)
  f_l_moves_right : Addr
  fd_l_moves_right : FuncData
  F_l_moves_right : FunV K "_law_moves_right" "_law_moves_right" s_l_moves_right f_l_moves_right fd_l_moves_right
  b_l_moves_right : Binds K fd_l_moves_right ["_law_box_here", "_law_placing", "_law_points_here"] []
  g_l_moves_right : mg "_law_moves_right" = some (.ref f_l_moves_right)
  c_l_moves_right : Addr
  P_l_moves_right : Addr
  hc_l_moves_right : fd_l_moves_right.code = .ref c_l_moves_right
  f_l_refusals_right : Addr
  fd_l_refusals_right : FuncData
  F_l_refusals_right : FunV K "_law_refusals_right" "_law_refusals_right" s_l_refusals_right f_l_refusals_right fd_l_refusals_right
  b_l_refusals_right : Binds K fd_l_refusals_right ["_law_placing"] []
  g_l_refusals_right : mg "_law_refusals_right" = some (.ref f_l_refusals_right)
  c_l_refusals_right : Addr
  P_l_refusals_right : Addr
  hc_l_refusals_right : fd_l_refusals_right.code = .ref c_l_refusals_right
  f_law : Addr
  fd_law : FuncData
  F_law : FunV K "law" "law" s_law f_law fd_law
  b_law : Binds K fd_law ["_law_script"] []
  g_law : mg "law" = some (.ref f_law)
  pn_l_moves_right_l_refusals_right : P_l_moves_right ≠ P_l_refusals_right
  cl_Placing : Cls K C_Placing
  ik_Placing : InsK K C_Placing
  M_Placing : Mk K C_Placing f_Placing_init
  n_Placing_by_name : NoAttr K C_Placing "by_name"
  m_Placing_Placing_points : Meth K C_Placing "points" f_Placing_points
  m_Placing_Placing_placed : Meth K C_Placing "placed" f_Placing_placed
  m_Placing_Placing_moved : Meth K C_Placing "moved" f_Placing_moved
  m_Placing_Placing_turned : Meth K C_Placing "turned" f_Placing_turned
  m_Placing_Placing_mirrored : Meth K C_Placing "mirrored" f_Placing_mirrored
  m_Placing_Placing_stretched : Meth K C_Placing "stretched" f_Placing_stretched
  eq_Placing : PySem.W.findIn K (.ref C_Placing) "__eq__" = some (some (.ref f_Placing_eq))
  fe_Placing : PySem.W.isFn K (.ref f_Placing_eq) = true
  ne_Placing : PySem.W.findIn K (.ref C_Placing) "__ne__" = some (some (.builtin "object.__ne__"))
  so_Placing : PySem.W.subIn K (.ref C_Placing) (.type "object") = some true
  nf_Placing_NoneType : PySem.W.notFirst K C_Placing (.type "NoneType") = true
  nf_Placing_bool : PySem.W.notFirst K C_Placing (.type "bool") = true
  nf_Placing_int : PySem.W.notFirst K C_Placing (.type "int") = true
  nf_Placing_str : PySem.W.notFirst K C_Placing (.type "str") = true
  nf_Placing_list : PySem.W.notFirst K C_Placing (.type "list") = true
  nf_Placing_tuple : PySem.W.notFirst K C_Placing (.type "tuple") = true
  nf_Placing_dict : PySem.W.notFirst K C_Placing (.type "dict") = true
  tk_Placing_NoneType : PySem.W.kitOne K (.type "NoneType") (.ref C_Placing) = some false
  kt_Placing_bool : PySem.W.kitOne K (.ref C_Placing) (.type "bool") = some false
  tk_Placing_bool : PySem.W.kitOne K (.type "bool") (.ref C_Placing) = some false
  kt_Placing_int : PySem.W.kitOne K (.ref C_Placing) (.type "int") = some false
  tk_Placing_int : PySem.W.kitOne K (.type "int") (.ref C_Placing) = some false
  kt_Placing_str : PySem.W.kitOne K (.ref C_Placing) (.type "str") = some false
  tk_Placing_str : PySem.W.kitOne K (.type "str") (.ref C_Placing) = some false
  kt_Placing_list : PySem.W.kitOne K (.ref C_Placing) (.type "list") = some false
  tk_Placing_list : PySem.W.kitOne K (.type "list") (.ref C_Placing) = some false
  kt_Placing_tuple : PySem.W.kitOne K (.ref C_Placing) (.type "tuple") = some false
  tk_Placing_tuple : PySem.W.kitOne K (.type "tuple") (.ref C_Placing) = some false
  kt_Placing_dict : PySem.W.kitOne K (.ref C_Placing) (.type "dict") = some false
  tk_Placing_dict : PySem.W.kitOne K (.type "dict") (.ref C_Placing) = some false
  u_MOST_MARKS : Value
  g_MOST_MARKS : mg "MOST_MARKS" = some u_MOST_MARKS
  r_MOST_MARKS : RelV (.int 12) u_MOST_MARKS
  u_FARTHEST : Value
  g_FARTHEST : mg "FARTHEST" = some u_FARTHEST
  r_FARTHEST : RelV (.int 1000) u_FARTHEST
  m_isinstance : mg "isinstance" = none
  m_int : mg "int" = none
  m_bool : mg "bool" = none
  m_str : mg "str" = none
  m_len : mg "len" = none
  m_max : mg "max" = none
  m_min : mg "min" = none
  m_range : mg "range" = none
  m_list : mg "list" = none
  m_tuple : mg "tuple" = none
  m_dict : mg "dict" = none
  m_sorted : mg "sorted" = none
  m_all : mg "all" = none
  C_InvalidPoints : Addr
  I_InvalidPoints : Addr
  g_InvalidPoints : mg "InvalidPoints" = some (.ref C_InvalidPoints)
  E_InvalidPoints : PySem.ErrX.ErrTxt P K mg "InvalidPoints" "value" C_InvalidPoints I_InvalidPoints
  C_OutOfRange : Addr
  I_OutOfRange : Addr
  g_OutOfRange : mg "OutOfRange" = some (.ref C_OutOfRange)
  E_OutOfRange : PySem.ErrX.ErrTxt P K mg "OutOfRange" "value" C_OutOfRange I_OutOfRange
  C_InvalidShift : Addr
  I_InvalidShift : Addr
  g_InvalidShift : mg "InvalidShift" = some (.ref C_InvalidShift)
  E_InvalidShift : PySem.ErrX.ErrTxt P K mg "InvalidShift" "value" C_InvalidShift I_InvalidShift
  C_InvalidFactor : Addr
  I_InvalidFactor : Addr
  g_InvalidFactor : mg "InvalidFactor" = some (.ref C_InvalidFactor)
  E_InvalidFactor : PySem.ErrX.ErrTxt P K mg "InvalidFactor" "factor" C_InvalidFactor I_InvalidFactor
  C_NetError : Addr
  g_NetError : mg "NetError" = some (.ref C_NetError)
  x_InvalidFactor_InvalidFactor : PySem.W.exmOne K (.ref C_InvalidFactor) (.ref C_InvalidFactor) = some true
  x_InvalidShift_InvalidFactor : PySem.W.exmOne K (.ref C_InvalidShift) (.ref C_InvalidFactor) = some false
  x_InvalidShift_InvalidShift : PySem.W.exmOne K (.ref C_InvalidShift) (.ref C_InvalidShift) = some true
  x_OutOfRange_InvalidFactor : PySem.W.exmOne K (.ref C_OutOfRange) (.ref C_InvalidFactor) = some false
  x_OutOfRange_InvalidShift : PySem.W.exmOne K (.ref C_OutOfRange) (.ref C_InvalidShift) = some false
  x_OutOfRange_OutOfRange : PySem.W.exmOne K (.ref C_OutOfRange) (.ref C_OutOfRange) = some true
variable {P : Program} {K : PySem.W.Frag} {mg : Str → Option Value}
def Top.tabs (T : Top P K mg) : List (Addr × Str) := [(T.P_l_moves_right, ("_law_moves_right" : Str) ++ ".<locals>." ++ "<lambda>"), (T.P_l_refusals_right, ("_law_refusals_right" : Str) ++ ".<locals>." ++ "<lambda>")]
structure Tbs (T : Top P K mg) (base : Heap) : Prop where
  t_l_moves_right : LamX.TabB base mg T.c_l_moves_right T.P_l_moves_right
  t_l_refusals_right : LamX.TabB base mg T.c_l_refusals_right T.P_l_refusals_right
theorem Tbs.up {T : Top P K mg} {B B' : Heap} (t : Tbs T B) (k : ∀ b o, B.get? b = some o → B'.get? b = some o) : Tbs T B' := ⟨tab_up t.t_l_moves_right k, tab_up t.t_l_refusals_right k⟩
theorem Top.in_l_moves_right (T : Top P K mg) : (T.P_l_moves_right, ("_law_moves_right" : Str) ++ ".<locals>." ++ "<lambda>") ∈ T.tabs := List.mem_cons_self
theorem Top.un_l_moves_right (T : Top P K mg) : ∀ z ∈ T.tabs, z.1 = T.P_l_moves_right → z.2 = ("_law_moves_right" : Str) ++ ".<locals>." ++ "<lambda>" := by
  intro z hz e
  simp only [Top.tabs, List.mem_cons, List.not_mem_nil, or_false] at hz
  rcases hz with rfl | rfl
  · rfl
  · exact absurd e.symm T.pn_l_moves_right_l_refusals_right
theorem Top.in_l_refusals_right (T : Top P K mg) : (T.P_l_refusals_right, ("_law_refusals_right" : Str) ++ ".<locals>." ++ "<lambda>") ∈ T.tabs := List.mem_cons_of_mem _ (List.mem_cons_self)
theorem Top.un_l_refusals_right (T : Top P K mg) : ∀ z ∈ T.tabs, z.1 = T.P_l_refusals_right → z.2 = ("_law_refusals_right" : Str) ++ ".<locals>." ++ "<lambda>" := by
  intro z hz e
  simp only [Top.tabs, List.mem_cons, List.not_mem_nil, or_false] at hz
  rcases hz with rfl | rfl
  · exact absurd e T.pn_l_moves_right_l_refusals_right
  · rfl

end K11

set_option Elab.async false
set_option linter.all false
set_option maxRecDepth 100000
set_option maxHeartbeats 3900000
namespace K11
open PySem PySem.Spec PyProof.Rows L2 G M
local macro_rules | `(tactic| walk_at "s") => `(tactic| first
  | (with_reducible exact snd_var)
  | (with_reducible refine' snd_seq ?_ ?_)
  | (with_reducible refine' snd_op ?_ ?_ ?_)
  | (with_reducible refine' snd_cons ?_ ?_)
  | (with_reducible exact snd_nil)
  | (with_reducible refine' snd_c ?_)
  | (intro al G; constructor)
  | (with_reducible refine' snd_asg ?_ ?_)
  | (with_reducible exact snd_gname)
  | (with_reducible refine' snd_ret ?_)
  | (with_reducible refine' snd_ifS ?_ ?_ ?_)
  | (with_reducible refine' snd_test ?_)
  | (with_reducible refine' snd_B ?_)
  | (with_reducible refine' snd_not ?_)
  | (with_reducible refine' snd_and ?_ ?_)
  | (with_reducible refine' snd_or ?_ ?_)
  | (with_reducible refine' snd_notV ?_)
  | (with_reducible refine' snd_andV ?_ ?_)
  | (with_reducible refine' snd_orV ?_ ?_)
  | (with_reducible refine' snd_if ?_ ?_ ?_)
  | (with_reducible refine' snd_chain ?_ ?_ ?_ ?_ ?_)
  | (with_reducible refine' snd_un ?_ ?_)
  | (with_reducible refine' snd_lst ?_)
  | (with_reducible refine' snd_tup ?_)
  | (with_reducible refine' snd_CB ?_ ?_)
  | (with_reducible refine' snd_call ?_ ?_)
  | (with_reducible refine' snd_meth ?_ ?_ ?_)
  | (with_reducible refine' snd_make ?_ ?_)
  | (with_reducible refine' snd_prop ?_)
  | (with_reducible refine' snd_drop ?_)
  | (with_reducible exact snd_retN)
  | (with_reducible exact snd_next)
  | (with_reducible exact snd_break)
  | (with_reducible exact snd_cont)
  | (with_reducible exact snd_never)
  | (with_reducible refine' snd_par ?_)
  | (with_reducible refine' snd_raise ?_)
  | (with_reducible refine' snd_for ?_ ?_ ?_)
  | (with_reducible refine' snd_while ?_ ?_)
  | (with_reducible refine' snd_lcE ?_ ?_ ?_ ?_ ?_)
  | (with_reducible exact snd_yes)
  | (with_reducible refine' snd_itV ?_)
  | (with_reducible refine' snd_rng1 ?_)
  | (with_reducible refine' snd_rng2 ?_)
  | (with_reducible refine' snd_enum ?_)
  | (with_reducible refine' snd_zip ?_)
  | (with_reducible refine' snd_sl ?_ ?_ ?_ ?_)
  | (with_reducible exact snd_noPart)
  | (with_reducible refine' snd_part ?_)
  | (with_reducible refine' snd_bm0 ?_ ?_)
  | (with_reducible refine' snd_bm ?_ ?_ ?_)
  | (with_reducible refine' snd_m1 ?_ ?_ ?_)
  | (with_reducible refine' snd_js ?_)
  | (with_reducible refine' snd_fmt ?_)
  | (with_reducible exact SndJ.nil)
  | (with_reducible refine' SndJ.cons ?_ ?_)
  | (with_reducible exact snd_dnew)
  | (with_reducible exact snd_dnewL)
  | (with_reducible refine' snd_dispL ?_)
  | (with_reducible refine' snd_dictL ?_)
  | (with_reducible refine' snd_dict ?_)
  | (with_reducible refine' snd_dcE ?_ ?_ ?_ ?_ ?_ ?_)
  | (with_reducible refine' snd_lk ?_)
  | (with_reducible refine' snd_items ?_)
  | (with_reducible refine' snd_values ?_)
  | (with_reducible refine' snd_dput ?_ ?_ ?_)
  | (with_reducible refine' sgo_tupn ?_)
  | (with_reducible refine' sgo_consX ?_ ?_)
  | (with_reducible refine' snd_caught (fun _ => ?_) ?_)
  | (with_reducible refine' snd_case (fun _ => ?_) ?_ ?_ ?_)
  | (with_reducible refine' sgo_name ?_)
  | (with_reducible refine' sgo_tup ?_ ?_)
  | (with_reducible refine' sgo_cons ?_ ?_)
  | (with_reducible exact sgo_nil)
  | (with_reducible refine' glen_cons ?_)
  | (with_reducible exact glen_nil)
  | (with_reducible refine' SndGO.g (vs := [0, 1, 2, 3, 4, 5, 6, 7, 8, 9, 10, 11, 12, 13, 14, 15, 16, 17, 18, 19, 20, 21, 22, 23, 24, 25]) ?_)
  | (with_reducible refine' dop_or ?_ ?_)
  | (with_reducible refine' dc_or ?_ ?_)
  | exact dop_add | exact dop_sub | exact dop_mul | exact dop_fdiv | exact dop_mod | exact dop_pow | exact dun_neg
  | exact dop_eq | exact dop_ne | exact dop_lt | exact dop_le | exact dop_gt | exact dop_ge | exact dop_in | exact dop_nin | exact dop_is | exact dop_isnt | exact dop_ix | exact dop_cmpX | exact dop_inX | exact dop_eqK | exact dop_eqLX | exact dop_inP | exact dc_reprG | exact dc_maxS | exact dc_minS
  | exact dc_sorted | exact dc_sortK | exact dc_maxL | exact dc_minL | exact dc_all | exact dc_any | exact dc_sum | exact dc_tuple
  | (with_reducible refine' snd_lenSet ?_)
  | (with_reducible refine' snd_rev ?_)
  | (with_reducible refine' snd_par3 ?_)
  | (with_reducible refine' snd_disp ?_)
  | (with_reducible exact snd_pnil)
  | (with_reducible refine' snd_pcons ?_ ?_ ?_)
  | (with_reducible refine' snd_dget ?_ ?_)
  | exact dsl | exact dc_len | exact dc_isi | exact dc_list | exact dc_int | exact dc_max2 | exact dc_min2 | exact dc_str | exact dc_strX | exact dc_repr
  | exact dm_append | exact dm_extend | exact dm_pop | exact dm_popAt | exact dm_join | exact dm_split | (exact dm_s0 fun _ _ _ => .bl _)
  | (with_reducible refine' snd_fld ?_ ?_ ?_)
  | (with_reducible refine' snd_sfld ?_ ?_ ?_ ?_)
  | (exact fun _ _ => .nil)
  | (exact Top.cl_Placing (by assumption)) | (exact Top.n_Placing_by_name (by assumption))
  | decide)
def m_is_name {P : Program} {K : PySem.W.Frag} {mg : Str → Option Value} (T : Top P K mg) : Fn := fnD 1 1 (seqM (ifS (orT (notT (testM (cbM (isiD K) (consM (varM 0) (consM (cM (.ty "str")) nilM))))) (notT (testM (chainM leD leD (cM (.int 1)) (cbM lenD (consM (varM 0) nilM)) (cM (.int 8))))))
    (retM (cM (.bl false)))
    nextM)
    (retM (andM (bm0M "str" (s0D fun a => .bl (Txt.isascii a)) (varM 0)) (andM (bm0M "str" (s0D fun a => .bl (Txt.isalpha a)) (varM 0)) (bm0M "str" (s0D fun a => .bl (Txt.islower a)) (varM 0))))))
theorem ok_is_name {P : Program} {w : World} {K : PySem.W.Frag} {mg : Str → Option Value} {base : Heap} (T : Top P K mg) : FnOk P w K mg base (L2.CX P w) 1 T.f_is_name T.fd_is_name ["value"] (SpG K T.tabs (m_is_name T)) := by
  refine T.F_is_name.okX sc_is_name (fun vs H Q E h => fn_len h) (fun cdv A outer s H vs Q E hr h => ?_)
  have tk : Takes _ (fun cls d _ H => E cls d H) := takes_of (E := E) (X := cxOf (L2.CX P w) P w K mg base ["value"] "is_name" (defScope s_is_name) T.f_is_name cdv A outer s H E) rfl rfl rfl rfl
  refine ⟨_, (pss_cons (ps_if (PW.pt (pw_or (pt_not (pt_val (pe_callB (call_isiV (K := K) rfl) (by rfl) T.m_isinstance (by decide +kernel) (pa_cons (pv 0) (pa_cons (pe_bltn (v := .ty "str") (by rfl) T.m_str (by decide +kernel) rfl) pa_nil))))) (pw_or1 (pt_not (pt_chain op_leU op_leU pe_int (pe_callB (call_lenU (K := K) rfl) (by rfl) T.m_len PySem.boot_len (pa_cons (pv 0) pa_nil)) pe_int))))) (pss_one (ps_ret pe_bl)) pss_nil)
      (pss_one (ps_ret (pe_and (pe_bm0U (K := K) rfl PySem.F.plainAttrs_str PySem.F.slot_str_isascii PySem.F.type_str_isascii mt_isasciiU (pv 0)) (pe_and (pe_bm0U (K := K) rfl PySem.F.plainAttrs_str PySem.F.slot_str_isalpha PySem.F.type_str_isalpha mt_isalphaU (pv 0)) (pe_one (pe_bm0U (K := K) rfl PySem.F.plainAttrs_str PySem.F.slot_str_islower PySem.F.type_str_islower mt_islowerU (pv 0)))))))), fn_ok ?_ h⟩
  clear tk
  repeat walk_at "s"
def m_is_integer {P : Program} {K : PySem.W.Frag} {mg : Str → Option Value} (T : Top P K mg) : Fn := fnD 3 3 (retM (andM (cbM (isiD K) (consM (varM 0) (consM (cM (.ty "int")) nilM))) (andM (notM (cbM (isiD K) (consM (varM 0) (consM (cM (.ty "bool")) nilM)))) (chainM leD leD (varM 1) (varM 0) (varM 2)))))
theorem ok_is_integer {P : Program} {w : World} {K : PySem.W.Frag} {mg : Str → Option Value} {base : Heap} (T : Top P K mg) : FnOk P w K mg base (L2.CX P w) 1 T.f_is_integer T.fd_is_integer ["value", "low", "high"] (SpG K T.tabs (m_is_integer T)) := by
  refine T.F_is_integer.okX sc_is_integer (fun vs H Q E h => fn_len h) (fun cdv A outer s H vs Q E hr h => ?_)
  have tk : Takes _ (fun cls d _ H => E cls d H) := takes_of (E := E) (X := cxOf (L2.CX P w) P w K mg base ["value", "low", "high"] "is_integer" (defScope s_is_integer) T.f_is_integer cdv A outer s H E) rfl rfl rfl rfl
  refine ⟨_, (pss_one (ps_ret (pe_and (pe_callB (call_isiV (K := K) rfl) (by rfl) T.m_isinstance (by decide +kernel) (pa_cons (pv 0) (pa_cons (pe_bltn (v := .ty "int") (by rfl) T.m_int (by decide +kernel) rfl) pa_nil))) (pe_and (pe_not (pe_callB (call_isiV (K := K) rfl) (by rfl) T.m_isinstance (by decide +kernel) (pa_cons (pv 0) (pa_cons (pe_bltn (v := .ty "bool") (by rfl) T.m_bool (by decide +kernel) rfl) pa_nil)))) (pe_one (pe_chain op_leU op_leU (pv 1) (pv 0) (pv 2))))))), fn_ok ?_ h⟩
  clear tk
  repeat walk_at "s"
def m_is_whole {P : Program} {K : PySem.W.Frag} {mg : Str → Option Value} (T : Top P K mg) : Fn := fnD 1 1 (retM (andM (cbM (isiD K) (consM (varM 0) (consM (cM (.ty "int")) nilM))) (notM (cbM (isiD K) (consM (varM 0) (consM (cM (.ty "bool")) nilM))))))
theorem ok_is_whole {P : Program} {w : World} {K : PySem.W.Frag} {mg : Str → Option Value} {base : Heap} (T : Top P K mg) : FnOk P w K mg base (L2.CX P w) 1 T.f_is_whole T.fd_is_whole ["value"] (SpG K T.tabs (m_is_whole T)) := by
  refine T.F_is_whole.okX sc_is_whole (fun vs H Q E h => fn_len h) (fun cdv A outer s H vs Q E hr h => ?_)
  have tk : Takes _ (fun cls d _ H => E cls d H) := takes_of (E := E) (X := cxOf (L2.CX P w) P w K mg base ["value"] "is_whole" (defScope s_is_whole) T.f_is_whole cdv A outer s H E) rfl rfl rfl rfl
  refine ⟨_, (pss_one (ps_ret (pe_and (pe_callB (call_isiV (K := K) rfl) (by rfl) T.m_isinstance (by decide +kernel) (pa_cons (pv 0) (pa_cons (pe_bltn (v := .ty "int") (by rfl) T.m_int (by decide +kernel) rfl) pa_nil))) (pe_one (pe_not (pe_callB (call_isiV (K := K) rfl) (by rfl) T.m_isinstance (by decide +kernel) (pa_cons (pv 0) (pa_cons (pe_bltn (v := .ty "bool") (by rfl) T.m_bool (by decide +kernel) rfl) pa_nil)))))))), fn_ok ?_ h⟩
  clear tk
  repeat walk_at "s"
def m_is_point {P : Program} {K : PySem.W.Frag} {mg : Str → Option Value} (T : Top P K mg) : Fn := fnD 1 2 (seqM (ifS (orT (notT (testM (cbM (isiD K) (consM (varM 0) (consM (cM (.ty "tuple")) nilM))))) (testM (opM neD (cbM lenD (consM (varM 0) nilM)) (cM (.int 2)))))
    (retM (cM (.bl false)))
    nextM)
    (retM (cbM allD (consM (lcM false (itM (varM 0)) (gnameM 1) yesM (callM (m_is_integer T) [] (consM (varM 1) (consM (unM negD (cM (.int 1000))) (consM (cM (.int 1000)) nilM)))) [1]) nilM))))
theorem ok_is_point {P : Program} {w : World} {K : PySem.W.Frag} {mg : Str → Option Value} {base : Heap} (T : Top P K mg) : FnOk P w K mg base (L2.CX P w) 2 T.f_is_point T.fd_is_point ["value"] (SpG K T.tabs (m_is_point T)) := by
  refine T.F_is_point.okX sc_is_point (fun vs H Q E h => fn_len h) (fun cdv A outer s H vs Q E hr h => ?_)
  have tk : Takes _ (fun cls d _ H => E cls d H) := takes_of (E := E) (X := cxOf (L2.CX P w) P w K mg base ["value", "number"] "is_point" (defScope s_is_point) T.f_is_point cdv A outer s H E) rfl rfl rfl rfl
  refine ⟨_, (pss_cons (ps_if (PW.pt (pw_or (pt_not (pt_val (pe_callB (call_isiV (K := K) rfl) (by rfl) T.m_isinstance (by decide +kernel) (pa_cons (pv 0) (pa_cons (pe_bltn (v := .ty "tuple") (by rfl) T.m_tuple (by decide +kernel) rfl) pa_nil))))) (pw_or1 (pt_cmpR (op_neU (K := K) rfl hr.units) (pe_callB (call_lenU (K := K) rfl) (by rfl) T.m_len PySem.boot_len (pa_cons (pv 0) pa_nil)) pe_int (nomark _))))) (pss_one (ps_ret pe_bl)) pss_nil)
      (pss_one (ps_ret (pe_callB (call_allU (K := K) rfl rfl) (by rfl) T.m_all (by decide +kernel) (pa_cons (pe_lc (own := [("number", 1)]) (g := gName 1) rfl sc_is_point.nd (pi_V (K := K) rfl (pv 0)) (blkOk_by (own := [("number", 1)]) (N := ["value", "number"]) (sc := defScope s_is_point) (by decide +kernel)) (fun _ _ _ _ _ => (pg_name (i := 1) sc_is_point.nd rfl (Or.inl rfl))) (fun _ _ _ _ _ => pts_nil) (fun _ _ _ _ _ => (pe_callSD (ok_is_integer T) (hr.mono (by decide)) (by rfl) T.g_is_integer T.F_is_integer.kp T.b_is_integer .nil (fun σ => passAt takesF σ) (pa_cons (pv 1) (pa_cons (pe_un un_neg (pe_glob (by rfl) T.g_FARTHEST T.r_FARTHEST)) (pa_cons (pe_glob (by rfl) T.g_FARTHEST T.r_FARTHEST) pa_nil)))))) pa_nil))))), fn_ok ?_ h⟩
  clear tk
  repeat walk_at "s"
def m_Placing_init {P : Program} {K : PySem.W.Frag} {mg : Str → Option Value} (T : Top P K mg) : Fn := fnD 2 4 (seqM (ifS (orT (notT (testM (cbM (isiD K) (consM (varM 1) (consM (cM (.ty "dict")) nilM))))) (notT (testM (chainM leD leD (cM (.int 1)) (cbM lenD (consM (varM 1) nilM)) (cM (.int 12))))))
    (raiseM T.C_InvalidPoints "value" (consM (varM 1) nilM))
    nextM)
    (seqM (forM (itemsM (varM 1)) (gtupM (gconsM 2 (gconsM 3 gnilM))) (ifS (orT (notT (testM (callM (m_is_name T) [] (consM (varM 2) nilM)))) (notT (testM (callM (m_is_point T) [] (consM (varM 3) nilM)))))
    (raiseM T.C_InvalidPoints "value" (consM (varM 1) nilM))
    nextM))
    (sfldM T.C_Placing "by_name" (varM 0) (dcM false (itM (cbM (orC (sortedD false) (sortedKD false)) (consM (varM 1) nilM))) (gnameM 2) yesM (varM 2) (opM dgetD (varM 1) (varM 2)) [2]))))
theorem ok_Placing_init {P : Program} {w : World} {K : PySem.W.Frag} {mg : Str → Option Value} {base : Heap} (T : Top P K mg) : FnOk P w K mg base (L2.CX P w) 3 T.f_Placing_init T.fd_Placing_init ["self", "points"] (SpG K T.tabs (m_Placing_init T)) := by
  refine T.F_Placing_init.okX sc_Placing_init (fun vs H Q E h => fn_len h) (fun cdv A outer s H vs Q E hr h => ?_)
  have tk : Takes _ (fun cls d _ H => E cls d H) := takes_of (E := E) (X := cxOf (L2.CX P w) P w K mg base ["self", "points", "name", "point"] "Placing.__init__" (defScope s_Placing_init) T.f_Placing_init cdv A outer s H E) rfl rfl rfl rfl
  refine ⟨_, (pss_cons (ps_if (PW.pt (pw_or (pt_not (pt_val (pe_callB (call_isiV (K := K) rfl) (by rfl) T.m_isinstance (by decide +kernel) (pa_cons (pv 1) (pa_cons (pe_bltn (v := .ty "dict") (by rfl) T.m_dict (by decide +kernel) rfl) pa_nil))))) (pw_or1 (pt_not (pt_chain op_leU op_leU pe_int (pe_callB (call_lenU (K := K) rfl) (by rfl) T.m_len PySem.boot_len (pa_cons (pv 1) pa_nil)) (pe_glob (by rfl) T.g_MOST_MARKS T.r_MOST_MARKS)))))) (pss_one (ps_raiseE rfl T.E_InvalidPoints hr tk (pa_cons (pv 1) pa_nil) (by rfl))) pss_nil)
      (pss_cons (ps_for (passes_of rfl) rfl (pi_items (pv 1)) (pg_tupU (K := K) (n := 2) rfl rfl (pgs_cons (pg_name (i := 2) sc_Placing_init.nd rfl (Or.inl rfl)) (pgs_cons (pg_name (i := 3) sc_Placing_init.nd rfl (Or.inl rfl)) pgs_nil))) (pss_one (ps_if (PW.pt (pw_or (pt_not (pt_val (pe_callSD (ok_is_name T) (hr.mono (by decide)) (by rfl) T.g_is_name T.F_is_name.kp T.b_is_name .nil (fun σ => passAt tk σ) (pa_cons (pv 2) pa_nil)))) (pw_or1 (pt_not (pt_val (pe_callSD (ok_is_point T) (hr.mono (by decide)) (by rfl) T.g_is_point T.F_is_point.kp T.b_is_point .nil (fun σ => passAt tk σ) (pa_cons (pv 3) pa_nil))))))) (pss_one (ps_raiseE rfl T.E_InvalidPoints hr tk (pa_cons (pv 1) pa_nil) (by rfl))) pss_nil)))
      (pss_one (ps_fldU (K := K) rfl (pv 0) (pe_lk (pe_dc (own := [("name", 2)]) (g := gName 2) rfl sc_Placing_init.nd (pi_V (K := K) rfl (pe_callB (call_sortedM (K := K) rfl rfl) (by rfl) T.m_sorted (by decide +kernel) (pa_cons (pv 1) pa_nil))) (blkOk_by (own := [("name", 2)]) (N := ["self", "points", "name", "point"]) (sc := defScope s_Placing_init) (by decide +kernel)) (fun _ _ _ _ _ => (pg_name (i := 2) sc_Placing_init.nd rfl (Or.inl rfl))) (fun _ _ _ _ _ => pts_nil) (fun _ _ _ _ _ => (pv 2)) (fun _ _ _ _ _ => (pe_dget (Room.u1 hr) (pv 1) (pv 2) (fun _ _ => rfl))))) rfl)))), fn_ok ?_ h⟩
  clear tk
  repeat walk_at "s"
def m_Placing_points {P : Program} {K : PySem.W.Frag} {mg : Str → Option Value} (T : Top P K mg) : Fn := fnD 1 1 (retM (dictM false (consM (fldM T.C_Placing "by_name" (varM 0)) nilM)))
theorem ok_Placing_points {P : Program} {w : World} {K : PySem.W.Frag} {mg : Str → Option Value} {base : Heap} (T : Top P K mg) : FnOk P w K mg base (L2.CX P w) 1 T.f_Placing_points T.fd_Placing_points ["self"] (SpG K T.tabs (m_Placing_points T)) := by
  refine T.F_Placing_points.okX sc_Placing_points (fun vs H Q E h => fn_len h) (fun cdv A outer s H vs Q E hr h => ?_)
  have tk : Takes _ (fun cls d _ H => E cls d H) := takes_of (E := E) (X := cxOf (L2.CX P w) P w K mg base ["self"] "Placing.points" (defScope s_Placing_points) T.f_Placing_points cdv A outer s H E) rfl rfl rfl rfl
  refine ⟨_, (pss_one (ps_ret (pe_lk (pe_callTy (call_dictM (K := K) rfl rfl) (by rfl) T.m_dict (by decide +kernel) (pa_cons (pe_fldU (K := K) rfl (pv 0) rfl) pa_nil))))), fn_ok ?_ h⟩
  clear tk
  repeat walk_at "s"
def m_Placing_eq {P : Program} {K : PySem.W.Frag} {mg : Str → Option Value} (T : Top P K mg) : Fn := fnD 2 2 (retM (andM (cbM (isiD K) (consM (varM 1) (consM (cM (.adr T.C_Placing)) nilM))) (opM (orD eqD (eqKD id)) (fldM T.C_Placing "by_name" (varM 0)) (fldM T.C_Placing "by_name" (varM 1)))))
theorem ok_Placing_eq {P : Program} {w : World} {K : PySem.W.Frag} {mg : Str → Option Value} {base : Heap} (T : Top P K mg) : FnOk P w K mg base (L2.CX P w) 1 T.f_Placing_eq T.fd_Placing_eq ["self", "other"] (SpG K T.tabs (m_Placing_eq T)) := by
  refine T.F_Placing_eq.okX sc_Placing_eq (fun vs H Q E h => fn_len h) (fun cdv A outer s H vs Q E hr h => ?_)
  have tk : Takes _ (fun cls d _ H => E cls d H) := takes_of (E := E) (X := cxOf (L2.CX P w) P w K mg base ["self", "other"] "Placing.__eq__" (defScope s_Placing_eq) T.f_Placing_eq cdv A outer s H E) rfl rfl rfl rfl
  refine ⟨_, (pss_one (ps_ret (pe_and (pe_callB (call_isiV (K := K) rfl) (by rfl) T.m_isinstance (by decide +kernel) (pa_cons (pv 1) (pa_cons (pe_glob (v := .ref T.C_Placing) (by rfl) T.g_Placing rfl) pa_nil))) (pe_one (pe_cmpR ((op_eqU (K := K) rfl hr.units).or (op_eqK (K := K) rfl (Room.u65 hr))) (pe_fldU (K := K) rfl (pv 0) rfl) (pe_fldU (K := K) rfl (pv 1) rfl) (nomark _)))))), fn_ok ?_ h⟩
  clear tk
  repeat walk_at "s"
def m_Placing_placed {P : Program} {K : PySem.W.Frag} {mg : Str → Option Value} (T : Top P K mg) : Fn := fnD 2 4 (seqM (forM (valuesM (varM 1)) (gnameM 2) (forM (itM (varM 2)) (gnameM 3) (ifS (notT (testM (chainM leD leD (unM negD (cM (.int 1000))) (varM 3) (cM (.int 1000)))))
    (raiseM T.C_OutOfRange "value" (consM (varM 3) nilM))
    nextM)))
    (retM (makeM false T.C_Placing (m_Placing_init T) [] (consM (varM 1) nilM))))
theorem ok_Placing_placed {P : Program} {w : World} {K : PySem.W.Frag} {mg : Str → Option Value} {base : Heap} (T : Top P K mg) : FnOk P w K mg base (L2.CX P w) 5 T.f_Placing_placed T.fd_Placing_placed ["self", "points"] (SpG K T.tabs (m_Placing_placed T)) := by
  refine T.F_Placing_placed.okX sc_Placing_placed (fun vs H Q E h => fn_len h) (fun cdv A outer s H vs Q E hr h => ?_)
  have tk : Takes _ (fun cls d _ H => E cls d H) := takes_of (E := E) (X := cxOf (L2.CX P w) P w K mg base ["self", "points", "point", "number"] "Placing.placed" (defScope s_Placing_placed) T.f_Placing_placed cdv A outer s H E) rfl rfl rfl rfl
  refine ⟨_, (pss_cons (ps_for (passes_of rfl) rfl (pi_values (pv 1)) (pg_name (i := 2) sc_Placing_placed.nd rfl (Or.inl rfl)) (pss_one (ps_for (passes_of rfl) rfl (pi_V (K := K) rfl (pv 2)) (pg_name (i := 3) sc_Placing_placed.nd rfl (Or.inl rfl)) (pss_one (ps_if (pt_not (pt_chain op_leU op_leU (pe_un un_neg (pe_glob (by rfl) T.g_FARTHEST T.r_FARTHEST)) (pv 3) (pe_glob (by rfl) T.g_FARTHEST T.r_FARTHEST))) (pss_one (ps_raiseE rfl T.E_OutOfRange hr tk (pa_cons (pv 3) pa_nil) (by rfl))) pss_nil)))))
      (pss_one (ps_ret (pe_makeSD T.M_Placing (ok_Placing_init T) (hr.mono (by decide)) (by rfl) T.g_Placing T.b_Placing_init .nil (fun σ => passAt tk σ) (pa_cons (pv 1) pa_nil))))), fn_ok ?_ h⟩
  clear tk
  repeat walk_at "s"
def m_Placing_moved {P : Program} {K : PySem.W.Frag} {mg : Str → Option Value} (T : Top P K mg) : Fn := fnD 3 7 (seqM (forM (itM (tupM (consM (varM 1) (consM (varM 2) nilM)))) (gnameM 3) (ifS (notT (testM (callM (m_is_whole T) [] (consM (varM 3) nilM))))
    (raiseM T.C_InvalidShift "value" (consM (varM 3) nilM))
    nextM))
    (retM (methM T.C_Placing "placed" (m_Placing_placed T) [] (varM 0) (consM (dcM false (itemsM (fldM T.C_Placing "by_name" (varM 0))) (gtupnM 2 (gconsM 4 (gconsXM (gtupnM 2 (gconsM 5 (gconsM 6 gnilM))) gnilM))) yesM (varM 4) (tupM (consM (opM (addD false) (varM 5) (varM 1)) (consM (opM (addD false) (varM 6) (varM 2)) nilM))) [4, 5, 6]) nilM))))
theorem ok_Placing_moved {P : Program} {w : World} {K : PySem.W.Frag} {mg : Str → Option Value} {base : Heap} (T : Top P K mg) : FnOk P w K mg base (L2.CX P w) 6 T.f_Placing_moved T.fd_Placing_moved ["self", "dx", "dy"] (SpG K T.tabs (m_Placing_moved T)) := by
  refine T.F_Placing_moved.okX sc_Placing_moved (fun vs H Q E h => fn_len h) (fun cdv A outer s H vs Q E hr h => ?_)
  have tk : Takes _ (fun cls d _ H => E cls d H) := takes_of (E := E) (X := cxOf (L2.CX P w) P w K mg base ["self", "dx", "dy", "number", "name", "x", "y"] "Placing.moved" (defScope s_Placing_moved) T.f_Placing_moved cdv A outer s H E) rfl rfl rfl rfl
  refine ⟨_, (pss_cons (ps_for (passes_of rfl) rfl (pi_V (K := K) rfl (pe_tup (pa_cons (pv 1) (pa_cons (pv 2) pa_nil)))) (pg_name (i := 3) sc_Placing_moved.nd rfl (Or.inl rfl)) (pss_one (ps_if (pt_not (pt_val (pe_callSD (ok_is_whole T) (hr.mono (by decide)) (by rfl) T.g_is_whole T.F_is_whole.kp T.b_is_whole .nil (fun σ => passAt tk σ) (pa_cons (pv 3) pa_nil)))) (pss_one (ps_raiseE rfl T.E_InvalidShift hr tk (pa_cons (pv 3) pa_nil) (by rfl))) pss_nil)))
      (pss_one (ps_ret (pe_methSD (pv 0) T.cl_Placing T.m_Placing_Placing_placed (ok_Placing_placed T) (hr.mono (by decide)) T.b_Placing_placed .nil (fun σ => passAt tk σ) (pa_cons (pe_lk (pe_dc (own := [("name", 4), ("x", 5), ("y", 6)]) (g := gTup K 2 (gCons (gName 4) (gCons (gTup K 2 (gCons (gName 5) (gCons (gName 6) gNil))) gNil))) rfl sc_Placing_moved.nd (pi_items (pe_fldU (K := K) rfl (pv 0) rfl)) (blkOk_by (own := [("name", 4), ("x", 5), ("y", 6)]) (N := ["self", "dx", "dy", "number", "name", "x", "y"]) (sc := defScope s_Placing_moved) (by decide +kernel)) (fun _ _ _ _ _ => (pg_tupU (K := K) (n := 2) rfl rfl (pgs_cons (pg_name (i := 4) sc_Placing_moved.nd rfl (Or.inl rfl)) (pgs_cons (pg_tupU (K := K) (n := 2) rfl rfl (pgs_cons (pg_name (i := 5) sc_Placing_moved.nd rfl (Or.inl rfl)) (pgs_cons (pg_name (i := 6) sc_Placing_moved.nd rfl (Or.inl rfl)) pgs_nil))) pgs_nil)))) (fun _ _ _ _ _ => pts_nil) (fun _ _ _ _ _ => (pv 4)) (fun _ _ _ _ _ => (pe_tup (pa_cons (pe_op op_addU (pv 5) (pv 1)) (pa_cons (pe_op op_addU (pv 6) (pv 2)) pa_nil)))))) pa_nil))))), fn_ok ?_ h⟩
  clear tk
  repeat walk_at "s"
def m_Placing_turned {P : Program} {K : PySem.W.Frag} {mg : Str → Option Value} (T : Top P K mg) : Fn := fnD 1 4 (retM (makeM false T.C_Placing (m_Placing_init T) [] (consM (dcM false (itemsM (fldM T.C_Placing "by_name" (varM 0))) (gtupnM 2 (gconsM 1 (gconsXM (gtupnM 2 (gconsM 2 (gconsM 3 gnilM))) gnilM))) yesM (varM 1) (tupM (consM (unM negD (varM 3)) (consM (varM 2) nilM))) [1, 2, 3]) nilM)))
theorem ok_Placing_turned {P : Program} {w : World} {K : PySem.W.Frag} {mg : Str → Option Value} {base : Heap} (T : Top P K mg) : FnOk P w K mg base (L2.CX P w) 5 T.f_Placing_turned T.fd_Placing_turned ["self"] (SpG K T.tabs (m_Placing_turned T)) := by
  refine T.F_Placing_turned.okX sc_Placing_turned (fun vs H Q E h => fn_len h) (fun cdv A outer s H vs Q E hr h => ?_)
  have tk : Takes _ (fun cls d _ H => E cls d H) := takes_of (E := E) (X := cxOf (L2.CX P w) P w K mg base ["self", "name", "x", "y"] "Placing.turned" (defScope s_Placing_turned) T.f_Placing_turned cdv A outer s H E) rfl rfl rfl rfl
  refine ⟨_, (pss_one (ps_ret (pe_makeSD T.M_Placing (ok_Placing_init T) (hr.mono (by decide)) (by rfl) T.g_Placing T.b_Placing_init .nil (fun σ => passAt tk σ) (pa_cons (pe_lk (pe_dc (own := [("name", 1), ("x", 2), ("y", 3)]) (g := gTup K 2 (gCons (gName 1) (gCons (gTup K 2 (gCons (gName 2) (gCons (gName 3) gNil))) gNil))) rfl sc_Placing_turned.nd (pi_items (pe_fldU (K := K) rfl (pv 0) rfl)) (blkOk_by (own := [("name", 1), ("x", 2), ("y", 3)]) (N := ["self", "name", "x", "y"]) (sc := defScope s_Placing_turned) (by decide +kernel)) (fun _ _ _ _ _ => (pg_tupU (K := K) (n := 2) rfl rfl (pgs_cons (pg_name (i := 1) sc_Placing_turned.nd rfl (Or.inl rfl)) (pgs_cons (pg_tupU (K := K) (n := 2) rfl rfl (pgs_cons (pg_name (i := 2) sc_Placing_turned.nd rfl (Or.inl rfl)) (pgs_cons (pg_name (i := 3) sc_Placing_turned.nd rfl (Or.inl rfl)) pgs_nil))) pgs_nil)))) (fun _ _ _ _ _ => pts_nil) (fun _ _ _ _ _ => (pv 1)) (fun _ _ _ _ _ => (pe_tup (pa_cons (pe_un un_neg (pv 3)) (pa_cons (pv 2) pa_nil)))))) pa_nil)))), fn_ok ?_ h⟩
  clear tk
  repeat walk_at "s"
def m_Placing_mirrored {P : Program} {K : PySem.W.Frag} {mg : Str → Option Value} (T : Top P K mg) : Fn := fnD 1 4 (retM (makeM false T.C_Placing (m_Placing_init T) [] (consM (dcM false (itemsM (fldM T.C_Placing "by_name" (varM 0))) (gtupnM 2 (gconsM 1 (gconsXM (gtupnM 2 (gconsM 2 (gconsM 3 gnilM))) gnilM))) yesM (varM 1) (tupM (consM (unM negD (varM 2)) (consM (varM 3) nilM))) [1, 2, 3]) nilM)))
theorem ok_Placing_mirrored {P : Program} {w : World} {K : PySem.W.Frag} {mg : Str → Option Value} {base : Heap} (T : Top P K mg) : FnOk P w K mg base (L2.CX P w) 5 T.f_Placing_mirrored T.fd_Placing_mirrored ["self"] (SpG K T.tabs (m_Placing_mirrored T)) := by
  refine T.F_Placing_mirrored.okX sc_Placing_mirrored (fun vs H Q E h => fn_len h) (fun cdv A outer s H vs Q E hr h => ?_)
  have tk : Takes _ (fun cls d _ H => E cls d H) := takes_of (E := E) (X := cxOf (L2.CX P w) P w K mg base ["self", "name", "x", "y"] "Placing.mirrored" (defScope s_Placing_mirrored) T.f_Placing_mirrored cdv A outer s H E) rfl rfl rfl rfl
  refine ⟨_, (pss_one (ps_ret (pe_makeSD T.M_Placing (ok_Placing_init T) (hr.mono (by decide)) (by rfl) T.g_Placing T.b_Placing_init .nil (fun σ => passAt tk σ) (pa_cons (pe_lk (pe_dc (own := [("name", 1), ("x", 2), ("y", 3)]) (g := gTup K 2 (gCons (gName 1) (gCons (gTup K 2 (gCons (gName 2) (gCons (gName 3) gNil))) gNil))) rfl sc_Placing_mirrored.nd (pi_items (pe_fldU (K := K) rfl (pv 0) rfl)) (blkOk_by (own := [("name", 1), ("x", 2), ("y", 3)]) (N := ["self", "name", "x", "y"]) (sc := defScope s_Placing_mirrored) (by decide +kernel)) (fun _ _ _ _ _ => (pg_tupU (K := K) (n := 2) rfl rfl (pgs_cons (pg_name (i := 1) sc_Placing_mirrored.nd rfl (Or.inl rfl)) (pgs_cons (pg_tupU (K := K) (n := 2) rfl rfl (pgs_cons (pg_name (i := 2) sc_Placing_mirrored.nd rfl (Or.inl rfl)) (pgs_cons (pg_name (i := 3) sc_Placing_mirrored.nd rfl (Or.inl rfl)) pgs_nil))) pgs_nil)))) (fun _ _ _ _ _ => pts_nil) (fun _ _ _ _ _ => (pv 1)) (fun _ _ _ _ _ => (pe_tup (pa_cons (pe_un un_neg (pv 2)) (pa_cons (pv 3) pa_nil)))))) pa_nil)))), fn_ok ?_ h⟩
  clear tk
  repeat walk_at "s"
def m_Placing_stretched {P : Program} {K : PySem.W.Frag} {mg : Str → Option Value} (T : Top P K mg) : Fn := fnD 2 5 (seqM (ifS (orT (notT (testM (callM (m_is_whole T) [] (consM (varM 1) nilM)))) (testM (opM eqD (varM 1) (cM (.int 0)))))
    (raiseM T.C_InvalidFactor "factor" (consM (varM 1) nilM))
    nextM)
    (retM (methM T.C_Placing "placed" (m_Placing_placed T) [] (varM 0) (consM (dcM false (itemsM (fldM T.C_Placing "by_name" (varM 0))) (gtupnM 2 (gconsM 2 (gconsXM (gtupnM 2 (gconsM 3 (gconsM 4 gnilM))) gnilM))) yesM (varM 2) (tupM (consM (opM (mulD false) (varM 1) (varM 3)) (consM (opM (mulD false) (varM 1) (varM 4)) nilM))) [2, 3, 4]) nilM))))
theorem ok_Placing_stretched {P : Program} {w : World} {K : PySem.W.Frag} {mg : Str → Option Value} {base : Heap} (T : Top P K mg) : FnOk P w K mg base (L2.CX P w) 6 T.f_Placing_stretched T.fd_Placing_stretched ["self", "factor"] (SpG K T.tabs (m_Placing_stretched T)) := by
  refine T.F_Placing_stretched.okX sc_Placing_stretched (fun vs H Q E h => fn_len h) (fun cdv A outer s H vs Q E hr h => ?_)
  have tk : Takes _ (fun cls d _ H => E cls d H) := takes_of (E := E) (X := cxOf (L2.CX P w) P w K mg base ["self", "factor", "name", "x", "y"] "Placing.stretched" (defScope s_Placing_stretched) T.f_Placing_stretched cdv A outer s H E) rfl rfl rfl rfl
  refine ⟨_, (pss_cons (ps_if (PW.pt (pw_or (pt_not (pt_val (pe_callSD (ok_is_whole T) (hr.mono (by decide)) (by rfl) T.g_is_whole T.F_is_whole.kp T.b_is_whole .nil (fun σ => passAt tk σ) (pa_cons (pv 1) pa_nil)))) (pw_or1 (pt_cmpR (op_eqU (K := K) rfl hr.units) (pv 1) pe_int (nomark _))))) (pss_one (ps_raiseE rfl T.E_InvalidFactor hr tk (pa_cons (pv 1) pa_nil) (by rfl))) pss_nil)
      (pss_one (ps_ret (pe_methSD (pv 0) T.cl_Placing T.m_Placing_Placing_placed (ok_Placing_placed T) (hr.mono (by decide)) T.b_Placing_placed .nil (fun σ => passAt tk σ) (pa_cons (pe_lk (pe_dc (own := [("name", 2), ("x", 3), ("y", 4)]) (g := gTup K 2 (gCons (gName 2) (gCons (gTup K 2 (gCons (gName 3) (gCons (gName 4) gNil))) gNil))) rfl sc_Placing_stretched.nd (pi_items (pe_fldU (K := K) rfl (pv 0) rfl)) (blkOk_by (own := [("name", 2), ("x", 3), ("y", 4)]) (N := ["self", "factor", "name", "x", "y"]) (sc := defScope s_Placing_stretched) (by decide +kernel)) (fun _ _ _ _ _ => (pg_tupU (K := K) (n := 2) rfl rfl (pgs_cons (pg_name (i := 2) sc_Placing_stretched.nd rfl (Or.inl rfl)) (pgs_cons (pg_tupU (K := K) (n := 2) rfl rfl (pgs_cons (pg_name (i := 3) sc_Placing_stretched.nd rfl (Or.inl rfl)) (pgs_cons (pg_name (i := 4) sc_Placing_stretched.nd rfl (Or.inl rfl)) pgs_nil))) pgs_nil)))) (fun _ _ _ _ _ => pts_nil) (fun _ _ _ _ _ => (pv 2)) (fun _ _ _ _ _ => (pe_tup (pa_cons (pe_op op_mulU (pv 1) (pv 3)) (pa_cons (pe_op op_mulU (pv 1) (pv 4)) pa_nil)))))) pa_nil))))), fn_ok ?_ h⟩
  clear tk
  repeat walk_at "s"

end K11

set_option Elab.async false
set_option linter.all false
set_option maxRecDepth 100000
set_option maxHeartbeats 3900000
namespace K11
open PySem PySem.Spec PyProof.Rows L2 G M
local macro_rules | `(tactic| walk_at "s") => `(tactic| first
  | (with_reducible exact snd_var)
  | (with_reducible refine' snd_seq ?_ ?_)
  | (with_reducible refine' snd_op ?_ ?_ ?_)
  | (with_reducible refine' snd_cons ?_ ?_)
  | (with_reducible exact snd_nil)
  | (with_reducible refine' snd_c ?_)
  | (intro al G; constructor)
  | (with_reducible refine' snd_asg ?_ ?_)
  | (with_reducible exact snd_gname)
  | (with_reducible refine' snd_ret ?_)
  | (with_reducible refine' snd_ifS ?_ ?_ ?_)
  | (with_reducible refine' snd_test ?_)
  | (with_reducible refine' snd_B ?_)
  | (with_reducible refine' snd_not ?_)
  | (with_reducible refine' snd_and ?_ ?_)
  | (with_reducible refine' snd_or ?_ ?_)
  | (with_reducible refine' snd_notV ?_)
  | (with_reducible refine' snd_andV ?_ ?_)
  | (with_reducible refine' snd_orV ?_ ?_)
  | (with_reducible refine' snd_if ?_ ?_ ?_)
  | (with_reducible refine' snd_chain ?_ ?_ ?_ ?_ ?_)
  | (with_reducible refine' snd_un ?_ ?_)
  | (with_reducible refine' snd_lst ?_)
  | (with_reducible refine' snd_tup ?_)
  | (with_reducible refine' snd_CB ?_ ?_)
  | (with_reducible refine' snd_call ?_ ?_)
  | (with_reducible refine' snd_meth ?_ ?_ ?_)
  | (with_reducible refine' snd_make ?_ ?_)
  | (with_reducible refine' snd_prop ?_)
  | (with_reducible refine' snd_drop ?_)
  | (with_reducible exact snd_retN)
  | (with_reducible exact snd_next)
  | (with_reducible exact snd_break)
  | (with_reducible exact snd_cont)
  | (with_reducible exact snd_never)
  | (with_reducible refine' snd_par ?_)
  | (with_reducible refine' snd_raise ?_)
  | (with_reducible refine' snd_for ?_ ?_ ?_)
  | (with_reducible refine' snd_while ?_ ?_)
  | (with_reducible refine' snd_lcE ?_ ?_ ?_ ?_ ?_)
  | (with_reducible exact snd_yes)
  | (with_reducible refine' snd_itV ?_)
  | (with_reducible refine' snd_rng1 ?_)
  | (with_reducible refine' snd_rng2 ?_)
  | (with_reducible refine' snd_enum ?_)
  | (with_reducible refine' snd_zip ?_)
  | (with_reducible refine' snd_sl ?_ ?_ ?_ ?_)
  | (with_reducible exact snd_noPart)
  | (with_reducible refine' snd_part ?_)
  | (with_reducible refine' snd_bm0 ?_ ?_)
  | (with_reducible refine' snd_bm ?_ ?_ ?_)
  | (with_reducible refine' snd_m1 ?_ ?_ ?_)
  | (with_reducible refine' snd_js ?_)
  | (with_reducible refine' snd_fmt ?_)
  | (with_reducible exact SndJ.nil)
  | (with_reducible refine' SndJ.cons ?_ ?_)
  | (with_reducible exact snd_dnew)
  | (with_reducible exact snd_dnewL)
  | (with_reducible refine' snd_dispL ?_)
  | (with_reducible refine' snd_dictL ?_)
  | (with_reducible refine' snd_dict ?_)
  | (with_reducible refine' snd_dcE ?_ ?_ ?_ ?_ ?_ ?_)
  | (with_reducible refine' snd_lk ?_)
  | (with_reducible refine' snd_items ?_)
  | (with_reducible refine' snd_values ?_)
  | (with_reducible refine' snd_dput ?_ ?_ ?_)
  | (with_reducible refine' sgo_tupn ?_)
  | (with_reducible refine' sgo_consX ?_ ?_)
  | (with_reducible refine' snd_caught (fun _ => ?_) ?_)
  | (with_reducible refine' snd_case (fun _ => ?_) ?_ ?_ ?_)
  | (with_reducible refine' sgo_name ?_)
  | (with_reducible refine' sgo_tup ?_ ?_)
  | (with_reducible refine' sgo_cons ?_ ?_)
  | (with_reducible exact sgo_nil)
  | (with_reducible refine' glen_cons ?_)
  | (with_reducible exact glen_nil)
  | (with_reducible refine' SndGO.g (vs := [0, 1, 2, 3, 4, 5, 6, 7, 8, 9, 10, 11, 12, 13, 14, 15, 16, 17, 18, 19, 20, 21, 22, 23, 24, 25]) ?_)
  | (with_reducible refine' dop_or ?_ ?_)
  | (with_reducible refine' dc_or ?_ ?_)
  | exact dop_add | exact dop_sub | exact dop_mul | exact dop_fdiv | exact dop_mod | exact dop_pow | exact dun_neg
  | exact dop_eq | exact dop_ne | exact dop_lt | exact dop_le | exact dop_gt | exact dop_ge | exact dop_in | exact dop_nin | exact dop_is | exact dop_isnt | exact dop_ix | exact dop_cmpX | exact dop_inX | exact dop_eqK | exact dop_eqLX | exact dop_inP | exact dc_reprG | exact dc_maxS | exact dc_minS
  | exact dc_sorted | exact dc_sortK | exact dc_maxL | exact dc_minL | exact dc_all | exact dc_any | exact dc_sum | exact dc_tuple
  | (with_reducible refine' snd_lenSet ?_)
  | (with_reducible refine' snd_rev ?_)
  | (with_reducible refine' snd_par3 ?_)
  | (with_reducible refine' snd_disp ?_)
  | (with_reducible exact snd_pnil)
  | (with_reducible refine' snd_pcons ?_ ?_ ?_)
  | (with_reducible refine' snd_dget ?_ ?_)
  | exact dsl | exact dc_len | exact dc_isi | exact dc_list | exact dc_int | exact dc_max2 | exact dc_min2 | exact dc_str | exact dc_strX | exact dc_repr
  | exact dm_append | exact dm_extend | exact dm_pop | exact dm_popAt | exact dm_join | exact dm_split | (exact dm_s0 fun _ _ _ => .bl _)
  | (with_reducible refine' snd_fld ?_ ?_ ?_)
  | (with_reducible refine' snd_sfld ?_ ?_ ?_ ?_)
  | (exact fun _ _ => .nil)
  | (exact Top.cl_Placing (by assumption)) | (exact Top.n_Placing_by_name (by assumption))
  | decide)
local macro_rules | `(tactic| walk_at "g") => `(tactic| first
  | (with_reducible refine' w_seq ?_)
  | ((with_reducible refine' w_var ?h ?_); (case h => exact rfl))
  | (with_reducible refine' w_c ?_)
  | (with_reducible refine' w_op ?_)
  | (with_reducible refine' w_asg ?_)
  | (with_reducible refine' w_gname ?_)
  | (with_reducible refine' w_ifS ?_)
  | (with_reducible refine' w_test ?_)
  | (with_reducible refine' w_bl ?_)
  | (with_reducible refine' w_CB ?_)
  | (with_reducible refine' w_cons ?_)
  | (with_reducible refine' w_nil ?_)
  | (with_reducible refine' w_call ?_)
  | (with_reducible refine' w_ret ?_)
  | (with_reducible refine' w_drop ?_)
  | (with_reducible refine' w_next ?_)
  | (with_reducible refine' w_and ?_)
  | (with_reducible refine' w_or ?_)
  | (with_reducible refine' w_not ?_)
  | (with_reducible refine' w_andV ?_)
  | (with_reducible refine' w_orV ?_)
  | (with_reducible refine' w_notV ?_)
  | (with_reducible refine' w_if ?_)
  | (with_reducible refine' w_chain ?_)
  | (with_reducible refine' w_B ?_)
  | (with_reducible refine' w_un ?_)
  | (with_reducible refine' w_lst ?_)
  | (with_reducible refine' w_tup ?_)
  | (with_reducible refine' w_gsub ?_)
  | (with_reducible refine' w_par ?_)
  | (with_reducible refine' w_two ?_)
  | (with_reducible refine' w_sl ?_)
  | (with_reducible refine' w_retN ?_)
  | (with_reducible refine' w_yes ?_)
  | (with_reducible refine' w_m1 ?_)
  | (with_reducible refine' w_pair0 ?_)
  | (with_reducible refine' w_pair1 ?_)
  | (with_reducible refine' c_reprB ?_)
  | (with_reducible refine' w_noPart ?_)
  | (with_reducible refine' w_part ?_)
  | (with_reducible refine' w_isI ?_)
  | (with_reducible refine' w_make ?_)
  | (with_reducible refine' w_sfld ?_)
  | (with_reducible refine' w_fld ?_)
  | (with_reducible refine' w_lc ?_)
  | (with_reducible refine' w_for ?_)
  | (with_reducible refine' w_iR1 ?_)
  | (with_reducible refine' w_iR2 ?_)
  | ((with_reducible refine' w_lcW ?h ?_); (case h => exact rfl))
  | (with_reducible refine' m_strT ?_)
  | (with_reducible refine' w_bm0 ?_)
  | (with_reducible refine' w_bm ?_)
  | (with_reducible refine' m_str ?_)
  | (with_reducible refine' m_s0 ?_)
  | ((with_reducible refine' m_lst ?h ?_); (case h => first | assumption | exact SqL.of upd_same | exact SqL.of (by assumption)))
  | (with_reducible refine' a_addI ?_)
  | (with_reducible refine' a_I0 ?_)
  | ((with_reducible refine' a_mulI ?h ?_); (case h => first | exact .inl ⟨by decide, by decide⟩ | exact .inr ⟨by decide, by decide⟩ | exact .inl ⟨by omega, by omega⟩ | exact .inr ⟨by omega, by omega⟩))
  | ((with_reducible refine' a_fdiv ?h ?_); (case h => first | exact ⟨by decide, by decide⟩ | exact ⟨by omega, by omega⟩))
  | ((with_reducible refine' a_mod ?h ?_); (case h => first | decide | omega))
  | ((with_reducible refine' a_pow ?h ?_); (case h => first | exact ⟨by decide, by decide, by decide⟩ | exact ⟨by decide, by decide, by omega⟩))
  | (with_reducible refine' a_neg ?_)
  | (with_reducible refine' a_ltI ?_)
  | (with_reducible refine' a_leI ?_)
  | (with_reducible refine' a_gtI ?_)
  | (with_reducible refine' a_geI ?_)
  | (with_reducible refine' a_ltS ?_)
  | (with_reducible refine' a_eqI ?_)
  | (with_reducible refine' a_eqS ?_)
  | (with_reducible refine' a_neI ?_)
  | (with_reducible refine' a_neS ?_)
  | (with_reducible refine' a_isnotB ?_)
  | (with_reducible refine' a_isB ?_)
  | (with_reducible refine' a_isN ?_)
  | (with_reducible refine' a_isnotN ?_)
  | ((with_reducible refine' a_ixL ?h1 ?h2 ?_); (case h1 => first | assumption | exact upd_same); (case h2 => exact rfl))
  | ((with_reducible refine' a_set ?h1 ?h2 ?_); (case h1 => first | assumption | exact upd_same); (case h2 => exact rfl))
  | (with_reducible refine' c_int ?_)
  | (with_reducible refine' c_intB ?_)
  | (with_reducible refine' c_max ?_)
  | (with_reducible refine' c_min ?_)
  | ((with_reducible refine' a_fdiv ?h ?_); (case h => first | exact ⟨by decide, by decide⟩ | exact ⟨by omega, by omega⟩))
  | (with_reducible refine' iteT ?_)
  | (with_reducible refine' iteF ?_)
  | (with_reducible refine' iteNT ?_)
  | (with_reducible refine' iteNF ?_)
  | (with_reducible refine' w_js ?_)
  | (with_reducible refine' w_jsn ?_)
  | (with_reducible refine' w_fmt ?_)
  | ((with_reducible refine' w_makeL ?h ?_); (case h => exact rfl))
  | (with_reducible refine' w_raiseE ?_)
  | (with_reducible refine' w_getE ?_)
  | ((with_reducible refine' w_callW ?h ?_); (case h => exact rfl))
  | (with_reducible refine' w_cmeth ?_)
  | (with_reducible refine' is_of ?_)
  | ((with_reducible refine' w_lam1 ?h ?_); (case h => assumption)))
theorem old_l_cell {P : Program} {w : World} {K : PySem.W.Frag} {mg : Str → Option Value} {base : Heap} (T : Top P K mg) : FnOk P w K mg base CX0 (1) T.f_l_cell T.fd_l_cell ["_law_script", "_law_k"] (sp_cell K) := by
  refine T.F_l_cell.ok sc_l_cell (fun vs H Q E h => ?_) (fun cdv A outer s H vs Q E hr h => ?_)
  · obtain ⟨a, ns, k, rfl, hS, hl, hk, q⟩ := h
    rfl
  · obtain ⟨a, ns, k, rfl, hS, hl, hk, q⟩ := h
    refine ⟨_, (pss_cons (ps_if (pt_cmpR op_ltU (pv 1) (pe_callB (call_lenU (K := K) rfl) (by rfl) T.m_len PySem.boot_len (pa_cons (pv 0) pa_nil)) (nomark _)) (pss_one (ps_ret (pe_ix (ix_U (K := K) rfl) (pv 0) (pv 1) (fun _ _ => rfl)))) pss_nil)
      (pss_one (ps_ret (pe_op op_addU (pe_op op_mulU pe_int (pv 1)) pe_int)))), ?_⟩
    repeat walk_at "g"
    refine c_lenL hS ?_
    repeat walk_at "g"
    refine iteD (fun h => ?_) (fun h => ?_)
    · repeat walk_at "g"
      rw [List.length_map] at h
      have h1 : k < ns.length := by omega
      refine a_ixLK hS (atI_nat (j := k) (by rw [List.getElem?_map, List.getElem?_eq_getElem h1]; rfl)) ?_
      exact q _
    · repeat walk_at "g"
      exact q _

def m_l_cell {P : Program} {K : PySem.W.Frag} {mg : Str → Option Value} (T : Top P K mg) : Fn := cellF
theorem ok_l_cell {P : Program} {w : World} {K : PySem.W.Frag} {mg : Str → Option Value} {base : Heap} (T : Top P K mg) : FnOk P w K mg base (L2.CX P w) 1 T.f_l_cell T.fd_l_cell ["_law_script", "_law_k"] (SpG K T.tabs (m_l_cell T)) := cell_ok (fn_cx0 (old_l_cell T))
theorem old_l_box {P : Program} {w : World} {K : PySem.W.Frag} {mg : Str → Option Value} {base : Heap} (T : Top P K mg) : FnOk P w K mg base CX0 (1) T.f_l_box T.fd_l_box ["_law_cell_here"] (sp_box) := by
  refine T.F_l_box.ok sc_l_box (fun vs H Q E h => ?_) (fun cdv A outer s H vs Q E hr h => ?_)
  · obtain ⟨c, rfl, q⟩ := h
    rfl
  · obtain ⟨c, rfl, q⟩ := h
    refine ⟨_, (pss_one (ps_ret (pe_lst (pa_cons (pe_callB (call_maxU (K := K) rfl rfl) (by rfl) T.m_max (by decide +kernel) (pa_cons pe_int (pa_cons (pe_op op_sub (pv 0) (pe_op op_powU pe_int pe_int)) pa_nil))) (pa_cons (pe_op op_modU (pe_callTy call_intU (by rfl) T.m_int (by decide +kernel) (pa_cons (pv 0) pa_nil)) pe_int) (pa_cons pe_int pa_nil)))))), ?_⟩
    repeat walk_at "g"
    refine newL_of rfl fun p hp => q p _ hp ⟨_, _, _, rfl, ?_, fmod_lo _ (by decide), fmod_hi _ (by decide), by decide, by decide⟩
    split <;> omega

def m_l_box {P : Program} {K : PySem.W.Frag} {mg : Str → Option Value} (T : Top P K mg) : Fn := boxF
theorem ok_l_box {P : Program} {w : World} {K : PySem.W.Frag} {mg : Str → Option Value} {base : Heap} (T : Top P K mg) : FnOk P w K mg base (L2.CX P w) 1 T.f_l_box T.fd_l_box ["_law_cell_here"] (SpG K T.tabs (m_l_box T)) := box_ok (fn_cx0 (old_l_box T))
theorem old_l_take {P : Program} {w : World} {K : PySem.W.Frag} {mg : Str → Option Value} {base : Heap} (T : Top P K mg) : FnOk P w K mg base CX0 (1) T.f_l_take T.fd_l_take ["_law_box_here", "_law_many"] (sp_take) := by
  refine T.F_l_take.ok sc_l_take (fun vs H Q E h => ?_) (fun cdv A outer s H vs Q E hr h => ?_)
  · obtain ⟨p, m, o, n, rfl, hp, ⟨a, b, c, rfl, ha, hb, hb2, hc, hc2⟩, hn, hm, hm2, q⟩ := h
    rfl
  · obtain ⟨p, m, o, n, rfl, hp, ⟨a, b, c, rfl, ha, hb, hb2, hc, hc2⟩, hn, hm, hm2, q⟩ := h
    refine ⟨_, (pss_cons (ps_if (pt_cmpR op_gtU (pe_ix (ix_U (K := K) rfl) (pv 0) pe_int (fun _ _ => rfl)) pe_int (nomark _)) (pss_cons (ps_set (i := 2) sc_l_take.nd rfl (Or.inl rfl) (pe_op op_modU (pe_callTy call_intU (by rfl) T.m_int (by decide +kernel) (pa_cons (pe_ix (ix_U (K := K) rfl) (pv 0) pe_int (fun _ _ => rfl)) pa_nil)) (pv 1)))
      (pss_cons (ps_asg (pe_op op_fdivU (pe_ix (ix_U (K := K) rfl) (pv 0) pe_int (fun _ _ => rfl)) (pv 1)) (pg_sub (pv 0) pe_int set_list))
      (pss_one (ps_ret (pv 2))))) pss_nil)
      (pss_cons (ps_asg (pe_op op_addU (pe_ix (ix_U (K := K) rfl) (pv 0) pe_int (fun _ _ => rfl)) pe_int) (pg_sub (pv 0) pe_int set_list))
      (pss_cons (ps_set (i := 3) sc_l_take.nd rfl (Or.inl rfl) (pe_op op_modU (pe_op op_powU (pe_callTy call_intU (by rfl) T.m_int (by decide +kernel) (pa_cons (pe_op op_addU (pe_op op_addU (pe_ix (ix_U (K := K) rfl) (pv 0) pe_int (fun _ _ => rfl)) (pe_op op_mulU pe_int (pe_ix (ix_U (K := K) rfl) (pv 0) pe_int (fun _ _ => rfl)))) pe_int) pa_nil)) pe_int) pe_int))
      (pss_cons (ps_set (i := 3) sc_l_take.nd rfl (Or.inl rfl) (pe_op op_modU (pe_op op_powU (pe_callTy call_intU (by rfl) T.m_int (by decide +kernel) (pa_cons (pe_op op_addU (pv 3) (pe_op op_mulU pe_int (pe_ix (ix_U (K := K) rfl) (pv 0) pe_int (fun _ _ => rfl)))) pa_nil)) pe_int) pe_int))
      (pss_one (ps_ret (pe_op op_modU (pe_callTy call_intU (by rfl) T.m_int (by decide +kernel) (pa_cons (pe_op op_fdivU (pv 3) pe_int) pa_nil)) (pv 1)))))))), ?_⟩
    repeat walk_at "g"
    refine iteD (fun h => ?_) (fun h => ?_)
    · repeat walk_at "g"
      exact q _ _ (fmod_lo _ hm) (fmod_hi _ hm) ⟨_, _, _, rfl, fdiv_lo ha hm, hb, hb2, hc, by omega⟩
    · repeat walk_at "g"
      have e1 := fmod_lo ((b + 5025 * (c + 1) + 111) ^ Int.toNat 5) (show (0 : Int) < 2147483647 by decide)
      have e2 := fmod_hi ((b + 5025 * (c + 1) + 111) ^ Int.toNat 5) (show (0 : Int) < 2147483647 by decide)
      repeat walk_at "g"
      exact q _ _ (fmod_lo _ hm) (fmod_hi _ hm) ⟨_, _, _, rfl, ha, hb, hb2, by omega, by omega⟩

def m_l_take {P : Program} {K : PySem.W.Frag} {mg : Str → Option Value} (T : Top P K mg) : Fn := takeF
theorem ok_l_take {P : Program} {w : World} {K : PySem.W.Frag} {mg : Str → Option Value} {base : Heap} (T : Top P K mg) : FnOk P w K mg base (L2.CX P w) 1 T.f_l_take T.fd_l_take ["_law_box_here", "_law_many"] (SpG K T.tabs (m_l_take T)) := take_ok (fn_cx0 (old_l_take T))
def m_l_mixed {P : Program} {K : PySem.W.Frag} {mg : Str → Option Value} (T : Top P K mg) : Fn := fnD 2 4 (seqM (asgM (cbM (listD true) (consM (varM 1) nilM)) (gnameM 2))
    (retM (lcM false (rng1M (consM (cbM lenD (consM (varM 1) nilM)) nilM)) (gnameM 3) yesM (bmM "list" popAtD (varM 2) (consM (callM (m_l_take T) [] (consM (varM 0) (consM (cbM lenD (consM (varM 2) nilM)) nilM))) nilM)) [3])))
theorem ok_l_mixed {P : Program} {w : World} {K : PySem.W.Frag} {mg : Str → Option Value} {base : Heap} (T : Top P K mg) : FnOk P w K mg base (L2.CX P w) 2 T.f_l_mixed T.fd_l_mixed ["_law_box_here", "_law_some"] (SpG K T.tabs (m_l_mixed T)) := by
  refine T.F_l_mixed.okX sc_l_mixed (fun vs H Q E h => fn_len h) (fun cdv A outer s H vs Q E hr h => ?_)
  have tk : Takes _ (fun cls d _ H => E cls d H) := takes_of (E := E) (X := cxOf (L2.CX P w) P w K mg base ["_law_box_here", "_law_some", "_law_left", "_law_k"] "_law_mixed" (defScope s_l_mixed) T.f_l_mixed cdv A outer s H E) rfl rfl rfl rfl
  refine ⟨_, (pss_cons (ps_set (i := 2) sc_l_mixed.nd rfl (Or.inr rfl) (pe_callTy (call_listU (K := K) rfl) (by rfl) T.m_list (by decide +kernel) (pa_cons (pv 1) pa_nil)))
      (pss_one (ps_ret (pe_lc (own := [("_law_k", 3)]) (g := gName 3) rfl sc_l_mixed.nd (pi_range1 (by rfl) T.m_range (pa_cons (pe_callB (call_lenU (K := K) rfl) (by rfl) T.m_len PySem.boot_len (pa_cons (pv 1) pa_nil)) pa_nil)) (blkOk_by (own := [("_law_k", 3)]) (N := ["_law_box_here", "_law_some", "_law_left", "_law_k"]) (sc := defScope s_l_mixed) (by decide +kernel)) (fun _ _ _ _ _ => (pg_name (i := 3) sc_l_mixed.nd rfl (Or.inl rfl))) (fun _ _ _ _ _ => pts_nil) (fun _ _ _ _ _ => (pe_bmU (K := K) rfl PySem.F.plainAttrs_list PySem.F.slot_list_pop PySem.F.type_list_pop mt_popAt (pv 2) (pa_cons (pe_callSD (ok_l_take T) (hr.mono (by decide)) (by rfl) T.g_l_take T.F_l_take.kp T.b_l_take .nil (fun σ => passAt takesF σ) (pa_cons (pv 0) (pa_cons (pe_callB (call_lenU (K := K) rfl) (by rfl) T.m_len PySem.boot_len (pa_cons (pv 2) pa_nil)) pa_nil))) pa_nil))))))), fn_ok ?_ h⟩
  clear tk
  repeat walk_at "s"
def m_l_names {P : Program} {K : PySem.W.Frag} {mg : Str → Option Value} (T : Top P K mg) : Fn := fnD 2 8 (seqM (asgM (tupM (consM (callM (m_l_take T) [] (consM (varM 0) (consM (cM (.int 5)) nilM))) (consM (callM (m_l_take T) [] (consM (varM 0) (consM (cM (.int 26)) nilM))) nilM))) (gtupM (gconsM 2 (gconsM 3 gnilM))))
    (seqM (asgM (cM (.str (Str.ofString "abcdefghijklmnopqrstuvwxyz"))) (gnameM 4))
    (seqM (asgM (m1M joinD (cM (.str (Str.ofString ""))) (lcM false (rng1M (consM (cM (.int 8)) nilM)) (gnameM 7) yesM (opM ixD (varM 4) (opM modD (cbM int1D (consM (opM (addD false) (varM 3) (opM (mulD false) (cM (.int 5)) (varM 7))) nilM)) (cM (.int 26)))) [7])) (gnameM 5))
    (seqM (ifS (andT (testM (opM eqD (varM 2) (cM (.int 0)))) (testM (opM ltD (varM 1) (cM (.int 9)))))
    (retM (callM (m_l_mixed T) [] (consM (varM 0) (consM (lcM false (rng1M (consM (varM 1) nilM)) (gnameM 7) yesM (slM (slD false) (varM 5) noPartM (partM (opM (addD false) (varM 7) (cM (.int 1))))) [7]) nilM))))
    nextM)
    (seqM (ifS (andT (testM (opM eqD (varM 2) (cM (.int 1)))) (testM (opM ltD (varM 1) (cM (.int 9)))))
    (retM (callM (m_l_mixed T) [] (consM (varM 0) (consM (lcM false (rng1M (consM (varM 1) nilM)) (gnameM 7) yesM (opM (mulD false) (opM ixD (varM 4) (varM 3)) (opM (addD false) (varM 7) (cM (.int 1)))) [7]) nilM))))
    nextM)
    (seqM (ifS (andT (testM (opM eqD (varM 2) (cM (.int 2)))) (testM (opM ltD (varM 1) (cM (.int 9)))))
    (retM (slM (slD false) (callM (m_l_mixed T) [] (consM (varM 0) (consM (lstM false (consM (cM (.str (Str.ofString "length"))) (consM (cM (.str (Str.ofString "bearing"))) (consM (cM (.str (Str.ofString "mark"))) (consM (cM (.str (Str.ofString "lengths"))) (consM (cM (.str (Str.ofString "landmark"))) (consM (cM (.str (Str.ofString "bearings"))) (consM (cM (.str (Str.ofString "ab"))) (consM (cM (.str (Str.ofString "a"))) nilM))))))))) nilM))) noPartM (partM (varM 1))))
    nextM)
    (seqM (asgM (callM (m_l_take T) [] (consM (varM 0) (consM (cM (.int 8)) nilM))) (gnameM 6))
    (seqM (ifS (testM (opM eqD (varM 2) (cM (.int 3))))
    (retM (lcM false (rng1M (consM (varM 1) nilM)) (gnameM 7) yesM (opM (addD false) (slM (slD false) (varM 5) noPartM (partM (varM 6))) (opM ixD (varM 4) (opM modD (cbM int1D (consM (opM (addD false) (varM 3) (opM (mulD false) (cM (.int 7)) (varM 7))) nilM)) (cM (.int 26))))) [7]))
    nextM)
    (retM (lcM false (rng1M (consM (varM 1) nilM)) (gnameM 7) yesM (opM (addD false) (opM ixD (varM 4) (opM modD (cbM int1D (consM (opM (addD false) (varM 3) (opM (mulD false) (cM (.int 7)) (varM 7))) nilM)) (cM (.int 26)))) (slM (slD false) (varM 5) noPartM (partM (opM (mulD false) (varM 6) (opM modD (varM 7) (cM (.int 2))))))) [7]))))))))))
theorem ok_l_names {P : Program} {w : World} {K : PySem.W.Frag} {mg : Str → Option Value} {base : Heap} (T : Top P K mg) : FnOk P w K mg base (L2.CX P w) 3 T.f_l_names T.fd_l_names ["_law_box_here", "_law_many"] (SpG K T.tabs (m_l_names T)) := by
  refine T.F_l_names.okX sc_l_names (fun vs H Q E h => fn_len h) (fun cdv A outer s H vs Q E hr h => ?_)
  have tk : Takes _ (fun cls d _ H => E cls d H) := takes_of (E := E) (X := cxOf (L2.CX P w) P w K mg base ["_law_box_here", "_law_many", "_law_way", "_law_first", "_law_letters", "_law_base", "_law_size", "_law_k"] "_law_names" (defScope s_l_names) T.f_l_names cdv A outer s H E) rfl rfl rfl rfl
  refine ⟨_, (pss_cons (ps_asg (pe_tup (pa_cons (pe_callSD (ok_l_take T) (hr.mono (by decide)) (by rfl) T.g_l_take T.F_l_take.kp T.b_l_take .nil (fun σ => passAt tk σ) (pa_cons (pv 0) (pa_cons pe_int pa_nil))) (pa_cons (pe_callSD (ok_l_take T) (hr.mono (by decide)) (by rfl) T.g_l_take T.F_l_take.kp T.b_l_take .nil (fun σ => passAt tk σ) (pa_cons (pv 0) (pa_cons pe_int pa_nil))) pa_nil))) (pg_tupU (K := K) (n := 2) rfl rfl (pgs_cons (pg_name (i := 2) sc_l_names.nd rfl (Or.inl rfl)) (pgs_cons (pg_name (i := 3) sc_l_names.nd rfl (Or.inr rfl)) pgs_nil))))
      (pss_cons (ps_set (i := 4) sc_l_names.nd rfl (Or.inr rfl) pe_str)
      (pss_cons (ps_set (i := 5) sc_l_names.nd rfl (Or.inr rfl) (pe_joinU (K := K) rfl pe_str (pe_lc (own := [("_law_k", 7)]) (g := gName 7) rfl sc_l_names.nd (pi_range1 (by rfl) T.m_range (pa_cons pe_int pa_nil)) (blkOk_by (own := [("_law_k", 7)]) (N := ["_law_box_here", "_law_many", "_law_way", "_law_first", "_law_letters", "_law_base", "_law_size", "_law_k"]) (sc := defScope s_l_names) (by decide +kernel)) (fun _ _ _ _ _ => (pg_name (i := 7) sc_l_names.nd rfl (Or.inl rfl))) (fun _ _ _ _ _ => pts_nil) (fun _ _ _ _ _ => (pe_ix (ix_U (K := K) rfl) (pv 4) (pe_op op_modU (pe_callTy call_intU (by rfl) T.m_int (by decide +kernel) (pa_cons (pe_op op_addU (pv 3) (pe_op op_mulU pe_int (pv 7))) pa_nil)) pe_int) (fun _ _ => rfl))))))
      (pss_cons (ps_if (PW.pt (pw_and (pt_cmpR (op_eqU (K := K) rfl hr.units) (pv 2) pe_int (nomark _)) (pw_and1 (pt_cmpR op_ltU (pv 1) pe_int (nomark _))))) (pss_one (ps_ret (pe_callSD (ok_l_mixed T) (hr.mono (by decide)) (by rfl) T.g_l_mixed T.F_l_mixed.kp T.b_l_mixed .nil (fun σ => passAt tk σ) (pa_cons (pv 0) (pa_cons (pe_lc (own := [("_law_k", 7)]) (g := gName 7) rfl sc_l_names.nd (pi_range1 (by rfl) T.m_range (pa_cons (pv 1) pa_nil)) (blkOk_by (own := [("_law_k", 7)]) (N := ["_law_box_here", "_law_many", "_law_way", "_law_first", "_law_letters", "_law_base", "_law_size", "_law_k"]) (sc := defScope s_l_names) (by decide +kernel)) (fun _ _ _ _ _ => (pg_name (i := 7) sc_l_names.nd rfl (Or.inl rfl))) (fun _ _ _ _ _ => pts_nil) (fun _ _ _ _ _ => (pe_slice (sl_U (K := K) rfl) (pv 5) po_none (po_some (pe_op op_addU (pv 7) pe_int))))) pa_nil))))) pss_nil)
      (pss_cons (ps_if (PW.pt (pw_and (pt_cmpR (op_eqU (K := K) rfl hr.units) (pv 2) pe_int (nomark _)) (pw_and1 (pt_cmpR op_ltU (pv 1) pe_int (nomark _))))) (pss_one (ps_ret (pe_callSD (ok_l_mixed T) (hr.mono (by decide)) (by rfl) T.g_l_mixed T.F_l_mixed.kp T.b_l_mixed .nil (fun σ => passAt tk σ) (pa_cons (pv 0) (pa_cons (pe_lc (own := [("_law_k", 7)]) (g := gName 7) rfl sc_l_names.nd (pi_range1 (by rfl) T.m_range (pa_cons (pv 1) pa_nil)) (blkOk_by (own := [("_law_k", 7)]) (N := ["_law_box_here", "_law_many", "_law_way", "_law_first", "_law_letters", "_law_base", "_law_size", "_law_k"]) (sc := defScope s_l_names) (by decide +kernel)) (fun _ _ _ _ _ => (pg_name (i := 7) sc_l_names.nd rfl (Or.inl rfl))) (fun _ _ _ _ _ => pts_nil) (fun _ _ _ _ _ => (pe_op op_mulU (pe_ix (ix_U (K := K) rfl) (pv 4) (pv 3) (fun _ _ => rfl)) (pe_op op_addU (pv 7) pe_int)))) pa_nil))))) pss_nil)
      (pss_cons (ps_if (PW.pt (pw_and (pt_cmpR (op_eqU (K := K) rfl hr.units) (pv 2) pe_int (nomark _)) (pw_and1 (pt_cmpR op_ltU (pv 1) pe_int (nomark _))))) (pss_one (ps_ret (pe_slice (sl_U (K := K) rfl) (pe_callSD (ok_l_mixed T) (hr.mono (by decide)) (by rfl) T.g_l_mixed T.F_l_mixed.kp T.b_l_mixed .nil (fun σ => passAt tk σ) (pa_cons (pv 0) (pa_cons (pe_lst (pa_cons pe_str (pa_cons pe_str (pa_cons pe_str (pa_cons pe_str (pa_cons pe_str (pa_cons pe_str (pa_cons pe_str (pa_cons pe_str pa_nil))))))))) pa_nil))) po_none (po_some (pv 1))))) pss_nil)
      (pss_cons (ps_set (i := 6) sc_l_names.nd rfl (Or.inr rfl) (pe_callSD (ok_l_take T) (hr.mono (by decide)) (by rfl) T.g_l_take T.F_l_take.kp T.b_l_take .nil (fun σ => passAt tk σ) (pa_cons (pv 0) (pa_cons pe_int pa_nil))))
      (pss_cons (ps_if (pt_cmpR (op_eqU (K := K) rfl hr.units) (pv 2) pe_int (nomark _)) (pss_one (ps_ret (pe_lc (own := [("_law_k", 7)]) (g := gName 7) rfl sc_l_names.nd (pi_range1 (by rfl) T.m_range (pa_cons (pv 1) pa_nil)) (blkOk_by (own := [("_law_k", 7)]) (N := ["_law_box_here", "_law_many", "_law_way", "_law_first", "_law_letters", "_law_base", "_law_size", "_law_k"]) (sc := defScope s_l_names) (by decide +kernel)) (fun _ _ _ _ _ => (pg_name (i := 7) sc_l_names.nd rfl (Or.inl rfl))) (fun _ _ _ _ _ => pts_nil) (fun _ _ _ _ _ => (pe_op op_addU (pe_slice (sl_U (K := K) rfl) (pv 5) po_none (po_some (pv 6))) (pe_ix (ix_U (K := K) rfl) (pv 4) (pe_op op_modU (pe_callTy call_intU (by rfl) T.m_int (by decide +kernel) (pa_cons (pe_op op_addU (pv 3) (pe_op op_mulU pe_int (pv 7))) pa_nil)) pe_int) (fun _ _ => rfl))))))) pss_nil)
      (pss_one (ps_ret (pe_lc (own := [("_law_k", 7)]) (g := gName 7) rfl sc_l_names.nd (pi_range1 (by rfl) T.m_range (pa_cons (pv 1) pa_nil)) (blkOk_by (own := [("_law_k", 7)]) (N := ["_law_box_here", "_law_many", "_law_way", "_law_first", "_law_letters", "_law_base", "_law_size", "_law_k"]) (sc := defScope s_l_names) (by decide +kernel)) (fun _ _ _ _ _ => (pg_name (i := 7) sc_l_names.nd rfl (Or.inl rfl))) (fun _ _ _ _ _ => pts_nil) (fun _ _ _ _ _ => (pe_op op_addU (pe_ix (ix_U (K := K) rfl) (pv 4) (pe_op op_modU (pe_callTy call_intU (by rfl) T.m_int (by decide +kernel) (pa_cons (pe_op op_addU (pv 3) (pe_op op_mulU pe_int (pv 7))) pa_nil)) pe_int) (fun _ _ => rfl)) (pe_slice (sl_U (K := K) rfl) (pv 5) po_none (po_some (pe_op op_mulU (pv 6) (pe_op op_modU (pv 7) pe_int))))))))))))))))), fn_ok ?_ h⟩
  clear tk
  repeat walk_at "s"
def m_l_points {P : Program} {K : PySem.W.Frag} {mg : Str → Option Value} (T : Top P K mg) : Fn := fnD 2 8 (seqM (parM 2 3 (consM (callM (m_l_take T) [] (consM (varM 0) (consM (cM (.int 5)) nilM))) (consM (dnewM true) nilM)))
    (seqM (forM (itM (varM 1)) (gnameM 4) (seqM (parM 5 6 (consM (callM (m_l_take T) [] (consM (varM 0) (consM (cM (.int 2001)) nilM))) (consM (callM (m_l_take T) [] (consM (varM 0) (consM (cM (.int 2001)) nilM))) nilM)))
    (seqM (asgM (tupM (consM (opM modD (cbM int1D (consM (varM 5) nilM)) (cM (.int 7))) (consM (opM modD (cbM int1D (consM (varM 6) nilM)) (cM (.int 7))) nilM))) (gnameM 7))
    (seqM (dputM (varM 3) (varM 4) (opM ixD (lstM false (consM (varM 7) (consM (tupM (consM (opM subD (opM modD (cbM int1D (consM (varM 5) nilM)) (cM (.int 9))) (cM (.int 4))) (consM (cM (.int 0)) nilM))) (consM (tupM (consM (opM subD (varM 5) (cM (.int 1000))) (consM (opM subD (varM 6) (cM (.int 1000))) nilM))) (consM (varM 7) (consM (tupM (consM (opM modD (cbM int1D (consM (varM 5) nilM)) (cM (.int 2))) (consM (opM modD (cbM int1D (consM (varM 6) nilM)) (cM (.int 2))) nilM))) nilM)))))) (varM 2)))
    (ifS (andT (testM (opM eqD (varM 2) (cM (.int 3)))) (testM (opM eqD (callM (m_l_take T) [] (consM (varM 0) (consM (cM (.int 3)) nilM))) (cM (.int 0)))))
    (dputM (varM 3) (varM 4) (tupM (consM (opM ixD (lstM false (consM (unM negD (cM (.int 1000))) (consM (cM (.int 1000)) nilM))) (opM modD (cbM int1D (consM (varM 5) nilM)) (cM (.int 2)))) (consM (opM ixD (lstM false (consM (unM negD (cM (.int 1000))) (consM (cM (.int 0)) (consM (cM (.int 1000)) nilM)))) (opM modD (cbM int1D (consM (varM 6) nilM)) (cM (.int 3)))) nilM))))
    nextM)))))
    (retM (lkM (varM 3)))))
theorem ok_l_points {P : Program} {w : World} {K : PySem.W.Frag} {mg : Str → Option Value} {base : Heap} (T : Top P K mg) : FnOk P w K mg base (L2.CX P w) 2 T.f_l_points T.fd_l_points ["_law_box_here", "_law_marks"] (SpG K T.tabs (m_l_points T)) := by
  refine T.F_l_points.okX sc_l_points (fun vs H Q E h => fn_len h) (fun cdv A outer s H vs Q E hr h => ?_)
  have tk : Takes _ (fun cls d _ H => E cls d H) := takes_of (E := E) (X := cxOf (L2.CX P w) P w K mg base ["_law_box_here", "_law_marks", "_law_way", "_law_found", "_law_name", "_law_x", "_law_y", "_law_small"] "_law_points" (defScope s_l_points) T.f_l_points cdv A outer s H E) rfl rfl rfl rfl
  refine ⟨_, (pss_cons (ps_par (i := 2) (j := 3) (by rfl) sc_l_points.nd rfl rfl (by decide) rfl rfl (pa_cons (pe_callSD (ok_l_take T) (hr.mono (by decide)) (by rfl) T.g_l_take T.F_l_take.kp T.b_l_take .nil (fun σ => passAt tk σ) (pa_cons (pv 0) (pa_cons pe_int pa_nil))) (pa_cons pe_dnewK pa_nil)) (by rfl))
      (pss_cons (ps_for (passes_of rfl) rfl (pi_V (K := K) rfl (pv 1)) (pg_name (i := 4) sc_l_points.nd rfl (Or.inl rfl)) (pss_cons (ps_par (i := 5) (j := 6) (by rfl) sc_l_points.nd rfl rfl (by decide) rfl rfl (pa_cons (pe_callSD (ok_l_take T) (hr.mono (by decide)) (by rfl) T.g_l_take T.F_l_take.kp T.b_l_take .nil (fun σ => passAt tk σ) (pa_cons (pv 0) (pa_cons pe_int pa_nil))) (pa_cons (pe_callSD (ok_l_take T) (hr.mono (by decide)) (by rfl) T.g_l_take T.F_l_take.kp T.b_l_take .nil (fun σ => passAt tk σ) (pa_cons (pv 0) (pa_cons pe_int pa_nil))) pa_nil)) (by rfl))
      (pss_cons (ps_set (i := 7) sc_l_points.nd rfl (Or.inl rfl) (pe_tup (pa_cons (pe_op op_modU (pe_callTy call_intU (by rfl) T.m_int (by decide +kernel) (pa_cons (pv 5) pa_nil)) pe_int) (pa_cons (pe_op op_modU (pe_callTy call_intU (by rfl) T.m_int (by decide +kernel) (pa_cons (pv 6) pa_nil)) pe_int) pa_nil))))
      (pss_cons (ps_dput (Room.u1 hr) (pv 3) (pv 4) (pe_ix (ix_U (K := K) rfl) (pe_lst (pa_cons (pv 7) (pa_cons (pe_tup (pa_cons (pe_op op_sub (pe_op op_modU (pe_callTy call_intU (by rfl) T.m_int (by decide +kernel) (pa_cons (pv 5) pa_nil)) pe_int) pe_int) (pa_cons pe_int pa_nil))) (pa_cons (pe_tup (pa_cons (pe_op op_sub (pv 5) pe_int) (pa_cons (pe_op op_sub (pv 6) pe_int) pa_nil))) (pa_cons (pv 7) (pa_cons (pe_tup (pa_cons (pe_op op_modU (pe_callTy call_intU (by rfl) T.m_int (by decide +kernel) (pa_cons (pv 5) pa_nil)) pe_int) (pa_cons (pe_op op_modU (pe_callTy call_intU (by rfl) T.m_int (by decide +kernel) (pa_cons (pv 6) pa_nil)) pe_int) pa_nil))) pa_nil)))))) (pv 2) (fun _ _ => rfl)) rfl)
      (pss_one (ps_if (PW.pt (pw_and (pt_cmpR (op_eqU (K := K) rfl hr.units) (pv 2) pe_int (nomark _)) (pw_and1 (pt_cmpR (op_eqU (K := K) rfl hr.units) (pe_callSD (ok_l_take T) (hr.mono (by decide)) (by rfl) T.g_l_take T.F_l_take.kp T.b_l_take .nil (fun σ => passAt tk σ) (pa_cons (pv 0) (pa_cons pe_int pa_nil))) pe_int (nomark _))))) (pss_one (ps_dput (Room.u1 hr) (pv 3) (pv 4) (pe_tup (pa_cons (pe_ix (ix_U (K := K) rfl) (pe_lst (pa_cons (pe_un un_neg pe_int) (pa_cons pe_int pa_nil))) (pe_op op_modU (pe_callTy call_intU (by rfl) T.m_int (by decide +kernel) (pa_cons (pv 5) pa_nil)) pe_int) (fun _ _ => rfl)) (pa_cons (pe_ix (ix_U (K := K) rfl) (pe_lst (pa_cons (pe_un un_neg pe_int) (pa_cons pe_int (pa_cons pe_int pa_nil)))) (pe_op op_modU (pe_callTy call_intU (by rfl) T.m_int (by decide +kernel) (pa_cons (pv 6) pa_nil)) pe_int) (fun _ _ => rfl)) pa_nil))) rfl)) pss_nil))))))
      (pss_one (ps_ret (pe_lk (pv 3)))))), fn_ok ?_ h⟩
  clear tk
  repeat walk_at "s"

end K11

set_option Elab.async false
set_option linter.all false
set_option maxRecDepth 100000
set_option maxHeartbeats 3900000
namespace K11
open PySem PySem.Spec PyProof.Rows L2 G M
local macro_rules | `(tactic| walk_at "s") => `(tactic| first
  | (with_reducible exact snd_var)
  | (with_reducible refine' snd_seq ?_ ?_)
  | (with_reducible refine' snd_op ?_ ?_ ?_)
  | (with_reducible refine' snd_cons ?_ ?_)
  | (with_reducible exact snd_nil)
  | (with_reducible refine' snd_c ?_)
  | (intro al G; constructor)
  | (with_reducible refine' snd_asg ?_ ?_)
  | (with_reducible exact snd_gname)
  | (with_reducible refine' snd_ret ?_)
  | (with_reducible refine' snd_ifS ?_ ?_ ?_)
  | (with_reducible refine' snd_test ?_)
  | (with_reducible refine' snd_B ?_)
  | (with_reducible refine' snd_not ?_)
  | (with_reducible refine' snd_and ?_ ?_)
  | (with_reducible refine' snd_or ?_ ?_)
  | (with_reducible refine' snd_notV ?_)
  | (with_reducible refine' snd_andV ?_ ?_)
  | (with_reducible refine' snd_orV ?_ ?_)
  | (with_reducible refine' snd_if ?_ ?_ ?_)
  | (with_reducible refine' snd_chain ?_ ?_ ?_ ?_ ?_)
  | (with_reducible refine' snd_un ?_ ?_)
  | (with_reducible refine' snd_lst ?_)
  | (with_reducible refine' snd_tup ?_)
  | (with_reducible refine' snd_CB ?_ ?_)
  | (with_reducible refine' snd_call ?_ ?_)
  | (with_reducible refine' snd_meth ?_ ?_ ?_)
  | (with_reducible refine' snd_make ?_ ?_)
  | (with_reducible refine' snd_prop ?_)
  | (with_reducible refine' snd_drop ?_)
  | (with_reducible exact snd_retN)
  | (with_reducible exact snd_next)
  | (with_reducible exact snd_break)
  | (with_reducible exact snd_cont)
  | (with_reducible exact snd_never)
  | (with_reducible refine' snd_par ?_)
  | (with_reducible refine' snd_raise ?_)
  | (with_reducible refine' snd_for ?_ ?_ ?_)
  | (with_reducible refine' snd_while ?_ ?_)
  | (with_reducible refine' snd_lcE ?_ ?_ ?_ ?_ ?_)
  | (with_reducible exact snd_yes)
  | (with_reducible refine' snd_itV ?_)
  | (with_reducible refine' snd_rng1 ?_)
  | (with_reducible refine' snd_rng2 ?_)
  | (with_reducible refine' snd_enum ?_)
  | (with_reducible refine' snd_zip ?_)
  | (with_reducible refine' snd_sl ?_ ?_ ?_ ?_)
  | (with_reducible exact snd_noPart)
  | (with_reducible refine' snd_part ?_)
  | (with_reducible refine' snd_bm0 ?_ ?_)
  | (with_reducible refine' snd_bm ?_ ?_ ?_)
  | (with_reducible refine' snd_m1 ?_ ?_ ?_)
  | (with_reducible refine' snd_js ?_)
  | (with_reducible refine' snd_fmt ?_)
  | (with_reducible exact SndJ.nil)
  | (with_reducible refine' SndJ.cons ?_ ?_)
  | (with_reducible exact snd_dnew)
  | (with_reducible exact snd_dnewL)
  | (with_reducible refine' snd_dispL ?_)
  | (with_reducible refine' snd_dictL ?_)
  | (with_reducible refine' snd_dict ?_)
  | (with_reducible refine' snd_dcE ?_ ?_ ?_ ?_ ?_ ?_)
  | (with_reducible refine' snd_lk ?_)
  | (with_reducible refine' snd_items ?_)
  | (with_reducible refine' snd_values ?_)
  | (with_reducible refine' snd_dput ?_ ?_ ?_)
  | (with_reducible refine' sgo_tupn ?_)
  | (with_reducible refine' sgo_consX ?_ ?_)
  | (with_reducible refine' snd_caught (fun _ => ?_) ?_)
  | (with_reducible refine' snd_case (fun _ => ?_) ?_ ?_ ?_)
  | (with_reducible refine' sgo_name ?_)
  | (with_reducible refine' sgo_tup ?_ ?_)
  | (with_reducible refine' sgo_cons ?_ ?_)
  | (with_reducible exact sgo_nil)
  | (with_reducible refine' glen_cons ?_)
  | (with_reducible exact glen_nil)
  | (with_reducible refine' SndGO.g (vs := [0, 1, 2, 3, 4, 5, 6, 7, 8, 9, 10, 11, 12, 13, 14, 15, 16, 17, 18, 19, 20, 21, 22, 23, 24, 25]) ?_)
  | (with_reducible refine' dop_or ?_ ?_)
  | (with_reducible refine' dc_or ?_ ?_)
  | exact dop_add | exact dop_sub | exact dop_mul | exact dop_fdiv | exact dop_mod | exact dop_pow | exact dun_neg
  | exact dop_eq | exact dop_ne | exact dop_lt | exact dop_le | exact dop_gt | exact dop_ge | exact dop_in | exact dop_nin | exact dop_is | exact dop_isnt | exact dop_ix | exact dop_cmpX | exact dop_inX | exact dop_eqK | exact dop_eqLX | exact dop_inP | exact dc_reprG | exact dc_maxS | exact dc_minS
  | exact dc_sorted | exact dc_sortK | exact dc_maxL | exact dc_minL | exact dc_all | exact dc_any | exact dc_sum | exact dc_tuple
  | (with_reducible refine' snd_lenSet ?_)
  | (with_reducible refine' snd_rev ?_)
  | (with_reducible refine' snd_par3 ?_)
  | (with_reducible refine' snd_disp ?_)
  | (with_reducible exact snd_pnil)
  | (with_reducible refine' snd_pcons ?_ ?_ ?_)
  | (with_reducible refine' snd_dget ?_ ?_)
  | exact dsl | exact dc_len | exact dc_isi | exact dc_list | exact dc_int | exact dc_max2 | exact dc_min2 | exact dc_str | exact dc_strX | exact dc_repr
  | exact dm_append | exact dm_extend | exact dm_pop | exact dm_popAt | exact dm_join | exact dm_split | (exact dm_s0 fun _ _ _ => .bl _)
  | (with_reducible refine' snd_fld ?_ ?_ ?_)
  | (with_reducible refine' snd_sfld ?_ ?_ ?_ ?_)
  | (exact fun _ _ => .nil)
  | (exact Top.cl_Placing (by assumption)) | (exact Top.n_Placing_by_name (by assumption))
  | decide)
local macro_rules | `(tactic| walk_at "g") => `(tactic| first
  | (with_reducible refine' w_seq ?_)
  | ((with_reducible refine' w_var ?h ?_); (case h => exact rfl))
  | (with_reducible refine' w_c ?_)
  | (with_reducible refine' w_op ?_)
  | (with_reducible refine' w_asg ?_)
  | (with_reducible refine' w_gname ?_)
  | (with_reducible refine' w_ifS ?_)
  | (with_reducible refine' w_test ?_)
  | (with_reducible refine' w_bl ?_)
  | (with_reducible refine' w_CB ?_)
  | (with_reducible refine' w_cons ?_)
  | (with_reducible refine' w_nil ?_)
  | (with_reducible refine' w_call ?_)
  | (with_reducible refine' w_ret ?_)
  | (with_reducible refine' w_drop ?_)
  | (with_reducible refine' w_next ?_)
  | (with_reducible refine' w_and ?_)
  | (with_reducible refine' w_or ?_)
  | (with_reducible refine' w_not ?_)
  | (with_reducible refine' w_andV ?_)
  | (with_reducible refine' w_orV ?_)
  | (with_reducible refine' w_notV ?_)
  | (with_reducible refine' w_if ?_)
  | (with_reducible refine' w_chain ?_)
  | (with_reducible refine' w_B ?_)
  | (with_reducible refine' w_un ?_)
  | (with_reducible refine' w_lst ?_)
  | (with_reducible refine' w_tup ?_)
  | (with_reducible refine' w_gsub ?_)
  | (with_reducible refine' w_par ?_)
  | (with_reducible refine' w_two ?_)
  | (with_reducible refine' w_sl ?_)
  | (with_reducible refine' w_retN ?_)
  | (with_reducible refine' w_yes ?_)
  | (with_reducible refine' w_m1 ?_)
  | (with_reducible refine' w_pair0 ?_)
  | (with_reducible refine' w_pair1 ?_)
  | (with_reducible refine' c_reprB ?_)
  | (with_reducible refine' w_noPart ?_)
  | (with_reducible refine' w_part ?_)
  | (with_reducible refine' w_isI ?_)
  | (with_reducible refine' w_make ?_)
  | (with_reducible refine' w_sfld ?_)
  | (with_reducible refine' w_fld ?_)
  | (with_reducible refine' w_lc ?_)
  | (with_reducible refine' w_for ?_)
  | (with_reducible refine' w_iR1 ?_)
  | (with_reducible refine' w_iR2 ?_)
  | ((with_reducible refine' w_lcW ?h ?_); (case h => exact rfl))
  | (with_reducible refine' m_strT ?_)
  | (with_reducible refine' w_bm0 ?_)
  | (with_reducible refine' w_bm ?_)
  | (with_reducible refine' m_str ?_)
  | (with_reducible refine' m_s0 ?_)
  | ((with_reducible refine' m_lst ?h ?_); (case h => first | assumption | exact SqL.of upd_same | exact SqL.of (by assumption)))
  | (with_reducible refine' a_addI ?_)
  | (with_reducible refine' a_I0 ?_)
  | ((with_reducible refine' a_mulI ?h ?_); (case h => first | exact .inl ⟨by decide, by decide⟩ | exact .inr ⟨by decide, by decide⟩ | exact .inl ⟨by omega, by omega⟩ | exact .inr ⟨by omega, by omega⟩))
  | ((with_reducible refine' a_fdiv ?h ?_); (case h => first | exact ⟨by decide, by decide⟩ | exact ⟨by omega, by omega⟩))
  | ((with_reducible refine' a_mod ?h ?_); (case h => first | decide | omega))
  | ((with_reducible refine' a_pow ?h ?_); (case h => first | exact ⟨by decide, by decide, by decide⟩ | exact ⟨by decide, by decide, by omega⟩))
  | (with_reducible refine' a_neg ?_)
  | (with_reducible refine' a_ltI ?_)
  | (with_reducible refine' a_leI ?_)
  | (with_reducible refine' a_gtI ?_)
  | (with_reducible refine' a_geI ?_)
  | (with_reducible refine' a_ltS ?_)
  | (with_reducible refine' a_eqI ?_)
  | (with_reducible refine' a_eqS ?_)
  | (with_reducible refine' a_neI ?_)
  | (with_reducible refine' a_neS ?_)
  | (with_reducible refine' a_isnotB ?_)
  | (with_reducible refine' a_isB ?_)
  | (with_reducible refine' a_isN ?_)
  | (with_reducible refine' a_isnotN ?_)
  | ((with_reducible refine' a_ixL ?h1 ?h2 ?_); (case h1 => first | assumption | exact upd_same); (case h2 => exact rfl))
  | ((with_reducible refine' a_set ?h1 ?h2 ?_); (case h1 => first | assumption | exact upd_same); (case h2 => exact rfl))
  | (with_reducible refine' c_int ?_)
  | (with_reducible refine' c_intB ?_)
  | (with_reducible refine' c_max ?_)
  | (with_reducible refine' c_min ?_)
  | ((with_reducible refine' a_fdiv ?h ?_); (case h => first | exact ⟨by decide, by decide⟩ | exact ⟨by omega, by omega⟩))
  | (with_reducible refine' iteT ?_)
  | (with_reducible refine' iteF ?_)
  | (with_reducible refine' iteNT ?_)
  | (with_reducible refine' iteNF ?_)
  | (with_reducible refine' w_js ?_)
  | (with_reducible refine' w_jsn ?_)
  | (with_reducible refine' w_fmt ?_)
  | ((with_reducible refine' w_makeL ?h ?_); (case h => exact rfl))
  | (with_reducible refine' w_raiseE ?_)
  | (with_reducible refine' w_getE ?_)
  | ((with_reducible refine' w_callW ?h ?_); (case h => exact rfl))
  | (with_reducible refine' w_cmeth ?_)
  | (with_reducible refine' is_of ?_)
  | ((with_reducible refine' w_lam1 ?h ?_); (case h => assumption)))
def hds {P : Program} {K : PySem.W.Frag} {mg : Str → Option Value} (T : Top P K mg) : Hds := [(T.C_InvalidFactor, some (Str.ofString "InvalidFactor", "factor")), (T.C_InvalidShift, some (Str.ofString "InvalidShift", "value")), (T.C_OutOfRange, some (Str.ofString "OutOfRange", "value")), (T.C_NetError, none)]
theorem ok_l_caught {P : Program} {w : World} {K : PySem.W.Frag} {mg : Str → Option Value} {base : Heap} (T : Top P K mg) {k : Nat} {fa : Addr} {spA : Sp} (F : InBase P w K mg base k fa spA) : FnOk P w K mg base CX0 (k + 1) T.f_l_caught T.fd_l_caught ["_law_ask", "_law_odd"] (sp_caughtG K (hds T) fa spA) := by
  refine T.F_l_caught.ok sc_l_caught (fun vs H Q E h => ?_) (fun cdv A outer s H vs Q E hr h => ?_)
  · obtain ⟨v, rfl, h⟩ := h
    rfl
  · obtain ⟨v, rfl, h⟩ := h
    refine ⟨_, (pss_one (ps_tryD rfl rfl (fun V pn xe tkV _ => (pss_one (ps_ret (pe_lst (pa_cons pe_str (pa_cons (pe_callW (i := 0) F hr rfl (.inl rfl) tkV (pa_cons (pv 1) pa_nil)) pa_nil)))))) (fun pins D => (deals_as (i := 2) rfl sc_l_caught.nd rfl rfl ⟨(by rfl), by decide, .inl T.g_InvalidFactor⟩ (fun a oe cls d pn hz hfd => (pss_one (ps_ret (pe_lst (pa_cons pe_str (pa_cons (pe_getE T.E_InvalidFactor hz hfd (pv 2)) pa_nil)))))) (deals_as (i := 2) rfl sc_l_caught.nd rfl rfl ⟨(by rfl), by decide, .inl T.g_InvalidShift⟩ (fun a oe cls d pn hz hfd => (pss_one (ps_ret (pe_lst (pa_cons pe_str (pa_cons (pe_getE T.E_InvalidShift hz hfd (pv 2)) pa_nil)))))) (deals_as (i := 2) rfl sc_l_caught.nd rfl rfl ⟨(by rfl), by decide, .inl T.g_OutOfRange⟩ (fun a oe cls d pn hz hfd => (pss_one (ps_ret (pe_lst (pa_cons pe_str (pa_cons (pe_getE T.E_OutOfRange hz hfd (pv 2)) pa_nil)))))) (deals_bare rfl ⟨(by rfl), by decide, .inl T.g_NetError⟩ (fun a oe cls d pn hz hfd => (pss_one (ps_ret (pe_lst (pa_cons pe_str pa_nil))))) (deals_nil rfl rfl takesF)))))))), ?_⟩
    repeat walk_at "g"
    refine h _ _ (fun r H1 n => ?_) (fun C f dd v2 H1 hd n => ?_)
    · repeat walk_at "g"
      exact newL_of rfl fun p hp => n p _ (Ex.new hp) hp upd_same
    · obtain ⟨b, hb, n⟩ := n
      cases b with
      | true =>
        rw [if_pos rfl] at n
        refine one_yes hb ?_
        obtain ⟨rfl, rfl, n⟩ := n
        refine fun a ha => ?_
        repeat walk_at "g"
        refine getE_of hd ?_
        repeat walk_at "g"
        exact newL_of rfl fun p hp => n p _ (Ex.new hp) hp upd_same
      | false =>
      rw [if_neg (by decide)] at n
      refine one_no hb ?_
      obtain ⟨b, hb, n⟩ := n
      cases b with
      | true =>
        rw [if_pos rfl] at n
        refine one_yes hb ?_
        obtain ⟨rfl, rfl, n⟩ := n
        refine fun a ha => ?_
        repeat walk_at "g"
        refine getE_of hd ?_
        repeat walk_at "g"
        exact newL_of rfl fun p hp => n p _ (Ex.new hp) hp upd_same
      | false =>
      rw [if_neg (by decide)] at n
      refine one_no hb ?_
      obtain ⟨b, hb, n⟩ := n
      cases b with
      | true =>
        rw [if_pos rfl] at n
        refine one_yes hb ?_
        obtain ⟨rfl, rfl, n⟩ := n
        refine fun a ha => ?_
        repeat walk_at "g"
        refine getE_of hd ?_
        repeat walk_at "g"
        exact newL_of rfl fun p hp => n p _ (Ex.new hp) hp upd_same
      | false =>
      rw [if_neg (by decide)] at n
      refine one_no hb ?_
      obtain ⟨b, hb, n⟩ := n
      cases b with
      | true =>
        rw [if_pos rfl] at n
        refine one_yes hb ?_
        refine fun a ha => ?_
        repeat walk_at "g"
        exact newL_of rfl fun p hp => n p _ (Ex.new hp) hp upd_same
      | false =>
      rw [if_neg (by decide)] at n
      refine one_no hb ?_
      exact n.elim

def m_l_is {P : Program} {K : PySem.W.Frag} {mg : Str → Option Value} (T : Top P K mg) : Fn := fnD 3 3 (seqM (ifS (orT (testM (opM (orD neD (eqKD not)) (cbM lenD (consM (varM 0) nilM)) (cM (.int 2)))) (orT (testM (opM (orD neD (eqKD not)) (opM ixD (varM 0) (cM (.int 0))) (varM 1))) (testM (opM (orD neD (eqKD not)) (cbM (isiD K) (consM (opM ixD (varM 0) (cM (.int 1))) (consM (cM (.ty "bool")) nilM))) (cbM (isiD K) (consM (varM 2) (consM (cM (.ty "bool")) nilM)))))))
    (retM (cM (.bl false)))
    nextM)
    (retM (opM (orD eqD (eqKD id)) (opM ixD (varM 0) (cM (.int 1))) (varM 2))))
theorem ok_l_is {P : Program} {w : World} {K : PySem.W.Frag} {mg : Str → Option Value} {base : Heap} (T : Top P K mg) : FnOk P w K mg base (L2.CX P w) 1 T.f_l_is T.fd_l_is ["_law_found", "_law_word", "_law_odd"] (SpG K T.tabs (m_l_is T)) := by
  refine T.F_l_is.okX sc_l_is (fun vs H Q E h => fn_len h) (fun cdv A outer s H vs Q E hr h => ?_)
  have tk : Takes _ (fun cls d _ H => E cls d H) := takes_of (E := E) (X := cxOf (L2.CX P w) P w K mg base ["_law_found", "_law_word", "_law_odd"] "_law_is" (defScope s_l_is) T.f_l_is cdv A outer s H E) rfl rfl rfl rfl
  refine ⟨_, (pss_cons (ps_if (PW.pt (pw_or (pt_cmpR ((op_neU (K := K) rfl hr.units).or (op_neK (K := K) rfl (Room.u65 hr))) (pe_callB (call_lenU (K := K) rfl) (by rfl) T.m_len PySem.boot_len (pa_cons (pv 0) pa_nil)) pe_int (nomark _)) (pw_or (pt_cmpR ((op_neU (K := K) rfl hr.units).or (op_neK (K := K) rfl (Room.u65 hr))) (pe_ix (ix_U (K := K) rfl) (pv 0) pe_int (fun _ _ => rfl)) (pv 1) (nomark _)) (pw_or1 (pt_cmpR ((op_neU (K := K) rfl hr.units).or (op_neK (K := K) rfl (Room.u65 hr))) (pe_callB (call_isiV (K := K) rfl) (by rfl) T.m_isinstance (by decide +kernel) (pa_cons (pe_ix (ix_U (K := K) rfl) (pv 0) pe_int (fun _ _ => rfl)) (pa_cons (pe_bltn (v := .ty "bool") (by rfl) T.m_bool (by decide +kernel) rfl) pa_nil))) (pe_callB (call_isiV (K := K) rfl) (by rfl) T.m_isinstance (by decide +kernel) (pa_cons (pv 2) (pa_cons (pe_bltn (v := .ty "bool") (by rfl) T.m_bool (by decide +kernel) rfl) pa_nil))) (nomark _)))))) (pss_one (ps_ret pe_bl)) pss_nil)
      (pss_one (ps_ret (pe_cmpR ((op_eqU (K := K) rfl hr.units).or (op_eqK (K := K) rfl (Room.u65 hr))) (pe_ix (ix_U (K := K) rfl) (pv 0) pe_int (fun _ _ => rfl)) (pv 2) (nomark _))))), fn_ok ?_ h⟩
  clear tk
  repeat walk_at "s"
def m_l_out {P : Program} {K : PySem.W.Frag} {mg : Str → Option Value} (T : Top P K mg) : Fn := fnD 2 4 (seqM (forM (itM (cbM (orC (sortedD false) (sortedKD false)) (consM (varM 0) nilM))) (gnameM 2) (forM (itM (opM dgetD (varM 1) (varM 2))) (gnameM 3) (ifS (notT (testM (chainM leD leD (unM negD (cM (.int 1000))) (varM 3) (cM (.int 1000)))))
    (retM (varM 3))
    nextM)))
    (retM (cM .non)))
theorem ok_l_out {P : Program} {w : World} {K : PySem.W.Frag} {mg : Str → Option Value} {base : Heap} (T : Top P K mg) : FnOk P w K mg base (L2.CX P w) 1 T.f_l_out T.fd_l_out ["_law_points_here", "_law_due"] (SpG K T.tabs (m_l_out T)) := by
  refine T.F_l_out.okX sc_l_out (fun vs H Q E h => fn_len h) (fun cdv A outer s H vs Q E hr h => ?_)
  have tk : Takes _ (fun cls d _ H => E cls d H) := takes_of (E := E) (X := cxOf (L2.CX P w) P w K mg base ["_law_points_here", "_law_due", "_law_name", "_law_number"] "_law_out" (defScope s_l_out) T.f_l_out cdv A outer s H E) rfl rfl rfl rfl
  refine ⟨_, (pss_cons (ps_for (passes_of rfl) rfl (pi_V (K := K) rfl (pe_callB (call_sortedM (K := K) rfl rfl) (by rfl) T.m_sorted (by decide +kernel) (pa_cons (pv 0) pa_nil))) (pg_name (i := 2) sc_l_out.nd rfl (Or.inl rfl)) (pss_one (ps_for (passes_of rfl) rfl (pi_V (K := K) rfl (pe_dget (Room.u1 hr) (pv 1) (pv 2) (fun _ _ => rfl))) (pg_name (i := 3) sc_l_out.nd rfl (Or.inl rfl)) (pss_one (ps_if (pt_not (pt_chain op_leU op_leU (pe_un un_neg pe_int) (pv 3) pe_int)) (pss_one (ps_ret (pv 3))) pss_nil)))))
      (pss_one (ps_ret pe_non))), fn_ok ?_ h⟩
  clear tk
  repeat walk_at "s"

end K11

set_option Elab.async false
set_option linter.all false
set_option maxRecDepth 100000
set_option maxHeartbeats 3900000
namespace K11
open PySem PySem.Spec PyProof.Rows L2 G M
local macro_rules | `(tactic| walk_at "s") => `(tactic| first
  | (with_reducible exact snd_var)
  | (with_reducible refine' snd_seq ?_ ?_)
  | (with_reducible refine' snd_op ?_ ?_ ?_)
  | (with_reducible refine' snd_cons ?_ ?_)
  | (with_reducible exact snd_nil)
  | (with_reducible refine' snd_c ?_)
  | (intro al G; constructor)
  | (with_reducible refine' snd_asg ?_ ?_)
  | (with_reducible exact snd_gname)
  | (with_reducible refine' snd_ret ?_)
  | (with_reducible refine' snd_ifS ?_ ?_ ?_)
  | (with_reducible refine' snd_test ?_)
  | (with_reducible refine' snd_B ?_)
  | (with_reducible refine' snd_not ?_)
  | (with_reducible refine' snd_and ?_ ?_)
  | (with_reducible refine' snd_or ?_ ?_)
  | (with_reducible refine' snd_notV ?_)
  | (with_reducible refine' snd_andV ?_ ?_)
  | (with_reducible refine' snd_orV ?_ ?_)
  | (with_reducible refine' snd_if ?_ ?_ ?_)
  | (with_reducible refine' snd_chain ?_ ?_ ?_ ?_ ?_)
  | (with_reducible refine' snd_un ?_ ?_)
  | (with_reducible refine' snd_lst ?_)
  | (with_reducible refine' snd_tup ?_)
  | (with_reducible refine' snd_CB ?_ ?_)
  | (with_reducible refine' snd_call ?_ ?_)
  | (with_reducible refine' snd_meth ?_ ?_ ?_)
  | (with_reducible refine' snd_make ?_ ?_)
  | (with_reducible refine' snd_prop ?_)
  | (with_reducible refine' snd_drop ?_)
  | (with_reducible exact snd_retN)
  | (with_reducible exact snd_next)
  | (with_reducible exact snd_break)
  | (with_reducible exact snd_cont)
  | (with_reducible exact snd_never)
  | (with_reducible refine' snd_par ?_)
  | (with_reducible refine' snd_raise ?_)
  | (with_reducible refine' snd_for ?_ ?_ ?_)
  | (with_reducible refine' snd_while ?_ ?_)
  | (with_reducible refine' snd_lcE ?_ ?_ ?_ ?_ ?_)
  | (with_reducible exact snd_yes)
  | (with_reducible refine' snd_itV ?_)
  | (with_reducible refine' snd_rng1 ?_)
  | (with_reducible refine' snd_rng2 ?_)
  | (with_reducible refine' snd_enum ?_)
  | (with_reducible refine' snd_zip ?_)
  | (with_reducible refine' snd_sl ?_ ?_ ?_ ?_)
  | (with_reducible exact snd_noPart)
  | (with_reducible refine' snd_part ?_)
  | (with_reducible refine' snd_bm0 ?_ ?_)
  | (with_reducible refine' snd_bm ?_ ?_ ?_)
  | (with_reducible refine' snd_m1 ?_ ?_ ?_)
  | (with_reducible refine' snd_js ?_)
  | (with_reducible refine' snd_fmt ?_)
  | (with_reducible exact SndJ.nil)
  | (with_reducible refine' SndJ.cons ?_ ?_)
  | (with_reducible exact snd_dnew)
  | (with_reducible exact snd_dnewL)
  | (with_reducible refine' snd_dispL ?_)
  | (with_reducible refine' snd_dictL ?_)
  | (with_reducible refine' snd_dict ?_)
  | (with_reducible refine' snd_dcE ?_ ?_ ?_ ?_ ?_ ?_)
  | (with_reducible refine' snd_lk ?_)
  | (with_reducible refine' snd_items ?_)
  | (with_reducible refine' snd_values ?_)
  | (with_reducible refine' snd_dput ?_ ?_ ?_)
  | (with_reducible refine' sgo_tupn ?_)
  | (with_reducible refine' sgo_consX ?_ ?_)
  | (with_reducible refine' snd_caught (fun _ => ?_) ?_)
  | (with_reducible refine' snd_case (fun _ => ?_) ?_ ?_ ?_)
  | (with_reducible refine' sgo_name ?_)
  | (with_reducible refine' sgo_tup ?_ ?_)
  | (with_reducible refine' sgo_cons ?_ ?_)
  | (with_reducible exact sgo_nil)
  | (with_reducible refine' glen_cons ?_)
  | (with_reducible exact glen_nil)
  | (with_reducible refine' SndGO.g (vs := [0, 1, 2, 3, 4, 5, 6, 7, 8, 9, 10, 11, 12, 13, 14, 15, 16, 17, 18, 19, 20, 21, 22, 23, 24, 25]) ?_)
  | (with_reducible refine' dop_or ?_ ?_)
  | (with_reducible refine' dc_or ?_ ?_)
  | exact dop_add | exact dop_sub | exact dop_mul | exact dop_fdiv | exact dop_mod | exact dop_pow | exact dun_neg
  | exact dop_eq | exact dop_ne | exact dop_lt | exact dop_le | exact dop_gt | exact dop_ge | exact dop_in | exact dop_nin | exact dop_is | exact dop_isnt | exact dop_ix | exact dop_cmpX | exact dop_inX | exact dop_eqK | exact dop_eqLX | exact dop_inP | exact dc_reprG | exact dc_maxS | exact dc_minS
  | exact dc_sorted | exact dc_sortK | exact dc_maxL | exact dc_minL | exact dc_all | exact dc_any | exact dc_sum | exact dc_tuple
  | (with_reducible refine' snd_lenSet ?_)
  | (with_reducible refine' snd_rev ?_)
  | (with_reducible refine' snd_par3 ?_)
  | (with_reducible refine' snd_disp ?_)
  | (with_reducible exact snd_pnil)
  | (with_reducible refine' snd_pcons ?_ ?_ ?_)
  | (with_reducible refine' snd_dget ?_ ?_)
  | exact dsl | exact dc_len | exact dc_isi | exact dc_list | exact dc_int | exact dc_max2 | exact dc_min2 | exact dc_str | exact dc_strX | exact dc_repr
  | exact dm_append | exact dm_extend | exact dm_pop | exact dm_popAt | exact dm_join | exact dm_split | (exact dm_s0 fun _ _ _ => .bl _)
  | (with_reducible refine' snd_fld ?_ ?_ ?_)
  | (with_reducible refine' snd_sfld ?_ ?_ ?_ ?_)
  | (exact fun _ _ => .nil)
  | (exact Top.cl_Placing (by assumption)) | (exact Top.n_Placing_by_name (by assumption))
  | decide)
def m_l_case_rest {P : Program} {K : PySem.W.Frag} {mg : Str → Option Value} (T : Top P K mg) : MS := (seqM (ifS (testM (opM (orD (orD neD (eqKD not)) (cmpX K T.C_Placing (m_Placing_eq T) not)) (methM T.C_Placing "points" (m_Placing_points T) [] (varM 0) nilM) (varM 1)))
    (retM (cM (.bl false)))
    nextM)
    (seqM (ifS (testM (opM isntD (varM 5) (cM .non)))
    (retM (callM (m_l_is T) [] (consM (varM 4) (consM (cM (.str (Str.ofString "OutOfRange"))) (consM (varM 5) nilM)))))
    nextM)
    (retM (andM (opM (orD eqD (eqKD id)) (opM ixD (varM 4) (cM (.int 0))) (cM (.str (Str.ofString "told")))) (opM (orD (orD eqD (eqKD id)) (cmpX K T.C_Placing (m_Placing_eq T) id)) (opM ixD (varM 4) (cM (.int 1))) (makeM false T.C_Placing (m_Placing_init T) [] (consM (varM 2) nilM)))))))
def endsF (Φ : QD) : EndsD := { nx := fun _ c => Φ .non c, rt := fun d c => Φ d c, bk := fun _ _ => False, ct := fun _ _ => False, xc := fun _ _ _ _ _ => False }
def m_l_case_right {P : Program} {K : PySem.W.Frag} {mg : Str → Option Value} (T : Top P K mg) : Fn := fun as c _ Φ => match as with
  | [p1, p2, p3, fd] => m_l_out T [p2, p3] c noX fun out c1 => m_l_case_rest T [some p1, some p2, some p3, none, some fd, some out] c1 (endsF Φ)
  | _ => False
theorem ok_l_case_right {P : Program} {w : World} {K : PySem.W.Frag} {mg : Str → Option Value} {base : Heap} (T : Top P K mg) {k : Nat} {fa : Addr} {spA : Sp} (F : InBase P w K mg base k fa spA) : FnOk P w K mg base (L2.CX P w) (k + 6) T.f_l_case_right T.fd_l_case_right ["_law_placing", "_law_points_here", "_law_due", "_law_ask"] (sp_case K T.tabs (hds T) (m_l_case_right T) fa spA) := by
  refine T.F_l_case_right.okX sc_l_case_right (fun vs H Q E h => ?_) (fun cdv A outer s H vs Q E hr h => ?_)
  · obtain ⟨v1, v2, v3, rfl⟩ := case_vs h
    rfl
  have tk : Takes _ (fun cls d _ H => E cls d H) := takes_of (E := E) (X := cxOf (L2.CX P w) P w K mg base ["_law_placing", "_law_points_here", "_law_due", "_law_ask", "_law_found", "_law_out_here"] "_law_case_right" (defScope s_l_case_right) T.f_l_case_right cdv A outer s H E) rfl rfl rfl rfl
  refine ⟨_, (pss_cons (ps_par (i := 4) (j := 5) (by rfl) sc_l_case_right.nd rfl rfl (by decide) rfl rfl (pa_cons (pe_callSD (fn_cx0 (ok_l_caught T F)) (hr.mono (by omega)) (by rfl) T.g_l_caught T.F_l_caught.kp T.b_l_caught .nil (fun σ => passAt tk σ) (pa_cons (pv 3) (pa_cons (pv 0) pa_nil))) (pa_cons (pe_callSD (ok_l_out T) (hr.mono (by omega)) (by rfl) T.g_l_out T.F_l_out.kp T.b_l_out .nil (fun σ => passAt tk σ) (pa_cons (pv 1) (pa_cons (pv 2) pa_nil))) pa_nil)) (by rfl))
      (pss_cons (ps_if (pt_cmpR (((op_neU (K := K) rfl hr.units).or (op_neK (K := K) rfl (Room.u65 hr))).or (op_neX (K := K) rfl (ok_Placing_eq T) (hr.mono (by omega)) T.eq_Placing T.fe_Placing T.b_Placing_eq T.ne_Placing T.so_Placing)) (pe_methSD0 (pv 0) T.cl_Placing T.m_Placing_Placing_points (ok_Placing_points T) (hr.mono (by omega)) T.b_Placing_points .nil (fun σ => passAt tk σ)) (pv 1) (nomark _)) (pss_one (ps_ret pe_bl)) pss_nil)
      (pss_cons (ps_if (pt_cmpR op_isNotU (pv 5) pe_non (nomark _)) (pss_one (ps_ret (pe_callSD (ok_l_is T) (hr.mono (by omega)) (by rfl) T.g_l_is T.F_l_is.kp T.b_l_is .nil (fun σ => passAt tk σ) (pa_cons (pv 4) (pa_cons pe_str (pa_cons (pv 5) pa_nil)))))) pss_nil)
      (pss_one (ps_ret (pe_and (pe_cmpR ((op_eqU (K := K) rfl hr.units).or (op_eqK (K := K) rfl (Room.u65 hr))) (pe_ix (ix_U (K := K) rfl) (pv 4) pe_int (fun _ _ => rfl)) pe_str (nomark _)) (pe_one (pe_cmpR (((op_eqU (K := K) rfl hr.units).or (op_eqK (K := K) rfl (Room.u65 hr))).or (op_eqX (K := K) rfl (ok_Placing_eq T) (hr.mono (by omega)) T.eq_Placing T.fe_Placing T.b_Placing_eq)) (pe_ix (ix_U (K := K) rfl) (pv 4) pe_int (fun _ _ => rfl)) (pe_makeSD T.M_Placing (ok_Placing_init T) (hr.mono (by omega)) (by rfl) T.g_Placing T.b_Placing_init .nil (fun σ => passAt tk σ) (pa_cons (pv 2) pa_nil)) (nomark _))))))))), ?_⟩
  clear tk
  obtain ⟨v1, v2, v3, rfl⟩ := case_vs h
  refine ⟨_, rfl, _, rfl, case_go (E2 := fun cls d H => E cls d H) h ?_⟩
  intro p1 p2 p3 Φ fv fd al' G' c' H' R d1 d2 d3 df q m
  refine (?S1 : SndE K T.tabs (fun C d _ H => E C d H) _ (callM (m_l_out T) [] (consM (varM 1) (consM (varM 2) nilM)))) al' G' c' H' _ [some p1, some p2, some p3, none, none, none] noX _ _ ⟨R, srel_case d1 d2 d3, thr0⟩ m ?_
  case S1 => repeat walk_at "s"
  · intro out c2 al2 G2 H2 w2 r2 l2 dw m2
    have s2 := ((srel_case (v4 := .ref fa) d1 d2 d3).le l2)
    refine ⟨_, _, rfl, ?_⟩
    dsimp only
    refine (?S2 : SndS K T.tabs (fun C d _ H => E C d H) _ (m_l_case_rest T)) al2 G2 c2 H2 _ _ (endsF Φ) _ r2 ((s2.set (i := 4) (df.le l2)).set (i := 5) dw) m2 ⟨fun δ c3 al3 G3 H3 σ3 r3 l3 s3 m3 => (q.le l2) _ _ _ _ _ _ r3 l3 .non m3, fun d c3 al3 G3 H3 v r3 l3 d3 m3 => (q.le l2) _ _ _ _ _ _ r3 l3 d3 m3, fun δ c3 al3 G3 H3 σ3 r3 l3 s3 m3 => m3.elim, fun δ c3 al3 G3 H3 σ3 r3 l3 s3 m3 => m3.elim, fun C f d δ c3 al3 G3 H3 dd v σ3 r3 l3 s3 fr hd d3 m3 => m3.elim⟩
    unfold m_l_case_rest
    repeat walk_at "s"

end K11

set_option Elab.async false
set_option linter.all false
set_option maxRecDepth 100000
set_option maxHeartbeats 3900000
namespace K11
open PySem PySem.Spec PyProof.Rows L2 G M
local macro_rules | `(tactic| walk_at "s") => `(tactic| first
  | (with_reducible exact snd_var)
  | (with_reducible refine' snd_seq ?_ ?_)
  | (with_reducible refine' snd_op ?_ ?_ ?_)
  | (with_reducible refine' snd_cons ?_ ?_)
  | (with_reducible exact snd_nil)
  | (with_reducible refine' snd_c ?_)
  | (intro al G; constructor)
  | (with_reducible refine' snd_asg ?_ ?_)
  | (with_reducible exact snd_gname)
  | (with_reducible refine' snd_ret ?_)
  | (with_reducible refine' snd_ifS ?_ ?_ ?_)
  | (with_reducible refine' snd_test ?_)
  | (with_reducible refine' snd_B ?_)
  | (with_reducible refine' snd_not ?_)
  | (with_reducible refine' snd_and ?_ ?_)
  | (with_reducible refine' snd_or ?_ ?_)
  | (with_reducible refine' snd_notV ?_)
  | (with_reducible refine' snd_andV ?_ ?_)
  | (with_reducible refine' snd_orV ?_ ?_)
  | (with_reducible refine' snd_if ?_ ?_ ?_)
  | (with_reducible refine' snd_chain ?_ ?_ ?_ ?_ ?_)
  | (with_reducible refine' snd_un ?_ ?_)
  | (with_reducible refine' snd_lst ?_)
  | (with_reducible refine' snd_tup ?_)
  | (with_reducible refine' snd_CB ?_ ?_)
  | (with_reducible refine' snd_call ?_ ?_)
  | (with_reducible refine' snd_meth ?_ ?_ ?_)
  | (with_reducible refine' snd_make ?_ ?_)
  | (with_reducible refine' snd_prop ?_)
  | (with_reducible refine' snd_drop ?_)
  | (with_reducible exact snd_retN)
  | (with_reducible exact snd_next)
  | (with_reducible exact snd_break)
  | (with_reducible exact snd_cont)
  | (with_reducible exact snd_never)
  | (with_reducible refine' snd_par ?_)
  | (with_reducible refine' snd_raise ?_)
  | (with_reducible refine' snd_for ?_ ?_ ?_)
  | (with_reducible refine' snd_while ?_ ?_)
  | (with_reducible refine' snd_lcE ?_ ?_ ?_ ?_ ?_)
  | (with_reducible exact snd_yes)
  | (with_reducible refine' snd_itV ?_)
  | (with_reducible refine' snd_rng1 ?_)
  | (with_reducible refine' snd_rng2 ?_)
  | (with_reducible refine' snd_enum ?_)
  | (with_reducible refine' snd_zip ?_)
  | (with_reducible refine' snd_sl ?_ ?_ ?_ ?_)
  | (with_reducible exact snd_noPart)
  | (with_reducible refine' snd_part ?_)
  | (with_reducible refine' snd_bm0 ?_ ?_)
  | (with_reducible refine' snd_bm ?_ ?_ ?_)
  | (with_reducible refine' snd_m1 ?_ ?_ ?_)
  | (with_reducible refine' snd_js ?_)
  | (with_reducible refine' snd_fmt ?_)
  | (with_reducible exact SndJ.nil)
  | (with_reducible refine' SndJ.cons ?_ ?_)
  | (with_reducible exact snd_dnew)
  | (with_reducible exact snd_dnewL)
  | (with_reducible refine' snd_dispL ?_)
  | (with_reducible refine' snd_dictL ?_)
  | (with_reducible refine' snd_dict ?_)
  | (with_reducible refine' snd_dcE ?_ ?_ ?_ ?_ ?_ ?_)
  | (with_reducible refine' snd_lk ?_)
  | (with_reducible refine' snd_items ?_)
  | (with_reducible refine' snd_values ?_)
  | (with_reducible refine' snd_dput ?_ ?_ ?_)
  | (with_reducible refine' sgo_tupn ?_)
  | (with_reducible refine' sgo_consX ?_ ?_)
  | (with_reducible refine' snd_caught (fun _ => ?_) ?_)
  | (with_reducible refine' snd_case (fun _ => ?_) ?_ ?_ ?_)
  | (with_reducible refine' sgo_name ?_)
  | (with_reducible refine' sgo_tup ?_ ?_)
  | (with_reducible refine' sgo_cons ?_ ?_)
  | (with_reducible exact sgo_nil)
  | (with_reducible refine' glen_cons ?_)
  | (with_reducible exact glen_nil)
  | (with_reducible refine' SndGO.g (vs := [0, 1, 2, 3, 4, 5, 6, 7, 8, 9, 10, 11, 12, 13, 14, 15, 16, 17, 18, 19, 20, 21, 22, 23, 24, 25]) ?_)
  | (with_reducible refine' dop_or ?_ ?_)
  | (with_reducible refine' dc_or ?_ ?_)
  | exact dop_add | exact dop_sub | exact dop_mul | exact dop_fdiv | exact dop_mod | exact dop_pow | exact dun_neg
  | exact dop_eq | exact dop_ne | exact dop_lt | exact dop_le | exact dop_gt | exact dop_ge | exact dop_in | exact dop_nin | exact dop_is | exact dop_isnt | exact dop_ix | exact dop_cmpX | exact dop_inX | exact dop_eqK | exact dop_eqLX | exact dop_inP | exact dc_reprG | exact dc_maxS | exact dc_minS
  | exact dc_sorted | exact dc_sortK | exact dc_maxL | exact dc_minL | exact dc_all | exact dc_any | exact dc_sum | exact dc_tuple
  | (with_reducible refine' snd_lenSet ?_)
  | (with_reducible refine' snd_rev ?_)
  | (with_reducible refine' snd_par3 ?_)
  | (with_reducible refine' snd_disp ?_)
  | (with_reducible exact snd_pnil)
  | (with_reducible refine' snd_pcons ?_ ?_ ?_)
  | (with_reducible refine' snd_dget ?_ ?_)
  | exact dsl | exact dc_len | exact dc_isi | exact dc_list | exact dc_int | exact dc_max2 | exact dc_min2 | exact dc_str | exact dc_strX | exact dc_repr
  | exact dm_append | exact dm_extend | exact dm_pop | exact dm_popAt | exact dm_join | exact dm_split | (exact dm_s0 fun _ _ _ => .bl _)
  | (with_reducible refine' snd_fld ?_ ?_ ?_)
  | (with_reducible refine' snd_sfld ?_ ?_ ?_ ?_)
  | (exact fun _ _ => .nil)
  | (exact Top.cl_Placing (by assumption)) | (exact Top.n_Placing_by_name (by assumption))
  | decide)
def m_l_moves_right {P : Program} {K : PySem.W.Frag} {mg : Str → Option Value} (T : Top P K mg) : Fn := fnD 3 12 (seqM (asgM (lstM false (consM (opM subD (cM (.int 1000)) (cbM (orC max2D maxLD) (consM (lcM false (valuesM (varM 2)) (gtupM (gconsM 10 (gconsM 11 gnilM))) yesM (varM 10) [10, 11]) nilM))) (consM (opM subD (unM negD (cM (.int 1000))) (cbM (orC min2D minLD) (consM (lcM false (valuesM (varM 2)) (gtupM (gconsM 10 (gconsM 11 gnilM))) yesM (varM 11) [10, 11]) nilM))) nilM))) (gnameM 3))
    (seqM (forM (rng1M (consM (cM (.int 4)) nilM)) (gnameM 4) (seqM (asgM (tupM (consM (opM subD (callM (m_l_take T) [] (consM (varM 0) (consM (cM (.int 21)) nilM))) (cM (.int 10))) (consM (opM (addD false) (opM subD (opM ixD (varM 3) (cM (.int 1))) (callM (m_l_take T) [] (consM (varM 0) (consM (cM (.int 3)) nilM)))) (cM (.int 1))) nilM))) (gtupM (gconsM 6 (gconsM 7 gnilM))))
    (seqM (ifS (testM (opM gtD (varM 4) (cM (.int 1))))
    (asgM (tupM (consM (opM subD (opM (addD false) (opM ixD (varM 3) (cM (.int 0))) (callM (m_l_take T) [] (consM (varM 0) (consM (cM (.int 3)) nilM)))) (cM (.int 1))) (consM (opM ixD (lstM false (consM (cM (.int 0)) (consM (unM negD (cM (.int 3000))) (consM (opM powD (cM (.int 10)) (cM (.int 29))) (consM (cM (.int 1)) nilM))))) (callM (m_l_take T) [] (consM (varM 0) (consM (cM (.int 4)) nilM)))) nilM))) (gtupM (gconsM 6 (gconsM 7 gnilM))))
    nextM)
    (seqM (asgM (dictM false (consM (lcM false (itemsM (varM 2)) (gtupnM 2 (gconsM 9 (gconsXM (gtupnM 2 (gconsM 10 (gconsM 11 gnilM))) gnilM))) yesM (tupM (consM (varM 9) (consM (tupM (consM (opM (addD false) (varM 10) (varM 6)) (consM (opM (addD false) (varM 11) (varM 7)) nilM))) nilM))) [9, 10, 11]) nilM)) (gnameM 5))
    (ifS (notT (testM (caseM K (hds T) (methM T.C_Placing "moved" (m_Placing_moved T) [] (varM 12) (consM (varM 6) (consM (varM 7) nilM))) (m_l_case_right T) (varM 1) (varM 2) (varM 5))))
    (retM (cM (.bl false)))
    nextM)))))
    (seqM (forM (itM (lstM false (consM (cM (.int 1)) (consM (unM negD (cM (.int 1))) (consM (cM (.int 2)) (consM (unM negD (cM (.int 3))) (consM (cM (.int 200)) (consM (cM (.int 1001)) (consM (unM negD (opM powD (cM (.int 10)) (cM (.int 28)))) nilM))))))))) (gnameM 8) (seqM (asgM (dictM false (consM (lcM false (itemsM (varM 2)) (gtupnM 2 (gconsM 9 (gconsXM (gtupnM 2 (gconsM 10 (gconsM 11 gnilM))) gnilM))) yesM (tupM (consM (varM 9) (consM (tupM (consM (opM (mulD false) (varM 8) (varM 10)) (consM (opM (mulD false) (varM 8) (varM 11)) nilM))) nilM))) [9, 10, 11]) nilM)) (gnameM 5))
    (ifS (notT (testM (caseM K (hds T) (methM T.C_Placing "stretched" (m_Placing_stretched T) [] (varM 12) (consM (varM 8) nilM)) (m_l_case_right T) (varM 1) (varM 2) (varM 5))))
    (retM (cM (.bl false)))
    nextM)))
    (retM (cM (.bl true))))))
theorem ok_l_moves_right {P : Program} {w : World} {K : PySem.W.Frag} {mg : Str → Option Value} {base : Heap} (T : Top P K mg) (hB : Tbs T base) : FnOk P w K mg base (L2.CX P w) 15 T.f_l_moves_right T.fd_l_moves_right ["_law_box_here", "_law_placing", "_law_points_here"] (SpG K T.tabs (noXF (m_l_moves_right T))) := by
  refine fn_cx0 (FunV.okC T.F_l_moves_right T.hc_l_moves_right sc_l_moves_right (fun vs H Q E h => fn_len (spg_nox h)) (fun A outer s H vs Q E hr h => ?_))
  refine ⟨_, (pss_cons (ps_set (i := 3) sc_l_moves_right.nd rfl (Or.inl rfl) (pe_lst (pa_cons (pe_op op_sub pe_int (pe_callB (call_maxU (K := K) rfl rfl) (by rfl) T.m_max (by decide +kernel) (pa_cons (pe_lc (own := [("_law_x", 10), ("_law_y", 11)]) (g := gTup K 2 (gCons (gName 10) (gCons (gName 11) gNil))) rfl sc_l_moves_right.nd (pi_values (pv 2)) (blkOk_by (own := [("_law_x", 10), ("_law_y", 11)]) (N := ["_law_box_here", "_law_placing", "_law_points_here", "_law_far", "_law_lap", "_law_due", "_law_dx", "_law_dy", "_law_factor", "_law_name", "_law_x", "_law_y"]) (sc := defScope s_l_moves_right) (by decide +kernel)) (fun _ _ _ _ _ => (pg_tupU (K := K) (n := 2) rfl rfl (pgs_cons (pg_name (i := 10) sc_l_moves_right.nd rfl (Or.inl rfl)) (pgs_cons (pg_name (i := 11) sc_l_moves_right.nd rfl (Or.inl rfl)) pgs_nil)))) (fun _ _ _ _ _ => pts_nil) (fun _ _ _ _ _ => (pv 10))) pa_nil))) (pa_cons (pe_op op_sub (pe_un un_neg pe_int) (pe_callB (call_minU (K := K) rfl rfl) (by rfl) T.m_min (by decide +kernel) (pa_cons (pe_lc (own := [("_law_x", 10), ("_law_y", 11)]) (g := gTup K 2 (gCons (gName 10) (gCons (gName 11) gNil))) rfl sc_l_moves_right.nd (pi_values (pv 2)) (blkOk_by (own := [("_law_x", 10), ("_law_y", 11)]) (N := ["_law_box_here", "_law_placing", "_law_points_here", "_law_far", "_law_lap", "_law_due", "_law_dx", "_law_dy", "_law_factor", "_law_name", "_law_x", "_law_y"]) (sc := defScope s_l_moves_right) (by decide +kernel)) (fun _ _ _ _ _ => (pg_tupU (K := K) (n := 2) rfl rfl (pgs_cons (pg_name (i := 10) sc_l_moves_right.nd rfl (Or.inl rfl)) (pgs_cons (pg_name (i := 11) sc_l_moves_right.nd rfl (Or.inl rfl)) pgs_nil)))) (fun _ _ _ _ _ => pts_nil) (fun _ _ _ _ _ => (pv 11))) pa_nil))) pa_nil))))
      (pss_cons (ps_for PassesOwn.never rfl (pi_range1 (by rfl) T.m_range (pa_cons pe_int pa_nil)) (pg_name (i := 4) sc_l_moves_right.nd rfl (Or.inl rfl)) (pss_cons (ps_asg (pe_tup (pa_cons (pe_op op_sub (pe_callSD (ok_l_take T) (hr.mono (by decide)) (by rfl) T.g_l_take T.F_l_take.kp T.b_l_take .nil (fun σ => passAt takesF σ) (pa_cons (pv 0) (pa_cons pe_int pa_nil))) pe_int) (pa_cons (pe_op op_addU (pe_op op_sub (pe_ix (ix_U (K := K) rfl) (pv 3) pe_int (fun _ _ => rfl)) (pe_callSD (ok_l_take T) (hr.mono (by decide)) (by rfl) T.g_l_take T.F_l_take.kp T.b_l_take .nil (fun σ => passAt takesF σ) (pa_cons (pv 0) (pa_cons pe_int pa_nil)))) pe_int) pa_nil))) (pg_tupU (K := K) (n := 2) rfl rfl (pgs_cons (pg_name (i := 6) sc_l_moves_right.nd rfl (Or.inr rfl)) (pgs_cons (pg_name (i := 7) sc_l_moves_right.nd rfl (Or.inr rfl)) pgs_nil))))
      (pss_cons (ps_if (pt_cmpR op_gtU (pv 4) pe_int (nomark _)) (pss_one (ps_asg (pe_tup (pa_cons (pe_op op_sub (pe_op op_addU (pe_ix (ix_U (K := K) rfl) (pv 3) pe_int (fun _ _ => rfl)) (pe_callSD (ok_l_take T) (hr.mono (by decide)) (by rfl) T.g_l_take T.F_l_take.kp T.b_l_take .nil (fun σ => passAt takesF σ) (pa_cons (pv 0) (pa_cons pe_int pa_nil)))) pe_int) (pa_cons (pe_ix (ix_U (K := K) rfl) (pe_lst (pa_cons pe_int (pa_cons (pe_un un_neg pe_int) (pa_cons (pe_op op_powU pe_int pe_int) (pa_cons pe_int pa_nil))))) (pe_callSD (ok_l_take T) (hr.mono (by decide)) (by rfl) T.g_l_take T.F_l_take.kp T.b_l_take .nil (fun σ => passAt takesF σ) (pa_cons (pv 0) (pa_cons pe_int pa_nil))) (fun _ _ => rfl)) pa_nil))) (pg_tupU (K := K) (n := 2) rfl rfl (pgs_cons (pg_name (i := 6) sc_l_moves_right.nd rfl (Or.inr rfl)) (pgs_cons (pg_name (i := 7) sc_l_moves_right.nd rfl (Or.inr rfl)) pgs_nil))))) pss_nil)
      (pss_cons (ps_set (i := 5) sc_l_moves_right.nd rfl (Or.inl rfl) (pe_lk (pe_callTy (call_dictM (K := K) rfl rfl) (by rfl) T.m_dict (by decide +kernel) (pa_cons (pe_lc (own := [("_law_name", 9), ("_law_x", 10), ("_law_y", 11)]) (g := gTup K 2 (gCons (gName 9) (gCons (gTup K 2 (gCons (gName 10) (gCons (gName 11) gNil))) gNil))) rfl sc_l_moves_right.nd (pi_items (pv 2)) (blkOk_by (own := [("_law_name", 9), ("_law_x", 10), ("_law_y", 11)]) (N := ["_law_box_here", "_law_placing", "_law_points_here", "_law_far", "_law_lap", "_law_due", "_law_dx", "_law_dy", "_law_factor", "_law_name", "_law_x", "_law_y"]) (sc := defScope s_l_moves_right) (by decide +kernel)) (fun _ _ _ _ _ => (pg_tupU (K := K) (n := 2) rfl rfl (pgs_cons (pg_name (i := 9) sc_l_moves_right.nd rfl (Or.inl rfl)) (pgs_cons (pg_tupU (K := K) (n := 2) rfl rfl (pgs_cons (pg_name (i := 10) sc_l_moves_right.nd rfl (Or.inl rfl)) (pgs_cons (pg_name (i := 11) sc_l_moves_right.nd rfl (Or.inl rfl)) pgs_nil))) pgs_nil)))) (fun _ _ _ _ _ => pts_nil) (fun _ _ _ _ _ => (pe_tup (pa_cons (pv 9) (pa_cons (pe_tup (pa_cons (pe_op op_addU (pv 10) (pv 6)) (pa_cons (pe_op op_addU (pv 11) (pv 7)) pa_nil))) pa_nil))))) pa_nil))))
      (pss_one (ps_if (pt_not (pt_val (pe_lam4 (T := T.tabs) (p := "_law_it") (k := 6) (by rfl) T.g_l_case_right T.F_l_case_right.kp T.b_l_case_right (fun B f sp hB2 hf => ok_l_case_right T hf) (hr.mono (by decide)) passF hB.t_l_moves_right rfl T.in_l_moves_right T.un_l_moves_right (lam1_by (N := ["_law_box_here", "_law_placing", "_law_points_here", "_law_far", "_law_lap", "_law_due", "_law_dx", "_law_dy", "_law_factor", "_law_name", "_law_x", "_law_y"]) (sc := defScope s_l_moves_right) (by decide +kernel)) rfl (fun _ _ _ _ _ _ => rfl) (fun B hB2 A outer s H E f c hr => (pe_methSD (pv 12) T.cl_Placing T.m_Placing_Placing_moved (ok_Placing_moved T) (hr.mono (by decide)) T.b_Placing_moved .nil (fun σ => passAt (takes_of (E := E) rfl rfl rfl rfl) σ) (pa_cons (pv 6) (pa_cons (pv 7) pa_nil)))) (pv 1) (pv 2) (pv 5) rfl rfl (fun _ => rfl) rfl rfl rfl))) (pss_one (ps_ret pe_bl)) pss_nil))))))
      (pss_cons (ps_for PassesOwn.never rfl (pi_V (K := K) rfl (pe_lst (pa_cons pe_int (pa_cons (pe_un un_neg pe_int) (pa_cons pe_int (pa_cons (pe_un un_neg pe_int) (pa_cons pe_int (pa_cons pe_int (pa_cons (pe_un un_neg (pe_op op_powU pe_int pe_int)) pa_nil))))))))) (pg_name (i := 8) sc_l_moves_right.nd rfl (Or.inr rfl)) (pss_cons (ps_set (i := 5) sc_l_moves_right.nd rfl (Or.inl rfl) (pe_lk (pe_callTy (call_dictM (K := K) rfl rfl) (by rfl) T.m_dict (by decide +kernel) (pa_cons (pe_lc (own := [("_law_name", 9), ("_law_x", 10), ("_law_y", 11)]) (g := gTup K 2 (gCons (gName 9) (gCons (gTup K 2 (gCons (gName 10) (gCons (gName 11) gNil))) gNil))) rfl sc_l_moves_right.nd (pi_items (pv 2)) (blkOk_by (own := [("_law_name", 9), ("_law_x", 10), ("_law_y", 11)]) (N := ["_law_box_here", "_law_placing", "_law_points_here", "_law_far", "_law_lap", "_law_due", "_law_dx", "_law_dy", "_law_factor", "_law_name", "_law_x", "_law_y"]) (sc := defScope s_l_moves_right) (by decide +kernel)) (fun _ _ _ _ _ => (pg_tupU (K := K) (n := 2) rfl rfl (pgs_cons (pg_name (i := 9) sc_l_moves_right.nd rfl (Or.inl rfl)) (pgs_cons (pg_tupU (K := K) (n := 2) rfl rfl (pgs_cons (pg_name (i := 10) sc_l_moves_right.nd rfl (Or.inl rfl)) (pgs_cons (pg_name (i := 11) sc_l_moves_right.nd rfl (Or.inl rfl)) pgs_nil))) pgs_nil)))) (fun _ _ _ _ _ => pts_nil) (fun _ _ _ _ _ => (pe_tup (pa_cons (pv 9) (pa_cons (pe_tup (pa_cons (pe_op op_mulU (pv 8) (pv 10)) (pa_cons (pe_op op_mulU (pv 8) (pv 11)) pa_nil))) pa_nil))))) pa_nil))))
      (pss_one (ps_if (pt_not (pt_val (pe_lam4 (T := T.tabs) (p := "_law_it") (k := 6) (by rfl) T.g_l_case_right T.F_l_case_right.kp T.b_l_case_right (fun B f sp hB2 hf => ok_l_case_right T hf) (hr.mono (by decide)) passF hB.t_l_moves_right rfl T.in_l_moves_right T.un_l_moves_right (lam1_by (N := ["_law_box_here", "_law_placing", "_law_points_here", "_law_far", "_law_lap", "_law_due", "_law_dx", "_law_dy", "_law_factor", "_law_name", "_law_x", "_law_y"]) (sc := defScope s_l_moves_right) (by decide +kernel)) rfl (fun _ _ _ _ _ _ => rfl) (fun B hB2 A outer s H E f c hr => (pe_methSD (pv 12) T.cl_Placing T.m_Placing_Placing_stretched (ok_Placing_stretched T) (hr.mono (by decide)) T.b_Placing_stretched .nil (fun σ => passAt (takes_of (E := E) rfl rfl rfl rfl) σ) (pa_cons (pv 8) pa_nil))) (pv 1) (pv 2) (pv 5) rfl rfl (fun _ => rfl) rfl rfl rfl))) (pss_one (ps_ret pe_bl)) pss_nil))))
      (pss_one (ps_ret pe_bl))))), fn_ok ?_ (spg_nox h)⟩
  repeat walk_at "s"

end K11

set_option Elab.async false
set_option linter.all false
set_option maxRecDepth 100000
set_option maxHeartbeats 3900000
namespace K11
open PySem PySem.Spec PyProof.Rows L2 G M
local macro_rules | `(tactic| walk_at "s") => `(tactic| first
  | (with_reducible exact snd_var)
  | (with_reducible refine' snd_seq ?_ ?_)
  | (with_reducible refine' snd_op ?_ ?_ ?_)
  | (with_reducible refine' snd_cons ?_ ?_)
  | (with_reducible exact snd_nil)
  | (with_reducible refine' snd_c ?_)
  | (intro al G; constructor)
  | (with_reducible refine' snd_asg ?_ ?_)
  | (with_reducible exact snd_gname)
  | (with_reducible refine' snd_ret ?_)
  | (with_reducible refine' snd_ifS ?_ ?_ ?_)
  | (with_reducible refine' snd_test ?_)
  | (with_reducible refine' snd_B ?_)
  | (with_reducible refine' snd_not ?_)
  | (with_reducible refine' snd_and ?_ ?_)
  | (with_reducible refine' snd_or ?_ ?_)
  | (with_reducible refine' snd_notV ?_)
  | (with_reducible refine' snd_andV ?_ ?_)
  | (with_reducible refine' snd_orV ?_ ?_)
  | (with_reducible refine' snd_if ?_ ?_ ?_)
  | (with_reducible refine' snd_chain ?_ ?_ ?_ ?_ ?_)
  | (with_reducible refine' snd_un ?_ ?_)
  | (with_reducible refine' snd_lst ?_)
  | (with_reducible refine' snd_tup ?_)
  | (with_reducible refine' snd_CB ?_ ?_)
  | (with_reducible refine' snd_call ?_ ?_)
  | (with_reducible refine' snd_meth ?_ ?_ ?_)
  | (with_reducible refine' snd_make ?_ ?_)
  | (with_reducible refine' snd_prop ?_)
  | (with_reducible refine' snd_drop ?_)
  | (with_reducible exact snd_retN)
  | (with_reducible exact snd_next)
  | (with_reducible exact snd_break)
  | (with_reducible exact snd_cont)
  | (with_reducible exact snd_never)
  | (with_reducible refine' snd_par ?_)
  | (with_reducible refine' snd_raise ?_)
  | (with_reducible refine' snd_for ?_ ?_ ?_)
  | (with_reducible refine' snd_while ?_ ?_)
  | (with_reducible refine' snd_lcE ?_ ?_ ?_ ?_ ?_)
  | (with_reducible exact snd_yes)
  | (with_reducible refine' snd_itV ?_)
  | (with_reducible refine' snd_rng1 ?_)
  | (with_reducible refine' snd_rng2 ?_)
  | (with_reducible refine' snd_enum ?_)
  | (with_reducible refine' snd_zip ?_)
  | (with_reducible refine' snd_sl ?_ ?_ ?_ ?_)
  | (with_reducible exact snd_noPart)
  | (with_reducible refine' snd_part ?_)
  | (with_reducible refine' snd_bm0 ?_ ?_)
  | (with_reducible refine' snd_bm ?_ ?_ ?_)
  | (with_reducible refine' snd_m1 ?_ ?_ ?_)
  | (with_reducible refine' snd_js ?_)
  | (with_reducible refine' snd_fmt ?_)
  | (with_reducible exact SndJ.nil)
  | (with_reducible refine' SndJ.cons ?_ ?_)
  | (with_reducible exact snd_dnew)
  | (with_reducible exact snd_dnewL)
  | (with_reducible refine' snd_dispL ?_)
  | (with_reducible refine' snd_dictL ?_)
  | (with_reducible refine' snd_dict ?_)
  | (with_reducible refine' snd_dcE ?_ ?_ ?_ ?_ ?_ ?_)
  | (with_reducible refine' snd_lk ?_)
  | (with_reducible refine' snd_items ?_)
  | (with_reducible refine' snd_values ?_)
  | (with_reducible refine' snd_dput ?_ ?_ ?_)
  | (with_reducible refine' sgo_tupn ?_)
  | (with_reducible refine' sgo_consX ?_ ?_)
  | (with_reducible refine' snd_caught (fun _ => ?_) ?_)
  | (with_reducible refine' snd_case (fun _ => ?_) ?_ ?_ ?_)
  | (with_reducible refine' sgo_name ?_)
  | (with_reducible refine' sgo_tup ?_ ?_)
  | (with_reducible refine' sgo_cons ?_ ?_)
  | (with_reducible exact sgo_nil)
  | (with_reducible refine' glen_cons ?_)
  | (with_reducible exact glen_nil)
  | (with_reducible refine' SndGO.g (vs := [0, 1, 2, 3, 4, 5, 6, 7, 8, 9, 10, 11, 12, 13, 14, 15, 16, 17, 18, 19, 20, 21, 22, 23, 24, 25]) ?_)
  | (with_reducible refine' dop_or ?_ ?_)
  | (with_reducible refine' dc_or ?_ ?_)
  | exact dop_add | exact dop_sub | exact dop_mul | exact dop_fdiv | exact dop_mod | exact dop_pow | exact dun_neg
  | exact dop_eq | exact dop_ne | exact dop_lt | exact dop_le | exact dop_gt | exact dop_ge | exact dop_in | exact dop_nin | exact dop_is | exact dop_isnt | exact dop_ix | exact dop_cmpX | exact dop_inX | exact dop_eqK | exact dop_eqLX | exact dop_inP | exact dc_reprG | exact dc_maxS | exact dc_minS
  | exact dc_sorted | exact dc_sortK | exact dc_maxL | exact dc_minL | exact dc_all | exact dc_any | exact dc_sum | exact dc_tuple
  | (with_reducible refine' snd_lenSet ?_)
  | (with_reducible refine' snd_rev ?_)
  | (with_reducible refine' snd_par3 ?_)
  | (with_reducible refine' snd_disp ?_)
  | (with_reducible exact snd_pnil)
  | (with_reducible refine' snd_pcons ?_ ?_ ?_)
  | (with_reducible refine' snd_dget ?_ ?_)
  | exact dsl | exact dc_len | exact dc_isi | exact dc_list | exact dc_int | exact dc_max2 | exact dc_min2 | exact dc_str | exact dc_strX | exact dc_repr
  | exact dm_append | exact dm_extend | exact dm_pop | exact dm_popAt | exact dm_join | exact dm_split | (exact dm_s0 fun _ _ _ => .bl _)
  | (with_reducible refine' snd_fld ?_ ?_ ?_)
  | (with_reducible refine' snd_sfld ?_ ?_ ?_ ?_)
  | (exact fun _ _ => .nil)
  | (exact Top.cl_Placing (by assumption)) | (exact Top.n_Placing_by_name (by assumption))
  | decide)
def m_l_refusals_right {P : Program} {K : PySem.W.Frag} {mg : Str → Option Value} (T : Top P K mg) : Fn := fnD 1 2 (seqM (forM (itM (lstM false (consM (cM .non) (consM (cM (.bl true)) (consM (cM (.str (Str.ofString "1"))) (consM (lstM false (consM (cM (.int 1)) nilM)) (consM (tupM (consM (cM (.int 1)) nilM)) (consM (dnewM false) nilM)))))))) (gnameM 1) (seqM (ifS (notT (testM (callM (m_l_is T) [] (consM (caughtM K (hds T) (methM T.C_Placing "moved" (m_Placing_moved T) [] (varM 0) (consM (varM 2) (consM (cM .non) nilM))) (consM (varM 1) nilM)) (consM (cM (.str (Str.ofString "InvalidShift"))) (consM (varM 1) nilM))))))
    (retM (cM (.bl false)))
    nextM)
    (seqM (ifS (notT (testM (callM (m_l_is T) [] (consM (caughtM K (hds T) (methM T.C_Placing "moved" (m_Placing_moved T) [] (varM 0) (consM (cM (.int 5000)) (consM (varM 2) nilM))) (consM (varM 1) nilM)) (consM (cM (.str (Str.ofString "InvalidShift"))) (consM (varM 1) nilM))))))
    (retM (cM (.bl false)))
    nextM)
    (ifS (notT (testM (callM (m_l_is T) [] (consM (caughtM K (hds T) (methM T.C_Placing "stretched" (m_Placing_stretched T) [] (varM 0) (consM (varM 2) nilM)) (consM (varM 1) nilM)) (consM (cM (.str (Str.ofString "InvalidFactor"))) (consM (varM 1) nilM))))))
    (retM (cM (.bl false)))
    nextM))))
    (retM (callM (m_l_is T) [] (consM (caughtM K (hds T) (methM T.C_Placing "stretched" (m_Placing_stretched T) [] (varM 0) (consM (varM 2) nilM)) (consM (cM (.int 0)) nilM)) (consM (cM (.str (Str.ofString "InvalidFactor"))) (consM (cM (.int 0)) nilM))))))
theorem ok_l_refusals_right {P : Program} {w : World} {K : PySem.W.Frag} {mg : Str → Option Value} {base : Heap} (T : Top P K mg) (hB : Tbs T base) : FnOk P w K mg base (L2.CX P w) 9 T.f_l_refusals_right T.fd_l_refusals_right ["_law_placing"] (SpG K T.tabs (noXF (m_l_refusals_right T))) := by
  refine fn_cx0 (FunV.okC T.F_l_refusals_right T.hc_l_refusals_right sc_l_refusals_right (fun vs H Q E h => fn_len (spg_nox h)) (fun A outer s H vs Q E hr h => ?_))
  refine ⟨_, (pss_cons (ps_for PassesOwn.never rfl (pi_V (K := K) rfl (pe_lst (pa_cons pe_non (pa_cons pe_bl (pa_cons pe_str (pa_cons (pe_lst (pa_cons pe_int pa_nil)) (pa_cons (pe_tup (pa_cons pe_int pa_nil)) (pa_cons (pe_lk pe_dnewK) pa_nil)))))))) (pg_name (i := 1) sc_l_refusals_right.nd rfl (Or.inl rfl)) (pss_cons (ps_if (pt_not (pt_val (pe_callSD (ok_l_is T) (hr.mono (by decide)) (by rfl) T.g_l_is T.F_l_is.kp T.b_l_is .nil (fun σ => passAt takesF σ) (pa_cons (pe_lam1 (T := T.tabs) (p := "_law_it") (k := 6) (by rfl) T.g_l_caught T.F_l_caught.kp T.b_l_caught (fun B f sp hB2 hf => ok_l_caught T hf) (hr.mono (by decide)) pass0 hB.t_l_refusals_right rfl T.in_l_refusals_right T.un_l_refusals_right (lam1_by (N := ["_law_placing", "_law_odd"]) (sc := defScope s_l_refusals_right) (by decide +kernel)) rfl (fun _ _ _ _ _ _ => rfl) (fun B hB2 A outer s H E f c hr => (pe_methSD (pv 0) T.cl_Placing T.m_Placing_Placing_moved (ok_Placing_moved T) (hr.mono (by decide)) T.b_Placing_moved .nil (fun σ => passAt (takes_of (E := E) rfl rfl rfl rfl) σ) (pa_cons (pv 2) (pa_cons pe_non pa_nil)))) (pa_cons (pv 1) pa_nil) rfl rfl (fun _ => rfl) rfl) (pa_cons pe_str (pa_cons (pv 1) pa_nil)))))) (pss_one (ps_ret pe_bl)) pss_nil)
      (pss_cons (ps_if (pt_not (pt_val (pe_callSD (ok_l_is T) (hr.mono (by decide)) (by rfl) T.g_l_is T.F_l_is.kp T.b_l_is .nil (fun σ => passAt takesF σ) (pa_cons (pe_lam1 (T := T.tabs) (p := "_law_it") (k := 6) (by rfl) T.g_l_caught T.F_l_caught.kp T.b_l_caught (fun B f sp hB2 hf => ok_l_caught T hf) (hr.mono (by decide)) pass0 hB.t_l_refusals_right rfl T.in_l_refusals_right T.un_l_refusals_right (lam1_by (N := ["_law_placing", "_law_odd"]) (sc := defScope s_l_refusals_right) (by decide +kernel)) rfl (fun _ _ _ _ _ _ => rfl) (fun B hB2 A outer s H E f c hr => (pe_methSD (pv 0) T.cl_Placing T.m_Placing_Placing_moved (ok_Placing_moved T) (hr.mono (by decide)) T.b_Placing_moved .nil (fun σ => passAt (takes_of (E := E) rfl rfl rfl rfl) σ) (pa_cons pe_int (pa_cons (pv 2) pa_nil)))) (pa_cons (pv 1) pa_nil) rfl rfl (fun _ => rfl) rfl) (pa_cons pe_str (pa_cons (pv 1) pa_nil)))))) (pss_one (ps_ret pe_bl)) pss_nil)
      (pss_one (ps_if (pt_not (pt_val (pe_callSD (ok_l_is T) (hr.mono (by decide)) (by rfl) T.g_l_is T.F_l_is.kp T.b_l_is .nil (fun σ => passAt takesF σ) (pa_cons (pe_lam1 (T := T.tabs) (p := "_law_it") (k := 6) (by rfl) T.g_l_caught T.F_l_caught.kp T.b_l_caught (fun B f sp hB2 hf => ok_l_caught T hf) (hr.mono (by decide)) pass0 hB.t_l_refusals_right rfl T.in_l_refusals_right T.un_l_refusals_right (lam1_by (N := ["_law_placing", "_law_odd"]) (sc := defScope s_l_refusals_right) (by decide +kernel)) rfl (fun _ _ _ _ _ _ => rfl) (fun B hB2 A outer s H E f c hr => (pe_methSD (pv 0) T.cl_Placing T.m_Placing_Placing_stretched (ok_Placing_stretched T) (hr.mono (by decide)) T.b_Placing_stretched .nil (fun σ => passAt (takes_of (E := E) rfl rfl rfl rfl) σ) (pa_cons (pv 2) pa_nil))) (pa_cons (pv 1) pa_nil) rfl rfl (fun _ => rfl) rfl) (pa_cons pe_str (pa_cons (pv 1) pa_nil)))))) (pss_one (ps_ret pe_bl)) pss_nil)))))
      (pss_one (ps_ret (pe_callSD (ok_l_is T) (hr.mono (by decide)) (by rfl) T.g_l_is T.F_l_is.kp T.b_l_is .nil (fun σ => passAt takesF σ) (pa_cons (pe_lam1 (T := T.tabs) (p := "_law_it") (k := 6) (by rfl) T.g_l_caught T.F_l_caught.kp T.b_l_caught (fun B f sp hB2 hf => ok_l_caught T hf) (hr.mono (by decide)) pass0 hB.t_l_refusals_right rfl T.in_l_refusals_right T.un_l_refusals_right (lam1_by (N := ["_law_placing", "_law_odd"]) (sc := defScope s_l_refusals_right) (by decide +kernel)) rfl (fun _ _ _ _ _ _ => rfl) (fun B hB2 A outer s H E f c hr => (pe_methSD (pv 0) T.cl_Placing T.m_Placing_Placing_stretched (ok_Placing_stretched T) (hr.mono (by decide)) T.b_Placing_stretched .nil (fun σ => passAt (takes_of (E := E) rfl rfl rfl rfl) σ) (pa_cons (pv 2) pa_nil))) (pa_cons pe_int pa_nil) rfl rfl (fun _ => rfl) rfl) (pa_cons pe_str (pa_cons pe_int pa_nil))))))), fn_ok ?_ (spg_nox h)⟩
  repeat walk_at "s"
def m_law {P : Program} {K : PySem.W.Frag} {mg : Str → Option Value} (T : Top P K mg) : Fn := fnD 1 8 (seqM (forM (rng1M (consM (cbM max2D (consM (cM (.int 2)) (consM (cbM min2D (consM (cM (.int 6)) (consM (cbM lenD (consM (varM 0) nilM)) nilM))) nilM))) nilM)) (gnameM 1) (seqM (asgM (callM (m_l_box T) [] (consM (callM (m_l_cell T) [] (consM (varM 0) (consM (varM 1) nilM))) nilM)) (gnameM 2))
    (seqM (asgM (callM (m_l_points T) [] (consM (varM 2) (consM (callM (m_l_names T) [] (consM (varM 2) (consM (opM (addD false) (cM (.int 1)) (callM (m_l_take T) [] (consM (varM 2) (consM (cM (.int 8)) nilM)))) nilM))) nilM))) (gnameM 3))
    (seqM (asgM (makeM false T.C_Placing (m_Placing_init T) [] (consM (varM 3) nilM)) (gnameM 4))
    (seqM (ifS (testM (opM (orD (orD neD (eqKD not)) (cmpX K T.C_Placing (m_Placing_eq T) not)) (methM T.C_Placing "points" (m_Placing_points T) [] (methM T.C_Placing "turned" (m_Placing_turned T) [] (varM 4) nilM) nilM) (dictM false (consM (lcM false (itemsM (varM 3)) (gtupnM 2 (gconsM 5 (gconsXM (gtupnM 2 (gconsM 6 (gconsM 7 gnilM))) gnilM))) yesM (tupM (consM (varM 5) (consM (tupM (consM (opM subD (cM (.int 0)) (varM 7)) (consM (varM 6) nilM))) nilM))) [5, 6, 7]) nilM))))
    (retM (cM (.bl false)))
    nextM)
    (seqM (ifS (testM (opM (orD (orD neD (eqKD not)) (cmpX K T.C_Placing (m_Placing_eq T) not)) (methM T.C_Placing "points" (m_Placing_points T) [] (methM T.C_Placing "mirrored" (m_Placing_mirrored T) [] (varM 4) nilM) nilM) (dictM false (consM (lcM false (itemsM (varM 3)) (gtupnM 2 (gconsM 5 (gconsXM (gtupnM 2 (gconsM 6 (gconsM 7 gnilM))) gnilM))) yesM (tupM (consM (varM 5) (consM (tupM (consM (opM subD (cM (.int 0)) (varM 6)) (consM (varM 7) nilM))) nilM))) [5, 6, 7]) nilM))))
    (retM (cM (.bl false)))
    nextM)
    (seqM (ifS (orT (testM (opM (orD (orD neD (eqKD not)) (cmpX K T.C_Placing (m_Placing_eq T) not)) (methM T.C_Placing "turned" (m_Placing_turned T) [] (methM T.C_Placing "turned" (m_Placing_turned T) [] (varM 4) nilM) nilM) (methM T.C_Placing "stretched" (m_Placing_stretched T) [] (varM 4) (consM (unM negD (cM (.int 1))) nilM)))) (testM (opM (orD (orD neD (eqKD not)) (cmpX K T.C_Placing (m_Placing_eq T) not)) (methM T.C_Placing "mirrored" (m_Placing_mirrored T) [] (methM T.C_Placing "mirrored" (m_Placing_mirrored T) [] (varM 4) nilM) nilM) (varM 4))))
    (retM (cM (.bl false)))
    nextM)
    (ifS (orT (notT (testM (callM (noXF (m_l_moves_right T)) [] (consM (varM 2) (consM (varM 4) (consM (varM 3) nilM)))))) (notT (testM (callM (noXF (m_l_refusals_right T)) [] (consM (varM 4) nilM)))))
    (retM (cM (.bl false)))
    nextM))))))))
    (retM (cM (.bl true))))
theorem ok_law {P : Program} {w : World} {K : PySem.W.Frag} {mg : Str → Option Value} {base : Heap} (T : Top P K mg) (hB : Tbs T base) : FnOk P w K mg base (L2.CX P w) 16 T.f_law T.fd_law ["_law_script"] (SpG K T.tabs (m_law T)) := by
  refine T.F_law.okX sc_law (fun vs H Q E h => fn_len h) (fun cdv A outer s H vs Q E hr h => ?_)
  have tk : Takes _ (fun cls d _ H => E cls d H) := takes_of (E := E) (X := cxOf (L2.CX P w) P w K mg base ["_law_script", "_law_k", "_law_box_here", "_law_points_here", "_law_placing", "_law_name", "_law_x", "_law_y"] "law" (defScope s_law) T.f_law cdv A outer s H E) rfl rfl rfl rfl
  refine ⟨_, (pss_cons (ps_for (passes_of rfl) rfl (pi_range1 (by rfl) T.m_range (pa_cons (pe_callB (call_maxU (K := K) rfl rfl) (by rfl) T.m_max (by decide +kernel) (pa_cons pe_int (pa_cons (pe_callB (call_minU (K := K) rfl rfl) (by rfl) T.m_min (by decide +kernel) (pa_cons pe_int (pa_cons (pe_callB (call_lenU (K := K) rfl) (by rfl) T.m_len PySem.boot_len (pa_cons (pv 0) pa_nil)) pa_nil))) pa_nil))) pa_nil)) (pg_name (i := 1) sc_law.nd rfl (Or.inl rfl)) (pss_cons (ps_set (i := 2) sc_law.nd rfl (Or.inl rfl) (pe_callSD (ok_l_box T) (hr.mono (by decide)) (by rfl) T.g_l_box T.F_l_box.kp T.b_l_box .nil (fun σ => passAt tk σ) (pa_cons (pe_callSD (ok_l_cell T) (hr.mono (by decide)) (by rfl) T.g_l_cell T.F_l_cell.kp T.b_l_cell .nil (fun σ => passAt tk σ) (pa_cons (pv 0) (pa_cons (pv 1) pa_nil))) pa_nil)))
      (pss_cons (ps_set (i := 3) sc_law.nd rfl (Or.inl rfl) (pe_callSD (ok_l_points T) (hr.mono (by decide)) (by rfl) T.g_l_points T.F_l_points.kp T.b_l_points .nil (fun σ => passAt tk σ) (pa_cons (pv 2) (pa_cons (pe_callSD (ok_l_names T) (hr.mono (by decide)) (by rfl) T.g_l_names T.F_l_names.kp T.b_l_names .nil (fun σ => passAt tk σ) (pa_cons (pv 2) (pa_cons (pe_op op_addU pe_int (pe_callSD (ok_l_take T) (hr.mono (by decide)) (by rfl) T.g_l_take T.F_l_take.kp T.b_l_take .nil (fun σ => passAt tk σ) (pa_cons (pv 2) (pa_cons pe_int pa_nil)))) pa_nil))) pa_nil))))
      (pss_cons (ps_set (i := 4) sc_law.nd rfl (Or.inl rfl) (pe_makeSD T.M_Placing (ok_Placing_init T) (hr.mono (by decide)) (by rfl) T.g_Placing T.b_Placing_init .nil (fun σ => passAt tk σ) (pa_cons (pv 3) pa_nil)))
      (pss_cons (ps_if (pt_cmpR (((op_neU (K := K) rfl hr.units).or (op_neK (K := K) rfl (Room.u65 hr))).or (op_neX (K := K) rfl (ok_Placing_eq T) (hr.mono (by decide)) T.eq_Placing T.fe_Placing T.b_Placing_eq T.ne_Placing T.so_Placing)) (pe_methSD0 (pe_methSD0 (pv 4) T.cl_Placing T.m_Placing_Placing_turned (ok_Placing_turned T) (hr.mono (by decide)) T.b_Placing_turned .nil (fun σ => passAt tk σ)) T.cl_Placing T.m_Placing_Placing_points (ok_Placing_points T) (hr.mono (by decide)) T.b_Placing_points .nil (fun σ => passAt tk σ)) (pe_lk (pe_callTy (call_dictM (K := K) rfl rfl) (by rfl) T.m_dict (by decide +kernel) (pa_cons (pe_lc (own := [("_law_name", 5), ("_law_x", 6), ("_law_y", 7)]) (g := gTup K 2 (gCons (gName 5) (gCons (gTup K 2 (gCons (gName 6) (gCons (gName 7) gNil))) gNil))) rfl sc_law.nd (pi_items (pv 3)) (blkOk_by (own := [("_law_name", 5), ("_law_x", 6), ("_law_y", 7)]) (N := ["_law_script", "_law_k", "_law_box_here", "_law_points_here", "_law_placing", "_law_name", "_law_x", "_law_y"]) (sc := defScope s_law) (by decide +kernel)) (fun _ _ _ _ _ => (pg_tupU (K := K) (n := 2) rfl rfl (pgs_cons (pg_name (i := 5) sc_law.nd rfl (Or.inl rfl)) (pgs_cons (pg_tupU (K := K) (n := 2) rfl rfl (pgs_cons (pg_name (i := 6) sc_law.nd rfl (Or.inl rfl)) (pgs_cons (pg_name (i := 7) sc_law.nd rfl (Or.inl rfl)) pgs_nil))) pgs_nil)))) (fun _ _ _ _ _ => pts_nil) (fun _ _ _ _ _ => (pe_tup (pa_cons (pv 5) (pa_cons (pe_tup (pa_cons (pe_op op_sub pe_int (pv 7)) (pa_cons (pv 6) pa_nil))) pa_nil))))) pa_nil))) (nomark _)) (pss_one (ps_ret pe_bl)) pss_nil)
      (pss_cons (ps_if (pt_cmpR (((op_neU (K := K) rfl hr.units).or (op_neK (K := K) rfl (Room.u65 hr))).or (op_neX (K := K) rfl (ok_Placing_eq T) (hr.mono (by decide)) T.eq_Placing T.fe_Placing T.b_Placing_eq T.ne_Placing T.so_Placing)) (pe_methSD0 (pe_methSD0 (pv 4) T.cl_Placing T.m_Placing_Placing_mirrored (ok_Placing_mirrored T) (hr.mono (by decide)) T.b_Placing_mirrored .nil (fun σ => passAt tk σ)) T.cl_Placing T.m_Placing_Placing_points (ok_Placing_points T) (hr.mono (by decide)) T.b_Placing_points .nil (fun σ => passAt tk σ)) (pe_lk (pe_callTy (call_dictM (K := K) rfl rfl) (by rfl) T.m_dict (by decide +kernel) (pa_cons (pe_lc (own := [("_law_name", 5), ("_law_x", 6), ("_law_y", 7)]) (g := gTup K 2 (gCons (gName 5) (gCons (gTup K 2 (gCons (gName 6) (gCons (gName 7) gNil))) gNil))) rfl sc_law.nd (pi_items (pv 3)) (blkOk_by (own := [("_law_name", 5), ("_law_x", 6), ("_law_y", 7)]) (N := ["_law_script", "_law_k", "_law_box_here", "_law_points_here", "_law_placing", "_law_name", "_law_x", "_law_y"]) (sc := defScope s_law) (by decide +kernel)) (fun _ _ _ _ _ => (pg_tupU (K := K) (n := 2) rfl rfl (pgs_cons (pg_name (i := 5) sc_law.nd rfl (Or.inl rfl)) (pgs_cons (pg_tupU (K := K) (n := 2) rfl rfl (pgs_cons (pg_name (i := 6) sc_law.nd rfl (Or.inl rfl)) (pgs_cons (pg_name (i := 7) sc_law.nd rfl (Or.inl rfl)) pgs_nil))) pgs_nil)))) (fun _ _ _ _ _ => pts_nil) (fun _ _ _ _ _ => (pe_tup (pa_cons (pv 5) (pa_cons (pe_tup (pa_cons (pe_op op_sub pe_int (pv 6)) (pa_cons (pv 7) pa_nil))) pa_nil))))) pa_nil))) (nomark _)) (pss_one (ps_ret pe_bl)) pss_nil)
      (pss_cons (ps_if (PW.pt (pw_or (pt_cmpR (((op_neU (K := K) rfl hr.units).or (op_neK (K := K) rfl (Room.u65 hr))).or (op_neX (K := K) rfl (ok_Placing_eq T) (hr.mono (by decide)) T.eq_Placing T.fe_Placing T.b_Placing_eq T.ne_Placing T.so_Placing)) (pe_methSD0 (pe_methSD0 (pv 4) T.cl_Placing T.m_Placing_Placing_turned (ok_Placing_turned T) (hr.mono (by decide)) T.b_Placing_turned .nil (fun σ => passAt tk σ)) T.cl_Placing T.m_Placing_Placing_turned (ok_Placing_turned T) (hr.mono (by decide)) T.b_Placing_turned .nil (fun σ => passAt tk σ)) (pe_methSD (pv 4) T.cl_Placing T.m_Placing_Placing_stretched (ok_Placing_stretched T) (hr.mono (by decide)) T.b_Placing_stretched .nil (fun σ => passAt tk σ) (pa_cons (pe_un un_neg pe_int) pa_nil)) (nomark _)) (pw_or1 (pt_cmpR (((op_neU (K := K) rfl hr.units).or (op_neK (K := K) rfl (Room.u65 hr))).or (op_neX (K := K) rfl (ok_Placing_eq T) (hr.mono (by decide)) T.eq_Placing T.fe_Placing T.b_Placing_eq T.ne_Placing T.so_Placing)) (pe_methSD0 (pe_methSD0 (pv 4) T.cl_Placing T.m_Placing_Placing_mirrored (ok_Placing_mirrored T) (hr.mono (by decide)) T.b_Placing_mirrored .nil (fun σ => passAt tk σ)) T.cl_Placing T.m_Placing_Placing_mirrored (ok_Placing_mirrored T) (hr.mono (by decide)) T.b_Placing_mirrored .nil (fun σ => passAt tk σ)) (pv 4) (nomark _))))) (pss_one (ps_ret pe_bl)) pss_nil)
      (pss_one (ps_if (PW.pt (pw_or (pt_not (pt_val (pe_callSD (ok_l_moves_right T hB) (hr.mono (by decide)) (by rfl) T.g_l_moves_right T.F_l_moves_right.kp T.b_l_moves_right .nil (fun σ => passAt tk σ) (pa_cons (pv 2) (pa_cons (pv 4) (pa_cons (pv 3) pa_nil)))))) (pw_or1 (pt_not (pt_val (pe_callSD (ok_l_refusals_right T hB) (hr.mono (by decide)) (by rfl) T.g_l_refusals_right T.F_l_refusals_right.kp T.b_l_refusals_right .nil (fun σ => passAt tk σ) (pa_cons (pv 4) pa_nil))))))) (pss_one (ps_ret pe_bl)) pss_nil)))))))))
      (pss_one (ps_ret pe_bl))), fn_ok ?_ h⟩
  clear tk
  repeat walk_at "s"

end K11

set_option Elab.async false
set_option linter.all false
set_option maxRecDepth 100000
set_option maxHeartbeats 3900000
namespace K11
open PySem PySem.Spec PyProof.Rows L2 G M
local macro_rules | `(tactic| walk_at "m") => `(tactic| first
  | (with_reducible refine' e_seq ?_)
  | ((with_reducible refine' e_var ?h ?_); (case h => exact rfl))
  | (with_reducible refine' e_c ?_)
  | (with_reducible refine' e_op ?_)
  | (with_reducible refine' e_asg ?_)
  | (with_reducible refine' e_gname ?_)
  | (with_reducible refine' e_ifS ?_)
  | (with_reducible refine' e_test ?_)
  | (with_reducible refine' e_bl ?_)
  | (with_reducible refine' e_cb ?_)
  | (with_reducible refine' e_cons ?_)
  | (with_reducible refine' e_nil ?_)
  | (with_reducible refine' e_call ?_)
  | (with_reducible refine' e_ret ?_)
  | (with_reducible refine' e_drop ?_)
  | (with_reducible refine' e_next ?_)
  | (with_reducible refine' e_andT ?_)
  | (with_reducible refine' e_orT ?_)
  | (with_reducible refine' e_notT ?_)
  | (with_reducible refine' e_andM ?_)
  | (with_reducible refine' e_orM ?_)
  | (with_reducible refine' e_notM ?_)
  | (with_reducible refine' e_ifM ?_)
  | (with_reducible refine' e_chain ?_)
  | (with_reducible refine' e_un ?_)
  | (with_reducible refine' e_lst ?_)
  | (with_reducible refine' e_lstO ?_)
  | (with_reducible refine' e_tup ?_)
  | (with_reducible refine' e_par ?_)
  | (with_reducible refine' e_raise ?_)
  | (with_reducible refine' e_for ?_)
  | (with_reducible refine' e_meth ?_)
  | (with_reducible refine' e_prop ?_)
  | (with_reducible refine' e_make ?_)
  | (with_reducible refine' e_fld ?_)
  | (with_reducible refine' e_sfld ?_)
  | (with_reducible refine' e_noPart ?_)
  | (with_reducible refine' e_part ?_)
  | (with_reducible refine' e_int ?_)
  | (with_reducible refine' e_sl ?_)
  | (with_reducible refine' e_bm ?_)
  | (with_reducible refine' e_bm0 ?_)
  | (with_reducible refine' e_m1 ?_)
  | (with_reducible refine' e_it ?_)
  | (with_reducible refine' e_rng1 ?_)
  | (with_reducible refine' e_lc ?_)
  | (with_reducible refine' e_caught ?_)
  | (with_reducible refine' e_two ?_)
  | (with_reducible refine' e_one ?_)
  | (with_reducible refine' e_ifT ?_)
  | (with_reducible refine' e_ifF ?_)
  | (with_reducible refine' e_ifNT ?_)
  | (with_reducible refine' e_ifNF ?_)
  | (with_reducible refine' e_yes ?_)
  | (with_reducible refine' e_turn ?_)
  | (with_reducible refine' e_js ?_)
  | (with_reducible refine' e_jsc ?_)
  | (with_reducible refine' e_jsn ?_)
  | (with_reducible refine' e_fmt ?_)
  | (with_reducible refine' e_leI ?_)
  | (with_reducible refine' e_ltI ?_)
  | (with_reducible refine' e_gtI ?_)
  | (with_reducible refine' e_geI ?_)
  | (with_reducible refine' e_ltS ?_)
  | (with_reducible refine' e_eqI ?_)
  | (with_reducible refine' e_eqS ?_)
  | (with_reducible refine' e_neI ?_)
  | (with_reducible refine' e_neS ?_)
  | (with_reducible refine' e_neB ?_)
  | (with_reducible refine' e_isB ?_)
  | (with_reducible refine' e_isntB ?_)
  | (with_reducible refine' e_addI ?_)
  | (with_reducible refine' e_subI ?_)
  | (with_reducible refine' e_int1 ?_)
  | (with_reducible refine' e_max2 ?_)
  | (with_reducible refine' e_min2 ?_)
  | (with_reducible refine' e_lenL ?_)
  | (with_reducible refine' e_lenT ?_)
  | (with_reducible refine' e_lenR ?_)
  | (with_reducible refine' e_modI (by decide) ?_))
local macro_rules | `(tactic| walk_at "k") => `(tactic| first
  | (with_reducible refine' e_itM ?_)
  | (with_reducible refine' e_itL ?_)
  | (with_reducible refine' e_itT ?_)
  | walk_at "m"
  | (with_reducible refine' e_itemsM ?_)
  | (with_reducible refine' e_valuesM ?_)
  | (with_reducible refine' e_itemsD ?_)
  | (with_reducible refine' e_valuesD ?_)
  | (with_reducible refine' e_dc ?_)
  | (with_reducible refine' e_turnK ?_)
  | (with_reducible refine' e_keyS ?_)
  | (with_reducible refine' e_newK ?_)
  | (with_reducible refine' e_lenD ?_)
  | (with_reducible refine' e_dict ?_)
  | (with_reducible refine' e_caseM ?_)
  | (with_reducible refine' e_dictC ?_)
  | (with_reducible refine' e_lkM ?_)
  | (with_reducible refine' e_dputM ?_)
  | (with_reducible refine' e_dnew ?_)
  | (with_reducible refine' e_ix0 ?_)
  | (with_reducible refine' e_ix1 ?_)
  | (with_reducible refine' e_ixL0 ?_)
  | (with_reducible refine' e_ixL1 ?_)
  | (with_reducible refine' e_ixL2 ?_)
  | (with_reducible refine' e_negI ?_)
  | (with_reducible refine' e_gtup2 ?_)
  | (with_reducible refine' e_gtup3n ?_)
  | (with_reducible refine' e_isN ?_)
  | (with_reducible refine' e_isntN ?_)
  | ((with_reducible refine' e_sz ?h ?_); (case h => exact rfl)))
variable {P : Program} {K : PySem.W.Frag} {mg : Str → Option Value} {T : Top P K mg} {c : SH} {Ψ : XD} {Φ : QD}
theorem s_isname {z : Str} (hz : z.length ≤ sizeLine) (q : Φ (.bl (isName z)) c) : m_is_name T [.str z] c Ψ Φ := by
  refine e_fn (δ := [some _]) rfl rfl ?_
  repeat walk_at "m"
  refine e_isi (isi_str z) ?_
  repeat walk_at "m"
  refine lenStr hz ?_
  repeat walk_at "m"
  by_cases h : 1 ≤ z.length
  · rw [decide_eq_true (show (1 : Int) ≤ (z.length : Int) by omega)]
    repeat walk_at "m"
    by_cases h2 : z.length ≤ 8
    · rw [decide_eq_true (show (z.length : Int) ≤ 8 by omega)]
      have e : isName z = (Txt.isascii z && (Txt.isalpha z && Txt.islower z)) := by
        rw [name_tests z (by omega)]
        unfold isName
        rw [decide_eq_true h2, decide_eq_true h, Bool.true_and, Bool.true_and]
      rw [e] at q
      refine e_ifF ?_
      repeat walk_at "m"
      refine ⟨rfl, e_s0 ?_⟩
      repeat walk_at "m"
      cases h3 : Txt.isascii z with
      | false => rw [h3] at q; exact e_ifF (e_clo q)
      | true =>
        rw [h3] at q
        refine e_ifT ?_
        repeat walk_at "m"
        refine ⟨rfl, e_s0 ?_⟩
        repeat walk_at "m"
        cases h4 : Txt.isalpha z with
        | false => rw [h4] at q; exact e_ifF (e_clo q)
        | true =>
          rw [h4] at q
          refine e_ifT ?_
          repeat walk_at "m"
          exact ⟨rfl, e_s0 (e_clo q)⟩
    · rw [decide_eq_false (show ¬ (z.length : Int) ≤ 8 by omega)]
      have e : isName z = false := by
        unfold isName
        rw [decide_eq_false h2, Bool.false_and, Bool.and_false]
      rw [e] at q
      refine e_ifT ?_
      repeat walk_at "m"
      exact e_clo q
  · rw [decide_eq_false (show ¬ (1 : Int) ≤ (z.length : Int) by omega)]
    have e : isName z = false := by
      unfold isName
      rw [decide_eq_false h, Bool.false_and]
    rw [e] at q
    repeat walk_at "m"
    exact e_clo q
theorem s_isname0 {x : D} (h : Isi K c x (.type "str") false) (q : Φ (.bl false) c) : m_is_name T [x] c Ψ Φ := by
  refine e_fn (δ := [some _]) rfl rfl ?_
  repeat walk_at "m"
  refine e_isi h ?_
  repeat walk_at "m"
  exact e_clo q
def NotName (K : PySem.W.Frag) (c : SH) (x : D) : Prop := (∃ z : Str, x = .str z ∧ z.length ≤ sizeLine ∧ isName z = false) ∨ Isi K c x (.type "str") false
theorem s_notname {x : D} (h : NotName K c x) (q : Φ (.bl false) c) : m_is_name T [x] c Ψ Φ := by
  rcases h with ⟨z, rfl, h1, h2⟩ | h
  · exact s_isname h1 (by rw [h2]; exact q)
  · exact s_isname0 h q

theorem s_isint {x lo hi : Int} (q : Φ (.bl (decide (lo ≤ x ∧ x ≤ hi))) c) : m_is_integer T [.int x, .int lo, .int hi] c Ψ Φ := by
  refine e_fn (δ := [some _, some _, some _]) rfl rfl ?_
  repeat walk_at "k"
  refine e_isi (isi_ty (b := true) rfl (kit_ty (by decide +kernel))) ?_
  repeat walk_at "k"
  refine e_isi (isi_ty (b := false) rfl (kit_ty (by decide +kernel))) ?_
  repeat walk_at "k"
  refine e_ifd (fun h => ?_) (fun h => ?_)
  · repeat walk_at "k"
    refine e_clo ?_
    rw [show decide (lo ≤ x ∧ x ≤ hi) = decide (x ≤ hi) by simp [h]] at q
    exact q
  · refine e_clo ?_
    rw [show decide (lo ≤ x ∧ x ≤ hi) = false by simp [h]] at q
    exact q
theorem s_whole {x : Int} (q : Φ (.bl true) c) : m_is_whole T [.int x] c Ψ Φ := by
  refine e_fn (δ := [some _]) rfl rfl ?_
  repeat walk_at "k"
  refine e_isi (isi_ty (b := true) rfl (kit_ty (by decide +kernel))) ?_
  repeat walk_at "k"
  refine e_isi (isi_ty (b := false) rfl (kit_ty (by decide +kernel))) ?_
  repeat walk_at "k"
  exact e_clo q
def NoInt (K : PySem.W.Frag) (c : SH) (x : D) : Prop := Isi K c x (.type "int") false ∨ (Isi K c x (.type "int") true ∧ Isi K c x (.type "bool") true)
theorem s_whole0 {x : D} (h : NoInt K c x) (q : Φ (.bl false) c) : m_is_whole T [x] c Ψ Φ := by
  refine e_fn (δ := [some _]) rfl rfl ?_
  repeat walk_at "k"
  rcases h with h | ⟨h1, h2⟩
  · refine e_isi h ?_
    repeat walk_at "k"
    exact e_clo q
  · refine e_isi h1 ?_
    repeat walk_at "k"
    refine e_isi h2 ?_
    repeat walk_at "k"
    exact e_clo q
def inR (x : Int) : Prop := -1000 ≤ x ∧ x ≤ 1000
theorem e_all2 {p q : Bool} (h : Φ (.bl (p && q)) c) : allD [.lst [.bl p, .bl q]] c Φ := by
  cases p <;> cases q <;> exact h
theorem s_point {x y : Int} (hx : inR x) (hy : inR y) (q : Φ (.bl true) c) : m_is_point T [.tup [.int x, .int y]] c Ψ Φ := by
  refine e_fn (δ := [some _, none]) rfl rfl ?_
  repeat walk_at "k"
  refine e_isi (isi_ty (b := true) rfl (kit_ty (by decide +kernel))) ?_
  repeat walk_at "k"
  refine e_ifF ?_
  repeat walk_at "k"
  refine lc_map (F := fun (i : Int) => D.int i) (f := fun _ => some (.bl true)) (by rfl) [x, y] [] (by show 2 < sizeLine; decide) (fun z hz kk hq => ?_) ?_
  · repeat walk_at "k"
    refine s_isint ?_
    have : -1000 ≤ z ∧ z ≤ 1000 := by
      rcases List.mem_cons.mp hz with rfl | hz
      · exact hx
      · rcases List.mem_cons.mp hz with rfl | hz
        · exact hy
        · cases hz
    rw [decide_eq_true this]
    exact hq
  · refine e_ifF ?_
    repeat walk_at "k"
    exact e_all2 (p := true) (q := true) (e_clo q)

end K11

set_option Elab.async false
set_option linter.all false
set_option maxRecDepth 100000
set_option maxHeartbeats 3900000
namespace K11
open PySem PySem.Spec PyProof.Rows L2 G M
local macro_rules | `(tactic| walk_at "m") => `(tactic| first
  | (with_reducible refine' e_seq ?_)
  | ((with_reducible refine' e_var ?h ?_); (case h => exact rfl))
  | (with_reducible refine' e_c ?_)
  | (with_reducible refine' e_op ?_)
  | (with_reducible refine' e_asg ?_)
  | (with_reducible refine' e_gname ?_)
  | (with_reducible refine' e_ifS ?_)
  | (with_reducible refine' e_test ?_)
  | (with_reducible refine' e_bl ?_)
  | (with_reducible refine' e_cb ?_)
  | (with_reducible refine' e_cons ?_)
  | (with_reducible refine' e_nil ?_)
  | (with_reducible refine' e_call ?_)
  | (with_reducible refine' e_ret ?_)
  | (with_reducible refine' e_drop ?_)
  | (with_reducible refine' e_next ?_)
  | (with_reducible refine' e_andT ?_)
  | (with_reducible refine' e_orT ?_)
  | (with_reducible refine' e_notT ?_)
  | (with_reducible refine' e_andM ?_)
  | (with_reducible refine' e_orM ?_)
  | (with_reducible refine' e_notM ?_)
  | (with_reducible refine' e_ifM ?_)
  | (with_reducible refine' e_chain ?_)
  | (with_reducible refine' e_un ?_)
  | (with_reducible refine' e_lst ?_)
  | (with_reducible refine' e_lstO ?_)
  | (with_reducible refine' e_tup ?_)
  | (with_reducible refine' e_par ?_)
  | (with_reducible refine' e_raise ?_)
  | (with_reducible refine' e_for ?_)
  | (with_reducible refine' e_meth ?_)
  | (with_reducible refine' e_prop ?_)
  | (with_reducible refine' e_make ?_)
  | (with_reducible refine' e_fld ?_)
  | (with_reducible refine' e_sfld ?_)
  | (with_reducible refine' e_noPart ?_)
  | (with_reducible refine' e_part ?_)
  | (with_reducible refine' e_int ?_)
  | (with_reducible refine' e_sl ?_)
  | (with_reducible refine' e_bm ?_)
  | (with_reducible refine' e_bm0 ?_)
  | (with_reducible refine' e_m1 ?_)
  | (with_reducible refine' e_it ?_)
  | (with_reducible refine' e_rng1 ?_)
  | (with_reducible refine' e_lc ?_)
  | (with_reducible refine' e_caught ?_)
  | (with_reducible refine' e_two ?_)
  | (with_reducible refine' e_one ?_)
  | (with_reducible refine' e_ifT ?_)
  | (with_reducible refine' e_ifF ?_)
  | (with_reducible refine' e_ifNT ?_)
  | (with_reducible refine' e_ifNF ?_)
  | (with_reducible refine' e_yes ?_)
  | (with_reducible refine' e_turn ?_)
  | (with_reducible refine' e_js ?_)
  | (with_reducible refine' e_jsc ?_)
  | (with_reducible refine' e_jsn ?_)
  | (with_reducible refine' e_fmt ?_)
  | (with_reducible refine' e_leI ?_)
  | (with_reducible refine' e_ltI ?_)
  | (with_reducible refine' e_gtI ?_)
  | (with_reducible refine' e_geI ?_)
  | (with_reducible refine' e_ltS ?_)
  | (with_reducible refine' e_eqI ?_)
  | (with_reducible refine' e_eqS ?_)
  | (with_reducible refine' e_neI ?_)
  | (with_reducible refine' e_neS ?_)
  | (with_reducible refine' e_neB ?_)
  | (with_reducible refine' e_isB ?_)
  | (with_reducible refine' e_isntB ?_)
  | (with_reducible refine' e_addI ?_)
  | (with_reducible refine' e_subI ?_)
  | (with_reducible refine' e_int1 ?_)
  | (with_reducible refine' e_max2 ?_)
  | (with_reducible refine' e_min2 ?_)
  | (with_reducible refine' e_lenL ?_)
  | (with_reducible refine' e_lenT ?_)
  | (with_reducible refine' e_lenR ?_)
  | (with_reducible refine' e_modI (by decide) ?_))
local macro_rules | `(tactic| walk_at "k") => `(tactic| first
  | (with_reducible refine' e_itM ?_)
  | (with_reducible refine' e_itL ?_)
  | (with_reducible refine' e_itT ?_)
  | walk_at "m"
  | (with_reducible refine' e_itemsM ?_)
  | (with_reducible refine' e_valuesM ?_)
  | (with_reducible refine' e_itemsD ?_)
  | (with_reducible refine' e_valuesD ?_)
  | (with_reducible refine' e_dc ?_)
  | (with_reducible refine' e_turnK ?_)
  | (with_reducible refine' e_keyS ?_)
  | (with_reducible refine' e_newK ?_)
  | (with_reducible refine' e_lenD ?_)
  | (with_reducible refine' e_dict ?_)
  | (with_reducible refine' e_caseM ?_)
  | (with_reducible refine' e_dictC ?_)
  | (with_reducible refine' e_lkM ?_)
  | (with_reducible refine' e_dputM ?_)
  | (with_reducible refine' e_dnew ?_)
  | (with_reducible refine' e_ix0 ?_)
  | (with_reducible refine' e_ix1 ?_)
  | (with_reducible refine' e_ixL0 ?_)
  | (with_reducible refine' e_ixL1 ?_)
  | (with_reducible refine' e_ixL2 ?_)
  | (with_reducible refine' e_negI ?_)
  | (with_reducible refine' e_gtup2 ?_)
  | (with_reducible refine' e_gtup3n ?_)
  | (with_reducible refine' e_isN ?_)
  | (with_reducible refine' e_isntN ?_)
  | ((with_reducible refine' e_sz ?h ?_); (case h => exact rfl)))
variable {P : Program} {K : PySem.W.Frag} {mg : Str → Option Value} {T : Top P K mg} {c : SH} {Ψ : XD} {Φ : QD}
theorem s_take {i n : Nat} {m : Int} (hb : c[i]? = some (.box n)) (hn : n ≤ 1000000000) (h0 : 0 < m) (h1 : m < 1073741824) (q : ∀ d : Int, 0 ≤ d → d < m → Φ (.int d) (c.set i (.box (n + 1)))) : m_l_take T [.obj i, .int m] c Ψ Φ := ⟨i, n, m, rfl, hb, hn, h0, h1, q⟩
theorem s_mixed {i n : Nat} {xs : List Str} (hb : c[i]? = some (.box n)) (hn : n ≤ 100000000) (hl : xs.length ≤ 100) (q : ∀ ys : List Str, ys.Perm xs → Φ (.lst (ys.map .str)) (c.set i (.box (n + xs.length)))) : m_l_mixed T [.obj i, .lst (xs.map .str)] c Ψ Φ := by
  have hi := box_len hb
  refine e_fn (δ := [some _, some _, none, none]) rfl rfl ?_
  repeat walk_at "m"
  refine ⟨by rw [List.length_map]; exact len_le (by omega), e_ifT ?_⟩
  repeat walk_at "m"
  rw [List.length_map]
  refine ⟨⟨by omega, by omega⟩, ?_⟩
  rw [Int.toNat_natCast]
  refine lc_inv (fun rest acc c' => ∃ ys zs : List Str, acc = ys.map .str ∧ (ys ++ zs).Perm xs ∧ rest.length = zs.length ∧ c' = c.set i (.box (n + ys.length)) ++ [.lst (zs.map .str)]) (fun _ _ _ _ => trivial) ?_ ?_ _ _ _ ⟨[], xs, rfl, .refl _, by simp [rngD], by
    rw [show n + ([] : List Str).length = n from rfl]
    congr 1
    apply List.ext_getElem?
    intro j
    rw [List.getElem?_set]
    split
    · rename_i e; subst e; first | exact hb | (rw [if_pos hi]; exact hb) | (rw [hb, if_pos hi]) | (rw [hb])
    · rfl⟩
  · rintro x rest acc c' ⟨ys, zs, rfl, pm, hr, rfl⟩ k hk
    have lz : zs.length = rest.length + 1 := by simpa using hr.symm
    have ln : ys.length + zs.length = xs.length := by simpa using pm.length_eq
    refine ⟨by rw [List.length_map]; exact small1000 (by omega), ?_⟩
    have e1 : ∀ (m : Nat) (ws : List D), (c.set i (SO.box m) ++ [SO.lst ws])[c.length]? = some (.lst ws) := fun m ws => by
      rw [List.getElem?_append_right (by rw [List.length_set]; exact Nat.le_refl _), List.length_set, Nat.sub_self]
      rfl
    have e2 : ∀ (m : Nat) (ws : List D), view (c.set i (SO.box m) ++ [SO.lst ws]) (.obj c.length) = .lst ws := fun m ws => by
      unfold view
      dsimp only
      rw [e1]
    repeat walk_at "m"
    refine ⟨by rw [e2]; rfl, ?_⟩
    repeat walk_at "m"
    refine e_lenV (e2 _ _) ?_
    rw [List.length_map]
    repeat walk_at "m"
    have hb2 : (c.set i (SO.box (n + ys.length)) ++ [SO.lst (zs.map .str)])[i]? = some (.box (n + ys.length)) := by
      rw [List.getElem?_append_left (by rw [List.length_set]; exact hi)]
      exact box_set hb
    refine s_take hb2 (by omega) (by omega) (by omega) fun d d0 d1 => ?_
    have e3 : (c.set i (SO.box (n + ys.length)) ++ [SO.lst (zs.map .str)]).set i (.box (n + ys.length + 1)) = c.set i (.box (n + (ys.length + 1))) ++ [SO.lst (zs.map .str)] := by
      rw [List.set_append_left _ _ (by rw [List.length_set]; exact hi), List.set_set, Nat.add_assoc]
    rw [e3]
    repeat walk_at "m"
    have hz : d.toNat < zs.length := by omega
    refine e_popAt (y := .str zs[d.toNat]) (e1 _ _) d0 (by rw [List.length_map]; exact d1) (by rw [List.length_map]; omega) (by rw [List.getElem?_map, List.getElem?_eq_getElem hz]; rfl) ?_
    refine hk _ _ ⟨ys ++ [zs[d.toNat]], zs.eraseIdx d.toNat, by simp, ?_, ?_, ?_⟩
    · refine List.Perm.trans ?_ pm
      rw [List.append_assoc]
      exact List.Perm.append_left _ (erase_perm zs _ hz)
    · rw [List.length_eraseIdx, if_pos hz]; omega
    · rw [List.set_append_right _ _ (by rw [List.length_set]; exact Nat.le_refl _), List.length_set, Nat.sub_self, erase_map, List.length_append]
      rfl
  · rintro acc c' ⟨ys, zs, rfl, pm, hr, rfl⟩
    have ez : zs = [] := List.length_eq_zero_iff.mp hr.symm
    subst ez
    rw [List.append_nil] at pm
    refine e_ifF ?_
    have := q ys pm
    rw [← pm.length_eq] at this
    exact clo_box (nbL_strs _ ys) this
theorem s_names {i n m : Nat} (hb : c[i]? = some (.box n)) (hn : n ≤ 10000000) (hm : m ≤ 26) (q : ∀ (xs : List Str) (j : Nat), Good xs m → j ≤ n + 11 → Φ (.lst (xs.map .str)) (c.set i (.box j))) : m_l_names T [.obj i, .int (m : Int)] c Ψ Φ := by
  have big : (1000000 : Nat) ≤ sizeLine := by decide
  refine e_fn (δ := [some _, some _, none, none, none, none, none, none]) rfl rfl ?_
  repeat walk_at "m"
  refine s_take hb (by omega) (by decide) (by decide) fun wy w0 w1 => ?_
  repeat walk_at "m"
  refine s_take (box_set hb) (by omega) (by decide) (by decide) fun f f0 f1 => ?_
  rw [List.set_set]
  have hb2 : (c.set i (SO.box (n + 1 + 1)))[i]? = some (.box (n + 2)) := box_set hb
  generalize hc2 : c.set i (SO.box (n + 1 + 1)) = c2 at hb2
  have hl2 : c2.length = c.length := by rw [← hc2, List.length_set]
  have st2 : ∀ o : SO, c2.set i o = c.set i o := fun o => by rw [← hc2, List.set_set]
  repeat walk_at "m"
  refine ⟨lst2, ?_⟩
  refine e_gtup2 ?_
  repeat walk_at "m"
  refine ⟨rfl, ?_⟩
  repeat walk_at "m"
  refine ⟨⟨by decide, by decide⟩, ?_⟩
  refine lc_map (F := fun (i : Nat) => D.int (0 + (i : Int))) (f := fun (k : Nat) => some (.str (let1 (f + 5 * (k : Int))))) trivial (List.range 8) [] (by decide) (fun y hy kk hq => ?_) ?_
  · repeat walk_at "m"
    rw [Int.zero_add]
    refine e_mulI (cm5 y 5 (by decide) (by decide)) ?_
    repeat walk_at "m"
    exact e_ixS lettersOk (let1_at _) hq
  refine e_ifF ?_
  rw [List.nil_append, fm_some]
  refine e_joinE (by show 8 + 8 * 0 ≤ 16777216; decide) ?_
  have B := base8_of f
  generalize Txt.join (Str.ofString "") ((List.range 8).map fun (k : Nat) => let1 (f + 5 * (k : Int))) = bs at B
  have lb : bs.length ≤ sizeLine := by
    rw [len_cps, B.len]
    decide
  have fin : ∀ (xs : List Str) (j : Nat), Good xs m → j ≤ n + 11 → clo c Φ (.lst (xs.map .str)) (c.set i (.box j)) := fun xs j hg hj => e_cloL (by rw [List.length_set]) (q xs j hg hj)
  have mx : ∀ (xs : List Str) (Φ' : QD), xs.length ≤ 8 → (∀ ys : List Str, ys.Perm xs → Φ' (.lst (ys.map .str)) (c.set i (.box (n + 2 + xs.length)))) → ∀ Ψ, m_l_mixed T [.obj i, .lst (xs.map .str)] c2 Ψ Φ' := fun xs Φ' hx r Ψ => s_mixed hb2 (by omega) (by omega) fun ys hp => by rw [st2]; exact r ys hp
  have cs : (wy = 0 ∧ m < 9) ∨ (wy = 1 ∧ m < 9) ∨ (wy = 2 ∧ m < 9) ∨ wy = 3 ∨ wy = 4 ∨ (wy ≤ 2 ∧ 9 ≤ m) := by omega
  have ifd : ∀ {p : Prop} [Decidable p] {a b : Prop}, (p → a) → (¬ p → b) → (if decide p = true then a else b) := fun {p} _ {a b} h1 h2 => by
    by_cases h : p
    · rw [decide_eq_true h]; exact e_ifT (h1 h)
    · rw [decide_eq_false h]; exact e_ifF (h2 h)
  have lcut : ∀ x, 0 ≤ x → (cutS bs none (some x)).length ≤ 8 := fun x hx => by
    rw [len_cps, cut_to _ _ hx, List.length_take, B.len]
    omega
  rcases cs with g | g | g | g | g | g
  all_goals repeat' (first | walk_at "m" | (refine ifd (fun h => ?_) (fun h => ?_) <;> try (exfalso; omega)))
  · refine ⟨⟨by omega, by omega⟩, ?_⟩
    rw [Int.toNat_natCast]
    refine lc_map (F := fun (i : Nat) => D.int (0 + (i : Int))) (f := fun (k : Nat) => some (.str (cutS bs none (some ((k : Int) + 1))))) trivial (List.range m) [] (by rw [List.length_range]; show 0 + m < _; omega) (fun y hy kk hq => ?_) ?_
    · repeat walk_at "m"
      rw [Int.zero_add]
      exact e_slS lb hq
    refine e_ifF ?_
    rw [List.nil_append, fm_some]
    repeat walk_at "m"
    exact mx _ _ (by rw [(way0 B (show m ≤ 8 by omega)).len]; omega) (fun ys hp => fin ys _ ((way0 B (by omega)).perm hp) (by rw [(way0 B (show m ≤ 8 by omega)).len]; omega)) _
  · refine ⟨⟨by omega, by omega⟩, ?_⟩
    rw [Int.toNat_natCast]
    refine lc_map (F := fun (i : Nat) => D.int (0 + (i : Int))) (f := fun (k : Nat) => some (.str (Txt.mul (let1 f) ((k : Int) + 1)))) trivial (List.range m) [] (by rw [List.length_range]; show 0 + m < _; omega) (fun y hy kk hq => ?_) ?_
    · have hy2 := List.mem_range.mp hy
      repeat walk_at "m"
      refine e_ixS lettersOk (let1_self f0 f1) ?_
      repeat walk_at "m"
      rw [Int.zero_add]
      refine e_mulS ⟨by omega, by omega, ?_⟩ hq
      have : (let1 f).length = 1 := rfl
      show (let1 f).length * _ ≤ _
      rw [this]
      omega
    refine e_ifF ?_
    rw [List.nil_append, fm_some]
    repeat walk_at "m"
    exact mx _ _ (by rw [(way1 f (show m ≤ 8 by omega)).len]; omega) (fun ys hp => fin ys _ ((way1 f (by omega)).perm hp) (by rw [(way1 f (show m ≤ 8 by omega)).len]; omega)) _
  · refine ⟨by show 8 ≤ sizeLine; decide, ?_⟩
    repeat walk_at "m"
    refine mx eightS _ (by decide) (fun ys hp => ?_) _
    repeat walk_at "m"
    have ly : ys.length = 8 := hp.length_eq
    refine e_slL ?_ ?_
    · rw [cutD_to ys _ (by omega), List.length_map, List.length_take]; omega
    · rw [cutD_to ys _ (by omega), Int.toNat_natCast]
      exact fin _ _ ((eight_good.perm hp).take (by omega)) (by show n + 2 + 8 ≤ _; omega)
  all_goals refine s_take hb2 (by omega) (by decide) (by decide) fun sz z0 z1 => ?_
  all_goals rw [st2]
  all_goals repeat' (first | walk_at "m" | (refine ifd (fun h => ?_) (fun h => ?_) <;> try (exfalso; omega)))
  all_goals refine ⟨⟨by omega, by omega⟩, ?_⟩
  all_goals rw [Int.toNat_natCast]
  · refine lc_map (F := fun (i : Nat) => D.int (0 + (i : Int))) (f := fun (k : Nat) => some (.str (cutS bs none (some sz) ++ let1 (f + 7 * (k : Int))))) trivial (List.range m) [] (by rw [List.length_range]; show 0 + m < _; omega) (fun y hy kk hq => ?_) ?_
    · repeat walk_at "m"
      refine e_slS lb ?_
      repeat walk_at "m"
      rw [Int.zero_add]
      refine e_mulI (cm5 y 7 (by decide) (by decide)) ?_
      repeat walk_at "m"
      refine e_ixS lettersOk (let1_at _) ?_
      have := lcut sz z0
      have e1 : (let1 (f + 7 * (y : Int))).length = 1 := rfl
      exact e_addS (by show (cutS bs none (some sz)).length + (let1 (f + 7 * (y : Int))).length ≤ _; omega) hq
    refine e_ifF ?_
    rw [List.nil_append, fm_some]
    exact fin _ _ (way3 B f sz z0 z1 hm) (by omega)
  all_goals
    refine lc_map (F := fun (i : Nat) => D.int (0 + (i : Int))) (f := fun (k : Nat) => some (.str (let1 (f + 7 * (k : Int)) ++ cutS bs none (some (sz * ((k : Int).fmod 2)))))) trivial (List.range m) [] (by rw [List.length_range]; show 0 + m < _; omega) (fun y hy kk hq => ?_) ?_
    · repeat walk_at "m"
      rw [Int.zero_add]
      refine e_mulI (cm5 y 7 (by decide) (by decide)) ?_
      repeat walk_at "m"
      refine e_ixS lettersOk (let1_at _) ?_
      repeat walk_at "m"
      refine e_mulI (.inl ⟨by omega, by omega⟩) ?_
      repeat walk_at "m"
      refine e_slS lb ?_
      have e0 : 0 ≤ sz * ((y : Int).fmod 2) := Int.mul_nonneg z0 (fmod_lo _ (by decide))
      have := lcut _ e0
      have e1 : (let1 (f + 7 * (y : Int))).length = 1 := rfl
      exact e_addS (by show (let1 (f + 7 * (y : Int))).length + (cutS bs none (some (sz * ((y : Int).fmod 2)))).length ≤ _; omega) hq
    refine e_ifF ?_
    rw [List.nil_append, fm_some]
    exact fin _ _ (way4 B f sz z0 z1 hm) (by omega)
theorem s_cell {ns : List Int} {k : Nat} (hl : ns.length ≤ 63) (hk : k ≤ 100) (q : ∀ i : Int, Φ (.int i) c) : m_l_cell T [.scr (ns.map .int), .int (k : Int)] c Ψ Φ := ⟨ns, k, rfl, hl, hk, q⟩
theorem s_box {i : Int} (q : Φ (.obj c.length) (c ++ [.box 0])) : m_l_box T [.int i] c Ψ Φ := ⟨i, rfl, q⟩

end K11

set_option Elab.async false
set_option linter.all false
set_option maxRecDepth 100000
set_option maxHeartbeats 3900000
namespace K11
open PySem PySem.Spec PyProof.Rows L2 G M
local macro_rules | `(tactic| walk_at "m") => `(tactic| first
  | (with_reducible refine' e_seq ?_)
  | ((with_reducible refine' e_var ?h ?_); (case h => exact rfl))
  | (with_reducible refine' e_c ?_)
  | (with_reducible refine' e_op ?_)
  | (with_reducible refine' e_asg ?_)
  | (with_reducible refine' e_gname ?_)
  | (with_reducible refine' e_ifS ?_)
  | (with_reducible refine' e_test ?_)
  | (with_reducible refine' e_bl ?_)
  | (with_reducible refine' e_cb ?_)
  | (with_reducible refine' e_cons ?_)
  | (with_reducible refine' e_nil ?_)
  | (with_reducible refine' e_call ?_)
  | (with_reducible refine' e_ret ?_)
  | (with_reducible refine' e_drop ?_)
  | (with_reducible refine' e_next ?_)
  | (with_reducible refine' e_andT ?_)
  | (with_reducible refine' e_orT ?_)
  | (with_reducible refine' e_notT ?_)
  | (with_reducible refine' e_andM ?_)
  | (with_reducible refine' e_orM ?_)
  | (with_reducible refine' e_notM ?_)
  | (with_reducible refine' e_ifM ?_)
  | (with_reducible refine' e_chain ?_)
  | (with_reducible refine' e_un ?_)
  | (with_reducible refine' e_lst ?_)
  | (with_reducible refine' e_lstO ?_)
  | (with_reducible refine' e_tup ?_)
  | (with_reducible refine' e_par ?_)
  | (with_reducible refine' e_raise ?_)
  | (with_reducible refine' e_for ?_)
  | (with_reducible refine' e_meth ?_)
  | (with_reducible refine' e_prop ?_)
  | (with_reducible refine' e_make ?_)
  | (with_reducible refine' e_fld ?_)
  | (with_reducible refine' e_sfld ?_)
  | (with_reducible refine' e_noPart ?_)
  | (with_reducible refine' e_part ?_)
  | (with_reducible refine' e_int ?_)
  | (with_reducible refine' e_sl ?_)
  | (with_reducible refine' e_bm ?_)
  | (with_reducible refine' e_bm0 ?_)
  | (with_reducible refine' e_m1 ?_)
  | (with_reducible refine' e_it ?_)
  | (with_reducible refine' e_rng1 ?_)
  | (with_reducible refine' e_lc ?_)
  | (with_reducible refine' e_caught ?_)
  | (with_reducible refine' e_two ?_)
  | (with_reducible refine' e_one ?_)
  | (with_reducible refine' e_ifT ?_)
  | (with_reducible refine' e_ifF ?_)
  | (with_reducible refine' e_ifNT ?_)
  | (with_reducible refine' e_ifNF ?_)
  | (with_reducible refine' e_yes ?_)
  | (with_reducible refine' e_turn ?_)
  | (with_reducible refine' e_js ?_)
  | (with_reducible refine' e_jsc ?_)
  | (with_reducible refine' e_jsn ?_)
  | (with_reducible refine' e_fmt ?_)
  | (with_reducible refine' e_leI ?_)
  | (with_reducible refine' e_ltI ?_)
  | (with_reducible refine' e_gtI ?_)
  | (with_reducible refine' e_geI ?_)
  | (with_reducible refine' e_ltS ?_)
  | (with_reducible refine' e_eqI ?_)
  | (with_reducible refine' e_eqS ?_)
  | (with_reducible refine' e_neI ?_)
  | (with_reducible refine' e_neS ?_)
  | (with_reducible refine' e_neB ?_)
  | (with_reducible refine' e_isB ?_)
  | (with_reducible refine' e_isntB ?_)
  | (with_reducible refine' e_addI ?_)
  | (with_reducible refine' e_subI ?_)
  | (with_reducible refine' e_int1 ?_)
  | (with_reducible refine' e_max2 ?_)
  | (with_reducible refine' e_min2 ?_)
  | (with_reducible refine' e_lenL ?_)
  | (with_reducible refine' e_lenT ?_)
  | (with_reducible refine' e_lenR ?_)
  | (with_reducible refine' e_modI (by decide) ?_))
local macro_rules | `(tactic| walk_at "k") => `(tactic| first
  | (with_reducible refine' e_itM ?_)
  | (with_reducible refine' e_itL ?_)
  | (with_reducible refine' e_itT ?_)
  | walk_at "m"
  | (with_reducible refine' e_itemsM ?_)
  | (with_reducible refine' e_valuesM ?_)
  | (with_reducible refine' e_itemsD ?_)
  | (with_reducible refine' e_valuesD ?_)
  | (with_reducible refine' e_dc ?_)
  | (with_reducible refine' e_turnK ?_)
  | (with_reducible refine' e_keyS ?_)
  | (with_reducible refine' e_newK ?_)
  | (with_reducible refine' e_lenD ?_)
  | (with_reducible refine' e_dict ?_)
  | (with_reducible refine' e_caseM ?_)
  | (with_reducible refine' e_dictC ?_)
  | (with_reducible refine' e_lkM ?_)
  | (with_reducible refine' e_dputM ?_)
  | (with_reducible refine' e_dnew ?_)
  | (with_reducible refine' e_ix0 ?_)
  | (with_reducible refine' e_ix1 ?_)
  | (with_reducible refine' e_ixL0 ?_)
  | (with_reducible refine' e_ixL1 ?_)
  | (with_reducible refine' e_ixL2 ?_)
  | (with_reducible refine' e_negI ?_)
  | (with_reducible refine' e_gtup2 ?_)
  | (with_reducible refine' e_gtup3n ?_)
  | (with_reducible refine' e_isN ?_)
  | (with_reducible refine' e_isntN ?_)
  | ((with_reducible refine' e_sz ?h ?_); (case h => exact rfl)))
variable {P : Program} {K : PySem.W.Frag} {mg : Str → Option Value} {T : Top P K mg} {c : SH} {Ψ : XD} {Φ : QD}
abbrev Pt := Str × (Int × Int)
def ptD (p : Pt) : D := .tup [.int p.2.1, .int p.2.2]
def dicD (ps : List Pt) : List (Key × D) := ps.map fun p => (.inr p.1, ptD p)
def plD (T : Top P K mg) (ps : List Pt) : D := .ins T.C_Placing [("by_name", .dic (dicD ps))]
structure OkP (ps : List Pt) : Prop where
  nm : ∀ p ∈ ps, isName p.1 = true
  nd : (ps.map (·.1)).Nodup
  rg : ∀ p ∈ ps, inR p.2.1 ∧ inR p.2.2
  l1 : 1 ≤ ps.length
  l2 : ps.length ≤ 12
theorem lkB {x : D} : List.lookup ("by_name" : Str) [(("by_name" : Str), x)] = some x := by
  unfold List.lookup
  rw [show (("by_name" : Str) == ("by_name" : Str)) = true by decide +kernel]
theorem lkB0 {m : Str} {x : D} (h : (m == ("by_name" : Str)) = false) : List.lookup m [(("by_name" : Str), x)] = none := by
  unfold List.lookup
  rw [h]
  rfl
theorem f_by {ps : List Pt} (q : Φ (.dic (dicD ps)) c) : fldD T.C_Placing "by_name" (plD T ps) c Φ := by
  refine ⟨rfl, ?_⟩
  rw [lkB]
  exact q
theorem nbK_dic (n : Nat) : ∀ ps : List Pt, nbK n (dicD ps) = true
  | [] => rfl
  | p :: ps => by
    show (M.nb n (ptD p) && nbK n (dicD ps)) = true
    rw [nbK_dic n ps]
    rfl
theorem keys_dic : ∀ ps : List Pt, keysS (dicD ps) = some (ps.map (·.1))
  | [] => rfl
  | p :: ps => by
    show (keysS (dicD ps)).map (p.1 :: ·) = _
    rw [keys_dic ps]
    rfl
theorem len_dic (ps : List Pt) : (dicD ps).length = ps.length := List.length_map ..
theorem val_dic : ∀ {ps : List Pt} {p : Pt}, (ps.map (·.1)).Nodup → p ∈ ps → valD (dicD ps) (.inr p.1) = some (ptD p)
  | [], p, _, h => by cases h
  | q :: ps, p, nd, h => by
    obtain ⟨n1, n2⟩ := List.nodup_cons.mp nd
    unfold valD
    show Option.map _ (List.find? _ ((.inr q.1, ptD q) :: dicD ps)) = _
    rcases List.mem_cons.mp h with rfl | h
    · rw [List.find?_cons_of_pos (by simp)]
      rfl
    · have ne : q.1 ≠ p.1 := fun e => n1 (List.mem_map.mpr ⟨p, h, e.symm⟩)
      rw [List.find?_cons_of_neg (by simpa using ne)]
      exact val_dic n2 h
theorem put1 {x : D} : putFD "by_name" x [] = [(("by_name" : Str), x)] := rfl
theorem s_init {ps : List Pt} (o : OkP ps) (q : ∀ qs : List Pt, qs.Perm ps → sortedS (qs.map (·.1)) = true → Φ (plD T qs) c) : makeD false T.C_Placing (m_Placing_init T) [.dic (dicD ps)] c Ψ Φ := by
  have l1 := o.l1
  have l2 := o.l2
  refine e_fn (δ := [some _, some _, none, none]) rfl rfl ?_
  repeat walk_at "k"
  refine e_isi (isi_ty (b := true) rfl (kit_ty (by decide +kernel))) ?_
  repeat walk_at "k"
  rw [len_dic]
  refine e_ifdT (by omega) ?_
  repeat walk_at "k"
  rw [decide_eq_true (by omega)]
  repeat walk_at "k"
  refine for_inv (fun δ c' => c' = c ++ [SO.ins T.C_Placing []] ∧ ∃ u v, δ = [some (.obj c.length), some (.dic (dicD ps)), u, v]) _ ?_ ?_ _ _ ⟨rfl, _, _, rfl⟩
  · rintro x hx δ c' e' ⟨rfl, u, v, rfl⟩ nx _ _ _ _
    obtain ⟨kv, hk, rfl⟩ := List.mem_map.mp hx
    obtain ⟨p, hp, rfl⟩ := List.mem_map.mp hk
    refine ⟨trivial, ?_⟩
    show gtupM _ (.tup [.str p.1, ptD p]) _ _ _ _
    repeat walk_at "k"
    refine s_isname (lenName (o.nm p hp)) ?_
    rw [o.nm p hp]
    repeat walk_at "k"
    refine s_point (o.rg p hp).1 (o.rg p hp).2 ?_
    repeat walk_at "k"
    exact nx _ _ ⟨rfl, _, _, rfl⟩
  · rintro δ c' ⟨rfl, u, v, rfl⟩
    refine ⟨trivial, ?_⟩
    repeat walk_at "k"
    refine e_sortedK (keys_dic ps) (by rw [List.length_map]; omega) fun ys hp hs => ?_
    repeat walk_at "k"
    have hy : ∀ y ∈ ys, ∃ p ∈ ps, p.1 = y := fun y h => by
      obtain ⟨p, h1, h2⟩ := List.mem_map.mp (hp.mem_iff.mp h)
      exact ⟨p, h1, h2⟩
    have nd : ys.Nodup := hp.nodup_iff.mpr o.nd
    have ly : ys.length = ps.length := by rw [hp.length_eq, List.length_map]
    refine dc_map (F := D.str) (f := fun y => (.inr y, ptD (pick ps (0, 0) y))) ?_ ys [] ?_ (by show 0 + ys.length < sizeLine; exact lt_sz (by omega)) (fun y h kk hq => ?_) ?_
    · exact rfl
    · show (ys.map fun y => (Sum.inr y : Key)).Nodup
      exact List.Pairwise.map _ (fun a b h e => h (Sum.inr.inj e)) nd
    · obtain ⟨p, h1, rfl⟩ := hy y h
      repeat walk_at "k"
      refine e_dget (val_dic o.nd h1) ?_
      repeat walk_at "k"
      have e := pick_self (d := ((0 : Int), (0 : Int))) o.nd h1
      rw [e] at hq
      exact hq
    · repeat walk_at "k"
      have e : ([] : List (Key × D)) ++ ys.map (fun y => (Sum.inr y, ptD (pick ps (0, 0) y))) = dicD (ys.map (pick ps (0, 0))) := by
        unfold dicD
        rw [List.nil_append, List.map_map]
        exact List.map_congr_left fun y _ => by
          show _ = (Sum.inr (pick ps (0, 0) y).1, _)
          rw [pick_fst]
      rw [e]
      refine e_put (by decide) ?_
      show clo (c ++ [SO.ins T.C_Placing []]) (fun v c2 => v = .non ∧ clo c Φ (.obj c.length) c2) .non _
      refine e_cloL (by simp) ⟨rfl, ?_⟩
      rw [put1]
      refine clo_ins (by show (nbK _ (dicD _) && true) = true; rw [nbK_dic]; rfl) (q _ ?_ ?_)
      · have := hp.map (pick ps (0, 0))
        rw [pick_map o.nd] at this
        exact this
      · rw [keys_map]
        exact hs
theorem OkP.perm {ps qs : List Pt} (o : OkP ps) (p : qs.Perm ps) : OkP qs := ⟨fun x h => o.nm x (p.mem_iff.mp h), (p.map _).nodup_iff.mpr o.nd, fun x h => o.rg x (p.mem_iff.mp h), by rw [p.length_eq]; exact o.l1, by rw [p.length_eq]; exact o.l2⟩
/-- made of a dict that is sorted -/
theorem s_initS {ps : List Pt} (o : OkP ps) (hs : sortedS (ps.map (·.1)) = true) (q : Φ (plD T ps) c) : makeD false T.C_Placing (m_Placing_init T) [.dic (dicD ps)] c Ψ Φ :=
  s_init o fun qs hp h => by rw [byname_one (d := (0, 0)) o.nd hp h hs]; exact q
theorem s_points {ps : List Pt} (q : Φ (.dic (dicD ps)) c) : m_Placing_points T [plD T ps] c Ψ Φ := by
  refine e_fn (δ := [some _]) rfl rfl ?_
  repeat walk_at "k"
  refine f_by ?_
  repeat walk_at "k"
  exact e_clo q
/-! == -/
def pyP (ps : List Pt) : List (Key × PyData) := ps.map fun p => (.inr p.1, .tuple [.int p.2.1, .int p.2.2])
theorem shI (x y : Int) : SeqAt.shaped (.tuple [.int x, .int y]) = true := by rfl
theorem pyK_dic : ∀ ps : List Pt, pyK c (dicD ps) = some (pyP ps)
  | [] => rfl
  | p :: ps => by
    show (match pyC c (ptD p), pyK c (dicD ps) with
      | some q, some qs => if SeqAt.shaped q = true then some ((Sum.inr p.1, q) :: qs) else none
      | _, _ => none) = _
    rw [pyK_dic ps, show pyC c (ptD p) = some (.tuple [.int p.2.1, .int p.2.2]) from rfl]
    show (if SeqAt.shaped (.tuple [.int p.2.1, .int p.2.2]) = true then _ else _) = _
    rw [if_pos (shI _ _)]
    rfl
theorem look_py : ∀ {ps : List Pt} {p : Pt}, (ps.map (·.1)).Nodup → p ∈ ps → lookP (pyP ps) (.inr p.1) = some (.tuple [.int p.2.1, .int p.2.2])
  | [], p, _, h => by cases h
  | q :: ps, p, nd, h => by
    obtain ⟨n1, n2⟩ := List.nodup_cons.mp nd
    unfold lookP
    show Option.map _ (List.find? _ ((.inr q.1, _) :: pyP ps)) = _
    rcases List.mem_cons.mp h with rfl | h
    · rw [List.find?_cons_of_pos (by simp)]
      rfl
    · have ne : q.1 ≠ p.1 := fun e => n1 (List.mem_map.mpr ⟨p, h, e.symm⟩)
      rw [List.find?_cons_of_neg (by simpa using ne)]
      exact look_py n2 h
theorem hits_py {ps : List Pt} (nd : (ps.map (·.1)).Nodup) : ∀ qs : List Pt, (∀ q ∈ qs, q ∈ ps) → hitsB (pyP ps) (pyP qs) = true
  | [], _ => rfl
  | q :: qs, h => by
    show (match lookP (pyP ps) (.inr q.1) with
      | some y => PyData.eqv (.tuple [.int q.2.1, .int q.2.2]) y && hitsB (pyP ps) (pyP qs)
      | none => false) = true
    rw [look_py nd (h q List.mem_cons_self), hits_py nd qs fun r hr => h r (List.mem_cons_of_mem _ hr)]
    simp [PyData.eqv, PyData.eqvAll]
theorem e_eqP {fin : Bool → Bool} {ps qs : List Pt} (nd : (ps.map (·.1)).Nodup) (p : qs.Perm ps) (q : Φ (.bl (fin true)) c) : eqKD fin (.dic (dicD qs)) (.dic (dicD ps)) c Φ := by
  unfold eqKD
  show (match pyK c (dicD qs), pyK c (dicD ps) with
    | some kp, some lp => Φ (.bl (fin (eqK kp lp))) c
    | _, _ => False)
  rw [pyK_dic, pyK_dic]
  have e : eqK (pyP qs) (pyP ps) = true := by
    unfold eqK
    rw [hits_py nd qs fun r hr => p.mem_iff.mp hr, show ((pyP qs).length == (pyP ps).length) = true by simp [pyP, p.length_eq]]
    rfl
  show Φ (.bl (fin (eqK (pyP qs) (pyP ps)))) c
  rw [e]
  exact q
theorem isiP {ps : List Pt} : Isi K c (plD T ps) (.ref T.C_Placing) true := isi_ins rfl T.ik_Placing kit_self
theorem s_eqP {ps qs : List Pt} (nd : (ps.map (·.1)).Nodup) (p : qs.Perm ps) (q : Φ (.bl true) c) : m_Placing_eq T [plD T qs, plD T ps] c Ψ Φ := by
  refine e_fn (δ := [some _, some _]) rfl rfl ?_
  repeat walk_at "k"
  refine e_isiC isiP ?_
  repeat walk_at "k"
  refine f_by ?_
  repeat walk_at "k"
  refine f_by (.inr (e_eqP nd p ?_))
  exact e_clo q

end K11

set_option Elab.async false
set_option linter.all false
set_option maxRecDepth 100000
set_option maxHeartbeats 3900000
namespace K11
open PySem PySem.Spec PyProof.Rows L2 G M
local macro_rules | `(tactic| walk_at "m") => `(tactic| first
  | (with_reducible refine' e_seq ?_)
  | ((with_reducible refine' e_var ?h ?_); (case h => exact rfl))
  | (with_reducible refine' e_c ?_)
  | (with_reducible refine' e_op ?_)
  | (with_reducible refine' e_asg ?_)
  | (with_reducible refine' e_gname ?_)
  | (with_reducible refine' e_ifS ?_)
  | (with_reducible refine' e_test ?_)
  | (with_reducible refine' e_bl ?_)
  | (with_reducible refine' e_cb ?_)
  | (with_reducible refine' e_cons ?_)
  | (with_reducible refine' e_nil ?_)
  | (with_reducible refine' e_call ?_)
  | (with_reducible refine' e_ret ?_)
  | (with_reducible refine' e_drop ?_)
  | (with_reducible refine' e_next ?_)
  | (with_reducible refine' e_andT ?_)
  | (with_reducible refine' e_orT ?_)
  | (with_reducible refine' e_notT ?_)
  | (with_reducible refine' e_andM ?_)
  | (with_reducible refine' e_orM ?_)
  | (with_reducible refine' e_notM ?_)
  | (with_reducible refine' e_ifM ?_)
  | (with_reducible refine' e_chain ?_)
  | (with_reducible refine' e_un ?_)
  | (with_reducible refine' e_lst ?_)
  | (with_reducible refine' e_lstO ?_)
  | (with_reducible refine' e_tup ?_)
  | (with_reducible refine' e_par ?_)
  | (with_reducible refine' e_raise ?_)
  | (with_reducible refine' e_for ?_)
  | (with_reducible refine' e_meth ?_)
  | (with_reducible refine' e_prop ?_)
  | (with_reducible refine' e_make ?_)
  | (with_reducible refine' e_fld ?_)
  | (with_reducible refine' e_sfld ?_)
  | (with_reducible refine' e_noPart ?_)
  | (with_reducible refine' e_part ?_)
  | (with_reducible refine' e_int ?_)
  | (with_reducible refine' e_sl ?_)
  | (with_reducible refine' e_bm ?_)
  | (with_reducible refine' e_bm0 ?_)
  | (with_reducible refine' e_m1 ?_)
  | (with_reducible refine' e_it ?_)
  | (with_reducible refine' e_rng1 ?_)
  | (with_reducible refine' e_lc ?_)
  | (with_reducible refine' e_caught ?_)
  | (with_reducible refine' e_two ?_)
  | (with_reducible refine' e_one ?_)
  | (with_reducible refine' e_ifT ?_)
  | (with_reducible refine' e_ifF ?_)
  | (with_reducible refine' e_ifNT ?_)
  | (with_reducible refine' e_ifNF ?_)
  | (with_reducible refine' e_yes ?_)
  | (with_reducible refine' e_turn ?_)
  | (with_reducible refine' e_js ?_)
  | (with_reducible refine' e_jsc ?_)
  | (with_reducible refine' e_jsn ?_)
  | (with_reducible refine' e_fmt ?_)
  | (with_reducible refine' e_leI ?_)
  | (with_reducible refine' e_ltI ?_)
  | (with_reducible refine' e_gtI ?_)
  | (with_reducible refine' e_geI ?_)
  | (with_reducible refine' e_ltS ?_)
  | (with_reducible refine' e_eqI ?_)
  | (with_reducible refine' e_eqS ?_)
  | (with_reducible refine' e_neI ?_)
  | (with_reducible refine' e_neS ?_)
  | (with_reducible refine' e_neB ?_)
  | (with_reducible refine' e_isB ?_)
  | (with_reducible refine' e_isntB ?_)
  | (with_reducible refine' e_addI ?_)
  | (with_reducible refine' e_subI ?_)
  | (with_reducible refine' e_int1 ?_)
  | (with_reducible refine' e_max2 ?_)
  | (with_reducible refine' e_min2 ?_)
  | (with_reducible refine' e_lenL ?_)
  | (with_reducible refine' e_lenT ?_)
  | (with_reducible refine' e_lenR ?_)
  | (with_reducible refine' e_modI (by decide) ?_))
local macro_rules | `(tactic| walk_at "k") => `(tactic| first
  | (with_reducible refine' e_itM ?_)
  | (with_reducible refine' e_itL ?_)
  | (with_reducible refine' e_itT ?_)
  | walk_at "m"
  | (with_reducible refine' e_itemsM ?_)
  | (with_reducible refine' e_valuesM ?_)
  | (with_reducible refine' e_itemsD ?_)
  | (with_reducible refine' e_valuesD ?_)
  | (with_reducible refine' e_dc ?_)
  | (with_reducible refine' e_turnK ?_)
  | (with_reducible refine' e_keyS ?_)
  | (with_reducible refine' e_newK ?_)
  | (with_reducible refine' e_lenD ?_)
  | (with_reducible refine' e_dict ?_)
  | (with_reducible refine' e_caseM ?_)
  | (with_reducible refine' e_dictC ?_)
  | (with_reducible refine' e_lkM ?_)
  | (with_reducible refine' e_dputM ?_)
  | (with_reducible refine' e_dnew ?_)
  | (with_reducible refine' e_ix0 ?_)
  | (with_reducible refine' e_ix1 ?_)
  | (with_reducible refine' e_ixL0 ?_)
  | (with_reducible refine' e_ixL1 ?_)
  | (with_reducible refine' e_ixL2 ?_)
  | (with_reducible refine' e_negI ?_)
  | (with_reducible refine' e_gtup2 ?_)
  | (with_reducible refine' e_gtup3n ?_)
  | (with_reducible refine' e_isN ?_)
  | (with_reducible refine' e_isntN ?_)
  | ((with_reducible refine' e_sz ?h ?_); (case h => exact rfl)))
variable {P : Program} {K : PySem.W.Frag} {mg : Str → Option Value} {T : Top P K mg} {c : SH} {Ψ : XD} {Φ : QD}
def mapP (f : Int × Int → Int × Int) (ps : List Pt) : List Pt := ps.map fun p => (p.1, f p.2)
theorem mapP_keys (f : Int × Int → Int × Int) (ps : List Pt) : (mapP f ps).map (·.1) = ps.map (·.1) := by unfold mapP; rw [List.map_map]; rfl
theorem mapP_map (f g : Int × Int → Int × Int) (ps : List Pt) : mapP f (mapP g ps) = mapP (fun p => f (g p)) ps := by unfold mapP; rw [List.map_map]; rfl
theorem mapP_perm (f : Int × Int → Int × Int) {ps qs : List Pt} (h : qs.Perm ps) : (mapP f qs).Perm (mapP f ps) := h.map _
theorem items_dic (ps : List Pt) : (dicD ps).map (fun kv => D.tup [keyOD kv.1, kv.2]) = ps.map fun p => .tup [.str p.1, ptD p] := by unfold dicD; rw [List.map_map]; rfl
theorem values_dic (ps : List Pt) : (dicD ps).map (·.2) = ps.map ptD := by unfold dicD; rw [List.map_map]; rfl
theorem OkP.map {ps : List Pt} (o : OkP ps) (f : Int × Int → Int × Int) (h : ∀ p ∈ ps, inR (f p.2).1 ∧ inR (f p.2).2) : OkP (mapP f ps) where
  nm p hp := by obtain ⟨q, hq, rfl⟩ := List.mem_map.mp hp; exact o.nm q hq
  nd := by rw [mapP_keys]; exact o.nd
  rg p hp := by obtain ⟨q, hq, rfl⟩ := List.mem_map.mp hp; exact h q hq
  l1 := by rw [mapP, List.length_map]; exact o.l1
  l2 := by rw [mapP, List.length_map]; exact o.l2
/-- {name: (.., ..) for name, (x, y) in d.items()} -/
theorem dc_pts {turn : D → SH → (Option (Key × D) → SH → Prop) → Prop} {ΦK : List (Key × D) → SH → Prop} {ps : List Pt} (f : Int × Int → Int × Int) (nd : (ps.map (·.1)).Nodup) (hl : ps.length ≤ 12)
    (step : ∀ p ∈ ps, ∀ kk, kk (some (.inr p.1, .tup [.int (f p.2).1, .int (f p.2).2])) c → turn (.tup [.str p.1, .tup [.int p.2.1, .int p.2.2]]) c kk) (q : ΦK (dicD (mapP f ps)) c) : dcD (fun _ => True) turn ((dicD ps).map fun kv => .tup [keyOD kv.1, kv.2]) [] c ΦK := by
  rw [items_dic]
  refine dc_map (F := fun p : Pt => D.tup [.str p.1, ptD p]) (f := fun p : Pt => (.inr p.1, .tup [.int (f p.2).1, .int (f p.2).2])) trivial ps [] ?_ (by show 0 + ps.length < sizeLine; exact lt_sz (by omega)) step ?_
  · show (ps.map fun y => (Sum.inr y.1 : Key)).Nodup
    have : (ps.map fun y => (Sum.inr y.1 : Key)) = (ps.map (·.1)).map Sum.inr := by rw [List.map_map]; rfl
    rw [this]
    exact List.Pairwise.map _ (fun a b h e => h (Sum.inr.inj e)) nd
  · rw [List.nil_append]
    have : ps.map (fun p : Pt => ((Sum.inr p.1 : Key), D.tup [.int (f p.2).1, .int (f p.2).2])) = dicD (mapP f ps) := by unfold dicD mapP; rw [List.map_map]; rfl
    rw [this]
    exact q
abbrev fT : Int × Int → Int × Int := fun p => (-p.2, p.1)
abbrev fM : Int × Int → Int × Int := fun p => (-p.1, p.2)
theorem inR_neg {x : Int} (h : inR x) : inR (-x) := by unfold inR at *; omega
theorem s_turned {ps : List Pt} (o : OkP ps) (hs : sortedS (ps.map (·.1)) = true) (q : Φ (plD T (mapP fT ps)) c) : m_Placing_turned T [plD T ps] c Ψ Φ := by
  refine e_fn (δ := [some _, none, none, none]) rfl rfl ?_
  repeat walk_at "k"
  refine f_by ?_
  repeat walk_at "k"
  refine dc_pts fT o.nd o.l2 (fun p hp kk hq => ?_) ?_
  · repeat walk_at "k"
    exact hq
  · repeat walk_at "k"
    exact s_initS (o.map fT fun p hp => ⟨inR_neg (o.rg p hp).2, (o.rg p hp).1⟩) (by rw [mapP_keys]; exact hs) (e_clo q)
theorem s_mirrored {ps : List Pt} (o : OkP ps) (hs : sortedS (ps.map (·.1)) = true) (q : Φ (plD T (mapP fM ps)) c) : m_Placing_mirrored T [plD T ps] c Ψ Φ := by
  refine e_fn (δ := [some _, none, none, none]) rfl rfl ?_
  repeat walk_at "k"
  refine f_by ?_
  repeat walk_at "k"
  refine dc_pts fM o.nd o.l2 (fun p hp kk hq => ?_) ?_
  · repeat walk_at "k"
    exact hq
  · repeat walk_at "k"
    exact s_initS (o.map fM fun p hp => ⟨inR_neg (o.rg p hp).1, (o.rg p hp).2⟩) (by rw [mapP_keys]; exact hs) (e_clo q)
/-! the first coordinate out of range -/
instance (x : Int) : Decidable (inR x) := by unfold inR; infer_instance
def badP (p : Pt) : Bool := !(decide (inR p.2.1) && decide (inR p.2.2))
def badC (p : Pt) : Int := if inR p.2.1 then p.2.2 else p.2.1
def firstOut (ps : List Pt) : Option Int := (ps.find? badP).map badC
theorem chain_in {x : Int} {ΦT : Bool → SH → Prop} (q : ΦT (!decide (inR x)) c) : (if decide (-1000 ≤ x) = true then ΦT (!decide (x ≤ 1000)) c else ΦT (!false) c) := by
  refine e_ifd (fun h => ?_) (fun h => ?_)
  · have : decide (inR x) = decide (x ≤ 1000) := by unfold inR; simp [h]
    rw [this] at q
    exact q
  · have : decide (inR x) = false := by unfold inR; simp [h]
    rw [this] at q
    exact q
theorem s_placed {ps qs : List Pt} (h1 : ∀ p ∈ ps, isName p.1 = true) (nd : (ps.map (·.1)).Nodup) (l1 : 1 ≤ ps.length) (l2 : ps.length ≤ 12) (hs : sortedS (ps.map (·.1)) = true)
    (bad : ∀ v, firstOut ps = some v → Ψ T.C_OutOfRange "value" (.int v) c) (good : firstOut ps = none → OkP ps → Φ (plD T ps) c) : m_Placing_placed T [plD T qs, .dic (dicD ps)] c Ψ Φ := by
  refine e_fn (δ := [some _, some _, none, none]) rfl rfl ?_
  repeat walk_at "k"
  rw [values_dic]
  refine for_until ptD (fun δ c' => c' = c ∧ ∃ u v, δ = [some (plD T qs), some (.dic (dicD ps)), u, v]) badP ps ?_ ?_ ?_ _ _ ⟨rfl, _, _, rfl⟩
  · rintro p hp hR δ c' e' ⟨rfl, u, v, rfl⟩ nx _ _
    have hb : inR p.2.1 ∧ inR p.2.2 := by unfold badP at hR; simpa using hR
    refine ⟨trivial, ?_⟩
    repeat walk_at "k"
    refine e_itT (xs := [.int p.2.1, .int p.2.2]) ?_
    refine ⟨rfl, ?_⟩
    repeat walk_at "k"
    refine e_ifdT hb.1.1 ?_
    repeat walk_at "k"
    rw [decide_eq_true hb.1.2]
    repeat walk_at "k"
    refine ⟨rfl, ?_⟩
    repeat walk_at "k"
    refine e_ifdT hb.2.1 ?_
    repeat walk_at "k"
    rw [decide_eq_true hb.2.2]
    repeat walk_at "k"
    exact ⟨rfl, nx _ _ ⟨rfl, _, _, rfl⟩⟩
  · rintro p hp δ c' e' ⟨rfl, u, v, rfl⟩ _ xc
    have hb := List.find?_some hp
    have bad' : Ψ T.C_OutOfRange "value" (.int (badC p)) c' := bad _ (by unfold firstOut; rw [hp]; rfl)
    refine ⟨trivial, ?_⟩
    repeat walk_at "k"
    refine e_itT (xs := [.int p.2.1, .int p.2.2]) ?_
    refine ⟨rfl, ?_⟩
    repeat walk_at "k"
    have done : ∀ (δ : M.Env) (x : Int), badC p = x → e'.xc T.C_OutOfRange "value" (.int x) δ c' := fun δ x hx => by
      rw [xc, ← hx]
      exact e_clo bad'
    by_cases hx : inR p.2.1
    · refine e_ifdT hx.1 ?_
      repeat walk_at "k"
      rw [decide_eq_true hx.2]
      repeat walk_at "k"
      refine ⟨rfl, ?_⟩
      repeat walk_at "k"
      have hy : ¬ inR p.2.2 := fun hy => by unfold badP at hb; simp [hx, hy] at hb
      have e : badC p = p.2.2 := by unfold badC; rw [if_pos hx]
      refine e_ifd (fun h => ?_) (fun h => ?_)
      · repeat walk_at "k"
        rw [decide_eq_false (fun z => hy ⟨h, z⟩)]
        repeat walk_at "k"
        exact done _ _ e
      · repeat walk_at "k"
        exact done _ _ e
    · have e : badC p = p.2.1 := by unfold badC; rw [if_neg hx]
      refine e_ifd (fun h => ?_) (fun h => ?_)
      · repeat walk_at "k"
        rw [decide_eq_false (fun z => hx ⟨h, z⟩)]
        repeat walk_at "k"
        exact done _ _ e
      · repeat walk_at "k"
        exact done _ _ e
  · rintro hn δ c' ⟨rfl, u, v, rfl⟩
    have o : OkP ps := ⟨h1, nd, fun p hp => by
      have := List.find?_eq_none.mp hn p hp
      unfold badP at this
      simpa using this, l1, l2⟩
    refine ⟨trivial, ?_⟩
    repeat walk_at "k"
    exact s_initS o hs (e_clo (good (by unfold firstOut; rw [hn]; rfl) o))

end K11

set_option Elab.async false
set_option linter.all false
set_option maxRecDepth 100000
set_option maxHeartbeats 3900000
namespace K11
open PySem PySem.Spec PyProof.Rows L2 G M
local macro_rules | `(tactic| walk_at "m") => `(tactic| first
  | (with_reducible refine' e_seq ?_)
  | ((with_reducible refine' e_var ?h ?_); (case h => exact rfl))
  | (with_reducible refine' e_c ?_)
  | (with_reducible refine' e_op ?_)
  | (with_reducible refine' e_asg ?_)
  | (with_reducible refine' e_gname ?_)
  | (with_reducible refine' e_ifS ?_)
  | (with_reducible refine' e_test ?_)
  | (with_reducible refine' e_bl ?_)
  | (with_reducible refine' e_cb ?_)
  | (with_reducible refine' e_cons ?_)
  | (with_reducible refine' e_nil ?_)
  | (with_reducible refine' e_call ?_)
  | (with_reducible refine' e_ret ?_)
  | (with_reducible refine' e_drop ?_)
  | (with_reducible refine' e_next ?_)
  | (with_reducible refine' e_andT ?_)
  | (with_reducible refine' e_orT ?_)
  | (with_reducible refine' e_notT ?_)
  | (with_reducible refine' e_andM ?_)
  | (with_reducible refine' e_orM ?_)
  | (with_reducible refine' e_notM ?_)
  | (with_reducible refine' e_ifM ?_)
  | (with_reducible refine' e_chain ?_)
  | (with_reducible refine' e_un ?_)
  | (with_reducible refine' e_lst ?_)
  | (with_reducible refine' e_lstO ?_)
  | (with_reducible refine' e_tup ?_)
  | (with_reducible refine' e_par ?_)
  | (with_reducible refine' e_raise ?_)
  | (with_reducible refine' e_for ?_)
  | (with_reducible refine' e_meth ?_)
  | (with_reducible refine' e_prop ?_)
  | (with_reducible refine' e_make ?_)
  | (with_reducible refine' e_fld ?_)
  | (with_reducible refine' e_sfld ?_)
  | (with_reducible refine' e_noPart ?_)
  | (with_reducible refine' e_part ?_)
  | (with_reducible refine' e_int ?_)
  | (with_reducible refine' e_sl ?_)
  | (with_reducible refine' e_bm ?_)
  | (with_reducible refine' e_bm0 ?_)
  | (with_reducible refine' e_m1 ?_)
  | (with_reducible refine' e_it ?_)
  | (with_reducible refine' e_rng1 ?_)
  | (with_reducible refine' e_lc ?_)
  | (with_reducible refine' e_caught ?_)
  | (with_reducible refine' e_two ?_)
  | (with_reducible refine' e_one ?_)
  | (with_reducible refine' e_ifT ?_)
  | (with_reducible refine' e_ifF ?_)
  | (with_reducible refine' e_ifNT ?_)
  | (with_reducible refine' e_ifNF ?_)
  | (with_reducible refine' e_yes ?_)
  | (with_reducible refine' e_turn ?_)
  | (with_reducible refine' e_js ?_)
  | (with_reducible refine' e_jsc ?_)
  | (with_reducible refine' e_jsn ?_)
  | (with_reducible refine' e_fmt ?_)
  | (with_reducible refine' e_leI ?_)
  | (with_reducible refine' e_ltI ?_)
  | (with_reducible refine' e_gtI ?_)
  | (with_reducible refine' e_geI ?_)
  | (with_reducible refine' e_ltS ?_)
  | (with_reducible refine' e_eqI ?_)
  | (with_reducible refine' e_eqS ?_)
  | (with_reducible refine' e_neI ?_)
  | (with_reducible refine' e_neS ?_)
  | (with_reducible refine' e_neB ?_)
  | (with_reducible refine' e_isB ?_)
  | (with_reducible refine' e_isntB ?_)
  | (with_reducible refine' e_addI ?_)
  | (with_reducible refine' e_subI ?_)
  | (with_reducible refine' e_int1 ?_)
  | (with_reducible refine' e_max2 ?_)
  | (with_reducible refine' e_min2 ?_)
  | (with_reducible refine' e_lenL ?_)
  | (with_reducible refine' e_lenT ?_)
  | (with_reducible refine' e_lenR ?_)
  | (with_reducible refine' e_modI (by decide) ?_))
local macro_rules | `(tactic| walk_at "k") => `(tactic| first
  | (with_reducible refine' e_itM ?_)
  | (with_reducible refine' e_itL ?_)
  | (with_reducible refine' e_itT ?_)
  | walk_at "m"
  | (with_reducible refine' e_itemsM ?_)
  | (with_reducible refine' e_valuesM ?_)
  | (with_reducible refine' e_itemsD ?_)
  | (with_reducible refine' e_valuesD ?_)
  | (with_reducible refine' e_dc ?_)
  | (with_reducible refine' e_turnK ?_)
  | (with_reducible refine' e_keyS ?_)
  | (with_reducible refine' e_newK ?_)
  | (with_reducible refine' e_lenD ?_)
  | (with_reducible refine' e_dict ?_)
  | (with_reducible refine' e_caseM ?_)
  | (with_reducible refine' e_dictC ?_)
  | (with_reducible refine' e_lkM ?_)
  | (with_reducible refine' e_dputM ?_)
  | (with_reducible refine' e_dnew ?_)
  | (with_reducible refine' e_ix0 ?_)
  | (with_reducible refine' e_ix1 ?_)
  | (with_reducible refine' e_ixL0 ?_)
  | (with_reducible refine' e_ixL1 ?_)
  | (with_reducible refine' e_ixL2 ?_)
  | (with_reducible refine' e_negI ?_)
  | (with_reducible refine' e_gtup2 ?_)
  | (with_reducible refine' e_gtup3n ?_)
  | (with_reducible refine' e_isN ?_)
  | (with_reducible refine' e_isntN ?_)
  | ((with_reducible refine' e_sz ?h ?_); (case h => exact rfl)))
variable {P : Program} {K : PySem.W.Frag} {mg : Str → Option Value} {T : Top P K mg} {c : SH} {Ψ : XD} {Φ : QD}
theorem i_placed {ps : List Pt} {p : Prop} (h : p) : insD T.C_Placing "placed" (plD T ps) c p := ⟨rfl, lkB0 (by decide +kernel), h⟩
theorem i_points {ps : List Pt} {p : Prop} (h : p) : insD T.C_Placing "points" (plD T ps) c p := ⟨rfl, lkB0 (by decide +kernel), h⟩
theorem i_moved {ps : List Pt} {p : Prop} (h : p) : insD T.C_Placing "moved" (plD T ps) c p := ⟨rfl, lkB0 (by decide +kernel), h⟩
theorem i_stretched {ps : List Pt} {p : Prop} (h : p) : insD T.C_Placing "stretched" (plD T ps) c p := ⟨rfl, lkB0 (by decide +kernel), h⟩
theorem i_turned {ps : List Pt} {p : Prop} (h : p) : insD T.C_Placing "turned" (plD T ps) c p := ⟨rfl, lkB0 (by decide +kernel), h⟩
theorem i_mirrored {ps : List Pt} {p : Prop} (h : p) : insD T.C_Placing "mirrored" (plD T ps) c p := ⟨rfl, lkB0 (by decide +kernel), h⟩
abbrev fS (dx dy : Int) : Int × Int → Int × Int := fun p => (p.1 + dx, p.2 + dy)
abbrev fK (k : Int) : Int × Int → Int × Int := fun p => (k * p.1, k * p.2)
structure OkS (ps : List Pt) : Prop extends OkP ps where
  so : sortedS (ps.map (·.1)) = true
theorem OkS.placed {ps qs : List Pt} (o : OkS ps) (f : Int × Int → Int × Int) {Ψ : XD} {Φ : QD} (bad : ∀ v, firstOut (mapP f ps) = some v → Ψ T.C_OutOfRange "value" (.int v) c) (good : firstOut (mapP f ps) = none → OkS (mapP f ps) → Φ (plD T (mapP f ps)) c) : m_Placing_placed T [plD T qs, .dic (dicD (mapP f ps))] c Ψ Φ :=
  s_placed (fun p hp => by obtain ⟨q, hq, rfl⟩ := List.mem_map.mp hp; exact o.nm q hq) (by rw [mapP_keys]; exact o.nd) (by rw [mapP, List.length_map]; exact o.l1) (by rw [mapP, List.length_map]; exact o.l2) (by rw [mapP_keys]; exact o.so) bad fun h p => good h ⟨p, by rw [mapP_keys]; exact o.so⟩
theorem s_moved {ps : List Pt} {dx dy : Int} (o : OkS ps) (bad : ∀ v, firstOut (mapP (fS dx dy) ps) = some v → Ψ T.C_OutOfRange "value" (.int v) c) (good : firstOut (mapP (fS dx dy) ps) = none → OkS (mapP (fS dx dy) ps) → Φ (plD T (mapP (fS dx dy) ps)) c) : m_Placing_moved T [plD T ps, .int dx, .int dy] c Ψ Φ := by
  refine e_fn (δ := [some _, some _, some _, none, none, none, none]) rfl rfl ?_
  repeat walk_at "k"
  refine ⟨rfl, ?_⟩
  repeat walk_at "k"
  refine s_whole ?_
  repeat walk_at "k"
  refine ⟨rfl, ?_⟩
  repeat walk_at "k"
  refine s_whole ?_
  repeat walk_at "k"
  refine ⟨rfl, ?_⟩
  repeat walk_at "k"
  refine i_placed ?_
  repeat walk_at "k"
  refine f_by ?_
  repeat walk_at "k"
  refine dc_pts (fS dx dy) o.nd o.l2 (fun p hp kk hq => ?_) ?_
  · repeat walk_at "k"
    exact hq
  · repeat walk_at "k"
    exact o.placed (fS dx dy) (fun v h => e_clo (bad v h)) fun h p => e_clo (good h p)
theorem s_stretched {ps : List Pt} {k : Int} (hk : k ≠ 0) (o : OkS ps) (bad : ∀ v, firstOut (mapP (fK k) ps) = some v → Ψ T.C_OutOfRange "value" (.int v) c) (good : firstOut (mapP (fK k) ps) = none → OkS (mapP (fK k) ps) → Φ (plD T (mapP (fK k) ps)) c) : m_Placing_stretched T [plD T ps, .int k] c Ψ Φ := by
  refine e_fn (δ := [some _, some _, none, none, none]) rfl rfl ?_
  repeat walk_at "k"
  refine s_whole ?_
  repeat walk_at "k"
  rw [decide_eq_false hk]
  repeat walk_at "k"
  refine i_placed ?_
  repeat walk_at "k"
  refine f_by ?_
  repeat walk_at "k"
  refine dc_pts (fK k) o.nd o.l2 (fun p hp kk hq => ?_) ?_
  · have r := o.rg p hp
    unfold inR at r
    repeat walk_at "k"
    refine e_mulI (.inr ⟨by omega, by omega⟩) ?_
    repeat walk_at "k"
    refine e_mulI (.inr ⟨by omega, by omega⟩) ?_
    repeat walk_at "k"
    exact hq
  · repeat walk_at "k"
    exact o.placed (fK k) (fun v h => e_clo (bad v h)) fun h p => e_clo (good h p)
theorem s_movedB {ps : List Pt} {x y : D} (h : NoInt K c x) (q : Ψ T.C_InvalidShift "value" x c) : m_Placing_moved T [plD T ps, x, y] c Ψ Φ := by
  refine e_fn (δ := [some _, some _, some _, none, none, none, none]) rfl rfl ?_
  repeat walk_at "k"
  refine ⟨rfl, ?_⟩
  repeat walk_at "k"
  refine s_whole0 h ?_
  repeat walk_at "k"
  exact e_clo q
theorem s_movedB2 {ps : List Pt} {i : Int} {y : D} (h : NoInt K c y) (q : Ψ T.C_InvalidShift "value" y c) : m_Placing_moved T [plD T ps, .int i, y] c Ψ Φ := by
  refine e_fn (δ := [some _, some _, some _, none, none, none, none]) rfl rfl ?_
  repeat walk_at "k"
  refine ⟨rfl, ?_⟩
  repeat walk_at "k"
  refine s_whole ?_
  repeat walk_at "k"
  refine ⟨rfl, ?_⟩
  repeat walk_at "k"
  refine s_whole0 h ?_
  repeat walk_at "k"
  exact e_clo q
theorem s_stretchB {ps : List Pt} {x : D} (h : NoInt K c x) (q : Ψ T.C_InvalidFactor "factor" x c) : m_Placing_stretched T [plD T ps, x] c Ψ Φ := by
  refine e_fn (δ := [some _, some _, none, none, none]) rfl rfl ?_
  repeat walk_at "k"
  refine s_whole0 h ?_
  repeat walk_at "k"
  exact e_clo q
theorem s_stretch0 {ps : List Pt} (q : Ψ T.C_InvalidFactor "factor" (.int 0) c) : m_Placing_stretched T [plD T ps, .int 0] c Ψ Φ := by
  refine e_fn (δ := [some _, some _, none, none, none]) rfl rfl ?_
  repeat walk_at "k"
  refine s_whole ?_
  repeat walk_at "k"
  exact e_clo q
/-! the law's own look -/
def outD : Option Int → D
  | some v => .int v
  | none => .non
theorem s_out {ps ds es : List Pt} (hk : (ps.map (·.1)).Perm (ds.map (·.1))) (nd : (ds.map (·.1)).Nodup) (hl : ds.length ≤ 12) (hp : es.Perm ds) (hs : sortedS (es.map (·.1)) = true) (q : Φ (outD (firstOut es)) c) : m_l_out T [.dic (dicD ps), .dic (dicD ds)] c Ψ Φ := by
  refine e_fn (δ := [some _, some _, none, none]) rfl rfl ?_
  repeat walk_at "k"
  have l0 : ps.length = ds.length := by have := hk.length_eq; simpa using this
  refine e_sortedK (keys_dic ps) (by rw [List.length_map]; omega) fun ys py sy => ?_
  have ey : ys = es.map (·.1) := sorted_one sy hs (py.trans (hk.trans (hp.map _).symm))
  subst ey
  rw [List.map_map]
  repeat walk_at "k"
  refine for_until (fun p : Pt => D.str p.1) (fun δ c' => c' = c ∧ ∃ u v, δ = [some (.dic (dicD ps)), some (.dic (dicD ds)), u, v]) badP es ?_ ?_ ?_ _ _ ⟨rfl, _, _, rfl⟩
  · rintro p hm hR δ c' e' ⟨rfl, u, v, rfl⟩ nx _ _
    have hb : inR p.2.1 ∧ inR p.2.2 := by unfold badP at hR; simpa using hR
    refine ⟨rfl, ?_⟩
    repeat walk_at "k"
    refine e_dget (val_dic nd (hp.mem_iff.mp hm)) ?_
    refine e_itT (xs := [.int p.2.1, .int p.2.2]) ?_
    refine ⟨rfl, ?_⟩
    repeat walk_at "k"
    refine e_ifdT hb.1.1 ?_
    repeat walk_at "k"
    rw [decide_eq_true hb.1.2]
    repeat walk_at "k"
    refine ⟨rfl, ?_⟩
    repeat walk_at "k"
    refine e_ifdT hb.2.1 ?_
    repeat walk_at "k"
    rw [decide_eq_true hb.2.2]
    repeat walk_at "k"
    exact ⟨rfl, nx _ _ ⟨rfl, _, _, rfl⟩⟩
  · rintro p hm δ c' e' ⟨rfl, u, v, rfl⟩ rt _
    have hb := List.find?_some hm
    have q' : Φ (.int (badC p)) c' := by
      have : firstOut es = some (badC p) := by unfold firstOut; rw [hm]; rfl
      rw [this] at q
      exact q
    refine ⟨rfl, ?_⟩
    repeat walk_at "k"
    refine e_dget (val_dic nd (hp.mem_iff.mp (List.mem_of_find?_eq_some hm))) ?_
    refine e_itT (xs := [.int p.2.1, .int p.2.2]) ?_
    refine ⟨rfl, ?_⟩
    repeat walk_at "k"
    have done : ∀ (x : Int), badC p = x → e'.rt (.int x) c' := fun x hx => by
      rw [rt, ← hx]
      exact e_clo q'
    by_cases hx : inR p.2.1
    · refine e_ifdT hx.1 ?_
      repeat walk_at "k"
      rw [decide_eq_true hx.2]
      repeat walk_at "k"
      refine ⟨rfl, ?_⟩
      repeat walk_at "k"
      have hy : ¬ inR p.2.2 := fun hy => by unfold badP at hb; simp [hx, hy] at hb
      have e : badC p = p.2.2 := by unfold badC; rw [if_pos hx]
      refine e_ifd (fun h => ?_) (fun h => ?_)
      · repeat walk_at "k"
        rw [decide_eq_false (fun z => hy ⟨h, z⟩)]
        repeat walk_at "k"
        exact done _ e
      · repeat walk_at "k"
        exact done _ e
    · have e : badC p = p.2.1 := by unfold badC; rw [if_neg hx]
      refine e_ifd (fun h => ?_) (fun h => ?_)
      · repeat walk_at "k"
        rw [decide_eq_false (fun z => hx ⟨h, z⟩)]
        repeat walk_at "k"
        exact done _ e
      · repeat walk_at "k"
        exact done _ e
  · rintro hn δ c' ⟨rfl, u, v, rfl⟩
    refine ⟨rfl, ?_⟩
    repeat walk_at "k"
    have : firstOut es = none := by unfold firstOut; rw [hn]; rfl
    rw [this] at q
    exact e_clo q
abbrev opI : D → D → SH → QD → Prop := orD eqD (eqKD id)
theorem s_is {w : Str} {x : D} (o : Od K opI x) (q : Φ (.bl true) c) : m_l_is T [.lst [.str w, x], .str w, x] c Ψ Φ := by
  obtain ⟨b, hb⟩ := o.bo
  refine e_fn (δ := [some _, some _, some _]) rfl rfl ?_
  repeat walk_at "k"
  refine e_l (e_neI ?_)
  rw [show decide (((([D.str w, x].length : Nat)) : Int) = 2) = true from rfl]
  repeat walk_at "k"
  refine e_l (e_neS ?_)
  rw [decide_eq_true rfl]
  repeat walk_at "k"
  refine e_isi (hb c) ?_
  repeat walk_at "k"
  refine e_isi (hb c) ?_
  refine e_l (e_neB ?_)
  rw [decide_eq_true rfl]
  repeat walk_at "k"
  exact o.eq c _ (e_clo q)
theorem d_OR {x : D} (q : Φ (.lst [.str (Str.ofString "OutOfRange"), x]) c) : dealD K (hds T) T.C_OutOfRange "value" x c Φ := ⟨false, T.x_OutOfRange_InvalidFactor, e_ifF ⟨false, T.x_OutOfRange_InvalidShift, e_ifF ⟨true, T.x_OutOfRange_OutOfRange, e_ifT ⟨rfl, rfl, q⟩⟩⟩⟩
theorem d_IS {x : D} (q : Φ (.lst [.str (Str.ofString "InvalidShift"), x]) c) : dealD K (hds T) T.C_InvalidShift "value" x c Φ := ⟨false, T.x_InvalidShift_InvalidFactor, e_ifF ⟨true, T.x_InvalidShift_InvalidShift, e_ifT ⟨rfl, rfl, q⟩⟩⟩
theorem d_IF {x : D} (q : Φ (.lst [.str (Str.ofString "InvalidFactor"), x]) c) : dealD K (hds T) T.C_InvalidFactor "factor" x c Φ := ⟨true, T.x_InvalidFactor_InvalidFactor, e_ifT ⟨rfl, rfl, q⟩⟩

end K11

set_option Elab.async false
set_option linter.all false
set_option maxRecDepth 100000
set_option maxHeartbeats 3900000
namespace K11
open PySem PySem.Spec PyProof.Rows L2 G M
local macro_rules | `(tactic| walk_at "m") => `(tactic| first
  | (with_reducible refine' e_seq ?_)
  | ((with_reducible refine' e_var ?h ?_); (case h => exact rfl))
  | (with_reducible refine' e_c ?_)
  | (with_reducible refine' e_op ?_)
  | (with_reducible refine' e_asg ?_)
  | (with_reducible refine' e_gname ?_)
  | (with_reducible refine' e_ifS ?_)
  | (with_reducible refine' e_test ?_)
  | (with_reducible refine' e_bl ?_)
  | (with_reducible refine' e_cb ?_)
  | (with_reducible refine' e_cons ?_)
  | (with_reducible refine' e_nil ?_)
  | (with_reducible refine' e_call ?_)
  | (with_reducible refine' e_ret ?_)
  | (with_reducible refine' e_drop ?_)
  | (with_reducible refine' e_next ?_)
  | (with_reducible refine' e_andT ?_)
  | (with_reducible refine' e_orT ?_)
  | (with_reducible refine' e_notT ?_)
  | (with_reducible refine' e_andM ?_)
  | (with_reducible refine' e_orM ?_)
  | (with_reducible refine' e_notM ?_)
  | (with_reducible refine' e_ifM ?_)
  | (with_reducible refine' e_chain ?_)
  | (with_reducible refine' e_un ?_)
  | (with_reducible refine' e_lst ?_)
  | (with_reducible refine' e_lstO ?_)
  | (with_reducible refine' e_tup ?_)
  | (with_reducible refine' e_par ?_)
  | (with_reducible refine' e_raise ?_)
  | (with_reducible refine' e_for ?_)
  | (with_reducible refine' e_meth ?_)
  | (with_reducible refine' e_prop ?_)
  | (with_reducible refine' e_make ?_)
  | (with_reducible refine' e_fld ?_)
  | (with_reducible refine' e_sfld ?_)
  | (with_reducible refine' e_noPart ?_)
  | (with_reducible refine' e_part ?_)
  | (with_reducible refine' e_int ?_)
  | (with_reducible refine' e_sl ?_)
  | (with_reducible refine' e_bm ?_)
  | (with_reducible refine' e_bm0 ?_)
  | (with_reducible refine' e_m1 ?_)
  | (with_reducible refine' e_it ?_)
  | (with_reducible refine' e_rng1 ?_)
  | (with_reducible refine' e_lc ?_)
  | (with_reducible refine' e_caught ?_)
  | (with_reducible refine' e_two ?_)
  | (with_reducible refine' e_one ?_)
  | (with_reducible refine' e_ifT ?_)
  | (with_reducible refine' e_ifF ?_)
  | (with_reducible refine' e_ifNT ?_)
  | (with_reducible refine' e_ifNF ?_)
  | (with_reducible refine' e_yes ?_)
  | (with_reducible refine' e_turn ?_)
  | (with_reducible refine' e_js ?_)
  | (with_reducible refine' e_jsc ?_)
  | (with_reducible refine' e_jsn ?_)
  | (with_reducible refine' e_fmt ?_)
  | (with_reducible refine' e_leI ?_)
  | (with_reducible refine' e_ltI ?_)
  | (with_reducible refine' e_gtI ?_)
  | (with_reducible refine' e_geI ?_)
  | (with_reducible refine' e_ltS ?_)
  | (with_reducible refine' e_eqI ?_)
  | (with_reducible refine' e_eqS ?_)
  | (with_reducible refine' e_neI ?_)
  | (with_reducible refine' e_neS ?_)
  | (with_reducible refine' e_neB ?_)
  | (with_reducible refine' e_isB ?_)
  | (with_reducible refine' e_isntB ?_)
  | (with_reducible refine' e_addI ?_)
  | (with_reducible refine' e_subI ?_)
  | (with_reducible refine' e_int1 ?_)
  | (with_reducible refine' e_max2 ?_)
  | (with_reducible refine' e_min2 ?_)
  | (with_reducible refine' e_lenL ?_)
  | (with_reducible refine' e_lenT ?_)
  | (with_reducible refine' e_lenR ?_)
  | (with_reducible refine' e_modI (by decide) ?_))
local macro_rules | `(tactic| walk_at "k") => `(tactic| first
  | (with_reducible refine' e_itM ?_)
  | (with_reducible refine' e_itL ?_)
  | (with_reducible refine' e_itT ?_)
  | walk_at "m"
  | (with_reducible refine' e_itemsM ?_)
  | (with_reducible refine' e_valuesM ?_)
  | (with_reducible refine' e_itemsD ?_)
  | (with_reducible refine' e_valuesD ?_)
  | (with_reducible refine' e_dc ?_)
  | (with_reducible refine' e_turnK ?_)
  | (with_reducible refine' e_keyS ?_)
  | (with_reducible refine' e_newK ?_)
  | (with_reducible refine' e_lenD ?_)
  | (with_reducible refine' e_dict ?_)
  | (with_reducible refine' e_caseM ?_)
  | (with_reducible refine' e_dictC ?_)
  | (with_reducible refine' e_lkM ?_)
  | (with_reducible refine' e_dputM ?_)
  | (with_reducible refine' e_dnew ?_)
  | (with_reducible refine' e_ix0 ?_)
  | (with_reducible refine' e_ix1 ?_)
  | (with_reducible refine' e_ixL0 ?_)
  | (with_reducible refine' e_ixL1 ?_)
  | (with_reducible refine' e_ixL2 ?_)
  | (with_reducible refine' e_negI ?_)
  | (with_reducible refine' e_gtup2 ?_)
  | (with_reducible refine' e_gtup3n ?_)
  | (with_reducible refine' e_isN ?_)
  | (with_reducible refine' e_isntN ?_)
  | ((with_reducible refine' e_sz ?h ?_); (case h => exact rfl)))
variable {P : Program} {K : PySem.W.Frag} {mg : Str → Option Value} {T : Top P K mg} {c : SH} {Ψ : XD} {Φ : QD}
def lapM {P : Program} {K : PySem.W.Frag} {mg : Str → Option Value} (T : Top P K mg) : MS := (seqM (asgM (dictM false (consM (lcM false (itemsM (varM 2)) (gtupnM 2 (gconsM 9 (gconsXM (gtupnM 2 (gconsM 10 (gconsM 11 gnilM))) gnilM))) yesM (tupM (consM (varM 9) (consM (tupM (consM (opM (addD false) (varM 10) (varM 6)) (consM (opM (addD false) (varM 11) (varM 7)) nilM))) nilM))) [9, 10, 11]) nilM)) (gnameM 5))
    (ifS (notT (testM (caseM K (hds T) (methM T.C_Placing "moved" (m_Placing_moved T) [] (varM 12) (consM (varM 6) (consM (varM 7) nilM))) (m_l_case_right T) (varM 1) (varM 2) (varM 5))))
    (retM (cM (.bl false)))
    nextM))
def facM {P : Program} {K : PySem.W.Frag} {mg : Str → Option Value} (T : Top P K mg) : MS := (seqM (asgM (dictM false (consM (lcM false (itemsM (varM 2)) (gtupnM 2 (gconsM 9 (gconsXM (gtupnM 2 (gconsM 10 (gconsM 11 gnilM))) gnilM))) yesM (tupM (consM (varM 9) (consM (tupM (consM (opM (mulD false) (varM 8) (varM 10)) (consM (opM (mulD false) (varM 8) (varM 11)) nilM))) nilM))) [9, 10, 11]) nilM)) (gnameM 5))
    (ifS (notT (testM (caseM K (hds T) (methM T.C_Placing "stretched" (m_Placing_stretched T) [] (varM 12) (consM (varM 8) nilM)) (m_l_case_right T) (varM 1) (varM 2) (varM 5))))
    (retM (cM (.bl false)))
    nextM))

theorem e_cmpP {fin : Bool → Bool} {o1 : D → D → SH → QD → Prop} {ps qs : List Pt} (nd : (ps.map (·.1)).Nodup) (p : qs.Perm ps) (q : Φ (.bl (fin true)) c) : orD o1 (cmpX K T.C_Placing (m_Placing_eq T) fin) (plD T qs) (plD T ps) c Φ :=
  .inr ⟨rfl, ⟨.ref T.C_Placing, ⟨T.ik_Placing, rfl⟩, by simp [PySem.W.notFirst]⟩, s_eqP nd p (e_bl q)⟩
theorem s_case {ps qs : List Pt} (f : Int × Int → Int × Int) (o : OkP ps) (hq : qs.Perm ps) (hs : sortedS (qs.map (·.1)) = true) {found : D}
    (h : (∃ v, firstOut (mapP f qs) = some v ∧ found = .lst [.str (Str.ofString "OutOfRange"), .int v]) ∨ (firstOut (mapP f qs) = none ∧ OkS (mapP f qs) ∧ found = toldD (plD T (mapP f qs)))) (q : Φ (.bl true) c) : m_l_case_right T [plD T qs, .dic (dicD ps), .dic (dicD (mapP f ps)), found] c noX Φ := by
  show m_l_out T [.dic (dicD ps), .dic (dicD (mapP f ps))] c noX fun out c1 => m_l_case_rest T [some (plD T qs), some (.dic (dicD ps)), some (.dic (dicD (mapP f ps))), none, some found, some out] c1 (endsF Φ)
  refine s_out (es := mapP f qs) (by rw [mapP_keys]) (by rw [mapP_keys]; exact o.nd) (by rw [mapP, List.length_map]; exact o.l2) (mapP_perm f hq) (by rw [mapP_keys]; exact hs) ?_
  unfold m_l_case_rest
  repeat walk_at "k"
  refine i_points ?_
  repeat walk_at "k"
  refine s_points ?_
  repeat walk_at "k"
  refine .inl (.inr (e_eqP o.nd hq ?_))
  repeat walk_at "k"
  rcases h with ⟨v, hv, rfl⟩ | ⟨hn, ok, rfl⟩
  · rw [hv, show nonD (outD (some v)) = false from rfl]
    repeat walk_at "k"
    exact s_is (od_int v).l q
  · rw [hn, show nonD (outD none) = true from rfl]
    unfold toldD
    repeat walk_at "k"
    refine .inl (e_eqS ?_)
    rw [decide_eq_true rfl]
    repeat walk_at "k"
    refine s_init (ok.toOkP.perm (mapP_perm f hq.symm)) fun rs hr _ => ?_
    refine e_cmpP (by rw [(hr.map _).nodup_iff, mapP_keys]; exact o.nd) ((mapP_perm f hq).trans hr.symm) ?_
    exact q
theorem merge_pts (f : Int × Int → Int × Int) {ps : List Pt} (nd : (ps.map (·.1)).Nodup) : mergeD [] (ps.map fun p => ((Sum.inr p.1 : Key), D.tup [.int (f p.2).1, .int (f p.2).2])) = dicD (mapP f ps) := by
  rw [merge_new]
  · unfold dicD mapP
    rw [List.map_map]
    rfl
  · show (List.map _ (List.map _ ps)).Nodup
    rw [List.map_map]
    have : (ps.map ((·.1) ∘ fun p : Pt => ((Sum.inr p.1 : Key), D.tup [.int (f p.2).1, .int (f p.2).2]))) = (ps.map (·.1)).map Sum.inr := by rw [List.map_map]; rfl
    rw [this]
    exact List.Pairwise.map _ (fun a b h e => h (Sum.inr.inj e)) nd
/-- dict([(name, (.., ..)) for name, (x, y) in d.items()]) -/
theorem lc_pts {turn : D → SH → (Option D → SH → Prop) → Prop} {ps : List Pt} (f : Int × Int → Int × Int) (nd : (ps.map (·.1)).Nodup) (hl : ps.length ≤ 12) {ΦK : D → SH → Prop}
    (step : ∀ p ∈ ps, ∀ k, k (some (.tup [.str p.1, .tup [.int (f p.2).1, .int (f p.2).2]])) c → turn (.tup [.str p.1, .tup [.int p.2.1, .int p.2.2]]) c k) (q : ΦK (.lst (ps.map fun p => .tup [.str p.1, .tup [.int (f p.2).1, .int (f p.2).2]])) c) :
    lcD (fun _ => True) turn ((dicD ps).map fun kv => .tup [keyOD kv.1, kv.2]) [] c (endL false ΦK) := by
  rw [items_dic]
  refine lc_map (F := fun p : Pt => D.tup [.str p.1, ptD p]) (f := fun p : Pt => some (.tup [.str p.1, .tup [.int (f p.2).1, .int (f p.2).2]])) trivial ps [] (by show 0 + ps.length < sizeLine; exact lt_sz (by omega)) step ?_
  rw [List.nil_append, fm_map]
  exact e_ifF q
theorem e_dpts (f : Int × Int → Int × Int) {ps : List Pt} (nd : (ps.map (·.1)).Nodup) {kk : List (Key × D) → Prop} (q : kk (dicD (mapP f ps))) : dictD [.lst (ps.map fun p => .tup [.str p.1, .tup [.int (f p.2).1, .int (f p.2).2]])] c kk := by
  refine e_dictP (pairs_map (fun p : Pt => (p.1, D.tup [.int (f p.2).1, .int (f p.2).2])) ps) ?_
  rw [merge_pts f nd]
  exact q
theorem s_lap {ps qs : List Pt} (o : OkP ps) (oq : OkS qs) (hq : qs.Perm ps) {b far lap u5 u8 u9 u10 u11 : Option D} {dx dy : Int} {e : EndsD} (nx : ∀ u5, e.nx [b, some (plD T qs), some (.dic (dicD ps)), far, lap, u5, some (.int dx), some (.int dy), u8, u9, u10, u11] c) :
    lapM T [b, some (plD T qs), some (.dic (dicD ps)), far, lap, u5, some (.int dx), some (.int dy), u8, u9, u10, u11] c e := by
  unfold lapM
  repeat walk_at "k"
  refine lc_pts (fS dx dy) o.nd o.l2 (fun p hp k hk => ?_) ?_
  · repeat walk_at "k"
    exact hk
  repeat walk_at "k"
  refine e_dpts (fS dx dy) o.nd ?_
  repeat walk_at "k"
  refine i_moved ?_
  repeat walk_at "k"
  refine s_moved oq (fun v h => ?_) fun h p => ?_
  · refine d_OR (s_case (fS dx dy) o hq oq.so (.inl ⟨v, h, rfl⟩) ?_)
    repeat walk_at "k"
    exact nx _
  · refine s_case (fS dx dy) o hq oq.so (.inr ⟨h, p, rfl⟩) ?_
    repeat walk_at "k"
    exact nx _
theorem s_fac {ps qs : List Pt} (o : OkP ps) (oq : OkS qs) (hq : qs.Perm ps) {b far lap u5 u6 u7 u9 u10 u11 : Option D} {k : Int} (hk : k ≠ 0) {e : EndsD} (nx : ∀ u5, e.nx [b, some (plD T qs), some (.dic (dicD ps)), far, lap, u5, u6, u7, some (.int k), u9, u10, u11] c) :
    facM T [b, some (plD T qs), some (.dic (dicD ps)), far, lap, u5, u6, u7, some (.int k), u9, u10, u11] c e := by
  unfold facM
  repeat walk_at "k"
  refine lc_pts (fK k) o.nd o.l2 (fun p hp kk hkk => ?_) ?_
  · have r := o.rg p hp
    unfold inR at r
    repeat walk_at "k"
    refine e_mulI (.inr ⟨by omega, by omega⟩) ?_
    repeat walk_at "k"
    refine e_mulI (.inr ⟨by omega, by omega⟩) ?_
    repeat walk_at "k"
    exact hkk
  repeat walk_at "k"
  refine e_dpts (fK k) o.nd ?_
  repeat walk_at "k"
  refine i_stretched ?_
  repeat walk_at "k"
  refine s_stretched hk oq (fun v h => ?_) fun h p => ?_
  · refine d_OR (s_case (fK k) o hq oq.so (.inl ⟨v, h, rfl⟩) ?_)
    repeat walk_at "k"
    exact nx _
  · refine s_case (fK k) o hq oq.so (.inr ⟨h, p, rfl⟩) ?_
    repeat walk_at "k"
    exact nx _

end K11

set_option Elab.async false
set_option linter.all false
set_option maxRecDepth 100000
set_option maxHeartbeats 3900000
namespace K11
open PySem PySem.Spec PyProof.Rows L2 G M
local macro_rules | `(tactic| walk_at "m") => `(tactic| first
  | (with_reducible refine' e_seq ?_)
  | ((with_reducible refine' e_var ?h ?_); (case h => exact rfl))
  | (with_reducible refine' e_c ?_)
  | (with_reducible refine' e_op ?_)
  | (with_reducible refine' e_asg ?_)
  | (with_reducible refine' e_gname ?_)
  | (with_reducible refine' e_ifS ?_)
  | (with_reducible refine' e_test ?_)
  | (with_reducible refine' e_bl ?_)
  | (with_reducible refine' e_cb ?_)
  | (with_reducible refine' e_cons ?_)
  | (with_reducible refine' e_nil ?_)
  | (with_reducible refine' e_call ?_)
  | (with_reducible refine' e_ret ?_)
  | (with_reducible refine' e_drop ?_)
  | (with_reducible refine' e_next ?_)
  | (with_reducible refine' e_andT ?_)
  | (with_reducible refine' e_orT ?_)
  | (with_reducible refine' e_notT ?_)
  | (with_reducible refine' e_andM ?_)
  | (with_reducible refine' e_orM ?_)
  | (with_reducible refine' e_notM ?_)
  | (with_reducible refine' e_ifM ?_)
  | (with_reducible refine' e_chain ?_)
  | (with_reducible refine' e_un ?_)
  | (with_reducible refine' e_lst ?_)
  | (with_reducible refine' e_lstO ?_)
  | (with_reducible refine' e_tup ?_)
  | (with_reducible refine' e_par ?_)
  | (with_reducible refine' e_raise ?_)
  | (with_reducible refine' e_for ?_)
  | (with_reducible refine' e_meth ?_)
  | (with_reducible refine' e_prop ?_)
  | (with_reducible refine' e_make ?_)
  | (with_reducible refine' e_fld ?_)
  | (with_reducible refine' e_sfld ?_)
  | (with_reducible refine' e_noPart ?_)
  | (with_reducible refine' e_part ?_)
  | (with_reducible refine' e_int ?_)
  | (with_reducible refine' e_sl ?_)
  | (with_reducible refine' e_bm ?_)
  | (with_reducible refine' e_bm0 ?_)
  | (with_reducible refine' e_m1 ?_)
  | (with_reducible refine' e_it ?_)
  | (with_reducible refine' e_rng1 ?_)
  | (with_reducible refine' e_lc ?_)
  | (with_reducible refine' e_caught ?_)
  | (with_reducible refine' e_two ?_)
  | (with_reducible refine' e_one ?_)
  | (with_reducible refine' e_ifT ?_)
  | (with_reducible refine' e_ifF ?_)
  | (with_reducible refine' e_ifNT ?_)
  | (with_reducible refine' e_ifNF ?_)
  | (with_reducible refine' e_yes ?_)
  | (with_reducible refine' e_turn ?_)
  | (with_reducible refine' e_js ?_)
  | (with_reducible refine' e_jsc ?_)
  | (with_reducible refine' e_jsn ?_)
  | (with_reducible refine' e_fmt ?_)
  | (with_reducible refine' e_leI ?_)
  | (with_reducible refine' e_ltI ?_)
  | (with_reducible refine' e_gtI ?_)
  | (with_reducible refine' e_geI ?_)
  | (with_reducible refine' e_ltS ?_)
  | (with_reducible refine' e_eqI ?_)
  | (with_reducible refine' e_eqS ?_)
  | (with_reducible refine' e_neI ?_)
  | (with_reducible refine' e_neS ?_)
  | (with_reducible refine' e_neB ?_)
  | (with_reducible refine' e_isB ?_)
  | (with_reducible refine' e_isntB ?_)
  | (with_reducible refine' e_addI ?_)
  | (with_reducible refine' e_subI ?_)
  | (with_reducible refine' e_int1 ?_)
  | (with_reducible refine' e_max2 ?_)
  | (with_reducible refine' e_min2 ?_)
  | (with_reducible refine' e_lenL ?_)
  | (with_reducible refine' e_lenT ?_)
  | (with_reducible refine' e_lenR ?_)
  | (with_reducible refine' e_modI (by decide) ?_))
local macro_rules | `(tactic| walk_at "k") => `(tactic| first
  | (with_reducible refine' e_itM ?_)
  | (with_reducible refine' e_itL ?_)
  | (with_reducible refine' e_itT ?_)
  | walk_at "m"
  | (with_reducible refine' e_itemsM ?_)
  | (with_reducible refine' e_valuesM ?_)
  | (with_reducible refine' e_itemsD ?_)
  | (with_reducible refine' e_valuesD ?_)
  | (with_reducible refine' e_dc ?_)
  | (with_reducible refine' e_turnK ?_)
  | (with_reducible refine' e_keyS ?_)
  | (with_reducible refine' e_newK ?_)
  | (with_reducible refine' e_lenD ?_)
  | (with_reducible refine' e_dict ?_)
  | (with_reducible refine' e_caseM ?_)
  | (with_reducible refine' e_dictC ?_)
  | (with_reducible refine' e_lkM ?_)
  | (with_reducible refine' e_dputM ?_)
  | (with_reducible refine' e_dnew ?_)
  | (with_reducible refine' e_ix0 ?_)
  | (with_reducible refine' e_ix1 ?_)
  | (with_reducible refine' e_ixL0 ?_)
  | (with_reducible refine' e_ixL1 ?_)
  | (with_reducible refine' e_ixL2 ?_)
  | (with_reducible refine' e_negI ?_)
  | (with_reducible refine' e_gtup2 ?_)
  | (with_reducible refine' e_gtup3n ?_)
  | (with_reducible refine' e_isN ?_)
  | (with_reducible refine' e_isntN ?_)
  | ((with_reducible refine' e_sz ?h ?_); (case h => exact rfl)))
variable {P : Program} {K : PySem.W.Frag} {mg : Str → Option Value} {T : Top P K mg} {c : SH} {Ψ : XD} {Φ : QD}
theorem ix4 {a b d e i : Int} (h0 : 0 ≤ i) (h1 : i < 4) (q : ∀ v : Int, Φ (.int v) c) : ixD (.lst [.int a, .int b, .int d, .int e]) (.int i) c Φ := by
  have : i = 0 ∨ i = 1 ∨ i = 2 ∨ i = 3 := by omega
  rcases this with rfl | rfl | rfl | rfl
  · exact e_ixL (atI_nat (j := 0) rfl) (q _)
  · exact e_ixL (atI_nat (j := 1) rfl) (q _)
  · exact e_ixL (atI_nat (j := 2) rfl) (q _)
  · exact e_ixL (atI_nat (j := 3) rfl) (q _)
theorem s_moves {i n : Nat} {ps qs : List Pt} (o : OkP ps) (oq : OkS qs) (hq : qs.Perm ps) (hb : c[i]? = some (.box n)) (hn : n ≤ 1000000) (q : ∀ j, Φ (.bl true) (c.set i (.box j))) : noXF (m_l_moves_right T) [.obj i, plD T qs, .dic (dicD ps)] c Ψ Φ := by
  have l1 := o.l1
  have l2 := o.l2
  have ne : ps ≠ [] := fun e => by rw [e] at l1; simp at l1
  show m_l_moves_right T _ c noX Φ
  refine e_fn (δ := [some _, some _, some _, none, none, none, none, none, none, none, none, none]) rfl rfl ?_
  repeat walk_at "k"
  rw [values_dic]
  refine lc_map (F := ptD) (f := fun p : Pt => some (.int p.2.1)) trivial ps [] (by show 0 + ps.length < sizeLine; exact lt_sz (by omega)) (fun p hp k hk => ?_) ?_
  · show turnD _ _ _ _ (.tup [.int p.2.1, .int p.2.2]) _ _
    repeat walk_at "k"
    exact hk
  rw [List.nil_append, fm_map]
  refine e_ifF ?_
  repeat walk_at "k"
  rw [show ps.map (fun p : Pt => D.int p.2.1) = (ps.map fun p : Pt => p.2.1).map D.int by rw [List.map_map]; rfl]
  refine e_maxL (fun e => ne (List.map_eq_nil_iff.mp e)) fun A _ _ => ?_
  repeat walk_at "k"
  rw [values_dic]
  refine lc_map (F := ptD) (f := fun p : Pt => some (.int p.2.2)) trivial ps [] (by show 0 + ps.length < sizeLine; exact lt_sz (by omega)) (fun p hp k hk => ?_) ?_
  · show turnD _ _ _ _ (.tup [.int p.2.1, .int p.2.2]) _ _
    repeat walk_at "k"
    exact hk
  rw [List.nil_append, fm_map]
  refine e_ifF ?_
  repeat walk_at "k"
  rw [show ps.map (fun p : Pt => D.int p.2.2) = (ps.map fun p : Pt => p.2.2).map D.int by rw [List.map_map]; rfl]
  refine e_minL (fun e => ne (List.map_eq_nil_iff.mp e)) fun B _ _ => ?_
  repeat walk_at "k"
  refine ⟨⟨by decide, by decide⟩, ?_⟩
  refine for_ix (fun k δ c2 => ∃ u4 u5 u6 u7 jk, jk ≤ n + 4 * k ∧ c2 = c.set i (.box jk) ∧ δ = [some (.obj i), some (plD T qs), some (.dic (dicD ps)), some (.lst [.int (1000 - A), .int (-1000 - B)]), u4, u5, u6, u7, none, none, none, none]) 4 _ 0 (by decide) ?_ ?_ _ _ ⟨none, none, none, none, n, by omega, (box_self hb).symm, rfl⟩
  · rintro y hy k δ c2 e' hk4 ⟨u4, u5, u6, u7, jk, hj, rfl, rfl⟩ nx
    obtain ⟨j, hj2, rfl⟩ := List.mem_map.mp hy
    refine ⟨trivial, ?_⟩
    repeat walk_at "k"
    refine s_take (box_set hb) (by omega) (by decide) (by decide) fun d d0 d1 => ?_
    rw [List.set_set]
    repeat walk_at "k"
    refine s_take (box_set hb) (by omega) (by decide) (by decide) fun z z0 z1 => ?_
    rw [List.set_set]
    repeat walk_at "k"
    refine e_ifd (fun h => ?_) (fun h => ?_)
    · repeat walk_at "k"
      refine s_take (box_set hb) (by omega) (by decide) (by decide) fun d' d0' d1' => ?_
      rw [List.set_set]
      repeat walk_at "k"
      refine e_powI ⟨by decide, by decide, by decide⟩ ?_
      repeat walk_at "k"
      refine s_take (box_set hb) (by omega) (by decide) (by decide) fun z' z0' z1' => ?_
      rw [List.set_set]
      refine ix4 z0' z1' fun v => ?_
      repeat walk_at "k"
      exact s_lap o oq hq fun u5 => nx _ _ ⟨_, _, _, _, jk + 1 + 1 + 1 + 1, by omega, rfl, rfl⟩
    · repeat walk_at "k"
      exact s_lap o oq hq fun u5 => nx _ _ ⟨_, _, _, _, jk + 1 + 1, by omega, rfl, rfl⟩
  · rintro δ c2 ⟨u4, u5, u6, u7, jk, hj, rfl, rfl⟩
    refine ⟨trivial, ?_⟩
    repeat walk_at "k"
    refine e_powI ⟨by decide, by decide, by decide⟩ ?_
    repeat walk_at "k"
    refine for_inv (fun δ c2 => c2 = c.set i (.box jk) ∧ ∃ u5 u8, δ = [some (.obj i), some (plD T qs), some (.dic (dicD ps)), some (.lst [.int (1000 - A), .int (-1000 - B)]), u4, u5, u6, u7, u8, none, none, none]) _ ?_ ?_ _ _ ⟨rfl, _, _, rfl⟩
    · rintro x hx δ c2 e' ⟨rfl, u5, u8, rfl⟩ nx _ _ _ _
      have hk : ∃ k : Int, k ≠ 0 ∧ x = .int k := by
        simp only [List.mem_cons, List.not_mem_nil, or_false] at hx
        rcases hx with rfl | rfl | rfl | rfl | rfl | rfl | rfl
        · exact ⟨1, by decide, rfl⟩
        · exact ⟨-1, by decide, rfl⟩
        · exact ⟨2, by decide, rfl⟩
        · exact ⟨-3, by decide, rfl⟩
        · exact ⟨200, by decide, rfl⟩
        · exact ⟨1001, by decide, rfl⟩
        · exact ⟨-(10 ^ (28 : Int).toNat), by decide, rfl⟩
      obtain ⟨k, k0, rfl⟩ := hk
      refine ⟨rfl, ?_⟩
      repeat walk_at "k"
      exact s_fac o oq hq k0 fun u5 => nx _ _ ⟨rfl, _, _, rfl⟩
    · rintro δ c2 ⟨rfl, u5, u8, rfl⟩
      refine ⟨rfl, ?_⟩
      repeat walk_at "k"
      exact e_cloL (by rw [List.length_set]) (q _)
theorem s_refusals {ps : List Pt} (q : Φ (.bl true) c) : noXF (m_l_refusals_right T) [plD T ps] c Ψ Φ := by
  show m_l_refusals_right T _ c noX Φ
  refine e_fn (δ := [some _, none]) rfl rfl ?_
  repeat walk_at "k"
  have K1 : ∀ x ∈ [D.non, .bl true, .str (Str.ofString "1"), .lst [.int 1], .tup [.int 1], .dic []], Od K opI x ∧ ∀ c : SH, NoInt K c x := by
    intro x hx
    have N : ∀ {x : D} {n : String}, (∀ c : SH, tyD (view c x) = some n) → PySem.W.kitOne K (.type n) (.type "int") = some false → ∀ c : SH, NoInt K c x := fun h1 h2 c => .inl (isi_ty (h1 c) h2)
    simp only [List.mem_cons, List.not_mem_nil, or_false] at hx
    rcases hx with rfl | rfl | rfl | rfl | rfl | rfl
    · exact ⟨od_non.l, N (fun _ => rfl) (kit_ty (by decide +kernel))⟩
    · exact ⟨(od_bl true).l, fun c => .inr ⟨isi_ty rfl (kit_ty (by decide +kernel)), isi_ty rfl (kit_ty (by decide +kernel))⟩⟩
    · exact ⟨(od_str _).l, N (fun _ => rfl) (kit_ty (by decide +kernel))⟩
    · exact ⟨(od_lst1 1).l, N (fun _ => rfl) (kit_ty (by decide +kernel))⟩
    · exact ⟨(od_tup1 1).l, N (fun _ => rfl) (kit_ty (by decide +kernel))⟩
    · exact ⟨od_dic0.r, N (fun _ => rfl) (kit_ty (by decide +kernel))⟩
  refine for_inv (fun δ c' => c' = c ∧ ∃ u, δ = [some (plD T ps), u]) _ ?_ ?_ _ _ ⟨rfl, _, rfl⟩
  · rintro x hx δ c' e' ⟨rfl, u, rfl⟩ nx _ _ _ _
    obtain ⟨od, ni⟩ := K1 x hx
    refine ⟨rfl, ?_⟩
    repeat walk_at "k"
    refine i_moved ?_
    repeat walk_at "k"
    refine s_movedB (ni _) (d_IS ?_)
    repeat walk_at "k"
    refine s_is od ?_
    repeat walk_at "k"
    refine i_moved ?_
    repeat walk_at "k"
    refine s_movedB2 (ni _) (d_IS ?_)
    repeat walk_at "k"
    refine s_is od ?_
    repeat walk_at "k"
    refine i_stretched ?_
    repeat walk_at "k"
    refine s_stretchB (ni _) (d_IF ?_)
    repeat walk_at "k"
    refine s_is od ?_
    repeat walk_at "k"
    exact nx _ _ ⟨rfl, _, rfl⟩
  · rintro δ c' ⟨rfl, u, rfl⟩
    refine ⟨rfl, ?_⟩
    repeat walk_at "k"
    refine i_stretched ?_
    repeat walk_at "k"
    refine s_stretch0 (d_IF ?_)
    repeat walk_at "k"
    exact s_is (od_int 0).l (e_clo q)

end K11

set_option Elab.async false
set_option linter.all false
set_option maxRecDepth 100000
set_option maxHeartbeats 3900000
namespace K11
open PySem PySem.Spec PyProof.Rows L2 G M
local macro_rules | `(tactic| walk_at "m") => `(tactic| first
  | (with_reducible refine' e_seq ?_)
  | ((with_reducible refine' e_var ?h ?_); (case h => exact rfl))
  | (with_reducible refine' e_c ?_)
  | (with_reducible refine' e_op ?_)
  | (with_reducible refine' e_asg ?_)
  | (with_reducible refine' e_gname ?_)
  | (with_reducible refine' e_ifS ?_)
  | (with_reducible refine' e_test ?_)
  | (with_reducible refine' e_bl ?_)
  | (with_reducible refine' e_cb ?_)
  | (with_reducible refine' e_cons ?_)
  | (with_reducible refine' e_nil ?_)
  | (with_reducible refine' e_call ?_)
  | (with_reducible refine' e_ret ?_)
  | (with_reducible refine' e_drop ?_)
  | (with_reducible refine' e_next ?_)
  | (with_reducible refine' e_andT ?_)
  | (with_reducible refine' e_orT ?_)
  | (with_reducible refine' e_notT ?_)
  | (with_reducible refine' e_andM ?_)
  | (with_reducible refine' e_orM ?_)
  | (with_reducible refine' e_notM ?_)
  | (with_reducible refine' e_ifM ?_)
  | (with_reducible refine' e_chain ?_)
  | (with_reducible refine' e_un ?_)
  | (with_reducible refine' e_lst ?_)
  | (with_reducible refine' e_lstO ?_)
  | (with_reducible refine' e_tup ?_)
  | (with_reducible refine' e_par ?_)
  | (with_reducible refine' e_raise ?_)
  | (with_reducible refine' e_for ?_)
  | (with_reducible refine' e_meth ?_)
  | (with_reducible refine' e_prop ?_)
  | (with_reducible refine' e_make ?_)
  | (with_reducible refine' e_fld ?_)
  | (with_reducible refine' e_sfld ?_)
  | (with_reducible refine' e_noPart ?_)
  | (with_reducible refine' e_part ?_)
  | (with_reducible refine' e_int ?_)
  | (with_reducible refine' e_sl ?_)
  | (with_reducible refine' e_bm ?_)
  | (with_reducible refine' e_bm0 ?_)
  | (with_reducible refine' e_m1 ?_)
  | (with_reducible refine' e_it ?_)
  | (with_reducible refine' e_rng1 ?_)
  | (with_reducible refine' e_lc ?_)
  | (with_reducible refine' e_caught ?_)
  | (with_reducible refine' e_two ?_)
  | (with_reducible refine' e_one ?_)
  | (with_reducible refine' e_ifT ?_)
  | (with_reducible refine' e_ifF ?_)
  | (with_reducible refine' e_ifNT ?_)
  | (with_reducible refine' e_ifNF ?_)
  | (with_reducible refine' e_yes ?_)
  | (with_reducible refine' e_turn ?_)
  | (with_reducible refine' e_js ?_)
  | (with_reducible refine' e_jsc ?_)
  | (with_reducible refine' e_jsn ?_)
  | (with_reducible refine' e_fmt ?_)
  | (with_reducible refine' e_leI ?_)
  | (with_reducible refine' e_ltI ?_)
  | (with_reducible refine' e_gtI ?_)
  | (with_reducible refine' e_geI ?_)
  | (with_reducible refine' e_ltS ?_)
  | (with_reducible refine' e_eqI ?_)
  | (with_reducible refine' e_eqS ?_)
  | (with_reducible refine' e_neI ?_)
  | (with_reducible refine' e_neS ?_)
  | (with_reducible refine' e_neB ?_)
  | (with_reducible refine' e_isB ?_)
  | (with_reducible refine' e_isntB ?_)
  | (with_reducible refine' e_addI ?_)
  | (with_reducible refine' e_subI ?_)
  | (with_reducible refine' e_int1 ?_)
  | (with_reducible refine' e_max2 ?_)
  | (with_reducible refine' e_min2 ?_)
  | (with_reducible refine' e_lenL ?_)
  | (with_reducible refine' e_lenT ?_)
  | (with_reducible refine' e_lenR ?_)
  | (with_reducible refine' e_modI (by decide) ?_))
local macro_rules | `(tactic| walk_at "k") => `(tactic| first
  | (with_reducible refine' e_itM ?_)
  | (with_reducible refine' e_itL ?_)
  | (with_reducible refine' e_itT ?_)
  | walk_at "m"
  | (with_reducible refine' e_itemsM ?_)
  | (with_reducible refine' e_valuesM ?_)
  | (with_reducible refine' e_itemsD ?_)
  | (with_reducible refine' e_valuesD ?_)
  | (with_reducible refine' e_dc ?_)
  | (with_reducible refine' e_turnK ?_)
  | (with_reducible refine' e_keyS ?_)
  | (with_reducible refine' e_newK ?_)
  | (with_reducible refine' e_lenD ?_)
  | (with_reducible refine' e_dict ?_)
  | (with_reducible refine' e_caseM ?_)
  | (with_reducible refine' e_dictC ?_)
  | (with_reducible refine' e_lkM ?_)
  | (with_reducible refine' e_dputM ?_)
  | (with_reducible refine' e_dnew ?_)
  | (with_reducible refine' e_ix0 ?_)
  | (with_reducible refine' e_ix1 ?_)
  | (with_reducible refine' e_ixL0 ?_)
  | (with_reducible refine' e_ixL1 ?_)
  | (with_reducible refine' e_ixL2 ?_)
  | (with_reducible refine' e_negI ?_)
  | (with_reducible refine' e_gtup2 ?_)
  | (with_reducible refine' e_gtup3n ?_)
  | (with_reducible refine' e_isN ?_)
  | (with_reducible refine' e_isntN ?_)
  | ((with_reducible refine' e_sz ?h ?_); (case h => exact rfl)))
variable {P : Program} {K : PySem.W.Frag} {mg : Str → Option Value} {T : Top P K mg} {c : SH} {Ψ : XD} {Φ : QD}
theorem put_new {ps : List Pt} {z : Str} {a b : Int} (h : z ∉ ps.map (·.1)) : putKD (dicD ps) (.inr z) (.tup [.int a, .int b]) = dicD (ps ++ [(z, a, b)]) := by
  rw [putKD_new]
  · unfold dicD
    rw [List.map_append]
    rfl
  · intro h2
    obtain ⟨kv, h3, h4⟩ := List.mem_map.mp h2
    obtain ⟨p, h5, rfl⟩ := List.mem_map.mp h3
    exact h (List.mem_map.mpr ⟨p, h5, Sum.inr.inj h4⟩)
theorem put_last {ps : List Pt} {z : Str} {a b a' b' : Int} (h : z ∉ ps.map (·.1)) : putKD (dicD (ps ++ [(z, a, b)])) (.inr z) (.tup [.int a', .int b']) = dicD (ps ++ [(z, a', b')]) := by
  unfold putKD
  rw [if_pos]
  · unfold dicD
    rw [List.map_map, List.map_append, List.map_append]
    congr 1
    · refine List.map_congr_left fun p hp => ?_
      have : p.1 ≠ z := fun e => h (List.mem_map.mpr ⟨p, hp, e⟩)
      simp [this]
    · simp [ptD]
  · refine List.any_eq_true.mpr ⟨(.inr z, .tup [.int a, .int b]), ?_, by simp⟩
    unfold dicD
    exact List.mem_map.mpr ⟨(z, a, b), by simp, rfl⟩
theorem fm_rg {a m : Int} (h : 0 < m) (h2 : m ≤ 1000) : 0 ≤ a.fmod m ∧ a.fmod m < m := ⟨Int.fmod_nonneg_of_pos _ h, Int.fmod_lt_of_pos _ h⟩
theorem s_pts {i n m : Nat} {xs : List Str} (hb : c[i]? = some (.box n)) (hn : n ≤ 1000000) (hg : Good xs m) (hm : m ≤ 12) (q : ∀ (ps : List Pt) (j : Nat), ps.map (·.1) = xs → (∀ p ∈ ps, inR p.2.1 ∧ inR p.2.2) → j ≤ n + 40 → Φ (.dic (dicD ps)) (c.set i (.box j))) : m_l_points T [.obj i, .lst (xs.map .str)] c Ψ Φ := by
  refine e_fn (δ := [some _, some _, none, none, none, none, none, none]) rfl rfl ?_
  repeat walk_at "k"
  refine s_take hb (by omega) (by decide) (by decide) fun w w0 w1 => ?_
  repeat walk_at "k"
  refine e_dnewT ?_
  rw [List.length_set]
  repeat walk_at "k"
  show forD _ _ _ _ _ (st1 c i (n + 1) (.dic [])) _
  have lx := hg.len
  refine for_pre D.str (fun pre δ c2 => ∃ (ps : List Pt) (j : Nat) (u4 u5 u6 u7 : Option D), ps.map (·.1) = pre ∧ (∀ p ∈ ps, inR p.2.1 ∧ inR p.2.2) ∧ j ≤ n + 1 + 3 * pre.length ∧ c2 = st1 c i j (.dic (dicD ps)) ∧ δ = [some (.obj i), some (.lst (xs.map .str)), some (.int w), some (.obj c.length), u4, u5, u6, u7]) xs [] ?_ ?_ _ _ ⟨[], n + 1, _, _, _, _, rfl, (fun _ h => nomatch h), by simp, rfl, rfl⟩
  · rintro pre y post he δ c2 e' ⟨ps, j, u4, u5, u6, u7, hk, hr, hj, rfl, rfl⟩ nx _ _ _
    rw [List.nil_append] at he
    have nd := hg.nd
    have ln : pre.length < m := by rw [← lx, he]; simp
    have hy : y ∉ ps.map (·.1) := by
      rw [hk]
      rw [he] at nd
      intro h
      exact (List.nodup_append.mp nd).2.2 _ h _ List.mem_cons_self rfl
    have lp : ps.length = pre.length := by rw [← hk, List.length_map]
    refine ⟨rfl, ?_⟩
    repeat walk_at "k"
    refine s_take (st1_box hb) (by omega) (by decide) (by decide) fun X X0 X1 => ?_
    rw [st1_set hb]
    repeat walk_at "k"
    refine s_take (st1_box hb) (by omega) (by decide) (by decide) fun Y Y0 Y1 => ?_
    rw [st1_set hb]
    repeat walk_at "k"
    have a7 := fm_rg (a := X) (m := 7) (by decide) (by decide)
    have b7 := fm_rg (a := Y) (m := 7) (by decide) (by decide)
    have a9 := fm_rg (a := X) (m := 9) (by decide) (by decide)
    have a2 := fm_rg (a := X) (m := 2) (by decide) (by decide)
    have b2 := fm_rg (a := Y) (m := 2) (by decide) (by decide)
    have b3 := fm_rg (a := Y) (m := 3) (by decide) (by decide)
    have fin : ∀ (a b : Int) (j' : Nat) (u5 u6 u7 : Option D), inR a → inR b → j' ≤ j + 3 → e'.nx [some (.obj i), some (.lst (xs.map .str)), some (.int w), some (.obj c.length), some (.str y), u5, u6, u7] (st1 c i j' (.dic (dicD (ps ++ [(y, a, b)])))) := fun a b j' u5 u6 u7 ha hb' hj' => by
      refine nx _ _ ⟨ps ++ [(y, a, b)], j', _, _, _, _, ?_, ?_, ?_, rfl, rfl⟩
      · rw [List.map_append, hk]; rfl
      · intro p hp
        rcases List.mem_append.mp hp with hp | hp
        · exact hr p hp
        · rcases List.mem_cons.mp hp with rfl | hp
          · exact ⟨ha, hb'⟩
          · cases hp
      · rw [List.length_append]
        simp
        omega
    have all : ∀ (Φ2 : QD) (cc : SH), (∀ a b, inR a → inR b → Φ2 (.tup [.int a, .int b]) cc) → ixD (.lst [.tup [.int (X.fmod 7), .int (Y.fmod 7)], .tup [.int (X.fmod 9 - 4), .int 0], .tup [.int (X - 1000), .int (Y - 1000)], .tup [.int (X.fmod 7), .int (Y.fmod 7)], .tup [.int (X.fmod 2), .int (Y.fmod 2)]]) (.int w) cc Φ2 := by
      intro Φ2 cc hq
      have : w = 0 ∨ w = 1 ∨ w = 2 ∨ w = 3 ∨ w = 4 := by omega
      rcases this with rfl | rfl | rfl | rfl | rfl
      · exact e_ixL (atI_nat (j := 0) rfl) (hq _ _ (by unfold inR; omega) (by unfold inR; omega))
      · exact e_ixL (atI_nat (j := 1) rfl) (hq _ _ (by unfold inR; omega) (by unfold inR; omega))
      · exact e_ixL (atI_nat (j := 2) rfl) (hq _ _ (by unfold inR; omega) (by unfold inR; omega))
      · exact e_ixL (atI_nat (j := 3) rfl) (hq _ _ (by unfold inR; omega) (by unfold inR; omega))
      · exact e_ixL (atI_nat (j := 4) rfl) (hq _ _ (by unfold inR; omega) (by unfold inR; omega))
    refine all _ _ fun a b ha hb' => ?_
    repeat walk_at "k"
    refine e_dputD st1_at (by rw [len_dic]; exact lt_sz (by omega)) ?_
    rw [st1_put, put_new hy]
    repeat walk_at "k"
    refine e_ifd (fun h => ?_) (fun h => ?_)
    · repeat walk_at "k"
      refine s_take (st1_box hb) (by omega) (by decide) (by decide) fun Z Z0 Z1 => ?_
      rw [st1_set hb]
      repeat walk_at "k"
      refine e_ifd (fun h => ?_) (fun h => ?_)
      · repeat walk_at "k"
        have two : ∀ (Φ2 : QD) (cc : SH), (∀ a, inR a → Φ2 (.int a) cc) → ixD (.lst [.int (-1000), .int 1000]) (.int (X.fmod 2)) cc Φ2 := by
          intro Φ2 cc hq
          have : X.fmod 2 = 0 ∨ X.fmod 2 = 1 := by omega
          rcases this with e | e
          · rw [e]; exact e_ixL (atI_nat (j := 0) rfl) (hq _ (by unfold inR; omega))
          · rw [e]; exact e_ixL (atI_nat (j := 1) rfl) (hq _ (by unfold inR; omega))
        have three : ∀ (Φ2 : QD) (cc : SH), (∀ a, inR a → Φ2 (.int a) cc) → ixD (.lst [.int (-1000), .int 0, .int 1000]) (.int (Y.fmod 3)) cc Φ2 := by
          intro Φ2 cc hq
          have : Y.fmod 3 = 0 ∨ Y.fmod 3 = 1 ∨ Y.fmod 3 = 2 := by omega
          rcases this with e | e | e
          · rw [e]; exact e_ixL (atI_nat (j := 0) rfl) (hq _ (by unfold inR; omega))
          · rw [e]; exact e_ixL (atI_nat (j := 1) rfl) (hq _ (by unfold inR; omega))
          · rw [e]; exact e_ixL (atI_nat (j := 2) rfl) (hq _ (by unfold inR; omega))
        refine two _ _ fun a' ha' => ?_
        repeat walk_at "k"
        refine three _ _ fun b' hb2 => ?_
        repeat walk_at "k"
        refine e_dputD st1_at (by rw [len_dic]; exact lt_sz (by simp; omega)) ?_
        rw [st1_put, put_last hy]
        exact fin _ _ _ _ _ _ ha' hb2 (by omega)
      · repeat walk_at "k"
        exact fin _ _ _ _ _ _ ha hb' (by omega)
    · repeat walk_at "k"
      exact fin _ _ _ _ _ _ ha hb' (by omega)
  · rintro δ c2 ⟨ps, j, u4, u5, u6, u7, hk, hr, hj, rfl, rfl⟩
    rw [List.nil_append] at hk hj
    refine ⟨rfl, ?_⟩
    repeat walk_at "k"
    refine e_lkD st1_at ?_
    rw [st1_put]
    exact clo_box (nbK_dic _ ps) (q ps j hk hr (by omega))
theorem neg_neg' (x : Int) : 0 - x = -x := by omega
theorem fT2 (ps : List Pt) : mapP fT (mapP fT ps) = mapP (fK (-1)) ps := by
  rw [mapP_map]
  unfold mapP
  refine List.map_congr_left fun p _ => ?_
  simp only [fT, fK]
  congr 2 <;> omega
theorem fM2 (ps : List Pt) : mapP fM (mapP fM ps) = ps := by
  rw [mapP_map]
  unfold mapP
  conv => rhs; rw [← List.map_id ps]
  refine List.map_congr_left fun p _ => ?_
  simp only [fM, id]
  rw [Int.neg_neg]
theorem noOut {ps : List Pt} (h : ∀ p ∈ ps, inR p.2.1 ∧ inR p.2.2) : firstOut ps = none := by
  unfold firstOut
  rw [List.find?_eq_none.mpr fun p hp => by unfold badP; simp [(h p hp).1, (h p hp).2]]
  rfl
theorem law_true (ns : List Int) (hl : ns.length ≤ 63) : m_law T [.scr (ns.map .int)] [] noX fun d _ => d = .bl true := by
  refine e_fn (δ := [some _, none, none, none, none, none, none, none]) rfl rfl ?_
  repeat walk_at "k"
  rw [List.length_map]
  have hN : ∃ N : Nat, N ≤ 8 ∧ (if (if (ns.length : Int) < 6 then (ns.length : Int) else 6) > 2 then (if (ns.length : Int) < 6 then (ns.length : Int) else 6) else 2) = (N : Int) := by
    by_cases h1 : (ns.length : Int) < 6
    · rw [if_pos h1]
      by_cases h2 : (ns.length : Int) > 2
      · rw [if_pos h2]; exact ⟨ns.length, by omega, rfl⟩
      · rw [if_neg h2]; exact ⟨2, by decide, rfl⟩
    · rw [if_neg h1]; exact ⟨6, by decide, rfl⟩
  obtain ⟨N, hN8, eN⟩ := hN
  rw [eN]
  refine ⟨⟨by omega, by omega⟩, ?_⟩
  rw [Int.toNat_natCast]
  refine for_inv (fun δ c' => ∃ x1 x2 x3 x4, δ = [some (.scr (ns.map .int)), x1, x2, x3, x4, none, none, none]) _ ?_ ?_ _ _ ⟨_, _, _, _, rfl⟩
  · rintro x hx δ c' e' ⟨x1, x2, x3, x4, rfl⟩ nx _ _ _ _
    obtain ⟨j, hj, rfl⟩ := List.mem_map.mp hx
    have hj2 := List.mem_range.mp hj
    refine ⟨trivial, ?_⟩
    repeat walk_at "k"
    rw [Int.zero_add]
    refine s_cell hl (by omega) fun i0 => ?_
    repeat walk_at "k"
    refine s_box ?_
    have hb0 : (c' ++ [SO.box 0])[c'.length]? = some (.box 0) := by
      rw [List.getElem?_append_right (Nat.le_refl _), Nat.sub_self]; rfl
    generalize c' ++ [SO.box 0] = c0 at hb0
    generalize c'.length = i at hb0
    repeat walk_at "k"
    refine s_take hb0 (by decide) (by decide) (by decide) fun d d0 d1 => ?_
    repeat walk_at "k"
    rw [show (1 : Int) + d = ((1 + d.toNat : Nat) : Int) by omega]
    refine s_names (box_set hb0) (by decide) (by omega) fun xs jb hg hjb => ?_
    rw [List.set_set]
    repeat walk_at "k"
    refine s_pts (box_set hb0) (by omega) hg (by omega) fun ps jp hk hr hjp => ?_
    rw [List.set_set]
    have o : OkP ps := ⟨fun p hp => hg.name _ (by rw [← hk]; exact List.mem_map.mpr ⟨p, hp, rfl⟩), by rw [hk]; exact hg.nd, hr, by have := hg.len; rw [← hk, List.length_map] at this; omega, by have := hg.len; rw [← hk, List.length_map] at this; omega⟩
    repeat walk_at "k"
    refine s_init o fun qs hq hs => ?_
    have oq : OkS qs := ⟨o.perm hq, hs⟩
    have hbp : (c0.set i (SO.box jp))[i]? = some (.box jp) := box_set hb0
    repeat walk_at "k"
    refine i_turned ?_
    repeat walk_at "k"
    refine s_turned oq.toOkP oq.so ?_
    repeat walk_at "k"
    refine i_points ?_
    repeat walk_at "k"
    refine s_points ?_
    repeat walk_at "k"
    refine lc_pts fT o.nd o.l2 (fun p hp k hk => ?_) ?_
    · repeat walk_at "k"
      rw [neg_neg']
      exact hk
    repeat walk_at "k"
    refine e_dpts fT o.nd ?_
    repeat walk_at "k"
    refine .inl (.inr (e_eqP (by rw [mapP_keys]; exact o.nd) (mapP_perm fT hq) ?_))
    repeat walk_at "k"
    refine i_mirrored ?_
    repeat walk_at "k"
    refine s_mirrored oq.toOkP oq.so ?_
    repeat walk_at "k"
    refine i_points ?_
    repeat walk_at "k"
    refine s_points ?_
    repeat walk_at "k"
    refine lc_pts fM o.nd o.l2 (fun p hp k hk => ?_) ?_
    · repeat walk_at "k"
      rw [neg_neg']
      exact hk
    repeat walk_at "k"
    refine e_dpts fM o.nd ?_
    repeat walk_at "k"
    refine .inl (.inr (e_eqP (by rw [mapP_keys]; exact o.nd) (mapP_perm fM hq) ?_))
    repeat walk_at "k"
    have oT : OkP (mapP fT qs) := oq.toOkP.map fT fun p hp => ⟨inR_neg (oq.rg p hp).2, (oq.rg p hp).1⟩
    have oM : OkP (mapP fM qs) := oq.toOkP.map fM fun p hp => ⟨inR_neg (oq.rg p hp).1, (oq.rg p hp).2⟩
    refine i_turned ?_
    repeat walk_at "k"
    refine s_turned oq.toOkP oq.so ?_
    repeat walk_at "k"
    refine i_turned ?_
    repeat walk_at "k"
    refine s_turned oT (by rw [mapP_keys]; exact oq.so) ?_
    rw [fT2]
    repeat walk_at "k"
    refine i_stretched ?_
    repeat walk_at "k"
    have rK : ∀ p ∈ mapP (fK (-1)) qs, inR p.2.1 ∧ inR p.2.2 := fun p hp => by
      obtain ⟨r, h1, rfl⟩ := List.mem_map.mp hp
      have := oq.rg r h1
      unfold inR at *
      simp only [fK]
      omega
    refine s_stretched (by decide) oq (fun v h => absurd h (by rw [noOut rK]; intro z; cases z)) fun h p => ?_
    refine e_cmpP p.nd (.refl _) ?_
    repeat walk_at "k"
    refine i_mirrored ?_
    repeat walk_at "k"
    refine s_mirrored oq.toOkP oq.so ?_
    repeat walk_at "k"
    refine i_mirrored ?_
    repeat walk_at "k"
    refine s_mirrored oM (by rw [mapP_keys]; exact oq.so) ?_
    rw [fM2]
    repeat walk_at "k"
    refine e_cmpP oq.nd (.refl _) ?_
    repeat walk_at "k"
    refine s_moves o oq hq hbp (by omega) fun jm => ?_
    repeat walk_at "k"
    refine s_refusals ?_
    repeat walk_at "k"
    exact nx _ _ ⟨_, _, _, _, rfl⟩
  · rintro δ c' ⟨x1, x2, x3, x4, rfl⟩
    refine ⟨trivial, ?_⟩
    repeat walk_at "k"
    exact .inr ⟨fun i o h => by simp at h, rfl, rfl⟩

end K11

set_option Elab.async false
set_option linter.all false
set_option maxRecDepth 100000
set_option maxHeartbeats 3900000
namespace K11
open PySem PySem.Spec PyProof.Rows L2 G M
theorem all_mk {l : PySem.W.OpenLaw} {w : World} {K : PySem.W.Frag} {h : Heap} {mg : Str → Option Value} {fa : Addr} {C_Placing : Addr} {f_is_name : Addr} {od_is_name an_is_name : Option Addr} {sl_is_name : Array (Option Value)} {oc_is_name kV_is_name dc_is_name pm_is_name ct_is_name : Value} {cd_is_name : Value} {f_is_integer : Addr} {od_is_integer an_is_integer : Option Addr} {sl_is_integer : Array (Option Value)} {oc_is_integer kV_is_integer dc_is_integer pm_is_integer ct_is_integer : Value} {cd_is_integer : Value} {f_is_whole : Addr} {od_is_whole an_is_whole : Option Addr} {sl_is_whole : Array (Option Value)} {oc_is_whole kV_is_whole dc_is_whole pm_is_whole ct_is_whole : Value} {cd_is_whole : Value} {f_is_point : Addr} {od_is_point an_is_point : Option Addr} {sl_is_point : Array (Option Value)} {oc_is_point kV_is_point dc_is_point pm_is_point ct_is_point : Value} {cd_is_point : Value} {f_Placing_init : Addr} {od_Placing_init an_Placing_init : Option Addr} {sl_Placing_init : Array (Option Value)} {oc_Placing_init kV_Placing_init dc_Placing_init pm_Placing_init ct_Placing_init : Value} {cd_Placing_init : Value} {f_Placing_points : Addr} {od_Placing_points an_Placing_points : Option Addr} {sl_Placing_points : Array (Option Value)} {oc_Placing_points kV_Placing_points dc_Placing_points pm_Placing_points ct_Placing_points : Value} {cd_Placing_points : Value} {f_Placing_eq : Addr} {od_Placing_eq an_Placing_eq : Option Addr} {sl_Placing_eq : Array (Option Value)} {oc_Placing_eq kV_Placing_eq dc_Placing_eq pm_Placing_eq ct_Placing_eq : Value} {cd_Placing_eq : Value} {f_Placing_placed : Addr} {od_Placing_placed an_Placing_placed : Option Addr} {sl_Placing_placed : Array (Option Value)} {oc_Placing_placed kV_Placing_placed dc_Placing_placed pm_Placing_placed ct_Placing_placed : Value} {cd_Placing_placed : Value} {f_Placing_moved : Addr} {od_Placing_moved an_Placing_moved : Option Addr} {sl_Placing_moved : Array (Option Value)} {oc_Placing_moved kV_Placing_moved dc_Placing_moved pm_Placing_moved ct_Placing_moved : Value} {cd_Placing_moved : Value} {f_Placing_turned : Addr} {od_Placing_turned an_Placing_turned : Option Addr} {sl_Placing_turned : Array (Option Value)} {oc_Placing_turned kV_Placing_turned dc_Placing_turned pm_Placing_turned ct_Placing_turned : Value} {cd_Placing_turned : Value} {f_Placing_mirrored : Addr} {od_Placing_mirrored an_Placing_mirrored : Option Addr} {sl_Placing_mirrored : Array (Option Value)} {oc_Placing_mirrored kV_Placing_mirrored dc_Placing_mirrored pm_Placing_mirrored ct_Placing_mirrored : Value} {cd_Placing_mirrored : Value} {f_Placing_stretched : Addr} {od_Placing_stretched an_Placing_stretched : Option Addr} {sl_Placing_stretched : Array (Option Value)} {oc_Placing_stretched kV_Placing_stretched dc_Placing_stretched pm_Placing_stretched ct_Placing_stretched : Value} {cd_Placing_stretched : Value} {f_l_cell : Addr} {od_l_cell an_l_cell : Option Addr} {sl_l_cell : Array (Option Value)} {oc_l_cell kV_l_cell dc_l_cell pm_l_cell ct_l_cell : Value} {cd_l_cell : Value} {f_l_box : Addr} {od_l_box an_l_box : Option Addr} {sl_l_box : Array (Option Value)} {oc_l_box kV_l_box dc_l_box pm_l_box ct_l_box : Value} {cd_l_box : Value} {f_l_take : Addr} {od_l_take an_l_take : Option Addr} {sl_l_take : Array (Option Value)} {oc_l_take kV_l_take dc_l_take pm_l_take ct_l_take : Value} {cd_l_take : Value} {f_l_mixed : Addr} {od_l_mixed an_l_mixed : Option Addr} {sl_l_mixed : Array (Option Value)} {oc_l_mixed kV_l_mixed dc_l_mixed pm_l_mixed ct_l_mixed : Value} {cd_l_mixed : Value} {f_l_names : Addr} {od_l_names an_l_names : Option Addr} {sl_l_names : Array (Option Value)} {oc_l_names kV_l_names dc_l_names pm_l_names ct_l_names : Value} {cd_l_names : Value} {f_l_points : Addr} {od_l_points an_l_points : Option Addr} {sl_l_points : Array (Option Value)} {oc_l_points kV_l_points dc_l_points pm_l_points ct_l_points : Value} {cd_l_points : Value} {f_l_caught : Addr} {od_l_caught an_l_caught : Option Addr} {sl_l_caught : Array (Option Value)} {oc_l_caught kV_l_caught dc_l_caught pm_l_caught ct_l_caught : Value} {cd_l_caught : Value} {f_l_is : Addr} {od_l_is an_l_is : Option Addr} {sl_l_is : Array (Option Value)} {oc_l_is kV_l_is dc_l_is pm_l_is ct_l_is : Value} {cd_l_is : Value} {f_l_out : Addr} {od_l_out an_l_out : Option Addr} {sl_l_out : Array (Option Value)} {oc_l_out kV_l_out dc_l_out pm_l_out ct_l_out : Value} {cd_l_out : Value} {f_l_case_right : Addr} {od_l_case_right an_l_case_right : Option Addr} {sl_l_case_right : Array (Option Value)} {oc_l_case_right kV_l_case_right dc_l_case_right pm_l_case_right ct_l_case_right : Value} {cd_l_case_right : Value} {f_l_moves_right : Addr} {od_l_moves_right an_l_moves_right : Option Addr} {sl_l_moves_right : Array (Option Value)} {oc_l_moves_right kV_l_moves_right dc_l_moves_right pm_l_moves_right ct_l_moves_right : Value} {c_l_moves_right P_l_moves_right : Addr} {vC_l_moves_right : Array Value} {oC_l_moves_right : Value} {dC_l_moves_right : Option Addr} {sC_l_moves_right : Array (Option Value)} {f_l_refusals_right : Addr} {od_l_refusals_right an_l_refusals_right : Option Addr} {sl_l_refusals_right : Array (Option Value)} {oc_l_refusals_right kV_l_refusals_right dc_l_refusals_right pm_l_refusals_right ct_l_refusals_right : Value} {c_l_refusals_right P_l_refusals_right : Addr} {vC_l_refusals_right : Array Value} {oC_l_refusals_right : Value} {dC_l_refusals_right : Option Addr} {sC_l_refusals_right : Array (Option Value)} {f_law : Addr} {od_law an_law : Option Addr} {sl_law : Array (Option Value)} {oc_law kV_law dc_law pm_law ct_law : Value} {cd_law : Value} {t_MOST_MARKS : Tok} {t_FARTHEST : Tok} {C_InvalidPoints : Addr} {C_OutOfRange : Addr} {C_InvalidShift : Addr} {C_InvalidFactor : Addr} {C_NetError : Addr} {I_InvalidPoints : Addr} {nm_InvalidPoints qq_InvalidPoints : Str} {N_InvalidPoints : Addr} {bs_InvalidPoints bm_InvalidPoints : List Value} {sn_InvalidPoints : List Str} {sub_InvalidPoints : List Value} {ab_InvalidPoints : Bool} {col_InvalidPoints : Option Bool} {dd_InvalidPoints : Option Addr} {x0_InvalidPoints x1_InvalidPoints x2_InvalidPoints x3_InvalidPoints x5_InvalidPoints : Option Value} {oc_InvalidPoints doc_InvalidPoints pm_InvalidPoints ct_InvalidPoints ccl_InvalidPoints cl_InvalidPoints : Value} {od_InvalidPoints an_InvalidPoints cdd_InvalidPoints cld_InvalidPoints : Option Addr} {osl_InvalidPoints ccs_InvalidPoints csl_InvalidPoints : Array (Option Value)} {cda_InvalidPoints cc_InvalidPoints : Addr} {p1_InvalidPoints p2_InvalidPoints a1_InvalidPoints a2_InvalidPoints a3_InvalidPoints a4_InvalidPoints a5_InvalidPoints a6_InvalidPoints q1_InvalidPoints q2_InvalidPoints q3_InvalidPoints q4_InvalidPoints : Pos} {mm_InvalidPoints q_InvalidPoints file_InvalidPoints : Str} {j_InvalidPoints : Nat} {vs_InvalidPoints : Array Value} {tf_InvalidPoints : Tok} {I_OutOfRange : Addr} {nm_OutOfRange qq_OutOfRange : Str} {N_OutOfRange : Addr} {bs_OutOfRange bm_OutOfRange : List Value} {sn_OutOfRange : List Str} {sub_OutOfRange : List Value} {ab_OutOfRange : Bool} {col_OutOfRange : Option Bool} {dd_OutOfRange : Option Addr} {x0_OutOfRange x1_OutOfRange x2_OutOfRange x3_OutOfRange x5_OutOfRange : Option Value} {oc_OutOfRange doc_OutOfRange pm_OutOfRange ct_OutOfRange ccl_OutOfRange cl_OutOfRange : Value} {od_OutOfRange an_OutOfRange cdd_OutOfRange cld_OutOfRange : Option Addr} {osl_OutOfRange ccs_OutOfRange csl_OutOfRange : Array (Option Value)} {cda_OutOfRange cc_OutOfRange : Addr} {p1_OutOfRange p2_OutOfRange a1_OutOfRange a2_OutOfRange a3_OutOfRange a4_OutOfRange a5_OutOfRange a6_OutOfRange q1_OutOfRange q2_OutOfRange q3_OutOfRange q4_OutOfRange : Pos} {mm_OutOfRange q_OutOfRange file_OutOfRange : Str} {j_OutOfRange : Nat} {vs_OutOfRange : Array Value} {tf_OutOfRange : Tok} {I_InvalidShift : Addr} {nm_InvalidShift qq_InvalidShift : Str} {N_InvalidShift : Addr} {bs_InvalidShift bm_InvalidShift : List Value} {sn_InvalidShift : List Str} {sub_InvalidShift : List Value} {ab_InvalidShift : Bool} {col_InvalidShift : Option Bool} {dd_InvalidShift : Option Addr} {x0_InvalidShift x1_InvalidShift x2_InvalidShift x3_InvalidShift x5_InvalidShift : Option Value} {oc_InvalidShift doc_InvalidShift pm_InvalidShift ct_InvalidShift ccl_InvalidShift cl_InvalidShift : Value} {od_InvalidShift an_InvalidShift cdd_InvalidShift cld_InvalidShift : Option Addr} {osl_InvalidShift ccs_InvalidShift csl_InvalidShift : Array (Option Value)} {cda_InvalidShift cc_InvalidShift : Addr} {p1_InvalidShift p2_InvalidShift a1_InvalidShift a2_InvalidShift a3_InvalidShift a4_InvalidShift a5_InvalidShift a6_InvalidShift q1_InvalidShift q2_InvalidShift q3_InvalidShift q4_InvalidShift : Pos} {mm_InvalidShift q_InvalidShift file_InvalidShift : Str} {j_InvalidShift : Nat} {vs_InvalidShift : Array Value} {tf_InvalidShift : Tok} {I_InvalidFactor : Addr} {nm_InvalidFactor qq_InvalidFactor : Str} {N_InvalidFactor : Addr} {bs_InvalidFactor bm_InvalidFactor : List Value} {sn_InvalidFactor : List Str} {sub_InvalidFactor : List Value} {ab_InvalidFactor : Bool} {col_InvalidFactor : Option Bool} {dd_InvalidFactor : Option Addr} {x0_InvalidFactor x1_InvalidFactor x2_InvalidFactor x3_InvalidFactor x5_InvalidFactor : Option Value} {oc_InvalidFactor doc_InvalidFactor pm_InvalidFactor ct_InvalidFactor ccl_InvalidFactor cl_InvalidFactor : Value} {od_InvalidFactor an_InvalidFactor cdd_InvalidFactor cld_InvalidFactor : Option Addr} {osl_InvalidFactor ccs_InvalidFactor csl_InvalidFactor : Array (Option Value)} {cda_InvalidFactor cc_InvalidFactor : Addr} {p1_InvalidFactor p2_InvalidFactor a1_InvalidFactor a2_InvalidFactor a3_InvalidFactor a4_InvalidFactor a5_InvalidFactor a6_InvalidFactor q1_InvalidFactor q2_InvalidFactor q3_InvalidFactor q4_InvalidFactor : Pos} {mm_InvalidFactor q_InvalidFactor file_InvalidFactor : Str} {j_InvalidFactor : Nat} {vs_InvalidFactor : Array Value} {tf_InvalidFactor : Tok} (X : K.In h) (Gx : h.Ns mainGlobals mg) (hfa : mg "law" = some (.ref fa))
    (aC_Placing : PySem.W.nsIn K mainGlobals "Placing" = some (some (.ref C_Placing)))
    (a_is_name : PySem.W.nsIn K mainGlobals "is_name" = some (some (.ref f_is_name)))
    (l_is_name : K.lookup f_is_name = some ⟨oc_is_name, od_is_name, .func (PySem.W.fnOf "is_name" "is_name" (defArgs s_is_name) (defBody s_is_name) (defScope s_is_name) .none kV_is_name dc_is_name pm_is_name an_is_name cd_is_name ct_is_name), sl_is_name⟩)
    (cc_is_name : PySem.W.codeIn K cd_is_name "is_name" = true)
    (k_is_name : PySem.W.keepIn K (.ref f_is_name) = true)
    (a_is_integer : PySem.W.nsIn K mainGlobals "is_integer" = some (some (.ref f_is_integer)))
    (l_is_integer : K.lookup f_is_integer = some ⟨oc_is_integer, od_is_integer, .func (PySem.W.fnOf "is_integer" "is_integer" (defArgs s_is_integer) (defBody s_is_integer) (defScope s_is_integer) .none kV_is_integer dc_is_integer pm_is_integer an_is_integer cd_is_integer ct_is_integer), sl_is_integer⟩)
    (cc_is_integer : PySem.W.codeIn K cd_is_integer "is_integer" = true)
    (k_is_integer : PySem.W.keepIn K (.ref f_is_integer) = true)
    (a_is_whole : PySem.W.nsIn K mainGlobals "is_whole" = some (some (.ref f_is_whole)))
    (l_is_whole : K.lookup f_is_whole = some ⟨oc_is_whole, od_is_whole, .func (PySem.W.fnOf "is_whole" "is_whole" (defArgs s_is_whole) (defBody s_is_whole) (defScope s_is_whole) .none kV_is_whole dc_is_whole pm_is_whole an_is_whole cd_is_whole ct_is_whole), sl_is_whole⟩)
    (cc_is_whole : PySem.W.codeIn K cd_is_whole "is_whole" = true)
    (k_is_whole : PySem.W.keepIn K (.ref f_is_whole) = true)
    (a_is_point : PySem.W.nsIn K mainGlobals "is_point" = some (some (.ref f_is_point)))
    (l_is_point : K.lookup f_is_point = some ⟨oc_is_point, od_is_point, .func (PySem.W.fnOf "is_point" "is_point" (defArgs s_is_point) (defBody s_is_point) (defScope s_is_point) .none kV_is_point dc_is_point pm_is_point an_is_point cd_is_point ct_is_point), sl_is_point⟩)
    (cc_is_point : PySem.W.codeIn K cd_is_point "is_point" = true)
    (k_is_point : PySem.W.keepIn K (.ref f_is_point) = true)
    (a_Placing_init : PySem.W.findIn K (.ref C_Placing) "__init__" = some (some (.ref f_Placing_init)))
    (i_Placing_init : PySem.W.isFn K (.ref f_Placing_init) = true)
    (l_Placing_init : K.lookup f_Placing_init = some ⟨oc_Placing_init, od_Placing_init, .func (PySem.W.fnOf "__init__" "Placing.__init__" (defArgs s_Placing_init) (defBody s_Placing_init) (defScope s_Placing_init) .none kV_Placing_init dc_Placing_init pm_Placing_init an_Placing_init cd_Placing_init ct_Placing_init), sl_Placing_init⟩)
    (cc_Placing_init : PySem.W.codeIn K cd_Placing_init "Placing.__init__" = true)
    (k_Placing_init : PySem.W.keepIn K (.ref f_Placing_init) = true)
    (a_Placing_points : PySem.W.findIn K (.ref C_Placing) "points" = some (some (.ref f_Placing_points)))
    (i_Placing_points : PySem.W.isFn K (.ref f_Placing_points) = true)
    (l_Placing_points : K.lookup f_Placing_points = some ⟨oc_Placing_points, od_Placing_points, .func (PySem.W.fnOf "points" "Placing.points" (defArgs s_Placing_points) (defBody s_Placing_points) (defScope s_Placing_points) .none kV_Placing_points dc_Placing_points pm_Placing_points an_Placing_points cd_Placing_points ct_Placing_points), sl_Placing_points⟩)
    (cc_Placing_points : PySem.W.codeIn K cd_Placing_points "Placing.points" = true)
    (k_Placing_points : PySem.W.keepIn K (.ref f_Placing_points) = true)
    (a_Placing_eq : PySem.W.findIn K (.ref C_Placing) "__eq__" = some (some (.ref f_Placing_eq)))
    (i_Placing_eq : PySem.W.isFn K (.ref f_Placing_eq) = true)
    (l_Placing_eq : K.lookup f_Placing_eq = some ⟨oc_Placing_eq, od_Placing_eq, .func (PySem.W.fnOf "__eq__" "Placing.__eq__" (defArgs s_Placing_eq) (defBody s_Placing_eq) (defScope s_Placing_eq) .none kV_Placing_eq dc_Placing_eq pm_Placing_eq an_Placing_eq cd_Placing_eq ct_Placing_eq), sl_Placing_eq⟩)
    (cc_Placing_eq : PySem.W.codeIn K cd_Placing_eq "Placing.__eq__" = true)
    (k_Placing_eq : PySem.W.keepIn K (.ref f_Placing_eq) = true)
    (a_Placing_placed : PySem.W.findIn K (.ref C_Placing) "placed" = some (some (.ref f_Placing_placed)))
    (i_Placing_placed : PySem.W.isFn K (.ref f_Placing_placed) = true)
    (l_Placing_placed : K.lookup f_Placing_placed = some ⟨oc_Placing_placed, od_Placing_placed, .func (PySem.W.fnOf "placed" "Placing.placed" (defArgs s_Placing_placed) (defBody s_Placing_placed) (defScope s_Placing_placed) .none kV_Placing_placed dc_Placing_placed pm_Placing_placed an_Placing_placed cd_Placing_placed ct_Placing_placed), sl_Placing_placed⟩)
    (cc_Placing_placed : PySem.W.codeIn K cd_Placing_placed "Placing.placed" = true)
    (k_Placing_placed : PySem.W.keepIn K (.ref f_Placing_placed) = true)
    (a_Placing_moved : PySem.W.findIn K (.ref C_Placing) "moved" = some (some (.ref f_Placing_moved)))
    (i_Placing_moved : PySem.W.isFn K (.ref f_Placing_moved) = true)
    (l_Placing_moved : K.lookup f_Placing_moved = some ⟨oc_Placing_moved, od_Placing_moved, .func (PySem.W.fnOf "moved" "Placing.moved" (defArgs s_Placing_moved) (defBody s_Placing_moved) (defScope s_Placing_moved) .none kV_Placing_moved dc_Placing_moved pm_Placing_moved an_Placing_moved cd_Placing_moved ct_Placing_moved), sl_Placing_moved⟩)
    (cc_Placing_moved : PySem.W.codeIn K cd_Placing_moved "Placing.moved" = true)
    (k_Placing_moved : PySem.W.keepIn K (.ref f_Placing_moved) = true)
    (a_Placing_turned : PySem.W.findIn K (.ref C_Placing) "turned" = some (some (.ref f_Placing_turned)))
    (i_Placing_turned : PySem.W.isFn K (.ref f_Placing_turned) = true)
    (l_Placing_turned : K.lookup f_Placing_turned = some ⟨oc_Placing_turned, od_Placing_turned, .func (PySem.W.fnOf "turned" "Placing.turned" (defArgs s_Placing_turned) (defBody s_Placing_turned) (defScope s_Placing_turned) .none kV_Placing_turned dc_Placing_turned pm_Placing_turned an_Placing_turned cd_Placing_turned ct_Placing_turned), sl_Placing_turned⟩)
    (cc_Placing_turned : PySem.W.codeIn K cd_Placing_turned "Placing.turned" = true)
    (k_Placing_turned : PySem.W.keepIn K (.ref f_Placing_turned) = true)
    (a_Placing_mirrored : PySem.W.findIn K (.ref C_Placing) "mirrored" = some (some (.ref f_Placing_mirrored)))
    (i_Placing_mirrored : PySem.W.isFn K (.ref f_Placing_mirrored) = true)
    (l_Placing_mirrored : K.lookup f_Placing_mirrored = some ⟨oc_Placing_mirrored, od_Placing_mirrored, .func (PySem.W.fnOf "mirrored" "Placing.mirrored" (defArgs s_Placing_mirrored) (defBody s_Placing_mirrored) (defScope s_Placing_mirrored) .none kV_Placing_mirrored dc_Placing_mirrored pm_Placing_mirrored an_Placing_mirrored cd_Placing_mirrored ct_Placing_mirrored), sl_Placing_mirrored⟩)
    (cc_Placing_mirrored : PySem.W.codeIn K cd_Placing_mirrored "Placing.mirrored" = true)
    (k_Placing_mirrored : PySem.W.keepIn K (.ref f_Placing_mirrored) = true)
    (a_Placing_stretched : PySem.W.findIn K (.ref C_Placing) "stretched" = some (some (.ref f_Placing_stretched)))
    (i_Placing_stretched : PySem.W.isFn K (.ref f_Placing_stretched) = true)
    (l_Placing_stretched : K.lookup f_Placing_stretched = some ⟨oc_Placing_stretched, od_Placing_stretched, .func (PySem.W.fnOf "stretched" "Placing.stretched" (defArgs s_Placing_stretched) (defBody s_Placing_stretched) (defScope s_Placing_stretched) .none kV_Placing_stretched dc_Placing_stretched pm_Placing_stretched an_Placing_stretched cd_Placing_stretched ct_Placing_stretched), sl_Placing_stretched⟩)
    (cc_Placing_stretched : PySem.W.codeIn K cd_Placing_stretched "Placing.stretched" = true)
    (k_Placing_stretched : PySem.W.keepIn K (.ref f_Placing_stretched) = true)
    (a_l_cell : PySem.W.nsIn K mainGlobals "_law_cell" = some (some (.ref f_l_cell)))
    (l_l_cell : K.lookup f_l_cell = some ⟨oc_l_cell, od_l_cell, .func (PySem.W.fnOf "_law_cell" "_law_cell" (defArgs s_l_cell) (defBody s_l_cell) (defScope s_l_cell) .none kV_l_cell dc_l_cell pm_l_cell an_l_cell cd_l_cell ct_l_cell), sl_l_cell⟩)
    (cc_l_cell : PySem.W.codeIn K cd_l_cell "_law_cell" = true)
    (k_l_cell : PySem.W.keepIn K (.ref f_l_cell) = true)
    (a_l_box : PySem.W.nsIn K mainGlobals "_law_box" = some (some (.ref f_l_box)))
    (l_l_box : K.lookup f_l_box = some ⟨oc_l_box, od_l_box, .func (PySem.W.fnOf "_law_box" "_law_box" (defArgs s_l_box) (defBody s_l_box) (defScope s_l_box) .none kV_l_box dc_l_box pm_l_box an_l_box cd_l_box ct_l_box), sl_l_box⟩)
    (cc_l_box : PySem.W.codeIn K cd_l_box "_law_box" = true)
    (k_l_box : PySem.W.keepIn K (.ref f_l_box) = true)
    (a_l_take : PySem.W.nsIn K mainGlobals "_law_take" = some (some (.ref f_l_take)))
    (l_l_take : K.lookup f_l_take = some ⟨oc_l_take, od_l_take, .func (PySem.W.fnOf "_law_take" "_law_take" (defArgs s_l_take) (defBody s_l_take) (defScope s_l_take) .none kV_l_take dc_l_take pm_l_take an_l_take cd_l_take ct_l_take), sl_l_take⟩)
    (cc_l_take : PySem.W.codeIn K cd_l_take "_law_take" = true)
    (k_l_take : PySem.W.keepIn K (.ref f_l_take) = true)
    (a_l_mixed : PySem.W.nsIn K mainGlobals "_law_mixed" = some (some (.ref f_l_mixed)))
    (l_l_mixed : K.lookup f_l_mixed = some ⟨oc_l_mixed, od_l_mixed, .func (PySem.W.fnOf "_law_mixed" "_law_mixed" (defArgs s_l_mixed) (defBody s_l_mixed) (defScope s_l_mixed) .none kV_l_mixed dc_l_mixed pm_l_mixed an_l_mixed cd_l_mixed ct_l_mixed), sl_l_mixed⟩)
    (cc_l_mixed : PySem.W.codeIn K cd_l_mixed "_law_mixed" = true)
    (k_l_mixed : PySem.W.keepIn K (.ref f_l_mixed) = true)
    (a_l_names : PySem.W.nsIn K mainGlobals "_law_names" = some (some (.ref f_l_names)))
    (l_l_names : K.lookup f_l_names = some ⟨oc_l_names, od_l_names, .func (PySem.W.fnOf "_law_names" "_law_names" (defArgs s_l_names) (defBody s_l_names) (defScope s_l_names) .none kV_l_names dc_l_names pm_l_names an_l_names cd_l_names ct_l_names), sl_l_names⟩)
    (cc_l_names : PySem.W.codeIn K cd_l_names "_law_names" = true)
    (k_l_names : PySem.W.keepIn K (.ref f_l_names) = true)
    (a_l_points : PySem.W.nsIn K mainGlobals "_law_points" = some (some (.ref f_l_points)))
    (l_l_points : K.lookup f_l_points = some ⟨oc_l_points, od_l_points, .func (PySem.W.fnOf "_law_points" "_law_points" (defArgs s_l_points) (defBody s_l_points) (defScope s_l_points) .none kV_l_points dc_l_points pm_l_points an_l_points cd_l_points ct_l_points), sl_l_points⟩)
    (cc_l_points : PySem.W.codeIn K cd_l_points "_law_points" = true)
    (k_l_points : PySem.W.keepIn K (.ref f_l_points) = true)
    (a_l_caught : PySem.W.nsIn K mainGlobals "_law_caught" = some (some (.ref f_l_caught)))
    (l_l_caught : K.lookup f_l_caught = some ⟨oc_l_caught, od_l_caught, .func (PySem.W.fnOf "_law_caught" "_law_caught" (defArgs s_l_caught) (defBody s_l_caught) (defScope s_l_caught) .none kV_l_caught dc_l_caught pm_l_caught an_l_caught cd_l_caught ct_l_caught), sl_l_caught⟩)
    (cc_l_caught : PySem.W.codeIn K cd_l_caught "_law_caught" = true)
    (k_l_caught : PySem.W.keepIn K (.ref f_l_caught) = true)
    (a_l_is : PySem.W.nsIn K mainGlobals "_law_is" = some (some (.ref f_l_is)))
    (l_l_is : K.lookup f_l_is = some ⟨oc_l_is, od_l_is, .func (PySem.W.fnOf "_law_is" "_law_is" (defArgs s_l_is) (defBody s_l_is) (defScope s_l_is) .none kV_l_is dc_l_is pm_l_is an_l_is cd_l_is ct_l_is), sl_l_is⟩)
    (cc_l_is : PySem.W.codeIn K cd_l_is "_law_is" = true)
    (k_l_is : PySem.W.keepIn K (.ref f_l_is) = true)
    (a_l_out : PySem.W.nsIn K mainGlobals "_law_out" = some (some (.ref f_l_out)))
    (l_l_out : K.lookup f_l_out = some ⟨oc_l_out, od_l_out, .func (PySem.W.fnOf "_law_out" "_law_out" (defArgs s_l_out) (defBody s_l_out) (defScope s_l_out) .none kV_l_out dc_l_out pm_l_out an_l_out cd_l_out ct_l_out), sl_l_out⟩)
    (cc_l_out : PySem.W.codeIn K cd_l_out "_law_out" = true)
    (k_l_out : PySem.W.keepIn K (.ref f_l_out) = true)
    (a_l_case_right : PySem.W.nsIn K mainGlobals "_law_case_right" = some (some (.ref f_l_case_right)))
    (l_l_case_right : K.lookup f_l_case_right = some ⟨oc_l_case_right, od_l_case_right, .func (PySem.W.fnOf "_law_case_right" "_law_case_right" (defArgs s_l_case_right) (defBody s_l_case_right) (defScope s_l_case_right) .none kV_l_case_right dc_l_case_right pm_l_case_right an_l_case_right cd_l_case_right ct_l_case_right), sl_l_case_right⟩)
    (cc_l_case_right : PySem.W.codeIn K cd_l_case_right "_law_case_right" = true)
    (k_l_case_right : PySem.W.keepIn K (.ref f_l_case_right) = true)
    (a_l_moves_right : PySem.W.nsIn K mainGlobals "_law_moves_right" = some (some (.ref f_l_moves_right)))
    (l_l_moves_right : K.lookup f_l_moves_right = some ⟨oc_l_moves_right, od_l_moves_right, .func (PySem.W.fnOf "_law_moves_right" "_law_moves_right" (defArgs s_l_moves_right) (defBody s_l_moves_right) (defScope s_l_moves_right) .none kV_l_moves_right dc_l_moves_right pm_l_moves_right an_l_moves_right (.ref c_l_moves_right) ct_l_moves_right), sl_l_moves_right⟩)
    (cc_l_moves_right : PySem.W.codeIn K (.ref c_l_moves_right) "_law_moves_right" = true)
    (k_l_moves_right : PySem.W.keepIn K (.ref f_l_moves_right) = true)
    (lc_l_moves_right : K.lookup c_l_moves_right = some ⟨oC_l_moves_right, dC_l_moves_right, .fields vC_l_moves_right, sC_l_moves_right⟩)
    (v11_l_moves_right : vC_l_moves_right[11]? = some (.ref P_l_moves_right))
    (ch_l_moves_right : PySem.W.codeHdIn K c_l_moves_right P_l_moves_right = true)
    (np_l_moves_right : K.lookup P_l_moves_right = none)
    (tb_l_moves_right : h.get? P_l_moves_right = some (PySem.W.tabObj #[]))
    (a_l_refusals_right : PySem.W.nsIn K mainGlobals "_law_refusals_right" = some (some (.ref f_l_refusals_right)))
    (l_l_refusals_right : K.lookup f_l_refusals_right = some ⟨oc_l_refusals_right, od_l_refusals_right, .func (PySem.W.fnOf "_law_refusals_right" "_law_refusals_right" (defArgs s_l_refusals_right) (defBody s_l_refusals_right) (defScope s_l_refusals_right) .none kV_l_refusals_right dc_l_refusals_right pm_l_refusals_right an_l_refusals_right (.ref c_l_refusals_right) ct_l_refusals_right), sl_l_refusals_right⟩)
    (cc_l_refusals_right : PySem.W.codeIn K (.ref c_l_refusals_right) "_law_refusals_right" = true)
    (k_l_refusals_right : PySem.W.keepIn K (.ref f_l_refusals_right) = true)
    (lc_l_refusals_right : K.lookup c_l_refusals_right = some ⟨oC_l_refusals_right, dC_l_refusals_right, .fields vC_l_refusals_right, sC_l_refusals_right⟩)
    (v11_l_refusals_right : vC_l_refusals_right[11]? = some (.ref P_l_refusals_right))
    (ch_l_refusals_right : PySem.W.codeHdIn K c_l_refusals_right P_l_refusals_right = true)
    (np_l_refusals_right : K.lookup P_l_refusals_right = none)
    (tb_l_refusals_right : h.get? P_l_refusals_right = some (PySem.W.tabObj #[]))
    (a_law : PySem.W.nsIn K mainGlobals "law" = some (some (.ref f_law)))
    (l_law : K.lookup f_law = some ⟨oc_law, od_law, .func (PySem.W.fnOf "law" "law" (defArgs s_law) (defBody s_law) (defScope s_law) .none kV_law dc_law pm_law an_law cd_law ct_law), sl_law⟩)
    (cc_law : PySem.W.codeIn K cd_law "law" = true)
    (k_law : PySem.W.keepIn K (.ref f_law) = true)
    (pn_l_moves_right_l_refusals_right : P_l_moves_right ≠ P_l_refusals_right)
    (pg_Placing : PySem.W.plainGet K C_Placing Str.empty = true)
    (hd_Placing : PySem.W.hasDictIn K C_Placing = true)
    (po_Placing : PySem.W.plainOver K C_Placing = true)
    (sa_Placing : PySem.W.findIn K (.ref C_Placing) "__setattr__" = some (some (.builtin "object.__setattr__")))
    (ih_Placing : PySem.W.findIn K (.ref C_Placing) "__class__" = some (some (.builtin "object.__class__")))
    (in_Placing : PySem.W.specialIn K (.builtin "object.__class__") "__get__" = some (some (.builtin "getset_descriptor.__get__")))
    (it_Placing : PySem.W.takesIn K (.builtin "object.__class__") = some true)
    (im_Placing : PySem.W.mroIn K C_Placing (.type "object") = some true)
    (mk_Placing : PySem.W.makesIn K C_Placing = true)
    (kc_Placing : PySem.W.keepIn K (.ref C_Placing) = true)
    (n_by_name_Placing : PySem.W.findIn K (.ref C_Placing) "by_name" = some none)
    (ne_Placing : PySem.W.findIn K (.ref C_Placing) "__ne__" = some (some (.builtin "object.__ne__")))
    (so_Placing : PySem.W.subIn K (.ref C_Placing) (.type "object") = some true)
    (nf_NoneType_Placing : PySem.W.notFirst K C_Placing (.type "NoneType") = true)
    (nf_bool_Placing : PySem.W.notFirst K C_Placing (.type "bool") = true)
    (nf_int_Placing : PySem.W.notFirst K C_Placing (.type "int") = true)
    (nf_str_Placing : PySem.W.notFirst K C_Placing (.type "str") = true)
    (nf_list_Placing : PySem.W.notFirst K C_Placing (.type "list") = true)
    (nf_tuple_Placing : PySem.W.notFirst K C_Placing (.type "tuple") = true)
    (nf_dict_Placing : PySem.W.notFirst K C_Placing (.type "dict") = true)
    (tk_NoneType_Placing : PySem.W.kitOne K (.type "NoneType") (.ref C_Placing) = some false)
    (kt_bool_Placing : PySem.W.kitOne K (.ref C_Placing) (.type "bool") = some false)
    (tk_bool_Placing : PySem.W.kitOne K (.type "bool") (.ref C_Placing) = some false)
    (kt_int_Placing : PySem.W.kitOne K (.ref C_Placing) (.type "int") = some false)
    (tk_int_Placing : PySem.W.kitOne K (.type "int") (.ref C_Placing) = some false)
    (kt_str_Placing : PySem.W.kitOne K (.ref C_Placing) (.type "str") = some false)
    (tk_str_Placing : PySem.W.kitOne K (.type "str") (.ref C_Placing) = some false)
    (kt_list_Placing : PySem.W.kitOne K (.ref C_Placing) (.type "list") = some false)
    (tk_list_Placing : PySem.W.kitOne K (.type "list") (.ref C_Placing) = some false)
    (kt_tuple_Placing : PySem.W.kitOne K (.ref C_Placing) (.type "tuple") = some false)
    (tk_tuple_Placing : PySem.W.kitOne K (.type "tuple") (.ref C_Placing) = some false)
    (kt_dict_Placing : PySem.W.kitOne K (.ref C_Placing) (.type "dict") = some false)
    (tk_dict_Placing : PySem.W.kitOne K (.type "dict") (.ref C_Placing) = some false)
    (z_MOST_MARKS : PySem.W.nsIn K mainGlobals "MOST_MARKS" = some (some (.int 12 t_MOST_MARKS)))
    (z_FARTHEST : PySem.W.nsIn K mainGlobals "FARTHEST" = some (some (.int 1000 t_FARTHEST)))
    (y_isinstance : PySem.W.nsIn K mainGlobals "isinstance" = some none)
    (y_int : PySem.W.nsIn K mainGlobals "int" = some none)
    (y_bool : PySem.W.nsIn K mainGlobals "bool" = some none)
    (y_str : PySem.W.nsIn K mainGlobals "str" = some none)
    (y_len : PySem.W.nsIn K mainGlobals "len" = some none)
    (y_max : PySem.W.nsIn K mainGlobals "max" = some none)
    (y_min : PySem.W.nsIn K mainGlobals "min" = some none)
    (y_range : PySem.W.nsIn K mainGlobals "range" = some none)
    (y_list : PySem.W.nsIn K mainGlobals "list" = some none)
    (y_tuple : PySem.W.nsIn K mainGlobals "tuple" = some none)
    (y_dict : PySem.W.nsIn K mainGlobals "dict" = some none)
    (y_sorted : PySem.W.nsIn K mainGlobals "sorted" = some none)
    (y_all : PySem.W.nsIn K mainGlobals "all" = some none)
    (aC_InvalidPoints : PySem.W.nsIn K mainGlobals "InvalidPoints" = some (some (.ref C_InvalidPoints)))
    (aC_OutOfRange : PySem.W.nsIn K mainGlobals "OutOfRange" = some (some (.ref C_OutOfRange)))
    (aC_InvalidShift : PySem.W.nsIn K mainGlobals "InvalidShift" = some (some (.ref C_InvalidShift)))
    (aC_InvalidFactor : PySem.W.nsIn K mainGlobals "InvalidFactor" = some (some (.ref C_InvalidFactor)))
    (aC_NetError : PySem.W.nsIn K mainGlobals "NetError" = some (some (.ref C_NetError)))
    (y_super : PySem.W.nsIn K mainGlobals "super" = some none)
    (htop : (l.prog.main.scope.names.lookup ("super" : Str)).isSome = false)
    (opn : PySem.W.nsIn K cStatics "thirdparty.any" = some none)
    (exL_InvalidPoints : K.lookup C_InvalidPoints = some (PySem.excClassObj nm_InvalidPoints qq_InvalidPoints C_InvalidPoints N_InvalidPoints bs_InvalidPoints bm_InvalidPoints true sn_InvalidPoints sub_InvalidPoints ab_InvalidPoints col_InvalidPoints dd_InvalidPoints x0_InvalidPoints x1_InvalidPoints x2_InvalidPoints x3_InvalidPoints x5_InvalidPoints "ValueError.__new__"))
    (erv_InvalidPoints : PySem.HandSPX.refsVE bm_InvalidPoints = true)
    (eal_InvalidPoints : PySem.W.alongIn K "__init__" bm_InvalidPoints = some (some (.builtin "ValueError.__init__")))
    (esa_InvalidPoints : PySem.W.findIn K (.ref C_InvalidPoints) "__setattr__" = some (some (.builtin "object.__setattr__")))
    (ega_InvalidPoints : PySem.W.findIn K (.ref C_InvalidPoints) "__getattribute__" = some (some (.builtin "BaseException.__getattribute__")))
    (egg_InvalidPoints : PySem.W.findIn K (.ref C_InvalidPoints) "__getattr__" = some none)
    (enn_InvalidPoints : PySem.W.findIn K (.ref C_InvalidPoints) "value" = some none)
    (eic_InvalidPoints : PySem.W.findIn K (.ref C_InvalidPoints) "__init__" = some (some (.ref I_InvalidPoints)))
    (etc_InvalidPoints : PySem.W.typeIn K (.ref I_InvalidPoints) = some (.type "function"))
    (ekc_InvalidPoints : PySem.W.keepIn K (.ref C_InvalidPoints) = true)
    (eex_InvalidPoints : PySem.W.subIn K (.ref C_InvalidPoints) (.type "BaseException") = some true)
    (eve_InvalidPoints : PySem.W.subIn K (.ref C_InvalidPoints) (.type "ValueError") = some true)
    (emi_InvalidPoints : PySem.W.mroIn K C_InvalidPoints (.ref C_InvalidPoints) = some true)
    (ety_InvalidPoints : PySem.W.typeIn K (.ref C_InvalidPoints) = some (.type "type"))
    (ehd_InvalidPoints : PySem.W.hasDictIn K C_InvalidPoints = true)
    (efl_InvalidPoints : K.lookup I_InvalidPoints = some ⟨oc_InvalidPoints, od_InvalidPoints, .func (PySem.W.ksFn "__init__" q_InvalidPoints (PySem.ErrX.iA "value" p1_InvalidPoints p2_InvalidPoints) (PySem.ErrX.iB "value" mm_InvalidPoints j_InvalidPoints a1_InvalidPoints a2_InvalidPoints a3_InvalidPoints a4_InvalidPoints a5_InvalidPoints a6_InvalidPoints q1_InvalidPoints q2_InvalidPoints q3_InvalidPoints q4_InvalidPoints) (PySem.ErrX.iS "value") .none .none doc_InvalidPoints pm_InvalidPoints an_InvalidPoints (.ref cda_InvalidPoints) ct_InvalidPoints cc_InvalidPoints), osl_InvalidPoints⟩)
    (efc_InvalidPoints : PySem.W.codeIn K (.ref cda_InvalidPoints) q_InvalidPoints = true)
    (efd_InvalidPoints : K.lookup cda_InvalidPoints = some ⟨ccl_InvalidPoints, cdd_InvalidPoints, .fields vs_InvalidPoints, ccs_InvalidPoints⟩)
    (ef2_InvalidPoints : vs_InvalidPoints[2]? = some (.str file_InvalidPoints tf_InvalidPoints))
    (eff_InvalidPoints : ((l.prog.main.file : Str) == file_InvalidPoints) = true)
    (eev_InvalidPoints : ∀ env : PySem.Env, ∃ pl : Sem Bool, eval (.Call (.Attribute (.Call (.Name "super" a1_InvalidPoints) [] [] a2_InvalidPoints) "__init__" a3_InvalidPoints) [.Constant (.str mm_InvalidPoints) j_InvalidPoints a4_InvalidPoints] [] a5_InvalidPoints) env = (do
      let ov ← attributeBase (.Call (.Name "super" a1_InvalidPoints) [] [] a2_InvalidPoints) "__init__" env (eval (.Call (.Name "super" a1_InvalidPoints) [] [] a2_InvalidPoints) env)
      standAt a3_InvalidPoints.atName
      let (f, first) ← holding [ov] (getMethod ov "__init__" pl)
      callWith a5_InvalidPoints f first (backTo a5_InvalidPoints (starEach [.Constant (.str mm_InvalidPoints) j_InvalidPoints a4_InvalidPoints] env)) []))
    (efk_InvalidPoints : K.lookup cc_InvalidPoints = some ⟨cl_InvalidPoints, cld_InvalidPoints, .cell (some (.ref C_InvalidPoints)), csl_InvalidPoints⟩)
    (exL_OutOfRange : K.lookup C_OutOfRange = some (PySem.excClassObj nm_OutOfRange qq_OutOfRange C_OutOfRange N_OutOfRange bs_OutOfRange bm_OutOfRange true sn_OutOfRange sub_OutOfRange ab_OutOfRange col_OutOfRange dd_OutOfRange x0_OutOfRange x1_OutOfRange x2_OutOfRange x3_OutOfRange x5_OutOfRange "ValueError.__new__"))
    (erv_OutOfRange : PySem.HandSPX.refsVE bm_OutOfRange = true)
    (eal_OutOfRange : PySem.W.alongIn K "__init__" bm_OutOfRange = some (some (.builtin "ValueError.__init__")))
    (esa_OutOfRange : PySem.W.findIn K (.ref C_OutOfRange) "__setattr__" = some (some (.builtin "object.__setattr__")))
    (ega_OutOfRange : PySem.W.findIn K (.ref C_OutOfRange) "__getattribute__" = some (some (.builtin "BaseException.__getattribute__")))
    (egg_OutOfRange : PySem.W.findIn K (.ref C_OutOfRange) "__getattr__" = some none)
    (enn_OutOfRange : PySem.W.findIn K (.ref C_OutOfRange) "value" = some none)
    (eic_OutOfRange : PySem.W.findIn K (.ref C_OutOfRange) "__init__" = some (some (.ref I_OutOfRange)))
    (etc_OutOfRange : PySem.W.typeIn K (.ref I_OutOfRange) = some (.type "function"))
    (ekc_OutOfRange : PySem.W.keepIn K (.ref C_OutOfRange) = true)
    (eex_OutOfRange : PySem.W.subIn K (.ref C_OutOfRange) (.type "BaseException") = some true)
    (eve_OutOfRange : PySem.W.subIn K (.ref C_OutOfRange) (.type "ValueError") = some true)
    (emi_OutOfRange : PySem.W.mroIn K C_OutOfRange (.ref C_OutOfRange) = some true)
    (ety_OutOfRange : PySem.W.typeIn K (.ref C_OutOfRange) = some (.type "type"))
    (ehd_OutOfRange : PySem.W.hasDictIn K C_OutOfRange = true)
    (efl_OutOfRange : K.lookup I_OutOfRange = some ⟨oc_OutOfRange, od_OutOfRange, .func (PySem.W.ksFn "__init__" q_OutOfRange (PySem.ErrX.iA "value" p1_OutOfRange p2_OutOfRange) (PySem.ErrX.iB "value" mm_OutOfRange j_OutOfRange a1_OutOfRange a2_OutOfRange a3_OutOfRange a4_OutOfRange a5_OutOfRange a6_OutOfRange q1_OutOfRange q2_OutOfRange q3_OutOfRange q4_OutOfRange) (PySem.ErrX.iS "value") .none .none doc_OutOfRange pm_OutOfRange an_OutOfRange (.ref cda_OutOfRange) ct_OutOfRange cc_OutOfRange), osl_OutOfRange⟩)
    (efc_OutOfRange : PySem.W.codeIn K (.ref cda_OutOfRange) q_OutOfRange = true)
    (efd_OutOfRange : K.lookup cda_OutOfRange = some ⟨ccl_OutOfRange, cdd_OutOfRange, .fields vs_OutOfRange, ccs_OutOfRange⟩)
    (ef2_OutOfRange : vs_OutOfRange[2]? = some (.str file_OutOfRange tf_OutOfRange))
    (eff_OutOfRange : ((l.prog.main.file : Str) == file_OutOfRange) = true)
    (eev_OutOfRange : ∀ env : PySem.Env, ∃ pl : Sem Bool, eval (.Call (.Attribute (.Call (.Name "super" a1_OutOfRange) [] [] a2_OutOfRange) "__init__" a3_OutOfRange) [.Constant (.str mm_OutOfRange) j_OutOfRange a4_OutOfRange] [] a5_OutOfRange) env = (do
      let ov ← attributeBase (.Call (.Name "super" a1_OutOfRange) [] [] a2_OutOfRange) "__init__" env (eval (.Call (.Name "super" a1_OutOfRange) [] [] a2_OutOfRange) env)
      standAt a3_OutOfRange.atName
      let (f, first) ← holding [ov] (getMethod ov "__init__" pl)
      callWith a5_OutOfRange f first (backTo a5_OutOfRange (starEach [.Constant (.str mm_OutOfRange) j_OutOfRange a4_OutOfRange] env)) []))
    (efk_OutOfRange : K.lookup cc_OutOfRange = some ⟨cl_OutOfRange, cld_OutOfRange, .cell (some (.ref C_OutOfRange)), csl_OutOfRange⟩)
    (exL_InvalidShift : K.lookup C_InvalidShift = some (PySem.excClassObj nm_InvalidShift qq_InvalidShift C_InvalidShift N_InvalidShift bs_InvalidShift bm_InvalidShift true sn_InvalidShift sub_InvalidShift ab_InvalidShift col_InvalidShift dd_InvalidShift x0_InvalidShift x1_InvalidShift x2_InvalidShift x3_InvalidShift x5_InvalidShift "ValueError.__new__"))
    (erv_InvalidShift : PySem.HandSPX.refsVE bm_InvalidShift = true)
    (eal_InvalidShift : PySem.W.alongIn K "__init__" bm_InvalidShift = some (some (.builtin "ValueError.__init__")))
    (esa_InvalidShift : PySem.W.findIn K (.ref C_InvalidShift) "__setattr__" = some (some (.builtin "object.__setattr__")))
    (ega_InvalidShift : PySem.W.findIn K (.ref C_InvalidShift) "__getattribute__" = some (some (.builtin "BaseException.__getattribute__")))
    (egg_InvalidShift : PySem.W.findIn K (.ref C_InvalidShift) "__getattr__" = some none)
    (enn_InvalidShift : PySem.W.findIn K (.ref C_InvalidShift) "value" = some none)
    (eic_InvalidShift : PySem.W.findIn K (.ref C_InvalidShift) "__init__" = some (some (.ref I_InvalidShift)))
    (etc_InvalidShift : PySem.W.typeIn K (.ref I_InvalidShift) = some (.type "function"))
    (ekc_InvalidShift : PySem.W.keepIn K (.ref C_InvalidShift) = true)
    (eex_InvalidShift : PySem.W.subIn K (.ref C_InvalidShift) (.type "BaseException") = some true)
    (eve_InvalidShift : PySem.W.subIn K (.ref C_InvalidShift) (.type "ValueError") = some true)
    (emi_InvalidShift : PySem.W.mroIn K C_InvalidShift (.ref C_InvalidShift) = some true)
    (ety_InvalidShift : PySem.W.typeIn K (.ref C_InvalidShift) = some (.type "type"))
    (ehd_InvalidShift : PySem.W.hasDictIn K C_InvalidShift = true)
    (efl_InvalidShift : K.lookup I_InvalidShift = some ⟨oc_InvalidShift, od_InvalidShift, .func (PySem.W.ksFn "__init__" q_InvalidShift (PySem.ErrX.iA "value" p1_InvalidShift p2_InvalidShift) (PySem.ErrX.iB "value" mm_InvalidShift j_InvalidShift a1_InvalidShift a2_InvalidShift a3_InvalidShift a4_InvalidShift a5_InvalidShift a6_InvalidShift q1_InvalidShift q2_InvalidShift q3_InvalidShift q4_InvalidShift) (PySem.ErrX.iS "value") .none .none doc_InvalidShift pm_InvalidShift an_InvalidShift (.ref cda_InvalidShift) ct_InvalidShift cc_InvalidShift), osl_InvalidShift⟩)
    (efc_InvalidShift : PySem.W.codeIn K (.ref cda_InvalidShift) q_InvalidShift = true)
    (efd_InvalidShift : K.lookup cda_InvalidShift = some ⟨ccl_InvalidShift, cdd_InvalidShift, .fields vs_InvalidShift, ccs_InvalidShift⟩)
    (ef2_InvalidShift : vs_InvalidShift[2]? = some (.str file_InvalidShift tf_InvalidShift))
    (eff_InvalidShift : ((l.prog.main.file : Str) == file_InvalidShift) = true)
    (eev_InvalidShift : ∀ env : PySem.Env, ∃ pl : Sem Bool, eval (.Call (.Attribute (.Call (.Name "super" a1_InvalidShift) [] [] a2_InvalidShift) "__init__" a3_InvalidShift) [.Constant (.str mm_InvalidShift) j_InvalidShift a4_InvalidShift] [] a5_InvalidShift) env = (do
      let ov ← attributeBase (.Call (.Name "super" a1_InvalidShift) [] [] a2_InvalidShift) "__init__" env (eval (.Call (.Name "super" a1_InvalidShift) [] [] a2_InvalidShift) env)
      standAt a3_InvalidShift.atName
      let (f, first) ← holding [ov] (getMethod ov "__init__" pl)
      callWith a5_InvalidShift f first (backTo a5_InvalidShift (starEach [.Constant (.str mm_InvalidShift) j_InvalidShift a4_InvalidShift] env)) []))
    (efk_InvalidShift : K.lookup cc_InvalidShift = some ⟨cl_InvalidShift, cld_InvalidShift, .cell (some (.ref C_InvalidShift)), csl_InvalidShift⟩)
    (exL_InvalidFactor : K.lookup C_InvalidFactor = some (PySem.excClassObj nm_InvalidFactor qq_InvalidFactor C_InvalidFactor N_InvalidFactor bs_InvalidFactor bm_InvalidFactor true sn_InvalidFactor sub_InvalidFactor ab_InvalidFactor col_InvalidFactor dd_InvalidFactor x0_InvalidFactor x1_InvalidFactor x2_InvalidFactor x3_InvalidFactor x5_InvalidFactor "ValueError.__new__"))
    (erv_InvalidFactor : PySem.HandSPX.refsVE bm_InvalidFactor = true)
    (eal_InvalidFactor : PySem.W.alongIn K "__init__" bm_InvalidFactor = some (some (.builtin "ValueError.__init__")))
    (esa_InvalidFactor : PySem.W.findIn K (.ref C_InvalidFactor) "__setattr__" = some (some (.builtin "object.__setattr__")))
    (ega_InvalidFactor : PySem.W.findIn K (.ref C_InvalidFactor) "__getattribute__" = some (some (.builtin "BaseException.__getattribute__")))
    (egg_InvalidFactor : PySem.W.findIn K (.ref C_InvalidFactor) "__getattr__" = some none)
    (enn_InvalidFactor : PySem.W.findIn K (.ref C_InvalidFactor) "factor" = some none)
    (eic_InvalidFactor : PySem.W.findIn K (.ref C_InvalidFactor) "__init__" = some (some (.ref I_InvalidFactor)))
    (etc_InvalidFactor : PySem.W.typeIn K (.ref I_InvalidFactor) = some (.type "function"))
    (ekc_InvalidFactor : PySem.W.keepIn K (.ref C_InvalidFactor) = true)
    (eex_InvalidFactor : PySem.W.subIn K (.ref C_InvalidFactor) (.type "BaseException") = some true)
    (eve_InvalidFactor : PySem.W.subIn K (.ref C_InvalidFactor) (.type "ValueError") = some true)
    (emi_InvalidFactor : PySem.W.mroIn K C_InvalidFactor (.ref C_InvalidFactor) = some true)
    (ety_InvalidFactor : PySem.W.typeIn K (.ref C_InvalidFactor) = some (.type "type"))
    (ehd_InvalidFactor : PySem.W.hasDictIn K C_InvalidFactor = true)
    (efl_InvalidFactor : K.lookup I_InvalidFactor = some ⟨oc_InvalidFactor, od_InvalidFactor, .func (PySem.W.ksFn "__init__" q_InvalidFactor (PySem.ErrX.iA "factor" p1_InvalidFactor p2_InvalidFactor) (PySem.ErrX.iB "factor" mm_InvalidFactor j_InvalidFactor a1_InvalidFactor a2_InvalidFactor a3_InvalidFactor a4_InvalidFactor a5_InvalidFactor a6_InvalidFactor q1_InvalidFactor q2_InvalidFactor q3_InvalidFactor q4_InvalidFactor) (PySem.ErrX.iS "factor") .none .none doc_InvalidFactor pm_InvalidFactor an_InvalidFactor (.ref cda_InvalidFactor) ct_InvalidFactor cc_InvalidFactor), osl_InvalidFactor⟩)
    (efc_InvalidFactor : PySem.W.codeIn K (.ref cda_InvalidFactor) q_InvalidFactor = true)
    (efd_InvalidFactor : K.lookup cda_InvalidFactor = some ⟨ccl_InvalidFactor, cdd_InvalidFactor, .fields vs_InvalidFactor, ccs_InvalidFactor⟩)
    (ef2_InvalidFactor : vs_InvalidFactor[2]? = some (.str file_InvalidFactor tf_InvalidFactor))
    (eff_InvalidFactor : ((l.prog.main.file : Str) == file_InvalidFactor) = true)
    (eev_InvalidFactor : ∀ env : PySem.Env, ∃ pl : Sem Bool, eval (.Call (.Attribute (.Call (.Name "super" a1_InvalidFactor) [] [] a2_InvalidFactor) "__init__" a3_InvalidFactor) [.Constant (.str mm_InvalidFactor) j_InvalidFactor a4_InvalidFactor] [] a5_InvalidFactor) env = (do
      let ov ← attributeBase (.Call (.Name "super" a1_InvalidFactor) [] [] a2_InvalidFactor) "__init__" env (eval (.Call (.Name "super" a1_InvalidFactor) [] [] a2_InvalidFactor) env)
      standAt a3_InvalidFactor.atName
      let (f, first) ← holding [ov] (getMethod ov "__init__" pl)
      callWith a5_InvalidFactor f first (backTo a5_InvalidFactor (starEach [.Constant (.str mm_InvalidFactor) j_InvalidFactor a4_InvalidFactor] env)) []))
    (efk_InvalidFactor : K.lookup cc_InvalidFactor = some ⟨cl_InvalidFactor, cld_InvalidFactor, .cell (some (.ref C_InvalidFactor)), csl_InvalidFactor⟩)
    (x_InvalidFactor_InvalidFactor : PySem.W.exmOne K (.ref C_InvalidFactor) (.ref C_InvalidFactor) = some true)
    (x_InvalidShift_InvalidFactor : PySem.W.exmOne K (.ref C_InvalidShift) (.ref C_InvalidFactor) = some false)
    (x_InvalidShift_InvalidShift : PySem.W.exmOne K (.ref C_InvalidShift) (.ref C_InvalidShift) = some true)
    (x_OutOfRange_InvalidFactor : PySem.W.exmOne K (.ref C_OutOfRange) (.ref C_InvalidFactor) = some false)
    (x_OutOfRange_InvalidShift : PySem.W.exmOne K (.ref C_OutOfRange) (.ref C_InvalidShift) = some false)
    (x_OutOfRange_OutOfRange : PySem.W.exmOne K (.ref C_OutOfRange) (.ref C_OutOfRange) = some true) :
    LamX.LawAtS l w K (L2.CX l.prog w) 16 63 "_law_script" mg fa h := by
  have e := hfa.symm.trans (PySem.W.mg_of X Gx a_law)
  cases e
  have E_InvalidPoints : PySem.ErrX.ErrTxt l.prog K mg "InvalidPoints" "value" C_InvalidPoints I_InvalidPoints := { gC := PySem.W.mg_of X Gx aC_InvalidPoints, cls := ⟨_, _, _, _, _, _, _, _, _, _, _, _, _, _, _, exL_InvalidPoints, erv_InvalidPoints, eal_InvalidPoints⟩, sa := esa_InvalidPoints, ga := ega_InvalidPoints, gg := egg_InvalidPoints, noN := enn_InvalidPoints, iC := eic_InvalidPoints, tC := etc_InvalidPoints, kC := ekc_InvalidPoints, exC := eex_InvalidPoints, veC := eve_InvalidPoints, miC := emi_InvalidPoints, tyC := ety_InvalidPoints, hdC := ehd_InvalidPoints, op := opn, fs := by decide +kernel, fc := by decide +kernel, fu := by decide +kernel, fg := by decide +kernel, mS := PySem.W.mg_none_of X Gx y_super, htop := htop, fn := ⟨_, _, _, _, _, _, _, _, _, _, _, _, _, _, _, _, _, _, _, _, _, _, _, _, _, _, _, _, _, _, _, _, _, efl_InvalidPoints, efc_InvalidPoints, efd_InvalidPoints, ef2_InvalidPoints, eff_InvalidPoints, efk_InvalidPoints, fun s x v => .of_eq rfl, eev_InvalidPoints⟩ }
  have E_OutOfRange : PySem.ErrX.ErrTxt l.prog K mg "OutOfRange" "value" C_OutOfRange I_OutOfRange := { gC := PySem.W.mg_of X Gx aC_OutOfRange, cls := ⟨_, _, _, _, _, _, _, _, _, _, _, _, _, _, _, exL_OutOfRange, erv_OutOfRange, eal_OutOfRange⟩, sa := esa_OutOfRange, ga := ega_OutOfRange, gg := egg_OutOfRange, noN := enn_OutOfRange, iC := eic_OutOfRange, tC := etc_OutOfRange, kC := ekc_OutOfRange, exC := eex_OutOfRange, veC := eve_OutOfRange, miC := emi_OutOfRange, tyC := ety_OutOfRange, hdC := ehd_OutOfRange, op := opn, fs := by decide +kernel, fc := by decide +kernel, fu := by decide +kernel, fg := by decide +kernel, mS := PySem.W.mg_none_of X Gx y_super, htop := htop, fn := ⟨_, _, _, _, _, _, _, _, _, _, _, _, _, _, _, _, _, _, _, _, _, _, _, _, _, _, _, _, _, _, _, _, _, efl_OutOfRange, efc_OutOfRange, efd_OutOfRange, ef2_OutOfRange, eff_OutOfRange, efk_OutOfRange, fun s x v => .of_eq rfl, eev_OutOfRange⟩ }
  have E_InvalidShift : PySem.ErrX.ErrTxt l.prog K mg "InvalidShift" "value" C_InvalidShift I_InvalidShift := { gC := PySem.W.mg_of X Gx aC_InvalidShift, cls := ⟨_, _, _, _, _, _, _, _, _, _, _, _, _, _, _, exL_InvalidShift, erv_InvalidShift, eal_InvalidShift⟩, sa := esa_InvalidShift, ga := ega_InvalidShift, gg := egg_InvalidShift, noN := enn_InvalidShift, iC := eic_InvalidShift, tC := etc_InvalidShift, kC := ekc_InvalidShift, exC := eex_InvalidShift, veC := eve_InvalidShift, miC := emi_InvalidShift, tyC := ety_InvalidShift, hdC := ehd_InvalidShift, op := opn, fs := by decide +kernel, fc := by decide +kernel, fu := by decide +kernel, fg := by decide +kernel, mS := PySem.W.mg_none_of X Gx y_super, htop := htop, fn := ⟨_, _, _, _, _, _, _, _, _, _, _, _, _, _, _, _, _, _, _, _, _, _, _, _, _, _, _, _, _, _, _, _, _, efl_InvalidShift, efc_InvalidShift, efd_InvalidShift, ef2_InvalidShift, eff_InvalidShift, efk_InvalidShift, fun s x v => .of_eq rfl, eev_InvalidShift⟩ }
  have E_InvalidFactor : PySem.ErrX.ErrTxt l.prog K mg "InvalidFactor" "factor" C_InvalidFactor I_InvalidFactor := { gC := PySem.W.mg_of X Gx aC_InvalidFactor, cls := ⟨_, _, _, _, _, _, _, _, _, _, _, _, _, _, _, exL_InvalidFactor, erv_InvalidFactor, eal_InvalidFactor⟩, sa := esa_InvalidFactor, ga := ega_InvalidFactor, gg := egg_InvalidFactor, noN := enn_InvalidFactor, iC := eic_InvalidFactor, tC := etc_InvalidFactor, kC := ekc_InvalidFactor, exC := eex_InvalidFactor, veC := eve_InvalidFactor, miC := emi_InvalidFactor, tyC := ety_InvalidFactor, hdC := ehd_InvalidFactor, op := opn, fs := by decide +kernel, fc := by decide +kernel, fu := by decide +kernel, fg := by decide +kernel, mS := PySem.W.mg_none_of X Gx y_super, htop := htop, fn := ⟨_, _, _, _, _, _, _, _, _, _, _, _, _, _, _, _, _, _, _, _, _, _, _, _, _, _, _, _, _, _, _, _, _, efl_InvalidFactor, efc_InvalidFactor, efd_InvalidFactor, ef2_InvalidFactor, eff_InvalidFactor, efk_InvalidFactor, fun s x v => .of_eq rfl, eev_InvalidFactor⟩ }
  let T : Top l.prog K mg := { C_Placing := C_Placing, g_Placing := PySem.W.mg_of X Gx aC_Placing, f_is_name := f_is_name, fd_is_name := _, F_is_name := funV_mk (st := s_is_name) l_is_name cc_is_name k_is_name, b_is_name := (.all fun us hl => match us, hl with | [_], _ => rfl), g_is_name := PySem.W.mg_of X Gx a_is_name, f_is_integer := f_is_integer, fd_is_integer := _, F_is_integer := funV_mk (st := s_is_integer) l_is_integer cc_is_integer k_is_integer, b_is_integer := (.all fun us hl => match us, hl with | [_, _, _], _ => rfl), g_is_integer := PySem.W.mg_of X Gx a_is_integer, f_is_whole := f_is_whole, fd_is_whole := _, F_is_whole := funV_mk (st := s_is_whole) l_is_whole cc_is_whole k_is_whole, b_is_whole := (.all fun us hl => match us, hl with | [_], _ => rfl), g_is_whole := PySem.W.mg_of X Gx a_is_whole, f_is_point := f_is_point, fd_is_point := _, F_is_point := funV_mk (st := s_is_point) l_is_point cc_is_point k_is_point, b_is_point := (.all fun us hl => match us, hl with | [_], _ => rfl), g_is_point := PySem.W.mg_of X Gx a_is_point, f_Placing_init := f_Placing_init, fd_Placing_init := _, F_Placing_init := funV_mk (st := s_Placing_init) l_Placing_init cc_Placing_init k_Placing_init, b_Placing_init := (.all fun us hl => match us, hl with | [_, _], _ => rfl), f_Placing_points := f_Placing_points, fd_Placing_points := _, F_Placing_points := funV_mk (st := s_Placing_points) l_Placing_points cc_Placing_points k_Placing_points, b_Placing_points := (.all fun us hl => match us, hl with | [_], _ => rfl), f_Placing_eq := f_Placing_eq, fd_Placing_eq := _, F_Placing_eq := funV_mk (st := s_Placing_eq) l_Placing_eq cc_Placing_eq k_Placing_eq, b_Placing_eq := (.all fun us hl => match us, hl with | [_, _], _ => rfl), f_Placing_placed := f_Placing_placed, fd_Placing_placed := _, F_Placing_placed := funV_mk (st := s_Placing_placed) l_Placing_placed cc_Placing_placed k_Placing_placed, b_Placing_placed := (.all fun us hl => match us, hl with | [_, _], _ => rfl), f_Placing_moved := f_Placing_moved, fd_Placing_moved := _, F_Placing_moved := funV_mk (st := s_Placing_moved) l_Placing_moved cc_Placing_moved k_Placing_moved, b_Placing_moved := (.all fun us hl => match us, hl with | [_, _, _], _ => rfl), f_Placing_turned := f_Placing_turned, fd_Placing_turned := _, F_Placing_turned := funV_mk (st := s_Placing_turned) l_Placing_turned cc_Placing_turned k_Placing_turned, b_Placing_turned := (.all fun us hl => match us, hl with | [_], _ => rfl), f_Placing_mirrored := f_Placing_mirrored, fd_Placing_mirrored := _, F_Placing_mirrored := funV_mk (st := s_Placing_mirrored) l_Placing_mirrored cc_Placing_mirrored k_Placing_mirrored, b_Placing_mirrored := (.all fun us hl => match us, hl with | [_], _ => rfl), f_Placing_stretched := f_Placing_stretched, fd_Placing_stretched := _, F_Placing_stretched := funV_mk (st := s_Placing_stretched) l_Placing_stretched cc_Placing_stretched k_Placing_stretched, b_Placing_stretched := (.all fun us hl => match us, hl with | [_, _], _ => rfl), f_l_cell := f_l_cell, fd_l_cell := _, F_l_cell := funV_mk (st := s_l_cell) l_l_cell cc_l_cell k_l_cell, b_l_cell := (.all fun us hl => match us, hl with | [_, _], _ => rfl), g_l_cell := PySem.W.mg_of X Gx a_l_cell, f_l_box := f_l_box, fd_l_box := _, F_l_box := funV_mk (st := s_l_box) l_l_box cc_l_box k_l_box, b_l_box := (.all fun us hl => match us, hl with | [_], _ => rfl), g_l_box := PySem.W.mg_of X Gx a_l_box, f_l_take := f_l_take, fd_l_take := _, F_l_take := funV_mk (st := s_l_take) l_l_take cc_l_take k_l_take, b_l_take := (.all fun us hl => match us, hl with | [_, _], _ => rfl), g_l_take := PySem.W.mg_of X Gx a_l_take, f_l_mixed := f_l_mixed, fd_l_mixed := _, F_l_mixed := funV_mk (st := s_l_mixed) l_l_mixed cc_l_mixed k_l_mixed, b_l_mixed := (.all fun us hl => match us, hl with | [_, _], _ => rfl), g_l_mixed := PySem.W.mg_of X Gx a_l_mixed, f_l_names := f_l_names, fd_l_names := _, F_l_names := funV_mk (st := s_l_names) l_l_names cc_l_names k_l_names, b_l_names := (.all fun us hl => match us, hl with | [_, _], _ => rfl), g_l_names := PySem.W.mg_of X Gx a_l_names, f_l_points := f_l_points, fd_l_points := _, F_l_points := funV_mk (st := s_l_points) l_l_points cc_l_points k_l_points, b_l_points := (.all fun us hl => match us, hl with | [_, _], _ => rfl), g_l_points := PySem.W.mg_of X Gx a_l_points, f_l_caught := f_l_caught, fd_l_caught := _, F_l_caught := funV_mk (st := s_l_caught) l_l_caught cc_l_caught k_l_caught, b_l_caught := (.all fun us hl => match us, hl with | [_, _], _ => rfl), g_l_caught := PySem.W.mg_of X Gx a_l_caught, f_l_is := f_l_is, fd_l_is := _, F_l_is := funV_mk (st := s_l_is) l_l_is cc_l_is k_l_is, b_l_is := (.all fun us hl => match us, hl with | [_, _, _], _ => rfl), g_l_is := PySem.W.mg_of X Gx a_l_is, f_l_out := f_l_out, fd_l_out := _, F_l_out := funV_mk (st := s_l_out) l_l_out cc_l_out k_l_out, b_l_out := (.all fun us hl => match us, hl with | [_, _], _ => rfl), g_l_out := PySem.W.mg_of X Gx a_l_out, f_l_case_right := f_l_case_right, fd_l_case_right := _, F_l_case_right := funV_mk (st := s_l_case_right) l_l_case_right cc_l_case_right k_l_case_right, b_l_case_right := (.all fun us hl => match us, hl with | [_, _, _, _], _ => rfl), g_l_case_right := PySem.W.mg_of X Gx a_l_case_right, f_l_moves_right := f_l_moves_right, fd_l_moves_right := _, F_l_moves_right := funV_mk (st := s_l_moves_right) l_l_moves_right cc_l_moves_right k_l_moves_right, b_l_moves_right := (.all fun us hl => match us, hl with | [_, _, _], _ => rfl), g_l_moves_right := PySem.W.mg_of X Gx a_l_moves_right, c_l_moves_right := c_l_moves_right, P_l_moves_right := P_l_moves_right, hc_l_moves_right := rfl, f_l_refusals_right := f_l_refusals_right, fd_l_refusals_right := _, F_l_refusals_right := funV_mk (st := s_l_refusals_right) l_l_refusals_right cc_l_refusals_right k_l_refusals_right, b_l_refusals_right := (.all fun us hl => match us, hl with | [_], _ => rfl), g_l_refusals_right := PySem.W.mg_of X Gx a_l_refusals_right, c_l_refusals_right := c_l_refusals_right, P_l_refusals_right := P_l_refusals_right, hc_l_refusals_right := rfl, f_law := _, fd_law := _, F_law := funV_mk (st := s_law) l_law cc_law k_law, b_law := (.all fun us hl => match us, hl with | [_], _ => rfl), g_law := PySem.W.mg_of X Gx a_law, pn_l_moves_right_l_refusals_right := pn_l_moves_right_l_refusals_right, cl_Placing := ⟨pg_Placing, hd_Placing, po_Placing, sa_Placing⟩, ik_Placing := ⟨⟨pg_Placing, hd_Placing, po_Placing, sa_Placing⟩, ih_Placing, in_Placing, it_Placing, im_Placing⟩, M_Placing := ⟨mk_Placing, a_Placing_init, i_Placing_init, kc_Placing⟩, n_Placing_by_name := n_by_name_Placing, m_Placing_Placing_points := ⟨a_Placing_points, i_Placing_points, k_Placing_points⟩, m_Placing_Placing_placed := ⟨a_Placing_placed, i_Placing_placed, k_Placing_placed⟩, m_Placing_Placing_moved := ⟨a_Placing_moved, i_Placing_moved, k_Placing_moved⟩, m_Placing_Placing_turned := ⟨a_Placing_turned, i_Placing_turned, k_Placing_turned⟩, m_Placing_Placing_mirrored := ⟨a_Placing_mirrored, i_Placing_mirrored, k_Placing_mirrored⟩, m_Placing_Placing_stretched := ⟨a_Placing_stretched, i_Placing_stretched, k_Placing_stretched⟩, eq_Placing := a_Placing_eq, fe_Placing := i_Placing_eq, ne_Placing := ne_Placing, so_Placing := so_Placing, nf_Placing_NoneType := nf_NoneType_Placing, nf_Placing_bool := nf_bool_Placing, nf_Placing_int := nf_int_Placing, nf_Placing_str := nf_str_Placing, nf_Placing_list := nf_list_Placing, nf_Placing_tuple := nf_tuple_Placing, nf_Placing_dict := nf_dict_Placing, tk_Placing_NoneType := tk_NoneType_Placing, kt_Placing_bool := kt_bool_Placing, tk_Placing_bool := tk_bool_Placing, kt_Placing_int := kt_int_Placing, tk_Placing_int := tk_int_Placing, kt_Placing_str := kt_str_Placing, tk_Placing_str := tk_str_Placing, kt_Placing_list := kt_list_Placing, tk_Placing_list := tk_list_Placing, kt_Placing_tuple := kt_tuple_Placing, tk_Placing_tuple := tk_tuple_Placing, kt_Placing_dict := kt_dict_Placing, tk_Placing_dict := tk_dict_Placing, u_MOST_MARKS := _, g_MOST_MARKS := PySem.W.mg_of X Gx z_MOST_MARKS, r_MOST_MARKS := ⟨_, rfl⟩, u_FARTHEST := _, g_FARTHEST := PySem.W.mg_of X Gx z_FARTHEST, r_FARTHEST := ⟨_, rfl⟩, m_isinstance := PySem.W.mg_none_of X Gx y_isinstance, m_int := PySem.W.mg_none_of X Gx y_int, m_bool := PySem.W.mg_none_of X Gx y_bool, m_str := PySem.W.mg_none_of X Gx y_str, m_len := PySem.W.mg_none_of X Gx y_len, m_max := PySem.W.mg_none_of X Gx y_max, m_min := PySem.W.mg_none_of X Gx y_min, m_range := PySem.W.mg_none_of X Gx y_range, m_list := PySem.W.mg_none_of X Gx y_list, m_tuple := PySem.W.mg_none_of X Gx y_tuple, m_dict := PySem.W.mg_none_of X Gx y_dict, m_sorted := PySem.W.mg_none_of X Gx y_sorted, m_all := PySem.W.mg_none_of X Gx y_all, C_NetError := C_NetError, g_NetError := PySem.W.mg_of X Gx aC_NetError, C_InvalidPoints := C_InvalidPoints, I_InvalidPoints := I_InvalidPoints, g_InvalidPoints := PySem.W.mg_of X Gx aC_InvalidPoints, E_InvalidPoints := E_InvalidPoints, C_OutOfRange := C_OutOfRange, I_OutOfRange := I_OutOfRange, g_OutOfRange := PySem.W.mg_of X Gx aC_OutOfRange, E_OutOfRange := E_OutOfRange, C_InvalidShift := C_InvalidShift, I_InvalidShift := I_InvalidShift, g_InvalidShift := PySem.W.mg_of X Gx aC_InvalidShift, E_InvalidShift := E_InvalidShift, C_InvalidFactor := C_InvalidFactor, I_InvalidFactor := I_InvalidFactor, g_InvalidFactor := PySem.W.mg_of X Gx aC_InvalidFactor, E_InvalidFactor := E_InvalidFactor, x_InvalidFactor_InvalidFactor := x_InvalidFactor_InvalidFactor, x_InvalidShift_InvalidFactor := x_InvalidShift_InvalidFactor, x_InvalidShift_InvalidShift := x_InvalidShift_InvalidShift, x_OutOfRange_InvalidFactor := x_OutOfRange_InvalidFactor, x_OutOfRange_InvalidShift := x_OutOfRange_InvalidShift, x_OutOfRange_OutOfRange := x_OutOfRange_OutOfRange }
  refine ⟨T.fd_law, [(c_l_moves_right, P_l_moves_right), (c_l_refusals_right, P_l_refusals_right)], SpG K T.tabs (m_law T), (List.forall_mem_cons.mpr ⟨tb_l_moves_right, (List.forall_mem_cons.mpr ⟨tb_l_refusals_right, (fun _ z => nomatch z)⟩)⟩), (List.forall_mem_cons.mpr ⟨np_l_moves_right, (List.forall_mem_cons.mpr ⟨np_l_refusals_right, (fun _ z => nomatch z)⟩)⟩), (List.forall_mem_cons.mpr ⟨PySem.W.codeHd_of_K X ch_l_moves_right, (List.forall_mem_cons.mpr ⟨PySem.W.codeHd_of_K X ch_l_refusals_right, (fun _ z => nomatch z)⟩)⟩), fun s u => .of_eq rfl, ?_, ?_⟩
  · intro H a ns hl _ hH hS
    refine law_sp ?_ hS (law_true ns hl)
    intro z hz
    simp only [Top.tabs, List.mem_cons, List.not_mem_nil, or_false] at hz
    rcases hz with rfl | rfl
    · exact LamX.TabS.nil (hH (c_l_moves_right, P_l_moves_right) (List.mem_cons_self))
    · exact LamX.TabS.nil (hH (c_l_refusals_right, P_l_refusals_right) (List.mem_cons_of_mem _ (List.mem_cons_self)))
  · intro base _ _ hB
    exact ok_law T ⟨hB (c_l_moves_right, P_l_moves_right) (List.mem_cons_self), hB (c_l_refusals_right, P_l_refusals_right) (List.mem_cons_of_mem _ (List.mem_cons_self))⟩
end K11
open PySem PySem.W PyProof.Rows
set_option maxRecDepth 100000 in
set_option maxHeartbeats 0 in
theorem PySem.Challenge.cw_chaincompass_k11_placings_moved_holds : PySem.Challenge.rw_chaincompass_k11_placings_moved.Holds := by
  w_on; o_law; k_head; (case hw => w_witness2)
  k_fill
  refine LamX.walk_ofTs (l := PySem.Challenge.rw_chaincompass_k11_placings_moved) (n := 63) (k := 16) (x := "_law_script") (CX := fun w => L2.CX PySem.Challenge.rw_chaincompass_k11_placings_moved.prog w) rfl (by decide) rfl ⟨rfl, by decide, by decide⟩ (fun w h Y => PySem.W.km_in_of Y) ?F (fun _ _ _ _ _ h => M.cx_none h)
  case F =>
    intro w mg fa h Y KX Gx hmg
    have hT8 := PySem.W.km_tabs_of Y
    refine' K11.all_mk KX Gx hmg ?aC_Placing ?a_is_name ?l_is_name ?cc_is_name ?k_is_name ?a_is_integer ?l_is_integer ?cc_is_integer ?k_is_integer ?a_is_whole ?l_is_whole ?cc_is_whole ?k_is_whole ?a_is_point ?l_is_point ?cc_is_point ?k_is_point ?a_Placing_init ?i_Placing_init ?l_Placing_init ?cc_Placing_init ?k_Placing_init ?a_Placing_points ?i_Placing_points ?l_Placing_points ?cc_Placing_points ?k_Placing_points ?a_Placing_eq ?i_Placing_eq ?l_Placing_eq ?cc_Placing_eq ?k_Placing_eq ?a_Placing_placed ?i_Placing_placed ?l_Placing_placed ?cc_Placing_placed ?k_Placing_placed ?a_Placing_moved ?i_Placing_moved ?l_Placing_moved ?cc_Placing_moved ?k_Placing_moved ?a_Placing_turned ?i_Placing_turned ?l_Placing_turned ?cc_Placing_turned ?k_Placing_turned ?a_Placing_mirrored ?i_Placing_mirrored ?l_Placing_mirrored ?cc_Placing_mirrored ?k_Placing_mirrored ?a_Placing_stretched ?i_Placing_stretched ?l_Placing_stretched ?cc_Placing_stretched ?k_Placing_stretched ?a_l_cell ?l_l_cell ?cc_l_cell ?k_l_cell ?a_l_box ?l_l_box ?cc_l_box ?k_l_box ?a_l_take ?l_l_take ?cc_l_take ?k_l_take ?a_l_mixed ?l_l_mixed ?cc_l_mixed ?k_l_mixed ?a_l_names ?l_l_names ?cc_l_names ?k_l_names ?a_l_points ?l_l_points ?cc_l_points ?k_l_points ?a_l_caught ?l_l_caught ?cc_l_caught ?k_l_caught ?a_l_is ?l_l_is ?cc_l_is ?k_l_is ?a_l_out ?l_l_out ?cc_l_out ?k_l_out ?a_l_case_right ?l_l_case_right ?cc_l_case_right ?k_l_case_right ?a_l_moves_right ?l_l_moves_right ?cc_l_moves_right ?k_l_moves_right ?lc_l_moves_right ?v11_l_moves_right ?ch_l_moves_right ?np_l_moves_right ?tb_l_moves_right ?a_l_refusals_right ?l_l_refusals_right ?cc_l_refusals_right ?k_l_refusals_right ?lc_l_refusals_right ?v11_l_refusals_right ?ch_l_refusals_right ?np_l_refusals_right ?tb_l_refusals_right ?a_law ?l_law ?cc_law ?k_law ?pn_l_moves_right_l_refusals_right ?pg_Placing ?hd_Placing ?po_Placing ?sa_Placing ?ih_Placing ?in_Placing ?it_Placing ?im_Placing ?mk_Placing ?kc_Placing ?n_by_name_Placing ?ne_Placing ?so_Placing ?nf_NoneType_Placing ?nf_bool_Placing ?nf_int_Placing ?nf_str_Placing ?nf_list_Placing ?nf_tuple_Placing ?nf_dict_Placing ?tk_NoneType_Placing ?kt_bool_Placing ?tk_bool_Placing ?kt_int_Placing ?tk_int_Placing ?kt_str_Placing ?tk_str_Placing ?kt_list_Placing ?tk_list_Placing ?kt_tuple_Placing ?tk_tuple_Placing ?kt_dict_Placing ?tk_dict_Placing ?z_MOST_MARKS ?z_FARTHEST ?y_isinstance ?y_int ?y_bool ?y_str ?y_len ?y_max ?y_min ?y_range ?y_list ?y_tuple ?y_dict ?y_sorted ?y_all ?aC_InvalidPoints ?aC_OutOfRange ?aC_InvalidShift ?aC_InvalidFactor ?aC_NetError ?y_super ?htop ?opn ?exL_InvalidPoints ?erv_InvalidPoints ?eal_InvalidPoints ?esa_InvalidPoints ?ega_InvalidPoints ?egg_InvalidPoints ?enn_InvalidPoints ?eic_InvalidPoints ?etc_InvalidPoints ?ekc_InvalidPoints ?eex_InvalidPoints ?eve_InvalidPoints ?emi_InvalidPoints ?ety_InvalidPoints ?ehd_InvalidPoints ?efl_InvalidPoints ?efc_InvalidPoints ?efd_InvalidPoints ?ef2_InvalidPoints ?eff_InvalidPoints ?eev_InvalidPoints ?efk_InvalidPoints ?exL_OutOfRange ?erv_OutOfRange ?eal_OutOfRange ?esa_OutOfRange ?ega_OutOfRange ?egg_OutOfRange ?enn_OutOfRange ?eic_OutOfRange ?etc_OutOfRange ?ekc_OutOfRange ?eex_OutOfRange ?eve_OutOfRange ?emi_OutOfRange ?ety_OutOfRange ?ehd_OutOfRange ?efl_OutOfRange ?efc_OutOfRange ?efd_OutOfRange ?ef2_OutOfRange ?eff_OutOfRange ?eev_OutOfRange ?efk_OutOfRange ?exL_InvalidShift ?erv_InvalidShift ?eal_InvalidShift ?esa_InvalidShift ?ega_InvalidShift ?egg_InvalidShift ?enn_InvalidShift ?eic_InvalidShift ?etc_InvalidShift ?ekc_InvalidShift ?eex_InvalidShift ?eve_InvalidShift ?emi_InvalidShift ?ety_InvalidShift ?ehd_InvalidShift ?efl_InvalidShift ?efc_InvalidShift ?efd_InvalidShift ?ef2_InvalidShift ?eff_InvalidShift ?eev_InvalidShift ?efk_InvalidShift ?exL_InvalidFactor ?erv_InvalidFactor ?eal_InvalidFactor ?esa_InvalidFactor ?ega_InvalidFactor ?egg_InvalidFactor ?enn_InvalidFactor ?eic_InvalidFactor ?etc_InvalidFactor ?ekc_InvalidFactor ?eex_InvalidFactor ?eve_InvalidFactor ?emi_InvalidFactor ?ety_InvalidFactor ?ehd_InvalidFactor ?efl_InvalidFactor ?efc_InvalidFactor ?efd_InvalidFactor ?ef2_InvalidFactor ?eff_InvalidFactor ?eev_InvalidFactor ?efk_InvalidFactor ?x_InvalidFactor_InvalidFactor ?x_InvalidShift_InvalidFactor ?x_InvalidShift_InvalidShift ?x_OutOfRange_InvalidFactor ?x_OutOfRange_InvalidShift ?x_OutOfRange_OutOfRange
    (case aC_Placing => k_is)
    (case a_is_name => k_is)
    (case l_is_name => k_is)
    (case cc_is_name => k_is)
    (case k_is_name => k_is)
    (case a_is_integer => k_is)
    (case l_is_integer => k_is)
    (case cc_is_integer => k_is)
    (case k_is_integer => k_is)
    (case a_is_whole => k_is)
    (case l_is_whole => k_is)
    (case cc_is_whole => k_is)
    (case k_is_whole => k_is)
    (case a_is_point => k_is)
    (case l_is_point => k_is)
    (case cc_is_point => k_is)
    (case k_is_point => k_is)
    (case a_Placing_init => k_is)
    (case i_Placing_init => k_is)
    (case l_Placing_init => k_is)
    (case cc_Placing_init => k_is)
    (case k_Placing_init => k_is)
    (case a_Placing_points => k_is)
    (case i_Placing_points => k_is)
    (case l_Placing_points => k_is)
    (case cc_Placing_points => k_is)
    (case k_Placing_points => k_is)
    (case a_Placing_eq => k_is)
    (case i_Placing_eq => k_is)
    (case l_Placing_eq => k_is)
    (case cc_Placing_eq => k_is)
    (case k_Placing_eq => k_is)
    (case a_Placing_placed => k_is)
    (case i_Placing_placed => k_is)
    (case l_Placing_placed => k_is)
    (case cc_Placing_placed => k_is)
    (case k_Placing_placed => k_is)
    (case a_Placing_moved => k_is)
    (case i_Placing_moved => k_is)
    (case l_Placing_moved => k_is)
    (case cc_Placing_moved => k_is)
    (case k_Placing_moved => k_is)
    (case a_Placing_turned => k_is)
    (case i_Placing_turned => k_is)
    (case l_Placing_turned => k_is)
    (case cc_Placing_turned => k_is)
    (case k_Placing_turned => k_is)
    (case a_Placing_mirrored => k_is)
    (case i_Placing_mirrored => k_is)
    (case l_Placing_mirrored => k_is)
    (case cc_Placing_mirrored => k_is)
    (case k_Placing_mirrored => k_is)
    (case a_Placing_stretched => k_is)
    (case i_Placing_stretched => k_is)
    (case l_Placing_stretched => k_is)
    (case cc_Placing_stretched => k_is)
    (case k_Placing_stretched => k_is)
    (case a_l_cell => k_is)
    (case l_l_cell => k_is)
    (case cc_l_cell => k_is)
    (case k_l_cell => k_is)
    (case a_l_box => k_is)
    (case l_l_box => k_is)
    (case cc_l_box => k_is)
    (case k_l_box => k_is)
    (case a_l_take => k_is)
    (case l_l_take => k_is)
    (case cc_l_take => k_is)
    (case k_l_take => k_is)
    (case a_l_mixed => k_is)
    (case l_l_mixed => k_is)
    (case cc_l_mixed => k_is)
    (case k_l_mixed => k_is)
    (case a_l_names => k_is)
    (case l_l_names => k_is)
    (case cc_l_names => k_is)
    (case k_l_names => k_is)
    (case a_l_points => k_is)
    (case l_l_points => k_is)
    (case cc_l_points => k_is)
    (case k_l_points => k_is)
    (case a_l_caught => k_is)
    (case l_l_caught => k_is)
    (case cc_l_caught => k_is)
    (case k_l_caught => k_is)
    (case a_l_is => k_is)
    (case l_l_is => k_is)
    (case cc_l_is => k_is)
    (case k_l_is => k_is)
    (case a_l_out => k_is)
    (case l_l_out => k_is)
    (case cc_l_out => k_is)
    (case k_l_out => k_is)
    (case a_l_case_right => k_is)
    (case l_l_case_right => k_is)
    (case cc_l_case_right => k_is)
    (case k_l_case_right => k_is)
    (case a_l_moves_right => k_is)
    (case l_l_moves_right => k_is)
    (case cc_l_moves_right => k_is)
    (case k_l_moves_right => k_is)
    (case lc_l_moves_right => k_is)
    (case v11_l_moves_right => rfl)
    (case ch_l_moves_right => kernel_rfl)
    (case np_l_moves_right => kernel_rfl)
    (case tb_l_moves_right => exact hT8 _ (by k_mem))
    (case a_l_refusals_right => k_is)
    (case l_l_refusals_right => k_is)
    (case cc_l_refusals_right => k_is)
    (case k_l_refusals_right => k_is)
    (case lc_l_refusals_right => k_is)
    (case v11_l_refusals_right => rfl)
    (case ch_l_refusals_right => kernel_rfl)
    (case np_l_refusals_right => kernel_rfl)
    (case tb_l_refusals_right => exact hT8 _ (by k_mem))
    (case a_law => k_is)
    (case l_law => k_is)
    (case cc_law => k_is)
    (case k_law => k_is)
    (case pn_l_moves_right_l_refusals_right => decide)
    (case pg_Placing => k_is)
    (case hd_Placing => k_is)
    (case po_Placing => k_is)
    (case sa_Placing => k_is)
    (case ih_Placing => k_is)
    (case in_Placing => k_is)
    (case it_Placing => k_is)
    (case im_Placing => k_is)
    (case mk_Placing => k_is)
    (case kc_Placing => k_is)
    (case n_by_name_Placing => k_is)
    (case ne_Placing => k_is)
    (case so_Placing => k_is)
    (case nf_NoneType_Placing => kernel_rfl)
    (case nf_bool_Placing => kernel_rfl)
    (case nf_int_Placing => kernel_rfl)
    (case nf_str_Placing => kernel_rfl)
    (case nf_list_Placing => kernel_rfl)
    (case nf_tuple_Placing => kernel_rfl)
    (case nf_dict_Placing => kernel_rfl)
    (case tk_NoneType_Placing => kernel_rfl)
    (case kt_bool_Placing => kernel_rfl)
    (case tk_bool_Placing => kernel_rfl)
    (case kt_int_Placing => kernel_rfl)
    (case tk_int_Placing => kernel_rfl)
    (case kt_str_Placing => kernel_rfl)
    (case tk_str_Placing => kernel_rfl)
    (case kt_list_Placing => kernel_rfl)
    (case tk_list_Placing => kernel_rfl)
    (case kt_tuple_Placing => kernel_rfl)
    (case tk_tuple_Placing => kernel_rfl)
    (case kt_dict_Placing => kernel_rfl)
    (case tk_dict_Placing => kernel_rfl)
    (case z_MOST_MARKS => k_is)
    (case z_FARTHEST => k_is)
    (case y_isinstance => k_is)
    (case y_int => k_is)
    (case y_bool => k_is)
    (case y_str => k_is)
    (case y_len => k_is)
    (case y_max => k_is)
    (case y_min => k_is)
    (case y_range => k_is)
    (case y_list => k_is)
    (case y_tuple => k_is)
    (case y_dict => k_is)
    (case y_sorted => k_is)
    (case y_all => k_is)
    (case aC_InvalidPoints => k_is)
    (case aC_OutOfRange => k_is)
    (case aC_InvalidShift => k_is)
    (case aC_InvalidFactor => k_is)
    (case aC_NetError => k_is)
    (case y_super => k_is)
    (case htop => first | rfl | kernel_rfl)
    (case opn => k_is)
    (case exL_InvalidPoints => k_is)
    (case erv_InvalidPoints => first | rfl | kernel_rfl)
    (case eal_InvalidPoints => kernel_rfl)
    (case esa_InvalidPoints => k_is)
    (case ega_InvalidPoints => k_is)
    (case egg_InvalidPoints => k_is)
    (case enn_InvalidPoints => k_is)
    (case eic_InvalidPoints => k_is)
    (case etc_InvalidPoints => k_is)
    (case ekc_InvalidPoints => k_is)
    (case eex_InvalidPoints => k_is)
    (case eve_InvalidPoints => k_is)
    (case emi_InvalidPoints => k_is)
    (case ety_InvalidPoints => k_is)
    (case ehd_InvalidPoints => k_is)
    (case efl_InvalidPoints => k_is)
    (case efc_InvalidPoints => k_is)
    (case efd_InvalidPoints => k_is)
    (case ef2_InvalidPoints => rfl)
    (case eff_InvalidPoints => first | rfl | kernel_rfl)
    (case eev_InvalidPoints => exact fun env => ⟨_, rfl⟩)
    (case efk_InvalidPoints => k_is)
    (case exL_OutOfRange => k_is)
    (case erv_OutOfRange => first | rfl | kernel_rfl)
    (case eal_OutOfRange => kernel_rfl)
    (case esa_OutOfRange => k_is)
    (case ega_OutOfRange => k_is)
    (case egg_OutOfRange => k_is)
    (case enn_OutOfRange => k_is)
    (case eic_OutOfRange => k_is)
    (case etc_OutOfRange => k_is)
    (case ekc_OutOfRange => k_is)
    (case eex_OutOfRange => k_is)
    (case eve_OutOfRange => k_is)
    (case emi_OutOfRange => k_is)
    (case ety_OutOfRange => k_is)
    (case ehd_OutOfRange => k_is)
    (case efl_OutOfRange => k_is)
    (case efc_OutOfRange => k_is)
    (case efd_OutOfRange => k_is)
    (case ef2_OutOfRange => rfl)
    (case eff_OutOfRange => first | rfl | kernel_rfl)
    (case eev_OutOfRange => exact fun env => ⟨_, rfl⟩)
    (case efk_OutOfRange => k_is)
    (case exL_InvalidShift => k_is)
    (case erv_InvalidShift => first | rfl | kernel_rfl)
    (case eal_InvalidShift => kernel_rfl)
    (case esa_InvalidShift => k_is)
    (case ega_InvalidShift => k_is)
    (case egg_InvalidShift => k_is)
    (case enn_InvalidShift => k_is)
    (case eic_InvalidShift => k_is)
    (case etc_InvalidShift => k_is)
    (case ekc_InvalidShift => k_is)
    (case eex_InvalidShift => k_is)
    (case eve_InvalidShift => k_is)
    (case emi_InvalidShift => k_is)
    (case ety_InvalidShift => k_is)
    (case ehd_InvalidShift => k_is)
    (case efl_InvalidShift => k_is)
    (case efc_InvalidShift => k_is)
    (case efd_InvalidShift => k_is)
    (case ef2_InvalidShift => rfl)
    (case eff_InvalidShift => first | rfl | kernel_rfl)
    (case eev_InvalidShift => exact fun env => ⟨_, rfl⟩)
    (case efk_InvalidShift => k_is)
    (case exL_InvalidFactor => k_is)
    (case erv_InvalidFactor => first | rfl | kernel_rfl)
    (case eal_InvalidFactor => kernel_rfl)
    (case esa_InvalidFactor => k_is)
    (case ega_InvalidFactor => k_is)
    (case egg_InvalidFactor => k_is)
    (case enn_InvalidFactor => k_is)
    (case eic_InvalidFactor => k_is)
    (case etc_InvalidFactor => k_is)
    (case ekc_InvalidFactor => k_is)
    (case eex_InvalidFactor => k_is)
    (case eve_InvalidFactor => k_is)
    (case emi_InvalidFactor => k_is)
    (case ety_InvalidFactor => k_is)
    (case ehd_InvalidFactor => k_is)
    (case efl_InvalidFactor => k_is)
    (case efc_InvalidFactor => k_is)
    (case efd_InvalidFactor => k_is)
    (case ef2_InvalidFactor => rfl)
    (case eff_InvalidFactor => first | rfl | kernel_rfl)
    (case eev_InvalidFactor => exact fun env => ⟨_, rfl⟩)
    (case efk_InvalidFactor => k_is)
    (case x_InvalidFactor_InvalidFactor => kernel_rfl)
    (case x_InvalidShift_InvalidFactor => kernel_rfl)
    (case x_InvalidShift_InvalidShift => kernel_rfl)
    (case x_OutOfRange_InvalidFactor => kernel_rfl)
    (case x_OutOfRange_InvalidShift => kernel_rfl)
    (case x_OutOfRange_OutOfRange => kernel_rfl)

