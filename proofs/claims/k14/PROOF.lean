import PyProof.Rows.All
import Wide.All
import OpenK.AllK
import Wide.FinOn
import KE.OsRunLaw
import KE.KNestM
import KE.HD1
import HandS.ForMost
import HandS.IsInst
import HandS.Style
import HandS.StrMore
import HandS.RaiseMore
import HandS.Conv
import HandS.Flow
import HandS.Codes
import KE.KExcSuper
import HandS.ForExc
import HandS.TryMany
import HandS.Lambda
import HandS.CallLocal
import HandS.More
import HandS.EndTab
import HandS.OwnEq
import HandS.FStr
import HandS.ClsMeth
import HandS.DeepEq
import HandS.WordsExc
import HandS.CallSlots
import KE.KCallOwn
import HandS.ReplaceLit
import HandS.Property
import HandS.NamedTupSort
import HandS.ReplaceList
import PyProof.Rows.SetFrom
import HandS.DictComp
import HandS.Set
import PyProof.Rows.SortShellAny
import HandS.Star
import HandS.NoneIn
import HandS.ListItems
import HandS.Finally
import KE.KDictCopyH
import HandS.TupSets
import HandS.TupLe
import KE.KIsAll
import HandS.ExcIs
import HandS.ExcValue
import KE.KExcIs
import PyProof.ExcBaseAll.ValueError
import KE.KDictZip
import PySem.Challenge.RW_chaincompass_k14_ranks_and_kernels
import HandS.GenBody
import HandS.GenOver
import PyProof.GenQ
import KE.KDictIter
import HandS.Wide
set_option Elab.async false
set_option linter.all false
set_option maxRecDepth 100000
namespace M
open PySem PySem.W
def addTb (K : Params → Frag) (ts : List Addr) : Params → Frag := fun P => K P ++ ts.map fun a => (a, tabObj #[])
theorem addTbE {K : Params → Frag} {as : List Addr} {ts : List Addr} (e : ∀ P, as = (K P).map (·.1)) (P : Params) : as ++ ts = (addTb K ts P).map (·.1) := by
  unfold addTb
  rw [List.map_append, ← e P, List.map_map]
  congr 1
  exact (List.map_id ts).symm
abbrev kH2 (K : Params → Frag) (as : List Addr) (e : ∀ P, as = (K P).map (·.1)) (ts : List Addr) : Hook := kHook (addTb K ts) (as ++ ts) (addTbE e)
theorem look_app {xs ys : Frag} {a : Addr} : (xs ++ ys).lookup a = ((xs.lookup a).or (ys.lookup a)) := by
  induction xs with
  | nil => rfl
  | cons x xs ih =>
    obtain ⟨b, o⟩ := x
    by_cases h : a == b
    · simp [List.lookup, h]
    · simp [List.lookup, h, ih]
theorem look_tab {ts : List Addr} {P : Addr} (h : P ∈ ts) : (ts.map fun a => (a, tabObj #[])).lookup P = some (tabObj #[]) := by
  induction ts with
  | nil => cases h
  | cons t ts ih =>
    by_cases e : P == t
    · simp [List.lookup, e]
    · simp only [List.map_cons, List.lookup, e]
      exact ih (by
        rcases List.mem_cons.mp h with h | h
        · subst h; simp at e
        · exact h)
theorem k2_in {K : Params → Frag} {as : List Addr} {e : ∀ P, as = (K P).map (·.1)} {ts : List Addr} {w : World} {h : Heap} (Y : (kH2 K as e ts).says w h) : (K w.params).In h := fun a o q => Y a o (by
  show (K w.params ++ _).lookup a = _
  rw [look_app, q]
  rfl)
theorem k2_tabs {K : Params → Frag} {as : List Addr} {e : ∀ P, as = (K P).map (·.1)} {ts : List Addr} {w : World} {h : Heap} (Y : (kH2 K as e ts).says w h) : ∀ P ∈ ts, (K w.params).lookup P = none → h.get? P = some (tabObj #[]) := fun P hP n => Y P _ (by
  show (K w.params ++ _).lookup P = _
  rw [look_app, n, look_tab hP]
  rfl)
end M
set_option Elab.async false
set_option linter.all false
set_option maxRecDepth 100000
set_option maxHeartbeats 4000000
namespace G
open PySem PySem.Spec PyProof.Rows L2
section
variable {X : Cx}
def rStrMul : R2 := fun x y H Q => ∃ z n, x = .str z ∧ y = .int n ∧ 0 ≤ n ∧ n ≤ 100000 ∧ z.length * n.toNat ≤ 1000000 ∧ Q (.str (Txt.mul z n)) H
def rAddU : R2 := fun x y H Q => rI0 (fun i j => .int (i + j)) x y H Q ∨ (∃ i j, x = .str i ∧ y = .str j ∧ i.length + j.length ≤ sizeLine ∧ Q (.str (i ++ j)) H) ∨ rCat x y H Q
theorem op_addU : OpR X (binaryOp .Add) rAddU := op_add.or (op_add_str.or op_cat)
def rFdivU : R2 := rI CDivN fun i j => .int (i.fdiv j)
theorem op_fdivU : OpR X (binaryOp .FloorDiv) rFdivU := op_fdivN
def rModU : R2 := rI (fun _ j => j ≠ 0) fun i j => .int (i.fmod j)
theorem op_modU : OpR X (binaryOp .Mod) rModU := op_modN
def rPowU : R2 := rI CPow fun i j => .int (i ^ j.toNat)
theorem op_powU : OpR X (binaryOp .Pow) rPowU := op_pow
def rEqU (K : PySem.W.Frag) : R2 := fun x y H Q => rEq x y H Q ∨ rEqD K x y H Q
theorem op_eqU {K : PySem.W.Frag} (hK : X.K = K) (hu : X.A.units + 64 < cLine) : OpR X (compareOp .Eq) (rEqU K) := hK ▸ op_eq.or (op_eqD hu)
def rNeU (K : PySem.W.Frag) : R2 := fun x y H Q => rNe x y H Q ∨ rNeD K x y H Q
theorem op_neU {K : PySem.W.Frag} (hK : X.K = K) (hu : X.A.units + 64 < cLine) : OpR X (compareOp .NotEq) (rNeU K) := hK ▸ op_ne.or (op_neD hu)
def rLtU : R2 := fun x y H Q => rI0 (fun i j => .bl (decide (i < j))) x y H Q ∨ ∃ i j, x = .str i ∧ y = .str j ∧ Q (.bl (decide (i.cps.toList < j.cps.toList))) H
theorem op_ltU : OpR X (compareOp .Lt) rLtU := op_lt.or op_lt_str
def rLeU : R2 := fun x y H Q => rI0 (fun i j => .bl (decide (i ≤ j))) x y H Q ∨ ∃ i j, x = .str i ∧ y = .str j ∧ Q (.bl (!decide (j.cps.toList < i.cps.toList))) H
def rGtU : R2 := fun x y H Q => rI0 (fun i j => .bl (decide (j < i))) x y H Q ∨ ∃ i j, x = .str i ∧ y = .str j ∧ Q (.bl (decide (j.cps.toList < i.cps.toList))) H
theorem op_gtU : OpR X (compareOp .Gt) rGtU := op_gt.or op_gt_str
def rGeU : R2 := fun x y H Q => rI0 (fun i j => .bl (decide (j ≤ i))) x y H Q ∨ ∃ i j, x = .str i ∧ y = .str j ∧ Q (.bl (!decide (i.cps.toList < j.cps.toList))) H
def rInU (K : PySem.W.Frag) : R2 := fun x y H Q => rIn K false x y H Q ∨ ∃ (c : Nat) (z : Str), x = .str ⟨#[c]⟩ ∧ y = .str z ∧ Q (.bl (decide (c ∈ z.cps.toList))) H
def rNotInU (K : PySem.W.Frag) : R2 := fun x y H Q => rIn K true x y H Q ∨ ∃ (c : Nat) (z : Str), x = .str ⟨#[c]⟩ ∧ y = .str z ∧ Q (.bl (!decide (c ∈ z.cps.toList))) H
theorem op_notInU {K : PySem.W.Frag} (hK : X.K = K) : OpR X (compareOp .NotIn) (rNotInU K) := hK ▸ op_notIn_seq.or op_notIn_sign
def rIsU : R2 := fun x y H Q => (y = .non ∧ Q (.bl (decide (x = .non))) H) ∨ rIsB x y H Q
def rIsNotU : R2 := fun x y H Q => (y = .non ∧ Q (.bl (!decide (x = .non))) H) ∨ rNotB x y H Q
theorem op_isNotU : OpR X (compareOp .IsNot) rIsNotU := op_notN.or op_notBl
def rSlU (K : PySem.W.Frag) : V → Option Int → Option Int → Hp → VK → Prop := fun x lo hi H Q => rSlL K x lo hi H Q ∨ rSlS x lo hi H Q ∨ rSlT K x lo hi H Q
theorem sl_U {K : PySem.W.Frag} (hK : X.K = K) : SlR X (rSlU K) := hK ▸ sl_list.or (sl_str.or sl_tup)
theorem ix_U {K : PySem.W.Frag} (hK : X.K = K) : IxR X (rIx K) := hK ▸ ix_seq
def rLenU (K : PySem.W.Frag) : List V → Hp → VK → Prop := fun xs H Q => (∃ x n, xs = [x] ∧ LenV K x H n ∧ Q (.int n) H) ∨ ∃ a kvs, xs = [V.ref a] ∧ Rd H a (.dK kvs) ∧ Q (.int kvs.length) H
theorem call_lenRd : CallR X (.builtin "len") (fun xs H Q => ∃ a kvs, xs = [V.ref a] ∧ Rd H a (.dK kvs) ∧ Q (.int kvs.length) H) := by
  intro pins s σ H xs us Q I r h
  obtain ⟨a, kvs, rfl, ha, q⟩ := h
  obtain ⟨u, rfl, ru⟩ := vals1 r
  cases ru
  exact d_len I ha fun t s' I' => ⟨.int kvs.length, H, I', ⟨t, rfl⟩, q⟩
theorem call_lenU {K : PySem.W.Frag} (hK : X.K = K) : CallR X (.builtin "len") (rLenU K) := hK ▸ call_len.or call_lenRd
def rMaxU (K : PySem.W.Frag) : List V → Hp → VK → Prop := fun xs H Q => (∃ i j, xs = [.int i, .int j] ∧ Q (.int (if j > i then j else i)) H) ∨ rMax K xs H Q
theorem call_maxU {K : PySem.W.Frag} (hK : X.K = K) (hc : X.calm = true) : CallR X (.builtin "max") (rMaxU K) := hK ▸ (call_max2 hc).or (cr_max hc)
def rMinU (K : PySem.W.Frag) : List V → Hp → VK → Prop := fun xs H Q => (∃ i j, xs = [.int i, .int j] ∧ Q (.int (if j < i then j else i)) H) ∨ rMin K xs H Q
theorem call_minU {K : PySem.W.Frag} (hK : X.K = K) (hc : X.calm = true) : CallR X (.builtin "min") (rMinU K) := hK ▸ (call_min2 hc).or (cr_min hc)
def rInt1 : List V → Hp → VK → Prop := fun xs H Q => (∃ i, xs = [.int i] ∧ Q (.int i) H) ∨ ∃ k, xs = [.bl k] ∧ Q (.int (if k then 1 else 0)) H
theorem call_intU : CallR X (.type "int") rInt1 := call_int1
def rM0 (g : Str → V) : V → List V → Hp → VK → Prop := fun x xs H Q => ∃ a, x = .str a ∧ xs = [] ∧ True ∧ Q (g a) H
def rReprB : List V → Hp → VK → Prop := fun xs H Q => ∃ b : Bool, xs = [.bl b] ∧ Q (.str (if b then "True" else "False")) H
theorem call_reprB : CallR X (.builtin "repr") rReprB := by
  intro pins s σ H xs us Q I r h
  obtain ⟨b, rfl, q⟩ := h
  obtain ⟨u, rfl, ru⟩ := vals1 r
  cases (show u = Value.bool b from ru)
  exact PySem.P.repr_of_bool ⟨.str _, H, I.tok _, ⟨_, rfl⟩, q⟩
def rReprU : List V → Hp → VK → Prop := fun xs H Q => rReprB xs H Q ∨ ∃ i, xs = [.int i] ∧ i.natAbs.log2 < 1920 ∧ Q (.str (toString i)) H
theorem call_reprU : CallR X (.builtin "repr") rReprU := call_reprB.or SkE.call_repr_int
theorem op_mul_str : OpR X (binaryOp .Mult) rStrMul := by
  intro pins s σ H x y v u Q I rx ry h
  obtain ⟨z, n, rfl, rfl, h0, h1, h2, q⟩ := h
  obtain ⟨t, rfl⟩ := rx
  obtain ⟨t', rfl⟩ := ry
  refine PySem.SB.mul ⟨?_, fun h3 h4 => ?_, fun h3 h4 => ?_⟩ fun t'' k => ⟨.str _, H, I.tok _, ⟨_, rfl⟩, q⟩
  · rw [Bool.or_eq_false_iff]
    exact ⟨decide_eq_false (by omega), decide_eq_false (by omega)⟩
  · have hn : 1 ≤ n.toNat := by omega
    have h5 : z.length * 1 ≤ z.length * n.toNat := Nat.mul_le_mul_left _ hn
    have h6 : (100000000 : Int) ≤ (2 ^ 63 - 1) / n := by
      rw [Int.le_ediv_iff_mul_le (by omega)]
      omega
    omega
  · unfold Builtin.Str.tooLong
    exact decide_eq_false (by rw [sizeLine_eq]; omega)
def rMulU : R2 := fun x y H Q => rI CMul (fun i j => .int (i * j)) x y H Q ∨ rRep x y H Q ∨ rStrMul x y H Q
theorem op_mulU : OpR X (binaryOp .Mult) rMulU := op_mul.or (op_rep.or op_mul_str)
end
section
variable {X : Cx} {K : PySem.W.Frag}
theorem pe_bm0U (hK : X.K = K) {T id : String} {name : Str} {r : V → List V → Hp → VK → Prop} {o : Expr} {to : TE} {apos cpos : Pos} (pa : PlainAttrs T) (slot : Slot T name id) (hty : typeOf (.builtin id) = pure (.type "method_descriptor")) (hm : MtR X id r) (ho : PE X o to)
    (hbase : attributeBase o name X.env (eval o X.env) = eval o X.env := by rfl) (hline : (apos.endLine == cpos.line) = true := by rfl) : PE X (.Call (.Attribute o name apos) [] [] cpos) (tBM0 K T r to) := hK ▸ pe_bm0 pa slot hty hm ho hbase hline
theorem pe_bmU (hK : X.K = K) {T id : String} {name : Str} {r : V → List V → Hp → VK → Prop} {o e : Expr} {es : List Expr} {to : TE} {t : TA} {apos cpos : Pos} (pa : PlainAttrs T) (slot : Slot T name id) (hty : typeOf (.builtin id) = pure (.type "method_descriptor")) (hm : MtR X id r) (ho : PE X o to) (ha : PA X (e :: es) t)
    (hbase : attributeBase o name X.env (eval o X.env) = eval o X.env := by rfl)
    (hfew : ((backTo cpos (starEach (e :: es) X.env)).all (fun x => !x.1) && (backToKw cpos (keywordEach [] X.env)).all (fun x => x.1.isSome)
      && decide ((e :: es).length + ([] : List Keyword).length + (if ([] : List Keyword).isEmpty then 0 else 1) < 30)) = true := by rfl)
    (hline : (apos.endLine == cpos.line) = true := by rfl) (hs : starEach (e :: es) X.env = (false, eval e X.env) :: starEach es X.env := by rfl) (hplain : (backTo cpos (starEach es X.env)).any (·.1) = false := by rfl) :
    PE X (.Call (.Attribute o name apos) (e :: es) [] cpos) (tBM K T r to t) := hK ▸ pe_bm pa slot hty hm ho ha hbase hfew hline hs hplain
def rJoin (K : PySem.W.Frag) : V → List V → Hp → VK → Prop := fun x xs H Q => ∃ a p, ∃ ys : List Str, x = .str a ∧ xs = [.ref p] ∧ (SqL K H p (ys.map V.str) ∨ SqT K H p (ys.map V.str)) ∧
      (ys.map (·.length)).sum + ys.length * a.length ≤ 16777216 ∧ Q (.str (Txt.join a ys)) H
def rSplit : V → List V → Hp → VK → Prop := fun x xs H Q => ∃ a b, x = .str a ∧ xs = [.str b] ∧ (b.length == 0) = false ∧ a.length + 2 ≤ sizeLine ∧ rNewStrs (Txt.split a b) H Q
theorem pg_tupU (hK : X.K = K) {es : List Expr} {k : Nat} {t : TGs} {n : Nat} {pos : Pos} (hc : X.calm = true) (h : PGs X es t)
    (hn : (assignEach es X.env).length = n := by rfl) (hst : (assignEach es X.env).findIdx? (·.1) = none := by rfl) : PG X (.Tuple es k pos) (gTup K n t) := hK ▸ pg_tup hc h hn hst
theorem pi_enumU (hK : X.K = K) {elts : List Expr} {kk : Nat} {tpos p pos : Pos} {e : Expr} {ta : TA} (hg : Gl X "enumerate") (hm : X.mg "enumerate" = none) (ha : PA X [e] ta) (hs : starEach [e] X.env = [(false, eval e X.env)] := by rfl) : PI X (.Tuple elts kk tpos) (.Call (.Name "enumerate" p) [e] [] pos) (iEnum K ta) := hK ▸ pi_enum hg hm ha hs
end
def isBl (x : V) (H : Hp) (R : Bool → Hp → Prop) : Prop := ∃ k, x = .bl k ∧ R k H
def isTwo (vs : List V) (H : Hp) (R : V → V → Hp → Prop) : Prop := ∃ v w, vs = [v, w] ∧ R v w H
def newL (xs : List V) (H : Hp) (Q : VK) : Prop := xs.length ≤ sizeLine ∧ ∀ p, H p = none → Q (.ref p) (upd H p (.lst xs))
def newT (xs : List V) (H : Hp) (Q : VK) : Prop := xs.length ≤ sizeLine ∧ ∀ p, H p = none → Q (.ref p) (upd H p (.tup xs))
def strT (x : V) (H : Hp) (P : Hp → Prop) : Prop := (∃ a, x = .str a) ∧ P H
def mkR (C : Addr) (sp : Sp) (dvs : List V) (E : XK) (vs : List V) (H : Hp) (Q : VK) : Prop := ∀ x dx, H x = none → H dx = none → dx ≠ x → sp (.ref x :: (vs ++ dvs)) (upd (upd H dx (.own x)) x (.ins C dx [])) (fun v H2 => v = .non ∧ Q (.ref x) H2) E
def putR (K : PySem.W.Frag) (f : Str) (x y : V) (H : Hp) (N : Hp → Prop) : Prop := ∃ a C dx fs, x = .ref a ∧ H a = some (.ins C dx fs) ∧ Cls K C ∧ NoAttr K C f ∧ fs.length < 1000 ∧ N (upd H a (.ins C dx (putF f y fs)))
def getR (K : PySem.W.Frag) (f : Str) (x : V) (H : Hp) (Q : VK) : Prop := ∃ a C dx fs v, x = .ref a ∧ H a = some (.ins C dx fs) ∧ Cls K C ∧ NoAttr K C f ∧ fs.lookup f = some v ∧ Q v H
def isI (x : V) (H : Hp) (R : Int → Hp → Prop) : Prop := ∃ i, x = .int i ∧ R i H
def dispR (p : Addr) (ps : List (V × V)) (H : Hp) (Q : VK) : Prop := H p = some (.dK []) ∧ ∃ kvs : List (Key × V), ps = kvs.map (fun kv => (kV kv.1, kv.2)) ∧ kvs.length ≤ 15 ∧ Q (.ref p) (upd H p (.dK (mergeK [] kvs)))
def mtT (K : PySem.W.Frag) (T : String) (x : V) (H : Hp) (P : Hp → Prop) : Prop := tyV K T x H ∧ P H
section
variable {K : PySem.W.Frag} {σ : L2.St} {H : Hp} {Q : VK} {R : Bool → Hp → Prop} {i : Nat} {v x y : V} {ta tb tc te : TE} {t u : TT} {r r' : R2} {D : Ends} {st su : TS} {g : TG} {tA : TA} {QA : List V → Hp → Prop} {QS : L2.St → Hp → Prop}
theorem w_var (h : σ[i]? = some (some v)) (q : Q v H) : tVar i σ H Q := ⟨v, h, q⟩
theorem w_c (q : Q v H) : tC v σ H Q := q
theorem w_op (q : ta σ H fun x H1 => tb σ H1 fun y H2 => r x y H2 Q) : tOp r ta tb σ H Q := q
theorem w_un {r : V → Hp → VK → Prop} (q : ta σ H fun x H1 => r x H1 Q) : tUn r ta σ H Q := q
theorem w_test (q : ta σ H fun x H' => isBl x H' R) : tTest ta σ H R := q
theorem w_B (q : ta σ H fun x H' => isBl x H' R) : tB ta σ H R := q
theorem w_bl {b : Bool} (q : R b H) : isBl (.bl b) H R := ⟨b, rfl, q⟩
theorem w_and (q : t σ H fun c H1 => if c = true then u σ H1 R else R false H1) : tAnd t u σ H R := q
theorem w_or (q : t σ H fun c H1 => if c = true then R true H1 else u σ H1 R) : tOr t u σ H R := q
theorem w_not (q : t σ H fun c H1 => R (!c) H1) : tNot t σ H R := q
theorem w_andV (q : ta σ H fun x H1 => isBl x H1 fun c H1 => if c = true then tb σ H1 Q else Q (.bl false) H1) : tAndV ta tb σ H Q := q
theorem w_orV (q : ta σ H fun x H1 => isBl x H1 fun c H1 => if c = true then Q (.bl true) H1 else tb σ H1 Q) : tOrV ta tb σ H Q := q
theorem w_notV (q : ta σ H fun x H1 => isBl x H1 fun c H1 => Q (.bl (!c)) H1) : tNotV ta σ H Q := q
theorem w_if (q : t σ H fun c H1 => if c = true then ta σ H1 Q else tb σ H1 Q) : tIf t ta tb σ H Q := q
theorem w_chain (q : ta σ H fun x H1 => tb σ H1 fun y H2 => r x y H2 fun z H3 => isBl z H3 fun k H3 => if k = true then tc σ H3 fun w' H4 => r' y w' H4 Q else Q (.bl false) H3) : tChain r r' ta tb tc σ H Q := q
theorem w_nil (q : QA [] H) : tNil σ H QA := q
theorem w_cons (q : te σ H fun x H1 => tA σ H1 fun xs H2 => QA (x :: xs) H2) : tCons te tA σ H QA := q
theorem w_CB {rc : List V → Hp → VK → Prop} (q : tA σ H fun vs H1 => rc vs H1 Q) : tCB rc tA σ H Q := q
theorem w_call {sp : Sp} {dvs : List V} {E : XK} (q : tA σ H fun vs H1 => sp (vs ++ dvs) H1 Q E) : tCall sp dvs E tA σ H Q := q
theorem w_lst (q : tA σ H fun xs H1 => newL xs H1 Q) : tLst tA σ H Q := q
theorem w_tup (q : tA σ H fun xs H1 => newT xs H1 Q) : tTup tA σ H Q := q
theorem w_seq (q : st { D with nx := su D } σ H) : tSeq st su D σ H := q
theorem w_asg (q : te σ H fun x H1 => g x σ H1 D.nx) : tAsg te g D σ H := q
theorem w_gname (q : QS (σ.set i (some v)) H) : gName i v σ H QS := q
theorem w_gsub {ts : TSet} (q : ta σ H fun o H1 => tb σ H1 fun i H2 => ts o i v H2 fun H3 => QS σ H3) : gSub ta tb ts v σ H QS := q
theorem w_ifS (q : t σ H fun b H1 => if b = true then st D σ H1 else su D σ H1) : tIfS t st su D σ H := q
theorem w_ret (q : te σ H D.rt) : tRet te D σ H := q
theorem w_retN (q : D.rt .non H) : tRetN D σ H := q
theorem w_drop (q : te σ H fun _ H1 => D.nx σ H1) : tDrop te D σ H := q
theorem w_next (q : D.nx σ H) : tNext D σ H := q
theorem w_par {j : Nat} (q : tA σ H fun vs H1 => isTwo vs H1 fun v w H1 => D.nx ((σ.set i (some v)).set j (some w)) H1) : tPar i j tA D σ H := q
theorem w_two {P : V → V → Hp → Prop} (q : P x y H) : isTwo [x, y] H P := ⟨x, y, rfl, q⟩
theorem w_sl {rs : V → Option Int → Option Int → Hp → VK → Prop} {tl th : TO} (q : te σ H fun x H1 => tl σ H1 fun l H2 => th σ H2 fun u H3 => rs x l u H3 Q) : tSl rs te tl th σ H Q := q
theorem w_bm0 {T : String} {rm : V → List V → Hp → VK → Prop} (q : ta σ H fun x H1 => mtT K T x H1 fun H1 => rm x [] H1 Q) : tBM0 K T rm ta σ H Q := q
theorem w_bm {T : String} {rm : V → List V → Hp → VK → Prop} (q : ta σ H fun x H1 => mtT K T x H1 fun H1 => tA σ H1 fun xs H2 => rm x xs H2 Q) : tBM K T rm ta tA σ H Q := q
theorem w_m1 {rm : V → List V → Hp → VK → Prop} (q : ta σ H fun x H1 => strT x H1 fun H1 => te σ H1 fun y H2 => rm x [y] H2 Q) : tM1 rm ta te σ H Q := q
theorem m_strT {z : Str} {P : Hp → Prop} (q : P H) : strT (.str z) H P := ⟨⟨z, rfl⟩, q⟩
theorem m_str {z : Str} {P : Hp → Prop} (q : P H) : mtT K "str" (.str z) H P := ⟨rfl, q⟩
theorem m_lst {p : Addr} {xs : List V} {P : Hp → Prop} (h : SqL K H p xs) (q : P H) : mtT K "list" (.ref p) H P := ⟨.inl ⟨rfl, xs, h⟩, q⟩
theorem m_s0 {z : Str} {gs : Str → V} (q : Q (gs z) H) : rM0 gs (.str z) [] H Q := ⟨z, rfl, rfl, trivial, q⟩
theorem w_make {C : Addr} {sp : Sp} {dvs : List V} {E : XK} (q : tA σ H fun vs H1 => mkR C sp dvs E vs H1 Q) : tMake C sp dvs E tA σ H Q := q
theorem w_sfld {f : Str} (q : te σ H fun y H1 => ta σ H1 fun x H2 => putR K f x y H2 fun H3 => D.nx σ H3) : sFld K ta te f D σ H := q
theorem w_fld {f : Str} (q : ta σ H fun x H1 => getR K f x H1 Q) : tFld K ta f σ H Q := q
theorem w_noPart {QO : Option Int → Hp → Prop} (q : QO none H) : tNoPart σ H QO := q
theorem w_part {QO : Option Int → Hp → Prop} (q : te σ H fun x H1 => isI x H1 fun i H1 => QO (some i) H1) : tPart te σ H QO := q
theorem w_isI {j : Int} {RI : Int → Hp → Prop} (q : RI j H) : isI (.int j) H RI := ⟨j, rfl, q⟩
theorem w_disp {trs : List (TE × TE)} (q : ∀ p, H p = none → tPairs trs σ (upd H p (.dK [])) fun ps H2 => dispR p ps H2 Q) : tDisp trs σ H Q := q
theorem w_pair0 {QP : List (V × V) → Hp → Prop} (q : QP [] H) : tPairs [] σ H QP := q
theorem w_pair1 {QP : List (V × V) → Hp → Prop} {trs : List (TE × TE)} (q : ta σ H fun x H1 => tb σ H1 fun y H2 => tPairs trs σ H2 fun ps H3 => QP ((x, y) :: ps) H3) : tPairs ((ta, tb) :: trs) σ H QP := q
theorem w_yes (q : R true H) : tYes σ H R := q
theorem a_addI {a b : Int} (q : Q (.int (a + b)) H) : rAddU (.int a) (.int b) H Q := .inl ⟨a, b, rfl, rfl, q⟩
theorem a_I0 {f : Int → Int → V} {a b : Int} (q : Q (f a b) H) : rI0 f (.int a) (.int b) H Q := ⟨a, b, rfl, rfl, q⟩
theorem a_mulI {a b : Int} (h : CMul a b) (q : Q (.int (a * b)) H) : rMulU (.int a) (.int b) H Q := .inl ⟨a, b, rfl, rfl, h, q⟩
theorem c_reprB {b : Bool} (q : Q (.str (if b then "True" else "False")) H) : rReprU [.bl b] H Q := .inl ⟨b, rfl, q⟩
theorem w_dnew (q : ∀ p, H p = none → Q (.ref p) (upd H p (.dK []))) : tDNewK σ H Q := q
theorem a_fdiv {a b : Int} (h : CDivN a b) (q : Q (.int (a.fdiv b)) H) : rFdivU (.int a) (.int b) H Q := ⟨a, b, rfl, rfl, h, q⟩
theorem a_mod {a b : Int} (h : b ≠ 0) (q : Q (.int (a.fmod b)) H) : rModU (.int a) (.int b) H Q := ⟨a, b, rfl, rfl, h, q⟩
theorem a_pow {a b : Int} (h : CPow a b) (q : Q (.int (a ^ b.toNat)) H) : rPowU (.int a) (.int b) H Q := ⟨a, b, rfl, rfl, h, q⟩
theorem a_neg {a : Int} (q : Q (.int (-a)) H) : rU (fun i => .int (-i)) (.int a) H Q := ⟨a, rfl, q⟩
theorem a_ltI {a b : Int} (q : Q (.bl (decide (a < b))) H) : rLtU (.int a) (.int b) H Q := .inl ⟨a, b, rfl, rfl, q⟩
theorem a_leI {a b : Int} (q : Q (.bl (decide (a ≤ b))) H) : rLeU (.int a) (.int b) H Q := .inl ⟨a, b, rfl, rfl, q⟩
theorem a_gtI {a b : Int} (q : Q (.bl (decide (b < a))) H) : rGtU (.int a) (.int b) H Q := .inl ⟨a, b, rfl, rfl, q⟩
theorem a_geI {a b : Int} (q : Q (.bl (decide (b ≤ a))) H) : rGeU (.int a) (.int b) H Q := .inl ⟨a, b, rfl, rfl, q⟩
theorem a_ltS {a b : Str} (q : Q (.bl (decide (a.cps.toList < b.cps.toList))) H) : rLtU (.str a) (.str b) H Q := .inr ⟨a, b, rfl, rfl, q⟩
theorem a_eqI {a b : Int} (q : Q (.bl (decide (a = b))) H) : rEqU K (.int a) (.int b) H Q := .inl ⟨rfl, by rw [show decide (V.int a = V.int b) = decide (a = b) from decide_eq_decide.mpr ⟨V.int.inj, congrArg _⟩]; exact q⟩
theorem a_eqS {a b : Str} (q : Q (.bl (decide (a = b))) H) : rEqU K (.str a) (.str b) H Q := .inl ⟨rfl, by rw [show decide (V.str a = V.str b) = decide (a = b) from decide_eq_decide.mpr ⟨V.str.inj, congrArg _⟩]; exact q⟩
theorem a_neS {a b : Str} (q : Q (.bl (!decide (a = b))) H) : rNeU K (.str a) (.str b) H Q := .inl ⟨rfl, by rw [show decide (V.str a = V.str b) = decide (a = b) from decide_eq_decide.mpr ⟨V.str.inj, congrArg _⟩]; exact q⟩
theorem a_neI {a b : Int} (q : Q (.bl (!decide (a = b))) H) : rNeU K (.int a) (.int b) H Q := .inl ⟨rfl, by rw [show decide (V.int a = V.int b) = decide (a = b) from decide_eq_decide.mpr ⟨V.int.inj, congrArg _⟩]; exact q⟩
theorem a_isnotB {a b : Bool} (q : Q (.bl (!decide (a = b))) H) : rIsNotU (.bl a) (.bl b) H Q := .inr ⟨a, b, rfl, rfl, q⟩
theorem a_isB {a b : Bool} (q : Q (.bl (decide (a = b))) H) : rIsU (.bl a) (.bl b) H Q := .inr ⟨a, b, rfl, rfl, q⟩
theorem a_isN (q : Q (.bl (decide (x = .non))) H) : rIsU x .non H Q := .inl ⟨rfl, q⟩
theorem a_isnotN (q : Q (.bl (!decide (x = .non))) H) : rIsNotU x .non H Q := .inl ⟨rfl, q⟩
theorem a_ixL {p : Addr} {xs : List V} {k : Int} (h : H p = some (.lst xs)) (ha : atI xs k = some v) (q : Q v H) : rIx K (.ref p) (.int k) H Q := .inl ⟨p, xs, k, v, rfl, rfl, .of h, ha, q⟩
theorem a_ixLK {p : Addr} {xs : List V} {k : Int} (h : SqL K H p xs) (ha : atI xs k = some v) (q : Q v H) : rIx K (.ref p) (.int k) H Q := .inl ⟨p, xs, k, v, rfl, rfl, h, ha, q⟩
theorem a_set {p : Addr} {xs : List V} {k : Int} {j : Nat} {QH : Hp → Prop} (h : H p = some (.lst xs)) (ha : ixN xs.length k = some j) (q : QH (upd H p (.lst (xs.set j v)))) : rSetL (.ref p) (.int k) v H QH := ⟨p, xs, k, j, rfl, rfl, h, ha, q⟩
theorem c_int {a : Int} (q : Q (.int a) H) : rInt1 [.int a] H Q := .inl ⟨a, rfl, q⟩
theorem c_intB {a : Bool} (q : Q (.int (if a then 1 else 0)) H) : rInt1 [.bl a] H Q := .inr ⟨a, rfl, q⟩
theorem c_lenL {p : Addr} {xs : List V} (h : SqL K H p xs) (q : Q (.int xs.length) H) : rLenU K [.ref p] H Q := .inl ⟨.ref p, xs.length, rfl, .inl ⟨xs, h, rfl⟩, q⟩
theorem c_max {a b : Int} (q : Q (.int (if b > a then b else a)) H) : rMaxU K [.int a, .int b] H Q := .inl ⟨a, b, rfl, q⟩
theorem c_min {a b : Int} (q : Q (.int (if b < a then b else a)) H) : rMinU K [.int a, .int b] H Q := .inl ⟨a, b, rfl, q⟩
end
theorem sz1000 {n : Nat} (h : n ≤ 1000) : n ≤ sizeLine := Nat.le_of_lt (small1000 h)
theorem newL_of {xs : List V} {H : Hp} {Q : VK} (h : Nat.ble xs.length 1000 = true) (q : ∀ p, H p = none → Q (.ref p) (upd H p (.lst xs))) : newL xs H Q := ⟨sz1000 (Nat.le_of_ble_eq_true h), q⟩
theorem iteNT {A B : Prop} (h : B) : if (!true) = true then A else B := iteF h
theorem iteNF {A B : Prop} (h : A) : if (!false) = true then A else B := iteT h
theorem iteD {p A B : Prop} [Decidable p] (h1 : p → A) (h2 : ¬ p → B) : if decide p = true then A else B := ite2 (fun h => h1 (of_decide_eq_true h)) fun h => h2 fun q => h (decide_eq_true q)
def Ex (G J : Hp) : Prop := ∀ a o, G a = some o → J a = some o
theorem Ex.refl (G : Hp) : Ex G G := fun _ _ => id
theorem Ex.trans {F G J : Hp} (a : Ex F G) (b : Ex G J) : Ex F J := fun x o => b x o ∘ a x o
theorem Ex.new {H : Hp} {p : Addr} {o : HO} (h : H p = none) : Ex H (upd H p o) := fun a u e => by rw [upd_ne (ne_of_none e h)]; exact e
theorem Ex.fresh {H H' : Hp} {p : Addr} (e : Ex H H') (h : H' p = none) : H p = none := by
  cases h1 : H p with
  | none => rfl
  | some o => rw [e p o h1] at h; cases h
theorem Ex.rd {H H' : Hp} {a : Addr} {u : HO} (e : Ex H H') (h : Rd H a u) : Rd H' a u := by
  rcases h with h | ⟨o, h⟩
  · exact Or.inl (e a _ h)
  · exact Or.inr ⟨o, e a _ h⟩
theorem Ex.l {K : PySem.W.Frag} {H H' : Hp} {a : Addr} {xs : List V} (e : Ex H H') (h : SqL K H a xs) : SqL K H' a xs := h.elim (fun h => .inl (e.rd h)) .inr
theorem Ex.t {K : PySem.W.Frag} {H H' : Hp} {a : Addr} {xs : List V} (e : Ex H H') (h : SqT K H a xs) : SqT K H' a xs := h.elim (fun h => .inl (e.rd h)) .inr
/-- all stands but what is at p -/
def ExB (p : Addr) (H H' : Hp) : Prop := ∀ a o, a ≠ p → H a = some o → H' a = some o
theorem ExB.refl {p : Addr} (H : Hp) : ExB p H H := fun _ _ _ h => h
theorem ExB.trans {p : Addr} {H H1 H2 : Hp} (a : ExB p H H1) (b : ExB p H1 H2) : ExB p H H2 := fun x o n h => b x o n (a x o n h)
theorem ExB.of {p : Addr} {H H' : Hp} (e : Ex H H') : ExB p H H' := fun a o _ h => e a o h
/-- what stands apart from p goes on -/
theorem Ex.box {p : Addr} {G H H' : Hp} (e : Ex G H) (b : ExB p H H') (n : G p = none) : Ex G H' := fun a o h => b a o (ne_of_none h n) (e a o h)
theorem ExB.at {p q : Addr} {H H' : Hp} {o : HO} (e : ExB p H H') (h : H q = some o) (n : q ≠ p) : H' q = some o := e q o n h
structure Walks (J : It) (xs : List V) (Gd : Hp → Prop) : Prop where
  go : ∀ i H x, Gd H → xs[i]? = some x → J.go i H
  yl : ∀ i H x H', Gd H → i < xs.length → J.yld i H x H' → H' = H ∧ xs[i]? = some x
  st : ∀ H, Gd H → J.stop xs.length H
theorem wk_list {K : PySem.W.Frag} {a : Addr} {xs : List V} : Walks (Itl K a) xs (fun H => SqL K H a xs) := ⟨fun i H x h e => ⟨xs, x, h, e⟩, fun i H x H' h _ y => ⟨y.1, y.2 xs h⟩, fun H h => ⟨xs, h, Nat.le_refl _⟩⟩
theorem wk_tup {K : PySem.W.Frag} {a : Addr} {xs : List V} : Walks (Itt K a) xs (fun H => SqT K H a xs) := ⟨fun i H x h e => ⟨xs, x, h, e⟩, fun i H x H' h _ y => ⟨y.1, y.2 xs h⟩, fun H h => ⟨xs, h, Nat.le_refl _⟩⟩
def signsV (z : Str) : List V := z.cps.toList.map fun c => .str ⟨#[c]⟩
theorem wk_str {z : Str} : Walks (Its z) (signsV z) (fun _ => True) := by
  refine ⟨fun i H x _ e => ?_, fun i H x H' _ hi y => ⟨y.1, ?_⟩, fun H _ => ?_⟩
  · have h := (List.getElem?_eq_some_iff.mp e).1
    unfold signsV at h
    rw [List.length_map, Array.length_toList] at h
    exact h
  · obtain ⟨c, hc, rfl⟩ := y.2
    unfold signsV
    rw [List.getElem?_map, Array.getElem?_toList, hc]
    rfl
  · show z.cps.size ≤ (signsV z).length
    unfold signsV
    rw [List.length_map, Array.length_toList]
    exact Nat.le_refl _
def rangeV (lo : Int) (n : Nat) : List V := (List.range n).map fun i => .int (lo + (i : Nat))
theorem wk_range {lo : Int} {n : Nat} : Walks (Itr lo n) (rangeV lo n) (fun _ => True) := by
  refine ⟨fun i H x _ e => ?_, fun i H x H' _ hi y => ⟨y.1, ?_⟩, fun H _ => ?_⟩
  · have h := (List.getElem?_eq_some_iff.mp e).1
    unfold rangeV at h
    rw [List.length_map, List.length_range] at h
    exact h
  · unfold rangeV at hi ⊢
    rw [List.length_map, List.length_range] at hi
    rw [List.getElem?_map, List.getElem?_range hi, y.2]
    rfl
  · show n ≤ (rangeV lo n).length
    unfold rangeV
    rw [List.length_map, List.length_range]
    exact Nat.le_refl _
def lcPut (D : Addr) (y : V) (H : Hp) (Nx : Hp → Prop) : Prop := ∃ acc, H D = some (.lst acc) ∧ acc.length < sizeLine ∧ Nx (upd H D (.lst (acc ++ [y])))
def lcT (D : Addr) (tt : TT) (te : TE) (Nx : Hp → Prop) (σ : L2.St) (H : Hp) : Prop := tt σ H fun b H3 => if b = true then te σ H3 fun y H4 => lcPut D y H4 Nx else Nx H3
def lcW (D : Addr) (tt : TT) (te : TE) (vs : List Nat) (σ0 : L2.St) (Nx : Hp → Prop) (σ : L2.St) (H : Hp) : Prop := wipe σ vs = wipe σ0 vs ∧ lcT D tt te Nx σ H
def lcR (J : It) (g : TG) (tt : TT) (te : TE) (vs : List Nat) (σ : L2.St) (H1 : Hp) (Q : VK) : Prop := ∀ D, H1 D = none → ∃ W : Nat → Nat → Hp → Prop, (∃ m, W 0 m (upd H1 D (.lst []))) ∧ ∀ i m H, W i m H →
  (J.stop i H ∧ Q (.ref D) H) ∨ (J.go i H ∧ ∃ Nx : Hp → Prop, (∀ H', Nx H' → ∃ m', m' < m ∧ W (i + 1) m' H') ∧ ∀ x H', J.yld i H x H' → g x (wipe σ vs) H' fun σ2 H2 => lcW D tt te vs σ Nx σ2 H2)
theorem w_lc {wi : TI} {g : TG} {tt : TT} {te : TE} {vs : List Nat} {σ : L2.St} {H : Hp} {Q : VK} (q : wi σ H fun J H1 => lcR J g tt te vs σ H1 Q) : tLc wi g tt te vs σ H Q := q
def forR (J : It) (g : TG) (tb : TS) (D : Ends) (σ : L2.St) (H1 : Hp) : Prop := ∃ W : Nat → Nat → L2.St → Hp → Prop, (∃ m, W 0 m σ H1) ∧ ∀ i m σ H, W i m σ H →
  (J.stop i H ∧ D.nx σ H) ∨ (J.go i H ∧ ∃ N : L2.St → Hp → Prop, (∀ σ' H', N σ' H' → ∃ m', m' < m ∧ W (i + 1) m' σ' H') ∧ ∀ x H', J.yld i H x H' → g x σ H' fun σ2 H2 => tb { D with nx := N, ct := N, bk := D.nx } σ2 H2)
theorem w_for {wi : TI} {g : TG} {tb : TS} {D : Ends} {σ : L2.St} {H : Hp} (q : wi σ H fun J H1 => forR J g tb D σ H1) : tFor wi g tb D σ H := q
def itL (K : PySem.W.Frag) (x : V) (H : Hp) (R : It → Hp → Prop) : Prop := ∃ a, x = .ref a ∧ (∃ xs, SqL K H a xs) ∧ R (Itl K a) H
def itT (K : PySem.W.Frag) (x : V) (H : Hp) (R : It → Hp → Prop) : Prop := ∃ a, x = .ref a ∧ (∃ xs, SqT K H a xs) ∧ R (Itt K a) H
def itS (x : V) (H : Hp) (R : It → Hp → Prop) : Prop := ∃ z, x = .str z ∧ R (Its z) H
def itR1 (vs : List V) (H : Hp) (R : It → Hp → Prop) : Prop := ∃ j : Int, vs = [.int j] ∧ -(2 ^ 62) ≤ j ∧ j < 2 ^ 62 ∧ R (Itr 0 j.toNat) H
def itR2 (vs : List V) (H : Hp) (R : It → Hp → Prop) : Prop := ∃ i j : Int, vs = [.int i, .int j] ∧ (-(2 ^ 62) ≤ i ∧ i < 2 ^ 62 ∧ -(2 ^ 62) ≤ j ∧ j < 2 ^ 62) ∧ R (Itr i (j - i).toNat) H
section
variable {K : PySem.W.Frag} {σ : L2.St} {H : Hp} {t : TE} {tA : TA} {R : It → Hp → Prop}
theorem w_iR1 (q : tA σ H fun vs H1 => itR1 vs H1 R) : iRng1 tA σ H R := q
theorem w_iR2 (q : tA σ H fun vs H1 => itR2 vs H1 R) : iRng2 tA σ H R := q
theorem w_lcW {D : Addr} {tt : TT} {te : TE} {vs : List Nat} {σ0 : L2.St} {Nx : Hp → Prop} (h : wipe σ vs = wipe σ0 vs) (q : tt σ H fun b H3 => if b = true then te σ H3 fun y H4 => lcPut D y H4 Nx else Nx H3) : lcW D tt te vs σ0 Nx σ H := ⟨h, q⟩
end
def lowc (c : Nat) : Bool := decide (97 ≤ c) && decide (c ≤ 122)
def isName (z : Str) : Bool := decide (1 ≤ z.length) && (decide (z.length ≤ 8) && z.cps.toList.all lowc)
theorem lay_ints : ∀ ys : List Int, PyData.canLayAll0 (ys.map PyData.int) = true ∧ PyData.depthAll (ys.map PyData.int) = 0
  | [] => ⟨by simp [PyData.canLayAll0], by simp [PyData.depthAll]⟩
  | y :: ys => by
    obtain ⟨h1, h2⟩ := lay_ints ys
    exact ⟨by simp [PyData.canLayAll0, PyData.canLay0, h1], by simp [PyData.depthAll, PyData.depth, h2]⟩
theorem shaped_ints (ys : List Int) : SeqAt.shaped (.list (ys.map PyData.int)) = true := by
  obtain ⟨h1, h2⟩ := lay_ints ys
  simp [SeqAt.shaped, PyData.canLay0, PyData.depth, h1, h2]
theorem shaped_nil : SeqAt.shaped (.list []) = true := by simp [SeqAt.shaped, PyData.canLay0, PyData.depth, PyData.canLayAll0, PyData.depthAll]
theorem eqv_nil (ds : List PyData) : PyData.eqv (.list ds) (.list []) = ds.isEmpty := by cases ds <;> simp [PyData.eqv, PyData.eqvAll]
def OkS (z : Str) (n : Nat) : Prop := z.length ≤ n ∧ PyData.strOk z = true
theorem OkS.line {z : Str} {n : Nat} (h : OkS z n) (hn : n ≤ 1000000 := by decide) : z.length ≤ sizeLine := Nat.le_trans h.1 (Nat.le_trans hn (by decide))
theorem OkS.mono {z : Str} {m n : Nat} (h : OkS z m) (hm : m ≤ n) : OkS z n := ⟨Nat.le_trans h.1 hm, h.2⟩
theorem TyOf.ex {K : PySem.W.Frag} {H H' : Hp} {v : V} {T : Value} (x : Ex H H') (h : TyOf K H v T) : TyOf K H' v T := by
  cases h with
  | non => exact .non
  | bl b => exact .bl b
  | int i => exact .int i
  | str z => exact .str z
  | flt z => exact .flt z
  | lst e => exact .lst (x _ _ e)
  | frz e => exact .frz (x _ _ e)
  | tup e => exact .tup (x _ _ e)
  | dK e => exact .dK (x _ _ e)
  | dT e => exact .dT (x _ _ e)
  | ins e cl ha hn ht hm => exact .ins (x _ _ e) cl ha hn ht hm
theorem TyX.ex {K : PySem.W.Frag} {H H' : Hp} {v : V} {T : Value} (x : Ex H H') (h : TyX K H v T) : TyX K H' v T := by
  cases h with
  | base h => exact .base (TyOf.ex x h)
  | byt b => exact .byt b
  | set e => exact .set (x _ _ e)
  | kList e c => exact .kList e c
  | kTuple e c => exact .kTuple e c
  | kDict e c => exact .kDict e c
  | fTuple e => exact .fTuple (x _ _ e)
  | fDict e => exact .fDict (x _ _ e)
/-- a value that is a text, a bool, or neither text nor number -/
def OddV (K : PySem.W.Frag) (H : Hp) (v : V) : Prop := (∃ z, v = .str z ∧ OkS z 10000) ∨ (∃ b, v = .bl b) ∨ ∃ T, TyX K H v T ∧ PySem.W.kitOne K T (.type "str") = some false ∧ PySem.W.kitOne K T (.type "int") = some false ∧ PySem.W.kitOne K T (.type "bool") = some false
theorem OddV.ex {K : PySem.W.Frag} {H H' : Hp} {v : V} (x : Ex H H') (h : OddV K H v) : OddV K H' v := by
  rcases h with h | h | ⟨T, h, r⟩
  · exact .inl h
  · exact .inr (.inl h)
  · exact .inr (.inr ⟨T, TyX.ex x h, r⟩)
def IsBox (o : HO) (n : Nat) : Prop := ∃ a b c : Int, o = .lst [.int a, .int b, .int c] ∧ 0 ≤ a ∧ 0 ≤ b ∧ b < 2147483629 ∧ 0 ≤ c ∧ c ≤ (n : Int)
theorem fmod_lo (a : Int) {m : Int} (h : 0 < m) : 0 ≤ a.fmod m := by rw [Int.fmod_eq_emod_of_nonneg a (Int.le_of_lt h)]; exact Int.emod_nonneg _ (by omega)
theorem fmod_hi (a : Int) {m : Int} (h : 0 < m) : a.fmod m < m := by rw [Int.fmod_eq_emod_of_nonneg a (Int.le_of_lt h)]; exact Int.emod_lt_of_pos _ h
theorem fdiv_lo {a m : Int} (ha : 0 ≤ a) (h : 0 < m) : 0 ≤ a.fdiv m := by rw [Int.fdiv_eq_ediv_of_nonneg a (Int.le_of_lt h)]; exact Int.ediv_nonneg ha (Int.le_of_lt h)
def hi2 (a b : Str) : Str := if a.cps.toList < b.cps.toList then b else a
def IsMeas (C : Addr) (H : Hp) (x : Addr) (k a b : Str) : Prop := ∃ dx t, H x = some (.ins C dx [("own_kind", .str k), ("own_ends", .ref t)]) ∧ H t = some (.tup [.str a, .str b])
theorem IsMeas.mono {C : Addr} {H H' : Hp} {x : Addr} {k a b : Str} (e : Ex H H') (h : IsMeas C H x k a b) : IsMeas C H' x k a b := let ⟨dx, t, h1, h2⟩ := h; ⟨dx, t, e _ _ h1, e _ _ h2⟩
def sp_cell (K : PySem.W.Frag) : Sp := fun vs H Q _ => ∃ (a : Addr) (ns : List Int) (k : Nat), vs = [.ref a, .int (k : Int)] ∧ SqL K H a (ns.map V.int) ∧ ns.length ≤ 63 ∧ k ≤ 100 ∧ ∀ c : Int, Q (.int c) H
def sp_box : Sp := fun vs H Q _ => ∃ c : Int, vs = [.int c] ∧ ∀ p o, H p = none → IsBox o 0 → Q (.ref p) (upd H p o)
def BoxAt (H : Hp) (p : Addr) (n : Nat) : Prop := ∃ o, H p = some o ∧ IsBox o n
theorem IsBox.mono {o : HO} {m n : Nat} (h : IsBox o m) (hm : m ≤ n) : IsBox o n := let ⟨a, b, c, e, h1, h2, h3, h4, h5⟩ := h; ⟨a, b, c, e, h1, h2, h3, h4, by omega⟩
theorem BoxAt.mono {H : Hp} {p : Addr} {m n : Nat} (h : BoxAt H p m) (hm : m ≤ n) : BoxAt H p n := let ⟨o, h1, h2⟩ := h; ⟨o, h1, h2.mono hm⟩
theorem BoxAt.ex {H H' : Hp} {p : Addr} {n : Nat} (e : Ex H H') (h : BoxAt H p n) : BoxAt H' p n := let ⟨o, h1, h2⟩ := h; ⟨o, e _ _ h1, h2⟩
theorem BoxAt.ne {H : Hp} {p q : Addr} {n : Nat} (h : BoxAt H p n) (hq : H q = none) : p ≠ q := let ⟨_, h1, _⟩ := h; ne_of_none h1 hq
def sp_take : Sp := fun vs H Q _ => ∃ (p : Addr) (m : Int) (o : HO) (n : Nat), vs = [.ref p, .int m] ∧ H p = some o ∧ IsBox o n ∧ n ≤ 1000000000 ∧ 0 < m ∧ m < 1073741824 ∧ ∀ (d : Int) (o' : HO), 0 ≤ d → d < m → IsBox o' (n + 1) → Q (.int d) (upd H p o')
end G
set_option Elab.async false
set_option linter.all false
set_option maxRecDepth 100000
set_option maxHeartbeats 4000000
namespace PySem
end PySem
namespace G
open PySem PySem.Spec PyProof.Rows L2
section
variable {X : Cx} {C fI : Addr} {cn f : Str}
/-- cn(e) -/
def mkE (C : Addr) (f : Str) (vs : List V) (H : Hp) (Q : XK) : Prop := ∃ v, vs = [v] ∧ ∀ d, H d = none → Q (.ref C) (some d) (upd H d (.xd [(f, v)]))
def tMkE (C : Addr) (f : Str) (ta : TA) : L2.St → Hp → XK → Prop := fun σ H Q => ta σ H fun vs H1 => mkE C f vs H1 Q
/-- raise cn(e) -/
def tRaiseE (C : Addr) (f : Str) (W : WX) (ta : TA) : TS := fun _ σ H => ta σ H fun vs H1 => mkE C f vs H1 fun cls d H' => W cls d σ H'
/-- e.f, e the exception that the suite holds (at a; its class cls, its dict d) -/
def tGetE (C : Addr) (f : Str) (a : Addr) (cls : Value) (d : Option Addr) (te : TE) : TE := fun σ H Q => te σ H fun x H1 => x = .ref a ∧ cls = .ref C ∧ ∃ (dd : Addr) (v : V), d = some dd ∧ H1 dd = some (.xd [(f, v)]) ∧ Q v H1
end
end G
set_option Elab.async false
set_option linter.all false
set_option maxRecDepth 100000
set_option maxHeartbeats 3900000
namespace G
open PySem Spec PyProof.Rows L2
section
variable {X : Cx} {pins : List (Addr × Obj)} {σ : L2.St} {H : Hp} {cls : Value} {d : Option Addr} {a : Addr} {B : Heap} {sI s : Shared} {D : Ends} {W : WX}
/-- what a clause wishes: its class tells, then its suite, or the other clauses -/
def wOne (K : PySem.W.Frag) (C : Value) (yes no : WX) : WX := fun cls d σ H => ∃ b, PySem.W.exmOne K cls C = some b ∧ if b then yes cls d σ H else no cls d σ H
end
end G
set_option Elab.async false
set_option linter.all false
set_option maxRecDepth 100000
set_option maxHeartbeats 3900000
namespace G
open PySem Spec PyProof.Rows L2
/-- its names: the parameter, captured ones, globals -/
structure Lam1 (N : List Str) (sc scope : Scope) (p : Str) : Prop where
  kind : scope.kind = .function
  co : scope.isCoroutine = false
  gen : scope.isGenerator = false
  par : scope.names.lookup p = some .local
  own : ∀ y ∈ scope.names, (y.2 = .local → y.1 = p) ∧ y.2 ≠ .cell
  free : ∀ y ∈ scope.names, y.2 = .free → sc.names.lookup y.1 = some .cell ∨ sc.names.lookup y.1 = some .free
  new : p ∉ N
theorem Lam1.has {X : Cx} {scope : Scope} {p : Str} (L : Lam1 X.N X.env.scope scope p) (ok : X.Ok) : ∀ y ∈ scope.names, y.2 = .free → ∃ c, X.env.cells.lookup y.1 = some c :=
  fun y hy e => ok.has _ (L.free y hy e)
section
variable {X : Cx} {base : Heap} {σ : L2.St} {A : Around} {outer : List Env} {s : Shared} {H : Hp} {E : XK} {scope : Scope} {p : Str} {f c : Addr}
theorem clo_in {cells : List (Str × Addr)} {names : List (Str × NameKind)} {y : Str} {d : Addr} (hf : ∀ z ∈ names, z.2 = .free → ∃ a, cells.lookup z.1 = some a) (e : (cloFrom cells names []).lookup y = some d) : cells.lookup y = some d ∧ (y, NameKind.free) ∈ names := by
  rcases cloFrom_mem (PySem.mem_of_lookup e) with m | ⟨m, rfl⟩
  · cases m
  · obtain ⟨a, ha⟩ := hf _ m rfl
    have ha : cells.lookup y = some a := ha
    refine ⟨?_, m⟩
    rw [ha]
    rfl
/-- what a call of it asks -/
def spLam (c : Addr) (q : Str) (tb : XK → TE) (σ : L2.St) : Sp := fun vs H Q E => ∃ v, vs = [v] ∧ H c = some (LamX.CodeO c q) ∧ tb E (σ ++ [some v]) H Q
end
def tLam1 (T : List (Addr × Str)) (q : Str) (tb : XK → TE) (spg : Addr → Sp → Sp) (E : XK) (t : TA) : TE := fun σ H Q =>
  LamX.Tabs T H ∧ ∀ (f c : Addr) (H1 : Hp), LamX.ExtN H H1 → LamX.Tabs T H1 → H1 c = some (LamX.CodeO c q) → t σ H1 fun vs H2 => spg f (spLam c q tb σ) (.ref f :: vs) H2 Q E
end G
set_option Elab.async false
set_option linter.all false
set_option maxRecDepth 100000
set_option maxHeartbeats 3900000
namespace G
open PySem Spec PyProof.Rows L2
section
variable {X : Cx} {CX : CXT} {k : Nat} {f C : Addr} {fd : FuncData} {ps : List Str} {sp : Sp} {E : XK}
/-- str(x) by its own def -/
def rStrO (C : Addr) (sp : Sp) (E : XK) : List V → Hp → VK → Prop := fun xs H Q => ∃ a dx fs, xs = [.ref a] ∧ H a = some (.ins C dx fs) ∧ sp [.ref a] H (fun v H' => (∃ z, v = .str z) ∧ Q v H') E
/-- x(e, ..), x a local that holds the class at C -/
def tMakeL (i : Nat) (C : Addr) (sp : Sp) (E : XK) (t : TA) : TE := fun σ H Q => σ[i]? = some (some (.ref C)) ∧ tMake C sp [] E t σ H Q
end
end G
set_option Elab.async false
set_option linter.all false
set_option maxRecDepth 100000
set_option maxHeartbeats 3900000
namespace G
open PySem Spec PyProof.Rows L2
section
variable {X : Cx} {k i : Nat} {f : Addr} {sp : Sp} {W : WX} {x : Str} {p pos : Pos} {e : Expr} {es : List Expr} {t : TA}
/-- x(e, ..) under a try: what is thrown is wished for at the slots as they stand -/
def tCallW (i : Nat) (f : Addr) (sp : Sp) (W : WX) (t : TA) : TE := fun σ H Q => σ[i]? = some (some (.ref f)) ∧ t σ H fun vs H1 => sp vs H1 Q fun cls d H' => W cls d σ H'
theorem takesF {X : Cx} : Takes X fun _ _ _ _ => False := fun _ _ ⟨_, _, _, _, _, _, _, _, _, _, _, _, _, _, _, _, z⟩ => z.elim
end
section
variable {X : Cx} {K : PySem.W.Frag}
def rListU (K : PySem.W.Frag) : List V → Hp → VK → Prop := fun xs H Q => ∃ p ys, xs = [.ref p] ∧ (SqL K H p ys ∨ SqT K H p ys) ∧ ∀ l, H l = none → Q (.ref l) (upd H l (.lst ys))
theorem call_listU (hK : X.K = K) : CallR X (.type "list") (rListU K) := hK ▸ call_list_of
end
end G
namespace G
open PySem Spec PyProof.Rows L2
theorem tab_up {mg : Str → Option Value} {B B' : Heap} {c P : Addr} (t : LamX.TabB B mg c P) (k : ∀ b o, B.get? b = some o → B'.get? b = some o) : LamX.TabB B' mg c P := ⟨t.code.keeps k, t.bm.keeps k, t.gP⟩
end G
set_option Elab.async false
set_option linter.all false
set_option maxRecDepth 100000
set_option maxHeartbeats 3900000
namespace M
open PySem PySem.Spec PyProof.Rows L2 G
inductive D where
  | non | bl (b : Bool) | int (i : Int) | str (z : Str) | ty (n : String) | adr (a : Addr)
  | lst (xs : List D) | scr (xs : List D) | tup (xs : List D) | dic (kvs : List (Key × D)) | ins (C : Addr) (fs : List (Str × D)) | exc (C : Addr) (fs : List (Str × D)) | obj (k : Nat) | btp (xs : List D)
inductive SO where
  | lst (xs : List D) | dic (kvs : List (Key × D)) | ins (C : Addr) (fs : List (Str × D)) | frz (d : D) | box (n : Nat) | lck (ob : Obj) (vs : List (Key × V)) (kvs : List (Key × D))
abbrev SH := List SO
def SO.live : SO → Bool
  | .frz _ => false
  | _ => true
/-- a tuple of the program's own top: a default, a constant -/
def KTup (K : PySem.W.Frag) (a : Addr) (vs : List V) : Prop := ∃ (o : Obj) (its : Array Value) (n : Nat), K.lookup a = some o ∧ o.cls = .type "tuple" ∧ o.data = .seq its n ∧ its.size ≤ sizeLine ∧ Vals vs its.toList
/-- an exception that is a value: its class, its dict -/
def ExV (C : Addr) (od : Option Addr) (a : Addr) : HO := .ext fun h => ∃ (oe : Obj) (vs : Array Value), h.get? a = some oe ∧ Zc (.ref C) od oe ∧ oe.data = .fields vs
section
variable (K : PySem.W.Frag) (al : List Addr) (G : Hp)
mutual
inductive Den : V → D → Prop
  | non : Den .non .non
  | bl (b : Bool) : Den (.bl b) (.bl b)
  | int (i : Int) : Den (.int i) (.int i)
  | str (z : Str) : Den (.str z) (.str z)
  | ty (n : String) : Den (.ty n) (.ty n)
  | adr (a : Addr) : Den (.ref a) (.adr a)
  | lst {a : Addr} {vs : List V} {xs : List D} : G a = some (.lst vs) → DenL vs xs → Den (.ref a) (.lst xs)
  | scr {a : Addr} {vs : List V} {xs : List D} : SqL K G a vs → DenL vs xs → Den (.ref a) (.scr xs)
  | tup {a : Addr} {vs : List V} {xs : List D} : G a = some (.tup vs) → DenL vs xs → Den (.ref a) (.tup xs)
  | exc {a C : Addr} {od : Option Addr} {vs : List (Str × V)} {xs : List (Str × D)} : G a = some (ExV C od a) → (∀ dd, od = some dd → G dd = some (.xd vs)) → (od = none → vs = []) → DenF vs xs → Den (.ref a) (.exc C xs)
  | dic {a : Addr} {ob : Obj} {vs : List (Key × V)} {xs : List (Key × D)} : G a = some (.frz ob (.dK vs)) → DenK vs xs → Den (.ref a) (.dic xs)
  | ins {a C dx : Addr} {vs : List (Str × V)} {xs : List (Str × D)} : G a = some (.ins C dx vs) → DenF vs xs → Den (.ref a) (.ins C xs)
  | obj {k : Nat} {a : Addr} : al[k]? = some a → Den (.ref a) (.obj k)
  | btp {a : Addr} {vs : List V} {xs : List D} : KTup K a vs → DenL vs xs → Den (.ref a) (.btp xs)
inductive DenL : List V → List D → Prop
  | nil : DenL [] []
  | cons {v : V} {d : D} {vs : List V} {ds : List D} : Den v d → DenL vs ds → DenL (v :: vs) (d :: ds)
inductive DenK : List (Key × V) → List (Key × D) → Prop
  | nil : DenK [] []
  | cons {k : Key} {v : V} {d : D} {vs : List (Key × V)} {ds : List (Key × D)} : Den v d → DenK vs ds → DenK ((k, v) :: vs) ((k, d) :: ds)
inductive DenF : List (Str × V) → List (Str × D) → Prop
  | nil : DenF [] []
  | cons {k : Str} {v : V} {d : D} {vs : List (Str × V)} {ds : List (Str × D)} : Den v d → DenF vs ds → DenF ((k, v) :: vs) ((k, d) :: ds)
end
end
section
variable {K : PySem.W.Frag} {al al' : List Addr} {G G' : Hp}
mutual
theorem Den.mono (ha : ∀ (k : Nat) (a : Addr), al[k]? = some a → al'[k]? = some a) (hg : Ex G G') : ∀ {v : V} {d : D}, Den K al G v d → Den K al' G' v d
  | _, _, .non => .non
  | _, _, .bl b => .bl b
  | _, _, .int i => .int i
  | _, _, .str z => .str z
  | _, _, .ty n => .ty n
  | _, _, .adr a => .adr a
  | _, _, .lst h r => .lst (hg _ _ h) (DenL.mono ha hg r)
  | _, _, .scr h r => .scr (hg.l h) (DenL.mono ha hg r)
  | _, _, .tup h r => .tup (hg _ _ h) (DenL.mono ha hg r)
  | _, _, .exc h h2 h3 r => .exc (hg _ _ h) (fun dd e => hg _ _ (h2 dd e)) h3 (DenF.mono ha hg r)
  | _, _, .dic h r => .dic (hg _ _ h) (DenK.mono ha hg r)
  | _, _, .ins h r => .ins (hg _ _ h) (DenF.mono ha hg r)
  | _, _, .obj h => .obj (ha _ _ h)
  | _, _, .btp h r => .btp h (DenL.mono ha hg r)
theorem DenL.mono (ha : ∀ (k : Nat) (a : Addr), al[k]? = some a → al'[k]? = some a) (hg : Ex G G') : ∀ {v : List V} {d : List D}, DenL K al G v d → DenL K al' G' v d
  | _, _, .nil => .nil
  | _, _, .cons h r => .cons (Den.mono ha hg h) (DenL.mono ha hg r)
theorem DenK.mono (ha : ∀ (k : Nat) (a : Addr), al[k]? = some a → al'[k]? = some a) (hg : Ex G G') : ∀ {v : List (Key × V)} {d : List (Key × D)}, DenK K al G v d → DenK K al' G' v d
  | _, _, .nil => .nil
  | _, _, .cons h r => .cons (Den.mono ha hg h) (DenK.mono ha hg r)
theorem DenF.mono (ha : ∀ (k : Nat) (a : Addr), al[k]? = some a → al'[k]? = some a) (hg : Ex G G') : ∀ {v : List (Str × V)} {d : List (Str × D)}, DenF K al G v d → DenF K al' G' v d
  | _, _, .nil => .nil
  | _, _, .cons h r => .cons (Den.mono ha hg h) (DenF.mono ha hg r)
end
theorem DenL.length : ∀ {vs : List V} {ds : List D}, DenL K al G vs ds → vs.length = ds.length
  | _, _, .nil => rfl
  | _, _, .cons _ r => by rw [List.length_cons, List.length_cons, DenL.length r]
theorem DenL.get : ∀ {vs : List V} {ds : List D} {i : Nat} {d : D}, DenL K al G vs ds → ds[i]? = some d → ∃ v, vs[i]? = some v ∧ Den K al G v d
  | _, _, i, d, .nil, e => by simp at e
  | _, _, 0, d, .cons h _, e => by simp at e; subst e; exact ⟨_, rfl, h⟩
  | _, _, i + 1, d, .cons _ r, e => by
    obtain ⟨v, h1, h2⟩ := DenL.get (i := i) (d := d) r (by simpa using e)
    exact ⟨v, by simpa using h1, h2⟩
theorem DenL.append : ∀ {vs us : List V} {ds es : List D}, DenL K al G vs ds → DenL K al G us es → DenL K al G (vs ++ us) (ds ++ es)
  | _, _, _, _, .nil, s => s
  | _, _, _, _, .cons h r, s => .cons h (r.append s)
theorem DenL.take : ∀ {vs : List V} {ds : List D} (n : Nat), DenL K al G vs ds → DenL K al G (vs.take n) (ds.take n)
  | _, _, 0, _ => .nil
  | _, _, _ + 1, .nil => .nil
  | _, _, n + 1, .cons h r => .cons h (r.take n)
theorem DenL.drop : ∀ {vs : List V} {ds : List D} (n : Nat), DenL K al G vs ds → DenL K al G (vs.drop n) (ds.drop n)
  | _, _, 0, r => r
  | _, _, _ + 1, .nil => .nil
  | _, _, n + 1, .cons _ r => r.drop n
theorem DenL.set {v : V} {d : D} (h : Den K al G v d) : ∀ {vs : List V} {ds : List D} (i : Nat), DenL K al G vs ds → DenL K al G (vs.set i v) (ds.set i d)
  | _, _, _, .nil => .nil
  | _, _, 0, .cons _ r => .cons h r
  | _, _, i + 1, .cons q r => .cons q (DenL.set h i r)
theorem DenL.erase : ∀ {vs : List V} {ds : List D} (i : Nat), DenL K al G vs ds → DenL K al G (vs.eraseIdx i) (ds.eraseIdx i)
  | _, _, _, .nil => .nil
  | _, _, 0, .cons _ r => r
  | _, _, i + 1, .cons q r => .cons q (DenL.erase i r)
theorem DenL.reverse : ∀ {vs : List V} {ds : List D}, DenL K al G vs ds → DenL K al G vs.reverse ds.reverse
  | _, _, .nil => .nil
  | _, _, .cons h r => by
    rw [List.reverse_cons, List.reverse_cons]
    exact r.reverse.append (.cons h .nil)
theorem DenL.flatten : ∀ {vs : List V} {ds : List D} (n : Nat), DenL K al G vs ds → DenL K al G (List.replicate n vs).flatten (List.replicate n ds).flatten
  | _, _, 0, _ => .nil
  | _, _, n + 1, r => by
    rw [List.replicate_succ, List.replicate_succ, List.flatten_cons, List.flatten_cons]
    exact r.append (r.flatten n)
theorem DenL.strs : ∀ zs : List Str, DenL K al G (zs.map V.str) (zs.map D.str)
  | [] => .nil
  | z :: zs => .cons (.str z) (DenL.strs zs)
theorem DenL.ints : ∀ zs : List Int, DenL K al G (zs.map V.int) (zs.map D.int)
  | [] => .nil
  | z :: zs => .cons (.int z) (DenL.ints zs)
theorem DenL.of_ints : ∀ {vs : List V} {zs : List Int}, DenL K al G vs (zs.map D.int) → vs = zs.map V.int
  | _, [], .nil => rfl
  | _, z :: zs, .cons h r => by
    cases h
    rw [DenL.of_ints r]
    rfl
theorem DenF.lookup {f : Str} : ∀ {vs : List (Str × V)} {ds : List (Str × D)} {d : D}, DenF K al G vs ds → ds.lookup f = some d → ∃ v, vs.lookup f = some v ∧ Den K al G v d
  | _, _, _, .nil, e => by cases e
  | _, _, d, .cons (k := k) h r, e => by
    by_cases q : f == k
    · simp only [List.lookup, q] at e ⊢
      cases e
      exact ⟨_, rfl, h⟩
    · simp only [List.lookup, q] at e ⊢
      exact r.lookup e
theorem DenF.none {f : Str} : ∀ {vs : List (Str × V)} {ds : List (Str × D)}, DenF K al G vs ds → ds.lookup f = none → vs.lookup f = none
  | _, _, .nil, e => rfl
  | _, _, .cons (k := k) h r, e => by
    by_cases q : f == k
    · simp only [List.lookup, q] at e ⊢
      cases e
    · simp only [List.lookup, q] at e ⊢
      exact r.none e
theorem DenF.length : ∀ {vs : List (Str × V)} {ds : List (Str × D)}, DenF K al G vs ds → vs.length = ds.length
  | _, _, .nil => rfl
  | _, _, .cons _ r => by rw [List.length_cons, List.length_cons, r.length]
theorem DenK.length : ∀ {vs : List (Key × V)} {ds : List (Key × D)}, DenK K al G vs ds → vs.length = ds.length
  | _, _, .nil => rfl
  | _, _, .cons _ r => by rw [List.length_cons, List.length_cons, r.length]
def putFD (f : Str) (d : D) : List (Str × D) → List (Str × D)
  | [] => [(f, d)]
  | (g, e) :: r => if g = f then (g, d) :: r else (g, e) :: putFD f d r
end
def Ent (K : PySem.W.Frag) (al : List Addr) (G H : Hp) (a : Addr) : SO → Prop
  | .lst xs => ∃ vs, H a = some (.lst vs) ∧ DenL K al G vs xs
  | .dic xs => ∃ vs, H a = some (.dK vs) ∧ DenK K al G vs xs
  | .ins C xs => ∃ dx vs, H a = some (.ins C dx vs) ∧ DenF K al G vs xs
  | .frz d => Den K al G (.ref a) d
  | .box n => BoxAt H a n
  | .lck ob vs xs => H a = some (.frz ob (.dK vs)) ∧ DenK K al G vs xs
structure Rep (K : PySem.W.Frag) (tb : List (Addr × Str)) (al : List Addr) (G : Hp) (c : SH) (H : Hp) : Prop where
  len : al.length = c.length
  sub : Ex G H
  ent : ∀ (k : Nat) (a : Addr) (o : SO), al[k]? = some a → c[k]? = some o → Ent K al G H a o
  out : ∀ (k : Nat) (a : Addr) (o : SO), al[k]? = some a → c[k]? = some o → o.live = true → G a = none
  inj : ∀ (i j : Nat) (a : Addr) (o : SO), al[i]? = some a → al[j]? = some a → c[i]? = some o → o.live = true → i = j
  tak : ∀ (k : Nat) (a : Addr), al[k]? = some a → ∃ u, H a = some u ∧ ∀ ps, u ≠ .tbl ps
  gt : ∀ (a : Addr) (ps : Array Value), G a ≠ some (.tbl ps)
  tab : LamX.Tabs tb H
def Liv (al : List Addr) (c : SH) (a : Addr) : Prop := ∃ (k : Nat) (o : SO), al[k]? = some a ∧ c[k]? = some o ∧ o.live = true
/-- free, or a code object's table -/
def Fr (H : Hp) (a : Addr) : Prop := ∀ o, H a = some o → ∃ ps, o = .tbl ps
theorem Fr.of {H : Hp} {a : Addr} (h : H a = none) : Fr H a := fun o e => by rw [h] at e; cases e
structure Le (al : List Addr) (G : Hp) (c : SH) (H : Hp) (al' : List Addr) (G' : Hp) (c' : SH) (H' : Hp) : Prop where
  ad : ∀ (k : Nat) (a : Addr), al[k]? = some a → al'[k]? = some a
  g : Ex G G'
  fr : ∀ (a : Addr) (o : HO), H a = some o → ¬ Liv al c a → (∀ ps, o ≠ .tbl ps) → H' a = some o
  nl : ∀ (a : Addr), Liv al' c' a → Liv al c a ∨ Fr H a
  dom : ∀ (a : Addr), Fr H' a → Fr H a
  gn : ∀ (a : Addr) (o : HO), G' a = some o → (∃ u, G a = some u) ∨ Fr H a ∨ Liv al c a
  nd : ∀ (k : Nat) (a : Addr), al'[k]? = some a → (∃ j : Nat, al[j]? = some a) ∨ Fr H a
theorem Le.refl {al : List Addr} {G : Hp} {c : SH} {H : Hp} : Le al G c H al G c H := ⟨fun _ _ => id, Ex.refl _, fun _ _ h _ _ => h, fun _ => .inl, fun _ => id, fun _ _ h => .inl ⟨_, h⟩, fun k _ h => .inl ⟨k, h⟩⟩
theorem Le.trans {al al1 al2 : List Addr} {G G1 G2 : Hp} {c c1 c2 : SH} {H H1 H2 : Hp} (a : Le al G c H al1 G1 c1 H1) (b : Le al1 G1 c1 H1 al2 G2 c2 H2) : Le al G c H al2 G2 c2 H2 where
  ad k x h := b.ad k x (a.ad k x h)
  g := a.g.trans b.g
  fr x o h n t := b.fr x o (a.fr x o h n t) (fun l => (a.nl x l).elim n fun z => by obtain ⟨ps, e⟩ := z o h; exact t ps e) t
  nl x l := by
    rcases b.nl x l with h | h
    · exact a.nl x h
    · exact .inr (a.dom x h)
  dom x h := a.dom x (b.dom x h)
  gn x o h := by
    rcases b.gn x o h with ⟨u, h⟩ | h | h
    · exact a.gn x u h
    · exact .inr (.inl (a.dom x h))
    · exact (a.nl x h).elim (fun h => .inr (.inr h)) fun h => .inr (.inl h)
  nd k x h := by
    rcases b.nd k x h with ⟨j, h⟩ | h
    · exact a.nd j x h
    · exact .inr (a.dom x h)
theorem fr_upd {H : Hp} {p a : Addr} {o : HO} (hp : H p = none ∨ ∃ u, H p = some u ∧ ∀ ps, u ≠ .tbl ps) (ho : ∀ ps, o ≠ .tbl ps) (h : Fr (upd H p o) a) : Fr H a := by
  by_cases e : a = p
  · rw [e] at h
    obtain ⟨ps, e2⟩ := h o upd_same
    exact absurd e2 (ho ps)
  · intro u hu
    exact h u (by rw [upd_ne e]; exact hu)
section
variable {K : PySem.W.Frag} {tb : List (Addr × Str)} {al al' : List Addr} {G G' : Hp} {c c' : SH} {H H' : Hp} {v : V} {d : D}
theorem Den.le (h : Den K al G v d) (l : Le al G c H al' G' c' H') : Den K al' G' v d := h.mono l.ad l.g
theorem DenL.le {vs : List V} {ds : List D} (h : DenL K al G vs ds) (l : Le al G c H al' G' c' H') : DenL K al' G' vs ds := h.mono l.ad l.g
theorem Ent.there {a : Addr} {o : SO} (h : Ent K al G H a o) (l : o.live = true) : ∃ u, H a = some u ∧ (∀ ps, u ≠ .tbl ps) ∧ (∀ φ, u ≠ .ext φ) := by
  cases o with
  | lst xs => obtain ⟨vs, h, _⟩ := h; exact ⟨_, h, nofun, nofun⟩
  | dic xs => obtain ⟨vs, h, _⟩ := h; exact ⟨_, h, nofun, nofun⟩
  | ins C xs => obtain ⟨dx, vs, h, _⟩ := h; exact ⟨_, h, nofun, nofun⟩
  | frz d => cases l
  | box n =>
    obtain ⟨o, h, x, y, z, rfl, _⟩ := h
    exact ⟨_, h, nofun, nofun⟩
  | lck ob vs xs => obtain ⟨h, _⟩ := h; exact ⟨_, h, nofun, nofun⟩
theorem tabs_upd {a : Addr} {u o : HO} (h : LamX.Tabs tb H) (e : H a = some u) (n : ∀ ps, u ≠ .tbl ps) (n2 : ∀ φ, u ≠ .ext φ) : LamX.Tabs tb (upd H a o) := by
  intro p hp
  obtain ⟨ps, h1, h2, h3⟩ := h p hp
  refine ⟨ps, ?_, h2, fun pos cv e2 => ?_⟩
  · rw [upd_ne (fun z => by rw [z, e] at h1; exact n ps (Option.some.inj h1))]
    exact h1
  · obtain ⟨cc, r1, r2⟩ := h3 pos cv e2
    refine ⟨cc, r1, ?_⟩
    rw [upd_ne (fun z => by rw [z, e] at r2; exact n2 _ (Option.some.inj r2))]
    exact r2
theorem Ent.ext {a : Addr} {o : SO} (h : Ent K al G H a o) (ha : ∀ (k : Nat) (a : Addr), al[k]? = some a → al'[k]? = some a) (hg : Ex G G') (hh : ∀ u, H a = some u → H' a = some u) : Ent K al' G' H' a o := by
  cases o with
  | lst xs => obtain ⟨vs, h, r⟩ := h; exact ⟨vs, hh _ h, r.mono ha hg⟩
  | dic xs => obtain ⟨vs, h, r⟩ := h; exact ⟨vs, hh _ h, r.mono ha hg⟩
  | ins C xs => obtain ⟨dx, vs, h, r⟩ := h; exact ⟨dx, vs, hh _ h, r.mono ha hg⟩
  | frz d => exact Den.mono ha hg h
  | box n => obtain ⟨u, h, r⟩ := h; exact ⟨u, hh _ h, r⟩
  | lck ob vs xs => obtain ⟨h, r⟩ := h; exact ⟨hh _ h, r.mono ha hg⟩
theorem Rep.fresh (R : Rep K tb al G c H) {p : Addr} (hp : H p = none) : G p = none := R.sub.fresh hp
/-- a live address is taken -/
theorem Rep.liv (R : Rep K tb al G c H) {a : Addr} (h : Liv al c a) : ∃ u, H a = some u ∧ (∀ ps, u ≠ .tbl ps) ∧ (∀ φ, u ≠ .ext φ) := by
  obtain ⟨k, o, h1, h2, h3⟩ := h
  exact Ent.there (R.ent k a o h1 h2) h3
theorem Rep.den_some (R : Rep K tb al G c H) {a : Addr} {k : Nat} (h : al[k]? = some a) : k < c.length := by
  have := (List.getElem?_eq_some_iff.mp h).1
  rw [R.len] at this
  exact this
/-- new data -/
theorem Rep.data (R : Rep K tb al G c H) {p : Addr} {o : HO} (hp : H p = none) (ho : ∀ ps, o ≠ .tbl ps) : Rep K tb al (upd G p o) c (upd H p o) where
  len := R.len
  sub a u h := by
    by_cases e : a = p
    · rw [e, upd_same] at h ⊢; exact h
    · rw [upd_ne e] at h ⊢; exact R.sub a u h
  ent k a s h1 h2 := Ent.ext (R.ent k a s h1 h2) (fun _ _ => id) (Ex.new (R.fresh hp)) fun u hu => Ex.new hp a u hu
  out k a s h1 h2 h3 := by
    obtain ⟨u, hu, _⟩ := Ent.there (R.ent k a s h1 h2) h3
    rw [upd_ne (ne_of_none hu hp)]
    exact R.out k a s h1 h2 h3
  inj := R.inj
  tak k a h := let ⟨u, hu, n⟩ := R.tak k a h; ⟨u, Ex.new hp a u hu, n⟩
  gt a ps h := by
    by_cases e : a = p
    · rw [e, upd_same] at h; exact ho ps (Option.some.inj h)
    · rw [upd_ne e] at h; exact R.gt a ps h
  tab := R.tab.ext (Ex.new hp)
theorem gn_upd {p : Addr} {o : HO} (hp : Fr H p) : ∀ (a : Addr) (u : HO), upd G p o a = some u → (∃ u, G a = some u) ∨ Fr H a ∨ Liv al c a := fun a u h => by
  by_cases e : a = p
  · rw [e]; exact .inr (.inl hp)
  · rw [upd_ne e] at h; exact .inl ⟨_, h⟩
theorem Le.data {p : Addr} (hp : H p = none) (hg : G p = none) {o : HO} (ho : ∀ ps, o ≠ .tbl ps) : Le al G c H al (upd G p o) c (upd H p o) where
  ad _ _ := id
  g := Ex.new hg
  fr a u h _ _ := Ex.new hp a u h
  nl a := .inl
  dom a h := fr_upd (.inl hp) ho h
  gn := gn_upd (.of hp)
  nd k _ h := .inl ⟨k, h⟩
/-- the heap grows, nothing else -/
theorem Rep.grow (R : Rep K tb al G c H) (e : Ex H H') : Rep K tb al G c H' where
  len := R.len
  sub := R.sub.trans e
  ent k a s h1 h2 := Ent.ext (R.ent k a s h1 h2) (fun _ _ => id) (Ex.refl _) fun u hu => e a u hu
  out := R.out
  inj := R.inj
  tak k a h := let ⟨u, hu, n⟩ := R.tak k a h; ⟨u, e a u hu, n⟩
  gt := R.gt
  tab := R.tab.ext e
/-- what stands apart is taken for data -/
theorem Rep.adopt (R : Rep K tb al G c H) {a : Addr} {u : HO} (hu : H a = some u) (hn : ¬ Liv al c a) (ht : ∀ ps, u ≠ .tbl ps) : Rep K tb al (upd G a u) c H ∧ Ex G (upd G a u) := by
  have ex : Ex G (upd G a u) := fun b w h => by
    by_cases e : b = a
    · rw [e] at h ⊢
      rw [R.sub _ _ h] at hu
      rw [upd_same, ← hu]
    · rw [upd_ne e]; exact h
  refine ⟨{ R with sub := fun b w h => ?_, ent := fun k b s h1 h2 => Ent.ext (R.ent k b s h1 h2) (fun _ _ => id) ex fun w hw => hw, out := fun k b s h1 h2 h3 => ?_, gt := fun b ps h => ?_ }, ex⟩
  · by_cases e : b = a
    · rw [e, upd_same] at h; rw [e, hu]; exact h
    · rw [upd_ne e] at h; exact R.sub b w h
  · have e : b ≠ a := fun z => hn ⟨k, s, by rw [← z]; exact h1, h2, h3⟩
    rw [upd_ne e]
    exact R.out k b s h1 h2 h3
  · by_cases e : b = a
    · rw [e, upd_same] at h; exact ht ps (Option.some.inj h)
    · rw [upd_ne e] at h; exact R.gt b ps h
theorem Le.grow (e : Ex H H') : Le al G c H al G c H' where
  ad _ _ := id
  g := Ex.refl _
  fr a u h _ _ := e a u h
  nl a := .inl
  dom a h o ho := h o (e a o ho)
  gn _ _ h := .inl ⟨_, h⟩
  nd k _ h := .inl ⟨k, h⟩
theorem get_app {α : Type} {xs : List α} {y x : α} {k : Nat} (h : (xs ++ [y])[k]? = some x) : xs[k]? = some x ∨ (k = xs.length ∧ x = y) := by
  by_cases hk : k < xs.length
  · rw [List.getElem?_append_left hk] at h
    exact .inl h
  · rw [List.getElem?_append_right (by omega)] at h
    by_cases e : k - xs.length = 0
    · rw [e] at h
      simp at h
      exact .inr ⟨by omega, h.symm⟩
    · obtain ⟨j, hj⟩ : ∃ j, k - xs.length = j + 1 := ⟨k - xs.length - 1, by omega⟩
      rw [hj] at h
      simp at h
theorem app_get {α : Type} {xs : List α} {y x : α} {k : Nat} (h : xs[k]? = some x) : (xs ++ [y])[k]? = some x := by
  rw [List.getElem?_append_left (List.getElem?_eq_some_iff.mp h).1]
  exact h
/-- a new object that may change -/
theorem Rep.obj (R : Rep K tb al G c H) {p : Addr} {o : SO} (hn : H p = none) (ex : Ex H H') (he : Ent K (al ++ [p]) G H' p o) (hl : o.live = true) : Rep K tb (al ++ [p]) G (c ++ [o]) H' where
  len := by rw [List.length_append, List.length_append, R.len]; rfl
  sub := R.sub.trans ex
  ent k a s h1 h2 := by
    rcases get_app h1 with g1 | ⟨e1, e2⟩
    · rcases get_app h2 with g2 | ⟨e3, e4⟩
      · exact Ent.ext (R.ent k a s g1 g2) (fun _ _ => app_get) (Ex.refl _) fun u hu => ex a u hu
      · have := R.den_some g1
        omega
    · rcases get_app h2 with g2 | ⟨e3, e4⟩
      · have := (List.getElem?_eq_some_iff.mp g2).1
        have := R.len
        omega
      · subst e2 e4
        exact he
  out k a s h1 h2 h3 := by
    rcases get_app h1 with g1 | ⟨e1, e2⟩
    · rcases get_app h2 with g2 | ⟨e3, e4⟩
      · exact R.out k a s g1 g2 h3
      · have := R.den_some g1
        omega
    · rw [e2]
      exact R.fresh hn
  inj i j a s h1 h2 h3 h4 := by
    have nw : ∀ k : Nat, al[k]? ≠ some p := fun k g => by
      obtain ⟨u, hu, _⟩ := R.tak k p g
      rw [hn] at hu
      cases hu
    rcases get_app h1 with g1 | ⟨e1, e2⟩
    · rcases get_app h2 with g2 | ⟨e3, e4⟩
      · rcases get_app h3 with g3 | ⟨e5, e6⟩
        · exact R.inj i j a s g1 g2 g3 h4
        · have := R.den_some g1
          omega
      · rw [e4] at g1
        exact absurd g1 (nw i)
    · rcases get_app h2 with g2 | ⟨e3, e4⟩
      · rw [e2] at g2
        exact absurd g2 (nw j)
      · omega
  tak k a h := by
    rcases get_app h with g | ⟨_, e⟩
    · obtain ⟨u, hu, n⟩ := R.tak k a g
      exact ⟨u, ex a u hu, n⟩
    · subst e
      obtain ⟨u, hu, n, _⟩ := Ent.there he hl
      exact ⟨u, hu, n⟩
  gt := R.gt
  tab := R.tab.ext ex
theorem Le.obj {p : Addr} {o : SO} (R : Rep K tb al G c H) (hn : H p = none) (ex : Ex H H') : Le al G c H (al ++ [p]) G (c ++ [o]) H' where
  ad _ _ := app_get
  g := Ex.refl _
  fr a u h _ _ := ex a u h
  nl a h := by
    obtain ⟨k, s, h1, h2, h3⟩ := h
    rcases get_app h1 with g1 | ⟨e1, e2⟩
    · rcases get_app h2 with g2 | ⟨e3, e4⟩
      · exact .inl ⟨k, s, g1, g2, h3⟩
      · have := R.den_some g1
        omega
    · rw [e2]
      exact .inr (.of hn)
  dom a h o ho := h o (ex a o ho)
  gn _ _ h := .inl ⟨_, h⟩
  nd k a h := by
    rcases get_app h with g | ⟨_, e⟩
    · exact .inl ⟨k, g⟩
    · rw [e]; exact .inr (.of hn)
theorem set_get {α : Type} {xs : List α} {y x : α} {i k : Nat} (h : (xs.set i y)[k]? = some x) : (k = i ∧ x = y) ∨ (k ≠ i ∧ xs[k]? = some x) := by
  rw [List.getElem?_set] at h
  by_cases e : i = k
  · rw [if_pos e] at h
    split at h
    · cases h
      exact .inl ⟨e.symm, rfl⟩
    · cases h
  · rw [if_neg e] at h
    exact .inr ⟨fun z => e z.symm, h⟩
/-- an object changes -/
theorem Rep.change (R : Rep K tb al G c H) {k : Nat} {a : Addr} {s o : SO} {u : HO} (ha : al[k]? = some a) (hs : c[k]? = some s) (hl : s.live = true) (he : Ent K al G (upd H a u) a o) (ho : o.live = true) : Rep K tb al G (c.set k o) (upd H a u) where
  len := by rw [List.length_set]; exact R.len
  sub b w h := by
    rw [upd_ne (fun z => by rw [z, R.out k a s ha hs hl] at h; cases h)]
    exact R.sub b w h
  ent j b q h1 h2 := by
    rcases set_get h2 with ⟨e1, e2⟩ | ⟨e1, e2⟩
    · subst e1 e2
      rw [ha] at h1
      cases h1
      exact he
    · by_cases e : b = a
      · subst e
        exact absurd (R.inj k j b s ha h1 hs hl).symm e1
      · exact Ent.ext (R.ent j b q h1 e2) (fun _ _ => id) (Ex.refl _) fun w hw => by rw [upd_ne e]; exact hw
  out j b q h1 h2 h3 := by
    rcases set_get h2 with ⟨e1, e2⟩ | ⟨e1, e2⟩
    · subst e1
      rw [ha] at h1
      cases h1
      exact R.out j a s ha hs hl
    · exact R.out j b q h1 e2 h3
  inj i j b q h1 h2 h3 h4 := by
    rcases set_get h3 with ⟨e1, e2⟩ | ⟨e1, e2⟩
    · subst e1
      exact R.inj i j b s h1 h2 hs hl
    · exact R.inj i j b q h1 h2 e2 h4
  tak j b h := by
    by_cases e : b = a
    · subst e
      obtain ⟨w, h1, h2, _⟩ := Ent.there he ho
      exact ⟨w, h1, h2⟩
    · rw [upd_ne e]; exact R.tak j b h
  gt := R.gt
  tab := by
    obtain ⟨w, h1, h2, h3⟩ := Ent.there (R.ent k a s ha hs) hl
    exact tabs_upd R.tab h1 h2 h3
theorem Le.change (R : Rep K tb al G c H) {k : Nat} {a : Addr} {s o : SO} {u : HO} (ha : al[k]? = some a) (hs : c[k]? = some s) (hl : s.live = true) (hu : ∀ ps, u ≠ .tbl ps) : Le al G c H al G (c.set k o) (upd H a u) where
  ad _ _ := id
  g := Ex.refl _
  fr b w h n _ := by
    have e : b ≠ a := fun z => n ⟨k, s, by rw [z]; exact ha, hs, hl⟩
    rw [upd_ne e]
    exact h
  nl b h := by
    obtain ⟨j, q, h1, h2, h3⟩ := h
    rcases set_get h2 with ⟨e1, e2⟩ | ⟨e1, e2⟩
    · subst e1
      exact .inl ⟨j, s, h1, hs, hl⟩
    · exact .inl ⟨j, q, h1, e2, h3⟩
  dom b h := by
    obtain ⟨w, h1, h2, _⟩ := Ent.there (R.ent k a s ha hs) hl
    exact fr_upd (.inr ⟨w, h1, h2⟩) hu h
  gn _ _ h := .inl ⟨_, h⟩
  nd k _ h := .inl ⟨k, h⟩
/-- an object becomes data -/
theorem Rep.freeze (R : Rep K tb al G c H) {k : Nat} {a : Addr} {s : SO} {u : HO} {d : D} (ha : al[k]? = some a) (hs : c[k]? = some s) (hl : s.live = true) (hu : H a = some u) (hd : Den K al (upd G a u) (.ref a) d) : Rep K tb al (upd G a u) (c.set k (.frz d)) H where
  len := by rw [List.length_set]; exact R.len
  sub b w h := by
    by_cases e : b = a
    · rw [e, upd_same] at h; rw [e, hu]; exact h
    · rw [upd_ne e] at h; exact R.sub b w h
  ent j b q h1 h2 := by
    rcases set_get h2 with ⟨e1, e2⟩ | ⟨e1, e2⟩
    · subst e1 e2
      rw [ha] at h1
      cases h1
      exact hd
    · exact Ent.ext (R.ent j b q h1 e2) (fun _ _ => id) (Ex.new (R.out k a s ha hs hl)) fun w hw => hw
  out j b q h1 h2 h3 := by
    rcases set_get h2 with ⟨e1, e2⟩ | ⟨e1, e2⟩
    · subst e2
      cases h3
    · have e : b ≠ a := fun z => e1 (R.inj k j a s ha (by rw [← z]; exact h1) hs hl).symm
      rw [upd_ne e]
      exact R.out j b q h1 e2 h3
  inj i j b q h1 h2 h3 h4 := by
    rcases set_get h3 with ⟨e1, e2⟩ | ⟨e1, e2⟩
    · subst e2
      cases h4
    · exact R.inj i j b q h1 h2 e2 h4
  tak := R.tak
  gt b ps h := by
    by_cases e : b = a
    · rw [e, upd_same] at h
      obtain ⟨w, h1, h2, _⟩ := Ent.there (R.ent k a s ha hs) hl
      rw [hu] at h1
      cases h1
      exact h2 ps (Option.some.inj h)
    · rw [upd_ne e] at h; exact R.gt b ps h
  tab := R.tab
theorem Le.freeze (R : Rep K tb al G c H) {k : Nat} {a : Addr} {s : SO} {u : HO} {d : D} (ha : al[k]? = some a) (hs : c[k]? = some s) (hl : s.live = true) : Le al G c H al (upd G a u) (c.set k (.frz d)) H where
  ad _ _ := id
  g := Ex.new (R.out k a s ha hs hl)
  fr b w h n _ := h
  nl b h := by
    obtain ⟨j, q, h1, h2, h3⟩ := h
    rcases set_get h2 with ⟨e1, e2⟩ | ⟨e1, e2⟩
    · subst e2
      cases h3
    · exact .inl ⟨j, q, h1, e2, h3⟩
  dom b h := h
  gn b w h := by
    by_cases e : b = a
    · rw [e]; exact .inr (.inr ⟨k, s, ha, hs, hl⟩)
    · rw [upd_ne e] at h; exact .inl ⟨_, h⟩
  nd k _ h := .inl ⟨k, h⟩
end
mutual
def nb (n : Nat) : D → Bool
  | .lst xs => nbL n xs
  | .scr xs => nbL n xs
  | .tup xs => nbL n xs
  | .btp xs => nbL n xs
  | .exc _ xs => nbF n xs
  | .dic xs => nbK n xs
  | .ins _ xs => nbF n xs
  | .obj k => decide (k < n)
  | _ => true
def nbL (n : Nat) : List D → Bool
  | [] => true
  | x :: xs => nb n x && nbL n xs
def nbK (n : Nat) : List (Key × D) → Bool
  | [] => true
  | (_, x) :: xs => nb n x && nbK n xs
def nbF (n : Nat) : List (Str × D) → Bool
  | [] => true
  | (_, x) :: xs => nb n x && nbF n xs
end
section
variable {K : PySem.W.Frag} {al : List Addr} {G : Hp} {n : Nat}
mutual
theorem Den.cut : ∀ {v : V} {d : D}, Den K al G v d → nb n d = true → Den K (al.take n) G v d
  | _, _, .non, _ => .non
  | _, _, .bl b, _ => .bl b
  | _, _, .int i, _ => .int i
  | _, _, .str z, _ => .str z
  | _, _, .ty n, _ => .ty n
  | _, _, .adr a, _ => .adr a
  | _, _, .lst h r, e => .lst h (DenL.cut r (by simpa [nb] using e))
  | _, _, .scr h r, e => .scr h (DenL.cut r (by simpa [nb] using e))
  | _, _, .exc h h2 h3 r, e => .exc h h2 h3 (DenF.cut r (by simpa [nb] using e))
  | _, _, .tup h r, e => .tup h (DenL.cut r (by simpa [nb] using e))
  | _, _, .btp h r, e => .btp h (DenL.cut r (by simpa [nb] using e))
  | _, _, .dic h r, e => .dic h (DenK.cut r (by simpa [nb] using e))
  | _, _, .ins h r, e => .ins h (DenF.cut r (by simpa [nb] using e))
  | _, _, .obj h, e => .obj (by
      simp only [nb, decide_eq_true_eq] at e
      rw [List.getElem?_take_of_lt e]
      exact h)
theorem DenL.cut : ∀ {v : List V} {d : List D}, DenL K al G v d → nbL n d = true → DenL K (al.take n) G v d
  | _, _, .nil, _ => .nil
  | _, _, .cons h r, e => .cons (Den.cut h (by simp [nbL] at e; exact e.1)) (DenL.cut r (by simp [nbL] at e; exact e.2))
theorem DenK.cut : ∀ {v : List (Key × V)} {d : List (Key × D)}, DenK K al G v d → nbK n d = true → DenK K (al.take n) G v d
  | _, _, .nil, _ => .nil
  | _, _, .cons h r, e => .cons (Den.cut h (by simp [nbK] at e; exact e.1)) (DenK.cut r (by simp [nbK] at e; exact e.2))
theorem DenF.cut : ∀ {v : List (Str × V)} {d : List (Str × D)}, DenF K al G v d → nbF n d = true → DenF K (al.take n) G v d
  | _, _, .nil, _ => .nil
  | _, _, .cons h r, e => .cons (Den.cut h (by simp [nbF] at e; exact e.1)) (DenF.cut r (by simp [nbF] at e; exact e.2))
end
mutual
theorem Den.nb (hn : al.length ≤ n) : ∀ {v : V} {d : D}, Den K al G v d → nb n d = true
  | _, _, .non => rfl
  | _, _, .bl b => rfl
  | _, _, .int i => rfl
  | _, _, .str z => rfl
  | _, _, .ty n => rfl
  | _, _, .adr a => rfl
  | _, _, .lst h r => by simpa [M.nb] using DenL.nb hn r
  | _, _, .scr h r => by simpa [M.nb] using DenL.nb hn r
  | _, _, .exc h h2 h3 r => by simpa [M.nb] using DenF.nb hn r
  | _, _, .tup h r => by simpa [M.nb] using DenL.nb hn r
  | _, _, .btp h r => by simpa [M.nb] using DenL.nb hn r
  | _, _, .dic h r => by simpa [M.nb] using DenK.nb hn r
  | _, _, .ins h r => by simpa [M.nb] using DenF.nb hn r
  | _, _, .obj h => by
    have := (List.getElem?_eq_some_iff.mp h).1
    simp only [M.nb, decide_eq_true_eq]
    omega
theorem DenL.nb (hn : al.length ≤ n) : ∀ {v : List V} {d : List D}, DenL K al G v d → nbL n d = true
  | _, _, .nil => rfl
  | _, _, .cons h r => by simp [nbL, Den.nb hn h, DenL.nb hn r]
theorem DenK.nb (hn : al.length ≤ n) : ∀ {v : List (Key × V)} {d : List (Key × D)}, DenK K al G v d → nbK n d = true
  | _, _, .nil => rfl
  | _, _, .cons h r => by simp [nbK, Den.nb hn h, DenK.nb hn r]
theorem DenF.nb (hn : al.length ≤ n) : ∀ {v : List (Str × V)} {d : List (Str × D)}, DenF K al G v d → nbF n d = true
  | _, _, .nil => rfl
  | _, _, .cons h r => by simp [nbF, Den.nb hn h, DenF.nb hn r]
end
end
def SO.nb (n : Nat) : SO → Bool
  | .lst xs => nbL n xs
  | .dic xs => nbK n xs
  | .ins _ xs => nbF n xs
  | .frz d => M.nb n d
  | .box _ => true
  | .lck _ _ xs => nbK n xs
section
variable {K : PySem.W.Frag} {tb : List (Addr × Str)} {al al' : List Addr} {G G' : Hp} {c c' : SH} {H H' : Hp} {v : V} {d : D} {n : Nat}
theorem Ent.cut {a : Addr} {o : SO} (h : Ent K al G H a o) (e : o.nb n = true) : Ent K (al.take n) G H a o := by
  cases o with
  | lst xs => obtain ⟨vs, h, r⟩ := h; exact ⟨vs, h, r.cut e⟩
  | dic xs => obtain ⟨vs, h, r⟩ := h; exact ⟨vs, h, r.cut e⟩
  | ins C xs => obtain ⟨dx, vs, h, r⟩ := h; exact ⟨dx, vs, h, r.cut e⟩
  | frz d => exact Den.cut h e
  | box n => exact h
  | lck ob vs xs => obtain ⟨h, r⟩ := h; exact ⟨h, r.cut e⟩
theorem Ent.nb {a : Addr} {o : SO} (h : Ent K al G H a o) (hn : al.length ≤ n) : o.nb n = true := by
  cases o with
  | lst xs => obtain ⟨vs, h, r⟩ := h; exact r.nb hn
  | dic xs => obtain ⟨vs, h, r⟩ := h; exact r.nb hn
  | ins C xs => obtain ⟨dx, vs, h, r⟩ := h; exact r.nb hn
  | frz d => exact Den.nb hn h
  | box n => rfl
  | lck ob vs xs => obtain ⟨h, r⟩ := h; exact r.nb hn
theorem take_get {α : Type} {xs : List α} {n k : Nat} {x : α} (h : (xs.take n)[k]? = some x) : k < n ∧ xs[k]? = some x := by
  rw [List.getElem?_take] at h
  split at h
  · exact ⟨by assumption, h⟩
  · cases h
/-- objects are let go -/
theorem Rep.cut (R : Rep K tb al G c H) (h : ∀ o ∈ c.take n, o.nb n = true) : Rep K tb (al.take n) G (c.take n) H where
  len := by rw [List.length_take, List.length_take, R.len]
  sub := R.sub
  ent k a o h1 h2 := Ent.cut (R.ent k a o (take_get h1).2 (take_get h2).2) (h o (List.mem_of_getElem? h2))
  out k a o h1 h2 h3 := R.out k a o (take_get h1).2 (take_get h2).2 h3
  inj i j a o h1 h2 h3 h4 := R.inj i j a o (take_get h1).2 (take_get h2).2 (take_get h3).2 h4
  tak k a h := R.tak k a (take_get h).2
  gt := R.gt
  tab := R.tab
theorem Le.cut (l : Le al G c H al' G' c' H') (hn : al.length ≤ n) : Le al G c H (al'.take n) G' (c'.take n) H' where
  ad k a h := by
    have := (List.getElem?_eq_some_iff.mp h).1
    rw [List.getElem?_take_of_lt (by omega)]
    exact l.ad k a h
  g := l.g
  fr := l.fr
  nl a h := by
    obtain ⟨k, o, h1, h2, h3⟩ := h
    exact l.nl a ⟨k, o, (take_get h1).2, (take_get h2).2, h3⟩
  dom := l.dom
  gn := l.gn
  nd k a h := l.nd k a (take_get h).2
/-- behind a lambda's making -/
theorem Rep.extn (R : Rep K tb al G c H) (e : LamX.ExtN H H') (t : LamX.Tabs tb H') : Rep K tb al G c H' where
  len := R.len
  sub a o h := e a o (R.sub a o h) fun ps z => R.gt a ps (by rw [h, z])
  ent k a s h1 h2 := Ent.ext (R.ent k a s h1 h2) (fun _ _ => id) (Ex.refl _) fun u hu => by
    obtain ⟨w, hw, n⟩ := R.tak k a h1
    rw [hw] at hu
    exact e a u (hw.trans hu) (Option.some.inj hu ▸ n)
  out := R.out
  inj := R.inj
  tak k a h := let ⟨u, hu, n⟩ := R.tak k a h; ⟨u, e a u hu n, n⟩
  gt := R.gt
  tab := t
theorem Le.extn (e : LamX.ExtN H H') : Le al G c H al G c H' where
  ad _ _ := id
  g := Ex.refl _
  fr a u h _ n := e a u h n
  nl a := .inl
  dom a h o ho := by
    by_cases t : ∃ ps, o = .tbl ps
    · exact t
    · exact h o (e a o ho fun ps z => t ⟨ps, z⟩)
  gn _ _ h := .inl ⟨_, h⟩
  nd k _ h := .inl ⟨k, h⟩
theorem Le.adopt (l : Le al G c H al' G' c' H') {a : Addr} {u : HO} (hu : H' a = some u) (ex : Ex G' (upd G' a u)) (hf : Fr H a) : Le al G c H al' (upd G' a u) c' H' where
  ad := l.ad
  g := l.g.trans ex
  fr := l.fr
  nl := l.nl
  dom := l.dom
  gn b w h := by
    by_cases e : b = a
    · rw [e]; exact .inr (.inl hf)
    · rw [upd_ne e] at h; exact l.gn b w h
  nd := l.nd
end
end M
set_option Elab.async false
set_option linter.all false
set_option maxRecDepth 100000
set_option maxHeartbeats 3900000
namespace M
open PySem PySem.Spec PyProof.Rows L2 G
abbrev Env := List (Option D)
def SRel (K : PySem.W.Frag) (al : List Addr) (G : Hp) (σ : L2.St) (δ : Env) : Prop := σ.length = δ.length ∧ ∀ (i : Nat) (d : D), δ[i]? = some (some d) → ∃ v, σ[i]? = some (some v) ∧ Den K al G v d
abbrev QD := D → SH → Prop
abbrev XD := Addr → Str → D → SH → Prop
abbrev Fn := List D → SH → XD → QD → Prop
abbrev ME := Env → SH → XD → QD → Prop
abbrev MT := Env → SH → XD → (Bool → SH → Prop) → Prop
abbrev MA := Env → SH → XD → (List D → SH → Prop) → Prop
abbrev MO := Env → SH → XD → (Option Int → SH → Prop) → Prop
section
variable (K : PySem.W.Frag) (tb : List (Addr × Str)) (al : List Addr) (G : Hp) (c : SH) (H : Hp)
def Ret (Φ : QD) (Q : VK) : Prop := ∀ (d : D) (c' : SH) (al' : List Addr) (G' H' : Hp) (v : V), Rep K tb al' G' c' H' → Le al G c H al' G' c' H' → Den K al' G' v d → Φ d c' → Q v H'
def RetT (Φ : Bool → SH → Prop) (Q : Bool → Hp → Prop) : Prop := ∀ (b : Bool) (c' : SH) (al' : List Addr) (G' H' : Hp), Rep K tb al' G' c' H' → Le al G c H al' G' c' H' → Φ b c' → Q b H'
def RetO (Φ : Option Int → SH → Prop) (Q : Option Int → Hp → Prop) : Prop := ∀ (b : Option Int) (c' : SH) (al' : List Addr) (G' H' : Hp), Rep K tb al' G' c' H' → Le al G c H al' G' c' H' → Φ b c' → Q b H'
def RetA (Φ : List D → SH → Prop) (Q : List V → Hp → Prop) : Prop := ∀ (ds : List D) (c' : SH) (al' : List Addr) (G' H' : Hp) (vs : List V), Rep K tb al' G' c' H' → Le al G c H al' G' c' H' → DenL K al' G' vs ds → Φ ds c' → Q vs H'
def RetH (Φ : SH → Prop) (N : Hp → Prop) : Prop := ∀ (c' : SH) (al' : List Addr) (G' H' : Hp), Rep K tb al' G' c' H' → Le al G c H al' G' c' H' → Φ c' → N H'
def RetE (Φ : Env → SH → Prop) (N : L2.St → Hp → Prop) : Prop := ∀ (δ : Env) (c' : SH) (al' : List Addr) (G' H' : Hp) (σ : L2.St), Rep K tb al' G' c' H' → Le al G c H al' G' c' H' → SRel K al' G' σ δ → Φ δ c' → N σ H'
def Thr (Ψ : XD) (E : XK) : Prop := ∀ (C : Addr) (f : Str) (d : D) (c' : SH) (al' : List Addr) (G' H' : Hp) (dd : Addr) (v : V), Rep K tb al' G' c' H' → Le al G c H al' G' c' H' → Fr H dd → H' dd = some (.xd [(f, v)]) → Den K al' G' v d → Ψ C f d c' → E (.ref C) (some dd) H'
def ThrS (Ψ : Addr → Str → D → Env → SH → Prop) (W : WX) : Prop := ∀ (C : Addr) (f : Str) (d : D) (δ : Env) (c' : SH) (al' : List Addr) (G' H' : Hp) (dd : Addr) (v : V) (σ : L2.St), Rep K tb al' G' c' H' → Le al G c H al' G' c' H' → SRel K al' G' σ δ → Fr H dd → H' dd = some (.xd [(f, v)]) → Den K al' G' v d → Ψ C f d δ c' → W (.ref C) (some dd) σ H'
structure Go (W : WX) (σ : L2.St) (δ : Env) (Ψ : XD) : Prop where
  rep : Rep K tb al G c H
  env : SRel K al G σ δ
  thr : Thr K tb al G c H Ψ fun C d H' => W C d σ H'
end
section
variable {K : PySem.W.Frag} {tb : List (Addr × Str)} {al al' : List Addr} {G G' : Hp} {c c' : SH} {H H' : Hp} {W : WX} {σ : L2.St} {δ : Env} {Ψ : XD}
theorem SRel.le (h : SRel K al G σ δ) (l : Le al G c H al' G' c' H') : SRel K al' G' σ δ := ⟨h.1, fun i d e => let ⟨v, h1, h2⟩ := h.2 i d e; ⟨v, h1, h2.le l⟩⟩
theorem SRel.set {v : V} {d : D} {i : Nat} (h : SRel K al G σ δ) (q : Den K al G v d) : SRel K al G (σ.set i (some v)) (δ.set i (some d)) := by
  refine ⟨by rw [List.length_set, List.length_set]; exact h.1, fun j e he => ?_⟩
  rcases set_get he with ⟨rfl, e2⟩ | ⟨n, e2⟩
  · cases e2
    have hj : j < δ.length := by
      have := (List.getElem?_eq_some_iff.mp he).1
      rwa [List.length_set] at this
    refine ⟨v, ?_, q⟩
    rw [List.getElem?_set, if_pos rfl, if_pos (by rw [h.1]; exact hj)]
  · obtain ⟨u, h1, h2⟩ := h.2 j e e2
    refine ⟨u, ?_, h2⟩
    rw [List.getElem?_set, if_neg (fun z => n z.symm)]
    exact h1
theorem SRel.wipe1 {i : Nat} {o : Option V} (h : SRel K al G σ δ) : SRel K al G (σ.set i o) (δ.set i none) := by
  refine ⟨by rw [List.length_set, List.length_set]; exact h.1, fun j e he => ?_⟩
  rcases set_get he with ⟨rfl, e2⟩ | ⟨n, e2⟩
  · cases e2
  · obtain ⟨u, h1, h2⟩ := h.2 j e e2
    refine ⟨u, ?_, h2⟩
    rw [List.getElem?_set, if_neg (fun z => n z.symm)]
    exact h1
theorem Ret.le {Φ : QD} {Q : VK} (h : Ret K tb al G c H Φ Q) (l : Le al G c H al' G' c' H') : Ret K tb al' G' c' H' Φ Q := fun d c2 al2 G2 H2 v r l2 => h d c2 al2 G2 H2 v r (l.trans l2)
theorem RetT.le {Φ : Bool → SH → Prop} {Q : Bool → Hp → Prop} (h : RetT K tb al G c H Φ Q) (l : Le al G c H al' G' c' H') : RetT K tb al' G' c' H' Φ Q := fun d c2 al2 G2 H2 r l2 => h d c2 al2 G2 H2 r (l.trans l2)
theorem RetO.le {Φ : Option Int → SH → Prop} {Q : Option Int → Hp → Prop} (h : RetO K tb al G c H Φ Q) (l : Le al G c H al' G' c' H') : RetO K tb al' G' c' H' Φ Q := fun d c2 al2 G2 H2 r l2 => h d c2 al2 G2 H2 r (l.trans l2)
theorem RetA.le {Φ : List D → SH → Prop} {Q : List V → Hp → Prop} (h : RetA K tb al G c H Φ Q) (l : Le al G c H al' G' c' H') : RetA K tb al' G' c' H' Φ Q := fun d c2 al2 G2 H2 v r l2 => h d c2 al2 G2 H2 v r (l.trans l2)
theorem RetH.le {Φ : SH → Prop} {N : Hp → Prop} (h : RetH K tb al G c H Φ N) (l : Le al G c H al' G' c' H') : RetH K tb al' G' c' H' Φ N := fun c2 al2 G2 H2 r l2 => h c2 al2 G2 H2 r (l.trans l2)
theorem RetE.le {Φ : Env → SH → Prop} {N : L2.St → Hp → Prop} (h : RetE K tb al G c H Φ N) (l : Le al G c H al' G' c' H') : RetE K tb al' G' c' H' Φ N := fun d c2 al2 G2 H2 s r l2 => h d c2 al2 G2 H2 s r (l.trans l2)
theorem Thr.le {E : XK} (h : Thr K tb al G c H Ψ E) (l : Le al G c H al' G' c' H') : Thr K tb al' G' c' H' Ψ E := fun C f d c2 al2 G2 H2 dd v r l2 fr => h C f d c2 al2 G2 H2 dd v r (l.trans l2) (l.dom dd fr)
theorem ThrS.le {Ψ : Addr → Str → D → Env → SH → Prop} (h : ThrS K tb al G c H Ψ W) (l : Le al G c H al' G' c' H') : ThrS K tb al' G' c' H' Ψ W := fun C f d e c2 al2 G2 H2 dd v s r l2 sr fr => h C f d e c2 al2 G2 H2 dd v s r (l.trans l2) sr (l.dom dd fr)
theorem Go.le (g : Go K tb al G c H W σ δ Ψ) (r : Rep K tb al' G' c' H') (l : Le al G c H al' G' c' H') : Go K tb al' G' c' H' W σ δ Ψ := ⟨r, g.env.le l, g.thr.le l⟩
end
section
variable (K : PySem.W.Frag) (tb : List (Addr × Str)) (W : WX)
def SndE (t : TE) (m : ME) : Prop := ∀ al G c H σ δ Ψ Φ Q, Go K tb al G c H W σ δ Ψ → m δ c Ψ Φ → Ret K tb al G c H Φ Q → t σ H Q
def SndT (t : TT) (m : MT) : Prop := ∀ al G c H σ δ Ψ Φ Q, Go K tb al G c H W σ δ Ψ → m δ c Ψ Φ → RetT K tb al G c H Φ Q → t σ H Q
def SndA (t : TA) (m : MA) : Prop := ∀ al G c H σ δ Ψ Φ Q, Go K tb al G c H W σ δ Ψ → m δ c Ψ Φ → RetA K tb al G c H Φ Q → t σ H Q
def SndO (t : TO) (m : MO) : Prop := ∀ al G c H σ δ Ψ Φ Q, Go K tb al G c H W σ δ Ψ → m δ c Ψ Φ → RetO K tb al G c H Φ Q → t σ H Q
/-- operators, calls by values -/
def DOp (r : R2) (op : D → D → SH → QD → Prop) : Prop := ∀ al G c H x y dx dy Φ Q, Rep K tb al G c H → Den K al G x dx → Den K al G y dy → op dx dy c Φ → Ret K tb al G c H Φ Q → r x y H Q
def DUn (r : V → Hp → VK → Prop) (op : D → SH → QD → Prop) : Prop := ∀ al G c H x dx Φ Q, Rep K tb al G c H → Den K al G x dx → op dx c Φ → Ret K tb al G c H Φ Q → r x H Q
def DCall (r : List V → Hp → VK → Prop) (op : List D → SH → QD → Prop) : Prop := ∀ al G c H xs ds Φ Q, Rep K tb al G c H → DenL K al G xs ds → op ds c Φ → Ret K tb al G c H Φ Q → r xs H Q
def DMt (r : V → List V → Hp → VK → Prop) (op : D → List D → SH → QD → Prop) : Prop := ∀ al G c H x xs dx ds Φ Q, Rep K tb al G c H → Den K al G x dx → DenL K al G xs ds → op dx ds c Φ → Ret K tb al G c H Φ Q → r x xs H Q
end
def varM (i : Nat) : ME := fun δ c _ Φ => match δ[i]? with
  | some (some d) => Φ d c
  | _ => False
def cM (d : D) : ME := fun _ c _ Φ => Φ d c
def opM (op : D → D → SH → QD → Prop) (a b : ME) : ME := fun δ c Ψ Φ => a δ c Ψ fun x c1 => b δ c1 Ψ fun y c2 => op x y c2 Φ
def unM (op : D → SH → QD → Prop) (a : ME) : ME := fun δ c Ψ Φ => a δ c Ψ fun x c1 => op x c1 Φ
def blD (x : D) (c : SH) (Φ : Bool → SH → Prop) : Prop := match x with
  | .bl k => Φ k c
  | _ => False
def testM (a : ME) : MT := fun δ c Ψ Φ => a δ c Ψ fun x c1 => blD x c1 Φ
def andT (a b : MT) : MT := fun δ c Ψ Φ => a δ c Ψ fun k c1 => if k = true then b δ c1 Ψ Φ else Φ false c1
def orT (a b : MT) : MT := fun δ c Ψ Φ => a δ c Ψ fun k c1 => if k = true then Φ true c1 else b δ c1 Ψ Φ
def notT (a : MT) : MT := fun δ c Ψ Φ => a δ c Ψ fun k c1 => Φ (!k) c1
def andM (a b : ME) : ME := fun δ c Ψ Φ => a δ c Ψ fun x c1 => blD x c1 fun k c1 => if k = true then b δ c1 Ψ Φ else Φ (.bl false) c1
def orM (a b : ME) : ME := fun δ c Ψ Φ => a δ c Ψ fun x c1 => blD x c1 fun k c1 => if k = true then Φ (.bl true) c1 else b δ c1 Ψ Φ
def notM (a : ME) : ME := fun δ c Ψ Φ => a δ c Ψ fun x c1 => blD x c1 fun k c1 => Φ (.bl (!k)) c1
def ifM (t : MT) (a b : ME) : ME := fun δ c Ψ Φ => t δ c Ψ fun k c1 => if k = true then a δ c1 Ψ Φ else b δ c1 Ψ Φ
def chainM (op op' : D → D → SH → QD → Prop) (a b e : ME) : ME := fun δ c Ψ Φ => a δ c Ψ fun x c1 => b δ c1 Ψ fun y c2 => op x y c2 fun z c3 => blD z c3 fun k c3 => if k = true then e δ c3 Ψ fun w c4 => op' y w c4 Φ else Φ (.bl false) c3
def nilM : MA := fun _ c _ Φ => Φ [] c
def consM (a : ME) (b : MA) : MA := fun δ c Ψ Φ => a δ c Ψ fun x c1 => b δ c1 Ψ fun xs c2 => Φ (x :: xs) c2
/-- a new list: an object that may change (lv), or data -/
def newL (lv : Bool) (xs : List D) (c : SH) (Φ : QD) : Prop := xs.length ≤ sizeLine ∧ if lv = true then Φ (.obj c.length) (c ++ [.lst xs]) else Φ (.lst xs) c
def lstM (lv : Bool) (a : MA) : ME := fun δ c Ψ Φ => a δ c Ψ fun xs c1 => newL lv xs c1 Φ
def tupM (a : MA) : ME := fun δ c Ψ Φ => a δ c Ψ fun xs c1 => xs.length ≤ sizeLine ∧ Φ (.tup xs) c1
def cbM (op : List D → SH → QD → Prop) (a : MA) : ME := fun δ c Ψ Φ => a δ c Ψ fun xs c1 => op xs c1 Φ
def callM (F : Fn) (ds : List D) (a : MA) : ME := fun δ c Ψ Φ => a δ c Ψ fun xs c1 => F (xs ++ ds) c1 Ψ Φ
def noPartM : MO := fun _ c _ Φ => Φ none c
def intD (x : D) (c : SH) (Φ : Int → SH → Prop) : Prop := match x with
  | .int i => Φ i c
  | _ => False
def partM (a : ME) : MO := fun δ c Ψ Φ => a δ c Ψ fun x c1 => intD x c1 fun i c1 => Φ (some i) c1
def slM (op : D → Option Int → Option Int → SH → QD → Prop) (a : ME) (lo hi : MO) : ME := fun δ c Ψ Φ => a δ c Ψ fun x c1 => lo δ c1 Ψ fun l c2 => hi δ c2 Ψ fun u c3 => op x l u c3 Φ
section
variable {K : PySem.W.Frag} {tb : List (Addr × Str)} {W : WX} {ta tb' tc te : TE} {a b e : ME} {t u : TT} {mt mu : MT} {tA : TA} {mA : MA}
theorem snd_var {i : Nat} : SndE K tb W (tVar i) (varM i) := by
  intro al G c H σ δ Ψ Φ Q g m r
  unfold varM at m
  split at m
  · rename_i d h
    obtain ⟨v, h1, h2⟩ := g.env.2 i d h
    exact ⟨v, h1, r d c al G H v g.rep .refl h2 m⟩
  · cases m
theorem snd_c {v : V} {d : D} (h : ∀ al G, Den K al G v d) : SndE K tb W (tC v) (cM d) := fun al G c H σ δ Ψ Φ Q g m r => r d c al G H v g.rep .refl (h al G) m
theorem snd_op {r : R2} {op : D → D → SH → QD → Prop} (ho : DOp K tb r op) (ha : SndE K tb W ta a) (hb : SndE K tb W tb' b) : SndE K tb W (tOp r ta tb') (opM op a b) := by
  intro al G c H σ δ Ψ Φ Q g m q
  refine ha al G c H σ δ Ψ _ _ g m fun x c1 al1 G1 H1 v r1 l1 d1 m1 => ?_
  refine hb al1 G1 c1 H1 σ δ Ψ _ _ (g.le r1 l1) m1 fun y c2 al2 G2 H2 w r2 l2 d2 m2 => ?_
  exact ho al2 G2 c2 H2 v w x y Φ Q r2 (d1.le l2) d2 m2 (q.le (l1.trans l2))
theorem snd_un {r : V → Hp → VK → Prop} {op : D → SH → QD → Prop} (ho : DUn K tb r op) (ha : SndE K tb W ta a) : SndE K tb W (tUn r ta) (unM op a) := by
  intro al G c H σ δ Ψ Φ Q g m q
  refine ha al G c H σ δ Ψ _ _ g m fun x c1 al1 G1 H1 v r1 l1 d1 m1 => ?_
  exact ho al1 G1 c1 H1 v x Φ Q r1 d1 m1 (q.le l1)
theorem blD_of {al : List Addr} {G : Hp} {x : D} {v : V} {c : SH} {Φ : Bool → SH → Prop} (m : blD x c Φ) (h : Den K al G v x) : ∃ k, v = .bl k ∧ Φ k c := by
  unfold blD at m
  split at m
  · cases h
    exact ⟨_, rfl, m⟩
  · cases m
theorem snd_test (ha : SndE K tb W ta a) : SndT K tb W (tTest ta) (testM a) := by
  intro al G c H σ δ Ψ Φ Q g m q
  refine ha al G c H σ δ Ψ _ _ g m fun x c1 al1 G1 H1 v r1 l1 d1 m1 => ?_
  obtain ⟨k, e, h⟩ := blD_of m1 d1
  exact ⟨k, e, q k c1 al1 G1 H1 r1 l1 h⟩
theorem snd_B (ha : SndE K tb W ta a) : SndT K tb W (tB ta) (testM a) := snd_test ha
theorem snd_and (ha : SndT K tb W t mt) (hb : SndT K tb W u mu) : SndT K tb W (tAnd t u) (andT mt mu) := by
  intro al G c H σ δ Ψ Φ Q g m q
  refine ha al G c H σ δ Ψ _ _ g m fun k c1 al1 G1 H1 r1 l1 m1 => ?_
  cases k with
  | true => exact iteT (hb al1 G1 c1 H1 σ δ Ψ _ _ (g.le r1 l1) m1 (q.le l1))
  | false => exact iteF (q false c1 al1 G1 H1 r1 l1 m1)
theorem snd_or (ha : SndT K tb W t mt) (hb : SndT K tb W u mu) : SndT K tb W (tOr t u) (orT mt mu) := by
  intro al G c H σ δ Ψ Φ Q g m q
  refine ha al G c H σ δ Ψ _ _ g m fun k c1 al1 G1 H1 r1 l1 m1 => ?_
  cases k with
  | false => exact iteF (hb al1 G1 c1 H1 σ δ Ψ _ _ (g.le r1 l1) m1 (q.le l1))
  | true => exact iteT (q true c1 al1 G1 H1 r1 l1 m1)
theorem snd_not (ha : SndT K tb W t mt) : SndT K tb W (tNot t) (notT mt) := by
  intro al G c H σ δ Ψ Φ Q g m q
  exact ha al G c H σ δ Ψ _ _ g m fun k c1 al1 G1 H1 r1 l1 m1 => q (!k) c1 al1 G1 H1 r1 l1 m1
theorem snd_andV (ha : SndE K tb W ta a) (hb : SndE K tb W tb' b) : SndE K tb W (tAndV ta tb') (andM a b) := by
  intro al G c H σ δ Ψ Φ Q g m q
  refine ha al G c H σ δ Ψ _ _ g m fun x c1 al1 G1 H1 v r1 l1 d1 m1 => ?_
  obtain ⟨k, e, h⟩ := blD_of m1 d1
  refine ⟨k, e, ?_⟩
  cases k with
  | true => exact iteT (hb al1 G1 c1 H1 σ δ Ψ _ _ (g.le r1 l1) h (q.le l1))
  | false => exact iteF (q (.bl false) c1 al1 G1 H1 _ r1 l1 (.bl false) h)
theorem snd_orV (ha : SndE K tb W ta a) (hb : SndE K tb W tb' b) : SndE K tb W (tOrV ta tb') (orM a b) := by
  intro al G c H σ δ Ψ Φ Q g m q
  refine ha al G c H σ δ Ψ _ _ g m fun x c1 al1 G1 H1 v r1 l1 d1 m1 => ?_
  obtain ⟨k, e, h⟩ := blD_of m1 d1
  refine ⟨k, e, ?_⟩
  cases k with
  | false => exact iteF (hb al1 G1 c1 H1 σ δ Ψ _ _ (g.le r1 l1) h (q.le l1))
  | true => exact iteT (q (.bl true) c1 al1 G1 H1 _ r1 l1 (.bl true) h)
theorem snd_notV (ha : SndE K tb W ta a) : SndE K tb W (tNotV ta) (notM a) := by
  intro al G c H σ δ Ψ Φ Q g m q
  refine ha al G c H σ δ Ψ _ _ g m fun x c1 al1 G1 H1 v r1 l1 d1 m1 => ?_
  obtain ⟨k, e, h⟩ := blD_of m1 d1
  exact ⟨k, e, q (.bl (!k)) c1 al1 G1 H1 _ r1 l1 (.bl _) h⟩
theorem snd_if (ht : SndT K tb W t mt) (ha : SndE K tb W ta a) (hb : SndE K tb W tb' b) : SndE K tb W (tIf t ta tb') (ifM mt a b) := by
  intro al G c H σ δ Ψ Φ Q g m q
  refine ht al G c H σ δ Ψ _ _ g m fun k c1 al1 G1 H1 r1 l1 m1 => ?_
  cases k with
  | true => exact iteT (ha al1 G1 c1 H1 σ δ Ψ _ _ (g.le r1 l1) m1 (q.le l1))
  | false => exact iteF (hb al1 G1 c1 H1 σ δ Ψ _ _ (g.le r1 l1) m1 (q.le l1))
theorem snd_chain {r r' : R2} {op op' : D → D → SH → QD → Prop} (ho : DOp K tb r op) (ho' : DOp K tb r' op') (ha : SndE K tb W ta a) (hb : SndE K tb W tb' b) (he : SndE K tb W tc e) : SndE K tb W (tChain r r' ta tb' tc) (chainM op op' a b e) := by
  intro al G c H σ δ Ψ Φ Q g m q
  refine ha al G c H σ δ Ψ _ _ g m fun x c1 al1 G1 H1 v r1 l1 d1 m1 => ?_
  refine hb al1 G1 c1 H1 σ δ Ψ _ _ (g.le r1 l1) m1 fun y c2 al2 G2 H2 w r2 l2 d2 m2 => ?_
  refine ho al2 G2 c2 H2 v w x y _ _ r2 (d1.le l2) d2 m2 fun z c3 al3 G3 H3 u r3 l3 d3 m3 => ?_
  obtain ⟨k, ek, h⟩ := blD_of m3 d3
  refine ⟨k, ek, ?_⟩
  cases k with
  | false => exact iteF (q (.bl false) c3 al3 G3 H3 _ r3 ((l1.trans l2).trans l3) (.bl false) h)
  | true =>
    refine iteT (he al3 G3 c3 H3 σ δ Ψ _ _ (g.le r3 ((l1.trans l2).trans l3)) h fun z4 c4 al4 G4 H4 u4 r4 l4 d4 m4 => ?_)
    exact ho' al4 G4 c4 H4 w u4 y z4 Φ Q r4 (d2.le (l3.trans l4)) d4 m4 (q.le (((l1.trans l2).trans l3).trans l4))
theorem snd_nil : SndA K tb W tNil nilM := fun al G c H σ δ Ψ Φ Q g m q => q [] c al G H [] g.rep .refl .nil m
theorem snd_cons (ha : SndE K tb W ta a) (hA : SndA K tb W tA mA) : SndA K tb W (tCons ta tA) (consM a mA) := by
  intro al G c H σ δ Ψ Φ Q g m q
  refine ha al G c H σ δ Ψ _ _ g m fun x c1 al1 G1 H1 v r1 l1 d1 m1 => ?_
  refine hA al1 G1 c1 H1 σ δ Ψ _ _ (g.le r1 l1) m1 fun xs c2 al2 G2 H2 vs r2 l2 d2 m2 => ?_
  exact q (x :: xs) c2 al2 G2 H2 (v :: vs) r2 (l1.trans l2) (.cons (d1.le l2) d2) m2
/-- a new list -/
theorem newL_ok {al : List Addr} {G : Hp} {c : SH} {H : Hp} {lv : Bool} {xs : List D} {vs : List V} {Φ : QD} {Q : VK} {p : Addr} (R : Rep K tb al G c H) (hp : H p = none) (hd : DenL K al G vs xs) (m : newL lv xs c Φ) (q : Ret K tb al G c H Φ Q) : Q (.ref p) (upd H p (.lst vs)) := by
  obtain ⟨_, m⟩ := m
  have hg := R.fresh hp
  cases lv with
  | false =>
    rw [if_neg (by decide)] at m
    exact q (.lst xs) c al (upd G p (.lst vs)) _ (.ref p) (R.data hp nofun) (Le.data hp hg nofun) (.lst upd_same (hd.mono (fun _ _ => id) (Ex.new hg))) m
  | true =>
    rw [if_pos rfl] at m
    have R2 : Rep K tb (al ++ [p]) G (c ++ [.lst xs]) (upd H p (.lst vs)) := R.obj hp (Ex.new hp) ⟨vs, upd_same, hd.mono (fun _ _ => app_get) (Ex.refl _)⟩ rfl
    refine q (.obj c.length) _ _ G _ (.ref p) R2 (Le.obj R hp (Ex.new hp)) (.obj ?_) m
    rw [← R.len, List.getElem?_append_right (Nat.le_refl _), Nat.sub_self]
    rfl
theorem snd_lst {lv : Bool} (hA : SndA K tb W tA mA) : SndE K tb W (tLst tA) (lstM lv mA) := by
  intro al G c H σ δ Ψ Φ Q g m q
  refine hA al G c H σ δ Ψ _ _ g m fun xs c1 al1 G1 H1 vs r1 l1 d1 m1 => ?_
  exact ⟨by rw [d1.length]; exact m1.1, fun p hp => newL_ok r1 hp d1 m1 (q.le l1)⟩
theorem snd_tup (hA : SndA K tb W tA mA) : SndE K tb W (tTup tA) (tupM mA) := by
  intro al G c H σ δ Ψ Φ Q g m q
  refine hA al G c H σ δ Ψ _ _ g m fun xs c1 al1 G1 H1 vs r1 l1 d1 m1 => ?_
  refine ⟨by rw [d1.length]; exact m1.1, fun p hp => ?_⟩
  have hg := r1.fresh hp
  exact q (.tup xs) c1 al1 (upd G1 p (.tup vs)) _ (.ref p) (r1.data hp nofun) (l1.trans (Le.data hp hg nofun)) (.tup upd_same (d1.mono (fun _ _ => id) (Ex.new hg))) m1.2
theorem snd_CB {rc : List V → Hp → VK → Prop} {op : List D → SH → QD → Prop} (ho : DCall K tb rc op) (hA : SndA K tb W tA mA) : SndE K tb W (tCB rc tA) (cbM op mA) := by
  intro al G c H σ δ Ψ Φ Q g m q
  refine hA al G c H σ δ Ψ _ _ g m fun xs c1 al1 G1 H1 vs r1 l1 d1 m1 => ?_
  exact ho al1 G1 c1 H1 vs xs Φ Q r1 d1 m1 (q.le l1)
theorem snd_noPart : SndO K tb W tNoPart noPartM := fun al G c H σ δ Ψ Φ Q g m q => q none c al G H g.rep .refl m
theorem snd_part (ha : SndE K tb W ta a) : SndO K tb W (tPart ta) (partM a) := by
  intro al G c H σ δ Ψ Φ Q g m q
  refine ha al G c H σ δ Ψ _ _ g m fun x c1 al1 G1 H1 v r1 l1 d1 m1 => ?_
  unfold intD at m1
  split at m1
  · cases d1
    exact ⟨_, rfl, q _ c1 al1 G1 H1 r1 l1 m1⟩
  · cases m1
theorem snd_sl {rs : V → Option Int → Option Int → Hp → VK → Prop} {op : D → Option Int → Option Int → SH → QD → Prop} {tl th : TO} {lo hi : MO}
    (ho : ∀ al G c H x dx l u Φ Q, Rep K tb al G c H → Den K al G x dx → op dx l u c Φ → Ret K tb al G c H Φ Q → rs x l u H Q) (ha : SndE K tb W ta a) (hl : SndO K tb W tl lo) (hh : SndO K tb W th hi) : SndE K tb W (tSl rs ta tl th) (slM op a lo hi) := by
  intro al G c H σ δ Ψ Φ Q g m q
  refine ha al G c H σ δ Ψ _ _ g m fun x c1 al1 G1 H1 v r1 l1 d1 m1 => ?_
  refine hl al1 G1 c1 H1 σ δ Ψ _ _ (g.le r1 l1) m1 fun l c2 al2 G2 H2 r2 l2 m2 => ?_
  refine hh al2 G2 c2 H2 σ δ Ψ _ _ (g.le r2 (l1.trans l2)) m2 fun u c3 al3 G3 H3 r3 l3 m3 => ?_
  exact ho al3 G3 c3 H3 v x l u Φ Q r3 (d1.le (l2.trans l3)) m3 (q.le ((l1.trans l2).trans l3))
/-- the promise of a def by its mirror -/
def SpG (K : PySem.W.Frag) (tb : List (Addr × Str)) (F : Fn) : Sp := fun vs H Q E => ∃ al G c as Ψ Φ, Rep K tb al G c H ∧ DenL K al G vs as ∧ F as c Ψ Φ ∧ Ret K tb al G c H Φ Q ∧ Thr K tb al G c H Ψ E
theorem DenL.appendC {al : List Addr} {G : Hp} {vs dvs : List V} {as ds : List D} (h : DenL K al G vs as) (hd : ∀ al G, DenL K al G dvs ds) : DenL K al G (vs ++ dvs) (as ++ ds) := h.append (hd al G)
theorem snd_call {F : Fn} {dvs : List V} {ds : List D} (hd : ∀ al G, DenL K al G dvs ds) (hA : SndA K tb W tA mA) : SndE K tb W (tCallSD (SpG K tb F) dvs (WE W) tA) (callM F ds mA) := by
  intro al G c H σ δ Ψ Φ Q g m q
  refine hA al G c H σ δ Ψ _ _ g m fun xs c1 al1 G1 H1 vs r1 l1 d1 m1 => ?_
  exact ⟨al1, G1, c1, xs ++ ds, Ψ, Φ, r1, d1.appendC hd, m1, q.le l1, g.thr.le l1⟩
end
end M
set_option Elab.async false
set_option linter.all false
set_option maxRecDepth 100000
set_option maxHeartbeats 3900000
namespace M
open PySem PySem.Spec PyProof.Rows L2 G
def tMethSD (C : Addr) (m : Str) (sp : Sp) (dvs : List V) (E : L2.St → XK) (ta : TE) (t : TA) : TE := fun σ H Q => ta σ H fun x H1 => ∃ a dx fs, x = .ref a ∧ H1 a = some (.ins C dx fs) ∧ fs.lookup m = none ∧
  t σ H1 fun vs H2 => sp (x :: (vs ++ dvs)) H2 Q (E σ)
def tMakeSD (C : Addr) (sp : Sp) (dvs : List V) (E : L2.St → XK) (t : TA) : TE := fun σ H Q => t σ H fun vs H1 => ∀ x dx, H1 x = none → H1 dx = none → dx ≠ x →
  sp (.ref x :: (vs ++ dvs)) (upd (upd H1 dx (.own x)) x (.ins C dx [])) (fun v H2 => v = .non ∧ Q (.ref x) H2) (E σ)
def out1 (n : Nat) (c : SH) : D → D
  | .obj k => if k < n then .obj k else match c[k]? with
    | some (.lst xs) => .lst xs
    | some (.ins C xs) => .ins C xs
    | some (.frz d) => d
    | _ => .obj k
  | d => d
/-- objects stay as they were, or hold nothing newer -/
def okc (c c' : SH) : Prop := ∀ (i : Nat) (o : SO), c'[i]? = some o → c[i]? = some o ∨ o.nb c.length = true
def clo (c : SH) (Φ : QD) (d : D) (c' : SH) : Prop := Φ d c' ∨ (okc c (c'.take c.length) ∧ nb c.length (out1 c.length c' d) = true ∧ Φ (out1 c.length c' d) (c'.take c.length))
section
variable {K : PySem.W.Frag} {tb : List (Addr × Str)} {al al' : List Addr} {G G' : Hp} {c c' : SH} {H H' : Hp} {W : WX} {σ : L2.St} {δ : Env} {Ψ : XD}
theorem set_take {α : Type} {xs : List α} {y : α} {n k : Nat} (h : n ≤ k) : (xs.set k y).take n = xs.take n := by
  apply List.ext_getElem?
  intro i
  rw [List.getElem?_take, List.getElem?_take]
  by_cases hi : i < n
  · rw [if_pos hi, if_pos hi, List.getElem?_set, if_neg (by omega)]
  · rw [if_neg hi, if_neg hi]
theorem Rep.cutc (R : Rep K tb al G c H) (R' : Rep K tb al' G' c' H') (h : okc c (c'.take c.length)) : Rep K tb (al'.take c.length) G' (c'.take c.length) H' := by
  refine R'.cut fun o ho => ?_
  obtain ⟨i, hi⟩ := List.getElem?_of_mem ho
  rcases h i o hi with h1 | h1
  · have hl := (List.getElem?_eq_some_iff.mp h1).1
    have ha : al[i]? = some (al[i]'(by rw [R.len]; exact hl)) := List.getElem?_eq_getElem (by rw [R.len]; exact hl)
    exact Ent.nb (R.ent i _ o ha h1) (Nat.le_of_eq R.len)
  · exact h1
/-- the end of a def, in three parts: state, order, value -/
theorem clo_ok {Φ : QD} {d : D} {v : V} (R : Rep K tb al G c H) (R' : Rep K tb al' G' c' H') (l : Le al G c H al' G' c' H') (hd : Den K al' G' v d) (m : clo c Φ d c') :
    ∃ d2 c2 al2 G2, Rep K tb al2 G2 c2 H' ∧ Le al G c H al2 G2 c2 H' ∧ Den K al2 G2 v d2 ∧ Φ d2 c2 := by
  rcases m with m | ⟨ho, hn, m⟩
  · exact ⟨d, c', al', G', R', l, hd, m⟩
  · have plain : out1 c.length c' d = d → ∃ d2 c2 al2 G2, Rep K tb al2 G2 c2 H' ∧ Le al G c H al2 G2 c2 H' ∧ Den K al2 G2 v d2 ∧ Φ d2 c2 := fun e => by
      rw [e] at hn m
      exact ⟨d, _, _, G', R.cutc R' ho, l.cut (Nat.le_of_eq R.len), hd.cut hn, m⟩
    have frozen : ∀ (k : Nat) (a : Addr) (s : SO) (u : HO) (e : D), c.length ≤ k → v = .ref a → al'[k]? = some a → c'[k]? = some s → s.live = true → H' a = some u → out1 c.length c' d = e → Den K al' (upd G' a u) (.ref a) e → ∃ d2 c2 al2 G2, Rep K tb al2 G2 c2 H' ∧ Le al G c H al2 G2 c2 H' ∧ Den K al2 G2 v d2 ∧ Φ d2 c2 := by
      intro k a s u e hk hv ha hs hl hu he hden
      rw [he] at hn m
      have R2 := R'.freeze ha hs hl hu hden
      have l2 := l.trans (Le.freeze R' ha hs hl (u := u) (d := e))
      have et : (c'.set k (.frz e)).take c.length = c'.take c.length := set_take hk
      have R3 := R.cutc R2 (by rw [et]; exact ho)
      have l3 := l2.cut (Nat.le_of_eq R.len)
      rw [et] at R3 l3
      subst hv
      exact ⟨e, _, _, _, R3, l3, hden.cut hn, m⟩
    cases d with
    | obj k =>
      by_cases hk : k < c.length
      · exact plain (by simp only [out1, if_pos hk])
      · cases hd with
        | obj ha =>
          have hlt := R'.den_some ha
          have hs : c'[k]? = some c'[k] := List.getElem?_eq_getElem hlt
          have ent := R'.ent k _ _ ha hs
          have gn := R'.out k _ _ ha hs
          generalize c'[k] = s at hs ent gn
          have hk2 : c.length ≤ k := by omega
          cases s with
          | lst xs =>
            obtain ⟨vs, h1, h2⟩ := ent
            exact frozen k _ _ _ (.lst xs) hk2 rfl ha hs rfl h1 (by simp only [out1, if_neg hk, hs]) (.lst upd_same (h2.mono (fun _ _ => id) (Ex.new (gn rfl))))
          | dic xs =>
            have he : out1 c.length c' (.obj k) = .obj k := by simp only [out1, if_neg hk, hs]
            rw [he] at hn
            simp only [nb, decide_eq_true_eq] at hn
            exact absurd hn hk
          | ins C xs =>
            obtain ⟨dx, vs, h1, h2⟩ := ent
            exact frozen k _ _ _ (.ins C xs) hk2 rfl ha hs rfl h1 (by simp only [out1, if_neg hk, hs]) (.ins upd_same (h2.mono (fun _ _ => id) (Ex.new (gn rfl))))
          | frz e =>
            have he : out1 c.length c' (.obj k) = e := by simp only [out1, if_neg hk, hs]
            rw [he] at hn m
            exact ⟨e, _, _, G', R.cutc R' ho, l.cut (Nat.le_of_eq R.len), Den.cut ent hn, m⟩
          | box n =>
            have he : out1 c.length c' (.obj k) = .obj k := by simp only [out1, if_neg hk, hs]
            rw [he] at hn
            simp only [nb, decide_eq_true_eq] at hn
            exact absurd hn hk
          | lck ob vs xs =>
            have he : out1 c.length c' (.obj k) = .obj k := by simp only [out1, if_neg hk, hs]
            rw [he] at hn
            simp only [nb, decide_eq_true_eq] at hn
            exact absurd hn hk
    | _ => exact plain rfl
end
end M
set_option Elab.async false
set_option linter.all false
set_option maxRecDepth 100000
set_option maxHeartbeats 3900000
namespace M
open PySem PySem.Spec PyProof.Rows L2 G
structure EndsD where
  nx : Env → SH → Prop
  rt : QD
  bk : Env → SH → Prop
  ct : Env → SH → Prop
  xc : Addr → Str → D → Env → SH → Prop
abbrev MS := Env → SH → EndsD → Prop
abbrev MG := D → Env → SH → XD → (Env → SH → Prop) → Prop
abbrev MGs := List D → Env → SH → XD → (Env → SH → Prop) → Prop
abbrev MI := Env → SH → XD → (List D → (SH → Prop) → SH → Prop) → Prop
abbrev EndsD.x (e : EndsD) (δ : Env) : XD := fun C f d c => e.xc C f d δ c
structure EndOk (K : PySem.W.Frag) (tb : List (Addr × Str)) (W : WX) (al : List Addr) (G : Hp) (c : SH) (H : Hp) (e : EndsD) (D : Ends) : Prop where
  nx : RetE K tb al G c H e.nx D.nx
  rt : Ret K tb al G c H e.rt D.rt
  bk : RetE K tb al G c H e.bk D.bk
  ct : RetE K tb al G c H e.ct D.ct
  xc : ThrS K tb al G c H e.xc W
section
variable (K : PySem.W.Frag) (tb : List (Addr × Str)) (W : WX)
def SndS (t : TS) (m : MS) : Prop := ∀ al G c H σ δ e D, Rep K tb al G c H → SRel K al G σ δ → m δ c e → EndOk K tb W al G c H e D → t D σ H
def SndG (g : TG) (m : MG) : Prop := ∀ al G c H σ δ Ψ v x N R, Go K tb al G c H W σ δ Ψ → Den K al G v x → m x δ c Ψ N → RetE K tb al G c H N R → g v σ H R
/-- what is walked -/
structure Iter (J : It) (xs : List D) (gd : SH → Prop) (al : List Addr) (G : Hp) (c : SH) (H : Hp) : Prop where
  go : ∀ (i : Nat) (x : D) al1 G1 c1 H1, xs[i]? = some x → Rep K tb al1 G1 c1 H1 → Le al G c H al1 G1 c1 H1 → gd c1 → J.go i H1
  yl : ∀ (i : Nat) (x : D) al1 G1 c1 H1 v H', xs[i]? = some x → Rep K tb al1 G1 c1 H1 → Le al G c H al1 G1 c1 H1 → gd c1 → J.yld i H1 v H' → ∃ G', Rep K tb al1 G' c1 H' ∧ Le al1 G1 c1 H1 al1 G' c1 H' ∧ Den K al1 G' v x
  st : ∀ al1 G1 c1 H1, Rep K tb al1 G1 c1 H1 → Le al G c H al1 G1 c1 H1 → gd c1 → J.stop xs.length H1
def SndI (wi : TI) (m : MI) : Prop := ∀ al G c H σ δ Ψ Φ R, Go K tb al G c H W σ δ Ψ → m δ c Ψ Φ → (∀ xs gd c' al' G' H' J, Rep K tb al' G' c' H' → Le al G c H al' G' c' H' → Iter K tb J xs gd al' G' c' H' → Φ xs gd c' → R J H') → wi σ H R
end
section
variable {K : PySem.W.Frag} {tb : List (Addr × Str)} {W : WX} {al al' : List Addr} {G G' : Hp} {c c' : SH} {H H' : Hp} {σ : L2.St} {δ : Env} {e : EndsD} {D : Ends}
theorem EndOk.le (k : EndOk K tb W al G c H e D) (l : Le al G c H al' G' c' H') : EndOk K tb W al' G' c' H' e D := ⟨k.nx.le l, k.rt.le l, k.bk.le l, k.ct.le l, k.xc.le l⟩
theorem EndOk.go (k : EndOk K tb W al G c H e D) (r : Rep K tb al G c H) (s : SRel K al G σ δ) : Go K tb al G c H W σ δ (e.x δ) := ⟨r, s, fun C f d c2 al2 G2 H2 dd v r2 l2 fr hd den x => k.xc C f d δ c2 al2 G2 H2 dd v σ r2 l2 (s.le l2) fr hd den x⟩
theorem Go.set {v : V} {x : M.D} {i : Nat} {Ψ : XD} (g : Go K tb al G c H W σ δ Ψ) (q : Den K al G v x) : SRel K al G (σ.set i (some v)) (δ.set i (some x)) := g.env.set q
end
def seqM (a b : MS) : MS := fun δ c e => a δ c { e with nx := fun δ' c' => b δ' c' e }
def asgM (a : ME) (g : MG) : MS := fun δ c e => a δ c (e.x δ) fun x c1 => g x δ c1 (e.x δ) e.nx
def gnameM (i : Nat) : MG := fun x δ c _ N => N (δ.set i (some x)) c
def dropM (a : ME) : MS := fun δ c e => a δ c (e.x δ) fun _ c1 => e.nx δ c1
def retM (a : ME) : MS := fun δ c e => a δ c (e.x δ) e.rt
def retNM : MS := fun _ c e => e.rt .non c
def nextM : MS := fun δ c e => e.nx δ c
def breakM : MS := fun δ c e => e.bk δ c
def contM : MS := fun δ c e => e.ct δ c
def ifS (t : MT) (a b : MS) : MS := fun δ c e => t δ c (e.x δ) fun k c1 => if k = true then a δ c1 e else b δ c1 e
def twoD (xs : List D) (k : D → D → Prop) : Prop := match xs with
  | [x, y] => k x y
  | _ => False
def oneD (xs : List D) (k : D → Prop) : Prop := match xs with
  | [x] => k x
  | _ => False
def parM (i j : Nat) (a : MA) : MS := fun δ c e => a δ c (e.x δ) fun xs c1 => twoD xs fun x y => e.nx ((δ.set i (some x)).set j (some y)) c1
def raiseM (C : Addr) (f : Str) (a : MA) : MS := fun δ c e => a δ c (e.x δ) fun xs c1 => oneD xs fun x => e.xc C f x δ c1
def forD (gd : SH → Prop) (g : MG) (b : MS) : List D → Env → SH → EndsD → Prop
  | [], δ, c, e => gd c ∧ e.nx δ c
  | x :: xs, δ, c, e => gd c ∧ g x δ c (e.x δ) fun δ1 c1 => b δ1 c1 { e with nx := fun δ2 c2 => forD gd g b xs δ2 c2 e, ct := fun δ2 c2 => forD gd g b xs δ2 c2 e, bk := e.nx }
def forM (i : MI) (g : MG) (b : MS) : MS := fun δ c e => i δ c (e.x δ) fun xs gd c1 => forD gd g b xs δ c1 e
def whileM (t : MT) (b : MS) : MS := fun δ c e => ∃ I : Nat → Env → SH → Prop, (∃ m, I m δ c) ∧ ∀ m δ c, I m δ c → t δ c (e.x δ) fun k c1 => if k = true then b δ c1 { e with nx := fun δ' c' => ∃ m', m' < m ∧ I m' δ' c', ct := fun δ' c' => ∃ m', m' < m ∧ I m' δ' c', bk := e.nx } else e.nx δ c1
section
variable {K : PySem.W.Frag} {tb : List (Addr × Str)} {W : WX} {ta te : TE} {a : ME} {st su : TS} {ms mu : MS} {t : TT} {mt : MT} {tA : TA} {mA : MA} {g : TG} {mg : MG} {wi : TI} {mi : MI}
theorem snd_seq (h : SndS K tb W st ms) (k : SndS K tb W su mu) : SndS K tb W (tSeq st su) (seqM ms mu) := by
  intro al G c H σ δ e D R s m q
  refine h al G c H σ δ _ _ R s m { q with nx := fun δ2 c2 al2 G2 H2 σ2 R2 l2 s2 m2 => ?_ }
  exact k al2 G2 c2 H2 σ2 δ2 e D R2 s2 m2 (q.le l2)
theorem snd_gname {i : Nat} : SndG K tb W (gName i) (gnameM i) := fun al G c H σ δ Ψ v x N R g d m q => q _ c al G H _ g.rep .refl (g.set d) m
theorem snd_asg (ha : SndE K tb W ta a) (hg : SndG K tb W g mg) : SndS K tb W (tAsg ta g) (asgM a mg) := by
  intro al G c H σ δ e D R s m q
  refine ha al G c H σ δ (e.x δ) _ _ (q.go R s) m fun x c1 al1 G1 H1 v r1 l1 d1 m1 => ?_
  exact hg al1 G1 c1 H1 σ δ (e.x δ) v x e.nx D.nx ((q.le l1).go r1 (s.le l1)) d1 m1 (q.le l1).nx
theorem snd_drop (ha : SndE K tb W ta a) : SndS K tb W (tDrop ta) (dropM a) := by
  intro al G c H σ δ e D R s m q
  exact ha al G c H σ δ (e.x δ) _ _ (q.go R s) m fun x c1 al1 G1 H1 v r1 l1 d1 m1 => q.nx δ c1 al1 G1 H1 σ r1 l1 (s.le l1) m1
theorem snd_ret (ha : SndE K tb W ta a) : SndS K tb W (tRet ta) (retM a) := by
  intro al G c H σ δ e D R s m q
  exact ha al G c H σ δ (e.x δ) _ _ (q.go R s) m q.rt
theorem snd_retN : SndS K tb W tRetN retNM := fun al G c H σ δ e D R s m q => q.rt .non c al G H .non R .refl .non m
theorem snd_next : SndS K tb W tNext nextM := fun al G c H σ δ e D R s m q => q.nx δ c al G H σ R .refl s m
theorem snd_break : SndS K tb W tBreak breakM := fun al G c H σ δ e D R s m q => q.bk δ c al G H σ R .refl s m
theorem snd_cont : SndS K tb W tCont contM := fun al G c H σ δ e D R s m q => q.ct δ c al G H σ R .refl s m
theorem snd_ifS (ht : SndT K tb W t mt) (h : SndS K tb W st ms) (k : SndS K tb W su mu) : SndS K tb W (tIfS t st su) (ifS mt ms mu) := by
  intro al G c H σ δ e D R s m q
  refine ht al G c H σ δ (e.x δ) _ _ (q.go R s) m fun b c1 al1 G1 H1 r1 l1 m1 => ?_
  cases b with
  | true => exact iteT (h al1 G1 c1 H1 σ δ e D r1 (s.le l1) m1 (q.le l1))
  | false => exact iteF (k al1 G1 c1 H1 σ δ e D r1 (s.le l1) m1 (q.le l1))
theorem snd_par {i j : Nat} (hA : SndA K tb W tA mA) : SndS K tb W (tPar i j tA) (parM i j mA) := by
  intro al G c H σ δ e D R s m q
  refine hA al G c H σ δ (e.x δ) _ _ (q.go R s) m fun xs c1 al1 G1 H1 vs r1 l1 d1 m1 => ?_
  unfold twoD at m1
  split at m1
  · cases d1 with
    | cons d1 d2 =>
      cases d2 with
      | cons d2 d3 =>
        cases d3
        exact ⟨_, _, rfl, q.nx _ c1 al1 G1 H1 _ r1 l1 (((s.le l1).set d1).set d2) m1⟩
  · cases m1
theorem snd_raise {C : Addr} {f : Str} (hA : SndA K tb W tA mA) : SndS K tb W (tRaiseE C f W tA) (raiseM C f mA) := by
  intro al G c H σ δ e D R s m q
  refine hA al G c H σ δ (e.x δ) _ _ (q.go R s) m fun xs c1 al1 G1 H1 vs r1 l1 d1 m1 => ?_
  unfold oneD at m1
  split at m1
  · cases d1 with
    | cons d1 d2 =>
      cases d2
      rename_i v
      refine ⟨v, rfl, fun dd hd => ?_⟩
      have ex : Ex H1 (upd H1 dd (.xd [(f, v)])) := Ex.new hd
      exact q.xc C f _ δ c1 al1 G1 _ dd _ σ (r1.grow ex) (l1.trans (Le.grow ex)) (s.le l1) (l1.dom dd (.of hd)) upd_same d1 m1
  · cases m1
theorem drop_get {α : Type} {xs : List α} {i : Nat} (h : i < xs.length) : xs.drop i = xs[i] :: xs.drop (i + 1) := List.drop_eq_getElem_cons h
theorem snd_for (hi : SndI K tb W wi mi) (hg : SndG K tb W g mg) (hb : SndS K tb W st ms) : SndS K tb W (tFor wi g st) (forM mi mg ms) := by
  intro al G c H σ δ e D R s m q
  refine w_for (hi al G c H σ δ (e.x δ) _ _ (q.go R s) m fun xs gd c1 al1 G1 H1 J r1 l1 it m1 => ?_)
  refine ⟨fun i n σ2 H2 => n = xs.length - i ∧ i ≤ xs.length ∧ ∃ al2 G2 c2 δ2, Rep K tb al2 G2 c2 H2 ∧ Le al1 G1 c1 H1 al2 G2 c2 H2 ∧ SRel K al2 G2 σ2 δ2 ∧ forD gd mg ms (xs.drop i) δ2 c2 e, ⟨_, rfl, Nat.zero_le _, al1, G1, c1, δ, r1, .refl, s.le l1, m1⟩, ?_⟩
  rintro i n σ2 H2 ⟨rfl, hle, al2, G2, c2, δ2, r2, l2, s2, m2⟩
  by_cases hlt : i < xs.length
  · rw [drop_get hlt] at m2
    obtain ⟨hgd, m2⟩ := m2
    have hx : xs[i]? = some xs[i] := List.getElem?_eq_getElem hlt
    refine .inr ⟨it.go i _ al2 G2 c2 H2 hx r2 l2 hgd, fun σ3 H3 => ∃ al3 G3 c3 δ3, Rep K tb al3 G3 c3 H3 ∧ Le al1 G1 c1 H1 al3 G3 c3 H3 ∧ SRel K al3 G3 σ3 δ3 ∧ forD gd mg ms (xs.drop (i + 1)) δ3 c3 e, ?_, ?_⟩
    · rintro σ3 H3 ⟨al3, G3, c3, δ3, r3, l3, s3, m3⟩
      exact ⟨xs.length - (i + 1), by omega, rfl, hlt, al3, G3, c3, δ3, r3, l3, s3, m3⟩
    · intro v H' y
      obtain ⟨G', r', l', d'⟩ := it.yl i _ al2 G2 c2 H2 v H' hx r2 l2 hgd y
      have q2 := (q.le l1).le (l2.trans l')
      refine hg al2 G' c2 H' σ2 δ2 (e.x δ2) v _ _ _ (q2.go r' (s2.le l')) d' m2 fun δ3 c3 al3 G3 H3 σ3 r3 l3 s3 m3 => ?_
      have back : ∀ (δ4 : Env) (c4 : SH) (al4 : List Addr) (G4 H4 : Hp) (σ4 : L2.St), Rep K tb al4 G4 c4 H4 → Le al3 G3 c3 H3 al4 G4 c4 H4 → SRel K al4 G4 σ4 δ4 → forD gd mg ms (xs.drop (i + 1)) δ4 c4 e → ∃ al3 G3 c3 δ3, Rep K tb al3 G3 c3 H4 ∧ Le al1 G1 c1 H1 al3 G3 c3 H4 ∧ SRel K al3 G3 σ4 δ3 ∧ forD gd mg ms (xs.drop (i + 1)) δ3 c3 e :=
        fun δ4 c4 al4 G4 H4 σ4 r4 l4 s4 m4 => ⟨al4, G4, c4, δ4, r4, ((l2.trans l').trans l3).trans l4, s4, m4⟩
      exact hb al3 G3 c3 H3 σ3 δ3 _ _ r3 s3 m3 { nx := back, ct := back, rt := (q2.le l3).rt, bk := (q2.le l3).nx, xc := (q2.le l3).xc }
  · have hi2 : i = xs.length := by omega
    subst hi2
    rw [List.drop_length] at m2
    obtain ⟨hgd, m2⟩ := m2
    exact .inl ⟨it.st al2 G2 c2 H2 r2 l2 hgd, ((q.le l1).le l2).nx δ2 c2 al2 G2 H2 σ2 r2 .refl s2 m2⟩
theorem snd_while (ht : SndT K tb W t mt) (hb : SndS K tb W st ms) : SndS K tb W (tWhile t st) (whileM mt ms) := by
  intro al G c H σ δ e D R s m q
  obtain ⟨I, ⟨m0, h0⟩, hs⟩ := m
  refine ⟨fun n σ2 H2 => ∃ al2 G2 c2 δ2, Rep K tb al2 G2 c2 H2 ∧ Le al G c H al2 G2 c2 H2 ∧ SRel K al2 G2 σ2 δ2 ∧ I n δ2 c2, ⟨m0, al, G, c, δ, R, .refl, s, h0⟩, ?_⟩
  rintro n σ2 H2 ⟨al2, G2, c2, δ2, r2, l2, s2, i2⟩
  refine ht al2 G2 c2 H2 σ2 δ2 (e.x δ2) _ _ ((q.le l2).go r2 s2) (hs n δ2 c2 i2) fun k c3 al3 G3 H3 r3 l3 m3 => ?_
  cases k with
  | false => exact iteF (q.nx δ2 c3 al3 G3 H3 σ2 r3 (l2.trans l3) (s2.le l3) m3)
  | true =>
    refine iteT ⟨fun σ4 H4 => ∃ n', n' < n ∧ ∃ al4 G4 c4 δ4, Rep K tb al4 G4 c4 H4 ∧ Le al G c H al4 G4 c4 H4 ∧ SRel K al4 G4 σ4 δ4 ∧ I n' δ4 c4, fun _ _ h => h, ?_⟩
    have back : ∀ (δ4 : Env) (c4 : SH) (al4 : List Addr) (G4 H4 : Hp) (σ4 : L2.St), Rep K tb al4 G4 c4 H4 → Le al3 G3 c3 H3 al4 G4 c4 H4 → SRel K al4 G4 σ4 δ4 → (∃ n', n' < n ∧ I n' δ4 c4) → ∃ n', n' < n ∧ ∃ al4 G4 c4 δ4, Rep K tb al4 G4 c4 H4 ∧ Le al G c H al4 G4 c4 H4 ∧ SRel K al4 G4 σ4 δ4 ∧ I n' δ4 c4 :=
      fun δ4 c4 al4 G4 H4 σ4 r4 l4 s4 h => let ⟨n', hn, h⟩ := h; ⟨n', hn, al4, G4, c4, δ4, r4, (l2.trans l3).trans l4, s4, h⟩
    have q3 := q.le (l2.trans l3)
    exact hb al3 G3 c3 H3 σ2 δ2 _ _ r3 (s2.le l3) m3 { nx := back, ct := back, rt := q3.rt, bk := q3.nx, xc := q3.xc }
end
def fnD (np ns : Nat) (b : MS) : Fn := fun as c Ψ Φ => as.length = np ∧ b (as.map some ++ List.replicate (ns - as.length) none) c { nx := fun _ c' => clo c Φ .non c', rt := fun d c' => clo c Φ d c', bk := fun _ _ => False, ct := fun _ _ => False, xc := fun C f d _ c' => clo c (fun d c' => Ψ C f d c') d c' }
theorem den_start {K : PySem.W.Frag} {al : List Addr} {G : Hp} {N : List Str} {vs : List V} {as : List D} (h : DenL K al G vs as) : SRel K al G (L2.start N vs) (as.map some ++ List.replicate (N.length - as.length) none) := by
  have hl := h.length
  constructor
  · unfold L2.start
    rw [List.length_append, List.length_append, List.length_map, List.length_map, List.length_replicate, List.length_replicate, hl]
  · intro i d e
    by_cases hi : i < as.length
    · rw [List.getElem?_append_left (by rw [List.length_map]; exact hi), List.getElem?_map] at e
      obtain ⟨x, hx, e⟩ := Option.map_eq_some_iff.mp e
      cases e
      obtain ⟨v, h1, h2⟩ := h.get hx
      refine ⟨v, ?_, h2⟩
      unfold L2.start
      rw [List.getElem?_append_left (by rw [List.length_map, hl]; exact hi), List.getElem?_map, h1]
      rfl
    · rw [List.getElem?_append_right (by rw [List.length_map]; omega), List.getElem?_replicate] at e
      split at e <;> cases e
theorem fn_ok {K : PySem.W.Frag} {tb : List (Addr × Str)} {t : TS} {b : MS} {np : Nat} {N : List Str} {vs : List V} {H : Hp} {Q : VK} {E : XK} (h : SndS K tb (fun C d _ H => E C d H) t b) (hs : SpG K tb (fnD np N.length b) vs H Q E) : t { nx := fun _ H' => Q .non H', rt := Q } (L2.start N vs) H := by
  obtain ⟨al, G, c, as, Ψ, Φ, R, dn, ⟨hn, m⟩, q, x⟩ := hs
  refine h al G c H _ _ _ _ R (den_start dn) m ⟨fun δ c1 al1 G1 H1 σ1 r1 l1 s1 m1 => ?_, fun d c1 al1 G1 H1 v r1 l1 d1 m1 => ?_, fun δ c1 al1 G1 H1 σ1 r1 l1 s1 m1 => m1.elim, fun δ c1 al1 G1 H1 σ1 r1 l1 s1 m1 => m1.elim, fun C f d δ c1 al1 G1 H1 dd v σ1 r1 l1 s1 fr hd den m1 => ?_⟩
  · obtain ⟨d2, c2, al2, G2, r2, l2, d2', m2⟩ := clo_ok R r1 l1 .non m1
    exact q d2 c2 al2 G2 H1 _ r2 l2 d2' m2
  · obtain ⟨d2, c2, al2, G2, r2, l2, d2', m2⟩ := clo_ok R r1 l1 d1 m1
    exact q d2 c2 al2 G2 H1 _ r2 l2 d2' m2
  · obtain ⟨d2, c2, al2, G2, r2, l2, d2', m2⟩ := clo_ok R r1 l1 den m1
    exact x C f d2 c2 al2 G2 H1 dd v r2 l2 fr hd d2' m2
theorem fn_len {K : PySem.W.Frag} {tb : List (Addr × Str)} {np ns : Nat} {b : MS} {vs : List V} {H : Hp} {Q : VK} {E : XK} (hs : SpG K tb (fnD np ns b) vs H Q E) : vs.length = np := by
  obtain ⟨al, G, c, as, Ψ, Φ, R, dn, ⟨hn, m⟩, q, x⟩ := hs
  rw [dn.length, hn]
end M
set_option Elab.async false
set_option linter.all false
set_option maxRecDepth 100000
set_option maxHeartbeats 3900000
namespace M
open PySem PySem.Spec PyProof.Rows L2 G
def view (c : SH) : D → D
  | .obj k => match c[k]? with
    | some (.lst xs) => .lst xs
    | some (.dic xs) => .dic xs
    | some (.lck _ _ xs) => .dic xs
    | some (.ins C fs) => .ins C fs
    | some (.frz d) => d
    | _ => .obj k
  | d => d
/-- what is to be read at a value: itself in H, its parts as data -/
inductive Vw (K : PySem.W.Frag) (al : List Addr) (G H : Hp) : V → D → Prop
  | non : Vw K al G H .non .non
  | bl (b : Bool) : Vw K al G H (.bl b) (.bl b)
  | int (i : Int) : Vw K al G H (.int i) (.int i)
  | str (z : Str) : Vw K al G H (.str z) (.str z)
  | ty (n : String) : Vw K al G H (.ty n) (.ty n)
  | adr (a : Addr) : Vw K al G H (.ref a) (.adr a)
  | lst {a : Addr} {vs : List V} {xs : List D} : H a = some (.lst vs) → DenL K al G vs xs → Vw K al G H (.ref a) (.lst xs)
  | scr {a : Addr} {vs : List V} {xs : List D} : SqL K H a vs → DenL K al G vs xs → Vw K al G H (.ref a) (.scr xs)
  | tup {a : Addr} {vs : List V} {xs : List D} : H a = some (.tup vs) → DenL K al G vs xs → Vw K al G H (.ref a) (.tup xs)
  | exc {a C : Addr} {od : Option Addr} {vs : List (Str × V)} {xs : List (Str × D)} : H a = some (ExV C od a) → (∀ dd, od = some dd → H dd = some (.xd vs)) → (od = none → vs = []) → DenF K al G vs xs → Vw K al G H (.ref a) (.exc C xs)
  | dic {a : Addr} {vs : List (Key × V)} {xs : List (Key × D)} : Rd H a (.dK vs) → DenK K al G vs xs → Vw K al G H (.ref a) (.dic xs)
  | ins {a C dx : Addr} {vs : List (Str × V)} {xs : List (Str × D)} : H a = some (.ins C dx vs) → DenF K al G vs xs → Vw K al G H (.ref a) (.ins C xs)
  | obj {k : Nat} {a : Addr} : al[k]? = some a → Vw K al G H (.ref a) (.obj k)
  | btp {a : Addr} {vs : List V} {xs : List D} : KTup K a vs → DenL K al G vs xs → Vw K al G H (.ref a) (.btp xs)
section
variable {K : PySem.W.Frag} {tb : List (Addr × Str)} {W : WX} {al al' : List Addr} {G G' : Hp} {c c' : SH} {H H' : Hp} {v w : V} {x y : D}
theorem Den.vwG (ex : Ex G H) (h : Den K al G v x) : Vw K al G H v x := by
  cases h with
  | non => exact .non
  | bl b => exact .bl b
  | int i => exact .int i
  | str z => exact .str z
  | ty n => exact .ty n
  | adr a => exact .adr a
  | lst h r => exact .lst (ex _ _ h) r
  | scr h r => exact .scr (ex.l h) r
  | tup h r => exact .tup (ex _ _ h) r
  | exc h h2 h3 r => exact .exc (ex _ _ h) (fun dd e => ex _ _ (h2 dd e)) h3 r
  | dic h r => exact .dic (.inr ⟨_, ex _ _ h⟩) r
  | ins h r => exact .ins (ex _ _ h) r
  | obj h => exact .obj h
  | btp h r => exact .btp h r
theorem Rep.vw (R : Rep K tb al G c H) (h : Den K al G v x) : Vw K al G H v (view c x) := by
  cases h with
  | @obj k a h =>
    have hk := R.den_some h
    have hs : c[k]? = some c[k] := List.getElem?_eq_getElem hk
    have e := R.ent k a _ h hs
    generalize c[k] = s at hs e
    unfold view
    simp only [hs]
    cases s with
    | lst xs => obtain ⟨vs, h1, h2⟩ := e; exact .lst h1 h2
    | dic xs => obtain ⟨vs, h1, h2⟩ := e; exact .dic (.inl h1) h2
    | ins C xs => obtain ⟨dx, vs, h1, h2⟩ := e; exact .ins h1 h2
    | frz d => exact Den.vwG R.sub e
    | box n => exact .obj h
    | lck ob vs xs => obtain ⟨h1, h2⟩ := e; exact .dic (.inr ⟨_, h1⟩) h2
  | _ => exact Den.vwG R.sub (by constructor <;> assumption)
end
def addD (lv : Bool) (x y : D) (c : SH) (Φ : QD) : Prop := match view c x, view c y with
  | .int a, .int b => Φ (.int (a + b)) c
  | .str a, .str b => a.length + b.length ≤ sizeLine ∧ Φ (.str (a ++ b)) c
  | .lst a, .lst b => newL lv (a ++ b) c Φ
  | _, _ => False
def subD (x y : D) (c : SH) (Φ : QD) : Prop := match view c x, view c y with
  | .int a, .int b => Φ (.int (a - b)) c
  | _, _ => False
def mulD (lv : Bool) (x y : D) (c : SH) (Φ : QD) : Prop := match view c x, view c y with
  | .int a, .int b => CMul a b ∧ Φ (.int (a * b)) c
  | .str z, .int n => (0 ≤ n ∧ n ≤ 100000 ∧ z.length * n.toNat ≤ 1000000) ∧ Φ (.str (Txt.mul z n)) c
  | .lst a, .int n => (-(2 ^ 63) ≤ n ∧ n < 2 ^ 63) ∧ newL lv (List.replicate n.toNat a).flatten c Φ
  | _, _ => False
def fdivD (x y : D) (c : SH) (Φ : QD) : Prop := match view c x, view c y with
  | .int a, .int b => CDivN a b ∧ Φ (.int (a.fdiv b)) c
  | _, _ => False
def modD (x y : D) (c : SH) (Φ : QD) : Prop := match view c x, view c y with
  | .int a, .int b => b ≠ 0 ∧ Φ (.int (a.fmod b)) c
  | _, _ => False
def powD (x y : D) (c : SH) (Φ : QD) : Prop := match view c x, view c y with
  | .int a, .int b => CPow a b ∧ Φ (.int (a ^ b.toNat)) c
  | _, _ => False
def negD (x : D) (c : SH) (Φ : QD) : Prop := match x with
  | .int a => Φ (.int (-a)) c
  | _ => False
def ltD (x y : D) (c : SH) (Φ : QD) : Prop := match view c x, view c y with
  | .int a, .int b => Φ (.bl (decide (a < b))) c
  | .str a, .str b => Φ (.bl (decide (a.cps.toList < b.cps.toList))) c
  | _, _ => False
def leD (x y : D) (c : SH) (Φ : QD) : Prop := match view c x, view c y with
  | .int a, .int b => Φ (.bl (decide (a ≤ b))) c
  | .str a, .str b => Φ (.bl (!decide (b.cps.toList < a.cps.toList))) c
  | _, _ => False
def gtD (x y : D) (c : SH) (Φ : QD) : Prop := match view c x, view c y with
  | .int a, .int b => Φ (.bl (decide (b < a))) c
  | .str a, .str b => Φ (.bl (decide (b.cps.toList < a.cps.toList))) c
  | _, _ => False
def geD (x y : D) (c : SH) (Φ : QD) : Prop := match view c x, view c y with
  | .int a, .int b => Φ (.bl (decide (b ≤ a))) c
  | .str a, .str b => Φ (.bl (!decide (a.cps.toList < b.cps.toList))) c
  | _, _ => False
section
variable {K : PySem.W.Frag} {tb : List (Addr × Str)}
theorem dop_add {lv : Bool} : DOp K tb rAddU (addD lv) := by
  intro al G c H x y dx dy Φ Q R hx hy m q
  have vx := R.vw hx
  have vy := R.vw hy
  unfold addD at m
  split at m
  · rename_i e1 e2
    rw [e1] at vx; rw [e2] at vy
    cases vx; cases vy
    exact .inl ⟨_, _, rfl, rfl, q _ c al G H _ R .refl (.int _) m⟩
  · rename_i e1 e2
    rw [e1] at vx; rw [e2] at vy
    cases vx; cases vy
    exact .inr (.inl ⟨_, _, rfl, rfl, m.1, q _ c al G H _ R .refl (.str _) m.2⟩)
  · rename_i e1 e2
    rw [e1] at vx; rw [e2] at vy
    cases vx with
    | lst h1 r1 =>
      cases vy with
      | lst h2 r2 =>
        refine .inr (.inr ⟨_, _, _, _, rfl, rfl, h1, h2, ?_, fun p hp => newL_ok R hp (r1.append r2) m q⟩)
        have := m.1
        rw [List.length_append] at this
        rw [r1.length, r2.length]
        exact this
  · cases m
theorem dop_sub : DOp K tb (rI0 fun i j => .int (i - j)) subD := by
  intro al G c H x y dx dy Φ Q R hx hy m q
  have vx := R.vw hx
  have vy := R.vw hy
  unfold subD at m
  split at m
  · rename_i e1 e2
    rw [e1] at vx; rw [e2] at vy
    cases vx; cases vy
    exact ⟨_, _, rfl, rfl, q _ c al G H _ R .refl (.int _) m⟩
  · cases m
theorem dop_mul {lv : Bool} : DOp K tb rMulU (mulD lv) := by
  intro al G c H x y dx dy Φ Q R hx hy m q
  have vx := R.vw hx
  have vy := R.vw hy
  unfold mulD at m
  split at m
  · rename_i e1 e2
    rw [e1] at vx; rw [e2] at vy
    cases vx; cases vy
    exact .inl ⟨_, _, rfl, rfl, m.1, q _ c al G H _ R .refl (.int _) m.2⟩
  · rename_i e1 e2
    rw [e1] at vx; rw [e2] at vy
    cases vx; cases vy
    exact .inr (.inr ⟨_, _, rfl, rfl, m.1.1, m.1.2.1, m.1.2.2, q _ c al G H _ R .refl (.str _) m.2⟩)
  · rename_i e1 e2
    rw [e1] at vx; rw [e2] at vy
    cases vx with
    | lst h1 r1 =>
      cases vy
      refine .inr (.inl ⟨_, _, _, rfl, rfl, h1, m.1.1, m.1.2, ?_, fun p hp => newL_ok R hp (r1.flatten _) m.2 q⟩)
      have h3 := m.2.1
      rw [← (r1.flatten _).length, List.length_flatten, List.map_replicate, List.sum_replicate_nat, Nat.mul_comm] at h3
      exact h3
  · cases m
theorem dop_fdiv : DOp K tb rFdivU fdivD := by
  intro al G c H x y dx dy Φ Q R hx hy m q
  have vx := R.vw hx
  have vy := R.vw hy
  unfold fdivD at m
  split at m
  · rename_i e1 e2
    rw [e1] at vx; rw [e2] at vy
    cases vx; cases vy
    exact ⟨_, _, rfl, rfl, m.1, q _ c al G H _ R .refl (.int _) m.2⟩
  · cases m
theorem dop_mod : DOp K tb rModU modD := by
  intro al G c H x y dx dy Φ Q R hx hy m q
  have vx := R.vw hx
  have vy := R.vw hy
  unfold modD at m
  split at m
  · rename_i e1 e2
    rw [e1] at vx; rw [e2] at vy
    cases vx; cases vy
    exact ⟨_, _, rfl, rfl, m.1, q _ c al G H _ R .refl (.int _) m.2⟩
  · cases m
theorem dop_pow : DOp K tb rPowU powD := by
  intro al G c H x y dx dy Φ Q R hx hy m q
  have vx := R.vw hx
  have vy := R.vw hy
  unfold powD at m
  split at m
  · rename_i e1 e2
    rw [e1] at vx; rw [e2] at vy
    cases vx; cases vy
    exact ⟨_, _, rfl, rfl, m.1, q _ c al G H _ R .refl (.int _) m.2⟩
  · cases m
theorem dun_neg : DUn K tb (rU fun i => .int (-i)) negD := by
  intro al G c H x dx Φ Q R hx m q
  unfold negD at m
  split at m
  · cases hx
    exact ⟨_, rfl, q _ c al G H _ R .refl (.int _) m⟩
  · cases m
theorem dop_lt : DOp K tb rLtU ltD := by
  intro al G c H x y dx dy Φ Q R hx hy m q
  have vx := R.vw hx
  have vy := R.vw hy
  unfold ltD at m
  split at m
  · rename_i e1 e2
    rw [e1] at vx; rw [e2] at vy
    cases vx; cases vy
    exact .inl ⟨_, _, rfl, rfl, q _ c al G H _ R .refl (.bl _) m⟩
  · rename_i e1 e2
    rw [e1] at vx; rw [e2] at vy
    cases vx; cases vy
    exact .inr ⟨_, _, rfl, rfl, q _ c al G H _ R .refl (.bl _) m⟩
  · cases m
theorem dop_le : DOp K tb rLeU leD := by
  intro al G c H x y dx dy Φ Q R hx hy m q
  have vx := R.vw hx
  have vy := R.vw hy
  unfold leD at m
  split at m
  · rename_i e1 e2
    rw [e1] at vx; rw [e2] at vy
    cases vx; cases vy
    exact .inl ⟨_, _, rfl, rfl, q _ c al G H _ R .refl (.bl _) m⟩
  · rename_i e1 e2
    rw [e1] at vx; rw [e2] at vy
    cases vx; cases vy
    exact .inr ⟨_, _, rfl, rfl, q _ c al G H _ R .refl (.bl _) m⟩
  · cases m
theorem dop_gt : DOp K tb rGtU gtD := by
  intro al G c H x y dx dy Φ Q R hx hy m q
  have vx := R.vw hx
  have vy := R.vw hy
  unfold gtD at m
  split at m
  · rename_i e1 e2
    rw [e1] at vx; rw [e2] at vy
    cases vx; cases vy
    exact .inl ⟨_, _, rfl, rfl, q _ c al G H _ R .refl (.bl _) m⟩
  · rename_i e1 e2
    rw [e1] at vx; rw [e2] at vy
    cases vx; cases vy
    exact .inr ⟨_, _, rfl, rfl, q _ c al G H _ R .refl (.bl _) m⟩
  · cases m
theorem dop_ge : DOp K tb rGeU geD := by
  intro al G c H x y dx dy Φ Q R hx hy m q
  have vx := R.vw hx
  have vy := R.vw hy
  unfold geD at m
  split at m
  · rename_i e1 e2
    rw [e1] at vx; rw [e2] at vy
    cases vx; cases vy
    exact .inl ⟨_, _, rfl, rfl, q _ c al G H _ R .refl (.bl _) m⟩
  · rename_i e1 e2
    rw [e1] at vx; rw [e2] at vy
    cases vx; cases vy
    exact .inr ⟨_, _, rfl, rfl, q _ c al G H _ R .refl (.bl _) m⟩
  · cases m
end
def nonD : D → Bool
  | .non => true
  | _ => false
def isD (x y : D) (c : SH) (Φ : QD) : Prop := match x, y with
  | .bl a, .bl b => Φ (.bl (decide (a = b))) c
  | x, .non => Φ (.bl (nonD x)) c
  | _, _ => False
def isntD (x y : D) (c : SH) (Φ : QD) : Prop := match x, y with
  | .bl a, .bl b => Φ (.bl (!decide (a = b))) c
  | x, .non => Φ (.bl (!nonD x)) c
  | _, _ => False
section
variable {K : PySem.W.Frag} {tb : List (Addr × Str)}
theorem den_non {al : List Addr} {G : Hp} {v : V} {x : D} (h : Den K al G v x) : decide (v = .non) = nonD x := by
  cases h <;> rfl
theorem dop_is : DOp K tb rIsU isD := by
  intro al G c H x y dx dy Φ Q R hx hy m q
  unfold isD at m
  split at m
  · cases hx; cases hy
    exact .inr ⟨_, _, rfl, rfl, q _ c al G H _ R .refl (.bl _) m⟩
  · cases hy
    refine .inl ⟨rfl, q _ c al G H _ R .refl ?_ m⟩
    rw [den_non hx]
    exact .bl _
  · cases m
theorem dop_isnt : DOp K tb rIsNotU isntD := by
  intro al G c H x y dx dy Φ Q R hx hy m q
  unfold isntD at m
  split at m
  · cases hx; cases hy
    exact .inr ⟨_, _, rfl, rfl, q _ c al G H _ R .refl (.bl _) m⟩
  · cases hy
    refine .inl ⟨rfl, q _ c al G H _ R .refl ?_ m⟩
    rw [den_non hx]
    exact .bl _
  · cases m
end
def ixD (x y : D) (c : SH) (Φ : QD) : Prop := match view c x, y with
  | .lst xs, .int i => match atI xs i with
    | some d => Φ d c
    | none => False
  | .scr xs, .int i => match atI xs i with
    | some d => Φ d c
    | none => False
  | .tup xs, .int i => match atI xs i with
    | some d => Φ d c
    | none => False
  | .str z, .int i => z.length ≤ sizeLine ∧ match atI z.cps.toList i with
    | some k => Φ (.str ⟨#[k]⟩) c
    | none => False
  | _, _ => False
def cutD (xs : List D) (lo hi : Option Int) : List D := (xs.drop (HT.sIx xs.length 0 lo)).take (HT.sIx xs.length xs.length hi - HT.sIx xs.length 0 lo)
def slD (lv : Bool) (x : D) (lo hi : Option Int) (c : SH) (Φ : QD) : Prop := match view c x with
  | .lst xs => newL lv (cutD xs lo hi) c Φ
  | .scr xs => newL lv (cutD xs lo hi) c Φ
  | .str z => z.length ≤ sizeLine ∧ Φ (.str (cutS z lo hi)) c
  | .tup xs => ¬ (HT.sIx xs.length 0 lo = 0 ∧ HT.sIx xs.length xs.length hi = xs.length) ∧ Φ (.tup (cutD xs lo hi)) c
  | _ => False
def lenD (xs : List D) (c : SH) (Φ : QD) : Prop := oneD xs fun x => match view c x with
  | .lst xs => Φ (.int xs.length) c
  | .scr xs => Φ (.int xs.length) c
  | .tup xs => Φ (.int xs.length) c
  | .btp xs => Φ (.int xs.length) c
  | .dic xs => Φ (.int xs.length) c
  | .str z => z.length ≤ sizeLine ∧ Φ (.int z.length) c
  | _ => False
section
variable {K : PySem.W.Frag} {tb : List (Addr × Str)}
theorem den_atI {al : List Addr} {G : Hp} {vs : List V} {xs : List D} {i : Int} {d : D} (h : DenL K al G vs xs) (e : atI xs i = some d) : ∃ v, atI vs i = some v ∧ Den K al G v d := by
  unfold atI at e ⊢
  rw [h.length]
  obtain ⟨j, h1, h2⟩ := Option.bind_eq_some_iff.mp e
  obtain ⟨v, h3, h4⟩ := h.get h2
  exact ⟨v, by rw [h1]; exact h3, h4⟩
theorem dop_ix : DOp K tb (rIx K) ixD := by
  intro al G c H x y dx dy Φ Q R hx hy m q
  have vx := R.vw hx
  unfold ixD at m
  split at m
  · rename_i e1
    rw [e1] at vx
    split at m
    · rename_i d e2
      cases hy
      cases vx with
      | lst h1 r1 =>
        obtain ⟨v, h3, h4⟩ := den_atI r1 e2
        exact .inl ⟨_, _, _, v, rfl, rfl, .of h1, h3, q d c al G H v R .refl h4 m⟩
    · cases m
  · rename_i e1
    rw [e1] at vx
    split at m
    · rename_i d e2
      cases hy
      cases vx with
      | scr h1 r1 =>
        obtain ⟨v, h3, h4⟩ := den_atI r1 e2
        exact .inl ⟨_, _, _, v, rfl, rfl, h1, h3, q d c al G H v R .refl h4 m⟩
    · cases m
  · rename_i e1
    rw [e1] at vx
    split at m
    · rename_i d e2
      cases hy
      cases vx with
      | tup h1 r1 =>
        obtain ⟨v, h3, h4⟩ := den_atI r1 e2
        exact .inr (.inl ⟨_, _, _, v, rfl, rfl, .of h1, h3, q d c al G H v R .refl h4 m⟩)
    · cases m
  · rename_i e1
    rw [e1] at vx
    obtain ⟨m0, m⟩ := m
    split at m
    · rename_i k e2
      cases hy
      cases vx
      exact .inr (.inr ⟨_, _, k, rfl, rfl, m0, e2, q _ c al G H _ R .refl (.str _) m⟩)
    · cases m
  · cases m
theorem den_cut {al : List Addr} {G : Hp} {vs : List V} {xs : List D} {lo hi : Option Int} (h : DenL K al G vs xs) : DenL K al G (cutV vs lo hi) (cutD xs lo hi) := by
  unfold cutV cutD
  rw [h.length]
  exact (h.drop _).take _
theorem dsl {lv : Bool} : ∀ al G c H x dx l u Φ Q, Rep K tb al G c H → Den K al G x dx → slD lv dx l u c Φ → Ret K tb al G c H Φ Q → rSlU K x l u H Q := by
  intro al G c H x dx l u Φ Q R hx m q
  have vx := R.vw hx
  unfold slD at m
  split at m
  · rename_i e1
    rw [e1] at vx
    cases vx with
    | lst h1 r1 => exact .inl ⟨_, _, rfl, .of h1, fun p hp => newL_ok R hp (den_cut r1) m q⟩
  · rename_i e1
    rw [e1] at vx
    cases vx with
    | scr h1 r1 => exact .inl ⟨_, _, rfl, h1, fun p hp => newL_ok R hp (den_cut r1) m q⟩
  · rename_i e1
    rw [e1] at vx
    cases vx
    exact .inr (.inl ⟨_, rfl, m.1, q _ c al G H _ R .refl (.str _) m.2⟩)
  · rename_i e1
    rw [e1] at vx
    cases vx with
    | tup h1 r1 =>
      refine .inr (.inr ⟨_, _, rfl, .of h1, by rw [r1.length]; exact m.1, fun p hp => ?_⟩)
      have hg := R.fresh hp
      exact q _ c al _ _ (.ref p) (R.data hp nofun) (Le.data hp hg nofun) (.tup upd_same ((den_cut r1).mono (fun _ _ => id) (Ex.new hg))) m.2
  · cases m
theorem oneD_of {al : List Addr} {G : Hp} {vs : List V} {xs : List D} {k : D → Prop} (m : oneD xs k) (h : DenL K al G vs xs) : ∃ x v, xs = [x] ∧ vs = [v] ∧ Den K al G v x ∧ k x := by
  unfold oneD at m
  split at m
  · cases h with
    | cons h1 h2 =>
      cases h2
      exact ⟨_, _, rfl, rfl, h1, m⟩
  · cases m
theorem twoD_of {al : List Addr} {G : Hp} {vs : List V} {xs : List D} {k : D → D → Prop} (m : twoD xs k) (h : DenL K al G vs xs) : ∃ x y v w, xs = [x, y] ∧ vs = [v, w] ∧ Den K al G v x ∧ Den K al G w y ∧ k x y := by
  unfold twoD at m
  split at m
  · cases h with
    | cons h1 h2 =>
      cases h2 with
      | cons h2 h3 =>
        cases h3
        exact ⟨_, _, _, _, rfl, rfl, h1, h2, m⟩
  · cases m
end
end M
set_option Elab.async false
set_option linter.all false
set_option maxRecDepth 100000
set_option maxHeartbeats 3900000
namespace M
open PySem PySem.Spec PyProof.Rows L2 G
def iV (K : PySem.W.Frag) (t : TE) : TI := fun σ H R => t σ H fun x H1 => itL K x H1 R ∨ itT K x H1 R ∨ itS x H1 R
theorem pi_V {X : Cx} {K : PySem.W.Frag} (hK : X.K = K) {tg e : Expr} {t : TE} (h : PE X e t) : PI X tg e (iV K t) := by
  subst hK
  constructor
  intro pins s σ H R I q
  refine thn (h.run pins s σ H _ I q) ?_
  rintro v s1 ⟨x, H1, J, r, ⟨a, rfl, ⟨xs, hq⟩, q⟩ | ⟨a, rfl, ⟨xs, hq⟩, q⟩ | ⟨z, rfl, q⟩⟩
  · cases r
    obtain ⟨its, rv, p, hz⟩ := J.list hq
    exact wpAny_pyIter_list p.isList (pi_one (tk := s1.toks) J _ (turn_list a _) ⟨_, Heap.get?_push_size _ rfl, rfl, rfl⟩ q)
  · cases r
    obtain ⟨its, rv, p, hz⟩ := J.tuple hq
    exact wpAny_pyIter_tuple (show s1.heap.IsTuple a its.toArray from p) (pi_one (tk := s1.toks) J _ (turn_tuple a _) ⟨_, Heap.get?_push_size _ rfl, rfl, rfl⟩ q)
  · obtain ⟨t, rfl⟩ := r
    by_cases ha : z.cps.all (· < 128) = true
    · exact wpAny_pyIter_ascii ha (pi_one (tk := s1.toks) J _ (turn_str _ z t _ (.inl rfl)) ⟨_, Heap.get?_push_size _ rfl, rfl, rfl⟩ q)
    · exact wpAny_pyIter_wide (by simpa using ha) (pi_one (tk := s1.toks) J _ (turn_str _ z t _ (.inr rfl)) ⟨_, Heap.get?_push_size _ rfl, rfl, rfl⟩ q)
def signsD (z : Str) : List D := z.cps.toList.map fun k => .str ⟨#[k]⟩
def itemsD : D → Option (List D)
  | .lst xs => some xs
  | .scr xs => some xs
  | .tup xs => some xs
  | .btp xs => some xs
  | .str z => some (signsD z)
  | _ => none
def itM (a : ME) : MI := fun δ c Ψ Φ => a δ c Ψ fun x c1 => match itemsD (view c1 x) with
  | some xs => Φ xs (fun c' => view c' x = view c1 x) c1
  | none => False
def rngD (lo : Int) (n : Nat) : List D := (List.range n).map fun i => .int (lo + (i : Nat))
def rng1M (a : MA) : MI := fun δ c Ψ Φ => a δ c Ψ fun xs c1 => oneD xs fun x => intD x c1 fun j c1 => (-(2 ^ 62) ≤ j ∧ j < 2 ^ 62) ∧ Φ (rngD 0 j.toNat) (fun _ => True) c1
def rng2M (a : MA) : MI := fun δ c Ψ Φ => a δ c Ψ fun xs c1 => twoD xs fun x y => intD x c1 fun i c1 => intD y c1 fun j c1 => (-(2 ^ 62) ≤ i ∧ i < 2 ^ 62 ∧ -(2 ^ 62) ≤ j ∧ j < 2 ^ 62) ∧ Φ (rngD i (j - i).toNat) (fun _ => True) c1
def enumD : Nat → List D → List D
  | _, [] => []
  | i, x :: xs => .tup [.int (i : Nat), x] :: enumD (i + 1) xs
def lstD : D → Option (List D)
  | .lst xs => some xs
  | .scr xs => some xs
  | _ => none
def enumM (a : MA) : MI := fun δ c Ψ Φ => a δ c Ψ fun xs c1 => oneD xs fun x => match lstD (view c1 x) with
  | some xs => Φ (enumD 0 xs) (fun c' => view c' x = view c1 x) c1
  | none => False
def zipD : List D → List D → List D
  | x :: xs, y :: ys => .tup [x, y] :: zipD xs ys
  | _, _ => []
def zipM (a : MA) : MI := fun δ c Ψ Φ => a δ c Ψ fun xs c1 => twoD xs fun x y => match lstD (view c1 x), lstD (view c1 y) with
  | some xs, some ys => Φ (zipD xs ys) (fun c' => view c' x = view c1 x ∧ view c' y = view c1 y) c1
  | _, _ => False
section
variable {K : PySem.W.Frag} {tb : List (Addr × Str)} {W : WX} {ta te : TE} {a : ME} {tA : TA} {mA : MA}
theorem signs_den {al : List Addr} {G : Hp} (z : Str) : DenL K al G (signsV z) (signsD z) := by
  unfold signsV signsD
  induction z.cps.toList with
  | nil => exact .nil
  | cons k r ih => exact .cons (.str _) ih
theorem range_den {al : List Addr} {G : Hp} (lo : Int) (n : Nat) : DenL K al G (rangeV lo n) (rngD lo n) := by
  unfold rangeV rngD
  induction List.range n with
  | nil => exact .nil
  | cons k r ih => exact .cons (.int _) ih
/-- what walks known values -/
theorem iter_of {J : It} {xs : List D} {gd : SH → Prop} {al : List Addr} {G : Hp} {c : SH} {H : Hp} (h : ∀ al1 G1 c1 H1, Rep K tb al1 G1 c1 H1 → Le al G c H al1 G1 c1 H1 → gd c1 → ∃ (vs : List V) (Gd : Hp → Prop), Walks J vs Gd ∧ Gd H1 ∧ DenL K al1 G1 vs xs) : Iter K tb J xs gd al G c H where
  go i x al1 G1 c1 H1 hx R l g := by
    obtain ⟨vs, Gd, wk, hg, dn⟩ := h al1 G1 c1 H1 R l g
    obtain ⟨v, h1, h2⟩ := dn.get hx
    exact wk.go i H1 v hg h1
  yl i x al1 G1 c1 H1 v H' hx R l g y := by
    obtain ⟨vs, Gd, wk, hg, dn⟩ := h al1 G1 c1 H1 R l g
    obtain ⟨u, h1, h2⟩ := dn.get hx
    obtain ⟨e, h3⟩ := wk.yl i H1 v H' hg (List.getElem?_eq_some_iff.mp h1).1 y
    rw [h1] at h3
    cases h3
    subst e
    exact ⟨G1, R, .refl, h2⟩
  st al1 G1 c1 H1 R l g := by
    obtain ⟨vs, Gd, wk, hg, dn⟩ := h al1 G1 c1 H1 R l g
    rw [← dn.length]
    exact wk.st H1 hg
theorem snd_itV (ha : SndE K tb W ta a) : SndI K tb W (iV K ta) (itM a) := by
  intro al G c H σ δ Ψ Φ R g m q
  refine ha al G c H σ δ Ψ _ _ g m fun x c1 al1 G1 H1 v r1 l1 d1 m1 => ?_
  split at m1
  · rename_i xs e
    have vx := r1.vw d1
    have key : ∀ {y : D}, view c1 x = y → ∀ al2 G2 c2 H2, Rep K tb al2 G2 c2 H2 → Le al1 G1 c1 H1 al2 G2 c2 H2 → view c2 x = view c1 x → Vw K al2 G2 H2 v y := fun e2 al2 G2 c2 H2 r2 l2 gd => by
      have := r2.vw (d1.le l2)
      rw [gd, e2] at this
      exact this
    cases e2 : view c1 x with
    | lst ys =>
      rw [e2] at e vx
      cases e
      cases vx with
      | @lst b vs _ h1 dn =>
        refine .inl ⟨_, rfl, ⟨_, .of h1⟩, q xs _ c1 al1 G1 H1 _ r1 l1 (iter_of fun al2 G2 c2 H2 r2 l2 gd => ?_) m1⟩
        have := key e2 al2 G2 c2 H2 r2 l2 gd
        cases this with
        | lst h3 d3 => exact ⟨_, _, wk_list, .of h3, d3⟩
    | scr ys =>
      rw [e2] at e vx
      cases e
      cases vx with
      | scr h1 dn =>
        refine .inl ⟨_, rfl, ⟨_, h1⟩, q xs _ c1 al1 G1 H1 _ r1 l1 (iter_of fun al2 G2 c2 H2 r2 l2 gd => ?_) m1⟩
        have := key e2 al2 G2 c2 H2 r2 l2 gd
        cases this with
        | scr h3 d3 => exact ⟨_, _, wk_list, h3, d3⟩
    | tup ys =>
      rw [e2] at e vx
      cases e
      cases vx with
      | tup h1 dn =>
        refine .inr (.inl ⟨_, rfl, ⟨_, .of h1⟩, q xs _ c1 al1 G1 H1 _ r1 l1 (iter_of fun al2 G2 c2 H2 r2 l2 gd => ?_) m1⟩)
        have := key e2 al2 G2 c2 H2 r2 l2 gd
        cases this with
        | tup h3 d3 => exact ⟨_, _, wk_tup, .of h3, d3⟩
    | btp ys =>
      rw [e2] at e vx
      cases e
      cases vx with
      | btp h1 dn =>
        refine .inr (.inl ⟨_, rfl, ⟨_, .inr h1⟩, q xs _ c1 al1 G1 H1 _ r1 l1 (iter_of fun al2 G2 c2 H2 r2 l2 gd => ?_) m1⟩)
        have := key e2 al2 G2 c2 H2 r2 l2 gd
        cases this with
        | btp h3 d3 => exact ⟨_, _, wk_tup, .inr h3, d3⟩
    | str z =>
      rw [e2] at e vx
      cases e
      cases vx
      exact .inr (.inr ⟨_, rfl, q (signsD z) _ c1 al1 G1 H1 _ r1 l1 (iter_of fun al2 G2 c2 H2 r2 l2 gd => ⟨_, _, wk_str, trivial, signs_den z⟩) m1⟩)
    | _ => rw [e2] at e; cases e
  · cases m1
theorem intD_of {al : List Addr} {G : Hp} {x : D} {v : V} {c : SH} {Φ : Int → SH → Prop} (m : intD x c Φ) (h : Den K al G v x) : ∃ i, x = .int i ∧ v = .int i ∧ Φ i c := by
  unfold intD at m
  split at m
  · cases h
    exact ⟨_, rfl, rfl, m⟩
  · cases m
theorem snd_rng1 (hA : SndA K tb W tA mA) : SndI K tb W (iRng1 tA) (rng1M mA) := by
  intro al G c H σ δ Ψ Φ R g m q
  refine hA al G c H σ δ Ψ _ _ g m fun xs c1 al1 G1 H1 vs r1 l1 d1 m1 => ?_
  obtain ⟨x, v, rfl, rfl, dx, m2⟩ := oneD_of m1 d1
  obtain ⟨j, rfl, rfl, ⟨h1, h2⟩, m3⟩ := intD_of m2 dx
  exact ⟨j, rfl, h1, h2, q _ _ c1 al1 G1 H1 _ r1 l1 (iter_of fun al2 G2 c2 H2 r2 l2 gd => ⟨_, _, wk_range, trivial, range_den _ _⟩) m3⟩
theorem snd_rng2 (hA : SndA K tb W tA mA) : SndI K tb W (iRng2 tA) (rng2M mA) := by
  intro al G c H σ δ Ψ Φ R g m q
  refine hA al G c H σ δ Ψ _ _ g m fun xs c1 al1 G1 H1 vs r1 l1 d1 m1 => ?_
  obtain ⟨x, y, v, w, rfl, rfl, dx, dy, m2⟩ := twoD_of m1 d1
  obtain ⟨i, rfl, rfl, m3⟩ := intD_of m2 dx
  obtain ⟨j, rfl, rfl, hb, m4⟩ := intD_of m3 dy
  exact ⟨i, j, rfl, hb, q _ _ c1 al1 G1 H1 _ r1 l1 (iter_of fun al2 G2 c2 H2 r2 l2 gd => ⟨_, _, wk_range, trivial, range_den _ _⟩) m4⟩
theorem lst_vw {al : List Addr} {G H : Hp} {v : V} {y : D} {xs : List D} (e : lstD y = some xs) (h : Vw K al G H v y) : ∃ b vs, v = .ref b ∧ SqL K H b vs ∧ DenL K al G vs xs := by
  cases h with
  | lst h d => cases e; exact ⟨_, _, rfl, .of h, d⟩
  | scr h d => cases e; exact ⟨_, _, rfl, h, d⟩
  | _ => cases e
theorem enum_get : ∀ (xs : List D) (i j : Nat) (x : D), (enumD j xs)[i]? = some x → ∃ y, xs[i]? = some y ∧ x = .tup [.int ((j + i : Nat) : Int), y]
  | [], i, j, x, h => by simp [enumD] at h
  | y :: ys, 0, j, x, h => by simp [enumD] at h; exact ⟨y, rfl, h.symm⟩
  | y :: ys, i + 1, j, x, h => by
    rw [enumD, List.getElem?_cons_succ] at h
    obtain ⟨z, h1, h2⟩ := enum_get ys i (j + 1) x h
    refine ⟨z, by rw [List.getElem?_cons_succ]; exact h1, ?_⟩
    rw [h2, show j + 1 + i = j + (i + 1) by omega]
theorem enum_len : ∀ (xs : List D) (j : Nat), (enumD j xs).length = xs.length
  | [], _ => rfl
  | _ :: ys, j => by rw [enumD, List.length_cons, List.length_cons, enum_len ys]
/-- a new pair -/
theorem pair_new {al : List Addr} {G : Hp} {c : SH} {H : Hp} {T : Addr} {vs : List V} {ds : List D} (R : Rep K tb al G c H) (hT : H T = none) (dn : DenL K al G vs ds) : Rep K tb al (upd G T (.tup vs)) c (upd H T (.tup vs)) ∧ Le al G c H al (upd G T (.tup vs)) c (upd H T (.tup vs)) ∧ Den K al (upd G T (.tup vs)) (.ref T) (.tup ds) :=
  ⟨R.data hT nofun, Le.data hT (R.fresh hT) nofun, .tup upd_same (dn.mono (fun _ _ => id) (Ex.new (R.fresh hT)))⟩
theorem snd_enum (hA : SndA K tb W tA mA) : SndI K tb W (iEnum K tA) (enumM mA) := by
  intro al G c H σ δ Ψ Φ R g m q
  refine hA al G c H σ δ Ψ _ _ g m fun xs c1 al1 G1 H1 vs r1 l1 d1 m1 => ?_
  obtain ⟨x, v, rfl, rfl, dx, m2⟩ := oneD_of m1 d1
  split at m2
  · rename_i ys e
    obtain ⟨b, us, rfl, hq, dn⟩ := lst_vw e (r1.vw dx)
    have key : ∀ al2 G2 c2 H2, Rep K tb al2 G2 c2 H2 → Le al1 G1 c1 H1 al2 G2 c2 H2 → view c2 x = view c1 x → ∃ ws, SqL K H2 b ws ∧ DenL K al2 G2 ws ys := fun al2 G2 c2 H2 r2 l2 gd => by
      have h := r2.vw (dx.le l2)
      rw [gd] at h
      obtain ⟨b2, ws, e2, h3, h4⟩ := lst_vw e h
      cases e2
      exact ⟨ws, h3, h4⟩
    refine ⟨b, us, rfl, hq, q _ _ c1 al1 G1 H1 _ r1 l1 ⟨fun i y al2 G2 c2 H2 hy r2 l2 gd => ?_, fun i y al2 G2 c2 H2 u H' hy r2 l2 gd yl => ?_, fun al2 G2 c2 H2 r2 l2 gd => ?_⟩ m2⟩
    · obtain ⟨z, h1, _⟩ := enum_get ys i 0 y hy
      obtain ⟨ws, h3, h4⟩ := key al2 G2 c2 H2 r2 l2 gd
      obtain ⟨w, h5, _⟩ := h4.get h1
      exact ⟨ws, w, h3, h5⟩
    · obtain ⟨z, h1, rfl⟩ := enum_get ys i 0 y hy
      obtain ⟨ws, h3, h4⟩ := key al2 G2 c2 H2 r2 l2 gd
      obtain ⟨w, h5, h6⟩ := h4.get h1
      obtain ⟨T, w2, rfl, hT, rfl, hw⟩ := yl
      rw [hw ws h3] at h5
      cases h5
      obtain ⟨p1, p2, p3⟩ := pair_new (vs := [.int (i : Nat), w]) (ds := [.int ((0 + i : Nat) : Int), z]) r2 hT (.cons (by rw [Nat.zero_add]; exact .int _) (.cons h6 .nil))
      exact ⟨_, p1, p2, p3⟩
    · obtain ⟨ws, h3, h4⟩ := key al2 G2 c2 H2 r2 l2 gd
      exact ⟨ws, h3, by rw [enum_len, h4.length]; exact Nat.le_refl _⟩
  · cases m2
theorem zip_get : ∀ (xs ys : List D) (i : Nat) (x : D), (zipD xs ys)[i]? = some x → ∃ y z, xs[i]? = some y ∧ ys[i]? = some z ∧ x = .tup [y, z]
  | [], _, i, x, h => by simp [zipD] at h
  | _ :: _, [], i, x, h => by simp [zipD] at h
  | y :: ys, z :: zs, 0, x, h => by simp [zipD] at h; exact ⟨y, z, rfl, rfl, h.symm⟩
  | y :: ys, z :: zs, i + 1, x, h => by
    rw [zipD, List.getElem?_cons_succ] at h
    obtain ⟨a, b, h1, h2, h3⟩ := zip_get ys zs i x h
    exact ⟨a, b, by rw [List.getElem?_cons_succ]; exact h1, by rw [List.getElem?_cons_succ]; exact h2, h3⟩
theorem zip_len : ∀ (xs ys : List D), xs.length ≤ (zipD xs ys).length ∨ ys.length ≤ (zipD xs ys).length
  | [], _ => .inl (Nat.zero_le _)
  | _ :: _, [] => .inr (Nat.zero_le _)
  | _ :: xs, _ :: ys => by
    rw [zipD, List.length_cons, List.length_cons, List.length_cons]
    rcases zip_len xs ys with h | h
    · exact .inl (Nat.succ_le_succ h)
    · exact .inr (Nat.succ_le_succ h)
theorem snd_zip (hA : SndA K tb W tA mA) : SndI K tb W (iZip K tA) (zipM mA) := by
  intro al G c H σ δ Ψ Φ R g m q
  refine hA al G c H σ δ Ψ _ _ g m fun xs c1 al1 G1 H1 vs r1 l1 d1 m1 => ?_
  obtain ⟨x, y, v, w, rfl, rfl, dx, dy, m2⟩ := twoD_of m1 d1
  split at m2
  · rename_i xs ys ex ey
    obtain ⟨b1, us, rfl, hq1, dn1⟩ := lst_vw ex (r1.vw dx)
    obtain ⟨b2, ws, rfl, hq2, dn2⟩ := lst_vw ey (r1.vw dy)
    have key : ∀ {b : Addr} {x : D} {xs : List D}, lstD (view c1 x) = some xs → Den K al1 G1 (.ref b) x → ∀ al2 G2 c2 H2, Rep K tb al2 G2 c2 H2 → Le al1 G1 c1 H1 al2 G2 c2 H2 → view c2 x = view c1 x → ∃ ws, SqL K H2 b ws ∧ DenL K al2 G2 ws xs := fun e dx al2 G2 c2 H2 r2 l2 gd => by
      have h := r2.vw (dx.le l2)
      rw [gd] at h
      obtain ⟨b2, ws, e2, h3, h4⟩ := lst_vw e h
      cases e2
      exact ⟨ws, h3, h4⟩
    refine ⟨b1, b2, us, ws, rfl, hq1, hq2, q _ _ c1 al1 G1 H1 _ r1 l1 ⟨fun i y al2 G2 c2 H2 hy r2 l2 gd => ?_, fun i y al2 G2 c2 H2 u H' hy r2 l2 gd yl => ?_, fun al2 G2 c2 H2 r2 l2 gd => ?_⟩ m2⟩
    · obtain ⟨z1, z2, h1, h2, _⟩ := zip_get xs ys i y hy
      obtain ⟨w1, h3, h4⟩ := key ex dx al2 G2 c2 H2 r2 l2 gd.1
      obtain ⟨w2, h5, h6⟩ := key ey dy al2 G2 c2 H2 r2 l2 gd.2
      obtain ⟨p1, h7, _⟩ := h4.get h1
      obtain ⟨p2, h8, _⟩ := h6.get h2
      exact ⟨w1, w2, p1, p2, h3, h5, h7, h8⟩
    · obtain ⟨z1, z2, h1, h2, rfl⟩ := zip_get xs ys i y hy
      obtain ⟨w1, h3, h4⟩ := key ex dx al2 G2 c2 H2 r2 l2 gd.1
      obtain ⟨w2, h5, h6⟩ := key ey dy al2 G2 c2 H2 r2 l2 gd.2
      obtain ⟨p1, h7, h7'⟩ := h4.get h1
      obtain ⟨p2, h8, h8'⟩ := h6.get h2
      obtain ⟨T, x2, y2, rfl, hT, rfl, hw1, hw2⟩ := yl
      rw [hw1 w1 h3] at h7
      rw [hw2 w2 h5] at h8
      cases h7
      cases h8
      obtain ⟨p1, p2, p3⟩ := pair_new (vs := [_, _]) (ds := [z1, z2]) r2 hT (.cons h7' (.cons h8' .nil))
      exact ⟨_, p1, p2, p3⟩
    · obtain ⟨w1, h3, h4⟩ := key ex dx al2 G2 c2 H2 r2 l2 gd.1
      obtain ⟨w2, h5, h6⟩ := key ey dy al2 G2 c2 H2 r2 l2 gd.2
      exact ⟨w1, w2, h3, h5, by rw [h4.length, h6.length]; exact zip_len xs ys⟩
  · cases m2
end
def noX : XD := fun _ _ _ _ => False
def W0 : WX := fun _ _ _ _ => False
theorem thr0 {K : PySem.W.Frag} {tb : List (Addr × Str)} {al : List Addr} {G : Hp} {c : SH} {H : Hp} {E : XK} : Thr K tb al G c H noX E := fun _ _ _ _ _ _ _ _ _ _ _ _ _ _ z => z.elim
def wipeD (δ : Env) : List Nat → Env
  | [] => δ
  | v :: vs => (wipeD δ vs).set v none
theorem SRel.wipe {K : PySem.W.Frag} {al : List Addr} {G : Hp} {σ : L2.St} {δ : Env} (h : SRel K al G σ δ) : ∀ vs : List Nat, SRel K al G (wipe σ vs) (wipeD δ vs)
  | [] => h
  | _ :: vs => (h.wipe vs).wipe1
theorem wipe_get (σ : L2.St) (i : Nat) : ∀ vs : List Nat, (wipe σ vs)[i]? = if i ∈ vs then (σ[i]?).map (fun _ => none) else σ[i]?
  | [] => by simp [wipe]
  | v :: vs => by
    rw [wipe, List.getElem?_set]
    by_cases e : v = i
    · subst e
      rw [if_pos rfl, wipe_length, if_pos List.mem_cons_self]
      by_cases h : v < σ.length
      · rw [if_pos h, List.getElem?_eq_getElem h]; rfl
      · rw [if_neg h, List.getElem?_eq_none (by omega)]; rfl
    · rw [if_neg e, wipe_get σ i vs]
      have : (i ∈ v :: vs) ↔ i ∈ vs := by
        rw [List.mem_cons]
        exact ⟨fun h => h.resolve_left fun z => e z.symm, .inr⟩
      simp only [this]
theorem wipe_set {i : Nat} {vs : List Nat} {o : Option V} (σ : L2.St) (h : i ∈ vs) : wipe (σ.set i o) vs = wipe σ vs := by
  apply List.ext_getElem?
  intro j
  rw [wipe_get, wipe_get]
  by_cases hj : j ∈ vs
  · rw [if_pos hj, if_pos hj, List.getElem?_set]
    by_cases e : i = j
    · subst e
      by_cases hl : i < σ.length
      · rw [if_pos rfl, if_pos hl, List.getElem?_eq_getElem hl]; rfl
      · rw [if_pos rfl, if_neg hl, List.getElem?_eq_none (by omega)]
    · rw [if_neg e]
  · rw [if_neg hj, if_neg hj, List.getElem?_set, if_neg fun e => hj (by rw [← e]; exact h)]
theorem wipe_wipe (σ : L2.St) (vs : List Nat) : wipe (wipe σ vs) vs = wipe σ vs := by
  apply List.ext_getElem?
  intro j
  rw [wipe_get, wipe_get]
  by_cases hj : j ∈ vs
  · rw [if_pos hj, if_pos hj]
    cases σ[j]? <;> rfl
  · rw [if_neg hj, if_neg hj]
section
variable (K : PySem.W.Frag) (tb : List (Addr × Str)) (W : WX) (vs : List Nat)
/-- a target that stores within vs alone -/
def SndGO (g : TG) (m : MG) : Prop := ∀ al G c H σ δ Ψ v x N R, Go K tb al G c H W σ δ Ψ → Den K al G v x → m x δ c Ψ N → (∀ (δ' : Env) (c' : SH) (al' : List Addr) (G' H' : Hp) (σ' : L2.St), Rep K tb al' G' c' H' → Le al G c H al' G' c' H' → SRel K al' G' σ' δ' → wipe σ' vs = wipe σ vs → N δ' c' → R σ' H') → g v σ H R
def SndGOs (g : TGs) (m : MGs) : Prop := ∀ al G c H σ δ v x N R, Rep K tb al G c H → SRel K al G σ δ → DenL K al G v x → m x δ c noX N → (∀ (δ' : Env) (c' : SH) (al' : List Addr) (G' H' : Hp) (σ' : L2.St), Rep K tb al' G' c' H' → Le al G c H al' G' c' H' → SRel K al' G' σ' δ' → wipe σ' vs = wipe σ vs → N δ' c' → R σ' H') → g v σ H R
end
/-- the targets of a pair, names alone -/
def gnilM : MGs := fun xs δ c _ N => xs = [] ∧ N δ c
def gconsM (i : Nat) (g : MGs) : MGs := fun xs δ c Ψ N => match xs with
  | x :: r => g r (δ.set i (some x)) c Ψ N
  | [] => False
def gtupM (g : MGs) : MG := fun x δ c _ N => match view c x with
  | .tup xs => g xs δ c noX N
  | _ => False
section
variable {K : PySem.W.Frag} {tb : List (Addr × Str)} {W : WX} {vs : List Nat}
theorem sgo_name {i : Nat} (h : i ∈ vs) : SndGO K tb W vs (gName i) (gnameM i) := fun al G c H σ δ Ψ v x N R g d m q => q _ c al G H _ g.rep .refl (g.set d) (wipe_set σ h) m
theorem sgo_nil : SndGOs K tb vs gNil gnilM := fun al G c H σ δ v x N R r s d m q => by
  obtain ⟨rfl, m⟩ := m
  cases d
  exact ⟨rfl, q δ c al G H σ r .refl s rfl m⟩
theorem sgo_cons {i : Nat} {g : TGs} {mg : MGs} (h : i ∈ vs) (hg : SndGOs K tb vs g mg) : SndGOs K tb vs (gCons (gName i) g) (gconsM i mg) := by
  intro al G c H σ δ v x N R r s d m q
  cases d with
  | nil => cases m
  | cons d1 d2 =>
    refine ⟨_, _, rfl, ?_⟩
    exact hg al G c H _ _ _ _ N R r (s.set d1) d2 m fun δ' c' al' G' H' σ' r' l' s' w' n' => q δ' c' al' G' H' σ' r' l' s' (w'.trans (wipe_set σ h)) n'
theorem sgo_tup {n : Nat} {g : TGs} {mg : MGs} (hn : ∀ xs δ c Ψ N, mg xs δ c Ψ N → xs.length = n) (hg : SndGOs K tb vs g mg) : SndGO K tb W vs (gTup K n g) (gtupM mg) := by
  intro al G c H σ δ Ψ v x N R go d m q
  have vx := go.rep.vw d
  unfold gtupM at m
  split at m
  · rename_i xs e
    rw [e] at vx
    cases vx with
    | tup h1 dn => exact ⟨_, _, rfl, .of h1, by rw [dn.length]; exact hn _ _ _ _ _ m, hg al G c H σ δ _ _ N R go.rep go.env dn m q⟩
  · cases m
theorem glen_nil : ∀ xs δ c Ψ N, gnilM xs δ c Ψ N → xs.length = 0 := fun xs δ c Ψ N h => by rw [h.1]; rfl
theorem glen_cons {n i : Nat} {mg : MGs} (h : ∀ xs δ c Ψ N, mg xs δ c Ψ N → xs.length = n) : ∀ xs δ c Ψ N, gconsM i mg xs δ c Ψ N → xs.length = n + 1 := fun xs δ c Ψ N m => by
  unfold gconsM at m
  split at m
  · rw [List.length_cons, h _ _ _ _ _ m]
  · cases m
/-- as a target of an assignment or a for -/
theorem SndGO.g {g : TG} {m : MG} (h : SndGO K tb W vs g m) : SndG K tb W g m := fun al G c H σ δ Ψ v x N R go d mm q => h al G c H σ δ Ψ v x N R go d mm fun δ' c' al' G' H' σ' r' l' s' _ n' => q δ' c' al' G' H' σ' r' l' s' n'
end
/-- the turns of a comprehension: what is put to the list -/
def lcD (gd : SH → Prop) (turn : D → SH → (Option D → SH → Prop) → Prop) : List D → List D → SH → (List D → SH → Prop) → Prop
  | [], acc, c, Φ => gd c ∧ Φ acc c
  | x :: xs, acc, c, Φ => gd c ∧ turn x c fun o c1 => acc.length < sizeLine ∧ lcD gd turn xs (acc ++ o.toList) c1 Φ
def turnD (g : MG) (t : MT) (e : ME) (δ : Env) : D → SH → (Option D → SH → Prop) → Prop := fun x c k => g x δ c noX fun δ2 c2 => t δ2 c2 noX fun b c3 => if b = true then e δ2 c3 noX fun y c4 => k (some y) c4 else k none c3
/-- what becomes of the list: data, or an object that may change -/
def endL (lv : Bool) (Φ : QD) (xs : List D) (c : SH) : Prop := if lv = true then Φ (.obj c.length) (c ++ [.lst xs]) else Φ (.lst xs) c
def lcM (lv : Bool) (i : MI) (g : MG) (t : MT) (e : ME) (vs : List Nat) : ME := fun δ c Ψ Φ => i δ c Ψ fun xs gd c1 => lcD gd (turnD g t e (wipeD δ vs)) xs [] c1 (endL lv Φ)
section
variable {K : PySem.W.Frag} {tb : List (Addr × Str)} {W : WX} {al al' : List Addr} {G G' : Hp} {c c' : SH} {H H' : Hp}
/-- a thing that is no data and no object changes -/
theorem Rep.foreign (R : Rep K tb al G c H) {a : Addr} {u o : HO} (hu : H a = some u) (n1 : ∀ ps, u ≠ .tbl ps) (n2 : ∀ φ, u ≠ .ext φ) (hg : G a = none) (hl : ¬ Liv al c a) (hf : ∀ k : Nat, al[k]? ≠ some a) : Rep K tb al G c (upd H a o) where
  len := R.len
  sub b w h := by
    rw [upd_ne (fun z => by rw [z, hg] at h; cases h)]
    exact R.sub b w h
  ent k b s h1 h2 := Ent.ext (R.ent k b s h1 h2) (fun _ _ => id) (Ex.refl _) fun w hw => by
    rw [upd_ne (fun z => hf k (by rw [← z]; exact h1))]
    exact hw
  out := R.out
  inj := R.inj
  tak k b h := by
    rw [upd_ne (fun z => hf k (by rw [← z]; exact h))]
    exact R.tak k b h
  gt := R.gt
  tab := tabs_upd R.tab hu n1 n2
/-- what is apart at a state stays apart -/
structure Apart (al : List Addr) (G : Hp) (c : SH) (a : Addr) : Prop where
  g : G a = none
  k : ∀ k : Nat, al[k]? ≠ some a
theorem Apart.liv {a : Addr} (h : Apart al G c a) : ¬ Liv al c a := fun ⟨k, _, h1, _⟩ => h.k k h1
theorem Apart.le {a : Addr} {u : HO} (h : Apart al G c a) (hu : H a = some u) (n1 : ∀ ps, u ≠ .tbl ps) (l : Le al G c H al' G' c' H') : Apart al' G' c' a ∧ H' a = some u := by
  have nf : ¬ Fr H a := fun z => by obtain ⟨ps, e⟩ := z u hu; exact n1 ps e
  refine ⟨⟨?_, fun k hk => ?_⟩, l.fr a u hu h.liv n1⟩
  · cases e : G' a with
    | none => rfl
    | some o =>
      rcases l.gn a o e with ⟨w, z⟩ | z | z
      · rw [h.g] at z; cases z
      · exact absurd z nf
      · exact absurd z h.liv
  · rcases l.nd k a hk with ⟨j, z⟩ | z
    · exact h.k j z
    · exact nf z
theorem Apart.new (R : Rep K tb al G c H) {a : Addr} (h : H a = none) : Apart al G c a := ⟨R.fresh h, fun k hk => by obtain ⟨u, hu, _⟩ := R.tak k a hk; rw [h] at hu; cases hu⟩
theorem Le.foreign (l : Le al G c H al' G' c' H') {a : Addr} {o : HO} (h : Fr H a) (ho : ∀ ps, o ≠ .tbl ps) : Le al G c H al' G' c' (upd H' a o) where
  ad := l.ad
  g := l.g
  fr b u hb n t := by
    rw [upd_ne (fun z => by rw [z] at hb; obtain ⟨ps, e⟩ := h u hb; exact t ps e)]
    exact l.fr b u hb n t
  nl := l.nl
  dom b hb := by
    by_cases e : b = a
    · rw [e]; exact h
    · exact l.dom b fun u hu => hb u (by rw [upd_ne e]; exact hu)
  gn := l.gn
  nd := l.nd
/-- a thing apart becomes an object -/
theorem Rep.own (R : Rep K tb al G c H) {a : Addr} {u : HO} {o : SO} (ap : Apart al G c a) (hu : H a = some u) (nt : ∀ ps, u ≠ .tbl ps) (he : Ent K (al ++ [a]) G H a o) (hl : o.live = true) : Rep K tb (al ++ [a]) G (c ++ [o]) H ∧ True ∧ (al ++ [a])[c.length]? = some a := by
  refine ⟨{ len := by rw [List.length_append, List.length_append, R.len]; rfl, sub := R.sub, ent := fun k b s h1 h3 => ?_, out := fun k b s h1 h3 h4 => ?_, inj := fun i j b s h1 h3 h4 h5 => ?_, tak := fun k b h => ?_, gt := R.gt, tab := R.tab }, trivial, ?_⟩
  · rcases get_app h1 with g1 | ⟨e1, e2⟩
    · rcases get_app h3 with g2 | ⟨e3, e4⟩
      · exact Ent.ext (R.ent k b s g1 g2) (fun _ _ => app_get) (Ex.refl _) fun w hw => hw
      · have := R.den_some g1
        omega
    · rcases get_app h3 with g2 | ⟨e3, e4⟩
      · have := (List.getElem?_eq_some_iff.mp g2).1
        have := R.len
        omega
      · subst e2 e4
        exact he
  · rcases get_app h1 with g1 | ⟨e1, e2⟩
    · rcases get_app h3 with g2 | ⟨e3, e4⟩
      · exact R.out k b s g1 g2 h4
      · have := R.den_some g1
        omega
    · rw [e2]
      exact ap.g
  · rcases get_app h1 with g1 | ⟨e1, e2⟩
    · rcases get_app h3 with g2 | ⟨e3, e4⟩
      · rcases get_app h4 with g3 | ⟨e5, e6⟩
        · exact R.inj i j b s g1 g2 g3 h5
        · have := R.den_some g1
          omega
      · rw [e4] at g1
        exact absurd g1 (ap.k i)
    · rcases get_app h3 with g2 | ⟨e3, e4⟩
      · rw [e2] at g2
        exact absurd g2 (ap.k j)
      · omega
  · rcases get_app h with g | ⟨_, e⟩
    · exact R.tak k b g
    · rw [e]; exact ⟨_, hu, nt⟩
  · rw [← R.len, List.getElem?_append_right (Nat.le_refl _), Nat.sub_self]
    rfl
theorem Le.own (l : Le al G c H al' G' c' H') (R : Rep K tb al' G' c' H') {a : Addr} {o : SO} (hf : Fr H a) : Le al G c H (al' ++ [a]) G' (c' ++ [o]) H' := {
  l with
  ad := fun k b h => app_get (l.ad k b h)
  nl := fun b h => by
    obtain ⟨k, s, h1, h3, h4⟩ := h
    rcases get_app h1 with g1 | ⟨e1, e2⟩
    · rcases get_app h3 with g2 | ⟨e3, e4⟩
      · exact l.nl b ⟨k, s, g1, g2, h4⟩
      · have := R.den_some g1
        omega
    · rw [e2]; exact .inr hf
  nd := fun k b h => by
    rcases get_app h with g | ⟨_, e⟩
    · exact l.nd k b g
    · rw [e]; exact .inr hf }
theorem snd_lc {lv : Bool} {wi : TI} {mi : MI} {g : TG} {mg : MG} {tt : TT} {mt : MT} {te : TE} {me : ME} {vs : List Nat} (hi : SndI K tb W wi mi) (hg : SndGO K tb W0 vs g mg) (ht : SndT K tb W0 tt mt) (he : SndE K tb W0 te me) : SndE K tb W (tLc wi g tt te vs) (lcM lv mi mg mt me vs) := by
  intro al G c H σ δ Ψ Φ Q go m q
  refine w_lc (hi al G c H σ δ Ψ _ _ go m fun xs gd c1 al1 G1 H1 J r1 l1 it m1 => ?_)
  intro D hD
  have e1 : SRel K al1 G1 σ δ := go.env.le l1
  refine ⟨fun i n H2 => n = xs.length - i ∧ i ≤ xs.length ∧ ∃ al2 G2 c2 acc avs, Rep K tb al2 G2 c2 H2 ∧ Le al1 G1 c1 H1 al2 G2 c2 H2 ∧ Apart al2 G2 c2 D ∧ H2 D = some (.lst avs) ∧ DenL K al2 G2 avs acc ∧ lcD gd (turnD mg mt me (wipeD δ vs)) (xs.drop i) acc c2 (endL lv Φ), ⟨_, rfl, Nat.zero_le _, al1, G1, c1, [], [], r1.grow (Ex.new hD), Le.grow (Ex.new hD), Apart.new r1 hD, upd_same, .nil, m1⟩, ?_⟩
  rintro i n H2 ⟨rfl, hle, al2, G2, c2, acc, avs, r2, l2, ap2, h2, d2, m2⟩
  by_cases hlt : i < xs.length
  · rw [drop_get hlt] at m2
    obtain ⟨hgd, m2⟩ := m2
    have hx : xs[i]? = some xs[i] := List.getElem?_eq_getElem hlt
    refine .inr ⟨it.go i _ al2 G2 c2 H2 hx r2 l2 hgd, fun H3 => ∃ al3 G3 c3 acc3 avs3, Rep K tb al3 G3 c3 H3 ∧ Le al1 G1 c1 H1 al3 G3 c3 H3 ∧ Apart al3 G3 c3 D ∧ H3 D = some (.lst avs3) ∧ DenL K al3 G3 avs3 acc3 ∧ lcD gd (turnD mg mt me (wipeD δ vs)) (xs.drop (i + 1)) acc3 c3 (endL lv Φ), ?_, ?_⟩
    · rintro H3 ⟨al3, G3, c3, acc3, avs3, r3⟩
      exact ⟨xs.length - (i + 1), by omega, rfl, hlt, al3, G3, c3, acc3, avs3, r3⟩
    · intro v H' y
      obtain ⟨G', r', l', d'⟩ := it.yl i _ al2 G2 c2 H2 v H' hx r2 l2 hgd y
      obtain ⟨ap', h'⟩ := ap2.le h2 nofun l'
      have go' : Go K tb al2 G' c2 H' W0 (wipe σ vs) (wipeD δ vs) noX := ⟨r', ((e1.le l2).le l').wipe vs, thr0⟩
      refine hg al2 G' c2 H' _ _ noX v _ _ _ go' d' m2 fun δ3 c3 al3 G3 H3 σ3 r3 l3 s3 w3 m3 => ?_
      rw [wipe_wipe] at w3
      refine ⟨w3, ?_⟩
      have go3 : Go K tb al3 G3 c3 H3 W0 σ3 δ3 noX := ⟨r3, s3, thr0⟩
      refine ht al3 G3 c3 H3 σ3 δ3 noX _ _ go3 m3 fun b c4 al4 G4 H4 r4 l4 m4 => ?_
      have l24 := (l'.trans l3).trans l4
      cases b with
      | false =>
        obtain ⟨ap4, h4⟩ := ap2.le h2 nofun l24
        refine iteF ⟨al4, G4, c4, acc, avs, r4, l2.trans l24, ap4, h4, d2.le l24, ?_⟩
        have := m4.2
        rwa [Option.toList_none, List.append_nil] at this
      | true =>
        refine iteT (he al4 G4 c4 H4 σ3 δ3 noX _ _ (go3.le r4 l4) m4 fun y c5 al5 G5 H5 w r5 l5 d5 m5 => ?_)
        have l25 := l24.trans l5
        obtain ⟨ap5, h5⟩ := ap2.le h2 nofun l25
        have hl := m5.1
        refine ⟨avs, h5, by rw [d2.length]; exact hl, al5, G5, c5, acc ++ [y], avs ++ [w], r5.foreign h5 nofun nofun ap5.g ap5.liv ap5.k, (l2.trans l25).foreign (.of hD) nofun, ap5, upd_same, (d2.le l25).append (.cons d5 .nil), m5.2⟩
  · have hi2 : i = xs.length := by omega
    subst hi2
    rw [List.drop_length] at m2
    obtain ⟨hgd, m2⟩ := m2
    refine .inl ⟨it.st al2 G2 c2 H2 r2 l2 hgd, ?_⟩
    unfold endL at m2
    cases lv with
    | false =>
      rw [if_neg (by decide)] at m2
      obtain ⟨r3, ex⟩ := r2.adopt h2 ap2.liv nofun
      exact q (.lst acc) c2 al2 _ H2 (.ref D) r3 (l1.trans (l2.adopt h2 ex (.of hD))) (.lst upd_same (d2.mono (fun _ _ => id) ex)) m2
    | true =>
      rw [if_pos rfl] at m2
      obtain ⟨r3, _, k3⟩ := r2.own ap2 h2 nofun (o := .lst acc) ⟨avs, h2, d2.mono (fun _ _ => app_get) (Ex.refl _)⟩ rfl
      exact q (.obj c2.length) _ _ G2 H2 (.ref D) r3 (l1.trans (l2.own r2 (.of hD))) (.obj k3) m2
end
end M
set_option Elab.async false
set_option linter.all false
set_option maxRecDepth 100000
set_option maxHeartbeats 3900000
namespace M
open PySem PySem.Spec PyProof.Rows L2 G
mutual
def pyW (ob : Nat → Option PyData) : D → Option PyData
  | .non => some .none
  | .bl b => some (.bool b)
  | .int i => some (.int i)
  | .str z => some (.str z)
  | .lst xs => (pyWL ob xs).map .list
  | .scr xs => (pyWL ob xs).map .list
  | .tup xs => (pyWL ob xs).map .tuple
  | .obj k => ob k
  | _ => none
def pyWL (ob : Nat → Option PyData) : List D → Option (List PyData)
  | [] => some []
  | x :: xs => match pyW ob x, pyWL ob xs with
    | some p, some ps => some (p :: ps)
    | _, _ => none
end
def pyO (c : SH) (k : Nat) : Option PyData := match c[k]? with
  | some (.lst xs) => (pyWL (fun _ => none) xs).map .list
  | some (.frz d) => pyW (fun _ => none) d
  | _ => none
abbrev pyC (c : SH) : D → Option PyData := pyW (pyO c)
section
variable {K : PySem.W.Frag} {al : List Addr} {G H : Hp} {ob : Nat → Option PyData}
mutual
theorem den_py (ex : Ex G H) (ho : ∀ (k : Nat) (a : Addr) (p : PyData), al[k]? = some a → ob k = some p → Dp K H (.ref a) p) : ∀ {v : V} {d : D} {p : PyData}, Den K al G v d → pyW ob d = some p → Dp K H v p
  | _, _, _, .non, e => by simp only [pyW] at e; cases e; exact .non
  | _, _, _, .bl b, e => by simp only [pyW] at e; cases e; exact .bl b
  | _, _, _, .int b, e => by simp only [pyW] at e; cases e; exact .int b
  | _, _, _, .str b, e => by simp only [pyW] at e; cases e; exact .str b
  | _, _, _, .ty b, e => by simp only [pyW] at e; cases e
  | _, _, _, .adr b, e => by simp only [pyW] at e; cases e
  | _, _, _, .lst h r, e => by
    simp only [pyW] at e
    obtain ⟨ps, h1, rfl⟩ := Option.map_eq_some_iff.mp e
    exact .lst (.of (ex _ _ h)) (den_pyL ex ho r h1)
  | _, _, _, .scr h r, e => by
    simp only [pyW] at e
    obtain ⟨ps, h1, rfl⟩ := Option.map_eq_some_iff.mp e
    exact .lst (ex.l h) (den_pyL ex ho r h1)
  | _, _, _, .tup h r, e => by
    simp only [pyW] at e
    obtain ⟨ps, h1, rfl⟩ := Option.map_eq_some_iff.mp e
    exact .tup (.of (ex _ _ h)) (den_pyL ex ho r h1)
  | _, _, _, .exc h h2 h3 r, e => by simp only [pyW] at e; cases e
  | _, _, _, .dic h r, e => by simp only [pyW] at e; cases e
  | _, _, _, .ins h r, e => by simp only [pyW] at e; cases e
  | _, _, _, .obj h, e => by simp only [pyW] at e; exact ho _ _ _ h e
  | _, _, _, .btp h r, e => by simp only [pyW] at e; cases e
theorem den_pyL (ex : Ex G H) (ho : ∀ (k : Nat) (a : Addr) (p : PyData), al[k]? = some a → ob k = some p → Dp K H (.ref a) p) : ∀ {v : List V} {d : List D} {p : List PyData}, DenL K al G v d → pyWL ob d = some p → DpAll K H v p
  | _, _, _, .nil, e => by simp only [pyWL] at e; cases e; exact .nil
  | _, _, _, .cons h r, e => by
    simp only [pyWL] at e
    split at e
    · rename_i p ps h1 h2
      cases e
      exact .cons (den_py ex ho h h1) (den_pyL ex ho r h2)
    · cases e
end
end
section
variable {K : PySem.W.Frag} {tb : List (Addr × Str)} {al : List Addr} {G H : Hp} {c : SH}
theorem Rep.py (R : Rep K tb al G c H) {v : V} {d : D} {p : PyData} (h : Den K al G v d) (e : pyC c d = some p) : Dp K H v p := by
  refine den_py R.sub (fun k a p hk hp => ?_) h e
  unfold pyO at hp
  split at hp
  · rename_i xs hs
    obtain ⟨vs, h1, h2⟩ := R.ent k a _ hk hs
    obtain ⟨ps, h3, rfl⟩ := Option.map_eq_some_iff.mp hp
    exact .lst (.of h1) (den_pyL R.sub (fun _ _ _ _ z => by cases z) h2 h3)
  · rename_i d hs
    exact den_py R.sub (fun _ _ _ _ z => by cases z) (R.ent k a _ hk hs) hp
  · cases hp
end
def scD : D → D → Option Bool
  | .non, .non => some true
  | .int a, .int b => some (decide (a = b))
  | .bl a, .bl b => some (decide (a = b))
  | .str a, .str b => some (decide (a = b))
  | .non, .int _ => some false | .int _, .non => some false | .non, .bl _ => some false | .bl _, .non => some false | .non, .str _ => some false | .str _, .non => some false
  | .int _, .str _ => some false | .str _, .int _ => some false | .bl _, .str _ => some false | .str _, .bl _ => some false
  | _, _ => none
def eqB (x y : D) (c : SH) (k : Bool → Prop) : Prop := match scD x y with
  | some b => k b
  | none => match pyC c x, pyC c y with
    | some p, some q => (SeqAt.shaped p = true ∧ SeqAt.shaped q = true) ∧ k (PyData.eqv p q)
    | _, _ => False
def eqD (x y : D) (c : SH) (Φ : QD) : Prop := eqB x y c fun b => Φ (.bl b) c
def neD (x y : D) (c : SH) (Φ : QD) : Prop := eqB x y c fun b => Φ (.bl (!b)) c
section
variable {K : PySem.W.Frag} {tb : List (Addr × Str)}
theorem scD_ok {al : List Addr} {G : Hp} {v w : V} {x y : D} {b : Bool} (hx : Den K al G v x) (hy : Den K al G w y) (e : scD x y = some b) : scal v w = true ∧ decide (v = w) = b := by
  cases hx <;> cases hy <;> first
    | (cases e; done)
    | (cases e; exact ⟨rfl, by simp⟩)
theorem dop_eq : DOp K tb (rEqU K) eqD := by
  intro al G c H x y dx dy Φ Q R hx hy m q
  unfold eqD eqB at m
  split at m
  · rename_i b e
    obtain ⟨h1, h2⟩ := scD_ok hx hy e
    refine .inl ⟨h1, ?_⟩
    rw [h2]
    exact q _ c al G H _ R .refl (.bl _) m
  · split at m
    · rename_i p p' e1 e2
      exact .inr ⟨p, p', R.py hx e1, R.py hy e2, m.1.1, m.1.2, q _ c al G H _ R .refl (.bl _) m.2⟩
    · cases m
theorem dop_ne : DOp K tb (rNeU K) neD := by
  intro al G c H x y dx dy Φ Q R hx hy m q
  unfold neD eqB at m
  split at m
  · rename_i b e
    obtain ⟨h1, h2⟩ := scD_ok hx hy e
    refine .inl ⟨h1, ?_⟩
    rw [h2]
    exact q _ c al G H _ R .refl (.bl _) m
  · split at m
    · rename_i p p' e1 e2
      exact .inr ⟨p, p', R.py hx e1, R.py hy e2, m.1.1, m.1.2, q _ c al G H _ R .refl (.bl _) m.2⟩
    · cases m
end
def flatD : D → Bool
  | .non => true
  | .bl _ => true
  | .int _ => true
  | .str _ => true
  | _ => false
def eqF : D → D → Bool
  | .non, .non => true
  | .bl a, .bl b => a == b
  | .bl a, .int b => (if a then 1 else 0) == b
  | .int a, .bl b => a == (if b then 1 else 0)
  | .int a, .int b => a == b
  | .str a, .str b => a == b
  | _, _ => false
def inF (x : D) (xs : List D) : Bool := xs.any fun y => eqF y x
def sign1 (z : Str) : Option Nat := if z.cps.size = 1 then z.cps[0]? else none
def inD (neg : Bool) (x y : D) (c : SH) (Φ : QD) : Prop := match view c y with
  | .lst ys => (flatD x = true ∧ ys.all flatD = true) ∧ Φ (.bl (if neg then !inF x ys else inF x ys)) c
  | .scr ys => (flatD x = true ∧ ys.all flatD = true) ∧ Φ (.bl (if neg then !inF x ys else inF x ys)) c
  | .tup ys => (flatD x = true ∧ ys.all flatD = true) ∧ Φ (.bl (if neg then !inF x ys else inF x ys)) c
  | .str z => match x with
    | .str y => match sign1 y with
      | some k => Φ (.bl (if neg then !decide (k ∈ z.cps.toList) else decide (k ∈ z.cps.toList))) c
      | none => False
    | _ => False
  | _ => False
section
variable {K : PySem.W.Frag} {tb : List (Addr × Str)}
theorem flat_den {al : List Addr} {G : Hp} {v : V} {x : D} (h : Den K al G v x) (f : flatD x = true) : flatV v = true := by
  cases h <;> first | rfl | cases f
theorem flat_denL {al : List Addr} {G : Hp} : ∀ {vs : List V} {xs : List D}, DenL K al G vs xs → xs.all flatD = true → vs.all flatV = true
  | _, _, .nil, _ => rfl
  | _, _, .cons h r, f => by
    rw [List.all_cons, Bool.and_eq_true] at f ⊢
    exact ⟨flat_den h f.1, flat_denL r f.2⟩
theorem eqF_den {al : List Addr} {G : Hp} {v w : V} {x y : D} (hx : Den K al G v x) (hy : Den K al G w y) (fx : flatD x = true) (fy : flatD y = true) : eqV v w = eqF x y := by
  cases hx <;> first | (cases fx; done) | (cases hy <;> first | (cases fy; done) | rfl)
theorem inF_den {al : List Addr} {G : Hp} {v : V} {x : D} (hx : Den K al G v x) (fx : flatD x = true) : ∀ {vs : List V} {xs : List D}, DenL K al G vs xs → xs.all flatD = true → inV v vs = inF x xs
  | _, _, .nil, _ => rfl
  | _, _, .cons h r, f => by
    rw [List.all_cons, Bool.and_eq_true] at f
    have ih := inF_den hx fx r f.2
    unfold inV inF at ih ⊢
    rw [List.any_cons, List.any_cons, ih, eqF_den h hx f.1 fx]
theorem sign1_eq {z : Str} {k : Nat} (h : sign1 z = some k) : z = ⟨#[k]⟩ := by
  unfold sign1 at h
  split at h
  · rename_i e
    obtain ⟨a⟩ := z
    simp only at e h
    congr 1
    apply Array.ext
    · simpa using e
    · intro i h1 h2
      have : i = 0 := by simp at h2; exact h2
      subst this
      rw [Array.getElem?_eq_getElem h1] at h
      cases h
      rfl
  · cases h
theorem in_ok {neg : Bool} {al : List Addr} {G : Hp} {c : SH} {H : Hp} {x y : V} {dx dy : D} {Φ : QD} {Q : VK} (R : Rep K tb al G c H) (hx : Den K al G x dx) (hy : Den K al G y dy) (m : inD neg dx dy c Φ) (q : Ret K tb al G c H Φ Q) :
    rIn K neg x y H Q ∨ ∃ (k : Nat) (z : Str), x = .str ⟨#[k]⟩ ∧ y = .str z ∧ Q (.bl (if neg then !decide (k ∈ z.cps.toList) else decide (k ∈ z.cps.toList))) H := by
  have vy := R.vw hy
  unfold inD at m
  split at m
  · rename_i ys e
    rw [e] at vy
    cases vy with
    | lst h d => exact .inl ⟨_, _, rfl, .inl (.of h), flat_den hx m.1.1, flat_denL d m.1.2, by rw [inF_den hx m.1.1 d m.1.2]; exact q _ c al G H _ R .refl (.bl _) m.2⟩
  · rename_i ys e
    rw [e] at vy
    cases vy with
    | scr h d => exact .inl ⟨_, _, rfl, .inl h, flat_den hx m.1.1, flat_denL d m.1.2, by rw [inF_den hx m.1.1 d m.1.2]; exact q _ c al G H _ R .refl (.bl _) m.2⟩
  · rename_i ys e
    rw [e] at vy
    cases vy with
    | tup h d => exact .inl ⟨_, _, rfl, .inr (.of h), flat_den hx m.1.1, flat_denL d m.1.2, by rw [inF_den hx m.1.1 d m.1.2]; exact q _ c al G H _ R .refl (.bl _) m.2⟩
  · rename_i z e
    rw [e] at vy
    cases vy
    split at m
    · split at m
      · rename_i y k e2
        cases hx
        refine .inr ⟨k, z, by rw [sign1_eq e2], rfl, q _ c al G H _ R .refl (.bl _) m⟩
      · cases m
    · cases m
  · cases m
theorem dop_in : DOp K tb (rInU K) (inD false) := fun al G c H x y dx dy Φ Q R hx hy m q => in_ok R hx hy m q
theorem dop_nin : DOp K tb (rNotInU K) (inD true) := fun al G c H x y dx dy Φ Q R hx hy m q => in_ok R hx hy m q
end
def tyD : D → Option String
  | .non => some "NoneType"
  | .bl _ => some "bool"
  | .int _ => some "int"
  | .str _ => some "str"
  | .lst _ => some "list"
  | .tup _ => some "tuple"
  | .btp _ => some "tuple"
  | .dic _ => some "dict"
  | _ => none
/-- what is to be known of a class for isinstance of its instances -/
structure InsK (K : PySem.W.Frag) (C : Addr) : Prop where
  cl : Cls K C
  a : PySem.W.findIn K (.ref C) "__class__" = some (some (.builtin "object.__class__"))
  n : PySem.W.specialIn K (.builtin "object.__class__") "__get__" = some (some (.builtin "getset_descriptor.__get__"))
  t : PySem.W.takesIn K (.builtin "object.__class__") = some true
  m : PySem.W.mroIn K C (.type "object") = some true
def clD : D → Option Value
  | .ty n => some (.type n)
  | .adr C => some (.ref C)
  | _ => none
def isi1 (K : PySem.W.Frag) (d : D) (u : Value) (k : Bool → Prop) : Prop := match d with
  | .ins C _ => InsK K C ∧ ∃ b, PySem.W.kitOne K (.ref C) u = some b ∧ k b
  | d => match tyD d with
    | some n => ∃ b, PySem.W.kitOne K (.type n) u = some b ∧ k b
    | none => False
def clsD : List D → Option (List Value)
  | [] => some []
  | x :: xs => match clD x, clsD xs with
    | some u, some us => some (u :: us)
    | _, _ => none
def isiN (K : PySem.W.Frag) (d : D) (us : List Value) (k : Bool → Prop) : Prop := match d with
  | .ins C _ => InsK K C ∧ ∃ b, PySem.W.kitAny K (.ref C) us = some b ∧ k b
  | d => match tyD d with
    | some n => ∃ b, PySem.W.kitAny K (.type n) us = some b ∧ k b
    | none => False
def isiD (K : PySem.W.Frag) (xs : List D) (c : SH) (Φ : QD) : Prop := twoD xs fun x y => match y with
  | .tup ys => match clsD ys with
    | some us => isiN K (view c x) us fun b => Φ (.bl b) c
    | none => False
  | y => match clD y with
    | some u => isi1 K (view c x) u fun b => Φ (.bl b) c
    | none => False
def rIsiU (K : PySem.W.Frag) : List V → Hp → VK → Prop := fun xs H Q => rIsi K xs H Q ∨ rIsiT K xs H Q
theorem call_isiV {X : Cx} {K : PySem.W.Frag} (hK : X.K = K) : CallR X (.builtin "isinstance") (rIsiU K) := hK ▸ call_isi.or call_isiT
section
variable {K : PySem.W.Frag} {tb : List (Addr × Str)}
theorem ty_vw {al : List Addr} {G H : Hp} {v : V} {d : D} {n : String} (h : Vw K al G H v d) (e : tyD d = some n) : TyX K H v (.type n) := by
  cases h with
  | non => cases e; exact .base .non
  | bl b => cases e; exact .base (.bl b)
  | int i => cases e; exact .base (.int i)
  | str z => cases e; exact .base (.str z)
  | lst h r => cases e; exact .base (.lst h)
  | tup h r => cases e; exact .base (.tup h)
  | btp h r =>
    cases e
    obtain ⟨o, its, n, h1, h2, _⟩ := h
    exact .kTuple h1 h2
  | dic h r =>
    cases e
    rcases h with h | ⟨o, h⟩
    · exact .base (.dK h)
    · exact .fDict h
  | _ => cases e
theorem cl_den {al : List Addr} {G : Hp} {v : V} {d : D} {u : Value} (h : Den K al G v d) (e : clD d = some u) : ClsV v u := by
  cases h with
  | ty n => cases e; exact .ty n
  | adr a => cases e; exact .own a
  | _ => cases e
theorem cls_den {al : List Addr} {G : Hp} : ∀ {vs : List V} {ds : List D} {us : List Value}, DenL K al G vs ds → clsD ds = some us → Paired ClsV vs us
  | _, _, _, .nil, e => by cases e; exact .nil
  | _, _, _, .cons h r, e => by
    unfold clsD at e
    split at e
    · rename_i h1 h2
      cases e
      exact .cons (cl_den h h1) (cls_den r h2)
    · cases e
theorem isi1_ok {al : List Addr} {G H : Hp} {v : V} {d : D} {u : Value} {k : Bool → Prop} (h : Vw K al G H v d) (m : isi1 K d u k) : ∃ T b, TyX K H v T ∧ PySem.W.kitOne K T u = some b ∧ k b := by
  unfold isi1 at m
  split at m
  · obtain ⟨i, b, h1, h2⟩ := m
    cases h with
    | ins e r => exact ⟨_, b, .base (.ins e i.cl i.a i.n i.t i.m), h1, h2⟩
  · split at m
    · rename_i n e
      obtain ⟨b, h1, h2⟩ := m
      exact ⟨_, b, ty_vw h e, h1, h2⟩
    · cases m
theorem isiN_ok {al : List Addr} {G H : Hp} {v : V} {d : D} {us : List Value} {k : Bool → Prop} (h : Vw K al G H v d) (m : isiN K d us k) : ∃ T b, TyX K H v T ∧ PySem.W.kitAny K T us = some b ∧ k b := by
  unfold isiN at m
  split at m
  · obtain ⟨i, b, h1, h2⟩ := m
    cases h with
    | ins e r => exact ⟨_, b, .base (.ins e i.cl i.a i.n i.t i.m), h1, h2⟩
  · split at m
    · rename_i n e
      obtain ⟨b, h1, h2⟩ := m
      exact ⟨_, b, ty_vw h e, h1, h2⟩
    · cases m
theorem dc_isi : DCall K tb (rIsiU K) (isiD K) := by
  intro al G c H xs ds Φ Q R hd m q
  obtain ⟨x, y, v, w, rfl, rfl, dx, dy, m2⟩ := twoD_of m hd
  have vx := R.vw dx
  split at m2
  · rename_i ys
    split at m2
    · rename_i us e
      obtain ⟨T, b, h1, h2, h3⟩ := isiN_ok vx m2
      have vy := Den.vwG R.sub dy
      cases vy with
      | tup h r => exact .inr ⟨v, _, _, T, us, b, rfl, h, cls_den r e, h1, h2, q _ c al G H _ R .refl (.bl _) h3⟩
    · cases m2
  · split at m2
    · rename_i u e
      obtain ⟨T, b, h1, h2, h3⟩ := isi1_ok vx m2
      exact .inl ⟨v, w, T, u, b, rfl, cl_den dy e, h1, h2, q _ c al G H _ R .refl (.bl _) h3⟩
    · cases m2
theorem dc_len : DCall K tb (rLenU K) lenD := by
  intro al G c H xs ds Φ Q R hd m q
  obtain ⟨x, v, rfl, rfl, dx, m2⟩ := oneD_of m hd
  have vx := R.vw dx
  split at m2
  · rename_i ys e
    rw [e] at vx
    cases vx with
    | lst h r => exact .inl ⟨_, _, rfl, .inl ⟨_, .of h, rfl⟩, by rw [r.length]; exact q _ c al G H _ R .refl (.int _) m2⟩
  · rename_i ys e
    rw [e] at vx
    cases vx with
    | scr h r => exact .inl ⟨_, _, rfl, .inl ⟨_, h, rfl⟩, by rw [r.length]; exact q _ c al G H _ R .refl (.int _) m2⟩
  · rename_i ys e
    rw [e] at vx
    cases vx with
    | tup h r => exact .inl ⟨_, _, rfl, .inr ⟨_, .of h, rfl⟩, by rw [r.length]; exact q _ c al G H _ R .refl (.int _) m2⟩
  · rename_i ys e
    rw [e] at vx
    cases vx with
    | btp h r => exact .inl ⟨_, _, rfl, .inr ⟨_, .inr h, rfl⟩, by rw [r.length]; exact q _ c al G H _ R .refl (.int _) m2⟩
  · rename_i ys e
    rw [e] at vx
    cases vx with
    | dic h r => exact .inr ⟨_, _, rfl, h, by rw [r.length]; exact q _ c al G H _ R .refl (.int _) m2⟩
  · rename_i z e
    rw [e] at vx
    cases vx
    exact .inl ⟨.str z, _, rfl, ⟨m2.1, rfl⟩, q _ c al G H _ R .refl (.int _) m2.2⟩
  · cases m2
end
end M
set_option Elab.async false
set_option linter.all false
set_option maxRecDepth 100000
set_option maxHeartbeats 3900000
namespace M
open PySem PySem.Spec PyProof.Rows L2 G
def fldD (C : Addr) (f : Str) (x : D) (c : SH) (Φ : QD) : Prop := match view c x with
  | .ins C' fs => C' = C ∧ match fs.lookup f with
    | some d => Φ d c
    | none => False
  | _ => False
def fldM (C : Addr) (f : Str) (a : ME) : ME := fun δ c Ψ Φ => a δ c Ψ fun x c1 => fldD C f x c1 Φ
def putD (C : Addr) (f : Str) (x y : D) (c : SH) (N : SH → Prop) : Prop := match x with
  | .obj k => match c[k]? with
    | some (.ins C' fs) => C' = C ∧ fs.length < 1000 ∧ N (c.set k (.ins C (putFD f y fs)))
    | _ => False
  | _ => False
def sfldM (C : Addr) (f : Str) (o v : ME) : MS := fun δ c e => v δ c (e.x δ) fun y c1 => o δ c1 (e.x δ) fun x c2 => putD C f x y c2 fun c3 => e.nx δ c3
def insD (C : Addr) (m : Str) (x : D) (c : SH) (k : Prop) : Prop := match view c x with
  | .ins C' fs => C' = C ∧ fs.lookup m = none ∧ k
  | _ => False
def methM (C : Addr) (m : Str) (F : Fn) (ds : List D) (a : ME) (b : MA) : ME := fun δ c Ψ Φ => a δ c Ψ fun x c1 => insD C m x c1 (b δ c1 Ψ fun xs c2 => F (x :: (xs ++ ds)) c2 Ψ Φ)
def propM (C : Addr) (F : Fn) (a : ME) : ME := fun δ c Ψ Φ => a δ c Ψ fun x c1 => (match view c1 x with
  | .ins C' _ => C' = C
  | _ => False) ∧ F [x] c1 noX Φ
/-- C(..): an object that may change (lv), or data -/
def makeD (lv : Bool) (C : Addr) (F : Fn) (xs : List D) (c : SH) (Ψ : XD) (Φ : QD) : Prop := F (.obj c.length :: xs) (c ++ [.ins C []]) (fun D f d c2 => clo c (Ψ D f) d c2) fun v c2 => v = .non ∧ if lv = true then Φ (.obj c.length) c2 else clo c Φ (.obj c.length) c2
def makeM (lv : Bool) (C : Addr) (F : Fn) (ds : List D) (a : MA) : ME := fun δ c Ψ Φ => a δ c Ψ fun xs c1 => makeD lv C F (xs ++ ds) c1 Ψ Φ
section
variable {K : PySem.W.Frag} {tb : List (Addr × Str)} {W : WX} {ta te : TE} {a b : ME} {tA : TA} {mA : MA} {C : Addr} {f m : Str} {F : Fn}
theorem snd_fld (cl : Cls K C) (na : NoAttr K C f) (ha : SndE K tb W ta a) : SndE K tb W (tFld K ta f) (fldM C f a) := by
  intro al G c H σ δ Ψ Φ Q g mm q
  refine ha al G c H σ δ Ψ _ _ g mm fun x c1 al1 G1 H1 v r1 l1 d1 m1 => ?_
  have vx := r1.vw d1
  unfold fldD at m1
  split at m1
  · rename_i C' fs e
    rw [e] at vx
    obtain ⟨rfl, m1⟩ := m1
    split at m1
    · rename_i d e2
      cases vx with
      | ins h r =>
        obtain ⟨u, h1, h2⟩ := r.lookup e2
        exact ⟨_, _, _, _, u, rfl, h, cl, na, h1, q d c1 al1 G1 H1 u r1 l1 h2 m1⟩
    · cases m1
  · cases m1
theorem putF_den {al : List Addr} {G : Hp} {v : V} {d : D} (h : Den K al G v d) : ∀ {vs : List (Str × V)} {ds : List (Str × D)}, DenF K al G vs ds → DenF K al G (putF f v vs) (putFD f d ds)
  | _, _, .nil => .cons h .nil
  | _, _, .cons (k := k) q r => by
    unfold putF putFD
    by_cases e : k = f
    · rw [if_pos e, if_pos e]; exact .cons h r
    · rw [if_neg e, if_neg e]; exact .cons q (putF_den h r)
theorem snd_sfld (cl : Cls K C) (na : NoAttr K C f) (ha : SndE K tb W ta a) (hv : SndE K tb W te b) : SndS K tb W (sFld K ta te f) (sfldM C f a b) := by
  intro al G c H σ δ e D R s mm q
  refine hv al G c H σ δ (e.x δ) _ _ (q.go R s) mm fun y c1 al1 G1 H1 w r1 l1 d1 m1 => ?_
  refine ha al1 G1 c1 H1 σ δ (e.x δ) _ _ ((q.le l1).go r1 (s.le l1)) m1 fun x c2 al2 G2 H2 v r2 l2 d2 m2 => ?_
  unfold putD at m2
  split at m2
  · rename_i k
    split at m2
    · rename_i C' fs hs
      obtain ⟨rfl, hl, m2⟩ := m2
      cases d2 with
      | @obj _ ax hk =>
        have hs2 := hs
        obtain ⟨dx, vs, h1, h2⟩ := r2.ent k _ _ hk hs
        refine ⟨_, _, dx, vs, rfl, h1, cl, na, by rw [h2.length]; exact hl, ?_⟩
        have ent : Ent K al2 G2 (upd H2 ax (.ins C' dx (putF f w vs))) ax (.ins C' (putFD f y fs)) := ⟨dx, _, upd_same, putF_den (d1.le l2) h2⟩
        have lc : Le al2 G2 c2 H2 al2 G2 (c2.set k (.ins C' (putFD f y fs))) (upd H2 ax (.ins C' dx (putF f w vs))) := Le.change r2 hk hs2 rfl nofun
        exact q.nx δ _ al2 G2 _ σ (r2.change hk hs2 rfl ent rfl) ((l1.trans l2).trans lc) ((s.le l1).le (l2.trans lc)) m2
    · cases m2
  · cases m2
theorem snd_meth {dvs : List V} {ds : List D} (hd : ∀ al G, DenL K al G dvs ds) (ha : SndE K tb W ta a) (hA : SndA K tb W tA mA) : SndE K tb W (tMethSD C m (SpG K tb F) dvs (WE W) ta tA) (methM C m F ds a mA) := by
  intro al G c H σ δ Ψ Φ Q g mm q
  refine ha al G c H σ δ Ψ _ _ g mm fun x c1 al1 G1 H1 v r1 l1 d1 m1 => ?_
  have vx := r1.vw d1
  unfold insD at m1
  split at m1
  · rename_i C' fs e
    rw [e] at vx
    obtain ⟨rfl, hl, m1⟩ := m1
    cases vx with
    | ins h r =>
      refine ⟨_, _, _, rfl, h, r.none hl, ?_⟩
      refine hA al1 G1 c1 H1 σ δ Ψ _ _ (g.le r1 l1) m1 fun xs c2 al2 G2 H2 vs r2 l2 d2 m2 => ?_
      exact ⟨al2, G2, c2, _, Ψ, Φ, r2, .cons (d1.le l2) (d2.appendC hd), m2, q.le (l1.trans l2), g.thr.le (l1.trans l2)⟩
  · cases m1
theorem snd_prop (ha : SndE K tb W ta a) : SndE K tb W (tProp C (SpG K tb F) [] (fun _ _ _ => False) ta) (propM C F a) := by
  intro al G c H σ δ Ψ Φ Q g mm q
  refine ha al G c H σ δ Ψ _ _ g mm fun x c1 al1 G1 H1 v r1 l1 d1 m1 => ?_
  have vx := r1.vw d1
  obtain ⟨m0, m1⟩ := m1
  split at m0
  · rename_i C' fs e
    rw [e] at vx
    subst m0
    cases vx with
    | ins h r => exact ⟨_, _, _, rfl, h, al1, G1, c1, _, noX, Φ, r1, .cons d1 .nil, m1, q.le l1, thr0⟩
  · cases m0
theorem snd_make {lv : Bool} {dvs : List V} {ds : List D} (hd : ∀ al G, DenL K al G dvs ds) (hA : SndA K tb W tA mA) : SndE K tb W (tMakeSD C (SpG K tb F) dvs (WE W) tA) (makeM lv C F ds mA) := by
  intro al G c H σ δ Ψ Φ Q g mm q
  refine hA al G c H σ δ Ψ _ _ g mm fun xs c1 al1 G1 H1 vs r1 l1 d1 m1 => ?_
  intro x dx hx hdx nx
  have e1 : Ex H1 (upd H1 dx (.own x)) := Ex.new hdx
  have e2 : Ex (upd H1 dx (.own x)) (upd (upd H1 dx (.own x)) x (.ins C dx [])) := Ex.new (by rw [upd_ne nx.symm]; exact hx)
  have ex := e1.trans e2
  have r2 : Rep K tb (al1 ++ [x]) G1 (c1 ++ [.ins C []]) (upd (upd H1 dx (.own x)) x (.ins C dx [])) := r1.obj hx ex ⟨dx, [], upd_same, .nil⟩ rfl
  have l2 : Le al1 G1 c1 H1 (al1 ++ [x]) G1 (c1 ++ [.ins C []]) (upd (upd H1 dx (.own x)) x (.ins C dx [])) := Le.obj r1 hx ex
  have hk : (al1 ++ [x])[c1.length]? = some x := by
    rw [← r1.len, List.getElem?_append_right (Nat.le_refl _), Nat.sub_self]
    rfl
  refine ⟨_, _, _, _, _, _, r2, .cons (.obj hk) ((d1.le l2).appendC hd), m1, fun d c3 al3 G3 H3 v r3 l3 d3 m3 => ?_, fun D f d c3 al3 G3 H3 dd v r3 l3 fr hdd d3 m3 => ?_⟩
  · obtain ⟨rfl, m3⟩ := m3
    cases d3
    refine ⟨rfl, ?_⟩
    have hx3 : Den K al3 G3 (.ref x) (.obj c1.length) := .obj (l3.ad _ _ hk)
    cases lv with
    | true =>
      rw [if_pos rfl] at m3
      exact q _ c3 al3 G3 H3 _ r3 ((l1.trans l2).trans l3) hx3 m3
    | false =>
      rw [if_neg (by decide)] at m3
      obtain ⟨d4, c4, al4, G4, r4, l4, d4', m4⟩ := clo_ok r1 r3 (l2.trans l3) hx3 m3
      exact q d4 c4 al4 G4 H3 _ r4 (l1.trans l4) d4' m4
  · obtain ⟨d4, c4, al4, G4, r4, l4, d4', m4⟩ := clo_ok r1 r3 (l2.trans l3) d3 m3
    exact g.thr D f d4 c4 al4 G4 H3 dd v r4 (l1.trans l4) (l1.dom _ (l2.dom _ fr)) hdd d4' m4
end
def tyM (T : String) : D → Prop
  | .lst _ => T = "list"
  | .scr _ => T = "list"
  | .str _ => T = "str"
  | _ => False
def bm0M (T : String) (op : D → List D → SH → QD → Prop) (a : ME) : ME := fun δ c Ψ Φ => a δ c Ψ fun x c1 => tyM T (view c1 x) ∧ op x [] c1 Φ
def bmM (T : String) (op : D → List D → SH → QD → Prop) (a : ME) (b : MA) : ME := fun δ c Ψ Φ => a δ c Ψ fun x c1 => tyM T (view c1 x) ∧ b δ c1 Ψ fun xs c2 => op x xs c2 Φ
def m1M (op : D → List D → SH → QD → Prop) (a b : ME) : ME := fun δ c Ψ Φ => a δ c Ψ fun x c1 => tyM "str" x ∧ b δ c1 Ψ fun y c2 => op x [y] c2 Φ
def liveL (x : D) (c : SH) (k : Nat → List D → Prop) : Prop := match x with
  | .obj i => match c[i]? with
    | some (.lst xs) => k i xs
    | _ => False
  | _ => False
def appendD (x : D) (xs : List D) (c : SH) (Φ : QD) : Prop := oneD xs fun y => liveL x c fun k ys => ys.length < sizeLine ∧ Φ .non (c.set k (.lst (ys ++ [y])))
def extendD (x : D) (xs : List D) (c : SH) (Φ : QD) : Prop := oneD xs fun y => liveL x c fun k ys => match view c y with
  | .lst zs => ys.length + zs.length ≤ sizeLine ∧ Φ .non (c.set k (.lst (ys ++ zs)))
  | _ => False
def popD (x : D) (xs : List D) (c : SH) (Φ : QD) : Prop := xs = [] ∧ liveL x c fun k ys => match ys[ys.length - 1]? with
  | some y => Φ y (c.set k (.lst ys.dropLast))
  | none => False
def popAtD (x : D) (xs : List D) (c : SH) (Φ : QD) : Prop := oneD xs fun i => intD i c fun i c => (-(2 ^ 63) ≤ i ∧ i < 2 ^ 63) ∧ liveL x c fun k ys => match seqIndex? i ys.length with
  | some j => match ys[j]? with
    | some y => Φ y (c.set k (.lst (ys.eraseIdx j)))
    | none => False
  | none => False
def s0D (g : Str → D) (x : D) (xs : List D) (c : SH) (Φ : QD) : Prop := xs = [] ∧ match x with
  | .str z => Φ (g z) c
  | _ => False
def strsD : List D → Option (List Str)
  | [] => some []
  | .str z :: xs => match strsD xs with
    | some zs => some (z :: zs)
    | none => none
  | _ => none
def seqD : D → Option (List D)
  | .lst xs => some xs
  | .scr xs => some xs
  | .tup xs => some xs
  | .btp xs => some xs
  | _ => none
def joinD (x : D) (xs : List D) (c : SH) (Φ : QD) : Prop := oneD xs fun y => match x with
  | .str a => match seqD (view c y) with
    | some ys => match strsD ys with
      | some zs => (zs.map (·.length)).sum + zs.length * a.length ≤ 16777216 ∧ Φ (.str (Txt.join a zs)) c
      | none => False
    | none => False
  | _ => False
def splitD (lv : Bool) (x : D) (xs : List D) (c : SH) (Φ : QD) : Prop := oneD xs fun y => match x, y with
  | .str a, .str b => ((b.length == 0) = false ∧ a.length + 2 ≤ sizeLine) ∧ newL lv ((Txt.split a b).map .str) c Φ
  | _, _ => False
section
variable {K : PySem.W.Frag} {tb : List (Addr × Str)} {W : WX} {ta te : TE} {a b : ME} {tA : TA} {mA : MA} {T : String} {r : V → List V → Hp → VK → Prop} {op : D → List D → SH → QD → Prop}
theorem ty_ok {al : List Addr} {G H : Hp} {v : V} {d : D} (h : Vw K al G H v d) (m : tyM T d) : tyV K T v H := by
  cases h with
  | lst h r => exact .inl ⟨m, _, .of h⟩
  | scr h r => exact .inl ⟨m, _, h⟩
  | str z => exact m
  | _ => cases m
theorem snd_bm0 (ho : DMt K tb r op) (ha : SndE K tb W ta a) : SndE K tb W (tBM0 K T r ta) (bm0M T op a) := by
  intro al G c H σ δ Ψ Φ Q g mm q
  refine ha al G c H σ δ Ψ _ _ g mm fun x c1 al1 G1 H1 v r1 l1 d1 m1 => ?_
  exact ⟨ty_ok (r1.vw d1) m1.1, ho al1 G1 c1 H1 v [] x [] Φ Q r1 d1 .nil m1.2 (q.le l1)⟩
theorem snd_bm (ho : DMt K tb r op) (ha : SndE K tb W ta a) (hA : SndA K tb W tA mA) : SndE K tb W (tBM K T r ta tA) (bmM T op a mA) := by
  intro al G c H σ δ Ψ Φ Q g mm q
  refine ha al G c H σ δ Ψ _ _ g mm fun x c1 al1 G1 H1 v r1 l1 d1 m1 => ?_
  refine ⟨ty_ok (r1.vw d1) m1.1, ?_⟩
  refine hA al1 G1 c1 H1 σ δ Ψ _ _ (g.le r1 l1) m1.2 fun xs c2 al2 G2 H2 vs r2 l2 d2 m2 => ?_
  exact ho al2 G2 c2 H2 v vs x xs Φ Q r2 (d1.le l2) d2 m2 (q.le (l1.trans l2))
theorem snd_m1 (ho : DMt K tb r op) (ha : SndE K tb W ta a) (hb : SndE K tb W te b) : SndE K tb W (tM1 r ta te) (m1M op a b) := by
  intro al G c H σ δ Ψ Φ Q g mm q
  refine ha al G c H σ δ Ψ _ _ g mm fun x c1 al1 G1 H1 v r1 l1 d1 m1 => ?_
  obtain ⟨m0, m1⟩ := m1
  have hz : ∃ z, v = .str z := by
    cases d1 with
    | str z => exact ⟨z, rfl⟩
    | lst => exact absurd (show ("str" : String) = "list" from m0) (by decide)
    | scr => exact absurd (show ("str" : String) = "list" from m0) (by decide)
    | _ => cases m0
  refine ⟨hz, ?_⟩
  refine hb al1 G1 c1 H1 σ δ Ψ _ _ (g.le r1 l1) m1 fun y c2 al2 G2 H2 w r2 l2 d2 m2 => ?_
  exact ho al2 G2 c2 H2 v [w] x [y] Φ Q r2 (d1.le l2) (.cons d2 .nil) m2 (q.le (l1.trans l2))
theorem live_of {al : List Addr} {G : Hp} {c : SH} {H : Hp} {x : D} {v : V} {k : Nat → List D → Prop} (R : Rep K tb al G c H) (h : Den K al G v x) (m : liveL x c k) : ∃ i l vs ys, v = .ref l ∧ al[i]? = some l ∧ c[i]? = some (.lst ys) ∧ H l = some (.lst vs) ∧ DenL K al G vs ys ∧ k i ys := by
  unfold liveL at m
  split at m
  · split at m
    · rename_i i _ ys hs
      cases h with
      | obj hk =>
        obtain ⟨vs, h1, h2⟩ := R.ent i _ _ hk hs
        exact ⟨i, _, vs, ys, rfl, hk, hs, h1, h2, m⟩
    · cases m
  · cases m
theorem change_lst {al : List Addr} {G : Hp} {c : SH} {H : Hp} {i : Nat} {l : Addr} {ys zs : List D} {ws : List V} (R : Rep K tb al G c H) (h1 : al[i]? = some l) (h2 : c[i]? = some (.lst ys)) (d : DenL K al G ws zs) : Rep K tb al G (c.set i (.lst zs)) (upd H l (.lst ws)) ∧ Le al G c H al G (c.set i (.lst zs)) (upd H l (.lst ws)) :=
  ⟨R.change h1 h2 rfl ⟨ws, upd_same, d⟩ rfl, Le.change R h1 h2 rfl nofun⟩
theorem dm_append : DMt K tb rAppend appendD := by
  intro al G c H x xs dx ds Φ Q R hx hd m q
  obtain ⟨y, w, rfl, rfl, dy, m2⟩ := oneD_of m hd
  obtain ⟨i, l, vs, ys, rfl, h1, h2, h3, h4, m3⟩ := live_of R hx m2
  obtain ⟨r2, l2⟩ := change_lst R h1 h2 (h4.append (.cons dy .nil))
  exact ⟨l, vs, w, rfl, rfl, h3, by rw [h4.length]; exact m3.1, q .non _ al G _ .non r2 l2 .non m3.2⟩
theorem dm_extend : DMt K tb rExtend extendD := by
  intro al G c H x xs dx ds Φ Q R hx hd m q
  obtain ⟨y, w, rfl, rfl, dy, m2⟩ := oneD_of m hd
  obtain ⟨i, l, vs, ys, rfl, h1, h2, h3, h4, m3⟩ := live_of R hx m2
  have vy := R.vw dy
  split at m3
  · rename_i zs e
    rw [e] at vy
    cases vy with
    | lst h5 h6 =>
      obtain ⟨r2, l2⟩ := change_lst R h1 h2 (h4.append h6)
      exact ⟨l, _, vs, _, rfl, rfl, h3, h5, by rw [h4.length, h6.length]; exact m3.1, q .non _ al G _ .non r2 l2 .non m3.2⟩
  · cases m3
theorem den_dropLast {al : List Addr} {G : Hp} {vs : List V} {ds : List D} (h : DenL K al G vs ds) : DenL K al G vs.dropLast ds.dropLast := by
  rw [List.dropLast_eq_take, List.dropLast_eq_take, h.length]
  exact h.take _
theorem dm_pop : DMt K tb rPop popD := by
  intro al G c H x xs dx ds Φ Q R hx hd m q
  obtain ⟨rfl, m2⟩ := m
  cases hd
  obtain ⟨i, l, vs, ys, rfl, h1, h2, h3, h4, m3⟩ := live_of R hx m2
  split at m3
  · rename_i y e
    obtain ⟨r2, l2⟩ := change_lst R h1 h2 (den_dropLast h4)
    obtain ⟨w, h5, h6⟩ := h4.get e
    exact ⟨l, vs, w, rfl, rfl, h3, by rw [h4.length]; exact h5, q y _ al G _ w r2 l2 (h6.le l2) m3⟩
  · cases m3
theorem dm_popAt : DMt K tb rPopAt popAtD := by
  intro al G c H x xs dx ds Φ Q R hx hd m q
  obtain ⟨y, w, rfl, rfl, dy, m2⟩ := oneD_of m hd
  obtain ⟨j, rfl, rfl, ⟨b1, b2⟩, m3⟩ := intD_of m2 dy
  obtain ⟨i, l, vs, ys, rfl, h1, h2, h3, h4, m4⟩ := live_of R hx m3
  split at m4
  · rename_i n e
    split at m4
    · rename_i y e2
      obtain ⟨r2, l2⟩ := change_lst R h1 h2 (h4.erase n)
      obtain ⟨w, h5, h6⟩ := h4.get e2
      exact ⟨l, vs, j, n, w, rfl, rfl, h3, b1, b2, by rw [h4.length]; exact e, h5, q y _ al G _ w r2 l2 (h6.le l2) m4⟩
    · cases m4
  · cases m4
theorem dm_s0 {g : Str → V} {gd : Str → D} (hg : ∀ al G z, Den K al G (g z) (gd z)) : DMt K tb (rM0 g) (s0D gd) := by
  intro al G c H x xs dx ds Φ Q R hx hd m q
  obtain ⟨rfl, m2⟩ := m
  cases hd
  split at m2
  · cases hx
    exact ⟨_, rfl, rfl, trivial, q _ c al G H _ R .refl (hg al G _) m2⟩
  · cases m2
theorem strs_den {al : List Addr} {G : Hp} : ∀ {vs : List V} {xs : List D} {zs : List Str}, DenL K al G vs xs → strsD xs = some zs → vs = zs.map V.str
  | _, _, _, .nil, e => by cases e; rfl
  | _, _, _, .cons h r, e => by
    cases h with
    | str z =>
      unfold strsD at e
      split at e
      · rename_i zs h2
        cases e
        rw [strs_den r h2]
        rfl
      · cases e
    | _ => cases e
theorem seq_vw {al : List Addr} {G H : Hp} {v : V} {y : D} {xs : List D} (e : seqD y = some xs) (h : Vw K al G H v y) : ∃ p vs, v = .ref p ∧ (SqL K H p vs ∨ SqT K H p vs) ∧ DenL K al G vs xs := by
  cases h with
  | lst h d => cases e; exact ⟨_, _, rfl, .inl (.of h), d⟩
  | scr h d => cases e; exact ⟨_, _, rfl, .inl h, d⟩
  | tup h d => cases e; exact ⟨_, _, rfl, .inr (.of h), d⟩
  | btp h d => cases e; exact ⟨_, _, rfl, .inr (.inr h), d⟩
  | _ => cases e
theorem dm_join : DMt K tb (rJoin K) joinD := by
  intro al G c H x xs dx ds Φ Q R hx hd m q
  obtain ⟨y, w, rfl, rfl, dy, m2⟩ := oneD_of m hd
  split at m2
  · split at m2
    · rename_i ys e
      split at m2
      · rename_i zs e2
        cases hx
        obtain ⟨p, vs, rfl, h1, h2⟩ := seq_vw e (R.vw dy)
        have h3 := strs_den h2 e2
        rw [h3] at h1
        exact ⟨_, p, zs, rfl, rfl, h1, m2.1, q _ c al G H _ R .refl (.str _) m2.2⟩
      · cases m2
    · cases m2
  · cases m2
theorem dm_split {lv : Bool} : DMt K tb rSplit (splitD lv) := by
  intro al G c H x xs dx ds Φ Q R hx hd m q
  obtain ⟨y, w, rfl, rfl, dy, m2⟩ := oneD_of m hd
  split at m2
  · rename_i a b
    cases hx
    cases dy
    exact ⟨a, b, rfl, rfl, m2.1.1, m2.1.2, fun p hp => newL_ok R hp (DenL.strs _) m2.2 q⟩
  · cases m2
def listD (lv : Bool) (xs : List D) (c : SH) (Φ : QD) : Prop := oneD xs fun x => match seqD (view c x) with
  | some ys => newL lv ys c Φ
  | none => False
theorem dc_list {lv : Bool} : DCall K tb (rListU K) (listD lv) := by
  intro al G c H xs ds Φ Q R hd m q
  obtain ⟨x, v, rfl, rfl, dx, m2⟩ := oneD_of m hd
  split at m2
  · rename_i ys e
    obtain ⟨p, vs, rfl, h1, h2⟩ := seq_vw e (R.vw dx)
    exact ⟨p, vs, rfl, h1, fun l hl => newL_ok R hl h2 m2 q⟩
  · cases m2
def int1D (xs : List D) (c : SH) (Φ : QD) : Prop := oneD xs fun x => match x with
  | .int i => Φ (.int i) c
  | .bl k => Φ (.int (if k then 1 else 0)) c
  | _ => False
theorem dc_int : DCall K tb rInt1 int1D := by
  intro al G c H xs ds Φ Q R hd m q
  obtain ⟨x, v, rfl, rfl, dx, m2⟩ := oneD_of m hd
  split at m2
  · cases dx; exact .inl ⟨_, rfl, q _ c al G H _ R .refl (.int _) m2⟩
  · cases dx; exact .inr ⟨_, rfl, q _ c al G H _ R .refl (.int _) m2⟩
  · cases m2
def max2D (xs : List D) (c : SH) (Φ : QD) : Prop := twoD xs fun x y => intD x c fun i c => intD y c fun j c => Φ (.int (if j > i then j else i)) c
def min2D (xs : List D) (c : SH) (Φ : QD) : Prop := twoD xs fun x y => intD x c fun i c => intD y c fun j c => Φ (.int (if j < i then j else i)) c
theorem dc_max2 : DCall K tb (rMaxU K) max2D := by
  intro al G c H xs ds Φ Q R hd m q
  obtain ⟨x, y, v, w, rfl, rfl, dx, dy, m2⟩ := twoD_of m hd
  obtain ⟨i, rfl, rfl, m3⟩ := intD_of m2 dx
  obtain ⟨j, rfl, rfl, m4⟩ := intD_of m3 dy
  exact .inl ⟨i, j, rfl, q _ c al G H _ R .refl (.int _) m4⟩
theorem dc_min2 : DCall K tb (rMinU K) min2D := by
  intro al G c H xs ds Φ Q R hd m q
  obtain ⟨x, y, v, w, rfl, rfl, dx, dy, m2⟩ := twoD_of m hd
  obtain ⟨i, rfl, rfl, m3⟩ := intD_of m2 dx
  obtain ⟨j, rfl, rfl, m4⟩ := intD_of m3 dy
  exact .inl ⟨i, j, rfl, q _ c al G H _ R .refl (.int _) m4⟩
end
end M
set_option Elab.async false
set_option linter.all false
set_option maxRecDepth 100000
set_option maxHeartbeats 3900000
namespace M
open PySem PySem.Spec PyProof.Rows L2 G
def rCmpX (K : PySem.W.Frag) (C : Addr) (sp : Sp) (fin : Bool → Bool) : R2 := fun x y H Q => ∃ a dx fs T, x = .ref a ∧ H a = some (.ins C dx fs) ∧ TyX K H y T ∧ PySem.W.notFirst K C T = true ∧ sp [x, y] H (fun v H' => ∃ b, v = .bl b ∧ Q (.bl (fin b)) H') fun _ _ _ => False
def rInX (C : Addr) (sp : Sp) (fin : Bool → Bool) : R2 := fun y x H Q => ∃ a dx fs, x = .ref a ∧ H a = some (.ins C dx fs) ∧ sp [x, y] H (fun v H' => ∃ b, v = .bl b ∧ Q (.bl (fin b)) H') fun _ _ _ => False
def tyT (K : PySem.W.Frag) (d : D) (T : Value) : Prop := match d with
  | .ins C _ => InsK K C ∧ T = .ref C
  | d => ∃ n, tyD d = some n ∧ T = .type n
def cmpX (K : PySem.W.Frag) (C : Addr) (F : Fn) (fin : Bool → Bool) (x y : D) (c : SH) (Φ : QD) : Prop := match view c x with
  | .ins C' _ => C' = C ∧ (∃ T, tyT K (view c y) T ∧ PySem.W.notFirst K C T = true) ∧ F [x, y] c noX fun v c' => blD v c' fun b c' => Φ (.bl (fin b)) c'
  | _ => False
def inX (C : Addr) (F : Fn) (fin : Bool → Bool) (y x : D) (c : SH) (Φ : QD) : Prop := match view c x with
  | .ins C' _ => C' = C ∧ F [x, y] c noX fun v c' => blD v c' fun b c' => Φ (.bl (fin b)) c'
  | _ => False
def orD (o1 o2 : D → D → SH → QD → Prop) (x y : D) (c : SH) (Φ : QD) : Prop := o1 x y c Φ ∨ o2 x y c Φ
def orC (o1 o2 : List D → SH → QD → Prop) (xs : List D) (c : SH) (Φ : QD) : Prop := o1 xs c Φ ∨ o2 xs c Φ
def strX (C : Addr) (F : Fn) (xs : List D) (c : SH) (Φ : QD) : Prop := oneD xs fun x => match view c x with
  | .ins C' _ => C' = C ∧ F [x] c noX fun v c' => match v with
    | .str z => Φ (.str z) c'
    | _ => False
  | _ => False
section
variable {K : PySem.W.Frag} {tb : List (Addr × Str)} {W : WX} {C : Addr} {F : Fn} {fin : Bool → Bool}
theorem tyT_ok {al : List Addr} {G H : Hp} {v : V} {d : D} {T : Value} (h : Vw K al G H v d) (m : tyT K d T) : TyX K H v T := by
  unfold tyT at m
  split at m
  · obtain ⟨i, rfl⟩ := m
    cases h with
    | ins e r => exact .base (.ins e i.cl i.a i.n i.t i.m)
  · obtain ⟨n, e, rfl⟩ := m
    exact ty_vw h e
theorem dop_or {r1 r2 : R2} {o1 o2 : D → D → SH → QD → Prop} (h1 : DOp K tb r1 o1) (h2 : DOp K tb r2 o2) : DOp K tb (fun x y H Q => r1 x y H Q ∨ r2 x y H Q) (orD o1 o2) := by
  intro al G c H x y dx dy Φ Q R hx hy m q
  exact m.elim (fun m => .inl (h1 al G c H x y dx dy Φ Q R hx hy m q)) fun m => .inr (h2 al G c H x y dx dy Φ Q R hx hy m q)
theorem dc_or {r1 r2 : List V → Hp → VK → Prop} {o1 o2 : List D → SH → QD → Prop} (h1 : DCall K tb r1 o1) (h2 : DCall K tb r2 o2) : DCall K tb (fun x H Q => r1 x H Q ∨ r2 x H Q) (orC o1 o2) := by
  intro al G c H xs ds Φ Q R hx m q
  exact m.elim (fun m => .inl (h1 al G c H xs ds Φ Q R hx m q)) fun m => .inr (h2 al G c H xs ds Φ Q R hx m q)
theorem dop_cmpX : DOp K tb (rCmpX K C (SpG K tb F) fin) (cmpX K C F fin) := by
  intro al G c H x y dx dy Φ Q R hx hy m q
  have vx := R.vw hx
  have vy := R.vw hy
  unfold cmpX at m
  split at m
  · rename_i e
    rw [e] at vx
    obtain ⟨rfl, ⟨T, h1, h2⟩, m⟩ := m
    cases vx with
    | ins h r =>
      refine ⟨_, _, _, T, rfl, h, tyT_ok vy h1, h2, al, G, c, _, noX, _, R, .cons hx (.cons hy .nil), m, fun d c2 al2 G2 H2 v r2 l2 d2 m2 => ?_, thr0⟩
      obtain ⟨b, rfl, h3⟩ := blD_of m2 d2
      exact ⟨b, rfl, q _ c2 al2 G2 H2 _ r2 l2 (.bl _) h3⟩
  · cases m
theorem dop_inX : DOp K tb (rInX C (SpG K tb F) fin) (inX C F fin) := by
  intro al G c H x y dx dy Φ Q R hx hy m q
  have vy := R.vw hy
  unfold inX at m
  split at m
  · rename_i e
    rw [e] at vy
    obtain ⟨rfl, m⟩ := m
    cases vy with
    | ins h r =>
      refine ⟨_, _, _, rfl, h, al, G, c, _, noX, _, R, .cons hy (.cons hx .nil), m, fun d c2 al2 G2 H2 v r2 l2 d2 m2 => ?_, thr0⟩
      obtain ⟨b, rfl, h3⟩ := blD_of m2 d2
      exact ⟨b, rfl, q _ c2 al2 G2 H2 _ r2 l2 (.bl _) h3⟩
  · cases m
theorem dc_strX : DCall K tb (rStrO C (SpG K tb F) fun _ _ _ => False) (strX C F) := by
  intro al G c H xs ds Φ Q R hd m q
  obtain ⟨x, v, rfl, rfl, dx, m2⟩ := oneD_of m hd
  have vx := R.vw dx
  split at m2
  · rename_i e
    rw [e] at vx
    obtain ⟨rfl, m2⟩ := m2
    cases vx with
    | ins h r =>
      refine ⟨_, _, _, rfl, h, al, G, c, _, noX, _, R, .cons dx .nil, m2, fun d c2 al2 G2 H2 w r2 l2 d2 m3 => ?_, thr0⟩
      dsimp only at m3
      split at m3
      · cases d2
        exact ⟨⟨_, rfl⟩, q _ c2 al2 G2 H2 _ r2 l2 (.str _) m3⟩
      · cases m3
  · cases m2
end
def fmtM (a : ME) : ME := fun δ c Ψ Φ => a δ c Ψ fun x c1 => match x with
  | .str y => y.length ≤ sizeLine ∧ Φ (.str y) c1
  | .int i => i.natAbs.log2 < 1920 ∧ Φ (.str (toString i)) c1
  | _ => False
def jsD : List ME → Str → Env → SH → XD → (Str → SH → Prop) → Prop
  | [], acc, _, c, _, Φ => Φ acc c
  | m :: ms, acc, δ, c, Ψ, Φ => m δ c Ψ fun x c1 => match x with
    | .str y => (acc ++ y).length ≤ sizeLine ∧ jsD ms (acc ++ y) δ c1 Ψ Φ
    | _ => False
def jsM (ms : List ME) : ME := fun δ c Ψ Φ => jsD ms Str.empty δ c Ψ fun out c1 => Φ (.str out) c1
inductive SndJ (K : PySem.W.Frag) (tb : List (Addr × Str)) (W : WX) : List TE → List ME → Prop
  | nil : SndJ K tb W [] []
  | cons {t : TE} {m : ME} {ts : List TE} {ms : List ME} : SndE K tb W t m → SndJ K tb W ts ms → SndJ K tb W (t :: ts) (m :: ms)
section
variable {K : PySem.W.Frag} {tb : List (Addr × Str)} {W : WX} {ta : TE} {a : ME}
theorem snd_fmt (ha : SndE K tb W ta a) : SndE K tb W (tFmt ta) (fmtM a) := by
  intro al G c H σ δ Ψ Φ Q g m q
  refine ha al G c H σ δ Ψ _ _ g m fun x c1 al1 G1 H1 v r1 l1 d1 m1 => ?_
  split at m1
  · cases d1
    exact .inl ⟨_, rfl, m1.1, q _ c1 al1 G1 H1 _ r1 l1 (.str _) m1.2⟩
  · cases d1
    exact .inr ⟨_, rfl, m1.1, q _ c1 al1 G1 H1 _ r1 l1 (.str _) m1.2⟩
  · cases m1
theorem jsD_ok {al : List Addr} {G : Hp} {c : SH} {H : Hp} {σ : L2.St} {δ : Env} {Ψ : XD} : ∀ {ts : List TE} {ms : List ME}, SndJ K tb W ts ms → ∀ {al1 G1 c1 H1}, Go K tb al1 G1 c1 H1 W σ δ Ψ → Le al G c H al1 G1 c1 H1 → ∀ {acc : Str} {Φ : Str → SH → Prop} {Q : Str → Hp → Prop}, jsD ms acc δ c1 Ψ Φ → (∀ z c2 al2 G2 H2, Rep K tb al2 G2 c2 H2 → Le al G c H al2 G2 c2 H2 → Φ z c2 → Q z H2) → tJs ts acc σ H1 Q
  | _, _, .nil, al1, G1, c1, H1, g, l, acc, Φ, Q, m, q => q acc c1 al1 G1 H1 g.rep l m
  | _, _, .cons h r, al1, G1, c1, H1, g, l, acc, Φ, Q, m, q => by
    refine h al1 G1 c1 H1 σ δ Ψ _ _ g m fun x c2 al2 G2 H2 v r2 l2 d2 m2 => ?_
    split at m2
    · cases d2
      exact ⟨_, rfl, m2.1, jsD_ok r (g.le r2 l2) (l.trans l2) m2.2 q⟩
    · cases m2
theorem snd_js {ts : List TE} {ms : List ME} (h : SndJ K tb W ts ms) : SndE K tb W (fun σ H Q => tJs ts Str.empty σ H fun out H1 => Q (.str out) H1) (jsM ms) := by
  intro al G c H σ δ Ψ Φ Q g m q
  exact jsD_ok h g .refl m fun z c2 al2 G2 H2 r2 l2 m2 => q _ c2 al2 G2 H2 _ r2 l2 (.str _) m2
end
end M
set_option Elab.async false
set_option linter.all false
set_option maxRecDepth 100000
set_option maxHeartbeats 3900000
namespace G
open PySem Spec PyProof.Rows L2
/-- some names, no two alike -/
structure Good (xs : List Str) (m : Nat) : Prop where
  len : xs.length = m
  nd : xs.Nodup
  name : ∀ x ∈ xs, isName x = true
theorem Good.take {xs : List Str} {m n : Nat} (h : Good xs m) (hn : n ≤ m) : Good (xs.take n) n := ⟨by rw [List.length_take, h.len]; omega, h.nd.sublist (List.take_sublist _ _), fun x hx => h.name x (List.mem_of_mem_take hx)⟩
def jsR (ts : List TE) (acc : Str) (σ : L2.St) (x : V) (H : Hp) (Q : Str → Hp → Prop) : Prop := ∃ y : Str, x = .str y ∧ (acc ++ y).length ≤ sizeLine ∧ tJs ts (acc ++ y) σ H Q
def fmtR (x : V) (H : Hp) (Q : VK) : Prop := (∃ y : Str, x = .str y ∧ y.length ≤ sizeLine ∧ Q (.str y) H) ∨ ∃ i : Int, x = .int i ∧ i.natAbs.log2 < 1920 ∧ Q (.str (toString i)) H
section
variable {K : PySem.W.Frag} {σ : L2.St} {H : Hp} {Q : VK} {QJ : Str → Hp → Prop} {t ta : TE} {ts : List TE} {acc y : Str} {tA : TA} {x : V} {C : Addr} {sp : Sp} {E : XK} {i : Nat}
theorem w_js (q : t σ H fun x H1 => jsR ts acc σ x H1 QJ) : tJs (t :: ts) acc σ H QJ := q
theorem w_jsn (q : QJ acc H) : tJs [] acc σ H QJ := q
theorem w_fmt (q : t σ H fun x H1 => fmtR x H1 Q) : tFmt t σ H Q := q
theorem w_makeL (h : σ[i]? = some (some (.ref C))) (q : tMake C sp [] E tA σ H Q) : tMakeL i C sp E tA σ H Q := ⟨h, q⟩
end
end G
set_option Elab.async false
set_option linter.all false
set_option maxRecDepth 100000
set_option maxHeartbeats 3900000
namespace G
open PySem Spec PyProof.Rows L2
section
variable {σ : L2.St} {H : Hp} {C : Addr} {f : Str} {W : WX} {ta : TA} {D : Ends} {v : V} {Q E : XK} {H0 : Hp} {tb : WX → TS} {K : PySem.W.Frag} {yes no : WX} {cls : Value} {d : Option Addr} {c : Value} {b : Bool}
theorem w_raiseE (q : ta σ H fun vs H1 => mkE C f vs H1 fun cls d H' => W cls d σ H') : tRaiseE C f W ta D σ H := q
def getE (C : Addr) (f : Str) (a : Addr) (cls : Value) (d : Option Addr) (x : V) (H : Hp) (Q : VK) : Prop := x = .ref a ∧ cls = .ref C ∧ ∃ (dd : Addr) (v : V), d = some dd ∧ H dd = some (.xd [(f, v)]) ∧ Q v H
theorem w_getE {a : Addr} {te : TE} {Q : VK} (q : te σ H fun x H1 => getE C f a cls d x H1 Q) : tGetE C f a cls d te σ H Q := q
theorem w_callW {i : Nat} {fa : Addr} {sp : Sp} {t : TA} {Q : VK} (h : σ[i]? = some (some (.ref fa))) (q : t σ H fun vs H1 => sp vs H1 Q fun cls d H' => W cls d σ H') : tCallW i fa sp W t σ H Q := ⟨h, q⟩
end
/-- a new list is the answer -/
def NewL (xs : List V) (H : Hp) (Q : VK) : Prop := ∀ p H', Ex H H' → H p = none → H' p = some (.lst xs) → Q (.ref p) H'
inductive Odd (C : Addr) (H : Hp) : V → Prop
  | non : Odd C H .non
  | bl (b : Bool) : Odd C H (.bl b)
  | int (i : Int) : Odd C H (.int i)
  | str {z : Str} (h : OkS z 10000) : Odd C H (.str z)
  | lst {a : Addr} {xs : List V} (h : H a = some (.lst xs)) (hf : ∀ x ∈ xs, flatB x = true) : Odd C H (.ref a)
  | tup {a : Addr} {ys : List Str} (h : H a = some (.tup (ys.map V.str))) (hf : ∀ y ∈ ys, PyData.strOk y = true) : Odd C H (.ref a)
  | dic {a : Addr} (h : H a = some (.dK [])) : Odd C H (.ref a)
  | meas {x : Addr} {k a b : Str} (h : IsMeas C H x k a b) (hk : OkS k 100) (ha : OkS a 100) (hb : OkS b 100) : Odd C H (.ref x)
theorem IsMeas.ext {C : Addr} {H H' : Hp} {x : Addr} {k a b : Str} (e : LamX.ExtN H H') (h : IsMeas C H x k a b) : IsMeas C H' x k a b :=
  let ⟨dx, t, h1, h2⟩ := h
  ⟨dx, t, e _ _ h1 (fun _ z => nomatch z), e _ _ h2 (fun _ z => nomatch z)⟩
theorem Odd.ext {C : Addr} {H H' : Hp} {v : V} (e : LamX.ExtN H H') (h : Odd C H v) : Odd C H' v := by
  cases h with
  | non => exact .non
  | bl b => exact .bl b
  | int i => exact .int i
  | str h => exact .str h
  | lst h hf => exact .lst (e _ _ h (fun _ z => nomatch z)) hf
  | tup h hf => exact .tup (e _ _ h (fun _ z => nomatch z)) hf
  | dic h => exact .dic (e _ _ h (fun _ z => nomatch z))
  | meas h hk ha hb => exact .meas (h.ext e) hk ha hb
theorem Ex.n {H H' : Hp} (e : Ex H H') : LamX.ExtN H H' := LamX.ExtN.of e
def lamR (T : List (Addr × Str)) (q : Str) (tb : XK → TE) (spg : Addr → Sp → Sp) (E : XK) (t : TA) (σ : L2.St) (H : Hp) (Q : VK) : Prop := ∀ (f c : Addr) (H1 : Hp), LamX.ExtN H H1 → LamX.Tabs T H1 → H1 c = some (LamX.CodeO c q) → t σ H1 fun vs H2 => spg f (spLam c q tb σ) (.ref f :: vs) H2 Q E
theorem w_lam1 {T : List (Addr × Str)} {q : Str} {tb : XK → TE} {spg : Addr → Sp → Sp} {E : XK} {t : TA} {σ : L2.St} {H : Hp} {Q : VK} (hT : LamX.Tabs T H) (h : lamR T q tb spg E t σ H Q) : tLam1 T q tb spg E t σ H Q := ⟨hT, h⟩
def isR (C : Addr) (x : V) (P : Prop) : Prop := x = .ref C ∧ P
theorem is_of {C : Addr} {P : Prop} (p : P) : isR C (.ref C) P := ⟨rfl, p⟩
theorem w_cmeth {C : Addr} {sp : Sp} {E : XK} {ta : TE} {t : TA} {σ : L2.St} {H : Hp} {Q : VK} (q : ta σ H fun x H1 => isR C x (t σ H1 fun vs H2 => sp (.ref C :: vs) H2 Q E)) : ClX.tCMeth C sp E ta t σ H Q := q
theorem ExtN.l {K : PySem.W.Frag} {H H' : Hp} {a : Addr} {xs : List V} (e : LamX.ExtN H H') (h : SqL K H a xs) : SqL K H' a xs := h.elim (fun h => .inl (h.elim (fun h => .inl (e _ _ h (fun _ z => nomatch z))) fun ⟨o, h⟩ => .inr ⟨o, e _ _ h (fun _ z => nomatch z)⟩)) .inr
theorem BoxAt.ext {H H' : Hp} {p : Addr} {n : Nat} (e : LamX.ExtN H H') (h : BoxAt H p n) : BoxAt H' p n := by
  obtain ⟨o, h1, h2⟩ := h
  refine ⟨o, e _ _ h1 (fun ps z => ?_), h2⟩
  obtain ⟨a, b, c, e2, _⟩ := h2
  rw [e2] at z
  cases z
end G
set_option Elab.async false
set_option linter.all false
set_option maxRecDepth 100000
set_option maxHeartbeats 3900000
namespace M
open PySem PySem.Spec PyProof.Rows L2 G
abbrev Hds := List (Addr × Option (Str × Str))
def dealR (K : PySem.W.Frag) : Hds → Addr → Str → V → Hp → VK → Prop
  | [], _, _, _, _, _ => False
  | (Ci, o) :: hs, C, f, v, H, Q => ∃ b, PySem.W.exmOne K (.ref C) (.ref Ci) = some b ∧ if b = true then (match o with
    | some (w, g) => C = Ci ∧ f = g ∧ NewL [.str w, v] H Q
    | none => NewL [.str (Str.ofString "other")] H Q) else dealR K hs C f v H Q
def sp_caughtG (K : PySem.W.Frag) (hs : Hds) (fa : Addr) (spA : Sp) : Sp := fun vs H Q _ => ∃ v, vs = [.ref fa, v] ∧ ∀ (Q' : VK) (E' : XK), (∀ r H1, NewL [.str (Str.ofString "told"), r] H1 Q → Q' r H1) →
  (∀ (C : Addr) (f : Str) (dd : Addr) (v' : V) (H1 : Hp), H1 dd = some (.xd [(f, v')]) → dealR K hs C f v' H1 Q → E' (.ref C) (some dd) H1) → spA [v] H Q' E'
def dealD (K : PySem.W.Frag) : Hds → Addr → Str → D → SH → QD → Prop
  | [], _, _, _, _, _ => False
  | (Ci, o) :: hs, C, f, d, c, Φ => ∃ b, PySem.W.exmOne K (.ref C) (.ref Ci) = some b ∧ if b = true then (match o with
    | some (w, g) => C = Ci ∧ f = g ∧ Φ (.lst [.str w, d]) c
    | none => Φ (.lst [.str (Str.ofString "other")]) c) else dealD K hs C f d c Φ
def caughtM (K : PySem.W.Frag) (hs : Hds) (lam : ME) (a : MA) : ME := fun δ c Ψ Φ => a δ c Ψ fun xs c1 => oneD xs fun x => lam (δ ++ [some x]) c1 (fun C f d c' => dealD K hs C f d c' Φ) fun d c' => Φ (.lst [.str (Str.ofString "told"), d]) c'
section
variable {K : PySem.W.Frag} {tb : List (Addr × Str)} {W : WX} {al al' : List Addr} {G G' : Hp} {c c' : SH} {H H' : Hp}
theorem new_lst {Φ : QD} {Q : VK} {vs : List V} {ds : List D} (R : Rep K tb al' G' c' H') (l : Le al G c H al' G' c' H') (dn : DenL K al' G' vs ds) (m : Φ (.lst ds) c') (q : Ret K tb al G c H Φ Q) : NewL vs H' Q := by
  intro p H2 ex hp hl
  have R2 := R.grow ex
  have l2 := l.trans (Le.grow ex)
  have nl : ¬ Liv al' c' p := (Apart.new R hp).liv
  obtain ⟨R3, ex3⟩ := R2.adopt hl nl nofun
  exact q _ c' al' _ H2 _ R3 (l2.adopt hl ex3 (l.dom _ (.of hp))) (.lst upd_same (dn.mono (fun _ _ => id) ex3)) m
theorem deal_ok {C : Addr} {f : Str} {d : D} {v : V} {Φ : QD} {Q : VK} (R : Rep K tb al' G' c' H') (l : Le al G c H al' G' c' H') (dn : Den K al' G' v d) (q : Ret K tb al G c H Φ Q) : ∀ hs : Hds, dealD K hs C f d c' Φ → dealR K hs C f v H' Q
  | [], m => m
  | (Ci, o) :: hs, ⟨b, hb, m⟩ => by
    refine ⟨b, hb, ?_⟩
    cases b with
    | false => exact iteF (deal_ok R l dn q hs m)
    | true =>
      refine iteT ?_
      rw [if_pos rfl] at m
      cases o with
      | none => exact new_lst R l (.cons (.str _) .nil) m q
      | some wg => exact ⟨m.1, m.2.1, new_lst R l (.cons (.str _) (.cons dn .nil)) m.2.2 q⟩
theorem snd_caught {q : Str} {tbd : XK → TE} {hs : Hds} {lam : ME} {E : XK} {tA : TA} {mA : MA} (hl : ∀ E, SndE K tb (fun C d _ H => E C d H) (tbd E) lam) (hA : SndA K tb W tA mA) : SndE K tb W (tLam1 tb q tbd (fun f sp => sp_caughtG K hs f sp) E tA) (caughtM K hs lam mA) := by
  intro al G c H σ δ Ψ Φ Q g m qq
  refine ⟨g.rep.tab, fun f cc H1 ex t1 hc => ?_⟩
  have r1 := g.rep.extn ex t1
  have l1 : Le al G c H al G c H1 := Le.extn ex
  refine hA al G c H1 σ δ Ψ _ _ (g.le r1 l1) m fun xs c2 al2 G2 H2 vs r2 l2 d2 m2 => ?_
  obtain ⟨x, v, rfl, rfl, dx, m3⟩ := oneD_of m2 d2
  refine ⟨v, rfl, fun Q' E' hQ hE => ⟨v, rfl, ?_, ?_⟩⟩
  · refine l2.fr cc _ hc (fun z => ?_) nofun
    obtain ⟨u, hu, _, n⟩ := r1.liv z
    rw [hc] at hu
    cases hu
    exact n _ rfl
  · have s2 : SRel K al2 G2 (σ ++ [some v]) (δ ++ [some x]) := by
      have s := (g.env.le l1).le l2
      refine ⟨by rw [List.length_append, List.length_append, s.1]; rfl, fun i d hi => ?_⟩
      rcases get_app hi with h | ⟨e, e2⟩
      · obtain ⟨w, h1, h2⟩ := s.2 i d h
        exact ⟨w, app_get h1, h2⟩
      · cases e2
        refine ⟨v, ?_, dx⟩
        rw [e, ← s.1, List.getElem?_append_right (Nat.le_refl _), Nat.sub_self]
        rfl
    refine hl E' al2 G2 c2 H2 _ _ _ _ _ ⟨r2, s2, fun C f d c3 al3 G3 H3 dd w r3 l3 fr hd d3 m4 => ?_⟩ m3 fun d c3 al3 G3 H3 w r3 l3 d3 m4 => ?_
    · exact hE C f dd w H3 hd (deal_ok r3 ((l1.trans l2).trans l3) d3 qq hs m4)
    · exact hQ w H3 (new_lst r3 ((l1.trans l2).trans l3) (.cons (.str _) (.cons d3 .nil)) m4 qq)
end
end M
set_option Elab.async false
set_option linter.all false
set_option maxRecDepth 100000
set_option maxHeartbeats 3900000
namespace M
open PySem PySem.Spec PyProof.Rows L2 G
def yesM : MT := fun _ c _ Φ => Φ true c
def neverM : MS := fun _ _ _ => False
theorem snd_yes {K : PySem.W.Frag} {tb : List (Addr × Str)} {W : WX} : SndT K tb W tYes yesM := fun al G c H σ δ Ψ Φ Q g m q => q true c al G H g.rep .refl m
theorem snd_never {K : PySem.W.Frag} {tb : List (Addr × Str)} {W : WX} : SndS K tb W tNever neverM := fun al G c H σ δ e D R s m q => m
def rStrU : List V → Hp → VK → Prop := fun xs H Q => (∃ a, xs = [.str a] ∧ Q (.str a) H) ∨ ∃ i, xs = [.int i] ∧ i.natAbs.log2 < 1920 ∧ Q (.str (toString i)) H
def strD (xs : List D) (c : SH) (Φ : QD) : Prop := oneD xs fun x => match x with
  | .str a => Φ (.str a) c
  | .int i => i.natAbs.log2 < 1920 ∧ Φ (.str (toString i)) c
  | _ => False
theorem dc_str {K : PySem.W.Frag} {tb : List (Addr × Str)} : DCall K tb rStrU strD := by
  intro al G c H xs ds Φ Q R hd m q
  obtain ⟨x, v, rfl, rfl, dx, m2⟩ := oneD_of m hd
  split at m2
  · cases dx; exact .inl ⟨_, rfl, q _ c al G H _ R .refl (.str _) m2⟩
  · cases dx; exact .inr ⟨_, rfl, m2.1, q _ c al G H _ R .refl (.str _) m2.2⟩
  · cases m2
def reprD (xs : List D) (c : SH) (Φ : QD) : Prop := oneD xs fun x => match x with
  | .bl b => Φ (.str (if b then "True" else "False")) c
  | .int i => i.natAbs.log2 < 1920 ∧ Φ (.str (toString i)) c
  | _ => False
theorem dc_repr {K : PySem.W.Frag} {tb : List (Addr × Str)} : DCall K tb rReprU reprD := by
  intro al G c H xs ds Φ Q R hd m q
  obtain ⟨x, v, rfl, rfl, dx, m2⟩ := oneD_of m hd
  split at m2
  · cases dx; exact .inl ⟨_, rfl, q _ c al G H _ R .refl (.str _) m2⟩
  · cases dx; exact .inr ⟨_, rfl, m2.1, q _ c al G H _ R .refl (.str _) m2.2⟩
  · cases m2
def newK (lv : Bool) (xs : List (Key × D)) (c : SH) (Φ : QD) : Prop := if lv = true then Φ (.obj c.length) (c ++ [.dic xs]) else Φ (.dic xs) c
def dnewM (lv : Bool) : ME := fun _ c _ Φ => newK lv [] c Φ
/-- a new dict that stays as it is: locked at once -/
def tLk (t : TE) : TE := fun σ H Q => t σ H fun x H1 => ∃ d u, x = .ref d ∧ H1 d = some u ∧ Mut (some u) ∧ ∀ od, Q x (upd H1 d (.frz od u))
theorem pe_lk {X : Cx} {e : Expr} {t : TE} (h : PE X e t) : PE X e (tLk t) := by
  refine ⟨fun pins s σ H Q I hw => thn (h.run pins s σ H _ I hw) ?_⟩
  rintro v s1 ⟨x, H1, I1, r, d, u, ex, hd, mu, q⟩
  obtain ⟨od, I2⟩ := I1.lock hd mu
  exact ⟨x, _, I2, r, q od⟩
section
variable {K : PySem.W.Frag} {tb : List (Addr × Str)} {al al1 : List Addr} {G G1 : Hp} {c c1 : SH} {H H1 : Hp} {xs : List (Key × D)} {vs : List (Key × V)} {Φ : QD} {Q : VK} {p : Addr} {W : WX}
theorem lk_of (R : Rep K tb al1 G1 c1 H1) (ap : Apart al1 G1 c1 p) (hp : H1 p = some (.dK vs)) (hd : DenK K al1 G1 vs xs) (l : Le al G c H al1 G1 c1 H1) (hn : Fr H p) (q : Ret K tb al G c H Φ Q) (m : Φ (.dic xs) c1) :
    ∃ d u, V.ref p = .ref d ∧ H1 d = some u ∧ Mut (some u) ∧ ∀ od, Q (.ref p) (upd H1 d (.frz od u)) := by
  refine ⟨p, _, rfl, hp, trivial, fun od => ?_⟩
  have r2 := R.foreign (o := .frz od (.dK vs)) hp nofun nofun ap.g ap.liv ap.k
  have l2 := l.foreign (o := .frz od (.dK vs)) hn nofun
  obtain ⟨r3, e3⟩ := r2.adopt upd_same ap.liv nofun
  exact q _ c1 al1 _ _ _ r3 (l2.adopt upd_same e3 hn) (.dic upd_same (hd.mono (fun _ _ => id) e3)) m
theorem lk_new (R : Rep K tb al G c H) (hp : H p = none) (hd : DenK K al G vs xs) (q : Ret K tb al G c H Φ Q) (m : Φ (.dic xs) c) :
    ∃ d u, V.ref p = .ref d ∧ (upd H p (.dK vs)) d = some u ∧ Mut (some u) ∧ ∀ od, Q (.ref p) (upd (upd H p (.dK vs)) d (.frz od u)) :=
  lk_of (R.grow (Ex.new hp)) (Apart.new R hp) upd_same hd (Le.grow (Ex.new hp)) (.of hp) q m
theorem newK_ok (R : Rep K tb al G c H) (hp : H p = none) (hd : DenK K al G vs xs) (m : newK true xs c Φ) (q : Ret K tb al G c H Φ Q) : Q (.ref p) (upd H p (.dK vs)) := by
  unfold newK at m
  rw [if_pos rfl] at m
  have R2 : Rep K tb (al ++ [p]) G (c ++ [.dic xs]) (upd H p (.dK vs)) := R.obj hp (Ex.new hp) ⟨vs, upd_same, hd.mono (fun _ _ => app_get) (Ex.refl _)⟩ rfl
  refine q (.obj c.length) _ _ G _ (.ref p) R2 (Le.obj R hp (Ex.new hp)) (.obj ?_) m
  rw [← R.len, List.getElem?_append_right (Nat.le_refl _), Nat.sub_self]
  rfl
theorem newK_f (m : newK false xs c Φ) : Φ (.dic xs) c := by
  unfold newK at m
  rw [if_neg (by decide)] at m
  exact m
theorem snd_dnew : SndE K tb W tDNewK (dnewM true) := fun al G c H σ δ Ψ Φ Q g m q p hp => newK_ok g.rep hp .nil m q
theorem snd_dnewL : SndE K tb W (tLk tDNewK) (dnewM false) := fun al G c H σ δ Ψ Φ Q g m q p hp => lk_new g.rep hp .nil q (newK_f m)
/-- a live dict becomes data -/
def lkM (a : ME) : ME := fun δ c Ψ Φ => a δ c Ψ fun x c1 => match x with
  | .obj k => match c1[k]? with
    | some (.dic xs) => Φ (.dic xs) (c1.set k (.frz (.dic xs)))
    | _ => False
  | _ => False
theorem snd_lk {ta : TE} {a : ME} (ha : SndE K tb W ta a) : SndE K tb W (tLk ta) (lkM a) := by
  intro al G c H σ δ Ψ Φ Q g m q
  refine ha al G c H σ δ Ψ _ _ g m fun x c1 al1 G1 H1 v r1 l1 d1 m1 => ?_
  split at m1
  · rename_i k
    split at m1
    · rename_i xs hs
      cases d1 with
      | obj hk =>
        obtain ⟨vs, h1, h2⟩ := r1.ent k _ _ hk hs
        refine ⟨_, _, rfl, h1, trivial, fun od => ?_⟩
        have r2 := r1.change (u := .frz od (.dK vs)) hk hs rfl (o := .lck od vs xs) ⟨upd_same, h2⟩ rfl
        have l2 := Le.change (o := .lck od vs xs) r1 hk hs rfl (u := .frz od (.dK vs)) nofun
        have hs2 : (c1.set k (SO.lck od vs xs))[k]? = some (.lck od vs xs) := by rw [List.getElem?_set, if_pos rfl, if_pos (List.getElem?_eq_some_iff.mp hs).1]
        have gn : G1 _ = none := r1.out k _ _ hk hs rfl
        have hden : Den K al1 (upd G1 _ (.frz od (.dK vs))) (.ref _) (.dic xs) := .dic upd_same (h2.mono (fun _ _ => id) (Ex.new gn))
        have r3 := r2.freeze hk hs2 rfl upd_same hden
        have l3 := Le.freeze r2 hk hs2 rfl (u := .frz od (.dK vs)) (d := .dic xs)
        rw [List.set_set] at r3 l3
        exact q _ _ _ _ _ _ r3 ((l1.trans l2).trans l3) hden m1
    · cases m1
  · cases m1
end
def noXF (F : Fn) : Fn := fun as c _ Φ => F as c noX Φ
theorem spg_nox {K : PySem.W.Frag} {tb : List (Addr × Str)} {F : Fn} {vs : List V} {H : Hp} {Q : VK} {E : XK} (h : SpG K tb (noXF F) vs H Q E) : SpG K tb F vs H Q fun _ _ _ => False :=
  let ⟨al, G, c, as, _, Φ, r, d, m, q, _⟩ := h
  ⟨al, G, c, as, noX, Φ, r, d, m, q, thr0⟩
theorem fn_cx0 {P : Program} {w : World} {K : PySem.W.Frag} {mg : Str → Option Value} {base : Heap} {k : Nat} {f : Addr} {fd : FuncData} {ps : List Str} {sp : Sp} (F : FnOk P w K mg base CX0 k f fd ps sp) : FnOk P w K mg base (L2.CX P w) k f fd ps sp := by
  refine ⟨F.len, fun A outer s H args us vs Q E hr e0 hb hv hs => ?_⟩
  refine codeAny_mono (F.run A outer s H args us vs Q E hr e0 hb hv hs) fun r s' h => ?_
  cases r with
  | error e => exact False.elim h
  | ok fl => cases fl <;> exact h
/-- a promise by a mirror from another one -/
theorem fn_imp {P : Program} {w : World} {K : PySem.W.Frag} {mg : Str → Option Value} {base : Heap} {CX : CXT} {k : Nat} {f : Addr} {fd : FuncData} {ps : List Str} {sp : Sp} {tb : List (Addr × Str)} {F : Fn} (h : FnOk P w K mg base CX k f fd ps sp)
    (i : ∀ al G c H as vs Ψ Φ Q E, Rep K tb al G c H → DenL K al G vs as → F as c Ψ Φ → Ret K tb al G c H Φ Q → Thr K tb al G c H Ψ E → sp vs H Q E) : FnOk P w K mg base CX k f fd ps (SpG K tb F) :=
  h.imp fun vs H Q E ⟨al, G, c, as, Ψ, Φ, r, d, m, q, x⟩ => i al G c H as vs Ψ Φ Q E r d m q x
def cellF : Fn := fun as c _ Φ => ∃ (ns : List Int) (k : Nat), as = [.scr (ns.map .int), .int (k : Int)] ∧ ns.length ≤ 63 ∧ k ≤ 100 ∧ ∀ i : Int, Φ (.int i) c
def boxF : Fn := fun as c _ Φ => ∃ i : Int, as = [.int i] ∧ Φ (.obj c.length) (c ++ [.box 0])
def takeF : Fn := fun as c _ Φ => ∃ (k n : Nat) (m : Int), as = [.obj k, .int m] ∧ c[k]? = some (.box n) ∧ n ≤ 1000000000 ∧ 0 < m ∧ m < 1073741824 ∧ ∀ d : Int, 0 ≤ d → d < m → Φ (.int d) (c.set k (.box (n + 1)))
section
variable {P : Program} {w : World} {K : PySem.W.Frag} {mg : Str → Option Value} {base : Heap} {CX : CXT} {k : Nat} {f : Addr} {fd : FuncData} {ps : List Str} {tb : List (Addr × Str)}
theorem cell_ok (h : FnOk P w K mg base CX k f fd ps (sp_cell K)) : FnOk P w K mg base CX k f fd ps (SpG K tb cellF) := fn_imp h fun al G c H as vs Ψ Φ Q E r d m q x => by
  obtain ⟨ns, k, rfl, h1, h2, m⟩ := m
  cases d with
  | cons d1 d2 =>
    cases d2 with
    | cons d2 d3 =>
      cases d3
      cases d2
      cases d1 with
      | scr hs dn =>
        have e := dn.of_ints
        subst e
        exact ⟨_, ns, k, rfl, r.sub.l hs, h1, h2, fun i => q _ c al G H _ r .refl (.int i) (m i)⟩
theorem box_ok (h : FnOk P w K mg base CX k f fd ps sp_box) : FnOk P w K mg base CX k f fd ps (SpG K tb boxF) := fn_imp h fun al G c H as vs Ψ Φ Q E r d m q x => by
  obtain ⟨i, rfl, m⟩ := m
  cases d with
  | cons d1 d2 =>
    cases d2
    cases d1
    refine ⟨i, rfl, fun p o hp hb => ?_⟩
    have R2 : Rep K tb (al ++ [p]) G (c ++ [.box 0]) (upd H p o) := r.obj hp (Ex.new hp) ⟨o, upd_same, hb⟩ rfl
    refine q (.obj c.length) _ _ G _ (.ref p) R2 (Le.obj r hp (Ex.new hp)) (.obj ?_) m
    rw [← r.len, List.getElem?_append_right (Nat.le_refl _), Nat.sub_self]
    rfl
theorem take_ok (h : FnOk P w K mg base CX k f fd ps sp_take) : FnOk P w K mg base CX k f fd ps (SpG K tb takeF) := fn_imp h fun al G c H as vs Ψ Φ Q E r d m q x => by
  obtain ⟨k, n, j, rfl, hk, h1, h2, h3, m⟩ := m
  cases d with
  | cons d1 d2 =>
    cases d2 with
    | cons d2 d3 =>
      cases d3
      cases d2
      cases d1 with
      | @obj _ p hp =>
        obtain ⟨o, ho, hb⟩ := r.ent k p _ hp hk
        refine ⟨p, j, o, n, rfl, ho, hb, h1, h2, h3, fun d o' h4 h5 h6 => ?_⟩
        have nt : ∀ ps, o' ≠ .tbl ps := by
          obtain ⟨_, _, _, rfl, _⟩ := h6
          exact nofun
        have en : Ent K al G (upd H p o') p (.box (n + 1)) := ⟨o', upd_same, h6⟩
        exact q _ _ al G _ _ (r.change hp hk rfl en rfl) (Le.change r hp hk rfl nt) (.int d) (m d h4 h5)
end
end M
set_option Elab.async false
set_option linter.all false
set_option maxRecDepth 100000
set_option maxHeartbeats 3900000
namespace M
open PySem PySem.Spec PyProof.Rows L2 G
section
variable {κ : Type} [DecidableEq κ]
/-- the first i keys without repetition -/
def met (key : Nat → κ) : Nat → List κ
  | 0 => []
  | i + 1 => if key i ∈ met key i then met key i else met key i ++ [key i]
end
end M
set_option Elab.async false
set_option linter.all false
set_option maxRecDepth 100000
set_option maxHeartbeats 3900000
namespace M
open PySem PySem.Spec PyProof.Rows L2 G
def metS (zs : List Str) : Nat := (met (fun i => zs.getD i Str.empty) zs.length).length
def rLenSet (K : PySem.W.Frag) (x : V) (H : Hp) (Q : VK) : Prop := ∃ (l : Addr) (zs : List Str), x = .ref l ∧ (SqL K H l (zs.map V.str) ∨ SqT K H l (zs.map V.str)) ∧ zs.length ≤ 4000 ∧ Q (.int (metS zs : Nat)) H
def tLenSet (K : PySem.W.Frag) (ta : TE) : TE := fun σ H Q => ta σ H fun x H1 => rLenSet K x H1 Q
/-- its mirror -/
def lenSetM (a : ME) : ME := fun δ c Ψ Φ => a δ c Ψ fun x c1 => match seqD (view c1 x) with
  | some ys => match strsD ys with
    | some zs => zs.length ≤ 4000 ∧ Φ (.int (metS zs : Nat)) c1
    | none => False
  | none => False
theorem snd_lenSet {K : PySem.W.Frag} {tb : List (Addr × Str)} {W : WX} {ta : TE} {a : ME} (ha : SndE K tb W ta a) : SndE K tb W (tLenSet K ta) (lenSetM a) := by
  intro al G c H σ δ Ψ Φ Q g m q
  refine ha al G c H σ δ Ψ _ _ g m fun x c1 al1 G1 H1 v r1 l1 d1 m1 => ?_
  split at m1
  · rename_i ys e
    split at m1
    · rename_i zs e2
      obtain ⟨p, vs, rfl, h1, h2⟩ := seq_vw e (r1.vw d1)
      rw [strs_den h2 e2] at h1
      exact ⟨p, zs, rfl, h1, m1.1, q _ c1 al1 G1 H1 _ r1 l1 (.int _) m1.2⟩
    · cases m1
  · cases m1
end M
set_option Elab.async false
set_option linter.all false
set_option maxRecDepth 100000
set_option maxHeartbeats 3900000
namespace M
open PySem PySem.Spec PyProof.Rows L2 G
structure FunV (K : PySem.W.Frag) (x qual : Str) (st : Stmt) (f : Addr) (fd : FuncData) : Prop where
  ex : ∃ (oc : Value) (od : Option Addr) (dV kV doc pm : Value) (an : Option Addr) (cdv ct : Value) (osl : Array (Option Value)), fd = PySem.W.fnOf x qual (defArgs st) (defBody st) (defScope st) dV kV doc pm an cdv ct ∧ K.lookup f = some ⟨oc, od, .func fd, osl⟩ ∧ PySem.W.codeIn K cdv qual = true
  kp : PySem.W.keepIn K (.ref f) = true
section
variable {P : Program} {w : World} {K : PySem.W.Frag} {mg : Str → Option Value} {base : Heap} {x qual : Str} {st : Stmt} {f : Addr} {fd : FuncData} {N ps : List Str} {k : Nat} {sp : Sp}
theorem funV_mk {oc : Value} {od an : Option Addr} {osl : Array (Option Value)} {dV kV doc pm cdv ct : Value} (l : K.lookup f = some ⟨oc, od, .func (PySem.W.fnOf x qual (defArgs st) (defBody st) (defScope st) dV kV doc pm an cdv ct), osl⟩)
    (c : PySem.W.codeIn K cdv qual = true) (k : PySem.W.keepIn K (.ref f) = true) : FunV K x qual st f (PySem.W.fnOf x qual (defArgs st) (defBody st) (defScope st) dV kV doc pm an cdv ct) := ⟨⟨oc, od, dV, kV, doc, pm, an, cdv, ct, osl, rfl, l, c⟩, k⟩
theorem FunV.okX (F : FunV K x qual st f fd) (S : FnScope N ps (defScope st)) (len : ∀ vs H Q E, sp vs H Q E → vs.length = ps.length)
    (body : ∀ (cdv : Value) (A : Around) (outer : List PySem.Env) (s : Shared) (H : Hp) (vs : List V) (Q : VK) (E : XK), Room k (A.deeper (envOfC qual (defScope st) s.heap.objs.size f cdv)) → sp vs H Q E →
      ∃ t, PSs (cxOf (L2.CX P w) P w K mg base N qual (defScope st) f cdv A outer s H E) (defBody st) t ∧ t { nx := fun _ H' => Q .non H', rt := Q } (L2.start N vs) H) : FnOk P w K mg base (L2.CX P w) (k + 1) f fd ps sp := by
  obtain ⟨_, _, _, _, _, _, _, cdv, _, _, rfl, lk, hc⟩ := F.ex
  exact fn_of lk hc S len (body cdv)
theorem FunV.okC {c : Addr} (F : FunV K x qual st f fd) (hc : fd.code = .ref c) (S : FnScope N ps (defScope st)) (len : ∀ vs H Q E, sp vs H Q E → vs.length = ps.length)
    (body : ∀ (A : Around) (outer : List PySem.Env) (s : Shared) (H : Hp) (vs : List V) (Q : VK) (E : XK), Room k (A.deeper (envOfC qual (defScope st) s.heap.objs.size f (.ref c))) → sp vs H Q E →
      ∃ t, PSs (cxOf CX0 P w K mg base N qual (defScope st) f (.ref c) A outer s H E).nox (defBody st) t ∧ t { nx := fun _ H' => Q .non H', rt := Q } (L2.start N vs) H) : FnOk P w K mg base CX0 (k + 1) f fd ps sp := by
  obtain ⟨_, _, _, _, _, _, _, cdv, _, _, rfl, lk, hd⟩ := F.ex
  obtain rfl : cdv = Value.ref c := hc
  refine fn_of lk hd S len fun A outer s H vs Q E hr hs => ?_
  obtain ⟨t, h, q⟩ := body A outer s H vs Q E hr hs
  exact ⟨t, h.nox, q⟩
end
section
variable {X : Cx} {K : PySem.W.Frag} {tb : List (Addr × Str)} {W : WX}
def rSortedU (K : PySem.W.Frag) : List V → Hp → VK → Prop := fun xs H Q => rSortedS K xs H Q ∨ rSorted K xs H Q
theorem call_sumU (hK : X.K = K) (hc : X.calm = true) : CallR X (.builtin "sum") (rSum K) := hK ▸ cr_sum hc
def blsD : List D → Option (List Bool)
  | [] => some []
  | .bl b :: xs => match blsD xs with
    | some bs => some (b :: bs)
    | none => none
  | _ => none
def intsD : List D → Option (List Int)
  | [] => some []
  | .int b :: xs => match intsD xs with
    | some bs => some (b :: bs)
    | none => none
  | _ => none
theorem bls_den {al : List Addr} {G : Hp} : ∀ {vs : List V} {xs : List D} {zs : List Bool}, DenL K al G vs xs → blsD xs = some zs → vs = zs.map V.bl
  | _, _, _, .nil, e => by cases e; rfl
  | _, _, _, .cons h r, e => by
    cases h with
    | bl z =>
      unfold blsD at e
      split at e
      · rename_i zs h2
        cases e
        rw [bls_den r h2]
        rfl
      · cases e
    | _ => cases e
theorem ints_den {al : List Addr} {G : Hp} : ∀ {vs : List V} {xs : List D} {zs : List Int}, DenL K al G vs xs → intsD xs = some zs → vs = zs.map V.int
  | _, _, _, .nil, e => by cases e; rfl
  | _, _, _, .cons h r, e => by
    cases h with
    | int z =>
      unfold intsD at e
      split at e
      · rename_i zs h2
        cases e
        rw [ints_den r h2]
        rfl
      · cases e
    | _ => cases e
def allD (xs : List D) (c : SH) (Φ : QD) : Prop := oneD xs fun x => match lstD (view c x) with
  | some ys => match blsD ys with
    | some bs => Φ (.bl (bs.all id)) c
    | none => False
  | none => False
def anyD (xs : List D) (c : SH) (Φ : QD) : Prop := oneD xs fun x => match lstD (view c x) with
  | some ys => match blsD ys with
    | some bs => Φ (.bl (bs.any id)) c
    | none => False
  | none => False
def sumD (xs : List D) (c : SH) (Φ : QD) : Prop := oneD xs fun x => match lstD (view c x) with
  | some ys => match intsD ys with
    | some bs => Φ (.int bs.sum) c
    | none => False
  | none => False
def sortedD (lv : Bool) (xs : List D) (c : SH) (Φ : QD) : Prop := oneD xs fun x => match lstD (view c x) with
  | some ys => (∃ zs, strsD ys = some zs ∧ zs.length < 64 ∧ ∀ us : List Str, us.Perm zs → sortedS us = true → newL lv (us.map .str) c Φ) ∨ ∃ zs, intsD ys = some zs ∧ zs.length < 64 ∧ ∀ us : List Int, us.Perm zs → us.Pairwise (· ≤ ·) → newL lv (us.map .int) c Φ
  | none => False
theorem dc_all : DCall K tb (rAll K) allD := by
  intro al G c H xs ds Φ Q R hd m q
  obtain ⟨x, v, rfl, rfl, dx, m2⟩ := oneD_of m hd
  split at m2
  · rename_i ys e
    split at m2
    · rename_i bs e2
      obtain ⟨b, vs, rfl, h1, h2⟩ := lst_vw e (R.vw dx)
      rw [bls_den h2 e2] at h1
      exact ⟨b, bs, rfl, h1, q _ c al G H _ R .refl (.bl _) m2⟩
    · cases m2
  · cases m2
theorem dc_any : DCall K tb (rAny K) anyD := by
  intro al G c H xs ds Φ Q R hd m q
  obtain ⟨x, v, rfl, rfl, dx, m2⟩ := oneD_of m hd
  split at m2
  · rename_i ys e
    split at m2
    · rename_i bs e2
      obtain ⟨b, vs, rfl, h1, h2⟩ := lst_vw e (R.vw dx)
      rw [bls_den h2 e2] at h1
      exact ⟨b, bs, rfl, h1, q _ c al G H _ R .refl (.bl _) m2⟩
    · cases m2
  · cases m2
theorem dc_sum : DCall K tb (rSum K) sumD := by
  intro al G c H xs ds Φ Q R hd m q
  obtain ⟨x, v, rfl, rfl, dx, m2⟩ := oneD_of m hd
  split at m2
  · rename_i ys e
    split at m2
    · rename_i bs e2
      obtain ⟨b, vs, rfl, h1, h2⟩ := lst_vw e (R.vw dx)
      rw [ints_den h2 e2] at h1
      exact ⟨b, bs, rfl, h1, q _ c al G H _ R .refl (.int _) m2⟩
    · cases m2
  · cases m2
theorem dc_sorted {lv : Bool} : DCall K tb (rSortedU K) (sortedD lv) := by
  intro al G c H xs ds Φ Q R hd m q
  obtain ⟨x, v, rfl, rfl, dx, m2⟩ := oneD_of m hd
  split at m2
  · rename_i ys e
    obtain ⟨b, vs, rfl, h1, h2⟩ := lst_vw e (R.vw dx)
    rcases m2 with ⟨zs, e2, h64, m2⟩ | ⟨zs, e2, h64, m2⟩
    · rw [strs_den h2 e2] at h1
      exact .inl ⟨b, zs, rfl, h1, h64, fun us p hp hs hn => newL_ok R hn (DenL.strs us) (m2 us hp hs) q⟩
    · rw [ints_den h2 e2] at h1
      exact .inr ⟨b, zs, rfl, h1, h64, fun us p hp hs hn => newL_ok R hn (DenL.ints us) (m2 us hp hs) q⟩
  · cases m2
theorem pe_revU (hK : X.K = K) {e : Expr} {te : TE} {k : Nat} {p1 p2 p3 pos : Pos} (he : PE X e te) : PE X (.Subscript e (.Slice none none (some (.UnaryOp .USub (.Constant (.int 1) k p1) p2)) p3) pos) (tRevL K te) := hK ▸ pe_revL he
def revM (lv : Bool) (a : ME) : ME := fun δ c Ψ Φ => a δ c Ψ fun x c1 => match lstD (view c1 x) with
  | some ys => newL lv ys.reverse c1 Φ
  | none => False
theorem snd_rev {lv : Bool} {ta : TE} {a : ME} (ha : SndE K tb W ta a) : SndE K tb W (tRevL K ta) (revM lv a) := by
  intro al G c H σ δ Ψ Φ Q g m q
  refine ha al G c H σ δ Ψ _ _ g m fun x c1 al1 G1 H1 v r1 l1 d1 m1 => ?_
  split at m1
  · rename_i ys e
    obtain ⟨b, vs, rfl, h1, h2⟩ := lst_vw e (r1.vw d1)
    exact ⟨b, vs, rfl, h1, fun p hp => newL_ok r1 hp h2.reverse m1 (q.le l1)⟩
  · cases m1
def par3M (i j l : Nat) (a : MA) : MS := fun δ c e => a δ c (e.x δ) fun xs c1 => match xs with
  | [x, y, z] => e.nx (((δ.set i (some x)).set j (some y)).set l (some z)) c1
  | _ => False
theorem snd_par3 {i j l : Nat} {tA : TA} {mA : MA} (hA : SndA K tb W tA mA) : SndS K tb W (tPar3 i j l tA) (par3M i j l mA) := by
  intro al G c H σ δ e D R s m q
  refine hA al G c H σ δ (e.x δ) _ _ (q.go R s) m fun xs c1 al1 G1 H1 vs r1 l1 d1 m1 => ?_
  split at m1
  · cases d1 with
    | cons d1 d2 =>
      cases d2 with
      | cons d2 d3 =>
        cases d3 with
        | cons d3 d4 =>
          cases d4
          exact ⟨_, _, _, rfl, q.nx _ c1 al1 G1 H1 _ r1 l1 ((((s.le l1).set d1).set d2).set d3) m1⟩
  · cases m1
def rTupU (K : PySem.W.Frag) : List V → Hp → VK → Prop := fun xs H Q => ∃ p ys, xs = [.ref p] ∧ ((SqL K H p ys ∧ ∀ l, H l = none → Q (.ref l) (upd H l (.tup ys))) ∨ (SqT K H p ys ∧ Q (.ref p) H))
theorem call_tupU (hK : X.K = K) : CallR X (.type "tuple") (rTupU K) := hK ▸ call_tuple_of
def tupleD (xs : List D) (c : SH) (Φ : QD) : Prop := oneD xs fun x => match view c x with
  | .lst ys => Φ (.tup ys) c
  | .scr ys => Φ (.tup ys) c
  | .tup ys => Φ x c
  | _ => False
theorem dc_tuple : DCall K tb (rTupU K) tupleD := by
  intro al G c H xs ds Φ Q R hd m q
  obtain ⟨x, v, rfl, rfl, dx, m2⟩ := oneD_of m hd
  have vx := R.vw dx
  have new : ∀ {vs : List V} {ys : List D}, DenL K al G vs ys → Φ (.tup ys) c → ∀ l, H l = none → Q (.ref l) (upd H l (.tup vs)) := fun dn m l hl =>
    let ⟨r2, l2, d2⟩ := pair_new R hl dn
    q _ c al _ _ _ r2 l2 d2 m
  split at m2
  · rename_i ys e
    rw [e] at vx
    cases vx with
    | lst h r => exact ⟨_, _, rfl, .inl ⟨.of h, new r m2⟩⟩
  · rename_i ys e
    rw [e] at vx
    cases vx with
    | scr h r => exact ⟨_, _, rfl, .inl ⟨h, new r m2⟩⟩
  · rename_i ys e
    rw [e] at vx
    cases vx with
    | tup h r => exact ⟨_, _, rfl, .inr ⟨.of h, q _ c al G H _ R .refl dx m2⟩⟩
  · cases m2
theorem pi_zipU (hK : X.K = K) {elts : List Expr} {kk : Nat} {tpos p pos : Pos} {es : List Expr} {ta : TA} (h : PI X (.Tuple elts kk tpos) (.Call (.Name "zip" p) es [] pos) (iZip X.K ta)) : PI X (.Tuple elts kk tpos) (.Call (.Name "zip" p) es [] pos) (iZip K ta) := hK ▸ h
end
end M
set_option Elab.async false
set_option linter.all false
set_option maxRecDepth 100000
set_option maxHeartbeats 3900000
namespace M
open PySem PySem.Spec PyProof.Rows L2 G
def keyD : D → Option Key
  | .int i => some (.inl i)
  | .str z => some (.inr z)
  | _ => none
def putKD (kvs : List (Key × D)) (k : Key) (v : D) : List (Key × D) := if (kvs.any fun kv => decide (kv.1 = k)) = true then kvs.map (fun kv => if kv.1 = k then (kv.1, v) else kv) else kvs ++ [(k, v)]
def mergeD (kvs more : List (Key × D)) : List (Key × D) := more.foldl (fun acc kv => putKD acc kv.1 kv.2) kvs
def valD (kvs : List (Key × D)) (k : Key) : Option D := (kvs.find? fun kv => decide (kv.1 = k)).map (·.2)
section
variable {K : PySem.W.Frag} {al : List Addr} {G : Hp}
theorem DenK.append : ∀ {vs us : List (Key × V)} {ds es : List (Key × D)}, DenK K al G vs ds → DenK K al G us es → DenK K al G (vs ++ us) (ds ++ es)
  | _, _, _, _, .nil, s => s
  | _, _, _, _, .cons h r, s => .cons h (r.append s)
theorem DenK.any {k : Key} : ∀ {vs : List (Key × V)} {ds : List (Key × D)}, DenK K al G vs ds → (vs.any fun kv => decide (kv.1 = k)) = (ds.any fun kv => decide (kv.1 = k))
  | _, _, .nil => rfl
  | _, _, .cons h r => by rw [List.any_cons, List.any_cons, r.any]
theorem DenK.put1 {k : Key} {v : V} {d : D} (hv : Den K al G v d) : ∀ {vs : List (Key × V)} {ds : List (Key × D)}, DenK K al G vs ds → DenK K al G (vs.map fun kv => if kv.1 = k then (kv.1, v) else kv) (ds.map fun kv => if kv.1 = k then (kv.1, d) else kv)
  | _, _, .nil => .nil
  | _, _, .cons (k := j) h r => by
    rw [List.map_cons, List.map_cons]
    by_cases e : j = k
    · rw [if_pos e, if_pos e]; exact .cons hv (r.put1 hv)
    · rw [if_neg e, if_neg e]; exact .cons h (r.put1 hv)
theorem DenK.put {k : Key} {v : V} {d : D} {vs : List (Key × V)} {ds : List (Key × D)} (h : DenK K al G vs ds) (hv : Den K al G v d) : DenK K al G (putK vs k v) (putKD ds k d) := by
  unfold putK putKD
  rw [h.any]
  split
  · exact h.put1 hv
  · exact h.append (.cons hv .nil)
theorem DenK.merge : ∀ {us : List (Key × V)} {es : List (Key × D)}, DenK K al G us es → ∀ {vs : List (Key × V)} {ds : List (Key × D)}, DenK K al G vs ds → DenK K al G (mergeK vs us) (mergeD ds es)
  | _, _, .nil, _, _, h => h
  | _, _, .cons q r, _, _, h => r.merge (h.put q)
theorem DenK.val {k : Key} : ∀ {vs : List (Key × V)} {ds : List (Key × D)} {d : D}, DenK K al G vs ds → valD ds k = some d → ∃ v, valV vs k = some v ∧ Den K al G v d
  | _, _, _, .nil, e => by cases e
  | _, _, d, .cons (k := j) h r, e => by
    unfold valD valV at *
    by_cases q : j = k
    · simp only [List.find?_cons, q, decide_true] at e ⊢
      cases e
      exact ⟨_, rfl, h⟩
    · simp only [List.find?_cons, q, decide_false] at e ⊢
      exact DenK.val r e
theorem DenK.val0 {k : Key} : ∀ {vs : List (Key × V)} {ds : List (Key × D)}, DenK K al G vs ds → valD ds k = none → valV vs k = none
  | _, _, .nil, e => rfl
  | _, _, .cons (k := j) h r, e => by
    unfold valD valV at *
    by_cases q : j = k
    · simp only [List.find?_cons, q, decide_true] at e
      cases e
    · simp only [List.find?_cons, q, decide_false] at e ⊢
      exact DenK.val0 r e
theorem key_den {v : V} {d : D} {k : Key} (h : Den K al G v d) (e : keyD d = some k) : v = kV k := by
  cases h with
  | int i => cases e; rfl
  | str z => cases e; rfl
  | _ => cases e
end
abbrev MP := Env → SH → XD → (List (Key × D) → SH → Prop) → Prop
def pnilM : MP := fun _ c _ Φ => Φ [] c
def pconsM (k v : ME) (r : MP) : MP := fun δ c Ψ Φ => k δ c Ψ fun x c1 => v δ c1 Ψ fun y c2 => match keyD x with
  | some j => r δ c2 Ψ fun ps c3 => Φ ((j, y) :: ps) c3
  | none => False
def dispM (lv : Bool) (p : MP) : ME := fun δ c Ψ Φ => p δ c Ψ fun kvs c1 => kvs.length ≤ 15 ∧ newK lv (mergeD [] kvs) c1 Φ
def SndP (K : PySem.W.Frag) (tb : List (Addr × Str)) (W : WX) (trs : List (TE × TE)) (m : MP) : Prop := ∀ al G c H σ δ Ψ Φ Q, Go K tb al G c H W σ δ Ψ → m δ c Ψ Φ → (∀ kvs vs c' al' G' H', Rep K tb al' G' c' H' → Le al G c H al' G' c' H' → DenK K al' G' vs kvs → Φ kvs c' → Q (vs.map fun kv => (kV kv.1, kv.2)) H') → tPairs trs σ H Q
section
variable {K : PySem.W.Frag} {tb : List (Addr × Str)} {W : WX} {tk tv ta : TE} {mk mv a b : ME} {trs : List (TE × TE)} {mp : MP}
theorem snd_pnil : SndP K tb W [] pnilM := fun al G c H σ δ Ψ Φ Q g m q => q [] [] c al G H g.rep .refl .nil m
theorem snd_pcons (hk : SndE K tb W tk mk) (hv : SndE K tb W tv mv) (hr : SndP K tb W trs mp) : SndP K tb W ((tk, tv) :: trs) (pconsM mk mv mp) := by
  intro al G c H σ δ Ψ Φ Q g m q
  refine hk al G c H σ δ Ψ _ _ g m fun x c1 al1 G1 H1 v r1 l1 d1 m1 => ?_
  refine hv al1 G1 c1 H1 σ δ Ψ _ _ (g.le r1 l1) m1 fun y c2 al2 G2 H2 w r2 l2 d2 m2 => ?_
  split at m2
  · rename_i j e
    refine hr al2 G2 c2 H2 σ δ Ψ _ _ (g.le r2 (l1.trans l2)) m2 fun kvs vs c3 al3 G3 H3 r3 l3 d3 m3 => ?_
    rw [key_den d1 e]
    exact q ((j, y) :: kvs) ((j, w) :: vs) c3 al3 G3 H3 r3 ((l1.trans l2).trans l3) (.cons (d2.le l3) d3) m3
  · cases m2
theorem snd_disp (hp : SndP K tb W trs mp) : SndE K tb W (tDisp trs) (dispM true mp) := by
  intro al G c H σ δ Ψ Φ Q g m q p hn
  have ex : Ex H (upd H p (.dK [])) := Ex.new hn
  have r0 := g.rep.grow ex
  have l0 : Le al G c H al G c (upd H p (.dK [])) := Le.grow ex
  have ap : Apart al G c p := Apart.new g.rep hn
  refine hp al G c _ σ δ Ψ _ _ (g.le r0 l0) m fun kvs vs c1 al1 G1 H1 r1 l1 d1 m1 => ?_
  obtain ⟨ap1, h1⟩ := ap.le (u := .dK []) upd_same nofun l1
  refine ⟨h1, vs, rfl, by rw [d1.length]; exact m1.1, ?_⟩
  have dn : DenK K al1 G1 (mergeK [] vs) (mergeD [] kvs) := d1.merge .nil
  have r2 : Rep K tb al1 G1 c1 (upd H1 p (.dK (mergeK [] vs))) := r1.foreign h1 nofun nofun ap1.g ap1.liv ap1.k
  have l2 : Le al G c H al1 G1 c1 (upd H1 p (.dK (mergeK [] vs))) := (l0.trans l1).foreign (.of hn) nofun
  have m2 := m1.2
  unfold newK at m2
  rw [if_pos rfl] at m2
  obtain ⟨r3, l3, k3⟩ := r2.own ap1 upd_same nofun (o := .dic (mergeD [] kvs)) ⟨_, upd_same, dn.mono (fun _ _ => app_get) (Ex.refl _)⟩ rfl
  exact q _ _ _ G1 _ _ r3 (l2.own r2 (.of hn)) (.obj k3) m2
theorem snd_dispL (hp : SndP K tb W trs mp) : SndE K tb W (tLk (tDisp trs)) (dispM false mp) := by
  intro al G c H σ δ Ψ Φ Q g m q p hn
  have ex : Ex H (upd H p (.dK [])) := Ex.new hn
  have r0 := g.rep.grow ex
  have l0 : Le al G c H al G c (upd H p (.dK [])) := Le.grow ex
  have ap : Apart al G c p := Apart.new g.rep hn
  refine hp al G c _ σ δ Ψ _ _ (g.le r0 l0) m fun kvs vs c1 al1 G1 H1 r1 l1 d1 m1 => ?_
  obtain ⟨ap1, h1⟩ := ap.le (u := .dK []) upd_same nofun l1
  refine ⟨h1, vs, rfl, by rw [d1.length]; exact m1.1, ?_⟩
  have dn : DenK K al1 G1 (mergeK [] vs) (mergeD [] kvs) := d1.merge .nil
  have r2 : Rep K tb al1 G1 c1 (upd H1 p (.dK (mergeK [] vs))) := r1.foreign h1 nofun nofun ap1.g ap1.liv ap1.k
  have l2 : Le al G c H al1 G1 c1 (upd H1 p (.dK (mergeK [] vs))) := (l0.trans l1).foreign (.of hn) nofun
  exact lk_of r2 ap1 upd_same dn l2 (.of hn) q (newK_f m1.2)
def dgetD (x y : D) (c : SH) (Φ : QD) : Prop := match view c x, keyD y with
  | .dic kvs, some k => match valD kvs k with
    | some d => Φ d c
    | none => False
  | _, _ => False
theorem snd_dget {td ty : TE} (ha : SndE K tb W td a) (hb : SndE K tb W ty b) : SndE K tb W (tDGet td ty) (opM dgetD a b) := by
  intro al G c H σ δ Ψ Φ Q g m q
  refine ha al G c H σ δ Ψ _ _ g m fun x c1 al1 G1 H1 v r1 l1 d1 m1 => ?_
  refine hb al1 G1 c1 H1 σ δ Ψ _ _ (g.le r1 l1) m1 fun y c2 al2 G2 H2 w r2 l2 d2 m2 => ?_
  have vx := r2.vw (d1.le l2)
  unfold dgetD at m2
  split at m2
  · rename_i e1 e2
    rw [e1] at vx
    split at m2
    · rename_i d e3
      cases vx with
      | dic h r =>
        obtain ⟨u, h1, h2⟩ := r.val e3
        exact ⟨_, u, rfl, .inl ⟨_, _, h, key_den d2 e2, h1.symm⟩, q d c2 al2 G2 H2 u r2 (l1.trans l2) h2 m2⟩
    · cases m2
  · cases m2
end
end M
set_option Elab.async false
set_option linter.all false
set_option maxRecDepth 100000
set_option maxHeartbeats 3900000
namespace M
open PySem PySem.Spec PyProof.Rows L2 G
structure FnG (P : Program) (w : World) (K : PySem.W.Frag) (mg : Str → Option Value) (base : Heap) (CX : CXT) (k : Nat) (f : Addr) (fd : FuncData) (ps : List Str) (sp : Sp) : Prop where
  len : ∀ vs H Q E, sp vs H Q E → vs.length = ps.length
  run : ∀ (A : Around) (outer : List PySem.Env) (s : Shared) (H : Hp) (args : Args) (us : List Value) (vs : List V) (Q : VK) (E : XK), A.guards = some [] → Room k A → Env0 P w K mg base A outer s H → BindsTo s fd args (ps.zip us) → Vals vs us → sp vs H Q E →
    codeAny (model P w) A (.call (.ref f) args) (CR CX outer P w H s Q E) s
section
variable {P : Program} {w : World} {K : PySem.W.Frag} {mg : Str → Option Value} {base : Heap} {CX : CXT} {k : Nat} {f : Addr} {fd : FuncData} {N ps : List Str} {sp : Sp} {x qual : Str} {st : Stmt}
theorem FnG.of (F : FnOk P w K mg base CX k f fd ps sp) : FnG P w K mg base CX k f fd ps sp := ⟨F.len, fun A outer s H args us vs Q E _ => F.run A outer s H args us vs Q E⟩
/-- one A at a time: a def's promise is that of its body there -/
theorem FunV.okG (F : FunV K x qual st f fd) (S : FnScope N ps (defScope st)) (len : ∀ vs H Q E, sp vs H Q E → vs.length = ps.length)
    (body : ∀ (cdv : Value) (A : Around) (outer : List PySem.Env) (s : Shared) (H : Hp) (vs : List V) (Q : VK) (E : XK), A.guards = some [] → Room k (A.deeper (envOfC qual (defScope st) s.heap.objs.size f cdv)) → sp vs H Q E →
      ∃ t, PSs (cxOf (L2.CX P w) P w K mg base N qual (defScope st) f cdv A outer s H E) (defBody st) t ∧ t { nx := fun _ H' => Q .non H', rt := Q } (L2.start N vs) H) : FnG P w K mg base (L2.CX P w) (k + 1) f fd ps sp := by
  obtain ⟨_, _, _, _, _, _, _, cdv, _, _, rfl, lk, hc⟩ := F.ex
  refine ⟨len, fun A outer s H args us vs Q E hg hr e0 hb r hsp => ?_⟩
  have KX : K.In s.heap := e0.mod.kin.keeps fun b o e => (e0.bs b o e).1
  have lim : s.heap.NoLimit := e0.mod.nolimit.keeps fun b o e => (e0.bs b o e).1
  refine codeAny_call_function hr.depth (KX _ _ lk) rfl S.co S.gen rfl (PySem.W.codeRec_of KX hc) (hb _ _ _ _ (wpAny_newFunctionEnv_cells S.kind (fun y hy => ?_) fun env he s1 z => ?_))
  · exact (S.par y.1 (List.of_mem_zip (show (y.1, y.2) ∈ _ from hy)).1).imp id fun q => ⟨q, PySem.W.cellsFrom_some _ _ _ (.inl q)⟩
  · subst he
    refine ⟨lim.keeps z.toInCall.keep, codeAny_func ?_⟩
    obtain ⟨t, ht, hq⟩ := body cdv A outer s H vs Q E hg (hr.deeper _) hsp
    refine wpAny_mono (ht.run [] s1 _ H _ (inv_start S hr.hd e0 (len _ _ _ _ hsp) r z) hq) (fun fl s' hs => ?_) fun e s' hs => hs
    cases fl with
    | ret u => obtain ⟨v, σ', H', J, rv, q⟩ := hs; exact ⟨v, H', J.os, J.bare, J.base, J.hok, rv, q⟩
    | next => obtain ⟨σ', H', J, q⟩ := hs; exact ⟨.non, H', J.os, J.bare, J.base, J.hok, rfl, q⟩
    | brk => obtain ⟨_, _, _, q⟩ := hs; exact q.elim
    | cont => obtain ⟨_, _, _, q⟩ := hs; exact q.elim
end
/-- the abstract heap at the law's call: the script (unless it is written), the empty tables -/
def stH (K : PySem.W.Frag) (a : Addr) (o : Obj) (xs : List V) (ts : List Addr) : Hp := fun b => if b = a ∧ K.lookup a = none then some (.frz o (.lst xs)) else if b ∈ ts then some (.tbl #[]) else none
theorem stH_of {K : PySem.W.Frag} {a b : Addr} {o : Obj} {xs : List V} {ts : List Addr} {u : HO} (h : stH K a o xs ts b = some u) : (b = a ∧ K.lookup a = none ∧ u = .frz o (.lst xs)) ∨ (b ∈ ts ∧ u = .tbl #[]) := by
  unfold stH at h
  split at h
  · rename_i z; cases h; exact .inl ⟨z.1, z.2, rfl⟩
  · split at h
    · rename_i z; cases h; exact .inr ⟨z, rfl⟩
    · cases h
theorem law_callG {P : Program} {w : World} {K : PySem.W.Frag} {mg mb : Str → Option Value} {CX : CXT} {k : Nat} {fa a : Addr} {cs : List (Addr × Addr)} {fd : FuncData} {x : Str} {sp : Sp} {s₁ : Shared} {vs : List Value} {ns : List Int}
    (KX : K.In s₁.heap) (hns : s₁.heap.Ns mainGlobals mg) (hb : s₁.heap.Ns builtinsNs mb) (hbb : ∀ x : Str, x ≠ "__name__" → mb x = bootBuiltins x) (hlim : s₁.heap.NoLimit) (hg : s₁.gens = #[])
    (hT : ∀ p ∈ cs, s₁.heap.get? p.2 = some { cls := .none, data := .fields #[] }) (nT : ∀ p ∈ cs, K.lookup p.2 = none) (C : ∀ p ∈ cs, PySem.W.CodeHd s₁.heap p.1 p.2)
    (hbm : ∃ (bm : Addr) (ob : Obj), mg "__builtins__" = some (.ref bm) ∧ bm ≠ builtinsNs ∧ s₁.heap.get? bm = some ob ∧ ob.cls = .type "module" ∧ ob.dict = some builtinsNs ∧ ob.data = .plain)
    (ha : s₁.heap.get? a = some { cls := .type "list", data := .seq vs.toArray }) (hi : IntsAre vs ns) (hl : ns.length ≤ sizeLine) (hr : Room k callerA)
    (F : ∀ base : Heap, K.In base → base.Ns mainGlobals mg → (∀ p ∈ cs, LamX.TabB base mg p.1 p.2) → FnG P w K mg base CX k fa fd [x] sp) (hbind : ∀ (s : Shared) (u : Value), BindsTo s fd ⟨[u], []⟩ [(x, u)])
    (hsp : ∀ H : Hp, (∀ p ∈ cs, H p.2 = some (.tbl #[])) → SqL K H a (ns.map V.int) → sp [.ref a] H (fun v _ => v = .bl true) fun _ _ _ => False)
    (hCX : ∀ H e s', CX [] H s₁ (fun _ _ _ => False) e s' → False) :
    codeAny (model P w) callerA (.call (.ref fa) ⟨[.ref a], []⟩) (fun r s' => r = .ok (.ret (.bool true)) ∧ OldK s₁.heap s'.heap ∧ s'.os = s₁.os ∧ AllBare s'.gens) s₁ := by
  obtain ⟨H, hH⟩ : ∃ H, H = stH K a { cls := .type "list", data := .seq vs.toArray } (ns.map V.int) (cs.map (·.2)) := ⟨_, rfl⟩
  have tab : ∀ b ∈ cs.map (·.2), s₁.heap.get? b = some { cls := .none, data := .fields #[] } ∧ K.lookup b = none := fun b hb => by
    obtain ⟨p, hp, rfl⟩ := List.mem_map.mp hb
    exact ⟨hT p hp, nT p hp⟩
  have na : a ∉ cs.map (·.2) := fun z => by
    have q := (tab a z).1
    rw [ha] at q
    cases q
  -- what lies under H
  have und : ∀ {b u}, H b = some u → (b = a ∧ K.lookup a = none ∧ u = .frz { cls := .type "list", data := .seq vs.toArray } (.lst (ns.map V.int))) ∨ (b ∈ cs.map (·.2) ∧ u = .tbl #[]) := fun h => stH_of (hH ▸ h)
  have hTb : ∀ p ∈ cs, H p.2 = some (.tbl #[]) := fun p hp => by
    have m : p.2 ∈ cs.map (·.2) := List.mem_map.mpr ⟨p, hp, rfl⟩
    rw [hH]
    show (if p.2 = a ∧ _ then _ else if p.2 ∈ cs.map (·.2) then _ else _) = _
    have ne : ¬ (p.2 = a ∧ K.lookup a = none) := fun z => na (z.1 ▸ m)
    exact (if_neg ne).trans (if_pos m)
  have nk : ∀ {b o}, K.lookup b = some o → H b = none := fun {b o} e => by
    cases q : H b with
    | none => rfl
    | some u =>
      rcases und q with ⟨rfl, z, _⟩ | ⟨z, _⟩
      · rw [z] at e; cases e
      · rw [(tab b z).2] at e; cases e
  have free : ∀ {b o}, s₁.heap.get? b = some o → (∀ us n, o.data ≠ .seq us n) → o.data ≠ .fields #[] → H b = none := fun {b o} e n1 n2 => by
    cases q : H b with
    | none => rfl
    | some u =>
      rcases und q with ⟨rfl, _, _⟩ | ⟨z, _⟩
      · rw [ha] at e; cases e; exact (n1 _ _ rfl).elim
      · rw [(tab b z).1] at e; cases e; exact (n2 rfl).elim
  have up : ∀ {b m}, s₁.heap.Ns b m → (hidT s₁.heap H).Ns b m := fun ⟨o, es, ep, e, d, r⟩ => ⟨o, es, ep, hidT_get e (free e (fun _ _ z => by rw [d] at z; cases z) fun z => by rw [d] at z; cases z), d, r⟩
  have hKb : K.In (hidT s₁.heap H) := fun b o e => hidT_get (KX b o e) (nk e)
  have hM : L2.Mod K mg (hidT s₁.heap H) := ⟨hKb, up hns, ⟨mb, up hb, hbb⟩, let ⟨mc, h1, h2⟩ := hlim; ⟨mc, up h1, h2⟩⟩
  have hok : HOk P w H s₁.heap := fun b u q => by
    rcases und q with ⟨rfl, _, rfl⟩ | ⟨z, rfl⟩
    · exact ⟨ha, by rw [List.length_map]; exact hl, vs, _, vals_ints hi, ha⟩
    · exact (tab b z).1
  have hS : SqL K H a (ns.map V.int) := by
    cases hk : K.lookup a with
    | none => exact .inl (.inr ⟨{ cls := .type "list", data := .seq vs.toArray }, by rw [hH]; exact if_pos ⟨rfl, hk⟩⟩)
    | some o =>
      have e := KX a o hk
      rw [ha] at e
      cases e
      exact .inr ⟨_, vs.toArray, _, hk, rfl, rfl, rfl, by rw [List.size_toArray, hi.length]; exact hl, by simpa using vals_ints hi⟩
  have TB : ∀ p ∈ cs, LamX.TabB (hidT s₁.heap H) mg p.1 p.2 := fun p hp => by
    have ht := hT p hp
    obtain ⟨g, gs, gp, g1, g2, _⟩ := hns
    refine ⟨?_, ?_, fun z => ?_⟩
    · obtain ⟨o, us, file, tf, flags, tg, inF, text, tt, e1, r1, r2, r3, r⟩ := C p hp
      refine ⟨o, us, file, tf, flags, tg, inF, text, tt, hidT_get e1 (free e1 (fun _ _ z => by rw [r2] at z; cases z) fun z => ?_), r1, r2, r3, r⟩
      rw [r2] at z
      cases z
      simp at r3
    · obtain ⟨bm, ob, b1, b2, b3, b4, b5, b6⟩ := hbm
      refine ⟨bm, ob, b1, b2, fun q => ?_, fun q => ?_, hidT_get b3 (free b3 (fun _ _ z => by rw [b6] at z; cases z) fun z => by rw [b6] at z; cases z), b4, b5, b6⟩
      · rw [q, g1] at b3; cases b3; rw [g2] at b6; cases b6
      · rw [q, ht] at b3; cases b3; cases b6
    · rw [z, ht] at g1; cases g1; cases g2
  have e0 : Env0 P w K mg (hidT s₁.heap H) callerA [] s₁ H := ⟨rfl, hM, fun b o e => of_hidT e, Nat.le_of_eq (hidT_size _ _), trivial, fun b hb => absurd (show b ∈ ([] : List Addr) from hb) (by simp), hok, .of_eq hg⟩
  refine codeAny_mono ((F _ hKb (up hns) TB).run callerA [] s₁ H ⟨[.ref a], []⟩ [.ref a] [.ref a] _ _ rfl hr e0 (hbind s₁ (.ref a)) (.cons rfl .nil) (hsp H hTb hS)) fun r s' h => ?_
  match r, h with
  | .error e, h => exact (hCX H e s' h).elim
  | .ok .next, h => exact False.elim h
  | .ok .brk, h => exact False.elim h
  | .ok .cont, h => exact False.elim h
  | .ok (.ret u), ⟨v, H', os, bare, un, hok', r', q⟩ =>
    cases (show v = .bl true from q)
    cases (show u = Value.bool true from r')
    have key : ∀ b o, b ∉ cs.map (·.2) → s₁.heap.get? b = some o → s'.heap.get? b = some o := fun b o nb e => by
      cases q : H b with
      | none => exact un.keep b o e q (fun z => absurd (show b ∈ ([] : List Addr) from z) (by simp)) (by simp)
      | some u =>
        rcases und q with ⟨rfl, _, rfl⟩ | ⟨z, _⟩
        · have z2 := (hok' b _ (un.frzs b _ _ q)).1
          rw [ha] at e
          cases e
          exact z2
        · exact absurd z nb
    have grown : ∀ p ∈ cs, ∃ more : Array Value, s'.heap.get? p.2 = some { cls := .none, data := .fields more } := fun p hp => let ⟨more, z⟩ := un.tbls p.2 #[] (hTb p hp); ⟨_, hok' p.2 _ z⟩
    refine ⟨rfl, ⟨fun b o e => ?_, fun b o e => ?_⟩, os, bare⟩
    · by_cases hb : b ∈ cs.map (·.2)
      · obtain ⟨p, hp, rfl⟩ := List.mem_map.mp hb
        obtain ⟨more, hm⟩ := grown p hp
        rw [hT p hp] at e
        cases e
        exact .inr (.inl ⟨((C p hp).tab (hT p hp)).isCodeTable, rfl, #[], more, rfl, by rw [Array.empty_append]; exact hm⟩)
      · exact .inl (key b o hb e)
    · by_cases hb : b ∈ cs.map (·.2)
      · obtain ⟨p, hp, rfl⟩ := List.mem_map.mp hb
        obtain ⟨more, hm⟩ := grown p hp
        exact ⟨_, hm⟩
      · exact ⟨o, key b o hb e⟩
/-- what is known of the law's promise at the head's heap -/
def LawAtG (l : PySem.W.OpenLaw) (w : World) (K : PySem.W.Frag) (CX : CXT) (k n : Nat) (x : Str) (mg : Str → Option Value) (fa : Addr) (h : Heap) : Prop :=
  ∃ (fd : FuncData) (cs : List (Addr × Addr)) (sp : Sp), (∀ p ∈ cs, h.get? p.2 = some { cls := .none, data := .fields #[] }) ∧ (∀ p ∈ cs, K.lookup p.2 = none) ∧ (∀ p ∈ cs, PySem.W.CodeHd h p.1 p.2) ∧ (∀ (s : Shared) (u : Value), BindsTo s fd ⟨[u], []⟩ [(x, u)]) ∧
    (∀ (H : Hp) (a : Addr) (ns : List Int), ns.length ≤ n → (∀ z ∈ ns, Builtin.Int.intBits z ≤ 1048576) → (∀ p ∈ cs, H p.2 = some (.tbl #[])) → SqL K H a (ns.map V.int) → sp [.ref a] H (fun v _ => v = .bl true) fun _ _ _ => False) ∧
    ∀ base : Heap, K.In base → base.Ns mainGlobals mg → (∀ p ∈ cs, LamX.TabB base mg p.1 p.2) → FnG l.prog w K mg base CX k fa fd [x] sp
theorem walk_ofG {l : PySem.W.OpenLaw} {n k : Nat} {q : Program} {loose : List Str} {XP : (Str → Option Value) → Heap → Prop} {YP : World → Heap → Prop} {d : DefRec} {K : Params → PySem.W.Frag} {CX : World → CXT} {x : Str}
    (hn : l.most = some n) (hn2 : n ≤ sizeLine) (hdf : d.params.defaults = []) (hr : Room k callerA) (hY : ∀ (w : World) (h : Heap), YP w h → (K w.params).In h)
    (F : ∀ (w : World) (mg : Str → Option Value) (fa : Addr) (h : Heap), YP w h → (K w.params).In h → h.Ns mainGlobals mg → mg d.name = some (.ref fa) → LawAtG l w (K w.params) (CX w) k n x mg fa h)
    (hCX : ∀ (w : World) (H : Hp) (s : Shared) (e : Value) (s' : Shared), CX w [] H s (fun _ _ _ => False) e s' → False) :
    PySem.W.WalkO q loose XP YP l.row.toRowW d [] (fun f vs => PySem.call f vs) := by
  refine Att.attach_callB hn hdf fun w s₀ s₁ mg mb fa o pm cd doc a vs ns G Y ho hd hcd hmg hobj hints hlen hbits hg => ?_
  have KX := hY w _ Y
  obtain ⟨fd, cs, sp, hT, nT, C, hb, hsp, hF⟩ := F w mg fa _ Y KX G.T.g hmg
  exact law_callG KX G.T.g G.T.b G.T.builtins G.T.nolimit hg hT nT C G.T.bmain hobj hints (Nat.le_trans hlen hn2) hr hF hb (fun H hH hS => hsp H a ns hlen hbits hH hS) fun H e s' => hCX w H s₁ e s'
end M
set_option Elab.async false
set_option linter.all false
set_option maxRecDepth 100000
set_option maxHeartbeats 3900000
namespace M
open PySem PySem.Spec PyProof.Rows L2 G
def rReprG (K : PySem.W.Frag) : List V → Hp → VK → Prop := fun xs H Q => ∃ (a : Addr) (p : PyData), xs = [.ref a] ∧ Dp K H (.ref a) p ∧ p.showable = true ∧ p.hasDict = false ∧ p.depth ≤ 60 ∧ p.shown.length ≤ sizeLine ∧ Q (.str p.shown) H
section
variable {X : Cx} {K : PySem.W.Frag} {tb : List (Addr × Str)} {W : WX}
def reprGD (xs : List D) (c : SH) (Φ : QD) : Prop := oneD xs fun x => match pyC c x with
  | some (.list ps) => ((PyData.list ps).showable = true ∧ (PyData.list ps).hasDict = false ∧ (PyData.list ps).depth ≤ 60 ∧ (PyData.list ps).shown.length ≤ sizeLine) ∧ Φ (.str (PyData.list ps).shown) c
  | some (.tuple ps) => ((PyData.tuple ps).showable = true ∧ (PyData.tuple ps).hasDict = false ∧ (PyData.tuple ps).depth ≤ 60 ∧ (PyData.tuple ps).shown.length ≤ sizeLine) ∧ Φ (.str (PyData.tuple ps).shown) c
  | _ => False
theorem dc_reprG : DCall K tb (rReprG K) reprGD := by
  intro al G c H xs ds Φ Q R hd m q
  obtain ⟨x, v, rfl, rfl, dx, m2⟩ := oneD_of m hd
  split at m2
  · rename_i ps e
    have dp := R.py dx e
    obtain ⟨⟨h1, h2, h3, h4⟩, m⟩ := m2
    cases dp with
    | lst h r => exact ⟨_, _, rfl, .lst h r, h1, h2, h3, h4, q _ c al G H _ R .refl (.str _) m⟩
  · rename_i ps e
    have dp := R.py dx e
    obtain ⟨⟨h1, h2, h3, h4⟩, m⟩ := m2
    cases dp with
    | tup h r => exact ⟨_, _, rfl, .tup h r, h1, h2, h3, h4, q _ c al G H _ R .refl (.str _) m⟩
  · cases m2
def rInP (K : PySem.W.Frag) (fin : Bool → Bool) : R2 := fun x y H Q => ∃ (d : PyData) (ds : List PyData), Dp K H x d ∧ (Dp K H y (.list ds) ∨ Dp K H y (.tuple ds)) ∧ SeqAt.shaped d = true ∧ SeqAt.shaped (.list ds) = true ∧ Q (.bl (fin (ds.any fun z => PyData.eqv z d))) H
def inP (fin : Bool → Bool) (x y : D) (c : SH) (Φ : QD) : Prop := match pyC c x, pyC c y with
  | some d, some (.list ds) => (SeqAt.shaped d = true ∧ SeqAt.shaped (.list ds) = true) ∧ Φ (.bl (fin (ds.any fun z => PyData.eqv z d))) c
  | some d, some (.tuple ds) => (SeqAt.shaped d = true ∧ SeqAt.shaped (.list ds) = true) ∧ Φ (.bl (fin (ds.any fun z => PyData.eqv z d))) c
  | _, _ => False
theorem dop_inP {fin : Bool → Bool} : DOp K tb (rInP K fin) (inP fin) := by
  intro al G c H x y dx dy Φ Q R hx hy m q
  unfold inP at m
  split at m
  · rename_i d ds e1 e2
    exact ⟨d, ds, R.py hx e1, .inl (R.py hy e2), m.1.1, m.1.2, q _ c al G H _ R .refl (.bl _) m.2⟩
  · rename_i d ds e1 e2
    exact ⟨d, ds, R.py hx e1, .inr (R.py hy e2), m.1.1, m.1.2, q _ c al G H _ R .refl (.bl _) m.2⟩
  · cases m
inductive DpK (K : PySem.W.Frag) (H : Hp) : List (Key × V) → List (Key × PyData) → Prop
  | nil : DpK K H [] []
  | cons {k : Key} {v : V} {p : PyData} {vs : List (Key × V)} {ps : List (Key × PyData)} : Dp K H v p → SeqAt.shaped p = true → DpK K H vs ps → DpK K H ((k, v) :: vs) ((k, p) :: ps)
theorem DpK.length {H : Hp} : ∀ {vs : List (Key × V)} {ps : List (Key × PyData)}, DpK K H vs ps → vs.length = ps.length
  | _, _, .nil => rfl
  | _, _, .cons _ _ r => congrArg (· + 1) r.length
def lookP (ls : List (Key × PyData)) (k : Key) : Option PyData := (ls.find? fun kv => decide (kv.1 = k)).map (·.2)
def hitsB (ls : List (Key × PyData)) : List (Key × PyData) → Bool
  | [] => true
  | (k, v) :: r => match lookP ls k with
    | some y => PyData.eqv v y && hitsB ls r
    | none => false
def eqK (ks ls : List (Key × PyData)) : Bool := ks.length == ls.length && hitsB ls ks
def rEqK (K : PySem.W.Frag) (fin : Bool → Bool) : R2 := fun x y H Q => ∃ a b ks ls kp lp, x = .ref a ∧ y = .ref b ∧ Rd H a (.dK ks) ∧ Rd H b (.dK ls) ∧ DpK K H ks kp ∧ DpK K H ls lp ∧ Q (.bl (fin (eqK kp lp))) H
theorem rd_dict {pins : List (Addr × Obj)} {σ : L2.St} {H : Hp} {s : Shared} (I : Inv X pins σ H s) {a : Addr} {ks : List (Key × V)} (h : Rd H a (.dK ks)) : (a == sysModules) = false ∧ ∃ va, KV ks va ∧ s.heap.DictOf (mixKind X.prog X.w) a va := by
  rcases h with h | ⟨o, h⟩
  · obtain ⟨_, ya, va, ra, da⟩ := (show ObjOk X.prog X.w H s.heap a (.dK ks) from I.hok a _ h)
    exact ⟨ya, va, ra, da⟩
  · obtain ⟨_, _, ya, va, ra, da⟩ := (show ObjOk X.prog X.w H s.heap a (.frz o (.dK ks)) from I.hok a _ h)
    exact ⟨ya, va, ra, da⟩
def pyK (c : SH) : List (Key × D) → Option (List (Key × PyData))
  | [] => some []
  | (k, d) :: r => match pyC c d, pyK c r with
    | some p, some ps => if SeqAt.shaped p = true then some ((k, p) :: ps) else none
    | _, _ => none
theorem Rep.pyK {al : List Addr} {G H : Hp} {c : SH} (R : Rep K tb al G c H) : ∀ {vs : List (Key × V)} {ds : List (Key × D)} {ps : List (Key × PyData)}, DenK K al G vs ds → pyK c ds = some ps → DpK K H vs ps
  | _, _, _, .nil, e => by cases e; exact .nil
  | _, _, _, .cons h r, e => by
    unfold M.pyK at e
    split at e
    · rename_i p ps h1 h2
      split at e
      · rename_i sh
        cases e
        exact .cons (R.py h h1) sh (R.pyK r h2)
      · cases e
    · cases e
def eqKD (fin : Bool → Bool) (x y : D) (c : SH) (Φ : QD) : Prop := match view c x, view c y with
  | .dic ks, .dic ls => match pyK c ks, pyK c ls with
    | some kp, some lp => Φ (.bl (fin (eqK kp lp))) c
    | _, _ => False
  | _, _ => False
theorem dop_eqK {fin : Bool → Bool} : DOp K tb (rEqK K fin) (eqKD fin) := by
  intro al G c H x y dx dy Φ Q R hx hy m q
  have vx := R.vw hx
  have vy := R.vw hy
  unfold eqKD at m
  split at m
  · rename_i ks ls e1 e2
    rw [e1] at vx
    rw [e2] at vy
    split at m
    · rename_i kp lp h1 h2
      cases vx with
      | dic ha da =>
        cases vy with
        | dic hb db => exact ⟨_, _, _, _, kp, lp, rfl, rfl, ha, hb, R.pyK da h1, R.pyK db h2, q _ c al G H _ R .refl (.bl _) m⟩
    · cases m
  · cases m
end
end M
set_option Elab.async false
set_option linter.all false
set_option maxRecDepth 100000
set_option maxHeartbeats 3900000
namespace M
open PySem PySem.Spec PyProof.Rows L2 G
section
variable {P : Program} {w : World} {K : PySem.W.Frag} {mg : Str → Option Value} {base : Heap} {x qual : Str} {st : Stmt} {f : Addr} {fd : FuncData} {N ps : List Str} {k : Nat} {sp : Sp}
theorem Room.u65 {A : Around} (hr : Room k A) : A.units + 65 < cLine := by have := hr.un; omega
/-- a def that throws nothing -/
theorem FunV.ok (F : FunV K x qual st f fd) (S : FnScope N ps (defScope st)) (len : ∀ vs H Q E, sp vs H Q E → vs.length = ps.length)
    (body : ∀ (cdv : Value) (A : Around) (outer : List PySem.Env) (s : Shared) (H : Hp) (vs : List V) (Q : VK) (E : XK), Room k (A.deeper (envOfC qual (defScope st) s.heap.objs.size f cdv)) → sp vs H Q E →
      ∃ t, PSs (cxOf CX0 P w K mg base N qual (defScope st) f cdv A outer s H E).nox (defBody st) t ∧ t { nx := fun _ H' => Q .non H', rt := Q } (L2.start N vs) H) : FnOk P w K mg base CX0 (k + 1) f fd ps sp := by
  obtain ⟨_, _, _, _, _, _, _, cdv, _, _, rfl, lk, hc⟩ := F.ex
  refine fn_of lk hc S len fun A outer s H vs Q E hr hs => ?_
  obtain ⟨t, h, q⟩ := body cdv A outer s H vs Q E hr hs
  exact ⟨t, h.nox, q⟩
theorem cx_none {H : Hp} {s s' : Shared} {e : Value} (h : L2.CX P w [] H s (fun _ _ _ => False) e s') : False := let ⟨_, _, _, _, _, _, _, _, _, _, _, _, z⟩ := h; z
def unT (H : Hp) : Hp := fun b => match H b with
  | some (.tbl _) => none
  | o => o
theorem unT_of {H : Hp} {b : Addr} {o : HO} (h : unT H b = some o) : H b = some o ∧ ∀ q, o ≠ .tbl q := by
  unfold unT at h
  split at h
  · cases h
  · rename_i n
    refine ⟨h, fun q z => ?_⟩
    subst z
    exact n _ h
theorem unT_is {H : Hp} {b : Addr} {o : HO} (h : H b = some o) (n : ∀ q, o ≠ .tbl q) : unT H b = some o := by
  unfold unT
  split
  · rename_i q e
    rw [h] at e
    cases e
    exact (n q rfl).elim
  · exact h
theorem law_sp {tb : List (Addr × Str)} {H : Hp} {a : Addr} {ns : List Int} {F : Fn} (hT : LamX.Tabs tb H) (hS : SqL K H a (ns.map V.int)) (m : F [.scr (ns.map .int)] [] noX fun d _ => d = .bl true) : SpG K tb F [.ref a] H (fun v _ => v = .bl true) fun _ _ _ => False := by
  refine ⟨[], unT H, [], [.scr (ns.map .int)], noX, _, ⟨rfl, fun b o e => (unT_of e).1, (fun _ _ _ h => absurd h (by simp)), (fun _ _ _ h => absurd h (by simp)), (fun _ _ _ _ h => absurd h (by simp)), (fun _ _ h => absurd h (by simp)), fun b q e => (unT_of e).2 q rfl, hT⟩, .cons (.scr ?_ (DenL.ints ns)) .nil, m, fun d c al G H' v r l dn e => ?_, thr0⟩
  · rcases hS with (h | ⟨o, h⟩) | h
    · exact .inl (.inl (unT_is h nofun))
    · exact .inl (.inr ⟨o, unT_is h nofun⟩)
    · exact .inr h
  · subst e
    cases dn
    rfl
theorem snd_lcE {tb : List (Addr × Str)} {W : WX} {lv : Bool} {wi : TI} {mi : MI} {g : TG} {mg : MG} {tt : TT} {mt : MT} {te : TE} {me : ME} {vs vs' : List Nat} (e : vs' = vs) (hi : SndI K tb W wi mi) (hg : SndGO K tb (fun _ _ _ _ => False) vs g mg) (ht : SndT K tb (fun _ _ _ _ => False) tt mt) (he : SndE K tb (fun _ _ _ _ => False) te me) : SndE K tb W (tLc wi g tt te vs') (lcM lv mi mg mt me vs) := by subst e; exact snd_lc hi hg ht he
end
end M
set_option Elab.async false
set_option linter.all false
set_option maxRecDepth 100000
set_option maxHeartbeats 3900000
namespace M
open PySem PySem.Spec PyProof.Rows L2 G
section
variable {X : Cx} {K : PySem.W.Frag} {tb : List (Addr × Str)}
def rMaxS : List V → Hp → VK → Prop := fun xs H Q => ∃ a b : Str, xs = [.str a, .str b] ∧ Q (.str (if a.cps.toList < b.cps.toList then b else a)) H
def rMinS : List V → Hp → VK → Prop := fun xs H Q => ∃ a b : Str, xs = [.str a, .str b] ∧ Q (.str (if b.cps.toList < a.cps.toList then b else a)) H
def maxSD (xs : List D) (c : SH) (Φ : QD) : Prop := twoD xs fun x y => match x, y with
  | .str a, .str b => Φ (.str (if a.cps.toList < b.cps.toList then b else a)) c
  | _, _ => False
def minSD (xs : List D) (c : SH) (Φ : QD) : Prop := twoD xs fun x y => match x, y with
  | .str a, .str b => Φ (.str (if b.cps.toList < a.cps.toList then b else a)) c
  | _, _ => False
theorem dc_maxS : DCall K tb rMaxS maxSD := by
  intro al G c H xs ds Φ Q R hd m q
  obtain ⟨x, y, v, w, rfl, rfl, dx, dy, m2⟩ := twoD_of m hd
  split at m2
  · cases dx; cases dy; exact ⟨_, _, rfl, q _ c al G H _ R .refl (.str _) m2⟩
  · cases m2
theorem dc_minS : DCall K tb rMinS minSD := by
  intro al G c H xs ds Φ Q R hd m q
  obtain ⟨x, y, v, w, rfl, rfl, dx, dy, m2⟩ := twoD_of m hd
  split at m2
  · cases dx; cases dy; exact ⟨_, _, rfl, q _ c al G H _ R .refl (.str _) m2⟩
  · cases m2
end
end M
set_option Elab.async false
set_option linter.all false
set_option maxRecDepth 100000
set_option maxHeartbeats 3900000
namespace M
open PySem PySem.Spec PyProof.Rows L2 G
section
variable {δ : Env} {c : SH} {Ψ : XD} {Φ : QD} {ΦT : Bool → SH → Prop} {ΦA : List D → SH → Prop} {ΦO : Option Int → SH → Prop} {N : Env → SH → Prop} {e : EndsD} {a b d3 : ME} {t u : MT} {A : MA} {s1 s2 : MS} {g : MG} {i j np ns : Nat} {d x y : D} {op op' : D → D → SH → QD → Prop} {un : D → SH → QD → Prop} {cb : List D → SH → QD → Prop} {C : Addr} {f m : Str} {F : Fn} {ds as : List D} {mi : MI}
theorem e_fn {b : MS} (hl : as.length = np) (hδ : as.map some ++ List.replicate (ns - as.length) none = δ) (h : b δ c { nx := fun _ c' => clo c Φ .non c', rt := fun d c' => clo c Φ d c', bk := fun _ _ => False, ct := fun _ _ => False, xc := fun C f d _ c' => clo c (fun d c' => Ψ C f d c') d c' }) : fnD np ns b as c Ψ Φ := ⟨hl, hδ ▸ h⟩
theorem e_clo (q : Φ d c) : clo c Φ d c := .inl q
theorem e_seq (h : s1 δ c { e with nx := fun δ' c' => s2 δ' c' e }) : seqM s1 s2 δ c e := h
theorem e_asg (h : a δ c (e.x δ) fun x c1 => g x δ c1 (e.x δ) e.nx) : asgM a g δ c e := h
theorem e_gname (h : N (δ.set i (some x)) c) : gnameM i x δ c Ψ N := h
theorem e_drop (h : a δ c (e.x δ) fun _ c1 => e.nx δ c1) : dropM a δ c e := h
theorem e_ret (h : a δ c (e.x δ) e.rt) : retM a δ c e := h
theorem e_next (h : e.nx δ c) : nextM δ c e := h
theorem e_ifS (h : t δ c (e.x δ) fun k c1 => if k = true then s1 δ c1 e else s2 δ c1 e) : ifS t s1 s2 δ c e := h
theorem e_par (h : A δ c (e.x δ) fun xs c1 => twoD xs fun x y => e.nx ((δ.set i (some x)).set j (some y)) c1) : parM i j A δ c e := h
theorem e_raise (h : A δ c (e.x δ) fun xs c1 => oneD xs fun x => e.xc C f x δ c1) : raiseM C f A δ c e := h
theorem e_for (h : mi δ c (e.x δ) fun xs gd c1 => forD gd g s1 xs δ c1 e) : forM mi g s1 δ c e := h
theorem e_var (h : δ[i]? = some (some d)) (q : Φ d c) : varM i δ c Ψ Φ := by unfold varM; rw [h]; exact q
theorem e_c (q : Φ d c) : cM d δ c Ψ Φ := q
theorem e_op (h : a δ c Ψ fun x c1 => b δ c1 Ψ fun y c2 => op x y c2 Φ) : opM op a b δ c Ψ Φ := h
theorem e_un (h : a δ c Ψ fun x c1 => un x c1 Φ) : unM un a δ c Ψ Φ := h
theorem e_test (h : a δ c Ψ fun x c1 => blD x c1 ΦT) : testM a δ c Ψ ΦT := h
theorem e_bl {k : Bool} (h : ΦT k c) : blD (.bl k) c ΦT := h
theorem e_andT (h : t δ c Ψ fun k c1 => if k = true then u δ c1 Ψ ΦT else ΦT false c1) : andT t u δ c Ψ ΦT := h
theorem e_orT (h : t δ c Ψ fun k c1 => if k = true then ΦT true c1 else u δ c1 Ψ ΦT) : orT t u δ c Ψ ΦT := h
theorem e_notT (h : t δ c Ψ fun k c1 => ΦT (!k) c1) : notT t δ c Ψ ΦT := h
theorem e_andM (h : a δ c Ψ fun x c1 => blD x c1 fun k c1 => if k = true then b δ c1 Ψ Φ else Φ (.bl false) c1) : andM a b δ c Ψ Φ := h
theorem e_orM (h : a δ c Ψ fun x c1 => blD x c1 fun k c1 => if k = true then Φ (.bl true) c1 else b δ c1 Ψ Φ) : orM a b δ c Ψ Φ := h
theorem e_notM (h : a δ c Ψ fun x c1 => blD x c1 fun k c1 => Φ (.bl (!k)) c1) : notM a δ c Ψ Φ := h
theorem e_ifM (h : t δ c Ψ fun k c1 => if k = true then a δ c1 Ψ Φ else b δ c1 Ψ Φ) : ifM t a b δ c Ψ Φ := h
theorem e_chain (h : a δ c Ψ fun x c1 => b δ c1 Ψ fun y c2 => op x y c2 fun z c3 => blD z c3 fun k c3 => if k = true then d3 δ c3 Ψ fun w c4 => op' y w c4 Φ else Φ (.bl false) c3) : chainM op op' a b d3 δ c Ψ Φ := h
theorem e_nil (h : ΦA [] c) : nilM δ c Ψ ΦA := h
theorem e_cons (h : a δ c Ψ fun x c1 => A δ c1 Ψ fun xs c2 => ΦA (x :: xs) c2) : consM a A δ c Ψ ΦA := h
theorem e_lst (h : A δ c Ψ fun xs c1 => xs.length ≤ sizeLine ∧ Φ (.lst xs) c1) : lstM false A δ c Ψ Φ := by
  have : newL false = fun xs c Φ => xs.length ≤ sizeLine ∧ Φ (.lst xs) c := by
    funext xs c Φ; unfold newL; rw [if_neg (by decide)]
  show A δ c Ψ fun xs c1 => newL false xs c1 Φ
  rw [this]; exact h
theorem e_lstO (h : A δ c Ψ fun xs c1 => xs.length ≤ sizeLine ∧ Φ (.obj c1.length) (c1 ++ [.lst xs])) : lstM true A δ c Ψ Φ := by
  have : newL true = fun xs c Φ => xs.length ≤ sizeLine ∧ Φ (.obj c.length) (c ++ [.lst xs]) := by
    funext xs c Φ; unfold newL; rw [if_pos rfl]
  show A δ c Ψ fun xs c1 => newL true xs c1 Φ
  rw [this]; exact h
theorem e_tup (h : A δ c Ψ fun xs c1 => xs.length ≤ sizeLine ∧ Φ (.tup xs) c1) : tupM A δ c Ψ Φ := h
theorem e_cb (h : A δ c Ψ fun xs c1 => cb xs c1 Φ) : cbM cb A δ c Ψ Φ := h
theorem e_call (h : A δ c Ψ fun xs c1 => F (xs ++ ds) c1 Ψ Φ) : callM F ds A δ c Ψ Φ := h
theorem e_meth (h : a δ c Ψ fun x c1 => insD C m x c1 (A δ c1 Ψ fun xs c2 => F (x :: (xs ++ ds)) c2 Ψ Φ)) : methM C m F ds a A δ c Ψ Φ := h
theorem e_prop (h : a δ c Ψ fun x c1 => (match view c1 x with
  | .ins C' _ => C' = C
  | _ => False) ∧ F [x] c1 noX Φ) : propM C F a δ c Ψ Φ := h
theorem e_make (h : A δ c Ψ fun xs c1 => makeD false C F (xs ++ ds) c1 Ψ Φ) : makeM false C F ds A δ c Ψ Φ := h
theorem e_fld (h : a δ c Ψ fun x c1 => fldD C f x c1 Φ) : fldM C f a δ c Ψ Φ := h
theorem e_sfld (h : b δ c (e.x δ) fun y c1 => a δ c1 (e.x δ) fun x c2 => putD C f x y c2 fun c3 => e.nx δ c3) : sfldM C f a b δ c e := h
theorem e_noPart (h : ΦO none c) : noPartM δ c Ψ ΦO := h
theorem e_part (h : a δ c Ψ fun x c1 => intD x c1 fun i c1 => ΦO (some i) c1) : partM a δ c Ψ ΦO := h
theorem e_int {k : Int} {ΦI : Int → SH → Prop} (h : ΦI k c) : intD (.int k) c ΦI := h
theorem e_sl {lo hi : MO} {so : D → Option Int → Option Int → SH → QD → Prop} (h : a δ c Ψ fun x c1 => lo δ c1 Ψ fun l c2 => hi δ c2 Ψ fun u c3 => so x l u c3 Φ) : slM so a lo hi δ c Ψ Φ := h
theorem e_bm {T : String} {mo : D → List D → SH → QD → Prop} (h : a δ c Ψ fun x c1 => tyM T (view c1 x) ∧ A δ c1 Ψ fun xs c2 => mo x xs c2 Φ) : bmM T mo a A δ c Ψ Φ := h
theorem e_bm0 {T : String} {mo : D → List D → SH → QD → Prop} (h : a δ c Ψ fun x c1 => tyM T (view c1 x) ∧ mo x [] c1 Φ) : bm0M T mo a δ c Ψ Φ := h
theorem e_m1 {mo : D → List D → SH → QD → Prop} (h : a δ c Ψ fun x c1 => tyM "str" x ∧ b δ c1 Ψ fun y c2 => mo x [y] c2 Φ) : m1M mo a b δ c Ψ Φ := h
theorem e_it {ΦI : List D → (SH → Prop) → SH → Prop} (h : a δ c Ψ fun x c1 => match itemsD (view c1 x) with
  | some xs => ΦI xs (fun c' => view c' x = view c1 x) c1
  | none => False) : itM a δ c Ψ ΦI := h
theorem e_rng1 {ΦI : List D → (SH → Prop) → SH → Prop} (h : A δ c Ψ fun xs c1 => oneD xs fun x => intD x c1 fun j c1 => (-(2 ^ 62) ≤ j ∧ j < 2 ^ 62) ∧ ΦI (rngD 0 j.toNat) (fun _ => True) c1) : rng1M A δ c Ψ ΦI := h
theorem e_lc {lv : Bool} {vs : List Nat} (h : mi δ c Ψ fun xs gd c1 => lcD gd (turnD g t a (wipeD δ vs)) xs [] c1 (endL lv Φ)) : lcM lv mi g t a vs δ c Ψ Φ := h
theorem e_caught {K : PySem.W.Frag} {hs : Hds} (h : A δ c Ψ fun xs c1 => oneD xs fun x => a (δ ++ [some x]) c1 (fun C f d c' => dealD K hs C f d c' Φ) fun d c' => Φ (.lst [.str (Str.ofString "told"), d]) c') : caughtM K hs a A δ c Ψ Φ := h
theorem e_two {k : D → D → Prop} (h : k x y) : twoD [x, y] k := h
theorem e_one {k : D → Prop} (h : k x) : oneD [x] k := h
theorem e_ifT {p q : Prop} (h : p) : (if true = true then p else q) := by rw [if_pos rfl]; exact h
theorem e_ifF {p q : Prop} (h : q) : (if false = true then p else q) := by rw [if_neg (by decide)]; exact h
end
theorem for_inv {gd : SH → Prop} {g : MG} {b : MS} {e : EndsD} (P : Env → SH → Prop) : ∀ (xs : List D),
    (∀ x ∈ xs, ∀ (δ : Env) (c : SH) (e' : EndsD), P δ c → (∀ δ c, P δ c → e'.nx δ c) → (∀ δ c, P δ c → e'.ct δ c) → e'.rt = e.rt → e'.xc = e.xc → e'.bk = e.nx → gd c ∧ g x δ c (e.x δ) fun δ1 c1 => b δ1 c1 e') → (∀ δ c, P δ c → gd c ∧ e.nx δ c) → ∀ δ c, P δ c → forD gd g b xs δ c e
  | [], _, fin, δ, c, h => fin δ c h
  | x :: xs, step, fin, δ, c, h => by
    have go := for_inv P xs (fun y hy => step y (List.mem_cons_of_mem _ hy)) fin
    exact step x List.mem_cons_self δ c _ h (fun δ c h => go δ c h) (fun δ c h => go δ c h) rfl rfl rfl
theorem lc_map {α : Type} {gd : SH → Prop} {turn : D → SH → (Option D → SH → Prop) → Prop} {Φ : List D → SH → Prop} {c : SH} (F : α → D) (f : α → Option D) (hg : gd c) : ∀ (ys : List α) (acc : List D), acc.length + ys.length < sizeLine → (∀ y ∈ ys, ∀ k, k (f y) c → turn (F y) c k) → Φ (acc ++ ys.filterMap f) c → lcD gd turn (ys.map F) acc c Φ
  | [], acc, _, _, q => ⟨hg, by simpa using q⟩
  | y :: ys, acc, hl, step, q => by
    refine ⟨hg, step y List.mem_cons_self _ ⟨by simp at hl; omega, lc_map F f hg ys _ ?_ (fun z hz => step z (List.mem_cons_of_mem _ hz)) ?_⟩⟩
    · simp at hl ⊢
      cases f y <;> simp <;> omega
    · rw [List.append_assoc]
      have e : (f y).toList ++ ys.filterMap f = (y :: ys).filterMap f := by
        cases h : f y <;> simp [List.filterMap_cons, h]
      rw [e]
      exact q
theorem lc_inv {gd : SH → Prop} {turn : D → SH → (Option D → SH → Prop) → Prop} {Φ : List D → SH → Prop} (I : List D → List D → SH → Prop) (hI : ∀ xs acc c, I xs acc c → gd c) (step : ∀ x xs acc c, I (x :: xs) acc c → ∀ k : Option D → SH → Prop, (∀ o c1, I xs (acc ++ o.toList) c1 → k o c1) → acc.length < sizeLine ∧ turn x c k) (fin : ∀ acc c, I [] acc c → Φ acc c) : ∀ xs acc c, I xs acc c → lcD gd turn xs acc c Φ
  | [], acc, c, h => ⟨hI _ _ _ h, fin acc c h⟩
  | x :: xs, acc, c, h => by
    have s := step x xs acc c h (fun o c1 => acc.length < sizeLine ∧ lcD gd turn xs (acc ++ o.toList) c1 Φ)
    have l := (step x xs acc c h (fun _ _ => True) fun _ _ _ => trivial).1
    exact ⟨hI _ _ _ h, (s fun o c1 h1 => ⟨l, lc_inv I hI step fin xs _ c1 h1⟩).2⟩
end M
set_option Elab.async false
set_option linter.all false
set_option maxRecDepth 100000
set_option maxHeartbeats 3900000
namespace M
open PySem PySem.Spec PyProof.Rows L2 G
theorem e_ifNT {p q : Prop} (h : q) : (if (!true) = true then p else q) := by rw [if_neg (by decide)]; exact h
theorem e_ifNF {p q : Prop} (h : p) : (if (!false) = true then p else q) := by rw [if_pos (by decide)]; exact h
section
variable {K : PySem.W.Frag} {c : SH} {Φ : QD} {x : D} {C : Addr}
/-- isinstance(x, T) is known -/
def Isi (K : PySem.W.Frag) (c : SH) (x : D) (u : Value) (b : Bool) : Prop := ∀ k : Bool → Prop, k b → isi1 K (view c x) u k
theorem isi_ty {n m : String} {b : Bool} (h : tyD (view c x) = some n) (hk : PySem.W.kitOne K (.type n) (.type m) = some b) : Isi K c x (.type m) b := fun k q => by
  unfold isi1
  split
  · rename_i e; rw [e] at h; cases h
  · rw [h]; exact ⟨b, hk, q⟩
theorem e_isi {n : String} {b : Bool} (h : Isi K c x (.type n) b) (q : Φ (.bl b) c) : isiD K [x, .ty n] c Φ := h _ q
theorem e_pyN {y : D} {p p' : PyData} (h : scD x y = none) (h1 : pyC c x = some p) (h2 : pyC c y = some p') (s1 : SeqAt.shaped p = true) (s2 : SeqAt.shaped p' = true) (q : Φ (.bl (!PyData.eqv p p')) c) : neD x y c Φ := by
  unfold neD eqB; rw [h, h1, h2]; exact ⟨⟨s1, s2⟩, q⟩
theorem e_leI {a b : Int} (q : Φ (.bl (decide (a ≤ b))) c) : leD (.int a) (.int b) c Φ := q
theorem e_ltI {a b : Int} (q : Φ (.bl (decide (a < b))) c) : ltD (.int a) (.int b) c Φ := q
theorem e_gtI {a b : Int} (q : Φ (.bl (decide (b < a))) c) : gtD (.int a) (.int b) c Φ := q
theorem e_geI {a b : Int} (q : Φ (.bl (decide (b ≤ a))) c) : geD (.int a) (.int b) c Φ := q
theorem e_ltS {a b : Str} (q : Φ (.bl (decide (a.cps.toList < b.cps.toList))) c) : ltD (.str a) (.str b) c Φ := q
theorem e_eqI {a b : Int} (q : Φ (.bl (decide (a = b))) c) : eqD (.int a) (.int b) c Φ := q
theorem e_eqS {a b : Str} (q : Φ (.bl (decide (a = b))) c) : eqD (.str a) (.str b) c Φ := q
theorem e_neI {a b : Int} (q : Φ (.bl (!decide (a = b))) c) : neD (.int a) (.int b) c Φ := q
theorem e_neS {a b : Str} (q : Φ (.bl (!decide (a = b))) c) : neD (.str a) (.str b) c Φ := q
theorem e_neB {a b : Bool} (q : Φ (.bl (!decide (a = b))) c) : neD (.bl a) (.bl b) c Φ := q
theorem e_isB {a b : Bool} (q : Φ (.bl (decide (a = b))) c) : isD (.bl a) (.bl b) c Φ := q
theorem e_isntB {a b : Bool} (q : Φ (.bl (!decide (a = b))) c) : isntD (.bl a) (.bl b) c Φ := q
theorem e_addI {lv : Bool} {a b : Int} (q : Φ (.int (a + b)) c) : addD lv (.int a) (.int b) c Φ := q
theorem e_addL {a b : List D} (h : a.length + b.length ≤ sizeLine) (q : Φ (.lst (a ++ b)) c) : addD false (.lst a) (.lst b) c Φ := ⟨by rw [List.length_append]; exact h, e_ifF q⟩
theorem e_subI {a b : Int} (q : Φ (.int (a - b)) c) : subD (.int a) (.int b) c Φ := q
theorem e_mulI {lv : Bool} {a b : Int} (h : CMul a b) (q : Φ (.int (a * b)) c) : mulD lv (.int a) (.int b) c Φ := ⟨h, q⟩
theorem e_modI {a b : Int} (h : b ≠ 0) (q : Φ (.int (a.fmod b)) c) : modD (.int a) (.int b) c Φ := ⟨h, q⟩
theorem e_int1 {a : Int} (q : Φ (.int a) c) : int1D [.int a] c Φ := q
theorem e_max2 {a b : Int} (q : Φ (.int (if b > a then b else a)) c) : max2D [.int a, .int b] c Φ := q
theorem e_min2 {a b : Int} (q : Φ (.int (if b < a then b else a)) c) : min2D [.int a, .int b] c Φ := q
theorem e_lenL {xs : List D} (q : Φ (.int xs.length) c) : lenD [.lst xs] c Φ := q
theorem e_lenT {xs : List D} (q : Φ (.int xs.length) c) : lenD [.tup xs] c Φ := q
theorem e_lenR {xs : List D} (q : Φ (.int xs.length) c) : lenD [.scr xs] c Φ := q
def jsK (ms : List ME) (acc : Str) (δ : Env) (Ψ : XD) (ΦS : Str → SH → Prop) (x : D) (c1 : SH) : Prop := match x with
  | .str y => (acc ++ y).length ≤ sizeLine ∧ jsD ms (acc ++ y) δ c1 Ψ ΦS
  | _ => False
def fmtK (Φ : QD) (x : D) (c1 : SH) : Prop := match x with
  | .str y => y.length ≤ sizeLine ∧ Φ (.str y) c1
  | .int i => i.natAbs.log2 < 1920 ∧ Φ (.str (toString i)) c1
  | _ => False
theorem e_js {ms : List ME} {δ : Env} {Ψ : XD} (h : jsD ms Str.empty δ c Ψ fun out c1 => Φ (.str out) c1) : jsM ms δ c Ψ Φ := h
theorem e_jsc {m : ME} {ms : List ME} {acc : Str} {δ : Env} {Ψ : XD} {ΦS : Str → SH → Prop} (h : m δ c Ψ (jsK ms acc δ Ψ ΦS)) : jsD (m :: ms) acc δ c Ψ ΦS := h
theorem e_jsn {acc : Str} {δ : Env} {Ψ : XD} {ΦS : Str → SH → Prop} (h : ΦS acc c) : jsD [] acc δ c Ψ ΦS := h
theorem e_fmt {a : ME} {δ : Env} {Ψ : XD} (h : a δ c Ψ (fmtK Φ)) : fmtM a δ c Ψ Φ := h
theorem e_yes {δ : Env} {Ψ : XD} {ΦT : Bool → SH → Prop} (h : ΦT true c) : yesM δ c Ψ ΦT := h
theorem e_turn {g : MG} {t : MT} {a : ME} {δ : Env} {k : Option D → SH → Prop} (h : g x δ c noX fun δ2 c2 => t δ2 c2 noX fun b c3 => if b = true then a δ2 c3 noX fun y c4 => k (some y) c4 else k none c3) : turnD g t a δ x c k := h
end
end M
set_option Elab.async false
set_option linter.all false
set_option maxRecDepth 100000
set_option maxHeartbeats 3900000
namespace M
open PySem PySem.Spec PyProof.Rows L2 G
end M
set_option Elab.async false
set_option linter.all false
set_option maxRecDepth 100000
set_option maxHeartbeats 3900000
namespace M
open PySem PySem.Spec PyProof.Rows L2 G
mutual
def pureD : D → Bool
  | .non => true
  | .bl _ => true
  | .int _ => true
  | .str _ => true
  | .lst xs => pureL xs
  | .tup xs => pureL xs
  | .ins _ fs => pureF fs
  | _ => false
def pureL : List D → Bool
  | [] => true
  | x :: xs => pureD x && pureL xs
def pureF : List (Str × D) → Bool
  | [] => true
  | (_, x) :: xs => pureD x && pureF xs
end
end M
set_option Elab.async false
set_option linter.all false
set_option maxRecDepth 100000
set_option maxHeartbeats 3900000
namespace M
open PySem PySem.Spec PyProof.Rows L2 G
def insC (C : Addr) : D → Bool
  | .ins C' _ => decide (C' = C)
  | _ => false
def itemX (C : Addr) (F : Fn) (x y : D) (c : SH) (k : Bool → Prop) : Prop := (pureD x = true ∧ pureD y = true ∧ insC C x = true ∧ insC C y = true) ∧ (x = y → k true) ∧ F [x, y] c noX fun v c' => c' = c ∧ ∃ b, v = .bl b ∧ k b
def eqLs (C : Addr) (F : Fn) : List D → List D → SH → (Bool → Prop) → Prop
  | [], [], _, k => k true
  | x :: xs, y :: ys, c, k => itemX C F x y c fun b => if b = true then eqLs C F xs ys c k else k false
  | _, _, _, _ => False
def rLX (K : PySem.W.Frag) (tb : List (Addr × Str)) (C : Addr) (F : Fn) : R2 := fun x y H Q => ∃ al G c dx dy xs ys Φ, Rep K tb al G c H ∧ Den K al G x dx ∧ Den K al G y dy ∧ view c dx = .lst xs ∧ view c dy = .lst ys ∧ (xs.length ≠ ys.length → Φ (.bl false) c) ∧ (xs.length = ys.length → eqLs C F xs ys c fun b => Φ (.bl b) c) ∧ Ret K tb al G c H Φ Q
theorem DenL.at {K : PySem.W.Frag} {al : List Addr} {G : Hp} : ∀ {vs : List V} {xs : List D}, DenL K al G vs xs → ∀ (i : Nat) (h1 : i < vs.length) (h2 : i < xs.length), Den K al G vs[i] xs[i]
  | _, _, .cons h r, 0, _, _ => h
  | _, _, .cons h r, i + 1, h1, h2 => DenL.at r i (Nat.lt_of_succ_lt_succ h1) (Nat.lt_of_succ_lt_succ h2)
def eqLX (C : Addr) (F : Fn) (x y : D) (c : SH) (Φ : QD) : Prop := match view c x, view c y with
  | .lst xs, .lst ys => (xs.length ≠ ys.length → Φ (.bl false) c) ∧ (xs.length = ys.length → eqLs C F xs ys c fun b => Φ (.bl b) c)
  | _, _ => False
theorem dop_eqLX {K : PySem.W.Frag} {tb : List (Addr × Str)} {C : Addr} {F : Fn} : DOp K tb (rLX K tb C F) (eqLX C F) := by
  intro al G c H x y dx dy Φ Q R hx hy m q
  unfold eqLX at m
  split at m
  · rename_i xs ys e1 e2
    exact ⟨al, G, c, dx, dy, xs, ys, Φ, R, hx, hy, e1, e2, m.1, m.2, q⟩
  · cases m
end M
set_option Elab.async false
set_option linter.all false
set_option maxRecDepth 100000
set_option maxHeartbeats 3900000
namespace M
open PySem PySem.Spec PyProof.Rows L2 G
section
variable {X : Cx} {k : Nat} {f C : Addr} {fd : FuncData} {ps : List Str} {sp : Sp}
def rLenX (C : Addr) (sp : Sp) : List V → Hp → VK → Prop := fun xs H Q => ∃ a dx fs, xs = [.ref a] ∧ H a = some (.ins C dx fs) ∧ sp [.ref a] H (fun v H' => ∃ n : Nat, v = .int (n : Int) ∧ n < 2 ^ 62 ∧ Q (.int (n : Int)) H') fun _ _ _ => False
end
def lenXD (C : Addr) (F : Fn) (xs : List D) (c : SH) (Φ : QD) : Prop := oneD xs fun x => match view c x with
  | .ins C' _ => C' = C ∧ F [x] c noX fun v c' => ∃ n : Nat, v = .int (n : Int) ∧ n < 2 ^ 62 ∧ Φ (.int (n : Int)) c'
  | _ => False
section
variable {K : PySem.W.Frag} {tb : List (Addr × Str)} {C : Addr} {F : Fn}
theorem dc_lenX : DCall K tb (rLenX C (SpG K tb F)) (lenXD C F) := by
  intro al G c H xs ds Φ Q R hd m q
  obtain ⟨x, v, rfl, rfl, dx, m2⟩ := oneD_of m hd
  have vx := R.vw dx
  split at m2
  · rename_i e
    rw [e] at vx
    obtain ⟨rfl, m2⟩ := m2
    cases vx with
    | ins h r =>
      refine ⟨_, _, _, rfl, h, al, G, c, _, noX, _, R, .cons dx .nil, m2, fun d c2 al2 G2 H2 w r2 l2 dn m3 => ?_, thr0⟩
      obtain ⟨n, rfl, hn, m3⟩ := m3
      cases dn
      exact ⟨n, rfl, hn, q _ c2 al2 G2 H2 _ r2 l2 (.int _) m3⟩
  · cases m2
end
end M
set_option Elab.async false
set_option linter.all false
set_option maxRecDepth 100000
set_option maxHeartbeats 3900000
namespace M
open PySem PySem.Spec PyProof.Rows L2 G
theorem Room.u1 {k : Nat} {A : Around} (hr : Room k A) : A.units + 1 < cLine := by have := hr.un; omega
def keyOD : Key → D
  | .inl i => .int i
  | .inr z => .str z
theorem keyOD_den {K : PySem.W.Frag} {al : List Addr} {G : Hp} : ∀ k : Key, Den K al G (kV k) (keyOD k)
  | .inl i => .int i
  | .inr z => .str z
theorem DenK.get {K : PySem.W.Frag} {al : List Addr} {G : Hp} : ∀ {vs : List (Key × V)} {ds : List (Key × D)} {i : Nat} {k : Key} {d : D}, DenK K al G vs ds → ds[i]? = some (k, d) → ∃ v, vs[i]? = some (k, v) ∧ Den K al G v d
  | _, _, i, _, d, .nil, e => by simp at e
  | _, _, 0, _, d, .cons h _, e => by simp at e; obtain ⟨rfl, rfl⟩ := e; exact ⟨_, rfl, h⟩
  | _, _, i + 1, _, d, .cons _ r, e => by
    obtain ⟨v, h1, h2⟩ := DenK.get (i := i) r (by simpa using e)
    exact ⟨v, by simpa using h1, h2⟩
def itemsM (a : ME) : MI := fun δ c Ψ Φ => a δ c Ψ fun x c1 => match x with
  | .dic kvs => Φ (kvs.map fun kv => .tup [keyOD kv.1, kv.2]) (fun _ => True) c1
  | _ => False
def valuesM (a : ME) : MI := fun δ c Ψ Φ => a δ c Ψ fun x c1 => match x with
  | .dic kvs => Φ (kvs.map (·.2)) (fun _ => True) c1
  | _ => False
section
variable {K : PySem.W.Frag} {tb : List (Addr × Str)} {W : WX} {ta tv ty : TE} {a b mv : ME}
theorem snd_items (ha : SndE K tb W ta a) : SndI K tb W (iItems ta) (itemsM a) := by
  intro al G c H σ δ Ψ Φ R g m q
  refine ha al G c H σ δ Ψ _ _ g m fun x c1 al1 G1 H1 v r1 l1 d1 m1 => ?_
  split at m1
  · rename_i kvs
    cases d1 with
    | dic h r =>
      refine ⟨_, _, _, rfl, r1.sub _ _ h, q _ _ c1 al1 G1 H1 _ r1 l1 ⟨fun i y al2 G2 c2 H2 hy r2 l2 _ => ⟨r2.sub _ _ (l2.g _ _ h), ?_⟩, fun i y al2 G2 c2 H2 u H' hy r2 l2 _ yl => ?_, fun al2 G2 c2 H2 r2 l2 _ => ⟨r2.sub _ _ (l2.g _ _ h), ?_⟩⟩ m1⟩
      · have := (List.getElem?_eq_some_iff.mp hy).1
        rw [List.length_map] at this
        rw [r.length]
        exact this
      · rw [List.getElem?_map] at hy
        obtain ⟨⟨k, d⟩, h1, h2⟩ := Option.map_eq_some_iff.mp hy
        cases h2
        obtain ⟨w, h3, h4⟩ := r.get h1
        obtain ⟨T, k', v', hk, rfl, hT, rfl⟩ := yl
        rw [h3] at hk
        cases hk
        obtain ⟨p1, p2, p3⟩ := pair_new (vs := [kV k, w]) (ds := [keyOD k, d]) r2 hT (.cons (keyOD_den k) (.cons (h4.le l2) .nil))
        exact ⟨_, p1, p2, p3⟩
      · rw [List.length_map, r.length]
        exact Nat.le_refl _
  · cases m1
theorem snd_values (ha : SndE K tb W ta a) : SndI K tb W (iVals ta) (valuesM a) := by
  intro al G c H σ δ Ψ Φ R g m q
  refine ha al G c H σ δ Ψ _ _ g m fun x c1 al1 G1 H1 v r1 l1 d1 m1 => ?_
  split at m1
  · rename_i kvs
    cases d1 with
    | dic h r =>
      refine ⟨_, _, _, rfl, r1.sub _ _ h, q _ _ c1 al1 G1 H1 _ r1 l1 ⟨fun i y al2 G2 c2 H2 hy r2 l2 _ => ⟨r2.sub _ _ (l2.g _ _ h), ?_⟩, fun i y al2 G2 c2 H2 u H' hy r2 l2 _ yl => ?_, fun al2 G2 c2 H2 r2 l2 _ => ⟨r2.sub _ _ (l2.g _ _ h), ?_⟩⟩ m1⟩
      · have := (List.getElem?_eq_some_iff.mp hy).1
        rw [List.length_map] at this
        rw [r.length]
        exact this
      · rw [List.getElem?_map] at hy
        obtain ⟨⟨k, d⟩, h1, h2⟩ := Option.map_eq_some_iff.mp hy
        cases h2
        obtain ⟨w, h3, h4⟩ := r.get h1
        obtain ⟨rfl, k', hk⟩ := yl
        rw [h3] at hk
        cases hk
        exact ⟨G2, r2, .refl, h4.le l2⟩
      · rw [List.length_map, r.length]
        exact Nat.le_refl _
  · cases m1
def gtupnM (n : Nat) (g : MGs) : MG := fun x δ c _ N => match view c x with
  | .tup xs => xs.length = n ∧ g xs δ c noX N
  | _ => False
def gconsXM (m : MG) (g : MGs) : MGs := fun xs δ c _ N => match xs with
  | x :: r => m x δ c noX fun δ1 c1 => g r δ1 c1 noX N
  | [] => False
theorem sgo_tupn {vs : List Nat} {n : Nat} {g : TGs} {mg : MGs} (hg : SndGOs K tb vs g mg) : SndGO K tb W vs (gTup K n g) (gtupnM n mg) := by
  intro al G c H σ δ Ψ v x N R go d m q
  have vx := go.rep.vw d
  unfold gtupnM at m
  split at m
  · rename_i xs e
    rw [e] at vx
    cases vx with
    | tup h1 dn => exact ⟨_, _, rfl, .of h1, by rw [dn.length]; exact m.1, hg al G c H σ δ _ _ N R go.rep go.env dn m.2 q⟩
  · cases m
theorem sgo_consX {vs : List Nat} {tg : TG} {m : MG} {g : TGs} {mg : MGs} (hm : SndGO K tb (fun _ _ _ _ => False) vs tg m) (hg : SndGOs K tb vs g mg) : SndGOs K tb vs (gCons tg g) (gconsXM m mg) := by
  intro al G c H σ δ v x N R r s d mm q
  cases d with
  | nil => cases mm
  | cons d1 d2 =>
    refine ⟨_, _, rfl, ?_⟩
    refine hm al G c H σ δ noX _ _ _ _ ⟨r, s, thr0⟩ d1 mm fun δ1 c1 al1 G1 H1 σ1 r1 l1 s1 w1 m1 => ?_
    exact hg al1 G1 c1 H1 _ _ _ _ N R r1 s1 (d2.le l1) m1 fun δ' c' al' G' H' σ' r' l' s' w' n' => q δ' c' al' G' H' σ' r' (l1.trans l') s' (w'.trans w1) n'
def dcD (gd : SH → Prop) (turn : D → SH → (Option (Key × D) → SH → Prop) → Prop) : List D → List (Key × D) → SH → (List (Key × D) → SH → Prop) → Prop
  | [], acc, c, Φ => gd c ∧ Φ acc c
  | x :: xs, acc, c, Φ => gd c ∧ turn x c fun o c1 => acc.length < sizeLine ∧ dcD gd turn xs (match o with
    | some kv => putKD acc kv.1 kv.2
    | none => acc) c1 Φ
def turnK (g : MG) (t : MT) (k e : ME) (δ : Env) : D → SH → (Option (Key × D) → SH → Prop) → Prop := fun x c kk => g x δ c noX fun δ2 c2 => t δ2 c2 noX fun b c3 => if b = true then k δ2 c3 noX fun y c4 => e δ2 c4 noX fun z c5 => (match keyD y with
  | some j => kk (some (j, z)) c5
  | none => False) else kk none c3
def dcM (lv : Bool) (i : MI) (g : MG) (t : MT) (k e : ME) (vs : List Nat) : ME := fun δ c Ψ Φ => i δ c Ψ fun xs gd c1 => dcD gd (turnK g t k e (wipeD δ vs)) xs [] c1 fun kvs c2 => newK lv kvs c2 Φ
theorem dc_go {wi : TI} {mi : MI} {g : TG} {mg : MG} {tt : TT} {mt : MT} {tk te : TE} {mk me : ME} {vs : List Nat} (hi : SndI K tb W wi mi) (hg : SndGO K tb W0 vs g mg) (ht : SndT K tb W0 tt mt) (hk : SndE K tb W0 tk mk) (he : SndE K tb W0 te me)
    {al G c H σ δ Ψ} {Φ : List (Key × D) → SH → Prop} {Q : VK} (go : Go K tb al G c H W σ δ Ψ) (m : mi δ c Ψ fun xs gd c1 => dcD gd (turnK mg mt mk me (wipeD δ vs)) xs [] c1 Φ)
    (q : ∀ D kvs avs al' G' c' H', Rep K tb al' G' c' H' → Le al G c H al' G' c' H' → Apart al' G' c' D → Fr H D → H' D = some (.dK avs) → DenK K al' G' avs kvs → Φ kvs c' → Q (.ref D) H') : tDc wi g tt tk te vs σ H Q := by
  refine hi al G c H σ δ Ψ _ _ go m fun xs gd c1 al1 G1 H1 J r1 l1 it m1 => ?_
  intro D hD
  have e1 : SRel K al1 G1 σ δ := go.env.le l1
  refine ⟨fun i n H2 => n = xs.length - i ∧ i ≤ xs.length ∧ ∃ al2 G2 c2 acc avs, Rep K tb al2 G2 c2 H2 ∧ Le al1 G1 c1 H1 al2 G2 c2 H2 ∧ Apart al2 G2 c2 D ∧ H2 D = some (.dK avs) ∧ DenK K al2 G2 avs acc ∧ dcD gd (turnK mg mt mk me (wipeD δ vs)) (xs.drop i) acc c2 Φ, ⟨_, rfl, Nat.zero_le _, al1, G1, c1, [], [], r1.grow (Ex.new hD), Le.grow (Ex.new hD), Apart.new r1 hD, upd_same, .nil, m1⟩, ?_⟩
  rintro i n H2 ⟨rfl, hle, al2, G2, c2, acc, avs, r2, l2, ap2, h2, d2, m2⟩
  by_cases hlt : i < xs.length
  · rw [drop_get hlt] at m2
    obtain ⟨hgd, m2⟩ := m2
    have hx : xs[i]? = some xs[i] := List.getElem?_eq_getElem hlt
    refine .inr ⟨it.go i _ al2 G2 c2 H2 hx r2 l2 hgd, fun H3 => ∃ al3 G3 c3 acc3 avs3, Rep K tb al3 G3 c3 H3 ∧ Le al1 G1 c1 H1 al3 G3 c3 H3 ∧ Apart al3 G3 c3 D ∧ H3 D = some (.dK avs3) ∧ DenK K al3 G3 avs3 acc3 ∧ dcD gd (turnK mg mt mk me (wipeD δ vs)) (xs.drop (i + 1)) acc3 c3 Φ, ?_, ?_⟩
    · rintro H3 ⟨al3, G3, c3, acc3, avs3, r3⟩
      exact ⟨xs.length - (i + 1), by omega, rfl, hlt, al3, G3, c3, acc3, avs3, r3⟩
    · intro v H' y
      obtain ⟨G', r', l', d'⟩ := it.yl i _ al2 G2 c2 H2 v H' hx r2 l2 hgd y
      obtain ⟨ap', h'⟩ := ap2.le h2 nofun l'
      have go' : Go K tb al2 G' c2 H' W0 (wipe σ vs) (wipeD δ vs) noX := ⟨r', ((e1.le l2).le l').wipe vs, thr0⟩
      refine hg al2 G' c2 H' _ _ noX v _ _ _ go' d' m2 fun δ3 c3 al3 G3 H3 σ3 r3 l3 s3 w3 m3 => ?_
      rw [wipe_wipe] at w3
      refine ⟨w3, ?_⟩
      have go3 : Go K tb al3 G3 c3 H3 W0 σ3 δ3 noX := ⟨r3, s3, thr0⟩
      refine ht al3 G3 c3 H3 σ3 δ3 noX _ _ go3 m3 fun b c4 al4 G4 H4 r4 l4 m4 => ?_
      have l24 := (l'.trans l3).trans l4
      cases b with
      | false =>
        obtain ⟨ap4, h4⟩ := ap2.le h2 nofun l24
        exact iteF ⟨al4, G4, c4, acc, avs, r4, l2.trans l24, ap4, h4, d2.mono l24.ad l24.g, m4.2⟩
      | true =>
        refine iteT (hk al4 G4 c4 H4 σ3 δ3 noX _ _ (go3.le r4 l4) m4 fun y c5 al5 G5 H5 w r5 l5 d5 m5 => ?_)
        refine he al5 G5 c5 H5 σ3 δ3 noX _ _ ((go3.le r4 l4).le r5 l5) m5 fun z c6 al6 G6 H6 u r6 l6 d6 m6 => ?_
        have l26 := (l24.trans l5).trans l6
        obtain ⟨ap6, h6⟩ := ap2.le h2 nofun l26
        split at m6
        · rename_i j ej
          have hl := m6.1
          have d26 : DenK K al6 G6 avs acc := d2.mono l26.ad l26.g
          refine ⟨avs, j, key_den d5 ej, h6, by rw [d2.length]; exact hl, al6, G6, c6, putKD acc j z, putK avs j u, r6.foreign h6 nofun nofun ap6.g ap6.liv ap6.k, (l2.trans l26).foreign (.of hD) nofun, ap6, upd_same, d26.put d6, m6.2⟩
        · cases m6
  · have hi2 : i = xs.length := by omega
    subst hi2
    rw [List.drop_length] at m2
    obtain ⟨hgd, m2⟩ := m2
    refine .inl ⟨it.st al2 G2 c2 H2 r2 l2 hgd, q D acc avs al2 G2 c2 H2 r2 (l1.trans l2) ap2 (l1.dom _ (.of hD)) h2 d2 m2⟩
theorem snd_dcE {wi : TI} {mi : MI} {g : TG} {mg : MG} {tt : TT} {mt : MT} {tk te : TE} {mk me : ME} {vs vs' : List Nat} (e : vs' = vs) (hi : SndI K tb W wi mi) (hg : SndGO K tb (fun _ _ _ _ => False) vs g mg) (ht : SndT K tb (fun _ _ _ _ => False) tt mt) (hk : SndE K tb (fun _ _ _ _ => False) tk mk) (he : SndE K tb (fun _ _ _ _ => False) te me) : SndE K tb W (tLk (tDc wi g tt tk te vs')) (dcM false mi mg mt mk me vs) := by
  subst e
  intro al G c H σ δ Ψ Φ Q go m q
  exact dc_go hi hg ht hk he go m fun D kvs avs al' G' c' H' r' l' ap' fr hD dn m' => lk_of r' ap' hD dn l' fr q (newK_f m')
def dputM (o i v : ME) : MS := fun δ c e => v δ c (e.x δ) fun z c1 => o δ c1 (e.x δ) fun x c2 => i δ c2 (e.x δ) fun y c3 => match x, keyD y with
  | .obj k, some j => (match c3[k]? with
    | some (.dic kvs) => kvs.length < sizeLine ∧ e.nx δ (c3.set k (.dic (putKD kvs j z)))
    | _ => False)
  | _, _ => False
theorem snd_dput (ho : SndE K tb W ta a) (hi : SndE K tb W ty b) (hv : SndE K tb W tv mv) : SndS K tb W (sDPut ta ty tv) (dputM a b mv) := by
  intro al G c H σ δ e D R s mm q
  refine hv al G c H σ δ (e.x δ) _ _ (q.go R s) mm fun z c1 al1 G1 H1 w r1 l1 d1 m1 => ?_
  refine ho al1 G1 c1 H1 σ δ (e.x δ) _ _ ((q.le l1).go r1 (s.le l1)) m1 fun x c2 al2 G2 H2 v r2 l2 d2 m2 => ?_
  refine hi al2 G2 c2 H2 σ δ (e.x δ) _ _ ((q.le (l1.trans l2)).go r2 (s.le (l1.trans l2))) m2 fun y c3 al3 G3 H3 u r3 l3 d3 m3 => ?_
  split at m3
  · rename_i k j ej
    split at m3
    · rename_i kvs hs
      cases d2 with
      | obj hk =>
        have hk3 := l3.ad _ _ hk
        obtain ⟨vs, h1, h2⟩ := r3.ent k _ _ hk3 hs
        refine ⟨_, _, rfl, .inl ⟨vs, j, h1, key_den d3 ej, by rw [h2.length]; exact m3.1, rfl⟩, ?_⟩
        have en : DenK K al3 G3 (putK vs j w) (putKD kvs j z) := h2.put (d1.le (l2.trans l3))
        have r4 := r3.change (u := .dK (putK vs j w)) hk3 hs rfl (o := .dic (putKD kvs j z)) ⟨_, upd_same, en⟩ rfl
        have l4 := Le.change (o := .dic (putKD kvs j z)) r3 hk3 hs rfl (u := .dK (putK vs j w)) nofun
        have l14 := ((l1.trans l2).trans l3).trans l4
        exact q.nx δ _ _ _ _ σ r4 l14 (s.le l14) m3.2
    · cases m3
  · cases m3
def rDictU (K : PySem.W.Frag) : List V → Hp → VK → Prop := fun xs H Q => (∃ (a : Addr) (kvs : List (Key × V)), xs = [.ref a] ∧ Rd H a (.dK kvs) ∧ ∀ p, H p = none → Q (.ref p) (upd H p (.dK kvs))) ∨
  ∃ (a : Addr) (ps : List Addr) (kvs : List (Key × V)), xs = [.ref a] ∧ SqL K H a (ps.map V.ref) ∧ Paired (fun p kv => SqT K H p [kV kv.1, kv.2]) ps kvs ∧ ∀ p, H p = none → Q (.ref p) (upd H p (.dK (mergeK [] kvs)))
def pairsD : List D → Option (List (Key × D))
  | [] => some []
  | .tup [x, y] :: r => match keyD x, pairsD r with
    | some k, some kvs => some ((k, y) :: kvs)
    | _, _ => none
  | _ => none
theorem pairs_den {al : List Addr} {G H : Hp} (ex : Ex G H) : ∀ {vs : List V} {ds : List D} {kvs : List (Key × D)}, DenL K al G vs ds → pairsD ds = some kvs → ∃ (ps : List Addr) (us : List (Key × V)), vs = ps.map V.ref ∧ Paired (fun p kv => SqT K H p [kV kv.1, kv.2]) ps us ∧ DenK K al G us kvs
  | _, _, _, .nil, e => by cases e; exact ⟨[], [], rfl, .nil, .nil⟩
  | _, _, kvs, .cons (d := d) h r, e => by
    unfold pairsD at e
    split at e
    · rename_i he; cases he
    · rename_i x y r' he
      cases he
      split at e
      · rename_i k ks e1 e2
        cases e
        obtain ⟨ps, us, rfl, pr, dn⟩ := pairs_den ex r e2
        cases h with
        | tup hg hl =>
          cases hl with
          | cons hx hl =>
            cases hl with
            | cons hy hl =>
              cases hl
              have ek := key_den hx e1
              subst ek
              exact ⟨_ :: ps, (k, _) :: us, rfl, .cons (.of (ex _ _ hg)) pr, .cons hy dn⟩
      · cases e
    · cases e
def dictD (xs : List D) (c : SH) (k : List (Key × D) → Prop) : Prop := oneD xs fun x => match view c x with
  | .dic kvs => k kvs
  | .lst ys => (match pairsD ys with
    | some kvs => k (mergeD [] kvs)
    | none => False)
  | _ => False
def dictM (lv : Bool) (A : MA) : ME := fun δ c Ψ Φ => A δ c Ψ fun xs c1 => dictD xs c1 fun kvs => newK lv kvs c1 Φ
theorem dict_go {al : List Addr} {G : Hp} {c : SH} {H : Hp} {vs : List V} {ds : List D} {k : List (Key × D) → Prop} {Q : VK} (R : Rep K tb al G c H) (dn : DenL K al G vs ds) (m : dictD ds c k) (q : ∀ p us kvs, H p = none → DenK K al G us kvs → k kvs → Q (.ref p) (upd H p (.dK us))) : rDictU K vs H Q := by
  obtain ⟨x, v, rfl, rfl, dx, m2⟩ := oneD_of m dn
  have vx := R.vw dx
  split at m2
  · rename_i kvs e
    rw [e] at vx
    cases vx with
    | dic h r => exact .inl ⟨_, _, rfl, h, fun p hp => q p _ kvs hp r m2⟩
  · rename_i ys e
    rw [e] at vx
    split at m2
    · rename_i kvs e2
      cases vx with
      | lst h r =>
        obtain ⟨ps, us, rfl, pr, dk⟩ := pairs_den R.sub r e2
        exact .inr ⟨_, ps, us, rfl, .of h, pr, fun p hp => q p _ _ hp (dk.merge .nil) m2⟩
    · cases m2
  · cases m2
variable {tA : TA} {mA : MA}
theorem snd_dict (hA : SndA K tb W tA mA) : SndE K tb W (tCB (rDictU K) tA) (dictM true mA) := by
  intro al G c H σ δ Ψ Φ Q g m q
  refine hA al G c H σ δ Ψ _ _ g m fun xs c1 al1 G1 H1 vs r1 l1 d1 m1 => ?_
  exact dict_go r1 d1 m1 fun p us kvs hp dk mk => newK_ok r1 hp dk mk (q.le l1)
theorem snd_dictL (hA : SndA K tb W tA mA) : SndE K tb W (tLk (tCB (rDictU K) tA)) (dictM false mA) := by
  intro al G c H σ δ Ψ Φ Q g m q
  refine hA al G c H σ δ Ψ _ _ g m fun xs c1 al1 G1 H1 vs r1 l1 d1 m1 => ?_
  exact dict_go r1 d1 m1 fun p us kvs hp dk mk => lk_new r1 hp dk (q.le l1) (newK_f mk)
def rSortedK (K : PySem.W.Frag) : List V → Hp → VK → Prop := fun xs H Q => ∃ (a : Addr) (kvs : List (Key × V)) (ks : List Str), xs = [.ref a] ∧ Rd H a (.dK kvs) ∧ kvs.map (·.1) = ks.map Sum.inr ∧ ks.length < 64 ∧
    ∀ ys p, ys.Perm ks → sortedS ys = true → H p = none → Q (.ref p) (upd H p (.lst (ys.map V.str)))
def keysS : List (Key × D) → Option (List Str)
  | [] => some []
  | (.inr z, _) :: r => (keysS r).map (z :: ·)
  | _ => none
theorem keysS_den {al : List Addr} {G : Hp} : ∀ {vs : List (Key × V)} {ds : List (Key × D)} {ks : List Str}, DenK K al G vs ds → keysS ds = some ks → vs.map (·.1) = ks.map Sum.inr
  | _, _, _, .nil, e => by cases e; rfl
  | _, _, ks, .cons (k := k) h r, e => by
    cases k with
    | inl i => cases e
    | inr z =>
      simp only [keysS] at e
      obtain ⟨zs, e1, rfl⟩ := Option.map_eq_some_iff.mp e
      rw [List.map_cons, List.map_cons, keysS_den r e1]
def sortedKD (lv : Bool) (xs : List D) (c : SH) (Φ : QD) : Prop := oneD xs fun x => match view c x with
  | .dic kvs => ∃ ks, keysS kvs = some ks ∧ ks.length < 64 ∧ ∀ ys, ys.Perm ks → sortedS ys = true → newL lv (ys.map .str) c Φ
  | _ => False
theorem dc_sortK {lv : Bool} : DCall K tb (rSortedK K) (sortedKD lv) := by
  intro al G c H xs ds Φ Q R hd m q
  obtain ⟨x, v, rfl, rfl, dx, m2⟩ := oneD_of m hd
  have vx := R.vw dx
  split at m2
  · rename_i kvs e
    rw [e] at vx
    obtain ⟨ks, e2, h64, m2⟩ := m2
    cases vx with
    | dic h r => exact ⟨_, _, ks, rfl, h, keysS_den r e2, h64, fun ys p hp hs hn => newL_ok R hn (DenL.strs ys) (m2 ys hp hs) q⟩
  · cases m2
def maxLD (xs : List D) (c : SH) (Φ : QD) : Prop := oneD xs fun x => match lstD (view c x) with
  | some ys => ∃ zs, intsD ys = some zs ∧ 0 < zs.length ∧ ∀ m, m ∈ zs → (∀ y, y ∈ zs → y ≤ m) → Φ (.int m) c
  | none => False
def minLD (xs : List D) (c : SH) (Φ : QD) : Prop := oneD xs fun x => match lstD (view c x) with
  | some ys => ∃ zs, intsD ys = some zs ∧ 0 < zs.length ∧ ∀ m, m ∈ zs → (∀ y, y ∈ zs → m ≤ y) → Φ (.int m) c
  | none => False
theorem dc_maxL : DCall K tb (rMaxU K) (orC max2D maxLD) := by
  intro al G c H xs ds Φ Q R hd m q
  rcases m with m | m
  · exact dc_max2 al G c H xs ds Φ Q R hd m q
  · obtain ⟨x, v, rfl, rfl, dx, m2⟩ := oneD_of m hd
    split at m2
    · rename_i ys e
      obtain ⟨b, vs, rfl, h1, h2⟩ := lst_vw e (R.vw dx)
      obtain ⟨zs, e2, h0, m2⟩ := m2
      rw [ints_den h2 e2] at h1
      exact .inr ⟨b, zs, rfl, h1, h0, fun m hm hy => q _ c al G H _ R .refl (.int _) (m2 m hm hy)⟩
    · cases m2
theorem dc_minL : DCall K tb (rMinU K) (orC min2D minLD) := by
  intro al G c H xs ds Φ Q R hd m q
  rcases m with m | m
  · exact dc_min2 al G c H xs ds Φ Q R hd m q
  · obtain ⟨x, v, rfl, rfl, dx, m2⟩ := oneD_of m hd
    split at m2
    · rename_i ys e
      obtain ⟨b, vs, rfl, h1, h2⟩ := lst_vw e (R.vw dx)
      obtain ⟨zs, e2, h0, m2⟩ := m2
      rw [ints_den h2 e2] at h1
      exact .inr ⟨b, zs, rfl, h1, h0, fun m hm hy => q _ c al G H _ R .refl (.int _) (m2 m hm hy)⟩
    · cases m2
end
end M
set_option Elab.async false
set_option linter.all false
set_option maxRecDepth 100000
set_option maxHeartbeats 3900000
namespace G
open PySem PySem.Spec PyProof.Rows L2
end G
namespace M
open PySem PySem.Spec PyProof.Rows L2 G
def toldD (x : D) : D := .lst [.str (Str.ofString "told"), x]
def caseM (K : PySem.W.Frag) (hs : Hds) (lam : ME) (rest : Fn) (a b d : ME) : ME := fun δ c Ψ Φ => a δ c Ψ fun p1 c1 => b δ c1 Ψ fun p2 c2 => d δ c2 Ψ fun p3 c3 =>
  lam (δ ++ [some p1]) c3 (fun C g x c' => dealD K hs C g x c' fun fd c'' => rest [p1, p2, p3, fd] c'' noX Φ) fun x c' => rest [p1, p2, p3, toldD x] c' noX Φ
end M
set_option Elab.async false
set_option linter.all false
set_option maxRecDepth 100000
set_option maxHeartbeats 3900000
namespace M
open PySem PySem.Spec PyProof.Rows L2 G
section
variable {K : PySem.W.Frag} {c : SH} {Ψ : XD} {Φ : QD}
theorem e_ixT {x : D} {xs : List D} {i : Int} (h : atI xs i = some x) (q : Φ x c) : ixD (.tup xs) (.int i) c Φ := by
  show (match atI xs i with | some d => Φ d c | none => False)
  rw [h]
  exact q
theorem e_ixL {x : D} {xs : List D} {i : Int} (h : atI xs i = some x) (q : Φ x c) : ixD (.lst xs) (.int i) c Φ := by
  show (match atI xs i with | some d => Φ d c | none => False)
  rw [h]
  exact q
theorem e_ix0 {x : D} {xs : List D} (q : Φ x c) : ixD (.tup (x :: xs)) (.int 0) c Φ := e_ixT (atI_nat (j := 0) rfl) q
theorem e_ix1 {x y : D} {xs : List D} (q : Φ y c) : ixD (.tup (x :: y :: xs)) (.int 1) c Φ := e_ixT (atI_nat (j := 1) rfl) q
theorem e_dnew {δ : M.Env} (q : Φ (.dic []) c) : dnewM false δ c Ψ Φ := by show newK false [] c Φ; unfold newK; exact e_ifF q
theorem box_len {i n : Nat} (hb : c[i]? = some (.box n)) : i < c.length := (List.getElem?_eq_some_iff.mp hb).1
theorem box_set {i n : Nat} {o : SO} (hb : c[i]? = some (.box n)) : (c.set i o)[i]? = some o := by
  rw [List.getElem?_set, if_pos rfl, if_pos (box_len hb)]
theorem okc_box {i m : Nat} : okc c (c.set i (.box m)) := fun j o h => by
  rw [List.getElem?_set] at h
  split at h
  · split at h
    · cases h; exact .inr rfl
    · cases h
  · exact .inl h
theorem seqIx {d : Int} {n : Nat} (h0 : 0 ≤ d) (h1 : d < n) : seqIndex? d n = some d.toNat := by
  have e : (if d < 0 then d + (n : Int) else d) = d := if_neg (by omega)
  unfold seqIndex?
  simp only [e]
  first | rfl | simp [h0, h1] | (rw [if_pos ⟨h0, h1⟩])
theorem e_lenV {x : D} {ys : List D} (h : view c x = .lst ys) (q : Φ (.int ys.length) c) : lenD [x] c Φ := by
  unfold lenD oneD
  dsimp only
  rw [h]
  exact q
theorem e_popAt {k : Nat} {ys : List D} {d : Int} {y : D} (hv : c[k]? = some (.lst ys)) (h0 : 0 ≤ d) (h1 : d < ys.length) (hl : ys.length ≤ 1000) (hy : ys[d.toNat]? = some y) (q : Φ y (c.set k (.lst (ys.eraseIdx d.toNat)))) : popAtD (.obj k) [.int d] c Φ := by
  unfold popAtD oneD M.intD liveL
  dsimp only
  refine ⟨⟨by omega, by omega⟩, ?_⟩
  rw [hv]
  dsimp only
  rw [seqIx h0 h1]
  dsimp only
  rw [hy]
  exact q
theorem e_gtup2 {x y : D} {i j : Nat} {δ : M.Env} {N : M.Env → SH → Prop} (q : N ((δ.set i (some x)).set j (some y)) c) : gtupM (gconsM i (gconsM j gnilM)) (.tup [x, y]) δ c Ψ N := ⟨rfl, q⟩
theorem e_slL {xs : List D} {lo hi : Option Int} (hz : (cutD xs lo hi).length ≤ sizeLine) (q : Φ (.lst (cutD xs lo hi)) c) : slD false (.lst xs) lo hi c Φ := ⟨hz, e_ifF q⟩
end
end M
set_option Elab.async false
set_option linter.all false
set_option maxRecDepth 100000
set_option maxHeartbeats 3900000
namespace M
open PySem PySem.Spec PyProof.Rows L2 G
section
variable {K : PySem.W.Frag} {δ : Env} {c : SH} {Ψ : XD} {Φ : QD} {a b k e : ME} {A : MA} {g : MG} {t : MT} {mi : MI} {x y : D} {ΦI : List D → (SH → Prop) → SH → Prop} {kvs : List (Key × D)}
theorem e_sz {α : Type} {xs : List α} {p : Prop} (h : Nat.ble xs.length sizeLine = true) (q : p) : xs.length ≤ sizeLine ∧ p := ⟨Nat.le_of_ble_eq_true h, q⟩
theorem e_ixL0 {xs : List D} (q : Φ x c) : ixD (.lst (x :: xs)) (.int 0) c Φ := e_ixL (atI_nat (j := 0) rfl) q
theorem e_ixL1 {x y : D} {xs : List D} (q : Φ y c) : ixD (.lst (x :: y :: xs)) (.int 1) c Φ := e_ixL (atI_nat (j := 1) rfl) q
theorem e_ixL2 {x y z : D} {xs : List D} (q : Φ z c) : ixD (.lst (x :: y :: z :: xs)) (.int 2) c Φ := e_ixL (atI_nat (j := 2) rfl) q
def itMK (ΦI : List D → (SH → Prop) → SH → Prop) (x : D) (c : SH) : Prop := match itemsD (view c x) with
  | some xs => ΦI xs (fun c' => view c' x = view c x) c
  | none => False
theorem e_itM (h : a δ c Ψ (itMK ΦI)) : itM a δ c Ψ ΦI := h
theorem e_itL {xs : List D} (h : ΦI xs (fun c' => view c' (.lst xs) = view c (.lst xs)) c) : itMK ΦI (.lst xs) c := h
theorem e_itT {xs : List D} (h : ΦI xs (fun c' => view c' (.tup xs) = view c (.tup xs)) c) : itMK ΦI (.tup xs) c := h
theorem e_itO {x : D} {xs : List D} (e : view c x = .lst xs) (h : ΦI xs (fun c' => view c' x = view c x) c) : itMK ΦI x c := by
  unfold itMK
  rw [e] at h ⊢
  exact h
def itemsK (ΦI : List D → (SH → Prop) → SH → Prop) (x : D) (c : SH) : Prop := match x with
  | .dic kvs => ΦI (kvs.map fun kv => .tup [keyOD kv.1, kv.2]) (fun _ => True) c
  | _ => False
def valuesK (ΦI : List D → (SH → Prop) → SH → Prop) (x : D) (c : SH) : Prop := match x with
  | .dic kvs => ΦI (kvs.map (·.2)) (fun _ => True) c
  | _ => False
theorem e_itemsM (h : a δ c Ψ (itemsK ΦI)) : itemsM a δ c Ψ ΦI := h
theorem e_valuesM (h : a δ c Ψ (valuesK ΦI)) : valuesM a δ c Ψ ΦI := h
theorem e_itemsD (h : ΦI (kvs.map fun kv => .tup [keyOD kv.1, kv.2]) (fun _ => True) c) : itemsK ΦI (.dic kvs) c := h
theorem e_valuesD (h : ΦI (kvs.map (·.2)) (fun _ => True) c) : valuesK ΦI (.dic kvs) c := h
theorem e_dc {vs : List Nat} (h : mi δ c Ψ fun xs gd c1 => dcD gd (turnK g t k e (wipeD δ vs)) xs [] c1 fun kvs c2 => newK false kvs c2 Φ) : dcM false mi g t k e vs δ c Ψ Φ := h
theorem e_lenD (q : Φ (.int kvs.length) c) : lenD [.dic kvs] c Φ := q
theorem e_newK (q : Φ (.dic kvs) c) : newK false kvs c Φ := by unfold newK; exact e_ifF q
def turnKK (kk : Option (Key × D) → SH → Prop) (z y : D) (c : SH) : Prop := match keyD y with
  | some j => kk (some (j, z)) c
  | none => False
theorem e_turnK {kk : Option (Key × D) → SH → Prop} (h : g x δ c noX fun δ2 c2 => t δ2 c2 noX fun b c3 => if b = true then k δ2 c3 noX fun y c4 => e δ2 c4 noX fun z c5 => turnKK kk z y c5 else kk none c3) : turnK g t k e δ x c kk := h
theorem e_keyS {kk : Option (Key × D) → SH → Prop} {z : D} {s : Str} (q : kk (some (.inr s, z)) c) : turnKK kk z (.str s) c := q
theorem putKD_new {acc : List (Key × D)} {j : Key} {z : D} (h : j ∉ acc.map (·.1)) : putKD acc j z = acc ++ [(j, z)] := by
  unfold putKD
  rw [if_neg]
  intro h2
  obtain ⟨kv, h3, h4⟩ := List.any_eq_true.mp h2
  exact h (List.mem_map.mpr ⟨kv, h3, of_decide_eq_true h4⟩)
theorem dc_map {α : Type} {gd : SH → Prop} {turn : D → SH → (Option (Key × D) → SH → Prop) → Prop} {ΦK : List (Key × D) → SH → Prop} (F : α → D) (f : α → Key × D) (hg : gd c) : ∀ (ys : List α) (acc : List (Key × D)), (acc.map (·.1) ++ ys.map fun y => (f y).1).Nodup → acc.length + ys.length < sizeLine → (∀ y ∈ ys, ∀ kk, kk (some (f y)) c → turn (F y) c kk) → ΦK (acc ++ ys.map f) c → dcD gd turn (ys.map F) acc c ΦK
  | [], acc, _, _, _, q => ⟨hg, by simpa using q⟩
  | y :: ys, acc, nd, hl, step, q => by
    refine ⟨hg, step y List.mem_cons_self _ ⟨by simp at hl; omega, ?_⟩⟩
    have e : putKD acc (f y).1 (f y).2 = acc ++ [f y] := putKD_new fun h => by
      have := List.nodup_append.mp nd
      exact this.2.2 _ h _ (List.mem_map.mpr ⟨y, List.mem_cons_self, rfl⟩) rfl
    show dcD gd turn (ys.map F) (putKD acc (f y).1 (f y).2) c ΦK
    rw [e]
    refine dc_map F f hg ys _ ?_ (by simp at hl ⊢; omega) (fun z hz => step z (List.mem_cons_of_mem _ hz)) (by simpa using q)
    simpa [List.map_append, List.append_assoc] using nd
theorem e_dict (h : A δ c Ψ fun xs c1 => dictD xs c1 fun kvs => newK false kvs c1 Φ) : dictM false A δ c Ψ Φ := h
theorem e_dictC {kk : List (Key × D) → Prop} (q : kk kvs) : dictD [.dic kvs] c kk := q
theorem e_gtup3n {i j l : Nat} {x y z : D} {N : Env → SH → Prop} (q : N (((δ.set i (some x)).set j (some y)).set l (some z)) c) : gtupnM 2 (gconsM i (gconsXM (gtupnM 2 (gconsM j (gconsM l gnilM))) gnilM)) (.tup [x, .tup [y, z]]) δ c Ψ N := ⟨rfl, rfl, rfl, rfl, q⟩
def lkK (Φ : QD) (x : D) (c1 : SH) : Prop := match x with
  | .obj k => match c1[k]? with
    | some (.dic xs) => Φ (.dic xs) (c1.set k (.frz (.dic xs)))
    | _ => False
  | _ => False
theorem e_lkM (h : a δ c Ψ (lkK Φ)) : lkM a δ c Ψ Φ := h
theorem e_lkD {k : Nat} (h : c[k]? = some (.dic kvs)) (q : Φ (.dic kvs) (c.set k (.frz (.dic kvs)))) : lkK Φ (.obj k) c := by
  unfold lkK
  dsimp only
  rw [h]
  exact q
def dputK (e : EndsD) (δ : Env) (z x y : D) (c3 : SH) : Prop := match x, keyD y with
  | .obj k, some j => (match c3[k]? with
    | some (.dic kvs) => kvs.length < sizeLine ∧ e.nx δ (c3.set k (.dic (putKD kvs j z)))
    | _ => False)
  | _, _ => False
theorem e_dputM {o i v : ME} {e : EndsD} (h : v δ c (e.x δ) fun z c1 => o δ c1 (e.x δ) fun x c2 => i δ c2 (e.x δ) fun y c3 => dputK e δ z x y c3) : dputM o i v δ c e := h
theorem e_dnewT (q : Φ (.obj c.length) (c ++ [.dic []])) : dnewM true δ c Ψ Φ := by show newK true [] c Φ; unfold newK; exact e_ifT q
theorem e_isN (q : Φ (.bl (nonD x)) c) : isD x .non c Φ := by cases x <;> exact q
theorem e_isntN (q : Φ (.bl (!nonD x)) c) : isntD x .non c Φ := by cases x <;> exact q
theorem ints_of_map {α : Type} (f : α → Int) : ∀ ys : List α, intsD (ys.map fun y => .int (f y)) = some (ys.map f)
  | [] => rfl
  | y :: ys => by rw [List.map_cons, List.map_cons]; simp only [intsD, ints_of_map f ys]
theorem e_caseM {K : PySem.W.Frag} {hs : Hds} {lam d3 : ME} {rest : Fn} (h : a δ c Ψ fun p1 c1 => b δ c1 Ψ fun p2 c2 => d3 δ c2 Ψ fun p3 c3 => lam (δ ++ [some p1]) c3 (fun C g x c' => dealD K hs C g x c' fun fd c'' => rest [p1, p2, p3, fd] c'' noX Φ) fun x c' => rest [p1, p2, p3, toldD x] c' noX Φ) : caseM K hs lam rest a b d3 δ c Ψ Φ := h
theorem e_powI {i j : Int} (h : CPow i j) (q : Φ (.int (i ^ j.toNat)) c) : powD (.int i) (.int j) c Φ := ⟨h, q⟩
theorem e_negI {i : Int} (q : Φ (.int (-i)) c) : negD (.int i) c Φ := q
end
end M
set_option Elab.async false
set_option linter.all false
set_option maxRecDepth 100000
set_option maxHeartbeats 3900000
namespace M
open PySem PySem.Spec PyProof.Rows L2 G
theorem lt_sz {n : Nat} (h : n ≤ 1000) : n < sizeLine := Nat.lt_of_le_of_lt h (by decide)
theorem box_self {c : SH} {i n : Nat} (h : c[i]? = some (.box n)) : c.set i (.box n) = c := by
  apply List.ext_getElem?
  intro j
  rw [List.getElem?_set]
  split
  · rename_i e
    subst e
    rw [h, if_pos (List.getElem?_eq_some_iff.mp h).1]
  · rfl
end M
set_option Elab.async false
set_option linter.all false
set_option maxRecDepth 100000
set_option maxHeartbeats 3900000
namespace M
open PySem PySem.Spec PyProof.Rows L2 G
structure Od (K : PySem.W.Frag) (op : D → D → SH → QD → Prop) (x : D) : Prop where
  bo : ∃ b, ∀ c, Isi K c x (.type "bool") b
  eq : ∀ (c : SH) (Φ : QD), Φ (.bl true) c → op x x c Φ
  nb : ∀ n, nb n x = true
section
variable {K : PySem.W.Frag} {o1 o2 : D → D → SH → QD → Prop} {x : D}
theorem Od.l (h : Od K o1 x) : Od K (orD o1 o2) x := ⟨h.bo, fun c Φ q => .inl (h.eq c Φ q), h.nb⟩
end
end M
set_option Elab.async false
set_option linter.all false
set_option maxRecDepth 100000
set_option maxHeartbeats 3900000
namespace M
open PySem PySem.Spec PyProof.Rows L2 G
section
variable {prog : Program} {w : World} {κ : Type} [DecidableEq κ] (knd : KeyKind prog w κ)
def Apt (l : List (Int × Value)) : Prop := l.Pairwise fun e e' => ∀ k, knd.is k e.2 = true → knd.is k e'.2 = true → False
def SetG (h : Heap) (a : Addr) (S : κ → Bool) (n : Nat) : Prop :=
  ∃ o es ep t, h.get? a = some o ∧ o.ExactSet ∧ o.data = .set es ep t ∧ ElemsOf knd es.toList ∧ (∀ k, S k = true ↔ ∃ e ∈ es.toList, knd.is k e.2 = true) ∧ es.size < scanBound ∧ t.fits es.size = true ∧ es.size = n ∧
    Apt knd es.toList ∧ L2.Ris t.place.toList ∧ (w.params.followText "set-order" = true ∨ t.led = true)
variable {knd} {A : Around} {E : Value → Shared → Prop} {s : Shared}
theorem SetG.of {h : Heap} {a : Addr} {S : κ → Bool} {n : Nat} (x : SetG knd h a S n) : h.SetOf knd a S n := let ⟨o, es, ep, t, h1, h2, h3, h4, h5, h6, h7, h8, _⟩ := x; ⟨o, es, ep, t, h1, h2, h3, h4, h5, h6, h7, h8⟩
end
end M
set_option Elab.async false
set_option linter.all false
set_option maxRecDepth 100000
set_option maxHeartbeats 3900000
namespace M
open PySem PySem.Spec PyProof.Rows L2 G
theorem nodup_le {α : Type} [DecidableEq α] : ∀ {xs ys : List α}, xs.Nodup → (∀ x ∈ xs, x ∈ ys) → xs.length ≤ ys.length
  | [], _, _, _ => Nat.zero_le _
  | x :: xs, ys, nd, h => by
    obtain ⟨n1, n2⟩ := List.nodup_cons.mp nd
    have ih := nodup_le (ys := ys.erase x) n2 fun y hy => (List.mem_erase_of_ne (fun (e : y = x) => n1 (by rw [← e]; exact hy))).mpr (h y (List.mem_cons_of_mem _ hy))
    have hx := h x List.mem_cons_self
    rw [List.length_erase_of_mem hx] at ih
    have := List.length_pos_of_mem hx
    rw [List.length_cons]
    omega
def rSortSet (K : PySem.W.Frag) (x : V) (H : Hp) (Q : VK) : Prop := ∃ (l : Addr) (zs : List Str), x = .ref l ∧ (SqL K H l (zs.map V.str) ∨ SqT K H l (zs.map V.str)) ∧ zs.length ≤ 4000 ∧ ∀ (ys : List Str) (p : Addr), sortedS ys = true → ys.Nodup → (∀ z, z ∈ ys ↔ z ∈ zs) → H p = none → Q (.ref p) (upd H p (.lst (ys.map V.str)))
def tSortSet (K : PySem.W.Frag) (ta : TE) : TE := fun σ H Q => ta σ H fun x H1 => rSortSet K x H1 Q
/-- its mirror -/
def sortSetM (lv : Bool) (a : ME) : ME := fun δ c Ψ Φ => a δ c Ψ fun x c1 => match seqD (view c1 x) with
  | some ys => match strsD ys with
    | some zs => zs.length ≤ 4000 ∧ ∀ us : List Str, sortedS us = true → us.Nodup → (∀ z, z ∈ us ↔ z ∈ zs) → newL lv (us.map .str) c1 Φ
    | none => False
  | none => False
theorem snd_sortSet {K : PySem.W.Frag} {tb : List (Addr × Str)} {W : WX} {lv : Bool} {ta : TE} {a : ME} (ha : SndE K tb W ta a) : SndE K tb W (tSortSet K ta) (sortSetM lv a) := by
  intro al G c H σ δ Ψ Φ Q g m q
  refine ha al G c H σ δ Ψ _ _ g m fun x c1 al1 G1 H1 v r1 l1 d1 m1 => ?_
  split at m1
  · rename_i ys e
    split at m1
    · rename_i zs e2
      obtain ⟨p, vs, rfl, h1, h2⟩ := seq_vw e (r1.vw d1)
      rw [strs_den h2 e2] at h1
      exact ⟨p, zs, rfl, h1, m1.1, fun us b hs nd hm hn => newL_ok r1 hn (DenL.strs us) (m1.2 us hs nd hm) (q.le l1)⟩
    · cases m1
  · cases m1
end M
set_option Elab.async false
set_option linter.all false
set_option maxRecDepth 100000
set_option maxHeartbeats 3900000
namespace M
open PySem PySem.Spec PyProof.Rows L2 G
def addT (K : PySem.W.Frag) (C : Addr) (n : String) : Prop := (∃ r, PySem.W.findIn K (.type n) "__add__" = some r) ∧ (∃ r, PySem.W.findIn K (.type n) "__radd__" = some r) ∧ PySem.W.subIn K (.type n) (.ref C) = some false
def addOk (K : PySem.W.Frag) (C : Addr) (T : Value) : Prop := T = .ref C ∨ ∃ n, T = .type n ∧ addT K C n
def tAddX (K : PySem.W.Frag) (C : Addr) (sp : Sp) (E : L2.St → XK) (ta tb : TE) : TE := fun σ H Q => ta σ H fun x H1 => tb σ H1 fun y H2 => ∃ a dx fs T, x = .ref a ∧ H2 a = some (.ins C dx fs) ∧ TyX K H2 y T ∧ addOk K C T ∧ sp [x, y] H2 Q (E σ)
def addXM (K : PySem.W.Frag) (C : Addr) (F : Fn) (a b : ME) : ME := fun δ c Ψ Φ => a δ c Ψ fun x c1 => b δ c1 Ψ fun y c2 => (match view c2 x with
  | .ins C' _ => C' = C ∧ (∃ T, tyT K (view c2 y) T ∧ addOk K C T) ∧ F [x, y] c2 Ψ Φ
  | _ => False)
theorem snd_addX {K : PySem.W.Frag} {tb : List (Addr × Str)} {W : WX} {C : Addr} {F : Fn} {ta tb' : TE} {a b : ME} (ha : SndE K tb W ta a) (hb : SndE K tb W tb' b) : SndE K tb W (tAddX K C (SpG K tb F) (WE W) ta tb') (addXM K C F a b) := by
  intro al G c H σ δ Ψ Φ Q g m q
  refine ha al G c H σ δ Ψ _ _ g m fun x c1 al1 G1 H1 v r1 l1 d1 m1 => ?_
  refine hb al1 G1 c1 H1 σ δ Ψ _ _ (g.le r1 l1) m1 fun y c2 al2 G2 H2 u r2 l2 d2 m2 => ?_
  have vx := r2.vw (d1.le l2)
  have vy := r2.vw d2
  split at m2
  · rename_i e
    rw [e] at vx
    obtain ⟨rfl, ⟨T, h1, h2⟩, m⟩ := m2
    cases vx with
    | ins h r => exact ⟨_, _, _, T, rfl, h, tyT_ok vy h1, h2, al2, G2, c2, _, Ψ, Φ, r2, .cons (d1.le l2) (.cons d2 .nil), m, q.le (l1.trans l2), g.thr.le (l1.trans l2)⟩
  · cases m2
end M
set_option Elab.async false
set_option linter.all false
set_option maxRecDepth 100000
set_option maxHeartbeats 3900000
namespace M
open PySem PySem.Spec PyProof.Rows L2 G
abbrev IR := D → D → SH → (Bool → Prop) → Prop
def eqGs (r : IR) : List D → List D → SH → (Bool → Prop) → Prop
  | [], [], _, k => k true
  | x :: xs, y :: ys, c, k => r x y c fun b => if b = true then eqGs r xs ys c k else k false
  | _, _, _, _ => False
def rLG (K : PySem.W.Frag) (tb : List (Addr × Str)) (r : IR) : R2 := fun x y H Q => ∃ al G c dx dy xs ys Φ, Rep K tb al G c H ∧ Den K al G x dx ∧ Den K al G y dy ∧ view c dx = .lst xs ∧ view c dy = .lst ys ∧ (xs.length ≠ ys.length → Φ (.bl false) c) ∧ (xs.length = ys.length → eqGs r xs ys c fun b => Φ (.bl b) c) ∧ Ret K tb al G c H Φ Q
def eqGD (r : IR) (x y : D) (c : SH) (Φ : QD) : Prop := match view c x, view c y with
  | .lst xs, .lst ys => (xs.length ≠ ys.length → Φ (.bl false) c) ∧ (xs.length = ys.length → eqGs r xs ys c fun b => Φ (.bl b) c)
  | _, _ => False
theorem dop_eqG {K : PySem.W.Frag} {tb : List (Addr × Str)} {r : IR} : DOp K tb (rLG K tb r) (eqGD r) := by
  intro al G c H x y dx dy Φ Q R hx hy m q
  unfold eqGD at m
  split at m
  · rename_i xs ys e1 e2
    exact ⟨al, G, c, dx, dy, xs, ys, Φ, R, hx, hy, e1, e2, m.1, m.2, q⟩
  · cases m
def listRgM (lv : Bool) (a : ME) : ME := fun δ c Ψ Φ => a δ c Ψ fun x c1 => intD x c1 fun n c1 => RgOk 0 n ∧ newL lv (rngD 0 n.toNat) c1 Φ
theorem rgV_den {K : PySem.W.Frag} {al : List Addr} {G : Hp} (n : Int) : DenL K al G (rgV 0 n) (rngD 0 n.toNat) := by
  unfold rgV rngD
  rw [Int.sub_zero]
  generalize List.range n.toNat = l
  induction l with
  | nil => exact .nil
  | cons i l ih => exact .cons (.int _) ih
theorem snd_listRg {K : PySem.W.Frag} {tb : List (Addr × Str)} {W : WX} {lv : Bool} {ta : TE} {a : ME} (ha : SndE K tb W ta a) : SndE K tb W (tLstRg (tRg1 ta)) (listRgM lv a) := by
  intro al G c H σ δ Ψ Φ Q g m q
  refine ha al G c H σ δ Ψ _ _ g m fun x c1 al1 G1 H1 v r1 l1 d1 m1 => ?_
  obtain ⟨i, rfl, rfl, h1, h2⟩ := intD_of m1 d1
  exact ⟨i, rfl, h1, fun p hp => newL_ok r1 hp (rgV_den i) h2 (q.le l1)⟩
end M
set_option Elab.async false
set_option linter.all false
set_option maxRecDepth 100000
set_option maxHeartbeats 3900000
namespace M
open PySem PySem.Spec PyProof.Rows L2 G
def anyE (m : Bool → ME) : ME := fun δ c Ψ Φ => ∃ b, m b δ c Ψ Φ
section
variable {K : PySem.W.Frag} {tb : List (Addr × Str)} {W : WX} {t : TE} {m : Bool → ME} {δ : Env} {c : SH} {Ψ : XD} {Φ : QD}
theorem snd_anyE (h : ∀ b, SndE K tb W t (m b)) : SndE K tb W t (anyE m) := fun al G c H σ δ Ψ Φ Q g ⟨b, mb⟩ q => h b al G c H σ δ Ψ Φ Q g mb q
theorem e_any (b : Bool) (h : m b δ c Ψ Φ) : anyE m δ c Ψ Φ := ⟨b, h⟩
end
end M
set_option Elab.async false
set_option linter.all false
set_option maxRecDepth 100000
set_option maxHeartbeats 3900000
namespace M
open PySem PySem.Spec PyProof.Rows L2 G
section
variable {K : PySem.W.Frag} {c : SH} {Ψ : XD} {Φ : QD}
theorem py_view {d : D} {zs : List D} {ps : List PyData} (h : view c d = .lst zs) (hz : ∀ ob, pyWL ob zs = some ps) : pyC c d = some (.list ps) := by
  cases d with
  | lst xs =>
    cases h
    simp only [pyC, pyW, hz, Option.map_some]
  | obj k =>
    simp only [view] at h
    simp only [pyC, pyW, pyO]
    cases e : c[k]? with
    | none => rw [e] at h; cases h
    | some o =>
      rw [e] at h
      cases o with
      | lst xs => cases h; simp only [hz, Option.map_some]
      | frz d => simp only at h; subst h; simp only [pyW, hz, Option.map_some]
      | _ => cases h
  | _ => cases h
theorem sc_view {d e : D} {zs : List D} (h : view c d = .lst zs) : scD d e = none := by
  cases d with
  | lst xs => cases e <;> rfl
  | obj k => cases e <;> rfl
  | _ => cases h
theorem eqvI1 (a b : Int) : PyData.eqv (.int a) (.int b) = decide (a = b) := by
  by_cases h : a = b
  · subst h; simp [PyData.eqv]
  · simp [PyData.eqv, h]
theorem eqvIs : ∀ xs ys : List Int, PyData.eqvAll (xs.map .int) (ys.map .int) = decide (xs = ys)
  | [], [] => by simp [PyData.eqvAll]
  | [], y :: ys => by simp [PyData.eqvAll]
  | x :: xs, [] => by simp [PyData.eqvAll]
  | x :: xs, y :: ys => by
    rw [List.map_cons, List.map_cons]
    simp only [PyData.eqvAll, eqvI1, eqvIs xs ys]
    by_cases h1 : x = y
    · by_cases h2 : xs = ys
      · simp [h1, h2]
      · simp [h1, h2]
    · simp [h1]
theorem eqvIl (xs ys : List Int) : PyData.eqv (.list (xs.map .int)) (.list (ys.map .int)) = decide (xs = ys) := by
  rw [← eqvIs]; simp [PyData.eqv]
theorem pyWL_ints (ob : Nat → Option PyData) : ∀ xs : List Int, pyWL ob (xs.map .int) = some (xs.map PyData.int)
  | [] => rfl
  | x :: xs => by simp only [List.map_cons, pyWL, pyW, pyWL_ints ob xs]
theorem nbL_ints (n : Nat) : ∀ xs : List Int, nbL n (xs.map .int) = true
  | [] => rfl
  | x :: xs => by simp only [List.map_cons, nbL, nb, nbL_ints n xs, Bool.and_self]
theorem e_neIs {d e : D} {xs ys : List Int} (h1 : view c d = .lst (xs.map .int)) (h2 : view c e = .lst (ys.map .int)) (q : Φ (.bl (!decide (xs = ys))) c) : neD d e c Φ :=
  e_pyN (sc_view h1) (py_view h1 fun ob => pyWL_ints ob xs) (py_view h2 fun ob => pyWL_ints ob ys) (shaped_ints xs) (shaped_ints ys) (by rw [eqvIl]; exact q)
/-- a list or a tuple of texts -/
def SqS (c : SH) (d : D) (xs : List Str) : Prop := view c d = .lst (xs.map .str) ∨ view c d = .tup (xs.map .str)
theorem SqS.seq {d : D} {xs : List Str} (h : SqS c d xs) : seqD (view c d) = some (xs.map .str) := by
  rcases h with h | h <;> rw [h] <;> rfl
theorem SqS.len {d : D} {xs : List Str} (h : SqS c d xs) (q : Φ (.int xs.length) c) : lenD [d] c Φ := by
  rcases h with h | h
  · unfold lenD oneD
    dsimp only
    rw [h]
    show Φ (.int ((xs.map D.str).length : Int)) c
    rw [List.length_map]
    exact q
  · unfold lenD oneD
    dsimp only
    rw [h]
    show Φ (.int ((xs.map D.str).length : Int)) c
    rw [List.length_map]
    exact q
end
section
variable {K : PySem.W.Frag} {δ : Env} {c : SH} {Ψ : XD} {Φ : QD} {A : MA} {a b : ME}
theorem e_rng2 {ΦI : List D → (SH → Prop) → SH → Prop} (h : A δ c Ψ fun xs c1 => twoD xs fun x y => intD x c1 fun i c1 => intD y c1 fun j c1 => (-(2 ^ 62) ≤ i ∧ i < 2 ^ 62 ∧ -(2 ^ 62) ≤ j ∧ j < 2 ^ 62) ∧ ΦI (rngD i (j - i).toNat) (fun _ => True) c1) : rng2M A δ c Ψ ΦI := h
theorem e_disp {lv : Bool} {p : MP} (h : p δ c Ψ fun kvs c1 => kvs.length ≤ 15 ∧ newK lv (mergeD [] kvs) c1 Φ) : dispM lv p δ c Ψ Φ := h
def pconK (δ : Env) (Ψ : XD) (r : MP) (ΦP : List (Key × D) → SH → Prop) (x y : D) (c : SH) : Prop := match keyD x with
  | some j => r δ c Ψ fun ps c3 => ΦP ((j, y) :: ps) c3
  | none => False
theorem e_pcons {r : MP} {ΦP : List (Key × D) → SH → Prop} (h : a δ c Ψ fun x c1 => b δ c1 Ψ fun y c2 => pconK δ Ψ r ΦP x y c2) : pconsM a b r δ c Ψ ΦP := h
theorem e_pconS {r : MP} {ΦP : List (Key × D) → SH → Prop} {z : Str} {y : D} (h : r δ c Ψ fun ps c3 => ΦP ((.inr z, y) :: ps) c3) : pconK δ Ψ r ΦP (.str z) y c := h
theorem e_pnil {ΦP : List (Key × D) → SH → Prop} (h : ΦP [] c) : pnilM δ c Ψ ΦP := h
def par3K (i j l : Nat) (δ : Env) (e : EndsD) (xs : List D) (c1 : SH) : Prop := match xs with
  | [x, y, z] => e.nx (((δ.set i (some x)).set j (some y)).set l (some z)) c1
  | _ => False
theorem e_par3 {i j l : Nat} {e : EndsD} (h : A δ c (e.x δ) (par3K i j l δ e)) : par3M i j l A δ c e := h
theorem e_par3K {i j l : Nat} {e : EndsD} {x y z : D} (h : e.nx (((δ.set i (some x)).set j (some y)).set l (some z)) c) : par3K i j l δ e [x, y, z] c := h
theorem e_int1b {k : Bool} (q : Φ (.int (if k then 1 else 0)) c) : int1D [.bl k] c Φ := q
def revK (lv : Bool) (Φ : QD) (x : D) (c1 : SH) : Prop := match lstD (view c1 x) with
  | some ys => newL lv ys.reverse c1 Φ
  | none => False
theorem e_rev {lv : Bool} (h : a δ c Ψ (revK lv Φ)) : revM lv a δ c Ψ Φ := h
theorem e_revL {ys : List D} (hl : ys.length ≤ sizeLine) (q : Φ (.lst ys.reverse) c) : revK false Φ (.lst ys) c := ⟨by rw [List.length_reverse]; exact hl, e_ifF q⟩
theorem e_tupleV {d : D} {ys : List D} (h : view c d = .lst ys) (q : Φ (.tup ys) c) : tupleD [d] c Φ := by
  show (match view c d with | .lst ys => Φ (.tup ys) c | .scr ys => Φ (.tup ys) c | .tup ys => Φ d c | _ => False)
  rw [h]
  exact q
def enumK (ΦI : List D → (SH → Prop) → SH → Prop) (x : D) (c1 : SH) : Prop := match lstD (view c1 x) with
  | some xs => ΦI (enumD 0 xs) (fun c' => view c' x = view c1 x) c1
  | none => False
theorem e_enum {ΦI : List D → (SH → Prop) → SH → Prop} (h : A δ c Ψ fun xs c1 => oneD xs fun x => enumK ΦI x c1) : enumM A δ c Ψ ΦI := h
theorem e_enumL {ΦI : List D → (SH → Prop) → SH → Prop} {xs : List D} (h : ΦI (enumD 0 xs) (fun c' => view c' (.lst xs) = view c (.lst xs)) c) : enumK ΦI (.lst xs) c := h
theorem e_gtup3 {x y z : D} {i j l : Nat} {N : Env → SH → Prop} (q : N (((δ.set i (some x)).set j (some y)).set l (some z)) c) : gtupM (gconsM i (gconsM j (gconsM l gnilM))) (.tup [x, y, z]) δ c Ψ N := ⟨rfl, q⟩
def sortSetK (lv : Bool) (Φ : QD) (x : D) (c1 : SH) : Prop := match seqD (view c1 x) with
  | some ys => match strsD ys with
    | some zs => zs.length ≤ 4000 ∧ ∀ us : List Str, sortedS us = true → us.Nodup → (∀ z, z ∈ us ↔ z ∈ zs) → newL lv (us.map .str) c1 Φ
    | none => False
  | none => False
theorem e_sortSet {lv : Bool} (h : a δ c Ψ (sortSetK lv Φ)) : sortSetM lv a δ c Ψ Φ := h
theorem e_listRg {lv : Bool} (h : a δ c Ψ fun x c1 => intD x c1 fun n c1 => RgOk 0 n ∧ newL lv (rngD 0 n.toNat) c1 Φ) : listRgM lv a δ c Ψ Φ := h
theorem e_addX {C : Addr} {F : Fn} (h : a δ c Ψ fun x c1 => b δ c1 Ψ fun y c2 => (match view c2 x with
  | .ins C' _ => C' = C ∧ (∃ T, tyT K (view c2 y) T ∧ addOk K C T) ∧ F [x, y] c2 Ψ Φ
  | _ => False)) : addXM K C F a b δ c Ψ Φ := h
end
end M
set_option Elab.async false
set_option linter.all false
set_option maxRecDepth 100000
set_option maxHeartbeats 3900000
namespace M
open PySem PySem.Spec PyProof.Rows L2 G
def tame (x : Str) : Prop := ∀ a k : Nat, x.cps.toList[1]? = some a → x.cps.toList[2]? = some a → x.cps.toList[7]? = some k → k = a
structure GoodT (xs : List Str) (m : Nat) : Prop extends Good xs m where
  tm : ∀ x ∈ xs, tame x
theorem GoodT.take {xs : List Str} {m n : Nat} (h : GoodT xs m) (hn : n ≤ m) : GoodT (xs.take n) n := ⟨h.toGood.take hn, fun x hx => h.tm x (List.mem_of_mem_take hx)⟩
end M
set_option Elab.async false
set_option linter.all false
set_option maxRecDepth 100000
set_option maxHeartbeats 3900000
namespace M
open PySem PySem.Spec PyProof.Rows L2 G
open AutoSeq1 (wpAny_loadPart')
def inGs (r : IR) (x : D) : List D → SH → (Bool → Prop) → Prop
  | [], _, k => k false
  | y :: ys, c, k => r y x c fun b => if b = true then k true else inGs r x ys c k
def rInG (K : PySem.W.Frag) (tb : List (Addr × Str)) (r : IR) (f : Bool → Bool) : R2 := fun x y H Q => ∃ al G c dx dy ys Φ, Rep K tb al G c H ∧ Den K al G x dx ∧ Den K al G y dy ∧ view c dy = .lst ys ∧ (inGs r dx ys c fun b => Φ (.bl (f b)) c) ∧ Ret K tb al G c H Φ Q
def inGD (r : IR) (f : Bool → Bool) (x y : D) (c : SH) (Φ : QD) : Prop := match view c y with
  | .lst ys => inGs r x ys c fun b => Φ (.bl (f b)) c
  | _ => False
theorem dop_inG {K : PySem.W.Frag} {tb : List (Addr × Str)} {r : IR} {f : Bool → Bool} : DOp K tb (rInG K tb r f) (inGD r f) := by
  intro al G c H x y dx dy Φ Q R hx hy m q
  unfold inGD at m
  split at m
  · rename_i ys e2
    exact ⟨al, G, c, dx, dy, ys, Φ, R, hx, hy, e2, m, q⟩
  · cases m
def tGetX (C : Addr) (sp : Sp) (E : L2.St → XK) (ta tb : TE) : TE := fun σ H Q => ta σ H fun x H1 => tb σ H1 fun y H2 => ∃ a dx fs, x = .ref a ∧ H2 a = some (.ins C dx fs) ∧ sp [x, y] H2 Q (E σ)
def getXM (C : Addr) (F : Fn) (a b : ME) : ME := fun δ c Ψ Φ => a δ c Ψ fun x c1 => b δ c1 Ψ fun y c2 => (match view c2 x with
  | .ins C' _ => C' = C ∧ F [x, y] c2 Ψ Φ
  | _ => False)
theorem snd_getX {K : PySem.W.Frag} {tb : List (Addr × Str)} {W : WX} {C : Addr} {F : Fn} {ta tb' : TE} {a b : ME} (ha : SndE K tb W ta a) (hb : SndE K tb W tb' b) : SndE K tb W (tGetX C (SpG K tb F) (WE W) ta tb') (getXM C F a b) := by
  intro al G c H σ δ Ψ Φ Q g m q
  refine ha al G c H σ δ Ψ _ _ g m fun x c1 al1 G1 H1 v r1 l1 d1 m1 => ?_
  refine hb al1 G1 c1 H1 σ δ Ψ _ _ (g.le r1 l1) m1 fun y c2 al2 G2 H2 u r2 l2 d2 m2 => ?_
  have vx := r2.vw (d1.le l2)
  split at m2
  · rename_i e
    rw [e] at vx
    obtain ⟨rfl, mm⟩ := m2
    cases vx with
    | ins h r => exact ⟨_, _, _, rfl, h, al2, G2, c2, _, Ψ, Φ, r2, .cons (d1.le l2) (.cons d2 .nil), mm, q.le (l1.trans l2), g.thr.le (l1.trans l2)⟩
  · cases m2
end M
set_option Elab.async false
set_option linter.all false
set_option maxRecDepth 100000
set_option maxHeartbeats 3900000
namespace M
open PySem PySem.Spec PyProof.Rows L2 G
def clearD (x : D) (xs : List D) (c : SH) (Φ : QD) : Prop := xs = [] ∧ liveL x c fun k ys => Φ .non (c.set k (.lst []))
def reverseD (x : D) (xs : List D) (c : SH) (Φ : QD) : Prop := xs = [] ∧ liveL x c fun k ys => Φ .non (c.set k (.lst ys.reverse))
section
variable {K : PySem.W.Frag} {tb : List (Addr × Str)}
theorem dm_clear : DMt K tb rClear clearD := by
  intro al G c H x xs dx ds Φ Q R hx hd m q
  obtain ⟨rfl, m2⟩ := m
  cases hd
  obtain ⟨i, l, vs, ys, rfl, h1, h2, h3, h4, m3⟩ := live_of R hx m2
  obtain ⟨r2, l2⟩ := change_lst R h1 h2 (ws := []) (zs := []) .nil
  exact ⟨l, vs, rfl, rfl, h3, q .non _ al G _ .non r2 l2 .non m3⟩
theorem dm_reverse : DMt K tb rReverse reverseD := by
  intro al G c H x xs dx ds Φ Q R hx hd m q
  obtain ⟨rfl, m2⟩ := m
  cases hd
  obtain ⟨i, l, vs, ys, rfl, h1, h2, h3, h4, m3⟩ := live_of R hx m2
  obtain ⟨r2, l2⟩ := change_lst R h1 h2 h4.reverse
  exact ⟨l, vs, rfl, rfl, h3, q .non _ al G _ .non r2 l2 .non m3⟩
end
def rSortedTS (K : PySem.W.Frag) : List V → Hp → VK → Prop := fun vs H Q => ∃ (a : Addr) (xs : List Str), vs = [V.ref a] ∧ SqT K H a (xs.map V.str) ∧ xs.length < 64 ∧ ∀ (ys : List Str) (p : Addr), ys.Perm xs → sortedS ys = true → H p = none → Q (.ref p) (upd H p (.lst (ys.map V.str)))
def sortedTD (lv : Bool) (xs : List D) (c : SH) (Φ : QD) : Prop := oneD xs fun x => match view c x with
  | .tup ys => ∃ zs, strsD ys = some zs ∧ zs.length < 64 ∧ ∀ us : List Str, us.Perm zs → sortedS us = true → newL lv (us.map .str) c Φ
  | _ => False
theorem dc_sortedT {K : PySem.W.Frag} {tb : List (Addr × Str)} {lv : Bool} : DCall K tb (rSortedTS K) (sortedTD lv) := by
  intro al G c H xs ds Φ Q R hd m q
  obtain ⟨x, v, rfl, rfl, dx, m2⟩ := oneD_of m hd
  have vx := R.vw dx
  split at m2
  · rename_i ys e
    rw [e] at vx
    obtain ⟨zs, e2, h64, m2⟩ := m2
    cases vx with
    | tup h1 r1 =>
      rw [strs_den r1 e2] at h1
      exact ⟨_, zs, rfl, .of h1, h64, fun us p hp hs hn => newL_ok R hn (DenL.strs us) (m2 us hp hs) q⟩
  · cases m2
end M
set_option Elab.async false
set_option linter.all false
set_option maxRecDepth 100000
set_option maxHeartbeats 3900000
namespace M
open PySem PySem.Spec PyProof.Rows L2 G StX
def starM (a : ME) (A : MA) : MA := fun δ c Ψ Φ => a δ c Ψ fun x c1 => match seqD (view c1 x) with
  | some xs => A δ c1 Ψ fun ys c2 => Φ (xs ++ ys) c2
  | none => False
theorem snd_star {K : PySem.W.Frag} {tb : List (Addr × Str)} {W : WX} {ta : TE} {a : ME} {tA : TA} {mA : MA} (ha : SndE K tb W ta a) (hA : SndA K tb W tA mA) : SndA K tb W (tStar K ta tA) (starM a mA) := by
  intro al G c H σ δ Ψ Φ Q g m q
  refine ha al G c H σ δ Ψ _ _ g m fun x c1 al1 G1 H1 v r1 l1 d1 m1 => ?_
  split at m1
  · rename_i ys e
    obtain ⟨p, vs, rfl, h1, h2⟩ := seq_vw e (r1.vw d1)
    refine ⟨p, vs, rfl, h1.symm, ?_⟩
    refine hA al1 G1 c1 H1 σ δ Ψ _ _ (g.le r1 l1) m1 fun xs c2 al2 G2 H2 us r2 l2 d2 m2 => ?_
    exact q (ys ++ xs) c2 al2 G2 H2 (vs ++ us) r2 (l1.trans l2) ((h2.le l2).append d2) m2
  · cases m1
def starK (A : MA) (δ : Env) (Ψ : XD) (ΦA : List D → SH → Prop) (x : D) (c1 : SH) : Prop := match seqD (view c1 x) with
  | some xs => A δ c1 Ψ fun ys c2 => ΦA (xs ++ ys) c2
  | none => False
theorem e_star {a : ME} {A : MA} {δ : Env} {c : SH} {Ψ : XD} {ΦA : List D → SH → Prop} (h : a δ c Ψ (starK A δ Ψ ΦA)) : starM a A δ c Ψ ΦA := h
theorem e_starL {A : MA} {δ : Env} {c : SH} {Ψ : XD} {ΦA : List D → SH → Prop} {xs : List D} (h : A δ c Ψ fun ys c2 => ΦA (xs ++ ys) c2) : starK A δ Ψ ΦA (.lst xs) c := h
abbrev keyN (ks : List L2.Key) : Nat → L2.Key := fun i => ks.getD i (Sum.inl 0)
def metK (ks : List L2.Key) : Nat := (met (keyN ks) ks.length).length
def rLenSetK (K : PySem.W.Frag) (x : V) (H : Hp) (Q : VK) : Prop := ∃ (l : Addr) (ks : List L2.Key), x = .ref l ∧ (SqL K H l (ks.map kV) ∨ SqT K H l (ks.map kV)) ∧ ks.length ≤ 4000 ∧ Q (.int (metK ks : Nat)) H
def tLenSetK (K : PySem.W.Frag) (ta : TE) : TE := fun σ H Q => ta σ H fun x H1 => rLenSetK K x H1 Q
def keysD : List D → Option (List L2.Key)
  | [] => some []
  | d :: r => match keyD d, keysD r with
    | some k, some ks => some (k :: ks)
    | _, _ => none
theorem keys_den {K : PySem.W.Frag} {al : List Addr} {G : Hp} : ∀ {vs : List V} {ds : List D} {ks : List L2.Key}, DenL K al G vs ds → keysD ds = some ks → vs = ks.map kV
  | _, _, _, .nil, e => by cases e; rfl
  | _, _, _, .cons h r, e => by
    unfold keysD at e
    split at e
    · rename_i k ks e1 e2
      cases e
      rw [key_den h e1, keys_den r e2]
      rfl
    · cases e
def lenSetKM (a : ME) : ME := fun δ c Ψ Φ => a δ c Ψ fun x c1 => match seqD (view c1 x) with
  | some ys => match keysD ys with
    | some ks => ks.length ≤ 4000 ∧ Φ (.int (metK ks : Nat)) c1
    | none => False
  | none => False
theorem snd_lenSetK {K : PySem.W.Frag} {tb : List (Addr × Str)} {W : WX} {ta : TE} {a : ME} (ha : SndE K tb W ta a) : SndE K tb W (tLenSetK K ta) (lenSetKM a) := by
  intro al G c H σ δ Ψ Φ Q g m q
  refine ha al G c H σ δ Ψ _ _ g m fun x c1 al1 G1 H1 v r1 l1 d1 m1 => ?_
  split at m1
  · rename_i ys e
    split at m1
    · rename_i ks e2
      obtain ⟨p, vs, rfl, h1, h2⟩ := seq_vw e (r1.vw d1)
      rw [keys_den h2 e2] at h1
      exact ⟨p, ks, rfl, h1, m1.1, q _ c1 al1 G1 H1 _ r1 l1 (.int _) m1.2⟩
    · cases m1
  · cases m1
def lskD (Φ : QD) (x : D) (c1 : SH) : Prop := match seqD (view c1 x) with
  | some ys => match keysD ys with
    | some ks => ks.length ≤ 4000 ∧ Φ (.int (metK ks : Nat)) c1
    | none => False
  | none => False
theorem e_lsk {a : ME} {δ : Env} {c : SH} {Ψ : XD} {Φ : QD} (h : a δ c Ψ (lskD Φ)) : lenSetKM a δ c Ψ Φ := h
theorem pg_unlU {X : Cx} {K : PySem.W.Frag} (hK : X.K = K) {es : List Expr} {k : Nat} {t : TGs} {n : Nat} {pos : Pos} (hc : X.calm = true) (h : PGs X es t)
    (hn : (assignEach es X.env).length = n := by rfl) (hst : (assignEach es X.env).findIdx? (·.1) = none := by rfl) : PG X (.Tuple es k pos) (gUnl K n t) := hK ▸ pg_unl hc h hn hst
def gunlM (n : Nat) (g : MGs) : MG := fun x δ c _ N => match lstD (view c x) with
  | some xs => xs.length = n ∧ g xs δ c noX N
  | none => False
theorem sgo_unl {K : PySem.W.Frag} {tb : List (Addr × Str)} {W : WX} {vs : List Nat} {n : Nat} {g : TGs} {mg : MGs} (hg : SndGOs K tb vs g mg) : SndGO K tb W vs (gUnl K n g) (gunlM n mg) := by
  intro al G c H σ δ Ψ v x N R go d m q
  have vx := go.rep.vw d
  unfold gunlM at m
  split at m
  · rename_i xs e
    obtain ⟨b, us, rfl, h1, dn⟩ := lst_vw e vx
    exact ⟨_, _, rfl, h1, by rw [dn.length]; exact m.1, hg al G c H σ δ _ _ N R go.rep go.env dn m.2 q⟩
  · cases m
theorem e_gunl2 {x y : D} {i j : Nat} {δ : M.Env} {c : SH} {Ψ : XD} {N : M.Env → SH → Prop} (q : N ((δ.set i (some x)).set j (some y)) c) : gunlM 2 (gconsM i (gconsM j gnilM)) (.lst [x, y]) δ c Ψ N := ⟨rfl, rfl, q⟩
end M
set_option Elab.async false
set_option linter.all false
set_option maxRecDepth 100000
set_option maxHeartbeats 3900000
namespace M
open PySem PySem.Spec PyProof.Rows L2 G StX
def tTryN (K : PySem.W.Frag) (C : Value) (tb : WX → TS) (ts : TS) (W : WX) : TS := fun D σ H => tb (wOne K C (fun cls d σ H => ∀ a, H a = none → ts D σ H) W) D σ H
/-- the mirror: what the body throws, told from its class -/
def tryM (K : PySem.W.Frag) (C : Addr) (b h : MS) : MS := fun δ c e => b δ c { e with xc := fun C' f d δ' c' => ∃ k, PySem.W.exmOne K (.ref C') (.ref C) = some k ∧ if k = true then h δ' c' e else e.xc C' f d δ' c' }
theorem snd_try {K : PySem.W.Frag} {tb : List (Addr × Str)} {W : WX} {C : Addr} {t : WX → TS} {ts : TS} {b h : MS} (hb : ∀ V, SndS K tb V (t V) b) (hh : SndS K tb W ts h) : SndS K tb W (tTryN K (.ref C) t ts W) (tryM K C b h) := by
  intro al G c H σ δ e D R s m k
  refine hb _ al G c H σ δ _ D R s m ⟨k.nx, k.rt, k.bk, k.ct, ?_⟩
  intro C' f d δ' c' al' G' H' dd v σ' R' l' s' fr hd den w
  obtain ⟨kk, h1, h2⟩ := w
  refine ⟨kk, h1, ?_⟩
  cases kk with
  | true =>
    rw [if_pos rfl] at h2 ⊢
    exact fun a _ => hh al' G' c' H' σ' δ' e D R' s' h2 (k.le l')
  | false =>
    rw [if_neg (by decide)] at h2 ⊢
    exact k.xc C' f d δ' c' al' G' H' dd v σ' R' l' s' fr hd den h2
theorem e_try {K : PySem.W.Frag} {C : Addr} {b h : MS} {δ : Env} {c : SH} {e : EndsD} (q : b δ c { e with xc := fun C' f d δ' c' => ∃ k, PySem.W.exmOne K (.ref C') (.ref C) = some k ∧ if k = true then h δ' c' e else e.xc C' f d δ' c' }) : tryM K C b h δ c e := q
def tCMethSD (C : Addr) (sp : Sp) (E : L2.St → XK) (ta : TE) (t : TA) : TE := fun σ H Q => ta σ H fun x H1 => x = .ref C ∧ t σ H1 fun vs H2 => sp (.ref C :: vs) H2 Q (E σ)
def cmM (C : Addr) (F : Fn) (a : ME) (A : MA) : ME := fun δ c Ψ Φ => a δ c Ψ fun x c1 => x = .adr C ∧ A δ c1 Ψ fun xs c2 => F (x :: xs) c2 Ψ Φ
section
variable {K : PySem.W.Frag} {tb : List (Addr × Str)} {W : WX} {ta : TE} {a : ME} {tA : TA} {mA : MA} {C : Addr} {F : Fn}
theorem snd_cm (ha : SndE K tb W ta a) (hA : SndA K tb W tA mA) : SndE K tb W (tCMethSD C (SpG K tb F) (WE W) ta tA) (cmM C F a mA) := by
  intro al G c H σ δ Ψ Φ Q g m q
  refine ha al G c H σ δ Ψ _ _ g m fun x c1 al1 G1 H1 v r1 l1 d1 m1 => ?_
  obtain ⟨rfl, m1⟩ := m1
  cases d1 with
  | adr =>
    refine ⟨rfl, hA al1 G1 c1 H1 σ δ Ψ _ _ (g.le r1 l1) m1 fun xs c2 al2 G2 H2 vs r2 l2 d2 m2 => ?_⟩
    exact ⟨al2, G2, c2, _, Ψ, Φ, r2, .cons (.adr C) d2, m2, q.le (l1.trans l2), g.thr.le (l1.trans l2)⟩
def makeLM (i : Nat) (C : Addr) (F : Fn) (A : MA) : ME := fun δ c Ψ Φ => varM i δ c Ψ fun x c1 => x = .adr C ∧ A δ c1 Ψ fun xs c2 => makeD false C F xs c2 noX Φ
theorem snd_makeL {i : Nat} (hA : SndA K tb W tA mA) : SndE K tb W (tMakeL i C (SpG K tb F) (fun _ _ _ => False) tA) (makeLM i C F mA) := by
  intro al G c H σ δ Ψ Φ Q g m q
  unfold makeLM varM at m
  split at m
  · rename_i d h
    obtain ⟨rfl, m⟩ := m
    obtain ⟨v, h1, h2⟩ := g.env.2 i _ h
    cases h2
    refine ⟨h1, ?_⟩
    refine hA al G c H σ δ Ψ _ _ g m fun xs c1 al1 G1 H1 vs r1 l1 d1 m1 => ?_
    intro x dx hx hdx nx
    have e1 : Ex H1 (upd H1 dx (.own x)) := Ex.new hdx
    have e2 : Ex (upd H1 dx (.own x)) (upd (upd H1 dx (.own x)) x (.ins C dx [])) := Ex.new (by rw [upd_ne nx.symm]; exact hx)
    have ex := e1.trans e2
    have r2 : Rep K tb (al1 ++ [x]) G1 (c1 ++ [.ins C []]) (upd (upd H1 dx (.own x)) x (.ins C dx [])) := r1.obj hx ex ⟨dx, [], upd_same, .nil⟩ rfl
    have l2 : Le al1 G1 c1 H1 (al1 ++ [x]) G1 (c1 ++ [.ins C []]) (upd (upd H1 dx (.own x)) x (.ins C dx [])) := Le.obj r1 hx ex
    have hk : (al1 ++ [x])[c1.length]? = some x := by
      rw [← r1.len, List.getElem?_append_right (Nat.le_refl _), Nat.sub_self]
      rfl
    rw [List.append_nil]
    refine ⟨_, _, _, _, _, _, r2, .cons (.obj hk) (d1.le l2), m1, fun d c3 al3 G3 H3 v r3 l3 d3 m3 => ?_, fun D f d c3 al3 G3 H3 dd v r3 l3 fr hdd d3 m3 => ?_⟩
    · obtain ⟨rfl, m3⟩ := m3
      cases d3
      refine ⟨rfl, ?_⟩
      have hx3 : Den K al3 G3 (.ref x) (.obj c1.length) := .obj (l3.ad _ _ hk)
      rw [if_neg (by decide)] at m3
      obtain ⟨d4, c4, al4, G4, r4, l4, d4', m4⟩ := clo_ok r1 r3 (l2.trans l3) hx3 m3
      exact q d4 c4 al4 G4 H3 _ r4 (l1.trans l4) d4' m4
    · rcases m3 with h | ⟨_, _, h⟩ <;> exact h.elim
  · cases m
end
theorem e_cm {a : ME} {C : Addr} {F : Fn} {mA : MA} {δ : Env} {c : SH} {Ψ : XD} {Φ : QD} (h : a δ c Ψ fun x c1 => x = .adr C ∧ mA δ c1 Ψ fun xs c2 => F (x :: xs) c2 Ψ Φ) : cmM C F a mA δ c Ψ Φ := h
theorem e_makeL {C : Addr} {F : Fn} {mA : MA} {i : Nat} {δ : Env} {c : SH} {Ψ : XD} {Φ : QD} (h : varM i δ c Ψ fun x c1 => x = .adr C ∧ mA δ c1 Ψ fun xs c2 => makeD false C F xs c2 noX Φ) : makeLM i C F mA δ c Ψ Φ := h
def rStarts : V → List V → Hp → VK → Prop := fun x xs H Q => ∃ a b, x = .str a ∧ xs = [.str b] ∧ Q (.bl (Txt.startswith a b)) H
def rRemove : V → List V → Hp → VK → Prop := fun x xs H Q => ∃ a b, x = .str a ∧ xs = [.str b] ∧ a.length ≤ sizeLine ∧ Q (.str (Txt.removeprefix a b)) H
def startsD (x : D) (xs : List D) (c : SH) (Φ : QD) : Prop := match x, xs with
  | .str a, [.str b] => Φ (.bl (Txt.startswith a b)) c
  | _, _ => False
def removeD (x : D) (xs : List D) (c : SH) (Φ : QD) : Prop := match x, xs with
  | .str a, [.str b] => a.length ≤ sizeLine ∧ Φ (.str (Txt.removeprefix a b)) c
  | _, _ => False
section
variable {K : PySem.W.Frag} {tb : List (Addr × Str)}
theorem dm_starts : DMt K tb rStarts startsD := by
  intro al G c H x xs dx ds Φ Q R hx hd m q
  unfold startsD at m
  split at m
  · cases hx
    cases hd with
    | cons h r =>
      cases h
      cases r
      exact ⟨_, _, rfl, rfl, q _ c al G H _ R .refl (.bl _) m⟩
  · cases m
theorem dm_remove : DMt K tb rRemove removeD := by
  intro al G c H x xs dx ds Φ Q R hx hd m q
  unfold removeD at m
  split at m
  · cases hx
    cases hd with
    | cons h r =>
      cases h
      cases r
      exact ⟨_, _, rfl, rfl, m.1, q _ c al G H _ R .refl (.str _) m.2⟩
  · cases m
end
theorem e_starts {a b : Str} {c : SH} {Φ : QD} (q : Φ (.bl (Txt.startswith a b)) c) : startsD (.str a) [.str b] c Φ := q
def tBack (K : PySem.W.Frag) (te : TE) : TE := fun σ H Q => te σ H fun x H1 => ∃ a xs, x = .ref a ∧ SqL K H1 a xs ∧ xs.length ≤ 3 ∧ ∀ p, H1 p = none → Q (.ref p) (upd H1 p (.lst (xs.drop 1).reverse))
def backM (lv : Bool) (a : ME) : ME := fun δ c Ψ Φ => a δ c Ψ fun x c1 => match lstD (view c1 x) with
  | some xs => xs.length ≤ 3 ∧ newL lv (xs.drop 1).reverse c1 Φ
  | none => False
theorem snd_back {K : PySem.W.Frag} {tb : List (Addr × Str)} {W : WX} {ta : TE} {a : ME} {lv : Bool} (ha : SndE K tb W ta a) : SndE K tb W (tBack K ta) (backM lv a) := by
  intro al G c H σ δ Ψ Φ Q g m q
  refine ha al G c H σ δ Ψ _ _ g m fun x c1 al1 G1 H1 v r1 l1 d1 m1 => ?_
  split at m1
  · rename_i ys e
    obtain ⟨b, vs, rfl, h1, h2⟩ := lst_vw e (r1.vw d1)
    exact ⟨b, vs, rfl, h1, by rw [h2.length]; exact m1.1, fun p hp => newL_ok r1 hp ((h2.drop 1).reverse) m1.2 (q.le l1)⟩
  · cases m1
def backK (Φ : QD) (x : D) (c1 : SH) : Prop := match lstD (view c1 x) with
  | some xs => xs.length ≤ 3 ∧ newL false (xs.drop 1).reverse c1 Φ
  | none => False
theorem e_back {a : ME} {δ : Env} {c : SH} {Ψ : XD} {Φ : QD} (h : a δ c Ψ (backK Φ)) : backM false a δ c Ψ Φ := h
end M
set_option Elab.async false
set_option linter.all false
set_option maxRecDepth 100000
set_option maxHeartbeats 3900000
namespace M
open PySem PySem.Spec PyProof.Rows L2 G StX
class W (p : Prop) (q : outParam Prop) : Prop where
  run : q → p
class Ws (p : Prop) (q : outParam Prop) : Prop where
  run : q → p
instance (priority := low) Ws.refl {p : Prop} : Ws p p := ⟨id⟩
instance Ws.step {p r q : Prop} [a : W p r] [b : Ws r q] : Ws p q := ⟨fun h => a.run (b.run h)⟩
theorem wgo {p r q : Prop} [a : W p r] [b : Ws r q] (h : q) : p := a.run (b.run h)
class At (δ : Env) (i : Nat) (d : outParam D) : Prop where
  eq : δ[i]? = some (some d)
class Put (δ : Env) (i : Nat) (x : Option D) (δ' : outParam Env) : Prop where
  eq : δ.set i x = δ'
section
variable {δ δ1 δ2 : Env} {o x y : Option D} {d : D} {i j : Nat} {vs : List Nat}
instance At.zero : At (some d :: δ) 0 d := ⟨rfl⟩
instance At.succ [h : At δ i d] : At (o :: δ) (i + 1) d := ⟨by simpa using h.eq⟩
instance Put.zero : Put (o :: δ) 0 x (x :: δ) := ⟨rfl⟩
instance Put.succ [h : Put δ i x δ1] : Put (o :: δ) (i + 1) x (o :: δ1) := ⟨by rw [List.set_cons_succ, h.eq]⟩
instance Put.put [h : Put δ j y δ1] [k : Put δ1 i x δ2] : Put (δ.set j y) i x δ2 := ⟨by rw [h.eq, k.eq]⟩
instance Put.wipe0 [h : Put δ i x δ1] : Put (wipeD δ []) i x δ1 := ⟨h.eq⟩
instance Put.wipe {v : Nat} [h : Put (wipeD δ vs) v none δ1] [k : Put δ1 i x δ2] : Put (wipeD δ (v :: vs)) i x δ2 := ⟨by show ((wipeD δ vs).set v none).set i x = δ2; rw [h.eq, k.eq]⟩
instance At.put [h : Put δ j y δ1] [k : At δ1 i d] : At (δ.set j y) i d := ⟨by rw [h.eq, k.eq]⟩
instance At.wipe0 [h : At δ i d] : At (wipeD δ []) i d := ⟨h.eq⟩
instance At.wipe {v : Nat} [h : Put (wipeD δ vs) v none δ1] [k : At δ1 i d] : At (wipeD δ (v :: vs)) i d := ⟨by show ((wipeD δ vs).set v none)[i]? = _; rw [h.eq, k.eq]⟩
instance At.app0 : At ([] ++ [some d]) 0 d := ⟨rfl⟩
instance At.appz : At ((some d :: δ) ++ [x]) 0 d := ⟨rfl⟩
instance At.apps [h : At (δ ++ [x]) i d] : At ((o :: δ) ++ [x]) (i + 1) d := ⟨by simpa using h.eq⟩
class Sh {α : Type} (xs : List α) (n : Nat) : Prop where
  le : xs.length ≤ n
instance Sh.nil {α : Type} {n : Nat} : Sh ([] : List α) n := ⟨Nat.zero_le _⟩
instance Sh.cons {α : Type} {z : α} {xs : List α} {n : Nat} [h : Sh xs n] : Sh (z :: xs) (n + 1) := ⟨Nat.succ_le_succ h.le⟩
end
section
variable {δ δ1 : Env} {c : SH} {Ψ : XD} {Φ : QD} {N : Env → SH → Prop} {i : Nat} {d x : D}
instance w_var [h : At δ i d] : W (varM i δ c Ψ Φ) (Φ d c) := ⟨e_var h.eq⟩
instance w_gname [h : Put δ i (some x) δ1] : W (gnameM i x δ c Ψ N) (N δ1 c) := ⟨fun q => e_gname (by rw [h.eq]; exact q)⟩
instance w_sz {α : Type} {xs : List α} {p : Prop} [h : Sh xs 100] : W (xs.length ≤ sizeLine ∧ p) p := ⟨fun q => ⟨Nat.le_trans h.le (by decide), q⟩⟩
end
section
variable {δ : Env} {c : SH} {Ψ : XD} {Φ : QD} {ΦT : Bool → SH → Prop} {ΦA : List D → SH → Prop} {ΦO : Option Int → SH → Prop} {N : Env → SH → Prop} {e : EndsD} {a b d3 : ME} {t u : MT} {A : MA} {s1 s2 : MS} {g : MG} {i j np ns : Nat} {d x y : D} {op op' : D → D → SH → QD → Prop} {un : D → SH → QD → Prop} {cb : List D → SH → QD → Prop} {C : Addr} {f m : Str} {F : Fn} {ds as : List D} {mi : MI}
instance w_seq  : W (seqM s1 s2 δ c e) (s1 δ c { e with nx := fun δ' c' => s2 δ' c' e }) := ⟨e_seq⟩
instance w_asg  : W (asgM a g δ c e) (a δ c (e.x δ) fun x c1 => g x δ c1 (e.x δ) e.nx) := ⟨e_asg⟩
instance w_drop  : W (dropM a δ c e) (a δ c (e.x δ) fun _ c1 => e.nx δ c1) := ⟨e_drop⟩
instance w_ret  : W (retM a δ c e) (a δ c (e.x δ) e.rt) := ⟨e_ret⟩
instance w_next  : W (nextM δ c e) (e.nx δ c) := ⟨e_next⟩
instance w_ifS  : W (ifS t s1 s2 δ c e) (t δ c (e.x δ) fun k c1 => if k = true then s1 δ c1 e else s2 δ c1 e) := ⟨e_ifS⟩
instance w_par  : W (parM i j A δ c e) (A δ c (e.x δ) fun xs c1 => twoD xs fun x y => e.nx ((δ.set i (some x)).set j (some y)) c1) := ⟨e_par⟩
instance w_raise  : W (raiseM C f A δ c e) (A δ c (e.x δ) fun xs c1 => oneD xs fun x => e.xc C f x δ c1) := ⟨e_raise⟩
instance w_for  : W (forM mi g s1 δ c e) (mi δ c (e.x δ) fun xs gd c1 => forD gd g s1 xs δ c1 e) := ⟨e_for⟩
instance w_c  : W (cM d δ c Ψ Φ) (Φ d c) := ⟨e_c⟩
instance w_op  : W (opM op a b δ c Ψ Φ) (a δ c Ψ fun x c1 => b δ c1 Ψ fun y c2 => op x y c2 Φ) := ⟨e_op⟩
instance w_un  : W (unM un a δ c Ψ Φ) (a δ c Ψ fun x c1 => un x c1 Φ) := ⟨e_un⟩
instance w_test  : W (testM a δ c Ψ ΦT) (a δ c Ψ fun x c1 => blD x c1 ΦT) := ⟨e_test⟩
instance w_bl {k : Bool} : W (blD (.bl k) c ΦT) (ΦT k c) := ⟨e_bl⟩
instance w_andT  : W (andT t u δ c Ψ ΦT) (t δ c Ψ fun k c1 => if k = true then u δ c1 Ψ ΦT else ΦT false c1) := ⟨e_andT⟩
instance w_orT  : W (orT t u δ c Ψ ΦT) (t δ c Ψ fun k c1 => if k = true then ΦT true c1 else u δ c1 Ψ ΦT) := ⟨e_orT⟩
instance w_notT  : W (notT t δ c Ψ ΦT) (t δ c Ψ fun k c1 => ΦT (!k) c1) := ⟨e_notT⟩
instance w_andM  : W (andM a b δ c Ψ Φ) (a δ c Ψ fun x c1 => blD x c1 fun k c1 => if k = true then b δ c1 Ψ Φ else Φ (.bl false) c1) := ⟨e_andM⟩
instance w_orM  : W (orM a b δ c Ψ Φ) (a δ c Ψ fun x c1 => blD x c1 fun k c1 => if k = true then Φ (.bl true) c1 else b δ c1 Ψ Φ) := ⟨e_orM⟩
instance w_notM  : W (notM a δ c Ψ Φ) (a δ c Ψ fun x c1 => blD x c1 fun k c1 => Φ (.bl (!k)) c1) := ⟨e_notM⟩
instance w_ifM  : W (ifM t a b δ c Ψ Φ) (t δ c Ψ fun k c1 => if k = true then a δ c1 Ψ Φ else b δ c1 Ψ Φ) := ⟨e_ifM⟩
instance w_chain  : W (chainM op op' a b d3 δ c Ψ Φ) (a δ c Ψ fun x c1 => b δ c1 Ψ fun y c2 => op x y c2 fun z c3 => blD z c3 fun k c3 => if k = true then d3 δ c3 Ψ fun w c4 => op' y w c4 Φ else Φ (.bl false) c3) := ⟨e_chain⟩
instance w_nil  : W (nilM δ c Ψ ΦA) (ΦA [] c) := ⟨e_nil⟩
instance w_cons  : W (consM a A δ c Ψ ΦA) (a δ c Ψ fun x c1 => A δ c1 Ψ fun xs c2 => ΦA (x :: xs) c2) := ⟨e_cons⟩
instance w_lst  : W (lstM false A δ c Ψ Φ) (A δ c Ψ fun xs c1 => xs.length ≤ sizeLine ∧ Φ (.lst xs) c1) := ⟨e_lst⟩
instance w_lstO  : W (lstM true A δ c Ψ Φ) (A δ c Ψ fun xs c1 => xs.length ≤ sizeLine ∧ Φ (.obj c1.length) (c1 ++ [.lst xs])) := ⟨e_lstO⟩
instance w_tup  : W (tupM A δ c Ψ Φ) (A δ c Ψ fun xs c1 => xs.length ≤ sizeLine ∧ Φ (.tup xs) c1) := ⟨e_tup⟩
instance w_cb  : W (cbM cb A δ c Ψ Φ) (A δ c Ψ fun xs c1 => cb xs c1 Φ) := ⟨e_cb⟩
instance w_call  : W (callM F ds A δ c Ψ Φ) (A δ c Ψ fun xs c1 => F (xs ++ ds) c1 Ψ Φ) := ⟨e_call⟩
instance w_meth  : W (methM C m F ds a A δ c Ψ Φ) (a δ c Ψ fun x c1 => insD C m x c1 (A δ c1 Ψ fun xs c2 => F (x :: (xs ++ ds)) c2 Ψ Φ)) := ⟨e_meth⟩
instance w_prop  : W (propM C F a δ c Ψ Φ) (a δ c Ψ fun x c1 => (match view c1 x with
  | .ins C' _ => C' = C
  | _ => False) ∧ F [x] c1 noX Φ) := ⟨e_prop⟩
instance w_make  : W (makeM false C F ds A δ c Ψ Φ) (A δ c Ψ fun xs c1 => makeD false C F (xs ++ ds) c1 Ψ Φ) := ⟨e_make⟩
instance w_fld  : W (fldM C f a δ c Ψ Φ) (a δ c Ψ fun x c1 => fldD C f x c1 Φ) := ⟨e_fld⟩
instance w_sfld  : W (sfldM C f a b δ c e) (b δ c (e.x δ) fun y c1 => a δ c1 (e.x δ) fun x c2 => putD C f x y c2 fun c3 => e.nx δ c3) := ⟨e_sfld⟩
instance w_noPart  : W (noPartM δ c Ψ ΦO) (ΦO none c) := ⟨e_noPart⟩
instance w_part  : W (partM a δ c Ψ ΦO) (a δ c Ψ fun x c1 => intD x c1 fun i c1 => ΦO (some i) c1) := ⟨e_part⟩
instance w_int {k : Int} {ΦI : Int → SH → Prop} : W (intD (.int k) c ΦI) (ΦI k c) := ⟨e_int⟩
instance w_sl {lo hi : MO} {so : D → Option Int → Option Int → SH → QD → Prop} : W (slM so a lo hi δ c Ψ Φ) (a δ c Ψ fun x c1 => lo δ c1 Ψ fun l c2 => hi δ c2 Ψ fun u c3 => so x l u c3 Φ) := ⟨e_sl⟩
instance w_bm {T : String} {mo : D → List D → SH → QD → Prop} : W (bmM T mo a A δ c Ψ Φ) (a δ c Ψ fun x c1 => tyM T (view c1 x) ∧ A δ c1 Ψ fun xs c2 => mo x xs c2 Φ) := ⟨e_bm⟩
instance w_bm0 {T : String} {mo : D → List D → SH → QD → Prop} : W (bm0M T mo a δ c Ψ Φ) (a δ c Ψ fun x c1 => tyM T (view c1 x) ∧ mo x [] c1 Φ) := ⟨e_bm0⟩
instance w_m1 {mo : D → List D → SH → QD → Prop} : W (m1M mo a b δ c Ψ Φ) (a δ c Ψ fun x c1 => tyM "str" x ∧ b δ c1 Ψ fun y c2 => mo x [y] c2 Φ) := ⟨e_m1⟩
instance w_rng1 {ΦI : List D → (SH → Prop) → SH → Prop} : W (rng1M A δ c Ψ ΦI) (A δ c Ψ fun xs c1 => oneD xs fun x => intD x c1 fun j c1 => (-(2 ^ 62) ≤ j ∧ j < 2 ^ 62) ∧ ΦI (rngD 0 j.toNat) (fun _ => True) c1) := ⟨e_rng1⟩
instance w_lc {lv : Bool} {vs : List Nat} : W (lcM lv mi g t a vs δ c Ψ Φ) (mi δ c Ψ fun xs gd c1 => lcD gd (turnD g t a (wipeD δ vs)) xs [] c1 (endL lv Φ)) := ⟨e_lc⟩
instance w_caught {K : PySem.W.Frag} {hs : Hds} : W (caughtM K hs a A δ c Ψ Φ) (A δ c Ψ fun xs c1 => oneD xs fun x => a (δ ++ [some x]) c1 (fun C f d c' => dealD K hs C f d c' Φ) fun d c' => Φ (.lst [.str (Str.ofString "told"), d]) c') := ⟨e_caught⟩
instance w_two {k : D → D → Prop} : W (twoD [x, y] k) (k x y) := ⟨e_two⟩
instance w_one {k : D → Prop} : W (oneD [x] k) (k x) := ⟨e_one⟩
instance w_ifT {p q : Prop} : W ((if true = true then p else q)) (p) := ⟨e_ifT⟩
instance w_ifF {p q : Prop} : W ((if false = true then p else q)) (q) := ⟨e_ifF⟩
end
section
instance w_ifNT {p q : Prop} : W ((if (!true) = true then p else q)) (q) := ⟨e_ifNT⟩
instance w_ifNF {p q : Prop} : W ((if (!false) = true then p else q)) (p) := ⟨e_ifNF⟩
end
section
variable {K : PySem.W.Frag} {c : SH} {Φ : QD} {x : D} {C : Addr}
instance w_leI {a b : Int} : W (leD (.int a) (.int b) c Φ) (Φ (.bl (decide (a ≤ b))) c) := ⟨e_leI⟩
instance w_ltI {a b : Int} : W (ltD (.int a) (.int b) c Φ) (Φ (.bl (decide (a < b))) c) := ⟨e_ltI⟩
instance w_gtI {a b : Int} : W (gtD (.int a) (.int b) c Φ) (Φ (.bl (decide (b < a))) c) := ⟨e_gtI⟩
instance w_geI {a b : Int} : W (geD (.int a) (.int b) c Φ) (Φ (.bl (decide (b ≤ a))) c) := ⟨e_geI⟩
instance w_ltS {a b : Str} : W (ltD (.str a) (.str b) c Φ) (Φ (.bl (decide (a.cps.toList < b.cps.toList))) c) := ⟨e_ltS⟩
instance w_eqI {a b : Int} : W (eqD (.int a) (.int b) c Φ) (Φ (.bl (decide (a = b))) c) := ⟨e_eqI⟩
instance w_eqS {a b : Str} : W (eqD (.str a) (.str b) c Φ) (Φ (.bl (decide (a = b))) c) := ⟨e_eqS⟩
instance w_neI {a b : Int} : W (neD (.int a) (.int b) c Φ) (Φ (.bl (!decide (a = b))) c) := ⟨e_neI⟩
instance w_neS {a b : Str} : W (neD (.str a) (.str b) c Φ) (Φ (.bl (!decide (a = b))) c) := ⟨e_neS⟩
instance w_neB {a b : Bool} : W (neD (.bl a) (.bl b) c Φ) (Φ (.bl (!decide (a = b))) c) := ⟨e_neB⟩
instance w_isB {a b : Bool} : W (isD (.bl a) (.bl b) c Φ) (Φ (.bl (decide (a = b))) c) := ⟨e_isB⟩
instance w_isntB {a b : Bool} : W (isntD (.bl a) (.bl b) c Φ) (Φ (.bl (!decide (a = b))) c) := ⟨e_isntB⟩
instance w_addI {lv : Bool} {a b : Int} : W (addD lv (.int a) (.int b) c Φ) (Φ (.int (a + b)) c) := ⟨e_addI⟩
instance w_subI {a b : Int} : W (subD (.int a) (.int b) c Φ) (Φ (.int (a - b)) c) := ⟨e_subI⟩
instance w_int1 {a : Int} : W (int1D [.int a] c Φ) (Φ (.int a) c) := ⟨e_int1⟩
instance w_max2 {a b : Int} : W (max2D [.int a, .int b] c Φ) (Φ (.int (if b > a then b else a)) c) := ⟨e_max2⟩
instance w_min2 {a b : Int} : W (min2D [.int a, .int b] c Φ) (Φ (.int (if b < a then b else a)) c) := ⟨e_min2⟩
instance w_lenL {xs : List D} : W (lenD [.lst xs] c Φ) (Φ (.int xs.length) c) := ⟨e_lenL⟩
instance w_lenT {xs : List D} : W (lenD [.tup xs] c Φ) (Φ (.int xs.length) c) := ⟨e_lenT⟩
instance w_lenR {xs : List D} : W (lenD [.scr xs] c Φ) (Φ (.int xs.length) c) := ⟨e_lenR⟩
instance w_js {ms : List ME} {δ : Env} {Ψ : XD} : W (jsM ms δ c Ψ Φ) (jsD ms Str.empty δ c Ψ fun out c1 => Φ (.str out) c1) := ⟨e_js⟩
instance w_jsc {m : ME} {ms : List ME} {acc : Str} {δ : Env} {Ψ : XD} {ΦS : Str → SH → Prop} : W (jsD (m :: ms) acc δ c Ψ ΦS) (m δ c Ψ (jsK ms acc δ Ψ ΦS)) := ⟨e_jsc⟩
instance w_jsn {acc : Str} {δ : Env} {Ψ : XD} {ΦS : Str → SH → Prop} : W (jsD [] acc δ c Ψ ΦS) (ΦS acc c) := ⟨e_jsn⟩
instance w_fmt {a : ME} {δ : Env} {Ψ : XD} : W (fmtM a δ c Ψ Φ) (a δ c Ψ (fmtK Φ)) := ⟨e_fmt⟩
instance w_yes {δ : Env} {Ψ : XD} {ΦT : Bool → SH → Prop} : W (yesM δ c Ψ ΦT) (ΦT true c) := ⟨e_yes⟩
instance w_turn {g : MG} {t : MT} {a : ME} {δ : Env} {k : Option D → SH → Prop} : W (turnD g t a δ x c k) (g x δ c noX fun δ2 c2 => t δ2 c2 noX fun b c3 => if b = true then a δ2 c3 noX fun y c4 => k (some y) c4 else k none c3) := ⟨e_turn⟩
end
section
variable {K : PySem.W.Frag} {c : SH} {Ψ : XD} {Φ : QD}
instance w_ix0 {x : D} {xs : List D} : W (ixD (.tup (x :: xs)) (.int 0) c Φ) (Φ x c) := ⟨e_ix0⟩
instance w_ix1 {x y : D} {xs : List D} : W (ixD (.tup (x :: y :: xs)) (.int 1) c Φ) (Φ y c) := ⟨e_ix1⟩
instance w_dnew {δ : M.Env} : W (dnewM false δ c Ψ Φ) (Φ (.dic []) c) := ⟨e_dnew⟩
instance w_gtup2 {x y : D} {i j : Nat} {δ : M.Env} {N : M.Env → SH → Prop} : W (gtupM (gconsM i (gconsM j gnilM)) (.tup [x, y]) δ c Ψ N) (N ((δ.set i (some x)).set j (some y)) c) := ⟨e_gtup2⟩
end
section
variable {K : PySem.W.Frag} {δ : Env} {c : SH} {Ψ : XD} {Φ : QD} {a b k e : ME} {A : MA} {g : MG} {t : MT} {mi : MI} {x y : D} {ΦI : List D → (SH → Prop) → SH → Prop} {kvs : List (Key × D)}
instance w_ixL0 {xs : List D} : W (ixD (.lst (x :: xs)) (.int 0) c Φ) (Φ x c) := ⟨e_ixL0⟩
instance w_ixL1 {x y : D} {xs : List D} : W (ixD (.lst (x :: y :: xs)) (.int 1) c Φ) (Φ y c) := ⟨e_ixL1⟩
instance w_ixL2 {x y z : D} {xs : List D} : W (ixD (.lst (x :: y :: z :: xs)) (.int 2) c Φ) (Φ z c) := ⟨e_ixL2⟩
instance w_itM  : W (itM a δ c Ψ ΦI) (a δ c Ψ (itMK ΦI)) := ⟨e_itM⟩
instance w_itL {xs : List D} : W (itMK ΦI (.lst xs) c) (ΦI xs (fun c' => view c' (.lst xs) = view c (.lst xs)) c) := ⟨e_itL⟩
instance w_itT {xs : List D} : W (itMK ΦI (.tup xs) c) (ΦI xs (fun c' => view c' (.tup xs) = view c (.tup xs)) c) := ⟨e_itT⟩
instance w_itemsM  : W (itemsM a δ c Ψ ΦI) (a δ c Ψ (itemsK ΦI)) := ⟨e_itemsM⟩
instance w_valuesM  : W (valuesM a δ c Ψ ΦI) (a δ c Ψ (valuesK ΦI)) := ⟨e_valuesM⟩
instance w_itemsD  : W (itemsK ΦI (.dic kvs) c) (ΦI (kvs.map fun kv => .tup [keyOD kv.1, kv.2]) (fun _ => True) c) := ⟨e_itemsD⟩
instance w_valuesD  : W (valuesK ΦI (.dic kvs) c) (ΦI (kvs.map (·.2)) (fun _ => True) c) := ⟨e_valuesD⟩
instance w_dc {vs : List Nat} : W (dcM false mi g t k e vs δ c Ψ Φ) (mi δ c Ψ fun xs gd c1 => dcD gd (turnK g t k e (wipeD δ vs)) xs [] c1 fun kvs c2 => newK false kvs c2 Φ) := ⟨e_dc⟩
instance w_lenD  : W (lenD [.dic kvs] c Φ) (Φ (.int kvs.length) c) := ⟨e_lenD⟩
instance w_newK  : W (newK false kvs c Φ) (Φ (.dic kvs) c) := ⟨e_newK⟩
instance w_turnK {kk : Option (Key × D) → SH → Prop} : W (turnK g t k e δ x c kk) (g x δ c noX fun δ2 c2 => t δ2 c2 noX fun b c3 => if b = true then k δ2 c3 noX fun y c4 => e δ2 c4 noX fun z c5 => turnKK kk z y c5 else kk none c3) := ⟨e_turnK⟩
instance w_keyS {kk : Option (Key × D) → SH → Prop} {z : D} {s : Str} : W (turnKK kk z (.str s) c) (kk (some (.inr s, z)) c) := ⟨e_keyS⟩
instance w_dict  : W (dictM false A δ c Ψ Φ) (A δ c Ψ fun xs c1 => dictD xs c1 fun kvs => newK false kvs c1 Φ) := ⟨e_dict⟩
instance w_dictC {kk : List (Key × D) → Prop} : W (dictD [.dic kvs] c kk) (kk kvs) := ⟨e_dictC⟩
instance w_gtup3n {i j l : Nat} {x y z : D} {N : Env → SH → Prop} : W (gtupnM 2 (gconsM i (gconsXM (gtupnM 2 (gconsM j (gconsM l gnilM))) gnilM)) (.tup [x, .tup [y, z]]) δ c Ψ N) (N (((δ.set i (some x)).set j (some y)).set l (some z)) c) := ⟨e_gtup3n⟩
instance w_lkM  : W (lkM a δ c Ψ Φ) (a δ c Ψ (lkK Φ)) := ⟨e_lkM⟩
instance w_dputM {o i v : ME} {e : EndsD} : W (dputM o i v δ c e) (v δ c (e.x δ) fun z c1 => o δ c1 (e.x δ) fun x c2 => i δ c2 (e.x δ) fun y c3 => dputK e δ z x y c3) := ⟨e_dputM⟩
instance w_isN  : W (isD x .non c Φ) (Φ (.bl (nonD x)) c) := ⟨e_isN⟩
instance w_isntN  : W (isntD x .non c Φ) (Φ (.bl (!nonD x)) c) := ⟨e_isntN⟩
instance w_caseM {K : PySem.W.Frag} {hs : Hds} {lam d3 : ME} {rest : Fn} : W (caseM K hs lam rest a b d3 δ c Ψ Φ) (a δ c Ψ fun p1 c1 => b δ c1 Ψ fun p2 c2 => d3 δ c2 Ψ fun p3 c3 => lam (δ ++ [some p1]) c3 (fun C g x c' => dealD K hs C g x c' fun fd c'' => rest [p1, p2, p3, fd] c'' noX Φ) fun x c' => rest [p1, p2, p3, toldD x] c' noX Φ) := ⟨e_caseM⟩
instance w_negI {i : Int} : W (negD (.int i) c Φ) (Φ (.int (-i)) c) := ⟨e_negI⟩
end
section
variable {K : PySem.W.Frag} {δ : Env} {c : SH} {Ψ : XD} {Φ : QD} {A : MA} {a b : ME}
instance w_rng2 {ΦI : List D → (SH → Prop) → SH → Prop} : W (rng2M A δ c Ψ ΦI) (A δ c Ψ fun xs c1 => twoD xs fun x y => intD x c1 fun i c1 => intD y c1 fun j c1 => (-(2 ^ 62) ≤ i ∧ i < 2 ^ 62 ∧ -(2 ^ 62) ≤ j ∧ j < 2 ^ 62) ∧ ΦI (rngD i (j - i).toNat) (fun _ => True) c1) := ⟨e_rng2⟩
instance w_disp {lv : Bool} {p : MP} : W (dispM lv p δ c Ψ Φ) (p δ c Ψ fun kvs c1 => kvs.length ≤ 15 ∧ newK lv (mergeD [] kvs) c1 Φ) := ⟨e_disp⟩
instance w_pcons {r : MP} {ΦP : List (Key × D) → SH → Prop} : W (pconsM a b r δ c Ψ ΦP) (a δ c Ψ fun x c1 => b δ c1 Ψ fun y c2 => pconK δ Ψ r ΦP x y c2) := ⟨e_pcons⟩
instance w_pconS {r : MP} {ΦP : List (Key × D) → SH → Prop} {z : Str} {y : D} : W (pconK δ Ψ r ΦP (.str z) y c) (r δ c Ψ fun ps c3 => ΦP ((.inr z, y) :: ps) c3) := ⟨e_pconS⟩
instance w_pnil {ΦP : List (Key × D) → SH → Prop} : W (pnilM δ c Ψ ΦP) (ΦP [] c) := ⟨e_pnil⟩
instance w_par3 {i j l : Nat} {e : EndsD} : W (par3M i j l A δ c e) (A δ c (e.x δ) (par3K i j l δ e)) := ⟨e_par3⟩
instance w_par3K {i j l : Nat} {e : EndsD} {x y z : D} : W (par3K i j l δ e [x, y, z] c) (e.nx (((δ.set i (some x)).set j (some y)).set l (some z)) c) := ⟨e_par3K⟩
instance w_int1b {k : Bool} : W (int1D [.bl k] c Φ) (Φ (.int (if k then 1 else 0)) c) := ⟨e_int1b⟩
instance w_rev {lv : Bool} : W (revM lv a δ c Ψ Φ) (a δ c Ψ (revK lv Φ)) := ⟨e_rev⟩
instance w_enum {ΦI : List D → (SH → Prop) → SH → Prop} : W (enumM A δ c Ψ ΦI) (A δ c Ψ fun xs c1 => oneD xs fun x => enumK ΦI x c1) := ⟨e_enum⟩
instance w_enumL {ΦI : List D → (SH → Prop) → SH → Prop} {xs : List D} : W (enumK ΦI (.lst xs) c) (ΦI (enumD 0 xs) (fun c' => view c' (.lst xs) = view c (.lst xs)) c) := ⟨e_enumL⟩
instance w_gtup3 {x y z : D} {i j l : Nat} {N : Env → SH → Prop} : W (gtupM (gconsM i (gconsM j (gconsM l gnilM))) (.tup [x, y, z]) δ c Ψ N) (N (((δ.set i (some x)).set j (some y)).set l (some z)) c) := ⟨e_gtup3⟩
instance w_sortSet {lv : Bool} : W (sortSetM lv a δ c Ψ Φ) (a δ c Ψ (sortSetK lv Φ)) := ⟨e_sortSet⟩
instance w_listRg {lv : Bool} : W (listRgM lv a δ c Ψ Φ) (a δ c Ψ fun x c1 => intD x c1 fun n c1 => RgOk 0 n ∧ newL lv (rngD 0 n.toNat) c1 Φ) := ⟨e_listRg⟩
instance w_addX {C : Addr} {F : Fn} : W (addXM K C F a b δ c Ψ Φ) (a δ c Ψ fun x c1 => b δ c1 Ψ fun y c2 => (match view c2 x with
  | .ins C' _ => C' = C ∧ (∃ T, tyT K (view c2 y) T ∧ addOk K C T) ∧ F [x, y] c2 Ψ Φ
  | _ => False)) := ⟨e_addX⟩
end
section
instance w_star {a : ME} {A : MA} {δ : Env} {c : SH} {Ψ : XD} {ΦA : List D → SH → Prop} : W (starM a A δ c Ψ ΦA) (a δ c Ψ (starK A δ Ψ ΦA)) := ⟨e_star⟩
instance w_starL {A : MA} {δ : Env} {c : SH} {Ψ : XD} {ΦA : List D → SH → Prop} {xs : List D} : W (starK A δ Ψ ΦA (.lst xs) c) (A δ c Ψ fun ys c2 => ΦA (xs ++ ys) c2) := ⟨e_starL⟩
instance w_lsk {a : ME} {δ : Env} {c : SH} {Ψ : XD} {Φ : QD} : W (lenSetKM a δ c Ψ Φ) (a δ c Ψ (lskD Φ)) := ⟨e_lsk⟩
instance w_gunl2 {x y : D} {i j : Nat} {δ : M.Env} {c : SH} {Ψ : XD} {N : M.Env → SH → Prop} : W (gunlM 2 (gconsM i (gconsM j gnilM)) (.lst [x, y]) δ c Ψ N) (N ((δ.set i (some x)).set j (some y)) c) := ⟨e_gunl2⟩
end
section
instance w_try {K : PySem.W.Frag} {C : Addr} {b h : MS} {δ : Env} {c : SH} {e : EndsD} : W (tryM K C b h δ c e) (b δ c { e with xc := fun C' f d δ' c' => ∃ k, PySem.W.exmOne K (.ref C') (.ref C) = some k ∧ if k = true then h δ' c' e else e.xc C' f d δ' c' }) := ⟨e_try⟩
instance w_cm {a : ME} {C : Addr} {F : Fn} {mA : MA} {δ : Env} {c : SH} {Ψ : XD} {Φ : QD} : W (cmM C F a mA δ c Ψ Φ) (a δ c Ψ fun x c1 => x = .adr C ∧ mA δ c1 Ψ fun xs c2 => F (x :: xs) c2 Ψ Φ) := ⟨e_cm⟩
instance w_makeL {C : Addr} {F : Fn} {mA : MA} {i : Nat} {δ : Env} {c : SH} {Ψ : XD} {Φ : QD} : W (makeLM i C F mA δ c Ψ Φ) (varM i δ c Ψ fun x c1 => x = .adr C ∧ mA δ c1 Ψ fun xs c2 => makeD false C F xs c2 noX Φ) := ⟨e_makeL⟩
instance w_starts {a b : Str} {c : SH} {Φ : QD} : W (startsD (.str a) [.str b] c Φ) (Φ (.bl (Txt.startswith a b)) c) := ⟨e_starts⟩
instance w_back {a : ME} {δ : Env} {c : SH} {Ψ : XD} {Φ : QD} : W (backM false a δ c Ψ Φ) (a δ c Ψ (backK Φ)) := ⟨e_back⟩
end
end M
set_option Elab.async false
set_option linter.all false
set_option maxRecDepth 100000
set_option maxHeartbeats 3900000
namespace M
open PySem PySem.Spec PyProof.Rows L2 G StX
class Ok (p : Prop) : Prop where
  ok : p
class GL (mg : MGs) (n : Nat) : Prop where
  ok : ∀ xs δ c Ψ N, mg xs δ c Ψ N → xs.length = n
class DL (K : PySem.W.Frag) (vs : List V) (ds : List D) : Prop where
  ok : ∀ al G, DenL K al G vs ds
section
variable {K : PySem.W.Frag} {tb : List (Addr × Str)} {W : WX} {vs vs' : List Nat} {n i j : Nat}
instance Ok.cls {p q : Prop} [a : Ok p] [b : Ok q] : Ok (p ∧ q) := ⟨⟨a.ok, b.ok⟩⟩
instance : GL gnilM 0 := ⟨glen_nil⟩
instance {mg : MGs} [h : GL mg n] : GL (gconsM i mg) (n + 1) := ⟨glen_cons h.ok⟩
instance : DL K [] [] := ⟨fun _ _ => .nil⟩
instance {xs : List V} {ds : List D} [h : DL K xs ds] : DL K (.non :: xs) (.non :: ds) := ⟨fun al G => .cons .non (h.ok al G)⟩
instance {xs : List V} {ds : List D} {b : Bool} [h : DL K xs ds] : DL K (.bl b :: xs) (.bl b :: ds) := ⟨fun al G => .cons (.bl b) (h.ok al G)⟩
instance : Ok (SndE K tb W (tC .non) (cM .non)) := ⟨snd_c fun _ _ => .non⟩
instance {b : Bool} : Ok (SndE K tb W (tC (.bl b)) (cM (.bl b))) := ⟨snd_c fun _ _ => .bl b⟩
instance {b : Int} : Ok (SndE K tb W (tC (.int b)) (cM (.int b))) := ⟨snd_c fun _ _ => .int b⟩
instance {b : Str} : Ok (SndE K tb W (tC (.str b)) (cM (.str b))) := ⟨snd_c fun _ _ => .str b⟩
instance {b : String} : Ok (SndE K tb W (tC (.ty b)) (cM (.ty b))) := ⟨snd_c fun _ _ => .ty b⟩
instance {b : Addr} : Ok (SndE K tb W (tC (.ref b)) (cM (.adr b))) := ⟨snd_c fun _ _ => .adr b⟩
instance (priority := low) Ok.memS [h : Ok (i ∈ vs)] : Ok (i ∈ j :: vs) := ⟨List.mem_cons_of_mem _ h.ok⟩
instance Ok.mem0 : Ok (i ∈ i :: vs) := ⟨List.mem_cons_self⟩
instance Ok.map0 : Ok (List.map (fun x : Str × Nat => x.2) [] = []) := ⟨rfl⟩
instance Ok.mapS {a : Str} {r : List (Str × Nat)} [h : Ok (List.map (fun x : Str × Nat => x.2) r = vs)] : Ok (List.map (fun x : Str × Nat => x.2) ((a, i) :: r) = i :: vs) := ⟨by rw [List.map_cons, h.ok]⟩
instance Ok.same {α : Type} {a : α} : Ok (a = a) := ⟨rfl⟩
instance {f : Str → Bool} : Ok (DMt K tb (rM0 fun a => .bl (f a)) (s0D fun a => .bl (f a))) := ⟨dm_s0 fun _ _ _ => .bl _⟩
end
section
variable {K : PySem.W.Frag} {tb : List (Addr × Str)} {W : WX} {ta te tb' t1 t2 t3 : TE} {a b d : ME} {tA : TA} {mA : MA} {C : Addr} {f m : Str} {F : Fn} {dvs : List V} {ds : List D} {lv : Bool} {vs vs' : List Nat}
instance [h : DL K dvs ds] [hA : Ok (SndA K tb W tA mA)] : Ok (SndE K tb W (tCallSD (SpG K tb F) dvs (WE W) tA) (callM F ds mA)) := ⟨snd_call h.ok hA.ok⟩
instance [h : DL K dvs ds] [ha : Ok (SndE K tb W ta a)] [hA : Ok (SndA K tb W tA mA)] : Ok (SndE K tb W (tMethSD C m (SpG K tb F) dvs (WE W) ta tA) (methM C m F ds a mA)) := ⟨snd_meth h.ok ha.ok hA.ok⟩
instance [h : DL K dvs ds] [hA : Ok (SndA K tb W tA mA)] : Ok (SndE K tb W (tMakeSD C (SpG K tb F) dvs (WE W) tA) (makeM lv C F ds mA)) := ⟨snd_make h.ok hA.ok⟩
instance [ha : Ok (SndE K tb W ta a)] : Ok (SndE K tb W (tProp C (SpG K tb F) [] (fun _ _ _ => False) ta) (propM C F a)) := ⟨snd_prop ha.ok⟩
instance {tl th : TO} {lo hi : MO} [ha : Ok (SndE K tb W ta a)] [hl : Ok (SndO K tb W tl lo)] [hh : Ok (SndO K tb W th hi)] : Ok (SndE K tb W (tSl (rSlU K) ta tl th) (slM (slD lv) a lo hi)) := ⟨snd_sl dsl ha.ok hl.ok hh.ok⟩
instance {wi : TI} {mi : MI} {g : TG} {mg : MG} {tt : TT} {mt : MT} {me : ME} [e : Ok (vs' = vs)] [hi : Ok (SndI K tb W wi mi)] [hg : Ok (SndGO K tb (fun _ _ _ _ => False) vs g mg)] [ht : Ok (SndT K tb (fun _ _ _ _ => False) tt mt)] [he : Ok (SndE K tb (fun _ _ _ _ => False) te me)] : Ok (SndE K tb W (tLc wi g tt te vs') (lcM lv mi mg mt me vs)) := ⟨snd_lcE e.ok hi.ok hg.ok ht.ok he.ok⟩
instance {wi : TI} {mi : MI} {g : TG} {mg : MG} {tt : TT} {mt : MT} {tk : TE} {mk me : ME} [e : Ok (vs' = vs)] [hi : Ok (SndI K tb W wi mi)] [hg : Ok (SndGO K tb (fun _ _ _ _ => False) vs g mg)] [ht : Ok (SndT K tb (fun _ _ _ _ => False) tt mt)] [hk : Ok (SndE K tb (fun _ _ _ _ => False) tk mk)] [he : Ok (SndE K tb (fun _ _ _ _ => False) te me)] : Ok (SndE K tb W (tLk (tDc wi g tt tk te vs')) (dcM false mi mg mt mk me vs)) := ⟨snd_dcE e.ok hi.ok hg.ok ht.ok hk.ok he.ok⟩
instance {g : TGs} {mg : MGs} {n : Nat} [hn : GL mg n] [hg : Ok (SndGOs K tb vs g mg)] : Ok (SndGO K tb W vs (gTup K n g) (gtupM mg)) := ⟨sgo_tup hn.ok hg.ok⟩
instance {i : Nat} [h : Ok (i ∈ vs)] : Ok (SndGO K tb W vs (gName i) (gnameM i)) := ⟨sgo_name h.ok⟩
instance {i : Nat} {g : TGs} {mg : MGs} [h : Ok (i ∈ vs)] [hg : Ok (SndGOs K tb vs g mg)] : Ok (SndGOs K tb vs (gCons (gName i) g) (gconsM i mg)) := ⟨sgo_cons h.ok hg.ok⟩
instance (priority := low) {g : TG} {mg : MG} [h : Ok (SndGO K tb W [0, 1, 2, 3, 4, 5, 6, 7, 8, 9, 10, 11, 12, 13, 14, 15, 16, 17, 18, 19, 20, 21, 22, 23, 24, 25] g mg)] : Ok (SndG K tb W g mg) := ⟨h.ok.g⟩
instance {q : Str} {tbd : XK → TE} {lam : ME} {hs : Hds} {E : XK} [hl : ∀ E : XK, Ok (SndE K tb (fun C d _ H => E C d H) (tbd E) lam)] [hA : Ok (SndA K tb W tA mA)] : Ok (SndE K tb W (tLam1 tb q tbd (fun f sp => sp_caughtG K hs f sp) E tA) (caughtM K hs lam mA)) := ⟨snd_caught (fun E => (hl E).ok) hA.ok⟩
instance {t : TE} {mb : Bool → ME} [h : ∀ b, Ok (SndE K tb W t (mb b))] : Ok (SndE K tb W t (anyE mb)) := ⟨snd_anyE fun b => (h b).ok⟩
instance {t : WX → TS} {ts : TS} {b h : MS} [hb : ∀ V : WX, Ok (SndS K tb V (t V) b)] [hh : Ok (SndS K tb W ts h)] : Ok (SndS K tb W (tTryN K (.ref C) t ts W) (tryM K C b h)) := ⟨snd_try (fun V => (hb V).ok) hh.ok⟩
instance : Ok (SndJ K tb W [] []) := ⟨.nil⟩
instance {ts : List TE} {ms : List ME} [h : Ok (SndE K tb W ta a)] [k : Ok (SndJ K tb W ts ms)] : Ok (SndJ K tb W (ta :: ts) (a :: ms)) := ⟨.cons h.ok k.ok⟩
instance {ts : List TE} {ms : List ME} [h : Ok (SndJ K tb W ts ms)] : Ok (SndE K tb W (fun σ H Q => tJs ts Str.empty σ H fun out H1 => Q (.str out) H1) (jsM ms)) := ⟨snd_js h.ok⟩
end
section
variable   {K : PySem.W.Frag} {tb : List (Addr × Str)} {W : WX} {ta tb' tc te : TE} {a b e : ME} {t u : TT} {mt mu : MT} {tA : TA} {mA : MA}
instance i_snd_var {i : Nat}  : Ok (SndE K tb W (tVar i) (varM i)) := ⟨snd_var⟩
end
section
variable   {K : PySem.W.Frag} {tb : List (Addr × Str)} {W : WX} {ta tb' tc te : TE} {a b e : ME} {t u : TT} {mt mu : MT} {tA : TA} {mA : MA}
instance i_snd_op {r : R2} {op : D → D → SH → QD → Prop} [ho : Ok (DOp K tb r op)] [ha : Ok (SndE K tb W ta a)] [hb : Ok (SndE K tb W tb' b)] : Ok (SndE K tb W (tOp r ta tb') (opM op a b)) := ⟨snd_op ho.ok ha.ok hb.ok⟩
end
section
variable   {K : PySem.W.Frag} {tb : List (Addr × Str)} {W : WX} {ta tb' tc te : TE} {a b e : ME} {t u : TT} {mt mu : MT} {tA : TA} {mA : MA}
instance i_snd_un {r : V → Hp → VK → Prop} {op : D → SH → QD → Prop} [ho : Ok (DUn K tb r op)] [ha : Ok (SndE K tb W ta a)] : Ok (SndE K tb W (tUn r ta) (unM op a)) := ⟨snd_un ho.ok ha.ok⟩
end
section
variable   {K : PySem.W.Frag} {tb : List (Addr × Str)} {W : WX} {ta tb' tc te : TE} {a b e : ME} {t u : TT} {mt mu : MT} {tA : TA} {mA : MA}
instance i_snd_test  [ha : Ok (SndE K tb W ta a)] : Ok (SndT K tb W (tTest ta) (testM a)) := ⟨snd_test ha.ok⟩
end
section
variable   {K : PySem.W.Frag} {tb : List (Addr × Str)} {W : WX} {ta tb' tc te : TE} {a b e : ME} {t u : TT} {mt mu : MT} {tA : TA} {mA : MA}
instance i_snd_B  [ha : Ok (SndE K tb W ta a)] : Ok (SndT K tb W (tB ta) (testM a)) := ⟨snd_B ha.ok⟩
end
section
variable   {K : PySem.W.Frag} {tb : List (Addr × Str)} {W : WX} {ta tb' tc te : TE} {a b e : ME} {t u : TT} {mt mu : MT} {tA : TA} {mA : MA}
instance i_snd_and  [ha : Ok (SndT K tb W t mt)] [hb : Ok (SndT K tb W u mu)] : Ok (SndT K tb W (tAnd t u) (andT mt mu)) := ⟨snd_and ha.ok hb.ok⟩
end
section
variable   {K : PySem.W.Frag} {tb : List (Addr × Str)} {W : WX} {ta tb' tc te : TE} {a b e : ME} {t u : TT} {mt mu : MT} {tA : TA} {mA : MA}
instance i_snd_or  [ha : Ok (SndT K tb W t mt)] [hb : Ok (SndT K tb W u mu)] : Ok (SndT K tb W (tOr t u) (orT mt mu)) := ⟨snd_or ha.ok hb.ok⟩
end
section
variable   {K : PySem.W.Frag} {tb : List (Addr × Str)} {W : WX} {ta tb' tc te : TE} {a b e : ME} {t u : TT} {mt mu : MT} {tA : TA} {mA : MA}
instance i_snd_not  [ha : Ok (SndT K tb W t mt)] : Ok (SndT K tb W (tNot t) (notT mt)) := ⟨snd_not ha.ok⟩
end
section
variable   {K : PySem.W.Frag} {tb : List (Addr × Str)} {W : WX} {ta tb' tc te : TE} {a b e : ME} {t u : TT} {mt mu : MT} {tA : TA} {mA : MA}
instance i_snd_andV  [ha : Ok (SndE K tb W ta a)] [hb : Ok (SndE K tb W tb' b)] : Ok (SndE K tb W (tAndV ta tb') (andM a b)) := ⟨snd_andV ha.ok hb.ok⟩
end
section
variable   {K : PySem.W.Frag} {tb : List (Addr × Str)} {W : WX} {ta tb' tc te : TE} {a b e : ME} {t u : TT} {mt mu : MT} {tA : TA} {mA : MA}
instance i_snd_orV  [ha : Ok (SndE K tb W ta a)] [hb : Ok (SndE K tb W tb' b)] : Ok (SndE K tb W (tOrV ta tb') (orM a b)) := ⟨snd_orV ha.ok hb.ok⟩
end
section
variable   {K : PySem.W.Frag} {tb : List (Addr × Str)} {W : WX} {ta tb' tc te : TE} {a b e : ME} {t u : TT} {mt mu : MT} {tA : TA} {mA : MA}
instance i_snd_notV  [ha : Ok (SndE K tb W ta a)] : Ok (SndE K tb W (tNotV ta) (notM a)) := ⟨snd_notV ha.ok⟩
end
section
variable   {K : PySem.W.Frag} {tb : List (Addr × Str)} {W : WX} {ta tb' tc te : TE} {a b e : ME} {t u : TT} {mt mu : MT} {tA : TA} {mA : MA}
instance i_snd_if  [ht : Ok (SndT K tb W t mt)] [ha : Ok (SndE K tb W ta a)] [hb : Ok (SndE K tb W tb' b)] : Ok (SndE K tb W (tIf t ta tb') (ifM mt a b)) := ⟨snd_if ht.ok ha.ok hb.ok⟩
end
section
variable   {K : PySem.W.Frag} {tb : List (Addr × Str)} {W : WX} {ta tb' tc te : TE} {a b e : ME} {t u : TT} {mt mu : MT} {tA : TA} {mA : MA}
instance i_snd_chain {r r' : R2} {op op' : D → D → SH → QD → Prop} [ho : Ok (DOp K tb r op)] [ho' : Ok (DOp K tb r' op')] [ha : Ok (SndE K tb W ta a)] [hb : Ok (SndE K tb W tb' b)] [he : Ok (SndE K tb W tc e)] : Ok (SndE K tb W (tChain r r' ta tb' tc) (chainM op op' a b e)) := ⟨snd_chain ho.ok ho'.ok ha.ok hb.ok he.ok⟩
end
section
variable   {K : PySem.W.Frag} {tb : List (Addr × Str)} {W : WX} {ta tb' tc te : TE} {a b e : ME} {t u : TT} {mt mu : MT} {tA : TA} {mA : MA}
instance i_snd_nil   : Ok (SndA K tb W tNil nilM) := ⟨snd_nil⟩
end
section
variable   {K : PySem.W.Frag} {tb : List (Addr × Str)} {W : WX} {ta tb' tc te : TE} {a b e : ME} {t u : TT} {mt mu : MT} {tA : TA} {mA : MA}
instance i_snd_cons  [ha : Ok (SndE K tb W ta a)] [hA : Ok (SndA K tb W tA mA)] : Ok (SndA K tb W (tCons ta tA) (consM a mA)) := ⟨snd_cons ha.ok hA.ok⟩
end
section
variable   {K : PySem.W.Frag} {tb : List (Addr × Str)} {W : WX} {ta tb' tc te : TE} {a b e : ME} {t u : TT} {mt mu : MT} {tA : TA} {mA : MA}
instance i_snd_lst {lv : Bool} [hA : Ok (SndA K tb W tA mA)] : Ok (SndE K tb W (tLst tA) (lstM lv mA)) := ⟨snd_lst hA.ok⟩
end
section
variable   {K : PySem.W.Frag} {tb : List (Addr × Str)} {W : WX} {ta tb' tc te : TE} {a b e : ME} {t u : TT} {mt mu : MT} {tA : TA} {mA : MA}
instance i_snd_tup  [hA : Ok (SndA K tb W tA mA)] : Ok (SndE K tb W (tTup tA) (tupM mA)) := ⟨snd_tup hA.ok⟩
end
section
variable   {K : PySem.W.Frag} {tb : List (Addr × Str)} {W : WX} {ta tb' tc te : TE} {a b e : ME} {t u : TT} {mt mu : MT} {tA : TA} {mA : MA}
instance i_snd_CB {rc : List V → Hp → VK → Prop} {op : List D → SH → QD → Prop} [ho : Ok (DCall K tb rc op)] [hA : Ok (SndA K tb W tA mA)] : Ok (SndE K tb W (tCB rc tA) (cbM op mA)) := ⟨snd_CB ho.ok hA.ok⟩
end
section
variable   {K : PySem.W.Frag} {tb : List (Addr × Str)} {W : WX} {ta tb' tc te : TE} {a b e : ME} {t u : TT} {mt mu : MT} {tA : TA} {mA : MA}
instance i_snd_noPart   : Ok (SndO K tb W tNoPart noPartM) := ⟨snd_noPart⟩
end
section
variable   {K : PySem.W.Frag} {tb : List (Addr × Str)} {W : WX} {ta tb' tc te : TE} {a b e : ME} {t u : TT} {mt mu : MT} {tA : TA} {mA : MA}
instance i_snd_part  [ha : Ok (SndE K tb W ta a)] : Ok (SndO K tb W (tPart ta) (partM a)) := ⟨snd_part ha.ok⟩
end
section
variable   {K : PySem.W.Frag} {tb : List (Addr × Str)} {W : WX} {ta te : TE} {a : ME} {st su : TS} {ms mu : MS} {t : TT} {mt : MT} {tA : TA} {mA : MA} {g : TG} {mg : MG} {wi : TI} {mi : MI}
instance i_snd_seq  [h : Ok (SndS K tb W st ms)] [k : Ok (SndS K tb W su mu)] : Ok (SndS K tb W (tSeq st su) (seqM ms mu)) := ⟨snd_seq h.ok k.ok⟩
end
section
variable   {K : PySem.W.Frag} {tb : List (Addr × Str)} {W : WX} {ta te : TE} {a : ME} {st su : TS} {ms mu : MS} {t : TT} {mt : MT} {tA : TA} {mA : MA} {g : TG} {mg : MG} {wi : TI} {mi : MI}
instance i_snd_gname {i : Nat}  : Ok (SndG K tb W (gName i) (gnameM i)) := ⟨snd_gname⟩
end
section
variable   {K : PySem.W.Frag} {tb : List (Addr × Str)} {W : WX} {ta te : TE} {a : ME} {st su : TS} {ms mu : MS} {t : TT} {mt : MT} {tA : TA} {mA : MA} {g : TG} {mg : MG} {wi : TI} {mi : MI}
instance i_snd_asg  [ha : Ok (SndE K tb W ta a)] [hg : Ok (SndG K tb W g mg)] : Ok (SndS K tb W (tAsg ta g) (asgM a mg)) := ⟨snd_asg ha.ok hg.ok⟩
end
section
variable   {K : PySem.W.Frag} {tb : List (Addr × Str)} {W : WX} {ta te : TE} {a : ME} {st su : TS} {ms mu : MS} {t : TT} {mt : MT} {tA : TA} {mA : MA} {g : TG} {mg : MG} {wi : TI} {mi : MI}
instance i_snd_drop  [ha : Ok (SndE K tb W ta a)] : Ok (SndS K tb W (tDrop ta) (dropM a)) := ⟨snd_drop ha.ok⟩
end
section
variable   {K : PySem.W.Frag} {tb : List (Addr × Str)} {W : WX} {ta te : TE} {a : ME} {st su : TS} {ms mu : MS} {t : TT} {mt : MT} {tA : TA} {mA : MA} {g : TG} {mg : MG} {wi : TI} {mi : MI}
instance i_snd_ret  [ha : Ok (SndE K tb W ta a)] : Ok (SndS K tb W (tRet ta) (retM a)) := ⟨snd_ret ha.ok⟩
end
section
variable   {K : PySem.W.Frag} {tb : List (Addr × Str)} {W : WX} {ta te : TE} {a : ME} {st su : TS} {ms mu : MS} {t : TT} {mt : MT} {tA : TA} {mA : MA} {g : TG} {mg : MG} {wi : TI} {mi : MI}
instance i_snd_retN   : Ok (SndS K tb W tRetN retNM) := ⟨snd_retN⟩
end
section
variable   {K : PySem.W.Frag} {tb : List (Addr × Str)} {W : WX} {ta te : TE} {a : ME} {st su : TS} {ms mu : MS} {t : TT} {mt : MT} {tA : TA} {mA : MA} {g : TG} {mg : MG} {wi : TI} {mi : MI}
instance i_snd_next   : Ok (SndS K tb W tNext nextM) := ⟨snd_next⟩
end
section
variable   {K : PySem.W.Frag} {tb : List (Addr × Str)} {W : WX} {ta te : TE} {a : ME} {st su : TS} {ms mu : MS} {t : TT} {mt : MT} {tA : TA} {mA : MA} {g : TG} {mg : MG} {wi : TI} {mi : MI}
instance i_snd_break   : Ok (SndS K tb W tBreak breakM) := ⟨snd_break⟩
end
section
variable   {K : PySem.W.Frag} {tb : List (Addr × Str)} {W : WX} {ta te : TE} {a : ME} {st su : TS} {ms mu : MS} {t : TT} {mt : MT} {tA : TA} {mA : MA} {g : TG} {mg : MG} {wi : TI} {mi : MI}
instance i_snd_cont   : Ok (SndS K tb W tCont contM) := ⟨snd_cont⟩
end
section
variable   {K : PySem.W.Frag} {tb : List (Addr × Str)} {W : WX} {ta te : TE} {a : ME} {st su : TS} {ms mu : MS} {t : TT} {mt : MT} {tA : TA} {mA : MA} {g : TG} {mg : MG} {wi : TI} {mi : MI}
instance i_snd_ifS  [ht : Ok (SndT K tb W t mt)] [h : Ok (SndS K tb W st ms)] [k : Ok (SndS K tb W su mu)] : Ok (SndS K tb W (tIfS t st su) (ifS mt ms mu)) := ⟨snd_ifS ht.ok h.ok k.ok⟩
end
section
variable   {K : PySem.W.Frag} {tb : List (Addr × Str)} {W : WX} {ta te : TE} {a : ME} {st su : TS} {ms mu : MS} {t : TT} {mt : MT} {tA : TA} {mA : MA} {g : TG} {mg : MG} {wi : TI} {mi : MI}
instance i_snd_par {i j : Nat} [hA : Ok (SndA K tb W tA mA)] : Ok (SndS K tb W (tPar i j tA) (parM i j mA)) := ⟨snd_par hA.ok⟩
end
section
variable   {K : PySem.W.Frag} {tb : List (Addr × Str)} {W : WX} {ta te : TE} {a : ME} {st su : TS} {ms mu : MS} {t : TT} {mt : MT} {tA : TA} {mA : MA} {g : TG} {mg : MG} {wi : TI} {mi : MI}
instance i_snd_raise {C : Addr} {f : Str} [hA : Ok (SndA K tb W tA mA)] : Ok (SndS K tb W (tRaiseE C f W tA) (raiseM C f mA)) := ⟨snd_raise hA.ok⟩
end
section
variable   {K : PySem.W.Frag} {tb : List (Addr × Str)} {W : WX} {ta te : TE} {a : ME} {st su : TS} {ms mu : MS} {t : TT} {mt : MT} {tA : TA} {mA : MA} {g : TG} {mg : MG} {wi : TI} {mi : MI}
instance i_snd_for  [hi : Ok (SndI K tb W wi mi)] [hg : Ok (SndG K tb W g mg)] [hb : Ok (SndS K tb W st ms)] : Ok (SndS K tb W (tFor wi g st) (forM mi mg ms)) := ⟨snd_for hi.ok hg.ok hb.ok⟩
end
section
variable   {K : PySem.W.Frag} {tb : List (Addr × Str)} {W : WX} {ta te : TE} {a : ME} {st su : TS} {ms mu : MS} {t : TT} {mt : MT} {tA : TA} {mA : MA} {g : TG} {mg : MG} {wi : TI} {mi : MI}
instance i_snd_while  [ht : Ok (SndT K tb W t mt)] [hb : Ok (SndS K tb W st ms)] : Ok (SndS K tb W (tWhile t st) (whileM mt ms)) := ⟨snd_while ht.ok hb.ok⟩
end
section
variable   {K : PySem.W.Frag} {tb : List (Addr × Str)}
instance i_dop_add {lv : Bool}  : Ok (DOp K tb rAddU (addD lv)) := ⟨dop_add⟩
end
section
variable   {K : PySem.W.Frag} {tb : List (Addr × Str)}
instance i_dop_sub   : Ok (DOp K tb (rI0 fun i j => .int (i - j)) subD) := ⟨dop_sub⟩
end
section
variable   {K : PySem.W.Frag} {tb : List (Addr × Str)}
instance i_dop_mul {lv : Bool}  : Ok (DOp K tb rMulU (mulD lv)) := ⟨dop_mul⟩
end
section
variable   {K : PySem.W.Frag} {tb : List (Addr × Str)}
instance i_dop_fdiv   : Ok (DOp K tb rFdivU fdivD) := ⟨dop_fdiv⟩
end
section
variable   {K : PySem.W.Frag} {tb : List (Addr × Str)}
instance i_dop_mod   : Ok (DOp K tb rModU modD) := ⟨dop_mod⟩
end
section
variable   {K : PySem.W.Frag} {tb : List (Addr × Str)}
instance i_dop_pow   : Ok (DOp K tb rPowU powD) := ⟨dop_pow⟩
end
section
variable   {K : PySem.W.Frag} {tb : List (Addr × Str)}
instance i_dun_neg   : Ok (DUn K tb (rU fun i => .int (-i)) negD) := ⟨dun_neg⟩
end
section
variable   {K : PySem.W.Frag} {tb : List (Addr × Str)}
instance i_dop_lt   : Ok (DOp K tb rLtU ltD) := ⟨dop_lt⟩
end
section
variable   {K : PySem.W.Frag} {tb : List (Addr × Str)}
instance i_dop_le   : Ok (DOp K tb rLeU leD) := ⟨dop_le⟩
end
section
variable   {K : PySem.W.Frag} {tb : List (Addr × Str)}
instance i_dop_gt   : Ok (DOp K tb rGtU gtD) := ⟨dop_gt⟩
end
section
variable   {K : PySem.W.Frag} {tb : List (Addr × Str)}
instance i_dop_ge   : Ok (DOp K tb rGeU geD) := ⟨dop_ge⟩
end
section
variable   {K : PySem.W.Frag} {tb : List (Addr × Str)}
instance i_dop_is   : Ok (DOp K tb rIsU isD) := ⟨dop_is⟩
end
section
variable   {K : PySem.W.Frag} {tb : List (Addr × Str)}
instance i_dop_isnt   : Ok (DOp K tb rIsNotU isntD) := ⟨dop_isnt⟩
end
section
variable   {K : PySem.W.Frag} {tb : List (Addr × Str)}
instance i_dop_ix   : Ok (DOp K tb (rIx K) ixD) := ⟨dop_ix⟩
end
section
variable   {K : PySem.W.Frag} {tb : List (Addr × Str)} {W : WX} {ta te : TE} {a : ME} {tA : TA} {mA : MA}
instance i_snd_itV  [ha : Ok (SndE K tb W ta a)] : Ok (SndI K tb W (iV K ta) (itM a)) := ⟨snd_itV ha.ok⟩
end
section
variable   {K : PySem.W.Frag} {tb : List (Addr × Str)} {W : WX} {ta te : TE} {a : ME} {tA : TA} {mA : MA}
instance i_snd_rng1  [hA : Ok (SndA K tb W tA mA)] : Ok (SndI K tb W (iRng1 tA) (rng1M mA)) := ⟨snd_rng1 hA.ok⟩
end
section
variable   {K : PySem.W.Frag} {tb : List (Addr × Str)} {W : WX} {ta te : TE} {a : ME} {tA : TA} {mA : MA}
instance i_snd_rng2  [hA : Ok (SndA K tb W tA mA)] : Ok (SndI K tb W (iRng2 tA) (rng2M mA)) := ⟨snd_rng2 hA.ok⟩
end
section
variable   {K : PySem.W.Frag} {tb : List (Addr × Str)} {W : WX} {ta te : TE} {a : ME} {tA : TA} {mA : MA}
instance i_snd_enum  [hA : Ok (SndA K tb W tA mA)] : Ok (SndI K tb W (iEnum K tA) (enumM mA)) := ⟨snd_enum hA.ok⟩
end
section
variable   {K : PySem.W.Frag} {tb : List (Addr × Str)} {W : WX} {ta te : TE} {a : ME} {tA : TA} {mA : MA}
instance i_snd_zip  [hA : Ok (SndA K tb W tA mA)] : Ok (SndI K tb W (iZip K tA) (zipM mA)) := ⟨snd_zip hA.ok⟩
end
section
variable   {K : PySem.W.Frag} {tb : List (Addr × Str)} {W : WX} {vs : List Nat}
instance i_sgo_nil   : Ok (SndGOs K tb vs gNil gnilM) := ⟨sgo_nil⟩
end
section
variable   {K : PySem.W.Frag} {tb : List (Addr × Str)}
instance i_dop_eq   : Ok (DOp K tb (rEqU K) eqD) := ⟨dop_eq⟩
end
section
variable   {K : PySem.W.Frag} {tb : List (Addr × Str)}
instance i_dop_ne   : Ok (DOp K tb (rNeU K) neD) := ⟨dop_ne⟩
end
section
variable   {K : PySem.W.Frag} {tb : List (Addr × Str)}
instance i_dop_in   : Ok (DOp K tb (rInU K) (inD false)) := ⟨dop_in⟩
end
section
variable   {K : PySem.W.Frag} {tb : List (Addr × Str)}
instance i_dop_nin   : Ok (DOp K tb (rNotInU K) (inD true)) := ⟨dop_nin⟩
end
section
variable   {K : PySem.W.Frag} {tb : List (Addr × Str)}
instance i_dc_isi   : Ok (DCall K tb (rIsiU K) (isiD K)) := ⟨dc_isi⟩
end
section
variable   {K : PySem.W.Frag} {tb : List (Addr × Str)}
instance i_dc_len   : Ok (DCall K tb (rLenU K) lenD) := ⟨dc_len⟩
end
section
variable   {K : PySem.W.Frag} {tb : List (Addr × Str)} {W : WX} {ta te : TE} {a b : ME} {tA : TA} {mA : MA} {C : Addr} {f m : Str} {F : Fn}
instance i_snd_fld  [cl : Ok (Cls K C)] [na : Ok (NoAttr K C f)] [ha : Ok (SndE K tb W ta a)] : Ok (SndE K tb W (tFld K ta f) (fldM C f a)) := ⟨snd_fld cl.ok na.ok ha.ok⟩
end
section
variable   {K : PySem.W.Frag} {tb : List (Addr × Str)} {W : WX} {ta te : TE} {a b : ME} {tA : TA} {mA : MA} {C : Addr} {f m : Str} {F : Fn}
instance i_snd_sfld  [cl : Ok (Cls K C)] [na : Ok (NoAttr K C f)] [ha : Ok (SndE K tb W ta a)] [hv : Ok (SndE K tb W te b)] : Ok (SndS K tb W (sFld K ta te f) (sfldM C f a b)) := ⟨snd_sfld cl.ok na.ok ha.ok hv.ok⟩
end
section
variable   {K : PySem.W.Frag} {tb : List (Addr × Str)} {W : WX} {ta te : TE} {a b : ME} {tA : TA} {mA : MA} {T : String} {r : V → List V → Hp → VK → Prop} {op : D → List D → SH → QD → Prop}
instance i_snd_bm0  [ho : Ok (DMt K tb r op)] [ha : Ok (SndE K tb W ta a)] : Ok (SndE K tb W (tBM0 K T r ta) (bm0M T op a)) := ⟨snd_bm0 ho.ok ha.ok⟩
end
section
variable   {K : PySem.W.Frag} {tb : List (Addr × Str)} {W : WX} {ta te : TE} {a b : ME} {tA : TA} {mA : MA} {T : String} {r : V → List V → Hp → VK → Prop} {op : D → List D → SH → QD → Prop}
instance i_snd_bm  [ho : Ok (DMt K tb r op)] [ha : Ok (SndE K tb W ta a)] [hA : Ok (SndA K tb W tA mA)] : Ok (SndE K tb W (tBM K T r ta tA) (bmM T op a mA)) := ⟨snd_bm ho.ok ha.ok hA.ok⟩
end
section
variable   {K : PySem.W.Frag} {tb : List (Addr × Str)} {W : WX} {ta te : TE} {a b : ME} {tA : TA} {mA : MA} {T : String} {r : V → List V → Hp → VK → Prop} {op : D → List D → SH → QD → Prop}
instance i_snd_m1  [ho : Ok (DMt K tb r op)] [ha : Ok (SndE K tb W ta a)] [hb : Ok (SndE K tb W te b)] : Ok (SndE K tb W (tM1 r ta te) (m1M op a b)) := ⟨snd_m1 ho.ok ha.ok hb.ok⟩
end
section
variable   {K : PySem.W.Frag} {tb : List (Addr × Str)} {W : WX} {ta te : TE} {a b : ME} {tA : TA} {mA : MA} {T : String} {r : V → List V → Hp → VK → Prop} {op : D → List D → SH → QD → Prop}
instance i_dm_append   : Ok (DMt K tb rAppend appendD) := ⟨dm_append⟩
end
section
variable   {K : PySem.W.Frag} {tb : List (Addr × Str)} {W : WX} {ta te : TE} {a b : ME} {tA : TA} {mA : MA} {T : String} {r : V → List V → Hp → VK → Prop} {op : D → List D → SH → QD → Prop}
instance i_dm_extend   : Ok (DMt K tb rExtend extendD) := ⟨dm_extend⟩
end
section
variable   {K : PySem.W.Frag} {tb : List (Addr × Str)} {W : WX} {ta te : TE} {a b : ME} {tA : TA} {mA : MA} {T : String} {r : V → List V → Hp → VK → Prop} {op : D → List D → SH → QD → Prop}
instance i_dm_pop   : Ok (DMt K tb rPop popD) := ⟨dm_pop⟩
end
section
variable   {K : PySem.W.Frag} {tb : List (Addr × Str)} {W : WX} {ta te : TE} {a b : ME} {tA : TA} {mA : MA} {T : String} {r : V → List V → Hp → VK → Prop} {op : D → List D → SH → QD → Prop}
instance i_dm_popAt   : Ok (DMt K tb rPopAt popAtD) := ⟨dm_popAt⟩
end
section
variable   {K : PySem.W.Frag} {tb : List (Addr × Str)} {W : WX} {ta te : TE} {a b : ME} {tA : TA} {mA : MA} {T : String} {r : V → List V → Hp → VK → Prop} {op : D → List D → SH → QD → Prop}
instance i_dm_join   : Ok (DMt K tb (rJoin K) joinD) := ⟨dm_join⟩
end
section
variable   {K : PySem.W.Frag} {tb : List (Addr × Str)} {W : WX} {ta te : TE} {a b : ME} {tA : TA} {mA : MA} {T : String} {r : V → List V → Hp → VK → Prop} {op : D → List D → SH → QD → Prop}
instance i_dm_split {lv : Bool}  : Ok (DMt K tb rSplit (splitD lv)) := ⟨dm_split⟩
end
section
variable   {K : PySem.W.Frag} {tb : List (Addr × Str)} {W : WX} {ta te : TE} {a b : ME} {tA : TA} {mA : MA} {T : String} {r : V → List V → Hp → VK → Prop} {op : D → List D → SH → QD → Prop}
instance i_dc_list {lv : Bool}  : Ok (DCall K tb (rListU K) (listD lv)) := ⟨dc_list⟩
end
section
variable   {K : PySem.W.Frag} {tb : List (Addr × Str)} {W : WX} {ta te : TE} {a b : ME} {tA : TA} {mA : MA} {T : String} {r : V → List V → Hp → VK → Prop} {op : D → List D → SH → QD → Prop}
instance i_dc_int   : Ok (DCall K tb rInt1 int1D) := ⟨dc_int⟩
end
section
variable   {K : PySem.W.Frag} {tb : List (Addr × Str)} {W : WX} {ta te : TE} {a b : ME} {tA : TA} {mA : MA} {T : String} {r : V → List V → Hp → VK → Prop} {op : D → List D → SH → QD → Prop}
instance i_dc_max2   : Ok (DCall K tb (rMaxU K) max2D) := ⟨dc_max2⟩
end
section
variable   {K : PySem.W.Frag} {tb : List (Addr × Str)} {W : WX} {ta te : TE} {a b : ME} {tA : TA} {mA : MA} {T : String} {r : V → List V → Hp → VK → Prop} {op : D → List D → SH → QD → Prop}
instance i_dc_min2   : Ok (DCall K tb (rMinU K) min2D) := ⟨dc_min2⟩
end
section
variable   {K : PySem.W.Frag} {tb : List (Addr × Str)} {W : WX} {C : Addr} {F : Fn} {fin : Bool → Bool}
instance i_dop_or {r1 r2 : R2} {o1 o2 : D → D → SH → QD → Prop} [h1 : Ok (DOp K tb r1 o1)] [h2 : Ok (DOp K tb r2 o2)] : Ok (DOp K tb (fun x y H Q => r1 x y H Q ∨ r2 x y H Q) (orD o1 o2)) := ⟨dop_or h1.ok h2.ok⟩
end
section
variable   {K : PySem.W.Frag} {tb : List (Addr × Str)} {W : WX} {C : Addr} {F : Fn} {fin : Bool → Bool}
instance i_dc_or {r1 r2 : List V → Hp → VK → Prop} {o1 o2 : List D → SH → QD → Prop} [h1 : Ok (DCall K tb r1 o1)] [h2 : Ok (DCall K tb r2 o2)] : Ok (DCall K tb (fun x H Q => r1 x H Q ∨ r2 x H Q) (orC o1 o2)) := ⟨dc_or h1.ok h2.ok⟩
end
section
variable   {K : PySem.W.Frag} {tb : List (Addr × Str)} {W : WX} {C : Addr} {F : Fn} {fin : Bool → Bool}
instance i_dop_cmpX   : Ok (DOp K tb (rCmpX K C (SpG K tb F) fin) (cmpX K C F fin)) := ⟨dop_cmpX⟩
end
section
variable   {K : PySem.W.Frag} {tb : List (Addr × Str)} {W : WX} {C : Addr} {F : Fn} {fin : Bool → Bool}
instance i_dop_inX   : Ok (DOp K tb (rInX C (SpG K tb F) fin) (inX C F fin)) := ⟨dop_inX⟩
end
section
variable   {K : PySem.W.Frag} {tb : List (Addr × Str)} {W : WX} {C : Addr} {F : Fn} {fin : Bool → Bool}
instance i_dc_strX   : Ok (DCall K tb (rStrO C (SpG K tb F) fun _ _ _ => False) (strX C F)) := ⟨dc_strX⟩
end
section
variable   {K : PySem.W.Frag} {tb : List (Addr × Str)} {W : WX} {ta : TE} {a : ME}
instance i_snd_fmt  [ha : Ok (SndE K tb W ta a)] : Ok (SndE K tb W (tFmt ta) (fmtM a)) := ⟨snd_fmt ha.ok⟩
end
section
instance i_snd_yes {K : PySem.W.Frag} {tb : List (Addr × Str)} {W : WX}  : Ok (SndT K tb W tYes yesM) := ⟨snd_yes⟩
end
section
instance i_snd_never {K : PySem.W.Frag} {tb : List (Addr × Str)} {W : WX}  : Ok (SndS K tb W tNever neverM) := ⟨snd_never⟩
end
section
instance i_dc_str {K : PySem.W.Frag} {tb : List (Addr × Str)}  : Ok (DCall K tb rStrU strD) := ⟨dc_str⟩
end
section
instance i_dc_repr {K : PySem.W.Frag} {tb : List (Addr × Str)}  : Ok (DCall K tb rReprU reprD) := ⟨dc_repr⟩
end
section
variable   {K : PySem.W.Frag} {tb : List (Addr × Str)} {al al1 : List Addr} {G G1 : Hp} {c c1 : SH} {H H1 : Hp} {xs : List (Key × D)} {vs : List (Key × V)} {Φ : QD} {Q : VK} {p : Addr} {W : WX}
instance i_snd_dnew   : Ok (SndE K tb W tDNewK (dnewM true)) := ⟨snd_dnew⟩
end
section
variable   {K : PySem.W.Frag} {tb : List (Addr × Str)} {al al1 : List Addr} {G G1 : Hp} {c c1 : SH} {H H1 : Hp} {xs : List (Key × D)} {vs : List (Key × V)} {Φ : QD} {Q : VK} {p : Addr} {W : WX}
instance i_snd_dnewL   : Ok (SndE K tb W (tLk tDNewK) (dnewM false)) := ⟨snd_dnewL⟩
end
section
variable   {K : PySem.W.Frag} {tb : List (Addr × Str)} {al al1 : List Addr} {G G1 : Hp} {c c1 : SH} {H H1 : Hp} {xs : List (Key × D)} {vs : List (Key × V)} {Φ : QD} {Q : VK} {p : Addr} {W : WX}
instance i_snd_lk {ta : TE} {a : ME} [ha : Ok (SndE K tb W ta a)] : Ok (SndE K tb W (tLk ta) (lkM a)) := ⟨snd_lk ha.ok⟩
end
section
variable   {X : Cx} {K : PySem.W.Frag} {tb : List (Addr × Str)} {W : WX}
instance i_dc_all   : Ok (DCall K tb (rAll K) allD) := ⟨dc_all⟩
end
section
variable   {X : Cx} {K : PySem.W.Frag} {tb : List (Addr × Str)} {W : WX}
instance i_dc_any   : Ok (DCall K tb (rAny K) anyD) := ⟨dc_any⟩
end
section
variable   {X : Cx} {K : PySem.W.Frag} {tb : List (Addr × Str)} {W : WX}
instance i_dc_sum   : Ok (DCall K tb (rSum K) sumD) := ⟨dc_sum⟩
end
section
variable   {X : Cx} {K : PySem.W.Frag} {tb : List (Addr × Str)} {W : WX}
instance i_dc_sorted {lv : Bool}  : Ok (DCall K tb (rSortedU K) (sortedD lv)) := ⟨dc_sorted⟩
end
section
variable   {X : Cx} {K : PySem.W.Frag} {tb : List (Addr × Str)} {W : WX}
instance i_snd_rev {lv : Bool} {ta : TE} {a : ME} [ha : Ok (SndE K tb W ta a)] : Ok (SndE K tb W (tRevL K ta) (revM lv a)) := ⟨snd_rev ha.ok⟩
end
section
variable   {X : Cx} {K : PySem.W.Frag} {tb : List (Addr × Str)} {W : WX}
instance i_snd_par3 {i j l : Nat} {tA : TA} {mA : MA} [hA : Ok (SndA K tb W tA mA)] : Ok (SndS K tb W (tPar3 i j l tA) (par3M i j l mA)) := ⟨snd_par3 hA.ok⟩
end
section
variable   {X : Cx} {K : PySem.W.Frag} {tb : List (Addr × Str)} {W : WX}
instance i_dc_tuple   : Ok (DCall K tb (rTupU K) tupleD) := ⟨dc_tuple⟩
end
section
variable   {K : PySem.W.Frag} {tb : List (Addr × Str)} {W : WX} {tk tv ta : TE} {mk mv a b : ME} {trs : List (TE × TE)} {mp : MP}
instance i_snd_pnil   : Ok (SndP K tb W [] pnilM) := ⟨snd_pnil⟩
end
section
variable   {K : PySem.W.Frag} {tb : List (Addr × Str)} {W : WX} {tk tv ta : TE} {mk mv a b : ME} {trs : List (TE × TE)} {mp : MP}
instance i_snd_pcons  [hk : Ok (SndE K tb W tk mk)] [hv : Ok (SndE K tb W tv mv)] [hr : Ok (SndP K tb W trs mp)] : Ok (SndP K tb W ((tk, tv) :: trs) (pconsM mk mv mp)) := ⟨snd_pcons hk.ok hv.ok hr.ok⟩
end
section
variable   {K : PySem.W.Frag} {tb : List (Addr × Str)} {W : WX} {tk tv ta : TE} {mk mv a b : ME} {trs : List (TE × TE)} {mp : MP}
instance i_snd_disp  [hp : Ok (SndP K tb W trs mp)] : Ok (SndE K tb W (tDisp trs) (dispM true mp)) := ⟨snd_disp hp.ok⟩
end
section
variable   {K : PySem.W.Frag} {tb : List (Addr × Str)} {W : WX} {tk tv ta : TE} {mk mv a b : ME} {trs : List (TE × TE)} {mp : MP}
instance i_snd_dispL  [hp : Ok (SndP K tb W trs mp)] : Ok (SndE K tb W (tLk (tDisp trs)) (dispM false mp)) := ⟨snd_dispL hp.ok⟩
end
section
variable   {K : PySem.W.Frag} {tb : List (Addr × Str)} {W : WX} {tk tv ta : TE} {mk mv a b : ME} {trs : List (TE × TE)} {mp : MP}
instance i_snd_dget {td ty : TE} [ha : Ok (SndE K tb W td a)] [hb : Ok (SndE K tb W ty b)] : Ok (SndE K tb W (tDGet td ty) (opM dgetD a b)) := ⟨snd_dget ha.ok hb.ok⟩
end
section
variable   {K : PySem.W.Frag} {tb : List (Addr × Str)} {W : WX} {ta tv ty : TE} {a b mv : ME}
instance i_snd_items  [ha : Ok (SndE K tb W ta a)] : Ok (SndI K tb W (iItems ta) (itemsM a)) := ⟨snd_items ha.ok⟩
end
section
variable   {K : PySem.W.Frag} {tb : List (Addr × Str)} {W : WX} {ta tv ty : TE} {a b mv : ME}
instance i_snd_values  [ha : Ok (SndE K tb W ta a)] : Ok (SndI K tb W (iVals ta) (valuesM a)) := ⟨snd_values ha.ok⟩
end
section
variable   {K : PySem.W.Frag} {tb : List (Addr × Str)} {W : WX} {ta tv ty : TE} {a b mv : ME}
instance i_sgo_tupn {vs : List Nat} {n : Nat} {g : TGs} {mg : MGs} [hg : Ok (SndGOs K tb vs g mg)] : Ok (SndGO K tb W vs (gTup K n g) (gtupnM n mg)) := ⟨sgo_tupn hg.ok⟩
end
section
variable   {K : PySem.W.Frag} {tb : List (Addr × Str)} {W : WX} {ta tv ty : TE} {a b mv : ME}
instance i_sgo_consX {vs : List Nat} {tg : TG} {m : MG} {g : TGs} {mg : MGs} [hm : Ok (SndGO K tb (fun _ _ _ _ => False) vs tg m)] [hg : Ok (SndGOs K tb vs g mg)] : Ok (SndGOs K tb vs (gCons tg g) (gconsXM m mg)) := ⟨sgo_consX hm.ok hg.ok⟩
end
section
variable   {K : PySem.W.Frag} {tb : List (Addr × Str)} {W : WX} {ta tv ty : TE} {a b mv : ME}
instance i_snd_dput  [ho : Ok (SndE K tb W ta a)] [hi : Ok (SndE K tb W ty b)] [hv : Ok (SndE K tb W tv mv)] : Ok (SndS K tb W (sDPut ta ty tv) (dputM a b mv)) := ⟨snd_dput ho.ok hi.ok hv.ok⟩
end
section
variable   {K : PySem.W.Frag} {tb : List (Addr × Str)} {W : WX} {ta tv ty : TE} {a b mv : ME} {tA : TA} {mA : MA}
instance i_snd_dict  [hA : Ok (SndA K tb W tA mA)] : Ok (SndE K tb W (tCB (rDictU K) tA) (dictM true mA)) := ⟨snd_dict hA.ok⟩
end
section
variable   {K : PySem.W.Frag} {tb : List (Addr × Str)} {W : WX} {ta tv ty : TE} {a b mv : ME} {tA : TA} {mA : MA}
instance i_snd_dictL  [hA : Ok (SndA K tb W tA mA)] : Ok (SndE K tb W (tLk (tCB (rDictU K) tA)) (dictM false mA)) := ⟨snd_dictL hA.ok⟩
end
section
variable   {K : PySem.W.Frag} {tb : List (Addr × Str)} {W : WX} {ta tv ty : TE} {a b mv : ME} {tA : TA} {mA : MA}
instance i_dc_sortK {lv : Bool}  : Ok (DCall K tb (rSortedK K) (sortedKD lv)) := ⟨dc_sortK⟩
end
section
variable   {K : PySem.W.Frag} {tb : List (Addr × Str)} {W : WX} {ta tv ty : TE} {a b mv : ME} {tA : TA} {mA : MA}
instance i_dc_maxL   : Ok (DCall K tb (rMaxU K) (orC max2D maxLD)) := ⟨dc_maxL⟩
end
section
variable   {K : PySem.W.Frag} {tb : List (Addr × Str)} {W : WX} {ta tv ty : TE} {a b mv : ME} {tA : TA} {mA : MA}
instance i_dc_minL   : Ok (DCall K tb (rMinU K) (orC min2D minLD)) := ⟨dc_minL⟩
end
section
variable   {X : Cx} {K : PySem.W.Frag} {tb : List (Addr × Str)} {W : WX}
instance i_dc_reprG   : Ok (DCall K tb (rReprG K) reprGD) := ⟨dc_reprG⟩
end
section
variable   {X : Cx} {K : PySem.W.Frag} {tb : List (Addr × Str)} {W : WX}
instance i_dop_inP {fin : Bool → Bool}  : Ok (DOp K tb (rInP K fin) (inP fin)) := ⟨dop_inP⟩
end
section
variable   {X : Cx} {K : PySem.W.Frag} {tb : List (Addr × Str)} {W : WX}
instance i_dop_eqK {fin : Bool → Bool}  : Ok (DOp K tb (rEqK K fin) (eqKD fin)) := ⟨dop_eqK⟩
end
section
variable   {X : Cx} {K : PySem.W.Frag} {tb : List (Addr × Str)}
instance i_dc_maxS   : Ok (DCall K tb rMaxS maxSD) := ⟨dc_maxS⟩
end
section
variable   {X : Cx} {K : PySem.W.Frag} {tb : List (Addr × Str)}
instance i_dc_minS   : Ok (DCall K tb rMinS minSD) := ⟨dc_minS⟩
end
section
variable   {K : PySem.W.Frag} {tb : List (Addr × Str)} {C : Addr} {F : Fn}
instance i_dc_lenX   : Ok (DCall K tb (rLenX C (SpG K tb F)) (lenXD C F)) := ⟨dc_lenX⟩
end
section
instance i_dop_eqLX {K : PySem.W.Frag} {tb : List (Addr × Str)} {C : Addr} {F : Fn}  : Ok (DOp K tb (rLX K tb C F) (eqLX C F)) := ⟨dop_eqLX⟩
end
section
instance i_dop_eqG {K : PySem.W.Frag} {tb : List (Addr × Str)} {r : IR}  : Ok (DOp K tb (rLG K tb r) (eqGD r)) := ⟨dop_eqG⟩
end
section
instance i_snd_listRg {K : PySem.W.Frag} {tb : List (Addr × Str)} {W : WX} {lv : Bool} {ta : TE} {a : ME} [ha : Ok (SndE K tb W ta a)] : Ok (SndE K tb W (tLstRg (tRg1 ta)) (listRgM lv a)) := ⟨snd_listRg ha.ok⟩
end
section
instance i_dop_inG {K : PySem.W.Frag} {tb : List (Addr × Str)} {r : IR} {f : Bool → Bool}  : Ok (DOp K tb (rInG K tb r f) (inGD r f)) := ⟨dop_inG⟩
end
section
instance i_snd_getX {K : PySem.W.Frag} {tb : List (Addr × Str)} {W : WX} {C : Addr} {F : Fn} {ta tb' : TE} {a b : ME} [ha : Ok (SndE K tb W ta a)] [hb : Ok (SndE K tb W tb' b)] : Ok (SndE K tb W (tGetX C (SpG K tb F) (WE W) ta tb') (getXM C F a b)) := ⟨snd_getX ha.ok hb.ok⟩
end
section
variable   {K : PySem.W.Frag} {tb : List (Addr × Str)}
instance i_dm_clear   : Ok (DMt K tb rClear clearD) := ⟨dm_clear⟩
end
section
variable   {K : PySem.W.Frag} {tb : List (Addr × Str)}
instance i_dm_reverse   : Ok (DMt K tb rReverse reverseD) := ⟨dm_reverse⟩
end
section
instance i_dc_sortedT {K : PySem.W.Frag} {tb : List (Addr × Str)} {lv : Bool}  : Ok (DCall K tb (rSortedTS K) (sortedTD lv)) := ⟨dc_sortedT⟩
end
section
instance i_snd_addX {K : PySem.W.Frag} {tb : List (Addr × Str)} {W : WX} {C : Addr} {F : Fn} {ta tb' : TE} {a b : ME} [ha : Ok (SndE K tb W ta a)] [hb : Ok (SndE K tb W tb' b)] : Ok (SndE K tb W (tAddX K C (SpG K tb F) (WE W) ta tb') (addXM K C F a b)) := ⟨snd_addX ha.ok hb.ok⟩
end
section
instance i_snd_sortSet {K : PySem.W.Frag} {tb : List (Addr × Str)} {W : WX} {lv : Bool} {ta : TE} {a : ME} [ha : Ok (SndE K tb W ta a)] : Ok (SndE K tb W (tSortSet K ta) (sortSetM lv a)) := ⟨snd_sortSet ha.ok⟩
end
section
instance i_snd_lenSet {K : PySem.W.Frag} {tb : List (Addr × Str)} {W : WX} {ta : TE} {a : ME} [ha : Ok (SndE K tb W ta a)] : Ok (SndE K tb W (tLenSet K ta) (lenSetM a)) := ⟨snd_lenSet ha.ok⟩
end
section
instance i_snd_star {K : PySem.W.Frag} {tb : List (Addr × Str)} {W : WX} {ta : TE} {a : ME} {tA : TA} {mA : MA} [ha : Ok (SndE K tb W ta a)] [hA : Ok (SndA K tb W tA mA)] : Ok (SndA K tb W (tStar K ta tA) (starM a mA)) := ⟨snd_star ha.ok hA.ok⟩
end
section
instance i_snd_lenSetK {K : PySem.W.Frag} {tb : List (Addr × Str)} {W : WX} {ta : TE} {a : ME} [ha : Ok (SndE K tb W ta a)] : Ok (SndE K tb W (tLenSetK K ta) (lenSetKM a)) := ⟨snd_lenSetK ha.ok⟩
end
section
instance i_sgo_unl {K : PySem.W.Frag} {tb : List (Addr × Str)} {W : WX} {vs : List Nat} {n : Nat} {g : TGs} {mg : MGs} [hg : Ok (SndGOs K tb vs g mg)] : Ok (SndGO K tb W vs (gUnl K n g) (gunlM n mg)) := ⟨sgo_unl hg.ok⟩
end
section
variable   {K : PySem.W.Frag} {tb : List (Addr × Str)} {W : WX} {ta : TE} {a : ME} {tA : TA} {mA : MA} {C : Addr} {F : Fn}
instance i_snd_cm  [ha : Ok (SndE K tb W ta a)] [hA : Ok (SndA K tb W tA mA)] : Ok (SndE K tb W (tCMethSD C (SpG K tb F) (WE W) ta tA) (cmM C F a mA)) := ⟨snd_cm ha.ok hA.ok⟩
end
section
variable   {K : PySem.W.Frag} {tb : List (Addr × Str)} {W : WX} {ta : TE} {a : ME} {tA : TA} {mA : MA} {C : Addr} {F : Fn}
instance i_snd_makeL {i : Nat} [hA : Ok (SndA K tb W tA mA)] : Ok (SndE K tb W (tMakeL i C (SpG K tb F) (fun _ _ _ => False) tA) (makeLM i C F mA)) := ⟨snd_makeL hA.ok⟩
end
section
variable   {K : PySem.W.Frag} {tb : List (Addr × Str)}
instance i_dm_starts   : Ok (DMt K tb rStarts startsD) := ⟨dm_starts⟩
end
section
variable   {K : PySem.W.Frag} {tb : List (Addr × Str)}
instance i_dm_remove   : Ok (DMt K tb rRemove removeD) := ⟨dm_remove⟩
end
section
instance i_snd_back {K : PySem.W.Frag} {tb : List (Addr × Str)} {W : WX} {ta : TE} {a : ME} {lv : Bool} [ha : Ok (SndE K tb W ta a)] : Ok (SndE K tb W (tBack K ta) (backM lv a)) := ⟨snd_back ha.ok⟩
end
end M
set_option Elab.async false
set_option linter.all false
set_option maxRecDepth 100000
set_option maxHeartbeats 3900000
namespace M
open PySem PySem.Spec PyProof.Rows L2 G
/-- x(..), x an instance of the class at C with a __call__ of its own -/
def tCallO (C : Addr) (sp : Sp) (E : L2.St → XK) (ta : TE) (t : TA) : TE := fun σ H Q => ta σ H fun x H1 => ∃ a, x = .ref a ∧ t σ H1 fun vs H2 => (∃ dx fs, H2 a = some (.ins C dx fs)) ∧ sp (x :: vs) H2 Q (E σ)
def isIns (C : Addr) (c : SH) (x : D) : Prop := match view c x with
  | .ins C' _ => C' = C
  | _ => False
def callO (C : Addr) (F : Fn) (a : ME) (A : MA) : ME := fun δ c Ψ Φ => a δ c Ψ fun x c1 => isIns C c1 x ∧ A δ c1 Ψ fun xs c2 => isIns C c2 x ∧ F (x :: xs) c2 Ψ Φ
section
variable {K : PySem.W.Frag} {tb : List (Addr × Str)} {W : WX} {ta : TE} {a : ME} {tA : TA} {mA : MA} {C : Addr} {F : Fn} {δ : Env} {c : SH} {Ψ : XD} {Φ : QD}
theorem isIns_at {al : List Addr} {G H : Hp} {v : V} {x : D} (R : Rep K tb al G c H) (d : Den K al G v x) (m : isIns C c x) : ∃ a dx fs, v = .ref a ∧ H a = some (.ins C dx fs) := by
  have vx := R.vw d
  unfold isIns at m
  split at m
  · rename_i e
    rw [e] at vx
    subst m
    cases vx with
    | ins h r => exact ⟨_, _, _, rfl, h⟩
  · cases m
theorem snd_callO (ha : SndE K tb W ta a) (hA : SndA K tb W tA mA) : SndE K tb W (tCallO C (SpG K tb F) (WE W) ta tA) (callO C F a mA) := by
  intro al G c H σ δ Ψ Φ Q g m q
  refine ha al G c H σ δ Ψ _ _ g m fun x c1 al1 G1 H1 v r1 l1 d1 m1 => ?_
  obtain ⟨i1, m1⟩ := m1
  obtain ⟨b, _, _, rfl, _⟩ := isIns_at r1 d1 i1
  refine ⟨b, rfl, hA al1 G1 c1 H1 σ δ Ψ _ _ (g.le r1 l1) m1 fun xs c2 al2 G2 H2 vs r2 l2 d2 m2 => ?_⟩
  obtain ⟨i2, m2⟩ := m2
  obtain ⟨b2, dx, fs, e2, h2⟩ := isIns_at r2 (d1.le l2) i2
  cases e2
  exact ⟨⟨dx, fs, h2⟩, al2, G2, c2, _, Ψ, Φ, r2, .cons (d1.le l2) d2, m2, q.le (l1.trans l2), g.thr.le (l1.trans l2)⟩
theorem e_callO (h : a δ c Ψ fun x c1 => isIns C c1 x ∧ mA δ c1 Ψ fun xs c2 => isIns C c2 x ∧ F (x :: xs) c2 Ψ Φ) : callO C F a mA δ c Ψ Φ := h
instance [ha : Ok (SndE K tb W ta a)] [hA : Ok (SndA K tb W tA mA)] : Ok (SndE K tb W (tCallO C (SpG K tb F) (WE W) ta tA) (callO C F a mA)) := ⟨snd_callO ha.ok hA.ok⟩
instance w_callO : M.W (callO C F a mA δ c Ψ Φ) (a δ c Ψ fun x c1 => isIns C c1 x ∧ mA δ c1 Ψ fun xs c2 => isIns C c2 x ∧ F (x :: xs) c2 Ψ Φ) := ⟨e_callO⟩
end
end M
set_option Elab.async false
set_option linter.all false
set_option maxRecDepth 100000
set_option maxHeartbeats 3900000
namespace M
open PySem PySem.Spec PyProof.Rows L2 G
def tListVals (te : TE) : TE := fun σ H Q => te σ H fun x H1 => ∃ d kvs, x = .ref d ∧ Rd H1 d (.dK kvs) ∧ kvs.length ≤ sizeLine ∧ ∀ p, H1 p = none → Q (.ref p) (upd H1 p (.lst (kvs.map (·.2))))
def tListItemsR (te : TE) : TE := fun σ H Q => te σ H fun x H1 => ∃ d kvs, x = .ref d ∧ Rd H1 d (.dK kvs) ∧ kvs.length ≤ sizeLine ∧
  ∀ (H' : Hp) (p : Addr) (ts : List Addr), (∀ b o, H1 b = some o → H' b = some o) → H1 p = none → (∀ t ∈ ts, H1 t = none) → p ∉ ts → H' p = some (.lst (ts.map V.ref)) → Paired (fun (t : Addr) (q : Key × V) => H' t = some (.tup [kV q.1, q.2])) ts kvs → Q (.ref p) H'
section
variable {K : PySem.W.Frag} {tb : List (Addr × Str)} {W : WX} {ta : TE} {a : ME} {δ : Env} {c : SH} {Ψ : XD} {Φ : QD}
def pairD (kv : Key × D) : D := .tup [keyOD kv.1, kv.2]
theorem new_items {al : List Addr} {G H H' : Hp} {c : SH} {p : Addr} {ts : List Addr} {kvs : List (Key × V)} {ds : List (Key × D)} (R : Rep K tb al G c H) (e : ∀ b o, H b = some o → H' b = some o) (hp : H p = none) (ht : ∀ t ∈ ts, H t = none)
    (hl : H' p = some (.lst (ts.map V.ref))) (hpr : Paired (fun (t : Addr) (q : Key × V) => H' t = some (.tup [kV q.1, q.2])) ts kvs) (dk : DenK K al G kvs ds) :
    ∃ G', Rep K tb al G' c H' ∧ Le al G c H al G' c H' ∧ Den K al G' (.ref p) (.lst (ds.map pairD)) := by
  have R' := R.grow e
  let S : Addr → Prop := fun b => b = p ∨ b ∈ ts
  have fresh : ∀ b, S b → H b = none := fun b h => h.elim (fun z => z ▸ hp) (ht b)
  have shape : ∀ b, S b → ∃ o, H' b = some o ∧ ∀ ps, o ≠ .tbl ps := fun b h => by
    rcases h with rfl | h
    · exact ⟨_, hl, nofun⟩
    · obtain ⟨_, y, _, _, h3⟩ := LiI.paired_ix hpr h
      exact ⟨_, h3, nofun⟩
  classical
  let G' : Hp := fun b => if S b then H' b else G b
  have gin : ∀ b, S b → G' b = H' b := fun b h => if_pos h
  have gout : ∀ b, ¬ S b → G' b = G b := fun b h => if_neg h
  have ex : Ex G G' := fun b u h => by
    have hn : ¬ S b := fun z => by
      have := R.sub b u h
      rw [fresh b z] at this
      cases this
    rw [gout b hn]
    exact h
  have rep : Rep K tb al G' c H' := { R' with
    sub := fun b u h => by
      by_cases z : S b
      · rw [gin b z] at h; exact h
      · rw [gout b z] at h; exact R'.sub b u h
    ent := fun k b s h1 h2 => Ent.ext (R'.ent k b s h1 h2) (fun _ _ => id) ex fun u hu => hu
    out := fun k b s h1 h2 h3 => by
      have hn : ¬ S b := fun z => by
        obtain ⟨u, hu, _⟩ := R.tak k b h1
        rw [fresh b z] at hu
        cases hu
      rw [gout b hn]
      exact R.out k b s h1 h2 h3
    gt := fun b ps h => by
      by_cases z : S b
      · rw [gin b z] at h
        obtain ⟨o, h1, h2⟩ := shape b z
        rw [h1] at h
        injection h with h
        exact h2 ps h
      · rw [gout b z] at h; exact R.gt b ps h }
  refine ⟨G', rep, ⟨fun _ _ h => h, ex, fun b o h _ _ => e b o h, fun b => .inl, fun b h o ho => h o (e b o ho), fun b o h => ?_, fun k b h => .inl ⟨k, h⟩⟩, ?_⟩
  · by_cases z : S b
    · exact .inr (.inl (.of (fresh b z)))
    · rw [gout b z] at h
      exact .inl ⟨o, h⟩
  · refine .lst (by rw [gin p (.inl rfl)]; exact hl) ?_
    have go : ∀ {ts : List Addr} {kvs : List (Key × V)} {ds : List (Key × D)}, (∀ t ∈ ts, S t) → Paired (fun (t : Addr) (q : Key × V) => H' t = some (.tup [kV q.1, q.2])) ts kvs → DenK K al G kvs ds → DenL K al G' (ts.map V.ref) (ds.map pairD) := by
      intro ts
      induction ts with
      | nil =>
        intro kvs ds _ h d
        cases h
        cases d
        exact .nil
      | cons t ts ih =>
        intro kvs ds hS h d
        cases h with
        | cons h r =>
          cases d with
          | cons hd rd =>
            exact .cons (.tup (by rw [gin t (hS t List.mem_cons_self)]; exact h) (.cons (keyOD_den _) (.cons (hd.mono (fun _ _ => id) ex) .nil))) (ih (fun t ht => hS t (List.mem_cons_of_mem _ ht)) r rd)
    exact go (fun t h => .inr h) hpr dk
def listVM (lv : Bool) (a : ME) : ME := fun δ c Ψ Φ => a δ c Ψ fun x c1 => match view c1 x with
  | .dic kvs => newL lv (kvs.map (·.2)) c1 Φ
  | _ => False
def listIM (a : ME) : ME := fun δ c Ψ Φ => a δ c Ψ fun x c1 => match view c1 x with
  | .dic kvs => kvs.length ≤ sizeLine ∧ Φ (.lst (kvs.map pairD)) c1
  | _ => False
theorem denK_vals {al : List Addr} {G : Hp} : ∀ {vs : List (Key × V)} {ds : List (Key × D)}, DenK K al G vs ds → DenL K al G (vs.map (·.2)) (ds.map (·.2))
  | _, _, .nil => .nil
  | _, _, .cons h r => .cons h (denK_vals r)
theorem snd_listV {lv : Bool} (ha : SndE K tb W ta a) : SndE K tb W (tListVals ta) (listVM lv a) := by
  intro al G c H σ δ Ψ Φ Q g m q
  refine ha al G c H σ δ Ψ _ _ g m fun x c1 al1 G1 H1 v r1 l1 d1 m1 => ?_
  have vx := r1.vw d1
  split at m1
  · rename_i kvs e
    rw [e] at vx
    cases vx with
    | dic h r =>
      refine ⟨_, _, rfl, h, ?_, fun p hp => newL_ok r1 hp (denK_vals r) m1 (q.le l1)⟩
      have := m1.1
      rw [List.length_map] at this
      rw [r.length]
      exact this
  · cases m1
theorem snd_listI (ha : SndE K tb W ta a) : SndE K tb W (tListItemsR ta) (listIM a) := by
  intro al G c H σ δ Ψ Φ Q g m q
  refine ha al G c H σ δ Ψ _ _ g m fun x c1 al1 G1 H1 v r1 l1 d1 m1 => ?_
  have vx := r1.vw d1
  split at m1
  · rename_i kvs e
    rw [e] at vx
    cases vx with
    | dic h r =>
      refine ⟨_, _, rfl, h, by rw [r.length]; exact m1.1, fun H' p ts e1 e2 e3 e4 e5 e6 => ?_⟩
      obtain ⟨G', R', L', D'⟩ := new_items r1 e1 e2 e3 e5 e6 r
      exact q _ c1 al1 G' H' _ R' (l1.trans L') D' m1.2
  · cases m1
def lvK (Φ : QD) (x : D) (c1 : SH) : Prop := match view c1 x with
  | .dic kvs => newL false (kvs.map (·.2)) c1 Φ
  | _ => False
def liK (Φ : QD) (x : D) (c1 : SH) : Prop := match view c1 x with
  | .dic kvs => kvs.length ≤ sizeLine ∧ Φ (.lst (kvs.map pairD)) c1
  | _ => False
theorem e_listV (h : a δ c Ψ (lvK Φ)) : listVM false a δ c Ψ Φ := h
theorem e_listI (h : a δ c Ψ (liK Φ)) : listIM a δ c Ψ Φ := h
instance [ha : Ok (SndE K tb W ta a)] {lv : Bool} : Ok (SndE K tb W (tListVals ta) (listVM lv a)) := ⟨snd_listV ha.ok⟩
instance [ha : Ok (SndE K tb W ta a)] : Ok (SndE K tb W (tListItemsR ta) (listIM a)) := ⟨snd_listI ha.ok⟩
instance : M.W (listVM false a δ c Ψ Φ) (a δ c Ψ (lvK Φ)) := ⟨e_listV⟩
instance : M.W (listIM a δ c Ψ Φ) (a δ c Ψ (liK Φ)) := ⟨e_listI⟩
end
end M
set_option Elab.async false
set_option linter.all false
set_option maxRecDepth 100000
set_option maxHeartbeats 3900000
namespace M
open PySem PySem.Spec PyProof.Rows L2 G
def tLenSetT (K : PySem.W.Frag) (ta : TE) : TE := fun σ H Q => ta σ H fun x H1 => ∃ (l : Addr) (ks : List (Addr × List Int)), x = .ref l ∧ SqL K H1 l (ks.map fun p => V.ref p.1) ∧ (∀ p ∈ ks, SqT K H1 p.1 (p.2.map V.int)) ∧ ks.length < 64 ∧
  ∀ L : List (List Int), L.Nodup → (∀ k, k ∈ L ↔ k ∈ ks.map (·.2)) → Q (.int (L.length : Nat)) H1
def tupsD : List D → Option (List (List Int))
  | [] => some []
  | .tup xs :: r => match intsD xs, tupsD r with
    | some ns, some l => some (ns :: l)
    | _, _ => none
  | _ => none
def lenSetTM (a : ME) : ME := fun δ c Ψ Φ => a δ c Ψ fun x c1 => match view c1 x with
  | .lst ys => match tupsD ys with
    | some ks => ks.length < 64 ∧ ∀ L : List (List Int), L.Nodup → (∀ k, k ∈ L ↔ k ∈ ks) → Φ (.int (L.length : Nat)) c1
    | none => False
  | _ => False
section
variable {K : PySem.W.Frag} {tb : List (Addr × Str)} {W : WX} {ta : TE} {a : ME} {δ : Env} {c : SH} {Ψ : XD} {Φ : QD}
theorem tups_den {al : List Addr} {G H : Hp} {c : SH} (R : Rep K tb al G c H) : ∀ {vs : List V} {ds : List D} {l : List (List Int)}, DenL K al G vs ds → tupsD ds = some l → ∃ ks : List (Addr × List Int), vs = ks.map (fun p => V.ref p.1) ∧ l = ks.map (·.2) ∧ ∀ p ∈ ks, SqT K H p.1 (p.2.map V.int)
  | _, _, _, .nil, e => by cases e; exact ⟨[], rfl, rfl, by simp⟩
  | _, _, _, .cons h r, e => by
    cases h with
    | tup h hd =>
      unfold tupsD at e
      split at e
      · rename_i ns l2 e1 e2
        cases e
        obtain ⟨ks, rfl, rfl, h3⟩ := tups_den R r e2
        rw [ints_den hd e1] at h
        refine ⟨(_, ns) :: ks, rfl, rfl, fun p hp => ?_⟩
        rcases List.mem_cons.mp hp with rfl | hp
        · exact .of (R.sub _ _ h)
        · exact h3 p hp
      · cases e
    | _ => cases e
theorem snd_lenSetT (ha : SndE K tb W ta a) : SndE K tb W (tLenSetT K ta) (lenSetTM a) := by
  intro al G c H σ δ Ψ Φ Q g m q
  refine ha al G c H σ δ Ψ _ _ g m fun x c1 al1 G1 H1 v r1 l1 d1 m1 => ?_
  have vx := r1.vw d1
  split at m1
  · rename_i ys e
    rw [e] at vx
    split at m1
    · rename_i ks e2
      cases vx with
      | lst h hd =>
        obtain ⟨kp, rfl, rfl, h3⟩ := tups_den r1 hd e2
        exact ⟨_, kp, rfl, .of h, h3, by have := m1.1; rwa [List.length_map] at this, fun L nd hm => q _ c1 al1 G1 H1 _ r1 l1 (.int _) (m1.2 L nd hm)⟩
    · cases m1
  · cases m1
def lstK (Φ : QD) (x : D) (c1 : SH) : Prop := match view c1 x with
  | .lst ys => match tupsD ys with
    | some ks => ks.length < 64 ∧ ∀ L : List (List Int), L.Nodup → (∀ k, k ∈ L ↔ k ∈ ks) → Φ (.int (L.length : Nat)) c1
    | none => False
  | _ => False
theorem e_lenSetT (h : a δ c Ψ (lstK Φ)) : lenSetTM a δ c Ψ Φ := h
instance [ha : Ok (SndE K tb W ta a)] : Ok (SndE K tb W (tLenSetT K ta) (lenSetTM a)) := ⟨snd_lenSetT ha.ok⟩
instance : M.W (lenSetTM a δ c Ψ Φ) (a δ c Ψ (lstK Φ)) := ⟨e_lenSetT⟩
def dclrM (a : ME) : ME := fun δ c Ψ Φ => a δ c Ψ fun x c1 => match x with
  | .obj k => (match c1[k]? with
    | some (.dic _) => Φ .non (c1.set k (.dic []))
    | _ => False)
  | _ => False
theorem snd_dclr (ha : SndE K tb W ta a) : SndE K tb W (tBM0 K "dict" rDClear ta) (dclrM a) := by
  intro al G c H σ δ Ψ Φ Q g m q
  refine ha al G c H σ δ Ψ _ _ g m fun x c1 al1 G1 H1 v r1 l1 d1 m1 => ?_
  split at m1
  · split at m1
    · rename_i k _ kvs hs
      cases d1 with
      | obj hk =>
        obtain ⟨vs, h1, h2⟩ := r1.ent k _ _ hk hs
        refine ⟨.inr (.inr (.inl ⟨rfl, .inl ⟨vs, h1⟩⟩)), _, vs, rfl, rfl, h1, ?_⟩
        have r4 := r1.change (u := .dK []) hk hs rfl (o := .dic []) ⟨_, upd_same, .nil⟩ rfl
        have l4 := Le.change (o := .dic []) r1 hk hs rfl (u := .dK []) nofun
        exact q .non _ al1 G1 _ .non r4 (l1.trans l4) .non m1
    · cases m1
  · cases m1
instance [ha : Ok (SndE K tb W ta a)] : Ok (SndE K tb W (tBM0 K "dict" rDClear ta) (dclrM a)) := ⟨snd_dclr ha.ok⟩
end
end M
set_option Elab.async false
set_option linter.all false
set_option maxRecDepth 100000
set_option maxHeartbeats 3900000
namespace M
open PySem PySem.Spec PyProof.Rows L2 G
section
variable {X : Cx} {K : PySem.W.Frag}
def rSame : R2 := fun x y H Q => ∃ a ks, x = .ref a ∧ y = .ref a ∧ Rd H a (.dK ks) ∧ Q (.bl true) H
inductive SameV : V → V → Prop
  | str (z : Str) : SameV (.str z) (.str z)
  | ref (a : Addr) : SameV (.ref a) (.ref a)
def rNeSL (K : PySem.W.Frag) : R2 := fun x y H Q => ∃ a b vs, x = .ref a ∧ y = .ref b ∧ SqL K H a vs ∧ SqL K H b vs ∧ (∀ v ∈ vs, SameV v v) ∧ Q (.bl false) H
end
def sameD (x y : D) (c : SH) (Φ : QD) : Prop := ∃ k kvs, x = .obj k ∧ y = .obj k ∧ view c (.obj k) = .dic kvs ∧ Φ (.bl true) c
def neSLD (x y : D) (c : SH) (Φ : QD) : Prop := ∃ xs, view c x = .lst xs ∧ view c y = .lst xs ∧ (∀ d ∈ xs, (∃ z, d = .str z) ∨ ∃ j, d = .obj j) ∧ Φ (.bl false) c
section
variable {K : PySem.W.Frag} {tb : List (Addr × Str)} {W : WX} {al : List Addr} {G : Hp}
theorem den_same {v w : V} {d : D} (h1 : Den K al G v d) (h2 : Den K al G w d) (h : (∃ z, d = .str z) ∨ ∃ j, d = .obj j) : v = w ∧ SameV v v := by
  rcases h with ⟨z, rfl⟩ | ⟨j, rfl⟩
  · cases h1
    cases h2
    exact ⟨rfl, .str _⟩
  · cases h1 with
    | obj h1 =>
      cases h2 with
      | obj h2 =>
        rw [h1] at h2
        cases h2
        exact ⟨rfl, .ref _⟩
theorem denL_same : ∀ {vs ws : List V} {ds : List D}, DenL K al G vs ds → DenL K al G ws ds → (∀ d ∈ ds, (∃ z, d = .str z) ∨ ∃ j, d = .obj j) → vs = ws ∧ ∀ v ∈ vs, SameV v v
  | _, _, _, .nil, .nil, _ => ⟨rfl, by simp⟩
  | _, _, _, .cons h1 r1, .cons h2 r2, h => by
    obtain ⟨rfl, s⟩ := den_same h1 h2 (h _ List.mem_cons_self)
    obtain ⟨rfl, s2⟩ := denL_same r1 r2 fun d hd => h d (List.mem_cons_of_mem _ hd)
    exact ⟨rfl, fun v hv => (List.mem_cons.mp hv).elim (fun e => e ▸ s) (s2 v)⟩
theorem dop_same : DOp K tb rSame sameD := by
  intro al G c H x y dx dy Φ Q R hx hy m q
  obtain ⟨k, kvs, rfl, rfl, e, m⟩ := m
  have vx := R.vw hx
  rw [e] at vx
  cases hx with
  | obj h1 =>
    cases hy with
    | obj h2 =>
      rw [h1] at h2
      cases h2
      cases vx with
      | dic h r => exact ⟨_, _, rfl, rfl, h, q _ c al G H _ R .refl (.bl _) m⟩
theorem dop_neSL : DOp K tb (rNeSL K) neSLD := by
  intro al G c H x y dx dy Φ Q R hx hy m q
  obtain ⟨xs, e1, e2, hs, m⟩ := m
  have vx := R.vw hx
  have vy := R.vw hy
  rw [e1] at vx
  rw [e2] at vy
  cases vx with
  | lst h1 r1 =>
    cases vy with
    | lst h2 r2 =>
      obtain ⟨rfl, s⟩ := denL_same r1 r2 hs
      exact ⟨_, _, _, rfl, rfl, .of h1, .of h2, s, q _ c al G H _ R .refl (.bl _) m⟩
def tAnyK (te : TE) : TE := fun σ H Q => te σ H Q ∨ tLk te σ H Q
def anyK (f : Bool → ME) : ME := fun δ c Ψ Φ => f true δ c Ψ Φ ∨ f false δ c Ψ Φ
theorem snd_anyK {te : TE} {f : Bool → ME} (h1 : SndE K tb W te (f true)) (h2 : SndE K tb W (tLk te) (f false)) : SndE K tb W (tAnyK te) (anyK f) := fun al G c H σ δ Ψ Φ Q g m q =>
  m.elim (fun z => .inl (h1 al G c H σ δ Ψ Φ Q g z q)) fun z => .inr (h2 al G c H σ δ Ψ Φ Q g z q)
instance : Ok (DOp K tb rSame sameD) := ⟨dop_same⟩
instance : Ok (DOp K tb (rNeSL K) neSLD) := ⟨dop_neSL⟩
instance {te : TE} {f : Bool → ME} [h1 : Ok (SndE K tb W te (f true))] [h2 : Ok (SndE K tb W (tLk te) (f false))] : Ok (SndE K tb W (tAnyK te) (anyK f)) := ⟨snd_anyK h1.ok h2.ok⟩
end
section
variable {X : Cx}
def rInK (fin : Bool → Bool) : R2 := fun x y H Q => ∃ a kvs k, x = kV k ∧ y = .ref a ∧ Rd H a (.dK kvs) ∧ Q (.bl (fin (valV kvs k).isSome)) H
theorem op_ninDk (hu : X.A.units + 1 < cLine) : OpR X (compareOp .NotIn) (rInK not) := by
  rintro pins s σ H x y v u Q I rx ry ⟨a, kvs, k, rfl, rfl, h, q⟩
  cases (show u = Value.ref a from ry)
  exact d_notIn hu I (.inl ⟨kvs, k, h, rfl, rfl⟩) rx fun s3 I3 => ⟨.bl (!(valV kvs k).isSome), H, I3, rfl, q⟩
end
def inKD (fin : Bool → Bool) (x y : D) (c : SH) (Φ : QD) : Prop := match view c y, keyD x with
  | .dic kvs, some k => Φ (.bl (fin (valD kvs k).isSome)) c
  | _, _ => False
section
variable {K : PySem.W.Frag} {tb : List (Addr × Str)}
theorem dop_inDk {fin : Bool → Bool} : DOp K tb (rInK fin) (inKD fin) := by
  intro al G c H x y dx dy Φ Q R hx hy m q
  have vy := R.vw hy
  unfold inKD at m
  split at m
  · rename_i kvs k e1 e2
    rw [e1] at vy
    cases vy with
    | @dic a vs _ h r =>
      refine ⟨_, vs, k, key_den hx e2, rfl, h, ?_⟩
      have e : (valV vs k).isSome = (valD kvs k).isSome := by
        cases hv : valD kvs k with
        | none => rw [r.val0 hv]; rfl
        | some d => obtain ⟨w, h1, _⟩ := r.val hv; rw [h1]; rfl
      rw [e]
      exact q _ c al G H _ R .refl (.bl _) m
  · cases m
instance {fin : Bool → Bool} : Ok (DOp K tb (rInK fin) (inKD fin)) := ⟨dop_inDk⟩
end
section
variable {X : Cx}
def rListK : List V → Hp → VK → Prop := fun xs H Q => ∃ a kvs, xs = [.ref a] ∧ Rd H a (.dK kvs) ∧ kvs.length ≤ sizeLine ∧ ∀ p, H p = none → Q (.ref p) (upd H p (.lst (kvs.map fun kv => kV kv.1)))
end
def listKD (lv : Bool) (xs : List D) (c : SH) (Φ : QD) : Prop := oneD xs fun x => match view c x with
  | .dic kvs => newL lv (kvs.map fun kv => keyOD kv.1) c Φ
  | _ => False
section
variable {K : PySem.W.Frag} {tb : List (Addr × Str)}
theorem denK_keys {al : List Addr} {G : Hp} : ∀ {vs : List (Key × V)} {ds : List (Key × D)}, DenK K al G vs ds → DenL K al G (vs.map fun kv => kV kv.1) (ds.map fun kv => keyOD kv.1)
  | _, _, .nil => .nil
  | _, _, .cons _ r => .cons (keyOD_den _) (denK_keys r)
theorem dc_listK {lv : Bool} : DCall K tb rListK (listKD lv) := by
  intro al G c H xs ds Φ Q R hd m q
  obtain ⟨x, v, rfl, rfl, dx, m2⟩ := oneD_of m hd
  have vx := R.vw dx
  split at m2
  · rename_i kvs e
    rw [e] at vx
    cases vx with
    | dic h r =>
      refine ⟨_, _, rfl, h, ?_, fun p hp => newL_ok R hp (denK_keys r) m2 q⟩
      have := m2.1
      rw [List.length_map] at this
      rw [r.length]
      exact this
  · cases m2
instance {lv : Bool} : Ok (DCall K tb rListK (listKD lv)) := ⟨dc_listK⟩
end
end M
set_option Elab.async false
set_option linter.all false
set_option maxRecDepth 100000
set_option maxHeartbeats 3900000
namespace M
open PySem PySem.Spec PyProof.Rows L2 G
def wLock (d : Addr) (od : Obj) (u : HO) (W : WX) : WX := fun cls dd σ H' => H' d = some (.frz od u) ∧ W cls dd σ (upd H' d u)
theorem takes_lock {X : Cx} {W : WX} {d : Addr} {od : Obj} {u : HO} (tk : Takes X W) (hn : ∀ o' u', X.H_0 d ≠ some (.frz o' u')) : Takes X (wLock d od u W) := fun v s' z => by
  obtain ⟨a, B, sI, pins, σ, H, cls, dd, e, I, nb, up, sky, na, os, ag, hd, w⟩ := z
  refine tk v s' ⟨a, B, sI, pins, σ, upd H d u, cls, dd, e, I.unlock hd hn, nb, up, sky, ?_, os, ag, w⟩
  rw [upd_ne (fun z => by rw [z, hd] at na; cases na)]
  exact na
def tLockX (t : WX → TS) (W : WX) : TS := fun D σ H => t W D σ H ∨ ∃ d u, H d = some u ∧ Mut (some u) ∧ ∀ od, t (wLock d od u W) ⟨fun σ' H' => H' d = some (.frz od u) ∧ D.nx σ' (upd H' d u), fun v H' => H' d = some (.frz od u) ∧ D.rt v (upd H' d u), fun σ' H' => H' d = some (.frz od u) ∧ D.bk σ' (upd H' d u), fun σ' H' => H' d = some (.frz od u) ∧ D.ct σ' (upd H' d u)⟩ σ (upd H d (.frz od u))
theorem ps_lockX {X : Cx} {W : WX} {st : Stmt} {t : WX → TS} (h : ∀ V, Takes X V → PS X st (t V)) (tk : Takes X W) : PS X st (tLockX t W) := by
  refine ⟨fun pins s σ H D I hw => ?_⟩
  rcases hw with hw | ⟨d, u, hd, mu, hw⟩
  · exact (h W tk).run pins s σ H D I hw
  obtain ⟨od, I1⟩ := I.lock hd mu
  refine thn ((h _ (takes_lock tk (I.nofrz hd mu))).run pins s σ _ _ I1 (hw od)) fun f s1 q => ?_
  cases f with
  | next => obtain ⟨σ', H', I2, e, q⟩ := q; exact ⟨σ', _, I2.unlock e (I.nofrz hd mu), q⟩
  | brk => obtain ⟨σ', H', I2, e, q⟩ := q; exact ⟨σ', _, I2.unlock e (I.nofrz hd mu), q⟩
  | cont => obtain ⟨σ', H', I2, e, q⟩ := q; exact ⟨σ', _, I2.unlock e (I.nofrz hd mu), q⟩
  | ret v => obtain ⟨x, σ', H', I2, r, e, q⟩ := q; exact ⟨x, σ', _, I2.unlock e (I.nofrz hd mu), r, q⟩
def lkE (k : Nat) (ob : Obj) (vs : List (Key × V)) (kvs : List (Key × D)) (e : EndsD) : EndsD where
  nx δ' c' := c'[k]? = some (.lck ob vs kvs) ∧ e.nx δ' (c'.set k (.dic kvs))
  rt d c' := c'[k]? = some (.lck ob vs kvs) ∧ e.rt d (c'.set k (.dic kvs))
  bk δ' c' := c'[k]? = some (.lck ob vs kvs) ∧ e.bk δ' (c'.set k (.dic kvs))
  ct δ' c' := c'[k]? = some (.lck ob vs kvs) ∧ e.ct δ' (c'.set k (.dic kvs))
  xc C f d δ' c' := c'[k]? = some (.lck ob vs kvs) ∧ e.xc C f d δ' (c'.set k (.dic kvs))
def lockM (m : MS) : MS := fun δ c e => m δ c e ∨ ∃ k kvs, c[k]? = some (.dic kvs) ∧ ∀ ob vs, m δ (c.set k (.lck ob vs kvs)) (lkE k ob vs kvs e)
section
variable {K : PySem.W.Frag} {tb : List (Addr × Str)} {W : WX} {t : WX → TS} {m : MS} {ta : TE} {a : ME}
theorem unlk {al' : List Addr} {G' : Hp} {c' : SH} {H' : Hp} {k : Nat} {p : Addr} {ob : Obj} {vs : List (Key × V)} {kvs : List (Key × D)} (R' : Rep K tb al' G' c' H') (hk : al'[k]? = some p) (hs : c'[k]? = some (.lck ob vs kvs)) :
    H' p = some (.frz ob (.dK vs)) ∧ Rep K tb al' G' (c'.set k (.dic kvs)) (upd H' p (.dK vs)) ∧ Le al' G' c' H' al' G' (c'.set k (.dic kvs)) (upd H' p (.dK vs)) := by
  obtain ⟨h1, h2⟩ := R'.ent k p _ hk hs
  exact ⟨h1, R'.change (u := .dK vs) hk hs rfl (o := .dic kvs) ⟨vs, upd_same, h2⟩ rfl, Le.change R' hk hs rfl nofun⟩
theorem snd_lock (hb : ∀ V, SndS K tb V (t V) m) : SndS K tb W (tLockX t W) (lockM m) := by
  intro al G c H σ δ e D R s mm q
  rcases mm with mm | ⟨k, kvs, hs, mm⟩
  · exact .inl (hb W al G c H σ δ e D R s mm q)
  have hkl := (List.getElem?_eq_some_iff.mp hs).1
  obtain ⟨p, hk⟩ : ∃ p, al[k]? = some p := ⟨al[k]'(by rw [R.len]; exact hkl), List.getElem?_eq_getElem _⟩
  obtain ⟨vs, h1, h2⟩ := R.ent k p _ hk hs
  refine .inr ⟨p, .dK vs, h1, trivial, fun od => ?_⟩
  have r2 := R.change (u := .frz od (.dK vs)) hk hs rfl (o := .lck od vs kvs) ⟨upd_same, h2⟩ rfl
  have l2 := Le.change (o := .lck od vs kvs) R hk hs rfl (u := .frz od (.dK vs)) nofun
  refine hb _ al G _ _ σ δ _ _ r2 (s.le l2) (mm od vs) ⟨?_, ?_, ?_, ?_, ?_⟩
  · rintro δ' c' al' G' H' σ' R' l' s' ⟨e1, e2⟩
    obtain ⟨h3, r3, l3⟩ := unlk R' (l'.ad _ _ hk) e1
    exact ⟨h3, q.nx δ' _ al' G' _ σ' r3 ((l2.trans l').trans l3) (s'.le l3) e2⟩
  · rintro d c' al' G' H' v R' l' dn ⟨e1, e2⟩
    obtain ⟨h3, r3, l3⟩ := unlk R' (l'.ad _ _ hk) e1
    exact ⟨h3, q.rt d _ al' G' _ v r3 ((l2.trans l').trans l3) (dn.le l3) e2⟩
  · rintro δ' c' al' G' H' σ' R' l' s' ⟨e1, e2⟩
    obtain ⟨h3, r3, l3⟩ := unlk R' (l'.ad _ _ hk) e1
    exact ⟨h3, q.bk δ' _ al' G' _ σ' r3 ((l2.trans l').trans l3) (s'.le l3) e2⟩
  · rintro δ' c' al' G' H' σ' R' l' s' ⟨e1, e2⟩
    obtain ⟨h3, r3, l3⟩ := unlk R' (l'.ad _ _ hk) e1
    exact ⟨h3, q.ct δ' _ al' G' _ σ' r3 ((l2.trans l').trans l3) (s'.le l3) e2⟩
  · rintro C f d δ' c' al' G' H' dd v σ' R' l' s' fr hd den ⟨e1, e2⟩
    obtain ⟨h3, r3, l3⟩ := unlk R' (l'.ad _ _ hk) e1
    have ne : dd ≠ p := fun z => by rw [z, h3] at hd; cases hd
    refine ⟨h3, q.xc C f d δ' _ al' G' _ dd v σ' r3 ((l2.trans l').trans l3) (s'.le l3) (fun o ho => fr o (by rw [upd_ne ne]; exact ho)) (by rw [upd_ne ne]; exact hd) (den.le l3) e2⟩
def itemsLM (a : ME) : MI := fun δ c Ψ Φ => a δ c Ψ fun x c1 => match x with
  | .dic kvs => Φ (kvs.map pairD) (fun _ => True) c1
  | .obj k => (match c1[k]? with
    | some (.lck ob vs kvs) => Φ (kvs.map pairD) (fun c' => c'[k]? = some (.lck ob vs kvs)) c1
    | _ => False)
  | _ => False
theorem snd_itemsL (ha : SndE K tb W ta a) : SndI K tb W (iItems ta) (itemsLM a) := by
  intro al G c H σ δ Ψ Φ R g m q
  refine ha al G c H σ δ Ψ _ _ g m fun x c1 al1 G1 H1 v r1 l1 d1 m1 => ?_
  split at m1
  · rename_i kvs
    cases d1 with
    | dic h r =>
      refine ⟨_, _, _, rfl, r1.sub _ _ h, q _ _ c1 al1 G1 H1 _ r1 l1 ⟨fun i y al2 G2 c2 H2 hy r2 l2 _ => ⟨r2.sub _ _ (l2.g _ _ h), ?_⟩, fun i y al2 G2 c2 H2 u H' hy r2 l2 _ yl => ?_, fun al2 G2 c2 H2 r2 l2 _ => ⟨r2.sub _ _ (l2.g _ _ h), ?_⟩⟩ m1⟩
      · have := (List.getElem?_eq_some_iff.mp hy).1
        rw [List.length_map] at this
        rw [r.length]
        exact this
      · rw [List.getElem?_map] at hy
        obtain ⟨⟨k, d⟩, h1, h2⟩ := Option.map_eq_some_iff.mp hy
        cases h2
        obtain ⟨w, h3, h4⟩ := r.get h1
        obtain ⟨T, k', v', hk, rfl, hT, rfl⟩ := yl
        rw [h3] at hk
        cases hk
        obtain ⟨p1, p2, p3⟩ := pair_new (vs := [kV k, w]) (ds := [keyOD k, d]) r2 hT (.cons (keyOD_den k) (.cons (h4.le l2) .nil))
        exact ⟨_, p1, p2, p3⟩
      · rw [List.length_map, r.length]
        exact Nat.le_refl _
  · rename_i k
    split at m1
    · rename_i ob vs kvs hs
      cases d1 with
      | obj hk =>
        obtain ⟨h, r⟩ := r1.ent k _ _ hk hs
        refine ⟨_, _, _, rfl, h, q _ _ c1 al1 G1 H1 _ r1 l1 ⟨fun i y al2 G2 c2 H2 hy r2 l2 gd => ⟨(r2.ent k _ (.lck ob vs kvs) (l2.ad _ _ hk) gd).1, ?_⟩, fun i y al2 G2 c2 H2 u H' hy r2 l2 _ yl => ?_, fun al2 G2 c2 H2 r2 l2 gd => ⟨(r2.ent k _ (.lck ob vs kvs) (l2.ad _ _ hk) gd).1, ?_⟩⟩ m1⟩
        · have := (List.getElem?_eq_some_iff.mp hy).1
          rw [List.length_map] at this
          rw [r.length]
          exact this
        · rw [List.getElem?_map] at hy
          obtain ⟨⟨k, d⟩, h1, h2⟩ := Option.map_eq_some_iff.mp hy
          cases h2
          obtain ⟨w, h3, h4⟩ := r.get h1
          obtain ⟨T, k', v', hk, rfl, hT, rfl⟩ := yl
          rw [h3] at hk
          cases hk
          obtain ⟨p1, p2, p3⟩ := pair_new (vs := [kV k, w]) (ds := [keyOD k, d]) r2 hT (.cons (keyOD_den k) (.cons (h4.le l2) .nil))
          exact ⟨_, p1, p2, p3⟩
        · rw [List.length_map, r.length]
          exact Nat.le_refl _
    · cases m1
  · cases m1
instance {t : WX → TS} [h : ∀ V, Ok (SndS K tb V (t V) m)] : Ok (SndS K tb W (tLockX t W) (lockM m)) := ⟨snd_lock fun V => (h V).ok⟩
instance [ha : Ok (SndE K tb W ta a)] : Ok (SndI K tb W (iItems ta) (itemsLM a)) := ⟨snd_itemsL ha.ok⟩
end
theorem e_lock1 {m : MS} {δ : Env} {c : SH} {e : EndsD} {k : Nat} {kvs : List (Key × D)} (hs : c[k]? = some (.dic kvs)) (h : ∀ ob vs, m δ (c.set k (.lck ob vs kvs)) (lkE k ob vs kvs e)) : lockM m δ c e := .inr ⟨k, kvs, hs, h⟩
end M
set_option Elab.async false
set_option linter.all false
set_option maxRecDepth 100000
set_option maxHeartbeats 3900000
namespace M
open PySem PySem.Spec PyProof.Rows L2 G
/-- [item for target in iter if ..], the item may throw: W, the wish at the outer slots -/
def tLcX (wi : TI) (g : TG) (tt : TT) (te : WX → TE) (vs : List Nat) (W : WX) : TE := fun σ H Q => wi σ H fun J H1 => ∀ D, H1 D = none → ∃ Y : Nat → Nat → Hp → Prop, (∃ m, Y 0 m (upd H1 D (.lst []))) ∧ ∀ i m H, Y i m H →
  (J.stop i H ∧ Q (.ref D) H) ∨ (J.go i H ∧ ∃ Nx : Hp → Prop, (∀ H', Nx H' → ∃ m', m' < m ∧ Y (i + 1) m' H') ∧ ∀ x H', J.yld i H x H' → g x (wipe σ vs) H' fun σ2 H2 => wipe σ2 vs = wipe σ vs ∧ tt σ2 H2 fun b H3 =>
    if b = true then te (fun cls d _ H' => W cls d σ H') σ2 H3 fun y H4 => ∃ acc, H4 D = some (.lst acc) ∧ acc.length < sizeLine ∧ Nx (upd H4 D (.lst (acc ++ [y]))) else Nx H3)
def turnDX (g : MG) (t : MT) (e : ME) (δ : Env) (Ψ : XD) : D → SH → (Option D → SH → Prop) → Prop := fun x c k => g x δ c noX fun δ2 c2 => t δ2 c2 noX fun b c3 => if b = true then e δ2 c3 Ψ fun y c4 => k (some y) c4 else k none c3
def lcXM (lv : Bool) (i : MI) (g : MG) (t : MT) (e : ME) (vs : List Nat) : ME := fun δ c Ψ Φ => i δ c Ψ fun xs gd c1 => lcD gd (turnDX g t e (wipeD δ vs) Ψ) xs [] c1 (endL lv Φ)
section
variable {K : PySem.W.Frag} {tb : List (Addr × Str)} {W : WX}
theorem snd_lcX {lv : Bool} {wi : TI} {mi : MI} {g : TG} {mg : MG} {tt : TT} {mt : MT} {te : WX → TE} {me : ME} {vs : List Nat} (hi : SndI K tb W wi mi) (hg : SndGO K tb W0 vs g mg) (ht : SndT K tb W0 tt mt) (he : ∀ V, SndE K tb V (te V) me) : SndE K tb W (tLcX wi g tt te vs W) (lcXM lv mi mg mt me vs) := by
  intro al G c H σ δ Ψ Φ Q go m q
  refine hi al G c H σ δ Ψ _ _ go m fun xs gd c1 al1 G1 H1 J r1 l1 it m1 => ?_
  intro D hD
  have e1 : SRel K al1 G1 σ δ := go.env.le l1
  have th1 := go.thr.le l1
  refine ⟨fun i n H2 => n = xs.length - i ∧ i ≤ xs.length ∧ ∃ al2 G2 c2 acc avs, Rep K tb al2 G2 c2 H2 ∧ Le al1 G1 c1 H1 al2 G2 c2 H2 ∧ Apart al2 G2 c2 D ∧ H2 D = some (.lst avs) ∧ DenL K al2 G2 avs acc ∧ lcD gd (turnDX mg mt me (wipeD δ vs) Ψ) (xs.drop i) acc c2 (endL lv Φ), ⟨_, rfl, Nat.zero_le _, al1, G1, c1, [], [], r1.grow (Ex.new hD), Le.grow (Ex.new hD), Apart.new r1 hD, upd_same, .nil, m1⟩, ?_⟩
  rintro i n H2 ⟨rfl, hle, al2, G2, c2, acc, avs, r2, l2, ap2, h2, d2, m2⟩
  by_cases hlt : i < xs.length
  · rw [drop_get hlt] at m2
    obtain ⟨hgd, m2⟩ := m2
    have hx : xs[i]? = some xs[i] := List.getElem?_eq_getElem hlt
    refine .inr ⟨it.go i _ al2 G2 c2 H2 hx r2 l2 hgd, fun H3 => ∃ al3 G3 c3 acc3 avs3, Rep K tb al3 G3 c3 H3 ∧ Le al1 G1 c1 H1 al3 G3 c3 H3 ∧ Apart al3 G3 c3 D ∧ H3 D = some (.lst avs3) ∧ DenL K al3 G3 avs3 acc3 ∧ lcD gd (turnDX mg mt me (wipeD δ vs) Ψ) (xs.drop (i + 1)) acc3 c3 (endL lv Φ), ?_, ?_⟩
    · rintro H3 ⟨al3, G3, c3, acc3, avs3, r3⟩
      exact ⟨xs.length - (i + 1), by omega, rfl, hlt, al3, G3, c3, acc3, avs3, r3⟩
    · intro v H' y
      obtain ⟨G', r', l', d'⟩ := it.yl i _ al2 G2 c2 H2 v H' hx r2 l2 hgd y
      obtain ⟨ap', h'⟩ := ap2.le h2 nofun l'
      have go' : Go K tb al2 G' c2 H' W0 (wipe σ vs) (wipeD δ vs) noX := ⟨r', ((e1.le l2).le l').wipe vs, thr0⟩
      refine hg al2 G' c2 H' _ _ noX v _ _ _ go' d' m2 fun δ3 c3 al3 G3 H3 σ3 r3 l3 s3 w3 m3 => ?_
      rw [wipe_wipe] at w3
      refine ⟨w3, ?_⟩
      have go3 : Go K tb al3 G3 c3 H3 W0 σ3 δ3 noX := ⟨r3, s3, thr0⟩
      refine ht al3 G3 c3 H3 σ3 δ3 noX _ _ go3 m3 fun b c4 al4 G4 H4 r4 l4 m4 => ?_
      have l24 := (l'.trans l3).trans l4
      cases b with
      | false =>
        obtain ⟨ap4, h4⟩ := ap2.le h2 nofun l24
        refine iteF ⟨al4, G4, c4, acc, avs, r4, l2.trans l24, ap4, h4, d2.le l24, ?_⟩
        have := m4.2
        rwa [Option.toList_none, List.append_nil] at this
      | true =>
        have go4 : Go K tb al4 G4 c4 H4 (fun cls d _ H' => W cls d σ H') σ3 δ3 Ψ := ⟨r4, s3.le l4, th1.le (l2.trans l24)⟩
        refine iteT (he _ al4 G4 c4 H4 σ3 δ3 Ψ _ _ go4 m4 fun y c5 al5 G5 H5 w r5 l5 d5 m5 => ?_)
        have l25 := l24.trans l5
        obtain ⟨ap5, h5⟩ := ap2.le h2 nofun l25
        have hl := m5.1
        refine ⟨avs, h5, by rw [d2.length]; exact hl, al5, G5, c5, acc ++ [y], avs ++ [w], r5.foreign h5 nofun nofun ap5.g ap5.liv ap5.k, (l2.trans l25).foreign (.of hD) nofun, ap5, upd_same, (d2.le l25).append (.cons d5 .nil), m5.2⟩
  · have hi2 : i = xs.length := by omega
    subst hi2
    rw [List.drop_length] at m2
    obtain ⟨hgd, m2⟩ := m2
    refine .inl ⟨it.st al2 G2 c2 H2 r2 l2 hgd, ?_⟩
    unfold endL at m2
    cases lv with
    | false =>
      rw [if_neg (by decide)] at m2
      obtain ⟨r3, ex⟩ := r2.adopt h2 ap2.liv nofun
      exact q (.lst acc) c2 al2 _ H2 (.ref D) r3 (l1.trans (l2.adopt h2 ex (.of hD))) (.lst upd_same (d2.mono (fun _ _ => id) ex)) m2
    | true =>
      rw [if_pos rfl] at m2
      obtain ⟨r3, _, k3⟩ := r2.own ap2 h2 nofun (o := .lst acc) ⟨avs, h2, d2.mono (fun _ _ => app_get) (Ex.refl _)⟩ rfl
      exact q (.obj c2.length) _ _ G2 H2 (.ref D) r3 (l1.trans (l2.own r2 (.of hD))) (.obj k3) m2
theorem snd_lcXE {lv : Bool} {wi : TI} {mi : MI} {g : TG} {mg : MG} {tt : TT} {mt : MT} {te : WX → TE} {me : ME} {vs vs' : List Nat} (e : vs' = vs) (hi : SndI K tb W wi mi) (hg : SndGO K tb W0 vs g mg) (ht : SndT K tb W0 tt mt) (he : ∀ V, SndE K tb V (te V) me) : SndE K tb W (tLcX wi g tt te vs' W) (lcXM lv mi mg mt me vs) := by
  subst e
  exact snd_lcX hi hg ht he
instance {lv : Bool} {wi : TI} {mi : MI} {g : TG} {mg : MG} {tt : TT} {mt : MT} {te : WX → TE} {me : ME} {vs vs' : List Nat} [e : Ok (vs' = vs)] [hi : Ok (SndI K tb W wi mi)] [hg : Ok (SndGO K tb (fun _ _ _ _ => False) vs g mg)] [ht : Ok (SndT K tb (fun _ _ _ _ => False) tt mt)] [he : ∀ V, Ok (SndE K tb V (te V) me)] : Ok (SndE K tb W (tLcX wi g tt te vs' W) (lcXM lv mi mg mt me vs)) := ⟨snd_lcXE e.ok hi.ok hg.ok ht.ok fun V => (he V).ok⟩
end
theorem e_lcX {lv : Bool} {mi : MI} {g : MG} {t : MT} {a : ME} {vs : List Nat} {δ : Env} {c : SH} {Ψ : XD} {Φ : QD} (h : mi δ c Ψ fun xs gd c1 => lcD gd (turnDX g t a (wipeD δ vs) Ψ) xs [] c1 (endL lv Φ)) : lcXM lv mi g t a vs δ c Ψ Φ := h
theorem e_turnX {g : MG} {t : MT} {a : ME} {δ : Env} {x : D} {c : SH} {Ψ : XD} {k : Option D → SH → Prop} (h : g x δ c noX fun δ2 c2 => t δ2 c2 noX fun b c3 => if b = true then a δ2 c3 Ψ fun y c4 => k (some y) c4 else k none c3) : turnDX g t a δ Ψ x c k := h
instance {lv : Bool} {mi : MI} {g : MG} {t : MT} {a : ME} {vs : List Nat} {δ : Env} {c : SH} {Ψ : XD} {Φ : QD} : M.W (lcXM lv mi g t a vs δ c Ψ Φ) (mi δ c Ψ fun xs gd c1 => lcD gd (turnDX g t a (wipeD δ vs) Ψ) xs [] c1 (endL lv Φ)) := ⟨e_lcX⟩
instance {g : MG} {t : MT} {a : ME} {δ : Env} {x : D} {c : SH} {Ψ : XD} {k : Option D → SH → Prop} : M.W (turnDX g t a δ Ψ x c k) (g x δ c noX fun δ2 c2 => t δ2 c2 noX fun b c3 => if b = true then a δ2 c3 Ψ fun y c4 => k (some y) c4 else k none c3) := ⟨e_turnX⟩
end M
set_option Elab.async false
set_option linter.all false
set_option maxRecDepth 100000
set_option maxHeartbeats 3900000
namespace M
open PySem PySem.Spec PyProof.Rows L2 G
def absD (xs : List D) (c : SH) (Φ : QD) : Prop := oneD xs fun x => match x with
  | .int i => Φ (.int (if i < 0 then -i else i)) c
  | _ => False
def rAbs : List V → Hp → VK → Prop := fun xs H Q => ∃ i, xs = [.int i] ∧ Q (.int (if i < 0 then -i else i)) H
theorem call_absI {X : Cx} : CallR X (.builtin "abs") rAbs := call_abs
def rGt2 (K : PySem.W.Frag) : R2 := fun x y H Q => ∃ (a b : Addr) (x1 x2 y1 y2 : Int), x = .ref a ∧ y = .ref b ∧ SqT K H a [.int x1, .int x2] ∧ SqT K H b [.int y1, .int y2] ∧ Q (.bl (decide (y1 < x1 ∨ (x1 = y1 ∧ y2 < x2)))) H
def gt2D (x y : D) (c : SH) (Φ : QD) : Prop := match x, y with
  | .tup [.int x1, .int x2], .tup [.int y1, .int y2] => Φ (.bl (decide (y1 < x1 ∨ (x1 = y1 ∧ y2 < x2)))) c
  | _, _ => False
section
variable {K : PySem.W.Frag} {tb : List (Addr × Str)}
theorem dc_abs : DCall K tb rAbs absD := by
  intro al G c H xs ds Φ Q R hd m q
  obtain ⟨x, v, rfl, rfl, dx, m2⟩ := oneD_of m hd
  split at m2
  · cases dx
    exact ⟨_, rfl, q _ c al G H _ R .refl (.int _) m2⟩
  · cases m2
theorem tup2_den {al : List Addr} {G H : Hp} {c : SH} {v : V} {x1 x2 : Int} (R : Rep K tb al G c H) (h : Den K al G v (.tup [.int x1, .int x2])) : ∃ a, v = .ref a ∧ SqT K H a [.int x1, .int x2] := by
  cases h with
  | tup h r =>
    cases r with
    | cons h1 r => cases r with
      | cons h2 r => cases r with
        | nil =>
          cases h1
          cases h2
          exact ⟨_, rfl, .of (R.sub _ _ h)⟩
theorem dop_gt2 : DOp K tb (rGt2 K) gt2D := by
  intro al G c H x y dx dy Φ Q R hx hy m q
  unfold gt2D at m
  split at m
  · obtain ⟨a, rfl, ha⟩ := tup2_den R hx
    obtain ⟨b, rfl, hb⟩ := tup2_den R hy
    exact ⟨a, b, _, _, _, _, rfl, rfl, ha, hb, q _ c al G H _ R .refl (.bl _) m⟩
  · cases m
instance : Ok (DCall K tb rAbs absD) := ⟨dc_abs⟩
instance : Ok (DOp K tb (rGt2 K) gt2D) := ⟨dop_gt2⟩
end
theorem e_abs {i : Int} {c : SH} {Φ : QD} (q : Φ (.int (if i < 0 then -i else i)) c) : absD [.int i] c Φ := q
instance {i : Int} {c : SH} {Φ : QD} : M.W (absD [.int i] c Φ) (Φ (.int (if i < 0 then -i else i)) c) := ⟨e_abs⟩
theorem e_gt2 {x1 x2 y1 y2 : Int} {c : SH} {Φ : QD} (q : Φ (.bl (decide (y1 < x1 ∨ (x1 = y1 ∧ y2 < x2)))) c) : gt2D (.tup [.int x1, .int x2]) (.tup [.int y1, .int y2]) c Φ := q
instance {x1 x2 y1 y2 : Int} {c : SH} {Φ : QD} : M.W (gt2D (.tup [.int x1, .int x2]) (.tup [.int y1, .int y2]) c Φ) (Φ (.bl (decide (y1 < x1 ∨ (x1 = y1 ∧ y2 < x2)))) c) := ⟨e_gt2⟩
end M
set_option Elab.async false
set_option linter.all false
set_option maxRecDepth 100000
set_option maxHeartbeats 3900000
namespace PySem
end PySem
set_option Elab.async false
set_option linter.all false
set_option maxRecDepth 100000
set_option maxHeartbeats 3900000
namespace M
open PySem PySem.Spec PyProof.Rows L2 G
section
variable {X : Cx} {C fI : Addr} {cn f : Str}
/-- what makes an exception, as a value -/
def tOfMk (C : Addr) (t : L2.St → Hp → XK → Prop) : TE := fun σ H Q => t σ H fun cls d H' => cls = .ref C ∧ ∀ a, H' a = none → Q (.ref a) (upd H' a (ExV C d a))
/-- cn(e) -/
def tMkV (C : Addr) (f : Str) (ta : TA) : TE := tOfMk C (tMkE C f ta)
/-- cn() -/
def tMk0 (C : Addr) : TE := fun σ H Q => ∀ a, H a = none → Q (.ref a) (upd H a (ExV C none a))
/-- e.f -/
def tGetV (C : Addr) (f : Str) (te : TE) : TE := fun σ H Q => te σ H fun x H1 => ∃ (a dd : Addr) (v : V), x = .ref a ∧ H1 a = some (ExV C (some dd) a) ∧ H1 dd = some (.xd [(f, v)]) ∧ Q v H1
end
def rIsV (K : PySem.W.Frag) : List V → Hp → VK → Prop := fun xs H Q => ∃ (a C : Addr) (od : Option Addr) (c : V) (cv : Value) (b : Bool), xs = [.ref a, c] ∧ H a = some (ExV C od a) ∧ (∀ dd, od = some dd → ∃ fs, H dd = some (.xd fs)) ∧ L2.ExcC K C ∧ ClsV c cv ∧ PySem.W.kitOne K (.ref C) cv = some b ∧ Q (.bl b) H
def mkVM (C : Addr) (f : Str) (A : MA) : ME := fun δ c Ψ Φ => A δ c Ψ fun xs c1 => oneD xs fun x => Φ (.exc C [(f, x)]) c1
def mk0M (C : Addr) : ME := fun _ c _ Φ => Φ (.exc C []) c
def getVM (C : Addr) (f : Str) (a : ME) : ME := fun δ c Ψ Φ => a δ c Ψ fun x c1 => match x with
  | .exc C' [(g, d)] => C' = C ∧ g = f ∧ Φ d c1
  | _ => False
def isVD (K : PySem.W.Frag) (xs : List D) (c : SH) (Φ : QD) : Prop := twoD xs fun x y => match x with
  | .exc C _ => L2.ExcC K C ∧ (match clD y with
    | some u => ∃ b, PySem.W.kitOne K (.ref C) u = some b ∧ Φ (.bl b) c
    | none => False)
  | _ => False
section
variable {K : PySem.W.Frag} {tb : List (Addr × Str)} {W : WX} {C : Addr} {f : Str} {ta : TE} {a : ME} {tA : TA} {mA : MA}
theorem snd_mkV (hA : SndA K tb W tA mA) : SndE K tb W (tMkV C f tA) (mkVM C f mA) := by
  intro al G c H σ δ Ψ Φ Q g m q
  refine hA al G c H σ δ Ψ _ _ g m fun xs c1 al1 G1 H1 vs r1 l1 d1 m1 => ?_
  obtain ⟨x, v, rfl, rfl, dx, m2⟩ := oneD_of m1 d1
  refine ⟨v, rfl, fun dd hd => ⟨rfl, fun p hp => ?_⟩⟩
  have hg := r1.fresh hd
  have r2 := r1.data (o := .xd [(f, v)]) hd nofun
  have hg2 := r2.fresh hp
  have r3 := r2.data (o := ExV C (some dd) p) hp nofun
  have ne : dd ≠ p := fun z => by rw [← z, upd_same] at hp; cases hp
  have l3 := (l1.trans (Le.data (o := .xd [(f, v)]) hd hg nofun)).trans (Le.data (o := ExV C (some dd) p) hp hg2 nofun)
  refine q (.exc C [(f, x)]) c1 al1 _ _ (.ref p) r3 l3 (.exc (vs := [(f, v)]) upd_same (fun d e => ?_) (fun e => nomatch e) (.cons (dx.mono (fun _ _ => id) ((Ex.new hg).trans (Ex.new hg2))) .nil)) m2
  cases e
  rw [upd_ne ne, upd_same]
theorem snd_mk0 : SndE K tb W (tMk0 C) (mk0M C) := by
  intro al G c H σ δ Ψ Φ Q g m q p hp
  have hg := g.rep.fresh hp
  exact q (.exc C []) c al _ _ (.ref p) (g.rep.data (o := ExV C none p) hp nofun) (Le.data (o := ExV C none p) hp hg nofun) (.exc upd_same (fun d e => nomatch e) (fun _ => rfl) .nil) m
theorem snd_getV (ha : SndE K tb W ta a) : SndE K tb W (tGetV C f ta) (getVM C f a) := by
  intro al G c H σ δ Ψ Φ Q g m q
  refine ha al G c H σ δ Ψ _ _ g m fun x c1 al1 G1 H1 v r1 l1 d1 m1 => ?_
  split at m1
  · obtain ⟨rfl, rfl, m2⟩ := m1
    cases d1 with
    | exc h1 h2 h3 r =>
      rename_i a od vs
      cases r with
      | cons hv rr =>
        rename_i w us
        cases rr
        cases od with
        | none => cases h3 rfl
        | some dd => exact ⟨a, dd, w, rfl, r1.sub _ _ h1, r1.sub _ _ (h2 dd rfl), q _ c1 al1 G1 H1 _ r1 l1 hv m2⟩
  · cases m1
theorem dc_isV : DCall K tb (rIsV K) (isVD K) := by
  intro al G c H xs ds Φ Q R hd m q
  obtain ⟨x, y, v, u, rfl, rfl, dx, dy, m2⟩ := twoD_of m hd
  split at m2
  · obtain ⟨Z, m3⟩ := m2
    split at m3
    · rename_i cv e
      obtain ⟨b, hk, m4⟩ := m3
      cases dx with
      | exc h1 h2 h3 r => exact ⟨_, _, _, _, _, b, rfl, R.sub _ _ h1, fun dd e => ⟨_, R.sub _ _ (h2 dd e)⟩, Z, cl_den dy e, hk, q _ c al G H _ R .refl (.bl _) m4⟩
    · cases m3
  · cases m2
instance [hA : Ok (SndA K tb W tA mA)] : Ok (SndE K tb W (tMkV C f tA) (mkVM C f mA)) := ⟨snd_mkV hA.ok⟩
instance : Ok (SndE K tb W (tMk0 C) (mk0M C)) := ⟨snd_mk0⟩
instance [ha : Ok (SndE K tb W ta a)] : Ok (SndE K tb W (tGetV C f ta) (getVM C f a)) := ⟨snd_getV ha.ok⟩
instance : Ok (DCall K tb (rIsV K) (isVD K)) := ⟨dc_isV⟩
end
section
variable {K : PySem.W.Frag} {C : Addr} {f : Str} {a : ME} {A : MA} {δ : Env} {c : SH} {Ψ : XD} {Φ : QD}
theorem e_mkV (h : A δ c Ψ fun xs c1 => oneD xs fun x => Φ (.exc C [(f, x)]) c1) : mkVM C f A δ c Ψ Φ := h
theorem e_mk0 (h : Φ (.exc C []) c) : mk0M C δ c Ψ Φ := h
def getVK (C : Addr) (f : Str) (Φ : QD) (x : D) (c1 : SH) : Prop := match x with
  | .exc C' [(g, d)] => C' = C ∧ g = f ∧ Φ d c1
  | _ => False
theorem e_getV (h : a δ c Ψ (getVK C f Φ)) : getVM C f a δ c Ψ Φ := h
theorem e_getVK {d : D} (q : Φ d c) : getVK C f Φ (.exc C [(f, d)]) c := ⟨rfl, rfl, q⟩
instance : M.W (mkVM C f A δ c Ψ Φ) (A δ c Ψ fun xs c1 => oneD xs fun x => Φ (.exc C [(f, x)]) c1) := ⟨e_mkV⟩
instance : M.W (mk0M C δ c Ψ Φ) (Φ (.exc C []) c) := ⟨e_mk0⟩
instance : M.W (getVM C f a δ c Ψ Φ) (a δ c Ψ (getVK C f Φ)) := ⟨e_getV⟩
instance {d : D} : M.W (getVK C f Φ (.exc C [(f, d)]) c) (Φ d c) := ⟨e_getVK⟩
end
end M
set_option Elab.async false
set_option linter.all false
set_option maxRecDepth 100000
set_option maxHeartbeats 3900000
namespace M
open PySem PySem.Spec PyProof.Rows L2 G
def tCallE (cand : Addr → Sp → Prop) (E : L2.St → XK) (tf : TE) (t : TA) : TE := fun σ H Q => tf σ H fun x H1 => ∃ f sp, x = .ref f ∧ cand f sp ∧ t σ H1 fun vs H2 => sp vs H2 Q (E σ)
def candF (K : PySem.W.Frag) (tb : List (Addr × Str)) (Fs : List (Addr × Fn)) : Addr → Sp → Prop := fun f sp => ∃ F, (f, F) ∈ Fs ∧ sp = SpG K tb F
def callEM (Fs : List (Addr × Fn)) (a : ME) (A : MA) : ME := fun δ c Ψ Φ => a δ c Ψ fun x c1 => match x with
  | .adr f => ∃ F, (f, F) ∈ Fs ∧ A δ c1 Ψ fun xs c2 => F xs c2 Ψ Φ
  | _ => False
section
variable {K : PySem.W.Frag} {tb : List (Addr × Str)} {W : WX} {ta : TE} {a : ME} {tA : TA} {mA : MA} {Fs : List (Addr × Fn)}
theorem snd_callE (ha : SndE K tb W ta a) (hA : SndA K tb W tA mA) : SndE K tb W (tCallE (candF K tb Fs) (WE W) ta tA) (callEM Fs a mA) := by
  intro al G c H σ δ Ψ Φ Q g m q
  refine ha al G c H σ δ Ψ _ _ g m fun x c1 al1 G1 H1 v r1 l1 d1 m1 => ?_
  split at m1
  · obtain ⟨F, hF, m2⟩ := m1
    cases d1
    refine ⟨_, _, rfl, ⟨F, hF, rfl⟩, ?_⟩
    refine hA al1 G1 c1 H1 σ δ Ψ _ _ (g.le r1 l1) m2 fun xs c2 al2 G2 H2 vs r2 l2 d2 m3 => ?_
    exact ⟨al2, G2, c2, xs, Ψ, Φ, r2, d2, m3, q.le (l1.trans l2), g.thr.le (l1.trans l2)⟩
  · cases m1
instance [ha : Ok (SndE K tb W ta a)] [hA : Ok (SndA K tb W tA mA)] : Ok (SndE K tb W (tCallE (candF K tb Fs) (WE W) ta tA) (callEM Fs a mA)) := ⟨snd_callE ha.ok hA.ok⟩
end
section
variable {a : ME} {A : MA} {δ : Env} {c : SH} {Ψ : XD} {Φ : QD} {Fs : List (Addr × Fn)}
def callEK (Fs : List (Addr × Fn)) (A : MA) (δ : Env) (Ψ : XD) (Φ : QD) (x : D) (c1 : SH) : Prop := match x with
  | .adr f => ∃ F, (f, F) ∈ Fs ∧ A δ c1 Ψ fun xs c2 => F xs c2 Ψ Φ
  | _ => False
theorem e_callE (h : a δ c Ψ (callEK Fs A δ Ψ Φ)) : callEM Fs a A δ c Ψ Φ := h
instance : M.W (callEM Fs a A δ c Ψ Φ) (a δ c Ψ (callEK Fs A δ Ψ Φ)) := ⟨e_callE⟩
end
end M
set_option Elab.async false
set_option linter.all false
set_option maxRecDepth 100000
set_option maxHeartbeats 3900000
namespace M
open PySem PySem.Spec PyProof.Rows L2 G
end M
set_option Elab.async false
set_option linter.all false
set_option maxRecDepth 100000
set_option maxHeartbeats 3900000
namespace PySem
mutual
inductive RdN (h : Heap) : Value → PyData → Prop
  | none : RdN h .none .none
  | bool (b : Bool) : RdN h (.bool b) (.bool b)
  | int (i : Int) (t : Tok) : RdN h (.int i t) (.int i)
  | str (x : Str) (t : Tok) : RdN h (.str x t) (.str x)
  | list {a : Addr} {o : Obj} {vs : Array Value} {n : Nat} {xs : List PyData} : h.get? a = some o → o.cls = .type "list" → o.data = .seq vs n → RdNA h vs.toList xs → RdN h (.ref a) (.list xs)
  | tuple {a : Addr} {o : Obj} {vs : Array Value} {n : Nat} {xs : List PyData} : h.get? a = some o → o.cls = .type "tuple" → o.data = .seq vs n → RdNA h vs.toList xs → RdN h (.ref a) (.tuple xs)
  | dict {a : Addr} {o : Obj} {es : Array DictEntry} {n : Nat} {kvs : List (PyData × PyData)} : h.get? a = some o → o.cls = .type "dict" → o.data = .dict es n → RdNA h (es.toList.map (·.key)) (kvs.map (·.1)) → RdNA h (es.toList.map (·.val)) (kvs.map (·.2)) → (a == sysModules) = false → RdN h (.ref a) (.dict kvs)
inductive RdNA (h : Heap) : List Value → List PyData → Prop
  | nil : RdNA h [] []
  | cons {v : Value} {vs : List Value} {d : PyData} {ds : List PyData} : RdN h v d → RdNA h vs ds → RdNA h (v :: vs) (d :: ds)
end
section
variable {h₀ : Heap} {prog : Program} {w : World}
mutual
theorem RdN.reads : ∀ {v : Value} {d : PyData}, RdN h₀ v d → ∃ as, Reads h₀ v d as
  | _, _, .none => ⟨_, .none⟩
  | _, _, .bool b => ⟨_, .bool b⟩
  | _, _, .int i t => ⟨_, .int i t⟩
  | _, _, .str x t => ⟨_, .str x t⟩
  | _, _, .list h1 h2 h3 h4 => let ⟨_, r⟩ := RdNA.reads h4; ⟨_, .list h1 h2 h3 r⟩
  | _, _, .tuple h1 h2 h3 h4 => let ⟨_, r⟩ := RdNA.reads h4; ⟨_, .tuple h1 h2 h3 r⟩
  | _, _, .dict h1 h2 h3 h4 h5 _ => let ⟨_, r⟩ := RdNA.reads h4; let ⟨_, q⟩ := RdNA.reads h5; ⟨_, .dict h1 h2 h3 r q⟩
theorem RdNA.reads : ∀ {vs : List Value} {ds : List PyData}, RdNA h₀ vs ds → ∃ as, ReadsAll h₀ vs ds as
  | _, _, .nil => ⟨_, .nil⟩
  | _, _, .cons r q => let ⟨_, r⟩ := RdN.reads r; let ⟨_, q⟩ := RdNA.reads q; ⟨_, .cons r q⟩
end
mutual
theorem RdN.shows : ∀ {v : Value} {d : PyData}, RdN h₀ v d → d.showable = true → d.shown.length ≤ sizeLine → ∃ bs, ReadAtMost h₀ d.depth bs ∧ ReprK prog w bs h₀ d.depth v d.shown
  | _, _, .none, _, _ => ⟨[], (fun _ z => nomatch z), by simp only [PyData.shown]; exact .of_is ReprIs.none _ _ _⟩
  | _, _, .bool b, _, _ => ⟨[], (fun _ z => nomatch z), by simp only [PyData.shown]; exact .of_is (ReprIs.bool b) _ _ _⟩
  | _, _, .int i t, hs, _ => ⟨[], (fun _ z => nomatch z), by simp only [PyData.shown]; exact .of_is (ReprIs.int t (by simpa [PyData.showable] using hs)) _ _ _⟩
  | _, _, .str x t, _, hz => ⟨[], (fun _ z => nomatch z), by simp only [PyData.shown]; exact .of_is (ReprIs.str x t (by simpa only [PyData.shown] using hz)) _ _ _⟩
  | _, _, .list (a := a) (vs := vs) (xs := xs) h1 h2 h3 h4, hs, hz => by
    have hl : (listText (PyData.shownAll xs)).length ≤ sizeLine := by simpa only [PyData.shown] using hz
    obtain ⟨bs, hb, hk⟩ := RdNA.shows h4 (by simpa [PyData.showable] using hs) fun t ht => Nat.le_trans (listText_mem_le ht) hl
    obtain ⟨as, r4⟩ := h4.reads
    have r : Reads h₀ (.ref a) (.list xs) _ := .list h1 h2 h3 r4
    have na : a ∉ bs := not_mem_of_deeper r (by simp only [PyData.depth]; omega) hb
    refine ⟨a :: bs, ReadAtMost.cons r (by simp only [PyData.depth]; omega) hb, ?_⟩
    simp only [PyData.depth, PyData.shown]
    obtain ⟨l⟩ := vs
    cases l with
    | nil =>
      have z : RdNA h₀ [] xs := h4
      cases z
      simp only [PyData.shownAll, listText_nil]
      exact ReprK.listEmpty h1 h2 h3
    | cons x l => exact ReprK.list h1 h2 h3 na (by simpa using hk.length_eq) (fun i y e => hk.item i y (by simpa using e))
  | _, _, .tuple (a := a) (xs := xs) h1 h2 h3 h4, hs, hz => by
    have hl : (tupleText (PyData.shownAll xs)).length ≤ sizeLine := by simpa only [PyData.shown] using hz
    obtain ⟨bs, hb, hk⟩ := RdNA.shows h4 (by simpa [PyData.showable] using hs) fun t ht => Nat.le_trans (tupleText_mem_le ht) hl
    obtain ⟨as, r4⟩ := h4.reads
    have r : Reads h₀ (.ref a) (.tuple xs) _ := .tuple h1 h2 h3 r4
    have na : a ∉ bs := not_mem_of_deeper r (by simp only [PyData.depth]; omega) hb
    refine ⟨a :: bs, ReadAtMost.cons r (by simp only [PyData.depth]; omega) hb, ?_⟩
    simp only [PyData.depth, PyData.shown]
    exact ReprK.tuple h1 h2 h3 na hk
  | _, _, .dict (a := a) (es := es) (kvs := kvs) h1 h2 h3 h4 h5 h6, hs, hz => by
    have hl : (dictText (PyData.shownKv kvs)).length ≤ sizeLine := by simpa only [PyData.shown] using hz
    obtain ⟨s1, s2⟩ := PyData.showableKv_split kvs (by simpa [PyData.showable] using hs)
    obtain ⟨b1, hb1, k1⟩ := RdNA.shows h4 s1 fun t ht => let ⟨p, hp, q⟩ := PyData.shownKv_key_le kvs t ht; Nat.le_trans q (Nat.le_trans (dictText_mem_le hp) hl)
    obtain ⟨b2, hb2, k2⟩ := RdNA.shows h5 s2 fun t ht => let ⟨p, hp, q⟩ := PyData.shownKv_val_le kvs t ht; Nat.le_trans q (Nat.le_trans (dictText_mem_le hp) hl)
    obtain ⟨as, r4⟩ := h4.reads
    obtain ⟨cs, r5⟩ := h5.reads
    have r : Reads h₀ (.ref a) (.dict kvs) _ := .dict h1 h2 h3 r4 r5
    have hb : ReadAtMost h₀ (PyData.depthKv kvs) (b1 ++ b2) := (hb1.mono (PyData.depthAll_keys_le kvs)).append (hb2.mono (PyData.depthAll_vals_le kvs))
    have na : a ∉ b1 ++ b2 := not_mem_of_deeper r (by simp only [PyData.depth]; omega) hb
    refine ⟨a :: (b1 ++ b2), ReadAtMost.cons r (by simp only [PyData.depth]; omega) hb, ?_⟩
    simp only [PyData.depth, PyData.shown, PyData.shownKv_eq]
    exact ReprK.dict h1 h2 h3 h6 na (ReprEntriesK.of_two es.toList _ _ (k1.more_le (fun b hb => List.mem_append_left _ hb) (PyData.depthAll_keys_le kvs)) (k2.more_le (fun b hb => List.mem_append_right _ hb) (PyData.depthAll_vals_le kvs)))
theorem RdNA.shows : ∀ {vs : List Value} {ds : List PyData}, RdNA h₀ vs ds → PyData.showableAll ds = true → (∀ t ∈ PyData.shownAll ds, t.length ≤ sizeLine) → ∃ bs, ReadAtMost h₀ (PyData.depthAll ds) bs ∧ ReprAllK prog w bs h₀ (PyData.depthAll ds) vs (PyData.shownAll ds)
  | _, _, .nil, _, _ => ⟨[], (fun _ z => nomatch z), by simp only [PyData.shownAll]; exact .nil⟩
  | _, _, .cons (d := d) (ds := ds) r rs, hs, hz => by
    have hs2 : d.showable = true ∧ PyData.showableAll ds = true := by simpa [PyData.showableAll] using hs
    obtain ⟨b1, hb1, k1⟩ := RdN.shows r hs2.1 (hz _ (by simp only [PyData.shownAll]; exact List.mem_cons_self))
    obtain ⟨b2, hb2, k2⟩ := RdNA.shows rs hs2.2 fun t ht => hz t (by simp only [PyData.shownAll]; exact List.mem_cons_of_mem _ ht)
    refine ⟨b1 ++ b2, fun b hm => ?_, ?_⟩
    · simp only [PyData.depthAll]
      rcases List.mem_append.mp hm with hm | hm
      · obtain ⟨d1, a1, r1, q1⟩ := hb1 b hm
        exact ⟨d1, a1, r1, Nat.le_trans q1 (Nat.le_max_left _ _)⟩
      · obtain ⟨d1, a1, r1, q1⟩ := hb2 b hm
        exact ⟨d1, a1, r1, Nat.le_trans q1 (Nat.le_max_right _ _)⟩
    · simp only [PyData.depthAll, PyData.shownAll]
      exact .cons ((k1.more fun b hb => List.mem_append_left _ hb).level_le (Nat.le_max_left _ _)) (k2.more_le (fun b hb => List.mem_append_right _ hb) (Nat.le_max_right _ _))
end
end
end PySem
set_option Elab.async false
set_option linter.all false
set_option maxRecDepth 100000
set_option maxHeartbeats 3900000
namespace M
open PySem PySem.Spec PyProof.Rows L2 G
def keyP : Key → PyData
  | .inl i => .int i
  | .inr z => .str z
mutual
inductive Dq (K : PySem.W.Frag) (H : Hp) : V → PyData → Prop
  | non : Dq K H .non .none
  | bl (b : Bool) : Dq K H (.bl b) (.bool b)
  | int (i : Int) : Dq K H (.int i) (.int i)
  | str (z : Str) : Dq K H (.str z) (.str z)
  | lst {a : Addr} {vs : List V} {ps : List PyData} : SqL K H a vs → DqL K H vs ps → Dq K H (.ref a) (.list ps)
  | tup {a : Addr} {vs : List V} {ps : List PyData} : SqT K H a vs → DqL K H vs ps → Dq K H (.ref a) (.tuple ps)
  | dic {a : Addr} {kvs : List (Key × V)} {ps : List (PyData × PyData)} : Rd H a (.dK kvs) → DqK K H kvs ps → Dq K H (.ref a) (.dict ps)
inductive DqL (K : PySem.W.Frag) (H : Hp) : List V → List PyData → Prop
  | nil : DqL K H [] []
  | cons {v : V} {p : PyData} {vs : List V} {ps : List PyData} : Dq K H v p → DqL K H vs ps → DqL K H (v :: vs) (p :: ps)
inductive DqK (K : PySem.W.Frag) (H : Hp) : List (Key × V) → List (PyData × PyData) → Prop
  | nil : DqK K H [] []
  | cons {k : Key} {v : V} {p : PyData} {vs : List (Key × V)} {ps : List (PyData × PyData)} : Dq K H v p → DqK K H vs ps → DqK K H ((k, v) :: vs) ((keyP k, p) :: ps)
end
section
variable {X : Cx} {pins : List (Addr × Obj)} {σ : L2.St} {H : Hp} {s : Shared}
theorem key_reads {P : Program} {w : World} {h : Heap} {k : Key} {u : Value} (hk : (mixKind P w).is k u = true) : RdN h u (keyP k) := by
  have r := relV_key (show keyIs k u = true from hk)
  cases k with
  | inl i => obtain ⟨t, rfl⟩ := r; exact .int i t
  | inr z => obtain ⟨t, rfl⟩ := r; exact .str z t
mutual
theorem Dq.reads (I : Inv X pins σ H s) : ∀ {v : V} {p : PyData} {u : Value}, Dq X.K H v p → RelV v u → RdN s.heap u p
  | _, _, _, .non, r => by cases r; exact .none
  | _, _, _, .bl b, r => by cases r; exact .bool b
  | _, _, _, .int i, r => by obtain ⟨t, rfl⟩ := r; exact .int i t
  | _, _, _, .str z, r => by obtain ⟨t, rfl⟩ := r; exact .str z t
  | _, _, _, .lst hs hr, r => by
    cases r
    obtain ⟨its, rv, ⟨o, n, ho, hc, _, hd⟩, _⟩ := I.list hs
    exact .list ho hc hd (DqL.reads I hr rv)
  | _, _, _, .tup hs hr, r => by
    cases r
    obtain ⟨its, rv, ⟨o, ho, hc, n, hd⟩, _⟩ := I.tuple hs
    exact .tuple ho hc hd (DqL.reads I hr rv)
  | _, _, _, .dic (a := a0) hs hr, r => by
    cases r
    obtain ⟨ya, va, kv, o, es, ep, ho, hx, hd, _, hp, _⟩ := rd_dict I hs
    obtain ⟨h1, h2⟩ := DqK.reads I hr kv hp
    exact .dict ho hx.1 hd h1 h2 ya
theorem DqL.reads (I : Inv X pins σ H s) : ∀ {vs : List V} {ps : List PyData} {us : List Value}, DqL X.K H vs ps → Vals vs us → RdNA s.heap us ps
  | _, _, _, .nil, r => by cases r; exact .nil
  | _, _, _, .cons h hr, r => by
    cases r with
    | cons r1 r2 => exact .cons (Dq.reads I h r1) (DqL.reads I hr r2)
theorem DqK.reads (I : Inv X pins σ H s) : ∀ {kvs : List (Key × V)} {ps : List (PyData × PyData)} {va : List (Key × Value)} {es : List DictEntry}, DqK X.K H kvs ps → KV kvs va → Pairs (mixKind X.prog X.w) es va → RdNA s.heap (es.map (·.key)) (ps.map (·.1)) ∧ RdNA s.heap (es.map (·.val)) (ps.map (·.2))
  | _, _, _, _, .nil, r, p => by
    cases r
    cases p
    exact ⟨.nil, .nil⟩
  | _, _, _, _, .cons h hr, r, p => by
    cases r with
    | cons r1 r2 =>
      cases p with
      | cons k1 v1 p2 =>
        obtain ⟨h1, h2⟩ := DqK.reads I hr r2 p2
        have h4 := Dq.reads I h (v1 ▸ r1.2)
        have e := r1.1
        dsimp only at e
        refine ⟨.cons ?_ h1, .cons h4 h2⟩
        rw [e]
        exact key_reads k1
end
end
theorem showsN {prog : Program} {w : World} {h₀ : Heap} {a : Addr} {d : PyData} (r : RdN h₀ (.ref a) d) (hs : d.showable = true) (hsz : d.shown.length ≤ sizeLine) : ∃ T idr, ShowsBy prog w h₀ a d T idr := by
  cases r with
  | list h1 h2 h3 h4 =>
    rename_i o vs n xs
    have hz' : (listText (PyData.shownAll xs)).length ≤ sizeLine := by simpa only [PyData.shown] using hsz
    obtain ⟨bs, hb, hk⟩ := RdNA.shows (prog := prog) (w := w) h4 (by simpa [PyData.showable] using hs) (fun t ht => Nat.le_trans (listText_mem_le ht) hz')
    obtain ⟨as, r4⟩ := h4.reads
    have hna : a ∉ bs := not_mem_of_deeper (.list h1 h2 h3 r4) (by simp only [PyData.depth]; omega) hb
    refine ⟨"list", "list.__repr__", F.slot_list_repr.toG, F.slot_list_str, F.slot_list_format, fun s hk0 => ⟨o, hk0 _ _ h1, h2⟩, fun A E s Q hg hu hk0 hQ => ?_⟩
    simp only [PyData.depth] at hu
    simp only [PyData.shown] at hQ
    obtain ⟨l⟩ := vs
    cases l with
    | nil =>
      have h4' : RdNA h₀ [] xs := h4
      cases h4'
      simp only [PyData.shownAll, listText_nil] at hQ
      exact call_list_repr_empty ⟨o, hk0 _ _ h1, h2⟩ (hk0 _ _ h1) h3 (hQ s.heap _ _ fun _ _ e => e)
    | cons x l =>
      exact call_list_reprK h1 h2 h3 hna (by simpa using hk.length_eq) (fun i y e => hk.item i y (by simpa using e)) hg (fun b _ => Clear.nil b) hu hk0 hQ hz'
  | tuple h1 h2 h3 h4 =>
    rename_i o vs n xs
    have hz' : (tupleText (PyData.shownAll xs)).length ≤ sizeLine := by simpa only [PyData.shown] using hsz
    obtain ⟨bs, hb, hk⟩ := RdNA.shows (prog := prog) (w := w) h4 (by simpa [PyData.showable] using hs) (fun t ht => Nat.le_trans (tupleText_mem_le ht) hz')
    obtain ⟨as, r4⟩ := h4.reads
    have hna : a ∉ bs := not_mem_of_deeper (.tuple h1 h2 h3 r4) (by simp only [PyData.depth]; omega) hb
    refine ⟨"tuple", "tuple.__repr__", F.slot_tuple_repr, F.slot_tuple_str, F.slot_tuple_format, fun s hk0 => ⟨o, hk0 _ _ h1, h2⟩, fun A E s Q hg hu hk0 hQ => ?_⟩
    simp only [PyData.depth] at hu
    simp only [PyData.shown] at hQ
    exact call_tuple_reprK h1 h2 h3 hna hk hg (fun b _ => Clear.nil b) hu hk0 hQ hz'
  | dict h1 h2 h3 h4 h5 h6 =>
    rename_i o es n kvs
    have hz' : (dictText (PyData.shownKv kvs)).length ≤ sizeLine := by simpa only [PyData.shown] using hsz
    obtain ⟨hs1, hs2⟩ := PyData.showableKv_split kvs (by simpa [PyData.showable] using hs)
    obtain ⟨b1, hb1, k1⟩ := RdNA.shows (prog := prog) (w := w) h4 hs1 (fun t ht => let ⟨p, hp, hl⟩ := PyData.shownKv_key_le kvs t ht; Nat.le_trans hl (Nat.le_trans (dictText_mem_le hp) hz'))
    obtain ⟨b2, hb2, k2⟩ := RdNA.shows (prog := prog) (w := w) h5 hs2 (fun t ht => let ⟨p, hp, hl⟩ := PyData.shownKv_val_le kvs t ht; Nat.le_trans hl (Nat.le_trans (dictText_mem_le hp) hz'))
    obtain ⟨as, r4⟩ := h4.reads
    obtain ⟨cs, r5⟩ := h5.reads
    have hb : ReadAtMost h₀ (PyData.depthKv kvs) (b1 ++ b2) := (hb1.mono (PyData.depthAll_keys_le kvs)).append (hb2.mono (PyData.depthAll_vals_le kvs))
    have hna : a ∉ b1 ++ b2 := not_mem_of_deeper (.dict h1 h2 h3 r4 r5) (by simp only [PyData.depth]; omega) hb
    refine ⟨"dict", "dict.__repr__", F.slot_dict_repr, F.slot_dict_str, F.slot_dict_format, fun s hk0 => ⟨o, hk0 _ _ h1, h2⟩, fun A E s Q hg hu hk0 hQ => ?_⟩
    simp only [PyData.depth] at hu
    simp only [PyData.shown, PyData.shownKv_eq] at hQ
    exact call_dict_reprK h1 h2 h3 h6 hna (ReprEntriesK.of_two es.toList _ _
      (k1.more_le (fun b hb => List.mem_append_left _ hb) (PyData.depthAll_keys_le kvs)) (k2.more_le (fun b hb => List.mem_append_right _ hb) (PyData.depthAll_vals_le kvs))) hg (fun b _ => Clear.nil b) hu hk0 hQ (by rw [← PyData.shownKv_eq]; exact hz')
theorem reprN {prog : Program} {w : World} {h₀ : Heap} {a : Addr} {d : PyData} {A : Around} {E : Value → Shared → Prop} {s : Shared} {Q : Value → Shared → Prop} (r : RdN h₀ (.ref a) d) (hs : d.showable = true) (hg : A.guards = some []) (hu : A.units + (d.depth + 1) < cLine) (hk0 : ∀ b o, h₀.get? b = some o → s.heap.get? b = some o)
    (hQ : ∀ h' u tk, (∀ b o, s.heap.get? b = some o → h'.get? b = some o) → Q (.str d.shown u) { s with heap := h', toks := tk })
    (hsz : d.shown.length ≤ sizeLine) : wpAny (model prog w) A (call (.builtin "repr") [.ref a]) Q E s := by
  obtain ⟨T, idr, S⟩ := showsN (prog := prog) (w := w) r hs hsz
  exact call_repr_slot (by omega) (S.typeIs s hk0) S.slotRepr (S.call A.in1 E s _ hg (by show A.units + 1 + d.depth < cLine; omega) hk0 fun h' u tk hk => ⟨_, _, rfl, hQ h' u tk hk⟩)
def rReprZ (K : PySem.W.Frag) : List V → Hp → VK → Prop := fun xs H Q => ∃ (a : Addr) (p : PyData), xs = [.ref a] ∧ Dq K H (.ref a) p ∧ p.showable = true ∧ p.depth ≤ 60 ∧ p.shown.length ≤ sizeLine ∧ Q (.str p.shown) H
theorem call_reprZ {X : Cx} {K : PySem.W.Frag} (hK : X.K = K) (hG : X.A.guards = some []) (hu : X.A.units + 64 < cLine) : CallR X (.builtin "repr") (rReprZ K) := by
  subst hK
  intro pins s σ H xs us Q I r h
  obtain ⟨a, p, rfl, dp, h1, h3, h4, q⟩ := h
  obtain ⟨u, rfl, ru⟩ := vals1 r
  have rd := Dq.reads I dp ru
  cases (show u = Value.ref a from ru)
  exact reprN rd h1 hG (by omega) (fun _ _ e => e) (fun h' u tk hk => ⟨.str _, H, I.kept hk, ⟨_, rfl⟩, q⟩) h4
mutual
def pyZ (ob : Nat → Option PyData) : D → Option PyData
  | .non => some .none
  | .bl b => some (.bool b)
  | .int i => some (.int i)
  | .str z => some (.str z)
  | .lst xs => (pyZL ob xs).map .list
  | .tup xs => (pyZL ob xs).map .tuple
  | .dic kvs => (pyZK ob kvs).map .dict
  | .obj k => ob k
  | _ => none
def pyZL (ob : Nat → Option PyData) : List D → Option (List PyData)
  | [] => some []
  | x :: xs => match pyZ ob x, pyZL ob xs with
    | some p, some ps => some (p :: ps)
    | _, _ => none
def pyZK (ob : Nat → Option PyData) : List (Key × D) → Option (List (PyData × PyData))
  | [] => some []
  | (k, x) :: xs => match pyZ ob x, pyZK ob xs with
    | some p, some ps => some ((keyP k, p) :: ps)
    | _, _ => none
end
def pyOZ (c : SH) (k : Nat) : Option PyData := match c[k]? with
  | some (.lst xs) => (pyZL (fun _ => none) xs).map .list
  | some (.dic kvs) => (pyZK (fun _ => none) kvs).map .dict
  | _ => none
section
variable {K : PySem.W.Frag} {tb : List (Addr × Str)} {al : List Addr} {G H : Hp} {c : SH} {ob : Nat → Option PyData}
mutual
theorem den_pyZ (ex : Ex G H) (ho : ∀ (k : Nat) (a : Addr) (p : PyData), al[k]? = some a → ob k = some p → Dq K H (.ref a) p) : ∀ {v : V} {d : D} {p : PyData}, Den K al G v d → pyZ ob d = some p → Dq K H v p
  | _, _, _, .non, e => by simp only [pyZ] at e; cases e; exact .non
  | _, _, _, .bl b, e => by simp only [pyZ] at e; cases e; exact .bl b
  | _, _, _, .int i, e => by simp only [pyZ] at e; cases e; exact .int i
  | _, _, _, .str z, e => by simp only [pyZ] at e; cases e; exact .str z
  | _, _, _, .ty n, e => by simp only [pyZ] at e; cases e
  | _, _, _, .adr a, e => by simp only [pyZ] at e; cases e
  | _, _, _, .lst h r, e => by
    simp only [pyZ] at e
    obtain ⟨ps, h1, rfl⟩ := Option.map_eq_some_iff.mp e
    exact .lst (.inl (.of (ex _ _ h))) (den_pyZL ex ho r h1)
  | _, _, _, .scr h r, e => by simp only [pyZ] at e; cases e
  | _, _, _, .tup h r, e => by
    simp only [pyZ] at e
    obtain ⟨ps, h1, rfl⟩ := Option.map_eq_some_iff.mp e
    exact .tup (.of (ex _ _ h)) (den_pyZL ex ho r h1)
  | _, _, _, .exc h h2 h3 r, e => by simp only [pyZ] at e; cases e
  | _, _, _, .dic h r, e => by
    simp only [pyZ] at e
    obtain ⟨ps, h1, rfl⟩ := Option.map_eq_some_iff.mp e
    exact .dic (.inr ⟨_, ex _ _ h⟩) (den_pyZK ex ho r h1)
  | _, _, _, .ins h r, e => by simp only [pyZ] at e; cases e
  | _, _, _, .obj h, e => by simp only [pyZ] at e; exact ho _ _ _ h e
  | _, _, _, .btp h r, e => by simp only [pyZ] at e; cases e
theorem den_pyZL (ex : Ex G H) (ho : ∀ (k : Nat) (a : Addr) (p : PyData), al[k]? = some a → ob k = some p → Dq K H (.ref a) p) : ∀ {v : List V} {d : List D} {p : List PyData}, DenL K al G v d → pyZL ob d = some p → DqL K H v p
  | _, _, _, .nil, e => by simp only [pyZL] at e; cases e; exact .nil
  | _, _, _, .cons h r, e => by
    simp only [pyZL] at e
    split at e
    · rename_i p ps e1 e2
      cases e
      exact .cons (den_pyZ ex ho h e1) (den_pyZL ex ho r e2)
    · cases e
theorem den_pyZK (ex : Ex G H) (ho : ∀ (k : Nat) (a : Addr) (p : PyData), al[k]? = some a → ob k = some p → Dq K H (.ref a) p) : ∀ {v : List (Key × V)} {d : List (Key × D)} {p : List (PyData × PyData)}, DenK K al G v d → pyZK ob d = some p → DqK K H v p
  | _, _, _, .nil, e => by simp only [pyZK] at e; cases e; exact .nil
  | _, _, _, .cons h r, e => by
    simp only [pyZK] at e
    split at e
    · rename_i p ps e1 e2
      cases e
      exact .cons (den_pyZ ex ho h e1) (den_pyZK ex ho r e2)
    · cases e
end
theorem Rep.pyZ (R : Rep K tb al G c H) {v : V} {d : D} {p : PyData} (h : Den K al G v d) (e : M.pyZ (pyOZ c) d = some p) : Dq K H v p := by
  refine den_pyZ R.sub (fun k a p hk hp => ?_) h e
  have no : ∀ (k : Nat) (a : Addr) (p : PyData), al[k]? = some a → (fun _ : Nat => (none : Option PyData)) k = some p → Dq K H (.ref a) p := fun _ _ _ _ z => nomatch z
  unfold pyOZ at hp
  split at hp
  · rename_i xs e1
    obtain ⟨ps, h1, rfl⟩ := Option.map_eq_some_iff.mp hp
    obtain ⟨vs, h2, h3⟩ := R.ent k a _ hk e1
    exact .lst (.inl (.of h2)) (den_pyZL R.sub no h3 h1)
  · rename_i kvs e1
    obtain ⟨ps, h1, rfl⟩ := Option.map_eq_some_iff.mp hp
    obtain ⟨vs, h2, h3⟩ := R.ent k a _ hk e1
    exact .dic (.inl h2) (den_pyZK R.sub no h3 h1)
  · cases hp
def conP : PyData → Bool
  | .list _ => true
  | .tuple _ => true
  | .dict _ => true
  | _ => false
theorem Dq.ref {v : V} {p : PyData} (h : Dq K H v p) (e : conP p = true) : ∃ a, v = .ref a := by
  cases h with
  | lst _ _ => exact ⟨_, rfl⟩
  | tup _ _ => exact ⟨_, rfl⟩
  | dic _ _ => exact ⟨_, rfl⟩
  | _ => cases e
def reprZD (xs : List D) (c : SH) (Φ : QD) : Prop := oneD xs fun x => match M.pyZ (pyOZ c) x with
  | some p => (conP p = true ∧ p.showable = true ∧ p.depth ≤ 60 ∧ p.shown.length ≤ sizeLine) ∧ Φ (.str p.shown) c
  | none => False
theorem dc_reprZ : DCall K tb (rReprZ K) reprZD := by
  intro al G c H xs ds Φ Q R hd m q
  obtain ⟨x, v, rfl, rfl, dx, m2⟩ := oneD_of m hd
  split at m2
  · rename_i p e
    obtain ⟨⟨h0, h1, h2, h3⟩, m3⟩ := m2
    have dp := R.pyZ dx e
    obtain ⟨a, rfl⟩ := dp.ref h0
    exact ⟨a, p, rfl, dp, h1, h2, h3, q _ c al G H _ R .refl (.str _) m3⟩
  · cases m2
instance : Ok (DCall K tb (rReprZ K) reprZD) := ⟨dc_reprZ⟩
end
end M
set_option Elab.async false
set_option linter.all false
set_option maxRecDepth 100000
set_option maxHeartbeats 3900000
namespace M
open PySem PySem.Spec PyProof.Rows L2 G
end M
set_option Elab.async false
set_option linter.all false
set_option maxRecDepth 100000
set_option maxHeartbeats 3900000
namespace M
open PySem PySem.Spec PyProof.Rows L2 G
def tLockE (t : WX → TE) (W : WX) : TE := fun σ H Q => t W σ H Q ∨ ∃ d u, H d = some u ∧ Mut (some u) ∧ ∀ od, t (wLock d od u W) σ (upd H d (.frz od u)) fun v H' => H' d = some (.frz od u) ∧ Q v (upd H' d u)
def lkX (k : Nat) (ob : Obj) (vs : List (Key × V)) (kvs : List (Key × D)) (Ψ : XD) : XD := fun C f d c' => c'[k]? = some (.lck ob vs kvs) ∧ Ψ C f d (c'.set k (.dic kvs))
def lkQ (k : Nat) (ob : Obj) (vs : List (Key × V)) (kvs : List (Key × D)) (Φ : QD) : QD := fun d c' => c'[k]? = some (.lck ob vs kvs) ∧ Φ d (c'.set k (.dic kvs))
def lockE (m : ME) : ME := fun δ c Ψ Φ => m δ c Ψ Φ ∨ ∃ k kvs, c[k]? = some (.dic kvs) ∧ ∀ ob vs, m δ (c.set k (.lck ob vs kvs)) (lkX k ob vs kvs Ψ) (lkQ k ob vs kvs Φ)
def keysLM (a : ME) : MI := fun δ c Ψ Φ => a δ c Ψ fun x c1 => match x with
  | .dic kvs => Φ (kvs.map fun p => keyOD p.1) (fun _ => True) c1
  | .obj k => (match c1[k]? with
    | some (.lck ob vs kvs) => Φ (kvs.map fun p => keyOD p.1) (fun c' => c'[k]? = some (.lck ob vs kvs)) c1
    | _ => False)
  | _ => False
section
variable {K : PySem.W.Frag} {tb : List (Addr × Str)} {W : WX} {t : WX → TE} {m : ME} {ta : TE} {a : ME}
theorem snd_lockE (hb : ∀ V, SndE K tb V (t V) m) : SndE K tb W (tLockE t W) (lockE m) := by
  intro al G c H σ δ Ψ Φ Q g mm q
  rcases mm with mm | ⟨k, kvs, hs, mm⟩
  · exact .inl (hb W al G c H σ δ Ψ Φ Q g mm q)
  have R := g.rep
  have hkl := (List.getElem?_eq_some_iff.mp hs).1
  obtain ⟨p, hk⟩ : ∃ p, al[k]? = some p := ⟨al[k]'(by rw [R.len]; exact hkl), List.getElem?_eq_getElem _⟩
  obtain ⟨vs, h1, h2⟩ := R.ent k p _ hk hs
  refine .inr ⟨p, .dK vs, h1, trivial, fun od => ?_⟩
  have r2 := R.change (u := .frz od (.dK vs)) hk hs rfl (o := .lck od vs kvs) ⟨upd_same, h2⟩ rfl
  have l2 := Le.change (o := .lck od vs kvs) R hk hs rfl (u := .frz od (.dK vs)) nofun
  refine hb _ al G _ _ σ δ _ _ _ ⟨r2, g.env.le l2, ?_⟩ (mm od vs) ?_
  · rintro C f d c' al' G' H' dd v R' l' fr hd den ⟨e1, e2⟩
    obtain ⟨h3, r3, l3⟩ := unlk R' (l'.ad _ _ hk) e1
    have ne : dd ≠ p := fun z => by rw [z, h3] at hd; cases hd
    exact ⟨h3, g.thr C f d _ al' G' _ dd v r3 ((l2.trans l').trans l3) (l2.dom dd fr) (by rw [upd_ne ne]; exact hd) (den.le l3) e2⟩
  · rintro d c' al' G' H' v R' l' dn ⟨e1, e2⟩
    obtain ⟨h3, r3, l3⟩ := unlk R' (l'.ad _ _ hk) e1
    exact ⟨h3, q d _ al' G' _ v r3 ((l2.trans l').trans l3) (dn.le l3) e2⟩
theorem snd_keysL (ha : SndE K tb W ta a) : SndI K tb W (iKeys ta) (keysLM a) := by
  intro al G c H σ δ Ψ Φ R g m q
  refine ha al G c H σ δ Ψ _ _ g m fun x c1 al1 G1 H1 v r1 l1 d1 m1 => ?_
  split at m1
  · rename_i kvs
    cases d1 with
    | dic h r =>
      refine ⟨_, _, rfl, .inl ⟨_, r1.sub _ _ h, q _ _ c1 al1 G1 H1 _ r1 l1 ⟨fun i y al2 G2 c2 H2 hy r2 l2 _ => ⟨r2.sub _ _ (l2.g _ _ h), ?_⟩, fun i y al2 G2 c2 H2 u H' hy r2 l2 _ yl => ?_, fun al2 G2 c2 H2 r2 l2 _ => ⟨r2.sub _ _ (l2.g _ _ h), ?_⟩⟩ m1⟩⟩
      · have := (List.getElem?_eq_some_iff.mp hy).1
        rw [List.length_map] at this
        rw [r.length]
        exact this
      · rw [List.getElem?_map] at hy
        obtain ⟨⟨k, d⟩, h1, h2⟩ := Option.map_eq_some_iff.mp hy
        cases h2
        obtain ⟨w, h3, h4⟩ := r.get h1
        obtain ⟨rfl, k', v', hk, rfl⟩ := yl
        rw [h3] at hk
        cases hk
        exact ⟨_, r2, .refl, keyOD_den k⟩
      · rw [List.length_map, r.length]
        exact Nat.le_refl _
  · rename_i k
    split at m1
    · rename_i ob vs kvs hs
      cases d1 with
      | obj hk =>
        obtain ⟨h, r⟩ := r1.ent k _ _ hk hs
        refine ⟨_, _, rfl, .inl ⟨_, h, q _ _ c1 al1 G1 H1 _ r1 l1 ⟨fun i y al2 G2 c2 H2 hy r2 l2 gd => ⟨(r2.ent k _ (.lck ob vs kvs) (l2.ad _ _ hk) gd).1, ?_⟩, fun i y al2 G2 c2 H2 u H' hy r2 l2 _ yl => ?_, fun al2 G2 c2 H2 r2 l2 gd => ⟨(r2.ent k _ (.lck ob vs kvs) (l2.ad _ _ hk) gd).1, ?_⟩⟩ m1⟩⟩
        · have := (List.getElem?_eq_some_iff.mp hy).1
          rw [List.length_map] at this
          rw [r.length]
          exact this
        · rw [List.getElem?_map] at hy
          obtain ⟨⟨k, d⟩, h1, h2⟩ := Option.map_eq_some_iff.mp hy
          cases h2
          obtain ⟨w, h3, h4⟩ := r.get h1
          obtain ⟨rfl, k', v', hk, rfl⟩ := yl
          rw [h3] at hk
          cases hk
          exact ⟨_, r2, .refl, keyOD_den k⟩
        · rw [List.length_map, r.length]
          exact Nat.le_refl _
    · cases m1
  · cases m1
instance {t : WX → TE} [h : ∀ V, Ok (SndE K tb V (t V) m)] : Ok (SndE K tb W (tLockE t W) (lockE m)) := ⟨snd_lockE fun V => (h V).ok⟩
instance [ha : Ok (SndE K tb W ta a)] : Ok (SndI K tb W (iKeys ta) (keysLM a)) := ⟨snd_keysL ha.ok⟩
end
def keysLK (Φ : List D → (SH → Prop) → SH → Prop) (x : D) (c1 : SH) : Prop := match x with
  | .dic kvs => Φ (kvs.map fun p => keyOD p.1) (fun _ => True) c1
  | .obj k => (match c1[k]? with
    | some (.lck ob vs kvs) => Φ (kvs.map fun p => keyOD p.1) (fun c' => c'[k]? = some (.lck ob vs kvs)) c1
    | _ => False)
  | _ => False
section
variable {a : ME} {δ : Env} {c : SH} {Ψ : XD} {Φ : List D → (SH → Prop) → SH → Prop} {kvs : List (Key × D)}
theorem e_keysL (h : a δ c Ψ (keysLK Φ)) : keysLM a δ c Ψ Φ := h
theorem e_keysD (q : Φ (kvs.map fun p => keyOD p.1) (fun _ => True) c) : keysLK Φ (.dic kvs) c := q
instance : M.W (keysLM a δ c Ψ Φ) (a δ c Ψ (keysLK Φ)) := ⟨e_keysL⟩
instance : M.W (keysLK Φ (.dic kvs) c) (Φ (kvs.map fun p => keyOD p.1) (fun _ => True) c) := ⟨e_keysD⟩
end
def rDUpd : V → List V → Hp → VK → Prop := fun x vs H Q => ∃ (a b : Addr) (kvs more : List (Key × V)), x = .ref a ∧ vs = [.ref b] ∧ a ≠ b ∧ H a = some (.dK kvs) ∧ Rd H b (.dK more) ∧ kvs.length + more.length ≤ sizeLine ∧ Q .non (upd H a (.dK (mergeK kvs more)))
def updK (kvs : List (Key × D)) (k : Nat) (more : List (Key × D)) (c : SH) (Φ : QD) : Prop := kvs.length + more.length ≤ sizeLine ∧ Φ .non (c.set k (.dic (mergeD kvs more)))
def updD (x : D) (xs : List D) (c : SH) (Φ : QD) : Prop := oneD xs fun y => match x with
  | .obj k => (match c[k]? with
    | some (.dic kvs) => (match y with
      | .dic more => updK kvs k more c Φ
      | .obj j => (match c[j]? with
        | some (.dic more) => j ≠ k ∧ updK kvs k more c Φ
        | _ => False)
      | _ => False)
    | _ => False)
  | _ => False
section
variable {K : PySem.W.Frag} {tb : List (Addr × Str)}
theorem dm_upd : DMt K tb rDUpd updD := by
  intro al G c H x xs dx ds Φ Q R hx hd m q
  obtain ⟨y, w, rfl, rfl, dy, m2⟩ := oneD_of m hd
  split at m2
  · rename_i k
    split at m2
    · rename_i kvs hs
      cases hx with
      | obj hk =>
        rename_i p
        obtain ⟨vs, h1, h2⟩ := R.ent k p _ hk hs
        have fin : ∀ {b : Addr} {us : List (Key × V)} {more : List (Key × D)}, p ≠ b → Rd H b (.dK us) → DenK K al G us more → updK kvs k more c Φ → rDUpd (.ref p) [.ref b] H Q := fun {b us more} hne hr hd m => by
          refine ⟨p, b, vs, us, rfl, rfl, hne, h1, hr, by rw [h2.length, hd.length]; exact m.1, ?_⟩
          have dn := hd.merge h2
          have r4 := R.change (u := .dK (mergeK vs us)) hk hs rfl (o := .dic (mergeD kvs more)) ⟨_, upd_same, dn⟩ rfl
          have l4 := Le.change (o := .dic (mergeD kvs more)) R hk hs rfl (u := .dK (mergeK vs us)) nofun
          exact q .non _ al G _ .non r4 l4 .non m.2
        split at m2
        · rename_i more
          cases dy with
          | dic h r =>
            refine fin (fun z => ?_) (.inr ⟨_, R.sub _ _ h⟩) r m2
            subst z
            have := R.sub _ _ h
            rw [h1] at this
            cases this
        · rename_i j
          split at m2
          · rename_i more hj
            cases dy with
            | obj hkj =>
              obtain ⟨us, h3, h4⟩ := R.ent j _ _ hkj hj
              refine fin (fun z => ?_) (.inl h3) h4 m2.2
              subst z
              exact m2.1 (R.inj _ _ _ _ hkj hk hj rfl)
          · cases m2
        · cases m2
    · cases m2
  · cases m2
instance : Ok (DMt K tb rDUpd updD) := ⟨dm_upd⟩
end
end M
set_option Elab.async false
set_option linter.all false
set_option maxRecDepth 100000
set_option maxHeartbeats 3900000
namespace M
open PySem PySem.Spec PyProof.Rows L2 G
def rSetDk : TSet := fun x y v H Q => ∃ (a : Addr) (kvs : List (Key × V)) (k : Key), x = .ref a ∧ y = kV k ∧ H a = some (.dK kvs) ∧ kvs.length < sizeLine ∧ Q (upd H a (.dK (putK kvs k v)))
def gdputK (N : Env → SH → Prop) (δ : Env) (x z y : D) (c2 : SH) : Prop := match z, keyD y with
  | .obj k, some j => (match c2[k]? with
    | some (.dic kvs) => kvs.length < sizeLine ∧ N δ (c2.set k (.dic (putKD kvs j x)))
    | _ => False)
  | _, _ => False
def gdputM (mo mi : ME) : MG := fun x δ c Ψ N => mo δ c Ψ fun z c1 => mi δ c1 Ψ fun y c2 => gdputK N δ x z y c2
section
variable {K : PySem.W.Frag} {tb : List (Addr × Str)} {W : WX} {to ti : TE} {mo mi : ME} {vs : List Nat}
theorem sgo_dput (ho : SndE K tb W to mo) (hi : SndE K tb W ti mi) : SndGO K tb W vs (gSub to ti rSetDk) (gdputM mo mi) := by
  intro al G c H σ δ Ψ v x N R go d m q
  refine ho al G c H σ δ Ψ _ _ go m fun z c1 al1 G1 H1 w r1 l1 d1 m1 => ?_
  refine hi al1 G1 c1 H1 σ δ Ψ _ _ (go.le r1 l1) m1 fun y c2 al2 G2 H2 u r2 l2 d2 m2 => ?_
  unfold gdputK at m2
  split at m2
  · rename_i k j ej
    split at m2
    · rename_i kvs hs
      cases d1 with
      | obj hk =>
        have hk2 := l2.ad _ _ hk
        obtain ⟨us, h1, h2⟩ := r2.ent k _ _ hk2 hs
        refine ⟨_, us, j, rfl, key_den d2 ej, h1, by rw [h2.length]; exact m2.1, ?_⟩
        have en : DenK K al2 G2 (putK us j v) (putKD kvs j x) := h2.put (d.le (l1.trans l2))
        have r4 := r2.change (u := .dK (putK us j v)) hk2 hs rfl (o := .dic (putKD kvs j x)) ⟨_, upd_same, en⟩ rfl
        have l4 := Le.change (o := .dic (putKD kvs j x)) r2 hk2 hs rfl (u := .dK (putK us j v)) nofun
        have l14 := (l1.trans l2).trans l4
        exact q δ _ al2 G2 _ σ r4 l14 (go.env.le l14) rfl m2.2
    · cases m2
  · cases m2
instance [ho : Ok (SndE K tb W to mo)] [hi : Ok (SndE K tb W ti mi)] : Ok (SndGO K tb W vs (gSub to ti rSetDk) (gdputM mo mi)) := ⟨sgo_dput ho.ok hi.ok⟩
end
section
variable {mo mi : ME} {δ : Env} {c : SH} {Ψ : XD} {N : Env → SH → Prop} {x z : D}
theorem e_gdput (h : mo δ c Ψ fun z c1 => mi δ c1 Ψ fun y c2 => gdputK N δ x z y c2) : gdputM mo mi x δ c Ψ N := h
instance : M.W (gdputM mo mi x δ c Ψ N) (mo δ c Ψ fun z c1 => mi δ c1 Ψ fun y c2 => gdputK N δ x z y c2) := ⟨e_gdput⟩
end
end M
set_option Elab.async false
set_option linter.all false
set_option maxRecDepth 100000
set_option maxHeartbeats 3900000
namespace M
open PySem PySem.Spec PyProof.Rows L2 G
def rStrN : List V → Hp → VK → Prop := fun xs H Q => xs = [.non] ∧ Q (.str (Str.ofString "None")) H
def rStrZ (K : PySem.W.Frag) : List V → Hp → VK → Prop := fun xs H Q => ∃ (a : Addr) (p : PyData), xs = [.ref a] ∧ Dq K H (.ref a) p ∧ p.hasDict = false ∧ p.showable = true ∧ p.depth ≤ 60 ∧ p.shown.length ≤ sizeLine ∧ Q (.str p.shown) H
def strND (xs : List D) (c : SH) (Φ : QD) : Prop := oneD xs fun x => match x with
  | .non => Φ (.str (Str.ofString "None")) c
  | _ => False
def strZD (xs : List D) (c : SH) (Φ : QD) : Prop := oneD xs fun x => match M.pyZ (pyOZ c) x with
  | some p => (conP p = true ∧ p.hasDict = false ∧ p.showable = true ∧ p.depth ≤ 60 ∧ p.shown.length ≤ sizeLine) ∧ Φ (.str p.shown) c
  | none => False
section
variable {K : PySem.W.Frag} {tb : List (Addr × Str)}
theorem dc_strN : DCall K tb rStrN strND := by
  intro al G c H xs ds Φ Q R hd m q
  obtain ⟨x, v, rfl, rfl, dx, m2⟩ := oneD_of m hd
  split at m2
  · cases dx
    exact ⟨rfl, q _ c al G H _ R .refl (.str _) m2⟩
  · cases m2
theorem dc_strZ : DCall K tb (rStrZ K) strZD := by
  intro al G c H xs ds Φ Q R hd m q
  obtain ⟨x, v, rfl, rfl, dx, m2⟩ := oneD_of m hd
  split at m2
  · rename_i p e
    obtain ⟨⟨h0, hn, h1, h2, h3⟩, m3⟩ := m2
    have dp := R.pyZ dx e
    obtain ⟨a, rfl⟩ := dp.ref h0
    exact ⟨a, p, rfl, dp, hn, h1, h2, h3, q _ c al G H _ R .refl (.str _) m3⟩
  · cases m2
instance : Ok (DCall K tb rStrN strND) := ⟨dc_strN⟩
instance : Ok (DCall K tb (rStrZ K) strZD) := ⟨dc_strZ⟩
end
end M
set_option Elab.async false
set_option linter.all false
set_option maxRecDepth 100000
set_option maxHeartbeats 3900000
namespace PySem
open PySem PySem.Spec PySem.Calls PyProof.Rows PyProof.V
/-- an enumerate object over the list l behind i items: fresh, or with its first tuple still held -/
def EnSt (h : Heap) (e it l S : Addr) (items : Array Value) (i : Nat) : Prop :=
  h.IsListIter it l i ∧ h.IsList l items ∧ ((∃ old, IsEnum h e it i old) ∨ ∃ (old : Value) (T : Addr) (f : Bool) (oT : Obj), IsEnumHeld h e it i old T f ∧ h.get? T = some oT ∧ T ≠ e ∧ T ≠ it ∧ T ≠ S)
section
variable {prog : Program} {w : World} {A : Around} {s : Shared} {e it l S : Addr} {items : Array Value} {i : Nat}
theorem EnSt.keep {h h' : Heap} (x : EnSt h e it l S items i) (nS : e ≠ S ∧ it ≠ S ∧ l ≠ S) (k : ∀ b o, b ≠ S → h.get? b = some o → h'.get? b = some o) : EnSt h' e it l S items i := by
  obtain ⟨a1, a2, a3⟩ := x
  refine ⟨a1.at fun o q => k it o nS.2.1 q, a2.at fun o q => k l o nS.2.2 q, ?_⟩
  rcases a3 with ⟨old, a3⟩ | ⟨old, T, f, oT, a3, a4, a5, a6, a7⟩
  · exact .inl ⟨old, k e _ nS.1 a3⟩
  · exact .inr ⟨old, T, f, oT, k e _ nS.1 a3, k T oT a7 a4, a5, a6, a7⟩
end
/-- the tuples made so far: above S, rising, the number and the item -/
structure EnG (items : Array Value) (lo : Addr) (h : Heap) (as : List Addr) : Prop where
  up : as.Pairwise (· < ·)
  lo : ∀ a ∈ as, lo < a
  at_ : ∀ (j : Nat) (a : Addr), as[j]? = some a → ∃ (t : Tok) (x : Value), items[j]? = some x ∧ h.get? a = some { cls := .type "tuple", data := .seq #[.int j t, x] }
theorem EnG.lt {items : Array Value} {lo : Addr} {h : Heap} {as : List Addr} (g : EnG items lo h as) {a : Addr} (m : a ∈ as) : a < h.objs.size := by
  obtain ⟨j, hj⟩ := List.mem_iff_getElem?.mp m
  obtain ⟨_, _, _, z⟩ := g.at_ j a hj
  exact Heap.lt_size z
end PySem
namespace M
open PySem PySem.Spec PyProof.Rows L2 G
def enumKV : Nat → List V → List (Key × V)
  | _, [] => []
  | n, x :: xs => (.inl (n : Int), x) :: enumKV (n + 1) xs
def enumKD : Nat → List D → List (Key × D)
  | _, [] => []
  | n, x :: xs => (.inl (n : Int), x) :: enumKD (n + 1) xs
theorem enumK_den {K : PySem.W.Frag} {al : List Addr} {G : Hp} : ∀ (n : Nat) {vs : List V} {ds : List D}, DenL K al G vs ds → DenK K al G (enumKV n vs) (enumKD n ds)
  | _, _, _, .nil => .nil
  | n, _, _, .cons h r => .cons h (enumK_den (n + 1) r)
def tListEnum (K : PySem.W.Frag) (ta : TA) : TE := fun σ H Q => ta σ H fun vs H1 => ∃ a xs, vs = [.ref a] ∧ SqL K H1 a xs ∧
  ∀ (H' : Hp) (p : Addr) (ts : List Addr), (∀ b o, H1 b = some o → H' b = some o) → H1 p = none → (∀ t ∈ ts, H1 t = none) → p ∉ ts → H' p = some (.lst (ts.map V.ref)) → Paired (fun (t : Addr) (q : Key × V) => H' t = some (.tup [kV q.1, q.2])) ts (enumKV 0 xs) → Q (.ref p) H'
section
variable {K : PySem.W.Frag} {tb : List (Addr × Str)} {W : WX} {tA : TA} {A : MA} {δ : Env} {c : SH} {Ψ : XD} {Φ : QD}
def listEM (a : MA) : ME := fun δ c Ψ Φ => a δ c Ψ fun xs c1 => oneD xs fun x => match lstD (view c1 x) with
  | some ds => Φ (.lst ((enumKD 0 ds).map pairD)) c1
  | none => False
theorem snd_listE (hA : SndA K tb W tA A) : SndE K tb W (tListEnum K tA) (listEM A) := by
  intro al G c H σ δ Ψ Φ Q g m q
  refine hA al G c H σ δ Ψ _ _ g m fun xs c1 al1 G1 H1 vs r1 l1 d1 m1 => ?_
  obtain ⟨x, v, rfl, rfl, dx, m2⟩ := oneD_of m1 d1
  split at m2
  · rename_i ys e
    obtain ⟨b, us, rfl, hq, dn⟩ := lst_vw e (r1.vw dx)
    refine ⟨b, us, rfl, hq, fun H' p ts e1 e2 e3 e4 e5 e6 => ?_⟩
    obtain ⟨G', R', L', D'⟩ := new_items r1 e1 e2 e3 e5 e6 (enumK_den 0 dn)
    exact q _ c1 al1 G' H' _ R' (l1.trans L') D' m2
  · cases m2
def leK (Φ : QD) (x : D) (c1 : SH) : Prop := match lstD (view c1 x) with
  | some ds => Φ (.lst ((enumKD 0 ds).map pairD)) c1
  | none => False
theorem e_listE (h : A δ c Ψ fun xs c1 => oneD xs fun x => leK Φ x c1) : listEM A δ c Ψ Φ := h
instance [hA : Ok (SndA K tb W tA A)] : Ok (SndE K tb W (tListEnum K tA) (listEM A)) := ⟨snd_listE hA.ok⟩
instance : M.W (listEM A δ c Ψ Φ) (A δ c Ψ fun xs c1 => oneD xs fun x => leK Φ x c1) := ⟨e_listE⟩
end
end M
set_option Elab.async false
set_option linter.all false
set_option maxRecDepth 100000
set_option maxHeartbeats 3900000
namespace M
open PySem PySem.Spec PyProof.Rows L2 G
def rReprS : List V → Hp → VK → Prop := fun xs H Q => (xs = [.non] ∧ Q (.str (Str.ofString "None")) H) ∨ ∃ z : Str, xs = [.str z] ∧ (reprText z).length ≤ sizeLine ∧ Q (.str (reprText z)) H
theorem call_reprS {X : Cx} : CallR X (.builtin "repr") rReprS := by
  intro pins s σ H xs us Q I r h
  rcases h with ⟨rfl, q⟩ | ⟨z, rfl, hz, q⟩
  · obtain ⟨u, rfl, ru⟩ := vals1 r
    cases (show u = Value.none from ru)
    exact PySem.P.repr_of_none ⟨.str _, H, I.tok _, ⟨_, rfl⟩, q⟩
  · obtain ⟨u, rfl, ru⟩ := vals1 r
    obtain ⟨t, e⟩ : ∃ t, u = Value.str z t := ru
    subst e
    exact PySem.P.repr_of_str (hsz := hz) ⟨.str _, H, I.tok _, ⟨_, rfl⟩, q⟩
def reprSD (xs : List D) (c : SH) (Φ : QD) : Prop := oneD xs fun x => match x with
  | .non => Φ (.str (Str.ofString "None")) c
  | .str z => (reprText z).length ≤ sizeLine ∧ Φ (.str (reprText z)) c
  | _ => False
section
variable {K : PySem.W.Frag} {tb : List (Addr × Str)}
theorem dc_reprS : DCall K tb rReprS reprSD := by
  intro al G c H xs ds Φ Q R hd m q
  obtain ⟨x, v, rfl, rfl, dx, m2⟩ := oneD_of m hd
  split at m2
  · cases dx
    exact .inl ⟨rfl, q _ c al G H _ R .refl (.str _) m2⟩
  · cases dx
    exact .inr ⟨_, rfl, m2.1, q _ c al G H _ R .refl (.str _) m2.2⟩
  · cases m2
instance : Ok (DCall K tb rReprS reprSD) := ⟨dc_reprS⟩
end
/-- what is shown, whatever the data -/
theorem e_reprA {x : D} {p : PyData} {c : SH} {Φ : QD} (e : pyZ (pyOZ c) x = some p) (h1 : p.showable = true) (h2 : p.depth ≤ 60) (h3 : p.shown.length ≤ sizeLine) (q : Φ (.str p.shown) c) : orC reprD (orC reprZD reprSD) [x] c Φ := by
  have big : conP p = true → orC reprD (orC reprZD reprSD) [x] c Φ := fun h0 => by
    refine .inr (.inl ?_)
    unfold reprZD oneD
    dsimp only
    rw [e]
    exact ⟨⟨h0, h1, h2, h3⟩, q⟩
  cases x with
  | non =>
    simp only [pyZ, Option.some.injEq] at e
    subst e
    rw [PyData.shown] at q
    exact .inr (.inr q)
  | bl b =>
    simp only [pyZ, Option.some.injEq] at e
    subst e
    refine .inl ?_
    rw [PyData.shown] at q
    exact q
  | int i =>
    simp only [pyZ, Option.some.injEq] at e
    subst e
    rw [PyData.shown] at q
    exact .inl ⟨by simpa [PyData.showable] using h1, q⟩
  | str z =>
    simp only [pyZ, Option.some.injEq] at e
    subst e
    rw [PyData.shown] at q h3
    exact .inr (.inr ⟨h3, q⟩)
  | lst xs =>
    simp only [pyZ, Option.map_eq_some_iff] at e
    obtain ⟨ps, _, rfl⟩ := e
    exact big rfl
  | tup xs =>
    simp only [pyZ, Option.map_eq_some_iff] at e
    obtain ⟨ps, _, rfl⟩ := e
    exact big rfl
  | dic xs =>
    simp only [pyZ, Option.map_eq_some_iff] at e
    obtain ⟨ps, _, rfl⟩ := e
    exact big rfl
  | obj k =>
    simp only [pyZ] at e
    unfold pyOZ at e
    split at e
    · simp only [Option.map_eq_some_iff] at e
      obtain ⟨ps, _, rfl⟩ := e
      exact big rfl
    · simp only [Option.map_eq_some_iff] at e
      obtain ⟨ps, _, rfl⟩ := e
      exact big rfl
    · cases e
  | _ => simp [pyZ] at e
end M
set_option Elab.async false
set_option linter.all false
set_option maxRecDepth 100000
set_option maxHeartbeats 3900000
namespace M
open PySem PySem.Spec PyProof.Rows L2 G
end M
set_option Elab.async false
set_option linter.all false
set_option maxRecDepth 100000
set_option maxHeartbeats 3900000
namespace K14
open PySem PySem.Spec PyProof.Rows L2 G M
def topS (i : Nat) : Stmt := PySem.Challenge.pw_chaincompass_k14_ranks_and_kernels.main.body.getD i (.Pass ⟨0, 0, 0, 0⟩)
abbrev s_divisor_of : Stmt := topS 1
theorem sc_divisor_of : FnScope ["one", "other", "left", "right"] ["one", "other"] (defScope s_divisor_of) := ⟨rfl, rfl, rfl, by decide +kernel, rfl, by decide +kernel, by decide +kernel⟩
abbrev s_primitive : Stmt := topS 2
theorem sc_primitive : FnScope ["row", "divisor", "number"] ["row"] (defScope s_primitive) := ⟨rfl, rfl, rfl, by decide +kernel, rfl, by decide +kernel, by decide +kernel⟩
abbrev s_cleared : Stmt := topS 3
theorem sc_cleared : FnScope ["row", "place", "by", "number", "other"] ["row", "place", "by"] (defScope s_cleared) := ⟨rfl, rfl, rfl, by decide +kernel, rfl, by decide +kernel, by decide +kernel⟩
abbrev s_first_place : Stmt := topS 4
theorem sc_first_place : FnScope ["row", "place", "number"] ["row"] (defScope s_first_place) := ⟨rfl, rfl, rfl, by decide +kernel, rfl, by decide +kernel, by decide +kernel⟩
abbrev s_reduced : Stmt := topS 5
theorem sc_reduced : FnScope ["rows", "found", "row", "left", "place", "other", "start"] ["rows"] (defScope s_reduced) := ⟨rfl, rfl, rfl, by decide +kernel, rfl, by decide +kernel, by decide +kernel⟩
abbrev s_rank_of : Stmt := topS 6
theorem sc_rank_of : FnScope ["rows"] ["rows"] (defScope s_rank_of) := ⟨rfl, rfl, rfl, by decide +kernel, rfl, by decide +kernel, by decide +kernel⟩
abbrev s_upright : Stmt := topS 7
theorem sc_upright : FnScope ["vector", "found", "start", "number"] ["vector"] (defScope s_upright) := ⟨rfl, rfl, rfl, by decide +kernel, rfl, by decide +kernel, by decide +kernel⟩
abbrev s_kernel_of : Stmt := topS 8
theorem sc_kernel_of : FnScope ["rows", "width", "found", "basis", "shared", "place", "row", "free", "vector"] ["rows", "width"] (defScope s_kernel_of) := ⟨rfl, rfl, rfl, by decide +kernel, rfl, by decide +kernel, by decide +kernel⟩
abbrev s_l_cell : Stmt := topS 10
theorem sc_l_cell : FnScope ["_law_script", "_law_k"] ["_law_script", "_law_k"] (defScope s_l_cell) := ⟨rfl, rfl, rfl, by decide +kernel, rfl, by decide +kernel, by decide +kernel⟩
abbrev s_l_box : Stmt := topS 11
theorem sc_l_box : FnScope ["_law_cell_here"] ["_law_cell_here"] (defScope s_l_box) := ⟨rfl, rfl, rfl, by decide +kernel, rfl, by decide +kernel, by decide +kernel⟩
abbrev s_l_take : Stmt := topS 12
theorem sc_l_take : FnScope ["_law_box_here", "_law_many", "_law_digit", "_law_found"] ["_law_box_here", "_law_many"] (defScope s_l_take) := ⟨rfl, rfl, rfl, by decide +kernel, rfl, by decide +kernel, by decide +kernel⟩
abbrev s_l_rows : Stmt := topS 13
theorem sc_l_rows : FnScope ["_law_box_here", "_law_width", "_law_found", "_law_k", "_law_way", "_law_row", "_law_one", "_law_other", "_law_a", "_law_b", "_law_place", "_law_x", "_law_y"] ["_law_box_here"] (defScope s_l_rows) := ⟨rfl, rfl, rfl, by decide +kernel, rfl, by decide +kernel, by decide +kernel⟩
abbrev s_l_rank : Stmt := topS 14
theorem sc_l_rank : FnScope ["_law_rows_here", "_law_row", "_law_left", "_law_before", "_law_found", "_law_places", "_law_at", "_law_lead", "_law_place", "_law_other", "_law_a", "_law_b"] ["_law_rows_here"] (defScope s_l_rank) := ⟨rfl, rfl, rfl, by decide +kernel, rfl, by decide +kernel, by decide +kernel⟩
abbrev s_l_divisor : Stmt := topS 15
theorem sc_l_divisor : FnScope ["_law_row", "_law_found", "_law_number", "_law_one", "_law_other"] ["_law_row"] (defScope s_l_divisor) := ⟨rfl, rfl, rfl, by decide +kernel, rfl, by decide +kernel, by decide +kernel⟩
abbrev s_l_upright : Stmt := topS 16
theorem sc_l_upright : FnScope ["_law_vector", "_law_first", "_law_number"] ["_law_vector"] (defScope s_l_upright) := ⟨rfl, rfl, rfl, by decide +kernel, rfl, by decide +kernel, by decide +kernel⟩
abbrev s_l_kernel_right : Stmt := topS 17
theorem sc_l_kernel_right : FnScope ["_law_rows_here", "_law_width", "_law_rank_here", "_law_found", "_law_vector", "_law_row", "_law_a", "_law_b"] ["_law_rows_here", "_law_width", "_law_rank_here"] (defScope s_l_kernel_right) := ⟨rfl, rfl, rfl, by decide +kernel, rfl, by decide +kernel, by decide +kernel⟩
abbrev s_l_wide_right : Stmt := topS 18
theorem sc_l_wide_right : FnScope ["_law_box_here", "_law_width", "_law_size", "_law_rows_here", "_law_at", "_law_row", "_law_due", "_law_a", "_law_b", "_law_place"] ["_law_box_here"] (defScope s_l_wide_right) := ⟨rfl, rfl, rfl, by decide +kernel, rfl, by decide +kernel, by decide +kernel⟩
abbrev s_law : Stmt := topS 19
theorem sc_law : FnScope ["_law_script", "_law_k", "_law_box_here", "_law_width", "_law_rows_here", "_law_kept", "_law_due", "_law_turn", "_law_told", "_law_vector", "_law_held", "_law_row"] ["_law_script"] (defScope s_law) := ⟨rfl, rfl, rfl, by decide +kernel, rfl, by decide +kernel, by decide +kernel⟩
structure Top (P : Program) (K : PySem.W.Frag) (mg : Str → Option Value) where
  f_divisor_of : Addr
  fd_divisor_of : FuncData
  F_divisor_of : FunV K "divisor_of" "divisor_of" s_divisor_of f_divisor_of fd_divisor_of
  b_divisor_of : Binds K fd_divisor_of ["one", "other"] []
  g_divisor_of : mg "divisor_of" = some (.ref f_divisor_of)
  f_primitive : Addr
  fd_primitive : FuncData
  F_primitive : FunV K "primitive" "primitive" s_primitive f_primitive fd_primitive
  b_primitive : Binds K fd_primitive ["row"] []
  g_primitive : mg "primitive" = some (.ref f_primitive)
  f_cleared : Addr
  fd_cleared : FuncData
  F_cleared : FunV K "cleared" "cleared" s_cleared f_cleared fd_cleared
  b_cleared : Binds K fd_cleared ["row", "place", "by"] []
  g_cleared : mg "cleared" = some (.ref f_cleared)
  f_first_place : Addr
  fd_first_place : FuncData
  F_first_place : FunV K "first_place" "first_place" s_first_place f_first_place fd_first_place
  b_first_place : Binds K fd_first_place ["row"] []
  g_first_place : mg "first_place" = some (.ref f_first_place)
  c_first_place : Addr
  P_first_place : Addr
  hc_first_place : fd_first_place.code = .ref c_first_place
  f_reduced : Addr
  fd_reduced : FuncData
  F_reduced : FunV K "reduced" "reduced" s_reduced f_reduced fd_reduced
  b_reduced : Binds K fd_reduced ["rows"] []
  g_reduced : mg "reduced" = some (.ref f_reduced)
  f_rank_of : Addr
  fd_rank_of : FuncData
  F_rank_of : FunV K "rank_of" "rank_of" s_rank_of f_rank_of fd_rank_of
  b_rank_of : Binds K fd_rank_of ["rows"] []
  g_rank_of : mg "rank_of" = some (.ref f_rank_of)
  f_upright : Addr
  fd_upright : FuncData
  F_upright : FunV K "upright" "upright" s_upright f_upright fd_upright
  b_upright : Binds K fd_upright ["vector"] []
  g_upright : mg "upright" = some (.ref f_upright)
  f_kernel_of : Addr
  fd_kernel_of : FuncData
  F_kernel_of : FunV K "kernel_of" "kernel_of" s_kernel_of f_kernel_of fd_kernel_of
  b_kernel_of : Binds K fd_kernel_of ["rows", "width"] []
  g_kernel_of : mg "kernel_of" = some (.ref f_kernel_of)
  f_l_cell : Addr
  fd_l_cell : FuncData
  F_l_cell : FunV K "_law_cell" "_law_cell" s_l_cell f_l_cell fd_l_cell
  b_l_cell : Binds K fd_l_cell ["_law_script", "_law_k"] []
  g_l_cell : mg "_law_cell" = some (.ref f_l_cell)
  f_l_box : Addr
  fd_l_box : FuncData
  F_l_box : FunV K "_law_box" "_law_box" s_l_box f_l_box fd_l_box
  b_l_box : Binds K fd_l_box ["_law_cell_here"] []
  g_l_box : mg "_law_box" = some (.ref f_l_box)
  f_l_take : Addr
  fd_l_take : FuncData
  F_l_take : FunV K "_law_take" "_law_take" s_l_take f_l_take fd_l_take
  b_l_take : Binds K fd_l_take ["_law_box_here", "_law_many"] []
  g_l_take : mg "_law_take" = some (.ref f_l_take)
  f_l_rows : Addr
  fd_l_rows : FuncData
  F_l_rows : FunV K "_law_rows" "_law_rows" s_l_rows f_l_rows fd_l_rows
  b_l_rows : Binds K fd_l_rows ["_law_box_here"] []
  g_l_rows : mg "_law_rows" = some (.ref f_l_rows)
  f_l_rank : Addr
  fd_l_rank : FuncData
  F_l_rank : FunV K "_law_rank" "_law_rank" s_l_rank f_l_rank fd_l_rank
  b_l_rank : Binds K fd_l_rank ["_law_rows_here"] []
  g_l_rank : mg "_law_rank" = some (.ref f_l_rank)
  f_l_divisor : Addr
  fd_l_divisor : FuncData
  F_l_divisor : FunV K "_law_divisor" "_law_divisor" s_l_divisor f_l_divisor fd_l_divisor
  b_l_divisor : Binds K fd_l_divisor ["_law_row"] []
  g_l_divisor : mg "_law_divisor" = some (.ref f_l_divisor)
  f_l_upright : Addr
  fd_l_upright : FuncData
  F_l_upright : FunV K "_law_upright" "_law_upright" s_l_upright f_l_upright fd_l_upright
  b_l_upright : Binds K fd_l_upright ["_law_vector"] []
  g_l_upright : mg "_law_upright" = some (.ref f_l_upright)
  f_l_kernel_right : Addr
  fd_l_kernel_right : FuncData
  F_l_kernel_right : FunV K "_law_kernel_right" "_law_kernel_right" s_l_kernel_right f_l_kernel_right fd_l_kernel_right
  b_l_kernel_right : Binds K fd_l_kernel_right ["_law_rows_here", "_law_width", "_law_rank_here"] []
  g_l_kernel_right : mg "_law_kernel_right" = some (.ref f_l_kernel_right)
  f_l_wide_right : Addr
  fd_l_wide_right : FuncData
  F_l_wide_right : FunV K "_law_wide_right" "_law_wide_right" s_l_wide_right f_l_wide_right fd_l_wide_right
  b_l_wide_right : Binds K fd_l_wide_right ["_law_box_here"] []
  g_l_wide_right : mg "_law_wide_right" = some (.ref f_l_wide_right)
  f_law : Addr
  fd_law : FuncData
  F_law : FunV K "law" "law" s_law f_law fd_law
  b_law : Binds K fd_law ["_law_script"] []
  g_law : mg "law" = some (.ref f_law)
  m_isinstance : mg "isinstance" = none
  m_int : mg "int" = none
  m_str : mg "str" = none
  m_len : mg "len" = none
  m_max : mg "max" = none
  m_min : mg "min" = none
  m_range : mg "range" = none
  m_list : mg "list" = none
  m_tuple : mg "tuple" = none
  m_repr : mg "repr" = none
  m_enumerate : mg "enumerate" = none
  m_abs : mg "abs" = none
  m_zip : mg "zip" = none
  m_sum : mg "sum" = none
  m_next : mg "next" = none
variable {P : Program} {K : PySem.W.Frag} {mg : Str → Option Value}
def Top.tabs (T : Top P K mg) : List (Addr × Str) := [(T.P_first_place, ("first_place" : Str) ++ ".<locals>." ++ "<genexpr>")]
structure Tbs (T : Top P K mg) (base : Heap) : Prop where
  t_first_place : LamX.TabB base mg T.c_first_place T.P_first_place
theorem Tbs.up {T : Top P K mg} {B B' : Heap} (t : Tbs T B) (k : ∀ b o, B.get? b = some o → B'.get? b = some o) : Tbs T B' := ⟨tab_up t.t_first_place k⟩
theorem Top.in_first_place (T : Top P K mg) : (T.P_first_place, ("first_place" : Str) ++ ".<locals>." ++ "<genexpr>") ∈ T.tabs := List.mem_cons_self
theorem Top.un_first_place (T : Top P K mg) : ∀ z ∈ T.tabs, z.1 = T.P_first_place → z.2 = ("first_place" : Str) ++ ".<locals>." ++ "<genexpr>" := by
  intro z hz e
  simp only [Top.tabs, List.mem_cons, List.not_mem_nil, or_false] at hz
  rcases hz with rfl
  · rfl
end K14
set_option Elab.async false
set_option linter.all false
set_option maxRecDepth 100000
set_option maxHeartbeats 3900000
namespace G
open PySem Spec PyProof.Rows L2
/-- its frame's context -/
abbrev genE (X : Cx) (scope : Scope) (C : Addr) (code : Value) : Env := genEnv scope (cloFrom X.env.cells scope.names []) C code builtinsNs X.env
abbrev genX (X : Cx) (s : Shared) (H : Hp) (scope : Scope) (C : Addr) (code : Value) (fp : List Addr) : Cx :=
  { X with s_0 := s, H_0 := H, A := X.A.in1.in1.deeper (genE X scope C code), env := genE X scope C code, outer := X.stack, stack := genE X scope C code :: X.stack, ex := fp, fn := fun _ => false, pn := [], xe := fun _ _ => False }
/-- its names: no cell of its own -/
structure GexOk (N : List Str) (sc scope : Scope) (own : List (Str × Nat)) : Prop where
  blk : BlkOk N sc scope own
  co : scope.isCoroutine = false
  nocell : ∀ y ∈ scope.names, y.2 ≠ .cell
  dot : scope.names.lookup (".0" : Str) = some NameKind.local
def gexC (N : List Str) (sc scope : Scope) (own : List (Str × Nat)) : Bool :=
  blkC N sc scope own && !scope.isCoroutine && (scope.names.all fun y => !decide (y.2 = .cell)) && decide (scope.names.lookup (".0" : Str) = some NameKind.local)
theorem gexOk_by {N : List Str} {sc scope : Scope} {own : List (Str × Nat)} (h : gexC N sc scope own = true) : GexOk N sc scope own := by
  simp only [gexC, Bool.and_eq_true, Bool.not_eq_true', decide_eq_true_eq, decide_eq_false_iff_not, List.all_eq_true] at h
  obtain ⟨⟨⟨h1, h2⟩, h3⟩, h4⟩ := h
  exact ⟨blkOk_by h1, h2, fun y hy => h3 y hy, h4⟩
section
variable {X : Cx} {pins : List (Addr × Obj)} {σ : L2.St} {H : Hp} {s : Shared}
theorem gex_start {scope : Scope} {own : List (Str × Nat)} {fp : List Addr} {code : Value} {it : Value} {s' : Shared} (I : Inv X pins σ H s) (ok : GexOk X.N X.env.scope scope own) (hN : X.N.Nodup) (hfp : ∀ b ∈ fp, FpOk X pins H b ∧ b < s.heap.objs.size)
    (ho : s'.os = s.os) (hb : AllBare s'.gens) (hn : s'.heap.Ns s.heap.objs.size (fun y => if y = ".0" then some it else none)) (kp : ∀ b o, s.heap.get? b = some o → s'.heap.get? b = some o) :
    Inv (genX X s H scope s.heap.objs.size code fp) [] (wipe σ (own.map (·.2))) H s' := by
  have hfree : ∀ y ∈ scope.names, y.2 = .free → ∃ c, X.env.cells.lookup y.1 = some c := fun y hy e => by
    rcases ok.blk.free y hy e with k | k
    · exact I.ok.has _ (.inl k)
    · exact I.ok.has _ (.inr k)
  have cm : ∀ {y c}, (cloFrom X.env.cells scope.names []).lookup y = some c → X.env.cells.lookup y = some c := fun {y c} e => (clo_in (cells := X.env.cells) (names := scope.names) (fun z hz hz2 => hfree z hz hz2) e).1
  have look : ∀ {y}, scope.names.lookup y = some .free → ∃ c, (cloFrom X.env.cells scope.names []).lookup y = some c := fun {y} hl => by
    have hy : (y, NameKind.free) ∈ scope.names := PySem.mem_of_lookup hl
    exact mem_lookup (cloFrom_has (cells := X.env.cells) (acc := []) hy)
  have okB : (genX X s H scope s.heap.objs.size code fp).Ok := by
    refine ⟨I.ok.mod, ok.blk.kind, I.ok.glob, rfl, Nat.le_refl _, fun y z c e1 e2 => I.ok.inj y z c (cm e1) (cm e2), fun y hy => ?_, fun y c z e => absurd (show false = true from z) Bool.false_ne_true, fun hc => I.ok.hd hc, Around.frames_deeper I.ok.frames, .inr ⟨rfl, rfl⟩, fun b hb => ⟨?_, fun y c e z => ?_⟩,
      I.bs, Nat.le_trans I.ok.bsz I.sz, fun b o e hb => ?_, fun b hb z => ?_, I.stack, I.stkFree⟩
    · have hy : scope.names.lookup y = some .cell ∨ scope.names.lookup y = some .free := hy
      rcases hy with hy | hy
      · exact absurd rfl (ok.nocell _ (PySem.mem_of_lookup hy))
      · exact look hy
    · show b ≠ s.heap.objs.size
      exact Nat.ne_of_lt (hfp b hb).2
    · exact (hfp b hb).1.2.2.2.2.1 y c (cm e) z
    · rcases (hfp b hb).1.2.2.2.1 with z | z
      · exact I.ok.noex b o e z
      · exact absurd (Nat.lt_of_lt_of_le (Heap.lt_size e) (Nat.le_trans I.ok.bsz z)) (Nat.lt_irrefl _)
    · rcases List.mem_cons.mp (I.stkSub b z) with z | z
      · exact (hfp b hb).1.2.1 z
      · exact (hfp b hb).1.2.2.1 z
  refine ⟨okB, ho, hb, Un.kept kp, ⟨_, hn, fun i y av e1 e2 e3 => ?_⟩, fun y c e => ?_, ?_, fun y c e => I.freeC y c (cm e), fun p hp => ?_, I.hok.kept kp, by rw [wipe_length]; exact I.len⟩
  · obtain ⟨e2, hne⟩ := wipe_some e2
    have no : ∀ k, scope.names.lookup y = some k → ¬ (k = .local ∨ k = .cell) := fun k e hh => by
      rcases ok.blk.own _ (PySem.mem_of_lookup e) hh with e' | e'
      · obtain ⟨p, hp, hpy⟩ := List.mem_map.mp e'
        have e3 := ok.blk.ix p hp
        have : p.1 = y := hpy
        rw [this] at e3
        exact hne (List.mem_map.mpr ⟨p, hp, nodup_ix hN e3 e1⟩)
      · exact e' (List.mem_of_getElem? e1)
    have e3 : Vis scope y := e3
    rcases e3 with e3 | e3 | e3
    · exact absurd (.inl rfl) (no _ e3)
    · exact absurd (.inr rfl) (no _ e3)
    · obtain ⟨m, hn, hl⟩ := I.loc
      have hvis : Vis X.env.scope y := (ok.blk.free _ (PySem.mem_of_lookup e3) rfl).elim (fun k => .inr (.inl k)) (fun k => .inr (.inr k))
      obtain ⟨w, r, q⟩ := hl i y av e1 e2 hvis
      obtain ⟨c, h1⟩ := look e3
      refine ⟨w, r, .inr ⟨.inr e3, c, h1, ?_⟩⟩
      rcases q with ⟨k, _⟩ | ⟨_, c', e', z⟩
      · have k : X.env.scope.names.lookup y = some .local := k
        rcases ok.blk.free _ (PySem.mem_of_lookup e3) rfl with k' | k' <;> rw [show X.env.scope.names.lookup y = _ from k'] at k <;> cases k
      · rw [cm h1] at e'
        cases e'
        exact z.keeps kp
  · obtain ⟨w, z⟩ := I.cell y c (cm e)
    exact ⟨w, z.keeps kp⟩
  · exact I.hok.fresh (Nat.le_refl _)
  · exact absurd (show p ∈ ([] : List (Addr × Obj)) ++ [] from hp) (by simp)
end
theorem bare_set {s : Shared} {g : Nat} {x : GenState} (h : AllBare s.gens) (hx : x.bare = true) : AllBare (s.setGen g x).gens := by
  intro y hy
  obtain ⟨i, hi, rfl⟩ := Array.mem_iff_getElem.mp hy
  have hi' : i < s.gens.size := by simpa [Shared.setGen] using hi
  by_cases e : g = i
  · subst e
    have : (s.setGen g x).gens[g] = x := by simp [Shared.setGen]
    rw [this]
    exact hx
  · have z : (s.setGen g x).gens[i] = s.gens[i] := Array.getElem_setIfInBounds_ne hi' e
    rw [z]
    exact h _ (Array.getElem_mem hi')
theorem inv_gens {X : Cx} {pins : List (Addr × Obj)} {σ : L2.St} {H : Hp} {s s' : Shared} (I : Inv X pins σ H s) (ho : s'.os = s.os) (hb : AllBare s'.gens) (kp : ∀ b o, s.heap.get? b = some o → s'.heap.get? b = some o) : Inv X pins σ H s' :=
  I.call' (ch := []) ho (Un.kept kp) (I.hok.kept kp) hb fun b z => absurd z (by simp)
section
variable {prog : Program} {w : World} {A : Around} {E : Value → Shared → Prop} {s : Shared}
theorem call_nextG {a : Addr} {g n : Nat} {d : Value} {gs : GenState} {P : Nat → Shared → Shared → Prop} {Y : Protocol} {Q : Value → Shared → Prop} (hh : A.handled = none)
    (hl : s.heap.NoLimit) (hroom : A.depth < recursionLimit)
    (hg : s.heap.IsGen a g) (hgs : s.gens[g]? = some gs)
    (hgo : gs.Goes (model prog w) A.in1.in1 (fun n s₀ r s₁ => r = .ok .next ∧ P n s₀ s₁) Y n (.send .none) (s.setGen g .running))
    (hY : ∀ v s₁ gs', gs'.bare = true → Y (n - 1) (s.setGen g .running) v s₁ (fun r' s'' => match n with
        | 0 => False
        | m + 1 => gs'.Goes (model prog w) A.in1.in1 (fun n s₀ r s₁ => r = .ok .next ∧ P n s₀ s₁) Y m r' s'') → Q v (s₁.setGen g gs'))
    (hP : ∀ s₁, P n (s.setGen g .running) s₁ → ∀ h', (∀ b o, s₁.heap.get? b = some o → h'.get? b = some o) → Q d { s₁.setGen g .finished with heap := h' }) :
    wpAny (model prog w) A (call (.builtin "next") [.ref a, d]) Q E s := by
  refine Calls.call_function_entry (by decide +kernel) (by decide +kernel) PySem.W.kdk_entry_next (PySem.W.kdk_args_next2 _ _) ?_
  unfold Builtin.«next»
  refine wpAny_bind (m := someArgs "next" 1 2 _) (wpAny_of_eq (a := [Value.ref a, d]) (by first | rfl | kernel_rfl!) ?_)
  dsimp only
  refine wpAny_bind (wpAny_specialOf (name := Str.ofString "__next__") hg.typeIs slot_gen_next.lookup ?_)
  refine wpAny_ite_split (fun hab => absurd hab (by decide)) (fun _ => ?_)
  refine wpAny_bind (wpAny_pyNext_genexpQ (A := A.in1) (P := P) (Y := Y) (n := n) hh hl hroom hg hgs hgo (fun v s₁ gs' hb hv => ?_) fun s₁ hp h' hk => ?_)
  · exact wpAny_pure ⟨_, rfl, hY v s₁ gs' hb hv⟩
  · exact wpAny_pure ⟨_, rfl, hP s₁ hp h' hk⟩
end
def tNext (T : List (Addr × Str)) (wi : TI) (g : TG) (tt : TT) (te : TE) (vs : List Nat) : TE := fun σ H Q => wi σ H fun J H1 => LamX.Tabs T H1 ∧ ∀ H2, LamX.ExtN H1 H2 → LamX.Tabs T H2 → ∃ W : Nat → Nat → Hp → Prop, (∃ m, W 0 m H2) ∧ ∀ i m H, W i m H →
  (J.stop i H ∧ Q .non H) ∨ (J.go i H ∧ ∃ Nx : Hp → Prop, (∀ H', Nx H' → ∃ m', m' < m ∧ W (i + 1) m' H') ∧ ∀ x H', J.yld i H x H' → g x (wipe σ vs) H' fun σ2 H2 => wipe σ2 vs = wipe σ vs ∧ tt σ2 H2 fun b H3 => if b = true then te σ2 H3 Q else Nx H3)
section
variable {X : Cx} {pins : List (Addr × Obj)} {σ : L2.St} {H : Hp} {s : Shared}
/-- how it ends: nothing is left, or an item -/
def NxEnd (X : Cx) (pins : List (Addr × Obj)) (σ : L2.St) (Q : VK) (r : Option Value) (s' : Shared) : Prop := ∃ H', Inv X pins σ H' s' ∧ match r with
  | none => Q .non H'
  | some u => ∃ v, RelV v u ∧ Q v H'
theorem over_gen {A : Around} {elt : Expr} {gs : List Comprehension} {scope : Scope} {pos : Pos} {it acc : Value} {env : Env} : A.over (.compLoop (.GeneratorExp elt gs scope pos) 0 it acc env) [] = A.deeper env := by
  first
    | rfl
    | (obtain ⟨hd, d, fr, gs, u⟩ := A; simp [Around.over, Around.deeper, marksOver, frameCount, unitsOf, envsOf, guardsOf, pushEnvs, pushGuards, Code.envs, Code.env?, Code.isFrame, Code.guards, Code.isGuard, Code.weight, Code.frames, Code.isCreation, Code.isCaller, Code.cUnits])
theorem seg_nextLoop {elt tg iter : Expr} {ifs : List Expr} {scope : Scope} {own : List (Str × Nat)} {gpos : Pos} {g : TG} {tt : TT} {te : TE} {fp : List Addr} {it : Addr} {tn : Nat → Heap → Prop} {J : It} {code : Value} {Q : VK} {W : Nat → Nat → Hp → Prop}
    (hc : X.calm = true) (I : Inv X pins σ H s) (hfp : ∀ b ∈ fp, FpOk X pins H b ∧ b < s.heap.objs.size) (TU : Turn X.prog X.w X.K tg J fp it tn) (hco : scope.isCoroutine = false)
    (pg : PG (genX X s H scope s.heap.objs.size code fp) tg g) (pt : PTs (genX X s H scope s.heap.objs.size code fp) ifs tt) (pe : PE (genX X s H scope s.heap.objs.size code fp) elt te)
    (turn : ∀ i m H, W i m H →
      (J.stop i H ∧ Q .non H) ∨ (J.go i H ∧ ∃ Nx : Hp → Prop, (∀ H', Nx H' → ∃ m', m' < m ∧ W (i + 1) m' H') ∧ ∀ x H', J.yld i H x H' → g x (wipe σ (own.map (·.2))) H' fun σ2 H2 => wipe σ2 (own.map (·.2)) = wipe σ (own.map (·.2)) ∧ tt σ2 H2 fun b H3 => if b = true then te σ2 H3 Q else Nx H3)) :
    ∀ (m i : Nat) (s₀ s5 : Shared) (H5 : Hp), Inv (genX X s H scope s.heap.objs.size code fp) [] (wipe σ (own.map (·.2))) H5 s5 → tn i s5.heap → (∀ b ∈ fp, H5 b = none) → W i m H5 →
      Seg (model X.prog X.w) X.A.in1.in1 (fun n s₀ r s₁ => r = .ok .next ∧ NxEnd X pins σ Q none s₁) (fun m s₀ v s₁ κ => NxEnd X pins σ Q (some v) s₁) 1 s₀
        (.compLoop (.GeneratorExp elt [⟨tg, iter, ifs, 0⟩] scope gpos) 0 (.ref it) .none (genE X scope s.heap.objs.size code))
        ((model X.prog X.w).den (.compLoop (.GeneratorExp elt [⟨tg, iter, ifs, 0⟩] scope gpos) 0 (.ref it) .none (genE X scope s.heap.objs.size code))) [] s5 := by
  intro m
  induction m using Nat.strongRecOn with
  | ind m ih =>
    intro i s₀ s5 H5 I5 st5 n5 w5
    have stat : ∀ {σ' : L2.St} {H' : Hp} {s' : Shared}, Inv (genX X s H scope s.heap.objs.size code fp) [] σ' H' s' → (∀ b ∈ fp, H' b = none) → ∀ b ∈ fp, FpOk (genX X s H scope s.heap.objs.size code fp) [] H' b := fun {σ' H' s'} I' hn b hb =>
      ⟨hn b hb, (I'.ok.exf b hb).1, I'.ok.exfs b hb, .inl hb, fun x c e => (I'.ok.exf b hb).2 x c e, fun p hp => absurd (show p ∈ ([] : List (Addr × Obj)) ++ [] from hp) (by simp)⟩
    have back : ∀ {pl : List (Addr × Obj)} {σ' : L2.St} {H' : Hp} {s' : Shared}, Inv (genX X s H scope s.heap.objs.size code fp) pl σ' H' s' → Inv X pins σ H' s' := fun {pl σ' H' s'} I' =>
      I.call' (ch := fp) I'.os I'.base I'.hok I'.bare fun b hb => ⟨(hfp b hb).1.2.2.2.1, (hfp b hb).1.2.1, (hfp b hb).1.2.2.2.2.1, (hfp b hb).1.2.2.2.2.2⟩
    show Seg _ _ _ _ _ s₀ _ ((compTurn (.GeneratorExp elt [⟨tg, iter, ifs, 0⟩] scope gpos) 0 (.ref it) .none (genE X scope s.heap.objs.size code)).onRaise (leaving (genE X scope s.heap.objs.size code))) [] s5
    rw [compTurn_gen, Sem.onRaise_eq_wrap]
    refine seg_bind_wrap (wpAny_standAt ?_)
    rcases turn i m H5 w5 with ⟨stop, qq⟩ | ⟨go, Nx, hNx, step⟩
    · refine seg_bind_wrap ?_
      rw [over_gen]
      have td := TU.done (genX X s H scope s.heap.objs.size code fp) rfl rfl rfl hc i [] s5 _ H5 (fun _ _ => False) I5 (stat I5 n5) st5 stop
      refine thnF td fun r s6 ⟨hr, I6⟩ => ?_
      subst hr
      exact seg_end (.ok .next) ⟨rfl, H5, back I6, qq⟩
    · refine seg_bind_wrap ?_
      rw [over_gen]
      have ti := TU.item (genX X s H scope s.heap.objs.size code fp) rfl rfl rfl hc i [] s5 _ H5 (fun _ _ => False) I5 (stat I5 n5) st5 go
      refine thnF ti fun r s6 ⟨u, hr, h6⟩ => ?_
      subst hr
      refine seg_bind_wrap ?_
      rw [over_gen]
      refine thnF h6 fun _ s7 ⟨x, H7, I7, r7, y7, st7, n7⟩ => ?_
      have I7' := I7.pinned (stat I7 n7) (TU.obj _ _ st7)
      refine seg_bind_wrap ?_
      rw [over_gen]
      refine thnF (pg.run _ s7 _ H7 x u _ I7' r7 (step x H7 y7)) fun _ s8 ⟨σ8, H8, I8, hw8, q8⟩ => ?_
      refine seg_bind_wrap ?_
      rw [over_gen]
      refine thnF (pt.run _ s8 σ8 H8 _ I8 q8) fun b s9 ⟨H9, I9, q9⟩ => ?_
      cases b with
      | false =>
        simp only [Bool.false_eq_true, if_false] at q9 ⊢
        obtain ⟨m', hm, w'⟩ := hNx H9 q9
        have pin' : ∀ b ∈ fp, ∀ o, s7.heap.get? b = some o → s9.heap.get? b = some o ∧ H9 b = none := fun b hb o e =>
          let z := I9.pin (b, o) (List.mem_append_right _ (List.mem_append_right _ (mem_pinsAt hb e)))
          ⟨z.1, z.2.1⟩
        have hl : (wipe σ (own.map (·.2))).length = σ8.length := by rw [← hw8, wipe_length]
        refine seg_again rfl (ih m' hm (i + 1) s₀ s9 H9 ((I9.unpinned (pins := [])).weak hl (fun j v e => ?_)) (TU.keep _ _ _ st7 fun b hb o e => (pin' b hb o e).1) (fun b hb => ?_) w')
        · rw [← hw8] at e
          exact (wipe_some e).1
        · obtain ⟨o, e, _⟩ := TU.obj _ _ st7 b hb
          exact (pin' b hb o e).2
      | true =>
        simp only [if_true] at q9 ⊢
        have hy : ∀ v, yieldOut (genE X scope s.heap.objs.size code) v = yieldValue v := fun v => by
          have hco' : (genE X scope s.heap.objs.size code).scope.isCoroutine = false := hco
          simp only [yieldOut, hco', Bool.false_eq_true, if_false]
        simp only [hy]
        rw [Sem.bind_eq_wrap', Sem.bind_eq_wrap', Sem.wrap_wrap, Sem.wrap_wrap]
        refine seg_wrap ?_
        rw [over_gen]
        refine thnF (pe.run _ s9 σ8 H9 _ I9 q9) fun z s10 ⟨yv, H10, I10, r10, q10⟩ => ?_
        refine seg_at (seg_yield rfl rfl rfl ⟨H10, back I10, yv, r10, q10⟩)
end
section
variable {X : Cx}
theorem pe_next {T : List (Addr × Str)} {elt tg iter : Expr} {ifs : List Expr} {scope : Scope} {own : List (Str × Nat)} {gpos pos p pc : Pos} {kc : Nat} {wi : TI} {g : TG} {tt : TT} {te : TE} {k : Nat} {c P : Addr}
    (hc : X.calm = true) (hN : X.N.Nodup) (hr : Room (k + 1) X.A) (hg : Gl X "next") (hm : X.mg "next" = Option.none) (TB : LamX.TabB X.base X.mg c P) (hcode : X.env.code = .ref c)
    (hmT : (P, X.env.qual ++ "<genexpr>") ∈ T) (hu : ∀ z ∈ T, z.1 = P → z.2 = X.env.qual ++ "<genexpr>") (hi : PI X tg iter wi) (ok : GexOk X.N X.env.scope scope own)
    (hgt : ∀ (s : Shared) (H : Hp) (C : Addr) (code : Value) (fp : List Addr), PG (genX X s H scope C code fp) tg g)
    (ht : ∀ (s : Shared) (H : Hp) (C : Addr) (code : Value) (fp : List Addr), Room k (genX X s H scope C code fp).A → PTs (genX X s H scope C code fp) ifs tt)
    (he : ∀ (s : Shared) (H : Hp) (C : Addr) (code : Value) (fp : List Addr), Room k (genX X s H scope C code fp).A → PE (genX X s H scope C code fp) elt te)
    (hs : ∀ x, genFold iter X.env x = pure x := by intro _; rfl)
    (hst : starEach [.GeneratorExp elt [⟨tg, iter, ifs, 0⟩] scope gpos, .Constant .none kc pc] X.env = (false, eval (.GeneratorExp elt [⟨tg, iter, ifs, 0⟩] scope gpos) X.env) :: (false, eval (.Constant .none kc pc) X.env) :: starEach [] X.env := by rfl)
    (hst2 : starEach [.Constant .none kc pc] X.env = (false, eval (.Constant .none kc pc) X.env) :: starEach [] X.env := by rfl) :
    PE X (.Call (.Name "next" p) [.GeneratorExp elt [⟨tg, iter, ifs, 0⟩] scope gpos, .Constant .none kc pc] [] pos) (tNext T wi g tt te (own.map (·.2))) := by
  refine ⟨fun pins s σ H Q I h => ?_⟩
  have hfree : ∀ y ∈ scope.names, y.2 = .free → ∃ c, X.env.cells.lookup y.1 = some c := fun y hy e => by
    rcases ok.blk.free y hy e with k | k
    · exact I.ok.has _ (.inl k)
    · exact I.ok.has _ (.inr k)
  refine wpAny_Call_Name_kw (ld_blt (u := .builtin "next") I hg hm (by first | rfl | decide +kernel) ?_ (by decide) (by decide))
  refine PyProof.Rows.callWith_builtin1 ?_ (by rw [hst, hst2]) (by rw [hst2]; rfl)
  rw [hst]
  refine Calls.spliced_cons ?_
  refine wpAny_GeneratorExp_make ok.co (closure_ok hfree) ok.nocell ok.dot ok.blk.kind (by have := hr.dp; omega) ?_ hs
  refine thn (hi.run pins s σ H _ I h) fun xv s1 hx => thn hx fun itv s2 h2 => ?_
  obtain ⟨it, fp, tn, J, H1, e, I2, TU, st2, f2, hT, q⟩ := h2
  subst e
  refine ⟨I2.nolimit, ?_⟩
  have sz : ∀ b ∈ fp, b < s2.heap.objs.size := fun b hb => by
    obtain ⟨o, e, _⟩ := TU.obj _ _ st2 b hb
    exact Heap.lt_size e
  obtain ⟨ps, hP, htr, ha⟩ := hT _ hmT
  have hP' : s2.heap.get? P = some { cls := .none, data := .fields ps } := I2.hok P _ hP
  -- behind the code object
  have cont : ∀ (code : Value) (H3 : Hp) (s3 : Shared), Inv X pins σ H3 s3 → LamX.ExtN H1 H3 → LamX.Tabs T H3 → tn 0 s3.heap → (∀ b ∈ fp, FpOk X pins H3 b ∧ b < s3.heap.objs.size) →
      wpAny (model X.prog X.w) X.A (builtinsFor X.env.globals X.env.builtins) (fun bi s₄ =>
        ∀ h', h'.Ns s₄.heap.objs.size (fun y => if y = ".0" then some (.ref it) else none) → Heap.SameBut s₄.heap.objs.size (s₄.heap.push { cls := .type "frame", data := .dict #[] }) h' →
          (fun v s₁ => wpAny (model X.prog X.w) X.A (spliced (backTo pos ((false, eval (.Constant .none kc pc) X.env) :: starEach [] X.env))) (fun vs s₂ => wpAny (model X.prog X.w) X.A (call (.builtin "next") (v :: vs)) (EP X pins σ Q) X.xe s₂) X.xe s₁) (.ref h'.objs.size) { s₄ with
            gens := s₄.gens.push (.fresh (.compStart (.GeneratorExp elt [⟨tg, iter, ifs, 0⟩] scope gpos) 0 (.ref it) .none (genEnv scope (cloFrom X.env.cells scope.names []) s₄.heap.objs.size code bi X.env))),
            toks := s₄.toks + 1 + 1 + 1,
            heap := h'.push { cls := .type "generator", data := .fields #[.int s₄.gens.size 0, .str "<genexpr>" (s₄.toks + 1), .str (X.env.qual ++ "<genexpr>") (s₄.toks + 1 + 1)] } }) X.xe s3 := by
    intro code H3 s3 I3 e3 T3 st3 f3
    obtain ⟨bm, ob, b1, b2, b3, b4, b5, b6, b7, b8⟩ := TB.bm.keeps I3.bk
    refine wpAny_builtinsFor (m := X.mg) (by rw [I3.ok.glob]; exact I3.mod.glob.keeps I3.bk) b1 b2 b5 b6 b7 b8 ?_
    intro h' hns hsb
    obtain ⟨W, ⟨m0, w0⟩, turn⟩ := q H3 e3 T3
    have kp1 : ∀ b o, s3.heap.get? b = some o → h'.get? b = some o := fun b o e => hsb.extBut b o (Nat.ne_of_lt (Heap.lt_size e)) (Heap.get?_push_of_some _ e)
    have sz1 : h'.objs.size = s3.heap.objs.size + 1 := by rw [hsb.1, Heap.size_push]
    refine Calls.spliced_cons (PyProof.Rows.Constant_none (k := kc) (pos := pc) (Calls.spliced_nil ?_))
    generalize hgo : ({ cls := .type "generator", data := .fields #[.int s3.gens.size 0, .str "<genexpr>" (s3.toks + 1), .str (X.env.qual ++ "<genexpr>") (s3.toks + 1 + 1)] } : Obj) = go
    have kp5 : ∀ b o, s3.heap.get? b = some o → (h'.push go).get? b = some o := fun b o e => Heap.get?_push_of_some _ (kp1 b o e)
    have hh : X.A.handled = none := I3.ok.hd hc
    have hg5 : (h'.push go).IsGen h'.objs.size s3.gens.size := by
      subst hgo
      exact ⟨_, _, _, Heap.get?_push_size _ rfl, rfl, rfl, rfl⟩
    have room2 : Room k (genX X s3 H3 scope s3.heap.objs.size code fp).A := ⟨hh, by have := hr.dp; show X.A.depth + 1 + 3 * k + 5 < _; omega, by have := hr.un; show X.A.units + 1 + 1 + 3 + 16 * k + 200 < _; omega⟩
    refine call_nextG (g := s3.gens.size) (n := 1) (P := fun _ _ s₁ => NxEnd X pins σ Q none s₁) (Y := fun _ _ v s₁ _ => NxEnd X pins σ Q (some v) s₁) hh (I3.nolimit.keeps kp5) (by have := hr.dp; omega) hg5 (Array.getElem?_push_size ..) ⟨rfl, ?_⟩ ?_ ?_
    · -- the run
      generalize hs5 : ({ s3 with gens := s3.gens.push (.fresh (.compStart (.GeneratorExp elt [⟨tg, iter, ifs, 0⟩] scope gpos) 0 (.ref it) .none (genE X scope s3.heap.objs.size code))), toks := s3.toks + 1 + 1 + 1, heap := h'.push go } : Shared) = s5
      have I5 : Inv (genX X s3 H3 scope s3.heap.objs.size code fp) [] (wipe σ (own.map (·.2))) H3 (s5.setGen s3.gens.size .running) := by
        subst hs5
        refine gex_start (it := .ref it) I3 ok hN f3 rfl (bare_set (I3.bare.push rfl) rfl) ?_ kp5
        exact hns.push _
      have st5 : tn 0 (s5.setGen s3.gens.size .running).heap := TU.keep _ _ _ st3 fun b _ o e => by
        subst hs5
        exact kp5 b o e
      have loop := seg_nextLoop (iter := iter) (gpos := gpos) (m := m0) hc I3 f3 TU ok.co (hgt s3 H3 _ code fp) (ht s3 H3 _ code fp room2) (he s3 H3 _ code fp room2) turn 0 (s5.setGen s3.gens.size .running) (s5.setGen s3.gens.size .running) H3 I5 st5 (fun b hb => (f3 b hb).1.1) w0
      show Seg _ _ _ _ _ _ _ ((compStart (.GeneratorExp elt [⟨tg, iter, ifs, 0⟩] scope gpos) 0 (.ref it) .none (genE X scope s3.heap.objs.size code)).onRaise (leaving (genE X scope s3.heap.objs.size code))) [] _
      unfold compStart
      rw [Sem.onRaise_eq_wrap]
      show Seg _ _ _ _ _ _ _ ((ask >>= _).wrap _ _ _ _) [] _
      refine seg_bind_wrap (wpAny_askSetting ?_)
      split
      · exact seg_again rfl loop
      · first
          | exact seg_bind_wrap (wpAny_rule (seg_bind_wrap (wpAny_standAt (seg_bind_wrap (TU.self _ 0 _ _ _ st5 (seg_again rfl loop))))))
          | (refine seg_bind_wrap (wpAny_rule ?_); show Seg _ _ _ _ _ _ _ ((standAt iter.pos >>= _).wrap _ _ _ _) [] _; exact seg_bind_wrap (wpAny_standAt (seg_bind_wrap (TU.self _ 0 _ _ _ st5 (seg_again rfl loop)))))
    · intro v s₁ gs' hb hv
      obtain ⟨H', J', y, ry, qy⟩ := hv
      exact ⟨y, H', inv_gens J' rfl (bare_set J'.bare hb) fun _ _ e => e, ry, qy⟩
    · intro s₁ hv h'' hk
      obtain ⟨H', J', qy⟩ := hv
      exact ⟨.non, H', inv_gens J' rfl (bare_set J'.bare rfl) hk, rfl, qy⟩
  have cd : PySem.W.CodeHd s2.heap c P := TB.code.keeps I2.bk
  cases hf : codeAmong gpos ps.toList with
  | none =>
    refine wpAny_genexprCodeX hcode (cd.code hP' htr) (cd.tab hP') hf fun c' h3 tk hx hge hlt hco' hrec htab' _ => ?_
    obtain ⟨c2, oc, vs, t, e2, hoc, hd, hv⟩ := hrec
    cases e2
    have nC : H1 c' = none := I2.hok.fresh hge
    have I3 := LamX.inv_table (q := X.env.qual ++ "<genexpr>") (t' := tk) (more := #[rawInt gpos.line, rawInt gpos.col, .ref c']) (h' := h3) I2 hP hx htab'.2 hge ⟨oc, vs, t, hoc, hd, hv⟩
    have hE : LamX.ExtN H1 (upd (upd H1 P (.tbl (ps ++ #[rawInt gpos.line, rawInt gpos.col, .ref c']))) c' (LamX.CodeO c' (X.env.qual ++ "<genexpr>"))) := fun b o e n => by
      rw [upd_ne (ne_of_none e nC), upd_ne (fun z => n ps (Option.some.inj (e.symm.trans (by rw [z]; exact hP))))]
      exact e
    have eL : (ps ++ #[rawInt gpos.line, rawInt gpos.col, .ref c']).toList = ps.toList ++ [rawInt gpos.line, rawInt gpos.col, .ref c'] := by simp
    have hlt3 : s2.heap.objs.size ≤ h3.objs.size := Nat.le_trans hge (Nat.le_of_lt hlt)
    have nfp : ∀ b ∈ fp, b ≠ P := fun b hb z => by
      have := (f2 b hb).1
      rw [z, hP] at this
      cases this
    refine cont (.ref c') _ _ I3 hE (fun z hz => ?_) (TU.keep _ _ _ st2 fun b hb o e => hx b o (nfp b hb) e) fun b hb => ?_
    · by_cases hb : z.1 = P
      · rw [hu z hz hb, hb]
        refine ⟨_, by rw [upd_ne (ne_of_none hP nC), upd_same], by rw [eL]; exact PySem.TriplesOk_snoc _ _ _ _ htr, fun p' cv hcv => ?_⟩
        rw [eL] at hcv
        rcases LamX.among_app _ htr hcv with z | z
        · obtain ⟨c0, e1, e2⟩ := ha p' cv z
          exact ⟨c0, e1, hE _ _ e2 LamX.codeO_ne⟩
        · exact ⟨c', z, upd_same⟩
      · obtain ⟨ps', a1, a2, a3⟩ := hT z hz
        refine ⟨ps', by rw [upd_ne (ne_of_none a1 nC), upd_ne hb]; exact a1, a2, fun p' cv hcv => ?_⟩
        obtain ⟨c0, e1, e2⟩ := a3 p' cv hcv
        exact ⟨c0, e1, hE _ _ e2 LamX.codeO_ne⟩
    · have hlb := sz b hb
      refine ⟨⟨?_, (f2 b hb).2⟩, Nat.lt_of_lt_of_le hlb hlt3⟩
      rw [upd_ne (Nat.ne_of_lt (Nat.lt_of_lt_of_le hlb hge)), upd_ne (nfp b hb)]
      exact (f2 b hb).1
  | some cv =>
    refine wpAny_genexprCode_hit hcode (cd.code hP' htr) hf ?_
    exact cont cv H1 s2 I2 (LamX.ExtN.refl H1) hT st2 fun b hb => ⟨f2 b hb, sz b hb⟩
end
end G
set_option Elab.async false
set_option linter.all false
set_option maxRecDepth 100000
set_option maxHeartbeats 3900000
namespace M
open PySem PySem.Spec PyProof.Rows L2 G
/-- the turns: the first item that is let through -/
def nxD (gd : SH → Prop) (turn : D → SH → (Option D → SH → Prop) → Prop) (Φ : QD) : List D → SH → Prop
  | [], c => gd c ∧ Φ .non c
  | x :: xs, c => gd c ∧ turn x c fun o c1 => match o with
    | some y => Φ y c1
    | none => nxD gd turn Φ xs c1
def nxtM (i : MI) (g : MG) (t : MT) (e : ME) (vs : List Nat) : ME := fun δ c Ψ Φ => i δ c Ψ fun xs gd c1 => nxD gd (turnD g t e (wipeD δ vs)) Φ xs c1
section
variable {K : PySem.W.Frag} {tb : List (Addr × Str)} {W : WX}
theorem snd_nxt {wi : TI} {mi : MI} {g : TG} {mg : MG} {tt : TT} {mt : MT} {te : TE} {me : ME} {vs : List Nat} (hi : SndI K tb W wi mi) (hg : SndGO K tb W0 vs g mg) (ht : SndT K tb W0 tt mt) (he : SndE K tb W0 te me) : SndE K tb W (tNext tb wi g tt te vs) (nxtM mi mg mt me vs) := by
  intro al G c H σ δ Ψ Φ Q go m q
  refine hi al G c H σ δ Ψ _ _ go m fun xs gd c1 al1 G1 H1 J r1 l1 it m1 => ?_
  refine ⟨r1.tab, fun H1' eN T1 => ?_⟩
  have r1' : Rep K tb al1 G1 c1 H1' := r1.extn eN T1
  have l1' : Le al1 G1 c1 H1 al1 G1 c1 H1' := Le.extn eN
  have e1 : SRel K al1 G1 σ δ := go.env.le l1
  refine ⟨fun i n H2 => n = xs.length - i ∧ i ≤ xs.length ∧ ∃ al2 G2 c2, Rep K tb al2 G2 c2 H2 ∧ Le al1 G1 c1 H1 al2 G2 c2 H2 ∧ nxD gd (turnD mg mt me (wipeD δ vs)) Φ (xs.drop i) c2, ⟨_, rfl, Nat.zero_le _, al1, G1, c1, r1', l1', m1⟩, ?_⟩
  rintro i n H2 ⟨rfl, hle, al2, G2, c2, r2, l2, m2⟩
  by_cases hlt : i < xs.length
  · rw [drop_get hlt] at m2
    obtain ⟨hgd, m2⟩ := m2
    have hx : xs[i]? = some xs[i] := List.getElem?_eq_getElem hlt
    refine .inr ⟨it.go i _ al2 G2 c2 H2 hx r2 l2 hgd, fun H3 => ∃ al3 G3 c3, Rep K tb al3 G3 c3 H3 ∧ Le al1 G1 c1 H1 al3 G3 c3 H3 ∧ nxD gd (turnD mg mt me (wipeD δ vs)) Φ (xs.drop (i + 1)) c3, ?_, ?_⟩
    · rintro H3 ⟨al3, G3, c3, r3⟩
      exact ⟨xs.length - (i + 1), by omega, rfl, hlt, al3, G3, c3, r3⟩
    · intro v H' y
      obtain ⟨G', r', l', d'⟩ := it.yl i _ al2 G2 c2 H2 v H' hx r2 l2 hgd y
      have go' : Go K tb al2 G' c2 H' W0 (wipe σ vs) (wipeD δ vs) noX := ⟨r', ((e1.le l2).le l').wipe vs, thr0⟩
      refine hg al2 G' c2 H' _ _ noX v _ _ _ go' d' m2 fun δ3 c3 al3 G3 H3 σ3 r3 l3 s3 w3 m3 => ?_
      rw [wipe_wipe] at w3
      refine ⟨w3, ?_⟩
      have go3 : Go K tb al3 G3 c3 H3 W0 σ3 δ3 noX := ⟨r3, s3, thr0⟩
      refine ht al3 G3 c3 H3 σ3 δ3 noX _ _ go3 m3 fun b c4 al4 G4 H4 r4 l4 m4 => ?_
      have l24 := (l'.trans l3).trans l4
      cases b with
      | false => exact iteF ⟨al4, G4, c4, r4, l2.trans l24, m4⟩
      | true =>
        refine iteT (he al4 G4 c4 H4 σ3 δ3 noX _ _ (go3.le r4 l4) m4 fun y c5 al5 G5 H5 w r5 l5 d5 m5 => ?_)
        exact q y c5 al5 G5 H5 w r5 (l1.trans (l2.trans (l24.trans l5))) d5 m5
  · have hi2 : i = xs.length := by omega
    subst hi2
    rw [List.drop_length] at m2
    obtain ⟨hgd, m2⟩ := m2
    exact .inl ⟨it.st al2 G2 c2 H2 r2 l2 hgd, q .non c2 al2 G2 H2 .non r2 (l1.trans l2) .non m2⟩
theorem snd_nxtE {wi : TI} {mi : MI} {g : TG} {mg : MG} {tt : TT} {mt : MT} {te : TE} {me : ME} {vs vs' : List Nat} (e : vs' = vs) (hi : SndI K tb W wi mi) (hg : SndGO K tb W0 vs g mg) (ht : SndT K tb W0 tt mt) (he : SndE K tb W0 te me) : SndE K tb W (tNext tb wi g tt te vs') (nxtM mi mg mt me vs) := by
  subst e
  exact snd_nxt hi hg ht he
instance {wi : TI} {mi : MI} {g : TG} {mg : MG} {tt : TT} {mt : MT} {te : TE} {me : ME} {vs vs' : List Nat} [e : Ok (vs' = vs)] [hi : Ok (SndI K tb W wi mi)] [hg : Ok (SndGO K tb (fun _ _ _ _ => False) vs g mg)] [ht : Ok (SndT K tb (fun _ _ _ _ => False) tt mt)] [he : Ok (SndE K tb (fun _ _ _ _ => False) te me)] : Ok (SndE K tb W (tNext tb wi g tt te vs') (nxtM mi mg mt me vs)) := ⟨snd_nxtE e.ok hi.ok hg.ok ht.ok he.ok⟩
end
section
variable {i : MI} {g : MG} {t : MT} {e : ME} {vs : List Nat} {δ : Env} {c : SH} {Ψ : XD} {Φ : QD}
theorem e_nxt (h : i δ c Ψ fun xs gd c1 => nxD gd (turnD g t e (wipeD δ vs)) Φ xs c1) : nxtM i g t e vs δ c Ψ Φ := h
instance : M.W (nxtM i g t e vs δ c Ψ Φ) (i δ c Ψ fun xs gd c1 => nxD gd (turnD g t e (wipeD δ vs)) Φ xs c1) := ⟨e_nxt⟩
/-- the same over mapped items -/
theorem nx_map {α : Type} {gd : SH → Prop} {turn : D → SH → (Option D → SH → Prop) → Prop} (d : α → D) (p : α → Bool) (f : α → D) (hg : gd c) : ∀ {xs : List α}, (∀ x ∈ xs, ∀ k : Option D → SH → Prop, k (if p x = true then some (f x) else none) c → turn (d x) c k) → Φ (match xs.find? p with
    | some x => f x
    | none => .non) c → nxD gd turn Φ (xs.map d) c
  | [], _, h => ⟨hg, h⟩
  | x :: xs, ht, h => by
    refine ⟨hg, ht x List.mem_cons_self _ ?_⟩
    rw [List.find?_cons] at h
    cases hp : p x with
    | true =>
      rw [hp] at h
      exact h
    | false =>
      rw [hp] at h
      exact nx_map d p f hg (fun y hy => ht y (List.mem_cons_of_mem _ hy)) h
end
end M
set_option Elab.async false
set_option linter.all false
set_option maxRecDepth 100000
set_option maxHeartbeats 3900000
namespace M
open PySem PySem.Spec PyProof.Rows L2 G
def CDivX (_ j : Int) : Prop := j ≠ 0 ∧ j.natAbs.log2 < 9000
theorem op_fdivX {X : Cx} : OpR X (binaryOp .FloorDiv) (rI CDivX fun i j => .int (i.fdiv j)) := opI fun i j _ _ _ _ _ hc q => floordiv_int hc.1 q (.inl (PyProof.noPylong_of_log2 hc.2))
def CNe (_ j : Int) : Prop := j ≠ 0
theorem op_modX {X : Cx} : OpR X (binaryOp .Mod) (rI CNe fun i j => .int (i.fmod j)) := opI fun i j _ _ _ _ _ hc q => mod_int hc q
def iiD (C : Int → Int → Prop) (g : Int → Int → D) (x y : D) (c : SH) (Φ : QD) : Prop := match x, y with
  | .int i, .int j => C i j ∧ Φ (g i j) c
  | _, _ => False
abbrev mulWD := iiD CMulW fun i j => .int (i * j)
abbrev fdivWD := iiD CDivX fun i j => .int (i.fdiv j)
abbrev modWD := iiD CNe fun i j => .int (i.fmod j)
section
variable {K : PySem.W.Frag} {tb : List (Addr × Str)}
theorem dop_ii {C : Int → Int → Prop} {g : Int → Int → V} {d : Int → Int → D} (h : ∀ (i j : Int) al G, Den K al G (g i j) (d i j)) : DOp K tb (rI C g) (iiD C d) := by
  intro al G c H x y dx dy Φ Q R hx hy m q
  unfold iiD at m
  split at m
  · cases hx
    cases hy
    exact ⟨_, _, rfl, rfl, m.1, q _ c al G H _ R .refl (h _ _ _ _) m.2⟩
  · cases m
instance : Ok (DOp K tb (rI CMulW fun i j => .int (i * j)) mulWD) := ⟨dop_ii fun _ _ _ _ => .int _⟩
instance : Ok (DOp K tb (rI CDivX fun i j => .int (i.fdiv j)) fdivWD) := ⟨dop_ii fun _ _ _ _ => .int _⟩
instance : Ok (DOp K tb (rI CNe fun i j => .int (i.fmod j)) modWD) := ⟨dop_ii fun _ _ _ _ => .int _⟩
end
theorem e_mulW {o1 : D → D → SH → QD → Prop} {i j : Int} {c : SH} {Φ : QD} (h : CMulW i j) (q : Φ (.int (i * j)) c) : orD o1 mulWD (.int i) (.int j) c Φ := .inr ⟨h, q⟩
theorem e_fdivW {o1 : D → D → SH → QD → Prop} {i j : Int} {c : SH} {Φ : QD} (h : CDivX i j) (q : Φ (.int (i.fdiv j)) c) : orD o1 fdivWD (.int i) (.int j) c Φ := .inr ⟨h, q⟩
theorem e_modW {o1 : D → D → SH → QD → Prop} {i j : Int} {c : SH} {Φ : QD} (h : j ≠ 0) (q : Φ (.int (i.fmod j)) c) : orD o1 modWD (.int i) (.int j) c Φ := .inr ⟨h, q⟩
/-- what is below 2 ^ b -/
def Bd (b : Nat) (i : Int) : Prop := i.natAbs < 2 ^ b
theorem Bd.mul {a b : Nat} {i j : Int} (hi : Bd a i) (hj : Bd b j) : Bd (a + b) (i * j) := wide_lt hi hj
theorem Bd.mulOk {a b : Nat} {i j : Int} (hi : Bd a i) (hj : Bd b j) (ha : 0 < a) (hb : 0 < b) (h : a + b ≤ 1000000) : CMulW i j := wide_mul hi hj ha hb h
theorem Bd.le {a b : Nat} {i : Int} (h : Bd a i) (hab : a ≤ b) : Bd b i := Nat.lt_of_lt_of_le h (Nat.pow_le_pow_right (by decide) hab)
theorem Bd.sub {a b : Nat} {i j : Int} (hi : Bd a i) (hj : Bd b j) : Bd (max a b + 1) (i - j) := by
  have h1 := hi.le (Nat.le_max_left a b)
  have h2 := hj.le (Nat.le_max_right a b)
  unfold Bd at *
  rw [Nat.pow_succ]
  omega
end M
set_option Elab.async false
set_option linter.all false
set_option maxRecDepth 100000
set_option maxHeartbeats 3900000
namespace G
open PySem PySem.Spec PyProof.Rows L2
section
variable {X : Cx}
theorem sw_trueD {kx vx : Expr} {gs : List Comprehension} {scope : Scope} {pos py : Pos} {y : Str} {l : Nat} {env : Env} (hk : env.scope.kind = .function) (hy : env.scope.names.lookup y = some .local) (hl : (py.line == pos.line) = true)
    (ha : (scope.names.any fun (n, k) => n == y && (k == .local || k == .cell)) = false) : swapsWith (.DictComp kx vx gs scope pos) (some (.Name y py)) l env = pure true := by
  have ky : env.kindOf y = some .local := hy
  have hb : env.blockKind = .function := by unfold Env.blockKind; rw [hk]; rfl
  unfold swapsWith
  simp only [hb, ky, ha, Expr.pos, hl]
  rfl
theorem ps_setDc {i : Nat} {y : Str} {py : Pos} {kx vx tg iter : Expr} {ifs : List Expr} {scope : Scope} {own : List (Str × Nat)} {pos spos : Pos} {wi : TI} {g : TG} {tt : TT} {tk tv : TE} (hc : X.calm = true) (hN : X.N.Nodup) (hy : X.N[i]? = some y) (hyl : X.env.scope.names.lookup y = some .local)
    (hsw : swapsWith (.DictComp kx vx [⟨tg, iter, ifs, 0⟩] scope pos) (some (.Name y py)) spos.line X.env = pure true) (hi : PI X tg iter wi) (ok : BlkOk X.N X.env.scope scope own)
    (hg : ∀ (s : Shared) (H : Hp) (C : Addr) (cl : List (Str × Addr)) (fp : List Addr), PG (X.blk s H scope (compEnvC scope cl C X.env) fp) tg g) (ht : ∀ (s : Shared) (H : Hp) (C : Addr) (cl : List (Str × Addr)) (fp : List Addr), PTs (X.blk s H scope (compEnvC scope cl C X.env) fp) ifs tt)
    (hk : ∀ (s : Shared) (H : Hp) (C : Addr) (cl : List (Str × Addr)) (fp : List Addr), PE (X.blk s H scope (compEnvC scope cl C X.env) fp) kx tk)
    (he : ∀ (s : Shared) (H : Hp) (C : Addr) (cl : List (Str × Addr)) (fp : List Addr), PE (X.blk s H scope (compEnvC scope cl C X.env) fp) vx tv) (hs : ∀ x, foldedSetIterable iter X.env x = pure x := by intro _; rfl) :
    PS X (.Assign [.Name y py] (.DictComp kx vx [⟨tg, iter, ifs, 0⟩] scope pos) spos) (tAsg (tDc wi g tt tk tv (own.map (·.2))) (gName i)) := by
  refine ⟨fun pins s σ H D I h => ?_⟩
  rw [exec_Assign_Name_used _ _ _ _ hsw]
  refine wpAny_bind (wpAny_standAt (wpAny_bind ?_))
  show wpAny _ X.A (do let _ ← comprehension (.DictComp kx vx [⟨tg, iter, ifs, 0⟩] scope pos) scope X.env (firstIterPos [⟨tg, iter, ifs, 0⟩] pos) newDict false (eval iter X.env) (some (assign (.Name y py) X.env))) _ _ s
  have h : tDc wi g tt tk tv (own.map (·.2)) σ H (fun x H1 => gName i x σ H1 D.nx) := h
  refine wpAny_bind (thn (dc_core (Qf := fun _ s' => SP X pins D .next s') hc hN I hi ok hg ht hk he hs h fun L C s' m H' I' q hn f => ?_) fun _ s' hq => wpAny_pure (wpAny_pure hq))
  show wpAny _ _ (assign (.Name y py) X.env (.ref L)) _ _ _
  refine wpAny_assign_Name (store_ok2 (v := V.ref L) I' hN hy (.inl hyl) rfl (fun s2 I2 ⟨a, sb, ha⟩ => ?_) (.inr hyl))
  obtain ⟨f0, f1, f2, f3, f4, f5⟩ := f
  have haC : C ≠ a := by
    rcases ha with z | z
    · rw [z]; exact f1
    · exact fun e => f4 y a z e.symm
  refine ⟨m, hn.sameBut sb haC, fun h3 sb3 => ?_⟩
  exact ⟨_, H', I2.turned (t' := s2.toks) (fun b o hb e => (sb3.2 b hb).trans e) f0 f1 f3 f4 f5, q⟩
end
end G
namespace M
open PySem PySem.Spec PyProof.Rows L2 G
section
variable {K : PySem.W.Frag} {tb : List (Addr × Str)} {W : WX}
theorem snd_dcL {wi : TI} {mi : MI} {g : TG} {mg : MG} {tt : TT} {mt : MT} {tk te : TE} {mk me : ME} {vs vs' : List Nat} (e : vs' = vs) (hi : SndI K tb W wi mi) (hg : SndGO K tb (fun _ _ _ _ => False) vs g mg) (ht : SndT K tb (fun _ _ _ _ => False) tt mt) (hk : SndE K tb (fun _ _ _ _ => False) tk mk)
    (he : SndE K tb (fun _ _ _ _ => False) te me) : SndE K tb W (tDc wi g tt tk te vs') (dcM true mi mg mt mk me vs) := by
  subst e
  intro al G c H σ δ Ψ Φ Q go m q
  refine dc_go hi hg ht hk he go m fun D kvs avs al' G' c' H' r' l' ap' fr hD dn m' => ?_
  obtain ⟨r3, _, k3⟩ := r'.own ap' hD nofun (o := .dic kvs) ⟨avs, hD, dn.mono (fun _ _ => app_get) (Ex.refl _)⟩ rfl
  exact q (.obj c'.length) _ _ G' H' (.ref D) r3 (l'.own r' fr) (.obj k3) m'
instance {wi : TI} {mi : MI} {g : TG} {mg : MG} {tt : TT} {mt : MT} {tk te : TE} {mk me : ME} {vs vs' : List Nat} [e : Ok (vs' = vs)] [hi : Ok (SndI K tb W wi mi)] [hg : Ok (SndGO K tb (fun _ _ _ _ => False) vs g mg)] [ht : Ok (SndT K tb (fun _ _ _ _ => False) tt mt)] [hk : Ok (SndE K tb (fun _ _ _ _ => False) tk mk)] [he : Ok (SndE K tb (fun _ _ _ _ => False) te me)] : Ok (SndE K tb W (tDc wi g tt tk te vs') (dcM true mi mg mt mk me vs)) := ⟨snd_dcL e.ok hi.ok hg.ok ht.ok hk.ok he.ok⟩
end
section
variable {mi : MI} {g : MG} {t : MT} {k e : ME} {δ : Env} {c : SH} {Ψ : XD} {Φ : QD} {vs : List Nat}
theorem e_dcL (h : mi δ c Ψ fun xs gd c1 => dcD gd (turnK g t k e (wipeD δ vs)) xs [] c1 fun kvs c2 => newK true kvs c2 Φ) : dcM true mi g t k e vs δ c Ψ Φ := h
instance : M.W (dcM true mi g t k e vs δ c Ψ Φ) (mi δ c Ψ fun xs gd c1 => dcD gd (turnK g t k e (wipeD δ vs)) xs [] c1 fun kvs c2 => newK true kvs c2 Φ) := ⟨e_dcL⟩
end
end M
set_option Elab.async false
set_option linter.all false
set_option maxRecDepth 100000
set_option maxHeartbeats 3900000
namespace M
open PySem PySem.Spec PyProof.Rows L2 G
def gsubK (N : Env → SH → Prop) (δ : Env) (x z y : D) (c2 : SH) : Prop := liveL z c2 fun k ys => match y with
  | .int i => (match ixN ys.length i with
    | some j => N δ (c2.set k (.lst (ys.set j x)))
    | none => False)
  | _ => False
def gsubM (mo mi : ME) : MG := fun x δ c Ψ N => mo δ c Ψ fun z c1 => mi δ c1 Ψ fun y c2 => gsubK N δ x z y c2
section
variable {K : PySem.W.Frag} {tb : List (Addr × Str)} {W : WX} {to ti : TE} {mo mi : ME} {vs : List Nat}
theorem denL_set {al : List Addr} {G : Hp} {v : V} {x : D} : ∀ {us : List V} {ys : List D} (j : Nat), DenL K al G us ys → Den K al G v x → DenL K al G (us.set j v) (ys.set j x)
  | _, _, _, .nil, _ => .nil
  | _, _, 0, .cons h t, d => .cons d t
  | _, _, j + 1, .cons h t, d => .cons h (denL_set j t d)
theorem sgo_sub (ho : SndE K tb W to mo) (hi : SndE K tb W ti mi) : SndGO K tb W vs (gSub to ti rSetL) (gsubM mo mi) := by
  intro al G c H σ δ Ψ v x N R go d m q
  refine ho al G c H σ δ Ψ _ _ go m fun z c1 al1 G1 H1 w r1 l1 d1 m1 => ?_
  refine hi al1 G1 c1 H1 σ δ Ψ _ _ (go.le r1 l1) m1 fun y c2 al2 G2 H2 u r2 l2 d2 m2 => ?_
  obtain ⟨k, l, us, ys, rfl, h1, h2, h3, h4, m3⟩ := live_of r2 (d1.le l2) m2
  split at m3
  · rename_i i
    split at m3
    · rename_i j ej
      cases d2
      have en := denL_set j h4 (d.le (l1.trans l2))
      obtain ⟨r4, l4⟩ := change_lst r2 h1 h2 en
      have l14 := (l1.trans l2).trans l4
      exact ⟨l, us, i, j, rfl, rfl, h3, by rw [h4.length]; exact ej, q δ _ al2 G2 _ σ r4 l14 (go.env.le l14) rfl m3⟩
    · cases m3
  · cases m3
instance [ho : Ok (SndE K tb W to mo)] [hi : Ok (SndE K tb W ti mi)] : Ok (SndGO K tb W vs (gSub to ti rSetL) (gsubM mo mi)) := ⟨sgo_sub ho.ok hi.ok⟩
end
section
variable {mo mi : ME} {δ : Env} {c : SH} {Ψ : XD} {N : Env → SH → Prop} {x z : D}
theorem e_gsub (h : mo δ c Ψ fun z c1 => mi δ c1 Ψ fun y c2 => gsubK N δ x z y c2) : gsubM mo mi x δ c Ψ N := h
instance : M.W (gsubM mo mi x δ c Ψ N) (mo δ c Ψ fun z c1 => mi δ c1 Ψ fun y c2 => gsubK N δ x z y c2) := ⟨e_gsub⟩
theorem e_gsubK {i : Int} {j k : Nat} {ys : List D} (h : c[k]? = some (.lst ys)) (hj : ixN ys.length i = some j) (q : N δ (c.set k (.lst (ys.set j x)))) : gsubK N δ x (.obj k) (.int i) c := by
  unfold gsubK liveL
  dsimp only
  rw [h]
  dsimp only
  rw [hj]
  exact q
end
end M
set_option Elab.async false
set_option linter.all false
set_option maxRecDepth 100000
namespace M
open PySem PySem.Spec PyProof.Rows L2 G
end M
set_option Elab.async false
set_option linter.all false
set_option maxRecDepth 100000
set_option maxHeartbeats 3900000
namespace M
open PySem PySem.Spec PyProof.Rows L2 G
def bmDM (op : D → List D → SH → QD → Prop) (a : ME) (A : MA) : ME := fun δ c Ψ Φ => a δ c Ψ fun x c1 => (∃ k kvs, x = .obj k ∧ c1[k]? = some (.dic kvs)) ∧ A δ c1 Ψ fun xs c2 => op x xs c2 Φ
section
variable {K : PySem.W.Frag} {tb : List (Addr × Str)} {W : WX} {ta : TE} {a : ME} {tA : TA} {mA : MA} {r : V → List V → Hp → VK → Prop} {op : D → List D → SH → QD → Prop} {δ : Env} {c : SH} {Ψ : XD} {Φ : QD}
theorem snd_bmD (ho : DMt K tb r op) (ha : SndE K tb W ta a) (hA : SndA K tb W tA mA) : SndE K tb W (tBM K "dict" r ta tA) (bmDM op a mA) := by
  intro al G c H σ δ Ψ Φ Q g mm q
  refine ha al G c H σ δ Ψ _ _ g mm fun x c1 al1 G1 H1 v r1 l1 d1 m1 => ?_
  obtain ⟨⟨k, kvs, rfl, hk⟩, m1⟩ := m1
  refine ⟨?_, ?_⟩
  · cases d1 with
    | obj hp =>
      obtain ⟨vs, h1, _⟩ := r1.ent k _ _ hp hk
      exact .inr (.inr (.inl ⟨rfl, .inl ⟨_, h1⟩⟩))
  refine hA al1 G1 c1 H1 σ δ Ψ _ _ (g.le r1 l1) m1 fun xs c2 al2 G2 H2 vs r2 l2 d2 m2 => ?_
  exact ho al2 G2 c2 H2 v vs _ xs Φ Q r2 (d1.le l2) d2 m2 (q.le (l1.trans l2))
instance [ho : Ok (DMt K tb r op)] [ha : Ok (SndE K tb W ta a)] [hA : Ok (SndA K tb W tA mA)] : Ok (SndE K tb W (tBM K "dict" r ta tA) (bmDM op a mA)) := ⟨snd_bmD ho.ok ha.ok hA.ok⟩
theorem e_bmD (h : a δ c Ψ fun x c1 => (∃ k kvs, x = .obj k ∧ c1[k]? = some (.dic kvs)) ∧ mA δ c1 Ψ fun xs c2 => op x xs c2 Φ) : bmDM op a mA δ c Ψ Φ := h
instance : M.W (bmDM op a mA δ c Ψ Φ) (a δ c Ψ fun x c1 => (∃ k kvs, x = .obj k ∧ c1[k]? = some (.dic kvs)) ∧ mA δ c1 Ψ fun xs c2 => op x xs c2 Φ) := ⟨e_bmD⟩
end
end M
set_option Elab.async false
set_option linter.all false
set_option maxRecDepth 100000
set_option maxHeartbeats 3900000
namespace M
open PySem PySem.Spec PyProof.Rows L2 G
def frzK (Φ : QD) (x : D) (c1 : SH) : Prop := match x with
  | .obj k => match c1[k]? with
    | some (.lst xs) => Φ (.lst xs) (c1.set k (.frz (.lst xs)))
    | some (.ins C xs) => Φ (.ins C xs) (c1.set k (.frz (.ins C xs)))
    | some (.frz d) => Φ d c1
    | _ => False
  | x => Φ x c1
def frzM (a : ME) : ME := fun δ c Ψ Φ => a δ c Ψ (frzK Φ)
section
variable {K : PySem.W.Frag} {tb : List (Addr × Str)} {W : WX} {ta : TE} {a : ME} {δ : Env} {c : SH} {Ψ : XD} {Φ : QD}
theorem snd_frz (ha : SndE K tb W ta a) : SndE K tb W ta (frzM a) := by
  intro al G c H σ δ Ψ Φ Q g m q
  refine ha al G c H σ δ Ψ _ _ g m fun x c1 al1 G1 H1 v r1 l1 d1 m1 => ?_
  unfold frzK at m1
  split at m1
  · rename_i k
    split at m1
    · rename_i xs hs
      cases d1 with
      | obj hk =>
        obtain ⟨vs, h1, h2⟩ := r1.ent k _ _ hk hs
        have gn : G1 _ = none := r1.out k _ _ hk hs rfl
        have hden : Den K al1 (upd G1 _ (.lst vs)) (.ref _) (.lst xs) := .lst upd_same (h2.mono (fun _ _ => id) (Ex.new gn))
        have r3 := r1.freeze hk hs rfl h1 hden
        have l3 := Le.freeze r1 hk hs rfl (u := .lst vs) (d := .lst xs)
        exact q _ _ _ _ _ _ r3 (l1.trans l3) hden m1
    · rename_i C xs hs
      cases d1 with
      | obj hk =>
        obtain ⟨dx, vs, h1, h2⟩ := r1.ent k _ _ hk hs
        have gn : G1 _ = none := r1.out k _ _ hk hs rfl
        have hden : Den K al1 (upd G1 _ (.ins C dx vs)) (.ref _) (.ins C xs) := .ins upd_same (h2.mono (fun _ _ => id) (Ex.new gn))
        have r3 := r1.freeze hk hs rfl h1 hden
        have l3 := Le.freeze r1 hk hs rfl (u := .ins C dx vs) (d := .ins C xs)
        exact q _ _ _ _ _ _ r3 (l1.trans l3) hden m1
    · rename_i d hs
      cases d1 with
      | obj hk => exact q _ _ _ _ _ _ r1 l1 (r1.ent k _ _ hk hs) m1
    · cases m1
  · exact q _ _ _ _ _ _ r1 l1 d1 m1
instance [ha : Ok (SndE K tb W ta a)] : Ok (SndE K tb W ta (frzM a)) := ⟨snd_frz ha.ok⟩
theorem e_frzM (h : a δ c Ψ (frzK Φ)) : frzM a δ c Ψ Φ := h
instance : M.W (frzM a δ c Ψ Φ) (a δ c Ψ (frzK Φ)) := ⟨e_frzM⟩
theorem e_frzL {k : Nat} {xs : List D} (h : c[k]? = some (.lst xs)) (q : Φ (.lst xs) (c.set k (.frz (.lst xs)))) : frzK Φ (.obj k) c := by
  unfold frzK
  dsimp only
  rw [h]
  exact q
theorem e_frzF {k : Nat} {d : D} (h : c[k]? = some (.frz d)) (q : Φ d c) : frzK Φ (.obj k) c := by
  unfold frzK
  dsimp only
  rw [h]
  exact q
end
end M
set_option Elab.async false
set_option linter.all false
set_option maxRecDepth 100000
set_option maxHeartbeats 3900000
namespace K14
open PySem PySem.Spec PyProof.Rows L2 G M
set_option synthInstance.maxHeartbeats 0
set_option synthInstance.maxSize 1000000
local macro_rules | `(tactic| walk_at "s") => `(tactic| exact Ok.ok)
def m_divisor_of {P : Program} {K : PySem.W.Frag} {mg : Str → Option Value} (T : Top P K mg) : Fn := fnD 2 4 (seqM (parM 2 3 (consM (cbM absD (consM (varM 0) nilM)) (consM (cbM absD (consM (varM 1) nilM)) nilM)))
    (seqM (whileM (testM (opM gtD (varM 3) (cM (.int 0)))) (parM 2 3 (consM (varM 3) (consM (opM (orD modD modWD) (varM 2) (varM 3)) nilM))))
    (retM (varM 2))))
theorem ok_divisor_of {P : Program} {w : World} {K : PySem.W.Frag} {mg : Str → Option Value} {base : Heap} (T : Top P K mg) : FnOk P w K mg base (L2.CX P w) 1 T.f_divisor_of T.fd_divisor_of ["one", "other"] (SpG K T.tabs (m_divisor_of T)) := by
  refine T.F_divisor_of.okX sc_divisor_of (fun vs H Q E h => fn_len h) (fun cdv A outer s H vs Q E hr h => ?_)
  have tk : Takes _ (fun cls d _ H => E cls d H) := takes_of (E := E) (X := cxOf (L2.CX P w) P w K mg base ["one", "other", "left", "right"] "divisor_of" (defScope s_divisor_of) T.f_divisor_of cdv A outer s H E) rfl rfl rfl rfl
  refine ⟨_, (pss_cons (ps_par (i := 2) (j := 3) (by rfl) sc_divisor_of.nd rfl rfl (by decide) rfl rfl (pa_cons (pe_callB call_absI (by rfl) T.m_abs (by decide +kernel) (pa_cons (pv 0) pa_nil)) (pa_cons (pe_callB call_absI (by rfl) T.m_abs (by decide +kernel) (pa_cons (pv 1) pa_nil)) pa_nil)) (by rfl))
      (pss_cons (ps_while (passes_of rfl) (pt_cmpR op_gtU (pv 3) pe_int (nomark _)) (pss_one (ps_par (i := 2) (j := 3) (by rfl) sc_divisor_of.nd rfl rfl (by decide) rfl rfl (pa_cons (pv 3) (pa_cons (pe_op (op_modU.or op_modX) (pv 2) (pv 3)) pa_nil)) (by rfl))))
      (pss_one (ps_ret (pv 2))))), fn_ok ?_ h⟩
  clear tk
  repeat walk_at "s"
def m_primitive {P : Program} {K : PySem.W.Frag} {mg : Str → Option Value} (T : Top P K mg) : Fn := fnD 1 3 (seqM (asgM (cM (.int 0)) (gnameM 1))
    (seqM (forM (itM (varM 0)) (gnameM 2) (asgM (callM (m_divisor_of T) [] (consM (varM 1) (consM (varM 2) nilM))) (gnameM 1)))
    (retM (anyE fun lv => (ifM (testM (opM gtD (varM 1) (cM (.int 1)))) (lcM lv (itM (varM 0)) (gnameM 2) yesM (opM (orD fdivD fdivWD) (varM 2) (varM 1)) [2]) (cbM (listD lv) (consM (varM 0) nilM)))))))
theorem ok_primitive {P : Program} {w : World} {K : PySem.W.Frag} {mg : Str → Option Value} {base : Heap} (T : Top P K mg) : FnOk P w K mg base (L2.CX P w) 2 T.f_primitive T.fd_primitive ["row"] (SpG K T.tabs (m_primitive T)) := by
  refine T.F_primitive.okX sc_primitive (fun vs H Q E h => fn_len h) (fun cdv A outer s H vs Q E hr h => ?_)
  have tk : Takes _ (fun cls d _ H => E cls d H) := takes_of (E := E) (X := cxOf (L2.CX P w) P w K mg base ["row", "divisor", "number"] "primitive" (defScope s_primitive) T.f_primitive cdv A outer s H E) rfl rfl rfl rfl
  refine ⟨_, (pss_cons (ps_set (i := 1) sc_primitive.nd rfl (Or.inr rfl) pe_int)
      (pss_cons (ps_for (passes_of rfl) rfl (pi_V (K := K) rfl (pv 0)) (pg_name (i := 2) sc_primitive.nd rfl (Or.inl rfl)) (pss_one (ps_set (i := 1) sc_primitive.nd rfl (Or.inr rfl) (pe_callSD (ok_divisor_of T) (hr.mono (by decide)) (by rfl) T.g_divisor_of T.F_divisor_of.kp T.b_divisor_of .nil (fun σ => passAt tk σ) (pa_cons (pv 1) (pa_cons (pv 2) pa_nil))))))
      (pss_one (ps_ret (pe_ifExp (pt_cmpR op_gtU (pv 1) pe_int (nomark _)) (pe_lc (own := [("number", 2)]) (g := gName 2) rfl sc_primitive.nd (pi_V (K := K) rfl (pv 0)) (blkOk_by (own := [("number", 2)]) (N := ["row", "divisor", "number"]) (sc := defScope s_primitive) (by decide +kernel)) (fun _ _ _ _ _ => (pg_name (i := 2) sc_primitive.nd rfl (Or.inl rfl))) (fun _ _ _ _ _ => pts_nil) (fun _ _ _ _ _ => (pe_op (op_fdivU.or op_fdivX) (pv 2) (pv 1)))) (pe_callTy (call_listU (K := K) rfl) (by rfl) T.m_list (by decide +kernel) (pa_cons (pv 0) pa_nil))))))), fn_ok ?_ h⟩
  clear tk
  repeat walk_at "s"
def m_cleared {P : Program} {K : PySem.W.Frag} {mg : Str → Option Value} (T : Top P K mg) : Fn := fnD 3 5 (retM (callM (m_primitive T) [] (consM (lcM false (zipM (consM (varM 0) (consM (varM 2) nilM))) (gtupM (gconsM 3 (gconsM 4 gnilM))) yesM (opM subD (opM (orD (mulD false) mulWD) (varM 3) (opM ixD (varM 2) (varM 1))) (opM (orD (mulD false) mulWD) (opM ixD (varM 0) (varM 1)) (varM 4))) [3, 4]) nilM)))
theorem ok_cleared {P : Program} {w : World} {K : PySem.W.Frag} {mg : Str → Option Value} {base : Heap} (T : Top P K mg) : FnOk P w K mg base (L2.CX P w) 3 T.f_cleared T.fd_cleared ["row", "place", "by"] (SpG K T.tabs (m_cleared T)) := by
  refine T.F_cleared.okX sc_cleared (fun vs H Q E h => fn_len h) (fun cdv A outer s H vs Q E hr h => ?_)
  have tk : Takes _ (fun cls d _ H => E cls d H) := takes_of (E := E) (X := cxOf (L2.CX P w) P w K mg base ["row", "place", "by", "number", "other"] "cleared" (defScope s_cleared) T.f_cleared cdv A outer s H E) rfl rfl rfl rfl
  refine ⟨_, (pss_one (ps_ret (pe_callSD (ok_primitive T) (hr.mono (by decide)) (by rfl) T.g_primitive T.F_primitive.kp T.b_primitive .nil (fun σ => passAt tk σ) (pa_cons (pe_lc (own := [("number", 3), ("other", 4)]) (g := gTup K 2 (gCons (gName 3) (gCons (gName 4) gNil))) rfl sc_cleared.nd (pi_zipU (K := K) rfl (pi_zip (by rfl) T.m_zip (pa_cons (pv 0) (pa_cons (pv 2) pa_nil)))) (blkOk_by (own := [("number", 3), ("other", 4)]) (N := ["row", "place", "by", "number", "other"]) (sc := defScope s_cleared) (by decide +kernel)) (fun _ _ _ _ _ => (pg_tupU (K := K) (n := 2) rfl rfl (pgs_cons (pg_name (i := 3) sc_cleared.nd rfl (Or.inl rfl)) (pgs_cons (pg_name (i := 4) sc_cleared.nd rfl (Or.inl rfl)) pgs_nil)))) (fun _ _ _ _ _ => pts_nil) (fun _ _ _ _ _ => (pe_op op_sub (pe_op (op_mulU.or op_mulW) (pv 3) (pe_ix (ix_U (K := K) rfl) (pv 2) (pv 1) (fun _ _ => rfl))) (pe_op (op_mulU.or op_mulW) (pe_ix (ix_U (K := K) rfl) (pv 0) (pv 1) (fun _ _ => rfl)) (pv 4))))) pa_nil)))), fn_ok ?_ h⟩
  clear tk
  repeat walk_at "s"
def m_first_place {P : Program} {K : PySem.W.Frag} {mg : Str → Option Value} (T : Top P K mg) : Fn := fnD 1 3 (retM (nxtM (enumM (consM (varM 0) nilM)) (gtupM (gconsM 1 (gconsM 2 gnilM))) (testM (opM neD (varM 2) (cM (.int 0)))) (varM 1) [1, 2]))
theorem ok_first_place {P : Program} {w : World} {K : PySem.W.Frag} {mg : Str → Option Value} {base : Heap} (T : Top P K mg) (hB : Tbs T base) : FnOk P w K mg base (L2.CX P w) 2 T.f_first_place T.fd_first_place ["row"] (SpG K T.tabs (noXF (m_first_place T))) := by
  refine fn_cx0 (FunV.okC T.F_first_place T.hc_first_place sc_first_place (fun vs H Q E h => fn_len (spg_nox h)) (fun A outer s H vs Q E hr h => ?_))
  refine ⟨_, (pss_one (ps_ret (pe_next (own := [("place", 1), ("number", 2)]) (g := gTup K 2 (gCons (gName 1) (gCons (gName 2) gNil))) (k := 0) rfl sc_first_place.nd (hr.mono (by decide)) (by rfl) T.m_next hB.t_first_place rfl T.in_first_place T.un_first_place (pi_enumU (K := K) rfl (by rfl) T.m_enumerate (pa_cons (pv 0) pa_nil)) (gexOk_by (own := [("place", 1), ("number", 2)]) (N := ["row", "place", "number"]) (sc := defScope s_first_place) (by decide +kernel)) (fun _ _ _ _ _ => (pg_tupU (K := K) (n := 2) rfl rfl (pgs_cons (pg_name (i := 1) sc_first_place.nd rfl (Or.inl rfl)) (pgs_cons (pg_name (i := 2) sc_first_place.nd rfl (Or.inl rfl)) pgs_nil)))) (fun _ _ _ _ _ hr => (pts_one (pt_cmpR (op_neU (K := K) rfl hr.units) (pv 2) pe_int (nomark _)))) (fun _ _ _ _ _ hr => (pv 1))))), fn_ok ?_ (spg_nox h)⟩
  repeat walk_at "s"
def m_reduced {P : Program} {K : PySem.W.Frag} {mg : Str → Option Value} (T : Top P K mg) : Fn := fnD 1 7 (seqM (asgM (dnewM true) (gnameM 1))
    (seqM (forM (itM (varM 0)) (gnameM 2) (seqM (asgM (callM (m_primitive T) [] (consM (varM 2) nilM)) (gnameM 3))
    (seqM (lockM (forM (itemsLM (varM 1)) (gtupM (gconsM 4 (gconsM 5 gnilM))) (asgM (callM (m_cleared T) [] (consM (varM 3) (consM (varM 4) (consM (varM 5) nilM)))) (gnameM 3))))
    (seqM (asgM (callM (noXF (m_first_place T)) [] (consM (varM 3) nilM)) (gnameM 6))
    (ifS (testM (opM isntD (varM 6) (cM .non)))
    (seqM (lockM (asgM (dcM true (itemsLM (varM 1)) (gtupM (gconsM 4 (gconsM 5 gnilM))) yesM (varM 4) (callM (m_cleared T) [] (consM (varM 5) (consM (varM 6) (consM (varM 3) nilM)))) [4, 5]) (gnameM 1)))
    (dputM (varM 1) (varM 6) (varM 3)))
    nextM)))))
    (retM (lkM (varM 1)))))
theorem ok_reduced {P : Program} {w : World} {K : PySem.W.Frag} {mg : Str → Option Value} {base : Heap} (T : Top P K mg) (hB : Tbs T base) : FnOk P w K mg base (L2.CX P w) 4 T.f_reduced T.fd_reduced ["rows"] (SpG K T.tabs (m_reduced T)) := by
  refine T.F_reduced.okX sc_reduced (fun vs H Q E h => fn_len h) (fun cdv A outer s H vs Q E hr h => ?_)
  have tk : Takes _ (fun cls d _ H => E cls d H) := takes_of (E := E) (X := cxOf (L2.CX P w) P w K mg base ["rows", "found", "row", "left", "place", "other", "start"] "reduced" (defScope s_reduced) T.f_reduced cdv A outer s H E) rfl rfl rfl rfl
  refine ⟨_, (pss_cons (ps_set (i := 1) sc_reduced.nd rfl (Or.inl rfl) pe_dnewK)
      (pss_cons (ps_for (passes_of rfl) rfl (pi_V (K := K) rfl (pv 0)) (pg_name (i := 2) sc_reduced.nd rfl (Or.inl rfl)) (pss_cons (ps_set (i := 3) sc_reduced.nd rfl (Or.inr rfl) (pe_callSD (ok_primitive T) (hr.mono (by decide)) (by rfl) T.g_primitive T.F_primitive.kp T.b_primitive .nil (fun σ => passAt tk σ) (pa_cons (pv 2) pa_nil)))
      (pss_cons (ps_lockX (fun V tkV => (ps_for (passes_of rfl) rfl (pi_items (pv 1)) (pg_tupU (K := K) (n := 2) rfl rfl (pgs_cons (pg_name (i := 4) sc_reduced.nd rfl (Or.inl rfl)) (pgs_cons (pg_name (i := 5) sc_reduced.nd rfl (Or.inl rfl)) pgs_nil))) (pss_one (ps_set (i := 3) sc_reduced.nd rfl (Or.inr rfl) (pe_callSD (ok_cleared T) (hr.mono (by decide)) (by rfl) T.g_cleared T.F_cleared.kp T.b_cleared .nil (fun σ => passAt tkV σ) (pa_cons (pv 3) (pa_cons (pv 4) (pa_cons (pv 5) pa_nil)))))))) tk)
      (pss_cons (ps_set (i := 6) sc_reduced.nd rfl (Or.inr rfl) (pe_callSD (ok_first_place T hB) (hr.mono (by decide)) (by rfl) T.g_first_place T.F_first_place.kp T.b_first_place .nil (fun σ => passAt tk σ) (pa_cons (pv 3) pa_nil)))
      (pss_one (ps_if (pt_cmpR op_isNotU (pv 6) pe_non (nomark _)) (pss_cons (ps_lockX (fun V tkV => (ps_setDc (i := 1) (own := [("place", 4), ("other", 5)]) (g := gTup K 2 (gCons (gName 4) (gCons (gName 5) gNil))) rfl sc_reduced.nd rfl rfl (sw_trueD rfl rfl rfl (by decide +kernel)) (pi_items (pv 1)) (blkOk_by (own := [("place", 4), ("other", 5)]) (N := ["rows", "found", "row", "left", "place", "other", "start"]) (sc := defScope s_reduced) (by decide +kernel)) (fun _ _ _ _ _ => (pg_tupU (K := K) (n := 2) rfl rfl (pgs_cons (pg_name (i := 4) sc_reduced.nd rfl (Or.inl rfl)) (pgs_cons (pg_name (i := 5) sc_reduced.nd rfl (Or.inl rfl)) pgs_nil)))) (fun _ _ _ _ _ => pts_nil) (fun _ _ _ _ _ => (pv 4)) (fun _ _ _ _ _ => (pe_callSD (ok_cleared T) (hr.mono (by decide)) (by rfl) T.g_cleared T.F_cleared.kp T.b_cleared .nil (fun σ => passAt takesF σ) (pa_cons (pv 5) (pa_cons (pv 6) (pa_cons (pv 3) pa_nil))))))) tk)
      (pss_one (ps_dput (Room.u1 hr) (pv 1) (pv 6) (pv 3) rfl))) pss_nil))))))
      (pss_one (ps_ret (pe_lk (pv 1)))))), fn_ok ?_ h⟩
  clear tk
  repeat walk_at "s"
def m_rank_of {P : Program} {K : PySem.W.Frag} {mg : Str → Option Value} (T : Top P K mg) : Fn := fnD 1 1 (retM (cbM lenD (consM (callM (m_reduced T) [] (consM (varM 0) nilM)) nilM)))
theorem ok_rank_of {P : Program} {w : World} {K : PySem.W.Frag} {mg : Str → Option Value} {base : Heap} (T : Top P K mg) (hB : Tbs T base) : FnOk P w K mg base (L2.CX P w) 5 T.f_rank_of T.fd_rank_of ["rows"] (SpG K T.tabs (m_rank_of T)) := by
  refine T.F_rank_of.okX sc_rank_of (fun vs H Q E h => fn_len h) (fun cdv A outer s H vs Q E hr h => ?_)
  have tk : Takes _ (fun cls d _ H => E cls d H) := takes_of (E := E) (X := cxOf (L2.CX P w) P w K mg base ["rows"] "rank_of" (defScope s_rank_of) T.f_rank_of cdv A outer s H E) rfl rfl rfl rfl
  refine ⟨_, (pss_one (ps_ret (pe_callB (call_lenU (K := K) rfl) (by rfl) T.m_len PySem.boot_len (pa_cons (pe_callSD (ok_reduced T hB) (hr.mono (by decide)) (by rfl) T.g_reduced T.F_reduced.kp T.b_reduced .nil (fun σ => passAt tk σ) (pa_cons (pv 0) pa_nil)) pa_nil)))), fn_ok ?_ h⟩
  clear tk
  repeat walk_at "s"
def m_upright {P : Program} {K : PySem.W.Frag} {mg : Str → Option Value} (T : Top P K mg) : Fn := fnD 1 4 (seqM (asgM (callM (m_primitive T) [] (consM (varM 0) nilM)) (gnameM 1))
    (seqM (asgM (callM (noXF (m_first_place T)) [] (consM (varM 1) nilM)) (gnameM 2))
    (retM (anyE fun lv => (ifM (andT (testM (opM isntD (varM 2) (cM .non))) (testM (opM ltD (opM ixD (varM 1) (varM 2)) (cM (.int 0))))) (lcM lv (itM (varM 1)) (gnameM 3) yesM (unM negD (varM 3)) [3]) (varM 1))))))
theorem ok_upright {P : Program} {w : World} {K : PySem.W.Frag} {mg : Str → Option Value} {base : Heap} (T : Top P K mg) (hB : Tbs T base) : FnOk P w K mg base (L2.CX P w) 3 T.f_upright T.fd_upright ["vector"] (SpG K T.tabs (m_upright T)) := by
  refine T.F_upright.okX sc_upright (fun vs H Q E h => fn_len h) (fun cdv A outer s H vs Q E hr h => ?_)
  have tk : Takes _ (fun cls d _ H => E cls d H) := takes_of (E := E) (X := cxOf (L2.CX P w) P w K mg base ["vector", "found", "start", "number"] "upright" (defScope s_upright) T.f_upright cdv A outer s H E) rfl rfl rfl rfl
  refine ⟨_, (pss_cons (ps_set (i := 1) sc_upright.nd rfl (Or.inl rfl) (pe_callSD (ok_primitive T) (hr.mono (by decide)) (by rfl) T.g_primitive T.F_primitive.kp T.b_primitive .nil (fun σ => passAt tk σ) (pa_cons (pv 0) pa_nil)))
      (pss_cons (ps_set (i := 2) sc_upright.nd rfl (Or.inl rfl) (pe_callSD (ok_first_place T hB) (hr.mono (by decide)) (by rfl) T.g_first_place T.F_first_place.kp T.b_first_place .nil (fun σ => passAt tk σ) (pa_cons (pv 1) pa_nil)))
      (pss_one (ps_ret (pe_ifExp (PW.pt (pw_and (pt_cmpR op_isNotU (pv 2) pe_non (nomark _)) (pw_and1 (pt_cmpR op_ltU (pe_ix (ix_U (K := K) rfl) (pv 1) (pv 2) (fun _ _ => rfl)) pe_int (nomark _))))) (pe_lc (own := [("number", 3)]) (g := gName 3) rfl sc_upright.nd (pi_V (K := K) rfl (pv 1)) (blkOk_by (own := [("number", 3)]) (N := ["vector", "found", "start", "number"]) (sc := defScope s_upright) (by decide +kernel)) (fun _ _ _ _ _ => (pg_name (i := 3) sc_upright.nd rfl (Or.inl rfl))) (fun _ _ _ _ _ => pts_nil) (fun _ _ _ _ _ => (pe_un un_neg (pv 3)))) (pv 1)))))), fn_ok ?_ h⟩
  clear tk
  repeat walk_at "s"
def m_kernel_of {P : Program} {K : PySem.W.Frag} {mg : Str → Option Value} (T : Top P K mg) : Fn := fnD 2 9 (seqM (parM 2 3 (consM (callM (m_reduced T) [] (consM (varM 0) nilM)) (consM (lstM true nilM) nilM)))
    (seqM (asgM (cM (.int 1)) (gnameM 4))
    (seqM (forM (itemsM (varM 2)) (gtupM (gconsM 5 (gconsM 6 gnilM))) (asgM (opM (orD fdivD fdivWD) (opM (orD (mulD false) mulWD) (varM 4) (opM ixD (varM 6) (varM 5))) (callM (m_divisor_of T) [] (consM (varM 4) (consM (opM ixD (varM 6) (varM 5)) nilM)))) (gnameM 4)))
    (seqM (forM (rng1M (consM (varM 1) nilM)) (gnameM 7) (ifS (testM (opM (orD (inD true) (inKD not)) (varM 7) (varM 2)))
    (seqM (asgM (opM (orD (mulD true) mulWD) (lstM false (consM (cM (.int 0)) nilM)) (varM 1)) (gnameM 8))
    (seqM (asgM (varM 4) (gsubM (varM 8) (varM 7)))
    (seqM (forM (itemsM (varM 2)) (gtupM (gconsM 5 (gconsM 6 gnilM))) (asgM (opM (orD (mulD false) mulWD) (unM negD (opM ixD (varM 6) (varM 7))) (opM (orD fdivD fdivWD) (varM 4) (opM ixD (varM 6) (varM 5)))) (gsubM (varM 8) (varM 5))))
    (dropM (bmM "list" appendD (varM 3) (consM (callM (m_upright T) [] (consM (varM 8) nilM)) nilM))))))
    nextM))
    (retM (varM 3))))))
theorem ok_kernel_of {P : Program} {w : World} {K : PySem.W.Frag} {mg : Str → Option Value} {base : Heap} (T : Top P K mg) (hB : Tbs T base) : FnOk P w K mg base (L2.CX P w) 5 T.f_kernel_of T.fd_kernel_of ["rows", "width"] (SpG K T.tabs (m_kernel_of T)) := by
  refine T.F_kernel_of.okX sc_kernel_of (fun vs H Q E h => fn_len h) (fun cdv A outer s H vs Q E hr h => ?_)
  have tk : Takes _ (fun cls d _ H => E cls d H) := takes_of (E := E) (X := cxOf (L2.CX P w) P w K mg base ["rows", "width", "found", "basis", "shared", "place", "row", "free", "vector"] "kernel_of" (defScope s_kernel_of) T.f_kernel_of cdv A outer s H E) rfl rfl rfl rfl
  refine ⟨_, (pss_cons (ps_par (i := 2) (j := 3) (by rfl) sc_kernel_of.nd rfl rfl (by decide) rfl rfl (pa_cons (pe_callSD (ok_reduced T hB) (hr.mono (by decide)) (by rfl) T.g_reduced T.F_reduced.kp T.b_reduced .nil (fun σ => passAt tk σ) (pa_cons (pv 0) pa_nil)) (pa_cons (pe_lst pa_nil) pa_nil)) (by rfl))
      (pss_cons (ps_set (i := 4) sc_kernel_of.nd rfl (Or.inl rfl) pe_int)
      (pss_cons (ps_for (passes_of rfl) rfl (pi_items (pv 2)) (pg_tupU (K := K) (n := 2) rfl rfl (pgs_cons (pg_name (i := 5) sc_kernel_of.nd rfl (Or.inl rfl)) (pgs_cons (pg_name (i := 6) sc_kernel_of.nd rfl (Or.inl rfl)) pgs_nil))) (pss_one (ps_set (i := 4) sc_kernel_of.nd rfl (Or.inl rfl) (pe_op (op_fdivU.or op_fdivX) (pe_op (op_mulU.or op_mulW) (pv 4) (pe_ix (ix_U (K := K) rfl) (pv 6) (pv 5) (fun _ _ => rfl))) (pe_callSD (ok_divisor_of T) (hr.mono (by decide)) (by rfl) T.g_divisor_of T.F_divisor_of.kp T.b_divisor_of .nil (fun σ => passAt tk σ) (pa_cons (pv 4) (pa_cons (pe_ix (ix_U (K := K) rfl) (pv 6) (pv 5) (fun _ _ => rfl)) pa_nil)))))))
      (pss_cons (ps_for (passes_of rfl) rfl (pi_range1 (by rfl) T.m_range (pa_cons (pv 1) pa_nil)) (pg_name (i := 7) sc_kernel_of.nd rfl (Or.inl rfl)) (pss_one (ps_if (pt_cmpR ((op_notInU (K := K) rfl).or (op_ninDk (Room.u1 hr))) (pv 7) (pv 2) (by rfl)) (pss_cons (ps_set (i := 8) sc_kernel_of.nd rfl (Or.inl rfl) (pe_op (op_mulU.or op_mulW) (pe_lst (pa_cons pe_int pa_nil)) (pv 1)))
      (pss_cons (ps_asg (pv 4) (pg_sub (pv 8) (pv 7) set_list))
      (pss_cons (ps_for (passes_of rfl) rfl (pi_items (pv 2)) (pg_tupU (K := K) (n := 2) rfl rfl (pgs_cons (pg_name (i := 5) sc_kernel_of.nd rfl (Or.inl rfl)) (pgs_cons (pg_name (i := 6) sc_kernel_of.nd rfl (Or.inl rfl)) pgs_nil))) (pss_one (ps_asg (pe_op (op_mulU.or op_mulW) (pe_un un_neg (pe_ix (ix_U (K := K) rfl) (pv 6) (pv 7) (fun _ _ => rfl))) (pe_op (op_fdivU.or op_fdivX) (pv 4) (pe_ix (ix_U (K := K) rfl) (pv 6) (pv 5) (fun _ _ => rfl)))) (pg_sub (pv 8) (pv 5) set_list))))
      (pss_one (ps_expr (pe_bmU (K := K) rfl PySem.F.plainAttrs_list PySem.F.slot_list_append PySem.F.type_list_append mt_append (pv 3) (pa_cons (pe_callSD (ok_upright T hB) (hr.mono (by decide)) (by rfl) T.g_upright T.F_upright.kp T.b_upright .nil (fun σ => passAt tk σ) (pa_cons (pv 8) pa_nil)) pa_nil))))))) pss_nil)))
      (pss_one (ps_ret (pv 3))))))), fn_ok ?_ h⟩
  clear tk
  repeat walk_at "s"
end K14
set_option Elab.async false
set_option linter.all false
set_option maxRecDepth 100000
namespace Lin
abbrev Vc := Nat → Int
def alt {α : Type} : List α → (α → List α → Int) → Int
  | [], _ => 0
  | x :: xs, f => f x xs - alt xs fun y ys => f y (x :: ys)
def det : List Vc → List Nat → Int
  | _, [] => 1
  | R, c :: C => alt R fun r rest => r c * det rest C
theorem alt_congr {α : Type} : ∀ (xs : List α) {f g : α → List α → Int}, (∀ x ys, f x ys = g x ys) → alt xs f = alt xs g
  | [], _, _, _ => rfl
  | x :: xs, f, g, h => by
    unfold alt
    rw [h x xs, alt_congr xs fun y ys => h y (x :: ys)]
theorem alt_add {α : Type} : ∀ (xs : List α) (f g : α → List α → Int), alt xs (fun x ys => f x ys + g x ys) = alt xs f + alt xs g
  | [], _, _ => rfl
  | x :: xs, f, g => by
    simp only [alt]
    rw [alt_add xs]
    omega
theorem alt_neg {α : Type} : ∀ (xs : List α) (f : α → List α → Int), alt xs (fun x ys => -f x ys) = -alt xs f
  | [], _ => rfl
  | x :: xs, f => by
    simp only [alt]
    rw [alt_neg xs]
    omega
theorem alt_mul {α : Type} (k : Int) : ∀ (xs : List α) (f : α → List α → Int), alt xs (fun x ys => k * f x ys) = k * alt xs f
  | [], _ => by simp [alt]
  | x :: xs, f => by
    simp only [alt]
    rw [alt_mul k xs, Int.mul_sub]
theorem alt_swap {α : Type} : ∀ (xs : List α) (g : α → α → List α → Int), alt xs (fun r rest => alt rest fun s rest2 => g r s rest2) = -alt xs (fun r rest => alt rest fun s rest2 => g s r rest2)
  | [], _ => rfl
  | x :: xs, g => by
    have ih := alt_swap xs fun r s zs => g r s (x :: zs)
    simp only [alt]
    rw [show (fun y ys => g y x ys - alt ys fun z zs => g y z (x :: zs)) = (fun y ys => g y x ys + -(alt ys fun z zs => g y z (x :: zs))) by funext y ys; omega,
      show (fun y ys => g x y ys - alt ys fun z zs => g z y (x :: zs)) = (fun y ys => g x y ys + -(alt ys fun z zs => g z y (x :: zs))) by funext y ys; omega, alt_add, alt_add, alt_neg, alt_neg, ih]
    have e1 : (alt xs fun s rest2 => g s x rest2) = alt xs fun y => g y x := rfl
    have e2 : (alt xs fun s rest2 => g x s rest2) = alt xs (g x) := rfl
    omega
theorem det_swap (R : List Vc) (a b : Nat) (C : List Nat) : det R (a :: b :: C) = -det R (b :: a :: C) := by
  have e := alt_swap R fun r s zs => r a * s b * det zs C
  unfold det
  simp only [det]
  have f1 : ∀ (r : Vc) (rest : List Vc), (r a * alt rest fun s zs => s b * det zs C) = alt rest fun s zs => r a * s b * det zs C := fun r rest => by
    rw [← alt_mul]
    exact alt_congr rest fun s zs => (Int.mul_assoc _ _ _).symm
  have f2 : ∀ (r : Vc) (rest : List Vc), (r b * alt rest fun s zs => s a * det zs C) = alt rest fun s zs => s a * r b * det zs C := fun r rest => by
    rw [← alt_mul]
    exact alt_congr rest fun s zs => by rw [← Int.mul_assoc, Int.mul_comm (r b)]
  rw [alt_congr R f1, alt_congr R f2, e]
theorem det_tail {R : List Vc} {c : Nat} {C C' : List Nat} {k : Int} (h : ∀ R, det R C = k * det R C') : det R (c :: C) = k * det R (c :: C') := by
  simp only [det]
  rw [← alt_mul]
  exact alt_congr R fun r rest => by rw [h, Int.mul_left_comm]
theorem det_dup : ∀ (C : List Nat) (c : Nat) (R : List Vc), c ∈ C → det R (c :: C) = 0
  | [], _, _, h => nomatch h
  | b :: C, c, R, h => by
    by_cases e : c = b
    · subst e
      have := det_swap R c c C
      omega
    · have hc : c ∈ C := (List.mem_cons.mp h).resolve_left e
      rw [det_swap, det_tail (k := 0) (C' := []) fun R => by rw [det_dup C c R hc, Int.zero_mul], Int.zero_mul]
      rfl
/-- a combination of rows -/
def comb : List Int → List Vc → Vc
  | x :: xs, v :: vs => fun j => x * v j + comb xs vs j
  | _, _ => fun _ => 0
theorem comb_add : ∀ (xs ys : List Int) (P : List Vc) (j : Nat), xs.length = ys.length → comb (List.zipWith (· + ·) xs ys) P j = comb xs P j + comb ys P j
  | [], [], _, _, _ => by simp [comb]
  | x :: xs, y :: ys, [], _, _ => by simp [comb]
  | x :: xs, y :: ys, p :: P, j, h => by
    have ih := comb_add xs ys P j (by simpa using h)
    simp only [List.zipWith_cons_cons, comb]
    rw [ih, Int.add_mul]
    omega
theorem comb_mul (k : Int) : ∀ (xs : List Int) (P : List Vc) (j : Nat), comb (xs.map (k * ·)) P j = k * comb xs P j
  | [], _, _ => by simp [comb]
  | x :: xs, [], _ => by simp [comb]
  | x :: xs, p :: P, j => by
    simp only [List.map_cons, comb]
    rw [comb_mul k xs P j, Int.mul_add, Int.mul_assoc]
theorem comb_zero : ∀ (xs : List Int) (P : List Vc) (j : Nat), (∀ x ∈ xs, x = 0) → comb xs P j = 0
  | [], _, _, _ => by simp [comb]
  | x :: xs, [], _, _ => by simp [comb]
  | x :: xs, p :: P, j, h => by
    simp only [comb]
    rw [h x List.mem_cons_self, comb_zero xs P j fun y hy => h y (List.mem_cons_of_mem _ hy)]
    simp
/-- a sum over the rows' places is a combination of the rows -/
theorem alt_comb : ∀ (P : List Vc) (g : Vc → List Vc → Int), ∃ x : List Int, x.length = P.length ∧ ∀ j, alt P (fun y ys => y j * g y ys) = comb x P j
  | [], _ => ⟨[], rfl, fun _ => rfl⟩
  | p :: P, g => by
    obtain ⟨x, h1, h2⟩ := alt_comb P fun y ys => g y (p :: ys)
    refine ⟨g p P :: x.map ((-1) * ·), by simp [h1], fun j => ?_⟩
    simp only [alt, comb]
    rw [comb_mul, h2, Int.mul_comm]
    omega
theorem det_comb (r : Vc) (P : List Vc) (C : List Nat) : ∃ x : List Int, x.length = P.length ∧ ∀ j, det (r :: P) (j :: C) = det P C * r j - comb x P j := by
  obtain ⟨x, h1, h2⟩ := alt_comb P fun y ys => det (r :: ys) C
  refine ⟨x, h1, fun j => ?_⟩
  simp only [det, alt]
  rw [h2, Int.mul_comm]
/-- pivots: rows and columns, the last ones first -/
inductive Chain : List Vc → List Nat → Prop
  | nil : Chain [] []
  | cons {p : Vc} {c : Nat} {P : List Vc} {C : List Nat} : Chain P C → det (p :: P) (c :: C) ≠ 0 → Chain (p :: P) (c :: C)
theorem Chain.ne {P : List Vc} {C : List Nat} (h : Chain P C) : det P C ≠ 0 := by
  cases h with
  | nil => decide
  | cons _ h => exact h
theorem Chain.len {P : List Vc} {C : List Nat} (h : Chain P C) : P.length = C.length := by
  induction h with
  | nil => rfl
  | cons _ _ ih => simp [ih]
theorem zipW_zero : ∀ (z d : Int) (t y : List Int), t.length = y.length → (∀ w ∈ List.zipWith (· + ·) (t.map (z * ·)) (y.map (d * ·)), w = 0) → z = 0 → d ≠ 0 → ∀ w ∈ y, w = 0
  | _, _, [], [], _, _, _, _ => fun _ h => nomatch h
  | z, d, t :: ts, y :: ys, hl, h, hz, hd => by
    simp only [List.map_cons, List.zipWith_cons_cons, List.mem_cons, forall_eq_or_imp] at h ⊢
    refine ⟨?_, zipW_zero z d ts ys (by simpa using hl) h.2 hz hd⟩
    have h1 := h.1
    rw [hz, Int.zero_mul, Int.zero_add] at h1
    exact (Int.mul_eq_zero.mp h1).resolve_left hd
/-- no combination of pivots vanishes at their columns -/
theorem Chain.ind {P : List Vc} {C : List Nat} (h : Chain P C) : ∀ x : List Int, x.length = P.length → (∀ c ∈ C, comb x P c = 0) → ∀ y ∈ x, y = 0 := by
  induction h with
  | nil =>
    intro x hx _ y hy
    rw [List.length_eq_zero_iff.mp hx] at hy
    cases hy
  | @cons p c P C hc hd ih =>
    intro x hx hv
    cases x with
    | nil => simp at hx
    | cons z y =>
      have hy : y.length = P.length := by simpa using hx
      obtain ⟨t, ht, hB⟩ := det_comb p P C
      have hdn := hc.ne
      have key : ∀ j, det P C * comb (z :: y) (p :: P) j = z * det (p :: P) (j :: C) + comb (List.zipWith (· + ·) (t.map (z * ·)) (y.map (det P C * ·))) P j := fun j => by
        rw [comb_add _ _ _ _ (by simp [ht, hy]), comb_mul, comb_mul, hB]
        simp only [comb]
        rw [Int.mul_add, Int.mul_sub, ← Int.mul_assoc, ← Int.mul_assoc z, Int.mul_comm z (det P C)]
        omega
      have van : ∀ w ∈ List.zipWith (· + ·) (t.map (z * ·)) (y.map (det P C * ·)), w = 0 := by
        refine ih _ (by simp [ht, hy]) fun b hb => ?_
        have := key b
        rw [hv b (List.mem_cons_of_mem _ hb), det_dup C b _ hb, Int.mul_zero, Int.mul_zero, Int.zero_add] at this
        exact this.symm
      have hz : z = 0 := by
        have := key c
        rw [hv c List.mem_cons_self, Int.mul_zero, comb_zero _ _ _ van, Int.add_zero] at this
        exact (Int.mul_eq_zero.mp this.symm).resolve_right hd
      intro w hw
      rcases List.mem_cons.mp hw with rfl | hw
      · exact hz
      · exact zipW_zero z (det P C) t y (by rw [ht, hy]) van hz hdn w hw
theorem Chain.zero {P : List Vc} {C : List Nat} (h : Chain P C) {x : List Int} (hx : x.length = P.length) (hv : ∀ c ∈ C, comb x P c = 0) (j : Nat) : comb x P j = 0 := comb_zero x P j (h.ind x hx hv)
/-- division is exact -/
theorem exact_step {P : List Vc} {C : List Nat} {p : Vc} {c : Nat} (h : Chain P C) (hd : det (p :: P) (c :: C) ≠ 0) (r : Vc) (j : Nat) :
    det (r :: P) (j :: C) * det (p :: P) (c :: C) - det (r :: P) (c :: C) * det (p :: P) (j :: C) = det P C * det (r :: p :: P) (j :: c :: C) := by
  have h2 := Chain.cons h hd
  obtain ⟨t, ht, hB⟩ := det_comb r P C
  obtain ⟨u, hu, hp⟩ := det_comb p P C
  obtain ⟨w, hw, hD⟩ := det_comb r (p :: P) (c :: C)
  -- the difference as a combination of p :: P
  have key : ∀ j, det P C * det (r :: p :: P) (j :: c :: C) - (det (r :: P) (j :: C) * det (p :: P) (c :: C) - det (r :: P) (c :: C) * det (p :: P) (j :: C)) =
      comb (List.zipWith (· + ·) (w.map ((-det P C) * ·)) (List.zipWith (· + ·) ((0 :: t).map (det (p :: P) (c :: C) * ·)) ((det P C :: u.map ((-1) * ·)).map (det (r :: P) (c :: C) * ·)))) (p :: P) j := fun j => by
    rw [comb_add _ _ _ _ (by simp [ht, hu, hw]), comb_add _ _ _ _ (by simp [ht, hu]), comb_mul, comb_mul, comb_mul]
    have e1 : comb (0 :: t) (p :: P) j = comb t P j := by simp only [comb]; omega
    have e2 : comb (det P C :: u.map ((-1) * ·)) (p :: P) j = det P C * p j - comb u P j := by simp only [comb]; rw [comb_mul]; omega
    rw [e1, e2, ← hp j, hD j, hB j]
    rw [Int.mul_sub, Int.sub_mul, Int.neg_mul]
    have e3 : det P C * (det (p :: P) (c :: C) * r j) = det P C * r j * det (p :: P) (c :: C) := by rw [Int.mul_comm (det (p :: P) (c :: C)), Int.mul_assoc]
    have e4 : comb t P j * det (p :: P) (c :: C) = det (p :: P) (c :: C) * comb t P j := Int.mul_comm _ _
    omega
  have z := h2.zero (x := List.zipWith (· + ·) (w.map ((-det P C) * ·)) (List.zipWith (· + ·) ((0 :: t).map (det (p :: P) (c :: C) * ·)) ((det P C :: u.map ((-1) * ·)).map (det (r :: P) (c :: C) * ·)))) (by simp [ht, hu, hw]) (fun b hb => by
    rw [← key b, det_dup (c :: C) b _ hb, Int.mul_zero]
    rcases List.mem_cons.mp hb with rfl | hb
    · rw [Int.mul_comm]; omega
    · rw [det_dup C b _ hb, det_dup C b _ hb]; simp) j
  rw [← key j] at z
  omega
def InSpan (v : Vc) (Q : List Vc) : Prop := ∃ (d : Int) (x : List Int), d ≠ 0 ∧ x.length = Q.length ∧ ∀ j, d * v j = comb x Q j
def LinInd (P : List Vc) : Prop := ∀ x : List Int, x.length = P.length → (∀ j, comb x P j = 0) → ∀ y ∈ x, y = 0
theorem Chain.linInd {P : List Vc} {C : List Nat} (h : Chain P C) : LinInd P := fun x hx hv => h.ind x hx fun c _ => hv c
theorem comb_rep (n : Nat) (P : List Vc) (j : Nat) : comb (List.replicate n 0) P j = 0 := comb_zero _ _ _ fun x hx => List.eq_of_mem_replicate hx
theorem inSpan_mem : ∀ {Q : List Vc} {v : Vc}, v ∈ Q → InSpan v Q
  | [], _, h => nomatch h
  | q :: Q, v, h => by
    rcases List.mem_cons.mp h with rfl | h
    · refine ⟨1, 1 :: List.replicate Q.length 0, by decide, by simp, fun j => ?_⟩
      simp only [comb]
      rw [comb_rep]
      omega
    · obtain ⟨d, x, h1, h2, h3⟩ := inSpan_mem h
      refine ⟨d, 0 :: x, h1, by simp [h2], fun j => ?_⟩
      simp only [comb]
      rw [h3]
      omega
theorem inSpan_zero {Q : List Vc} {v : Vc} (h : ∀ j, v j = 0) : InSpan v Q := ⟨1, List.replicate Q.length 0, by decide, by simp, fun j => by rw [h, comb_rep]; rfl⟩
theorem inSpan_add {u v w : Vc} {Q : List Vc} {a b e : Int} (he : e ≠ 0) (h : ∀ j, e * w j = a * u j + b * v j) (hu : InSpan u Q) (hv : InSpan v Q) : InSpan w Q := by
  obtain ⟨d, x, d0, xl, hx⟩ := hu
  obtain ⟨f, y, f0, yl, hy⟩ := hv
  refine ⟨d * f * e, List.zipWith (· + ·) (x.map ((f * a) * ·)) (y.map ((d * b) * ·)), by simp [d0, f0, he], by simp [xl, yl], fun j => ?_⟩
  rw [comb_add _ _ _ _ (by simp [xl, yl]), comb_mul, comb_mul, ← hx, ← hy, Int.mul_assoc, h j, Int.mul_add]
  have e1 : d * f * (a * u j) = f * a * (d * u j) := by
    rw [Int.mul_comm d f, Int.mul_assoc, Int.mul_assoc, Int.mul_left_comm d a]
  have e2 : d * f * (b * v j) = d * b * (f * v j) := by
    rw [Int.mul_assoc, Int.mul_assoc, Int.mul_left_comm f b]
  omega
theorem inSpan_comb : ∀ {x : List Int} {P Q : List Vc}, x.length = P.length → (∀ p ∈ P, InSpan p Q) → ∀ {w : Vc} {e : Int}, e ≠ 0 → (∀ j, e * w j = comb x P j) → InSpan w Q
  | [], [], Q, _, _, w, e, he, h => inSpan_zero fun j => by
    have := h j
    simp only [comb] at this
    exact (Int.mul_eq_zero.mp this).resolve_left he
  | x :: xs, p :: P, Q, hl, hp, w, e, he, h => by
    have ih : InSpan (comb xs P) Q := inSpan_comb (x := xs) (P := P) (by simpa using hl) (fun q hq => hp q (List.mem_cons_of_mem _ hq)) (e := 1) (by decide) fun j => by omega
    refine inSpan_add (a := x) (b := 1) he (fun j => ?_) (hp p List.mem_cons_self) ih
    rw [h j]
    simp only [comb]
    omega
theorem inSpan_trans {v : Vc} {P Q : List Vc} (h : InSpan v P) (hp : ∀ p ∈ P, InSpan p Q) : InSpan v Q := by
  obtain ⟨d, x, d0, xl, hx⟩ := h
  exact inSpan_comb xl hp d0 hx
theorem comb_perm {X Y : List Vc} (p : X.Perm Y) : ∀ y : List Int, y.length = X.length → ∃ z : List Int, z.length = Y.length ∧ (∀ j, comb z Y j = comb y X j) ∧ ∀ w ∈ y, w ∈ z := by
  induction p with
  | nil => exact fun y hy => ⟨y, hy, fun _ => rfl, fun _ => id⟩
  | @cons a X Y _ ih =>
    intro y hy
    cases y with
    | nil => simp at hy
    | cons b y =>
      obtain ⟨z, h1, h2, h3⟩ := ih y (by simpa using hy)
      refine ⟨b :: z, by simp [h1], fun j => by simp only [comb]; rw [h2], fun w hw => ?_⟩
      rcases List.mem_cons.mp hw with rfl | hw
      · exact List.mem_cons_self
      · exact List.mem_cons_of_mem _ (h3 w hw)
  | @swap a b X =>
    intro y hy
    match y, hy with
    | u :: v :: y, hy =>
      refine ⟨v :: u :: y, by simpa using hy, fun j => by simp only [comb]; omega, fun w hw => ?_⟩
      simp only [List.mem_cons] at hw ⊢
      rcases hw with h | h | h
      · exact .inr (.inl h)
      · exact .inl h
      · exact .inr (.inr h)
  | trans _ _ ih1 ih2 =>
    intro y hy
    obtain ⟨z, h1, h2, h3⟩ := ih1 y hy
    obtain ⟨u, g1, g2, g3⟩ := ih2 z h1
    exact ⟨u, g1, fun j => by rw [g2, h2], fun w hw => g3 w (h3 w hw)⟩
theorem comb_cross (k : Int) (p : Vc) (l : Nat) : ∀ (y : List Int) (O : List Vc) (j : Nat), comb y (O.map fun x => fun j => k * x j - x l * p j) j = k * comb y O j - comb y O l * p j
  | [], _, _ => by simp [comb]
  | a :: y, [], _ => by simp [comb]
  | a :: y, o :: O, j => by
    have := comb_cross k p l y O j
    simp only [List.map_cons, comb]
    rw [this, Int.mul_sub, Int.mul_add, Int.add_mul, Int.mul_left_comm a k, Int.mul_assoc a (o l)]
    omega
theorem dep : ∀ (l : Nat) (X : List Vc), (∀ x ∈ X, ∀ j, l ≤ j → x j = 0) → l < X.length → ∃ y : List Int, y.length = X.length ∧ (∃ z ∈ y, z ≠ 0) ∧ ∀ j, comb y X j = 0
  | 0, X, h, hl => by
    cases X with
    | nil => simp at hl
    | cons v X =>
      refine ⟨1 :: List.replicate X.length 0, by simp, ⟨1, by simp, by decide⟩, fun j => ?_⟩
      simp only [comb]
      rw [comb_rep, h v List.mem_cons_self j (Nat.zero_le j)]
      rfl
  | l + 1, X, h, hl => by
    by_cases hp : ∃ p ∈ X, p l ≠ 0
    · obtain ⟨p, hp, hne⟩ := hp
      obtain ⟨A, B, rfl⟩ := List.append_of_mem hp
      have pm : (p :: (A ++ B)).Perm (A ++ p :: B) := List.perm_middle.symm
      obtain ⟨y, h1, ⟨z, hz, hz0⟩, h3⟩ := dep l ((A ++ B).map fun x => fun j => p l * x j - x l * p j) (fun x hx j hj => by
        obtain ⟨o, ho, rfl⟩ := List.mem_map.mp hx
        have hm : o ∈ A ++ p :: B := pm.mem_iff.mp (List.mem_cons_of_mem _ ho)
        by_cases e : j = l
        · subst e
          show p j * o j - o j * p j = 0
          rw [Int.mul_comm]
          omega
        · have e1 := h o hm j (by omega)
          have e2 := h p hp j (by omega)
          show p l * o j - o l * p j = 0
          rw [e1, e2]
          omega) (by rw [List.length_map]; simp at hl ⊢; omega)
      rw [List.length_map] at h1
      obtain ⟨u, g1, g2, g3⟩ := comb_perm pm (-(comb y (A ++ B) l) :: y.map (p l * ·)) (by simp [h1])
      refine ⟨u, g1, ⟨p l * z, g3 _ (List.mem_cons_of_mem _ (List.mem_map_of_mem hz)), by simp [hne, hz0]⟩, fun j => ?_⟩
      rw [g2]
      simp only [comb]
      rw [comb_mul]
      have := h3 j
      rw [comb_cross] at this
      rw [Int.neg_mul]
      omega
    · have hp0 : ∀ p ∈ X, p l = 0 := fun p hp' => Classical.byContradiction fun z => hp ⟨p, hp', z⟩
      exact dep l X (fun x hx j hj => by
        by_cases e : j = l
        · subst e; exact hp0 x hx
        · exact h x hx j (by omega)) (by omega)
def vec (l : List Int) : Vc := fun j => l.getD j 0
theorem vec_out {l : List Int} {j : Nat} (h : l.length ≤ j) : vec l j = 0 := by
  unfold vec
  rw [List.getD_eq_getElem?_getD, List.getElem?_eq_none h]
  rfl
/-- a combination of combinations -/
theorem comb_comb (Q : List Vc) : ∀ (y : List Int) (X : List (List Int)) (j : Nat), (∀ x ∈ X, x.length = Q.length) → y.length = X.length → ∃ z : List Int, z.length = Q.length ∧ (∀ i, vec z i = comb y (X.map vec) i) ∧ comb z Q j = comb y (X.map fun x => comb x Q) j
  | [], [], j, _, _ => ⟨List.replicate Q.length 0, by simp, fun i => by
      simp only [List.map_nil, comb]
      unfold vec
      rw [List.getD_eq_getElem?_getD, List.getElem?_replicate]
      split <;> rfl, by simp only [List.map_nil, comb_rep, comb]⟩
  | [], _ :: _, _, _, hl => by simp at hl
  | _ :: _, [], _, _, hl => by simp at hl
  | a :: y, x :: X, j, h, hl => by
    obtain ⟨z, h1, h2, h3⟩ := comb_comb Q y X j (fun x hx => h x (List.mem_cons_of_mem _ hx)) (by simpa using hl)
    have xl := h x List.mem_cons_self
    refine ⟨List.zipWith (· + ·) (x.map (a * ·)) z, by simp [xl, h1], fun i => ?_, ?_⟩
    · simp only [List.map_cons, comb]
      rw [← h2]
      unfold vec
      simp only [List.getD_eq_getElem?_getD, List.getElem?_zipWith, List.getElem?_map]
      by_cases hi : i < Q.length
      · rw [List.getElem?_eq_getElem (by omega), List.getElem?_eq_getElem (by omega)]
        simp
      · rw [List.getElem?_eq_none (by omega), List.getElem?_eq_none (by omega)]
        simp
    · rw [comb_add _ _ _ _ (by simp [xl, h1]), comb_mul, h3]
      simp only [List.map_cons, comb]
theorem comb_scale : ∀ (y d : List Int) (P : List Vc) (j : Nat), y.length = P.length → d.length = P.length → comb (List.zipWith (· * ·) y d) P j = comb y (List.zipWith (fun e p => fun j => e * p j) d P) j
  | [], _, _, _, _, _ => by simp [comb]
  | _ :: _, _, [], _, h1, _ => by simp at h1
  | _ :: _, [], _ :: _, _, _, h2 => by simp at h2
  | a :: y, b :: d, p :: P, j, h1, h2 => by
    have := comb_scale y d P j (by simpa using h1) (by simpa using h2)
    simp only [List.zipWith_cons_cons, comb]
    rw [this, Int.mul_assoc]
/-- more independent rows than the rows that span them: there are none -/
theorem dim_le {P Q : List Vc} (hi : LinInd P) (hs : ∀ p ∈ P, InSpan p Q) : P.length ≤ Q.length := by
  refine Classical.byContradiction fun hn => ?_
  have ex : ∀ P : List Vc, (∀ p ∈ P, InSpan p Q) → ∃ (d : List Int) (X : List (List Int)), d.length = P.length ∧ X.length = P.length ∧ (∀ e ∈ d, e ≠ 0) ∧ (∀ x ∈ X, x.length = Q.length) ∧ List.zipWith (fun e p => fun j => e * p j) d P = X.map fun x => comb x Q := by
    intro P
    induction P with
    | nil => exact fun _ => ⟨[], [], rfl, rfl, (fun _ h => nomatch h), (fun _ h => nomatch h), rfl⟩
    | cons p P ih =>
      intro h
      obtain ⟨d, x, d0, xl, hx⟩ := h p List.mem_cons_self
      obtain ⟨ds, X, h1, h2, h3, h4, h5⟩ := ih fun q hq => h q (List.mem_cons_of_mem _ hq)
      refine ⟨d :: ds, x :: X, by simp [h1], by simp [h2], ?_, ?_, ?_⟩
      · intro e he
        rcases List.mem_cons.mp he with rfl | he
        · exact d0
        · exact h3 e he
      · intro y hy
        rcases List.mem_cons.mp hy with rfl | hy
        · exact xl
        · exact h4 y hy
      · rw [List.zipWith_cons_cons, List.map_cons, h5]
        congr 1
        funext j
        exact hx j
  obtain ⟨d, X, h1, h2, h3, h4, h5⟩ := ex P hs
  obtain ⟨y, y1, ⟨z, hz, z0⟩, y3⟩ := dep Q.length (X.map vec) (fun x hx j hj => by
    obtain ⟨l, hl, rfl⟩ := List.mem_map.mp hx
    exact vec_out (by rw [h4 l hl]; exact hj)) (by rw [List.length_map]; omega)
  rw [List.length_map] at y1
  have van : ∀ j, comb (List.zipWith (· * ·) y d) P j = 0 := fun j => by
    rw [comb_scale y d P j (by omega) h1, h5]
    obtain ⟨w, w1, w2, w3⟩ := comb_comb Q y X j h4 y1
    rw [← w3]
    refine comb_zero _ _ _ fun a ha => ?_
    obtain ⟨i, hi, rfl⟩ := List.getElem_of_mem ha
    have e1 := w2 i
    rw [y3] at e1
    unfold vec at e1
    rw [List.getD_eq_getElem?_getD, List.getElem?_eq_getElem hi] at e1
    exact e1
  have all := hi _ (by simp; omega) van
  obtain ⟨i, hi2, rfl⟩ := List.getElem_of_mem hz
  have hid : i < d.length := by omega
  have hm : y[i] * d[i] = 0 := all _ (by
    have : (List.zipWith (· * ·) y d)[i]'(by simp; omega) = y[i] * d[i] := by simp
    rw [← this]
    exact List.getElem_mem _)
  rcases Int.mul_eq_zero.mp hm with h | h
  · exact z0 h
  · exact h3 _ (List.getElem_mem hid) h
/-- k is the rank of the rows -/
def IsRank (rows : List Vc) (k : Nat) : Prop := ∃ P : List Vc, LinInd P ∧ P.length = k ∧ (∀ p ∈ P, InSpan p rows) ∧ ∀ r ∈ rows, InSpan r P
theorem IsRank.uniq {rows rows' : List Vc} {k k' : Nat} (h : IsRank rows k) (h' : IsRank rows' k') (h1 : ∀ r ∈ rows, InSpan r rows') (h2 : ∀ r ∈ rows', InSpan r rows) : k = k' := by
  obtain ⟨P, i, l, s, t⟩ := h
  obtain ⟨P', i', l', s', t'⟩ := h'
  have a : P.length ≤ P'.length := dim_le i fun p hp => inSpan_trans (inSpan_trans (s p hp) h1) t'
  have b : P'.length ≤ P.length := dim_le i' fun p hp => inSpan_trans (inSpan_trans (s' p hp) h2) t
  omega
theorem IsRank.same {rows : List Vc} {k k' : Nat} (h : IsRank rows k) (h' : IsRank rows k') : k = k' := h.uniq h' (fun _ => inSpan_mem) fun _ => inSpan_mem
theorem IsRank.ind {rows : List Vc} (h : LinInd rows) : IsRank rows rows.length := ⟨rows, h, rfl, fun _ => inSpan_mem, fun _ => inSpan_mem⟩
theorem IsRank.mem {rows rows' : List Vc} {k : Nat} (h : IsRank rows k) (e : ∀ r, r ∈ rows ↔ r ∈ rows') : IsRank rows' k := by
  obtain ⟨P, i, l, s, t⟩ := h
  exact ⟨P, i, l, fun p hp => inSpan_trans (s p hp) fun r hr => inSpan_mem ((e r).mp hr), fun r hr => t r ((e r).mpr hr)⟩
end Lin
set_option Elab.async false
set_option linter.all false
set_option maxRecDepth 100000
namespace Lin
theorem alt_le {α : Type} {M : Nat} : ∀ (xs : List α) (f : α → List α → Int), (∀ x ys, x ∈ xs → (∀ y ∈ ys, y ∈ xs) → ys.length + 1 = xs.length → (f x ys).natAbs ≤ M) → (alt xs f).natAbs ≤ xs.length * M
  | [], _, _ => by simp [alt]
  | x :: xs, f, h => by
    have h1 := h x xs List.mem_cons_self (fun y hy => List.mem_cons_of_mem _ hy) (by simp)
    have h2 := alt_le xs (fun y ys => f y (x :: ys)) fun y ys hy hys hl => h y (x :: ys) (List.mem_cons_of_mem _ hy) (fun z hz => by
      rcases List.mem_cons.mp hz with rfl | hz
      · exact List.mem_cons_self
      · exact List.mem_cons_of_mem _ (hys z hz)) (by simp [hl])
    unfold alt
    have h3 := Int.natAbs_sub_le (f x xs) (alt xs fun y ys => f y (x :: ys))
    simp only [List.length_cons, Nat.succ_mul]
    omega
theorem det_le {B n : Nat} : ∀ (C : List Nat) (R : List Vc), R.length ≤ n → (∀ r ∈ R, ∀ c ∈ C, (r c).natAbs ≤ B) → (det R C).natAbs ≤ (n * B) ^ C.length
  | [], R, _, _ => by simp [det]
  | c :: C, R, hn, h => by
    have key := alt_le (M := B * (n * B) ^ C.length) R (fun r rest => r c * det rest C) fun x ys hx hys hl => by
      rw [Int.natAbs_mul]
      exact Nat.mul_le_mul (h x hx c List.mem_cons_self) (det_le C ys (by omega) fun r hr d hd => h r (hys r hr) d (List.mem_cons_of_mem _ hd))
    have h3 : R.length * (B * (n * B) ^ C.length) ≤ n * (B * (n * B) ^ C.length) := Nat.mul_le_mul_right _ hn
    have h4 : n * (B * (n * B) ^ C.length) = (n * B) ^ (c :: C).length := by
      rw [List.length_cons, Nat.pow_succ, ← Nat.mul_assoc, Nat.mul_comm]
    exact Nat.le_trans key (by rw [← h4]; exact h3)
def gcdL (row : List Int) : Nat := row.foldl (fun g x => Nat.gcd g x.natAbs) 0
theorem gcd_fold : ∀ (row : List Int) (g d : Nat), d ∣ row.foldl (fun g x => Nat.gcd g x.natAbs) g ↔ d ∣ g ∧ ∀ x ∈ row, d ∣ x.natAbs
  | [], g, d => by simp
  | x :: row, g, d => by
    rw [List.foldl_cons, gcd_fold row, Nat.dvd_gcd_iff]
    simp only [List.mem_cons, forall_eq_or_imp]
    constructor
    · rintro ⟨⟨a, b⟩, c⟩
      exact ⟨a, b, c⟩
    · rintro ⟨a, b, c⟩
      exact ⟨⟨a, b⟩, c⟩
theorem dvd_gcdL {row : List Int} {d : Nat} : d ∣ gcdL row ↔ ∀ x ∈ row, d ∣ x.natAbs := by
  unfold gcdL
  rw [gcd_fold]
  simp
theorem gcdL_dvd {row : List Int} {x : Int} (h : x ∈ row) : gcdL row ∣ x.natAbs := dvd_gcdL.mp (Nat.dvd_refl _) x h
theorem gcdL_zero {row : List Int} (h : gcdL row = 0) : ∀ x ∈ row, x = 0 := fun x hx => by
  have := gcdL_dvd hx
  rw [h, Nat.zero_dvd] at this
  omega
def prim (row : List Int) : List Int := if gcdL row > 1 then row.map fun x => x.fdiv (gcdL row : Int) else row
theorem prim_len (row : List Int) : (prim row).length = row.length := by
  unfold prim
  split <;> simp
/-- the divisor that is taken out -/
def dvr (row : List Int) : Int := if gcdL row > 1 then (gcdL row : Int) else 1
theorem dvr_pos (row : List Int) : 0 < dvr row := by
  unfold dvr
  split <;> omega
theorem vec_map {f : Int → Int} (hf : f 0 = 0) (l : List Int) (j : Nat) : vec (l.map f) j = f (vec l j) := by
  unfold vec
  rw [List.getD_eq_getElem?_getD, List.getD_eq_getElem?_getD, List.getElem?_map]
  cases l[j]? with
  | none => simp [hf]
  | some x => simp
theorem vec_mem {l : List Int} {j : Nat} : vec l j = 0 ∨ vec l j ∈ l := by
  unfold vec
  rw [List.getD_eq_getElem?_getD]
  cases h : l[j]? with
  | none => exact .inl rfl
  | some x => exact .inr (by simpa using List.mem_of_getElem? h)
theorem fdiv_exact {x g : Int} (hg : g ≠ 0) (h : g ∣ x) : g * x.fdiv g = x := by
  rw [Int.fdiv_eq_ediv_of_dvd h, Int.mul_ediv_cancel' h]
theorem prim_vec (row : List Int) (j : Nat) : dvr row * vec (prim row) j = vec row j := by
  unfold dvr prim
  by_cases h : gcdL row > 1
  · rw [if_pos h, if_pos h]
    rw [vec_map (by simp)]
    apply fdiv_exact (by omega)
    rcases vec_mem (l := row) (j := j) with z | z
    · rw [z]
      exact Int.dvd_zero _
    · exact Int.natAbs_dvd_natAbs.mp (by rw [Int.natAbs_natCast]; exact gcdL_dvd z)
  · rw [if_neg h, if_neg h, Int.one_mul]
theorem vec_zero {l : List Int} (h : ∀ x ∈ l, x = 0) (j : Nat) : vec l j = 0 := by
  rcases vec_mem (l := l) (j := j) with z | z
  · exact z
  · exact h _ z
theorem mem_vec {l : List Int} {x : Int} (h : x ∈ l) : ∃ j, j < l.length ∧ vec l j = x := by
  obtain ⟨j, hj, e⟩ := List.getElem_of_mem h
  refine ⟨j, hj, ?_⟩
  unfold vec
  rw [List.getD_eq_getElem?_getD, List.getElem?_eq_getElem hj]
  exact e
theorem prim_one {row : List Int} (h : ∃ j, vec row j ≠ 0) : gcdL (prim row) = 1 := by
  unfold prim
  by_cases hg : gcdL row > 1
  · rw [if_pos hg]
    have hd : ∀ x ∈ row, (gcdL row : Int) ∣ x := fun x hx => Int.natAbs_dvd_natAbs.mp (by rw [Int.natAbs_natCast]; exact gcdL_dvd hx)
    have key : gcdL row * gcdL (row.map fun x => x.fdiv (gcdL row : Int)) ∣ gcdL row := by
      rw [dvd_gcdL]
      intro x hx
      have e := fdiv_exact (by omega) (hd x hx)
      have : gcdL (row.map fun x => x.fdiv (gcdL row : Int)) ∣ (x.fdiv (gcdL row : Int)).natAbs := gcdL_dvd (List.mem_map.mpr ⟨x, hx, rfl⟩)
      have e2 : x.natAbs = gcdL row * (x.fdiv (gcdL row : Int)).natAbs := by
        have := congrArg Int.natAbs e
        rw [Int.natAbs_mul, Int.natAbs_natCast] at this
        exact this.symm
      rw [e2]
      exact Nat.mul_dvd_mul_left _ this
    exact Nat.dvd_one.mp (Nat.dvd_of_mul_dvd_mul_left (by omega : 0 < gcdL row) (by rw [Nat.mul_one]; exact key))
  · rw [if_neg hg]
    have : gcdL row ≠ 0 := fun z => by
      obtain ⟨j, hj⟩ := h
      exact hj (vec_zero (gcdL_zero z) j)
    omega
theorem prim_nz {row : List Int} {j : Nat} : vec (prim row) j = 0 ↔ vec row j = 0 := by
  have h := prim_vec row j
  have p := dvr_pos row
  constructor
  · intro z
    rw [← h, z, Int.mul_zero]
  · intro z
    rw [z] at h
    exact (Int.mul_eq_zero.mp h).resolve_left (by omega)
theorem prim_prim_one {row : List Int} {j : Nat} (h : vec (prim row) j ≠ 0) : gcdL (prim row) = 1 := prim_one ⟨j, fun z => h (prim_nz.mpr z)⟩
/-- a primitive row divides what is parallel to it -/
theorem prim_divides {v : List Int} {w : Vc} {p : Nat} (hv : gcdL v = 1) (h0 : vec v p ≠ 0) (h : ∀ j, vec v p * w j = w p * vec v j) : ∃ k, ∀ j, w j = k * vec v j := by
  have d : vec v p ∣ w p := by
    have a : (vec v p).natAbs ∣ gcdL (v.map (w p * ·)) := by
      rw [dvd_gcdL]
      intro x hx
      obtain ⟨y, hy, rfl⟩ := List.mem_map.mp hx
      obtain ⟨j, _, e⟩ := mem_vec hy
      rw [← e, ← h j, Int.natAbs_mul]
      exact Nat.dvd_mul_right _ _
    have b : gcdL (v.map (w p * ·)) ∣ (w p).natAbs * gcdL v := by
      have : ∀ (l : List Int) (g : Nat), (l.map (w p * ·)).foldl (fun g x => Nat.gcd g x.natAbs) ((w p).natAbs * g) = (w p).natAbs * l.foldl (fun g x => Nat.gcd g x.natAbs) g := by
        intro l
        induction l with
        | nil => intro g; rfl
        | cons x l ih =>
          intro g
          rw [List.map_cons, List.foldl_cons, List.foldl_cons, Int.natAbs_mul, Nat.gcd_mul_left, ih]
      have e := this v 0
      rw [Nat.mul_zero] at e
      show (v.map (w p * ·)).foldl (fun g x => Nat.gcd g x.natAbs) 0 ∣ _
      rw [e]
      exact Nat.dvd_refl _
    rw [hv, Nat.mul_one] at b
    exact Int.natAbs_dvd_natAbs.mp (Nat.dvd_trans a b)
  obtain ⟨k, hk⟩ := d
  refine ⟨k, fun j => ?_⟩
  have := h j
  rw [hk, Int.mul_assoc] at this
  exact Int.eq_of_mul_eq_mul_left h0 this
def clrR (row by_ : List Int) (p : Nat) : List Int := List.zipWith (fun n o => n * vec by_ p - vec row p * o) row by_
def clr (row by_ : List Int) (p : Nat) : List Int := prim (clrR row by_ p)
theorem clrR_len {row by_ : List Int} {p w : Nat} (h1 : row.length = w) (h2 : by_.length = w) : (clrR row by_ p).length = w := by
  unfold clrR
  rw [List.length_zipWith, h1, h2, Nat.min_self]
theorem clr_len {row by_ : List Int} {p w : Nat} (h1 : row.length = w) (h2 : by_.length = w) : (clr row by_ p).length = w := by
  unfold clr
  rw [prim_len, clrR_len h1 h2]
theorem clrR_vec {row by_ : List Int} {p : Nat} (h : row.length = by_.length) (j : Nat) : vec (clrR row by_ p) j = vec row j * vec by_ p - vec row p * vec by_ j := by
  have key : ∀ (a b : Int) (r s : List Int) (j : Nat), r.length = s.length → vec (List.zipWith (fun n o => n * a - b * o) r s) j = vec r j * a - b * vec s j := by
    intro a b r s j hl
    unfold vec
    rw [List.getD_eq_getElem?_getD, List.getD_eq_getElem?_getD, List.getD_eq_getElem?_getD, List.getElem?_zipWith]
    by_cases hj : j < r.length
    · rw [List.getElem?_eq_getElem hj, List.getElem?_eq_getElem (by omega : j < s.length)]
      rfl
    · rw [List.getElem?_eq_none (by omega), List.getElem?_eq_none (by omega : s.length ≤ j)]
      simp
  exact key _ _ _ _ j h
/-- what the clearing gives, but for the divisor -/
theorem clr_vec {row by_ : List Int} {p : Nat} (h : row.length = by_.length) (j : Nat) : dvr (clrR row by_ p) * vec (clr row by_ p) j = vec row j * vec by_ p - vec row p * vec by_ j := by
  rw [← clrR_vec h]
  exact prim_vec _ j
theorem clr_nz {row by_ : List Int} {p j : Nat} (h : row.length = by_.length) : vec (clr row by_ p) j = 0 ↔ vec row j * vec by_ p - vec row p * vec by_ j = 0 := by
  unfold clr
  rw [prim_nz, clrR_vec h]
/-- cleared with all that were found -/
def clrAll (row : List Int) (found : List (Nat × List Int)) : List Int := found.foldl (fun l e => clr l e.2 e.1) row
def fstNz (row : List Int) : Option Nat := row.findIdx? (· ≠ 0)
def redStep (found : List (Nat × List Int)) (row : List Int) : List (Nat × List Int) :=
  match fstNz (clrAll (prim row) found) with
  | none => found
  | some s => found.map (fun e => (e.1, clr e.2 (clrAll (prim row) found) s)) ++ [(s, clrAll (prim row) found)]
def red (rows : List (List Int)) : List (Nat × List Int) := rows.foldl redStep []
theorem fstNz_some {row : List Int} {s : Nat} (h : fstNz row = some s) : vec row s ≠ 0 ∧ s < row.length ∧ ∀ i, i < s → vec row i = 0 := by
  unfold fstNz at h
  rw [List.findIdx?_eq_some_iff_getElem] at h
  obtain ⟨h1, h2, h3⟩ := h
  have e : ∀ i (hi : i < row.length), vec row i = row[i] := fun i hi => by
    unfold vec
    rw [List.getD_eq_getElem?_getD, List.getElem?_eq_getElem hi]
    rfl
  refine ⟨?_, h1, fun i hi => ?_⟩
  · rw [e s h1]
    simpa using h2
  · rw [e i (by omega)]
    simpa using h3 i hi
theorem fstNz_none {row : List Int} (h : fstNz row = none) (j : Nat) : vec row j = 0 := by
  unfold fstNz at h
  rw [List.findIdx?_eq_none_iff] at h
  exact vec_zero (fun x hx => by simpa using h x hx) j
/-- the state: rows found, each with a place at which the others have 0 -/
structure RedInv (w : Nat) (found : List (Nat × List Int)) (rows : List (List Int)) (P : List Vc) : Prop where
  len : ∀ e ∈ found, e.2.length = w
  lt : ∀ e ∈ found, e.1 < w
  nz : ∀ e ∈ found, vec e.2 e.1 ≠ 0
  zo : ∀ e ∈ found, ∀ e' ∈ found, e.1 ≠ e'.1 → vec e.2 e'.1 = 0
  nd : (found.map (·.1)).Nodup
  pr : ∀ e ∈ found, gcdL e.2 = 1
  chain : Chain P (found.map (·.1)).reverse
  pin : ∀ p ∈ P, p ∈ rows.map vec
  sp1 : ∀ e ∈ found, InSpan (vec e.2) P
  sp2 : ∀ r ∈ rows, InSpan (vec r) (found.map fun e => vec e.2)
theorem RedInv.nil (w : Nat) : RedInv w [] [] [] := ⟨nofun, nofun, nofun, nofun, List.nodup_nil, nofun, .nil, nofun, nofun, nofun⟩
/-- two places alike: the same entry -/
theorem RedInv.same {w : Nat} {found : List (Nat × List Int)} {rows : List (List Int)} {P : List Vc} (h : RedInv w found rows P) {e e' : Nat × List Int} (he : e ∈ found) (he' : e' ∈ found) (q : e.1 = e'.1) : e = e' := by
  have := h.nd
  clear h
  induction found with
  | nil => cases he
  | cons x xs ih =>
    rw [List.map_cons, List.nodup_cons] at this
    rcases List.mem_cons.mp he with r1 | r1 <;> rcases List.mem_cons.mp he' with r2 | r2
    · rw [r1, r2]
    · exact absurd (List.mem_map.mpr ⟨e', r2, by rw [← q, r1]⟩) this.1
    · exact absurd (List.mem_map.mpr ⟨e, r1, by rw [q, r2]⟩) this.1
    · exact ih r1 r2 this.2
/-- how a row comes through the clearing: its own part stays, zeros at the places, nothing is lost -/
structure Cleared (w : Nat) (r : Vc) (P : List Vc) (seen : List (Nat × List Int)) (l : List Int) : Prop where
  len : l.length = w
  pr : ∃ x, l = prim x
  own : ∃ (a b : Int) (y : List Int), a ≠ 0 ∧ b ≠ 0 ∧ y.length = P.length ∧ ∀ j, a * vec l j = b * r j + comb y P j
  zo : ∀ e ∈ seen, vec l e.1 = 0
  back : InSpan r (vec l :: seen.map fun e => vec e.2)
theorem inSpan_two {Q : List Vc} {u v w : Vc} {a b c : Int} (ha : a ≠ 0) (h : ∀ j, a * w j = b * u j + c * v j) (hu : InSpan u Q) (hv : InSpan v Q) : InSpan w Q := inSpan_add ha h hu hv
theorem inSpan_sub {Q Q' : List Vc} {v : Vc} (h : InSpan v Q) (s : ∀ q ∈ Q, q ∈ Q') : InSpan v Q' := inSpan_trans h fun q hq => inSpan_mem (s q hq)
theorem clear_all {w : Nat} {found : List (Nat × List Int)} {rows : List (List Int)} {P : List Vc} (h : RedInv w found rows P) {r : List Int} (hr : r.length = w) : Cleared w (vec r) P found (clrAll (prim r) found) := by
  have go : ∀ (rest seen : List (Nat × List Int)) (l : List Int), seen ++ rest = found → Cleared w (vec r) P seen l → Cleared w (vec r) P found (rest.foldl (fun l e => clr l e.2 e.1) l) := by
    intro rest
    induction rest with
    | nil =>
      intro seen l e c
      rw [List.append_nil] at e
      rw [← e]
      exact c
    | cons x rest ih =>
      intro seen l e c
      have hx : x ∈ found := by rw [← e]; simp
      have hs : ∀ z ∈ seen, z ∈ found := fun z hz => by rw [← e]; exact List.mem_append_left _ hz
      have hne : ∀ z ∈ seen, x.1 ≠ z.1 := fun z hz q => by
        have nd := h.nd
        rw [← e, List.map_append, List.map_cons] at nd
        have := (List.nodup_append.mp nd).2.2
        exact this z.1 (List.mem_map.mpr ⟨z, hz, rfl⟩) x.1 List.mem_cons_self q.symm
      rw [List.foldl_cons]
      have hl : l.length = x.2.length := by rw [c.len, h.len x hx]
      have hv := clr_vec (p := x.1) hl
      have gp := dvr_pos (clrR l x.2 x.1)
      refine ih (seen ++ [x]) _ (by rw [List.append_assoc]; exact e) ⟨clr_len c.len (h.len x hx), ⟨_, rfl⟩, ?_, ?_, ?_⟩
      · obtain ⟨a, b, y, ha, hb, hy, q⟩ := c.own
        obtain ⟨d, z, hd, hz, q2⟩ := h.sp1 x hx
        refine ⟨a * d * dvr (clrR l x.2 x.1), d * vec x.2 x.1 * b, List.zipWith (· + ·) (y.map ((d * vec x.2 x.1) * ·)) (z.map ((-(a * vec l x.1)) * ·)), ?_, ?_, by simp [hy, hz], fun j => ?_⟩
        · exact Int.mul_ne_zero (Int.mul_ne_zero ha hd) (by omega)
        · exact Int.mul_ne_zero (Int.mul_ne_zero hd (h.nz x hx)) hb
        · rw [comb_add _ _ _ _ (by simp [hy, hz]), comb_mul, comb_mul, Int.mul_assoc, hv j, ← q2 j]
          have e1 := q j
          have e2 : a * d * (vec l j * vec x.2 x.1 - vec l x.1 * vec x.2 j) = d * vec x.2 x.1 * (a * vec l j) - a * vec l x.1 * (d * vec x.2 j) := by
            simp only [Int.mul_sub, Int.mul_add, Int.mul_assoc, Int.mul_left_comm, Int.mul_comm]
          rw [e2, e1, Int.mul_add, Int.neg_mul, ← Int.mul_assoc (d * vec x.2 x.1) b]
          omega
      · intro z hz
        rw [clr_nz hl]
        rcases List.mem_append.mp hz with hz | hz
        · rw [c.zo z hz, h.zo x hx z (hs z hz) (hne z hz)]
          simp
        · rw [List.mem_singleton.mp hz, Int.mul_comm]
          omega
      · refine inSpan_trans c.back fun u hu => ?_
        rcases List.mem_cons.mp hu with hu | hu
        · rw [hu]
          refine inSpan_two (a := vec x.2 x.1) (b := dvr (clrR l x.2 x.1)) (c := vec l x.1) (h.nz x hx) (fun j => ?_) (inSpan_mem List.mem_cons_self) (inSpan_mem (v := vec x.2) (List.mem_cons_of_mem _ (by simp)))
          rw [hv j, Int.mul_comm (vec x.2 x.1)]
          omega
        · exact inSpan_mem (List.mem_cons_of_mem _ (by
            rw [List.map_append]
            exact List.mem_append_left _ hu))
  unfold clrAll
  refine go found [] _ (by simp) ⟨by rw [prim_len, hr], ⟨r, rfl⟩, ⟨dvr r, 1, List.replicate P.length 0, ?_, by decide, by simp, fun j => ?_⟩, nofun, ?_⟩
  · have := dvr_pos r
    omega
  · rw [comb_rep, prim_vec, Int.one_mul, Int.add_zero]
  · refine ⟨1, [dvr r], by decide, by simp, fun j => ?_⟩
    simp only [comb, List.map_nil]
    rw [prim_vec]
    omega
/-- a row that is cleared away lies in the span of what was found; else it makes the chain longer -/
theorem red_step {w : Nat} {found : List (Nat × List Int)} {rows : List (List Int)} {P : List Vc} (h : RedInv w found rows P) {r : List Int} (hr : r.length = w) : ∃ P', RedInv w (redStep found r) (r :: rows) P' ∧ (P' = P ∨ P' = vec r :: P) := by
  have c := clear_all h hr
  unfold redStep
  generalize clrAll (prim r) found = l at c
  cases hs : fstNz l with
  | none =>
    refine ⟨P, ⟨h.len, h.lt, h.nz, h.zo, h.nd, h.pr, h.chain, fun p hp => List.mem_cons_of_mem _ (h.pin p hp), h.sp1, fun q hq => ?_⟩, .inl rfl⟩
    rcases List.mem_cons.mp hq with rfl | hq
    · refine inSpan_trans c.back fun u hu => ?_
      rcases List.mem_cons.mp hu with rfl | hu
      · exact inSpan_zero (fstNz_none hs)
      · exact inSpan_mem hu
    · exact h.sp2 q hq
  | some s =>
    obtain ⟨s0, s1, _⟩ := fstNz_some hs
    have hp : ∀ e ∈ found, e.1 ≠ s := fun e he q => s0 (by rw [← q]; exact c.zo e he)
    have hlen : ∀ e ∈ found, e.2.length = l.length := fun e he => by rw [h.len e he, c.len]
    have hv := fun e he j => clr_vec (row := e.2) (by_ := l) (p := s) (hlen e he) j
    have hg := fun (e : Nat × List Int) => dvr_pos (clrR e.2 l s)
    have mem : ∀ z, z ∈ (found.map fun e => (e.1, clr e.2 l s)) ++ [(s, l)] ↔ (∃ e ∈ found, z = (e.1, clr e.2 l s)) ∨ z = (s, l) := fun z => by
      simp only [List.mem_append, List.mem_map, List.mem_singleton]
      constructor
      · rintro (⟨e, he, q⟩ | q)
        · exact .inl ⟨e, he, q.symm⟩
        · exact .inr q
      · rintro (⟨e, he, q⟩ | q)
        · exact .inl ⟨e, he, q.symm⟩
        · exact .inr q
    have places : ((found.map fun e => (e.1, clr e.2 l s)) ++ [(s, l)]).map (·.1) = found.map (·.1) ++ [s] := by
      rw [List.map_append, List.map_map]
      rfl
    have sl : InSpan (vec l) (vec r :: P) := by
      obtain ⟨a, b, y, ha, hb, hy, q⟩ := c.own
      exact ⟨a, b :: y, ha, by simp [hy], fun j => by rw [q]; rfl⟩
    refine ⟨vec r :: P, ⟨?_, ?_, ?_, ?_, ?_, ?_, ?_, ?_, ?_, ?_⟩, .inr rfl⟩
    · intro z hz
      rcases (mem z).mp hz with ⟨e, he, rfl⟩ | rfl
      · exact clr_len (h.len e he) c.len
      · exact c.len
    · intro z hz
      rcases (mem z).mp hz with ⟨e, he, rfl⟩ | rfl
      · exact h.lt e he
      · rw [← c.len]
        exact s1
    · intro z hz
      rcases (mem z).mp hz with ⟨e, he, rfl⟩ | rfl
      · intro q
        have q := (clr_nz (hlen e he)).mp q
        rw [c.zo e he, Int.mul_zero, Int.sub_zero] at q
        rcases Int.mul_eq_zero.mp q with q | q
        · exact h.nz e he q
        · exact s0 q
      · exact s0
    · intro z hz z' hz' ne
      rcases (mem z).mp hz with ⟨e, he, rfl⟩ | rfl <;> rcases (mem z').mp hz' with ⟨e', he', rfl⟩ | rfl
      · show vec (clr e.2 l s) e'.1 = 0
        rw [clr_nz (hlen e he), h.zo e he e' he' ne, c.zo e' he']
        simp
      · show vec (clr e.2 l s) s = 0
        rw [clr_nz (hlen e he)]
        omega
      · exact c.zo e' he'
      · exact absurd rfl ne
    · rw [places, List.nodup_append]
      refine ⟨h.nd, by simp, fun a ha b hb q => ?_⟩
      obtain ⟨e, he, rfl⟩ := List.mem_map.mp ha
      rw [List.mem_singleton] at hb
      exact hp e he (q.trans hb)
    · intro z hz
      rcases (mem z).mp hz with ⟨e, he, rfl⟩ | rfl
      · refine prim_prim_one (j := e.1) fun q => ?_
        have q := (clr_nz (hlen e he)).mp q
        rw [c.zo e he, Int.mul_zero, Int.sub_zero] at q
        rcases Int.mul_eq_zero.mp q with q | q
        · exact h.nz e he q
        · exact s0 q
      · obtain ⟨x, rfl⟩ := c.pr
        exact prim_prim_one s0
    · rw [places, List.reverse_append, List.reverse_singleton, List.singleton_append]
      refine .cons h.chain fun hd => ?_
      -- the determinant along r is the cleared row but for a factor
      obtain ⟨x, hx, hD⟩ := det_comb (vec r) P (found.map (·.1)).reverse
      obtain ⟨a, b, y, ha, hb, hy, q⟩ := c.own
      have z := h.chain.zero (x := List.zipWith (· + ·) (x.map ((-b) * ·)) (y.map ((-(det P (found.map (·.1)).reverse)) * ·))) (by simp [hx, hy])
      have ev : ∀ j, comb (List.zipWith (· + ·) (x.map ((-b) * ·)) (y.map ((-(det P (found.map (·.1)).reverse)) * ·))) P j = b * det (vec r :: P) (j :: (found.map (·.1)).reverse) - det P (found.map (·.1)).reverse * (a * vec l j) := fun j => by
        rw [comb_add _ _ _ _ (by simp [hx, hy]), comb_mul, comb_mul, hD j, q j, Int.mul_sub, Int.mul_add, Int.neg_mul, Int.neg_mul, Int.mul_left_comm b]
        omega
      have z2 := z (fun d hd' => by
        rw [ev d, det_dup _ d _ hd']
        obtain ⟨e, he, rfl⟩ := List.mem_map.mp (List.mem_reverse.mp hd')
        rw [c.zo e he]
        simp) s
      rw [ev s, hd, Int.mul_zero, Int.zero_sub] at z2
      have z3 : det P (found.map (·.1)).reverse * (a * vec l s) = 0 := by omega
      rcases Int.mul_eq_zero.mp z3 with z4 | z4
      · exact h.chain.ne z4
      · rcases Int.mul_eq_zero.mp z4 with z5 | z5
        · exact ha z5
        · exact s0 z5
    · intro p hp'
      rcases List.mem_cons.mp hp' with rfl | hp'
      · exact List.mem_cons_self
      · exact List.mem_cons_of_mem _ (h.pin p hp')
    · intro z hz
      rcases (mem z).mp hz with ⟨e, he, rfl⟩ | rfl
      · refine inSpan_two (a := dvr (clrR e.2 l s)) (b := vec l s) (c := -(vec e.2 s)) (by have := hg e; omega) (fun j => ?_) (inSpan_sub (h.sp1 e he) fun q hq => List.mem_cons_of_mem _ hq) sl
        rw [hv e he j, Int.neg_mul, Int.mul_comm (vec l s)]
        omega
      · exact sl
    · -- nothing is lost
      have old : ∀ e ∈ found, InSpan (vec e.2) (((found.map fun e => (e.1, clr e.2 l s)) ++ [(s, l)]).map fun e => vec e.2) := fun e he => by
        refine inSpan_two (a := vec l s) (b := dvr (clrR e.2 l s)) (c := vec e.2 s) s0 (fun j => ?_) (inSpan_mem (v := vec (clr e.2 l s)) ?_) (inSpan_mem (v := vec l) ?_)
        · rw [hv e he j, Int.mul_comm (vec l s)]
          omega
        · exact List.mem_map.mpr ⟨_, (mem _).mpr (.inl ⟨e, he, rfl⟩), rfl⟩
        · exact List.mem_map.mpr ⟨_, (mem _).mpr (.inr rfl), rfl⟩
      have oldA : ∀ v ∈ found.map fun e => vec e.2, InSpan v (((found.map fun e => (e.1, clr e.2 l s)) ++ [(s, l)]).map fun e => vec e.2) := fun v hv' => by
        obtain ⟨e, he, rfl⟩ := List.mem_map.mp hv'
        exact old e he
      intro q hq
      rcases List.mem_cons.mp hq with rfl | hq
      · refine inSpan_trans c.back fun u hu => ?_
        rcases List.mem_cons.mp hu with rfl | hu
        · exact inSpan_mem (v := vec l) (List.mem_map.mpr ⟨_, (mem _).mpr (.inr rfl), rfl⟩)
        · exact oldA u hu
      · exact inSpan_trans (h.sp2 q hq) oldA
/-- places are as many as rows of the chain -/
theorem RedInv.plen {w : Nat} {found : List (Nat × List Int)} {rows : List (List Int)} {P : List Vc} (h : RedInv w found rows P) : P.length = found.length := by
  have := h.chain.len
  simpa using this
theorem RedInv.ind {w : Nat} {found : List (Nat × List Int)} {rows : List (List Int)} {P : List Vc} (h : RedInv w found rows P) : LinInd (found.map fun e => vec e.2) := by
  have at_ : ∀ (l : List (Nat × List Int)) (e : Nat × List Int), e ∈ l → (∀ z ∈ l, z ∈ found) → (l.map (·.1)).Nodup → ∀ x : List Int, x.length = l.length → ∀ (i : Nat), l[i]? = some e → comb x (l.map fun e => vec e.2) e.1 = x.getD i 0 * vec e.2 e.1 := by
    intro l
    induction l with
    | nil => intro e he; cases he
    | cons y ys ih =>
      intro e he hsub nd x hx i hi
      cases x with
      | nil => simp at hx
      | cons x0 xs =>
        have hx' : xs.length = ys.length := by simpa using hx
        rw [List.map_cons, List.nodup_cons] at nd
        simp only [List.map_cons, comb]
        cases i with
        | zero =>
          simp only [List.getElem?_cons_zero, Option.some.injEq] at hi
          subst hi
          have : comb xs (ys.map fun e => vec e.2) y.1 = 0 := by
            have z : ∀ (ys : List (Nat × List Int)) (xs : List Int), (∀ z ∈ ys, vec z.2 y.1 = 0) → comb xs (ys.map fun e => vec e.2) y.1 = 0 := by
              intro ys
              induction ys with
              | nil => intro xs _; cases xs <;> rfl
              | cons u us ih2 =>
                intro xs hz
                cases xs with
                | nil => rfl
                | cons a as =>
                  simp only [List.map_cons, comb]
                  rw [hz u List.mem_cons_self, ih2 as fun z hz' => hz z (List.mem_cons_of_mem _ hz')]
                  simp
            exact z ys xs fun z hz => h.zo z (hsub z (List.mem_cons_of_mem _ hz)) y (hsub y List.mem_cons_self) fun q => nd.1 (List.mem_map.mpr ⟨z, hz, q⟩)
          rw [this]
          simp
        | succ i =>
          rw [List.getElem?_cons_succ] at hi
          have he2 : e ∈ ys := List.mem_of_getElem? hi
          rw [ih e he2 (fun z hz => hsub z (List.mem_cons_of_mem _ hz)) nd.2 xs hx' i hi]
          rw [h.zo y (hsub y List.mem_cons_self) e (hsub e he) fun q => nd.1 (List.mem_map.mpr ⟨e, he2, q.symm⟩)]
          simp
  intro x hx hv y hy
  obtain ⟨i, hi, rfl⟩ := List.getElem_of_mem hy
  have hif : i < found.length := by rw [hx] at hi; simpa using hi
  have hm : found[i] ∈ found := List.getElem_mem hif
  have := at_ found found[i] hm (fun _ z => z) h.nd x (by simpa using hx) i (List.getElem?_eq_getElem hif)
  rw [hv] at this
  rcases Int.mul_eq_zero.mp this.symm with q | q
  · rw [List.getD_eq_getElem?_getD, List.getElem?_eq_getElem hi] at q
    exact q
  · exact absurd q (h.nz _ hm)
/-- the rank -/
theorem RedInv.rank {w : Nat} {found : List (Nat × List Int)} {rows : List (List Int)} {P : List Vc} (h : RedInv w found rows P) : IsRank (rows.map vec) found.length := by
  refine ⟨found.map fun e => vec e.2, h.ind, by simp, fun p hp => ?_, fun r hr => ?_⟩
  · obtain ⟨e, he, rfl⟩ := List.mem_map.mp hp
    exact inSpan_sub (h.sp1 e he) h.pin
  · obtain ⟨q, hq, rfl⟩ := List.mem_map.mp hr
    exact h.sp2 q hq
/-- a found row is parallel to one of determinants -/
theorem RedInv.par {w : Nat} {found : List (Nat × List Int)} {rows : List (List Int)} {P : List Vc} (h : RedInv w found rows P) (e : Nat × List Int) (he : e ∈ found) (C1 C2 : List Nat) (hC : (found.map (·.1)).reverse = C1 ++ e.1 :: C2) (j : Nat) :
    vec e.2 e.1 * det P (j :: (C1 ++ C2)) = det P (e.1 :: (C1 ++ C2)) * vec e.2 j := by
  obtain ⟨x, hx, hwc⟩ := alt_comb P fun y ys => det ys (C1 ++ C2)
  have hw : ∀ j, det P (j :: (C1 ++ C2)) = comb x P j := fun j => by
    rw [← hwc j]
    rfl
  obtain ⟨d, z, hd, hz, hv⟩ := h.sp1 e he
  have mem : ∀ c ∈ (found.map (·.1)).reverse, c = e.1 ∨ c ∈ C1 ++ C2 := fun c hc => by
    rw [hC] at hc
    rcases List.mem_append.mp hc with q | q
    · exact .inr (List.mem_append_left _ q)
    · rcases List.mem_cons.mp q with q | q
      · exact .inl q
      · exact .inr (List.mem_append_right _ q)
  have nd : ((found.map (·.1)).reverse).Nodup := (List.reverse_perm _).nodup_iff.mpr h.nd
  have par : ∀ j, vec e.2 e.1 * det P (j :: (C1 ++ C2)) = det P (e.1 :: (C1 ++ C2)) * vec e.2 j := fun j => by
    have zz := h.chain.zero (x := List.zipWith (· + ·) (x.map ((d * vec e.2 e.1) * ·)) (z.map ((-(det P (e.1 :: (C1 ++ C2)))) * ·))) (by simp [hx, hz])
    have ev : ∀ j, comb (List.zipWith (· + ·) (x.map ((d * vec e.2 e.1) * ·)) (z.map ((-(det P (e.1 :: (C1 ++ C2)))) * ·))) P j = d * (vec e.2 e.1 * det P (j :: (C1 ++ C2)) - det P (e.1 :: (C1 ++ C2)) * vec e.2 j) := fun j => by
      rw [comb_add _ _ _ _ (by simp [hx, hz]), comb_mul, comb_mul, ← hw j, ← hv j, Int.neg_mul, Int.mul_sub, Int.mul_assoc, Int.mul_left_comm d (det P (e.1 :: (C1 ++ C2)))]
      omega
    have z2 := zz (fun c hc => by
      rw [ev c]
      rcases mem c hc with rfl | hc'
      · rw [Int.mul_comm (vec e.2 e.1), Int.sub_self, Int.mul_zero]
      · rw [det_dup _ c _ hc']
        have : vec e.2 c = 0 := by
          obtain ⟨e', he', rfl⟩ := List.mem_map.mp (List.mem_reverse.mp hc)
          refine h.zo e he e' he' fun q => ?_
          rw [hC] at nd
          rw [← q] at hc'
          have n1 := List.nodup_append.mp nd
          rcases List.mem_append.mp hc' with m | m
          · exact n1.2.2 _ m _ List.mem_cons_self rfl
          · exact (List.nodup_cons.mp n1.2.1).1 m
        rw [this]
        simp) j
    rw [ev j] at z2
    rcases Int.mul_eq_zero.mp z2 with z3 | z3
    · exact absurd z3 hd
    · omega
  exact par j
/-- no number of a found row is greater than a determinant of given ones -/
theorem RedInv.small {w B : Nat} {found : List (Nat × List Int)} {rows : List (List Int)} {P : List Vc} (h : RedInv w found rows P) (hB : ∀ r ∈ rows, ∀ j, (vec r j).natAbs ≤ B) : ∀ e ∈ found, ∀ j, (vec e.2 j).natAbs ≤ (found.length * B) ^ found.length := by
  intro e he j
  have hPB : ∀ p ∈ P, ∀ j, (p j).natAbs ≤ B := fun p hp j => by
    obtain ⟨r, hr, rfl⟩ := List.mem_map.mp (h.pin p hp)
    exact hB r hr j
  obtain ⟨C1, C2, hC⟩ : ∃ C1 C2, (found.map (·.1)).reverse = C1 ++ e.1 :: C2 := List.append_of_mem (List.mem_reverse.mpr (List.mem_map.mpr ⟨e, he, rfl⟩))
  -- the column of e put first
  have front : ∀ (C1 C2 : List Nat) (d : Nat), ∃ k : Int, k ≠ 0 ∧ ∀ R, det R (C1 ++ d :: C2) = k * det R (d :: (C1 ++ C2)) := by
    intro C1
    induction C1 with
    | nil => intro C2 d; exact ⟨1, by decide, fun R => by rw [Int.one_mul]; rfl⟩
    | cons b C1 ih =>
      intro C2 d
      obtain ⟨k, hk, q⟩ := ih C2 d
      refine ⟨-k, by omega, fun R => ?_⟩
      have e1 : det R (b :: (C1 ++ d :: C2)) = k * det R (b :: d :: (C1 ++ C2)) := det_tail (C' := d :: (C1 ++ C2)) q
      show det R (b :: (C1 ++ d :: C2)) = -k * det R (d :: b :: (C1 ++ C2))
      rw [e1, det_swap, Int.neg_mul, Int.mul_neg]
  obtain ⟨k, hk, hf⟩ := front C1 C2 e.1
  have hne : det P (e.1 :: (C1 ++ C2)) ≠ 0 := fun z => h.chain.ne (by rw [hC, hf, z, Int.mul_zero])
  have par := h.par e he C1 C2 hC
  obtain ⟨k2, hk2⟩ := prim_divides (h.pr e he) (h.nz e he) (w := fun j => det P (j :: (C1 ++ C2))) par
  have hk0 : k2 ≠ 0 := fun q => hne (by rw [hk2 e.1, q, Int.zero_mul])
  have big : (vec e.2 j).natAbs ≤ (det P (j :: (C1 ++ C2))).natAbs := by
    rw [hk2 j, Int.natAbs_mul]
    exact Nat.le_mul_of_pos_left _ (by omega)
  have hcl : (j :: (C1 ++ C2)).length = found.length := by
    have := congrArg List.length hC
    rw [List.length_reverse, List.length_map, List.length_append, List.length_cons] at this
    rw [List.length_cons, List.length_append]
    omega
  have bd := det_le (B := B) (n := found.length) (j :: (C1 ++ C2)) P (by rw [h.plen]; exact Nat.le_refl _) fun p hp c _ => hPB p hp c
  rw [hcl] at bd
  exact Nat.le_trans big bd
def ext (P : List Vc) (C : List Nat) (w : Nat) (r : List Int) : List Int := (List.range w).map fun j => det (vec r :: P) (j :: C)
theorem ext_len {P : List Vc} {C : List Nat} {w : Nat} {r : List Int} : (ext P C w r).length = w := by simp [ext]
theorem det_one (v : Vc) (j : Nat) : det [v] [j] = v j := by simp [det, alt]
theorem vec_range {w : Nat} {f : Nat → Int} {j : Nat} (h : j < w) : vec ((List.range w).map f) j = f j := by
  unfold vec
  rw [List.getD_eq_getElem?_getD, List.getElem?_map, List.getElem?_range h]
  rfl
theorem vec_get {l : List Int} {j : Nat} (h : j < l.length) : l[j] = vec l j := by
  unfold vec
  rw [List.getD_eq_getElem?_getD, List.getElem?_eq_getElem h]
  rfl
theorem ext_nil {w : Nat} {r : List Int} (h : r.length = w) : ext [] [] w r = r := by
  apply List.ext_getElem
  · rw [ext_len, h]
  · intro j h1 h2
    rw [vec_get h1, vec_get h2]
    unfold ext
    rw [vec_range (by rw [ext_len] at h1; exact h1), det_one]
theorem ext_vec {P : List Vc} {C : List Nat} {w : Nat} {r : List Int} {j : Nat} (h : j < w) : vec (ext P C w r) j = det (vec r :: P) (j :: C) := by
  unfold ext
  rw [vec_range h]
/-- a row that has become 0 -/
theorem elim_skip {P : List Vc} {C : List Nat} {w : Nat} {r : List Int} (hc : Chain P C) (hr : r.length = w) (hz : ∀ x ∈ ext P C w r, x = 0) (hP : ∀ p ∈ P, ∀ j, w ≤ j → p j = 0) : InSpan (vec r) P := by
  obtain ⟨x, hx, h⟩ := det_comb (vec r) P C
  refine ⟨det P C, x, hc.ne, hx, fun j => ?_⟩
  by_cases hj : j < w
  · have z := vec_zero hz j
    rw [ext_vec hj, h j] at z
    omega
  · have h1 : vec r j = 0 := vec_out (by omega)
    have h2 : ∀ (x : List Int) (Q : List Vc), (∀ p ∈ Q, p j = 0) → comb x Q j = 0 := by
      intro x
      induction x with
      | nil => intro Q _; cases Q <;> rfl
      | cons a as ih =>
        intro Q hQ
        cases Q with
        | nil => rfl
        | cons q qs =>
          simp only [comb]
          rw [hQ q List.mem_cons_self, ih qs fun p hp => hQ p (List.mem_cons_of_mem _ hp)]
          simp
    rw [h1, h2 x P fun p hp => hP p hp j (by omega)]
    simp
/-- one step of it -/
theorem elim_step {P : List Vc} {C : List Nat} {w c : Nat} {r0 r : List Int} (hc : Chain P C) (hw : c < w) (hd : vec (ext P C w r0) c ≠ 0) :
    Chain (vec r0 :: P) (c :: C) ∧ List.zipWith (fun a b => (a * vec (ext P C w r0) c - vec (ext P C w r) c * b).fdiv (det P C)) (ext P C w r) (ext P C w r0) = ext (vec r0 :: P) (c :: C) w r := by
  rw [ext_vec hw] at hd
  refine ⟨.cons hc hd, ?_⟩
  apply List.ext_getElem
  · rw [List.length_zipWith, ext_len, ext_len, ext_len, Nat.min_self]
  · intro j h1 h2
    have hj : j < w := by rw [ext_len] at h2; exact h2
    rw [List.getElem_zipWith, vec_get, vec_get, vec_get, ext_vec hj, ext_vec hj, ext_vec hj, ext_vec hw, ext_vec hw]
    have e := exact_step hc hd (vec r) j
    rw [e]
    exact Int.mul_fdiv_cancel_left _ hc.ne
theorem elim_le {P : List Vc} {C : List Nat} {w n B : Nat} {r : List Int} {rows : List (List Int)} (hl : P.length = C.length) (hn : P.length + 1 ≤ n) (hB : ∀ r ∈ rows, ∀ j, (vec r j).natAbs ≤ B) (hr : r ∈ rows) (hP : ∀ p ∈ P, p ∈ rows.map vec) (h1 : 1 ≤ n * B) (j : Nat) : (vec (ext P C w r) j).natAbs ≤ (n * B) ^ n := by
  by_cases hj : j < w
  · rw [ext_vec hj]
    have := det_le (B := B) (n := n) (j :: C) (vec r :: P) (by simpa using hn) fun q hq c _ => by
      rcases List.mem_cons.mp hq with rfl | hq
      · exact hB r hr c
      · obtain ⟨z, hz, rfl⟩ := List.mem_map.mp (hP q hq)
        exact hB z hz c
    refine Nat.le_trans this (Nat.pow_le_pow_right h1 ?_)
    rw [List.length_cons, ← hl]
    exact hn
  · rw [vec_out (by rw [ext_len]; omega)]
    simp
theorem det_small {P : List Vc} {C : List Nat} {n B : Nat} {rows : List (List Int)} (hl : P.length = C.length) (hn : P.length ≤ n) (hB : ∀ r ∈ rows, ∀ j, (vec r j).natAbs ≤ B) (hP : ∀ p ∈ P, p ∈ rows.map vec) (h1 : 1 ≤ n * B) : (det P C).natAbs ≤ (n * B) ^ n := by
  have := det_le (B := B) (n := n) C P hn fun q hq c _ => by
    obtain ⟨z, hz, rfl⟩ := List.mem_map.mp (hP q hq)
    exact hB z hz c
  exact Nat.le_trans this (Nat.pow_le_pow_right h1 (by omega))
theorem ind_of {l : List (Nat × List Int)} (nz : ∀ e ∈ l, vec e.2 e.1 ≠ 0) (zo : ∀ e ∈ l, ∀ e' ∈ l, e.1 ≠ e'.1 → vec e.2 e'.1 = 0) (nd : (l.map (·.1)).Nodup) : LinInd (l.map fun e => vec e.2) := by
  have at_ : ∀ (k : List (Nat × List Int)) (e : Nat × List Int), e ∈ k → (∀ z ∈ k, z ∈ l) → (k.map (·.1)).Nodup → ∀ x : List Int, x.length = k.length → ∀ (i : Nat), k[i]? = some e → comb x (k.map fun e => vec e.2) e.1 = x.getD i 0 * vec e.2 e.1 := by
    intro k
    induction k with
    | nil => intro e he; cases he
    | cons y ys ih =>
      intro e he hsub nd x hx i hi
      cases x with
      | nil => simp at hx
      | cons x0 xs =>
        have hx' : xs.length = ys.length := by simpa using hx
        rw [List.map_cons, List.nodup_cons] at nd
        simp only [List.map_cons, comb]
        cases i with
        | zero =>
          simp only [List.getElem?_cons_zero, Option.some.injEq] at hi
          subst hi
          have : comb xs (ys.map fun e => vec e.2) y.1 = 0 := by
            have z : ∀ (ys : List (Nat × List Int)) (xs : List Int), (∀ z ∈ ys, vec z.2 y.1 = 0) → comb xs (ys.map fun e => vec e.2) y.1 = 0 := by
              intro ys
              induction ys with
              | nil => intro xs _; cases xs <;> rfl
              | cons u us ih2 =>
                intro xs hz
                cases xs with
                | nil => rfl
                | cons a as =>
                  simp only [List.map_cons, comb]
                  rw [hz u List.mem_cons_self, ih2 as fun z hz' => hz z (List.mem_cons_of_mem _ hz')]
                  simp
            exact z ys xs fun z hz => zo z (hsub z (List.mem_cons_of_mem _ hz)) y (hsub y List.mem_cons_self) fun q => nd.1 (List.mem_map.mpr ⟨z, hz, q⟩)
          rw [this]
          simp
        | succ i =>
          rw [List.getElem?_cons_succ] at hi
          have he2 : e ∈ ys := List.mem_of_getElem? hi
          rw [ih e he2 (fun z hz => hsub z (List.mem_cons_of_mem _ hz)) nd.2 xs hx' i hi]
          rw [zo y (hsub y List.mem_cons_self) e (hsub e he) fun q => nd.1 (List.mem_map.mpr ⟨e, he2, q.symm⟩)]
          simp
  intro x hx hv y hy
  obtain ⟨i, hi, rfl⟩ := List.getElem_of_mem hy
  have hif : i < l.length := by rw [hx] at hi; simpa using hi
  have hm : l[i] ∈ l := List.getElem_mem hif
  have := at_ l l[i] hm (fun _ z => z) nd x (by simpa using hx) i (List.getElem?_eq_getElem hif)
  rw [hv] at this
  rcases Int.mul_eq_zero.mp this.symm with q | q
  · rw [List.getD_eq_getElem?_getD, List.getElem?_eq_getElem hi] at q
    exact q
  · exact absurd q (nz _ hm)
def dot (w : Nat) (u v : Vc) : Int := ((List.range w).map fun j => u j * v j).sum
theorem sum_map_add : ∀ (l : List Nat) (f g : Nat → Int), (l.map fun j => f j + g j).sum = (l.map f).sum + (l.map g).sum
  | [], _, _ => rfl
  | x :: l, f, g => by
    simp only [List.map_cons, List.sum_cons]
    rw [sum_map_add l f g]
    omega
theorem sum_map_mul (k : Int) : ∀ (l : List Nat) (f : Nat → Int), (l.map fun j => k * f j).sum = k * (l.map f).sum
  | [], _ => by simp
  | x :: l, f => by
    simp only [List.map_cons, List.sum_cons]
    rw [sum_map_mul k l f, Int.mul_add]
theorem dot_comb (w : Nat) (u : Vc) : ∀ (x : List Int) (Q : List Vc), (∀ q ∈ Q, dot w q u = 0) → dot w (comb x Q) u = 0
  | [], Q, _ => by
    have : ∀ j, comb [] Q j * u j = 0 := fun j => by cases Q <;> simp [comb]
    unfold dot
    rw [List.map_congr_left (g := fun _ => (0 : Int)) fun j _ => this j]
    have := sum_map_mul 0 (List.range w) (fun _ => 0)
    simpa using this
  | a :: x, [], h => by
    have : ∀ j, comb (a :: x) [] j * u j = 0 := fun j => by simp [comb]
    unfold dot
    rw [List.map_congr_left (g := fun _ => (0 : Int)) fun j _ => this j]
    have := sum_map_mul 0 (List.range w) (fun _ => 0)
    simpa using this
  | a :: x, q :: Q, h => by
    have e : ∀ j, comb (a :: x) (q :: Q) j * u j = a * (q j * u j) + comb x Q j * u j := fun j => by
      simp only [comb]
      rw [Int.add_mul, Int.mul_assoc]
    unfold dot
    rw [List.map_congr_left fun j _ => e j, sum_map_add, sum_map_mul]
    have h1 := h q List.mem_cons_self
    have h2 := dot_comb w u x Q fun p hp => h p (List.mem_cons_of_mem _ hp)
    unfold dot at h1 h2
    rw [h1, h2]
    simp
theorem dot_span {w : Nat} {u v : Vc} {Q : List Vc} (h : InSpan v Q) (hz : ∀ q ∈ Q, dot w q u = 0) : dot w v u = 0 := by
  obtain ⟨d, x, hd, _, e⟩ := h
  have h1 := dot_comb w u x Q hz
  have h2 : dot w (comb x Q) u = d * dot w v u := by
    unfold dot
    rw [← sum_map_mul]
    rw [List.map_congr_left fun j _ => by rw [← e j, Int.mul_assoc]]
  rw [h2] at h1
  exact (Int.mul_eq_zero.mp h1).resolve_left hd
/-- the sum over two lists of one length -/
theorem dot_lists : ∀ (r u : List Int) (w : Nat), r.length = w → u.length = w → (List.zipWith (· * ·) r u).sum = dot w (vec r) (vec u) := by
  intro r u w hr hu
  have : List.zipWith (· * ·) r u = (List.range w).map fun j => vec r j * vec u j := by
    apply List.ext_getElem
    · simp [hr, hu]
    · intro j h1 h2
      have hj : j < w := by simpa using h2
      rw [List.getElem_zipWith, List.getElem_map, List.getElem_range, vec_get, vec_get]
  rw [this]
  rfl
/-- a sum of which two places count -/
theorem sum_two : ∀ (w : Nat) (f : Nat → Int) (a b : Nat), a ≠ b → a < w → b < w → (∀ j, j ≠ a → j ≠ b → f j = 0) → ((List.range w).map f).sum = f a + f b := by
  have one : ∀ (w : Nat) (f : Nat → Int) (a : Nat), a < w → (∀ j, j ≠ a → j < w → f j = 0) → ((List.range w).map f).sum = f a := by
    intro w
    induction w with
    | zero => intro f a h; omega
    | succ w ih =>
      intro f a h hz
      rw [List.range_succ, List.map_append, List.sum_append, List.map_singleton, List.sum_singleton]
      by_cases e : a = w
      · subst e
        have : ((List.range a).map f).sum = 0 := by
          rw [List.map_congr_left (g := fun _ => (0 : Int)) fun j hj => hz j (by have := List.mem_range.mp hj; omega) (by have := List.mem_range.mp hj; omega)]
          have := sum_map_mul 0 (List.range a) (fun _ => 0)
          simpa using this
        omega
      · rw [ih f a (by omega) fun j h1 h2 => hz j h1 (by omega), hz w (by omega) (by omega)]
        omega
  intro w f a b hab ha hb hz
  have e : ∀ j, f j = (if j = a then f j else 0) + (if j = a then 0 else f j) := fun j => by
    by_cases h : j = a <;> simp [h]
  rw [List.map_congr_left fun j _ => e j, sum_map_add, one w (fun j => if j = a then f j else 0) a ha (fun j h _ => by simp [h]), one w (fun j => if j = a then 0 else f j) b hb fun j h _ => by
    by_cases h2 : j = a
    · simp [h2]
    · simp only [h2, if_false]
      exact hz j h2 h]
  simp [Ne.symm hab]
def kshared (found : List (Nat × List Int)) : Int := found.foldl (fun s e => (s * vec e.2 e.1).fdiv (Int.gcd s (vec e.2 e.1) : Int)) 1
theorem shared_step {s a : Int} (hs : s ≠ 0) (ha : a ≠ 0) : (s * a).fdiv (Int.gcd s a : Int) ≠ 0 ∧ s ∣ (s * a).fdiv (Int.gcd s a : Int) ∧ a ∣ (s * a).fdiv (Int.gcd s a : Int) ∧ ((s * a).fdiv (Int.gcd s a : Int)).natAbs ≤ s.natAbs * a.natAbs := by
  obtain ⟨x, hx⟩ := Int.gcd_dvd_left (a := s) (b := a)
  obtain ⟨y, hy⟩ := Int.gcd_dvd_right (a := s) (b := a)
  have hg : (Int.gcd s a : Int) ≠ 0 := fun z => hs (by rw [hx, z, Int.zero_mul])
  have e1 : (s * a).fdiv (Int.gcd s a : Int) = s * y := by
    generalize (Int.gcd s a : Int) = g at *
    rw [hy, Int.mul_left_comm, Int.mul_fdiv_cancel_left _ hg]
  have e2 : (s * a).fdiv (Int.gcd s a : Int) = a * x := by
    generalize (Int.gcd s a : Int) = g at *
    rw [hx, Int.mul_assoc, Int.mul_fdiv_cancel_left _ hg, Int.mul_comm]
  have hy0 : y ≠ 0 := fun z => ha (by rw [hy, z, Int.mul_zero])
  refine ⟨?_, ⟨y, e1⟩, ⟨x, e2⟩, ?_⟩
  · rw [e1]
    exact Int.mul_ne_zero hs hy0
  · rw [e1, Int.natAbs_mul]
    refine Nat.mul_le_mul_left _ ?_
    have : a.natAbs = (Int.gcd s a) * y.natAbs := by
      have := congrArg Int.natAbs hy
      rw [Int.natAbs_mul, Int.natAbs_natCast] at this
      exact this
    rw [this]
    exact Nat.le_mul_of_pos_left _ (by omega)
theorem kshared_ok : ∀ (found : List (Nat × List Int)) (W : Nat), (∀ e ∈ found, vec e.2 e.1 ≠ 0 ∧ (vec e.2 e.1).natAbs ≤ W) → kshared found ≠ 0 ∧ (∀ e ∈ found, vec e.2 e.1 ∣ kshared found) ∧ (kshared found).natAbs ≤ W ^ found.length := by
  have go : ∀ (found : List (Nat × List Int)) (W : Nat) (s : Int), s ≠ 0 → (∀ e ∈ found, vec e.2 e.1 ≠ 0 ∧ (vec e.2 e.1).natAbs ≤ W) → found.foldl (fun s e => (s * vec e.2 e.1).fdiv (Int.gcd s (vec e.2 e.1) : Int)) s ≠ 0 ∧ s ∣ found.foldl (fun s e => (s * vec e.2 e.1).fdiv (Int.gcd s (vec e.2 e.1) : Int)) s ∧
      (∀ e ∈ found, vec e.2 e.1 ∣ found.foldl (fun s e => (s * vec e.2 e.1).fdiv (Int.gcd s (vec e.2 e.1) : Int)) s) ∧ (found.foldl (fun s e => (s * vec e.2 e.1).fdiv (Int.gcd s (vec e.2 e.1) : Int)) s).natAbs ≤ s.natAbs * W ^ found.length := by
    intro found
    induction found with
    | nil => intro W s hs _; exact ⟨hs, Int.dvd_refl _, nofun, by simp⟩
    | cons x xs ih =>
      intro W s hs h
      obtain ⟨a, b, c, d⟩ := shared_step hs (h x List.mem_cons_self).1
      obtain ⟨p, q, r, t⟩ := ih W _ a fun e he => h e (List.mem_cons_of_mem _ he)
      rw [List.foldl_cons]
      refine ⟨p, Int.dvd_trans b q, fun e he => ?_, ?_⟩
      · rcases List.mem_cons.mp he with rfl | he
        · exact Int.dvd_trans c q
        · exact r e he
      · refine Nat.le_trans t ?_
        rw [List.length_cons, Nat.pow_succ, Nat.mul_comm (W ^ xs.length), ← Nat.mul_assoc]
        exact Nat.mul_le_mul_right _ (Nat.le_trans d (Nat.mul_le_mul_left _ (h x List.mem_cons_self).2))
  intro found W h
  obtain ⟨a, _, c, d⟩ := go found W 1 (by decide) h
  exact ⟨a, c, by unfold kshared; simpa using d⟩
def kval (s : Int) (f : Nat) (e : Nat × List Int) : Int := -(vec e.2 f) * s.fdiv (vec e.2 e.1)
def kraw (found : List (Nat × List Int)) (w f : Nat) (s : Int) : List Int := found.foldl (fun l e => l.set e.1 (kval s f e)) ((List.replicate w 0).set f s)
theorem vec_set {l : List Int} {i j : Nat} {x : Int} (h : i < l.length) : vec (l.set i x) j = if j = i then x else vec l j := by
  unfold vec
  rw [List.getD_eq_getElem?_getD, List.getD_eq_getElem?_getD, List.getElem?_set]
  by_cases e : i = j
  · subst e
    simp [h]
  · rw [if_neg e, if_neg (Ne.symm e)]
theorem vec_rep {w j : Nat} : vec (List.replicate w 0) j = 0 := vec_zero (fun x hx => List.eq_of_mem_replicate hx) j
theorem kraw_ok {w f : Nat} {s : Int} : ∀ (found : List (Nat × List Int)) (l : List Int), l.length = w → (∀ e ∈ found, e.1 < w) → (found.map (·.1)).Nodup →
    (found.foldl (fun l e => l.set e.1 (kval s f e)) l).length = w ∧ (∀ e ∈ found, vec (found.foldl (fun l e => l.set e.1 (kval s f e)) l) e.1 = kval s f e) ∧ ∀ j, (∀ e ∈ found, e.1 ≠ j) → vec (found.foldl (fun l e => l.set e.1 (kval s f e)) l) j = vec l j
  | [], l, h, _, _ => ⟨h, nofun, fun _ _ => rfl⟩
  | x :: xs, l, h, hlt, nd => by
    rw [List.map_cons, List.nodup_cons] at nd
    have hx := hlt x List.mem_cons_self
    obtain ⟨a, b, c⟩ := kraw_ok xs (l.set x.1 (kval s f x)) (by simp [h]) (fun e he => hlt e (List.mem_cons_of_mem _ he)) nd.2
    rw [List.foldl_cons]
    refine ⟨a, fun e he => ?_, fun j hj => ?_⟩
    · rcases List.mem_cons.mp he with rfl | he
      · rw [c e.1 fun z hz q => nd.1 (List.mem_map.mpr ⟨z, hz, q⟩), vec_set (by omega), if_pos rfl]
      · exact b e he
    · rw [c j fun e he => hj e (List.mem_cons_of_mem _ he), vec_set (by omega), if_neg fun q => hj x List.mem_cons_self q.symm]
def upr (v : List Int) : List Int := match fstNz (prim v) with
  | some i => if vec (prim v) i < 0 then (prim v).map fun x => -x else prim v
  | none => prim v
theorem vec_neg (l : List Int) (j : Nat) : vec (l.map fun x => -x) j = -vec l j := vec_map (f := fun x => -x) rfl l j
theorem gcdL_neg (l : List Int) : gcdL (l.map fun x => -x) = gcdL l := by
  unfold gcdL
  rw [List.foldl_map]
  simp
theorem fstNz_of {l : List Int} {i : Nat} (h1 : i < l.length) (h2 : vec l i ≠ 0) (h3 : ∀ j, j < i → vec l j = 0) : fstNz l = some i := by
  unfold fstNz
  rw [List.findIdx?_eq_some_iff_getElem]
  refine ⟨h1, ?_, fun j hj => ?_⟩
  · rw [vec_get h1]
    simpa using h2
  · rw [vec_get (by omega)]
    simpa using h3 j hj
theorem upr_ok {v : List Int} {f : Nat} (h : vec v f ≠ 0) : (upr v).length = v.length ∧ gcdL (upr v) = 1 ∧ (∃ i, fstNz (upr v) = some i ∧ 0 < vec (upr v) i) ∧ ∃ g, g ≠ 0 ∧ ∀ j, g * vec (upr v) j = vec v j := by
  have h1 : gcdL (prim v) = 1 := prim_one ⟨f, h⟩
  have hp := dvr_pos v
  unfold upr
  cases hs : fstNz (prim v) with
  | none => exact absurd (prim_nz.mp (fstNz_none hs f)) h
  | some i =>
    obtain ⟨i0, i1, i2⟩ := fstNz_some hs
    dsimp only
    by_cases hn : vec (prim v) i < 0
    · rw [if_pos hn]
      refine ⟨by rw [List.length_map, prim_len], by rw [gcdL_neg, h1], ⟨i, fstNz_of (by simpa using i1) (by rw [vec_neg]; omega) fun j hj => by rw [vec_neg, i2 j hj]; rfl, by rw [vec_neg]; omega⟩, -dvr v, by omega, fun j => ?_⟩
      rw [vec_neg, Int.neg_mul_neg, prim_vec]
    · rw [if_neg hn]
      exact ⟨prim_len v, h1, ⟨i, hs, by omega⟩, dvr v, by omega, prim_vec v⟩
def kvec (found : List (Nat × List Int)) (w f : Nat) : List Int := upr (kraw found w f (kshared found))
/-- what a vector of the kernel is -/
structure KerOk (w B : Nat) (found : List (Nat × List Int)) (rows : List (List Int)) (f : Nat) (t : List Int) : Prop where
  len : t.length = w
  own : vec t f ≠ 0
  zo : ∀ j, j < w → j ≠ f → (∀ e ∈ found, e.1 ≠ j) → vec t j = 0
  dot0 : ∀ r ∈ rows, dot w (vec r) (vec t) = 0
  pr : gcdL t = 1
  up : ∃ i, fstNz t = some i ∧ 0 < vec t i
  small : ∀ j, (vec t j).natAbs ≤ (found.length * B) ^ found.length
theorem ker_ok {w B f : Nat} {found : List (Nat × List Int)} {rows : List (List Int)} {P : List Vc} (h : RedInv w found rows P) (hB : ∀ r ∈ rows, ∀ j, (vec r j).natAbs ≤ B) (hf : f < w) (hn : ∀ e ∈ found, e.1 ≠ f) : KerOk w B found rows f (kvec found w f) := by
  obtain ⟨s0, sd, _⟩ := kshared_ok found _ fun e he => ⟨h.nz e he, h.small hB e he e.1⟩
  generalize hs : kshared found = s at *
  obtain ⟨k1, k2, k3⟩ := kraw_ok (w := w) (f := f) (s := s) found ((List.replicate w 0).set f s) (by simp) h.lt h.nd
  have r0 : vec (kraw found w f s) f = s := by
    unfold kraw
    rw [k3 f hn, vec_set (by simpa using hf), if_pos rfl]
  have rz : ∀ j, j ≠ f → (∀ e ∈ found, e.1 ≠ j) → vec (kraw found w f s) j = 0 := fun j hj he => by
    unfold kraw
    rw [k3 j he, vec_set (by simpa using hf), if_neg hj, vec_rep]
  have rp : ∀ e ∈ found, vec e.2 e.1 * vec (kraw found w f s) e.1 = -(vec e.2 f) * s := fun e he => by
    unfold kraw
    rw [k2 e he]
    unfold kval
    rw [Int.mul_left_comm, fdiv_exact (h.nz e he) (sd e he)]
  obtain ⟨u1, u2, u3, g, hg, ug⟩ := upr_ok (v := kraw found w f s) (f := f) (by rw [r0]; exact s0)
  have hk : kvec found w f = upr (kraw found w f s) := by
    unfold kvec
    rw [hs]
  rw [hk]
  generalize upr (kraw found w f s) = t at *
  have own : vec t f ≠ 0 := fun z => s0 (by rw [← r0, ← ug f, z, Int.mul_zero])
  have zo : ∀ j, j ≠ f → (∀ e ∈ found, e.1 ≠ j) → vec t j = 0 := fun j hj he => by
    have := ug j
    rw [rz j hj he] at this
    exact (Int.mul_eq_zero.mp this).resolve_left hg
  have key : ∀ e ∈ found, vec e.2 e.1 * vec t e.1 + vec e.2 f * vec t f = 0 := fun e he => by
    have a := rp e he
    rw [← ug e.1, ← r0, ← ug f] at a
    have : g * (vec e.2 e.1 * vec t e.1 + vec e.2 f * vec t f) = 0 := by
      rw [Int.mul_add, Int.mul_left_comm g, a, Int.neg_mul, Int.mul_left_comm g]
      omega
    exact (Int.mul_eq_zero.mp this).resolve_left hg
  have dz : ∀ e ∈ found, dot w (vec e.2) (vec t) = 0 := fun e he => by
    unfold dot
    rw [sum_two w (fun j => vec e.2 j * vec t j) e.1 f (hn e he) (h.lt e he) hf fun j h1 h2 => ?_]
    · exact key e he
    · by_cases hj : ∃ e' ∈ found, e'.1 = j
      · obtain ⟨e', he', rfl⟩ := hj
        rw [h.zo e he e' he' fun q => h1 q.symm, Int.zero_mul]
      · rw [zo j h2 fun e' he' q => hj ⟨e', he', q⟩, Int.mul_zero]
  refine ⟨by rw [u1]; exact k1, own, fun j _ => zo j, fun r hr => dot_span (h.sp2 r hr) fun q hq => ?_, u2, u3, fun j => ?_⟩
  · obtain ⟨e, he, rfl⟩ := List.mem_map.mp hq
    exact dz e he
  · -- the vector of determinants
    have hPB : ∀ p ∈ P, ∀ j, (p j).natAbs ≤ B := fun p hp j => by
      obtain ⟨r, hr, rfl⟩ := List.mem_map.mp (h.pin p hp)
      exact hB r hr j
    have front : ∀ (C1 C2 : List Nat) (d : Nat), ∃ k : Int, (k = 1 ∨ k = -1) ∧ ∀ R, det R (C1 ++ d :: C2) = k * det R (d :: (C1 ++ C2)) := by
      intro C1
      induction C1 with
      | nil => intro C2 d; exact ⟨1, .inl rfl, fun R => by rw [Int.one_mul]; rfl⟩
      | cons b C1 ih =>
        intro C2 d
        obtain ⟨k, hk, q⟩ := ih C2 d
        refine ⟨-k, by omega, fun R => ?_⟩
        have e1 : det R (b :: (C1 ++ d :: C2)) = k * det R (b :: d :: (C1 ++ C2)) := det_tail (C' := d :: (C1 ++ C2)) q
        show det R (b :: (C1 ++ d :: C2)) = -k * det R (d :: b :: (C1 ++ C2))
        rw [e1, det_swap, Int.neg_mul, Int.mul_neg]
    have D0 : det P (found.map (·.1)).reverse ≠ 0 := h.chain.ne
    have Dle : (det P (found.map (·.1)).reverse).natAbs ≤ (found.length * B) ^ found.length := by
      have := det_le (B := B) (n := found.length) (found.map (·.1)).reverse P (by rw [h.plen]; exact Nat.le_refl _) fun p hp c _ => hPB p hp c
      simpa using this
    -- at each place: a number m e with (place's entry) * m e = - D * (entry at f), small
    have me : ∀ e ∈ found, ∃ m : Int, vec e.2 e.1 * m = -(det P (found.map (·.1)).reverse * vec e.2 f) ∧ m.natAbs ≤ (found.length * B) ^ found.length := fun e he => by
      obtain ⟨C1, C2, hC⟩ : ∃ C1 C2, (found.map (·.1)).reverse = C1 ++ e.1 :: C2 := List.append_of_mem (List.mem_reverse.mpr (List.mem_map.mpr ⟨e, he, rfl⟩))
      obtain ⟨k, hk, hf'⟩ := front C1 C2 e.1
      have hcl : (f :: (C1 ++ C2)).length = found.length := by
        have := congrArg List.length hC
        rw [List.length_reverse, List.length_map, List.length_append, List.length_cons] at this
        rw [List.length_cons, List.length_append]
        omega
      have par := h.par e he C1 C2 hC f
      refine ⟨-(k * det P (f :: (C1 ++ C2))), ?_, ?_⟩
      · rw [Int.mul_neg, Int.mul_left_comm, par, hC, hf', Int.mul_assoc]
      · have bd := det_le (B := B) (n := found.length) (f :: (C1 ++ C2)) P (by rw [h.plen]; exact Nat.le_refl _) fun p hp c _ => hPB p hp c
        rw [hcl] at bd
        rw [Int.natAbs_neg, Int.natAbs_mul]
        rcases hk with rfl | rfl <;> simpa using bd
    have ex : ∀ j, ∃ x : Int, (j = f → x = det P (found.map (·.1)).reverse) ∧ (∀ e ∈ found, e.1 = j → vec e.2 e.1 * x = -(det P (found.map (·.1)).reverse * vec e.2 f)) ∧ (j ≠ f → (∀ e ∈ found, e.1 ≠ j) → x = 0) ∧ x.natAbs ≤ (found.length * B) ^ found.length := fun j => by
      by_cases hjf : j = f
      · exact ⟨_, fun _ => rfl, fun e he q => absurd (q.trans hjf) (hn e he), fun q => absurd hjf q, Dle⟩
      · by_cases hj : ∃ e ∈ found, e.1 = j
        · obtain ⟨e, he, q⟩ := hj
          obtain ⟨m, m1, m2⟩ := me e he
          exact ⟨m, fun z => absurd z hjf, fun e' he' q' => by rw [h.same he' he (q'.trans q.symm)]; exact m1, fun _ z => absurd q (z e he), m2⟩
        · exact ⟨0, fun z => absurd z hjf, fun e' he' q' => absurd ⟨e', he', q'⟩ hj, fun _ _ => rfl, Nat.zero_le _⟩
    let W : Vc := fun j => (ex j).choose
    have hW := fun j => (ex j).choose_spec
    have Wf : W f = det P (found.map (·.1)).reverse := (hW f).1 rfl
    obtain ⟨k, hk⟩ := prim_divides (v := t) (w := W) (p := f) u2 own fun j => by
      by_cases hjf : j = f
      · rw [hjf, Int.mul_comm]
      · by_cases hj : ∃ e ∈ found, e.1 = j
        · obtain ⟨e, he, rfl⟩ := hj
          have w1 : vec e.2 e.1 * W e.1 = -(det P (found.map (·.1)).reverse * vec e.2 f) := (hW e.1).2.1 e he rfl
          have k1 := key e he
          refine Int.eq_of_mul_eq_mul_left (h.nz e he) ?_
          rw [Int.mul_left_comm, w1, Wf, Int.mul_left_comm (vec e.2 e.1)]
          have k2 : vec e.2 e.1 * vec t e.1 = -(vec e.2 f * vec t f) := by omega
          rw [k2, Int.mul_neg, Int.mul_neg, Int.mul_left_comm (vec t f), Int.mul_comm (vec t f)]
        · have a : W j = 0 := (hW j).2.2.1 hjf fun e he q => hj ⟨e, he, q⟩
          have b : vec t j = 0 := zo j hjf fun e he q => hj ⟨e, he, q⟩
          rw [a, b, Int.mul_zero, Int.mul_zero]
    have k0 : k ≠ 0 := fun z => D0 (by rw [← Wf, hk f, z, Int.zero_mul])
    have le : (vec t j).natAbs ≤ (W j).natAbs := by
      rw [hk j, Int.natAbs_mul]
      exact Nat.le_mul_of_pos_left _ (by omega)
    exact Nat.le_trans le (hW j).2.2.2
end Lin
set_option Elab.async false
set_option linter.all false
set_option maxRecDepth 100000
set_option maxHeartbeats 600000
namespace K14
open PySem PySem.Spec PyProof.Rows L2 G M Lin
local macro_rules | `(tactic| walk_at "m") => `(tactic| first
  | (with_reducible refine' e_seq ?_)
  | ((with_reducible refine' e_var ?h ?_); (case h => exact rfl))
  | (with_reducible refine' e_c ?_)
  | (with_reducible refine' e_op ?_)
  | (with_reducible refine' e_asg ?_)
  | (with_reducible refine' e_gname ?_)
  | (with_reducible refine' e_ifS ?_)
  | (with_reducible refine' e_test ?_)
  | (with_reducible refine' e_bl ?_)
  | (with_reducible refine' e_cb ?_)
  | (with_reducible refine' e_cons ?_)
  | (with_reducible refine' e_nil ?_)
  | (with_reducible refine' e_call ?_)
  | (with_reducible refine' e_ret ?_)
  | (with_reducible refine' e_drop ?_)
  | (with_reducible refine' e_next ?_)
  | (with_reducible refine' e_andT ?_)
  | (with_reducible refine' e_orT ?_)
  | (with_reducible refine' e_notT ?_)
  | (with_reducible refine' e_andM ?_)
  | (with_reducible refine' e_orM ?_)
  | (with_reducible refine' e_notM ?_)
  | (with_reducible refine' e_ifM ?_)
  | (with_reducible refine' e_chain ?_)
  | (with_reducible refine' e_un ?_)
  | (with_reducible refine' e_lst ?_)
  | (with_reducible refine' e_lstO ?_)
  | (with_reducible refine' e_tup ?_)
  | (with_reducible refine' e_par ?_)
  | (with_reducible refine' e_raise ?_)
  | (with_reducible refine' e_for ?_)
  | (with_reducible refine' e_meth ?_)
  | (with_reducible refine' e_prop ?_)
  | (with_reducible refine' e_make ?_)
  | (with_reducible refine' e_fld ?_)
  | (with_reducible refine' e_sfld ?_)
  | (with_reducible refine' e_noPart ?_)
  | (with_reducible refine' e_part ?_)
  | (with_reducible refine' e_int ?_)
  | (with_reducible refine' e_sl ?_)
  | (with_reducible refine' e_bm ?_)
  | (with_reducible refine' e_bm0 ?_)
  | (with_reducible refine' e_m1 ?_)
  | (with_reducible refine' e_it ?_)
  | (with_reducible refine' e_rng1 ?_)
  | (with_reducible refine' e_lc ?_)
  | (with_reducible refine' e_caught ?_)
  | (with_reducible refine' e_two ?_)
  | (with_reducible refine' e_one ?_)
  | (with_reducible refine' e_ifT ?_)
  | (with_reducible refine' e_ifF ?_)
  | (with_reducible refine' e_ifNT ?_)
  | (with_reducible refine' e_ifNF ?_)
  | (with_reducible refine' e_yes ?_)
  | (with_reducible refine' e_turn ?_)
  | (with_reducible refine' e_js ?_)
  | (with_reducible refine' e_jsc ?_)
  | (with_reducible refine' e_jsn ?_)
  | (with_reducible refine' e_fmt ?_)
  | (with_reducible refine' e_leI ?_)
  | (with_reducible refine' e_ltI ?_)
  | (with_reducible refine' e_gtI ?_)
  | (with_reducible refine' e_geI ?_)
  | (with_reducible refine' e_ltS ?_)
  | (with_reducible refine' e_eqI ?_)
  | (with_reducible refine' e_eqS ?_)
  | (with_reducible refine' e_neI ?_)
  | (with_reducible refine' e_neS ?_)
  | (with_reducible refine' e_neB ?_)
  | (with_reducible refine' e_isB ?_)
  | (with_reducible refine' e_isntB ?_)
  | (with_reducible refine' e_addI ?_)
  | (with_reducible refine' e_subI ?_)
  | (with_reducible refine' e_int1 ?_)
  | (with_reducible refine' e_max2 ?_)
  | (with_reducible refine' e_min2 ?_)
  | (with_reducible refine' e_lenL ?_)
  | (with_reducible refine' e_lenT ?_)
  | (with_reducible refine' e_lenR ?_)
  | (with_reducible refine' e_modI (by decide) ?_))
set_option synthInstance.maxHeartbeats 0
set_option synthInstance.maxSize 100000
local macro_rules | `(tactic| walk_at "k") => `(tactic| first
  | refine wgo ?_
  | ((with_reducible refine' e_var ?h ?_); (case h => exact rfl))
  | (with_reducible refine' e_gname ?_)
  | (with_reducible refine' e_modI (by decide) ?_)
  | ((with_reducible refine' e_sz ?h ?_); (case h => exact rfl)))
variable {P : Program} {K : PySem.W.Frag} {mg : Str → Option Value} {T : Top P K mg} {c : SH} {Ψ : XD} {Φ : QD}
theorem zipD_ints : ∀ (as bs : List Int), zipD (as.map .int) (bs.map .int) = (as.zip bs).map fun p => .tup [.int p.1, .int p.2]
  | [], _ => by cases ‹List Int› <;> rfl
  | a :: as, [] => rfl
  | a :: as, b :: bs => by
    rw [List.map_cons, List.map_cons, zipD, zipD_ints as bs]
    rfl
theorem lt_sz {n : Nat} (h : n < 900) : n < sizeLine := Nat.lt_of_lt_of_le h (show 900 ≤ sizeLine by decide)
theorem e_ixI {l : List Int} {j : Nat} (h : j < l.length) (q : Φ (.int (vec l j)) c) : ixD (.lst (l.map .int)) (.int (j : Int)) c Φ := by
  refine e_ixL (x := .int (vec l j)) (atI_nat (j := j) ?_) q
  rw [List.getElem?_map, List.getElem?_eq_getElem h, vec_get h]
  rfl
theorem e_ixV {d : D} {l : List Int} {j : Nat} (hd : view c d = .lst (l.map .int)) (h : j < l.length) (q : Φ (.int (vec l j)) c) : ixD d (.int (j : Int)) c Φ := by
  unfold ixD
  rw [hd]
  exact e_ixI h q
theorem z_divisor {a b : Int} (q : Φ (.int (Nat.gcd a.natAbs b.natAbs : Nat)) c) : m_divisor_of T [.int a, .int b] c Ψ Φ := by
  refine e_fn (δ := [some _, some _, none, none]) rfl rfl ?_
  repeat walk_at "k"
  have e : ∀ x : Int, (if x < 0 then -x else x) = (x.natAbs : Int) := fun x => by
    split <;> omega
  rw [e, e]
  refine ⟨fun m δ c' => ∃ x y : Nat, m = y ∧ δ = [some (.int a), some (.int b), some (.int x), some (.int y)] ∧ c' = c ∧ Nat.gcd x y = Nat.gcd a.natAbs b.natAbs, ⟨_, _, _, rfl, rfl, rfl, rfl⟩, ?_⟩
  rintro m δ c' ⟨x, y, rfl, rfl, rfl, hg⟩
  repeat walk_at "k"
  by_cases hy : 0 < (m : Int)
  · rw [if_pos (by simpa using hy)]
    repeat walk_at "k"
    refine e_modW (by omega) ?_
    have e2 : (x : Int).fmod (m : Int) = ((x % m : Nat) : Int) := by
      rw [Int.fmod_eq_emod_of_nonneg _ (by omega)]
      exact (Int.natCast_emod x m).symm
    rw [e2]
    repeat walk_at "k"
    refine ⟨x % m, Nat.mod_lt _ (by omega), m, x % m, rfl, rfl, rfl, ?_⟩
    exact (Nat.gcd_comm _ _).trans ((Nat.gcd_rec m x).symm.trans ((Nat.gcd_comm m x).trans hg))
  · rw [if_neg (by simpa using hy)]
    have hy0 : m = 0 := by omega
    subst hy0
    rw [Nat.gcd_zero_right] at hg
    subst hg
    repeat walk_at "k"
    exact e_clo q
/-- a row: a list or a tuple of integers -/
def IsRow (d : D) (r : List Int) : Prop := d = .lst (r.map .int) ∨ d = .tup (r.map .int)
theorem IsRow.lst (r : List Int) : IsRow (.lst (r.map .int)) r := .inl rfl
theorem gcd_take (r : List Int) (i : Nat) (h : i < r.length) : gcdL (r.take (i + 1)) = Nat.gcd (gcdL (r.take i)) (r[i]).natAbs := by
  unfold gcdL
  rw [List.take_succ_eq_append_getElem h, List.foldl_append]
  rfl
theorem for_at {gd : SH → Prop} {g : MG} {b : MS} {e : EndsD} (P : Nat → M.Env → SH → Prop) (xs : List D)
    (step : ∀ (k : Nat) (x : D), xs[k]? = some x → ∀ (δ : M.Env) (c : SH) (e' : EndsD), P k δ c → (∀ δ c, P (k + 1) δ c → e'.nx δ c) → (∀ δ c, P (k + 1) δ c → e'.ct δ c) → e'.rt = e.rt → e'.xc = e.xc → e'.bk = e.nx → gd c ∧ g x δ c (e.x δ) fun δ1 c1 => b δ1 c1 e')
    (fin : ∀ δ c, P xs.length δ c → gd c ∧ e.nx δ c) {δ : M.Env} {c : SH} (h0 : P 0 δ c) : forD gd g b xs δ c e := by
  have go : ∀ (ys : List D) (k : Nat), k ≤ xs.length → xs.drop k = ys → ∀ δ c, P k δ c → forD gd g b ys δ c e := by
    intro ys
    induction ys with
    | nil =>
      intro k hl hk δ c h
      have : k = xs.length := Nat.le_antisymm hl (List.drop_eq_nil_iff.mp hk)
      subst this
      exact fin δ c h
    | cons y ys ih =>
      intro k hl hk δ c h
      have hy : xs[k]? = some y := by
        rw [← List.head?_drop, hk]
        rfl
      have go := ih (k + 1) (List.getElem?_eq_some_iff.mp hy).1 (by rw [← List.drop_drop, hk]; rfl)
      exact step k y hy δ c _ h (fun δ c h => go δ c h) (fun δ c h => go δ c h) rfl rfl rfl
  exact go xs 0 (Nat.zero_le _) rfl δ c h0
theorem e_endL {lv : Bool} {xs : List D} (c0 : SH) (q : endL lv Φ xs c) : endL lv (clo c0 Φ) xs c := by
  unfold endL at q ⊢
  cases lv
  · exact e_ifF (.inl q)
  · exact e_ifT (.inl q)
theorem z_primitiveL (lv : Bool) {d : D} {r : List Int} (h : IsRow d r ∨ view c d = .lst (r.map .int)) (hb : (gcdL r).log2 < 9000) (hl : r.length < 900) (q : endL lv Φ ((prim r).map .int) c) : m_primitive T [d] c Ψ Φ := by
  refine e_fn (δ := [some _, none, none]) rfl rfl ?_
  repeat walk_at "k"
  have it : ∀ {k : List D → (SH → Prop) → SH → Prop}, (∀ gd : SH → Prop, gd c → k (r.map .int) gd c) → itMK k d c := fun {k} q => by
    rcases h with (rfl | rfl) | h
    · exact e_itL (q _ rfl)
    · exact e_itT (q _ rfl)
    · exact e_itO h (q _ rfl)
  refine it fun gd hg => ?_
  refine for_at (fun i δ c' => c' = c ∧ ∃ v, δ = [some d, some (.int (gcdL (r.take i) : Nat)), v]) _ ?_ ?_ ⟨rfl, _, rfl⟩
  · rintro k x hx δ c' e' ⟨rfl, v, rfl⟩ nx _ _ _ _
    rw [List.getElem?_map] at hx
    obtain ⟨z, hz, rfl⟩ := Option.map_eq_some_iff.mp hx
    obtain ⟨hk, rfl⟩ := List.getElem?_eq_some_iff.mp hz
    refine ⟨hg, ?_⟩
    repeat walk_at "k"
    refine z_divisor ?_
    repeat walk_at "k"
    refine nx _ _ ⟨rfl, some (.int r[k]), ?_⟩
    rw [gcd_take r k hk]
    rfl
  · rintro δ c' ⟨rfl, v, rfl⟩
    refine ⟨hg, ?_⟩
    rw [List.length_map, List.take_length]
    repeat walk_at "k"
    refine e_any lv ?_
    repeat walk_at "k"
    have q := e_endL c' q
    unfold prim at q
    by_cases hg1 : gcdL r > 1
    · rw [if_pos hg1] at q
      rw [if_pos (decide_eq_true (by omega))]
      repeat walk_at "k"
      refine it fun gd hg => ?_
      refine lc_map .int (fun x => some (.int (x.fdiv (gcdL r : Int)))) hg r [] (Nat.lt_trans (by simpa using hl) (by decide)) (fun y hy k hk => ?_) ?_
      · repeat walk_at "k"
        refine e_fdivW ⟨by omega, by simpa using hb⟩ ?_
        exact hk
      · rw [List.nil_append, List.filterMap_eq_map', List.map_map] at *
        exact q
    · rw [if_neg hg1] at q
      rw [if_neg (by rw [decide_eq_true_eq]; omega)]
      repeat walk_at "k"
      rcases h with (rfl | rfl) | h
      · exact (show M.newL lv (r.map .int) _ _ from ⟨Nat.le_of_lt (lt_sz (by rw [List.length_map]; exact hl)), q⟩)
      · exact (show M.newL lv (r.map .int) _ _ from ⟨Nat.le_of_lt (lt_sz (by rw [List.length_map]; exact hl)), q⟩)
      · unfold listD oneD
        dsimp only
        rw [h]
        exact (show M.newL lv (r.map .int) _ _ from ⟨Nat.le_of_lt (lt_sz (by rw [List.length_map]; exact hl)), q⟩)
theorem z_primitive {d : D} {r : List Int} (h : IsRow d r ∨ view c d = .lst (r.map .int)) (hb : (gcdL r).log2 < 9000) (hl : r.length < 900) (q : Φ (.lst ((prim r).map .int)) c) : m_primitive T [d] c Ψ Φ := z_primitiveL false h hb hl (e_ifF q)
theorem fm_zip (f : Int → Int → Int) : ∀ a b : List Int, (a.zip b).filterMap (fun z => some (D.int (f z.1 z.2))) = (List.zipWith f a b).map D.int
  | [], _ => rfl
  | _ :: _, [] => rfl
  | x :: a, y :: b => by
    simp only [List.zip_cons_cons, List.filterMap_cons, List.zipWith_cons_cons, List.map_cons]
    rw [fm_zip f a b]
theorem z_cleared {row by_ : List Int} {p w : Nat} (h1 : row.length = w) (h2 : by_.length = w) (hp : p < w) (hw : w < 900) (hm : ∀ x ∈ row, ∀ y ∈ by_, Int.natAbs x < 2 ^ 400000 ∧ Int.natAbs y < 2 ^ 400000) (hb : (gcdL (clrR row by_ p)).log2 < 9000) (q : Φ (.lst ((clr row by_ p).map .int)) c) : m_cleared T [.lst (row.map .int), .int (p : Int), .lst (by_.map .int)] c Ψ Φ := by
  refine e_fn (δ := [some _, some _, some _, none, none]) rfl rfl ?_
  repeat walk_at "k"
  unfold zipM
  have hv1 : Bd 400000 (vec row p) := by
    have hx := List.getElem_mem (l := row) (n := p) (by omega)
    have hy := List.getElem_mem (l := by_) (n := p) (by omega)
    rw [vec_get] at hx
    exact (hm _ hx _ hy).1
  have hv2 : Bd 400000 (vec by_ p) := by
    have hx := List.getElem_mem (l := row) (n := p) (by omega)
    have hy := List.getElem_mem (l := by_) (n := p) (by omega)
    rw [vec_get] at hy
    exact (hm _ hx _ hy).2
  repeat walk_at "k"
  show lcD _ _ (zipD (row.map D.int) (by_.map D.int)) _ _ _
  rw [zipD_ints]
  refine lc_map (F := fun p : Int × Int => D.tup [.int p.1, .int p.2]) (f := fun z => some (.int (z.1 * vec by_ p - vec row p * z.2))) ⟨rfl, rfl⟩ _ [] (by show 0 + _ < sizeLine; rw [List.length_zip, h1, h2, Nat.min_self]; rw [Nat.zero_add]; exact lt_sz hw) (fun z hz k hk => ?_) ?_
  · have hz1 := (List.of_mem_zip hz).1
    have hz2 := (List.of_mem_zip hz).2
    have b1 : ∀ x : Int, x.natAbs < 2 ^ 400000 → Bd 400000 x := fun _ h => h
    repeat walk_at "k"
    refine e_ixI (by omega) ?_
    refine e_mulW (Bd.mulOk (a := 400000) (b := 400000) ?_ ?_ (by decide) (by decide) (by decide)) ?_
    · exact (hm z.1 hz1 z.2 hz2).1
    · exact hv2
    repeat walk_at "k"
    refine e_ixI (by omega) ?_
    refine e_mulW (Bd.mulOk (a := 400000) (b := 400000) ?_ ?_ (by decide) (by decide) (by decide)) ?_
    · exact hv1
    · exact (hm z.1 hz1 z.2 hz2).2
    repeat walk_at "k"
    exact hk
  · refine e_ifF ?_
    rw [List.nil_append, fm_zip fun a b => a * vec by_ p - vec row p * b]
    repeat walk_at "k"
    exact z_primitive (r := clrR row by_ p) (.inl (.lst _)) hb (by rw [clrR_len h1 h2]; exact hw) (e_clo q)
def natD (o : Option Nat) : D := match o with
  | some i => .int (i : Int)
  | none => .non
theorem enum_ints : ∀ (zs : List Int) (i : Nat), enumD i (zs.map D.int) = (zs.zipIdx i).map fun p => .tup [.int (p.2 : Nat), .int p.1]
  | [], _ => rfl
  | z :: zs, i => by
    rw [List.map_cons, List.zipIdx_cons, List.map_cons, ← enum_ints zs (i + 1)]
    rfl
theorem find_zip : ∀ (r : List Int) (k : Nat), (match (r.zipIdx k).find? (fun z => decide (z.1 ≠ 0)) with
    | some z => D.int (z.2 : Nat)
    | none => D.non) = natD ((r.findIdx? (· ≠ 0)).map (· + k))
  | [], _ => rfl
  | x :: r, k => by
    rw [List.zipIdx_cons, List.find?_cons, List.findIdx?_cons]
    by_cases h : x = 0
    · simp only [h, ne_eq, not_true_eq_false, decide_false]
      have := find_zip r (k + 1)
      rw [this]
      cases r.findIdx? (· ≠ 0) with
      | none => rfl
      | some i =>
        show D.int ((i + (k + 1) : Nat) : Int) = D.int ((i + 1 + k : Nat) : Int)
        rw [Nat.add_assoc, Nat.add_comm 1 k]
    · simp only [ne_eq, h, not_false_eq_true, decide_true]
      show D.int (k : Nat) = D.int ((0 + k : Nat) : Int)
      rw [Nat.zero_add]
theorem e_enumV {d : D} {xs : List D} {ΦI : List D → (SH → Prop) → SH → Prop} (hv : view c d = .lst xs) (h : ∀ gd : SH → Prop, gd c → ΦI (enumD 0 xs) gd c) : enumK ΦI d c := by
  unfold enumK
  rw [hv]
  exact h _ hv
theorem z_firstV {d : D} {r : List Int} (hd : view c d = .lst (r.map .int)) (hl : r.length < 900) (q : Φ (natD (fstNz r)) c) : m_first_place T [d] c Ψ Φ := by
  refine e_fn (δ := [some _, none, none]) rfl rfl ?_
  repeat walk_at "k"
  refine e_enumV hd fun gd hgd => ?_
  rw [enum_ints]
  refine nx_map (fun p : Int × Nat => D.tup [.int (p.2 : Nat), .int p.1]) (fun z => decide (z.1 ≠ 0)) (fun z => .int (z.2 : Nat)) hgd (fun z hz k hk => ?_) ?_
  · repeat walk_at "k"
    by_cases hz0 : z.1 = 0
    · rw [if_neg (by simp [hz0])]
      simpa [hz0] using hk
    · rw [if_pos (by simp [hz0])]
      repeat walk_at "k"
      simpa [hz0] using hk
  · have e := find_zip r 0
    have e2 : natD ((r.findIdx? (· ≠ 0)).map (· + 0)) = natD (fstNz r) := by
      unfold fstNz
      cases r.findIdx? (· ≠ 0) <;> rfl
    rw [e2] at e
    cases hf : (r.zipIdx 0).find? (fun z => decide (z.1 ≠ 0)) with
    | none =>
      rw [hf] at e
      have e : D.non = natD (fstNz r) := e
      have q2 : Φ D.non c := by rw [e]; exact q
      exact e_clo q2
    | some z =>
      rw [hf] at e
      have e : D.int (z.2 : Nat) = natD (fstNz r) := e
      have q2 : Φ (D.int (z.2 : Nat)) c := by rw [e]; exact q
      exact e_clo q2
theorem z_first {r : List Int} (hl : r.length < 900) (q : Φ (natD (fstNz r)) c) : m_first_place T [.lst (r.map .int)] c Ψ Φ := z_firstV rfl hl q
end K14
set_option Elab.async false
set_option linter.all false
set_option maxRecDepth 100000
set_option maxHeartbeats 600000
namespace K14
open PySem PySem.Spec PyProof.Rows L2 G M Lin
local macro_rules | `(tactic| walk_at "m") => `(tactic| first
  | (with_reducible refine' e_seq ?_)
  | ((with_reducible refine' e_var ?h ?_); (case h => exact rfl))
  | (with_reducible refine' e_c ?_)
  | (with_reducible refine' e_op ?_)
  | (with_reducible refine' e_asg ?_)
  | (with_reducible refine' e_gname ?_)
  | (with_reducible refine' e_ifS ?_)
  | (with_reducible refine' e_test ?_)
  | (with_reducible refine' e_bl ?_)
  | (with_reducible refine' e_cb ?_)
  | (with_reducible refine' e_cons ?_)
  | (with_reducible refine' e_nil ?_)
  | (with_reducible refine' e_call ?_)
  | (with_reducible refine' e_ret ?_)
  | (with_reducible refine' e_drop ?_)
  | (with_reducible refine' e_next ?_)
  | (with_reducible refine' e_andT ?_)
  | (with_reducible refine' e_orT ?_)
  | (with_reducible refine' e_notT ?_)
  | (with_reducible refine' e_andM ?_)
  | (with_reducible refine' e_orM ?_)
  | (with_reducible refine' e_notM ?_)
  | (with_reducible refine' e_ifM ?_)
  | (with_reducible refine' e_chain ?_)
  | (with_reducible refine' e_un ?_)
  | (with_reducible refine' e_lst ?_)
  | (with_reducible refine' e_lstO ?_)
  | (with_reducible refine' e_tup ?_)
  | (with_reducible refine' e_par ?_)
  | (with_reducible refine' e_raise ?_)
  | (with_reducible refine' e_for ?_)
  | (with_reducible refine' e_meth ?_)
  | (with_reducible refine' e_prop ?_)
  | (with_reducible refine' e_make ?_)
  | (with_reducible refine' e_fld ?_)
  | (with_reducible refine' e_sfld ?_)
  | (with_reducible refine' e_noPart ?_)
  | (with_reducible refine' e_part ?_)
  | (with_reducible refine' e_int ?_)
  | (with_reducible refine' e_sl ?_)
  | (with_reducible refine' e_bm ?_)
  | (with_reducible refine' e_bm0 ?_)
  | (with_reducible refine' e_m1 ?_)
  | (with_reducible refine' e_it ?_)
  | (with_reducible refine' e_rng1 ?_)
  | (with_reducible refine' e_lc ?_)
  | (with_reducible refine' e_caught ?_)
  | (with_reducible refine' e_two ?_)
  | (with_reducible refine' e_one ?_)
  | (with_reducible refine' e_ifT ?_)
  | (with_reducible refine' e_ifF ?_)
  | (with_reducible refine' e_ifNT ?_)
  | (with_reducible refine' e_ifNF ?_)
  | (with_reducible refine' e_yes ?_)
  | (with_reducible refine' e_turn ?_)
  | (with_reducible refine' e_js ?_)
  | (with_reducible refine' e_jsc ?_)
  | (with_reducible refine' e_jsn ?_)
  | (with_reducible refine' e_fmt ?_)
  | (with_reducible refine' e_leI ?_)
  | (with_reducible refine' e_ltI ?_)
  | (with_reducible refine' e_gtI ?_)
  | (with_reducible refine' e_geI ?_)
  | (with_reducible refine' e_ltS ?_)
  | (with_reducible refine' e_eqI ?_)
  | (with_reducible refine' e_eqS ?_)
  | (with_reducible refine' e_neI ?_)
  | (with_reducible refine' e_neS ?_)
  | (with_reducible refine' e_neB ?_)
  | (with_reducible refine' e_isB ?_)
  | (with_reducible refine' e_isntB ?_)
  | (with_reducible refine' e_addI ?_)
  | (with_reducible refine' e_subI ?_)
  | (with_reducible refine' e_int1 ?_)
  | (with_reducible refine' e_max2 ?_)
  | (with_reducible refine' e_min2 ?_)
  | (with_reducible refine' e_lenL ?_)
  | (with_reducible refine' e_lenT ?_)
  | (with_reducible refine' e_lenR ?_)
  | (with_reducible refine' e_modI (by decide) ?_))
set_option synthInstance.maxHeartbeats 0
set_option synthInstance.maxSize 100000
local macro_rules | `(tactic| walk_at "k") => `(tactic| first
  | refine wgo ?_
  | ((with_reducible refine' e_var ?h ?_); (case h => exact rfl))
  | (with_reducible refine' e_gname ?_)
  | (with_reducible refine' e_modI (by decide) ?_)
  | ((with_reducible refine' e_sz ?h ?_); (case h => exact rfl)))
variable {P : Program} {K : PySem.W.Frag} {mg : Str → Option Value} {T : Top P K mg} {c : SH} {Ψ : XD} {Φ : QD}
theorem e_forL {g : MG} {b : MS} {δ : M.Env} {e : EndsD} {k i : Nat} {ob : Obj} {vs : List (Key × V)} {kvs : List (Key × D)} (hv : δ[i]? = some (some (.obj k))) (hl : c[k]? = some (.lck ob vs kvs)) (q : forD (fun c' => c'[k]? = some (.lck ob vs kvs)) g b (kvs.map M.pairD) δ c e) : M.forM (itemsLM (varM i)) g b δ c e := by
  show itemsLM (varM i) δ c _ _
  refine e_var hv ?_
  dsimp only
  rw [hl]
  exact q
theorem prim_le {r : List Int} {X : Nat} (h : ∀ j, (vec r j).natAbs ≤ X) (j : Nat) : (vec (prim r) j).natAbs ≤ X := by
  have e := congrArg Int.natAbs (prim_vec r j)
  rw [Int.natAbs_mul] at e
  have p := dvr_pos r
  have : (vec (prim r) j).natAbs ≤ (dvr r).natAbs * (vec (prim r) j).natAbs := Nat.le_mul_of_pos_left _ (by omega)
  have := h j
  omega
theorem clrR_le {a b : List Int} {p X Y : Nat} (hl : a.length = b.length) (ha : ∀ j, (vec a j).natAbs ≤ X) (hb : ∀ j, (vec b j).natAbs ≤ Y) (j : Nat) : (vec (clrR a b p) j).natAbs ≤ 2 * (X * Y) := by
  rw [clrR_vec hl]
  have h1 := Int.natAbs_sub_le (vec a j * vec b p) (vec a p * vec b j)
  rw [Int.natAbs_mul, Int.natAbs_mul] at h1
  have h2 := Nat.mul_le_mul (ha j) (hb p)
  have h3 := Nat.mul_le_mul (ha p) (hb j)
  omega
theorem gcdL_le {r : List Int} {X : Nat} (h : ∀ j, (vec r j).natAbs ≤ X) : gcdL r ≤ X := by
  by_cases hz : ∃ x ∈ r, x ≠ 0
  · obtain ⟨x, hx, h0⟩ := hz
    obtain ⟨j, _, e⟩ := mem_vec hx
    have := h j
    rw [e] at this
    exact Nat.le_trans (Nat.le_of_dvd (by omega) (gcdL_dvd hx)) this
  · have : gcdL r = 0 := by
      have : ∀ x ∈ r, 0 ∣ x.natAbs := fun x hx => by
        have : x = 0 := Classical.byContradiction fun q => hz ⟨x, hx, q⟩
        rw [this]
        exact Nat.dvd_refl _
      exact Nat.eq_zero_of_zero_dvd (dvd_gcdL.mpr this)
    omega
theorem log_9000 {x : Nat} (h : x < 2 ^ 9000) : x.log2 < 9000 := by
  by_cases h0 : x = 0
  · subst h0
    decide
  · exact (Nat.log2_lt h0).mpr h
/-- the numbers stay within what // allows -/
structure Fits (N B : Nat) : Prop where
  one : 1 ≤ N * B
  top : 2 * ((B * (2 * (N * B) ^ N) ^ N) * (N * B) ^ N) < 2 ^ 9000
def W0 (N B : Nat) : Nat := (N * B) ^ N
theorem clrAll_le {found : List (Nat × List Int)} {w B N : Nat} (hs : ∀ e ∈ found, e.2.length = w ∧ ∀ j, (vec e.2 j).natAbs ≤ W0 N B) : ∀ {l : List Int} {X : Nat}, l.length = w → (∀ j, (vec l j).natAbs ≤ X) → (clrAll l found).length = w ∧ ∀ j, (vec (clrAll l found) j).natAbs ≤ X * (2 * W0 N B) ^ found.length := by
  induction found with
  | nil => intro l X hl hX; exact ⟨hl, fun j => by simpa [clrAll] using hX j⟩
  | cons e found ih =>
    intro l X hl hX
    have he := hs e List.mem_cons_self
    have h1 := clr_len (p := e.1) hl he.1
    have h2 : ∀ j, (vec (clr l e.2 e.1) j).natAbs ≤ X * (2 * W0 N B) := fun j => by
      have := prim_le (clrR_le (p := e.1) (by rw [hl, he.1]) hX he.2) j
      rw [Nat.mul_left_comm]
      exact this
    have := ih (fun z hz => hs z (List.mem_cons_of_mem _ hz)) h1 h2
    refine ⟨this.1, fun j => ?_⟩
    have t := this.2 j
    rw [List.length_cons, Nat.pow_succ, Nat.mul_comm ((2 * W0 N B) ^ found.length), ← Nat.mul_assoc]
    exact t
def fdD (found : List (Nat × List Int)) : List (Key × D) := found.map fun e => (.inl (e.1 : Int), .lst (e.2.map .int))
/-- rows: a list or a tuple of rows -/
def IsRows (d : D) (rows : List (List Int)) : Prop := ∃ ds, (d = .lst ds ∨ d = .tup ds) ∧ ds.length = rows.length ∧ ∀ (i : Nat) (x : D), ds[i]? = some x → ∃ r, rows[i]? = some r ∧ IsRow x r
structure Given (w N B : Nat) (rows : List (List Int)) : Prop where
  len : ∀ r ∈ rows, r.length = w
  le : ∀ r ∈ rows, ∀ j, (vec r j).natAbs ≤ B
  w9 : w < 900
  many : rows.length ≤ N ∨ w ≤ N
  fits : Fits N B
theorem red_snoc (rows : List (List Int)) (r : List Int) : red (rows ++ [r]) = redStep (red rows) r := by
  unfold red
  rw [List.foldl_append]
  rfl
theorem red_take {rows : List (List Int)} {i : Nat} (h : i < rows.length) : red (rows.take (i + 1)) = redStep (red (rows.take i)) rows[i] := by
  rw [List.take_succ_eq_append_getElem h, red_snoc]
theorem step_len (found : List (Nat × List Int)) (r : List Int) : (redStep found r).length ≤ found.length + 1 := by
  unfold redStep
  split
  · omega
  · simp
theorem red_len : ∀ (n : Nat) (rows : List (List Int)), rows.length = n → (red rows).length ≤ n := by
  intro n
  induction n with
  | zero =>
    intro rows h
    rw [List.length_eq_zero_iff.mp h]
    exact Nat.le_refl _
  | succ n ih =>
    intro rows h
    have hn : n < rows.length := by omega
    have e : rows = rows.take n ++ [rows[n]] := by
      rw [← List.take_succ_eq_append_getElem hn, ← h, List.take_length]
    rw [e, red_snoc]
    have := step_len (red (rows.take n)) rows[n]
    have := ih (rows.take n) (by rw [List.length_take]; omega)
    omega
theorem nodup_le : ∀ (w : Nat) (l : List Nat), l.Nodup → (∀ x ∈ l, x < w) → l.length ≤ w := by
  intro w
  induction w with
  | zero =>
    intro l _ h
    cases l with
    | nil => exact Nat.le_refl _
    | cons x l => exact absurd (h x List.mem_cons_self) (by omega)
  | succ w ih =>
    intro l nd h
    have h1 := ih (l.filter fun x => decide (x ≠ w)) (nd.filter _) fun x hx => by
      obtain ⟨a, b⟩ := List.mem_filter.mp hx
      have := h x a
      have := of_decide_eq_true b
      omega
    have h2 : l.length ≤ (l.filter fun x => decide (x ≠ w)).length + 1 := by
      clear h1 h ih
      induction l with
      | nil => simp
      | cons x l ih =>
        rw [List.nodup_cons] at nd
        rw [List.filter_cons]
        by_cases e : x = w
        · subst e
          rw [if_neg (by simp)]
          have : l.filter (fun y => decide (y ≠ x)) = l := List.filter_eq_self.mpr fun y hy => decide_eq_true fun q => nd.1 (q ▸ hy)
          rw [this, List.length_cons]
          omega
        · rw [if_pos (by simpa using e)]
          have := ih nd.2
          simp only [List.length_cons]
          omega
    omega
structure InvB (w N B : Nat) (found : List (Nat × List Int)) : Prop where
  few : found.length ≤ N
  ok : ∀ e ∈ found, e.2.length = w ∧ ∀ j, (vec e.2 j).natAbs ≤ W0 N B
theorem invB {w N B : Nat} {found : List (Nat × List Int)} {rows all : List (List Int)} {P : List Vc} (h : RedInv w found rows P) (g : Given w N B all) (hs : ∀ r ∈ rows, r ∈ all) (hl : found.length ≤ all.length) : InvB w N B found := by
  have few : found.length ≤ N := by
    rcases g.many with m | m
    · omega
    · have := nodup_le w (found.map (·.1)) h.nd fun x hx => by
        obtain ⟨e, he, rfl⟩ := List.mem_map.mp hx
        exact h.lt e he
      rw [List.length_map] at this
      omega
  refine ⟨few, fun e he => ⟨h.len e he, fun j => ?_⟩⟩
  have a := h.small (fun r hr => g.le r (hs r hr)) e he j
  have b : found.length * B ≤ N * B := Nat.mul_le_mul_right _ few
  exact Nat.le_trans a (Nat.le_trans (Nat.pow_le_pow_left b _) (Nat.pow_le_pow_right g.fits.one few))
theorem mem_le {l : List Int} {X : Nat} (h : ∀ j, (vec l j).natAbs ≤ X) : ∀ x ∈ l, x.natAbs ≤ X := fun x hx => by
  obtain ⟨j, _, e⟩ := mem_vec hx
  rw [← e]
  exact h j
theorem getElem_last {c : SH} {k : Nat} {o : SO} (h : c[k]? = some o) : k < c.length := (List.getElem?_eq_some_iff.mp h).1
theorem unlock_eq {c : SH} {k : Nat} {o o' : SO} (h : c[k]? = some o) : (c.set k o').set k o = c := by
  rw [List.set_set]
  apply List.ext_getElem?
  intro j
  rw [List.getElem?_set]
  split
  · rename_i e
    subst e
    rw [h, if_pos (getElem_last h)]
  · rfl
/-- the bound behind i clearings -/
theorem bd_at {N B X i : Nat} (f : Fits N B) (hi : i ≤ N) (hX : X ≤ B * (2 * W0 N B) ^ i) : 2 * (X * W0 N B) < 2 ^ 9000 ∧ X < 2 ^ 400000 ∧ W0 N B < 2 ^ 400000 := by
  have w1 : 1 ≤ W0 N B := Nat.one_le_pow _ _ (by have := f.one; omega)
  have hp : (2 * W0 N B) ^ i ≤ (2 * W0 N B) ^ N := Nat.pow_le_pow_right (by omega) hi
  have h1 : X ≤ B * (2 * W0 N B) ^ N := Nat.le_trans hX (Nat.mul_le_mul_left _ hp)
  have h2 : 2 * (X * W0 N B) ≤ 2 * ((B * (2 * W0 N B) ^ N) * W0 N B) := Nat.mul_le_mul_left _ (Nat.mul_le_mul_right _ h1)
  have h3 := f.top
  have h4 : 2 * (X * W0 N B) < 2 ^ 9000 := Nat.lt_of_le_of_lt h2 h3
  have h9 : (2 : Nat) ^ 9000 ≤ 2 ^ 400000 := Nat.pow_le_pow_right (by decide) (by decide)
  have p : 0 < B * (2 * W0 N B) ^ N := by
    have : 0 < B := by
      have := f.one
      cases B with
      | zero => simp at this
      | succ B => omega
    exact Nat.mul_pos this (Nat.pow_pos (by omega))
  refine ⟨h4, ?_, ?_⟩
  · have : X ≤ X * W0 N B := Nat.le_mul_of_pos_right _ w1
    omega
  · have : W0 N B ≤ (B * (2 * W0 N B) ^ N) * W0 N B := Nat.le_mul_of_pos_left _ p
    have h3 : 2 * ((B * (2 * W0 N B) ^ N) * W0 N B) < 2 ^ 9000 := f.top
    omega
theorem bd_row {rows : List (List Int)} {w N B : Nat} (g : Given w N B rows) {r : List Int} (hr : r ∈ rows) : gcdL r < 2 ^ 9000 := by
  have h1 := gcdL_le (g.le r hr)
  have h2 := (bd_at (X := B) (i := 0) g.fits (Nat.zero_le _) (by simp)).1
  have w1 : 1 ≤ W0 N B := Nat.one_le_pow _ _ (by have := g.fits.one; omega)
  have : B ≤ B * W0 N B := Nat.le_mul_of_pos_right _ w1
  exact Nat.lt_of_le_of_lt (Nat.le_trans h1 (by omega)) h2
theorem nbK_fd (n : Nat) : ∀ fd : List (Nat × List Int), nbK n (fdD fd) = true
  | [] => rfl
  | e :: fd => by
    show (nb n (.lst (e.2.map .int)) && nbK n (fdD fd)) = true
    rw [nbK_fd n fd, Bool.and_true]
    exact nbL_ints n e.2
theorem z_reduced {d : D} {rows : List (List Int)} {w N B : Nat} (h : IsRows d rows) (g : Given w N B rows) (q : Φ (.dic (fdD (red rows))) c) : m_reduced T [d] c Ψ Φ := by
  obtain ⟨ds, hd, hl, hr⟩ := h
  have it : ∀ {k : List D → (SH → Prop) → SH → Prop} {c' : SH}, (∀ gd : SH → Prop, (∀ c2, gd c2) → k ds gd c') → itMK k d c' := fun {k c'} q => by
    rcases hd with rfl | rfl
    · exact e_itL (q _ fun _ => rfl)
    · exact e_itT (q _ fun _ => rfl)
  refine e_fn (δ := [some _, none, none, none, none, none, none]) rfl rfl ?_
  repeat walk_at "k"
  refine e_dnewT ?_
  repeat walk_at "k"
  refine it fun gd hg => ?_
  refine for_at (fun i δ c' => ∃ (L : SH) (k : Nat) (P : List Vc) (v2 v3 v4 v5 v6 : Option D), c' = c ++ L ∧ c'[c.length + k]? = some (.dic (fdD (red (rows.take i)))) ∧ RedInv w (red (rows.take i)) (rows.take i).reverse P ∧ δ = [some d, some (.obj (c.length + k)), v2, v3, v4, v5, v6]) _ ?_ ?_
    ⟨[.dic []], 0, [], _, _, _, _, _, rfl, by simp [fdD, red], by simpa [red] using RedInv.nil w, rfl⟩
  · rintro i x hx δ c' e' ⟨L, k, P, v2, v3, v4, v5, v6, hc, hk, hI, rfl⟩ nx ct _ _ _
    refine ⟨hg _, ?_⟩
    repeat walk_at "k"
    obtain ⟨r, hri, hx⟩ := hr i x hx
    obtain ⟨hi, rfl⟩ := List.getElem?_eq_some_iff.mp hri
    have hrm : rows[i] ∈ rows := List.getElem_mem hi
    have hlen := g.len _ hrm
    have hB := g.le _ hrm
    have iB : InvB w N B (red (rows.take i)) := invB hI g (fun r hr => List.mem_of_mem_take (List.mem_reverse.mp hr)) (Nat.le_trans (red_len _ _ rfl) (by rw [List.length_take]; omega))
    have gB : gcdL rows[i] < 2 ^ 9000 := bd_row g hrm
    refine z_primitive (.inl hx) (log_9000 gB) (by rw [hlen]; exact g.w9) ?_
    repeat walk_at "k"
    refine e_lock1 hk fun ob vs => ?_
    generalize hfd : red (rows.take i) = fd at *
    refine e_forL (k := c.length + k) (vs := vs) (ob := ob) rfl (by rw [List.getElem?_set, if_pos rfl, if_pos (getElem_last hk)]) ?_
    have clb := fun m => clrAll_le (found := fd.take m) (w := w) (B := B) (N := N) (fun e he => iB.ok e (List.mem_of_mem_take he)) (l := prim rows[i]) (X := B) (by rw [prim_len, hlen]) (fun j => prim_le hB j)
    refine for_at (fun m δ c2 => ∃ v4 v5, c2 = c'.set (c.length + k) (.lck ob vs (fdD fd)) ∧ δ = [some d, some (.obj (c.length + k)), some x, some (.lst ((clrAll (prim rows[i]) (fd.take m)).map .int)), v4, v5, v6]) _ ?_ ?_ ⟨_, _, rfl, rfl⟩
    · rintro m y hy δ c2 e2 ⟨u4, u5, rfl, rfl⟩ nx2 _ _ _ _
      unfold fdD at hy
      rw [List.map_map, List.getElem?_map] at hy
      obtain ⟨z, hz, rfl⟩ := Option.map_eq_some_iff.mp hy
      obtain ⟨hm, rfl⟩ := List.getElem?_eq_some_iff.mp hz
      have hzm : fd[m] ∈ fd := List.getElem_mem hm
      have hok := iB.ok _ hzm
      have cb := clb m
      rw [List.length_take, Nat.min_eq_left (Nat.le_of_lt hm)] at cb
      have bb := bd_at (X := B * (2 * W0 N B) ^ m) g.fits (Nat.le_trans (Nat.le_of_lt hm) iB.few) (Nat.le_refl _)
      refine ⟨by rw [List.getElem?_set, if_pos rfl, if_pos (getElem_last hk)], ?_⟩
      show gtupM _ (.tup [.int (fd[m].1 : Int), .lst (fd[m].2.map .int)]) _ _ _ _
      repeat walk_at "k"
      refine z_cleared cb.1 hok.1 (hI.lt _ hzm) g.w9 (fun p hp q hq => ⟨Nat.lt_of_le_of_lt (mem_le cb.2 p hp) bb.2.1, Nat.lt_of_le_of_lt (mem_le hok.2 q hq) bb.2.2⟩) (log_9000 (Nat.lt_of_le_of_lt (gcdL_le (clrR_le (by rw [cb.1, hok.1]) cb.2 hok.2)) bb.1)) ?_
      repeat walk_at "k"
      refine nx2 _ _ ⟨some (.int (fd[m].1 : Int)), some (.lst (fd[m].2.map .int)), rfl, ?_⟩
      rw [List.take_succ_eq_append_getElem hm]
      unfold clrAll
      rw [List.foldl_append]
      rfl
    · rintro δ c2 ⟨u4, u5, rfl, rfl⟩
      have e5 : fd.take (List.map M.pairD (fdD fd)).length = fd := by
        unfold fdD
        rw [List.length_map, List.length_map, List.take_length]
      rw [e5]
      have cb := clb fd.length
      rw [List.take_length] at cb
      refine ⟨by rw [List.getElem?_set, if_pos rfl, if_pos (getElem_last hk)], ?_⟩
      refine ⟨by rw [List.getElem?_set, if_pos rfl, if_pos (getElem_last hk)], ?_⟩
      rw [unlock_eq hk]
      repeat walk_at "k"
      refine z_first (Ψ := noX) (by rw [cb.1]; exact g.w9) ?_
      repeat walk_at "k"
      have hst : redStep fd rows[i] = red (rows.take (i + 1)) := by rw [red_take hi, hfd]
      obtain ⟨P', hI', _⟩ := red_step hI hlen
      rw [hst] at hI'
      have hrev : rows[i] :: (rows.take i).reverse = (rows.take (i + 1)).reverse := by
        rw [List.take_succ_eq_append_getElem hi, List.reverse_append]
        rfl
      rw [hrev] at hI'
      unfold redStep at hst
      cases hs : fstNz (clrAll (prim rows[i]) fd) with
      | none =>
        rw [hs] at hst
        have hst : fd = red (rows.take (i + 1)) := hst
        repeat walk_at "k"
        refine e_ifF ?_
        repeat walk_at "k"
        exact nx _ _ ⟨L, k, P', _, _, _, _, _, hc, by rw [← hst]; exact hk, hI', rfl⟩
      | some st =>
        rw [hs] at hst
        repeat walk_at "k"
        refine e_ifT ?_
        repeat walk_at "k"
        refine e_lock1 hk fun ob2 vs2 => ?_
        repeat walk_at "k"
        have hlk : (c'.set (c.length + k) (.lck ob2 vs2 (fdD fd)))[c.length + k]? = some (.lck ob2 vs2 (fdD fd)) := by rw [List.getElem?_set, if_pos rfl, if_pos (getElem_last hk)]
        have items : ∀ {ΦI : List D → (SH → Prop) → SH → Prop} {δ2 : M.Env} {Ψ2 : XD}, δ2[1]? = some (some (.obj (c.length + k))) → ΦI ((fdD fd).map M.pairD) (fun c2 => c2[c.length + k]? = some (.lck ob2 vs2 (fdD fd))) (c'.set (c.length + k) (.lck ob2 vs2 (fdD fd))) → itemsLM (varM 1) δ2 (c'.set (c.length + k) (.lck ob2 vs2 (fdD fd))) Ψ2 ΦI := fun {ΦI δ2 Ψ2} h1 h2 => by
          show itemsLM (varM 1) δ2 _ _ _
          refine e_var h1 ?_
          dsimp only
          rw [hlk]
          exact h2
        refine items rfl ?_
        have ei : (fdD fd).map M.pairD = fd.map fun e => D.tup [.int (e.1 : Int), .lst (e.2.map .int)] := by
          unfold fdD
          rw [List.map_map]
          rfl
        rw [ei]
        have st9 := fstNz_some hs
        have hst2 : st < w := by rw [← cb.1]; exact st9.2.1
        have few := iB.few
        have bb := bd_at (X := B * (2 * W0 N B) ^ fd.length) g.fits few (Nat.le_refl _)
        have ndk : (fd.map fun e => ((.inl (e.1 : Int), D.lst ((clr e.2 (clrAll (prim rows[i]) fd) st).map .int)) : Key × D).1).Nodup := by
          have e0 : (fd.map fun e => ((.inl (e.1 : Int), D.lst ((clr e.2 (clrAll (prim rows[i]) fd) st).map .int)) : Key × D).1) = (fd.map (·.1)).map fun n : Nat => (Sum.inl (n : Int) : Key) := by
            rw [List.map_map]
            rfl
          rw [e0]
          exact List.Pairwise.map _ (fun a b h q => h (by have := Sum.inl.inj q; omega)) hI.nd
        refine dc_map (fun e : Nat × List Int => D.tup [.int (e.1 : Int), .lst (e.2.map .int)]) (fun e => (.inl (e.1 : Int), .lst ((clr e.2 (clrAll (prim rows[i]) fd) st).map .int))) hlk fd [] (by simpa using ndk) (by show 0 + _ < sizeLine; rw [Nat.zero_add]; exact lt_sz (by have := nodup_le w (fd.map (·.1)) hI.nd fun x hx => (by obtain ⟨e, he, rfl⟩ := List.mem_map.mp hx; exact hI.lt e he); rw [List.length_map] at this; have := g.w9; omega)) (fun e he kk hkk => ?_) ?_
        · have hok := iB.ok e he
          repeat walk_at "k"
          refine z_cleared hok.1 cb.1 hst2 g.w9 (fun p hp q hq => ⟨Nat.lt_of_le_of_lt (mem_le hok.2 p hp) bb.2.2, Nat.lt_of_le_of_lt (mem_le cb.2 q hq) bb.2.1⟩) (log_9000 (Nat.lt_of_le_of_lt (gcdL_le (clrR_le (by rw [cb.1, hok.1]) hok.2 cb.2)) (by rw [Nat.mul_comm (W0 N B)]; exact bb.1))) ?_
          repeat walk_at "k"
          exact hkk
        · rw [List.nil_append]
          unfold newK
          refine e_ifT ?_
          repeat walk_at "k"
          refine ⟨by rw [List.getElem?_append_left (by rw [List.length_set]; exact getElem_last hk)]; exact hlk, ?_⟩
          rw [List.set_append_left _ _ (by rw [List.length_set]; exact getElem_last hk), unlock_eq hk, List.length_set]
          repeat walk_at "k"
          have hput : putKD (fdD (fd.map fun e => (e.1, clr e.2 (clrAll (prim rows[i]) fd) st))) (.inl (st : Int)) (.lst ((clrAll (prim rows[i]) fd).map .int)) = fdD (red (rows.take (i + 1))) := by
            have hst : fd.map (fun e => (e.1, clr e.2 (clrAll (prim rows[i]) fd) st)) ++ [(st, clrAll (prim rows[i]) fd)] = red (rows.take (i + 1)) := hst
            rw [putKD_new, ← hst]
            · unfold fdD
              rw [List.map_append]
              rfl
            · intro hmem
              have nd := hI'.nd
              rw [← hst, List.map_append, List.nodup_append] at nd
              unfold fdD at hmem
              rw [List.map_map, List.map_map] at hmem
              obtain ⟨e, he, q⟩ := List.mem_map.mp hmem
              have q : (Sum.inl (e.1 : Int) : Key) = Sum.inl (st : Int) := q
              have q2 : e.1 = st := by
                have := Sum.inl.inj q
                omega
              exact nd.2.2 e.1 (List.mem_map.mpr ⟨(e.1, clr e.2 (clrAll (prim rows[i]) fd) st), List.mem_map.mpr ⟨e, he, rfl⟩, rfl⟩) st (by simp) q2
          have efd : fdD (fd.map fun e => (e.1, clr e.2 (clrAll (prim rows[i]) fd) st)) = fd.map fun e => ((.inl (e.1 : Int), .lst ((clr e.2 (clrAll (prim rows[i]) fd) st).map .int)) : Key × D) := by
            unfold fdD
            rw [List.map_map]
            rfl
          rw [efd] at hput
          have hl9 : (fd.map fun e => ((.inl (e.1 : Int), .lst ((clr e.2 (clrAll (prim rows[i]) fd) st).map .int)) : Key × D)).length < sizeLine := by
            rw [List.length_map]
            have := nodup_le w (fd.map (·.1)) hI.nd fun x hx => by
              obtain ⟨e, he, rfl⟩ := List.mem_map.mp hx
              exact hI.lt e he
            rw [List.length_map] at this
            exact lt_sz (by have := g.w9; omega)
          generalize (fd.map fun e => ((.inl (e.1 : Int), .lst ((clr e.2 (clrAll (prim rows[i]) fd) st).map .int)) : Key × D)) = nd at *
          have hat : (c' ++ [SO.dic nd])[c'.length]? = some (.dic nd) := by simp
          show dputK e' _ _ (D.obj c'.length) (D.int (st : Int)) _
          unfold dputK
          simp only [keyD, hat]
          refine ⟨hl9, ?_⟩
          rw [hput]
          have eset : (c' ++ [SO.dic nd]).set c'.length (.dic (fdD (red (rows.take (i + 1))))) = c ++ (L ++ [.dic (fdD (red (rows.take (i + 1))))]) := by
            rw [List.set_append_right _ _ (Nat.le_refl _), Nat.sub_self, hc, List.append_assoc]
            rfl
          rw [eset]
          have elen : c'.length = c.length + L.length := by rw [hc, List.length_append]
          refine nx _ _ ⟨_, L.length, P', _, _, _, _, _, rfl, ?_, hI', by rw [elen]⟩
          rw [← List.append_assoc, List.getElem?_append_right (by rw [List.length_append]; exact Nat.le_refl _), List.length_append]
          simp
  · rintro δ c' ⟨L, k, P, v2, v3, v4, v5, v6, hc, hk, hI, rfl⟩
    refine ⟨hg _, ?_⟩
    rw [hl, List.take_length] at hk
    repeat walk_at "k"
    refine e_lkD hk ?_
    have etk : (c'.set (c.length + k) (SO.frz (.dic (fdD (red rows))))).take c.length = c := by
      rw [M.set_take (Nat.le_add_right _ _), hc, List.take_left']
      rfl
    refine .inr ⟨?_, nbK_fd _ _, ?_⟩
    · rw [etk]
      exact fun i o h => .inl h
    · rw [etk]
      exact q
end K14
set_option Elab.async false
set_option linter.all false
set_option maxRecDepth 100000
set_option maxHeartbeats 600000
namespace K14
open PySem PySem.Spec PyProof.Rows L2 G M Lin
local macro_rules | `(tactic| walk_at "m") => `(tactic| first
  | (with_reducible refine' e_seq ?_)
  | ((with_reducible refine' e_var ?h ?_); (case h => exact rfl))
  | (with_reducible refine' e_c ?_)
  | (with_reducible refine' e_op ?_)
  | (with_reducible refine' e_asg ?_)
  | (with_reducible refine' e_gname ?_)
  | (with_reducible refine' e_ifS ?_)
  | (with_reducible refine' e_test ?_)
  | (with_reducible refine' e_bl ?_)
  | (with_reducible refine' e_cb ?_)
  | (with_reducible refine' e_cons ?_)
  | (with_reducible refine' e_nil ?_)
  | (with_reducible refine' e_call ?_)
  | (with_reducible refine' e_ret ?_)
  | (with_reducible refine' e_drop ?_)
  | (with_reducible refine' e_next ?_)
  | (with_reducible refine' e_andT ?_)
  | (with_reducible refine' e_orT ?_)
  | (with_reducible refine' e_notT ?_)
  | (with_reducible refine' e_andM ?_)
  | (with_reducible refine' e_orM ?_)
  | (with_reducible refine' e_notM ?_)
  | (with_reducible refine' e_ifM ?_)
  | (with_reducible refine' e_chain ?_)
  | (with_reducible refine' e_un ?_)
  | (with_reducible refine' e_lst ?_)
  | (with_reducible refine' e_lstO ?_)
  | (with_reducible refine' e_tup ?_)
  | (with_reducible refine' e_par ?_)
  | (with_reducible refine' e_raise ?_)
  | (with_reducible refine' e_for ?_)
  | (with_reducible refine' e_meth ?_)
  | (with_reducible refine' e_prop ?_)
  | (with_reducible refine' e_make ?_)
  | (with_reducible refine' e_fld ?_)
  | (with_reducible refine' e_sfld ?_)
  | (with_reducible refine' e_noPart ?_)
  | (with_reducible refine' e_part ?_)
  | (with_reducible refine' e_int ?_)
  | (with_reducible refine' e_sl ?_)
  | (with_reducible refine' e_bm ?_)
  | (with_reducible refine' e_bm0 ?_)
  | (with_reducible refine' e_m1 ?_)
  | (with_reducible refine' e_it ?_)
  | (with_reducible refine' e_rng1 ?_)
  | (with_reducible refine' e_lc ?_)
  | (with_reducible refine' e_caught ?_)
  | (with_reducible refine' e_two ?_)
  | (with_reducible refine' e_one ?_)
  | (with_reducible refine' e_ifT ?_)
  | (with_reducible refine' e_ifF ?_)
  | (with_reducible refine' e_ifNT ?_)
  | (with_reducible refine' e_ifNF ?_)
  | (with_reducible refine' e_yes ?_)
  | (with_reducible refine' e_turn ?_)
  | (with_reducible refine' e_js ?_)
  | (with_reducible refine' e_jsc ?_)
  | (with_reducible refine' e_jsn ?_)
  | (with_reducible refine' e_fmt ?_)
  | (with_reducible refine' e_leI ?_)
  | (with_reducible refine' e_ltI ?_)
  | (with_reducible refine' e_gtI ?_)
  | (with_reducible refine' e_geI ?_)
  | (with_reducible refine' e_ltS ?_)
  | (with_reducible refine' e_eqI ?_)
  | (with_reducible refine' e_eqS ?_)
  | (with_reducible refine' e_neI ?_)
  | (with_reducible refine' e_neS ?_)
  | (with_reducible refine' e_neB ?_)
  | (with_reducible refine' e_isB ?_)
  | (with_reducible refine' e_isntB ?_)
  | (with_reducible refine' e_addI ?_)
  | (with_reducible refine' e_subI ?_)
  | (with_reducible refine' e_int1 ?_)
  | (with_reducible refine' e_max2 ?_)
  | (with_reducible refine' e_min2 ?_)
  | (with_reducible refine' e_lenL ?_)
  | (with_reducible refine' e_lenT ?_)
  | (with_reducible refine' e_lenR ?_)
  | (with_reducible refine' e_modI (by decide) ?_))
set_option synthInstance.maxHeartbeats 0
set_option synthInstance.maxSize 100000
local macro_rules | `(tactic| walk_at "k") => `(tactic| first
  | refine wgo ?_
  | ((with_reducible refine' e_var ?h ?_); (case h => exact rfl))
  | (with_reducible refine' e_gname ?_)
  | (with_reducible refine' e_modI (by decide) ?_)
  | ((with_reducible refine' e_sz ?h ?_); (case h => exact rfl)))
variable {P : Program} {K : PySem.W.Frag} {mg : Str → Option Value} {T : Top P K mg} {c : SH} {Ψ : XD} {Φ : QD}
theorem red_inv {rows : List (List Int)} {w : Nat} (h : ∀ r ∈ rows, r.length = w) : ∃ P, RedInv w (red rows) rows.reverse P := by
  have go : ∀ (n : Nat) (rows : List (List Int)), rows.length = n → (∀ r ∈ rows, r.length = w) → ∃ P, RedInv w (red rows) rows.reverse P := by
    intro n
    induction n with
    | zero =>
      intro rows hn _
      rw [List.length_eq_zero_iff.mp hn]
      exact ⟨_, RedInv.nil w⟩
    | succ n ih =>
      intro rows hn h
      have hlt : n < rows.length := by omega
      have e : rows = rows.take n ++ [rows[n]] := by
        rw [← List.take_succ_eq_append_getElem hlt, ← hn, List.take_length]
      obtain ⟨P, hP⟩ := ih (rows.take n) (by rw [List.length_take]; omega) fun r hr => h r (List.mem_of_mem_take hr)
      obtain ⟨P', hP', _⟩ := red_step hP (h _ (List.getElem_mem hlt))
      refine ⟨P', ?_⟩
      rw [e, red_snoc, List.reverse_append]
      exact hP'
  exact go _ rows rfl h
theorem red_rank {rows : List (List Int)} {w : Nat} (h : ∀ r ∈ rows, r.length = w) : IsRank (rows.map vec) (red rows).length := by
  obtain ⟨P, hP⟩ := red_inv h
  refine hP.rank.mem fun r => ?_
  rw [List.map_reverse, List.mem_reverse]
theorem z_rank {d : D} {rows : List (List Int)} {w N B : Nat} (h : IsRows d rows) (g : Given w N B rows) (q : Φ (.int ((red rows).length : Nat)) c) : m_rank_of T [d] c Ψ Φ := by
  refine e_fn (δ := [some _]) rfl rfl ?_
  repeat walk_at "k"
  refine z_reduced h g ?_
  repeat walk_at "k"
  have e : (fdD (red rows)).length = (red rows).length := by
    unfold fdD
    rw [List.length_map]
  rw [e]
  exact e_clo q
theorem z_upright {d : D} {v : List Int} (hv : IsRow d v ∨ view c d = .lst (v.map .int)) (hb : gcdL v < 2 ^ 9000) (hl : v.length < 900) (q : Φ (.lst ((upr v).map .int)) c) : m_upright T [d] c Ψ Φ := by
  refine e_fn (δ := [some _, none, none, none]) rfl rfl ?_
  repeat walk_at "k"
  refine z_primitive hv (log_9000 hb) hl ?_
  repeat walk_at "k"
  refine z_first (Ψ := noX) (by rw [prim_len]; exact hl) ?_
  repeat walk_at "k"
  unfold upr at q
  cases hs : fstNz (prim v) with
  | none =>
    rw [hs] at q
    repeat walk_at "k"
    refine e_any false ?_
    repeat walk_at "k"
    refine e_ifF ?_
    refine e_ifF ?_
    repeat walk_at "k"
    exact e_clo q
  | some i =>
    rw [hs] at q
    have q : Φ (.lst ((if vec (prim v) i < 0 then (prim v).map fun x => -x else prim v).map .int)) c := q
    obtain ⟨_, i1, _⟩ := fstNz_some hs
    repeat walk_at "k"
    refine e_any false ?_
    repeat walk_at "k"
    refine e_ifT ?_
    repeat walk_at "k"
    show ixD _ (.int (i : Int)) _ _
    refine e_ixI i1 ?_
    repeat walk_at "k"
    by_cases hn : vec (prim v) i < 0
    · rw [if_pos hn] at q
      rw [if_pos (decide_eq_true hn)]
      repeat walk_at "k"
      refine lc_map .int (fun x => some (.int (-x))) (by rfl) (prim v) [] (by show 0 + _ < sizeLine; rw [Nat.zero_add, prim_len]; exact lt_sz hl) (fun y hy k hk => ?_) ?_
      · repeat walk_at "k"
        exact hk
      · rw [List.nil_append, List.filterMap_eq_map']
        refine e_ifF ?_
        repeat walk_at "k"
        rw [List.map_map] at q
        exact e_clo q
    · rw [if_neg hn] at q
      rw [if_neg (by rw [decide_eq_true_eq]; exact hn)]
      repeat walk_at "k"
      exact e_clo q
/-- the same, the vector told as a list that may change -/
theorem z_uprightO {d : D} {v : List Int} (hv : IsRow d v ∨ view c d = .lst (v.map .int)) (hb : gcdL v < 2 ^ 9000) (hl : v.length < 900) (q : Φ (.obj c.length) (c ++ [.lst ((upr v).map .int)])) : m_upright T [d] c Ψ Φ := by
  by_cases hneg : ∃ i, fstNz (prim v) = some i ∧ vec (prim v) i < 0
  · refine e_fn (δ := [some _, none, none, none]) rfl rfl ?_
    repeat walk_at "k"
    refine z_primitive hv (log_9000 hb) hl ?_
    repeat walk_at "k"
    refine z_first (Ψ := noX) (by rw [prim_len]; exact hl) ?_
    repeat walk_at "k"
    obtain ⟨i, hs, hn⟩ := hneg
    unfold upr at q
    rw [hs] at q ⊢
    have q : Φ (.obj c.length) (c ++ [.lst ((if vec (prim v) i < 0 then (prim v).map fun x => -x else prim v).map .int)]) := q
    obtain ⟨_, i1, _⟩ := fstNz_some hs
    refine e_any true ?_
    repeat walk_at "k"
    refine e_ifT ?_
    repeat walk_at "k"
    show ixD _ (.int (i : Int)) _ _
    refine e_ixI i1 ?_
    repeat walk_at "k"
    rw [if_pos hn] at q
    rw [if_pos (decide_eq_true hn)]
    repeat walk_at "k"
    refine lc_map .int (fun x => some (.int (-x))) (by rfl) (prim v) [] (by show 0 + _ < sizeLine; rw [Nat.zero_add, prim_len]; exact lt_sz hl) (fun y hy k hk => ?_) ?_
    · repeat walk_at "k"
      exact hk
    · rw [List.nil_append, List.filterMap_eq_map']
      refine e_ifT ?_
      repeat walk_at "k"
      rw [List.map_map] at q
      exact .inl q
  · refine e_fn (δ := [some _, none, none, none]) rfl rfl ?_
    repeat walk_at "k"
    refine z_primitiveL true hv (log_9000 hb) hl (e_ifT ?_)
    repeat walk_at "k"
    have hvw : view (c ++ [.lst ((prim v).map .int)]) (.obj c.length) = .lst ((prim v).map .int) := by
      unfold view
      dsimp only
      rw [List.getElem?_append_right (Nat.le_refl _), Nat.sub_self]
      rfl
    have eu : upr v = prim v := by
      unfold upr
      cases hs : fstNz (prim v) with
      | none => rfl
      | some i => exact if_neg fun h => hneg ⟨i, hs, h⟩
    rw [eu] at q
    refine z_firstV (Ψ := noX) hvw (by rw [prim_len]; exact hl) ?_
    repeat walk_at "k"
    refine e_any true ?_
    repeat walk_at "k"
    cases hs : fstNz (prim v) with
    | none =>
      refine e_ifF ?_
      refine e_ifF ?_
      repeat walk_at "k"
      exact .inl q
    | some i =>
      obtain ⟨_, i1, _⟩ := fstNz_some hs
      refine e_ifT ?_
      repeat walk_at "k"
      show ixD _ (.int (i : Int)) _ _
      refine e_ixV hvw i1 ?_
      repeat walk_at "k"
      rw [if_neg (by rw [decide_eq_true_eq]; exact fun h => hneg ⟨i, hs, h⟩)]
      repeat walk_at "k"
      exact .inl q
end K14
set_option Elab.async false
set_option linter.all false
set_option maxRecDepth 100000
set_option maxHeartbeats 600000
namespace K14
open PySem PySem.Spec PyProof.Rows L2 G M Lin
local macro_rules | `(tactic| walk_at "m") => `(tactic| first
  | (with_reducible refine' e_seq ?_)
  | ((with_reducible refine' e_var ?h ?_); (case h => exact rfl))
  | (with_reducible refine' e_c ?_)
  | (with_reducible refine' e_op ?_)
  | (with_reducible refine' e_asg ?_)
  | (with_reducible refine' e_gname ?_)
  | (with_reducible refine' e_ifS ?_)
  | (with_reducible refine' e_test ?_)
  | (with_reducible refine' e_bl ?_)
  | (with_reducible refine' e_cb ?_)
  | (with_reducible refine' e_cons ?_)
  | (with_reducible refine' e_nil ?_)
  | (with_reducible refine' e_call ?_)
  | (with_reducible refine' e_ret ?_)
  | (with_reducible refine' e_drop ?_)
  | (with_reducible refine' e_next ?_)
  | (with_reducible refine' e_andT ?_)
  | (with_reducible refine' e_orT ?_)
  | (with_reducible refine' e_notT ?_)
  | (with_reducible refine' e_andM ?_)
  | (with_reducible refine' e_orM ?_)
  | (with_reducible refine' e_notM ?_)
  | (with_reducible refine' e_ifM ?_)
  | (with_reducible refine' e_chain ?_)
  | (with_reducible refine' e_un ?_)
  | (with_reducible refine' e_lst ?_)
  | (with_reducible refine' e_lstO ?_)
  | (with_reducible refine' e_tup ?_)
  | (with_reducible refine' e_par ?_)
  | (with_reducible refine' e_raise ?_)
  | (with_reducible refine' e_for ?_)
  | (with_reducible refine' e_meth ?_)
  | (with_reducible refine' e_prop ?_)
  | (with_reducible refine' e_make ?_)
  | (with_reducible refine' e_fld ?_)
  | (with_reducible refine' e_sfld ?_)
  | (with_reducible refine' e_noPart ?_)
  | (with_reducible refine' e_part ?_)
  | (with_reducible refine' e_int ?_)
  | (with_reducible refine' e_sl ?_)
  | (with_reducible refine' e_bm ?_)
  | (with_reducible refine' e_bm0 ?_)
  | (with_reducible refine' e_m1 ?_)
  | (with_reducible refine' e_it ?_)
  | (with_reducible refine' e_rng1 ?_)
  | (with_reducible refine' e_lc ?_)
  | (with_reducible refine' e_caught ?_)
  | (with_reducible refine' e_two ?_)
  | (with_reducible refine' e_one ?_)
  | (with_reducible refine' e_ifT ?_)
  | (with_reducible refine' e_ifF ?_)
  | (with_reducible refine' e_ifNT ?_)
  | (with_reducible refine' e_ifNF ?_)
  | (with_reducible refine' e_yes ?_)
  | (with_reducible refine' e_turn ?_)
  | (with_reducible refine' e_js ?_)
  | (with_reducible refine' e_jsc ?_)
  | (with_reducible refine' e_jsn ?_)
  | (with_reducible refine' e_fmt ?_)
  | (with_reducible refine' e_leI ?_)
  | (with_reducible refine' e_ltI ?_)
  | (with_reducible refine' e_gtI ?_)
  | (with_reducible refine' e_geI ?_)
  | (with_reducible refine' e_ltS ?_)
  | (with_reducible refine' e_eqI ?_)
  | (with_reducible refine' e_eqS ?_)
  | (with_reducible refine' e_neI ?_)
  | (with_reducible refine' e_neS ?_)
  | (with_reducible refine' e_neB ?_)
  | (with_reducible refine' e_isB ?_)
  | (with_reducible refine' e_isntB ?_)
  | (with_reducible refine' e_addI ?_)
  | (with_reducible refine' e_subI ?_)
  | (with_reducible refine' e_int1 ?_)
  | (with_reducible refine' e_max2 ?_)
  | (with_reducible refine' e_min2 ?_)
  | (with_reducible refine' e_lenL ?_)
  | (with_reducible refine' e_lenT ?_)
  | (with_reducible refine' e_lenR ?_)
  | (with_reducible refine' e_modI (by decide) ?_))
set_option synthInstance.maxHeartbeats 0
set_option synthInstance.maxSize 100000
local macro_rules | `(tactic| walk_at "k") => `(tactic| first
  | refine wgo ?_
  | ((with_reducible refine' e_var ?h ?_); (case h => exact rfl))
  | (with_reducible refine' e_gname ?_)
  | (with_reducible refine' e_modI (by decide) ?_)
  | ((with_reducible refine' e_sz ?h ?_); (case h => exact rfl)))
variable {P : Program} {K : PySem.W.Frag} {mg : Str → Option Value} {T : Top P K mg} {c : SH} {Ψ : XD} {Φ : QD}
def kerL (found : List (Nat × List Int)) (w : Nat) : List (List Int) := ((List.range w).filter fun f => decide (f ∉ found.map (·.1))).map (kvec found w)
theorem W_pow {N B i : Nat} (f : Fits N B) (hi : i ≤ N) : W0 N B ^ i < 2 ^ 9000 ∧ 1 ≤ W0 N B ∧ W0 N B < 2 ^ 9000 := by
  have w1 : 1 ≤ W0 N B := Nat.one_le_pow _ _ (by have := f.one; omega)
  have hB : 0 < B := by
    have := f.one
    cases B with
    | zero => simp at this
    | succ B => omega
  have h1 : W0 N B ^ i ≤ (2 * W0 N B) ^ N := Nat.le_trans (Nat.pow_le_pow_left (by omega) i) (Nat.pow_le_pow_right (by omega) hi)
  have h2 : (2 * W0 N B) ^ N ≤ B * (2 * W0 N B) ^ N := Nat.le_mul_of_pos_left _ hB
  have h3 : B * (2 * W0 N B) ^ N ≤ (B * (2 * W0 N B) ^ N) * W0 N B := Nat.le_mul_of_pos_right _ w1
  have h4 : 2 * ((B * (2 * W0 N B) ^ N) * W0 N B) < 2 ^ 9000 := f.top
  have h5 : W0 N B ≤ (B * (2 * W0 N B) ^ N) * W0 N B := Nat.le_mul_of_pos_left _ (Nat.mul_pos hB (Nat.pow_pos (by omega)))
  exact ⟨by omega, w1, by omega⟩
theorem kshared_take {fd : List (Nat × List Int)} {i : Nat} (h : i < fd.length) : kshared (fd.take (i + 1)) = (kshared (fd.take i) * vec fd[i].2 fd[i].1).fdiv (Int.gcd (kshared (fd.take i)) (vec fd[i].2 fd[i].1) : Int) := by
  unfold kshared
  rw [List.take_succ_eq_append_getElem h, List.foldl_append]
  rfl
theorem e_inKI {fin : Bool → Bool} {o1 : D → D → SH → QD → Prop} {kvs : List (Key × D)} {i : Int} (q : Φ (.bl (fin (valD kvs (.inl i)).isSome)) c) : orD o1 (inKD fin) (.int i) (.dic kvs) c Φ := .inr q
theorem val_fd (fd : List (Nat × List Int)) (i : Nat) : (valD (fdD fd) (.inl (i : Int))).isSome = decide (i ∈ fd.map (·.1)) := by
  unfold valD fdD
  rw [Option.isSome_map, List.find?_map, Option.isSome_map, Bool.eq_iff_iff, List.find?_isSome, decide_eq_true_eq]
  constructor
  · rintro ⟨e, he, q⟩
    have q : (Sum.inl (e.1 : Int) : Key) = Sum.inl (i : Int) := of_decide_eq_true q
    have := Sum.inl.inj q
    exact List.mem_map.mpr ⟨e, he, by omega⟩
  · intro h
    obtain ⟨e, he, q⟩ := List.mem_map.mp h
    exact ⟨e, he, decide_eq_true (by show (Sum.inl (e.1 : Int) : Key) = _; rw [q])⟩
theorem e_vset {N : M.Env → SH → Prop} {δ : M.Env} {u : List Int} {j : Nat} {x : Int} (hj : j < u.length) (q : N δ (c ++ [.lst ((u.set j x).map .int)])) : gsubK N δ (.int x) (.obj c.length) (.int (j : Int)) (c ++ [.lst (u.map .int)]) := by
  unfold gsubK liveL
  dsimp only
  rw [List.getElem?_append_right (Nat.le_refl _), Nat.sub_self]
  have e : ixN (u.map D.int).length (j : Int) = some j := by
    rw [List.length_map]
    unfold ixN
    rw [if_pos (by omega), if_pos (by omega)]
    simp
  show (match ixN (u.map D.int).length (j : Int) with
    | some j => N δ ((c ++ [SO.lst (u.map .int)]).set c.length (.lst ((u.map D.int).set j (.int x))))
    | none => False)
  rw [e]
  show N δ ((c ++ [SO.lst (u.map .int)]).set c.length (.lst ((u.map D.int).set j (.int x))))
  rw [List.set_append_right _ _ (Nat.le_refl _), Nat.sub_self, ← List.map_set]
  exact q
theorem nbL_ker (n : Nat) : ∀ l : List (List Int), nbL n (l.map fun v => .lst (v.map .int)) = true
  | [] => rfl
  | v :: l => by
    show (nb n (.lst (v.map .int)) && nbL n (l.map fun v => .lst (v.map .int))) = true
    rw [nbL_ker n l, Bool.and_true]
    exact nbL_ints n v
theorem rep_flat : ∀ n : Nat, (List.replicate n [D.int 0]).flatten = List.replicate n (D.int 0)
  | 0 => rfl
  | n + 1 => by
    rw [List.replicate_succ, List.flatten_cons, rep_flat n]
    rfl
theorem z_kernel {d : D} {rows : List (List Int)} {w N B : Nat} (h : IsRows d rows) (g : Given w N B rows) (q : Φ (.lst ((kerL (red rows) w).map fun v => .lst (v.map .int))) c) : m_kernel_of T [d, .int (w : Int)] c Ψ Φ := by
  refine e_fn (δ := [some _, some _, none, none, none, none, none, none, none]) rfl rfl ?_
  repeat walk_at "k"
  refine z_reduced h g ?_
  repeat walk_at "k"
  obtain ⟨P0, hI⟩ := red_inv g.len
  have iB : InvB w N B (red rows) := invB hI g (fun r hr => List.mem_reverse.mp hr) (red_len _ _ rfl)
  generalize red rows = fd at *
  have nz := fun (e : Nat × List Int) (he : e ∈ fd) => (⟨hI.nz e he, (iB.ok e he).2 e.1⟩ : vec e.2 e.1 ≠ 0 ∧ (vec e.2 e.1).natAbs ≤ W0 N B)
  have wk := W_pow (i := 0) g.fits (Nat.zero_le _)
  have big : (2 : Nat) ^ 9000 ≤ 2 ^ 400000 := Nat.pow_le_pow_right (by decide) (by decide)
  have items : ∀ kvs : List (Nat × List Int), (fdD kvs).map (fun kv => D.tup [keyOD kv.1, kv.2]) = kvs.map fun e => D.tup [.int (e.1 : Int), .lst (e.2.map .int)] := fun kvs => by
    unfold fdD
    rw [List.map_map]
    rfl
  rw [items]
  refine for_at (fun i δ c' => c' = c ++ [.lst []] ∧ ∃ v5 v6, δ = [some d, some (.int (w : Int)), some (.dic (fdD fd)), some (.obj c.length), some (.int (kshared (fd.take i))), v5, v6, none, none]) _ ?_ ?_ ⟨rfl, _, _, rfl⟩
  · rintro i y hy δ c' e' ⟨rfl, v5, v6, rfl⟩ nx _ _ _ _
    rw [List.getElem?_map] at hy
    obtain ⟨z, hz, rfl⟩ := Option.map_eq_some_iff.mp hy
    obtain ⟨hm, rfl⟩ := List.getElem?_eq_some_iff.mp hz
    have hzm : fd[i] ∈ fd := List.getElem_mem hm
    have hok := iB.ok _ hzm
    have hp := hI.lt _ hzm
    obtain ⟨s0, _, sl⟩ := kshared_ok (fd.take i) (W0 N B) fun e he => nz e (List.mem_of_mem_take he)
    rw [List.length_take, Nat.min_eq_left (Nat.le_of_lt hm)] at sl
    have wi := W_pow (i := i) g.fits (Nat.le_trans (Nat.le_of_lt hm) iB.few)
    refine ⟨trivial, ?_⟩
    repeat walk_at "k"
    refine e_ixI (by rw [hok.1]; exact hp) ?_
    refine e_mulW (Bd.mulOk (a := 400000) (b := 400000) (show _ < _ from by omega) (show _ < _ from by have := (nz _ hzm).2; omega) (by decide) (by decide) (by decide)) ?_
    repeat walk_at "k"
    refine e_ixI (by rw [hok.1]; exact hp) ?_
    repeat walk_at "k"
    refine z_divisor ?_
    repeat walk_at "k"
    have hgz : (Nat.gcd (kshared (fd.take i)).natAbs (vec fd[i].2 fd[i].1).natAbs : Nat) ≠ 0 := fun q => s0 (by have := Nat.eq_zero_of_gcd_eq_zero_left q; omega)
    have hgl : Nat.gcd (kshared (fd.take i)).natAbs (vec fd[i].2 fd[i].1).natAbs ≤ W0 N B := Nat.le_trans (Nat.gcd_le_right _ (by have := (nz _ hzm).1; omega)) (nz _ hzm).2
    refine e_fdivW ⟨by omega, log_9000 (by rw [Int.natAbs_natCast]; exact Nat.lt_of_le_of_lt hgl wk.2.2)⟩ ?_
    repeat walk_at "k"
    refine nx _ _ ⟨rfl, some (.int (fd[i].1 : Int)), some (.lst (fd[i].2.map .int)), ?_⟩
    rw [kshared_take hm]
    rfl
  · rintro δ c' ⟨rfl, v5, v6, rfl⟩
    refine ⟨trivial, ?_⟩
    rw [List.length_map, List.take_length]
    repeat walk_at "k"
    refine ⟨⟨by omega, by have := g.w9; omega⟩, ?_⟩
    have hw : (w : Int).toNat = w := by omega
    rw [hw]
    have ks := kshared_ok fd (W0 N B) nz
    have wN := W_pow (i := fd.length) g.fits iB.few
    generalize hsh : kshared fd = sh at *
    refine for_at (fun i δ c' => ∃ (L : SH) (v5 v6 v7 v8 : Option D), c' = c ++ .lst ((((List.range i).filter fun f => decide (f ∉ fd.map (·.1))).map (kvec fd w)).map fun v => .lst (v.map .int)) :: L ∧ δ = [some d, some (.int (w : Int)), some (.dic (fdD fd)), some (.obj c.length), some (.int sh), v5, v6, v7, v8]) _ ?_ ?_ ⟨[], _, _, _, _, rfl, rfl⟩
    · rintro i y hy δ c' e' ⟨L, v5, v6, v7, v8, hc, rfl⟩ nx ct _ _ _
      unfold rngD at hy
      rw [List.getElem?_map] at hy
      obtain ⟨z, hz, rfl⟩ := Option.map_eq_some_iff.mp hy
      obtain ⟨hi, rfl⟩ := List.getElem?_eq_some_iff.mp hz
      have hiw : i < w := by simpa using hi
      rw [List.getElem_range, Int.zero_add]
      refine ⟨trivial, ?_⟩
      repeat walk_at "k"
      refine e_inKI ?_
      rw [val_fd]
      repeat walk_at "k"
      have hr1 : List.range (i + 1) = List.range i ++ [i] := List.range_succ
      by_cases hmem : i ∈ fd.map (·.1)
      · rw [decide_eq_true hmem]
        refine e_ifF ?_
        repeat walk_at "k"
        refine nx _ _ ⟨L, _, _, _, _, ?_, rfl⟩
        rw [hr1, List.filter_append, List.filter_cons_of_neg (by simpa using hmem), List.filter_nil, List.append_nil]
        exact hc
      · rw [decide_eq_false hmem]
        refine e_ifT ?_
        repeat walk_at "k"
        refine .inl ⟨⟨by omega, by have := g.w9; omega⟩, ?_⟩
        have erep : (List.replicate (w : Int).toNat [D.int 0]).flatten = (List.replicate w (0 : Int)).map .int := by
          rw [hw, List.map_replicate]
          exact rep_flat w
        rw [erep]
        refine ⟨by rw [List.length_map, List.length_replicate]; exact Nat.le_of_lt (lt_sz g.w9), e_ifT ?_⟩
        repeat walk_at "k"
        refine e_vset (by rw [List.length_replicate]; exact hiw) ?_
        repeat walk_at "k"
        rw [items]
        have hne : ∀ e ∈ fd, e.1 ≠ i := fun e he q => hmem (List.mem_map.mpr ⟨e, he, q⟩)
        refine for_at (fun m δ c2 => c2 = c' ++ [.lst (((fd.take m).foldl (fun l e => l.set e.1 (kval sh i e)) ((List.replicate w 0).set i sh)).map .int)] ∧ ∃ v5 v6, δ = [some d, some (.int (w : Int)), some (.dic (fdD fd)), some (.obj c.length), some (.int sh), v5, v6, some (.int (i : Int)), some (.obj c'.length)]) _ ?_ ?_ ⟨rfl, _, _, rfl⟩
        · rintro m y hy δ c2 e2 ⟨rfl, u5, u6, rfl⟩ nx2 _ _ _ _
          rw [List.getElem?_map] at hy
          obtain ⟨z, hz, rfl⟩ := Option.map_eq_some_iff.mp hy
          obtain ⟨hm, rfl⟩ := List.getElem?_eq_some_iff.mp hz
          have hzm : fd[m] ∈ fd := List.getElem_mem hm
          have hok := iB.ok _ hzm
          have hp := hI.lt _ hzm
          have hlen : ((fd.take m).foldl (fun l e => l.set e.1 (kval sh i e)) ((List.replicate w 0).set i sh)).length = w := (kraw_ok (s := sh) (f := i) (fd.take m) _ (by simp) (fun e he => hI.lt e (List.mem_of_mem_take he)) (by rw [List.map_take]; exact hI.nd.sublist (List.take_sublist _ _))).1
          have hsb : (sh.fdiv (vec fd[m].2 fd[m].1)).natAbs < 2 ^ 400000 := by
            have e := fdiv_exact (nz _ hzm).1 (ks.2.1 _ hzm)
            have e2 := congrArg Int.natAbs e
            rw [Int.natAbs_mul] at e2
            have h1 : (sh.fdiv (vec fd[m].2 fd[m].1)).natAbs ≤ sh.natAbs := by
              rw [← e2]
              exact Nat.le_mul_of_pos_left _ (by have := (nz _ hzm).1; omega)
            have h2 := ks.2.2
            omega
          have hfb : (vec fd[m].2 i).natAbs < 2 ^ 400000 := by
            have := hok.2 i
            omega
          refine ⟨trivial, ?_⟩
          repeat walk_at "k"
          refine e_ixI (by rw [hok.1]; exact hiw) ?_
          repeat walk_at "k"
          refine e_ixI (by rw [hok.1]; exact hp) ?_
          refine e_fdivW ⟨(nz _ hzm).1, log_9000 (Nat.lt_of_le_of_lt (nz _ hzm).2 wk.2.2)⟩ ?_
          refine e_mulW (Bd.mulOk (a := 400000) (b := 400000) (show _ < _ from by rw [Int.natAbs_neg]; exact hfb) hsb (by decide) (by decide) (by decide)) ?_
          repeat walk_at "k"
          refine e_vset (by rw [hlen]; exact hp) ?_
          refine nx2 _ _ ⟨?_, some (.int (fd[m].1 : Int)), some (.lst (fd[m].2.map .int)), rfl⟩
          rw [List.take_succ_eq_append_getElem hm, List.foldl_append]
          rfl
        · rintro δ c2 ⟨rfl, u5, u6, rfl⟩
          refine ⟨trivial, ?_⟩
          rw [List.length_map, List.take_length]
          repeat walk_at "k"
          have hkr := kraw_ok (s := sh) (f := i) fd ((List.replicate w 0).set i sh) (by simp) hI.lt hI.nd
          generalize hu : fd.foldl (fun l e => l.set e.1 (kval sh i e)) ((List.replicate w 0).set i sh) = u at *
          have hub : gcdL u < 2 ^ 9000 := by
            have hle : ∀ j, (vec u j).natAbs ≤ W0 N B ^ fd.length * W0 N B := fun j => by
              by_cases hj : ∃ e ∈ fd, e.1 = j
              · obtain ⟨e, he, rfl⟩ := hj
                rw [hkr.2.1 e he]
                unfold kval
                rw [Int.natAbs_mul, Int.natAbs_neg, Nat.mul_comm]
                have e1 := congrArg Int.natAbs (fdiv_exact (nz e he).1 (ks.2.1 e he))
                rw [Int.natAbs_mul] at e1
                have e2 : (sh.fdiv (vec e.2 e.1)).natAbs ≤ sh.natAbs := by
                  rw [← e1]
                  exact Nat.le_mul_of_pos_left _ (by have := (nz e he).1; omega)
                exact Nat.mul_le_mul (Nat.le_trans e2 ks.2.2) ((iB.ok e he).2 i)
              · rw [hkr.2.2 j fun e he q => hj ⟨e, he, q⟩]
                rw [vec_set (by rw [List.length_replicate]; exact hiw)]
                split
                · exact Nat.le_trans ks.2.2 (Nat.le_mul_of_pos_right _ wk.2.1)
                · rw [vec_rep]
                  exact Nat.zero_le _
            have top : W0 N B ^ fd.length * W0 N B < 2 ^ 9000 := by
              have f := g.fits
              have h1 : W0 N B ^ fd.length ≤ (2 * W0 N B) ^ N := Nat.le_trans (Nat.pow_le_pow_left (by omega) _) (Nat.pow_le_pow_right (by have := wk.2.1; omega) iB.few)
              have hB : 0 < B := by
                have := f.one
                cases B with
                | zero => simp at this
                | succ B => omega
              have h2 : (2 * W0 N B) ^ N ≤ B * (2 * W0 N B) ^ N := Nat.le_mul_of_pos_left _ hB
              have h3 := Nat.mul_le_mul_right (W0 N B) (Nat.le_trans h1 h2)
              have h4 : 2 * ((B * (2 * W0 N B) ^ N) * W0 N B) < 2 ^ 9000 := f.top
              omega
            exact Nat.lt_of_le_of_lt (gcdL_le hle) top
          have hv0 : (c' ++ [SO.lst (u.map D.int)])[c.length]? = some (.lst ((((List.range i).filter fun f => decide (f ∉ fd.map (·.1))).map (kvec fd w)).map fun v => .lst (v.map .int))) := by
            rw [hc, List.append_assoc, List.getElem?_append_right (Nat.le_refl _), Nat.sub_self]
            rfl
          have hview : view (c' ++ [SO.lst (u.map D.int)]) (.obj c.length) = .lst ((((List.range i).filter fun f => decide (f ∉ fd.map (·.1))).map (kvec fd w)).map fun v => .lst (v.map .int)) := by
            unfold view
            dsimp only
            rw [hv0]
          have hviewU : view (c' ++ [SO.lst (u.map D.int)]) (.obj c'.length) = .lst (u.map D.int) := by
            unfold view
            dsimp only
            rw [List.getElem?_append_right (Nat.le_refl _), Nat.sub_self]
            rfl
          refine ⟨by rw [hview]; rfl, ?_⟩
          repeat walk_at "k"
          refine z_upright (.inr hviewU) hub (by rw [hkr.1]; exact g.w9) ?_
          repeat walk_at "k"
          have hkv : upr u = kvec fd w i := by
            unfold kvec kraw
            rw [hsh, hu]
          unfold appendD oneD liveL
          dsimp only
          rw [hv0]
          refine ⟨?_, ?_⟩
          · rw [List.length_map, List.length_map]
            have := List.length_filter_le (fun f => decide (f ∉ fd.map (·.1))) (List.range i)
            rw [List.length_range] at this
            exact lt_sz (by have := g.w9; omega)
          · have eset : (c' ++ [SO.lst (u.map D.int)]).set c.length (.lst (((((List.range i).filter fun f => decide (f ∉ fd.map (·.1))).map (kvec fd w)).map fun v => D.lst (v.map .int)) ++ [.lst ((upr u).map .int)])) = c ++ .lst ((((List.range (i + 1)).filter fun f => decide (f ∉ fd.map (·.1))).map (kvec fd w)).map fun v => .lst (v.map .int)) :: (L ++ [SO.lst (u.map D.int)]) := by
              rw [hc, List.append_assoc, List.set_append_right _ _ (Nat.le_refl _), Nat.sub_self, hr1, List.filter_append, List.filter_cons_of_pos (by simpa using hmem), List.filter_nil, List.map_append, List.map_append, hkv]
              rfl
            rw [eset]
            exact nx _ _ ⟨_, _, _, _, _, rfl, rfl⟩
    · rintro δ c' ⟨L, v5, v6, v7, v8, hc, rfl⟩
      refine ⟨trivial, ?_⟩
      have elr : (rngD 0 w).length = w := by
        unfold rngD
        rw [List.length_map, List.length_range]
      rw [elr] at hc
      repeat walk_at "k"
      have etk : c'.take c.length = c := by rw [hc, List.take_left']; rfl
      have eo : out1 c.length c' (.obj c.length) = .lst ((kerL fd w).map fun v => .lst (v.map .int)) := by
        unfold out1
        dsimp only
        rw [if_neg (Nat.lt_irrefl _), hc, List.getElem?_append_right (Nat.le_refl _), Nat.sub_self]
        rfl
      refine .inr ⟨?_, ?_, ?_⟩
      · rw [etk]
        exact fun i o h => .inl h
      · rw [eo]
        exact nbL_ker _ _
      · rw [eo, etk]
        exact q
/-- the same, the vectors told as lists that may change -/
theorem z_kernelO {d : D} {rows : List (List Int)} {w N B : Nat} (h : IsRows d rows) (g : Given w N B rows) (q : ∀ (L : SH) (kz : List Nat), (∀ k ∈ kz, c.length < k ∧ ∃ ys, (c ++ L)[k]? = some (.lst ys)) → L[0]? = some (.lst (kz.map .obj)) → Φ (.obj c.length) (c ++ L)) : m_kernel_of T [d, .int (w : Int)] c Ψ Φ := by
  refine e_fn (δ := [some _, some _, none, none, none, none, none, none, none]) rfl rfl ?_
  repeat walk_at "k"
  refine z_reduced h g ?_
  repeat walk_at "k"
  obtain ⟨P0, hI⟩ := red_inv g.len
  have iB : InvB w N B (red rows) := invB hI g (fun r hr => List.mem_reverse.mp hr) (red_len _ _ rfl)
  generalize red rows = fd at *
  have nz := fun (e : Nat × List Int) (he : e ∈ fd) => (⟨hI.nz e he, (iB.ok e he).2 e.1⟩ : vec e.2 e.1 ≠ 0 ∧ (vec e.2 e.1).natAbs ≤ W0 N B)
  have wk := W_pow (i := 0) g.fits (Nat.zero_le _)
  have big : (2 : Nat) ^ 9000 ≤ 2 ^ 400000 := Nat.pow_le_pow_right (by decide) (by decide)
  have items : ∀ kvs : List (Nat × List Int), (fdD kvs).map (fun kv => D.tup [keyOD kv.1, kv.2]) = kvs.map fun e => D.tup [.int (e.1 : Int), .lst (e.2.map .int)] := fun kvs => by
    unfold fdD
    rw [List.map_map]
    rfl
  rw [items]
  refine for_at (fun i δ c' => c' = c ++ [.lst []] ∧ ∃ v5 v6, δ = [some d, some (.int (w : Int)), some (.dic (fdD fd)), some (.obj c.length), some (.int (kshared (fd.take i))), v5, v6, none, none]) _ ?_ ?_ ⟨rfl, _, _, rfl⟩
  · rintro i y hy δ c' e' ⟨rfl, v5, v6, rfl⟩ nx _ _ _ _
    rw [List.getElem?_map] at hy
    obtain ⟨z, hz, rfl⟩ := Option.map_eq_some_iff.mp hy
    obtain ⟨hm, rfl⟩ := List.getElem?_eq_some_iff.mp hz
    have hzm : fd[i] ∈ fd := List.getElem_mem hm
    have hok := iB.ok _ hzm
    have hp := hI.lt _ hzm
    obtain ⟨s0, _, sl⟩ := kshared_ok (fd.take i) (W0 N B) fun e he => nz e (List.mem_of_mem_take he)
    rw [List.length_take, Nat.min_eq_left (Nat.le_of_lt hm)] at sl
    have wi := W_pow (i := i) g.fits (Nat.le_trans (Nat.le_of_lt hm) iB.few)
    refine ⟨trivial, ?_⟩
    repeat walk_at "k"
    refine e_ixI (by rw [hok.1]; exact hp) ?_
    refine e_mulW (Bd.mulOk (a := 400000) (b := 400000) (show _ < _ from by omega) (show _ < _ from by have := (nz _ hzm).2; omega) (by decide) (by decide) (by decide)) ?_
    repeat walk_at "k"
    refine e_ixI (by rw [hok.1]; exact hp) ?_
    repeat walk_at "k"
    refine z_divisor ?_
    repeat walk_at "k"
    have hgz : (Nat.gcd (kshared (fd.take i)).natAbs (vec fd[i].2 fd[i].1).natAbs : Nat) ≠ 0 := fun q => s0 (by have := Nat.eq_zero_of_gcd_eq_zero_left q; omega)
    have hgl : Nat.gcd (kshared (fd.take i)).natAbs (vec fd[i].2 fd[i].1).natAbs ≤ W0 N B := Nat.le_trans (Nat.gcd_le_right _ (by have := (nz _ hzm).1; omega)) (nz _ hzm).2
    refine e_fdivW ⟨by omega, log_9000 (by rw [Int.natAbs_natCast]; exact Nat.lt_of_le_of_lt hgl wk.2.2)⟩ ?_
    repeat walk_at "k"
    refine nx _ _ ⟨rfl, some (.int (fd[i].1 : Int)), some (.lst (fd[i].2.map .int)), ?_⟩
    rw [kshared_take hm]
    rfl
  · rintro δ c' ⟨rfl, v5, v6, rfl⟩
    refine ⟨trivial, ?_⟩
    rw [List.length_map, List.take_length]
    repeat walk_at "k"
    refine ⟨⟨by omega, by have := g.w9; omega⟩, ?_⟩
    have hw : (w : Int).toNat = w := by omega
    rw [hw]
    have ks := kshared_ok fd (W0 N B) nz
    have wN := W_pow (i := fd.length) g.fits iB.few
    generalize hsh : kshared fd = sh at *
    refine for_at (fun i δ c' => ∃ (L : SH) (kz : List Nat) (v5 v6 v7 v8 : Option D), c' = c ++ .lst (kz.map .obj) :: L ∧ (∀ k ∈ kz, c.length < k ∧ ∃ ys, c'[k]? = some (.lst ys)) ∧ kz.length ≤ i ∧ δ = [some d, some (.int (w : Int)), some (.dic (fdD fd)), some (.obj c.length), some (.int sh), v5, v6, v7, v8]) _ ?_ ?_ ⟨[], [], _, _, _, _, rfl, nofun, Nat.le_refl _, rfl⟩
    · rintro i y hy δ c' e' ⟨L, kz, v5, v6, v7, v8, hc, hks, hkl, rfl⟩ nx ct _ _ _
      unfold rngD at hy
      rw [List.getElem?_map] at hy
      obtain ⟨z, hz, rfl⟩ := Option.map_eq_some_iff.mp hy
      obtain ⟨hi, rfl⟩ := List.getElem?_eq_some_iff.mp hz
      have hiw : i < w := by simpa using hi
      rw [List.getElem_range, Int.zero_add]
      refine ⟨trivial, ?_⟩
      repeat walk_at "k"
      refine e_inKI ?_
      rw [val_fd]
      repeat walk_at "k"
      have hr1 : List.range (i + 1) = List.range i ++ [i] := List.range_succ
      by_cases hmem : i ∈ fd.map (·.1)
      · rw [decide_eq_true hmem]
        refine e_ifF ?_
        repeat walk_at "k"
        exact nx _ _ ⟨L, kz, _, _, _, _, hc, hks, by omega, rfl⟩
      · rw [decide_eq_false hmem]
        refine e_ifT ?_
        repeat walk_at "k"
        refine .inl ⟨⟨by omega, by have := g.w9; omega⟩, ?_⟩
        have erep : (List.replicate (w : Int).toNat [D.int 0]).flatten = (List.replicate w (0 : Int)).map .int := by
          rw [hw, List.map_replicate]
          exact rep_flat w
        rw [erep]
        refine ⟨by rw [List.length_map, List.length_replicate]; exact Nat.le_of_lt (lt_sz g.w9), e_ifT ?_⟩
        repeat walk_at "k"
        refine e_vset (by rw [List.length_replicate]; exact hiw) ?_
        repeat walk_at "k"
        rw [items]
        have hne : ∀ e ∈ fd, e.1 ≠ i := fun e he q => hmem (List.mem_map.mpr ⟨e, he, q⟩)
        refine for_at (fun m δ c2 => c2 = c' ++ [.lst (((fd.take m).foldl (fun l e => l.set e.1 (kval sh i e)) ((List.replicate w 0).set i sh)).map .int)] ∧ ∃ v5 v6, δ = [some d, some (.int (w : Int)), some (.dic (fdD fd)), some (.obj c.length), some (.int sh), v5, v6, some (.int (i : Int)), some (.obj c'.length)]) _ ?_ ?_ ⟨rfl, _, _, rfl⟩
        · rintro m y hy δ c2 e2 ⟨rfl, u5, u6, rfl⟩ nx2 _ _ _ _
          rw [List.getElem?_map] at hy
          obtain ⟨z, hz, rfl⟩ := Option.map_eq_some_iff.mp hy
          obtain ⟨hm, rfl⟩ := List.getElem?_eq_some_iff.mp hz
          have hzm : fd[m] ∈ fd := List.getElem_mem hm
          have hok := iB.ok _ hzm
          have hp := hI.lt _ hzm
          have hlen : ((fd.take m).foldl (fun l e => l.set e.1 (kval sh i e)) ((List.replicate w 0).set i sh)).length = w := (kraw_ok (s := sh) (f := i) (fd.take m) _ (by simp) (fun e he => hI.lt e (List.mem_of_mem_take he)) (by rw [List.map_take]; exact hI.nd.sublist (List.take_sublist _ _))).1
          have hsb : (sh.fdiv (vec fd[m].2 fd[m].1)).natAbs < 2 ^ 400000 := by
            have e := fdiv_exact (nz _ hzm).1 (ks.2.1 _ hzm)
            have e2 := congrArg Int.natAbs e
            rw [Int.natAbs_mul] at e2
            have h1 : (sh.fdiv (vec fd[m].2 fd[m].1)).natAbs ≤ sh.natAbs := by
              rw [← e2]
              exact Nat.le_mul_of_pos_left _ (by have := (nz _ hzm).1; omega)
            have h2 := ks.2.2
            omega
          have hfb : (vec fd[m].2 i).natAbs < 2 ^ 400000 := by
            have := hok.2 i
            omega
          refine ⟨trivial, ?_⟩
          repeat walk_at "k"
          refine e_ixI (by rw [hok.1]; exact hiw) ?_
          repeat walk_at "k"
          refine e_ixI (by rw [hok.1]; exact hp) ?_
          refine e_fdivW ⟨(nz _ hzm).1, log_9000 (Nat.lt_of_le_of_lt (nz _ hzm).2 wk.2.2)⟩ ?_
          refine e_mulW (Bd.mulOk (a := 400000) (b := 400000) (show _ < _ from by rw [Int.natAbs_neg]; exact hfb) hsb (by decide) (by decide) (by decide)) ?_
          repeat walk_at "k"
          refine e_vset (by rw [hlen]; exact hp) ?_
          refine nx2 _ _ ⟨?_, some (.int (fd[m].1 : Int)), some (.lst (fd[m].2.map .int)), rfl⟩
          rw [List.take_succ_eq_append_getElem hm, List.foldl_append]
          rfl
        · rintro δ c2 ⟨rfl, u5, u6, rfl⟩
          refine ⟨trivial, ?_⟩
          rw [List.length_map, List.take_length]
          repeat walk_at "k"
          have hkr := kraw_ok (s := sh) (f := i) fd ((List.replicate w 0).set i sh) (by simp) hI.lt hI.nd
          generalize hu : fd.foldl (fun l e => l.set e.1 (kval sh i e)) ((List.replicate w 0).set i sh) = u at *
          have hub : gcdL u < 2 ^ 9000 := by
            have hle : ∀ j, (vec u j).natAbs ≤ W0 N B ^ fd.length * W0 N B := fun j => by
              by_cases hj : ∃ e ∈ fd, e.1 = j
              · obtain ⟨e, he, rfl⟩ := hj
                rw [hkr.2.1 e he]
                unfold kval
                rw [Int.natAbs_mul, Int.natAbs_neg, Nat.mul_comm]
                have e1 := congrArg Int.natAbs (fdiv_exact (nz e he).1 (ks.2.1 e he))
                rw [Int.natAbs_mul] at e1
                have e2 : (sh.fdiv (vec e.2 e.1)).natAbs ≤ sh.natAbs := by
                  rw [← e1]
                  exact Nat.le_mul_of_pos_left _ (by have := (nz e he).1; omega)
                exact Nat.mul_le_mul (Nat.le_trans e2 ks.2.2) ((iB.ok e he).2 i)
              · rw [hkr.2.2 j fun e he q => hj ⟨e, he, q⟩]
                rw [vec_set (by rw [List.length_replicate]; exact hiw)]
                split
                · exact Nat.le_trans ks.2.2 (Nat.le_mul_of_pos_right _ wk.2.1)
                · rw [vec_rep]
                  exact Nat.zero_le _
            have top : W0 N B ^ fd.length * W0 N B < 2 ^ 9000 := by
              have f := g.fits
              have h1 : W0 N B ^ fd.length ≤ (2 * W0 N B) ^ N := Nat.le_trans (Nat.pow_le_pow_left (by omega) _) (Nat.pow_le_pow_right (by have := wk.2.1; omega) iB.few)
              have hB : 0 < B := by
                have := f.one
                cases B with
                | zero => simp at this
                | succ B => omega
              have h2 : (2 * W0 N B) ^ N ≤ B * (2 * W0 N B) ^ N := Nat.le_mul_of_pos_left _ hB
              have h3 := Nat.mul_le_mul_right (W0 N B) (Nat.le_trans h1 h2)
              have h4 : 2 * ((B * (2 * W0 N B) ^ N) * W0 N B) < 2 ^ 9000 := f.top
              omega
            exact Nat.lt_of_le_of_lt (gcdL_le hle) top
          have hv0 : (c' ++ [SO.lst (u.map D.int)])[c.length]? = some (.lst (kz.map .obj)) := by
            rw [hc, List.append_assoc, List.getElem?_append_right (Nat.le_refl _), Nat.sub_self]
            rfl
          have hview : view (c' ++ [SO.lst (u.map D.int)]) (.obj c.length) = .lst (kz.map .obj) := by
            unfold view
            dsimp only
            rw [hv0]
          have hviewU : view (c' ++ [SO.lst (u.map D.int)]) (.obj c'.length) = .lst (u.map D.int) := by
            unfold view
            dsimp only
            rw [List.getElem?_append_right (Nat.le_refl _), Nat.sub_self]
            rfl
          refine ⟨by rw [hview]; rfl, ?_⟩
          repeat walk_at "k"
          refine z_uprightO (.inr hviewU) hub (by rw [hkr.1]; exact g.w9) ?_
          repeat walk_at "k"
          have hv1 : ((c' ++ [SO.lst (u.map D.int)]) ++ [SO.lst ((upr u).map D.int)])[c.length]? = some (.lst (kz.map .obj)) := by
            rw [List.getElem?_append_left (getElem_last hv0), hv0]
          unfold appendD oneD liveL
          dsimp only
          rw [hv1]
          have hlc : c.length < c'.length := by
            rw [hc, List.length_append, List.length_cons]
            omega
          refine ⟨by rw [List.length_map]; exact lt_sz (by have := g.w9; omega), nx _ _ ⟨L ++ [SO.lst (u.map D.int)] ++ [SO.lst ((upr u).map D.int)], kz ++ [(c' ++ [SO.lst (u.map D.int)]).length], _, _, _, _, ?_, ?_, by rw [List.length_append]; simp; omega, rfl⟩⟩
          · rw [hc, List.append_assoc, List.append_assoc, List.set_append_right _ _ (Nat.le_refl _), Nat.sub_self]
            simp
          · intro k hk
            rcases List.mem_append.mp hk with hk | hk
            · obtain ⟨k1, ys, k2⟩ := hks k hk
              refine ⟨k1, ys, ?_⟩
              rw [List.getElem?_set_ne (by omega), List.append_assoc, List.getElem?_append_left (getElem_last k2), k2]
            · rw [List.mem_singleton.mp hk]
              refine ⟨by rw [List.length_append]; omega, (upr u).map .int, ?_⟩
              rw [List.getElem?_set_ne (by rw [List.length_append]; omega), List.getElem?_append_right (Nat.le_refl _), Nat.sub_self]
              rfl
    · rintro δ c' ⟨L, kz, v5, v6, v7, v8, hc, hks, hkl, rfl⟩
      refine ⟨trivial, ?_⟩
      repeat walk_at "k"
      refine Or.inl ?_
      rw [hc] at hks ⊢
      exact q _ kz hks rfl
end K14
set_option Elab.async false
set_option linter.all false
set_option maxRecDepth 100000
set_option maxHeartbeats 3900000
namespace K14
open PySem PySem.Spec PyProof.Rows L2 G M
set_option synthInstance.maxHeartbeats 0
set_option synthInstance.maxSize 1000000
local macro_rules | `(tactic| walk_at "s") => `(tactic| exact Ok.ok)
local macro_rules | `(tactic| walk_at "g") => `(tactic| first
  | (with_reducible refine' w_seq ?_)
  | ((with_reducible refine' w_var ?h ?_); (case h => exact rfl))
  | (with_reducible refine' w_c ?_)
  | (with_reducible refine' w_op ?_)
  | (with_reducible refine' w_asg ?_)
  | (with_reducible refine' w_gname ?_)
  | (with_reducible refine' w_ifS ?_)
  | (with_reducible refine' w_test ?_)
  | (with_reducible refine' w_bl ?_)
  | (with_reducible refine' w_CB ?_)
  | (with_reducible refine' w_cons ?_)
  | (with_reducible refine' w_nil ?_)
  | (with_reducible refine' w_call ?_)
  | (with_reducible refine' w_ret ?_)
  | (with_reducible refine' w_drop ?_)
  | (with_reducible refine' w_next ?_)
  | (with_reducible refine' w_and ?_)
  | (with_reducible refine' w_or ?_)
  | (with_reducible refine' w_not ?_)
  | (with_reducible refine' w_andV ?_)
  | (with_reducible refine' w_orV ?_)
  | (with_reducible refine' w_notV ?_)
  | (with_reducible refine' w_if ?_)
  | (with_reducible refine' w_chain ?_)
  | (with_reducible refine' w_B ?_)
  | (with_reducible refine' w_un ?_)
  | (with_reducible refine' w_lst ?_)
  | (with_reducible refine' w_tup ?_)
  | (with_reducible refine' w_gsub ?_)
  | (with_reducible refine' w_par ?_)
  | (with_reducible refine' w_two ?_)
  | (with_reducible refine' w_sl ?_)
  | (with_reducible refine' w_retN ?_)
  | (with_reducible refine' w_yes ?_)
  | (with_reducible refine' w_m1 ?_)
  | (with_reducible refine' w_pair0 ?_)
  | (with_reducible refine' w_pair1 ?_)
  | (with_reducible refine' c_reprB ?_)
  | (with_reducible refine' w_noPart ?_)
  | (with_reducible refine' w_part ?_)
  | (with_reducible refine' w_isI ?_)
  | (with_reducible refine' w_make ?_)
  | (with_reducible refine' w_sfld ?_)
  | (with_reducible refine' w_fld ?_)
  | (with_reducible refine' w_lc ?_)
  | (with_reducible refine' w_for ?_)
  | (with_reducible refine' w_iR1 ?_)
  | (with_reducible refine' w_iR2 ?_)
  | ((with_reducible refine' w_lcW ?h ?_); (case h => exact rfl))
  | (with_reducible refine' m_strT ?_)
  | (with_reducible refine' w_bm0 ?_)
  | (with_reducible refine' w_bm ?_)
  | (with_reducible refine' m_str ?_)
  | (with_reducible refine' m_s0 ?_)
  | ((with_reducible refine' m_lst ?h ?_); (case h => first | assumption | exact SqL.of upd_same | exact SqL.of (by assumption)))
  | (with_reducible refine' a_addI ?_)
  | (with_reducible refine' a_I0 ?_)
  | ((with_reducible refine' a_mulI ?h ?_); (case h => first | exact .inl ⟨by decide, by decide⟩ | exact .inr ⟨by decide, by decide⟩ | exact .inl ⟨by omega, by omega⟩ | exact .inr ⟨by omega, by omega⟩))
  | ((with_reducible refine' a_fdiv ?h ?_); (case h => first | exact ⟨by decide, by decide⟩ | exact ⟨by omega, by omega⟩))
  | ((with_reducible refine' a_mod ?h ?_); (case h => first | decide | omega))
  | ((with_reducible refine' a_pow ?h ?_); (case h => first | exact ⟨by decide, by decide, by decide⟩ | exact ⟨by decide, by decide, by omega⟩))
  | (with_reducible refine' a_neg ?_)
  | (with_reducible refine' a_ltI ?_)
  | (with_reducible refine' a_leI ?_)
  | (with_reducible refine' a_gtI ?_)
  | (with_reducible refine' a_geI ?_)
  | (with_reducible refine' a_ltS ?_)
  | (with_reducible refine' a_eqI ?_)
  | (with_reducible refine' a_eqS ?_)
  | (with_reducible refine' a_neI ?_)
  | (with_reducible refine' a_neS ?_)
  | (with_reducible refine' a_isnotB ?_)
  | (with_reducible refine' a_isB ?_)
  | (with_reducible refine' a_isN ?_)
  | (with_reducible refine' a_isnotN ?_)
  | ((with_reducible refine' a_ixL ?h1 ?h2 ?_); (case h1 => first | assumption | exact upd_same); (case h2 => exact rfl))
  | ((with_reducible refine' a_set ?h1 ?h2 ?_); (case h1 => first | assumption | exact upd_same); (case h2 => exact rfl))
  | (with_reducible refine' c_int ?_)
  | (with_reducible refine' c_intB ?_)
  | (with_reducible refine' c_max ?_)
  | (with_reducible refine' c_min ?_)
  | ((with_reducible refine' a_fdiv ?h ?_); (case h => first | exact ⟨by decide, by decide⟩ | exact ⟨by omega, by omega⟩))
  | (with_reducible refine' iteT ?_)
  | (with_reducible refine' iteF ?_)
  | (with_reducible refine' iteNT ?_)
  | (with_reducible refine' iteNF ?_)
  | (with_reducible refine' w_js ?_)
  | (with_reducible refine' w_jsn ?_)
  | (with_reducible refine' w_fmt ?_)
  | ((with_reducible refine' w_makeL ?h ?_); (case h => exact rfl))
  | (with_reducible refine' w_raiseE ?_)
  | (with_reducible refine' w_getE ?_)
  | ((with_reducible refine' w_callW ?h ?_); (case h => exact rfl))
  | (with_reducible refine' w_cmeth ?_)
  | (with_reducible refine' is_of ?_)
  | ((with_reducible refine' w_lam1 ?h ?_); (case h => assumption)))
theorem old_l_cell {P : Program} {w : World} {K : PySem.W.Frag} {mg : Str → Option Value} {base : Heap} (T : Top P K mg) : FnOk P w K mg base CX0 (1) T.f_l_cell T.fd_l_cell ["_law_script", "_law_k"] (sp_cell K) := by
  refine T.F_l_cell.ok sc_l_cell (fun vs H Q E h => ?_) (fun cdv A outer s H vs Q E hr h => ?_)
  · obtain ⟨a, ns, k, rfl, hS, hl, hk, q⟩ := h
    rfl
  · obtain ⟨a, ns, k, rfl, hS, hl, hk, q⟩ := h
    refine ⟨_, (pss_cons (ps_if (pt_cmpR op_ltU (pv 1) (pe_callB (call_lenU (K := K) rfl) (by rfl) T.m_len PySem.boot_len (pa_cons (pv 0) pa_nil)) (nomark _)) (pss_one (ps_ret (pe_ix (ix_U (K := K) rfl) (pv 0) (pv 1) (fun _ _ => rfl)))) pss_nil)
      (pss_one (ps_ret (pe_op op_addU (pe_op op_mulU pe_int (pv 1)) pe_int)))), ?_⟩
    repeat walk_at "g"
    refine c_lenL hS ?_
    repeat walk_at "g"
    refine iteD (fun h => ?_) (fun h => ?_)
    · repeat walk_at "g"
      rw [List.length_map] at h
      have h1 : k < ns.length := by omega
      refine a_ixLK hS (atI_nat (j := k) (by rw [List.getElem?_map, List.getElem?_eq_getElem h1]; rfl)) ?_
      exact q _
    · repeat walk_at "g"
      exact q _
def m_l_cell {P : Program} {K : PySem.W.Frag} {mg : Str → Option Value} (T : Top P K mg) : Fn := cellF
theorem ok_l_cell {P : Program} {w : World} {K : PySem.W.Frag} {mg : Str → Option Value} {base : Heap} (T : Top P K mg) : FnOk P w K mg base (L2.CX P w) 1 T.f_l_cell T.fd_l_cell ["_law_script", "_law_k"] (SpG K T.tabs (m_l_cell T)) := cell_ok (fn_cx0 (old_l_cell T))
theorem old_l_box {P : Program} {w : World} {K : PySem.W.Frag} {mg : Str → Option Value} {base : Heap} (T : Top P K mg) : FnOk P w K mg base CX0 (1) T.f_l_box T.fd_l_box ["_law_cell_here"] (sp_box) := by
  refine T.F_l_box.ok sc_l_box (fun vs H Q E h => ?_) (fun cdv A outer s H vs Q E hr h => ?_)
  · obtain ⟨c, rfl, q⟩ := h
    rfl
  · obtain ⟨c, rfl, q⟩ := h
    refine ⟨_, (pss_one (ps_ret (pe_lst (pa_cons (pe_callB (call_maxU (K := K) rfl rfl) (by rfl) T.m_max (by decide +kernel) (pa_cons pe_int (pa_cons (pe_op op_sub (pv 0) (pe_op op_powU pe_int pe_int)) pa_nil))) (pa_cons (pe_op op_modU (pe_callTy call_intU (by rfl) T.m_int (by decide +kernel) (pa_cons (pv 0) pa_nil)) pe_int) (pa_cons pe_int pa_nil)))))), ?_⟩
    repeat walk_at "g"
    refine newL_of rfl fun p hp => q p _ hp ⟨_, _, _, rfl, ?_, fmod_lo _ (by decide), fmod_hi _ (by decide), by decide, by decide⟩
    split <;> omega
def m_l_box {P : Program} {K : PySem.W.Frag} {mg : Str → Option Value} (T : Top P K mg) : Fn := boxF
theorem ok_l_box {P : Program} {w : World} {K : PySem.W.Frag} {mg : Str → Option Value} {base : Heap} (T : Top P K mg) : FnOk P w K mg base (L2.CX P w) 1 T.f_l_box T.fd_l_box ["_law_cell_here"] (SpG K T.tabs (m_l_box T)) := box_ok (fn_cx0 (old_l_box T))
theorem old_l_take {P : Program} {w : World} {K : PySem.W.Frag} {mg : Str → Option Value} {base : Heap} (T : Top P K mg) : FnOk P w K mg base CX0 (1) T.f_l_take T.fd_l_take ["_law_box_here", "_law_many"] (sp_take) := by
  refine T.F_l_take.ok sc_l_take (fun vs H Q E h => ?_) (fun cdv A outer s H vs Q E hr h => ?_)
  · obtain ⟨p, m, o, n, rfl, hp, ⟨a, b, c, rfl, ha, hb, hb2, hc, hc2⟩, hn, hm, hm2, q⟩ := h
    rfl
  · obtain ⟨p, m, o, n, rfl, hp, ⟨a, b, c, rfl, ha, hb, hb2, hc, hc2⟩, hn, hm, hm2, q⟩ := h
    refine ⟨_, (pss_cons (ps_if (pt_cmpR op_gtU (pe_ix (ix_U (K := K) rfl) (pv 0) pe_int (fun _ _ => rfl)) pe_int (nomark _)) (pss_cons (ps_set (i := 2) sc_l_take.nd rfl (Or.inl rfl) (pe_op op_modU (pe_callTy call_intU (by rfl) T.m_int (by decide +kernel) (pa_cons (pe_ix (ix_U (K := K) rfl) (pv 0) pe_int (fun _ _ => rfl)) pa_nil)) (pv 1)))
      (pss_cons (ps_asg (pe_op op_fdivU (pe_ix (ix_U (K := K) rfl) (pv 0) pe_int (fun _ _ => rfl)) (pv 1)) (pg_sub (pv 0) pe_int set_list))
      (pss_one (ps_ret (pv 2))))) pss_nil)
      (pss_cons (ps_asg (pe_op op_addU (pe_ix (ix_U (K := K) rfl) (pv 0) pe_int (fun _ _ => rfl)) pe_int) (pg_sub (pv 0) pe_int set_list))
      (pss_cons (ps_set (i := 3) sc_l_take.nd rfl (Or.inl rfl) (pe_op op_modU (pe_op op_powU (pe_callTy call_intU (by rfl) T.m_int (by decide +kernel) (pa_cons (pe_op op_addU (pe_op op_addU (pe_ix (ix_U (K := K) rfl) (pv 0) pe_int (fun _ _ => rfl)) (pe_op op_mulU pe_int (pe_ix (ix_U (K := K) rfl) (pv 0) pe_int (fun _ _ => rfl)))) pe_int) pa_nil)) pe_int) pe_int))
      (pss_cons (ps_set (i := 3) sc_l_take.nd rfl (Or.inl rfl) (pe_op op_modU (pe_op op_powU (pe_callTy call_intU (by rfl) T.m_int (by decide +kernel) (pa_cons (pe_op op_addU (pv 3) (pe_op op_mulU pe_int (pe_ix (ix_U (K := K) rfl) (pv 0) pe_int (fun _ _ => rfl)))) pa_nil)) pe_int) pe_int))
      (pss_one (ps_ret (pe_op op_modU (pe_callTy call_intU (by rfl) T.m_int (by decide +kernel) (pa_cons (pe_op op_fdivU (pv 3) pe_int) pa_nil)) (pv 1)))))))), ?_⟩
    repeat walk_at "g"
    refine iteD (fun h => ?_) (fun h => ?_)
    · repeat walk_at "g"
      exact q _ _ (fmod_lo _ hm) (fmod_hi _ hm) ⟨_, _, _, rfl, fdiv_lo ha hm, hb, hb2, hc, by omega⟩
    · repeat walk_at "g"
      have e1 := fmod_lo ((b + 5031 * (c + 1) + 114) ^ Int.toNat 5) (show (0 : Int) < 2147483647 by decide)
      have e2 := fmod_hi ((b + 5031 * (c + 1) + 114) ^ Int.toNat 5) (show (0 : Int) < 2147483647 by decide)
      repeat walk_at "g"
      exact q _ _ (fmod_lo _ hm) (fmod_hi _ hm) ⟨_, _, _, rfl, ha, hb, hb2, by omega, by omega⟩
def m_l_take {P : Program} {K : PySem.W.Frag} {mg : Str → Option Value} (T : Top P K mg) : Fn := takeF
theorem ok_l_take {P : Program} {w : World} {K : PySem.W.Frag} {mg : Str → Option Value} {base : Heap} (T : Top P K mg) : FnOk P w K mg base (L2.CX P w) 1 T.f_l_take T.fd_l_take ["_law_box_here", "_law_many"] (SpG K T.tabs (m_l_take T)) := take_ok (fn_cx0 (old_l_take T))
def m_l_rows {P : Program} {K : PySem.W.Frag} {mg : Str → Option Value} (T : Top P K mg) : Fn := fnD 1 13 (seqM (asgM (opM (addD false) (cM (.int 1)) (callM (m_l_take T) [] (consM (varM 0) (consM (cM (.int 6)) nilM)))) (gnameM 1))
    (seqM (asgM (lstM true nilM) (gnameM 2))
    (seqM (forM (rng1M (consM (callM (m_l_take T) [] (consM (varM 0) (consM (cM (.int 7)) nilM))) nilM)) (gnameM 3) (seqM (asgM (callM (m_l_take T) [] (consM (varM 0) (consM (cM (.int 5)) nilM))) (gnameM 4))
    (seqM (asgM (lcM false (rng1M (consM (varM 1) nilM)) (gnameM 10) yesM (opM ixD (lstM false (consM (opM subD (callM (m_l_take T) [] (consM (varM 0) (consM (cM (.int 5)) nilM))) (cM (.int 2))) (consM (opM subD (callM (m_l_take T) [] (consM (varM 0) (consM (opM (mulD false) (cM (.int 2)) (opM powD (cM (.int 10)) (cM (.int 6)))) nilM))) (opM powD (cM (.int 10)) (cM (.int 6)))) nilM))) (cbM int1D (consM (opM eqD (varM 4) (cM (.int 1))) nilM))) [10]) (gnameM 5))
    (seqM (ifS (andT (testM (opM eqD (varM 4) (cM (.int 0)))) (testM (opM neD (varM 2) (lstM false nilM))))
    (seqM (parM 6 7 (consM (opM ixD (varM 2) (callM (m_l_take T) [] (consM (varM 0) (consM (cbM lenD (consM (varM 2) nilM)) nilM)))) (consM (opM ixD (varM 2) (callM (m_l_take T) [] (consM (varM 0) (consM (cbM lenD (consM (varM 2) nilM)) nilM)))) nilM)))
    (seqM (asgM (tupM (consM (opM subD (callM (m_l_take T) [] (consM (varM 0) (consM (cM (.int 7)) nilM))) (cM (.int 3))) (consM (opM subD (callM (m_l_take T) [] (consM (varM 0) (consM (cM (.int 7)) nilM))) (cM (.int 3))) nilM))) (gtupM (gconsM 8 (gconsM 9 gnilM))))
    (asgM (lcM false (zipM (consM (varM 6) (consM (varM 7) nilM))) (gtupM (gconsM 11 (gconsM 12 gnilM))) yesM (opM (addD false) (opM (mulD false) (varM 8) (varM 11)) (opM (mulD false) (varM 9) (varM 12))) [11, 12]) (gnameM 5))))
    nextM)
    (dropM (bmM "list" appendD (varM 2) (consM (varM 5) nilM)))))))
    (retM (lstM false (consM (varM 1) (consM (frzM (varM 2)) nilM)))))))
theorem ok_l_rows {P : Program} {w : World} {K : PySem.W.Frag} {mg : Str → Option Value} {base : Heap} (T : Top P K mg) : FnOk P w K mg base (L2.CX P w) 2 T.f_l_rows T.fd_l_rows ["_law_box_here"] (SpG K T.tabs (m_l_rows T)) := by
  refine T.F_l_rows.okX sc_l_rows (fun vs H Q E h => fn_len h) (fun cdv A outer s H vs Q E hr h => ?_)
  have tk : Takes _ (fun cls d _ H => E cls d H) := takes_of (E := E) (X := cxOf (L2.CX P w) P w K mg base ["_law_box_here", "_law_width", "_law_found", "_law_k", "_law_way", "_law_row", "_law_one", "_law_other", "_law_a", "_law_b", "_law_place", "_law_x", "_law_y"] "_law_rows" (defScope s_l_rows) T.f_l_rows cdv A outer s H E) rfl rfl rfl rfl
  refine ⟨_, (pss_cons (ps_set (i := 1) sc_l_rows.nd rfl (Or.inl rfl) (pe_op op_addU pe_int (pe_callSD (ok_l_take T) (hr.mono (by decide)) (by rfl) T.g_l_take T.F_l_take.kp T.b_l_take .nil (fun σ => passAt tk σ) (pa_cons (pv 0) (pa_cons pe_int pa_nil)))))
      (pss_cons (ps_set (i := 2) sc_l_rows.nd rfl (Or.inl rfl) (pe_lst pa_nil))
      (pss_cons (ps_for (passes_of rfl) rfl (pi_range1 (by rfl) T.m_range (pa_cons (pe_callSD (ok_l_take T) (hr.mono (by decide)) (by rfl) T.g_l_take T.F_l_take.kp T.b_l_take .nil (fun σ => passAt tk σ) (pa_cons (pv 0) (pa_cons pe_int pa_nil))) pa_nil)) (pg_name (i := 3) sc_l_rows.nd rfl (Or.inl rfl)) (pss_cons (ps_set (i := 4) sc_l_rows.nd rfl (Or.inr rfl) (pe_callSD (ok_l_take T) (hr.mono (by decide)) (by rfl) T.g_l_take T.F_l_take.kp T.b_l_take .nil (fun σ => passAt tk σ) (pa_cons (pv 0) (pa_cons pe_int pa_nil))))
      (pss_cons (ps_setLc (i := 5) (own := [("_law_place", 10)]) (g := gName 10) rfl sc_l_rows.nd rfl rfl (sw_true rfl rfl rfl (by decide +kernel)) (pi_range1 (by rfl) T.m_range (pa_cons (pv 1) pa_nil)) (blkOk_by (own := [("_law_place", 10)]) (N := ["_law_box_here", "_law_width", "_law_found", "_law_k", "_law_way", "_law_row", "_law_one", "_law_other", "_law_a", "_law_b", "_law_place", "_law_x", "_law_y"]) (sc := defScope s_l_rows) (by decide +kernel)) (fun _ _ _ _ _ => (pg_name (i := 10) sc_l_rows.nd rfl (Or.inl rfl))) (fun _ _ _ _ _ => pts_nil) (fun _ _ _ _ _ => (pe_ix (ix_U (K := K) rfl) (pe_lst (pa_cons (pe_op op_sub (pe_callSD (ok_l_take T) (hr.mono (by decide)) (by rfl) T.g_l_take T.F_l_take.kp T.b_l_take .nil (fun σ => passAt takesF σ) (pa_cons (pv 0) (pa_cons pe_int pa_nil))) pe_int) (pa_cons (pe_op op_sub (pe_callSD (ok_l_take T) (hr.mono (by decide)) (by rfl) T.g_l_take T.F_l_take.kp T.b_l_take .nil (fun σ => passAt takesF σ) (pa_cons (pv 0) (pa_cons (pe_op op_mulU pe_int (pe_op op_powU pe_int pe_int)) pa_nil))) (pe_op op_powU pe_int pe_int)) pa_nil))) (pe_callTy call_intU (by rfl) T.m_int (by decide +kernel) (pa_cons (pe_cmpR (op_eqU (K := K) rfl hr.units) (pv 4) pe_int (nomark _)) pa_nil)) (fun _ _ => rfl))))
      (pss_cons (ps_if (PW.pt (pw_and (pt_cmpR (op_eqU (K := K) rfl hr.units) (pv 4) pe_int (nomark _)) (pw_and1 (pt_cmpR (op_neU (K := K) rfl hr.units) (pv 2) (pe_lst pa_nil) (nomark _))))) (pss_cons (ps_par (i := 6) (j := 7) (by rfl) sc_l_rows.nd rfl rfl (by decide) rfl rfl (pa_cons (pe_ix (ix_U (K := K) rfl) (pv 2) (pe_callSD (ok_l_take T) (hr.mono (by decide)) (by rfl) T.g_l_take T.F_l_take.kp T.b_l_take .nil (fun σ => passAt tk σ) (pa_cons (pv 0) (pa_cons (pe_callB (call_lenU (K := K) rfl) (by rfl) T.m_len PySem.boot_len (pa_cons (pv 2) pa_nil)) pa_nil))) (fun _ _ => rfl)) (pa_cons (pe_ix (ix_U (K := K) rfl) (pv 2) (pe_callSD (ok_l_take T) (hr.mono (by decide)) (by rfl) T.g_l_take T.F_l_take.kp T.b_l_take .nil (fun σ => passAt tk σ) (pa_cons (pv 0) (pa_cons (pe_callB (call_lenU (K := K) rfl) (by rfl) T.m_len PySem.boot_len (pa_cons (pv 2) pa_nil)) pa_nil))) (fun _ _ => rfl)) pa_nil)) (by rfl))
      (pss_cons (ps_asg (pe_tup (pa_cons (pe_op op_sub (pe_callSD (ok_l_take T) (hr.mono (by decide)) (by rfl) T.g_l_take T.F_l_take.kp T.b_l_take .nil (fun σ => passAt tk σ) (pa_cons (pv 0) (pa_cons pe_int pa_nil))) pe_int) (pa_cons (pe_op op_sub (pe_callSD (ok_l_take T) (hr.mono (by decide)) (by rfl) T.g_l_take T.F_l_take.kp T.b_l_take .nil (fun σ => passAt tk σ) (pa_cons (pv 0) (pa_cons pe_int pa_nil))) pe_int) pa_nil))) (pg_tupU (K := K) (n := 2) rfl rfl (pgs_cons (pg_name (i := 8) sc_l_rows.nd rfl (Or.inr rfl)) (pgs_cons (pg_name (i := 9) sc_l_rows.nd rfl (Or.inr rfl)) pgs_nil))))
      (pss_one (ps_setLc (i := 5) (own := [("_law_x", 11), ("_law_y", 12)]) (g := gTup K 2 (gCons (gName 11) (gCons (gName 12) gNil))) rfl sc_l_rows.nd rfl rfl (sw_true rfl rfl rfl (by decide +kernel)) (pi_zipU (K := K) rfl (pi_zip (by rfl) T.m_zip (pa_cons (pv 6) (pa_cons (pv 7) pa_nil)))) (blkOk_by (own := [("_law_x", 11), ("_law_y", 12)]) (N := ["_law_box_here", "_law_width", "_law_found", "_law_k", "_law_way", "_law_row", "_law_one", "_law_other", "_law_a", "_law_b", "_law_place", "_law_x", "_law_y"]) (sc := defScope s_l_rows) (by decide +kernel)) (fun _ _ _ _ _ => (pg_tupU (K := K) (n := 2) rfl rfl (pgs_cons (pg_name (i := 11) sc_l_rows.nd rfl (Or.inl rfl)) (pgs_cons (pg_name (i := 12) sc_l_rows.nd rfl (Or.inl rfl)) pgs_nil)))) (fun _ _ _ _ _ => pts_nil) (fun _ _ _ _ _ => (pe_op op_addU (pe_op op_mulU (pv 8) (pv 11)) (pe_op op_mulU (pv 9) (pv 12)))))))) pss_nil)
      (pss_one (ps_expr (pe_bmU (K := K) rfl PySem.F.plainAttrs_list PySem.F.slot_list_append PySem.F.type_list_append mt_append (pv 2) (pa_cons (pv 5) pa_nil))))))))
      (pss_one (ps_ret (pe_lst (pa_cons (pv 1) (pa_cons (pv 2) pa_nil)))))))), fn_ok ?_ h⟩
  clear tk
  repeat walk_at "s"
end K14
set_option Elab.async false
set_option linter.all false
set_option maxRecDepth 100000
set_option maxHeartbeats 3900000
namespace K14
open PySem PySem.Spec PyProof.Rows L2 G M
set_option synthInstance.maxHeartbeats 0
set_option synthInstance.maxSize 1000000
local macro_rules | `(tactic| walk_at "s") => `(tactic| exact Ok.ok)
def m_l_rank {P : Program} {K : PySem.W.Frag} {mg : Str → Option Value} (T : Top P K mg) : Fn := fnD 1 12 (seqM (asgM (tupM (consM (lcM true (itM (varM 0)) (gnameM 1) yesM (cbM (listD false) (consM (varM 1) nilM)) [1]) (consM (cM (.int 1)) (consM (cM (.int 0)) nilM)))) (gtupM (gconsM 2 (gconsM 3 (gconsM 4 gnilM)))))
    (seqM (whileM (testM (opM neD (varM 2) (lstM false nilM))) (seqM (asgM (bmM "list" popAtD (varM 2) (consM (cM (.int 0)) nilM)) (gnameM 1))
    (seqM (asgM (lcM false (rng1M (consM (cbM lenD (consM (varM 1) nilM)) nilM)) (gnameM 8) (testM (opM neD (opM ixD (varM 1) (varM 8)) (cM (.int 0)))) (varM 8) [8]) (gnameM 5))
    (ifS (testM (opM neD (varM 5) (lstM false nilM)))
    (seqM (asgM (tupM (consM (opM ixD (varM 5) (cM (.int 0))) (consM (opM ixD (varM 1) (opM ixD (varM 5) (cM (.int 0)))) nilM))) (gtupM (gconsM 6 (gconsM 7 gnilM))))
    (seqM (asgM (lcM true (itM (varM 2)) (gnameM 9) yesM (lcM false (zipM (consM (varM 9) (consM (varM 1) nilM))) (gtupM (gconsM 10 (gconsM 11 gnilM))) yesM (opM (orD fdivD fdivWD) (opM subD (opM (orD (mulD false) mulWD) (varM 10) (varM 7)) (opM (orD (mulD false) mulWD) (opM ixD (varM 9) (varM 6)) (varM 11))) (varM 3)) [10, 11]) [9]) (gnameM 2))
    (asgM (tupM (consM (varM 7) (consM (opM (addD false) (varM 4) (cM (.int 1))) nilM))) (gtupM (gconsM 3 (gconsM 4 gnilM))))))
    nextM))))
    (retM (varM 4))))
theorem ok_l_rank {P : Program} {w : World} {K : PySem.W.Frag} {mg : Str → Option Value} {base : Heap} (T : Top P K mg) : FnOk P w K mg base (L2.CX P w) 1 T.f_l_rank T.fd_l_rank ["_law_rows_here"] (SpG K T.tabs (m_l_rank T)) := by
  refine T.F_l_rank.okX sc_l_rank (fun vs H Q E h => fn_len h) (fun cdv A outer s H vs Q E hr h => ?_)
  have tk : Takes _ (fun cls d _ H => E cls d H) := takes_of (E := E) (X := cxOf (L2.CX P w) P w K mg base ["_law_rows_here", "_law_row", "_law_left", "_law_before", "_law_found", "_law_places", "_law_at", "_law_lead", "_law_place", "_law_other", "_law_a", "_law_b"] "_law_rank" (defScope s_l_rank) T.f_l_rank cdv A outer s H E) rfl rfl rfl rfl
  refine ⟨_, (pss_cons (ps_asg (pe_tup (pa_cons (pe_lc (own := [("_law_row", 1)]) (g := gName 1) rfl sc_l_rank.nd (pi_V (K := K) rfl (pv 0)) (blkOk_by (own := [("_law_row", 1)]) (N := ["_law_rows_here", "_law_row", "_law_left", "_law_before", "_law_found", "_law_places", "_law_at", "_law_lead", "_law_place", "_law_other", "_law_a", "_law_b"]) (sc := defScope s_l_rank) (by decide +kernel)) (fun _ _ _ _ _ => (pg_name (i := 1) sc_l_rank.nd rfl (Or.inl rfl))) (fun _ _ _ _ _ => pts_nil) (fun _ _ _ _ _ => (pe_callTy (call_listU (K := K) rfl) (by rfl) T.m_list (by decide +kernel) (pa_cons (pv 1) pa_nil)))) (pa_cons pe_int (pa_cons pe_int pa_nil)))) (pg_tupU (K := K) (n := 3) rfl rfl (pgs_cons (pg_name (i := 2) sc_l_rank.nd rfl (Or.inl rfl)) (pgs_cons (pg_name (i := 3) sc_l_rank.nd rfl (Or.inr rfl)) (pgs_cons (pg_name (i := 4) sc_l_rank.nd rfl (Or.inl rfl)) pgs_nil)))))
      (pss_cons (ps_while (passes_of rfl) (pt_cmpR (op_neU (K := K) rfl hr.units) (pv 2) (pe_lst pa_nil) (nomark _)) (pss_cons (ps_set (i := 1) sc_l_rank.nd rfl (Or.inr rfl) (pe_bmU (K := K) rfl PySem.F.plainAttrs_list PySem.F.slot_list_pop PySem.F.type_list_pop mt_popAt (pv 2) (pa_cons pe_int pa_nil)))
      (pss_cons (ps_setLc (i := 5) (own := [("_law_place", 8)]) (g := gName 8) rfl sc_l_rank.nd rfl rfl (sw_true rfl rfl rfl (by decide +kernel)) (pi_range1 (by rfl) T.m_range (pa_cons (pe_callB (call_lenU (K := K) rfl) (by rfl) T.m_len PySem.boot_len (pa_cons (pv 1) pa_nil)) pa_nil)) (blkOk_by (own := [("_law_place", 8)]) (N := ["_law_rows_here", "_law_row", "_law_left", "_law_before", "_law_found", "_law_places", "_law_at", "_law_lead", "_law_place", "_law_other", "_law_a", "_law_b"]) (sc := defScope s_l_rank) (by decide +kernel)) (fun _ _ _ _ _ => (pg_name (i := 8) sc_l_rank.nd rfl (Or.inl rfl))) (fun _ _ _ _ _ => (pts_one (pt_cmpR (op_neU (K := K) rfl hr.units) (pe_ix (ix_U (K := K) rfl) (pv 1) (pv 8) (fun _ _ => rfl)) pe_int (nomark _)))) (fun _ _ _ _ _ => (pv 8)))
      (pss_one (ps_if (pt_cmpR (op_neU (K := K) rfl hr.units) (pv 5) (pe_lst pa_nil) (nomark _)) (pss_cons (ps_asg (pe_tup (pa_cons (pe_ix (ix_U (K := K) rfl) (pv 5) pe_int (fun _ _ => rfl)) (pa_cons (pe_ix (ix_U (K := K) rfl) (pv 1) (pe_ix (ix_U (K := K) rfl) (pv 5) pe_int (fun _ _ => rfl)) (fun _ _ => rfl)) pa_nil))) (pg_tupU (K := K) (n := 2) rfl rfl (pgs_cons (pg_name (i := 6) sc_l_rank.nd rfl (Or.inr rfl)) (pgs_cons (pg_name (i := 7) sc_l_rank.nd rfl (Or.inr rfl)) pgs_nil))))
      (pss_cons (ps_setLc (i := 2) (own := [("_law_other", 9)]) (g := gName 9) rfl sc_l_rank.nd rfl rfl (sw_true rfl rfl rfl (by decide +kernel)) (pi_V (K := K) rfl (pv 2)) (blkOk_by (own := [("_law_other", 9)]) (N := ["_law_rows_here", "_law_row", "_law_left", "_law_before", "_law_found", "_law_places", "_law_at", "_law_lead", "_law_place", "_law_other", "_law_a", "_law_b"]) (sc := defScope s_l_rank) (by decide +kernel)) (fun _ _ _ _ _ => (pg_name (i := 9) sc_l_rank.nd rfl (Or.inr rfl))) (fun _ _ _ _ _ => pts_nil) (fun _ _ _ _ _ => (pe_lc (own := [("_law_a", 10), ("_law_b", 11)]) (g := gTup K 2 (gCons (gName 10) (gCons (gName 11) gNil))) rfl sc_l_rank.nd (pi_zipU (K := K) rfl (pi_zip (by rfl) T.m_zip (pa_cons (pv 9) (pa_cons (pv 1) pa_nil)))) (blkOk_by (own := [("_law_a", 10), ("_law_b", 11)]) (N := ["_law_rows_here", "_law_row", "_law_left", "_law_before", "_law_found", "_law_places", "_law_at", "_law_lead", "_law_place", "_law_other", "_law_a", "_law_b"]) (sc := (relS { kind := PySem.ScopeKind.function, names := [(PySem.Str.ofString ".0", PySem.NameKind.local), (PySem.Str.ofString "_law_other", PySem.NameKind.cell), (PySem.Str.ofString "zip", PySem.NameKind.globalImplicit), (PySem.Str.ofString "_law_at", PySem.NameKind.free), (PySem.Str.ofString "_law_before", PySem.NameKind.free), (PySem.Str.ofString "_law_lead", PySem.NameKind.free), (PySem.Str.ofString "_law_row", PySem.NameKind.free)], isGenerator := false, isCoroutine := false } (defScope s_l_rank))) (by decide +kernel)) (fun _ _ _ _ _ => (pg_tupU (K := K) (n := 2) rfl rfl (pgs_cons (pg_name (i := 10) sc_l_rank.nd rfl (Or.inl rfl)) (pgs_cons (pg_name (i := 11) sc_l_rank.nd rfl (Or.inl rfl)) pgs_nil)))) (fun _ _ _ _ _ => pts_nil) (fun _ _ _ _ _ => (pe_op (op_fdivU.or op_fdivX) (pe_op op_sub (pe_op (op_mulU.or op_mulW) (pv 10) (pv 7)) (pe_op (op_mulU.or op_mulW) (pe_ix (ix_U (K := K) rfl) (pv 9) (pv 6) (fun _ _ => rfl)) (pv 11))) (pv 3))))))
      (pss_one (ps_asg (pe_tup (pa_cons (pv 7) (pa_cons (pe_op op_addU (pv 4) pe_int) pa_nil))) (pg_tupU (K := K) (n := 2) rfl rfl (pgs_cons (pg_name (i := 3) sc_l_rank.nd rfl (Or.inr rfl)) (pgs_cons (pg_name (i := 4) sc_l_rank.nd rfl (Or.inl rfl)) pgs_nil))))))) pss_nil)))))
      (pss_one (ps_ret (pv 4))))), fn_ok ?_ h⟩
  clear tk
  repeat walk_at "s"
def m_l_divisor {P : Program} {K : PySem.W.Frag} {mg : Str → Option Value} (T : Top P K mg) : Fn := fnD 1 5 (seqM (asgM (cM (.int 0)) (gnameM 1))
    (seqM (forM (itM (varM 0)) (gnameM 2) (seqM (parM 3 4 (consM (varM 1) (consM (cbM absD (consM (varM 2) nilM)) nilM)))
    (seqM (whileM (testM (opM gtD (varM 4) (cM (.int 0)))) (parM 3 4 (consM (varM 4) (consM (opM (orD modD modWD) (cbM int1D (consM (varM 3) nilM)) (varM 4)) nilM))))
    (asgM (varM 3) (gnameM 1)))))
    (retM (varM 1))))
theorem ok_l_divisor {P : Program} {w : World} {K : PySem.W.Frag} {mg : Str → Option Value} {base : Heap} (T : Top P K mg) : FnOk P w K mg base (L2.CX P w) 1 T.f_l_divisor T.fd_l_divisor ["_law_row"] (SpG K T.tabs (m_l_divisor T)) := by
  refine T.F_l_divisor.okX sc_l_divisor (fun vs H Q E h => fn_len h) (fun cdv A outer s H vs Q E hr h => ?_)
  have tk : Takes _ (fun cls d _ H => E cls d H) := takes_of (E := E) (X := cxOf (L2.CX P w) P w K mg base ["_law_row", "_law_found", "_law_number", "_law_one", "_law_other"] "_law_divisor" (defScope s_l_divisor) T.f_l_divisor cdv A outer s H E) rfl rfl rfl rfl
  refine ⟨_, (pss_cons (ps_set (i := 1) sc_l_divisor.nd rfl (Or.inl rfl) pe_int)
      (pss_cons (ps_for (passes_of rfl) rfl (pi_V (K := K) rfl (pv 0)) (pg_name (i := 2) sc_l_divisor.nd rfl (Or.inl rfl)) (pss_cons (ps_par (i := 3) (j := 4) (by rfl) sc_l_divisor.nd rfl rfl (by decide) rfl rfl (pa_cons (pv 1) (pa_cons (pe_callB call_absI (by rfl) T.m_abs (by decide +kernel) (pa_cons (pv 2) pa_nil)) pa_nil)) (by rfl))
      (pss_cons (ps_while (passes_of rfl) (pt_cmpR op_gtU (pv 4) pe_int (nomark _)) (pss_one (ps_par (i := 3) (j := 4) (by rfl) sc_l_divisor.nd rfl rfl (by decide) rfl rfl (pa_cons (pv 4) (pa_cons (pe_op (op_modU.or op_modX) (pe_callTy call_intU (by rfl) T.m_int (by decide +kernel) (pa_cons (pv 3) pa_nil)) (pv 4)) pa_nil)) (by rfl))))
      (pss_one (ps_set (i := 1) sc_l_divisor.nd rfl (Or.inl rfl) (pv 3))))))
      (pss_one (ps_ret (pv 1))))), fn_ok ?_ h⟩
  clear tk
  repeat walk_at "s"
def m_l_upright {P : Program} {K : PySem.W.Frag} {mg : Str → Option Value} (T : Top P K mg) : Fn := fnD 1 3 (seqM (asgM (slM (slD false) (lcM false (itM (varM 0)) (gnameM 2) (testM (opM neD (varM 2) (cM (.int 0)))) (varM 2) [2]) noPartM (partM (cM (.int 1)))) (gnameM 1))
    (retM (andM (opM neD (varM 1) (lstM false nilM)) (andM (opM gtD (opM ixD (varM 1) (cM (.int 0))) (cM (.int 0))) (opM eqD (callM (m_l_divisor T) [] (consM (varM 0) nilM)) (cM (.int 1)))))))
theorem ok_l_upright {P : Program} {w : World} {K : PySem.W.Frag} {mg : Str → Option Value} {base : Heap} (T : Top P K mg) : FnOk P w K mg base (L2.CX P w) 2 T.f_l_upright T.fd_l_upright ["_law_vector"] (SpG K T.tabs (m_l_upright T)) := by
  refine T.F_l_upright.okX sc_l_upright (fun vs H Q E h => fn_len h) (fun cdv A outer s H vs Q E hr h => ?_)
  have tk : Takes _ (fun cls d _ H => E cls d H) := takes_of (E := E) (X := cxOf (L2.CX P w) P w K mg base ["_law_vector", "_law_first", "_law_number"] "_law_upright" (defScope s_l_upright) T.f_l_upright cdv A outer s H E) rfl rfl rfl rfl
  refine ⟨_, (pss_cons (ps_set (i := 1) sc_l_upright.nd rfl (Or.inl rfl) (pe_slice (sl_U (K := K) rfl) (pe_lc (own := [("_law_number", 2)]) (g := gName 2) rfl sc_l_upright.nd (pi_V (K := K) rfl (pv 0)) (blkOk_by (own := [("_law_number", 2)]) (N := ["_law_vector", "_law_first", "_law_number"]) (sc := defScope s_l_upright) (by decide +kernel)) (fun _ _ _ _ _ => (pg_name (i := 2) sc_l_upright.nd rfl (Or.inl rfl))) (fun _ _ _ _ _ => (pts_one (pt_cmpR (op_neU (K := K) rfl hr.units) (pv 2) pe_int (nomark _)))) (fun _ _ _ _ _ => (pv 2))) po_none (po_some pe_int)))
      (pss_one (ps_ret (pe_and (pe_cmpR (op_neU (K := K) rfl hr.units) (pv 1) (pe_lst pa_nil) (nomark _)) (pe_and (pe_cmpR op_gtU (pe_ix (ix_U (K := K) rfl) (pv 1) pe_int (fun _ _ => rfl)) pe_int (nomark _)) (pe_one (pe_cmpR (op_eqU (K := K) rfl hr.units) (pe_callSD (ok_l_divisor T) (hr.mono (by decide)) (by rfl) T.g_l_divisor T.F_l_divisor.kp T.b_l_divisor .nil (fun σ => passAt tk σ) (pa_cons (pv 0) pa_nil)) pe_int (nomark _)))))))), fn_ok ?_ h⟩
  clear tk
  repeat walk_at "s"
end K14
set_option Elab.async false
set_option linter.all false
set_option maxRecDepth 100000
set_option maxHeartbeats 600000
namespace K14
open PySem PySem.Spec PyProof.Rows L2 G M Lin
local macro_rules | `(tactic| walk_at "m") => `(tactic| first
  | (with_reducible refine' e_seq ?_)
  | ((with_reducible refine' e_var ?h ?_); (case h => exact rfl))
  | (with_reducible refine' e_c ?_)
  | (with_reducible refine' e_op ?_)
  | (with_reducible refine' e_asg ?_)
  | (with_reducible refine' e_gname ?_)
  | (with_reducible refine' e_ifS ?_)
  | (with_reducible refine' e_test ?_)
  | (with_reducible refine' e_bl ?_)
  | (with_reducible refine' e_cb ?_)
  | (with_reducible refine' e_cons ?_)
  | (with_reducible refine' e_nil ?_)
  | (with_reducible refine' e_call ?_)
  | (with_reducible refine' e_ret ?_)
  | (with_reducible refine' e_drop ?_)
  | (with_reducible refine' e_next ?_)
  | (with_reducible refine' e_andT ?_)
  | (with_reducible refine' e_orT ?_)
  | (with_reducible refine' e_notT ?_)
  | (with_reducible refine' e_andM ?_)
  | (with_reducible refine' e_orM ?_)
  | (with_reducible refine' e_notM ?_)
  | (with_reducible refine' e_ifM ?_)
  | (with_reducible refine' e_chain ?_)
  | (with_reducible refine' e_un ?_)
  | (with_reducible refine' e_lst ?_)
  | (with_reducible refine' e_lstO ?_)
  | (with_reducible refine' e_tup ?_)
  | (with_reducible refine' e_par ?_)
  | (with_reducible refine' e_raise ?_)
  | (with_reducible refine' e_for ?_)
  | (with_reducible refine' e_meth ?_)
  | (with_reducible refine' e_prop ?_)
  | (with_reducible refine' e_make ?_)
  | (with_reducible refine' e_fld ?_)
  | (with_reducible refine' e_sfld ?_)
  | (with_reducible refine' e_noPart ?_)
  | (with_reducible refine' e_part ?_)
  | (with_reducible refine' e_int ?_)
  | (with_reducible refine' e_sl ?_)
  | (with_reducible refine' e_bm ?_)
  | (with_reducible refine' e_bm0 ?_)
  | (with_reducible refine' e_m1 ?_)
  | (with_reducible refine' e_it ?_)
  | (with_reducible refine' e_rng1 ?_)
  | (with_reducible refine' e_lc ?_)
  | (with_reducible refine' e_caught ?_)
  | (with_reducible refine' e_two ?_)
  | (with_reducible refine' e_one ?_)
  | (with_reducible refine' e_ifT ?_)
  | (with_reducible refine' e_ifF ?_)
  | (with_reducible refine' e_ifNT ?_)
  | (with_reducible refine' e_ifNF ?_)
  | (with_reducible refine' e_yes ?_)
  | (with_reducible refine' e_turn ?_)
  | (with_reducible refine' e_js ?_)
  | (with_reducible refine' e_jsc ?_)
  | (with_reducible refine' e_jsn ?_)
  | (with_reducible refine' e_fmt ?_)
  | (with_reducible refine' e_leI ?_)
  | (with_reducible refine' e_ltI ?_)
  | (with_reducible refine' e_gtI ?_)
  | (with_reducible refine' e_geI ?_)
  | (with_reducible refine' e_ltS ?_)
  | (with_reducible refine' e_eqI ?_)
  | (with_reducible refine' e_eqS ?_)
  | (with_reducible refine' e_neI ?_)
  | (with_reducible refine' e_neS ?_)
  | (with_reducible refine' e_neB ?_)
  | (with_reducible refine' e_isB ?_)
  | (with_reducible refine' e_isntB ?_)
  | (with_reducible refine' e_addI ?_)
  | (with_reducible refine' e_subI ?_)
  | (with_reducible refine' e_int1 ?_)
  | (with_reducible refine' e_max2 ?_)
  | (with_reducible refine' e_min2 ?_)
  | (with_reducible refine' e_lenL ?_)
  | (with_reducible refine' e_lenT ?_)
  | (with_reducible refine' e_lenR ?_)
  | (with_reducible refine' e_modI (by decide) ?_))
set_option synthInstance.maxHeartbeats 0
set_option synthInstance.maxSize 100000
local macro_rules | `(tactic| walk_at "k") => `(tactic| first
  | refine wgo ?_
  | ((with_reducible refine' e_var ?h ?_); (case h => exact rfl))
  | (with_reducible refine' e_gname ?_)
  | (with_reducible refine' e_modI (by decide) ?_)
  | ((with_reducible refine' e_sz ?h ?_); (case h => exact rfl)))
variable {P : Program} {K : PySem.W.Frag} {mg : Str → Option Value} {T : Top P K mg} {c : SH} {Ψ : XD} {Φ : QD}
theorem cut_take {α : Type} (f : α → D) (xs : List α) (k : Nat) : M.cutD (xs.map f) none (some (k : Int)) = (xs.take k).map f := by
  have e : HT.sIx (xs.map f).length (xs.map f).length (some (k : Int)) = min k (xs.map f).length := by
    show (if (k : Int) < 0 then ((k : Int) + ((xs.map f).length : Int)).toNat else min (k : Int).toNat (xs.map f).length) = _
    rw [if_neg (by omega), Int.toNat_natCast]
  unfold M.cutD
  simp only [HT.sIx_none, e, List.drop_zero, Nat.sub_zero]
  rw [← List.take_take, List.take_length, List.map_take]
theorem z_ldivisor {r : List Int} (q : Φ (.int (gcdL r : Nat)) c) : m_l_divisor T [.lst (r.map .int)] c Ψ Φ := by
  refine e_fn (δ := [some _, none, none, none, none]) rfl rfl ?_
  repeat walk_at "k"
  refine for_at (fun i δ c' => c' = c ∧ ∃ v2 v3 v4, δ = [some (.lst (r.map .int)), some (.int (gcdL (r.take i) : Nat)), v2, v3, v4]) _ ?_ ?_ ⟨rfl, _, _, _, rfl⟩
  · rintro k x hx δ c' e' ⟨rfl, v2, v3, v4, rfl⟩ nx _ _ _ _
    rw [List.getElem?_map] at hx
    obtain ⟨z, hz, rfl⟩ := Option.map_eq_some_iff.mp hx
    obtain ⟨hk, rfl⟩ := List.getElem?_eq_some_iff.mp hz
    refine ⟨rfl, ?_⟩
    repeat walk_at "k"
    have e : (if r[k] < 0 then -r[k] else r[k]) = (r[k].natAbs : Int) := by
      split <;> omega
    rw [e]
    refine ⟨fun m δ c2 => ∃ x y : Nat, m = y ∧ δ = [some (.lst (r.map .int)), some (.int (gcdL (r.take k) : Nat)), some (.int r[k]), some (.int x), some (.int y)] ∧ c2 = c' ∧ Nat.gcd x y = gcdL (r.take (k + 1)), ⟨_, _, _, rfl, rfl, rfl, (gcd_take r k hk).symm⟩, ?_⟩
    rintro m δ c2 ⟨x, y, rfl, rfl, rfl, hg⟩
    repeat walk_at "k"
    by_cases hy : 0 < (m : Int)
    · rw [if_pos (decide_eq_true hy)]
      repeat walk_at "k"
      refine e_modW (by omega) ?_
      have e2 : (x : Int).fmod (m : Int) = ((x % m : Nat) : Int) := by
        rw [Int.fmod_eq_emod_of_nonneg _ (by omega)]
        exact (Int.natCast_emod x m).symm
      rw [e2]
      repeat walk_at "k"
      refine ⟨x % m, Nat.mod_lt _ (by omega), m, x % m, rfl, rfl, rfl, ?_⟩
      exact (Nat.gcd_comm _ _).trans ((Nat.gcd_rec m x).symm.trans ((Nat.gcd_comm m x).trans hg))
    · rw [if_neg (by rw [decide_eq_true_eq]; exact hy)]
      have hy0 : m = 0 := by omega
      subst hy0
      rw [Nat.gcd_zero_right] at hg
      subst hg
      repeat walk_at "k"
      exact nx _ _ ⟨rfl, _, _, _, rfl⟩
  · rintro δ c' ⟨rfl, v2, v3, v4, rfl⟩
    refine ⟨rfl, ?_⟩
    rw [List.length_map, List.take_length]
    repeat walk_at "k"
    exact e_clo q
theorem filter_first : ∀ (v : List Int) (i : Nat), fstNz v = some i → ∃ rest, v.filter (fun x => decide (x ≠ 0)) = vec v i :: rest
  | [], _, h => by simp [fstNz] at h
  | x :: v, i, h => by
    by_cases hx : x = 0
    · unfold fstNz at h
      rw [List.findIdx?_cons, hx] at h
      simp only [ne_eq, not_true_eq_false, decide_false] at h
      cases hv : v.findIdx? (· ≠ 0) with
      | none =>
        rw [show (List.findIdx? (fun x => decide ¬x = 0) v) = none from hv] at h
        cases h
      | some j =>
        rw [show (List.findIdx? (fun x => decide ¬x = 0) v) = some j from hv] at h
        have e : j + 1 = i := by simpa using h
        obtain ⟨rest, hr⟩ := filter_first v j hv
        refine ⟨rest, ?_⟩
        rw [List.filter_cons_of_neg (by simpa using hx), hr, ← e]
        rfl
    · unfold fstNz at h
      rw [List.findIdx?_cons] at h
      simp only [ne_eq, hx, not_false_eq_true, decide_true] at h
      have e : 0 = i := by simpa using h
      subst e
      exact ⟨v.filter (fun x => decide (x ≠ 0)), by rw [List.filter_cons_of_pos (by simpa using hx)]; rfl⟩
theorem z_lupright {v : List Int} {i : Nat} (hl : v.length < 900) (h1 : gcdL v = 1) (h2 : fstNz v = some i) (h3 : 0 < vec v i) (q : Φ (.bl true) c) : m_l_upright T [.lst (v.map .int)] c Ψ Φ := by
  refine e_fn (δ := [some _, none, none]) rfl rfl ?_
  repeat walk_at "k"
  refine lc_map .int (fun x => if x ≠ 0 then some (.int x) else none) (by rfl) v [] (by show 0 + _ < sizeLine; rw [Nat.zero_add]; exact lt_sz hl) (fun y hy k hk => ?_) ?_
  · repeat walk_at "k"
    by_cases hz : y = 0
    · rw [if_neg (by simp [hz])]
      simpa [hz] using hk
    · rw [if_pos (by simp [hz])]
      repeat walk_at "k"
      simpa [hz] using hk
  · rw [List.nil_append]
    have e : v.filterMap (fun x => if x ≠ 0 then some (D.int x) else none) = (v.filter fun x => decide (x ≠ 0)).map .int := by
      clear hl h1 h2 h3
      induction v with
      | nil => rfl
      | cons x v ih =>
        by_cases hx : x = 0
        · rw [List.filterMap_cons_none (by simp [hx]), List.filter_cons_of_neg (by simp [hx]), ih]
        · rw [List.filterMap_cons_some (b := D.int x) (by simp [hx]), List.filter_cons_of_pos (by simpa using hx), ih]
          rfl
    rw [e]
    obtain ⟨rest, hr⟩ := filter_first v i h2
    rw [hr]
    refine e_ifF ?_
    repeat walk_at "k"
    have hcut : cutD (((vec v i) :: rest).map D.int) none (some 1) = [.int (vec v i)] := by
      exact cut_take D.int (vec v i :: rest) 1
    refine e_slL (by rw [hcut]; show 1 ≤ sizeLine; decide) ?_
    rw [hcut]
    repeat walk_at "k"
    refine e_neIs (xs := [vec v i]) (ys := []) rfl rfl ?_
    repeat walk_at "k"
    refine e_ifT ?_
    repeat walk_at "k"
    rw [decide_eq_true h3]
    refine e_ifT ?_
    repeat walk_at "k"
    refine z_ldivisor ?_
    rw [h1]
    repeat walk_at "k"
    exact e_clo q
end K14
set_option Elab.async false
set_option linter.all false
set_option maxRecDepth 100000
set_option maxHeartbeats 600000
namespace K14
open PySem PySem.Spec PyProof.Rows L2 G M Lin
local macro_rules | `(tactic| walk_at "m") => `(tactic| first
  | (with_reducible refine' e_seq ?_)
  | ((with_reducible refine' e_var ?h ?_); (case h => exact rfl))
  | (with_reducible refine' e_c ?_)
  | (with_reducible refine' e_op ?_)
  | (with_reducible refine' e_asg ?_)
  | (with_reducible refine' e_gname ?_)
  | (with_reducible refine' e_ifS ?_)
  | (with_reducible refine' e_test ?_)
  | (with_reducible refine' e_bl ?_)
  | (with_reducible refine' e_cb ?_)
  | (with_reducible refine' e_cons ?_)
  | (with_reducible refine' e_nil ?_)
  | (with_reducible refine' e_call ?_)
  | (with_reducible refine' e_ret ?_)
  | (with_reducible refine' e_drop ?_)
  | (with_reducible refine' e_next ?_)
  | (with_reducible refine' e_andT ?_)
  | (with_reducible refine' e_orT ?_)
  | (with_reducible refine' e_notT ?_)
  | (with_reducible refine' e_andM ?_)
  | (with_reducible refine' e_orM ?_)
  | (with_reducible refine' e_notM ?_)
  | (with_reducible refine' e_ifM ?_)
  | (with_reducible refine' e_chain ?_)
  | (with_reducible refine' e_un ?_)
  | (with_reducible refine' e_lst ?_)
  | (with_reducible refine' e_lstO ?_)
  | (with_reducible refine' e_tup ?_)
  | (with_reducible refine' e_par ?_)
  | (with_reducible refine' e_raise ?_)
  | (with_reducible refine' e_for ?_)
  | (with_reducible refine' e_meth ?_)
  | (with_reducible refine' e_prop ?_)
  | (with_reducible refine' e_make ?_)
  | (with_reducible refine' e_fld ?_)
  | (with_reducible refine' e_sfld ?_)
  | (with_reducible refine' e_noPart ?_)
  | (with_reducible refine' e_part ?_)
  | (with_reducible refine' e_int ?_)
  | (with_reducible refine' e_sl ?_)
  | (with_reducible refine' e_bm ?_)
  | (with_reducible refine' e_bm0 ?_)
  | (with_reducible refine' e_m1 ?_)
  | (with_reducible refine' e_it ?_)
  | (with_reducible refine' e_rng1 ?_)
  | (with_reducible refine' e_lc ?_)
  | (with_reducible refine' e_caught ?_)
  | (with_reducible refine' e_two ?_)
  | (with_reducible refine' e_one ?_)
  | (with_reducible refine' e_ifT ?_)
  | (with_reducible refine' e_ifF ?_)
  | (with_reducible refine' e_ifNT ?_)
  | (with_reducible refine' e_ifNF ?_)
  | (with_reducible refine' e_yes ?_)
  | (with_reducible refine' e_turn ?_)
  | (with_reducible refine' e_js ?_)
  | (with_reducible refine' e_jsc ?_)
  | (with_reducible refine' e_jsn ?_)
  | (with_reducible refine' e_fmt ?_)
  | (with_reducible refine' e_leI ?_)
  | (with_reducible refine' e_ltI ?_)
  | (with_reducible refine' e_gtI ?_)
  | (with_reducible refine' e_geI ?_)
  | (with_reducible refine' e_ltS ?_)
  | (with_reducible refine' e_eqI ?_)
  | (with_reducible refine' e_eqS ?_)
  | (with_reducible refine' e_neI ?_)
  | (with_reducible refine' e_neS ?_)
  | (with_reducible refine' e_neB ?_)
  | (with_reducible refine' e_isB ?_)
  | (with_reducible refine' e_isntB ?_)
  | (with_reducible refine' e_addI ?_)
  | (with_reducible refine' e_subI ?_)
  | (with_reducible refine' e_int1 ?_)
  | (with_reducible refine' e_max2 ?_)
  | (with_reducible refine' e_min2 ?_)
  | (with_reducible refine' e_lenL ?_)
  | (with_reducible refine' e_lenT ?_)
  | (with_reducible refine' e_lenR ?_)
  | (with_reducible refine' e_modI (by decide) ?_))
set_option synthInstance.maxHeartbeats 0
set_option synthInstance.maxSize 100000
local macro_rules | `(tactic| walk_at "k") => `(tactic| first
  | refine wgo ?_
  | ((with_reducible refine' e_var ?h ?_); (case h => exact rfl))
  | (with_reducible refine' e_gname ?_)
  | (with_reducible refine' e_modI (by decide) ?_)
  | ((with_reducible refine' e_sz ?h ?_); (case h => exact rfl)))
variable {P : Program} {K : PySem.W.Frag} {mg : Str → Option Value} {T : Top P K mg} {c : SH} {Ψ : XD} {Φ : QD}
def intsL (zss : List (List Int)) : List D := zss.map fun l => .lst (l.map .int)
theorem pyWL_intsL (ob : Nat → Option PyData) : ∀ zss : List (List Int), pyWL ob (intsL zss) = some (zss.map fun l => PyData.list (l.map .int))
  | [] => rfl
  | l :: zss => by
    have := pyWL_intsL ob zss
    unfold intsL at this ⊢
    rw [List.map_cons]
    simp only [pyWL, pyW, pyWL_ints, this, Option.map_some]
    rfl
theorem lay_ints : ∀ l : List Int, PyData.canLayAll0 (l.map PyData.int) = true ∧ PyData.depthAll (l.map PyData.int) = 0
  | [] => ⟨by simp [PyData.canLayAll0], by simp [PyData.depthAll]⟩
  | x :: l => by
    obtain ⟨h1, h2⟩ := lay_ints l
    exact ⟨by simp [PyData.canLayAll0, PyData.canLay0, h1], by simp [PyData.depthAll, PyData.depth, h2]⟩
theorem lay_intsL : ∀ zss : List (List Int), PyData.canLayAll0 (zss.map fun l => PyData.list (l.map .int)) = true ∧ PyData.depthAll (zss.map fun l => PyData.list (l.map .int)) ≤ 1
  | [] => ⟨by simp [PyData.canLayAll0], by simp [PyData.depthAll]⟩
  | x :: zss => by
    obtain ⟨h1, h2⟩ := lay_intsL zss
    obtain ⟨g1, g2⟩ := lay_ints x
    refine ⟨by simp [PyData.canLayAll0, PyData.canLay0, h1, g1], ?_⟩
    simp [PyData.depthAll, PyData.depth, g2]
    omega
theorem e_neL0 {d : D} (zss : List (List Int)) (h1 : view c d = .lst (intsL zss)) (q : Φ (.bl (!zss.isEmpty)) c) : neD d (.lst []) c Φ := by
  have sh : SeqAt.shaped (.list (zss.map fun l => PyData.list (l.map .int))) = true := by
    obtain ⟨h1, h2⟩ := lay_intsL zss
    simp [SeqAt.shaped, PyData.canLay0, PyData.depth, h1]
    omega
  refine e_pyN (sc_view h1) (py_view h1 fun ob => pyWL_intsL ob zss) (p' := .list []) rfl sh shaped_nil ?_
  rw [eqv_nil, List.isEmpty_map]
  exact q
/-- what the law's rank asks of rows: less than Given -/
structure GivenL (w N B : Nat) (rows : List (List Int)) : Prop where
  len : ∀ r ∈ rows, r.length = w
  le : ∀ r ∈ rows, ∀ j, (vec r j).natAbs ≤ B
  w9 : w < 900
  one : 1 ≤ N * B
  top : W0 N B < 2 ^ 9000
theorem z_lrankV {d : D} {rows : List (List Int)} {w N B : Nat} (hd : view c d = .lst (rows.map fun r => .lst (r.map .int))) (g : GivenL w N B rows) (hn : rows.length ≤ N) (hr9 : rows.length < 900) (q : ∀ k, IsRank (rows.map vec) k → Φ (.int (k : Nat)) c) : m_l_rank T [d] c Ψ Φ := by
  refine e_fn (δ := [some _, none, none, none, none, none, none, none, none, none, none, none]) rfl rfl ?_
  repeat walk_at "k"
  refine e_itO hd ?_
  refine lc_map (fun r : List Int => D.lst (r.map .int)) (fun r => some (.lst (r.map .int))) (by rfl) rows [] (by show 0 + _ < sizeLine; rw [Nat.zero_add]; exact lt_sz hr9) (fun r hr k hk => ?_) ?_
  · repeat walk_at "k"
    show M.newL false (r.map D.int) c (fun y c4 => k (some y) c4)
    exact ⟨Nat.le_of_lt (lt_sz (by rw [List.length_map, g.len r hr]; exact g.w9)), e_ifF hk⟩
  · rw [List.nil_append, List.filterMap_eq_map']
    unfold endL
    refine e_ifT ?_
    repeat walk_at "k"
    refine ⟨fun m δ c' => ∃ (L : SH) (k : Nat) (P : List Vc) (C : List Nat) (done rest : List (List Int)) (v1 v5 v6 v7 v8 v9 v10 v11 : Option D), m = rest.length ∧ c' = c ++ L ∧ c'[c.length + k]? = some (.lst ((rest.map (ext P C w)).map fun r => .lst (r.map .int))) ∧ Chain P C ∧ (∀ p ∈ P, p ∈ rows.map vec) ∧ rows = done ++ rest ∧ (∀ r ∈ done, InSpan (vec r) P) ∧
      P.length ≤ done.length ∧ δ = [some d, v1, some (.obj (c.length + k)), some (.int (det P C)), some (.int (P.length : Nat)), v5, v6, v7, v8, v9, v10, v11],
      ⟨_, [.lst (rows.map fun r => .lst (r.map .int))], 0, [], [], [], rows, _, _, _, _, _, _, _, _, rfl, rfl, ?_, .nil, nofun, rfl, nofun, Nat.le_refl _, rfl⟩, ?_⟩
    · rw [Nat.add_zero, List.getElem?_append_right (Nat.le_refl _), Nat.sub_self]
      have e : rows.map (ext [] [] w) = rows := by
        exact (List.map_congr_left (g := id) fun r hr => ext_nil (g.len r hr)).trans (List.map_id _)
      rw [e]
      rfl
    · rintro m δ c' ⟨L, k, P, C, done, rest, v1, v5, v6, v7, v8, v9, v10, v11, rfl, hc, hk, hch, hP, hrows, hdone, hPl, rfl⟩
      have hview : view c' (.obj (c.length + k)) = .lst (intsL (rest.map (ext P C w))) := by
        unfold view
        dsimp only
        rw [hk]
        rfl
      repeat walk_at "k"
      refine e_neL0 (rest.map (ext P C w)) hview ?_
      rw [List.isEmpty_map]
      repeat walk_at "k"
      cases rest with
      | nil =>
        refine e_ifF ?_
        repeat walk_at "k"
        have etk : c'.take c.length = c := by rw [hc, List.take_left']; rfl
        refine .inr ⟨by rw [etk]; exact fun i o h => .inl h, rfl, ?_⟩
        show Φ (.int (P.length : Nat)) _
        rw [etk]
        refine q _ ⟨P, hch.linInd, rfl, fun p hp => inSpan_mem (hP p hp), fun r hr => ?_⟩
        obtain ⟨z, hz, ez⟩ := List.mem_map.mp hr
        rw [← ez]
        have hr := hz
        exact hdone z (by rw [List.append_nil] at hrows; rw [← hrows]; exact hr)
      | cons r0 rest =>
        refine e_ifT ?_
        repeat walk_at "k"
        refine ⟨by rw [hview]; rfl, ?_⟩
        repeat walk_at "k"
        have hr0 : r0 ∈ rows := by rw [hrows]; simp
        have hrl : ((r0 :: rest).map (ext P C w)).length < 900 := by
          rw [List.length_map]
          have := congrArg List.length hrows
          rw [List.length_append] at this
          omega
        refine e_popAt hk (by decide) (by simp) (by rw [List.length_map]; omega) (y := .lst ((ext P C w r0).map .int)) rfl ?_
        repeat walk_at "k"
        have hxl : (((ext P C w r0).map D.int).length : Int) = (w : Int) := by rw [List.length_map, ext_len]
        rw [hxl]
        refine ⟨⟨by omega, by have := g.w9; omega⟩, ?_⟩
        have hw : (w : Int).toNat = w := by omega
        rw [hw]
        have ern : rngD 0 w = (List.range w).map fun i => D.int ((i : Nat) : Int) := by
          unfold rngD
          exact List.map_congr_left fun i _ => by rw [Int.zero_add]
        rw [ern]
        refine lc_map (fun i : Nat => D.int (i : Int)) (fun i => if vec (ext P C w r0) i ≠ 0 then some (.int (i : Int)) else none) (by trivial) (List.range w) [] (by show 0 + _ < sizeLine; rw [Nat.zero_add, List.length_range]; exact lt_sz g.w9) (fun i hi kk hkk => ?_) ?_
        · have hiw := List.mem_range.mp hi
          repeat walk_at "k"
          refine e_ixI (by rw [ext_len]; exact hiw) ?_
          repeat walk_at "k"
          by_cases hz : vec (ext P C w r0) i = 0
          · rw [if_neg (by simp [hz])]
            simpa [hz] using hkk
          · rw [if_pos (by simp [hz])]
            repeat walk_at "k"
            simpa [hz] using hkk
        · rw [List.nil_append]
          refine e_ifF ?_
          repeat walk_at "k"
          have efl : (List.range w).filterMap (fun i => if vec (ext P C w r0) i ≠ 0 then some (D.int (i : Int)) else none) = (((List.range w).filter fun i => decide (vec (ext P C w r0) i ≠ 0)).map fun i : Nat => (i : Int)).map D.int := by
            generalize List.range w = l
            induction l with
            | nil => rfl
            | cons i l ih =>
              by_cases hz : vec (ext P C w r0) i = 0
              · rw [List.filterMap_cons_none (by simp [hz]), List.filter_cons_of_neg (by simp [hz]), ih]
              · rw [List.filterMap_cons_some (b := D.int (i : Int)) (by simp [hz]), List.filter_cons_of_pos (by simpa using hz), ih]
                rfl
          rw [efl]
          refine e_neIs (ys := []) rfl rfl ?_
          repeat walk_at "k"
          have hmem9 : ∀ p ∈ P, ∀ j, w ≤ j → p j = 0 := fun p hp j hj => by
            obtain ⟨z, hz, rfl⟩ := List.mem_map.mp (hP p hp)
            exact vec_out (by rw [g.len z hz]; exact hj)
          have hnew : (c'.set (c.length + k) (SO.lst (((((r0 :: rest).map (ext P C w)).map fun r => D.lst (r.map .int))).eraseIdx (Int.toNat 0)))) = c ++ L.set k (.lst ((rest.map (ext P C w)).map fun r => .lst (r.map .int))) := by
            rw [hc, List.set_append_right _ _ (Nat.le_add_right _ _), Nat.add_sub_cancel_left]
            rfl
          cases hf : (List.range w).filter fun i => decide (vec (ext P C w r0) i ≠ 0) with
          | nil =>
            refine e_ifF ?_
            repeat walk_at "k"
            have hz0 : ∀ x ∈ ext P C w r0, x = 0 := fun x hx => by
              obtain ⟨j, hj, e⟩ := mem_vec hx
              rw [ext_len] at hj
              have := List.filter_eq_nil_iff.mp hf j (List.mem_range.mpr hj)
              rw [← e]
              exact Classical.byContradiction fun q => this (by simpa using q)
            refine ⟨rest.length, by simp, L.set k (.lst ((rest.map (ext P C w)).map fun r => .lst (r.map .int))), k, P, C, done ++ [r0], rest, _, _, _, _, _, _, _, _, rfl, hnew, ?_, hch, hP, by rw [hrows]; simp, fun r hr => ?_, by rw [List.length_append]; omega, rfl⟩
            · rw [List.getElem?_set, if_pos rfl, if_pos (getElem_last hk)]
              rfl
            · rcases List.mem_append.mp hr with hr | hr
              · exact hdone r hr
              · rw [List.mem_singleton.mp hr]
                exact elim_skip hch (g.len _ hr0) hz0 hmem9
          | cons at_ more =>
            refine e_ifT ?_
            repeat walk_at "k"
            have hat := List.mem_filter.mp (show at_ ∈ (List.range w).filter fun i => decide (vec (ext P C w r0) i ≠ 0) by rw [hf]; exact List.mem_cons_self)
            have haw : at_ < w := List.mem_range.mp hat.1
            have hanz : vec (ext P C w r0) at_ ≠ 0 := of_decide_eq_true hat.2
            show ixD (.lst (D.int (at_ : Int) :: (more.map fun i : Nat => (i : Int)).map D.int)) (.int 0) _ _
            refine e_ixL0 ?_
            repeat walk_at "k"
            show ixD (.lst (D.int (at_ : Int) :: (more.map fun i : Nat => (i : Int)).map D.int)) (.int 0) _ _
            refine e_ixL0 ?_
            repeat walk_at "k"
            refine e_ixI (by rw [ext_len]; exact haw) ?_
            repeat walk_at "k"
            rw [hnew]
            have hkL : k < L.length := by
              have := getElem_last hk
              rw [hc, List.length_append] at this
              omega
            have hv2 : view (c ++ L.set k (.lst ((rest.map (ext P C w)).map fun r => .lst (r.map .int)))) (.obj (c.length + k)) = .lst ((rest.map (ext P C w)).map fun r => .lst (r.map .int)) := by
              unfold view
              dsimp only
              rw [List.getElem?_append_right (Nat.le_add_right _ _), Nat.add_sub_cancel_left, List.getElem?_set, if_pos rfl, if_pos hkL]
            refine e_itO hv2 ?_
            obtain ⟨hch2, _⟩ := elim_step (r := r0) hch haw hanz
            have hdet : det P C ≠ 0 := hch.ne
            rw [List.map_map]
            refine lc_map (fun r : List Int => D.lst ((ext P C w r).map .int)) (fun r => some (.lst ((ext (vec r0 :: P) (at_ :: C) w r).map .int))) (by rfl) rest [] (by show 0 + _ < sizeLine; rw [Nat.zero_add]; exact lt_sz (by simp at hrl; omega)) (fun r hr kk hkk => ?_) ?_
            · repeat walk_at "k"
              unfold zipM
              repeat walk_at "k"
              show lcD _ _ (zipD ((ext P C w r).map D.int) ((ext P C w r0).map D.int)) _ _ _
              rw [zipD_ints]
              have hrr : r ∈ rows := by rw [hrows]; simp [hr]
              have one := g.one
              have hPn : P.length + 1 ≤ N := by
                have := congrArg List.length hrows
                rw [List.length_append, List.length_cons] at this
                omega
              have wk := g.top
              have big : (2 : Nat) ^ 9000 ≤ 2 ^ 400000 := Nat.pow_le_pow_right (by decide) (by decide)
              have b1 : ∀ j, (vec (ext P C w r) j).natAbs ≤ W0 N B := elim_le hch.len hPn g.le hrr hP one
              have b0 : ∀ j, (vec (ext P C w r0) j).natAbs ≤ W0 N B := elim_le hch.len hPn g.le hr0 hP one
              have bd : (det P C).natAbs ≤ W0 N B := det_small hch.len (by omega) g.le hP one
              refine lc_map (F := fun p : Int × Int => D.tup [.int p.1, .int p.2]) (f := fun z => some (.int ((z.1 * vec (ext P C w r0) at_ - vec (ext P C w r) at_ * z.2).fdiv (det P C)))) ⟨rfl, rfl⟩ _ [] (by show 0 + _ < sizeLine; rw [List.length_zip, ext_len, ext_len, Nat.min_self, Nat.zero_add]; exact lt_sz g.w9) (fun z hz k2 hk2 => ?_) ?_
              · have hz1 := mem_le b1 _ (List.of_mem_zip hz).1
                have hz2 := mem_le b0 _ (List.of_mem_zip hz).2
                repeat walk_at "k"
                refine e_mulW (Bd.mulOk (a := 400000) (b := 400000) (show _ < _ from by omega) (show _ < _ from by have := b0 at_; omega) (by decide) (by decide) (by decide)) ?_
                repeat walk_at "k"
                refine e_ixI (by rw [ext_len]; exact haw) ?_
                repeat walk_at "k"
                refine e_mulW (Bd.mulOk (a := 400000) (b := 400000) (show _ < _ from by have := b1 at_; omega) (show _ < _ from by omega) (by decide) (by decide) (by decide)) ?_
                repeat walk_at "k"
                refine e_fdivW ⟨hdet, log_9000 (Nat.lt_of_le_of_lt bd wk)⟩ ?_
                exact hk2
              · rw [List.nil_append, fm_zip fun a b => (a * vec (ext P C w r0) at_ - vec (ext P C w r) at_ * b).fdiv (det P C), (elim_step (r := r) hch haw hanz).2]
                refine e_ifF ?_
                exact hkk
            · rw [List.nil_append, List.filterMap_eq_map']
              unfold endL
              refine e_ifT ?_
              repeat walk_at "k"
              refine ⟨rest.length, by simp, L.set k (.lst ((rest.map (ext P C w)).map fun r => .lst (r.map .int))) ++ [.lst ((rest.map (ext (vec r0 :: P) (at_ :: C) w)).map fun r => .lst (r.map .int))], L.length, vec r0 :: P, at_ :: C, done ++ [r0], rest, some (.lst ((ext P C w r0).map .int)), some (.lst (((at_ :: more).map fun i : Nat => (i : Int)).map .int)), some (.int (at_ : Int)), some (.int (vec (ext P C w r0) at_)), v8, v9, v10, v11, rfl, ?_, ?_, hch2, ?_, by rw [hrows]; simp, ?_, by rw [List.length_append, List.length_cons]; simp; omega, ?_⟩
              · rw [List.append_assoc, List.map_map, List.map_map]
                rfl
              · rw [List.getElem?_append_right (by rw [List.length_append, List.length_set]; exact Nat.le_refl _), List.length_append, List.length_set, Nat.sub_self, List.map_map]
                rfl
              · intro p hp
                rcases List.mem_cons.mp hp with rfl | hp
                · exact List.mem_map.mpr ⟨r0, hr0, rfl⟩
                · exact hP p hp
              · intro r hr
                rcases List.mem_append.mp hr with hr | hr
                · exact inSpan_sub (hdone r hr) fun z hz => List.mem_cons_of_mem _ hz
                · rw [List.mem_singleton.mp hr]
                  exact inSpan_mem List.mem_cons_self
              · have elen : (c ++ L.set k (.lst ((rest.map (ext P C w)).map fun r => .lst (r.map .int)))).length = c.length + L.length := by rw [List.length_append, List.length_set]
                rw [← List.map_map, elen, ext_vec haw]
                rfl
theorem z_lrank {rows : List (List Int)} {w N B : Nat} (g : GivenL w N B rows) (hn : rows.length ≤ N) (hr9 : rows.length < 900) (q : ∀ k, IsRank (rows.map vec) k → Φ (.int (k : Nat)) c) : m_l_rank T [.lst (rows.map fun r => .lst (r.map .int))] c Ψ Φ := z_lrankV rfl g hn hr9 q
theorem Given.toL {rows : List (List Int)} {w N B M : Nat} (g : Given w N B rows) (h1 : 1 ≤ M * B) (h2 : W0 M B < 2 ^ 9000) : GivenL w M B rows := ⟨g.len, g.le, g.w9, h1, h2⟩
end K14
set_option Elab.async false
set_option linter.all false
set_option maxRecDepth 100000
set_option maxHeartbeats 600000
namespace K14
open PySem PySem.Spec PyProof.Rows L2 G M Lin
local macro_rules | `(tactic| walk_at "m") => `(tactic| first
  | (with_reducible refine' e_seq ?_)
  | ((with_reducible refine' e_var ?h ?_); (case h => exact rfl))
  | (with_reducible refine' e_c ?_)
  | (with_reducible refine' e_op ?_)
  | (with_reducible refine' e_asg ?_)
  | (with_reducible refine' e_gname ?_)
  | (with_reducible refine' e_ifS ?_)
  | (with_reducible refine' e_test ?_)
  | (with_reducible refine' e_bl ?_)
  | (with_reducible refine' e_cb ?_)
  | (with_reducible refine' e_cons ?_)
  | (with_reducible refine' e_nil ?_)
  | (with_reducible refine' e_call ?_)
  | (with_reducible refine' e_ret ?_)
  | (with_reducible refine' e_drop ?_)
  | (with_reducible refine' e_next ?_)
  | (with_reducible refine' e_andT ?_)
  | (with_reducible refine' e_orT ?_)
  | (with_reducible refine' e_notT ?_)
  | (with_reducible refine' e_andM ?_)
  | (with_reducible refine' e_orM ?_)
  | (with_reducible refine' e_notM ?_)
  | (with_reducible refine' e_ifM ?_)
  | (with_reducible refine' e_chain ?_)
  | (with_reducible refine' e_un ?_)
  | (with_reducible refine' e_lst ?_)
  | (with_reducible refine' e_lstO ?_)
  | (with_reducible refine' e_tup ?_)
  | (with_reducible refine' e_par ?_)
  | (with_reducible refine' e_raise ?_)
  | (with_reducible refine' e_for ?_)
  | (with_reducible refine' e_meth ?_)
  | (with_reducible refine' e_prop ?_)
  | (with_reducible refine' e_make ?_)
  | (with_reducible refine' e_fld ?_)
  | (with_reducible refine' e_sfld ?_)
  | (with_reducible refine' e_noPart ?_)
  | (with_reducible refine' e_part ?_)
  | (with_reducible refine' e_int ?_)
  | (with_reducible refine' e_sl ?_)
  | (with_reducible refine' e_bm ?_)
  | (with_reducible refine' e_bm0 ?_)
  | (with_reducible refine' e_m1 ?_)
  | (with_reducible refine' e_it ?_)
  | (with_reducible refine' e_rng1 ?_)
  | (with_reducible refine' e_lc ?_)
  | (with_reducible refine' e_caught ?_)
  | (with_reducible refine' e_two ?_)
  | (with_reducible refine' e_one ?_)
  | (with_reducible refine' e_ifT ?_)
  | (with_reducible refine' e_ifF ?_)
  | (with_reducible refine' e_ifNT ?_)
  | (with_reducible refine' e_ifNF ?_)
  | (with_reducible refine' e_yes ?_)
  | (with_reducible refine' e_turn ?_)
  | (with_reducible refine' e_js ?_)
  | (with_reducible refine' e_jsc ?_)
  | (with_reducible refine' e_jsn ?_)
  | (with_reducible refine' e_fmt ?_)
  | (with_reducible refine' e_leI ?_)
  | (with_reducible refine' e_ltI ?_)
  | (with_reducible refine' e_gtI ?_)
  | (with_reducible refine' e_geI ?_)
  | (with_reducible refine' e_ltS ?_)
  | (with_reducible refine' e_eqI ?_)
  | (with_reducible refine' e_eqS ?_)
  | (with_reducible refine' e_neI ?_)
  | (with_reducible refine' e_neS ?_)
  | (with_reducible refine' e_neB ?_)
  | (with_reducible refine' e_isB ?_)
  | (with_reducible refine' e_isntB ?_)
  | (with_reducible refine' e_addI ?_)
  | (with_reducible refine' e_subI ?_)
  | (with_reducible refine' e_int1 ?_)
  | (with_reducible refine' e_max2 ?_)
  | (with_reducible refine' e_min2 ?_)
  | (with_reducible refine' e_lenL ?_)
  | (with_reducible refine' e_lenT ?_)
  | (with_reducible refine' e_lenR ?_)
  | (with_reducible refine' e_modI (by decide) ?_))
set_option synthInstance.maxHeartbeats 0
set_option synthInstance.maxSize 100000
local macro_rules | `(tactic| walk_at "k") => `(tactic| first
  | refine wgo ?_
  | ((with_reducible refine' e_var ?h ?_); (case h => exact rfl))
  | (with_reducible refine' e_gname ?_)
  | (with_reducible refine' e_modI (by decide) ?_)
  | ((with_reducible refine' e_sz ?h ?_); (case h => exact rfl)))
variable {P : Program} {K : PySem.W.Frag} {mg : Str → Option Value} {T : Top P K mg} {c : SH} {Ψ : XD} {Φ : QD}
theorem s_take {i n : Nat} {m : Int} (hb : c[i]? = some (.box n)) (hn : n ≤ 1000000000) (h0 : 0 < m) (h1 : m < 1073741824) (q : ∀ d : Int, 0 ≤ d → d < m → Φ (.int d) (c.set i (.box (n + 1)))) : m_l_take T [.obj i, .int m] c Ψ Φ := ⟨i, n, m, rfl, hb, hn, h0, h1, q⟩
theorem s_cell {ns : List Int} {k : Nat} (hl : ns.length ≤ 63) (hk : k ≤ 100) (q : ∀ i : Int, Φ (.int i) c) : m_l_cell T [.scr (ns.map .int), .int (k : Int)] c Ψ Φ := ⟨ns, k, rfl, hl, hk, q⟩
theorem s_box {i : Int} (q : Φ (.obj c.length) (c ++ [.box 0])) : m_l_box T [.int i] c Ψ Φ := ⟨i, rfl, q⟩
theorem e_appK {k : Nat} {ys : List D} {y : D} (h : c[k]? = some (.lst ys)) (hl : ys.length < 900) (q : Φ .non (c.set k (.lst (ys ++ [y])))) : appendD (.obj k) [y] c Φ := by
  show liveL (.obj k) c fun k ys => ys.length < sizeLine ∧ Φ .non (c.set k (.lst (ys ++ [y])))
  unfold liveL
  dsimp only
  rw [h]
  exact ⟨lt_sz hl, q⟩
theorem e_ixW {d : D} {ds : List D} {i : Nat} {x : D} (hd : view c d = .lst ds) (h : ds[i]? = some x) (q : Φ x c) : ixD d (.int (i : Int)) c Φ := by
  unfold ixD
  rw [hd]
  exact e_ixL (atI_nat (j := i) h) q
/-- numbers drawn one after the other -/
theorem lc_draw {i j : Nat} {gd : SH → Prop} {turn : D → SH → (Option D → SH → Prop) → Prop} {ΦL : List D → SH → Prop} (b s B : Nat) (hb : c[i]? = some (.box j)) (hgd : ∀ c', gd c')
    (step : ∀ (k : Nat) (x : D) (t : Option D → SH → Prop), k < b → (∀ z : Int, z.natAbs ≤ B → t (some (.int z)) (c.set i (.box (j + k * s + s)))) → turn x (c.set i (.box (j + k * s))) t)
    (hl : b < 900) (q : ∀ zs : List Int, zs.length = b → (∀ z ∈ zs, z.natAbs ≤ B) → ΦL (zs.map .int) (c.set i (.box (j + b * s)))) : ∀ xs : List D, xs.length = b → lcD gd turn xs [] c ΦL := by
  intro xs hx
  refine lc_inv (fun rest acc c' => ∃ zs : List Int, acc = zs.map .int ∧ (∀ z ∈ zs, z.natAbs ≤ B) ∧ zs.length + rest.length = b ∧ c' = c.set i (.box (j + zs.length * s))) (fun _ _ _ _ => hgd _) ?_ ?_ xs [] c ⟨[], rfl, nofun, by simpa using hx, by rw [List.length_nil, Nat.zero_mul]; exact (box_self hb).symm⟩
  · rintro x rest acc c' ⟨zs, rfl, hz, hlen, rfl⟩ k hk
    rw [List.length_cons] at hlen
    refine ⟨by rw [List.length_map]; exact lt_sz (by omega), step zs.length x k (by omega) fun z hzB => ?_⟩
    refine hk _ _ ⟨zs ++ [z], by simp, fun y hy => ?_, by rw [List.length_append, List.length_singleton]; omega, ?_⟩
    · rcases List.mem_append.mp hy with hy | hy
      · exact hz y hy
      · rw [List.mem_singleton.mp hy]
        exact hzB
    · rw [List.length_append, List.length_singleton, Nat.add_mul, Nat.one_mul, Nat.add_assoc]
  · rintro acc c' ⟨zs, rfl, hz, hlen, rfl⟩
    have hlen : zs.length = b := hlen
    have := q zs hlen hz
    rw [hlen]
    exact this
def bx (c : SH) (i j : Nat) (X : List D) : SH := c.set i (.box j) ++ [.lst X]
theorem bx_box {i j n : Nat} {X : List D} (h : c[i]? = some (.box n)) : (bx c i j X)[i]? = some (.box j) := by
  unfold bx
  have := getElem_last h
  rw [List.getElem?_append_left (by rw [List.length_set]; exact this), List.getElem?_set, if_pos rfl, if_pos this]
theorem bx_set {i j j' n : Nat} {X : List D} (h : c[i]? = some (.box n)) : (bx c i j X).set i (.box j') = bx c i j' X := by
  unfold bx
  rw [List.set_append_left _ _ (by rw [List.length_set]; exact getElem_last h), List.set_set]
theorem bx_lst {i j : Nat} {X : List D} : (bx c i j X)[c.length]? = some (.lst X) := by
  unfold bx
  rw [List.getElem?_append_right (by rw [List.length_set]; exact Nat.le_refl _), List.length_set, Nat.sub_self]
  rfl
theorem bx_put {i j : Nat} {X Y : List D} : (bx c i j X).set c.length (.lst Y) = bx c i j Y := by
  unfold bx
  rw [List.set_append_right _ _ (by rw [List.length_set]; exact Nat.le_refl _), List.length_set, Nat.sub_self]
  rfl
def rowsD (rows : List (List Int)) : List D := rows.map fun r => .lst (r.map .int)
theorem z_rows {i n : Nat} (hb : c[i]? = some (.box n)) (hn : n ≤ 100000) (q : ∀ (w : Nat) (rows : List (List Int)) (j : Nat), 1 ≤ w → w ≤ 6 → rows.length ≤ 6 → (∀ r ∈ rows, r.length = w ∧ ∀ x ∈ r, x.natAbs ≤ 1000000 * 6 ^ 6) → j ≤ n + 1000 → Φ (.lst [.int (w : Int), .lst (rows.map fun r => .lst (r.map .int))]) (c.set i (.box j))) : m_l_rows T [.obj i] c Ψ Φ := by
  refine e_fn (δ := [some _, none, none, none, none, none, none, none, none, none, none, none, none]) rfl rfl ?_
  repeat walk_at "k"
  refine s_take hb (by omega) (by decide) (by decide) fun d0 h0 h1 => ?_
  repeat walk_at "k"
  rw [List.length_set]
  refine s_take (bx_box (X := []) hb) (by omega) (by decide) (by decide) fun d1 h2 h3 => ?_
  rw [show (List.set c i (SO.box (n + 1)) ++ [SO.lst []]) = bx c i (n + 1) [] from rfl, bx_set hb]
  repeat walk_at "k"
  refine ⟨⟨by omega, by omega⟩, ?_⟩
  have ew : (1 + d0) = ((1 + d0).toNat : Int) := by omega
  generalize (1 + d0).toNat = w at ew
  rw [ew]
  refine for_at (fun k δ c' => ∃ (rows : List (List Int)) (j : Nat) (v3 v4 v5 v6 v7 v8 v9 v10 v11 v12 : Option D), c' = bx c i j (rowsD rows) ∧ rows.length = k ∧ j ≤ n + 2 + 50 * k ∧ (∀ r ∈ rows, r.length = w ∧ ∀ x ∈ r, x.natAbs ≤ 1000000 * 6 ^ k) ∧ δ = [some (.obj i), some (.int (w : Int)), some (.obj c.length), v3, v4, v5, v6, v7, v8, v9, v10, v11, v12]) _ ?_ ?_ ⟨[], _, _, _, _, _, _, _, _, _, _, _, rfl, rfl, by omega, nofun, rfl⟩
  · rintro k y hy δ c' e' ⟨rows, j, v3, v4, v5, v6, v7, v8, v9, v10, v11, v12, rfl, hk, hj, hr, rfl⟩ nx _ _ _ _
    have hk6 : k < 6 := by
      have := (List.getElem?_eq_some_iff.mp hy).1
      unfold rngD at this
      rw [List.length_map, List.length_range] at this
      omega
    refine ⟨trivial, ?_⟩
    repeat walk_at "k"
    refine s_take (bx_box hb) (by omega) (by decide) (by decide) fun d2 h4 h5 => ?_
    rw [bx_set hb]
    repeat walk_at "k"
    refine ⟨⟨by omega, by omega⟩, ?_⟩
    refine lc_draw w 2 1000000 (bx_box hb) (fun _ => trivial) (fun m x t hm ht => ?_) (by omega) (fun zs hz1 hz2 => ?_) _ (by unfold rngD; rw [List.length_map, List.length_range]; omega)
    · rw [bx_set hb]
      have ht : ∀ z : Int, z.natAbs ≤ 1000000 → t (some (.int z)) (bx c i (j + 1 + m * 2 + 2) (rowsD rows)) := fun z hz => (by
        have := ht z hz
        rw [bx_set hb] at this
        exact this)
      repeat walk_at "k"
      refine s_take (bx_box hb) (by omega) (by decide) (by decide) fun e1 g1 g2 => ?_
      rw [bx_set hb]
      repeat walk_at "k"
      refine e_powI ⟨by decide, by decide, by decide⟩ ?_
      rw [show (10 : Int) ^ Int.toNat 6 = 1000000 from by decide]
      refine e_mulI (.inl (by decide)) ?_
      repeat walk_at "k"
      refine s_take (bx_box hb) (by omega) (by decide) (by decide) fun e2 g3 g4 => ?_
      rw [bx_set hb]
      repeat walk_at "k"
      refine e_powI ⟨by decide, by decide, by decide⟩ ?_
      rw [show (10 : Int) ^ Int.toNat 6 = 1000000 from by decide]
      repeat walk_at "k"
      have eb : ∀ a, bx c i (j + 1 + m * 2 + 1 + 1) a = bx c i (j + 1 + m * 2 + 2) a := fun a => rfl
      rw [eb]
      by_cases hd : d2 = 1
      · rw [if_pos (decide_eq_true hd)]
        refine e_ixL (atI_nat (j := 1) rfl) (ht _ ?_)
        omega
      · rw [if_neg (by simpa using hd)]
        refine e_ixL (atI_nat (j := 0) rfl) (ht _ ?_)
        omega
    · rw [bx_set hb]
      refine e_ifF ?_
      repeat walk_at "k"
      have hvw : ∀ j, view (bx c i j (rowsD rows)) (.obj c.length) = .lst (rowsD rows) := fun j => by
        unfold view
        dsimp only
        rw [bx_lst]
      have fin : ∀ (zs : List Int) (j' : Nat) (v6 v7 v8 v9 v11 v12 : Option D), zs.length = w → (∀ z ∈ zs, z.natAbs ≤ 1000000 * 6 ^ (k + 1)) → j' ≤ j + 50 → e'.nx [some (.obj i), some (.int (w : Int)), some (.obj c.length), some y, some (.int d2), some (.lst (zs.map .int)), v6, v7, v8, v9, v10, v11, v12] (bx c i j' (rowsD (rows ++ [zs]))) := fun zs j' v6 v7 v8 v9 v11 v12 h1 h2 h3 => nx _ _ ⟨rows ++ [zs], j', _, _, _, _, _, _, _, _, _, _, rfl, by rw [List.length_append, hk]; rfl, by omega, fun r hr' => (by
        rcases List.mem_append.mp hr' with hr' | hr'
        · refine ⟨(hr r hr').1, fun x hx => Nat.le_trans ((hr r hr').2 x hx) ?_⟩
          rw [Nat.pow_succ]
          omega
        · rw [List.mem_singleton.mp hr']
          exact ⟨h1, h2⟩), rfl⟩
      have last : ∀ (δ v6 v7 v8 v9 v11 v12) (j' : Nat) (zs : List Int), zs.length = w → (∀ z ∈ zs, z.natAbs ≤ 1000000 * 6 ^ (k + 1)) → j' ≤ j + 50 → δ = [some (.obj i), some (.int (w : Int)), some (.obj c.length), some y, some (.int d2), some (.lst (zs.map .int)), v6, v7, v8, v9, v10, v11, v12] → dropM (bmM "list" appendD (varM 2) (consM (varM 5) nilM)) δ (bx c i j' (rowsD rows)) e' := by
        rintro δ v6 v7 v8 v9 v11 v12 j' zs h1 h2 h3 rfl
        repeat walk_at "k"
        refine ⟨by rw [hvw]; rfl, ?_⟩
        repeat walk_at "k"
        refine e_appK bx_lst (by unfold rowsD; rw [List.length_map]; omega) ?_
        rw [bx_put]
        have := fin zs j' v6 v7 v8 v9 v11 v12 h1 h2 h3
        unfold rowsD at this
        rw [List.map_append] at this
        exact this
      have plain : ∀ v6 v7 v8 v9 v11 v12, dropM (bmM "list" appendD (varM 2) (consM (varM 5) nilM)) [some (.obj i), some (.int (w : Int)), some (.obj c.length), some y, some (.int d2), some (.lst (zs.map .int)), v6, v7, v8, v9, v10, v11, v12] (bx c i (j + 1 + w * 2) (rowsD rows)) e' := fun v6 v7 v8 v9 v11 v12 =>
        last _ v6 v7 v8 v9 v11 v12 _ zs hz1 (fun z hz => Nat.le_trans (hz2 z hz) (Nat.le_mul_of_pos_right _ (Nat.pow_pos (by decide)))) (by omega) rfl
      by_cases hway : d2 = 0
      · rw [if_pos (decide_eq_true hway)]
        repeat walk_at "k"
        refine e_neL0 rows (hvw _) ?_
        repeat walk_at "k"
        by_cases hrows : rows = []
        · rw [hrows]
          refine e_ifF ?_
          rw [← hrows]
          repeat walk_at "k"
          exact plain _ _ _ _ _ _
        · have hl0 : 0 < rows.length := List.length_pos_iff.mpr hrows
          have he : (!rows.isEmpty) = true := by cases rows <;> simp_all
          rw [he]
          refine e_ifT ?_
          have hlv : (rowsD rows).length = rows.length := by unfold rowsD; rw [List.length_map]
          repeat walk_at "k"
          refine e_lenV (hvw _) ?_
          rw [hlv]
          repeat walk_at "k"
          refine s_take (bx_box hb) (by omega) (by omega) (by omega) fun e1 g1 g2 => ?_
          rw [bx_set hb]
          repeat walk_at "k"
          have row : ∀ (a : Nat) (h : a < rows.length), (rowsD rows)[a]? = some (.lst ((rows[a]).map .int)) := fun a h => by
            unfold rowsD
            rw [List.getElem?_map, List.getElem?_eq_getElem h]
            rfl
          obtain ⟨a1, rfl⟩ : ∃ a : Nat, e1 = (a : Int) := ⟨e1.toNat, by omega⟩
          have ha1 : a1 < rows.length := by omega
          refine e_ixW (hvw _) (row a1 ha1) ?_
          repeat walk_at "k"
          refine e_lenV (hvw _) ?_
          rw [hlv]
          repeat walk_at "k"
          refine s_take (bx_box hb) (by omega) (by omega) (by omega) fun e2 g3 g4 => ?_
          rw [bx_set hb]
          repeat walk_at "k"
          obtain ⟨a2, rfl⟩ : ∃ a : Nat, e2 = (a : Int) := ⟨e2.toNat, by omega⟩
          have ha2 : a2 < rows.length := by omega
          refine e_ixW (hvw _) (row a2 ha2) ?_
          repeat walk_at "k"
          refine s_take (bx_box hb) (by omega) (by decide) (by decide) fun f1 g5 g6 => ?_
          rw [bx_set hb]
          repeat walk_at "k"
          refine s_take (bx_box hb) (by omega) (by decide) (by decide) fun f2 g7 g8 => ?_
          rw [bx_set hb]
          repeat walk_at "k"
          unfold zipM
          repeat walk_at "k"
          show lcD _ _ (zipD ((rows[a1]).map D.int) ((rows[a2]).map D.int)) _ _ _
          rw [zipD_ints]
          have hr1 := hr _ (List.getElem_mem ha1)
          have hr2 := hr _ (List.getElem_mem ha2)
          refine lc_map (F := fun p : Int × Int => D.tup [.int p.1, .int p.2]) (f := fun z => some (.int ((f1 - 3) * z.1 + (f2 - 3) * z.2))) ⟨rfl, rfl⟩ _ [] (by show 0 + _ < sizeLine; rw [List.length_zip, hr1.1, hr2.1, Nat.min_self, Nat.zero_add]; exact lt_sz (by omega)) (fun z hz k2 hk2 => ?_) ?_
          · repeat walk_at "k"
            refine e_mulI (.inl (by omega)) ?_
            repeat walk_at "k"
            refine e_mulI (.inl (by omega)) ?_
            repeat walk_at "k"
            exact hk2
          · rw [List.nil_append, fm_zip fun a b => (f1 - 3) * a + (f2 - 3) * b]
            refine e_ifF ?_
            repeat walk_at "k"
            refine last _ _ _ _ _ _ _ _ _ (by rw [List.length_zipWith, hr1.1, hr2.1, Nat.min_self]) (fun z hz => ?_) (by omega) rfl
            rw [← List.map_uncurry_zip_eq_zipWith] at hz
            obtain ⟨p, hp, rfl⟩ := List.mem_map.mp hz
            have m1 := hr1.2 _ (List.of_mem_zip hp).1
            have m2 := hr2.2 _ (List.of_mem_zip hp).2
            have c1 : ((f1 - 3) * p.1).natAbs ≤ 3 * (1000000 * 6 ^ k) := by
              rw [Int.natAbs_mul]
              exact Nat.mul_le_mul (by omega) m1
            have c2 : ((f2 - 3) * p.2).natAbs ≤ 3 * (1000000 * 6 ^ k) := by
              rw [Int.natAbs_mul]
              exact Nat.mul_le_mul (by omega) m2
            have c3 : (Function.uncurry (fun a b => (f1 - 3) * a + (f2 - 3) * b) p) = (f1 - 3) * p.1 + (f2 - 3) * p.2 := rfl
            rw [c3, Nat.pow_succ]
            omega
      · rw [if_neg (by simpa using hway)]
        repeat walk_at "k"
        exact plain _ _ _ _ _ _
  · rintro δ c' ⟨rows, j, v3, v4, v5, v6, v7, v8, v9, v10, v11, v12, rfl, hk, hj, hr, rfl⟩
    refine ⟨trivial, ?_⟩
    repeat walk_at "k"
    refine e_frzL bx_lst ?_
    repeat walk_at "k"
    have hk6 : rows.length ≤ 6 := by
      rw [hk]
      unfold rngD
      rw [List.length_map, List.length_range]
      omega
    have el : (c.set i (SO.box j)).length = c.length := List.length_set
    have etk : ((bx c i j (rowsD rows)).set c.length (SO.frz (.lst (rowsD rows)))).take c.length = c.set i (.box j) := by
      unfold bx
      rw [List.set_append_right _ _ (by rw [el]; exact Nat.le_refl _), List.take_left' el]
    refine .inr ⟨?_, ?_, ?_⟩
    · rw [etk]
      intro a o ho
      rw [List.getElem?_set] at ho
      split at ho
      · rename_i e
        subst e
        split at ho
        · cases ho
          exact .inr rfl
        · cases ho
      · exact .inl ho
    · show nb c.length (.lst [.int (w : Int), .lst (rowsD rows)]) = true
      have e := nbL_ker c.length rows
      simp only [nb, nbL, rowsD, e, Bool.and_true, Bool.true_and]
    · rw [etk]
      refine q w rows j (by omega) (by omega) hk6 (fun r hr' => ⟨(hr r hr').1, fun x hx => Nat.le_trans ((hr r hr').2 x hx) (Nat.mul_le_mul_left _ (Nat.pow_le_pow_right (by decide) (by omega)))⟩) (by omega)
end K14
set_option Elab.async false
set_option linter.all false
set_option maxRecDepth 100000
set_option maxHeartbeats 3900000
namespace K14
open PySem PySem.Spec PyProof.Rows L2 G M
set_option synthInstance.maxHeartbeats 0
set_option synthInstance.maxSize 1000000
local macro_rules | `(tactic| walk_at "s") => `(tactic| exact Ok.ok)
def m_l_kernel_right {P : Program} {K : PySem.W.Frag} {mg : Str → Option Value} (T : Top P K mg) : Fn := fnD 3 8 (seqM (asgM (callM (m_kernel_of T) [] (consM (varM 0) (consM (varM 1) nilM))) (gnameM 3))
    (seqM (ifS (orT (notT (testM (cbM (isiD K) (consM (varM 3) (consM (cM (.ty "list")) nilM))))) (orT (testM (opM neD (cbM lenD (consM (varM 3) nilM)) (opM subD (varM 1) (varM 2)))) (testM (opM neD (callM (m_l_rank T) [] (consM (varM 3) nilM)) (cbM lenD (consM (varM 3) nilM))))))
    (retM (cM (.bl false)))
    nextM)
    (seqM (forM (itM (varM 3)) (gnameM 4) (seqM (ifS (orT (notT (testM (cbM (isiD K) (consM (varM 4) (consM (cM (.ty "list")) nilM))))) (orT (testM (opM neD (cbM lenD (consM (varM 4) nilM)) (varM 1))) (notT (testM (callM (m_l_upright T) [] (consM (varM 4) nilM))))))
    (retM (cM (.bl false)))
    nextM)
    (ifS (testM (opM neD (lcM false (itM (varM 0)) (gnameM 5) (testM (opM neD (cbM sumD (consM (lcM false (zipM (consM (varM 5) (consM (varM 4) nilM))) (gtupM (gconsM 6 (gconsM 7 gnilM))) yesM (opM (orD (mulD false) mulWD) (varM 6) (varM 7)) [6, 7]) nilM)) (cM (.int 0)))) (varM 5) [5]) (lstM false nilM)))
    (retM (cM (.bl false)))
    nextM)))
    (retM (cM (.bl true))))))
theorem ok_l_kernel_right {P : Program} {w : World} {K : PySem.W.Frag} {mg : Str → Option Value} {base : Heap} (T : Top P K mg) (hB : Tbs T base) : FnOk P w K mg base (L2.CX P w) 6 T.f_l_kernel_right T.fd_l_kernel_right ["_law_rows_here", "_law_width", "_law_rank_here"] (SpG K T.tabs (m_l_kernel_right T)) := by
  refine T.F_l_kernel_right.okX sc_l_kernel_right (fun vs H Q E h => fn_len h) (fun cdv A outer s H vs Q E hr h => ?_)
  have tk : Takes _ (fun cls d _ H => E cls d H) := takes_of (E := E) (X := cxOf (L2.CX P w) P w K mg base ["_law_rows_here", "_law_width", "_law_rank_here", "_law_found", "_law_vector", "_law_row", "_law_a", "_law_b"] "_law_kernel_right" (defScope s_l_kernel_right) T.f_l_kernel_right cdv A outer s H E) rfl rfl rfl rfl
  refine ⟨_, (pss_cons (ps_set (i := 3) sc_l_kernel_right.nd rfl (Or.inl rfl) (pe_callSD (ok_kernel_of T hB) (hr.mono (by decide)) (by rfl) T.g_kernel_of T.F_kernel_of.kp T.b_kernel_of .nil (fun σ => passAt tk σ) (pa_cons (pv 0) (pa_cons (pv 1) pa_nil))))
      (pss_cons (ps_if (PW.pt (pw_or (pt_not (pt_val (pe_callB (call_isiV (K := K) rfl) (by rfl) T.m_isinstance (by decide +kernel) (pa_cons (pv 3) (pa_cons (pe_bltn (v := .ty "list") (by rfl) T.m_list (by decide +kernel) rfl) pa_nil))))) (pw_or (pt_cmpR (op_neU (K := K) rfl hr.units) (pe_callB (call_lenU (K := K) rfl) (by rfl) T.m_len PySem.boot_len (pa_cons (pv 3) pa_nil)) (pe_op op_sub (pv 1) (pv 2)) (nomark _)) (pw_or1 (pt_cmpR (op_neU (K := K) rfl hr.units) (pe_callSD (ok_l_rank T) (hr.mono (by decide)) (by rfl) T.g_l_rank T.F_l_rank.kp T.b_l_rank .nil (fun σ => passAt tk σ) (pa_cons (pv 3) pa_nil)) (pe_callB (call_lenU (K := K) rfl) (by rfl) T.m_len PySem.boot_len (pa_cons (pv 3) pa_nil)) (nomark _)))))) (pss_one (ps_ret pe_bl)) pss_nil)
      (pss_cons (ps_for (passes_of rfl) rfl (pi_V (K := K) rfl (pv 3)) (pg_name (i := 4) sc_l_kernel_right.nd rfl (Or.inr rfl)) (pss_cons (ps_if (PW.pt (pw_or (pt_not (pt_val (pe_callB (call_isiV (K := K) rfl) (by rfl) T.m_isinstance (by decide +kernel) (pa_cons (pv 4) (pa_cons (pe_bltn (v := .ty "list") (by rfl) T.m_list (by decide +kernel) rfl) pa_nil))))) (pw_or (pt_cmpR (op_neU (K := K) rfl hr.units) (pe_callB (call_lenU (K := K) rfl) (by rfl) T.m_len PySem.boot_len (pa_cons (pv 4) pa_nil)) (pv 1) (nomark _)) (pw_or1 (pt_not (pt_val (pe_callSD (ok_l_upright T) (hr.mono (by decide)) (by rfl) T.g_l_upright T.F_l_upright.kp T.b_l_upright .nil (fun σ => passAt tk σ) (pa_cons (pv 4) pa_nil)))))))) (pss_one (ps_ret pe_bl)) pss_nil)
      (pss_one (ps_if (pt_cmpR (op_neU (K := K) rfl hr.units) (pe_lc (own := [("_law_row", 5)]) (g := gName 5) rfl sc_l_kernel_right.nd (pi_V (K := K) rfl (pv 0)) (blkOk_by (own := [("_law_row", 5)]) (N := ["_law_rows_here", "_law_width", "_law_rank_here", "_law_found", "_law_vector", "_law_row", "_law_a", "_law_b"]) (sc := defScope s_l_kernel_right) (by decide +kernel)) (fun _ _ _ _ _ => (pg_name (i := 5) sc_l_kernel_right.nd rfl (Or.inl rfl))) (fun _ _ _ _ _ => (pts_one (pt_cmpR (op_neU (K := K) rfl hr.units) (pe_callB (call_sumU (K := K) rfl rfl) (by rfl) T.m_sum (by decide +kernel) (pa_cons (pe_lc (own := [("_law_a", 6), ("_law_b", 7)]) (g := gTup K 2 (gCons (gName 6) (gCons (gName 7) gNil))) rfl sc_l_kernel_right.nd (pi_zipU (K := K) rfl (pi_zip (by rfl) T.m_zip (pa_cons (pv 5) (pa_cons (pv 4) pa_nil)))) (blkOk_by (own := [("_law_a", 6), ("_law_b", 7)]) (N := ["_law_rows_here", "_law_width", "_law_rank_here", "_law_found", "_law_vector", "_law_row", "_law_a", "_law_b"]) (sc := (relS { kind := PySem.ScopeKind.function, names := [(PySem.Str.ofString ".0", PySem.NameKind.local), (PySem.Str.ofString "_law_row", PySem.NameKind.local), (PySem.Str.ofString "sum", PySem.NameKind.globalImplicit), (PySem.Str.ofString "zip", PySem.NameKind.globalImplicit), (PySem.Str.ofString "_law_vector", PySem.NameKind.free)], isGenerator := false, isCoroutine := false } (defScope s_l_kernel_right))) (by decide +kernel)) (fun _ _ _ _ _ => (pg_tupU (K := K) (n := 2) rfl rfl (pgs_cons (pg_name (i := 6) sc_l_kernel_right.nd rfl (Or.inl rfl)) (pgs_cons (pg_name (i := 7) sc_l_kernel_right.nd rfl (Or.inl rfl)) pgs_nil)))) (fun _ _ _ _ _ => pts_nil) (fun _ _ _ _ _ => (pe_op (op_mulU.or op_mulW) (pv 6) (pv 7)))) pa_nil)) pe_int (nomark _)))) (fun _ _ _ _ _ => (pv 5))) (pe_lst pa_nil) (nomark _)) (pss_one (ps_ret pe_bl)) pss_nil))))
      (pss_one (ps_ret pe_bl))))), fn_ok ?_ h⟩
  clear tk
  repeat walk_at "s"
def m_l_wide_right {P : Program} {K : PySem.W.Frag} {mg : Str → Option Value} (T : Top P K mg) : Fn := fnD 1 10 (seqM (asgM (opM (addD false) (cM (.int 12)) (callM (m_l_take T) [] (consM (varM 0) (consM (cM (.int 19)) nilM)))) (gnameM 1))
    (seqM (asgM (opM (addD false) (cM (.int 3)) (callM (m_l_take T) [] (consM (varM 0) (consM (cM (.int 6)) nilM)))) (gnameM 2))
    (seqM (asgM (lstM true nilM) (gnameM 3))
    (seqM (forM (rng1M (consM (varM 2) nilM)) (gnameM 4) (seqM (asgM (opM (addD false) (opM (addD false) (opM (mulD false) (lstM false (consM (cM (.int 0)) nilM)) (opM (mulD false) (cM (.int 2)) (varM 4))) (lstM false (consM (opM (addD false) (cM (.int 1)) (callM (m_l_take T) [] (consM (varM 0) (consM (cM (.int 3)) nilM)))) nilM))) (lcM false (rng1M (consM (varM 1) nilM)) (gnameM 9) yesM (opM subD (callM (m_l_take T) [] (consM (varM 0) (consM (cM (.int 3)) nilM))) (cM (.int 1))) [9])) (gnameM 5))
    (dropM (bmM "list" appendD (varM 3) (consM (slM (slD false) (opM (addD false) (varM 5) (opM (mulD false) (lstM false (consM (cM (.int 0)) nilM)) (varM 1))) noPartM (partM (varM 1))) nilM)))))
    (seqM (forM (rng2M (consM (cM (.int 1)) (consM (varM 2) nilM))) (gnameM 4) (asgM (lcM false (zipM (consM (opM ixD (varM 3) (varM 4)) (consM (opM ixD (varM 3) (callM (m_l_take T) [] (consM (varM 0) (consM (varM 4) nilM)))) nilM))) (gtupM (gconsM 7 (gconsM 8 gnilM))) yesM (opM (addD false) (varM 7) (varM 8)) [7, 8]) (gsubM (varM 3) (varM 4))))
    (seqM (asgM (callM (m_l_rank T) [] (consM (varM 3) nilM)) (gnameM 6))
    (seqM (dropM (bmM "list" appendD (varM 3) (consM (lcM false (zipM (consM (opM ixD (varM 3) (cM (.int 0))) (consM (opM ixD (varM 3) (unM negD (cM (.int 1)))) nilM))) (gtupM (gconsM 7 (gconsM 8 gnilM))) yesM (opM subD (varM 7) (opM (mulD false) (cM (.int 2)) (varM 8))) [7, 8]) nilM)))
    (retM (andM (opM eqD (callM (m_rank_of T) [] (consM (frzM (varM 3)) nilM)) (varM 6)) (callM (m_l_kernel_right T) [] (consM (frzM (varM 3)) (consM (varM 1) (consM (varM 6) nilM)))))))))))))
theorem ok_l_wide_right {P : Program} {w : World} {K : PySem.W.Frag} {mg : Str → Option Value} {base : Heap} (T : Top P K mg) (hB : Tbs T base) : FnOk P w K mg base (L2.CX P w) 7 T.f_l_wide_right T.fd_l_wide_right ["_law_box_here"] (SpG K T.tabs (m_l_wide_right T)) := by
  refine T.F_l_wide_right.okX sc_l_wide_right (fun vs H Q E h => fn_len h) (fun cdv A outer s H vs Q E hr h => ?_)
  have tk : Takes _ (fun cls d _ H => E cls d H) := takes_of (E := E) (X := cxOf (L2.CX P w) P w K mg base ["_law_box_here", "_law_width", "_law_size", "_law_rows_here", "_law_at", "_law_row", "_law_due", "_law_a", "_law_b", "_law_place"] "_law_wide_right" (defScope s_l_wide_right) T.f_l_wide_right cdv A outer s H E) rfl rfl rfl rfl
  refine ⟨_, (pss_cons (ps_set (i := 1) sc_l_wide_right.nd rfl (Or.inl rfl) (pe_op op_addU pe_int (pe_callSD (ok_l_take T) (hr.mono (by decide)) (by rfl) T.g_l_take T.F_l_take.kp T.b_l_take .nil (fun σ => passAt tk σ) (pa_cons (pv 0) (pa_cons pe_int pa_nil)))))
      (pss_cons (ps_set (i := 2) sc_l_wide_right.nd rfl (Or.inl rfl) (pe_op op_addU pe_int (pe_callSD (ok_l_take T) (hr.mono (by decide)) (by rfl) T.g_l_take T.F_l_take.kp T.b_l_take .nil (fun σ => passAt tk σ) (pa_cons (pv 0) (pa_cons pe_int pa_nil)))))
      (pss_cons (ps_set (i := 3) sc_l_wide_right.nd rfl (Or.inl rfl) (pe_lst pa_nil))
      (pss_cons (ps_for (passes_of rfl) rfl (pi_range1 (by rfl) T.m_range (pa_cons (pv 2) pa_nil)) (pg_name (i := 4) sc_l_wide_right.nd rfl (Or.inl rfl)) (pss_cons (ps_set (i := 5) sc_l_wide_right.nd rfl (Or.inl rfl) (pe_op op_addU (pe_op op_addU (pe_op op_mulU (pe_lst (pa_cons pe_int pa_nil)) (pe_op op_mulU pe_int (pv 4))) (pe_lst (pa_cons (pe_op op_addU pe_int (pe_callSD (ok_l_take T) (hr.mono (by decide)) (by rfl) T.g_l_take T.F_l_take.kp T.b_l_take .nil (fun σ => passAt tk σ) (pa_cons (pv 0) (pa_cons pe_int pa_nil)))) pa_nil))) (pe_lc (own := [("_law_place", 9)]) (g := gName 9) rfl sc_l_wide_right.nd (pi_range1 (by rfl) T.m_range (pa_cons (pv 1) pa_nil)) (blkOk_by (own := [("_law_place", 9)]) (N := ["_law_box_here", "_law_width", "_law_size", "_law_rows_here", "_law_at", "_law_row", "_law_due", "_law_a", "_law_b", "_law_place"]) (sc := defScope s_l_wide_right) (by decide +kernel)) (fun _ _ _ _ _ => (pg_name (i := 9) sc_l_wide_right.nd rfl (Or.inl rfl))) (fun _ _ _ _ _ => pts_nil) (fun _ _ _ _ _ => (pe_op op_sub (pe_callSD (ok_l_take T) (hr.mono (by decide)) (by rfl) T.g_l_take T.F_l_take.kp T.b_l_take .nil (fun σ => passAt takesF σ) (pa_cons (pv 0) (pa_cons pe_int pa_nil))) pe_int)))))
      (pss_one (ps_expr (pe_bmU (K := K) rfl PySem.F.plainAttrs_list PySem.F.slot_list_append PySem.F.type_list_append mt_append (pv 3) (pa_cons (pe_slice (sl_U (K := K) rfl) (pe_op op_addU (pv 5) (pe_op op_mulU (pe_lst (pa_cons pe_int pa_nil)) (pv 1))) po_none (po_some (pv 1))) pa_nil))))))
      (pss_cons (ps_for (passes_of rfl) rfl (pi_range2 (by rfl) T.m_range (pa_cons pe_int (pa_cons (pv 2) pa_nil))) (pg_name (i := 4) sc_l_wide_right.nd rfl (Or.inl rfl)) (pss_one (ps_asg (pe_lc (own := [("_law_a", 7), ("_law_b", 8)]) (g := gTup K 2 (gCons (gName 7) (gCons (gName 8) gNil))) rfl sc_l_wide_right.nd (pi_zipU (K := K) rfl (pi_zip (by rfl) T.m_zip (pa_cons (pe_ix (ix_U (K := K) rfl) (pv 3) (pv 4) (fun _ _ => rfl)) (pa_cons (pe_ix (ix_U (K := K) rfl) (pv 3) (pe_callSD (ok_l_take T) (hr.mono (by decide)) (by rfl) T.g_l_take T.F_l_take.kp T.b_l_take .nil (fun σ => passAt tk σ) (pa_cons (pv 0) (pa_cons (pv 4) pa_nil))) (fun _ _ => rfl)) pa_nil)))) (blkOk_by (own := [("_law_a", 7), ("_law_b", 8)]) (N := ["_law_box_here", "_law_width", "_law_size", "_law_rows_here", "_law_at", "_law_row", "_law_due", "_law_a", "_law_b", "_law_place"]) (sc := defScope s_l_wide_right) (by decide +kernel)) (fun _ _ _ _ _ => (pg_tupU (K := K) (n := 2) rfl rfl (pgs_cons (pg_name (i := 7) sc_l_wide_right.nd rfl (Or.inl rfl)) (pgs_cons (pg_name (i := 8) sc_l_wide_right.nd rfl (Or.inl rfl)) pgs_nil)))) (fun _ _ _ _ _ => pts_nil) (fun _ _ _ _ _ => (pe_op op_addU (pv 7) (pv 8)))) (pg_sub (pv 3) (pv 4) set_list))))
      (pss_cons (ps_set (i := 6) sc_l_wide_right.nd rfl (Or.inl rfl) (pe_callSD (ok_l_rank T) (hr.mono (by decide)) (by rfl) T.g_l_rank T.F_l_rank.kp T.b_l_rank .nil (fun σ => passAt tk σ) (pa_cons (pv 3) pa_nil)))
      (pss_cons (ps_expr (pe_bmU (K := K) rfl PySem.F.plainAttrs_list PySem.F.slot_list_append PySem.F.type_list_append mt_append (pv 3) (pa_cons (pe_lc (own := [("_law_a", 7), ("_law_b", 8)]) (g := gTup K 2 (gCons (gName 7) (gCons (gName 8) gNil))) rfl sc_l_wide_right.nd (pi_zipU (K := K) rfl (pi_zip (by rfl) T.m_zip (pa_cons (pe_ix (ix_U (K := K) rfl) (pv 3) pe_int (fun _ _ => rfl)) (pa_cons (pe_ix (ix_U (K := K) rfl) (pv 3) (pe_un un_neg pe_int) (fun _ _ => rfl)) pa_nil)))) (blkOk_by (own := [("_law_a", 7), ("_law_b", 8)]) (N := ["_law_box_here", "_law_width", "_law_size", "_law_rows_here", "_law_at", "_law_row", "_law_due", "_law_a", "_law_b", "_law_place"]) (sc := defScope s_l_wide_right) (by decide +kernel)) (fun _ _ _ _ _ => (pg_tupU (K := K) (n := 2) rfl rfl (pgs_cons (pg_name (i := 7) sc_l_wide_right.nd rfl (Or.inl rfl)) (pgs_cons (pg_name (i := 8) sc_l_wide_right.nd rfl (Or.inl rfl)) pgs_nil)))) (fun _ _ _ _ _ => pts_nil) (fun _ _ _ _ _ => (pe_op op_sub (pv 7) (pe_op op_mulU pe_int (pv 8))))) pa_nil)))
      (pss_one (ps_ret (pe_and (pe_cmpR (op_eqU (K := K) rfl hr.units) (pe_callSD (ok_rank_of T hB) (hr.mono (by decide)) (by rfl) T.g_rank_of T.F_rank_of.kp T.b_rank_of .nil (fun σ => passAt tk σ) (pa_cons (pv 3) pa_nil)) (pv 6) (nomark _)) (pe_one (pe_callSD (ok_l_kernel_right T hB) (hr.mono (by decide)) (by rfl) T.g_l_kernel_right T.F_l_kernel_right.kp T.b_l_kernel_right .nil (fun σ => passAt tk σ) (pa_cons (pv 3) (pa_cons (pv 1) (pa_cons (pv 6) pa_nil))))))))))))))), fn_ok ?_ h⟩
  clear tk
  repeat walk_at "s"
end K14
set_option Elab.async false
set_option linter.all false
set_option maxRecDepth 100000
set_option maxHeartbeats 600000
namespace K14
open PySem PySem.Spec PyProof.Rows L2 G M Lin
local macro_rules | `(tactic| walk_at "m") => `(tactic| first
  | (with_reducible refine' e_seq ?_)
  | ((with_reducible refine' e_var ?h ?_); (case h => exact rfl))
  | (with_reducible refine' e_c ?_)
  | (with_reducible refine' e_op ?_)
  | (with_reducible refine' e_asg ?_)
  | (with_reducible refine' e_gname ?_)
  | (with_reducible refine' e_ifS ?_)
  | (with_reducible refine' e_test ?_)
  | (with_reducible refine' e_bl ?_)
  | (with_reducible refine' e_cb ?_)
  | (with_reducible refine' e_cons ?_)
  | (with_reducible refine' e_nil ?_)
  | (with_reducible refine' e_call ?_)
  | (with_reducible refine' e_ret ?_)
  | (with_reducible refine' e_drop ?_)
  | (with_reducible refine' e_next ?_)
  | (with_reducible refine' e_andT ?_)
  | (with_reducible refine' e_orT ?_)
  | (with_reducible refine' e_notT ?_)
  | (with_reducible refine' e_andM ?_)
  | (with_reducible refine' e_orM ?_)
  | (with_reducible refine' e_notM ?_)
  | (with_reducible refine' e_ifM ?_)
  | (with_reducible refine' e_chain ?_)
  | (with_reducible refine' e_un ?_)
  | (with_reducible refine' e_lst ?_)
  | (with_reducible refine' e_lstO ?_)
  | (with_reducible refine' e_tup ?_)
  | (with_reducible refine' e_par ?_)
  | (with_reducible refine' e_raise ?_)
  | (with_reducible refine' e_for ?_)
  | (with_reducible refine' e_meth ?_)
  | (with_reducible refine' e_prop ?_)
  | (with_reducible refine' e_make ?_)
  | (with_reducible refine' e_fld ?_)
  | (with_reducible refine' e_sfld ?_)
  | (with_reducible refine' e_noPart ?_)
  | (with_reducible refine' e_part ?_)
  | (with_reducible refine' e_int ?_)
  | (with_reducible refine' e_sl ?_)
  | (with_reducible refine' e_bm ?_)
  | (with_reducible refine' e_bm0 ?_)
  | (with_reducible refine' e_m1 ?_)
  | (with_reducible refine' e_it ?_)
  | (with_reducible refine' e_rng1 ?_)
  | (with_reducible refine' e_lc ?_)
  | (with_reducible refine' e_caught ?_)
  | (with_reducible refine' e_two ?_)
  | (with_reducible refine' e_one ?_)
  | (with_reducible refine' e_ifT ?_)
  | (with_reducible refine' e_ifF ?_)
  | (with_reducible refine' e_ifNT ?_)
  | (with_reducible refine' e_ifNF ?_)
  | (with_reducible refine' e_yes ?_)
  | (with_reducible refine' e_turn ?_)
  | (with_reducible refine' e_js ?_)
  | (with_reducible refine' e_jsc ?_)
  | (with_reducible refine' e_jsn ?_)
  | (with_reducible refine' e_fmt ?_)
  | (with_reducible refine' e_leI ?_)
  | (with_reducible refine' e_ltI ?_)
  | (with_reducible refine' e_gtI ?_)
  | (with_reducible refine' e_geI ?_)
  | (with_reducible refine' e_ltS ?_)
  | (with_reducible refine' e_eqI ?_)
  | (with_reducible refine' e_eqS ?_)
  | (with_reducible refine' e_neI ?_)
  | (with_reducible refine' e_neS ?_)
  | (with_reducible refine' e_neB ?_)
  | (with_reducible refine' e_isB ?_)
  | (with_reducible refine' e_isntB ?_)
  | (with_reducible refine' e_addI ?_)
  | (with_reducible refine' e_subI ?_)
  | (with_reducible refine' e_int1 ?_)
  | (with_reducible refine' e_max2 ?_)
  | (with_reducible refine' e_min2 ?_)
  | (with_reducible refine' e_lenL ?_)
  | (with_reducible refine' e_lenT ?_)
  | (with_reducible refine' e_lenR ?_)
  | (with_reducible refine' e_modI (by decide) ?_))
set_option synthInstance.maxHeartbeats 0
set_option synthInstance.maxSize 100000
local macro_rules | `(tactic| walk_at "k") => `(tactic| first
  | refine wgo ?_
  | ((with_reducible refine' e_var ?h ?_); (case h => exact rfl))
  | (with_reducible refine' e_gname ?_)
  | (with_reducible refine' e_modI (by decide) ?_)
  | ((with_reducible refine' e_sz ?h ?_); (case h => exact rfl)))
variable {P : Program} {K : PySem.W.Frag} {mg : Str → Option Value} {T : Top P K mg} {c : SH} {Ψ : XD} {Φ : QD}
theorem e_sumI {zs : List Int} (q : Φ (.int zs.sum) c) : sumD [.lst (zs.map .int)] c Φ := by
  show (match intsD (zs.map .int) with | some bs => Φ (.int bs.sum) c | none => False)
  have := ints_of_map (fun i : Int => i) zs
  rw [show zs.map D.int = zs.map fun i => D.int i from rfl, this, List.map_id']
  exact q
theorem range_cut : ∀ (w : Nat) (ks : List Nat), ks.Nodup → (∀ k ∈ ks, k < w) → ((List.range w).filter fun f => decide (f ∉ ks)).length + ks.length = w := by
  intro w ks nd lt
  have e : ((List.range w).filter fun f => decide (f ∈ ks)).length = ks.length := by
    refine List.Perm.length_eq ((List.perm_ext_iff_of_nodup (List.nodup_range.sublist (List.filter_sublist)) nd).mpr fun a => ?_)
    rw [List.mem_filter, List.mem_range, decide_eq_true_eq]
    exact ⟨fun h => h.2, fun h => ⟨lt a h, h⟩⟩
  have t := List.length_eq_countP_add_countP (fun f => decide (f ∈ ks)) (l := List.range w)
  rw [List.countP_eq_length_filter, List.countP_eq_length_filter, List.length_range, e] at t
  have e4 : List.filter (fun a => decide ¬decide (a ∈ ks) = true) (List.range w) = List.filter (fun f => decide ¬f ∈ ks) (List.range w) := List.filter_congr fun x _ => by
    by_cases h : x ∈ ks <;> simp [h]
  rw [e4] at t
  omega
theorem kerL_len {rows : List (List Int)} {w : Nat} (h : ∀ r ∈ rows, r.length = w) : (kerL (red rows) w).length + (red rows).length = w := by
  obtain ⟨P, hI⟩ := red_inv h
  unfold kerL
  rw [List.length_map]
  have := range_cut w ((red rows).map (·.1)) hI.nd fun k hk => by
    obtain ⟨e, he, rfl⟩ := List.mem_map.mp hk
    exact hI.lt e he
  rw [List.length_map] at this
  exact this
theorem kerL_ok {rows : List (List Int)} {w N B : Nat} (g : Given w N B rows) : ∀ v ∈ kerL (red rows) w, v.length = w ∧ gcdL v = 1 ∧ (∃ i, fstNz v = some i ∧ 0 < vec v i) ∧ (∀ r ∈ rows, (List.zipWith (· * ·) r v).sum = 0) ∧ ∀ j, (vec v j).natAbs ≤ W0 N B := by
  obtain ⟨P, hI⟩ := red_inv g.len
  have iB : InvB w N B (red rows) := invB hI g (fun r hr => List.mem_reverse.mp hr) (red_len _ _ rfl)
  intro v hv
  unfold kerL at hv
  obtain ⟨f, hf, rfl⟩ := List.mem_map.mp hv
  obtain ⟨f1, f2⟩ := List.mem_filter.mp hf
  have ok := ker_ok hI (B := B) (fun r hr => g.le r (List.mem_reverse.mp hr)) (List.mem_range.mp f1) (fun e he q => of_decide_eq_true f2 (List.mem_map.mpr ⟨e, he, q⟩))
  refine ⟨ok.len, ok.pr, ok.up, fun r hr => ?_, fun j => ?_⟩
  · rw [dot_lists r _ w (g.len r hr) ok.len]
    exact ok.dot0 r (List.mem_reverse.mpr hr)
  · have b : (red rows).length * B ≤ N * B := Nat.mul_le_mul_right _ iB.few
    exact Nat.le_trans (ok.small j) (Nat.le_trans (Nat.pow_le_pow_left b _) (Nat.pow_le_pow_right g.fits.one iB.few))
theorem kerL_ind {rows : List (List Int)} {w N B : Nat} (g : Given w N B rows) : LinInd ((kerL (red rows) w).map vec) := by
  obtain ⟨P, hI⟩ := red_inv g.len
  have nd : ((List.range w).filter fun f => decide (f ∉ (red rows).map (·.1))).Nodup := List.nodup_range.sublist List.filter_sublist
  have ok : ∀ f ∈ (List.range w).filter (fun f => decide (f ∉ (red rows).map (·.1))), KerOk w B (red rows) rows.reverse f (kvec (red rows) w f) := fun f hf => by
    obtain ⟨f1, f2⟩ := List.mem_filter.mp hf
    exact ker_ok hI (fun r hr => g.le r (List.mem_reverse.mp hr)) (List.mem_range.mp f1) (fun e he q => of_decide_eq_true f2 (List.mem_map.mpr ⟨e, he, q⟩))
  have := ind_of (l := ((List.range w).filter fun f => decide (f ∉ (red rows).map (·.1))).map fun f => (f, kvec (red rows) w f)) ?_ ?_ ?_
  · unfold kerL
    rw [List.map_map] at this ⊢
    exact this
  · intro e he
    obtain ⟨f, hf, rfl⟩ := List.mem_map.mp he
    exact (ok f hf).own
  · intro e he e' he' hne
    obtain ⟨f, hf, rfl⟩ := List.mem_map.mp he
    obtain ⟨f', hf', rfl⟩ := List.mem_map.mp he'
    have a := List.mem_filter.mp hf'
    exact (ok f hf).zo f' (List.mem_range.mp a.1) (fun q => hne q.symm) fun e he q => of_decide_eq_true a.2 (List.mem_map.mpr ⟨e, he, q⟩)
  · rw [List.map_map]
    exact (List.map_id _).symm ▸ nd
theorem z_lkernel {rows : List (List Int)} {w N B M : Nat} {k : Nat} (g : Given w N B rows) (hr9 : rows.length < 900) (hk : IsRank (rows.map vec) k) (hM : w ≤ M + k) (h1 : 1 ≤ M * W0 N B) (h2 : W0 M (W0 N B) < 2 ^ 9000) (q : Φ (.bl true) c) : m_l_kernel_right T [.lst (rows.map fun r => .lst (r.map .int)), .int (w : Int), .int (k : Nat)] c Ψ Φ := by
  refine e_fn (δ := [some _, some _, some _, none, none, none, none, none]) rfl rfl ?_
  repeat walk_at "k"
  have ek : k = (red rows).length := hk.same (red_rank g.len)
  have kl := kerL_len g.len
  have ko := kerL_ok g
  have ki := kerL_ind g
  refine z_kernel ⟨_, .inl rfl, List.length_map .., fun i x hx => ?_⟩ g ?_
  · rw [List.getElem?_map] at hx
    obtain ⟨r, h3, rfl⟩ := Option.map_eq_some_iff.mp hx
    exact ⟨r, h3, IsRow.lst r⟩
  generalize kerL (red rows) w = ker at *
  have islist : ∀ xs, Isi K c (.lst xs) (.type "list") true := fun xs => isi_ty (n := "list") rfl (kit_ty (by decide +kernel))
  have kn : ker.length ≤ M := by omega
  have kw := g.w9
  have gl : GivenL w M (W0 N B) ker := ⟨fun v hv => (ko v hv).1, fun v hv => (ko v hv).2.2.2.2, g.w9, h1, h2⟩
  repeat walk_at "k"
  refine e_isi (islist _) ?_
  repeat walk_at "k"
  rw [List.length_map, if_neg (by simp; omega)]
  repeat walk_at "k"
  refine z_lrank gl kn (by omega) fun k2 hk2 => ?_
  have ek2 : k2 = ker.length := by
    have := hk2.same (IsRank.ind ki)
    rwa [List.length_map] at this
  repeat walk_at "k"
  rw [List.length_map, if_neg (by simp; omega)]
  repeat walk_at "k"
  have one := g.fits.one
  have wk := W_pow (i := 0) g.fits (Nat.zero_le _)
  have big : (2 : Nat) ^ 9000 ≤ 2 ^ 400000 := Nat.pow_le_pow_right (by decide) (by decide)
  have hB : B < 2 ^ 400000 := (bd_at (X := B) (i := 0) g.fits (Nat.zero_le _) (by simp)).2.1
  refine for_at (fun i δ c' => c' = c ∧ ∃ v4 v5 v6 v7, δ = [some (.lst (rows.map fun r => .lst (r.map .int))), some (.int (w : Int)), some (.int (k : Nat)), some (.lst (ker.map fun v => .lst (v.map .int))), v4, v5, v6, v7]) _ ?_ ?_ ⟨rfl, _, _, _, _, rfl⟩
  · rintro i y hy δ c' e' ⟨rfl, v4, v5, v6, v7, rfl⟩ nx _ _ _ _
    rw [List.getElem?_map] at hy
    obtain ⟨v, hv, rfl⟩ := Option.map_eq_some_iff.mp hy
    obtain ⟨o1, o2, ⟨s, o3, o4⟩, o5, o6⟩ := ko v (List.mem_of_getElem? hv)
    refine ⟨rfl, ?_⟩
    repeat walk_at "k"
    refine e_isi (islist _) ?_
    repeat walk_at "k"
    rw [List.length_map, o1, if_neg (by simp)]
    repeat walk_at "k"
    refine z_lupright (by omega) o2 o3 o4 ?_
    repeat walk_at "k"
    refine lc_map (fun r : List Int => D.lst (r.map .int)) (fun _ => none) (by rfl) rows [] (by show 0 + _ < sizeLine; rw [Nat.zero_add]; exact lt_sz hr9) (fun r hr kk hkk => ?_) ?_
    · repeat walk_at "k"
      unfold zipM
      repeat walk_at "k"
      show lcD _ _ (zipD (r.map D.int) (v.map D.int)) _ _ _
      rw [zipD_ints]
      refine lc_map (F := fun p : Int × Int => D.tup [.int p.1, .int p.2]) (f := fun z => some (.int (z.1 * z.2))) ⟨rfl, rfl⟩ _ [] (by show 0 + _ < sizeLine; rw [List.length_zip, g.len r hr, o1, Nat.min_self, Nat.zero_add]; exact lt_sz g.w9) (fun z hz k2 hk2 => ?_) ?_
      · have hz1 := mem_le (g.le r hr) _ (List.of_mem_zip hz).1
        have hz2 := mem_le o6 _ (List.of_mem_zip hz).2
        repeat walk_at "k"
        refine e_mulW (Bd.mulOk (a := 400000) (b := 400000) (show _ < _ from by omega) (show _ < _ from by omega) (by decide) (by decide) (by decide)) ?_
        exact hk2
      · rw [List.nil_append, fm_zip fun a b => a * b]
        refine e_ifF ?_
        repeat walk_at "k"
        refine e_sumI ?_
        repeat walk_at "k"
        rw [o5 r hr, if_neg (by simp)]
        exact hkk
    · rw [List.nil_append, show rows.filterMap (fun _ => (none : Option D)) = [] from List.filterMap_eq_nil_iff.mpr fun _ _ => rfl]
      refine e_ifF ?_
      repeat walk_at "k"
      refine e_neIs (xs := []) (ys := []) rfl rfl ?_
      repeat walk_at "k"
      rw [if_neg (by simp)]
      repeat walk_at "k"
      exact nx _ _ ⟨rfl, _, _, _, _, rfl⟩
  · rintro δ c' ⟨rfl, v4, v5, v6, v7, rfl⟩
    refine ⟨rfl, ?_⟩
    repeat walk_at "k"
    exact e_clo q
end K14
set_option Elab.async false
set_option linter.all false
set_option maxRecDepth 100000
set_option maxHeartbeats 600000
namespace K14
open PySem PySem.Spec PyProof.Rows L2 G M Lin
local macro_rules | `(tactic| walk_at "m") => `(tactic| first
  | (with_reducible refine' e_seq ?_)
  | ((with_reducible refine' e_var ?h ?_); (case h => exact rfl))
  | (with_reducible refine' e_c ?_)
  | (with_reducible refine' e_op ?_)
  | (with_reducible refine' e_asg ?_)
  | (with_reducible refine' e_gname ?_)
  | (with_reducible refine' e_ifS ?_)
  | (with_reducible refine' e_test ?_)
  | (with_reducible refine' e_bl ?_)
  | (with_reducible refine' e_cb ?_)
  | (with_reducible refine' e_cons ?_)
  | (with_reducible refine' e_nil ?_)
  | (with_reducible refine' e_call ?_)
  | (with_reducible refine' e_ret ?_)
  | (with_reducible refine' e_drop ?_)
  | (with_reducible refine' e_next ?_)
  | (with_reducible refine' e_andT ?_)
  | (with_reducible refine' e_orT ?_)
  | (with_reducible refine' e_notT ?_)
  | (with_reducible refine' e_andM ?_)
  | (with_reducible refine' e_orM ?_)
  | (with_reducible refine' e_notM ?_)
  | (with_reducible refine' e_ifM ?_)
  | (with_reducible refine' e_chain ?_)
  | (with_reducible refine' e_un ?_)
  | (with_reducible refine' e_lst ?_)
  | (with_reducible refine' e_lstO ?_)
  | (with_reducible refine' e_tup ?_)
  | (with_reducible refine' e_par ?_)
  | (with_reducible refine' e_raise ?_)
  | (with_reducible refine' e_for ?_)
  | (with_reducible refine' e_meth ?_)
  | (with_reducible refine' e_prop ?_)
  | (with_reducible refine' e_make ?_)
  | (with_reducible refine' e_fld ?_)
  | (with_reducible refine' e_sfld ?_)
  | (with_reducible refine' e_noPart ?_)
  | (with_reducible refine' e_part ?_)
  | (with_reducible refine' e_int ?_)
  | (with_reducible refine' e_sl ?_)
  | (with_reducible refine' e_bm ?_)
  | (with_reducible refine' e_bm0 ?_)
  | (with_reducible refine' e_m1 ?_)
  | (with_reducible refine' e_it ?_)
  | (with_reducible refine' e_rng1 ?_)
  | (with_reducible refine' e_lc ?_)
  | (with_reducible refine' e_caught ?_)
  | (with_reducible refine' e_two ?_)
  | (with_reducible refine' e_one ?_)
  | (with_reducible refine' e_ifT ?_)
  | (with_reducible refine' e_ifF ?_)
  | (with_reducible refine' e_ifNT ?_)
  | (with_reducible refine' e_ifNF ?_)
  | (with_reducible refine' e_yes ?_)
  | (with_reducible refine' e_turn ?_)
  | (with_reducible refine' e_js ?_)
  | (with_reducible refine' e_jsc ?_)
  | (with_reducible refine' e_jsn ?_)
  | (with_reducible refine' e_fmt ?_)
  | (with_reducible refine' e_leI ?_)
  | (with_reducible refine' e_ltI ?_)
  | (with_reducible refine' e_gtI ?_)
  | (with_reducible refine' e_geI ?_)
  | (with_reducible refine' e_ltS ?_)
  | (with_reducible refine' e_eqI ?_)
  | (with_reducible refine' e_eqS ?_)
  | (with_reducible refine' e_neI ?_)
  | (with_reducible refine' e_neS ?_)
  | (with_reducible refine' e_neB ?_)
  | (with_reducible refine' e_isB ?_)
  | (with_reducible refine' e_isntB ?_)
  | (with_reducible refine' e_addI ?_)
  | (with_reducible refine' e_subI ?_)
  | (with_reducible refine' e_int1 ?_)
  | (with_reducible refine' e_max2 ?_)
  | (with_reducible refine' e_min2 ?_)
  | (with_reducible refine' e_lenL ?_)
  | (with_reducible refine' e_lenT ?_)
  | (with_reducible refine' e_lenR ?_)
  | (with_reducible refine' e_modI (by decide) ?_))
set_option synthInstance.maxHeartbeats 0
set_option synthInstance.maxSize 100000
local macro_rules | `(tactic| walk_at "k") => `(tactic| first
  | refine wgo ?_
  | ((with_reducible refine' e_var ?h ?_); (case h => exact rfl))
  | (with_reducible refine' e_gname ?_)
  | (with_reducible refine' e_modI (by decide) ?_)
  | ((with_reducible refine' e_sz ?h ?_); (case h => exact rfl)))
variable {P : Program} {K : PySem.W.Frag} {mg : Str → Option Value} {T : Top P K mg} {c : SH} {Ψ : XD} {Φ : QD}
theorem e_rep0 {k : Nat} (h : k < 900) (q : Φ (.lst ((List.replicate k (0 : Int)).map .int)) c) : mulD false (.lst [.int 0]) (.int (k : Int)) c Φ := by
  refine ⟨⟨by omega, by omega⟩, ?_⟩
  have e : (List.replicate (k : Int).toNat [D.int 0]).flatten = (List.replicate k (0 : Int)).map .int := by
    rw [Int.toNat_natCast, List.map_replicate]
    exact rep_flat k
  rw [e]
  exact ⟨by rw [List.length_map, List.length_replicate]; exact Nat.le_of_lt (lt_sz h), e_ifF q⟩
theorem e_addIs {a b : List Int} (h : a.length + b.length < 900) (q : Φ (.lst ((a ++ b).map .int)) c) : addD false (.lst (a.map .int)) (.lst (b.map .int)) c Φ := by
  rw [List.map_append] at q
  exact e_addL (Nat.le_of_lt (lt_sz (by rw [List.length_map, List.length_map]; exact h))) q
theorem e_slIs {l : List Int} {k : Nat} (h : k < 900) (q : Φ (.lst ((l.take k).map .int)) c) : slD false (.lst (l.map .int)) none (some (k : Int)) c Φ :=
  e_slL (by rw [cut_take, List.length_map, List.length_take]; exact Nat.le_of_lt (lt_sz (by omega))) (by rw [cut_take]; exact q)
theorem vec_zipW {f : Int → Int → Int} (h0 : f 0 0 = 0) : ∀ {a b : List Int} (j : Nat), a.length = b.length → vec (List.zipWith f a b) j = f (vec a j) (vec b j)
  | [], [], j, _ => by simp [vec, h0]
  | [], _ :: _, _, h => by simp at h
  | _ :: _, [], _, h => by simp at h
  | x :: a, y :: b, 0, _ => rfl
  | x :: a, y :: b, j + 1, h => vec_zipW h0 (a := a) (b := b) j (by simpa using h)
theorem zip_ok {f : Int → Int → Int} {a b : List Int} {w X Y Z : Nat} (ha : a.length = w ∧ ∀ x ∈ a, x.natAbs ≤ X) (hb : b.length = w ∧ ∀ x ∈ b, x.natAbs ≤ Y) (hf : ∀ x y : Int, x.natAbs ≤ X → y.natAbs ≤ Y → (f x y).natAbs ≤ Z) : (List.zipWith f a b).length = w ∧ ∀ x ∈ List.zipWith f a b, x.natAbs ≤ Z := by
  refine ⟨by rw [List.length_zipWith, ha.1, hb.1, Nat.min_self], fun z hz => ?_⟩
  rw [← List.map_uncurry_zip_eq_zipWith] at hz
  obtain ⟨p, hp, rfl⟩ := List.mem_map.mp hz
  exact hf _ _ (ha.2 _ (List.of_mem_zip hp).1) (hb.2 _ (List.of_mem_zip hp).2)
/-- a comprehension over two rows -/
theorem lc_zip {gd : SH → Prop} {turn : D → SH → (Option D → SH → Prop) → Prop} {ΦL : List D → SH → Prop} {a b : List Int} {w : Nat} (f : Int → Int → Int) (hg : gd c) (ha : a.length = w) (hb : b.length = w) (hw : w < 900) (step : ∀ (x y : Int), x ∈ a → y ∈ b → ∀ k, k (some (.int (f x y))) c → turn (.tup [.int x, .int y]) c k) (q : ΦL ((List.zipWith f a b).map .int) c) : lcD gd turn (zipD (a.map .int) (b.map .int)) [] c ΦL := by
  rw [zipD_ints]
  refine lc_map (F := fun p : Int × Int => D.tup [.int p.1, .int p.2]) (f := fun z => some (.int (f z.1 z.2))) hg _ [] (by show 0 + _ < sizeLine; rw [List.length_zip, ha, hb, Nat.min_self, Nat.zero_add]; exact lt_sz hw) (fun z hz k hk => step _ _ (List.of_mem_zip hz).1 (List.of_mem_zip hz).2 k hk) ?_
  rw [List.nil_append, fm_zip f]
  exact q
theorem e_ixLast {d y : D} {xs : List D} (h : view c d = .lst (xs ++ [y])) (q : Φ y c) : ixD d (.int (-1)) c Φ := by
  unfold ixD
  rw [h]
  exact e_ixL (atI_last _ _) q
theorem okc_box {i j : Nat} : okc c (c.set i (.box j)) := by
  intro a o ho
  rw [List.getElem?_set] at ho
  split at ho
  · rename_i e
    subst e
    split at ho
    · cases ho
      exact .inr rfl
    · cases ho
  · exact .inl ho
theorem bx_view {i j : Nat} {X : List D} : view (bx c i j X) (.obj c.length) = .lst X := by
  unfold view
  dsimp only
  rw [bx_lst]
theorem rowsD_len (rows : List (List Int)) : (rowsD rows).length = rows.length := by
  unfold rowsD
  rw [List.length_map]
theorem rowsD_snoc (rows : List (List Int)) (r : List Int) : rowsD (rows ++ [r]) = rowsD rows ++ [.lst (r.map .int)] := by simp [rowsD]
theorem rowsD_set (rows : List (List Int)) (a : Nat) (r : List Int) : (rowsD rows).set a (.lst (r.map .int)) = rowsD (rows.set a r) := by
  unfold rowsD
  rw [List.map_set]
theorem rowsD_get {rows : List (List Int)} {a : Nat} (h : a < rows.length) : (rowsD rows)[a]? = some (.lst (rows[a].map .int)) := by
  unfold rowsD
  rw [List.getElem?_map, List.getElem?_eq_getElem h]
  rfl
theorem z_wide {i n : Nat} (hb : c[i]? = some (.box n)) (hn : n ≤ 100000) (q : ∀ j, j ≤ n + 2000 → Φ (.bl true) (c.set i (.box j))) : m_l_wide_right T [.obj i] c Ψ Φ := by
  refine e_fn (δ := [some _, none, none, none, none, none, none, none, none, none]) rfl rfl ?_
  repeat walk_at "k"
  refine s_take hb (by omega) (by decide) (by decide) fun d0 h0 h1 => ?_
  repeat walk_at "k"
  refine s_take (box_set hb) (by omega) (by decide) (by decide) fun d1 h2 h3 => ?_
  repeat walk_at "k"
  rw [List.length_set, List.length_set]
  obtain ⟨w, ew⟩ : ∃ w : Nat, 12 + d0 = (w : Int) := ⟨(12 + d0).toNat, by omega⟩
  obtain ⟨s, es⟩ : ∃ s : Nat, 3 + d1 = (s : Int) := ⟨(3 + d1).toNat, by omega⟩
  rw [ew, es, List.set_set]
  refine ⟨⟨by omega, by omega⟩, ?_⟩
  have ets : (s : Int).toNat = s := by omega
  have hw30 : w ≤ 30 := by omega
  have hs8 : s ≤ 8 := by omega
  rw [ets]
  refine for_at (fun a δ c' => ∃ (rows : List (List Int)) (j : Nat) (v4 v5 v6 v7 v8 v9 : Option D), c' = bx c i j (rowsD rows) ∧ rows.length = a ∧ j ≤ n + 2 + 40 * a ∧ (∀ r ∈ rows, r.length = w ∧ ∀ x ∈ r, x.natAbs ≤ 3) ∧ δ = [some (.obj i), some (.int (w : Int)), some (.int (s : Int)), some (.obj c.length), v4, v5, v6, v7, v8, v9]) _ ?_ ?_ ⟨[], n + 2, _, _, _, _, _, _, rfl, rfl, by omega, nofun, rfl⟩
  · rintro a y hy δ c' e' ⟨rows, j, v4, v5, v6, v7, v8, v9, rfl, hk, hj, hr, rfl⟩ nx _ _ _ _
    unfold rngD at hy
    rw [List.getElem?_map] at hy
    obtain ⟨z, hz, rfl⟩ := Option.map_eq_some_iff.mp hy
    obtain ⟨hi, rfl⟩ := List.getElem?_eq_some_iff.mp hz
    have ha8 : a < s := by simpa using hi
    rw [List.getElem_range, Int.zero_add]
    refine ⟨trivial, ?_⟩
    repeat walk_at "k"
    refine e_mulI (.inl (by decide)) ?_
    have e2 : (2 * (a : Int)) = ((2 * a : Nat) : Int) := by omega
    rw [e2]
    refine e_rep0 (by omega) ?_
    repeat walk_at "k"
    refine s_take (bx_box hb) (by omega) (by decide) (by decide) fun e1 g1 g2 => ?_
    rw [bx_set hb]
    repeat walk_at "k"
    refine e_addIs (b := [1 + e1]) (by rw [List.length_replicate]; simp; omega) ?_
    repeat walk_at "k"
    refine ⟨⟨by omega, by omega⟩, ?_⟩
    refine lc_draw w 1 3 (bx_box hb) (fun _ => trivial) (fun m x t hm ht => ?_) (by omega) (fun zs hz1 hz2 => ?_) _ (by unfold rngD; rw [List.length_map, List.length_range]; omega)
    · rw [bx_set hb]
      have ht : ∀ z : Int, z.natAbs ≤ 3 → t (some (.int z)) (bx c i (j + 1 + m * 1 + 1) (rowsD rows)) := fun z hz => (by
        have := ht z hz
        rw [bx_set hb] at this
        exact this)
      repeat walk_at "k"
      refine s_take (bx_box hb) (by omega) (by decide) (by decide) fun e2 g3 g4 => ?_
      rw [bx_set hb]
      repeat walk_at "k"
      exact ht _ (by omega)
    · rw [bx_set hb]
      refine e_ifF ?_
      repeat walk_at "k"
      refine e_addIs (by rw [List.length_append, List.length_replicate, hz1]; simp; omega) ?_
      repeat walk_at "k"
      refine ⟨by rw [bx_view]; rfl, ?_⟩
      repeat walk_at "k"
      refine e_rep0 (by omega) ?_
      repeat walk_at "k"
      refine e_addIs (by rw [List.length_append, List.length_append, List.length_replicate, List.length_replicate, hz1]; simp; omega) ?_
      repeat walk_at "k"
      refine e_slIs (by omega) ?_
      repeat walk_at "k"
      refine e_appK bx_lst (by rw [rowsD_len]; omega) ?_
      rw [bx_put]
      have := nx _ _ ⟨rows ++ [((List.replicate (2 * a) 0 ++ [1 + e1] ++ zs) ++ List.replicate w 0).take w], j + 1 + w * 1, some (.int (a : Int)), some (.lst ((List.replicate (2 * a) 0 ++ [1 + e1] ++ zs).map .int)), v6, v7, v8, v9, rfl, by rw [List.length_append, hk]; rfl, by omega, fun r hr' => ?_, rfl⟩
      · rw [rowsD_snoc] at this
        exact this
      · rcases List.mem_append.mp hr' with hr' | hr'
        · exact hr r hr'
        · rw [List.mem_singleton.mp hr']
          refine ⟨?_, fun x hx => ?_⟩
          · rw [List.length_take, List.length_append, List.length_append, List.length_append, List.length_replicate, List.length_replicate, hz1]
            omega
          · have hx := List.mem_of_mem_take hx
            simp only [List.mem_append, List.mem_replicate, List.mem_singleton] at hx
            rcases hx with ((hx | hx) | hx) | hx
            · omega
            · omega
            · exact hz2 x hx
            · omega
  · rintro δ c' ⟨rows, j, v4, v5, v6, v7, v8, v9, rfl, hk, hj, hr, rfl⟩
    have hk : rows.length = s := by
      rw [hk]
      unfold rngD
      rw [List.length_map, List.length_range]
    have hj : j ≤ n + 2 + 40 * 8 := by
      unfold rngD at hj
      rw [List.length_map, List.length_range] at hj
      omega
    refine ⟨trivial, ?_⟩
    repeat walk_at "k"
    refine ⟨⟨by omega, by omega, by omega, by omega⟩, ?_⟩
    have ets1 : ((s : Int) - 1).toNat = s - 1 := by omega
    rw [ets1]
    refine for_at (fun a δ c' => ∃ (rows : List (List Int)) (j : Nat) (v4 v5 v6 v7 v8 v9 : Option D), c' = bx c i j (rowsD rows) ∧ rows.length = s ∧ j ≤ n + 400 + a ∧ (∀ r ∈ rows, r.length = w ∧ ∀ x ∈ r, x.natAbs ≤ 3 * 2 ^ a) ∧ δ = [some (.obj i), some (.int (w : Int)), some (.int (s : Int)), some (.obj c.length), v4, v5, v6, v7, v8, v9]) _ ?_ ?_ ⟨rows, j, _, _, _, _, _, _, rfl, hk, by omega, hr, rfl⟩
    · clear hr hj hk
      rintro a y hy δ c' e' ⟨rows, j, v4, v5, v6, v7, v8, v9, rfl, hk, hj, hr, rfl⟩ nx _ _ _ _
      unfold rngD at hy
      rw [List.getElem?_map] at hy
      obtain ⟨z, hz, rfl⟩ := Option.map_eq_some_iff.mp hy
      obtain ⟨hi, rfl⟩ := List.getElem?_eq_some_iff.mp hz
      have ha8 : a < s - 1 := by simpa using hi
      have ec : (1 : Int) + (((List.range (s - 1))[a] : Nat) : Int) = ((a + 1 : Nat) : Int) := by
        rw [List.getElem_range]
        omega
      rw [ec]
      refine ⟨trivial, ?_⟩
      repeat walk_at "k"
      unfold zipM
      repeat walk_at "k"
      have ha1 : a + 1 < rows.length := by omega
      refine e_ixW bx_view (rowsD_get ha1) ?_
      repeat walk_at "k"
      refine s_take (bx_box hb) (by omega) (by omega) (by omega) fun e1 g1 g2 => ?_
      rw [bx_set hb]
      repeat walk_at "k"
      obtain ⟨a2, rfl⟩ : ∃ a : Nat, e1 = (a : Int) := ⟨e1.toNat, by omega⟩
      have ha2 : a2 < rows.length := by omega
      refine e_ixW bx_view (rowsD_get ha2) ?_
      repeat walk_at "k"
      have hr1 := hr _ (List.getElem_mem ha1)
      have hr2 := hr _ (List.getElem_mem ha2)
      show lcD _ _ (zipD ((rows[a + 1]).map D.int) ((rows[a2]).map D.int)) _ _ _
      refine lc_zip (fun x y => x + y) ⟨rfl, rfl⟩ hr1.1 hr2.1 (by omega) (fun x y hx hy k hk => ?_) ?_
      · repeat walk_at "k"
        exact hk
      · refine e_ifF ?_
        repeat walk_at "k"
        refine e_gsubK (j := a + 1) bx_lst (by unfold ixN; rw [if_pos (by omega), if_pos (by rw [rowsD_len]; omega)]; simp) ?_
        rw [rowsD_set, bx_put]
        refine nx _ _ ⟨_, j + 1, _, _, _, _, _, _, rfl, by rw [List.length_set]; exact hk, by omega, fun r hr' => ?_, rfl⟩
        rcases List.mem_or_eq_of_mem_set hr' with hr' | rfl
        · exact ⟨(hr r hr').1, fun x hx => Nat.le_trans ((hr r hr').2 x hx) (by rw [Nat.pow_succ]; omega)⟩
        · exact zip_ok hr1 hr2 fun x y hx hy => (by rw [Nat.pow_succ]; omega)
    · clear hr hj hk
      rintro δ c' ⟨rows, j, v4, v5, v6, v7, v8, v9, rfl, hk, hj, hr, rfl⟩
      have erl : (rngD 1 (s - 1)).length = s - 1 := by
        unfold rngD
        rw [List.length_map, List.length_range]
      rw [erl] at hr hj
      have hr : ∀ r ∈ rows, r.length = w ∧ ∀ x ∈ r, x.natAbs ≤ 384 := fun r h => ⟨(hr r h).1, fun x hx => Nat.le_trans ((hr r h).2 x hx) (Nat.le_trans (Nat.mul_le_mul_left 3 (Nat.pow_le_pow_right (by decide) (show s - 1 ≤ 7 by omega))) (by decide))⟩
      refine ⟨trivial, ?_⟩
      repeat walk_at "k"
      have vle : ∀ {r : List Int} {X : Nat}, (∀ x ∈ r, x.natAbs ≤ X) → ∀ j, (vec r j).natAbs ≤ X := fun {r X} h j => (by
        rcases vec_mem (l := r) (j := j) with h0 | h0
        · rw [h0]
          exact Nat.zero_le _
        · exact h _ h0)
      have gl : GivenL w 9 1152 rows := ⟨fun r h => (hr r h).1, fun r h => vle fun x hx => Nat.le_trans ((hr r h).2 x hx) (by decide), by omega, by decide, by decide +kernel⟩
      refine z_lrankV bx_view gl (by omega) (by omega) fun k hrk => ?_
      repeat walk_at "k"
      refine ⟨by rw [bx_view]; rfl, ?_⟩
      repeat walk_at "k"
      unfold zipM
      repeat walk_at "k"
      have h0 : 0 < rows.length := by omega
      obtain ⟨ini, la, erows⟩ : ∃ ini la, rows = ini ++ [la] := ⟨_, _, (List.dropLast_concat_getLast (List.length_pos_iff.mp h0)).symm⟩
      have hla : la ∈ rows := by rw [erows]; simp
      refine e_ixW (i := 0) bx_view (rowsD_get h0) ?_
      repeat walk_at "k"
      refine e_ixLast (xs := rowsD ini) (y := .lst (la.map .int)) (by rw [bx_view, erows, rowsD_snoc]) ?_
      repeat walk_at "k"
      have hr0 := hr _ (List.getElem_mem h0)
      have hrl := hr _ hla
      show lcD _ _ (zipD ((rows[0]).map D.int) (la.map D.int)) _ _ _
      refine lc_zip (fun x y => x - 2 * y) ⟨rfl, rfl⟩ hr0.1 hrl.1 (by omega) (fun x y hx hy k hk => ?_) ?_
      · repeat walk_at "k"
        refine e_mulI (.inl (by decide)) ?_
        repeat walk_at "k"
        exact hk
      · refine e_ifF ?_
        repeat walk_at "k"
        refine e_appK bx_lst (by rw [rowsD_len]; omega) ?_
        have hnew := zip_ok (f := fun x y : Int => x - 2 * y) (Z := 1152) hr0 hrl fun x y hx hy => (by omega)
        have hspan : InSpan (vec (List.zipWith (fun x y : Int => x - 2 * y) rows[0] la)) (rows.map vec) := inSpan_add (e := 1) (a := 1) (b := -2) (by decide) (fun j => by
          rw [vec_zipW (by decide) j (hr0.1.trans hrl.1.symm)]
          omega) (inSpan_mem (List.mem_map.mpr ⟨_, List.getElem_mem h0, rfl⟩)) (inSpan_mem (List.mem_map.mpr ⟨_, hla, rfl⟩))
        generalize List.zipWith (fun x y : Int => x - 2 * y) rows[0] la = rn at hnew hspan ⊢
        rw [← rowsD_snoc, bx_put]
        have hr2 : ∀ r ∈ rows ++ [rn], r.length = w ∧ ∀ x ∈ r, x.natAbs ≤ 1152 := fun r h => (by
          rcases List.mem_append.mp h with h | h
          · exact ⟨(hr r h).1, fun x hx => Nat.le_trans ((hr r h).2 x hx) (by decide)⟩
          · rw [List.mem_singleton.mp h]
            exact hnew)
        have hl2 : (rows ++ [rn]).length ≤ 9 := by rw [List.length_append, List.length_singleton]; omega
        have gw : Given w 9 1152 (rows ++ [rn]) := ⟨fun r h => (hr2 r h).1, fun r h => vle (hr2 r h).2, by omega, .inl hl2, ⟨by decide, by decide +kernel⟩⟩
        have hk2 : IsRank ((rows ++ [rn]).map vec) (red (rows ++ [rn])).length := red_rank gw.len
        have ek : k = (red (rows ++ [rn])).length := hrk.uniq hk2 (fun r h => inSpan_mem (by rw [List.map_append]; exact List.mem_append_left _ h)) (fun r h => by
          rw [List.map_append, List.map_singleton] at h
          rcases List.mem_append.mp h with h | h
          · exact inSpan_mem h
          · rw [List.mem_singleton.mp h]
            exact hspan)
        rw [← ek] at hk2
        generalize hrows2 : rows ++ [rn] = rows2 at *
        clear hr hrows2 hspan gl hrk hr0 hrl erows hla h0
        repeat walk_at "k"
        refine e_frzL bx_lst ?_
        repeat walk_at "k"
        have isr : IsRows (.lst (rowsD rows2)) rows2 := ⟨_, .inl rfl, rowsD_len _, fun a x hx => (by
          unfold rowsD at hx
          rw [List.getElem?_map] at hx
          obtain ⟨r, h3, rfl⟩ := Option.map_eq_some_iff.mp hx
          exact ⟨r, h3, IsRow.lst r⟩)⟩
        refine z_rank isr gw ?_
        rw [← ek]
        repeat walk_at "k"
        rw [if_pos (by simp)]
        repeat walk_at "k"
        refine e_frzF (d := .lst (rowsD rows2)) (by rw [List.getElem?_set, if_pos rfl, if_pos (getElem_last (bx_lst (c := c) (i := i) (j := j) (X := rowsD rows2)))]) ?_
        repeat walk_at "k"
        refine z_lkernel (M := 30) gw (by omega) hk2 (by omega) (by decide +kernel) (by decide +kernel) ?_
        repeat walk_at "k"
        have el : (c.set i (SO.box j)).length = c.length := List.length_set
        have etk : ((bx c i j (rowsD rows2)).set c.length (SO.frz (.lst (rowsD rows2)))).take c.length = c.set i (.box j) := by
          unfold bx
          rw [List.set_append_right _ _ (by rw [el]; exact Nat.le_refl _), List.take_left' el]
        refine .inr ⟨?_, rfl, ?_⟩
        · rw [etk]
          exact okc_box
        · rw [etk]
          exact q j (by omega)
end K14
set_option Elab.async false
set_option linter.all false
set_option maxRecDepth 100000
set_option maxHeartbeats 3900000
namespace K14
open PySem PySem.Spec PyProof.Rows L2 G M
set_option synthInstance.maxHeartbeats 0
set_option synthInstance.maxSize 1000000
local macro_rules | `(tactic| walk_at "s") => `(tactic| exact Ok.ok)
def m_law {P : Program} {K : PySem.W.Frag} {mg : Str → Option Value} (T : Top P K mg) : Fn := fnD 1 12 (seqM (forM (rng1M (consM (cbM max2D (consM (cM (.int 2)) (consM (cbM min2D (consM (cM (.int 8)) (consM (cbM lenD (consM (varM 0) nilM)) nilM))) nilM))) nilM)) (gnameM 1) (seqM (asgM (callM (m_l_box T) [] (consM (callM (m_l_cell T) [] (consM (varM 0) (consM (varM 1) nilM))) nilM)) (gnameM 2))
    (seqM (asgM (callM (m_l_rows T) [] (consM (varM 2) nilM)) (gunlM 2 (gconsM 3 (gconsM 4 gnilM))))
    (seqM (parM 5 6 (consM (cbM (orC reprD (orC reprZD reprSD)) (consM (varM 4) nilM)) (consM (callM (m_l_rank T) [] (consM (varM 4) nilM)) nilM)))
    (seqM (forM (rng1M (consM (cM (.int 2)) nilM)) (gnameM 7) (ifS (orT (testM (opM neD (cbM (orC reprD (orC reprZD reprSD)) (consM (callM (m_rank_of T) [] (consM (varM 4) nilM)) nilM)) (cbM (orC reprD (orC reprZD reprSD)) (consM (varM 6) nilM)))) (orT (notT (testM (callM (m_l_kernel_right T) [] (consM (varM 4) (consM (varM 3) (consM (varM 6) nilM)))))) (testM (opM neD (cbM (orC reprD (orC reprZD reprSD)) (consM (varM 4) nilM)) (varM 5)))))
    (retM (cM (.bl false)))
    nextM))
    (seqM (ifS (orT (testM (opM neD (callM (m_rank_of T) [] (consM (revM false (varM 4)) nilM)) (varM 6))) (orT (testM (opM neD (callM (m_rank_of T) [] (consM (lcM false (itM (varM 4)) (gnameM 11) yesM (revM false (varM 11)) [11]) nilM)) (varM 6))) (testM (opM neD (callM (m_rank_of T) [] (consM (opM (addD false) (varM 4) (varM 4)) nilM)) (varM 6)))))
    (retM (cM (.bl false)))
    nextM)
    (seqM (asgM (callM (m_kernel_of T) [] (consM (varM 4) (consM (varM 3) nilM))) (gnameM 8))
    (seqM (forM (itM (varM 8)) (gnameM 9) (dropM (bm0M "list" clearD (varM 9))))
    (seqM (asgM (cbM tupleD (consM (lcM false (itM (varM 4)) (gnameM 11) yesM (cbM tupleD (consM (varM 11) nilM)) [11]) nilM)) (gnameM 10))
    (seqM (ifS (orT (notT (testM (callM (m_l_kernel_right T) [] (consM (varM 4) (consM (varM 3) (consM (varM 6) nilM)))))) (testM (opM neD (callM (m_rank_of T) [] (consM (varM 10) nilM)) (varM 6))))
    (retM (cM (.bl false)))
    nextM)
    (seqM (ifS (testM (opM neD (cbM lenD (consM (callM (m_kernel_of T) [] (consM (varM 10) (consM (varM 3) nilM))) nilM)) (opM subD (varM 3) (varM 6))))
    (retM (cM (.bl false)))
    nextM)
    (ifS (andT (testM (opM eqD (varM 1) (cM (.int 0)))) (notT (testM (callM (m_l_wide_right T) [] (consM (varM 2) nilM)))))
    (retM (cM (.bl false)))
    nextM))))))))))))
    (seqM (ifS (orT (testM (opM neD (callM (m_kernel_of T) [] (consM (lstM false nilM) (consM (cM (.int 0)) nilM))) (lstM false nilM))) (orT (testM (opM neD (callM (m_rank_of T) [] (consM (lstM false (consM (lstM false nilM) (consM (lstM false nilM) nilM))) nilM)) (cM (.int 0)))) (testM (opM neD (callM (m_kernel_of T) [] (consM (lstM false (consM (lstM false nilM) nilM)) (consM (cM (.int 0)) nilM))) (lstM false nilM)))))
    (retM (cM (.bl false)))
    nextM)
    (retM (andM (opM neD (callM (m_kernel_of T) [] (consM (lstM false nilM) (consM (cM (.int 2)) nilM))) (lstM false nilM)) (opM eqD (callM (m_rank_of T) [] (consM (lstM false nilM) nilM)) (cM (.int 0)))))))
theorem ok_law {P : Program} {w : World} {K : PySem.W.Frag} {mg : Str → Option Value} {base : Heap} (T : Top P K mg) (hB : Tbs T base) : FnG P w K mg base (L2.CX P w) 8 T.f_law T.fd_law ["_law_script"] (SpG K T.tabs (m_law T)) := by
  refine T.F_law.okG sc_law (fun vs H Q E h => fn_len h) (fun cdv A outer s H vs Q E hG hr h => ?_)
  have tk : Takes _ (fun cls d _ H => E cls d H) := takes_of (E := E) (X := cxOf (L2.CX P w) P w K mg base ["_law_script", "_law_k", "_law_box_here", "_law_width", "_law_rows_here", "_law_kept", "_law_due", "_law_turn", "_law_told", "_law_vector", "_law_held", "_law_row"] "law" (defScope s_law) T.f_law cdv A outer s H E) rfl rfl rfl rfl
  refine ⟨_, (pss_cons (ps_for (passes_of rfl) rfl (pi_range1 (by rfl) T.m_range (pa_cons (pe_callB (call_maxU (K := K) rfl rfl) (by rfl) T.m_max (by decide +kernel) (pa_cons pe_int (pa_cons (pe_callB (call_minU (K := K) rfl rfl) (by rfl) T.m_min (by decide +kernel) (pa_cons pe_int (pa_cons (pe_callB (call_lenU (K := K) rfl) (by rfl) T.m_len PySem.boot_len (pa_cons (pv 0) pa_nil)) pa_nil))) pa_nil))) pa_nil)) (pg_name (i := 1) sc_law.nd rfl (Or.inl rfl)) (pss_cons (ps_set (i := 2) sc_law.nd rfl (Or.inl rfl) (pe_callSD (ok_l_box T) (hr.mono (by decide)) (by rfl) T.g_l_box T.F_l_box.kp T.b_l_box .nil (fun σ => passAt tk σ) (pa_cons (pe_callSD (ok_l_cell T) (hr.mono (by decide)) (by rfl) T.g_l_cell T.F_l_cell.kp T.b_l_cell .nil (fun σ => passAt tk σ) (pa_cons (pv 0) (pa_cons (pv 1) pa_nil))) pa_nil)))
      (pss_cons (ps_asg (pe_callSD (ok_l_rows T) (hr.mono (by decide)) (by rfl) T.g_l_rows T.F_l_rows.kp T.b_l_rows .nil (fun σ => passAt tk σ) (pa_cons (pv 2) pa_nil)) (pg_unlU (K := K) (n := 2) rfl rfl (pgs_cons (pg_name (i := 3) sc_law.nd rfl (Or.inl rfl)) (pgs_cons (pg_name (i := 4) sc_law.nd rfl (Or.inl rfl)) pgs_nil))))
      (pss_cons (ps_par (i := 5) (j := 6) (by rfl) sc_law.nd rfl rfl (by decide) rfl rfl (pa_cons (pe_callB (call_reprU.or ((call_reprZ (K := K) rfl hG (Nat.lt_of_succ_lt (Room.u65 hr))).or call_reprS)) (by rfl) T.m_repr (by decide +kernel) (pa_cons (pv 4) pa_nil)) (pa_cons (pe_callSD (ok_l_rank T) (hr.mono (by decide)) (by rfl) T.g_l_rank T.F_l_rank.kp T.b_l_rank .nil (fun σ => passAt tk σ) (pa_cons (pv 4) pa_nil)) pa_nil)) (by rfl))
      (pss_cons (ps_for (passes_of rfl) rfl (pi_range1 (by rfl) T.m_range (pa_cons pe_int pa_nil)) (pg_name (i := 7) sc_law.nd rfl (Or.inl rfl)) (pss_one (ps_if (PW.pt (pw_or (pt_cmpR (op_neU (K := K) rfl hr.units) (pe_callB (call_reprU.or ((call_reprZ (K := K) rfl hG (Nat.lt_of_succ_lt (Room.u65 hr))).or call_reprS)) (by rfl) T.m_repr (by decide +kernel) (pa_cons (pe_callSD (ok_rank_of T hB) (hr.mono (by decide)) (by rfl) T.g_rank_of T.F_rank_of.kp T.b_rank_of .nil (fun σ => passAt tk σ) (pa_cons (pv 4) pa_nil)) pa_nil)) (pe_callB (call_reprU.or ((call_reprZ (K := K) rfl hG (Nat.lt_of_succ_lt (Room.u65 hr))).or call_reprS)) (by rfl) T.m_repr (by decide +kernel) (pa_cons (pv 6) pa_nil)) (nomark _)) (pw_or (pt_not (pt_val (pe_callSD (ok_l_kernel_right T hB) (hr.mono (by decide)) (by rfl) T.g_l_kernel_right T.F_l_kernel_right.kp T.b_l_kernel_right .nil (fun σ => passAt tk σ) (pa_cons (pv 4) (pa_cons (pv 3) (pa_cons (pv 6) pa_nil)))))) (pw_or1 (pt_cmpR (op_neU (K := K) rfl hr.units) (pe_callB (call_reprU.or ((call_reprZ (K := K) rfl hG (Nat.lt_of_succ_lt (Room.u65 hr))).or call_reprS)) (by rfl) T.m_repr (by decide +kernel) (pa_cons (pv 4) pa_nil)) (pv 5) (nomark _)))))) (pss_one (ps_ret pe_bl)) pss_nil)))
      (pss_cons (ps_if (PW.pt (pw_or (pt_cmpR (op_neU (K := K) rfl hr.units) (pe_callSD (ok_rank_of T hB) (hr.mono (by decide)) (by rfl) T.g_rank_of T.F_rank_of.kp T.b_rank_of .nil (fun σ => passAt tk σ) (pa_cons (pe_revU (K := K) rfl (pv 4)) pa_nil)) (pv 6) (nomark _)) (pw_or (pt_cmpR (op_neU (K := K) rfl hr.units) (pe_callSD (ok_rank_of T hB) (hr.mono (by decide)) (by rfl) T.g_rank_of T.F_rank_of.kp T.b_rank_of .nil (fun σ => passAt tk σ) (pa_cons (pe_lc (own := [("_law_row", 11)]) (g := gName 11) rfl sc_law.nd (pi_V (K := K) rfl (pv 4)) (blkOk_by (own := [("_law_row", 11)]) (N := ["_law_script", "_law_k", "_law_box_here", "_law_width", "_law_rows_here", "_law_kept", "_law_due", "_law_turn", "_law_told", "_law_vector", "_law_held", "_law_row"]) (sc := defScope s_law) (by decide +kernel)) (fun _ _ _ _ _ => (pg_name (i := 11) sc_law.nd rfl (Or.inl rfl))) (fun _ _ _ _ _ => pts_nil) (fun _ _ _ _ _ => (pe_revU (K := K) rfl (pv 11)))) pa_nil)) (pv 6) (nomark _)) (pw_or1 (pt_cmpR (op_neU (K := K) rfl hr.units) (pe_callSD (ok_rank_of T hB) (hr.mono (by decide)) (by rfl) T.g_rank_of T.F_rank_of.kp T.b_rank_of .nil (fun σ => passAt tk σ) (pa_cons (pe_op op_addU (pv 4) (pv 4)) pa_nil)) (pv 6) (nomark _)))))) (pss_one (ps_ret pe_bl)) pss_nil)
      (pss_cons (ps_set (i := 8) sc_law.nd rfl (Or.inl rfl) (pe_callSD (ok_kernel_of T hB) (hr.mono (by decide)) (by rfl) T.g_kernel_of T.F_kernel_of.kp T.b_kernel_of .nil (fun σ => passAt tk σ) (pa_cons (pv 4) (pa_cons (pv 3) pa_nil))))
      (pss_cons (ps_for (passes_of rfl) rfl (pi_V (K := K) rfl (pv 8)) (pg_name (i := 9) sc_law.nd rfl (Or.inl rfl)) (pss_one (ps_expr (pe_bm0U (K := K) rfl PySem.F.plainAttrs_list PySem.F.slot_list_clear PySem.F.type_list_clear mt_clear (pv 9)))))
      (pss_cons (ps_set (i := 10) sc_law.nd rfl (Or.inl rfl) (pe_callTy (call_tupU (K := K) rfl) (by rfl) T.m_tuple (by decide +kernel) (pa_cons (pe_lc (own := [("_law_row", 11)]) (g := gName 11) rfl sc_law.nd (pi_V (K := K) rfl (pv 4)) (blkOk_by (own := [("_law_row", 11)]) (N := ["_law_script", "_law_k", "_law_box_here", "_law_width", "_law_rows_here", "_law_kept", "_law_due", "_law_turn", "_law_told", "_law_vector", "_law_held", "_law_row"]) (sc := defScope s_law) (by decide +kernel)) (fun _ _ _ _ _ => (pg_name (i := 11) sc_law.nd rfl (Or.inl rfl))) (fun _ _ _ _ _ => pts_nil) (fun _ _ _ _ _ => (pe_callTy (call_tupU (K := K) rfl) (by rfl) T.m_tuple (by decide +kernel) (pa_cons (pv 11) pa_nil)))) pa_nil)))
      (pss_cons (ps_if (PW.pt (pw_or (pt_not (pt_val (pe_callSD (ok_l_kernel_right T hB) (hr.mono (by decide)) (by rfl) T.g_l_kernel_right T.F_l_kernel_right.kp T.b_l_kernel_right .nil (fun σ => passAt tk σ) (pa_cons (pv 4) (pa_cons (pv 3) (pa_cons (pv 6) pa_nil)))))) (pw_or1 (pt_cmpR (op_neU (K := K) rfl hr.units) (pe_callSD (ok_rank_of T hB) (hr.mono (by decide)) (by rfl) T.g_rank_of T.F_rank_of.kp T.b_rank_of .nil (fun σ => passAt tk σ) (pa_cons (pv 10) pa_nil)) (pv 6) (nomark _))))) (pss_one (ps_ret pe_bl)) pss_nil)
      (pss_cons (ps_if (pt_cmpR (op_neU (K := K) rfl hr.units) (pe_callB (call_lenU (K := K) rfl) (by rfl) T.m_len PySem.boot_len (pa_cons (pe_callSD (ok_kernel_of T hB) (hr.mono (by decide)) (by rfl) T.g_kernel_of T.F_kernel_of.kp T.b_kernel_of .nil (fun σ => passAt tk σ) (pa_cons (pv 10) (pa_cons (pv 3) pa_nil))) pa_nil)) (pe_op op_sub (pv 3) (pv 6)) (nomark _)) (pss_one (ps_ret pe_bl)) pss_nil)
      (pss_one (ps_if (PW.pt (pw_and (pt_cmpR (op_eqU (K := K) rfl hr.units) (pv 1) pe_int (nomark _)) (pw_and1 (pt_not (pt_val (pe_callSD (ok_l_wide_right T hB) (hr.mono (by decide)) (by rfl) T.g_l_wide_right T.F_l_wide_right.kp T.b_l_wide_right .nil (fun σ => passAt tk σ) (pa_cons (pv 2) pa_nil))))))) (pss_one (ps_ret pe_bl)) pss_nil)))))))))))))
      (pss_cons (ps_if (PW.pt (pw_or (pt_cmpR (op_neU (K := K) rfl hr.units) (pe_callSD (ok_kernel_of T hB) (hr.mono (by decide)) (by rfl) T.g_kernel_of T.F_kernel_of.kp T.b_kernel_of .nil (fun σ => passAt tk σ) (pa_cons (pe_lst pa_nil) (pa_cons pe_int pa_nil))) (pe_lst pa_nil) (nomark _)) (pw_or (pt_cmpR (op_neU (K := K) rfl hr.units) (pe_callSD (ok_rank_of T hB) (hr.mono (by decide)) (by rfl) T.g_rank_of T.F_rank_of.kp T.b_rank_of .nil (fun σ => passAt tk σ) (pa_cons (pe_lst (pa_cons (pe_lst pa_nil) (pa_cons (pe_lst pa_nil) pa_nil))) pa_nil)) pe_int (nomark _)) (pw_or1 (pt_cmpR (op_neU (K := K) rfl hr.units) (pe_callSD (ok_kernel_of T hB) (hr.mono (by decide)) (by rfl) T.g_kernel_of T.F_kernel_of.kp T.b_kernel_of .nil (fun σ => passAt tk σ) (pa_cons (pe_lst (pa_cons (pe_lst pa_nil) pa_nil)) (pa_cons pe_int pa_nil))) (pe_lst pa_nil) (nomark _)))))) (pss_one (ps_ret pe_bl)) pss_nil)
      (pss_one (ps_ret (pe_and (pe_cmpR (op_neU (K := K) rfl hr.units) (pe_callSD (ok_kernel_of T hB) (hr.mono (by decide)) (by rfl) T.g_kernel_of T.F_kernel_of.kp T.b_kernel_of .nil (fun σ => passAt tk σ) (pa_cons (pe_lst pa_nil) (pa_cons pe_int pa_nil))) (pe_lst pa_nil) (nomark _)) (pe_one (pe_cmpR (op_eqU (K := K) rfl hr.units) (pe_callSD (ok_rank_of T hB) (hr.mono (by decide)) (by rfl) T.g_rank_of T.F_rank_of.kp T.b_rank_of .nil (fun σ => passAt tk σ) (pa_cons (pe_lst pa_nil) pa_nil)) pe_int (nomark _)))))))), fn_ok ?_ h⟩
  clear tk
  repeat walk_at "s"
end K14
set_option Elab.async false
set_option linter.all false
set_option maxRecDepth 100000
set_option maxHeartbeats 600000
namespace K14
open PySem PySem.Spec PyProof.Rows L2 G M Lin
local macro_rules | `(tactic| walk_at "m") => `(tactic| first
  | (with_reducible refine' e_seq ?_)
  | ((with_reducible refine' e_var ?h ?_); (case h => exact rfl))
  | (with_reducible refine' e_c ?_)
  | (with_reducible refine' e_op ?_)
  | (with_reducible refine' e_asg ?_)
  | (with_reducible refine' e_gname ?_)
  | (with_reducible refine' e_ifS ?_)
  | (with_reducible refine' e_test ?_)
  | (with_reducible refine' e_bl ?_)
  | (with_reducible refine' e_cb ?_)
  | (with_reducible refine' e_cons ?_)
  | (with_reducible refine' e_nil ?_)
  | (with_reducible refine' e_call ?_)
  | (with_reducible refine' e_ret ?_)
  | (with_reducible refine' e_drop ?_)
  | (with_reducible refine' e_next ?_)
  | (with_reducible refine' e_andT ?_)
  | (with_reducible refine' e_orT ?_)
  | (with_reducible refine' e_notT ?_)
  | (with_reducible refine' e_andM ?_)
  | (with_reducible refine' e_orM ?_)
  | (with_reducible refine' e_notM ?_)
  | (with_reducible refine' e_ifM ?_)
  | (with_reducible refine' e_chain ?_)
  | (with_reducible refine' e_un ?_)
  | (with_reducible refine' e_lst ?_)
  | (with_reducible refine' e_lstO ?_)
  | (with_reducible refine' e_tup ?_)
  | (with_reducible refine' e_par ?_)
  | (with_reducible refine' e_raise ?_)
  | (with_reducible refine' e_for ?_)
  | (with_reducible refine' e_meth ?_)
  | (with_reducible refine' e_prop ?_)
  | (with_reducible refine' e_make ?_)
  | (with_reducible refine' e_fld ?_)
  | (with_reducible refine' e_sfld ?_)
  | (with_reducible refine' e_noPart ?_)
  | (with_reducible refine' e_part ?_)
  | (with_reducible refine' e_int ?_)
  | (with_reducible refine' e_sl ?_)
  | (with_reducible refine' e_bm ?_)
  | (with_reducible refine' e_bm0 ?_)
  | (with_reducible refine' e_m1 ?_)
  | (with_reducible refine' e_it ?_)
  | (with_reducible refine' e_rng1 ?_)
  | (with_reducible refine' e_lc ?_)
  | (with_reducible refine' e_caught ?_)
  | (with_reducible refine' e_two ?_)
  | (with_reducible refine' e_one ?_)
  | (with_reducible refine' e_ifT ?_)
  | (with_reducible refine' e_ifF ?_)
  | (with_reducible refine' e_ifNT ?_)
  | (with_reducible refine' e_ifNF ?_)
  | (with_reducible refine' e_yes ?_)
  | (with_reducible refine' e_turn ?_)
  | (with_reducible refine' e_js ?_)
  | (with_reducible refine' e_jsc ?_)
  | (with_reducible refine' e_jsn ?_)
  | (with_reducible refine' e_fmt ?_)
  | (with_reducible refine' e_leI ?_)
  | (with_reducible refine' e_ltI ?_)
  | (with_reducible refine' e_gtI ?_)
  | (with_reducible refine' e_geI ?_)
  | (with_reducible refine' e_ltS ?_)
  | (with_reducible refine' e_eqI ?_)
  | (with_reducible refine' e_eqS ?_)
  | (with_reducible refine' e_neI ?_)
  | (with_reducible refine' e_neS ?_)
  | (with_reducible refine' e_neB ?_)
  | (with_reducible refine' e_isB ?_)
  | (with_reducible refine' e_isntB ?_)
  | (with_reducible refine' e_addI ?_)
  | (with_reducible refine' e_subI ?_)
  | (with_reducible refine' e_int1 ?_)
  | (with_reducible refine' e_max2 ?_)
  | (with_reducible refine' e_min2 ?_)
  | (with_reducible refine' e_lenL ?_)
  | (with_reducible refine' e_lenT ?_)
  | (with_reducible refine' e_lenR ?_)
  | (with_reducible refine' e_modI (by decide) ?_))
set_option synthInstance.maxHeartbeats 0
set_option synthInstance.maxSize 100000
local macro_rules | `(tactic| walk_at "k") => `(tactic| first
  | refine wgo ?_
  | ((with_reducible refine' e_var ?h ?_); (case h => exact rfl))
  | (with_reducible refine' e_gname ?_)
  | (with_reducible refine' e_modI (by decide) ?_)
  | ((with_reducible refine' e_sz ?h ?_); (case h => exact rfl)))
variable {P : Program} {K : PySem.W.Frag} {mg : Str → Option Value} {T : Top P K mg} {c : SH} {Ψ : XD} {Φ : QD}
structure Fit (p : PyData) : Prop where
  sh : p.showable = true
  dp : p.depth = 0
  ls : p.leavesShort 31 = true
  wt : p.weight ≤ 150
theorem log_lt {n k : Nat} (h : n < 2 ^ k) (hk : 0 < k) : n.log2 < k := by
  by_cases z : n = 0
  · subst z
    rw [Nat.log2_zero]
    exact hk
  · exact (Nat.log2_lt z).mpr h
theorem fit_int {i : Int} (h : i.natAbs < 10 ^ 12) : Fit (.int i) := by
  have l : i.natAbs.log2 < 40 := log_lt (Nat.lt_of_lt_of_le h (by decide)) (by decide)
  refine ⟨by simp only [PyData.showable, decide_eq_true_eq]; omega, by simp only [PyData.depth], ?_, ?_⟩
  · simp only [PyData.leavesShort, decide_eq_true_eq]
    exact Nat.le_trans (PyData.shown_int_le h) (by decide)
  · simp only [PyData.weight]
    split <;> omega
theorem fit_ints : ∀ (l : List Int) (n : Nat), l.length ≤ n → (∀ x ∈ l, x.natAbs < 10 ^ 12) → PyData.showableAll (l.map .int) = true ∧ PyData.depthAll (l.map .int) = 0 ∧ PyData.leavesShortAll 31 (l.map .int) = true ∧ PyData.weightAll (l.map .int) ≤ 151 * n
  | [], n, _, _ => ⟨by simp [PyData.showableAll], by simp [PyData.depthAll], by simp [PyData.leavesShortAll], by simp [PyData.weightAll]⟩
  | x :: l, n, hl, h => by
    rw [List.length_cons] at hl
    obtain ⟨i1, i2, i3, i4⟩ := fit_ints l (n - 1) (by omega) fun y hy => h y (List.mem_cons_of_mem _ hy)
    have f := fit_int (h x List.mem_cons_self)
    have f4 := f.wt
    refine ⟨by simp only [List.map_cons, PyData.showableAll, f.sh, i1, Bool.and_self], by simp only [List.map_cons, PyData.depthAll, f.dp, i2, Nat.max_self], by simp only [List.map_cons, PyData.leavesShortAll, f.ls, i3, Bool.and_self], ?_⟩
    simp only [List.map_cons, PyData.weightAll]
    omega
def pyRows (rows : List (List Int)) : PyData := .list (rows.map fun l => .list (l.map .int))
theorem fit_rows : ∀ (rows : List (List Int)) (n : Nat), rows.length ≤ n → (∀ r ∈ rows, r.length ≤ 6 ∧ ∀ x ∈ r, x.natAbs < 10 ^ 12) → PyData.showableAll (rows.map fun l => PyData.list (l.map .int)) = true ∧ PyData.depthAll (rows.map fun l => PyData.list (l.map .int)) ≤ 1 ∧ PyData.leavesShortAll 31 (rows.map fun l => PyData.list (l.map .int)) = true ∧ PyData.weightAll (rows.map fun l => PyData.list (l.map .int)) ≤ 1000 * n
  | [], n, _, _ => ⟨by simp [PyData.showableAll], by simp [PyData.depthAll], by simp [PyData.leavesShortAll], by simp [PyData.weightAll]⟩
  | r :: rows, n, hl, h => by
    rw [List.length_cons] at hl
    obtain ⟨i1, i2, i3, i4⟩ := fit_rows rows (n - 1) (by omega) fun y hy => h y (List.mem_cons_of_mem _ hy)
    have hr := h r List.mem_cons_self
    obtain ⟨f1, f2, f3, f4⟩ := fit_ints r 6 hr.1 hr.2
    refine ⟨by simp only [List.map_cons, PyData.showableAll, PyData.showable, f1, i1, Bool.and_self], ?_, by simp only [List.map_cons, PyData.leavesShortAll, PyData.leavesShort, f3, i3, Bool.and_self], ?_⟩
    · simp only [List.map_cons, PyData.depthAll, PyData.depth, f2]
      omega
    · simp only [List.map_cons, PyData.weightAll, PyData.weight]
      omega
theorem pyZL_ints (ob : Nat → Option PyData) : ∀ l : List Int, pyZL ob (l.map .int) = some (l.map .int)
  | [] => rfl
  | x :: l => by simp only [List.map_cons, pyZL, pyZ, pyZL_ints ob l]
theorem pyZL_rows (ob : Nat → Option PyData) : ∀ rows : List (List Int), pyZL ob (rows.map fun r => .lst (r.map .int)) = some (rows.map fun l => PyData.list (l.map .int))
  | [] => rfl
  | x :: l => by simp only [List.map_cons, pyZL, pyZ, pyZL_ints, Option.map_some, pyZL_rows ob l]
theorem e_reprI {i : Int} (h : i.natAbs < 10 ^ 12) (q : Φ (.str (PyData.int i).shown) c) : orC reprD (orC reprZD reprSD) [.int i] c Φ := by
  have f := fit_int h
  refine e_reprA (p := .int i) rfl f.sh (by rw [f.dp]; decide) ?_ q
  exact Nat.le_trans (PyData.shown_int_le h) (by decide)
theorem e_reprRows {rows : List (List Int)} (hl : rows.length ≤ 6) (h : ∀ r ∈ rows, r.length ≤ 6 ∧ ∀ x ∈ r, x.natAbs < 10 ^ 12) (q : Φ (.str (pyRows rows).shown) c) : orC reprD (orC reprZD reprSD) [.lst (rows.map fun r => .lst (r.map .int))] c Φ := by
  obtain ⟨i1, i2, i3, i4⟩ := fit_rows rows 6 hl h
  refine e_reprA (p := pyRows rows) ?_ (by simp only [pyRows, PyData.showable, i1]) (by simp only [pyRows, PyData.depth]; omega) ?_ q
  · simp only [pyZ, pyZL_rows, Option.map_some]
    rfl
  · have e := PyData.shown_le 31 (by decide) (pyRows rows) (by simp only [pyRows, PyData.leavesShort, i3])
    have w : (pyRows rows).weight ≤ 6000 := by simp only [pyRows, PyData.weight]; omega
    have h2 : (31 + 2) * (pyRows rows).weight ≤ 33 * 6000 := Nat.mul_le_mul_left 33 w
    exact Nat.le_trans e (Nat.le_trans (Nat.add_le_add_right h2 31) (by decide))
def flip (w j : Nat) : Nat := if j < w then w - 1 - j else j
theorem flip_flip (w j : Nat) : flip w (flip w j) = j := by
  unfold flip
  by_cases h : j < w
  · rw [if_pos h, if_pos (by omega)]
    omega
  · rw [if_neg h, if_neg h]
theorem vec_rev {r : List Int} {w : Nat} (h : r.length = w) : vec r.reverse = fun j => vec r (flip w j) := by
  funext j
  unfold flip
  split
  · rename_i hj
    rw [← vec_get (by rw [List.length_reverse, h]; exact hj), List.getElem_reverse, ← vec_get (l := r) (by omega)]
    congr 1
    omega
  · rename_i hj
    rw [vec_out (by rw [List.length_reverse, h]; omega), vec_out (by omega)]
theorem comb_flip (w : Nat) : ∀ (x : List Int) (P : List Vc) (j : Nat), comb x (P.map fun p j => p (flip w j)) j = comb x P (flip w j)
  | [], _, _ => by simp [comb]
  | _ :: _, [], _ => by simp [comb]
  | x :: xs, p :: P, j => by
    have := comb_flip w xs P j
    simp only [List.map_cons, comb, this]
theorem span_flip {w : Nat} {v : Vc} {Q : List Vc} (h : InSpan v Q) : InSpan (fun j => v (flip w j)) (Q.map fun p j => p (flip w j)) := by
  obtain ⟨d, x, h1, h2, h3⟩ := h
  exact ⟨d, x, h1, by rw [List.length_map]; exact h2, fun j => by rw [comb_flip]; exact h3 _⟩
theorem rank_flip {w k : Nat} {rows : List Vc} (h : IsRank rows k) : IsRank (rows.map fun p j => p (flip w j)) k := by
  obtain ⟨P, h1, h2, h3, h4⟩ := h
  refine ⟨P.map fun p j => p (flip w j), fun x hx hz => h1 x (by rw [List.length_map] at hx; exact hx) fun j => ?_, by rw [List.length_map]; exact h2, fun p hp => ?_, fun r hr => ?_⟩
  · have := hz (flip w j)
    rw [comb_flip, flip_flip] at this
    exact this
  · obtain ⟨p', hp', rfl⟩ := List.mem_map.mp hp
    exact span_flip (h3 p' hp')
  · obtain ⟨p', hp', rfl⟩ := List.mem_map.mp hr
    exact span_flip (h4 p' hp')
/-- rank_of of rows with a known rank -/
theorem z_rankK {d : D} {rows : List (List Int)} {w N B k : Nat} (h : IsRows d rows) (g : Given w N B rows) (hk : IsRank (rows.map vec) k) (q : Φ (.int (k : Nat)) c) : m_rank_of T [d] c Ψ Φ := z_rank h g (by rw [← hk.same (red_rank g.len)]; exact q)
theorem isRows_l {rows : List (List Int)} : IsRows (.lst (rows.map fun r => .lst (r.map .int))) rows := ⟨_, .inl rfl, List.length_map .., fun i x hx => by
  rw [List.getElem?_map] at hx
  obtain ⟨r, h3, rfl⟩ := Option.map_eq_some_iff.mp hx
  exact ⟨r, h3, IsRow.lst r⟩⟩
theorem isRows_t {rows : List (List Int)} : IsRows (.tup (rows.map fun r => .tup (r.map .int))) rows := ⟨_, .inr rfl, List.length_map .., fun i x hx => by
  rw [List.getElem?_map] at hx
  obtain ⟨r, h3, rfl⟩ := Option.map_eq_some_iff.mp hx
  exact ⟨r, h3, .inr rfl⟩⟩
theorem law_true (ns : List Int) (hl : ns.length ≤ 63) : m_law T [.scr (ns.map .int)] [] noX fun d _ => d = .bl true := by
  refine e_fn (δ := [some _, none, none, none, none, none, none, none, none, none, none, none]) rfl rfl ?_
  repeat walk_at "k"
  rw [List.length_map]
  have hN : ∃ N : Nat, N ≤ 8 ∧ (if (if (ns.length : Int) < 8 then (ns.length : Int) else 8) > 2 then (if (ns.length : Int) < 8 then (ns.length : Int) else 8) else 2) = (N : Int) := by
    by_cases h1 : (ns.length : Int) < 8
    · rw [if_pos h1]
      by_cases h2 : (ns.length : Int) > 2
      · rw [if_pos h2]; exact ⟨ns.length, by omega, rfl⟩
      · rw [if_neg h2]; exact ⟨2, by decide, rfl⟩
    · rw [if_neg h1]; exact ⟨8, by decide, rfl⟩
  obtain ⟨N, hN8, eN⟩ := hN
  rw [eN]
  refine ⟨⟨by omega, by omega⟩, ?_⟩
  rw [Int.toNat_natCast]
  refine for_inv (fun δ c' => ∃ x1 x2 x3 x4 x5 x6 x7 x8 x9 x10 x11, δ = [some (.scr (ns.map .int)), x1, x2, x3, x4, x5, x6, x7, x8, x9, x10, x11]) _ ?_ ?_ _ _ ⟨_, _, _, _, _, _, _, _, _, _, _, rfl⟩
  · rintro x hx δ c' e' ⟨x1, x2, x3, x4, x5, x6, x7, x8, x9, x10, x11, rfl⟩ nx _ _ _ _
    obtain ⟨j, hj, rfl⟩ := List.mem_map.mp hx
    have hj2 := List.mem_range.mp hj
    refine ⟨trivial, ?_⟩
    repeat walk_at "k"
    rw [Int.zero_add]
    refine s_cell hl (by omega) fun i0 => ?_
    repeat walk_at "k"
    refine s_box ?_
    have hb0 : (c' ++ [SO.box 0])[c'.length]? = some (.box 0) := by
      rw [List.getElem?_append_right (Nat.le_refl _), Nat.sub_self]; rfl
    generalize c' ++ [SO.box 0] = c0 at hb0
    generalize c'.length = i at hb0
    repeat walk_at "k"
    refine z_rows hb0 (by decide) fun w rows j1 w1 w6 r6 hr hj1 => ?_
    have hb1 : (c0.set i (SO.box j1))[i]? = some (.box j1) := box_set hb0
    generalize c0.set i (SO.box j1) = c1 at hb1
    have vle : ∀ {r : List Int} {X : Nat}, (∀ x ∈ r, x.natAbs ≤ X) → ∀ j, (vec r j).natAbs ≤ X := fun {r X} h j => (by
      rcases vec_mem (l := r) (j := j) with h0 | h0
      · rw [h0]
        exact Nat.zero_le _
      · exact h _ h0)
    have fits : Fits 6 (1000000 * 6 ^ 6) := ⟨by decide, by decide +kernel⟩
    have giv : ∀ {rs : List (List Int)}, (∀ r ∈ rs, r.length = w ∧ ∀ x ∈ r, x.natAbs ≤ 1000000 * 6 ^ 6) → Given w 6 (1000000 * 6 ^ 6) rs := fun {rs} h => ⟨fun r hr => (h r hr).1, fun r hr => vle (h r hr).2, by omega, .inr w6, fits⟩
    have gv := giv hr
    have gl : GivenL w 6 (1000000 * 6 ^ 6) rows := gv.toL (by decide) (by decide +kernel)
    repeat walk_at "k"
    have rep : ∀ {Φ2 : QD} {cc : SH}, Φ2 (.str (pyRows rows).shown) cc → orC reprD (orC reprZD reprSD) [.lst (rows.map fun r => .lst (r.map .int))] cc Φ2 := fun {Φ2 cc} h => e_reprRows r6 (fun r h => ⟨by rw [(hr r h).1]; exact w6, fun x hx => Nat.lt_of_le_of_lt ((hr r h).2 x hx) (by decide)⟩) h
    refine rep ?_
    repeat walk_at "k"
    refine z_lrank gl r6 (by omega) fun k hk => ?_
    have k12 : k ≤ 6 := by
      have := hk.same (red_rank gv.len)
      have := red_len _ rows rfl
      omega
    repeat walk_at "k"
    refine ⟨by decide, ?_⟩
    have lker : ∀ (Φ2 : QD) (cc : SH) {Ψ2 : XD}, Φ2 (.bl true) cc → m_l_kernel_right T [.lst (rows.map fun r => .lst (r.map .int)), .int (w : Int), .int (k : Nat)] cc Ψ2 Φ2 := fun Φ2 cc {Ψ2} h => z_lkernel (M := 6) gv (by omega) hk (by omega) (by decide +kernel) (by decide +kernel) h
    have i12 : ((k : Nat) : Int).natAbs < 10 ^ 12 := by omega
    refine for_inv (fun δ c' => c' = c1 ∧ ∃ x7, δ = [some (.scr (ns.map .int)), some (.int (j : Int)), some (.obj i), some (.int (w : Int)), some (.lst (rows.map fun r => .lst (r.map .int))), some (.str (pyRows rows).shown), some (.int (k : Nat)), x7, x8, x9, x10, x11]) _ ?_ ?_ _ _ ⟨rfl, _, rfl⟩
    · rintro x hx δ c' e2 ⟨rfl, x7, rfl⟩ nx2 _ _ _ _
      refine ⟨trivial, ?_⟩
      repeat walk_at "k"
      refine z_rankK isRows_l gv hk ?_
      repeat walk_at "k"
      refine e_reprI i12 ?_
      repeat walk_at "k"
      refine e_reprI i12 ?_
      repeat walk_at "k"
      rw [if_neg (by simp)]
      repeat walk_at "k"
      refine lker _ _ ?_
      repeat walk_at "k"
      refine rep ?_
      repeat walk_at "k"
      rw [if_neg (by simp)]
      repeat walk_at "k"
      exact nx2 _ _ ⟨rfl, _, rfl⟩
    · rintro δ c' ⟨rfl, x7, rfl⟩
      refine ⟨trivial, ?_⟩
      repeat walk_at "k"
      refine e_revL (by rw [List.length_map]; exact Nat.le_of_lt (lt_sz (by omega))) ?_
      repeat walk_at "k"
      rw [← List.map_reverse]
      have hrv : ∀ r ∈ rows.reverse, r.length = w ∧ ∀ x ∈ r, x.natAbs ≤ 1000000 * 6 ^ 6 := fun r h => hr r (List.mem_reverse.mp h)
      refine z_rankK isRows_l (giv hrv) (hk.mem fun r => by simp) ?_
      repeat walk_at "k"
      rw [if_neg (by simp)]
      repeat walk_at "k"
      refine lc_map (fun r : List Int => D.lst (r.map .int)) (fun r => some (.lst (r.reverse.map .int))) (by rfl) rows [] (by show 0 + _ < sizeLine; rw [Nat.zero_add]; exact lt_sz (by omega)) (fun r hr2 kk hkk => ?_) ?_
      · repeat walk_at "k"
        refine e_revL (by rw [List.length_map, (hr r hr2).1]; exact Nat.le_of_lt (lt_sz (by omega))) ?_
        rw [← List.map_reverse]
        exact hkk
      rw [List.nil_append, List.filterMap_eq_map']
      refine e_ifF ?_
      repeat walk_at "k"
      have hrf : ∀ r ∈ rows.map List.reverse, r.length = w ∧ ∀ x ∈ r, x.natAbs ≤ 1000000 * 6 ^ 6 := fun r h => (by
        obtain ⟨r', h', rfl⟩ := List.mem_map.mp h
        exact ⟨by rw [List.length_reverse]; exact (hr r' h').1, fun x hx => (hr r' h').2 x (List.mem_reverse.mp hx)⟩)
      have ef : rows.map (fun r : List Int => D.lst (r.reverse.map .int)) = (rows.map List.reverse).map fun r => .lst (r.map .int) := by
        rw [List.map_map]
        rfl
      rw [ef]
      have ek : (rows.map List.reverse).map vec = (rows.map vec).map fun p j => p (flip w j) := by
        rw [List.map_map, List.map_map]
        exact List.map_congr_left fun r h => vec_rev (hr r h).1
      refine z_rankK isRows_l (giv hrf) (by rw [ek]; exact rank_flip hk) ?_
      repeat walk_at "k"
      rw [if_neg (by simp)]
      repeat walk_at "k"
      refine e_addL (Nat.le_of_lt (lt_sz (by rw [List.length_map]; omega))) ?_
      repeat walk_at "k"
      rw [← List.map_append]
      have hra : ∀ r ∈ rows ++ rows, r.length = w ∧ ∀ x ∈ r, x.natAbs ≤ 1000000 * 6 ^ 6 := fun r h => hr r (by simpa using h)
      refine z_rankK isRows_l (giv hra) (hk.mem fun r => by simp) ?_
      repeat walk_at "k"
      rw [if_neg (by simp)]
      repeat walk_at "k"
      refine z_kernelO isRows_l gv fun L ks hks hL => ?_
      repeat walk_at "k"
      have hi := box_len hb1
      have hv0 : (c' ++ L)[c'.length]? = some (.lst (ks.map .obj)) := by
        rw [List.getElem?_append_right (Nat.le_refl _), Nat.sub_self]
        exact hL
      have hvw : ∀ {cc : SH}, cc[c'.length]? = some (.lst (ks.map .obj)) → view cc (.obj c'.length) = .lst (ks.map .obj) := fun {cc} h => (by
        unfold view
        dsimp only
        rw [h])
      refine e_itO (hvw hv0) ?_
      refine for_inv (fun δ c2 => (∃ L, c2 = c' ++ L) ∧ c2[c'.length]? = some (.lst (ks.map .obj)) ∧ (∀ k ∈ ks, c'.length < k ∧ ∃ ys, c2[k]? = some (.lst ys)) ∧ ∃ x9, δ = [some (.scr (ns.map .int)), some (.int (j : Int)), some (.obj i), some (.int (w : Int)), some (.lst (rows.map fun r => .lst (r.map .int))), some (.str (pyRows rows).shown), some (.int (k : Nat)), x7, some (.obj c'.length), x9, x10, x11]) _ ?_ ?_ _ _ ⟨⟨L, rfl⟩, hv0, hks, _, rfl⟩
      · rintro x hx δ c2 e2 ⟨⟨L2, rfl⟩, h2, h3, x9, rfl⟩ nx2 _ _ _ _
        obtain ⟨m, hm, rfl⟩ := List.mem_map.mp hx
        obtain ⟨m1, ys, m2⟩ := h3 m hm
        refine ⟨by rw [hvw h2, hvw hv0], ?_⟩
        repeat walk_at "k"
        have hm0 := getElem_last m2
        refine ⟨by unfold view; dsimp only; rw [m2]; rfl, rfl, ?_⟩
        unfold liveL
        dsimp only
        rw [m2]
        refine nx2 _ _ ⟨⟨L2.set (m - c'.length) (.lst []), by rw [List.set_append_right _ _ (by omega)]⟩, by rw [List.getElem?_set_ne (by omega)]; exact h2, fun k hk => ?_, _, rfl⟩
        obtain ⟨k1, zs, k2⟩ := h3 k hk
        refine ⟨k1, ?_⟩
        rw [List.getElem?_set]
        split
        · exact ⟨[], by first | rfl | rw [if_pos hm0]⟩
        · exact ⟨zs, k2⟩
      · rintro δ c2 ⟨⟨L2, rfl⟩, h2, h3, x9, rfl⟩
        refine ⟨by rw [hvw h2, hvw hv0], ?_⟩
        have hb2 : (c' ++ L2)[i]? = some (.box j1) := by rw [List.getElem?_append_left hi]; exact hb1
        clear h2 h3 hv0 hvw hks hL
        generalize c' ++ L2 = c2 at hb2
        repeat walk_at "k"
        refine lc_map (fun r : List Int => D.lst (r.map .int)) (fun r => some (.tup (r.map .int))) (by rfl) rows [] (by show 0 + _ < sizeLine; rw [Nat.zero_add]; exact lt_sz (by omega)) (fun r hr2 kk hkk => ?_) ?_
        · repeat walk_at "k"
          refine e_tupleV rfl ?_
          exact hkk
        rw [List.nil_append, List.filterMap_eq_map']
        refine e_ifF ?_
        repeat walk_at "k"
        refine e_tupleV rfl ?_
        repeat walk_at "k"
        refine lker _ _ ?_
        repeat walk_at "k"
        refine z_rankK isRows_t gv hk ?_
        repeat walk_at "k"
        rw [if_neg (by simp)]
        repeat walk_at "k"
        refine z_kernel isRows_t gv ?_
        repeat walk_at "k"
        have kl := kerL_len gv.len
        have ek2 := hk.same (red_rank gv.len)
        rw [List.length_map, if_neg (by simp; omega)]
        repeat walk_at "k"
        by_cases hj0 : j = 0
        · rw [if_pos (by simp [hj0])]
          repeat walk_at "k"
          refine z_wide hb2 (by omega) fun j3 hj3 => ?_
          repeat walk_at "k"
          exact nx _ _ ⟨_, _, _, _, _, _, _, _, _, _, _, rfl⟩
        · rw [if_neg (by simp; omega)]
          repeat walk_at "k"
          exact nx _ _ ⟨_, _, _, _, _, _, _, _, _, _, _, rfl⟩
  · rintro δ c' ⟨x1, x2, x3, x4, x5, x6, x7, x8, x9, x10, x11, rfl⟩
    refine ⟨trivial, ?_⟩
    repeat walk_at "k"
    have g0 : ∀ {w : Nat} {rs : List (List Int)}, w < 900 → (∀ r ∈ rs, r.length = w ∧ r = []) → rs.length ≤ 2 → Given w 2 1 rs := fun {w rs} hw h hl => ⟨fun r hr => (h r hr).1, fun r hr j => by rw [(h r hr).2]; simp [vec], hw, .inl hl, ⟨by decide, by decide +kernel⟩⟩
    have ne : ∀ {w : Nat} {Φ2 : QD} {cc : SH} (zss : List (List Int)), Φ2 (.bl (!zss.isEmpty)) cc → neD (.lst (zss.map fun v => .lst (v.map .int))) (.lst []) cc Φ2 := fun {w Φ2 cc} zss h => e_neL0 zss rfl h
    refine z_kernel (w := 0) (isRows_l (rows := [])) (g0 (by decide) nofun (by decide)) ?_
    repeat walk_at "k"
    refine ne (w := 0) _ ?_
    rw [show (kerL (red []) 0).isEmpty = true from rfl]
    repeat walk_at "k"
    refine z_rankK (w := 0) (k := 0) (isRows_l (rows := [[], []])) (g0 (by decide) (fun r hr => ?_) (by decide)) ?_ ?_
    · simp at hr
      subst hr
      exact ⟨rfl, rfl⟩
    · have := red_rank (rows := [[], []]) (w := 0) (fun r hr => by simp at hr; subst hr; rfl)
      exact this
    repeat walk_at "k"
    rw [if_neg (by decide)]
    repeat walk_at "k"
    refine z_kernel (w := 0) (isRows_l (rows := [[]])) (g0 (by decide) (fun r hr => ?_) (by decide)) ?_
    · simp at hr
      subst hr
      exact ⟨rfl, rfl⟩
    repeat walk_at "k"
    refine ne (w := 0) _ ?_
    rw [show (kerL (red [[]]) 0).isEmpty = true from rfl]
    repeat walk_at "k"
    refine z_kernel (w := 2) (isRows_l (rows := [])) (g0 (by decide) nofun (by decide)) ?_
    repeat walk_at "k"
    refine ne (w := 0) _ ?_
    rw [show (kerL (red []) 2).isEmpty = false from by decide]
    repeat walk_at "k"
    refine z_rankK (w := 0) (k := 0) (isRows_l (rows := [])) (g0 (by decide) nofun (by decide)) ⟨[], fun x hx h y hy => ?_, rfl, nofun, nofun⟩ ?_
    · have : x = [] := List.length_eq_zero_iff.mp hx
      subst this
      cases hy
    repeat walk_at "k"
    exact .inl (congrArg D.bl (by decide))
end K14
set_option Elab.async false
set_option linter.all false
set_option maxRecDepth 100000
set_option maxHeartbeats 3900000
namespace K14
open PySem PySem.Spec PyProof.Rows L2 G M
theorem all_mk {l : PySem.W.OpenLaw} {w : World} {K : PySem.W.Frag} {h : Heap} {mg : Str → Option Value} {fa : Addr} {f_divisor_of : Addr} {od_divisor_of an_divisor_of : Option Addr} {sl_divisor_of : Array (Option Value)} {oc_divisor_of kV_divisor_of dc_divisor_of pm_divisor_of ct_divisor_of : Value} {cd_divisor_of : Value} {f_primitive : Addr} {od_primitive an_primitive : Option Addr} {sl_primitive : Array (Option Value)} {oc_primitive kV_primitive dc_primitive pm_primitive ct_primitive : Value} {cd_primitive : Value} {f_cleared : Addr} {od_cleared an_cleared : Option Addr} {sl_cleared : Array (Option Value)} {oc_cleared kV_cleared dc_cleared pm_cleared ct_cleared : Value} {cd_cleared : Value} {f_first_place : Addr} {od_first_place an_first_place : Option Addr} {sl_first_place : Array (Option Value)} {oc_first_place kV_first_place dc_first_place pm_first_place ct_first_place : Value} {c_first_place P_first_place : Addr} {vC_first_place : Array Value} {oC_first_place : Value} {dC_first_place : Option Addr} {sC_first_place : Array (Option Value)} {f_reduced : Addr} {od_reduced an_reduced : Option Addr} {sl_reduced : Array (Option Value)} {oc_reduced kV_reduced dc_reduced pm_reduced ct_reduced : Value} {cd_reduced : Value} {f_rank_of : Addr} {od_rank_of an_rank_of : Option Addr} {sl_rank_of : Array (Option Value)} {oc_rank_of kV_rank_of dc_rank_of pm_rank_of ct_rank_of : Value} {cd_rank_of : Value} {f_upright : Addr} {od_upright an_upright : Option Addr} {sl_upright : Array (Option Value)} {oc_upright kV_upright dc_upright pm_upright ct_upright : Value} {cd_upright : Value} {f_kernel_of : Addr} {od_kernel_of an_kernel_of : Option Addr} {sl_kernel_of : Array (Option Value)} {oc_kernel_of kV_kernel_of dc_kernel_of pm_kernel_of ct_kernel_of : Value} {cd_kernel_of : Value} {f_l_cell : Addr} {od_l_cell an_l_cell : Option Addr} {sl_l_cell : Array (Option Value)} {oc_l_cell kV_l_cell dc_l_cell pm_l_cell ct_l_cell : Value} {cd_l_cell : Value} {f_l_box : Addr} {od_l_box an_l_box : Option Addr} {sl_l_box : Array (Option Value)} {oc_l_box kV_l_box dc_l_box pm_l_box ct_l_box : Value} {cd_l_box : Value} {f_l_take : Addr} {od_l_take an_l_take : Option Addr} {sl_l_take : Array (Option Value)} {oc_l_take kV_l_take dc_l_take pm_l_take ct_l_take : Value} {cd_l_take : Value} {f_l_rows : Addr} {od_l_rows an_l_rows : Option Addr} {sl_l_rows : Array (Option Value)} {oc_l_rows kV_l_rows dc_l_rows pm_l_rows ct_l_rows : Value} {cd_l_rows : Value} {f_l_rank : Addr} {od_l_rank an_l_rank : Option Addr} {sl_l_rank : Array (Option Value)} {oc_l_rank kV_l_rank dc_l_rank pm_l_rank ct_l_rank : Value} {cd_l_rank : Value} {f_l_divisor : Addr} {od_l_divisor an_l_divisor : Option Addr} {sl_l_divisor : Array (Option Value)} {oc_l_divisor kV_l_divisor dc_l_divisor pm_l_divisor ct_l_divisor : Value} {cd_l_divisor : Value} {f_l_upright : Addr} {od_l_upright an_l_upright : Option Addr} {sl_l_upright : Array (Option Value)} {oc_l_upright kV_l_upright dc_l_upright pm_l_upright ct_l_upright : Value} {cd_l_upright : Value} {f_l_kernel_right : Addr} {od_l_kernel_right an_l_kernel_right : Option Addr} {sl_l_kernel_right : Array (Option Value)} {oc_l_kernel_right kV_l_kernel_right dc_l_kernel_right pm_l_kernel_right ct_l_kernel_right : Value} {cd_l_kernel_right : Value} {f_l_wide_right : Addr} {od_l_wide_right an_l_wide_right : Option Addr} {sl_l_wide_right : Array (Option Value)} {oc_l_wide_right kV_l_wide_right dc_l_wide_right pm_l_wide_right ct_l_wide_right : Value} {cd_l_wide_right : Value} {f_law : Addr} {od_law an_law : Option Addr} {sl_law : Array (Option Value)} {oc_law kV_law dc_law pm_law ct_law : Value} {cd_law : Value} (X : K.In h) (Gx : h.Ns mainGlobals mg) (hfa : mg "law" = some (.ref fa))
    (a_divisor_of : PySem.W.nsIn K mainGlobals "divisor_of" = some (some (.ref f_divisor_of)))
    (l_divisor_of : K.lookup f_divisor_of = some ⟨oc_divisor_of, od_divisor_of, .func (PySem.W.fnOf "divisor_of" "divisor_of" (defArgs s_divisor_of) (defBody s_divisor_of) (defScope s_divisor_of) .none kV_divisor_of dc_divisor_of pm_divisor_of an_divisor_of cd_divisor_of ct_divisor_of), sl_divisor_of⟩)
    (cc_divisor_of : PySem.W.codeIn K cd_divisor_of "divisor_of" = true)
    (k_divisor_of : PySem.W.keepIn K (.ref f_divisor_of) = true)
    (a_primitive : PySem.W.nsIn K mainGlobals "primitive" = some (some (.ref f_primitive)))
    (l_primitive : K.lookup f_primitive = some ⟨oc_primitive, od_primitive, .func (PySem.W.fnOf "primitive" "primitive" (defArgs s_primitive) (defBody s_primitive) (defScope s_primitive) .none kV_primitive dc_primitive pm_primitive an_primitive cd_primitive ct_primitive), sl_primitive⟩)
    (cc_primitive : PySem.W.codeIn K cd_primitive "primitive" = true)
    (k_primitive : PySem.W.keepIn K (.ref f_primitive) = true)
    (a_cleared : PySem.W.nsIn K mainGlobals "cleared" = some (some (.ref f_cleared)))
    (l_cleared : K.lookup f_cleared = some ⟨oc_cleared, od_cleared, .func (PySem.W.fnOf "cleared" "cleared" (defArgs s_cleared) (defBody s_cleared) (defScope s_cleared) .none kV_cleared dc_cleared pm_cleared an_cleared cd_cleared ct_cleared), sl_cleared⟩)
    (cc_cleared : PySem.W.codeIn K cd_cleared "cleared" = true)
    (k_cleared : PySem.W.keepIn K (.ref f_cleared) = true)
    (a_first_place : PySem.W.nsIn K mainGlobals "first_place" = some (some (.ref f_first_place)))
    (l_first_place : K.lookup f_first_place = some ⟨oc_first_place, od_first_place, .func (PySem.W.fnOf "first_place" "first_place" (defArgs s_first_place) (defBody s_first_place) (defScope s_first_place) .none kV_first_place dc_first_place pm_first_place an_first_place (.ref c_first_place) ct_first_place), sl_first_place⟩)
    (cc_first_place : PySem.W.codeIn K (.ref c_first_place) "first_place" = true)
    (k_first_place : PySem.W.keepIn K (.ref f_first_place) = true)
    (lc_first_place : K.lookup c_first_place = some ⟨oC_first_place, dC_first_place, .fields vC_first_place, sC_first_place⟩)
    (v11_first_place : vC_first_place[11]? = some (.ref P_first_place))
    (ch_first_place : PySem.W.codeHdIn K c_first_place P_first_place = true)
    (np_first_place : K.lookup P_first_place = none)
    (tb_first_place : h.get? P_first_place = some (PySem.W.tabObj #[]))
    (a_reduced : PySem.W.nsIn K mainGlobals "reduced" = some (some (.ref f_reduced)))
    (l_reduced : K.lookup f_reduced = some ⟨oc_reduced, od_reduced, .func (PySem.W.fnOf "reduced" "reduced" (defArgs s_reduced) (defBody s_reduced) (defScope s_reduced) .none kV_reduced dc_reduced pm_reduced an_reduced cd_reduced ct_reduced), sl_reduced⟩)
    (cc_reduced : PySem.W.codeIn K cd_reduced "reduced" = true)
    (k_reduced : PySem.W.keepIn K (.ref f_reduced) = true)
    (a_rank_of : PySem.W.nsIn K mainGlobals "rank_of" = some (some (.ref f_rank_of)))
    (l_rank_of : K.lookup f_rank_of = some ⟨oc_rank_of, od_rank_of, .func (PySem.W.fnOf "rank_of" "rank_of" (defArgs s_rank_of) (defBody s_rank_of) (defScope s_rank_of) .none kV_rank_of dc_rank_of pm_rank_of an_rank_of cd_rank_of ct_rank_of), sl_rank_of⟩)
    (cc_rank_of : PySem.W.codeIn K cd_rank_of "rank_of" = true)
    (k_rank_of : PySem.W.keepIn K (.ref f_rank_of) = true)
    (a_upright : PySem.W.nsIn K mainGlobals "upright" = some (some (.ref f_upright)))
    (l_upright : K.lookup f_upright = some ⟨oc_upright, od_upright, .func (PySem.W.fnOf "upright" "upright" (defArgs s_upright) (defBody s_upright) (defScope s_upright) .none kV_upright dc_upright pm_upright an_upright cd_upright ct_upright), sl_upright⟩)
    (cc_upright : PySem.W.codeIn K cd_upright "upright" = true)
    (k_upright : PySem.W.keepIn K (.ref f_upright) = true)
    (a_kernel_of : PySem.W.nsIn K mainGlobals "kernel_of" = some (some (.ref f_kernel_of)))
    (l_kernel_of : K.lookup f_kernel_of = some ⟨oc_kernel_of, od_kernel_of, .func (PySem.W.fnOf "kernel_of" "kernel_of" (defArgs s_kernel_of) (defBody s_kernel_of) (defScope s_kernel_of) .none kV_kernel_of dc_kernel_of pm_kernel_of an_kernel_of cd_kernel_of ct_kernel_of), sl_kernel_of⟩)
    (cc_kernel_of : PySem.W.codeIn K cd_kernel_of "kernel_of" = true)
    (k_kernel_of : PySem.W.keepIn K (.ref f_kernel_of) = true)
    (a_l_cell : PySem.W.nsIn K mainGlobals "_law_cell" = some (some (.ref f_l_cell)))
    (l_l_cell : K.lookup f_l_cell = some ⟨oc_l_cell, od_l_cell, .func (PySem.W.fnOf "_law_cell" "_law_cell" (defArgs s_l_cell) (defBody s_l_cell) (defScope s_l_cell) .none kV_l_cell dc_l_cell pm_l_cell an_l_cell cd_l_cell ct_l_cell), sl_l_cell⟩)
    (cc_l_cell : PySem.W.codeIn K cd_l_cell "_law_cell" = true)
    (k_l_cell : PySem.W.keepIn K (.ref f_l_cell) = true)
    (a_l_box : PySem.W.nsIn K mainGlobals "_law_box" = some (some (.ref f_l_box)))
    (l_l_box : K.lookup f_l_box = some ⟨oc_l_box, od_l_box, .func (PySem.W.fnOf "_law_box" "_law_box" (defArgs s_l_box) (defBody s_l_box) (defScope s_l_box) .none kV_l_box dc_l_box pm_l_box an_l_box cd_l_box ct_l_box), sl_l_box⟩)
    (cc_l_box : PySem.W.codeIn K cd_l_box "_law_box" = true)
    (k_l_box : PySem.W.keepIn K (.ref f_l_box) = true)
    (a_l_take : PySem.W.nsIn K mainGlobals "_law_take" = some (some (.ref f_l_take)))
    (l_l_take : K.lookup f_l_take = some ⟨oc_l_take, od_l_take, .func (PySem.W.fnOf "_law_take" "_law_take" (defArgs s_l_take) (defBody s_l_take) (defScope s_l_take) .none kV_l_take dc_l_take pm_l_take an_l_take cd_l_take ct_l_take), sl_l_take⟩)
    (cc_l_take : PySem.W.codeIn K cd_l_take "_law_take" = true)
    (k_l_take : PySem.W.keepIn K (.ref f_l_take) = true)
    (a_l_rows : PySem.W.nsIn K mainGlobals "_law_rows" = some (some (.ref f_l_rows)))
    (l_l_rows : K.lookup f_l_rows = some ⟨oc_l_rows, od_l_rows, .func (PySem.W.fnOf "_law_rows" "_law_rows" (defArgs s_l_rows) (defBody s_l_rows) (defScope s_l_rows) .none kV_l_rows dc_l_rows pm_l_rows an_l_rows cd_l_rows ct_l_rows), sl_l_rows⟩)
    (cc_l_rows : PySem.W.codeIn K cd_l_rows "_law_rows" = true)
    (k_l_rows : PySem.W.keepIn K (.ref f_l_rows) = true)
    (a_l_rank : PySem.W.nsIn K mainGlobals "_law_rank" = some (some (.ref f_l_rank)))
    (l_l_rank : K.lookup f_l_rank = some ⟨oc_l_rank, od_l_rank, .func (PySem.W.fnOf "_law_rank" "_law_rank" (defArgs s_l_rank) (defBody s_l_rank) (defScope s_l_rank) .none kV_l_rank dc_l_rank pm_l_rank an_l_rank cd_l_rank ct_l_rank), sl_l_rank⟩)
    (cc_l_rank : PySem.W.codeIn K cd_l_rank "_law_rank" = true)
    (k_l_rank : PySem.W.keepIn K (.ref f_l_rank) = true)
    (a_l_divisor : PySem.W.nsIn K mainGlobals "_law_divisor" = some (some (.ref f_l_divisor)))
    (l_l_divisor : K.lookup f_l_divisor = some ⟨oc_l_divisor, od_l_divisor, .func (PySem.W.fnOf "_law_divisor" "_law_divisor" (defArgs s_l_divisor) (defBody s_l_divisor) (defScope s_l_divisor) .none kV_l_divisor dc_l_divisor pm_l_divisor an_l_divisor cd_l_divisor ct_l_divisor), sl_l_divisor⟩)
    (cc_l_divisor : PySem.W.codeIn K cd_l_divisor "_law_divisor" = true)
    (k_l_divisor : PySem.W.keepIn K (.ref f_l_divisor) = true)
    (a_l_upright : PySem.W.nsIn K mainGlobals "_law_upright" = some (some (.ref f_l_upright)))
    (l_l_upright : K.lookup f_l_upright = some ⟨oc_l_upright, od_l_upright, .func (PySem.W.fnOf "_law_upright" "_law_upright" (defArgs s_l_upright) (defBody s_l_upright) (defScope s_l_upright) .none kV_l_upright dc_l_upright pm_l_upright an_l_upright cd_l_upright ct_l_upright), sl_l_upright⟩)
    (cc_l_upright : PySem.W.codeIn K cd_l_upright "_law_upright" = true)
    (k_l_upright : PySem.W.keepIn K (.ref f_l_upright) = true)
    (a_l_kernel_right : PySem.W.nsIn K mainGlobals "_law_kernel_right" = some (some (.ref f_l_kernel_right)))
    (l_l_kernel_right : K.lookup f_l_kernel_right = some ⟨oc_l_kernel_right, od_l_kernel_right, .func (PySem.W.fnOf "_law_kernel_right" "_law_kernel_right" (defArgs s_l_kernel_right) (defBody s_l_kernel_right) (defScope s_l_kernel_right) .none kV_l_kernel_right dc_l_kernel_right pm_l_kernel_right an_l_kernel_right cd_l_kernel_right ct_l_kernel_right), sl_l_kernel_right⟩)
    (cc_l_kernel_right : PySem.W.codeIn K cd_l_kernel_right "_law_kernel_right" = true)
    (k_l_kernel_right : PySem.W.keepIn K (.ref f_l_kernel_right) = true)
    (a_l_wide_right : PySem.W.nsIn K mainGlobals "_law_wide_right" = some (some (.ref f_l_wide_right)))
    (l_l_wide_right : K.lookup f_l_wide_right = some ⟨oc_l_wide_right, od_l_wide_right, .func (PySem.W.fnOf "_law_wide_right" "_law_wide_right" (defArgs s_l_wide_right) (defBody s_l_wide_right) (defScope s_l_wide_right) .none kV_l_wide_right dc_l_wide_right pm_l_wide_right an_l_wide_right cd_l_wide_right ct_l_wide_right), sl_l_wide_right⟩)
    (cc_l_wide_right : PySem.W.codeIn K cd_l_wide_right "_law_wide_right" = true)
    (k_l_wide_right : PySem.W.keepIn K (.ref f_l_wide_right) = true)
    (a_law : PySem.W.nsIn K mainGlobals "law" = some (some (.ref f_law)))
    (l_law : K.lookup f_law = some ⟨oc_law, od_law, .func (PySem.W.fnOf "law" "law" (defArgs s_law) (defBody s_law) (defScope s_law) .none kV_law dc_law pm_law an_law cd_law ct_law), sl_law⟩)
    (cc_law : PySem.W.codeIn K cd_law "law" = true)
    (k_law : PySem.W.keepIn K (.ref f_law) = true)
    (y_isinstance : PySem.W.nsIn K mainGlobals "isinstance" = some none)
    (y_int : PySem.W.nsIn K mainGlobals "int" = some none)
    (y_str : PySem.W.nsIn K mainGlobals "str" = some none)
    (y_len : PySem.W.nsIn K mainGlobals "len" = some none)
    (y_max : PySem.W.nsIn K mainGlobals "max" = some none)
    (y_min : PySem.W.nsIn K mainGlobals "min" = some none)
    (y_range : PySem.W.nsIn K mainGlobals "range" = some none)
    (y_list : PySem.W.nsIn K mainGlobals "list" = some none)
    (y_tuple : PySem.W.nsIn K mainGlobals "tuple" = some none)
    (y_repr : PySem.W.nsIn K mainGlobals "repr" = some none)
    (y_enumerate : PySem.W.nsIn K mainGlobals "enumerate" = some none)
    (y_abs : PySem.W.nsIn K mainGlobals "abs" = some none)
    (y_zip : PySem.W.nsIn K mainGlobals "zip" = some none)
    (y_sum : PySem.W.nsIn K mainGlobals "sum" = some none)
    (y_next : PySem.W.nsIn K mainGlobals "next" = some none) :
    LawAtG l w K (L2.CX l.prog w) 8 63 "_law_script" mg fa h := by
  have e := hfa.symm.trans (PySem.W.mg_of X Gx a_law)
  cases e
  let T : Top l.prog K mg := { f_divisor_of := f_divisor_of, fd_divisor_of := _, F_divisor_of := funV_mk (st := s_divisor_of) l_divisor_of cc_divisor_of k_divisor_of, b_divisor_of := (.all fun us hl => match us, hl with | [_, _], _ => rfl), g_divisor_of := PySem.W.mg_of X Gx a_divisor_of, f_primitive := f_primitive, fd_primitive := _, F_primitive := funV_mk (st := s_primitive) l_primitive cc_primitive k_primitive, b_primitive := (.all fun us hl => match us, hl with | [_], _ => rfl), g_primitive := PySem.W.mg_of X Gx a_primitive, f_cleared := f_cleared, fd_cleared := _, F_cleared := funV_mk (st := s_cleared) l_cleared cc_cleared k_cleared, b_cleared := (.all fun us hl => match us, hl with | [_, _, _], _ => rfl), g_cleared := PySem.W.mg_of X Gx a_cleared, f_first_place := f_first_place, fd_first_place := _, F_first_place := funV_mk (st := s_first_place) l_first_place cc_first_place k_first_place, b_first_place := (.all fun us hl => match us, hl with | [_], _ => rfl), g_first_place := PySem.W.mg_of X Gx a_first_place, c_first_place := c_first_place, P_first_place := P_first_place, hc_first_place := rfl, f_reduced := f_reduced, fd_reduced := _, F_reduced := funV_mk (st := s_reduced) l_reduced cc_reduced k_reduced, b_reduced := (.all fun us hl => match us, hl with | [_], _ => rfl), g_reduced := PySem.W.mg_of X Gx a_reduced, f_rank_of := f_rank_of, fd_rank_of := _, F_rank_of := funV_mk (st := s_rank_of) l_rank_of cc_rank_of k_rank_of, b_rank_of := (.all fun us hl => match us, hl with | [_], _ => rfl), g_rank_of := PySem.W.mg_of X Gx a_rank_of, f_upright := f_upright, fd_upright := _, F_upright := funV_mk (st := s_upright) l_upright cc_upright k_upright, b_upright := (.all fun us hl => match us, hl with | [_], _ => rfl), g_upright := PySem.W.mg_of X Gx a_upright, f_kernel_of := f_kernel_of, fd_kernel_of := _, F_kernel_of := funV_mk (st := s_kernel_of) l_kernel_of cc_kernel_of k_kernel_of, b_kernel_of := (.all fun us hl => match us, hl with | [_, _], _ => rfl), g_kernel_of := PySem.W.mg_of X Gx a_kernel_of, f_l_cell := f_l_cell, fd_l_cell := _, F_l_cell := funV_mk (st := s_l_cell) l_l_cell cc_l_cell k_l_cell, b_l_cell := (.all fun us hl => match us, hl with | [_, _], _ => rfl), g_l_cell := PySem.W.mg_of X Gx a_l_cell, f_l_box := f_l_box, fd_l_box := _, F_l_box := funV_mk (st := s_l_box) l_l_box cc_l_box k_l_box, b_l_box := (.all fun us hl => match us, hl with | [_], _ => rfl), g_l_box := PySem.W.mg_of X Gx a_l_box, f_l_take := f_l_take, fd_l_take := _, F_l_take := funV_mk (st := s_l_take) l_l_take cc_l_take k_l_take, b_l_take := (.all fun us hl => match us, hl with | [_, _], _ => rfl), g_l_take := PySem.W.mg_of X Gx a_l_take, f_l_rows := f_l_rows, fd_l_rows := _, F_l_rows := funV_mk (st := s_l_rows) l_l_rows cc_l_rows k_l_rows, b_l_rows := (.all fun us hl => match us, hl with | [_], _ => rfl), g_l_rows := PySem.W.mg_of X Gx a_l_rows, f_l_rank := f_l_rank, fd_l_rank := _, F_l_rank := funV_mk (st := s_l_rank) l_l_rank cc_l_rank k_l_rank, b_l_rank := (.all fun us hl => match us, hl with | [_], _ => rfl), g_l_rank := PySem.W.mg_of X Gx a_l_rank, f_l_divisor := f_l_divisor, fd_l_divisor := _, F_l_divisor := funV_mk (st := s_l_divisor) l_l_divisor cc_l_divisor k_l_divisor, b_l_divisor := (.all fun us hl => match us, hl with | [_], _ => rfl), g_l_divisor := PySem.W.mg_of X Gx a_l_divisor, f_l_upright := f_l_upright, fd_l_upright := _, F_l_upright := funV_mk (st := s_l_upright) l_l_upright cc_l_upright k_l_upright, b_l_upright := (.all fun us hl => match us, hl with | [_], _ => rfl), g_l_upright := PySem.W.mg_of X Gx a_l_upright, f_l_kernel_right := f_l_kernel_right, fd_l_kernel_right := _, F_l_kernel_right := funV_mk (st := s_l_kernel_right) l_l_kernel_right cc_l_kernel_right k_l_kernel_right, b_l_kernel_right := (.all fun us hl => match us, hl with | [_, _, _], _ => rfl), g_l_kernel_right := PySem.W.mg_of X Gx a_l_kernel_right, f_l_wide_right := f_l_wide_right, fd_l_wide_right := _, F_l_wide_right := funV_mk (st := s_l_wide_right) l_l_wide_right cc_l_wide_right k_l_wide_right, b_l_wide_right := (.all fun us hl => match us, hl with | [_], _ => rfl), g_l_wide_right := PySem.W.mg_of X Gx a_l_wide_right, f_law := _, fd_law := _, F_law := funV_mk (st := s_law) l_law cc_law k_law, b_law := (.all fun us hl => match us, hl with | [_], _ => rfl), g_law := PySem.W.mg_of X Gx a_law, m_isinstance := PySem.W.mg_none_of X Gx y_isinstance, m_int := PySem.W.mg_none_of X Gx y_int, m_str := PySem.W.mg_none_of X Gx y_str, m_len := PySem.W.mg_none_of X Gx y_len, m_max := PySem.W.mg_none_of X Gx y_max, m_min := PySem.W.mg_none_of X Gx y_min, m_range := PySem.W.mg_none_of X Gx y_range, m_list := PySem.W.mg_none_of X Gx y_list, m_tuple := PySem.W.mg_none_of X Gx y_tuple, m_repr := PySem.W.mg_none_of X Gx y_repr, m_enumerate := PySem.W.mg_none_of X Gx y_enumerate, m_abs := PySem.W.mg_none_of X Gx y_abs, m_zip := PySem.W.mg_none_of X Gx y_zip, m_sum := PySem.W.mg_none_of X Gx y_sum, m_next := PySem.W.mg_none_of X Gx y_next }
  refine ⟨T.fd_law, [(c_first_place, P_first_place)], SpG K T.tabs (m_law T), (List.forall_mem_cons.mpr ⟨tb_first_place, (fun _ z => nomatch z)⟩), (List.forall_mem_cons.mpr ⟨np_first_place, (fun _ z => nomatch z)⟩), (List.forall_mem_cons.mpr ⟨PySem.W.codeHd_of_K X ch_first_place, (fun _ z => nomatch z)⟩), fun s u => .of_eq rfl, ?_, ?_⟩
  · intro H a ns hl _ hH hS
    refine law_sp ?_ hS (law_true ns hl)
    intro z hz
    simp only [Top.tabs, List.mem_cons, List.not_mem_nil, or_false] at hz
    rcases hz with rfl
    · exact LamX.TabS.nil (hH (c_first_place, P_first_place) (List.mem_cons_self))
  · intro base _ _ hB
    exact ok_law T ⟨hB (c_first_place, P_first_place) (List.mem_cons_self)⟩
end K14
open PySem PySem.W PyProof.Rows
local macro_rules | `(tactic| o_headL ($f $K $as $e)) => `(tactic| o_headL (M.kH2 $K $as $e [33]))
set_option maxRecDepth 100000 in
set_option maxHeartbeats 0 in
theorem PySem.Challenge.cw_chaincompass_k14_ranks_and_kernels_holds : PySem.Challenge.rw_chaincompass_k14_ranks_and_kernels.Holds := by
  w_on; o_law; k_headL; (case hw => w_witness2)
  k_fill
  refine M.walk_ofG (l := PySem.Challenge.rw_chaincompass_k14_ranks_and_kernels) (n := 63) (k := 8) (x := "_law_script") (CX := fun w => L2.CX PySem.Challenge.rw_chaincompass_k14_ranks_and_kernels.prog w) rfl (by decide) rfl ⟨rfl, by decide, by decide⟩ (fun w h Y => M.k2_in Y) ?F (fun _ _ _ _ _ h => M.cx_none h)
  case F =>
    intro w mg fa h Y KX Gx hmg
    have hT8 := M.k2_tabs Y
    refine' K14.all_mk KX Gx hmg ?a_divisor_of ?l_divisor_of ?cc_divisor_of ?k_divisor_of ?a_primitive ?l_primitive ?cc_primitive ?k_primitive ?a_cleared ?l_cleared ?cc_cleared ?k_cleared ?a_first_place ?l_first_place ?cc_first_place ?k_first_place ?lc_first_place ?v11_first_place ?ch_first_place ?np_first_place ?tb_first_place ?a_reduced ?l_reduced ?cc_reduced ?k_reduced ?a_rank_of ?l_rank_of ?cc_rank_of ?k_rank_of ?a_upright ?l_upright ?cc_upright ?k_upright ?a_kernel_of ?l_kernel_of ?cc_kernel_of ?k_kernel_of ?a_l_cell ?l_l_cell ?cc_l_cell ?k_l_cell ?a_l_box ?l_l_box ?cc_l_box ?k_l_box ?a_l_take ?l_l_take ?cc_l_take ?k_l_take ?a_l_rows ?l_l_rows ?cc_l_rows ?k_l_rows ?a_l_rank ?l_l_rank ?cc_l_rank ?k_l_rank ?a_l_divisor ?l_l_divisor ?cc_l_divisor ?k_l_divisor ?a_l_upright ?l_l_upright ?cc_l_upright ?k_l_upright ?a_l_kernel_right ?l_l_kernel_right ?cc_l_kernel_right ?k_l_kernel_right ?a_l_wide_right ?l_l_wide_right ?cc_l_wide_right ?k_l_wide_right ?a_law ?l_law ?cc_law ?k_law ?y_isinstance ?y_int ?y_str ?y_len ?y_max ?y_min ?y_range ?y_list ?y_tuple ?y_repr ?y_enumerate ?y_abs ?y_zip ?y_sum ?y_next
    (case a_divisor_of => k_is)
    (case l_divisor_of => k_is)
    (case cc_divisor_of => k_is)
    (case k_divisor_of => k_is)
    (case a_primitive => k_is)
    (case l_primitive => k_is)
    (case cc_primitive => k_is)
    (case k_primitive => k_is)
    (case a_cleared => k_is)
    (case l_cleared => k_is)
    (case cc_cleared => k_is)
    (case k_cleared => k_is)
    (case a_first_place => k_is)
    (case l_first_place => k_is)
    (case cc_first_place => k_is)
    (case k_first_place => k_is)
    (case lc_first_place => k_is)
    (case v11_first_place => rfl)
    (case ch_first_place => kernel_rfl)
    (case np_first_place => kernel_rfl)
    (case tb_first_place => exact hT8 _ (by k_mem) (by kernel_rfl))
    (case a_reduced => k_is)
    (case l_reduced => k_is)
    (case cc_reduced => k_is)
    (case k_reduced => k_is)
    (case a_rank_of => k_is)
    (case l_rank_of => k_is)
    (case cc_rank_of => k_is)
    (case k_rank_of => k_is)
    (case a_upright => k_is)
    (case l_upright => k_is)
    (case cc_upright => k_is)
    (case k_upright => k_is)
    (case a_kernel_of => k_is)
    (case l_kernel_of => k_is)
    (case cc_kernel_of => k_is)
    (case k_kernel_of => k_is)
    (case a_l_cell => k_is)
    (case l_l_cell => k_is)
    (case cc_l_cell => k_is)
    (case k_l_cell => k_is)
    (case a_l_box => k_is)
    (case l_l_box => k_is)
    (case cc_l_box => k_is)
    (case k_l_box => k_is)
    (case a_l_take => k_is)
    (case l_l_take => k_is)
    (case cc_l_take => k_is)
    (case k_l_take => k_is)
    (case a_l_rows => k_is)
    (case l_l_rows => k_is)
    (case cc_l_rows => k_is)
    (case k_l_rows => k_is)
    (case a_l_rank => k_is)
    (case l_l_rank => k_is)
    (case cc_l_rank => k_is)
    (case k_l_rank => k_is)
    (case a_l_divisor => k_is)
    (case l_l_divisor => k_is)
    (case cc_l_divisor => k_is)
    (case k_l_divisor => k_is)
    (case a_l_upright => k_is)
    (case l_l_upright => k_is)
    (case cc_l_upright => k_is)
    (case k_l_upright => k_is)
    (case a_l_kernel_right => k_is)
    (case l_l_kernel_right => k_is)
    (case cc_l_kernel_right => k_is)
    (case k_l_kernel_right => k_is)
    (case a_l_wide_right => k_is)
    (case l_l_wide_right => k_is)
    (case cc_l_wide_right => k_is)
    (case k_l_wide_right => k_is)
    (case a_law => k_is)
    (case l_law => k_is)
    (case cc_law => k_is)
    (case k_law => k_is)
    (case y_isinstance => k_is)
    (case y_int => k_is)
    (case y_str => k_is)
    (case y_len => k_is)
    (case y_max => k_is)
    (case y_min => k_is)
    (case y_range => k_is)
    (case y_list => k_is)
    (case y_tuple => k_is)
    (case y_repr => k_is)
    (case y_enumerate => k_is)
    (case y_abs => k_is)
    (case y_zip => k_is)
    (case y_sum => k_is)
    (case y_next => k_is)
