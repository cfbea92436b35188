import PyProof.Rows.All
import Wide.All
import OpenK.AllK
import Wide.FinOn
import HandS.ForMost
import HandS.ForExc
import HandS.ExcInit
import HandS.ExcField
import HandS.ExcIs
import HandS.TryMany
import HandS.Star
import HandS.Zip
import HandS.IsInst
import HandS.Wide
import HandS.More
import HandS.Conv
import HandS.TupAny
import HandS.TupMul
import HandS.Walk
import HandS.RaiseMore
import HandS.Style
import HandS.Codes
import HandS.HotCalls
import KE.GoesEnumKw
import KE.KExcIs
import HandS.ExcInitHot
import KE.GoesZip
import KE.GoesMore
import PySem.Challenge.RW_allgivenback_k88_bad_line
set_option Elab.async false
set_option linter.all false
set_option maxRecDepth 100000
set_option maxHeartbeats 8000000
/-! AgKit: rules by values of several kinds, and their steps -/
namespace AG
open PySem PySem.Spec L2

/-! ### heaps that grow -/
theorem Same.app {H H' : Hp} {a : Addr} {o : HO} (s : Same H H') (h : H a = some o) : H' a = some o := s a o h
theorem Same.sqL {K : PySem.W.Frag} {H H' : Hp} {a : Addr} {xs : List V} (e : Same H H') (h : SqL K H a xs) : SqL K H' a xs := L2.Same.seq e h
theorem Same.rd {H H' : Hp} {a : Addr} {u : HO} (e : Same H H') (h : Rd H a u) : Rd H' a u := by
  rcases h with h | ⟨o, h⟩
  · exact .inl (e _ _ h)
  · exact .inr ⟨o, e _ _ h⟩
theorem Same.sqT {K : PySem.W.Frag} {H H' : Hp} {a : Addr} {xs : List V} (e : Same H H') (h : SqT K H a xs) : SqT K H' a xs := by
  rcases h with h | h
  · exact .inl (Same.rd e h)
  · exact .inr h
theorem Same.new {H : Hp} {p : Addr} {o : HO} (h : H p = none) : Same H (upd H p o) := fun a u e => by
  rw [upd_ne (ne_of_none e h)]
  exact e
/-- an object that H does not know may change -/
theorem Same.mut {H H' : Hp} {p : Addr} {o : HO} (e : Same H H') (h : H p = none) : Same H (upd H' p o) := fun a u ha => by
  rw [upd_ne (ne_of_none ha h)]
  exact e a u ha
theorem Same.back {H H' : Hp} {p : Addr} (e : Same H H') (h : H' p = none) : H p = none := L2.Same.free e h
theorem Same.put {H : Hp} {p : Addr} {o : HO} (h : H p = some o) : Same H (upd H p o) := fun a u e => by
  by_cases z : a = p
  · rw [z] at e ⊢
    rw [upd_same, ← e, h]
  · rw [upd_ne z]
    exact e
theorem upd_id {H : Hp} {p : Addr} {o : HO} (h : H p = some o) : upd H p o = H := by
  funext b
  by_cases z : b = p
  · rw [z, upd_same, h]
  · rw [upd_ne z]
theorem sz_of {n : Nat} (h : n ≤ 1000000) : n ≤ sizeLine := Nat.le_trans h (by decide)
theorem sz_lt {n : Nat} (h : n < 1000000) : n < sizeLine := Nat.lt_of_lt_of_le h (by decide)

/-! ### rules with weaker readings -/
section
variable {X : Cx}
theorem pe_weak {e : Expr} {t t' : TE} (h : PE X e t) (w : ∀ σ H Q, t' σ H Q → t σ H Q) : PE X e t' := ⟨fun pins s σ H Q I q => h.run pins s σ H Q I (w σ H Q q)⟩
theorem pi_or {tg iter : Expr} {w w' : TI} (h : PI X tg iter w) (h' : PI X tg iter w') : PI X tg iter (fun σ H R => w σ H R ∨ w' σ H R) := ⟨fun pins s σ H R I q => by
  rcases q with q | q
  · exact h.run pins s σ H R I q
  · exact h'.run pins s σ H R I q⟩

/-! ### new objects -/
def aNew (o : HO) (H : Hp) (Q : VK) : Prop := ∀ p H1, H p = none → Same H H1 → H1 p = some o → Q (.ref p) H1
theorem aNew.all {o : HO} {H : Hp} {Q : VK} (h : aNew o H Q) : ∀ p, H p = none → Q (.ref p) (upd H p o) := fun p hp => h p _ hp (Same.new hp) upd_same
def tTupN (t : TA) : TE := fun σ H Q => t σ H fun xs H1 => xs.length ≤ sizeLine ∧ aNew (.tup xs) H1 Q
def tLstN (t : TA) : TE := fun σ H Q => t σ H fun xs H1 => xs.length ≤ sizeLine ∧ aNew (.lst xs) H1 Q
theorem tA_mono {X : Cx} {es : List Expr} {t : TA} (h : PA X es t) : PA X es t := h
end
/-- an argument list's reading follows its end -/
def MonoA (t : TA) : Prop := ∀ σ H (Q Q' : List V → Hp → Prop), (∀ vs H', Q vs H' → Q' vs H') → t σ H Q → t σ H Q'
section
variable {X : Cx} {es : List Expr} {t : TA} {pos : Pos}
theorem pe_tupN {x1} (h : PA X es t) : PE X (.Tuple es x1 pos) (tTupN t) := by
  have h2 : PA X es (fun σ H Q => ∃ Q' : List V → Hp → Prop, t σ H Q' ∧ ∀ vs H', Q' vs H' → Q vs H') := ⟨fun pos pins s σ H Q I q => by
    obtain ⟨Q', q, k⟩ := q
    exact thn (h.run pos pins s σ H Q' I q) fun us s1 ⟨vs, H1, I1, r, z⟩ => ⟨vs, H1, I1, r, k _ _ z⟩⟩
  exact pe_weak (pe_tup h2) fun σ H Q q => ⟨_, q, fun vs H' z => ⟨z.1, z.2.all⟩⟩
theorem pe_lstN (h : PA X es t) : PE X (.List es pos) (tLstN t) := by
  have h2 : PA X es (fun σ H Q => ∃ Q' : List V → Hp → Prop, t σ H Q' ∧ ∀ vs H', Q' vs H' → Q vs H') := ⟨fun pos pins s σ H Q I q => by
    obtain ⟨Q', q, k⟩ := q
    exact thn (h.run pos pins s σ H Q' I q) fun us s1 ⟨vs, H1, I1, r, z⟩ => ⟨vs, H1, I1, r, k _ _ z⟩⟩
  exact pe_weak (pe_lst h2) fun σ H Q q => ⟨_, q, fun vs H' z => ⟨z.1, z.2.all⟩⟩
end

/-! ### operators by values of several kinds -/
section
variable {X : Cx}
def rAddU (K : PySem.W.Frag) : R2 := fun x y H Q => (∃ i j, x = .int i ∧ y = .int j ∧ Q (.int (i + j)) H) ∨ (∃ i j, x = .str i ∧ y = .str j ∧ i.length + j.length ≤ sizeLine ∧ Q (.str (i ++ j)) H) ∨ rCat x y H Q ∨ rCatA K x y H Q
theorem op_addU : OpR X (binaryOp .Add) (rAddU X.K) := OpR.or op_add (OpR.or op_add_str (OpR.or op_cat op_catA))
def rSubU : R2 := fun x y H Q => ∃ i j, x = .int i ∧ y = .int j ∧ Q (.int (i - j)) H
theorem op_subU : OpR X (binaryOp .Sub) rSubU := op_sub
def rMulU (K : PySem.W.Frag) : R2 := fun x y H Q => (∃ i j, x = .int i ∧ y = .int j ∧ CMul i j ∧ Q (.int (i * j)) H) ∨ (∃ i j, x = .int i ∧ y = .int j ∧ CMulW i j ∧ Q (.int (i * j)) H) ∨ rRep x y H Q ∨ rRepT K x y H Q
theorem op_mulU : OpR X (binaryOp .Mult) (rMulU X.K) := OpR.or op_mul (OpR.or op_mulW (OpR.or op_rep op_repT))
def rFdvU : R2 := fun x y H Q => ∃ i j, x = .int i ∧ y = .int j ∧ CDivW i j ∧ Q (.int (i / j)) H
theorem op_fdvU : OpR X (binaryOp .FloorDiv) rFdvU := op_fdivW
def rModU : R2 := fun x y H Q => ∃ i j, x = .int i ∧ y = .int j ∧ 0 < j ∧ Q (.int (i % j)) H
theorem op_modU : OpR X (binaryOp .Mod) rModU := op_mod
def rPowU : R2 := fun x y H Q => ∃ i j, x = .int i ∧ y = .int j ∧ CPow i j ∧ Q (.int (i ^ j.toNat)) H
theorem op_powU : OpR X (binaryOp .Pow) rPowU := op_pow
def rAndU : R2 := fun x y H Q => ∃ i j, x = .int i ∧ y = .int j ∧ Q (.int (Builtin.bitAnd i j)) H
theorem op_andU : OpR X (binaryOp .BitAnd) rAndU := op_and
def rLtU : R2 := fun x y H Q => (∃ i j, x = .int i ∧ y = .int j ∧ Q (.bl (decide (i < j))) H) ∨ ∃ i j, x = .str i ∧ y = .str j ∧ Q (.bl (decide (i.cps.toList < j.cps.toList))) H
theorem op_ltU : OpR X (compareOp .Lt) rLtU := OpR.or op_lt op_lt_str
def rGtU : R2 := fun x y H Q => (∃ i j, x = .int i ∧ y = .int j ∧ Q (.bl (decide (j < i))) H) ∨ ∃ i j, x = .str i ∧ y = .str j ∧ Q (.bl (decide (j.cps.toList < i.cps.toList))) H
theorem op_gtU : OpR X (compareOp .Gt) rGtU := OpR.or op_gt op_gt_str
def rLeU : R2 := fun x y H Q => (∃ i j, x = .int i ∧ y = .int j ∧ Q (.bl (decide (i ≤ j))) H) ∨ ∃ i j, x = .str i ∧ y = .str j ∧ Q (.bl (!decide (j.cps.toList < i.cps.toList))) H
theorem op_leU : OpR X (compareOp .LtE) rLeU := OpR.or op_le op_le_str
def rGeU : R2 := fun x y H Q => (∃ i j, x = .int i ∧ y = .int j ∧ Q (.bl (decide (j ≤ i))) H) ∨ ∃ i j, x = .str i ∧ y = .str j ∧ Q (.bl (!decide (i.cps.toList < j.cps.toList))) H
theorem op_geU : OpR X (compareOp .GtE) rGeU := OpR.or op_ge op_ge_str
def rIsU : R2 := fun x y H Q => (y = .non ∧ Q (.bl (decide (x = .non))) H) ∨ rIsB x y H Q
theorem op_isU : OpR X (compareOp .Is) rIsU := OpR.or op_isN op_isBl
def rIsnU : R2 := fun x y H Q => (y = .non ∧ Q (.bl (!decide (x = .non))) H) ∨ rNotB x y H Q
theorem op_isnU : OpR X (compareOp .IsNot) rIsnU := OpR.or op_notN op_notBl
/-- len of a list, a tuple, a text, a dict -/
def rLenU (K : PySem.W.Frag) : List V → Hp → VK → Prop := fun xs H Q => (∃ p ys, xs = [.ref p] ∧ (SqL K H p ys ∨ SqT K H p ys) ∧ Q (.int ys.length) H) ∨ (∃ z, xs = [.str z] ∧ z.length ≤ sizeLine ∧ Q (.int z.length) H) ∨ ∃ a kvs, xs = [V.ref a] ∧ H a = some (.dK kvs) ∧ Q (.int kvs.length) H
theorem call_lenU : CallR X (.builtin "len") (rLenU X.K) := CallR.or call_len_seq (CallR.or call_len_str call_lenD)
/-- int of an int, a bool, a text -/
def rIntU : List V → Hp → VK → Prop := fun xs H Q => ((∃ i, xs = [.int i] ∧ Q (.int i) H) ∨ ∃ k, xs = [.bl k] ∧ Q (.int (if k then 1 else 0)) H) ∨ ∃ a n, xs = [.str a] ∧ PySem.intText? a = some n ∧ a.length ≤ 640 ∧ Q (.int n) H
theorem call_intU : CallR X (.type "int") rIntU := CallR.or call_int1 call_int_str
def rStrU : List V → Hp → VK → Prop := fun xs H Q => (∃ i, xs = [.int i] ∧ i.natAbs.log2 < 1920 ∧ Q (.str (toString i)) H) ∨ ∃ a, xs = [.str a] ∧ Q (.str a) H
theorem call_strU : CallR X (.type "str") rStrU := CallR.or call_str_int SkE.call_str_str
/-- list of a list, a tuple, a dict -/
def rListU (K : PySem.W.Frag) : List V → Hp → VK → Prop := fun xs H Q => (∃ p ys, xs = [.ref p] ∧ (SqL K H p ys ∨ SqT K H p ys) ∧ aNew (.lst ys) H Q) ∨ ∃ p kvs, xs = [.ref p] ∧ H p = some (.dK kvs) ∧ aNew (.lst (kvs.map fun kv => kV kv.1)) H Q
theorem callR_weak {v : Value} {r r' : List V → Hp → VK → Prop} (h : CallR X v r) (w : ∀ vs H Q, r' vs H Q → r vs H Q) : CallR X v r' := fun pins s σ H vs us Q I rr q => h pins s σ H vs us Q I rr (w _ _ _ q)
theorem call_listU (hc : X.calm = true) : CallR X (.type "list") (rListU X.K) := callR_weak (CallR.or call_list_of (call_list_dK hc)) fun vs H Q q => by
  rcases q with ⟨p, ys, e, h, k⟩ | ⟨p, kvs, e, h, k⟩
  · exact .inl ⟨p, ys, e, h, k.all⟩
  · exact .inr ⟨p, kvs, e, h, k.all⟩
def rTupleU (K : PySem.W.Frag) : List V → Hp → VK → Prop := fun xs H Q => ∃ p ys, xs = [.ref p] ∧ (SqL K H p ys ∨ SqT K H p ys) ∧ ∀ q H1, Same H H1 → SqT K H1 q ys → Q (.ref q) H1
theorem call_tupleU : CallR X (.type "tuple") (rTupleU X.K) := callR_weak call_tuple_of fun vs H Q q => by
  obtain ⟨p, ys, e, h | h, k⟩ := q
  · exact ⟨p, ys, e, .inl ⟨h, fun l hl => k l _ (Same.new hl) (SqT.of upd_same)⟩⟩
  · exact ⟨p, ys, e, .inr ⟨h, k p H (Same.refl _) h⟩⟩
/-- slices -/
def rSlU (K : PySem.W.Frag) : V → Option Int → Option Int → Hp → VK → Prop := fun x lo hi H Q => (∃ a xs, x = .ref a ∧ SqL K H a xs ∧ aNew (.lst (cutV xs lo hi)) H Q) ∨ (∃ a xs, x = .ref a ∧ SqT K H a xs ∧ ∀ q H1, Same H H1 → SqT K H1 q (cutV xs lo hi) → Q (.ref q) H1) ∨ ∃ z, x = .str z ∧ z.length ≤ sizeLine ∧ Q (.str (Txt.slice z lo hi)) H
theorem slR_weak {r r' : V → Option Int → Option Int → Hp → VK → Prop} (h : SlR X r) (w : ∀ x lo hi H Q, r' x lo hi H Q → r x lo hi H Q) : SlR X r' :=
  fun pins s σ H x v vl vu lo hi sl Q I rv iS p1 p2 q => h pins s σ H x v vl vu lo hi sl Q I rv iS p1 p2 (w _ _ _ _ _ q)
theorem cutV_all {xs : List V} {lo hi : Option Int} (h1 : HT.sIx xs.length 0 lo = 0) (h2 : HT.sIx xs.length xs.length hi = xs.length) : cutV xs lo hi = xs := by
  unfold cutV
  rw [h1, h2, List.drop_zero, Nat.sub_zero, List.take_length]
theorem sl_U : SlR X (rSlU X.K) := slR_weak (SlR.or sl_list (SlR.or sl_tupA C8.sl_txt)) fun x lo hi H Q q => by
  rcases q with ⟨a, xs, e, h, k⟩ | ⟨a, xs, e, h, k⟩ | q
  · exact .inl ⟨a, xs, e, h, k.all⟩
  · refine .inr (.inl ⟨a, xs, e, h, fun hh => ?_, fun _ p hp => k p _ (Same.new hp) (SqT.of upd_same)⟩)
    exact k a H (Same.refl _) (by rw [cutV_all hh.1 hh.2]; exact h)
  · exact .inr (.inr q)

end

/-! ### the steps: statements -/
section
variable {nx : St → Hp → Prop} {rt : VK} {bk ct : St → Hp → Prop} {σ : St} {H : Hp} {Q : VK} {K : PySem.W.Frag}
theorem s_seq {t u : TS} (h : t ⟨u ⟨nx, rt, bk, ct⟩, rt, bk, ct⟩ σ H) : tSeq t u ⟨nx, rt, bk, ct⟩ σ H := h
theorem s_next (h : nx σ H) : tNext ⟨nx, rt, bk, ct⟩ σ H := h
theorem s_brk (h : bk σ H) : tBreak ⟨nx, rt, bk, ct⟩ σ H := h
theorem s_cont (h : ct σ H) : tCont ⟨nx, rt, bk, ct⟩ σ H := h
theorem s_drop {te : TE} (h : te σ H fun _ H1 => nx σ H1) : tDrop te ⟨nx, rt, bk, ct⟩ σ H := h
theorem s_ret {te : TE} (h : te σ H rt) : tRet te ⟨nx, rt, bk, ct⟩ σ H := h
theorem s_retN (h : rt .non H) : tRetN ⟨nx, rt, bk, ct⟩ σ H := h
theorem s_if {c : TT} {t u : TS} (h : c σ H fun b H1 => if b = true then t ⟨nx, rt, bk, ct⟩ σ H1 else u ⟨nx, rt, bk, ct⟩ σ H1) : tIfS c t u ⟨nx, rt, bk, ct⟩ σ H := h
theorem s_asg {te : TE} {g : TG} (h : te σ H fun x H1 => g x σ H1 nx) : tAsg te g ⟨nx, rt, bk, ct⟩ σ H := h
end
/-! targets -/
section
variable {σ : St} {H : Hp} {Q : St → Hp → Prop} {K : PySem.W.Frag} {v : V}
theorem s_name {i : Nat} {σ' : St} (e : σ.set i (some v) = σ') (h : Q σ' H) : gName i v σ H Q := by
  show Q (σ.set i (some v)) H
  rw [e]
  exact h
theorem s_gnil (h : Q σ H) : gNil [] σ H Q := ⟨rfl, h⟩
theorem s_gcons {t : TG} {u : TGs} {r : List V} (h : t v σ H fun σ' H' => u r σ' H' Q) : gCons t u (v :: r) σ H Q := ⟨v, r, rfl, h⟩
theorem s_gtup {n : Nat} {t : TGs} {a : Addr} {xs : List V} (h : SqT K H a xs) (hn : xs.length = n) (q : t xs σ H Q) : gTup K n t (.ref a) σ H Q := ⟨a, xs, rfl, h, hn, q⟩
theorem s_gsub {to ti : TE} {t : TSet} (h : to σ H fun o H1 => ti σ H1 fun i H2 => t o i v H2 fun H3 => Q σ H3) : gSub to ti t v σ H Q := h
theorem s_setL {p : Addr} {k : Int} {xs : List V} {j : Nat} {R : Hp → Prop} (h : H p = some (.lst xs)) (hj : ixN xs.length k = some j) (q : R (upd H p (.lst (xs.set j v)))) : rSetL (.ref p) (.int k) v H R := ⟨p, xs, k, j, rfl, rfl, h, hj, q⟩
end
/-! values -/
section
variable {σ : St} {H : Hp} {Q : VK} {K : PySem.W.Frag}
theorem s_var {i : Nat} {v : V} (h : σ[i]? = some (some v)) (q : Q v H) : tVar i σ H Q := ⟨v, h, q⟩
theorem s_c {v : V} (q : Q v H) : tC v σ H Q := q
theorem s_op {r : R2} {ta tb : TE} (h : ta σ H fun x H1 => tb σ H1 fun y H2 => r x y H2 Q) : tOp r ta tb σ H Q := h
theorem s_un {r : V → Hp → VK → Prop} {ta : TE} (h : ta σ H fun x H1 => r x H1 Q) : tUn r ta σ H Q := h
theorem s_neg {i : Int} (h : Q (.int (-i)) H) : (fun x H (Q : VK) => ∃ i, x = V.int i ∧ Q (.int (-i)) H) (.int i) H Q := ⟨i, rfl, h⟩
theorem s_chain {r r' : R2} {ta tb tc : TE} (h : ta σ H fun x H1 => tb σ H1 fun y H2 => r x y H2 fun z H3 => ∃ k, z = .bl k ∧ (if k = true then tc σ H3 fun w' H4 => r' y w' H4 Q else Q (.bl false) H3)) : tChain r r' ta tb tc σ H Q := h
theorem s_andV {ta tb : TE} (h : ta σ H fun x H1 => ∃ c, x = .bl c ∧ if c = true then tb σ H1 Q else Q (.bl false) H1) : tAndV ta tb σ H Q := h
theorem s_orV {ta tb : TE} (h : ta σ H fun x H1 => ∃ c, x = .bl c ∧ if c = true then Q (.bl true) H1 else tb σ H1 Q) : tOrV ta tb σ H Q := h
theorem s_notV {ta : TE} (h : ta σ H fun x H1 => ∃ c, x = .bl c ∧ Q (.bl (!c)) H1) : tNotV ta σ H Q := h
theorem s_ifE {t : TT} {ta tb : TE} (h : t σ H fun c H1 => if c = true then ta σ H1 Q else tb σ H1 Q) : tIf t ta tb σ H Q := h
theorem s_bl {b : Bool} {P : Bool → Prop} (h : P b) : ∃ c, V.bl b = .bl c ∧ P c := ⟨b, rfl, h⟩
theorem s_tupN {t : TA} (h : t σ H fun xs H1 => xs.length ≤ sizeLine ∧ aNew (.tup xs) H1 Q) : tTupN t σ H Q := h
theorem s_lstN {t : TA} (h : t σ H fun xs H1 => xs.length ≤ sizeLine ∧ aNew (.lst xs) H1 Q) : tLstN t σ H Q := h
theorem s_new {o : HO} {n : Nat} (hn : n ≤ sizeLine) (h : ∀ p H1, H p = none → Same H H1 → H1 p = some o → Q (.ref p) H1) : n ≤ sizeLine ∧ aNew o H Q := ⟨hn, h⟩
theorem s_aNew {o : HO} (h : ∀ p H1, H p = none → Same H H1 → H1 p = some o → Q (.ref p) H1) : aNew o H Q := h
theorem s_nil {R : List V → Hp → Prop} (h : R [] H) : tNil σ H R := h
theorem s_cons {ta : TE} {tr : TA} {R : List V → Hp → Prop} (h : ta σ H fun x H1 => tr σ H1 fun xs H2 => R (x :: xs) H2) : tCons ta tr σ H R := h
theorem s_call {sp : Sp} {dvs : List V} {E : XK} {t : TA} (h : t σ H fun vs H1 => sp (vs ++ dvs) H1 Q E) : tCall sp dvs E t σ H Q := h
theorem s_cb {r : List V → Hp → VK → Prop} {t : TA} (h : t σ H fun vs H1 => r vs H1 Q) : tCB r t σ H Q := h
theorem s_sl {r : V → Option Int → Option Int → Hp → VK → Prop} {te : TE} {tl th : TO} (h : te σ H fun x H1 => tl σ H1 fun l H2 => th σ H2 fun u H3 => r x l u H3 Q) : tSl r te tl th σ H Q := h
theorem s_nopart {R : Option Int → Hp → Prop} (h : R none H) : tNoPart σ H R := h
theorem s_part {te : TE} {R : Option Int → Hp → Prop} (h : te σ H fun x H1 => ∃ i, x = .int i ∧ R (some i) H1) : tPart te σ H R := h
theorem s_int {i : Int} {P : Int → Prop} (h : P i) : ∃ j, V.int i = .int j ∧ P j := ⟨i, rfl, h⟩
theorem s_bm {T : String} {r : V → List V → Hp → VK → Prop} {to : TE} {t : TA} (h : to σ H fun x H1 => tyV K T x H1 ∧ t σ H1 fun xs H2 => r x xs H2 Q) : tBM K T r to t σ H Q := h
theorem s_bm0 {T : String} {r : V → List V → Hp → VK → Prop} {to : TE} (h : to σ H fun x H1 => tyV K T x H1 ∧ r x [] H1 Q) : tBM0 K T r to σ H Q := h
theorem s_tyL {a : Addr} {xs : List V} {P : Prop} (h : H a = some (.lst xs)) (q : P) : tyV K "list" (.ref a) H ∧ P := ⟨Or.inl ⟨rfl, _, SqL.of h⟩, q⟩
end
/-! tests -/
section
variable {σ : St} {H : Hp} {Q : Bool → Hp → Prop}
theorem s_test {te : TE} (h : te σ H fun x H' => ∃ k, x = .bl k ∧ Q k H') : tTest te σ H Q := h
theorem s_B {te : TE} (h : te σ H fun x H' => ∃ k, x = .bl k ∧ Q k H') : tB te σ H Q := h
theorem s_and {t u : TT} (h : t σ H fun c H1 => if c = true then u σ H1 Q else Q false H1) : tAnd t u σ H Q := h
theorem s_or {t u : TT} (h : t σ H fun c H1 => if c = true then Q true H1 else u σ H1 Q) : tOr t u σ H Q := h
theorem s_not {t : TT} (h : t σ H fun c H1 => Q (!c) H1) : tNot t σ H Q := h
end
/-! ways -/
section
variable {A B : Prop}
theorem s_itd {p : Prop} [Decidable p] (h1 : p → A) (h2 : ¬ p → B) : if decide p = true then A else B := by
  by_cases h : p
  · rw [if_pos (decide_eq_true h)]
    exact h1 h
  · rw [if_neg (by rw [decide_eq_false h]; exact Bool.false_ne_true)]
    exact h2 h
theorem s_itn {p : Prop} [Decidable p] (h1 : ¬ p → A) (h2 : p → B) : if (!decide p) = true then A else B := by
  by_cases h : p
  · rw [if_neg (by rw [decide_eq_true h]; exact Bool.false_ne_true)]
    exact h2 h
  · rw [if_pos (by rw [decide_eq_false h]; rfl)]
    exact h1 h
theorem s_itdT {p : Prop} [Decidable p] (h : p) (h1 : A) : if decide p = true then A else B := s_itd (fun _ => h1) fun n => absurd h n
theorem s_itdF {p : Prop} [Decidable p] (h : ¬ p) (h1 : B) : if decide p = true then A else B := s_itd (fun n => absurd n h) fun _ => h1
theorem s_itnT {p : Prop} [Decidable p] (h : ¬ p) (h1 : A) : if (!decide p) = true then A else B := s_itn (fun _ => h1) fun n => absurd n h
theorem s_itnF {p : Prop} [Decidable p] (h : p) (h1 : B) : if (!decide p) = true then A else B := s_itn (fun n => absurd h n) fun _ => h1
theorem s_itT (h : A) : if true = true then A else B := by
  rw [if_pos rfl]
  exact h
theorem s_itF (h : B) : if false = true then A else B := by
  rw [if_neg Bool.false_ne_true]
  exact h
theorem s_itnt (h : A) : if (!false) = true then A else B := s_itT h
theorem s_itnf (h : B) : if (!true) = true then A else B := s_itF h
theorem s_itb {b : Bool} (h1 : b = true → A) (h2 : b = false → B) : if b = true then A else B := by
  cases b with
  | true => exact s_itT (h1 rfl)
  | false => exact s_itF (h2 rfl)
theorem s_itbn {b : Bool} (h1 : b = false → A) (h2 : b = true → B) : if (!b) = true then A else B := by
  cases b with
  | true => exact s_itF (h2 rfl)
  | false => exact s_itT (h1 rfl)
theorem s_itbT {b : Bool} (h : b = true) (h1 : A) : if b = true then A else B := by
  subst h
  exact s_itT h1
theorem s_itbF {b : Bool} (h : b = false) (h1 : B) : if b = true then A else B := by
  subst h
  exact s_itF h1
theorem s_itbnT {b : Bool} (h : b = true) (h1 : B) : if (!b) = true then A else B := by
  subst h
  exact s_itF h1
theorem s_itbnF {b : Bool} (h : b = false) (h1 : A) : if (!b) = true then A else B := by
  subst h
  exact s_itT h1
end
/-! ### the steps: operators by kinds -/
section
variable {K : PySem.W.Frag} {H : Hp} {Q : VK}
theorem r_add_i {i j : Int} (q : Q (.int (i + j)) H) : rAddU K (.int i) (.int j) H Q := .inl ⟨i, j, rfl, rfl, q⟩
theorem r_add_s {a b : Str} (hl : a.length + b.length ≤ sizeLine) (q : Q (.str (a ++ b)) H) : rAddU K (.str a) (.str b) H Q := .inr (.inl ⟨a, b, rfl, rfl, hl, q⟩)
theorem r_add_l {a b : Addr} {xs ys : List V} (ha : H a = some (.lst xs)) (hb : H b = some (.lst ys)) (hl : xs.length + ys.length ≤ sizeLine) (q : ∀ p H1, H p = none → Same H H1 → H1 p = some (.lst (xs ++ ys)) → Q (.ref p) H1) : rAddU K (.ref a) (.ref b) H Q :=
  .inr (.inr (.inl ⟨a, b, xs, ys, rfl, rfl, ha, hb, hl, fun p hp => q p _ hp (Same.new hp) upd_same⟩))
theorem r_add_t {a b : Addr} {xs ys : List V} (ha : SqT K H a xs) (hb : SqT K H b ys) (hl : xs.length + ys.length ≤ sizeLine) (q : ∀ p H1, Same H H1 → SqT K H1 p (xs ++ ys) → Q (.ref p) H1) : rAddU K (.ref a) (.ref b) H Q :=
  .inr (.inr (.inr ⟨a, b, xs, ys, rfl, rfl, ha, hb, hl, fun e => q b H (Same.refl _) (by rw [e]; exact hb), fun _ e => q a H (Same.refl _) (by rw [e, List.append_nil]; exact ha), fun _ _ p hp => q p _ (Same.new hp) (SqT.of upd_same)⟩))
theorem r_sub {i j : Int} (q : Q (.int (i - j)) H) : rSubU (.int i) (.int j) H Q := ⟨i, j, rfl, rfl, q⟩
theorem r_mul_i {i j : Int} (h : CMul i j) (q : Q (.int (i * j)) H) : rMulU K (.int i) (.int j) H Q := .inl ⟨i, j, rfl, rfl, h, q⟩
theorem r_mul_w {i j : Int} (h : CMulW i j) (q : Q (.int (i * j)) H) : rMulU K (.int i) (.int j) H Q := .inr (.inl ⟨i, j, rfl, rfl, h, q⟩)
theorem r_mul_l {a : Addr} {k : Int} {xs : List V} (ha : H a = some (.lst xs)) (h1 : -(2 ^ 63) ≤ k) (h2 : k < 2 ^ 63) (hl : xs.length * k.toNat ≤ sizeLine) (q : ∀ p H1, H p = none → Same H H1 → H1 p = some (.lst (List.replicate k.toNat xs).flatten) → Q (.ref p) H1) : rMulU K (.ref a) (.int k) H Q :=
  .inr (.inr (.inl ⟨a, k, xs, rfl, rfl, ha, h1, h2, hl, fun p hp => q p _ hp (Same.new hp) upd_same⟩))
theorem r_mul_t {a : Addr} {k : Int} {xs : List V} (ha : SqT K H a xs) (hne : xs ≠ []) (h1 : 2 ≤ k) (h2 : k ≤ 1000) (hl : xs.length ≤ 1000) (q : ∀ p H1, H p = none → Same H H1 → H1 p = some (.tup (List.replicate k.toNat xs).flatten) → Q (.ref p) H1) : rMulU K (.ref a) (.int k) H Q :=
  .inr (.inr (.inr ⟨a, k, xs, rfl, rfl, ha, hne, h1, h2, hl, fun p hp => q p _ hp (Same.new hp) upd_same⟩))
theorem r_fdv {i j : Int} (h : CDivW i j) (q : Q (.int (i / j)) H) : rFdvU (.int i) (.int j) H Q := ⟨i, j, rfl, rfl, h, q⟩
theorem r_mod {i j : Int} (h : 0 < j) (q : Q (.int (i % j)) H) : rModU (.int i) (.int j) H Q := ⟨i, j, rfl, rfl, h, q⟩
theorem r_pow {i j : Int} (h : CPow i j) (q : Q (.int (i ^ j.toNat)) H) : rPowU (.int i) (.int j) H Q := ⟨i, j, rfl, rfl, h, q⟩
theorem r_and {i j : Int} (q : Q (.int (Builtin.bitAnd i j)) H) : rAndU (.int i) (.int j) H Q := ⟨i, j, rfl, rfl, q⟩
theorem r_lt_i {i j : Int} (q : Q (.bl (decide (i < j))) H) : rLtU (.int i) (.int j) H Q := .inl ⟨i, j, rfl, rfl, q⟩
theorem r_gt_i {i j : Int} (q : Q (.bl (decide (j < i))) H) : rGtU (.int i) (.int j) H Q := .inl ⟨i, j, rfl, rfl, q⟩
theorem r_le_i {i j : Int} (q : Q (.bl (decide (i ≤ j))) H) : rLeU (.int i) (.int j) H Q := .inl ⟨i, j, rfl, rfl, q⟩
theorem r_ge_i {i j : Int} (q : Q (.bl (decide (j ≤ i))) H) : rGeU (.int i) (.int j) H Q := .inl ⟨i, j, rfl, rfl, q⟩
theorem r_lt_s {i j : Str} (q : Q (.bl (decide (i.cps.toList < j.cps.toList))) H) : rLtU (.str i) (.str j) H Q := .inr ⟨i, j, rfl, rfl, q⟩
theorem r_gt_s {i j : Str} (q : Q (.bl (decide (j.cps.toList < i.cps.toList))) H) : rGtU (.str i) (.str j) H Q := .inr ⟨i, j, rfl, rfl, q⟩
theorem r_le_s {i j : Str} (q : Q (.bl (!decide (j.cps.toList < i.cps.toList))) H) : rLeU (.str i) (.str j) H Q := .inr ⟨i, j, rfl, rfl, q⟩
theorem r_ge_s {i j : Str} (q : Q (.bl (!decide (i.cps.toList < j.cps.toList))) H) : rGeU (.str i) (.str j) H Q := .inr ⟨i, j, rfl, rfl, q⟩
theorem dec_congr {p q : Prop} [Decidable p] [Decidable q] (h : p ↔ q) : decide p = decide q := by
  by_cases hq : q
  · rw [decide_eq_true hq, decide_eq_true (h.mpr hq)]
  · rw [decide_eq_false hq, decide_eq_false fun z => hq (h.mp z)]
theorem r_eq_i {i j : Int} (q : Q (.bl (decide (i = j))) H) : rEq (.int i) (.int j) H Q := ⟨rfl, by rw [dec_congr (show V.int i = V.int j ↔ i = j from ⟨V.int.inj, congrArg _⟩)]; exact q⟩
theorem r_eq_s {i j : Str} (q : Q (.bl (decide (i = j))) H) : rEq (.str i) (.str j) H Q := ⟨rfl, by rw [dec_congr (show V.str i = V.str j ↔ i = j from ⟨V.str.inj, congrArg _⟩)]; exact q⟩
theorem r_eq_b {i j : Bool} (q : Q (.bl (decide (i = j))) H) : rEq (.bl i) (.bl j) H Q := ⟨rfl, by rw [dec_congr (show V.bl i = V.bl j ↔ i = j from ⟨V.bl.inj, congrArg _⟩)]; exact q⟩
theorem r_ne_i {i j : Int} (q : Q (.bl (!decide (i = j))) H) : rNe (.int i) (.int j) H Q := ⟨rfl, by rw [dec_congr (show V.int i = V.int j ↔ i = j from ⟨V.int.inj, congrArg _⟩)]; exact q⟩
theorem r_ne_s {i j : Str} (q : Q (.bl (!decide (i = j))) H) : rNe (.str i) (.str j) H Q := ⟨rfl, by rw [dec_congr (show V.str i = V.str j ↔ i = j from ⟨V.str.inj, congrArg _⟩)]; exact q⟩
theorem r_ne_b {i j : Bool} (q : Q (.bl (!decide (i = j))) H) : rNe (.bl i) (.bl j) H Q := ⟨rfl, by rw [dec_congr (show V.bl i = V.bl j ↔ i = j from ⟨V.bl.inj, congrArg _⟩)]; exact q⟩
theorem r_is_n {x : V} (q : Q (.bl (decide (x = .non))) H) : rIsU x .non H Q := .inl ⟨rfl, q⟩
theorem r_is_b {a b : Bool} (q : Q (.bl (decide (a = b))) H) : rIsU (.bl a) (.bl b) H Q := .inr ⟨a, b, rfl, rfl, q⟩
theorem r_isn_n {x : V} (q : Q (.bl (!decide (x = .non))) H) : rIsnU x .non H Q := .inl ⟨rfl, q⟩
theorem r_isn_b {a b : Bool} (q : Q (.bl (!decide (a = b))) H) : rIsnU (.bl a) (.bl b) H Q := .inr ⟨a, b, rfl, rfl, q⟩
theorem r_ix_l {p : Addr} {xs : List V} {i : Int} {v : V} (h : H p = some (.lst xs)) (ha : atI xs i = some v) (q : Q v H) : rIx K (.ref p) (.int i) H Q := .inl ⟨p, xs, i, v, rfl, rfl, SqL.of h, ha, q⟩
theorem r_ix_t {p : Addr} {xs : List V} {i : Int} {v : V} (h : SqT K H p xs) (ha : atI xs i = some v) (q : Q v H) : rIx K (.ref p) (.int i) H Q := .inr (.inl ⟨p, xs, i, v, rfl, rfl, h, ha, q⟩)
theorem r_ix_s {z : Str} {i : Int} {c : Nat} (hz : z.length ≤ sizeLine) (ha : atI z.cps.toList i = some c) (q : Q (.str ⟨#[c]⟩) H) : rIx K (.str z) (.int i) H Q := .inr (.inr ⟨z, i, c, rfl, rfl, hz, ha, q⟩)
theorem r_len_l {p : Addr} {xs : List V} (h : H p = some (.lst xs)) (q : Q (.int xs.length) H) : rLenU K [.ref p] H Q := .inl ⟨p, xs, rfl, .inl (SqL.of h), q⟩
theorem r_len_t {p : Addr} {xs : List V} (h : SqT K H p xs) (q : Q (.int xs.length) H) : rLenU K [.ref p] H Q := .inl ⟨p, xs, rfl, .inr h, q⟩
theorem r_len_s {z : Str} (hz : z.length ≤ sizeLine) (q : Q (.int z.length) H) : rLenU K [.str z] H Q := .inr (.inl ⟨z, rfl, hz, q⟩)
theorem r_len_d {p : Addr} {kvs : List (Key × V)} (h : H p = some (.dK kvs)) (q : Q (.int kvs.length) H) : rLenU K [.ref p] H Q := .inr (.inr ⟨p, kvs, rfl, h, q⟩)
theorem r_int_i {i : Int} (q : Q (.int i) H) : rIntU [.int i] H Q := .inl (.inl ⟨i, rfl, q⟩)
theorem r_int_b {k : Bool} (q : Q (.int (if k then 1 else 0)) H) : rIntU [.bl k] H Q := .inl (.inr ⟨k, rfl, q⟩)
theorem r_int_s {a : Str} {n : Int} (h : PySem.intText? a = some n) (hl : a.length ≤ 640) (q : Q (.int n) H) : rIntU [.str a] H Q := .inr ⟨a, n, rfl, h, hl, q⟩
theorem r_str_i {i : Int} (h : i.natAbs.log2 < 1920) (q : Q (.str (toString i)) H) : rStrU [.int i] H Q := .inl ⟨i, rfl, h, q⟩
theorem r_str_s {a : Str} (q : Q (.str a) H) : rStrU [.str a] H Q := .inr ⟨a, rfl, q⟩
theorem r_list_l {p : Addr} {xs : List V} (h : H p = some (.lst xs)) (q : ∀ l H1, H l = none → Same H H1 → H1 l = some (.lst xs) → Q (.ref l) H1) : rListU K [.ref p] H Q := .inl ⟨p, xs, rfl, .inl (SqL.of h), q⟩
theorem r_list_t {p : Addr} {xs : List V} (h : SqT K H p xs) (q : ∀ l H1, H l = none → Same H H1 → H1 l = some (.lst xs) → Q (.ref l) H1) : rListU K [.ref p] H Q := .inl ⟨p, xs, rfl, .inr h, q⟩
theorem r_list_d {p : Addr} {kvs : List (Key × V)} (h : H p = some (.dK kvs)) (q : ∀ l H1, H l = none → Same H H1 → H1 l = some (.lst (kvs.map fun kv => kV kv.1)) → Q (.ref l) H1) : rListU K [.ref p] H Q := .inr ⟨p, kvs, rfl, h, q⟩
theorem r_tuple_l {p : Addr} {xs : List V} (h : H p = some (.lst xs)) (q : ∀ l H1, Same H H1 → SqT K H1 l xs → Q (.ref l) H1) : rTupleU K [.ref p] H Q := ⟨p, xs, rfl, .inl (SqL.of h), q⟩
theorem r_tuple_t {p : Addr} {xs : List V} (h : SqT K H p xs) (q : ∀ l H1, Same H H1 → SqT K H1 l xs → Q (.ref l) H1) : rTupleU K [.ref p] H Q := ⟨p, xs, rfl, .inr h, q⟩
theorem r_sl_l {p : Addr} {xs : List V} {lo hi : Option Int} (h : H p = some (.lst xs)) (q : ∀ l H1, H l = none → Same H H1 → H1 l = some (.lst (cutV xs lo hi)) → Q (.ref l) H1) : rSlU K (.ref p) lo hi H Q := .inl ⟨p, xs, rfl, SqL.of h, q⟩
theorem r_sl_t {p : Addr} {xs : List V} {lo hi : Option Int} (h : SqT K H p xs) (q : ∀ l H1, Same H H1 → SqT K H1 l (cutV xs lo hi) → Q (.ref l) H1) : rSlU K (.ref p) lo hi H Q := .inr (.inl ⟨p, xs, rfl, h, q⟩)
theorem r_sl_s {z : Str} {lo hi : Option Int} (hz : z.length ≤ sizeLine) (q : Q (.str (Txt.slice z lo hi)) H) : rSlU K (.str z) lo hi H Q := .inr (.inr ⟨z, rfl, hz, q⟩)
theorem r_app {l : Addr} {xs : List V} {y : V} (h : H l = some (.lst xs)) (hl : xs.length < sizeLine) (q : Q .non (upd H l (.lst (xs ++ [y])))) : rAppend (.ref l) [y] H Q := ⟨l, xs, y, rfl, rfl, h, hl, q⟩
end

/-! ### the draws: the state list is told by what always holds of it -/
def stO (s : Addr) : HO := .ext fun h => ∃ (i0 i1 i2 i3 i4 : Int), 0 ≤ i0 ∧ ∃ (its : List Value) (n : Nat), Vals [.int i0, .int i1, .int i2, .int i3, .int i4] its ∧ h.get? s = some { cls := .type "list", data := .seq its.toArray n }
theorem stO_at {P : Program} {w : World} {H : Hp} {h : Heap} {s : Addr} (x : ObjOk P w H h s (stO s)) : ∃ (i0 i1 i2 i3 i4 : Int), 0 ≤ i0 ∧ ∀ H', ObjOk P w H' h s (.lst [.int i0, .int i1, .int i2, .int i3, .int i4]) := by
  obtain ⟨⟨i0, i1, i2, i3, i4, h0, its, n, r, e⟩, _⟩ := x
  exact ⟨i0, i1, i2, i3, i4, h0, fun _ => ⟨(show 5 ≤ sizeLine by decide), its, n, r, e⟩⟩
theorem stO_of {P : Program} {w : World} {H H' : Hp} {h : Heap} {s : Addr} {i0 i1 i2 i3 i4 : Int} (h0 : 0 ≤ i0) (x : ObjOk P w H h s (.lst [.int i0, .int i1, .int i2, .int i3, .int i4])) : ObjOk P w H' h s (stO s) := by
  obtain ⟨_, its, n, r, e⟩ := x
  exact ⟨⟨i0, i1, i2, i3, i4, h0, its, n, r, e⟩, ⟨_, e⟩, fun h1 h2 z k => by
    obtain ⟨j0, j1, j2, j3, j4, g0, its', n', r', e'⟩ := z
    exact ⟨j0, j1, j2, j3, j4, g0, its', n', r', k _ e'⟩⟩
def stClo (s : Addr) (P : Hp → Prop) : Hp → Prop := fun H' => ∃ (j0 j1 j2 j3 j4 : Int), 0 ≤ j0 ∧ H' s = some (.lst [.int j0, .int j1, .int j2, .int j3, .int j4]) ∧ P (upd H' s (stO s))
/-- a body that opens the state -/
def tOpen (t : TS) : TS := fun D σ H => ∃ s, H s = some (stO s) ∧ ∀ i0 i1 i2 i3 i4 : Int, 0 ≤ i0 →
  t ⟨fun σ' => stClo s (D.nx σ'), fun v => stClo s (D.rt v), fun σ' => stClo s (D.bk σ'), fun σ' => stClo s (D.ct σ')⟩ σ (upd H s (.lst [.int i0, .int i1, .int i2, .int i3, .int i4]))
section
variable {X : Cx} {body : List Stmt} {t : TS}
theorem inv_retag {pins : List (Addr × Obj)} {σ : St} {H : Hp} {s : Shared} {a : Addr} {o : HO} (I : Inv X pins σ H s) (mu : Mut (H a)) (ob : ObjOk X.prog X.w (upd H a o) s.heap a o) (he : ∃ u, s.heap.get? a = some u) : Inv X pins σ (upd H a o) s := by
  have J := I.write (h' := s.heap) (t' := s.toks) (x := a) (e := a) (o := o) mu (.inl rfl) (fun b u _ z => z) he ob
  exact J
theorem lst_get {P : Program} {w : World} {H : Hp} {h : Heap} {s : Addr} {xs : List V} (x : ObjOk P w H h s (.lst xs)) : ∃ u, h.get? s = some u := by
  obtain ⟨_, its, n, r, e⟩ := x
  exact ⟨_, e⟩
theorem pss_open (h : PSs X body t) : PSs X body (tOpen t) := by
  refine ⟨fun pins s0 σ H D I q => ?_⟩
  obtain ⟨s, hs, q⟩ := q
  obtain ⟨i0, i1, i2, i3, i4, h0, ob⟩ := stO_at (I.hok s _ hs)
  have I1 : Inv X pins σ (upd H s (.lst [.int i0, .int i1, .int i2, .int i3, .int i4])) s0 := inv_retag I (by rw [hs]; exact True.intro) (ob _) (lst_get (ob H))
  have clo : ∀ {σ' : St} {H' : Hp} {s1 : Shared} {R : Hp → Prop}, Inv X pins σ' H' s1 → stClo s R H' → ∃ H2, Inv X pins σ' H2 s1 ∧ R H2 := fun {σ' H' s1 R} J z => by
    obtain ⟨j0, j1, j2, j3, j4, g0, e, r⟩ := z
    have ob' := J.hok s _ e
    exact ⟨_, inv_retag J (by rw [e]; exact True.intro) (stO_of g0 ob') (lst_get ob'), r⟩
  refine thn (h.run pins s0 σ _ _ I1 (q i0 i1 i2 i3 i4 h0)) fun f s1 z => ?_
  cases f with
  | next =>
    obtain ⟨σ', H', J, z⟩ := z
    obtain ⟨H2, J2, r⟩ := clo J z
    exact ⟨σ', H2, J2, r⟩
  | brk =>
    obtain ⟨σ', H', J, z⟩ := z
    obtain ⟨H2, J2, r⟩ := clo J z
    exact ⟨σ', H2, J2, r⟩
  | cont =>
    obtain ⟨σ', H', J, z⟩ := z
    obtain ⟨H2, J2, r⟩ := clo J z
    exact ⟨σ', H2, J2, r⟩
  | ret u =>
    obtain ⟨v, σ', H', J, rv, z⟩ := z
    obtain ⟨H2, J2, r⟩ := clo J z
    exact ⟨v, σ', H2, J2, rv, r⟩
end
/-- a body behind which a new state list is told by what always holds of it -/
def tClose (t : TS) : TS := fun D σ H => t ⟨D.nx, fun v H' => ∃ s, stClo s (D.rt v) H', D.bk, D.ct⟩ σ H
theorem pss_close {X : Cx} {body : List Stmt} {t : TS} (h : PSs X body t) : PSs X body (tClose t) := by
  refine ⟨fun pins s0 σ H D I q => thn (h.run pins s0 σ _ _ I q) fun f s1 z => ?_⟩
  cases f with
  | next => exact z
  | brk => exact z
  | cont => exact z
  | ret u =>
    obtain ⟨v, σ', H', J, rv, s, j0, j1, j2, j3, j4, g0, e, r⟩ := z
    have ob' := J.hok s _ e
    exact ⟨v, σ', _, inv_retag J (by rw [e]; exact True.intro) (stO_of g0 ob') (lst_get ob'), rv, r⟩
/-- the draws object: the cells, the state -/
def Dr (H : Hp) (d : V) : Prop := ∃ (a c s : Addr) (ns : List Int), d = .ref a ∧ H a = some (.lst [.ref c, .ref s]) ∧ H c = some (.lst (ns.map V.int)) ∧ H s = some (stO s)
theorem Same.dr {H H' : Hp} {d : V} (e : Same H H') (h : Dr H d) : Dr H' d := by
  obtain ⟨a, c, s, ns, e0, e1, e2, e3⟩ := h
  exact ⟨a, c, s, ns, e0, e _ _ e1, e _ _ e2, e _ _ e3⟩
theorem stO_ne {s : Addr} {xs : List V} : stO s ≠ .lst xs := fun z => by
  have z' : HO.ext _ = HO.lst xs := z
  cases z'
end AG
namespace AG
open PySem PySem.Spec L2
/-! ### defs that may be called -/
structure Cal (P : Program) (w : World) (K : PySem.W.Frag) (mg : Str → Option Value) (base : Heap) (k : Nat) (x : Str) (sp : Sp) : Prop where
  ex : ∃ (f : Addr) (fd : FuncData) (ps : List Str), FnOk P w K mg base CX0 k f fd ps sp ∧ mg x = some (.ref f) ∧ PySem.W.keepIn K (.ref f) = true ∧ Binds K fd ps []
structure CalX (P : Program) (w : World) (K : PySem.W.Frag) (mg : Str → Option Value) (base : Heap) (k : Nat) (x : Str) (sp : Sp) : Prop where
  ex : ∃ (f : Addr) (fd : FuncData) (ps : List Str), FnOk P w K mg base (L2N.CX P w) k f fd ps sp ∧ mg x = some (.ref f) ∧ PySem.W.keepIn K (.ref f) = true ∧ Binds K fd ps []
theorem Cal.mono {P : Program} {w : World} {K : PySem.W.Frag} {mg : Str → Option Value} {base : Heap} {k j : Nat} {x : Str} {sp : Sp} (c : Cal P w K mg base k x sp) (h : k ≤ j) : Cal P w K mg base j x sp := by
  obtain ⟨f, fd, ps, F, r⟩ := c.ex
  exact ⟨f, fd, ps, F.mono h, r⟩
theorem Cal.imp {P : Program} {w : World} {K : PySem.W.Frag} {mg : Str → Option Value} {base : Heap} {k : Nat} {x : Str} {sp sp' : Sp} (c : Cal P w K mg base k x sp) (h : ∀ vs H Q E, sp' vs H Q E → sp vs H Q E) : Cal P w K mg base k x sp' := by
  obtain ⟨f, fd, ps, F, r⟩ := c.ex
  exact ⟨f, fd, ps, F.imp h, r⟩
section
variable {X : Cx} {k j : Nat} {x : Str} {sp : Sp} {p pos : Pos} {e : Expr} {es : List Expr} {t : TA}
theorem pe_c (c : Cal X.prog X.w X.K X.mg X.base k x sp) (hr : Room j X.A) (hk : k ≤ j) (hg : Gl X x) (ha : PA X (e :: es) t)
    (hdb : (x == ("__debug__" : Str)) = false := by decide) (he : starEach (e :: es) X.env = (false, eval e X.env) :: starEach es X.env := by rfl) (hpl : (backTo pos (starEach es X.env)).any (·.1) = false := by rfl) :
    PE X (.Call (.Name x p) (e :: es) [] pos) (tCall sp [] E0 t) := by
  obtain ⟨f, fd, ps, F, hm, kp, b⟩ := c.ex
  exact pe_call F (hr.mono hk) hg hm kp b .nil pass0 ha hdb he hpl
theorem pe_c0 (c : Cal X.prog X.w X.K X.mg X.base k x sp) (hr : Room j X.A) (hk : k ≤ j) (hg : Gl X x)
    (hdb : (x == ("__debug__" : Str)) = false := by decide) : PE X (.Call (.Name x p) [] [] pos) (tCall sp [] E0 tNil) := by
  obtain ⟨f, fd, ps, F, hm, kp, b⟩ := c.ex
  exact pe_call0 F (hr.mono hk) hg hm kp b .nil pass0 hdb
/-- a def that may raise, where it does not -/
theorem passLN {X : Cx} : Passes (L2N.CX X.prog X.w) X E0 := fun _ _ _ _ _ _ _ h => by
  obtain ⟨_, _, _, _, _, _, _, _, _, _, _, _, z⟩ := h
  exact z.elim
theorem pe_cX (c : CalX X.prog X.w X.K X.mg X.base k x sp) (hr : Room j X.A) (hk : k ≤ j) (hg : Gl X x) (ha : PA X (e :: es) t)
    (hdb : (x == ("__debug__" : Str)) = false := by decide) (he : starEach (e :: es) X.env = (false, eval e X.env) :: starEach es X.env := by rfl) (hpl : (backTo pos (starEach es X.env)).any (·.1) = false := by rfl) :
    PE X (.Call (.Name x p) (e :: es) [] pos) (tCall sp [] E0 t) := by
  obtain ⟨f, fd, ps, F, hm, kp, b⟩ := c.ex
  exact pe_call F (hr.mono hk) hg hm kp b .nil passLN ha hdb he hpl
/-- .. in a try's body: what it raises is wished for -/
theorem pe_cW {W : WX} (c : CalX X.prog X.w X.K X.mg X.base k x sp) (tk : L2N.Takes X W) (hr : Room j X.A) (hk : k ≤ j) (hg : Gl X x) (ha : PA X (e :: es) t)
    (hdb : (x == ("__debug__" : Str)) = false := by decide) (he : starEach (e :: es) X.env = (false, eval e X.env) :: starEach es X.env := by rfl) (hpl : (backTo pos (starEach es X.env)).any (·.1) = false := by rfl) :
    PE X (.Call (.Name x p) (e :: es) [] pos) (tCallS sp (WE W) t) := by
  obtain ⟨f, fd, ps, F, hm, kp, b⟩ := c.ex
  exact pe_callS F (hr.mono hk) hg hm kp b (fun σ => L2N.passAt tk σ) ha hdb he hpl
end
/-! ### dicts new, joins, splits, ends -/
def tDNewKN : TE := fun _ H Q => aNew (.dK []) H Q
def rOrdU : List V → Hp → VK → Prop := fun xs H Q => ∃ c : Nat, xs = [.str ⟨#[c]⟩] ∧ Q (.int c) H
def rMin2U : List V → Hp → VK → Prop := fun xs H Q => ∃ i j, xs = [.int i, .int j] ∧ Q (.int (if j < i then j else i)) H
def rMax2U : List V → Hp → VK → Prop := fun xs H Q => ∃ i j, xs = [.int i, .int j] ∧ Q (.int (if j > i then j else i)) H
section
variable {X : Cx} {o e : Expr} {to te : TE} {apos pos : Pos}
theorem pe_dnewKN : PE X (.Dict [] [] pos) tDNewKN := pe_weak pe_dnewK fun σ H Q q => q.all
theorem call_ordU : CallR X (.builtin "ord") rOrdU := callR_weak call_ord fun vs H Q q => by
  obtain ⟨c, e, q⟩ := q
  exact ⟨_, e, rfl, q⟩
theorem call_min2U (hc : X.calm = true) : CallR X (.builtin "min") rMin2U := call_min2 hc
theorem call_max2U (hc : X.calm = true) : CallR X (.builtin "max") rMax2U := call_max2 hc
end
def tJoinU (K : PySem.W.Frag) (to te : TE) : TE := tM1 (fun x xs H Q => ∃ a p, ∃ ys : List Str, x = .str a ∧ xs = [.ref p] ∧ (SqL K H p (ys.map V.str) ∨ SqT K H p (ys.map V.str)) ∧ (ys.map (·.length)).sum + ys.length * a.length ≤ 16777216 ∧ Q (.str (Txt.join a ys)) H) to te
def tSplitU (to te : TE) : TE := tM1 (fun x xs H Q => ∃ a b, x = .str a ∧ xs = [.str b] ∧ (b.length == 0) = false ∧ a.length + 2 ≤ sizeLine ∧ rNewStrs (Txt.split a b) H Q) to te
def tEndsU (to te : TE) : TE := tM1 (fun x xs H Q => ∃ a b, x = .str a ∧ xs = [.str b] ∧ Q (.bl (Txt.endswith a b)) H) to te
section
variable {σ : L2.St} {H : Hp} {Q : VK} {K : PySem.W.Frag} {to te : TE}
theorem s_joinU (h : to σ H fun x H1 => (∃ a, x = .str a) ∧ te σ H1 fun y H2 => ∃ a p, ∃ ys : List Str, x = .str a ∧ [y] = [.ref p] ∧ (SqL K H2 p (ys.map V.str) ∨ SqT K H2 p (ys.map V.str)) ∧ (ys.map (·.length)).sum + ys.length * a.length ≤ 16777216 ∧ Q (.str (Txt.join a ys)) H2) : tJoinU K to te σ H Q := h
theorem s_splitU (h : to σ H fun x H1 => (∃ a, x = .str a) ∧ te σ H1 fun y H2 => ∃ a b, x = .str a ∧ [y] = [.str b] ∧ (b.length == 0) = false ∧ a.length + 2 ≤ sizeLine ∧ rNewStrs (Txt.split a b) H2 Q) : tSplitU to te σ H Q := h
theorem s_endsU (h : to σ H fun x H1 => (∃ a, x = .str a) ∧ te σ H1 fun y H2 => ∃ a b, x = .str a ∧ [y] = [.str b] ∧ Q (.bl (Txt.endswith a b)) H2) : tEndsU to te σ H Q := h
theorem s_isS {a : Str} {P : Prop} (h : P) : (∃ b, V.str a = .str b) ∧ P := ⟨⟨a, rfl⟩, h⟩
theorem r_joinL {a : Str} {p : Addr} {ys : List Str} (h : H p = some (.lst (ys.map V.str))) (hz : (ys.map (·.length)).sum + ys.length * a.length ≤ 16777216) (q : Q (.str (Txt.join a ys)) H) :
    ∃ a' p', ∃ ys : List Str, V.str a = .str a' ∧ [V.ref p] = [.ref p'] ∧ (SqL K H p' (ys.map V.str) ∨ SqT K H p' (ys.map V.str)) ∧ (ys.map (·.length)).sum + ys.length * a'.length ≤ 16777216 ∧ Q (.str (Txt.join a' ys)) H := ⟨a, p, ys, rfl, rfl, .inl (SqL.of h), hz, q⟩
theorem r_split {a b : Str} (hb : (b.length == 0) = false) (hz : a.length + 2 ≤ sizeLine) (q : ∀ p H1, H p = none → Same H H1 → H1 p = some (.lst ((Txt.split a b).map V.str)) → Q (.ref p) H1) :
    ∃ a' b', V.str a = .str a' ∧ [V.str b] = [.str b'] ∧ (b'.length == 0) = false ∧ a'.length + 2 ≤ sizeLine ∧ rNewStrs (Txt.split a' b') H Q := ⟨a, b, rfl, rfl, hb, hz, fun p hp => q p _ hp (Same.new hp) upd_same⟩
theorem r_ends {a b : Str} (q : Q (.bl (Txt.endswith a b)) H) : ∃ a' b', V.str a = .str a' ∧ [V.str b] = [.str b'] ∧ Q (.bl (Txt.endswith a' b')) H := ⟨a, b, rfl, rfl, q⟩
theorem r_ord {c : Nat} (q : Q (.int c) H) : rOrdU [.str ⟨#[c]⟩] H Q := ⟨c, rfl, q⟩
theorem r_min {i j : Int} (q : Q (.int (if j < i then j else i)) H) : rMin2U [.int i, .int j] H Q := ⟨i, j, rfl, q⟩
theorem r_max {i j : Int} (q : Q (.int (if j > i then j else i)) H) : rMax2U [.int i, .int j] H Q := ⟨i, j, rfl, q⟩
end

/-! ### the addresses of what the top has written; what it says of them -/
structure Cs where
  cStoreError : Addr
  cBadValue : Addr
  cUnknown : Addr
  cBadLine : Addr
  cBroken : Addr
  cNotHeld : Addr
  cFault : Addr
  cNoRoom : Addr
  cCut : Addr
  dForms : Addr
  dRanges : Addr
end AG
/-! AgComp: comprehensions whose list is out of sight while the element runs -/
namespace AG
open PySem PySem.Spec L2
section
variable {X : Cx} {pins : List (Addr × Obj)} {σ : L2.St} {H H' : Hp} {s s' : Shared}
theorem notFs (I : L2.Inv X pins σ H s) {D : Addr} {o : HO} (h : H D = some o) : D ∉ X.fs := fun hb => by
  obtain ⟨_, ob, ho, _⟩ := I.ok.funs.mem hb
  have z := I.base.free D ob ho (I.ok.frf D hb) fun z => I.ok.exfs D z hb
  rw [h] at z
  cases z
theorem inv_hide {D : Addr} {acc : List V} (I : L2.Inv X pins σ H s) (h : H D = some (.lst acc)) : ∃ ob : Obj, s.heap.get? D = some ob ∧ L2.Inv X ((D, ob) :: pins) σ (del H D) s := by
  obtain ⟨hl, its, n, rv, e⟩ := I.hok D _ h
  refine ⟨_, e, ?_⟩
  have hn : ∀ {b : Addr} {u : HO}, H b = some u → u ≠ .lst acc → b ≠ D := fun {b u} q d z => by
    subst z
    rw [h] at q
    exact d (Option.some.inj q).symm
  refine ⟨I.ok, I.os, I.bare, ⟨I.base.keep, I.base.slot, fun b o q n' hx => ?_, I.base.there, fun b xs q => ?_, fun b o u q => ?_, fun b ps q => ?_⟩, I.loc, I.cell, ?_, fun x c q => ?_, fun p hp => ?_, fun a o q => ?_, I.len⟩
  · unfold del
    split
    · rfl
    · exact I.base.free b o q n' hx
  · have q' := I.base.tups b xs q
    rw [del_ne (hn q' (by intro z; cases z))]
    exact q'
  · have q' := I.base.frzs b o u q
    rw [del_ne (hn q' (by intro z; cases z))]
    exact q'
  · obtain ⟨m, q'⟩ := I.base.tbls b ps q
    exact ⟨m, by rw [del_ne (hn q' (by intro z; cases z))]; exact q'⟩
  · unfold del
    split
    · rfl
    · exact I.free
  · unfold del
    split
    · rfl
    · exact I.freeC x c q
  · have hp' : p ∈ (D, ({ cls := .type "list", data := .seq its.toArray n } : Obj)) :: (X.pn ++ pins) := by
      rcases List.mem_append.mp hp with z | z
      · exact List.mem_cons_of_mem _ (List.mem_append_left _ z)
      · rcases List.mem_cons.mp z with z | z
        · rw [z]
          exact List.mem_cons_self
        · exact List.mem_cons_of_mem _ (List.mem_append_right _ z)
    rcases List.mem_cons.mp hp' with z | z
    · subst z
      refine ⟨e, del_same, fun z => ?_, notFs I h, fun v z => by cases z⟩
      have z' : D = X.env.locals := z
      rw [z', I.free] at h
      cases h
    · obtain ⟨e1, e2, e3, e4, e5⟩ := I.pin p z
      refine ⟨e1, ?_, e3, e4, e5⟩
      unfold del
      split
      · rfl
      · exact e2
  · have hD : a ≠ D := fun z => by
      rw [z, del_same] at q
      cases q
    rw [del_ne hD] at q
    refine (I.hok a o q).stay (fun b u _ z => z) (fun b z => ?_) fun b xs z => ?_
    · rw [del_ne (hn z (by intro z; cases z))]
      exact z
    · rw [del_ne (hn z (by intro z; cases z))]
      exact z
theorem inv_unhide {D : Addr} {acc : List V} {ob : Obj} (I : L2.Inv X pins σ H s) (h : H D = some (.lst acc)) (e : s.heap.get? D = some ob) (J : L2.Inv X ((D, ob) :: pins) σ H' s') : L2.Inv X pins σ (upd H' D (.lst acc)) s' := by
  obtain ⟨hl, its, n, rv, e0⟩ := I.hok D _ h
  have eo : ob = { cls := .type "list", data := .seq its.toArray n } := Option.some.inj (e.symm.trans e0)
  obtain ⟨g1, g2, g3, g4, g5⟩ := J.pin (D, ob) (List.mem_append_right _ List.mem_cons_self)
  have g1 : s'.heap.get? D = some ob := g1
  have g2 : H' D = none := g2
  have hn : ∀ {b : Addr} {u : HO}, H' b = some u → b ≠ D := fun {b u} q z => by
    rw [z, g2] at q
    cases q
  refine ⟨J.ok, J.os, J.bare, ⟨J.base.keep, J.base.slot, fun b o q n' hx => ?_, J.base.there, fun b xs q => ?_, fun b o u q => ?_, fun b ps q => ?_⟩, J.loc, J.cell, ?_, fun x c q => ?_, fun p hp => ?_, fun a o q => ?_, J.len⟩
  · have z : b ≠ D := fun z => by
      subst z
      have y := I.base.free b o q n' hx
      rw [h] at y
      cases y
    rw [upd_ne z]
    exact J.base.free b o q n' hx
  · have q' := J.base.tups b xs q
    rw [upd_ne (hn q')]
    exact q'
  · have q' := J.base.frzs b o u q
    rw [upd_ne (hn q')]
    exact q'
  · obtain ⟨m, q'⟩ := J.base.tbls b ps q
    exact ⟨m, by rw [upd_ne (hn q')]; exact q'⟩
  · rw [upd_ne (Ne.symm g3)]
    exact J.free
  · have z : c ≠ D := fun z => by
      obtain ⟨v, oc, hc, hd⟩ := J.cell x c q
      rw [z, g1] at hc
      have y := Option.some.inj hc
      subst y
      exact g5 _ hd
    rw [upd_ne z]
    exact J.freeC x c q
  · have hp' : p ∈ X.pn ++ (D, ob) :: pins := by
      rcases List.mem_append.mp hp with z | z
      · exact List.mem_append_left _ z
      · exact List.mem_append_right _ (List.mem_cons_of_mem _ z)
    obtain ⟨e1, e2, e3, e4, e5⟩ := J.pin p hp'
    refine ⟨e1, ?_, e3, e4, e5⟩
    have z : p.1 ≠ D := fun z => by
      have y := (I.pin p hp).2.1
      rw [z, h] at y
      cases y
    rw [upd_ne z]
    exact e2
  · by_cases hD : a = D
    · subst hD
      rw [upd_same] at q
      cases q
      exact ⟨hl, its, n, rv, by rw [g1, eo]⟩
    · rw [upd_ne hD] at q
      refine (J.hok a o q).stay (fun b u _ z => z) (fun b z => ?_) fun b xs z => ?_
      · rw [upd_ne (hn z)]
        exact z
      · rw [upd_ne (hn z)]
        exact z
def tHide (te : TE) : TE := fun σ H Q => ∃ D acc Q0, H D = some (.lst acc) ∧ te σ (del H D) Q0 ∧ ∀ y H', H' D = none → Q0 y H' → Q y (upd H' D (.lst acc))
theorem pe_hide {e : Expr} {te : TE} (h : PE X e te) : PE X e (tHide te) := by
  refine ⟨fun pins s σ H Q I q => ?_⟩
  obtain ⟨D, acc, Q0, hD, q, k⟩ := q
  obtain ⟨ob, e1, J⟩ := inv_hide I hD
  exact thn (h.run _ s σ _ _ J q) fun u s1 ⟨v, H', J', r, z⟩ => ⟨v, _, inv_unhide I hD e1 J', r, k v H' (J'.pin (D, ob) (List.mem_append_right _ List.mem_cons_self)).2.1 z⟩
end

/-! ### the rule -/
/-- what a walk tells does not hang on a further object -/
structure Stab (G : Hp → Prop) (Y : Nat → Hp → V → Hp → Prop) : Prop where
  g : ∀ D acc H, H D = none → G H → G (upd H D (.lst acc))
  y : ∀ i D acc H x H', H D = none → Y i (upd H D (.lst acc)) x H' → ∃ H0, H' = upd H0 D (.lst acc) ∧ H0 D = none ∧ Y i H x H0
/-- .. nor what a target does -/
def GSt (g : TG) : Prop := ∀ D acc x σ H (R R' : L2.St → Hp → Prop), H D = none → (∀ σ2 H0, H0 D = none → R σ2 H0 → R' σ2 (upd H0 D (.lst acc))) → g x σ H R → g x σ (upd H D (.lst acc)) R'
def GSts (g : TGs) : Prop := ∀ D acc xs σ H (R R' : L2.St → Hp → Prop), H D = none → (∀ σ2 H0, H0 D = none → R σ2 H0 → R' σ2 (upd H0 D (.lst acc))) → g xs σ H R → g xs σ (upd H D (.lst acc)) R'
theorem gst_name {i : Nat} : GSt (gName i) := fun D acc x σ H R R' hD k h => k _ _ hD h
theorem gst_nil : GSts gNil := fun D acc xs σ H R R' hD k h => ⟨h.1, k _ _ hD h.2⟩
theorem gst_cons {i : Nat} {u : TGs} (hu : GSts u) : GSts (gCons (gName i) u) := fun D acc xs σ H R R' hD k h => by
  obtain ⟨v, r, e, h⟩ := h
  exact ⟨v, r, e, hu D acc r _ H R R' hD k h⟩
theorem gst_tup {K : PySem.W.Frag} {n : Nat} {t : TGs} (ht : GSts t) : GSt (gTup K n t) := fun D acc x σ H R R' hD k h => by
  obtain ⟨a, xs, e, hs, hn, h⟩ := h
  exact ⟨a, xs, e, Same.sqT (Same.new hD) hs, hn, ht D acc xs σ H R R' hD k h⟩
def tLcN (wi : TI) (g : TG) (te : TE) (vs : List Nat) : TE := fun σ H Q => wi σ H fun J H1 => ∃ (n : Nat) (G : Hp → Prop) (Y : Nat → Hp → V → Hp → Prop), Walk J n G Y ∧ Stab G Y ∧ GSt g ∧ n ≤ 1000000 ∧
  ∃ W : Nat → List V → Hp → Prop, W 0 [] H1 ∧ (∀ i acc H, i ≤ n → W i acc H → G H) ∧
    (∀ i acc x H H', i < n → acc.length = i → W i acc H → Y i H x H' → g x (wipe σ vs) H' fun σ2 H2 => wipe σ2 vs = wipe σ vs ∧ te σ2 H2 fun y H4 => W (i + 1) (acc ++ [y]) H4) ∧
    (∀ acc H, acc.length = n → W n acc H → ∀ D H', H D = none → Same H H' → H' D = some (.lst acc) → Q (.ref D) H')
theorem del_upd {H : Hp} {D : Addr} {o : HO} (h : H D = none) : del (upd H D o) D = H := by
  funext b
  unfold del upd
  by_cases z : b = D
  · simp [z, h]
  · simp [z]
theorem lc_turn {wi : TI} {g : TG} {te : TE} {vs : List Nat} {σ : L2.St} {H : Hp} {Q : VK} (h : tLcN wi g te vs σ H Q) :
    tLc (fun σ H R => ∃ R', wi σ H R' ∧ ∀ J H1, R' J H1 → R J H1) g tYes (tHide te) vs σ H Q := by
  refine ⟨_, h, fun J H1 q D hD => ?_⟩
  obtain ⟨n, G, Y, wk, st, gs, hn, W, w0, wG, ws, wd⟩ := q
  refine ⟨fun i m H => m = n - i ∧ i ≤ n ∧ ∃ acc H0, H = upd H0 D (.lst acc) ∧ H0 D = none ∧ acc.length = i ∧ W i acc H0, ⟨n, by omega, Nat.zero_le _, [], H1, rfl, hD, rfl, w0⟩, ?_⟩
  rintro i m H ⟨hm, hi, acc, H0, rfl, h0, hl, w⟩
  have hG := st.g D acc H0 h0 (wG i acc H0 hi w)
  by_cases hlt : i < n
  · refine .inr ⟨wk.goes i _ hlt hG, fun H => i + 1 ≤ n ∧ ∃ acc H0, H = upd H0 D (.lst acc) ∧ H0 D = none ∧ acc.length = i + 1 ∧ W (i + 1) acc H0, fun H' p' => ⟨n - (i + 1), by omega, rfl, p'⟩, fun x H' y => ?_⟩
    obtain ⟨H2, rfl, h2, y2⟩ := st.y i D acc H0 x H' h0 (wk.yields i _ x H' hlt hG y)
    refine gs D acc x _ H2 _ _ h2 (fun σ2 H3 h3 z => ?_) (ws i acc x H0 H2 hlt hl w y2)
    obtain ⟨e1, z⟩ := z
    refine ⟨e1, ?_⟩
    unfold tYes
    refine s_itT ?_
    refine ⟨D, acc, _, upd_same, by rw [del_upd h3]; exact z, fun y H4 h4 w4 => ⟨acc, upd_same, by rw [hl]; exact sz_lt (by omega), by omega, acc ++ [y], H4, upd_upd, h4, by simp [hl], w4⟩⟩
  · have e : i = n := by omega
    subst e
    exact .inl ⟨wk.stops _ hG, wd acc H0 hl w D _ h0 (Same.new h0) upd_same⟩
section
variable {X : Cx}
theorem pi_trick {tg iter : Expr} {wi : TI} (h : PI X tg iter wi) : PI X tg iter (fun σ H R => ∃ R', wi σ H R' ∧ ∀ J H1, R' J H1 → R J H1) := ⟨fun pins s σ H R I q => by
  obtain ⟨R', q, k⟩ := q
  refine thn (h.run pins s σ H R' I q) fun v s1 z => thn z fun itv s2 y => ?_
  obtain ⟨it, fp, tn, J, H', e, I', T, t0, hf, r⟩ := y
  exact ⟨it, fp, tn, J, H', e, I', T, t0, hf, k _ _ r⟩⟩
theorem pe_lcN {elt tg iter : Expr} {scope : Scope} {own : List (Str × Nat)} {pos : Pos} {wi : TI} {g : TG} {te : TE} (hc : X.calm = true) (hN : X.N.Nodup) (hi : PI X tg iter wi) (ok : BlkOk X.N X.env.scope scope own)
    (hg : ∀ (s : Shared) (H : Hp) (C : Addr) (cl : List (Str × Addr)) (fp : List Addr), PG (X.blk s H scope (compEnvC scope cl C X.env) fp) tg g)
    (he : ∀ (s : Shared) (H : Hp) (C : Addr) (cl : List (Str × Addr)) (fp : List Addr), PE (X.blk s H scope (compEnvC scope cl C X.env) fp) elt te) (hs : ∀ x, foldedSetIterable iter X.env x = pure x := by intro _; rfl) :
    PE X (.ListComp elt [⟨tg, iter, [], 0⟩] scope pos) (tLcN wi g te (own.map (·.2))) :=
  pe_weak (pe_lc hc hN (pi_trick hi) ok hg (fun _ _ _ _ _ => pts_nil) (fun s H C cl fp => pe_hide (he s H C cl fp)) hs) fun σ H Q q => lc_turn q
theorem ps_setLcN {i : Nat} {y : Str} {py : Pos} {elt tg iter : Expr} {scope : Scope} {own : List (Str × Nat)} {pos spos : Pos} {wi : TI} {g : TG} {te : TE} (hc : X.calm = true) (hN : X.N.Nodup) (hy : X.N[i]? = some y) (hyl : X.env.scope.names.lookup y = some .local)
    (hsw : swapsWith (.ListComp elt [⟨tg, iter, [], 0⟩] scope pos) (some (.Name y py)) spos.line X.env = pure true) (hi : PI X tg iter wi) (ok : BlkOk X.N X.env.scope scope own)
    (hg : ∀ (s : Shared) (H : Hp) (C : Addr) (cl : List (Str × Addr)) (fp : List Addr), PG (X.blk s H scope (compEnvC scope cl C X.env) fp) tg g)
    (he : ∀ (s : Shared) (H : Hp) (C : Addr) (cl : List (Str × Addr)) (fp : List Addr), PE (X.blk s H scope (compEnvC scope cl C X.env) fp) elt te) (hs : ∀ x, foldedSetIterable iter X.env x = pure x := by intro _; rfl) :
    PS X (.Assign [.Name y py] (.ListComp elt [⟨tg, iter, [], 0⟩] scope pos) spos) (tAsg (tLcN wi g te (own.map (·.2))) (gName i)) :=
  ⟨fun pins s σ H D I q => (ps_setLc hc hN hy hyl hsw (pi_trick hi) ok hg (fun _ _ _ _ _ => pts_nil) (fun s H C cl fp => pe_hide (he s H C cl fp)) hs).run pins s σ H D I (lc_turn q)⟩
end

/-! ### walks that are stable -/
section
variable {K : PySem.W.Frag}
theorem stab_list {a : Addr} {xs : List V} : Stab (fun H => SqL K H a xs) (YAt xs) := ⟨fun D acc H hD h => Same.sqL (Same.new hD) h, fun i D acc H x H' hD y => ⟨H, y.1, hD, rfl, y.2⟩⟩
theorem stab_tup {a : Addr} {xs : List V} : Stab (fun H => SqT K H a xs) (YAt xs) := ⟨fun D acc H hD h => Same.sqT (Same.new hD) h, fun i D acc H x H' hD y => ⟨H, y.1, hD, rfl, y.2⟩⟩
theorem stab_range {f : Nat → V} : Stab (fun _ => True) (YFn f) := ⟨fun _ _ _ _ h => h, fun i D acc H x H' hD y => ⟨H, y.1, hD, rfl, y.2⟩⟩
theorem stab_str {z : Str} : Stab (fun _ => True) (fun i H v H' => H' = H ∧ ∃ c, z.cps[i]? = some c ∧ v = .str ⟨#[c]⟩) := ⟨fun _ _ _ _ h => h, fun i D acc H x H' hD y => ⟨H, y.1, hD, rfl, y.2⟩⟩
theorem stab_pair {xs ys : Nat → Option V} {G : Hp → Prop} (hG : ∀ D acc H, H D = none → G H → G (upd H D (.lst acc))) : Stab G (YPair xs ys) := ⟨hG, fun i D acc H v H' hD y => by
  obtain ⟨T, x, z, rfl, hT, rfl, h1, h2⟩ := y
  have hTD : T ≠ D := fun e => by
    rw [e, upd_same] at hT
    cases hT
  rw [upd_ne hTD] at hT
  refine ⟨upd H T (.tup [x, z]), ?_, by rw [upd_ne (Ne.symm hTD)]; exact hD, T, x, z, rfl, hT, rfl, h1, h2⟩
  funext b
  unfold upd
  by_cases e1 : b = T
  · subst e1
    simp [hTD]
  · by_cases e2 : b = D
    · subst e2
      simp [e1]
    · simp [e1, e2]⟩
/-- zip of two tuples -/
theorem walk_zipT {a b : Addr} {xs ys : List V} {n : Nat} (hn : n = min xs.length ys.length) : Walk (RZ.ItzT K a b) n (fun H => SqT K H a xs ∧ SqT K H b ys) (YPair (fun i => xs[i]?) (fun i => ys[i]?)) := by
  subst hn
  refine ⟨fun i _ hi q => ?_, fun _ q => ⟨xs, ys, q.1, q.2, by omega⟩, fun i H v H' _ q y => ?_⟩
  · have h1 : i < xs.length := by omega
    have h2 : i < ys.length := by omega
    exact ⟨xs, ys, xs[i], ys[i], q.1, q.2, by simp [h1], by simp [h2]⟩
  · obtain ⟨T, x, z, h1, h2, h3, h4, h5⟩ := y
    exact ⟨T, x, z, h1, h2, h3, h4 xs q.1, h5 ys q.2⟩

/-! ### comprehensions by what each turn gives -/
inductive Turns (R : Nat → V → Hp → Prop) (H : Hp) : Nat → List V → Prop where
  | nil : Turns R H 0 []
  | snoc {n : Nat} {acc : List V} {y : V} (h : Turns R H n acc) (r : R n y H) : Turns R H (n + 1) (acc ++ [y])
theorem Turns.mono {R : Nat → V → Hp → Prop} (mR : ∀ i y H H', Same H H' → R i y H → R i y H') {H H' : Hp} (s : Same H H') {n : Nat} {acc : List V} (t : Turns R H n acc) : Turns R H' n acc := by
  induction t with
  | nil => exact .nil
  | snoc h r ih => exact .snoc ih (mR _ _ _ _ s r)
theorem Turns.len {R : Nat → V → Hp → Prop} {H : Hp} {n : Nat} {acc : List V} (t : Turns R H n acc) : acc.length = n := by
  induction t with
  | nil => rfl
  | snoc h r ih => simp [ih]
theorem Turns.get {R : Nat → V → Hp → Prop} {H : Hp} {n : Nat} {acc : List V} (t : Turns R H n acc) : ∀ {i : Nat} {y : V}, acc[i]? = some y → R i y H := by
  induction t with
  | nil => intro i y h; simp at h
  | @snoc n acc y' h r ih =>
    intro i y e
    by_cases hi : i < acc.length
    · rw [List.getElem?_append_left hi] at e
      exact ih e
    · rw [List.getElem?_append_right (by omega)] at e
      have hl := h.len
      by_cases h0 : i = acc.length
      · subst h0
        simp at e
        subst e
        rw [hl]
        exact r
      · have : i - acc.length ≠ 0 := by omega
        obtain ⟨k, hk⟩ : ∃ k, i - acc.length = k + 1 := ⟨i - acc.length - 1, by omega⟩
        rw [hk] at e
        simp at e
/-- a comprehension's end, over an iterator -/
def LcB (J : It) (g : TG) (te : TE) (vs : List Nat) (σ : L2.St) (H1 : Hp) (Q : VK) : Prop := ∃ (n : Nat) (G : Hp → Prop) (Y : Nat → Hp → V → Hp → Prop), Walk J n G Y ∧ Stab G Y ∧ GSt g ∧ n ≤ 1000000 ∧
  ∃ W : Nat → List V → Hp → Prop, W 0 [] H1 ∧ (∀ i acc H, i ≤ n → W i acc H → G H) ∧
    (∀ i acc x H H', i < n → acc.length = i → W i acc H → Y i H x H' → g x (wipe σ vs) H' fun σ2 H2 => wipe σ2 vs = wipe σ vs ∧ te σ2 H2 fun y H4 => W (i + 1) (acc ++ [y]) H4) ∧
    (∀ acc H, acc.length = n → W n acc H → ∀ D H', H D = none → Same H H' → H' D = some (.lst acc) → Q (.ref D) H')
variable {g : TG} {te : TE} {vs : List Nat} {σ : L2.St} {H : Hp} {Q : VK} {tl : TE} {ta : TA}
theorem s_lc_list (h : tl σ H fun x H1 => ∃ a, x = .ref a ∧ (∃ xs, SqL K H1 a xs) ∧ LcB (Itl K a) g te vs σ H1 Q) : tLcN (iList K tl) g te vs σ H Q := h
theorem s_lc_tup (h : tl σ H fun x H1 => ∃ a, x = .ref a ∧ (∃ xs, SqT K H1 a xs) ∧ LcB (Itt K a) g te vs σ H1 Q) : tLcN (iTup K tl) g te vs σ H Q := h
theorem s_lc_str (h : tl σ H fun x H1 => ∃ z, x = .str z ∧ LcB (Its z) g te vs σ H1 Q) : tLcN (iStr tl) g te vs σ H Q := h
theorem s_lc_rng1 (h : ta σ H fun us H1 => ∃ j : Int, us = [.int j] ∧ -(2 ^ 62) ≤ j ∧ j < 2 ^ 62 ∧ LcB (Itr 0 j.toNat) g te vs σ H1 Q) : tLcN (iRng1 ta) g te vs σ H Q := h
theorem s_lc_rng2 (h : ta σ H fun us H1 => ∃ i j : Int, us = [.int i, .int j] ∧ (-(2 ^ 62) ≤ i ∧ i < 2 ^ 62 ∧ -(2 ^ 62) ≤ j ∧ j < 2 ^ 62) ∧ LcB (Itr i (j - i).toNat) g te vs σ H1 Q) : tLcN (iRng2 ta) g te vs σ H Q := h
theorem s_lc_zip (h : ta σ H fun us H1 => ∃ a b xs ys, us = [.ref a, .ref b] ∧ ((SqL K H1 a xs ∧ SqL K H1 b ys ∧ LcB (Itz K a b) g te vs σ H1 Q) ∨ (SqT K H1 a xs ∧ SqT K H1 b ys ∧ LcB (RZ.ItzT K a b) g te vs σ H1 Q))) : tLcN (RZ.iZipA K ta) g te vs σ H Q := h
/-- the general form: R i y H is what is known of the i-th item -/
theorem lcB_of {J : It} {n : Nat} {G : Hp → Prop} {Y : Nat → Hp → V → Hp → Prop} (wk : Walk J n G Y) (st : Stab G Y) (hg : GSt g) (hn : n ≤ 1000000) (hG : ∀ H2, Same H H2 → G H2) (R : Nat → V → Hp → Prop) (mR : ∀ i y H H', Same H H' → R i y H → R i y H')
    (ht : ∀ i x H2 H3, i < n → Same H H2 → Y i H2 x H3 → ∀ Q2 : VK, (∀ y H5, Same H2 H5 → R i y H5 → Q2 y H5) → g x (wipe σ vs) H3 fun σ2 H4 => wipe σ2 vs = wipe σ vs ∧ te σ2 H4 Q2)
    (hd : ∀ acc D H2, Turns R H2 n acc → H D = none → Same H H2 → H2 D = some (.lst acc) → Q (.ref D) H2) : LcB J g te vs σ H Q := by
  refine ⟨n, G, Y, wk, st, hg, hn, fun i acc H2 => Same H H2 ∧ Turns R H2 i acc, ⟨Same.refl _, .nil⟩, fun i acc H2 _ w => hG H2 w.1, fun i acc x H2 H3 hi hl w y => ?_, fun acc H2 hl w D H3 hD s e => ?_⟩
  · exact ht i x H2 H3 hi w.1 y _ fun y H5 s r => ⟨w.1.trans s, .snoc (w.2.mono mR s) r⟩
  · exact hd acc D H3 (w.2.mono mR s) (w.1.free hD) (w.1.trans s) e
theorem lcB_list {a : Addr} {xs : List V} (hx : SqL K H a xs) (hn : xs.length ≤ 1000000) (hg : GSt g) (R : Nat → V → Hp → Prop) (mR : ∀ i y H H', Same H H' → R i y H → R i y H')
    (ht : ∀ (i : Nat) x H2, xs[i]? = some x → Same H H2 → ∀ Q2 : VK, (∀ y H5, Same H2 H5 → R i y H5 → Q2 y H5) → g x (wipe σ vs) H2 fun σ2 H4 => wipe σ2 vs = wipe σ vs ∧ te σ2 H4 Q2)
    (hd : ∀ acc D H2, Turns R H2 xs.length acc → H D = none → Same H H2 → H2 D = some (.lst acc) → Q (.ref D) H2) : ∃ a', V.ref a = .ref a' ∧ (∃ xs, SqL K H a' xs) ∧ LcB (Itl K a') g te vs σ H Q :=
  ⟨a, rfl, ⟨xs, hx⟩, lcB_of walk_list stab_list hg hn (fun H2 s => Same.sqL s hx) R mR (fun i x H2 H3 hi s y => by
    obtain ⟨rfl, e⟩ := y
    exact ht i x _ e s) hd⟩
theorem lcB_tup {a : Addr} {xs : List V} (hx : SqT K H a xs) (hn : xs.length ≤ 1000000) (hg : GSt g) (R : Nat → V → Hp → Prop) (mR : ∀ i y H H', Same H H' → R i y H → R i y H')
    (ht : ∀ (i : Nat) x H2, xs[i]? = some x → Same H H2 → ∀ Q2 : VK, (∀ y H5, Same H2 H5 → R i y H5 → Q2 y H5) → g x (wipe σ vs) H2 fun σ2 H4 => wipe σ2 vs = wipe σ vs ∧ te σ2 H4 Q2)
    (hd : ∀ acc D H2, Turns R H2 xs.length acc → H D = none → Same H H2 → H2 D = some (.lst acc) → Q (.ref D) H2) : ∃ a', V.ref a = .ref a' ∧ (∃ xs, SqT K H a' xs) ∧ LcB (Itt K a') g te vs σ H Q :=
  ⟨a, rfl, ⟨xs, hx⟩, lcB_of walk_tup stab_tup hg hn (fun H2 s => Same.sqT s hx) R mR (fun i x H2 H3 hi s y => by
    obtain ⟨rfl, e⟩ := y
    exact ht i x _ e s) hd⟩
theorem lcB_str {z : Str} (hn : z.length ≤ 1000000) (hg : GSt g) (R : Nat → V → Hp → Prop) (mR : ∀ i y H H', Same H H' → R i y H → R i y H')
    (ht : ∀ (i : Nat) c H2, z.cps.toList[i]? = some c → Same H H2 → ∀ Q2 : VK, (∀ y H5, Same H2 H5 → R i y H5 → Q2 y H5) → g (.str ⟨#[c]⟩) (wipe σ vs) H2 fun σ2 H4 => wipe σ2 vs = wipe σ vs ∧ te σ2 H4 Q2)
    (hd : ∀ acc D H2, Turns R H2 z.length acc → H D = none → Same H H2 → H2 D = some (.lst acc) → Q (.ref D) H2) : ∃ z', V.str z = .str z' ∧ LcB (Its z') g te vs σ H Q :=
  ⟨z, rfl, lcB_of walk_str stab_str hg hn (fun H2 s => True.intro) R mR (fun i x H2 H3 hi s y => by
    obtain ⟨rfl, c, e, rfl⟩ := y
    exact ht i c _ (by simpa using e) s) hd⟩
theorem lcB_rng1 {j : Int} (hn : j ≤ 1000000) (h0 : 0 ≤ j) (hg : GSt g) (R : Nat → V → Hp → Prop) (mR : ∀ i y H H', Same H H' → R i y H → R i y H')
    (ht : ∀ (i : Nat) H2, (i : Int) < j → Same H H2 → ∀ Q2 : VK, (∀ y H5, Same H2 H5 → R i y H5 → Q2 y H5) → g (.int i) (wipe σ vs) H2 fun σ2 H4 => wipe σ2 vs = wipe σ vs ∧ te σ2 H4 Q2)
    (hd : ∀ acc D H2, Turns R H2 j.toNat acc → H D = none → Same H H2 → H2 D = some (.lst acc) → Q (.ref D) H2) : ∃ j' : Int, [V.int j] = [.int j'] ∧ -(2 ^ 62) ≤ j' ∧ j' < 2 ^ 62 ∧ LcB (Itr 0 j'.toNat) g te vs σ H Q :=
  ⟨j, rfl, by omega, by omega, lcB_of walk_range stab_range hg (by omega) (fun H2 s => True.intro) R mR (fun i x H2 H3 hi s y => by
    obtain ⟨rfl, rfl⟩ := y
    have e : (0 : Int) + (i : Int) = i := Int.zero_add _
    dsimp only
    rw [e]
    exact ht i _ (by omega) s) hd⟩
theorem lcB_zipT {a b : Addr} {xs ys : List V} (hx : SqT K H a xs) (hy : SqT K H b ys) (hn : xs.length ≤ 1000000) (hg : GSt g) (R : Nat → V → Hp → Prop) (mR : ∀ i y H H', Same H H' → R i y H → R i y H')
    (ht : ∀ (i : Nat) x y T H2, xs[i]? = some x → ys[i]? = some y → Same H H2 → H2 T = some (.tup [x, y]) → ∀ Q2 : VK, (∀ y H5, Same H2 H5 → R i y H5 → Q2 y H5) → g (.ref T) (wipe σ vs) H2 fun σ2 H4 => wipe σ2 vs = wipe σ vs ∧ te σ2 H4 Q2)
    (hd : ∀ acc D H2, Turns R H2 (min xs.length ys.length) acc → H D = none → Same H H2 → H2 D = some (.lst acc) → Q (.ref D) H2) :
    ∃ a' b' xs ys, [V.ref a, V.ref b] = [.ref a', .ref b'] ∧ ((SqL K H a' xs ∧ SqL K H b' ys ∧ LcB (Itz K a' b') g te vs σ H Q) ∨ (SqT K H a' xs ∧ SqT K H b' ys ∧ LcB (RZ.ItzT K a' b') g te vs σ H Q)) :=
  ⟨a, b, xs, ys, rfl, .inr ⟨hx, hy, lcB_of (walk_zipT rfl) (stab_pair fun D acc H hD q => ⟨Same.sqT (Same.new hD) q.1, Same.sqT (Same.new hD) q.2⟩) hg (by omega) (fun H2 s => ⟨Same.sqT s hx, Same.sqT s hy⟩) R mR (fun i x H2 H3 hi s y Q2 q => by
    obtain ⟨T, x', y', rfl, hT, rfl, h1, h2⟩ := y
    exact ht i x' y' T _ h1 h2 (s.trans (Same.new hT)) upd_same Q2 fun y H5 s' r => q y H5 ((Same.new hT).trans s') r) hd⟩⟩
theorem lcB_zipTL {a b : Addr} {xs ys : List V} (hx : SqL K H a xs) (hy : SqL K H b ys) (hn : xs.length ≤ 1000000) (hg : GSt g) (R : Nat → V → Hp → Prop) (mR : ∀ i y H H', Same H H' → R i y H → R i y H')
    (ht : ∀ (i : Nat) x y T H2, xs[i]? = some x → ys[i]? = some y → Same H H2 → H2 T = some (.tup [x, y]) → ∀ Q2 : VK, (∀ y H5, Same H2 H5 → R i y H5 → Q2 y H5) → g (.ref T) (wipe σ vs) H2 fun σ2 H4 => wipe σ2 vs = wipe σ vs ∧ te σ2 H4 Q2)
    (hd : ∀ acc D H2, Turns R H2 (min xs.length ys.length) acc → H D = none → Same H H2 → H2 D = some (.lst acc) → Q (.ref D) H2) :
    ∃ a' b' xs ys, [V.ref a, V.ref b] = [.ref a', .ref b'] ∧ ((SqL K H a' xs ∧ SqL K H b' ys ∧ LcB (Itz K a' b') g te vs σ H Q) ∨ (SqT K H a' xs ∧ SqT K H b' ys ∧ LcB (RZ.ItzT K a' b') g te vs σ H Q)) :=
  ⟨a, b, xs, ys, rfl, .inl ⟨hx, hy, lcB_of (walk_zip rfl) (stab_pair fun D acc H hD q => ⟨Same.sqL (Same.new hD) q.1, Same.sqL (Same.new hD) q.2⟩) hg (by omega) (fun H2 s => ⟨Same.sqL s hx, Same.sqL s hy⟩) R mR (fun i x H2 H3 hi s y Q2 q => by
    obtain ⟨T, x', y', rfl, hT, rfl, h1, h2⟩ := y
    exact ht i x' y' T _ h1 h2 (s.trans (Same.new hT)) upd_same Q2 fun y H5 s' r => q y H5 ((Same.new hT).trans s') r) hd⟩⟩

/-! ### loops -/
variable {tb : TS} {nx : L2.St → Hp → Prop} {rt : VK} {bk ct : L2.St → Hp → Prop}
def ForB (J : It) (g : TG) (tb : TS) (D : Ends) (σ : L2.St) (H1 : Hp) : Prop := ∃ W : Nat → Nat → L2.St → Hp → Prop, (∃ m, W 0 m σ H1) ∧ ∀ i m σ H, W i m σ H →
  (J.stop i H ∧ D.nx σ H) ∨ (J.go i H ∧ ∃ N : L2.St → Hp → Prop, (∀ σ' H', N σ' H' → ∃ m', m' < m ∧ W (i + 1) m' σ' H') ∧ ∀ x H', J.yld i H x H' → g x σ H' fun σ2 H2 => tb { D with nx := N, ct := N, bk := D.nx } σ2 H2)
theorem s_for_list {D : Ends} (h : tl σ H fun x H1 => ∃ a, x = .ref a ∧ (∃ xs, SqL K H1 a xs) ∧ ForB (Itl K a) g tb D σ H1) : tFor (iList K tl) g tb D σ H := h
theorem s_for_tup {D : Ends} (h : tl σ H fun x H1 => ∃ a, x = .ref a ∧ (∃ xs, SqT K H1 a xs) ∧ ForB (Itt K a) g tb D σ H1) : tFor (iTup K tl) g tb D σ H := h
theorem s_for_str {D : Ends} (h : tl σ H fun x H1 => ∃ z, x = .str z ∧ ForB (Its z) g tb D σ H1) : tFor (iStr tl) g tb D σ H := h
theorem s_for_rng1 {D : Ends} (h : ta σ H fun us H1 => ∃ j : Int, us = [.int j] ∧ -(2 ^ 62) ≤ j ∧ j < 2 ^ 62 ∧ ForB (Itr 0 j.toNat) g tb D σ H1) : tFor (iRng1 ta) g tb D σ H := h
theorem s_for_rng2 {D : Ends} (h : ta σ H fun us H1 => ∃ i j : Int, us = [.int i, .int j] ∧ (-(2 ^ 62) ≤ i ∧ i < 2 ^ 62 ∧ -(2 ^ 62) ≤ j ∧ j < 2 ^ 62) ∧ ForB (Itr i (j - i).toNat) g tb D σ H1) : tFor (iRng2 ta) g tb D σ H := h
theorem forB_list {a : Addr} {xs : List V} (hx : SqL K H a xs) (Pv : Nat → L2.St → Hp → Prop) (h0 : Pv 0 σ H) (hl : ∀ i σ H, i ≤ xs.length → Pv i σ H → SqL K H a xs)
    (hs : ∀ (i : Nat) x σ H, xs[i]? = some x → Pv i σ H → g x σ H fun σ2 H2 => tb ⟨Pv (i + 1), rt, nx, Pv (i + 1)⟩ σ2 H2) (hd : ∀ σ H, Pv xs.length σ H → nx σ H) : ∃ a', V.ref a = .ref a' ∧ (∃ xs, SqL K H a' xs) ∧ ForB (Itl K a') g tb ⟨nx, rt, bk, ct⟩ σ H :=
  ⟨a, rfl, ⟨xs, hx⟩, for_it walk_list Pv h0 hl (fun i x σ H H' hi p y => by
    obtain ⟨rfl, e⟩ := y
    exact hs i x σ _ e p) hd⟩
theorem forB_tup {a : Addr} {xs : List V} (hx : SqT K H a xs) (Pv : Nat → L2.St → Hp → Prop) (h0 : Pv 0 σ H) (hl : ∀ i σ H, i ≤ xs.length → Pv i σ H → SqT K H a xs)
    (hs : ∀ (i : Nat) x σ H, xs[i]? = some x → Pv i σ H → g x σ H fun σ2 H2 => tb ⟨Pv (i + 1), rt, nx, Pv (i + 1)⟩ σ2 H2) (hd : ∀ σ H, Pv xs.length σ H → nx σ H) : ∃ a', V.ref a = .ref a' ∧ (∃ xs, SqT K H a' xs) ∧ ForB (Itt K a') g tb ⟨nx, rt, bk, ct⟩ σ H :=
  ⟨a, rfl, ⟨xs, hx⟩, for_it walk_tup Pv h0 hl (fun i x σ H H' hi p y => by
    obtain ⟨rfl, e⟩ := y
    exact hs i x σ _ e p) hd⟩
theorem forB_str {z : Str} (Pv : Nat → L2.St → Hp → Prop) (h0 : Pv 0 σ H)
    (hs : ∀ (i : Nat) c σ H, z.cps.toList[i]? = some c → Pv i σ H → g (.str ⟨#[c]⟩) σ H fun σ2 H2 => tb ⟨Pv (i + 1), rt, nx, Pv (i + 1)⟩ σ2 H2) (hd : ∀ σ H, Pv z.length σ H → nx σ H) : ∃ z', V.str z = .str z' ∧ ForB (Its z') g tb ⟨nx, rt, bk, ct⟩ σ H :=
  ⟨z, rfl, for_it walk_str Pv h0 (fun _ _ _ _ _ => True.intro) (fun i x σ H H' hi p y => by
    obtain ⟨rfl, c, e, rfl⟩ := y
    exact hs i c σ _ (by simpa using e) p) hd⟩
theorem forB_rng1 {j : Int} (h1 : j < 2 ^ 62) (h2 : 0 ≤ j) (Pv : Nat → L2.St → Hp → Prop) (h0 : Pv 0 σ H)
    (hs : ∀ (i : Nat) σ H, (i : Int) < j → Pv i σ H → g (.int i) σ H fun σ2 H2 => tb ⟨Pv (i + 1), rt, nx, Pv (i + 1)⟩ σ2 H2) (hd : ∀ σ H, Pv j.toNat σ H → nx σ H) : ∃ j' : Int, [V.int j] = [.int j'] ∧ -(2 ^ 62) ≤ j' ∧ j' < 2 ^ 62 ∧ ForB (Itr 0 j'.toNat) g tb ⟨nx, rt, bk, ct⟩ σ H :=
  ⟨j, rfl, by omega, by omega, for_it walk_range Pv h0 (fun _ _ _ _ _ => True.intro) (fun i x σ H H' hi p y => by
    obtain ⟨rfl, rfl⟩ := y
    have e : (0 : Int) + (i : Int) = i := Int.zero_add _
    dsimp only
    rw [e]
    exact hs i σ _ (by omega) p) hd⟩
theorem forB_rng2 {lo j : Int} (h1 : -(2 ^ 62) ≤ lo ∧ lo < 2 ^ 62 ∧ -(2 ^ 62) ≤ j ∧ j < 2 ^ 62) (Pv : Nat → L2.St → Hp → Prop) (h0 : Pv 0 σ H)
    (hs : ∀ (i : Nat) σ H, lo + (i : Int) < j → Pv i σ H → g (.int (lo + i)) σ H fun σ2 H2 => tb ⟨Pv (i + 1), rt, nx, Pv (i + 1)⟩ σ2 H2) (hd : ∀ σ H, Pv (j - lo).toNat σ H → nx σ H) :
    ∃ i' j' : Int, [V.int lo, V.int j] = [.int i', .int j'] ∧ (-(2 ^ 62) ≤ i' ∧ i' < 2 ^ 62 ∧ -(2 ^ 62) ≤ j' ∧ j' < 2 ^ 62) ∧ ForB (Itr i' (j' - i').toNat) g tb ⟨nx, rt, bk, ct⟩ σ H :=
  ⟨lo, j, rfl, h1, for_it walk_range Pv h0 (fun _ _ _ _ _ => True.intro) (fun i x σ H H' hi p y => by
    obtain ⟨rfl, rfl⟩ := y
    exact hs i σ _ (by omega) p) hd⟩
end
end AG
namespace AG
open PySem PySem.Spec L2
/-! ### plain data, and where it stands -/
inductive Dat where
  | non | bl (b : Bool) | int (i : Int) | str (s : Str) | lst (ds : List Dat) | tup (ds : List Dat) | dct (ks : List Str) (ds : List Dat)
/-- data that point nowhere -/
def flatD : Dat → Prop
  | .str _ => True
  | .int _ => True
  | _ => False
mutual
def Rep (K : PySem.W.Frag) (H : Hp) : Dat → V → Prop
  | .non, v => v = .non
  | .bl b, v => v = .bl b
  | .int i, v => v = .int i
  | .str s, v => v = .str s ∧ s.length ≤ 1000000
  | .lst ds, v => ∃ a xs, v = .ref a ∧ H a = some (.lst xs) ∧ xs.length ≤ 1000000 ∧ Reps K H ds xs
  | .tup ds, v => ∃ a xs, v = .ref a ∧ SqT K H a xs ∧ xs.length ≤ 1000000 ∧ Reps K H ds xs
  | .dct ks ds, v => ∃ (a : Addr) (es : List (L2.Key × V)) (vs : List V), v = .ref a ∧ H a = some (.dK es) ∧ es.length ≤ 1000000 ∧ ks.Nodup ∧ es = (ks.zip vs).map (fun p => (Sum.inr p.1, p.2)) ∧ ks.length = vs.length ∧ (∀ d ∈ ds, flatD d) ∧ Reps K H ds vs
def Reps (K : PySem.W.Frag) (H : Hp) : List Dat → List V → Prop
  | [], xs => xs = []
  | d :: ds, xs => ∃ x r, xs = x :: r ∧ Rep K H d x ∧ Reps K H ds r
end
mutual
def Dat.depth : Dat → Nat
  | .lst ds => depths ds + 1
  | .tup ds => depths ds + 1
  | .dct _ ds => depths ds + 1
  | _ => 0
def depths : List Dat → Nat
  | [] => 0
  | d :: r => max d.depth (depths r)
end
theorem depths_mem : ∀ {ds : List Dat} {d : Dat}, d ∈ ds → d.depth ≤ depths ds
  | [], _, h => by cases h
  | e :: r, d, h => by
    unfold depths
    rcases List.mem_cons.mp h with h | h
    · subst h
      exact Nat.le_max_left _ _
    · exact Nat.le_trans (depths_mem h) (Nat.le_max_right _ _)
mutual
theorem Same.rep {K : PySem.W.Frag} {H H' : Hp} (s : Same H H') : ∀ {d : Dat} {v : V}, Rep K H d v → Rep K H' d v
  | .non, v, h => by unfold Rep at h ⊢; exact h
  | .bl b, v, h => by unfold Rep at h ⊢; exact h
  | .int i, v, h => by unfold Rep at h ⊢; exact h
  | .str z, v, h => by unfold Rep at h ⊢; exact h
  | .lst ds, v, h => by
    unfold Rep at h ⊢
    obtain ⟨a, xs, e, h1, hl, h2⟩ := h
    exact ⟨a, xs, e, s _ _ h1, hl, Same.reps s h2⟩
  | .tup ds, v, h => by
    unfold Rep at h ⊢
    obtain ⟨a, xs, e, h1, hl, h2⟩ := h
    exact ⟨a, xs, e, Same.sqT s h1, hl, Same.reps s h2⟩
  | .dct ks ds, v, h => by
    unfold Rep at h ⊢
    obtain ⟨a, es, vs, e, h1, hl, hn, he, hk, hf, h2⟩ := h
    exact ⟨a, es, vs, e, s _ _ h1, hl, hn, he, hk, hf, Same.reps s h2⟩
theorem Same.reps {K : PySem.W.Frag} {H H' : Hp} (s : Same H H') : ∀ {ds : List Dat} {xs : List V}, Reps K H ds xs → Reps K H' ds xs
  | [], xs, h => by unfold Reps at h ⊢; exact h
  | d :: r, xs, h => by
    unfold Reps at h ⊢
    obtain ⟨x, t, e, h1, h2⟩ := h
    exact ⟨x, t, e, Same.rep s h1, Same.reps s h2⟩
end
section
variable {K : PySem.W.Frag} {H : Hp}
theorem rep_non : Rep K H .non .non := by unfold Rep; rfl
theorem rep_bl {b : Bool} : Rep K H (.bl b) (.bl b) := by unfold Rep; rfl
theorem rep_int {i : Int} : Rep K H (.int i) (.int i) := by unfold Rep; rfl
theorem rep_str {s : Str} (h : s.length ≤ 1000000) : Rep K H (.str s) (.str s) := by unfold Rep; exact ⟨rfl, h⟩
theorem rep_lst {a : Addr} {xs : List V} {ds : List Dat} (h : H a = some (.lst xs)) (hl : xs.length ≤ 1000000) (r : Reps K H ds xs) : Rep K H (.lst ds) (.ref a) := by unfold Rep; exact ⟨a, xs, rfl, h, hl, r⟩
theorem rep_tup {a : Addr} {xs : List V} {ds : List Dat} (h : SqT K H a xs) (hl : xs.length ≤ 1000000) (r : Reps K H ds xs) : Rep K H (.tup ds) (.ref a) := by unfold Rep; exact ⟨a, xs, rfl, h, hl, r⟩
theorem rep_dct {a : Addr} {es : List (L2.Key × V)} {vs : List V} {ks : List Str} {ds : List Dat} (h : H a = some (.dK es)) (hl : es.length ≤ 1000000) (hn : ks.Nodup) (he : es = (ks.zip vs).map (fun p => (Sum.inr p.1, p.2))) (hk : ks.length = vs.length) (hf : ∀ d ∈ ds, flatD d) (r : Reps K H ds vs) : Rep K H (.dct ks ds) (.ref a) := by
  unfold Rep
  exact ⟨a, es, vs, rfl, h, hl, hn, he, hk, hf, r⟩
theorem reps_nil : Reps K H [] [] := by unfold Reps; rfl
theorem reps_cons {d : Dat} {x : V} {ds : List Dat} {xs : List V} (h : Rep K H d x) (r : Reps K H ds xs) : Reps K H (d :: ds) (x :: xs) := by unfold Reps; exact ⟨x, xs, rfl, h, r⟩
theorem reps_inv {d : Dat} {ds : List Dat} {xs : List V} (h : Reps K H (d :: ds) xs) : ∃ x r, xs = x :: r ∧ Rep K H d x ∧ Reps K H ds r := by unfold Reps at h; exact h
theorem reps_inv_nil {xs : List V} (h : Reps K H [] xs) : xs = [] := by unfold Reps at h; exact h
theorem reps_len : ∀ {ds : List Dat} {xs : List V}, Reps K H ds xs → xs.length = ds.length
  | [], xs, h => by rw [reps_inv_nil h]; rfl
  | d :: r, xs, h => by
    obtain ⟨x, t, e, _, h2⟩ := reps_inv h
    rw [e, List.length_cons, List.length_cons, reps_len h2]
theorem reps_get : ∀ {ds : List Dat} {xs : List V} {i : Nat} {x : V}, Reps K H ds xs → xs[i]? = some x → ∃ d, ds[i]? = some d ∧ Rep K H d x
  | [], xs, i, x, h, hx => by rw [reps_inv_nil h] at hx; simp at hx
  | d :: r, xs, i, x, h, hx => by
    obtain ⟨y, t, e, h1, h2⟩ := reps_inv h
    subst e
    cases i with
    | zero =>
      obtain rfl : y = x := by simpa using hx
      exact ⟨d, rfl, h1⟩
    | succ i =>
      obtain ⟨d', e', r'⟩ := reps_get (i := i) h2 (by simpa using hx)
      exact ⟨d', by simpa using e', r'⟩
theorem reps_get' : ∀ {ds : List Dat} {xs : List V} {i : Nat} {d : Dat}, Reps K H ds xs → ds[i]? = some d → ∃ x, xs[i]? = some x ∧ Rep K H d x
  | [], xs, i, d, h, hx => by simp at hx
  | e :: r, xs, i, d, h, hx => by
    obtain ⟨y, t, e', h1, h2⟩ := reps_inv h
    subst e'
    cases i with
    | zero =>
      obtain rfl : e = d := by simpa using hx
      exact ⟨y, rfl, h1⟩
    | succ i =>
      obtain ⟨x', e2, r'⟩ := reps_get' (i := i) h2 (by simpa using hx)
      exact ⟨x', by simpa using e2, r'⟩
theorem reps_app : ∀ {ds es : List Dat} {xs ys : List V}, Reps K H ds xs → Reps K H es ys → Reps K H (ds ++ es) (xs ++ ys)
  | [], es, xs, ys, h, h' => by rw [reps_inv_nil h]; exact h'
  | d :: r, es, xs, ys, h, h' => by
    obtain ⟨x, t, e, h1, h2⟩ := reps_inv h
    subst e
    exact reps_cons h1 (reps_app h2 h')
theorem reps_take : ∀ {ds : List Dat} {xs : List V} (n : Nat), Reps K H ds xs → Reps K H (ds.take n) (xs.take n)
  | [], xs, n, h => by rw [reps_inv_nil h]; simp; exact reps_nil
  | d :: r, xs, 0, h => by simp; exact reps_nil
  | d :: r, xs, n + 1, h => by
    obtain ⟨x, t, e, h1, h2⟩ := reps_inv h
    subst e
    exact reps_cons h1 (reps_take n h2)
theorem reps_drop : ∀ {ds : List Dat} {xs : List V} (n : Nat), Reps K H ds xs → Reps K H (ds.drop n) (xs.drop n)
  | [], xs, n, h => by rw [reps_inv_nil h]; simp; exact reps_nil
  | d :: r, xs, 0, h => h
  | d :: r, xs, n + 1, h => by
    obtain ⟨x, t, e, h1, h2⟩ := reps_inv h
    subst e
    exact reps_drop n h2
theorem reps_of : ∀ {ds : List Dat} {xs : List V}, ds.length = xs.length → (∀ (i : Nat) d x, ds[i]? = some d → xs[i]? = some x → Rep K H d x) → Reps K H ds xs
  | [], [], _, _ => reps_nil
  | d :: r, x :: t, hl, h => reps_cons (h 0 d x rfl rfl) (reps_of (by simpa using hl) fun i d' x' h1 h2 => h (i + 1) d' x' (by simpa using h1) (by simpa using h2))
  | [], _ :: _, hl, _ => by simp at hl
  | _ :: _, [], hl, _ => by simp at hl
theorem reps_snoc {ds : List Dat} {xs : List V} {d : Dat} {x : V} (h : Reps K H ds xs) (h' : Rep K H d x) : Reps K H (ds ++ [d]) (xs ++ [x]) := reps_app h (reps_cons h' reps_nil)
end
/-- the name of a datum's type -/
def Dat.ty : Dat → String
  | .non => "NoneType"
  | .bl _ => "bool"
  | .int _ => "int"
  | .str _ => "str"
  | .lst _ => "list"
  | .tup _ => "tuple"
  | .dct _ _ => "dict"
theorem sqT_ty {K : PySem.W.Frag} {H : Hp} {a : Addr} {xs : List V} (h : SqT K H a xs) : TyX K H (.ref a) (.type "tuple") := by
  rcases h with (h | ⟨o, h⟩) | ⟨o, its, n, e, c, _⟩
  · exact .base (.tup h)
  · exact .fTuple h
  · exact .kTuple e c
theorem rep_ty {K : PySem.W.Frag} {H : Hp} {d : Dat} {v : V} (h : Rep K H d v) : TyX K H v (.type d.ty) := by
  cases d with
  | non => unfold Rep at h; subst h; exact .base .non
  | bl b => unfold Rep at h; subst h; exact .base (.bl b)
  | int i => unfold Rep at h; subst h; exact .base (.int i)
  | str s => unfold Rep at h; obtain ⟨rfl, _⟩ := h; exact .base (.str s)
  | lst ds => unfold Rep at h; obtain ⟨a, xs, rfl, h, _⟩ := h; exact .base (.lst h)
  | tup ds => unfold Rep at h; obtain ⟨a, xs, rfl, h, _⟩ := h; exact sqT_ty h
  | dct ks ds => unfold Rep at h; obtain ⟨a, es, vs, rfl, h, _⟩ := h; exact .base (.dK h)
/-- isinstance by types' names -/
def isiB (a b : String) : Bool := a == b || (a == "bool" && b == "int")
theorem r_isi {K : PySem.W.Frag} {H : Hp} {Q : VK} {d : Dat} {v : V} {T : String} (h : Rep K H d v) (hT : kitB d.ty T = some (isiB d.ty T)) (q : Q (.bl (isiB d.ty T)) H) : rIsi K [v, .ty T] H Q :=
  ⟨v, .ty T, .type d.ty, .type T, _, rfl, .ty T, rep_ty h, kit_ty hT, q⟩
theorem kitB_all (d : Dat) : kitB d.ty "int" = some (isiB d.ty "int") ∧ kitB d.ty "bool" = some (isiB d.ty "bool") ∧ kitB d.ty "str" = some (isiB d.ty "str") ∧ kitB d.ty "list" = some (isiB d.ty "list") ∧ kitB d.ty "tuple" = some (isiB d.ty "tuple") ∧ kitB d.ty "dict" = some (isiB d.ty "dict") := by
  cases d <;> (simp only [Dat.ty]) <;> decide +kernel
/-- isinstance(v, (list, tuple)) -/
theorem r_isiLT {K : PySem.W.Frag} {H : Hp} {Q : VK} {d : Dat} {v : V} {p : Addr} {S T : String} (h : Rep K H d v) (hp : H p = some (.tup [.ty S, .ty T])) (hS : kitB d.ty S = some (isiB d.ty S)) (hT : kitB d.ty T = some (isiB d.ty T))
    (q : Q (.bl (isiB d.ty S || isiB d.ty T)) H) : rIsiT K [v, .ref p] H Q :=
  ⟨v, p, [.ty S, .ty T], .type d.ty, [.type S, .type T], _, rfl, hp, .cons (.ty S) (.cons (.ty T) .nil), rep_ty h, by
    refine kitAny_cons (kit_ty hS) (fun e => ?_) (fun e => by rw [e]; rfl)
    rw [e]
    refine kitAny_cons (kit_ty hT) (fun e2 => ?_) (fun e2 => by rw [e2]; rfl)
    rw [e2]
    exact kitAny_nil, q⟩
end AG
/-! AgMore: enumerate(xs, start=k), text times number, dicts of the module, several except clauses of which the first is entered, an exception's fields and class -/
namespace AG
open PySem PySem.Spec L2 PyProof.Rows
/-! ### enumerate(xs, start=k) -/
def IteS (K : PySem.W.Frag) (k0 : Int) (a : Addr) : It :=
  ⟨fun i H => ∃ (xs : List V) (x : V), SqL K H a xs ∧ xs[i]? = some x, fun i H v H' => ∃ T x, v = .ref T ∧ H T = none ∧ H' = upd H T (.tup [.int (k0 + (i : Nat)), x]) ∧ ∀ xs, SqL K H a xs → xs[i]? = some x, fun i H => ∃ xs : List V, SqL K H a xs ∧ xs.length = i⟩
theorem turn_enumS {P : Program} {w : World} {K : PySem.W.Frag} {elts : List Expr} {kk : Nat} {tpos : Pos} (k0 : Int) (a e it : Addr) :
    Turn P w K (.Tuple elts kk tpos) (IteS K k0 a) [e, it] e (fun i h => (∃ old, IsEnum h e it (k0 + (i : Nat)) old) ∧ h.IsListIter it a i ∧ e ≠ it ∧ a ≠ it ∧ e ≠ a) where
  mem := by simp
  obj := fun i h st b hb => by
    obtain ⟨⟨old, he⟩, ⟨o, ho, hc, hd⟩, _⟩ := st
    have e' : b = e ∨ b = it := by simpa using hb
    rcases e' with z | z
    · rw [z]; exact ⟨_, he, fun v q => nomatch q⟩
    · rw [z]; exact ⟨o, ho, fun v q => by rw [hd] at q; cases q⟩
  keep := fun i h h' st k => let ⟨⟨old, he⟩, hi, hne⟩ := st; ⟨⟨old, k e (by simp) _ he⟩, hi.at fun o q => k it (by simp) o q, hne⟩
  item := by
    intro X hP hw hK hc i pins s σ H E I hf st hg
    subst hP hw hK
    obtain ⟨⟨old, he⟩, hit, hne, hai, hea⟩ := st
    obtain ⟨xs, x, hq, hx⟩ := hg
    obtain ⟨its, rv, p, hz⟩ := I.list hq
    obtain ⟨u, hu, ru⟩ := rv.get hx
    have hel : e < s.heap.objs.size := Heap.lt_size he
    have hil : it < s.heap.objs.size := by obtain ⟨_, q, _⟩ := hit; exact Heap.lt_size q
    have hlt : i < its.toArray.size := by
      have h1 : i < xs.length := by
        by_cases h : i < xs.length
        · exact h
        · rw [List.getElem?_eq_none (by omega)] at hx
          cases hx
      rw [List.size_toArray, ← rv.length]
      exact h1
    refine wpAny_pyNext_enum_itemC (Draws.list (prog := X.prog) (w := X.w) (A := X.A.in1) (by exact I.ok.hd hc) it a hai its.toArray) he ⟨hit, p.isList⟩ hlt hne (by
      intro hm
      rcases List.mem_cons.mp hm with z | z
      · exact hne z
      · rcases List.mem_cons.mp z with z | z
        · exact hea z
        · cases z) fun y h' tk hy ho hst hT hsz hk => ?_
    have ey : y = u := by
      have hy' : its.toArray[i]? = some y := hy
      rw [List.getElem?_toArray] at hy'
      rw [hu] at hy'
      exact (Option.some.inj hy').symm
    subst ey
    obtain ⟨hit', _⟩ := hst
    refine ⟨_, rfl, wpAny_letOwnedTupleGo_enum (s := { s with heap := h', toks := tk + 1 }) ho fun h'' he' sb => ?_⟩
    have hT2 : h''.get? s.heap.objs.size = some { cls := .type "tuple", data := .seq #[.int (k0 + (i : Nat)) tk, y] } := (sb.2 _ (Nat.ne_of_gt hel)).trans hT
    have new : ObjOk X.prog X.w (upd H s.heap.objs.size (.tup [.int (k0 + (i : Nat)), x])) h'' s.heap.objs.size (.tup [.int (k0 + (i : Nat)), x]) :=
      ⟨by show 2 ≤ sizeLine; decide, [.int (k0 + (i : Nat)) tk, y], .cons ⟨_, rfl⟩ (.cons ru .nil), ⟨_, hT2, rfl, _, rfl⟩⟩
    have I1 : Inv X pins σ (upd H s.heap.objs.size (.tup [.int (k0 + (i : Nat)), x])) { s with heap := h'', toks := tk + 1 } :=
      I.turnedNew (ch := [e, it]) (fun b ob hb q => (sb.2 b (fun z => hb (by simp [z]))).trans (hk b ob (fun z => hb (by simp [z])) (fun z => hb (by simp [z])) q)) hf (Nat.le_refl _) new
    refine ⟨.ref s.heap.objs.size, _, I1, rfl, ⟨_, x, rfl, I.hok.fresh (Nat.le_refl _), rfl, fun ys hy => by rw [I.list_inj hy hq]; exact hx⟩, ⟨⟨y, ?_⟩, hit'.at fun o q => (sb.2 it (Ne.symm hne)).trans q, hne, hai, hea⟩, fun b hb => ?_⟩
    · have e1 : k0 + ((i + 1 : Nat) : Int) = k0 + (i : Int) + 1 := by omega
      rw [e1]; exact he'
    · have hb' : b < s.heap.objs.size := by
        have e' : b = e ∨ b = it := by simpa using hb
        rcases e' with z | z
        · rw [z]; exact hel
        · rw [z]; exact hil
      rw [upd_ne (Nat.ne_of_lt hb')]
      exact (hf b hb).1
  done := by
    intro X hP hw hK hc i pins s σ H E I hf st hg
    subst hP hw hK
    obtain ⟨⟨old, he⟩, hit, hne, hai, hea⟩ := st
    obtain ⟨xs, hq, hx⟩ := hg
    obtain ⟨its, rv, p, hz⟩ := I.list hq
    obtain ⟨f0, f1, f2, f3, f4, f5⟩ := hf it (by simp)
    have hl := rv.length
    refine wpAny_pyNext_enum_endD (Draws.list (prog := X.prog) (w := X.w) (A := X.A.in1) (by exact I.ok.hd hc) it a hai its.toArray) he ⟨by rw [List.size_toArray, ← hl, hx]; exact hit, p.isList⟩ fun h' eb => ⟨rfl, I.turned (t' := s.toks) (fun b o hb q => eb b o hb q) f0 f1 f3 f4 f5⟩
  self := fun A i s Q E st h => let ⟨⟨_, he⟩, _⟩ := st; wpAny_pyIter_enum he h
def iEnumS (K : PySem.W.Frag) (k0 : Int) (ta : TA) : TI := fun σ H R => ta σ H fun vs H1 => ∃ a xs, vs = [.ref a] ∧ SqL K H1 a xs ∧ R (IteS K k0 a) H1
section
variable {M : Model} {A : Around} {E : Value → Shared → Prop} {s : Shared} {env : Env}
theorem callWith_typeKw {pos : Pos} {T : String} {e : Expr} {kws : List Keyword} {Q : Value → Shared → Prop}
    (h : wpAny M A (spliced (backTo pos (starEach [e] env))) (fun vs s₁ => wpAny M A (evalAll ((backToKw pos (keywordEach kws env)).map (·.2)))
      (fun kvs s₂ => wpAny M A (call (.type T) vs (((backToKw pos (keywordEach kws env)).filterMap (·.1)).zip kvs)) Q E s₂) E s₁) E s)
    (he : backTo pos (starEach [e] env) = [(false, eval e env)])
    (hall : (backToKw pos (keywordEach kws env)).all (·.1.isSome) = true)
    (hkw : (backToKw pos (keywordEach kws env)).any (·.1.isNone) = false) :
    wpAny M A (callWith pos (.type T) [] (backTo pos (starEach [e] env)) (backToKw pos (keywordEach kws env))) Q E s := by
  unfold callWith
  have h' : wpAny M A (evalArgs (.type T) true (backTo pos (starEach [e] env)) (backToKw pos (keywordEach kws env))) (fun a s₁ => wpAny M A (call (.type T) ([] ++ a.pos) a.kw) Q E s₁) E s := by
    rw [he] at h ⊢
    exact evalArgs_kwB hall h
  refine wpAny_bind (wpAny_holding (wpAny_mono h' (fun a s₁ h₁ => wpAny_bind (wpAny_standAt ?_)) fun _ _ x => x))
  have hp : (backTo pos (starEach [e] env)).any (·.1) = false := by rw [he]; rfl
  simp only [hp, hkw, Bool.or_false]
  refine wpAny_bind (wpAny_pure ?_)
  exact wpAny_bind (wpAny_mono h₁ (fun r s₂ hr => wpAny_bind (wpAny_holding (wpAny_point (wpAny_pure hr)))) fun _ _ x => x)
end
theorem pi_enumS {X : Cx} {e : Expr} {k0 : Int} {ta : TA} {p pos tpos cpos kp : Pos} {elts : List Expr} {kk ck : Nat} (hg : Gl X "enumerate") (hm : X.mg "enumerate" = none) (ha : PA X [e] ta) (h1 : -(2 ^ 62) ≤ k0 ∧ k0 < 2 ^ 62)
    (hk : PE X (.Constant (.int k0) ck cpos) (tC (.int k0))) (he : backTo pos (starEach [e] X.env) = [(false, eval e X.env)] := by rfl) :
    PI X (.Tuple elts kk tpos) (.Call (.Name "enumerate" p) [e] [⟨some "start", .Constant (.int k0) ck cpos, kp⟩] pos) (iEnumS X.K k0 ta) := by
  refine ⟨fun pins s σ H R I h => ?_⟩
  refine wpAny_Call_Name_kw (ld_blt I hg hm boot_enumerate (callWith_typeKw (thn (ha.run pos pins s σ H _ I h) fun us s1 ⟨vs, H1, I1, r1, q1⟩ => ?_) he rfl rfl))
  obtain ⟨a, xs, ex, hq, q⟩ := q1
  subst ex
  cases r1 with
  | cons r rr =>
    cases rr
    cases r
    refine kws_cons (thn (hk.run pins s1 σ H1 (fun y H' => y = .int k0 ∧ H' = H1) I1 ⟨rfl, rfl⟩) fun u s2 ⟨y, H2, I2, ry, ey, eH⟩ => kws_nil ?_)
    subst ey
    subst eH
    obtain ⟨t, rfl⟩ := ry
    obtain ⟨its, rv, p', hz⟩ := I2.list hq
    have hal : a < s2.heap.objs.size := by obtain ⟨_, q, _⟩ := p'.isList; exact Heap.lt_size q
    show wpAny _ _ (call (.type "enumerate") [.ref a] [(Str.ofString "start", .int k0 t)]) _ _ _
    refine enum_begins_start (begins_list a its.toArray) p'.isList (by omega) (by omega) fun h' he hit hsz hk => wpAny_pyIter_enum he ?_
    have I3 : L2.Inv X pins σ H2 { s2 with heap := h' } := I2.kept (t' := s2.toks) hk
    refine ⟨s2.heap.objs.size + 1, [s2.heap.objs.size + 1, s2.heap.objs.size], _, _, H2, rfl, I3, turn_enumS k0 a (s2.heap.objs.size + 1) s2.heap.objs.size, ⟨⟨.none, by simpa using he⟩, ⟨_, hit, rfl, rfl⟩, Nat.succ_ne_self _, Nat.ne_of_lt hal, fun z => Nat.ne_of_lt (Nat.lt_succ_of_lt hal) z.symm⟩, fun b hb => ?_, q⟩
    have e' : b = s2.heap.objs.size + 1 ∨ b = s2.heap.objs.size := by simpa using hb
    have hle : s2.heap.objs.size ≤ b := by
      rcases e' with z | z
      · rw [z]; exact Nat.le_add_right _ _
      · rw [z]; exact Nat.le_refl _
    exact I2.fpOk hle (I2.hok.fresh hle)
theorem walk_enumS {K : PySem.W.Frag} {k0 : Int} {a : Addr} {xs : List V} : Walk (IteS K k0 a) xs.length (fun H => SqL K H a xs) (YPair (fun i => some (.int (k0 + (i : Nat)))) (fun i => xs[i]?)) := by
  refine ⟨fun i _ hi q => ⟨xs, xs[i], q, by simp [hi]⟩, fun _ q => ⟨xs, q, rfl⟩, fun i H v H' _ q y => ?_⟩
  obtain ⟨T, x, h1, h2, h3, h4⟩ := y
  exact ⟨T, .int (k0 + (i : Nat)), x, h1, h2, h3, rfl, h4 xs q⟩
section
variable {K : PySem.W.Frag} {g : TG} {tb : TS} {σ : L2.St} {H : Hp} {ta : TA} {nx bk ct : L2.St → Hp → Prop} {rt : VK}
theorem s_for_enum {D : Ends} {k0 : Int} (h : ta σ H fun vs H1 => ∃ a xs, vs = [.ref a] ∧ SqL K H1 a xs ∧ ForB (IteS K k0 a) g tb D σ H1) : tFor (iEnumS K k0 ta) g tb D σ H := h
theorem forB_enum {k0 : Int} {a : Addr} {xs : List V} (hx : SqL K H a xs) (Pv : Nat → L2.St → Hp → Prop) (h0 : Pv 0 σ H) (hl : ∀ i σ H, i ≤ xs.length → Pv i σ H → SqL K H a xs)
    (hs : ∀ (i : Nat) x T σ H, xs[i]? = some x → H T = none → Pv i σ H → g (.ref T) σ (upd H T (.tup [.int (k0 + (i : Nat)), x])) fun σ2 H2 => tb ⟨Pv (i + 1), rt, nx, Pv (i + 1)⟩ σ2 H2) (hd : ∀ σ H, Pv xs.length σ H → nx σ H) :
    ∃ a' xs, [V.ref a] = [.ref a'] ∧ SqL K H a' xs ∧ ForB (IteS K k0 a') g tb ⟨nx, rt, bk, ct⟩ σ H :=
  ⟨a, xs, rfl, hx, for_it walk_enumS Pv h0 hl (fun i x σ H H' hi p y => by
    obtain ⟨T, x', z, rfl, hT, rfl, h1, h2⟩ := y
    obtain rfl := Option.some.inj h1
    exact hs i z T σ H h2 hT p) hd⟩
end

/-! ### text times number -/
def rMulStr : R2 := fun x y H Q => ∃ (z : Str) (n : Int), x = .str z ∧ y = .int n ∧ 2 ≤ n ∧ n ≤ 1000 ∧ 0 < z.length ∧ z.length ≤ 1000 ∧ Q (.str ⟨(List.replicate n.toNat z.cps).foldl (· ++ ·) #[]⟩) H
theorem op_mulStr {X : Cx} : OpR X (binaryOp .Mult) rMulStr := by
  intro pins s σ H x y v u Q I rx ry h
  obtain ⟨z, n, rfl, rfl, h1, h2, h3, h4, q⟩ := h
  obtain ⟨t, rfl⟩ := rx
  obtain ⟨t2, rfl⟩ := ry
  have hn1 : (n == 1 || z.length == 0) = false := by
    have e1 : (n == 1) = false := by simp; omega
    have e2 : (z.length == 0) = false := by simp; omega
    rw [e1, e2]; rfl
  have hlen : z.length * n.toNat ≤ 1000000 := by
    have : z.length * n.toNat ≤ 1000 * 1000 := Nat.mul_le_mul h4 (by omega)
    omega
  have tl : ∀ m : Nat, m ≤ 1000000 → Builtin.Str.tooLong m = false := fun m hm => by
    unfold Builtin.Str.tooLong
    simp
    have : (sizeLine : Nat) ≥ 1000000 := by decide
    omega
  refine P.mul_str (by
      have a1 : ¬ n < -(2 ^ 63 : Int) := by omega
      have a2 : ¬ n ≥ 2 ^ 63 := by omega
      rw [decide_eq_false a1, decide_eq_false a2]; rfl) (fun _ _ => by
      have : (1000 : Int) ≤ (2 ^ 63 - 1) / n := by
        rw [Int.le_ediv_iff_mul_le (by omega)]
        omega
      omega) (fun _ _ => tl _ hlen) ?_
  rw [if_neg (by omega), if_neg (by rw [hn1]; exact Bool.false_ne_true)]
  have hsz : (⟨(List.replicate n.toNat z.cps).foldl (· ++ ·) #[]⟩ : Str).length = z.length * n.toNat := by
    have key : ∀ (m : Nat) (acc : Array Nat), ((List.replicate m z.cps).foldl (· ++ ·) acc).size = acc.size + m * z.cps.size := by
      intro m
      induction m with
      | zero => intro acc; simp
      | succ m ih =>
        intro acc
        rw [List.replicate_succ, List.foldl_cons, ih, Array.size_append, Nat.succ_mul]
        omega
    show ((List.replicate n.toNat z.cps).foldl (· ++ ·) #[]).size = _
    rw [key]
    simp
    exact Nat.mul_comm _ _
  refine ⟨by rw [hsz]; exact sz_of hlen, ⟨.str _, H, I.tok _, ⟨_, rfl⟩, q⟩⟩
theorem r_mul_str {z : Str} {n : Int} {H : Hp} {Q : VK} (h1 : 2 ≤ n) (h2 : n ≤ 1000) (h3 : 0 < z.length) (h4 : z.length ≤ 1000) (q : Q (.str ⟨(List.replicate n.toNat z.cps).foldl (· ++ ·) #[]⟩) H) : rMulStr (.str z) (.int n) H Q := ⟨z, n, rfl, rfl, h1, h2, h3, h4, q⟩

/-! ### dicts of the module -/
/-- at d stands the dict that f tells -/
structure KD (w : World) (K : PySem.W.Frag) (d : Addr) (f : Str → Option V) : Prop where
  ex : ∃ es n, KDict K w d es n
  at_ : ∀ x, match f x with | none => PySem.W.nsIn K d x = some none | some v => ∃ u, PySem.W.nsIn K d x = some (some u) ∧ RelV v u
def rKdI (d : Addr) (f : Str → Option V) : R2 := fun x y H Q => ∃ z : Str, x = .str z ∧ y = .ref d ∧ Q (.bl (f z).isSome) H
def rKdN (d : Addr) (f : Str → Option V) : R2 := fun x y H Q => ∃ z : Str, x = .str z ∧ y = .ref d ∧ Q (.bl (!(f z).isSome)) H
def rKdG (d : Addr) (f : Str → Option V) : R2 := fun x y H Q => ∃ (z : Str) (v : V), x = .ref d ∧ y = .str z ∧ f z = some v ∧ Q v H
section
variable {X : Cx} {d : Addr} {f : Str → Option V}
theorem kd_ns {w : World} {K : PySem.W.Frag} (D : KD w K d f) (x : Str) : ∃ r : Option Value, PySem.W.nsIn K d x = some r ∧ r.isSome = (f x).isSome := by
  have h := D.at_ x
  cases e : f x with
  | none =>
    rw [e] at h
    exact ⟨none, h, rfl⟩
  | some v =>
    rw [e] at h
    obtain ⟨u, h, _⟩ := h
    exact ⟨some u, h, rfl⟩
theorem op_kdI (D : KD X.w X.K d f) : OpR X (compareOp .In) (rKdI d f) := by
  intro pins s σ H x y v u Q I rx ry h
  obtain ⟨z, rfl, rfl, q⟩ := h
  obtain ⟨es, n, D0⟩ := D.ex
  obtain ⟨r, h1, h2⟩ := kd_ns D z
  exact op_in_kd D0 pins s σ H _ _ v u Q I rx ry ⟨z, r, rfl, rfl, h1, by rw [h2]; exact q⟩
theorem op_kdN (D : KD X.w X.K d f) : OpR X (compareOp .NotIn) (rKdN d f) := by
  intro pins s σ H x y v u Q I rx ry h
  obtain ⟨z, rfl, rfl, q⟩ := h
  obtain ⟨es, n, D0⟩ := D.ex
  obtain ⟨r, h1, h2⟩ := kd_ns D z
  exact op_notIn_kd D0 pins s σ H _ _ v u Q I rx ry ⟨z, r, rfl, rfl, h1, by rw [h2]; exact q⟩
theorem ix_kd (D : KD X.w X.K d f) : IxR X (rKdG d f) := by
  intro value slice pins s σ H x y v u Q I rx ry h hs
  obtain ⟨z, v0, rfl, rfl, e, q⟩ := h
  obtain ⟨es, n, D0⟩ := D.ex
  have h := D.at_ z
  rw [e] at h
  obtain ⟨u0, h1, r⟩ := h
  exact ix_kdict value slice pins s σ H _ _ v u Q I rx ry ⟨d, z, v0, rfl, rfl, ⟨es, n, u0, D0.at_, D0.lit, h1, r⟩, q⟩ hs
end
theorem r_kdI {d : Addr} {f : Str → Option V} {z : Str} {H : Hp} {Q : VK} (q : Q (.bl (f z).isSome) H) : rKdI d f (.str z) (.ref d) H Q := ⟨z, rfl, rfl, q⟩
theorem r_kdN {d : Addr} {f : Str → Option V} {z : Str} {H : Hp} {Q : VK} (q : Q (.bl (!(f z).isSome)) H) : rKdN d f (.str z) (.ref d) H Q := ⟨z, rfl, rfl, q⟩
theorem r_kdG {d : Addr} {f : Str → Option V} {z : Str} {v : V} {H : Hp} {Q : VK} (e : f z = some v) (q : Q v H) : rKdG d f (.ref d) (.str z) H Q := ⟨z, v, rfl, rfl, e, q⟩

/-! ### a caught exception with a dict of its own -/
structure ExF (K : PySem.W.Frag) (D : Addr) : Prop where
  cl : (PySem.W.clsIn K D).isSome = true
  hg : PySem.W.findIn K (.ref D) "__getattribute__" = some (some (.builtin "BaseException.__getattribute__"))
  hk : PySem.W.findIn K (.ref D) "__getattr__" = some none
  hs : PySem.W.subIn K (.ref D) (.type "BaseException") = some true
  ha : PySem.W.findIn K (.ref D) "__class__" = some (some (.builtin "object.__class__"))
  hn : PySem.W.specialIn K (.builtin "object.__class__") "__get__" = some (some (.builtin "getset_descriptor.__get__"))
  ht : PySem.W.takesIn K (.builtin "object.__class__") = some true
  hm : PySem.W.mroIn K D (.type "object") = some true
/-- isinstance(e, c), e the exception that the suite holds; its dict at dd -/
def rIsX (K : PySem.W.Frag) (D : Addr) (a : Addr) (cls : Value) (d : Option Addr) : List V → Hp → VK → Prop := fun xs H Q => ∃ (c : V) (cv : Value) (b : Bool) (dd : Addr) (fs : List (Str × V)), xs = [.ref a, c] ∧ cls = .ref D ∧ d = some dd ∧ H dd = some (.xd fs) ∧ (∀ u, RelV c u → u = cv) ∧ PySem.W.kitOne K (.ref D) cv = some b ∧ Q (.bl b) H
theorem call_isX {X : Cx} {a D : Addr} {oe : Obj} {cls : Value} {d : Option Addr} {pn : List (Addr × Obj)} (C : ExF X.K D) (hz : Zc cls d oe) (hf : ∃ vs, oe.data = .fields vs) : CallR (X.suite a ((a, oe) :: pn)) (.builtin "isinstance") (rIsX X.K D a cls d) := by
  intro pins s σ H xs us Q I r h
  obtain ⟨c, cv, b, dd, fs, rfl, ec, ed, hdd, hcv, e, q⟩ := h
  subst ec
  subst ed
  cases r with
  | cons rx rr =>
    cases rr with
    | cons rt rr =>
      cases rr
      cases rx
      have ec := hcv _ rt
      subst ec
      obtain ⟨hget, _⟩ := I.pin (a, oe) (List.mem_append.mpr (.inl List.mem_cons_self))
      obtain ⟨vs, hv⟩ := hf
      have hx : ObjOk X.prog X.w H s.heap dd (.xd fs) := I.hok dd _ hdd
      obtain ⟨mA, hns, _⟩ := hx
      obtain ⟨od, ho, _⟩ := lookIn_ns hns
      have J : PySem.W.InstAt s.heap a oe D (some od) := ⟨hget, hz.1, by unfold PySem.W.notCls; rw [hv] <;> rfl, by rw [hz.2]; exact ho⟩
      exact PySem.W.kia_one (PySem.W.kitx_exc C.cl C.hg C.hk C.hs C.ha C.hn C.ht C.hm) I.kIn J e (fun z => nomatch z) fun tk => ⟨.bl b, H, I.kept (t' := tk) fun _ _ z => z, rfl, q⟩
theorem r_isX {K : PySem.W.Frag} {D E a dd : Addr} {fs : List (Str × V)} {b : Bool} {H : Hp} {Q : VK} (h : H dd = some (.xd fs)) (e : PySem.W.kitOne K (.ref D) (.ref E) = some b) (q : Q (.bl b) H) : rIsX K D a (.ref D) (some dd) [.ref a, .ref E] H Q :=
  ⟨.ref E, .ref E, b, dd, fs, rfl, rfl, rfl, h, fun u r => r, e, q⟩
theorem s_xf {K : PySem.W.Frag} {a C dd : Addr} {f : Str} {te : TE} {σ : L2.St} {H : Hp} {Q : VK} (h : te σ H fun x H1 => x = .ref a ∧ ∃ (fs : List (Str × V)) (v : V), H1 dd = some (.xd fs) ∧ fs.lookup f = some v ∧ Q v H1) : tXf a (.ref C) (some dd) C f te σ H Q := by
  have key : (fun (x : V) (H1 : Hp) => x = .ref a ∧ ∃ (fs : List (Str × V)) (v : V), H1 dd = some (.xd fs) ∧ fs.lookup f = some v ∧ Q v H1) = fun (x : V) (H1 : Hp) => x = .ref a ∧ (Value.ref C) = .ref C ∧ ∃ (dd' : Addr) (fs : List (Str × V)) (v : V), some dd = some dd' ∧ H1 dd' = some (.xd fs) ∧ fs.lookup f = some v ∧ Q v H1 := by
    funext x H1
    apply propext
    constructor
    · rintro ⟨e, fs, v, h1, h2, h3⟩
      exact ⟨e, rfl, dd, fs, v, rfl, h1, h2, h3⟩
    · rintro ⟨e, _, d2, fs, v, e2, h1, h2, h3⟩
      obtain rfl := Option.some.inj e2
      exact ⟨e, fs, v, h1, h2, h3⟩
  unfold tXf
  rw [← key]
  exact h

/-! ### several except clauses, the first of which is entered, with a name -/
def wAs1 (K : PySem.W.Frag) (c : Value) (i : Nat) (ts : Addr → Value → Option Addr → TS) (D : Ends) : WX := fun cls d σ H =>
  PySem.W.exmOne K cls c = some true ∧ ∀ a, H a = none → ts a cls d { nx := fun σ' H' => D.nx (σ'.set i none) H', rt := D.rt, bk := fun σ' H' => D.bk (σ'.set i none) H', ct := fun σ' H' => D.ct (σ'.set i none) H' } (σ.set i (some (.ref a))) H
section
variable {X : Cx} {x n : Str} {c : Value} {i : Nat} {body suite : List Stmt} {b₀ : Stmt} {np pos pos' : Pos} {tb : WX → TS} {ts : Addr → Value → Option Addr → TS} {more : List ExceptHandler}
theorem ps_try_as1 (hs : X.stack = X.env :: X.outer) (hf : X.env.frame = some X.env.locals) (hN : X.N.Nodup) (hi : X.N[i]? = some n) (hln : X.env.kindOf n = some .local) (hc : Names X x c)
    (hb : ∀ (W : WX) (pn : List (Addr × Obj)) (xe : Value → Shared → Prop), Takes (X.tr pn xe) W → PassesOwn (model X.prog X.w) X.A X.env xe → PSs (X.tr pn xe) body (tb W))
    (hsu : ∀ (a : Addr) (oe : Obj) (cls : Value) (d : Option Addr) (pn : List (Addr × Obj)), Zc cls d oe → (∃ vs, oe.data = .fields vs) → PSs (X.suite a ((a, oe) :: pn)) (b₀ :: suite) (ts a cls d)) :
    PS X (.Try body (.ExceptHandler (some (.Name x np)) (some n) (b₀ :: suite) pos' :: more) [] [] pos) (fun D σ H => tb (wAs1 X.K c i ts D) D σ H) := by
  refine ⟨fun pins s σ H D I h => ?_⟩
  have ok := I.ok
  have hfr : X.A.frames = some (X.env :: X.outer) := by rw [ok.frames, hs]
  have hloc : Loc X.env.scope n := .inl hln
  refine wpAny_Try_except ?_
  refine wpAny_mono ((hb (wAs1 X.K c i ts D) (X.pn ++ pins) (fun e s₁ => wpAny (model X.prog X.w) X.A (noteFrame e X.env) (fun _ s₂ => wpAny (model X.prog X.w) X.A (setFlight e none) (fun _ s₃ =>
    wpAny (model X.prog X.w) X.A (handleBy e X.env (.ExceptHandler (some (.Name x np)) (some n) (b₀ :: suite) pos' :: more)) (SP X pins D) X.xe s₃) X.xe s₂) X.xe s₁) (fun u s' xx => ?_) PassesOwn.looking).run [] s σ H D (I.toTry _) h) (fun f s1 hsp => ?_) (fun e s1 he => he)
  · -- the catch
    obtain ⟨a, B, sI, pins', σ', H', cls, d, rfl, J', nb, up, sky, na, os, ag, hb1, hyes⟩ := xx
    have J : Inv X pins σ' H' sI := J'.ofTry ok
    have sky' : Sky B (X.env :: X.outer) a (Zc cls d) X.env.locals s'.heap := by rw [← hs]; exact sky
    show wpAny (model X.prog X.w) X.A (noteFrame (.ref a) X.env) _ _ _
    refine Sky.land Zc.steady hfr hf sky' fun h3 fl3 up3 => ?_
    have J3 : Inv X pins σ' H' { s' with heap := h3 } := J.landed nb fl3.1 (up.trans up3) os ag
    obtain ⟨oe3, vs3, he3, hz3, hd3⟩ := fl3.there
    have notFr : ∀ {h : Heap} {o : Obj} {vs : Array Value}, h.FunFrames B (X.env :: X.outer) → h.get? a = some o → o.data = .fields vs → a ∉ frs (X.env :: X.outer) := fun {h o vs} ff e dd hm => by
      obtain ⟨_, o', e', hnf⟩ := ff.mem hm
      rw [e] at e'; cases e'
      exact hnf _ dd
    have nfr := notFr fl3.2.2.1 he3 hd3
    have nL : a ≠ X.env.locals := fun z => nfr (List.mem_filterMap.mpr ⟨X.env, List.mem_cons_self, by rw [hf, z]⟩)
    have nF : a ∉ X.fs := fun hm => by
      obtain ⟨e, he, q⟩ := List.mem_filterMap.mp hm
      exact nfr (List.mem_filterMap.mpr ⟨e, List.mem_cons_of_mem _ he, q⟩)
    have S3 := J3.suite he3 hd3 na nL nF
    refine wpAny_handleBy_cons (codeAny_handlers_test ?_) (by intro q; cases q)
    have LT : PySem.W.Looks (model X.prog X.w) h3 (typeOf (.ref a)) cls := fun A Q E s k q => wpAny_typeOf_ref (k _ _ he3) (by rw [hz3.1]; exact q)
    have LM := PySem.W.exm_one (M := model X.prog X.w) (J3.kIn) LT hb1
    have test : ∀ {Q : Value → Shared → Prop} {E : Value → Shared → Prop}, Q c { s' with heap := h3 } → wpAny (model X.prog X.w) (X.A.mark (some (.ref a))) (eval (.Name x np) X.env) Q E { s' with heap := h3 } := fun {Q E} q => by
      obtain ⟨hg, hdbg, hm | ⟨hm, hv, hnn⟩⟩ := hc
      · exact ld_glob (X := X.suite a ((a, oe3) :: (X.pn ++ pins))) S3 hg hm q hdbg
      · exact ld_blt (X := X.suite a ((a, oe3) :: (X.pn ++ pins))) S3 hg hm hv q hnn hdbg
    refine test (LM.here ?_)
    refine codeAny_handlers_suite_as ?_
    refine HandSPX.lands_againZ fl3 fun h4 fl4 up4 => ?_
    have J4 : Inv X pins σ' H' { s' with heap := h4 } := J.landed nb fl4.1 ((up.trans up3).trans up4) os ag
    obtain ⟨oe4, vs4, he4, hz4, hd4⟩ := fl4.there
    have S4 := J4.suite he4 hd4 na nL nF
    refine store_ok (X := X.suite a ((a, oe4) :: (X.pn ++ pins))) (v := .ref a) S4 hN hi hloc rfl (fun s5 S5 => ?_) (.inr hln)
    refine wpAny_mono ((hsu a oe4 cls d (X.pn ++ pins) hz4 ⟨_, hd4⟩).run [] s5 _ H' _ S5 (hyes a na)) (fun f s6 hsp => ?_) (fun _ _ z => False.elim z)
    have end_ : ∀ {σ6 : L2.St} {H6 : Hp} {Q : Shared → Prop}, L2.Inv (X.suite a ((a, oe4) :: (X.pn ++ pins))) [] σ6 H6 s6 → (∀ s7, L2.Inv X pins (σ6.set i none) H6 s7 → Q s7) →
        wpAny (model X.prog X.w) X.A (do bindName X.env n .none; unbindBehindTheSuite X.env n pos') (fun _ s7 => Q s7) X.xe s6 := fun {σ6 H6 Q} S6 hq => gone_ok (S6.unsuite ok) hN hi hln hq
    cases f with
    | next =>
      obtain ⟨σ6, H6, S6, q6⟩ := hsp
      exact end_ S6 fun s7 J7 => ⟨_, _, J7, q6⟩
    | brk =>
      obtain ⟨σ6, H6, S6, q6⟩ := hsp
      exact end_ S6 fun s7 J7 => ⟨_, _, J7, q6⟩
    | cont =>
      obtain ⟨σ6, H6, S6, q6⟩ := hsp
      exact end_ S6 fun s7 J7 => ⟨_, _, J7, q6⟩
    | ret u =>
      obtain ⟨v6, σ6, H6, S6, r6, q6⟩ := hsp
      exact end_ S6 fun s7 J7 => ⟨_, _, _, J7, r6, q6⟩
  · cases f with
    | next =>
      obtain ⟨σ', H', J', q⟩ := hsp
      exact wpAny_execs_nil ⟨σ', H', J'.ofTry ok, q⟩
    | brk =>
      obtain ⟨σ', H', J', q⟩ := hsp
      exact ⟨σ', H', J'.ofTry ok, q⟩
    | cont =>
      obtain ⟨σ', H', J', q⟩ := hsp
      exact ⟨σ', H', J'.ofTry ok, q⟩
    | ret u =>
      obtain ⟨v, σ', H', J', r, q⟩ := hsp
      exact ⟨v, σ', H', J'.ofTry ok, r, q⟩
end
end AG
/-! AgMir: what the written part computes, in plain Lean -/
namespace AG
open PySem PySem.Spec L2
def formsL : List (Str × List Str) := [("take", ["user", "name", "size", "align"]), ("resize", ["user", "name", "size"]), ("free", ["user", "name"]), ("pass", ["user", "name", "taker"]), ("put", ["user", "name", "offset", "word"]), ("get", ["user", "name", "offset"]),
  ("map", ["user", "name", "count"]), ("unmap", ["user", "name"]), ("share", ["user", "name", "taker"]), ("protect", ["user", "name", "rights"]), ("store", ["user", "name", "offset", "word"]), ("load", ["user", "name", "offset"]), ("out", ["user", "name"]), ("tick", []), ("settle", [])]
def rangesL : List (Str × Int × Int) := [("user", 1, 8), ("taker", 1, 8), ("size", 1, 999999999), ("align", 1, 536870912), ("offset", 0, 999999999), ("word", 0, 65535), ("count", 1, 32), ("rights", 0, 2)]
def titlesL : List Str := ["take", "resize", "free", "pass", "put", "get", "map", "unmap", "share", "protect", "store", "load", "out", "tick", "settle"]
def midOf (t : Str) : List Str :=
  if t = "take" ∨ t = "resize" then ["size"] else if t = "pass" ∨ t = "share" then ["taker"] else if t = "put" ∨ t = "store" then ["offset", "word"] else if t = "get" ∨ t = "load" then ["offset"] else if t = "map" then ["count"] else if t = "protect" then ["rights"] else []
def rng (r : Str) : Int × Int := (rangesL.lookup r).getD (0, 0)
def boundsOf (t : Str) : List (Int × Int) :=
  if t = "take" ∨ t = "resize" then [(1, 999999999)] else if t = "pass" ∨ t = "share" then [(1, 8)] else if t = "put" ∨ t = "store" then [(0, 999999999), (0, 65535)] else if t = "get" ∨ t = "load" then [(0, 999999999)] else if t = "map" then [(1, 32)] else if t = "protect" then [(0, 2)] else []
def rolesOf (t : Str) : List Str := if t = "tick" ∨ t = "settle" then [] else (["user", "name"] : List Str) ++ midOf t ++ (if t = "take" then (["align"] : List Str) else [])
theorem titles_roles : ∀ t ∈ titlesL, formsL.lookup t = some (rolesOf t) ∧ boundsOf t = (midOf t).map rng ∧ formsL.lookup (t ++ "s") = none ∧ (rolesOf t).length ≤ 4 ∧ t.length ≤ 7 ∧ (∀ c ∈ t.cps.toList, 97 ≤ c ∧ c ≤ 122) := by decide +kernel
theorem titles_mem {t : Str} {rs : List Str} (h : formsL.lookup t = some rs) : t ∈ titlesL := by
  by_cases z : t ∈ titlesL
  · exact z
  · exfalso
    have k : ∀ {l : List (Str × List Str)}, l.lookup t = some rs → t ∈ l.map (·.1) := by
      intro l
      induction l with
      | nil => intro h; cases h
      | cons p l ih =>
        intro h
        rw [List.lookup_cons] at h
        by_cases e : t = p.1
        · rw [e]; exact List.mem_cons_self
        · have e' : (t == p.1) = false := by simpa using e
          rw [e'] at h
          exact List.mem_cons_of_mem _ (ih h)
    exact z (k h)
theorem roles_known : ∀ t ∈ titlesL, ∀ r ∈ rolesOf t, r = "name" ∨ (rangesL.lookup r).isSome = true := by decide +kernel
theorem rng_small : ∀ p ∈ rangesL, 0 ≤ p.2.1 ∧ p.2.1 ≤ p.2.2 ∧ p.2.2 ≤ 999999999 := by decide +kernel
theorem lookup_mem {α : Type} {x : Str} {v : α} : ∀ {l : List (Str × α)}, l.lookup x = some v → (x, v) ∈ l := by
  intro l
  induction l with
  | nil => intro h; cases h
  | cons p l ih =>
    intro h
    rw [List.lookup_cons] at h
    by_cases e : x = p.1
    · have e' : (x == p.1) = true := by simpa using e
      rw [e'] at h
      have := Option.some.inj h
      rw [e, ← this]
      exact List.mem_cons_self
    · have e' : (x == p.1) = false := by simpa using e
      rw [e'] at h
      exact List.mem_cons_of_mem _ (ih h)

/-! ### judges -/
def wholeB : Dat → Bool
  | .int _ => true
  | _ => false
def powI (i : Int) : Bool := decide (i ≥ 1) && decide (Builtin.bitAnd i (i - 1) = 0)
def powB : Dat → Bool
  | .int i => powI i
  | _ => false
def nameS (s : Str) : Bool := decide (1 ≤ s.length) && decide (s.length ≤ 4) && s.cps.toList.all fun c => decide (97 ≤ c) && decide (c ≤ 122)
def nameB : Dat → Bool
  | .str s => nameS s
  | _ => false
def inRange (role : Str) (i : Int) : Bool := decide ((rng role).1 ≤ i) && decide (i ≤ (rng role).2)
def partB (role : Str) : Dat → Bool
  | .int i => if role = "name" then false else inRange role i && (!decide (role = "align") || powI i)
  | .str s => if role = "name" then nameS s else false
  | _ => false
def partsB : List Str → List Dat → List Bool
  | r :: rs, d :: ds => partB r d :: partsB rs ds
  | _, _ => []
def reqB : Dat → Bool
  | .tup (.str t :: ps) => match formsL.lookup t with
    | some rs => decide (ps.length = rs.length) && (partsB rs ps).all id
    | none => false
  | _ => false
def rowL (ds : List Dat) : Bool := decide (ds.length ≤ 400) && ds.all reqB
def rowB : Dat → Bool
  | .lst ds => rowL ds
  | .tup ds => rowL ds
  | _ => false
def codeB (c : Nat) : Bool := c == 10 || (decide (32 ≤ c) && decide (c ≤ 126) && !(c == 37))
def textS (s : Str) : Bool := s.cps.toList.all codeB
def textB : Dat → Bool
  | .str s => textS s
  | _ => false
/-- a request -/
def Req (t : Str) (ps : List Dat) : Prop := t ∈ titlesL ∧ ps.length = (rolesOf t).length ∧ ∀ (i : Nat) r p, (rolesOf t)[i]? = some r → ps[i]? = some p → partB r p = true
theorem partsB_get : ∀ {rs : List Str} {ds : List Dat} {i : Nat} {b : Bool}, (partsB rs ds)[i]? = some b → ∃ r d, rs[i]? = some r ∧ ds[i]? = some d ∧ b = partB r d
  | [], ds, i, b, h => by cases ds <;> simp [partsB] at h
  | r :: rs, [], i, b, h => by simp [partsB] at h
  | r :: rs, d :: ds, 0, b, h => by
    simp [partsB] at h
    exact ⟨r, d, rfl, rfl, h.symm⟩
  | r :: rs, d :: ds, i + 1, b, h => by
    simp [partsB] at h
    obtain ⟨r', d', h1, h2, h3⟩ := partsB_get h
    exact ⟨r', d', by simpa using h1, by simpa using h2, h3⟩
theorem partsB_at : ∀ {rs : List Str} {ds : List Dat} {i : Nat} {r : Str} {d : Dat}, rs[i]? = some r → ds[i]? = some d → (partsB rs ds)[i]? = some (partB r d)
  | [], ds, i, r, d, h, _ => by simp at h
  | r :: rs, [], i, _, d, _, h => by simp at h
  | r :: rs, d :: ds, 0, r', d', h1, h2 => by
    simp at h1 h2
    subst h1 h2
    rfl
  | r :: rs, d :: ds, i + 1, r', d', h1, h2 => by
    simp [partsB]
    exact partsB_at (by simpa using h1) (by simpa using h2)
theorem partsB_len : ∀ (rs : List Str) (ds : List Dat), (partsB rs ds).length = min rs.length ds.length
  | [], ds => by cases ds <;> simp [partsB]
  | r :: rs, [] => by simp [partsB]
  | r :: rs, d :: ds => by simp [partsB, partsB_len rs ds]
theorem reqB_iff {t : Str} {ps : List Dat} : reqB (.tup (.str t :: ps)) = true ↔ Req t ps := by
  have e0 : reqB (.tup (.str t :: ps)) = match formsL.lookup t with
    | some rs => decide (ps.length = rs.length) && (partsB rs ps).all id
    | none => false := by rw [reqB]
  rw [e0]
  constructor
  · intro h
    cases hl : formsL.lookup t with
    | none => rw [hl] at h; cases h
    | some rs =>
      rw [hl] at h
      have ht := titles_mem hl
      have e := (titles_roles t ht).1
      rw [hl] at e
      obtain rfl := Option.some.inj e
      have h' : (decide (ps.length = (rolesOf t).length) && (partsB (rolesOf t) ps).all id) = true := h
      rw [Bool.and_eq_true] at h'
      obtain ⟨h1, h2⟩ := h'
      refine ⟨ht, of_decide_eq_true h1, fun i r p hr hp => ?_⟩
      rw [List.all_eq_true] at h2
      exact h2 _ (List.mem_of_getElem? (partsB_at hr hp))
  · rintro ⟨ht, hl, h⟩
    rw [(titles_roles t ht).1]
    show (decide (ps.length = (rolesOf t).length) && (partsB (rolesOf t) ps).all id) = true
    rw [Bool.and_eq_true]
    refine ⟨decide_eq_true hl, ?_⟩
    rw [List.all_eq_true]
    intro b hb
    obtain ⟨i, hi⟩ := List.getElem?_of_mem hb
    obtain ⟨r, d, h1, h2, h3⟩ := partsB_get hi
    rw [h3]
    exact h i r d h1 h2
theorem reqB_form {d : Dat} (h : reqB d = true) : ∃ t ps, d = .tup (.str t :: ps) ∧ Req t ps := by
  cases d with
  | tup ds =>
    cases ds with
    | nil => simp [reqB] at h
    | cons x ps =>
      cases x with
      | str t => exact ⟨t, ps, rfl, reqB_iff.mp h⟩
      | _ => simp [reqB] at h
  | _ => simp [reqB] at h
/-! ### writing -/
def wordOf : Dat → Str
  | .str s => s
  | .int i => toString i
  | _ => ""
def isOne : Option Dat → Bool
  | some (.int 1) => true
  | _ => false
def cutsOne (t : Str) (ps : List Dat) : Bool := decide (t = "take") && isOne ps[3]?
def wordsOf (t : Str) (ps : List Dat) (long : Bool) : List Str := if cutsOne t ps && !long then t :: (ps.take 3).map wordOf else t :: ps.map wordOf
def lineS (t : Str) (ps : List Dat) (long : Bool) : Str := Txt.join " " (wordsOf t ps long)
/-- a request's line -/
def lineD (d : Dat) (long : Bool) : Str := match d with
  | .tup (.str t :: ps) => lineS t ps long
  | _ => ""
def catS : List Str → Str
  | [] => ""
  | s :: r => s ++ catS r
theorem isOne_some {o : Option Dat} (h : isOne o = true) : o = some (.int 1) := by
  unfold isOne at h
  split at h
  · rfl
  · cases h
/-- what a part of a request is -/
theorem part_form {r : Str} {d : Dat} (h : partB r d = true) : (r = "name" ∧ ∃ s, d = .str s ∧ nameS s = true) ∨ (r ≠ "name" ∧ ∃ n : Nat, d = .int n ∧ inRange r n = true) := by
  cases d with
  | str s =>
    rw [partB] at h
    by_cases e : r = "name"
    · rw [if_pos e] at h
      exact .inl ⟨e, s, rfl, h⟩
    · rw [if_neg e] at h
      cases h
  | int i =>
    rw [partB] at h
    by_cases e : r = "name"
    · rw [if_pos e] at h
      cases h
    · rw [if_neg e, Bool.and_eq_true] at h
      refine .inr ⟨e, i.toNat, ?_, ?_⟩
      · have h0 : 0 ≤ (rng r).1 := by
          unfold rng
          cases hr : rangesL.lookup r with
          | none => exact Int.le_refl _
          | some p => exact (rng_small _ (lookup_mem hr)).1
        have h1 := h.1
        unfold inRange at h1
        rw [Bool.and_eq_true] at h1
        have := of_decide_eq_true h1.1
        congr
        omega
      · have h0 : 0 ≤ (rng r).1 := by
          unfold rng
          cases hr : rangesL.lookup r with
          | none => exact Int.le_refl _
          | some p => exact (rng_small _ (lookup_mem hr)).1
        have h1 := h.1
        have h2 := h1
        unfold inRange at h2
        rw [Bool.and_eq_true] at h2
        have := of_decide_eq_true h2.1
        have e2 : ((i.toNat : Nat) : Int) = i := by omega
        rw [e2]
        exact h1
  | _ => simp [partB] at h
theorem inRange_le {r : Str} {i : Int} (h : inRange r i = true) : i ≤ 999999999 := by
  unfold inRange at h
  rw [Bool.and_eq_true] at h
  have h2 := of_decide_eq_true h.2
  have : (rng r).2 ≤ 999999999 := by
    unfold rng
    cases hr : rangesL.lookup r with
    | none => show (0 : Int) ≤ _; decide
    | some p => exact (rng_small _ (lookup_mem hr)).2.2
  omega
/-- a sign that a word of a line may have -/
def wcB (c : Nat) : Bool := (decide (97 ≤ c) && decide (c ≤ 122)) || (decide (48 ≤ c) && decide (c ≤ 57))
def wordOk (s : Str) : Prop := s.length ≤ 10 ∧ s.cps.toList.all wcB = true
theorem num_word {n : Nat} (h : n ≤ 999999999) : wordOk (Str.ofString (toString (n : Int))) := by
  rw [SX.num_S]
  refine ⟨?_, ?_⟩
  · rw [SX.S_len]
    exact Nat.le_trans (TL.numL_len (k := 9) (by decide) (by omega)) (by decide)
  · have hd := TL.numL_digits n
    show (TL.numL n).toArray.toList.all wcB = true
    rw [List.all_eq_true]
    intro c hc
    have hc' : c ∈ TL.numL n := by simpa using hc
    unfold wcB
    have h1 : ¬ (c < 48 ∨ 57 < c) := fun z => TL.numL_free (n := n) z hc'
    have e1 : decide (48 ≤ c) = true := decide_eq_true (by omega)
    have e2 : decide (c ≤ 57) = true := decide_eq_true (by omega)
    rw [e1, e2]
    simp
theorem name_word {s : Str} (h : nameS s = true) : wordOk s := by
  unfold nameS at h
  rw [Bool.and_eq_true, Bool.and_eq_true] at h
  refine ⟨by have := of_decide_eq_true h.1.2; omega, ?_⟩
  have h2 := h.2
  rw [List.all_eq_true] at h2 ⊢
  intro c hc
  unfold wcB
  rw [h2 c hc]
  rfl
theorem part_word {r : Str} {d : Dat} (h : partB r d = true) : wordOk (wordOf d) := by
  rcases part_form h with ⟨_, s, rfl, hs⟩ | ⟨_, n, rfl, hn⟩
  · exact name_word hs
  · exact num_word (by have := inRange_le hn; omega)
theorem title_word {t : Str} (h : t ∈ titlesL) : wordOk t := by
  obtain ⟨_, _, _, _, h1, h2⟩ := titles_roles t h
  refine ⟨by omega, ?_⟩
  rw [List.all_eq_true]
  intro c hc
  obtain ⟨a, b⟩ := h2 c hc
  unfold wcB
  rw [decide_eq_true a, decide_eq_true b]
  rfl
theorem req_part {t : Str} {ps : List Dat} (h : Req t ps) {i : Nat} {p : Dat} (hp : ps[i]? = some p) : ∃ r, (rolesOf t)[i]? = some r ∧ partB r p = true := by
  have hi : i < ps.length := (List.getElem?_eq_some_iff.mp hp).1
  have hr : (rolesOf t)[i]? = some ((rolesOf t)[i]'(by rw [← h.2.1]; exact hi)) := List.getElem?_eq_getElem _
  exact ⟨_, hr, h.2.2 i _ p hr hp⟩
theorem words_ok {t : Str} {ps : List Dat} (h : Req t ps) (long : Bool) : (∀ w ∈ wordsOf t ps long, wordOk w) ∧ (wordsOf t ps long).length ≤ 5 ∧ wordsOf t ps long ≠ [] := by
  have hl : ps.length ≤ 4 := by rw [h.2.1]; exact (titles_roles t h.1).2.2.2.1
  have hm : ∀ w ∈ ps.map wordOf, wordOk w := by
    intro w hw
    obtain ⟨p, hp, rfl⟩ := List.mem_map.mp hw
    obtain ⟨i, hi⟩ := List.getElem?_of_mem hp
    obtain ⟨r, _, hb⟩ := req_part h hi
    exact part_word hb
  unfold wordsOf
  split
  · refine ⟨fun w hw => ?_, ?_, by simp⟩
    · rcases List.mem_cons.mp hw with rfl | hw
      · exact title_word h.1
      · rw [List.map_take] at hw
        exact hm w (List.mem_of_mem_take hw)
    · simp; omega
  · refine ⟨fun w hw => ?_, ?_, by simp⟩
    · rcases List.mem_cons.mp hw with rfl | hw
      · exact title_word h.1
      · exact hm w hw
    · simp; omega
theorem sp_tl : TL.tl (" " : Str) = 32 :: [] := by decide +kernel
theorem nl_tl : TL.tl ("\n" : Str) = 10 :: [] := by decide +kernel
theorem word_free {s : Str} (h : wordOk s) : 32 ∉ TL.tl s ∧ 10 ∉ TL.tl s := by
  have h2 := h.2
  rw [List.all_eq_true] at h2
  constructor
  · intro z
    have := h2 _ z
    simp [wcB] at this
  · intro z
    have := h2 _ z
    simp [wcB] at this
/-- a line's words -/
theorem line_split {t : Str} {ps : List Dat} (h : Req t ps) (long : Bool) : Txt.split (lineS t ps long) " " = wordsOf t ps long := by
  obtain ⟨h1, _, h3⟩ := words_ok h long
  exact TL.split_join sp_tl (by decide +kernel) h3 fun p hp => (word_free (h1 p hp)).1
theorem joinL_mem {S : List Nat} {c : Nat} : ∀ {parts : List (List Nat)}, c ∈ TL.joinL S parts → c ∈ S ∨ ∃ p ∈ parts, c ∈ p
  | [], h => by simp [TL.joinL] at h
  | [x], h => by
    simp [TL.joinL] at h
    exact .inr ⟨x, List.mem_cons_self, h⟩
  | x :: y :: r, h => by
    have h' : c ∈ x ++ (S ++ TL.joinL S (y :: r)) ∨ c ∈ (x ++ S) ++ TL.joinL S (y :: r) := by
      first
        | exact .inl h
        | exact .inr h
    have h'' : c ∈ x ∨ c ∈ S ∨ c ∈ TL.joinL S (y :: r) := by
      rcases h' with h' | h'
      · rcases List.mem_append.mp h' with h' | h'
        · exact .inl h'
        · exact .inr (List.mem_append.mp h')
      · rcases List.mem_append.mp h' with h' | h'
        · rcases List.mem_append.mp h' with h' | h'
          · exact .inl h'
          · exact .inr (.inl h')
        · exact .inr (.inr h')
    rcases h'' with h'' | h'' | h''
    · exact .inr ⟨x, List.mem_cons_self, h''⟩
    · exact .inl h''
    · rcases joinL_mem h'' with h3 | ⟨p, hp, hc⟩
      · exact .inl h3
      · exact .inr ⟨p, List.mem_cons_of_mem _ hp, hc⟩
theorem line_codes {t : Str} {ps : List Dat} (h : Req t ps) (long : Bool) : ∀ c ∈ TL.tl (lineS t ps long), c = 32 ∨ wcB c = true := by
  intro c hc
  unfold lineS at hc
  rw [TL.join_eq, TL.tl_join, sp_tl] at hc
  rcases joinL_mem hc with hc | ⟨p, hp, hc⟩
  · left; simpa using hc
  · right
    obtain ⟨w, hw, rfl⟩ := List.mem_map.mp hp
    have h2 := ((words_ok h long).1 w hw).2
    rw [List.all_eq_true] at h2
    exact h2 c hc
theorem joinL_len {S : List Nat} (m : Nat) : ∀ {parts : List (List Nat)}, (∀ p ∈ parts, p.length ≤ m) → (TL.joinL S parts).length ≤ parts.length * (m + S.length)
  | [], _ => by simp [TL.joinL]
  | [x], h => by
    have := h x List.mem_cons_self
    simp [TL.joinL]
    omega
  | x :: y :: r, h => by
    have h1 := h x List.mem_cons_self
    have h2 := joinL_len m (S := S) (parts := y :: r) fun p hp => h p (List.mem_cons_of_mem _ hp)
    simp only [TL.joinL, List.length_append, List.length_cons] at h2 ⊢
    have e : (r.length + 1 + 1) * (m + S.length) = (r.length + 1) * (m + S.length) + (m + S.length) := Nat.succ_mul _ _
    omega
theorem line_len {t : Str} {ps : List Dat} (h : Req t ps) (long : Bool) : (lineS t ps long).length ≤ 55 := by
  obtain ⟨h1, h2, _⟩ := words_ok h long
  unfold lineS
  rw [TL.join_eq, TL.len_tl, TL.tl_join, sp_tl]
  have := joinL_len (S := [32]) 10 (parts := (wordsOf t ps long).map TL.tl) fun p hp => by
    obtain ⟨w, hw, rfl⟩ := List.mem_map.mp hp
    rw [← TL.len_tl]
    exact (h1 w hw).1
  rw [List.length_map] at this
  simp at this
  have h3 : (wordsOf t ps long).length * 11 ≤ 5 * 11 := Nat.mul_le_mul_right _ h2
  show (TL.joinL [32] (List.map TL.tl (wordsOf t ps long))).length ≤ 55
  exact Nat.le_trans this (by omega)
end AG
/-! AgTxt: a text of lines -/
namespace AG
open PySem PySem.Spec L2
def flatL : List (List Nat) → List Nat
  | [] => []
  | x :: r => x ++ flatL r
theorem joinL_nil : ∀ l : List (List Nat), TL.joinL [] l = flatL l
  | [] => rfl
  | [x] => by simp [TL.joinL, flatL]
  | x :: y :: r => by
    have := joinL_nil (y :: r)
    simp only [TL.joinL, List.append_nil, List.nil_append] at this ⊢
    rw [this]
    rfl
theorem tl_cat : ∀ l : List Str, TL.tl (catS l) = flatL (l.map TL.tl)
  | [] => rfl
  | s :: r => by
    show TL.tl (s ++ catS r) = TL.tl s ++ flatL (r.map TL.tl)
    rw [TL.tl_append, tl_cat r]
theorem em_tl : TL.tl ("" : Str) = [] := by decide +kernel
/-- ''.join(parts) -/
theorem join_cat (l : List Str) : Txt.join "" l = catS l := by
  apply TL.ext_tl
  rw [TL.join_eq, TL.tl_join, em_tl, joinL_nil, tl_cat]
def linesS (ls : List Str) : Str := catS (ls.map (· ++ "\n"))
theorem flat_join : ∀ {l : List (List Nat)}, l ≠ [] → flatL (l.map (· ++ [10])) = TL.joinL [10] l ++ [10]
  | [x], _ => by simp [TL.joinL, flatL]
  | x :: y :: r, _ => by
    have := flat_join (l := y :: r) (by simp)
    show (x ++ [10]) ++ flatL ((y :: r).map (· ++ [10])) = _
    rw [this]
    simp [TL.joinL]
theorem lines_tl {ls : List Str} (h : ls ≠ []) : TL.tl (linesS ls) = TL.tl (Txt.join "\n" ls) ++ [10] := by
  unfold linesS
  rw [tl_cat, List.map_map, TL.join_eq, TL.tl_join, nl_tl, ← flat_join (by simpa using h), List.map_map]
  congr 1
  apply List.map_congr_left
  intro s _
  show TL.tl (s ++ "\n") = TL.tl s ++ [10]
  rw [TL.tl_append, nl_tl]
theorem lines_eq {ls : List Str} (h : ls ≠ []) : linesS ls = SX.S (TL.tl (Txt.join "\n" ls) ++ [10]) := TL.ext_tl (lines_tl h)
theorem lines_ne {ls : List Str} (h : ls ≠ []) : linesS ls ≠ "" := fun z => by
  have := lines_tl h
  rw [z, em_tl] at this
  simp at this
theorem lines_cut {ls : List Str} (h : ls ≠ []) : Txt.slice (linesS ls) none (some (-1)) = Txt.join "\n" ls := by
  rw [lines_eq h, SX.butlast_snoc]
theorem lines_ends {ls : List Str} (h : ls ≠ []) : Txt.endswith (linesS ls) "\n" = true := by
  have e := lines_tl h
  have e1 : ("\n" : Str).length = 1 := by decide +kernel
  have el : (linesS ls).length = (TL.tl (Txt.join "\n" ls)).length + 1 := by
    rw [TL.len_tl, e]; simp
  unfold Txt.endswith
  rw [Bool.and_eq_true]
  refine ⟨decide_eq_true (by rw [e1, el]; omega), ?_⟩
  rw [StrLaws.subAt_eq, e1, el, Nat.add_sub_cancel]
  have e' : (linesS ls).cps.toList = TL.tl (Txt.join "\n" ls) ++ [10] := e
  have e2 : ("\n" : Str).cps.toList = [10] := nl_tl
  rw [e', e2, List.drop_left]
  rfl
theorem lines_split {ls : List Str} (h : ls ≠ []) (hf : ∀ l ∈ ls, 10 ∉ TL.tl l) : Txt.split (Txt.join "\n" ls) "\n" = ls := TL.split_join nl_tl (by decide +kernel) h hf
theorem lines_len {ls : List Str} {m : Nat} (h : ∀ l ∈ ls, l.length ≤ m) : (linesS ls).length ≤ ls.length * (m + 1) := by
  induction ls with
  | nil => simp [linesS, catS]; decide
  | cons x r ih =>
    have h1 := h x List.mem_cons_self
    have h2 := ih fun l hl => h l (List.mem_cons_of_mem _ hl)
    have e : linesS (x :: r) = (x ++ "\n") ++ linesS r := rfl
    rw [e, TL.len_tl, TL.tl_append, TL.tl_append, nl_tl, List.length_append, List.length_append, ← TL.len_tl, ← TL.len_tl, List.length_cons (as := r), Nat.succ_mul]
    simp
    omega
theorem lines_text {ls : List Str} (h : ∀ l ∈ ls, ∀ c ∈ TL.tl l, codeB c = true) : textS (linesS ls) = true := by
  have key : ∀ c ∈ TL.tl (linesS ls), codeB c = true := by
    induction ls with
    | nil => intro c hc; rw [show TL.tl (linesS []) = [] from em_tl] at hc; cases hc
    | cons x r ih =>
      intro c hc
      have e : linesS (x :: r) = (x ++ "\n") ++ linesS r := rfl
      rw [e, TL.tl_append, TL.tl_append, nl_tl] at hc
      rcases List.mem_append.mp hc with hc | hc
      · rcases List.mem_append.mp hc with hc | hc
        · exact h x List.mem_cons_self c hc
        · have : c = 10 := by simpa using hc
          rw [this]; rfl
      · exact ih (fun l hl => h l (List.mem_cons_of_mem _ hl)) c hc
  unfold textS
  rw [List.all_eq_true]
  exact key
theorem wc_code {c : Nat} (h : c = 32 ∨ wcB c = true) : codeB c = true := by
  unfold codeB
  unfold wcB at h
  simp at h ⊢
  omega
theorem wc_nl {c : Nat} (h : c = 32 ∨ wcB c = true) : c ≠ 10 := by
  unfold wcB at h
  simp at h
  omega
theorem line_free {t : Str} {ps : List Dat} (h : Req t ps) (long : Bool) : 10 ∉ TL.tl (lineS t ps long) := fun z => wc_nl (line_codes h long 10 z) rfl
/-- a tab stands in no text -/
theorem tab_text {a b : Str} : textS (a ++ "\t" ++ b) = false := by
  unfold textS
  rw [Bool.eq_false_iff]
  intro z
  rw [List.all_eq_true] at z
  have e : TL.tl (a ++ "\t" ++ b) = TL.tl a ++ [9] ++ TL.tl b := by
    rw [TL.tl_append, TL.tl_append]
    rfl
  have : codeB 9 = true := z 9 (by
    show 9 ∈ TL.tl (a ++ "\t" ++ b)
    rw [e]; simp)
  cases this
/-! ### requests -/
def AllReq (rs : List Dat) : Prop := ∀ r ∈ rs, reqB r = true
/-- the lines of requests, each long or not -/
def linesOf (rs : List Dat) (longs : Nat → Bool) : List Str := (List.range rs.length).map fun i => lineD (rs.getD i .non) (longs i)
def LinesOk (rs : List Dat) (ls : List Str) : Prop := ls.length = rs.length ∧ ∀ (i : Nat) l, ls[i]? = some l → ∃ t ps long, rs[i]? = some (.tup (.str t :: ps)) ∧ Req t ps ∧ l = lineS t ps long
def shorts (rs : List Dat) : List Str := rs.map fun r => lineD r false
theorem shorts_ok {rs : List Dat} (h : AllReq rs) : LinesOk rs (shorts rs) := by
  refine ⟨by simp [shorts], fun i l hl => ?_⟩
  unfold shorts at hl
  rw [List.getElem?_map] at hl
  cases e : rs[i]? with
  | none => rw [e] at hl; cases hl
  | some r =>
    rw [e] at hl
    obtain ⟨t, ps, rfl, hr⟩ := reqB_form (h r (List.mem_of_getElem? e))
    exact ⟨t, ps, false, rfl, hr, (Option.some.inj hl).symm⟩
theorem linesOk_mem {rs : List Dat} {ls : List Str} (h : LinesOk rs ls) : ∀ l ∈ ls, l.length ≤ 55 ∧ 10 ∉ TL.tl l ∧ ∀ c ∈ TL.tl l, codeB c = true := by
  intro l hl
  obtain ⟨i, hi⟩ := List.getElem?_of_mem hl
  obtain ⟨t, ps, long, _, hr, rfl⟩ := h.2 i l hi
  exact ⟨line_len hr long, line_free hr long, fun c hc => wc_code (line_codes hr long c hc)⟩
end AG
namespace AG
open PySem PySem.Spec L2
/-! ### promises: the draws -/
/-- d draws and w's answers: any int below many -/
def sp_law_draws (K : PySem.W.Frag) (C : Cs) : Sp := fun vs H Q _ => ∃ (a : Addr) (ns : List Int), vs = [.ref a] ∧ SqL K H a (ns.map V.int) ∧ ns.length ≤ 63 ∧ ∀ d H', Same H H' → Dr H' d → Q d H'
def sp_law_next_cell (K : PySem.W.Frag) (C : Cs) : Sp := fun vs H Q _ => ∃ (a c s : Addr) (ns : List Int) (i0 i1 i2 i3 i4 : Int), vs = [.ref a] ∧ H a = some (.lst [.ref c, .ref s]) ∧ H c = some (.lst (ns.map V.int)) ∧ H s = some (.lst [.int i0, .int i1, .int i2, .int i3, .int i4]) ∧ 0 ≤ i0 ∧ a ≠ s ∧ c ≠ s ∧
  ∀ j0 j1 j2 j3 j4 : Int, 0 ≤ j0 → Q .non (upd H s (.lst [.int j0, .int j1, .int j2, .int j3, .int j4]))
def sp_law_mixed (K : PySem.W.Frag) (C : Cs) : Sp := fun vs H Q _ => ∃ (a b m : Int), vs = [.int a, .int b, .int m] ∧ 2 ≤ m ∧ ∀ r : Int, 0 ≤ r → r < m → Q (.int r) H
def sp_law_take (K : PySem.W.Frag) (C : Cs) : Sp := fun vs H Q _ => ∃ (d : V) (m : Int), vs = [d, .int m] ∧ Dr H d ∧ m ≤ 10 ^ 40 ∧ ∀ (r : Int) H', Same H H' → 0 ≤ r → (r < m ∨ r = 0) → Q (.int r) H'
def sp_law_among (K : PySem.W.Frag) (C : Cs) : Sp := fun vs H Q _ => ∃ (d : V) (a : Addr) (xs : List V), vs = [d, .ref a] ∧ Dr H d ∧ H a = some (.lst xs) ∧ xs ≠ [] ∧ xs.length ≤ 1000000 ∧ ∀ (x : V) H', Same H H' → x ∈ xs → Q x H'
def sp_law_between (K : PySem.W.Frag) (C : Cs) : Sp := fun vs H Q _ => ∃ (d : V) (lo hi : Int), vs = [d, .int lo, .int hi] ∧ Dr H d ∧ hi - lo < 10 ^ 40 ∧ ∀ (r : Int) H', Same H H' → lo ≤ r → (r ≤ hi ∨ r = lo) → Q (.int r) H'
def sp_law_number (K : PySem.W.Frag) (C : Cs) : Sp := fun vs H Q _ => ∃ (d : V) (lo hi : Int), vs = [d, .int lo, .int hi] ∧ Dr H d ∧ lo ≤ hi ∧ hi - lo < 10 ^ 40 ∧ ∀ (r : Int) H', Same H H' → lo ≤ r → r ≤ hi → Q (.int r) H'
def sp_law_count (K : PySem.W.Frag) (C : Cs) : Sp := fun vs H Q _ => ∃ (d : V) (lo hi : Int), vs = [d, .int lo, .int hi] ∧ Dr H d ∧ 0 ≤ lo ∧ lo ≤ hi ∧ hi < 10 ^ 40 ∧ ∀ (r : Int) H', Same H H' → 0 ≤ r → r ≤ hi → Q (.int r) H'
def sp_law_alignment (K : PySem.W.Frag) (C : Cs) : Sp := fun vs H Q _ => ∃ (d : V) (m : Nat), vs = [d, .int m] ∧ Dr H d ∧ m ≤ 62 ∧ ∀ (k : Nat) H', Same H H' → k ≤ m → Q (.int (2 ^ k)) H'
end AG
/-! AgRd: reading any line, any text (for law k88) -/
namespace AG
open PySem PySem.Spec L2
/-! ### words -/
def numS (w : Str) : Bool := decide (1 ≤ w.length) && decide (w.length ≤ 9) && !(decide (w.cps.toList.head? = some 48) && decide (w ≠ "0")) && w.cps.toList.all fun c => decide (48 ≤ c) && decide (c ≤ 57)
def valN (w : Str) : Nat := NumText.digitsVal w.cps.toList
def partVal (role w : Str) : Option Dat :=
  if role = "name" then (if nameS w = true then some (.str w) else none) else if (numS w && partB role (.int (valN w))) = true then some (.int (valN w)) else none
/-- what the word at the place k (1 or more) behind the title t says -/
def wordVal (t : Str) (k : Nat) (w : Str) : Option Dat := match (rolesOf t)[k - 1]? with
  | some r => partVal r w
  | none => none
theorem int_of_num {w : Str} (h : numS w = true) : intText? w = some (valN w : Int) := by
  unfold numS at h
  rw [Bool.and_eq_true, Bool.and_eq_true, Bool.and_eq_true] at h
  obtain ⟨⟨⟨h1, h2⟩, _⟩, h4⟩ := h
  have e : w = SX.S (TL.tl w) := (SX.S_tl w).symm
  have h5 := of_decide_eq_true h1
  have h6 := of_decide_eq_true h2
  rw [TL.len_tl] at h5 h6
  rw [e]
  have key : (TL.tl w).all (fun c => decide (48 ≤ c) && decide (c ≤ 57)) = true := h4
  have := SX.int_S key (by intro z; rw [z] at h5; simp at h5) (by omega)
  rw [this]
  rfl
theorem partVal_ok {r w : Str} {d : Dat} (h : partVal r w = some d) : partB r d = true := by
  unfold partVal at h
  by_cases e : r = "name"
  · rw [if_pos e] at h
    by_cases hn : nameS w = true
    · rw [if_pos hn] at h
      rw [← Option.some.inj h, partB, if_pos e]
      exact hn
    · rw [if_neg hn] at h
      cases h
  · rw [if_neg e] at h
    by_cases hn : (numS w && partB r (.int (valN w))) = true
    · rw [if_pos hn] at h
      rw [← Option.some.inj h]
      exact (Bool.and_eq_true_iff.mp hn).2
    · rw [if_neg hn] at h
      cases h
/-! ### a line -/
/-- the words from the place k on: their values, or the place of the first that is wrong -/
def valsFrom (t : Str) : Nat → List Str → Sum Nat (List Dat)
  | _, [] => .inr []
  | k, w :: r => match wordVal t k w with
    | none => .inl k
    | some d => match valsFrom t (k + 1) r with
      | .inl c => .inl c
      | .inr ds => .inr (d :: ds)
def badAt (words : List Str) : Option Nat := match words with
  | [] => some 0
  | t :: r => if (formsL.lookup t).isSome = true then (match valsFrom t 1 r with | .inl k => some k | .inr _ => none) else some 0
def colOf (words : List Str) (k : Nat) : Nat := 1 + ((words.take k).map fun w => w.length + 1).sum
def leastOf (t : Str) : Nat := if t = "take" then 4 else (rolesOf t).length + 1
/-- a line: the column at which it is refused, or its request -/
def readLine (line : Str) : Sum Nat Dat :=
  let words := Txt.split line " "
  match badAt words with
  | some k => .inl (colOf words k)
  | none => match words with
    | [] => .inl 1
    | t :: r => if r.length + 1 < leastOf t then .inl (line.length + 1) else match valsFrom t 1 r with
      | .inl k => .inl (colOf words k)
      | .inr ps => .inr (.tup (.str t :: (if ps.length < (rolesOf t).length then ps ++ [.int 1] else ps)))
/-- lines from the number n on; isOpen: the last one has no end -/
def readLines (isOpen : Bool) : Nat → List Str → Sum (Nat × Nat) (List Dat)
  | _, [] => .inr []
  | n, l :: r => match badAt (Txt.split l " ") with
    | some k => .inl (n, colOf (Txt.split l " ") k)
    | none => if isOpen = true ∧ r = [] then .inl (n, l.length + 1) else match readLine l with
      | .inl c => .inl (n, c)
      | .inr d => match readLines isOpen (n + 1) r with
        | .inl e => .inl e
        | .inr ds => .inr (d :: ds)
def readText (s : Str) : Sum (Nat × Nat) (List Dat) :=
  if s = "" then .inr [] else
    if Txt.endswith s "\n" = true then readLines false 1 (Txt.split (Txt.slice s none (some (-1))) "\n") else readLines true 1 (Txt.split s "\n")
theorem valsFrom_len {t : Str} : ∀ {r : List Str} {k : Nat} {ps : List Dat}, valsFrom t k r = .inr ps → ps.length = r.length ∧ ∀ (i : Nat) p, ps[i]? = some p → ∃ w, r[i]? = some w ∧ wordVal t (k + i) w = some p
  | [], k, ps, h => by
    have e : ([] : List Dat) = ps := by simpa [valsFrom] using h
    rw [← e]
    exact ⟨rfl, fun i p hp => by simp at hp⟩
  | w :: r, k, ps, h => by
    unfold valsFrom at h
    cases hw : wordVal t k w with
    | none => rw [hw] at h; cases h
    | some d =>
      rw [hw] at h
      simp only at h
      cases hr : valsFrom t (k + 1) r with
      | inl c => rw [hr] at h; cases h
      | inr ds =>
        rw [hr] at h
        have e : d :: ds = ps := Sum.inr.inj h
        obtain ⟨h1, h2⟩ := valsFrom_len hr
        rw [← e]
        refine ⟨by simp [h1], fun i p hp => ?_⟩
        cases i with
        | zero =>
          obtain rfl : d = p := by simpa using hp
          exact ⟨w, rfl, hw⟩
        | succ i =>
          obtain ⟨w', a, b⟩ := h2 i p (by simpa using hp)
          exact ⟨w', by simpa using a, by rw [show k + (i + 1) = k + 1 + i by omega]; exact b⟩
end AG
/-! AgSp2: promises of the text part and of its law -/
namespace AG
open PySem PySem.Spec L2
def ExBad (K : PySem.W.Frag) (C : Cs) (word : Str) (E : XK) (H : Hp) : Prop := ∀ (H' : Hp) (dd t1 t2 : Addr), Same H H' → H' dd = some (.xd [("told", .ref t2), ("parameter", .str word)]) → SqT K H' t2 [.str "BadValue", .ref t1] → SqT K H' t1 [.str word] → E (.ref C.cBadValue) (some dd) H'
section
def spJudge (K : PySem.W.Frag) (f : Dat → Bool) : Sp := fun vs H Q _ => ∃ (d : Dat) (v : V), vs = [v] ∧ Rep K H d v ∧ ∀ H', Same H H' → Q (.bl (f d)) H'
def sp_is_whole (K : PySem.W.Frag) (C : Cs) : Sp := spJudge K wholeB
def sp_is_power (K : PySem.W.Frag) (C : Cs) : Sp := spJudge K powB
def sp_is_name (K : PySem.W.Frag) (C : Cs) : Sp := spJudge K nameB
def sp_is_part (K : PySem.W.Frag) (C : Cs) : Sp := fun vs H Q _ => ∃ (r : Str) (d : Dat) (v : V), vs = [.str r, v] ∧ Rep K H d v ∧ (r = "name" ∨ (rangesL.lookup r).isSome = true) ∧ ∀ H', Same H H' → Q (.bl (partB r d)) H'
def sp_is_text (K : PySem.W.Frag) (C : Cs) : Sp := spJudge K textB
def sp_is_number_word (K : PySem.W.Frag) (C : Cs) : Sp := fun vs H Q _ => ∃ w : Str, vs = [.str w] ∧ w.length ≤ 1000000 ∧ ∀ H', Same H H' → Q (.bl (numS w)) H'
def sp_is_written_part (K : PySem.W.Frag) (C : Cs) : Sp := fun vs H Q _ => ∃ r w : Str, vs = [.str r, .str w] ∧ (r = "name" ∨ (rangesL.lookup r).isSome = true) ∧ w.length ≤ 1000000 ∧ ∀ H', Same H H' → Q (.bl (partVal r w).isSome) H'
def wordsAt (H : Hp) (a : Addr) (ws : List Str) : Prop := H a = some (.lst (ws.map V.str)) ∧ ws ≠ [] ∧ ws.length ≤ 1000000 ∧ ∀ w ∈ ws, w.length ≤ 1000000
def sp_wrong_word (K : PySem.W.Frag) (C : Cs) : Sp := fun vs H Q _ => ∃ (a : Addr) (ws : List Str), vs = [.ref a] ∧ wordsAt H a ws ∧ ∀ H', Same H H' → Q (match badAt ws with | none => .non | some k => .int k) H'
def sp_column_of (K : PySem.W.Frag) (C : Cs) : Sp := fun vs H Q _ => ∃ (a : Addr) (ws : List Str) (k : Nat), vs = [.ref a, .int k] ∧ wordsAt H a ws ∧ ∀ H', Same H H' → Q (.int (colOf ws k)) H'
def sp_least_words (K : PySem.W.Frag) (C : Cs) : Sp := fun vs H Q _ => ∃ t : Str, vs = [.str t] ∧ t ∈ titlesL ∧ Q (.int (if t = "take" then 4 else (rolesOf t).length + 1)) H
def sp_request_of (K : PySem.W.Frag) (C : Cs) : Sp := fun vs H Q _ => ∃ (a : Addr) (t : Str) (r : List Str) (ps : List Dat), vs = [.ref a] ∧ wordsAt H a (t :: r) ∧ t ∈ titlesL ∧ valsFrom t 1 r = .inr ps ∧ leastOf t ≤ r.length + 1 ∧ ∀ v H', Same H H' → Rep K H' (.tup (.str t :: (if ps.length < (rolesOf t).length then ps ++ [.int 1] else ps))) v → Q v H'
def ExLine (K : PySem.W.Frag) (C : Cs) (n c : Nat) (E : XK) (H : Hp) : Prop := ∀ (H' : Hp) (dd t1 t2 : Addr), Same H H' → H' dd = some (.xd [("told", .ref t2), ("column", .int c), ("line", .int n)]) → SqT K H' t2 [.str "BadLine", .ref t1] → SqT K H' t1 [.int n, .int c] → E (.ref C.cBadLine) (some dd) H'
def sp_parse_requests (K : PySem.W.Frag) (C : Cs) : Sp := fun vs H Q E => (∃ (d : Dat) (v : V), vs = [v] ∧ Rep K H d v ∧ textB d = false ∧ ExBad K C "text" E H) ∨
  ∃ s : Str, vs = [.str s] ∧ s.length ≤ 900000 ∧ textS s = true ∧ match readText s with
    | .inl (n, c) => ExLine K C n c E H
    | .inr rs => ∀ p xs H', Same H H' → H p = none → H' p = some (.lst xs) → Reps K H' rs xs → Q (.ref p) H'
/-! the law -/
/-- some datum that is as P says -/
def gives (K : PySem.W.Frag) (H : Hp) (Q : VK) (P : Dat → Prop) : Prop := ∀ d v H', Same H H' → Rep K H' d v → P d → Q v H'
def sp_law_user (K : PySem.W.Frag) (C : Cs) : Sp := fun vs H Q _ => ∃ d : V, vs = [d] ∧ Dr H d ∧ ∀ (u : Int) H', Same H H' → 1 ≤ u → u ≤ 8 → Q (.int u) H'
def sp_law_same (K : PySem.W.Frag) (C : Cs) (n : Nat) : Sp := fun vs H Q _ => ∃ (d : Dat) (v w : V), vs = [v, w] ∧ Rep K H d v ∧ Rep K H d w ∧ d.depth < n ∧ ∀ H', Same H H' → Q (.bl true) H'
def sp_law_name (K : PySem.W.Frag) (C : Cs) : Sp := fun vs H Q _ => ∃ d : V, vs = [d] ∧ Dr H d ∧ ∀ s H', Same H H' → nameS s = true → Q (.str s) H'
def sp_law_titles (K : PySem.W.Frag) (C : Cs) : Sp := fun vs H Q _ => vs = [] ∧ ∀ p H', Same H H' → H' p = some (.lst (titlesL.map V.str)) → Q (.ref p) H'
def boundD (b : Int × Int) : Dat := .tup [.int b.1, .int b.2]
def sp_law_part_bounds (K : PySem.W.Frag) (C : Cs) : Sp := fun vs H Q _ => ∃ t : Str, vs = [.str t] ∧ ∀ p xs H', Same H H' → H' p = some (.lst xs) → Reps K H' ((boundsOf t).map boundD) xs → Q (.ref p) H'
def sp_law_request (K : PySem.W.Frag) (C : Cs) : Sp := fun vs H Q _ => ∃ d : V, vs = [d] ∧ Dr H d ∧ gives K H Q fun d => reqB d = true
def sp_law_line (K : PySem.W.Frag) (C : Cs) : Sp := fun vs H Q _ => ∃ (t : Str) (ps : List Dat) (v : V) (long : Bool), vs = [v, .bl long] ∧ Rep K H (.tup (.str t :: ps)) v ∧ Req t ps ∧ ∀ H', Same H H' → Q (.str (lineS t ps long)) H'
def sp_law_not_text (K : PySem.W.Frag) (C : Cs) : Sp := fun vs H Q _ => ∃ d : V, vs = [d] ∧ Dr H d ∧ gives K H Q fun d => textB d = false ∧ d.depth ≤ 1
def sp_law (K : PySem.W.Frag) (C : Cs) : Sp := fun vs H Q _ => ∃ (a : Addr) (ns : List Int), vs = [.ref a] ∧ SqL K H a (ns.map V.int) ∧ ns.length ≤ 63 ∧ ∀ H', Same H H' → Q (.bl true) H'
end
-- no dict in it
mutual
def Dat.nod : Dat → Bool
  | .lst ds => nods ds
  | .tup ds => nods ds
  | .dct _ _ => false
  | _ => true
def nods : List Dat → Bool
  | [] => true
  | d :: r => d.nod && nods r
end
theorem nods_mem : ∀ {ds : List Dat} {d : Dat}, nods ds = true → d ∈ ds → d.nod = true
  | [], _, _, h => by cases h
  | e :: r, d, h, hm => by
    unfold nods at h
    rw [Bool.and_eq_true] at h
    rcases List.mem_cons.mp hm with rfl | hm
    · exact h.1
    · exact nods_mem h.2 hm
def sp_law_sameH (K : PySem.W.Frag) (C : Cs) (n : Nat) : Sp := fun vs H Q _ => ∃ (d : Dat) (v w : V), vs = [v, w] ∧ Rep K H d v ∧ Rep K H d w ∧ d.depth < n ∧ d.nod = true ∧ ∀ H', Same H H' → Q (.bl true) H'
/-! of k88 alone -/
def charsS : Str := " !\"#$&'()*+,-./0123456789:;<=>?@ABCDEFGHIJKLMNOPQRSTUVWXYZ[\\]^_`abcdefghijklmnopqrstuvwxyz{|}~\n"
/-- what both readers tell of a text -/
def toldOf (s : Str) : Dat := match readText s with
  | .inl (n, c) => .tup [.str "refused", .int n, .int c]
  | .inr rs => .tup [.str "parsed", .lst rs]
def sp_law_power (K : PySem.W.Frag) (C : Cs) : Sp := fun vs H Q _ => ∃ n : Nat, vs = [.int n] ∧ n ≤ 40 ∧ Q (.int (2 ^ n)) H
def sp_law_chars (K : PySem.W.Frag) (C : Cs) : Sp := fun vs H Q _ => vs = [] ∧ Q (.str charsS) H
def sp_law_text (K : PySem.W.Frag) (C : Cs) : Sp := fun vs H Q _ => ∃ (d : V) (m : Int), vs = [d, .int m] ∧ Dr H d ∧ 0 ≤ m ∧ m ≤ 1000 ∧ ∀ s H', Same H H' → textS s = true → s.length ≤ 1000 → Q (.str s) H'
def sp_law_number_word (K : PySem.W.Frag) (C : Cs) : Sp := fun vs H Q _ => ∃ (w : Str) (lo hi : Int), vs = [.str w, .int lo, .int hi] ∧ w.length ≤ 1000000 ∧ Q (if numS w = true ∧ lo ≤ valN w ∧ (valN w : Int) ≤ hi then .int (valN w) else .non) H
def sp_law_part_word (K : PySem.W.Frag) (C : Cs) : Sp := fun vs H Q _ => ∃ (t : Str) (k : Nat) (w : Str), vs = [.str t, .int k, .str w] ∧ t ∈ titlesL ∧ 1 ≤ k ∧ k ≤ 1000000 ∧ w.length ≤ 1000000 ∧ ∀ v H', Same H H' → (match wordVal t k w with | none => v = .non | some d => Rep K H' d v) → Q v H'
def sp_law_line_read (K : PySem.W.Frag) (C : Cs) : Sp := fun vs H Q _ => ∃ line : Str, vs = [.str line] ∧ line.length ≤ 900000 ∧ ∀ v H', Same H H' → (match readLine line with | .inl c => v = .int c | .inr d => Rep K H' d v) → Q v H'
def sp_law_text_read (K : PySem.W.Frag) (C : Cs) : Sp := fun vs H Q _ => ∃ s : Str, vs = [.str s] ∧ s.length ≤ 900000 ∧ ∀ v H', Same H H' → Rep K H' (toldOf s) v → Q v H'
def sp_law_parse_told (K : PySem.W.Frag) (C : Cs) : Sp := fun vs H Q _ => ∃ s : Str, vs = [.str s] ∧ s.length ≤ 900000 ∧ textS s = true ∧ ∀ v H', Same H H' → Rep K H' (toldOf s) v → Q v H'
def sp_law_refuses_value (K : PySem.W.Frag) (C : Cs) : Sp := fun vs H Q _ => ∃ (d : Dat) (v : V), vs = [v] ∧ Rep K H d v ∧ textB d = false ∧ ∀ H', Same H H' → Q (.bl true) H'
def sp_law_bent_text (K : PySem.W.Frag) (C : Cs) : Sp := fun vs H Q _ => ∃ (d : V) (s : Str), vs = [d, .str s] ∧ Dr H d ∧ s.length ≤ 100000 ∧ textS s = true ∧ ∀ z H', Same H H' → z.length ≤ 200000 → textS z = true → Q (.str z) H'
/-- a word that is wrong at the place k behind the title t -/
def wrongAt (t : Str) (k : Nat) (w : Str) : Prop := w.length ≤ 12 ∧ (∀ c ∈ TL.tl w, c ≠ 32 ∧ codeB c = true ∧ c ≠ 10) ∧ if k = 0 then formsL.lookup w = none else wordVal t k w = none
def sp_law_bad_word (K : PySem.W.Frag) (C : Cs) : Sp := fun vs H Q _ => ∃ (d v : V) (t : Str) (ps : List Dat) (k : Nat), vs = [d, v, .int k] ∧ Dr H d ∧ Rep K H (.tup (.str t :: ps)) v ∧ Req t ps ∧ k ≤ ps.length ∧ ∀ w H', Same H H' → wrongAt t k w → Q (.str w) H'
def badLine (l : Str) (c : Nat) : Prop := readLine l = .inl c ∧ l.length ≤ 100 ∧ 10 ∉ TL.tl l ∧ ∀ x ∈ TL.tl l, codeB x = true
def sp_law_bad_line (K : PySem.W.Frag) (C : Cs) : Sp := fun vs H Q _ => ∃ (d v : V) (t : Str) (ps : List Dat), vs = [d, v] ∧ Dr H d ∧ Rep K H (.tup (.str t :: ps)) v ∧ Req t ps ∧ ∀ l c v' H', Same H H' → badLine l c → Rep K H' (.tup [.str l, .int c]) v' → Q v' H'
def sp_law_bad_text (K : PySem.W.Frag) (C : Cs) : Sp := fun vs H Q _ => ∃ (d v : V) (rs : List Dat), vs = [d, v] ∧ Dr H d ∧ Rep K H (.lst rs) v ∧ rs.length ≤ 40 ∧ AllReq rs ∧ ∀ s n c v' H', Same H H' → readText s = .inl (n, c) → textS s = true → s.length ≤ 10000 → Rep K H' (.tup [.str s, .int n, .int c]) v' → Q v' H'
end AG
/-! AgGlob: what the top has written -/
namespace AG
open PySem PySem.Spec L2 PyProof.Rows
/-- a dict of the module: text keys, tuples -/
structure KDt (w : World) (K : PySem.W.Frag) (d : Addr) (f : Str → Option (List V)) : Prop where
  ex : ∃ es n, KDict K w d es n
  at_ : ∀ x, match f x with | none => PySem.W.nsIn K d x = some none | some vs => ∃ a, PySem.W.nsIn K d x = some (some (.ref a)) ∧ ∀ H, SqT K H a vs
def rKtI (d : Addr) (f : Str → Option (List V)) : R2 := fun x y H Q => ∃ z : Str, x = .str z ∧ y = .ref d ∧ Q (.bl (f z).isSome) H
def rKtN (d : Addr) (f : Str → Option (List V)) : R2 := fun x y H Q => ∃ z : Str, x = .str z ∧ y = .ref d ∧ Q (.bl (!(f z).isSome)) H
def rKtG (K : PySem.W.Frag) (d : Addr) (f : Str → Option (List V)) : R2 := fun x y H Q => ∃ (z : Str) (vs : List V), x = .ref d ∧ y = .str z ∧ f z = some vs ∧ ∀ a, SqT K H a vs → Q (.ref a) H
section
variable {X : Cx} {d : Addr} {f : Str → Option (List V)}
theorem kt_ns {w : World} {K : PySem.W.Frag} (D : KDt w K d f) (x : Str) : ∃ r : Option Value, PySem.W.nsIn K d x = some r ∧ r.isSome = (f x).isSome := by
  have h := D.at_ x
  cases e : f x with
  | none =>
    rw [e] at h
    exact ⟨none, h, rfl⟩
  | some v =>
    rw [e] at h
    obtain ⟨u, h, _⟩ := h
    exact ⟨_, h, rfl⟩
theorem op_ktI (D : KDt X.w X.K d f) : OpR X (compareOp .In) (rKtI d f) := by
  intro pins s σ H x y v u Q I rx ry h
  obtain ⟨z, rfl, rfl, q⟩ := h
  obtain ⟨es, n, D0⟩ := D.ex
  obtain ⟨r, h1, h2⟩ := kt_ns D z
  exact op_in_kd D0 pins s σ H _ _ v u Q I rx ry ⟨z, r, rfl, rfl, h1, by rw [h2]; exact q⟩
theorem op_ktN (D : KDt X.w X.K d f) : OpR X (compareOp .NotIn) (rKtN d f) := by
  intro pins s σ H x y v u Q I rx ry h
  obtain ⟨z, rfl, rfl, q⟩ := h
  obtain ⟨es, n, D0⟩ := D.ex
  obtain ⟨r, h1, h2⟩ := kt_ns D z
  exact op_notIn_kd D0 pins s σ H _ _ v u Q I rx ry ⟨z, r, rfl, rfl, h1, by rw [h2]; exact q⟩
theorem ix_kt (D : KDt X.w X.K d f) : IxR X (rKtG X.K d f) := by
  intro value slice pins s σ H x y v u Q I rx ry h hs
  obtain ⟨z, vs, rfl, rfl, e, q⟩ := h
  obtain ⟨es, n, D0⟩ := D.ex
  have h := D.at_ z
  rw [e] at h
  obtain ⟨a, h1, h2⟩ := h
  exact ix_kdict value slice pins s σ H _ _ v u Q I rx ry ⟨d, z, .ref a, rfl, rfl, ⟨es, n, _, D0.at_, D0.lit, h1, rfl⟩, q a (h2 H)⟩ hs
end
theorem r_ktI {d : Addr} {f : Str → Option (List V)} {z : Str} {H : Hp} {Q : VK} (q : Q (.bl (f z).isSome) H) : rKtI d f (.str z) (.ref d) H Q := ⟨z, rfl, rfl, q⟩
theorem r_ktN {d : Addr} {f : Str → Option (List V)} {z : Str} {H : Hp} {Q : VK} (q : Q (.bl (!(f z).isSome)) H) : rKtN d f (.str z) (.ref d) H Q := ⟨z, rfl, rfl, q⟩
theorem r_ktG {K : PySem.W.Frag} {d : Addr} {f : Str → Option (List V)} {z : Str} {vs : List V} {H : Hp} {Q : VK} (e : f z = some vs) (q : ∀ a, SqT K H a vs → Q (.ref a) H) : rKtG K d f (.ref d) (.str z) H Q := ⟨z, vs, rfl, rfl, e, q⟩
def formsV (z : Str) : Option (List V) := (formsL.lookup z).map fun rs => rs.map V.str
def rangesV (z : Str) : Option (List V) := (rangesL.lookup z).map fun p => [.int p.1, .int p.2]
/-- the making of an exception of an own class -/
structure ExMk (P : Program) (w : World) (K : PySem.W.Frag) (mg : Str → Option Value) (base : Heap) (C : Addr) (x : Str) (sp : Sp) : Prop where
  ex : ∃ (fI : Addr) (fd : FuncData) (ps : List Str), OexC K C ∧ PySem.W.findIn K (.ref C) "__init__" = some (some (.ref fI)) ∧ PySem.W.typeIn K (.ref fI) = some (.type "function") ∧ FnOk P w K mg base CX0 1 fI fd ps sp ∧ Binds K fd ps [] ∧ mg x = some (.ref C)
theorem pmk_exU {X : Cx} {C : Addr} {x : Str} {sp : Sp} {e : Expr} {es : List Expr} {ta : TA} {p pos : Pos} (M : ExMk X.prog X.w X.K X.mg X.base C x sp) (hr : Room 2 X.A) (hg : Gl X x) (ha : PA X (e :: es) ta)
    (hdb : (x == ("__debug__" : Str)) = false := by decide) (he : starEach (e :: es) X.env = (false, eval e X.env) :: starEach es X.env := by rfl) (hpl : (backTo pos (starEach es X.env)).any (·.1) = false := by rfl) :
    PMk X (.Call (.Name x p) (e :: es) [] pos) (tMkO C sp [] ta) := by
  obtain ⟨fI, fd, ps, T, iC, tI, F, b, hm⟩ := M.ex
  exact pmk_oex T iC tI F hr b .nil pass0 hg hm ha hdb he hpl
def tRaiseX (C : Addr) (sp : Sp) (E : XK) (ta : TA) : TS := fun _ σ H => tMkO C sp [] ta σ H fun cls d H' => E cls d H'
def tTry1 (K : PySem.W.Frag) (c : Value) (i : Nat) (tb : WX → TS) (ts : Addr → Value → Option Addr → TS) : TS := fun D σ H => tb (wAs1 K c i ts D) D σ H
structure Glob (w : World) (K : PySem.W.Frag) (mg : Str → Option Value) (C : Cs) : Prop where
  b_len : mg "len" = none
  b_isinstance : mg "isinstance" = none
  b_all : mg "all" = none
  b_sum : mg "sum" = none
  b_ord : mg "ord" = none
  b_min : mg "min" = none
  b_max : mg "max" = none
  b_int : mg "int" = none
  b_bool : mg "bool" = none
  b_str : mg "str" = none
  b_list : mg "list" = none
  b_tuple : mg "tuple" = none
  b_dict : mg "dict" = none
  b_range : mg "range" = none
  b_zip : mg "zip" = none
  b_enumerate : mg "enumerate" = none
  mStoreError : mg "StoreError" = some (.ref C.cStoreError)
  mBadValue : mg "BadValue" = some (.ref C.cBadValue)
  mUnknown : mg "Unknown" = some (.ref C.cUnknown)
  mBadLine : mg "BadLine" = some (.ref C.cBadLine)
  mFORMS : mg "FORMS" = some (.ref C.dForms)
  mRANGES : mg "RANGES" = some (.ref C.dRanges)
  mBroken : mg "Broken" = some (.ref C.cBroken)
  mNotHeld : mg "NotHeld" = some (.ref C.cNotHeld)
  mFault : mg "Fault" = some (.ref C.cFault)
  mNoRoom : mg "NoRoom" = some (.ref C.cNoRoom)
  mCut : mg "Cut" = some (.ref C.cCut)
  kForms : KDt w K C.dForms formsV
  kRanges : KDt w K C.dRanges rangesV
  fBadValue : ExF K C.cBadValue
  fBadLine : ExF K C.cBadLine
  xfBadLine : XfC K C.cBadLine
  xmBadLine : PySem.W.exmOne K (.ref C.cBadLine) (.ref C.cBadLine) = some true
  kiBLSE : PySem.W.kitOne K (.ref C.cBadLine) (.ref C.cStoreError) = some true
  kiBLVE : PySem.W.kitOne K (.ref C.cBadLine) (.type "ValueError") = some true
  kiBLBadValue : PySem.W.kitOne K (.ref C.cBadLine) (.ref C.cBadValue) = some false
  kiBLBroken : PySem.W.kitOne K (.ref C.cBadLine) (.ref C.cBroken) = some false
  kiBLUnknown : PySem.W.kitOne K (.ref C.cBadLine) (.ref C.cUnknown) = some false
  kiBLNotHeld : PySem.W.kitOne K (.ref C.cBadLine) (.ref C.cNotHeld) = some false
  kiBLFault : PySem.W.kitOne K (.ref C.cBadLine) (.ref C.cFault) = some false
  kiBLNoRoom : PySem.W.kitOne K (.ref C.cBadLine) (.ref C.cNoRoom) = some false
  kiBLCut : PySem.W.kitOne K (.ref C.cBadLine) (.ref C.cCut) = some false
  b_ValueError : mg "ValueError" = none
  xfBadValue : XfC K C.cBadValue
  oBadValue : OexC K C.cBadValue
  oBadLine : OexC K C.cBadLine
  nBadValue_parameter : PySem.W.findIn K (.ref C.cBadValue) "parameter" = some none
  nBadValue_told : PySem.W.findIn K (.ref C.cBadValue) "told" = some none
  nBadLine_line : PySem.W.findIn K (.ref C.cBadLine) "line" = some none
  nBadLine_column : PySem.W.findIn K (.ref C.cBadLine) "column" = some none
  nBadLine_told : PySem.W.findIn K (.ref C.cBadLine) "told" = some none
  xmBadValue : PySem.W.exmOne K (.ref C.cBadValue) (.ref C.cBadValue) = some true
  kiBVSE : PySem.W.kitOne K (.ref C.cBadValue) (.ref C.cStoreError) = some true
  kiBVBL : PySem.W.kitOne K (.ref C.cBadValue) (.ref C.cBadLine) = some false
  kiBVUn : PySem.W.kitOne K (.ref C.cBadValue) (.ref C.cUnknown) = some false
/-- what __init__ leaves -/
def initEnd (K : PySem.W.Frag) (H : Hp) (a c : Addr) (word : Str) (ys : List V) (fs : List (Str × V)) (Q : VK) : Prop := ∀ (d t1 t2 : Addr) (H' : Hp), (∀ b u, b ≠ a → H b = some u → H' b = some u) → H d = none → d ≠ a → H' a = some (exo a c (some d)) → H' d = some (exd d (("told", .ref t2) :: fs)) → SqT K H' t1 ys → SqT K H' t2 [.str word, .ref t1] → Q .non H'
def sp_init_BadValue (K : PySem.W.Frag) (C : Cs) : Sp := fun vs H Q _ => ∃ (a : Addr) (y : V), vs = [.ref a, y] ∧ H a = some (exo a C.cBadValue none) ∧ initEnd K H a C.cBadValue "BadValue" [y] [("parameter", y)] Q
def sp_init_BadLine (K : PySem.W.Frag) (C : Cs) : Sp := fun vs H Q _ => ∃ (a : Addr) (y1 y2 : V), vs = [.ref a, y1, y2] ∧ H a = some (exo a C.cBadLine none) ∧ initEnd K H a C.cBadLine "BadLine" [y1, y2] [("column", y2), ("line", y1)] Q
end AG
/-! AgHot: exceptions whose context is None; calls in an except suite -/
namespace AG
open PySem PySem.Spec L2 PyProof.Rows
section
variable {X : Cx} {x n : Str} {c : Value} {i : Nat} {body suite : List Stmt} {b₀ : Stmt} {np pos pos' : Pos} {tb : WX → TS} {ts : Addr → Value → Option Addr → TS} {more : List ExceptHandler}
theorem ps_try_as1N (hs : X.stack = X.env :: X.outer) (hf : X.env.frame = some X.env.locals) (hN : X.N.Nodup) (hi : X.N[i]? = some n) (hln : X.env.kindOf n = some .local) (hc : Names X x c)
    (hb : ∀ (W : WX) (pn : List (Addr × Obj)) (xe : Value → Shared → Prop), L2N.Takes (X.tr pn xe) W → PassesOwn (model X.prog X.w) X.A X.env xe → PSs (X.tr pn xe) body (tb W))
    (hsu : ∀ (a : Addr) (oe : Obj) (cls : Value) (d : Option Addr) (pn : List (Addr × Obj)), L2N.Zn cls d oe → (∃ vs, oe.data = .fields vs) → PSs (X.suite a ((a, oe) :: pn)) (b₀ :: suite) (ts a cls d)) :
    PS X (.Try body (.ExceptHandler (some (.Name x np)) (some n) (b₀ :: suite) pos' :: more) [] [] pos) (fun D σ H => tb (wAs1 X.K c i ts D) D σ H) := by
  refine ⟨fun pins s σ H D I h => ?_⟩
  have ok := I.ok
  have hfr : X.A.frames = some (X.env :: X.outer) := by rw [ok.frames, hs]
  have hloc : Loc X.env.scope n := .inl hln
  refine wpAny_Try_except ?_
  refine wpAny_mono ((hb (wAs1 X.K c i ts D) (X.pn ++ pins) (fun e s₁ => wpAny (model X.prog X.w) X.A (noteFrame e X.env) (fun _ s₂ => wpAny (model X.prog X.w) X.A (setFlight e none) (fun _ s₃ =>
    wpAny (model X.prog X.w) X.A (handleBy e X.env (.ExceptHandler (some (.Name x np)) (some n) (b₀ :: suite) pos' :: more)) (SP X pins D) X.xe s₃) X.xe s₂) X.xe s₁) (fun u s' xx => ?_) PassesOwn.looking).run [] s σ H D (I.toTry _) h) (fun f s1 hsp => ?_) (fun e s1 he => he)
  · -- the catch
    obtain ⟨a, B, sI, pins', σ', H', cls, d, rfl, J', nb, up, sky, na, os, ag, hb1, hyes⟩ := xx
    have J : Inv X pins σ' H' sI := J'.ofTry ok
    have sky' : Sky B (X.env :: X.outer) a (L2N.Zn cls d) X.env.locals s'.heap := by rw [← hs]; exact sky
    show wpAny (model X.prog X.w) X.A (noteFrame (.ref a) X.env) _ _ _
    refine L2N.Sky.land L2N.Zn.steady hfr hf sky' fun h3 fl3 up3 => ?_
    have J3 : Inv X pins σ' H' { s' with heap := h3 } := J.landed nb fl3.1 (up.trans up3) os ag
    obtain ⟨oe3, vs3, he3, hz3, hd3⟩ := fl3.there
    have notFr : ∀ {h : Heap} {o : Obj} {vs : Array Value}, h.FunFrames B (X.env :: X.outer) → h.get? a = some o → o.data = .fields vs → a ∉ frs (X.env :: X.outer) := fun {h o vs} ff e dd hm => by
      obtain ⟨_, o', e', hnf⟩ := ff.mem hm
      rw [e] at e'; cases e'
      exact hnf _ dd
    have nfr := notFr fl3.2.2.1 he3 hd3
    have nL : a ≠ X.env.locals := fun z => nfr (List.mem_filterMap.mpr ⟨X.env, List.mem_cons_self, by rw [hf, z]⟩)
    have nF : a ∉ X.fs := fun hm => by
      obtain ⟨e, he, q⟩ := List.mem_filterMap.mp hm
      exact nfr (List.mem_filterMap.mpr ⟨e, List.mem_cons_of_mem _ he, q⟩)
    have S3 := J3.suite he3 hd3 na nL nF
    refine wpAny_handleBy_cons (codeAny_handlers_test ?_) (by intro q; cases q)
    have LT : PySem.W.Looks (model X.prog X.w) h3 (typeOf (.ref a)) cls := fun A Q E s k q => wpAny_typeOf_ref (k _ _ he3) (by rw [hz3.1]; exact q)
    have LM := PySem.W.exm_one (M := model X.prog X.w) (J3.kIn) LT hb1
    have test : ∀ {Q : Value → Shared → Prop} {E : Value → Shared → Prop}, Q c { s' with heap := h3 } → wpAny (model X.prog X.w) (X.A.mark (some (.ref a))) (eval (.Name x np) X.env) Q E { s' with heap := h3 } := fun {Q E} q => by
      obtain ⟨hg, hdbg, hm | ⟨hm, hv, hnn⟩⟩ := hc
      · exact ld_glob (X := X.suite a ((a, oe3) :: (X.pn ++ pins))) S3 hg hm q hdbg
      · exact ld_blt (X := X.suite a ((a, oe3) :: (X.pn ++ pins))) S3 hg hm hv q hnn hdbg
    refine test (LM.here ?_)
    refine codeAny_handlers_suite_as ?_
    refine HandSPX.lands_againZ fl3 fun h4 fl4 up4 => ?_
    have J4 : Inv X pins σ' H' { s' with heap := h4 } := J.landed nb fl4.1 ((up.trans up3).trans up4) os ag
    obtain ⟨oe4, vs4, he4, hz4, hd4⟩ := fl4.there
    have S4 := J4.suite he4 hd4 na nL nF
    refine store_ok (X := X.suite a ((a, oe4) :: (X.pn ++ pins))) (v := .ref a) S4 hN hi hloc rfl (fun s5 S5 => ?_) (.inr hln)
    refine wpAny_mono ((hsu a oe4 cls d (X.pn ++ pins) hz4 ⟨_, hd4⟩).run [] s5 _ H' _ S5 (hyes a na)) (fun f s6 hsp => ?_) (fun _ _ z => False.elim z)
    have end_ : ∀ {σ6 : L2.St} {H6 : Hp} {Q : Shared → Prop}, L2.Inv (X.suite a ((a, oe4) :: (X.pn ++ pins))) [] σ6 H6 s6 → (∀ s7, L2.Inv X pins (σ6.set i none) H6 s7 → Q s7) →
        wpAny (model X.prog X.w) X.A (do bindName X.env n .none; unbindBehindTheSuite X.env n pos') (fun _ s7 => Q s7) X.xe s6 := fun {σ6 H6 Q} S6 hq => gone_ok (S6.unsuite ok) hN hi hln hq
    cases f with
    | next =>
      obtain ⟨σ6, H6, S6, q6⟩ := hsp
      exact end_ S6 fun s7 J7 => ⟨_, _, J7, q6⟩
    | brk =>
      obtain ⟨σ6, H6, S6, q6⟩ := hsp
      exact end_ S6 fun s7 J7 => ⟨_, _, J7, q6⟩
    | cont =>
      obtain ⟨σ6, H6, S6, q6⟩ := hsp
      exact end_ S6 fun s7 J7 => ⟨_, _, J7, q6⟩
    | ret u =>
      obtain ⟨v6, σ6, H6, S6, r6, q6⟩ := hsp
      exact end_ S6 fun s7 J7 => ⟨_, _, _, J7, r6, q6⟩
  · cases f with
    | next =>
      obtain ⟨σ', H', J', q⟩ := hsp
      exact wpAny_execs_nil ⟨σ', H', J'.ofTry ok, q⟩
    | brk =>
      obtain ⟨σ', H', J', q⟩ := hsp
      exact ⟨σ', H', J'.ofTry ok, q⟩
    | cont =>
      obtain ⟨σ', H', J', q⟩ := hsp
      exact ⟨σ', H', J'.ofTry ok, q⟩
    | ret u =>
      obtain ⟨v, σ', H', J', r, q⟩ := hsp
      exact ⟨v, σ', H', J'.ofTry ok, r, q⟩
end
/-! ### the making of an exception, its context told -/
section
variable {X : Cx} {C : Addr} {x : Str} {sp : Sp} {e : Expr} {es : List Expr} {ta : TA} {p pos : Pos}
theorem pmk_exN (M : ExMk X.prog X.w X.K X.mg X.base C x sp) (hr : Room 2 X.A) (hg : Gl X x) (ha : PA X (e :: es) ta)
    (hdb : (x == ("__debug__" : Str)) = false := by decide) (he : starEach (e :: es) X.env = (false, eval e X.env) :: starEach es X.env := by rfl) (hpl : (backTo pos (starEach es X.env)).any (·.1) = false := by rfl) :
    L2N.PMk X (.Call (.Name x p) (e :: es) [] pos) (tMkO C sp [] ta) := by
  obtain ⟨fI, fd, ps, T, iC, tI, F, b, hm⟩ := M.ex
  intro pins s0 σ H0 Q I0 h0
  obtain ⟨_, _, _, _, mr, _, _, _, _, _, _, _, _, _, _, cAt, eqm⟩ := T.cls
  refine wpAny_Call_Name_kw (ld_glob I0 hg hm ?_ hdb)
  refine PySem.W.callWith_K (h₀ := X.base) I0.ok.mod.kin T.kC (thn (ha.run pos pins s0 σ H0 _ I0 h0) fun as ⟨u0, gg, dw, kt, oo⟩ ⟨ws, G1, J1, rv, hw, want⟩ => ⟨J1.kIn, ?_⟩) he hpl
  show wpAny _ _ (call (.ref C) as) _ _ _
  have le1 : u0.objs.size ≤ u0.objs.size + 1 := by omega
  have fresh := J1.hok.fresh (a := u0.objs.size + 1) le1
  have ask := want (u0.objs.size + 1) fresh
  rw [List.append_nil] at ask
  have keep : ∀ b o, u0.get? b = some o → ((u0.push (PySem.W.kdv_tup as)).push (PySem.HandSPX.excO C u0.objs.size)).get? b = some o := by
    intro b o z
    exact Heap.get?_push_of_some _ (Heap.get?_push_of_some _ z)
  have there : ((u0.push (PySem.W.kdv_tup as)).push (PySem.HandSPX.excO C u0.objs.size)).get? (u0.objs.size + 1) = some (PySem.HandSPX.excO C u0.objs.size) := by heap_get
  have J2 := J1.laid (t' := kt) (a := u0.objs.size + 1) (o := exo (u0.objs.size + 1) C none) (h' := (u0.push (PySem.W.kdv_tup as)).push (PySem.HandSPX.excO C u0.objs.size)) keep le1 (exo_ok there)
  have rv2 : Vals (V.ref (u0.objs.size + 1) :: ws) (Value.ref (u0.objs.size + 1) :: as) := .cons rfl rv
  have many : (Value.ref (u0.objs.size + 1) :: as).length = ps.length := by
    rw [← rv2.length]
    exact F.len _ _ _ _ ask
  have bd := b _ (Value.ref (u0.objs.size + 1) :: as) J2.kIn (by rw [List.append_nil]; exact many)
  rw [List.append_nil] at bd
  have few : as.length ≤ sizeLine := by
    have := Paired.length rv
    rw [sizeLine_eq]
    omega
  refine wpAny_call (PySem.HandSPX.call_own PySem.F.excBase_ValueError (fun Y => PySem.HandSPX.refsVE_contains Y mr eqm) (J1.kIn _ _ cAt) (PySem.W.looks_findIn J1.kIn iC) (fun self => PySem.W.bind_fn J1.kIn self tI) few
    (codeAny_mono (F.run _ X.stack _ _ ⟨Value.ref (u0.objs.size + 1) :: as, []⟩ (Value.ref (u0.objs.size + 1) :: as) _ _ (fun _ _ _ => False) (hr.make C as []) (J2.env0.make C as []) bd rv2 ask) fun r ⟨v0, w0, w1, w2, w3⟩ got => ?_))
  cases r with
  | error er => exact got.elim
  | ok fl =>
    cases fl with
    | ret u =>
      obtain ⟨v, G2, os2, bare2, un2, hok2, ru, ev, d, fs, ea, ed, hd1, fin⟩ := got
      subst ev
      obtain ⟨t0, B, J, kB, nB, oB, na⟩ := mk_end0 (d2 := w1) (t2 := w2) J1 le1 keep un2 hok2 os2 bare2 ea ed hd1
      refine ⟨ru, u0.objs.size + 1, _, _, ⟨B, v0 |> fun _ => w0, w1, w2, w3⟩, _, .ref C, some d, rfl, J, kB, nB, oB, ⟨rfl, rfl, fun vs hv => ?_⟩, rfl, rfl, na, rfl, bare2, raises_own T.exC T.tyC, fin⟩
      cases hv
      rfl
    | next => exact got.elim
    | brk => exact got.elim
    | cont => exact got.elim
end
/-! ### isinstance(e, (classes)) -/
def rIsXT (K : PySem.W.Frag) (D : Addr) (a : Addr) (cls : Value) (d : Option Addr) : List V → Hp → VK → Prop := fun xs H Q => ∃ (tp : Addr) (cs : List V) (ws : List Value) (b : Bool) (dd : Addr) (fs : List (Str × V)), xs = [.ref a, .ref tp] ∧ H tp = some (.tup cs) ∧ (∀ its, Vals cs its → its = ws) ∧ cls = .ref D ∧ d = some dd ∧ H dd = some (.xd fs) ∧ PySem.W.kitAny K (.ref D) ws = some b ∧ Q (.bl b) H
theorem call_isXT {X : Cx} {a D : Addr} {oe : Obj} {cls : Value} {d : Option Addr} {pn : List (Addr × Obj)} (C : ExF X.K D) (hz : Zc cls d oe) (hf : ∃ vs, oe.data = .fields vs) : CallR (X.suite a ((a, oe) :: pn)) (.builtin "isinstance") (rIsXT X.K D a cls d) := by
  intro pins s σ H xs us Q I r h
  obtain ⟨tp, cs, ws, b, dd, fs, rfl, hT, hws, ec, ed, hdd, e, q⟩ := h
  subst ec
  subst ed
  cases r with
  | cons rx rr =>
    cases rr with
    | cons rt rr =>
      cases rr
      cases rx
      cases rt
      obtain ⟨_, its, rv, o, h1, h2, n, h3⟩ := I.hok tp _ hT
      obtain rfl := hws _ rv
      obtain ⟨oc, od, dt, sl⟩ := o
      simp only at h2 h3
      subst h2 h3
      obtain ⟨hget, _⟩ := I.pin (a, oe) (List.mem_append.mpr (.inl List.mem_cons_self))
      obtain ⟨vs, hv⟩ := hf
      obtain ⟨mA, hns, _⟩ := I.hok dd _ hdd
      obtain ⟨od, ho, _⟩ := lookIn_ns hns
      have J : PySem.W.InstAt s.heap a oe D (some od) := ⟨hget, hz.1, by unfold PySem.W.notCls; rw [hv] <;> rfl, by rw [hz.2]; exact ho⟩
      exact PySem.W.kia_tup (PySem.W.kitx_exc C.cl C.hg C.hk C.hs C.ha C.hn C.ht C.hm) I.kIn J h1 e (fun z => nomatch z) fun tk => ⟨.bl b, H, I.kept (t' := tk) fun _ _ z => z, rfl, q⟩
theorem vals_refs : ∀ {as : List Addr} {its : List Value}, Vals (as.map V.ref) its → its = as.map Value.ref
  | [], _, .nil => rfl
  | a :: as, _, .cons r rr => by
    rw [List.map_cons, ← vals_refs rr]
    congr 1
theorem r_isXT {K : PySem.W.Frag} {D a tp dd : Addr} {as : List Addr} {fs : List (Str × V)} {b : Bool} {H : Hp} {Q : VK} (h : H dd = some (.xd fs)) (hT : H tp = some (.tup (as.map V.ref))) (e : PySem.W.kitAny K (.ref D) (as.map Value.ref) = some b) (q : Q (.bl b) H) : rIsXT K D a (.ref D) (some dd) [.ref a, .ref tp] H Q :=
  ⟨tp, _, _, b, dd, fs, rfl, hT, fun _ r => vals_refs r, rfl, rfl, h, e, q⟩
/-! ### defs called in an except suite -/
structure CalH (P : Program) (w : World) (K : PySem.W.Frag) (mg : Str → Option Value) (base : Heap) (k : Nat) (x : Str) (sp : Sp) : Prop where
  ex : ∃ (f : Addr) (fd : FuncData) (ps : List Str), L2H.FnH P w K mg base CX0 k f fd ps sp ∧ mg x = some (.ref f) ∧ PySem.W.keepIn K (.ref f) = true ∧ Binds K fd ps []
theorem hotc_suite {X : Cx} {a : Addr} {oe : Obj} {cls : Value} {d : Option Addr} {pn : List (Addr × Obj)} (hz : L2N.Zn cls d oe) (hf : ∃ vs, oe.data = .fields vs) : L2H.HotC (X.suite a ((a, oe) :: pn)) := by
  obtain ⟨vs, hd⟩ := hf
  exact ⟨(a, oe), ⟨rfl, vs, hd, hz.2.2 vs hd⟩, List.mem_cons_self⟩
theorem hotc_cxH {CX : CXT} {P : Program} {w : World} {K : PySem.W.Frag} {mg : Str → Option Value} {base : Heap} {N : List Str} {q : Str} {sc : Scope} {f : Addr} {cd : Value} {A : Around} {outer : List Env} {s : Shared} {H : Hp} {E : XK} {p : Addr × Obj} (h : L2H.Hot1 A p) : L2H.HotC (L2H.cxH CX P w K mg base N q sc f cd A outer s H E p).nox :=
  ⟨p, ⟨h.1, h.2⟩, List.mem_singleton_self p⟩
section
variable {X : Cx} {k j : Nat} {x : Str} {sp : Sp} {p pos : Pos} {e : Expr} {es : List Expr} {t : TA}
theorem pe_cH (c : CalH X.prog X.w X.K X.mg X.base k x sp) (hr : L2H.RoomH j X.A) (hk : k ≤ j) (hc : L2H.HotC X) (hg : Gl X x) (ha : PA X (e :: es) t)
    (hdb : (x == ("__debug__" : Str)) = false := by decide) (he : starEach (e :: es) X.env = (false, eval e X.env) :: starEach es X.env := by rfl) (hpl : (backTo pos (starEach es X.env)).any (·.1) = false := by rfl) :
    PE X (.Call (.Name x p) (e :: es) [] pos) (tCall sp [] E0 t) := by
  obtain ⟨f, fd, ps, F, hm, kp, b⟩ := c.ex
  refine pe_weak (L2H.pe_callH (E := fun _ => E0) F (hr.mono hk) hc hg hm kp b (fun σ pins H s e s' I z => z.elim) ha hdb he hpl) fun σ H Q q => ?_
  have e2 : (fun (vs : List V) H1 => sp (vs ++ []) H1 Q E0) = fun vs H1 => sp vs H1 Q E0 := by
    funext vs H1
    rw [List.append_nil]
  have q2 : t σ H fun vs H1 => sp (vs ++ []) H1 Q E0 := q
  rw [e2] at q2
  exact q2
end
def tNo : TS := fun _ _ _ => False
theorem ps_no {X : Cx} {s : Stmt} : PS X s tNo := ⟨fun _ _ _ _ _ _ h => h.elim⟩
theorem okH {P : Program} {w : World} {K : PySem.W.Frag} {mg : Str → Option Value} {base : Heap} {x qual : Str} {st : Stmt} {f : Addr} {fd : FuncData} {N ps : List Str} {k : Nat} {sp : Sp} (F : Fun K x qual st f fd) (S : FnScope N ps (defScope st)) (len : ∀ vs H Q E, sp vs H Q E → vs.length = ps.length)
    (hb : ∀ (cdv : Value) (A : Around) (outer : List Env) (s : Shared) (H : Hp) (vs : List V) (Q : VK) (E : XK) (p : Addr × Obj), L2H.Hot1 A p → L2H.RoomH k (A.deeper (envOfC qual (defScope st) s.heap.objs.size f cdv)) → sp vs H Q E →
      ∃ t, PSs (L2H.cxH CX0 P w K mg base N qual (defScope st) f cdv A outer s H E p).nox (defBody st) t ∧ t { nx := fun _ H' => Q .non H', rt := Q } (L2.start N vs) H) : L2H.FnH P w K mg base CX0 (k + 1) f fd ps sp := by
  obtain ⟨oc, od, kV, doc, pm, an, cdv, ct, osl, rfl, lk, hcd⟩ := F.ex
  refine L2H.fn_ofH lk hcd S len fun A outer s H vs Q E p hot hr hsp => ?_
  obtain ⟨t, h, q⟩ := hb cdv A outer s H vs Q E p hot hr hsp
  exact ⟨t, h.nox, q⟩
theorem okH_mono {P : Program} {w : World} {K : PySem.W.Frag} {mg : Str → Option Value} {base : Heap} {CX : CXT} {k j : Nat} {f : Addr} {fd : FuncData} {ps : List Str} {sp : Sp} (F : L2H.FnH P w K mg base CX k f fd ps sp) (h : k ≤ j) : L2H.FnH P w K mg base CX j f fd ps sp :=
  ⟨F.len, fun A outer s H args us vs Q E p hr => F.run A outer s H args us vs Q E p (hr.mono h)⟩
theorem okN {P : Program} {w : World} {K : PySem.W.Frag} {mg : Str → Option Value} {base : Heap} {x qual : Str} {st : Stmt} {f : Addr} {fd : FuncData} {N ps : List Str} {k : Nat} {sp : Sp} (F : Fun K x qual st f fd) (S : FnScope N ps (defScope st)) (len : ∀ vs H Q E, sp vs H Q E → vs.length = ps.length)
    (hb : ∀ (cdv : Value) (A : Around) (outer : List Env) (s : Shared) (H : Hp) (vs : List V) (Q : VK) (E : XK), Room k (A.deeper (envOfC qual (defScope st) s.heap.objs.size f cdv)) → sp vs H Q E →
      ∃ t, PSs (cxOf (L2N.CX P w) P w K mg base N qual (defScope st) f cdv A outer s H E) (defBody st) t ∧ t { nx := fun _ H' => Q .non H', rt := Q } (L2.start N vs) H) : FnOk P w K mg base (L2N.CX P w) (k + 1) f fd ps sp := by
  obtain ⟨oc, od, kV, doc, pm, an, cdv, ct, osl, rfl, lk, hcd⟩ := F.ex
  exact fn_of lk hcd S len fun A outer s H vs Q E hr hsp => hb cdv A outer s H vs Q E hr hsp
end AG
/-! AgZip: zip(tuple, list) -/
namespace AG
open PySem PySem.Spec L2 PyProof.Rows
def ItzM (K : PySem.W.Frag) (a b : Addr) : It :=
  ⟨fun i H => ∃ (xs ys : List V) (x y : V), SqT K H a xs ∧ SqL K H b ys ∧ xs[i]? = some x ∧ ys[i]? = some y,
    fun i H v H' => ∃ T x y, v = .ref T ∧ H T = none ∧ H' = upd H T (.tup [x, y]) ∧ (∀ xs, SqT K H a xs → xs[i]? = some x) ∧ ∀ ys, SqL K H b ys → ys[i]? = some y,
    fun i H => ∃ xs ys : List V, SqT K H a xs ∧ SqL K H b ys ∧ i ≤ xs.length ∧ i ≤ ys.length ∧ (i = xs.length ∨ i = ys.length)⟩
theorem turn_zipM {P : Program} {w : World} {K : PySem.W.Frag} {elts : List Expr} {kk : Nat} {tpos : Pos} {a b z TI TO i1 i2 : Addr} (D : ZipApart z TI TO i1 i2 a b) :
    Turn P w K (.Tuple elts kk tpos) (ItzM K a b) [z, TI, TO, i1, i2] z (fun i h => IsZip h z TI TO .none ∧ IsTupOf2 h TI (.ref i1) (.ref i2) ∧ (∃ x y, IsTupOf2 h TO x y) ∧ h.IsTupleIter i1 a i ∧ h.IsListIter i2 b i) where
  mem := by simp
  obj := fun i h st c hc => by
    obtain ⟨hz, hTI, ⟨x, y, hTO⟩, ⟨o1, e1, _, d1⟩, ⟨o2, e2, _, d2⟩⟩ := st
    have e' : c = z ∨ c = TI ∨ c = TO ∨ c = i1 ∨ c = i2 := by simpa using hc
    rcases e' with q | q | q | q | q
    · rw [q]; exact ⟨_, hz, fun v q => nomatch q⟩
    · rw [q]; exact ⟨_, hTI, fun v q => nomatch q⟩
    · rw [q]; exact ⟨_, hTO, fun v q => nomatch q⟩
    · rw [q]; exact ⟨o1, e1, fun v q => by rw [d1] at q; cases q⟩
    · rw [q]; exact ⟨o2, e2, fun v q => by rw [d2] at q; cases q⟩
  keep := fun i h h' st k => by
    obtain ⟨hz, hTI, ⟨x, y, hTO⟩, h1, h2⟩ := st
    exact ⟨k z (by simp) _ hz, k TI (by simp) _ hTI, ⟨x, y, k TO (by simp) _ hTO⟩, h1.at fun o q => k i1 (by simp) o q, h2.at fun o q => k i2 (by simp) o q⟩
  item := by
    intro X hP hw hK hc i pins s σ H E I hf st hg
    subst hP hw hK
    obtain ⟨hz, hTI, ⟨x0, y0, hTO⟩, h1, h2⟩ := st
    obtain ⟨xs, ys, x, y, hqx, hqy, hx, hy⟩ := hg
    obtain ⟨its, rv, p, _⟩ := I.tuple hqx
    obtain ⟨its2, rv2, p2, _⟩ := I.list hqy
    obtain ⟨u, hu, ru⟩ := rv.get hx
    obtain ⟨u2, hu2, ru2⟩ := rv2.get hy
    have hzl : z < s.heap.objs.size := Heap.lt_size hz
    have lt1 : i < its.toArray.size := by
      have := (List.getElem?_eq_some_iff.mp hu).1
      simpa using this
    have lt2 : i < its2.toArray.size := by
      have := (List.getElem?_eq_some_iff.mp hu2).1
      simpa using this
    have S : ZipSep2 z TI TO i1 i2 [i1, a] [i2, b] := { TIz := D.TIz, TOz := D.TOz, TITO := D.TITO, TIi1 := D.TIi1, mem1 := by simp, zf1 := by simp; exact ⟨Ne.symm D.i1z, Ne.symm D.l1z⟩, Tf1 := by simp; exact ⟨D.TOi1, Ne.symm D.l1TO⟩, TIi2 := D.TIi2, mem2 := by simp, zf2 := by simp; exact ⟨Ne.symm D.i2z, Ne.symm D.l2z⟩, Tf2 := by simp; exact ⟨D.TOi2, Ne.symm D.l2TO⟩, sep1_2 := by simp; exact ⟨D.i12, Ne.symm D.l2i1⟩, sep2_1 := by simp; exact ⟨Ne.symm D.i12, Ne.symm D.l1i2⟩ }
    refine wpAny_pyNext_zipD2_item S (Draws.tuple (prog := X.prog) (w := X.w) (A := X.A.in1) (by exact I.ok.hd hc) i1 a D.l1i1 its.toArray) (Draws.list (prog := X.prog) (w := X.w) (A := X.A.in1) (by exact I.ok.hd hc) i2 b D.l2i2 its2.toArray) hz hTI hTO ⟨h1, p⟩ ⟨h2, p2.isList⟩ lt1 lt2 fun v1 v2 h' tk hv1 hv2 z' TO' st1' st2' hT hsz hk => ?_
    have ev1 : v1 = u := by
      have hy' : its.toArray[i]? = some v1 := hv1
      rw [List.getElem?_toArray, hu] at hy'
      exact (Option.some.inj hy').symm
    have ev2 : v2 = u2 := by
      have hy' : its2.toArray[i]? = some v2 := hv2
      rw [List.getElem?_toArray, hu2] at hy'
      exact (Option.some.inj hy').symm
    subst ev1 ev2
    obtain ⟨h1', _⟩ := st1'
    obtain ⟨h2', _⟩ := st2'
    refine ⟨_, rfl, wpAny_letOwnedTupleGo_zip (s := { s with heap := h', toks := tk }) z' fun h'' z'' sb => ?_⟩
    have hT2 : h''.get? s.heap.objs.size = some { cls := .type "tuple", data := .seq #[v1, v2] } := (sb.2 _ (Nat.ne_of_gt hzl)).trans hT
    have new : ObjOk X.prog X.w (upd H s.heap.objs.size (.tup [x, y])) h'' s.heap.objs.size (.tup [x, y]) :=
      ⟨by show 2 ≤ sizeLine; decide, [v1, v2], .cons ru (.cons ru2 .nil), ⟨_, hT2, rfl, _, rfl⟩⟩
    have I1 : L2.Inv X pins σ (upd H s.heap.objs.size (.tup [x, y])) { s with heap := h'', toks := tk } :=
      I.turnedNew (t' := tk) (ch := [z, TI, TO, i1, i2]) (fun c o hb q => (sb.2 c (fun q' => hb (by simp [q']))).trans (hk c o (fun q' => hb (by simp [q'])) (fun q' => hb (by simp [q'])) (fun q' => hb (by simp [q'])) (fun q' => hb (by simp [q'])) q)) hf (Nat.le_refl _) new
    refine ⟨.ref s.heap.objs.size, _, I1, rfl, ⟨_, x, y, rfl, I.hok.fresh (Nat.le_refl _), rfl, fun l hl => by rw [I.tuple_inj hl hqx]; exact hx, fun l hl => by rw [I.list_inj hl hqy]; exact hy⟩, ⟨z'', ?_, ⟨v1, v2, ?_⟩, ?_, ?_⟩, fun c hcm => ?_⟩
    · exact (sb.2 _ D.TIz).trans (hk _ _ D.TIz D.TITO D.TIi1 D.TIi2 hTI)
    · exact (sb.2 _ D.TOz).trans TO'
    · exact h1'.at fun o q => (sb.2 _ D.i1z).trans q
    · exact h2'.at fun o q => (sb.2 _ D.i2z).trans q
    · have hlt : c < s.heap.objs.size := by
        have e' : c = z ∨ c = TI ∨ c = TO ∨ c = i1 ∨ c = i2 := by simpa using hcm
        rcases e' with q | q | q | q | q
        · rw [q]; exact hzl
        · rw [q]; exact Heap.lt_size hTI
        · rw [q]; exact Heap.lt_size hTO
        · rw [q]; obtain ⟨_, e1, _⟩ := h1; exact Heap.lt_size e1
        · rw [q]; obtain ⟨_, e2, _⟩ := h2; exact Heap.lt_size e2
      rw [upd_ne (Nat.ne_of_lt hlt)]
      exact (hf c hcm).1
  done := by
    intro X hP hw hK hc i pins s σ H E I hf st hg
    subst hP hw hK
    obtain ⟨hz, hTI, ⟨x0, y0, hTO⟩, h1, h2⟩ := st
    obtain ⟨xs, ys, hqx, hqy, hle1, hle2, hend⟩ := hg
    obtain ⟨its, rv, p, _⟩ := I.tuple hqx
    obtain ⟨its2, rv2, p2, _⟩ := I.list hqy
    have l1 := rv.length
    have l2 := rv2.length
    have S : ZipSep2 z TI TO i1 i2 [i1, a] [i2, b] := { TIz := D.TIz, TOz := D.TOz, TITO := D.TITO, TIi1 := D.TIi1, mem1 := by simp, zf1 := by simp; exact ⟨Ne.symm D.i1z, Ne.symm D.l1z⟩, Tf1 := by simp; exact ⟨D.TOi1, Ne.symm D.l1TO⟩, TIi2 := D.TIi2, mem2 := by simp, zf2 := by simp; exact ⟨Ne.symm D.i2z, Ne.symm D.l2z⟩, Tf2 := by simp; exact ⟨D.TOi2, Ne.symm D.l2TO⟩, sep1_2 := by simp; exact ⟨D.i12, Ne.symm D.l2i1⟩, sep2_1 := by simp; exact ⟨Ne.symm D.i12, Ne.symm D.l1i2⟩ }
    refine wpAny_pyNext_zipD2_end S (Draws.tuple (prog := X.prog) (w := X.w) (A := X.A.in1) (by exact I.ok.hd hc) i1 a D.l1i1 its.toArray) (Draws.list (prog := X.prog) (w := X.w) (A := X.A.in1) (by exact I.ok.hd hc) i2 b D.l2i2 its2.toArray) hz hTI hTO ⟨h1, p⟩ ⟨h2, p2.isList⟩ (by simp; omega) (by simp; omega) (by simp; omega) fun h' tk hk => ⟨rfl, I.turnedL (t' := tk) (ch := [z, TI, TO, i1, i2]) (fun c o hb q =>
      hk c o (fun q' => hb (by simp [q'])) (fun q' => hb (by simp [q'])) (fun q' => hb (by simp [q'])) (fun q' => hb (by simp [q'])) q) hf⟩
  self := fun A i s Q E st h => wpAny_pyIter_zip st.1 h
def iZipM (K : PySem.W.Frag) (ta : TA) : TI := fun σ H R => ta σ H fun vs H1 => ∃ a b xs ys, vs = [.ref a, .ref b] ∧ SqT K H1 a xs ∧ SqL K H1 b ys ∧ R (ItzM K a b) H1
theorem pi_zipM {X : Cx} {e e2 : Expr} {ta : TA} {p pos tpos : Pos} {elts : List Expr} {kk : Nat} (hg : Gl X "zip") (hm : X.mg "zip" = none) (ha : PA X [e, e2] ta)
    (hs : starEach [e, e2] X.env = (false, eval e X.env) :: starEach [e2] X.env := by rfl) (hpl : (backTo pos (starEach [e2] X.env)).any (·.1) = false := by rfl) :
    PI X (.Tuple elts kk tpos) (.Call (.Name "zip" p) [e, e2] [] pos) (iZipM X.K ta) := by
  refine ⟨fun pins s σ H R I h => ?_⟩
  refine Call_ (ld_blt I hg hm PyProof.Rows.boot_zip (PyProof.Rows.callWith_type1 (thn (ha.run pos pins s σ H _ I h) fun us s1 ⟨vs, H1, I1, r1, q1⟩ => ?_) hs hpl))
  obtain ⟨a, b, xs, ys, ex, hqx, hqy, q⟩ := q1
  subst ex
  cases r1 with
  | cons r rr =>
    cases rr with
    | cons r' rr =>
      cases rr
      cases r
      cases r'
      have fresh5 : ∀ c, c ∈ [s1.heap.objs.size + 4, s1.heap.objs.size + 2, s1.heap.objs.size + 3, s1.heap.objs.size, s1.heap.objs.size + 1] → FpOk X pins H1 c := fun c hcm => by
        have e' : c = s1.heap.objs.size + 4 ∨ c = s1.heap.objs.size + 2 ∨ c = s1.heap.objs.size + 3 ∨ c = s1.heap.objs.size ∨ c = s1.heap.objs.size + 1 := by simpa using hcm
        have hle : s1.heap.objs.size ≤ c := by
          rcases e' with z | z | z | z | z
          · rw [z]; exact Nat.le_add_right _ _
          · rw [z]; exact Nat.le_add_right _ _
          · rw [z]; exact Nat.le_add_right _ _
          · rw [z]; exact Nat.le_refl _
          · rw [z]; exact Nat.le_add_right _ _
        exact I1.fpOk hle (I1.hok.fresh hle)
      obtain ⟨its, rv, p1, _⟩ := I1.tuple hqx
      obtain ⟨its2, rv2, p2, _⟩ := I1.list hqy
      obtain ⟨o1, ho1, _⟩ := id p1
      refine zip_begins2 (begins_tuple a its.toArray) (begins_list b its2.toArray) p1 p2.isList fun h' hz hTI hTO h1 h2 hsz hk => wpAny_pyIter_zip hz ?_
      have I2 : L2.Inv X pins σ H1 { s1 with heap := h' } := I1.kept (t' := s1.toks) hk
      exact ⟨s1.heap.objs.size + 4, [s1.heap.objs.size + 4, s1.heap.objs.size + 2, s1.heap.objs.size + 3, s1.heap.objs.size, s1.heap.objs.size + 1], _, _, H1, rfl, I2, turn_zipM (PySem.W.ktu_apart s1.heap.objs.size a b (Heap.lt_size ho1) p2.lt), ⟨hz, hTI, ⟨_, _, hTO⟩, ⟨_, h1, rfl, rfl⟩, ⟨_, h2, rfl, rfl⟩⟩, fresh5, q⟩
theorem walk_zipM {K : PySem.W.Frag} {a b : Addr} {xs ys : List V} {n : Nat} (hn : n = min xs.length ys.length) : Walk (ItzM K a b) n (fun H => SqT K H a xs ∧ SqL K H b ys) (YPair (fun i => xs[i]?) (fun i => ys[i]?)) := by
  subst hn
  refine ⟨fun i _ hi q => ?_, fun _ q => ⟨xs, ys, q.1, q.2, by omega, by omega, by omega⟩, fun i H v H' _ q y => ?_⟩
  · have h1 : i < xs.length := by omega
    have h2 : i < ys.length := by omega
    exact ⟨xs, ys, xs[i], ys[i], q.1, q.2, by simp [h1], by simp [h2]⟩
  · obtain ⟨T, x, z, h1, h2, h3, h4, h5⟩ := y
    exact ⟨T, x, z, h1, h2, h3, h4 xs q.1, h5 ys q.2⟩
section
variable {K : PySem.W.Frag} {g : TG} {te : TE} {vs : List Nat} {σ : L2.St} {H : Hp} {Q : VK} {ta : TA}
theorem s_lc_zipM (h : ta σ H fun us H1 => ∃ a b xs ys, us = [.ref a, .ref b] ∧ SqT K H1 a xs ∧ SqL K H1 b ys ∧ LcB (ItzM K a b) g te vs σ H1 Q) : tLcN (iZipM K ta) g te vs σ H Q := h
theorem lcB_zipM {a b : Addr} {xs ys : List V} (hx : SqT K H a xs) (hy : SqL K H b ys) (hn : xs.length ≤ 1000000) (hg : GSt g) (R : Nat → V → Hp → Prop) (mR : ∀ i y H H', Same H H' → R i y H → R i y H')
    (ht : ∀ (i : Nat) x y T H2, xs[i]? = some x → ys[i]? = some y → Same H H2 → H2 T = some (.tup [x, y]) → ∀ Q2 : VK, (∀ y H5, Same H2 H5 → R i y H5 → Q2 y H5) → g (.ref T) (wipe σ vs) H2 fun σ2 H4 => wipe σ2 vs = wipe σ vs ∧ te σ2 H4 Q2)
    (hd : ∀ acc D H2, Turns R H2 (min xs.length ys.length) acc → H D = none → Same H H2 → H2 D = some (.lst acc) → Q (.ref D) H2) :
    ∃ a' b' xs ys, [V.ref a, V.ref b] = [.ref a', .ref b'] ∧ SqT K H a' xs ∧ SqL K H b' ys ∧ LcB (ItzM K a' b') g te vs σ H Q :=
  ⟨a, b, xs, ys, rfl, hx, hy, lcB_of (walk_zipM rfl) (stab_pair fun D acc H hD q => ⟨Same.sqT (Same.new hD) q.1, Same.sqL (Same.new hD) q.2⟩) hg (by omega) (fun H2 s => ⟨Same.sqT s hx, Same.sqL s hy⟩) R mR (fun i x H2 H3 hi s y Q2 q => by
    obtain ⟨T, x', y', rfl, hT, rfl, h1, h2⟩ := y
    exact ht i x' y' T _ h1 h2 (s.trans (Same.new hT)) upd_same Q2 fun y H5 s' r => q y H5 ((Same.new hT).trans s') r) hd⟩
end
end AG
namespace AG
open PySem PySem.Spec L2
open PyProof.Rows (envOfC)
def top (i : Nat) : Stmt := PySem.Challenge.pw_allgivenback_k88_bad_line.main.body.getD i (.Pass ⟨0, 0, 0, 0⟩)
section
variable {P : Program} {w : World} {K : PySem.W.Frag} {mg : Str → Option Value} {base : Heap} {C : Cs}
abbrev S_law_draws : Stmt := top 27
theorem sc_law_draws : FnScope ["_law_script", "_law_cell"] ["_law_script"] (defScope S_law_draws) := ⟨rfl, rfl, rfl, by decide +kernel, rfl, by decide +kernel, by decide +kernel⟩
def t_law_draws (K : PySem.W.Frag) (C : Cs) : TS :=
  (tClose (tRet (tLstN (tCons (tLcN (iList K (tVar 0)) (gName 1) (tCB rIntU (tCons (tVar 1) tNil)) [1]) (tCons (tLstN (tCons (tC (.int 0)) (tCons (tC (.int 0)) (tCons (tC (.int 0)) (tCons (tC (.int 0)) (tCons (tC (.int 11)) tNil)))))) tNil)))))
theorem i_law_draws (x0 : V) : L2.start ["_law_script", "_law_cell"] [x0] = [some x0, none] := rfl
abbrev Pf_law_draws (K : PySem.W.Frag) (C : Cs) : Prop := ∀ (vs : List V) (H : Hp) (Q : VK) (E : XK), (sp_law_draws K C) vs H Q E → t_law_draws K C ⟨fun _ H' => Q .non H', Q, fun _ _ => False, fun _ _ => False⟩ (L2.start ["_law_script", "_law_cell"] vs) H
theorem d_law_draws {f : Addr} {cdv : Value} {A : Around} {outer : List Env} {s : Shared} {H : Hp} {E : XK} {n : Nat} (G : Glob w K mg C) (hr : Room 0 (A.deeper (envOfC "_law_draws" (defScope S_law_draws) s.heap.objs.size f cdv))) :
    PSs ((cxOf CX0 P w K mg base ["_law_script", "_law_cell"] "_law_draws" (defScope S_law_draws) f cdv A outer s H E).nox) (defBody S_law_draws) (t_law_draws K C) := by
  unfold t_law_draws
  exact (pss_close (pss_one (ps_ret (pe_lstN (pa_cons (pe_lcN (own := [("_law_cell", 1)]) (g := (gName 1)) rfl sc_law_draws.nd (pi_list (pv 0)) (blkOk_by (own := [("_law_cell", 1)]) (N := ["_law_script", "_law_cell"]) (sc := defScope S_law_draws) (by decide +kernel)) (fun _ _ _ _ _ => (pg_name (i := 1) sc_law_draws.nd rfl (Or.inl rfl))) (fun _ _ _ _ _ => (pe_callTy call_intU rfl G.b_int (by decide +kernel) (pa_cons (pv 1) pa_nil)))) (pa_cons (pe_lstN (pa_cons pe_int (pa_cons pe_int (pa_cons pe_int (pa_cons pe_int (pa_cons pe_int pa_nil)))))) pa_nil))))))
abbrev S_law_next_cell : Stmt := top 28
theorem sc_law_next_cell : FnScope ["_law_draws_here", "_law_cells", "_law_state", "_law_cell"] ["_law_draws_here"] (defScope S_law_next_cell) := ⟨rfl, rfl, rfl, by decide +kernel, rfl, by decide +kernel, by decide +kernel⟩
abbrev t_law_next_cell_3 (K : PySem.W.Frag) (C : Cs) : TS :=
  (tIfS (tTest (tOp rLtU (tOp (rIx K) (tVar 2) (tC (.int 0))) (tCB (rLenU K) (tCons (tVar 1) tNil)))) (tSeq (tAsg (tCB rIntU (tCons (tOp (rIx K) (tVar 1) (tOp (rIx K) (tVar 2) (tC (.int 0)))) tNil)) (gName 3))
      (tSeq (tAsg (tOp (rAddU K) (tOp (rIx K) (tVar 2) (tC (.int 0))) (tC (.int 1))) (gSub (tVar 2) (tC (.int 0)) rSetL))
      (tSeq (tAsg (tOp rModU (tCB rIntU (tCons (tOp (rAddU K) (tOp (rAddU K) (tOp (rMulU K) (tOp (rIx K) (tVar 2) (tC (.int 4))) (tC (.int 31))) (tOp rModU (tVar 3) (tC (.int 2147483647)))) (tC (.int 1))) tNil)) (tC (.int 2147483647))) (gSub (tVar 2) (tC (.int 4)) rSetL))
      (tIfS (tTest (tOp rGeU (tVar 3) (tOp rPowU (tC (.int 10)) (tC (.int 18))))) (tAsg (tVar 3) (gSub (tVar 2) (tC (.int 1)) rSetL)) (tAsg (tC (.int 2)) (gSub (tVar 2) (tC (.int 2)) rSetL)))))) tNext)
abbrev t_law_next_cell_2 (K : PySem.W.Frag) (C : Cs) : TS :=
  (tSeq (tAsg (tOp (rIx K) (tVar 0) (tC (.int 1))) (gName 2))
      (t_law_next_cell_3 K C))
def t_law_next_cell (K : PySem.W.Frag) (C : Cs) : TS :=
  (tSeq (tAsg (tOp (rIx K) (tVar 0) (tC (.int 0))) (gName 1))
      (t_law_next_cell_2 K C))
theorem i_law_next_cell (x0 : V) : L2.start ["_law_draws_here", "_law_cells", "_law_state", "_law_cell"] [x0] = [some x0, none, none, none] := rfl
abbrev Pf_law_next_cell (K : PySem.W.Frag) (C : Cs) : Prop := ∀ (vs : List V) (H : Hp) (Q : VK) (E : XK), (sp_law_next_cell K C) vs H Q E → t_law_next_cell K C ⟨fun _ H' => Q .non H', Q, fun _ _ => False, fun _ _ => False⟩ (L2.start ["_law_draws_here", "_law_cells", "_law_state", "_law_cell"] vs) H
theorem d_law_next_cell {f : Addr} {cdv : Value} {A : Around} {outer : List Env} {s : Shared} {H : Hp} {E : XK} {n : Nat} (G : Glob w K mg C) (hr : Room 0 (A.deeper (envOfC "_law_next_cell" (defScope S_law_next_cell) s.heap.objs.size f cdv))) :
    PSs ((cxOf CX0 P w K mg base ["_law_draws_here", "_law_cells", "_law_state", "_law_cell"] "_law_next_cell" (defScope S_law_next_cell) f cdv A outer s H E).nox) (defBody S_law_next_cell) (t_law_next_cell K C) := by
  unfold t_law_next_cell
  exact (pss_cons (ps_set (i := 1) sc_law_next_cell.nd rfl (Or.inl rfl) (pe_ix ix_seq (pv 0) pe_int (fun _ _ => rfl)))
      (pss_cons (ps_set (i := 2) sc_law_next_cell.nd rfl (Or.inl rfl) (pe_ix ix_seq (pv 0) pe_int (fun _ _ => rfl)))
      (pss_one (ps_if (pt_cmpR op_ltU (pe_ix ix_seq (pv 2) pe_int (fun _ _ => rfl)) (pe_callB call_lenU rfl G.b_len PySem.boot_len (pa_cons (pv 1) pa_nil)) (nomark _)) (pss_cons (ps_set (i := 3) sc_law_next_cell.nd rfl (Or.inl rfl) (pe_callTy call_intU rfl G.b_int (by decide +kernel) (pa_cons (pe_ix ix_seq (pv 1) (pe_ix ix_seq (pv 2) pe_int (fun _ _ => rfl)) (fun _ _ => rfl)) pa_nil)))
      (pss_cons (ps_asg (pe_op op_addU (pe_ix ix_seq (pv 2) pe_int (fun _ _ => rfl)) pe_int) (pg_sub (pv 2) pe_int set_list))
      (pss_cons (ps_asg (pe_op op_modU (pe_callTy call_intU rfl G.b_int (by decide +kernel) (pa_cons (pe_op op_addU (pe_op op_addU (pe_op op_mulU (pe_ix ix_seq (pv 2) pe_int (fun _ _ => rfl)) pe_int) (pe_op op_modU (pv 3) pe_int)) pe_int) pa_nil)) pe_int) (pg_sub (pv 2) pe_int set_list))
      (pss_one (ps_if (pt_cmpR op_geU (pv 3) (pe_op op_powU pe_int pe_int) (nomark _)) (pss_one (ps_asg (pv 3) (pg_sub (pv 2) pe_int set_list))) (pss_one (ps_asg pe_int (pg_sub (pv 2) pe_int set_list)))))))) pss_nil))))
abbrev S_law_mixed : Stmt := top 29
theorem sc_law_mixed : FnScope ["_law_seed", "_law_turn", "_law_many", "_law_value", "_law_k", "_law_first", "_law_second"] ["_law_seed", "_law_turn", "_law_many"] (defScope S_law_mixed) := ⟨rfl, rfl, rfl, by decide +kernel, rfl, by decide +kernel, by decide +kernel⟩
abbrev t_law_mixed_3 (K : PySem.W.Frag) (C : Cs) : TS :=
  (tRet (tOp rModU (tCB rIntU (tCons (tVar 3) tNil)) (tVar 2)))
abbrev t_law_mixed_2 (K : PySem.W.Frag) (C : Cs) : TS :=
  (tSeq (tFor (iRng1 (tCons (tC (.int 2)) tNil)) (gName 4) (tSeq (tAsg (tOp rModU (tCB rIntU (tCons (tOp (rMulU K) (tOp (rAddU K) (tOp (rAddU K) (tVar 0) (tC (.int 7))) (tOp (rMulU K) (tOp (rAddU K) (tOp (rMulU K) (tC (.int 2)) (tVar 1)) (tVar 4)) (tC (.int 1000003)))) (tC (.int 48271))) tNil)) (tC (.int 2147483647))) (gName 5))
      (tSeq (tAsg (tOp rModU (tCB rIntU (tCons (tOp (rAddU K) (tOp (rAddU K) (tOp (rMulU K) (tVar 5) (tVar 5)) (tOp (rMulU K) (tOp rFdvU (tVar 5) (tC (.int 3571))) (tC (.int 69621)))) (tVar 1)) tNil)) (tC (.int 2147483399))) (gName 6))
      (tAsg (tOp (rAddU K) (tOp (rMulU K) (tVar 3) (tC (.int 126322553))) (tOp rFdvU (tVar 6) (tC (.int 17)))) (gName 3)))))
      (t_law_mixed_3 K C))
def t_law_mixed (K : PySem.W.Frag) (C : Cs) : TS :=
  (tSeq (tAsg (tC (.int 0)) (gName 3))
      (t_law_mixed_2 K C))
theorem i_law_mixed (x0 x1 x2 : V) : L2.start ["_law_seed", "_law_turn", "_law_many", "_law_value", "_law_k", "_law_first", "_law_second"] [x0, x1, x2] = [some x0, some x1, some x2, none, none, none, none] := rfl
abbrev Pf_law_mixed (K : PySem.W.Frag) (C : Cs) : Prop := ∀ (vs : List V) (H : Hp) (Q : VK) (E : XK), (sp_law_mixed K C) vs H Q E → t_law_mixed K C ⟨fun _ H' => Q .non H', Q, fun _ _ => False, fun _ _ => False⟩ (L2.start ["_law_seed", "_law_turn", "_law_many", "_law_value", "_law_k", "_law_first", "_law_second"] vs) H
theorem d_law_mixed {f : Addr} {cdv : Value} {A : Around} {outer : List Env} {s : Shared} {H : Hp} {E : XK} {n : Nat} (G : Glob w K mg C) (hr : Room 0 (A.deeper (envOfC "_law_mixed" (defScope S_law_mixed) s.heap.objs.size f cdv))) :
    PSs ((cxOf CX0 P w K mg base ["_law_seed", "_law_turn", "_law_many", "_law_value", "_law_k", "_law_first", "_law_second"] "_law_mixed" (defScope S_law_mixed) f cdv A outer s H E).nox) (defBody S_law_mixed) (t_law_mixed K C) := by
  unfold t_law_mixed
  exact (pss_cons (ps_set (i := 3) sc_law_mixed.nd rfl (Or.inl rfl) pe_int)
      (pss_cons (ps_for PassesOwn.never rfl (pi_range1 rfl G.b_range (pa_cons pe_int pa_nil)) (pg_name (i := 4) sc_law_mixed.nd rfl (Or.inl rfl)) (pss_cons (ps_set (i := 5) sc_law_mixed.nd rfl (Or.inl rfl) (pe_op op_modU (pe_callTy call_intU rfl G.b_int (by decide +kernel) (pa_cons (pe_op op_mulU (pe_op op_addU (pe_op op_addU (pv 0) pe_int) (pe_op op_mulU (pe_op op_addU (pe_op op_mulU pe_int (pv 1)) (pv 4)) pe_int)) pe_int) pa_nil)) pe_int))
      (pss_cons (ps_set (i := 6) sc_law_mixed.nd rfl (Or.inl rfl) (pe_op op_modU (pe_callTy call_intU rfl G.b_int (by decide +kernel) (pa_cons (pe_op op_addU (pe_op op_addU (pe_op op_mulU (pv 5) (pv 5)) (pe_op op_mulU (pe_op op_fdvU (pv 5) pe_int) pe_int)) (pv 1)) pa_nil)) pe_int))
      (pss_one (ps_set (i := 3) sc_law_mixed.nd rfl (Or.inl rfl) (pe_op op_addU (pe_op op_mulU (pv 3) pe_int) (pe_op op_fdvU (pv 6) pe_int)))))))
      (pss_one (ps_ret (pe_op op_modU (pe_callTy call_intU rfl G.b_int (by decide +kernel) (pa_cons (pv 3) pa_nil)) (pv 2))))))
abbrev S_law_take : Stmt := top 30
theorem sc_law_take : FnScope ["_law_draws_here", "_law_many", "_law_state", "_law_value"] ["_law_draws_here", "_law_many"] (defScope S_law_take) := ⟨rfl, rfl, rfl, by decide +kernel, rfl, by decide +kernel, by decide +kernel⟩
abbrev t_law_take_7 (K : PySem.W.Frag) (C : Cs) : TS :=
  (tRet (tCall (sp_law_mixed K C) [] E0 (tCons (tOp (rIx K) (tVar 2) (tC (.int 4))) (tCons (tOp (rIx K) (tVar 2) (tC (.int 3))) (tCons (tVar 1) tNil)))))
abbrev t_law_take_6 (K : PySem.W.Frag) (C : Cs) : TS :=
  (tSeq (tIfS (tTest (tOp rGtU (tOp (rIx K) (tVar 2) (tC (.int 2))) (tC (.int 0)))) (tAsg (tOp rSubU (tOp (rIx K) (tVar 2) (tC (.int 2))) (tC (.int 1))) (gSub (tVar 2) (tC (.int 2)) rSetL)) tNext)
      (t_law_take_7 K C))
abbrev t_law_take_5 (K : PySem.W.Frag) (C : Cs) : TS :=
  (tSeq (tIfS (tTest (tOp rGtU (tOp (rIx K) (tVar 2) (tC (.int 1))) (tC (.int 1)))) (tSeq (tAsg (tOp rModU (tCB rIntU (tCons (tOp (rIx K) (tVar 2) (tC (.int 1))) tNil)) (tVar 1)) (gName 3))
      (tSeq (tAsg (tOp rFdvU (tOp (rIx K) (tVar 2) (tC (.int 1))) (tVar 1)) (gSub (tVar 2) (tC (.int 1)) rSetL))
      (tRet (tVar 3)))) tNext)
      (t_law_take_6 K C))
abbrev t_law_take_4 (K : PySem.W.Frag) (C : Cs) : TS :=
  (tSeq (tIfS (tAnd (tTest (tOp rLtU (tOp (rIx K) (tVar 2) (tC (.int 1))) (tC (.int 2)))) (tTest (tOp rLtU (tOp (rIx K) (tVar 2) (tC (.int 2))) (tC (.int 1))))) (tDrop (tCall (sp_law_next_cell K C) [] E0 (tCons (tVar 0) tNil))) tNext)
      (t_law_take_5 K C))
abbrev t_law_take_3 (K : PySem.W.Frag) (C : Cs) : TS :=
  (tSeq (tAsg (tOp (rAddU K) (tOp (rIx K) (tVar 2) (tC (.int 3))) (tC (.int 1))) (gSub (tVar 2) (tC (.int 3)) rSetL))
      (t_law_take_4 K C))
abbrev t_law_take_2 (K : PySem.W.Frag) (C : Cs) : TS :=
  (tSeq (tAsg (tOp (rIx K) (tVar 0) (tC (.int 1))) (gName 2))
      (t_law_take_3 K C))
def t_law_take (K : PySem.W.Frag) (C : Cs) : TS :=
  (tOpen (tSeq (tIfS (tTest (tOp rLtU (tVar 1) (tC (.int 2)))) (tRet (tC (.int 0))) tNext)
      (t_law_take_2 K C)))
theorem i_law_take (x0 x1 : V) : L2.start ["_law_draws_here", "_law_many", "_law_state", "_law_value"] [x0, x1] = [some x0, some x1, none, none] := rfl
abbrev Pf_law_take (K : PySem.W.Frag) (C : Cs) : Prop := ∀ (vs : List V) (H : Hp) (Q : VK) (E : XK), (sp_law_take K C) vs H Q E → t_law_take K C ⟨fun _ H' => Q .non H', Q, fun _ _ => False, fun _ _ => False⟩ (L2.start ["_law_draws_here", "_law_many", "_law_state", "_law_value"] vs) H
theorem d_law_take {f : Addr} {cdv : Value} {A : Around} {outer : List Env} {s : Shared} {H : Hp} {E : XK} {n : Nat} (G : Glob w K mg C) (c_law_next_cell : Cal P w K mg base 1 "_law_next_cell" (sp_law_next_cell K C)) (c_law_mixed : Cal P w K mg base 1 "_law_mixed" (sp_law_mixed K C)) (hr : Room 1 (A.deeper (envOfC "_law_take" (defScope S_law_take) s.heap.objs.size f cdv))) :
    PSs ((cxOf CX0 P w K mg base ["_law_draws_here", "_law_many", "_law_state", "_law_value"] "_law_take" (defScope S_law_take) f cdv A outer s H E).nox) (defBody S_law_take) (t_law_take K C) := by
  unfold t_law_take
  exact (pss_open (pss_cons (ps_if (pt_cmpR op_ltU (pv 1) pe_int (nomark _)) (pss_one (ps_ret pe_int)) pss_nil)
      (pss_cons (ps_set (i := 2) sc_law_take.nd rfl (Or.inl rfl) (pe_ix ix_seq (pv 0) pe_int (fun _ _ => rfl)))
      (pss_cons (ps_asg (pe_op op_addU (pe_ix ix_seq (pv 2) pe_int (fun _ _ => rfl)) pe_int) (pg_sub (pv 2) pe_int set_list))
      (pss_cons (ps_if (PW.pt (pw_and (pt_cmpR op_ltU (pe_ix ix_seq (pv 2) pe_int (fun _ _ => rfl)) pe_int (nomark _)) (pw_and1 (pt_cmpR op_ltU (pe_ix ix_seq (pv 2) pe_int (fun _ _ => rfl)) pe_int (nomark _))))) (pss_one (ps_expr (pe_c c_law_next_cell hr (by decide) rfl (pa_cons (pv 0) pa_nil)))) pss_nil)
      (pss_cons (ps_if (pt_cmpR op_gtU (pe_ix ix_seq (pv 2) pe_int (fun _ _ => rfl)) pe_int (nomark _)) (pss_cons (ps_set (i := 3) sc_law_take.nd rfl (Or.inl rfl) (pe_op op_modU (pe_callTy call_intU rfl G.b_int (by decide +kernel) (pa_cons (pe_ix ix_seq (pv 2) pe_int (fun _ _ => rfl)) pa_nil)) (pv 1)))
      (pss_cons (ps_asg (pe_op op_fdvU (pe_ix ix_seq (pv 2) pe_int (fun _ _ => rfl)) (pv 1)) (pg_sub (pv 2) pe_int set_list))
      (pss_one (ps_ret (pv 3))))) pss_nil)
      (pss_cons (ps_if (pt_cmpR op_gtU (pe_ix ix_seq (pv 2) pe_int (fun _ _ => rfl)) pe_int (nomark _)) (pss_one (ps_asg (pe_op op_subU (pe_ix ix_seq (pv 2) pe_int (fun _ _ => rfl)) pe_int) (pg_sub (pv 2) pe_int set_list))) pss_nil)
      (pss_one (ps_ret (pe_c c_law_mixed hr (by decide) rfl (pa_cons (pe_ix ix_seq (pv 2) pe_int (fun _ _ => rfl)) (pa_cons (pe_ix ix_seq (pv 2) pe_int (fun _ _ => rfl)) (pa_cons (pv 1) pa_nil)))))))))))))
abbrev S_law_among : Stmt := top 31
theorem sc_law_among : FnScope ["_law_draws_here", "_law_row"] ["_law_draws_here", "_law_row"] (defScope S_law_among) := ⟨rfl, rfl, rfl, by decide +kernel, rfl, by decide +kernel, by decide +kernel⟩
def t_law_among (K : PySem.W.Frag) (C : Cs) : TS :=
  (tRet (tOp (rIx K) (tVar 1) (tCall (sp_law_take K C) [] E0 (tCons (tVar 0) (tCons (tCB (rLenU K) (tCons (tVar 1) tNil)) tNil)))))
theorem i_law_among (x0 x1 : V) : L2.start ["_law_draws_here", "_law_row"] [x0, x1] = [some x0, some x1] := rfl
abbrev Pf_law_among (K : PySem.W.Frag) (C : Cs) : Prop := ∀ (vs : List V) (H : Hp) (Q : VK) (E : XK), (sp_law_among K C) vs H Q E → t_law_among K C ⟨fun _ H' => Q .non H', Q, fun _ _ => False, fun _ _ => False⟩ (L2.start ["_law_draws_here", "_law_row"] vs) H
theorem d_law_among {f : Addr} {cdv : Value} {A : Around} {outer : List Env} {s : Shared} {H : Hp} {E : XK} {n : Nat} (G : Glob w K mg C) (c_law_take : Cal P w K mg base 2 "_law_take" (sp_law_take K C)) (hr : Room 2 (A.deeper (envOfC "_law_among" (defScope S_law_among) s.heap.objs.size f cdv))) :
    PSs ((cxOf CX0 P w K mg base ["_law_draws_here", "_law_row"] "_law_among" (defScope S_law_among) f cdv A outer s H E).nox) (defBody S_law_among) (t_law_among K C) := by
  unfold t_law_among
  exact (pss_one (ps_ret (pe_ix ix_seq (pv 1) (pe_c c_law_take hr (by decide) rfl (pa_cons (pv 0) (pa_cons (pe_callB call_lenU rfl G.b_len PySem.boot_len (pa_cons (pv 1) pa_nil)) pa_nil))) (fun _ _ => rfl))))
abbrev S_law_between : Stmt := top 32
theorem sc_law_between : FnScope ["_law_draws_here", "_law_low", "_law_high", "_law_kind"] ["_law_draws_here", "_law_low", "_law_high"] (defScope S_law_between) := ⟨rfl, rfl, rfl, by decide +kernel, rfl, by decide +kernel, by decide +kernel⟩
abbrev t_law_between_5 (K : PySem.W.Frag) (C : Cs) : TS :=
  (tRet (tOp (rAddU K) (tVar 1) (tCall (sp_law_take K C) [] E0 (tCons (tVar 0) (tCons (tOp (rAddU K) (tOp rSubU (tVar 2) (tVar 1)) (tC (.int 1))) tNil)))))
abbrev t_law_between_4 (K : PySem.W.Frag) (C : Cs) : TS :=
  (tSeq (tIfS (tTest (tOp rEq (tVar 3) (tC (.int 1)))) (tRet (tVar 2)) tNext)
      (t_law_between_5 K C))
abbrev t_law_between_3 (K : PySem.W.Frag) (C : Cs) : TS :=
  (tSeq (tIfS (tTest (tOp rEq (tVar 3) (tC (.int 0)))) (tRet (tVar 1)) tNext)
      (t_law_between_4 K C))
abbrev t_law_between_2 (K : PySem.W.Frag) (C : Cs) : TS :=
  (tSeq (tAsg (tCall (sp_law_take K C) [] E0 (tCons (tVar 0) (tCons (tC (.int 6)) tNil))) (gName 3))
      (t_law_between_3 K C))
def t_law_between (K : PySem.W.Frag) (C : Cs) : TS :=
  (tSeq (tIfS (tTest (tOp rLeU (tVar 2) (tVar 1))) (tRet (tVar 1)) tNext)
      (t_law_between_2 K C))
theorem i_law_between (x0 x1 x2 : V) : L2.start ["_law_draws_here", "_law_low", "_law_high", "_law_kind"] [x0, x1, x2] = [some x0, some x1, some x2, none] := rfl
abbrev Pf_law_between (K : PySem.W.Frag) (C : Cs) : Prop := ∀ (vs : List V) (H : Hp) (Q : VK) (E : XK), (sp_law_between K C) vs H Q E → t_law_between K C ⟨fun _ H' => Q .non H', Q, fun _ _ => False, fun _ _ => False⟩ (L2.start ["_law_draws_here", "_law_low", "_law_high", "_law_kind"] vs) H
theorem d_law_between {f : Addr} {cdv : Value} {A : Around} {outer : List Env} {s : Shared} {H : Hp} {E : XK} {n : Nat} (G : Glob w K mg C) (c_law_take : Cal P w K mg base 2 "_law_take" (sp_law_take K C)) (hr : Room 2 (A.deeper (envOfC "_law_between" (defScope S_law_between) s.heap.objs.size f cdv))) :
    PSs ((cxOf CX0 P w K mg base ["_law_draws_here", "_law_low", "_law_high", "_law_kind"] "_law_between" (defScope S_law_between) f cdv A outer s H E).nox) (defBody S_law_between) (t_law_between K C) := by
  unfold t_law_between
  exact (pss_cons (ps_if (pt_cmpR op_leU (pv 2) (pv 1) (nomark _)) (pss_one (ps_ret (pv 1))) pss_nil)
      (pss_cons (ps_set (i := 3) sc_law_between.nd rfl (Or.inl rfl) (pe_c c_law_take hr (by decide) rfl (pa_cons (pv 0) (pa_cons pe_int pa_nil))))
      (pss_cons (ps_if (pt_cmpR op_eq (pv 3) pe_int (nomark _)) (pss_one (ps_ret (pv 1))) pss_nil)
      (pss_cons (ps_if (pt_cmpR op_eq (pv 3) pe_int (nomark _)) (pss_one (ps_ret (pv 2))) pss_nil)
      (pss_one (ps_ret (pe_op op_addU (pv 1) (pe_c c_law_take hr (by decide) rfl (pa_cons (pv 0) (pa_cons (pe_op op_addU (pe_op op_subU (pv 2) (pv 1)) pe_int) pa_nil))))))))))
abbrev S_law_number : Stmt := top 33
theorem sc_law_number : FnScope ["_law_draws_here", "_law_low", "_law_high", "_law_kind"] ["_law_draws_here", "_law_low", "_law_high"] (defScope S_law_number) := ⟨rfl, rfl, rfl, by decide +kernel, rfl, by decide +kernel, by decide +kernel⟩
abbrev t_law_number_6 (K : PySem.W.Frag) (C : Cs) : TS :=
  (tRet (tOp (rAddU K) (tVar 1) (tCall (sp_law_take K C) [] E0 (tCons (tVar 0) (tCons (tOp (rAddU K) (tOp rSubU (tVar 2) (tVar 1)) (tC (.int 1))) tNil)))))
abbrev t_law_number_5 (K : PySem.W.Frag) (C : Cs) : TS :=
  (tSeq (tIfS (tTest (tOp rEq (tVar 3) (tC (.int 6)))) (tRet (tCB rMax2U (tCons (tVar 1) (tCons (tCB rMin2U (tCons (tVar 2) (tCons (tOp rSubU (tOp (rAddU K) (tCall (sp_law_alignment K C) [] E0 (tCons (tVar 0) (tCons (tC (.int 30)) tNil))) (tCall (sp_law_take K C) [] E0 (tCons (tVar 0) (tCons (tC (.int 3)) tNil)))) (tC (.int 1))) tNil))) tNil)))) tNext)
      (t_law_number_6 K C))
abbrev t_law_number_4 (K : PySem.W.Frag) (C : Cs) : TS :=
  (tSeq (tIfS (tTest (tOp rLtU (tVar 3) (tC (.int 6)))) (tRet (tOp (rAddU K) (tVar 1) (tCall (sp_law_take K C) [] E0 (tCons (tVar 0) (tCons (tOp (rAddU K) (tCB rMin2U (tCons (tOp rSubU (tVar 2) (tVar 1)) (tCons (tC (.int 40)) tNil))) (tC (.int 1))) tNil))))) tNext)
      (t_law_number_5 K C))
abbrev t_law_number_3 (K : PySem.W.Frag) (C : Cs) : TS :=
  (tSeq (tIfS (tTest (tOp rLtU (tVar 3) (tC (.int 4)))) (tRet (tOp (rIx K) (tLstN (tCons (tVar 1) (tCons (tVar 2) (tCons (tOp (rAddU K) (tVar 1) (tC (.int 1))) (tCons (tOp rSubU (tVar 2) (tC (.int 1))) tNil))))) (tVar 3))) tNext)
      (t_law_number_4 K C))
abbrev t_law_number_2 (K : PySem.W.Frag) (C : Cs) : TS :=
  (tSeq (tAsg (tCall (sp_law_take K C) [] E0 (tCons (tVar 0) (tCons (tC (.int 8)) tNil))) (gName 3))
      (t_law_number_3 K C))
def t_law_number (K : PySem.W.Frag) (C : Cs) : TS :=
  (tSeq (tIfS (tTest (tOp rLtU (tOp rSubU (tVar 2) (tVar 1)) (tC (.int 16)))) (tRet (tCall (sp_law_between K C) [] E0 (tCons (tVar 0) (tCons (tVar 1) (tCons (tVar 2) tNil))))) tNext)
      (t_law_number_2 K C))
theorem i_law_number (x0 x1 x2 : V) : L2.start ["_law_draws_here", "_law_low", "_law_high", "_law_kind"] [x0, x1, x2] = [some x0, some x1, some x2, none] := rfl
abbrev Pf_law_number (K : PySem.W.Frag) (C : Cs) : Prop := ∀ (vs : List V) (H : Hp) (Q : VK) (E : XK), (sp_law_number K C) vs H Q E → t_law_number K C ⟨fun _ H' => Q .non H', Q, fun _ _ => False, fun _ _ => False⟩ (L2.start ["_law_draws_here", "_law_low", "_law_high", "_law_kind"] vs) H
theorem d_law_number {f : Addr} {cdv : Value} {A : Around} {outer : List Env} {s : Shared} {H : Hp} {E : XK} {n : Nat} (G : Glob w K mg C) (c_law_between : Cal P w K mg base 3 "_law_between" (sp_law_between K C)) (c_law_take : Cal P w K mg base 2 "_law_take" (sp_law_take K C)) (c_law_alignment : Cal P w K mg base 4 "_law_alignment" (sp_law_alignment K C)) (hr : Room 4 (A.deeper (envOfC "_law_number" (defScope S_law_number) s.heap.objs.size f cdv))) :
    PSs ((cxOf CX0 P w K mg base ["_law_draws_here", "_law_low", "_law_high", "_law_kind"] "_law_number" (defScope S_law_number) f cdv A outer s H E).nox) (defBody S_law_number) (t_law_number K C) := by
  unfold t_law_number
  exact (pss_cons (ps_if (pt_cmpR op_ltU (pe_op op_subU (pv 2) (pv 1)) pe_int (nomark _)) (pss_one (ps_ret (pe_c c_law_between hr (by decide) rfl (pa_cons (pv 0) (pa_cons (pv 1) (pa_cons (pv 2) pa_nil)))))) pss_nil)
      (pss_cons (ps_set (i := 3) sc_law_number.nd rfl (Or.inl rfl) (pe_c c_law_take hr (by decide) rfl (pa_cons (pv 0) (pa_cons pe_int pa_nil))))
      (pss_cons (ps_if (pt_cmpR op_ltU (pv 3) pe_int (nomark _)) (pss_one (ps_ret (pe_ix ix_seq (pe_lstN (pa_cons (pv 1) (pa_cons (pv 2) (pa_cons (pe_op op_addU (pv 1) pe_int) (pa_cons (pe_op op_subU (pv 2) pe_int) pa_nil))))) (pv 3) (fun _ _ => rfl)))) pss_nil)
      (pss_cons (ps_if (pt_cmpR op_ltU (pv 3) pe_int (nomark _)) (pss_one (ps_ret (pe_op op_addU (pv 1) (pe_c c_law_take hr (by decide) rfl (pa_cons (pv 0) (pa_cons (pe_op op_addU (pe_callB (call_min2U rfl) rfl G.b_min (by decide +kernel) (pa_cons (pe_op op_subU (pv 2) (pv 1)) (pa_cons pe_int pa_nil))) pe_int) pa_nil)))))) pss_nil)
      (pss_cons (ps_if (pt_cmpR op_eq (pv 3) pe_int (nomark _)) (pss_one (ps_ret (pe_callB (call_max2U rfl) rfl G.b_max (by decide +kernel) (pa_cons (pv 1) (pa_cons (pe_callB (call_min2U rfl) rfl G.b_min (by decide +kernel) (pa_cons (pv 2) (pa_cons (pe_op op_subU (pe_op op_addU (pe_c c_law_alignment hr (by decide) rfl (pa_cons (pv 0) (pa_cons pe_int pa_nil))) (pe_c c_law_take hr (by decide) rfl (pa_cons (pv 0) (pa_cons pe_int pa_nil)))) pe_int) pa_nil))) pa_nil))))) pss_nil)
      (pss_one (ps_ret (pe_op op_addU (pv 1) (pe_c c_law_take hr (by decide) rfl (pa_cons (pv 0) (pa_cons (pe_op op_addU (pe_op op_subU (pv 2) (pv 1)) pe_int) pa_nil)))))))))))
abbrev S_law_count : Stmt := top 34
theorem sc_law_count : FnScope ["_law_draws_here", "_law_small", "_law_great"] ["_law_draws_here", "_law_small", "_law_great"] (defScope S_law_count) := ⟨rfl, rfl, rfl, by decide +kernel, rfl, by decide +kernel, by decide +kernel⟩
abbrev t_law_count_2 (K : PySem.W.Frag) (C : Cs) : TS :=
  (tRet (tCall (sp_law_between K C) [] E0 (tCons (tVar 0) (tCons (tC (.int 0)) (tCons (tVar 1) tNil)))))
def t_law_count (K : PySem.W.Frag) (C : Cs) : TS :=
  (tSeq (tIfS (tTest (tOp rEq (tCall (sp_law_take K C) [] E0 (tCons (tVar 0) (tCons (tC (.int 8)) tNil))) (tC (.int 7)))) (tRet (tCall (sp_law_between K C) [] E0 (tCons (tVar 0) (tCons (tVar 1) (tCons (tVar 2) tNil))))) tNext)
      (t_law_count_2 K C))
theorem i_law_count (x0 x1 x2 : V) : L2.start ["_law_draws_here", "_law_small", "_law_great"] [x0, x1, x2] = [some x0, some x1, some x2] := rfl
abbrev Pf_law_count (K : PySem.W.Frag) (C : Cs) : Prop := ∀ (vs : List V) (H : Hp) (Q : VK) (E : XK), (sp_law_count K C) vs H Q E → t_law_count K C ⟨fun _ H' => Q .non H', Q, fun _ _ => False, fun _ _ => False⟩ (L2.start ["_law_draws_here", "_law_small", "_law_great"] vs) H
theorem d_law_count {f : Addr} {cdv : Value} {A : Around} {outer : List Env} {s : Shared} {H : Hp} {E : XK} {n : Nat} (G : Glob w K mg C) (c_law_take : Cal P w K mg base 2 "_law_take" (sp_law_take K C)) (c_law_between : Cal P w K mg base 3 "_law_between" (sp_law_between K C)) (hr : Room 3 (A.deeper (envOfC "_law_count" (defScope S_law_count) s.heap.objs.size f cdv))) :
    PSs ((cxOf CX0 P w K mg base ["_law_draws_here", "_law_small", "_law_great"] "_law_count" (defScope S_law_count) f cdv A outer s H E).nox) (defBody S_law_count) (t_law_count K C) := by
  unfold t_law_count
  exact (pss_cons (ps_if (pt_cmpR op_eq (pe_c c_law_take hr (by decide) rfl (pa_cons (pv 0) (pa_cons pe_int pa_nil))) pe_int (nomark _)) (pss_one (ps_ret (pe_c c_law_between hr (by decide) rfl (pa_cons (pv 0) (pa_cons (pv 1) (pa_cons (pv 2) pa_nil)))))) pss_nil)
      (pss_one (ps_ret (pe_c c_law_between hr (by decide) rfl (pa_cons (pv 0) (pa_cons pe_int (pa_cons (pv 1) pa_nil)))))))
abbrev S_law_alignment : Stmt := top 35
theorem sc_law_alignment : FnScope ["_law_draws_here", "_law_most", "_law_value", "_law_k"] ["_law_draws_here", "_law_most"] (defScope S_law_alignment) := ⟨rfl, rfl, rfl, by decide +kernel, rfl, by decide +kernel, by decide +kernel⟩
abbrev t_law_alignment_3 (K : PySem.W.Frag) (C : Cs) : TS :=
  (tRet (tVar 2))
abbrev t_law_alignment_2 (K : PySem.W.Frag) (C : Cs) : TS :=
  (tSeq (tFor (iRng1 (tCons (tCall (sp_law_between K C) [] E0 (tCons (tVar 0) (tCons (tC (.int 0)) (tCons (tVar 1) tNil)))) tNil)) (gName 3) (tAsg (tOp (rMulU K) (tVar 2) (tC (.int 2))) (gName 2)))
      (t_law_alignment_3 K C))
def t_law_alignment (K : PySem.W.Frag) (C : Cs) : TS :=
  (tSeq (tAsg (tC (.int 1)) (gName 2))
      (t_law_alignment_2 K C))
theorem i_law_alignment (x0 x1 : V) : L2.start ["_law_draws_here", "_law_most", "_law_value", "_law_k"] [x0, x1] = [some x0, some x1, none, none] := rfl
abbrev Pf_law_alignment (K : PySem.W.Frag) (C : Cs) : Prop := ∀ (vs : List V) (H : Hp) (Q : VK) (E : XK), (sp_law_alignment K C) vs H Q E → t_law_alignment K C ⟨fun _ H' => Q .non H', Q, fun _ _ => False, fun _ _ => False⟩ (L2.start ["_law_draws_here", "_law_most", "_law_value", "_law_k"] vs) H
theorem d_law_alignment {f : Addr} {cdv : Value} {A : Around} {outer : List Env} {s : Shared} {H : Hp} {E : XK} {n : Nat} (G : Glob w K mg C) (c_law_between : Cal P w K mg base 3 "_law_between" (sp_law_between K C)) (hr : Room 3 (A.deeper (envOfC "_law_alignment" (defScope S_law_alignment) s.heap.objs.size f cdv))) :
    PSs ((cxOf CX0 P w K mg base ["_law_draws_here", "_law_most", "_law_value", "_law_k"] "_law_alignment" (defScope S_law_alignment) f cdv A outer s H E).nox) (defBody S_law_alignment) (t_law_alignment K C) := by
  unfold t_law_alignment
  exact (pss_cons (ps_set (i := 2) sc_law_alignment.nd rfl (Or.inl rfl) pe_int)
      (pss_cons (ps_for PassesOwn.never rfl (pi_range1 rfl G.b_range (pa_cons (pe_c c_law_between hr (by decide) rfl (pa_cons (pv 0) (pa_cons pe_int (pa_cons (pv 1) pa_nil)))) pa_nil)) (pg_name (i := 3) sc_law_alignment.nd rfl (Or.inl rfl)) (pss_one (ps_set (i := 2) sc_law_alignment.nd rfl (Or.inl rfl) (pe_op op_mulU (pv 2) pe_int))))
      (pss_one (ps_ret (pv 2)))))
end
end AG
/-! AgH: what comprehensions give; plain data at work -/
namespace AG
open PySem PySem.Spec L2
def dInt : Dat → Bool
  | .int _ => true
  | .bl _ => true
  | _ => false
def dBl : Dat → Bool
  | .bl _ => true
  | _ => false
def dStr : Dat → Bool
  | .str _ => true
  | _ => false
def dLst : Dat → Bool
  | .lst _ => true
  | _ => false
def dTup : Dat → Bool
  | .tup _ => true
  | _ => false
def dDct : Dat → Bool
  | .dct _ _ => true
  | _ => false
def dLT : Dat → Bool
  | .lst _ => true
  | .tup _ => true
  | _ => false
section
variable {K : PySem.W.Frag} {H : Hp} {Q : VK}
theorem rep_non_inv {v : V} (h : Rep K H .non v) : v = .non := by unfold Rep at h; exact h
theorem rep_bl_inv {b : Bool} {v : V} (h : Rep K H (.bl b) v) : v = .bl b := by unfold Rep at h; exact h
theorem rep_int_inv {i : Int} {v : V} (h : Rep K H (.int i) v) : v = .int i := by unfold Rep at h; exact h
theorem rep_str_inv {s : Str} {v : V} (h : Rep K H (.str s) v) : v = .str s ∧ s.length ≤ 1000000 := by unfold Rep at h; exact h
theorem rep_lst_inv {ds : List Dat} {v : V} (h : Rep K H (.lst ds) v) : ∃ a xs, v = .ref a ∧ H a = some (.lst xs) ∧ xs.length ≤ 1000000 ∧ Reps K H ds xs := by unfold Rep at h; exact h
theorem rep_tup_inv {ds : List Dat} {v : V} (h : Rep K H (.tup ds) v) : ∃ a xs, v = .ref a ∧ SqT K H a xs ∧ xs.length ≤ 1000000 ∧ Reps K H ds xs := by unfold Rep at h; exact h
theorem rep_dct_inv {ks : List Str} {ds : List Dat} {v : V} (h : Rep K H (.dct ks ds) v) : ∃ (a : Addr) (es : List (L2.Key × V)) (vs : List V), v = .ref a ∧ H a = some (.dK es) ∧ es.length ≤ 1000000 ∧ ks.Nodup ∧ es = (ks.zip vs).map (fun p => (Sum.inr p.1, p.2)) ∧ ks.length = vs.length ∧ (∀ d ∈ ds, flatD d) ∧ Reps K H ds vs := by unfold Rep at h; exact h
theorem rep_dct0 {a : Addr} (h : H a = some (.dK [])) : Rep K H (.dct [] []) (.ref a) := rep_dct (vs := []) h (by decide) List.nodup_nil rfl rfl (fun d hd => by cases hd) reps_nil
theorem rep_dct1 {a : Addr} {k : Str} {v : V} {d : Dat} (h : H a = some (.dK [(Sum.inr k, v)])) (r : Rep K H d v) (f : flatD d := by exact True.intro) : Rep K H (.dct [k] [d]) (.ref a) := rep_dct (vs := [v]) h (by show 1 ≤ 1000000; decide) (List.nodup_cons.mpr ⟨by simp, List.nodup_nil⟩) rfl rfl (fun d' hd => by rw [List.mem_singleton.mp hd]; exact f) (reps_cons r reps_nil)
theorem r_isiT {d : Dat} {v : V} {T : String} (h : Rep K H d v) (hT : kitB d.ty T = some true) (q : Q (.bl true) H) : rIsi K [v, .ty T] H Q := ⟨v, .ty T, .type d.ty, .type T, _, rfl, .ty T, rep_ty h, kit_ty hT, q⟩
theorem r_isiF {d : Dat} {v : V} {T : String} (h : Rep K H d v) (hT : kitB d.ty T = some false) (q : Q (.bl false) H) : rIsi K [v, .ty T] H Q := ⟨v, .ty T, .type d.ty, .type T, _, rfl, .ty T, rep_ty h, kit_ty hT, q⟩
theorem kb_f (d : Dat) {T : String} {b : Bool} (h : kitB d.ty T = some (isiB d.ty T)) (e : isiB d.ty T = b) : kitB d.ty T = some b := e ▸ h
theorem isi_int {d : Dat} : isiB d.ty "int" = (dInt d) := by cases d <;> (simp only [Dat.ty, dInt, dBl, dStr, dLst, dTup, dDct]; decide +kernel)
theorem isi_bool {d : Dat} : isiB d.ty "bool" = (dBl d) := by cases d <;> (simp only [Dat.ty, dInt, dBl, dStr, dLst, dTup, dDct]; decide +kernel)
theorem isi_str {d : Dat} : isiB d.ty "str" = (dStr d) := by cases d <;> (simp only [Dat.ty, dInt, dBl, dStr, dLst, dTup, dDct]; decide +kernel)
theorem isi_list {d : Dat} : isiB d.ty "list" = (dLst d) := by cases d <;> (simp only [Dat.ty, dInt, dBl, dStr, dLst, dTup, dDct]; decide +kernel)
theorem isi_tuple {d : Dat} : isiB d.ty "tuple" = (dTup d) := by cases d <;> (simp only [Dat.ty, dInt, dBl, dStr, dLst, dTup, dDct]; decide +kernel)
theorem isi_dict {d : Dat} : isiB d.ty "dict" = (dDct d) := by cases d <;> (simp only [Dat.ty, dInt, dBl, dStr, dLst, dTup, dDct]; decide +kernel)
theorem r_isi_int {d : Dat} {v : V} (h : Rep K H d v) (q : Q (.bl (dInt d)) H) : rIsi K [v, .ty "int"] H Q := r_isi h (kitB_all d).1 (by rw [isi_int]; exact q)
theorem r_isi_bool {d : Dat} {v : V} (h : Rep K H d v) (q : Q (.bl (dBl d)) H) : rIsi K [v, .ty "bool"] H Q := r_isi h (kitB_all d).2.1 (by rw [isi_bool]; exact q)
theorem r_isi_str {d : Dat} {v : V} (h : Rep K H d v) (q : Q (.bl (dStr d)) H) : rIsi K [v, .ty "str"] H Q := r_isi h (kitB_all d).2.2.1 (by rw [isi_str]; exact q)
theorem r_isi_list {d : Dat} {v : V} (h : Rep K H d v) (q : Q (.bl (dLst d)) H) : rIsi K [v, .ty "list"] H Q := r_isi h (kitB_all d).2.2.2.1 (by rw [isi_list]; exact q)
theorem r_isi_tuple {d : Dat} {v : V} (h : Rep K H d v) (q : Q (.bl (dTup d)) H) : rIsi K [v, .ty "tuple"] H Q := r_isi h (kitB_all d).2.2.2.2.1 (by rw [isi_tuple]; exact q)
theorem r_isi_dict {d : Dat} {v : V} (h : Rep K H d v) (q : Q (.bl (dDct d)) H) : rIsi K [v, .ty "dict"] H Q := r_isi h (kitB_all d).2.2.2.2.2 (by rw [isi_dict]; exact q)
theorem r_isi_lt {d : Dat} {v : V} {p : Addr} (h : Rep K H d v) (hp : H p = some (.tup [.ty "list", .ty "tuple"])) (q : Q (.bl (dLT d)) H) : rIsiT K [v, .ref p] H Q :=
  r_isiLT h hp (kitB_all d).2.2.2.1 (kitB_all d).2.2.2.2.1 (by
    rw [isi_list, isi_tuple]
    cases d <;> exact q)
/-! comprehensions -/
theorem turns_map {α : Type} {l : List α} {g : α → V} {R : Nat → V → Hp → Prop} {n : Nat} {acc : List V} (t : Turns R H n acc) (hn : n = l.length) (hR : ∀ i y, R i y H → ∃ c, l[i]? = some c ∧ y = g c) : acc = l.map g := by
  apply List.ext_getElem?
  intro i
  rw [List.getElem?_map]
  by_cases h : i < acc.length
  · obtain ⟨c, hc, e⟩ := hR i _ (t.get (List.getElem?_eq_getElem h))
    rw [List.getElem?_eq_getElem h, hc, e]
    rfl
  · have hl := t.len
    rw [List.getElem?_eq_none (by omega), List.getElem?_eq_none (by omega)]
    rfl
theorem turns_reps {ds : List Dat} {R : Nat → V → Hp → Prop} {n : Nat} {acc : List V} (t : Turns R H n acc) (hn : ds.length = n) (hR : ∀ i y, i < n → R i y H → ∃ d, ds[i]? = some d ∧ Rep K H d y) : Reps K H ds acc :=
  reps_of (by rw [hn, t.len]) fun i d x h1 h2 => by
    obtain ⟨d', h3, h4⟩ := hR i x (by rw [← t.len]; exact (List.getElem?_eq_some_iff.mp h2).1) (t.get h2)
    rw [h1] at h3
    obtain rfl := Option.some.inj h3
    exact h4
theorem turns_ex {P : Nat → Dat → Prop} {n : Nat} {acc : List V} (t : Turns (fun i y H => ∃ d, Rep K H d y ∧ P i d) H n acc) : ∃ ds, ds.length = n ∧ Reps K H ds acc ∧ ∀ (i : Nat) d, ds[i]? = some d → P i d := by
  induction t with
  | nil => exact ⟨[], rfl, reps_nil, fun i d h => by simp at h⟩
  | @snoc n acc y h r ih =>
    obtain ⟨ds, hl, hr, hp⟩ := ih
    obtain ⟨d, h1, h2⟩ := r
    refine ⟨ds ++ [d], by simp [hl], reps_snoc hr h1, fun i d' hi => ?_⟩
    by_cases hlt : i < ds.length
    · rw [List.getElem?_append_left hlt] at hi
      exact hp i d' hi
    · rw [List.getElem?_append_right (by omega)] at hi
      have : i - ds.length = 0 := by
        by_cases z : i - ds.length = 0
        · exact z
        · obtain ⟨k, hk⟩ : ∃ k, i - ds.length = k + 1 := ⟨i - ds.length - 1, by omega⟩
          rw [hk] at hi
          simp at hi
      rw [this] at hi
      obtain rfl : d = d' := by simpa using hi
      have e : i = n := by omega
      rw [e]
      exact h2
theorem turns_str {P : Nat → Str → Prop} {n : Nat} {acc : List V} (t : Turns (fun i y _ => ∃ s, y = .str s ∧ P i s) H n acc) : ∃ ss : List Str, ss.length = n ∧ acc = ss.map V.str ∧ ∀ (i : Nat) s, ss[i]? = some s → P i s := by
  induction t with
  | nil => exact ⟨[], rfl, rfl, fun i d h => by simp at h⟩
  | @snoc n acc y h r ih =>
    obtain ⟨ds, hl, rfl, hp⟩ := ih
    obtain ⟨d, rfl, h2⟩ := r
    refine ⟨ds ++ [d], by simp [hl], by simp, fun i d' hi => ?_⟩
    by_cases hlt : i < ds.length
    · rw [List.getElem?_append_left hlt] at hi
      exact hp i d' hi
    · rw [List.getElem?_append_right (by omega)] at hi
      have : i - ds.length = 0 := by
        by_cases z : i - ds.length = 0
        · exact z
        · obtain ⟨k, hk⟩ : ∃ k, i - ds.length = k + 1 := ⟨i - ds.length - 1, by omega⟩
          rw [hk] at hi
          simp at hi
      rw [this] at hi
      obtain rfl : d = d' := by simpa using hi
      have e : i = n := by omega
      rw [e]
      exact h2
theorem r_all {p : Addr} {bs : List Bool} (h : H p = some (.lst (bs.map V.bl))) (q : Q (.bl (bs.all id)) H) : rAll K [.ref p] H Q := ⟨p, bs, rfl, SqL.of h, q⟩
theorem r_sum {p : Addr} {ns : List Int} (h : H p = some (.lst (ns.map V.int))) (q : Q (.int ns.sum) H) : rSum K [.ref p] H Q := ⟨p, ns, rfl, SqL.of h, q⟩
theorem r_pop {l : Addr} {xs : List V} {y : V} (h : H l = some (.lst (xs ++ [y]))) (q : Q y (upd H l (.lst xs))) : rPop (.ref l) [] H Q := ⟨l, xs ++ [y], y, rfl, rfl, h, by simp, by simpa using q⟩
/-- {k: v} -/
theorem s_disp1 {σ : L2.St} {k : Str} {v : V} (q : ∀ p H1, H p = none → Same H H1 → H1 p = some (.dK [(Sum.inr k, v)]) → Q (.ref p) H1) : tDisp [(tC (.str k), tC v)] σ H Q := fun p hp =>
  ⟨upd_same, [(Sum.inr k, v)], rfl, (by show 1 ≤ 15; decide), by
    have e : mergeK [] [((Sum.inr k : L2.Key), v)] = [(Sum.inr k, v)] := rfl
    rw [e, upd_upd]
    exact q p _ hp (Same.new hp) upd_same⟩
theorem s_disp0 {σ : L2.St} (q : ∀ p H1, H p = none → Same H H1 → H1 p = some (.dK []) → Q (.ref p) H1) : tDNewKN σ H Q := q
theorem s_tyS {s : Str} {P : Prop} (q : P) : (∃ b, V.str s = .str b) ∧ P := ⟨⟨s, rfl⟩, q⟩
theorem gives_mk {P : Dat → Prop} {H' : Hp} {d : Dat} {v : V} (q : gives K H Q P) (s : Same H H') (r : Rep K H' d v) (p : P d) : Q v H' := q d v H' s r p
theorem gives_in {P : Dat → Prop} {H' : Hp} (q : gives K H Q P) (s : Same H H') : gives K H' Q P := fun d v H2 s2 r p => q d v H2 (s.trans s2) r p
theorem gives_imp {P P' : Dat → Prop} (q : gives K H Q P) (h : ∀ d, P' d → P d) : gives K H Q P' := fun d v H2 s2 r p => q d v H2 s2 r (h d p)
/-- the i-th of a few data -/
theorem reps_mem {ds : List Dat} {xs : List V} {v : V} (h : Reps K H ds xs) (m : v ∈ xs) : ∃ d, d ∈ ds ∧ Rep K H d v := by
  obtain ⟨i, hi⟩ := List.getElem?_of_mem m
  obtain ⟨d, h1, h2⟩ := reps_get h hi
  exact ⟨d, List.mem_of_getElem? h1, h2⟩
theorem at_reps {ds : List Dat} {xs : List V} {r : Int} (h : Reps K H ds xs) (h0 : 0 ≤ r) (h1 : r < xs.length ∨ (r = 0 ∧ xs ≠ [])) : ∃ v d, atI xs r = some v ∧ d ∈ ds ∧ Rep K H d v := by
  have hlt : r.toNat < xs.length := by
    rcases h1 with h1 | ⟨rfl, h1⟩
    · omega
    · exact List.length_pos_iff.mpr h1
  obtain ⟨d, h2, h3⟩ := reps_get h (List.getElem?_eq_getElem hlt)
  refine ⟨_, d, ?_, List.mem_of_getElem? h2, h3⟩
  have := atI_nat (xs := xs) (j := r.toNat) (List.getElem?_eq_getElem hlt)
  have e : ((r.toNat : Nat) : Int) = r := by omega
  rw [e] at this
  exact this
end
/-! single signs -/
theorem dec_one {a b : Nat} : decide ([a] < [b]) = decide (a < b) := by
  by_cases h : a < b
  · rw [decide_eq_true h]
    exact decide_eq_true (List.Lex.rel h)
  · rw [decide_eq_false h]
    refine decide_eq_false fun z => ?_
    cases z with
    | rel z => exact h z
    | cons z => cases z
section
variable {K : PySem.W.Frag} {H : Hp} {Q : VK}
theorem r_le_1 {x : Str} {a c : Nat} (e : x.cps.toList = [a]) (q : Q (.bl (decide (a ≤ c))) H) : rLeU (.str x) (.str ⟨#[c]⟩) H Q := r_le_s (by
  show Q (.bl (!decide ([c] < x.cps.toList))) H
  rw [e, dec_one]
  by_cases h : c < a
  · rw [decide_eq_true h]
    rw [decide_eq_false (show ¬ a ≤ c by omega)] at q
    exact q
  · rw [decide_eq_false h]
    rw [decide_eq_true (show a ≤ c by omega)] at q
    exact q)
theorem r_le_2 {x : Str} {a c : Nat} (e : x.cps.toList = [a]) (q : Q (.bl (decide (c ≤ a))) H) : rLeU (.str ⟨#[c]⟩) (.str x) H Q := r_le_s (by
  show Q (.bl (!decide (x.cps.toList < [c]))) H
  rw [e, dec_one]
  by_cases h : a < c
  · rw [decide_eq_true h]
    rw [decide_eq_false (show ¬ c ≤ a by omega)] at q
    exact q
  · rw [decide_eq_false h]
    rw [decide_eq_true (show c ≤ a by omega)] at q
    exact q)
theorem r_le_a {c : Nat} (q : Q (.bl (decide (97 ≤ c))) H) : rLeU (.str "a") (.str ⟨#[c]⟩) H Q := r_le_1 (by decide +kernel) q
theorem r_le_z {c : Nat} (q : Q (.bl (decide (c ≤ 122))) H) : rLeU (.str ⟨#[c]⟩) (.str "z") H Q := r_le_2 (by decide +kernel) q
theorem r_le_0 {c : Nat} (q : Q (.bl (decide (48 ≤ c))) H) : rLeU (.str "0") (.str ⟨#[c]⟩) H Q := r_le_1 (by decide +kernel) q
theorem r_le_9 {c : Nat} (q : Q (.bl (decide (c ≤ 57))) H) : rLeU (.str ⟨#[c]⟩) (.str "9") H Q := r_le_2 (by decide +kernel) q
end
theorem s_it2 {a b : Bool} {H : Hp} {Q : VK} (q : Q (.bl (a && b)) H) : if a = true then Q (.bl b) H else Q (.bl false) H := by
  cases a
  · exact s_itF q
  · exact s_itT q
section
variable {K : PySem.W.Frag} {H : Hp} {Q : VK} {x y : V} {xs : List V}
theorem g_ix (h : rIx K x y H Q) : rIx K x y H Q := h
theorem g_len (h : rLenU K xs H Q) : rLenU K xs H Q := h
theorem g_mod (h : rModU x y H Q) : rModU x y H Q := h
theorem g_mul (h : rMulU K x y H Q) : rMulU K x y H Q := h
theorem g_fdv (h : rFdvU x y H Q) : rFdvU x y H Q := h
theorem g_pow (h : rPowU x y H Q) : rPowU x y H Q := h
theorem g_set {o i v : V} {R : Hp → Prop} (h : rSetL o i v H R) : rSetL o i v H R := h
theorem g_add (h : rAddU K x y H Q) : rAddU K x y H Q := h
theorem g_new {n : Nat} {o : HO} (h : n ≤ sizeLine ∧ aNew o H Q) : n ≤ sizeLine ∧ aNew o H Q := h
theorem g_ty {T : String} {P : Prop} (h : tyV K T x H ∧ P) : tyV K T x H ∧ P := h
theorem g_app (h : rAppend x xs H Q) : rAppend x xs H Q := h
theorem g_isi (h : rIsi K xs H Q) : rIsi K xs H Q := h
end
section
variable {K : PySem.W.Frag} {H : Hp} {Q : VK} {g : TG} {te tl : TE} {vs : List Nat} {σ : L2.St}
theorem s_lc_both1 (h : tLcN (iList K tl) g te vs σ H Q) : tLcN (fun σ H R => iList K tl σ H R ∨ iTup K tl σ H R) g te vs σ H Q := Or.inl h
theorem s_lc_both2 (h : tLcN (iTup K tl) g te vs σ H Q) : tLcN (fun σ H R => iList K tl σ H R ∨ iTup K tl σ H R) g te vs σ H Q := Or.inr h
theorem r_len_e {p : Addr} {xs : List V} (h : SqL K H p xs ∨ SqT K H p xs) (q : Q (.int xs.length) H) : rLenU K [.ref p] H Q := .inl ⟨p, xs, rfl, h, q⟩
theorem r_list_e {p : Addr} {xs : List V} (h : SqL K H p xs ∨ SqT K H p xs) (q : ∀ l H1, H l = none → Same H H1 → H1 l = some (.lst xs) → Q (.ref l) H1) : rListU K [.ref p] H Q := .inl ⟨p, xs, rfl, h, q⟩
end
/-! single code of a text -/
theorem num_codes {n : Nat} : ∀ c ∈ (Str.ofString (toString (n : Int))).cps.toList, 48 ≤ c ∧ c ≤ 57 := by
  intro c hc
  rw [SX.num_S] at hc
  have hc' : c ∈ TL.numL n := by simpa using hc
  have h1 : ¬ (c < 48 ∨ 57 < c) := fun z => TL.numL_free (n := n) z hc'
  omega
section
theorem cutV_from {xs : List V} {k : Int} (h0 : 0 ≤ k) : cutV xs (some k) none = xs.drop k.toNat := by
  have e : HT.sIx xs.length 0 (some k) = min k.toNat xs.length := by
    have := HT.sIx_nat xs.length 0 k.toNat
    rwa [show ((k.toNat : Nat) : Int) = k by omega] at this
  unfold cutV
  rw [e, HT.sIx_none]
  by_cases h : k.toNat ≤ xs.length
  · rw [Nat.min_eq_left h]
    exact List.take_of_length_le (by simp)
  · rw [Nat.min_eq_right (by omega)]
    rw [List.drop_eq_nil_of_le (Nat.le_refl _), List.drop_eq_nil_of_le (by omega)]
    simp
theorem cutV_to {xs : List V} {k : Int} (h0 : 0 ≤ k) : cutV xs none (some k) = xs.take k.toNat := by
  have e : HT.sIx xs.length xs.length (some k) = min k.toNat xs.length := by
    have := HT.sIx_nat xs.length xs.length k.toNat
    rwa [show ((k.toNat : Nat) : Int) = k by omega] at this
  unfold cutV
  rw [e, HT.sIx_none, List.drop_zero, Nat.sub_zero]
  by_cases h : k.toNat ≤ xs.length
  · rw [Nat.min_eq_left h]
  · rw [Nat.min_eq_right (by omega), List.take_length, List.take_of_length_le (by omega)]
theorem cutV_butlast {xs : List V} : cutV xs none (some (-1)) = xs.take (xs.length - 1) := by
  have e : HT.sIx xs.length xs.length (some (-1)) = xs.length - 1 := by
    show (if (-1 : Int) < 0 then ((-1 : Int) + (xs.length : Int)).toNat else min (-1 : Int).toNat xs.length) = _
    rw [if_pos (by omega)]
    omega
  unfold cutV
  rw [e, HT.sIx_none, List.drop_zero, Nat.sub_zero]
variable {K : PySem.W.Frag} {σ : L2.St} {H : Hp} {Q : List V → Hp → Prop} {te : TE} {t : TA}
theorem s_star (h : te σ H fun x H1 => ∃ p xs, x = V.ref p ∧ (SqT K H1 p xs ∨ SqL K H1 p xs) ∧ t σ H1 fun ys H2 => Q (xs ++ ys) H2) : StX.tStar K te t σ H Q := h
end
/-! the words of a request, two ways -/
theorem words_cases {t : Str} {ps : List Dat} (h : Req t ps) (long : Bool) : (t = "take" ∧ long = false ∧ ps.length = 4 ∧ ps[3]? = some (.int 1) ∧ wordsOf t ps long = t :: (ps.take 3).map wordOf) ∨ ((long = true ∨ cutsOne t ps = false) ∧ wordsOf t ps long = t :: ps.map wordOf) := by
  unfold wordsOf
  by_cases hc : (cutsOne t ps && !long) = true
  · left
    rw [if_pos hc]
    rw [Bool.and_eq_true] at hc
    have hc1 := hc.1
    have hl : long = false := by simpa using hc.2
    unfold cutsOne at hc1
    rw [Bool.and_eq_true] at hc1
    have ht := of_decide_eq_true hc1.1
    refine ⟨ht, hl, ?_, isOne_some hc1.2, rfl⟩
    rw [h.2.1, ht]
    decide +kernel
  · right
    rw [if_neg hc]
    refine ⟨?_, rfl⟩
    cases long
    · right
      simpa using hc
    · left; rfl
theorem take3_one {ps : List Dat} (h : ps.length = 4) (h1 : ps[3]? = some (.int 1)) : ps.take 3 ++ [.int 1] = ps := by
  match ps, h with
  | [a, b, c, d], _ =>
    have : d = .int 1 := by simpa using h1
    rw [this]
    rfl
theorem rep_flat {K : PySem.W.Frag} {H H' : Hp} {d : Dat} {v : V} (f : flatD d) (h : Rep K H d v) : Rep K H' d v := by
  cases d with
  | str s => unfold Rep at h ⊢; exact h
  | int i => unfold Rep at h ⊢; exact h
  | _ => exact f.elim
theorem reps_flat {K : PySem.W.Frag} {H H' : Hp} {ds : List Dat} {xs : List V} (f : ∀ d ∈ ds, flatD d) (h : Reps K H ds xs) : Reps K H' ds xs :=
  reps_of (reps_len h).symm fun i d x h1 h2 => by
    obtain ⟨d', h3, h4⟩ := reps_get h h2
    rw [h1] at h3
    obtain rfl := Option.some.inj h3
    exact rep_flat (f d (List.mem_of_getElem? h1)) h4
theorem req_flat {t : Str} {ps : List Dat} (h : Req t ps) : ∀ d ∈ ps, flatD d := fun d hd => by
  obtain ⟨i, hi⟩ := List.getElem?_of_mem hd
  obtain ⟨r, _, hp⟩ := req_part h hi
  rcases part_form hp with ⟨_, s, rfl, _⟩ | ⟨_, n, rfl, _⟩ <;> exact True.intro
/-- a known list changes, the rest stands -/
theorem Same.mut2 {H H1 : Hp} {p : Addr} {o : HO} (s : Same H H1) (h : H p = none) : Same H (upd H1 p o) := Same.mut s h
theorem r_ix_pick {K : PySem.W.Frag} {H : Hp} {Q : VK} {p : Addr} {xs : List V} {ds : List Dat} {r n : Int} (h : H p = some (.lst xs)) (hr : Reps K H ds xs) (h0 : 0 ≤ r) (h1 : r < n ∨ r = 0) (hn : n = xs.length) (hne : xs ≠ [])
    (q : ∀ v d, d ∈ ds → Rep K H d v → Q v H) : rIx K (.ref p) (.int r) H Q := by
  obtain ⟨v, d, h2, h3, h4⟩ := at_reps hr h0 (by rw [← hn]; exact h1.imp id fun e => ⟨e, hne⟩)
  exact r_ix_l h h2 (q v d h3 h4)
end AG
namespace AG
open PySem PySem.Spec L2
theorem r_neg {i : Int} {H : Hp} {Q : VK} (q : Q (.int (-i)) H) : rU (fun i => .int (-i)) (.int i) H Q := ⟨i, rfl, q⟩
theorem dget_zip : ∀ {ks : List Str} {vs : List V} {i : Nat} {k : Str} {v : V}, ks.Nodup → ks[i]? = some k → vs[i]? = some v → valV ((ks.zip vs).map (fun p => ((Sum.inr p.1 : L2.Key), p.2))) (Sum.inr k) = some v
  | [], vs, i, k, v, _, hk, _ => by simp at hk
  | x :: r, [], i, k, v, _, _, hv => by simp at hv
  | x :: r, y :: t, 0, k, v, hn, hk, hv => by
    simp at hk hv
    subst hk hv
    exact valV_pos rfl
  | x :: r, y :: t, i + 1, k, v, hn, hk, hv => by
    have hx : x ≠ k := fun e => by
      have := (List.nodup_cons.mp hn).1
      rw [e] at this
      exact this (List.mem_of_getElem? (by simpa using hk))
    show valV ((Sum.inr x, y) :: ((r.zip t).map (fun p => ((Sum.inr p.1 : L2.Key), p.2)))) (Sum.inr k) = some v
    rw [valV_neg (fun e => hx (Sum.inr.inj e))]
    exact dget_zip (List.nodup_cons.mp hn).2 (by simpa using hk) (by simpa using hv)
section
variable {σ : L2.St} {H : Hp} {Q : VK} {td ty tv : TE} {a : Addr}
theorem s_dnotin (h : ty σ H fun y H1 => td σ H1 fun x H2 => ∃ a o, x = .ref a ∧ DGet H2 a y o ∧ Q (.bl (!o.isSome)) H2) : tDNotIn ty td σ H Q := h
theorem s_dget (h : td σ H fun x H1 => ty σ H1 fun y H2 => ∃ a v, x = .ref a ∧ DGet H2 a y (some v) ∧ Q v H2) : tDGet td ty σ H Q := h
theorem s_dput {D : Ends} (h : tv σ H fun v H1 => td σ H1 fun x H2 => ty σ H2 fun y H3 => ∃ a H4, x = .ref a ∧ DPut H3 a y v H4 ∧ D.nx σ H4) : sDPut td ty tv D σ H := h
theorem keys_zip {ks : List Str} {vs : List V} (h : ks.length = vs.length) : ((ks.zip vs).map (fun p => ((Sum.inr p.1 : L2.Key), p.2))).map (fun kv => kV kv.1) = ks.map V.str := by
  rw [List.map_map]
  have : ((fun kv : L2.Key × V => kV kv.1) ∘ fun p : Str × V => ((Sum.inr p.1 : L2.Key), p.2)) = fun p : Str × V => V.str p.1 := rfl
  rw [this]
  have e : (ks.zip vs).map (fun p => V.str p.1) = ((ks.zip vs).map Prod.fst).map V.str := by rw [List.map_map]; rfl
  rw [e, List.map_fst_zip (by omega)]
theorem putK_new {ks : List Str} {vs : List V} {k : Str} {v : V} (h : ks.length = vs.length) (hk : k ∉ ks) : putK ((ks.zip vs).map (fun p => ((Sum.inr p.1 : L2.Key), p.2))) (Sum.inr k) v = ((ks ++ [k]).zip (vs ++ [v])).map (fun p => ((Sum.inr p.1 : L2.Key), p.2)) := by
  have hany : (((ks.zip vs).map (fun p => ((Sum.inr p.1 : L2.Key), p.2))).any fun kv => decide (kv.1 = (Sum.inr k : L2.Key))) = false := by
    rw [Bool.eq_false_iff]
    intro z
    rw [List.any_eq_true] at z
    obtain ⟨x, hx, e⟩ := z
    obtain ⟨p, hp, rfl⟩ := List.mem_map.mp hx
    have e' := Sum.inr.inj (of_decide_eq_true e)
    exact hk (by rw [← e']; exact (List.of_mem_zip hp).1)
  unfold putK
  rw [if_neg (by rw [hany]; exact Bool.false_ne_true), List.zip_append h]
  simp
end
end AG
namespace AG
open PySem PySem.Spec L2
open PyProof.Rows (envOfC)
def rInSg : R2 := fun x y H Q => ∃ (c : Nat) (z : Str), x = .str ⟨#[c]⟩ ∧ y = .str z ∧ Q (.bl (decide (c ∈ z.cps.toList))) H
def rNotInSg : R2 := fun x y H Q => ∃ (c : Nat) (z : Str), x = .str ⟨#[c]⟩ ∧ y = .str z ∧ Q (.bl (!decide (c ∈ z.cps.toList))) H
theorem op_inSg {X : Cx} : OpR X (compareOp .In) rInSg := op_in_sign
theorem op_notInSg {X : Cx} : OpR X (compareOp .NotIn) rNotInSg := op_notIn_sign
section
variable {P : Program} {w : World} {K : PySem.W.Frag} {mg : Str → Option Value} {base : Heap} {C : Cs}
abbrev S_init_BadValue : Stmt := (C8.clsBody (top 2)).getD 0 (.Pass ⟨0, 0, 0, 0⟩)
theorem sc_init_BadValue : FnScope ["self", "parameter"] ["self", "parameter"] (defScope S_init_BadValue) := ⟨rfl, rfl, rfl, by decide +kernel, rfl, by decide +kernel, by decide +kernel⟩
abbrev t_init_BadValue_2 (K : PySem.W.Frag) (C : Cs) : TS :=
  (tOst K "told" (tVar 0) (tTupN (tCons (tC (.str "BadValue")) (tCons (tTupN (tCons (tVar 1) tNil)) tNil))))
def t_init_BadValue (K : PySem.W.Frag) (C : Cs) : TS :=
  (tSeq (tOst K "parameter" (tVar 0) (tVar 1))
      (t_init_BadValue_2 K C))
theorem i_init_BadValue (x0 x1 : V) : L2.start ["self", "parameter"] [x0, x1] = [some x0, some x1] := rfl
abbrev Pf_init_BadValue (K : PySem.W.Frag) (C : Cs) : Prop := ∀ (vs : List V) (H : Hp) (Q : VK) (E : XK), (sp_init_BadValue K C) vs H Q E → t_init_BadValue K C ⟨fun _ H' => Q .non H', Q, fun _ _ => False, fun _ _ => False⟩ (L2.start ["self", "parameter"] vs) H
theorem d_init_BadValue {f : Addr} {cdv : Value} {A : Around} {outer : List Env} {s : Shared} {H : Hp} {E : XK} {n : Nat} (G : Glob w K mg C) (hr : Room 0 (A.deeper (envOfC "BadValue.__init__" (defScope S_init_BadValue) s.heap.objs.size f cdv))) :
    PSs ((cxOf CX0 P w K mg base ["self", "parameter"] "BadValue.__init__" (defScope S_init_BadValue) f cdv A outer s H E).nox) (defBody S_init_BadValue) (t_init_BadValue K C) := by
  unfold t_init_BadValue
  exact (pss_cons (ps_ost (pv 0) (pv 1))
      (pss_one (ps_ost (pv 0) (pe_tupN (pa_cons pe_str (pa_cons (pe_tupN (pa_cons (pv 1) pa_nil)) pa_nil))))))
abbrev S_init_BadLine : Stmt := (C8.clsBody (top 9)).getD 0 (.Pass ⟨0, 0, 0, 0⟩)
theorem sc_init_BadLine : FnScope ["self", "line", "column"] ["self", "line", "column"] (defScope S_init_BadLine) := ⟨rfl, rfl, rfl, by decide +kernel, rfl, by decide +kernel, by decide +kernel⟩
abbrev t_init_BadLine_3 (K : PySem.W.Frag) (C : Cs) : TS :=
  (tOst K "told" (tVar 0) (tTupN (tCons (tC (.str "BadLine")) (tCons (tTupN (tCons (tVar 1) (tCons (tVar 2) tNil))) tNil))))
abbrev t_init_BadLine_2 (K : PySem.W.Frag) (C : Cs) : TS :=
  (tSeq (tOst K "column" (tVar 0) (tVar 2))
      (t_init_BadLine_3 K C))
def t_init_BadLine (K : PySem.W.Frag) (C : Cs) : TS :=
  (tSeq (tOst K "line" (tVar 0) (tVar 1))
      (t_init_BadLine_2 K C))
theorem i_init_BadLine (x0 x1 x2 : V) : L2.start ["self", "line", "column"] [x0, x1, x2] = [some x0, some x1, some x2] := rfl
abbrev Pf_init_BadLine (K : PySem.W.Frag) (C : Cs) : Prop := ∀ (vs : List V) (H : Hp) (Q : VK) (E : XK), (sp_init_BadLine K C) vs H Q E → t_init_BadLine K C ⟨fun _ H' => Q .non H', Q, fun _ _ => False, fun _ _ => False⟩ (L2.start ["self", "line", "column"] vs) H
theorem d_init_BadLine {f : Addr} {cdv : Value} {A : Around} {outer : List Env} {s : Shared} {H : Hp} {E : XK} {n : Nat} (G : Glob w K mg C) (hr : Room 0 (A.deeper (envOfC "BadLine.__init__" (defScope S_init_BadLine) s.heap.objs.size f cdv))) :
    PSs ((cxOf CX0 P w K mg base ["self", "line", "column"] "BadLine.__init__" (defScope S_init_BadLine) f cdv A outer s H E).nox) (defBody S_init_BadLine) (t_init_BadLine K C) := by
  unfold t_init_BadLine
  exact (pss_cons (ps_ost (pv 0) (pv 1))
      (pss_cons (ps_ost (pv 0) (pv 2))
      (pss_one (ps_ost (pv 0) (pe_tupN (pa_cons pe_str (pa_cons (pe_tupN (pa_cons (pv 1) (pa_cons (pv 2) pa_nil))) pa_nil)))))))
abbrev S_is_whole : Stmt := top 10
theorem sc_is_whole : FnScope ["value"] ["value"] (defScope S_is_whole) := ⟨rfl, rfl, rfl, by decide +kernel, rfl, by decide +kernel, by decide +kernel⟩
def t_is_whole (K : PySem.W.Frag) (C : Cs) : TS :=
  (tRet (tAndV (tCB (rIsi K) (tCons (tVar 0) (tCons (tC (.ty "int")) tNil))) (tNotV (tCB (rIsi K) (tCons (tVar 0) (tCons (tC (.ty "bool")) tNil))))))
theorem i_is_whole (x0 : V) : L2.start ["value"] [x0] = [some x0] := rfl
abbrev Pf_is_whole (K : PySem.W.Frag) (C : Cs) : Prop := ∀ (vs : List V) (H : Hp) (Q : VK) (E : XK), (sp_is_whole K C) vs H Q E → t_is_whole K C ⟨fun _ H' => Q .non H', Q, fun _ _ => False, fun _ _ => False⟩ (L2.start ["value"] vs) H
theorem d_is_whole {f : Addr} {cdv : Value} {A : Around} {outer : List Env} {s : Shared} {H : Hp} {E : XK} {n : Nat} (G : Glob w K mg C) (hr : Room 0 (A.deeper (envOfC "is_whole" (defScope S_is_whole) s.heap.objs.size f cdv))) :
    PSs ((cxOf CX0 P w K mg base ["value"] "is_whole" (defScope S_is_whole) f cdv A outer s H E).nox) (defBody S_is_whole) (t_is_whole K C) := by
  unfold t_is_whole
  exact (pss_one (ps_ret (pe_and (pe_callB call_isi rfl G.b_isinstance (by decide +kernel) (pa_cons (pv 0) (pa_cons (pe_bltn (v := .ty "int") rfl G.b_int (by decide +kernel) rfl) pa_nil))) (pe_one (pe_not (pe_callB call_isi rfl G.b_isinstance (by decide +kernel) (pa_cons (pv 0) (pa_cons (pe_bltn (v := .ty "bool") rfl G.b_bool (by decide +kernel) rfl) pa_nil))))))))
abbrev S_is_power : Stmt := top 12
theorem sc_is_power : FnScope ["value"] ["value"] (defScope S_is_power) := ⟨rfl, rfl, rfl, by decide +kernel, rfl, by decide +kernel, by decide +kernel⟩
def t_is_power (K : PySem.W.Frag) (C : Cs) : TS :=
  (tRet (tAndV (tCall (sp_is_whole K C) [] E0 (tCons (tVar 0) tNil)) (tAndV (tOp rGeU (tVar 0) (tC (.int 1))) (tOp rEq (tOp rAndU (tVar 0) (tOp rSubU (tVar 0) (tC (.int 1)))) (tC (.int 0))))))
theorem i_is_power (x0 : V) : L2.start ["value"] [x0] = [some x0] := rfl
abbrev Pf_is_power (K : PySem.W.Frag) (C : Cs) : Prop := ∀ (vs : List V) (H : Hp) (Q : VK) (E : XK), (sp_is_power K C) vs H Q E → t_is_power K C ⟨fun _ H' => Q .non H', Q, fun _ _ => False, fun _ _ => False⟩ (L2.start ["value"] vs) H
theorem d_is_power {f : Addr} {cdv : Value} {A : Around} {outer : List Env} {s : Shared} {H : Hp} {E : XK} {n : Nat} (G : Glob w K mg C) (c_is_whole : Cal P w K mg base 1 "is_whole" (sp_is_whole K C)) (hr : Room 1 (A.deeper (envOfC "is_power" (defScope S_is_power) s.heap.objs.size f cdv))) :
    PSs ((cxOf CX0 P w K mg base ["value"] "is_power" (defScope S_is_power) f cdv A outer s H E).nox) (defBody S_is_power) (t_is_power K C) := by
  unfold t_is_power
  exact (pss_one (ps_ret (pe_and (pe_c c_is_whole hr (by decide) rfl (pa_cons (pv 0) pa_nil)) (pe_and (pe_cmpR op_geU (pv 0) pe_int (nomark _)) (pe_one (pe_cmpR op_eq (pe_op op_andU (pv 0) (pe_op op_subU (pv 0) pe_int)) pe_int (nomark _)))))))
abbrev S_is_name : Stmt := top 16
theorem sc_is_name : FnScope ["value", "sign"] ["value"] (defScope S_is_name) := ⟨rfl, rfl, rfl, by decide +kernel, rfl, by decide +kernel, by decide +kernel⟩
abbrev t_is_name_2 (K : PySem.W.Frag) (C : Cs) : TS :=
  (tRet (tCB (rAll K) (tCons (tLcN (iStr (tVar 0)) (gName 1) (tChain rLeU rLeU (tC (.str "a")) (tVar 1) (tC (.str "z"))) [1]) tNil)))
def t_is_name (K : PySem.W.Frag) (C : Cs) : TS :=
  (tSeq (tIfS (tOr (tNot (tB (tCB (rIsi K) (tCons (tVar 0) (tCons (tC (.ty "str")) tNil))))) (tNot (tTest (tChain rLeU rLeU (tC (.int 1)) (tCB (rLenU K) (tCons (tVar 0) tNil)) (tC (.int 4)))))) (tRet (tC (.bl false))) tNext)
      (t_is_name_2 K C))
theorem i_is_name (x0 : V) : L2.start ["value", "sign"] [x0] = [some x0, none] := rfl
abbrev Pf_is_name (K : PySem.W.Frag) (C : Cs) : Prop := ∀ (vs : List V) (H : Hp) (Q : VK) (E : XK), (sp_is_name K C) vs H Q E → t_is_name K C ⟨fun _ H' => Q .non H', Q, fun _ _ => False, fun _ _ => False⟩ (L2.start ["value", "sign"] vs) H
theorem d_is_name {f : Addr} {cdv : Value} {A : Around} {outer : List Env} {s : Shared} {H : Hp} {E : XK} {n : Nat} (G : Glob w K mg C) (hr : Room 0 (A.deeper (envOfC "is_name" (defScope S_is_name) s.heap.objs.size f cdv))) :
    PSs ((cxOf CX0 P w K mg base ["value", "sign"] "is_name" (defScope S_is_name) f cdv A outer s H E).nox) (defBody S_is_name) (t_is_name K C) := by
  unfold t_is_name
  exact (pss_cons (ps_if (PW.pt (pw_or (pt_not (pt_val (pe_callB call_isi rfl G.b_isinstance (by decide +kernel) (pa_cons (pv 0) (pa_cons (pe_bltn (v := .ty "str") rfl G.b_str (by decide +kernel) rfl) pa_nil))))) (pw_or1 (pt_not (pt_chain op_leU op_leU pe_int (pe_callB call_lenU rfl G.b_len PySem.boot_len (pa_cons (pv 0) pa_nil)) pe_int))))) (pss_one (ps_ret pe_bl)) pss_nil)
      (pss_one (ps_ret (pe_callB (cr_all rfl) rfl G.b_all (by decide +kernel) (pa_cons (pe_lcN (own := [("sign", 1)]) (g := (gName 1)) rfl sc_is_name.nd (pi_str (pv 0)) (blkOk_by (own := [("sign", 1)]) (N := ["value", "sign"]) (sc := defScope S_is_name) (by decide +kernel)) (fun _ _ _ _ _ => (pg_name (i := 1) sc_is_name.nd rfl (Or.inl rfl))) (fun _ _ _ _ _ => (pe_chain op_leU op_leU pe_str (pv 1) pe_str))) pa_nil)))))
abbrev S_is_part : Stmt := top 17
theorem sc_is_part : FnScope ["role", "value", "low", "high"] ["role", "value"] (defScope S_is_part) := ⟨rfl, rfl, rfl, by decide +kernel, rfl, by decide +kernel, by decide +kernel⟩
abbrev t_is_part_4 (K : PySem.W.Frag) (C : Cs) : TS :=
  (tRet (tOrV (tOp rNe (tVar 0) (tC (.str "align"))) (tCall (sp_is_power K C) [] E0 (tCons (tVar 1) tNil))))
abbrev t_is_part_3 (K : PySem.W.Frag) (C : Cs) : TS :=
  (tSeq (tIfS (tOr (tNot (tB (tCall (sp_is_whole K C) [] E0 (tCons (tVar 1) tNil)))) (tNot (tTest (tChain rLeU rLeU (tVar 2) (tVar 1) (tVar 3))))) (tRet (tC (.bl false))) tNext)
      (t_is_part_4 K C))
abbrev t_is_part_2 (K : PySem.W.Frag) (C : Cs) : TS :=
  (tSeq (tAsg (tOp (rKtG K C.dRanges rangesV) (tC (.ref C.dRanges)) (tVar 0)) (gTup K 2 (gCons (gName 2) (gCons (gName 3) gNil))))
      (t_is_part_3 K C))
def t_is_part (K : PySem.W.Frag) (C : Cs) : TS :=
  (tSeq (tIfS (tTest (tOp rEq (tVar 0) (tC (.str "name")))) (tRet (tCall (sp_is_name K C) [] E0 (tCons (tVar 1) tNil))) tNext)
      (t_is_part_2 K C))
theorem i_is_part (x0 x1 : V) : L2.start ["role", "value", "low", "high"] [x0, x1] = [some x0, some x1, none, none] := rfl
abbrev Pf_is_part (K : PySem.W.Frag) (C : Cs) : Prop := ∀ (vs : List V) (H : Hp) (Q : VK) (E : XK), (sp_is_part K C) vs H Q E → t_is_part K C ⟨fun _ H' => Q .non H', Q, fun _ _ => False, fun _ _ => False⟩ (L2.start ["role", "value", "low", "high"] vs) H
theorem d_is_part {f : Addr} {cdv : Value} {A : Around} {outer : List Env} {s : Shared} {H : Hp} {E : XK} {n : Nat} (G : Glob w K mg C) (c_is_name : Cal P w K mg base 1 "is_name" (sp_is_name K C)) (c_is_whole : Cal P w K mg base 1 "is_whole" (sp_is_whole K C)) (c_is_power : Cal P w K mg base 2 "is_power" (sp_is_power K C)) (hr : Room 2 (A.deeper (envOfC "is_part" (defScope S_is_part) s.heap.objs.size f cdv))) :
    PSs ((cxOf CX0 P w K mg base ["role", "value", "low", "high"] "is_part" (defScope S_is_part) f cdv A outer s H E).nox) (defBody S_is_part) (t_is_part K C) := by
  unfold t_is_part
  exact (pss_cons (ps_if (pt_cmpR op_eq (pv 0) pe_str (nomark _)) (pss_one (ps_ret (pe_c c_is_name hr (by decide) rfl (pa_cons (pv 1) pa_nil)))) pss_nil)
      (pss_cons (ps_asg (pe_ix (ix_kt G.kRanges) (pe_glob (v := .ref C.dRanges) (by rfl) G.mRANGES rfl) (pv 0) (fun _ _ => rfl)) (pg_tup rfl (pgs_cons (pg_name (i := 2) sc_is_part.nd rfl (Or.inl rfl)) (pgs_cons (pg_name (i := 3) sc_is_part.nd rfl (Or.inl rfl)) pgs_nil))))
      (pss_cons (ps_if (PW.pt (pw_or (pt_not (pt_val (pe_c c_is_whole hr (by decide) rfl (pa_cons (pv 1) pa_nil)))) (pw_or1 (pt_not (pt_chain op_leU op_leU (pv 2) (pv 1) (pv 3)))))) (pss_one (ps_ret pe_bl)) pss_nil)
      (pss_one (ps_ret (pe_or (pe_cmpR op_ne (pv 0) pe_str (nomark _)) (pe_one (pe_c c_is_power hr (by decide) rfl (pa_cons (pv 1) pa_nil)))))))))
abbrev S_is_text : Stmt := top 18
theorem sc_is_text : FnScope ["value", "codes", "sign", "code"] ["value"] (defScope S_is_text) := ⟨rfl, rfl, rfl, by decide +kernel, rfl, by decide +kernel, by decide +kernel⟩
abbrev t_is_text_3 (K : PySem.W.Frag) (C : Cs) : TS :=
  (tRet (tCB (rAll K) (tCons (tLcN (iList K (tVar 1)) (gName 3) (tOrV (tOp rEq (tVar 3) (tC (.int 10))) (tAndV (tChain rLeU rLeU (tC (.int 32)) (tVar 3) (tC (.int 126))) (tOp rNe (tVar 3) (tC (.int 37))))) [3]) tNil)))
abbrev t_is_text_2 (K : PySem.W.Frag) (C : Cs) : TS :=
  (tSeq (tAsg (tLcN (iStr (tVar 0)) (gName 2) (tCB rOrdU (tCons (tVar 2) tNil)) [2]) (gName 1))
      (t_is_text_3 K C))
def t_is_text (K : PySem.W.Frag) (C : Cs) : TS :=
  (tSeq (tIfS (tNot (tB (tCB (rIsi K) (tCons (tVar 0) (tCons (tC (.ty "str")) tNil))))) (tRet (tC (.bl false))) tNext)
      (t_is_text_2 K C))
theorem i_is_text (x0 : V) : L2.start ["value", "codes", "sign", "code"] [x0] = [some x0, none, none, none] := rfl
abbrev Pf_is_text (K : PySem.W.Frag) (C : Cs) : Prop := ∀ (vs : List V) (H : Hp) (Q : VK) (E : XK), (sp_is_text K C) vs H Q E → t_is_text K C ⟨fun _ H' => Q .non H', Q, fun _ _ => False, fun _ _ => False⟩ (L2.start ["value", "codes", "sign", "code"] vs) H
theorem d_is_text {f : Addr} {cdv : Value} {A : Around} {outer : List Env} {s : Shared} {H : Hp} {E : XK} {n : Nat} (G : Glob w K mg C) (hr : Room 0 (A.deeper (envOfC "is_text" (defScope S_is_text) s.heap.objs.size f cdv))) :
    PSs ((cxOf CX0 P w K mg base ["value", "codes", "sign", "code"] "is_text" (defScope S_is_text) f cdv A outer s H E).nox) (defBody S_is_text) (t_is_text K C) := by
  unfold t_is_text
  exact (pss_cons (ps_if (pt_not (pt_val (pe_callB call_isi rfl G.b_isinstance (by decide +kernel) (pa_cons (pv 0) (pa_cons (pe_bltn (v := .ty "str") rfl G.b_str (by decide +kernel) rfl) pa_nil))))) (pss_one (ps_ret pe_bl)) pss_nil)
      (pss_cons (ps_setLcN (i := 1) (own := [("sign", 2)]) (g := (gName 2)) rfl sc_is_text.nd rfl rfl (sw_true rfl rfl rfl (by decide +kernel)) (pi_str (pv 0)) (blkOk_by (own := [("sign", 2)]) (N := ["value", "codes", "sign", "code"]) (sc := defScope S_is_text) (by decide +kernel)) (fun _ _ _ _ _ => (pg_name (i := 2) sc_is_text.nd rfl (Or.inl rfl))) (fun _ _ _ _ _ => (pe_callB call_ordU rfl G.b_ord (by decide +kernel) (pa_cons (pv 2) pa_nil))))
      (pss_one (ps_ret (pe_callB (cr_all rfl) rfl G.b_all (by decide +kernel) (pa_cons (pe_lcN (own := [("code", 3)]) (g := (gName 3)) rfl sc_is_text.nd (pi_list (pv 1)) (blkOk_by (own := [("code", 3)]) (N := ["value", "codes", "sign", "code"]) (sc := defScope S_is_text) (by decide +kernel)) (fun _ _ _ _ _ => (pg_name (i := 3) sc_is_text.nd rfl (Or.inl rfl))) (fun _ _ _ _ _ => (pe_or (pe_cmpR op_eq (pv 3) pe_int (nomark _)) (pe_one (pe_and (pe_chain op_leU op_leU pe_int (pv 3) pe_int) (pe_one (pe_cmpR op_ne (pv 3) pe_int (nomark _)))))))) pa_nil))))))
abbrev S_is_number_word : Stmt := top 19
theorem sc_is_number_word : FnScope ["word", "sign"] ["word"] (defScope S_is_number_word) := ⟨rfl, rfl, rfl, by decide +kernel, rfl, by decide +kernel, by decide +kernel⟩
abbrev t_is_number_word_2 (K : PySem.W.Frag) (C : Cs) : TS :=
  (tRet (tCB (rAll K) (tCons (tLcN (iStr (tVar 0)) (gName 1) (tChain rLeU rLeU (tC (.str "0")) (tVar 1) (tC (.str "9"))) [1]) tNil)))
def t_is_number_word (K : PySem.W.Frag) (C : Cs) : TS :=
  (tSeq (tIfS (tOr (tNot (tTest (tChain rLeU rLeU (tC (.int 1)) (tCB (rLenU K) (tCons (tVar 0) tNil)) (tC (.int 9))))) (tAnd (tTest (tOp rEq (tOp (rIx K) (tVar 0) (tC (.int 0))) (tC (.str "0")))) (tTest (tOp rNe (tVar 0) (tC (.str "0")))))) (tRet (tC (.bl false))) tNext)
      (t_is_number_word_2 K C))
theorem i_is_number_word (x0 : V) : L2.start ["word", "sign"] [x0] = [some x0, none] := rfl
abbrev Pf_is_number_word (K : PySem.W.Frag) (C : Cs) : Prop := ∀ (vs : List V) (H : Hp) (Q : VK) (E : XK), (sp_is_number_word K C) vs H Q E → t_is_number_word K C ⟨fun _ H' => Q .non H', Q, fun _ _ => False, fun _ _ => False⟩ (L2.start ["word", "sign"] vs) H
theorem d_is_number_word {f : Addr} {cdv : Value} {A : Around} {outer : List Env} {s : Shared} {H : Hp} {E : XK} {n : Nat} (G : Glob w K mg C) (hr : Room 0 (A.deeper (envOfC "is_number_word" (defScope S_is_number_word) s.heap.objs.size f cdv))) :
    PSs ((cxOf CX0 P w K mg base ["word", "sign"] "is_number_word" (defScope S_is_number_word) f cdv A outer s H E).nox) (defBody S_is_number_word) (t_is_number_word K C) := by
  unfold t_is_number_word
  exact (pss_cons (ps_if (PW.pt (pw_or (pt_not (pt_chain op_leU op_leU pe_int (pe_callB call_lenU rfl G.b_len PySem.boot_len (pa_cons (pv 0) pa_nil)) pe_int)) (pw_or1 (PW.pt (pw_and (pt_cmpR op_eq (pe_ix ix_seq (pv 0) pe_int (fun _ _ => rfl)) pe_str (nomark _)) (pw_and1 (pt_cmpR op_ne (pv 0) pe_str (nomark _)))))))) (pss_one (ps_ret pe_bl)) pss_nil)
      (pss_one (ps_ret (pe_callB (cr_all rfl) rfl G.b_all (by decide +kernel) (pa_cons (pe_lcN (own := [("sign", 1)]) (g := (gName 1)) rfl sc_is_number_word.nd (pi_str (pv 0)) (blkOk_by (own := [("sign", 1)]) (N := ["word", "sign"]) (sc := defScope S_is_number_word) (by decide +kernel)) (fun _ _ _ _ _ => (pg_name (i := 1) sc_is_number_word.nd rfl (Or.inl rfl))) (fun _ _ _ _ _ => (pe_chain op_leU op_leU pe_str (pv 1) pe_str))) pa_nil)))))
abbrev S_is_written_part : Stmt := top 20
theorem sc_is_written_part : FnScope ["role", "word"] ["role", "word"] (defScope S_is_written_part) := ⟨rfl, rfl, rfl, by decide +kernel, rfl, by decide +kernel, by decide +kernel⟩
abbrev t_is_written_part_2 (K : PySem.W.Frag) (C : Cs) : TS :=
  (tRet (tAndV (tCall (sp_is_number_word K C) [] E0 (tCons (tVar 1) tNil)) (tCall (sp_is_part K C) [] E0 (tCons (tVar 0) (tCons (tCB rIntU (tCons (tVar 1) tNil)) tNil)))))
def t_is_written_part (K : PySem.W.Frag) (C : Cs) : TS :=
  (tSeq (tIfS (tTest (tOp rEq (tVar 0) (tC (.str "name")))) (tRet (tCall (sp_is_name K C) [] E0 (tCons (tVar 1) tNil))) tNext)
      (t_is_written_part_2 K C))
theorem i_is_written_part (x0 x1 : V) : L2.start ["role", "word"] [x0, x1] = [some x0, some x1] := rfl
abbrev Pf_is_written_part (K : PySem.W.Frag) (C : Cs) : Prop := ∀ (vs : List V) (H : Hp) (Q : VK) (E : XK), (sp_is_written_part K C) vs H Q E → t_is_written_part K C ⟨fun _ H' => Q .non H', Q, fun _ _ => False, fun _ _ => False⟩ (L2.start ["role", "word"] vs) H
theorem d_is_written_part {f : Addr} {cdv : Value} {A : Around} {outer : List Env} {s : Shared} {H : Hp} {E : XK} {n : Nat} (G : Glob w K mg C) (c_is_name : Cal P w K mg base 1 "is_name" (sp_is_name K C)) (c_is_number_word : Cal P w K mg base 1 "is_number_word" (sp_is_number_word K C)) (c_is_part : Cal P w K mg base 3 "is_part" (sp_is_part K C)) (hr : Room 3 (A.deeper (envOfC "is_written_part" (defScope S_is_written_part) s.heap.objs.size f cdv))) :
    PSs ((cxOf CX0 P w K mg base ["role", "word"] "is_written_part" (defScope S_is_written_part) f cdv A outer s H E).nox) (defBody S_is_written_part) (t_is_written_part K C) := by
  unfold t_is_written_part
  exact (pss_cons (ps_if (pt_cmpR op_eq (pv 0) pe_str (nomark _)) (pss_one (ps_ret (pe_c c_is_name hr (by decide) rfl (pa_cons (pv 1) pa_nil)))) pss_nil)
      (pss_one (ps_ret (pe_and (pe_c c_is_number_word hr (by decide) rfl (pa_cons (pv 1) pa_nil)) (pe_one (pe_c c_is_part hr (by decide) rfl (pa_cons (pv 0) (pa_cons (pe_callTy call_intU rfl G.b_int (by decide +kernel) (pa_cons (pv 1) pa_nil)) pa_nil))))))))
abbrev S_wrong_word : Stmt := top 21
theorem sc_wrong_word : FnScope ["words", "roles", "at"] ["words"] (defScope S_wrong_word) := ⟨rfl, rfl, rfl, by decide +kernel, rfl, by decide +kernel, by decide +kernel⟩
abbrev t_wrong_word_4 (K : PySem.W.Frag) (C : Cs) : TS :=
  (tRet (tC .non))
abbrev t_wrong_word_3 (K : PySem.W.Frag) (C : Cs) : TS :=
  (tSeq (tFor (iRng2 (tCons (tC (.int 1)) (tCons (tCB (rLenU K) (tCons (tVar 0) tNil)) tNil))) (gName 2) (tIfS (tOr (tTest (tOp rGtU (tVar 2) (tCB (rLenU K) (tCons (tVar 1) tNil)))) (tNot (tB (tCall (sp_is_written_part K C) [] E0 (tCons (tOp (rIx K) (tVar 1) (tOp rSubU (tVar 2) (tC (.int 1)))) (tCons (tOp (rIx K) (tVar 0) (tVar 2)) tNil)))))) (tRet (tVar 2)) tNext))
      (t_wrong_word_4 K C))
abbrev t_wrong_word_2 (K : PySem.W.Frag) (C : Cs) : TS :=
  (tSeq (tAsg (tOp (rKtG K C.dForms formsV) (tC (.ref C.dForms)) (tOp (rIx K) (tVar 0) (tC (.int 0)))) (gName 1))
      (t_wrong_word_3 K C))
def t_wrong_word (K : PySem.W.Frag) (C : Cs) : TS :=
  (tSeq (tIfS (tTest (tOp (rKtN C.dForms formsV) (tOp (rIx K) (tVar 0) (tC (.int 0))) (tC (.ref C.dForms)))) (tRet (tC (.int 0))) tNext)
      (t_wrong_word_2 K C))
theorem i_wrong_word (x0 : V) : L2.start ["words", "roles", "at"] [x0] = [some x0, none, none] := rfl
abbrev Pf_wrong_word (K : PySem.W.Frag) (C : Cs) : Prop := ∀ (vs : List V) (H : Hp) (Q : VK) (E : XK), (sp_wrong_word K C) vs H Q E → t_wrong_word K C ⟨fun _ H' => Q .non H', Q, fun _ _ => False, fun _ _ => False⟩ (L2.start ["words", "roles", "at"] vs) H
theorem d_wrong_word {f : Addr} {cdv : Value} {A : Around} {outer : List Env} {s : Shared} {H : Hp} {E : XK} {n : Nat} (G : Glob w K mg C) (c_is_written_part : Cal P w K mg base 4 "is_written_part" (sp_is_written_part K C)) (hr : Room 4 (A.deeper (envOfC "wrong_word" (defScope S_wrong_word) s.heap.objs.size f cdv))) :
    PSs ((cxOf CX0 P w K mg base ["words", "roles", "at"] "wrong_word" (defScope S_wrong_word) f cdv A outer s H E).nox) (defBody S_wrong_word) (t_wrong_word K C) := by
  unfold t_wrong_word
  exact (pss_cons (ps_if (pt_cmpR (op_ktN G.kForms) (pe_ix ix_seq (pv 0) pe_int (fun _ _ => rfl)) (pe_glob (v := .ref C.dForms) (by rfl) G.mFORMS rfl) rfl) (pss_one (ps_ret pe_int)) pss_nil)
      (pss_cons (ps_set (i := 1) sc_wrong_word.nd rfl (Or.inl rfl) (pe_ix (ix_kt G.kForms) (pe_glob (v := .ref C.dForms) (by rfl) G.mFORMS rfl) (pe_ix ix_seq (pv 0) pe_int (fun _ _ => rfl)) (fun _ _ => rfl)))
      (pss_cons (ps_for PassesOwn.never rfl (pi_range2 rfl G.b_range (pa_cons pe_int (pa_cons (pe_callB call_lenU rfl G.b_len PySem.boot_len (pa_cons (pv 0) pa_nil)) pa_nil))) (pg_name (i := 2) sc_wrong_word.nd rfl (Or.inl rfl)) (pss_one (ps_if (PW.pt (pw_or (pt_cmpR op_gtU (pv 2) (pe_callB call_lenU rfl G.b_len PySem.boot_len (pa_cons (pv 1) pa_nil)) (nomark _)) (pw_or1 (pt_not (pt_val (pe_c c_is_written_part hr (by decide) rfl (pa_cons (pe_ix ix_seq (pv 1) (pe_op op_subU (pv 2) pe_int) (fun _ _ => rfl)) (pa_cons (pe_ix ix_seq (pv 0) (pv 2) (fun _ _ => rfl)) pa_nil)))))))) (pss_one (ps_ret (pv 2))) pss_nil)))
      (pss_one (ps_ret pe_non)))))
abbrev S_column_of : Stmt := top 22
theorem sc_column_of : FnScope ["words", "at", "word"] ["words", "at"] (defScope S_column_of) := ⟨rfl, rfl, rfl, by decide +kernel, rfl, by decide +kernel, by decide +kernel⟩
def t_column_of (K : PySem.W.Frag) (C : Cs) : TS :=
  (tRet (tOp (rAddU K) (tC (.int 1)) (tCB (rSum K) (tCons (tLcN (iList K (tSl (rSlU K) (tVar 0) tNoPart (tPart (tVar 1)))) (gName 2) (tOp (rAddU K) (tCB (rLenU K) (tCons (tVar 2) tNil)) (tC (.int 1))) [2]) tNil))))
theorem i_column_of (x0 x1 : V) : L2.start ["words", "at", "word"] [x0, x1] = [some x0, some x1, none] := rfl
abbrev Pf_column_of (K : PySem.W.Frag) (C : Cs) : Prop := ∀ (vs : List V) (H : Hp) (Q : VK) (E : XK), (sp_column_of K C) vs H Q E → t_column_of K C ⟨fun _ H' => Q .non H', Q, fun _ _ => False, fun _ _ => False⟩ (L2.start ["words", "at", "word"] vs) H
theorem d_column_of {f : Addr} {cdv : Value} {A : Around} {outer : List Env} {s : Shared} {H : Hp} {E : XK} {n : Nat} (G : Glob w K mg C) (hr : Room 0 (A.deeper (envOfC "column_of" (defScope S_column_of) s.heap.objs.size f cdv))) :
    PSs ((cxOf CX0 P w K mg base ["words", "at", "word"] "column_of" (defScope S_column_of) f cdv A outer s H E).nox) (defBody S_column_of) (t_column_of K C) := by
  unfold t_column_of
  exact (pss_one (ps_ret (pe_op op_addU pe_int (pe_callB (cr_sum rfl) rfl G.b_sum (by decide +kernel) (pa_cons (pe_lcN (own := [("word", 2)]) (g := (gName 2)) rfl sc_column_of.nd (pi_list (pe_slice sl_U (pv 0) po_none (po_some (pv 1)))) (blkOk_by (own := [("word", 2)]) (N := ["words", "at", "word"]) (sc := defScope S_column_of) (by decide +kernel)) (fun _ _ _ _ _ => (pg_name (i := 2) sc_column_of.nd rfl (Or.inl rfl))) (fun _ _ _ _ _ => (pe_op op_addU (pe_callB call_lenU rfl G.b_len PySem.boot_len (pa_cons (pv 2) pa_nil)) pe_int))) pa_nil)))))
abbrev S_least_words : Stmt := top 23
theorem sc_least_words : FnScope ["word", "many"] ["word"] (defScope S_least_words) := ⟨rfl, rfl, rfl, by decide +kernel, rfl, by decide +kernel, by decide +kernel⟩
abbrev t_least_words_2 (K : PySem.W.Frag) (C : Cs) : TS :=
  (tRet (tIf (tTest (tOp rEq (tVar 0) (tC (.str "take")))) (tOp rSubU (tVar 1) (tC (.int 1))) (tVar 1)))
def t_least_words (K : PySem.W.Frag) (C : Cs) : TS :=
  (tSeq (tAsg (tOp (rAddU K) (tCB (rLenU K) (tCons (tOp (rKtG K C.dForms formsV) (tC (.ref C.dForms)) (tVar 0)) tNil)) (tC (.int 1))) (gName 1))
      (t_least_words_2 K C))
theorem i_least_words (x0 : V) : L2.start ["word", "many"] [x0] = [some x0, none] := rfl
abbrev Pf_least_words (K : PySem.W.Frag) (C : Cs) : Prop := ∀ (vs : List V) (H : Hp) (Q : VK) (E : XK), (sp_least_words K C) vs H Q E → t_least_words K C ⟨fun _ H' => Q .non H', Q, fun _ _ => False, fun _ _ => False⟩ (L2.start ["word", "many"] vs) H
theorem d_least_words {f : Addr} {cdv : Value} {A : Around} {outer : List Env} {s : Shared} {H : Hp} {E : XK} {n : Nat} (G : Glob w K mg C) (hr : Room 0 (A.deeper (envOfC "least_words" (defScope S_least_words) s.heap.objs.size f cdv))) :
    PSs ((cxOf CX0 P w K mg base ["word", "many"] "least_words" (defScope S_least_words) f cdv A outer s H E).nox) (defBody S_least_words) (t_least_words K C) := by
  unfold t_least_words
  exact (pss_cons (ps_set (i := 1) sc_least_words.nd rfl (Or.inl rfl) (pe_op op_addU (pe_callB call_lenU rfl G.b_len PySem.boot_len (pa_cons (pe_ix (ix_kt G.kForms) (pe_glob (v := .ref C.dForms) (by rfl) G.mFORMS rfl) (pv 0) (fun _ _ => rfl)) pa_nil)) pe_int))
      (pss_one (ps_ret (pe_ifExp (pt_cmpR op_eq (pv 0) pe_str (nomark _)) (pe_op op_subU (pv 1) pe_int) (pv 1)))))
abbrev S_request_of : Stmt := top 24
theorem sc_request_of : FnScope ["words", "roles", "parts", "role", "word"] ["words"] (defScope S_request_of) := ⟨rfl, rfl, rfl, by decide +kernel, rfl, by decide +kernel, by decide +kernel⟩
abbrev t_request_of_4 (K : PySem.W.Frag) (C : Cs) : TS :=
  (tRet (tTupN (tCons (tOp (rIx K) (tVar 0) (tC (.int 0))) (StX.tStar K (tVar 2) tNil))))
abbrev t_request_of_3 (K : PySem.W.Frag) (C : Cs) : TS :=
  (tSeq (tIfS (tTest (tOp rLtU (tCB (rLenU K) (tCons (tVar 2) tNil)) (tCB (rLenU K) (tCons (tVar 1) tNil)))) (tDrop (tBM K "list" rAppend (tVar 2) (tCons (tC (.int 1)) tNil))) tNext)
      (t_request_of_4 K C))
abbrev t_request_of_2 (K : PySem.W.Frag) (C : Cs) : TS :=
  (tSeq (tAsg (tLcN (iZipM K (tCons (tVar 1) (tCons (tSl (rSlU K) (tVar 0) (tPart (tC (.int 1))) tNoPart) tNil))) (gTup K 2 (gCons (gName 3) (gCons (gName 4) gNil))) (tIf (tTest (tOp rEq (tVar 3) (tC (.str "name")))) (tVar 4) (tCB rIntU (tCons (tVar 4) tNil))) [3, 4]) (gName 2))
      (t_request_of_3 K C))
def t_request_of (K : PySem.W.Frag) (C : Cs) : TS :=
  (tSeq (tAsg (tOp (rKtG K C.dForms formsV) (tC (.ref C.dForms)) (tOp (rIx K) (tVar 0) (tC (.int 0)))) (gName 1))
      (t_request_of_2 K C))
theorem i_request_of (x0 : V) : L2.start ["words", "roles", "parts", "role", "word"] [x0] = [some x0, none, none, none, none] := rfl
abbrev Pf_request_of (K : PySem.W.Frag) (C : Cs) : Prop := ∀ (vs : List V) (H : Hp) (Q : VK) (E : XK), (sp_request_of K C) vs H Q E → t_request_of K C ⟨fun _ H' => Q .non H', Q, fun _ _ => False, fun _ _ => False⟩ (L2.start ["words", "roles", "parts", "role", "word"] vs) H
theorem d_request_of {f : Addr} {cdv : Value} {A : Around} {outer : List Env} {s : Shared} {H : Hp} {E : XK} {n : Nat} (G : Glob w K mg C) (hr : Room 0 (A.deeper (envOfC "request_of" (defScope S_request_of) s.heap.objs.size f cdv))) :
    PSs ((cxOf CX0 P w K mg base ["words", "roles", "parts", "role", "word"] "request_of" (defScope S_request_of) f cdv A outer s H E).nox) (defBody S_request_of) (t_request_of K C) := by
  unfold t_request_of
  exact (pss_cons (ps_set (i := 1) sc_request_of.nd rfl (Or.inl rfl) (pe_ix (ix_kt G.kForms) (pe_glob (v := .ref C.dForms) (by rfl) G.mFORMS rfl) (pe_ix ix_seq (pv 0) pe_int (fun _ _ => rfl)) (fun _ _ => rfl)))
      (pss_cons (ps_setLcN (i := 2) (own := [("role", 3), ("word", 4)]) (g := (gTup K 2 (gCons (gName 3) (gCons (gName 4) gNil)))) rfl sc_request_of.nd rfl rfl (sw_true rfl rfl rfl (by decide +kernel)) (pi_zipM rfl G.b_zip (pa_cons (pv 1) (pa_cons (pe_slice sl_U (pv 0) (po_some pe_int) po_none) pa_nil))) (blkOk_by (own := [("role", 3), ("word", 4)]) (N := ["words", "roles", "parts", "role", "word"]) (sc := defScope S_request_of) (by decide +kernel)) (fun _ _ _ _ _ => (pg_tup rfl (pgs_cons (pg_name (i := 3) sc_request_of.nd rfl (Or.inl rfl)) (pgs_cons (pg_name (i := 4) sc_request_of.nd rfl (Or.inl rfl)) pgs_nil)))) (fun _ _ _ _ _ => (pe_ifExp (pt_cmpR op_eq (pv 3) pe_str (nomark _)) (pv 4) (pe_callTy call_intU rfl G.b_int (by decide +kernel) (pa_cons (pv 4) pa_nil)))))
      (pss_cons (ps_if (pt_cmpR op_ltU (pe_callB call_lenU rfl G.b_len PySem.boot_len (pa_cons (pv 2) pa_nil)) (pe_callB call_lenU rfl G.b_len PySem.boot_len (pa_cons (pv 1) pa_nil)) (nomark _)) (pss_one (ps_expr (pe_bm PySem.F.plainAttrs_list PySem.F.slot_list_append PySem.F.type_list_append mt_append (pv 2) (pa_cons pe_int pa_nil)))) pss_nil)
      (pss_one (ps_ret (pe_tupN (pa_cons (pe_ix ix_seq (pv 0) pe_int (fun _ _ => rfl)) (StX.pa_star (pv 2) pa_nil))))))))
abbrev S_parse_requests : Stmt := top 25
theorem sc_parse_requests : FnScope ["text", "is_ended", "lines", "requests", "number", "line", "words", "wrong", "is_open"] ["text"] (defScope S_parse_requests) := ⟨rfl, rfl, rfl, by decide +kernel, rfl, by decide +kernel, by decide +kernel⟩
abbrev t_parse_requests_7 (K : PySem.W.Frag) (C : Cs) (E : XK) : TS :=
  (tRet (tVar 3))
abbrev t_parse_requests_6 (K : PySem.W.Frag) (C : Cs) (E : XK) : TS :=
  (tSeq (tFor (iEnumS K 1 (tCons (tVar 2) tNil)) (gTup K 2 (gCons (gName 4) (gCons (gName 5) gNil))) (tSeq (tAsg (tSplitU (tVar 5) (tC (.str " "))) (gName 6))
      (tSeq (tAsg (tCall (sp_wrong_word K C) [] E0 (tCons (tVar 6) tNil)) (gName 7))
      (tSeq (tIfS (tTest (tOp rIsnU (tVar 7) (tC .non))) (tRaiseX C.cBadLine (sp_init_BadLine K C) E (tCons (tVar 4) (tCons (tCall (sp_column_of K C) [] E0 (tCons (tVar 6) (tCons (tVar 7) tNil))) tNil))) tNext)
      (tSeq (tAsg (tAndV (tOp rEq (tVar 4) (tCB (rLenU K) (tCons (tVar 2) tNil))) (tNotV (tVar 1))) (gName 8))
      (tSeq (tIfS (tOr (tB (tVar 8)) (tTest (tOp rLtU (tCB (rLenU K) (tCons (tVar 6) tNil)) (tCall (sp_least_words K C) [] E0 (tCons (tOp (rIx K) (tVar 6) (tC (.int 0))) tNil))))) (tRaiseX C.cBadLine (sp_init_BadLine K C) E (tCons (tVar 4) (tCons (tOp (rAddU K) (tCB (rLenU K) (tCons (tVar 5) tNil)) (tC (.int 1))) tNil))) tNext)
      (tDrop (tBM K "list" rAppend (tVar 3) (tCons (tCall (sp_request_of K C) [] E0 (tCons (tVar 6) tNil)) tNil)))))))))
      (t_parse_requests_7 K C E))
abbrev t_parse_requests_5 (K : PySem.W.Frag) (C : Cs) (E : XK) : TS :=
  (tSeq (tAsg (tLstN tNil) (gName 3))
      (t_parse_requests_6 K C E))
abbrev t_parse_requests_4 (K : PySem.W.Frag) (C : Cs) (E : XK) : TS :=
  (tSeq (tAsg (tIf (tB (tVar 1)) (tSplitU (tSl (rSlU K) (tVar 0) tNoPart (tPart (tUn (rU fun i => .int (-i)) (tC (.int 1))))) (tC (.str "\n"))) (tSplitU (tVar 0) (tC (.str "\n")))) (gName 2))
      (t_parse_requests_5 K C E))
abbrev t_parse_requests_3 (K : PySem.W.Frag) (C : Cs) (E : XK) : TS :=
  (tSeq (tAsg (tEndsU (tVar 0) (tC (.str "\n"))) (gName 1))
      (t_parse_requests_4 K C E))
abbrev t_parse_requests_2 (K : PySem.W.Frag) (C : Cs) (E : XK) : TS :=
  (tSeq (tIfS (tTest (tOp rEq (tVar 0) (tC (.str "")))) (tRet (tLstN tNil)) tNext)
      (t_parse_requests_3 K C E))
def t_parse_requests (K : PySem.W.Frag) (C : Cs) (E : XK) : TS :=
  (tSeq (tIfS (tNot (tB (tCall (sp_is_text K C) [] E0 (tCons (tVar 0) tNil)))) (tRaiseX C.cBadValue (sp_init_BadValue K C) E (tCons (tC (.str "text")) tNil)) tNext)
      (t_parse_requests_2 K C E))
theorem i_parse_requests (x0 : V) : L2.start ["text", "is_ended", "lines", "requests", "number", "line", "words", "wrong", "is_open"] [x0] = [some x0, none, none, none, none, none, none, none, none] := rfl
abbrev Pf_parse_requests (K : PySem.W.Frag) (C : Cs) : Prop := ∀ (vs : List V) (H : Hp) (Q : VK) (E : XK), (sp_parse_requests K C) vs H Q E → t_parse_requests K C E ⟨fun _ H' => Q .non H', Q, fun _ _ => False, fun _ _ => False⟩ (L2.start ["text", "is_ended", "lines", "requests", "number", "line", "words", "wrong", "is_open"] vs) H
theorem d_parse_requests {f : Addr} {cdv : Value} {A : Around} {outer : List Env} {s : Shared} {H : Hp} {E : XK} {n : Nat} (G : Glob w K mg C) (x_BadValue : ExMk P w K mg base C.cBadValue "BadValue" (sp_init_BadValue K C)) (x_BadLine : ExMk P w K mg base C.cBadLine "BadLine" (sp_init_BadLine K C)) (c_is_text : Cal P w K mg base 1 "is_text" (sp_is_text K C)) (c_request_of : Cal P w K mg base 1 "request_of" (sp_request_of K C)) (c_least_words : Cal P w K mg base 1 "least_words" (sp_least_words K C)) (c_column_of : Cal P w K mg base 1 "column_of" (sp_column_of K C)) (c_wrong_word : Cal P w K mg base 5 "wrong_word" (sp_wrong_word K C)) (hr : Room 5 (A.deeper (envOfC "parse_requests" (defScope S_parse_requests) s.heap.objs.size f cdv))) :
    PSs ((cxOf (L2N.CX P w) P w K mg base ["text", "is_ended", "lines", "requests", "number", "line", "words", "wrong", "is_open"] "parse_requests" (defScope S_parse_requests) f cdv A outer s H E)) (defBody S_parse_requests) (t_parse_requests K C E) := by
  unfold t_parse_requests
  exact (pss_cons (ps_if (pt_not (pt_val (pe_c c_is_text hr (by decide) rfl (pa_cons (pv 0) pa_nil)))) (pss_one (L2N.ps_raise rfl (L2N.takes_of rfl rfl rfl rfl) (pmk_exN x_BadValue (hr.mono (by decide)) rfl (pa_cons pe_str pa_nil)))) pss_nil)
      (pss_cons (ps_if (pt_cmpR op_eq (pv 0) pe_str (nomark _)) (pss_one (ps_ret (pe_lstN pa_nil))) pss_nil)
      (pss_cons (ps_set (i := 1) sc_parse_requests.nd rfl (Or.inl rfl) (pe_m1 PySem.F.slot_str_endswith PySem.F.type_str_endswith mt_endswith (pv 0) pe_str))
      (pss_cons (ps_set (i := 2) sc_parse_requests.nd rfl (Or.inl rfl) (pe_ifExp (pt_val (pv 1)) (pe_m1 PySem.F.slot_str_split PySem.F.type_str_split mt_split (pe_slice sl_U (pv 0) po_none (po_some (pe_un un_neg pe_int))) pe_str) (pe_m1 PySem.F.slot_str_split PySem.F.type_str_split mt_split (pv 0) pe_str)))
      (pss_cons (ps_set (i := 3) sc_parse_requests.nd rfl (Or.inl rfl) (pe_lstN pa_nil))
      (pss_cons (ps_for (passes_of rfl) rfl (pi_enumS rfl G.b_enumerate (pa_cons (pv 2) pa_nil) (by decide) pe_int) (pg_tup rfl (pgs_cons (pg_name (i := 4) sc_parse_requests.nd rfl (Or.inl rfl)) (pgs_cons (pg_name (i := 5) sc_parse_requests.nd rfl (Or.inl rfl)) pgs_nil))) (pss_cons (ps_set (i := 6) sc_parse_requests.nd rfl (Or.inl rfl) (pe_m1 PySem.F.slot_str_split PySem.F.type_str_split mt_split (pv 5) pe_str))
      (pss_cons (ps_set (i := 7) sc_parse_requests.nd rfl (Or.inl rfl) (pe_c c_wrong_word hr (by decide) rfl (pa_cons (pv 6) pa_nil)))
      (pss_cons (ps_if (pt_cmpR op_isnU (pv 7) pe_non (nomark _)) (pss_one (L2N.ps_raise rfl (L2N.takes_of rfl rfl rfl rfl) (pmk_exN x_BadLine (hr.mono (by decide)) rfl (pa_cons (pv 4) (pa_cons (pe_c c_column_of hr (by decide) rfl (pa_cons (pv 6) (pa_cons (pv 7) pa_nil))) pa_nil))))) pss_nil)
      (pss_cons (ps_set (i := 8) sc_parse_requests.nd rfl (Or.inl rfl) (pe_and (pe_cmpR op_eq (pv 4) (pe_callB call_lenU rfl G.b_len PySem.boot_len (pa_cons (pv 2) pa_nil)) (nomark _)) (pe_one (pe_not (pv 1)))))
      (pss_cons (ps_if (PW.pt (pw_or (pt_val (pv 8)) (pw_or1 (pt_cmpR op_ltU (pe_callB call_lenU rfl G.b_len PySem.boot_len (pa_cons (pv 6) pa_nil)) (pe_c c_least_words hr (by decide) rfl (pa_cons (pe_ix ix_seq (pv 6) pe_int (fun _ _ => rfl)) pa_nil)) (nomark _))))) (pss_one (L2N.ps_raise rfl (L2N.takes_of rfl rfl rfl rfl) (pmk_exN x_BadLine (hr.mono (by decide)) rfl (pa_cons (pv 4) (pa_cons (pe_op op_addU (pe_callB call_lenU rfl G.b_len PySem.boot_len (pa_cons (pv 5) pa_nil)) pe_int) pa_nil))))) pss_nil)
      (pss_one (ps_expr (pe_bm PySem.F.plainAttrs_list PySem.F.slot_list_append PySem.F.type_list_append mt_append (pv 3) (pa_cons (pe_c c_request_of hr (by decide) rfl (pa_cons (pv 6) pa_nil)) pa_nil))))))))))
      (pss_one (ps_ret (pv 3)))))))))
abbrev S_law_power : Stmt := top 36
theorem sc_law_power : FnScope ["_law_number_here", "_law_value", "_law_k"] ["_law_number_here"] (defScope S_law_power) := ⟨rfl, rfl, rfl, by decide +kernel, rfl, by decide +kernel, by decide +kernel⟩
abbrev t_law_power_3 (K : PySem.W.Frag) (C : Cs) : TS :=
  (tRet (tVar 1))
abbrev t_law_power_2 (K : PySem.W.Frag) (C : Cs) : TS :=
  (tSeq (tFor (iRng1 (tCons (tVar 0) tNil)) (gName 2) (tAsg (tOp (rMulU K) (tVar 1) (tC (.int 2))) (gName 1)))
      (t_law_power_3 K C))
def t_law_power (K : PySem.W.Frag) (C : Cs) : TS :=
  (tSeq (tAsg (tC (.int 1)) (gName 1))
      (t_law_power_2 K C))
theorem i_law_power (x0 : V) : L2.start ["_law_number_here", "_law_value", "_law_k"] [x0] = [some x0, none, none] := rfl
abbrev Pf_law_power (K : PySem.W.Frag) (C : Cs) : Prop := ∀ (vs : List V) (H : Hp) (Q : VK) (E : XK), (sp_law_power K C) vs H Q E → t_law_power K C ⟨fun _ H' => Q .non H', Q, fun _ _ => False, fun _ _ => False⟩ (L2.start ["_law_number_here", "_law_value", "_law_k"] vs) H
theorem d_law_power {f : Addr} {cdv : Value} {A : Around} {outer : List Env} {s : Shared} {H : Hp} {E : XK} {n : Nat} (G : Glob w K mg C) (hr : Room 0 (A.deeper (envOfC "_law_power" (defScope S_law_power) s.heap.objs.size f cdv))) :
    PSs ((cxOf CX0 P w K mg base ["_law_number_here", "_law_value", "_law_k"] "_law_power" (defScope S_law_power) f cdv A outer s H E).nox) (defBody S_law_power) (t_law_power K C) := by
  unfold t_law_power
  exact (pss_cons (ps_set (i := 1) sc_law_power.nd rfl (Or.inl rfl) pe_int)
      (pss_cons (ps_for PassesOwn.never rfl (pi_range1 rfl G.b_range (pa_cons (pv 0) pa_nil)) (pg_name (i := 2) sc_law_power.nd rfl (Or.inl rfl)) (pss_one (ps_set (i := 1) sc_law_power.nd rfl (Or.inl rfl) (pe_op op_mulU (pv 1) pe_int))))
      (pss_one (ps_ret (pv 1)))))
abbrev S_law_chars : Stmt := top 37
theorem sc_law_chars : FnScope ["_law_chars_here"] [] (defScope S_law_chars) := ⟨rfl, rfl, rfl, by decide +kernel, rfl, by decide +kernel, by decide +kernel⟩
abbrev t_law_chars_2 (K : PySem.W.Frag) (C : Cs) : TS :=
  (tRet (tOp (rAddU K) (tVar 0) (tC (.str "abcdefghijklmnopqrstuvwxyz{|}~\n"))))
def t_law_chars (K : PySem.W.Frag) (C : Cs) : TS :=
  (tSeq (tAsg (tC (.str " !\"#$&'()*+,-./0123456789:;<=>?@ABCDEFGHIJKLMNOPQRSTUVWXYZ[\\]^_`")) (gName 0))
      (t_law_chars_2 K C))
theorem i_law_chars : L2.start ["_law_chars_here"] [] = [none] := rfl
abbrev Pf_law_chars (K : PySem.W.Frag) (C : Cs) : Prop := ∀ (vs : List V) (H : Hp) (Q : VK) (E : XK), (sp_law_chars K C) vs H Q E → t_law_chars K C ⟨fun _ H' => Q .non H', Q, fun _ _ => False, fun _ _ => False⟩ (L2.start ["_law_chars_here"] vs) H
theorem d_law_chars {f : Addr} {cdv : Value} {A : Around} {outer : List Env} {s : Shared} {H : Hp} {E : XK} {n : Nat} (G : Glob w K mg C) (hr : Room 0 (A.deeper (envOfC "_law_chars" (defScope S_law_chars) s.heap.objs.size f cdv))) :
    PSs ((cxOf CX0 P w K mg base ["_law_chars_here"] "_law_chars" (defScope S_law_chars) f cdv A outer s H E).nox) (defBody S_law_chars) (t_law_chars K C) := by
  unfold t_law_chars
  exact (pss_cons (ps_set (i := 0) sc_law_chars.nd rfl (Or.inl rfl) pe_str)
      (pss_one (ps_ret (pe_op op_addU (pv 0) pe_str))))
abbrev S_law_text : Stmt := top 38
theorem sc_law_text : FnScope ["_law_draws_here", "_law_most", "_law_chars_here", "_law_k"] ["_law_draws_here", "_law_most"] (defScope S_law_text) := ⟨rfl, rfl, rfl, by decide +kernel, rfl, by decide +kernel, by decide +kernel⟩
abbrev t_law_text_2 (K : PySem.W.Frag) (C : Cs) : TS :=
  (tRet (tJoinU K (tC (.str "")) (tLcN (iRng1 (tCons (tCall (sp_law_between K C) [] E0 (tCons (tVar 0) (tCons (tC (.int 0)) (tCons (tVar 1) tNil)))) tNil)) (gName 3) (tOp (rIx K) (tVar 2) (tCall (sp_law_take K C) [] E0 (tCons (tVar 0) (tCons (tC (.int 95)) tNil)))) [3])))
def t_law_text (K : PySem.W.Frag) (C : Cs) : TS :=
  (tSeq (tAsg (tCall (sp_law_chars K C) [] E0 tNil) (gName 2))
      (t_law_text_2 K C))
theorem i_law_text (x0 x1 : V) : L2.start ["_law_draws_here", "_law_most", "_law_chars_here", "_law_k"] [x0, x1] = [some x0, some x1, none, none] := rfl
abbrev Pf_law_text (K : PySem.W.Frag) (C : Cs) : Prop := ∀ (vs : List V) (H : Hp) (Q : VK) (E : XK), (sp_law_text K C) vs H Q E → t_law_text K C ⟨fun _ H' => Q .non H', Q, fun _ _ => False, fun _ _ => False⟩ (L2.start ["_law_draws_here", "_law_most", "_law_chars_here", "_law_k"] vs) H
theorem d_law_text {f : Addr} {cdv : Value} {A : Around} {outer : List Env} {s : Shared} {H : Hp} {E : XK} {n : Nat} (G : Glob w K mg C) (c_law_chars : Cal P w K mg base 1 "_law_chars" (sp_law_chars K C)) (c_law_between : Cal P w K mg base 3 "_law_between" (sp_law_between K C)) (c_law_take : Cal P w K mg base 2 "_law_take" (sp_law_take K C)) (hr : Room 3 (A.deeper (envOfC "_law_text" (defScope S_law_text) s.heap.objs.size f cdv))) :
    PSs ((cxOf CX0 P w K mg base ["_law_draws_here", "_law_most", "_law_chars_here", "_law_k"] "_law_text" (defScope S_law_text) f cdv A outer s H E).nox) (defBody S_law_text) (t_law_text K C) := by
  unfold t_law_text
  exact (pss_cons (ps_set (i := 2) sc_law_text.nd rfl (Or.inr rfl) (pe_c0 c_law_chars hr (by decide) rfl))
      (pss_one (ps_ret (pe_join pe_str (pe_lcN (own := [("_law_k", 3)]) (g := (gName 3)) rfl sc_law_text.nd (pi_range1 rfl G.b_range (pa_cons (pe_c c_law_between hr (by decide) rfl (pa_cons (pv 0) (pa_cons pe_int (pa_cons (pv 1) pa_nil)))) pa_nil)) (blkOk_by (own := [("_law_k", 3)]) (N := ["_law_draws_here", "_law_most", "_law_chars_here", "_law_k"]) (sc := defScope S_law_text) (by decide +kernel)) (fun _ _ _ _ _ => (pg_name (i := 3) sc_law_text.nd rfl (Or.inl rfl))) (fun _ _ _ _ _ => (pe_ix ix_seq (pv 2) (pe_c c_law_take hr (by decide) rfl (pa_cons (pv 0) (pa_cons pe_int pa_nil))) (fun _ _ => rfl))))))))
abbrev S_law_user : Stmt := top 39
theorem sc_law_user : FnScope ["_law_draws_here"] ["_law_draws_here"] (defScope S_law_user) := ⟨rfl, rfl, rfl, by decide +kernel, rfl, by decide +kernel, by decide +kernel⟩
def t_law_user (K : PySem.W.Frag) (C : Cs) : TS :=
  (tRet (tOp (rIx K) (tLstN (tCons (tC (.int 1)) (tCons (tC (.int 1)) (tCons (tC (.int 2)) (tCons (tC (.int 2)) (tCons (tC (.int 8)) (tCons (tCall (sp_law_between K C) [] E0 (tCons (tVar 0) (tCons (tC (.int 1)) (tCons (tC (.int 8)) tNil)))) tNil))))))) (tCall (sp_law_take K C) [] E0 (tCons (tVar 0) (tCons (tC (.int 6)) tNil)))))
theorem i_law_user (x0 : V) : L2.start ["_law_draws_here"] [x0] = [some x0] := rfl
abbrev Pf_law_user (K : PySem.W.Frag) (C : Cs) : Prop := ∀ (vs : List V) (H : Hp) (Q : VK) (E : XK), (sp_law_user K C) vs H Q E → t_law_user K C ⟨fun _ H' => Q .non H', Q, fun _ _ => False, fun _ _ => False⟩ (L2.start ["_law_draws_here"] vs) H
theorem d_law_user {f : Addr} {cdv : Value} {A : Around} {outer : List Env} {s : Shared} {H : Hp} {E : XK} {n : Nat} (G : Glob w K mg C) (c_law_between : Cal P w K mg base 3 "_law_between" (sp_law_between K C)) (c_law_take : Cal P w K mg base 2 "_law_take" (sp_law_take K C)) (hr : Room 3 (A.deeper (envOfC "_law_user" (defScope S_law_user) s.heap.objs.size f cdv))) :
    PSs ((cxOf CX0 P w K mg base ["_law_draws_here"] "_law_user" (defScope S_law_user) f cdv A outer s H E).nox) (defBody S_law_user) (t_law_user K C) := by
  unfold t_law_user
  exact (pss_one (ps_ret (pe_ix ix_seq (pe_lstN (pa_cons pe_int (pa_cons pe_int (pa_cons pe_int (pa_cons pe_int (pa_cons pe_int (pa_cons (pe_c c_law_between hr (by decide) rfl (pa_cons (pv 0) (pa_cons pe_int (pa_cons pe_int pa_nil)))) pa_nil))))))) (pe_c c_law_take hr (by decide) rfl (pa_cons (pv 0) (pa_cons pe_int pa_nil))) (fun _ _ => rfl))))
abbrev S_law_same : Stmt := top 40
theorem sc_law_same : FnScope ["_law_actual", "_law_expected", "_law_key", "_law_k"] ["_law_actual", "_law_expected"] (defScope S_law_same) := ⟨rfl, rfl, rfl, by decide +kernel, rfl, by decide +kernel, by decide +kernel⟩
abbrev t_law_same_10 (K : PySem.W.Frag) (C : Cs) (n : Nat) : TS :=
  (tRet (tC (.bl true)))
abbrev t_law_same_9 (K : PySem.W.Frag) (C : Cs) (n : Nat) : TS :=
  (tSeq (tFor (iRng1 (tCons (tCB (rLenU K) (tCons (tVar 1) tNil)) tNil)) (gName 3) (tIfS (tNot (tB (tCall (sp_law_same K C n) [] E0 (tCons (tOp (rIx K) (tVar 0) (tVar 3)) (tCons (tOp (rIx K) (tVar 1) (tVar 3)) tNil))))) (tRet (tC (.bl false))) tNext))
      (t_law_same_10 K C n))
abbrev t_law_same_8 (K : PySem.W.Frag) (C : Cs) (n : Nat) : TS :=
  (tSeq (tIfS (tOr (tAnd (tNot (tB (tCB (rIsi K) (tCons (tVar 1) (tCons (tC (.ty "list")) tNil))))) (tNot (tB (tCB (rIsi K) (tCons (tVar 1) (tCons (tC (.ty "tuple")) tNil)))))) (tTest (tOp rNe (tCB (rLenU K) (tCons (tVar 0) tNil)) (tCB (rLenU K) (tCons (tVar 1) tNil))))) (tRet (tC (.bl false))) tNext)
      (t_law_same_9 K C n))
abbrev t_law_same_7 (K : PySem.W.Frag) (C : Cs) (n : Nat) : TS :=
  (tSeq (tIfS (tTest (tOp rNe (tCB (rIsi K) (tCons (tVar 1) (tCons (tC (.ty "tuple")) tNil))) (tCB (rIsi K) (tCons (tVar 0) (tCons (tC (.ty "tuple")) tNil))))) (tRet (tC (.bl false))) tNext)
      (t_law_same_8 K C n))
abbrev t_law_same_6 (K : PySem.W.Frag) (C : Cs) (n : Nat) : TS :=
  (tSeq (tIfS (tTest (tOp rNe (tCB (rIsi K) (tCons (tVar 1) (tCons (tC (.ty "list")) tNil))) (tCB (rIsi K) (tCons (tVar 0) (tCons (tC (.ty "list")) tNil))))) (tRet (tC (.bl false))) tNext)
      (t_law_same_7 K C n))
abbrev t_law_same_5 (K : PySem.W.Frag) (C : Cs) (n : Nat) : TS :=
  (tSeq (tIfS (tB (tCB (rIsi K) (tCons (tVar 1) (tCons (tC (.ty "dict")) tNil)))) (tSeq (tIfS (tOr (tNot (tB (tCB (rIsi K) (tCons (tVar 0) (tCons (tC (.ty "dict")) tNil))))) (tTest (tOp rNe (tCB (rLenU K) (tCons (tVar 0) tNil)) (tCB (rLenU K) (tCons (tVar 1) tNil))))) (tRet (tC (.bl false))) tNext)
      (tSeq (tFor (iList K (tCB (rListU K) (tCons (tVar 1) tNil))) (gName 2) (tIfS (tOr (tB (tDNotIn (tVar 2) (tVar 0))) (tNot (tB (tCall (sp_law_same K C n) [] E0 (tCons (tDGet (tVar 0) (tVar 2)) (tCons (tDGet (tVar 1) (tVar 2)) tNil)))))) (tRet (tC (.bl false))) tNext))
      (tRet (tC (.bl true))))) tNext)
      (t_law_same_6 K C n))
abbrev t_law_same_4 (K : PySem.W.Frag) (C : Cs) (n : Nat) : TS :=
  (tSeq (tIfS (tB (tCB (rIsi K) (tCons (tVar 1) (tCons (tC (.ty "str")) tNil)))) (tRet (tAndV (tCB (rIsi K) (tCons (tVar 0) (tCons (tC (.ty "str")) tNil))) (tOp rEq (tVar 0) (tVar 1)))) tNext)
      (t_law_same_5 K C n))
abbrev t_law_same_3 (K : PySem.W.Frag) (C : Cs) (n : Nat) : TS :=
  (tSeq (tIfS (tB (tCB (rIsi K) (tCons (tVar 1) (tCons (tC (.ty "int")) tNil)))) (tRet (tAndV (tCB (rIsi K) (tCons (tVar 0) (tCons (tC (.ty "int")) tNil))) (tOp rEq (tVar 0) (tVar 1)))) tNext)
      (t_law_same_4 K C n))
abbrev t_law_same_2 (K : PySem.W.Frag) (C : Cs) (n : Nat) : TS :=
  (tSeq (tIfS (tOr (tB (tCB (rIsi K) (tCons (tVar 0) (tCons (tC (.ty "bool")) tNil)))) (tB (tCB (rIsi K) (tCons (tVar 1) (tCons (tC (.ty "bool")) tNil))))) (tRet (tAndV (tCB (rIsi K) (tCons (tVar 0) (tCons (tC (.ty "bool")) tNil))) (tAndV (tCB (rIsi K) (tCons (tVar 1) (tCons (tC (.ty "bool")) tNil))) (tOp rEq (tVar 0) (tVar 1))))) tNext)
      (t_law_same_3 K C n))
def t_law_same (K : PySem.W.Frag) (C : Cs) (n : Nat) : TS :=
  (tSeq (tIfS (tOr (tTest (tOp rIsU (tVar 0) (tC .non))) (tTest (tOp rIsU (tVar 1) (tC .non)))) (tRet (tAndV (tOp rIsU (tVar 0) (tC .non)) (tOp rIsU (tVar 1) (tC .non)))) tNext)
      (t_law_same_2 K C n))
theorem i_law_same (x0 x1 : V) : L2.start ["_law_actual", "_law_expected", "_law_key", "_law_k"] [x0, x1] = [some x0, some x1, none, none] := rfl
abbrev Pf_law_same (K : PySem.W.Frag) (C : Cs) (n : Nat) : Prop := ∀ (vs : List V) (H : Hp) (Q : VK) (E : XK), (sp_law_same K C n) vs H Q E → t_law_same K C n ⟨fun _ H' => Q .non H', Q, fun _ _ => False, fun _ _ => False⟩ (L2.start ["_law_actual", "_law_expected", "_law_key", "_law_k"] vs) H
theorem d_law_same {f : Addr} {cdv : Value} {A : Around} {outer : List Env} {s : Shared} {H : Hp} {E : XK} {n k : Nat} (G : Glob w K mg C) (c_law_same : Cal P w K mg base k "_law_same" (sp_law_same K C n)) (hr : Room k (A.deeper (envOfC "_law_same" (defScope S_law_same) s.heap.objs.size f cdv))) :
    PSs ((cxOf CX0 P w K mg base ["_law_actual", "_law_expected", "_law_key", "_law_k"] "_law_same" (defScope S_law_same) f cdv A outer s H E).nox) (defBody S_law_same) (t_law_same K C n) := by
  have hu := hu_of hr
  unfold t_law_same
  exact (pss_cons (ps_if (PW.pt (pw_or (pt_cmpR op_isU (pv 0) pe_non (nomark _)) (pw_or1 (pt_cmpR op_isU (pv 1) pe_non (nomark _))))) (pss_one (ps_ret (pe_and (pe_cmpR op_isU (pv 0) pe_non (nomark _)) (pe_one (pe_cmpR op_isU (pv 1) pe_non (nomark _)))))) pss_nil)
      (pss_cons (ps_if (PW.pt (pw_or (pt_val (pe_callB call_isi rfl G.b_isinstance (by decide +kernel) (pa_cons (pv 0) (pa_cons (pe_bltn (v := .ty "bool") rfl G.b_bool (by decide +kernel) rfl) pa_nil)))) (pw_or1 (pt_val (pe_callB call_isi rfl G.b_isinstance (by decide +kernel) (pa_cons (pv 1) (pa_cons (pe_bltn (v := .ty "bool") rfl G.b_bool (by decide +kernel) rfl) pa_nil))))))) (pss_one (ps_ret (pe_and (pe_callB call_isi rfl G.b_isinstance (by decide +kernel) (pa_cons (pv 0) (pa_cons (pe_bltn (v := .ty "bool") rfl G.b_bool (by decide +kernel) rfl) pa_nil))) (pe_and (pe_callB call_isi rfl G.b_isinstance (by decide +kernel) (pa_cons (pv 1) (pa_cons (pe_bltn (v := .ty "bool") rfl G.b_bool (by decide +kernel) rfl) pa_nil))) (pe_one (pe_cmpR op_eq (pv 0) (pv 1) (nomark _))))))) pss_nil)
      (pss_cons (ps_if (pt_val (pe_callB call_isi rfl G.b_isinstance (by decide +kernel) (pa_cons (pv 1) (pa_cons (pe_bltn (v := .ty "int") rfl G.b_int (by decide +kernel) rfl) pa_nil)))) (pss_one (ps_ret (pe_and (pe_callB call_isi rfl G.b_isinstance (by decide +kernel) (pa_cons (pv 0) (pa_cons (pe_bltn (v := .ty "int") rfl G.b_int (by decide +kernel) rfl) pa_nil))) (pe_one (pe_cmpR op_eq (pv 0) (pv 1) (nomark _)))))) pss_nil)
      (pss_cons (ps_if (pt_val (pe_callB call_isi rfl G.b_isinstance (by decide +kernel) (pa_cons (pv 1) (pa_cons (pe_bltn (v := .ty "str") rfl G.b_str (by decide +kernel) rfl) pa_nil)))) (pss_one (ps_ret (pe_and (pe_callB call_isi rfl G.b_isinstance (by decide +kernel) (pa_cons (pv 0) (pa_cons (pe_bltn (v := .ty "str") rfl G.b_str (by decide +kernel) rfl) pa_nil))) (pe_one (pe_cmpR op_eq (pv 0) (pv 1) (nomark _)))))) pss_nil)
      (pss_cons (ps_if (pt_val (pe_callB call_isi rfl G.b_isinstance (by decide +kernel) (pa_cons (pv 1) (pa_cons (pe_bltn (v := .ty "dict") rfl G.b_dict (by decide +kernel) rfl) pa_nil)))) (pss_cons (ps_if (PW.pt (pw_or (pt_not (pt_val (pe_callB call_isi rfl G.b_isinstance (by decide +kernel) (pa_cons (pv 0) (pa_cons (pe_bltn (v := .ty "dict") rfl G.b_dict (by decide +kernel) rfl) pa_nil))))) (pw_or1 (pt_cmpR op_ne (pe_callB call_lenU rfl G.b_len PySem.boot_len (pa_cons (pv 0) pa_nil)) (pe_callB call_lenU rfl G.b_len PySem.boot_len (pa_cons (pv 1) pa_nil)) (nomark _))))) (pss_one (ps_ret pe_bl)) pss_nil)
      (pss_cons (ps_for PassesOwn.never rfl (pi_list (pe_callTy (call_listU rfl) rfl G.b_list (by decide +kernel) (pa_cons (pv 1) pa_nil))) (pg_name (i := 2) sc_law_same.nd rfl (Or.inl rfl)) (pss_one (ps_if (PW.pt (pw_or (pt_cmp (pc_dnotin hu (pv 2) (pv 0)) rfl) (pw_or1 (pt_not (pt_val (pe_c c_law_same hr (Nat.le_refl _) rfl (pa_cons (pe_dget hu (pv 0) (pv 2) (fun _ _ => rfl)) (pa_cons (pe_dget hu (pv 1) (pv 2) (fun _ _ => rfl)) pa_nil)))))))) (pss_one (ps_ret pe_bl)) pss_nil)))
      (pss_one (ps_ret pe_bl)))) pss_nil)
      (pss_cons (ps_if (pt_cmpR op_ne (pe_callB call_isi rfl G.b_isinstance (by decide +kernel) (pa_cons (pv 1) (pa_cons (pe_bltn (v := .ty "list") rfl G.b_list (by decide +kernel) rfl) pa_nil))) (pe_callB call_isi rfl G.b_isinstance (by decide +kernel) (pa_cons (pv 0) (pa_cons (pe_bltn (v := .ty "list") rfl G.b_list (by decide +kernel) rfl) pa_nil))) (nomark _)) (pss_one (ps_ret pe_bl)) pss_nil)
      (pss_cons (ps_if (pt_cmpR op_ne (pe_callB call_isi rfl G.b_isinstance (by decide +kernel) (pa_cons (pv 1) (pa_cons (pe_bltn (v := .ty "tuple") rfl G.b_tuple (by decide +kernel) rfl) pa_nil))) (pe_callB call_isi rfl G.b_isinstance (by decide +kernel) (pa_cons (pv 0) (pa_cons (pe_bltn (v := .ty "tuple") rfl G.b_tuple (by decide +kernel) rfl) pa_nil))) (nomark _)) (pss_one (ps_ret pe_bl)) pss_nil)
      (pss_cons (ps_if (PW.pt (pw_or (PW.pt (pw_and (pt_not (pt_val (pe_callB call_isi rfl G.b_isinstance (by decide +kernel) (pa_cons (pv 1) (pa_cons (pe_bltn (v := .ty "list") rfl G.b_list (by decide +kernel) rfl) pa_nil))))) (pw_and1 (pt_not (pt_val (pe_callB call_isi rfl G.b_isinstance (by decide +kernel) (pa_cons (pv 1) (pa_cons (pe_bltn (v := .ty "tuple") rfl G.b_tuple (by decide +kernel) rfl) pa_nil)))))))) (pw_or1 (pt_cmpR op_ne (pe_callB call_lenU rfl G.b_len PySem.boot_len (pa_cons (pv 0) pa_nil)) (pe_callB call_lenU rfl G.b_len PySem.boot_len (pa_cons (pv 1) pa_nil)) (nomark _))))) (pss_one (ps_ret pe_bl)) pss_nil)
      (pss_cons (ps_for PassesOwn.never rfl (pi_range1 rfl G.b_range (pa_cons (pe_callB call_lenU rfl G.b_len PySem.boot_len (pa_cons (pv 1) pa_nil)) pa_nil)) (pg_name (i := 3) sc_law_same.nd rfl (Or.inl rfl)) (pss_one (ps_if (pt_not (pt_val (pe_c c_law_same hr (Nat.le_refl _) rfl (pa_cons (pe_ix ix_seq (pv 0) (pv 3) (fun _ _ => rfl)) (pa_cons (pe_ix ix_seq (pv 1) (pv 3) (fun _ _ => rfl)) pa_nil))))) (pss_one (ps_ret pe_bl)) pss_nil)))
      (pss_one (ps_ret pe_bl)))))))))))
abbrev t_law_sameH_10 (K : PySem.W.Frag) (C : Cs) (n : Nat) : TS :=
  (tRet (tC (.bl true)))
abbrev t_law_sameH_9 (K : PySem.W.Frag) (C : Cs) (n : Nat) : TS :=
  (tSeq (tFor (iRng1 (tCons (tCB (rLenU K) (tCons (tVar 1) tNil)) tNil)) (gName 3) (tIfS (tNot (tB (tCall (sp_law_sameH K C n) [] E0 (tCons (tOp (rIx K) (tVar 0) (tVar 3)) (tCons (tOp (rIx K) (tVar 1) (tVar 3)) tNil))))) (tRet (tC (.bl false))) tNext))
      (t_law_sameH_10 K C n))
abbrev t_law_sameH_8 (K : PySem.W.Frag) (C : Cs) (n : Nat) : TS :=
  (tSeq (tIfS (tOr (tAnd (tNot (tB (tCB (rIsi K) (tCons (tVar 1) (tCons (tC (.ty "list")) tNil))))) (tNot (tB (tCB (rIsi K) (tCons (tVar 1) (tCons (tC (.ty "tuple")) tNil)))))) (tTest (tOp rNe (tCB (rLenU K) (tCons (tVar 0) tNil)) (tCB (rLenU K) (tCons (tVar 1) tNil))))) (tRet (tC (.bl false))) tNext)
      (t_law_sameH_9 K C n))
abbrev t_law_sameH_7 (K : PySem.W.Frag) (C : Cs) (n : Nat) : TS :=
  (tSeq (tIfS (tTest (tOp rNe (tCB (rIsi K) (tCons (tVar 1) (tCons (tC (.ty "tuple")) tNil))) (tCB (rIsi K) (tCons (tVar 0) (tCons (tC (.ty "tuple")) tNil))))) (tRet (tC (.bl false))) tNext)
      (t_law_sameH_8 K C n))
abbrev t_law_sameH_6 (K : PySem.W.Frag) (C : Cs) (n : Nat) : TS :=
  (tSeq (tIfS (tTest (tOp rNe (tCB (rIsi K) (tCons (tVar 1) (tCons (tC (.ty "list")) tNil))) (tCB (rIsi K) (tCons (tVar 0) (tCons (tC (.ty "list")) tNil))))) (tRet (tC (.bl false))) tNext)
      (t_law_sameH_7 K C n))
abbrev t_law_sameH_5 (K : PySem.W.Frag) (C : Cs) (n : Nat) : TS :=
  (tSeq (tIfS (tB (tCB (rIsi K) (tCons (tVar 1) (tCons (tC (.ty "dict")) tNil)))) (tSeq (tIfS (tOr (tNot (tB (tCB (rIsi K) (tCons (tVar 0) (tCons (tC (.ty "dict")) tNil))))) (tTest (tOp rNe (tCB (rLenU K) (tCons (tVar 0) tNil)) (tCB (rLenU K) (tCons (tVar 1) tNil))))) (tRet (tC (.bl false))) tNext)
      (tSeq tNo
      (tRet (tC (.bl true))))) tNext)
      (t_law_sameH_6 K C n))
abbrev t_law_sameH_4 (K : PySem.W.Frag) (C : Cs) (n : Nat) : TS :=
  (tSeq (tIfS (tB (tCB (rIsi K) (tCons (tVar 1) (tCons (tC (.ty "str")) tNil)))) (tRet (tAndV (tCB (rIsi K) (tCons (tVar 0) (tCons (tC (.ty "str")) tNil))) (tOp rEq (tVar 0) (tVar 1)))) tNext)
      (t_law_sameH_5 K C n))
abbrev t_law_sameH_3 (K : PySem.W.Frag) (C : Cs) (n : Nat) : TS :=
  (tSeq (tIfS (tB (tCB (rIsi K) (tCons (tVar 1) (tCons (tC (.ty "int")) tNil)))) (tRet (tAndV (tCB (rIsi K) (tCons (tVar 0) (tCons (tC (.ty "int")) tNil))) (tOp rEq (tVar 0) (tVar 1)))) tNext)
      (t_law_sameH_4 K C n))
abbrev t_law_sameH_2 (K : PySem.W.Frag) (C : Cs) (n : Nat) : TS :=
  (tSeq (tIfS (tOr (tB (tCB (rIsi K) (tCons (tVar 0) (tCons (tC (.ty "bool")) tNil)))) (tB (tCB (rIsi K) (tCons (tVar 1) (tCons (tC (.ty "bool")) tNil))))) (tRet (tAndV (tCB (rIsi K) (tCons (tVar 0) (tCons (tC (.ty "bool")) tNil))) (tAndV (tCB (rIsi K) (tCons (tVar 1) (tCons (tC (.ty "bool")) tNil))) (tOp rEq (tVar 0) (tVar 1))))) tNext)
      (t_law_sameH_3 K C n))
def t_law_sameH (K : PySem.W.Frag) (C : Cs) (n : Nat) : TS :=
  (tSeq (tIfS (tOr (tTest (tOp rIsU (tVar 0) (tC .non))) (tTest (tOp rIsU (tVar 1) (tC .non)))) (tRet (tAndV (tOp rIsU (tVar 0) (tC .non)) (tOp rIsU (tVar 1) (tC .non)))) tNext)
      (t_law_sameH_2 K C n))
abbrev Pf_law_sameH (K : PySem.W.Frag) (C : Cs) (n : Nat) : Prop := ∀ (vs : List V) (H : Hp) (Q : VK) (E : XK), sp_law_sameH K C n vs H Q E → t_law_sameH K C n ⟨fun _ H' => Q .non H', Q, fun _ _ => False, fun _ _ => False⟩ (L2.start ["_law_actual", "_law_expected", "_law_key", "_law_k"] vs) H
theorem d_law_sameH {f : Addr} {cdv : Value} {A : Around} {outer : List Env} {s : Shared} {H : Hp} {E : XK} {p : Addr × Obj} {n k : Nat} (G : Glob w K mg C) (ch_law_same : CalH P w K mg base k "_law_same" (sp_law_sameH K C n)) (hr : L2H.RoomH k (A.deeper (envOfC "_law_same" (defScope S_law_same) s.heap.objs.size f cdv))) (hot : L2H.Hot1 A p) :
    PSs ((L2H.cxH CX0 P w K mg base ["_law_actual", "_law_expected", "_law_key", "_law_k"] "_law_same" (defScope S_law_same) f cdv A outer s H E p).nox) (defBody S_law_same) (t_law_sameH K C n) := by
  unfold t_law_sameH
  exact (pss_cons (ps_if (PW.pt (pw_or (pt_cmpR op_isU (pv 0) pe_non (nomark _)) (pw_or1 (pt_cmpR op_isU (pv 1) pe_non (nomark _))))) (pss_one (ps_ret (pe_and (pe_cmpR op_isU (pv 0) pe_non (nomark _)) (pe_one (pe_cmpR op_isU (pv 1) pe_non (nomark _)))))) pss_nil)
      (pss_cons (ps_if (PW.pt (pw_or (pt_val (pe_callB call_isi rfl G.b_isinstance (by decide +kernel) (pa_cons (pv 0) (pa_cons (pe_bltn (v := .ty "bool") rfl G.b_bool (by decide +kernel) rfl) pa_nil)))) (pw_or1 (pt_val (pe_callB call_isi rfl G.b_isinstance (by decide +kernel) (pa_cons (pv 1) (pa_cons (pe_bltn (v := .ty "bool") rfl G.b_bool (by decide +kernel) rfl) pa_nil))))))) (pss_one (ps_ret (pe_and (pe_callB call_isi rfl G.b_isinstance (by decide +kernel) (pa_cons (pv 0) (pa_cons (pe_bltn (v := .ty "bool") rfl G.b_bool (by decide +kernel) rfl) pa_nil))) (pe_and (pe_callB call_isi rfl G.b_isinstance (by decide +kernel) (pa_cons (pv 1) (pa_cons (pe_bltn (v := .ty "bool") rfl G.b_bool (by decide +kernel) rfl) pa_nil))) (pe_one (pe_cmpR op_eq (pv 0) (pv 1) (nomark _))))))) pss_nil)
      (pss_cons (ps_if (pt_val (pe_callB call_isi rfl G.b_isinstance (by decide +kernel) (pa_cons (pv 1) (pa_cons (pe_bltn (v := .ty "int") rfl G.b_int (by decide +kernel) rfl) pa_nil)))) (pss_one (ps_ret (pe_and (pe_callB call_isi rfl G.b_isinstance (by decide +kernel) (pa_cons (pv 0) (pa_cons (pe_bltn (v := .ty "int") rfl G.b_int (by decide +kernel) rfl) pa_nil))) (pe_one (pe_cmpR op_eq (pv 0) (pv 1) (nomark _)))))) pss_nil)
      (pss_cons (ps_if (pt_val (pe_callB call_isi rfl G.b_isinstance (by decide +kernel) (pa_cons (pv 1) (pa_cons (pe_bltn (v := .ty "str") rfl G.b_str (by decide +kernel) rfl) pa_nil)))) (pss_one (ps_ret (pe_and (pe_callB call_isi rfl G.b_isinstance (by decide +kernel) (pa_cons (pv 0) (pa_cons (pe_bltn (v := .ty "str") rfl G.b_str (by decide +kernel) rfl) pa_nil))) (pe_one (pe_cmpR op_eq (pv 0) (pv 1) (nomark _)))))) pss_nil)
      (pss_cons (ps_if (pt_val (pe_callB call_isi rfl G.b_isinstance (by decide +kernel) (pa_cons (pv 1) (pa_cons (pe_bltn (v := .ty "dict") rfl G.b_dict (by decide +kernel) rfl) pa_nil)))) (pss_cons (ps_if (PW.pt (pw_or (pt_not (pt_val (pe_callB call_isi rfl G.b_isinstance (by decide +kernel) (pa_cons (pv 0) (pa_cons (pe_bltn (v := .ty "dict") rfl G.b_dict (by decide +kernel) rfl) pa_nil))))) (pw_or1 (pt_cmpR op_ne (pe_callB call_lenU rfl G.b_len PySem.boot_len (pa_cons (pv 0) pa_nil)) (pe_callB call_lenU rfl G.b_len PySem.boot_len (pa_cons (pv 1) pa_nil)) (nomark _))))) (pss_one (ps_ret pe_bl)) pss_nil)
      (pss_cons ps_no
      (pss_one (ps_ret pe_bl)))) pss_nil)
      (pss_cons (ps_if (pt_cmpR op_ne (pe_callB call_isi rfl G.b_isinstance (by decide +kernel) (pa_cons (pv 1) (pa_cons (pe_bltn (v := .ty "list") rfl G.b_list (by decide +kernel) rfl) pa_nil))) (pe_callB call_isi rfl G.b_isinstance (by decide +kernel) (pa_cons (pv 0) (pa_cons (pe_bltn (v := .ty "list") rfl G.b_list (by decide +kernel) rfl) pa_nil))) (nomark _)) (pss_one (ps_ret pe_bl)) pss_nil)
      (pss_cons (ps_if (pt_cmpR op_ne (pe_callB call_isi rfl G.b_isinstance (by decide +kernel) (pa_cons (pv 1) (pa_cons (pe_bltn (v := .ty "tuple") rfl G.b_tuple (by decide +kernel) rfl) pa_nil))) (pe_callB call_isi rfl G.b_isinstance (by decide +kernel) (pa_cons (pv 0) (pa_cons (pe_bltn (v := .ty "tuple") rfl G.b_tuple (by decide +kernel) rfl) pa_nil))) (nomark _)) (pss_one (ps_ret pe_bl)) pss_nil)
      (pss_cons (ps_if (PW.pt (pw_or (PW.pt (pw_and (pt_not (pt_val (pe_callB call_isi rfl G.b_isinstance (by decide +kernel) (pa_cons (pv 1) (pa_cons (pe_bltn (v := .ty "list") rfl G.b_list (by decide +kernel) rfl) pa_nil))))) (pw_and1 (pt_not (pt_val (pe_callB call_isi rfl G.b_isinstance (by decide +kernel) (pa_cons (pv 1) (pa_cons (pe_bltn (v := .ty "tuple") rfl G.b_tuple (by decide +kernel) rfl) pa_nil)))))))) (pw_or1 (pt_cmpR op_ne (pe_callB call_lenU rfl G.b_len PySem.boot_len (pa_cons (pv 0) pa_nil)) (pe_callB call_lenU rfl G.b_len PySem.boot_len (pa_cons (pv 1) pa_nil)) (nomark _))))) (pss_one (ps_ret pe_bl)) pss_nil)
      (pss_cons (L2H.ps_forH PassesOwn.never (hotc_cxH hot) (L2H.pi_range1H rfl G.b_range (pa_cons (pe_callB call_lenU rfl G.b_len PySem.boot_len (pa_cons (pv 1) pa_nil)) pa_nil)) (pg_name (i := 3) sc_law_same.nd rfl (Or.inl rfl)) (pss_one (ps_if (pt_not (pt_val (pe_cH ch_law_same hr (Nat.le_refl _) (hotc_cxH hot) rfl (pa_cons (pe_ix ix_seq (pv 0) (pv 3) (fun _ _ => rfl)) (pa_cons (pe_ix ix_seq (pv 1) (pv 3) (fun _ _ => rfl)) pa_nil))))) (pss_one (ps_ret pe_bl)) pss_nil)))
      (pss_one (ps_ret pe_bl)))))))))))
abbrev S_law_name : Stmt := top 41
theorem sc_law_name : FnScope ["_law_draws_here", "_law_letters", "_law_k"] ["_law_draws_here"] (defScope S_law_name) := ⟨rfl, rfl, rfl, by decide +kernel, rfl, by decide +kernel, by decide +kernel⟩
abbrev t_law_name_3 (K : PySem.W.Frag) (C : Cs) : TS :=
  (tRet (tJoinU K (tC (.str "")) (tLcN (iRng1 (tCons (tCall (sp_law_between K C) [] E0 (tCons (tVar 0) (tCons (tC (.int 1)) (tCons (tC (.int 4)) tNil)))) tNil)) (gName 2) (tOp (rIx K) (tVar 1) (tCall (sp_law_take K C) [] E0 (tCons (tVar 0) (tCons (tC (.int 26)) tNil)))) [2])))
abbrev t_law_name_2 (K : PySem.W.Frag) (C : Cs) : TS :=
  (tSeq (tAsg (tC (.str "abcdefghijklmnopqrstuvwxyz")) (gName 1))
      (t_law_name_3 K C))
def t_law_name (K : PySem.W.Frag) (C : Cs) : TS :=
  (tSeq (tIfS (tTest (tOp rGtU (tCall (sp_law_take K C) [] E0 (tCons (tVar 0) (tCons (tC (.int 3)) tNil))) (tC (.int 0)))) (tRet (tOp (rIx K) (tLstN (tCons (tC (.str "a")) (tCons (tC (.str "b")) (tCons (tC (.str "aa")) (tCons (tC (.str "ab")) (tCons (tC (.str "z")) (tCons (tC (.str "zzzz")) tNil))))))) (tCall (sp_law_take K C) [] E0 (tCons (tVar 0) (tCons (tC (.int 6)) tNil))))) tNext)
      (t_law_name_2 K C))
theorem i_law_name (x0 : V) : L2.start ["_law_draws_here", "_law_letters", "_law_k"] [x0] = [some x0, none, none] := rfl
abbrev Pf_law_name (K : PySem.W.Frag) (C : Cs) : Prop := ∀ (vs : List V) (H : Hp) (Q : VK) (E : XK), (sp_law_name K C) vs H Q E → t_law_name K C ⟨fun _ H' => Q .non H', Q, fun _ _ => False, fun _ _ => False⟩ (L2.start ["_law_draws_here", "_law_letters", "_law_k"] vs) H
theorem d_law_name {f : Addr} {cdv : Value} {A : Around} {outer : List Env} {s : Shared} {H : Hp} {E : XK} {n : Nat} (G : Glob w K mg C) (c_law_take : Cal P w K mg base 2 "_law_take" (sp_law_take K C)) (c_law_between : Cal P w K mg base 3 "_law_between" (sp_law_between K C)) (hr : Room 3 (A.deeper (envOfC "_law_name" (defScope S_law_name) s.heap.objs.size f cdv))) :
    PSs ((cxOf CX0 P w K mg base ["_law_draws_here", "_law_letters", "_law_k"] "_law_name" (defScope S_law_name) f cdv A outer s H E).nox) (defBody S_law_name) (t_law_name K C) := by
  unfold t_law_name
  exact (pss_cons (ps_if (pt_cmpR op_gtU (pe_c c_law_take hr (by decide) rfl (pa_cons (pv 0) (pa_cons pe_int pa_nil))) pe_int (nomark _)) (pss_one (ps_ret (pe_ix ix_seq (pe_lstN (pa_cons pe_str (pa_cons pe_str (pa_cons pe_str (pa_cons pe_str (pa_cons pe_str (pa_cons pe_str pa_nil))))))) (pe_c c_law_take hr (by decide) rfl (pa_cons (pv 0) (pa_cons pe_int pa_nil))) (fun _ _ => rfl)))) pss_nil)
      (pss_cons (ps_set (i := 1) sc_law_name.nd rfl (Or.inr rfl) pe_str)
      (pss_one (ps_ret (pe_join pe_str (pe_lcN (own := [("_law_k", 2)]) (g := (gName 2)) rfl sc_law_name.nd (pi_range1 rfl G.b_range (pa_cons (pe_c c_law_between hr (by decide) rfl (pa_cons (pv 0) (pa_cons pe_int (pa_cons pe_int pa_nil)))) pa_nil)) (blkOk_by (own := [("_law_k", 2)]) (N := ["_law_draws_here", "_law_letters", "_law_k"]) (sc := defScope S_law_name) (by decide +kernel)) (fun _ _ _ _ _ => (pg_name (i := 2) sc_law_name.nd rfl (Or.inl rfl))) (fun _ _ _ _ _ => (pe_ix ix_seq (pv 1) (pe_c c_law_take hr (by decide) rfl (pa_cons (pv 0) (pa_cons pe_int pa_nil))) (fun _ _ => rfl)))))))))
abbrev S_law_titles : Stmt := top 42
theorem sc_law_titles : FnScope ["_law_row"] [] (defScope S_law_titles) := ⟨rfl, rfl, rfl, by decide +kernel, rfl, by decide +kernel, by decide +kernel⟩
abbrev t_law_titles_2 (K : PySem.W.Frag) (C : Cs) : TS :=
  (tRet (tOp (rAddU K) (tVar 0) (tLstN (tCons (tC (.str "tick")) (tCons (tC (.str "settle")) tNil)))))
def t_law_titles (K : PySem.W.Frag) (C : Cs) : TS :=
  (tSeq (tAsg (tLstN (tCons (tC (.str "take")) (tCons (tC (.str "resize")) (tCons (tC (.str "free")) (tCons (tC (.str "pass")) (tCons (tC (.str "put")) (tCons (tC (.str "get")) (tCons (tC (.str "map")) (tCons (tC (.str "unmap")) (tCons (tC (.str "share")) (tCons (tC (.str "protect")) (tCons (tC (.str "store")) (tCons (tC (.str "load")) (tCons (tC (.str "out")) tNil)))))))))))))) (gName 0))
      (t_law_titles_2 K C))
theorem i_law_titles : L2.start ["_law_row"] [] = [none] := rfl
abbrev Pf_law_titles (K : PySem.W.Frag) (C : Cs) : Prop := ∀ (vs : List V) (H : Hp) (Q : VK) (E : XK), (sp_law_titles K C) vs H Q E → t_law_titles K C ⟨fun _ H' => Q .non H', Q, fun _ _ => False, fun _ _ => False⟩ (L2.start ["_law_row"] vs) H
theorem d_law_titles {f : Addr} {cdv : Value} {A : Around} {outer : List Env} {s : Shared} {H : Hp} {E : XK} {n : Nat} (G : Glob w K mg C) (hr : Room 0 (A.deeper (envOfC "_law_titles" (defScope S_law_titles) s.heap.objs.size f cdv))) :
    PSs ((cxOf CX0 P w K mg base ["_law_row"] "_law_titles" (defScope S_law_titles) f cdv A outer s H E).nox) (defBody S_law_titles) (t_law_titles K C) := by
  unfold t_law_titles
  exact (pss_cons (ps_set (i := 0) sc_law_titles.nd rfl (Or.inl rfl) (pe_lstN (pa_cons pe_str (pa_cons pe_str (pa_cons pe_str (pa_cons pe_str (pa_cons pe_str (pa_cons pe_str (pa_cons pe_str (pa_cons pe_str (pa_cons pe_str (pa_cons pe_str (pa_cons pe_str (pa_cons pe_str (pa_cons pe_str pa_nil)))))))))))))))
      (pss_one (ps_ret (pe_op op_addU (pv 0) (pe_lstN (pa_cons pe_str (pa_cons pe_str pa_nil)))))))
abbrev S_law_part_bounds : Stmt := top 43
theorem sc_law_part_bounds : FnScope ["_law_title"] ["_law_title"] (defScope S_law_part_bounds) := ⟨rfl, rfl, rfl, by decide +kernel, rfl, by decide +kernel, by decide +kernel⟩
abbrev t_law_part_bounds_7 (K : PySem.W.Frag) (C : Cs) : TS :=
  (tRet (tLstN tNil))
abbrev t_law_part_bounds_6 (K : PySem.W.Frag) (C : Cs) : TS :=
  (tSeq (tIfS (tTest (tOp rEq (tVar 0) (tC (.str "protect")))) (tRet (tLstN (tCons (tTupN (tCons (tC (.int 0)) (tCons (tC (.int 2)) tNil))) tNil))) tNext)
      (t_law_part_bounds_7 K C))
abbrev t_law_part_bounds_5 (K : PySem.W.Frag) (C : Cs) : TS :=
  (tSeq (tIfS (tTest (tOp rEq (tVar 0) (tC (.str "map")))) (tRet (tLstN (tCons (tTupN (tCons (tC (.int 1)) (tCons (tC (.int 32)) tNil))) tNil))) tNext)
      (t_law_part_bounds_6 K C))
abbrev t_law_part_bounds_4 (K : PySem.W.Frag) (C : Cs) : TS :=
  (tSeq (tIfS (tOr (tTest (tOp rEq (tVar 0) (tC (.str "get")))) (tTest (tOp rEq (tVar 0) (tC (.str "load"))))) (tRet (tLstN (tCons (tTupN (tCons (tC (.int 0)) (tCons (tC (.int 999999999)) tNil))) tNil))) tNext)
      (t_law_part_bounds_5 K C))
abbrev t_law_part_bounds_3 (K : PySem.W.Frag) (C : Cs) : TS :=
  (tSeq (tIfS (tOr (tTest (tOp rEq (tVar 0) (tC (.str "put")))) (tTest (tOp rEq (tVar 0) (tC (.str "store"))))) (tRet (tLstN (tCons (tTupN (tCons (tC (.int 0)) (tCons (tC (.int 999999999)) tNil))) (tCons (tTupN (tCons (tC (.int 0)) (tCons (tC (.int 65535)) tNil))) tNil)))) tNext)
      (t_law_part_bounds_4 K C))
abbrev t_law_part_bounds_2 (K : PySem.W.Frag) (C : Cs) : TS :=
  (tSeq (tIfS (tOr (tTest (tOp rEq (tVar 0) (tC (.str "pass")))) (tTest (tOp rEq (tVar 0) (tC (.str "share"))))) (tRet (tLstN (tCons (tTupN (tCons (tC (.int 1)) (tCons (tC (.int 8)) tNil))) tNil))) tNext)
      (t_law_part_bounds_3 K C))
def t_law_part_bounds (K : PySem.W.Frag) (C : Cs) : TS :=
  (tSeq (tIfS (tOr (tTest (tOp rEq (tVar 0) (tC (.str "take")))) (tTest (tOp rEq (tVar 0) (tC (.str "resize"))))) (tRet (tLstN (tCons (tTupN (tCons (tC (.int 1)) (tCons (tC (.int 999999999)) tNil))) tNil))) tNext)
      (t_law_part_bounds_2 K C))
theorem i_law_part_bounds (x0 : V) : L2.start ["_law_title"] [x0] = [some x0] := rfl
abbrev Pf_law_part_bounds (K : PySem.W.Frag) (C : Cs) : Prop := ∀ (vs : List V) (H : Hp) (Q : VK) (E : XK), (sp_law_part_bounds K C) vs H Q E → t_law_part_bounds K C ⟨fun _ H' => Q .non H', Q, fun _ _ => False, fun _ _ => False⟩ (L2.start ["_law_title"] vs) H
theorem d_law_part_bounds {f : Addr} {cdv : Value} {A : Around} {outer : List Env} {s : Shared} {H : Hp} {E : XK} {n : Nat} (G : Glob w K mg C) (hr : Room 0 (A.deeper (envOfC "_law_part_bounds" (defScope S_law_part_bounds) s.heap.objs.size f cdv))) :
    PSs ((cxOf CX0 P w K mg base ["_law_title"] "_law_part_bounds" (defScope S_law_part_bounds) f cdv A outer s H E).nox) (defBody S_law_part_bounds) (t_law_part_bounds K C) := by
  unfold t_law_part_bounds
  exact (pss_cons (ps_if (PW.pt (pw_or (pt_cmpR op_eq (pv 0) pe_str (nomark _)) (pw_or1 (pt_cmpR op_eq (pv 0) pe_str (nomark _))))) (pss_one (ps_ret (pe_lstN (pa_cons (pe_tupN (pa_cons pe_int (pa_cons pe_int pa_nil))) pa_nil)))) pss_nil)
      (pss_cons (ps_if (PW.pt (pw_or (pt_cmpR op_eq (pv 0) pe_str (nomark _)) (pw_or1 (pt_cmpR op_eq (pv 0) pe_str (nomark _))))) (pss_one (ps_ret (pe_lstN (pa_cons (pe_tupN (pa_cons pe_int (pa_cons pe_int pa_nil))) pa_nil)))) pss_nil)
      (pss_cons (ps_if (PW.pt (pw_or (pt_cmpR op_eq (pv 0) pe_str (nomark _)) (pw_or1 (pt_cmpR op_eq (pv 0) pe_str (nomark _))))) (pss_one (ps_ret (pe_lstN (pa_cons (pe_tupN (pa_cons pe_int (pa_cons pe_int pa_nil))) (pa_cons (pe_tupN (pa_cons pe_int (pa_cons pe_int pa_nil))) pa_nil))))) pss_nil)
      (pss_cons (ps_if (PW.pt (pw_or (pt_cmpR op_eq (pv 0) pe_str (nomark _)) (pw_or1 (pt_cmpR op_eq (pv 0) pe_str (nomark _))))) (pss_one (ps_ret (pe_lstN (pa_cons (pe_tupN (pa_cons pe_int (pa_cons pe_int pa_nil))) pa_nil)))) pss_nil)
      (pss_cons (ps_if (pt_cmpR op_eq (pv 0) pe_str (nomark _)) (pss_one (ps_ret (pe_lstN (pa_cons (pe_tupN (pa_cons pe_int (pa_cons pe_int pa_nil))) pa_nil)))) pss_nil)
      (pss_cons (ps_if (pt_cmpR op_eq (pv 0) pe_str (nomark _)) (pss_one (ps_ret (pe_lstN (pa_cons (pe_tupN (pa_cons pe_int (pa_cons pe_int pa_nil))) pa_nil)))) pss_nil)
      (pss_one (ps_ret (pe_lstN pa_nil)))))))))
abbrev S_law_request : Stmt := top 44
theorem sc_law_request : FnScope ["_law_draws_here", "_law_title", "_law_parts", "_law_low", "_law_high"] ["_law_draws_here"] (defScope S_law_request) := ⟨rfl, rfl, rfl, by decide +kernel, rfl, by decide +kernel, by decide +kernel⟩
abbrev t_law_request_6 (K : PySem.W.Frag) (C : Cs) : TS :=
  (tRet (tVar 2))
abbrev t_law_request_5 (K : PySem.W.Frag) (C : Cs) : TS :=
  (tSeq (tIfS (tTest (tOp rEq (tVar 1) (tC (.str "take")))) (tAsg (tOp (rAddU K) (tVar 2) (tTupN (tCons (tCall (sp_law_alignment K C) [] E0 (tCons (tVar 0) (tCons (tC (.int 29)) tNil))) tNil))) (gName 2)) tNext)
      (t_law_request_6 K C))
abbrev t_law_request_4 (K : PySem.W.Frag) (C : Cs) : TS :=
  (tSeq (tFor (iList K (tCall (sp_law_part_bounds K C) [] E0 (tCons (tVar 1) tNil))) (gTup K 2 (gCons (gName 3) (gCons (gName 4) gNil))) (tAsg (tOp (rAddU K) (tVar 2) (tTupN (tCons (tCall (sp_law_number K C) [] E0 (tCons (tVar 0) (tCons (tVar 3) (tCons (tVar 4) tNil)))) tNil))) (gName 2)))
      (t_law_request_5 K C))
abbrev t_law_request_3 (K : PySem.W.Frag) (C : Cs) : TS :=
  (tSeq (tAsg (tTupN (tCons (tVar 1) (tCons (tCall (sp_law_user K C) [] E0 (tCons (tVar 0) tNil)) (tCons (tCall (sp_law_name K C) [] E0 (tCons (tVar 0) tNil)) tNil)))) (gName 2))
      (t_law_request_4 K C))
abbrev t_law_request_2 (K : PySem.W.Frag) (C : Cs) : TS :=
  (tSeq (tIfS (tOr (tTest (tOp rEq (tVar 1) (tC (.str "tick")))) (tTest (tOp rEq (tVar 1) (tC (.str "settle"))))) (tRet (tTupN (tCons (tVar 1) tNil))) tNext)
      (t_law_request_3 K C))
def t_law_request (K : PySem.W.Frag) (C : Cs) : TS :=
  (tSeq (tAsg (tCall (sp_law_among K C) [] E0 (tCons (tVar 0) (tCons (tCall (sp_law_titles K C) [] E0 tNil) tNil))) (gName 1))
      (t_law_request_2 K C))
theorem i_law_request (x0 : V) : L2.start ["_law_draws_here", "_law_title", "_law_parts", "_law_low", "_law_high"] [x0] = [some x0, none, none, none, none] := rfl
abbrev Pf_law_request (K : PySem.W.Frag) (C : Cs) : Prop := ∀ (vs : List V) (H : Hp) (Q : VK) (E : XK), (sp_law_request K C) vs H Q E → t_law_request K C ⟨fun _ H' => Q .non H', Q, fun _ _ => False, fun _ _ => False⟩ (L2.start ["_law_draws_here", "_law_title", "_law_parts", "_law_low", "_law_high"] vs) H
theorem d_law_request {f : Addr} {cdv : Value} {A : Around} {outer : List Env} {s : Shared} {H : Hp} {E : XK} {n : Nat} (G : Glob w K mg C) (c_law_titles : Cal P w K mg base 1 "_law_titles" (sp_law_titles K C)) (c_law_among : Cal P w K mg base 3 "_law_among" (sp_law_among K C)) (c_law_name : Cal P w K mg base 4 "_law_name" (sp_law_name K C)) (c_law_user : Cal P w K mg base 4 "_law_user" (sp_law_user K C)) (c_law_part_bounds : Cal P w K mg base 1 "_law_part_bounds" (sp_law_part_bounds K C)) (c_law_number : Cal P w K mg base 5 "_law_number" (sp_law_number K C)) (c_law_alignment : Cal P w K mg base 4 "_law_alignment" (sp_law_alignment K C)) (hr : Room 5 (A.deeper (envOfC "_law_request" (defScope S_law_request) s.heap.objs.size f cdv))) :
    PSs ((cxOf CX0 P w K mg base ["_law_draws_here", "_law_title", "_law_parts", "_law_low", "_law_high"] "_law_request" (defScope S_law_request) f cdv A outer s H E).nox) (defBody S_law_request) (t_law_request K C) := by
  unfold t_law_request
  exact (pss_cons (ps_set (i := 1) sc_law_request.nd rfl (Or.inl rfl) (pe_c c_law_among hr (by decide) rfl (pa_cons (pv 0) (pa_cons (pe_c0 c_law_titles hr (by decide) rfl) pa_nil))))
      (pss_cons (ps_if (PW.pt (pw_or (pt_cmpR op_eq (pv 1) pe_str (nomark _)) (pw_or1 (pt_cmpR op_eq (pv 1) pe_str (nomark _))))) (pss_one (ps_ret (pe_tupN (pa_cons (pv 1) pa_nil)))) pss_nil)
      (pss_cons (ps_set (i := 2) sc_law_request.nd rfl (Or.inl rfl) (pe_tupN (pa_cons (pv 1) (pa_cons (pe_c c_law_user hr (by decide) rfl (pa_cons (pv 0) pa_nil)) (pa_cons (pe_c c_law_name hr (by decide) rfl (pa_cons (pv 0) pa_nil)) pa_nil)))))
      (pss_cons (ps_for PassesOwn.never rfl (pi_list (pe_c c_law_part_bounds hr (by decide) rfl (pa_cons (pv 1) pa_nil))) (pg_tup rfl (pgs_cons (pg_name (i := 3) sc_law_request.nd rfl (Or.inl rfl)) (pgs_cons (pg_name (i := 4) sc_law_request.nd rfl (Or.inl rfl)) pgs_nil))) (pss_one (ps_set (i := 2) sc_law_request.nd rfl (Or.inl rfl) (pe_op op_addU (pv 2) (pe_tupN (pa_cons (pe_c c_law_number hr (by decide) rfl (pa_cons (pv 0) (pa_cons (pv 3) (pa_cons (pv 4) pa_nil)))) pa_nil))))))
      (pss_cons (ps_if (pt_cmpR op_eq (pv 1) pe_str (nomark _)) (pss_one (ps_set (i := 2) sc_law_request.nd rfl (Or.inl rfl) (pe_op op_addU (pv 2) (pe_tupN (pa_cons (pe_c c_law_alignment hr (by decide) rfl (pa_cons (pv 0) (pa_cons pe_int pa_nil))) pa_nil))))) pss_nil)
      (pss_one (ps_ret (pv 2))))))))
abbrev S_law_line : Stmt := top 45
theorem sc_law_line : FnScope ["_law_request_here", "_law_is_long", "_law_parts", "_law_one"] ["_law_request_here", "_law_is_long"] (defScope S_law_line) := ⟨rfl, rfl, rfl, by decide +kernel, rfl, by decide +kernel, by decide +kernel⟩
abbrev t_law_line_3 (K : PySem.W.Frag) (C : Cs) : TS :=
  (tRet (tJoinU K (tC (.str " ")) (tVar 2)))
abbrev t_law_line_2 (K : PySem.W.Frag) (C : Cs) : TS :=
  (tSeq (tIfS (tAnd (tTest (tOp rEq (tOp (rIx K) (tVar 0) (tC (.int 0))) (tC (.str "take")))) (tAnd (tTest (tOp rEq (tOp (rIx K) (tVar 0) (tC (.int 4))) (tC (.int 1)))) (tNot (tB (tVar 1))))) (tAsg (tSl (rSlU K) (tVar 2) tNoPart (tPart (tC (.int 4)))) (gName 2)) tNext)
      (t_law_line_3 K C))
def t_law_line (K : PySem.W.Frag) (C : Cs) : TS :=
  (tSeq (tAsg (tLcN (iTup K (tVar 0)) (gName 3) (tCB rStrU (tCons (tVar 3) tNil)) [3]) (gName 2))
      (t_law_line_2 K C))
theorem i_law_line (x0 x1 : V) : L2.start ["_law_request_here", "_law_is_long", "_law_parts", "_law_one"] [x0, x1] = [some x0, some x1, none, none] := rfl
abbrev Pf_law_line (K : PySem.W.Frag) (C : Cs) : Prop := ∀ (vs : List V) (H : Hp) (Q : VK) (E : XK), (sp_law_line K C) vs H Q E → t_law_line K C ⟨fun _ H' => Q .non H', Q, fun _ _ => False, fun _ _ => False⟩ (L2.start ["_law_request_here", "_law_is_long", "_law_parts", "_law_one"] vs) H
theorem d_law_line {f : Addr} {cdv : Value} {A : Around} {outer : List Env} {s : Shared} {H : Hp} {E : XK} {n : Nat} (G : Glob w K mg C) (hr : Room 0 (A.deeper (envOfC "_law_line" (defScope S_law_line) s.heap.objs.size f cdv))) :
    PSs ((cxOf CX0 P w K mg base ["_law_request_here", "_law_is_long", "_law_parts", "_law_one"] "_law_line" (defScope S_law_line) f cdv A outer s H E).nox) (defBody S_law_line) (t_law_line K C) := by
  unfold t_law_line
  exact (pss_cons (ps_setLcN (i := 2) (own := [("_law_one", 3)]) (g := (gName 3)) rfl sc_law_line.nd rfl rfl (sw_true rfl rfl rfl (by decide +kernel)) (pi_tup (pv 0)) (blkOk_by (own := [("_law_one", 3)]) (N := ["_law_request_here", "_law_is_long", "_law_parts", "_law_one"]) (sc := defScope S_law_line) (by decide +kernel)) (fun _ _ _ _ _ => (pg_name (i := 3) sc_law_line.nd rfl (Or.inl rfl))) (fun _ _ _ _ _ => (pe_callTy call_strU rfl G.b_str (by decide +kernel) (pa_cons (pv 3) pa_nil))))
      (pss_cons (ps_if (PW.pt (pw_and (pt_cmpR op_eq (pe_ix ix_seq (pv 0) pe_int (fun _ _ => rfl)) pe_str (nomark _)) (pw_and (pt_cmpR op_eq (pe_ix ix_seq (pv 0) pe_int (fun _ _ => rfl)) pe_int (nomark _)) (pw_and1 (pt_not (pt_val (pv 1))))))) (pss_one (ps_set (i := 2) sc_law_line.nd rfl (Or.inl rfl) (pe_slice sl_U (pv 2) po_none (po_some pe_int)))) pss_nil)
      (pss_one (ps_ret (pe_join pe_str (pv 2))))))
abbrev S_law_bad_word : Stmt := top 46
theorem sc_law_bad_word : FnScope ["_law_draws_here", "_law_request_here", "_law_at", "_law_words", "_law_bounds"] ["_law_draws_here", "_law_request_here", "_law_at"] (defScope S_law_bad_word) := ⟨rfl, rfl, rfl, by decide +kernel, rfl, by decide +kernel, by decide +kernel⟩
abbrev t_law_bad_word_7 (K : PySem.W.Frag) (C : Cs) : TS :=
  (tRet (tCall (sp_law_among K C) [] E0 (tCons (tVar 0) (tCons (tOp (rAddU K) (tVar 3) (tLstN (tCons (tCB rStrU (tCons (tOp rSubU (tOp (rIx K) (tVar 4) (tC (.int 0))) (tC (.int 1))) tNil)) (tCons (tCB rStrU (tCons (tOp (rAddU K) (tOp (rIx K) (tVar 4) (tC (.int 1))) (tC (.int 1))) tNil)) tNil)))) tNil))))
abbrev t_law_bad_word_6 (K : PySem.W.Frag) (C : Cs) : TS :=
  (tSeq (tAsg (tOp (rIx K) (tCall (sp_law_part_bounds K C) [] E0 (tCons (tOp (rIx K) (tVar 1) (tC (.int 0))) tNil)) (tOp rSubU (tVar 2) (tC (.int 3)))) (gName 4))
      (t_law_bad_word_7 K C))
abbrev t_law_bad_word_5 (K : PySem.W.Frag) (C : Cs) : TS :=
  (tSeq (tIfS (tAnd (tTest (tOp rEq (tVar 2) (tC (.int 4)))) (tTest (tOp rEq (tOp (rIx K) (tVar 1) (tC (.int 0))) (tC (.str "take"))))) (tRet (tCall (sp_law_among K C) [] E0 (tCons (tVar 0) (tCons (tOp (rAddU K) (tVar 3) (tLstN (tCons (tC (.str "0")) (tCons (tC (.str "3")) (tCons (tC (.str "6")) (tCons (tC (.str "536870913")) (tCons (tC (.str "999999999")) (tCons (tC (.str "536870911")) tNil)))))))) tNil)))) tNext)
      (t_law_bad_word_6 K C))
abbrev t_law_bad_word_4 (K : PySem.W.Frag) (C : Cs) : TS :=
  (tSeq (tAsg (tLstN (tCons (tC (.str "-1")) (tCons (tC (.str "+1")) (tCons (tC (.str "00")) (tCons (tC (.str "01")) (tCons (tC (.str "a")) (tCons (tC (.str "1a")) (tCons (tC (.str "1234567890")) (tCons (tC (.str "0x1")) (tCons (tC (.str "1,0")) (tCons (tC (.str "1_0")) tNil))))))))))) (gName 3))
      (t_law_bad_word_5 K C))
abbrev t_law_bad_word_3 (K : PySem.W.Frag) (C : Cs) : TS :=
  (tSeq (tIfS (tTest (tOp rEq (tVar 2) (tC (.int 2)))) (tRet (tCall (sp_law_among K C) [] E0 (tCons (tVar 0) (tCons (tLstN (tCons (tC (.str "abcde")) (tCons (tC (.str "A")) (tCons (tC (.str "aB")) (tCons (tC (.str "a1")) (tCons (tC (.str "1")) (tCons (tC (.str "a-")) (tCons (tC (.str "_")) tNil)))))))) tNil)))) tNext)
      (t_law_bad_word_4 K C))
abbrev t_law_bad_word_2 (K : PySem.W.Frag) (C : Cs) : TS :=
  (tSeq (tIfS (tTest (tOp rEq (tVar 2) (tC (.int 1)))) (tRet (tCall (sp_law_among K C) [] E0 (tCons (tVar 0) (tCons (tLstN (tCons (tC (.str "0")) (tCons (tC (.str "9")) (tCons (tC (.str "01")) (tCons (tC (.str "-1")) (tCons (tC (.str "+1")) (tCons (tC (.str "a")) (tCons (tC (.str "1a")) (tCons (tC (.str "10")) (tCons (tC (.str "1.0")) tNil)))))))))) tNil)))) tNext)
      (t_law_bad_word_3 K C))
def t_law_bad_word (K : PySem.W.Frag) (C : Cs) : TS :=
  (tSeq (tIfS (tTest (tOp rEq (tVar 2) (tC (.int 0)))) (tRet (tCall (sp_law_among K C) [] E0 (tCons (tVar 0) (tCons (tLstN (tCons (tC (.str "Take")) (tCons (tC (.str "tak")) (tCons (tC (.str "takes")) (tCons (tC (.str "tick1")) (tCons (tC (.str "9")) (tCons (tC (.str "-")) (tCons (tC (.str "TICK")) tNil)))))))) tNil)))) tNext)
      (t_law_bad_word_2 K C))
theorem i_law_bad_word (x0 x1 x2 : V) : L2.start ["_law_draws_here", "_law_request_here", "_law_at", "_law_words", "_law_bounds"] [x0, x1, x2] = [some x0, some x1, some x2, none, none] := rfl
abbrev Pf_law_bad_word (K : PySem.W.Frag) (C : Cs) : Prop := ∀ (vs : List V) (H : Hp) (Q : VK) (E : XK), (sp_law_bad_word K C) vs H Q E → t_law_bad_word K C ⟨fun _ H' => Q .non H', Q, fun _ _ => False, fun _ _ => False⟩ (L2.start ["_law_draws_here", "_law_request_here", "_law_at", "_law_words", "_law_bounds"] vs) H
theorem d_law_bad_word {f : Addr} {cdv : Value} {A : Around} {outer : List Env} {s : Shared} {H : Hp} {E : XK} {n : Nat} (G : Glob w K mg C) (c_law_among : Cal P w K mg base 3 "_law_among" (sp_law_among K C)) (c_law_part_bounds : Cal P w K mg base 1 "_law_part_bounds" (sp_law_part_bounds K C)) (hr : Room 3 (A.deeper (envOfC "_law_bad_word" (defScope S_law_bad_word) s.heap.objs.size f cdv))) :
    PSs ((cxOf CX0 P w K mg base ["_law_draws_here", "_law_request_here", "_law_at", "_law_words", "_law_bounds"] "_law_bad_word" (defScope S_law_bad_word) f cdv A outer s H E).nox) (defBody S_law_bad_word) (t_law_bad_word K C) := by
  unfold t_law_bad_word
  exact (pss_cons (ps_if (pt_cmpR op_eq (pv 2) pe_int (nomark _)) (pss_one (ps_ret (pe_c c_law_among hr (by decide) rfl (pa_cons (pv 0) (pa_cons (pe_lstN (pa_cons pe_str (pa_cons pe_str (pa_cons pe_str (pa_cons pe_str (pa_cons pe_str (pa_cons pe_str (pa_cons pe_str pa_nil)))))))) pa_nil))))) pss_nil)
      (pss_cons (ps_if (pt_cmpR op_eq (pv 2) pe_int (nomark _)) (pss_one (ps_ret (pe_c c_law_among hr (by decide) rfl (pa_cons (pv 0) (pa_cons (pe_lstN (pa_cons pe_str (pa_cons pe_str (pa_cons pe_str (pa_cons pe_str (pa_cons pe_str (pa_cons pe_str (pa_cons pe_str (pa_cons pe_str (pa_cons pe_str pa_nil)))))))))) pa_nil))))) pss_nil)
      (pss_cons (ps_if (pt_cmpR op_eq (pv 2) pe_int (nomark _)) (pss_one (ps_ret (pe_c c_law_among hr (by decide) rfl (pa_cons (pv 0) (pa_cons (pe_lstN (pa_cons pe_str (pa_cons pe_str (pa_cons pe_str (pa_cons pe_str (pa_cons pe_str (pa_cons pe_str (pa_cons pe_str pa_nil)))))))) pa_nil))))) pss_nil)
      (pss_cons (ps_set (i := 3) sc_law_bad_word.nd rfl (Or.inl rfl) (pe_lstN (pa_cons pe_str (pa_cons pe_str (pa_cons pe_str (pa_cons pe_str (pa_cons pe_str (pa_cons pe_str (pa_cons pe_str (pa_cons pe_str (pa_cons pe_str (pa_cons pe_str pa_nil))))))))))))
      (pss_cons (ps_if (PW.pt (pw_and (pt_cmpR op_eq (pv 2) pe_int (nomark _)) (pw_and1 (pt_cmpR op_eq (pe_ix ix_seq (pv 1) pe_int (fun _ _ => rfl)) pe_str (nomark _))))) (pss_one (ps_ret (pe_c c_law_among hr (by decide) rfl (pa_cons (pv 0) (pa_cons (pe_op op_addU (pv 3) (pe_lstN (pa_cons pe_str (pa_cons pe_str (pa_cons pe_str (pa_cons pe_str (pa_cons pe_str (pa_cons pe_str pa_nil)))))))) pa_nil))))) pss_nil)
      (pss_cons (ps_set (i := 4) sc_law_bad_word.nd rfl (Or.inl rfl) (pe_ix ix_seq (pe_c c_law_part_bounds hr (by decide) rfl (pa_cons (pe_ix ix_seq (pv 1) pe_int (fun _ _ => rfl)) pa_nil)) (pe_op op_subU (pv 2) pe_int) (fun _ _ => rfl)))
      (pss_one (ps_ret (pe_c c_law_among hr (by decide) rfl (pa_cons (pv 0) (pa_cons (pe_op op_addU (pv 3) (pe_lstN (pa_cons (pe_callTy call_strU rfl G.b_str (by decide +kernel) (pa_cons (pe_op op_subU (pe_ix ix_seq (pv 4) pe_int (fun _ _ => rfl)) pe_int) pa_nil)) (pa_cons (pe_callTy call_strU rfl G.b_str (by decide +kernel) (pa_cons (pe_op op_addU (pe_ix ix_seq (pv 4) pe_int (fun _ _ => rfl)) pe_int) pa_nil)) pa_nil)))) pa_nil)))))))))))
abbrev S_law_bad_line : Stmt := top 47
theorem sc_law_bad_line : FnScope ["_law_draws_here", "_law_request_here", "_law_words", "_law_kind", "_law_at", "_law_line_here", "_law_word"] ["_law_draws_here", "_law_request_here"] (defScope S_law_bad_line) := ⟨rfl, rfl, rfl, by decide +kernel, rfl, by decide +kernel, by decide +kernel⟩
abbrev t_law_bad_line_8 (K : PySem.W.Frag) (C : Cs) : TS :=
  (tRet (tTupN (tCons (tJoinU K (tC (.str " ")) (tVar 2)) (tCons (tOp (rAddU K) (tCB (rSum K) (tCons (tLcN (iList K (tSl (rSlU K) (tVar 2) tNoPart (tPart (tVar 4)))) (gName 6) (tOp (rAddU K) (tCB (rLenU K) (tCons (tVar 6) tNil)) (tC (.int 1))) [6]) tNil)) (tC (.int 1))) tNil))))
abbrev t_law_bad_line_7 (K : PySem.W.Frag) (C : Cs) : TS :=
  (tSeq (tIfS (tTest (tOp rEq (tVar 3) (tC (.int 3)))) (tSeq (tIfS (tTest (tOp rEq (tOp (rIx K) (tVar 1) (tC (.int 0))) (tC (.str "take")))) (tAsg (tCall (sp_law_take K C) [] E0 (tCons (tVar 0) (tCons (tC (.int 4)) tNil))) (gName 4)) tNext)
      (tSeq (tAsg (tJoinU K (tC (.str " ")) (tSl (rSlU K) (tVar 2) tNoPart (tPart (tVar 4)))) (gName 5))
      (tRet (tTupN (tCons (tVar 5) (tCons (tOp (rAddU K) (tCB (rLenU K) (tCons (tVar 5) tNil)) (tC (.int 1))) tNil)))))) tNext)
      (t_law_bad_line_8 K C))
abbrev t_law_bad_line_6 (K : PySem.W.Frag) (C : Cs) : TS :=
  (tSeq (tIfS (tTest (tOp rEq (tVar 3) (tC (.int 2)))) (tSeq (tAsg (tCB (rLenU K) (tCons (tVar 2) tNil)) (gName 4))
      (tAsg (tOp (rAddU K) (tVar 2) (tLstN (tCons (tOp (rIx K) (tLstN (tCons (tC (.str "1")) (tCons (tC (.str "a")) (tCons (tC (.str "take")) (tCons (tC (.str "0")) tNil))))) (tCall (sp_law_take K C) [] E0 (tCons (tVar 0) (tCons (tC (.int 4)) tNil)))) tNil))) (gName 2))) tNext)
      (t_law_bad_line_7 K C))
abbrev t_law_bad_line_5 (K : PySem.W.Frag) (C : Cs) : TS :=
  (tSeq (tIfS (tTest (tOp rEq (tVar 3) (tC (.int 1)))) (tAsg (tCall (sp_law_bad_word K C) [] E0 (tCons (tVar 0) (tCons (tVar 1) (tCons (tVar 4) tNil)))) (gSub (tVar 2) (tVar 4) rSetL)) tNext)
      (t_law_bad_line_6 K C))
abbrev t_law_bad_line_4 (K : PySem.W.Frag) (C : Cs) : TS :=
  (tSeq (tIfS (tTest (tOp rEq (tVar 3) (tC (.int 0)))) (tSeq (tAsg (tCall (sp_law_take K C) [] E0 (tCons (tVar 0) (tCons (tOp (rAddU K) (tCB (rLenU K) (tCons (tVar 2) tNil)) (tC (.int 1))) tNil))) (gName 4))
      (tAsg (tOp (rAddU K) (tOp (rAddU K) (tSl (rSlU K) (tVar 2) tNoPart (tPart (tVar 4))) (tLstN (tCons (tC (.str "")) tNil))) (tSl (rSlU K) (tVar 2) (tPart (tVar 4)) tNoPart)) (gName 2))) tNext)
      (t_law_bad_line_5 K C))
abbrev t_law_bad_line_3 (K : PySem.W.Frag) (C : Cs) : TS :=
  (tSeq (tAsg (tCall (sp_law_take K C) [] E0 (tCons (tVar 0) (tCons (tCB (rLenU K) (tCons (tVar 2) tNil)) tNil))) (gName 4))
      (t_law_bad_line_4 K C))
abbrev t_law_bad_line_2 (K : PySem.W.Frag) (C : Cs) : TS :=
  (tSeq (tAsg (tCall (sp_law_take K C) [] E0 (tCons (tVar 0) (tCons (tC (.int 4)) tNil))) (gName 3))
      (t_law_bad_line_3 K C))
def t_law_bad_line (K : PySem.W.Frag) (C : Cs) : TS :=
  (tSeq (tAsg (tSplitU (tCall (sp_law_line K C) [] E0 (tCons (tVar 1) (tCons (tC (.bl true)) tNil))) (tC (.str " "))) (gName 2))
      (t_law_bad_line_2 K C))
theorem i_law_bad_line (x0 x1 : V) : L2.start ["_law_draws_here", "_law_request_here", "_law_words", "_law_kind", "_law_at", "_law_line_here", "_law_word"] [x0, x1] = [some x0, some x1, none, none, none, none, none] := rfl
abbrev Pf_law_bad_line (K : PySem.W.Frag) (C : Cs) : Prop := ∀ (vs : List V) (H : Hp) (Q : VK) (E : XK), (sp_law_bad_line K C) vs H Q E → t_law_bad_line K C ⟨fun _ H' => Q .non H', Q, fun _ _ => False, fun _ _ => False⟩ (L2.start ["_law_draws_here", "_law_request_here", "_law_words", "_law_kind", "_law_at", "_law_line_here", "_law_word"] vs) H
theorem d_law_bad_line {f : Addr} {cdv : Value} {A : Around} {outer : List Env} {s : Shared} {H : Hp} {E : XK} {n : Nat} (G : Glob w K mg C) (c_law_line : Cal P w K mg base 1 "_law_line" (sp_law_line K C)) (c_law_take : Cal P w K mg base 2 "_law_take" (sp_law_take K C)) (c_law_bad_word : Cal P w K mg base 4 "_law_bad_word" (sp_law_bad_word K C)) (hr : Room 4 (A.deeper (envOfC "_law_bad_line" (defScope S_law_bad_line) s.heap.objs.size f cdv))) :
    PSs ((cxOf CX0 P w K mg base ["_law_draws_here", "_law_request_here", "_law_words", "_law_kind", "_law_at", "_law_line_here", "_law_word"] "_law_bad_line" (defScope S_law_bad_line) f cdv A outer s H E).nox) (defBody S_law_bad_line) (t_law_bad_line K C) := by
  unfold t_law_bad_line
  exact (pss_cons (ps_set (i := 2) sc_law_bad_line.nd rfl (Or.inl rfl) (pe_m1 PySem.F.slot_str_split PySem.F.type_str_split mt_split (pe_c c_law_line hr (by decide) rfl (pa_cons (pv 1) (pa_cons pe_bl pa_nil))) pe_str))
      (pss_cons (ps_set (i := 3) sc_law_bad_line.nd rfl (Or.inl rfl) (pe_c c_law_take hr (by decide) rfl (pa_cons (pv 0) (pa_cons pe_int pa_nil))))
      (pss_cons (ps_set (i := 4) sc_law_bad_line.nd rfl (Or.inl rfl) (pe_c c_law_take hr (by decide) rfl (pa_cons (pv 0) (pa_cons (pe_callB call_lenU rfl G.b_len PySem.boot_len (pa_cons (pv 2) pa_nil)) pa_nil))))
      (pss_cons (ps_if (pt_cmpR op_eq (pv 3) pe_int (nomark _)) (pss_cons (ps_set (i := 4) sc_law_bad_line.nd rfl (Or.inl rfl) (pe_c c_law_take hr (by decide) rfl (pa_cons (pv 0) (pa_cons (pe_op op_addU (pe_callB call_lenU rfl G.b_len PySem.boot_len (pa_cons (pv 2) pa_nil)) pe_int) pa_nil))))
      (pss_one (ps_set (i := 2) sc_law_bad_line.nd rfl (Or.inl rfl) (pe_op op_addU (pe_op op_addU (pe_slice sl_U (pv 2) po_none (po_some (pv 4))) (pe_lstN (pa_cons pe_str pa_nil))) (pe_slice sl_U (pv 2) (po_some (pv 4)) po_none))))) pss_nil)
      (pss_cons (ps_if (pt_cmpR op_eq (pv 3) pe_int (nomark _)) (pss_one (ps_asg (pe_c c_law_bad_word hr (by decide) rfl (pa_cons (pv 0) (pa_cons (pv 1) (pa_cons (pv 4) pa_nil)))) (pg_sub (pv 2) (pv 4) set_list))) pss_nil)
      (pss_cons (ps_if (pt_cmpR op_eq (pv 3) pe_int (nomark _)) (pss_cons (ps_set (i := 4) sc_law_bad_line.nd rfl (Or.inl rfl) (pe_callB call_lenU rfl G.b_len PySem.boot_len (pa_cons (pv 2) pa_nil)))
      (pss_one (ps_set (i := 2) sc_law_bad_line.nd rfl (Or.inl rfl) (pe_op op_addU (pv 2) (pe_lstN (pa_cons (pe_ix ix_seq (pe_lstN (pa_cons pe_str (pa_cons pe_str (pa_cons pe_str (pa_cons pe_str pa_nil))))) (pe_c c_law_take hr (by decide) rfl (pa_cons (pv 0) (pa_cons pe_int pa_nil))) (fun _ _ => rfl)) pa_nil)))))) pss_nil)
      (pss_cons (ps_if (pt_cmpR op_eq (pv 3) pe_int (nomark _)) (pss_cons (ps_if (pt_cmpR op_eq (pe_ix ix_seq (pv 1) pe_int (fun _ _ => rfl)) pe_str (nomark _)) (pss_one (ps_set (i := 4) sc_law_bad_line.nd rfl (Or.inl rfl) (pe_c c_law_take hr (by decide) rfl (pa_cons (pv 0) (pa_cons pe_int pa_nil))))) pss_nil)
      (pss_cons (ps_set (i := 5) sc_law_bad_line.nd rfl (Or.inl rfl) (pe_join pe_str (pe_slice sl_U (pv 2) po_none (po_some (pv 4)))))
      (pss_one (ps_ret (pe_tupN (pa_cons (pv 5) (pa_cons (pe_op op_addU (pe_callB call_lenU rfl G.b_len PySem.boot_len (pa_cons (pv 5) pa_nil)) pe_int) pa_nil))))))) pss_nil)
      (pss_one (ps_ret (pe_tupN (pa_cons (pe_join pe_str (pv 2)) (pa_cons (pe_op op_addU (pe_callB (cr_sum rfl) rfl G.b_sum (by decide +kernel) (pa_cons (pe_lcN (own := [("_law_word", 6)]) (g := (gName 6)) rfl sc_law_bad_line.nd (pi_list (pe_slice sl_U (pv 2) po_none (po_some (pv 4)))) (blkOk_by (own := [("_law_word", 6)]) (N := ["_law_draws_here", "_law_request_here", "_law_words", "_law_kind", "_law_at", "_law_line_here", "_law_word"]) (sc := defScope S_law_bad_line) (by decide +kernel)) (fun _ _ _ _ _ => (pg_name (i := 6) sc_law_bad_line.nd rfl (Or.inl rfl))) (fun _ _ _ _ _ => (pe_op op_addU (pe_callB call_lenU rfl G.b_len PySem.boot_len (pa_cons (pv 6) pa_nil)) pe_int))) pa_nil)) pe_int) pa_nil))))))))))))
abbrev S_law_bad_text : Stmt := top 48
theorem sc_law_bad_text : FnScope ["_law_draws_here", "_law_requests", "_law_lines", "_law_at", "_law_line_here", "_law_column", "_law_one"] ["_law_draws_here", "_law_requests"] (defScope S_law_bad_text) := ⟨rfl, rfl, rfl, by decide +kernel, rfl, by decide +kernel, by decide +kernel⟩
abbrev t_law_bad_text_7 (K : PySem.W.Frag) (C : Cs) : TS :=
  (tRet (tTupN (tCons (tOp (rAddU K) (tJoinU K (tC (.str "\n")) (tVar 2)) (tC (.str "\n"))) (tCons (tOp (rAddU K) (tVar 3) (tC (.int 1))) (tCons (tVar 5) tNil)))))
abbrev t_law_bad_text_6 (K : PySem.W.Frag) (C : Cs) : TS :=
  (tSeq (tIfS (tTest (tOp rEq (tCall (sp_law_take K C) [] E0 (tCons (tVar 0) (tCons (tC (.int 3)) tNil))) (tC (.int 0)))) (tDrop (tBM K "list" rAppend (tVar 2) (tCons (tOp (rIx K) (tCall (sp_law_bad_line K C) [] E0 (tCons (tVar 0) (tCons (tCall (sp_law_request K C) [] E0 (tCons (tVar 0) tNil)) tNil))) (tC (.int 0))) tNil))) tNext)
      (t_law_bad_text_7 K C))
abbrev t_law_bad_text_5 (K : PySem.W.Frag) (C : Cs) : TS :=
  (tSeq (tAsg (tOp (rAddU K) (tOp (rAddU K) (tSl (rSlU K) (tVar 2) tNoPart (tPart (tVar 3))) (tLstN (tCons (tVar 4) tNil))) (tSl (rSlU K) (tVar 2) (tPart (tVar 3)) tNoPart)) (gName 2))
      (t_law_bad_text_6 K C))
abbrev t_law_bad_text_4 (K : PySem.W.Frag) (C : Cs) : TS :=
  (tSeq (tAsg (tCall (sp_law_bad_line K C) [] E0 (tCons (tVar 0) (tCons (tCall (sp_law_request K C) [] E0 (tCons (tVar 0) tNil)) tNil))) (gTup K 2 (gCons (gName 4) (gCons (gName 5) gNil))))
      (t_law_bad_text_5 K C))
abbrev t_law_bad_text_3 (K : PySem.W.Frag) (C : Cs) : TS :=
  (tSeq (tIfS (tAnd (tTest (tOp rGtU (tCB (rLenU K) (tCons (tVar 2) tNil)) (tC (.int 0)))) (tTest (tOp rEq (tCall (sp_law_take K C) [] E0 (tCons (tVar 0) (tCons (tC (.int 6)) tNil))) (tC (.int 0))))) (tRet (tTupN (tCons (tJoinU K (tC (.str "\n")) (tVar 2)) (tCons (tCB (rLenU K) (tCons (tVar 2) tNil)) (tCons (tOp (rAddU K) (tCB (rLenU K) (tCons (tOp (rIx K) (tVar 2) (tUn (rU fun i => .int (-i)) (tC (.int 1)))) tNil)) (tC (.int 1))) tNil))))) tNext)
      (t_law_bad_text_4 K C))
abbrev t_law_bad_text_2 (K : PySem.W.Frag) (C : Cs) : TS :=
  (tSeq (tAsg (tCall (sp_law_take K C) [] E0 (tCons (tVar 0) (tCons (tOp (rAddU K) (tCB (rLenU K) (tCons (tVar 2) tNil)) (tC (.int 1))) tNil))) (gName 3))
      (t_law_bad_text_3 K C))
def t_law_bad_text (K : PySem.W.Frag) (C : Cs) : TS :=
  (tSeq (tAsg (tLcN (iList K (tVar 1)) (gName 6) (tCall (sp_law_line K C) [] E0 (tCons (tVar 6) (tCons (tOp rEq (tCall (sp_law_take K C) [] E0 (tCons (tVar 0) (tCons (tC (.int 2)) tNil))) (tC (.int 0))) tNil))) [6]) (gName 2))
      (t_law_bad_text_2 K C))
theorem i_law_bad_text (x0 x1 : V) : L2.start ["_law_draws_here", "_law_requests", "_law_lines", "_law_at", "_law_line_here", "_law_column", "_law_one"] [x0, x1] = [some x0, some x1, none, none, none, none, none] := rfl
abbrev Pf_law_bad_text (K : PySem.W.Frag) (C : Cs) : Prop := ∀ (vs : List V) (H : Hp) (Q : VK) (E : XK), (sp_law_bad_text K C) vs H Q E → t_law_bad_text K C ⟨fun _ H' => Q .non H', Q, fun _ _ => False, fun _ _ => False⟩ (L2.start ["_law_draws_here", "_law_requests", "_law_lines", "_law_at", "_law_line_here", "_law_column", "_law_one"] vs) H
theorem d_law_bad_text {f : Addr} {cdv : Value} {A : Around} {outer : List Env} {s : Shared} {H : Hp} {E : XK} {n : Nat} (G : Glob w K mg C) (c_law_take : Cal P w K mg base 2 "_law_take" (sp_law_take K C)) (c_law_line : Cal P w K mg base 1 "_law_line" (sp_law_line K C)) (c_law_request : Cal P w K mg base 6 "_law_request" (sp_law_request K C)) (c_law_bad_line : Cal P w K mg base 5 "_law_bad_line" (sp_law_bad_line K C)) (hr : Room 6 (A.deeper (envOfC "_law_bad_text" (defScope S_law_bad_text) s.heap.objs.size f cdv))) :
    PSs ((cxOf CX0 P w K mg base ["_law_draws_here", "_law_requests", "_law_lines", "_law_at", "_law_line_here", "_law_column", "_law_one"] "_law_bad_text" (defScope S_law_bad_text) f cdv A outer s H E).nox) (defBody S_law_bad_text) (t_law_bad_text K C) := by
  unfold t_law_bad_text
  exact (pss_cons (ps_setLcN (i := 2) (own := [("_law_one", 6)]) (g := (gName 6)) rfl sc_law_bad_text.nd rfl rfl (sw_true rfl rfl rfl (by decide +kernel)) (pi_list (pv 1)) (blkOk_by (own := [("_law_one", 6)]) (N := ["_law_draws_here", "_law_requests", "_law_lines", "_law_at", "_law_line_here", "_law_column", "_law_one"]) (sc := defScope S_law_bad_text) (by decide +kernel)) (fun _ _ _ _ _ => (pg_name (i := 6) sc_law_bad_text.nd rfl (Or.inl rfl))) (fun _ _ _ _ _ => (pe_c c_law_line hr (by decide) rfl (pa_cons (pv 6) (pa_cons (pe_cmpR op_eq (pe_c c_law_take hr (by decide) rfl (pa_cons (pv 0) (pa_cons pe_int pa_nil))) pe_int (nomark _)) pa_nil)))))
      (pss_cons (ps_set (i := 3) sc_law_bad_text.nd rfl (Or.inl rfl) (pe_c c_law_take hr (by decide) rfl (pa_cons (pv 0) (pa_cons (pe_op op_addU (pe_callB call_lenU rfl G.b_len PySem.boot_len (pa_cons (pv 2) pa_nil)) pe_int) pa_nil))))
      (pss_cons (ps_if (PW.pt (pw_and (pt_cmpR op_gtU (pe_callB call_lenU rfl G.b_len PySem.boot_len (pa_cons (pv 2) pa_nil)) pe_int (nomark _)) (pw_and1 (pt_cmpR op_eq (pe_c c_law_take hr (by decide) rfl (pa_cons (pv 0) (pa_cons pe_int pa_nil))) pe_int (nomark _))))) (pss_one (ps_ret (pe_tupN (pa_cons (pe_join pe_str (pv 2)) (pa_cons (pe_callB call_lenU rfl G.b_len PySem.boot_len (pa_cons (pv 2) pa_nil)) (pa_cons (pe_op op_addU (pe_callB call_lenU rfl G.b_len PySem.boot_len (pa_cons (pe_ix ix_seq (pv 2) (pe_un un_neg pe_int) (fun _ _ => rfl)) pa_nil)) pe_int) pa_nil)))))) pss_nil)
      (pss_cons (ps_asg (pe_c c_law_bad_line hr (by decide) rfl (pa_cons (pv 0) (pa_cons (pe_c c_law_request hr (by decide) rfl (pa_cons (pv 0) pa_nil)) pa_nil))) (pg_tup rfl (pgs_cons (pg_name (i := 4) sc_law_bad_text.nd rfl (Or.inl rfl)) (pgs_cons (pg_name (i := 5) sc_law_bad_text.nd rfl (Or.inl rfl)) pgs_nil))))
      (pss_cons (ps_set (i := 2) sc_law_bad_text.nd rfl (Or.inl rfl) (pe_op op_addU (pe_op op_addU (pe_slice sl_U (pv 2) po_none (po_some (pv 3))) (pe_lstN (pa_cons (pv 4) pa_nil))) (pe_slice sl_U (pv 2) (po_some (pv 3)) po_none)))
      (pss_cons (ps_if (pt_cmpR op_eq (pe_c c_law_take hr (by decide) rfl (pa_cons (pv 0) (pa_cons pe_int pa_nil))) pe_int (nomark _)) (pss_one (ps_expr (pe_bm PySem.F.plainAttrs_list PySem.F.slot_list_append PySem.F.type_list_append mt_append (pv 2) (pa_cons (pe_ix ix_seq (pe_c c_law_bad_line hr (by decide) rfl (pa_cons (pv 0) (pa_cons (pe_c c_law_request hr (by decide) rfl (pa_cons (pv 0) pa_nil)) pa_nil))) pe_int (fun _ _ => rfl)) pa_nil)))) pss_nil)
      (pss_one (ps_ret (pe_tupN (pa_cons (pe_op op_addU (pe_join pe_str (pv 2)) pe_str) (pa_cons (pe_op op_addU (pv 3) pe_int) (pa_cons (pv 5) pa_nil))))))))))))
abbrev S_law_not_text : Stmt := top 49
theorem sc_law_not_text : FnScope ["_law_draws_here"] ["_law_draws_here"] (defScope S_law_not_text) := ⟨rfl, rfl, rfl, by decide +kernel, rfl, by decide +kernel, by decide +kernel⟩
def t_law_not_text (K : PySem.W.Frag) (C : Cs) : TS :=
  (tRet (tOp (rIx K) (tLstN (tCons (tC .non) (tCons (tC (.int 1)) (tCons (tC (.bl true)) (tCons (tLstN tNil) (tCons (tLstN (tCons (tC (.str "tick\n")) tNil)) (tCons (tTupN (tCons (tC (.str "tick\n")) tNil)) (tCons tDNewKN (tCons (tC (.str "tick\t\n")) (tCons (tC (.str "\t")) tNil)))))))))) (tCall (sp_law_take K C) [] E0 (tCons (tVar 0) (tCons (tC (.int 9)) tNil)))))
theorem i_law_not_text (x0 : V) : L2.start ["_law_draws_here"] [x0] = [some x0] := rfl
abbrev Pf_law_not_text (K : PySem.W.Frag) (C : Cs) : Prop := ∀ (vs : List V) (H : Hp) (Q : VK) (E : XK), (sp_law_not_text K C) vs H Q E → t_law_not_text K C ⟨fun _ H' => Q .non H', Q, fun _ _ => False, fun _ _ => False⟩ (L2.start ["_law_draws_here"] vs) H
theorem d_law_not_text {f : Addr} {cdv : Value} {A : Around} {outer : List Env} {s : Shared} {H : Hp} {E : XK} {n : Nat} (G : Glob w K mg C) (c_law_take : Cal P w K mg base 2 "_law_take" (sp_law_take K C)) (hr : Room 2 (A.deeper (envOfC "_law_not_text" (defScope S_law_not_text) s.heap.objs.size f cdv))) :
    PSs ((cxOf CX0 P w K mg base ["_law_draws_here"] "_law_not_text" (defScope S_law_not_text) f cdv A outer s H E).nox) (defBody S_law_not_text) (t_law_not_text K C) := by
  unfold t_law_not_text
  exact (pss_one (ps_ret (pe_ix ix_seq (pe_lstN (pa_cons pe_non (pa_cons pe_int (pa_cons pe_bl (pa_cons (pe_lstN pa_nil) (pa_cons (pe_lstN (pa_cons pe_str pa_nil)) (pa_cons (pe_tupN (pa_cons pe_str pa_nil)) (pa_cons pe_dnewKN (pa_cons pe_str (pa_cons pe_str pa_nil)))))))))) (pe_c c_law_take hr (by decide) rfl (pa_cons (pv 0) (pa_cons pe_int pa_nil))) (fun _ _ => rfl))))
abbrev S_law_number_word : Stmt := top 50
theorem sc_law_number_word : FnScope ["_law_word", "_law_low", "_law_high", "_law_one", "_law_value"] ["_law_word", "_law_low", "_law_high"] (defScope S_law_number_word) := ⟨rfl, rfl, rfl, by decide +kernel, rfl, by decide +kernel, by decide +kernel⟩
abbrev t_law_number_word_5 (K : PySem.W.Frag) (C : Cs) : TS :=
  (tRet (tC .non))
abbrev t_law_number_word_4 (K : PySem.W.Frag) (C : Cs) : TS :=
  (tSeq (tIfS (tTest (tChain rLeU rLeU (tVar 1) (tVar 4) (tVar 2))) (tRet (tVar 4)) tNext)
      (t_law_number_word_5 K C))
abbrev t_law_number_word_3 (K : PySem.W.Frag) (C : Cs) : TS :=
  (tSeq (tAsg (tCB rIntU (tCons (tVar 0) tNil)) (gName 4))
      (t_law_number_word_4 K C))
abbrev t_law_number_word_2 (K : PySem.W.Frag) (C : Cs) : TS :=
  (tSeq (tFor (iStr (tVar 0)) (gName 3) (tIfS (tTest (tOp rNotInSg (tVar 3) (tC (.str "0123456789")))) (tRet (tC .non)) tNext))
      (t_law_number_word_3 K C))
def t_law_number_word (K : PySem.W.Frag) (C : Cs) : TS :=
  (tSeq (tIfS (tOr (tNot (tTest (tChain rLeU rLeU (tC (.int 1)) (tCB (rLenU K) (tCons (tVar 0) tNil)) (tC (.int 9))))) (tAnd (tTest (tOp rEq (tOp (rIx K) (tVar 0) (tC (.int 0))) (tC (.str "0")))) (tTest (tOp rGtU (tCB (rLenU K) (tCons (tVar 0) tNil)) (tC (.int 1)))))) (tRet (tC .non)) tNext)
      (t_law_number_word_2 K C))
theorem i_law_number_word (x0 x1 x2 : V) : L2.start ["_law_word", "_law_low", "_law_high", "_law_one", "_law_value"] [x0, x1, x2] = [some x0, some x1, some x2, none, none] := rfl
abbrev Pf_law_number_word (K : PySem.W.Frag) (C : Cs) : Prop := ∀ (vs : List V) (H : Hp) (Q : VK) (E : XK), (sp_law_number_word K C) vs H Q E → t_law_number_word K C ⟨fun _ H' => Q .non H', Q, fun _ _ => False, fun _ _ => False⟩ (L2.start ["_law_word", "_law_low", "_law_high", "_law_one", "_law_value"] vs) H
theorem d_law_number_word {f : Addr} {cdv : Value} {A : Around} {outer : List Env} {s : Shared} {H : Hp} {E : XK} {n : Nat} (G : Glob w K mg C) (hr : Room 0 (A.deeper (envOfC "_law_number_word" (defScope S_law_number_word) s.heap.objs.size f cdv))) :
    PSs ((cxOf CX0 P w K mg base ["_law_word", "_law_low", "_law_high", "_law_one", "_law_value"] "_law_number_word" (defScope S_law_number_word) f cdv A outer s H E).nox) (defBody S_law_number_word) (t_law_number_word K C) := by
  unfold t_law_number_word
  exact (pss_cons (ps_if (PW.pt (pw_or (pt_not (pt_chain op_leU op_leU pe_int (pe_callB call_lenU rfl G.b_len PySem.boot_len (pa_cons (pv 0) pa_nil)) pe_int)) (pw_or1 (PW.pt (pw_and (pt_cmpR op_eq (pe_ix ix_seq (pv 0) pe_int (fun _ _ => rfl)) pe_str (nomark _)) (pw_and1 (pt_cmpR op_gtU (pe_callB call_lenU rfl G.b_len PySem.boot_len (pa_cons (pv 0) pa_nil)) pe_int (nomark _)))))))) (pss_one (ps_ret pe_non)) pss_nil)
      (pss_cons (ps_for PassesOwn.never rfl (pi_str (pv 0)) (pg_name (i := 3) sc_law_number_word.nd rfl (Or.inl rfl)) (pss_one (ps_if (pt_cmpR op_notInSg (pv 3) pe_str rfl) (pss_one (ps_ret pe_non)) pss_nil)))
      (pss_cons (ps_set (i := 4) sc_law_number_word.nd rfl (Or.inl rfl) (pe_callTy call_intU rfl G.b_int (by decide +kernel) (pa_cons (pv 0) pa_nil)))
      (pss_cons (ps_if (pt_chain op_leU op_leU (pv 1) (pv 4) (pv 2)) (pss_one (ps_ret (pv 4))) pss_nil)
      (pss_one (ps_ret pe_non))))))
abbrev S_law_part_word : Stmt := top 51
theorem sc_law_part_word : FnScope ["_law_title", "_law_at", "_law_word", "_law_bounds", "_law_one", "_law_value", "_law_k"] ["_law_title", "_law_at", "_law_word"] (defScope S_law_part_word) := ⟨rfl, rfl, rfl, by decide +kernel, rfl, by decide +kernel, by decide +kernel⟩
abbrev t_law_part_word_7 (K : PySem.W.Frag) (C : Cs) : TS :=
  (tRet (tCall (sp_law_number_word K C) [] E0 (tCons (tVar 2) (tCons (tOp (rIx K) (tOp (rIx K) (tVar 3) (tOp rSubU (tVar 1) (tC (.int 3)))) (tC (.int 0))) (tCons (tOp (rIx K) (tOp (rIx K) (tVar 3) (tOp rSubU (tVar 1) (tC (.int 3)))) (tC (.int 1))) tNil)))))
abbrev t_law_part_word_6 (K : PySem.W.Frag) (C : Cs) : TS :=
  (tSeq (tIfS (tTest (tOp rGeU (tOp rSubU (tVar 1) (tC (.int 3))) (tCB (rLenU K) (tCons (tVar 3) tNil)))) (tRet (tC .non)) tNext)
      (t_law_part_word_7 K C))
abbrev t_law_part_word_5 (K : PySem.W.Frag) (C : Cs) : TS :=
  (tSeq (tIfS (tAnd (tTest (tOp rEq (tVar 1) (tC (.int 4)))) (tTest (tOp rEq (tVar 0) (tC (.str "take"))))) (tSeq (tAsg (tCall (sp_law_number_word K C) [] E0 (tCons (tVar 2) (tCons (tC (.int 1)) (tCons (tC (.int 536870912)) tNil)))) (gName 5))
      (tSeq (tFor (iRng1 (tCons (tC (.int 30)) tNil)) (gName 6) (tIfS (tTest (tOp rEq (tVar 5) (tCall (sp_law_power K C) [] E0 (tCons (tVar 6) tNil)))) (tRet (tVar 5)) tNext))
      (tRet (tC .non)))) tNext)
      (t_law_part_word_6 K C))
abbrev t_law_part_word_4 (K : PySem.W.Frag) (C : Cs) : TS :=
  (tSeq (tIfS (tTest (tOp rEq (tVar 1) (tC (.int 2)))) (tSeq (tFor (iStr (tVar 2)) (gName 4) (tIfS (tTest (tOp rNotInSg (tVar 4) (tC (.str "abcdefghijklmnopqrstuvwxyz")))) (tRet (tC .non)) tNext))
      (tRet (tOp (rIx K) (tLstN (tCons (tC .non) (tCons (tVar 2) tNil))) (tCB rIntU (tCons (tChain rLeU rLeU (tC (.int 1)) (tCB (rLenU K) (tCons (tVar 2) tNil)) (tC (.int 4))) tNil))))) tNext)
      (t_law_part_word_5 K C))
abbrev t_law_part_word_3 (K : PySem.W.Frag) (C : Cs) : TS :=
  (tSeq (tIfS (tTest (tOp rEq (tVar 1) (tC (.int 1)))) (tRet (tCall (sp_law_number_word K C) [] E0 (tCons (tVar 2) (tCons (tC (.int 1)) (tCons (tC (.int 8)) tNil))))) tNext)
      (t_law_part_word_4 K C))
abbrev t_law_part_word_2 (K : PySem.W.Frag) (C : Cs) : TS :=
  (tSeq (tIfS (tOr (tTest (tOp rEq (tVar 0) (tC (.str "tick")))) (tTest (tOp rEq (tVar 0) (tC (.str "settle"))))) (tRet (tC .non)) tNext)
      (t_law_part_word_3 K C))
def t_law_part_word (K : PySem.W.Frag) (C : Cs) : TS :=
  (tSeq (tAsg (tCall (sp_law_part_bounds K C) [] E0 (tCons (tVar 0) tNil)) (gName 3))
      (t_law_part_word_2 K C))
theorem i_law_part_word (x0 x1 x2 : V) : L2.start ["_law_title", "_law_at", "_law_word", "_law_bounds", "_law_one", "_law_value", "_law_k"] [x0, x1, x2] = [some x0, some x1, some x2, none, none, none, none] := rfl
abbrev Pf_law_part_word (K : PySem.W.Frag) (C : Cs) : Prop := ∀ (vs : List V) (H : Hp) (Q : VK) (E : XK), (sp_law_part_word K C) vs H Q E → t_law_part_word K C ⟨fun _ H' => Q .non H', Q, fun _ _ => False, fun _ _ => False⟩ (L2.start ["_law_title", "_law_at", "_law_word", "_law_bounds", "_law_one", "_law_value", "_law_k"] vs) H
theorem d_law_part_word {f : Addr} {cdv : Value} {A : Around} {outer : List Env} {s : Shared} {H : Hp} {E : XK} {n : Nat} (G : Glob w K mg C) (c_law_part_bounds : Cal P w K mg base 1 "_law_part_bounds" (sp_law_part_bounds K C)) (c_law_number_word : Cal P w K mg base 1 "_law_number_word" (sp_law_number_word K C)) (c_law_power : Cal P w K mg base 1 "_law_power" (sp_law_power K C)) (hr : Room 1 (A.deeper (envOfC "_law_part_word" (defScope S_law_part_word) s.heap.objs.size f cdv))) :
    PSs ((cxOf CX0 P w K mg base ["_law_title", "_law_at", "_law_word", "_law_bounds", "_law_one", "_law_value", "_law_k"] "_law_part_word" (defScope S_law_part_word) f cdv A outer s H E).nox) (defBody S_law_part_word) (t_law_part_word K C) := by
  unfold t_law_part_word
  exact (pss_cons (ps_set (i := 3) sc_law_part_word.nd rfl (Or.inl rfl) (pe_c c_law_part_bounds hr (by decide) rfl (pa_cons (pv 0) pa_nil)))
      (pss_cons (ps_if (PW.pt (pw_or (pt_cmpR op_eq (pv 0) pe_str (nomark _)) (pw_or1 (pt_cmpR op_eq (pv 0) pe_str (nomark _))))) (pss_one (ps_ret pe_non)) pss_nil)
      (pss_cons (ps_if (pt_cmpR op_eq (pv 1) pe_int (nomark _)) (pss_one (ps_ret (pe_c c_law_number_word hr (by decide) rfl (pa_cons (pv 2) (pa_cons pe_int (pa_cons pe_int pa_nil)))))) pss_nil)
      (pss_cons (ps_if (pt_cmpR op_eq (pv 1) pe_int (nomark _)) (pss_cons (ps_for PassesOwn.never rfl (pi_str (pv 2)) (pg_name (i := 4) sc_law_part_word.nd rfl (Or.inl rfl)) (pss_one (ps_if (pt_cmpR op_notInSg (pv 4) pe_str rfl) (pss_one (ps_ret pe_non)) pss_nil)))
      (pss_one (ps_ret (pe_ix ix_seq (pe_lstN (pa_cons pe_non (pa_cons (pv 2) pa_nil))) (pe_callTy call_intU rfl G.b_int (by decide +kernel) (pa_cons (pe_chain op_leU op_leU pe_int (pe_callB call_lenU rfl G.b_len PySem.boot_len (pa_cons (pv 2) pa_nil)) pe_int) pa_nil)) (fun _ _ => rfl))))) pss_nil)
      (pss_cons (ps_if (PW.pt (pw_and (pt_cmpR op_eq (pv 1) pe_int (nomark _)) (pw_and1 (pt_cmpR op_eq (pv 0) pe_str (nomark _))))) (pss_cons (ps_set (i := 5) sc_law_part_word.nd rfl (Or.inl rfl) (pe_c c_law_number_word hr (by decide) rfl (pa_cons (pv 2) (pa_cons pe_int (pa_cons pe_int pa_nil)))))
      (pss_cons (ps_for PassesOwn.never rfl (pi_range1 rfl G.b_range (pa_cons pe_int pa_nil)) (pg_name (i := 6) sc_law_part_word.nd rfl (Or.inl rfl)) (pss_one (ps_if (pt_cmpR op_eq (pv 5) (pe_c c_law_power hr (by decide) rfl (pa_cons (pv 6) pa_nil)) (nomark _)) (pss_one (ps_ret (pv 5))) pss_nil)))
      (pss_one (ps_ret pe_non)))) pss_nil)
      (pss_cons (ps_if (pt_cmpR op_geU (pe_op op_subU (pv 1) pe_int) (pe_callB call_lenU rfl G.b_len PySem.boot_len (pa_cons (pv 3) pa_nil)) (nomark _)) (pss_one (ps_ret pe_non)) pss_nil)
      (pss_one (ps_ret (pe_c c_law_number_word hr (by decide) rfl (pa_cons (pv 2) (pa_cons (pe_ix ix_seq (pe_ix ix_seq (pv 3) (pe_op op_subU (pv 1) pe_int) (fun _ _ => rfl)) pe_int (fun _ _ => rfl)) (pa_cons (pe_ix ix_seq (pe_ix ix_seq (pv 3) (pe_op op_subU (pv 1) pe_int) (fun _ _ => rfl)) pe_int (fun _ _ => rfl)) pa_nil))))))))))))
abbrev S_law_line_read : Stmt := top 52
theorem sc_law_line_read : FnScope ["_law_line_here", "_law_parts", "_law_column", "_law_word", "_law_value"] ["_law_line_here"] (defScope S_law_line_read) := ⟨rfl, rfl, rfl, by decide +kernel, rfl, by decide +kernel, by decide +kernel⟩
abbrev t_law_line_read_7 (K : PySem.W.Frag) (C : Cs) : TS :=
  (tRet (tVar 1))
abbrev t_law_line_read_6 (K : PySem.W.Frag) (C : Cs) : TS :=
  (tSeq (tIfS (tAnd (tTest (tOp rEq (tOp (rIx K) (tVar 1) (tC (.int 0))) (tC (.str "take")))) (tTest (tOp rEq (tCB (rLenU K) (tCons (tVar 1) tNil)) (tC (.int 4))))) (tRet (tOp (rAddU K) (tVar 1) (tTupN (tCons (tC (.int 1)) tNil)))) tNext)
      (t_law_line_read_7 K C))
abbrev t_law_line_read_5 (K : PySem.W.Frag) (C : Cs) : TS :=
  (tSeq (tIfS (tTest (tOp rLtU (tCB (rLenU K) (tCons (tVar 1) tNil)) (tOp (rAddU K) (tC (.int 3)) (tCB (rLenU K) (tCons (tCall (sp_law_part_bounds K C) [] E0 (tCons (tOp (rIx K) (tVar 1) (tC (.int 0))) tNil)) tNil))))) (tRet (tOp (rAddU K) (tCB (rLenU K) (tCons (tVar 0) tNil)) (tC (.int 1)))) tNext)
      (t_law_line_read_6 K C))
abbrev t_law_line_read_4 (K : PySem.W.Frag) (C : Cs) : TS :=
  (tSeq (tIfS (tOr (tTest (tOp rEq (tOp (rIx K) (tVar 1) (tC (.int 0))) (tC (.str "tick")))) (tTest (tOp rEq (tOp (rIx K) (tVar 1) (tC (.int 0))) (tC (.str "settle"))))) (tRet (tVar 1)) tNext)
      (t_law_line_read_5 K C))
abbrev t_law_line_read_3 (K : PySem.W.Frag) (C : Cs) : TS :=
  (tSeq (tFor (iList K (tSplitU (tVar 0) (tC (.str " ")))) (gName 3) (tSeq (tIfS (tTest (tOp rGtU (tCB (rLenU K) (tCons (tVar 1) tNil)) (tC (.int 0)))) (tAsg (tCall (sp_law_part_word K C) [] E0 (tCons (tOp (rIx K) (tVar 1) (tC (.int 0))) (tCons (tCB (rLenU K) (tCons (tVar 1) tNil)) (tCons (tVar 3) tNil)))) (gName 4)) (tIfS (tTest (tOp (rIn K false) (tVar 3) (tCall (sp_law_titles K C) [] E0 tNil))) (tAsg (tVar 3) (gName 4)) (tAsg (tC .non) (gName 4))))
      (tSeq (tIfS (tTest (tOp rIsU (tVar 4) (tC .non))) (tRet (tVar 2)) tNext)
      (tSeq (tAsg (tOp (rAddU K) (tVar 1) (tTupN (tCons (tVar 4) tNil))) (gName 1))
      (tAsg (tOp (rAddU K) (tOp (rAddU K) (tVar 2) (tCB (rLenU K) (tCons (tVar 3) tNil))) (tC (.int 1))) (gName 2))))))
      (t_law_line_read_4 K C))
abbrev t_law_line_read_2 (K : PySem.W.Frag) (C : Cs) : TS :=
  (tSeq (tAsg (tC (.int 1)) (gName 2))
      (t_law_line_read_3 K C))
def t_law_line_read (K : PySem.W.Frag) (C : Cs) : TS :=
  (tSeq (tAsg (tTupN tNil) (gName 1))
      (t_law_line_read_2 K C))
theorem i_law_line_read (x0 : V) : L2.start ["_law_line_here", "_law_parts", "_law_column", "_law_word", "_law_value"] [x0] = [some x0, none, none, none, none] := rfl
abbrev Pf_law_line_read (K : PySem.W.Frag) (C : Cs) : Prop := ∀ (vs : List V) (H : Hp) (Q : VK) (E : XK), (sp_law_line_read K C) vs H Q E → t_law_line_read K C ⟨fun _ H' => Q .non H', Q, fun _ _ => False, fun _ _ => False⟩ (L2.start ["_law_line_here", "_law_parts", "_law_column", "_law_word", "_law_value"] vs) H
theorem d_law_line_read {f : Addr} {cdv : Value} {A : Around} {outer : List Env} {s : Shared} {H : Hp} {E : XK} {n : Nat} (G : Glob w K mg C) (c_law_part_word : Cal P w K mg base 2 "_law_part_word" (sp_law_part_word K C)) (c_law_titles : Cal P w K mg base 1 "_law_titles" (sp_law_titles K C)) (c_law_part_bounds : Cal P w K mg base 1 "_law_part_bounds" (sp_law_part_bounds K C)) (hr : Room 2 (A.deeper (envOfC "_law_line_read" (defScope S_law_line_read) s.heap.objs.size f cdv))) :
    PSs ((cxOf CX0 P w K mg base ["_law_line_here", "_law_parts", "_law_column", "_law_word", "_law_value"] "_law_line_read" (defScope S_law_line_read) f cdv A outer s H E).nox) (defBody S_law_line_read) (t_law_line_read K C) := by
  unfold t_law_line_read
  exact (pss_cons (ps_set (i := 1) sc_law_line_read.nd rfl (Or.inl rfl) (pe_tupN pa_nil))
      (pss_cons (ps_set (i := 2) sc_law_line_read.nd rfl (Or.inl rfl) pe_int)
      (pss_cons (ps_for PassesOwn.never rfl (pi_list (pe_m1 PySem.F.slot_str_split PySem.F.type_str_split mt_split (pv 0) pe_str)) (pg_name (i := 3) sc_law_line_read.nd rfl (Or.inl rfl)) (pss_cons (ps_if (pt_cmpR op_gtU (pe_callB call_lenU rfl G.b_len PySem.boot_len (pa_cons (pv 1) pa_nil)) pe_int (nomark _)) (pss_one (ps_set (i := 4) sc_law_line_read.nd rfl (Or.inl rfl) (pe_c c_law_part_word hr (by decide) rfl (pa_cons (pe_ix ix_seq (pv 1) pe_int (fun _ _ => rfl)) (pa_cons (pe_callB call_lenU rfl G.b_len PySem.boot_len (pa_cons (pv 1) pa_nil)) (pa_cons (pv 3) pa_nil)))))) (pss_one (ps_if (pt_cmpR op_in_seq (pv 3) (pe_c0 c_law_titles hr (by decide) rfl) rfl) (pss_one (ps_set (i := 4) sc_law_line_read.nd rfl (Or.inl rfl) (pv 3))) (pss_one (ps_set (i := 4) sc_law_line_read.nd rfl (Or.inl rfl) pe_non)))))
      (pss_cons (ps_if (pt_cmpR op_isU (pv 4) pe_non (nomark _)) (pss_one (ps_ret (pv 2))) pss_nil)
      (pss_cons (ps_set (i := 1) sc_law_line_read.nd rfl (Or.inl rfl) (pe_op op_addU (pv 1) (pe_tupN (pa_cons (pv 4) pa_nil))))
      (pss_one (ps_set (i := 2) sc_law_line_read.nd rfl (Or.inl rfl) (pe_op op_addU (pe_op op_addU (pv 2) (pe_callB call_lenU rfl G.b_len PySem.boot_len (pa_cons (pv 3) pa_nil))) pe_int)))))))
      (pss_cons (ps_if (PW.pt (pw_or (pt_cmpR op_eq (pe_ix ix_seq (pv 1) pe_int (fun _ _ => rfl)) pe_str (nomark _)) (pw_or1 (pt_cmpR op_eq (pe_ix ix_seq (pv 1) pe_int (fun _ _ => rfl)) pe_str (nomark _))))) (pss_one (ps_ret (pv 1))) pss_nil)
      (pss_cons (ps_if (pt_cmpR op_ltU (pe_callB call_lenU rfl G.b_len PySem.boot_len (pa_cons (pv 1) pa_nil)) (pe_op op_addU pe_int (pe_callB call_lenU rfl G.b_len PySem.boot_len (pa_cons (pe_c c_law_part_bounds hr (by decide) rfl (pa_cons (pe_ix ix_seq (pv 1) pe_int (fun _ _ => rfl)) pa_nil)) pa_nil))) (nomark _)) (pss_one (ps_ret (pe_op op_addU (pe_callB call_lenU rfl G.b_len PySem.boot_len (pa_cons (pv 0) pa_nil)) pe_int))) pss_nil)
      (pss_cons (ps_if (PW.pt (pw_and (pt_cmpR op_eq (pe_ix ix_seq (pv 1) pe_int (fun _ _ => rfl)) pe_str (nomark _)) (pw_and1 (pt_cmpR op_eq (pe_callB call_lenU rfl G.b_len PySem.boot_len (pa_cons (pv 1) pa_nil)) pe_int (nomark _))))) (pss_one (ps_ret (pe_op op_addU (pv 1) (pe_tupN (pa_cons pe_int pa_nil))))) pss_nil)
      (pss_one (ps_ret (pv 1)))))))))
abbrev S_law_text_read : Stmt := top 53
theorem sc_law_text_read : FnScope ["_law_text_here", "_law_lines", "_law_row", "_law_k", "_law_is_last", "_law_value"] ["_law_text_here"] (defScope S_law_text_read) := ⟨rfl, rfl, rfl, by decide +kernel, rfl, by decide +kernel, by decide +kernel⟩
abbrev t_law_text_read_4 (K : PySem.W.Frag) (C : Cs) : TS :=
  (tRet (tTupN (tCons (tC (.str "parsed")) (tCons (tVar 2) tNil))))
abbrev t_law_text_read_3 (K : PySem.W.Frag) (C : Cs) : TS :=
  (tSeq (tFor (iRng1 (tCons (tCB (rLenU K) (tCons (tVar 1) tNil)) tNil)) (gName 3) (tSeq (tAsg (tOp rEq (tVar 3) (tOp rSubU (tCB (rLenU K) (tCons (tVar 1) tNil)) (tC (.int 1)))) (gName 4))
      (tSeq (tIfS (tAnd (tB (tVar 4)) (tTest (tOp rEq (tOp (rIx K) (tVar 1) (tVar 3)) (tC (.str ""))))) tBreak tNext)
      (tSeq (tAsg (tCall (sp_law_line_read K C) [] E0 (tCons (tOp (rIx K) (tVar 1) (tVar 3)) tNil)) (gName 5))
      (tSeq (tIfS (tB (tCB (rIsi K) (tCons (tVar 5) (tCons (tC (.ty "int")) tNil)))) (tRet (tTupN (tCons (tC (.str "refused")) (tCons (tOp (rAddU K) (tVar 3) (tC (.int 1))) (tCons (tVar 5) tNil))))) tNext)
      (tSeq (tIfS (tB (tVar 4)) (tRet (tTupN (tCons (tC (.str "refused")) (tCons (tOp (rAddU K) (tVar 3) (tC (.int 1))) (tCons (tOp (rAddU K) (tCB (rLenU K) (tCons (tOp (rIx K) (tVar 1) (tVar 3)) tNil)) (tC (.int 1))) tNil))))) tNext)
      (tDrop (tBM K "list" rAppend (tVar 2) (tCons (tVar 5) tNil)))))))))
      (t_law_text_read_4 K C))
abbrev t_law_text_read_2 (K : PySem.W.Frag) (C : Cs) : TS :=
  (tSeq (tAsg (tLstN tNil) (gName 2))
      (t_law_text_read_3 K C))
def t_law_text_read (K : PySem.W.Frag) (C : Cs) : TS :=
  (tSeq (tAsg (tSplitU (tVar 0) (tC (.str "\n"))) (gName 1))
      (t_law_text_read_2 K C))
theorem i_law_text_read (x0 : V) : L2.start ["_law_text_here", "_law_lines", "_law_row", "_law_k", "_law_is_last", "_law_value"] [x0] = [some x0, none, none, none, none, none] := rfl
abbrev Pf_law_text_read (K : PySem.W.Frag) (C : Cs) : Prop := ∀ (vs : List V) (H : Hp) (Q : VK) (E : XK), (sp_law_text_read K C) vs H Q E → t_law_text_read K C ⟨fun _ H' => Q .non H', Q, fun _ _ => False, fun _ _ => False⟩ (L2.start ["_law_text_here", "_law_lines", "_law_row", "_law_k", "_law_is_last", "_law_value"] vs) H
theorem d_law_text_read {f : Addr} {cdv : Value} {A : Around} {outer : List Env} {s : Shared} {H : Hp} {E : XK} {n : Nat} (G : Glob w K mg C) (c_law_line_read : Cal P w K mg base 3 "_law_line_read" (sp_law_line_read K C)) (hr : Room 3 (A.deeper (envOfC "_law_text_read" (defScope S_law_text_read) s.heap.objs.size f cdv))) :
    PSs ((cxOf CX0 P w K mg base ["_law_text_here", "_law_lines", "_law_row", "_law_k", "_law_is_last", "_law_value"] "_law_text_read" (defScope S_law_text_read) f cdv A outer s H E).nox) (defBody S_law_text_read) (t_law_text_read K C) := by
  unfold t_law_text_read
  exact (pss_cons (ps_set (i := 1) sc_law_text_read.nd rfl (Or.inl rfl) (pe_m1 PySem.F.slot_str_split PySem.F.type_str_split mt_split (pv 0) pe_str))
      (pss_cons (ps_set (i := 2) sc_law_text_read.nd rfl (Or.inl rfl) (pe_lstN pa_nil))
      (pss_cons (ps_for PassesOwn.never rfl (pi_range1 rfl G.b_range (pa_cons (pe_callB call_lenU rfl G.b_len PySem.boot_len (pa_cons (pv 1) pa_nil)) pa_nil)) (pg_name (i := 3) sc_law_text_read.nd rfl (Or.inl rfl)) (pss_cons (ps_set (i := 4) sc_law_text_read.nd rfl (Or.inl rfl) (pe_cmpR op_eq (pv 3) (pe_op op_subU (pe_callB call_lenU rfl G.b_len PySem.boot_len (pa_cons (pv 1) pa_nil)) pe_int) (nomark _)))
      (pss_cons (ps_if (PW.pt (pw_and (pt_val (pv 4)) (pw_and1 (pt_cmpR op_eq (pe_ix ix_seq (pv 1) (pv 3) (fun _ _ => rfl)) pe_str (nomark _))))) (pss_one ps_break) pss_nil)
      (pss_cons (ps_set (i := 5) sc_law_text_read.nd rfl (Or.inl rfl) (pe_c c_law_line_read hr (by decide) rfl (pa_cons (pe_ix ix_seq (pv 1) (pv 3) (fun _ _ => rfl)) pa_nil)))
      (pss_cons (ps_if (pt_val (pe_callB call_isi rfl G.b_isinstance (by decide +kernel) (pa_cons (pv 5) (pa_cons (pe_bltn (v := .ty "int") rfl G.b_int (by decide +kernel) rfl) pa_nil)))) (pss_one (ps_ret (pe_tupN (pa_cons pe_str (pa_cons (pe_op op_addU (pv 3) pe_int) (pa_cons (pv 5) pa_nil)))))) pss_nil)
      (pss_cons (ps_if (pt_val (pv 4)) (pss_one (ps_ret (pe_tupN (pa_cons pe_str (pa_cons (pe_op op_addU (pv 3) pe_int) (pa_cons (pe_op op_addU (pe_callB call_lenU rfl G.b_len PySem.boot_len (pa_cons (pe_ix ix_seq (pv 1) (pv 3) (fun _ _ => rfl)) pa_nil)) pe_int) pa_nil)))))) pss_nil)
      (pss_one (ps_expr (pe_bm PySem.F.plainAttrs_list PySem.F.slot_list_append PySem.F.type_list_append mt_append (pv 2) (pa_cons (pv 5) pa_nil))))))))))
      (pss_one (ps_ret (pe_tupN (pa_cons pe_str (pa_cons (pv 2) pa_nil))))))))
abbrev S_law_bent_text : Stmt := top 54
theorem sc_law_bent_text : FnScope ["_law_draws_here", "_law_text_here", "_law_at", "_law_chars_here", "_law_one", "_law_kind"] ["_law_draws_here", "_law_text_here"] (defScope S_law_bent_text) := ⟨rfl, rfl, rfl, by decide +kernel, rfl, by decide +kernel, by decide +kernel⟩
abbrev t_law_bent_text_9 (K : PySem.W.Frag) (C : Cs) : TS :=
  (tRet (tOp (rAddU K) (tVar 1) (tVar 4)))
abbrev t_law_bent_text_8 (K : PySem.W.Frag) (C : Cs) : TS :=
  (tSeq (tIfS (tTest (tOp rEq (tVar 5) (tC (.int 2)))) (tRet (tOp (rAddU K) (tOp (rAddU K) (tSl (rSlU K) (tVar 1) tNoPart (tPart (tVar 2))) (tVar 4)) (tSl (rSlU K) (tVar 1) (tPart (tOp (rAddU K) (tVar 2) (tC (.int 1)))) tNoPart))) tNext)
      (t_law_bent_text_9 K C))
abbrev t_law_bent_text_7 (K : PySem.W.Frag) (C : Cs) : TS :=
  (tSeq (tIfS (tTest (tOp rEq (tVar 5) (tC (.int 1)))) (tRet (tOp (rAddU K) (tSl (rSlU K) (tVar 1) tNoPart (tPart (tVar 2))) (tSl (rSlU K) (tVar 1) (tPart (tOp (rAddU K) (tVar 2) (tC (.int 1)))) tNoPart))) tNext)
      (t_law_bent_text_8 K C))
abbrev t_law_bent_text_6 (K : PySem.W.Frag) (C : Cs) : TS :=
  (tSeq (tIfS (tTest (tOp rEq (tVar 5) (tC (.int 0)))) (tRet (tOp (rAddU K) (tOp (rAddU K) (tSl (rSlU K) (tVar 1) tNoPart (tPart (tVar 2))) (tVar 4)) (tSl (rSlU K) (tVar 1) (tPart (tVar 2)) tNoPart))) tNext)
      (t_law_bent_text_7 K C))
abbrev t_law_bent_text_5 (K : PySem.W.Frag) (C : Cs) : TS :=
  (tSeq (tAsg (tCall (sp_law_take K C) [] E0 (tCons (tVar 0) (tCons (tC (.int 4)) tNil))) (gName 5))
      (t_law_bent_text_6 K C))
abbrev t_law_bent_text_4 (K : PySem.W.Frag) (C : Cs) : TS :=
  (tSeq (tAsg (tOp (rIx K) (tVar 3) (tCall (sp_law_take K C) [] E0 (tCons (tVar 0) (tCons (tCB (rLenU K) (tCons (tVar 3) tNil)) tNil)))) (gName 4))
      (t_law_bent_text_5 K C))
abbrev t_law_bent_text_3 (K : PySem.W.Frag) (C : Cs) : TS :=
  (tSeq (tIfS (tTest (tOp rEq (tCall (sp_law_take K C) [] E0 (tCons (tVar 0) (tCons (tC (.int 4)) tNil))) (tC (.int 0)))) (tAsg (tCall (sp_law_chars K C) [] E0 tNil) (gName 3)) tNext)
      (t_law_bent_text_4 K C))
abbrev t_law_bent_text_2 (K : PySem.W.Frag) (C : Cs) : TS :=
  (tSeq (tAsg (tC (.str "\n\n  0019azA-")) (gName 3))
      (t_law_bent_text_3 K C))
def t_law_bent_text (K : PySem.W.Frag) (C : Cs) : TS :=
  (tSeq (tAsg (tCall (sp_law_take K C) [] E0 (tCons (tVar 0) (tCons (tOp (rAddU K) (tCB (rLenU K) (tCons (tVar 1) tNil)) (tC (.int 1))) tNil))) (gName 2))
      (t_law_bent_text_2 K C))
theorem i_law_bent_text (x0 x1 : V) : L2.start ["_law_draws_here", "_law_text_here", "_law_at", "_law_chars_here", "_law_one", "_law_kind"] [x0, x1] = [some x0, some x1, none, none, none, none] := rfl
abbrev Pf_law_bent_text (K : PySem.W.Frag) (C : Cs) : Prop := ∀ (vs : List V) (H : Hp) (Q : VK) (E : XK), (sp_law_bent_text K C) vs H Q E → t_law_bent_text K C ⟨fun _ H' => Q .non H', Q, fun _ _ => False, fun _ _ => False⟩ (L2.start ["_law_draws_here", "_law_text_here", "_law_at", "_law_chars_here", "_law_one", "_law_kind"] vs) H
theorem d_law_bent_text {f : Addr} {cdv : Value} {A : Around} {outer : List Env} {s : Shared} {H : Hp} {E : XK} {n : Nat} (G : Glob w K mg C) (c_law_take : Cal P w K mg base 2 "_law_take" (sp_law_take K C)) (c_law_chars : Cal P w K mg base 1 "_law_chars" (sp_law_chars K C)) (hr : Room 2 (A.deeper (envOfC "_law_bent_text" (defScope S_law_bent_text) s.heap.objs.size f cdv))) :
    PSs ((cxOf CX0 P w K mg base ["_law_draws_here", "_law_text_here", "_law_at", "_law_chars_here", "_law_one", "_law_kind"] "_law_bent_text" (defScope S_law_bent_text) f cdv A outer s H E).nox) (defBody S_law_bent_text) (t_law_bent_text K C) := by
  unfold t_law_bent_text
  exact (pss_cons (ps_set (i := 2) sc_law_bent_text.nd rfl (Or.inl rfl) (pe_c c_law_take hr (by decide) rfl (pa_cons (pv 0) (pa_cons (pe_op op_addU (pe_callB call_lenU rfl G.b_len PySem.boot_len (pa_cons (pv 1) pa_nil)) pe_int) pa_nil))))
      (pss_cons (ps_set (i := 3) sc_law_bent_text.nd rfl (Or.inl rfl) pe_str)
      (pss_cons (ps_if (pt_cmpR op_eq (pe_c c_law_take hr (by decide) rfl (pa_cons (pv 0) (pa_cons pe_int pa_nil))) pe_int (nomark _)) (pss_one (ps_set (i := 3) sc_law_bent_text.nd rfl (Or.inl rfl) (pe_c0 c_law_chars hr (by decide) rfl))) pss_nil)
      (pss_cons (ps_set (i := 4) sc_law_bent_text.nd rfl (Or.inl rfl) (pe_ix ix_seq (pv 3) (pe_c c_law_take hr (by decide) rfl (pa_cons (pv 0) (pa_cons (pe_callB call_lenU rfl G.b_len PySem.boot_len (pa_cons (pv 3) pa_nil)) pa_nil))) (fun _ _ => rfl)))
      (pss_cons (ps_set (i := 5) sc_law_bent_text.nd rfl (Or.inl rfl) (pe_c c_law_take hr (by decide) rfl (pa_cons (pv 0) (pa_cons pe_int pa_nil))))
      (pss_cons (ps_if (pt_cmpR op_eq (pv 5) pe_int (nomark _)) (pss_one (ps_ret (pe_op op_addU (pe_op op_addU (pe_slice sl_U (pv 1) po_none (po_some (pv 2))) (pv 4)) (pe_slice sl_U (pv 1) (po_some (pv 2)) po_none)))) pss_nil)
      (pss_cons (ps_if (pt_cmpR op_eq (pv 5) pe_int (nomark _)) (pss_one (ps_ret (pe_op op_addU (pe_slice sl_U (pv 1) po_none (po_some (pv 2))) (pe_slice sl_U (pv 1) (po_some (pe_op op_addU (pv 2) pe_int)) po_none)))) pss_nil)
      (pss_cons (ps_if (pt_cmpR op_eq (pv 5) pe_int (nomark _)) (pss_one (ps_ret (pe_op op_addU (pe_op op_addU (pe_slice sl_U (pv 1) po_none (po_some (pv 2))) (pv 4)) (pe_slice sl_U (pv 1) (po_some (pe_op op_addU (pv 2) pe_int)) po_none)))) pss_nil)
      (pss_one (ps_ret (pe_op op_addU (pv 1) (pv 4))))))))))))
abbrev S_law_parse_told : Stmt := top 55
theorem sc_law_parse_told : FnScope ["_law_text_here", "e"] ["_law_text_here"] (defScope S_law_parse_told) := ⟨rfl, rfl, rfl, by decide +kernel, rfl, by decide +kernel, by decide +kernel⟩
def t_law_parse_told (K : PySem.W.Frag) (C : Cs) : TS :=
  (tTry1 K (.ref C.cBadLine) 1 (fun W => (tRet (tTupN (tCons (tC (.str "parsed")) (tCons (tCallS (sp_parse_requests K C) (WE W) (tCons (tVar 0) tNil)) tNil))))) (fun a cls d => (tSeq (tIfS (tOr (tNot (tB (tCB (rIsX K C.cBadLine a cls d) (tCons (tVar 1) (tCons (tC (.ref C.cStoreError)) tNil))))) (tNot (tB (tCB (rIsX K C.cBadLine a cls d) (tCons (tVar 1) (tCons (tC (.ty "ValueError")) tNil)))))) (tRet (tTupN (tCons (tC (.str "other")) tNil))) tNext)
      (tSeq (tIfS (tB (tCB (rIsXT K C.cBadLine a cls d) (tCons (tVar 1) (tCons (tTupN (tCons (tC (.ref C.cBadValue)) (tCons (tC (.ref C.cBroken)) (tCons (tC (.ref C.cUnknown)) (tCons (tC (.ref C.cNotHeld)) (tCons (tC (.ref C.cFault)) (tCons (tC (.ref C.cNoRoom)) (tCons (tC (.ref C.cCut)) tNil)))))))) tNil)))) (tRet (tTupN (tCons (tC (.str "other")) tNil))) tNext)
      (tSeq (tIfS (tNot (tB (tCall (sp_law_sameH K C 6) [] E0 (tCons (tXf a cls d C.cBadLine "told" (tVar 1)) (tCons (tTupN (tCons (tC (.str "BadLine")) (tCons (tTupN (tCons (tXf a cls d C.cBadLine "line" (tVar 1)) (tCons (tXf a cls d C.cBadLine "column" (tVar 1)) tNil))) tNil))) tNil))))) (tRet (tTupN (tCons (tC (.str "other")) tNil))) tNext)
      (tRet (tTupN (tCons (tC (.str "refused")) (tCons (tXf a cls d C.cBadLine "line" (tVar 1)) (tCons (tXf a cls d C.cBadLine "column" (tVar 1)) tNil))))))))))
theorem i_law_parse_told (x0 : V) : L2.start ["_law_text_here", "e"] [x0] = [some x0, none] := rfl
abbrev Pf_law_parse_told (K : PySem.W.Frag) (C : Cs) : Prop := ∀ (vs : List V) (H : Hp) (Q : VK) (E : XK), (sp_law_parse_told K C) vs H Q E → t_law_parse_told K C ⟨fun _ H' => Q .non H', Q, fun _ _ => False, fun _ _ => False⟩ (L2.start ["_law_text_here", "e"] vs) H
theorem d_law_parse_told {f : Addr} {cdv : Value} {A : Around} {outer : List Env} {s : Shared} {H : Hp} {E : XK} {n : Nat} (G : Glob w K mg C) (c_parse_requests : CalX P w K mg base 6 "parse_requests" (sp_parse_requests K C)) (ch_law_same : CalH P w K mg base 8 "_law_same" (sp_law_sameH K C 6)) (hr : Room 8 (A.deeper (envOfC "_law_parse_told" (defScope S_law_parse_told) s.heap.objs.size f cdv))) :
    PSs ((cxOf CX0 P w K mg base ["_law_text_here", "e"] "_law_parse_told" (defScope S_law_parse_told) f cdv A outer s H E).nox) (defBody S_law_parse_told) (t_law_parse_told K C) := by
  unfold t_law_parse_told
  exact (pss_one (ps_try_as1N (i := 1) (tb := fun W => (tRet (tTupN (tCons (tC (.str "parsed")) (tCons (tCallS (sp_parse_requests K C) (WE W) (tCons (tVar 0) tNil)) tNil))))) (ts := fun a cls d => (tSeq (tIfS (tOr (tNot (tB (tCB (rIsX K C.cBadLine a cls d) (tCons (tVar 1) (tCons (tC (.ref C.cStoreError)) tNil))))) (tNot (tB (tCB (rIsX K C.cBadLine a cls d) (tCons (tVar 1) (tCons (tC (.ty "ValueError")) tNil)))))) (tRet (tTupN (tCons (tC (.str "other")) tNil))) tNext)
      (tSeq (tIfS (tB (tCB (rIsXT K C.cBadLine a cls d) (tCons (tVar 1) (tCons (tTupN (tCons (tC (.ref C.cBadValue)) (tCons (tC (.ref C.cBroken)) (tCons (tC (.ref C.cUnknown)) (tCons (tC (.ref C.cNotHeld)) (tCons (tC (.ref C.cFault)) (tCons (tC (.ref C.cNoRoom)) (tCons (tC (.ref C.cCut)) tNil)))))))) tNil)))) (tRet (tTupN (tCons (tC (.str "other")) tNil))) tNext)
      (tSeq (tIfS (tNot (tB (tCall (sp_law_sameH K C 6) [] E0 (tCons (tXf a cls d C.cBadLine "told" (tVar 1)) (tCons (tTupN (tCons (tC (.str "BadLine")) (tCons (tTupN (tCons (tXf a cls d C.cBadLine "line" (tVar 1)) (tCons (tXf a cls d C.cBadLine "column" (tVar 1)) tNil))) tNil))) tNil))))) (tRet (tTupN (tCons (tC (.str "other")) tNil))) tNext)
      (tRet (tTupN (tCons (tC (.str "refused")) (tCons (tXf a cls d C.cBadLine "line" (tVar 1)) (tCons (tXf a cls d C.cBadLine "column" (tVar 1)) tNil))))))))) rfl rfl sc_law_parse_told.nd rfl rfl ⟨rfl, by decide, Or.inl G.mBadLine⟩ (fun W pn xe tk _ => (pss_one (ps_ret (pe_tupN (pa_cons pe_str (pa_cons (pe_cW c_parse_requests tk hr (by decide) rfl (pa_cons (pv 0) pa_nil)) pa_nil)))))) (fun a oe cls d pn hz hf => (pss_cons (ps_if (PW.pt (pw_or (pt_not (pt_val (pe_callB (call_isX G.fBadLine hz.zc hf) rfl G.b_isinstance (by decide +kernel) (pa_cons (pv 1) (pa_cons (pe_glob (v := .ref C.cStoreError) (by rfl) G.mStoreError rfl) pa_nil))))) (pw_or1 (pt_not (pt_val (pe_callB (call_isX G.fBadLine hz.zc hf) rfl G.b_isinstance (by decide +kernel) (pa_cons (pv 1) (pa_cons (pe_bltn (v := .ty "ValueError") rfl G.b_ValueError (by decide +kernel) rfl) pa_nil)))))))) (pss_one (ps_ret (pe_tupN (pa_cons pe_str pa_nil)))) pss_nil)
      (pss_cons (ps_if (pt_val (pe_callB (call_isXT G.fBadLine hz.zc hf) rfl G.b_isinstance (by decide +kernel) (pa_cons (pv 1) (pa_cons (pe_tupN (pa_cons (pe_glob (v := .ref C.cBadValue) (by rfl) G.mBadValue rfl) (pa_cons (pe_glob (v := .ref C.cBroken) (by rfl) G.mBroken rfl) (pa_cons (pe_glob (v := .ref C.cUnknown) (by rfl) G.mUnknown rfl) (pa_cons (pe_glob (v := .ref C.cNotHeld) (by rfl) G.mNotHeld rfl) (pa_cons (pe_glob (v := .ref C.cFault) (by rfl) G.mFault rfl) (pa_cons (pe_glob (v := .ref C.cNoRoom) (by rfl) G.mNoRoom rfl) (pa_cons (pe_glob (v := .ref C.cCut) (by rfl) G.mCut rfl) pa_nil)))))))) pa_nil)))) (pss_one (ps_ret (pe_tupN (pa_cons pe_str pa_nil)))) pss_nil)
      (pss_cons (ps_if (pt_not (pt_val (pe_cH ch_law_same (L2H.roomH_mark hr _) (by decide) (hotc_suite hz hf) rfl (pa_cons (pe_xf G.xfBadLine G.nBadLine_told hz.zc hf (pv 1)) (pa_cons (pe_tupN (pa_cons pe_str (pa_cons (pe_tupN (pa_cons (pe_xf G.xfBadLine G.nBadLine_line hz.zc hf (pv 1)) (pa_cons (pe_xf G.xfBadLine G.nBadLine_column hz.zc hf (pv 1)) pa_nil))) pa_nil))) pa_nil))))) (pss_one (ps_ret (pe_tupN (pa_cons pe_str pa_nil)))) pss_nil)
      (pss_one (ps_ret (pe_tupN (pa_cons pe_str (pa_cons (pe_xf G.xfBadLine G.nBadLine_line hz.zc hf (pv 1)) (pa_cons (pe_xf G.xfBadLine G.nBadLine_column hz.zc hf (pv 1)) pa_nil))))))))))))
abbrev S_law_refuses_value : Stmt := top 56
theorem sc_law_refuses_value : FnScope ["_law_value", "e"] ["_law_value"] (defScope S_law_refuses_value) := ⟨rfl, rfl, rfl, by decide +kernel, rfl, by decide +kernel, by decide +kernel⟩
abbrev t_law_refuses_value_2 (K : PySem.W.Frag) (C : Cs) : TS :=
  (tRet (tC (.bl false)))
def t_law_refuses_value (K : PySem.W.Frag) (C : Cs) : TS :=
  (tSeq (tTry1 K (.ref C.cBadValue) 1 (fun W => (tDrop (tCallS (sp_parse_requests K C) (WE W) (tCons (tVar 0) tNil)))) (fun a cls d => (tRet (tAndV (tCall (sp_law_sameH K C 6) [] E0 (tCons (tLstN (tCons (tXf a cls d C.cBadValue "told" (tVar 1)) (tCons (tXf a cls d C.cBadValue "parameter" (tVar 1)) tNil))) (tCons (tLstN (tCons (tTupN (tCons (tC (.str "BadValue")) (tCons (tTupN (tCons (tC (.str "text")) tNil)) tNil))) (tCons (tC (.str "text")) tNil))) tNil))) (tCB (rIsX K C.cBadValue a cls d) (tCons (tVar 1) (tCons (tC (.ref C.cStoreError)) tNil)))))))
      (t_law_refuses_value_2 K C))
theorem i_law_refuses_value (x0 : V) : L2.start ["_law_value", "e"] [x0] = [some x0, none] := rfl
abbrev Pf_law_refuses_value (K : PySem.W.Frag) (C : Cs) : Prop := ∀ (vs : List V) (H : Hp) (Q : VK) (E : XK), (sp_law_refuses_value K C) vs H Q E → t_law_refuses_value K C ⟨fun _ H' => Q .non H', Q, fun _ _ => False, fun _ _ => False⟩ (L2.start ["_law_value", "e"] vs) H
theorem d_law_refuses_value {f : Addr} {cdv : Value} {A : Around} {outer : List Env} {s : Shared} {H : Hp} {E : XK} {n : Nat} (G : Glob w K mg C) (c_parse_requests : CalX P w K mg base 6 "parse_requests" (sp_parse_requests K C)) (ch_law_same : CalH P w K mg base 8 "_law_same" (sp_law_sameH K C 6)) (hr : Room 8 (A.deeper (envOfC "_law_refuses_value" (defScope S_law_refuses_value) s.heap.objs.size f cdv))) :
    PSs ((cxOf CX0 P w K mg base ["_law_value", "e"] "_law_refuses_value" (defScope S_law_refuses_value) f cdv A outer s H E).nox) (defBody S_law_refuses_value) (t_law_refuses_value K C) := by
  unfold t_law_refuses_value
  exact (pss_cons (ps_try_as1N (i := 1) (tb := fun W => (tDrop (tCallS (sp_parse_requests K C) (WE W) (tCons (tVar 0) tNil)))) (ts := fun a cls d => (tRet (tAndV (tCall (sp_law_sameH K C 6) [] E0 (tCons (tLstN (tCons (tXf a cls d C.cBadValue "told" (tVar 1)) (tCons (tXf a cls d C.cBadValue "parameter" (tVar 1)) tNil))) (tCons (tLstN (tCons (tTupN (tCons (tC (.str "BadValue")) (tCons (tTupN (tCons (tC (.str "text")) tNil)) tNil))) (tCons (tC (.str "text")) tNil))) tNil))) (tCB (rIsX K C.cBadValue a cls d) (tCons (tVar 1) (tCons (tC (.ref C.cStoreError)) tNil)))))) rfl rfl sc_law_refuses_value.nd rfl rfl ⟨rfl, by decide, Or.inl G.mBadValue⟩ (fun W pn xe tk _ => (pss_one (ps_expr (pe_cW c_parse_requests tk hr (by decide) rfl (pa_cons (pv 0) pa_nil))))) (fun a oe cls d pn hz hf => (pss_one (ps_ret (pe_and (pe_cH ch_law_same (L2H.roomH_mark hr _) (by decide) (hotc_suite hz hf) rfl (pa_cons (pe_lstN (pa_cons (pe_xf G.xfBadValue G.nBadValue_told hz.zc hf (pv 1)) (pa_cons (pe_xf G.xfBadValue G.nBadValue_parameter hz.zc hf (pv 1)) pa_nil))) (pa_cons (pe_lstN (pa_cons (pe_tupN (pa_cons pe_str (pa_cons (pe_tupN (pa_cons pe_str pa_nil)) pa_nil))) (pa_cons pe_str pa_nil))) pa_nil))) (pe_one (pe_callB (call_isX G.fBadValue hz.zc hf) rfl G.b_isinstance (by decide +kernel) (pa_cons (pv 1) (pa_cons (pe_glob (v := .ref C.cStoreError) (by rfl) G.mStoreError rfl) pa_nil)))))))))
      (pss_one (ps_ret pe_bl)))
abbrev S_law : Stmt := top 57
theorem sc_law : FnScope ["_law_script", "_law_draws_here", "_law_requests", "_law_text_here", "_law_line_here", "_law_column", "_law_good", "_law_told", "_law_tried", "_law_k", "_law_one"] ["_law_script"] (defScope S_law) := ⟨rfl, rfl, rfl, by decide +kernel, rfl, by decide +kernel, by decide +kernel⟩
abbrev t_law_14 (K : PySem.W.Frag) (C : Cs) : TS :=
  (tRet (tC (.bl true)))
abbrev t_law_13 (K : PySem.W.Frag) (C : Cs) : TS :=
  (tSeq (tFor (iList K (tVar 8)) (gName 10) (tIfS (tNot (tB (tCall (sp_law_same K C 6) [] E0 (tCons (tCall (sp_law_parse_told K C) [] E0 (tCons (tVar 10) tNil)) (tCons (tCall (sp_law_text_read K C) [] E0 (tCons (tVar 10) tNil)) tNil))))) (tRet (tC (.bl false))) tNext))
      (t_law_14 K C))
abbrev t_law_12 (K : PySem.W.Frag) (C : Cs) : TS :=
  (tSeq (tFor (iRng1 (tCons (tC (.int 6)) tNil)) (gName 9) (tDrop (tBM K "list" rAppend (tVar 8) (tCons (tCall (sp_law_bent_text K C) [] E0 (tCons (tVar 1) (tCons (tVar 6) tNil))) tNil))))
      (t_law_13 K C))
abbrev t_law_11 (K : PySem.W.Frag) (C : Cs) : TS :=
  (tSeq (tAsg (tLstN (tCons (tSl (rSlU K) (tVar 3) tNoPart (tPart (tUn (rU fun i => .int (-i)) (tC (.int 1))))) (tCons (tVar 6) (tCons (tOp (rAddU K) (tVar 6) (tC (.str "\n"))) (tCons (tCall (sp_law_text K C) [] E0 (tCons (tVar 1) (tCons (tC (.int 9)) tNil))) tNil))))) (gName 8))
      (t_law_12 K C))
abbrev t_law_10 (K : PySem.W.Frag) (C : Cs) : TS :=
  (tSeq (tIfS (tNot (tB (tCall (sp_law_same K C 6) [] E0 (tCons (tCall (sp_law_parse_told K C) [] E0 (tCons (tVar 3) tNil)) (tCons (tTupN (tCons (tC (.str "refused")) (tCons (tVar 4) (tCons (tVar 5) tNil)))) tNil))))) (tRet (tC (.bl false))) tNext)
      (t_law_11 K C))
abbrev t_law_9 (K : PySem.W.Frag) (C : Cs) : TS :=
  (tSeq (tIfS (tOr (tNot (tB (tCall (sp_law_same K C 6) [] E0 (tCons (tCall (sp_parse_requests K C) [] E0 (tCons (tVar 6) tNil)) (tCons (tVar 2) tNil))))) (tNot (tB (tCall (sp_law_refuses_value K C) [] E0 (tCons (tCall (sp_law_not_text K C) [] E0 (tCons (tVar 1) tNil)) tNil))))) (tRet (tC (.bl false))) tNext)
      (t_law_10 K C))
abbrev t_law_8 (K : PySem.W.Frag) (C : Cs) : TS :=
  (tSeq (tDrop (tBM K "list" rAppend (tVar 7) (tCons (tTupN (tCons (tC (.str "tick")) tNil)) tNil)))
      (t_law_9 K C))
abbrev t_law_7 (K : PySem.W.Frag) (C : Cs) : TS :=
  (tSeq (tIfS (tNot (tB (tCall (sp_law_same K C 6) [] E0 (tCons (tVar 7) (tCons (tVar 2) tNil))))) (tRet (tC (.bl false))) tNext)
      (t_law_8 K C))
abbrev t_law_6 (K : PySem.W.Frag) (C : Cs) : TS :=
  (tSeq (tAsg (tCall (sp_parse_requests K C) [] E0 (tCons (tVar 6) tNil)) (gName 7))
      (t_law_7 K C))
abbrev t_law_5 (K : PySem.W.Frag) (C : Cs) : TS :=
  (tSeq (tIfS (tNot (tB (tCall (sp_law_same K C 6) [] E0 (tCons (tCall (sp_law_parse_told K C) [] E0 (tCons (tVar 3) tNil)) (tCons (tTupN (tCons (tC (.str "refused")) (tCons (tVar 4) (tCons (tVar 5) tNil)))) tNil))))) (tRet (tC (.bl false))) tNext)
      (t_law_6 K C))
abbrev t_law_4 (K : PySem.W.Frag) (C : Cs) : TS :=
  (tSeq (tAsg (tJoinU K (tC (.str "")) (tLcN (iList K (tVar 2)) (gName 10) (tOp (rAddU K) (tCall (sp_law_line K C) [] E0 (tCons (tVar 10) (tCons (tOp rEq (tCall (sp_law_take K C) [] E0 (tCons (tVar 1) (tCons (tC (.int 2)) tNil))) (tC (.int 0))) tNil))) (tC (.str "\n"))) [10])) (gName 6))
      (t_law_5 K C))
abbrev t_law_3 (K : PySem.W.Frag) (C : Cs) : TS :=
  (tSeq (tAsg (tCall (sp_law_bad_text K C) [] E0 (tCons (tVar 1) (tCons (tVar 2) tNil))) (gTup K 3 (gCons (gName 3) (gCons (gName 4) (gCons (gName 5) gNil)))))
      (t_law_4 K C))
abbrev t_law_2 (K : PySem.W.Frag) (C : Cs) : TS :=
  (tSeq (tAsg (tLcN (iRng1 (tCons (tCall (sp_law_count K C) [] E0 (tCons (tVar 1) (tCons (tC (.int 4)) (tCons (tC (.int 40)) tNil)))) tNil)) (gName 9) (tCall (sp_law_request K C) [] E0 (tCons (tVar 1) tNil)) [9]) (gName 2))
      (t_law_3 K C))
def t_law (K : PySem.W.Frag) (C : Cs) : TS :=
  (tSeq (tAsg (tCall (sp_law_draws K C) [] E0 (tCons (tVar 0) tNil)) (gName 1))
      (t_law_2 K C))
theorem i_law (x0 : V) : L2.start ["_law_script", "_law_draws_here", "_law_requests", "_law_text_here", "_law_line_here", "_law_column", "_law_good", "_law_told", "_law_tried", "_law_k", "_law_one"] [x0] = [some x0, none, none, none, none, none, none, none, none, none, none] := rfl
abbrev Pf_law (K : PySem.W.Frag) (C : Cs) : Prop := ∀ (vs : List V) (H : Hp) (Q : VK) (E : XK), (sp_law K C) vs H Q E → t_law K C ⟨fun _ H' => Q .non H', Q, fun _ _ => False, fun _ _ => False⟩ (L2.start ["_law_script", "_law_draws_here", "_law_requests", "_law_text_here", "_law_line_here", "_law_column", "_law_good", "_law_told", "_law_tried", "_law_k", "_law_one"] vs) H
theorem d_law {f : Addr} {cdv : Value} {A : Around} {outer : List Env} {s : Shared} {H : Hp} {E : XK} {n : Nat} (G : Glob w K mg C) (c_law_draws : Cal P w K mg base 1 "_law_draws" (sp_law_draws K C)) (c_law_count : Cal P w K mg base 4 "_law_count" (sp_law_count K C)) (c_law_request : Cal P w K mg base 6 "_law_request" (sp_law_request K C)) (c_law_bad_text : Cal P w K mg base 7 "_law_bad_text" (sp_law_bad_text K C)) (c_law_take : Cal P w K mg base 2 "_law_take" (sp_law_take K C)) (c_law_line : Cal P w K mg base 1 "_law_line" (sp_law_line K C)) (c_law_parse_told : Cal P w K mg base 9 "_law_parse_told" (sp_law_parse_told K C)) (c_law_same : Cal P w K mg base 8 "_law_same" (sp_law_same K C 6)) (c_parse_requests : CalX P w K mg base 6 "parse_requests" (sp_parse_requests K C)) (c_law_not_text : Cal P w K mg base 3 "_law_not_text" (sp_law_not_text K C)) (c_law_refuses_value : Cal P w K mg base 9 "_law_refuses_value" (sp_law_refuses_value K C)) (c_law_text : Cal P w K mg base 4 "_law_text" (sp_law_text K C)) (c_law_bent_text : Cal P w K mg base 3 "_law_bent_text" (sp_law_bent_text K C)) (c_law_text_read : Cal P w K mg base 4 "_law_text_read" (sp_law_text_read K C)) (hr : Room 9 (A.deeper (envOfC "law" (defScope S_law) s.heap.objs.size f cdv))) :
    PSs ((cxOf CX0 P w K mg base ["_law_script", "_law_draws_here", "_law_requests", "_law_text_here", "_law_line_here", "_law_column", "_law_good", "_law_told", "_law_tried", "_law_k", "_law_one"] "law" (defScope S_law) f cdv A outer s H E).nox) (defBody S_law) (t_law K C) := by
  unfold t_law
  exact (pss_cons (ps_set (i := 1) sc_law.nd rfl (Or.inr rfl) (pe_c c_law_draws hr (by decide) rfl (pa_cons (pv 0) pa_nil)))
      (pss_cons (ps_setLcN (i := 2) (own := [("_law_k", 9)]) (g := (gName 9)) rfl sc_law.nd rfl rfl (sw_true rfl rfl rfl (by decide +kernel)) (pi_range1 rfl G.b_range (pa_cons (pe_c c_law_count hr (by decide) rfl (pa_cons (pv 1) (pa_cons pe_int (pa_cons pe_int pa_nil)))) pa_nil)) (blkOk_by (own := [("_law_k", 9)]) (N := ["_law_script", "_law_draws_here", "_law_requests", "_law_text_here", "_law_line_here", "_law_column", "_law_good", "_law_told", "_law_tried", "_law_k", "_law_one"]) (sc := defScope S_law) (by decide +kernel)) (fun _ _ _ _ _ => (pg_name (i := 9) sc_law.nd rfl (Or.inl rfl))) (fun _ _ _ _ _ => (pe_c c_law_request hr (by decide) rfl (pa_cons (pv 1) pa_nil))))
      (pss_cons (ps_asg (pe_c c_law_bad_text hr (by decide) rfl (pa_cons (pv 1) (pa_cons (pv 2) pa_nil))) (pg_tup rfl (pgs_cons (pg_name (i := 3) sc_law.nd rfl (Or.inl rfl)) (pgs_cons (pg_name (i := 4) sc_law.nd rfl (Or.inl rfl)) (pgs_cons (pg_name (i := 5) sc_law.nd rfl (Or.inl rfl)) pgs_nil)))))
      (pss_cons (ps_set (i := 6) sc_law.nd rfl (Or.inl rfl) (pe_join pe_str (pe_lcN (own := [("_law_one", 10)]) (g := (gName 10)) rfl sc_law.nd (pi_list (pv 2)) (blkOk_by (own := [("_law_one", 10)]) (N := ["_law_script", "_law_draws_here", "_law_requests", "_law_text_here", "_law_line_here", "_law_column", "_law_good", "_law_told", "_law_tried", "_law_k", "_law_one"]) (sc := defScope S_law) (by decide +kernel)) (fun _ _ _ _ _ => (pg_name (i := 10) sc_law.nd rfl (Or.inl rfl))) (fun _ _ _ _ _ => (pe_op op_addU (pe_c c_law_line hr (by decide) rfl (pa_cons (pv 10) (pa_cons (pe_cmpR op_eq (pe_c c_law_take hr (by decide) rfl (pa_cons (pv 1) (pa_cons pe_int pa_nil))) pe_int (nomark _)) pa_nil))) pe_str)))))
      (pss_cons (ps_if (pt_not (pt_val (pe_c c_law_same hr (by decide) rfl (pa_cons (pe_c c_law_parse_told hr (by decide) rfl (pa_cons (pv 3) pa_nil)) (pa_cons (pe_tupN (pa_cons pe_str (pa_cons (pv 4) (pa_cons (pv 5) pa_nil)))) pa_nil))))) (pss_one (ps_ret pe_bl)) pss_nil)
      (pss_cons (ps_set (i := 7) sc_law.nd rfl (Or.inl rfl) (pe_cX c_parse_requests hr (by decide) rfl (pa_cons (pv 6) pa_nil)))
      (pss_cons (ps_if (pt_not (pt_val (pe_c c_law_same hr (by decide) rfl (pa_cons (pv 7) (pa_cons (pv 2) pa_nil))))) (pss_one (ps_ret pe_bl)) pss_nil)
      (pss_cons (ps_expr (pe_bm PySem.F.plainAttrs_list PySem.F.slot_list_append PySem.F.type_list_append mt_append (pv 7) (pa_cons (pe_tupN (pa_cons pe_str pa_nil)) pa_nil)))
      (pss_cons (ps_if (PW.pt (pw_or (pt_not (pt_val (pe_c c_law_same hr (by decide) rfl (pa_cons (pe_cX c_parse_requests hr (by decide) rfl (pa_cons (pv 6) pa_nil)) (pa_cons (pv 2) pa_nil))))) (pw_or1 (pt_not (pt_val (pe_c c_law_refuses_value hr (by decide) rfl (pa_cons (pe_c c_law_not_text hr (by decide) rfl (pa_cons (pv 1) pa_nil)) pa_nil))))))) (pss_one (ps_ret pe_bl)) pss_nil)
      (pss_cons (ps_if (pt_not (pt_val (pe_c c_law_same hr (by decide) rfl (pa_cons (pe_c c_law_parse_told hr (by decide) rfl (pa_cons (pv 3) pa_nil)) (pa_cons (pe_tupN (pa_cons pe_str (pa_cons (pv 4) (pa_cons (pv 5) pa_nil)))) pa_nil))))) (pss_one (ps_ret pe_bl)) pss_nil)
      (pss_cons (ps_set (i := 8) sc_law.nd rfl (Or.inl rfl) (pe_lstN (pa_cons (pe_slice sl_U (pv 3) po_none (po_some (pe_un un_neg pe_int))) (pa_cons (pv 6) (pa_cons (pe_op op_addU (pv 6) pe_str) (pa_cons (pe_c c_law_text hr (by decide) rfl (pa_cons (pv 1) (pa_cons pe_int pa_nil))) pa_nil))))))
      (pss_cons (ps_for PassesOwn.never rfl (pi_range1 rfl G.b_range (pa_cons pe_int pa_nil)) (pg_name (i := 9) sc_law.nd rfl (Or.inl rfl)) (pss_one (ps_expr (pe_bm PySem.F.plainAttrs_list PySem.F.slot_list_append PySem.F.type_list_append mt_append (pv 8) (pa_cons (pe_c c_law_bent_text hr (by decide) rfl (pa_cons (pv 1) (pa_cons (pv 6) pa_nil))) pa_nil)))))
      (pss_cons (ps_for PassesOwn.never rfl (pi_list (pv 8)) (pg_name (i := 10) sc_law.nd rfl (Or.inl rfl)) (pss_one (ps_if (pt_not (pt_val (pe_c c_law_same hr (by decide) rfl (pa_cons (pe_c c_law_parse_told hr (by decide) rfl (pa_cons (pv 10) pa_nil)) (pa_cons (pe_c c_law_text_read hr (by decide) rfl (pa_cons (pv 10) pa_nil)) pa_nil))))) (pss_one (ps_ret pe_bl)) pss_nil)))
      (pss_one (ps_ret pe_bl)))))))))))))))
end
end AG
namespace AG
open PySem PySem.Spec L2
local macro_rules | `(tactic| o_readsAll) => `(tactic| first | assumption | (show _ ≤ sizeLine; decide) | (refine sz_of ?_; (try simp only [List.length_cons, List.length_nil, List.length_append, List.length_map]); omega) | (refine sz_lt ?_; (try simp only [List.length_cons, List.length_nil, List.length_append, List.length_map]); omega))
local macro_rules | `(tactic| k_subL) => `(tactic| first
  | assumption
  | exact upd_same
  | (refine (upd_ne (by first | assumption | exact Ne.symm (by assumption))).trans ?_; k_subL)
  | (apply SqT.of; k_subL)
  | (refine AG.Same.app (by assumption) ?_; k_subL)
  | (apply AG.Same.sqT; assumption; k_subL)
  | (refine AG.Same.dr (by assumption) ?_; k_subL)
  | (apply AG.Same.rep; assumption; k_subL)
  | (apply AG.Same.reps; assumption; k_subL))
local macro_rules | `(tactic| o_fieldsN) => `(tactic| first | exact atI_nat (j := 0) rfl | exact atI_nat (j := 1) rfl | exact atI_nat (j := 2) rfl | exact atI_nat (j := 3) rfl | exact atI_nat (j := 4) rfl | assumption)
local macro_rules | `(tactic| tb_rel) => `(tactic| with_reducible first
  | refine s_asg ?_ | refine s_name (by first | (simp only [List.set_cons_succ, List.set_cons_zero]; done) | (simp only [List.set_cons_succ, List.set_cons_zero]; exact rfl) | exact rfl) ?_ | refine s_ret ?_ | refine s_if ?_ | refine s_next ?_ | refine s_drop ?_ | refine s_retN ?_
  | refine s_var (by with_unfolding_all rfl) ?_ | refine s_c ?_ | refine s_op ?_ | refine s_cons ?_ | refine s_nil ?_ | refine s_call ?_ | refine s_cb ?_ | refine s_test ?_ | refine s_bl ?_
  | refine s_B ?_ | refine s_and ?_ | refine s_or ?_ | refine s_not ?_ | refine s_andV ?_ | refine s_orV ?_ | refine s_notV ?_ | refine s_ifE ?_ | refine s_chain ?_ | refine s_un ?_
  | refine s_tupN ?_ | refine s_lstN ?_ | refine s_sl ?_ | refine s_nopart ?_ | refine s_part ?_ | refine s_int ?_ | refine s_bm ?_ | refine s_bm0 ?_ | refine s_gnil ?_ | refine s_gcons ?_ | refine s_gsub ?_
  | refine s_brk ?_ | refine s_cont ?_ | refine s_isS ?_ | refine s_joinU ?_ | refine s_splitU ?_ | refine s_endsU ?_
  | refine s_lc_list ?_ | refine s_lc_tup ?_ | refine s_lc_str ?_ | refine s_lc_rng1 ?_ | refine s_lc_zip ?_ | refine s_lc_zipM ?_ | refine s_star ?_ | refine r_neg ?_ | refine s_for_list ?_ | refine s_for_tup ?_ | refine s_for_str ?_ | refine s_for_rng1 ?_ | refine s_for_enum ?_ | refine s_disp1 ?_ | refine s_disp0 ?_ | refine r_ktI ?_ | refine r_ktN ?_ | refine s_for_rng2 ?_
  | refine r_add_i ?_ | refine r_sub ?_ | refine r_lt_i ?_ | refine r_gt_i ?_ | refine r_le_i ?_ | refine r_ge_i ?_ | refine r_lt_s ?_ | refine r_gt_s ?_ | refine r_le_a ?_ | refine r_le_z ?_ | refine r_le_0 ?_ | refine r_le_9 ?_ | refine r_le_s ?_ | refine r_ge_s ?_
  | refine r_eq_i ?_ | refine r_eq_s ?_ | refine r_eq_b ?_ | refine r_ne_i ?_ | refine r_ne_s ?_ | refine r_ne_b ?_ | refine r_is_n ?_ | refine r_is_b ?_ | refine r_isn_n ?_ | refine r_isn_b ?_ | refine r_and ?_
  | refine r_int_i ?_ | refine r_int_b ?_ | refine r_str_s ?_ | refine r_ord ?_ | refine r_min ?_ | refine r_max ?_ | refine s_itT ?_ | refine s_itF ?_ | refine s_itnt ?_ | refine s_itnf ?_)
local macro_rules | `(tactic| tb_start) => `(tactic| first
  | ((with_reducible refine g_ix ?_); first | refine r_ix_l (by k_subL) (by o_fieldsN) ?_ | refine r_ix_t (by k_subL) (by o_fieldsN) ?_)
  | ((with_reducible refine g_len ?_); first | refine r_len_l (by k_subL) ?_ | refine r_len_t (by k_subL) ?_ | refine r_len_s (by o_readsAll) ?_ | refine r_len_d (by k_subL) ?_)
  | ((with_reducible refine g_mod ?_); refine r_mod (by first | decide | omega) ?_)
  | ((with_reducible refine g_mul ?_); refine r_mul_i (by first | exact Or.inr ⟨by decide, by decide⟩ | exact Or.inl ⟨by decide, by decide⟩ | exact Or.inl ⟨by omega, by omega⟩ | exact Or.inr ⟨by omega, by omega⟩) ?_)
  | ((with_reducible refine g_fdv ?_); refine r_fdv ⟨by decide, by decide⟩ ?_)
  | ((with_reducible refine g_pow ?_); refine r_pow ⟨by decide, by decide, by decide⟩ ?_)
  | ((with_reducible refine g_set ?_); first
    | (refine s_setL (j := 0) (by k_subL) (by rfl) ?_; simp only [List.set_cons_succ, List.set_cons_zero, upd_upd]) | (refine s_setL (j := 1) (by k_subL) (by rfl) ?_; simp only [List.set_cons_succ, List.set_cons_zero, upd_upd])
    | (refine s_setL (j := 2) (by k_subL) (by rfl) ?_; simp only [List.set_cons_succ, List.set_cons_zero, upd_upd]) | (refine s_setL (j := 3) (by k_subL) (by rfl) ?_; simp only [List.set_cons_succ, List.set_cons_zero, upd_upd])
    | (refine s_setL (j := 4) (by k_subL) (by rfl) ?_; simp only [List.set_cons_succ, List.set_cons_zero, upd_upd]))
  | ((with_reducible refine g_add ?_); refine r_add_s (by o_readsAll) ?_)
  | ((with_reducible refine g_new ?_); refine s_new (by o_readsAll) ?_; intro _ _ _ _ _)
  | ((with_reducible refine g_ty ?_); refine s_tyL (by k_subL) ?_) | ((with_reducible refine g_app ?_); refine r_app (by k_subL) (by o_readsAll) ?_)
  | ((with_reducible refine g_isi ?_); first | refine r_isi_int (by k_subL) ?_ | refine r_isi_bool (by k_subL) ?_ | refine r_isi_str (by k_subL) ?_ | refine r_isi_list (by k_subL) ?_ | refine r_isi_tuple (by k_subL) ?_ | refine r_isi_dict (by k_subL) ?_)
  | (intro _ _ _ _ _; tb_rel))
local macro_rules | `(tactic| kfm_turns) => `(tactic| repeat (first | with_reducible refine s_seq ?_ | tb_rel | tb_start))
local macro_rules | `(tactic| kln_le) => `(tactic| repeat (first | tb_rel | tb_start))
local macro_rules | `(tactic| ktu_offI) => `(tactic| with_reducible refine s_seq ?_)
local macro_rules | `(tactic| kpt_turns) => `(tactic| first
  | with_reducible refine s_itd (fun _ => ?_) (fun _ => ?_)
  | with_reducible refine s_itn (fun _ => ?_) (fun _ => ?_)
  | with_reducible refine s_itb (fun _ => ?_) (fun _ => ?_)
  | with_reducible refine s_itbn (fun _ => ?_) (fun _ => ?_))

local macro_rules | `(tactic| kcj_m) => `(tactic| first | exact L2.Same.refl _ | assumption | (refine L2.Same.trans ?_ (by assumption); kcj_m))
local macro_rules | `(tactic| keq_rows) => `(tactic| first
  | assumption | exact rep_non | exact rep_bl | exact rep_int | exact reps_nil | (refine rep_str ?_; decide +kernel) | (refine rep_str ?_; omega)
  | (refine reps_cons ?_ ?_ <;> keq_rows)
  | (refine rep_lst (by k_subL) (by (try simp only [List.length_cons, List.length_nil, List.length_append, List.length_map]); omega) ?_; keq_rows)
  | (refine rep_tup (by k_subL) (by (try simp only [List.length_cons, List.length_nil, List.length_append, List.length_map]); omega) ?_; keq_rows)
  | (refine rep_dct1 (by k_subL) ?_; keq_rows) | exact rep_dct0 (by k_subL)
  | (apply AG.Same.rep; assumption; keq_rows) | (apply AG.Same.reps; assumption; keq_rows))
local macro_rules | `(tactic| kqd_sub) => `(tactic| first | refine s_itT ?_ | refine s_itF ?_ | refine s_itnt ?_ | refine s_itnf ?_)

section
variable {K : PySem.W.Frag} {C : Cs}
theorem ne_ref {H : Hp} {a b : Addr} {o u : HO} (h : H a = some o) (h' : H b = some u) (d : o ≠ u) : a ≠ b := ne_of h h' d
theorem atI_int {α : Type} {xs : List α} {i : Int} {v : α} (h0 : 0 ≤ i) (h : xs[i.toNat]? = some v) : atI xs i = some v := by
  obtain ⟨j, rfl⟩ : ∃ j : Nat, i = (j : Int) := ⟨i.toNat, by omega⟩
  exact atI_nat (by simpa using h)
theorem atI_some {α : Type} {xs : List α} {i : Int} (h0 : 0 ≤ i) (h1 : i < xs.length) : ∃ v, atI xs i = some v ∧ v ∈ xs := by
  have hi : i.toNat < xs.length := by omega
  exact ⟨xs[i.toNat], atI_int h0 (List.getElem?_eq_getElem hi), List.getElem_mem hi⟩
theorem p_law_next_cell : Pf_law_next_cell K C := by
  rintro vs H Q E ⟨a, c, s, ns, i0, i1, i2, i3, i4, rfl, ha, hc, hs, h0, nas, ncs, q⟩
  unfold t_law_next_cell
  rw [i_law_next_cell]
  kfm_turns
  kpt_turns
  · rename_i hlt
    rw [List.length_map] at hlt
    have hi : i0.toNat < ns.length := by omega
    have hx : atI (ns.map V.int) i0 = some (.int ns[i0.toNat]) := atI_int h0 (by rw [List.getElem?_map, List.getElem?_eq_getElem hi]; rfl)
    kfm_turns
    kpt_turns
    · kfm_turns
      exact q _ _ _ _ _ (by omega)
    · kfm_turns
      exact q _ _ _ _ _ (by omega)
  · kfm_turns
    rw [← upd_id hs]
    exact q _ _ _ _ _ h0
theorem p_law_between : Pf_law_between K C := by
  rintro vs H Q E ⟨d, lo, hi, rfl, hd, hm, q⟩
  unfold t_law_between
  rw [i_law_between]
  kfm_turns
  kpt_turns
  · kfm_turns
    exact q _ _ (Same.refl _) (Int.le_refl _) (.inr rfl)
  kfm_turns
  refine ⟨_, _, rfl, hd, by decide, fun r H1 s1 h0 h1 => ?_⟩
  kfm_turns
  kpt_turns
  · kfm_turns
    exact q _ _ s1 (Int.le_refl _) (.inr rfl)
  kfm_turns
  kpt_turns
  · kfm_turns
    exact q _ _ s1 (by omega) (.inl (Int.le_refl _))
  kfm_turns
  refine ⟨_, _, rfl, (by k_subL), by omega, fun r2 H2 s2 h2 h3 => ?_⟩
  kfm_turns
  exact q _ _ (s1.trans s2) (by omega) (.inl (by omega))
theorem p_law_mixed : Pf_law_mixed K C := by
  rintro vs H Q E ⟨a, b, m, rfl, hm, q⟩
  unfold t_law_mixed
  rw [i_law_mixed]
  kfm_turns
  refine forB_rng1 (by decide) (by decide) (fun i σ H' => H' = H ∧ ∃ v x y z, σ = [some (.int a), some (.int b), some (.int m), some (.int v), x, y, z]) ⟨rfl, _, _, _, _, rfl⟩ ?_ ?_
  · rintro i σ H' hi ⟨rfl, v, x, y, z, rfl⟩
    kfm_turns
    exact ⟨rfl, _, _, _, _, rfl⟩
  · rintro σ H' ⟨rfl, v, x, y, z, rfl⟩
    kfm_turns
    exact q _ (Int.emod_nonneg _ (by omega)) (Int.emod_lt_of_pos _ (by omega))
theorem turns_ints {H : Hp} {n : Nat} {acc : List V} (t : Turns (fun _ y _ => ∃ z, y = .int z) H n acc) : ∃ ms : List Int, acc = ms.map V.int := by
  induction t with
  | nil => exact ⟨[], rfl⟩
  | snoc h r ih =>
    obtain ⟨ms, rfl⟩ := ih
    obtain ⟨z, rfl⟩ := r
    exact ⟨ms ++ [z], by simp⟩
theorem p_law_draws : Pf_law_draws K C := by
  rintro vs H Q E ⟨a, ns, rfl, hS, hl, q⟩
  unfold t_law_draws tClose
  rw [i_law_draws]
  kfm_turns
  refine lcB_list (K := K) hS (by rw [List.length_map]; omega) gst_name (fun i y _ => ∃ z, y = .int z) (fun _ _ _ _ _ h => h) ?_ ?_
  · intro i x H2 hx s Q2 q2
    rw [List.getElem?_map] at hx
    obtain ⟨n, hn⟩ : ∃ n, ns[i]? = some n := by
      cases e : ns[i]? with
      | none => rw [e] at hx; cases hx
      | some n => exact ⟨n, rfl⟩
    rw [hn] at hx
    obtain rfl : V.int n = x := Option.some.inj hx
    refine ⟨rfl, ?_⟩
    kfm_turns
    exact q2 _ _ (Same.refl _) ⟨_, rfl⟩
  · intro acc D H2 t hD s e
    kfm_turns
    rename_i s1 H3 hn3 s3 e3 d H4 hn4 s4 e4
    obtain ⟨ms, rfl⟩ := turns_ints t
    refine ⟨_, 0, 0, 0, 0, 11, by decide, by k_subL, ?_⟩
    have n3 : H _ = none := s.free hn3
    refine q _ _ (Same.mut ((s.trans s3).trans s4) n3) ⟨_, D, _, ms, rfl, ?_, ?_, upd_same⟩
    · rw [upd_ne (ne_of e4 (s4 _ _ e3) (by intro z; cases z))]
      exact e4
    · rw [upd_ne (ne_of_none e hn3)]
      k_subL
theorem stClo_of {s : Addr} {R : Hp → Prop} {H : Hp} {i0 i1 i2 i3 i4 : Int} {o : HO} (h0 : 0 ≤ i0) (hs : H s = some (stO s)) (e : o = .lst [.int i0, .int i1, .int i2, .int i3, .int i4]) (q : R H) : stClo s R (upd H s o) := by
  subst e
  exact ⟨_, _, _, _, _, h0, upd_same, by rw [upd_upd, upd_id hs]; exact q⟩
theorem p_law_take_5 {H : Hp} {Q : VK} {a c s : Addr} {m : Int} (ha : H a = some (.lst [.ref c, .ref s])) (hs : H s = some (stO s)) (hm : m ≤ 10 ^ 40) (h2 : 2 ≤ m) (nas : a ≠ s)
    (q : ∀ (r : Int), 0 ≤ r → r < m → Q (V.int r) H) {i0 i1 i2 i3 i4 : Int} (h0 : 0 ≤ i0) {nx bk ct : L2.St → Hp → Prop} : t_law_take_5 K C ⟨nx, fun v => stClo s (Q v), bk, ct⟩ [some (.ref a), some (.int m), some (.ref s), none] (upd H s (.lst [.int i0, .int i1, .int i2, .int i3, .int i4])) := by
  kfm_turns
  kpt_turns
  · kfm_turns
    refine r_fdv (wide_div (b := 200) (by omega) (by omega) (by decide) (by decide)) ?_
    kfm_turns
    refine stClo_of h0 hs rfl (q _ (Int.emod_nonneg _ (by omega)) (Int.emod_lt_of_pos _ (by omega)))
  · kfm_turns
    kpt_turns
    · kfm_turns
      refine ⟨_, _, _, rfl, h2, fun r g0 g1 => ?_⟩
      exact stClo_of h0 hs rfl (q _ g0 g1)
    · kfm_turns
      refine ⟨_, _, _, rfl, h2, fun r g0 g1 => ?_⟩
      exact stClo_of h0 hs rfl (q _ g0 g1)
theorem p_law_take : Pf_law_take K C := by
  rintro vs H Q E ⟨d, m, rfl, ⟨a, c, s, ns, rfl, ha, hc, hs⟩, hm, q⟩
  unfold t_law_take tOpen
  rw [i_law_take]
  refine ⟨s, hs, fun i0 i1 i2 i3 i4 h0 => ?_⟩
  have nas : a ≠ s := ne_of ha hs (Ne.symm stO_ne)
  have ncs : c ≠ s := ne_of hc hs (Ne.symm stO_ne)
  kfm_turns
  kpt_turns
  · kfm_turns
    exact stClo_of h0 hs rfl (q _ _ (Same.refl _) (Int.le_refl _) (.inr rfl))
  rename_i h2
  have q' : ∀ (r : Int), 0 ≤ r → r < m → Q (V.int r) H := fun r h0 h1 => q r H (Same.refl _) h0 (.inl h1)
  kfm_turns
  kpt_turns
  · kln_le
    kpt_turns
    · kln_le
      refine ⟨a, c, s, ns, _, _, _, _, _, rfl, by k_subL, by k_subL, by k_subL, h0, nas, ncs, fun j0 j1 j2 j3 j4 hj => ?_⟩
      rw [upd_upd]
      kln_le
      exact p_law_take_5 ha hs hm (by omega) nas q' hj
    · kln_le
      exact p_law_take_5 ha hs hm (by omega) nas q' h0
  · kln_le
    exact p_law_take_5 ha hs hm (by omega) nas q' h0
theorem p_law_among : Pf_law_among K C := by
  rintro vs H Q E ⟨d, a, xs, rfl, hd, ha, hne, hl, q⟩
  unfold t_law_among
  rw [i_law_among]
  kfm_turns
  refine ⟨_, _, rfl, hd, by omega, fun r H1 s1 h0 h1 => ?_⟩
  have hp : 0 < xs.length := List.length_pos_iff.mpr hne
  obtain ⟨v, hv, hm⟩ := atI_some (xs := xs) (i := r) h0 (by omega)
  kfm_turns
  exact q _ _ s1 hm
theorem p_law_alignment : Pf_law_alignment K C := by
  rintro vs H Q E ⟨d, m, rfl, hd, hm, q⟩
  unfold t_law_alignment
  rw [i_law_alignment]
  kfm_turns
  refine ⟨_, _, _, rfl, hd, by omega, fun r H1 s1 h0 h1 => ?_⟩
  kfm_turns
  refine forB_rng1 (by omega) h0 (fun i σ H' => H' = H1 ∧ ∃ y, σ = [some d, some (.int m), some (.int (2 ^ i)), y]) ⟨rfl, _, rfl⟩ ?_ ?_
  · rintro i σ H' hi ⟨rfl, y, rfl⟩
    kfm_turns
    refine ⟨rfl, _, by rw [Int.pow_succ]⟩
  · rintro σ H' ⟨rfl, y, rfl⟩
    kfm_turns
    exact q _ _ s1 (by omega)
theorem p_law_count : Pf_law_count K C := by
  rintro vs H Q E ⟨d, lo, hi, rfl, hd, h0, hlh, hm, q⟩
  unfold t_law_count
  rw [i_law_count]
  kfm_turns
  refine ⟨_, _, rfl, hd, by decide, fun r H1 s1 g0 g1 => ?_⟩
  kfm_turns
  kpt_turns
  · kfm_turns
    refine ⟨_, _, _, rfl, by k_subL, by omega, fun r2 H2 s2 k0 k1 => ?_⟩
    exact q _ _ (s1.trans s2) (by omega) (by omega)
  · kfm_turns
    refine ⟨_, _, _, rfl, by k_subL, by omega, fun r2 H2 s2 k0 k1 => ?_⟩
    exact q _ _ (s1.trans s2) (by omega) (by omega)
theorem two_pow_le {k : Nat} (h : k ≤ 30) : (1 : Int) ≤ 2 ^ k ∧ (2 : Int) ^ k ≤ 1073741824 := by
  have h1 : (2 : Nat) ^ k ≤ 2 ^ 30 := Nat.pow_le_pow_right (by decide) h
  have h2 : 1 ≤ (2 : Nat) ^ k := Nat.one_le_two_pow
  have e : ((2 : Nat) ^ k : Int) = (2 : Int) ^ k := by simp
  constructor
  · rw [← e]; omega
  · rw [← e]; omega
theorem p_law_number : Pf_law_number K C := by
  rintro vs H Q E ⟨d, lo, hi, rfl, hd, hlh, hm, q⟩
  unfold t_law_number
  rw [i_law_number]
  kfm_turns
  kpt_turns
  · kfm_turns
    exact ⟨_, _, _, rfl, hd, by omega, fun r H1 s1 g0 g1 => q _ _ s1 g0 (by omega)⟩
  kfm_turns
  refine ⟨_, _, rfl, hd, by decide, fun r H1 s1 g0 g1 => ?_⟩
  kfm_turns
  kpt_turns
  · kfm_turns
    obtain ⟨v, hv, hm⟩ := atI_some (xs := [V.int lo, V.int hi, V.int (lo + 1), V.int (hi - 1)]) (i := r) g0 (by simp; omega)
    kfm_turns
    simp only [List.mem_cons, List.not_mem_nil, or_false] at hm
    rename_i hr p H2 _ s2 e2
    rcases hm with rfl | rfl | rfl | rfl <;> exact q _ _ (s1.trans s2) (by omega) (by omega)
  kfm_turns
  kpt_turns
  · kfm_turns
    refine ⟨_, _, rfl, by k_subL, ?_, fun r2 H2 s2 k0 k1 => ?_⟩
    · split <;> omega
    kfm_turns
    have : (if 40 < hi - lo then (40 : Int) else hi - lo) ≤ hi - lo := by split <;> omega
    have : 0 ≤ (if 40 < hi - lo then (40 : Int) else hi - lo) := by split <;> omega
    exact q _ _ (s1.trans s2) (by omega) (by omega)
  kfm_turns
  kpt_turns
  · kfm_turns
    refine ⟨_, 30, rfl, by k_subL, by decide, fun k H2 s2 k0 => ?_⟩
    obtain ⟨p1, p2⟩ := two_pow_le k0
    kfm_turns
    refine ⟨_, _, rfl, by k_subL, by decide, fun r3 H3 s3 l0 l1 => ?_⟩
    kfm_turns
    refine q _ _ ((s1.trans s2).trans s3) ?_ ?_
    · split <;> omega
    · split <;> (split at * <;> omega)
  · kfm_turns
    refine ⟨_, _, rfl, by k_subL, by omega, fun r2 H2 s2 k0 k1 => ?_⟩
    kfm_turns
    exact q _ _ (s1.trans s2) (by omega) (by omega)
end
end AG
namespace AG
open PySem PySem.Spec L2
local macro_rules | `(tactic| o_readsAll) => `(tactic| first | assumption | (show _ ≤ sizeLine; decide) | (refine sz_of ?_; (try simp only [List.length_cons, List.length_nil, List.length_append, List.length_map]); omega) | (refine sz_lt ?_; (try simp only [List.length_cons, List.length_nil, List.length_append, List.length_map]); omega))
local macro_rules | `(tactic| k_subL) => `(tactic| first
  | assumption
  | exact upd_same
  | (refine (upd_ne (by first | assumption | exact Ne.symm (by assumption))).trans ?_; k_subL)
  | (apply SqT.of; k_subL)
  | (refine AG.Same.app (by assumption) ?_; k_subL)
  | (apply AG.Same.sqT; assumption; k_subL)
  | (refine AG.Same.dr (by assumption) ?_; k_subL)
  | (apply AG.Same.rep; assumption; k_subL)
  | (apply AG.Same.reps; assumption; k_subL))
local macro_rules | `(tactic| o_fieldsN) => `(tactic| first | exact atI_nat (j := 0) rfl | exact atI_nat (j := 1) rfl | exact atI_nat (j := 2) rfl | exact atI_nat (j := 3) rfl | exact atI_nat (j := 4) rfl | assumption)
local macro_rules | `(tactic| tb_rel) => `(tactic| with_reducible first
  | refine s_asg ?_ | refine s_name (by first | (simp only [List.set_cons_succ, List.set_cons_zero]; done) | (simp only [List.set_cons_succ, List.set_cons_zero]; exact rfl) | exact rfl) ?_ | refine s_ret ?_ | refine s_if ?_ | refine s_next ?_ | refine s_drop ?_ | refine s_retN ?_
  | refine s_var (by with_unfolding_all rfl) ?_ | refine s_c ?_ | refine s_op ?_ | refine s_cons ?_ | refine s_nil ?_ | refine s_call ?_ | refine s_cb ?_ | refine s_test ?_ | refine s_bl ?_
  | refine s_B ?_ | refine s_and ?_ | refine s_or ?_ | refine s_not ?_ | refine s_andV ?_ | refine s_orV ?_ | refine s_notV ?_ | refine s_ifE ?_ | refine s_chain ?_ | refine s_un ?_
  | refine s_tupN ?_ | refine s_lstN ?_ | refine s_sl ?_ | refine s_nopart ?_ | refine s_part ?_ | refine s_int ?_ | refine s_bm ?_ | refine s_bm0 ?_ | refine s_gnil ?_ | refine s_gcons ?_ | refine s_gsub ?_
  | refine s_brk ?_ | refine s_cont ?_ | refine s_isS ?_ | refine s_joinU ?_ | refine s_splitU ?_ | refine s_endsU ?_
  | refine s_lc_list ?_ | refine s_lc_tup ?_ | refine s_lc_str ?_ | refine s_lc_rng1 ?_ | refine s_lc_zip ?_ | refine s_lc_zipM ?_ | refine s_star ?_ | refine r_neg ?_ | refine s_for_list ?_ | refine s_for_tup ?_ | refine s_for_str ?_ | refine s_for_rng1 ?_ | refine s_for_enum ?_ | refine s_disp1 ?_ | refine s_disp0 ?_ | refine r_ktI ?_ | refine r_ktN ?_ | refine s_for_rng2 ?_
  | refine r_add_i ?_ | refine r_sub ?_ | refine r_lt_i ?_ | refine r_gt_i ?_ | refine r_le_i ?_ | refine r_ge_i ?_ | refine r_lt_s ?_ | refine r_gt_s ?_ | refine r_le_a ?_ | refine r_le_z ?_ | refine r_le_0 ?_ | refine r_le_9 ?_ | refine r_le_s ?_ | refine r_ge_s ?_
  | refine r_eq_i ?_ | refine r_eq_s ?_ | refine r_eq_b ?_ | refine r_ne_i ?_ | refine r_ne_s ?_ | refine r_ne_b ?_ | refine r_is_n ?_ | refine r_is_b ?_ | refine r_isn_n ?_ | refine r_isn_b ?_ | refine r_and ?_
  | refine r_int_i ?_ | refine r_int_b ?_ | refine r_str_s ?_ | refine r_ord ?_ | refine r_min ?_ | refine r_max ?_ | refine s_itT ?_ | refine s_itF ?_ | refine s_itnt ?_ | refine s_itnf ?_)
local macro_rules | `(tactic| tb_start) => `(tactic| first
  | ((with_reducible refine g_ix ?_); first | refine r_ix_l (by k_subL) (by o_fieldsN) ?_ | refine r_ix_t (by k_subL) (by o_fieldsN) ?_)
  | ((with_reducible refine g_len ?_); first | refine r_len_l (by k_subL) ?_ | refine r_len_t (by k_subL) ?_ | refine r_len_s (by o_readsAll) ?_ | refine r_len_d (by k_subL) ?_)
  | ((with_reducible refine g_mod ?_); refine r_mod (by first | decide | omega) ?_)
  | ((with_reducible refine g_mul ?_); refine r_mul_i (by first | exact Or.inr ⟨by decide, by decide⟩ | exact Or.inl ⟨by decide, by decide⟩ | exact Or.inl ⟨by omega, by omega⟩ | exact Or.inr ⟨by omega, by omega⟩) ?_)
  | ((with_reducible refine g_fdv ?_); refine r_fdv ⟨by decide, by decide⟩ ?_)
  | ((with_reducible refine g_pow ?_); refine r_pow ⟨by decide, by decide, by decide⟩ ?_)
  | ((with_reducible refine g_set ?_); first
    | (refine s_setL (j := 0) (by k_subL) (by rfl) ?_; simp only [List.set_cons_succ, List.set_cons_zero, upd_upd]) | (refine s_setL (j := 1) (by k_subL) (by rfl) ?_; simp only [List.set_cons_succ, List.set_cons_zero, upd_upd])
    | (refine s_setL (j := 2) (by k_subL) (by rfl) ?_; simp only [List.set_cons_succ, List.set_cons_zero, upd_upd]) | (refine s_setL (j := 3) (by k_subL) (by rfl) ?_; simp only [List.set_cons_succ, List.set_cons_zero, upd_upd])
    | (refine s_setL (j := 4) (by k_subL) (by rfl) ?_; simp only [List.set_cons_succ, List.set_cons_zero, upd_upd]))
  | ((with_reducible refine g_add ?_); refine r_add_s (by o_readsAll) ?_)
  | ((with_reducible refine g_new ?_); refine s_new (by o_readsAll) ?_; intro _ _ _ _ _)
  | ((with_reducible refine g_ty ?_); refine s_tyL (by k_subL) ?_) | ((with_reducible refine g_app ?_); refine r_app (by k_subL) (by o_readsAll) ?_)
  | ((with_reducible refine g_isi ?_); first | refine r_isi_int (by k_subL) ?_ | refine r_isi_bool (by k_subL) ?_ | refine r_isi_str (by k_subL) ?_ | refine r_isi_list (by k_subL) ?_ | refine r_isi_tuple (by k_subL) ?_ | refine r_isi_dict (by k_subL) ?_)
  | (intro _ _ _ _ _; tb_rel))
local macro_rules | `(tactic| kfm_turns) => `(tactic| repeat (first | with_reducible refine s_seq ?_ | tb_rel | tb_start))
local macro_rules | `(tactic| kln_le) => `(tactic| repeat (first | tb_rel | tb_start))
local macro_rules | `(tactic| ktu_offI) => `(tactic| with_reducible refine s_seq ?_)
local macro_rules | `(tactic| kpt_turns) => `(tactic| first
  | with_reducible refine s_itd (fun _ => ?_) (fun _ => ?_)
  | with_reducible refine s_itn (fun _ => ?_) (fun _ => ?_)
  | with_reducible refine s_itb (fun _ => ?_) (fun _ => ?_)
  | with_reducible refine s_itbn (fun _ => ?_) (fun _ => ?_))

local macro_rules | `(tactic| kcj_m) => `(tactic| first | exact L2.Same.refl _ | assumption | (refine L2.Same.trans ?_ (by assumption); kcj_m))
local macro_rules | `(tactic| keq_rows) => `(tactic| first
  | assumption | exact rep_non | exact rep_bl | exact rep_int | exact reps_nil | (refine rep_str ?_; decide +kernel) | (refine rep_str ?_; omega)
  | (refine reps_cons ?_ ?_ <;> keq_rows)
  | (refine rep_lst (by k_subL) (by (try simp only [List.length_cons, List.length_nil, List.length_append, List.length_map]); omega) ?_; keq_rows)
  | (refine rep_tup (by k_subL) (by (try simp only [List.length_cons, List.length_nil, List.length_append, List.length_map]); omega) ?_; keq_rows)
  | (refine rep_dct1 (by k_subL) ?_; keq_rows) | exact rep_dct0 (by k_subL)
  | (apply AG.Same.rep; assumption; keq_rows) | (apply AG.Same.reps; assumption; keq_rows))
local macro_rules | `(tactic| kqd_sub) => `(tactic| first | refine s_itT ?_ | refine s_itF ?_ | refine s_itnt ?_ | refine s_itnf ?_)

section
variable {w : World} {K : PySem.W.Frag} {mg : Str → Option Value} {C : Cs}
theorem p_is_whole : Pf_is_whole K C := by
  rintro vs H Q E ⟨d, v, rfl, hr, q⟩
  unfold t_is_whole
  rw [i_is_whole]
  have q' := q H (Same.refl _)
  kfm_turns
  cases d <;> (kqd_sub; kfm_turns; exact q')
theorem p_is_power : Pf_is_power K C := by
  rintro vs H Q E ⟨d, v, rfl, hr, q⟩
  unfold t_is_power
  rw [i_is_power]
  kfm_turns
  refine ⟨d, v, rfl, hr, fun H1 s1 => ?_⟩
  have q' := q H1 s1
  cases d with
  | int i =>
    obtain rfl := rep_int_inv hr
    kfm_turns
    kqd_sub
    kfm_turns
    have q2 : Q (.bl (decide (i ≥ 1) && decide (Builtin.bitAnd i (i - 1) = 0))) H1 := q'
    by_cases h : i ≥ 1
    · rw [decide_eq_true h] at q2 ⊢
      kfm_turns
      exact q2
    · rw [decide_eq_false h] at q2 ⊢
      kfm_turns
      exact q2
  | _ => 
    kfm_turns
    kqd_sub
    exact q'
theorem p_is_name : Pf_is_name K C := by
  rintro vs H Q E ⟨d, v, rfl, hr, q⟩
  unfold t_is_name
  rw [i_is_name]
  have q' := q H (Same.refl _)
  kfm_turns
  cases d with
  | str s =>
    obtain ⟨rfl, hl⟩ := rep_str_inv hr
    kqd_sub
    kfm_turns
    kpt_turns
    · rename_i h1
      kfm_turns
      kpt_turns
      · rename_i h4
        kfm_turns
        have q2 : Q (.bl (decide (1 ≤ s.length) && decide (s.length ≤ 4) && s.cps.toList.all fun c => decide (97 ≤ c) && decide (c ≤ 122))) H := q'
        rw [decide_eq_false (show ¬ s.length ≤ 4 by omega), Bool.and_false, Bool.false_and] at q2
        exact q2
      · rename_i h4
        kfm_turns
        refine lcB_str (by omega) gst_name (fun i y _ => ∃ c, s.cps.toList[i]? = some c ∧ y = V.bl (decide (97 ≤ c) && decide (c ≤ 122))) (fun _ _ _ _ _ h => h) ?_ ?_
        · intro i c H2 hc s2 Q2 q2
          kfm_turns
          refine ⟨rfl, ?_⟩
          kfm_turns
          kpt_turns
          · rename_i h5
            kfm_turns
            exact q2 _ _ (Same.refl _) ⟨c, hc, by rw [decide_eq_true h5, Bool.true_and]⟩
          · rename_i h5
            exact q2 _ _ (Same.refl _) ⟨c, hc, by rw [decide_eq_false h5, Bool.false_and]⟩
        · intro acc D H2 t hD s2 e
          have hacc := turns_map (g := fun c => V.bl (decide (97 ≤ c) && decide (c ≤ 122))) t (by simp [Str.length]) (fun i y h => h)
          subst hacc
          kfm_turns
          refine r_all (bs := s.cps.toList.map fun c => decide (97 ≤ c) && decide (c ≤ 122)) (by rw [List.map_map]; exact e) ?_
          have q2 : Q (.bl (decide (1 ≤ s.length) && decide (s.length ≤ 4) && s.cps.toList.all fun c => decide (97 ≤ c) && decide (c ≤ 122))) H2 := q H2 s2
          rw [decide_eq_true (show s.length ≤ 4 by omega), decide_eq_true (show 1 ≤ s.length by omega)] at q2
          rw [List.all_map]
          exact q2
    · rename_i h1
      kfm_turns
      have q2 : Q (.bl (decide (1 ≤ s.length) && decide (s.length ≤ 4) && s.cps.toList.all fun c => decide (97 ≤ c) && decide (c ≤ 122))) H := q'
      rw [decide_eq_false (show ¬ 1 ≤ s.length by omega), Bool.false_and, Bool.false_and] at q2
      exact q2
  | _ => 
    kqd_sub
    kfm_turns
    exact q'
theorem p_is_part : Pf_is_part K C := by
  rintro vs H Q E ⟨r, d, v, rfl, hr, hk, q⟩
  unfold t_is_part
  rw [i_is_part]
  kfm_turns
  kpt_turns
  · rename_i e
    subst e
    kfm_turns
    refine ⟨d, v, rfl, hr, fun H1 s1 => ?_⟩
    have q' := q H1 s1
    cases d <;> exact q'
  · rename_i e
    have hk' : (rangesL.lookup r).isSome = true := by
      rcases hk with hk | hk
      · exact absurd hk e
      · exact hk
    obtain ⟨p, hp⟩ := Option.isSome_iff_exists.mp hk'
    kfm_turns
    refine r_ktG (vs := [.int p.1, .int p.2]) (by unfold rangesV; rw [hp]; rfl) fun a ha => ?_
    refine s_gtup ha rfl ?_
    kfm_turns
    refine ⟨d, v, rfl, by k_subL, fun H1 s1 => ?_⟩
    have q' := q H1 s1
    have er : rng r = p := by unfold rng; rw [hp]; rfl
    cases d with
    | int i =>
      obtain rfl := rep_int_inv hr
      have q2 : Q (.bl (if r = "name" then false else (decide ((rng r).1 ≤ i) && decide (i ≤ (rng r).2)) && (!decide (r = "align") || powI i))) H1 := q'
      rw [if_neg e, er] at q2
      kfm_turns
      kqd_sub
      kfm_turns
      kpt_turns
      · rename_i h1
        rw [decide_eq_true h1, Bool.true_and] at q2
        kfm_turns
        kpt_turns
        · rename_i h2
          rw [decide_eq_false h2, Bool.false_and] at q2
          kfm_turns
          exact q2
        · rename_i h2
          rw [decide_eq_true h2, Bool.true_and] at q2
          kfm_turns
          kpt_turns
          · rename_i h3
            rw [decide_eq_false h3] at q2
            exact q2
          · rename_i h3
            rw [decide_eq_true h3, Bool.not_true, Bool.false_or] at q2
            kfm_turns
            refine ⟨.int i, _, rfl, rep_int, fun H2 s2 => ?_⟩
            have q3 := q H2 (s1.trans s2)
            have q4 : Q (.bl (if r = "name" then false else (decide ((rng r).1 ≤ i) && decide (i ≤ (rng r).2)) && (!decide (r = "align") || powI i))) H2 := q3
            rw [if_neg e, er, decide_eq_true h1, decide_eq_true h2, decide_eq_true h3] at q4
            exact q4
      · rename_i h1
        rw [decide_eq_false h1, Bool.false_and, Bool.false_and] at q2
        kfm_turns
        exact q2
    | str s =>
      have q2 : Q (.bl (if r = "name" then nameS s else false)) H1 := q'
      rw [if_neg e] at q2
      kfm_turns
      kqd_sub
      kfm_turns
      exact q2
    | _ =>
      kfm_turns
      kqd_sub
      kfm_turns
      exact q'
end
end AG
namespace AG
open PySem PySem.Spec L2
local macro_rules | `(tactic| o_readsAll) => `(tactic| first | assumption | (show _ ≤ sizeLine; decide) | (refine sz_of ?_; (try simp only [List.length_cons, List.length_nil, List.length_append, List.length_map]); omega) | (refine sz_lt ?_; (try simp only [List.length_cons, List.length_nil, List.length_append, List.length_map]); omega))
local macro_rules | `(tactic| k_subL) => `(tactic| first
  | assumption
  | exact upd_same
  | (refine (upd_ne (by first | assumption | exact Ne.symm (by assumption))).trans ?_; k_subL)
  | (apply SqT.of; k_subL)
  | (refine AG.Same.app (by assumption) ?_; k_subL)
  | (apply AG.Same.sqT; assumption; k_subL)
  | (refine AG.Same.dr (by assumption) ?_; k_subL)
  | (apply AG.Same.rep; assumption; k_subL)
  | (apply AG.Same.reps; assumption; k_subL))
local macro_rules | `(tactic| o_fieldsN) => `(tactic| first | exact atI_nat (j := 0) rfl | exact atI_nat (j := 1) rfl | exact atI_nat (j := 2) rfl | exact atI_nat (j := 3) rfl | exact atI_nat (j := 4) rfl | assumption)
local macro_rules | `(tactic| tb_rel) => `(tactic| with_reducible first
  | refine s_asg ?_ | refine s_name (by first | (simp only [List.set_cons_succ, List.set_cons_zero]; done) | (simp only [List.set_cons_succ, List.set_cons_zero]; exact rfl) | exact rfl) ?_ | refine s_ret ?_ | refine s_if ?_ | refine s_next ?_ | refine s_drop ?_ | refine s_retN ?_
  | refine s_var (by with_unfolding_all rfl) ?_ | refine s_c ?_ | refine s_op ?_ | refine s_cons ?_ | refine s_nil ?_ | refine s_call ?_ | refine s_cb ?_ | refine s_test ?_ | refine s_bl ?_
  | refine s_B ?_ | refine s_and ?_ | refine s_or ?_ | refine s_not ?_ | refine s_andV ?_ | refine s_orV ?_ | refine s_notV ?_ | refine s_ifE ?_ | refine s_chain ?_ | refine s_un ?_
  | refine s_tupN ?_ | refine s_lstN ?_ | refine s_sl ?_ | refine s_nopart ?_ | refine s_part ?_ | refine s_int ?_ | refine s_bm ?_ | refine s_bm0 ?_ | refine s_gnil ?_ | refine s_gcons ?_ | refine s_gsub ?_
  | refine s_brk ?_ | refine s_cont ?_ | refine s_isS ?_ | refine s_joinU ?_ | refine s_splitU ?_ | refine s_endsU ?_
  | refine s_lc_list ?_ | refine s_lc_tup ?_ | refine s_lc_str ?_ | refine s_lc_rng1 ?_ | refine s_lc_zip ?_ | refine s_lc_zipM ?_ | refine s_star ?_ | refine r_neg ?_ | refine s_for_list ?_ | refine s_for_tup ?_ | refine s_for_str ?_ | refine s_for_rng1 ?_ | refine s_for_enum ?_ | refine s_disp1 ?_ | refine s_disp0 ?_ | refine r_ktI ?_ | refine r_ktN ?_ | refine s_for_rng2 ?_
  | refine r_add_i ?_ | refine r_sub ?_ | refine r_lt_i ?_ | refine r_gt_i ?_ | refine r_le_i ?_ | refine r_ge_i ?_ | refine r_lt_s ?_ | refine r_gt_s ?_ | refine r_le_a ?_ | refine r_le_z ?_ | refine r_le_0 ?_ | refine r_le_9 ?_ | refine r_le_s ?_ | refine r_ge_s ?_
  | refine r_eq_i ?_ | refine r_eq_s ?_ | refine r_eq_b ?_ | refine r_ne_i ?_ | refine r_ne_s ?_ | refine r_ne_b ?_ | refine r_is_n ?_ | refine r_is_b ?_ | refine r_isn_n ?_ | refine r_isn_b ?_ | refine r_and ?_
  | refine r_int_i ?_ | refine r_int_b ?_ | refine r_str_s ?_ | refine r_ord ?_ | refine r_min ?_ | refine r_max ?_ | refine s_itT ?_ | refine s_itF ?_ | refine s_itnt ?_ | refine s_itnf ?_)
local macro_rules | `(tactic| tb_start) => `(tactic| first
  | ((with_reducible refine g_ix ?_); first | refine r_ix_l (by k_subL) (by o_fieldsN) ?_ | refine r_ix_t (by k_subL) (by o_fieldsN) ?_)
  | ((with_reducible refine g_len ?_); first | refine r_len_l (by k_subL) ?_ | refine r_len_t (by k_subL) ?_ | refine r_len_s (by o_readsAll) ?_ | refine r_len_d (by k_subL) ?_)
  | ((with_reducible refine g_mod ?_); refine r_mod (by first | decide | omega) ?_)
  | ((with_reducible refine g_mul ?_); refine r_mul_i (by first | exact Or.inr ⟨by decide, by decide⟩ | exact Or.inl ⟨by decide, by decide⟩ | exact Or.inl ⟨by omega, by omega⟩ | exact Or.inr ⟨by omega, by omega⟩) ?_)
  | ((with_reducible refine g_fdv ?_); refine r_fdv ⟨by decide, by decide⟩ ?_)
  | ((with_reducible refine g_pow ?_); refine r_pow ⟨by decide, by decide, by decide⟩ ?_)
  | ((with_reducible refine g_set ?_); first
    | (refine s_setL (j := 0) (by k_subL) (by rfl) ?_; simp only [List.set_cons_succ, List.set_cons_zero, upd_upd]) | (refine s_setL (j := 1) (by k_subL) (by rfl) ?_; simp only [List.set_cons_succ, List.set_cons_zero, upd_upd])
    | (refine s_setL (j := 2) (by k_subL) (by rfl) ?_; simp only [List.set_cons_succ, List.set_cons_zero, upd_upd]) | (refine s_setL (j := 3) (by k_subL) (by rfl) ?_; simp only [List.set_cons_succ, List.set_cons_zero, upd_upd])
    | (refine s_setL (j := 4) (by k_subL) (by rfl) ?_; simp only [List.set_cons_succ, List.set_cons_zero, upd_upd]))
  | ((with_reducible refine g_add ?_); refine r_add_s (by o_readsAll) ?_)
  | ((with_reducible refine g_new ?_); refine s_new (by o_readsAll) ?_; intro _ _ _ _ _)
  | ((with_reducible refine g_ty ?_); refine s_tyL (by k_subL) ?_) | ((with_reducible refine g_app ?_); refine r_app (by k_subL) (by o_readsAll) ?_)
  | ((with_reducible refine g_isi ?_); first | refine r_isi_int (by k_subL) ?_ | refine r_isi_bool (by k_subL) ?_ | refine r_isi_str (by k_subL) ?_ | refine r_isi_list (by k_subL) ?_ | refine r_isi_tuple (by k_subL) ?_ | refine r_isi_dict (by k_subL) ?_)
  | (intro _ _ _ _ _; tb_rel))
local macro_rules | `(tactic| kfm_turns) => `(tactic| repeat (first | with_reducible refine s_seq ?_ | tb_rel | tb_start))
local macro_rules | `(tactic| kln_le) => `(tactic| repeat (first | tb_rel | tb_start))
local macro_rules | `(tactic| ktu_offI) => `(tactic| with_reducible refine s_seq ?_)
local macro_rules | `(tactic| kpt_turns) => `(tactic| first
  | with_reducible refine s_itd (fun _ => ?_) (fun _ => ?_)
  | with_reducible refine s_itn (fun _ => ?_) (fun _ => ?_)
  | with_reducible refine s_itb (fun _ => ?_) (fun _ => ?_)
  | with_reducible refine s_itbn (fun _ => ?_) (fun _ => ?_))

local macro_rules | `(tactic| kcj_m) => `(tactic| first | exact L2.Same.refl _ | assumption | (refine L2.Same.trans ?_ (by assumption); kcj_m))
local macro_rules | `(tactic| keq_rows) => `(tactic| first
  | assumption | exact rep_non | exact rep_bl | exact rep_int | exact reps_nil | (refine rep_str ?_; decide +kernel) | (refine rep_str ?_; omega)
  | (refine reps_cons ?_ ?_ <;> keq_rows)
  | (refine rep_lst (by k_subL) (by (try simp only [List.length_cons, List.length_nil, List.length_append, List.length_map]); omega) ?_; keq_rows)
  | (refine rep_tup (by k_subL) (by (try simp only [List.length_cons, List.length_nil, List.length_append, List.length_map]); omega) ?_; keq_rows)
  | (refine rep_dct1 (by k_subL) ?_; keq_rows) | exact rep_dct0 (by k_subL)
  | (apply AG.Same.rep; assumption; keq_rows) | (apply AG.Same.reps; assumption; keq_rows))
local macro_rules | `(tactic| kqd_sub) => `(tactic| first | refine s_itT ?_ | refine s_itF ?_ | refine s_itnt ?_ | refine s_itnf ?_)

section
variable {w : World} {K : PySem.W.Frag} {mg : Str → Option Value} {C : Cs}
theorem p_is_text : Pf_is_text K C := by
  rintro vs H Q E ⟨d, v, rfl, hr, q⟩
  unfold t_is_text
  rw [i_is_text]
  kfm_turns
  cases d with
  | str s =>
    obtain ⟨rfl, hl⟩ := rep_str_inv hr
    kqd_sub
    kfm_turns
    refine lcB_str (by omega) gst_name (fun i y _ => ∃ c, s.cps.toList[i]? = some c ∧ y = V.int (c : Nat)) (fun _ _ _ _ _ h => h) ?_ ?_
    · intro i c H2 hc s2 Q2 q2
      kfm_turns
      refine ⟨rfl, ?_⟩
      kfm_turns
      exact q2 _ _ (Same.refl _) ⟨c, hc, rfl⟩
    · intro acc D H2 t hD s2 e
      have hacc := turns_map (g := fun c : Nat => V.int (c : Nat)) t (by simp [Str.length]) (fun i y h => h)
      subst hacc
      kfm_turns
      refine lcB_list (K := K) (xs := s.cps.toList.map fun c : Nat => V.int (c : Nat)) (SqL.of e) (by simp; exact hl) gst_name (fun i y _ => ∃ c, s.cps.toList[i]? = some c ∧ y = V.bl (codeB c)) (fun _ _ _ _ _ h => h) ?_ ?_
      · intro i x H3 hx s3 Q2 q2
        rw [List.getElem?_map] at hx
        obtain ⟨c, hc, rfl⟩ : ∃ c, s.cps.toList[i]? = some c ∧ V.int (c : Nat) = x := by
          cases e : s.cps.toList[i]? with
          | none => rw [e] at hx; cases hx
          | some r => rw [e] at hx; exact ⟨r, rfl, Option.some.inj hx⟩
        kfm_turns
        refine ⟨rfl, ?_⟩
        kfm_turns
        have fin : ∀ b, codeB c = b → Q2 (.bl b) H3 := fun b hb => q2 _ _ (Same.refl _) ⟨c, hc, by rw [hb]⟩
        kpt_turns
        · rename_i h1
          refine fin _ ?_
          have : c = 10 := by omega
          rw [this]; rfl
        · rename_i h1
          kfm_turns
          have e1 : (c == 10) = false := by simp; omega
          kpt_turns
          · rename_i h2
            kfm_turns
            kpt_turns
            · rename_i h3
              kfm_turns
              refine fin _ ?_
              unfold codeB
              rw [e1, decide_eq_true (show 32 ≤ c by omega), decide_eq_true (show c ≤ 126 by omega), Bool.false_or, Bool.true_and, Bool.true_and]
              congr 1
              by_cases h37 : c = 37
              · rw [h37]; decide
              · rw [decide_eq_false (show ¬ (c : Int) = 37 by omega)]
                simpa using h37
            · rename_i h3
              kfm_turns
              refine fin _ ?_
              unfold codeB
              rw [e1, decide_eq_false (show ¬ c ≤ 126 by omega)]
              simp
          · rename_i h2
            kfm_turns
            refine fin _ ?_
            unfold codeB
            rw [e1, decide_eq_false (show ¬ 32 ≤ c by omega)]
            simp
      · intro acc D2 H3 t3 hD3 s3 e3
        have hacc := turns_map (g := fun c : Nat => V.bl (codeB c)) t3 (by simp) (fun i y h => h)
        subst hacc
        kfm_turns
        refine r_all (bs := s.cps.toList.map codeB) (by rw [List.map_map]; exact e3) ?_
        rw [List.all_map]
        exact q H3 (s2.trans s3)
  | _ =>
    kqd_sub
    kfm_turns
    exact q _ (Same.refl _)

theorem one_sign {c : Nat} {s : Str} (h : (⟨#[c]⟩ : Str) = s) : s.cps.toList = [c] := by rw [← h]
theorem p_is_number_word : Pf_is_number_word K C := by
  rintro vs H Q E ⟨s, rfl, hl, q⟩
  unfold t_is_number_word
  rw [i_is_number_word]
  have tail : decide (1 ≤ s.length) = true → decide (s.length ≤ 9) = true → (decide (s.cps.toList.head? = some 48) && decide (s ≠ "0")) = false →
      (tLcN (iStr (tVar 0)) (gName 1) (tChain rLeU rLeU (tC (.str "0")) (tVar 1) (tC (.str "9"))) [1]) [some (V.str s), none] H fun x H1 => rAll K [x] H1 Q := by
    intro h1 h2 h3
    kfm_turns
    refine lcB_str (by omega) gst_name (fun i y _ => ∃ c, s.cps.toList[i]? = some c ∧ y = V.bl (decide (48 ≤ c) && decide (c ≤ 57))) (fun _ _ _ _ _ h => h) ?_ ?_
    · intro i c H2 hc s2 Q2 q2
      kfm_turns
      refine ⟨rfl, ?_⟩
      kfm_turns
      kpt_turns
      · rename_i h5
        kfm_turns
        exact q2 _ _ (Same.refl _) ⟨c, hc, by rw [decide_eq_true h5, Bool.true_and]⟩
      · rename_i h5
        exact q2 _ _ (Same.refl _) ⟨c, hc, by rw [decide_eq_false h5, Bool.false_and]⟩
    · intro acc D H2 t hD s2 e
      have hacc := turns_map (g := fun c => V.bl (decide (48 ≤ c) && decide (c ≤ 57))) t (by simp [Str.length]) (fun i y h => h)
      subst hacc
      kfm_turns
      refine r_all (bs := s.cps.toList.map fun c => decide (48 ≤ c) && decide (c ≤ 57)) (by rw [List.map_map]; exact e) ?_
      rw [List.all_map]
      have := q H2 s2
      unfold numS at this
      rw [h1, h2, h3] at this
      exact this
  have no : numS s = false → Q (.bl false) H := fun e => by
    have := q H (Same.refl _)
    rwa [e] at this
  kfm_turns
  kpt_turns
  · rename_i a1
    have h1 : decide (1 ≤ s.length) = true := decide_eq_true (by omega)
    kfm_turns
    kpt_turns
    · rename_i a2
      kfm_turns
      refine no ?_
      unfold numS
      rw [h1, decide_eq_false (show ¬ s.length ≤ 9 by omega)]
      rfl
    · rename_i a2
      have h2 : decide (s.length ≤ 9) = true := decide_eq_true (by omega)
      kfm_turns
      obtain ⟨c0, r0, hcr⟩ : ∃ c0 r0, s.cps.toList = c0 :: r0 := by
        cases e : s.cps.toList with
        | nil =>
          have : s.length = 0 := by rw [TL.len_tl]; show s.cps.toList.length = 0; rw [e]; rfl
          omega
        | cons c r => exact ⟨c, r, rfl⟩
      refine r_ix_s (c := c0) (sz_of (by omega)) (by rw [hcr]; exact atI_nat (j := 0) rfl) ?_
      kfm_turns
      have e48 : ("0" : Str).cps.toList = [48] := by decide +kernel
      kpt_turns
      · rename_i a3
        have e3 : c0 = 48 := by
          have := one_sign a3
          rw [e48] at this
          exact ((List.cons.inj this).1).symm
        kfm_turns
        kpt_turns
        · rename_i a4
          kfm_turns
          refine no ?_
          unfold numS
          rw [h1, h2, hcr, e3, decide_eq_true (show (48 :: r0).head? = some 48 from rfl), decide_eq_true (show s ≠ "0" from a4)]
          rfl
        · rename_i a4
          kfm_turns
          obtain ⟨v0, hv0, z, hz1, hB⟩ := tail h1 h2 (by rw [decide_eq_false (show ¬ s ≠ "0" from fun z => z a4), Bool.and_false])
          cases hv0
          exact ⟨z, hz1, hB⟩
      · rename_i a3
        kfm_turns
        obtain ⟨v0, hv0, z, hz1, hB⟩ := tail h1 h2 (by
          rw [hcr]
          have : ¬ (c0 :: r0).head? = some 48 := fun z => by
            have e : c0 = 48 := by simpa using z
            refine a3 ?_
            rw [e]
            apply TL.ext_tl
            show [48] = ("0" : Str).cps.toList
            rw [e48]
          rw [decide_eq_false this, Bool.false_and])
        cases hv0
        exact ⟨z, hz1, hB⟩
  · rename_i a1
    kfm_turns
    refine no ?_
    unfold numS
    rw [decide_eq_false (show ¬ 1 ≤ s.length by omega)]
    rfl
theorem p_is_written_part : Pf_is_written_part K C := by
  rintro vs H Q E ⟨r, w, rfl, hk, hl, q⟩
  unfold t_is_written_part
  rw [i_is_written_part]
  kfm_turns
  kpt_turns
  · rename_i e
    kfm_turns
    refine ⟨.str w, _, rfl, rep_str hl, fun H1 s1 => ?_⟩
    have := q H1 s1
    unfold partVal at this
    rw [if_pos e] at this
    show Q (.bl (nameS w)) H1
    cases hn : nameS w with
    | true => rw [hn] at this; exact this
    | false => rw [hn] at this; exact this
  · rename_i e
    kfm_turns
    refine ⟨w, rfl, hl, fun H1 s1 => ?_⟩
    kfm_turns
    cases hn : numS w with
    | false =>
      kfm_turns
      have := q H1 s1
      unfold partVal at this
      rw [if_neg e, hn] at this
      exact this
    | true =>
      kfm_turns
      have h9 : w.length ≤ 9 := by
        unfold numS at hn
        rw [Bool.and_eq_true, Bool.and_eq_true, Bool.and_eq_true] at hn
        exact of_decide_eq_true hn.1.1.2
      refine r_int_s (int_of_num hn) (by omega) ?_
      kfm_turns
      refine ⟨r, .int (valN w), _, rfl, rep_int, hk, fun H2 s2 => ?_⟩
      have := q H2 (s1.trans s2)
      unfold partVal at this
      rw [if_neg e, hn] at this
      cases hp : partB r (.int (valN w)) with
      | true => rw [hp] at this; exact this
      | false => rw [hp] at this; exact this
end
end AG
namespace AG
open PySem PySem.Spec L2
local macro_rules | `(tactic| o_readsAll) => `(tactic| first | assumption | (show _ ≤ sizeLine; decide) | (refine sz_of ?_; (try simp only [List.length_cons, List.length_nil, List.length_append, List.length_map]); omega) | (refine sz_lt ?_; (try simp only [List.length_cons, List.length_nil, List.length_append, List.length_map]); omega))
local macro_rules | `(tactic| k_subL) => `(tactic| first
  | assumption
  | exact upd_same
  | (refine (upd_ne (by first | assumption | exact Ne.symm (by assumption))).trans ?_; k_subL)
  | (apply SqT.of; k_subL)
  | (refine AG.Same.app (by assumption) ?_; k_subL)
  | (apply AG.Same.sqT; assumption; k_subL)
  | (refine AG.Same.dr (by assumption) ?_; k_subL)
  | (apply AG.Same.rep; assumption; k_subL)
  | (apply AG.Same.reps; assumption; k_subL))
local macro_rules | `(tactic| o_fieldsN) => `(tactic| first | exact atI_nat (j := 0) rfl | exact atI_nat (j := 1) rfl | exact atI_nat (j := 2) rfl | exact atI_nat (j := 3) rfl | exact atI_nat (j := 4) rfl | assumption)
local macro_rules | `(tactic| tb_rel) => `(tactic| with_reducible first
  | refine s_asg ?_ | refine s_name (by first | (simp only [List.set_cons_succ, List.set_cons_zero]; done) | (simp only [List.set_cons_succ, List.set_cons_zero]; exact rfl) | exact rfl) ?_ | refine s_ret ?_ | refine s_if ?_ | refine s_next ?_ | refine s_drop ?_ | refine s_retN ?_
  | refine s_var (by with_unfolding_all rfl) ?_ | refine s_c ?_ | refine s_op ?_ | refine s_cons ?_ | refine s_nil ?_ | refine s_call ?_ | refine s_cb ?_ | refine s_test ?_ | refine s_bl ?_
  | refine s_B ?_ | refine s_and ?_ | refine s_or ?_ | refine s_not ?_ | refine s_andV ?_ | refine s_orV ?_ | refine s_notV ?_ | refine s_ifE ?_ | refine s_chain ?_ | refine s_un ?_
  | refine s_tupN ?_ | refine s_lstN ?_ | refine s_sl ?_ | refine s_nopart ?_ | refine s_part ?_ | refine s_int ?_ | refine s_bm ?_ | refine s_bm0 ?_ | refine s_gnil ?_ | refine s_gcons ?_ | refine s_gsub ?_
  | refine s_brk ?_ | refine s_cont ?_ | refine s_isS ?_ | refine s_joinU ?_ | refine s_splitU ?_ | refine s_endsU ?_
  | refine s_lc_list ?_ | refine s_lc_tup ?_ | refine s_lc_str ?_ | refine s_lc_rng1 ?_ | refine s_lc_zip ?_ | refine s_lc_zipM ?_ | refine s_star ?_ | refine r_neg ?_ | refine s_for_list ?_ | refine s_for_tup ?_ | refine s_for_str ?_ | refine s_for_rng1 ?_ | refine s_for_enum ?_ | refine s_disp1 ?_ | refine s_disp0 ?_ | refine r_ktI ?_ | refine r_ktN ?_ | refine s_for_rng2 ?_
  | refine r_add_i ?_ | refine r_sub ?_ | refine r_lt_i ?_ | refine r_gt_i ?_ | refine r_le_i ?_ | refine r_ge_i ?_ | refine r_lt_s ?_ | refine r_gt_s ?_ | refine r_le_a ?_ | refine r_le_z ?_ | refine r_le_0 ?_ | refine r_le_9 ?_ | refine r_le_s ?_ | refine r_ge_s ?_
  | refine r_eq_i ?_ | refine r_eq_s ?_ | refine r_eq_b ?_ | refine r_ne_i ?_ | refine r_ne_s ?_ | refine r_ne_b ?_ | refine r_is_n ?_ | refine r_is_b ?_ | refine r_isn_n ?_ | refine r_isn_b ?_ | refine r_and ?_
  | refine r_int_i ?_ | refine r_int_b ?_ | refine r_str_s ?_ | refine r_ord ?_ | refine r_min ?_ | refine r_max ?_ | refine s_itT ?_ | refine s_itF ?_ | refine s_itnt ?_ | refine s_itnf ?_)
local macro_rules | `(tactic| tb_start) => `(tactic| first
  | ((with_reducible refine g_ix ?_); first | refine r_ix_l (by k_subL) (by o_fieldsN) ?_ | refine r_ix_t (by k_subL) (by o_fieldsN) ?_)
  | ((with_reducible refine g_len ?_); first | refine r_len_l (by k_subL) ?_ | refine r_len_t (by k_subL) ?_ | refine r_len_s (by o_readsAll) ?_ | refine r_len_d (by k_subL) ?_)
  | ((with_reducible refine g_mod ?_); refine r_mod (by first | decide | omega) ?_)
  | ((with_reducible refine g_mul ?_); refine r_mul_i (by first | exact Or.inr ⟨by decide, by decide⟩ | exact Or.inl ⟨by decide, by decide⟩ | exact Or.inl ⟨by omega, by omega⟩ | exact Or.inr ⟨by omega, by omega⟩) ?_)
  | ((with_reducible refine g_fdv ?_); refine r_fdv ⟨by decide, by decide⟩ ?_)
  | ((with_reducible refine g_pow ?_); refine r_pow ⟨by decide, by decide, by decide⟩ ?_)
  | ((with_reducible refine g_set ?_); first
    | (refine s_setL (j := 0) (by k_subL) (by rfl) ?_; simp only [List.set_cons_succ, List.set_cons_zero, upd_upd]) | (refine s_setL (j := 1) (by k_subL) (by rfl) ?_; simp only [List.set_cons_succ, List.set_cons_zero, upd_upd])
    | (refine s_setL (j := 2) (by k_subL) (by rfl) ?_; simp only [List.set_cons_succ, List.set_cons_zero, upd_upd]) | (refine s_setL (j := 3) (by k_subL) (by rfl) ?_; simp only [List.set_cons_succ, List.set_cons_zero, upd_upd])
    | (refine s_setL (j := 4) (by k_subL) (by rfl) ?_; simp only [List.set_cons_succ, List.set_cons_zero, upd_upd]))
  | ((with_reducible refine g_add ?_); refine r_add_s (by o_readsAll) ?_)
  | ((with_reducible refine g_new ?_); refine s_new (by o_readsAll) ?_; intro _ _ _ _ _)
  | ((with_reducible refine g_ty ?_); refine s_tyL (by k_subL) ?_) | ((with_reducible refine g_app ?_); refine r_app (by k_subL) (by o_readsAll) ?_)
  | ((with_reducible refine g_isi ?_); first | refine r_isi_int (by k_subL) ?_ | refine r_isi_bool (by k_subL) ?_ | refine r_isi_str (by k_subL) ?_ | refine r_isi_list (by k_subL) ?_ | refine r_isi_tuple (by k_subL) ?_ | refine r_isi_dict (by k_subL) ?_)
  | (intro _ _ _ _ _; tb_rel))
local macro_rules | `(tactic| kfm_turns) => `(tactic| repeat (first | with_reducible refine s_seq ?_ | tb_rel | tb_start))
local macro_rules | `(tactic| kln_le) => `(tactic| repeat (first | tb_rel | tb_start))
local macro_rules | `(tactic| ktu_offI) => `(tactic| with_reducible refine s_seq ?_)
local macro_rules | `(tactic| kpt_turns) => `(tactic| first
  | with_reducible refine s_itd (fun _ => ?_) (fun _ => ?_)
  | with_reducible refine s_itn (fun _ => ?_) (fun _ => ?_)
  | with_reducible refine s_itb (fun _ => ?_) (fun _ => ?_)
  | with_reducible refine s_itbn (fun _ => ?_) (fun _ => ?_))

local macro_rules | `(tactic| kcj_m) => `(tactic| first | exact L2.Same.refl _ | assumption | (refine L2.Same.trans ?_ (by assumption); kcj_m))
local macro_rules | `(tactic| keq_rows) => `(tactic| first
  | assumption | exact rep_non | exact rep_bl | exact rep_int | exact reps_nil | (refine rep_str ?_; decide +kernel) | (refine rep_str ?_; omega)
  | (refine reps_cons ?_ ?_ <;> keq_rows)
  | (refine rep_lst (by k_subL) (by (try simp only [List.length_cons, List.length_nil, List.length_append, List.length_map]); omega) ?_; keq_rows)
  | (refine rep_tup (by k_subL) (by (try simp only [List.length_cons, List.length_nil, List.length_append, List.length_map]); omega) ?_; keq_rows)
  | (refine rep_dct1 (by k_subL) ?_; keq_rows) | exact rep_dct0 (by k_subL)
  | (apply AG.Same.rep; assumption; keq_rows) | (apply AG.Same.reps; assumption; keq_rows))
local macro_rules | `(tactic| kqd_sub) => `(tactic| first | refine s_itT ?_ | refine s_itF ?_ | refine s_itnt ?_ | refine s_itnf ?_)

section
variable {w : World} {K : PySem.W.Frag} {mg : Str → Option Value} {C : Cs}
theorem list_vals {l : List Str} {i : Nat} {x : V} (h : (l.map V.str)[i]? = some x) : ∃ s, l[i]? = some s ∧ x = .str s := by
  rw [List.getElem?_map] at h
  cases e : l[i]? with
  | none => rw [e] at h; cases h
  | some s => rw [e] at h; exact ⟨s, rfl, (Option.some.inj h).symm⟩
theorem formsV_of {t : Str} (h : t ∈ titlesL) : formsV t = some ((rolesOf t).map V.str) := by
  unfold formsV
  rw [(titles_roles t h).1]
  rfl

theorem valsFrom_inl {t : Str} : ∀ {r : List Str} {k i : Nat} {w : Str}, (∀ j, j < i → ∀ w, r[j]? = some w → (wordVal t (k + j) w).isSome = true) → r[i]? = some w → wordVal t (k + i) w = none → valsFrom t k r = .inl (k + i)
  | [], k, i, w, _, h, _ => by simp at h
  | x :: r, k, 0, w, _, h, hn => by
    obtain rfl : x = w := by simpa using h
    unfold valsFrom
    rw [Nat.add_zero] at hn
    rw [hn]
    rfl
  | x :: r, k, i + 1, w, hg, h, hn => by
    have hx := hg 0 (by omega) x rfl
    rw [Nat.add_zero] at hx
    obtain ⟨d, hd⟩ := Option.isSome_iff_exists.mp hx
    have ih := valsFrom_inl (t := t) (r := r) (k := k + 1) (i := i) (w := w) (fun j hj w' hw' => by
      have := hg (j + 1) (by omega) w' (by simpa using hw')
      rwa [show k + (j + 1) = k + 1 + j by omega] at this) (by simpa using h) (by rw [show k + 1 + i = k + (i + 1) by omega]; exact hn)
    unfold valsFrom
    rw [hd]
    simp only
    rw [ih]
    simp only
    congr 1
    omega
theorem valsFrom_inr {t : Str} : ∀ {r : List Str} {k : Nat}, (∀ (j : Nat) w, r[j]? = some w → (wordVal t (k + j) w).isSome = true) → ∃ ps, valsFrom t k r = .inr ps
  | [], k, _ => ⟨[], by unfold valsFrom; rfl⟩
  | x :: r, k, hg => by
    have hx := hg 0 x rfl
    rw [Nat.add_zero] at hx
    obtain ⟨d, hd⟩ := Option.isSome_iff_exists.mp hx
    obtain ⟨ps, ih⟩ := valsFrom_inr (t := t) (r := r) (k := k + 1) fun j w' hw' => by
      have := hg (j + 1) w' (by simpa using hw')
      rwa [show k + (j + 1) = k + 1 + j by omega] at this
    refine ⟨d :: ps, ?_⟩
    unfold valsFrom
    rw [hd]
    simp only
    rw [ih]
theorem p_wrong_word : Pf_wrong_word K C := by
  rintro vs H Q E ⟨a, ws, rfl, ⟨ha, hne, hl, hw⟩, q⟩
  unfold t_wrong_word
  rw [i_wrong_word]
  obtain ⟨t, r, rfl⟩ : ∃ t r, ws = t :: r := by
    cases ws with
    | nil => exact absurd rfl hne
    | cons t r => exact ⟨t, r, rfl⟩
  have h0 : atI ((t :: r).map V.str) 0 = some (.str t) := atI_nat (j := 0) rfl
  kfm_turns
  cases hf : formsL.lookup t with
  | none =>
    have e1 : (formsV t).isSome = false := by unfold formsV; rw [hf]; rfl
    rw [e1]
    kfm_turns
    have := q H (Same.refl _)
    rw [badAt, hf] at this
    exact this
  | some rs =>
    have ht := titles_mem hf
    have e1 : (formsV t).isSome = true := by unfold formsV; rw [hf]; rfl
    have eb : badAt (t :: r) = (match valsFrom t 1 r with | .inl k => some k | .inr _ => none) := by
      rw [badAt, hf]
      rfl
    rw [e1]
    kfm_turns
    refine r_ktG (formsV_of ht) fun p hp => ?_
    have h4 : (rolesOf t).length ≤ 4 := (titles_roles t ht).2.2.2.1
    kfm_turns
    have hl' : (t :: r).length ≤ 1000000 := hl
    refine forB_rng2 (by simp; simp at hl'; omega) (fun i σ H' => Same H H' ∧ (∀ j, j < i → ∀ w, r[j]? = some w → (wordVal t (1 + j) w).isSome = true) ∧ ∃ y, σ = [some (.ref a), some (.ref p), y]) ⟨Same.refl _, fun j hj => by omega, _, rfl⟩ ?_ ?_
    · rintro i σ H' hi ⟨s1, hg, y, rfl⟩
      have hi2 : i < r.length := by simp at hi; omega
      obtain ⟨s, hs⟩ : ∃ s, r[i]? = some s := ⟨_, List.getElem?_eq_getElem hi2⟩
      have bad : ∀ H2, Same H H2 → wordVal t (1 + i) s = none → Q (.int (1 + (i : Int))) H2 := by
        intro H2 s2 hn
        have := q H2 s2
        rw [eb, valsFrom_inl hg hs hn] at this
        have e : ((1 + i : Nat) : Int) = 1 + (i : Int) := by omega
        simp only [e] at this
        exact this
      kfm_turns
      kpt_turns
      · rename_i h
        kfm_turns
        refine bad _ s1 ?_
        unfold wordVal
        have : (rolesOf t)[1 + i - 1]? = none := List.getElem?_eq_none (by simp at h; omega)
        rw [this]
      rename_i h
      have hir : i < (rolesOf t).length := by simp at h; omega
      obtain ⟨ro, hro⟩ : ∃ ro, (rolesOf t)[i]? = some ro := ⟨_, List.getElem?_eq_getElem hir⟩
      have ewv : wordVal t (1 + i) s = partVal ro s := by
        unfold wordVal
        rw [show 1 + i - 1 = i by omega, hro]
      kfm_turns
      refine r_ix_t (xs := (rolesOf t).map V.str) (v := .str ro) (Same.sqT s1 hp) ?_ ?_
      · have := atI_nat (xs := (rolesOf t).map V.str) (j := i) (v := .str ro) (by rw [List.getElem?_map, hro]; rfl)
        have e : (1 : Int) + (i : Int) - 1 = (i : Int) := by omega
        rw [e]
        exact this
      kfm_turns
      refine r_ix_l (xs := (t :: r).map V.str) (v := .str s) (by k_subL) ?_ ?_
      · have := atI_nat (xs := (t :: r).map V.str) (j := i + 1) (v := .str s) (by rw [List.getElem?_map, List.getElem?_cons_succ, hs]; rfl)
        have e : (1 : Int) + (i : Int) = ((i + 1 : Nat) : Int) := by omega
        rw [e]
        exact this
      kfm_turns
      refine ⟨ro, s, rfl, roles_known t ht ro (List.mem_of_getElem? hro), hw s (List.mem_cons_of_mem _ (List.mem_of_getElem? hs)), fun H2 s2 => ?_⟩
      cases hv : (partVal ro s).isSome with
      | true =>
        kfm_turns
        refine ⟨s1.trans s2, fun j hj w hw' => ?_, _, rfl⟩
        by_cases hji : j < i
        · exact hg j hji w hw'
        · have : j = i := by omega
          subst this
          rw [hs] at hw'
          obtain rfl := Option.some.inj hw'
          rw [ewv]
          exact hv
      | false =>
        kfm_turns
        refine bad _ (s1.trans s2) ?_
        rw [ewv]
        simpa using hv
    · rintro σ H' ⟨s1, hg, y, rfl⟩
      kfm_turns
      have := q H' s1
      obtain ⟨ps, hps⟩ := valsFrom_inr (t := t) (r := r) (k := 1) fun j w hw' => hg j (by
        have := (List.getElem?_eq_some_iff.mp hw').1
        simp
        omega) w hw'
      rw [eb, hps] at this
      exact this
theorem p_least_words : Pf_least_words K C := by
  rintro vs H Q E ⟨t, rfl, ht, q⟩
  unfold t_least_words
  rw [i_least_words]
  kfm_turns
  refine r_ktG (formsV_of ht) fun p hp => ?_
  kfm_turns
  kpt_turns
  · rename_i h
    kfm_turns
    rw [if_pos h] at q
    subst h
    exact q
  · rename_i h
    kfm_turns
    rw [if_neg h] at q
    simp
    exact q
theorem p_column_of : Pf_column_of K C := by
  rintro vs H Q E ⟨a, ws, k, rfl, ⟨ha, hne, hl, hw⟩, q⟩
  unfold t_column_of
  rw [i_column_of]
  kfm_turns
  refine r_sl_l (by k_subL) fun b H1 hb s1 e1 => ?_
  rw [cutV_to (by omega), ← List.map_take] at e1
  have hk : (k : Int).toNat = k := by omega
  rw [hk] at e1
  kfm_turns
  refine lcB_list (K := K) (xs := (ws.take k).map V.str) (SqL.of e1) (by simp; omega) gst_name (fun i y _ => ∃ s, (ws.take k)[i]? = some s ∧ y = V.int ((s.length + 1 : Nat) : Int)) (fun _ _ _ _ _ h => h) ?_ ?_
  · intro i x H2 hx s2 Q2 q2
    obtain ⟨s, hs, rfl⟩ := list_vals hx
    have hsl := hw s (List.mem_of_mem_take (List.mem_of_getElem? hs))
    kfm_turns
    refine ⟨rfl, ?_⟩
    kfm_turns
    exact q2 _ _ (Same.refl _) ⟨s, hs, by simp⟩
  · intro acc D H2 tt hD s2 e2
    have hacc := turns_map (l := ws.take k) (g := fun s => V.int ((s.length + 1 : Nat) : Int)) tt (by simp) (fun i y h => h)
    subst hacc
    kfm_turns
    refine r_sum (ns := (ws.take k).map fun s => ((s.length + 1 : Nat) : Int)) (by rw [List.map_map]; exact e2) ?_
    kfm_turns
    have := q H2 (s1.trans s2)
    unfold colOf at this
    have key : ∀ l : List Str, (l.map fun s => ((s.length + 1 : Nat) : Int)).sum = (((l.map fun w => w.length + 1).sum : Nat) : Int) := by
      intro l
      induction l with
      | nil => rfl
      | cons x r ih =>
        rw [List.map_cons, List.sum_cons, ih, List.map_cons, List.sum_cons]
        omega
    rw [key]
    have e : (((1 + ((ws.take k).map fun w => w.length + 1).sum : Nat)) : Int) = 1 + ((((ws.take k).map fun w => w.length + 1).sum : Nat) : Int) := by omega
    rw [e] at this
    exact this
end
end AG
namespace AG
open PySem PySem.Spec L2
local macro_rules | `(tactic| o_readsAll) => `(tactic| first | assumption | (show _ ≤ sizeLine; decide) | (refine sz_of ?_; (try simp only [List.length_cons, List.length_nil, List.length_append, List.length_map]); omega) | (refine sz_lt ?_; (try simp only [List.length_cons, List.length_nil, List.length_append, List.length_map]); omega))
local macro_rules | `(tactic| k_subL) => `(tactic| first
  | assumption
  | exact upd_same
  | (refine (upd_ne (by first | assumption | exact Ne.symm (by assumption))).trans ?_; k_subL)
  | (apply SqT.of; k_subL)
  | (refine AG.Same.app (by assumption) ?_; k_subL)
  | (apply AG.Same.sqT; assumption; k_subL)
  | (refine AG.Same.dr (by assumption) ?_; k_subL)
  | (apply AG.Same.rep; assumption; k_subL)
  | (apply AG.Same.reps; assumption; k_subL))
local macro_rules | `(tactic| o_fieldsN) => `(tactic| first | exact atI_nat (j := 0) rfl | exact atI_nat (j := 1) rfl | exact atI_nat (j := 2) rfl | exact atI_nat (j := 3) rfl | exact atI_nat (j := 4) rfl | assumption)
local macro_rules | `(tactic| tb_rel) => `(tactic| with_reducible first
  | refine s_asg ?_ | refine s_name (by first | (simp only [List.set_cons_succ, List.set_cons_zero]; done) | (simp only [List.set_cons_succ, List.set_cons_zero]; exact rfl) | exact rfl) ?_ | refine s_ret ?_ | refine s_if ?_ | refine s_next ?_ | refine s_drop ?_ | refine s_retN ?_
  | refine s_var (by with_unfolding_all rfl) ?_ | refine s_c ?_ | refine s_op ?_ | refine s_cons ?_ | refine s_nil ?_ | refine s_call ?_ | refine s_cb ?_ | refine s_test ?_ | refine s_bl ?_
  | refine s_B ?_ | refine s_and ?_ | refine s_or ?_ | refine s_not ?_ | refine s_andV ?_ | refine s_orV ?_ | refine s_notV ?_ | refine s_ifE ?_ | refine s_chain ?_ | refine s_un ?_
  | refine s_tupN ?_ | refine s_lstN ?_ | refine s_sl ?_ | refine s_nopart ?_ | refine s_part ?_ | refine s_int ?_ | refine s_bm ?_ | refine s_bm0 ?_ | refine s_gnil ?_ | refine s_gcons ?_ | refine s_gsub ?_
  | refine s_brk ?_ | refine s_cont ?_ | refine s_isS ?_ | refine s_joinU ?_ | refine s_splitU ?_ | refine s_endsU ?_
  | refine s_lc_list ?_ | refine s_lc_tup ?_ | refine s_lc_str ?_ | refine s_lc_rng1 ?_ | refine s_lc_zip ?_ | refine s_lc_zipM ?_ | refine s_star ?_ | refine r_neg ?_ | refine s_for_list ?_ | refine s_for_tup ?_ | refine s_for_str ?_ | refine s_for_rng1 ?_ | refine s_for_enum ?_ | refine s_disp1 ?_ | refine s_disp0 ?_ | refine r_ktI ?_ | refine r_ktN ?_ | refine s_for_rng2 ?_
  | refine r_add_i ?_ | refine r_sub ?_ | refine r_lt_i ?_ | refine r_gt_i ?_ | refine r_le_i ?_ | refine r_ge_i ?_ | refine r_lt_s ?_ | refine r_gt_s ?_ | refine r_le_a ?_ | refine r_le_z ?_ | refine r_le_0 ?_ | refine r_le_9 ?_ | refine r_le_s ?_ | refine r_ge_s ?_
  | refine r_eq_i ?_ | refine r_eq_s ?_ | refine r_eq_b ?_ | refine r_ne_i ?_ | refine r_ne_s ?_ | refine r_ne_b ?_ | refine r_is_n ?_ | refine r_is_b ?_ | refine r_isn_n ?_ | refine r_isn_b ?_ | refine r_and ?_
  | refine r_int_i ?_ | refine r_int_b ?_ | refine r_str_s ?_ | refine r_ord ?_ | refine r_min ?_ | refine r_max ?_ | refine s_itT ?_ | refine s_itF ?_ | refine s_itnt ?_ | refine s_itnf ?_)
local macro_rules | `(tactic| tb_start) => `(tactic| first
  | ((with_reducible refine g_ix ?_); first | refine r_ix_l (by k_subL) (by o_fieldsN) ?_ | refine r_ix_t (by k_subL) (by o_fieldsN) ?_)
  | ((with_reducible refine g_len ?_); first | refine r_len_l (by k_subL) ?_ | refine r_len_t (by k_subL) ?_ | refine r_len_s (by o_readsAll) ?_ | refine r_len_d (by k_subL) ?_)
  | ((with_reducible refine g_mod ?_); refine r_mod (by first | decide | omega) ?_)
  | ((with_reducible refine g_mul ?_); refine r_mul_i (by first | exact Or.inr ⟨by decide, by decide⟩ | exact Or.inl ⟨by decide, by decide⟩ | exact Or.inl ⟨by omega, by omega⟩ | exact Or.inr ⟨by omega, by omega⟩) ?_)
  | ((with_reducible refine g_fdv ?_); refine r_fdv ⟨by decide, by decide⟩ ?_)
  | ((with_reducible refine g_pow ?_); refine r_pow ⟨by decide, by decide, by decide⟩ ?_)
  | ((with_reducible refine g_set ?_); first
    | (refine s_setL (j := 0) (by k_subL) (by rfl) ?_; simp only [List.set_cons_succ, List.set_cons_zero, upd_upd]) | (refine s_setL (j := 1) (by k_subL) (by rfl) ?_; simp only [List.set_cons_succ, List.set_cons_zero, upd_upd])
    | (refine s_setL (j := 2) (by k_subL) (by rfl) ?_; simp only [List.set_cons_succ, List.set_cons_zero, upd_upd]) | (refine s_setL (j := 3) (by k_subL) (by rfl) ?_; simp only [List.set_cons_succ, List.set_cons_zero, upd_upd])
    | (refine s_setL (j := 4) (by k_subL) (by rfl) ?_; simp only [List.set_cons_succ, List.set_cons_zero, upd_upd]))
  | ((with_reducible refine g_add ?_); refine r_add_s (by o_readsAll) ?_)
  | ((with_reducible refine g_new ?_); refine s_new (by o_readsAll) ?_; intro _ _ _ _ _)
  | ((with_reducible refine g_ty ?_); refine s_tyL (by k_subL) ?_) | ((with_reducible refine g_app ?_); refine r_app (by k_subL) (by o_readsAll) ?_)
  | ((with_reducible refine g_isi ?_); first | refine r_isi_int (by k_subL) ?_ | refine r_isi_bool (by k_subL) ?_ | refine r_isi_str (by k_subL) ?_ | refine r_isi_list (by k_subL) ?_ | refine r_isi_tuple (by k_subL) ?_ | refine r_isi_dict (by k_subL) ?_)
  | (intro _ _ _ _ _; tb_rel))
local macro_rules | `(tactic| kfm_turns) => `(tactic| repeat (first | with_reducible refine s_seq ?_ | tb_rel | tb_start))
local macro_rules | `(tactic| kln_le) => `(tactic| repeat (first | tb_rel | tb_start))
local macro_rules | `(tactic| ktu_offI) => `(tactic| with_reducible refine s_seq ?_)
local macro_rules | `(tactic| kpt_turns) => `(tactic| first
  | with_reducible refine s_itd (fun _ => ?_) (fun _ => ?_)
  | with_reducible refine s_itn (fun _ => ?_) (fun _ => ?_)
  | with_reducible refine s_itb (fun _ => ?_) (fun _ => ?_)
  | with_reducible refine s_itbn (fun _ => ?_) (fun _ => ?_))

local macro_rules | `(tactic| kcj_m) => `(tactic| first | exact L2.Same.refl _ | assumption | (refine L2.Same.trans ?_ (by assumption); kcj_m))
local macro_rules | `(tactic| keq_rows) => `(tactic| first
  | assumption | exact rep_non | exact rep_bl | exact rep_int | exact reps_nil | (refine rep_str ?_; decide +kernel) | (refine rep_str ?_; omega)
  | (refine reps_cons ?_ ?_ <;> keq_rows)
  | (refine rep_lst (by k_subL) (by (try simp only [List.length_cons, List.length_nil, List.length_append, List.length_map]); omega) ?_; keq_rows)
  | (refine rep_tup (by k_subL) (by (try simp only [List.length_cons, List.length_nil, List.length_append, List.length_map]); omega) ?_; keq_rows)
  | (refine rep_dct1 (by k_subL) ?_; keq_rows) | exact rep_dct0 (by k_subL)
  | (apply AG.Same.rep; assumption; keq_rows) | (apply AG.Same.reps; assumption; keq_rows))
local macro_rules | `(tactic| kqd_sub) => `(tactic| first | refine s_itT ?_ | refine s_itF ?_ | refine s_itnt ?_ | refine s_itnf ?_)

section
variable {w : World} {K : PySem.W.Frag} {mg : Str → Option Value} {C : Cs}

theorem wordVal_roles {t : Str} {k : Nat} {w : Str} {d : Dat} (h : wordVal t k w = some d) : ∃ r, (rolesOf t)[k - 1]? = some r ∧ partVal r w = some d := by
  unfold wordVal at h
  cases e : (rolesOf t)[k - 1]? with
  | none => rw [e] at h; cases h
  | some r => rw [e] at h; exact ⟨r, rfl, h⟩
theorem partVal_form {r w : Str} {d : Dat} (h : partVal r w = some d) : (r = "name" ∧ d = .str w) ∨ (r ≠ "name" ∧ numS w = true ∧ d = .int (valN w)) := by
  unfold partVal at h
  by_cases e : r = "name"
  · rw [if_pos e] at h
    by_cases hn : nameS w = true
    · rw [if_pos hn] at h
      exact .inl ⟨e, (Option.some.inj h).symm⟩
    · rw [if_neg hn] at h; cases h
  · rw [if_neg e] at h
    by_cases hn : (numS w && partB r (.int (valN w))) = true
    · rw [if_pos hn] at h
      exact .inr ⟨e, (Bool.and_eq_true_iff.mp hn).1, (Option.some.inj h).symm⟩
    · rw [if_neg hn] at h; cases h
theorem p_request_of : Pf_request_of K C := by
  rintro vs H Q E ⟨a, t, r, ps, rfl, ⟨ha, hne, hl, hw⟩, ht, hv, hle, q⟩
  unfold t_request_of
  rw [i_request_of]
  have h0 : atI ((t :: r).map V.str) 0 = some (.str t) := atI_nat (j := 0) rfl
  have h4 : (rolesOf t).length ≤ 4 := (titles_roles t ht).2.2.2.1
  have htl : t.length ≤ 1000000 := hw t List.mem_cons_self
  obtain ⟨hpl, hpv⟩ := valsFrom_len hv
  have hpr : ∀ (i : Nat) p, ps[i]? = some p → ∃ ro w, (rolesOf t)[i]? = some ro ∧ r[i]? = some w ∧ partVal ro w = some p := by
    intro i p hp
    obtain ⟨w, hw1, hw2⟩ := hpv i p hp
    obtain ⟨ro, h1, h2⟩ := wordVal_roles hw2
    rw [show 1 + i - 1 = i by omega] at h1
    exact ⟨ro, w, h1, hw1, h2⟩
  have hrl : ps.length ≤ (rolesOf t).length := by
    by_cases z : ps.length = 0
    · omega
    · obtain ⟨p, hp⟩ : ∃ p, ps[ps.length - 1]? = some p := ⟨_, List.getElem?_eq_getElem (by omega)⟩
      obtain ⟨ro, w, h1, _, _⟩ := hpr _ p hp
      have := (List.getElem?_eq_some_iff.mp h1).1
      omega
  have hfl : ∀ d ∈ ps, flatD d := by
    intro d hd
    obtain ⟨i, hi⟩ := List.getElem?_of_mem hd
    obtain ⟨ro, w, _, _, h⟩ := hpr i d hi
    rcases partVal_form h with ⟨_, rfl⟩ | ⟨_, _, rfl⟩ <;> exact True.intro
  kfm_turns
  refine r_ktG (formsV_of ht) fun p hp => ?_
  kfm_turns
  refine r_sl_l (by k_subL) fun b H1 hb s1 e1 => ?_
  have eb : cutV ((t :: r).map V.str) (some 1) none = r.map V.str := by
    rw [cutV_from (by decide)]
    rfl
  rw [eb] at e1
  kfm_turns
  refine lcB_zipM (K := K) (xs := (rolesOf t).map V.str) (by k_subL) (SqL.of e1) (by simp; omega) (gst_tup (gst_cons (gst_cons gst_nil))) (fun i y H => ∃ d, ps[i]? = some d ∧ Rep K H d y) (fun _ _ _ _ s h => by
    obtain ⟨d, h2, h3⟩ := h
    exact ⟨d, h2, Same.rep s h3⟩) ?_ ?_
  · intro i x y T H2 hx hy s2 hT Q2 q2
    obtain ⟨ro, hr1, rfl⟩ := list_vals hx
    obtain ⟨w, hw1, rfl⟩ := list_vals hy
    have hil : i < ps.length := by rw [hpl]; exact (List.getElem?_eq_some_iff.mp hw1).1
    obtain ⟨d, hd⟩ : ∃ d, ps[i]? = some d := ⟨_, List.getElem?_eq_getElem hil⟩
    obtain ⟨ro', w', h1, h2, h3⟩ := hpr i d hd
    rw [hr1] at h1
    obtain rfl := Option.some.inj h1
    rw [hw1] at h2
    obtain rfl := Option.some.inj h2
    have hwl := hw w (List.mem_cons_of_mem _ (List.mem_of_getElem? hw1))
    refine s_gtup (SqT.of hT) rfl ?_
    kfm_turns
    refine ⟨rfl, ?_⟩
    kfm_turns
    rcases partVal_form h3 with ⟨rfl, rfl⟩ | ⟨hne, hn, rfl⟩
    · kqd_sub
      kfm_turns
      exact q2 _ _ (Same.refl _) ⟨_, hd, rep_str hwl⟩
    · rw [decide_eq_false hne]
      kfm_turns
      have h9 : w.length ≤ 9 := by
        unfold numS at hn
        rw [Bool.and_eq_true, Bool.and_eq_true, Bool.and_eq_true] at hn
        exact of_decide_eq_true hn.1.1.2
      refine r_int_s (int_of_num hn) (by omega) ?_
      exact q2 _ _ (Same.refl _) ⟨_, hd, rep_int⟩
  · intro acc D H2 tt hD s2 e2
    have hlen := tt.len
    rw [List.length_map, List.length_map] at hlen
    have hal : acc.length = ps.length := by omega
    have hreps : Reps K H2 ps acc := turns_reps tt (by simp; omega) fun i y hi h => h
    have hDa : a ≠ D := ne_of_none (s1 _ _ ha) hD
    kfm_turns
    kpt_turns
    · rename_i hlt
      have hlt' : ps.length < (rolesOf t).length := by simp at hlt; omega
      kfm_turns
      refine ⟨D, acc ++ [.int 1], rfl, .inr (SqL.of upd_same), ?_⟩
      kfm_turns
      rename_i p3 H3 hp3 s3 e3
      have sm : Same H1 (upd H2 D (.lst (acc ++ [.int 1]))) := Same.mut s2 hD
      refine q _ _ ((s1.trans sm).trans s3) (rep_tup (SqT.of e3) ?_ ?_)
      · simp; omega
      · rw [List.append_nil, if_pos hlt']
        exact reps_cons (rep_str htl) (Same.reps s3 (reps_snoc (reps_flat (H' := upd H2 D (.lst (acc ++ [.int 1]))) hfl hreps) rep_int))
    · rename_i hlt
      have hlt' : ¬ ps.length < (rolesOf t).length := by simp at hlt; omega
      kfm_turns
      refine ⟨D, acc, rfl, .inr (SqL.of (by k_subL)), ?_⟩
      kfm_turns
      rename_i p3 H3 hp3 s3 e3
      refine q _ _ ((s1.trans s2).trans s3) (rep_tup (SqT.of e3) ?_ ?_)
      · simp; omega
      · rw [List.append_nil, if_neg hlt']
        exact reps_cons (rep_str htl) (Same.reps s3 hreps)
end
end AG
namespace AG
open PySem PySem.Spec L2
local macro_rules | `(tactic| o_readsAll) => `(tactic| first | assumption | (show _ ≤ sizeLine; decide) | (refine sz_of ?_; (try simp only [List.length_cons, List.length_nil, List.length_append, List.length_map]); omega) | (refine sz_lt ?_; (try simp only [List.length_cons, List.length_nil, List.length_append, List.length_map]); omega))
local macro_rules | `(tactic| k_subL) => `(tactic| first
  | assumption
  | exact upd_same
  | (refine (upd_ne (by first | assumption | exact Ne.symm (by assumption))).trans ?_; k_subL)
  | (apply SqT.of; k_subL)
  | (refine AG.Same.app (by assumption) ?_; k_subL)
  | (apply AG.Same.sqT; assumption; k_subL)
  | (refine AG.Same.dr (by assumption) ?_; k_subL)
  | (apply AG.Same.rep; assumption; k_subL)
  | (apply AG.Same.reps; assumption; k_subL))
local macro_rules | `(tactic| o_fieldsN) => `(tactic| first | exact atI_nat (j := 0) rfl | exact atI_nat (j := 1) rfl | exact atI_nat (j := 2) rfl | exact atI_nat (j := 3) rfl | exact atI_nat (j := 4) rfl | assumption)
local macro_rules | `(tactic| tb_rel) => `(tactic| with_reducible first
  | refine s_asg ?_ | refine s_name (by first | (simp only [List.set_cons_succ, List.set_cons_zero]; done) | (simp only [List.set_cons_succ, List.set_cons_zero]; exact rfl) | exact rfl) ?_ | refine s_ret ?_ | refine s_if ?_ | refine s_next ?_ | refine s_drop ?_ | refine s_retN ?_
  | refine s_var (by with_unfolding_all rfl) ?_ | refine s_c ?_ | refine s_op ?_ | refine s_cons ?_ | refine s_nil ?_ | refine s_call ?_ | refine s_cb ?_ | refine s_test ?_ | refine s_bl ?_
  | refine s_B ?_ | refine s_and ?_ | refine s_or ?_ | refine s_not ?_ | refine s_andV ?_ | refine s_orV ?_ | refine s_notV ?_ | refine s_ifE ?_ | refine s_chain ?_ | refine s_un ?_
  | refine s_tupN ?_ | refine s_lstN ?_ | refine s_sl ?_ | refine s_nopart ?_ | refine s_part ?_ | refine s_int ?_ | refine s_bm ?_ | refine s_bm0 ?_ | refine s_gnil ?_ | refine s_gcons ?_ | refine s_gsub ?_
  | refine s_brk ?_ | refine s_cont ?_ | refine s_isS ?_ | refine s_joinU ?_ | refine s_splitU ?_ | refine s_endsU ?_
  | refine s_lc_list ?_ | refine s_lc_tup ?_ | refine s_lc_str ?_ | refine s_lc_rng1 ?_ | refine s_lc_zip ?_ | refine s_lc_zipM ?_ | refine s_star ?_ | refine r_neg ?_ | refine s_for_list ?_ | refine s_for_tup ?_ | refine s_for_str ?_ | refine s_for_rng1 ?_ | refine s_for_enum ?_ | refine s_disp1 ?_ | refine s_disp0 ?_ | refine r_ktI ?_ | refine r_ktN ?_ | refine s_for_rng2 ?_
  | refine r_add_i ?_ | refine r_sub ?_ | refine r_lt_i ?_ | refine r_gt_i ?_ | refine r_le_i ?_ | refine r_ge_i ?_ | refine r_lt_s ?_ | refine r_gt_s ?_ | refine r_le_a ?_ | refine r_le_z ?_ | refine r_le_0 ?_ | refine r_le_9 ?_ | refine r_le_s ?_ | refine r_ge_s ?_
  | refine r_eq_i ?_ | refine r_eq_s ?_ | refine r_eq_b ?_ | refine r_ne_i ?_ | refine r_ne_s ?_ | refine r_ne_b ?_ | refine r_is_n ?_ | refine r_is_b ?_ | refine r_isn_n ?_ | refine r_isn_b ?_ | refine r_and ?_
  | refine r_int_i ?_ | refine r_int_b ?_ | refine r_str_s ?_ | refine r_ord ?_ | refine r_min ?_ | refine r_max ?_ | refine s_itT ?_ | refine s_itF ?_ | refine s_itnt ?_ | refine s_itnf ?_)
local macro_rules | `(tactic| tb_start) => `(tactic| first
  | ((with_reducible refine g_ix ?_); first | refine r_ix_l (by k_subL) (by o_fieldsN) ?_ | refine r_ix_t (by k_subL) (by o_fieldsN) ?_)
  | ((with_reducible refine g_len ?_); first | refine r_len_l (by k_subL) ?_ | refine r_len_t (by k_subL) ?_ | refine r_len_s (by o_readsAll) ?_ | refine r_len_d (by k_subL) ?_)
  | ((with_reducible refine g_mod ?_); refine r_mod (by first | decide | omega) ?_)
  | ((with_reducible refine g_mul ?_); refine r_mul_i (by first | exact Or.inr ⟨by decide, by decide⟩ | exact Or.inl ⟨by decide, by decide⟩ | exact Or.inl ⟨by omega, by omega⟩ | exact Or.inr ⟨by omega, by omega⟩) ?_)
  | ((with_reducible refine g_fdv ?_); refine r_fdv ⟨by decide, by decide⟩ ?_)
  | ((with_reducible refine g_pow ?_); refine r_pow ⟨by decide, by decide, by decide⟩ ?_)
  | ((with_reducible refine g_set ?_); first
    | (refine s_setL (j := 0) (by k_subL) (by rfl) ?_; simp only [List.set_cons_succ, List.set_cons_zero, upd_upd]) | (refine s_setL (j := 1) (by k_subL) (by rfl) ?_; simp only [List.set_cons_succ, List.set_cons_zero, upd_upd])
    | (refine s_setL (j := 2) (by k_subL) (by rfl) ?_; simp only [List.set_cons_succ, List.set_cons_zero, upd_upd]) | (refine s_setL (j := 3) (by k_subL) (by rfl) ?_; simp only [List.set_cons_succ, List.set_cons_zero, upd_upd])
    | (refine s_setL (j := 4) (by k_subL) (by rfl) ?_; simp only [List.set_cons_succ, List.set_cons_zero, upd_upd]))
  | ((with_reducible refine g_add ?_); refine r_add_s (by o_readsAll) ?_)
  | ((with_reducible refine g_new ?_); refine s_new (by o_readsAll) ?_; intro _ _ _ _ _)
  | ((with_reducible refine g_ty ?_); refine s_tyL (by k_subL) ?_) | ((with_reducible refine g_app ?_); refine r_app (by k_subL) (by o_readsAll) ?_)
  | ((with_reducible refine g_isi ?_); first | refine r_isi_int (by k_subL) ?_ | refine r_isi_bool (by k_subL) ?_ | refine r_isi_str (by k_subL) ?_ | refine r_isi_list (by k_subL) ?_ | refine r_isi_tuple (by k_subL) ?_ | refine r_isi_dict (by k_subL) ?_)
  | (intro _ _ _ _ _; tb_rel))
local macro_rules | `(tactic| kfm_turns) => `(tactic| repeat (first | with_reducible refine s_seq ?_ | tb_rel | tb_start))
local macro_rules | `(tactic| kln_le) => `(tactic| repeat (first | tb_rel | tb_start))
local macro_rules | `(tactic| ktu_offI) => `(tactic| with_reducible refine s_seq ?_)
local macro_rules | `(tactic| kpt_turns) => `(tactic| first
  | with_reducible refine s_itd (fun _ => ?_) (fun _ => ?_)
  | with_reducible refine s_itn (fun _ => ?_) (fun _ => ?_)
  | with_reducible refine s_itb (fun _ => ?_) (fun _ => ?_)
  | with_reducible refine s_itbn (fun _ => ?_) (fun _ => ?_))

local macro_rules | `(tactic| kcj_m) => `(tactic| first | exact L2.Same.refl _ | assumption | (refine L2.Same.trans ?_ (by assumption); kcj_m))
local macro_rules | `(tactic| keq_rows) => `(tactic| first
  | assumption | exact rep_non | exact rep_bl | exact rep_int | exact reps_nil | (refine rep_str ?_; decide +kernel) | (refine rep_str ?_; omega)
  | (refine reps_cons ?_ ?_ <;> keq_rows)
  | (refine rep_lst (by k_subL) (by (try simp only [List.length_cons, List.length_nil, List.length_append, List.length_map]); omega) ?_; keq_rows)
  | (refine rep_tup (by k_subL) (by (try simp only [List.length_cons, List.length_nil, List.length_append, List.length_map]); omega) ?_; keq_rows)
  | (refine rep_dct1 (by k_subL) ?_; keq_rows) | exact rep_dct0 (by k_subL)
  | (apply AG.Same.rep; assumption; keq_rows) | (apply AG.Same.reps; assumption; keq_rows))
local macro_rules | `(tactic| kqd_sub) => `(tactic| first | refine s_itT ?_ | refine s_itF ?_ | refine s_itnt ?_ | refine s_itnf ?_)

section
variable {w : World} {K : PySem.W.Frag} {mg : Str → Option Value} {C : Cs}
theorem s_seqT {t u : TS} {D : Ends} {σ : L2.St} {H : Hp} (h : t { D with nx := u D } σ H) : tSeq t u D σ H := h
theorem s_ost0 {f : Str} {to te : TE} {D : Ends} {σ : L2.St} {H : Hp} {C a : Addr} {y : V} (h1 : ∀ R : VK, R y H → te σ H R) (h2 : ∀ R : VK, R (.ref a) H → to σ H R) (T : OexC K C) (no : PySem.W.findIn K (.ref C) f = some none) (ha : H a = some (exo a C none))
    (h : ∀ d, H d = none → d ≠ a → D.nx σ (upd (upd H d (exd d [(f, y)])) a (exo a C (some d)))) : tOst K f to te D σ H :=
  h1 _ (h2 _ ⟨a, C, rfl, T, no, .inl ⟨ha, h⟩⟩)
theorem s_ostT {f : Str} {to te : TE} {D : Ends} {σ : L2.St} {H : Hp} (h : te σ H fun y H1 => to σ H1 fun x H2 => ∃ a C : Addr, x = .ref a ∧ OexC K C ∧ PySem.W.findIn K (.ref C) f = some none ∧
  ((H2 a = some (exo a C none) ∧ ∀ dx, H2 dx = none → dx ≠ a → D.nx σ (upd (upd H2 dx (exd dx [(f, y)])) a (exo a C (some dx)))) ∨
    ∃ (dx : Addr) (fs : List (Str × V)), H2 a = some (exo a C (some dx)) ∧ H2 dx = some (exd dx fs) ∧ fs.length ≤ 900 ∧ D.nx σ (upd H2 dx (exd dx ((f, y) :: fs))))) : tOst K f to te D σ H := h
theorem p_init_BadValue (G : Glob w K mg C) : Pf_init_BadValue K C := by
  rintro vs H Q E ⟨a, y, rfl, ha, q⟩
  unfold t_init_BadValue
  rw [i_init_BadValue]
  refine s_seqT ?_
  refine s_ost0 (C := C.cBadValue) (a := a) (y := y) ?_ ?_ (by exact G.oBadValue) G.nBadValue_parameter ha ?_
  · intro R h; kfm_turns; exact h
  · intro R h; kfm_turns; exact h
  intro d hd hda
  show t_init_BadValue_2 K C ⟨fun _ H' => Q .non H', Q, fun _ _ => False, fun _ _ => False⟩ _ _
  refine s_ostT ?_
  kfm_turns
  rename_i p1 H1 hp1 s1 e1 p2 H2 hp2 s2 e2
  have hHa : upd (upd H d (exd d [("parameter", y)])) a (exo a C.cBadValue (some d)) a = some (exo a C.cBadValue (some d)) := upd_same
  have hHd : upd (upd H d (exd d [("parameter", y)])) a (exo a C.cBadValue (some d)) d = some (exd d [("parameter", y)]) := by rw [upd_ne hda, upd_same]
  have hda2 : H2 a = some (exo a C.cBadValue (some d)) := s2 _ _ (s1 _ _ hHa)
  have hdd2 : H2 d = some (exd d [("parameter", y)]) := s2 _ _ (s1 _ _ hHd)
  refine ⟨a, C.cBadValue, rfl, G.oBadValue, G.nBadValue_told, .inr ⟨d, _, hda2, hdd2, by show 1 ≤ 900; decide, ?_⟩⟩
  have n1 : p1 ≠ d := fun z => by rw [z, hHd] at hp1; cases hp1
  have n2 : p2 ≠ d := fun z => by
    have := s1 _ _ hHd
    rw [z, this] at hp2; cases hp2
  refine q d p1 p2 _ (fun b u hb hu => ?_) hd hda ?_ upd_same ?_ ?_
  · have hbd : b ≠ d := fun z => by rw [z, hd] at hu; cases hu
    rw [upd_ne hbd]
    refine s2 _ _ (s1 _ _ ?_)
    rw [upd_ne hb, upd_ne hbd]
    exact hu
  · rw [upd_ne (Ne.symm hda)]
    exact hda2
  · refine SqT.of ?_
    rw [upd_ne n1]
    exact s2 _ _ e1
  · refine SqT.of ?_
    rw [upd_ne n2]
    exact e2

theorem p_init_BadLine (G : Glob w K mg C) : Pf_init_BadLine K C := by
  rintro vs H Q E ⟨a, y1, y2, rfl, ha, q⟩
  unfold t_init_BadLine
  rw [i_init_BadLine]
  refine s_seqT ?_
  refine s_ost0 (C := C.cBadLine) (a := a) (y := y1) ?_ ?_ (by exact G.oBadLine) G.nBadLine_line ha ?_
  · intro R h; kfm_turns; exact h
  · intro R h; kfm_turns; exact h
  intro d hd hda
  show t_init_BadLine_2 K C ⟨fun _ H' => Q .non H', Q, fun _ _ => False, fun _ _ => False⟩ _ _
  refine s_seqT ?_
  refine s_ostT ?_
  kfm_turns
  have hHa : upd (upd H d (exd d [("line", y1)])) a (exo a C.cBadLine (some d)) a = some (exo a C.cBadLine (some d)) := upd_same
  have hHd : upd (upd H d (exd d [("line", y1)])) a (exo a C.cBadLine (some d)) d = some (exd d [("line", y1)]) := by rw [upd_ne hda, upd_same]
  refine ⟨a, C.cBadLine, rfl, G.oBadLine, G.nBadLine_column, .inr ⟨d, _, hHa, hHd, by show 1 ≤ 900; decide, ?_⟩⟩
  show t_init_BadLine_3 K C ⟨fun _ H' => Q .non H', Q, fun _ _ => False, fun _ _ => False⟩ _ _
  refine s_ostT ?_
  have kHa : upd (upd (upd H d (exd d [("line", y1)])) a (exo a C.cBadLine (some d))) d (exd d [("column", y2), ("line", y1)]) a = some (exo a C.cBadLine (some d)) := by rw [upd_ne (Ne.symm hda), upd_same]
  have kHd : upd (upd (upd H d (exd d [("line", y1)])) a (exo a C.cBadLine (some d))) d (exd d [("column", y2), ("line", y1)]) d = some (exd d [("column", y2), ("line", y1)]) := upd_same
  have kHo : ∀ b u, b ≠ a → H b = some u → upd (upd (upd H d (exd d [("line", y1)])) a (exo a C.cBadLine (some d))) d (exd d [("column", y2), ("line", y1)]) b = some u := fun b u hb hu => by
    have hbd : b ≠ d := fun z => by rw [z, hd] at hu; cases hu
    rw [upd_ne hbd, upd_ne hb, upd_ne hbd]
    exact hu
  generalize hK : upd (upd (upd H d (exd d [("line", y1)])) a (exo a C.cBadLine (some d))) d (exd d [("column", y2), ("line", y1)]) = H0 at kHa kHd kHo
  kfm_turns
  rename_i p1 H1 hp1 s1 e1 p2 H2 hp2 s2 e2
  have hda2 : H2 a = some (exo a C.cBadLine (some d)) := s2 _ _ (s1 _ _ kHa)
  have hdd2 : H2 d = some (exd d [("column", y2), ("line", y1)]) := s2 _ _ (s1 _ _ kHd)
  refine ⟨a, C.cBadLine, rfl, G.oBadLine, G.nBadLine_told, .inr ⟨d, _, hda2, hdd2, by show 2 ≤ 900; decide, ?_⟩⟩
  have n1 : p1 ≠ d := fun z => by rw [z, kHd] at hp1; cases hp1
  have n2 : p2 ≠ d := fun z => by
    have := s1 _ _ kHd
    rw [z, this] at hp2; cases hp2
  refine q d p1 p2 _ (fun b u hb hu => ?_) hd hda ?_ upd_same ?_ ?_
  · have hbd : b ≠ d := fun z => by rw [z, hd] at hu; cases hu
    rw [upd_ne hbd]
    exact s2 _ _ (s1 _ _ (kHo b u hb hu))
  · rw [upd_ne (Ne.symm hda)]
    exact hda2
  · refine SqT.of ?_
    rw [upd_ne n1]
    exact s2 _ _ e1
  · refine SqT.of ?_
    rw [upd_ne n2]
    exact e2
theorem sqT_keep {H H2 : Hp} {t : Addr} {xs : List V} (h : SqT K H t xs) (k : ∀ u, H t = some u → (u = .tup xs ∨ ∃ o, u = .frz o (.tup xs)) → H2 t = some u) : SqT K H2 t xs := by
  rcases h with (h | ⟨o, h⟩) | h
  · exact .inl (.inl (k _ h (.inl rfl)))
  · exact .inl (.inr ⟨o, k _ h (.inr ⟨o, rfl⟩)⟩)
  · exact .inr h
theorem s_raiseBV {E : XK} {D : Ends} {σ : L2.St} {H : Hp} {word : Str} (hE : ExBad K C word E H) : tRaiseX C.cBadValue (sp_init_BadValue K C) E (tCons (tC (.str word)) tNil) D σ H := by
  refine ⟨by show 1 ≤ 1000; decide, fun a ha => ⟨a, .str word, rfl, upd_same, fun d t1 t2 H' keep hd hda hHa hHd ht1 ht2 => ⟨rfl, d, _, hHa, hHd, ?_, ?_⟩⟩⟩
  · rw [upd_ne hda] at hd
    exact hd
  have hd0 : H d = none := by rw [upd_ne hda] at hd; exact hd
  have nta : ∀ {t : Addr} {u : HO} {xs : List V}, H' t = some u → (u = .tup xs ∨ ∃ o, u = .frz o (.tup xs)) → t ≠ a ∧ t ≠ d := by
    intro t u xs hu hc
    constructor
    · intro z
      rw [z, hHa] at hu
      rcases hc with rfl | ⟨o, rfl⟩
      · exact exo_tup (Option.some.inj hu)
      · exact exo_frz (Option.some.inj hu)
    · intro z
      rw [z, hHd] at hu
      rcases hc with rfl | ⟨o, rfl⟩
      · exact exd_tup (Option.some.inj hu)
      · have e := Option.some.inj hu
        have e' : HO.ext _ = HO.frz o (.tup xs) := e
        cases e'
  have kp : ∀ {t : Addr} {xs : List V} (o : HO), SqT K H' t xs → SqT K (upd (del H' a) d o) t xs := fun {t xs} o h => sqT_keep h fun u hu hc => by
    obtain ⟨n1, n2⟩ := nta hu hc
    rw [upd_ne n2, del_ne n1]
    exact hu
  refine hE _ d t1 t2 (fun b u hb => ?_) upd_same (kp _ ht2) (kp _ ht1)
  have hba : b ≠ a := fun z => by rw [z, ha] at hb; cases hb
  have hbd : b ≠ d := fun z => by rw [z, hd0] at hb; cases hb
  rw [upd_ne hbd, del_ne hba]
  exact keep b u hba (by rw [upd_ne hba]; exact hb)
theorem exBad_in {word : Str} {E : XK} {H H1 : Hp} (h : ExBad K C word E H) (s : Same H H1) : ExBad K C word E H1 := fun H' dd t1 t2 s' => h H' dd t1 t2 (s.trans s')
theorem s_raiseBL {E : XK} {D : Ends} {σ : L2.St} {H : Hp} {n c : Nat} (hE : ExLine K C n c E H) : tRaiseX C.cBadLine (sp_init_BadLine K C) E (tCons (tC (.int n)) (tCons (tC (.int c)) tNil)) D σ H := by
  refine ⟨by show 2 ≤ 1000; decide, fun a ha => ⟨a, .int n, .int c, rfl, upd_same, fun d t1 t2 H' keep hd hda hHa hHd ht1 ht2 => ⟨rfl, d, _, hHa, hHd, ?_, ?_⟩⟩⟩
  · rw [upd_ne hda] at hd
    exact hd
  have hd0 : H d = none := by rw [upd_ne hda] at hd; exact hd
  have nta : ∀ {t : Addr} {u : HO} {xs : List V}, H' t = some u → (u = .tup xs ∨ ∃ o, u = .frz o (.tup xs)) → t ≠ a ∧ t ≠ d := by
    intro t u xs hu hc
    constructor
    · intro z
      rw [z, hHa] at hu
      rcases hc with rfl | ⟨o, rfl⟩
      · exact exo_tup (Option.some.inj hu)
      · exact exo_frz (Option.some.inj hu)
    · intro z
      rw [z, hHd] at hu
      rcases hc with rfl | ⟨o, rfl⟩
      · exact exd_tup (Option.some.inj hu)
      · have e := Option.some.inj hu
        have e' : HO.ext _ = HO.frz o (.tup xs) := e
        cases e'
  have kp : ∀ {t : Addr} {xs : List V} (o : HO), SqT K H' t xs → SqT K (upd (del H' a) d o) t xs := fun {t xs} o h => sqT_keep h fun u hu hc => by
    obtain ⟨n1, n2⟩ := nta hu hc
    rw [upd_ne n2, del_ne n1]
    exact hu
  refine hE _ d t1 t2 (fun b u hb => ?_) upd_same (kp _ ht2) (kp _ ht1)
  have hba : b ≠ a := fun z => by rw [z, ha] at hb; cases hb
  have hbd : b ≠ d := fun z => by rw [z, hd0] at hb; cases hb
  rw [upd_ne hbd, del_ne hba]
  exact keep b u hba (by rw [upd_ne hba]; exact hb)
end
end AG
/-! AgSpl: how long the pieces of a split are -/
namespace AG
open PySem PySem.Spec L2
theorem spl_len (S : List Nat) : ∀ (l : List Nat) (k : Nat) (acc : List Nat), (∀ p ∈ TL.spl S k acc l, p.length ≤ acc.length + l.length) ∧ (TL.spl S k acc l).length ≤ l.length + 1 ∧ TL.spl S k acc l ≠ []
  | [], k, acc => by
    rw [TL.spl_nil]
    exact ⟨fun p hp => by rw [List.mem_singleton.mp hp]; omega, by simp, by simp⟩
  | c :: r, 0, acc => by
    cases h : TL.pre S (c :: r) with
    | true =>
      rw [TL.spl_hit h]
      obtain ⟨h1, h2, h3⟩ := spl_len S r (S.length - 1) []
      refine ⟨fun p hp => ?_, by simp; omega, by simp⟩
      rcases List.mem_cons.mp hp with rfl | hp
      · omega
      · have := h1 p hp
        simp at this ⊢
        omega
    | false =>
      rw [TL.spl_miss h]
      obtain ⟨h1, h2, h3⟩ := spl_len S r 0 (acc ++ [c])
      refine ⟨fun p hp => ?_, by simp; omega, h3⟩
      have := h1 p hp
      simp at this ⊢
      omega
  | c :: r, k + 1, acc => by
    have e : TL.spl S (k + 1) acc (c :: r) = TL.spl S k acc r := by
      rw [TL.spl_pass S (k + 1) acc (c :: r), TL.spl_pass S k acc r]
      rfl
    rw [e]
    obtain ⟨h1, h2, h3⟩ := spl_len S r k acc
    refine ⟨fun p hp => ?_, by simp; omega, h3⟩
    have := h1 p hp
    simp
    omega
theorem split_len {s : Str} {c : Nat} {y : Str} (hy : TL.tl y = c :: []) (hk : y.cps.all (· < 256) = true) : (∀ p ∈ Txt.split s y, p.length ≤ s.length) ∧ (Txt.split s y).length ≤ s.length + 1 ∧ Txt.split s y ≠ [] := by
  have e := TL.split_spl s y (by rw [hy]; simp) (TL.kind_ok hk)
  obtain ⟨h1, h2, h3⟩ := spl_len (TL.tl y) (TL.tl s) 0 []
  rw [← e] at h1 h2 h3
  refine ⟨fun p hp => ?_, ?_, ?_⟩
  · have := h1 (TL.tl p) (List.mem_map.mpr ⟨p, hp, rfl⟩)
    rw [← TL.len_tl, ← TL.len_tl] at this
    simpa using this
  · rw [List.length_map, ← TL.len_tl] at h2
    exact h2
  · intro z
    rw [z] at h3
    exact h3 rfl
theorem split_sp (s : Str) : (∀ p ∈ Txt.split s " ", p.length ≤ s.length) ∧ (Txt.split s " ").length ≤ s.length + 1 ∧ Txt.split s " " ≠ [] := split_len sp_tl (by decide +kernel)
theorem split_nl (s : Str) : (∀ p ∈ Txt.split s "\n", p.length ≤ s.length) ∧ (Txt.split s "\n").length ≤ s.length + 1 ∧ Txt.split s "\n" ≠ [] := split_len nl_tl (by decide +kernel)
theorem readLine_eq (line : Str) : readLine line = match badAt (Txt.split line " ") with
    | some k => .inl (colOf (Txt.split line " ") k)
    | none => match Txt.split line " " with
      | [] => .inl 1
      | t :: r => if r.length + 1 < leastOf t then .inl (line.length + 1) else match valsFrom t 1 r with
        | .inl k => .inl (colOf (Txt.split line " ") k)
        | .inr ps => .inr (.tup (.str t :: (if ps.length < (rolesOf t).length then ps ++ [.int 1] else ps))) := rfl
theorem least_int (t : Str) : (if t = "take" then (4 : Int) else ((rolesOf t).length : Int) + 1) = (leastOf t : Int) := by
  unfold leastOf
  split <;> simp
/-- what reading the rest tells of the whole -/
def comb (rs : List Dat) : Sum (Nat × Nat) (List Dat) → Sum (Nat × Nat) (List Dat)
  | .inl e => .inl e
  | .inr ds => .inr (rs ++ ds)
theorem comb_nil (x : Sum (Nat × Nat) (List Dat)) : comb [] x = x := by cases x <;> rfl
theorem comb_snoc (rs : List Dat) (d : Dat) (x : Sum (Nat × Nat) (List Dat)) : comb rs (comb [d] x) = comb (rs ++ [d]) x := by
  cases x with
  | inl e => rfl
  | inr ds => simp [comb]
end AG
namespace AG
open PySem PySem.Spec L2
local macro_rules | `(tactic| o_readsAll) => `(tactic| first | assumption | (show _ ≤ sizeLine; decide) | (refine sz_of ?_; (try simp only [List.length_cons, List.length_nil, List.length_append, List.length_map]); omega) | (refine sz_lt ?_; (try simp only [List.length_cons, List.length_nil, List.length_append, List.length_map]); omega))
local macro_rules | `(tactic| k_subL) => `(tactic| first
  | assumption
  | exact upd_same
  | (refine (upd_ne (by first | assumption | exact Ne.symm (by assumption))).trans ?_; k_subL)
  | (apply SqT.of; k_subL)
  | (refine AG.Same.app (by assumption) ?_; k_subL)
  | (apply AG.Same.sqT; assumption; k_subL)
  | (refine AG.Same.dr (by assumption) ?_; k_subL)
  | (apply AG.Same.rep; assumption; k_subL)
  | (apply AG.Same.reps; assumption; k_subL))
local macro_rules | `(tactic| o_fieldsN) => `(tactic| first | exact atI_nat (j := 0) rfl | exact atI_nat (j := 1) rfl | exact atI_nat (j := 2) rfl | exact atI_nat (j := 3) rfl | exact atI_nat (j := 4) rfl | assumption)
local macro_rules | `(tactic| tb_rel) => `(tactic| with_reducible first
  | refine s_asg ?_ | refine s_name (by first | (simp only [List.set_cons_succ, List.set_cons_zero]; done) | (simp only [List.set_cons_succ, List.set_cons_zero]; exact rfl) | exact rfl) ?_ | refine s_ret ?_ | refine s_if ?_ | refine s_next ?_ | refine s_drop ?_ | refine s_retN ?_
  | refine s_var (by with_unfolding_all rfl) ?_ | refine s_c ?_ | refine s_op ?_ | refine s_cons ?_ | refine s_nil ?_ | refine s_call ?_ | refine s_cb ?_ | refine s_test ?_ | refine s_bl ?_
  | refine s_B ?_ | refine s_and ?_ | refine s_or ?_ | refine s_not ?_ | refine s_andV ?_ | refine s_orV ?_ | refine s_notV ?_ | refine s_ifE ?_ | refine s_chain ?_ | refine s_un ?_
  | refine s_tupN ?_ | refine s_lstN ?_ | refine s_sl ?_ | refine s_nopart ?_ | refine s_part ?_ | refine s_int ?_ | refine s_bm ?_ | refine s_bm0 ?_ | refine s_gnil ?_ | refine s_gcons ?_ | refine s_gsub ?_
  | refine s_brk ?_ | refine s_cont ?_ | refine s_isS ?_ | refine s_joinU ?_ | refine s_splitU ?_ | refine s_endsU ?_
  | refine s_lc_list ?_ | refine s_lc_tup ?_ | refine s_lc_str ?_ | refine s_lc_rng1 ?_ | refine s_lc_zip ?_ | refine s_lc_zipM ?_ | refine s_star ?_ | refine r_neg ?_ | refine s_for_list ?_ | refine s_for_tup ?_ | refine s_for_str ?_ | refine s_for_rng1 ?_ | refine s_for_enum ?_ | refine s_disp1 ?_ | refine s_disp0 ?_ | refine r_ktI ?_ | refine r_ktN ?_ | refine s_for_rng2 ?_
  | refine r_add_i ?_ | refine r_sub ?_ | refine r_lt_i ?_ | refine r_gt_i ?_ | refine r_le_i ?_ | refine r_ge_i ?_ | refine r_lt_s ?_ | refine r_gt_s ?_ | refine r_le_a ?_ | refine r_le_z ?_ | refine r_le_0 ?_ | refine r_le_9 ?_ | refine r_le_s ?_ | refine r_ge_s ?_
  | refine r_eq_i ?_ | refine r_eq_s ?_ | refine r_eq_b ?_ | refine r_ne_i ?_ | refine r_ne_s ?_ | refine r_ne_b ?_ | refine r_is_n ?_ | refine r_is_b ?_ | refine r_isn_n ?_ | refine r_isn_b ?_ | refine r_and ?_
  | refine r_int_i ?_ | refine r_int_b ?_ | refine r_str_s ?_ | refine r_ord ?_ | refine r_min ?_ | refine r_max ?_ | refine s_itT ?_ | refine s_itF ?_ | refine s_itnt ?_ | refine s_itnf ?_)
local macro_rules | `(tactic| tb_start) => `(tactic| first
  | ((with_reducible refine g_ix ?_); first | refine r_ix_l (by k_subL) (by o_fieldsN) ?_ | refine r_ix_t (by k_subL) (by o_fieldsN) ?_)
  | ((with_reducible refine g_len ?_); first | refine r_len_l (by k_subL) ?_ | refine r_len_t (by k_subL) ?_ | refine r_len_s (by o_readsAll) ?_ | refine r_len_d (by k_subL) ?_)
  | ((with_reducible refine g_mod ?_); refine r_mod (by first | decide | omega) ?_)
  | ((with_reducible refine g_mul ?_); refine r_mul_i (by first | exact Or.inr ⟨by decide, by decide⟩ | exact Or.inl ⟨by decide, by decide⟩ | exact Or.inl ⟨by omega, by omega⟩ | exact Or.inr ⟨by omega, by omega⟩) ?_)
  | ((with_reducible refine g_fdv ?_); refine r_fdv ⟨by decide, by decide⟩ ?_)
  | ((with_reducible refine g_pow ?_); refine r_pow ⟨by decide, by decide, by decide⟩ ?_)
  | ((with_reducible refine g_set ?_); first
    | (refine s_setL (j := 0) (by k_subL) (by rfl) ?_; simp only [List.set_cons_succ, List.set_cons_zero, upd_upd]) | (refine s_setL (j := 1) (by k_subL) (by rfl) ?_; simp only [List.set_cons_succ, List.set_cons_zero, upd_upd])
    | (refine s_setL (j := 2) (by k_subL) (by rfl) ?_; simp only [List.set_cons_succ, List.set_cons_zero, upd_upd]) | (refine s_setL (j := 3) (by k_subL) (by rfl) ?_; simp only [List.set_cons_succ, List.set_cons_zero, upd_upd])
    | (refine s_setL (j := 4) (by k_subL) (by rfl) ?_; simp only [List.set_cons_succ, List.set_cons_zero, upd_upd]))
  | ((with_reducible refine g_add ?_); refine r_add_s (by o_readsAll) ?_)
  | ((with_reducible refine g_new ?_); refine s_new (by o_readsAll) ?_; intro _ _ _ _ _)
  | ((with_reducible refine g_ty ?_); refine s_tyL (by k_subL) ?_) | ((with_reducible refine g_app ?_); refine r_app (by k_subL) (by o_readsAll) ?_)
  | ((with_reducible refine g_isi ?_); first | refine r_isi_int (by k_subL) ?_ | refine r_isi_bool (by k_subL) ?_ | refine r_isi_str (by k_subL) ?_ | refine r_isi_list (by k_subL) ?_ | refine r_isi_tuple (by k_subL) ?_ | refine r_isi_dict (by k_subL) ?_)
  | (intro _ _ _ _ _; tb_rel))
local macro_rules | `(tactic| kfm_turns) => `(tactic| repeat (first | with_reducible refine s_seq ?_ | tb_rel | tb_start))
local macro_rules | `(tactic| kln_le) => `(tactic| repeat (first | tb_rel | tb_start))
local macro_rules | `(tactic| ktu_offI) => `(tactic| with_reducible refine s_seq ?_)
local macro_rules | `(tactic| kpt_turns) => `(tactic| first
  | with_reducible refine s_itd (fun _ => ?_) (fun _ => ?_)
  | with_reducible refine s_itn (fun _ => ?_) (fun _ => ?_)
  | with_reducible refine s_itb (fun _ => ?_) (fun _ => ?_)
  | with_reducible refine s_itbn (fun _ => ?_) (fun _ => ?_))

local macro_rules | `(tactic| kcj_m) => `(tactic| first | exact L2.Same.refl _ | assumption | (refine L2.Same.trans ?_ (by assumption); kcj_m))
local macro_rules | `(tactic| keq_rows) => `(tactic| first
  | assumption | exact rep_non | exact rep_bl | exact rep_int | exact reps_nil | (refine rep_str ?_; decide +kernel) | (refine rep_str ?_; omega)
  | (refine reps_cons ?_ ?_ <;> keq_rows)
  | (refine rep_lst (by k_subL) (by (try simp only [List.length_cons, List.length_nil, List.length_append, List.length_map]); omega) ?_; keq_rows)
  | (refine rep_tup (by k_subL) (by (try simp only [List.length_cons, List.length_nil, List.length_append, List.length_map]); omega) ?_; keq_rows)
  | (refine rep_dct1 (by k_subL) ?_; keq_rows) | exact rep_dct0 (by k_subL)
  | (apply AG.Same.rep; assumption; keq_rows) | (apply AG.Same.reps; assumption; keq_rows))
local macro_rules | `(tactic| kqd_sub) => `(tactic| first | refine s_itT ?_ | refine s_itF ?_ | refine s_itnt ?_ | refine s_itnf ?_)

section
variable {w : World} {K : PySem.W.Frag} {mg : Str → Option Value} {C : Cs}
/-- a row: a title and flat parts -/
def rowF (d : Dat) : Prop := ∃ t ps, d = .tup (.str t :: ps) ∧ ∀ d ∈ ps, flatD d
theorem rowF_upd {H : Hp} {R : Addr} {acc : List V} {o : HO} {d : Dat} {v : V} (hR : H R = some (.lst acc)) (hd : rowF d) (h : Rep K H d v) : Rep K (upd H R o) d v := by
  obtain ⟨t, ps, rfl, hq⟩ := hd
  obtain ⟨a, xs, rfl, ha, hl, hs⟩ := rep_tup_inv h
  refine rep_tup (sqT_keep ha fun u hu hc => ?_) hl (reps_flat (fun d hd => ?_) hs)
  · have n : a ≠ R := fun z => by
      rw [z, hR] at hu
      rcases hc with rfl | ⟨o, rfl⟩ <;> cases hu
    rw [upd_ne n]
    exact hu
  · rcases List.mem_cons.mp hd with rfl | hd
    · exact True.intro
    · exact hq d hd
theorem rowsF_upd {H : Hp} {R : Addr} {acc : List V} {o : HO} {ds : List Dat} {xs : List V} (hR : H R = some (.lst acc)) (hd : ∀ d ∈ ds, rowF d) (h : Reps K H ds xs) : Reps K (upd H R o) ds xs :=
  reps_of (reps_len h).symm fun i d x h1 h2 => by
    obtain ⟨d', h3, h4⟩ := reps_get h h2
    rw [h1] at h3
    obtain rfl := Option.some.inj h3
    exact rowF_upd hR (hd d (List.mem_of_getElem? h1)) h4
theorem valsFrom_flat {t : Str} {k : Nat} {r : List Str} {ps : List Dat} (h : valsFrom t k r = .inr ps) : ∀ d ∈ ps, flatD d := by
  intro d hd
  obtain ⟨i, hi⟩ := List.getElem?_of_mem hd
  obtain ⟨w, _, h2⟩ := (valsFrom_len h).2 i d hi
  obtain ⟨ro, _, h3⟩ := wordVal_roles h2
  rcases partVal_form h3 with ⟨_, rfl⟩ | ⟨_, _, rfl⟩ <;> exact True.intro
/-- what readLines answers at a line -/
theorem readLines_cons (o : Bool) (n : Nat) (l : Str) (r : List Str) : readLines o n (l :: r) = match badAt (Txt.split l " ") with
    | some k => .inl (n, colOf (Txt.split l " ") k)
    | none => if o = true ∧ r = [] then .inl (n, l.length + 1) else match readLine l with
      | .inl c => .inl (n, c)
      | .inr d => comb [d] (readLines o (n + 1) r) := by
  rw [readLines]
  cases badAt (Txt.split l " ") with
  | some k => rfl
  | none =>
    simp only
    by_cases c : o = true ∧ r = []
    · rw [if_pos c, if_pos c]
    · rw [if_neg c, if_neg c]
      cases readLine l with
      | inl c => rfl
      | inr d =>
        simp only
        cases readLines o (n + 1) r <;> rfl
theorem exLine_in {n c : Nat} {E : XK} {H H1 : Hp} (h : ExLine K C n c E H) (s : Same H H1) : ExLine K C n c E H1 := fun H' dd t1 t2 s' => h H' dd t1 t2 (s.trans s')
theorem s_raiseArgs2 {E : XK} {D : Ends} {σ : L2.St} {H : Hp} {ta : TA} (h : ta σ H fun vs H1 => tRaiseX C.cBadLine (sp_init_BadLine K C) E (fun _ H k => k vs H) D σ H1) : tRaiseX C.cBadLine (sp_init_BadLine K C) E ta D σ H := h
theorem badAt_none {t : Str} {r : List Str} (h : badAt (t :: r) = none) : t ∈ titlesL ∧ ∃ ps, valsFrom t 1 r = .inr ps := by
  unfold badAt at h
  simp only at h
  by_cases hf : (formsL.lookup t).isSome = true
  · rw [if_pos hf] at h
    cases hv : valsFrom t 1 r with
    | inl k => rw [hv] at h; cases h
    | inr ps =>
      cases hl : formsL.lookup t with
      | none => rw [hl] at hf; cases hf
      | some x => exact ⟨titles_mem hl, ps, rfl⟩
  · rw [if_neg hf] at h
    cases h
abbrev tTail (K : PySem.W.Frag) (C : Cs) (E : XK) : TS :=
  (tSeq (tIfS (tOr (tB (tVar 8)) (tTest (tOp rLtU (tCB (rLenU K) (tCons (tVar 6) tNil)) (tCall (sp_least_words K C) [] E0 (tCons (tOp (rIx K) (tVar 6) (tC (.int 0))) tNil))))) (tRaiseX C.cBadLine (sp_init_BadLine K C) E (tCons (tVar 4) (tCons (tOp (rAddU K) (tCB (rLenU K) (tCons (tVar 5) tNil)) (tC (.int 1))) tNil))) tNext)
      (tDrop (tBM K "list" rAppend (tVar 3) (tCons (tCall (sp_request_of K C) [] E0 (tCons (tVar 6) tNil)) tNil))))
theorem pr_tail {E : XK} {D : Ends} {H6 : Hp} {s line : Str} {b : Bool} {p2 R p5 : Addr} {acc : List V} {n : Nat} {ps : List Dat} {t : Str} {r : List Str} (hws : Txt.split line " " = t :: r) (hwa : wordsAt H6 p5 (Txt.split line " ")) (ht : t ∈ titlesL) (hv : valsFrom t 1 r = .inr ps)
    (ea : H6 R = some (.lst acc)) (hal : acc.length < 1000000) (hll : line.length ≤ 910000) (hbad : badAt (Txt.split line " ") = none)
    (hE : ∀ c, readLine line = .inl c → ExLine K C n c E H6)
    (hQ : ∀ d v H7, readLine line = .inr d → rowF d → Same H6 H7 → Rep K H7 d v → D.nx [some (.str s), some (.bl b), some (.ref p2), some (.ref R), some (.int n), some (.str line), some (.ref p5), some .non, some (.bl false)] (upd H7 R (.lst (acc ++ [v])))) :
    tTail K C E D [some (.str s), some (.bl b), some (.ref p2), some (.ref R), some (.int n), some (.str line), some (.ref p5), some .non, some (.bl false)] H6 := by
  have hw0 : atI ((Txt.split line " ").map V.str) 0 = some (.str t) := atI_nat (j := 0) (by rw [hws]; rfl)
  obtain ⟨e6, hwa2⟩ := hwa
  have hrl : readLine line = (if r.length + 1 < leastOf t then .inl (line.length + 1) else .inr (.tup (.str t :: (if ps.length < (rolesOf t).length then ps ++ [.int 1] else ps)))) := by
    rw [readLine_eq, hbad, hws]
    simp only
    rw [hv]
  have hlen : ((Txt.split line " ").map V.str).length = r.length + 1 := by rw [hws]; simp
  kfm_turns
  refine ⟨t, rfl, ht, ?_⟩
  rw [hlen, least_int]
  kfm_turns
  kpt_turns
  · rename_i hlt
    have hlt' : r.length + 1 < leastOf t := by
      omega
    rw [if_pos hlt'] at hrl
    refine s_raiseArgs2 ?_
    kfm_turns
    have ec2 : ((line.length : Int) + 1) = ((line.length + 1 : Nat) : Int) := by omega
    rw [ec2]
    exact s_raiseBL (hE _ hrl)
  · rename_i hlt
    have hlt' : ¬ r.length + 1 < leastOf t := by
      omega
    rw [if_neg hlt'] at hrl
    kfm_turns
    refine ⟨p5, t, r, ps, rfl, ⟨by rw [← hws]; exact e6, by rw [← hws]; exact hwa2⟩, ht, hv, by omega, fun v H7 s7 hr7 => ?_⟩
    have ea7 := s7 _ _ ea
    kfm_turns
    refine hQ _ v H7 hrl ⟨t, _, rfl, ?_⟩ s7 hr7
    have hf := valsFrom_flat hv
    intro d hd
    split at hd
    · rcases List.mem_append.mp hd with hd | hd
      · exact hf d hd
      · rw [List.mem_singleton.mp hd]; exact True.intro
    · exact hf d hd
def prInv (K : PySem.W.Frag) (p2 R : Addr) (ls : List Str) (s : Str) (op : Bool) (H2 : Hp) (i : Nat) (σ : L2.St) (H' : Hp) : Prop := Same H2 H' ∧ H' p2 = some (.lst (ls.map V.str)) ∧ (∃ acc ds, H' R = some (.lst acc) ∧ acc.length = i ∧ Reps K H' ds acc ∧ (∀ d ∈ ds, rowF d) ∧ readLines op 1 ls = comb ds (readLines op (1 + i) (ls.drop i))) ∧ ∃ y4 y5 y6 y7 y8, σ = [some (.str s), some (.bl (!op)), some (.ref p2), some (.ref R), y4, y5, y6, y7, y8]
theorem pr_loop {Q : VK} {E : XK} {H H2 : Hp} {p2 : Addr} {op : Bool} {s : Str} {ls : List Str} (hnl : ls.length ≤ 910000) (hll : ∀ l ∈ ls, l.length ≤ 910000) (s0 : Same H H2) (e2 : H2 p2 = some (.lst (ls.map V.str)))
    (q : match readLines op 1 ls with
      | .inl (n, c) => ExLine K C n c E H
      | .inr rs => ∀ p xs H', Same H H' → H p = none → H' p = some (.lst xs) → Reps K H' rs xs → Q (.ref p) H') :
    t_parse_requests_5 K C E ⟨fun _ H' => Q .non H', Q, fun _ _ => False, fun _ _ => False⟩ [some (.str s), some (.bl (!op)), some (.ref p2), none, none, none, none, none, none] H2 := by
  kfm_turns
  rename_i R H3 hR s3 e3
  refine forB_enum (K := K) (k0 := 1) (xs := ls.map V.str) (SqL.of (s3 _ _ e2))
    (prInv K p2 R ls s op H2) ⟨s3, s3 _ _ e2, ⟨[], [], e3, rfl, reps_nil, fun _ h => absurd h List.not_mem_nil, (comb_nil _).symm⟩, _, _, _, _, _, rfl⟩ (fun i σ H' _ h => SqL.of h.2.1) ?_ ?_
  · rintro i x T σ H' hx hT ⟨s4, e4, ⟨acc, ds, ea, hal, hra, hrow, hcomb⟩, y4, y5, y6, y7, y8, rfl⟩
    obtain ⟨line, hline, rfl⟩ := list_vals hx
    have hil : i < ls.length := (List.getElem?_eq_some_iff.mp hline).1
    have hdrop : ls.drop i = line :: ls.drop (i + 1) := by
      rw [List.drop_eq_getElem_cons hil]
      rw [(List.getElem?_eq_some_iff.mp hline).2]
    rw [hdrop, readLines_cons] at hcomb
    have hlast : (ls.drop (i + 1) = []) ↔ (1 + i = ls.length) := by
      rw [List.drop_eq_nil_iff]
      omega
    refine s_gtup (SqT.of upd_same) rfl ?_
    have sT := Same.new (o := .tup [.int (1 + (i : Nat)), .str line]) hT
    generalize hH4 : upd H' T (.tup [.int (1 + (i : Nat)), .str line]) = H4 at sT
    have hlln := hll line (List.mem_of_getElem? hline)
    have e4' := sT _ _ e4
    have ea' := sT _ _ ea
    have hra' := Same.reps (K := K) sT hra
    kfm_turns
    refine r_split (by decide +kernel) (sz_of (by omega)) fun p5 H5 hp5 s5 e5 => ?_
    obtain ⟨w1, w2, w3⟩ := split_sp line
    have hwa : wordsAt H5 p5 (Txt.split line " ") := ⟨e5, w3, by omega, fun w hw => by have := w1 w hw; omega⟩
    kfm_turns
    refine ⟨p5, _, rfl, hwa, fun H6 s6 => ?_⟩
    cases hbad : badAt (Txt.split line " ")
    · rw [hbad] at hcomb
      have ec : (1 + (i : Int)) = ((1 + i : Nat) : Int) := by omega
      have s06 := (((((s0.trans s4).trans sT).trans s5).trans s6))
      obtain ⟨t, r, hws⟩ : ∃ t r, Txt.split line " " = t :: r := by
        cases hw : Txt.split line " " with
        | nil => exact absurd hw w3
        | cons t r => exact ⟨t, r, rfl⟩
      obtain ⟨ht, ps, hv⟩ := badAt_none (hws ▸ hbad)
      have hw0 : atI ((Txt.split line " ").map V.str) 0 = some (.str t) := atI_nat (j := 0) (by rw [hws]; rfl)
      have e56 : H6 p5 = some (.lst ((Txt.split line " ").map V.str)) := s6 _ _ e5
      have e46 : H6 p2 = some (.lst (ls.map V.str)) := s6 _ _ (s5 _ _ e4')
      have ea6 : H6 R = some (.lst acc) := s6 _ _ (s5 _ _ ea')
      have hlen1 : decide ((1 + (i : Int)) = ((ls.map V.str).length : Int)) = decide (ls.drop (i + 1) = []) := by
        rw [List.length_map]
        exact decide_eq_decide.mpr (by rw [hlast]; omega)
      kfm_turns
      kqd_sub
      kfm_turns
      have fin : ∀ (D : Ends) (b : Bool), readLines op 1 ls = comb ds (match readLine line with
          | .inl c => .inl (1 + i, c)
          | .inr d => comb [d] (readLines op (1 + i + 1) (ls.drop (i + 1)))) → (∀ σ' H', prInv K p2 R ls s op H2 (i + 1) σ' H' → D.nx σ' H') → b = (!op) → tTail K C E D [some (.str s), some (.bl b), some (.ref p2), some (.ref R), some (.int (1 + (i : Nat))), some (.str line), some (.ref p5), some .non, some (.bl false)] H6 := by
        intro D b hc hD hb
        subst hb
        rw [ec]
        refine pr_tail hws ⟨e56, hwa.2⟩ ht hv ea6 (by omega) hlln hbad (fun c hrl => ?_) (fun d v H7 hrl hf s7 hr7 => hD _ _ ?_)
        · rw [hrl] at hc
          have hc' : readLines op 1 ls = .inl (1 + i, c) := hc
          rw [hc'] at q
          exact exLine_in q s06
        · rw [hrl] at hc
          have hc' : readLines op 1 ls = comb ds (comb [d] (readLines op (1 + i + 1) (ls.drop (i + 1)))) := hc
          rw [comb_snoc] at hc'
          have ea7 := s7 _ _ ea6
          have s47 : Same H' H7 := ((sT.trans s5).trans s6).trans s7
          have hnRp : p2 ≠ R := fun z => by rw [z, hR] at e2; cases e2
          refine ⟨Same.mut (s4.trans s47) hR, by rw [upd_ne hnRp]; exact s7 _ _ e46, ⟨acc ++ [v], ds ++ [d], upd_same, by simp [hal], ?_, ?_, ?_⟩, _, _, _, _, _, rfl⟩
          · exact reps_snoc (rowsF_upd ea7 hrow (Same.reps s47 hra)) (rowF_upd ea7 hf hr7)
          · intro d' hd'
            rcases List.mem_append.mp hd' with hd' | hd'
            · exact hrow d' hd'
            · rw [List.mem_singleton.mp hd']; exact hf
          · rw [show 1 + (i + 1) = 1 + i + 1 by omega]
            exact hc'
      by_cases hla : ls.drop (i + 1) = []
      · rw [hlen1, decide_eq_true hla, if_pos rfl]
        cases op
        · kln_le
          refine fin _ _ (by rw [hcomb, if_neg (fun z => Bool.false_ne_true z.1)]) ?_ rfl
          exact fun _ _ h => h
        · have hc : readLines true 1 ls = .inl (1 + i, line.length + 1) := by
            rw [hcomb]
            show comb ds (if _ then _ else _) = _
            rw [if_pos ⟨rfl, hla⟩]
            rfl
          rw [hc] at q
          kfm_turns
          rw [if_pos (show (!!true) = true from rfl), if_pos rfl]
          refine s_raiseArgs2 ?_
          kfm_turns
          have ec2 : ((line.length : Int) + 1) = ((line.length + 1 : Nat) : Int) := by omega
          rw [ec, ec2]
          exact s_raiseBL (exLine_in q s06)
      · rw [hlen1, decide_eq_false hla, if_neg (by decide)]
        kln_le
        refine fin _ _ (by rw [hcomb, if_neg (fun z => hla z.2)]) ?_ rfl
        exact fun _ _ h => h
    · rename_i k
      rw [hbad] at hcomb
      have hc : readLines op 1 ls = .inl (1 + i, colOf (Txt.split line " ") k) := hcomb
      rw [hc] at q
      have ec : (1 + (i : Int)) = ((1 + i : Nat) : Int) := by omega
      kfm_turns
      kqd_sub
      kfm_turns
      refine s_raiseArgs2 ?_
      kfm_turns
      refine ⟨p5, _, k, rfl, ⟨s6 _ _ e5, hwa.2⟩, fun H7 s7 => ?_⟩
      kfm_turns
      rw [ec]
      exact s_raiseBL (exLine_in q (((((s0.trans s4).trans sT).trans s5).trans s6).trans s7))
  · rintro σ H' ⟨s4, e4, ⟨acc, ds, ea, hal, hra, hrow, hcomb⟩, y4, y5, y6, y7, y8, rfl⟩
    kfm_turns
    rw [List.length_map, List.drop_eq_nil_of_le (Nat.le_refl _)] at hcomb
    have hc : readLines op 1 ls = .inr ds := by
      rw [hcomb]
      show Sum.inr (ds ++ []) = _
      rw [List.append_nil]
    rw [hc] at q
    exact q R acc H' (s0.trans s4) (s0.free hR) ea hra
theorem p_parse_requests : Pf_parse_requests K C := by
  rintro vs H Q E (⟨d, v, rfl, hr, hb, hE⟩ | ⟨s, rfl, hlen, hts, q⟩)
  · unfold t_parse_requests
    rw [i_parse_requests]
    kfm_turns
    refine ⟨d, v, rfl, hr, fun H1 s1 => ?_⟩
    rw [hb]
    kfm_turns
    exact s_raiseBV (exBad_in hE s1)
  · unfold t_parse_requests
    rw [i_parse_requests]
    kfm_turns
    refine ⟨.str s, _, rfl, rep_str (by omega), fun H1 s1 => ?_⟩
    rw [show textB (.str s) = true from hts]
    kfm_turns
    by_cases hne : s = ""
    · subst hne
      have e : readText "" = .inr [] := by unfold readText; rw [if_pos rfl]
      rw [e] at q
      refine s_itdT rfl ?_
      kfm_turns
      rename_i p H2 hp s2 e2
      exact q p _ H2 (s1.trans s2) (s1.free hp) e2 reps_nil
    · refine s_itdF hne ?_
      kfm_turns
      refine ⟨_, _, rfl, rfl, ?_⟩
      cases hen : Txt.endswith s "\n"
      · have hq : readText s = readLines true 1 (Txt.split s "\n") := by
          unfold readText
          rw [if_neg hne, hen]
          rfl
        rw [hq] at q
        obtain ⟨w1, w2, w3⟩ := split_nl s
        kfm_turns
        refine r_split (by decide +kernel) (sz_of (by omega)) fun p2 H2 hp2 s2 e2 => ?_
        kln_le
        exact pr_loop (op := true) (by omega) (fun l hl => by have := w1 l hl; omega) (s1.trans s2) e2 q
      · have hq : readText s = readLines false 1 (Txt.split (Txt.slice s none (some (-1))) "\n") := by
          unfold readText
          rw [if_neg hne, hen]
          rfl
        rw [hq] at q
        obtain ⟨w1, w2, w3⟩ := split_nl (Txt.slice s none (some (-1)))
        have hsl : (Txt.slice s none (some (-1))).length ≤ s.length := PyProof.Txt.length_slice_le s none (some (-1))
        kfm_turns
        refine r_sl_s (sz_of (by omega)) ?_
        kfm_turns
        refine r_split (by decide +kernel) (sz_of (by omega)) fun p2 H2 hp2 s2 e2 => ?_
        kln_le
        exact pr_loop (op := false) (by omega) (fun l hl => by have := w1 l hl; omega) (s1.trans s2) e2 q
end
end AG
/-! AgM1: what the law's own reader tells, plain Lean -/
namespace AG
open PySem PySem.Spec L2
/-! ### powers of two -/
theorem pow_of_and (n : Nat) : 0 < n → n &&& (n - 1) = 0 → ∃ k, n = 2 ^ k := by
  induction n using Nat.strongRecOn with
  | _ n ih =>
    intro h0 h
    have hd : (n &&& (n - 1)) / 2 = 0 := by rw [h]
    rw [Nat.and_div_two] at hd
    rcases Nat.mod_two_eq_zero_or_one n with e | e
    · have e1 : (n - 1) / 2 = n / 2 - 1 := by omega
      rw [e1] at hd
      obtain ⟨k, hk⟩ := ih (n / 2) (by omega) (by omega) hd
      exact ⟨k + 1, by rw [Nat.pow_succ]; omega⟩
    · have e1 : (n - 1) / 2 = n / 2 := by omega
      rw [e1, Nat.and_self] at hd
      exact ⟨0, by omega⟩
theorem powI_pow {i : Int} (h : powI i = true) : ∃ k : Nat, i = 2 ^ k := by
  unfold powI at h
  rw [Bool.and_eq_true] at h
  have h1 := of_decide_eq_true h.1
  have h2 := of_decide_eq_true h.2
  have e : Builtin.bitAnd i (i - 1) = ((i.toNat &&& (i - 1).toNat : Nat) : Int) := by
    unfold Builtin.bitAnd
    rw [decide_eq_true (show 0 ≤ i by omega), decide_eq_true (show 0 ≤ i - 1 by omega)]
  rw [e] at h2
  have e2 : (i - 1).toNat = i.toNat - 1 := by omega
  rw [e2] at h2
  obtain ⟨k, hk⟩ := pow_of_and i.toNat (by omega) (by omega)
  refine ⟨k, ?_⟩
  have e3 : i = ((i.toNat : Nat) : Int) := by omega
  rw [e3, hk]
  simp
theorem pow_lt30 {k : Nat} (h : (2 : Int) ^ k ≤ 536870912) : k < 30 := by
  by_cases z : k < 30
  · exact z
  · exfalso
    have h1 : (2 : Nat) ^ 30 ≤ 2 ^ k := Nat.pow_le_pow_right (by decide) (by omega)
    have h2 : ((2 ^ k : Nat) : Int) = (2 : Int) ^ k := by simp
    omega
/-! ### numbers written -/
theorem numL_head2 : ∀ (n m : Nat), m ≤ n → 0 < m → ∀ c r, TL.numL m = c :: r → c ≠ 48
  | 0, m, h, h0, _, _, _ => by omega
  | n + 1, m, h, h0, c, r, e => by
    by_cases hm : m < 10
    · rw [TL.numL_lt hm] at e
      have := (List.cons.inj e).1
      omega
    · rw [TL.numL_step (by omega)] at e
      cases hd : TL.numL (m / 10) with
      | nil => exact absurd hd (TL.numL_ne _)
      | cons c' r' =>
        rw [hd] at e
        have := (List.cons.inj e).1
        rw [← this]
        exact numL_head2 n (m / 10) (by omega) (by omega) c' r' hd
theorem numS_num {n : Nat} (h : n ≤ 999999999) : numS (Str.ofString (toString (n : Int))) = true ∧ valN (Str.ofString (toString (n : Int))) = n := by
  have hs : Str.ofString (toString (n : Int)) = SX.S (TL.numL n) := SX.num_S n
  have htl : (Str.ofString (toString (n : Int))).cps.toList = TL.numL n := by rw [hs]
  have hlen : (Str.ofString (toString (n : Int))).length = (TL.numL n).length := by rw [hs, SX.S_len]
  have h9 : (TL.numL n).length ≤ 9 := TL.numL_len (by decide) (by omega)
  have h1 : 1 ≤ (TL.numL n).length := List.length_pos_iff.mpr (TL.numL_ne n)
  constructor
  · unfold numS
    rw [hlen, decide_eq_true h9, decide_eq_true h1, htl]
    have hz : (decide ((TL.numL n).head? = some 48) && decide (Str.ofString (toString (n : Int)) ≠ "0")) = false := by
      cases hd : TL.numL n with
      | nil => exact absurd hd (TL.numL_ne n)
      | cons c r =>
        by_cases h0 : 0 < n
        · have hc := numL_head2 n n (Nat.le_refl _) h0 c r hd
          have : ¬ (c :: r).head? = some 48 := fun z => hc (by simpa using z)
          rw [decide_eq_false this, Bool.false_and]
        · have : n = 0 := by omega
          subst this
          have e0 : Str.ofString (toString ((0 : Nat) : Int)) = "0" := by decide +kernel
          have e1 : decide (Str.ofString (toString ((0 : Nat) : Int)) ≠ "0") = false := decide_eq_false fun z => z e0
          rw [e1, Bool.and_false]
    rw [hz]
    show ((true && true && !false) && _) = true
    rw [show ((true && true && !false) : Bool) = true from rfl, Bool.true_and, List.all_eq_true]
    intro c hc
    have h5 : ¬ (c < 48 ∨ 57 < c) := fun z => TL.numL_free (n := n) z hc
    rw [decide_eq_true (show 48 ≤ c by omega), decide_eq_true (show c ≤ 57 by omega)]
    rfl
  · unfold valN
    rw [htl]
    exact TL.numL_val n
theorem partVal_wordOf {r : Str} {p : Dat} (h : partB r p = true) : partVal r (wordOf p) = some p := by
  rcases part_form h with ⟨rfl, s, rfl, hs⟩ | ⟨hn, n, rfl, hi⟩
  · unfold partVal
    rw [if_pos rfl]
    show (if nameS s = true then some (Dat.str s) else none) = _
    rw [if_pos hs]
  · have hle := inRange_le hi
    obtain ⟨h1, h2⟩ := numS_num (n := n) (by omega)
    unfold partVal
    rw [if_neg hn]
    show (if (numS (Str.ofString (toString (n : Int))) && partB r (.int (valN (Str.ofString (toString (n : Int)))))) = true then some (Dat.int (valN (Str.ofString (toString (n : Int))))) else none) = _
    rw [h1, h2, h]
    rfl
/-! ### right words -/
theorem vals_right {t : Str} : ∀ {qs : List Dat} {k : Nat}, (∀ (i : Nat) p, qs[i]? = some p → ∃ r, (rolesOf t)[k + i - 1]? = some r ∧ partB r p = true) → valsFrom t k (qs.map wordOf) = .inr qs
  | [], k, _ => by rw [List.map_nil, valsFrom]
  | p :: qs, k, h => by
    obtain ⟨r, h1, h2⟩ := h 0 p rfl
    have hw : wordVal t k (wordOf p) = some p := by
      unfold wordVal
      rw [show k - 1 = k + 0 - 1 by omega, h1]
      exact partVal_wordOf h2
    have ih := vals_right (t := t) (qs := qs) (k := k + 1) fun i p' hp => by
      obtain ⟨r', a, b⟩ := h (i + 1) p' (by simpa using hp)
      exact ⟨r', by rw [show k + 1 + i - 1 = k + (i + 1) - 1 by omega]; exact a, b⟩
    rw [List.map_cons, valsFrom, hw]
    simp only
    rw [ih]
theorem req_vals {t : Str} {ps : List Dat} (h : Req t ps) (n : Nat) : valsFrom t 1 ((ps.take n).map wordOf) = .inr (ps.take n) := by
  refine vals_right fun i p hp => ?_
  have hi : ps[i]? = some p := by
    have hlt : i < n := by
      have := (List.getElem?_eq_some_iff.mp hp).1
      rw [List.length_take] at this
      omega
    rwa [List.getElem?_take_of_lt hlt] at hp
  obtain ⟨r, h1, h2⟩ := req_part h hi
  exact ⟨r, by rw [show 1 + i - 1 = i by omega]; exact h1, h2⟩
theorem forms_some {t : Str} (h : t ∈ titlesL) : (formsL.lookup t).isSome = true := by rw [(titles_roles t h).1]; rfl
theorem least_ok {t : Str} (h : t ∈ titlesL) : leastOf t ≤ (rolesOf t).length + 1 ∧ (t = "take" → (rolesOf t).length = 4) := by
  revert t
  have : ∀ t ∈ titlesL, leastOf t ≤ (rolesOf t).length + 1 ∧ (t = "take" → (rolesOf t).length = 4) := by decide +kernel
  exact fun {t} h => this t h
/-- the rest of a line is right -/
theorem readLine_of {l t : Str} {r : List Str} (h : Txt.split l " " = t :: r) (ht : t ∈ titlesL) {ps : List Dat} (hv : valsFrom t 1 r = .inr ps) :
    badAt (Txt.split l " ") = none ∧ readLine l = (if r.length + 1 < leastOf t then .inl (l.length + 1) else .inr (.tup (.str t :: (if ps.length < (rolesOf t).length then ps ++ [.int 1] else ps)))) := by
  have hb : badAt (t :: r) = none := by
    rw [badAt, if_pos (forms_some ht), hv]
  refine ⟨by rw [h]; exact hb, ?_⟩
  rw [readLine_eq, h, hb]
  simp only
  rw [hv]
theorem readLine_bad {l : Str} {k : Nat} (h : badAt (Txt.split l " ") = some k) : readLine l = .inl (colOf (Txt.split l " ") k) := by
  rw [readLine_eq, h]
theorem readLine_short {l : Str} {c : Nat} (h : badAt (Txt.split l " ") = none) (e : readLine l = .inl c) : c = l.length + 1 := by
  rw [readLine_eq, h] at e
  simp only at e
  cases hw : Txt.split l " " with
  | nil => exact absurd hw (split_sp l).2.2
  | cons t r =>
    rw [hw] at e h
    simp only at e
    by_cases hl : r.length + 1 < leastOf t
    · rw [if_pos hl] at e
      exact (Sum.inl.inj e).symm
    · rw [if_neg hl] at e
      rw [badAt] at h
      cases hv : valsFrom t 1 r with
      | inl k =>
        rw [hv] at h
        by_cases hf : (formsL.lookup t).isSome = true
        · rw [if_pos hf] at h; cases h
        · rw [if_neg hf] at h; cases h
      | inr ps => rw [hv] at e; cases e
/-- a request's line -/
theorem readLine_right {t : Str} {ps : List Dat} (h : Req t ps) (long : Bool) : badAt (Txt.split (lineS t ps long) " ") = none ∧ readLine (lineS t ps long) = .inr (.tup (.str t :: ps)) := by
  have hs := line_split h long
  obtain ⟨hl1, hl2⟩ := least_ok h.1
  rcases words_cases h long with ⟨ht, _, h4, h3, hw⟩ | ⟨_, hw⟩
  · rw [hw] at hs
    obtain ⟨a, b⟩ := readLine_of hs h.1 (req_vals h 3)
    refine ⟨a, b.trans ?_⟩
    have hl : (ps.take 3).length = 3 := by rw [List.length_take]; omega
    have e4 : leastOf t = 4 := by unfold leastOf; rw [if_pos ht]
    rw [List.length_map, hl, e4, if_neg (by decide), if_pos (by rw [hl2 ht]; decide), take3_one h4 h3]
  · rw [hw] at hs
    have hv := req_vals h ps.length
    rw [List.take_length] at hv
    obtain ⟨a, b⟩ := readLine_of hs h.1 hv
    refine ⟨a, b.trans ?_⟩
    rw [List.length_map, h.2.1, if_neg (by omega), if_neg (by omega)]
/-! ### a text's end -/
theorem pre10 (c : Nat) (r : List Nat) : TL.pre [10] (c :: r) = decide (c = 10) := by
  by_cases h : c = 10
  · subst h
    rw [decide_eq_true rfl]
    exact TL.pre_self [10] r
  · rw [decide_eq_false h]
    exact TL.pre_of_head [] r h
theorem spl_snoc : ∀ (l acc : List Nat), TL.spl [10] 0 acc (l ++ [10]) = TL.spl [10] 0 acc l ++ [[]]
  | [], acc => by
    rw [List.nil_append, TL.spl_hit (by rw [pre10]; rfl), TL.spl_nil, TL.spl_nil]
    rfl
  | c :: r, acc => by
    rw [List.cons_append]
    by_cases h : c = 10
    · have e1 : TL.pre [10] (c :: (r ++ [10])) = true := by rw [pre10]; exact decide_eq_true h
      have e2 : TL.pre [10] (c :: r) = true := by rw [pre10]; exact decide_eq_true h
      rw [TL.spl_hit e1, TL.spl_hit e2]
      show acc :: TL.spl [10] 0 [] (r ++ [10]) = (acc :: TL.spl [10] 0 [] r) ++ [[]]
      rw [spl_snoc r []]
      rfl
    · have e1 : TL.pre [10] (c :: (r ++ [10])) = false := by rw [pre10]; exact decide_eq_false h
      have e2 : TL.pre [10] (c :: r) = false := by rw [pre10]; exact decide_eq_false h
      rw [TL.spl_miss e1, TL.spl_miss e2, spl_snoc r]
theorem spl_last {c : Nat} (hc : c ≠ 10) : ∀ (l acc : List Nat), ∃ ps p, TL.spl [10] 0 acc (l ++ [c]) = ps ++ [p] ∧ p ≠ []
  | [], acc => ⟨[], acc ++ [c], by rw [List.nil_append, TL.spl_miss (by rw [pre10]; exact decide_eq_false hc), TL.spl_nil]; rfl, by simp⟩
  | d :: r, acc => by
    rw [List.cons_append]
    by_cases h : d = 10
    · have e1 : TL.pre [10] (d :: (r ++ [c])) = true := by rw [pre10]; exact decide_eq_true h
      rw [TL.spl_hit e1]
      obtain ⟨ps, p, h1, h2⟩ := spl_last hc r []
      exact ⟨acc :: ps, p, by show acc :: TL.spl [10] 0 [] (r ++ [c]) = _; rw [h1]; rfl, h2⟩
    · have e1 : TL.pre [10] (d :: (r ++ [c])) = false := by rw [pre10]; exact decide_eq_false h
      rw [TL.spl_miss e1]
      exact spl_last hc r _
theorem split_tl (s : Str) : (Txt.split s "\n").map TL.tl = TL.spl [10] 0 [] (TL.tl s) := by
  have := TL.split_spl s "\n" (by rw [nl_tl]; simp) (TL.kind_ok (by decide +kernel))
  rw [nl_tl] at this
  exact this
theorem split_snoc {s a : Str} (h : TL.tl s = TL.tl a ++ [10]) : Txt.split s "\n" = Txt.split a "\n" ++ ([""] : List Str) := by
  apply TL.map_tl_inj
  rw [split_tl, h, spl_snoc, List.map_append, split_tl]
  rfl
theorem split_last {s : Str} {l : List Nat} {c : Nat} (h : TL.tl s = l ++ [c]) (hc : c ≠ 10) : ∃ (ps : List Str) (p : Str), Txt.split s "\n" = ps ++ [p] ∧ p ≠ "" := by
  obtain ⟨ps, p, h1, h2⟩ := spl_last hc l []
  rw [← h, ← split_tl] at h1
  rcases List.eq_nil_or_concat (Txt.split s "\n") with e | ⟨qs, q, e⟩
  · exact absurd e (split_nl s).2.2
  · refine ⟨qs, q, by rw [e]; simp, fun z => ?_⟩
    rw [e] at h1
    subst z
    rw [List.concat_eq_append, List.map_append] at h1
    have := (List.append_inj' h1 rfl).2
    have e3 : TL.tl ("" : Str) = p := by simpa using this
    rw [em_tl] at e3
    exact h2 e3.symm
theorem ends_eq {s : Str} {l : List Nat} {c : Nat} (h : TL.tl s = l ++ [c]) : Txt.endswith s "\n" = decide (c = 10) := by
  have e1 : ("\n" : Str).length = 1 := by decide +kernel
  have el : s.length = l.length + 1 := by rw [TL.len_tl, h]; simp
  have e2 : ("\n" : Str).cps.toList = [10] := nl_tl
  have e' : s.cps.toList = l ++ [c] := h
  unfold Txt.endswith
  rw [StrLaws.subAt_eq, e1, el, Nat.add_sub_cancel, e', e2, List.drop_left, decide_eq_true (show 1 ≤ l.length + 1 by omega), Bool.true_and]
  by_cases hc : c = 10
  · subst hc; rfl
  · rw [decide_eq_false hc]
    simpa using hc
/-! ### the law's own reading of a text -/
def lawLines : Nat → List Str → Sum (Nat × Nat) (List Dat)
  | _, [] => .inr []
  | n, [l] => if l = "" then .inr [] else match readLine l with
    | .inl c => .inl (n, c)
    | .inr _ => .inl (n, l.length + 1)
  | n, l :: r :: rs => match readLine l with
    | .inl c => .inl (n, c)
    | .inr d => comb [d] (lawLines (n + 1) (r :: rs))
theorem lawLines_cons {n : Nat} {l : Str} {r : List Str} (h : r ≠ []) : lawLines n (l :: r) = match readLine l with
    | .inl c => .inl (n, c)
    | .inr d => comb [d] (lawLines (n + 1) r) := by
  cases r with
  | nil => exact absurd rfl h
  | cons a b => rw [lawLines]
theorem readLines_cons2 (o : Bool) (n : Nat) (l : Str) (r : List Str) : readLines o n (l :: r) = if o = true ∧ r = [] then (match readLine l with
    | .inl c => .inl (n, c)
    | .inr _ => .inl (n, l.length + 1)) else match readLine l with
      | .inl c => .inl (n, c)
      | .inr d => comb [d] (readLines o (n + 1) r) := by
  rw [readLines]
  cases hb : badAt (Txt.split l " ") with
  | some k =>
    rw [readLine_bad hb]
    simp only
    split <;> rfl
  | none =>
    simp only
    by_cases c : o = true ∧ r = []
    · rw [if_pos c, if_pos c]
      cases hr : readLine l with
      | inl c' => rw [readLine_short hb hr]
      | inr d => rfl
    · rw [if_neg c, if_neg c]
      cases readLine l with
      | inl c => rfl
      | inr d =>
        simp only
        cases readLines o (n + 1) r <;> rfl
theorem law_ended : ∀ (ls : List Str) (n : Nat), lawLines n (ls ++ ([""] : List Str)) = readLines false n ls
  | [], n => by rw [List.nil_append, lawLines, if_pos rfl, readLines]
  | l :: r, n => by
    rw [List.cons_append, lawLines_cons (by simp), readLines_cons2, if_neg (fun z => Bool.false_ne_true z.1), law_ended r (n + 1)]
theorem law_open {p : Str} (hp : p ≠ "") : ∀ (ls : List Str) (n : Nat), lawLines n (ls ++ [p]) = readLines true n (ls ++ [p])
  | [], n => by
    rw [List.nil_append, lawLines, if_neg hp, readLines_cons2, if_pos ⟨rfl, rfl⟩]
  | l :: r, n => by
    rw [List.cons_append, lawLines_cons (by simp), readLines_cons2, if_neg (fun z => absurd z.2 (by simp)), law_open hp r (n + 1)]
theorem law_text (s : Str) : lawLines 1 (Txt.split s "\n") = readText s := by
  unfold readText
  rcases List.eq_nil_or_concat (TL.tl s) with e | ⟨l, c, e⟩
  · have : s = "" := TL.ext_tl (by rw [e, em_tl])
    subst this
    rw [if_pos rfl]
    have e2 : Txt.split "" "\n" = ([""] : List Str) := by
      apply TL.map_tl_inj
      rw [split_tl, em_tl, TL.spl_nil]
      rfl
    rw [e2, lawLines, if_pos rfl]
  · rw [List.concat_eq_append] at e
    have hne : s ≠ "" := fun z => by rw [z, em_tl] at e; simp at e
    rw [if_neg hne, ends_eq e]
    by_cases hc : c = 10
    · subst hc
      rw [if_pos (show decide (10 = 10) = true from rfl)]
      have ea : Txt.slice s none (some (-1)) = SX.S l := by
        have : s = SX.S (l ++ [10]) := by rw [← e]
        rw [this, SX.butlast_snoc]
      have et : TL.tl (SX.S l) = l := by
        show (SX.S l).cps.toList = l
        first | rfl | simp [SX.S]
      rw [ea, split_snoc (a := SX.S l) (by rw [et]; exact e), law_ended]
    · rw [if_neg (by simpa using hc)]
      obtain ⟨ps, p, h1, h2⟩ := split_last e hc
      rw [h1, law_open h2]
/-! ### texts of lines -/
theorem readLines_good : ∀ {rs : List Dat} {ls : List Str}, LinesOk rs ls → ∀ (o : Bool) (n : Nat) (r : List Str), (o = false ∨ r ≠ []) → readLines o n (ls ++ r) = comb rs (readLines o (n + ls.length) r)
  | [], [], _, o, n, r, _ => by rw [List.nil_append, comb_nil]; rfl
  | [], l :: ls, h, _, _, _, _ => by have := h.1; simp at this
  | d :: rs, [], h, _, _, _, _ => by have := h.1; simp at this
  | d :: rs, l :: ls, h, o, n, r, ho => by
    obtain ⟨t, ps, long, h1, h2, h3⟩ := h.2 0 l rfl
    obtain rfl : d = .tup (.str t :: ps) := by simpa using h1
    subst h3
    have hr := (readLine_right h2 long).2
    have hok : LinesOk rs ls := ⟨by have := h.1; simpa using this, fun i l hl => h.2 (i + 1) l (by simpa using hl)⟩
    have ih := readLines_good hok o (n + 1) r ho
    rw [List.cons_append, readLines_cons2, if_neg, hr]
    · simp only
      rw [ih]
      have e : n + 1 + ls.length = n + (lineS t ps long :: ls).length := by simp; omega
      rw [e]
      cases readLines o (n + (lineS t ps long :: ls).length) r <;> rfl
    · rintro ⟨z1, z2⟩
      rcases ho with ho | ho
      · rw [ho] at z1; cases z1
      · exact ho (List.append_eq_nil_iff.mp z2).2
theorem readText_lines {ls : List Str} (hne : ls ≠ []) (hf : ∀ l ∈ ls, 10 ∉ TL.tl l) : readText (linesS ls) = readLines false 1 ls := by
  unfold readText
  rw [if_neg (lines_ne hne), lines_ends hne, if_pos rfl, lines_cut hne, lines_split hne hf]
theorem readText_right {rs : List Dat} {ls : List Str} (h : LinesOk rs ls) : readText (linesS ls) = .inr rs := by
  by_cases hne : ls = []
  · subst hne
    have : rs = [] := by have := h.1; simpa using this.symm
    subst this
    have e : linesS [] = "" := rfl
    rw [e]
    unfold readText
    rw [if_pos rfl]
  · rw [readText_lines hne fun l hl => (linesOk_mem h l hl).2.1]
    have := readLines_good h false 1 [] (.inl rfl)
    rw [List.append_nil] at this
    rw [this, readLines]
    simp [comb]
theorem readText_bad {rs : List Dat} {ls r : List Str} {b : Str} {c : Nat} (h : LinesOk rs ls) (hb : readLine b = .inl c) (hbf : 10 ∉ TL.tl b) (hr : ∀ l ∈ r, 10 ∉ TL.tl l) : readText (linesS (ls ++ b :: r)) = .inl (ls.length + 1, c) := by
  rw [readText_lines (by simp), readLines_good h false 1 (b :: r) (.inl rfl), readLines_cons2, if_neg (fun z => Bool.false_ne_true z.1), hb]
  · show Sum.inl _ = _
    rw [Nat.add_comm]
  · intro l hl
    rcases List.mem_append.mp hl with hl | hl
    · exact (linesOk_mem h l hl).2.1
    · rcases List.mem_cons.mp hl with rfl | hl
      · exact hbf
      · exact hr l hl
theorem join_one (l : Str) : Txt.join "\n" [l] = l := by
  apply TL.ext_tl
  rw [TL.join_eq, TL.tl_join]
  rfl
theorem joinL_last {S : List Nat} : ∀ (xs : List (List Nat)) (l : List Nat) (c : Nat), ∃ q, TL.joinL S (xs ++ [l ++ [c]]) = q ++ [c]
  | [], l, c => ⟨l, by simp [TL.joinL]⟩
  | [x], l, c => ⟨x ++ S ++ l, by simp [TL.joinL]⟩
  | x :: y :: r, l, c => by
    obtain ⟨q, hq⟩ := joinL_last (S := S) (y :: r) l c
    refine ⟨x ++ S ++ q, ?_⟩
    have e : TL.joinL S (x :: y :: r ++ [l ++ [c]]) = x ++ S ++ TL.joinL S (y :: r ++ [l ++ [c]]) := by simp [TL.joinL]
    rw [e, hq]
    simp
/-- a right line ends with a sign that is no newline -/
theorem line_end {t : Str} {ps : List Dat} (h : Req t ps) (long : Bool) : ∃ l c, TL.tl (lineS t ps long) = l ++ [c] ∧ c ≠ 10 := by
  rcases List.eq_nil_or_concat (TL.tl (lineS t ps long)) with e | ⟨l, c, e⟩
  · exfalso
    have hs : lineS t ps long = "" := TL.ext_tl (by rw [e, em_tl])
    have h1 := (readLine_right h long).1
    rw [hs] at h1
    revert h1
    decide +kernel
  · rw [List.concat_eq_append] at e
    refine ⟨l, c, e, fun z => line_free h long ?_⟩
    rw [e, z]
    simp
theorem readText_open {rs : List Dat} {ls : List Str} {l : Str} (h : LinesOk rs (ls ++ [l])) : readText (Txt.join "\n" (ls ++ [l])) = .inl (ls.length + 1, l.length + 1) := by
  have hm := fun x hx => (linesOk_mem h x hx).2.1
  obtain ⟨t, ps, long, h1, h2, h3⟩ := h.2 ls.length l (by simp)
  subst h3
  obtain ⟨q, c, hq, hc⟩ := line_end h2 long
  have ht : ∃ q, TL.tl (Txt.join "\n" (ls ++ [lineS t ps long])) = q ++ [c] := by
    rw [TL.join_eq, TL.tl_join, List.map_append, List.map_cons, List.map_nil, hq]
    exact joinL_last _ _ _
  obtain ⟨q2, hq2⟩ := ht
  have hne : Txt.join "\n" (ls ++ [lineS t ps long]) ≠ "" := fun z => by rw [z, em_tl] at hq2; simp at hq2
  unfold readText
  rw [if_neg hne, ends_eq hq2, if_neg (by simpa using hc), lines_split (by simp) hm]
  have hok : LinesOk (rs.take ls.length) ls := by
    have hl := h.1
    rw [List.length_append, List.length_singleton] at hl
    refine ⟨by rw [List.length_take]; omega, fun i x hx => ?_⟩
    have hi := (List.getElem?_eq_some_iff.mp hx).1
    obtain ⟨t', ps', long', a1, a2, a3⟩ := h.2 i x (by rw [List.getElem?_append_left hi]; exact hx)
    exact ⟨t', ps', long', by rw [List.getElem?_take_of_lt hi]; exact a1, a2, a3⟩
  rw [readLines_good hok true 1 [lineS t ps long] (.inr (by simp)), readLines_cons2, if_pos ⟨rfl, rfl⟩, (readLine_right h2 long).2]
  show Sum.inl _ = _
  rw [Nat.add_comm]
end AG
namespace AG
open PySem PySem.Spec L2
local macro_rules | `(tactic| o_readsAll) => `(tactic| first | assumption | (show _ ≤ sizeLine; decide) | (refine sz_of ?_; (try simp only [List.length_cons, List.length_nil, List.length_append, List.length_map]); omega) | (refine sz_lt ?_; (try simp only [List.length_cons, List.length_nil, List.length_append, List.length_map]); omega))
local macro_rules | `(tactic| k_subL) => `(tactic| first
  | assumption
  | exact upd_same
  | (refine (upd_ne (by first | assumption | exact Ne.symm (by assumption))).trans ?_; k_subL)
  | (apply SqT.of; k_subL)
  | (refine AG.Same.app (by assumption) ?_; k_subL)
  | (apply AG.Same.sqT; assumption; k_subL)
  | (refine AG.Same.dr (by assumption) ?_; k_subL)
  | (apply AG.Same.rep; assumption; k_subL)
  | (apply AG.Same.reps; assumption; k_subL))
local macro_rules | `(tactic| o_fieldsN) => `(tactic| first | exact atI_nat (j := 0) rfl | exact atI_nat (j := 1) rfl | exact atI_nat (j := 2) rfl | exact atI_nat (j := 3) rfl | exact atI_nat (j := 4) rfl | assumption)
local macro_rules | `(tactic| tb_rel) => `(tactic| with_reducible first
  | refine s_asg ?_ | refine s_name (by first | (simp only [List.set_cons_succ, List.set_cons_zero]; done) | (simp only [List.set_cons_succ, List.set_cons_zero]; exact rfl) | exact rfl) ?_ | refine s_ret ?_ | refine s_if ?_ | refine s_next ?_ | refine s_drop ?_ | refine s_retN ?_
  | refine s_var (by with_unfolding_all rfl) ?_ | refine s_c ?_ | refine s_op ?_ | refine s_cons ?_ | refine s_nil ?_ | refine s_call ?_ | refine s_cb ?_ | refine s_test ?_ | refine s_bl ?_
  | refine s_B ?_ | refine s_and ?_ | refine s_or ?_ | refine s_not ?_ | refine s_andV ?_ | refine s_orV ?_ | refine s_notV ?_ | refine s_ifE ?_ | refine s_chain ?_ | refine s_un ?_
  | refine s_tupN ?_ | refine s_lstN ?_ | refine s_sl ?_ | refine s_nopart ?_ | refine s_part ?_ | refine s_int ?_ | refine s_bm ?_ | refine s_bm0 ?_ | refine s_gnil ?_ | refine s_gcons ?_ | refine s_gsub ?_
  | refine s_brk ?_ | refine s_cont ?_ | refine s_isS ?_ | refine s_joinU ?_ | refine s_splitU ?_ | refine s_endsU ?_
  | refine s_lc_list ?_ | refine s_lc_tup ?_ | refine s_lc_str ?_ | refine s_lc_rng1 ?_ | refine s_lc_zip ?_ | refine s_lc_zipM ?_ | refine s_star ?_ | refine r_neg ?_ | refine s_for_list ?_ | refine s_for_tup ?_ | refine s_for_str ?_ | refine s_for_rng1 ?_ | refine s_for_enum ?_ | refine s_disp1 ?_ | refine s_disp0 ?_ | refine r_ktI ?_ | refine r_ktN ?_ | refine s_for_rng2 ?_
  | refine r_add_i ?_ | refine r_sub ?_ | refine r_lt_i ?_ | refine r_gt_i ?_ | refine r_le_i ?_ | refine r_ge_i ?_ | refine r_lt_s ?_ | refine r_gt_s ?_ | refine r_le_a ?_ | refine r_le_z ?_ | refine r_le_0 ?_ | refine r_le_9 ?_ | refine r_le_s ?_ | refine r_ge_s ?_
  | refine r_eq_i ?_ | refine r_eq_s ?_ | refine r_eq_b ?_ | refine r_ne_i ?_ | refine r_ne_s ?_ | refine r_ne_b ?_ | refine r_is_n ?_ | refine r_is_b ?_ | refine r_isn_n ?_ | refine r_isn_b ?_ | refine r_and ?_
  | refine r_int_i ?_ | refine r_int_b ?_ | refine r_str_s ?_ | refine r_ord ?_ | refine r_min ?_ | refine r_max ?_ | refine s_itT ?_ | refine s_itF ?_ | refine s_itnt ?_ | refine s_itnf ?_)
local macro_rules | `(tactic| tb_start) => `(tactic| first
  | ((with_reducible refine g_ix ?_); first | refine r_ix_l (by k_subL) (by o_fieldsN) ?_ | refine r_ix_t (by k_subL) (by o_fieldsN) ?_)
  | ((with_reducible refine g_len ?_); first | refine r_len_l (by k_subL) ?_ | refine r_len_t (by k_subL) ?_ | refine r_len_s (by o_readsAll) ?_ | refine r_len_d (by k_subL) ?_)
  | ((with_reducible refine g_mod ?_); refine r_mod (by first | decide | omega) ?_)
  | ((with_reducible refine g_mul ?_); refine r_mul_i (by first | exact Or.inr ⟨by decide, by decide⟩ | exact Or.inl ⟨by decide, by decide⟩ | exact Or.inl ⟨by omega, by omega⟩ | exact Or.inr ⟨by omega, by omega⟩) ?_)
  | ((with_reducible refine g_fdv ?_); refine r_fdv ⟨by decide, by decide⟩ ?_)
  | ((with_reducible refine g_pow ?_); refine r_pow ⟨by decide, by decide, by decide⟩ ?_)
  | ((with_reducible refine g_set ?_); first
    | (refine s_setL (j := 0) (by k_subL) (by rfl) ?_; simp only [List.set_cons_succ, List.set_cons_zero, upd_upd]) | (refine s_setL (j := 1) (by k_subL) (by rfl) ?_; simp only [List.set_cons_succ, List.set_cons_zero, upd_upd])
    | (refine s_setL (j := 2) (by k_subL) (by rfl) ?_; simp only [List.set_cons_succ, List.set_cons_zero, upd_upd]) | (refine s_setL (j := 3) (by k_subL) (by rfl) ?_; simp only [List.set_cons_succ, List.set_cons_zero, upd_upd])
    | (refine s_setL (j := 4) (by k_subL) (by rfl) ?_; simp only [List.set_cons_succ, List.set_cons_zero, upd_upd]))
  | ((with_reducible refine g_add ?_); refine r_add_s (by o_readsAll) ?_)
  | ((with_reducible refine g_new ?_); refine s_new (by o_readsAll) ?_; intro _ _ _ _ _)
  | ((with_reducible refine g_ty ?_); refine s_tyL (by k_subL) ?_) | ((with_reducible refine g_app ?_); refine r_app (by k_subL) (by o_readsAll) ?_)
  | ((with_reducible refine g_isi ?_); first | refine r_isi_int (by k_subL) ?_ | refine r_isi_bool (by k_subL) ?_ | refine r_isi_str (by k_subL) ?_ | refine r_isi_list (by k_subL) ?_ | refine r_isi_tuple (by k_subL) ?_ | refine r_isi_dict (by k_subL) ?_)
  | (intro _ _ _ _ _; tb_rel))
local macro_rules | `(tactic| kfm_turns) => `(tactic| repeat (first | with_reducible refine s_seq ?_ | tb_rel | tb_start))
local macro_rules | `(tactic| kln_le) => `(tactic| repeat (first | tb_rel | tb_start))
local macro_rules | `(tactic| ktu_offI) => `(tactic| with_reducible refine s_seq ?_)
local macro_rules | `(tactic| kpt_turns) => `(tactic| first
  | with_reducible refine s_itd (fun _ => ?_) (fun _ => ?_)
  | with_reducible refine s_itn (fun _ => ?_) (fun _ => ?_)
  | with_reducible refine s_itb (fun _ => ?_) (fun _ => ?_)
  | with_reducible refine s_itbn (fun _ => ?_) (fun _ => ?_))

local macro_rules | `(tactic| kcj_m) => `(tactic| first | exact L2.Same.refl _ | assumption | (refine L2.Same.trans ?_ (by assumption); kcj_m))
local macro_rules | `(tactic| keq_rows) => `(tactic| first
  | assumption | exact rep_non | exact rep_bl | exact rep_int | exact reps_nil | (refine rep_str ?_; decide +kernel) | (refine rep_str ?_; omega)
  | (refine reps_cons ?_ ?_ <;> keq_rows)
  | (refine rep_lst (by k_subL) (by (try simp only [List.length_cons, List.length_nil, List.length_append, List.length_map]); omega) ?_; keq_rows)
  | (refine rep_tup (by k_subL) (by (try simp only [List.length_cons, List.length_nil, List.length_append, List.length_map]); omega) ?_; keq_rows)
  | (refine rep_dct1 (by k_subL) ?_; keq_rows) | exact rep_dct0 (by k_subL)
  | (apply AG.Same.rep; assumption; keq_rows) | (apply AG.Same.reps; assumption; keq_rows))
local macro_rules | `(tactic| kqd_sub) => `(tactic| first | refine s_itT ?_ | refine s_itF ?_ | refine s_itnt ?_ | refine s_itnf ?_)

section
variable {w : World} {K : PySem.W.Frag} {mg : Str → Option Value} {C : Cs}
/-- one of a few shown data -/
theorem pick {ds : List Dat} {xs : List V} {H : Hp} {r : Int} (h : Reps K H ds xs) (h0 : 0 ≤ r) (h1 : r < xs.length ∨ r = 0) (hne : xs ≠ []) : ∃ v d, atI xs r = some v ∧ d ∈ ds ∧ Rep K H d v :=
  at_reps h h0 (h1.imp id fun e => ⟨e, hne⟩)
theorem p_law_user : Pf_law_user K C := by
  rintro vs H Q E ⟨d, rfl, hd, q⟩
  unfold t_law_user
  rw [i_law_user]
  kfm_turns
  refine ⟨d, 1, 8, rfl, hd, by decide, fun r H1 s1 g0 g1 => ?_⟩
  kfm_turns
  refine ⟨d, _, rfl, by k_subL, by decide, fun k H2 s2 k0 k1 => ?_⟩
  obtain ⟨v, dd, hv, hm, hrep⟩ := pick (K := K) (ds := [.int 1, .int 1, .int 2, .int 2, .int 8, .int r]) (xs := [V.int 1, V.int 1, V.int 2, V.int 2, V.int 8, V.int r]) (H := H2) (r := k) (by keq_rows) k0 (by simp; omega) (by simp)
  kfm_turns
  simp only [List.mem_cons, List.not_mem_nil, or_false] at hm
  rcases hm with rfl | rfl | rfl | rfl | rfl | rfl <;> (obtain rfl := rep_int_inv hrep; exact q _ _ (by kcj_m) (by omega) (by omega))
theorem p_law_not_text : Pf_law_not_text K C := by
  rintro vs H Q E ⟨d, rfl, hd, q⟩
  unfold t_law_not_text
  rw [i_law_not_text]
  kfm_turns
  refine ⟨d, _, rfl, by k_subL, by decide, fun r H9 s9 r0 r1 => ?_⟩
  refine r_ix_pick (ds := [.non, .int 1, .bl true, .lst [], .lst [.str "tick\n"], .tup [.str "tick\n"], .dct [] [], .str "tick\t\n", .str "\t"]) (by k_subL) (by keq_rows) r0 r1 (by rfl) (by simp) fun v dd hm hrep => ?_
  refine gives_mk q (by kcj_m) hrep ?_
  simp only [List.mem_cons, List.not_mem_nil, or_false] at hm
  rcases hm with rfl | rfl | rfl | rfl | rfl | rfl | rfl | rfl | rfl <;> exact ⟨by decide +kernel, by decide⟩
theorem nameS_lit : ∀ s ∈ (["a", "b", "aa", "ab", "z", "zzzz"] : List Str), nameS s = true := by decide +kernel
theorem p_law_titles : Pf_law_titles K C := by
  rintro vs H Q E ⟨rfl, q⟩
  unfold t_law_titles
  rw [i_law_titles]
  kfm_turns
  rename_i p1 H1 hp1 s1 e1 p2 H2 hp2 s2 e2
  refine r_add_l (by k_subL) e2 (by show 15 ≤ sizeLine; decide) fun p H3 hp s3 e3 => ?_
  exact q _ _ (by kcj_m) e3
def letters : List Nat := [97, 98, 99, 100, 101, 102, 103, 104, 105, 106, 107, 108, 109, 110, 111, 112, 113, 114, 115, 116, 117, 118, 119, 120, 121, 122]
theorem letters_ok : ∀ c ∈ letters, 97 ≤ c ∧ c ≤ 122 := by decide +kernel
theorem cat_ones : ∀ ss : List Str, (∀ s ∈ ss, s.length = 1 ∧ ∀ c ∈ TL.tl s, 97 ≤ c ∧ c ≤ 122) → (catS ss).length = ss.length ∧ ∀ c ∈ TL.tl (catS ss), 97 ≤ c ∧ c ≤ 122
  | [], _ => ⟨by decide, fun c hc => by rw [show TL.tl (catS []) = [] from em_tl] at hc; cases hc⟩
  | x :: r, h => by
    obtain ⟨h1, h2⟩ := h x List.mem_cons_self
    obtain ⟨h3, h4⟩ := cat_ones r fun s hs => h s (List.mem_cons_of_mem _ hs)
    constructor
    · show (x ++ catS r).length = _
      rw [TL.len_tl, TL.tl_append, List.length_append, ← TL.len_tl, ← TL.len_tl, h1, h3, List.length_cons]
      omega
    · intro c hc
      have hc' : c ∈ TL.tl (x ++ catS r) := hc
      rw [TL.tl_append] at hc'
      rcases List.mem_append.mp hc' with hc | hc
      · exact h2 c hc
      · exact h4 c hc
theorem p_law_name : Pf_law_name K C := by
  rintro vs H Q E ⟨d, rfl, hd, q⟩
  unfold t_law_name
  rw [i_law_name]
  kfm_turns
  refine ⟨d, _, rfl, by k_subL, by decide, fun r H1 s1 r0 r1 => ?_⟩
  kfm_turns
  kpt_turns
  · kfm_turns
    rename_i p H2 hp s2 e2
    refine ⟨d, _, rfl, by k_subL, by decide, fun k H3 s3 k0 k1 => ?_⟩
    refine r_ix_pick (ds := [.str "a", .str "b", .str "aa", .str "ab", .str "z", .str "zzzz"]) (by k_subL) (by keq_rows) k0 k1 (by rfl) (by simp) fun v dd hm hrep => ?_
    simp only [List.mem_cons, List.not_mem_nil, or_false] at hm
    rcases hm with rfl | rfl | rfl | rfl | rfl | rfl <;> (obtain ⟨rfl, _⟩ := rep_str_inv hrep; exact q _ _ (by kcj_m) (by decide +kernel))
  · kfm_turns
    refine ⟨d, 1, 4, rfl, by k_subL, by decide, fun n H2 s2 n0 n1 => ?_⟩
    dsimp only
    kfm_turns
    have hn4 : n ≤ 4 := by omega
    refine lcB_rng1 (by omega) (by omega) gst_name (fun i y _ => ∃ s, y = .str s ∧ ∃ c, s = ⟨#[c]⟩ ∧ 97 ≤ c ∧ c ≤ 122) (fun _ _ _ _ _ h => h) ?_ ?_
    · intro i H3 hi s3 Q2 q2
      kfm_turns
      refine ⟨rfl, ?_⟩
      kfm_turns
      refine ⟨d, _, rfl, by k_subL, by decide, fun k H4 s4 k0 k1 => ?_⟩
      have hk : k.toNat < letters.length := by show k.toNat < 26; omega
      refine r_ix_s (c := letters[k.toNat]) (by decide) ?_ ?_
      · have e : ("abcdefghijklmnopqrstuvwxyz" : Str).cps.toList = letters := by decide +kernel
        rw [e]
        have := atI_nat (xs := letters) (j := k.toNat) (List.getElem?_eq_getElem hk)
        rwa [show ((k.toNat : Nat) : Int) = k by omega] at this
      · have := letters_ok _ (List.getElem_mem hk)
        exact q2 _ _ s4 ⟨_, rfl, _, rfl, this.1, this.2⟩
    · intro acc D H3 tt hD s3 e3
      obtain ⟨ss, hl, rfl, hp⟩ := turns_str tt
      have hone : ∀ s ∈ ss, s.length = 1 ∧ ∀ c ∈ TL.tl s, 97 ≤ c ∧ c ≤ 122 := by
        intro s hs
        obtain ⟨i, hi⟩ := List.getElem?_of_mem hs
        obtain ⟨c, rfl, h1, h2⟩ := hp i s hi
        refine ⟨rfl, fun c' hc => ?_⟩
        have : c' = c := by simpa [TL.tl] using hc
        rw [this]
        exact ⟨h1, h2⟩
      obtain ⟨h1, h2⟩ := cat_ones ss hone
      refine ⟨_, D, ss, rfl, rfl, .inl (SqL.of e3), ?_, ?_⟩
      · have e1 : ("" : Str).length = 0 := by decide +kernel
        have key : ∀ l : List Str, (∀ s ∈ l, s.length = 1) → (l.map (·.length)).sum = l.length := by
          intro l
          induction l with
          | nil => intro _; rfl
          | cons x r ih =>
            intro h
            rw [List.map_cons, List.sum_cons, ih fun s hs => h s (List.mem_cons_of_mem _ hs), h x List.mem_cons_self, List.length_cons]
            omega
        rw [e1, key ss fun s hs => (hone s hs).1]
        omega
      · rw [join_cat]
        refine q _ _ (by kcj_m) ?_
        unfold nameS
        rw [h1, hl, decide_eq_true (show 1 ≤ n.toNat by omega), decide_eq_true (show n.toNat ≤ 4 by omega), Bool.true_and, Bool.true_and, List.all_eq_true]
        intro c hc
        obtain ⟨a1, a2⟩ := h2 c hc
        rw [decide_eq_true a1, decide_eq_true a2]
        rfl
theorem p_law_part_bounds : Pf_law_part_bounds K C := by
  rintro vs H Q E ⟨t, rfl, q⟩
  unfold t_law_part_bounds
  rw [i_law_part_bounds]
  kfm_turns
  kpt_turns
  · rename_i h
    subst h
    have q2 : ∀ p xs H', Same H H' → H' p = some (.lst xs) → Reps K H' [.tup [.int 1, .int 999999999]] xs → Q (.ref p) H' := fun p xs H' s h r => q p xs H' s h (by rw [show boundsOf "take" = [(1, 999999999)] by decide +kernel]; exact r)
    kfm_turns
    exact q2 _ _ _ (by kcj_m) (by k_subL) (by keq_rows)
  rename_i h0
  kfm_turns
  kpt_turns
  · rename_i h
    subst h
    have q2 : ∀ p xs H', Same H H' → H' p = some (.lst xs) → Reps K H' [.tup [.int 1, .int 999999999]] xs → Q (.ref p) H' := fun p xs H' s h r => q p xs H' s h (by rw [show boundsOf "resize" = [(1, 999999999)] by decide +kernel]; exact r)
    kfm_turns
    exact q2 _ _ _ (by kcj_m) (by k_subL) (by keq_rows)
  rename_i h1
  kfm_turns
  kpt_turns
  · rename_i h
    subst h
    have q2 : ∀ p xs H', Same H H' → H' p = some (.lst xs) → Reps K H' [.tup [.int 1, .int 8]] xs → Q (.ref p) H' := fun p xs H' s h r => q p xs H' s h (by rw [show boundsOf "pass" = [(1, 8)] by decide +kernel]; exact r)
    kfm_turns
    exact q2 _ _ _ (by kcj_m) (by k_subL) (by keq_rows)
  rename_i h2
  kfm_turns
  kpt_turns
  · rename_i h
    subst h
    have q2 : ∀ p xs H', Same H H' → H' p = some (.lst xs) → Reps K H' [.tup [.int 1, .int 8]] xs → Q (.ref p) H' := fun p xs H' s h r => q p xs H' s h (by rw [show boundsOf "share" = [(1, 8)] by decide +kernel]; exact r)
    kfm_turns
    exact q2 _ _ _ (by kcj_m) (by k_subL) (by keq_rows)
  rename_i h3
  kfm_turns
  kpt_turns
  · rename_i h
    subst h
    have q2 : ∀ p xs H', Same H H' → H' p = some (.lst xs) → Reps K H' [.tup [.int 0, .int 999999999], .tup [.int 0, .int 65535]] xs → Q (.ref p) H' := fun p xs H' s h r => q p xs H' s h (by rw [show boundsOf "put" = [(0, 999999999), (0, 65535)] by decide +kernel]; exact r)
    kfm_turns
    exact q2 _ _ _ (by kcj_m) (by k_subL) (by keq_rows)
  rename_i h4
  kfm_turns
  kpt_turns
  · rename_i h
    subst h
    have q2 : ∀ p xs H', Same H H' → H' p = some (.lst xs) → Reps K H' [.tup [.int 0, .int 999999999], .tup [.int 0, .int 65535]] xs → Q (.ref p) H' := fun p xs H' s h r => q p xs H' s h (by rw [show boundsOf "store" = [(0, 999999999), (0, 65535)] by decide +kernel]; exact r)
    kfm_turns
    exact q2 _ _ _ (by kcj_m) (by k_subL) (by keq_rows)
  rename_i h5
  kfm_turns
  kpt_turns
  · rename_i h
    subst h
    have q2 : ∀ p xs H', Same H H' → H' p = some (.lst xs) → Reps K H' [.tup [.int 0, .int 999999999]] xs → Q (.ref p) H' := fun p xs H' s h r => q p xs H' s h (by rw [show boundsOf "get" = [(0, 999999999)] by decide +kernel]; exact r)
    kfm_turns
    exact q2 _ _ _ (by kcj_m) (by k_subL) (by keq_rows)
  rename_i h6
  kfm_turns
  kpt_turns
  · rename_i h
    subst h
    have q2 : ∀ p xs H', Same H H' → H' p = some (.lst xs) → Reps K H' [.tup [.int 0, .int 999999999]] xs → Q (.ref p) H' := fun p xs H' s h r => q p xs H' s h (by rw [show boundsOf "load" = [(0, 999999999)] by decide +kernel]; exact r)
    kfm_turns
    exact q2 _ _ _ (by kcj_m) (by k_subL) (by keq_rows)
  rename_i h7
  kfm_turns
  kpt_turns
  · rename_i h
    subst h
    have q2 : ∀ p xs H', Same H H' → H' p = some (.lst xs) → Reps K H' [.tup [.int 1, .int 32]] xs → Q (.ref p) H' := fun p xs H' s h r => q p xs H' s h (by rw [show boundsOf "map" = [(1, 32)] by decide +kernel]; exact r)
    kfm_turns
    exact q2 _ _ _ (by kcj_m) (by k_subL) (by keq_rows)
  rename_i h8
  kfm_turns
  kpt_turns
  · rename_i h
    subst h
    have q2 : ∀ p xs H', Same H H' → H' p = some (.lst xs) → Reps K H' [.tup [.int 0, .int 2]] xs → Q (.ref p) H' := fun p xs H' s h r => q p xs H' s h (by rw [show boundsOf "protect" = [(0, 2)] by decide +kernel]; exact r)
    kfm_turns
    exact q2 _ _ _ (by kcj_m) (by k_subL) (by keq_rows)
  rename_i h9
  kfm_turns
  have e : boundsOf t = [] := by
    unfold boundsOf
    rw [if_neg (by intro z; rcases z with z | z; exact h0 z; exact h1 z), if_neg (by intro z; rcases z with z | z; exact h2 z; exact h3 z), if_neg (by intro z; rcases z with z | z; exact h4 z; exact h5 z), if_neg (by intro z; rcases z with z | z; exact h6 z; exact h7 z), if_neg h8, if_neg h9]
  exact q _ _ _ (by kcj_m) (by k_subL) (by rw [e]; exact reps_nil)
end
end AG
namespace AG
open PySem PySem.Spec L2
local macro_rules | `(tactic| o_readsAll) => `(tactic| first | assumption | (show _ ≤ sizeLine; decide) | (refine sz_of ?_; (try simp only [List.length_cons, List.length_nil, List.length_append, List.length_map]); omega) | (refine sz_lt ?_; (try simp only [List.length_cons, List.length_nil, List.length_append, List.length_map]); omega))
local macro_rules | `(tactic| k_subL) => `(tactic| first
  | assumption
  | exact upd_same
  | (refine (upd_ne (by first | assumption | exact Ne.symm (by assumption))).trans ?_; k_subL)
  | (apply SqT.of; k_subL)
  | (refine AG.Same.app (by assumption) ?_; k_subL)
  | (apply AG.Same.sqT; assumption; k_subL)
  | (refine AG.Same.dr (by assumption) ?_; k_subL)
  | (apply AG.Same.rep; assumption; k_subL)
  | (apply AG.Same.reps; assumption; k_subL))
local macro_rules | `(tactic| o_fieldsN) => `(tactic| first | exact atI_nat (j := 0) rfl | exact atI_nat (j := 1) rfl | exact atI_nat (j := 2) rfl | exact atI_nat (j := 3) rfl | exact atI_nat (j := 4) rfl | assumption)
local macro_rules | `(tactic| tb_rel) => `(tactic| with_reducible first
  | refine s_asg ?_ | refine s_name (by first | (simp only [List.set_cons_succ, List.set_cons_zero]; done) | (simp only [List.set_cons_succ, List.set_cons_zero]; exact rfl) | exact rfl) ?_ | refine s_ret ?_ | refine s_if ?_ | refine s_next ?_ | refine s_drop ?_ | refine s_retN ?_
  | refine s_var (by with_unfolding_all rfl) ?_ | refine s_c ?_ | refine s_op ?_ | refine s_cons ?_ | refine s_nil ?_ | refine s_call ?_ | refine s_cb ?_ | refine s_test ?_ | refine s_bl ?_
  | refine s_B ?_ | refine s_and ?_ | refine s_or ?_ | refine s_not ?_ | refine s_andV ?_ | refine s_orV ?_ | refine s_notV ?_ | refine s_ifE ?_ | refine s_chain ?_ | refine s_un ?_
  | refine s_tupN ?_ | refine s_lstN ?_ | refine s_sl ?_ | refine s_nopart ?_ | refine s_part ?_ | refine s_int ?_ | refine s_bm ?_ | refine s_bm0 ?_ | refine s_gnil ?_ | refine s_gcons ?_ | refine s_gsub ?_
  | refine s_brk ?_ | refine s_cont ?_ | refine s_isS ?_ | refine s_joinU ?_ | refine s_splitU ?_ | refine s_endsU ?_
  | refine s_lc_list ?_ | refine s_lc_tup ?_ | refine s_lc_str ?_ | refine s_lc_rng1 ?_ | refine s_lc_zip ?_ | refine s_lc_zipM ?_ | refine s_star ?_ | refine r_neg ?_ | refine s_for_list ?_ | refine s_for_tup ?_ | refine s_for_str ?_ | refine s_for_rng1 ?_ | refine s_for_enum ?_ | refine s_disp1 ?_ | refine s_disp0 ?_ | refine r_ktI ?_ | refine r_ktN ?_ | refine s_for_rng2 ?_
  | refine r_add_i ?_ | refine r_sub ?_ | refine r_lt_i ?_ | refine r_gt_i ?_ | refine r_le_i ?_ | refine r_ge_i ?_ | refine r_lt_s ?_ | refine r_gt_s ?_ | refine r_le_a ?_ | refine r_le_z ?_ | refine r_le_0 ?_ | refine r_le_9 ?_ | refine r_le_s ?_ | refine r_ge_s ?_
  | refine r_eq_i ?_ | refine r_eq_s ?_ | refine r_eq_b ?_ | refine r_ne_i ?_ | refine r_ne_s ?_ | refine r_ne_b ?_ | refine r_is_n ?_ | refine r_is_b ?_ | refine r_isn_n ?_ | refine r_isn_b ?_ | refine r_and ?_
  | refine r_int_i ?_ | refine r_int_b ?_ | refine r_str_s ?_ | refine r_ord ?_ | refine r_min ?_ | refine r_max ?_ | refine s_itT ?_ | refine s_itF ?_ | refine s_itnt ?_ | refine s_itnf ?_)
local macro_rules | `(tactic| tb_start) => `(tactic| first
  | ((with_reducible refine g_ix ?_); first | refine r_ix_l (by k_subL) (by o_fieldsN) ?_ | refine r_ix_t (by k_subL) (by o_fieldsN) ?_)
  | ((with_reducible refine g_len ?_); first | refine r_len_l (by k_subL) ?_ | refine r_len_t (by k_subL) ?_ | refine r_len_s (by o_readsAll) ?_ | refine r_len_d (by k_subL) ?_)
  | ((with_reducible refine g_mod ?_); refine r_mod (by first | decide | omega) ?_)
  | ((with_reducible refine g_mul ?_); refine r_mul_i (by first | exact Or.inr ⟨by decide, by decide⟩ | exact Or.inl ⟨by decide, by decide⟩ | exact Or.inl ⟨by omega, by omega⟩ | exact Or.inr ⟨by omega, by omega⟩) ?_)
  | ((with_reducible refine g_fdv ?_); refine r_fdv ⟨by decide, by decide⟩ ?_)
  | ((with_reducible refine g_pow ?_); refine r_pow ⟨by decide, by decide, by decide⟩ ?_)
  | ((with_reducible refine g_set ?_); first
    | (refine s_setL (j := 0) (by k_subL) (by rfl) ?_; simp only [List.set_cons_succ, List.set_cons_zero, upd_upd]) | (refine s_setL (j := 1) (by k_subL) (by rfl) ?_; simp only [List.set_cons_succ, List.set_cons_zero, upd_upd])
    | (refine s_setL (j := 2) (by k_subL) (by rfl) ?_; simp only [List.set_cons_succ, List.set_cons_zero, upd_upd]) | (refine s_setL (j := 3) (by k_subL) (by rfl) ?_; simp only [List.set_cons_succ, List.set_cons_zero, upd_upd])
    | (refine s_setL (j := 4) (by k_subL) (by rfl) ?_; simp only [List.set_cons_succ, List.set_cons_zero, upd_upd]))
  | ((with_reducible refine g_add ?_); refine r_add_s (by o_readsAll) ?_)
  | ((with_reducible refine g_new ?_); refine s_new (by o_readsAll) ?_; intro _ _ _ _ _)
  | ((with_reducible refine g_ty ?_); refine s_tyL (by k_subL) ?_) | ((with_reducible refine g_app ?_); refine r_app (by k_subL) (by o_readsAll) ?_)
  | ((with_reducible refine g_isi ?_); first | refine r_isi_int (by k_subL) ?_ | refine r_isi_bool (by k_subL) ?_ | refine r_isi_str (by k_subL) ?_ | refine r_isi_list (by k_subL) ?_ | refine r_isi_tuple (by k_subL) ?_ | refine r_isi_dict (by k_subL) ?_)
  | (intro _ _ _ _ _; tb_rel))
local macro_rules | `(tactic| kfm_turns) => `(tactic| repeat (first | with_reducible refine s_seq ?_ | tb_rel | tb_start))
local macro_rules | `(tactic| kln_le) => `(tactic| repeat (first | tb_rel | tb_start))
local macro_rules | `(tactic| ktu_offI) => `(tactic| with_reducible refine s_seq ?_)
local macro_rules | `(tactic| kpt_turns) => `(tactic| first
  | with_reducible refine s_itd (fun _ => ?_) (fun _ => ?_)
  | with_reducible refine s_itn (fun _ => ?_) (fun _ => ?_)
  | with_reducible refine s_itb (fun _ => ?_) (fun _ => ?_)
  | with_reducible refine s_itbn (fun _ => ?_) (fun _ => ?_))

local macro_rules | `(tactic| kcj_m) => `(tactic| first | exact L2.Same.refl _ | assumption | (refine L2.Same.trans ?_ (by assumption); kcj_m))
local macro_rules | `(tactic| keq_rows) => `(tactic| first
  | assumption | exact rep_non | exact rep_bl | exact rep_int | exact reps_nil | (refine rep_str ?_; decide +kernel) | (refine rep_str ?_; omega)
  | (refine reps_cons ?_ ?_ <;> keq_rows)
  | (refine rep_lst (by k_subL) (by (try simp only [List.length_cons, List.length_nil, List.length_append, List.length_map]); omega) ?_; keq_rows)
  | (refine rep_tup (by k_subL) (by (try simp only [List.length_cons, List.length_nil, List.length_append, List.length_map]); omega) ?_; keq_rows)
  | (refine rep_dct1 (by k_subL) ?_; keq_rows) | exact rep_dct0 (by k_subL)
  | (apply AG.Same.rep; assumption; keq_rows) | (apply AG.Same.reps; assumption; keq_rows))
local macro_rules | `(tactic| kqd_sub) => `(tactic| first | refine s_itT ?_ | refine s_itF ?_ | refine s_itnt ?_ | refine s_itnf ?_)

section
variable {w : World} {K : PySem.W.Frag} {mg : Str → Option Value} {C : Cs}
theorem mids_ok : ∀ t ∈ titlesL, (∀ r ∈ midOf t, r ≠ "name" ∧ r ≠ "align" ∧ 0 ≤ (rng r).1 ∧ (rng r).1 ≤ (rng r).2 ∧ (rng r).2 ≤ 999999999) ∧ (midOf t).length ≤ 2 := by decide +kernel
theorem pows_ok : ∀ k ∈ List.range 30, partB "align" (.int ((2 : Int) ^ k)) = true := by decide +kernel
theorem users_ok {u : Int} (h1 : 1 ≤ u) (h2 : u ≤ 8) : partB "user" (.int u) = true := by
  have e : partB "user" (.int u) = (inRange "user" u && (!decide (("user" : Str) = "align") || powI u)) := by
    rw [partB]
    rfl
  have e2 : decide (("user" : Str) = "align") = false := by decide +kernel
  have e3 : rng "user" = (1, 8) := by decide +kernel
  rw [e, e2]
  unfold inRange
  rw [e3, decide_eq_true (show ((1, 8) : Int × Int).1 ≤ u from h1), decide_eq_true (show u ≤ ((1, 8) : Int × Int).2 from h2)]
  rfl
theorem partB_mid {r : Str} {i : Int} (h1 : r ≠ "name") (h2 : r ≠ "align") (h3 : (rng r).1 ≤ i) (h4 : i ≤ (rng r).2) : partB r (.int i) = true := by
  rw [partB, if_neg h1]
  unfold inRange
  rw [decide_eq_true h3, decide_eq_true h4, decide_eq_false h2]
  rfl
theorem bound_get {t : Str} (ht : t ∈ titlesL) {i : Nat} {d : Dat} (h : ((boundsOf t).map boundD)[i]? = some d) : ∃ r, (midOf t)[i]? = some r ∧ d = .tup [.int (rng r).1, .int (rng r).2] := by
  rw [(titles_roles t ht).2.1, List.map_map, List.getElem?_map] at h
  cases e : (midOf t)[i]? with
  | none => rw [e] at h; cases h
  | some r => rw [e] at h; exact ⟨r, rfl, (Option.some.inj h).symm⟩
theorem p_law_request : Pf_law_request K C := by
  rintro vs H Q E ⟨d, rfl, hd, q⟩
  unfold t_law_request
  rw [i_law_request]
  kfm_turns
  refine ⟨rfl, fun p H1 s1 e1 => ?_⟩
  kfm_turns
  refine ⟨d, p, _, rfl, by k_subL, e1, by decide, by decide, fun x H2 s2 hx => ?_⟩
  obtain ⟨t, ht, rfl⟩ := List.mem_map.mp hx
  have done : ∀ a xs (ps : List Dat) H', Same H H' → SqT K H' a xs → Reps K H' (.str t :: ps) xs → ps.length = (rolesOf t).length → (∀ (i : Nat) r p, (rolesOf t)[i]? = some r → ps[i]? = some p → partB r p = true) → Q (.ref a) H' := by
    intro a xs ps H' s' ha hx hl hp
    have h4 := (titles_roles t ht).2.2.2.1
    refine q (.tup (.str t :: ps)) _ H' s' (rep_tup ha ?_ hx) (reqB_iff.mpr ⟨ht, hl, hp⟩)
    rw [reps_len hx, List.length_cons]
    omega
  have title : Rep K H2 (.str t) (.str t) := rep_str (by have := (title_word ht).1; omega)
  have stop : t = "tick" ∨ t = "settle" → rolesOf t = [] := fun h => by unfold rolesOf; rw [if_pos h]
  have two : t = "tick" ∨ t = "settle" → tTupN (tCons (tVar 1) tNil) [some d, some (.str t), none, none, none] H2 Q := by
    intro h
    kfm_turns
    refine done _ _ [] _ (by kcj_m) (SqT.of (by k_subL)) (reps_cons (rep_str (by have := (title_word ht).1; omega)) reps_nil) (by rw [stop h]; rfl) (fun i r p hr => by rw [stop h] at hr; simp at hr)
  kfm_turns
  kpt_turns
  · rename_i h
    kfm_turns
    refine done _ _ [] _ (by kcj_m) (SqT.of (by k_subL)) (reps_cons (rep_str (by have := (title_word ht).1; omega)) reps_nil) (by rw [stop (.inl h)]; rfl) (fun i r p hr => by rw [stop (.inl h)] at hr; simp at hr)
  rename_i hn1
  kfm_turns
  kpt_turns
  · rename_i h
    kfm_turns
    refine done _ _ [] _ (by kcj_m) (SqT.of (by k_subL)) (reps_cons (rep_str (by have := (title_word ht).1; omega)) reps_nil) (by rw [stop (.inr h)]; rfl) (fun i r p hr => by rw [stop (.inr h)] at hr; simp at hr)
  rename_i hn2
  have hroles : rolesOf t = (["user", "name"] : List Str) ++ midOf t ++ (if t = "take" then (["align"] : List Str) else []) := by
    unfold rolesOf
    rw [if_neg (by rintro (z | z); exact hn1 z; exact hn2 z)]
  obtain ⟨hmid, hml⟩ := mids_ok t ht
  kfm_turns
  refine ⟨d, rfl, by k_subL, fun u H3 s3 u1 u2 => ?_⟩
  kfm_turns
  refine ⟨d, rfl, by k_subL, fun nm H4 s4 hnm => ?_⟩
  have hnl := (name_word hnm).1
  kfm_turns
  rename_i T H5 hT s5 e5
  refine ⟨t, rfl, fun pb xb H6 s6 e6 hb => ?_⟩
  kfm_turns
  have hlb := reps_len hb
  have hlb2 : xb.length = (midOf t).length := by rw [hlb, List.length_map, (titles_roles t ht).2.1, List.length_map]
  have base : Same H H6 := ((((s1.trans s2).trans s3).trans s4).trans s5).trans s6
  refine forB_list (K := K) (xs := xb) (SqL.of e6) (fun i σ H' => Same H6 H' ∧ ∃ a xs ps y z, σ = [some d, some (.str t), some (.ref a), y, z] ∧ SqT K H' a xs ∧ Reps K H' (.str t :: ps) xs ∧ ps.length = 2 + i ∧ ∀ (j : Nat) r p, ((["user", "name"] : List Str) ++ midOf t)[j]? = some r → ps[j]? = some p → partB r p = true)
    ⟨Same.refl _, T, _, [.int u, .str nm], none, none, rfl, SqT.of (s6 _ _ e5), ?_, rfl, ?_⟩ (fun i σ H' _ h => SqL.of (h.1 _ _ e6)) ?_ ?_
  · exact reps_cons (rep_str (by have := (title_word ht).1; omega)) (reps_cons rep_int (reps_cons (rep_str (by omega)) reps_nil))
  · intro j r p hr hp
    match j with
    | 0 =>
      obtain rfl : ("user" : Str) = r := by simpa using hr
      obtain rfl : Dat.int u = p := by simpa using hp
      exact users_ok u1 u2
    | 1 =>
      obtain rfl : ("name" : Str) = r := by simpa using hr
      obtain rfl : Dat.str nm = p := by simpa using hp
      rw [partB, if_pos rfl]
      exact hnm
    | j + 2 => simp at hp
  · rintro i x σ H' hx ⟨s7, a, xs, ps, y, z, rfl, ha, hxs, hpl, hpp⟩
    obtain ⟨bd, hbd, hbr⟩ := reps_get hb hx
    obtain ⟨r, hr, rfl⟩ := bound_get ht hbd
    obtain ⟨m1, m2, m3, m4, m5⟩ := hmid r (List.mem_of_getElem? hr)
    have hi : i < 2 := by have := (List.getElem?_eq_some_iff.mp hr).1; omega
    obtain ⟨bq, bx, rfl, hbq, _, hbx⟩ := rep_tup_inv (Same.rep s7 hbr)
    obtain ⟨b1, r1, rfl, hb1, hb2⟩ := reps_inv hbx
    obtain ⟨b2, r2, rfl, hb2, hb3⟩ := reps_inv hb2
    obtain rfl := rep_int_inv hb1
    obtain rfl := rep_int_inv hb2
    obtain rfl := reps_inv_nil hb3
    have hxl : xs.length = 3 + i := by rw [reps_len hxs, List.length_cons]; omega
    refine s_gtup hbq rfl ?_
    kfm_turns
    have hDr : Dr H' d := Same.dr (base.trans s7) hd
    refine ⟨d, _, _, rfl, hDr, m4, by omega, fun k H8 s8 k0 k1 => ?_⟩
    kfm_turns
    rename_i T2 H9 hT2 s9 e9
    have ha9 : SqT K H9 a xs := Same.sqT (s8.trans s9) ha
    refine r_add_t ha9 (SqT.of e9) (sz_of (by rw [hxl]; simp; omega)) fun pn H10 s10 hpn => ?_
    kfm_turns
    have s710 : Same H' H10 := (s8.trans s9).trans s10
    refine ⟨s7.trans s710, pn, _, ps ++ [.int k], _, _, rfl, hpn, ?_, by simp; omega, ?_⟩
    · rw [← List.cons_append]
      exact reps_snoc (Same.reps s710 hxs) rep_int
    · intro j r' p hr' hp
      by_cases hj : j < ps.length
      · rw [List.getElem?_append_left hj] at hp
        exact hpp j r' p hr' hp
      · rw [List.getElem?_append_right (by omega)] at hp
        have hj0 : j - ps.length = 0 := by
          have := (List.getElem?_eq_some_iff.mp hp).1
          simp at this
          omega
        rw [hj0] at hp
        obtain rfl : Dat.int k = p := by simpa using hp
        have hj2 : j = 2 + i := by omega
        rw [hj2, List.getElem?_append_right (by simp)] at hr'
        have e : 2 + i - (["user", "name"] : List Str).length = i := by simp
        rw [e, hr] at hr'
        obtain rfl := Option.some.inj hr'
        exact partB_mid m1 m2 k0 k1
  · rintro σ H' ⟨s7, a, xs, ps, y, z, rfl, ha, hxs, hpl, hpp⟩
    have hxl : xs.length = 3 + (midOf t).length := by rw [reps_len hxs, List.length_cons, hpl, hlb2]; omega
    kfm_turns
    kpt_turns
    · rename_i htk
      kfm_turns
      refine ⟨d, 29, rfl, Same.dr (base.trans s7) hd, by decide, fun k H8 s8 k0 => ?_⟩
      kfm_turns
      rename_i T2 H9 hT2 s9 e9
      have ha9 : SqT K H9 a xs := Same.sqT (s8.trans s9) ha
      refine r_add_t ha9 (SqT.of e9) (sz_of (by rw [hxl]; simp; omega)) fun pn H10 s10 hpn => ?_
      kfm_turns
      have s710 : Same H' H10 := (s8.trans s9).trans s10
      refine done pn _ (ps ++ [.int (2 ^ k)]) _ ((base.trans s7).trans s710) hpn ?_ ?_ ?_
      · rw [← List.cons_append]
        exact reps_snoc (Same.reps s710 hxs) rep_int
      · rw [hroles, if_pos htk]
        simp
        omega
      · intro j r p hr hp
        rw [hroles, if_pos htk] at hr
        by_cases hj : j < ps.length
        · rw [List.getElem?_append_left hj] at hp
          rw [List.getElem?_append_left (by simp; omega)] at hr
          exact hpp j r p hr hp
        · rw [List.getElem?_append_right (by omega)] at hp
          have hj0 : j - ps.length = 0 := by
            have := (List.getElem?_eq_some_iff.mp hp).1
            simp at this
            omega
          rw [hj0] at hp
          obtain rfl : Dat.int (2 ^ k) = p := by simpa using hp
          rw [List.getElem?_append_right (by simp; omega)] at hr
          have e : j - ((["user", "name"] : List Str) ++ midOf t).length = 0 := by simp; omega
          rw [e] at hr
          obtain rfl : ("align" : Str) = r := by simpa using hr
          exact pows_ok k (by rw [List.mem_range]; omega)
    · rename_i htk
      kfm_turns
      refine done a xs ps _ (base.trans s7) ha hxs ?_ ?_
      · rw [hroles, if_neg htk]
        simp
        omega
      · intro j r p hr hp
        rw [hroles, if_neg htk, List.append_nil] at hr
        exact hpp j r p hr hp
end
end AG
namespace AG
open PySem PySem.Spec L2
local macro_rules | `(tactic| o_readsAll) => `(tactic| first | assumption | (show _ ≤ sizeLine; decide) | (refine sz_of ?_; (try simp only [List.length_cons, List.length_nil, List.length_append, List.length_map]); omega) | (refine sz_lt ?_; (try simp only [List.length_cons, List.length_nil, List.length_append, List.length_map]); omega))
local macro_rules | `(tactic| k_subL) => `(tactic| first
  | assumption
  | exact upd_same
  | (refine (upd_ne (by first | assumption | exact Ne.symm (by assumption))).trans ?_; k_subL)
  | (apply SqT.of; k_subL)
  | (refine AG.Same.app (by assumption) ?_; k_subL)
  | (apply AG.Same.sqT; assumption; k_subL)
  | (refine AG.Same.dr (by assumption) ?_; k_subL)
  | (apply AG.Same.rep; assumption; k_subL)
  | (apply AG.Same.reps; assumption; k_subL))
local macro_rules | `(tactic| o_fieldsN) => `(tactic| first | exact atI_nat (j := 0) rfl | exact atI_nat (j := 1) rfl | exact atI_nat (j := 2) rfl | exact atI_nat (j := 3) rfl | exact atI_nat (j := 4) rfl | assumption)
local macro_rules | `(tactic| tb_rel) => `(tactic| with_reducible first
  | refine s_asg ?_ | refine s_name (by first | (simp only [List.set_cons_succ, List.set_cons_zero]; done) | (simp only [List.set_cons_succ, List.set_cons_zero]; exact rfl) | exact rfl) ?_ | refine s_ret ?_ | refine s_if ?_ | refine s_next ?_ | refine s_drop ?_ | refine s_retN ?_
  | refine s_var (by with_unfolding_all rfl) ?_ | refine s_c ?_ | refine s_op ?_ | refine s_cons ?_ | refine s_nil ?_ | refine s_call ?_ | refine s_cb ?_ | refine s_test ?_ | refine s_bl ?_
  | refine s_B ?_ | refine s_and ?_ | refine s_or ?_ | refine s_not ?_ | refine s_andV ?_ | refine s_orV ?_ | refine s_notV ?_ | refine s_ifE ?_ | refine s_chain ?_ | refine s_un ?_
  | refine s_tupN ?_ | refine s_lstN ?_ | refine s_sl ?_ | refine s_nopart ?_ | refine s_part ?_ | refine s_int ?_ | refine s_bm ?_ | refine s_bm0 ?_ | refine s_gnil ?_ | refine s_gcons ?_ | refine s_gsub ?_
  | refine s_brk ?_ | refine s_cont ?_ | refine s_isS ?_ | refine s_joinU ?_ | refine s_splitU ?_ | refine s_endsU ?_
  | refine s_lc_list ?_ | refine s_lc_tup ?_ | refine s_lc_str ?_ | refine s_lc_rng1 ?_ | refine s_lc_zip ?_ | refine s_lc_zipM ?_ | refine s_star ?_ | refine r_neg ?_ | refine s_for_list ?_ | refine s_for_tup ?_ | refine s_for_str ?_ | refine s_for_rng1 ?_ | refine s_for_enum ?_ | refine s_disp1 ?_ | refine s_disp0 ?_ | refine r_ktI ?_ | refine r_ktN ?_ | refine s_for_rng2 ?_
  | refine r_add_i ?_ | refine r_sub ?_ | refine r_lt_i ?_ | refine r_gt_i ?_ | refine r_le_i ?_ | refine r_ge_i ?_ | refine r_lt_s ?_ | refine r_gt_s ?_ | refine r_le_a ?_ | refine r_le_z ?_ | refine r_le_0 ?_ | refine r_le_9 ?_ | refine r_le_s ?_ | refine r_ge_s ?_
  | refine r_eq_i ?_ | refine r_eq_s ?_ | refine r_eq_b ?_ | refine r_ne_i ?_ | refine r_ne_s ?_ | refine r_ne_b ?_ | refine r_is_n ?_ | refine r_is_b ?_ | refine r_isn_n ?_ | refine r_isn_b ?_ | refine r_and ?_
  | refine r_int_i ?_ | refine r_int_b ?_ | refine r_str_s ?_ | refine r_ord ?_ | refine r_min ?_ | refine r_max ?_ | refine s_itT ?_ | refine s_itF ?_ | refine s_itnt ?_ | refine s_itnf ?_)
local macro_rules | `(tactic| tb_start) => `(tactic| first
  | ((with_reducible refine g_ix ?_); first | refine r_ix_l (by k_subL) (by o_fieldsN) ?_ | refine r_ix_t (by k_subL) (by o_fieldsN) ?_)
  | ((with_reducible refine g_len ?_); first | refine r_len_l (by k_subL) ?_ | refine r_len_t (by k_subL) ?_ | refine r_len_s (by o_readsAll) ?_ | refine r_len_d (by k_subL) ?_)
  | ((with_reducible refine g_mod ?_); refine r_mod (by first | decide | omega) ?_)
  | ((with_reducible refine g_mul ?_); refine r_mul_i (by first | exact Or.inr ⟨by decide, by decide⟩ | exact Or.inl ⟨by decide, by decide⟩ | exact Or.inl ⟨by omega, by omega⟩ | exact Or.inr ⟨by omega, by omega⟩) ?_)
  | ((with_reducible refine g_fdv ?_); refine r_fdv ⟨by decide, by decide⟩ ?_)
  | ((with_reducible refine g_pow ?_); refine r_pow ⟨by decide, by decide, by decide⟩ ?_)
  | ((with_reducible refine g_set ?_); first
    | (refine s_setL (j := 0) (by k_subL) (by rfl) ?_; simp only [List.set_cons_succ, List.set_cons_zero, upd_upd]) | (refine s_setL (j := 1) (by k_subL) (by rfl) ?_; simp only [List.set_cons_succ, List.set_cons_zero, upd_upd])
    | (refine s_setL (j := 2) (by k_subL) (by rfl) ?_; simp only [List.set_cons_succ, List.set_cons_zero, upd_upd]) | (refine s_setL (j := 3) (by k_subL) (by rfl) ?_; simp only [List.set_cons_succ, List.set_cons_zero, upd_upd])
    | (refine s_setL (j := 4) (by k_subL) (by rfl) ?_; simp only [List.set_cons_succ, List.set_cons_zero, upd_upd]))
  | ((with_reducible refine g_add ?_); refine r_add_s (by o_readsAll) ?_)
  | ((with_reducible refine g_new ?_); refine s_new (by o_readsAll) ?_; intro _ _ _ _ _)
  | ((with_reducible refine g_ty ?_); refine s_tyL (by k_subL) ?_) | ((with_reducible refine g_app ?_); refine r_app (by k_subL) (by o_readsAll) ?_)
  | ((with_reducible refine g_isi ?_); first | refine r_isi_int (by k_subL) ?_ | refine r_isi_bool (by k_subL) ?_ | refine r_isi_str (by k_subL) ?_ | refine r_isi_list (by k_subL) ?_ | refine r_isi_tuple (by k_subL) ?_ | refine r_isi_dict (by k_subL) ?_)
  | (intro _ _ _ _ _; tb_rel))
local macro_rules | `(tactic| kfm_turns) => `(tactic| repeat (first | with_reducible refine s_seq ?_ | tb_rel | tb_start))
local macro_rules | `(tactic| kln_le) => `(tactic| repeat (first | tb_rel | tb_start))
local macro_rules | `(tactic| ktu_offI) => `(tactic| with_reducible refine s_seq ?_)
local macro_rules | `(tactic| kpt_turns) => `(tactic| first
  | with_reducible refine s_itd (fun _ => ?_) (fun _ => ?_)
  | with_reducible refine s_itn (fun _ => ?_) (fun _ => ?_)
  | with_reducible refine s_itb (fun _ => ?_) (fun _ => ?_)
  | with_reducible refine s_itbn (fun _ => ?_) (fun _ => ?_))

local macro_rules | `(tactic| kcj_m) => `(tactic| first | exact L2.Same.refl _ | assumption | (refine L2.Same.trans ?_ (by assumption); kcj_m))
local macro_rules | `(tactic| keq_rows) => `(tactic| first
  | assumption | exact rep_non | exact rep_bl | exact rep_int | exact reps_nil | (refine rep_str ?_; decide +kernel) | (refine rep_str ?_; omega)
  | (refine reps_cons ?_ ?_ <;> keq_rows)
  | (refine rep_lst (by k_subL) (by (try simp only [List.length_cons, List.length_nil, List.length_append, List.length_map]); omega) ?_; keq_rows)
  | (refine rep_tup (by k_subL) (by (try simp only [List.length_cons, List.length_nil, List.length_append, List.length_map]); omega) ?_; keq_rows)
  | (refine rep_dct1 (by k_subL) ?_; keq_rows) | exact rep_dct0 (by k_subL)
  | (apply AG.Same.rep; assumption; keq_rows) | (apply AG.Same.reps; assumption; keq_rows))
local macro_rules | `(tactic| kqd_sub) => `(tactic| first | refine s_itT ?_ | refine s_itF ?_ | refine s_itnt ?_ | refine s_itnf ?_)

section
variable {w : World} {K : PySem.W.Frag} {mg : Str → Option Value} {C : Cs}
theorem p_law_line : Pf_law_line K C := by
  rintro vs H Q E ⟨t, ps, v, long, rfl, hr, hq, q⟩
  unfold t_law_line
  rw [i_law_line]
  obtain ⟨a, xs, rfl, ha, hl, hs⟩ := rep_tup_inv hr
  obtain ⟨y, ys, rfl, hx, hy⟩ := reps_inv hs
  obtain ⟨rfl, htl⟩ := rep_str_inv hx
  have hlen := reps_len hy
  have h4 : ps.length ≤ 4 := by rw [hq.2.1]; exact (titles_roles t hq.1).2.2.2.1
  kfm_turns
  refine lcB_tup (K := K) (xs := V.str t :: ys) (by k_subL) hl gst_name (fun i y _ => ∃ s, (t :: ps.map wordOf)[i]? = some s ∧ y = V.str s) (fun _ _ _ _ _ h => h) ?_ ?_
  · intro i x H3 hx s3 Q2 q2
    kfm_turns
    refine ⟨rfl, ?_⟩
    kfm_turns
    cases i with
    | zero =>
      obtain rfl : V.str t = x := by simpa using hx
      kfm_turns
      exact q2 _ _ (Same.refl _) ⟨t, rfl, rfl⟩
    | succ i =>
      obtain ⟨d, hd, hrep⟩ := reps_get hy (i := i) (by simpa using hx)
      obtain ⟨r, _, hp⟩ := req_part hq hd
      rcases part_form hp with ⟨_, s, rfl, _⟩ | ⟨_, n, rfl, hn⟩
      · obtain ⟨rfl, _⟩ := rep_str_inv hrep
        kfm_turns
        exact q2 _ _ (Same.refl _) ⟨s, by rw [List.getElem?_cons_succ, List.getElem?_map, hd]; rfl, rfl⟩
      · obtain rfl := rep_int_inv hrep
        refine r_str_i ?_ ?_
        · have hle := inRange_le hn
          have : (n : Int).natAbs = n := by omega
          rw [this]
          have h30 : n < 2 ^ 30 := by omega
          by_cases h0 : n = 0
          · subst h0; decide
          · have := (Nat.log2_lt h0).mpr h30
            omega
        exact q2 _ _ (Same.refl _) ⟨_, by rw [List.getElem?_cons_succ, List.getElem?_map, hd]; rfl, rfl⟩
  · intro acc D H3 tt hD s3 e3
    have hacc := turns_map (l := t :: ps.map wordOf) (g := V.str) tt (by simp [hlen]) (fun i y h => h)
    subst hacc
    have hb : ∀ long, ((wordsOf t ps long).map (·.length)).sum ≤ 50 := by
      intro long
      obtain ⟨w1, w2, _⟩ := words_ok hq long
      have key : ∀ l : List Str, (∀ w ∈ l, wordOk w) → (l.map (·.length)).sum ≤ l.length * 10 := by
        intro l
        induction l with
        | nil => intro _; exact Nat.zero_le _
        | cons d r ih =>
          intro h
          have h1 := (h d List.mem_cons_self).1
          have h2 := ih fun d hd => h d (List.mem_cons_of_mem _ hd)
          simp only [List.map_cons, List.sum_cons, List.length_cons] at h2 ⊢
          omega
      have := key _ w1
      omega
    have w2 : ∀ long, (wordsOf t ps long).length ≤ 5 := fun long => (words_ok hq long).2.1
    have tail : ∀ (l : Addr) (H4 : Hp), Same H H4 → H4 l = some (.lst ((wordsOf t ps long).map V.str)) → t_law_line_3 K C ⟨fun _ H' => Q .non H', Q, fun _ _ => False, fun _ _ => False⟩ [some (.ref a), some (.bl long), some (.ref l), none] H4 := by
      intro l H4 s4 e4
      kfm_turns
      refine ⟨_, l, wordsOf t ps long, rfl, rfl, .inl (SqL.of e4), ?_, ?_⟩
      · have e1 : (" " : Str).length = 1 := by decide +kernel
        have := hb long
        have := w2 long
        rw [e1]
        omega
      · exact q _ s4
    have full : (long = true ∨ cutsOne t ps = false) → wordsOf t ps long = t :: ps.map wordOf := by
      intro h
      unfold wordsOf
      rcases h with rfl | h
      · simp
      · rw [h]; rfl
    refine s_name (by exact rfl) ?_
    kfm_turns
    kpt_turns
    · rename_i ht
      subst ht
      have hp4 : ps.length = 4 := by rw [hq.2.1]; decide +kernel
      obtain ⟨p3, h3⟩ : ∃ p3, ps[3]? = some p3 := ⟨_, List.getElem?_eq_getElem (by omega)⟩
      obtain ⟨y3, hy3, hrep3⟩ := reps_get' hy h3
      obtain ⟨r3, hr3, hp3⟩ := req_part hq h3
      have hr3' : r3 = "align" := by
        have : (rolesOf "take")[3]? = some (("align" : Str)) := by decide +kernel
        rw [hr3] at this
        exact Option.some.inj this
      subst hr3'
      rcases part_form hp3 with ⟨e, _⟩ | ⟨_, n, rfl, hn⟩
      · exact absurd e (by decide +kernel)
      obtain rfl := rep_int_inv hrep3
      kfm_turns
      refine r_ix_t (xs := V.str "take" :: ys) (v := .int n) (by k_subL) (atI_nat (j := 4) (by rw [List.getElem?_cons_succ]; exact hy3)) ?_
      kfm_turns
      kpt_turns
      · rename_i h1
        have hn1 : (n : Int) = 1 := h1
        rw [hn1] at h3
        kfm_turns
        cases long with
        | true =>
          refine s_itnf ?_
          refine s_next ?_
          exact tail D H3 s3 (by rw [full (.inl rfl)]; exact e3)
        | false =>
          refine s_itnt ?_
          refine s_asg ?_
          refine s_sl ?_
          refine s_var (by with_unfolding_all rfl) ?_
          refine s_nopart ?_
          refine s_part ?_
          refine s_c ?_
          refine s_int ?_
          refine r_sl_l e3 fun l H4 hl4 s4 e4 => ?_
          rw [cutV_to (by decide)] at e4
          refine s_name (by exact rfl) ?_
          refine tail l H4 (s3.trans s4) ?_
          rw [e4]
          have : wordsOf "take" ps false = ("take" : Str) :: (ps.take 3).map wordOf := by
            unfold wordsOf cutsOne
            rw [h3]
            rfl
          rw [this]
          simp
      · rename_i h1
        refine s_itF ?_
        refine s_next ?_
        refine tail D H3 s3 ?_
        rw [full (.inr ?_)]
        · exact e3
        · unfold cutsOne
          rw [h3]
          have e1 : isOne (some (.int (n : Int))) = false := by
            have hn1 : ¬ (n : Int) = 1 := h1
            unfold isOne
            split
            · rename_i e; cases e; exact absurd rfl hn1
            · rfl
          rw [e1]
          rfl
    · rename_i ht
      refine s_itF ?_
      refine s_next ?_
      refine tail D H3 s3 ?_
      rw [full (.inr ?_)]
      · exact e3
      · unfold cutsOne
        rw [decide_eq_false ht]
        rfl
end
end AG
namespace AG
open PySem PySem.Spec L2
local macro_rules | `(tactic| o_readsAll) => `(tactic| first | assumption | (show _ ≤ sizeLine; decide) | (refine sz_of ?_; (try simp only [List.length_cons, List.length_nil, List.length_append, List.length_map]); omega) | (refine sz_lt ?_; (try simp only [List.length_cons, List.length_nil, List.length_append, List.length_map]); omega))
local macro_rules | `(tactic| k_subL) => `(tactic| first
  | assumption
  | exact upd_same
  | (refine (upd_ne (by first | assumption | exact Ne.symm (by assumption))).trans ?_; k_subL)
  | (apply SqT.of; k_subL)
  | (refine AG.Same.app (by assumption) ?_; k_subL)
  | (apply AG.Same.sqT; assumption; k_subL)
  | (refine AG.Same.dr (by assumption) ?_; k_subL)
  | (apply AG.Same.rep; assumption; k_subL)
  | (apply AG.Same.reps; assumption; k_subL))
local macro_rules | `(tactic| o_fieldsN) => `(tactic| first | exact atI_nat (j := 0) rfl | exact atI_nat (j := 1) rfl | exact atI_nat (j := 2) rfl | exact atI_nat (j := 3) rfl | exact atI_nat (j := 4) rfl | assumption)
local macro_rules | `(tactic| tb_rel) => `(tactic| with_reducible first
  | refine s_asg ?_ | refine s_name (by first | (simp only [List.set_cons_succ, List.set_cons_zero]; done) | (simp only [List.set_cons_succ, List.set_cons_zero]; exact rfl) | exact rfl) ?_ | refine s_ret ?_ | refine s_if ?_ | refine s_next ?_ | refine s_drop ?_ | refine s_retN ?_
  | refine s_var (by with_unfolding_all rfl) ?_ | refine s_c ?_ | refine s_op ?_ | refine s_cons ?_ | refine s_nil ?_ | refine s_call ?_ | refine s_cb ?_ | refine s_test ?_ | refine s_bl ?_
  | refine s_B ?_ | refine s_and ?_ | refine s_or ?_ | refine s_not ?_ | refine s_andV ?_ | refine s_orV ?_ | refine s_notV ?_ | refine s_ifE ?_ | refine s_chain ?_ | refine s_un ?_
  | refine s_tupN ?_ | refine s_lstN ?_ | refine s_sl ?_ | refine s_nopart ?_ | refine s_part ?_ | refine s_int ?_ | refine s_bm ?_ | refine s_bm0 ?_ | refine s_gnil ?_ | refine s_gcons ?_ | refine s_gsub ?_
  | refine s_brk ?_ | refine s_cont ?_ | refine s_isS ?_ | refine s_joinU ?_ | refine s_splitU ?_ | refine s_endsU ?_
  | refine s_lc_list ?_ | refine s_lc_tup ?_ | refine s_lc_str ?_ | refine s_lc_rng1 ?_ | refine s_lc_zip ?_ | refine s_lc_zipM ?_ | refine s_star ?_ | refine r_neg ?_ | refine s_for_list ?_ | refine s_for_tup ?_ | refine s_for_str ?_ | refine s_for_rng1 ?_ | refine s_for_enum ?_ | refine s_disp1 ?_ | refine s_disp0 ?_ | refine r_ktI ?_ | refine r_ktN ?_ | refine s_for_rng2 ?_
  | refine r_add_i ?_ | refine r_sub ?_ | refine r_lt_i ?_ | refine r_gt_i ?_ | refine r_le_i ?_ | refine r_ge_i ?_ | refine r_lt_s ?_ | refine r_gt_s ?_ | refine r_le_a ?_ | refine r_le_z ?_ | refine r_le_0 ?_ | refine r_le_9 ?_ | refine r_le_s ?_ | refine r_ge_s ?_
  | refine r_eq_i ?_ | refine r_eq_s ?_ | refine r_eq_b ?_ | refine r_ne_i ?_ | refine r_ne_s ?_ | refine r_ne_b ?_ | refine r_is_n ?_ | refine r_is_b ?_ | refine r_isn_n ?_ | refine r_isn_b ?_ | refine r_and ?_
  | refine r_int_i ?_ | refine r_int_b ?_ | refine r_str_s ?_ | refine r_ord ?_ | refine r_min ?_ | refine r_max ?_ | refine s_itT ?_ | refine s_itF ?_ | refine s_itnt ?_ | refine s_itnf ?_)
local macro_rules | `(tactic| tb_start) => `(tactic| first
  | ((with_reducible refine g_ix ?_); first | refine r_ix_l (by k_subL) (by o_fieldsN) ?_ | refine r_ix_t (by k_subL) (by o_fieldsN) ?_)
  | ((with_reducible refine g_len ?_); first | refine r_len_l (by k_subL) ?_ | refine r_len_t (by k_subL) ?_ | refine r_len_s (by o_readsAll) ?_ | refine r_len_d (by k_subL) ?_)
  | ((with_reducible refine g_mod ?_); refine r_mod (by first | decide | omega) ?_)
  | ((with_reducible refine g_mul ?_); refine r_mul_i (by first | exact Or.inr ⟨by decide, by decide⟩ | exact Or.inl ⟨by decide, by decide⟩ | exact Or.inl ⟨by omega, by omega⟩ | exact Or.inr ⟨by omega, by omega⟩) ?_)
  | ((with_reducible refine g_fdv ?_); refine r_fdv ⟨by decide, by decide⟩ ?_)
  | ((with_reducible refine g_pow ?_); refine r_pow ⟨by decide, by decide, by decide⟩ ?_)
  | ((with_reducible refine g_set ?_); first
    | (refine s_setL (j := 0) (by k_subL) (by rfl) ?_; simp only [List.set_cons_succ, List.set_cons_zero, upd_upd]) | (refine s_setL (j := 1) (by k_subL) (by rfl) ?_; simp only [List.set_cons_succ, List.set_cons_zero, upd_upd])
    | (refine s_setL (j := 2) (by k_subL) (by rfl) ?_; simp only [List.set_cons_succ, List.set_cons_zero, upd_upd]) | (refine s_setL (j := 3) (by k_subL) (by rfl) ?_; simp only [List.set_cons_succ, List.set_cons_zero, upd_upd])
    | (refine s_setL (j := 4) (by k_subL) (by rfl) ?_; simp only [List.set_cons_succ, List.set_cons_zero, upd_upd]))
  | ((with_reducible refine g_add ?_); refine r_add_s (by o_readsAll) ?_)
  | ((with_reducible refine g_new ?_); refine s_new (by o_readsAll) ?_; intro _ _ _ _ _)
  | ((with_reducible refine g_ty ?_); refine s_tyL (by k_subL) ?_) | ((with_reducible refine g_app ?_); refine r_app (by k_subL) (by o_readsAll) ?_)
  | ((with_reducible refine g_isi ?_); first | refine r_isi_int (by k_subL) ?_ | refine r_isi_bool (by k_subL) ?_ | refine r_isi_str (by k_subL) ?_ | refine r_isi_list (by k_subL) ?_ | refine r_isi_tuple (by k_subL) ?_ | refine r_isi_dict (by k_subL) ?_)
  | (intro _ _ _ _ _; tb_rel))
local macro_rules | `(tactic| kfm_turns) => `(tactic| repeat (first | with_reducible refine s_seq ?_ | tb_rel | tb_start))
local macro_rules | `(tactic| kln_le) => `(tactic| repeat (first | tb_rel | tb_start))
local macro_rules | `(tactic| ktu_offI) => `(tactic| with_reducible refine s_seq ?_)
local macro_rules | `(tactic| kpt_turns) => `(tactic| first
  | with_reducible refine s_itd (fun _ => ?_) (fun _ => ?_)
  | with_reducible refine s_itn (fun _ => ?_) (fun _ => ?_)
  | with_reducible refine s_itb (fun _ => ?_) (fun _ => ?_)
  | with_reducible refine s_itbn (fun _ => ?_) (fun _ => ?_))

local macro_rules | `(tactic| kcj_m) => `(tactic| first | exact L2.Same.refl _ | assumption | (refine L2.Same.trans ?_ (by assumption); kcj_m))
local macro_rules | `(tactic| keq_rows) => `(tactic| first
  | assumption | exact rep_non | exact rep_bl | exact rep_int | exact reps_nil | (refine rep_str ?_; decide +kernel) | (refine rep_str ?_; omega)
  | (refine reps_cons ?_ ?_ <;> keq_rows)
  | (refine rep_lst (by k_subL) (by (try simp only [List.length_cons, List.length_nil, List.length_append, List.length_map]); omega) ?_; keq_rows)
  | (refine rep_tup (by k_subL) (by (try simp only [List.length_cons, List.length_nil, List.length_append, List.length_map]); omega) ?_; keq_rows)
  | (refine rep_dct1 (by k_subL) ?_; keq_rows) | exact rep_dct0 (by k_subL)
  | (apply AG.Same.rep; assumption; keq_rows) | (apply AG.Same.reps; assumption; keq_rows))
local macro_rules | `(tactic| kqd_sub) => `(tactic| first | refine s_itT ?_ | refine s_itF ?_ | refine s_itnt ?_ | refine s_itnf ?_)

section
variable {w : World} {K : PySem.W.Frag} {mg : Str → Option Value} {C : Cs}
def dNon : Dat → Bool
  | .non => true
  | _ => false
theorem isN_rep {H : Hp} {Q : VK} {d : Dat} {v : V} (h : Rep K H d v) (q : Q (.bl (dNon d)) H) : rIsU v .non H Q := by
  refine r_is_n ?_
  have e : decide (v = .non) = dNon d := by
    cases d with
    | non => rw [rep_non_inv h]; rfl
    | bl b => rw [rep_bl_inv h]; rfl
    | int i => rw [rep_int_inv h]; rfl
    | str s => rw [(rep_str_inv h).1]; rfl
    | lst ds => obtain ⟨a, xs, rfl, _⟩ := rep_lst_inv h; rfl
    | tup ds => obtain ⟨a, xs, rfl, _⟩ := rep_tup_inv h; rfl
    | dct ks ds => obtain ⟨a, es, vs, rfl, _⟩ := rep_dct_inv h; rfl
  rw [e]
  exact q
theorem p_law_same (n : Nat) (vs : List V) (H : Hp) (Q : VK) (E : XK) (h : sp_law_same K C (n + 1) vs H Q E) : t_law_same K C n ⟨fun _ H' => Q .non H', Q, fun _ _ => False, fun _ _ => False⟩ (L2.start ["_law_actual", "_law_expected", "_law_key", "_law_k"] vs) H := by
  obtain ⟨d, v, w, rfl, hv, hw, hdep, q⟩ := h
  unfold t_law_same
  rw [i_law_same]
  have loop : ∀ (ds : List Dat) (a b : Addr) (xs ys : List V), v = .ref a → w = .ref b → depths ds < n → Reps K H ds xs → Reps K H ds ys → ((H a = some (.lst xs) ∧ H b = some (.lst ys)) ∨ (SqT K H a xs ∧ SqT K H b ys)) → xs.length ≤ 1000000 → 
      t_law_same_9 K C n ⟨fun _ H' => Q .non H', Q, fun _ _ => False, fun _ _ => False⟩ [some v, some w, none, none] H := by
    rintro ds a b xs ys rfl rfl hdp hx hy hab hl
    have l1 := reps_len hx
    have l2 := reps_len hy
    kfm_turns
    refine r_len_e (xs := ys) (by rcases hab with ⟨_, h⟩ | ⟨_, h⟩; exact .inl (SqL.of h); exact .inr h) ?_
    kfm_turns
    refine forB_rng1 (by omega) (by omega) (fun i σ H' => Same H H' ∧ ∃ y, σ = [some (.ref a), some (.ref b), none, y]) ⟨Same.refl _, _, rfl⟩ ?_ ?_
    · rintro i σ H' hi ⟨s9, y, rfl⟩
      have hi2 : i < ds.length := by omega
      obtain ⟨x1, hx1, hr1⟩ := reps_get' hx (List.getElem?_eq_getElem hi2)
      obtain ⟨y1, hy1, hr2⟩ := reps_get' hy (List.getElem?_eq_getElem hi2)
      have hdd : (ds[i]).depth < n := Nat.lt_of_le_of_lt (depths_mem (List.getElem_mem hi2)) hdp
      rcases hab with ⟨h1, h2⟩ | ⟨h1, h2⟩
      · refine s_name (by exact rfl) ?_
        kfm_turns
        refine r_ix_l (s9 _ _ h1) (atI_nat hx1) ?_
        kfm_turns
        refine r_ix_l (s9 _ _ h2) (atI_nat hy1) ?_
        kfm_turns
        refine ⟨ds[i], x1, y1, rfl, Same.rep s9 hr1, Same.rep s9 hr2, hdd, fun H8 s8 => ?_⟩
        kfm_turns
        exact ⟨s9.trans s8, _, rfl⟩
      · refine s_name (by exact rfl) ?_
        kfm_turns
        refine r_ix_t (Same.sqT s9 h1) (atI_nat hx1) ?_
        kfm_turns
        refine r_ix_t (Same.sqT s9 h2) (atI_nat hy1) ?_
        kfm_turns
        refine ⟨ds[i], x1, y1, rfl, Same.rep s9 hr1, Same.rep s9 hr2, hdd, fun H8 s8 => ?_⟩
        kfm_turns
        exact ⟨s9.trans s8, _, rfl⟩
    · rintro σ H' ⟨s9, y, rfl⟩
      kfm_turns
      exact q _ s9
  cases d with
  | non =>
    obtain rfl := rep_non_inv hv
    obtain rfl := rep_non_inv hw
    (repeat (kfm_turns; kqd_sub))
    kfm_turns
    exact q _ (Same.refl _)
  | bl b =>
    obtain rfl := rep_bl_inv hv
    obtain rfl := rep_bl_inv hw
    (repeat (kfm_turns; kqd_sub))
    kfm_turns
    rw [decide_eq_true rfl]
    exact q _ (Same.refl _)
  | int i =>
    obtain rfl := rep_int_inv hv
    obtain rfl := rep_int_inv hw
    (repeat (kfm_turns; kqd_sub))
    kfm_turns
    rw [decide_eq_true rfl]
    exact q _ (Same.refl _)
  | str s =>
    obtain ⟨rfl, _⟩ := rep_str_inv hv
    obtain ⟨rfl, _⟩ := rep_str_inv hw
    (repeat (kfm_turns; kqd_sub))
    kfm_turns
    rw [decide_eq_true rfl]
    exact q _ (Same.refl _)
  | lst ds =>
    obtain ⟨a, xs, rfl, ha, hla, hsa⟩ := rep_lst_inv hv
    obtain ⟨b, ys, rfl, hb, hlb, hsb⟩ := rep_lst_inv hw
    have l1 := reps_len hsa
    have l2 := reps_len hsb
    (repeat (kfm_turns; kqd_sub))
    kfm_turns
    refine s_itnF (by rw [l1, l2]) ?_
    refine s_next ?_
    exact loop ds a b xs ys rfl rfl (by unfold Dat.depth at hdep; omega) hsa hsb (.inl ⟨ha, hb⟩) hla
  | tup ds =>
    obtain ⟨a, xs, rfl, ha, hla, hsa⟩ := rep_tup_inv hv
    obtain ⟨b, ys, rfl, hb, hlb, hsb⟩ := rep_tup_inv hw
    have l1 := reps_len hsa
    have l2 := reps_len hsb
    (repeat (kfm_turns; kqd_sub))
    kfm_turns
    refine s_itnF (by rw [l1, l2]) ?_
    refine s_next ?_
    exact loop ds a b xs ys rfl rfl (by unfold Dat.depth at hdep; omega) hsa hsb (.inr ⟨ha, hb⟩) hla
  | dct ks ds =>
    obtain ⟨a, es, us, rfl, ha, hla, hna, rfl, hka, hfa, hsa⟩ := rep_dct_inv hv
    obtain ⟨b, es2, ys, rfl, hb, hlb, hnb, rfl, hkb, hfb, hsb⟩ := rep_dct_inv hw
    have l1 := reps_len hsa
    have l2 := reps_len hsb
    (repeat (kfm_turns; kqd_sub))
    kfm_turns
    refine s_itnF (by simp; omega) ?_
    refine s_next ?_
    kfm_turns
    refine r_list_d (by k_subL) fun L H1 hL s1 e1 => ?_
    rw [keys_zip hkb] at e1
    refine forB_list (K := K) (xs := ks.map V.str) (SqL.of e1) (fun i σ H' => Same H1 H' ∧ ∃ y, σ = [some (.ref a), some (.ref b), y, none]) ⟨Same.refl _, _, rfl⟩ (fun i σ H' _ h => SqL.of (h.1 _ _ e1)) ?_ ?_
    · rintro i x σ H' hx ⟨s9, y, rfl⟩
      have s1 := s1.trans s9
      obtain ⟨k, hk, rfl⟩ : ∃ k, ks[i]? = some k ∧ V.str k = x := by
        rw [List.getElem?_map] at hx
        cases e : ks[i]? with
        | none => rw [e] at hx; cases hx
        | some r => rw [e] at hx; exact ⟨r, rfl, Option.some.inj hx⟩
      have hi : i < ks.length := (List.getElem?_eq_some_iff.mp hk).1
      obtain ⟨u1, hu1⟩ : ∃ u, us[i]? = some u := ⟨_, List.getElem?_eq_getElem (by omega)⟩
      obtain ⟨u2, hu2⟩ : ∃ u, ys[i]? = some u := ⟨_, List.getElem?_eq_getElem (by omega)⟩
      obtain ⟨d1, hd1, hr1⟩ := reps_get hsa hu1
      obtain ⟨d2, hd2, hr2⟩ := reps_get hsb hu2
      rw [hd1] at hd2
      obtain rfl := Option.some.inj hd2
      have hdd : d1.depth < n := by
        have := depths_mem (List.mem_of_getElem? hd1)
        unfold Dat.depth at hdep
        omega
      have g1 : DGet H' a (V.str k) (some u1) := by
        have := DGet.k (H := H') (k := Sum.inr k) (s1 _ _ ha)
        rwa [dget_zip hna hk hu1] at this
      have g2 : DGet H' b (V.str k) (some u2) := by
        have := DGet.k (H := H') (k := Sum.inr k) (s1 _ _ hb)
        rwa [dget_zip hna hk hu2] at this
      kfm_turns
      refine s_dnotin ?_
      kfm_turns
      refine ⟨a, some u1, rfl, g1, ?_⟩
      refine s_bl ?_
      kqd_sub
      kfm_turns
      refine s_dget ?_
      kfm_turns
      refine ⟨a, u1, rfl, g1, ?_⟩
      kfm_turns
      refine s_dget ?_
      kfm_turns
      refine ⟨b, u2, rfl, g2, ?_⟩
      kfm_turns
      refine ⟨d1, u1, u2, rfl, Same.rep s1 hr1, Same.rep s1 hr2, hdd, fun H8 s8 => ?_⟩
      kfm_turns
      exact ⟨s9.trans s8, _, rfl⟩
    · rintro σ H' ⟨s9, y, rfl⟩
      kfm_turns
      exact q _ (s1.trans s9)
end
end AG
namespace AG
open PySem PySem.Spec L2
local macro_rules | `(tactic| o_readsAll) => `(tactic| first | assumption | (show _ ≤ sizeLine; decide) | (refine sz_of ?_; (try simp only [List.length_cons, List.length_nil, List.length_append, List.length_map]); omega) | (refine sz_lt ?_; (try simp only [List.length_cons, List.length_nil, List.length_append, List.length_map]); omega))
local macro_rules | `(tactic| k_subL) => `(tactic| first
  | assumption
  | exact upd_same
  | (refine (upd_ne (by first | assumption | exact Ne.symm (by assumption))).trans ?_; k_subL)
  | (apply SqT.of; k_subL)
  | (refine AG.Same.app (by assumption) ?_; k_subL)
  | (apply AG.Same.sqT; assumption; k_subL)
  | (refine AG.Same.dr (by assumption) ?_; k_subL)
  | (apply AG.Same.rep; assumption; k_subL)
  | (apply AG.Same.reps; assumption; k_subL))
local macro_rules | `(tactic| o_fieldsN) => `(tactic| first | exact atI_nat (j := 0) rfl | exact atI_nat (j := 1) rfl | exact atI_nat (j := 2) rfl | exact atI_nat (j := 3) rfl | exact atI_nat (j := 4) rfl | assumption)
local macro_rules | `(tactic| tb_rel) => `(tactic| with_reducible first
  | refine s_asg ?_ | refine s_name (by first | (simp only [List.set_cons_succ, List.set_cons_zero]; done) | (simp only [List.set_cons_succ, List.set_cons_zero]; exact rfl) | exact rfl) ?_ | refine s_ret ?_ | refine s_if ?_ | refine s_next ?_ | refine s_drop ?_ | refine s_retN ?_
  | refine s_var (by with_unfolding_all rfl) ?_ | refine s_c ?_ | refine s_op ?_ | refine s_cons ?_ | refine s_nil ?_ | refine s_call ?_ | refine s_cb ?_ | refine s_test ?_ | refine s_bl ?_
  | refine s_B ?_ | refine s_and ?_ | refine s_or ?_ | refine s_not ?_ | refine s_andV ?_ | refine s_orV ?_ | refine s_notV ?_ | refine s_ifE ?_ | refine s_chain ?_ | refine s_un ?_
  | refine s_tupN ?_ | refine s_lstN ?_ | refine s_sl ?_ | refine s_nopart ?_ | refine s_part ?_ | refine s_int ?_ | refine s_bm ?_ | refine s_bm0 ?_ | refine s_gnil ?_ | refine s_gcons ?_ | refine s_gsub ?_
  | refine s_brk ?_ | refine s_cont ?_ | refine s_isS ?_ | refine s_joinU ?_ | refine s_splitU ?_ | refine s_endsU ?_
  | refine s_lc_list ?_ | refine s_lc_tup ?_ | refine s_lc_str ?_ | refine s_lc_rng1 ?_ | refine s_lc_zip ?_ | refine s_lc_zipM ?_ | refine s_star ?_ | refine r_neg ?_ | refine s_for_list ?_ | refine s_for_tup ?_ | refine s_for_str ?_ | refine s_for_rng1 ?_ | refine s_for_enum ?_ | refine s_disp1 ?_ | refine s_disp0 ?_ | refine r_ktI ?_ | refine r_ktN ?_ | refine s_for_rng2 ?_
  | refine r_add_i ?_ | refine r_sub ?_ | refine r_lt_i ?_ | refine r_gt_i ?_ | refine r_le_i ?_ | refine r_ge_i ?_ | refine r_lt_s ?_ | refine r_gt_s ?_ | refine r_le_a ?_ | refine r_le_z ?_ | refine r_le_0 ?_ | refine r_le_9 ?_ | refine r_le_s ?_ | refine r_ge_s ?_
  | refine r_eq_i ?_ | refine r_eq_s ?_ | refine r_eq_b ?_ | refine r_ne_i ?_ | refine r_ne_s ?_ | refine r_ne_b ?_ | refine r_is_n ?_ | refine r_is_b ?_ | refine r_isn_n ?_ | refine r_isn_b ?_ | refine r_and ?_
  | refine r_int_i ?_ | refine r_int_b ?_ | refine r_str_s ?_ | refine r_ord ?_ | refine r_min ?_ | refine r_max ?_ | refine s_itT ?_ | refine s_itF ?_ | refine s_itnt ?_ | refine s_itnf ?_)
local macro_rules | `(tactic| tb_start) => `(tactic| first
  | ((with_reducible refine g_ix ?_); first | refine r_ix_l (by k_subL) (by o_fieldsN) ?_ | refine r_ix_t (by k_subL) (by o_fieldsN) ?_)
  | ((with_reducible refine g_len ?_); first | refine r_len_l (by k_subL) ?_ | refine r_len_t (by k_subL) ?_ | refine r_len_s (by o_readsAll) ?_ | refine r_len_d (by k_subL) ?_)
  | ((with_reducible refine g_mod ?_); refine r_mod (by first | decide | omega) ?_)
  | ((with_reducible refine g_mul ?_); refine r_mul_i (by first | exact Or.inr ⟨by decide, by decide⟩ | exact Or.inl ⟨by decide, by decide⟩ | exact Or.inl ⟨by omega, by omega⟩ | exact Or.inr ⟨by omega, by omega⟩) ?_)
  | ((with_reducible refine g_fdv ?_); refine r_fdv ⟨by decide, by decide⟩ ?_)
  | ((with_reducible refine g_pow ?_); refine r_pow ⟨by decide, by decide, by decide⟩ ?_)
  | ((with_reducible refine g_set ?_); first
    | (refine s_setL (j := 0) (by k_subL) (by rfl) ?_; simp only [List.set_cons_succ, List.set_cons_zero, upd_upd]) | (refine s_setL (j := 1) (by k_subL) (by rfl) ?_; simp only [List.set_cons_succ, List.set_cons_zero, upd_upd])
    | (refine s_setL (j := 2) (by k_subL) (by rfl) ?_; simp only [List.set_cons_succ, List.set_cons_zero, upd_upd]) | (refine s_setL (j := 3) (by k_subL) (by rfl) ?_; simp only [List.set_cons_succ, List.set_cons_zero, upd_upd])
    | (refine s_setL (j := 4) (by k_subL) (by rfl) ?_; simp only [List.set_cons_succ, List.set_cons_zero, upd_upd]))
  | ((with_reducible refine g_add ?_); refine r_add_s (by o_readsAll) ?_)
  | ((with_reducible refine g_new ?_); refine s_new (by o_readsAll) ?_; intro _ _ _ _ _)
  | ((with_reducible refine g_ty ?_); refine s_tyL (by k_subL) ?_) | ((with_reducible refine g_app ?_); refine r_app (by k_subL) (by o_readsAll) ?_)
  | ((with_reducible refine g_isi ?_); first | refine r_isi_int (by k_subL) ?_ | refine r_isi_bool (by k_subL) ?_ | refine r_isi_str (by k_subL) ?_ | refine r_isi_list (by k_subL) ?_ | refine r_isi_tuple (by k_subL) ?_ | refine r_isi_dict (by k_subL) ?_)
  | (intro _ _ _ _ _; tb_rel))
local macro_rules | `(tactic| kfm_turns) => `(tactic| repeat (first | with_reducible refine s_seq ?_ | tb_rel | tb_start))
local macro_rules | `(tactic| kln_le) => `(tactic| repeat (first | tb_rel | tb_start))
local macro_rules | `(tactic| ktu_offI) => `(tactic| with_reducible refine s_seq ?_)
local macro_rules | `(tactic| kpt_turns) => `(tactic| first
  | with_reducible refine s_itd (fun _ => ?_) (fun _ => ?_)
  | with_reducible refine s_itn (fun _ => ?_) (fun _ => ?_)
  | with_reducible refine s_itb (fun _ => ?_) (fun _ => ?_)
  | with_reducible refine s_itbn (fun _ => ?_) (fun _ => ?_))

local macro_rules | `(tactic| kcj_m) => `(tactic| first | exact L2.Same.refl _ | assumption | (refine L2.Same.trans ?_ (by assumption); kcj_m))
local macro_rules | `(tactic| keq_rows) => `(tactic| first
  | assumption | exact rep_non | exact rep_bl | exact rep_int | exact reps_nil | (refine rep_str ?_; decide +kernel) | (refine rep_str ?_; omega)
  | (refine reps_cons ?_ ?_ <;> keq_rows)
  | (refine rep_lst (by k_subL) (by (try simp only [List.length_cons, List.length_nil, List.length_append, List.length_map]); omega) ?_; keq_rows)
  | (refine rep_tup (by k_subL) (by (try simp only [List.length_cons, List.length_nil, List.length_append, List.length_map]); omega) ?_; keq_rows)
  | (refine rep_dct1 (by k_subL) ?_; keq_rows) | exact rep_dct0 (by k_subL)
  | (apply AG.Same.rep; assumption; keq_rows) | (apply AG.Same.reps; assumption; keq_rows))
local macro_rules | `(tactic| kqd_sub) => `(tactic| first | refine s_itT ?_ | refine s_itF ?_ | refine s_itnt ?_ | refine s_itnf ?_)

section
variable {w : World} {K : PySem.W.Frag} {mg : Str → Option Value} {C : Cs}
theorem p_law_sameH (n : Nat) (vs : List V) (H : Hp) (Q : VK) (E : XK) (h : sp_law_sameH K C (n + 1) vs H Q E) : t_law_sameH K C n ⟨fun _ H' => Q .non H', Q, fun _ _ => False, fun _ _ => False⟩ (L2.start ["_law_actual", "_law_expected", "_law_key", "_law_k"] vs) H := by
  obtain ⟨d, v, w, rfl, hv, hw, hdep, hnod, q⟩ := h
  unfold t_law_sameH
  rw [i_law_same]
  have loop : ∀ (ds : List Dat) (a b : Addr) (xs ys : List V), v = .ref a → w = .ref b → depths ds < n → nods ds = true → Reps K H ds xs → Reps K H ds ys → ((H a = some (.lst xs) ∧ H b = some (.lst ys)) ∨ (SqT K H a xs ∧ SqT K H b ys)) → xs.length ≤ 1000000 → 
      t_law_sameH_9 K C n ⟨fun _ H' => Q .non H', Q, fun _ _ => False, fun _ _ => False⟩ [some v, some w, none, none] H := by
    rintro ds a b xs ys rfl rfl hdp hnd hx hy hab hl
    have l1 := reps_len hx
    have l2 := reps_len hy
    kfm_turns
    refine r_len_e (xs := ys) (by rcases hab with ⟨_, h⟩ | ⟨_, h⟩; exact .inl (SqL.of h); exact .inr h) ?_
    kfm_turns
    refine forB_rng1 (by omega) (by omega) (fun i σ H' => Same H H' ∧ ∃ y, σ = [some (.ref a), some (.ref b), none, y]) ⟨Same.refl _, _, rfl⟩ ?_ ?_
    · rintro i σ H' hi ⟨s9, y, rfl⟩
      have hi2 : i < ds.length := by omega
      obtain ⟨x1, hx1, hr1⟩ := reps_get' hx (List.getElem?_eq_getElem hi2)
      obtain ⟨y1, hy1, hr2⟩ := reps_get' hy (List.getElem?_eq_getElem hi2)
      have hdd : (ds[i]).depth < n := Nat.lt_of_le_of_lt (depths_mem (List.getElem_mem hi2)) hdp
      rcases hab with ⟨h1, h2⟩ | ⟨h1, h2⟩
      · refine s_name (by exact rfl) ?_
        kfm_turns
        refine r_ix_l (s9 _ _ h1) (atI_nat hx1) ?_
        kfm_turns
        refine r_ix_l (s9 _ _ h2) (atI_nat hy1) ?_
        kfm_turns
        refine ⟨ds[i], x1, y1, rfl, Same.rep s9 hr1, Same.rep s9 hr2, hdd, nods_mem hnd (List.getElem_mem hi2), fun H8 s8 => ?_⟩
        kfm_turns
        exact ⟨s9.trans s8, _, rfl⟩
      · refine s_name (by exact rfl) ?_
        kfm_turns
        refine r_ix_t (Same.sqT s9 h1) (atI_nat hx1) ?_
        kfm_turns
        refine r_ix_t (Same.sqT s9 h2) (atI_nat hy1) ?_
        kfm_turns
        refine ⟨ds[i], x1, y1, rfl, Same.rep s9 hr1, Same.rep s9 hr2, hdd, nods_mem hnd (List.getElem_mem hi2), fun H8 s8 => ?_⟩
        kfm_turns
        exact ⟨s9.trans s8, _, rfl⟩
    · rintro σ H' ⟨s9, y, rfl⟩
      kfm_turns
      exact q _ s9
  cases d with
  | non =>
    obtain rfl := rep_non_inv hv
    obtain rfl := rep_non_inv hw
    (repeat (kfm_turns; kqd_sub))
    kfm_turns
    exact q _ (Same.refl _)
  | bl b =>
    obtain rfl := rep_bl_inv hv
    obtain rfl := rep_bl_inv hw
    (repeat (kfm_turns; kqd_sub))
    kfm_turns
    rw [decide_eq_true rfl]
    exact q _ (Same.refl _)
  | int i =>
    obtain rfl := rep_int_inv hv
    obtain rfl := rep_int_inv hw
    (repeat (kfm_turns; kqd_sub))
    kfm_turns
    rw [decide_eq_true rfl]
    exact q _ (Same.refl _)
  | str s =>
    obtain ⟨rfl, _⟩ := rep_str_inv hv
    obtain ⟨rfl, _⟩ := rep_str_inv hw
    (repeat (kfm_turns; kqd_sub))
    kfm_turns
    rw [decide_eq_true rfl]
    exact q _ (Same.refl _)
  | lst ds =>
    obtain ⟨a, xs, rfl, ha, hla, hsa⟩ := rep_lst_inv hv
    obtain ⟨b, ys, rfl, hb, hlb, hsb⟩ := rep_lst_inv hw
    have l1 := reps_len hsa
    have l2 := reps_len hsb
    (repeat (kfm_turns; kqd_sub))
    kfm_turns
    refine s_itnF (by rw [l1, l2]) ?_
    refine s_next ?_
    exact loop ds a b xs ys rfl rfl (by unfold Dat.depth at hdep; omega) hnod hsa hsb (.inl ⟨ha, hb⟩) hla
  | tup ds =>
    obtain ⟨a, xs, rfl, ha, hla, hsa⟩ := rep_tup_inv hv
    obtain ⟨b, ys, rfl, hb, hlb, hsb⟩ := rep_tup_inv hw
    have l1 := reps_len hsa
    have l2 := reps_len hsb
    (repeat (kfm_turns; kqd_sub))
    kfm_turns
    refine s_itnF (by rw [l1, l2]) ?_
    refine s_next ?_
    exact loop ds a b xs ys rfl rfl (by unfold Dat.depth at hdep; omega) hnod hsa hsb (.inr ⟨ha, hb⟩) hla
  | dct ks ds => cases hnod

end
end AG
namespace AG
open PySem PySem.Spec L2
local macro_rules | `(tactic| o_readsAll) => `(tactic| first | assumption | (show _ ≤ sizeLine; decide) | (refine sz_of ?_; (try simp only [List.length_cons, List.length_nil, List.length_append, List.length_map]); omega) | (refine sz_lt ?_; (try simp only [List.length_cons, List.length_nil, List.length_append, List.length_map]); omega))
local macro_rules | `(tactic| k_subL) => `(tactic| first
  | assumption
  | exact upd_same
  | (refine (upd_ne (by first | assumption | exact Ne.symm (by assumption))).trans ?_; k_subL)
  | (apply SqT.of; k_subL)
  | (refine AG.Same.app (by assumption) ?_; k_subL)
  | (apply AG.Same.sqT; assumption; k_subL)
  | (refine AG.Same.dr (by assumption) ?_; k_subL)
  | (apply AG.Same.rep; assumption; k_subL)
  | (apply AG.Same.reps; assumption; k_subL))
local macro_rules | `(tactic| o_fieldsN) => `(tactic| first | exact atI_nat (j := 0) rfl | exact atI_nat (j := 1) rfl | exact atI_nat (j := 2) rfl | exact atI_nat (j := 3) rfl | exact atI_nat (j := 4) rfl | assumption)
local macro_rules | `(tactic| tb_rel) => `(tactic| with_reducible first
  | refine s_asg ?_ | refine s_name (by first | (simp only [List.set_cons_succ, List.set_cons_zero]; done) | (simp only [List.set_cons_succ, List.set_cons_zero]; exact rfl) | exact rfl) ?_ | refine s_ret ?_ | refine s_if ?_ | refine s_next ?_ | refine s_drop ?_ | refine s_retN ?_
  | refine s_var (by with_unfolding_all rfl) ?_ | refine s_c ?_ | refine s_op ?_ | refine s_cons ?_ | refine s_nil ?_ | refine s_call ?_ | refine s_cb ?_ | refine s_test ?_ | refine s_bl ?_
  | refine s_B ?_ | refine s_and ?_ | refine s_or ?_ | refine s_not ?_ | refine s_andV ?_ | refine s_orV ?_ | refine s_notV ?_ | refine s_ifE ?_ | refine s_chain ?_ | refine s_un ?_
  | refine s_tupN ?_ | refine s_lstN ?_ | refine s_sl ?_ | refine s_nopart ?_ | refine s_part ?_ | refine s_int ?_ | refine s_bm ?_ | refine s_bm0 ?_ | refine s_gnil ?_ | refine s_gcons ?_ | refine s_gsub ?_
  | refine s_brk ?_ | refine s_cont ?_ | refine s_isS ?_ | refine s_joinU ?_ | refine s_splitU ?_ | refine s_endsU ?_
  | refine s_lc_list ?_ | refine s_lc_tup ?_ | refine s_lc_str ?_ | refine s_lc_rng1 ?_ | refine s_lc_zip ?_ | refine s_lc_zipM ?_ | refine s_star ?_ | refine r_neg ?_ | refine s_for_list ?_ | refine s_for_tup ?_ | refine s_for_str ?_ | refine s_for_rng1 ?_ | refine s_for_enum ?_ | refine s_disp1 ?_ | refine s_disp0 ?_ | refine r_ktI ?_ | refine r_ktN ?_ | refine s_for_rng2 ?_
  | refine r_add_i ?_ | refine r_sub ?_ | refine r_lt_i ?_ | refine r_gt_i ?_ | refine r_le_i ?_ | refine r_ge_i ?_ | refine r_lt_s ?_ | refine r_gt_s ?_ | refine r_le_a ?_ | refine r_le_z ?_ | refine r_le_0 ?_ | refine r_le_9 ?_ | refine r_le_s ?_ | refine r_ge_s ?_
  | refine r_eq_i ?_ | refine r_eq_s ?_ | refine r_eq_b ?_ | refine r_ne_i ?_ | refine r_ne_s ?_ | refine r_ne_b ?_ | refine r_is_n ?_ | refine r_is_b ?_ | refine r_isn_n ?_ | refine r_isn_b ?_ | refine r_and ?_
  | refine r_int_i ?_ | refine r_int_b ?_ | refine r_str_s ?_ | refine r_ord ?_ | refine r_min ?_ | refine r_max ?_ | refine s_itT ?_ | refine s_itF ?_ | refine s_itnt ?_ | refine s_itnf ?_)
local macro_rules | `(tactic| tb_start) => `(tactic| first
  | ((with_reducible refine g_ix ?_); first | refine r_ix_l (by k_subL) (by o_fieldsN) ?_ | refine r_ix_t (by k_subL) (by o_fieldsN) ?_)
  | ((with_reducible refine g_len ?_); first | refine r_len_l (by k_subL) ?_ | refine r_len_t (by k_subL) ?_ | refine r_len_s (by o_readsAll) ?_ | refine r_len_d (by k_subL) ?_)
  | ((with_reducible refine g_mod ?_); refine r_mod (by first | decide | omega) ?_)
  | ((with_reducible refine g_mul ?_); refine r_mul_i (by first | exact Or.inr ⟨by decide, by decide⟩ | exact Or.inl ⟨by decide, by decide⟩ | exact Or.inl ⟨by omega, by omega⟩ | exact Or.inr ⟨by omega, by omega⟩) ?_)
  | ((with_reducible refine g_fdv ?_); refine r_fdv ⟨by decide, by decide⟩ ?_)
  | ((with_reducible refine g_pow ?_); refine r_pow ⟨by decide, by decide, by decide⟩ ?_)
  | ((with_reducible refine g_set ?_); first
    | (refine s_setL (j := 0) (by k_subL) (by rfl) ?_; simp only [List.set_cons_succ, List.set_cons_zero, upd_upd]) | (refine s_setL (j := 1) (by k_subL) (by rfl) ?_; simp only [List.set_cons_succ, List.set_cons_zero, upd_upd])
    | (refine s_setL (j := 2) (by k_subL) (by rfl) ?_; simp only [List.set_cons_succ, List.set_cons_zero, upd_upd]) | (refine s_setL (j := 3) (by k_subL) (by rfl) ?_; simp only [List.set_cons_succ, List.set_cons_zero, upd_upd])
    | (refine s_setL (j := 4) (by k_subL) (by rfl) ?_; simp only [List.set_cons_succ, List.set_cons_zero, upd_upd]))
  | ((with_reducible refine g_add ?_); refine r_add_s (by o_readsAll) ?_)
  | ((with_reducible refine g_new ?_); refine s_new (by o_readsAll) ?_; intro _ _ _ _ _)
  | ((with_reducible refine g_ty ?_); refine s_tyL (by k_subL) ?_) | ((with_reducible refine g_app ?_); refine r_app (by k_subL) (by o_readsAll) ?_)
  | ((with_reducible refine g_isi ?_); first | refine r_isi_int (by k_subL) ?_ | refine r_isi_bool (by k_subL) ?_ | refine r_isi_str (by k_subL) ?_ | refine r_isi_list (by k_subL) ?_ | refine r_isi_tuple (by k_subL) ?_ | refine r_isi_dict (by k_subL) ?_)
  | (intro _ _ _ _ _; tb_rel))
local macro_rules | `(tactic| kfm_turns) => `(tactic| repeat (first | with_reducible refine s_seq ?_ | tb_rel | tb_start))
local macro_rules | `(tactic| kln_le) => `(tactic| repeat (first | tb_rel | tb_start))
local macro_rules | `(tactic| ktu_offI) => `(tactic| with_reducible refine s_seq ?_)
local macro_rules | `(tactic| kpt_turns) => `(tactic| first
  | with_reducible refine s_itd (fun _ => ?_) (fun _ => ?_)
  | with_reducible refine s_itn (fun _ => ?_) (fun _ => ?_)
  | with_reducible refine s_itb (fun _ => ?_) (fun _ => ?_)
  | with_reducible refine s_itbn (fun _ => ?_) (fun _ => ?_))

local macro_rules | `(tactic| kcj_m) => `(tactic| first | exact L2.Same.refl _ | assumption | (refine L2.Same.trans ?_ (by assumption); kcj_m))
local macro_rules | `(tactic| keq_rows) => `(tactic| first
  | assumption | exact rep_non | exact rep_bl | exact rep_int | exact reps_nil | (refine rep_str ?_; decide +kernel) | (refine rep_str ?_; omega)
  | (refine reps_cons ?_ ?_ <;> keq_rows)
  | (refine rep_lst (by k_subL) (by (try simp only [List.length_cons, List.length_nil, List.length_append, List.length_map]); omega) ?_; keq_rows)
  | (refine rep_tup (by k_subL) (by (try simp only [List.length_cons, List.length_nil, List.length_append, List.length_map]); omega) ?_; keq_rows)
  | (refine rep_dct1 (by k_subL) ?_; keq_rows) | exact rep_dct0 (by k_subL)
  | (apply AG.Same.rep; assumption; keq_rows) | (apply AG.Same.reps; assumption; keq_rows))
local macro_rules | `(tactic| kqd_sub) => `(tactic| first | refine s_itT ?_ | refine s_itF ?_ | refine s_itnt ?_ | refine s_itnf ?_)

section
variable {w : World} {K : PySem.W.Frag} {mg : Str → Option Value} {C : Cs}
theorem p_law_power : Pf_law_power K C := by
  rintro vs H Q E ⟨n, rfl, hn, q⟩
  unfold t_law_power
  rw [i_law_power]
  kfm_turns
  refine forB_rng1 (by omega) (by omega) (fun i σ H' => H' = H ∧ ∃ y, σ = [some (.int n), some (.int (2 ^ i)), y]) ⟨rfl, _, rfl⟩ ?_ ?_
  · rintro i σ H' hi ⟨rfl, y, rfl⟩
    kfm_turns
    refine ⟨rfl, some (.int i), by rw [Int.pow_succ]⟩
  · rintro σ H' ⟨rfl, y, rfl⟩
    kfm_turns
    have e : (n : Int).toNat = n := by omega
    rw [e]
    exact q
theorem p_law_chars : Pf_law_chars K C := by
  rintro vs H Q E ⟨rfl, q⟩
  unfold t_law_chars
  rw [i_law_chars]
  kfm_turns
  have e : ((" !\"#$&'()*+,-./0123456789:;<=>?@ABCDEFGHIJKLMNOPQRSTUVWXYZ[\\]^_`" : Str) ++ "abcdefghijklmnopqrstuvwxyz{|}~\n" : Str) = charsS := by decide +kernel
  rw [e]
  exact q
theorem charsS_ok : charsS.cps.toList.length = 95 ∧ ∀ c ∈ charsS.cps.toList, codeB c = true := by decide +kernel
theorem cat_pred (P : Nat → Prop) : ∀ ss : List Str, (∀ s ∈ ss, s.length = 1 ∧ ∀ c ∈ TL.tl s, P c) → (catS ss).length = ss.length ∧ ∀ c ∈ TL.tl (catS ss), P c
  | [], _ => ⟨by decide, fun c hc => by rw [show TL.tl (catS []) = [] from em_tl] at hc; cases hc⟩
  | x :: r, h => by
    obtain ⟨h1, h2⟩ := h x List.mem_cons_self
    obtain ⟨h3, h4⟩ := cat_pred P r fun s hs => h s (List.mem_cons_of_mem _ hs)
    constructor
    · show (x ++ catS r).length = _
      rw [TL.len_tl, TL.tl_append, List.length_append, ← TL.len_tl, ← TL.len_tl, h1, h3, List.length_cons]
      omega
    · intro c hc
      have hc' : c ∈ TL.tl (x ++ catS r) := hc
      rw [TL.tl_append] at hc'
      rcases List.mem_append.mp hc' with hc | hc
      · exact h2 c hc
      · exact h4 c hc
theorem sum_ones : ∀ l : List Str, (∀ s ∈ l, s.length = 1) → (l.map (·.length)).sum = l.length
  | [], _ => rfl
  | x :: r, h => by
    rw [List.map_cons, List.sum_cons, sum_ones r fun s hs => h s (List.mem_cons_of_mem _ hs), h x List.mem_cons_self, List.length_cons]
    omega
theorem textS_of {s : Str} (h : ∀ c ∈ TL.tl s, codeB c = true) : textS s = true := by
  unfold textS
  rw [List.all_eq_true]
  exact h
theorem textS_mem {s : Str} (h : textS s = true) : ∀ c ∈ TL.tl s, codeB c = true := by
  unfold textS at h
  rw [List.all_eq_true] at h
  exact h
theorem p_law_text : Pf_law_text K C := by
  rintro vs H Q E ⟨d, m, rfl, hd, h0, h1, q⟩
  unfold t_law_text
  rw [i_law_text]
  kfm_turns
  refine ⟨rfl, ?_⟩
  kfm_turns
  refine ⟨d, 0, m, rfl, by k_subL, by omega, fun n H2 s2 n0 n1 => ?_⟩
  dsimp only
  kfm_turns
  have hn4 : n ≤ 1000 := by omega
  refine lcB_rng1 (by omega) (by omega) gst_name (fun i y _ => ∃ s, y = .str s ∧ ∃ c, s = ⟨#[c]⟩ ∧ codeB c = true) (fun _ _ _ _ _ h => h) ?_ ?_
  · intro i H3 hi s3 Q2 q2
    kfm_turns
    refine ⟨rfl, ?_⟩
    kfm_turns
    refine ⟨d, _, rfl, by k_subL, by decide, fun k H4 s4 k0 k1 => ?_⟩
    have hk : k.toNat < charsS.cps.toList.length := by rw [charsS_ok.1]; omega
    refine r_ix_s (c := charsS.cps.toList[k.toNat]) (by decide +kernel) ?_ ?_
    · have := atI_nat (xs := charsS.cps.toList) (j := k.toNat) (List.getElem?_eq_getElem hk)
      rwa [show ((k.toNat : Nat) : Int) = k by omega] at this
    · have := charsS_ok.2 _ (List.getElem_mem hk)
      exact q2 _ _ s4 ⟨_, rfl, _, rfl, this⟩
  · intro acc D H3 tt hD s3 e3
    obtain ⟨ss, hl, rfl, hp⟩ := turns_str tt
    have hone : ∀ s ∈ ss, s.length = 1 ∧ ∀ c ∈ TL.tl s, codeB c = true := by
      intro s hs
      obtain ⟨i, hi⟩ := List.getElem?_of_mem hs
      obtain ⟨c, rfl, h1⟩ := hp i s hi
      refine ⟨rfl, fun c' hc => ?_⟩
      have : c' = c := by simpa [TL.tl] using hc
      rw [this]
      exact h1
    obtain ⟨h3, h2⟩ := cat_pred _ ss hone
    refine ⟨_, D, ss, rfl, rfl, .inl (SqL.of e3), ?_, ?_⟩
    · have e1 : ("" : Str).length = 0 := by decide +kernel
      rw [e1, sum_ones ss fun s hs => (hone s hs).1]
      omega
    · rw [join_cat]
      exact q _ _ (s2.trans s3) (textS_of h2) (by omega)
theorem dig_mem (c : Nat) : decide (c ∈ ("0123456789" : Str).cps.toList) = (decide (48 ≤ c) && decide (c ≤ 57)) := by
  have e : ("0123456789" : Str).cps.toList = [48, 49, 50, 51, 52, 53, 54, 55, 56, 57] := by decide +kernel
  rw [e, Bool.eq_iff_iff]
  simp
  omega
theorem let_mem (c : Nat) : decide (c ∈ ("abcdefghijklmnopqrstuvwxyz" : Str).cps.toList) = (decide (97 ≤ c) && decide (c ≤ 122)) := by
  have e : ("abcdefghijklmnopqrstuvwxyz" : Str).cps.toList = letters := by decide +kernel
  rw [e, Bool.eq_iff_iff]
  simp [letters]
  omega
theorem r_inSg {c : Nat} {z : Str} {H : Hp} {Q : VK} (q : Q (.bl (!decide (c ∈ z.cps.toList))) H) : rNotInSg (.str ⟨#[c]⟩) (.str z) H Q := ⟨c, z, rfl, rfl, q⟩
theorem all_of {P : Nat → Bool} {l : List Nat} (h : ∀ j, j < l.length → ∀ c, l[j]? = some c → P c = true) : l.all P = true := by
  rw [List.all_eq_true]
  intro c hc
  obtain ⟨j, hj⟩ := List.getElem?_of_mem hc
  exact h j (List.getElem?_eq_some_iff.mp hj).1 c hj
theorem all_not {P : Nat → Bool} {l : List Nat} {j c : Nat} (hj : l[j]? = some c) (h : P c = false) : l.all P = false := by
  rw [Bool.eq_false_iff]
  intro z
  rw [List.all_eq_true] at z
  have := z c (List.mem_of_getElem? hj)
  rw [h] at this
  cases this
theorem p_law_number_word : Pf_law_number_word K C := by
  rintro vs H Q E ⟨s, lo, hi, rfl, hl, q⟩
  unfold t_law_number_word
  rw [i_law_number_word]
  have no : numS s = false → Q .non H := fun e => by
    rw [if_neg (fun z => by rw [e] at z; exact absurd z.1 (by decide))] at q
    exact q
  have tail : decide (1 ≤ s.length) = true → decide (s.length ≤ 9) = true → (decide (s.cps.toList.head? = some 48) && decide (s ≠ "0")) = false →
      t_law_number_word_2 K C ⟨fun _ H' => Q .non H', Q, fun _ _ => False, fun _ _ => False⟩ [some (.str s), some (.int lo), some (.int hi), none, none] H := by
    intro h1 h2 h3
    have h2' := of_decide_eq_true h2
    have num : ∀ b, (s.cps.toList.all fun c => decide (48 ≤ c) && decide (c ≤ 57)) = b → numS s = b := by
      intro b hb
      unfold numS
      rw [h1, h2, h3, hb]
      rfl
    kfm_turns
    refine forB_str (fun i σ H' => H' = H ∧ (∀ j, j < i → ∀ c, s.cps.toList[j]? = some c → (decide (48 ≤ c) && decide (c ≤ 57)) = true) ∧ ∃ y, σ = [some (.str s), some (.int lo), some (.int hi), y, none]) ⟨rfl, fun j hj => by omega, _, rfl⟩ ?_ ?_
    · rintro i c σ H' hc ⟨rfl, hg, y, rfl⟩
      kfm_turns
      refine r_inSg ?_
      rw [dig_mem]
      kfm_turns
      cases hb : (decide (48 ≤ c) && decide (c ≤ 57))
      · kfm_turns
        exact no (num _ (all_not hc hb))
      · kfm_turns
        refine ⟨rfl, fun j hj c' hc' => ?_, _, rfl⟩
        by_cases hji : j < i
        · exact hg j hji c' hc'
        · have : j = i := by omega
          subst this
          rw [hc] at hc'
          obtain rfl := Option.some.inj hc'
          exact hb
    · rintro σ H' ⟨rfl, hg, y, rfl⟩
      have hn := num true (all_of fun j hj c hc => hg j (by simpa [Str.length] using hj) c hc)
      rw [hn] at q
      kfm_turns
      refine r_int_s (int_of_num hn) (by omega) ?_
      kfm_turns
      kpt_turns
      · rename_i a1
        kfm_turns
        kpt_turns
        · rename_i a2
          kfm_turns
          rw [if_pos ⟨rfl, a1, a2⟩] at q
          exact q
        · rename_i a2
          kfm_turns
          rw [if_neg (fun z => a2 z.2.2)] at q
          exact q
      · rename_i a1
        kfm_turns
        rw [if_neg (fun z => a1 z.2.1)] at q
        exact q
  kfm_turns
  kpt_turns
  · rename_i a1
    have h1 : decide (1 ≤ s.length) = true := decide_eq_true (by omega)
    kfm_turns
    kpt_turns
    · rename_i a2
      kfm_turns
      refine no ?_
      unfold numS
      rw [h1, decide_eq_false (show ¬ s.length ≤ 9 by omega)]
      rfl
    · rename_i a2
      have h2 : decide (s.length ≤ 9) = true := decide_eq_true (by omega)
      kfm_turns
      obtain ⟨c0, r0, hcr⟩ : ∃ c0 r0, s.cps.toList = c0 :: r0 := by
        cases e : s.cps.toList with
        | nil =>
          have : s.length = 0 := by rw [TL.len_tl]; show s.cps.toList.length = 0; rw [e]; rfl
          omega
        | cons c r => exact ⟨c, r, rfl⟩
      refine r_ix_s (c := c0) (sz_of (by omega)) (by rw [hcr]; exact atI_nat (j := 0) rfl) ?_
      kfm_turns
      have e48 : ("0" : Str).cps.toList = [48] := by decide +kernel
      kpt_turns
      · rename_i a3
        have e3 : c0 = 48 := by
          have := one_sign a3
          rw [e48] at this
          exact ((List.cons.inj this).1).symm
        kfm_turns
        have key : 1 < s.length ↔ s ≠ "0" := by
          have hsl : s.length = r0.length + 1 := by rw [TL.len_tl]; show s.cps.toList.length = _; rw [hcr]; rfl
          constructor
          · intro h z
            have : s.length = 1 := by rw [z]; decide +kernel
            omega
          · intro h
            by_cases hr : r0 = []
            · exact absurd (TL.ext_tl (by show s.cps.toList = ("0" : Str).cps.toList; rw [hcr, e48, e3, hr])) h
            · have := List.length_pos_iff.mpr hr
              omega
        kpt_turns
        · rename_i a4
          kfm_turns
          refine no ?_
          unfold numS
          rw [h1, h2, hcr, e3, decide_eq_true (show (48 :: r0).head? = some 48 from rfl), decide_eq_true (key.mp (by omega))]
          rfl
        · rename_i a4
          kln_le
          exact tail h1 h2 (by rw [decide_eq_false (show ¬ s ≠ "0" from fun z => a4 (by have := key.mpr z; omega)), Bool.and_false])
      · rename_i a3
        kln_le
        exact tail h1 h2 (by
          rw [hcr]
          have : ¬ (c0 :: r0).head? = some 48 := fun z => by
            have e : c0 = 48 := by simpa using z
            refine a3 ?_
            rw [e]
            apply TL.ext_tl
            show [48] = ("0" : Str).cps.toList
            rw [e48]
          rw [decide_eq_false this, Bool.false_and])
  · rename_i a1
    kfm_turns
    refine no ?_
    unfold numS
    rw [decide_eq_false (show ¬ 1 ≤ s.length by omega)]
    rfl
end
end AG
namespace AG
open PySem PySem.Spec L2
local macro_rules | `(tactic| o_readsAll) => `(tactic| first | assumption | (show _ ≤ sizeLine; decide) | (refine sz_of ?_; (try simp only [List.length_cons, List.length_nil, List.length_append, List.length_map]); omega) | (refine sz_lt ?_; (try simp only [List.length_cons, List.length_nil, List.length_append, List.length_map]); omega))
local macro_rules | `(tactic| k_subL) => `(tactic| first
  | assumption
  | exact upd_same
  | (refine (upd_ne (by first | assumption | exact Ne.symm (by assumption))).trans ?_; k_subL)
  | (apply SqT.of; k_subL)
  | (refine AG.Same.app (by assumption) ?_; k_subL)
  | (apply AG.Same.sqT; assumption; k_subL)
  | (refine AG.Same.dr (by assumption) ?_; k_subL)
  | (apply AG.Same.rep; assumption; k_subL)
  | (apply AG.Same.reps; assumption; k_subL))
local macro_rules | `(tactic| o_fieldsN) => `(tactic| first | exact atI_nat (j := 0) rfl | exact atI_nat (j := 1) rfl | exact atI_nat (j := 2) rfl | exact atI_nat (j := 3) rfl | exact atI_nat (j := 4) rfl | assumption)
local macro_rules | `(tactic| tb_rel) => `(tactic| with_reducible first
  | refine s_asg ?_ | refine s_name (by first | (simp only [List.set_cons_succ, List.set_cons_zero]; done) | (simp only [List.set_cons_succ, List.set_cons_zero]; exact rfl) | exact rfl) ?_ | refine s_ret ?_ | refine s_if ?_ | refine s_next ?_ | refine s_drop ?_ | refine s_retN ?_
  | refine s_var (by with_unfolding_all rfl) ?_ | refine s_c ?_ | refine s_op ?_ | refine s_cons ?_ | refine s_nil ?_ | refine s_call ?_ | refine s_cb ?_ | refine s_test ?_ | refine s_bl ?_
  | refine s_B ?_ | refine s_and ?_ | refine s_or ?_ | refine s_not ?_ | refine s_andV ?_ | refine s_orV ?_ | refine s_notV ?_ | refine s_ifE ?_ | refine s_chain ?_ | refine s_un ?_
  | refine s_tupN ?_ | refine s_lstN ?_ | refine s_sl ?_ | refine s_nopart ?_ | refine s_part ?_ | refine s_int ?_ | refine s_bm ?_ | refine s_bm0 ?_ | refine s_gnil ?_ | refine s_gcons ?_ | refine s_gsub ?_
  | refine s_brk ?_ | refine s_cont ?_ | refine s_isS ?_ | refine s_joinU ?_ | refine s_splitU ?_ | refine s_endsU ?_
  | refine s_lc_list ?_ | refine s_lc_tup ?_ | refine s_lc_str ?_ | refine s_lc_rng1 ?_ | refine s_lc_zip ?_ | refine s_lc_zipM ?_ | refine s_star ?_ | refine r_neg ?_ | refine s_for_list ?_ | refine s_for_tup ?_ | refine s_for_str ?_ | refine s_for_rng1 ?_ | refine s_for_enum ?_ | refine s_disp1 ?_ | refine s_disp0 ?_ | refine r_ktI ?_ | refine r_ktN ?_ | refine s_for_rng2 ?_
  | refine r_add_i ?_ | refine r_sub ?_ | refine r_lt_i ?_ | refine r_gt_i ?_ | refine r_le_i ?_ | refine r_ge_i ?_ | refine r_lt_s ?_ | refine r_gt_s ?_ | refine r_le_a ?_ | refine r_le_z ?_ | refine r_le_0 ?_ | refine r_le_9 ?_ | refine r_le_s ?_ | refine r_ge_s ?_
  | refine r_eq_i ?_ | refine r_eq_s ?_ | refine r_eq_b ?_ | refine r_ne_i ?_ | refine r_ne_s ?_ | refine r_ne_b ?_ | refine r_is_n ?_ | refine r_is_b ?_ | refine r_isn_n ?_ | refine r_isn_b ?_ | refine r_and ?_
  | refine r_int_i ?_ | refine r_int_b ?_ | refine r_str_s ?_ | refine r_ord ?_ | refine r_min ?_ | refine r_max ?_ | refine s_itT ?_ | refine s_itF ?_ | refine s_itnt ?_ | refine s_itnf ?_)
local macro_rules | `(tactic| tb_start) => `(tactic| first
  | ((with_reducible refine g_ix ?_); first | refine r_ix_l (by k_subL) (by o_fieldsN) ?_ | refine r_ix_t (by k_subL) (by o_fieldsN) ?_)
  | ((with_reducible refine g_len ?_); first | refine r_len_l (by k_subL) ?_ | refine r_len_t (by k_subL) ?_ | refine r_len_s (by o_readsAll) ?_ | refine r_len_d (by k_subL) ?_)
  | ((with_reducible refine g_mod ?_); refine r_mod (by first | decide | omega) ?_)
  | ((with_reducible refine g_mul ?_); refine r_mul_i (by first | exact Or.inr ⟨by decide, by decide⟩ | exact Or.inl ⟨by decide, by decide⟩ | exact Or.inl ⟨by omega, by omega⟩ | exact Or.inr ⟨by omega, by omega⟩) ?_)
  | ((with_reducible refine g_fdv ?_); refine r_fdv ⟨by decide, by decide⟩ ?_)
  | ((with_reducible refine g_pow ?_); refine r_pow ⟨by decide, by decide, by decide⟩ ?_)
  | ((with_reducible refine g_set ?_); first
    | (refine s_setL (j := 0) (by k_subL) (by rfl) ?_; simp only [List.set_cons_succ, List.set_cons_zero, upd_upd]) | (refine s_setL (j := 1) (by k_subL) (by rfl) ?_; simp only [List.set_cons_succ, List.set_cons_zero, upd_upd])
    | (refine s_setL (j := 2) (by k_subL) (by rfl) ?_; simp only [List.set_cons_succ, List.set_cons_zero, upd_upd]) | (refine s_setL (j := 3) (by k_subL) (by rfl) ?_; simp only [List.set_cons_succ, List.set_cons_zero, upd_upd])
    | (refine s_setL (j := 4) (by k_subL) (by rfl) ?_; simp only [List.set_cons_succ, List.set_cons_zero, upd_upd]))
  | ((with_reducible refine g_add ?_); refine r_add_s (by o_readsAll) ?_)
  | ((with_reducible refine g_new ?_); refine s_new (by o_readsAll) ?_; intro _ _ _ _ _)
  | ((with_reducible refine g_ty ?_); refine s_tyL (by k_subL) ?_) | ((with_reducible refine g_app ?_); refine r_app (by k_subL) (by o_readsAll) ?_)
  | ((with_reducible refine g_isi ?_); first | refine r_isi_int (by k_subL) ?_ | refine r_isi_bool (by k_subL) ?_ | refine r_isi_str (by k_subL) ?_ | refine r_isi_list (by k_subL) ?_ | refine r_isi_tuple (by k_subL) ?_ | refine r_isi_dict (by k_subL) ?_)
  | (intro _ _ _ _ _; tb_rel))
local macro_rules | `(tactic| kfm_turns) => `(tactic| repeat (first | with_reducible refine s_seq ?_ | tb_rel | tb_start))
local macro_rules | `(tactic| kln_le) => `(tactic| repeat (first | tb_rel | tb_start))
local macro_rules | `(tactic| ktu_offI) => `(tactic| with_reducible refine s_seq ?_)
local macro_rules | `(tactic| kpt_turns) => `(tactic| first
  | with_reducible refine s_itd (fun _ => ?_) (fun _ => ?_)
  | with_reducible refine s_itn (fun _ => ?_) (fun _ => ?_)
  | with_reducible refine s_itb (fun _ => ?_) (fun _ => ?_)
  | with_reducible refine s_itbn (fun _ => ?_) (fun _ => ?_))

local macro_rules | `(tactic| kcj_m) => `(tactic| first | exact L2.Same.refl _ | assumption | (refine L2.Same.trans ?_ (by assumption); kcj_m))
local macro_rules | `(tactic| keq_rows) => `(tactic| first
  | assumption | exact rep_non | exact rep_bl | exact rep_int | exact reps_nil | (refine rep_str ?_; decide +kernel) | (refine rep_str ?_; omega)
  | (refine reps_cons ?_ ?_ <;> keq_rows)
  | (refine rep_lst (by k_subL) (by (try simp only [List.length_cons, List.length_nil, List.length_append, List.length_map]); omega) ?_; keq_rows)
  | (refine rep_tup (by k_subL) (by (try simp only [List.length_cons, List.length_nil, List.length_append, List.length_map]); omega) ?_; keq_rows)
  | (refine rep_dct1 (by k_subL) ?_; keq_rows) | exact rep_dct0 (by k_subL)
  | (apply AG.Same.rep; assumption; keq_rows) | (apply AG.Same.reps; assumption; keq_rows))
local macro_rules | `(tactic| kqd_sub) => `(tactic| first | refine s_itT ?_ | refine s_itF ?_ | refine s_itnt ?_ | refine s_itnf ?_)

section
variable {w : World} {K : PySem.W.Frag} {mg : Str → Option Value} {C : Cs}
theorem partVal_num {r s : Str} (hn : r ≠ "name") (ha : r ≠ "align") : partVal r s = if numS s = true ∧ (rng r).1 ≤ (valN s : Int) ∧ (valN s : Int) ≤ (rng r).2 then some (.int (valN s)) else none := by
  unfold partVal
  rw [if_neg hn, partB, if_neg hn]
  unfold inRange
  rw [decide_eq_false ha]
  by_cases c : numS s = true ∧ (rng r).1 ≤ (valN s : Int) ∧ (valN s : Int) ≤ (rng r).2
  · rw [if_pos c, c.1, decide_eq_true c.2.1, decide_eq_true c.2.2]
    rfl
  · rw [if_neg c, if_neg]
    intro z
    rw [Bool.and_eq_true, Bool.and_eq_true, Bool.and_eq_true] at z
    exact c ⟨z.1, of_decide_eq_true z.2.1.1, of_decide_eq_true z.2.1.2⟩
theorem partVal_align {s : Str} : partVal "align" s = if (numS s = true ∧ 1 ≤ (valN s : Int) ∧ (valN s : Int) ≤ 536870912) ∧ powI (valN s) = true then some (.int (valN s)) else none := by
  have hn : ("align" : Str) ≠ "name" := by decide +kernel
  have hr : rng "align" = (1, 536870912) := by decide +kernel
  unfold partVal
  rw [if_neg hn, partB, if_neg hn]
  unfold inRange
  rw [hr]
  by_cases c : (numS s = true ∧ 1 ≤ (valN s : Int) ∧ (valN s : Int) ≤ 536870912) ∧ powI (valN s) = true
  · rw [if_pos c, c.1.1, decide_eq_true (show ((1, 536870912) : Int × Int).1 ≤ (valN s : Int) from c.1.2.1), decide_eq_true (show (valN s : Int) ≤ ((1, 536870912) : Int × Int).2 from c.1.2.2), c.2, Bool.or_true]
    rfl
  · rw [if_neg c, if_neg]
    intro z
    rw [Bool.and_eq_true, Bool.and_eq_true, Bool.and_eq_true] at z
    refine c ⟨⟨z.1, of_decide_eq_true z.2.1.1, of_decide_eq_true z.2.1.2⟩, ?_⟩
    have := z.2.2
    rw [decide_eq_true rfl] at this
    simpa using this
theorem r_eq_ni {i : Int} {H : Hp} {Q : VK} (q : Q (.bl false) H) : rEq .non (.int i) H Q := ⟨rfl, by rw [decide_eq_false (fun z => by cases z)]; exact q⟩
theorem p_law_part_word : Pf_law_part_word K C := by
  rintro vs H Q E ⟨t, k, s, rfl, ht, hk1, hk2, hl, q⟩
  unfold t_law_part_word
  rw [i_law_part_word]
  kfm_turns
  refine ⟨t, rfl, fun pb xb H1 s1 e1 hb => ?_⟩
  have hno : wordVal t k s = none → ∀ H', Same H H' → Q .non H' := fun e H' s' => q _ _ s' (by rw [e])
  have hyes : ∀ d, wordVal t k s = some d → ∀ v H', Same H H' → Rep K H' d v → Q v H' := fun d e v H' s' hr => q _ _ s' (by rw [e]; exact hr)
  have num : ∀ r, (rolesOf t)[k - 1]? = some r → r ≠ "name" → r ≠ "align" → ∀ lo hi, rng r = (lo, hi) → ∀ H', Same H H' → Q (if numS s = true ∧ lo ≤ (valN s : Int) ∧ (valN s : Int) ≤ hi then V.int (valN s) else V.non) H' := by
    intro r hr h1 h2 lo hi hrg H' s'
    have e : wordVal t k s = partVal r s := by unfold wordVal; rw [hr]
    rw [partVal_num h1 h2, hrg] at e
    by_cases c : numS s = true ∧ lo ≤ (valN s : Int) ∧ (valN s : Int) ≤ hi
    · rw [if_pos c] at e ⊢
      exact hyes _ e _ _ s' rep_int
    · rw [if_neg c] at e ⊢
      exact hno e _ s'
  have hlb : xb.length = (midOf t).length := by rw [reps_len hb, List.length_map, (titles_roles t ht).2.1, List.length_map]
  have stop : t = "tick" ∨ t = "settle" → wordVal t k s = none := fun h => by
    have : rolesOf t = [] := by unfold rolesOf; rw [if_pos h]
    unfold wordVal
    rw [this]
    rfl
  kfm_turns
  kpt_turns
  · rename_i h
    kfm_turns
    exact hno (stop (.inl h)) _ s1
  rename_i hn1
  kfm_turns
  kpt_turns
  · rename_i h
    kfm_turns
    exact hno (stop (.inr h)) _ s1
  rename_i hn2
  have hroles : rolesOf t = (["user", "name"] : List Str) ++ midOf t ++ (if t = "take" then (["align"] : List Str) else []) := by
    unfold rolesOf
    rw [if_neg (by rintro (z | z); exact hn1 z; exact hn2 z)]
  obtain ⟨hmid, hml⟩ := mids_ok t ht
  kfm_turns
  kpt_turns
  · rename_i hk
    have hk : k = 1 := by omega
    kfm_turns
    refine ⟨s, 1, 8, rfl, hl, ?_⟩
    refine num "user" ?_ (by decide +kernel) (by decide +kernel) _ _ (by decide +kernel) _ s1
    rw [hk, hroles]
    rfl
  rename_i hk1'
  kfm_turns
  kpt_turns
  · rename_i hk
    have hk : k = 2 := by omega
    have ew : wordVal t k s = if nameS s = true then some (.str s) else none := by
      unfold wordVal
      have : (rolesOf t)[k - 1]? = some ("name" : Str) := by
        rw [hk, hroles]
        rfl
      rw [this]
      show partVal "name" s = _
      unfold partVal
      rw [if_pos rfl]
    have nm : ∀ b, nameS s = b → wordVal t k s = if b = true then some (.str s) else none := fun b e => by rw [ew, e]
    kfm_turns
    refine forB_str (fun i σ H' => H' = H1 ∧ (∀ j, j < i → ∀ c, s.cps.toList[j]? = some c → (decide (97 ≤ c) && decide (c ≤ 122)) = true) ∧ ∃ y, σ = [some (.str t), some (.int k), some (.str s), some (.ref pb), y, none, none]) ⟨rfl, fun j hj => by omega, _, rfl⟩ ?_ ?_
    · rintro i c σ H' hc ⟨rfl, hg, y, rfl⟩
      kfm_turns
      refine r_inSg ?_
      rw [let_mem]
      kfm_turns
      cases hb2 : (decide (97 ≤ c) && decide (c ≤ 122))
      · kfm_turns
        refine hno ?_ _ s1
        rw [nm false]
        · rfl
        · unfold nameS
          rw [all_not hc hb2, Bool.and_false]
      · kfm_turns
        refine ⟨rfl, fun j hj c' hc' => ?_, _, rfl⟩
        by_cases hji : j < i
        · exact hg j hji c' hc'
        · have : j = i := by omega
          subst this
          rw [hc] at hc'
          obtain rfl := Option.some.inj hc'
          exact hb2
    · rintro σ H' ⟨rfl, hg, y, rfl⟩
      have hall := all_of (P := fun c => decide (97 ≤ c) && decide (c ≤ 122)) fun j hj c hc => hg j (by simpa [Str.length] using hj) c hc
      kfm_turns
      rename_i p H2 hp s2 e2
      have s12 := s1.trans s2
      have fin : ∀ b, (decide (1 ≤ s.length) && decide (s.length ≤ 4)) = b → rIx K (.ref p) (.int (if b = true then 1 else 0)) H2 Q := by
        intro b hb2
        have e := nm b (by unfold nameS; rw [hb2, hall, Bool.and_true])
        cases b
        · refine r_ix_l (by k_subL) (atI_nat (j := 0) rfl) ?_
          exact hno e _ s12
        · refine r_ix_l (by k_subL) (atI_nat (j := 1) rfl) ?_
          exact hyes _ e _ _ s12 (rep_str hl)
      kpt_turns
      · rename_i a1
        kfm_turns
        exact fin _ (by rw [decide_eq_true (show 1 ≤ s.length by omega), Bool.true_and]; exact decide_eq_decide.mpr (by omega))
      · rename_i a1
        kfm_turns
        exact hno (nm false (by unfold nameS; rw [decide_eq_false (show ¬ 1 ≤ s.length by omega), Bool.false_and, Bool.false_and])) _ s12
  rename_i hk2'
  have hk3 : 3 ≤ k := by omega
  have rest : ¬ (k = 4 ∧ t = "take") → t_law_part_word_6 K C ⟨fun _ H' => Q .non H', Q, fun _ _ => False, fun _ _ => False⟩ [some (.str t), some (.int k), some (.str s), some (.ref pb), none, none, none] H1 := by
    intro hnt
    have e3 : (k : Int) - 3 = ((k - 3 : Nat) : Int) := by omega
    kfm_turns
    rw [e3]
    kpt_turns
    · rename_i hge
      kfm_turns
      refine hno ?_ _ s1
      have : (rolesOf t)[k - 1]? = none := by
        refine List.getElem?_eq_none ?_
        rw [hroles]
        by_cases htk : t = "take"
        · rw [if_pos htk]
          have hm1 : (midOf t).length = 1 := by rw [htk]; decide +kernel
          have : k ≠ 4 := fun z => hnt ⟨z, htk⟩
          simp
          omega
        · rw [if_neg htk]
          simp
          omega
      unfold wordVal
      rw [this]
    · rename_i hge
      have hlt : k - 3 < xb.length := by omega
      obtain ⟨v, hv⟩ : ∃ v, xb[k - 3]? = some v := ⟨_, List.getElem?_eq_getElem hlt⟩
      obtain ⟨bd, hbd, hbr⟩ := reps_get hb hv
      obtain ⟨r, hr, rfl⟩ := bound_get ht hbd
      obtain ⟨m1, m2, m3, m4, m5⟩ := hmid r (List.mem_of_getElem? hr)
      obtain ⟨bq, bx, rfl, hbq, _, hbx⟩ := rep_tup_inv hbr
      obtain ⟨b1, r1, rfl, hb1, hb2⟩ := reps_inv hbx
      obtain ⟨b2, r2, rfl, hb2, hb3⟩ := reps_inv hb2
      obtain rfl := rep_int_inv hb1
      obtain rfl := rep_int_inv hb2
      obtain rfl := reps_inv_nil hb3
      kfm_turns
      rw [e3]
      refine r_ix_l e1 (atI_nat hv) ?_
      kfm_turns
      rw [e3]
      refine r_ix_l e1 (atI_nat hv) ?_
      kfm_turns
      refine ⟨s, _, _, rfl, hl, ?_⟩
      refine num r ?_ m1 m2 _ _ rfl _ s1
      rw [hroles, List.getElem?_append_left, List.getElem?_append_right (by simp; omega)]
      · have : k - 1 - (["user", "name"] : List Str).length = k - 3 := by simp; omega
        rw [this]
        exact hr
      · simp
        have := (List.getElem?_eq_some_iff.mp hr).1
        omega
  kfm_turns
  kpt_turns
  · rename_i hk
    have hk : k = 4 := by omega
    kfm_turns
    kpt_turns
    · rename_i htk
      have ew : wordVal t k s = partVal "align" s := by
        unfold wordVal
        have : (rolesOf t)[k - 1]? = some ("align" : Str) := by
          rw [hk, htk]
          decide +kernel
        rw [this]
      rw [partVal_align] at ew
      kfm_turns
      refine ⟨s, 1, 536870912, rfl, hl, ?_⟩
      by_cases c : numS s = true ∧ 1 ≤ (valN s : Int) ∧ (valN s : Int) ≤ 536870912
      · rw [if_pos c]
        kfm_turns
        refine forB_rng1 (by decide) (by decide) (fun i σ H' => H' = H1 ∧ (∀ j, j < i → (valN s : Int) ≠ 2 ^ j) ∧ ∃ y, σ = [some (.str t), some (.int k), some (.str s), some (.ref pb), none, some (.int (valN s)), y]) ⟨rfl, fun j hj => by omega, _, rfl⟩ ?_ ?_
        · rintro i σ H' hi ⟨rfl, hg, y, rfl⟩
          kfm_turns
          refine ⟨i, rfl, by omega, ?_⟩
          kfm_turns
          kpt_turns
          · rename_i he
            kfm_turns
            have hp := pows_ok i (by rw [List.mem_range]; omega)
            have hpw : powI (valN s) = true := by
              rw [he]
              have hn : ("align" : Str) ≠ "name" := by decide +kernel
              rw [partB, if_neg hn, decide_eq_true rfl, Bool.and_eq_true] at hp
              simpa using hp.2
            rw [if_pos ⟨c, hpw⟩] at ew
            exact hyes _ ew _ _ s1 rep_int
          · rename_i he
            kfm_turns
            refine ⟨rfl, fun j hj => ?_, _, rfl⟩
            by_cases hji : j < i
            · exact hg j hji
            · have : j = i := by omega
              subst this
              exact he
        · rintro σ H' ⟨rfl, hg, y, rfl⟩
          kfm_turns
          refine hno ?_ _ s1
          rw [ew, if_neg]
          rintro ⟨_, hpw⟩
          obtain ⟨j, hj⟩ := powI_pow hpw
          have : j < 30 := pow_lt30 (by omega)
          exact hg j this hj
      · rw [if_neg c]
        kfm_turns
        refine forB_rng1 (by decide) (by decide) (fun i σ H' => H' = H1 ∧ ∃ y, σ = [some (.str t), some (.int k), some (.str s), some (.ref pb), none, some .non, y]) ⟨rfl, _, rfl⟩ ?_ ?_
        · rintro i σ H' hi ⟨rfl, y, rfl⟩
          kfm_turns
          refine ⟨i, rfl, by omega, ?_⟩
          refine r_eq_ni ?_
          kfm_turns
          exact ⟨rfl, _, rfl⟩
        · rintro σ H' ⟨rfl, y, rfl⟩
          kfm_turns
          refine hno ?_ _ s1
          rw [ew, if_neg]
          rintro ⟨z, _⟩
          exact c z
    · rename_i htk
      kln_le
      exact rest fun z => htk z.2
  · rename_i hk
    kln_le
    exact rest fun z => hk (by omega)
end
end AG
namespace AG
open PySem PySem.Spec L2
local macro_rules | `(tactic| o_readsAll) => `(tactic| first | assumption | (show _ ≤ sizeLine; decide) | (refine sz_of ?_; (try simp only [List.length_cons, List.length_nil, List.length_append, List.length_map]); omega) | (refine sz_lt ?_; (try simp only [List.length_cons, List.length_nil, List.length_append, List.length_map]); omega))
local macro_rules | `(tactic| k_subL) => `(tactic| first
  | assumption
  | exact upd_same
  | (refine (upd_ne (by first | assumption | exact Ne.symm (by assumption))).trans ?_; k_subL)
  | (apply SqT.of; k_subL)
  | (refine AG.Same.app (by assumption) ?_; k_subL)
  | (apply AG.Same.sqT; assumption; k_subL)
  | (refine AG.Same.dr (by assumption) ?_; k_subL)
  | (apply AG.Same.rep; assumption; k_subL)
  | (apply AG.Same.reps; assumption; k_subL))
local macro_rules | `(tactic| o_fieldsN) => `(tactic| first | exact atI_nat (j := 0) rfl | exact atI_nat (j := 1) rfl | exact atI_nat (j := 2) rfl | exact atI_nat (j := 3) rfl | exact atI_nat (j := 4) rfl | assumption)
local macro_rules | `(tactic| tb_rel) => `(tactic| with_reducible first
  | refine s_asg ?_ | refine s_name (by first | (simp only [List.set_cons_succ, List.set_cons_zero]; done) | (simp only [List.set_cons_succ, List.set_cons_zero]; exact rfl) | exact rfl) ?_ | refine s_ret ?_ | refine s_if ?_ | refine s_next ?_ | refine s_drop ?_ | refine s_retN ?_
  | refine s_var (by with_unfolding_all rfl) ?_ | refine s_c ?_ | refine s_op ?_ | refine s_cons ?_ | refine s_nil ?_ | refine s_call ?_ | refine s_cb ?_ | refine s_test ?_ | refine s_bl ?_
  | refine s_B ?_ | refine s_and ?_ | refine s_or ?_ | refine s_not ?_ | refine s_andV ?_ | refine s_orV ?_ | refine s_notV ?_ | refine s_ifE ?_ | refine s_chain ?_ | refine s_un ?_
  | refine s_tupN ?_ | refine s_lstN ?_ | refine s_sl ?_ | refine s_nopart ?_ | refine s_part ?_ | refine s_int ?_ | refine s_bm ?_ | refine s_bm0 ?_ | refine s_gnil ?_ | refine s_gcons ?_ | refine s_gsub ?_
  | refine s_brk ?_ | refine s_cont ?_ | refine s_isS ?_ | refine s_joinU ?_ | refine s_splitU ?_ | refine s_endsU ?_
  | refine s_lc_list ?_ | refine s_lc_tup ?_ | refine s_lc_str ?_ | refine s_lc_rng1 ?_ | refine s_lc_zip ?_ | refine s_lc_zipM ?_ | refine s_star ?_ | refine r_neg ?_ | refine s_for_list ?_ | refine s_for_tup ?_ | refine s_for_str ?_ | refine s_for_rng1 ?_ | refine s_for_enum ?_ | refine s_disp1 ?_ | refine s_disp0 ?_ | refine r_ktI ?_ | refine r_ktN ?_ | refine s_for_rng2 ?_
  | refine r_add_i ?_ | refine r_sub ?_ | refine r_lt_i ?_ | refine r_gt_i ?_ | refine r_le_i ?_ | refine r_ge_i ?_ | refine r_lt_s ?_ | refine r_gt_s ?_ | refine r_le_a ?_ | refine r_le_z ?_ | refine r_le_0 ?_ | refine r_le_9 ?_ | refine r_le_s ?_ | refine r_ge_s ?_
  | refine r_eq_i ?_ | refine r_eq_s ?_ | refine r_eq_b ?_ | refine r_ne_i ?_ | refine r_ne_s ?_ | refine r_ne_b ?_ | refine r_is_n ?_ | refine r_is_b ?_ | refine r_isn_n ?_ | refine r_isn_b ?_ | refine r_and ?_
  | refine r_int_i ?_ | refine r_int_b ?_ | refine r_str_s ?_ | refine r_ord ?_ | refine r_min ?_ | refine r_max ?_ | refine s_itT ?_ | refine s_itF ?_ | refine s_itnt ?_ | refine s_itnf ?_)
local macro_rules | `(tactic| tb_start) => `(tactic| first
  | ((with_reducible refine g_ix ?_); first | refine r_ix_l (by k_subL) (by o_fieldsN) ?_ | refine r_ix_t (by k_subL) (by o_fieldsN) ?_)
  | ((with_reducible refine g_len ?_); first | refine r_len_l (by k_subL) ?_ | refine r_len_t (by k_subL) ?_ | refine r_len_s (by o_readsAll) ?_ | refine r_len_d (by k_subL) ?_)
  | ((with_reducible refine g_mod ?_); refine r_mod (by first | decide | omega) ?_)
  | ((with_reducible refine g_mul ?_); refine r_mul_i (by first | exact Or.inr ⟨by decide, by decide⟩ | exact Or.inl ⟨by decide, by decide⟩ | exact Or.inl ⟨by omega, by omega⟩ | exact Or.inr ⟨by omega, by omega⟩) ?_)
  | ((with_reducible refine g_fdv ?_); refine r_fdv ⟨by decide, by decide⟩ ?_)
  | ((with_reducible refine g_pow ?_); refine r_pow ⟨by decide, by decide, by decide⟩ ?_)
  | ((with_reducible refine g_set ?_); first
    | (refine s_setL (j := 0) (by k_subL) (by rfl) ?_; simp only [List.set_cons_succ, List.set_cons_zero, upd_upd]) | (refine s_setL (j := 1) (by k_subL) (by rfl) ?_; simp only [List.set_cons_succ, List.set_cons_zero, upd_upd])
    | (refine s_setL (j := 2) (by k_subL) (by rfl) ?_; simp only [List.set_cons_succ, List.set_cons_zero, upd_upd]) | (refine s_setL (j := 3) (by k_subL) (by rfl) ?_; simp only [List.set_cons_succ, List.set_cons_zero, upd_upd])
    | (refine s_setL (j := 4) (by k_subL) (by rfl) ?_; simp only [List.set_cons_succ, List.set_cons_zero, upd_upd]))
  | ((with_reducible refine g_add ?_); refine r_add_s (by o_readsAll) ?_)
  | ((with_reducible refine g_new ?_); refine s_new (by o_readsAll) ?_; intro _ _ _ _ _)
  | ((with_reducible refine g_ty ?_); refine s_tyL (by k_subL) ?_) | ((with_reducible refine g_app ?_); refine r_app (by k_subL) (by o_readsAll) ?_)
  | ((with_reducible refine g_isi ?_); first | refine r_isi_int (by k_subL) ?_ | refine r_isi_bool (by k_subL) ?_ | refine r_isi_str (by k_subL) ?_ | refine r_isi_list (by k_subL) ?_ | refine r_isi_tuple (by k_subL) ?_ | refine r_isi_dict (by k_subL) ?_)
  | (intro _ _ _ _ _; tb_rel))
local macro_rules | `(tactic| kfm_turns) => `(tactic| repeat (first | with_reducible refine s_seq ?_ | tb_rel | tb_start))
local macro_rules | `(tactic| kln_le) => `(tactic| repeat (first | tb_rel | tb_start))
local macro_rules | `(tactic| ktu_offI) => `(tactic| with_reducible refine s_seq ?_)
local macro_rules | `(tactic| kpt_turns) => `(tactic| first
  | with_reducible refine s_itd (fun _ => ?_) (fun _ => ?_)
  | with_reducible refine s_itn (fun _ => ?_) (fun _ => ?_)
  | with_reducible refine s_itb (fun _ => ?_) (fun _ => ?_)
  | with_reducible refine s_itbn (fun _ => ?_) (fun _ => ?_))

local macro_rules | `(tactic| kcj_m) => `(tactic| first | exact L2.Same.refl _ | assumption | (refine L2.Same.trans ?_ (by assumption); kcj_m))
local macro_rules | `(tactic| keq_rows) => `(tactic| first
  | assumption | exact rep_non | exact rep_bl | exact rep_int | exact reps_nil | (refine rep_str ?_; decide +kernel) | (refine rep_str ?_; omega)
  | (refine reps_cons ?_ ?_ <;> keq_rows)
  | (refine rep_lst (by k_subL) (by (try simp only [List.length_cons, List.length_nil, List.length_append, List.length_map]); omega) ?_; keq_rows)
  | (refine rep_tup (by k_subL) (by (try simp only [List.length_cons, List.length_nil, List.length_append, List.length_map]); omega) ?_; keq_rows)
  | (refine rep_dct1 (by k_subL) ?_; keq_rows) | exact rep_dct0 (by k_subL)
  | (apply AG.Same.rep; assumption; keq_rows) | (apply AG.Same.reps; assumption; keq_rows))
local macro_rules | `(tactic| kqd_sub) => `(tactic| first | refine s_itT ?_ | refine s_itF ?_ | refine s_itnt ?_ | refine s_itnf ?_)

section
variable {w : World} {K : PySem.W.Frag} {mg : Str → Option Value} {C : Cs}
theorem valsFrom_app {t : Str} : ∀ {a : List Str} {k : Nat} {ps : List Dat}, valsFrom t k a = .inr ps → ∀ b, valsFrom t k (a ++ b) = match valsFrom t (k + a.length) b with
    | .inl c => .inl c
    | .inr qs => .inr (ps ++ qs)
  | [], k, ps, h, b => by
    have e : ps = [] := by
      have : valsFrom t k [] = .inr [] := by rw [valsFrom]
      rw [this] at h
      exact (Sum.inr.inj h).symm
    subst e
    rw [List.nil_append]
    show valsFrom t k b = match valsFrom t k b with
      | .inl c => .inl c
      | .inr qs => .inr qs
    cases valsFrom t k b <;> rfl
  | x :: a, k, ps, h, b => by
    rw [valsFrom] at h
    rw [List.cons_append, valsFrom]
    cases hw : wordVal t k x with
    | none => rw [hw] at h; cases h
    | some d =>
      rw [hw] at h
      simp only at h ⊢
      cases hv : valsFrom t (k + 1) a with
      | inl c => rw [hv] at h; cases h
      | inr qs =>
        rw [hv] at h
        obtain rfl := Sum.inr.inj h
        rw [valsFrom_app hv b, show k + (x :: a).length = k + 1 + a.length by simp; omega]
        cases valsFrom t (k + 1 + a.length) b <;> rfl
theorem vals_one {t : Str} {k : Nat} {x : Str} {b : List Str} : valsFrom t k (x :: b) = match wordVal t k x with
    | none => .inl k
    | some d => match valsFrom t (k + 1) b with
      | .inl c => .inl c
      | .inr ds => .inr (d :: ds) := by
  rw [valsFrom] <;> (cases wordVal t k x <;> first | rfl | (simp only; cases valsFrom t (k + 1) b <;> rfl))
theorem colOf_succ {words : List Str} {i : Nat} {x : Str} (h : words[i]? = some x) : colOf words (i + 1) = colOf words i + x.length + 1 := by
  unfold colOf
  rw [List.take_succ, h, List.map_append, List.sum_append]
  simp
  omega
theorem vals_le {t : Str} {r : List Str} {ps : List Dat} (h : valsFrom t 1 r = .inr ps) : ps.length ≤ (rolesOf t).length := by
  obtain ⟨hpl, hpv⟩ := valsFrom_len h
  by_cases z : ps.length = 0
  · omega
  · obtain ⟨p, hp⟩ : ∃ p, ps[ps.length - 1]? = some p := ⟨_, List.getElem?_eq_getElem (by omega)⟩
    obtain ⟨w, hw1, hw2⟩ := hpv _ p hp
    obtain ⟨ro, h1, h2⟩ := wordVal_roles hw2
    have := (List.getElem?_eq_some_iff.mp h1).1
    omega
theorem least_mid : ∀ t ∈ titlesL, t ≠ "tick" → t ≠ "settle" → leastOf t = 3 + (midOf t).length ∧ ((rolesOf t).length = 2 + (midOf t).length + if t = "take" then 1 else 0) := by decide +kernel
theorem inV_titles (s : Str) : inV (.str s) (titlesL.map V.str) = (formsL.lookup s).isSome := by
  have e : formsL.map (·.1) = titlesL := by decide +kernel
  rw [← e]
  have key : ∀ l : List (Str × List Str), inV (.str s) ((l.map (·.1)).map V.str) = (l.lookup s).isSome := by
    intro l
    induction l with
    | nil => rfl
    | cons p r ih =>
      rw [List.map_cons, List.map_cons, List.lookup_cons]
      show (eqV (.str p.1) (.str s) || inV (.str s) ((r.map (·.1)).map V.str)) = _
      rw [ih]
      by_cases h : s = p.1
      · have e1 : (s == p.1) = true := by simpa using h
        have e2 : eqV (.str p.1) (.str s) = true := by subst h; simp [eqV]
        rw [e1, e2]
        rfl
      · have e1 : (s == p.1) = false := by simpa using h
        have e2 : eqV (.str p.1) (.str s) = false := by
          have : ¬ p.1 = s := fun z => h z.symm
          simp [eqV, this]
        rw [e1, e2]
        rfl
  exact key formsL
theorem r_in_titles {p : Addr} {s : Str} {H : Hp} {Q : VK} (h : H p = some (.lst (titlesL.map V.str))) (q : Q (.bl (formsL.lookup s).isSome) H) : rIn K false (.str s) (.ref p) H Q :=
  ⟨p, _, rfl, .inl (SqL.of h), rfl, by decide +kernel, by
    show Q (.bl (inV (.str s) (titlesL.map V.str))) H
    rw [inV_titles]
    exact q⟩
theorem p_law_line_read : Pf_law_line_read K C := by
  rintro vs H Q E ⟨line, rfl, hl, q⟩
  unfold t_law_line_read
  rw [i_law_line_read]
  obtain ⟨w1, w2, w3⟩ := split_sp line
  obtain ⟨t, r, hws⟩ : ∃ t r, Txt.split line " " = t :: r := by
    cases hw : Txt.split line " " with
    | nil => exact absurd hw w3
    | cons t r => exact ⟨t, r, rfl⟩
  have hlen : ((Txt.split line " ").map V.str).length = r.length + 1 := by rw [hws]; simp
  have hrl : r.length ≤ 900000 := by rw [hws, List.length_cons] at w2; omega
  have bad : ∀ i, badAt (Txt.split line " ") = some i → ∀ H', Same H H' → Q (.int (colOf (Txt.split line " ") i)) H' := fun i hb H' s' => q _ _ s' (by rw [readLine_bad hb])
  have badI : ∀ i (c : Int), badAt (Txt.split line " ") = some i → c = (colOf (Txt.split line " ") i : Nat) → ∀ H', Same H H' → Q (.int c) H' := fun i c hb hc H' s' => by rw [hc]; exact bad i hb H' s'
  kfm_turns
  rename_i p0 H0 hp0 s0 e0
  refine r_split (by decide +kernel) (sz_of (by omega)) fun p1 H1 hp1 s1 e1 => ?_
  have s01 := s0.trans s1
  refine forB_list (K := K) (xs := (Txt.split line " ").map V.str) (SqL.of e1) (fun i σ H' => Same H1 H' ∧ ∃ a xs y3 y4, σ = [some (.str line), some (.ref a), some (.int (colOf (Txt.split line " ") i)), y3, y4] ∧ SqT K H' a xs ∧ xs.length = i ∧ (0 < i → t ∈ titlesL ∧ ∃ ps, valsFrom t 1 (r.take (i - 1)) = .inr ps ∧ Reps K H' (.str t :: ps) xs))
    ⟨Same.refl _, p0, [], none, none, rfl, SqT.of (s1 _ _ e0), rfl, fun z => absurd z (by decide)⟩ (fun i σ H' _ h => SqL.of (h.1 _ _ e1)) ?_ ?_
  · rintro i x σ H' hx ⟨s2, a, xs, y3, y4, rfl, ha, hxl, hi⟩
    obtain ⟨s, hs, rfl⟩ := list_vals hx
    have hsl := w1 s (List.mem_of_getElem? hs)
    have s02 := s01.trans s2
    have hil : i < r.length + 1 := by
      have := (List.getElem?_eq_some_iff.mp hs).1
      rw [hws] at this
      exact this
    have hcl : (colOf (Txt.split line " ") i : Int) + (s.length : Int) + 1 = ((colOf (Txt.split line " ") (i + 1) : Nat) : Int) := by
      rw [colOf_succ hs]
      omega
    refine s_name (by exact rfl) ?_
    cases i with
    | zero =>
      have hst : s = t := by
        rw [hws] at hs
        simpa using hs.symm
      subst hst
      have hx0 : xs = [] := List.length_eq_zero_iff.mp hxl
      subst hx0
      kfm_turns
      refine s_itdF (by simp) ?_
      kfm_turns
      refine ⟨rfl, fun p2 H2 s3 e2 => ?_⟩
      refine r_in_titles e2 ?_
      cases hf : formsL.lookup s with
      | none =>
        refine s_bl ?_
        refine s_itbF rfl ?_
        kfm_turns
        kqd_sub
        kfm_turns
        refine badI 0 1 ?_ rfl _ (s02.trans s3)
        rw [hws, badAt, hf]
        rfl
      | some rs =>
        have ht := titles_mem hf
        refine s_bl ?_
        refine s_itbT rfl ?_
        kfm_turns
        kqd_sub
        kfm_turns
        rename_i T H4 hT s4 e4
        refine r_add_t (Same.sqT (s3.trans s4) ha) (SqT.of e4) (sz_of (by simp)) fun pn H5 s5 hpn => ?_
        kfm_turns
        rw [hcl]
        refine ⟨((s2.trans s3).trans s4).trans s5, pn, _, _, _, rfl, hpn, rfl, fun _ => ⟨ht, [], ?_, ?_⟩⟩
        · rw [Nat.zero_add, Nat.sub_self, List.take_zero, valsFrom]
        · exact reps_cons (rep_str (by omega)) reps_nil
    | succ j =>
      obtain ⟨ht, ps, hv, hrx⟩ := hi (by omega)
      rw [Nat.add_sub_cancel] at hv
      have htl : t.length ≤ 1000000 := by have := (title_word ht).1; omega
      have hsr : r[j]? = some s := by
        rw [hws] at hs
        simpa using hs
      obtain ⟨y, ys, hxy, hr1, hr2⟩ := reps_inv hrx
      obtain rfl := (rep_str_inv hr1).1
      have hx0 : atI xs 0 = some (.str t) := atI_nat (j := 0) (by rw [hxy]; rfl)
      have htk : (r.take j).length = j := by rw [List.length_take]; omega
      have hpl : ps.length = j := by
        have := (valsFrom_len hv).1
        omega
      have hsplit : r = r.take j ++ s :: r.drop (j + 1) := by
        have := List.take_append_drop j r
        rw [List.drop_eq_getElem_cons (by omega), (List.getElem?_eq_some_iff.mp hsr).2] at this
        exact this.symm
      kfm_turns
      rw [hxl]
      refine s_itdT (by omega) ?_
      kfm_turns
      rw [hxl]
      refine ⟨t, j + 1, s, rfl, ht, by omega, by omega, by omega, fun v H3 s3 hvv => ?_⟩
      have s03 := s02.trans s3
      cases hwv : wordVal t (j + 1) s with
      | none =>
        rw [hwv] at hvv
        simp only at hvv
        subst hvv
        kfm_turns
        kqd_sub
        kfm_turns
        refine bad (j + 1) ?_ _ s03
        rw [hws, badAt, if_pos (forms_some ht)]
        have : valsFrom t 1 r = .inl (j + 1) := by
          rw [hsplit, valsFrom_app hv, htk, vals_one, show 1 + j = j + 1 by omega, hwv]
        rw [this]
      | some d =>
        rw [hwv] at hvv
        simp only at hvv
        have hvn : v ≠ .non := by
          obtain ⟨ro, _, h3⟩ := wordVal_roles hwv
          rcases partVal_form h3 with ⟨_, rfl⟩ | ⟨_, _, rfl⟩
          · rw [(rep_str_inv hvv).1]; intro z; cases z
          · rw [rep_int_inv hvv]; intro z; cases z
        kfm_turns
        refine s_itdF hvn ?_
        kfm_turns
        rename_i T H4 hT s4 e4
        refine r_add_t (Same.sqT (s3.trans s4) ha) (SqT.of e4) (sz_of (by rw [hxl]; simp; omega)) fun pn H5 s5 hpn => ?_
        kfm_turns
        rw [hcl]
        have s25 := (s3.trans s4).trans s5
        refine ⟨s2.trans s25, pn, _, _, _, rfl, hpn, by simp [hxl], fun _ => ⟨ht, ps ++ [d], ?_, ?_⟩⟩
        · rw [Nat.add_sub_cancel, List.take_succ, hsr]
          show valsFrom t 1 (r.take j ++ [s]) = _
          rw [valsFrom_app hv, htk, vals_one, show 1 + j = j + 1 by omega, hwv]
          simp only
          rw [valsFrom]
        · rw [← List.cons_append]
          exact reps_snoc (Same.reps s25 hrx) (Same.rep (s4.trans s5) hvv)
  · rintro σ H' ⟨s2, a, xs, y3, y4, rfl, ha, hxl, hi⟩
    rw [hlen] at hxl hi
    obtain ⟨ht, ps, hv, hrx⟩ := hi (by omega)
    rw [Nat.add_sub_cancel, List.take_length] at hv
    obtain ⟨hb, hrd⟩ := readLine_of hws ht hv
    have hpl := (valsFrom_len hv).1
    have hple := vals_le hv
    have htl : t.length ≤ 1000000 := by have := (title_word ht).1; omega
    have h4 := (titles_roles t ht).2.2.2.1
    obtain ⟨y, ys, hxy, hr1, hr2⟩ := reps_inv hrx
    obtain rfl := (rep_str_inv hr1).1
    have hx0 : atI xs 0 = some (.str t) := atI_nat (j := 0) (by rw [hxy]; rfl)
    have s02 := s01.trans s2
    have whole : ∀ H2, Same H' H2 → leastOf t ≤ r.length + 1 → ¬ ps.length < (rolesOf t).length → Q (.ref a) H2 := by
      intro H2 s3 h1 h2
      rw [if_neg (by omega), if_neg h2] at hrd
      refine q _ _ (s02.trans s3) ?_
      rw [hrd]
      exact rep_tup (Same.sqT s3 ha) (by omega) (Same.reps s3 hrx)
    kfm_turns
    kpt_turns
    · rename_i h
      kfm_turns
      have : rolesOf t = [] := by unfold rolesOf; rw [if_pos (.inl h)]
      have h5 : leastOf t = 1 := by rw [h]; decide +kernel
      exact whole _ (Same.refl _) (by omega) (by rw [this]; simp)
    rename_i hn1
    kfm_turns
    kpt_turns
    · rename_i h
      kfm_turns
      have : rolesOf t = [] := by unfold rolesOf; rw [if_pos (.inr h)]
      have h5 : leastOf t = 1 := by rw [h]; decide +kernel
      exact whole _ (Same.refl _) (by omega) (by rw [this]; simp)
    rename_i hn2
    obtain ⟨hlm, hrm⟩ := least_mid t ht hn1 hn2
    kfm_turns
    refine ⟨t, rfl, fun pb xb H3 s3 e3 hb3 => ?_⟩
    have hlb : xb.length = (midOf t).length := by rw [reps_len hb3, List.length_map, (titles_roles t ht).2.1, List.length_map]
    kfm_turns
    rw [hxl, hlb]
    kpt_turns
    · rename_i hlt
      kfm_turns
      refine q _ _ (s02.trans s3) ?_
      rw [hrd, if_pos (by omega)]
      show V.int _ = V.int _
      congr 1
    rename_i hlt
    have ha3 := Same.sqT s3 ha
    kfm_turns
    kpt_turns
    · rename_i htk
      kfm_turns
      rw [hxl]
      kpt_turns
      · rename_i h4l
        kfm_turns
        rename_i T H4 hT s4 e4
        refine r_add_t (Same.sqT s4 ha3) (SqT.of e4) (sz_of (by rw [hxl]; simp; omega)) fun pn H5 s5 hpn => ?_
        have s35 := (s3.trans s4).trans s5
        refine q _ _ (s02.trans s35) ?_
        have hm1 : (midOf t).length = 1 := by rw [htk]; decide +kernel
        rw [hrd, if_neg (by omega), if_pos (by rw [hrm, if_pos htk]; omega)]
        refine rep_tup hpn (by simp; omega) ?_
        rw [← List.cons_append]
        exact reps_snoc (Same.reps s35 hrx) rep_int
      · rename_i h4l
        kfm_turns
        refine whole _ s3 (by omega) ?_
        rw [hrm, if_pos htk]
        have : (midOf t).length = 1 := by rw [htk]; decide +kernel
        omega
    · rename_i htk
      kfm_turns
      refine whole _ s3 (by omega) ?_
      rw [hrm, if_neg htk]
      omega
end
end AG
namespace AG
open PySem PySem.Spec L2
local macro_rules | `(tactic| o_readsAll) => `(tactic| first | assumption | (show _ ≤ sizeLine; decide) | (refine sz_of ?_; (try simp only [List.length_cons, List.length_nil, List.length_append, List.length_map]); omega) | (refine sz_lt ?_; (try simp only [List.length_cons, List.length_nil, List.length_append, List.length_map]); omega))
local macro_rules | `(tactic| k_subL) => `(tactic| first
  | assumption
  | exact upd_same
  | (refine (upd_ne (by first | assumption | exact Ne.symm (by assumption))).trans ?_; k_subL)
  | (apply SqT.of; k_subL)
  | (refine AG.Same.app (by assumption) ?_; k_subL)
  | (apply AG.Same.sqT; assumption; k_subL)
  | (refine AG.Same.dr (by assumption) ?_; k_subL)
  | (apply AG.Same.rep; assumption; k_subL)
  | (apply AG.Same.reps; assumption; k_subL))
local macro_rules | `(tactic| o_fieldsN) => `(tactic| first | exact atI_nat (j := 0) rfl | exact atI_nat (j := 1) rfl | exact atI_nat (j := 2) rfl | exact atI_nat (j := 3) rfl | exact atI_nat (j := 4) rfl | assumption)
local macro_rules | `(tactic| tb_rel) => `(tactic| with_reducible first
  | refine s_asg ?_ | refine s_name (by first | (simp only [List.set_cons_succ, List.set_cons_zero]; done) | (simp only [List.set_cons_succ, List.set_cons_zero]; exact rfl) | exact rfl) ?_ | refine s_ret ?_ | refine s_if ?_ | refine s_next ?_ | refine s_drop ?_ | refine s_retN ?_
  | refine s_var (by with_unfolding_all rfl) ?_ | refine s_c ?_ | refine s_op ?_ | refine s_cons ?_ | refine s_nil ?_ | refine s_call ?_ | refine s_cb ?_ | refine s_test ?_ | refine s_bl ?_
  | refine s_B ?_ | refine s_and ?_ | refine s_or ?_ | refine s_not ?_ | refine s_andV ?_ | refine s_orV ?_ | refine s_notV ?_ | refine s_ifE ?_ | refine s_chain ?_ | refine s_un ?_
  | refine s_tupN ?_ | refine s_lstN ?_ | refine s_sl ?_ | refine s_nopart ?_ | refine s_part ?_ | refine s_int ?_ | refine s_bm ?_ | refine s_bm0 ?_ | refine s_gnil ?_ | refine s_gcons ?_ | refine s_gsub ?_
  | refine s_brk ?_ | refine s_cont ?_ | refine s_isS ?_ | refine s_joinU ?_ | refine s_splitU ?_ | refine s_endsU ?_
  | refine s_lc_list ?_ | refine s_lc_tup ?_ | refine s_lc_str ?_ | refine s_lc_rng1 ?_ | refine s_lc_zip ?_ | refine s_lc_zipM ?_ | refine s_star ?_ | refine r_neg ?_ | refine s_for_list ?_ | refine s_for_tup ?_ | refine s_for_str ?_ | refine s_for_rng1 ?_ | refine s_for_enum ?_ | refine s_disp1 ?_ | refine s_disp0 ?_ | refine r_ktI ?_ | refine r_ktN ?_ | refine s_for_rng2 ?_
  | refine r_add_i ?_ | refine r_sub ?_ | refine r_lt_i ?_ | refine r_gt_i ?_ | refine r_le_i ?_ | refine r_ge_i ?_ | refine r_lt_s ?_ | refine r_gt_s ?_ | refine r_le_a ?_ | refine r_le_z ?_ | refine r_le_0 ?_ | refine r_le_9 ?_ | refine r_le_s ?_ | refine r_ge_s ?_
  | refine r_eq_i ?_ | refine r_eq_s ?_ | refine r_eq_b ?_ | refine r_ne_i ?_ | refine r_ne_s ?_ | refine r_ne_b ?_ | refine r_is_n ?_ | refine r_is_b ?_ | refine r_isn_n ?_ | refine r_isn_b ?_ | refine r_and ?_
  | refine r_int_i ?_ | refine r_int_b ?_ | refine r_str_s ?_ | refine r_ord ?_ | refine r_min ?_ | refine r_max ?_ | refine s_itT ?_ | refine s_itF ?_ | refine s_itnt ?_ | refine s_itnf ?_)
local macro_rules | `(tactic| tb_start) => `(tactic| first
  | ((with_reducible refine g_ix ?_); first | refine r_ix_l (by k_subL) (by o_fieldsN) ?_ | refine r_ix_t (by k_subL) (by o_fieldsN) ?_)
  | ((with_reducible refine g_len ?_); first | refine r_len_l (by k_subL) ?_ | refine r_len_t (by k_subL) ?_ | refine r_len_s (by o_readsAll) ?_ | refine r_len_d (by k_subL) ?_)
  | ((with_reducible refine g_mod ?_); refine r_mod (by first | decide | omega) ?_)
  | ((with_reducible refine g_mul ?_); refine r_mul_i (by first | exact Or.inr ⟨by decide, by decide⟩ | exact Or.inl ⟨by decide, by decide⟩ | exact Or.inl ⟨by omega, by omega⟩ | exact Or.inr ⟨by omega, by omega⟩) ?_)
  | ((with_reducible refine g_fdv ?_); refine r_fdv ⟨by decide, by decide⟩ ?_)
  | ((with_reducible refine g_pow ?_); refine r_pow ⟨by decide, by decide, by decide⟩ ?_)
  | ((with_reducible refine g_set ?_); first
    | (refine s_setL (j := 0) (by k_subL) (by rfl) ?_; simp only [List.set_cons_succ, List.set_cons_zero, upd_upd]) | (refine s_setL (j := 1) (by k_subL) (by rfl) ?_; simp only [List.set_cons_succ, List.set_cons_zero, upd_upd])
    | (refine s_setL (j := 2) (by k_subL) (by rfl) ?_; simp only [List.set_cons_succ, List.set_cons_zero, upd_upd]) | (refine s_setL (j := 3) (by k_subL) (by rfl) ?_; simp only [List.set_cons_succ, List.set_cons_zero, upd_upd])
    | (refine s_setL (j := 4) (by k_subL) (by rfl) ?_; simp only [List.set_cons_succ, List.set_cons_zero, upd_upd]))
  | ((with_reducible refine g_add ?_); refine r_add_s (by o_readsAll) ?_)
  | ((with_reducible refine g_new ?_); refine s_new (by o_readsAll) ?_; intro _ _ _ _ _)
  | ((with_reducible refine g_ty ?_); refine s_tyL (by k_subL) ?_) | ((with_reducible refine g_app ?_); refine r_app (by k_subL) (by o_readsAll) ?_)
  | ((with_reducible refine g_isi ?_); first | refine r_isi_int (by k_subL) ?_ | refine r_isi_bool (by k_subL) ?_ | refine r_isi_str (by k_subL) ?_ | refine r_isi_list (by k_subL) ?_ | refine r_isi_tuple (by k_subL) ?_ | refine r_isi_dict (by k_subL) ?_)
  | (intro _ _ _ _ _; tb_rel))
local macro_rules | `(tactic| kfm_turns) => `(tactic| repeat (first | with_reducible refine s_seq ?_ | tb_rel | tb_start))
local macro_rules | `(tactic| kln_le) => `(tactic| repeat (first | tb_rel | tb_start))
local macro_rules | `(tactic| ktu_offI) => `(tactic| with_reducible refine s_seq ?_)
local macro_rules | `(tactic| kpt_turns) => `(tactic| first
  | with_reducible refine s_itd (fun _ => ?_) (fun _ => ?_)
  | with_reducible refine s_itn (fun _ => ?_) (fun _ => ?_)
  | with_reducible refine s_itb (fun _ => ?_) (fun _ => ?_)
  | with_reducible refine s_itbn (fun _ => ?_) (fun _ => ?_))

local macro_rules | `(tactic| kcj_m) => `(tactic| first | exact L2.Same.refl _ | assumption | (refine L2.Same.trans ?_ (by assumption); kcj_m))
local macro_rules | `(tactic| keq_rows) => `(tactic| first
  | assumption | exact rep_non | exact rep_bl | exact rep_int | exact reps_nil | (refine rep_str ?_; decide +kernel) | (refine rep_str ?_; omega)
  | (refine reps_cons ?_ ?_ <;> keq_rows)
  | (refine rep_lst (by k_subL) (by (try simp only [List.length_cons, List.length_nil, List.length_append, List.length_map]); omega) ?_; keq_rows)
  | (refine rep_tup (by k_subL) (by (try simp only [List.length_cons, List.length_nil, List.length_append, List.length_map]); omega) ?_; keq_rows)
  | (refine rep_dct1 (by k_subL) ?_; keq_rows) | exact rep_dct0 (by k_subL)
  | (apply AG.Same.rep; assumption; keq_rows) | (apply AG.Same.reps; assumption; keq_rows))
local macro_rules | `(tactic| kqd_sub) => `(tactic| first | refine s_itT ?_ | refine s_itF ?_ | refine s_itnt ?_ | refine s_itnf ?_)

section
variable {w : World} {K : PySem.W.Frag} {mg : Str → Option Value} {C : Cs}
theorem readLine_row {l : Str} {d : Dat} (h : readLine l = .inr d) : rowF d := by
  rw [readLine_eq] at h
  cases hb : badAt (Txt.split l " ") with
  | some k => rw [hb] at h; cases h
  | none =>
    rw [hb] at h
    cases hw : Txt.split l " " with
    | nil => rw [hw] at h; cases h
    | cons t r =>
      rw [hw] at h
      simp only at h
      by_cases hl : r.length + 1 < leastOf t
      · rw [if_pos hl] at h; cases h
      · rw [if_neg hl] at h
        cases hv : valsFrom t 1 r with
        | inl k => rw [hv] at h; cases h
        | inr ps =>
          rw [hv] at h
          refine ⟨t, _, (Sum.inr.inj h).symm, fun d hd => ?_⟩
          have hf := valsFrom_flat hv
          split at hd
          · rcases List.mem_append.mp hd with hd | hd
            · exact hf d hd
            · rw [List.mem_singleton.mp hd]; exact True.intro
          · exact hf d hd
theorem row_ty {d : Dat} (h : rowF d) : dInt d = false := by
  obtain ⟨t, ps, rfl, _⟩ := h
  rfl
theorem lawLines_one (n : Nat) (l : Str) : lawLines n [l] = if l = "" then .inr [] else match readLine l with
    | .inl c => .inl (n, c)
    | .inr _ => .inl (n, l.length + 1) := by
  rw [lawLines] <;> (split <;> first | rfl | (cases readLine l <;> rfl))
theorem p_law_text_read : Pf_law_text_read K C := by
  rintro vs H Q E ⟨s, rfl, hl, q⟩
  unfold t_law_text_read
  rw [i_law_text_read]
  obtain ⟨w1, w2, w3⟩ := split_nl s
  have hlaw := law_text s
  have hpos : 0 < (Txt.split s "\n").length := List.length_pos_iff.mpr w3
  generalize hls : Txt.split s "\n" = ls at w1 w2 w3 hlaw hpos
  have ref : ∀ (n c : Nat) (v : V) H', readText s = .inl (n, c) → Same H H' → Rep K H' (.tup [.str "refused", .int n, .int c]) v → Q v H' := fun n c v H' e s' r => q v H' s' (by unfold toldOf; rw [e]; exact r)
  have par : ∀ (ds : List Dat) (v : V) H', readText s = .inr ds → Same H H' → Rep K H' (.tup [.str "parsed", .lst ds]) v → Q v H' := fun ds v H' e s' r => q v H' s' (by unfold toldOf; rw [e]; exact r)
  kfm_turns
  refine r_split (by decide +kernel) (sz_of (by omega)) fun p1 H1 hp1 s1 e1 => ?_
  rw [hls] at e1
  kfm_turns
  rename_i R H2 hR s2 e2
  have e12 := s2 _ _ e1
  have hnR : p1 ≠ R := ne_of_none e1 hR
  have hlen : ((ls.map V.str).length : Int) = (ls.length : Int) := by rw [List.length_map]
  have fin : ∀ (σ : L2.St) H' acc ds, Same H1 H' → H' R = some (.lst acc) → acc.length ≤ ls.length → Reps K H' ds acc → readText s = .inr ds → σ[2]? = some (some (.ref R)) → t_law_text_read_4 K C ⟨fun _ H' => Q .non H', Q, fun _ _ => False, fun _ _ => False⟩ σ H' := by
    intro σ H' acc ds s' ea hal hr hrt hσ
    refine s_ret ?_
    refine s_tupN ?_
    refine s_cons ?_
    refine s_c ?_
    refine s_cons ?_
    refine s_var hσ ?_
    refine s_nil ?_
    kfm_turns
    rename_i T H3 hT s3 e3
    exact par ds _ _ hrt ((s1.trans s').trans s3) (rep_tup (SqT.of e3) (by simp) (reps_cons (rep_str (by decide)) (reps_cons (rep_lst (s3 _ _ ea) (by omega) (Same.reps s3 hr)) reps_nil)))
  refine forB_rng1 (by omega) (by omega) (fun i σ H' => Same H1 H' ∧ H' p1 = some (.lst (ls.map V.str)) ∧ (∃ acc ds, H' R = some (.lst acc) ∧ acc.length = i ∧ Reps K H' ds acc ∧ (∀ d ∈ ds, rowF d) ∧ readText s = comb ds (lawLines (1 + i) (ls.drop i))) ∧ ∃ y3 y4 y5, σ = [some (.str s), some (.ref p1), some (.ref R), y3, y4, y5])
    ⟨s2, e12, ⟨[], [], e2, rfl, reps_nil, fun _ h => absurd h List.not_mem_nil, by rw [comb_nil, List.drop_zero]; exact hlaw.symm⟩, _, _, _, rfl⟩ ?_ ?_
  · rintro i σ H' hi ⟨s4, e4, ⟨acc, ds, ea, hal, hra, hrow, hcomb⟩, y3, y4, y5, rfl⟩
    have hil : i < ls.length := by omega
    obtain ⟨l, hline⟩ : ∃ l, ls[i]? = some l := ⟨_, List.getElem?_eq_getElem hil⟩
    have hll := w1 l (List.mem_of_getElem? hline)
    have hdrop : ls.drop i = l :: ls.drop (i + 1) := by
      rw [List.drop_eq_getElem_cons hil]
      rw [(List.getElem?_eq_some_iff.mp hline).2]
    rw [hdrop] at hcomb
    have hat : atI (ls.map V.str) (i : Int) = some (.str l) := atI_nat (by rw [List.getElem?_map, hline]; rfl)
    have s04 := s1.trans s4
    have elast : decide ((i : Int) = (ls.length : Int) - 1) = decide (ls.drop (i + 1) = []) := decide_eq_decide.mpr (by rw [List.drop_eq_nil_iff]; omega)
    kfm_turns
    rw [hlen, elast]
    have read : ∀ v H5, Same H' H5 → (match readLine l with | .inl c => v = .int c | .inr d => Rep K H5 d v) → ((∃ c : Nat, readLine l = .inl c ∧ v = .int c ∧ Rep K H5 (.int c) v) ∨ ∃ d, readLine l = .inr d ∧ rowF d ∧ Rep K H5 d v) := by
      intro v H5 s5 hv
      cases hr : readLine l with
      | inl c =>
        rw [hr] at hv
        simp only at hv
        subst hv
        exact .inl ⟨c, rfl, rfl, rep_int⟩
      | inr d =>
        rw [hr] at hv
        exact .inr ⟨d, rfl, readLine_row hr, hv⟩
    have e1i : ((i : Int) + 1) = ((1 + i : Nat) : Int) := by omega
    by_cases hla : ls.drop (i + 1) = []
    · rw [decide_eq_true hla]
      rw [hla, lawLines_one] at hcomb
      kfm_turns
      kpt_turns
      · rename_i he
        rw [if_pos he] at hcomb
        refine s_brk ?_
        refine fin _ H' acc ds s4 ea (by omega) hra ?_ rfl
        rw [hcomb]
        show Sum.inr (ds ++ []) = _
        rw [List.append_nil]
      · rename_i he
        rw [if_neg he] at hcomb
        kfm_turns
        refine ⟨l, rfl, by omega, fun v H5 s5 hv => ?_⟩
        have s05 := s04.trans s5
        rcases read v H5 s5 hv with ⟨c, hr, rfl, hrep⟩ | ⟨d, hr, hrf, hrep⟩
        · kfm_turns
          kqd_sub
          kfm_turns
          rename_i T H6 hT s6 e6
          rw [hr] at hcomb
          refine ref (1 + i) c _ _ hcomb (s05.trans s6) (rep_tup (SqT.of e6) (by simp) (reps_cons (rep_str (by decide)) (reps_cons ?_ (reps_cons rep_int reps_nil))))
          rw [e1i]
          exact rep_int
        · have hd := row_ty hrf
          kfm_turns
          rw [hd]
          kqd_sub
          kfm_turns
          refine r_ix_l (s5 _ _ e4) hat ?_
          kfm_turns
          rename_i T H6 hT s6 e6
          rw [hr] at hcomb
          refine ref (1 + i) (l.length + 1) _ _ hcomb (s05.trans s6) (rep_tup (SqT.of e6) (by simp) (reps_cons (rep_str (by decide)) (reps_cons ?_ (reps_cons rep_int reps_nil))))
          rw [e1i]
          exact rep_int
    · rw [decide_eq_false hla]
      rw [lawLines_cons hla] at hcomb
      kfm_turns
      refine ⟨l, rfl, by omega, fun v H5 s5 hv => ?_⟩
      have s05 := s04.trans s5
      rcases read v H5 s5 hv with ⟨c, hr, rfl, hrep⟩ | ⟨d, hr, hrf, hrep⟩
      · kfm_turns
        kqd_sub
        kfm_turns
        rename_i T H6 hT s6 e6
        rw [hr] at hcomb
        refine ref (1 + i) c _ _ hcomb (s05.trans s6) (rep_tup (SqT.of e6) (by simp) (reps_cons (rep_str (by decide)) (reps_cons ?_ (reps_cons rep_int reps_nil))))
        rw [e1i]
        exact rep_int
      · have hd := row_ty hrf
        have ea5 := s5 _ _ ea
        kfm_turns
        rw [hd]
        kqd_sub
        kfm_turns
        rw [hr] at hcomb
        have hc' : readText s = comb ds (comb [d] (lawLines (1 + i + 1) (ls.drop (i + 1)))) := hcomb
        rw [comb_snoc] at hc'
        refine ⟨Same.mut (s4.trans s5) (s1.free hR |> fun _ => hR), by rw [upd_ne hnR]; exact s5 _ _ e4, ⟨acc ++ [v], ds ++ [d], upd_same, by simp [hal], ?_, ?_, ?_⟩, _, _, _, rfl⟩
        · exact reps_snoc (rowsF_upd ea5 hrow (Same.reps s5 hra)) (rowF_upd ea5 hrf hrep)
        · intro d' hd'
          rcases List.mem_append.mp hd' with hd' | hd'
          · exact hrow d' hd'
          · rw [List.mem_singleton.mp hd']; exact hrf
        · rw [show 1 + (i + 1) = 1 + i + 1 by omega]
          exact hc'
  · rintro σ H' ⟨s4, e4, ⟨acc, ds, ea, hal, hra, hrow, hcomb⟩, y3, y4, y5, rfl⟩
    have hi : ((ls.map V.str).length : Int).toNat = ls.length := by rw [hlen]; omega
    rw [hi] at hal hcomb
    refine fin _ H' acc ds s4 ea (by omega) hra ?_ rfl
    rw [hcomb, List.drop_eq_nil_of_le (Nat.le_refl _), lawLines]
    show Sum.inr (ds ++ []) = _
    rw [List.append_nil]
end
end AG
namespace AG
open PySem PySem.Spec L2
local macro_rules | `(tactic| o_readsAll) => `(tactic| first | assumption | (show _ ≤ sizeLine; decide) | (refine sz_of ?_; (try simp only [List.length_cons, List.length_nil, List.length_append, List.length_map]); omega) | (refine sz_lt ?_; (try simp only [List.length_cons, List.length_nil, List.length_append, List.length_map]); omega))
local macro_rules | `(tactic| k_subL) => `(tactic| first
  | assumption
  | exact upd_same
  | (refine (upd_ne (by first | assumption | exact Ne.symm (by assumption))).trans ?_; k_subL)
  | (apply SqT.of; k_subL)
  | (refine AG.Same.app (by assumption) ?_; k_subL)
  | (apply AG.Same.sqT; assumption; k_subL)
  | (refine AG.Same.dr (by assumption) ?_; k_subL)
  | (apply AG.Same.rep; assumption; k_subL)
  | (apply AG.Same.reps; assumption; k_subL))
local macro_rules | `(tactic| o_fieldsN) => `(tactic| first | exact atI_nat (j := 0) rfl | exact atI_nat (j := 1) rfl | exact atI_nat (j := 2) rfl | exact atI_nat (j := 3) rfl | exact atI_nat (j := 4) rfl | assumption)
local macro_rules | `(tactic| tb_rel) => `(tactic| with_reducible first
  | refine s_asg ?_ | refine s_name (by first | (simp only [List.set_cons_succ, List.set_cons_zero]; done) | (simp only [List.set_cons_succ, List.set_cons_zero]; exact rfl) | exact rfl) ?_ | refine s_ret ?_ | refine s_if ?_ | refine s_next ?_ | refine s_drop ?_ | refine s_retN ?_
  | refine s_var (by with_unfolding_all rfl) ?_ | refine s_c ?_ | refine s_op ?_ | refine s_cons ?_ | refine s_nil ?_ | refine s_call ?_ | refine s_cb ?_ | refine s_test ?_ | refine s_bl ?_
  | refine s_B ?_ | refine s_and ?_ | refine s_or ?_ | refine s_not ?_ | refine s_andV ?_ | refine s_orV ?_ | refine s_notV ?_ | refine s_ifE ?_ | refine s_chain ?_ | refine s_un ?_
  | refine s_tupN ?_ | refine s_lstN ?_ | refine s_sl ?_ | refine s_nopart ?_ | refine s_part ?_ | refine s_int ?_ | refine s_bm ?_ | refine s_bm0 ?_ | refine s_gnil ?_ | refine s_gcons ?_ | refine s_gsub ?_
  | refine s_brk ?_ | refine s_cont ?_ | refine s_isS ?_ | refine s_joinU ?_ | refine s_splitU ?_ | refine s_endsU ?_
  | refine s_lc_list ?_ | refine s_lc_tup ?_ | refine s_lc_str ?_ | refine s_lc_rng1 ?_ | refine s_lc_zip ?_ | refine s_lc_zipM ?_ | refine s_star ?_ | refine r_neg ?_ | refine s_for_list ?_ | refine s_for_tup ?_ | refine s_for_str ?_ | refine s_for_rng1 ?_ | refine s_for_enum ?_ | refine s_disp1 ?_ | refine s_disp0 ?_ | refine r_ktI ?_ | refine r_ktN ?_ | refine s_for_rng2 ?_
  | refine r_add_i ?_ | refine r_sub ?_ | refine r_lt_i ?_ | refine r_gt_i ?_ | refine r_le_i ?_ | refine r_ge_i ?_ | refine r_lt_s ?_ | refine r_gt_s ?_ | refine r_le_a ?_ | refine r_le_z ?_ | refine r_le_0 ?_ | refine r_le_9 ?_ | refine r_le_s ?_ | refine r_ge_s ?_
  | refine r_eq_i ?_ | refine r_eq_s ?_ | refine r_eq_b ?_ | refine r_ne_i ?_ | refine r_ne_s ?_ | refine r_ne_b ?_ | refine r_is_n ?_ | refine r_is_b ?_ | refine r_isn_n ?_ | refine r_isn_b ?_ | refine r_and ?_
  | refine r_int_i ?_ | refine r_int_b ?_ | refine r_str_s ?_ | refine r_ord ?_ | refine r_min ?_ | refine r_max ?_ | refine s_itT ?_ | refine s_itF ?_ | refine s_itnt ?_ | refine s_itnf ?_)
local macro_rules | `(tactic| tb_start) => `(tactic| first
  | ((with_reducible refine g_ix ?_); first | refine r_ix_l (by k_subL) (by o_fieldsN) ?_ | refine r_ix_t (by k_subL) (by o_fieldsN) ?_)
  | ((with_reducible refine g_len ?_); first | refine r_len_l (by k_subL) ?_ | refine r_len_t (by k_subL) ?_ | refine r_len_s (by o_readsAll) ?_ | refine r_len_d (by k_subL) ?_)
  | ((with_reducible refine g_mod ?_); refine r_mod (by first | decide | omega) ?_)
  | ((with_reducible refine g_mul ?_); refine r_mul_i (by first | exact Or.inr ⟨by decide, by decide⟩ | exact Or.inl ⟨by decide, by decide⟩ | exact Or.inl ⟨by omega, by omega⟩ | exact Or.inr ⟨by omega, by omega⟩) ?_)
  | ((with_reducible refine g_fdv ?_); refine r_fdv ⟨by decide, by decide⟩ ?_)
  | ((with_reducible refine g_pow ?_); refine r_pow ⟨by decide, by decide, by decide⟩ ?_)
  | ((with_reducible refine g_set ?_); first
    | (refine s_setL (j := 0) (by k_subL) (by rfl) ?_; simp only [List.set_cons_succ, List.set_cons_zero, upd_upd]) | (refine s_setL (j := 1) (by k_subL) (by rfl) ?_; simp only [List.set_cons_succ, List.set_cons_zero, upd_upd])
    | (refine s_setL (j := 2) (by k_subL) (by rfl) ?_; simp only [List.set_cons_succ, List.set_cons_zero, upd_upd]) | (refine s_setL (j := 3) (by k_subL) (by rfl) ?_; simp only [List.set_cons_succ, List.set_cons_zero, upd_upd])
    | (refine s_setL (j := 4) (by k_subL) (by rfl) ?_; simp only [List.set_cons_succ, List.set_cons_zero, upd_upd]))
  | ((with_reducible refine g_add ?_); refine r_add_s (by o_readsAll) ?_)
  | ((with_reducible refine g_new ?_); refine s_new (by o_readsAll) ?_; intro _ _ _ _ _)
  | ((with_reducible refine g_ty ?_); refine s_tyL (by k_subL) ?_) | ((with_reducible refine g_app ?_); refine r_app (by k_subL) (by o_readsAll) ?_)
  | ((with_reducible refine g_isi ?_); first | refine r_isi_int (by k_subL) ?_ | refine r_isi_bool (by k_subL) ?_ | refine r_isi_str (by k_subL) ?_ | refine r_isi_list (by k_subL) ?_ | refine r_isi_tuple (by k_subL) ?_ | refine r_isi_dict (by k_subL) ?_)
  | (intro _ _ _ _ _; tb_rel))
local macro_rules | `(tactic| kfm_turns) => `(tactic| repeat (first | with_reducible refine s_seq ?_ | tb_rel | tb_start))
local macro_rules | `(tactic| kln_le) => `(tactic| repeat (first | tb_rel | tb_start))
local macro_rules | `(tactic| ktu_offI) => `(tactic| with_reducible refine s_seq ?_)
local macro_rules | `(tactic| kpt_turns) => `(tactic| first
  | with_reducible refine s_itd (fun _ => ?_) (fun _ => ?_)
  | with_reducible refine s_itn (fun _ => ?_) (fun _ => ?_)
  | with_reducible refine s_itb (fun _ => ?_) (fun _ => ?_)
  | with_reducible refine s_itbn (fun _ => ?_) (fun _ => ?_))

local macro_rules | `(tactic| kcj_m) => `(tactic| first | exact L2.Same.refl _ | assumption | (refine L2.Same.trans ?_ (by assumption); kcj_m))
local macro_rules | `(tactic| keq_rows) => `(tactic| first
  | assumption | exact rep_non | exact rep_bl | exact rep_int | exact reps_nil | (refine rep_str ?_; decide +kernel) | (refine rep_str ?_; omega)
  | (refine reps_cons ?_ ?_ <;> keq_rows)
  | (refine rep_lst (by k_subL) (by (try simp only [List.length_cons, List.length_nil, List.length_append, List.length_map]); omega) ?_; keq_rows)
  | (refine rep_tup (by k_subL) (by (try simp only [List.length_cons, List.length_nil, List.length_append, List.length_map]); omega) ?_; keq_rows)
  | (refine rep_dct1 (by k_subL) ?_; keq_rows) | exact rep_dct0 (by k_subL)
  | (apply AG.Same.rep; assumption; keq_rows) | (apply AG.Same.reps; assumption; keq_rows))
local macro_rules | `(tactic| kqd_sub) => `(tactic| first | refine s_itT ?_ | refine s_itF ?_ | refine s_itnt ?_ | refine s_itnf ?_)

section
variable {w : World} {K : PySem.W.Frag} {mg : Str → Option Value} {C : Cs}
theorem sl_to {s : Str} {r : Int} (h : 0 ≤ r) : TL.tl (Txt.slice s none (some r)) = (TL.tl s).take r.toNat := by
  have e9 : s = SX.S (TL.tl s) := (SX.S_tl s).symm
  rw [e9, SX.slice_to h]
theorem sl_from {s : Str} {r : Int} (h : 0 ≤ r) : TL.tl (Txt.slice s (some r) none) = (TL.tl s).drop r.toNat := by
  have e9 : s = SX.S (TL.tl s) := (SX.S_tl s).symm
  rw [e9, SX.slice_from h]
/-- a text of right signs -/
def okT (n : Nat) (s : Str) : Prop := s.length ≤ n ∧ ∀ c ∈ TL.tl s, codeB c = true
theorem okT_app {m n : Nat} {a b : Str} (h1 : okT m a) (h2 : okT n b) : okT (m + n) (a ++ b) := by
  refine ⟨?_, fun c hc => ?_⟩
  · rw [TL.len_tl, TL.tl_append, List.length_append, ← TL.len_tl, ← TL.len_tl]
    have := h1.1
    have := h2.1
    omega
  · rw [TL.tl_append] at hc
    rcases List.mem_append.mp hc with hc | hc
    · exact h1.2 c hc
    · exact h2.2 c hc
theorem okT_to {n : Nat} {s : Str} {r : Int} (h : okT n s) (h0 : 0 ≤ r) : okT n (Txt.slice s none (some r)) := by
  refine ⟨Nat.le_trans (PyProof.Txt.length_slice_le _ _ _) h.1, fun c hc => ?_⟩
  rw [sl_to h0] at hc
  exact h.2 c (List.mem_of_mem_take hc)
theorem okT_from {n : Nat} {s : Str} {r : Int} (h : okT n s) (h0 : 0 ≤ r) : okT n (Txt.slice s (some r) none) := by
  refine ⟨Nat.le_trans (PyProof.Txt.length_slice_le _ _ _) h.1, fun c hc => ?_⟩
  rw [sl_from h0] at hc
  exact h.2 c (List.mem_of_mem_drop hc)
theorem okT_one {c : Nat} (h : codeB c = true) : okT 1 ⟨#[c]⟩ := ⟨Nat.le_refl _, fun c' hc => by
  have : c' = c := by simpa [TL.tl] using hc
  rw [this]
  exact h⟩
theorem fewS_ok : ("\n\n  0019azA-" : Str).cps.toList.length = 12 ∧ ∀ c ∈ ("\n\n  0019azA-" : Str).cps.toList, codeB c = true := by decide +kernel
theorem p_law_bent_text : Pf_law_bent_text K C := by
  rintro vs H Q E ⟨d, s, rfl, hd, hl, ht, q⟩
  unfold t_law_bent_text
  rw [i_law_bent_text]
  have hs : okT 100000 s := ⟨hl, textS_mem ht⟩
  kfm_turns
  refine ⟨d, _, rfl, hd, by omega, fun r H1 s1 r0 r1 => ?_⟩
  have tail : ∀ (z : Str) H2, Same H H2 → z.cps.toList.length = z.length → 0 < z.length → z.length ≤ 1000 → (∀ c ∈ z.cps.toList, codeB c = true) → t_law_bent_text_4 K C ⟨fun _ H' => Q .non H', Q, fun _ _ => False, fun _ _ => False⟩ [some d, some (.str s), some (.int r), some (.str z), none, none] H2 := by
    intro z H2 s2 hz0 hz1 hz2 hz
    have hd2 := Same.dr s2 hd
    kfm_turns
    refine ⟨d, _, rfl, hd2, by omega, fun k H3 s3 k0 k1 => ?_⟩
    have hk : k.toNat < z.cps.toList.length := by omega
    obtain ⟨c, hc⟩ : ∃ c, z.cps.toList[k.toNat]? = some c := ⟨_, List.getElem?_eq_getElem hk⟩
    have hcb := hz c (List.mem_of_getElem? hc)
    refine r_ix_s (c := c) (sz_of (by omega)) ?_ ?_
    · have := atI_nat (xs := z.cps.toList) (j := k.toNat) hc
      rwa [show ((k.toNat : Nat) : Int) = k by omega] at this
    have hd3 := Same.dr s3 hd2
    have l1 : (⟨#[c]⟩ : Str).length = 1 := rfl
    have a1 := okT_to hs r0
    have a2 := okT_from hs r0
    have a3 := okT_from hs (show 0 ≤ r + 1 by omega)
    have o1 := okT_one hcb
    have z1 := a1.1
    have z2 := a2.1
    have z3 := a3.1
    have b1 := okT_app a1 o1
    have z4 := b1.1
    have fin : ∀ n x H', n ≤ 200000 ∨ x.length ≤ 200000 → okT n x → Same H H' → Q (.str x) H' := fun n x H' hn h s' => q x H' s' (by rcases hn with hn | hn; exact Nat.le_trans h.1 hn; exact hn) (textS_of h.2)
    kfm_turns
    refine ⟨d, _, rfl, hd3, by decide, fun m H4 s4 m0 m1 => ?_⟩
    have s04 := (s2.trans s3).trans s4
    have rl : r.toNat ≤ (TL.tl s).length := by rw [← TL.len_tl]; omega
    have zz : (Txt.slice s none (some r)).length + (Txt.slice s (some r) none).length ≤ 100000 := by
      rw [TL.len_tl, TL.len_tl, sl_to r0, sl_from r0, List.length_take, List.length_drop, ← TL.len_tl]
      rw [← TL.len_tl] at rl
      omega
    have zy : (Txt.slice s (some (r + 1)) none).length ≤ (Txt.slice s (some r) none).length := by
      rw [TL.len_tl, TL.len_tl, sl_from r0, sl_from (show 0 ≤ r + 1 by omega), List.length_drop, List.length_drop]
      omega
    have y1 : (Txt.slice s none (some r) ++ ⟨#[c]⟩ : Str).length = (Txt.slice s none (some r)).length + 1 := by
      rw [TL.len_tl, TL.tl_append, List.length_append, ← TL.len_tl]
      rfl
    have y2 : ∀ a b : Str, (a ++ b : Str).length = a.length + b.length := fun a b => by
      rw [TL.len_tl, TL.tl_append, List.length_append, ← TL.len_tl, ← TL.len_tl]
    kfm_turns
    kpt_turns
    · kfm_turns
      refine r_sl_s (sz_of (by omega)) ?_
      kfm_turns
      refine r_sl_s (sz_of (by omega)) ?_
      kfm_turns
      exact fin _ _ _ (.inr (by rw [y2]; omega)) (okT_app b1 a2) s04
    kfm_turns
    kpt_turns
    · kfm_turns
      refine r_sl_s (sz_of (by omega)) ?_
      kfm_turns
      refine r_sl_s (sz_of (by omega)) ?_
      kfm_turns
      exact fin _ _ _ (.inr (by rw [y2]; omega)) (okT_app a1 a3) s04
    kfm_turns
    kpt_turns
    · kfm_turns
      refine r_sl_s (sz_of (by omega)) ?_
      kfm_turns
      refine r_sl_s (sz_of (by omega)) ?_
      kfm_turns
      exact fin _ _ _ (.inr (by rw [y2]; omega)) (okT_app b1 a3) s04
    kfm_turns
    exact fin _ _ _ (.inr (by rw [y2]; omega)) (okT_app hs o1) s04
  kfm_turns
  refine ⟨d, _, rfl, Same.dr s1 hd, by decide, fun k H2 s2 k0 k1 => ?_⟩
  kfm_turns
  kpt_turns
  · kfm_turns
    refine ⟨rfl, ?_⟩
    kln_le
    exact tail charsS H2 (s1.trans s2) (by decide +kernel) (by decide +kernel) (by decide +kernel) charsS_ok.2
  · kln_le
    exact tail _ H2 (s1.trans s2) (by decide +kernel) (by decide +kernel) (by decide +kernel) fewS_ok.2
end
end AG
namespace AG
open PySem PySem.Spec L2
local macro_rules | `(tactic| o_readsAll) => `(tactic| first | assumption | (show _ ≤ sizeLine; decide) | (refine sz_of ?_; (try simp only [List.length_cons, List.length_nil, List.length_append, List.length_map]); omega) | (refine sz_lt ?_; (try simp only [List.length_cons, List.length_nil, List.length_append, List.length_map]); omega))
local macro_rules | `(tactic| k_subL) => `(tactic| first
  | assumption
  | exact upd_same
  | (refine (upd_ne (by first | assumption | exact Ne.symm (by assumption))).trans ?_; k_subL)
  | (apply SqT.of; k_subL)
  | (refine AG.Same.app (by assumption) ?_; k_subL)
  | (apply AG.Same.sqT; assumption; k_subL)
  | (refine AG.Same.dr (by assumption) ?_; k_subL)
  | (apply AG.Same.rep; assumption; k_subL)
  | (apply AG.Same.reps; assumption; k_subL))
local macro_rules | `(tactic| o_fieldsN) => `(tactic| first | exact atI_nat (j := 0) rfl | exact atI_nat (j := 1) rfl | exact atI_nat (j := 2) rfl | exact atI_nat (j := 3) rfl | exact atI_nat (j := 4) rfl | assumption)
local macro_rules | `(tactic| tb_rel) => `(tactic| with_reducible first
  | refine s_asg ?_ | refine s_name (by first | (simp only [List.set_cons_succ, List.set_cons_zero]; done) | (simp only [List.set_cons_succ, List.set_cons_zero]; exact rfl) | exact rfl) ?_ | refine s_ret ?_ | refine s_if ?_ | refine s_next ?_ | refine s_drop ?_ | refine s_retN ?_
  | refine s_var (by with_unfolding_all rfl) ?_ | refine s_c ?_ | refine s_op ?_ | refine s_cons ?_ | refine s_nil ?_ | refine s_call ?_ | refine s_cb ?_ | refine s_test ?_ | refine s_bl ?_
  | refine s_B ?_ | refine s_and ?_ | refine s_or ?_ | refine s_not ?_ | refine s_andV ?_ | refine s_orV ?_ | refine s_notV ?_ | refine s_ifE ?_ | refine s_chain ?_ | refine s_un ?_
  | refine s_tupN ?_ | refine s_lstN ?_ | refine s_sl ?_ | refine s_nopart ?_ | refine s_part ?_ | refine s_int ?_ | refine s_bm ?_ | refine s_bm0 ?_ | refine s_gnil ?_ | refine s_gcons ?_ | refine s_gsub ?_
  | refine s_brk ?_ | refine s_cont ?_ | refine s_isS ?_ | refine s_joinU ?_ | refine s_splitU ?_ | refine s_endsU ?_
  | refine s_lc_list ?_ | refine s_lc_tup ?_ | refine s_lc_str ?_ | refine s_lc_rng1 ?_ | refine s_lc_zip ?_ | refine s_lc_zipM ?_ | refine s_star ?_ | refine r_neg ?_ | refine s_for_list ?_ | refine s_for_tup ?_ | refine s_for_str ?_ | refine s_for_rng1 ?_ | refine s_for_enum ?_ | refine s_disp1 ?_ | refine s_disp0 ?_ | refine r_ktI ?_ | refine r_ktN ?_ | refine s_for_rng2 ?_
  | refine r_add_i ?_ | refine r_sub ?_ | refine r_lt_i ?_ | refine r_gt_i ?_ | refine r_le_i ?_ | refine r_ge_i ?_ | refine r_lt_s ?_ | refine r_gt_s ?_ | refine r_le_a ?_ | refine r_le_z ?_ | refine r_le_0 ?_ | refine r_le_9 ?_ | refine r_le_s ?_ | refine r_ge_s ?_
  | refine r_eq_i ?_ | refine r_eq_s ?_ | refine r_eq_b ?_ | refine r_ne_i ?_ | refine r_ne_s ?_ | refine r_ne_b ?_ | refine r_is_n ?_ | refine r_is_b ?_ | refine r_isn_n ?_ | refine r_isn_b ?_ | refine r_and ?_
  | refine r_int_i ?_ | refine r_int_b ?_ | refine r_str_s ?_ | refine r_ord ?_ | refine r_min ?_ | refine r_max ?_ | refine s_itT ?_ | refine s_itF ?_ | refine s_itnt ?_ | refine s_itnf ?_)
local macro_rules | `(tactic| tb_start) => `(tactic| first
  | ((with_reducible refine g_ix ?_); first | refine r_ix_l (by k_subL) (by o_fieldsN) ?_ | refine r_ix_t (by k_subL) (by o_fieldsN) ?_)
  | ((with_reducible refine g_len ?_); first | refine r_len_l (by k_subL) ?_ | refine r_len_t (by k_subL) ?_ | refine r_len_s (by o_readsAll) ?_ | refine r_len_d (by k_subL) ?_)
  | ((with_reducible refine g_mod ?_); refine r_mod (by first | decide | omega) ?_)
  | ((with_reducible refine g_mul ?_); refine r_mul_i (by first | exact Or.inr ⟨by decide, by decide⟩ | exact Or.inl ⟨by decide, by decide⟩ | exact Or.inl ⟨by omega, by omega⟩ | exact Or.inr ⟨by omega, by omega⟩) ?_)
  | ((with_reducible refine g_fdv ?_); refine r_fdv ⟨by decide, by decide⟩ ?_)
  | ((with_reducible refine g_pow ?_); refine r_pow ⟨by decide, by decide, by decide⟩ ?_)
  | ((with_reducible refine g_set ?_); first
    | (refine s_setL (j := 0) (by k_subL) (by rfl) ?_; simp only [List.set_cons_succ, List.set_cons_zero, upd_upd]) | (refine s_setL (j := 1) (by k_subL) (by rfl) ?_; simp only [List.set_cons_succ, List.set_cons_zero, upd_upd])
    | (refine s_setL (j := 2) (by k_subL) (by rfl) ?_; simp only [List.set_cons_succ, List.set_cons_zero, upd_upd]) | (refine s_setL (j := 3) (by k_subL) (by rfl) ?_; simp only [List.set_cons_succ, List.set_cons_zero, upd_upd])
    | (refine s_setL (j := 4) (by k_subL) (by rfl) ?_; simp only [List.set_cons_succ, List.set_cons_zero, upd_upd]))
  | ((with_reducible refine g_add ?_); refine r_add_s (by o_readsAll) ?_)
  | ((with_reducible refine g_new ?_); refine s_new (by o_readsAll) ?_; intro _ _ _ _ _)
  | ((with_reducible refine g_ty ?_); refine s_tyL (by k_subL) ?_) | ((with_reducible refine g_app ?_); refine r_app (by k_subL) (by o_readsAll) ?_)
  | ((with_reducible refine g_isi ?_); first | refine r_isi_int (by k_subL) ?_ | refine r_isi_bool (by k_subL) ?_ | refine r_isi_str (by k_subL) ?_ | refine r_isi_list (by k_subL) ?_ | refine r_isi_tuple (by k_subL) ?_ | refine r_isi_dict (by k_subL) ?_)
  | (intro _ _ _ _ _; tb_rel))
local macro_rules | `(tactic| kfm_turns) => `(tactic| repeat (first | with_reducible refine s_seq ?_ | tb_rel | tb_start))
local macro_rules | `(tactic| kln_le) => `(tactic| repeat (first | tb_rel | tb_start))
local macro_rules | `(tactic| ktu_offI) => `(tactic| with_reducible refine s_seq ?_)
local macro_rules | `(tactic| kpt_turns) => `(tactic| first
  | with_reducible refine s_itd (fun _ => ?_) (fun _ => ?_)
  | with_reducible refine s_itn (fun _ => ?_) (fun _ => ?_)
  | with_reducible refine s_itb (fun _ => ?_) (fun _ => ?_)
  | with_reducible refine s_itbn (fun _ => ?_) (fun _ => ?_))

local macro_rules | `(tactic| kcj_m) => `(tactic| first | exact L2.Same.refl _ | assumption | (refine L2.Same.trans ?_ (by assumption); kcj_m))
local macro_rules | `(tactic| keq_rows) => `(tactic| first
  | assumption | exact rep_non | exact rep_bl | exact rep_int | exact reps_nil | (refine rep_str ?_; decide +kernel) | (refine rep_str ?_; omega)
  | (refine reps_cons ?_ ?_ <;> keq_rows)
  | (refine rep_lst (by k_subL) (by (try simp only [List.length_cons, List.length_nil, List.length_append, List.length_map]); omega) ?_; keq_rows)
  | (refine rep_tup (by k_subL) (by (try simp only [List.length_cons, List.length_nil, List.length_append, List.length_map]); omega) ?_; keq_rows)
  | (refine rep_dct1 (by k_subL) ?_; keq_rows) | exact rep_dct0 (by k_subL)
  | (apply AG.Same.rep; assumption; keq_rows) | (apply AG.Same.reps; assumption; keq_rows))
local macro_rules | `(tactic| kqd_sub) => `(tactic| first | refine s_itT ?_ | refine s_itF ?_ | refine s_itnt ?_ | refine s_itnf ?_)

section
variable {w : World} {K : PySem.W.Frag} {mg : Str → Option Value} {C : Cs}
/-- a short word without a blank or a newline -/
def okW (w : Str) : Prop := w.length ≤ 12 ∧ ∀ c ∈ TL.tl w, c ≠ 32 ∧ codeB c = true ∧ c ≠ 10
instance (w : Str) : Decidable (okW w) := by unfold okW; infer_instance
theorem bad0_ok : ∀ w ∈ (["Take", "tak", "takes", "tick1", "9", "-", "TICK"] : List Str), okW w ∧ (formsL.lookup w).isNone = true := by decide +kernel
theorem bad1_ok : ∀ w ∈ (["0", "9", "01", "-1", "+1", "a", "1a", "10", "1.0"] : List Str), okW w ∧ (partVal "user" w).isNone = true := by decide +kernel
theorem bad2_ok : ∀ w ∈ (["abcde", "A", "aB", "a1", "1", "a-", "_"] : List Str), okW w ∧ (partVal "name" w).isNone = true := by decide +kernel
theorem bad3_ok : ∀ w ∈ (["-1", "+1", "00", "01", "a", "1a", "1234567890", "0x1", "1,0", "1_0"] : List Str), okW w ∧ numS w = false := by decide +kernel
theorem bad4_ok : ∀ w ∈ (["0", "3", "6", "536870913", "999999999", "536870911"] : List Str), okW w ∧ (partVal "align" w).isNone = true := by decide +kernel
theorem bad5_ok : ∀ t ∈ titlesL, ∀ r ∈ midOf t, okW (Str.ofString (toString ((rng r).1 - 1))) ∧ okW (Str.ofString (toString ((rng r).2 + 1))) ∧ (partVal r (Str.ofString (toString ((rng r).1 - 1)))).isNone = true ∧ (partVal r (Str.ofString (toString ((rng r).2 + 1)))).isNone = true := by decide +kernel
theorem num_none {r w : Str} (hn : r ≠ "name") (h : numS w = false) : partVal r w = none := by
  unfold partVal
  rw [if_neg hn, h]
  rfl
theorem none_of {α : Type} {o : Option α} (h : o.isNone = true) : o = none := by
  cases o with
  | none => rfl
  | some x => cases h
theorem log_small {i : Int} (h1 : -(2 ^ 40) < i) (h2 : i < 2 ^ 40) : i.natAbs.log2 < 1920 := by
  by_cases h0 : i.natAbs = 0
  · rw [h0]; decide
  · have : i.natAbs < 2 ^ 40 := by omega
    have := (Nat.log2_lt h0).mpr this
    omega
theorem mem_strs {x : V} {l : List Str} (h : x ∈ l.map V.str) : ∃ s ∈ l, x = .str s := by
  obtain ⟨s, h1, h2⟩ := List.mem_map.mp h
  exact ⟨s, h1, h2.symm⟩
theorem p_law_bad_word : Pf_law_bad_word K C := by
  rintro vs H Q E ⟨d, v, t, ps, k, rfl, hd, hr, hq, hk, q⟩
  unfold t_law_bad_word
  rw [i_law_bad_word]
  have ht := hq.1
  have hpl := hq.2.1
  have good : ∀ (w : Str) H', Same H H' → okW w → (if k = 0 then formsL.lookup w = none else wordVal t k w = none) → Q (.str w) H' := fun w H' s' h1 h2 => q w H' s' ⟨h1.1, h1.2, h2⟩
  obtain ⟨a, xs, rfl, ha, hl, hs⟩ := rep_tup_inv hr
  obtain ⟨y, ys, rfl, hx, hy⟩ := reps_inv hs
  obtain ⟨rfl, htl⟩ := rep_str_inv hx
  have hroles : 1 ≤ k → rolesOf t = (["user", "name"] : List Str) ++ midOf t ++ (if t = "take" then (["align"] : List Str) else []) := by
    intro h
    by_cases z : t = "tick" ∨ t = "settle"
    · exfalso
      have : rolesOf t = [] := by unfold rolesOf; rw [if_pos z]
      have h0 : ps.length = 0 := by rw [hpl, this]; rfl
      omega
    · unfold rolesOf
      rw [if_neg z]
  have wv : ∀ ro, (rolesOf t)[k - 1]? = some ro → ∀ w, (partVal ro w) = none → wordVal t k w = none := by
    intro ro h w h2
    unfold wordVal
    rw [h]
    exact h2
  kfm_turns
  kpt_turns
  · rename_i hk0
    have hk0 : k = 0 := by omega
    kfm_turns
    rename_i p H1 hp s1 e1
    refine ⟨d, p, (["Take", "tak", "takes", "tick1", "9", "-", "TICK"] : List Str).map V.str, rfl, by k_subL, e1, by simp, by simp, fun x H2 s2 hx => ?_⟩
    obtain ⟨w, hw, rfl⟩ := mem_strs hx
    obtain ⟨h1, h2⟩ := bad0_ok w hw
    exact good w _ (s1.trans s2) h1 (by rw [if_pos hk0]; exact none_of h2)
  rename_i hk0
  kfm_turns
  kpt_turns
  · rename_i hk1
    have hk1 : k = 1 := by omega
    kfm_turns
    rename_i p H1 hp s1 e1
    refine ⟨d, p, (["0", "9", "01", "-1", "+1", "a", "1a", "10", "1.0"] : List Str).map V.str, rfl, by k_subL, e1, by simp, by simp, fun x H2 s2 hx => ?_⟩
    obtain ⟨w, hw, rfl⟩ := mem_strs hx
    obtain ⟨h1, h2⟩ := bad1_ok w hw
    refine good w _ (s1.trans s2) h1 ?_
    rw [if_neg (by omega)]
    exact wv "user" (by rw [hk1, hroles (by omega)]; rfl) w (none_of h2)
  rename_i hk1
  kfm_turns
  kpt_turns
  · rename_i hk2
    have hk2 : k = 2 := by omega
    kfm_turns
    rename_i p H1 hp s1 e1
    refine ⟨d, p, (["abcde", "A", "aB", "a1", "1", "a-", "_"] : List Str).map V.str, rfl, by k_subL, e1, by simp, by simp, fun x H2 s2 hx => ?_⟩
    obtain ⟨w, hw, rfl⟩ := mem_strs hx
    obtain ⟨h1, h2⟩ := bad2_ok w hw
    refine good w _ (s1.trans s2) h1 ?_
    rw [if_neg (by omega)]
    exact wv "name" (by rw [hk2, hroles (by omega)]; rfl) w (none_of h2)
  rename_i hk2
  have hk3 : 3 ≤ k := by omega
  have hroles := hroles (by omega)
  kfm_turns
  rename_i p H1 hp s1 e1
  have e1' : H1 p = some (.lst ((["-1", "+1", "00", "01", "a", "1a", "1234567890", "0x1", "1,0", "1_0"] : List Str).map V.str)) := e1
  have rest : ¬ (k = 4 ∧ t = "take") → t_law_bad_word_6 K C ⟨fun _ H' => Q .non H', Q, fun _ _ => False, fun _ _ => False⟩ [some d, some (.ref a), some (.int k), some (.ref p), none] H1 := by
    intro hnt
    have e3 : (k : Int) - 3 = ((k - 3 : Nat) : Int) := by omega
    obtain ⟨hmid, hml⟩ := mids_ok t ht
    have hkm : k - 3 < (midOf t).length := by
      rw [hroles] at hpl
      by_cases htk : t = "take"
      · have hm1 : (midOf t).length = 1 := by rw [htk]; decide +kernel
        have : k ≠ 4 := fun z => hnt ⟨z, htk⟩
        rw [if_pos htk] at hpl
        simp at hpl
        omega
      · rw [if_neg htk] at hpl
        simp at hpl
        omega
    obtain ⟨r, hr⟩ : ∃ r, (midOf t)[k - 3]? = some r := ⟨_, List.getElem?_eq_getElem hkm⟩
    have hrm := List.mem_of_getElem? hr
    obtain ⟨m1, m2, m3, m4, m5⟩ := hmid r hrm
    obtain ⟨b1, b2, b3, b4⟩ := bad5_ok t ht r hrm
    have hrole : (rolesOf t)[k - 1]? = some r := by
      rw [hroles, List.getElem?_append_left, List.getElem?_append_right (by simp; omega)]
      · have : k - 1 - (["user", "name"] : List Str).length = k - 3 := by simp; omega
        rw [this]
        exact hr
      · simp
        omega
    kfm_turns
    refine ⟨t, rfl, fun pb xb H3 s3 e4 hb => ?_⟩
    have hlb : xb.length = (midOf t).length := by rw [reps_len hb, List.length_map, (titles_roles t ht).2.1, List.length_map]
    obtain ⟨v, hv⟩ : ∃ v, xb[k - 3]? = some v := ⟨_, List.getElem?_eq_getElem (by omega)⟩
    obtain ⟨bd, hbd, hbr⟩ := reps_get hb hv
    obtain ⟨r', hr', rfl⟩ := bound_get ht hbd
    rw [hr] at hr'
    obtain rfl := Option.some.inj hr'
    obtain ⟨bq, bx, rfl, hbq, _, hbx⟩ := rep_tup_inv hbr
    obtain ⟨c1, r1, rfl, hb1, hb2⟩ := reps_inv hbx
    obtain ⟨c2, r2, rfl, hb2, hb3⟩ := reps_inv hb2
    obtain rfl := rep_int_inv hb1
    obtain rfl := rep_int_inv hb2
    obtain rfl := reps_inv_nil hb3
    kfm_turns
    rw [e3]
    refine r_ix_l e4 (atI_nat hv) ?_
    kfm_turns
    refine r_str_i (log_small (by omega) (by omega)) ?_
    kfm_turns
    refine r_str_i (log_small (by omega) (by omega)) ?_
    kfm_turns
    rename_i p2 H4 hp2 s4 e5
    have e5' : H4 p2 = some (.lst (([Str.ofString (toString ((rng r).1 - 1)), Str.ofString (toString ((rng r).2 + 1))] : List Str).map V.str)) := e5
    refine r_add_l (s4 _ _ (s3 _ _ e1')) e5' (by show 12 ≤ sizeLine; decide) fun p3 H5 hp3 s5 e6 => ?_
    rw [← List.map_append] at e6
    kfm_turns
    have hd5 : Dr H5 d := Same.dr (((s1.trans s3).trans s4).trans s5) hd
    refine ⟨d, p3, _, rfl, hd5, e6, by simp, by simp, fun x H6 s6 hx => ?_⟩
    obtain ⟨w, hw, rfl⟩ := mem_strs hx
    have sa : Same H H6 := (((s1.trans s3).trans s4).trans s5).trans s6
    rcases List.mem_append.mp hw with hw | hw
    · obtain ⟨h1, h2⟩ := bad3_ok w hw
      refine good w _ sa h1 ?_
      rw [if_neg (by omega)]
      exact wv r hrole w (num_none m1 h2)
    · simp only [List.mem_cons, List.not_mem_nil, or_false] at hw
      rcases hw with rfl | rfl
      · refine good _ _ sa b1 ?_
        rw [if_neg (by omega)]
        exact wv r hrole _ (none_of b3)
      · refine good _ _ sa b2 ?_
        rw [if_neg (by omega)]
        exact wv r hrole _ (none_of b4)
  kpt_turns
  · rename_i hk4
    have hk4 : k = 4 := by omega
    kfm_turns
    kpt_turns
    · rename_i htk
      have hrole : (rolesOf t)[k - 1]? = some ("align" : Str) := by
        rw [hk4, htk]
        decide +kernel
      kfm_turns
      rename_i p2 H4 hp2 s4 e5
      have e5' : H4 p2 = some (.lst ((["0", "3", "6", "536870913", "999999999", "536870911"] : List Str).map V.str)) := e5
      refine r_add_l (s4 _ _ e1') e5' (by show 16 ≤ sizeLine; decide) fun p3 H5 hp3 s5 e6 => ?_
      rw [← List.map_append] at e6
      kfm_turns
      have hd5 : Dr H5 d := Same.dr ((s1.trans s4).trans s5) hd
      refine ⟨d, p3, _, rfl, hd5, e6, by simp, by simp, fun x H6 s6 hx => ?_⟩
      obtain ⟨w, hw, rfl⟩ := mem_strs hx
      have sa : Same H H6 := ((s1.trans s4).trans s5).trans s6
      rcases List.mem_append.mp hw with hw | hw
      · obtain ⟨h1, h2⟩ := bad3_ok w hw
        refine good w _ sa h1 ?_
        rw [if_neg (by omega)]
        exact wv "align" hrole w (num_none (by decide +kernel) h2)
      · obtain ⟨h1, h2⟩ := bad4_ok w hw
        refine good w _ sa h1 ?_
        rw [if_neg (by omega)]
        exact wv "align" hrole w (none_of h2)
    · rename_i htk
      kln_le
      exact rest fun z => htk z.2
  · rename_i hk4
    kln_le
    exact rest fun z => hk4 (by omega)
end
end AG
namespace AG
open PySem PySem.Spec L2
local macro_rules | `(tactic| o_readsAll) => `(tactic| first | assumption | (show _ ≤ sizeLine; decide) | (refine sz_of ?_; (try simp only [List.length_cons, List.length_nil, List.length_append, List.length_map]); omega) | (refine sz_lt ?_; (try simp only [List.length_cons, List.length_nil, List.length_append, List.length_map]); omega))
local macro_rules | `(tactic| k_subL) => `(tactic| first
  | assumption
  | exact upd_same
  | (refine (upd_ne (by first | assumption | exact Ne.symm (by assumption))).trans ?_; k_subL)
  | (apply SqT.of; k_subL)
  | (refine AG.Same.app (by assumption) ?_; k_subL)
  | (apply AG.Same.sqT; assumption; k_subL)
  | (refine AG.Same.dr (by assumption) ?_; k_subL)
  | (apply AG.Same.rep; assumption; k_subL)
  | (apply AG.Same.reps; assumption; k_subL))
local macro_rules | `(tactic| o_fieldsN) => `(tactic| first | exact atI_nat (j := 0) rfl | exact atI_nat (j := 1) rfl | exact atI_nat (j := 2) rfl | exact atI_nat (j := 3) rfl | exact atI_nat (j := 4) rfl | assumption)
local macro_rules | `(tactic| tb_rel) => `(tactic| with_reducible first
  | refine s_asg ?_ | refine s_name (by first | (simp only [List.set_cons_succ, List.set_cons_zero]; done) | (simp only [List.set_cons_succ, List.set_cons_zero]; exact rfl) | exact rfl) ?_ | refine s_ret ?_ | refine s_if ?_ | refine s_next ?_ | refine s_drop ?_ | refine s_retN ?_
  | refine s_var (by with_unfolding_all rfl) ?_ | refine s_c ?_ | refine s_op ?_ | refine s_cons ?_ | refine s_nil ?_ | refine s_call ?_ | refine s_cb ?_ | refine s_test ?_ | refine s_bl ?_
  | refine s_B ?_ | refine s_and ?_ | refine s_or ?_ | refine s_not ?_ | refine s_andV ?_ | refine s_orV ?_ | refine s_notV ?_ | refine s_ifE ?_ | refine s_chain ?_ | refine s_un ?_
  | refine s_tupN ?_ | refine s_lstN ?_ | refine s_sl ?_ | refine s_nopart ?_ | refine s_part ?_ | refine s_int ?_ | refine s_bm ?_ | refine s_bm0 ?_ | refine s_gnil ?_ | refine s_gcons ?_ | refine s_gsub ?_
  | refine s_brk ?_ | refine s_cont ?_ | refine s_isS ?_ | refine s_joinU ?_ | refine s_splitU ?_ | refine s_endsU ?_
  | refine s_lc_list ?_ | refine s_lc_tup ?_ | refine s_lc_str ?_ | refine s_lc_rng1 ?_ | refine s_lc_zip ?_ | refine s_lc_zipM ?_ | refine s_star ?_ | refine r_neg ?_ | refine s_for_list ?_ | refine s_for_tup ?_ | refine s_for_str ?_ | refine s_for_rng1 ?_ | refine s_for_enum ?_ | refine s_disp1 ?_ | refine s_disp0 ?_ | refine r_ktI ?_ | refine r_ktN ?_ | refine s_for_rng2 ?_
  | refine r_add_i ?_ | refine r_sub ?_ | refine r_lt_i ?_ | refine r_gt_i ?_ | refine r_le_i ?_ | refine r_ge_i ?_ | refine r_lt_s ?_ | refine r_gt_s ?_ | refine r_le_a ?_ | refine r_le_z ?_ | refine r_le_0 ?_ | refine r_le_9 ?_ | refine r_le_s ?_ | refine r_ge_s ?_
  | refine r_eq_i ?_ | refine r_eq_s ?_ | refine r_eq_b ?_ | refine r_ne_i ?_ | refine r_ne_s ?_ | refine r_ne_b ?_ | refine r_is_n ?_ | refine r_is_b ?_ | refine r_isn_n ?_ | refine r_isn_b ?_ | refine r_and ?_
  | refine r_int_i ?_ | refine r_int_b ?_ | refine r_str_s ?_ | refine r_ord ?_ | refine r_min ?_ | refine r_max ?_ | refine s_itT ?_ | refine s_itF ?_ | refine s_itnt ?_ | refine s_itnf ?_)
local macro_rules | `(tactic| tb_start) => `(tactic| first
  | ((with_reducible refine g_ix ?_); first | refine r_ix_l (by k_subL) (by o_fieldsN) ?_ | refine r_ix_t (by k_subL) (by o_fieldsN) ?_)
  | ((with_reducible refine g_len ?_); first | refine r_len_l (by k_subL) ?_ | refine r_len_t (by k_subL) ?_ | refine r_len_s (by o_readsAll) ?_ | refine r_len_d (by k_subL) ?_)
  | ((with_reducible refine g_mod ?_); refine r_mod (by first | decide | omega) ?_)
  | ((with_reducible refine g_mul ?_); refine r_mul_i (by first | exact Or.inr ⟨by decide, by decide⟩ | exact Or.inl ⟨by decide, by decide⟩ | exact Or.inl ⟨by omega, by omega⟩ | exact Or.inr ⟨by omega, by omega⟩) ?_)
  | ((with_reducible refine g_fdv ?_); refine r_fdv ⟨by decide, by decide⟩ ?_)
  | ((with_reducible refine g_pow ?_); refine r_pow ⟨by decide, by decide, by decide⟩ ?_)
  | ((with_reducible refine g_set ?_); first
    | (refine s_setL (j := 0) (by k_subL) (by rfl) ?_; simp only [List.set_cons_succ, List.set_cons_zero, upd_upd]) | (refine s_setL (j := 1) (by k_subL) (by rfl) ?_; simp only [List.set_cons_succ, List.set_cons_zero, upd_upd])
    | (refine s_setL (j := 2) (by k_subL) (by rfl) ?_; simp only [List.set_cons_succ, List.set_cons_zero, upd_upd]) | (refine s_setL (j := 3) (by k_subL) (by rfl) ?_; simp only [List.set_cons_succ, List.set_cons_zero, upd_upd])
    | (refine s_setL (j := 4) (by k_subL) (by rfl) ?_; simp only [List.set_cons_succ, List.set_cons_zero, upd_upd]))
  | ((with_reducible refine g_add ?_); refine r_add_s (by o_readsAll) ?_)
  | ((with_reducible refine g_new ?_); refine s_new (by o_readsAll) ?_; intro _ _ _ _ _)
  | ((with_reducible refine g_ty ?_); refine s_tyL (by k_subL) ?_) | ((with_reducible refine g_app ?_); refine r_app (by k_subL) (by o_readsAll) ?_)
  | ((with_reducible refine g_isi ?_); first | refine r_isi_int (by k_subL) ?_ | refine r_isi_bool (by k_subL) ?_ | refine r_isi_str (by k_subL) ?_ | refine r_isi_list (by k_subL) ?_ | refine r_isi_tuple (by k_subL) ?_ | refine r_isi_dict (by k_subL) ?_)
  | (intro _ _ _ _ _; tb_rel))
local macro_rules | `(tactic| kfm_turns) => `(tactic| repeat (first | with_reducible refine s_seq ?_ | tb_rel | tb_start))
local macro_rules | `(tactic| kln_le) => `(tactic| repeat (first | tb_rel | tb_start))
local macro_rules | `(tactic| ktu_offI) => `(tactic| with_reducible refine s_seq ?_)
local macro_rules | `(tactic| kpt_turns) => `(tactic| first
  | with_reducible refine s_itd (fun _ => ?_) (fun _ => ?_)
  | with_reducible refine s_itn (fun _ => ?_) (fun _ => ?_)
  | with_reducible refine s_itb (fun _ => ?_) (fun _ => ?_)
  | with_reducible refine s_itbn (fun _ => ?_) (fun _ => ?_))

local macro_rules | `(tactic| kcj_m) => `(tactic| first | exact L2.Same.refl _ | assumption | (refine L2.Same.trans ?_ (by assumption); kcj_m))
local macro_rules | `(tactic| keq_rows) => `(tactic| first
  | assumption | exact rep_non | exact rep_bl | exact rep_int | exact reps_nil | (refine rep_str ?_; decide +kernel) | (refine rep_str ?_; omega)
  | (refine reps_cons ?_ ?_ <;> keq_rows)
  | (refine rep_lst (by k_subL) (by (try simp only [List.length_cons, List.length_nil, List.length_append, List.length_map]); omega) ?_; keq_rows)
  | (refine rep_tup (by k_subL) (by (try simp only [List.length_cons, List.length_nil, List.length_append, List.length_map]); omega) ?_; keq_rows)
  | (refine rep_dct1 (by k_subL) ?_; keq_rows) | exact rep_dct0 (by k_subL)
  | (apply AG.Same.rep; assumption; keq_rows) | (apply AG.Same.reps; assumption; keq_rows))
local macro_rules | `(tactic| kqd_sub) => `(tactic| first | refine s_itT ?_ | refine s_itF ?_ | refine s_itnt ?_ | refine s_itnf ?_)

section
variable {w : World} {K : PySem.W.Frag} {mg : Str → Option Value} {C : Cs}
theorem okW_of {w : Str} (h : wordOk w) : okW w := by
  refine ⟨by have := h.1; omega, fun c hc => ?_⟩
  have h2 := h.2
  rw [List.all_eq_true] at h2
  have hw := h2 c hc
  refine ⟨fun z => ?_, wc_code (.inr hw), wc_nl (.inr hw)⟩
  subst z
  revert hw
  decide
theorem okW_words {t : Str} {ps : List Dat} (h : Req t ps) (long : Bool) : ∀ w ∈ wordsOf t ps long, okW w := fun w hw => okW_of ((words_ok h long).1 w hw)
theorem join_split {ws : List Str} (hne : ws ≠ []) (h : ∀ w ∈ ws, okW w) : Txt.split (Txt.join " " ws) " " = ws := TL.split_join sp_tl (by decide +kernel) hne fun p hp z => ((h p hp).2 32 z).1 rfl
theorem join_okT {ws : List Str} (h : ∀ w ∈ ws, okW w) : (Txt.join " " ws).length ≤ ws.length * 13 ∧ ∀ c ∈ TL.tl (Txt.join " " ws), codeB c = true ∧ c ≠ 10 := by
  rw [TL.join_eq, TL.len_tl, TL.tl_join, sp_tl]
  constructor
  · have := joinL_len (S := [32]) 12 (parts := ws.map TL.tl) fun p hp => by
      obtain ⟨w, hw, rfl⟩ := List.mem_map.mp hp
      rw [← TL.len_tl]
      exact (h w hw).1
    rw [List.length_map] at this
    exact this
  · intro c hc
    rcases joinL_mem hc with hc | ⟨p, hp, hc⟩
    · have : c = 32 := by simpa using hc
      subst this
      exact ⟨rfl, by decide⟩
    · obtain ⟨w, hw, rfl⟩ := List.mem_map.mp hp
      exact ((h w hw).2 c hc).2
theorem badAt_at {t x : Str} {a b : List Str} {ps : List Dat} (ht : t ∈ titlesL) (hv : valsFrom t 1 a = .inr ps) (hw : wordVal t (1 + a.length) x = none) : badAt (t :: (a ++ x :: b)) = some (1 + a.length) := by
  rw [badAt, if_pos (forms_some ht), valsFrom_app hv, vals_one, hw]
theorem badAt_0 {x : Str} {b : List Str} (h : formsL.lookup x = none) : badAt (x :: b) = some 0 := by
  rw [badAt, h]
  rfl
theorem em_words : formsL.lookup ("" : Str) = none ∧ numS "" = false ∧ nameS "" = false ∧ okW "" := by decide +kernel
theorem wordVal_em (t : Str) (k : Nat) : wordVal t k "" = none := by
  unfold wordVal
  cases (rolesOf t)[k - 1]? with
  | none => rfl
  | some r =>
    show partVal r "" = none
    by_cases h : r = "name"
    · unfold partVal
      rw [if_pos h, em_words.2.2.1]
      rfl
    · exact num_none h em_words.2.1
theorem sum_lens (ws : List Str) (k : Nat) : (((ws.take k).map fun w => ((w.length + 1 : Nat) : Int)).sum + 1) = ((colOf ws k : Nat) : Int) := by
  unfold colOf
  have key : ∀ l : List Str, ((l.map fun w => ((w.length + 1 : Nat) : Int)).sum) = (((l.map fun w => w.length + 1).sum : Nat) : Int) := by
    intro l
    induction l with
    | nil => rfl
    | cons x r ih =>
      rw [List.map_cons, List.sum_cons, ih, List.map_cons, List.sum_cons]
      omega
  rw [key]
  omega
theorem ixN_of {n k : Nat} (h : k < n) : ixN n (k : Int) = some k := by
  unfold ixN
  rw [if_pos (by omega), if_pos (by omega)]
  simp
theorem least_full {t : Str} (h : t ∈ titlesL) : leastOf t = if t = "take" then 4 else (rolesOf t).length + 1 := rfl
theorem p_law_bad_line : Pf_law_bad_line K C := by
  rintro vs H Q E ⟨d, v, t, ps, rfl, hd, hr, hq, q⟩
  unfold t_law_bad_line
  rw [i_law_bad_line]
  have ht := hq.1
  have hpl := hq.2.1
  have h4 := (titles_roles t ht).2.2.2.1
  have hw : wordsOf t ps true = t :: ps.map wordOf := by
    rcases words_cases hq true with ⟨_, h, _⟩ | ⟨_, h⟩
    · cases h
    · exact h
  have hwo := okW_words hq true
  rw [hw] at hwo
  have hvals : ∀ n, valsFrom t 1 ((ps.map wordOf).take n) = .inr (ps.take n) := fun n => by rw [← List.map_take]; exact req_vals hq n
  -- what is given back
  have done : ∀ (l : Str) (c : Nat) v' H', Same H H' → readLine l = .inl c → l.length ≤ 100 → (∀ x ∈ TL.tl l, codeB x = true ∧ x ≠ 10) → Rep K H' (.tup [.str l, .int c]) v' → Q v' H' := fun l c v' H' s' h1 h2 h3 h4 => q l c v' H' s' ⟨h1, h2, fun z => (h3 10 z).2 rfl, fun x hx => (h3 x hx).1⟩ h4
  -- the last row: the words as they are, the place told
  have tail : ∀ (p : Addr) (H2 : Hp) (ws : List Str) (k : Nat) (at_ : Int) (kd : Int) y5 y6, Same H H2 → H2 p = some (.lst (ws.map V.str)) → ws ≠ [] → ws.length ≤ 7 → (∀ w ∈ ws, okW w) → badAt ws = some k → at_ = (k : Int) →
      t_law_bad_line_8 K C ⟨fun _ H' => Q .non H', Q, fun _ _ => False, fun _ _ => False⟩ [some d, some v, some (.ref p), some (.int kd), some (.int at_), y5, y6] H2 := by
    rintro p H2 ws k at_ kd y5 y6 s2 e2 hne hl7 hws hb rfl
    obtain ⟨j1, j2⟩ := join_okT hws
    have hsum : ∀ l : List Str, (∀ w ∈ l, okW w) → (l.map (·.length)).sum ≤ l.length * 12 := by
      intro l
      induction l with
      | nil => intro _; exact Nat.zero_le _
      | cons x r ih =>
        intro h
        have h1 := (h x List.mem_cons_self).1
        have h2 := ih fun w hw => h w (List.mem_cons_of_mem _ hw)
        simp only [List.map_cons, List.sum_cons, List.length_cons] at h2 ⊢
        omega
    have hs1 := hsum ws hws
    kfm_turns
    refine ⟨_, p, ws, rfl, rfl, .inl (SqL.of e2), ?_, ?_⟩
    · have e1 : (" " : Str).length = 1 := by decide +kernel
      rw [e1]
      omega
    kfm_turns
    refine r_sl_l e2 fun b H3 hb3 s3 e3 => ?_
    rw [cutV_to (by omega), ← List.map_take] at e3
    have hk : (k : Int).toNat = k := by omega
    rw [hk] at e3
    kfm_turns
    refine lcB_list (K := K) (xs := (ws.take k).map V.str) (SqL.of e3) (by simp; omega) gst_name (fun i y _ => ∃ s, (ws.take k)[i]? = some s ∧ y = V.int ((s.length + 1 : Nat) : Int)) (fun _ _ _ _ _ h => h) ?_ ?_
    · intro i x H4 hx s4 Q2 q2
      obtain ⟨s, hs, rfl⟩ := list_vals hx
      have hsl := (hws s (List.mem_of_mem_take (List.mem_of_getElem? hs))).1
      kfm_turns
      refine ⟨rfl, ?_⟩
      kfm_turns
      exact q2 _ _ (Same.refl _) ⟨s, hs, by simp⟩
    · intro acc D H4 tt hD s4 e4
      have hacc := turns_map (l := ws.take k) (g := fun s => V.int ((s.length + 1 : Nat) : Int)) tt (by simp) (fun i y h => h)
      subst hacc
      kfm_turns
      refine r_sum (ns := (ws.take k).map fun s => ((s.length + 1 : Nat) : Int)) (by rw [List.map_map]; exact e4) ?_
      kfm_turns
      rename_i T H5 hT s5 e5
      rw [sum_lens] at e5
      refine done (Txt.join " " ws) (colOf ws k) _ _ (((s2.trans s3).trans s4).trans s5) ?_ (by omega) j2 (rep_tup (SqT.of e5) (by simp) (reps_cons (rep_str (by omega)) (reps_cons rep_int reps_nil)))
      have := readLine_bad (l := Txt.join " " ws) (k := k) (by rw [join_split hne hws]; exact hb)
      rwa [join_split hne hws] at this
  kfm_turns
  refine ⟨t, ps, v, true, rfl, hr, hq, fun H1 s1 => ?_⟩
  have hll := line_len hq true
  kfm_turns
  refine r_split (by decide +kernel) (sz_of (by omega)) fun p H2 hp s2 e2 => ?_
  rw [line_split hq true, hw] at e2
  have hlen : ((t :: ps.map wordOf).map V.str).length = ps.length + 1 := by simp
  kfm_turns
  refine ⟨d, 4, rfl, Same.dr (s1.trans s2) hd, by decide, fun kd H3 s3 kd0 kd1 => ?_⟩
  have e3 := s3 _ _ e2
  kfm_turns
  rw [hlen]
  refine ⟨d, _, rfl, Same.dr ((s1.trans s2).trans s3) hd, by omega, fun r H4 s4 r0 r1 => ?_⟩
  have e4 := s4 _ _ e3
  have s04 := (((s1.trans s2).trans s3).trans s4)
  have hd4 := Same.dr s04 hd
  obtain ⟨k, rfl⟩ : ∃ k : Nat, r = (k : Int) := ⟨r.toNat, by omega⟩
  have hkl : k ≤ ps.length := by omega
  kfm_turns
  kpt_turns
  · -- an empty word
    rename_i h0
    kfm_turns
    rw [hlen]
    refine ⟨d, _, rfl, hd4, by omega, fun r2 H5 s5 r20 r21 => ?_⟩
    have e5 := s5 _ _ e4
    obtain ⟨j, rfl⟩ : ∃ j : Nat, r2 = (j : Int) := ⟨r2.toNat, by omega⟩
    have hjl : j ≤ ps.length + 1 := by omega
    kfm_turns
    refine r_sl_l e5 fun b1 H6 hb1 s6 e6 => ?_
    rw [cutV_to (by omega), ← List.map_take] at e6
    kfm_turns
    rename_i b2 H7 hb2 s7 e7
    have e7' : H7 b2 = some (.lst (([""] : List Str).map V.str)) := e7
    refine r_add_l (s7 _ _ e6) e7' (sz_of (by simp; omega)) fun b3 H8 hb3 s8 e8 => ?_
    rw [← List.map_append] at e8
    kfm_turns
    refine r_sl_l (s8 _ _ (s7 _ _ (s6 _ _ e5))) fun b4 H9 hb4 s9 e9 => ?_
    rw [cutV_from (by omega), ← List.map_drop] at e9
    refine r_add_l (s9 _ _ e8) e9 (sz_of (by simp; omega)) fun b5 H10 hb5 s10 e10 => ?_
    rw [← List.map_append] at e10
    have hj : (j : Int).toNat = j := by omega
    rw [hj] at e10
    have sall := ((((((s04.trans s5).trans s6).trans s7).trans s8).trans s9).trans s10)
    refine s_name (by exact rfl) ?_
    have hwords : ∀ w ∈ (t :: ps.map wordOf).take j ++ ([""] : List Str) ++ (t :: ps.map wordOf).drop j, okW w := by
      intro w hw
      rcases List.mem_append.mp hw with hw | hw
      · rcases List.mem_append.mp hw with hw | hw
        · exact hwo w (List.mem_of_mem_take hw)
        · rw [List.mem_singleton.mp hw]; exact em_words.2.2.2
      · exact hwo w (List.mem_of_mem_drop hw)
    have hbad : badAt ((t :: ps.map wordOf).take j ++ ([""] : List Str) ++ (t :: ps.map wordOf).drop j) = some j := by
      cases j with
      | zero => exact badAt_0 em_words.1
      | succ j =>
        have hl : ((ps.map wordOf).take j).length = j := by rw [List.length_take, List.length_map]; omega
        have := badAt_at (x := "") (b := (ps.map wordOf).drop j) ht (hvals j) (wordVal_em t _)
        rw [hl, show 1 + j = j + 1 by omega] at this
        rw [List.take_succ_cons, List.drop_succ_cons, List.append_assoc]
        exact this
    kfm_turns
    refine s_itdF (by omega) ?_
    kfm_turns
    refine s_itdF (by omega) ?_
    kfm_turns
    refine s_itdF (by omega) ?_
    refine s_next ?_
    exact tail b5 H10 _ j j kd _ _ sall e10 (by simp) (by simp; omega) hwords hbad rfl
  rename_i h0
  kfm_turns
  kpt_turns
  · -- a wrong word
    rename_i h1
    kfm_turns
    refine ⟨d, v, t, ps, k, rfl, hd4, Same.rep s04 hr, hq, hkl, fun w H5 s5 hwr => ?_⟩
    have e5 := s5 _ _ e4
    obtain ⟨hw1, hw2, hw3⟩ := hwr
    kfm_turns
    refine s_setL (j := k) e5 (ixN_of (by rw [hlen]; omega)) ?_
    rw [← List.map_set]
    have sall : Same H (upd H5 p (.lst (((t :: ps.map wordOf).set k w).map V.str))) := Same.mut (s04.trans s5) (s1.free hp)
    have hset : (t :: ps.map wordOf).set k w = (t :: ps.map wordOf).take k ++ w :: (t :: ps.map wordOf).drop (k + 1) := by
      rw [List.set_eq_take_append_cons_drop, if_pos (by simp; omega)]
    have hwords : ∀ x ∈ (t :: ps.map wordOf).set k w, okW x := by
      intro x hx
      rw [hset] at hx
      rcases List.mem_append.mp hx with hx | hx
      · exact hwo x (List.mem_of_mem_take hx)
      · rcases List.mem_cons.mp hx with rfl | hx
        · exact ⟨hw1, hw2⟩
        · exact hwo x (List.mem_of_mem_drop hx)
    have hbad : badAt ((t :: ps.map wordOf).set k w) = some k := by
      rw [hset]
      cases k with
      | zero =>
        rw [if_pos rfl] at hw3
        exact badAt_0 hw3
      | succ j =>
        rw [if_neg (by omega)] at hw3
        have hl : ((ps.map wordOf).take j).length = j := by rw [List.length_take, List.length_map]; omega
        have := badAt_at (x := w) (b := (ps.map wordOf).drop (j + 1)) ht (hvals j) (by rw [hl, Nat.add_comm]; exact hw3)
        rw [hl, show 1 + j = j + 1 by omega] at this
        rw [List.take_succ_cons, List.drop_succ_cons]
        exact this
    generalize hH6 : upd H5 p (.lst (((t :: ps.map wordOf).set k w).map V.str)) = H6 at sall
    have e6 : H6 p = some (.lst (((t :: ps.map wordOf).set k w).map V.str)) := by rw [← hH6]; exact upd_same
    kfm_turns
    refine s_itdF (by omega) ?_
    kfm_turns
    refine s_itdF (by omega) ?_
    refine s_next ?_
    exact tail p H6 _ k k kd _ _ sall e6 (by simp) (by simp; omega) hwords hbad rfl
  rename_i h1
  kfm_turns
  kpt_turns
  · -- a word too many
    rename_i h2
    kfm_turns
    rename_i b1 H5 hb1 s5 e5
    refine ⟨d, 4, rfl, Same.dr s5 hd4, by decide, fun m H6 s6 m0 m1 => ?_⟩
    have e5' := s6 _ _ e5
    have hx : ∃ x : Str, atI [V.str "1", V.str "a", V.str "take", V.str "0"] m = some (.str x) ∧ okW x := by
      have : m = 0 ∨ m = 1 ∨ m = 2 ∨ m = 3 := by omega
      rcases this with rfl | rfl | rfl | rfl
      · exact ⟨"1", rfl, by decide +kernel⟩
      · exact ⟨"a", rfl, by decide +kernel⟩
      · exact ⟨"take", rfl, by decide +kernel⟩
      · exact ⟨"0", rfl, by decide +kernel⟩
    obtain ⟨x, hx1, hx2⟩ := hx
    refine r_ix_l e5' hx1 ?_
    kfm_turns
    rename_i b2 H7 hb2 s7 e7
    have e7' : H7 b2 = some (.lst (([x] : List Str).map V.str)) := e7
    refine r_add_l (s7 _ _ (s6 _ _ (s5 _ _ e4))) e7' (sz_of (by simp; omega)) fun b3 H8 hb3 s8 e8 => ?_
    rw [← List.map_append] at e8
    have sall := (((s04.trans s5).trans s6).trans s7).trans s8
    refine s_name (by exact rfl) ?_
    rw [hlen]
    have hwords : ∀ w ∈ (t :: ps.map wordOf) ++ [x], okW w := by
      intro w hw
      rcases List.mem_append.mp hw with hw | hw
      · exact hwo w hw
      · rw [List.mem_singleton.mp hw]; exact hx2
    have hbad : badAt ((t :: ps.map wordOf) ++ [x]) = some (ps.length + 1) := by
      have h5 := hvals ps.length
      rw [List.take_length, List.take_of_length_le (by simp)] at h5
      have hlw : (ps.map wordOf).length = ps.length := by simp
      have := badAt_at (x := x) (b := []) ht h5 (by
        unfold wordVal
        rw [List.getElem?_eq_none (by rw [hlw]; omega)])
      rw [hlw, Nat.add_comm] at this
      exact this
    kfm_turns
    refine s_itdF (by omega) ?_
    refine s_next ?_
    exact tail b3 H8 _ (ps.length + 1) _ kd _ _ sall e8 (by simp) (by simp; omega) hwords hbad (by omega)
  rename_i h2
  kfm_turns
  refine s_itdT (by omega) ?_
  -- words missing
  have short : ∀ (j : Nat) H5, Same H H5 → H5 p = some (.lst ((t :: ps.map wordOf).map V.str)) → j < leastOf t → j ≤ ps.length → ∀ (D : Ends), D.rt = Q →
      (tSeq (tAsg (tJoinU K (tC (.str " ")) (tSl (rSlU K) (tVar 2) tNoPart (tPart (tVar 4)))) (gName 5))
      (tRet (tTupN (tCons (tVar 5) (tCons (tOp (rAddU K) (tCB (rLenU K) (tCons (tVar 5) tNil)) (tC (.int 1))) tNil))))) D [some d, some v, some (.ref p), some (.int kd), some (.int j), none, none] H5 := by
    rintro j H5 s5 e5 hj hjl ⟨D1, D2, D3, D4⟩ rfl
    have hws : ∀ w ∈ (t :: ps.map wordOf).take j, okW w := fun w hw => hwo w (List.mem_of_mem_take hw)
    obtain ⟨j1, j2⟩ := join_okT hws
    have hl5 : ((t :: ps.map wordOf).take j).length ≤ 5 := by rw [List.length_take]; simp; omega
    have hsum : ∀ l : List Str, (∀ w ∈ l, okW w) → (l.map (·.length)).sum ≤ l.length * 12 := by
      intro l
      induction l with
      | nil => intro _; exact Nat.zero_le _
      | cons x r ih =>
        intro h
        have h1 := (h x List.mem_cons_self).1
        have h2 := ih fun w hw => h w (List.mem_cons_of_mem _ hw)
        simp only [List.map_cons, List.sum_cons, List.length_cons] at h2 ⊢
        omega
    have hs1 := hsum _ hws
    have jl : (Txt.join " " ((t :: ps.map wordOf).take j)).length ≤ 100 := by omega
    have hread : readLine (Txt.join " " ((t :: ps.map wordOf).take j)) = .inl ((Txt.join " " ((t :: ps.map wordOf).take j)).length + 1) := by
      cases j with
      | zero =>
        have e : Txt.join " " ((t :: ps.map wordOf).take 0) = "" := rfl
        rw [e]
        have hb : badAt (Txt.split "" " ") = some 0 := by decide +kernel
        rw [readLine_bad hb]
        exact congrArg Sum.inl (by decide +kernel)
      | succ j =>
        have hsp := join_split (ws := (t :: ps.map wordOf).take (j + 1)) (by simp) hws
        rw [List.take_succ_cons] at hsp ⊢
        obtain ⟨_, hrd⟩ := readLine_of hsp ht (hvals j)
        rw [hrd, if_pos]
        rw [List.length_take, List.length_map]
        omega
    refine s_seq ?_
    kfm_turns
    refine r_sl_l e5 fun b H6 hb6 s6 e6 => ?_
    rw [cutV_to (by omega), ← List.map_take] at e6
    have hk : (j : Int).toNat = j := by omega
    rw [hk] at e6
    kfm_turns
    refine ⟨_, b, _, rfl, rfl, .inl (SqL.of e6), ?_, ?_⟩
    · have e1 : (" " : Str).length = 1 := by decide +kernel
      rw [e1]
      omega
    kfm_turns
    rename_i T H7 hT s7 e7
    refine done _ _ _ _ ((s5.trans s6).trans s7) hread jl j2 (rep_tup (SqT.of e7) (by simp) (reps_cons (rep_str (by omega)) (reps_cons ?_ reps_nil)))
    have : ((Txt.join " " ((t :: ps.map wordOf).take j)).length : Int) + 1 = (((Txt.join " " ((t :: ps.map wordOf).take j)).length + 1 : Nat) : Int) := by omega
    rw [this]
    exact rep_int
  obtain ⟨hl1, hl2⟩ := least_ok ht
  obtain ⟨a, xs, rfl, ha, hxl, hxs⟩ := rep_tup_inv hr
  obtain ⟨y, ys, hxy, hr1, hr2⟩ := reps_inv hxs
  obtain rfl := (rep_str_inv hr1).1
  have hx0 : atI xs 0 = some (.str t) := atI_nat (j := 0) (by rw [hxy]; rfl)
  kfm_turns
  kpt_turns
  · rename_i htk
    kfm_turns
    refine ⟨d, 4, rfl, hd4, by decide, fun m H5 s5 m0 m1 => ?_⟩
    obtain ⟨j, rfl⟩ : ∃ j : Nat, m = (j : Int) := ⟨m.toNat, by omega⟩
    refine s_name (by exact rfl) ?_
    have h5 : leastOf t = 4 := by rw [htk]; decide +kernel
    have h6 := hl2 htk
    exact short j H5 (s04.trans s5) (s5 _ _ e4) (by omega) (by omega) _ rfl
  · rename_i htk
    refine s_next ?_
    have h5 : leastOf t = (rolesOf t).length + 1 := by rw [least_full ht, if_neg htk]
    exact short k H4 s04 e4 (by omega) hkl _ rfl
end
end AG
namespace AG
open PySem PySem.Spec L2
local macro_rules | `(tactic| o_readsAll) => `(tactic| first | assumption | (show _ ≤ sizeLine; decide) | (refine sz_of ?_; (try simp only [List.length_cons, List.length_nil, List.length_append, List.length_map]); omega) | (refine sz_lt ?_; (try simp only [List.length_cons, List.length_nil, List.length_append, List.length_map]); omega))
local macro_rules | `(tactic| k_subL) => `(tactic| first
  | assumption
  | exact upd_same
  | (refine (upd_ne (by first | assumption | exact Ne.symm (by assumption))).trans ?_; k_subL)
  | (apply SqT.of; k_subL)
  | (refine AG.Same.app (by assumption) ?_; k_subL)
  | (apply AG.Same.sqT; assumption; k_subL)
  | (refine AG.Same.dr (by assumption) ?_; k_subL)
  | (apply AG.Same.rep; assumption; k_subL)
  | (apply AG.Same.reps; assumption; k_subL))
local macro_rules | `(tactic| o_fieldsN) => `(tactic| first | exact atI_nat (j := 0) rfl | exact atI_nat (j := 1) rfl | exact atI_nat (j := 2) rfl | exact atI_nat (j := 3) rfl | exact atI_nat (j := 4) rfl | assumption)
local macro_rules | `(tactic| tb_rel) => `(tactic| with_reducible first
  | refine s_asg ?_ | refine s_name (by first | (simp only [List.set_cons_succ, List.set_cons_zero]; done) | (simp only [List.set_cons_succ, List.set_cons_zero]; exact rfl) | exact rfl) ?_ | refine s_ret ?_ | refine s_if ?_ | refine s_next ?_ | refine s_drop ?_ | refine s_retN ?_
  | refine s_var (by with_unfolding_all rfl) ?_ | refine s_c ?_ | refine s_op ?_ | refine s_cons ?_ | refine s_nil ?_ | refine s_call ?_ | refine s_cb ?_ | refine s_test ?_ | refine s_bl ?_
  | refine s_B ?_ | refine s_and ?_ | refine s_or ?_ | refine s_not ?_ | refine s_andV ?_ | refine s_orV ?_ | refine s_notV ?_ | refine s_ifE ?_ | refine s_chain ?_ | refine s_un ?_
  | refine s_tupN ?_ | refine s_lstN ?_ | refine s_sl ?_ | refine s_nopart ?_ | refine s_part ?_ | refine s_int ?_ | refine s_bm ?_ | refine s_bm0 ?_ | refine s_gnil ?_ | refine s_gcons ?_ | refine s_gsub ?_
  | refine s_brk ?_ | refine s_cont ?_ | refine s_isS ?_ | refine s_joinU ?_ | refine s_splitU ?_ | refine s_endsU ?_
  | refine s_lc_list ?_ | refine s_lc_tup ?_ | refine s_lc_str ?_ | refine s_lc_rng1 ?_ | refine s_lc_zip ?_ | refine s_lc_zipM ?_ | refine s_star ?_ | refine r_neg ?_ | refine s_for_list ?_ | refine s_for_tup ?_ | refine s_for_str ?_ | refine s_for_rng1 ?_ | refine s_for_enum ?_ | refine s_disp1 ?_ | refine s_disp0 ?_ | refine r_ktI ?_ | refine r_ktN ?_ | refine s_for_rng2 ?_
  | refine r_add_i ?_ | refine r_sub ?_ | refine r_lt_i ?_ | refine r_gt_i ?_ | refine r_le_i ?_ | refine r_ge_i ?_ | refine r_lt_s ?_ | refine r_gt_s ?_ | refine r_le_a ?_ | refine r_le_z ?_ | refine r_le_0 ?_ | refine r_le_9 ?_ | refine r_le_s ?_ | refine r_ge_s ?_
  | refine r_eq_i ?_ | refine r_eq_s ?_ | refine r_eq_b ?_ | refine r_ne_i ?_ | refine r_ne_s ?_ | refine r_ne_b ?_ | refine r_is_n ?_ | refine r_is_b ?_ | refine r_isn_n ?_ | refine r_isn_b ?_ | refine r_and ?_
  | refine r_int_i ?_ | refine r_int_b ?_ | refine r_str_s ?_ | refine r_ord ?_ | refine r_min ?_ | refine r_max ?_ | refine s_itT ?_ | refine s_itF ?_ | refine s_itnt ?_ | refine s_itnf ?_)
local macro_rules | `(tactic| tb_start) => `(tactic| first
  | ((with_reducible refine g_ix ?_); first | refine r_ix_l (by k_subL) (by o_fieldsN) ?_ | refine r_ix_t (by k_subL) (by o_fieldsN) ?_)
  | ((with_reducible refine g_len ?_); first | refine r_len_l (by k_subL) ?_ | refine r_len_t (by k_subL) ?_ | refine r_len_s (by o_readsAll) ?_ | refine r_len_d (by k_subL) ?_)
  | ((with_reducible refine g_mod ?_); refine r_mod (by first | decide | omega) ?_)
  | ((with_reducible refine g_mul ?_); refine r_mul_i (by first | exact Or.inr ⟨by decide, by decide⟩ | exact Or.inl ⟨by decide, by decide⟩ | exact Or.inl ⟨by omega, by omega⟩ | exact Or.inr ⟨by omega, by omega⟩) ?_)
  | ((with_reducible refine g_fdv ?_); refine r_fdv ⟨by decide, by decide⟩ ?_)
  | ((with_reducible refine g_pow ?_); refine r_pow ⟨by decide, by decide, by decide⟩ ?_)
  | ((with_reducible refine g_set ?_); first
    | (refine s_setL (j := 0) (by k_subL) (by rfl) ?_; simp only [List.set_cons_succ, List.set_cons_zero, upd_upd]) | (refine s_setL (j := 1) (by k_subL) (by rfl) ?_; simp only [List.set_cons_succ, List.set_cons_zero, upd_upd])
    | (refine s_setL (j := 2) (by k_subL) (by rfl) ?_; simp only [List.set_cons_succ, List.set_cons_zero, upd_upd]) | (refine s_setL (j := 3) (by k_subL) (by rfl) ?_; simp only [List.set_cons_succ, List.set_cons_zero, upd_upd])
    | (refine s_setL (j := 4) (by k_subL) (by rfl) ?_; simp only [List.set_cons_succ, List.set_cons_zero, upd_upd]))
  | ((with_reducible refine g_add ?_); refine r_add_s (by o_readsAll) ?_)
  | ((with_reducible refine g_new ?_); refine s_new (by o_readsAll) ?_; intro _ _ _ _ _)
  | ((with_reducible refine g_ty ?_); refine s_tyL (by k_subL) ?_) | ((with_reducible refine g_app ?_); refine r_app (by k_subL) (by o_readsAll) ?_)
  | ((with_reducible refine g_isi ?_); first | refine r_isi_int (by k_subL) ?_ | refine r_isi_bool (by k_subL) ?_ | refine r_isi_str (by k_subL) ?_ | refine r_isi_list (by k_subL) ?_ | refine r_isi_tuple (by k_subL) ?_ | refine r_isi_dict (by k_subL) ?_)
  | (intro _ _ _ _ _; tb_rel))
local macro_rules | `(tactic| kfm_turns) => `(tactic| repeat (first | with_reducible refine s_seq ?_ | tb_rel | tb_start))
local macro_rules | `(tactic| kln_le) => `(tactic| repeat (first | tb_rel | tb_start))
local macro_rules | `(tactic| ktu_offI) => `(tactic| with_reducible refine s_seq ?_)
local macro_rules | `(tactic| kpt_turns) => `(tactic| first
  | with_reducible refine s_itd (fun _ => ?_) (fun _ => ?_)
  | with_reducible refine s_itn (fun _ => ?_) (fun _ => ?_)
  | with_reducible refine s_itb (fun _ => ?_) (fun _ => ?_)
  | with_reducible refine s_itbn (fun _ => ?_) (fun _ => ?_))

local macro_rules | `(tactic| kcj_m) => `(tactic| first | exact L2.Same.refl _ | assumption | (refine L2.Same.trans ?_ (by assumption); kcj_m))
local macro_rules | `(tactic| keq_rows) => `(tactic| first
  | assumption | exact rep_non | exact rep_bl | exact rep_int | exact reps_nil | (refine rep_str ?_; decide +kernel) | (refine rep_str ?_; omega)
  | (refine reps_cons ?_ ?_ <;> keq_rows)
  | (refine rep_lst (by k_subL) (by (try simp only [List.length_cons, List.length_nil, List.length_append, List.length_map]); omega) ?_; keq_rows)
  | (refine rep_tup (by k_subL) (by (try simp only [List.length_cons, List.length_nil, List.length_append, List.length_map]); omega) ?_; keq_rows)
  | (refine rep_dct1 (by k_subL) ?_; keq_rows) | exact rep_dct0 (by k_subL)
  | (apply AG.Same.rep; assumption; keq_rows) | (apply AG.Same.reps; assumption; keq_rows))
local macro_rules | `(tactic| kqd_sub) => `(tactic| first | refine s_itT ?_ | refine s_itF ?_ | refine s_itnt ?_ | refine s_itnf ?_)

section
variable {w : World} {K : PySem.W.Frag} {mg : Str → Option Value} {C : Cs}
theorem linesOk_of {rs : List Dat} {ls : List Str} (hall : AllReq rs) (hl : ls.length = rs.length) (h : ∀ (i : Nat) s, ls[i]? = some s → ∃ t ps long, rs[i]? = some (.tup (.str t :: ps)) ∧ s = lineS t ps long) : LinesOk rs ls :=
  ⟨hl, fun i s hs => by
    obtain ⟨t, ps, long, h1, h2⟩ := h i s hs
    exact ⟨t, ps, long, h1, reqB_iff.mp (hall _ (List.mem_of_getElem? h1)), h2⟩⟩
theorem linesOk_take {rs : List Dat} {ls : List Str} (h : LinesOk rs ls) (n : Nat) : LinesOk (rs.take n) (ls.take n) := by
  refine ⟨by rw [List.length_take, List.length_take, h.1], fun i l hl => ?_⟩
  have hi : i < n := by
    have := (List.getElem?_eq_some_iff.mp hl).1
    rw [List.length_take] at this
    omega
  rw [List.getElem?_take_of_lt hi] at hl
  obtain ⟨t, ps, long, a, b, c⟩ := h.2 i l hl
  exact ⟨t, ps, long, by rw [List.getElem?_take_of_lt hi]; exact a, b, c⟩
theorem join_lines {ls : List Str} (h : ls ≠ []) : (Txt.join "\n" ls ++ "\n" : Str) = linesS ls := by
  apply TL.ext_tl
  rw [TL.tl_append, nl_tl, lines_tl h]
theorem atI_last {α : Type} {xs : List α} {x : α} : atI (xs ++ [x]) (-1) = some x := by
  unfold atI ixN
  rw [if_neg (by decide), if_pos (by simp; omega)]
  have : (-1 + ((xs ++ [x]).length : Int)).toNat = xs.length := by simp; omega
  rw [Option.bind_some, this]
  simp
theorem sum_le (m : Nat) : ∀ l : List Str, (∀ w ∈ l, w.length ≤ m) → (l.map (·.length)).sum ≤ l.length * m
  | [], _ => Nat.zero_le _
  | x :: r, h => by
    have h1 := h x List.mem_cons_self
    have h2 := sum_le m r fun w hw => h w (List.mem_cons_of_mem _ hw)
    rw [List.map_cons, List.sum_cons, List.length_cons, Nat.succ_mul]
    omega
theorem join_nl_codes {ls : List Str} (h : ∀ l ∈ ls, ∀ c ∈ TL.tl l, codeB c = true) : ∀ c ∈ TL.tl (Txt.join "\n" ls), codeB c = true := by
  intro c hc
  rw [TL.join_eq, TL.tl_join, nl_tl] at hc
  rcases joinL_mem hc with hc | ⟨p, hp, hc⟩
  · have : c = 10 := by simpa using hc
    subst this
    rfl
  · obtain ⟨w, hw, rfl⟩ := List.mem_map.mp hp
    exact h w hw c hc
theorem join_nl_len {ls : List Str} {m : Nat} (h : ∀ l ∈ ls, l.length ≤ m) : (Txt.join "\n" ls).length ≤ ls.length * (m + 1) := by
  rw [TL.join_eq, TL.len_tl, TL.tl_join, nl_tl]
  have := joinL_len (S := [10]) m (parts := ls.map TL.tl) fun p hp => by
    obtain ⟨w, hw, rfl⟩ := List.mem_map.mp hp
    rw [← TL.len_tl]
    exact h w hw
  rw [List.length_map] at this
  exact this
theorem p_law_bad_text : Pf_law_bad_text K C := by
  rintro vs H Q E ⟨d, v, rs, rfl, hd, hr, hrl, hall, q⟩
  unfold t_law_bad_text
  rw [i_law_bad_text]
  obtain ⟨a, xs, rfl, ha, hl, hrs⟩ := rep_lst_inv hr
  have hal := reps_len hrs
  have e1n : ("\n" : Str).length = 1 := by decide +kernel
  kfm_turns
  refine lcB_list (K := K) (xs := xs) (SqL.of ha) (by omega) gst_name (fun i y H => ∃ s, y = .str s ∧ ∃ t ps long, rs[i]? = some (.tup (.str t :: ps)) ∧ s = lineS t ps long) (fun _ _ _ _ _ h => h) ?_ ?_
  · intro i x H2 hx s2 Q2 q2
    obtain ⟨r, hr2, hrep⟩ := reps_get hrs hx
    obtain ⟨t, ps, rfl, hq⟩ := reqB_form (hall r (List.mem_of_getElem? hr2))
    kfm_turns
    refine ⟨rfl, ?_⟩
    kfm_turns
    refine ⟨d, _, rfl, Same.dr s2 hd, by decide, fun k H3 s3 k0 k1 => ?_⟩
    kfm_turns
    exact ⟨t, ps, x, _, rfl, Same.rep (s2.trans s3) hrep, hq, fun H4 s4 => q2 _ _ (s3.trans s4) ⟨_, rfl, t, ps, _, hr2, rfl⟩⟩
  intro acc D H2 tt hD s2 e2
  obtain ⟨ls, hll, rfl, hlp⟩ := turns_str (P := fun i s => ∃ t ps long, rs[i]? = some (.tup (.str t :: ps)) ∧ s = lineS t ps long) tt
  have hls : LinesOk rs ls := linesOk_of hall (by omega) hlp
  clear tt
  have hmem := linesOk_mem hls
  have hlen : (ls.map V.str).length = ls.length := by simp
  have hd2 := Same.dr s2 hd
  kfm_turns
  rw [hlen]
  refine ⟨d, _, rfl, hd2, by omega, fun r H3 s3 r0 r1 => ?_⟩
  obtain ⟨j, rfl⟩ : ∃ j : Nat, r = (j : Int) := ⟨r.toNat, by omega⟩
  have hjl : j ≤ ls.length := by omega
  have e3 := s3 _ _ e2
  have s03 := s2.trans s3
  have hd3 := Same.dr s3 hd2
  have more : ∀ H4, Same H H4 → H4 D = some (.lst (ls.map V.str)) → t_law_bad_text_4 K C ⟨fun _ H' => Q .non H', Q, fun _ _ => False, fun _ _ => False⟩ [some d, some (.ref a), some (.ref D), some (.int j), none, none, none] H4 := by
    intro H4 s4 e4
    have hd4 := Same.dr s4 hd
    kfm_turns
    refine ⟨d, rfl, hd4, fun b v5 H5 s5 hv5 hb => ?_⟩
    obtain ⟨t, ps, rfl, hq⟩ := reqB_form hb
    kfm_turns
    refine ⟨d, v5, t, ps, rfl, Same.dr s5 hd4, hv5, hq, fun l c v6 H6 s6 hbl hv6 => ?_⟩
    obtain ⟨hb1, hb2, hb3, hb4⟩ := hbl
    obtain ⟨bq, bx, rfl, hbq, _, hbx⟩ := rep_tup_inv hv6
    obtain ⟨c1, r1, rfl, hc1, hc2⟩ := reps_inv hbx
    obtain ⟨c2, r2, rfl, hc2, hc3⟩ := reps_inv hc2
    obtain ⟨rfl, _⟩ := rep_str_inv hc1
    obtain rfl := rep_int_inv hc2
    obtain rfl := reps_inv_nil hc3
    refine s_gtup hbq rfl ?_
    have e6 := s6 _ _ (s5 _ _ e4)
    kfm_turns
    refine r_sl_l e6 fun b1 H7 hb1' s7 e7 => ?_
    rw [cutV_to (by omega), ← List.map_take] at e7
    kfm_turns
    rename_i b2 H8 hb2' s8 e8
    have e8' : H8 b2 = some (.lst (([l] : List Str).map V.str)) := e8
    refine r_add_l (s8 _ _ e7) e8' (sz_of (by simp; omega)) fun b3 H9 hb3' s9 e9 => ?_
    rw [← List.map_append] at e9
    kfm_turns
    refine r_sl_l (s9 _ _ (s8 _ _ (s7 _ _ e6))) fun b4 H10 hb4' s10 e10 => ?_
    rw [cutV_from (by omega), ← List.map_drop] at e10
    refine r_add_l (s10 _ _ e9) e10 (sz_of (by simp; omega)) fun b5 H11 hb5 s11 e11 => ?_
    rw [← List.map_append] at e11
    have hj : (j : Int).toNat = j := by omega
    rw [hj] at e11
    have sall := ((((((s4.trans s5).trans s6).trans s7).trans s8).trans s9).trans s10)
    have hfree : H b5 = none := sall.free hb5
    have sal := sall.trans s11
    refine s_name (by exact rfl) ?_
    have fin : ∀ (more : List Str) y6 H12, Same H H12 → H12 b5 = some (.lst ((ls.take j ++ l :: (ls.drop j ++ more)).map V.str)) → more.length ≤ 1 → (∀ x ∈ more, x.length ≤ 100 ∧ 10 ∉ TL.tl x ∧ ∀ c ∈ TL.tl x, codeB c = true) →
        t_law_bad_text_7 K C ⟨fun _ H' => Q .non H', Q, fun _ _ => False, fun _ _ => False⟩ [some d, some (.ref a), some (.ref b5), some (.int j), some (.str l), some (.int c), y6] H12 := by
      intro more y6 H12 s12 e12 hm1 hm2
      have hgood : ∀ x ∈ ls.take j ++ l :: (ls.drop j ++ more), x.length ≤ 100 ∧ 10 ∉ TL.tl x ∧ ∀ c ∈ TL.tl x, codeB c = true := by
        intro x hx
        have hin : ∀ x ∈ ls, x.length ≤ 100 ∧ 10 ∉ TL.tl x ∧ ∀ c ∈ TL.tl x, codeB c = true := fun x hx => ⟨by have := (hmem x hx).1; omega, (hmem x hx).2.1, (hmem x hx).2.2⟩
        rcases List.mem_append.mp hx with hx | hx
        · exact hin x (List.mem_of_mem_take hx)
        · rcases List.mem_cons.mp hx with rfl | hx
          · exact ⟨hb2, hb3, hb4⟩
          · rcases List.mem_append.mp hx with hx | hx
            · exact hin x (List.mem_of_mem_drop hx)
            · exact hm2 x hx
      have hcount : (ls.take j ++ l :: (ls.drop j ++ more)).length ≤ 42 := by
        simp
        omega
      have hread := readText_bad (r := ls.drop j ++ more) (linesOk_take hls j) hb1 hb3 fun x hx => (hgood x (by simp at hx ⊢; rcases hx with hx | hx; exact .inr (.inr (.inl hx)); exact .inr (.inr (.inr hx)))).2.1
      have htj : (ls.take j).length = j := by rw [List.length_take]; omega
      rw [htj] at hread
      have hne : ls.take j ++ l :: (ls.drop j ++ more) ≠ [] := by simp
      generalize hL : ls.take j ++ l :: (ls.drop j ++ more) = L at *
      have hsum := sum_le 100 L fun x hx => (hgood x hx).1
      have hjl2 := join_nl_len (m := 100) fun x hx => (hgood x hx).1
      have hll2 := lines_len (m := 100) fun x hx => (hgood x hx).1
      kfm_turns
      refine ⟨_, b5, L, rfl, rfl, .inl (SqL.of e12), ?_, ?_⟩
      · rw [e1n]
        omega
      kfm_turns
      rename_i T H13 hT s13 e13
      rw [join_lines hne] at e13
      refine q (linesS L) (j + 1) c _ _ (s12.trans s13) hread (lines_text fun x hx => (hgood x hx).2.2) (by omega) (rep_tup (SqT.of e13) (by simp) (reps_cons (rep_str (by omega)) (reps_cons ?_ (reps_cons rep_int reps_nil))))
      have : (j : Int) + 1 = ((j + 1 : Nat) : Int) := by omega
      rw [this]
      exact rep_int
    have hd11 := Same.dr sal hd
    kfm_turns
    refine ⟨d, _, rfl, hd11, by decide, fun k H12 s12 k0 k1 => ?_⟩
    kfm_turns
    kpt_turns
    · kfm_turns
      refine ⟨d, rfl, Same.dr s12 hd11, fun b9 v9 H13 s13 hv9 hb9 => ?_⟩
      obtain ⟨t9, ps9, rfl, hq9⟩ := reqB_form hb9
      kfm_turns
      refine ⟨d, v9, t9, ps9, rfl, Same.dr (s12.trans s13) hd11, hv9, hq9, fun l9 c9 v10 H14 s14 hbl9 hv10 => ?_⟩
      obtain ⟨bq9, bx9, rfl, hbq9, _, hbx9⟩ := rep_tup_inv hv10
      obtain ⟨c19, r19, rfl, hc19, hc29⟩ := reps_inv hbx9
      obtain ⟨rfl, _⟩ := rep_str_inv hc19
      have e14 := s14 _ _ (s13 _ _ (s12 _ _ e11))
      refine r_ix_t hbq9 (atI_nat (j := 0) rfl) ?_
      kln_le
      refine r_app e14 (sz_lt (by simp; omega)) ?_
      refine fin [l9] _ _ (Same.mut ((sal.trans s12).trans (s13.trans s14)) hfree) ?_ (by simp) ?_
      · rw [upd_same]
        simp
      · intro x hx
        rw [List.mem_singleton.mp hx]
        exact ⟨hbl9.2.1, hbl9.2.2.1, hbl9.2.2.2⟩
    · refine s_next ?_
      refine fin [] _ _ (sal.trans s12) ?_ (by simp) (fun x hx => by cases hx)
      rw [s12 _ _ e11]
      simp
  kfm_turns
  rw [hlen]
  kpt_turns
  · rename_i hpos
    kfm_turns
    refine ⟨d, _, rfl, hd3, by decide, fun k H4 s4 k0 k1 => ?_⟩
    kfm_turns
    kpt_turns
    · have e4 := s4 _ _ e3
      rcases List.eq_nil_or_concat ls with e | ⟨l0, l1, e⟩
      · rw [e] at hpos
        simp at hpos
      rw [List.concat_eq_append] at e
      have hc55 : ∀ x ∈ ls, x.length ≤ 55 := fun x hx => (hmem x hx).1
      have hsum := sum_le 55 ls hc55
      have hjl2 := join_nl_len hc55
      kfm_turns
      refine ⟨_, D, ls, rfl, rfl, .inl (SqL.of e4), ?_, ?_⟩
      · rw [e1n]
        omega
      kfm_turns
      rw [hlen]
      refine r_ix_l (v := .str l1) e4 ?_ ?_
      · rw [e, List.map_append]
        exact atI_last
      have hl1 : l1 ∈ ls := by rw [e]; simp
      have hl1l := hc55 l1 hl1
      kfm_turns
      rename_i T H5 hT s5 e5
      have hread := readText_open (l := l1) (ls := l0) (rs := rs) (by rw [← e]; exact hls)
      rw [← e] at hread
      have hll0 : ls.length = l0.length + 1 := by rw [e]; simp
      refine q (Txt.join "\n" ls) (l0.length + 1) (l1.length + 1) _ _ ((s03.trans s4).trans s5) hread (textS_of (join_nl_codes fun x hx => (hmem x hx).2.2)) (by omega) (rep_tup (SqT.of e5) (by simp) (reps_cons (rep_str (by omega)) (reps_cons ?_ (reps_cons rep_int reps_nil))))
      rw [hll0]
      exact rep_int
    · refine s_next ?_
      exact more H4 (s03.trans s4) (s4 _ _ e3)
  · refine s_itF ?_
    refine s_next ?_
    exact more H3 s03 e3
end
end AG
namespace AG
open PySem PySem.Spec L2
local macro_rules | `(tactic| o_readsAll) => `(tactic| first | assumption | (show _ ≤ sizeLine; decide) | (refine sz_of ?_; (try simp only [List.length_cons, List.length_nil, List.length_append, List.length_map]); omega) | (refine sz_lt ?_; (try simp only [List.length_cons, List.length_nil, List.length_append, List.length_map]); omega))
local macro_rules | `(tactic| k_subL) => `(tactic| first
  | assumption
  | exact upd_same
  | (refine (upd_ne (by first | assumption | exact Ne.symm (by assumption))).trans ?_; k_subL)
  | (apply SqT.of; k_subL)
  | (refine AG.Same.app (by assumption) ?_; k_subL)
  | (apply AG.Same.sqT; assumption; k_subL)
  | (refine AG.Same.dr (by assumption) ?_; k_subL)
  | (apply AG.Same.rep; assumption; k_subL)
  | (apply AG.Same.reps; assumption; k_subL))
local macro_rules | `(tactic| o_fieldsN) => `(tactic| first | exact atI_nat (j := 0) rfl | exact atI_nat (j := 1) rfl | exact atI_nat (j := 2) rfl | exact atI_nat (j := 3) rfl | exact atI_nat (j := 4) rfl | assumption)
local macro_rules | `(tactic| tb_rel) => `(tactic| with_reducible first
  | refine s_asg ?_ | refine s_name (by first | (simp only [List.set_cons_succ, List.set_cons_zero]; done) | (simp only [List.set_cons_succ, List.set_cons_zero]; exact rfl) | exact rfl) ?_ | refine s_ret ?_ | refine s_if ?_ | refine s_next ?_ | refine s_drop ?_ | refine s_retN ?_
  | refine s_var (by with_unfolding_all rfl) ?_ | refine s_c ?_ | refine s_op ?_ | refine s_cons ?_ | refine s_nil ?_ | refine s_call ?_ | refine s_cb ?_ | refine s_test ?_ | refine s_bl ?_
  | refine s_B ?_ | refine s_and ?_ | refine s_or ?_ | refine s_not ?_ | refine s_andV ?_ | refine s_orV ?_ | refine s_notV ?_ | refine s_ifE ?_ | refine s_chain ?_ | refine s_un ?_
  | refine s_tupN ?_ | refine s_lstN ?_ | refine s_sl ?_ | refine s_nopart ?_ | refine s_part ?_ | refine s_int ?_ | refine s_bm ?_ | refine s_bm0 ?_ | refine s_gnil ?_ | refine s_gcons ?_ | refine s_gsub ?_
  | refine s_brk ?_ | refine s_cont ?_ | refine s_isS ?_ | refine s_joinU ?_ | refine s_splitU ?_ | refine s_endsU ?_
  | refine s_lc_list ?_ | refine s_lc_tup ?_ | refine s_lc_str ?_ | refine s_lc_rng1 ?_ | refine s_lc_zip ?_ | refine s_lc_zipM ?_ | refine s_star ?_ | refine r_neg ?_ | refine s_for_list ?_ | refine s_for_tup ?_ | refine s_for_str ?_ | refine s_for_rng1 ?_ | refine s_for_enum ?_ | refine s_disp1 ?_ | refine s_disp0 ?_ | refine r_ktI ?_ | refine r_ktN ?_ | refine s_for_rng2 ?_
  | refine r_add_i ?_ | refine r_sub ?_ | refine r_lt_i ?_ | refine r_gt_i ?_ | refine r_le_i ?_ | refine r_ge_i ?_ | refine r_lt_s ?_ | refine r_gt_s ?_ | refine r_le_a ?_ | refine r_le_z ?_ | refine r_le_0 ?_ | refine r_le_9 ?_ | refine r_le_s ?_ | refine r_ge_s ?_
  | refine r_eq_i ?_ | refine r_eq_s ?_ | refine r_eq_b ?_ | refine r_ne_i ?_ | refine r_ne_s ?_ | refine r_ne_b ?_ | refine r_is_n ?_ | refine r_is_b ?_ | refine r_isn_n ?_ | refine r_isn_b ?_ | refine r_and ?_
  | refine r_int_i ?_ | refine r_int_b ?_ | refine r_str_s ?_ | refine r_ord ?_ | refine r_min ?_ | refine r_max ?_ | refine s_itT ?_ | refine s_itF ?_ | refine s_itnt ?_ | refine s_itnf ?_)
local macro_rules | `(tactic| tb_start) => `(tactic| first
  | ((with_reducible refine g_ix ?_); first | refine r_ix_l (by k_subL) (by o_fieldsN) ?_ | refine r_ix_t (by k_subL) (by o_fieldsN) ?_)
  | ((with_reducible refine g_len ?_); first | refine r_len_l (by k_subL) ?_ | refine r_len_t (by k_subL) ?_ | refine r_len_s (by o_readsAll) ?_ | refine r_len_d (by k_subL) ?_)
  | ((with_reducible refine g_mod ?_); refine r_mod (by first | decide | omega) ?_)
  | ((with_reducible refine g_mul ?_); refine r_mul_i (by first | exact Or.inr ⟨by decide, by decide⟩ | exact Or.inl ⟨by decide, by decide⟩ | exact Or.inl ⟨by omega, by omega⟩ | exact Or.inr ⟨by omega, by omega⟩) ?_)
  | ((with_reducible refine g_fdv ?_); refine r_fdv ⟨by decide, by decide⟩ ?_)
  | ((with_reducible refine g_pow ?_); refine r_pow ⟨by decide, by decide, by decide⟩ ?_)
  | ((with_reducible refine g_set ?_); first
    | (refine s_setL (j := 0) (by k_subL) (by rfl) ?_; simp only [List.set_cons_succ, List.set_cons_zero, upd_upd]) | (refine s_setL (j := 1) (by k_subL) (by rfl) ?_; simp only [List.set_cons_succ, List.set_cons_zero, upd_upd])
    | (refine s_setL (j := 2) (by k_subL) (by rfl) ?_; simp only [List.set_cons_succ, List.set_cons_zero, upd_upd]) | (refine s_setL (j := 3) (by k_subL) (by rfl) ?_; simp only [List.set_cons_succ, List.set_cons_zero, upd_upd])
    | (refine s_setL (j := 4) (by k_subL) (by rfl) ?_; simp only [List.set_cons_succ, List.set_cons_zero, upd_upd]))
  | ((with_reducible refine g_add ?_); refine r_add_s (by o_readsAll) ?_)
  | ((with_reducible refine g_new ?_); refine s_new (by o_readsAll) ?_; intro _ _ _ _ _)
  | ((with_reducible refine g_ty ?_); refine s_tyL (by k_subL) ?_) | ((with_reducible refine g_app ?_); refine r_app (by k_subL) (by o_readsAll) ?_)
  | ((with_reducible refine g_isi ?_); first | refine r_isi_int (by k_subL) ?_ | refine r_isi_bool (by k_subL) ?_ | refine r_isi_str (by k_subL) ?_ | refine r_isi_list (by k_subL) ?_ | refine r_isi_tuple (by k_subL) ?_ | refine r_isi_dict (by k_subL) ?_)
  | (intro _ _ _ _ _; tb_rel))
local macro_rules | `(tactic| kfm_turns) => `(tactic| repeat (first | with_reducible refine s_seq ?_ | tb_rel | tb_start))
local macro_rules | `(tactic| kln_le) => `(tactic| repeat (first | tb_rel | tb_start))
local macro_rules | `(tactic| ktu_offI) => `(tactic| with_reducible refine s_seq ?_)
local macro_rules | `(tactic| kpt_turns) => `(tactic| first
  | with_reducible refine s_itd (fun _ => ?_) (fun _ => ?_)
  | with_reducible refine s_itn (fun _ => ?_) (fun _ => ?_)
  | with_reducible refine s_itb (fun _ => ?_) (fun _ => ?_)
  | with_reducible refine s_itbn (fun _ => ?_) (fun _ => ?_))

local macro_rules | `(tactic| kcj_m) => `(tactic| first | exact L2.Same.refl _ | assumption | (refine L2.Same.trans ?_ (by assumption); kcj_m))
local macro_rules | `(tactic| keq_rows) => `(tactic| first
  | assumption | exact rep_non | exact rep_bl | exact rep_int | exact reps_nil | (refine rep_str ?_; decide +kernel) | (refine rep_str ?_; omega)
  | (refine reps_cons ?_ ?_ <;> keq_rows)
  | (refine rep_lst (by k_subL) (by (try simp only [List.length_cons, List.length_nil, List.length_append, List.length_map]); omega) ?_; keq_rows)
  | (refine rep_tup (by k_subL) (by (try simp only [List.length_cons, List.length_nil, List.length_append, List.length_map]); omega) ?_; keq_rows)
  | (refine rep_dct1 (by k_subL) ?_; keq_rows) | exact rep_dct0 (by k_subL)
  | (apply AG.Same.rep; assumption; keq_rows) | (apply AG.Same.reps; assumption; keq_rows))
local macro_rules | `(tactic| kqd_sub) => `(tactic| first | refine s_itT ?_ | refine s_itF ?_ | refine s_itnt ?_ | refine s_itnf ?_)

section
variable {w : World} {K : PySem.W.Frag} {mg : Str → Option Value} {C : Cs}
theorem s_callS {sp : Sp} {W : L2.St → XK} {t : TA} {σ : L2.St} {H : Hp} {Q : VK} (h : t σ H fun vs H1 => sp vs H1 Q (W σ)) : tCallS sp W t σ H Q := h
theorem r_isXt {K : PySem.W.Frag} {D a dd : Addr} {T : String} {fs : List (Str × V)} {b : Bool} {H : Hp} {Q : VK} (h : H dd = some (.xd fs)) (e : PySem.W.kitOne K (.ref D) (.type T) = some b) (q : Q (.bl b) H) : rIsX K D a (.ref D) (some dd) [.ref a, .ty T] H Q :=
  ⟨.ty T, .type T, b, dd, fs, rfl, rfl, rfl, h, fun u r => r, e, q⟩
theorem none7 (G : Glob w K mg C) : PySem.W.kitAny K (.ref C.cBadLine) (([C.cBadValue, C.cBroken, C.cUnknown, C.cNotHeld, C.cFault, C.cNoRoom, C.cCut] : List Addr).map Value.ref) = some false :=
  kitAny_cons G.kiBLBadValue (fun _ => kitAny_cons G.kiBLBroken (fun _ => kitAny_cons G.kiBLUnknown (fun _ => kitAny_cons G.kiBLNotHeld (fun _ => kitAny_cons G.kiBLFault (fun _ => kitAny_cons G.kiBLNoRoom (fun _ => kitAny_cons G.kiBLCut (fun _ => kitAny_nil) fun z => nomatch z) fun z => nomatch z) fun z => nomatch z) fun z => nomatch z) fun z => nomatch z) fun z => nomatch z) fun z => nomatch z
theorem readLines_rows {o : Bool} : ∀ {ls : List Str} {n : Nat} {rs : List Dat}, readLines o n ls = .inr rs → rs.length = ls.length ∧ ∀ d ∈ rs, rowF d
  | [], n, rs, h => by
    rw [readLines] at h
    obtain rfl := Sum.inr.inj h
    exact ⟨rfl, fun d hd => by cases hd⟩
  | l :: r, n, rs, h => by
    rw [readLines_cons2] at h
    by_cases c : o = true ∧ r = []
    · rw [if_pos c] at h
      cases hr : readLine l with
      | inl c => rw [hr] at h; cases h
      | inr d => rw [hr] at h; cases h
    · rw [if_neg c] at h
      cases hr : readLine l with
      | inl c => rw [hr] at h; cases h
      | inr d =>
        rw [hr] at h
        simp only at h
        cases hv : readLines o (n + 1) r with
        | inl e => rw [hv] at h; cases h
        | inr ds =>
          rw [hv] at h
          obtain rfl := Sum.inr.inj h
          obtain ⟨h1, h2⟩ := readLines_rows hv
          refine ⟨by simp [h1], fun x hx => ?_⟩
          rcases List.mem_append.mp hx with hx | hx
          · rw [List.mem_singleton.mp hx]
            exact readLine_row hr
          · exact h2 x hx
theorem readText_rows {s : Str} {rs : List Dat} (h : readText s = .inr rs) : rs.length ≤ s.length + 1 ∧ ∀ d ∈ rs, rowF d := by
  unfold readText at h
  by_cases e : s = ""
  · rw [if_pos e] at h
    obtain rfl := Sum.inr.inj h
    exact ⟨Nat.zero_le _, fun d hd => by cases hd⟩
  · rw [if_neg e] at h
    by_cases e2 : Txt.endswith s "\n" = true
    · rw [if_pos e2] at h
      obtain ⟨h1, h2⟩ := readLines_rows h
      have h3 := (split_nl (Txt.slice s none (some (-1)))).2.1
      have h4 := PyProof.Txt.length_slice_le s none (some (-1))
      exact ⟨by omega, h2⟩
    · rw [if_neg e2] at h
      obtain ⟨h1, h2⟩ := readLines_rows h
      have h3 := (split_nl s).2.1
      exact ⟨by omega, h2⟩
theorem rows_few {s : Str} {rs : List Dat} (h : readText s = .inr rs) (hl : s.length ≤ 900000) : rs.length ≤ 1000000 := by
  have := (readText_rows h).1
  omega
theorem p_law_parse_told (G : Glob w K mg C) : Pf_law_parse_told K C := by
  rintro vs H Q E ⟨s, rfl, hl, hts, q⟩
  unfold t_law_parse_told
  rw [i_law_parse_told]
  refine s_ret ?_
  refine s_tupN ?_
  refine s_cons ?_
  refine s_c ?_
  refine s_cons ?_
  refine s_callS ?_
  kfm_turns
  refine .inr ⟨s, rfl, hl, hts, ?_⟩
  unfold toldOf at q
  cases e : readText s with
  | inl nc =>
    obtain ⟨n, c⟩ := nc
    rw [e] at q
    simp only at q ⊢
    intro H' dd t1 t2 s' hdd ht2 ht1
    refine ⟨G.xmBadLine, fun a ha => ?_⟩
    kfm_turns
    refine r_isX hdd G.kiBLSE ?_
    kfm_turns
    refine r_isXt hdd G.kiBLVE ?_
    kfm_turns
    rename_i T H2 hT s2 e2
    refine r_isXT (as := [C.cBadValue, C.cBroken, C.cUnknown, C.cNotHeld, C.cFault, C.cNoRoom, C.cCut]) (s2 _ _ hdd) e2 (none7 G) ?_
    kfm_turns
    refine s_xf (K := K) ?_
    kfm_turns
    refine ⟨rfl, _, _, s2 _ _ hdd, rfl, ?_⟩
    kfm_turns
    refine s_xf (K := K) ?_
    kfm_turns
    refine ⟨rfl, _, _, s2 _ _ hdd, rfl, ?_⟩
    kfm_turns
    refine s_xf (K := K) ?_
    kfm_turns
    refine ⟨rfl, _, _, s2 _ _ hdd, rfl, ?_⟩
    kfm_turns
    rename_i T3 H3 hT3 s3 e3 T4 H4 hT4 s4 e4
    have s24 := (s2.trans s3).trans s4
    have r1 : Rep K H4 (.tup [.str "BadLine", .tup [.int n, .int c]]) (.ref t2) := rep_tup (Same.sqT s24 ht2) (by simp) (reps_cons (rep_str (by decide)) (reps_cons (rep_tup (Same.sqT s24 ht1) (by simp) (reps_cons rep_int (reps_cons rep_int reps_nil))) reps_nil))
    have r2 : Rep K H4 (.tup [.str "BadLine", .tup [.int n, .int c]]) (.ref T4) := rep_tup (SqT.of e4) (by simp) (reps_cons (rep_str (by decide)) (reps_cons (rep_tup (SqT.of (s4 _ _ e3)) (by simp) (reps_cons rep_int (reps_cons rep_int reps_nil))) reps_nil))
    refine ⟨_, _, _, rfl, r1, r2, by show 2 < 6; decide, rfl, fun H5 s5 => ?_⟩
    have s25 := s24.trans s5
    kfm_turns
    refine s_xf (K := K) ?_
    kfm_turns
    refine ⟨rfl, _, _, s25 _ _ hdd, rfl, ?_⟩
    kfm_turns
    refine s_xf (K := K) ?_
    kfm_turns
    refine ⟨rfl, _, _, s25 _ _ hdd, rfl, ?_⟩
    kfm_turns
    rename_i T6 H6 hT6 s6 e6
    exact q _ _ ((s'.trans s25).trans s6) (rep_tup (SqT.of e6) (by simp) (reps_cons (rep_str (by decide)) (reps_cons rep_int (reps_cons rep_int reps_nil))))
  | inr rs =>
    rw [e] at q
    simp only at q ⊢
    intro p xs H' s' hp ep hr
    kfm_turns
    rename_i T H2 hT s2 e2
    refine q _ _ (s'.trans s2) (rep_tup (SqT.of e2) (by simp) (reps_cons (rep_str (by decide)) (reps_cons (rep_lst (s2 _ _ ep) ?_ (Same.reps s2 hr)) reps_nil)))
    rw [reps_len hr]
    exact rows_few e hl
theorem p_law_refuses_value (G : Glob w K mg C) : Pf_law_refuses_value K C := by
  rintro vs H Q E ⟨d, v, rfl, hr, hb, q⟩
  unfold t_law_refuses_value
  rw [i_law_refuses_value]
  refine s_seq ?_
  refine s_drop ?_
  refine s_callS ?_
  kfm_turns
  refine .inl ⟨d, v, rfl, hr, hb, ?_⟩
  intro H' dd t1 t2 s' hdd ht2 ht1
  refine ⟨G.xmBadValue, fun a ha => ?_⟩
  kfm_turns
  refine s_xf (K := K) ?_
  kfm_turns
  refine ⟨rfl, _, _, hdd, rfl, ?_⟩
  kfm_turns
  refine s_xf (K := K) ?_
  kfm_turns
  refine ⟨rfl, _, _, hdd, rfl, ?_⟩
  kfm_turns
  rename_i T2 H2 hT2 s2 e2 T3 H3 hT3 s3 e3 T4 H4 hT4 s4 e4 T5 H5 hT5 s5 e5
  have s25 := ((s2.trans s3).trans s4).trans s5
  have r1 : Rep K H5 (.lst [.tup [.str "BadValue", .tup [.str "text"]], .str "text"]) (.ref T2) := rep_lst (((s3.trans s4).trans s5) _ _ e2) (by simp) (reps_cons (rep_tup (Same.sqT s25 ht2) (by simp) (reps_cons (rep_str (by decide)) (reps_cons (rep_tup (Same.sqT s25 ht1) (by simp) (reps_cons (rep_str (by decide)) reps_nil)) reps_nil))) (reps_cons (rep_str (by decide)) reps_nil))
  have r2 : Rep K H5 (.lst [.tup [.str "BadValue", .tup [.str "text"]], .str "text"]) (.ref T5) := rep_lst e5 (by simp) (reps_cons (rep_tup (SqT.of (s5 _ _ e4)) (by simp) (reps_cons (rep_str (by decide)) (reps_cons (rep_tup (SqT.of ((s4.trans s5) _ _ e3)) (by simp) (reps_cons (rep_str (by decide)) reps_nil)) reps_nil))) (reps_cons (rep_str (by decide)) reps_nil))
  refine ⟨_, _, _, rfl, r1, r2, by show 3 < 6; decide, rfl, fun H6 s6 => ?_⟩
  kfm_turns
  refine r_isX ((s25.trans s6) _ _ hdd) G.kiBVSE ?_
  exact q _ ((s'.trans s25).trans s6)
end
end AG
namespace AG
open PySem PySem.Spec L2
local macro_rules | `(tactic| o_readsAll) => `(tactic| first | assumption | (show _ ≤ sizeLine; decide) | (refine sz_of ?_; (try simp only [List.length_cons, List.length_nil, List.length_append, List.length_map]); omega) | (refine sz_lt ?_; (try simp only [List.length_cons, List.length_nil, List.length_append, List.length_map]); omega))
local macro_rules | `(tactic| k_subL) => `(tactic| first
  | assumption
  | exact upd_same
  | (refine (upd_ne (by first | assumption | exact Ne.symm (by assumption))).trans ?_; k_subL)
  | (apply SqT.of; k_subL)
  | (refine AG.Same.app (by assumption) ?_; k_subL)
  | (apply AG.Same.sqT; assumption; k_subL)
  | (refine AG.Same.dr (by assumption) ?_; k_subL)
  | (apply AG.Same.rep; assumption; k_subL)
  | (apply AG.Same.reps; assumption; k_subL))
local macro_rules | `(tactic| o_fieldsN) => `(tactic| first | exact atI_nat (j := 0) rfl | exact atI_nat (j := 1) rfl | exact atI_nat (j := 2) rfl | exact atI_nat (j := 3) rfl | exact atI_nat (j := 4) rfl | assumption)
local macro_rules | `(tactic| tb_rel) => `(tactic| with_reducible first
  | refine s_asg ?_ | refine s_name (by first | (simp only [List.set_cons_succ, List.set_cons_zero]; done) | (simp only [List.set_cons_succ, List.set_cons_zero]; exact rfl) | exact rfl) ?_ | refine s_ret ?_ | refine s_if ?_ | refine s_next ?_ | refine s_drop ?_ | refine s_retN ?_
  | refine s_var (by with_unfolding_all rfl) ?_ | refine s_c ?_ | refine s_op ?_ | refine s_cons ?_ | refine s_nil ?_ | refine s_call ?_ | refine s_cb ?_ | refine s_test ?_ | refine s_bl ?_
  | refine s_B ?_ | refine s_and ?_ | refine s_or ?_ | refine s_not ?_ | refine s_andV ?_ | refine s_orV ?_ | refine s_notV ?_ | refine s_ifE ?_ | refine s_chain ?_ | refine s_un ?_
  | refine s_tupN ?_ | refine s_lstN ?_ | refine s_sl ?_ | refine s_nopart ?_ | refine s_part ?_ | refine s_int ?_ | refine s_bm ?_ | refine s_bm0 ?_ | refine s_gnil ?_ | refine s_gcons ?_ | refine s_gsub ?_
  | refine s_brk ?_ | refine s_cont ?_ | refine s_isS ?_ | refine s_joinU ?_ | refine s_splitU ?_ | refine s_endsU ?_
  | refine s_lc_list ?_ | refine s_lc_tup ?_ | refine s_lc_str ?_ | refine s_lc_rng1 ?_ | refine s_lc_zip ?_ | refine s_lc_zipM ?_ | refine s_star ?_ | refine r_neg ?_ | refine s_for_list ?_ | refine s_for_tup ?_ | refine s_for_str ?_ | refine s_for_rng1 ?_ | refine s_for_enum ?_ | refine s_disp1 ?_ | refine s_disp0 ?_ | refine r_ktI ?_ | refine r_ktN ?_ | refine s_for_rng2 ?_
  | refine r_add_i ?_ | refine r_sub ?_ | refine r_lt_i ?_ | refine r_gt_i ?_ | refine r_le_i ?_ | refine r_ge_i ?_ | refine r_lt_s ?_ | refine r_gt_s ?_ | refine r_le_a ?_ | refine r_le_z ?_ | refine r_le_0 ?_ | refine r_le_9 ?_ | refine r_le_s ?_ | refine r_ge_s ?_
  | refine r_eq_i ?_ | refine r_eq_s ?_ | refine r_eq_b ?_ | refine r_ne_i ?_ | refine r_ne_s ?_ | refine r_ne_b ?_ | refine r_is_n ?_ | refine r_is_b ?_ | refine r_isn_n ?_ | refine r_isn_b ?_ | refine r_and ?_
  | refine r_int_i ?_ | refine r_int_b ?_ | refine r_str_s ?_ | refine r_ord ?_ | refine r_min ?_ | refine r_max ?_ | refine s_itT ?_ | refine s_itF ?_ | refine s_itnt ?_ | refine s_itnf ?_)
local macro_rules | `(tactic| tb_start) => `(tactic| first
  | ((with_reducible refine g_ix ?_); first | refine r_ix_l (by k_subL) (by o_fieldsN) ?_ | refine r_ix_t (by k_subL) (by o_fieldsN) ?_)
  | ((with_reducible refine g_len ?_); first | refine r_len_l (by k_subL) ?_ | refine r_len_t (by k_subL) ?_ | refine r_len_s (by o_readsAll) ?_ | refine r_len_d (by k_subL) ?_)
  | ((with_reducible refine g_mod ?_); refine r_mod (by first | decide | omega) ?_)
  | ((with_reducible refine g_mul ?_); refine r_mul_i (by first | exact Or.inr ⟨by decide, by decide⟩ | exact Or.inl ⟨by decide, by decide⟩ | exact Or.inl ⟨by omega, by omega⟩ | exact Or.inr ⟨by omega, by omega⟩) ?_)
  | ((with_reducible refine g_fdv ?_); refine r_fdv ⟨by decide, by decide⟩ ?_)
  | ((with_reducible refine g_pow ?_); refine r_pow ⟨by decide, by decide, by decide⟩ ?_)
  | ((with_reducible refine g_set ?_); first
    | (refine s_setL (j := 0) (by k_subL) (by rfl) ?_; simp only [List.set_cons_succ, List.set_cons_zero, upd_upd]) | (refine s_setL (j := 1) (by k_subL) (by rfl) ?_; simp only [List.set_cons_succ, List.set_cons_zero, upd_upd])
    | (refine s_setL (j := 2) (by k_subL) (by rfl) ?_; simp only [List.set_cons_succ, List.set_cons_zero, upd_upd]) | (refine s_setL (j := 3) (by k_subL) (by rfl) ?_; simp only [List.set_cons_succ, List.set_cons_zero, upd_upd])
    | (refine s_setL (j := 4) (by k_subL) (by rfl) ?_; simp only [List.set_cons_succ, List.set_cons_zero, upd_upd]))
  | ((with_reducible refine g_add ?_); refine r_add_s (by o_readsAll) ?_)
  | ((with_reducible refine g_new ?_); refine s_new (by o_readsAll) ?_; intro _ _ _ _ _)
  | ((with_reducible refine g_ty ?_); refine s_tyL (by k_subL) ?_) | ((with_reducible refine g_app ?_); refine r_app (by k_subL) (by o_readsAll) ?_)
  | ((with_reducible refine g_isi ?_); first | refine r_isi_int (by k_subL) ?_ | refine r_isi_bool (by k_subL) ?_ | refine r_isi_str (by k_subL) ?_ | refine r_isi_list (by k_subL) ?_ | refine r_isi_tuple (by k_subL) ?_ | refine r_isi_dict (by k_subL) ?_)
  | (intro _ _ _ _ _; tb_rel))
local macro_rules | `(tactic| kfm_turns) => `(tactic| repeat (first | with_reducible refine s_seq ?_ | tb_rel | tb_start))
local macro_rules | `(tactic| kln_le) => `(tactic| repeat (first | tb_rel | tb_start))
local macro_rules | `(tactic| ktu_offI) => `(tactic| with_reducible refine s_seq ?_)
local macro_rules | `(tactic| kpt_turns) => `(tactic| first
  | with_reducible refine s_itd (fun _ => ?_) (fun _ => ?_)
  | with_reducible refine s_itn (fun _ => ?_) (fun _ => ?_)
  | with_reducible refine s_itb (fun _ => ?_) (fun _ => ?_)
  | with_reducible refine s_itbn (fun _ => ?_) (fun _ => ?_))

local macro_rules | `(tactic| kcj_m) => `(tactic| first | exact L2.Same.refl _ | assumption | (refine L2.Same.trans ?_ (by assumption); kcj_m))
local macro_rules | `(tactic| keq_rows) => `(tactic| first
  | assumption | exact rep_non | exact rep_bl | exact rep_int | exact reps_nil | (refine rep_str ?_; decide +kernel) | (refine rep_str ?_; omega)
  | (refine reps_cons ?_ ?_ <;> keq_rows)
  | (refine rep_lst (by k_subL) (by (try simp only [List.length_cons, List.length_nil, List.length_append, List.length_map]); omega) ?_; keq_rows)
  | (refine rep_tup (by k_subL) (by (try simp only [List.length_cons, List.length_nil, List.length_append, List.length_map]); omega) ?_; keq_rows)
  | (refine rep_dct1 (by k_subL) ?_; keq_rows) | exact rep_dct0 (by k_subL)
  | (apply AG.Same.rep; assumption; keq_rows) | (apply AG.Same.reps; assumption; keq_rows))
local macro_rules | `(tactic| kqd_sub) => `(tactic| first | refine s_itT ?_ | refine s_itF ?_ | refine s_itnt ?_ | refine s_itnf ?_)

section
variable {w : World} {K : PySem.W.Frag} {mg : Str → Option Value} {C : Cs}
theorem depths_flat : ∀ {ds : List Dat}, (∀ d ∈ ds, flatD d) → depths ds = 0
  | [], _ => rfl
  | d :: r, h => by
    unfold depths
    rw [depths_flat fun d hd => h d (List.mem_cons_of_mem _ hd)]
    have := h d List.mem_cons_self
    cases d <;> first | rfl | exact this.elim
theorem row_dep {d : Dat} (h : rowF d) : d.depth = 1 := by
  obtain ⟨t, ps, rfl, hf⟩ := h
  unfold Dat.depth
  rw [depths_flat]
  intro x hx
  rcases List.mem_cons.mp hx with rfl | hx
  · exact True.intro
  · exact hf x hx
theorem rows_dep : ∀ {rs : List Dat}, (∀ d ∈ rs, rowF d) → depths rs ≤ 1
  | [], _ => by decide
  | d :: r, h => by
    have h1 := row_dep (h d List.mem_cons_self)
    have h2 := rows_dep fun x hx => h x (List.mem_cons_of_mem _ hx)
    unfold depths
    omega
theorem req_row {d : Dat} (h : reqB d = true) : rowF d := by
  obtain ⟨t, ps, rfl, hq⟩ := reqB_form h
  exact ⟨t, ps, rfl, req_flat hq⟩
theorem told_dep (s : Str) : (toldOf s).depth < 6 := by
  unfold toldOf
  cases e : readText s with
  | inl nc => show 1 < 6; decide
  | inr rs =>
    have h := rows_dep (readText_rows e).2
    show depths [.str "parsed", .lst rs] + 1 < 6
    have e2 : depths [.str "parsed", .lst rs] = max 0 (max (depths rs + 1) 0) := rfl
    rw [e2]
    omega
theorem ex_list {α : Type} {P : Nat → α → Prop} : ∀ n : Nat, (∀ i, i < n → ∃ a, P i a) → ∃ l : List α, l.length = n ∧ ∀ (i : Nat) a, l[i]? = some a → P i a
  | 0, _ => ⟨[], rfl, fun i a h => by simp at h⟩
  | n + 1, h => by
    obtain ⟨l, h1, h2⟩ := ex_list n fun i hi => h i (by omega)
    obtain ⟨a, ha⟩ := h n (by omega)
    refine ⟨l ++ [a], by simp [h1], fun i b hb => ?_⟩
    by_cases hi : i < l.length
    · rw [List.getElem?_append_left hi] at hb
      exact h2 i b hb
    · rw [List.getElem?_append_right (by omega)] at hb
      have hi0 : i - l.length = 0 := by
        have := (List.getElem?_eq_some_iff.mp hb).1
        simp at this
        omega
      rw [hi0] at hb
      obtain rfl : a = b := by simpa using hb
      rw [show i = n by omega]
      exact ha
theorem p_law (G : Glob w K mg C) : Pf_law K C := by
  rintro vs H Q E ⟨a0, ns, rfl, hS, hn, q⟩
  unfold t_law
  rw [i_law]
  kfm_turns
  refine ⟨a0, ns, rfl, hS, hn, fun d H1 s1 hd => ?_⟩
  kfm_turns
  refine ⟨d, 4, 40, rfl, hd, by decide, by decide, by decide, fun m H2 s2 m0 m1 => ?_⟩
  kfm_turns
  have hd2 := Same.dr s2 hd
  refine lcB_rng1 (by omega) m0 gst_name (fun i y H => ∃ r, Rep K H r y ∧ reqB r = true) (fun _ _ _ _ s h => by obtain ⟨r, h1, h2⟩ := h; exact ⟨r, Same.rep s h1, h2⟩) ?_ ?_
  · intro i H3 hi s3 Q2 q2
    kfm_turns
    refine ⟨rfl, ?_⟩
    kfm_turns
    exact ⟨d, rfl, Same.dr s3 hd2, fun r v H4 s4 hr hq => q2 _ _ s4 ⟨r, hr, hq⟩⟩
  intro acc A H3 tt hA s3 e3
  obtain ⟨rs, hrl, hrs, hreq⟩ := turns_ex (P := fun _ r => reqB r = true) tt
  have hl : rs.length ≤ 40 := by omega
  have hall : AllReq rs := fun r hr => by
    obtain ⟨i, hi⟩ := List.getElem?_of_mem hr
    exact hreq i r hi
  have hal := reps_len hrs
  have hd3 := Same.dr s3 hd2
  have s03 : Same H H3 := (s1.trans s2).trans s3
  clear tt hrl hreq
  have hdep : (Dat.lst rs).depth < 6 := by
    unfold Dat.depth
    have := rows_dep fun d hd => req_row (hall d hd)
    omega
  have hA3 : Rep K H3 (.lst rs) (.ref A) := rep_lst e3 (by omega) hrs
  kfm_turns
  refine ⟨d, _, rs, rfl, hd3, hA3, hl, hall, fun s n c v4 H4 s4 hread hts hsl hv4 => ?_⟩
  obtain ⟨bq, bx, rfl, hbq, _, hbx⟩ := rep_tup_inv hv4
  obtain ⟨c1, r1, rfl, hc1, hx1⟩ := reps_inv hbx
  obtain ⟨c2, r2, rfl, hc2, hx2⟩ := reps_inv hx1
  obtain ⟨c3, r3, rfl, hc3, hx3⟩ := reps_inv hx2
  obtain ⟨rfl, _⟩ := rep_str_inv hc1
  obtain rfl := rep_int_inv hc2
  obtain rfl := rep_int_inv hc3
  obtain rfl := reps_inv_nil hx3
  refine s_gtup hbq rfl ?_
  have e4 := s4 _ _ e3
  have hrs4 := Same.reps (K := K) s4 hrs
  have hd4 := Same.dr s4 hd3
  have s04 := s03.trans s4
  clear hc1 hc2 hc3 hx1 hx2 hx3 hbx hbq hv4
  have htold : toldOf s = .tup [.str "refused", .int n, .int c] := by unfold toldOf; rw [hread]
  kfm_turns
  refine lcB_list (K := K) (xs := acc) (SqL.of e4) (by omega) gst_name (fun i y H => ∃ x, y = .str x ∧ ∃ t ps long, rs[i]? = some (.tup (.str t :: ps)) ∧ x = lineS t ps long ++ "\n") (fun _ _ _ _ _ h => h) ?_ ?_
  · intro i x H5 hx s5 Q2 q2
    obtain ⟨r, hr, hrep⟩ := reps_get hrs4 hx
    obtain ⟨t, ps, rfl, hq⟩ := reqB_form (hall r (List.mem_of_getElem? hr))
    kfm_turns
    refine ⟨rfl, ?_⟩
    kfm_turns
    refine ⟨d, _, rfl, Same.dr s5 hd4, by decide, fun k H6 s6 k0 k1 => ?_⟩
    kfm_turns
    refine ⟨t, ps, x, _, rfl, Same.rep (s5.trans s6) hrep, hq, fun H7 s7 => ?_⟩
    have hll := line_len hq (decide (k = 0))
    kfm_turns
    exact q2 _ _ (s6.trans s7) ⟨_, rfl, t, ps, _, hr, rfl⟩
  intro acc2 B H5 tt hB s5 e5
  obtain ⟨ss, hsl2, rfl, hsp⟩ := turns_str (P := fun i x => ∃ t ps long, rs[i]? = some (.tup (.str t :: ps)) ∧ x = lineS t ps long ++ "\n") tt
  clear tt
  obtain ⟨ls, hll, hlp⟩ := ex_list (P := fun i (l : Str) => ss[i]? = some (l ++ "\n") ∧ ∃ t ps long, rs[i]? = some (.tup (.str t :: ps)) ∧ l = lineS t ps long) ss.length fun i hi => by
    obtain ⟨t, ps, long, h1, h2⟩ := hsp i _ (List.getElem?_eq_getElem hi)
    exact ⟨lineS t ps long, by rw [← h2]; exact List.getElem?_eq_getElem hi, t, ps, long, h1, rfl⟩
  have hss : ss = ls.map (fun l : Str => (l ++ "\n" : Str)) := by
    apply List.ext_getElem?
    intro i
    rw [List.getElem?_map]
    cases e : ls[i]? with
    | none =>
      rw [List.getElem?_eq_none_iff] at e
      rw [List.getElem?_eq_none (by omega)]
      rfl
    | some l => exact (hlp i l e).1
  have hls : LinesOk rs ls := linesOk_of hall (by omega) fun i l hi => (hlp i l hi).2
  have hmem := linesOk_mem hls
  have hgl : (linesS ls).length ≤ 2240 := by
    have := lines_len (ls := ls) (m := 55) fun l hl => (hmem l hl).1
    have h2 := hls.1
    have : ls.length * 56 ≤ 40 * 56 := Nat.mul_le_mul_right _ (by omega)
    omega
  have hgt : textS (linesS ls) = true := lines_text fun l hl => (hmem l hl).2.2
  have hgr := readText_right hls
  have s05 := s04.trans s5
  have e5' := s5 _ _ e4
  have hrs5 := Same.reps (K := K) s5 hrs4
  have hd5 := Same.dr s5 hd4
  have hsum : (ss.map (·.length)).sum ≤ ss.length * 56 := sum_le 56 ss fun x hx => by
    obtain ⟨i, hi⟩ := List.getElem?_of_mem hx
    obtain ⟨t, ps, long, h1, h2⟩ := hsp i x hi
    have hq : Req t ps := reqB_iff.mp (hall _ (List.mem_of_getElem? h1))
    have := line_len hq long
    have e1 : ("\n" : Str).length = 1 := by decide +kernel
    rw [h2, TL.len_tl, TL.tl_append, List.length_append, ← TL.len_tl, ← TL.len_tl, e1]
    omega
  refine ⟨_, B, ss, rfl, rfl, .inl (SqL.of e5), ?_, ?_⟩
  · have e0 : ("" : Str).length = 0 := by decide +kernel
    rw [e0]
    omega
  have hcat : Txt.join "" ss = linesS ls := by
    rw [join_cat, hss]
    rfl
  rw [hcat]
  clear hsp hlp hss hsum hsl2 hcat
  kfm_turns
  refine ⟨s, rfl, by omega, hts, fun v6 H6 s6 hv6 => ?_⟩
  kfm_turns
  rename_i T7 H7 hT7 s7 e7
  have hexp : Rep K H7 (toldOf s) (.ref T7) := by
    rw [htold]
    exact rep_tup (SqT.of e7) (by simp) (reps_cons (rep_str (by decide)) (reps_cons rep_int (reps_cons rep_int reps_nil)))
  refine ⟨_, v6, _, rfl, Same.rep s7 hv6, hexp, told_dep s, fun H8 s8 => ?_⟩
  have s58 := (s6.trans s7).trans s8
  have s08 := s05.trans s58
  have e8 := s58 _ _ e5'
  have hrs8 := Same.reps (K := K) s58 hrs5
  have hd8 := Same.dr s58 hd5
  clear hexp hv6
  kfm_turns
  refine .inr ⟨linesS ls, rfl, by omega, hgt, ?_⟩
  rw [hgr]
  intro p xs H9 s9 hp ep hr9
  have hxl := reps_len hr9
  kfm_turns
  refine ⟨.lst rs, _, _, rfl, rep_lst ep (by omega) hr9, rep_lst (s9 _ _ e8) (by omega) (Same.reps s9 hrs8), hdep, fun H10 s10 => ?_⟩
  kfm_turns
  rename_i T11 H11 hT11 s11 e11
  have ep11 := s11 _ _ (s10 _ _ ep)
  have sm : Same H8 (upd H11 p (.lst (xs ++ [.ref T11]))) := Same.mut ((s9.trans s10).trans s11) hp
  try refine r_app ep11 (sz_lt (by omega)) ?_
  generalize hH12 : upd H11 p (.lst (xs ++ [.ref T11])) = H12 at sm
  clear hH12
  have e12 := sm _ _ e8
  have hrs12 := Same.reps (K := K) sm hrs8
  have hd12 := Same.dr sm hd8
  have s012 := s08.trans sm
  kfm_turns
  refine .inr ⟨linesS ls, rfl, by omega, hgt, ?_⟩
  rw [hgr]
  intro p2 xs2 H13 s13 hp2 ep2 hr13
  have hxl2 := reps_len hr13
  kfm_turns
  refine ⟨.lst rs, _, _, rfl, rep_lst ep2 (by omega) hr13, rep_lst (s13 _ _ e12) (by omega) (Same.reps s13 hrs12), hdep, fun H14 s14 => ?_⟩
  kfm_turns
  refine ⟨d, rfl, Same.dr (s13.trans s14) hd12, fun bd bv H15 s15 hbv hbp => ?_⟩
  kfm_turns
  refine ⟨bd, bv, rfl, hbv, hbp.1, fun H16 s16 => ?_⟩
  kfm_turns
  refine ⟨s, rfl, by omega, hts, fun v17 H17 s17 hv17 => ?_⟩
  kfm_turns
  rename_i T18 H18 hT18 s18 e18
  have hexp : Rep K H18 (toldOf s) (.ref T18) := by
    rw [htold]
    exact rep_tup (SqT.of e18) (by simp) (reps_cons (rep_str (by decide)) (reps_cons rep_int (reps_cons rep_int reps_nil)))
  refine ⟨_, v17, _, rfl, Same.rep s18 hv17, hexp, told_dep s, fun H19 s19 => ?_⟩
  have s1219 := (((((s13.trans s14).trans s15).trans s16).trans s17).trans s18).trans s19
  have s019 := s012.trans s1219
  have hd19 := Same.dr s1219 hd12
  clear hexp hv17 hbv
  have okg : okT 2240 (linesS ls) := ⟨hgl, textS_mem hgt⟩
  have oks : okT 10000 s := ⟨hsl, textS_mem hts⟩
  have okn : okT 1 ("\n" : Str) := ⟨by decide +kernel, by decide +kernel⟩
  have ok1 : okT 10000 (Txt.slice s none (some (-1))) := by
    refine ⟨Nat.le_trans (PyProof.Txt.length_slice_le _ _ _) hsl, ?_⟩
    rcases List.eq_nil_or_concat (TL.tl s) with e | ⟨l, x, e⟩
    · intro y hy
      have h0 : (Txt.slice s none (some (-1))).length = 0 := by
        have := PyProof.Txt.length_slice_le s none (some (-1))
        have h2 : s.length = 0 := by rw [TL.len_tl, e]; rfl
        omega
      rw [TL.len_tl] at h0
      rw [List.length_eq_zero_iff.mp h0] at hy
      cases hy
    · rw [List.concat_eq_append] at e
      have es : s = SX.S (l ++ [x]) := by rw [← e]
      rw [es, SX.butlast_snoc]
      intro y hy
      have hy' : y ∈ l := hy
      refine oks.2 y ?_
      rw [e]
      exact List.mem_append_left _ hy'
  have ok2 := okT_app okg okn
  kfm_turns
  refine r_sl_s (sz_of (by omega)) ?_
  kfm_turns
  refine ⟨d, 9, rfl, hd19, by decide, by decide, fun z H20 s20 hz hzl => ?_⟩
  kfm_turns
  rename_i R H21 hR s21 e21
  have base := s20.trans s21
  refine forB_rng1 (by decide) (by decide) (fun i σ H' => Same H20 H' ∧ (∃ zs : List Str, H' R = some (.lst (zs.map V.str)) ∧ zs.length = 4 + i ∧ ∀ z ∈ zs, okT 200000 z) ∧ ∃ y9, σ = [some (.ref a0), some d, some (.ref A), some (.str s), some (.int n), some (.int c), some (.str (linesS ls)), some (.ref p), some (.ref R), y9, none])
    ⟨s21, ⟨[Txt.slice s none (some (-1)), linesS ls, linesS ls ++ "\n", z], e21, rfl, ?_⟩, _, rfl⟩ ?_ ?_
  · intro x hx
    simp only [List.mem_cons, List.not_mem_nil, or_false] at hx
    rcases hx with rfl | rfl | rfl | rfl
    · exact ⟨by have := ok1.1; omega, ok1.2⟩
    · exact ⟨by omega, okg.2⟩
    · exact ⟨by have := ok2.1; omega, ok2.2⟩
    · exact ⟨by omega, textS_mem hz⟩
  · rintro i σ H' hi ⟨t1, ⟨zs, ez, hzl2, hzs⟩, y9, rfl⟩
    kfm_turns
    refine ⟨d, linesS ls, rfl, Same.dr (s20.trans t1) hd19, by omega, hgt, fun x H22 s22 hxl hxt => ?_⟩
    have ez2 := s22 _ _ ez
    refine s_nil ?_
    refine r_app ez2 (sz_lt (by simp; omega)) ?_
    refine ⟨Same.mut (t1.trans s22) hR, ⟨zs ++ [x], by rw [upd_same]; simp, by simp; omega, ?_⟩, _, rfl⟩
    intro y hy
    rcases List.mem_append.mp hy with hy | hy
    · exact hzs y hy
    · rw [List.mem_singleton.mp hy]
      exact ⟨hxl, textS_mem hxt⟩
  · rintro σ H' ⟨t1, ⟨zs, ez, hzl2, hzs⟩, y9, rfl⟩
    kfm_turns
    refine forB_list (K := K) (xs := zs.map V.str) (SqL.of ez) (fun i σ H'' => Same H' H'' ∧ ∃ y10, σ = [some (.ref a0), some d, some (.ref A), some (.str s), some (.int n), some (.int c), some (.str (linesS ls)), some (.ref p), some (.ref R), y9, y10]) ⟨Same.refl _, _, rfl⟩ (fun i σ H'' _ h => SqL.of (h.1 _ _ ez)) ?_ ?_
    · rintro i x σ H'' hx ⟨t2, y10, rfl⟩
      obtain ⟨x, hx2, rfl⟩ := list_vals hx
      have hxo := hzs x (List.mem_of_getElem? hx2)
      refine s_name (by exact rfl) ?_
      kfm_turns
      have hxl := hxo.1
      refine ⟨x, rfl, by omega, textS_of hxo.2, fun v1 G1 u1 hv1 => ?_⟩
      kfm_turns
      refine ⟨x, rfl, by omega, fun v2 G2 u2 hv2 => ?_⟩
      kfm_turns
      refine ⟨_, v1, v2, rfl, Same.rep u2 hv1, hv2, told_dep x, fun G3 u3 => ?_⟩
      kfm_turns
      exact ⟨((t2.trans u1).trans u2).trans u3, _, rfl⟩
    · rintro σ H'' ⟨t2, y10, rfl⟩
      kfm_turns
      exact q _ (((s019.trans s20).trans t1).trans t2)
end
end AG
namespace AG
open PySem PySem.Spec L2
open PyProof.Rows (envOfC)
section
variable {P : Program} {w : World} {K : PySem.W.Frag} {mg : Str → Option Value} {base : Heap} {C : Cs}
theorem b_init_BadValue {f : Addr} {fd : FuncData} (F : Fun K "__init__" "BadValue.__init__" S_init_BadValue f fd) : Binds K fd ["self", "parameter"] [] := F.binds (ps := ["self", "parameter"]) fun _ _ _ _ _ _ us hl => match us, hl with | [_, _], _ => rfl
theorem ok_init_BadValue {f : Addr} {fd : FuncData} (F : Fun K "__init__" "BadValue.__init__" S_init_BadValue f fd) (G : Glob w K mg C) : FnOk P w K mg base CX0 1 f fd ["self", "parameter"] (sp_init_BadValue K C) :=
  F.ok (k := 0) sc_init_BadValue (fun vs H Q E h => by first | (obtain ⟨rfl, _⟩ := h; rfl) | (obtain ⟨_, rfl, _⟩ := h; rfl) | (obtain ⟨_, _, rfl, _⟩ := h; rfl) | (obtain ⟨_, _, _, rfl, _⟩ := h; rfl) | (obtain ⟨_, _, _, _, rfl, _⟩ := h; rfl) | (obtain ⟨_, _, _, _, _, rfl, _⟩ := h; rfl) | (obtain ⟨_, _, _, _, _, _, rfl, _⟩ := h; rfl) | (obtain ⟨_, _, _, _, _, _, _, rfl, _⟩ := h; rfl) | (obtain ⟨_, _, _, _, _, _, _, _, rfl, _⟩ := h; rfl) | (obtain ⟨_, _, _, _, _, _, _, _, _, rfl, _⟩ := h; rfl) | (obtain ⟨_, _, _, _, _, _, _, _, _, _, rfl, _⟩ := h; rfl) | (obtain ⟨_, _, _, _, _, _, _, _, _, _, _, rfl, _⟩ := h; rfl) | (obtain ⟨_, _, _, _, _, _, _, _, _, _, _, _, rfl, _⟩ := h; rfl)) fun cdv A outer s H vs Q E hr h => ⟨t_init_BadValue K C, d_init_BadValue (n := 0) G hr, p_init_BadValue G vs H Q E h⟩
theorem b_init_BadLine {f : Addr} {fd : FuncData} (F : Fun K "__init__" "BadLine.__init__" S_init_BadLine f fd) : Binds K fd ["self", "line", "column"] [] := F.binds (ps := ["self", "line", "column"]) fun _ _ _ _ _ _ us hl => match us, hl with | [_, _, _], _ => rfl
theorem ok_init_BadLine {f : Addr} {fd : FuncData} (F : Fun K "__init__" "BadLine.__init__" S_init_BadLine f fd) (G : Glob w K mg C) : FnOk P w K mg base CX0 1 f fd ["self", "line", "column"] (sp_init_BadLine K C) :=
  F.ok (k := 0) sc_init_BadLine (fun vs H Q E h => by first | (obtain ⟨rfl, _⟩ := h; rfl) | (obtain ⟨_, rfl, _⟩ := h; rfl) | (obtain ⟨_, _, rfl, _⟩ := h; rfl) | (obtain ⟨_, _, _, rfl, _⟩ := h; rfl) | (obtain ⟨_, _, _, _, rfl, _⟩ := h; rfl) | (obtain ⟨_, _, _, _, _, rfl, _⟩ := h; rfl) | (obtain ⟨_, _, _, _, _, _, rfl, _⟩ := h; rfl) | (obtain ⟨_, _, _, _, _, _, _, rfl, _⟩ := h; rfl) | (obtain ⟨_, _, _, _, _, _, _, _, rfl, _⟩ := h; rfl) | (obtain ⟨_, _, _, _, _, _, _, _, _, rfl, _⟩ := h; rfl) | (obtain ⟨_, _, _, _, _, _, _, _, _, _, rfl, _⟩ := h; rfl) | (obtain ⟨_, _, _, _, _, _, _, _, _, _, _, rfl, _⟩ := h; rfl) | (obtain ⟨_, _, _, _, _, _, _, _, _, _, _, _, rfl, _⟩ := h; rfl)) fun cdv A outer s H vs Q E hr h => ⟨t_init_BadLine K C, d_init_BadLine (n := 0) G hr, p_init_BadLine G vs H Q E h⟩
theorem b_is_whole {f : Addr} {fd : FuncData} (F : Fun K "is_whole" "is_whole" S_is_whole f fd) : Binds K fd ["value"] [] := F.binds (ps := ["value"]) fun _ _ _ _ _ _ us hl => match us, hl with | [_], _ => rfl
theorem ok_is_whole {f : Addr} {fd : FuncData} (F : Fun K "is_whole" "is_whole" S_is_whole f fd) (G : Glob w K mg C) : FnOk P w K mg base CX0 1 f fd ["value"] (sp_is_whole K C) :=
  F.ok (k := 0) sc_is_whole (fun vs H Q E h => by first | (obtain ⟨rfl, _⟩ := h; rfl) | (obtain ⟨_, rfl, _⟩ := h; rfl) | (obtain ⟨_, _, rfl, _⟩ := h; rfl) | (obtain ⟨_, _, _, rfl, _⟩ := h; rfl) | (obtain ⟨_, _, _, _, rfl, _⟩ := h; rfl) | (obtain ⟨_, _, _, _, _, rfl, _⟩ := h; rfl) | (obtain ⟨_, _, _, _, _, _, rfl, _⟩ := h; rfl) | (obtain ⟨_, _, _, _, _, _, _, rfl, _⟩ := h; rfl) | (obtain ⟨_, _, _, _, _, _, _, _, rfl, _⟩ := h; rfl) | (obtain ⟨_, _, _, _, _, _, _, _, _, rfl, _⟩ := h; rfl) | (obtain ⟨_, _, _, _, _, _, _, _, _, _, rfl, _⟩ := h; rfl) | (obtain ⟨_, _, _, _, _, _, _, _, _, _, _, rfl, _⟩ := h; rfl) | (obtain ⟨_, _, _, _, _, _, _, _, _, _, _, _, rfl, _⟩ := h; rfl)) fun cdv A outer s H vs Q E hr h => ⟨t_is_whole K C, d_is_whole (n := 0) G hr, p_is_whole vs H Q E h⟩
theorem b_is_power {f : Addr} {fd : FuncData} (F : Fun K "is_power" "is_power" S_is_power f fd) : Binds K fd ["value"] [] := F.binds (ps := ["value"]) fun _ _ _ _ _ _ us hl => match us, hl with | [_], _ => rfl
theorem ok_is_power {f : Addr} {fd : FuncData} (F : Fun K "is_power" "is_power" S_is_power f fd) (G : Glob w K mg C) (c_is_whole : Cal P w K mg base 1 "is_whole" (sp_is_whole K C)) : FnOk P w K mg base CX0 2 f fd ["value"] (sp_is_power K C) :=
  F.ok (k := 1) sc_is_power (fun vs H Q E h => by first | (obtain ⟨rfl, _⟩ := h; rfl) | (obtain ⟨_, rfl, _⟩ := h; rfl) | (obtain ⟨_, _, rfl, _⟩ := h; rfl) | (obtain ⟨_, _, _, rfl, _⟩ := h; rfl) | (obtain ⟨_, _, _, _, rfl, _⟩ := h; rfl) | (obtain ⟨_, _, _, _, _, rfl, _⟩ := h; rfl) | (obtain ⟨_, _, _, _, _, _, rfl, _⟩ := h; rfl) | (obtain ⟨_, _, _, _, _, _, _, rfl, _⟩ := h; rfl) | (obtain ⟨_, _, _, _, _, _, _, _, rfl, _⟩ := h; rfl) | (obtain ⟨_, _, _, _, _, _, _, _, _, rfl, _⟩ := h; rfl) | (obtain ⟨_, _, _, _, _, _, _, _, _, _, rfl, _⟩ := h; rfl) | (obtain ⟨_, _, _, _, _, _, _, _, _, _, _, rfl, _⟩ := h; rfl) | (obtain ⟨_, _, _, _, _, _, _, _, _, _, _, _, rfl, _⟩ := h; rfl)) fun cdv A outer s H vs Q E hr h => ⟨t_is_power K C, d_is_power (n := 0) G c_is_whole hr, p_is_power vs H Q E h⟩
theorem b_is_name {f : Addr} {fd : FuncData} (F : Fun K "is_name" "is_name" S_is_name f fd) : Binds K fd ["value"] [] := F.binds (ps := ["value"]) fun _ _ _ _ _ _ us hl => match us, hl with | [_], _ => rfl
theorem ok_is_name {f : Addr} {fd : FuncData} (F : Fun K "is_name" "is_name" S_is_name f fd) (G : Glob w K mg C) : FnOk P w K mg base CX0 1 f fd ["value"] (sp_is_name K C) :=
  F.ok (k := 0) sc_is_name (fun vs H Q E h => by first | (obtain ⟨rfl, _⟩ := h; rfl) | (obtain ⟨_, rfl, _⟩ := h; rfl) | (obtain ⟨_, _, rfl, _⟩ := h; rfl) | (obtain ⟨_, _, _, rfl, _⟩ := h; rfl) | (obtain ⟨_, _, _, _, rfl, _⟩ := h; rfl) | (obtain ⟨_, _, _, _, _, rfl, _⟩ := h; rfl) | (obtain ⟨_, _, _, _, _, _, rfl, _⟩ := h; rfl) | (obtain ⟨_, _, _, _, _, _, _, rfl, _⟩ := h; rfl) | (obtain ⟨_, _, _, _, _, _, _, _, rfl, _⟩ := h; rfl) | (obtain ⟨_, _, _, _, _, _, _, _, _, rfl, _⟩ := h; rfl) | (obtain ⟨_, _, _, _, _, _, _, _, _, _, rfl, _⟩ := h; rfl) | (obtain ⟨_, _, _, _, _, _, _, _, _, _, _, rfl, _⟩ := h; rfl) | (obtain ⟨_, _, _, _, _, _, _, _, _, _, _, _, rfl, _⟩ := h; rfl)) fun cdv A outer s H vs Q E hr h => ⟨t_is_name K C, d_is_name (n := 0) G hr, p_is_name vs H Q E h⟩
theorem b_is_part {f : Addr} {fd : FuncData} (F : Fun K "is_part" "is_part" S_is_part f fd) : Binds K fd ["role", "value"] [] := F.binds (ps := ["role", "value"]) fun _ _ _ _ _ _ us hl => match us, hl with | [_, _], _ => rfl
theorem ok_is_part {f : Addr} {fd : FuncData} (F : Fun K "is_part" "is_part" S_is_part f fd) (G : Glob w K mg C) (c_is_name : Cal P w K mg base 1 "is_name" (sp_is_name K C)) (c_is_whole : Cal P w K mg base 1 "is_whole" (sp_is_whole K C)) (c_is_power : Cal P w K mg base 2 "is_power" (sp_is_power K C)) : FnOk P w K mg base CX0 3 f fd ["role", "value"] (sp_is_part K C) :=
  F.ok (k := 2) sc_is_part (fun vs H Q E h => by first | (obtain ⟨rfl, _⟩ := h; rfl) | (obtain ⟨_, rfl, _⟩ := h; rfl) | (obtain ⟨_, _, rfl, _⟩ := h; rfl) | (obtain ⟨_, _, _, rfl, _⟩ := h; rfl) | (obtain ⟨_, _, _, _, rfl, _⟩ := h; rfl) | (obtain ⟨_, _, _, _, _, rfl, _⟩ := h; rfl) | (obtain ⟨_, _, _, _, _, _, rfl, _⟩ := h; rfl) | (obtain ⟨_, _, _, _, _, _, _, rfl, _⟩ := h; rfl) | (obtain ⟨_, _, _, _, _, _, _, _, rfl, _⟩ := h; rfl) | (obtain ⟨_, _, _, _, _, _, _, _, _, rfl, _⟩ := h; rfl) | (obtain ⟨_, _, _, _, _, _, _, _, _, _, rfl, _⟩ := h; rfl) | (obtain ⟨_, _, _, _, _, _, _, _, _, _, _, rfl, _⟩ := h; rfl) | (obtain ⟨_, _, _, _, _, _, _, _, _, _, _, _, rfl, _⟩ := h; rfl)) fun cdv A outer s H vs Q E hr h => ⟨t_is_part K C, d_is_part (n := 0) G c_is_name c_is_whole c_is_power hr, p_is_part vs H Q E h⟩
theorem b_is_text {f : Addr} {fd : FuncData} (F : Fun K "is_text" "is_text" S_is_text f fd) : Binds K fd ["value"] [] := F.binds (ps := ["value"]) fun _ _ _ _ _ _ us hl => match us, hl with | [_], _ => rfl
theorem ok_is_text {f : Addr} {fd : FuncData} (F : Fun K "is_text" "is_text" S_is_text f fd) (G : Glob w K mg C) : FnOk P w K mg base CX0 1 f fd ["value"] (sp_is_text K C) :=
  F.ok (k := 0) sc_is_text (fun vs H Q E h => by first | (obtain ⟨rfl, _⟩ := h; rfl) | (obtain ⟨_, rfl, _⟩ := h; rfl) | (obtain ⟨_, _, rfl, _⟩ := h; rfl) | (obtain ⟨_, _, _, rfl, _⟩ := h; rfl) | (obtain ⟨_, _, _, _, rfl, _⟩ := h; rfl) | (obtain ⟨_, _, _, _, _, rfl, _⟩ := h; rfl) | (obtain ⟨_, _, _, _, _, _, rfl, _⟩ := h; rfl) | (obtain ⟨_, _, _, _, _, _, _, rfl, _⟩ := h; rfl) | (obtain ⟨_, _, _, _, _, _, _, _, rfl, _⟩ := h; rfl) | (obtain ⟨_, _, _, _, _, _, _, _, _, rfl, _⟩ := h; rfl) | (obtain ⟨_, _, _, _, _, _, _, _, _, _, rfl, _⟩ := h; rfl) | (obtain ⟨_, _, _, _, _, _, _, _, _, _, _, rfl, _⟩ := h; rfl) | (obtain ⟨_, _, _, _, _, _, _, _, _, _, _, _, rfl, _⟩ := h; rfl)) fun cdv A outer s H vs Q E hr h => ⟨t_is_text K C, d_is_text (n := 0) G hr, p_is_text vs H Q E h⟩
theorem b_is_number_word {f : Addr} {fd : FuncData} (F : Fun K "is_number_word" "is_number_word" S_is_number_word f fd) : Binds K fd ["word"] [] := F.binds (ps := ["word"]) fun _ _ _ _ _ _ us hl => match us, hl with | [_], _ => rfl
theorem ok_is_number_word {f : Addr} {fd : FuncData} (F : Fun K "is_number_word" "is_number_word" S_is_number_word f fd) (G : Glob w K mg C) : FnOk P w K mg base CX0 1 f fd ["word"] (sp_is_number_word K C) :=
  F.ok (k := 0) sc_is_number_word (fun vs H Q E h => by first | (obtain ⟨rfl, _⟩ := h; rfl) | (obtain ⟨_, rfl, _⟩ := h; rfl) | (obtain ⟨_, _, rfl, _⟩ := h; rfl) | (obtain ⟨_, _, _, rfl, _⟩ := h; rfl) | (obtain ⟨_, _, _, _, rfl, _⟩ := h; rfl) | (obtain ⟨_, _, _, _, _, rfl, _⟩ := h; rfl) | (obtain ⟨_, _, _, _, _, _, rfl, _⟩ := h; rfl) | (obtain ⟨_, _, _, _, _, _, _, rfl, _⟩ := h; rfl) | (obtain ⟨_, _, _, _, _, _, _, _, rfl, _⟩ := h; rfl) | (obtain ⟨_, _, _, _, _, _, _, _, _, rfl, _⟩ := h; rfl) | (obtain ⟨_, _, _, _, _, _, _, _, _, _, rfl, _⟩ := h; rfl) | (obtain ⟨_, _, _, _, _, _, _, _, _, _, _, rfl, _⟩ := h; rfl) | (obtain ⟨_, _, _, _, _, _, _, _, _, _, _, _, rfl, _⟩ := h; rfl)) fun cdv A outer s H vs Q E hr h => ⟨t_is_number_word K C, d_is_number_word (n := 0) G hr, p_is_number_word vs H Q E h⟩
theorem b_is_written_part {f : Addr} {fd : FuncData} (F : Fun K "is_written_part" "is_written_part" S_is_written_part f fd) : Binds K fd ["role", "word"] [] := F.binds (ps := ["role", "word"]) fun _ _ _ _ _ _ us hl => match us, hl with | [_, _], _ => rfl
theorem ok_is_written_part {f : Addr} {fd : FuncData} (F : Fun K "is_written_part" "is_written_part" S_is_written_part f fd) (G : Glob w K mg C) (c_is_name : Cal P w K mg base 1 "is_name" (sp_is_name K C)) (c_is_number_word : Cal P w K mg base 1 "is_number_word" (sp_is_number_word K C)) (c_is_part : Cal P w K mg base 3 "is_part" (sp_is_part K C)) : FnOk P w K mg base CX0 4 f fd ["role", "word"] (sp_is_written_part K C) :=
  F.ok (k := 3) sc_is_written_part (fun vs H Q E h => by first | (obtain ⟨rfl, _⟩ := h; rfl) | (obtain ⟨_, rfl, _⟩ := h; rfl) | (obtain ⟨_, _, rfl, _⟩ := h; rfl) | (obtain ⟨_, _, _, rfl, _⟩ := h; rfl) | (obtain ⟨_, _, _, _, rfl, _⟩ := h; rfl) | (obtain ⟨_, _, _, _, _, rfl, _⟩ := h; rfl) | (obtain ⟨_, _, _, _, _, _, rfl, _⟩ := h; rfl) | (obtain ⟨_, _, _, _, _, _, _, rfl, _⟩ := h; rfl) | (obtain ⟨_, _, _, _, _, _, _, _, rfl, _⟩ := h; rfl) | (obtain ⟨_, _, _, _, _, _, _, _, _, rfl, _⟩ := h; rfl) | (obtain ⟨_, _, _, _, _, _, _, _, _, _, rfl, _⟩ := h; rfl) | (obtain ⟨_, _, _, _, _, _, _, _, _, _, _, rfl, _⟩ := h; rfl) | (obtain ⟨_, _, _, _, _, _, _, _, _, _, _, _, rfl, _⟩ := h; rfl)) fun cdv A outer s H vs Q E hr h => ⟨t_is_written_part K C, d_is_written_part (n := 0) G c_is_name c_is_number_word c_is_part hr, p_is_written_part vs H Q E h⟩
theorem b_wrong_word {f : Addr} {fd : FuncData} (F : Fun K "wrong_word" "wrong_word" S_wrong_word f fd) : Binds K fd ["words"] [] := F.binds (ps := ["words"]) fun _ _ _ _ _ _ us hl => match us, hl with | [_], _ => rfl
theorem ok_wrong_word {f : Addr} {fd : FuncData} (F : Fun K "wrong_word" "wrong_word" S_wrong_word f fd) (G : Glob w K mg C) (c_is_written_part : Cal P w K mg base 4 "is_written_part" (sp_is_written_part K C)) : FnOk P w K mg base CX0 5 f fd ["words"] (sp_wrong_word K C) :=
  F.ok (k := 4) sc_wrong_word (fun vs H Q E h => by first | (obtain ⟨rfl, _⟩ := h; rfl) | (obtain ⟨_, rfl, _⟩ := h; rfl) | (obtain ⟨_, _, rfl, _⟩ := h; rfl) | (obtain ⟨_, _, _, rfl, _⟩ := h; rfl) | (obtain ⟨_, _, _, _, rfl, _⟩ := h; rfl) | (obtain ⟨_, _, _, _, _, rfl, _⟩ := h; rfl) | (obtain ⟨_, _, _, _, _, _, rfl, _⟩ := h; rfl) | (obtain ⟨_, _, _, _, _, _, _, rfl, _⟩ := h; rfl) | (obtain ⟨_, _, _, _, _, _, _, _, rfl, _⟩ := h; rfl) | (obtain ⟨_, _, _, _, _, _, _, _, _, rfl, _⟩ := h; rfl) | (obtain ⟨_, _, _, _, _, _, _, _, _, _, rfl, _⟩ := h; rfl) | (obtain ⟨_, _, _, _, _, _, _, _, _, _, _, rfl, _⟩ := h; rfl) | (obtain ⟨_, _, _, _, _, _, _, _, _, _, _, _, rfl, _⟩ := h; rfl)) fun cdv A outer s H vs Q E hr h => ⟨t_wrong_word K C, d_wrong_word (n := 0) G c_is_written_part hr, p_wrong_word vs H Q E h⟩
theorem b_column_of {f : Addr} {fd : FuncData} (F : Fun K "column_of" "column_of" S_column_of f fd) : Binds K fd ["words", "at"] [] := F.binds (ps := ["words", "at"]) fun _ _ _ _ _ _ us hl => match us, hl with | [_, _], _ => rfl
theorem ok_column_of {f : Addr} {fd : FuncData} (F : Fun K "column_of" "column_of" S_column_of f fd) (G : Glob w K mg C) : FnOk P w K mg base CX0 1 f fd ["words", "at"] (sp_column_of K C) :=
  F.ok (k := 0) sc_column_of (fun vs H Q E h => by first | (obtain ⟨rfl, _⟩ := h; rfl) | (obtain ⟨_, rfl, _⟩ := h; rfl) | (obtain ⟨_, _, rfl, _⟩ := h; rfl) | (obtain ⟨_, _, _, rfl, _⟩ := h; rfl) | (obtain ⟨_, _, _, _, rfl, _⟩ := h; rfl) | (obtain ⟨_, _, _, _, _, rfl, _⟩ := h; rfl) | (obtain ⟨_, _, _, _, _, _, rfl, _⟩ := h; rfl) | (obtain ⟨_, _, _, _, _, _, _, rfl, _⟩ := h; rfl) | (obtain ⟨_, _, _, _, _, _, _, _, rfl, _⟩ := h; rfl) | (obtain ⟨_, _, _, _, _, _, _, _, _, rfl, _⟩ := h; rfl) | (obtain ⟨_, _, _, _, _, _, _, _, _, _, rfl, _⟩ := h; rfl) | (obtain ⟨_, _, _, _, _, _, _, _, _, _, _, rfl, _⟩ := h; rfl) | (obtain ⟨_, _, _, _, _, _, _, _, _, _, _, _, rfl, _⟩ := h; rfl)) fun cdv A outer s H vs Q E hr h => ⟨t_column_of K C, d_column_of (n := 0) G hr, p_column_of vs H Q E h⟩
theorem b_least_words {f : Addr} {fd : FuncData} (F : Fun K "least_words" "least_words" S_least_words f fd) : Binds K fd ["word"] [] := F.binds (ps := ["word"]) fun _ _ _ _ _ _ us hl => match us, hl with | [_], _ => rfl
theorem ok_least_words {f : Addr} {fd : FuncData} (F : Fun K "least_words" "least_words" S_least_words f fd) (G : Glob w K mg C) : FnOk P w K mg base CX0 1 f fd ["word"] (sp_least_words K C) :=
  F.ok (k := 0) sc_least_words (fun vs H Q E h => by first | (obtain ⟨rfl, _⟩ := h; rfl) | (obtain ⟨_, rfl, _⟩ := h; rfl) | (obtain ⟨_, _, rfl, _⟩ := h; rfl) | (obtain ⟨_, _, _, rfl, _⟩ := h; rfl) | (obtain ⟨_, _, _, _, rfl, _⟩ := h; rfl) | (obtain ⟨_, _, _, _, _, rfl, _⟩ := h; rfl) | (obtain ⟨_, _, _, _, _, _, rfl, _⟩ := h; rfl) | (obtain ⟨_, _, _, _, _, _, _, rfl, _⟩ := h; rfl) | (obtain ⟨_, _, _, _, _, _, _, _, rfl, _⟩ := h; rfl) | (obtain ⟨_, _, _, _, _, _, _, _, _, rfl, _⟩ := h; rfl) | (obtain ⟨_, _, _, _, _, _, _, _, _, _, rfl, _⟩ := h; rfl) | (obtain ⟨_, _, _, _, _, _, _, _, _, _, _, rfl, _⟩ := h; rfl) | (obtain ⟨_, _, _, _, _, _, _, _, _, _, _, _, rfl, _⟩ := h; rfl)) fun cdv A outer s H vs Q E hr h => ⟨t_least_words K C, d_least_words (n := 0) G hr, p_least_words vs H Q E h⟩
theorem b_request_of {f : Addr} {fd : FuncData} (F : Fun K "request_of" "request_of" S_request_of f fd) : Binds K fd ["words"] [] := F.binds (ps := ["words"]) fun _ _ _ _ _ _ us hl => match us, hl with | [_], _ => rfl
theorem ok_request_of {f : Addr} {fd : FuncData} (F : Fun K "request_of" "request_of" S_request_of f fd) (G : Glob w K mg C) : FnOk P w K mg base CX0 1 f fd ["words"] (sp_request_of K C) :=
  F.ok (k := 0) sc_request_of (fun vs H Q E h => by first | (obtain ⟨rfl, _⟩ := h; rfl) | (obtain ⟨_, rfl, _⟩ := h; rfl) | (obtain ⟨_, _, rfl, _⟩ := h; rfl) | (obtain ⟨_, _, _, rfl, _⟩ := h; rfl) | (obtain ⟨_, _, _, _, rfl, _⟩ := h; rfl) | (obtain ⟨_, _, _, _, _, rfl, _⟩ := h; rfl) | (obtain ⟨_, _, _, _, _, _, rfl, _⟩ := h; rfl) | (obtain ⟨_, _, _, _, _, _, _, rfl, _⟩ := h; rfl) | (obtain ⟨_, _, _, _, _, _, _, _, rfl, _⟩ := h; rfl) | (obtain ⟨_, _, _, _, _, _, _, _, _, rfl, _⟩ := h; rfl) | (obtain ⟨_, _, _, _, _, _, _, _, _, _, rfl, _⟩ := h; rfl) | (obtain ⟨_, _, _, _, _, _, _, _, _, _, _, rfl, _⟩ := h; rfl) | (obtain ⟨_, _, _, _, _, _, _, _, _, _, _, _, rfl, _⟩ := h; rfl)) fun cdv A outer s H vs Q E hr h => ⟨t_request_of K C, d_request_of (n := 0) G hr, p_request_of vs H Q E h⟩
theorem b_parse_requests {f : Addr} {fd : FuncData} (F : Fun K "parse_requests" "parse_requests" S_parse_requests f fd) : Binds K fd ["text"] [] := F.binds (ps := ["text"]) fun _ _ _ _ _ _ us hl => match us, hl with | [_], _ => rfl
theorem ok_parse_requests {f : Addr} {fd : FuncData} (F : Fun K "parse_requests" "parse_requests" S_parse_requests f fd) (G : Glob w K mg C) (x_BadValue : ExMk P w K mg base C.cBadValue "BadValue" (sp_init_BadValue K C)) (x_BadLine : ExMk P w K mg base C.cBadLine "BadLine" (sp_init_BadLine K C)) (c_is_text : Cal P w K mg base 1 "is_text" (sp_is_text K C)) (c_request_of : Cal P w K mg base 1 "request_of" (sp_request_of K C)) (c_least_words : Cal P w K mg base 1 "least_words" (sp_least_words K C)) (c_column_of : Cal P w K mg base 1 "column_of" (sp_column_of K C)) (c_wrong_word : Cal P w K mg base 5 "wrong_word" (sp_wrong_word K C)) : FnOk P w K mg base (L2N.CX P w) 6 f fd ["text"] (sp_parse_requests K C) :=
  okN (k := 5) F sc_parse_requests (fun vs H Q E h => by rcases h with ⟨_, _, rfl, _⟩ | ⟨_, rfl, _⟩ <;> rfl) fun cdv A outer s H vs Q E hr h => ⟨t_parse_requests K C E, d_parse_requests (n := 0) G x_BadValue x_BadLine c_is_text c_request_of c_least_words c_column_of c_wrong_word hr, p_parse_requests vs H Q E h⟩
theorem b_law_draws {f : Addr} {fd : FuncData} (F : Fun K "_law_draws" "_law_draws" S_law_draws f fd) : Binds K fd ["_law_script"] [] := F.binds (ps := ["_law_script"]) fun _ _ _ _ _ _ us hl => match us, hl with | [_], _ => rfl
theorem ok_law_draws {f : Addr} {fd : FuncData} (F : Fun K "_law_draws" "_law_draws" S_law_draws f fd) (G : Glob w K mg C) : FnOk P w K mg base CX0 1 f fd ["_law_script"] (sp_law_draws K C) :=
  F.ok (k := 0) sc_law_draws (fun vs H Q E h => by first | (obtain ⟨rfl, _⟩ := h; rfl) | (obtain ⟨_, rfl, _⟩ := h; rfl) | (obtain ⟨_, _, rfl, _⟩ := h; rfl) | (obtain ⟨_, _, _, rfl, _⟩ := h; rfl) | (obtain ⟨_, _, _, _, rfl, _⟩ := h; rfl) | (obtain ⟨_, _, _, _, _, rfl, _⟩ := h; rfl) | (obtain ⟨_, _, _, _, _, _, rfl, _⟩ := h; rfl) | (obtain ⟨_, _, _, _, _, _, _, rfl, _⟩ := h; rfl) | (obtain ⟨_, _, _, _, _, _, _, _, rfl, _⟩ := h; rfl) | (obtain ⟨_, _, _, _, _, _, _, _, _, rfl, _⟩ := h; rfl) | (obtain ⟨_, _, _, _, _, _, _, _, _, _, rfl, _⟩ := h; rfl) | (obtain ⟨_, _, _, _, _, _, _, _, _, _, _, rfl, _⟩ := h; rfl) | (obtain ⟨_, _, _, _, _, _, _, _, _, _, _, _, rfl, _⟩ := h; rfl)) fun cdv A outer s H vs Q E hr h => ⟨t_law_draws K C, d_law_draws (n := 0) G hr, p_law_draws vs H Q E h⟩
theorem b_law_next_cell {f : Addr} {fd : FuncData} (F : Fun K "_law_next_cell" "_law_next_cell" S_law_next_cell f fd) : Binds K fd ["_law_draws_here"] [] := F.binds (ps := ["_law_draws_here"]) fun _ _ _ _ _ _ us hl => match us, hl with | [_], _ => rfl
theorem ok_law_next_cell {f : Addr} {fd : FuncData} (F : Fun K "_law_next_cell" "_law_next_cell" S_law_next_cell f fd) (G : Glob w K mg C) : FnOk P w K mg base CX0 1 f fd ["_law_draws_here"] (sp_law_next_cell K C) :=
  F.ok (k := 0) sc_law_next_cell (fun vs H Q E h => by first | (obtain ⟨rfl, _⟩ := h; rfl) | (obtain ⟨_, rfl, _⟩ := h; rfl) | (obtain ⟨_, _, rfl, _⟩ := h; rfl) | (obtain ⟨_, _, _, rfl, _⟩ := h; rfl) | (obtain ⟨_, _, _, _, rfl, _⟩ := h; rfl) | (obtain ⟨_, _, _, _, _, rfl, _⟩ := h; rfl) | (obtain ⟨_, _, _, _, _, _, rfl, _⟩ := h; rfl) | (obtain ⟨_, _, _, _, _, _, _, rfl, _⟩ := h; rfl) | (obtain ⟨_, _, _, _, _, _, _, _, rfl, _⟩ := h; rfl) | (obtain ⟨_, _, _, _, _, _, _, _, _, rfl, _⟩ := h; rfl) | (obtain ⟨_, _, _, _, _, _, _, _, _, _, rfl, _⟩ := h; rfl) | (obtain ⟨_, _, _, _, _, _, _, _, _, _, _, rfl, _⟩ := h; rfl) | (obtain ⟨_, _, _, _, _, _, _, _, _, _, _, _, rfl, _⟩ := h; rfl)) fun cdv A outer s H vs Q E hr h => ⟨t_law_next_cell K C, d_law_next_cell (n := 0) G hr, p_law_next_cell vs H Q E h⟩
theorem b_law_mixed {f : Addr} {fd : FuncData} (F : Fun K "_law_mixed" "_law_mixed" S_law_mixed f fd) : Binds K fd ["_law_seed", "_law_turn", "_law_many"] [] := F.binds (ps := ["_law_seed", "_law_turn", "_law_many"]) fun _ _ _ _ _ _ us hl => match us, hl with | [_, _, _], _ => rfl
theorem ok_law_mixed {f : Addr} {fd : FuncData} (F : Fun K "_law_mixed" "_law_mixed" S_law_mixed f fd) (G : Glob w K mg C) : FnOk P w K mg base CX0 1 f fd ["_law_seed", "_law_turn", "_law_many"] (sp_law_mixed K C) :=
  F.ok (k := 0) sc_law_mixed (fun vs H Q E h => by first | (obtain ⟨rfl, _⟩ := h; rfl) | (obtain ⟨_, rfl, _⟩ := h; rfl) | (obtain ⟨_, _, rfl, _⟩ := h; rfl) | (obtain ⟨_, _, _, rfl, _⟩ := h; rfl) | (obtain ⟨_, _, _, _, rfl, _⟩ := h; rfl) | (obtain ⟨_, _, _, _, _, rfl, _⟩ := h; rfl) | (obtain ⟨_, _, _, _, _, _, rfl, _⟩ := h; rfl) | (obtain ⟨_, _, _, _, _, _, _, rfl, _⟩ := h; rfl) | (obtain ⟨_, _, _, _, _, _, _, _, rfl, _⟩ := h; rfl) | (obtain ⟨_, _, _, _, _, _, _, _, _, rfl, _⟩ := h; rfl) | (obtain ⟨_, _, _, _, _, _, _, _, _, _, rfl, _⟩ := h; rfl) | (obtain ⟨_, _, _, _, _, _, _, _, _, _, _, rfl, _⟩ := h; rfl) | (obtain ⟨_, _, _, _, _, _, _, _, _, _, _, _, rfl, _⟩ := h; rfl)) fun cdv A outer s H vs Q E hr h => ⟨t_law_mixed K C, d_law_mixed (n := 0) G hr, p_law_mixed vs H Q E h⟩
theorem b_law_take {f : Addr} {fd : FuncData} (F : Fun K "_law_take" "_law_take" S_law_take f fd) : Binds K fd ["_law_draws_here", "_law_many"] [] := F.binds (ps := ["_law_draws_here", "_law_many"]) fun _ _ _ _ _ _ us hl => match us, hl with | [_, _], _ => rfl
theorem ok_law_take {f : Addr} {fd : FuncData} (F : Fun K "_law_take" "_law_take" S_law_take f fd) (G : Glob w K mg C) (c_law_next_cell : Cal P w K mg base 1 "_law_next_cell" (sp_law_next_cell K C)) (c_law_mixed : Cal P w K mg base 1 "_law_mixed" (sp_law_mixed K C)) : FnOk P w K mg base CX0 2 f fd ["_law_draws_here", "_law_many"] (sp_law_take K C) :=
  F.ok (k := 1) sc_law_take (fun vs H Q E h => by first | (obtain ⟨rfl, _⟩ := h; rfl) | (obtain ⟨_, rfl, _⟩ := h; rfl) | (obtain ⟨_, _, rfl, _⟩ := h; rfl) | (obtain ⟨_, _, _, rfl, _⟩ := h; rfl) | (obtain ⟨_, _, _, _, rfl, _⟩ := h; rfl) | (obtain ⟨_, _, _, _, _, rfl, _⟩ := h; rfl) | (obtain ⟨_, _, _, _, _, _, rfl, _⟩ := h; rfl) | (obtain ⟨_, _, _, _, _, _, _, rfl, _⟩ := h; rfl) | (obtain ⟨_, _, _, _, _, _, _, _, rfl, _⟩ := h; rfl) | (obtain ⟨_, _, _, _, _, _, _, _, _, rfl, _⟩ := h; rfl) | (obtain ⟨_, _, _, _, _, _, _, _, _, _, rfl, _⟩ := h; rfl) | (obtain ⟨_, _, _, _, _, _, _, _, _, _, _, rfl, _⟩ := h; rfl) | (obtain ⟨_, _, _, _, _, _, _, _, _, _, _, _, rfl, _⟩ := h; rfl)) fun cdv A outer s H vs Q E hr h => ⟨t_law_take K C, d_law_take (n := 0) G c_law_next_cell c_law_mixed hr, p_law_take vs H Q E h⟩
theorem b_law_among {f : Addr} {fd : FuncData} (F : Fun K "_law_among" "_law_among" S_law_among f fd) : Binds K fd ["_law_draws_here", "_law_row"] [] := F.binds (ps := ["_law_draws_here", "_law_row"]) fun _ _ _ _ _ _ us hl => match us, hl with | [_, _], _ => rfl
theorem ok_law_among {f : Addr} {fd : FuncData} (F : Fun K "_law_among" "_law_among" S_law_among f fd) (G : Glob w K mg C) (c_law_take : Cal P w K mg base 2 "_law_take" (sp_law_take K C)) : FnOk P w K mg base CX0 3 f fd ["_law_draws_here", "_law_row"] (sp_law_among K C) :=
  F.ok (k := 2) sc_law_among (fun vs H Q E h => by first | (obtain ⟨rfl, _⟩ := h; rfl) | (obtain ⟨_, rfl, _⟩ := h; rfl) | (obtain ⟨_, _, rfl, _⟩ := h; rfl) | (obtain ⟨_, _, _, rfl, _⟩ := h; rfl) | (obtain ⟨_, _, _, _, rfl, _⟩ := h; rfl) | (obtain ⟨_, _, _, _, _, rfl, _⟩ := h; rfl) | (obtain ⟨_, _, _, _, _, _, rfl, _⟩ := h; rfl) | (obtain ⟨_, _, _, _, _, _, _, rfl, _⟩ := h; rfl) | (obtain ⟨_, _, _, _, _, _, _, _, rfl, _⟩ := h; rfl) | (obtain ⟨_, _, _, _, _, _, _, _, _, rfl, _⟩ := h; rfl) | (obtain ⟨_, _, _, _, _, _, _, _, _, _, rfl, _⟩ := h; rfl) | (obtain ⟨_, _, _, _, _, _, _, _, _, _, _, rfl, _⟩ := h; rfl) | (obtain ⟨_, _, _, _, _, _, _, _, _, _, _, _, rfl, _⟩ := h; rfl)) fun cdv A outer s H vs Q E hr h => ⟨t_law_among K C, d_law_among (n := 0) G c_law_take hr, p_law_among vs H Q E h⟩
theorem b_law_between {f : Addr} {fd : FuncData} (F : Fun K "_law_between" "_law_between" S_law_between f fd) : Binds K fd ["_law_draws_here", "_law_low", "_law_high"] [] := F.binds (ps := ["_law_draws_here", "_law_low", "_law_high"]) fun _ _ _ _ _ _ us hl => match us, hl with | [_, _, _], _ => rfl
theorem ok_law_between {f : Addr} {fd : FuncData} (F : Fun K "_law_between" "_law_between" S_law_between f fd) (G : Glob w K mg C) (c_law_take : Cal P w K mg base 2 "_law_take" (sp_law_take K C)) : FnOk P w K mg base CX0 3 f fd ["_law_draws_here", "_law_low", "_law_high"] (sp_law_between K C) :=
  F.ok (k := 2) sc_law_between (fun vs H Q E h => by first | (obtain ⟨rfl, _⟩ := h; rfl) | (obtain ⟨_, rfl, _⟩ := h; rfl) | (obtain ⟨_, _, rfl, _⟩ := h; rfl) | (obtain ⟨_, _, _, rfl, _⟩ := h; rfl) | (obtain ⟨_, _, _, _, rfl, _⟩ := h; rfl) | (obtain ⟨_, _, _, _, _, rfl, _⟩ := h; rfl) | (obtain ⟨_, _, _, _, _, _, rfl, _⟩ := h; rfl) | (obtain ⟨_, _, _, _, _, _, _, rfl, _⟩ := h; rfl) | (obtain ⟨_, _, _, _, _, _, _, _, rfl, _⟩ := h; rfl) | (obtain ⟨_, _, _, _, _, _, _, _, _, rfl, _⟩ := h; rfl) | (obtain ⟨_, _, _, _, _, _, _, _, _, _, rfl, _⟩ := h; rfl) | (obtain ⟨_, _, _, _, _, _, _, _, _, _, _, rfl, _⟩ := h; rfl) | (obtain ⟨_, _, _, _, _, _, _, _, _, _, _, _, rfl, _⟩ := h; rfl)) fun cdv A outer s H vs Q E hr h => ⟨t_law_between K C, d_law_between (n := 0) G c_law_take hr, p_law_between vs H Q E h⟩
theorem b_law_number {f : Addr} {fd : FuncData} (F : Fun K "_law_number" "_law_number" S_law_number f fd) : Binds K fd ["_law_draws_here", "_law_low", "_law_high"] [] := F.binds (ps := ["_law_draws_here", "_law_low", "_law_high"]) fun _ _ _ _ _ _ us hl => match us, hl with | [_, _, _], _ => rfl
theorem ok_law_number {f : Addr} {fd : FuncData} (F : Fun K "_law_number" "_law_number" S_law_number f fd) (G : Glob w K mg C) (c_law_between : Cal P w K mg base 3 "_law_between" (sp_law_between K C)) (c_law_take : Cal P w K mg base 2 "_law_take" (sp_law_take K C)) (c_law_alignment : Cal P w K mg base 4 "_law_alignment" (sp_law_alignment K C)) : FnOk P w K mg base CX0 5 f fd ["_law_draws_here", "_law_low", "_law_high"] (sp_law_number K C) :=
  F.ok (k := 4) sc_law_number (fun vs H Q E h => by first | (obtain ⟨rfl, _⟩ := h; rfl) | (obtain ⟨_, rfl, _⟩ := h; rfl) | (obtain ⟨_, _, rfl, _⟩ := h; rfl) | (obtain ⟨_, _, _, rfl, _⟩ := h; rfl) | (obtain ⟨_, _, _, _, rfl, _⟩ := h; rfl) | (obtain ⟨_, _, _, _, _, rfl, _⟩ := h; rfl) | (obtain ⟨_, _, _, _, _, _, rfl, _⟩ := h; rfl) | (obtain ⟨_, _, _, _, _, _, _, rfl, _⟩ := h; rfl) | (obtain ⟨_, _, _, _, _, _, _, _, rfl, _⟩ := h; rfl) | (obtain ⟨_, _, _, _, _, _, _, _, _, rfl, _⟩ := h; rfl) | (obtain ⟨_, _, _, _, _, _, _, _, _, _, rfl, _⟩ := h; rfl) | (obtain ⟨_, _, _, _, _, _, _, _, _, _, _, rfl, _⟩ := h; rfl) | (obtain ⟨_, _, _, _, _, _, _, _, _, _, _, _, rfl, _⟩ := h; rfl)) fun cdv A outer s H vs Q E hr h => ⟨t_law_number K C, d_law_number (n := 0) G c_law_between c_law_take c_law_alignment hr, p_law_number vs H Q E h⟩
theorem b_law_count {f : Addr} {fd : FuncData} (F : Fun K "_law_count" "_law_count" S_law_count f fd) : Binds K fd ["_law_draws_here", "_law_small", "_law_great"] [] := F.binds (ps := ["_law_draws_here", "_law_small", "_law_great"]) fun _ _ _ _ _ _ us hl => match us, hl with | [_, _, _], _ => rfl
theorem ok_law_count {f : Addr} {fd : FuncData} (F : Fun K "_law_count" "_law_count" S_law_count f fd) (G : Glob w K mg C) (c_law_take : Cal P w K mg base 2 "_law_take" (sp_law_take K C)) (c_law_between : Cal P w K mg base 3 "_law_between" (sp_law_between K C)) : FnOk P w K mg base CX0 4 f fd ["_law_draws_here", "_law_small", "_law_great"] (sp_law_count K C) :=
  F.ok (k := 3) sc_law_count (fun vs H Q E h => by first | (obtain ⟨rfl, _⟩ := h; rfl) | (obtain ⟨_, rfl, _⟩ := h; rfl) | (obtain ⟨_, _, rfl, _⟩ := h; rfl) | (obtain ⟨_, _, _, rfl, _⟩ := h; rfl) | (obtain ⟨_, _, _, _, rfl, _⟩ := h; rfl) | (obtain ⟨_, _, _, _, _, rfl, _⟩ := h; rfl) | (obtain ⟨_, _, _, _, _, _, rfl, _⟩ := h; rfl) | (obtain ⟨_, _, _, _, _, _, _, rfl, _⟩ := h; rfl) | (obtain ⟨_, _, _, _, _, _, _, _, rfl, _⟩ := h; rfl) | (obtain ⟨_, _, _, _, _, _, _, _, _, rfl, _⟩ := h; rfl) | (obtain ⟨_, _, _, _, _, _, _, _, _, _, rfl, _⟩ := h; rfl) | (obtain ⟨_, _, _, _, _, _, _, _, _, _, _, rfl, _⟩ := h; rfl) | (obtain ⟨_, _, _, _, _, _, _, _, _, _, _, _, rfl, _⟩ := h; rfl)) fun cdv A outer s H vs Q E hr h => ⟨t_law_count K C, d_law_count (n := 0) G c_law_take c_law_between hr, p_law_count vs H Q E h⟩
theorem b_law_alignment {f : Addr} {fd : FuncData} (F : Fun K "_law_alignment" "_law_alignment" S_law_alignment f fd) : Binds K fd ["_law_draws_here", "_law_most"] [] := F.binds (ps := ["_law_draws_here", "_law_most"]) fun _ _ _ _ _ _ us hl => match us, hl with | [_, _], _ => rfl
theorem ok_law_alignment {f : Addr} {fd : FuncData} (F : Fun K "_law_alignment" "_law_alignment" S_law_alignment f fd) (G : Glob w K mg C) (c_law_between : Cal P w K mg base 3 "_law_between" (sp_law_between K C)) : FnOk P w K mg base CX0 4 f fd ["_law_draws_here", "_law_most"] (sp_law_alignment K C) :=
  F.ok (k := 3) sc_law_alignment (fun vs H Q E h => by first | (obtain ⟨rfl, _⟩ := h; rfl) | (obtain ⟨_, rfl, _⟩ := h; rfl) | (obtain ⟨_, _, rfl, _⟩ := h; rfl) | (obtain ⟨_, _, _, rfl, _⟩ := h; rfl) | (obtain ⟨_, _, _, _, rfl, _⟩ := h; rfl) | (obtain ⟨_, _, _, _, _, rfl, _⟩ := h; rfl) | (obtain ⟨_, _, _, _, _, _, rfl, _⟩ := h; rfl) | (obtain ⟨_, _, _, _, _, _, _, rfl, _⟩ := h; rfl) | (obtain ⟨_, _, _, _, _, _, _, _, rfl, _⟩ := h; rfl) | (obtain ⟨_, _, _, _, _, _, _, _, _, rfl, _⟩ := h; rfl) | (obtain ⟨_, _, _, _, _, _, _, _, _, _, rfl, _⟩ := h; rfl) | (obtain ⟨_, _, _, _, _, _, _, _, _, _, _, rfl, _⟩ := h; rfl) | (obtain ⟨_, _, _, _, _, _, _, _, _, _, _, _, rfl, _⟩ := h; rfl)) fun cdv A outer s H vs Q E hr h => ⟨t_law_alignment K C, d_law_alignment (n := 0) G c_law_between hr, p_law_alignment vs H Q E h⟩
theorem b_law_power {f : Addr} {fd : FuncData} (F : Fun K "_law_power" "_law_power" S_law_power f fd) : Binds K fd ["_law_number_here"] [] := F.binds (ps := ["_law_number_here"]) fun _ _ _ _ _ _ us hl => match us, hl with | [_], _ => rfl
theorem ok_law_power {f : Addr} {fd : FuncData} (F : Fun K "_law_power" "_law_power" S_law_power f fd) (G : Glob w K mg C) : FnOk P w K mg base CX0 1 f fd ["_law_number_here"] (sp_law_power K C) :=
  F.ok (k := 0) sc_law_power (fun vs H Q E h => by first | (obtain ⟨rfl, _⟩ := h; rfl) | (obtain ⟨_, rfl, _⟩ := h; rfl) | (obtain ⟨_, _, rfl, _⟩ := h; rfl) | (obtain ⟨_, _, _, rfl, _⟩ := h; rfl) | (obtain ⟨_, _, _, _, rfl, _⟩ := h; rfl) | (obtain ⟨_, _, _, _, _, rfl, _⟩ := h; rfl) | (obtain ⟨_, _, _, _, _, _, rfl, _⟩ := h; rfl) | (obtain ⟨_, _, _, _, _, _, _, rfl, _⟩ := h; rfl) | (obtain ⟨_, _, _, _, _, _, _, _, rfl, _⟩ := h; rfl) | (obtain ⟨_, _, _, _, _, _, _, _, _, rfl, _⟩ := h; rfl) | (obtain ⟨_, _, _, _, _, _, _, _, _, _, rfl, _⟩ := h; rfl) | (obtain ⟨_, _, _, _, _, _, _, _, _, _, _, rfl, _⟩ := h; rfl) | (obtain ⟨_, _, _, _, _, _, _, _, _, _, _, _, rfl, _⟩ := h; rfl)) fun cdv A outer s H vs Q E hr h => ⟨t_law_power K C, d_law_power (n := 0) G hr, p_law_power vs H Q E h⟩
theorem b_law_chars {f : Addr} {fd : FuncData} (F : Fun K "_law_chars" "_law_chars" S_law_chars f fd) : Binds K fd [] [] := F.binds (ps := []) fun _ _ _ _ _ _ us hl => match us, hl with | [], _ => rfl
theorem ok_law_chars {f : Addr} {fd : FuncData} (F : Fun K "_law_chars" "_law_chars" S_law_chars f fd) (G : Glob w K mg C) : FnOk P w K mg base CX0 1 f fd [] (sp_law_chars K C) :=
  F.ok (k := 0) sc_law_chars (fun vs H Q E h => by first | (obtain ⟨rfl, _⟩ := h; rfl) | (obtain ⟨_, rfl, _⟩ := h; rfl) | (obtain ⟨_, _, rfl, _⟩ := h; rfl) | (obtain ⟨_, _, _, rfl, _⟩ := h; rfl) | (obtain ⟨_, _, _, _, rfl, _⟩ := h; rfl) | (obtain ⟨_, _, _, _, _, rfl, _⟩ := h; rfl) | (obtain ⟨_, _, _, _, _, _, rfl, _⟩ := h; rfl) | (obtain ⟨_, _, _, _, _, _, _, rfl, _⟩ := h; rfl) | (obtain ⟨_, _, _, _, _, _, _, _, rfl, _⟩ := h; rfl) | (obtain ⟨_, _, _, _, _, _, _, _, _, rfl, _⟩ := h; rfl) | (obtain ⟨_, _, _, _, _, _, _, _, _, _, rfl, _⟩ := h; rfl) | (obtain ⟨_, _, _, _, _, _, _, _, _, _, _, rfl, _⟩ := h; rfl) | (obtain ⟨_, _, _, _, _, _, _, _, _, _, _, _, rfl, _⟩ := h; rfl)) fun cdv A outer s H vs Q E hr h => ⟨t_law_chars K C, d_law_chars (n := 0) G hr, p_law_chars vs H Q E h⟩
theorem b_law_text {f : Addr} {fd : FuncData} (F : Fun K "_law_text" "_law_text" S_law_text f fd) : Binds K fd ["_law_draws_here", "_law_most"] [] := F.binds (ps := ["_law_draws_here", "_law_most"]) fun _ _ _ _ _ _ us hl => match us, hl with | [_, _], _ => rfl
theorem ok_law_text {f : Addr} {fd : FuncData} (F : Fun K "_law_text" "_law_text" S_law_text f fd) (G : Glob w K mg C) (c_law_chars : Cal P w K mg base 1 "_law_chars" (sp_law_chars K C)) (c_law_between : Cal P w K mg base 3 "_law_between" (sp_law_between K C)) (c_law_take : Cal P w K mg base 2 "_law_take" (sp_law_take K C)) : FnOk P w K mg base CX0 4 f fd ["_law_draws_here", "_law_most"] (sp_law_text K C) :=
  F.ok (k := 3) sc_law_text (fun vs H Q E h => by first | (obtain ⟨rfl, _⟩ := h; rfl) | (obtain ⟨_, rfl, _⟩ := h; rfl) | (obtain ⟨_, _, rfl, _⟩ := h; rfl) | (obtain ⟨_, _, _, rfl, _⟩ := h; rfl) | (obtain ⟨_, _, _, _, rfl, _⟩ := h; rfl) | (obtain ⟨_, _, _, _, _, rfl, _⟩ := h; rfl) | (obtain ⟨_, _, _, _, _, _, rfl, _⟩ := h; rfl) | (obtain ⟨_, _, _, _, _, _, _, rfl, _⟩ := h; rfl) | (obtain ⟨_, _, _, _, _, _, _, _, rfl, _⟩ := h; rfl) | (obtain ⟨_, _, _, _, _, _, _, _, _, rfl, _⟩ := h; rfl) | (obtain ⟨_, _, _, _, _, _, _, _, _, _, rfl, _⟩ := h; rfl) | (obtain ⟨_, _, _, _, _, _, _, _, _, _, _, rfl, _⟩ := h; rfl) | (obtain ⟨_, _, _, _, _, _, _, _, _, _, _, _, rfl, _⟩ := h; rfl)) fun cdv A outer s H vs Q E hr h => ⟨t_law_text K C, d_law_text (n := 0) G c_law_chars c_law_between c_law_take hr, p_law_text vs H Q E h⟩
theorem b_law_user {f : Addr} {fd : FuncData} (F : Fun K "_law_user" "_law_user" S_law_user f fd) : Binds K fd ["_law_draws_here"] [] := F.binds (ps := ["_law_draws_here"]) fun _ _ _ _ _ _ us hl => match us, hl with | [_], _ => rfl
theorem ok_law_user {f : Addr} {fd : FuncData} (F : Fun K "_law_user" "_law_user" S_law_user f fd) (G : Glob w K mg C) (c_law_between : Cal P w K mg base 3 "_law_between" (sp_law_between K C)) (c_law_take : Cal P w K mg base 2 "_law_take" (sp_law_take K C)) : FnOk P w K mg base CX0 4 f fd ["_law_draws_here"] (sp_law_user K C) :=
  F.ok (k := 3) sc_law_user (fun vs H Q E h => by first | (obtain ⟨rfl, _⟩ := h; rfl) | (obtain ⟨_, rfl, _⟩ := h; rfl) | (obtain ⟨_, _, rfl, _⟩ := h; rfl) | (obtain ⟨_, _, _, rfl, _⟩ := h; rfl) | (obtain ⟨_, _, _, _, rfl, _⟩ := h; rfl) | (obtain ⟨_, _, _, _, _, rfl, _⟩ := h; rfl) | (obtain ⟨_, _, _, _, _, _, rfl, _⟩ := h; rfl) | (obtain ⟨_, _, _, _, _, _, _, rfl, _⟩ := h; rfl) | (obtain ⟨_, _, _, _, _, _, _, _, rfl, _⟩ := h; rfl) | (obtain ⟨_, _, _, _, _, _, _, _, _, rfl, _⟩ := h; rfl) | (obtain ⟨_, _, _, _, _, _, _, _, _, _, rfl, _⟩ := h; rfl) | (obtain ⟨_, _, _, _, _, _, _, _, _, _, _, rfl, _⟩ := h; rfl) | (obtain ⟨_, _, _, _, _, _, _, _, _, _, _, _, rfl, _⟩ := h; rfl)) fun cdv A outer s H vs Q E hr h => ⟨t_law_user K C, d_law_user (n := 0) G c_law_between c_law_take hr, p_law_user vs H Q E h⟩
theorem b_law_same {f : Addr} {fd : FuncData} (F : Fun K "_law_same" "_law_same" S_law_same f fd) : Binds K fd ["_law_actual", "_law_expected"] [] := F.binds (ps := ["_law_actual", "_law_expected"]) fun _ _ _ _ _ _ us hl => match us, hl with | [_, _], _ => rfl
theorem ok_law_same {f : Addr} {fd : FuncData} (F : Fun K "_law_same" "_law_same" S_law_same f fd) (G : Glob w K mg C) (hm : mg "_law_same" = some (.ref f)) : ∀ n : Nat, FnOk P w K mg base CX0 (n + 1) f fd ["_law_actual", "_law_expected"] (sp_law_same K C n)
  | 0 => F.ok (k := 0) sc_law_same (fun vs H Q E h => by first | (obtain ⟨rfl, _⟩ := h; rfl) | (obtain ⟨_, rfl, _⟩ := h; rfl) | (obtain ⟨_, _, rfl, _⟩ := h; rfl) | (obtain ⟨_, _, _, rfl, _⟩ := h; rfl) | (obtain ⟨_, _, _, _, rfl, _⟩ := h; rfl) | (obtain ⟨_, _, _, _, _, rfl, _⟩ := h; rfl) | (obtain ⟨_, _, _, _, _, _, rfl, _⟩ := h; rfl) | (obtain ⟨_, _, _, _, _, _, _, rfl, _⟩ := h; rfl) | (obtain ⟨_, _, _, _, _, _, _, _, rfl, _⟩ := h; rfl) | (obtain ⟨_, _, _, _, _, _, _, _, _, rfl, _⟩ := h; rfl) | (obtain ⟨_, _, _, _, _, _, _, _, _, _, rfl, _⟩ := h; rfl) | (obtain ⟨_, _, _, _, _, _, _, _, _, _, _, rfl, _⟩ := h; rfl) | (obtain ⟨_, _, _, _, _, _, _, _, _, _, _, _, rfl, _⟩ := h; rfl)) fun cdv A outer s H vs Q E hr h => by
      exfalso
      first | (obtain ⟨_, _, _, _, _, _, hd, _⟩ := h; exact absurd hd (Nat.not_lt_zero _)) | (obtain ⟨_, _, _, _, hd, _⟩ := h; exact absurd hd (Nat.not_lt_zero _))
  | n + 1 => F.ok (k := n + 1) sc_law_same (fun vs H Q E h => by first | (obtain ⟨rfl, _⟩ := h; rfl) | (obtain ⟨_, rfl, _⟩ := h; rfl) | (obtain ⟨_, _, rfl, _⟩ := h; rfl) | (obtain ⟨_, _, _, rfl, _⟩ := h; rfl) | (obtain ⟨_, _, _, _, rfl, _⟩ := h; rfl) | (obtain ⟨_, _, _, _, _, rfl, _⟩ := h; rfl) | (obtain ⟨_, _, _, _, _, _, rfl, _⟩ := h; rfl) | (obtain ⟨_, _, _, _, _, _, _, rfl, _⟩ := h; rfl) | (obtain ⟨_, _, _, _, _, _, _, _, rfl, _⟩ := h; rfl) | (obtain ⟨_, _, _, _, _, _, _, _, _, rfl, _⟩ := h; rfl) | (obtain ⟨_, _, _, _, _, _, _, _, _, _, rfl, _⟩ := h; rfl) | (obtain ⟨_, _, _, _, _, _, _, _, _, _, _, rfl, _⟩ := h; rfl) | (obtain ⟨_, _, _, _, _, _, _, _, _, _, _, _, rfl, _⟩ := h; rfl)) fun cdv A outer s H vs Q E hr h => ⟨t_law_same K C n, d_law_same (n := n) (k := n + 1) G ⟨_, _, _, ok_law_same F G hm n, hm, F.kp, b_law_same F⟩ hr, p_law_same n vs H Q E h⟩
theorem okH_law_same {f : Addr} {fd : FuncData} (F : Fun K "_law_same" "_law_same" S_law_same f fd) (G : Glob w K mg C) (hm : mg "_law_same" = some (.ref f)) : ∀ n : Nat, L2H.FnH P w K mg base CX0 (n + 1) f fd ["_law_actual", "_law_expected"] (sp_law_sameH K C n)
  | 0 => okH (k := 0) F sc_law_same (fun vs H Q E h => by first | (obtain ⟨rfl, _⟩ := h; rfl) | (obtain ⟨_, rfl, _⟩ := h; rfl) | (obtain ⟨_, _, rfl, _⟩ := h; rfl) | (obtain ⟨_, _, _, rfl, _⟩ := h; rfl) | (obtain ⟨_, _, _, _, rfl, _⟩ := h; rfl) | (obtain ⟨_, _, _, _, _, rfl, _⟩ := h; rfl) | (obtain ⟨_, _, _, _, _, _, rfl, _⟩ := h; rfl) | (obtain ⟨_, _, _, _, _, _, _, rfl, _⟩ := h; rfl) | (obtain ⟨_, _, _, _, _, _, _, _, rfl, _⟩ := h; rfl) | (obtain ⟨_, _, _, _, _, _, _, _, _, rfl, _⟩ := h; rfl) | (obtain ⟨_, _, _, _, _, _, _, _, _, _, rfl, _⟩ := h; rfl) | (obtain ⟨_, _, _, _, _, _, _, _, _, _, _, rfl, _⟩ := h; rfl) | (obtain ⟨_, _, _, _, _, _, _, _, _, _, _, _, rfl, _⟩ := h; rfl)) fun cdv A outer s H vs Q E p hot hr h => by
      exfalso
      first | (obtain ⟨_, _, _, _, _, _, hd, _⟩ := h; exact absurd hd (Nat.not_lt_zero _)) | (obtain ⟨_, _, _, _, hd, _⟩ := h; exact absurd hd (Nat.not_lt_zero _))
  | n + 1 => okH (k := n + 1) F sc_law_same (fun vs H Q E h => by first | (obtain ⟨rfl, _⟩ := h; rfl) | (obtain ⟨_, rfl, _⟩ := h; rfl) | (obtain ⟨_, _, rfl, _⟩ := h; rfl) | (obtain ⟨_, _, _, rfl, _⟩ := h; rfl) | (obtain ⟨_, _, _, _, rfl, _⟩ := h; rfl) | (obtain ⟨_, _, _, _, _, rfl, _⟩ := h; rfl) | (obtain ⟨_, _, _, _, _, _, rfl, _⟩ := h; rfl) | (obtain ⟨_, _, _, _, _, _, _, rfl, _⟩ := h; rfl) | (obtain ⟨_, _, _, _, _, _, _, _, rfl, _⟩ := h; rfl) | (obtain ⟨_, _, _, _, _, _, _, _, _, rfl, _⟩ := h; rfl) | (obtain ⟨_, _, _, _, _, _, _, _, _, _, rfl, _⟩ := h; rfl) | (obtain ⟨_, _, _, _, _, _, _, _, _, _, _, rfl, _⟩ := h; rfl) | (obtain ⟨_, _, _, _, _, _, _, _, _, _, _, _, rfl, _⟩ := h; rfl)) fun cdv A outer s H vs Q E p hot hr h => ⟨t_law_sameH K C n, d_law_sameH (n := n) (k := n + 1) G ⟨_, _, _, okH_law_same F G hm n, hm, F.kp, b_law_same F⟩ hr hot, p_law_sameH n vs H Q E h⟩
theorem b_law_name {f : Addr} {fd : FuncData} (F : Fun K "_law_name" "_law_name" S_law_name f fd) : Binds K fd ["_law_draws_here"] [] := F.binds (ps := ["_law_draws_here"]) fun _ _ _ _ _ _ us hl => match us, hl with | [_], _ => rfl
theorem ok_law_name {f : Addr} {fd : FuncData} (F : Fun K "_law_name" "_law_name" S_law_name f fd) (G : Glob w K mg C) (c_law_take : Cal P w K mg base 2 "_law_take" (sp_law_take K C)) (c_law_between : Cal P w K mg base 3 "_law_between" (sp_law_between K C)) : FnOk P w K mg base CX0 4 f fd ["_law_draws_here"] (sp_law_name K C) :=
  F.ok (k := 3) sc_law_name (fun vs H Q E h => by first | (obtain ⟨rfl, _⟩ := h; rfl) | (obtain ⟨_, rfl, _⟩ := h; rfl) | (obtain ⟨_, _, rfl, _⟩ := h; rfl) | (obtain ⟨_, _, _, rfl, _⟩ := h; rfl) | (obtain ⟨_, _, _, _, rfl, _⟩ := h; rfl) | (obtain ⟨_, _, _, _, _, rfl, _⟩ := h; rfl) | (obtain ⟨_, _, _, _, _, _, rfl, _⟩ := h; rfl) | (obtain ⟨_, _, _, _, _, _, _, rfl, _⟩ := h; rfl) | (obtain ⟨_, _, _, _, _, _, _, _, rfl, _⟩ := h; rfl) | (obtain ⟨_, _, _, _, _, _, _, _, _, rfl, _⟩ := h; rfl) | (obtain ⟨_, _, _, _, _, _, _, _, _, _, rfl, _⟩ := h; rfl) | (obtain ⟨_, _, _, _, _, _, _, _, _, _, _, rfl, _⟩ := h; rfl) | (obtain ⟨_, _, _, _, _, _, _, _, _, _, _, _, rfl, _⟩ := h; rfl)) fun cdv A outer s H vs Q E hr h => ⟨t_law_name K C, d_law_name (n := 0) G c_law_take c_law_between hr, p_law_name vs H Q E h⟩
theorem b_law_titles {f : Addr} {fd : FuncData} (F : Fun K "_law_titles" "_law_titles" S_law_titles f fd) : Binds K fd [] [] := F.binds (ps := []) fun _ _ _ _ _ _ us hl => match us, hl with | [], _ => rfl
theorem ok_law_titles {f : Addr} {fd : FuncData} (F : Fun K "_law_titles" "_law_titles" S_law_titles f fd) (G : Glob w K mg C) : FnOk P w K mg base CX0 1 f fd [] (sp_law_titles K C) :=
  F.ok (k := 0) sc_law_titles (fun vs H Q E h => by first | (obtain ⟨rfl, _⟩ := h; rfl) | (obtain ⟨_, rfl, _⟩ := h; rfl) | (obtain ⟨_, _, rfl, _⟩ := h; rfl) | (obtain ⟨_, _, _, rfl, _⟩ := h; rfl) | (obtain ⟨_, _, _, _, rfl, _⟩ := h; rfl) | (obtain ⟨_, _, _, _, _, rfl, _⟩ := h; rfl) | (obtain ⟨_, _, _, _, _, _, rfl, _⟩ := h; rfl) | (obtain ⟨_, _, _, _, _, _, _, rfl, _⟩ := h; rfl) | (obtain ⟨_, _, _, _, _, _, _, _, rfl, _⟩ := h; rfl) | (obtain ⟨_, _, _, _, _, _, _, _, _, rfl, _⟩ := h; rfl) | (obtain ⟨_, _, _, _, _, _, _, _, _, _, rfl, _⟩ := h; rfl) | (obtain ⟨_, _, _, _, _, _, _, _, _, _, _, rfl, _⟩ := h; rfl) | (obtain ⟨_, _, _, _, _, _, _, _, _, _, _, _, rfl, _⟩ := h; rfl)) fun cdv A outer s H vs Q E hr h => ⟨t_law_titles K C, d_law_titles (n := 0) G hr, p_law_titles vs H Q E h⟩
theorem b_law_part_bounds {f : Addr} {fd : FuncData} (F : Fun K "_law_part_bounds" "_law_part_bounds" S_law_part_bounds f fd) : Binds K fd ["_law_title"] [] := F.binds (ps := ["_law_title"]) fun _ _ _ _ _ _ us hl => match us, hl with | [_], _ => rfl
theorem ok_law_part_bounds {f : Addr} {fd : FuncData} (F : Fun K "_law_part_bounds" "_law_part_bounds" S_law_part_bounds f fd) (G : Glob w K mg C) : FnOk P w K mg base CX0 1 f fd ["_law_title"] (sp_law_part_bounds K C) :=
  F.ok (k := 0) sc_law_part_bounds (fun vs H Q E h => by first | (obtain ⟨rfl, _⟩ := h; rfl) | (obtain ⟨_, rfl, _⟩ := h; rfl) | (obtain ⟨_, _, rfl, _⟩ := h; rfl) | (obtain ⟨_, _, _, rfl, _⟩ := h; rfl) | (obtain ⟨_, _, _, _, rfl, _⟩ := h; rfl) | (obtain ⟨_, _, _, _, _, rfl, _⟩ := h; rfl) | (obtain ⟨_, _, _, _, _, _, rfl, _⟩ := h; rfl) | (obtain ⟨_, _, _, _, _, _, _, rfl, _⟩ := h; rfl) | (obtain ⟨_, _, _, _, _, _, _, _, rfl, _⟩ := h; rfl) | (obtain ⟨_, _, _, _, _, _, _, _, _, rfl, _⟩ := h; rfl) | (obtain ⟨_, _, _, _, _, _, _, _, _, _, rfl, _⟩ := h; rfl) | (obtain ⟨_, _, _, _, _, _, _, _, _, _, _, rfl, _⟩ := h; rfl) | (obtain ⟨_, _, _, _, _, _, _, _, _, _, _, _, rfl, _⟩ := h; rfl)) fun cdv A outer s H vs Q E hr h => ⟨t_law_part_bounds K C, d_law_part_bounds (n := 0) G hr, p_law_part_bounds vs H Q E h⟩
theorem b_law_request {f : Addr} {fd : FuncData} (F : Fun K "_law_request" "_law_request" S_law_request f fd) : Binds K fd ["_law_draws_here"] [] := F.binds (ps := ["_law_draws_here"]) fun _ _ _ _ _ _ us hl => match us, hl with | [_], _ => rfl
theorem ok_law_request {f : Addr} {fd : FuncData} (F : Fun K "_law_request" "_law_request" S_law_request f fd) (G : Glob w K mg C) (c_law_titles : Cal P w K mg base 1 "_law_titles" (sp_law_titles K C)) (c_law_among : Cal P w K mg base 3 "_law_among" (sp_law_among K C)) (c_law_name : Cal P w K mg base 4 "_law_name" (sp_law_name K C)) (c_law_user : Cal P w K mg base 4 "_law_user" (sp_law_user K C)) (c_law_part_bounds : Cal P w K mg base 1 "_law_part_bounds" (sp_law_part_bounds K C)) (c_law_number : Cal P w K mg base 5 "_law_number" (sp_law_number K C)) (c_law_alignment : Cal P w K mg base 4 "_law_alignment" (sp_law_alignment K C)) : FnOk P w K mg base CX0 6 f fd ["_law_draws_here"] (sp_law_request K C) :=
  F.ok (k := 5) sc_law_request (fun vs H Q E h => by first | (obtain ⟨rfl, _⟩ := h; rfl) | (obtain ⟨_, rfl, _⟩ := h; rfl) | (obtain ⟨_, _, rfl, _⟩ := h; rfl) | (obtain ⟨_, _, _, rfl, _⟩ := h; rfl) | (obtain ⟨_, _, _, _, rfl, _⟩ := h; rfl) | (obtain ⟨_, _, _, _, _, rfl, _⟩ := h; rfl) | (obtain ⟨_, _, _, _, _, _, rfl, _⟩ := h; rfl) | (obtain ⟨_, _, _, _, _, _, _, rfl, _⟩ := h; rfl) | (obtain ⟨_, _, _, _, _, _, _, _, rfl, _⟩ := h; rfl) | (obtain ⟨_, _, _, _, _, _, _, _, _, rfl, _⟩ := h; rfl) | (obtain ⟨_, _, _, _, _, _, _, _, _, _, rfl, _⟩ := h; rfl) | (obtain ⟨_, _, _, _, _, _, _, _, _, _, _, rfl, _⟩ := h; rfl) | (obtain ⟨_, _, _, _, _, _, _, _, _, _, _, _, rfl, _⟩ := h; rfl)) fun cdv A outer s H vs Q E hr h => ⟨t_law_request K C, d_law_request (n := 0) G c_law_titles c_law_among c_law_name c_law_user c_law_part_bounds c_law_number c_law_alignment hr, p_law_request vs H Q E h⟩
theorem b_law_line {f : Addr} {fd : FuncData} (F : Fun K "_law_line" "_law_line" S_law_line f fd) : Binds K fd ["_law_request_here", "_law_is_long"] [] := F.binds (ps := ["_law_request_here", "_law_is_long"]) fun _ _ _ _ _ _ us hl => match us, hl with | [_, _], _ => rfl
theorem ok_law_line {f : Addr} {fd : FuncData} (F : Fun K "_law_line" "_law_line" S_law_line f fd) (G : Glob w K mg C) : FnOk P w K mg base CX0 1 f fd ["_law_request_here", "_law_is_long"] (sp_law_line K C) :=
  F.ok (k := 0) sc_law_line (fun vs H Q E h => by first | (obtain ⟨rfl, _⟩ := h; rfl) | (obtain ⟨_, rfl, _⟩ := h; rfl) | (obtain ⟨_, _, rfl, _⟩ := h; rfl) | (obtain ⟨_, _, _, rfl, _⟩ := h; rfl) | (obtain ⟨_, _, _, _, rfl, _⟩ := h; rfl) | (obtain ⟨_, _, _, _, _, rfl, _⟩ := h; rfl) | (obtain ⟨_, _, _, _, _, _, rfl, _⟩ := h; rfl) | (obtain ⟨_, _, _, _, _, _, _, rfl, _⟩ := h; rfl) | (obtain ⟨_, _, _, _, _, _, _, _, rfl, _⟩ := h; rfl) | (obtain ⟨_, _, _, _, _, _, _, _, _, rfl, _⟩ := h; rfl) | (obtain ⟨_, _, _, _, _, _, _, _, _, _, rfl, _⟩ := h; rfl) | (obtain ⟨_, _, _, _, _, _, _, _, _, _, _, rfl, _⟩ := h; rfl) | (obtain ⟨_, _, _, _, _, _, _, _, _, _, _, _, rfl, _⟩ := h; rfl)) fun cdv A outer s H vs Q E hr h => ⟨t_law_line K C, d_law_line (n := 0) G hr, p_law_line vs H Q E h⟩
theorem b_law_bad_word {f : Addr} {fd : FuncData} (F : Fun K "_law_bad_word" "_law_bad_word" S_law_bad_word f fd) : Binds K fd ["_law_draws_here", "_law_request_here", "_law_at"] [] := F.binds (ps := ["_law_draws_here", "_law_request_here", "_law_at"]) fun _ _ _ _ _ _ us hl => match us, hl with | [_, _, _], _ => rfl
theorem ok_law_bad_word {f : Addr} {fd : FuncData} (F : Fun K "_law_bad_word" "_law_bad_word" S_law_bad_word f fd) (G : Glob w K mg C) (c_law_among : Cal P w K mg base 3 "_law_among" (sp_law_among K C)) (c_law_part_bounds : Cal P w K mg base 1 "_law_part_bounds" (sp_law_part_bounds K C)) : FnOk P w K mg base CX0 4 f fd ["_law_draws_here", "_law_request_here", "_law_at"] (sp_law_bad_word K C) :=
  F.ok (k := 3) sc_law_bad_word (fun vs H Q E h => by first | (obtain ⟨rfl, _⟩ := h; rfl) | (obtain ⟨_, rfl, _⟩ := h; rfl) | (obtain ⟨_, _, rfl, _⟩ := h; rfl) | (obtain ⟨_, _, _, rfl, _⟩ := h; rfl) | (obtain ⟨_, _, _, _, rfl, _⟩ := h; rfl) | (obtain ⟨_, _, _, _, _, rfl, _⟩ := h; rfl) | (obtain ⟨_, _, _, _, _, _, rfl, _⟩ := h; rfl) | (obtain ⟨_, _, _, _, _, _, _, rfl, _⟩ := h; rfl) | (obtain ⟨_, _, _, _, _, _, _, _, rfl, _⟩ := h; rfl) | (obtain ⟨_, _, _, _, _, _, _, _, _, rfl, _⟩ := h; rfl) | (obtain ⟨_, _, _, _, _, _, _, _, _, _, rfl, _⟩ := h; rfl) | (obtain ⟨_, _, _, _, _, _, _, _, _, _, _, rfl, _⟩ := h; rfl) | (obtain ⟨_, _, _, _, _, _, _, _, _, _, _, _, rfl, _⟩ := h; rfl)) fun cdv A outer s H vs Q E hr h => ⟨t_law_bad_word K C, d_law_bad_word (n := 0) G c_law_among c_law_part_bounds hr, p_law_bad_word vs H Q E h⟩
theorem b_law_bad_line {f : Addr} {fd : FuncData} (F : Fun K "_law_bad_line" "_law_bad_line" S_law_bad_line f fd) : Binds K fd ["_law_draws_here", "_law_request_here"] [] := F.binds (ps := ["_law_draws_here", "_law_request_here"]) fun _ _ _ _ _ _ us hl => match us, hl with | [_, _], _ => rfl
theorem ok_law_bad_line {f : Addr} {fd : FuncData} (F : Fun K "_law_bad_line" "_law_bad_line" S_law_bad_line f fd) (G : Glob w K mg C) (c_law_line : Cal P w K mg base 1 "_law_line" (sp_law_line K C)) (c_law_take : Cal P w K mg base 2 "_law_take" (sp_law_take K C)) (c_law_bad_word : Cal P w K mg base 4 "_law_bad_word" (sp_law_bad_word K C)) : FnOk P w K mg base CX0 5 f fd ["_law_draws_here", "_law_request_here"] (sp_law_bad_line K C) :=
  F.ok (k := 4) sc_law_bad_line (fun vs H Q E h => by first | (obtain ⟨rfl, _⟩ := h; rfl) | (obtain ⟨_, rfl, _⟩ := h; rfl) | (obtain ⟨_, _, rfl, _⟩ := h; rfl) | (obtain ⟨_, _, _, rfl, _⟩ := h; rfl) | (obtain ⟨_, _, _, _, rfl, _⟩ := h; rfl) | (obtain ⟨_, _, _, _, _, rfl, _⟩ := h; rfl) | (obtain ⟨_, _, _, _, _, _, rfl, _⟩ := h; rfl) | (obtain ⟨_, _, _, _, _, _, _, rfl, _⟩ := h; rfl) | (obtain ⟨_, _, _, _, _, _, _, _, rfl, _⟩ := h; rfl) | (obtain ⟨_, _, _, _, _, _, _, _, _, rfl, _⟩ := h; rfl) | (obtain ⟨_, _, _, _, _, _, _, _, _, _, rfl, _⟩ := h; rfl) | (obtain ⟨_, _, _, _, _, _, _, _, _, _, _, rfl, _⟩ := h; rfl) | (obtain ⟨_, _, _, _, _, _, _, _, _, _, _, _, rfl, _⟩ := h; rfl)) fun cdv A outer s H vs Q E hr h => ⟨t_law_bad_line K C, d_law_bad_line (n := 0) G c_law_line c_law_take c_law_bad_word hr, p_law_bad_line vs H Q E h⟩
theorem b_law_bad_text {f : Addr} {fd : FuncData} (F : Fun K "_law_bad_text" "_law_bad_text" S_law_bad_text f fd) : Binds K fd ["_law_draws_here", "_law_requests"] [] := F.binds (ps := ["_law_draws_here", "_law_requests"]) fun _ _ _ _ _ _ us hl => match us, hl with | [_, _], _ => rfl
theorem ok_law_bad_text {f : Addr} {fd : FuncData} (F : Fun K "_law_bad_text" "_law_bad_text" S_law_bad_text f fd) (G : Glob w K mg C) (c_law_take : Cal P w K mg base 2 "_law_take" (sp_law_take K C)) (c_law_line : Cal P w K mg base 1 "_law_line" (sp_law_line K C)) (c_law_request : Cal P w K mg base 6 "_law_request" (sp_law_request K C)) (c_law_bad_line : Cal P w K mg base 5 "_law_bad_line" (sp_law_bad_line K C)) : FnOk P w K mg base CX0 7 f fd ["_law_draws_here", "_law_requests"] (sp_law_bad_text K C) :=
  F.ok (k := 6) sc_law_bad_text (fun vs H Q E h => by first | (obtain ⟨rfl, _⟩ := h; rfl) | (obtain ⟨_, rfl, _⟩ := h; rfl) | (obtain ⟨_, _, rfl, _⟩ := h; rfl) | (obtain ⟨_, _, _, rfl, _⟩ := h; rfl) | (obtain ⟨_, _, _, _, rfl, _⟩ := h; rfl) | (obtain ⟨_, _, _, _, _, rfl, _⟩ := h; rfl) | (obtain ⟨_, _, _, _, _, _, rfl, _⟩ := h; rfl) | (obtain ⟨_, _, _, _, _, _, _, rfl, _⟩ := h; rfl) | (obtain ⟨_, _, _, _, _, _, _, _, rfl, _⟩ := h; rfl) | (obtain ⟨_, _, _, _, _, _, _, _, _, rfl, _⟩ := h; rfl) | (obtain ⟨_, _, _, _, _, _, _, _, _, _, rfl, _⟩ := h; rfl) | (obtain ⟨_, _, _, _, _, _, _, _, _, _, _, rfl, _⟩ := h; rfl) | (obtain ⟨_, _, _, _, _, _, _, _, _, _, _, _, rfl, _⟩ := h; rfl)) fun cdv A outer s H vs Q E hr h => ⟨t_law_bad_text K C, d_law_bad_text (n := 0) G c_law_take c_law_line c_law_request c_law_bad_line hr, p_law_bad_text vs H Q E h⟩
theorem b_law_not_text {f : Addr} {fd : FuncData} (F : Fun K "_law_not_text" "_law_not_text" S_law_not_text f fd) : Binds K fd ["_law_draws_here"] [] := F.binds (ps := ["_law_draws_here"]) fun _ _ _ _ _ _ us hl => match us, hl with | [_], _ => rfl
theorem ok_law_not_text {f : Addr} {fd : FuncData} (F : Fun K "_law_not_text" "_law_not_text" S_law_not_text f fd) (G : Glob w K mg C) (c_law_take : Cal P w K mg base 2 "_law_take" (sp_law_take K C)) : FnOk P w K mg base CX0 3 f fd ["_law_draws_here"] (sp_law_not_text K C) :=
  F.ok (k := 2) sc_law_not_text (fun vs H Q E h => by first | (obtain ⟨rfl, _⟩ := h; rfl) | (obtain ⟨_, rfl, _⟩ := h; rfl) | (obtain ⟨_, _, rfl, _⟩ := h; rfl) | (obtain ⟨_, _, _, rfl, _⟩ := h; rfl) | (obtain ⟨_, _, _, _, rfl, _⟩ := h; rfl) | (obtain ⟨_, _, _, _, _, rfl, _⟩ := h; rfl) | (obtain ⟨_, _, _, _, _, _, rfl, _⟩ := h; rfl) | (obtain ⟨_, _, _, _, _, _, _, rfl, _⟩ := h; rfl) | (obtain ⟨_, _, _, _, _, _, _, _, rfl, _⟩ := h; rfl) | (obtain ⟨_, _, _, _, _, _, _, _, _, rfl, _⟩ := h; rfl) | (obtain ⟨_, _, _, _, _, _, _, _, _, _, rfl, _⟩ := h; rfl) | (obtain ⟨_, _, _, _, _, _, _, _, _, _, _, rfl, _⟩ := h; rfl) | (obtain ⟨_, _, _, _, _, _, _, _, _, _, _, _, rfl, _⟩ := h; rfl)) fun cdv A outer s H vs Q E hr h => ⟨t_law_not_text K C, d_law_not_text (n := 0) G c_law_take hr, p_law_not_text vs H Q E h⟩
theorem b_law_number_word {f : Addr} {fd : FuncData} (F : Fun K "_law_number_word" "_law_number_word" S_law_number_word f fd) : Binds K fd ["_law_word", "_law_low", "_law_high"] [] := F.binds (ps := ["_law_word", "_law_low", "_law_high"]) fun _ _ _ _ _ _ us hl => match us, hl with | [_, _, _], _ => rfl
theorem ok_law_number_word {f : Addr} {fd : FuncData} (F : Fun K "_law_number_word" "_law_number_word" S_law_number_word f fd) (G : Glob w K mg C) : FnOk P w K mg base CX0 1 f fd ["_law_word", "_law_low", "_law_high"] (sp_law_number_word K C) :=
  F.ok (k := 0) sc_law_number_word (fun vs H Q E h => by first | (obtain ⟨rfl, _⟩ := h; rfl) | (obtain ⟨_, rfl, _⟩ := h; rfl) | (obtain ⟨_, _, rfl, _⟩ := h; rfl) | (obtain ⟨_, _, _, rfl, _⟩ := h; rfl) | (obtain ⟨_, _, _, _, rfl, _⟩ := h; rfl) | (obtain ⟨_, _, _, _, _, rfl, _⟩ := h; rfl) | (obtain ⟨_, _, _, _, _, _, rfl, _⟩ := h; rfl) | (obtain ⟨_, _, _, _, _, _, _, rfl, _⟩ := h; rfl) | (obtain ⟨_, _, _, _, _, _, _, _, rfl, _⟩ := h; rfl) | (obtain ⟨_, _, _, _, _, _, _, _, _, rfl, _⟩ := h; rfl) | (obtain ⟨_, _, _, _, _, _, _, _, _, _, rfl, _⟩ := h; rfl) | (obtain ⟨_, _, _, _, _, _, _, _, _, _, _, rfl, _⟩ := h; rfl) | (obtain ⟨_, _, _, _, _, _, _, _, _, _, _, _, rfl, _⟩ := h; rfl)) fun cdv A outer s H vs Q E hr h => ⟨t_law_number_word K C, d_law_number_word (n := 0) G hr, p_law_number_word vs H Q E h⟩
theorem b_law_part_word {f : Addr} {fd : FuncData} (F : Fun K "_law_part_word" "_law_part_word" S_law_part_word f fd) : Binds K fd ["_law_title", "_law_at", "_law_word"] [] := F.binds (ps := ["_law_title", "_law_at", "_law_word"]) fun _ _ _ _ _ _ us hl => match us, hl with | [_, _, _], _ => rfl
theorem ok_law_part_word {f : Addr} {fd : FuncData} (F : Fun K "_law_part_word" "_law_part_word" S_law_part_word f fd) (G : Glob w K mg C) (c_law_part_bounds : Cal P w K mg base 1 "_law_part_bounds" (sp_law_part_bounds K C)) (c_law_number_word : Cal P w K mg base 1 "_law_number_word" (sp_law_number_word K C)) (c_law_power : Cal P w K mg base 1 "_law_power" (sp_law_power K C)) : FnOk P w K mg base CX0 2 f fd ["_law_title", "_law_at", "_law_word"] (sp_law_part_word K C) :=
  F.ok (k := 1) sc_law_part_word (fun vs H Q E h => by first | (obtain ⟨rfl, _⟩ := h; rfl) | (obtain ⟨_, rfl, _⟩ := h; rfl) | (obtain ⟨_, _, rfl, _⟩ := h; rfl) | (obtain ⟨_, _, _, rfl, _⟩ := h; rfl) | (obtain ⟨_, _, _, _, rfl, _⟩ := h; rfl) | (obtain ⟨_, _, _, _, _, rfl, _⟩ := h; rfl) | (obtain ⟨_, _, _, _, _, _, rfl, _⟩ := h; rfl) | (obtain ⟨_, _, _, _, _, _, _, rfl, _⟩ := h; rfl) | (obtain ⟨_, _, _, _, _, _, _, _, rfl, _⟩ := h; rfl) | (obtain ⟨_, _, _, _, _, _, _, _, _, rfl, _⟩ := h; rfl) | (obtain ⟨_, _, _, _, _, _, _, _, _, _, rfl, _⟩ := h; rfl) | (obtain ⟨_, _, _, _, _, _, _, _, _, _, _, rfl, _⟩ := h; rfl) | (obtain ⟨_, _, _, _, _, _, _, _, _, _, _, _, rfl, _⟩ := h; rfl)) fun cdv A outer s H vs Q E hr h => ⟨t_law_part_word K C, d_law_part_word (n := 0) G c_law_part_bounds c_law_number_word c_law_power hr, p_law_part_word vs H Q E h⟩
theorem b_law_line_read {f : Addr} {fd : FuncData} (F : Fun K "_law_line_read" "_law_line_read" S_law_line_read f fd) : Binds K fd ["_law_line_here"] [] := F.binds (ps := ["_law_line_here"]) fun _ _ _ _ _ _ us hl => match us, hl with | [_], _ => rfl
theorem ok_law_line_read {f : Addr} {fd : FuncData} (F : Fun K "_law_line_read" "_law_line_read" S_law_line_read f fd) (G : Glob w K mg C) (c_law_part_word : Cal P w K mg base 2 "_law_part_word" (sp_law_part_word K C)) (c_law_titles : Cal P w K mg base 1 "_law_titles" (sp_law_titles K C)) (c_law_part_bounds : Cal P w K mg base 1 "_law_part_bounds" (sp_law_part_bounds K C)) : FnOk P w K mg base CX0 3 f fd ["_law_line_here"] (sp_law_line_read K C) :=
  F.ok (k := 2) sc_law_line_read (fun vs H Q E h => by first | (obtain ⟨rfl, _⟩ := h; rfl) | (obtain ⟨_, rfl, _⟩ := h; rfl) | (obtain ⟨_, _, rfl, _⟩ := h; rfl) | (obtain ⟨_, _, _, rfl, _⟩ := h; rfl) | (obtain ⟨_, _, _, _, rfl, _⟩ := h; rfl) | (obtain ⟨_, _, _, _, _, rfl, _⟩ := h; rfl) | (obtain ⟨_, _, _, _, _, _, rfl, _⟩ := h; rfl) | (obtain ⟨_, _, _, _, _, _, _, rfl, _⟩ := h; rfl) | (obtain ⟨_, _, _, _, _, _, _, _, rfl, _⟩ := h; rfl) | (obtain ⟨_, _, _, _, _, _, _, _, _, rfl, _⟩ := h; rfl) | (obtain ⟨_, _, _, _, _, _, _, _, _, _, rfl, _⟩ := h; rfl) | (obtain ⟨_, _, _, _, _, _, _, _, _, _, _, rfl, _⟩ := h; rfl) | (obtain ⟨_, _, _, _, _, _, _, _, _, _, _, _, rfl, _⟩ := h; rfl)) fun cdv A outer s H vs Q E hr h => ⟨t_law_line_read K C, d_law_line_read (n := 0) G c_law_part_word c_law_titles c_law_part_bounds hr, p_law_line_read vs H Q E h⟩
theorem b_law_text_read {f : Addr} {fd : FuncData} (F : Fun K "_law_text_read" "_law_text_read" S_law_text_read f fd) : Binds K fd ["_law_text_here"] [] := F.binds (ps := ["_law_text_here"]) fun _ _ _ _ _ _ us hl => match us, hl with | [_], _ => rfl
theorem ok_law_text_read {f : Addr} {fd : FuncData} (F : Fun K "_law_text_read" "_law_text_read" S_law_text_read f fd) (G : Glob w K mg C) (c_law_line_read : Cal P w K mg base 3 "_law_line_read" (sp_law_line_read K C)) : FnOk P w K mg base CX0 4 f fd ["_law_text_here"] (sp_law_text_read K C) :=
  F.ok (k := 3) sc_law_text_read (fun vs H Q E h => by first | (obtain ⟨rfl, _⟩ := h; rfl) | (obtain ⟨_, rfl, _⟩ := h; rfl) | (obtain ⟨_, _, rfl, _⟩ := h; rfl) | (obtain ⟨_, _, _, rfl, _⟩ := h; rfl) | (obtain ⟨_, _, _, _, rfl, _⟩ := h; rfl) | (obtain ⟨_, _, _, _, _, rfl, _⟩ := h; rfl) | (obtain ⟨_, _, _, _, _, _, rfl, _⟩ := h; rfl) | (obtain ⟨_, _, _, _, _, _, _, rfl, _⟩ := h; rfl) | (obtain ⟨_, _, _, _, _, _, _, _, rfl, _⟩ := h; rfl) | (obtain ⟨_, _, _, _, _, _, _, _, _, rfl, _⟩ := h; rfl) | (obtain ⟨_, _, _, _, _, _, _, _, _, _, rfl, _⟩ := h; rfl) | (obtain ⟨_, _, _, _, _, _, _, _, _, _, _, rfl, _⟩ := h; rfl) | (obtain ⟨_, _, _, _, _, _, _, _, _, _, _, _, rfl, _⟩ := h; rfl)) fun cdv A outer s H vs Q E hr h => ⟨t_law_text_read K C, d_law_text_read (n := 0) G c_law_line_read hr, p_law_text_read vs H Q E h⟩
theorem b_law_bent_text {f : Addr} {fd : FuncData} (F : Fun K "_law_bent_text" "_law_bent_text" S_law_bent_text f fd) : Binds K fd ["_law_draws_here", "_law_text_here"] [] := F.binds (ps := ["_law_draws_here", "_law_text_here"]) fun _ _ _ _ _ _ us hl => match us, hl with | [_, _], _ => rfl
theorem ok_law_bent_text {f : Addr} {fd : FuncData} (F : Fun K "_law_bent_text" "_law_bent_text" S_law_bent_text f fd) (G : Glob w K mg C) (c_law_take : Cal P w K mg base 2 "_law_take" (sp_law_take K C)) (c_law_chars : Cal P w K mg base 1 "_law_chars" (sp_law_chars K C)) : FnOk P w K mg base CX0 3 f fd ["_law_draws_here", "_law_text_here"] (sp_law_bent_text K C) :=
  F.ok (k := 2) sc_law_bent_text (fun vs H Q E h => by first | (obtain ⟨rfl, _⟩ := h; rfl) | (obtain ⟨_, rfl, _⟩ := h; rfl) | (obtain ⟨_, _, rfl, _⟩ := h; rfl) | (obtain ⟨_, _, _, rfl, _⟩ := h; rfl) | (obtain ⟨_, _, _, _, rfl, _⟩ := h; rfl) | (obtain ⟨_, _, _, _, _, rfl, _⟩ := h; rfl) | (obtain ⟨_, _, _, _, _, _, rfl, _⟩ := h; rfl) | (obtain ⟨_, _, _, _, _, _, _, rfl, _⟩ := h; rfl) | (obtain ⟨_, _, _, _, _, _, _, _, rfl, _⟩ := h; rfl) | (obtain ⟨_, _, _, _, _, _, _, _, _, rfl, _⟩ := h; rfl) | (obtain ⟨_, _, _, _, _, _, _, _, _, _, rfl, _⟩ := h; rfl) | (obtain ⟨_, _, _, _, _, _, _, _, _, _, _, rfl, _⟩ := h; rfl) | (obtain ⟨_, _, _, _, _, _, _, _, _, _, _, _, rfl, _⟩ := h; rfl)) fun cdv A outer s H vs Q E hr h => ⟨t_law_bent_text K C, d_law_bent_text (n := 0) G c_law_take c_law_chars hr, p_law_bent_text vs H Q E h⟩
theorem b_law_parse_told {f : Addr} {fd : FuncData} (F : Fun K "_law_parse_told" "_law_parse_told" S_law_parse_told f fd) : Binds K fd ["_law_text_here"] [] := F.binds (ps := ["_law_text_here"]) fun _ _ _ _ _ _ us hl => match us, hl with | [_], _ => rfl
theorem ok_law_parse_told {f : Addr} {fd : FuncData} (F : Fun K "_law_parse_told" "_law_parse_told" S_law_parse_told f fd) (G : Glob w K mg C) (c_parse_requests : CalX P w K mg base 6 "parse_requests" (sp_parse_requests K C)) (ch_law_same : CalH P w K mg base 8 "_law_same" (sp_law_sameH K C 6)) : FnOk P w K mg base CX0 9 f fd ["_law_text_here"] (sp_law_parse_told K C) :=
  F.ok (k := 8) sc_law_parse_told (fun vs H Q E h => by first | (obtain ⟨rfl, _⟩ := h; rfl) | (obtain ⟨_, rfl, _⟩ := h; rfl) | (obtain ⟨_, _, rfl, _⟩ := h; rfl) | (obtain ⟨_, _, _, rfl, _⟩ := h; rfl) | (obtain ⟨_, _, _, _, rfl, _⟩ := h; rfl) | (obtain ⟨_, _, _, _, _, rfl, _⟩ := h; rfl) | (obtain ⟨_, _, _, _, _, _, rfl, _⟩ := h; rfl) | (obtain ⟨_, _, _, _, _, _, _, rfl, _⟩ := h; rfl) | (obtain ⟨_, _, _, _, _, _, _, _, rfl, _⟩ := h; rfl) | (obtain ⟨_, _, _, _, _, _, _, _, _, rfl, _⟩ := h; rfl) | (obtain ⟨_, _, _, _, _, _, _, _, _, _, rfl, _⟩ := h; rfl) | (obtain ⟨_, _, _, _, _, _, _, _, _, _, _, rfl, _⟩ := h; rfl) | (obtain ⟨_, _, _, _, _, _, _, _, _, _, _, _, rfl, _⟩ := h; rfl)) fun cdv A outer s H vs Q E hr h => ⟨t_law_parse_told K C, d_law_parse_told (n := 0) G c_parse_requests ch_law_same hr, p_law_parse_told G vs H Q E h⟩
theorem b_law_refuses_value {f : Addr} {fd : FuncData} (F : Fun K "_law_refuses_value" "_law_refuses_value" S_law_refuses_value f fd) : Binds K fd ["_law_value"] [] := F.binds (ps := ["_law_value"]) fun _ _ _ _ _ _ us hl => match us, hl with | [_], _ => rfl
theorem ok_law_refuses_value {f : Addr} {fd : FuncData} (F : Fun K "_law_refuses_value" "_law_refuses_value" S_law_refuses_value f fd) (G : Glob w K mg C) (c_parse_requests : CalX P w K mg base 6 "parse_requests" (sp_parse_requests K C)) (ch_law_same : CalH P w K mg base 8 "_law_same" (sp_law_sameH K C 6)) : FnOk P w K mg base CX0 9 f fd ["_law_value"] (sp_law_refuses_value K C) :=
  F.ok (k := 8) sc_law_refuses_value (fun vs H Q E h => by first | (obtain ⟨rfl, _⟩ := h; rfl) | (obtain ⟨_, rfl, _⟩ := h; rfl) | (obtain ⟨_, _, rfl, _⟩ := h; rfl) | (obtain ⟨_, _, _, rfl, _⟩ := h; rfl) | (obtain ⟨_, _, _, _, rfl, _⟩ := h; rfl) | (obtain ⟨_, _, _, _, _, rfl, _⟩ := h; rfl) | (obtain ⟨_, _, _, _, _, _, rfl, _⟩ := h; rfl) | (obtain ⟨_, _, _, _, _, _, _, rfl, _⟩ := h; rfl) | (obtain ⟨_, _, _, _, _, _, _, _, rfl, _⟩ := h; rfl) | (obtain ⟨_, _, _, _, _, _, _, _, _, rfl, _⟩ := h; rfl) | (obtain ⟨_, _, _, _, _, _, _, _, _, _, rfl, _⟩ := h; rfl) | (obtain ⟨_, _, _, _, _, _, _, _, _, _, _, rfl, _⟩ := h; rfl) | (obtain ⟨_, _, _, _, _, _, _, _, _, _, _, _, rfl, _⟩ := h; rfl)) fun cdv A outer s H vs Q E hr h => ⟨t_law_refuses_value K C, d_law_refuses_value (n := 0) G c_parse_requests ch_law_same hr, p_law_refuses_value G vs H Q E h⟩
theorem b_law {f : Addr} {fd : FuncData} (F : Fun K "law" "law" S_law f fd) : Binds K fd ["_law_script"] [] := F.binds (ps := ["_law_script"]) fun _ _ _ _ _ _ us hl => match us, hl with | [_], _ => rfl
theorem ok_law {f : Addr} {fd : FuncData} (F : Fun K "law" "law" S_law f fd) (G : Glob w K mg C) (c_law_draws : Cal P w K mg base 1 "_law_draws" (sp_law_draws K C)) (c_law_count : Cal P w K mg base 4 "_law_count" (sp_law_count K C)) (c_law_request : Cal P w K mg base 6 "_law_request" (sp_law_request K C)) (c_law_bad_text : Cal P w K mg base 7 "_law_bad_text" (sp_law_bad_text K C)) (c_law_take : Cal P w K mg base 2 "_law_take" (sp_law_take K C)) (c_law_line : Cal P w K mg base 1 "_law_line" (sp_law_line K C)) (c_law_parse_told : Cal P w K mg base 9 "_law_parse_told" (sp_law_parse_told K C)) (c_law_same : Cal P w K mg base 8 "_law_same" (sp_law_same K C 6)) (c_parse_requests : CalX P w K mg base 6 "parse_requests" (sp_parse_requests K C)) (c_law_not_text : Cal P w K mg base 3 "_law_not_text" (sp_law_not_text K C)) (c_law_refuses_value : Cal P w K mg base 9 "_law_refuses_value" (sp_law_refuses_value K C)) (c_law_text : Cal P w K mg base 4 "_law_text" (sp_law_text K C)) (c_law_bent_text : Cal P w K mg base 3 "_law_bent_text" (sp_law_bent_text K C)) (c_law_text_read : Cal P w K mg base 4 "_law_text_read" (sp_law_text_read K C)) : FnOk P w K mg base CX0 10 f fd ["_law_script"] (sp_law K C) :=
  F.ok (k := 9) sc_law (fun vs H Q E h => by first | (obtain ⟨rfl, _⟩ := h; rfl) | (obtain ⟨_, rfl, _⟩ := h; rfl) | (obtain ⟨_, _, rfl, _⟩ := h; rfl) | (obtain ⟨_, _, _, rfl, _⟩ := h; rfl) | (obtain ⟨_, _, _, _, rfl, _⟩ := h; rfl) | (obtain ⟨_, _, _, _, _, rfl, _⟩ := h; rfl) | (obtain ⟨_, _, _, _, _, _, rfl, _⟩ := h; rfl) | (obtain ⟨_, _, _, _, _, _, _, rfl, _⟩ := h; rfl) | (obtain ⟨_, _, _, _, _, _, _, _, rfl, _⟩ := h; rfl) | (obtain ⟨_, _, _, _, _, _, _, _, _, rfl, _⟩ := h; rfl) | (obtain ⟨_, _, _, _, _, _, _, _, _, _, rfl, _⟩ := h; rfl) | (obtain ⟨_, _, _, _, _, _, _, _, _, _, _, rfl, _⟩ := h; rfl) | (obtain ⟨_, _, _, _, _, _, _, _, _, _, _, _, rfl, _⟩ := h; rfl)) fun cdv A outer s H vs Q E hr h => ⟨t_law K C, d_law (n := 0) G c_law_draws c_law_count c_law_request c_law_bad_text c_law_take c_law_line c_law_parse_told c_law_same c_parse_requests c_law_not_text c_law_refuses_value c_law_text c_law_bent_text c_law_text_read hr, p_law G vs H Q E h⟩
end
abbrev noC : Cs := ⟨0, 0, 0, 0, 0, 0, 0, 0, 0, 0, 0⟩
def keyS : Value → Str
  | .str x _ => x
  | _ => ""
theorem find_lit {Pm : Params} {x : Str} : ∀ {l : List DictEntry}, PySem.W.KeysLit Pm l → (l.find? (·.key.isStr x)).map (·.val) = (l.map fun e => (keyS e.key, e.val)).lookup x ∧ l.any (·.refKey) = false
  | [], _ => ⟨rfl, rfl⟩
  | e :: r, ⟨⟨k, t, hk, _⟩, h⟩ => by
    obtain ⟨i1, i2⟩ := find_lit (x := x) h
    constructor
    · rw [List.find?_cons, List.map_cons, List.lookup_cons]
      have e1 : e.key.isStr x = (x == keyS e.key) := by
        rw [hk, PySem.W.isStr_of]
        show (k == x) = (x == k)
        exact Bool.beq_comm
      rw [e1]
      cases (x == keyS e.key) with
      | true => rfl
      | false => exact i1
    · rw [List.any_cons, i2, Bool.or_false]
      unfold DictEntry.refKey
      rw [hk]
theorem kdt_mk {w : World} {K : PySem.W.Frag} {d : Addr} {es : Array DictEntry} {n : Nat} {tab : List (Str × Value)} {f : Str → Option (List V)} (l : K.lookup d = some ⟨.type "dict", none, .dict es n, #[]⟩) (lit : PySem.W.KeysLit w.params es.toList) (low : (d == sysModules) = false)
    (ht : es.toList.map (fun e => (keyS e.key, e.val)) = tab) (hf : ∀ x, match f x with | none => tab.lookup x = none | some vs => ∃ a, tab.lookup x = some (.ref a) ∧ ∀ H, SqT K H a vs) : KDt w K d f := by
  refine ⟨⟨es, n, l, lit, low⟩, fun x => ?_⟩
  obtain ⟨h1, h2⟩ := find_lit (x := x) lit
  rw [ht] at h1
  have ns : PySem.W.nsIn K d x = some (tab.lookup x) := by
    unfold PySem.W.nsIn
    rw [l]
    simp only
    cases e : es.toList.find? (·.key.isStr x) with
    | none =>
      rw [e] at h1
      rw [← h1]
      simp [h2]
    | some en =>
      rw [e] at h1
      rw [← h1]
      try rfl
  have := hf x
  cases e : f x with
  | none =>
    rw [e] at this
    rw [ns, this]
  | some vs =>
    rw [e] at this
    obtain ⟨a, h3, h4⟩ := this
    exact ⟨a, by rw [ns, h3], h4⟩
theorem sq_mk {K : PySem.W.Frag} {a : Addr} {dd : Option Addr} {its : List Value} {n : Nat} {sl : Array (Option Value)} {xs : List V} (l : K.lookup a = some ⟨.type "tuple", dd, .seq its.toArray n, sl⟩) (hl : its.length ≤ 100) (v : Vals xs its) (H : Hp) : SqT K H a xs :=
  .inr ⟨_, its.toArray, n, l, rfl, rfl, by rw [List.size_toArray]; exact Nat.le_trans hl (by decide), by simpa using v⟩
inductive FA2 (K : PySem.W.Frag) : List (Str × Value) → List (Str × List V) → Prop
  | nil : FA2 K [] []
  | cons {p : Str × Value} {q : Str × List V} {tab : List (Str × Value)} {ft : List (Str × List V)} (h : p.1 = q.1 ∧ ∃ a, p.2 = .ref a ∧ ∀ H, SqT K H a q.2) (r : FA2 K tab ft) : FA2 K (p :: tab) (q :: ft)
theorem tab_mk {K : PySem.W.Frag} {f : Str → Option (List V)} : ∀ {tab : List (Str × Value)} {ft : List (Str × List V)}, FA2 K tab ft → (∀ x, f x = ft.lookup x) → ∀ x, match f x with | none => tab.lookup x = none | some vs => ∃ a, tab.lookup x = some (.ref a) ∧ ∀ H, SqT K H a vs := by
  intro tab ft h hf x
  rw [hf x]
  clear hf
  induction h with
  | nil => rfl
  | cons h r ih =>
    rename_i p q tab ft
    obtain ⟨e1, a, e2, e3⟩ := h
    obtain ⟨pk, pv⟩ := p
    obtain ⟨qk, qv⟩ := q
    dsimp only at e1 e2 e3
    subst e1 e2
    rw [List.lookup_cons, List.lookup_cons]
    cases hx : (x == pk) with
    | true => exact ⟨a, rfl, e3⟩
    | false => exact ih
theorem exm_self {K : PySem.W.Frag} {S : Addr} (h1 : PySem.W.subIn K (.ref S) (.type "BaseException") = some true) (h2 : PySem.W.isClsIn K S = true) (h3 : PySem.W.typeIn K (.ref S) = some (.type "type")) (h4 : PySem.W.subIn K (.ref S) (.ref S) = some true) :
    PySem.W.exmOne K (.ref S) (.ref S) = some true := by
  have e1 : (PySem.W.subIn K (.ref S) (.type "BaseException") == some true) = true := by rw [h1] <;> rfl
  have e2 : ((PySem.W.clsIn K S).isSome && PySem.W.typeIn K (.ref S) == some (.type "type")) = true := by
    have h2' : (PySem.W.clsIn K S).isSome = true := h2
    rw [h2', h3] <;> rfl
  show (if (PySem.W.subIn K (.ref S) (.type "BaseException") == some true) = true then (if ((PySem.W.clsIn K S).isSome && PySem.W.typeIn K (.ref S) == some (.type "type")) = true then PySem.W.subIn K (.ref S) (.ref S) else none) else none) = some true
  rw [if_pos e1, if_pos e2]
  exact h4
def formsT : List (Str × List V) := formsL.map fun p => (p.1, p.2.map V.str)
def rangesT : List (Str × List V) := rangesL.map fun p => (p.1, [.int p.2.1, .int p.2.2])
theorem lookup_map {α β : Type} (g : α → β) (x : Str) : ∀ l : List (Str × α), (l.map fun p => (p.1, g p.2)).lookup x = (l.lookup x).map g
  | [] => rfl
  | p :: r => by
    rw [List.map_cons, List.lookup_cons, List.lookup_cons]
    cases (x == p.1) with
    | true => rfl
    | false => exact lookup_map g x r
theorem formsT_of (x : Str) : formsV x = formsT.lookup x := (lookup_map (fun rs : List Str => rs.map V.str) x formsL).symm
theorem rangesT_of (x : Str) : rangesV x = rangesT.lookup x := (lookup_map (fun p : Int × Int => [V.int p.1, V.int p.2]) x rangesL).symm
theorem all_mk {l : PySem.W.OpenLaw} {w : World} {K : PySem.W.Frag} {h : Heap} {mg : Str → Option Value} {fa CStoreError CBadValue CUnknown CBadLine CBroken CNotHeld CFault CNoRoom CCut f_init_BadValue f_init_BadLine f_is_whole f_is_power f_is_name f_is_part f_is_text f_is_number_word f_is_written_part f_wrong_word f_column_of f_least_words f_request_of f_parse_requests f_law_draws f_law_next_cell f_law_mixed f_law_take f_law_among f_law_between f_law_number f_law_count f_law_alignment f_law_power f_law_chars f_law_text f_law_user f_law_same f_law_name f_law_titles f_law_part_bounds f_law_request f_law_line f_law_bad_word f_law_bad_line f_law_bad_text f_law_not_text f_law_number_word f_law_part_word f_law_line_read f_law_text_read f_law_bent_text f_law_parse_told f_law_refuses_value f_law dF aF0 aF1 aF2 aF3 aF4 aF5 aF6 aF7 aF8 aF9 aF10 aF11 aF12 aF13 aF14 dR aR0 aR1 aR2 aR3 aR4 aR5 aR6 aR7 : Addr} (X : K.In h) (G : h.Ns mainGlobals mg) (hfa : mg "law" = some (.ref fa))
    {od_init_BadValue an_init_BadValue : Option Addr} {sl_init_BadValue : Array (Option Value)} {oc_init_BadValue kV_init_BadValue dc_init_BadValue pm_init_BadValue cd_init_BadValue ct_init_BadValue : Value}
    {od_init_BadLine an_init_BadLine : Option Addr} {sl_init_BadLine : Array (Option Value)} {oc_init_BadLine kV_init_BadLine dc_init_BadLine pm_init_BadLine cd_init_BadLine ct_init_BadLine : Value}
    {od_is_whole an_is_whole : Option Addr} {sl_is_whole : Array (Option Value)} {oc_is_whole kV_is_whole dc_is_whole pm_is_whole cd_is_whole ct_is_whole : Value}
    {od_is_power an_is_power : Option Addr} {sl_is_power : Array (Option Value)} {oc_is_power kV_is_power dc_is_power pm_is_power cd_is_power ct_is_power : Value}
    {od_is_name an_is_name : Option Addr} {sl_is_name : Array (Option Value)} {oc_is_name kV_is_name dc_is_name pm_is_name cd_is_name ct_is_name : Value}
    {od_is_part an_is_part : Option Addr} {sl_is_part : Array (Option Value)} {oc_is_part kV_is_part dc_is_part pm_is_part cd_is_part ct_is_part : Value}
    {od_is_text an_is_text : Option Addr} {sl_is_text : Array (Option Value)} {oc_is_text kV_is_text dc_is_text pm_is_text cd_is_text ct_is_text : Value}
    {od_is_number_word an_is_number_word : Option Addr} {sl_is_number_word : Array (Option Value)} {oc_is_number_word kV_is_number_word dc_is_number_word pm_is_number_word cd_is_number_word ct_is_number_word : Value}
    {od_is_written_part an_is_written_part : Option Addr} {sl_is_written_part : Array (Option Value)} {oc_is_written_part kV_is_written_part dc_is_written_part pm_is_written_part cd_is_written_part ct_is_written_part : Value}
    {od_wrong_word an_wrong_word : Option Addr} {sl_wrong_word : Array (Option Value)} {oc_wrong_word kV_wrong_word dc_wrong_word pm_wrong_word cd_wrong_word ct_wrong_word : Value}
    {od_column_of an_column_of : Option Addr} {sl_column_of : Array (Option Value)} {oc_column_of kV_column_of dc_column_of pm_column_of cd_column_of ct_column_of : Value}
    {od_least_words an_least_words : Option Addr} {sl_least_words : Array (Option Value)} {oc_least_words kV_least_words dc_least_words pm_least_words cd_least_words ct_least_words : Value}
    {od_request_of an_request_of : Option Addr} {sl_request_of : Array (Option Value)} {oc_request_of kV_request_of dc_request_of pm_request_of cd_request_of ct_request_of : Value}
    {od_parse_requests an_parse_requests : Option Addr} {sl_parse_requests : Array (Option Value)} {oc_parse_requests kV_parse_requests dc_parse_requests pm_parse_requests cd_parse_requests ct_parse_requests : Value}
    {od_law_draws an_law_draws : Option Addr} {sl_law_draws : Array (Option Value)} {oc_law_draws kV_law_draws dc_law_draws pm_law_draws cd_law_draws ct_law_draws : Value}
    {od_law_next_cell an_law_next_cell : Option Addr} {sl_law_next_cell : Array (Option Value)} {oc_law_next_cell kV_law_next_cell dc_law_next_cell pm_law_next_cell cd_law_next_cell ct_law_next_cell : Value}
    {od_law_mixed an_law_mixed : Option Addr} {sl_law_mixed : Array (Option Value)} {oc_law_mixed kV_law_mixed dc_law_mixed pm_law_mixed cd_law_mixed ct_law_mixed : Value}
    {od_law_take an_law_take : Option Addr} {sl_law_take : Array (Option Value)} {oc_law_take kV_law_take dc_law_take pm_law_take cd_law_take ct_law_take : Value}
    {od_law_among an_law_among : Option Addr} {sl_law_among : Array (Option Value)} {oc_law_among kV_law_among dc_law_among pm_law_among cd_law_among ct_law_among : Value}
    {od_law_between an_law_between : Option Addr} {sl_law_between : Array (Option Value)} {oc_law_between kV_law_between dc_law_between pm_law_between cd_law_between ct_law_between : Value}
    {od_law_number an_law_number : Option Addr} {sl_law_number : Array (Option Value)} {oc_law_number kV_law_number dc_law_number pm_law_number cd_law_number ct_law_number : Value}
    {od_law_count an_law_count : Option Addr} {sl_law_count : Array (Option Value)} {oc_law_count kV_law_count dc_law_count pm_law_count cd_law_count ct_law_count : Value}
    {od_law_alignment an_law_alignment : Option Addr} {sl_law_alignment : Array (Option Value)} {oc_law_alignment kV_law_alignment dc_law_alignment pm_law_alignment cd_law_alignment ct_law_alignment : Value}
    {od_law_power an_law_power : Option Addr} {sl_law_power : Array (Option Value)} {oc_law_power kV_law_power dc_law_power pm_law_power cd_law_power ct_law_power : Value}
    {od_law_chars an_law_chars : Option Addr} {sl_law_chars : Array (Option Value)} {oc_law_chars kV_law_chars dc_law_chars pm_law_chars cd_law_chars ct_law_chars : Value}
    {od_law_text an_law_text : Option Addr} {sl_law_text : Array (Option Value)} {oc_law_text kV_law_text dc_law_text pm_law_text cd_law_text ct_law_text : Value}
    {od_law_user an_law_user : Option Addr} {sl_law_user : Array (Option Value)} {oc_law_user kV_law_user dc_law_user pm_law_user cd_law_user ct_law_user : Value}
    {od_law_same an_law_same : Option Addr} {sl_law_same : Array (Option Value)} {oc_law_same kV_law_same dc_law_same pm_law_same cd_law_same ct_law_same : Value}
    {od_law_name an_law_name : Option Addr} {sl_law_name : Array (Option Value)} {oc_law_name kV_law_name dc_law_name pm_law_name cd_law_name ct_law_name : Value}
    {od_law_titles an_law_titles : Option Addr} {sl_law_titles : Array (Option Value)} {oc_law_titles kV_law_titles dc_law_titles pm_law_titles cd_law_titles ct_law_titles : Value}
    {od_law_part_bounds an_law_part_bounds : Option Addr} {sl_law_part_bounds : Array (Option Value)} {oc_law_part_bounds kV_law_part_bounds dc_law_part_bounds pm_law_part_bounds cd_law_part_bounds ct_law_part_bounds : Value}
    {od_law_request an_law_request : Option Addr} {sl_law_request : Array (Option Value)} {oc_law_request kV_law_request dc_law_request pm_law_request cd_law_request ct_law_request : Value}
    {od_law_line an_law_line : Option Addr} {sl_law_line : Array (Option Value)} {oc_law_line kV_law_line dc_law_line pm_law_line cd_law_line ct_law_line : Value}
    {od_law_bad_word an_law_bad_word : Option Addr} {sl_law_bad_word : Array (Option Value)} {oc_law_bad_word kV_law_bad_word dc_law_bad_word pm_law_bad_word cd_law_bad_word ct_law_bad_word : Value}
    {od_law_bad_line an_law_bad_line : Option Addr} {sl_law_bad_line : Array (Option Value)} {oc_law_bad_line kV_law_bad_line dc_law_bad_line pm_law_bad_line cd_law_bad_line ct_law_bad_line : Value}
    {od_law_bad_text an_law_bad_text : Option Addr} {sl_law_bad_text : Array (Option Value)} {oc_law_bad_text kV_law_bad_text dc_law_bad_text pm_law_bad_text cd_law_bad_text ct_law_bad_text : Value}
    {od_law_not_text an_law_not_text : Option Addr} {sl_law_not_text : Array (Option Value)} {oc_law_not_text kV_law_not_text dc_law_not_text pm_law_not_text cd_law_not_text ct_law_not_text : Value}
    {od_law_number_word an_law_number_word : Option Addr} {sl_law_number_word : Array (Option Value)} {oc_law_number_word kV_law_number_word dc_law_number_word pm_law_number_word cd_law_number_word ct_law_number_word : Value}
    {od_law_part_word an_law_part_word : Option Addr} {sl_law_part_word : Array (Option Value)} {oc_law_part_word kV_law_part_word dc_law_part_word pm_law_part_word cd_law_part_word ct_law_part_word : Value}
    {od_law_line_read an_law_line_read : Option Addr} {sl_law_line_read : Array (Option Value)} {oc_law_line_read kV_law_line_read dc_law_line_read pm_law_line_read cd_law_line_read ct_law_line_read : Value}
    {od_law_text_read an_law_text_read : Option Addr} {sl_law_text_read : Array (Option Value)} {oc_law_text_read kV_law_text_read dc_law_text_read pm_law_text_read cd_law_text_read ct_law_text_read : Value}
    {od_law_bent_text an_law_bent_text : Option Addr} {sl_law_bent_text : Array (Option Value)} {oc_law_bent_text kV_law_bent_text dc_law_bent_text pm_law_bent_text cd_law_bent_text ct_law_bent_text : Value}
    {od_law_parse_told an_law_parse_told : Option Addr} {sl_law_parse_told : Array (Option Value)} {oc_law_parse_told kV_law_parse_told dc_law_parse_told pm_law_parse_told cd_law_parse_told ct_law_parse_told : Value}
    {od_law_refuses_value an_law_refuses_value : Option Addr} {sl_law_refuses_value : Array (Option Value)} {oc_law_refuses_value kV_law_refuses_value dc_law_refuses_value pm_law_refuses_value cd_law_refuses_value ct_law_refuses_value : Value}
    {od_law an_law : Option Addr} {sl_law : Array (Option Value)} {oc_law kV_law dc_law pm_law cd_law ct_law : Value}
    {nmBadValue qBadValue : Str} {NBadValue : Addr} {bsBadValue : List Value} {snBadValue : List Str} {suBadValue : List Value} {abBadValue : Bool} {coBadValue : Option Bool} {ddBadValue : Option Addr} {m0BadValue m1BadValue m2BadValue m3BadValue m5BadValue : Option Value}
    {nmBadLine qBadLine : Str} {NBadLine : Addr} {bsBadLine : List Value} {snBadLine : List Str} {suBadLine : List Value} {abBadLine : Bool} {coBadLine : Option Bool} {ddBadLine : Option Addr} {m0BadLine m1BadLine m2BadLine m3BadLine m5BadLine : Option Value}
    {esF : Array DictEntry} {nF : Nat}
    {eF0 : Option Addr} {zF0 : Nat} {yF0 : Array (Option Value)} {tF0_0 tF0_1 tF0_2 tF0_3 : Tok}
    {eF1 : Option Addr} {zF1 : Nat} {yF1 : Array (Option Value)} {tF1_0 tF1_1 tF1_2 : Tok}
    {eF2 : Option Addr} {zF2 : Nat} {yF2 : Array (Option Value)} {tF2_0 tF2_1 : Tok}
    {eF3 : Option Addr} {zF3 : Nat} {yF3 : Array (Option Value)} {tF3_0 tF3_1 tF3_2 : Tok}
    {eF4 : Option Addr} {zF4 : Nat} {yF4 : Array (Option Value)} {tF4_0 tF4_1 tF4_2 tF4_3 : Tok}
    {eF5 : Option Addr} {zF5 : Nat} {yF5 : Array (Option Value)} {tF5_0 tF5_1 tF5_2 : Tok}
    {eF6 : Option Addr} {zF6 : Nat} {yF6 : Array (Option Value)} {tF6_0 tF6_1 tF6_2 : Tok}
    {eF7 : Option Addr} {zF7 : Nat} {yF7 : Array (Option Value)} {tF7_0 tF7_1 : Tok}
    {eF8 : Option Addr} {zF8 : Nat} {yF8 : Array (Option Value)} {tF8_0 tF8_1 tF8_2 : Tok}
    {eF9 : Option Addr} {zF9 : Nat} {yF9 : Array (Option Value)} {tF9_0 tF9_1 tF9_2 : Tok}
    {eF10 : Option Addr} {zF10 : Nat} {yF10 : Array (Option Value)} {tF10_0 tF10_1 tF10_2 tF10_3 : Tok}
    {eF11 : Option Addr} {zF11 : Nat} {yF11 : Array (Option Value)} {tF11_0 tF11_1 tF11_2 : Tok}
    {eF12 : Option Addr} {zF12 : Nat} {yF12 : Array (Option Value)} {tF12_0 tF12_1 : Tok}
    {eF13 : Option Addr} {zF13 : Nat} {yF13 : Array (Option Value)}
    {eF14 : Option Addr} {zF14 : Nat} {yF14 : Array (Option Value)}
    {esR : Array DictEntry} {nR : Nat}
    {eR0 : Option Addr} {zR0 : Nat} {yR0 : Array (Option Value)} {tR0_0 tR0_1 : Tok}
    {eR1 : Option Addr} {zR1 : Nat} {yR1 : Array (Option Value)} {tR1_0 tR1_1 : Tok}
    {eR2 : Option Addr} {zR2 : Nat} {yR2 : Array (Option Value)} {tR2_0 tR2_1 : Tok}
    {eR3 : Option Addr} {zR3 : Nat} {yR3 : Array (Option Value)} {tR3_0 tR3_1 : Tok}
    {eR4 : Option Addr} {zR4 : Nat} {yR4 : Array (Option Value)} {tR4_0 tR4_1 : Tok}
    {eR5 : Option Addr} {zR5 : Nat} {yR5 : Array (Option Value)} {tR5_0 tR5_1 : Tok}
    {eR6 : Option Addr} {zR6 : Nat} {yR6 : Array (Option Value)} {tR6_0 tR6_1 : Tok}
    {eR7 : Option Addr} {zR7 : Nat} {yR7 : Array (Option Value)} {tR7_0 tR7_1 : Tok}
    (aStoreError : PySem.W.nsIn K mainGlobals "StoreError" = some (some (.ref CStoreError)))
    (aBadValue : PySem.W.nsIn K mainGlobals "BadValue" = some (some (.ref CBadValue)))
    (aUnknown : PySem.W.nsIn K mainGlobals "Unknown" = some (some (.ref CUnknown)))
    (aBadLine : PySem.W.nsIn K mainGlobals "BadLine" = some (some (.ref CBadLine)))
    (aBroken : PySem.W.nsIn K mainGlobals "Broken" = some (some (.ref CBroken)))
    (aNotHeld : PySem.W.nsIn K mainGlobals "NotHeld" = some (some (.ref CNotHeld)))
    (aFault : PySem.W.nsIn K mainGlobals "Fault" = some (some (.ref CFault)))
    (aNoRoom : PySem.W.nsIn K mainGlobals "NoRoom" = some (some (.ref CNoRoom)))
    (aCut : PySem.W.nsIn K mainGlobals "Cut" = some (some (.ref CCut)))
    (a_init_BadValue : PySem.W.findIn K (.ref CBadValue) "__init__" = some (some (.ref f_init_BadValue)))
    (t_init_BadValue : PySem.W.typeIn K (.ref f_init_BadValue) = some (.type "function"))
    (l_init_BadValue : K.lookup f_init_BadValue = some ⟨oc_init_BadValue, od_init_BadValue, .func (PySem.W.fnOf "__init__" "BadValue.__init__" (defArgs S_init_BadValue) (defBody S_init_BadValue) (defScope S_init_BadValue) .none kV_init_BadValue dc_init_BadValue pm_init_BadValue an_init_BadValue cd_init_BadValue ct_init_BadValue), sl_init_BadValue⟩)
    (c_init_BadValue : PySem.W.codeIn K cd_init_BadValue "BadValue.__init__" = true)
    (k_init_BadValue : PySem.W.keepIn K (.ref f_init_BadValue) = true)
    (a_init_BadLine : PySem.W.findIn K (.ref CBadLine) "__init__" = some (some (.ref f_init_BadLine)))
    (t_init_BadLine : PySem.W.typeIn K (.ref f_init_BadLine) = some (.type "function"))
    (l_init_BadLine : K.lookup f_init_BadLine = some ⟨oc_init_BadLine, od_init_BadLine, .func (PySem.W.fnOf "__init__" "BadLine.__init__" (defArgs S_init_BadLine) (defBody S_init_BadLine) (defScope S_init_BadLine) .none kV_init_BadLine dc_init_BadLine pm_init_BadLine an_init_BadLine cd_init_BadLine ct_init_BadLine), sl_init_BadLine⟩)
    (c_init_BadLine : PySem.W.codeIn K cd_init_BadLine "BadLine.__init__" = true)
    (k_init_BadLine : PySem.W.keepIn K (.ref f_init_BadLine) = true)
    (a_is_whole : PySem.W.nsIn K mainGlobals "is_whole" = some (some (.ref f_is_whole)))
    (l_is_whole : K.lookup f_is_whole = some ⟨oc_is_whole, od_is_whole, .func (PySem.W.fnOf "is_whole" "is_whole" (defArgs S_is_whole) (defBody S_is_whole) (defScope S_is_whole) .none kV_is_whole dc_is_whole pm_is_whole an_is_whole cd_is_whole ct_is_whole), sl_is_whole⟩)
    (c_is_whole : PySem.W.codeIn K cd_is_whole "is_whole" = true)
    (k_is_whole : PySem.W.keepIn K (.ref f_is_whole) = true)
    (a_is_power : PySem.W.nsIn K mainGlobals "is_power" = some (some (.ref f_is_power)))
    (l_is_power : K.lookup f_is_power = some ⟨oc_is_power, od_is_power, .func (PySem.W.fnOf "is_power" "is_power" (defArgs S_is_power) (defBody S_is_power) (defScope S_is_power) .none kV_is_power dc_is_power pm_is_power an_is_power cd_is_power ct_is_power), sl_is_power⟩)
    (c_is_power : PySem.W.codeIn K cd_is_power "is_power" = true)
    (k_is_power : PySem.W.keepIn K (.ref f_is_power) = true)
    (a_is_name : PySem.W.nsIn K mainGlobals "is_name" = some (some (.ref f_is_name)))
    (l_is_name : K.lookup f_is_name = some ⟨oc_is_name, od_is_name, .func (PySem.W.fnOf "is_name" "is_name" (defArgs S_is_name) (defBody S_is_name) (defScope S_is_name) .none kV_is_name dc_is_name pm_is_name an_is_name cd_is_name ct_is_name), sl_is_name⟩)
    (c_is_name : PySem.W.codeIn K cd_is_name "is_name" = true)
    (k_is_name : PySem.W.keepIn K (.ref f_is_name) = true)
    (a_is_part : PySem.W.nsIn K mainGlobals "is_part" = some (some (.ref f_is_part)))
    (l_is_part : K.lookup f_is_part = some ⟨oc_is_part, od_is_part, .func (PySem.W.fnOf "is_part" "is_part" (defArgs S_is_part) (defBody S_is_part) (defScope S_is_part) .none kV_is_part dc_is_part pm_is_part an_is_part cd_is_part ct_is_part), sl_is_part⟩)
    (c_is_part : PySem.W.codeIn K cd_is_part "is_part" = true)
    (k_is_part : PySem.W.keepIn K (.ref f_is_part) = true)
    (a_is_text : PySem.W.nsIn K mainGlobals "is_text" = some (some (.ref f_is_text)))
    (l_is_text : K.lookup f_is_text = some ⟨oc_is_text, od_is_text, .func (PySem.W.fnOf "is_text" "is_text" (defArgs S_is_text) (defBody S_is_text) (defScope S_is_text) .none kV_is_text dc_is_text pm_is_text an_is_text cd_is_text ct_is_text), sl_is_text⟩)
    (c_is_text : PySem.W.codeIn K cd_is_text "is_text" = true)
    (k_is_text : PySem.W.keepIn K (.ref f_is_text) = true)
    (a_is_number_word : PySem.W.nsIn K mainGlobals "is_number_word" = some (some (.ref f_is_number_word)))
    (l_is_number_word : K.lookup f_is_number_word = some ⟨oc_is_number_word, od_is_number_word, .func (PySem.W.fnOf "is_number_word" "is_number_word" (defArgs S_is_number_word) (defBody S_is_number_word) (defScope S_is_number_word) .none kV_is_number_word dc_is_number_word pm_is_number_word an_is_number_word cd_is_number_word ct_is_number_word), sl_is_number_word⟩)
    (c_is_number_word : PySem.W.codeIn K cd_is_number_word "is_number_word" = true)
    (k_is_number_word : PySem.W.keepIn K (.ref f_is_number_word) = true)
    (a_is_written_part : PySem.W.nsIn K mainGlobals "is_written_part" = some (some (.ref f_is_written_part)))
    (l_is_written_part : K.lookup f_is_written_part = some ⟨oc_is_written_part, od_is_written_part, .func (PySem.W.fnOf "is_written_part" "is_written_part" (defArgs S_is_written_part) (defBody S_is_written_part) (defScope S_is_written_part) .none kV_is_written_part dc_is_written_part pm_is_written_part an_is_written_part cd_is_written_part ct_is_written_part), sl_is_written_part⟩)
    (c_is_written_part : PySem.W.codeIn K cd_is_written_part "is_written_part" = true)
    (k_is_written_part : PySem.W.keepIn K (.ref f_is_written_part) = true)
    (a_wrong_word : PySem.W.nsIn K mainGlobals "wrong_word" = some (some (.ref f_wrong_word)))
    (l_wrong_word : K.lookup f_wrong_word = some ⟨oc_wrong_word, od_wrong_word, .func (PySem.W.fnOf "wrong_word" "wrong_word" (defArgs S_wrong_word) (defBody S_wrong_word) (defScope S_wrong_word) .none kV_wrong_word dc_wrong_word pm_wrong_word an_wrong_word cd_wrong_word ct_wrong_word), sl_wrong_word⟩)
    (c_wrong_word : PySem.W.codeIn K cd_wrong_word "wrong_word" = true)
    (k_wrong_word : PySem.W.keepIn K (.ref f_wrong_word) = true)
    (a_column_of : PySem.W.nsIn K mainGlobals "column_of" = some (some (.ref f_column_of)))
    (l_column_of : K.lookup f_column_of = some ⟨oc_column_of, od_column_of, .func (PySem.W.fnOf "column_of" "column_of" (defArgs S_column_of) (defBody S_column_of) (defScope S_column_of) .none kV_column_of dc_column_of pm_column_of an_column_of cd_column_of ct_column_of), sl_column_of⟩)
    (c_column_of : PySem.W.codeIn K cd_column_of "column_of" = true)
    (k_column_of : PySem.W.keepIn K (.ref f_column_of) = true)
    (a_least_words : PySem.W.nsIn K mainGlobals "least_words" = some (some (.ref f_least_words)))
    (l_least_words : K.lookup f_least_words = some ⟨oc_least_words, od_least_words, .func (PySem.W.fnOf "least_words" "least_words" (defArgs S_least_words) (defBody S_least_words) (defScope S_least_words) .none kV_least_words dc_least_words pm_least_words an_least_words cd_least_words ct_least_words), sl_least_words⟩)
    (c_least_words : PySem.W.codeIn K cd_least_words "least_words" = true)
    (k_least_words : PySem.W.keepIn K (.ref f_least_words) = true)
    (a_request_of : PySem.W.nsIn K mainGlobals "request_of" = some (some (.ref f_request_of)))
    (l_request_of : K.lookup f_request_of = some ⟨oc_request_of, od_request_of, .func (PySem.W.fnOf "request_of" "request_of" (defArgs S_request_of) (defBody S_request_of) (defScope S_request_of) .none kV_request_of dc_request_of pm_request_of an_request_of cd_request_of ct_request_of), sl_request_of⟩)
    (c_request_of : PySem.W.codeIn K cd_request_of "request_of" = true)
    (k_request_of : PySem.W.keepIn K (.ref f_request_of) = true)
    (a_parse_requests : PySem.W.nsIn K mainGlobals "parse_requests" = some (some (.ref f_parse_requests)))
    (l_parse_requests : K.lookup f_parse_requests = some ⟨oc_parse_requests, od_parse_requests, .func (PySem.W.fnOf "parse_requests" "parse_requests" (defArgs S_parse_requests) (defBody S_parse_requests) (defScope S_parse_requests) .none kV_parse_requests dc_parse_requests pm_parse_requests an_parse_requests cd_parse_requests ct_parse_requests), sl_parse_requests⟩)
    (c_parse_requests : PySem.W.codeIn K cd_parse_requests "parse_requests" = true)
    (k_parse_requests : PySem.W.keepIn K (.ref f_parse_requests) = true)
    (a_law_draws : PySem.W.nsIn K mainGlobals "_law_draws" = some (some (.ref f_law_draws)))
    (l_law_draws : K.lookup f_law_draws = some ⟨oc_law_draws, od_law_draws, .func (PySem.W.fnOf "_law_draws" "_law_draws" (defArgs S_law_draws) (defBody S_law_draws) (defScope S_law_draws) .none kV_law_draws dc_law_draws pm_law_draws an_law_draws cd_law_draws ct_law_draws), sl_law_draws⟩)
    (c_law_draws : PySem.W.codeIn K cd_law_draws "_law_draws" = true)
    (k_law_draws : PySem.W.keepIn K (.ref f_law_draws) = true)
    (a_law_next_cell : PySem.W.nsIn K mainGlobals "_law_next_cell" = some (some (.ref f_law_next_cell)))
    (l_law_next_cell : K.lookup f_law_next_cell = some ⟨oc_law_next_cell, od_law_next_cell, .func (PySem.W.fnOf "_law_next_cell" "_law_next_cell" (defArgs S_law_next_cell) (defBody S_law_next_cell) (defScope S_law_next_cell) .none kV_law_next_cell dc_law_next_cell pm_law_next_cell an_law_next_cell cd_law_next_cell ct_law_next_cell), sl_law_next_cell⟩)
    (c_law_next_cell : PySem.W.codeIn K cd_law_next_cell "_law_next_cell" = true)
    (k_law_next_cell : PySem.W.keepIn K (.ref f_law_next_cell) = true)
    (a_law_mixed : PySem.W.nsIn K mainGlobals "_law_mixed" = some (some (.ref f_law_mixed)))
    (l_law_mixed : K.lookup f_law_mixed = some ⟨oc_law_mixed, od_law_mixed, .func (PySem.W.fnOf "_law_mixed" "_law_mixed" (defArgs S_law_mixed) (defBody S_law_mixed) (defScope S_law_mixed) .none kV_law_mixed dc_law_mixed pm_law_mixed an_law_mixed cd_law_mixed ct_law_mixed), sl_law_mixed⟩)
    (c_law_mixed : PySem.W.codeIn K cd_law_mixed "_law_mixed" = true)
    (k_law_mixed : PySem.W.keepIn K (.ref f_law_mixed) = true)
    (a_law_take : PySem.W.nsIn K mainGlobals "_law_take" = some (some (.ref f_law_take)))
    (l_law_take : K.lookup f_law_take = some ⟨oc_law_take, od_law_take, .func (PySem.W.fnOf "_law_take" "_law_take" (defArgs S_law_take) (defBody S_law_take) (defScope S_law_take) .none kV_law_take dc_law_take pm_law_take an_law_take cd_law_take ct_law_take), sl_law_take⟩)
    (c_law_take : PySem.W.codeIn K cd_law_take "_law_take" = true)
    (k_law_take : PySem.W.keepIn K (.ref f_law_take) = true)
    (a_law_among : PySem.W.nsIn K mainGlobals "_law_among" = some (some (.ref f_law_among)))
    (l_law_among : K.lookup f_law_among = some ⟨oc_law_among, od_law_among, .func (PySem.W.fnOf "_law_among" "_law_among" (defArgs S_law_among) (defBody S_law_among) (defScope S_law_among) .none kV_law_among dc_law_among pm_law_among an_law_among cd_law_among ct_law_among), sl_law_among⟩)
    (c_law_among : PySem.W.codeIn K cd_law_among "_law_among" = true)
    (k_law_among : PySem.W.keepIn K (.ref f_law_among) = true)
    (a_law_between : PySem.W.nsIn K mainGlobals "_law_between" = some (some (.ref f_law_between)))
    (l_law_between : K.lookup f_law_between = some ⟨oc_law_between, od_law_between, .func (PySem.W.fnOf "_law_between" "_law_between" (defArgs S_law_between) (defBody S_law_between) (defScope S_law_between) .none kV_law_between dc_law_between pm_law_between an_law_between cd_law_between ct_law_between), sl_law_between⟩)
    (c_law_between : PySem.W.codeIn K cd_law_between "_law_between" = true)
    (k_law_between : PySem.W.keepIn K (.ref f_law_between) = true)
    (a_law_number : PySem.W.nsIn K mainGlobals "_law_number" = some (some (.ref f_law_number)))
    (l_law_number : K.lookup f_law_number = some ⟨oc_law_number, od_law_number, .func (PySem.W.fnOf "_law_number" "_law_number" (defArgs S_law_number) (defBody S_law_number) (defScope S_law_number) .none kV_law_number dc_law_number pm_law_number an_law_number cd_law_number ct_law_number), sl_law_number⟩)
    (c_law_number : PySem.W.codeIn K cd_law_number "_law_number" = true)
    (k_law_number : PySem.W.keepIn K (.ref f_law_number) = true)
    (a_law_count : PySem.W.nsIn K mainGlobals "_law_count" = some (some (.ref f_law_count)))
    (l_law_count : K.lookup f_law_count = some ⟨oc_law_count, od_law_count, .func (PySem.W.fnOf "_law_count" "_law_count" (defArgs S_law_count) (defBody S_law_count) (defScope S_law_count) .none kV_law_count dc_law_count pm_law_count an_law_count cd_law_count ct_law_count), sl_law_count⟩)
    (c_law_count : PySem.W.codeIn K cd_law_count "_law_count" = true)
    (k_law_count : PySem.W.keepIn K (.ref f_law_count) = true)
    (a_law_alignment : PySem.W.nsIn K mainGlobals "_law_alignment" = some (some (.ref f_law_alignment)))
    (l_law_alignment : K.lookup f_law_alignment = some ⟨oc_law_alignment, od_law_alignment, .func (PySem.W.fnOf "_law_alignment" "_law_alignment" (defArgs S_law_alignment) (defBody S_law_alignment) (defScope S_law_alignment) .none kV_law_alignment dc_law_alignment pm_law_alignment an_law_alignment cd_law_alignment ct_law_alignment), sl_law_alignment⟩)
    (c_law_alignment : PySem.W.codeIn K cd_law_alignment "_law_alignment" = true)
    (k_law_alignment : PySem.W.keepIn K (.ref f_law_alignment) = true)
    (a_law_power : PySem.W.nsIn K mainGlobals "_law_power" = some (some (.ref f_law_power)))
    (l_law_power : K.lookup f_law_power = some ⟨oc_law_power, od_law_power, .func (PySem.W.fnOf "_law_power" "_law_power" (defArgs S_law_power) (defBody S_law_power) (defScope S_law_power) .none kV_law_power dc_law_power pm_law_power an_law_power cd_law_power ct_law_power), sl_law_power⟩)
    (c_law_power : PySem.W.codeIn K cd_law_power "_law_power" = true)
    (k_law_power : PySem.W.keepIn K (.ref f_law_power) = true)
    (a_law_chars : PySem.W.nsIn K mainGlobals "_law_chars" = some (some (.ref f_law_chars)))
    (l_law_chars : K.lookup f_law_chars = some ⟨oc_law_chars, od_law_chars, .func (PySem.W.fnOf "_law_chars" "_law_chars" (defArgs S_law_chars) (defBody S_law_chars) (defScope S_law_chars) .none kV_law_chars dc_law_chars pm_law_chars an_law_chars cd_law_chars ct_law_chars), sl_law_chars⟩)
    (c_law_chars : PySem.W.codeIn K cd_law_chars "_law_chars" = true)
    (k_law_chars : PySem.W.keepIn K (.ref f_law_chars) = true)
    (a_law_text : PySem.W.nsIn K mainGlobals "_law_text" = some (some (.ref f_law_text)))
    (l_law_text : K.lookup f_law_text = some ⟨oc_law_text, od_law_text, .func (PySem.W.fnOf "_law_text" "_law_text" (defArgs S_law_text) (defBody S_law_text) (defScope S_law_text) .none kV_law_text dc_law_text pm_law_text an_law_text cd_law_text ct_law_text), sl_law_text⟩)
    (c_law_text : PySem.W.codeIn K cd_law_text "_law_text" = true)
    (k_law_text : PySem.W.keepIn K (.ref f_law_text) = true)
    (a_law_user : PySem.W.nsIn K mainGlobals "_law_user" = some (some (.ref f_law_user)))
    (l_law_user : K.lookup f_law_user = some ⟨oc_law_user, od_law_user, .func (PySem.W.fnOf "_law_user" "_law_user" (defArgs S_law_user) (defBody S_law_user) (defScope S_law_user) .none kV_law_user dc_law_user pm_law_user an_law_user cd_law_user ct_law_user), sl_law_user⟩)
    (c_law_user : PySem.W.codeIn K cd_law_user "_law_user" = true)
    (k_law_user : PySem.W.keepIn K (.ref f_law_user) = true)
    (a_law_same : PySem.W.nsIn K mainGlobals "_law_same" = some (some (.ref f_law_same)))
    (l_law_same : K.lookup f_law_same = some ⟨oc_law_same, od_law_same, .func (PySem.W.fnOf "_law_same" "_law_same" (defArgs S_law_same) (defBody S_law_same) (defScope S_law_same) .none kV_law_same dc_law_same pm_law_same an_law_same cd_law_same ct_law_same), sl_law_same⟩)
    (c_law_same : PySem.W.codeIn K cd_law_same "_law_same" = true)
    (k_law_same : PySem.W.keepIn K (.ref f_law_same) = true)
    (a_law_name : PySem.W.nsIn K mainGlobals "_law_name" = some (some (.ref f_law_name)))
    (l_law_name : K.lookup f_law_name = some ⟨oc_law_name, od_law_name, .func (PySem.W.fnOf "_law_name" "_law_name" (defArgs S_law_name) (defBody S_law_name) (defScope S_law_name) .none kV_law_name dc_law_name pm_law_name an_law_name cd_law_name ct_law_name), sl_law_name⟩)
    (c_law_name : PySem.W.codeIn K cd_law_name "_law_name" = true)
    (k_law_name : PySem.W.keepIn K (.ref f_law_name) = true)
    (a_law_titles : PySem.W.nsIn K mainGlobals "_law_titles" = some (some (.ref f_law_titles)))
    (l_law_titles : K.lookup f_law_titles = some ⟨oc_law_titles, od_law_titles, .func (PySem.W.fnOf "_law_titles" "_law_titles" (defArgs S_law_titles) (defBody S_law_titles) (defScope S_law_titles) .none kV_law_titles dc_law_titles pm_law_titles an_law_titles cd_law_titles ct_law_titles), sl_law_titles⟩)
    (c_law_titles : PySem.W.codeIn K cd_law_titles "_law_titles" = true)
    (k_law_titles : PySem.W.keepIn K (.ref f_law_titles) = true)
    (a_law_part_bounds : PySem.W.nsIn K mainGlobals "_law_part_bounds" = some (some (.ref f_law_part_bounds)))
    (l_law_part_bounds : K.lookup f_law_part_bounds = some ⟨oc_law_part_bounds, od_law_part_bounds, .func (PySem.W.fnOf "_law_part_bounds" "_law_part_bounds" (defArgs S_law_part_bounds) (defBody S_law_part_bounds) (defScope S_law_part_bounds) .none kV_law_part_bounds dc_law_part_bounds pm_law_part_bounds an_law_part_bounds cd_law_part_bounds ct_law_part_bounds), sl_law_part_bounds⟩)
    (c_law_part_bounds : PySem.W.codeIn K cd_law_part_bounds "_law_part_bounds" = true)
    (k_law_part_bounds : PySem.W.keepIn K (.ref f_law_part_bounds) = true)
    (a_law_request : PySem.W.nsIn K mainGlobals "_law_request" = some (some (.ref f_law_request)))
    (l_law_request : K.lookup f_law_request = some ⟨oc_law_request, od_law_request, .func (PySem.W.fnOf "_law_request" "_law_request" (defArgs S_law_request) (defBody S_law_request) (defScope S_law_request) .none kV_law_request dc_law_request pm_law_request an_law_request cd_law_request ct_law_request), sl_law_request⟩)
    (c_law_request : PySem.W.codeIn K cd_law_request "_law_request" = true)
    (k_law_request : PySem.W.keepIn K (.ref f_law_request) = true)
    (a_law_line : PySem.W.nsIn K mainGlobals "_law_line" = some (some (.ref f_law_line)))
    (l_law_line : K.lookup f_law_line = some ⟨oc_law_line, od_law_line, .func (PySem.W.fnOf "_law_line" "_law_line" (defArgs S_law_line) (defBody S_law_line) (defScope S_law_line) .none kV_law_line dc_law_line pm_law_line an_law_line cd_law_line ct_law_line), sl_law_line⟩)
    (c_law_line : PySem.W.codeIn K cd_law_line "_law_line" = true)
    (k_law_line : PySem.W.keepIn K (.ref f_law_line) = true)
    (a_law_bad_word : PySem.W.nsIn K mainGlobals "_law_bad_word" = some (some (.ref f_law_bad_word)))
    (l_law_bad_word : K.lookup f_law_bad_word = some ⟨oc_law_bad_word, od_law_bad_word, .func (PySem.W.fnOf "_law_bad_word" "_law_bad_word" (defArgs S_law_bad_word) (defBody S_law_bad_word) (defScope S_law_bad_word) .none kV_law_bad_word dc_law_bad_word pm_law_bad_word an_law_bad_word cd_law_bad_word ct_law_bad_word), sl_law_bad_word⟩)
    (c_law_bad_word : PySem.W.codeIn K cd_law_bad_word "_law_bad_word" = true)
    (k_law_bad_word : PySem.W.keepIn K (.ref f_law_bad_word) = true)
    (a_law_bad_line : PySem.W.nsIn K mainGlobals "_law_bad_line" = some (some (.ref f_law_bad_line)))
    (l_law_bad_line : K.lookup f_law_bad_line = some ⟨oc_law_bad_line, od_law_bad_line, .func (PySem.W.fnOf "_law_bad_line" "_law_bad_line" (defArgs S_law_bad_line) (defBody S_law_bad_line) (defScope S_law_bad_line) .none kV_law_bad_line dc_law_bad_line pm_law_bad_line an_law_bad_line cd_law_bad_line ct_law_bad_line), sl_law_bad_line⟩)
    (c_law_bad_line : PySem.W.codeIn K cd_law_bad_line "_law_bad_line" = true)
    (k_law_bad_line : PySem.W.keepIn K (.ref f_law_bad_line) = true)
    (a_law_bad_text : PySem.W.nsIn K mainGlobals "_law_bad_text" = some (some (.ref f_law_bad_text)))
    (l_law_bad_text : K.lookup f_law_bad_text = some ⟨oc_law_bad_text, od_law_bad_text, .func (PySem.W.fnOf "_law_bad_text" "_law_bad_text" (defArgs S_law_bad_text) (defBody S_law_bad_text) (defScope S_law_bad_text) .none kV_law_bad_text dc_law_bad_text pm_law_bad_text an_law_bad_text cd_law_bad_text ct_law_bad_text), sl_law_bad_text⟩)
    (c_law_bad_text : PySem.W.codeIn K cd_law_bad_text "_law_bad_text" = true)
    (k_law_bad_text : PySem.W.keepIn K (.ref f_law_bad_text) = true)
    (a_law_not_text : PySem.W.nsIn K mainGlobals "_law_not_text" = some (some (.ref f_law_not_text)))
    (l_law_not_text : K.lookup f_law_not_text = some ⟨oc_law_not_text, od_law_not_text, .func (PySem.W.fnOf "_law_not_text" "_law_not_text" (defArgs S_law_not_text) (defBody S_law_not_text) (defScope S_law_not_text) .none kV_law_not_text dc_law_not_text pm_law_not_text an_law_not_text cd_law_not_text ct_law_not_text), sl_law_not_text⟩)
    (c_law_not_text : PySem.W.codeIn K cd_law_not_text "_law_not_text" = true)
    (k_law_not_text : PySem.W.keepIn K (.ref f_law_not_text) = true)
    (a_law_number_word : PySem.W.nsIn K mainGlobals "_law_number_word" = some (some (.ref f_law_number_word)))
    (l_law_number_word : K.lookup f_law_number_word = some ⟨oc_law_number_word, od_law_number_word, .func (PySem.W.fnOf "_law_number_word" "_law_number_word" (defArgs S_law_number_word) (defBody S_law_number_word) (defScope S_law_number_word) .none kV_law_number_word dc_law_number_word pm_law_number_word an_law_number_word cd_law_number_word ct_law_number_word), sl_law_number_word⟩)
    (c_law_number_word : PySem.W.codeIn K cd_law_number_word "_law_number_word" = true)
    (k_law_number_word : PySem.W.keepIn K (.ref f_law_number_word) = true)
    (a_law_part_word : PySem.W.nsIn K mainGlobals "_law_part_word" = some (some (.ref f_law_part_word)))
    (l_law_part_word : K.lookup f_law_part_word = some ⟨oc_law_part_word, od_law_part_word, .func (PySem.W.fnOf "_law_part_word" "_law_part_word" (defArgs S_law_part_word) (defBody S_law_part_word) (defScope S_law_part_word) .none kV_law_part_word dc_law_part_word pm_law_part_word an_law_part_word cd_law_part_word ct_law_part_word), sl_law_part_word⟩)
    (c_law_part_word : PySem.W.codeIn K cd_law_part_word "_law_part_word" = true)
    (k_law_part_word : PySem.W.keepIn K (.ref f_law_part_word) = true)
    (a_law_line_read : PySem.W.nsIn K mainGlobals "_law_line_read" = some (some (.ref f_law_line_read)))
    (l_law_line_read : K.lookup f_law_line_read = some ⟨oc_law_line_read, od_law_line_read, .func (PySem.W.fnOf "_law_line_read" "_law_line_read" (defArgs S_law_line_read) (defBody S_law_line_read) (defScope S_law_line_read) .none kV_law_line_read dc_law_line_read pm_law_line_read an_law_line_read cd_law_line_read ct_law_line_read), sl_law_line_read⟩)
    (c_law_line_read : PySem.W.codeIn K cd_law_line_read "_law_line_read" = true)
    (k_law_line_read : PySem.W.keepIn K (.ref f_law_line_read) = true)
    (a_law_text_read : PySem.W.nsIn K mainGlobals "_law_text_read" = some (some (.ref f_law_text_read)))
    (l_law_text_read : K.lookup f_law_text_read = some ⟨oc_law_text_read, od_law_text_read, .func (PySem.W.fnOf "_law_text_read" "_law_text_read" (defArgs S_law_text_read) (defBody S_law_text_read) (defScope S_law_text_read) .none kV_law_text_read dc_law_text_read pm_law_text_read an_law_text_read cd_law_text_read ct_law_text_read), sl_law_text_read⟩)
    (c_law_text_read : PySem.W.codeIn K cd_law_text_read "_law_text_read" = true)
    (k_law_text_read : PySem.W.keepIn K (.ref f_law_text_read) = true)
    (a_law_bent_text : PySem.W.nsIn K mainGlobals "_law_bent_text" = some (some (.ref f_law_bent_text)))
    (l_law_bent_text : K.lookup f_law_bent_text = some ⟨oc_law_bent_text, od_law_bent_text, .func (PySem.W.fnOf "_law_bent_text" "_law_bent_text" (defArgs S_law_bent_text) (defBody S_law_bent_text) (defScope S_law_bent_text) .none kV_law_bent_text dc_law_bent_text pm_law_bent_text an_law_bent_text cd_law_bent_text ct_law_bent_text), sl_law_bent_text⟩)
    (c_law_bent_text : PySem.W.codeIn K cd_law_bent_text "_law_bent_text" = true)
    (k_law_bent_text : PySem.W.keepIn K (.ref f_law_bent_text) = true)
    (a_law_parse_told : PySem.W.nsIn K mainGlobals "_law_parse_told" = some (some (.ref f_law_parse_told)))
    (l_law_parse_told : K.lookup f_law_parse_told = some ⟨oc_law_parse_told, od_law_parse_told, .func (PySem.W.fnOf "_law_parse_told" "_law_parse_told" (defArgs S_law_parse_told) (defBody S_law_parse_told) (defScope S_law_parse_told) .none kV_law_parse_told dc_law_parse_told pm_law_parse_told an_law_parse_told cd_law_parse_told ct_law_parse_told), sl_law_parse_told⟩)
    (c_law_parse_told : PySem.W.codeIn K cd_law_parse_told "_law_parse_told" = true)
    (k_law_parse_told : PySem.W.keepIn K (.ref f_law_parse_told) = true)
    (a_law_refuses_value : PySem.W.nsIn K mainGlobals "_law_refuses_value" = some (some (.ref f_law_refuses_value)))
    (l_law_refuses_value : K.lookup f_law_refuses_value = some ⟨oc_law_refuses_value, od_law_refuses_value, .func (PySem.W.fnOf "_law_refuses_value" "_law_refuses_value" (defArgs S_law_refuses_value) (defBody S_law_refuses_value) (defScope S_law_refuses_value) .none kV_law_refuses_value dc_law_refuses_value pm_law_refuses_value an_law_refuses_value cd_law_refuses_value ct_law_refuses_value), sl_law_refuses_value⟩)
    (c_law_refuses_value : PySem.W.codeIn K cd_law_refuses_value "_law_refuses_value" = true)
    (k_law_refuses_value : PySem.W.keepIn K (.ref f_law_refuses_value) = true)
    (a_law : PySem.W.nsIn K mainGlobals "law" = some (some (.ref f_law)))
    (l_law : K.lookup f_law = some ⟨oc_law, od_law, .func (PySem.W.fnOf "law" "law" (defArgs S_law) (defBody S_law) (defScope S_law) .none kV_law dc_law pm_law an_law cd_law ct_law), sl_law⟩)
    (c_law : PySem.W.codeIn K cd_law "law" = true)
    (k_law : PySem.W.keepIn K (.ref f_law) = true)
    (b_ValueError : PySem.W.nsIn K mainGlobals "ValueError" = some none)
    (b_len : PySem.W.nsIn K mainGlobals "len" = some none)
    (b_isinstance : PySem.W.nsIn K mainGlobals "isinstance" = some none)
    (b_all : PySem.W.nsIn K mainGlobals "all" = some none)
    (b_sum : PySem.W.nsIn K mainGlobals "sum" = some none)
    (b_ord : PySem.W.nsIn K mainGlobals "ord" = some none)
    (b_min : PySem.W.nsIn K mainGlobals "min" = some none)
    (b_max : PySem.W.nsIn K mainGlobals "max" = some none)
    (b_int : PySem.W.nsIn K mainGlobals "int" = some none)
    (b_bool : PySem.W.nsIn K mainGlobals "bool" = some none)
    (b_str : PySem.W.nsIn K mainGlobals "str" = some none)
    (b_list : PySem.W.nsIn K mainGlobals "list" = some none)
    (b_tuple : PySem.W.nsIn K mainGlobals "tuple" = some none)
    (b_dict : PySem.W.nsIn K mainGlobals "dict" = some none)
    (b_range : PySem.W.nsIn K mainGlobals "range" = some none)
    (b_zip : PySem.W.nsIn K mainGlobals "zip" = some none)
    (b_enumerate : PySem.W.nsIn K mainGlobals "enumerate" = some none)
    (xBadValue : K.lookup CBadValue = some (PySem.excClassObj nmBadValue qBadValue CBadValue NBadValue bsBadValue [.ref CStoreError, .type "ValueError", .type "Exception", .type "BaseException", .type "object"] true snBadValue suBadValue abBadValue coBadValue ddBadValue m0BadValue m1BadValue m2BadValue m3BadValue m5BadValue "ValueError.__new__"))
    (saBadValue : PySem.W.findIn K (.ref CBadValue) "__setattr__" = some (some (.builtin "object.__setattr__")))
    (exBadValue : PySem.W.subIn K (.ref CBadValue) (.type "BaseException") = some true)
    (tyBadValue : PySem.W.typeIn K (.ref CBadValue) = some (.type "type"))
    (kcBadValue : PySem.W.keepIn K (.ref CBadValue) = true)
    (xBadLine : K.lookup CBadLine = some (PySem.excClassObj nmBadLine qBadLine CBadLine NBadLine bsBadLine [.ref CStoreError, .type "ValueError", .type "Exception", .type "BaseException", .type "object"] true snBadLine suBadLine abBadLine coBadLine ddBadLine m0BadLine m1BadLine m2BadLine m3BadLine m5BadLine "ValueError.__new__"))
    (saBadLine : PySem.W.findIn K (.ref CBadLine) "__setattr__" = some (some (.builtin "object.__setattr__")))
    (exBadLine : PySem.W.subIn K (.ref CBadLine) (.type "BaseException") = some true)
    (tyBadLine : PySem.W.typeIn K (.ref CBadLine) = some (.type "type"))
    (kcBadLine : PySem.W.keepIn K (.ref CBadLine) = true)
    (spB : PySem.W.specialIn K (.builtin "object.__class__") "__get__" = some (some (.builtin "getset_descriptor.__get__")))
    (tkB : PySem.W.takesIn K (.builtin "object.__class__") = some true)
    (gaBadValue : PySem.W.findIn K (.ref CBadValue) "__getattribute__" = some (some (.builtin "BaseException.__getattribute__")))
    (ggBadValue : PySem.W.findIn K (.ref CBadValue) "__getattr__" = some none)
    (clBadValue : PySem.W.findIn K (.ref CBadValue) "__class__" = some (some (.builtin "object.__class__")))
    (moBadValue : PySem.W.mroIn K CBadValue (.type "object") = some true)
    (hdBadValue : PySem.W.hasDictIn K CBadValue = true)
    (icBadValue : PySem.W.isClsIn K CBadValue = true)
    (sbBadValue : PySem.W.subIn K (.ref CBadValue) (.ref CBadValue) = some true)
    (gaBadLine : PySem.W.findIn K (.ref CBadLine) "__getattribute__" = some (some (.builtin "BaseException.__getattribute__")))
    (ggBadLine : PySem.W.findIn K (.ref CBadLine) "__getattr__" = some none)
    (clBadLine : PySem.W.findIn K (.ref CBadLine) "__class__" = some (some (.builtin "object.__class__")))
    (moBadLine : PySem.W.mroIn K CBadLine (.type "object") = some true)
    (hdBadLine : PySem.W.hasDictIn K CBadLine = true)
    (icBadLine : PySem.W.isClsIn K CBadLine = true)
    (sbBadLine : PySem.W.subIn K (.ref CBadLine) (.ref CBadLine) = some true)
    (nBadValue_parameter : PySem.W.findIn K (.ref CBadValue) "parameter" = some none)
    (nBadValue_told : PySem.W.findIn K (.ref CBadValue) "told" = some none)
    (nBadLine_line : PySem.W.findIn K (.ref CBadLine) "line" = some none)
    (nBadLine_column : PySem.W.findIn K (.ref CBadLine) "column" = some none)
    (nBadLine_told : PySem.W.findIn K (.ref CBadLine) "told" = some none)
    (kiStoreError : PySem.W.kitOne K (.ref CBadValue) (.ref CStoreError) = some true)
    (kiBadLine : PySem.W.kitOne K (.ref CBadValue) (.ref CBadLine) = some false)
    (kiUnknown : PySem.W.kitOne K (.ref CBadValue) (.ref CUnknown) = some false)
    (klVE : PySem.W.kitOne K (.ref CBadLine) (.type "ValueError") = some true)
    (klStoreError : PySem.W.kitOne K (.ref CBadLine) (.ref CStoreError) = some true)
    (klBadValue : PySem.W.kitOne K (.ref CBadLine) (.ref CBadValue) = some false)
    (klBroken : PySem.W.kitOne K (.ref CBadLine) (.ref CBroken) = some false)
    (klUnknown : PySem.W.kitOne K (.ref CBadLine) (.ref CUnknown) = some false)
    (klNotHeld : PySem.W.kitOne K (.ref CBadLine) (.ref CNotHeld) = some false)
    (klFault : PySem.W.kitOne K (.ref CBadLine) (.ref CFault) = some false)
    (klNoRoom : PySem.W.kitOne K (.ref CBadLine) (.ref CNoRoom) = some false)
    (klCut : PySem.W.kitOne K (.ref CBadLine) (.ref CCut) = some false)
    (aF : PySem.W.nsIn K mainGlobals "FORMS" = some (some (.ref dF)))
    (lF : K.lookup dF = some ⟨.type "dict", none, .dict esF nF, #[]⟩)
    (litF : PySem.W.KeysLit w.params esF.toList)
    (lowF : (dF == sysModules) = false)
    (tabF : esF.toList.map (fun e => (keyS e.key, e.val)) = ([("take", .ref aF0), ("resize", .ref aF1), ("free", .ref aF2), ("pass", .ref aF3), ("put", .ref aF4), ("get", .ref aF5), ("map", .ref aF6), ("unmap", .ref aF7), ("share", .ref aF8), ("protect", .ref aF9), ("store", .ref aF10), ("load", .ref aF11), ("out", .ref aF12), ("tick", .ref aF13), ("settle", .ref aF14)] : List (Str × Value)))
    (qF0 : K.lookup aF0 = some ⟨.type "tuple", eF0, .seq (List.toArray [.str "user" tF0_0, .str "name" tF0_1, .str "size" tF0_2, .str "align" tF0_3]) zF0, yF0⟩)
    (qF1 : K.lookup aF1 = some ⟨.type "tuple", eF1, .seq (List.toArray [.str "user" tF1_0, .str "name" tF1_1, .str "size" tF1_2]) zF1, yF1⟩)
    (qF2 : K.lookup aF2 = some ⟨.type "tuple", eF2, .seq (List.toArray [.str "user" tF2_0, .str "name" tF2_1]) zF2, yF2⟩)
    (qF3 : K.lookup aF3 = some ⟨.type "tuple", eF3, .seq (List.toArray [.str "user" tF3_0, .str "name" tF3_1, .str "taker" tF3_2]) zF3, yF3⟩)
    (qF4 : K.lookup aF4 = some ⟨.type "tuple", eF4, .seq (List.toArray [.str "user" tF4_0, .str "name" tF4_1, .str "offset" tF4_2, .str "word" tF4_3]) zF4, yF4⟩)
    (qF5 : K.lookup aF5 = some ⟨.type "tuple", eF5, .seq (List.toArray [.str "user" tF5_0, .str "name" tF5_1, .str "offset" tF5_2]) zF5, yF5⟩)
    (qF6 : K.lookup aF6 = some ⟨.type "tuple", eF6, .seq (List.toArray [.str "user" tF6_0, .str "name" tF6_1, .str "count" tF6_2]) zF6, yF6⟩)
    (qF7 : K.lookup aF7 = some ⟨.type "tuple", eF7, .seq (List.toArray [.str "user" tF7_0, .str "name" tF7_1]) zF7, yF7⟩)
    (qF8 : K.lookup aF8 = some ⟨.type "tuple", eF8, .seq (List.toArray [.str "user" tF8_0, .str "name" tF8_1, .str "taker" tF8_2]) zF8, yF8⟩)
    (qF9 : K.lookup aF9 = some ⟨.type "tuple", eF9, .seq (List.toArray [.str "user" tF9_0, .str "name" tF9_1, .str "rights" tF9_2]) zF9, yF9⟩)
    (qF10 : K.lookup aF10 = some ⟨.type "tuple", eF10, .seq (List.toArray [.str "user" tF10_0, .str "name" tF10_1, .str "offset" tF10_2, .str "word" tF10_3]) zF10, yF10⟩)
    (qF11 : K.lookup aF11 = some ⟨.type "tuple", eF11, .seq (List.toArray [.str "user" tF11_0, .str "name" tF11_1, .str "offset" tF11_2]) zF11, yF11⟩)
    (qF12 : K.lookup aF12 = some ⟨.type "tuple", eF12, .seq (List.toArray [.str "user" tF12_0, .str "name" tF12_1]) zF12, yF12⟩)
    (qF13 : K.lookup aF13 = some ⟨.type "tuple", eF13, .seq (List.toArray []) zF13, yF13⟩)
    (qF14 : K.lookup aF14 = some ⟨.type "tuple", eF14, .seq (List.toArray []) zF14, yF14⟩)
    (aR : PySem.W.nsIn K mainGlobals "RANGES" = some (some (.ref dR)))
    (lR : K.lookup dR = some ⟨.type "dict", none, .dict esR nR, #[]⟩)
    (litR : PySem.W.KeysLit w.params esR.toList)
    (lowR : (dR == sysModules) = false)
    (tabR : esR.toList.map (fun e => (keyS e.key, e.val)) = ([("user", .ref aR0), ("taker", .ref aR1), ("size", .ref aR2), ("align", .ref aR3), ("offset", .ref aR4), ("word", .ref aR5), ("count", .ref aR6), ("rights", .ref aR7)] : List (Str × Value)))
    (qR0 : K.lookup aR0 = some ⟨.type "tuple", eR0, .seq (List.toArray [.int 1 tR0_0, .int 8 tR0_1]) zR0, yR0⟩)
    (qR1 : K.lookup aR1 = some ⟨.type "tuple", eR1, .seq (List.toArray [.int 1 tR1_0, .int 8 tR1_1]) zR1, yR1⟩)
    (qR2 : K.lookup aR2 = some ⟨.type "tuple", eR2, .seq (List.toArray [.int 1 tR2_0, .int 999999999 tR2_1]) zR2, yR2⟩)
    (qR3 : K.lookup aR3 = some ⟨.type "tuple", eR3, .seq (List.toArray [.int 1 tR3_0, .int 536870912 tR3_1]) zR3, yR3⟩)
    (qR4 : K.lookup aR4 = some ⟨.type "tuple", eR4, .seq (List.toArray [.int 0 tR4_0, .int 999999999 tR4_1]) zR4, yR4⟩)
    (qR5 : K.lookup aR5 = some ⟨.type "tuple", eR5, .seq (List.toArray [.int 0 tR5_0, .int 65535 tR5_1]) zR5, yR5⟩)
    (qR6 : K.lookup aR6 = some ⟨.type "tuple", eR6, .seq (List.toArray [.int 1 tR6_0, .int 32 tR6_1]) zR6, yR6⟩)
    (qR7 : K.lookup aR7 = some ⟨.type "tuple", eR7, .seq (List.toArray [.int 0 tR7_0, .int 2 tR7_1]) zR7, yR7⟩)
    : ∃ fd : FuncData, (∀ (s : Shared) (v : Value), BindsTo s fd ⟨[v], []⟩ [("_law_script", v)]) ∧ ∀ base : Heap, K.In base → base.Ns mainGlobals mg → FnOk l.prog w K mg base CX0 10 fa fd ["_law_script"] (sp_law K noC) := by
  have e := hfa.symm.trans (PySem.W.mg_of X G a_law)
  cases e
  let C : Cs := ⟨CStoreError, CBadValue, CUnknown, CBadLine, CBroken, CNotHeld, CFault, CNoRoom, CCut, dF, dR⟩
  have oBadValue : OexC K CBadValue := { cls := ⟨nmBadValue, qBadValue, NBadValue, bsBadValue, [.ref CStoreError, .type "ValueError", .type "Exception", .type "BaseException", .type "object"], snBadValue, suBadValue, abBadValue, coBadValue, ddBadValue, m0BadValue, m1BadValue, m2BadValue, m3BadValue, m5BadValue, xBadValue, rfl⟩, sa := saBadValue, exC := exBadValue, tyC := tyBadValue, kC := kcBadValue }
  have oBadLine : OexC K CBadLine := { cls := ⟨nmBadLine, qBadLine, NBadLine, bsBadLine, [.ref CStoreError, .type "ValueError", .type "Exception", .type "BaseException", .type "object"], snBadLine, suBadLine, abBadLine, coBadLine, ddBadLine, m0BadLine, m1BadLine, m2BadLine, m3BadLine, m5BadLine, xBadLine, rfl⟩, sa := saBadLine, exC := exBadLine, tyC := tyBadLine, kC := kcBadLine }
  have GL : Glob w K mg C := {
    b_ValueError := PySem.W.mg_none_of X G b_ValueError
    b_len := PySem.W.mg_none_of X G b_len
    b_isinstance := PySem.W.mg_none_of X G b_isinstance
    b_all := PySem.W.mg_none_of X G b_all
    b_sum := PySem.W.mg_none_of X G b_sum
    b_ord := PySem.W.mg_none_of X G b_ord
    b_min := PySem.W.mg_none_of X G b_min
    b_max := PySem.W.mg_none_of X G b_max
    b_int := PySem.W.mg_none_of X G b_int
    b_bool := PySem.W.mg_none_of X G b_bool
    b_str := PySem.W.mg_none_of X G b_str
    b_list := PySem.W.mg_none_of X G b_list
    b_tuple := PySem.W.mg_none_of X G b_tuple
    b_dict := PySem.W.mg_none_of X G b_dict
    b_range := PySem.W.mg_none_of X G b_range
    b_zip := PySem.W.mg_none_of X G b_zip
    b_enumerate := PySem.W.mg_none_of X G b_enumerate
    mStoreError := PySem.W.mg_of X G aStoreError
    mBadValue := PySem.W.mg_of X G aBadValue
    mUnknown := PySem.W.mg_of X G aUnknown
    mBadLine := PySem.W.mg_of X G aBadLine
    mBroken := PySem.W.mg_of X G aBroken
    mNotHeld := PySem.W.mg_of X G aNotHeld
    mFault := PySem.W.mg_of X G aFault
    mNoRoom := PySem.W.mg_of X G aNoRoom
    mCut := PySem.W.mg_of X G aCut
    mFORMS := PySem.W.mg_of X G aF
    mRANGES := PySem.W.mg_of X G aR
    kForms := kdt_mk lF litF lowF tabF (tab_mk (ft := formsT) (.cons ⟨rfl, aF0, rfl, sq_mk qF0 (by simp) (.cons ⟨_, rfl⟩ (.cons ⟨_, rfl⟩ (.cons ⟨_, rfl⟩ (.cons ⟨_, rfl⟩ .nil))))⟩
      (.cons ⟨rfl, aF1, rfl, sq_mk qF1 (by simp) (.cons ⟨_, rfl⟩ (.cons ⟨_, rfl⟩ (.cons ⟨_, rfl⟩ .nil)))⟩
      (.cons ⟨rfl, aF2, rfl, sq_mk qF2 (by simp) (.cons ⟨_, rfl⟩ (.cons ⟨_, rfl⟩ .nil))⟩
      (.cons ⟨rfl, aF3, rfl, sq_mk qF3 (by simp) (.cons ⟨_, rfl⟩ (.cons ⟨_, rfl⟩ (.cons ⟨_, rfl⟩ .nil)))⟩
      (.cons ⟨rfl, aF4, rfl, sq_mk qF4 (by simp) (.cons ⟨_, rfl⟩ (.cons ⟨_, rfl⟩ (.cons ⟨_, rfl⟩ (.cons ⟨_, rfl⟩ .nil))))⟩
      (.cons ⟨rfl, aF5, rfl, sq_mk qF5 (by simp) (.cons ⟨_, rfl⟩ (.cons ⟨_, rfl⟩ (.cons ⟨_, rfl⟩ .nil)))⟩
      (.cons ⟨rfl, aF6, rfl, sq_mk qF6 (by simp) (.cons ⟨_, rfl⟩ (.cons ⟨_, rfl⟩ (.cons ⟨_, rfl⟩ .nil)))⟩
      (.cons ⟨rfl, aF7, rfl, sq_mk qF7 (by simp) (.cons ⟨_, rfl⟩ (.cons ⟨_, rfl⟩ .nil))⟩
      (.cons ⟨rfl, aF8, rfl, sq_mk qF8 (by simp) (.cons ⟨_, rfl⟩ (.cons ⟨_, rfl⟩ (.cons ⟨_, rfl⟩ .nil)))⟩
      (.cons ⟨rfl, aF9, rfl, sq_mk qF9 (by simp) (.cons ⟨_, rfl⟩ (.cons ⟨_, rfl⟩ (.cons ⟨_, rfl⟩ .nil)))⟩
      (.cons ⟨rfl, aF10, rfl, sq_mk qF10 (by simp) (.cons ⟨_, rfl⟩ (.cons ⟨_, rfl⟩ (.cons ⟨_, rfl⟩ (.cons ⟨_, rfl⟩ .nil))))⟩
      (.cons ⟨rfl, aF11, rfl, sq_mk qF11 (by simp) (.cons ⟨_, rfl⟩ (.cons ⟨_, rfl⟩ (.cons ⟨_, rfl⟩ .nil)))⟩
      (.cons ⟨rfl, aF12, rfl, sq_mk qF12 (by simp) (.cons ⟨_, rfl⟩ (.cons ⟨_, rfl⟩ .nil))⟩
      (.cons ⟨rfl, aF13, rfl, sq_mk qF13 (by simp) .nil⟩
      (.cons ⟨rfl, aF14, rfl, sq_mk qF14 (by simp) .nil⟩
      .nil))))))))))))))) formsT_of)
    kRanges := kdt_mk lR litR lowR tabR (tab_mk (ft := rangesT) (.cons ⟨rfl, aR0, rfl, sq_mk qR0 (by simp) (.cons ⟨_, rfl⟩ (.cons ⟨_, rfl⟩ .nil))⟩
      (.cons ⟨rfl, aR1, rfl, sq_mk qR1 (by simp) (.cons ⟨_, rfl⟩ (.cons ⟨_, rfl⟩ .nil))⟩
      (.cons ⟨rfl, aR2, rfl, sq_mk qR2 (by simp) (.cons ⟨_, rfl⟩ (.cons ⟨_, rfl⟩ .nil))⟩
      (.cons ⟨rfl, aR3, rfl, sq_mk qR3 (by simp) (.cons ⟨_, rfl⟩ (.cons ⟨_, rfl⟩ .nil))⟩
      (.cons ⟨rfl, aR4, rfl, sq_mk qR4 (by simp) (.cons ⟨_, rfl⟩ (.cons ⟨_, rfl⟩ .nil))⟩
      (.cons ⟨rfl, aR5, rfl, sq_mk qR5 (by simp) (.cons ⟨_, rfl⟩ (.cons ⟨_, rfl⟩ .nil))⟩
      (.cons ⟨rfl, aR6, rfl, sq_mk qR6 (by simp) (.cons ⟨_, rfl⟩ (.cons ⟨_, rfl⟩ .nil))⟩
      (.cons ⟨rfl, aR7, rfl, sq_mk qR7 (by simp) (.cons ⟨_, rfl⟩ (.cons ⟨_, rfl⟩ .nil))⟩
      .nil)))))))) rangesT_of)
    fBadValue := { cl := icBadValue, hg := gaBadValue, hk := ggBadValue, hs := exBadValue, ha := clBadValue, hn := spB, ht := tkB, hm := moBadValue }
    xfBadValue := { ga := gaBadValue, gg := ggBadValue, exC := exBadValue, hdC := hdBadValue }
    xmBadValue := exm_self exBadValue icBadValue tyBadValue sbBadValue
    fBadLine := { cl := icBadLine, hg := gaBadLine, hk := ggBadLine, hs := exBadLine, ha := clBadLine, hn := spB, ht := tkB, hm := moBadLine }
    xfBadLine := { ga := gaBadLine, gg := ggBadLine, exC := exBadLine, hdC := hdBadLine }
    xmBadLine := exm_self exBadLine icBadLine tyBadLine sbBadLine
    kiBLVE := klVE
    kiBLSE := klStoreError
    kiBLBadValue := klBadValue
    kiBLBroken := klBroken
    kiBLUnknown := klUnknown
    kiBLNotHeld := klNotHeld
    kiBLFault := klFault
    kiBLNoRoom := klNoRoom
    kiBLCut := klCut
    oBadValue := oBadValue
    oBadLine := oBadLine
    nBadValue_parameter := nBadValue_parameter
    nBadValue_told := nBadValue_told
    nBadLine_line := nBadLine_line
    nBadLine_column := nBadLine_column
    nBadLine_told := nBadLine_told
    kiBVSE := kiStoreError
    kiBVBL := kiBadLine
    kiBVUn := kiUnknown }
  have F_init_BadValue := fun_mk (st := S_init_BadValue) l_init_BadValue c_init_BadValue k_init_BadValue
  have F_init_BadLine := fun_mk (st := S_init_BadLine) l_init_BadLine c_init_BadLine k_init_BadLine
  have F_is_whole := fun_mk (st := S_is_whole) l_is_whole c_is_whole k_is_whole
  have F_is_power := fun_mk (st := S_is_power) l_is_power c_is_power k_is_power
  have F_is_name := fun_mk (st := S_is_name) l_is_name c_is_name k_is_name
  have F_is_part := fun_mk (st := S_is_part) l_is_part c_is_part k_is_part
  have F_is_text := fun_mk (st := S_is_text) l_is_text c_is_text k_is_text
  have F_is_number_word := fun_mk (st := S_is_number_word) l_is_number_word c_is_number_word k_is_number_word
  have F_is_written_part := fun_mk (st := S_is_written_part) l_is_written_part c_is_written_part k_is_written_part
  have F_wrong_word := fun_mk (st := S_wrong_word) l_wrong_word c_wrong_word k_wrong_word
  have F_column_of := fun_mk (st := S_column_of) l_column_of c_column_of k_column_of
  have F_least_words := fun_mk (st := S_least_words) l_least_words c_least_words k_least_words
  have F_request_of := fun_mk (st := S_request_of) l_request_of c_request_of k_request_of
  have F_parse_requests := fun_mk (st := S_parse_requests) l_parse_requests c_parse_requests k_parse_requests
  have F_law_draws := fun_mk (st := S_law_draws) l_law_draws c_law_draws k_law_draws
  have F_law_next_cell := fun_mk (st := S_law_next_cell) l_law_next_cell c_law_next_cell k_law_next_cell
  have F_law_mixed := fun_mk (st := S_law_mixed) l_law_mixed c_law_mixed k_law_mixed
  have F_law_take := fun_mk (st := S_law_take) l_law_take c_law_take k_law_take
  have F_law_among := fun_mk (st := S_law_among) l_law_among c_law_among k_law_among
  have F_law_between := fun_mk (st := S_law_between) l_law_between c_law_between k_law_between
  have F_law_number := fun_mk (st := S_law_number) l_law_number c_law_number k_law_number
  have F_law_count := fun_mk (st := S_law_count) l_law_count c_law_count k_law_count
  have F_law_alignment := fun_mk (st := S_law_alignment) l_law_alignment c_law_alignment k_law_alignment
  have F_law_power := fun_mk (st := S_law_power) l_law_power c_law_power k_law_power
  have F_law_chars := fun_mk (st := S_law_chars) l_law_chars c_law_chars k_law_chars
  have F_law_text := fun_mk (st := S_law_text) l_law_text c_law_text k_law_text
  have F_law_user := fun_mk (st := S_law_user) l_law_user c_law_user k_law_user
  have F_law_same := fun_mk (st := S_law_same) l_law_same c_law_same k_law_same
  have F_law_name := fun_mk (st := S_law_name) l_law_name c_law_name k_law_name
  have F_law_titles := fun_mk (st := S_law_titles) l_law_titles c_law_titles k_law_titles
  have F_law_part_bounds := fun_mk (st := S_law_part_bounds) l_law_part_bounds c_law_part_bounds k_law_part_bounds
  have F_law_request := fun_mk (st := S_law_request) l_law_request c_law_request k_law_request
  have F_law_line := fun_mk (st := S_law_line) l_law_line c_law_line k_law_line
  have F_law_bad_word := fun_mk (st := S_law_bad_word) l_law_bad_word c_law_bad_word k_law_bad_word
  have F_law_bad_line := fun_mk (st := S_law_bad_line) l_law_bad_line c_law_bad_line k_law_bad_line
  have F_law_bad_text := fun_mk (st := S_law_bad_text) l_law_bad_text c_law_bad_text k_law_bad_text
  have F_law_not_text := fun_mk (st := S_law_not_text) l_law_not_text c_law_not_text k_law_not_text
  have F_law_number_word := fun_mk (st := S_law_number_word) l_law_number_word c_law_number_word k_law_number_word
  have F_law_part_word := fun_mk (st := S_law_part_word) l_law_part_word c_law_part_word k_law_part_word
  have F_law_line_read := fun_mk (st := S_law_line_read) l_law_line_read c_law_line_read k_law_line_read
  have F_law_text_read := fun_mk (st := S_law_text_read) l_law_text_read c_law_text_read k_law_text_read
  have F_law_bent_text := fun_mk (st := S_law_bent_text) l_law_bent_text c_law_bent_text k_law_bent_text
  have F_law_parse_told := fun_mk (st := S_law_parse_told) l_law_parse_told c_law_parse_told k_law_parse_told
  have F_law_refuses_value := fun_mk (st := S_law_refuses_value) l_law_refuses_value c_law_refuses_value k_law_refuses_value
  have F_law := fun_mk (st := S_law) l_law c_law k_law
  refine ⟨PySem.W.fnOf "law" "law" (defArgs S_law) (defBody S_law) (defScope S_law) .none kV_law dc_law pm_law an_law cd_law ct_law, fun s v => .of_eq rfl, fun base _ _ => ?_⟩
  have x_BadValue : ExMk l.prog w K mg base CBadValue "BadValue" (sp_init_BadValue K C) := ⟨_, _, _, oBadValue, a_init_BadValue, t_init_BadValue, ok_init_BadValue F_init_BadValue GL, b_init_BadValue F_init_BadValue, PySem.W.mg_of X G aBadValue⟩
  have x_BadLine : ExMk l.prog w K mg base CBadLine "BadLine" (sp_init_BadLine K C) := ⟨_, _, _, oBadLine, a_init_BadLine, t_init_BadLine, ok_init_BadLine F_init_BadLine GL, b_init_BadLine F_init_BadLine, PySem.W.mg_of X G aBadLine⟩
  have c_is_whole : Cal l.prog w K mg base 1 "is_whole" (sp_is_whole K C) := ⟨_, _, _, ok_is_whole F_is_whole GL, PySem.W.mg_of X G a_is_whole, k_is_whole, b_is_whole F_is_whole⟩
  have c_is_name : Cal l.prog w K mg base 1 "is_name" (sp_is_name K C) := ⟨_, _, _, ok_is_name F_is_name GL, PySem.W.mg_of X G a_is_name, k_is_name, b_is_name F_is_name⟩
  have c_is_text : Cal l.prog w K mg base 1 "is_text" (sp_is_text K C) := ⟨_, _, _, ok_is_text F_is_text GL, PySem.W.mg_of X G a_is_text, k_is_text, b_is_text F_is_text⟩
  have c_is_number_word : Cal l.prog w K mg base 1 "is_number_word" (sp_is_number_word K C) := ⟨_, _, _, ok_is_number_word F_is_number_word GL, PySem.W.mg_of X G a_is_number_word, k_is_number_word, b_is_number_word F_is_number_word⟩
  have c_column_of : Cal l.prog w K mg base 1 "column_of" (sp_column_of K C) := ⟨_, _, _, ok_column_of F_column_of GL, PySem.W.mg_of X G a_column_of, k_column_of, b_column_of F_column_of⟩
  have c_least_words : Cal l.prog w K mg base 1 "least_words" (sp_least_words K C) := ⟨_, _, _, ok_least_words F_least_words GL, PySem.W.mg_of X G a_least_words, k_least_words, b_least_words F_least_words⟩
  have c_request_of : Cal l.prog w K mg base 1 "request_of" (sp_request_of K C) := ⟨_, _, _, ok_request_of F_request_of GL, PySem.W.mg_of X G a_request_of, k_request_of, b_request_of F_request_of⟩
  have c_law_draws : Cal l.prog w K mg base 1 "_law_draws" (sp_law_draws K C) := ⟨_, _, _, ok_law_draws F_law_draws GL, PySem.W.mg_of X G a_law_draws, k_law_draws, b_law_draws F_law_draws⟩
  have c_law_next_cell : Cal l.prog w K mg base 1 "_law_next_cell" (sp_law_next_cell K C) := ⟨_, _, _, ok_law_next_cell F_law_next_cell GL, PySem.W.mg_of X G a_law_next_cell, k_law_next_cell, b_law_next_cell F_law_next_cell⟩
  have c_law_mixed : Cal l.prog w K mg base 1 "_law_mixed" (sp_law_mixed K C) := ⟨_, _, _, ok_law_mixed F_law_mixed GL, PySem.W.mg_of X G a_law_mixed, k_law_mixed, b_law_mixed F_law_mixed⟩
  have c_law_power : Cal l.prog w K mg base 1 "_law_power" (sp_law_power K C) := ⟨_, _, _, ok_law_power F_law_power GL, PySem.W.mg_of X G a_law_power, k_law_power, b_law_power F_law_power⟩
  have c_law_chars : Cal l.prog w K mg base 1 "_law_chars" (sp_law_chars K C) := ⟨_, _, _, ok_law_chars F_law_chars GL, PySem.W.mg_of X G a_law_chars, k_law_chars, b_law_chars F_law_chars⟩
  have c_law_titles : Cal l.prog w K mg base 1 "_law_titles" (sp_law_titles K C) := ⟨_, _, _, ok_law_titles F_law_titles GL, PySem.W.mg_of X G a_law_titles, k_law_titles, b_law_titles F_law_titles⟩
  have c_law_part_bounds : Cal l.prog w K mg base 1 "_law_part_bounds" (sp_law_part_bounds K C) := ⟨_, _, _, ok_law_part_bounds F_law_part_bounds GL, PySem.W.mg_of X G a_law_part_bounds, k_law_part_bounds, b_law_part_bounds F_law_part_bounds⟩
  have c_law_line : Cal l.prog w K mg base 1 "_law_line" (sp_law_line K C) := ⟨_, _, _, ok_law_line F_law_line GL, PySem.W.mg_of X G a_law_line, k_law_line, b_law_line F_law_line⟩
  have c_law_number_word : Cal l.prog w K mg base 1 "_law_number_word" (sp_law_number_word K C) := ⟨_, _, _, ok_law_number_word F_law_number_word GL, PySem.W.mg_of X G a_law_number_word, k_law_number_word, b_law_number_word F_law_number_word⟩
  have c_is_power : Cal l.prog w K mg base 2 "is_power" (sp_is_power K C) := ⟨_, _, _, ok_is_power F_is_power GL c_is_whole, PySem.W.mg_of X G a_is_power, k_is_power, b_is_power F_is_power⟩
  have c_law_take : Cal l.prog w K mg base 2 "_law_take" (sp_law_take K C) := ⟨_, _, _, ok_law_take F_law_take GL c_law_next_cell c_law_mixed, PySem.W.mg_of X G a_law_take, k_law_take, b_law_take F_law_take⟩
  have c_law_part_word : Cal l.prog w K mg base 2 "_law_part_word" (sp_law_part_word K C) := ⟨_, _, _, ok_law_part_word F_law_part_word GL c_law_part_bounds c_law_number_word c_law_power, PySem.W.mg_of X G a_law_part_word, k_law_part_word, b_law_part_word F_law_part_word⟩
  have c_is_part : Cal l.prog w K mg base 3 "is_part" (sp_is_part K C) := ⟨_, _, _, ok_is_part F_is_part GL c_is_name c_is_whole c_is_power, PySem.W.mg_of X G a_is_part, k_is_part, b_is_part F_is_part⟩
  have c_law_among : Cal l.prog w K mg base 3 "_law_among" (sp_law_among K C) := ⟨_, _, _, ok_law_among F_law_among GL c_law_take, PySem.W.mg_of X G a_law_among, k_law_among, b_law_among F_law_among⟩
  have c_law_between : Cal l.prog w K mg base 3 "_law_between" (sp_law_between K C) := ⟨_, _, _, ok_law_between F_law_between GL c_law_take, PySem.W.mg_of X G a_law_between, k_law_between, b_law_between F_law_between⟩
  have c_law_not_text : Cal l.prog w K mg base 3 "_law_not_text" (sp_law_not_text K C) := ⟨_, _, _, ok_law_not_text F_law_not_text GL c_law_take, PySem.W.mg_of X G a_law_not_text, k_law_not_text, b_law_not_text F_law_not_text⟩
  have c_law_line_read : Cal l.prog w K mg base 3 "_law_line_read" (sp_law_line_read K C) := ⟨_, _, _, ok_law_line_read F_law_line_read GL c_law_part_word c_law_titles c_law_part_bounds, PySem.W.mg_of X G a_law_line_read, k_law_line_read, b_law_line_read F_law_line_read⟩
  have c_law_bent_text : Cal l.prog w K mg base 3 "_law_bent_text" (sp_law_bent_text K C) := ⟨_, _, _, ok_law_bent_text F_law_bent_text GL c_law_take c_law_chars, PySem.W.mg_of X G a_law_bent_text, k_law_bent_text, b_law_bent_text F_law_bent_text⟩
  have c_is_written_part : Cal l.prog w K mg base 4 "is_written_part" (sp_is_written_part K C) := ⟨_, _, _, ok_is_written_part F_is_written_part GL c_is_name c_is_number_word c_is_part, PySem.W.mg_of X G a_is_written_part, k_is_written_part, b_is_written_part F_is_written_part⟩
  have c_law_count : Cal l.prog w K mg base 4 "_law_count" (sp_law_count K C) := ⟨_, _, _, ok_law_count F_law_count GL c_law_take c_law_between, PySem.W.mg_of X G a_law_count, k_law_count, b_law_count F_law_count⟩
  have c_law_alignment : Cal l.prog w K mg base 4 "_law_alignment" (sp_law_alignment K C) := ⟨_, _, _, ok_law_alignment F_law_alignment GL c_law_between, PySem.W.mg_of X G a_law_alignment, k_law_alignment, b_law_alignment F_law_alignment⟩
  have c_law_text : Cal l.prog w K mg base 4 "_law_text" (sp_law_text K C) := ⟨_, _, _, ok_law_text F_law_text GL c_law_chars c_law_between c_law_take, PySem.W.mg_of X G a_law_text, k_law_text, b_law_text F_law_text⟩
  have c_law_user : Cal l.prog w K mg base 4 "_law_user" (sp_law_user K C) := ⟨_, _, _, ok_law_user F_law_user GL c_law_between c_law_take, PySem.W.mg_of X G a_law_user, k_law_user, b_law_user F_law_user⟩
  have c_law_name : Cal l.prog w K mg base 4 "_law_name" (sp_law_name K C) := ⟨_, _, _, ok_law_name F_law_name GL c_law_take c_law_between, PySem.W.mg_of X G a_law_name, k_law_name, b_law_name F_law_name⟩
  have c_law_bad_word : Cal l.prog w K mg base 4 "_law_bad_word" (sp_law_bad_word K C) := ⟨_, _, _, ok_law_bad_word F_law_bad_word GL c_law_among c_law_part_bounds, PySem.W.mg_of X G a_law_bad_word, k_law_bad_word, b_law_bad_word F_law_bad_word⟩
  have c_law_text_read : Cal l.prog w K mg base 4 "_law_text_read" (sp_law_text_read K C) := ⟨_, _, _, ok_law_text_read F_law_text_read GL c_law_line_read, PySem.W.mg_of X G a_law_text_read, k_law_text_read, b_law_text_read F_law_text_read⟩
  have c_wrong_word : Cal l.prog w K mg base 5 "wrong_word" (sp_wrong_word K C) := ⟨_, _, _, ok_wrong_word F_wrong_word GL c_is_written_part, PySem.W.mg_of X G a_wrong_word, k_wrong_word, b_wrong_word F_wrong_word⟩
  have c_law_number : Cal l.prog w K mg base 5 "_law_number" (sp_law_number K C) := ⟨_, _, _, ok_law_number F_law_number GL c_law_between c_law_take c_law_alignment, PySem.W.mg_of X G a_law_number, k_law_number, b_law_number F_law_number⟩
  have c_law_bad_line : Cal l.prog w K mg base 5 "_law_bad_line" (sp_law_bad_line K C) := ⟨_, _, _, ok_law_bad_line F_law_bad_line GL c_law_line c_law_take c_law_bad_word, PySem.W.mg_of X G a_law_bad_line, k_law_bad_line, b_law_bad_line F_law_bad_line⟩
  have c_parse_requests : CalX l.prog w K mg base 6 "parse_requests" (sp_parse_requests K C) := ⟨_, _, _, ok_parse_requests F_parse_requests GL x_BadValue x_BadLine c_is_text c_request_of c_least_words c_column_of c_wrong_word, PySem.W.mg_of X G a_parse_requests, k_parse_requests, b_parse_requests F_parse_requests⟩
  have c_law_request : Cal l.prog w K mg base 6 "_law_request" (sp_law_request K C) := ⟨_, _, _, ok_law_request F_law_request GL c_law_titles c_law_among c_law_name c_law_user c_law_part_bounds c_law_number c_law_alignment, PySem.W.mg_of X G a_law_request, k_law_request, b_law_request F_law_request⟩
  have c_law_bad_text : Cal l.prog w K mg base 7 "_law_bad_text" (sp_law_bad_text K C) := ⟨_, _, _, ok_law_bad_text F_law_bad_text GL c_law_take c_law_line c_law_request c_law_bad_line, PySem.W.mg_of X G a_law_bad_text, k_law_bad_text, b_law_bad_text F_law_bad_text⟩
  have c_law_same : Cal l.prog w K mg base 8 "_law_same" (sp_law_same K C 6) := Cal.mono (k := 7) ⟨_, _, _, ok_law_same F_law_same GL (PySem.W.mg_of X G a_law_same) 6, PySem.W.mg_of X G a_law_same, k_law_same, b_law_same F_law_same⟩ (by decide)
  have ch_law_same : CalH l.prog w K mg base 8 "_law_same" (sp_law_sameH K C 6) := ⟨_, _, _, okH_mono (okH_law_same F_law_same GL (PySem.W.mg_of X G a_law_same) 6) (by decide), PySem.W.mg_of X G a_law_same, k_law_same, b_law_same F_law_same⟩
  have c_law_parse_told : Cal l.prog w K mg base 9 "_law_parse_told" (sp_law_parse_told K C) := ⟨_, _, _, ok_law_parse_told F_law_parse_told GL c_parse_requests ch_law_same, PySem.W.mg_of X G a_law_parse_told, k_law_parse_told, b_law_parse_told F_law_parse_told⟩
  have c_law_refuses_value : Cal l.prog w K mg base 9 "_law_refuses_value" (sp_law_refuses_value K C) := ⟨_, _, _, ok_law_refuses_value F_law_refuses_value GL c_parse_requests ch_law_same, PySem.W.mg_of X G a_law_refuses_value, k_law_refuses_value, b_law_refuses_value F_law_refuses_value⟩
  have fin := ok_law F_law GL c_law_draws c_law_count c_law_request c_law_bad_text c_law_take c_law_line c_law_parse_told c_law_same c_parse_requests c_law_not_text c_law_refuses_value c_law_text c_law_bent_text c_law_text_read
  unfold sp_law at fin ⊢
  exact fin
theorem walk {l : PySem.W.OpenLaw} {q : Program} {loose : List Str} {XP : (Str → Option Value) → Heap → Prop} {YP : World → Heap → Prop} {d : DefRec} {K : Params → PySem.W.Frag} (hn : l.most = some 63) (hdf : d.params.defaults = [])
    (hY : ∀ (w : World) (h : Heap), YP w h → (K w.params).In h)
    (F : ∀ (w : World) (mg : Str → Option Value) (fa : Addr) (h : Heap), (K w.params).In h → h.Ns mainGlobals mg → mg d.name = some (.ref fa) →
      ∃ fd : FuncData, (∀ (s : Shared) (u : Value), BindsTo s fd ⟨[u], []⟩ [("_law_script", u)]) ∧ ∀ base : Heap, (K w.params).In base → base.Ns mainGlobals mg → FnOk l.prog w (K w.params) mg base CX0 10 fa fd ["_law_script"] (sp_law (K w.params) noC)) :
    PySem.W.WalkO q loose XP YP l.row.toRowW d [] (fun f vs => PySem.call f vs) :=
  L2.walk_of (n := 63) (k := 10) (x := "_law_script") (CX := fun _ => CX0) (sp := fun w => sp_law (K w.params) noC) hn (by decide) hdf ⟨rfl, by decide, by decide⟩ hY F (fun _ _ a ns hl _ hS => ⟨a, ns, rfl, hS, hl, fun _ _ => rfl⟩) fun _ _ _ _ _ z => z
end AG
open PySem PySem.W PyProof.Rows
set_option maxRecDepth 100000 in
set_option maxHeartbeats 0 in
theorem PySem.Challenge.cw_allgivenback_k88_bad_line_holds : PySem.Challenge.rw_allgivenback_k88_bad_line.Holds := by
  w_on; o_law; k_head; (case hw => w_witness2)
  k_fill
  refine AG.walk (l := PySem.Challenge.rw_allgivenback_k88_bad_line) rfl rfl (fun w h Y => PySem.W.kIn_of Y) ?F
  case F =>
    intro w mg fa h KX G hmg
    refine' AG.all_mk KX G hmg ?aStoreError ?aBadValue ?aUnknown ?aBadLine ?aBroken ?aNotHeld ?aFault ?aNoRoom ?aCut ?a_init_BadValue ?t_init_BadValue ?l_init_BadValue ?c_init_BadValue ?k_init_BadValue ?a_init_BadLine ?t_init_BadLine ?l_init_BadLine ?c_init_BadLine ?k_init_BadLine ?a_is_whole ?l_is_whole ?c_is_whole ?k_is_whole ?a_is_power ?l_is_power ?c_is_power ?k_is_power ?a_is_name ?l_is_name ?c_is_name ?k_is_name ?a_is_part ?l_is_part ?c_is_part ?k_is_part ?a_is_text ?l_is_text ?c_is_text ?k_is_text ?a_is_number_word ?l_is_number_word ?c_is_number_word ?k_is_number_word ?a_is_written_part ?l_is_written_part ?c_is_written_part ?k_is_written_part ?a_wrong_word ?l_wrong_word ?c_wrong_word ?k_wrong_word ?a_column_of ?l_column_of ?c_column_of ?k_column_of ?a_least_words ?l_least_words ?c_least_words ?k_least_words ?a_request_of ?l_request_of ?c_request_of ?k_request_of ?a_parse_requests ?l_parse_requests ?c_parse_requests ?k_parse_requests ?a_law_draws ?l_law_draws ?c_law_draws ?k_law_draws ?a_law_next_cell ?l_law_next_cell ?c_law_next_cell ?k_law_next_cell ?a_law_mixed ?l_law_mixed ?c_law_mixed ?k_law_mixed ?a_law_take ?l_law_take ?c_law_take ?k_law_take ?a_law_among ?l_law_among ?c_law_among ?k_law_among ?a_law_between ?l_law_between ?c_law_between ?k_law_between ?a_law_number ?l_law_number ?c_law_number ?k_law_number ?a_law_count ?l_law_count ?c_law_count ?k_law_count ?a_law_alignment ?l_law_alignment ?c_law_alignment ?k_law_alignment ?a_law_power ?l_law_power ?c_law_power ?k_law_power ?a_law_chars ?l_law_chars ?c_law_chars ?k_law_chars ?a_law_text ?l_law_text ?c_law_text ?k_law_text ?a_law_user ?l_law_user ?c_law_user ?k_law_user ?a_law_same ?l_law_same ?c_law_same ?k_law_same ?a_law_name ?l_law_name ?c_law_name ?k_law_name ?a_law_titles ?l_law_titles ?c_law_titles ?k_law_titles ?a_law_part_bounds ?l_law_part_bounds ?c_law_part_bounds ?k_law_part_bounds ?a_law_request ?l_law_request ?c_law_request ?k_law_request ?a_law_line ?l_law_line ?c_law_line ?k_law_line ?a_law_bad_word ?l_law_bad_word ?c_law_bad_word ?k_law_bad_word ?a_law_bad_line ?l_law_bad_line ?c_law_bad_line ?k_law_bad_line ?a_law_bad_text ?l_law_bad_text ?c_law_bad_text ?k_law_bad_text ?a_law_not_text ?l_law_not_text ?c_law_not_text ?k_law_not_text ?a_law_number_word ?l_law_number_word ?c_law_number_word ?k_law_number_word ?a_law_part_word ?l_law_part_word ?c_law_part_word ?k_law_part_word ?a_law_line_read ?l_law_line_read ?c_law_line_read ?k_law_line_read ?a_law_text_read ?l_law_text_read ?c_law_text_read ?k_law_text_read ?a_law_bent_text ?l_law_bent_text ?c_law_bent_text ?k_law_bent_text ?a_law_parse_told ?l_law_parse_told ?c_law_parse_told ?k_law_parse_told ?a_law_refuses_value ?l_law_refuses_value ?c_law_refuses_value ?k_law_refuses_value ?a_law ?l_law ?c_law ?k_law ?b_ValueError ?b_len ?b_isinstance ?b_all ?b_sum ?b_ord ?b_min ?b_max ?b_int ?b_bool ?b_str ?b_list ?b_tuple ?b_dict ?b_range ?b_zip ?b_enumerate ?xBadValue ?saBadValue ?exBadValue ?tyBadValue ?kcBadValue ?xBadLine ?saBadLine ?exBadLine ?tyBadLine ?kcBadLine ?spB ?tkB ?gaBadValue ?ggBadValue ?clBadValue ?moBadValue ?hdBadValue ?icBadValue ?sbBadValue ?gaBadLine ?ggBadLine ?clBadLine ?moBadLine ?hdBadLine ?icBadLine ?sbBadLine ?nBadValue_parameter ?nBadValue_told ?nBadLine_line ?nBadLine_column ?nBadLine_told ?kiStoreError ?kiBadLine ?kiUnknown ?klVE ?klStoreError ?klBadValue ?klBroken ?klUnknown ?klNotHeld ?klFault ?klNoRoom ?klCut ?aF ?lF ?litF ?lowF ?tabF ?qF0 ?qF1 ?qF2 ?qF3 ?qF4 ?qF5 ?qF6 ?qF7 ?qF8 ?qF9 ?qF10 ?qF11 ?qF12 ?qF13 ?qF14 ?aR ?lR ?litR ?lowR ?tabR ?qR0 ?qR1 ?qR2 ?qR3 ?qR4 ?qR5 ?qR6 ?qR7
    (case aStoreError => k_is)
    (case aBadValue => k_is)
    (case aUnknown => k_is)
    (case aBadLine => k_is)
    (case aBroken => k_is)
    (case aNotHeld => k_is)
    (case aFault => k_is)
    (case aNoRoom => k_is)
    (case aCut => k_is)
    (case a_init_BadValue => k_is)
    (case t_init_BadValue => k_is)
    (case l_init_BadValue => k_is)
    (case c_init_BadValue => k_is)
    (case k_init_BadValue => k_is)
    (case a_init_BadLine => k_is)
    (case t_init_BadLine => k_is)
    (case l_init_BadLine => k_is)
    (case c_init_BadLine => k_is)
    (case k_init_BadLine => k_is)
    (case a_is_whole => k_is)
    (case l_is_whole => k_is)
    (case c_is_whole => k_is)
    (case k_is_whole => k_is)
    (case a_is_power => k_is)
    (case l_is_power => k_is)
    (case c_is_power => k_is)
    (case k_is_power => k_is)
    (case a_is_name => k_is)
    (case l_is_name => k_is)
    (case c_is_name => k_is)
    (case k_is_name => k_is)
    (case a_is_part => k_is)
    (case l_is_part => k_is)
    (case c_is_part => k_is)
    (case k_is_part => k_is)
    (case a_is_text => k_is)
    (case l_is_text => k_is)
    (case c_is_text => k_is)
    (case k_is_text => k_is)
    (case a_is_number_word => k_is)
    (case l_is_number_word => k_is)
    (case c_is_number_word => k_is)
    (case k_is_number_word => k_is)
    (case a_is_written_part => k_is)
    (case l_is_written_part => k_is)
    (case c_is_written_part => k_is)
    (case k_is_written_part => k_is)
    (case a_wrong_word => k_is)
    (case l_wrong_word => k_is)
    (case c_wrong_word => k_is)
    (case k_wrong_word => k_is)
    (case a_column_of => k_is)
    (case l_column_of => k_is)
    (case c_column_of => k_is)
    (case k_column_of => k_is)
    (case a_least_words => k_is)
    (case l_least_words => k_is)
    (case c_least_words => k_is)
    (case k_least_words => k_is)
    (case a_request_of => k_is)
    (case l_request_of => k_is)
    (case c_request_of => k_is)
    (case k_request_of => k_is)
    (case a_parse_requests => k_is)
    (case l_parse_requests => k_is)
    (case c_parse_requests => k_is)
    (case k_parse_requests => k_is)
    (case a_law_draws => k_is)
    (case l_law_draws => k_is)
    (case c_law_draws => k_is)
    (case k_law_draws => k_is)
    (case a_law_next_cell => k_is)
    (case l_law_next_cell => k_is)
    (case c_law_next_cell => k_is)
    (case k_law_next_cell => k_is)
    (case a_law_mixed => k_is)
    (case l_law_mixed => k_is)
    (case c_law_mixed => k_is)
    (case k_law_mixed => k_is)
    (case a_law_take => k_is)
    (case l_law_take => k_is)
    (case c_law_take => k_is)
    (case k_law_take => k_is)
    (case a_law_among => k_is)
    (case l_law_among => k_is)
    (case c_law_among => k_is)
    (case k_law_among => k_is)
    (case a_law_between => k_is)
    (case l_law_between => k_is)
    (case c_law_between => k_is)
    (case k_law_between => k_is)
    (case a_law_number => k_is)
    (case l_law_number => k_is)
    (case c_law_number => k_is)
    (case k_law_number => k_is)
    (case a_law_count => k_is)
    (case l_law_count => k_is)
    (case c_law_count => k_is)
    (case k_law_count => k_is)
    (case a_law_alignment => k_is)
    (case l_law_alignment => k_is)
    (case c_law_alignment => k_is)
    (case k_law_alignment => k_is)
    (case a_law_power => k_is)
    (case l_law_power => k_is)
    (case c_law_power => k_is)
    (case k_law_power => k_is)
    (case a_law_chars => k_is)
    (case l_law_chars => k_is)
    (case c_law_chars => k_is)
    (case k_law_chars => k_is)
    (case a_law_text => k_is)
    (case l_law_text => k_is)
    (case c_law_text => k_is)
    (case k_law_text => k_is)
    (case a_law_user => k_is)
    (case l_law_user => k_is)
    (case c_law_user => k_is)
    (case k_law_user => k_is)
    (case a_law_same => k_is)
    (case l_law_same => k_is)
    (case c_law_same => k_is)
    (case k_law_same => k_is)
    (case a_law_name => k_is)
    (case l_law_name => k_is)
    (case c_law_name => k_is)
    (case k_law_name => k_is)
    (case a_law_titles => k_is)
    (case l_law_titles => k_is)
    (case c_law_titles => k_is)
    (case k_law_titles => k_is)
    (case a_law_part_bounds => k_is)
    (case l_law_part_bounds => k_is)
    (case c_law_part_bounds => k_is)
    (case k_law_part_bounds => k_is)
    (case a_law_request => k_is)
    (case l_law_request => k_is)
    (case c_law_request => k_is)
    (case k_law_request => k_is)
    (case a_law_line => k_is)
    (case l_law_line => k_is)
    (case c_law_line => k_is)
    (case k_law_line => k_is)
    (case a_law_bad_word => k_is)
    (case l_law_bad_word => k_is)
    (case c_law_bad_word => k_is)
    (case k_law_bad_word => k_is)
    (case a_law_bad_line => k_is)
    (case l_law_bad_line => k_is)
    (case c_law_bad_line => k_is)
    (case k_law_bad_line => k_is)
    (case a_law_bad_text => k_is)
    (case l_law_bad_text => k_is)
    (case c_law_bad_text => k_is)
    (case k_law_bad_text => k_is)
    (case a_law_not_text => k_is)
    (case l_law_not_text => k_is)
    (case c_law_not_text => k_is)
    (case k_law_not_text => k_is)
    (case a_law_number_word => k_is)
    (case l_law_number_word => k_is)
    (case c_law_number_word => k_is)
    (case k_law_number_word => k_is)
    (case a_law_part_word => k_is)
    (case l_law_part_word => k_is)
    (case c_law_part_word => k_is)
    (case k_law_part_word => k_is)
    (case a_law_line_read => k_is)
    (case l_law_line_read => k_is)
    (case c_law_line_read => k_is)
    (case k_law_line_read => k_is)
    (case a_law_text_read => k_is)
    (case l_law_text_read => k_is)
    (case c_law_text_read => k_is)
    (case k_law_text_read => k_is)
    (case a_law_bent_text => k_is)
    (case l_law_bent_text => k_is)
    (case c_law_bent_text => k_is)
    (case k_law_bent_text => k_is)
    (case a_law_parse_told => k_is)
    (case l_law_parse_told => k_is)
    (case c_law_parse_told => k_is)
    (case k_law_parse_told => k_is)
    (case a_law_refuses_value => k_is)
    (case l_law_refuses_value => k_is)
    (case c_law_refuses_value => k_is)
    (case k_law_refuses_value => k_is)
    (case a_law => k_is)
    (case l_law => k_is)
    (case c_law => k_is)
    (case k_law => k_is)
    (case b_ValueError => k_is)
    (case b_len => k_is)
    (case b_isinstance => k_is)
    (case b_all => k_is)
    (case b_sum => k_is)
    (case b_ord => k_is)
    (case b_min => k_is)
    (case b_max => k_is)
    (case b_int => k_is)
    (case b_bool => k_is)
    (case b_str => k_is)
    (case b_list => k_is)
    (case b_tuple => k_is)
    (case b_dict => k_is)
    (case b_range => k_is)
    (case b_zip => k_is)
    (case b_enumerate => k_is)
    (case xBadValue => k_is)
    (case saBadValue => k_is)
    (case exBadValue => k_is)
    (case tyBadValue => k_is)
    (case kcBadValue => k_is)
    (case xBadLine => k_is)
    (case saBadLine => k_is)
    (case exBadLine => k_is)
    (case tyBadLine => k_is)
    (case kcBadLine => k_is)
    (case spB => k_is)
    (case tkB => k_is)
    (case gaBadValue => k_is)
    (case ggBadValue => k_is)
    (case clBadValue => k_is)
    (case moBadValue => k_is)
    (case hdBadValue => k_is)
    (case icBadValue => k_is)
    (case sbBadValue => first | rfl | k_is)
    (case gaBadLine => k_is)
    (case ggBadLine => k_is)
    (case clBadLine => k_is)
    (case moBadLine => k_is)
    (case hdBadLine => k_is)
    (case icBadLine => k_is)
    (case sbBadLine => first | rfl | k_is)
    (case nBadValue_parameter => k_is)
    (case nBadValue_told => k_is)
    (case nBadLine_line => k_is)
    (case nBadLine_column => k_is)
    (case nBadLine_told => k_is)
    (case kiStoreError => first | k_is | kit_is)
    (case kiBadLine => first | k_is | kit_is)
    (case kiUnknown => first | k_is | kit_is)
    (case klVE => first | k_is | kit_is)
    (case klStoreError => first | k_is | kit_is)
    (case klBadValue => first | k_is | kit_is)
    (case klBroken => first | k_is | kit_is)
    (case klUnknown => first | k_is | kit_is)
    (case klNotHeld => first | k_is | kit_is)
    (case klFault => first | k_is | kit_is)
    (case klNoRoom => first | k_is | kit_is)
    (case klCut => first | k_is | kit_is)
    (case aF => k_is)
    (case lF => k_is)
    (case litF => exact ⟨⟨_, _, rfl, rfl⟩, ⟨⟨_, _, rfl, rfl⟩, ⟨⟨_, _, rfl, rfl⟩, ⟨⟨_, _, rfl, rfl⟩, ⟨⟨_, _, rfl, rfl⟩, ⟨⟨_, _, rfl, rfl⟩, ⟨⟨_, _, rfl, rfl⟩, ⟨⟨_, _, rfl, rfl⟩, ⟨⟨_, _, rfl, rfl⟩, ⟨⟨_, _, rfl, rfl⟩, ⟨⟨_, _, rfl, rfl⟩, ⟨⟨_, _, rfl, rfl⟩, ⟨⟨_, _, rfl, rfl⟩, ⟨⟨_, _, rfl, rfl⟩, ⟨⟨_, _, rfl, rfl⟩, trivial⟩⟩⟩⟩⟩⟩⟩⟩⟩⟩⟩⟩⟩⟩⟩)
    (case lowF => first | rfl | decide)
    (case tabF => rfl)
    (case qF0 => k_is)
    (case qF1 => k_is)
    (case qF2 => k_is)
    (case qF3 => k_is)
    (case qF4 => k_is)
    (case qF5 => k_is)
    (case qF6 => k_is)
    (case qF7 => k_is)
    (case qF8 => k_is)
    (case qF9 => k_is)
    (case qF10 => k_is)
    (case qF11 => k_is)
    (case qF12 => k_is)
    (case qF13 => k_is)
    (case qF14 => k_is)
    (case aR => k_is)
    (case lR => k_is)
    (case litR => exact ⟨⟨_, _, rfl, rfl⟩, ⟨⟨_, _, rfl, rfl⟩, ⟨⟨_, _, rfl, rfl⟩, ⟨⟨_, _, rfl, rfl⟩, ⟨⟨_, _, rfl, rfl⟩, ⟨⟨_, _, rfl, rfl⟩, ⟨⟨_, _, rfl, rfl⟩, ⟨⟨_, _, rfl, rfl⟩, trivial⟩⟩⟩⟩⟩⟩⟩⟩)
    (case lowR => first | rfl | decide)
    (case tabR => rfl)
    (case qR0 => k_is)
    (case qR1 => k_is)
    (case qR2 => k_is)
    (case qR3 => k_is)
    (case qR4 => k_is)
    (case qR5 => k_is)
    (case qR6 => k_is)
    (case qR7 => k_is)
