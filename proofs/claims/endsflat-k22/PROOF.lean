import PyProof.Rows.All
import Wide.All
import OpenK.AllK
import Wide.FinOn
import HandS.ForMost
import HandS.ExcIs
import HandS.Exc
import HandS.TryOnly
import HandS.ExcOwn
import HandS.ExcInit
import HandS.ExcField
import HandS.HotCalls
import HandS.IsInst
import HandS.Conv
import HandS.Flow
import HandS.TupAny
import HandS.Style
import HandS.SetFor
import HandS.WordsExc
import KE.KExcIs
import HandS.Zip
import HandS.SetBool
import HandS.Strs
import HandS.Deep
import KE.GoesEnum
import KE.GoesMore
import KE.DataMinMax
import PySem.Challenge.RW_endsflat_k22_plain_ways
set_option Elab.async false
set_option linter.all false
set_option maxRecDepth 100000
set_option maxHeartbeats 4000000

namespace EL
open PySem PySem.Spec PyProof.Rows L2
abbrev St := L2.St

/-! ### unions of rules -/
section
variable {X : Cx}
theorem piOr {tg it : Expr} {w1 w2 : TI} (h1 : PI X tg it w1) (h2 : PI X tg it w2) : PI X tg it (fun σ H R => w1 σ H R ∨ w2 σ H R) :=
  ⟨fun pins s σ H R I h => h.elim (h1.run pins s σ H R I) (h2.run pins s σ H R I)⟩
def iU (K : PySem.W.Frag) (tl : TE) : TI := fun σ H R => iList K tl σ H R ∨ iTup K tl σ H R
theorem pi_U {tg l : Expr} {tl : TE} (hl : PE X l tl) : PI X tg l (iU X.K tl) := piOr (pi_list hl) (pi_tup hl)
def rAddI : R2 := rI0 fun i j => .int (i + j)
def rAddS : R2 := fun x y H Q => ∃ i j, x = .str i ∧ y = .str j ∧ i.length + j.length ≤ sizeLine ∧ Q (.str (i ++ j)) H
def rAddU (K : PySem.W.Frag) : R2 := fun x y H Q => rAddI x y H Q ∨ rCat x y H Q ∨ rCatA K x y H Q ∨ rAddS x y H Q
theorem op_addU : OpR X (binaryOp .Add) (rAddU X.K) := OpR.or op_add (OpR.or op_cat (OpR.or op_catA op_add_str))
def rMulI : R2 := rI CMul fun i j => .int (i * j)
def rMulU : R2 := fun x y H Q => rMulI x y H Q ∨ rRep x y H Q
theorem op_mulU : OpR X (binaryOp .Mult) rMulU := OpR.or op_mul op_rep
def rModP : R2 := rI (fun _ j => 0 < j) fun i j => .int (i % j)
theorem op_modP : OpR X (binaryOp .Mod) rModP := op_mod
def rDivP : R2 := rI CDiv fun i j => .int (i / j)
theorem op_fdivP : OpR X (binaryOp .FloorDiv) rDivP := op_fdiv
def rEqU (K : PySem.W.Frag) : R2 := fun x y H Q => rEq x y H Q ∨ rEqD K x y H Q
def rNeU (K : PySem.W.Frag) : R2 := fun x y H Q => rNe x y H Q ∨ rNeD K x y H Q
theorem op_eqU {k : Nat} (hr : Room k X.A) : OpR X (compareOp .Eq) (rEqU X.K) := OpR.or op_eq (op_eqD hr.units)
theorem op_neU {k : Nat} (hr : Room k X.A) : OpR X (compareOp .NotEq) (rNeU X.K) := OpR.or op_ne (op_neD hr.units)
def rIsiU (K : PySem.W.Frag) : List V → Hp → VK → Prop := fun xs H Q => rIsi K xs H Q ∨ rIsiT K xs H Q
theorem call_isiU : CallR X (.builtin "isinstance") (rIsiU X.K) := CallR.or call_isi call_isiT
end

/-! ### the counter of the draws: a list of one int, which is not told -/
def cellO (a : Addr) : HO := .ext fun h => ∃ (i : Int) (t : Tok) (n : Nat), h.get? a = some { cls := .type "list", data := .seq #[.int i t] n }
section
variable {X : Cx} {pins : List (Addr × Obj)} {σ : St} {H : Hp} {s : Shared} {a : Addr}
theorem cell_close {i : Int} (I : Inv X pins σ H s) (h : H a = some (.lst [.int i])) : Inv X pins σ (upd H a (cellO a)) s := by
  obtain ⟨its, n, r, ho, hz⟩ := I.lst h
  cases r with
  | cons r1 r2 =>
    cases r2
    obtain ⟨t, rfl⟩ := r1
    refine I.write (x := a) (e := a) (t' := s.toks) (h' := s.heap) (by rw [h]; trivial) (.inl rfl) (fun b u _ q => q) ⟨_, ho⟩ ?_
    exact ⟨⟨i, t, n, ho⟩, ⟨_, ho⟩, fun h1 h2 q k => by
      obtain ⟨i', t', n', e⟩ := q
      exact ⟨i', t', n', k _ e⟩⟩
theorem cell_open (I : Inv X pins σ H s) (h : H a = some (cellO a)) : ∃ i : Int, Inv X pins σ (upd H a (.lst [.int i])) s := by
  obtain ⟨⟨i, t, n, e⟩, _, _⟩ := I.hok a _ h
  refine ⟨i, I.write (x := a) (e := a) (t' := s.toks) (h' := s.heap) (by rw [h]; trivial) (.inl rfl) (fun b u _ q => q) ⟨_, e⟩ ?_⟩
  exact ⟨by show 1 ≤ sizeLine; rw [sizeLine_eq]; omega, [.int i t], n, .cons ⟨t, rfl⟩ .nil, e⟩
theorem upd_id {o : HO} (h : H a = some o) : upd H a o = H := by
  funext b
  by_cases hb : b = a
  · rw [hb, upd_same, h]
  · rw [upd_ne hb]
theorem cell_back {i : Int} {o : HO} (h : H a = some (cellO a)) (I : Inv X pins σ (upd H a (.lst [.int i])) s) : Inv X pins σ H s := by
  have J := cell_close (a := a) I upd_same
  rw [upd_upd, upd_id h] at J
  exact J
end
section
variable {X : Cx}
def rIxC : R2 := fun x y H Q => ∃ a, x = .ref a ∧ y = .int 0 ∧ H a = some (cellO a) ∧ ∀ n, Q (.int n) H
theorem ix_cell : IxR X rIxC := by
  intro value slice pins s σ H x y v u Q I rx ry h hs
  obtain ⟨a, rfl, rfl, ha, q⟩ := h
  obtain ⟨i, J⟩ := cell_open I ha
  refine thn (ix_list value slice pins s σ _ _ _ v u (fun w H' => H' = upd H a (.lst [.int i]) ∧ w = .int i) J rx ry ⟨a, [.int i], 0, .int i, rfl, rfl, SqL.of upd_same, rfl, rfl, rfl⟩ hs) fun w s1 hh => ?_
  obtain ⟨z, H', J', r', rfl, rfl⟩ := hh
  exact ⟨_, H, cell_back (o := cellO a) ha J', r', q i⟩
def rIxU (K : PySem.W.Frag) : R2 := fun x y H Q => rIxL K x y H Q ∨ rIxT K x y H Q ∨ rIxC x y H Q ∨ rIxS x y H Q
theorem ix_U : IxR X (rIxU X.K) := ix_list.or (ix_tup.or (ix_cell.or ix_str))
def rSetC : V → V → V → Hp → (Hp → Prop) → Prop := fun o i v H Q => ∃ a n, o = .ref a ∧ i = .int 0 ∧ v = .int n ∧ H a = some (cellO a) ∧ Q H
theorem set_cell : PSet X rSetC := by
  intro pins s σ H o i v ov iv u Q I ro ri rv h
  obtain ⟨a, n, rfl, rfl, rfl, ha, q⟩ := h
  obtain ⟨j, J⟩ := cell_open I ha
  refine thn (set_list pins s σ _ _ _ _ ov iv u (fun H' => H' = upd H a (.lst [.int n])) J ro ri rv ⟨a, [.int j], 0, 0, rfl, rfl, upd_same, rfl, upd_upd⟩) fun w s1 hh => ?_
  obtain ⟨H', J', rfl⟩ := hh
  exact ⟨H, cell_back (o := cellO a) ha J', q⟩
def rSetU : V → V → V → Hp → (Hp → Prop) → Prop := fun o i v H Q => rSetL o i v H Q ∨ rSetC o i v H Q
theorem set_U : PSet X rSetU := by
  intro pins s σ H o i v ov iv u Q I ro ri rv h
  rcases h with h | h
  · exact set_list pins s σ H o i v ov iv u Q I ro ri rv h
  · exact set_cell pins s σ H o i v ov iv u Q I ro ri rv h
/-- [0]: the counter is laid -/
def tCell : TE := fun _ H Q => ∀ p, H p = none → Q (.ref p) (upd H p (cellO p))
theorem pe_cell {i : Int} {k : Nat} {p1 p2 : Pos} : PE X (.List [.Constant (.int i) k p1] p2) tCell := by
  refine ⟨fun pins s σ H Q I h => ?_⟩
  have ha : PE X (.List [.Constant (.int i) k p1] p2) _ := pe_lst (pa_cons pe_int pa_nil)
  refine thn (ha.run pins s σ H (fun v H' => ∃ p, v = .ref p ∧ H p = none ∧ H' = upd H p (.lst [.int i])) I ?_) fun w s1 hh => ?_
  · exact ⟨by show 1 ≤ sizeLine; rw [sizeLine_eq]; omega, fun p hp => ⟨p, rfl, hp, rfl⟩⟩
  · obtain ⟨v, H', J, r, p, rfl, hp, rfl⟩ := hh
    have J' := cell_close (a := p) J upd_same
    rw [upd_upd] at J'
    exact ⟨_, _, J', r, h p hp⟩
end

/-! ### the rules with the written part named -/
section
variable {X : Cx} {a b c e o : Expr} {es : List Expr} {ta tb te to : TE} {t : TA} {pos apos : Pos}
theorem pi_UK (K : PySem.W.Frag) {tg l : Expr} {tl : TE} (hl : PE X l tl) (h : X.K = K := by rfl) : PI X tg l (iU K tl) := h ▸ pi_U hl
theorem op_addUK (K : PySem.W.Frag) (h : X.K = K := by rfl) : OpR X (binaryOp .Add) (rAddU K) := h ▸ op_addU
theorem op_eqUK (K : PySem.W.Frag) {k : Nat} (hr : Room k X.A) (h : X.K = K := by rfl) : OpR X (compareOp .Eq) (rEqU K) := h ▸ op_eqU hr
theorem op_neUK (K : PySem.W.Frag) {k : Nat} (hr : Room k X.A) (h : X.K = K := by rfl) : OpR X (compareOp .NotEq) (rNeU K) := h ▸ op_neU hr
theorem op_inK (K : PySem.W.Frag) (h : X.K = K := by rfl) : OpR X (compareOp .In) (rIn K false) := h ▸ op_in_seq
theorem op_notInK (K : PySem.W.Frag) (h : X.K = K := by rfl) : OpR X (compareOp .NotIn) (rIn K true) := h ▸ op_notIn_seq
theorem ix_UK (K : PySem.W.Frag) (h : X.K = K := by rfl) : IxR X (rIxU K) := h ▸ ix_U
theorem sl_listK (K : PySem.W.Frag) (h : X.K = K := by rfl) : SlR X (rSlL K) := h ▸ sl_list
def rLen (K : PySem.W.Frag) : List V → Hp → VK → Prop := fun xs H Q => ∃ x n, xs = [x] ∧ LenV K x H n ∧ Q (.int n) H
theorem call_lenK (K : PySem.W.Frag) (h : X.K = K := by rfl) : CallR X (.builtin "len") (rLen K) := h ▸ call_len
theorem cr_sumK (K : PySem.W.Frag) (hc : X.calm = true) (h : X.K = K := by rfl) : CallR X (.builtin "sum") (rSum K) := h ▸ cr_sum hc
theorem cr_maxK (K : PySem.W.Frag) (hc : X.calm = true) (h : X.K = K := by rfl) : CallR X (.builtin "max") (rMax K) := h ▸ cr_max hc
theorem cr_minK (K : PySem.W.Frag) (hc : X.calm = true) (h : X.K = K := by rfl) : CallR X (.builtin "min") (rMin K) := h ▸ cr_min hc
theorem cr_allK (K : PySem.W.Frag) (hc : X.calm = true) (h : X.K = K := by rfl) : CallR X (.builtin "all") (rAll K) := h ▸ cr_all hc
theorem cr_anyK (K : PySem.W.Frag) (hc : X.calm = true) (h : X.K = K := by rfl) : CallR X (.builtin "any") (rAny K) := h ▸ cr_any hc
def rListOf (K : PySem.W.Frag) : List V → Hp → VK → Prop := fun xs H Q => ∃ p ys, xs = [.ref p] ∧ (SqL K H p ys ∨ SqT K H p ys) ∧ ∀ l, H l = none → Q (.ref l) (upd H l (.lst ys))
theorem call_list_ofK (K : PySem.W.Frag) (h : X.K = K := by rfl) : CallR X (.type "list") (rListOf K) := h ▸ call_list_of
def rInt1 : List V → Hp → VK → Prop := fun xs H Q => (∃ i, xs = [.int i] ∧ Q (.int i) H) ∨ ∃ k, xs = [.bl k] ∧ Q (.int (if k then 1 else 0)) H
theorem call_int1D : CallR X (.type "int") rInt1 := call_int1
def rMin2 : List V → Hp → VK → Prop := fun xs H Q => ∃ i j, xs = [.int i, .int j] ∧ Q (.int (if j < i then j else i)) H
theorem call_min2D (hc : X.calm = true) : CallR X (.builtin "min") rMin2 := call_min2 hc
def rMax2 : List V → Hp → VK → Prop := fun xs H Q => ∃ i j, xs = [.int i, .int j] ∧ Q (.int (if j > i then j else i)) H
theorem call_max2D (hc : X.calm = true) : CallR X (.builtin "max") rMax2 := call_max2 hc
def rAbs : List V → Hp → VK → Prop := fun xs H Q => ∃ i, xs = [.int i] ∧ Q (.int (if i < 0 then -i else i)) H
theorem call_absD : CallR X (.builtin "abs") rAbs := call_abs
def rIsN : R2 := fun x y H Q => y = .non ∧ Q (.bl (decide (x = .non))) H
theorem op_isND : OpR X (compareOp .Is) rIsN := op_isN
def rNotN : R2 := fun x y H Q => y = .non ∧ Q (.bl (!decide (x = .non))) H
theorem op_notND : OpR X (compareOp .IsNot) rNotN := op_notN
def rTupleOf (K : PySem.W.Frag) : List V → Hp → VK → Prop := fun xs H Q => ∃ p ys, xs = [.ref p] ∧ ((SqL K H p ys ∧ ∀ l, H l = none → Q (.ref l) (upd H l (.tup ys))) ∨ (SqT K H p ys ∧ Q (.ref p) H))
theorem call_tuple_ofK (K : PySem.W.Frag) (h : X.K = K := by rfl) : CallR X (.type "tuple") (rTupleOf K) := h ▸ call_tuple_of
theorem call_isiUK (K : PySem.W.Frag) (h : X.K = K := by rfl) : CallR X (.builtin "isinstance") (rIsiU K) := h ▸ call_isiU
def tTruth (K : PySem.W.Frag) (ta : TE) : TT := fun σ H Q => ta σ H fun x H1 => ∃ k, TruV K x H1 k ∧ Q k H1
theorem pt_truthK (K : PySem.W.Frag) (ha : PE X a ta) (he : ∀ whole, isTrue a X.env whole = (do let v ← whole; standAt a.pos; holding [v] (truthy v)) := by intro _; rfl) (h : X.K = K := by rfl) : PT X a (tTruth K ta) := h ▸ pt_truth ha he
theorem pg_tupK (K : PySem.W.Frag) (n : Nat) {k : Nat} {t : TGs} (hc : X.calm = true) (hg : PGs X es t)
    (hn : (assignEach es X.env).length = n := by rfl) (hst : (assignEach es X.env).findIdx? (·.1) = none := by rfl) (h : X.K = K := by rfl) : PG X (.Tuple es k pos) (gTup K n t) := h ▸ pg_tup hc hg hn hst
theorem pe_fldK (K : PySem.W.Frag) {f : Str} (he : PE X e ta) (hb : attributeBase e f X.env (eval e X.env) = eval e X.env) (h : X.K = K := by rfl) : PE X (.Attribute e f pos) (tFld K ta f) := h ▸ pe_fld he hb
theorem pe_revLK (K : PySem.W.Frag) {k : Nat} {p1 p2 p3 : Pos} (he : PE X e te) (h : X.K = K := by rfl) : PE X (.Subscript e (.Slice none none (some (.UnaryOp .USub (.Constant (.int 1) k p1) p2)) p3) pos) (tRevL K te) := h ▸ pe_revL he
section
variable {T id : String} {name : Str} {r : V → List V → Hp → VK → Prop}
theorem pe_bm0K (K : PySem.W.Frag) {cpos : Pos} (pa : PlainAttrs T) (slot : Slot T name id) (hty : typeOf (.builtin id) = pure (.type "method_descriptor")) (hm : MtR X id r) (ho : PE X o to)
    (hb : attributeBase o name X.env (eval o X.env) = eval o X.env := by rfl) (hl : (apos.endLine == cpos.line) = true := by rfl) (h : X.K = K := by rfl) : PE X (.Call (.Attribute o name apos) [] [] cpos) (tBM0 K T r to) := h ▸ pe_bm0 pa slot hty hm ho hb hl
theorem pe_bmK (K : PySem.W.Frag) {cpos : Pos} (pa : PlainAttrs T) (slot : Slot T name id) (hty : typeOf (.builtin id) = pure (.type "method_descriptor")) (hm : MtR X id r) (ho : PE X o to) (ha : PA X (e :: es) t)
    (hb : attributeBase o name X.env (eval o X.env) = eval o X.env := by rfl)
    (hf : ((backTo cpos (starEach (e :: es) X.env)).all (fun x => !x.1) && (backToKw cpos (keywordEach [] X.env)).all (fun x => x.1.isSome) && decide ((e :: es).length + ([] : List Keyword).length + (if ([] : List Keyword).isEmpty then 0 else 1) < 30)) = true := by rfl)
    (hl : (apos.endLine == cpos.line) = true := by rfl) (hs : starEach (e :: es) X.env = (false, eval e X.env) :: starEach es X.env := by rfl) (hp : (backTo cpos (starEach es X.env)).any (·.1) = false := by rfl) (h : X.K = K := by rfl) :
    PE X (.Call (.Attribute o name apos) (e :: es) [] cpos) (tBM K T r to t) := h ▸ pe_bm pa slot hty hm ho ha hb hf hl hs hp
theorem mt_lcountK (K : PySem.W.Frag) (h : X.K = K := by rfl) : MtR X "list.count" (rCntI K) := h ▸ mt_lcount
theorem mt_indexK (K : PySem.W.Frag) (h : X.K = K := by rfl) : MtR X "list.index" (rIndex K) := h ▸ mt_index
end
end
/-- two statements with a word between: the ways of the first are joined -/
def tCut (t u : TS) : TS := fun D σ H => ∃ M : St → Hp → Prop, t { D with nx := M } σ H ∧ ∀ σ' H', M σ' H' → u D σ' H'
theorem pss_cut {X : Cx} {st : Stmt} {rest : List Stmt} {t u : TS} (h1 : PS X st t) (h2 : PSs X rest u) : PSs X (st :: rest) (tCut t u) := by
  refine ⟨fun pins s σ H D I h => ?_⟩
  obtain ⟨M, h, k⟩ := h
  refine wpAny_execs_cons (thn (h1.run pins s σ H { D with nx := M } I h) fun f s1 z => ?_)
  cases f with
  | next => exact let ⟨σ1, H1, I1, z1⟩ := z; h2.run pins s1 σ1 H1 D I1 (k _ _ z1)
  | ret v => exact z
  | brk => exact z
  | cont => exact z
/-! ### calls -/
section
variable {X : Cx} {CX : CXT} {k : Nat} {f C : Addr} {fd : FuncData} {ps ks : List Str} {sp : Sp} {E : XK} {x m : Str} {p pos apos kpos : Pos} {e o : Expr} {es : List Expr} {kws : List Keyword} {te ta : TE} {t tk : TA} {g : List Value → List Value → List Value} {gV : List V → List V → List V}
/-- f(k = v, ..) -/
theorem pe_callK0 (F : FnOk X.prog X.w X.K X.mg X.base CX k f fd ps sp) (hr : Room k X.A) (hg : Gl X x) (hm : X.mg x = some (.ref f)) (hk : PySem.W.keepIn X.K (.ref f) = true)
    (hb : KBinds X.K fd ps ks g gV) (hx : Passes CX X E) (hkw : PK X kws tk)
    (hall : (backToKw pos (keywordEach kws X.env)).all (·.1.isSome) = true := by rfl) (hks : (backToKw pos (keywordEach kws X.env)).filterMap (·.1) = ks := by rfl)
    (hdb : (x == ("__debug__" : Str)) = false := by decide)
    (hpl : ((backTo pos (starEach [] X.env)).any (·.1) || (backToKw pos (keywordEach kws X.env)).any (·.1.isNone)) = false := by rfl) :
    PE X (.Call (.Name x p) [] kws pos) (tCallK sp gV E tNil tk) := by
  refine ⟨fun pins s σ H Q I h => wpAny_Call_Name_kw (ld_glob I hg hm ?_ hdb)⟩
  refine PySem.W.callWith_KW0 (h₀ := X.base) I.ok.mod.kin hk hall ?_ hpl
  refine thn (hkw.run pos pins s σ H _ I h) fun ws s2 ⟨zs, H2, I2, rz, q2⟩ => ⟨I2.kIn, ?_⟩
  rw [hks]
  exact run_fnk (us := []) F hr hb hx I2 .nil rz q2
theorem passLF : Passes (L2.CX X.prog X.w) X (fun _ _ _ => False) := passL
end

/-! ### exceptions of the program's own classes -/
/-- X(), a class without an __init__ of its own -/
structure XOwn (K : PySem.W.Frag) (C : Addr) : Prop where
  ex : PySem.W.excIn K C [.type "ValueError", .type "Exception", .type "BaseException", .type "object"] "ValueError.__new__" = true
  kp : PySem.W.keepIn K (.ref C) = true
  sb : PySem.W.subIn K (.ref C) (.type "BaseException") = some true
  ty : PySem.W.typeIn K (.ref C) = some (.type "type")
theorem pmk_own0 {X : Cx} {x : Str} {C : Addr} {p pos : Pos} (q : XOwn X.K C) (gC : X.mg x = some (.ref C)) (hg : Gl X x := by rfl)
    (hdb : (x == ("__debug__" : Str)) = false := by decide) : PMk X (.Call (.Name x p) [] [] pos) (fun _ H Q => Q (.ref C) none H) := by
  intro pins s σ H Q I h
  refine wpAny_Call_Name_kw (ld_glob I hg gC ?_ hdb)
  refine PySem.W.callWith_K0 I.kIn q.kp ?_
  obtain ⟨bm, N, nm, qn, bs, hdct, sn, sub, ab, col, dd, k0, k1, k2, k3, k5, mN, hC, hN, hni, T⟩ := exc_obj I.kIn q.ex
  refine wpAny_call_exc_subT PySem.F.excBase_ValueError T hC hN hni (fun h' e hm => ?_) (by show 0 ≤ sizeLine; omega)
  exact mk_of I hm (raises_own q.sb q.ty) h (I.hok.gone hm.new)
/-- the exception at a stands in the context -/
structure XPin (X : Cx) (a : Addr) (cls : Value) (d : Option Addr) : Prop where
  ex : ∃ (oe : Obj) (vs : Array Value), (a, oe) ∈ X.pn ∧ Zc cls d oe ∧ oe.data = .fields vs
theorem xpin_suite {X : Cx} {a : Addr} {oe : Obj} {cls : Value} {d : Option Addr} {pn : List (Addr × Obj)} (hz : Zc cls d oe) (hf : ∃ vs, oe.data = .fields vs) : XPin (X.suite a ((a, oe) :: pn)) a cls d := by
  obtain ⟨vs, hv⟩ := hf
  exact ⟨oe, vs, List.mem_cons_self, hz, hv⟩
/-- what the class says, that isinstance and the fields are read rightly -/
structure XCls (K : PySem.W.Frag) (D : Addr) : Prop where
  hc : (PySem.W.clsIn K D).isSome = true
  hg : PySem.W.findIn K (.ref D) "__getattribute__" = some (some (.builtin "BaseException.__getattribute__"))
  hk : PySem.W.findIn K (.ref D) "__getattr__" = some none
  hs : PySem.W.subIn K (.ref D) (.type "BaseException") = some true
  hd : PySem.W.hasDictIn K D = true
  ha : PySem.W.findIn K (.ref D) "__class__" = some (some (.builtin "object.__class__"))
  hn : PySem.W.specialIn K (.builtin "object.__class__") "__get__" = some (some (.builtin "getset_descriptor.__get__"))
  ht : PySem.W.takesIn K (.builtin "object.__class__") = some true
  hm : PySem.W.mroIn K D (.type "object") = some true
/-- the exception's own dict, as H tells it -/
def XDict (H : Hp) (d : Option Addr) (fs : List (Str × V)) : Prop := (d = none ∧ fs = []) ∨ ∃ dd, d = some dd ∧ H dd = some (.xd fs)
section
variable {X : Cx} {a : Addr} {cls : Value} {d : Option Addr} {pins : List (Addr × Obj)} {σ : St} {H : Hp} {s : Shared}
theorem XPin.inst {D : Addr} {fs : List (Str × V)} (p : XPin X a cls d) (I : Inv X pins σ H s) (hc : cls = .ref D) (hd : XDict H d fs) : ∃ (ox : Obj) (od : Option Obj), PySem.W.InstAt s.heap a ox D od ∧
    (∀ dd, d = some dd → ∃ o, od = some o ∧ ∃ mA : Str → Option Value, (∀ name : Str, PySem.W.lookIn name o = some (mA name)) ∧ ∀ f : Str, RelO (fs.lookup f) (mA f)) := by
  obtain ⟨⟨oc, odd, dat, sl⟩, vs, hp, ⟨h1, h2⟩, hv⟩ := p.ex
  dsimp only at h1 h2 hv
  subst hc
  subst hv
  obtain ⟨hget, _⟩ := I.pin _ (List.mem_append_left _ hp)
  rcases hd with ⟨rfl, _⟩ | ⟨dd, rfl, hd⟩
  · subst h1 h2
    exact ⟨_, none, ⟨hget, rfl, rfl, trivial⟩, fun dd z => nomatch z⟩
  · have hx : ObjOk X.prog X.w H s.heap dd (.xd fs) := I.hok dd _ hd
    obtain ⟨mA, hns, hr⟩ := hx
    obtain ⟨od, ho, hl⟩ := lookIn_ns hns
    subst h1 h2
    exact ⟨_, some od, ⟨hget, rfl, rfl, ho⟩, fun dd' z => ⟨od, rfl, mA, hl, hr⟩⟩
/-- isinstance(e, C), isinstance(e, (C, ..)) -/
def rIsX (K : PySem.W.Frag) (a : Addr) (cls : Value) (d : Option Addr) : List V → Hp → VK → Prop := fun xs H Q => ∃ (D : Addr) (fs : List (Str × V)) (c : V) (b : Bool), xs = [.ref a, c] ∧ cls = .ref D ∧ XCls K D ∧ XDict H d fs ∧
  ((∃ u, ClsV c u ∧ PySem.W.kitOne K (.ref D) u = some b) ∨ ∃ tp cs us, c = .ref tp ∧ H tp = some (.tup cs) ∧ Paired ClsV cs us ∧ PySem.W.kitAny K (.ref D) us = some b) ∧ Q (.bl b) H
theorem call_isX (p : XPin X a cls d) : CallR X (.builtin "isinstance") (rIsX X.K a cls d) := by
  intro pins s σ H xs us Q I r h
  obtain ⟨D, fs, c, b, rfl, hc, C, hd, hh, q⟩ := h
  obtain ⟨ox, od, J, _⟩ := p.inst I hc hd
  obtain ⟨u1, u2, rfl, r1, r2⟩ := vals2 r
  cases (show u1 = Value.ref a from r1)
  have Z := PySem.W.kitx_exc (x := a) (ox := ox) (od := od) C.hc C.hg C.hk C.hs C.ha C.hn C.ht C.hm
  rcases hh with ⟨u, k, e⟩ | ⟨tp, cs, ws, rfl, hT, k, e⟩
  · have e2 := k.eq r2
    subst e2
    exact PySem.W.kia_one Z I.kIn J e (fun z => nomatch z) fun tk => ⟨.bl b, H, I.tok tk, rfl, q⟩
  · cases (show u2 = Value.ref tp from r2)
    obtain ⟨_, its, rv, o, h1, h2, n, h3⟩ := (show ObjOk X.prog X.w H s.heap tp (.tup cs) from I.hok tp _ hT)
    have e3 := ClsV.all k rv
    subst e3
    obtain ⟨oc, od2, dt, sl⟩ := o
    simp only at h2 h3
    subst h2 h3
    exact PySem.W.kia_tup Z I.kIn J h1 e (fun z => nomatch z) fun tk => ⟨.bl b, H, I.tok tk, rfl, q⟩
/-- e.f -/
def tXF (K : PySem.W.Frag) (a : Addr) (cls : Value) (d : Option Addr) (f : Str) (te : TE) : TE := fun σ H Q => te σ H fun x H1 => ∃ (D dd : Addr) (fs : List (Str × V)) (v : V), x = .ref a ∧ cls = .ref D ∧ XCls K D ∧ d = some dd ∧ H1 dd = some (.xd fs) ∧
  PySem.W.findIn K (.ref D) f = some none ∧ fs.lookup f = some v ∧ Q v H1
theorem pe_xF {e : Expr} {te : TE} {pos : Pos} {f : Str} (p : XPin X a cls d) (he : PE X e te) (hb : attributeBase e f X.env (eval e X.env) = eval e X.env := by rfl) : PE X (.Attribute e f pos) (tXF X.K a cls d f te) := by
  refine ⟨fun pins s σ H Q I h => ?_⟩
  refine attr_of hb (thn (he.run pins s σ H _ I h) fun u s1 hh => ?_)
  obtain ⟨x, H1, I1, rx, D, dd, fs, v, ex, hc, C, rfl, ea, hno, l, q⟩ := hh
  subst ex
  obtain rfl : u = Value.ref a := rx
  obtain ⟨ox, od, J, hq⟩ := p.inst I1 hc (.inr ⟨dd, rfl, ea⟩)
  obtain ⟨o, rfl, mA, hl, hr⟩ := hq dd rfl
  obtain ⟨u, hu, ru⟩ := RelO.some_of (v := v) (o := mA f) (by rw [← l]; exact hr f)
  exact HandSPX.exc_get I1.kIn J C.hg C.hk C.hs (PySem.W.findObj_own C.hd hno rfl (by rw [hl, hu])) (handed_of ru) ⟨v, H1, I1.tok _, ru, q⟩
end
theorem call_isXK {X : Cx} (K : PySem.W.Frag) {a : Addr} {cls : Value} {d : Option Addr} (p : XPin X a cls d) (h : X.K = K := by rfl) : CallR X (.builtin "isinstance") (rIsX K a cls d) := h ▸ call_isX p
theorem pe_xFK {X : Cx} (K : PySem.W.Frag) {a : Addr} {cls : Value} {d : Option Addr} {e : Expr} {te : TE} {pos : Pos} {f : Str} (p : XPin X a cls d) (he : PE X e te) (hb : attributeBase e f X.env (eval e X.env) = eval e X.env := by rfl) (h : X.K = K := by rfl) : PE X (.Attribute e f pos) (tXF K a cls d f te) := h ▸ pe_xF p he hb
/-! a def that is called in a suite with the exception that is handled there -/
abbrev SpX := Addr → Value → Option Addr → Sp
structure FnE (P : Program) (w : World) (K : PySem.W.Frag) (mg : Str → Option Value) (base : Heap) (k : Nat) (f : Addr) (fd : FuncData) (ps : List Str) (sp : SpX) : Prop where
  len : ∀ a cls d vs H Q E, sp a cls d vs H Q E → vs.length = ps.length
  run : ∀ (A : Around) (outer : List Env) (s : Shared) (H : Hp) (args : Args) (us : List Value) (vs : List V) (Q : VK) (a : Addr) (oe : Obj) (cls : Value) (d : Option Addr), L2H.RoomH k A → Zc cls d oe → (∃ v, oe.data = .fields v) → L2H.PinOk outer H s (a, oe) →
    Env0 P w K mg base A outer s H → BindsTo s fd args (ps.zip us) → Vals vs us → sp a cls d vs H Q (fun _ _ _ => False) → codeAny (model P w) A (.call (.ref f) args) (CR (L2.CX P w) outer P w H s Q (fun _ _ _ => False)) s
abbrev cxE (P : Program) (w : World) (K : PySem.W.Frag) (mg : Str → Option Value) (base : Heap) (N : List Str) (qual : Str) (scope : Scope) (f : Addr) (cd : Value) (A : Around) (outer : List Env) (s : Shared) (H : Hp) (p : Addr × Obj) : Cx :=
  L2H.cxH (L2.CX P w) P w K mg base N qual scope f cd A outer s H (fun _ _ _ => False) p
theorem Fun.okE {P : Program} {w : World} {K : PySem.W.Frag} {mg : Str → Option Value} {base : Heap} {x qual : Str} {st : Stmt} {f : Addr} {fd : FuncData} {N ps : List Str} {k : Nat} {sp : SpX} (F : Fun K x qual st f fd) (S : FnScope N ps (defScope st))
    (len : ∀ a cls d vs H Q E, sp a cls d vs H Q E → vs.length = ps.length)
    (hbody : ∀ (cdv : Value) (A : Around) (outer : List Env) (s : Shared) (H : Hp) (vs : List V) (Q : VK) (a : Addr) (oe : Obj) (cls : Value) (d : Option Addr), Zc cls d oe → (∃ v, oe.data = .fields v) → L2H.RoomH k (A.deeper (envOfC qual (defScope st) s.heap.objs.size f cdv)) →
      sp a cls d vs H Q (fun _ _ _ => False) → ∃ t, PSs (cxE P w K mg base N qual (defScope st) f cdv A outer s H (a, oe)).nox (defBody st) t ∧ t { nx := fun _ H' => Q .non H', rt := Q } (start N vs) H) : FnE P w K mg base (k + 1) f fd ps sp := by
  obtain ⟨oc, od, kV, doc, pm, an, cdv, ct, osl, rfl, lk, hcd⟩ := F.ex
  refine ⟨len, fun A outer s H args us vs Q a oe cls d hr hz hf hpin e0 hb r hsp => ?_⟩
  have hl := len _ _ _ _ _ _ _ hsp
  have KX : K.In s.heap := e0.mod.kin.keeps fun b o e => (e0.bs b o e).1
  have lim : s.heap.NoLimit := e0.mod.nolimit.keeps fun b o e => (e0.bs b o e).1
  have hk : ∀ y ∈ ps.zip us, (defScope st).names.lookup y.1 = some .local ∨ ((defScope st).names.lookup y.1 = some .cell ∧ ((cellsFrom (s.heap.objs.size + 1) (defScope st).names []).lookup y.1).isSome = true) := fun ⟨n, v⟩ hy =>
    (S.par n (List.of_mem_zip hy).1).elim .inl fun z => .inr ⟨z, PySem.W.cellsFrom_some _ _ _ (.inl z)⟩
  refine codeAny_call_function hr.depth (KX _ _ lk) rfl S.co S.gen rfl (PySem.W.codeRec_of KX hcd) (hb _ _ _ _ (wpAny_newFunctionEnv_cells S.kind hk fun env he s1 x => ?_))
  subst he
  refine ⟨lim.keeps x.toInCall.keep, codeAny_func ?_⟩
  obtain ⟨t, ht, hq⟩ := hbody cdv A outer s H vs Q a oe cls d hz hf (hr.deeper _) hsp
  have I := (L2H.inv_startH (CX := L2.CX P w) (E := fun _ _ _ => False) (qual := qual) (f := f) (cd := cdv) S hpin e0 hl r x)
  refine wpAny_mono (ht.nox.run [] s1 (start N vs) H _ I hq) (fun fl s' hs => ?_) fun e s' hs => hs
  cases fl with
  | ret u => exact let ⟨v, σ', H', J, rv, z⟩ := hs; ⟨v, H', J.os, J.bare, J.base, J.hok, rv, z⟩
  | next => exact let ⟨σ', H', J, z⟩ := hs; ⟨V.non, H', J.os, J.bare, J.base, J.hok, rfl, z⟩
  | brk => exact let ⟨_, _, _, z⟩ := hs; False.elim z
  | cont => exact let ⟨_, _, _, z⟩ := hs; False.elim z
theorem xpin_def {P : Program} {w : World} {K : PySem.W.Frag} {mg : Str → Option Value} {base : Heap} {N : List Str} {qual : Str} {scope : Scope} {f : Addr} {cd : Value} {A : Around} {outer : List Env} {s : Shared} {H : Hp} {a : Addr} {oe : Obj} {cls : Value} {d : Option Addr} (hz : Zc cls d oe) (hf : ∃ vs, oe.data = .fields vs) :
    XPin (cxE P w K mg base N qual scope f cd A outer s H (a, oe)).nox a cls d := by
  obtain ⟨vs, hv⟩ := hf
  exact ⟨oe, vs, List.mem_cons_self, hz, hv⟩
section
variable {X : Cx} {k : Nat} {f a : Addr} {fd : FuncData} {ps : List Str} {sp : SpX} {x : Str} {p pos : Pos} {e : Expr} {es : List Expr} {t : TA} {cls : Value} {d : Option Addr}
def tCallE (sp : SpX) (a : Addr) (cls : Value) (d : Option Addr) (t : TA) : TE := fun σ H Q => t σ H fun vs H1 => sp a cls d vs H1 Q (fun _ _ _ => False)
theorem pe_callE (F : FnE X.prog X.w X.K X.mg X.base k f fd ps sp) (hr : L2H.RoomH k X.A) (xp : XPin X a cls d) (hg : Gl X x) (hm : X.mg x = some (.ref f)) (hk : PySem.W.keepIn X.K (.ref f) = true) (hb : Binds X.K fd ps [])
    (ha : PA X (e :: es) t) (hdb : (x == ("__debug__" : Str)) = false := by decide) (he : starEach (e :: es) X.env = (false, eval e X.env) :: starEach es X.env := by rfl) (hpl : (backTo pos (starEach es X.env)).any (·.1) = false := by rfl) :
    PE X (.Call (.Name x p) (e :: es) [] pos) (tCallE sp a cls d t) := by
  refine ⟨fun pins s σ H Q I h => wpAny_Call_Name_kw (ld_glob I hg hm ?_ hdb)⟩
  refine PySem.W.callWith_K (h₀ := X.base) I.ok.mod.kin hk (thn (ha.run pos pins s σ H _ I h) fun us s1 ⟨vs, H1, I1, r, hs⟩ => ⟨I1.kIn, ?_⟩) he hpl
  obtain ⟨oe, v, hp, hz, hv⟩ := xp.ex
  have hl : us.length = ps.length := by rw [← r.length]; exact F.len _ _ _ _ _ _ _ hs
  have b := hb s1 us I1.kIn (by rw [List.append_nil]; exact hl)
  rw [List.append_nil] at b
  have P1 := I1.pin (a, oe) (List.mem_append_left _ hp)
  have hpin : L2H.PinOk X.stack H1 s1 (a, oe) := ⟨P1.1, P1.2.1, fun hm => (List.mem_cons.mp (I1.stkSub a hm)).elim P1.2.2.1 P1.2.2.2.1, P1.2.2.2.2⟩
  refine wpAny_call (codeAny_mono (F.run X.A X.stack s1 H1 ⟨us, []⟩ us vs Q a oe cls d hr hz ⟨v, hv⟩ hpin I1.env0 b r hs) fun r s' hq => ?_)
  cases r with
  | error er => exact (passLF (X := X)) pins σ H1 s1 er s' I1 hq
  | ok fl =>
    cases fl with
    | ret u => exact I1.after hq
    | next => exact False.elim hq
    | brk => exact False.elim hq
    | cont => exact False.elim hq
end
end EL

namespace EL
open PySem PySem.Spec PyProof.Rows L2

/-! ### heaps that grow -/
theorem _root_.L2.Same.upd {H H' : Hp} {p : Addr} {o : HO} (h : Same H H') (n : H p = none) : Same H (L2.upd H' p o) := fun b u e => by
  rw [upd_ne (ne_of_none e n)]
  exact h b u e
theorem _root_.L2.Same.new {H : Hp} {p : Addr} {o : HO} (n : H p = none) : Same H (L2.upd H p o) := Same.upd (Same.refl H) n
theorem _root_.L2.Same.rd {H H' : Hp} {a : Addr} {u : HO} (e : Same H H') (h : Rd H a u) : Rd H' a u := h.elim (fun z => .inl (e _ _ z)) fun ⟨o, z⟩ => .inr ⟨o, e _ _ z⟩
theorem _root_.L2.Same.seqT {K : PySem.W.Frag} {H H' : Hp} {a : Addr} {xs : List V} (e : Same H H') (h : SqT K H a xs) : SqT K H' a xs := h.elim (fun z => .inl (e.rd z)) .inr
mutual
theorem dpSame {K : PySem.W.Frag} {H H' : Hp} (e : Same H H') : ∀ {d : PyData} {v : V}, Dp K H v d → Dp K H' v d
  | .none, _, h => by cases h; exact .non
  | .bool b, _, h => by cases h; exact .bl b
  | .int i, _, h => by cases h; exact .int i
  | .str x, _, h => by cases h; exact .str x
  | .list ds, _, h => by
    cases h with
    | lst hs ha => exact .lst (e.seq hs) (dpAllSame e ha)
  | .tuple ds, _, h => by
    cases h with
    | tup hs ha => exact .tup (e.seqT hs) (dpAllSame e ha)
  | .dict _, _, h => by cases h
theorem dpAllSame {K : PySem.W.Frag} {H H' : Hp} (e : Same H H') : ∀ {ds : List PyData} {vs : List V}, DpAll K H vs ds → DpAll K H' vs ds
  | [], _, h => by cases h; exact .nil
  | d :: ds, _, h => by
    cases h with
    | cons h1 h2 => exact .cons (dpSame e h1) (dpAllSame e h2)
end
theorem _root_.L2.Same.dp {K : PySem.W.Frag} {H H' : Hp} (e : Same H H') {d : PyData} {v : V} (h : Dp K H v d) : Dp K H' v d := dpSame e h
theorem _root_.L2.Same.dpAll {K : PySem.W.Frag} {H H' : Hp} (e : Same H H') {d : List PyData} {v : List V} (h : DpAll K H v d) : DpAll K H' v d := dpAllSame e h
theorem dpInts {K : PySem.W.Frag} {H : Hp} : ∀ xs : List Int, DpAll K H (xs.map V.int) (xs.map PyData.int)
  | [] => .nil
  | x :: xs => .cons (.int x) (dpInts xs)

theorem strans {H H1 H2 : Hp} (b : Same H1 H2) (a : Same H H1) : Same H H2 := a.trans b
theorem same_at {H H' : Hp} {a : Addr} {o : HO} (s : Same H H') (e : H a = some o) : H' a = some o := s _ _ e
/-! ### what a call gives -/
inductive Out where
  | ret (v : V)
  | err (C : Addr) (f : Str) (v : V)
  | err0 (C : Addr)
  | tup (xs : List V)
  | lst (R : Hp → List V → Prop)
def Gives (H : Hp) (Q : VK) (E : XK) : Out → Prop
  | .ret v => ∀ H', Same H H' → Q v H'
  | .err C f v => ∀ H' d, Same H H' → H' d = some (.xd [(f, v)]) → E (.ref C) (some d) H'
  | .err0 C => ∀ H', Same H H' → E (.ref C) none H'
  | .tup xs => ∀ H' p, Same H H' → H' p = some (.tup xs) → Q (.ref p) H'
  | .lst R => ∀ H' p vs, Same H H' → H p = none → H' p = some (.lst vs) → R H' vs → Q (.ref p) H'
theorem Gives.mono {H H' : Hp} {Q : VK} {E : XK} {o : Out} (h : Gives H Q E o) (s : Same H H') : Gives H' Q E o := by
  cases o with
  | ret v => exact fun H2 s2 => h H2 (s.trans s2)
  | err C f v => exact fun H2 d s2 e => h H2 d (s.trans s2) e
  | err0 C => exact fun H2 s2 => h H2 (s.trans s2)
  | tup xs => exact fun H2 p s2 e => h H2 p (s.trans s2) e
  | lst R => exact fun H2 p vs s2 n e r => h H2 p vs (s.trans s2) (s.free n) e r

theorem gret {H : Hp} {Q : VK} {E : XK} {o : Out} {v : V} (e : o = .ret v) (k : ∀ H', Same H H' → Q v H') : Gives H Q E o := by
  subst e
  exact k
theorem gerr {H : Hp} {Q : VK} {E : XK} {o : Out} {C : Addr} {f : Str} {v : V} (e : o = .err C f v) (k : ∀ H' d, Same H H' → H' d = some (.xd [(f, v)]) → E (.ref C) (some d) H') : Gives H Q E o := by
  subst e
  exact k
theorem gerr0 {H : Hp} {Q : VK} {E : XK} {o : Out} {C : Addr} (e : o = .err0 C) (k : ∀ H', Same H H' → E (.ref C) none H') : Gives H Q E o := by
  subst e
  exact k
/-! ### the readings, step by step -/
def Tru (K : PySem.W.Frag) (x : V) (H : Hp) (R : Bool → Prop) : Prop := ∃ k, TruV K x H k ∧ R k
def IsBl (x : V) (R : Bool → Prop) : Prop := ∃ k, x = .bl k ∧ R k
def Br (b : Bool) (A B : Prop) : Prop := if b = true then A else B
def NewO (o : HO) (n : Nat) (H : Hp) (Q : VK) : Prop := n ≤ sizeLine ∧ ∀ p, H p = none → Q (.ref p) (upd H p o)
def Par2 (vs : List V) (R : V → V → Prop) : Prop := ∃ v w, vs = [v, w] ∧ R v w
section
variable {D : Ends} {σ : St} {H : Hp} {Q : VK} {K : PySem.W.Frag} {ta tb tc te : TE} {t u : TS} {c c' : TT} {r : R2} {g : TG}
theorem tSeq_i (h : t { D with nx := u D } σ H) : tSeq t u D σ H := h
theorem tNext_i (h : D.nx σ H) : tNext D σ H := h
theorem tBreak_i (h : D.bk σ H) : tBreak D σ H := h
theorem tCont_i (h : D.ct σ H) : tCont D σ H := h
theorem tAsg_i (h : te σ H (fun x H1 => g x σ H1 D.nx)) : tAsg te g D σ H := h
theorem tDrop_i (h : te σ H fun _ H1 => D.nx σ H1) : tDrop te D σ H := h
theorem tRet_i (h : te σ H D.rt) : tRet te D σ H := h
theorem tRetN_i (h : D.rt .non H) : tRetN D σ H := h
theorem tIfS_i (h : c σ H fun b H1 => Br b (t D σ H1) (u D σ H1)) : tIfS c t u D σ H := h
theorem gName_i {i : Nat} {v : V} {R : St → Hp → Prop} (h : R (σ.set i (some v)) H) : gName i v σ H R := h
theorem tVar_i {i : Nat} {v : V} (e : σ[i]? = some (some v)) (h : Q v H) : tVar i σ H Q := ⟨v, e, h⟩
theorem tC_i {v : V} (h : Q v H) : tC v σ H Q := h
theorem tOp_i (h : ta σ H fun x H1 => tb σ H1 fun y H2 => r x y H2 Q) : tOp r ta tb σ H Q := h
theorem tUn_i {r : V → Hp → VK → Prop} (h : ta σ H fun x H1 => r x H1 Q) : tUn r ta σ H Q := h
theorem tNil_i {R : List V → Hp → Prop} (h : R [] H) : tNil σ H R := h
theorem tCons_i {tr : TA} {R : List V → Hp → Prop} (h : ta σ H fun x H1 => tr σ H1 fun xs H2 => R (x :: xs) H2) : tCons ta tr σ H R := h
theorem tTest_i {R : Bool → Hp → Prop} (h : te σ H fun x H' => IsBl x fun k => R k H') : tTest te σ H R := h
theorem tTruth_i {R : Bool → Hp → Prop} (h : te σ H fun x H1 => Tru K x H1 fun k => R k H1) : tTruth K te σ H R := h
theorem tAnd_i {R : Bool → Hp → Prop} (h : c σ H fun b H1 => Br b (c' σ H1 R) (R false H1)) : tAnd c c' σ H R := h
theorem tOr_i {R : Bool → Hp → Prop} (h : c σ H fun b H1 => Br b (R true H1) (c' σ H1 R)) : tOr c c' σ H R := h
theorem tNot_i {R : Bool → Hp → Prop} (h : c σ H fun b H1 => R (!b) H1) : tNot c σ H R := h
theorem tAndV_i (h : ta σ H fun x H1 => IsBl x fun b => Br b (tb σ H1 Q) (Q (.bl false) H1)) : tAndV ta tb σ H Q := h
theorem tOrV_i (h : ta σ H fun x H1 => IsBl x fun b => Br b (Q (.bl true) H1) (tb σ H1 Q)) : tOrV ta tb σ H Q := h
theorem tNotV_i (h : ta σ H fun x H1 => IsBl x fun b => Q (.bl (!b)) H1) : tNotV ta σ H Q := h
theorem tIf_i (h : c σ H fun b H1 => Br b (ta σ H1 Q) (tb σ H1 Q)) : tIf c ta tb σ H Q := h
theorem tCB_i {r : List V → Hp → VK → Prop} {ts : TA} (h : ts σ H fun vs H1 => r vs H1 Q) : tCB r ts σ H Q := h
theorem tCallS_i {sp : Sp} {E : St → XK} {ts : TA} (h : ts σ H fun vs H1 => sp vs H1 Q (E σ)) : tCallS sp E ts σ H Q := h
theorem tCall_i {sp : Sp} {dvs : List V} {E : XK} {ts : TA} (h : ts σ H fun vs H1 => sp (vs ++ dvs) H1 Q E) : tCall sp dvs E ts σ H Q := h
theorem tCallK_i {sp : Sp} {gV : List V → List V → List V} {E : XK} {ts tk : TA} (h : ts σ H fun vs H1 => tk σ H1 fun zs H2 => sp (gV vs zs) H2 Q E) : tCallK sp gV E ts tk σ H Q := h
theorem tChain_i {r' : R2} (h : ta σ H fun x H1 => tb σ H1 fun y H2 => r x y H2 fun z H3 => IsBl z fun k => Br k (tc σ H3 fun w H4 => r' y w H4 Q) (Q (.bl false) H3)) : tChain r r' ta tb tc σ H Q := h
theorem tTup_i {ts : TA} (h : ts σ H fun xs H1 => NewO (.tup xs) xs.length H1 Q) : tTup ts σ H Q := h
theorem tLst_i {ts : TA} (h : ts σ H fun xs H1 => NewO (.lst xs) xs.length H1 Q) : tLst ts σ H Q := h
theorem tPar_i {i j : Nat} {ts : TA} (h : ts σ H fun vs H1 => Par2 vs fun v w => D.nx ((σ.set i (some v)).set j (some w)) H1) : tPar i j ts D σ H := h
theorem Par2_i {v w : V} {R : V → V → Prop} (h : R v w) : Par2 [v, w] R := ⟨v, w, rfl, h⟩
theorem IsBl_i {b : Bool} {R : Bool → Prop} (h : R b) : IsBl (.bl b) R := ⟨b, rfl, h⟩
theorem new_i {n : Nat} {o : HO} (hn : n ≤ sizeLine) (h : ∀ p H', H p = none → Same H H' → H' p = some o → Q (.ref p) H') : NewO o n H Q :=
  ⟨hn, fun p hp => h p _ hp (Same.new hp) upd_same⟩
theorem Br_t {A B : Prop} (h : A) : Br true A B := iteT h
theorem Br_f {A B : Prop} (h : B) : Br false A B := iteF h
theorem Br_nt {A B : Prop} (h : B) : Br (!true) A B := iteF h
theorem Br_nf {A B : Prop} (h : A) : Br (!false) A B := iteT h
theorem Br_b {b : Bool} {A B : Prop} (h1 : b = true → A) (h2 : b = false → B) : Br b A B := by
  cases b
  · exact iteF (h2 rfl)
  · exact iteT (h1 rfl)
theorem Br_n {b : Bool} {A B : Prop} (h : Br b B A) : Br (!b) A B := by
  cases b
  · exact iteT (show A from h)
  · exact iteF (show B from h)
theorem Br_d {p : Prop} [Decidable p] {A B : Prop} (h1 : p → A) (h2 : ¬ p → B) : Br (decide p) A B :=
  Br_b (fun h => h1 (of_decide_eq_true h)) fun h => h2 (of_decide_eq_false h)
theorem Br_dt {p : Prop} [Decidable p] {A B : Prop} (hp : p) (h : A) : Br (decide p) A B := Br_d (fun _ => h) fun z => absurd hp z
theorem Br_df {p : Prop} [Decidable p] {A B : Prop} (hp : ¬ p) (h : B) : Br (decide p) A B := Br_d (fun z => absurd z hp) fun _ => h
/-! values -/
theorem rI0_i {f : Int → Int → V} {i j : Int} (h : Q (f i j) H) : rI0 f (.int i) (.int j) H Q := ⟨i, j, rfl, rfl, h⟩
theorem rI_i {C : Int → Int → Prop} {f : Int → Int → V} {i j : Int} (hc : C i j) (h : Q (f i j) H) : rI C f (.int i) (.int j) H Q := ⟨i, j, rfl, rfl, hc, h⟩
theorem rU_i {f : Int → V} {i : Int} (h : Q (f i) H) : rU f (.int i) H Q := ⟨i, rfl, h⟩
theorem rAddU_i {i j : Int} (h : Q (.int (i + j)) H) : rAddU K (.int i) (.int j) H Q := .inl ⟨i, j, rfl, rfl, h⟩
theorem rMulU_i {i j : Int} (hc : CMul i j) (h : Q (.int (i * j)) H) : rMulU (.int i) (.int j) H Q := .inl ⟨i, j, rfl, rfl, hc, h⟩
theorem rModP_i {i j : Int} (hc : 0 < j) (h : Q (.int (i % j)) H) : rModP (.int i) (.int j) H Q := ⟨i, j, rfl, rfl, hc, h⟩
theorem rDivP_i {i j : Int} (hc : CDiv i j) (h : Q (.int (i / j)) H) : rDivP (.int i) (.int j) H Q := ⟨i, j, rfl, rfl, hc, h⟩
theorem int_eq {i j : Int} : decide (V.int i = V.int j) = decide (i = j) := by rw [dec_int, Bool.beq_eq_decide_eq]
theorem str_eq {i j : Str} : decide (V.str i = V.str j) = decide (i = j) := by rw [dec_str, Bool.beq_eq_decide_eq]
theorem rEqU_i {i j : Int} (h : Q (.bl (decide (i = j))) H) : rEqU K (.int i) (.int j) H Q := .inl ⟨rfl, by rw [int_eq]; exact h⟩
theorem rNeU_i {i j : Int} (h : Q (.bl (!decide (i = j))) H) : rNeU K (.int i) (.int j) H Q := .inl ⟨rfl, by rw [int_eq]; exact h⟩
theorem rEqU_s {i j : Str} (h : Q (.bl (decide (i = j))) H) : rEqU K (.str i) (.str j) H Q := .inl ⟨rfl, by rw [str_eq]; exact h⟩
theorem rNeU_s {i j : Str} (h : Q (.bl (!decide (i = j))) H) : rNeU K (.str i) (.str j) H Q := .inl ⟨rfl, by rw [str_eq]; exact h⟩
theorem rIxU_l {p : Addr} {xs : List V} {i : Int} {v : V} (hs : SqL K H p xs) (ha : atI xs i = some v) (h : Q v H) : rIxU K (.ref p) (.int i) H Q := .inl ⟨p, xs, i, v, rfl, rfl, hs, ha, h⟩
theorem rIxU_t {p : Addr} {xs : List V} {i : Int} {v : V} (hs : SqT K H p xs) (ha : atI xs i = some v) (h : Q v H) : rIxU K (.ref p) (.int i) H Q := .inr (.inl ⟨p, xs, i, v, rfl, rfl, hs, ha, h⟩)
theorem isN_i {x : V} {R : VK} (h : R (.bl (decide (x = .non))) H) : V.non = V.non ∧ R (.bl (decide (x = .non))) H := ⟨rfl, h⟩
theorem call_int_i {i : Int} (h : Q (.int i) H) : (∃ j, [V.int i] = [V.int j] ∧ Q (.int j) H) ∨ ∃ k, [V.int i] = [V.bl k] ∧ Q (.int (if k then 1 else 0)) H := .inl ⟨i, rfl, h⟩
theorem rLen_l {p : Addr} {xs : List V} (hs : SqL K H p xs) (h : Q (.int xs.length) H) : rLen K [.ref p] H Q := ⟨_, _, rfl, .inl ⟨xs, hs, rfl⟩, h⟩
theorem rLen_t {p : Addr} {xs : List V} (hs : SqT K H p xs) (h : Q (.int xs.length) H) : rLen K [.ref p] H Q := ⟨_, _, rfl, .inr ⟨xs, hs, rfl⟩, h⟩
theorem and_pure {p : Prop} {q : Prop} (h1 : p) (h2 : q) : p ∧ q := ⟨h1, h2⟩
/-! new objects by values -/
theorem rSlL_i {a : Addr} {xs : List V} {lo hi : Option Int} (hS : SqL K H a xs) (h : ∀ p H', H p = none → Same H H' → H' p = some (.lst (cutV xs lo hi)) → Q (.ref p) H') : rSlL K (.ref a) lo hi H Q :=
  ⟨a, xs, rfl, hS, fun p hp => h p _ hp (Same.new hp) upd_same⟩
theorem rListOf_l {a : Addr} {xs : List V} (hS : SqL K H a xs) (h : ∀ p H', H p = none → Same H H' → H' p = some (.lst xs) → Q (.ref p) H') : rListOf K [.ref a] H Q :=
  ⟨a, xs, rfl, .inl hS, fun p hp => h p _ hp (Same.new hp) upd_same⟩
theorem rListOf_t {a : Addr} {xs : List V} (hS : SqT K H a xs) (h : ∀ p H', H p = none → Same H H' → H' p = some (.lst xs) → Q (.ref p) H') : rListOf K [.ref a] H Q :=
  ⟨a, xs, rfl, .inr hS, fun p hp => h p _ hp (Same.new hp) upd_same⟩
theorem rTupleOf_l {a : Addr} {xs : List V} (hS : SqL K H a xs) (h : ∀ p H', H p = none → Same H H' → H' p = some (.tup xs) → Q (.ref p) H') : rTupleOf K [.ref a] H Q :=
  ⟨a, xs, rfl, .inl ⟨hS, fun p hp => h p _ hp (Same.new hp) upd_same⟩⟩
theorem rAddU_l {a b : Addr} {xs ys : List V} (ha : H a = some (.lst xs)) (hb : H b = some (.lst ys)) (hn : xs.length + ys.length ≤ sizeLine) (h : ∀ p H', H p = none → Same H H' → H' p = some (.lst (xs ++ ys)) → Q (.ref p) H') : rAddU K (.ref a) (.ref b) H Q :=
  .inr (.inl ⟨a, b, xs, ys, rfl, rfl, ha, hb, hn, fun p hp => h p _ hp (Same.new hp) upd_same⟩)
theorem eqD_i {x y : V} {d e : PyData} (hx : Dp K H x d) (hy : Dp K H y e) (sd : SeqAt.shaped d = true) (se : SeqAt.shaped e = true) (h : Q (.bl (PyData.eqv d e)) H) : rEqU K x y H Q := .inr ⟨d, e, hx, hy, sd, se, h⟩
theorem neD_i {x y : V} {d e : PyData} (hx : Dp K H x d) (hy : Dp K H y e) (sd : SeqAt.shaped d = true) (se : SeqAt.shaped e = true) (h : Q (.bl (!PyData.eqv d e)) H) : rNeU K x y H Q := .inr ⟨d, e, hx, hy, sd, se, h⟩
/-! an append -/
theorem del_upd {H : Hp} {D : Addr} {o : HO} : del (upd H D o) D = del H D := by
  funext b
  by_cases hb : b = D
  · rw [hb, del_same, del_same]
  · rw [del_ne hb, upd_ne hb, del_ne hb]
def Chg (o : Addr) (H H' : Hp) : Prop := ∀ b u, b ≠ o → H b = some u → H' b = some u
theorem append_i {l : Addr} {xs : List V} {y : V} (hl : H l = some (.lst xs)) (hn : xs.length < sizeLine) (h : ∀ H', Chg l H H' → H' l = some (.lst (xs ++ [y])) → ((∀ H0, Same H0 H → H0 l = none → Same H0 H') ∧ del H' l = del H l) → Q .non H') : rAppend (.ref l) [y] H Q :=
  ⟨l, xs, y, rfl, rfl, hl, hn, h _ (fun b u hb e => by rw [upd_ne hb]; exact e) upd_same ⟨fun H0 s0 n => Same.upd s0 n, del_upd⟩⟩
theorem append_ints {l : Addr} {xs : List Int} {y : Int} (hl : H l = some (.lst (xs.map V.int))) (hn : xs.length < 1000000) (h : ∀ H', Chg l H H' → H' l = some (.lst ((xs ++ [y]).map V.int)) → (∀ H0, Same H0 H → H0 l = none → Same H0 H') → Q .non H') : rAppend (.ref l) [.int y] H Q :=
  append_i hl (by rw [List.length_map]; exact Nat.lt_trans hn (by decide)) fun H' c e s => h H' c (by rw [List.map_append]; exact e) s.1
def Dg (xs : List Int) : Prop := ∀ x ∈ xs, 0 ≤ x ∧ x < 1000
theorem dg_nil : Dg [] := fun _ h => nomatch h
theorem dg_app {xs : List Int} {y : Int} (h : Dg xs) (hy : 0 ≤ y ∧ y < 1000) : Dg (xs ++ [y]) := fun x hx => (List.mem_append.mp hx).elim (h x) fun z => by
  rw [List.mem_singleton.mp z]
  exact hy
theorem dg_mod {z : Int} : 0 ≤ z % 1000 ∧ z % 1000 < 1000 := by omega
theorem dg_take {xs : List Int} {n : Nat} (h : Dg xs) : Dg (xs.take n) := fun x hx => h x (List.mem_of_mem_take hx)
theorem cut_take {xs : List Int} {c : Int} (h0 : 0 ≤ c) (h1 : c ≤ xs.length) : cutV (xs.map V.int) none (some c) = (xs.take c.toNat).map V.int := by
  unfold cutV
  obtain ⟨n, rfl⟩ : ∃ n : Nat, c = (n : Int) := ⟨c.toNat, by omega⟩
  rw [HT.sIx_none, HT.sIx_nat, List.drop_zero, Nat.sub_zero, List.length_map, Nat.min_eq_left (by omega), Int.toNat_natCast, List.map_take]
/-- the drawn numbers and the counter -/
def Draw (K : PySem.W.Frag) (H : Hp) (c a : Addr) : Prop := (∃ xs : List Int, SqL K H c (xs.map V.int) ∧ 0 < xs.length) ∧ H a = some (cellO a)
theorem _root_.L2.Same.draw {K : PySem.W.Frag} {H H' : Hp} {c a : Addr} (s : Same H H') (h : Draw K H c a) : Draw K H' c a := by
  obtain ⟨⟨xs, h1, h2⟩, h3⟩ := h
  exact ⟨⟨xs, s.seq h1, h2⟩, s _ _ h3⟩
theorem tBM_i {T : String} {r : V → List V → Hp → VK → Prop} {to : TE} {ts : TA} (h : to σ H fun x H1 => tyV K T x H1 ∧ ts σ H1 fun xs H2 => r x xs H2 Q) : tBM K T r to ts σ H Q := h
theorem tyL {a : Addr} {xs : List V} {A : Prop} (hS : SqL K H a xs) (h : A) : tyV K "list" (.ref a) H ∧ A := ⟨.inl ⟨rfl, xs, hS⟩, h⟩
theorem tSl_i {r : V → Option Int → Option Int → Hp → VK → Prop} {tl th : TO} (h : te σ H fun x H1 => tl σ H1 fun l H2 => th σ H2 fun u H3 => r x l u H3 Q) : tSl r te tl th σ H Q := h
theorem tNoPart_i {R : Option Int → Hp → Prop} (h : R none H) : tNoPart σ H R := h
def PartI (x : V) (R : Option Int → Prop) : Prop := ∃ i, x = .int i ∧ R (some i)
theorem PartI_i {i : Int} {R : Option Int → Prop} (h : R (some i)) : PartI (.int i) R := ⟨i, rfl, h⟩
theorem tPart_i {R : Option Int → Hp → Prop} (h : te σ H fun x H1 => PartI x fun o => R o H1) : tPart te σ H R := h
theorem rInt1_i {i : Int} (h : Q (.int i) H) : rInt1 [.int i] H Q := .inl ⟨i, rfl, h⟩
theorem rInt1_b {k : Bool} (h : Q (.int (if k then 1 else 0)) H) : rInt1 [.bl k] H Q := .inr ⟨k, rfl, h⟩
theorem rMin2_i {i j : Int} (h : Q (.int (if j < i then j else i)) H) : rMin2 [.int i, .int j] H Q := ⟨i, j, rfl, h⟩
theorem rMax2_i {i j : Int} (h : Q (.int (if j > i then j else i)) H) : rMax2 [.int i, .int j] H Q := ⟨i, j, rfl, h⟩
theorem rAbs_i {i : Int} (h : Q (.int (if i < 0 then -i else i)) H) : rAbs [.int i] H Q := ⟨i, rfl, h⟩
theorem Tru_b {b : Bool} {R : Bool → Prop} (h : R b) : Tru K (.bl b) H R := ⟨b, rfl, h⟩
theorem Tru_i {i : Int} {R : Bool → Prop} (h : R (i != 0)) : Tru K (.int i) H R := ⟨_, rfl, h⟩
theorem Tru_n {R : Bool → Prop} (h : R false) : Tru K .non H R := ⟨_, rfl, h⟩
theorem rIsN_i {x : V} (h : Q (.bl (decide (x = .non))) H) : rIsN x .non H Q := ⟨rfl, h⟩
theorem rNotN_i {x : V} (h : Q (.bl (!decide (x = .non))) H) : rNotN x .non H Q := ⟨rfl, h⟩
theorem rSum_i {a : Addr} (ns : List Int) (hS : SqL K H a (ns.map V.int)) (h : Q (.int ns.sum) H) : rSum K [.ref a] H Q := ⟨a, ns, rfl, hS, h⟩
theorem rAll_i {a : Addr} (bs : List Bool) (hS : SqL K H a (bs.map V.bl)) (h : Q (.bl (bs.all id)) H) : rAll K [.ref a] H Q := ⟨a, bs, rfl, hS, h⟩
/-! raising -/
def spI1 (f : Str) (K : PySem.W.Frag) : Sp := fun vs H Q _ => ∃ (a C : Addr) (v : V), vs = [.ref a, v] ∧ OexC K C ∧ PySem.W.findIn K (.ref C) f = some none ∧ H a = some (exo a C none) ∧
  ∀ dx, H dx = none → dx ≠ a → Q .non (upd (upd H dx (exd dx [(f, v)])) a (exo a C (some dx)))
theorem spI1_len {f : Str} {vs : List V} {E : XK} (h : spI1 f K vs H Q E) : vs.length = 2 := by
  obtain ⟨a, C, v, rfl, _⟩ := h
  rfl
theorem spI1_body {f : Str} {N : List Str} {vs : List V} {E : XK} (h : spI1 f K vs H Q E) : tOst K f (tVar 0) (tVar 1) { nx := fun _ H' => Q .non H', rt := Q } (start N vs) H := by
  obtain ⟨a, C, v, rfl, T, hn, ha, k⟩ := h
  exact ⟨v, rfl, .ref a, rfl, a, C, rfl, T, hn, .inl ⟨ha, k⟩⟩
def MkO1 (C : Addr) (sp : Sp) (vs : List V) (H1 : Hp) (R : XK) : Prop := vs.length ≤ 1000 ∧ ∀ a, H1 a = none → sp (.ref a :: (vs ++ [])) (upd H1 a (exo a C none))
  (fun v H2 => v = .non ∧ ∃ (d : Addr) (fs : List (Str × V)), H2 a = some (exo a C (some d)) ∧ H2 d = some (exd d fs) ∧ H1 d = none ∧ R (.ref C) (some d) (upd (del H2 a) d (.xd fs))) (fun _ _ _ => False)
theorem tMkO_i {C : Addr} {sp : Sp} {ts : TA} {R : XK} (h : ts σ H fun vs H1 => MkO1 C sp vs H1 R) : tMkO C sp [] ts σ H R := h
theorem mkO1 {C : Addr} {f : Str} {v : V} {R : XK} (T : OexC K C) (hn : PySem.W.findIn K (.ref C) f = some none) (k : ∀ H' d, Same H H' → H' d = some (.xd [(f, v)]) → R (.ref C) (some d) H') : MkO1 C (spI1 f K) [v] H R := by
  refine ⟨by show 1 ≤ 1000; omega, fun a ha => ⟨a, C, v, rfl, T, hn, upd_same, fun dx hd hne => ⟨rfl, dx, [(f, v)], upd_same, ?_, ?_, k _ dx ?_ upd_same⟩⟩⟩
  · rw [upd_ne hne, upd_same]
  · rw [upd_ne hne] at hd
    exact hd
  · rw [upd_ne hne] at hd
    intro b u e
    have hb : b ≠ a := ne_of_none e ha
    rw [upd_ne (ne_of_none e hd), del_ne hb, upd_ne hb, upd_ne (ne_of_none e hd), upd_ne hb]
    exact e
/-! while -/
theorem while_w (W : Nat → St → Hp → Prop) (m : Nat) (h0 : W m σ H)
    (hs : ∀ m σ H, W m σ H → c σ H fun b H1 => Br b (∃ N : St → Hp → Prop, (∀ σ' H', N σ' H' → ∃ m', m' < m ∧ W m' σ' H') ∧ t { D with nx := N, ct := N, bk := D.nx } σ H1) (D.nx σ H1)) : tWhile c t D σ H := ⟨W, ⟨m, h0⟩, hs⟩
theorem turn_w {W : Nat → St → Hp → Prop} {m : Nat} (h : t { D with nx := fun σ' H' => ∃ m', m' < m ∧ W m' σ' H', ct := fun σ' H' => ∃ m', m' < m ∧ W m' σ' H', bk := D.nx } σ H) :
    ∃ N : St → Hp → Prop, (∀ σ' H', N σ' H' → ∃ m', m' < m ∧ W m' σ' H') ∧ t { D with nx := N, ct := N, bk := D.nx } σ H := ⟨_, fun _ _ z => z, h⟩
end
end EL

namespace EL
open PySem PySem.Spec PyProof.Rows L2

/-! ### sources: what an iterator gives while the heap says ok -/
structure Src (J : It) (n : Nat) (ok : Hp → Prop) (itm : Nat → V → Hp → Hp → Prop) : Prop where
  go : ∀ i H, ok H → i < n → J.go i H
  stop : ∀ i H, ok H → n ≤ i → J.stop i H
  yld : ∀ i H x H', ok H → i < n → J.yld i H x H' → itm i x H H'
def itmL (xs : List V) : Nat → V → Hp → Hp → Prop := fun i x H H' => H' = H ∧ xs[i]? = some x
def itmR (lo : Int) : Nat → V → Hp → Hp → Prop := fun i x H H' => H' = H ∧ x = .int (lo + (i : Nat))
def itmE (xs : List V) : Nat → V → Hp → Hp → Prop := fun i x H H' => ∃ p y, x = .ref p ∧ H p = none ∧ Same H H' ∧ H' p = some (.tup [.int (i : Nat), y]) ∧ xs[i]? = some y
def itmZ (xs ys : List V) : Nat → V → Hp → Hp → Prop := fun i x H H' => ∃ p y z, x = .ref p ∧ H p = none ∧ Same H H' ∧ H' p = some (.tup [y, z]) ∧ xs[i]? = some y ∧ ys[i]? = some z
section
variable {K : PySem.W.Frag} {a b : Addr} {xs ys : List V}
theorem srcL : Src (Itl K a) xs.length (fun H => SqL K H a xs) (itmL xs) where
  go := fun i H h hi => ⟨xs, xs[i], h, by simp [hi]⟩
  stop := fun i H h hi => ⟨xs, h, hi⟩
  yld := fun i H x H' h _ ⟨e, y⟩ => ⟨e, y xs h⟩
theorem srcT : Src (Itt K a) xs.length (fun H => SqT K H a xs) (itmL xs) where
  go := fun i H h hi => ⟨xs, xs[i], h, by simp [hi]⟩
  stop := fun i H h hi => ⟨xs, h, hi⟩
  yld := fun i H x H' h _ ⟨e, y⟩ => ⟨e, y xs h⟩
theorem srcR {lo : Int} {n : Nat} : Src (Itr lo n) n (fun _ => True) (itmR lo) where
  go := fun i H h hi => hi
  stop := fun i H h hi => hi
  yld := fun i H x H' h _ y => y
theorem srcE : Src (Ite K a) xs.length (fun H => SqL K H a xs) (itmE xs) where
  go := fun i H h hi => ⟨xs, xs[i], h, by simp [hi]⟩
  stop := fun i H h hi => ⟨xs, h, hi⟩
  yld := fun i H x H' h _ ⟨p, y, e1, e2, e3, e4⟩ => ⟨p, y, e1, e2, e3 ▸ Same.new e2, e3 ▸ upd_same, e4 xs h⟩
theorem srcZ : Src (Itz K a b) (min xs.length ys.length) (fun H => SqL K H a xs ∧ SqL K H b ys) (itmZ xs ys) where
  go := fun i H h hi => ⟨xs, ys, xs[i]'(by omega), ys[i]'(by omega), h.1, h.2, by simp, by simp⟩
  stop := fun i H h hi => ⟨xs, ys, h.1, h.2, by omega⟩
  yld := fun i H x H' h _ ⟨p, y, z, e1, e2, e3, e4, e5⟩ => ⟨p, y, z, e1, e2, e3 ▸ Same.new e2, e3 ▸ upd_same, e4 xs h.1, e5 ys h.2⟩
theorem srcZT : Src (RZ.ItzT K a b) (min xs.length ys.length) (fun H => SqT K H a xs ∧ SqT K H b ys) (itmZ xs ys) where
  go := fun i H h hi => ⟨xs, ys, xs[i]'(by omega), ys[i]'(by omega), h.1, h.2, by simp, by simp⟩
  stop := fun i H h hi => ⟨xs, ys, h.1, h.2, by omega⟩
  yld := fun i H x H' h _ ⟨p, y, z, e1, e2, e3, e4, e5⟩ => ⟨p, y, z, e1, e2, e3 ▸ Same.new e2, e3 ▸ upd_same, e4 xs h.1, e5 ys h.2⟩
end
/-! how a source begins: R is what is wanted of the iterator and of the heap -/
section
variable {σ : St} {H : Hp} {K : PySem.W.Frag} {te : TE} {ts : TA} {R : It → Hp → Prop}
def WL (K : PySem.W.Frag) (R : It → Hp → Prop) (x : V) (H : Hp) : Prop := ∃ a, x = .ref a ∧ (∃ xs, SqL K H a xs) ∧ R (Itl K a) H
def WT (K : PySem.W.Frag) (R : It → Hp → Prop) (x : V) (H : Hp) : Prop := ∃ a, x = .ref a ∧ (∃ xs, SqT K H a xs) ∧ R (Itt K a) H
def W1 (R : It → Hp → Prop) (vs : List V) (H : Hp) : Prop := ∃ j : Int, vs = [.int j] ∧ -(2 ^ 62) ≤ j ∧ j < 2 ^ 62 ∧ R (Itr 0 j.toNat) H
def W2 (R : It → Hp → Prop) (vs : List V) (H : Hp) : Prop := ∃ i j : Int, vs = [.int i, .int j] ∧ (-(2 ^ 62) ≤ i ∧ i < 2 ^ 62 ∧ -(2 ^ 62) ≤ j ∧ j < 2 ^ 62) ∧ R (Itr i (j - i).toNat) H
def WE (K : PySem.W.Frag) (R : It → Hp → Prop) (vs : List V) (H : Hp) : Prop := ∃ a xs, vs = [.ref a] ∧ SqL K H a xs ∧ R (Ite K a) H
def WZ (K : PySem.W.Frag) (R : It → Hp → Prop) (vs : List V) (H : Hp) : Prop := ∃ a b xs ys, vs = [.ref a, .ref b] ∧ SqL K H a xs ∧ SqL K H b ys ∧ R (Itz K a b) H
theorem wL (h : te σ H (WL K R)) : iU K te σ H R := .inl h
theorem wT (h : te σ H (WT K R)) : iU K te σ H R := .inr h
theorem w1 (h : ts σ H (W1 R)) : iRng1 ts σ H R := h
theorem w2 (h : ts σ H (W2 R)) : iRng2 ts σ H R := h
theorem wE (h : ts σ H (WE K R)) : iEnum K ts σ H R := h
theorem wZ (h : ts σ H (WZ K R)) : iZip K ts σ H R := h
theorem WL_i {a : Addr} (xs : List V) (hS : SqL K H a xs) (h : R (Itl K a) H) : WL K R (.ref a) H := ⟨a, rfl, ⟨xs, hS⟩, h⟩
theorem WT_i {a : Addr} (xs : List V) (hS : SqT K H a xs) (h : R (Itt K a) H) : WT K R (.ref a) H := ⟨a, rfl, ⟨xs, hS⟩, h⟩
theorem W1_i {j : Int} (h1 : -(2 ^ 62) ≤ j ∧ j < 2 ^ 62) (h : R (Itr 0 j.toNat) H) : W1 R [.int j] H := ⟨j, rfl, h1.1, h1.2, h⟩
theorem W2_i {i j : Int} (h1 : -(2 ^ 62) ≤ i ∧ i < 2 ^ 62 ∧ -(2 ^ 62) ≤ j ∧ j < 2 ^ 62) (h : R (Itr i (j - i).toNat) H) : W2 R [.int i, .int j] H := ⟨i, j, rfl, h1, h⟩
theorem WE_i {a : Addr} (xs : List V) (hS : SqL K H a xs) (h : R (Ite K a) H) : WE K R [.ref a] H := ⟨a, xs, rfl, hS, h⟩
theorem WZ_i {a b : Addr} (xs ys : List V) (hS : SqL K H a xs) (hT : SqL K H b ys) (h : R (Itz K a b) H) : WZ K R [.ref a, .ref b] H := ⟨a, b, xs, ys, rfl, hS, hT, h⟩
end

/-! ### for -/
def ForB (g : TG) (tb : TS) (D : Ends) (σ : St) (J : It) (H : Hp) : Prop := ∃ W : Nat → Nat → St → Hp → Prop, (∃ m, W 0 m σ H) ∧ ∀ i m σ H, W i m σ H →
  (J.stop i H ∧ D.nx σ H) ∨ (J.go i H ∧ ∃ N : St → Hp → Prop, (∀ σ' H', N σ' H' → ∃ m', m' < m ∧ W (i + 1) m' σ' H') ∧ ∀ x H', J.yld i H x H' → g x σ H' fun σ2 H2 => tb { D with nx := N, ct := N, bk := D.nx } σ2 H2)
section
variable {σ : St} {H : Hp} {wi : TI} {g : TG} {tb : TS} {D : Ends} {J : It} {n : Nat} {ok : Hp → Prop} {itm : Nat → V → Hp → Hp → Prop}
theorem tFor_i (h : wi σ H (ForB g tb D σ)) : tFor wi g tb D σ H := h
theorem forS (S : Src J n ok itm) (Pv : Nat → St → Hp → Prop) (h0 : Pv 0 σ H) (hok : ∀ i σ H, i ≤ n → Pv i σ H → ok H)
    (hs : ∀ i σ H x H', i < n → Pv i σ H → itm i x H H' → g x σ H' fun σ2 H2 => tb { D with nx := Pv (i + 1), ct := Pv (i + 1), bk := D.nx } σ2 H2) (hd : ∀ σ H, Pv n σ H → D.nx σ H) : ForB g tb D σ J H := by
  refine ⟨fun i m σ H => m = n - i ∧ i ≤ n ∧ Pv i σ H, ⟨n, by simp, Nat.zero_le _, h0⟩, ?_⟩
  rintro i m σ H ⟨rfl, hi, p⟩
  have q := hok i σ H hi p
  by_cases hlt : i < n
  · exact .inr ⟨S.go i H q hlt, Pv (i + 1), fun σ' H' p' => ⟨n - (i + 1), by omega, rfl, hlt, p'⟩, fun x H' y => hs i σ H x H' hlt p (S.yld i H x H' q hlt y)⟩
  · have e : i = n := by omega
    subst e
    exact .inl ⟨S.stop i H q (Nat.le_refl _), hd σ H p⟩
/-- turn by turn -/
def AndR (A B : Prop) : Prop := A ∧ B
def runS (ok : Hp → Prop) (g : TG) (tb : TS) (D : Ends) : List V → St → Hp → Prop
  | [], σ, H => D.nx σ H
  | x :: r, σ, H => g x σ H fun σ2 H2 => tb { D with nx := fun σ' H' => AndR (ok H') (runS ok g tb D r σ' H'), ct := fun σ' H' => AndR (ok H') (runS ok g tb D r σ' H'), bk := D.nx } σ2 H2
theorem forRun {xs : List V} (S : Src J xs.length ok (itmL xs)) (hS : ok H) (h : runS ok g tb D xs σ H) : ForB g tb D σ J H := by
  refine forS S (fun i σ H => ok H ∧ runS ok g tb D (xs.drop i) σ H) ⟨hS, by rw [List.drop_zero]; exact h⟩ (fun i σ H _ z => z.1) (fun i σ H x H' hi z hx => ?_) (fun σ H z => ?_)
  · obtain ⟨rfl, hx⟩ := hx
    have z2 := z.2
    obtain ⟨hi, e⟩ := List.getElem?_eq_some_iff.mp hx
    rw [List.drop_eq_getElem_cons hi, e] at z2
    exact z2
  · have z2 := z.2
    rw [List.drop_length] at z2
    exact z2
theorem runS_cons {x : V} {r : List V} (h : g x σ H fun σ2 H2 => tb { D with nx := fun σ' H' => AndR (ok H') (runS ok g tb D r σ' H'), ct := fun σ' H' => AndR (ok H') (runS ok g tb D r σ' H'), bk := D.nx } σ2 H2) : runS ok g tb D (x :: r) σ H := h
theorem run_next {A B : Prop} (h1 : A) (h2 : B) : AndR A B := ⟨h1, h2⟩
theorem runS_nil (h : D.nx σ H) : runS ok g tb D [] σ H := h
end

theorem tCell_i {σ : St} {H : Hp} {Q : VK} (h : ∀ p H', H p = none → Same H H' → H' p = some (cellO p) → Q (.ref p) H') : tCell σ H Q := fun p hp => h p _ hp (Same.new hp) upd_same
theorem cut_i {t u : TS} {D : Ends} {σ : St} {H : Hp} (M : St → Hp → Prop) (h : t { D with nx := M } σ H) (k : ∀ σ' H', M σ' H' → u D σ' H') : tCut t u D σ H := ⟨M, h, k⟩
theorem cut_s {t u : TS} {D : Ends} {σ : St} {H : Hp} (h : t { D with nx := u D } σ H) : tCut t u D σ H := ⟨u D, h, fun _ _ z => z⟩
/-! ### targets -/
section
variable {σ : St} {H : Hp} {K : PySem.W.Frag} {R : St → Hp → Prop} {t : TG} {u : TGs}
theorem gTup_i {n : Nat} {a : Addr} {xs : List V} (hS : SqT K H a xs) (hl : xs.length = n) (h : u xs σ H R) : gTup K n u (.ref a) σ H R := ⟨a, xs, rfl, hS, hl, h⟩
theorem gCons_i {v : V} {r : List V} (h : t v σ H fun σ' H' => u r σ' H' R) : gCons t u (v :: r) σ H R := ⟨v, r, rfl, h⟩
theorem gNil_i (h : R σ H) : gNil [] σ H R := ⟨rfl, h⟩
def SubE (s : TSet) (o i v : V) (H : Hp) (R : Hp → Prop) : Prop := s o i v H R
theorem gSub_i {to ti : TE} {s : TSet} {v : V} (h : to σ H fun o H1 => ti σ H1 fun i H2 => SubE s o i v H2 fun H3 => R σ H3) : gSub to ti s v σ H R := h
theorem setL_i {p : Addr} {xs : List V} {k : Int} {j : Nat} {v : V} {R : Hp → Prop} (hp : H p = some (.lst xs)) (hj : ixN xs.length k = some j)
    (h : ∀ H', Chg p H H' → H' p = some (.lst (xs.set j v)) → (∀ H0, Same H0 H → H0 p = none → Same H0 H') → R H') : SubE rSetU (.ref p) (.int k) v H R :=
  .inl ⟨p, xs, k, j, rfl, rfl, hp, hj, h _ (fun b u hb e => by rw [upd_ne hb]; exact e) upd_same fun H0 s0 n => Same.upd s0 n⟩
theorem setC_i {p : Addr} {n : Int} {R : Hp → Prop} (hp : H p = some (cellO p)) (h : R H) : SubE rSetU (.ref p) (.int 0) (.int n) H R := .inr ⟨p, n, rfl, rfl, rfl, hp, h⟩
theorem rIxU_c {K : PySem.W.Frag} {p : Addr} {Q : VK} (hp : H p = some (cellO p)) (h : ∀ n, Q (.int n) H) : rIxU K (.ref p) (.int 0) H Q := .inr (.inr (.inl ⟨p, rfl, rfl, hp, h⟩))
end

/-! ### comprehensions: the new list at D aside -/
theorem del_id {H : Hp} {D : Addr} (h : H D = none) : del H D = H := by
  funext b
  by_cases hb : b = D
  · rw [hb, del_same, h]
  · rw [del_ne hb]
theorem _root_.L2.Same.del {H H' : Hp} {D : Addr} (h : Same H H') : Same (L2.del H D) (L2.del H' D) := fun b o e => by
  by_cases hb : b = D
  · rw [hb, del_same] at e
    cases e
  · rw [del_ne hb] at e
    rw [del_ne hb]
    exact h b o e
theorem _root_.L2.Same.undel {H : Hp} {D : Addr} : Same (L2.del H D) H := fun b o e => by
  by_cases hb : b = D
  · rw [hb, del_same] at e
    cases e
  · rw [del_ne hb] at e
    exact e
theorem _root_.L2.Same.todel {H H' : Hp} {D : Addr} (h : Same H H') (n : H D = none) : Same H (L2.del H' D) := by
  have q := h.del (D := D)
  rw [del_id n] at q
  exact q
theorem del_at {H : Hp} {D p : Addr} {o : HO} (h : H p = some o) (ne : p ≠ D) : del H D p = some o := by rw [del_ne ne]; exact h
theorem del_new {H H' : Hp} {D p : Addr} {o o' : HO} (h : H' p = some o) (np : H p = none) (hD : H D = some o') : del H' D p = some o := del_at h fun e => by
  rw [e, hD] at np
  cases np
def LcB (g : TG) (tt : TT) (te : TE) (vs : List Nat) (σ : St) (Q : VK) (J : It) (H1 : Hp) : Prop := ∀ D, H1 D = none → ∃ W : Nat → Nat → Hp → Prop, (∃ m, W 0 m (upd H1 D (.lst []))) ∧ ∀ i m H, W i m H →
  (J.stop i H ∧ Q (.ref D) H) ∨ (J.go i H ∧ ∃ Nx : Hp → Prop, (∀ H', Nx H' → ∃ m', m' < m ∧ W (i + 1) m' H') ∧ ∀ x H', J.yld i H x H' → g x (wipe σ vs) H' fun σ2 H2 => wipe σ2 vs = wipe σ vs ∧ tt σ2 H2 fun b H3 =>
    if b = true then te σ2 H3 fun y H4 => ∃ acc, H4 D = some (.lst acc) ∧ acc.length < sizeLine ∧ Nx (upd H4 D (.lst (acc ++ [y]))) else Nx H3)
/-- what a turn of the comprehension must reach -/
def LcP (H0 : Hp) (D : Addr) (J : Nat → Hp → List V → Prop) (i : Nat) (H : Hp) : Prop := ∃ acc, Same H0 H ∧ H D = some (.lst acc) ∧ J i (del H D) acc
def LcY (D : Addr) (N : Hp → Prop) (y : V) (H4 : Hp) : Prop := ∃ acc, H4 D = some (.lst acc) ∧ acc.length < sizeLine ∧ N (upd H4 D (.lst (acc ++ [y])))
section
variable {σ : St} {H : Hp} {wi : TI} {g : TG} {tt : TT} {te : TE} {J : It} {n : Nat} {ok : Hp → Prop} {itm : Nat → V → Hp → Hp → Prop} {vs : List Nat} {Q : VK}
theorem tLc_i (h : wi σ H (LcB g tt te vs σ Q)) : tLc wi g tt te vs σ H Q := h
/-- C: what is known of the i items so far, the new list's entries and the heap without the new list -/
theorem lcS (S : Src J n ok itm) (C : Nat → Hp → List V → Prop) (hok : ∀ H', Same H H' → ok H') (h0 : C 0 H [])
    (hs : ∀ D i acc H1 x H2, i < n → H D = none → Same H H1 → H1 D = some (.lst acc) → C i (del H1 D) acc → itm i x H1 H2 → g x (wipe σ vs) H2 fun σ2 H2 => wipe σ2 vs = wipe σ vs ∧ tt σ2 H2 fun b H3 =>
      Br b (te σ2 H3 (LcY D (LcP H D C (i + 1)))) (LcP H D C (i + 1) H3))
    (hd : ∀ D acc H1, H D = none → Same H H1 → H1 D = some (.lst acc) → C n (del H1 D) acc → Q (.ref D) H1) : LcB g tt te vs σ Q J H := by
  intro D hD
  refine ⟨fun i m H' => m = n - i ∧ i ≤ n ∧ LcP H D C i H', ⟨n, by simp, Nat.zero_le _, [], Same.new hD, upd_same, by rw [del_upd, del_id hD]; exact h0⟩, ?_⟩
  rintro i m H1 ⟨rfl, hi, p⟩
  obtain ⟨acc, s1, e1, j1⟩ := id p
  have q := hok _ s1
  by_cases hlt : i < n
  · exact .inr ⟨S.go i H1 q hlt, LcP H D C (i + 1), fun H' p' => ⟨n - (i + 1), by omega, rfl, hlt, p'⟩, fun x H' y => hs D i acc H1 x H' hlt hD s1 e1 j1 (S.yld i H1 x H' q hlt y)⟩
  · have e : i = n := by omega
    subst e
    exact .inl ⟨S.stop i H1 q (Nat.le_refl _), hd D acc H1 hD s1 e1 j1⟩
theorem wipe_i {σ2 : St} {A : Prop} (h1 : wipe σ2 vs = wipe σ vs) (h2 : A) : wipe σ2 vs = wipe σ vs ∧ A := ⟨h1, h2⟩
theorem tYes_i {R : Bool → Hp → Prop} (h : R true H) : tYes σ H R := h
theorem lcY {D : Addr} {H0 : Hp} {C : Nat → Hp → List V → Prop} {i : Nat} {acc : List V} {y : V} (nD : H0 D = none) (s : Same H0 H) (e : H D = some (.lst acc)) (hl : acc.length < sizeLine) (j : C i (del H D) (acc ++ [y])) : LcY D (LcP H0 D C i) y H :=
  ⟨acc, e, hl, acc ++ [y], Same.upd s nD, upd_same, by rw [del_upd]; exact j⟩
theorem lcN {D : Addr} {H0 : Hp} {C : Nat → Hp → List V → Prop} {i : Nat} {acc : List V} (s : Same H0 H) (e : H D = some (.lst acc)) (j : C i (del H D) acc) : LcP H0 D C i H := ⟨acc, s, e, j⟩
end
/-! two clauses -/
def LcB2 (g : TG) (tt : TT) (wi1 : TI) (g1 : TG) (tt1 : TT) (te : TE) (vs vs1 : List Nat) (σ : St) (Q : VK) (J : It) (H1 : Hp) : Prop := ∀ D, H1 D = none → ∃ W : Nat → Nat → Hp → Prop, (∃ m, W 0 m (upd H1 D (.lst []))) ∧ ∀ i m H, W i m H →
  (J.stop i H ∧ Q (.ref D) H) ∨ (J.go i H ∧ ∃ Nx : Hp → Prop, (∀ H', Nx H' → ∃ m', m' < m ∧ W (i + 1) m' H') ∧ ∀ x H', J.yld i H x H' → g x (wipe σ vs) H' fun σ2 H2 => wipe σ2 vs = wipe σ vs ∧ tt σ2 H2 fun b H3 =>
    if b = true then wi1 σ2 H3 fun J1 H4 => ∃ W1 : Nat → Nat → Hp → Prop, (∃ m, W1 0 m H4) ∧ ∀ j k H, W1 j k H →
      (J1.stop j H ∧ Nx H) ∨ (J1.go j H ∧ ∃ Nx1 : Hp → Prop, (∀ H', Nx1 H' → ∃ k', k' < k ∧ W1 (j + 1) k' H') ∧ ∀ x H', J1.yld j H x H' → g1 x (wipe σ2 vs1) H' fun σ3 H5 => wipe σ3 vs1 = wipe σ2 vs1 ∧ tt1 σ3 H5 fun b H6 =>
        if b = true then te σ3 H6 fun y H7 => ∃ acc, H7 D = some (.lst acc) ∧ acc.length < sizeLine ∧ Nx1 (upd H7 D (.lst (acc ++ [y]))) else Nx1 H6)
    else Nx H3)
def LcIn (D : Addr) (N : Hp → Prop) (g1 : TG) (tt1 : TT) (te : TE) (vs1 : List Nat) (σ2 : St) (J1 : It) (H4 : Hp) : Prop := ∃ W1 : Nat → Nat → Hp → Prop, (∃ m, W1 0 m H4) ∧ ∀ j k H, W1 j k H →
      (J1.stop j H ∧ N H) ∨ (J1.go j H ∧ ∃ Nx1 : Hp → Prop, (∀ H', Nx1 H' → ∃ k', k' < k ∧ W1 (j + 1) k' H') ∧ ∀ x H', J1.yld j H x H' → g1 x (wipe σ2 vs1) H' fun σ3 H5 => wipe σ3 vs1 = wipe σ2 vs1 ∧ tt1 σ3 H5 fun b H6 =>
        if b = true then te σ3 H6 fun y H7 => ∃ acc, H7 D = some (.lst acc) ∧ acc.length < sizeLine ∧ Nx1 (upd H7 D (.lst (acc ++ [y]))) else Nx1 H6)
section
variable {σ : St} {H : Hp} {wi wi1 : TI} {g g1 : TG} {tt tt1 : TT} {te : TE} {J J1 : It} {n : Nat} {ok : Hp → Prop} {itm : Nat → V → Hp → Hp → Prop} {vs vs1 : List Nat} {Q : VK}
theorem tLc2_i (h : wi σ H (LcB2 g tt wi1 g1 tt1 te vs vs1 σ Q)) : tLc2 wi g tt wi1 g1 tt1 te vs vs1 σ H Q := h
theorem lc2S (S : Src J n ok itm) (C : Nat → Hp → List V → Prop) (hok : ∀ H', Same H H' → ok H') (h0 : C 0 H [])
    (hs : ∀ D i acc H1 x H2, i < n → H D = none → Same H H1 → H1 D = some (.lst acc) → C i (del H1 D) acc → itm i x H1 H2 → g x (wipe σ vs) H2 fun σ2 H2 => wipe σ2 vs = wipe σ vs ∧ tt σ2 H2 fun b H3 =>
      Br b (wi1 σ2 H3 (LcIn D (LcP H D C (i + 1)) g1 tt1 te vs1 σ2)) (LcP H D C (i + 1) H3))
    (hd : ∀ D acc H1, H D = none → Same H H1 → H1 D = some (.lst acc) → C n (del H1 D) acc → Q (.ref D) H1) : LcB2 g tt wi1 g1 tt1 te vs vs1 σ Q J H := by
  intro D hD
  refine ⟨fun i m H' => m = n - i ∧ i ≤ n ∧ LcP H D C i H', ⟨n, by simp, Nat.zero_le _, [], Same.new hD, upd_same, by rw [del_upd, del_id hD]; exact h0⟩, ?_⟩
  rintro i m H1 ⟨rfl, hi, p⟩
  obtain ⟨acc, s1, e1, j1⟩ := id p
  have q := hok _ s1
  by_cases hlt : i < n
  · exact .inr ⟨S.go i H1 q hlt, LcP H D C (i + 1), fun H' p' => ⟨n - (i + 1), by omega, rfl, hlt, p'⟩, fun x H' y => hs D i acc H1 x H' hlt hD s1 e1 j1 (S.yld i H1 x H' q hlt y)⟩
  · have e : i = n := by omega
    subst e
    exact .inl ⟨S.stop i H1 q (Nat.le_refl _), hd D acc H1 hD s1 e1 j1⟩
theorem lcIn (S : Src J1 n ok itm) {H0 : Hp} {D : Addr} {N : Hp → Prop} (C : Nat → Hp → List V → Prop) (hok : ∀ H', Same H0 H' → ok H') (h0 : LcP H0 D C 0 H)
    (hs : ∀ i acc H1 x H2, i < n → Same H0 H1 → H1 D = some (.lst acc) → C i (del H1 D) acc → itm i x H1 H2 → g1 x (wipe σ vs1) H2 fun σ2 H2 => wipe σ2 vs1 = wipe σ vs1 ∧ tt1 σ2 H2 fun b H3 =>
      Br b (te σ2 H3 (LcY D (LcP H0 D C (i + 1)))) (LcP H0 D C (i + 1) H3))
    (hd : ∀ H1, LcP H0 D C n H1 → N H1) : LcIn D N g1 tt1 te vs1 σ J1 H := by
  refine ⟨fun i m H' => m = n - i ∧ i ≤ n ∧ LcP H0 D C i H', ⟨n, by simp, Nat.zero_le _, h0⟩, ?_⟩
  rintro i m H1 ⟨rfl, hi, p⟩
  obtain ⟨acc, s1, e1, j1⟩ := id p
  have q := hok _ s1
  by_cases hlt : i < n
  · exact .inr ⟨S.go i H1 q hlt, LcP H0 D C (i + 1), fun H' p' => ⟨n - (i + 1), by omega, rfl, hlt, p'⟩, fun x H' y => hs i acc H1 x H' hlt s1 e1 j1 (S.yld i H1 x H' q hlt y)⟩
  · have e : i = n := by omega
    subst e
    exact .inl ⟨S.stop i H1 q (Nat.le_refl _), hd H1 p⟩
end
end EL

namespace EL
open PySem PySem.Spec PyProof.Rows L2
/-! ### data -/
def Sh (n : Nat) (d : PyData) : Prop := d.canLay0 = true ∧ d.depth ≤ n
def ShA (n : Nat) (ds : List PyData) : Prop := PyData.canLayAll0 ds = true ∧ PyData.depthAll ds ≤ n
theorem sh_int {n : Nat} {i : Int} : Sh n (.int i) := ⟨rfl, by simp [PyData.depth]⟩
theorem sh_str {n : Nat} {x : Str} (h : (PyData.str x).canLay0 = true) : Sh n (.str x) := ⟨h, by simp [PyData.depth]⟩
theorem sh_bool {n : Nat} {b : Bool} : Sh n (.bool b) := ⟨rfl, by simp [PyData.depth]⟩
theorem sh_none {n : Nat} : Sh n .none := ⟨rfl, by simp [PyData.depth]⟩
theorem shA_nil {n : Nat} : ShA n [] := ⟨rfl, by simp [PyData.depthAll]⟩
theorem shA_cons {n : Nat} {d : PyData} {ds : List PyData} (h : Sh n d) (h2 : ShA n ds) : ShA n (d :: ds) :=
  ⟨by rw [PyData.canLayAll0, h.1, h2.1]; rfl, by rw [PyData.depthAll]; exact Nat.max_le.mpr ⟨h.2, h2.2⟩⟩
theorem shA_all {n : Nat} : ∀ {ds : List PyData}, (∀ d ∈ ds, Sh n d) → ShA n ds
  | [], _ => shA_nil
  | d :: ds, h => shA_cons (h d (List.mem_cons_self ..)) (shA_all fun x hx => h x (List.mem_cons_of_mem _ hx))
theorem sh_lst {n : Nat} {ds : List PyData} (h : ShA n ds) : Sh (n + 1) (.list ds) := ⟨h.1, by rw [PyData.depth]; exact Nat.succ_le_succ h.2⟩
theorem sh_tup {n : Nat} {ds : List PyData} (h : ShA n ds) : Sh (n + 1) (.tuple ds) := ⟨h.1, by rw [PyData.depth]; exact Nat.succ_le_succ h.2⟩
theorem Sh.shaped {n : Nat} {d : PyData} (h : Sh n d) (hn : n ≤ 64 := by decide) : SeqAt.shaped d = true := Bool.and_eq_true_iff.mpr ⟨h.1, decide_eq_true (Nat.le_trans h.2 hn)⟩
theorem shA_ints {n : Nat} (xs : List Int) : ShA n (xs.map PyData.int) := shA_all fun d hd => by
  obtain ⟨x, _, rfl⟩ := List.mem_map.mp hd
  exact sh_int
theorem eqv_self {n : Nat} {d : PyData} (h : Sh n d) : PyData.eqv d d = true := SeqAt.eqv_refl d h.1
theorem eqvAll_ints : ∀ xs ys : List Int, PyData.eqvAll (xs.map PyData.int) (ys.map PyData.int) = decide (xs = ys)
  | [], [] => rfl
  | [], _ :: _ => by simp [PyData.eqvAll]
  | _ :: _, [] => by simp [PyData.eqvAll]
  | x :: xs, y :: ys => by
    rw [List.map_cons, List.map_cons, PyData.eqvAll, eqvAll_ints xs ys]
    show (x == y && decide (xs = ys)) = _
    by_cases h : x = y
    · subst h
      simp
    · simp [h]
theorem DpAll.app {K : PySem.W.Frag} {H : Hp} : ∀ {vs ws : List V} {ds es : List PyData}, DpAll K H vs ds → DpAll K H ws es → DpAll K H (vs ++ ws) (ds ++ es)
  | [], _, _, _, .nil, h => h
  | _ :: _, _, _, _, .cons a b, h => .cons a (DpAll.app b h)
theorem DpAll.one {K : PySem.W.Frag} {H : Hp} {v : V} {d : PyData} (h : Dp K H v d) : DpAll K H [v] [d] := .cons h .nil
theorem DpAll.len {K : PySem.W.Frag} {H : Hp} : ∀ {vs : List V} {ds : List PyData}, DpAll K H vs ds → vs.length = ds.length
  | [], _, .nil => rfl
  | _ :: _, _, .cons _ b => congrArg Nat.succ (DpAll.len b)
theorem DpAll.get {K : PySem.W.Frag} {H : Hp} : ∀ {vs : List V} {ds : List PyData} {i : Nat} {v : V}, DpAll K H vs ds → vs[i]? = some v → ∃ d, ds[i]? = some d ∧ Dp K H v d
  | _, _, _, _, .nil, e => by simp at e
  | _, _, 0, _, .cons r _, e => by simp at e; subst e; exact ⟨_, rfl, r⟩
  | _, _, i + 1, v, .cons _ t, e => by
    obtain ⟨u, h1, h2⟩ := DpAll.get (i := i) (v := v) t (by simpa using e)
    exact ⟨u, by simpa using h1, h2⟩
theorem DpAll.ints {K : PySem.W.Frag} {H : Hp} : ∀ {xs : List Int} {vs : List V}, DpAll K H vs (xs.map PyData.int) → vs = xs.map V.int
  | [], _, h => by cases h; rfl
  | x :: xs, _, h => by
    cases h with
    | cons a b =>
      cases a
      rw [DpAll.ints b]
      rfl
/-! ### isinstance -/
section
variable {K : PySem.W.Frag} {H : Hp} {Q : VK}
theorem isi_ty {x : V} {a b : String} {k : Bool} (ty : TyX K H x (.type a)) (e : kitB a b = some k) (h : Q (.bl k) H) : rIsiU K [x, .ty b] H Q := .inl ⟨x, .ty b, .type a, .type b, k, rfl, .ty b, ty, kit_ty e, h⟩
theorem isi_int_int {i : Int} (h : Q (.bl true) H) : rIsiU K [.int i, .ty "int"] H Q := isi_ty (.base (.int i)) (by decide +kernel) h
theorem isi_int_bool {i : Int} (h : Q (.bl false) H) : rIsiU K [.int i, .ty "bool"] H Q := isi_ty (.base (.int i)) (by decide +kernel) h
theorem isi_bool_bool {b : Bool} (h : Q (.bl true) H) : rIsiU K [.bl b, .ty "bool"] H Q := isi_ty (.base (.bl b)) (by decide +kernel) h
theorem isi_bool_int {b : Bool} (h : Q (.bl true) H) : rIsiU K [.bl b, .ty "int"] H Q := isi_ty (.base (.bl b)) (by decide +kernel) h
theorem isi_non_int (h : Q (.bl false) H) : rIsiU K [.non, .ty "int"] H Q := isi_ty (.base .non) (by decide +kernel) h
theorem isi_lst_lst {a : Addr} {xs : List V} (e : H a = some (.lst xs)) (h : Q (.bl true) H) : rIsiU K [.ref a, .ty "list"] H Q := isi_ty (.base (.lst e)) (by decide +kernel) h
theorem isi_tup_tup {a : Addr} {xs : List V} (e : H a = some (.tup xs)) (h : Q (.bl true) H) : rIsiU K [.ref a, .ty "tuple"] H Q := isi_ty (.base (.tup e)) (by decide +kernel) h
end
/-! ### a handled exception -/
section
variable {K : PySem.W.Frag} {H : Hp} {Q : VK} {σ : St}
theorem was_i {c cls : Value} {i : Nat} {ts : Addr → Value → Option Addr → TS} {Wout : WX} {D : Ends} {d : Option Addr} (em : PySem.W.exmOne K cls c = some true)
    (h : ∀ a, H a = none → ts a cls d { nx := fun σ' H' => D.nx (σ'.set i none) H', rt := D.rt, bk := fun σ' H' => D.bk (σ'.set i none) H', ct := fun σ' H' => D.ct (σ'.set i none) H' } (σ.set i (some (.ref a))) H) : L2.WE (wAs K c i ts Wout D) σ cls d H :=
  ⟨true, em, fun _ => h, fun z => Bool.noConfusion z⟩
theorem isX_c {a D C : Addr} {d : Option Addr} {b : Bool} (X : XCls K D) (fs : List (Str × V)) (hd : XDict H d fs) (e : PySem.W.kitOne K (.ref D) (.ref C) = some b) (h : Q (.bl b) H) : rIsX K a (.ref D) d [.ref a, .ref C] H Q :=
  ⟨D, fs, .ref C, b, rfl, rfl, X, hd, .inl ⟨_, .own C, e⟩, h⟩
theorem isX_t {a D : Addr} {d : Option Addr} {b : Bool} {n : String} (X : XCls K D) (fs : List (Str × V)) (hd : XDict H d fs) (e : PySem.W.kitOne K (.ref D) (.type n) = some b) (h : Q (.bl b) H) : rIsX K a (.ref D) d [.ref a, .ty n] H Q :=
  ⟨D, fs, .ty n, b, rfl, rfl, X, hd, .inl ⟨_, .ty n, e⟩, h⟩
def XFv (K : PySem.W.Frag) (a : Addr) (cls : Value) (d : Option Addr) (f : Str) (x : V) (H1 : Hp) (Q : VK) : Prop := ∃ (D dd : Addr) (fs : List (Str × V)) (v : V), x = .ref a ∧ cls = .ref D ∧ XCls K D ∧ d = some dd ∧ H1 dd = some (.xd fs) ∧
  PySem.W.findIn K (.ref D) f = some none ∧ fs.lookup f = some v ∧ Q v H1
theorem tXF_i {a : Addr} {cls : Value} {d : Option Addr} {f : Str} {te : TE} (h : te σ H fun x H1 => XFv K a cls d f x H1 Q) : tXF K a cls d f te σ H Q := h
theorem xf1 {a D dd : Addr} {f : Str} {v : V} (X : XCls K D) (hd : H dd = some (.xd [(f, v)])) (hn : PySem.W.findIn K (.ref D) f = some none) (h : Q v H) : XFv K a (.ref D) (some dd) f (.ref a) H Q :=
  ⟨D, dd, [(f, v)], v, rfl, rfl, X, rfl, hd, hn, by simp [List.lookup], h⟩
end
section
variable {H : Hp} {Q : VK} {σ : St} {te : TE}
def Rg1v (x : V) (H : Hp) (Q : VK) : Prop := ∃ n, x = .int n ∧ RgOk 0 n ∧ ∀ q, H q = none → Q (.ref q) (upd H q (.lst (rgV 0 n)))
theorem tLstRg1_i (h : te σ H fun x H1 => Rg1v x H1 Q) : tLstRg (tRg1 te) σ H Q := h
end
theorem rg1_i {H : Hp} {Q : VK} {n : Int} (hn : 0 ≤ n ∧ n ≤ 1000000) (h : ∀ q H', H q = none → Same H H' → H' q = some (.lst (rgV 0 n)) → Q (.ref q) H') : Rg1v (.int n) H Q :=
  ⟨n, rfl, .of_le (by omega) (by omega) (by omega) hn.1, fun q hq => h q _ hq (Same.new hq) upd_same⟩
/-! ### truth, choice by if -/
theorem gtup {H : Hp} {Q : VK} {E : XK} {o : Out} {xs : List V} (e : o = .tup xs) (k : ∀ H' p, Same H H' → H' p = some (.tup xs) → Q (.ref p) H') : Gives H Q E o := by
  subst e
  exact k
theorem glst {H : Hp} {Q : VK} {E : XK} {o : Out} {R : Hp → List V → Prop} (e : o = .lst R) (k : ∀ H' p vs, Same H H' → H p = none → H' p = some (.lst vs) → R H' vs → Q (.ref p) H') : Gives H Q E o := by
  subst e
  exact k
theorem at_int {xs : List Int} {i : Int} {n : Nat} {z : Int} (e : i = (n : Int)) (h : xs[n]? = some z) : atI (xs.map V.int) i = some (.int z) := at_of e (by rw [List.getElem?_map, h]; rfl)
theorem map_take_succ {α β : Type} {xs : List α} {f : α → β} {i : Nat} {x : α} (h : xs[i]? = some x) : (xs.take (i + 1)).map f = (xs.take i).map f ++ [f x] := by
  rw [List.take_add_one, h, List.map_append]
  rfl
theorem isi_tupS {K : PySem.W.Frag} {H : Hp} {Q : VK} {a : Addr} {xs : List V} (hS : SqT K H a xs) (h : Q (.bl true) H) : rIsiU K [.ref a, .ty "tuple"] H Q := by
  rcases hS with (e | ⟨o, e⟩) | ⟨o, its, n, hk, hc, _⟩
  · exact isi_tup_tup e h
  · exact isi_ty (.fTuple e) (by decide +kernel) h
  · exact isi_ty (.kTuple hk hc) (by decide +kernel) h
theorem isi_lstS {K : PySem.W.Frag} {H : Hp} {Q : VK} {a : Addr} {xs : List V} (hS : SqL K H a xs) (h : Q (.bl true) H) : rIsiU K [.ref a, .ty "list"] H Q := by
  rcases hS with (e | ⟨o, e⟩) | ⟨o, its, n, hk, hc, _⟩
  · exact isi_lst_lst e h
  · exact isi_ty (.base (.frz e)) (by decide +kernel) h
  · exact isi_ty (.kList hk hc) (by decide +kernel) h
def spLaw (K : PySem.W.Frag) : Sp := fun vs H Q _ => ∃ (a : Addr) (ns : List Int), vs = [.ref a] ∧ SqL K H a (ns.map V.int) ∧ ns.length ≤ 63 ∧ ∀ H', Q (.bl true) H'
theorem noX {P : Program} (w : World) (H : Hp) (s : Shared) (e : Value) (s' : Shared) (h : L2.CX P w [] H s (fun _ _ _ => False) e s') : False := by
  obtain ⟨_, _, _, _, _, _, _, _, _, _, _, _, z⟩ := h
  exact z
end EL

namespace EL
open PySem PySem.Spec PyProof.Rows L2
/-! ### {e for t in it if ..}, e a whole number -/
/-- the object that a new set is -/
abbrev set0 (w : World) : Obj :=
  { cls := .type "set", dict := none,
    data := .set #[] 0 (.fresh 0 0 (!w.params.followText "set-order")) }
abbrev noneS : Int → Bool := fun _ => false
/-- one more number is put in -/
def putS (S : Int → Bool) (k : Int) : Int → Bool := fun j => S j || decide (j = k)
/-- what a turn leaves where the test lets the item through -/
def ScY (w : World) (D : Addr) (N : Hp → Prop) (y : V) (H4 : Hp) : Prop :=
  rSAdd w (.ref D) [y] H4 fun _ H5 => N H5
def ScT (w : World) (g : TG) (tt : TT) (te : TE) (vs : List Nat) (σ : St) (D : Addr) (N : Hp → Prop) (x : V) (H : Hp) : Prop :=
  g x (wipe σ vs) H fun σ2 H2 => wipe σ2 vs = wipe σ vs ∧
    tt σ2 H2 fun b H3 => if b = true then te σ2 H3 (ScY w D N) else N H3
def ScB (w : World) (g : TG) (tt : TT) (te : TE) (vs : List Nat) (σ : St) (Q : VK) (J : It) (H1 : Hp) : Prop :=
  ∀ D, H1 D = none → ∃ W : Nat → Nat → Hp → Prop,
    (∃ m, W 0 m (upd H1 D (SetO w D noneS 0))) ∧
    ∀ i m H, W i m H → (J.stop i H ∧ Q (.ref D) H) ∨
      (J.go i H ∧ ∃ N : Hp → Prop, (∀ H', N H' → ∃ m', m' < m ∧ W (i + 1) m' H') ∧
        ∀ x H', J.yld i H x H' → ScT w g tt te vs σ D N x H')
def tScI (w : World) (wi : TI) (g : TG) (tt : TT) (te : TE) (vs : List Nat) : TE :=
  fun σ H Q => wi σ H (ScB w g tt te vs σ Q)
section
variable {X : Cx} {elt tg iter : Expr} {ifs : List Expr} {scope : Scope} {own : List (Str × Nat)}
variable {pos pos' : Pos} {wi : TI} {g : TG} {tt : TT} {te : TE}
variable {pins : List (Addr × Obj)} {s : Shared} {σ : St} {H : Hp} {Q : VK}
theorem scI_core {use : Option (Value → Sem Unit)} {Qf : Value → Shared → Prop}
    (calm : X.calm = true) (nd : X.N.Nodup) (I : Inv X pins σ H s) (pi : PI X tg iter wi) (ok : BlkOk X.N X.env.scope scope own)
    (tgt : ∀ (s : Shared) (H : Hp) (C : Addr) (cl : List (Str × Addr)) (fp : List Addr),
      PG (X.blk s H scope (compEnvC scope cl C X.env) fp) tg g)
    (tst : ∀ (s : Shared) (H : Hp) (C : Addr) (cl : List (Str × Addr)) (fp : List Addr),
      PTs (X.blk s H scope (compEnvC scope cl C X.env) fp) ifs tt)
    (val : ∀ (s : Shared) (H : Hp) (C : Addr) (cl : List (Str × Addr)) (fp : List Addr),
      PE (X.blk s H scope (compEnvC scope cl C X.env) fp) elt te)
    (fold : ∀ x, foldedSetIterable iter X.env x = pure x)
    (h : tScI X.w wi g tt te (own.map (·.2)) σ H Q)
    (after : ∀ D C s' m H', Inv X pins σ H' s' → Q (.ref D) H' → s'.heap.Ns C m → FpOk X pins H' C →
      compPost (model X.prog X.w) X.A X.xe use Qf (.ref D) C (.ok .next) s') :
    wpAny (model X.prog X.w) X.A
      (comprehension (.SetComp elt [⟨tg, iter, ifs, 0⟩] scope pos) scope X.env pos' (newSet (.type "set")) false (eval iter X.env) use)
      Qf X.xe s := by
  have frees : ∀ y ∈ scope.names, y.2 = .free → ∃ c, X.env.cells.lookup y.1 = some c := by
    intro y hy e
    exact I.ok.has _ ((ok.free y hy e).elim .inl .inr)
  refine wpAny_comprehension_free (use := use) rfl fold (closure_ok frees) ok.kind
    (fun y hy e => by rw [ok.uniq y hy, e]) (thn (pi.run pins s σ H _ I h) fun v s1 k => thn k fun it0 s2 k2 => ?_)
  obtain ⟨it, fp, tn, J, H2, rfl, I2, T, at0, free2, body⟩ := k2
  refine PpSet.newSet_ok (newEnv_comp ?_)
  obtain ⟨D, eD⟩ : ∃ D, D = s2.heap.objs.size := ⟨_, rfl⟩
  rw [← eD]
  have nD : H2 D = none := I2.hok.fresh (Nat.le_of_eq eD.symm)
  obtain ⟨W, ⟨m0, w0⟩, turn⟩ := body D nD
  obtain ⟨s3, e3⟩ : ∃ s3 : Shared, s3 = { s2 with heap := s2.heap.push (set0 X.w) } := ⟨_, rfl⟩
  have hp3 : s3.heap = s2.heap.push (set0 X.w) := by rw [e3]
  have keep3 : ∀ b o, s2.heap.get? b = some o → s3.heap.get? b = some o := fun b o e => by
    rw [hp3]
    exact Heap.get?_push_of_some _ e
  obtain ⟨H3, eH3⟩ : ∃ H3, H3 = upd H2 D (SetO X.w D noneS 0) := ⟨_, rfl⟩
  rw [← eH3] at w0
  have I3 : Inv X pins σ H3 s3 := by
    rw [e3, eH3]
    refine I2.laid (t' := s2.toks) (fun b o e => Heap.get?_push_of_some _ e) (Nat.le_of_eq eD.symm) ?_
    rw [eD]
    exact setO_new (setR_fresh X.w)
  have below : ∀ b ∈ fp, b < s2.heap.objs.size := fun b hb => (T.obj _ _ at0 b hb).elim fun o z => Heap.lt_size z.1
  have free3 : ∀ b ∈ fp, FpOk X pins H3 b ∧ b < s3.heap.objs.size := by
    intro b hb
    have lt := below b hb
    refine ⟨⟨?_, (free2 b hb).2⟩, ?_⟩
    · rw [eH3, upd_ne (by rw [eD]; exact Nat.ne_of_lt lt)]
      exact (free2 b hb).1
    · rw [hp3, Heap.size_push]
      exact Nat.lt_succ_of_lt lt
  have at3 : tn 0 s3.heap := T.keep _ _ _ at0 fun b _ o e => keep3 b o e
  have I4 := block_start I3 ok nd free3
  have pg := tgt s3 H3 s3.heap.objs.size (cellsFrom (s3.heap.objs.size + 1) scope.names (cloFrom X.env.cells scope.names [])) fp
  have pt := tst s3 H3 s3.heap.objs.size (cellsFrom (s3.heap.objs.size + 1) scope.names (cloFrom X.env.cells scope.names [])) fp
  have pe := val s3 H3 s3.heap.objs.size (cellsFrom (s3.heap.objs.size + 1) scope.names (cloFrom X.env.cells scope.names [])) fp
  rw [← e3]
  show codeAny _ _ (.compStart _ 0 (.ref it) (.ref D) (compEnvC scope (cellsFrom (s3.heap.objs.size + 1) scope.names (cloFrom X.env.cells scope.names [])) s3.heap.objs.size X.env))
    (compPost (model X.prog X.w) X.A X.xe use Qf (.ref D) s3.heap.objs.size)
    { s3 with heap := pushCells (s3.heap.push { cls := .type "dict", data := .dict #[] }) scope.names }
  have nfp : ∀ b ∈ fp, H3 b = none := fun b hb => (free3 b hb).1.1
  generalize hce : compEnvC scope (cellsFrom (s3.heap.objs.size + 1) scope.names (cloFrom X.env.cells scope.names [])) s3.heap.objs.size X.env = ce at I4 pg pt pe ⊢
  have locC : ce.locals = s3.heap.objs.size := by
    rw [← hce]
    rfl
  generalize hs4 : ({ s3 with heap := pushCells (s3.heap.push { cls := .type "dict", data := .dict #[] }) scope.names } : Shared) = s4 at I4 ⊢
  have at4 : tn 0 s4.heap := T.keep _ _ _ at3 fun b _ o e => by
    rw [← hs4]
    exact pushCells_keeps _ _ _ _ (Heap.get?_push_of_some _ e)
  have frees' : ∀ {σ' : St} {H' : Hp} {s' : Shared}, Inv (X.blk s3 H3 scope ce fp) [] σ' H' s' → (∀ b ∈ fp, H' b = none) →
      ∀ b ∈ fp, FpOk (X.blk s3 H3 scope ce fp) [] H' b := by
    intro σ' H' s' I' n b hb
    exact ⟨n b hb, (I'.ok.exf b hb).1, I'.ok.exfs b hb, .inl hb, fun x c e => (I'.ok.exf b hb).2 x c e, fun p z => by cases z⟩
  refine PpSet.codeAny_compStart_set ?_ (T.self X.A 0 _ _ _ at4 ?_)
  all_goals
    refine PpSet.compLoopS_any (fun n s' => ∃ i H', Inv (X.blk s3 H3 scope ce fp) [] (wipe σ (own.map (·.2))) H' s' ∧
      tn i s'.heap ∧ (∀ b ∈ fp, H' b = none) ∧ W i n H') ?_ m0 ⟨0, H3, I4, at4, nfp, w0⟩
    rintro n s5 ⟨i, H5, I5, at5, n5, w5⟩
    rcases turn i n H5 w5 with ⟨stop, fin⟩ | ⟨go, N, hN, step⟩
    · refine thnF (T.done (X.blk s3 H3 scope ce fp) rfl rfl rfl calm i [] s5 _ H5 (fun _ _ => False) I5 (frees' I5 n5) at5 stop) fun r s6 hr => ?_
      obtain ⟨rfl, I6⟩ := hr
      have I7 : Inv X pins σ H5 s6 := I3.call' (ch := fp) I6.os I6.base I6.hok I6.bare fun b hb => by
        obtain ⟨_, _, z1, z2, z3, z4⟩ := (free3 b hb).1
        exact ⟨z2, (free3 b hb).1.2.1, z3, z4⟩
      have nC : H5 s3.heap.objs.size = none := locC ▸ (show H5 ce.locals = none from I6.free)
      obtain ⟨m, hm, _⟩ := I6.loc
      have hm' : s6.heap.Ns ce.locals m := hm
      rw [locC] at hm'
      exact after D s3.heap.objs.size s6 m H5 I7 fin hm' (I3.fpOk (Nat.le_refl _) nC)
    · refine thnF (T.item (X.blk s3 H3 scope ce fp) rfl rfl rfl calm i [] s5 _ H5 (fun _ _ => False) I5 (frees' I5 n5) at5 go) fun r s6 hr => ?_
      obtain ⟨u, rfl, h6⟩ := hr
      refine thnF h6 fun _ s7 z7 => ?_
      obtain ⟨x, H7, I7, r7, y7, at7, n7⟩ := z7
      refine thnF (pg.run _ s7 _ H7 x u _ (I7.pinned (frees' I7 n7) (T.obj _ _ at7)) r7 (step x H7 y7)) fun _ s8 z8 => ?_
      obtain ⟨σ8, H8, I8, wi8, q8⟩ := z8
      refine thnF (pt.run _ s8 σ8 H8 _ I8 q8) fun b s9 z9 => ?_
      obtain ⟨H9, I9, q9⟩ := z9
      have over : ∀ {s' : Shared} {H' : Hp}, Inv (X.blk s3 H3 scope ce fp) ([] ++ pinsAt fp s7.heap) σ8 H' s' → N H' →
          ∃ m, m < n ∧ ∃ i H', Inv (X.blk s3 H3 scope ce fp) [] (wipe σ (own.map (·.2))) H' s' ∧ tn i s'.heap ∧ (∀ b ∈ fp, H' b = none) ∧ W i m H' := by
        intro s' H' I' nx
        obtain ⟨m', lt, w'⟩ := hN H' nx
        have same : ∀ b ∈ fp, ∀ o, s7.heap.get? b = some o → s'.heap.get? b = some o ∧ H' b = none := by
          intro b hb o e
          have z := I'.pin (b, o) (List.mem_append_right _ (List.mem_append_right _ (mem_pinsAt hb e)))
          exact ⟨z.1, z.2.1⟩
        have len : (wipe σ (own.map (·.2))).length = σ8.length := by rw [← wi8, wipe_length]
        refine ⟨m', lt, i + 1, H', (I'.unpinned (pins := [])).weak len (fun j v e => ?_), ?_, ?_, w'⟩
        · rw [← wi8] at e
          exact (wipe_some e).1
        · exact T.keep _ _ _ at7 fun b hb o e => (same b hb o e).1
        · intro b hb
          obtain ⟨o, e, _⟩ := T.obj _ _ at7 b hb
          exact (same b hb o e).2
      cases b with
      | false => exact over I9 (by simpa using q9)
      | true =>
        refine thnF (pe.run _ s9 σ8 H9 _ I9 (by simpa using q9)) fun z s10 z10 => ?_
        obtain ⟨yv, H10, I10, r10, q10⟩ := z10
        refine thnF (mt_sadd (X := X.blk s3 H3 scope ce fp) _ s10 _ H10 (.ref D) [yv] (.ref D) [z] _ I10 rfl (.cons r10 .nil) q10) fun _ s11 z11 => ?_
        obtain ⟨_, H11, I11, _, q11⟩ := z11
        exact over I11 q11
/-- as a value -/
theorem pe_scI (calm : X.calm = true) (nd : X.N.Nodup) (pi : PI X tg iter wi) (ok : BlkOk X.N X.env.scope scope own)
    (tgt : ∀ (s : Shared) (H : Hp) (C : Addr) (cl : List (Str × Addr)) (fp : List Addr),
      PG (X.blk s H scope (compEnvC scope cl C X.env) fp) tg g)
    (tst : ∀ (s : Shared) (H : Hp) (C : Addr) (cl : List (Str × Addr)) (fp : List Addr),
      PTs (X.blk s H scope (compEnvC scope cl C X.env) fp) ifs tt)
    (val : ∀ (s : Shared) (H : Hp) (C : Addr) (cl : List (Str × Addr)) (fp : List Addr),
      PE (X.blk s H scope (compEnvC scope cl C X.env) fp) elt te)
    (fold : ∀ x, foldedSetIterable iter X.env x = pure x := by intro _; rfl) :
    PE X (.SetComp elt [⟨tg, iter, ifs, 0⟩] scope pos) (tScI X.w wi g tt te (own.map (·.2))) := by
  constructor
  intro pins s σ H Q I h
  rw [PpSet.eval_SetComp]
  refine scI_core calm nd I pi ok tgt tst val fold h fun D C s' m H' I' q ns f => ⟨m, ns, fun h'' sb => ?_⟩
  obtain ⟨z0, z1, z2, z3, z4, z5⟩ := f
  exact ⟨.ref D, H', I'.turned (t' := s'.toks) (fun b o hb e => (sb.2 b hb).trans e) z0 z1 z3 z4 z5, rfl, q⟩
end

section
variable {X : Cx} {elt tg iter : Expr} {ifs : List Expr} {scope : Scope} {own : List (Str × Nat)}
variable {pos spos py : Pos} {wi : TI} {g : TG} {tt : TT} {te : TE} {i : Nat} {y : Str}
/-- name = {..} on one line, the name a local -/
theorem ps_setScI (calm : X.calm = true) (nd : X.N.Nodup) (at_ : X.N[i]? = some y) (isl : X.env.scope.names.lookup y = some .local)
    (sw : swapsWith (.SetComp elt [⟨tg, iter, ifs, 0⟩] scope pos) (some (.Name y py)) spos.line X.env = pure true)
    (pi : PI X tg iter wi) (ok : BlkOk X.N X.env.scope scope own)
    (tgt : ∀ (s : Shared) (H : Hp) (C : Addr) (cl : List (Str × Addr)) (fp : List Addr),
      PG (X.blk s H scope (compEnvC scope cl C X.env) fp) tg g)
    (tst : ∀ (s : Shared) (H : Hp) (C : Addr) (cl : List (Str × Addr)) (fp : List Addr),
      PTs (X.blk s H scope (compEnvC scope cl C X.env) fp) ifs tt)
    (val : ∀ (s : Shared) (H : Hp) (C : Addr) (cl : List (Str × Addr)) (fp : List Addr),
      PE (X.blk s H scope (compEnvC scope cl C X.env) fp) elt te)
    (fold : ∀ x, foldedSetIterable iter X.env x = pure x := by intro _; rfl) :
    PS X (.Assign [.Name y py] (.SetComp elt [⟨tg, iter, ifs, 0⟩] scope pos) spos) (tAsg (tScI X.w wi g tt te (own.map (·.2))) (gName i)) := by
  constructor
  intro pins s σ H D I h
  rw [exec_Assign_Name_used _ _ _ _ sw]
  refine wpAny_bind (wpAny_standAt (wpAny_bind ?_))
  show wpAny _ X.A (do
    let _ ← comprehension (.SetComp elt [⟨tg, iter, ifs, 0⟩] scope pos) scope X.env (firstIterPos [⟨tg, iter, ifs, 0⟩] pos) (newSet (.type "set")) false (eval iter X.env) (some (assign (.Name y py) X.env))) _ _ s
  have h' : tScI X.w wi g tt te (own.map (·.2)) σ H (fun x H1 => gName i x σ H1 D.nx) := h
  refine wpAny_bind (thn (scI_core (Qf := fun _ s' => SP X pins D .next s') calm nd I pi ok tgt tst val fold h'
    fun L C s' m H' I' q ns f => ?_) fun _ s' hq => wpAny_pure (wpAny_pure hq))
  show wpAny _ _ (assign (.Name y py) X.env (.ref L)) _ _ _
  obtain ⟨z0, z1, z2, z3, z4, z5⟩ := f
  refine wpAny_assign_Name (store_ok2 (v := V.ref L) I' nd at_ (.inl isl) rfl (fun s2 I2 st => ?_) (.inr isl))
  obtain ⟨a, sb, ha⟩ := st
  have hne : C ≠ a := ha.elim (fun z => by rw [z]; exact z1) fun z e => z4 y a z e.symm
  refine ⟨m, ns.sameBut sb hne, fun h3 sb3 => ⟨_, H', ?_, q⟩⟩
  exact I2.turned (t' := s2.toks) (fun b o hb e => (sb3.2 b hb).trans e) z0 z1 z3 z4 z5
theorem sw_setTrue {gs : List Comprehension} {l : Nat} {env : Env} (hk : env.scope.kind = .function) (hy : env.scope.names.lookup y = some .local)
    (hl : (py.line == pos.line) = true) (ha : (scope.names.any fun (n, k) => n == y && (k == .local || k == .cell)) = false) :
    swapsWith (.SetComp elt gs scope pos) (some (.Name y py)) l env = pure true := by
  have k1 : env.kindOf y = some .local := hy
  have k2 : env.blockKind = .function := by
    unfold Env.blockKind
    rw [hk] <;> rfl
  unfold swapsWith
  simp only [k2, k1, ha, Expr.pos, hl]
  rfl
end
theorem roomH_suite {X : Cx} {k j : Nat} {a : Addr} {pn : List (Addr × Obj)} (r : Room k X.A) (h : j ≤ k) : L2H.RoomH j (X.suite a pn).A := by
  have q := (L2H.roomH_of r).mono h
  exact ⟨q.dp, q.un⟩
/-! ### in, not in: lists, tuples, sets of whole numbers, deep lists -/
def rInSet (w : World) (neg : Bool) : R2 := fun x y H Q =>
  ∃ k a S n, x = V.int k ∧ y = V.ref a ∧ H a = some (SetO w a S n) ∧ Q (.bl (if neg = true then !S k else S k)) H
def rInDeep (K : PySem.W.Frag) (neg : Bool) : R2 := fun x y H Q =>
  ∃ d ds, Dp K H x d ∧ Dp K H y (.list ds) ∧ SeqAt.shaped d = true ∧ SeqAt.shaped (.list ds) = true ∧
    Q (.bl (if neg = true then !(ds.any fun z => PyData.eqv z d) else ds.any fun z => PyData.eqv z d)) H
def rInU (K : PySem.W.Frag) (w : World) (neg : Bool) : R2 := fun x y H Q =>
  rIn K neg x y H Q ∨ rInSet w neg x y H Q ∨ rInDeep K neg x y H Q
section
variable {X : Cx}
theorem op_inU (K : PySem.W.Frag) (w : World) {k : Nat} (hr : Room k X.A) (hK : X.K = K := by rfl) (hw : X.w = w := by rfl) :
    OpR X (compareOp .In) (rInU K w false) := by
  subst hK hw
  intro pins s σ H x y v u Q I rx ry h
  rcases h with h | ⟨k, a, S, n, e1, e2, e3, q⟩ | ⟨d, ds, e1, e2, e3, e4, q⟩
  · exact op_in_seq pins s σ H x y v u Q I rx ry h
  · exact or_sin pins s σ H x y v u Q I rx ry ⟨k, a, S, n, e1, e2, e3, q⟩
  · exact op_inD (by have := hr.un; omega) pins s σ H x y v u Q I rx ry ⟨d, ds, e1, e2, e3, e4, q⟩
theorem op_notInU (K : PySem.W.Frag) (w : World) {k : Nat} (hr : Room k X.A) (hK : X.K = K := by rfl) (hw : X.w = w := by rfl) :
    OpR X (compareOp .NotIn) (rInU K w true) := by
  subst hK hw
  intro pins s σ H x y v u Q I rx ry h
  rcases h with h | ⟨k, a, S, n, e1, e2, e3, q⟩ | ⟨d, ds, e1, e2, e3, e4, q⟩
  · exact op_notIn_seq pins s σ H x y v u Q I rx ry h
  · exact or_snotin pins s σ H x y v u Q I rx ry ⟨k, a, S, n, e1, e2, e3, q⟩
  · exact op_notInD (by have := hr.un; omega) pins s σ H x y v u Q I rx ry ⟨d, ds, e1, e2, e3, e4, q⟩
end
section
variable {K : PySem.W.Frag} {w : World} {H : Hp} {Q : VK} {a : Addr} {i : Int} {L : List Int}
theorem inV_ints : inV (.int i) (L.map V.int) = decide (i ∈ L) := by
  induction L with
  | nil => rfl
  | cons x r ih =>
    have e : inV (.int i) ((x :: r).map V.int) = (eqV (.int x) (.int i) || inV (.int i) (r.map V.int)) := rfl
    rw [e, ih]
    have e2 : eqV (.int x) (.int i) = decide (i = x) := by
      by_cases c : i = x
      · subst c
        simp [eqV]
      · rw [decide_eq_false c]
        simp [eqV]
        omega
    rw [e2, Bool.eq_iff_iff]
    simp
theorem flat_ints : (L.map V.int).all flatV = true := by
  induction L with
  | nil => rfl
  | cons x r ih => rw [List.map_cons, List.all_cons, ih]; rfl
theorem inI_l (hS : SqL K H a (L.map V.int)) (h : Q (.bl (decide (i ∈ L))) H) : rInU K w false (.int i) (.ref a) H Q :=
  .inl ⟨a, _, rfl, .inl hS, rfl, flat_ints, by rw [inV_ints]; exact h⟩
theorem notInI_l (hS : SqL K H a (L.map V.int)) (h : Q (.bl (decide (i ∉ L))) H) : rInU K w true (.int i) (.ref a) H Q :=
  .inl ⟨a, _, rfl, .inl hS, rfl, flat_ints, by rw [inV_ints, ← decide_not]; exact h⟩
theorem inI_s {S : Int → Bool} {n : Nat} (e : H a = some (SetO w a S n)) (h : Q (.bl (S i)) H) : rInU K w false (.int i) (.ref a) H Q :=
  .inr (.inl ⟨i, a, S, n, rfl, rfl, e, h⟩)
end
/-! ### the comprehension read -/
/-- what a turn must reach: C of the items so far, the heap without the set, its members and their number -/
def ScP (w : World) (H0 : Hp) (D : Addr) (C : Nat → Hp → (Int → Bool) → Nat → Prop) (i : Nat) (H : Hp) : Prop :=
  ∃ S c, Same H0 H ∧ H D = some (SetO w D S c) ∧ C i (del H D) S c
section
variable {w : World} {σ : St} {H : Hp} {wi : TI} {g : TG} {tt : TT} {te : TE} {J : It} {n : Nat} {ok : Hp → Prop}
variable {itm : Nat → V → Hp → Hp → Prop} {vs : List Nat} {Q : VK}
theorem tScI_i (h : wi σ H (ScB w g tt te vs σ Q)) : tScI w wi g tt te vs σ H Q := h
theorem scS (S : Src J n ok itm) (C : Nat → Hp → (Int → Bool) → Nat → Prop) (hok : ∀ H', Same H H' → ok H') (h0 : C 0 H noneS 0)
    (hs : ∀ D i M c H1 x H2, i < n → H D = none → Same H H1 → H1 D = some (SetO w D M c) → C i (del H1 D) M c → itm i x H1 H2 →
      g x (wipe σ vs) H2 fun σ2 H2 => wipe σ2 vs = wipe σ vs ∧ tt σ2 H2 fun b H3 =>
        Br b (te σ2 H3 (ScY w D (ScP w H D C (i + 1)))) (ScP w H D C (i + 1) H3))
    (hd : ∀ D M c H1, H D = none → Same H H1 → H1 D = some (SetO w D M c) → C n (del H1 D) M c → Q (.ref D) H1) :
    ScB w g tt te vs σ Q J H := by
  intro D hD
  refine ⟨fun i m H' => m = n - i ∧ i ≤ n ∧ ScP w H D C i H', ⟨n, by simp, Nat.zero_le _, noneS, 0, Same.new hD, upd_same, ?_⟩, ?_⟩
  · rw [del_upd, del_id hD]
    exact h0
  rintro i m H1 ⟨rfl, hi, p⟩
  obtain ⟨M, c, s1, e1, j1⟩ := id p
  have q := hok _ s1
  by_cases hlt : i < n
  · refine .inr ⟨S.go i H1 q hlt, ScP w H D C (i + 1), fun H' p' => ⟨n - (i + 1), by omega, rfl, hlt, p'⟩, fun x H' y => ?_⟩
    exact hs D i M c H1 x H' hlt hD s1 e1 j1 (S.yld i H1 x H' q hlt y)
  · have e : i = n := by omega
    subst e
    exact .inl ⟨S.stop i H1 q (Nat.le_refl _), hd D M c H1 hD s1 e1 j1⟩
theorem scY {D : Addr} {H0 : Hp} {C : Nat → Hp → (Int → Bool) → Nat → Prop} {i c : Nat} {M : Int → Bool} {k : Int} (nD : H0 D = none)
    (s : Same H0 H) (e : H D = some (SetO w D M c)) (hl : c + 1 < scanBound) (j : C i (del H D) (putS M k) (if M k = true then c else c + 1)) :
    ScY w D (ScP w H0 D C i) (.int k) H := by
  refine ⟨D, k, M, c, rfl, rfl, e, hl, _, _, Same.upd s nD, upd_same, ?_⟩
  rw [del_upd]
  exact j
theorem scN {D : Addr} {H0 : Hp} {C : Nat → Hp → (Int → Bool) → Nat → Prop} {i c : Nat} {M : Int → Bool} (s : Same H0 H)
    (e : H D = some (SetO w D M c)) (j : C i (del H D) M c) : ScP w H0 D C i H := ⟨M, c, s, e, j⟩
end

theorem tCallE_i {sp : SpX} {a : Addr} {cls : Value} {d : Option Addr} {t : TA} {σ : St} {H : Hp} {Q : VK}
    (h : t σ H fun vs H1 => sp a cls d vs H1 Q (fun _ _ _ => False)) : tCallE sp a cls d t σ H Q := h
theorem bl_eq {i j : Bool} : decide (V.bl i = V.bl j) = decide (i = j) := by cases i <;> cases j <;> rfl
theorem rEqU_b {K : PySem.W.Frag} {H : Hp} {Q : VK} {i j : Bool} (h : Q (.bl (decide (i = j))) H) : rEqU K (.bl i) (.bl j) H Q :=
  .inl ⟨rfl, by rw [bl_eq]; exact h⟩
theorem rNeU_b {K : PySem.W.Frag} {H : Hp} {Q : VK} {i j : Bool} (h : Q (.bl (!decide (i = j))) H) : rNeU K (.bl i) (.bl j) H Q :=
  .inl ⟨rfl, by rw [bl_eq]; exact h⟩
/-! every member of a list that was written out -/
theorem all_cons {P : V → Prop} {v : V} {vs : List V} (h : P v) (h2 : ∀ u, u ∈ vs → P u) : ∀ u, u ∈ v :: vs → P u :=
  fun u hu => (List.mem_cons.mp hu).elim (fun z => by rw [z]; exact h) (h2 u)
theorem all_nil {P : V → Prop} : ∀ u, u ∈ ([] : List V) → P u := fun u hu => nomatch hu
end EL

namespace PySem
open Sem (wp)
/-! ### enumerate(t), t a tuple -/
/-- the enumerate object that begins to go through what the iterator at it draws -/
abbrev enum0 (it : Addr) : Obj := { cls := .type "enumerate", data := .fields #[.none, .bool false, .ref it, rawInt 0, .none, .none] }
theorem meets_enum1 {v : Value} {o : Obj} {H : Heap → Prop} (B : Begins v o H) :
    Meets (Builtin.«enumerate.__new__» ⟨[.type "enumerate", v], []⟩) (fun _ R s => H s.heap ∧
      R (.ok (.ret (.ref (s.heap.push o).objs.size))) { s with heap := (s.heap.push o).push (enum0 s.heap.objs.size) }) :=
  .of_wp fun prog w A R s h => by
    obtain ⟨hp, g, d, tk, os⟩ := s
    obtain ⟨h1, h⟩ := h
    have sub := sub_enumerate
    have go : ∀ {A' : Around} {E : Value → Shared → Prop} {Q : Value → Shared → Prop}, Q (.ref hp.objs.size) ⟨hp.push o, g, d, tk, os⟩ →
        wpAny (model prog w) A' (pyIter v) Q E ⟨hp, g, d, tk, os⟩ := fun q => B.iter prog w _ _ ⟨hp, g, d, tk, os⟩ _ h1 q
    wp_walk using go
    refine wpAny_stack_any fun st => wpAny_pure ?_
    split
    · rename_i c _ _ _ _ _
      cases (c == Value.type "enumerate") <;>
      · wp_walk using go
        exact ⟨_, rfl, h⟩
    · wp_walk using go
      exact ⟨_, rfl, h⟩
section
variable {prog : Program} {w : World} {A : Around} {E : Value → Shared → Prop} {s : Shared}
theorem call_enum1 {v : Value} {o : Obj} {H : Heap → Prop} {Q : Value → Shared → Prop} (B : Begins v o H) (h1 : H s.heap)
    (h : ∀ h', IsEnum h' (s.heap.objs.size + 1) s.heap.objs.size 0 .none → h'.get? s.heap.objs.size = some o →
      (∀ b u, s.heap.get? b = some u → h'.get? b = some u) → Q (.ref (s.heap.objs.size + 1)) { s with heap := h' }) :
    wpAny (model prog w) A (call (.type "enumerate") [v]) Q E s := by
  refine callType_new F.called_enumerate (by decide) (F.typeCall_enumerate_1 _) (F.newCall_enumerate_1 _)
    (fun obj => F.args_object_init_2 obj _) F.entry_enumerate_new (meets_enum1 B) ⟨h1, ?_⟩
  have sz : (s.heap.push o).objs.size = s.heap.objs.size + 1 := Heap.size_push ..
  have he : IsEnum ((s.heap.push o).push (enum0 s.heap.objs.size)) (s.heap.objs.size + 1) s.heap.objs.size 0 .none := by
    have q := Heap.get?_push_size (s.heap.push o) (o := enum0 s.heap.objs.size) rfl
    rw [sz] at q
    exact q
  show _ ∧ _
  rw [sz]
  refine ⟨⟨_, he, rfl⟩, h _ he (Heap.get?_push_of_some _ (Heap.get?_push_size _ B.free)) fun b u x => ?_⟩
  exact Heap.get?_push_of_some _ (Heap.get?_push_of_some _ x)
end
/-- an iterator at its tuple's end -/
theorem draws_end {prog : Program} {w : World} {A : Around} {i : Nat} (hh : A.handled = none) (it t : Addr) (hne : t ≠ it) (items : Array Value) (hi : items.size ≤ i) :
    Draws prog w A it [it, t] i (fun _ _ => False) (fun j h => j = i ∧ h.IsTupleIter it t i ∧ h.IsTuple t items) where
  live := fun _ _ st => by
    obtain ⟨_, ⟨o, ho, _⟩, _⟩ := st
    exact ⟨o, ho⟩
  frame := fun _ _ _ st hk => ⟨st.1, st.2.1.at fun o e => hk it (by simp) o e, st.2.2.at fun o e => hk t (by simp) o e⟩
  item := fun j s Q E hj st _ => absurd st.1 (Nat.ne_of_lt hj)
  done := fun s Q E st hE => wpAny_nextOf_tuple_end hh st.2.1 st.2.2 (by simp; omega) hE
end PySem
namespace EL
open PySem PySem.Spec PyProof.Rows L2
/-- the tuple at a, each item in a new pair -/
def IteT (K : PySem.W.Frag) (a : Addr) : It :=
  ⟨fun i H => ∃ (xs : List V) (x : V), SqT K H a xs ∧ xs[i]? = some x,
   fun i H v H' => ∃ T x, v = .ref T ∧ H T = none ∧ H' = upd H T (.tup [.int (i : Nat), x]) ∧ ∀ xs, SqT K H a xs → xs[i]? = some x,
   fun i H => ∃ xs : List V, SqT K H a xs ∧ xs.length ≤ i⟩
theorem turn_enumT {P : Program} {w : World} {K : PySem.W.Frag} {elts : List Expr} {kk : Nat} {tpos : Pos} (a e it : Addr) :
    Turn P w K (.Tuple elts kk tpos) (IteT K a) [e, it] e
      (fun i h => (∃ old, IsEnum h e it ((i : Nat) : Int) old) ∧ h.IsTupleIter it a i ∧ e ≠ it ∧ a ≠ it ∧ e ≠ a) where
  mem := by simp
  obj := fun i h st b hb => by
    obtain ⟨⟨old, he⟩, ⟨o, ho, _, hd⟩, _⟩ := st
    rcases (show b = e ∨ b = it by simpa using hb) with rfl | rfl
    · exact ⟨_, he, fun v q => nomatch q⟩
    · refine ⟨o, ho, fun v q => ?_⟩
      rw [hd] at q
      cases q
  keep := fun i h h' st k => by
    obtain ⟨⟨old, he⟩, hi, hne⟩ := st
    exact ⟨⟨old, k e (by simp) _ he⟩, hi.at fun o q => k it (by simp) o q, hne⟩
  item := by
    intro X hP hw hK hc i pins s σ H E I hf st hg
    subst hP hw hK
    obtain ⟨⟨old, he⟩, hit, hne, hai, hea⟩ := st
    obtain ⟨xs, x, hq, hx⟩ := hg
    obtain ⟨its, rv, p, hz⟩ := I.tuple hq
    have p' : s.heap.IsTuple a its.toArray := p
    obtain ⟨u, hu, ru⟩ := rv.get hx
    have hel : e < s.heap.objs.size := Heap.lt_size he
    have hil : it < s.heap.objs.size := by
      obtain ⟨_, q, _⟩ := hit
      exact Heap.lt_size q
    have hlt : i < its.toArray.size := by
      obtain ⟨z, _⟩ := List.getElem?_eq_some_iff.mp hu
      simpa using z
    refine wpAny_pyNext_enum_itemD (Draws.tuple (A := X.A.in1) (show X.A.in1.handled = none from I.ok.hd hc) it a hai its.toArray) he ⟨hit, p'⟩ hlt hne (by simp; exact ⟨hne, hea⟩) fun y h' tk hy ho st' hT hsz hk => ?_
    have hyu : y = u := by
      have q : its.toArray[i]? = some y := hy
      rw [List.getElem?_toArray, hu] at q
      exact (Option.some.inj q).symm
    subst hyu
    refine ⟨_, rfl, wpAny_letOwnedTupleGo_enum (s := { s with heap := h', toks := tk + 1 }) ho fun h'' he' sb => ?_⟩
    have hT2 : h''.get? s.heap.objs.size = some { cls := .type "tuple", data := .seq #[.int i tk, y] } := (sb.2 _ (Nat.ne_of_gt hel)).trans hT
    have new : ObjOk X.prog X.w (upd H s.heap.objs.size (.tup [.int (i : Nat), x])) h'' s.heap.objs.size (.tup [.int (i : Nat), x]) :=
      ⟨by show 2 ≤ sizeLine; decide, [.int i tk, y], .cons ⟨_, rfl⟩ (.cons ru .nil), ⟨_, hT2, rfl, _, rfl⟩⟩
    have I1 : Inv X pins σ (upd H s.heap.objs.size (.tup [.int (i : Nat), x])) { s with heap := h'', toks := tk + 1 } := by
      refine I.turnedNew (ch := [e, it]) (fun b ob hb q => ?_) hf (Nat.le_refl _) new
      have b1 : b ≠ e := fun z => hb (by simp [z])
      have b2 : b ≠ it := fun z => hb (by simp [z])
      exact (sb.2 b b1).trans (hk b ob b1 b2 q)
    refine ⟨.ref s.heap.objs.size, _, I1, rfl, ⟨_, x, rfl, I.hok.fresh (Nat.le_refl _), rfl, fun ys hy => ?_⟩, ⟨⟨y, ?_⟩, ?_, hne, hai, hea⟩, fun b hb => ?_⟩
    · rw [I.tuple_inj hy hq]
      exact hx
    · have e1 : ((i + 1 : Nat) : Int) = (i : Int) + 1 := by omega
      rw [e1]
      exact he'
    · exact st'.1.at fun o q => (sb.2 it (Ne.symm hne)).trans q
    · have hb' : b < s.heap.objs.size := by
        rcases (show b = e ∨ b = it by simpa using hb) with rfl | rfl
        · exact hel
        · exact hil
      rw [upd_ne (Nat.ne_of_lt hb')]
      exact (hf b hb).1
  done := by
    intro X hP hw hK hc i pins s σ H E I hf st hg
    subst hP hw hK
    obtain ⟨⟨old, he⟩, hit, hne, hai, hea⟩ := st
    obtain ⟨xs, hq, hx⟩ := hg
    obtain ⟨its, rv, p, hz⟩ := I.tuple hq
    have p' : s.heap.IsTuple a its.toArray := p
    obtain ⟨f0, f1, f2, f3, f4, f5⟩ := hf it (by simp)
    have hl := rv.length
    refine wpAny_pyNext_enum_endD (draws_end (A := X.A.in1) (i := i) (show X.A.in1.handled = none from I.ok.hd hc) it a hai its.toArray (by simp; omega)) he ⟨rfl, hit, p'⟩ fun h' eb => ?_
    exact ⟨rfl, I.turned (t' := s.toks) (fun b o hb q => eb b o hb q) f0 f1 f3 f4 f5⟩
  self := fun A i s Q E st h => let ⟨⟨_, he⟩, _⟩ := st; wpAny_pyIter_enum he h
def iEnumT (K : PySem.W.Frag) (ta : TA) : TI := fun σ H R => ta σ H fun vs H1 => ∃ a xs, vs = [.ref a] ∧ SqT K H1 a xs ∧ R (IteT K a) H1
theorem pi_enumT {X : Cx} {e : Expr} {ta : TA} {p pos tpos : Pos} {elts : List Expr} {kk : Nat} (hg : Gl X "enumerate") (hm : X.mg "enumerate" = none) (ha : PA X [e] ta)
    (hs : starEach [e] X.env = [(false, eval e X.env)] := by rfl) :
    PI X (.Tuple elts kk tpos) (.Call (.Name "enumerate" p) [e] [] pos) (iEnumT X.K ta) := by
  constructor
  intro pins s σ H R I h
  refine Call_ (ld_blt I hg hm boot_enumerate (PyProof.Rows.callWith_type1 (thn (ha.run pos pins s σ H _ I h) fun us s1 z => ?_) hs rfl))
  obtain ⟨vs, H1, I1, r1, a, xs, rfl, hq, q⟩ := z
  cases r1 with
  | cons r rr =>
    cases rr
    cases r
    obtain ⟨its, rv, p', hz⟩ := I1.tuple hq
    have pt : s1.heap.IsTuple a its.toArray := p'
    have hal : a < s1.heap.objs.size := by
      obtain ⟨o, z, _⟩ := pt
      exact Heap.lt_size z
    refine call_enum1 (begins_tuple a its.toArray) pt fun h' he hit hk => wpAny_pyIter_enum he ?_
    have I2 : Inv X pins σ H1 { s1 with heap := h' } := I1.kept (t' := s1.toks) hk
    refine ⟨s1.heap.objs.size + 1, [s1.heap.objs.size + 1, s1.heap.objs.size], _, _, H1, rfl, I2, turn_enumT a (s1.heap.objs.size + 1) s1.heap.objs.size,
      ⟨⟨.none, he⟩, ⟨_, hit, rfl, rfl⟩, Nat.succ_ne_self _, Nat.ne_of_lt hal, (Nat.ne_of_lt (Nat.lt_succ_of_lt hal)).symm⟩, fun b hb => ?_, q⟩
    have hle : s1.heap.objs.size ≤ b := by
      rcases (show b = s1.heap.objs.size + 1 ∨ b = s1.heap.objs.size by simpa using hb) with z | z <;> rw [z]
      · exact Nat.le_succ _
      · exact Nat.le_refl _
    exact I1.fpOk hle (I1.hok.fresh hle)
/-! enumerate of a list or of a tuple -/
def iEnumU (K : PySem.W.Frag) (ta : TA) : TI := fun σ H R => iEnum K ta σ H R ∨ iEnumT K ta σ H R
theorem pi_enumU {X : Cx} (K : PySem.W.Frag) {e : Expr} {ta : TA} {p pos tpos : Pos} {elts : List Expr} {kk : Nat} (hg : Gl X "enumerate") (hm : X.mg "enumerate" = none) (ha : PA X [e] ta)
    (hs : starEach [e] X.env = [(false, eval e X.env)] := by rfl) (h : X.K = K := by rfl) :
    PI X (.Tuple elts kk tpos) (.Call (.Name "enumerate" p) [e] [] pos) (iEnumU K ta) := h ▸ piOr (pi_enum hg hm ha hs) (pi_enumT hg hm ha hs)
section
variable {K : PySem.W.Frag} {a : Addr} {xs : List V} {σ : St} {H : Hp} {ts : TA} {R : It → Hp → Prop}
theorem srcET : Src (IteT K a) xs.length (fun H => SqT K H a xs) (itmE xs) where
  go := fun i H h hi => ⟨xs, xs[i], h, by simp [hi]⟩
  stop := fun i H h hi => ⟨xs, h, hi⟩
  yld := fun i H x H' h _ z => by
    obtain ⟨p, y, e1, e2, e3, e4⟩ := z
    exact ⟨p, y, e1, e2, e3 ▸ Same.new e2, e3 ▸ upd_same, e4 xs h⟩
def WET (K : PySem.W.Frag) (R : It → Hp → Prop) (vs : List V) (H : Hp) : Prop := ∃ a xs, vs = [.ref a] ∧ SqT K H a xs ∧ R (IteT K a) H
theorem wEl (h : ts σ H (WE K R)) : iEnumU K ts σ H R := .inl h
theorem wEt (h : ts σ H (WET K R)) : iEnumU K ts σ H R := .inr h
theorem WET_i (xs : List V) (hS : SqT K H a xs) (h : R (IteT K a) H) : WET K R [.ref a] H := ⟨a, xs, rfl, hS, h⟩
end
/-! len of a set of whole numbers -/
def rLenI (w : World) : List V → Hp → VK → Prop := fun xs H Q => ∃ a S n, xs = [V.ref a] ∧ H a = some (SetO w a S n) ∧ Q (.int (n : Nat)) H
theorem call_lenI {X : Cx} (w : World) (hw : X.w = w := by rfl) : CallR X (.builtin "len") (rLenI w) := by
  subst hw
  intro pins s σ H xs us Q I r h
  obtain ⟨a, S, n, rfl, ha, q⟩ := h
  cases r with
  | cons r rr =>
    cases rr
    cases r
    obtain ⟨o, es, ep, t, ho, hex, hd, g, nd, hm, hb, hf, hn, _⟩ := setO_get I ha
    refine call_len_set ho hex hd hf (by unfold scanBound at hb; omega) ⟨.int (n : Nat), H, I.tok _, ⟨_, by rw [hn]⟩, q⟩
theorem rLenI_i {w : World} {a : Addr} {S : Int → Bool} {n : Nat} {H : Hp} {Q : VK} (e : H a = some (SetO w a S n)) (h : Q (.int (n : Nat)) H) : rLenI w [.ref a] H Q := ⟨a, S, n, rfl, e, h⟩
end EL

/-! ### the plain words: what a def's text asks, without a heap -/
namespace Px
open PySem L2 EL
abbrev LIM : Nat := sizeLine
/-- an error of the program's own: the number of its class, its fields -/
structure PErr where
  cls : Nat
  fs : List (Str × V)
def wLet {α : Type} (v : α) (k : α → Prop) : Prop := k v
def wJoin {α : Type} (f : (α → Prop) → Prop) (k : α → Prop) : Prop := f k
def wFor {α S : Type} : List α → S → (α → S → (S → Prop) → (S → Prop) → Prop) → (S → Prop) → Prop
  | [], s, _, k => k s
  | x :: xs, s, f, k => f x s (fun s' => wFor xs s' f k) k
def wWhile {S : Type} (s : S) (f : S → (S → Prop) → (S → Prop) → Prop) (k : S → Prop) : Prop :=
  ∃ W : Nat → S → Prop, (∃ m, W m s) ∧ ∀ m s, W m s → f s (fun s' => ∃ m', m' < m ∧ W m' s') k
def wComp {α β : Type} : List α → (α → (Option β → Prop) → Prop) → (List β → Prop) → Prop
  | [], _, k => k []
  | x :: xs, f, k => f x fun o => wComp xs f fun ys => k (o.toList ++ ys)
def wCompA {α β : Type} : List α → (α → (Option β → Prop) → Prop) → List β → (List β → Prop) → Prop
  | [], _, acc, k => k acc
  | x :: xs, f, acc, k => f x fun o => acc.length + o.toList.length ≤ LIM ∧ wCompA xs f (acc ++ o.toList) k
def wComp2 {α β : Type} : List α → (α → List β → (List β → Prop) → Prop) → List β → (List β → Prop) → Prop
  | [], _, acc, k => k acc
  | x :: xs, f, acc, k => f x acc fun acc' => wComp2 xs f acc' k
/-- xs[i] -/
def ixG {α : Type} [Inhabited α] (xs : List α) (i : Int) : α := (atI xs i).getD default
def inB {α : Type} (xs : List α) (i : Int) : Prop := -(xs.length : Int) ≤ i ∧ i < xs.length
def setG {α : Type} (xs : List α) (i : Int) (y : α) : List α := match ixN xs.length i with | some j => xs.set j y | none => xs
def cutG {α : Type} (xs : List α) (lo hi : Option Int) : List α := (xs.drop (HT.sIx xs.length 0 lo)).take (HT.sIx xs.length xs.length hi - HT.sIx xs.length 0 lo)
def rangeL (lo hi : Int) : List Int := (List.range (hi - lo).toNat).map fun (i : Nat) => lo + (i : Int)
def enumL {α : Type} (xs : List α) : List (Int × α) := (xs.zipIdx).map fun (x, i) => ((i : Int), x)
def minI (i j : Int) : Int := if j < i then j else i
def maxI (i j : Int) : Int := if j > i then j else i
def absI (i : Int) : Int := if i < 0 then -i else i
def b2i (b : Bool) : Int := if b then 1 else 0
def repG {α : Type} (xs : List α) (k : Int) : List α := (List.replicate k.toNat xs).flatten
def rgOk (lo hi : Int) : Prop := -(2 ^ 62) ≤ lo ∧ lo < 2 ^ 62 ∧ -(2 ^ 62) ≤ hi ∧ hi < 2 ^ 62
theorem rangeL_len {lo hi : Int} : (rangeL lo hi).length = (hi - lo).toNat := by unfold rangeL; rw [List.length_map, List.length_range]
theorem rangeL_get {lo hi : Int} {i : Nat} (h : i < (hi - lo).toNat) : (rangeL lo hi)[i]? = some (lo + (i : Int)) := by
  unfold rangeL
  rw [List.getElem?_map, List.getElem?_range h]
  rfl
theorem enumL_len {α : Type} {xs : List α} : (enumL xs).length = xs.length := by unfold enumL; rw [List.length_map, List.length_zipIdx]
theorem enumL_get {α : Type} {xs : List α} {i : Nat} {x : α} (h : xs[i]? = some x) : (enumL xs)[i]? = some ((i : Int), x) := by
  unfold enumL
  rw [List.getElem?_map, List.getElem?_zipIdx, h]
  simp
theorem zip_get {α β : Type} {xs : List α} {ys : List β} {i : Nat} {x : α} {y : β} (h : xs[i]? = some x) (h2 : ys[i]? = some y) : (xs.zip ys)[i]? = some (x, y) := by
  rw [List.getElem?_zip_eq_some]
  exact ⟨h, h2⟩
end Px
/-! ### Python's kinds over the heap -/
namespace EL
open PySem PySem.Spec PyProof.Rows L2 Px
structure PTy (τ : Type) where
  rep : Hp → V → τ → Prop
  mono : ∀ {H H' : Hp} {v : V} {d : τ}, Same H H' → rep H v d → rep H' v d
/-- kinds without a heap -/
def pI {τ : Type} (f : τ → V) : PTy τ := ⟨fun _ v d => v = f d, fun _ h => h⟩
abbrev pInt : PTy Int := pI V.int
abbrev pBl : PTy Bool := pI V.bl
abbrev pStr : PTy Str := pI V.str
abbrev pNon : PTy Unit := pI fun _ => V.non
abbrev pImm : PTy V := pI fun v => v
def optV (o : Option Int) : V := match o with | some i => .int i | none => .non
abbrev pOptI : PTy (Option Int) := pI optV
inductive AllR {α : Type} (p : PTy α) (H : Hp) : List V → List α → Prop
  | nil : AllR p H [] []
  | cons {v : V} {d : α} {vs : List V} {ds : List α} : p.rep H v d → AllR p H vs ds → AllR p H (v :: vs) (d :: ds)
section
variable {α β : Type} {p : PTy α} {H H' : Hp} {vs ws : List V} {ds es : List α} {v : V} {d : α} {i : Nat}
theorem AllR.len (h : AllR p H vs ds) : vs.length = ds.length := by
  induction h with
  | nil => rfl
  | cons _ _ ih => simp [ih]
theorem AllR.mono (s : Same H H') (h : AllR p H vs ds) : AllR p H' vs ds := by
  induction h with
  | nil => exact .nil
  | cons h _ ih => exact .cons (p.mono s h) ih
theorem AllR.app (h : AllR p H vs ds) (h2 : AllR p H ws es) : AllR p H (vs ++ ws) (ds ++ es) := by
  induction h with
  | nil => exact h2
  | cons h _ ih => exact .cons h ih
theorem AllR.one (h : p.rep H v d) : AllR p H [v] [d] := .cons h .nil
theorem AllR.get (h : AllR p H vs ds) : ∀ {i : Nat} {d : α}, ds[i]? = some d → ∃ v, vs[i]? = some v ∧ p.rep H v d := by
  induction h with
  | nil => intro i d e; simp at e
  | cons h _ ih =>
    intro i d e
    cases i with
    | zero => simp at e; subst e; exact ⟨_, rfl, h⟩
    | succ i => simpa using ih (by simpa using e)
theorem AllR.getV (h : AllR p H vs ds) : ∀ {i : Nat} {v : V}, vs[i]? = some v → ∃ d, ds[i]? = some d ∧ p.rep H v d := by
  induction h with
  | nil => intro i d e; simp at e
  | cons h _ ih =>
    intro i d e
    cases i with
    | zero => simp at e; subst e; exact ⟨_, rfl, h⟩
    | succ i => simpa using ih (by simpa using e)
theorem AllR.set (h : AllR p H vs ds) (h2 : p.rep H v d) : ∀ j, AllR p H (vs.set j v) (ds.set j d) := by
  induction h with
  | nil => intro j; exact .nil
  | cons h t ih =>
    intro j
    cases j with
    | zero => exact .cons h2 t
    | succ j => exact .cons h (ih j)
theorem AllR.take (h : AllR p H vs ds) : ∀ n, AllR p H (vs.take n) (ds.take n) := by
  induction h with
  | nil => intro n; simp; exact .nil
  | cons h t ih =>
    intro n
    cases n with
    | zero => exact .nil
    | succ n => exact .cons h (ih n)
theorem AllR.drop (h : AllR p H vs ds) : ∀ n, AllR p H (vs.drop n) (ds.drop n) := by
  induction h with
  | nil => intro n; simp; exact .nil
  | cons h t ih =>
    intro n
    cases n with
    | zero => exact .cons h t
    | succ n => exact ih n
theorem AllR.cut (h : AllR p H vs ds) (lo hi : Option Int) : AllR p H (cutV vs lo hi) (cutG ds lo hi) := by
  unfold cutV cutG
  rw [h.len]
  exact (h.drop _).take _
theorem AllR.rev (h : AllR p H vs ds) : AllR p H vs.reverse ds.reverse := by
  induction h with
  | nil => exact .nil
  | cons h _ ih => rw [List.reverse_cons, List.reverse_cons]; exact ih.app (.one h)
theorem AllR.imm {f : α → V} (h : AllR (pI f) H vs ds) : vs = ds.map f := by
  induction h with
  | nil => rfl
  | cons h _ ih => rw [ih, (show _ = f _ from h)]; rfl
theorem AllR.ofImm {f : α → V} : ∀ ds : List α, AllR (pI f) H (ds.map f) ds
  | [] => .nil
  | _ :: ds => .cons rfl (AllR.ofImm ds)
theorem AllR.flat {xs : List V} {n : Nat} (h : AllR p H vs ds) : AllR p H (List.replicate n vs).flatten (List.replicate n ds).flatten := by
  induction n with
  | zero => exact .nil
  | succ n ih => rw [List.replicate_succ, List.replicate_succ, List.flatten_cons, List.flatten_cons]; exact h.app ih
end
def SqA (K : PySem.W.Frag) (H : Hp) (a : Addr) (xs : List V) : Prop := SqL K H a xs ∨ SqT K H a xs
theorem SqA.same {K : PySem.W.Frag} {H H' : Hp} {a : Addr} {xs : List V} (s : Same H H') (h : SqA K H a xs) : SqA K H' a xs := h.elim (fun z => .inl (s.seq z)) fun z => .inr (s.seqT z)
section
variable (K : PySem.W.Frag) {α : Type}
/-- a list that the program has made -/
def pList (p : PTy α) : PTy (List α) := ⟨fun H v ds => ∃ a vs, v = .ref a ∧ H a = some (.lst vs) ∧ AllR p H vs ds ∧ ds.length ≤ LIM, fun s ⟨a, vs, e, h, r, l⟩ => ⟨a, vs, e, s _ _ h, r.mono s, l⟩⟩
/-- a list that is read alone -/
def pFro (p : PTy α) : PTy (List α) := ⟨fun H v ds => ∃ a vs, v = .ref a ∧ SqL K H a vs ∧ AllR p H vs ds ∧ ds.length ≤ LIM, fun s ⟨a, vs, e, h, r, l⟩ => ⟨a, vs, e, s.seq h, r.mono s, l⟩⟩
/-- a tuple of alike members -/
def pVt (p : PTy α) : PTy (List α) := ⟨fun H v ds => ∃ a vs, v = .ref a ∧ SqT K H a vs ∧ AllR p H vs ds ∧ ds.length ≤ LIM, fun s ⟨a, vs, e, h, r, l⟩ => ⟨a, vs, e, s.seqT h, r.mono s, l⟩⟩
/-- a list or a tuple -/
def pSeq (p : PTy α) : PTy (List α) := ⟨fun H v ds => ∃ a vs, v = .ref a ∧ SqA K H a vs ∧ AllR p H vs ds ∧ ds.length ≤ LIM, fun s ⟨a, vs, e, h, r, l⟩ => ⟨a, vs, e, h.same s, r.mono s, l⟩⟩
/-- the drawn numbers; the counter -/
def pDraw : PTy Unit := ⟨fun H v _ => ∃ a, v = .ref a ∧ ∃ xs : List Int, SqL K H a (xs.map V.int) ∧ 0 < xs.length, fun s ⟨a, e, xs, h, l⟩ => ⟨a, e, xs, s.seq h, l⟩⟩
def pCell : PTy Unit := ⟨fun H v _ => ∃ a, v = .ref a ∧ H a = some (cellO a), fun s ⟨a, e, h⟩ => ⟨a, e, s _ _ h⟩⟩
/-- what can be compared deep, by its data -/
def pDyn : PTy PyData := ⟨fun H v d => Dp K H v d, fun s h => s.dp h⟩
end
/-! tuples -/
structure PRow (τ : Type) where
  rep : Hp → List V → τ → Prop
  mono : ∀ {H H' : Hp} {v : List V} {d : τ}, Same H H' → rep H v d → rep H' v d
def rOne {α : Type} (p : PTy α) : PRow α := ⟨fun H vs d => ∃ v, vs = [v] ∧ p.rep H v d, fun s ⟨v, e, h⟩ => ⟨v, e, p.mono s h⟩⟩
def rCons {α β : Type} (p : PTy α) (r : PRow β) : PRow (α × β) := ⟨fun H vs d => ∃ v ws, vs = v :: ws ∧ p.rep H v d.1 ∧ r.rep H ws d.2, fun s ⟨v, w, e, h, h2⟩ => ⟨v, w, e, p.mono s h, r.mono s h2⟩⟩
def rNil : PRow Unit := ⟨fun _ vs _ => vs = [], fun _ h => h⟩
def pTup (K : PySem.W.Frag) {τ : Type} (r : PRow τ) : PTy τ := ⟨fun H v d => ∃ a vs, v = .ref a ∧ SqT K H a vs ∧ r.rep H vs d, fun s ⟨a, vs, e, h, q⟩ => ⟨a, vs, e, s.seqT h, r.mono s q⟩⟩
/-- None or a value -/
def pOpt {α : Type} (p : PTy α) : PTy (Option α) := ⟨fun H v o => match o with | none => v = .non | some d => p.rep H v d ∧ v ≠ .non, fun {H H' v o} s h => by
  cases o with
  | none => exact h
  | some d => exact ⟨p.mono s h.1, h.2⟩⟩
/-! what stands beside the own lists -/
def dels (H : Hp) : List Addr → Hp
  | [] => H
  | p :: ps => del (dels H ps) p
section
variable {H H' : Hp} {ps : List Addr} {q : Addr} {o : HO}
theorem dels_in (h : q ∈ ps) : dels H ps q = none := by
  induction ps with
  | nil => cases h
  | cons p r ih =>
    show del (dels H r) p q = none
    by_cases e : q = p
    · rw [e, del_same]
    · rw [del_ne e]
      exact ih ((List.mem_cons.mp h).resolve_left e)
theorem dels_out (h : q ∉ ps) : dels H ps q = H q := by
  induction ps with
  | nil => rfl
  | cons p r ih =>
    show del (dels H r) p q = H q
    rw [del_ne (fun e => h (by rw [e]; exact List.mem_cons_self ..)), ih (fun z => h (List.mem_cons_of_mem _ z))]
theorem dels_ext (h : ∀ b, b ∉ ps → H' b = H b) : dels H' ps = dels H ps := by
  funext b
  by_cases e : b ∈ ps
  · rw [dels_in e, dels_in e]
  · rw [dels_out e, dels_out e, h b e]
theorem Sd (ps : List Addr) (s : Same H H') : Same (dels H ps) (dels H' ps) := fun b u e => by
  by_cases c : b ∈ ps
  · rw [dels_in c] at e
    cases e
  · rw [dels_out c] at e ⊢
    exact s b u e
theorem Sn (ps : List Addr) (s : Same H H') (n : H q = none) : Same (dels H ps) (dels H' (q :: ps)) := fun b u e => by
  by_cases c : b ∈ ps
  · rw [dels_in c] at e
    cases e
  · rw [dels_out c] at e
    have hb : b ≠ q := ne_of_none e n
    rw [dels_out (fun z => (List.mem_cons.mp z).elim hb c)]
    exact s b u e
theorem Su : Same (dels H ps) H := fun b u e => by
  by_cases c : b ∈ ps
  · rw [dels_in c] at e
    cases e
  · rw [dels_out c] at e
    exact e
theorem Ss {qs : List Addr} (h : ∀ x, x ∈ qs → x ∈ ps) : Same (dels H ps) (dels H qs) := fun b u e => by
  by_cases c : b ∈ ps
  · rw [dels_in c] at e
    cases e
  · rw [dels_out c] at e
    rw [dels_out fun z => c (h b z)]
    exact e
theorem dels_at (h : H q = some o) (n : q ∉ ps) : dels H ps q = some o := by rw [dels_out n]; exact h
/-- one own list has changed -/
def Off (q : Addr) (H H' : Hp) : Prop := ∀ b, b ≠ q → H' b = H b
theorem So (h : q ∈ ps) (f : Off q H H') : Same (dels H ps) (dels H' ps) := by
  rw [dels_ext fun b hb => f b fun e => hb (by rw [e]; exact h)]
  exact Same.refl _
theorem Off.at (f : Off q H H') {b : Addr} (e : H b = some o) (n : b ≠ q) : H' b = some o := by rw [f b n]; exact e
theorem off_upd {o : HO} : Off q H (upd H q o) := fun b hb => upd_ne hb
theorem nin0 : q ∉ ([] : List Addr) := by simp
theorem nin1 {p : Addr} (h : q ≠ p) (h2 : q ∉ ps) : q ∉ p :: ps := fun z => (List.mem_cons.mp z).elim h h2
theorem ne_nn {a b : Addr} (n : H a = none) (e : H b = some o) : a ≠ b := fun z => by rw [z, e] at n; cases n
end
section
variable {H H' H0 : Hp} {ps : List Addr} {q : Addr} {o : HO}
theorem dom_up (s : Same H H') (h : ∀ x ∈ ps, H x ≠ none) : ∀ x ∈ ps, H' x ≠ none := fun x hx e => by
  cases e2 : H x with
  | none => exact h x hx e2
  | some u => rw [s x u e2] at e; cases e
theorem dom_new (e : H q = some o) (h : ∀ x ∈ ps, H x ≠ none) : ∀ x ∈ q :: ps, H x ≠ none := fun x hx => by
  rcases List.mem_cons.mp hx with z | z
  · rw [z, e]; exact fun z => nomatch z
  · exact h x z
theorem dom_off (f : Off q H H') (e : H' q = some o) (h : ∀ x ∈ ps, H x ≠ none) : ∀ x ∈ ps, H' x ≠ none := fun x hx => by
  by_cases c : x = q
  · rw [c, e]; exact fun z => nomatch z
  · rw [f x c]; exact h x hx
theorem dom_ss {qs : List Addr} (s : ∀ x, x ∈ qs → x ∈ ps) (h : ∀ x ∈ ps, H x ≠ none) : ∀ x ∈ qs, H x ≠ none := fun x hx => h x (s x hx)
theorem nin_of (n : H q = none) (h : ∀ x ∈ ps, H x ≠ none) : q ∉ ps := fun z => h q z n
theorem st_off (s : Same H0 H) (f : Off q H H') (n : H0 q = none) : Same H0 H' := fun b u e => by
  rw [f b (ne_of_none e n)]
  exact s b u e
theorem ss_refl : ∀ x : Addr, x ∈ ps → x ∈ ps := fun _ h => h
theorem ss_skip {qs : List Addr} (s : ∀ x, x ∈ qs → x ∈ ps) : ∀ x, x ∈ qs → x ∈ q :: ps := fun x h => List.mem_cons_of_mem _ (s x h)
theorem ss_keep {qs : List Addr} (s : ∀ x, x ∈ qs → x ∈ ps) : ∀ x, x ∈ q :: qs → x ∈ q :: ps := fun x h => (List.mem_cons.mp h).elim (fun z => by rw [z]; exact List.mem_cons_self ..) fun z => List.mem_cons_of_mem _ (s x z)
theorem nin_ss {qs : List Addr} (n : q ∉ ps) (s : ∀ x, x ∈ qs → x ∈ ps) : q ∉ qs := fun h => n (s q h)
end
/-! what comes back -/
section
variable {α τ : Type} {ps : List Addr} {H H' H0 : Hp} {Q : VK} {E : XK} {cl : Nat → Addr}
def RetI (f : τ → V) (H : Hp) (Q : VK) (r : τ) : Prop := ∀ H', Same H H' → Q (f r) H'
def RetK (ps : List Addr) (p : PTy τ) (H : Hp) (Q : VK) (r : τ) : Prop := ∀ H' v, Same H H' → p.rep (dels H' ps) v r → Q v H'
def RetO (ps : List Addr) (p : PTy α) (H : Hp) (Q : VK) (r : List α) : Prop := ∀ H' a vs, Same H H' → H a = none → H' a = some (.lst vs) → AllR p (dels H' (a :: ps)) vs r → r.length ≤ LIM → Q (.ref a) H'
def ErrK (ps : List Addr) (cl : Nat → Addr) (H : Hp) (E : XK) (er : PErr) : Prop := ∀ H' d, Same H H' → XDict (dels H' ps) d er.fs → E (.ref (cl er.cls)) d H'
theorem XDict.same {H H' : Hp} {d : Option Addr} {fs : List (Str × V)} (s : Same H H') (h : XDict H d fs) : XDict H' d fs := h.elim .inl fun ⟨dd, e, h⟩ => .inr ⟨dd, e, s _ _ h⟩
theorem errUp {ps' : List Addr} {er : PErr} (s : Same H0 H) (hs : ∀ x, x ∈ ps → x ∈ ps') (h : ErrK ps cl H0 E er) : ErrK ps' cl H E er := fun H' d s2 x => h H' d (s.trans s2) (x.same (Ss hs))
theorem raiseK {c : Nat} {f : Str} {v : V} (h : ErrK ps cl H0 E ⟨c, [(f, v)]⟩) (s : Same H0 H) (hp : ∀ x ∈ ps, H x ≠ none) : ∀ H' d, Same H H' → H d = none → H' d = some (.xd [(f, v)]) → E (.ref (cl c)) (some d) H' :=
  fun H' d s2 n e => h H' _ (s.trans s2) (.inr ⟨d, rfl, dels_at e (nin_of n hp)⟩)
theorem raise0 {c : Nat} (h : ErrK ps cl H0 E ⟨c, []⟩) (s : Same H0 H) : E (.ref (cl c)) none H := h H none s (.inl ⟨rfl, rfl⟩)
theorem mkO1n {K : PySem.W.Frag} {C : Addr} {f : Str} {v : V} {R : XK} (T : OexC K C) (hn : PySem.W.findIn K (.ref C) f = some none) (k : ∀ H' d, Same H H' → H d = none → H' d = some (.xd [(f, v)]) → R (.ref C) (some d) H') : MkO1 C (spI1 f K) [v] H R := by
  refine ⟨by show 1 ≤ 1000; omega, fun a ha => ⟨a, C, v, rfl, T, hn, upd_same, fun dx hd hne => ⟨rfl, dx, [(f, v)], upd_same, ?_, ?_, k _ dx ?_ ?_ upd_same⟩⟩⟩
  · rw [upd_ne hne, upd_same]
  · rw [upd_ne hne] at hd
    exact hd
  · rw [upd_ne hne] at hd
    intro b u e
    have hb : b ≠ a := ne_of_none e ha
    rw [upd_ne (ne_of_none e hd), del_ne hb, upd_ne hb, upd_ne (ne_of_none e hd), upd_ne hb]
    exact e
  · rw [upd_ne hne] at hd
    exact hd
theorem oFrzG {ps' : List Addr} {p : PTy α} {a : Addr} {vs : List V} {xs : List α} (e : H a = some (.lst vs)) (n : a ∉ ps') (hs : ∀ x, x ∈ ps' → x ∈ ps) (r : AllR p (dels H ps) vs xs) (l : xs.length ≤ LIM) : (pList p).rep (dels H ps') (.ref a) xs := ⟨a, vs, rfl, dels_at e n, r.mono (Ss hs), l⟩
theorem ne_nin {q q' : Addr} {l : List Addr} (n : q' ∉ l) (m : q ∈ l) : q ≠ q' := fun e => n (by rw [← e]; exact m)
theorem oFrz {p : PTy α} {a : Addr} {vs : List V} {xs : List α} (e : H a = some (.lst vs)) (n : a ∉ ps) (r : AllR p (dels H (a :: ps)) vs xs) (l : xs.length ≤ LIM) : (pList p).rep (dels H ps) (.ref a) xs := ⟨a, vs, rfl, dels_at e n, r.mono (Ss fun _ h => List.mem_cons_of_mem _ h), l⟩
end
/-! ### steps of the reading, by kinds -/
/-- a list or a tuple that stands in H, its members in W -/
def Sq {α : Type} (K : PySem.W.Frag) (p : PTy α) (H W : Hp) (v : V) (xs : List α) : Prop := ∃ a vs, v = .ref a ∧ SqA K H a vs ∧ AllR p W vs xs ∧ xs.length ≤ LIM
def Sl {α : Type} (K : PySem.W.Frag) (p : PTy α) (H W : Hp) (v : V) (xs : List α) : Prop := ∃ a vs, v = .ref a ∧ SqL K H a vs ∧ AllR p W vs xs ∧ xs.length ≤ LIM
def St' {α : Type} (K : PySem.W.Frag) (p : PTy α) (H W : Hp) (v : V) (xs : List α) : Prop := ∃ a vs, v = .ref a ∧ SqT K H a vs ∧ AllR p W vs xs ∧ xs.length ≤ LIM
section
variable {K : PySem.W.Frag} {α : Type} {p : PTy α} {H W W' : Hp} {v : V} {xs : List α} {a : Addr} {vs : List V} {Q : VK}
theorem Sl.sq (h : Sl K p H W v xs) : Sq K p H W v xs := let ⟨a, vs, e, h, r, l⟩ := h; ⟨a, vs, e, .inl h, r, l⟩
theorem St'.sq (h : St' K p H W v xs) : Sq K p H W v xs := let ⟨a, vs, e, h, r, l⟩ := h; ⟨a, vs, e, .inr h, r, l⟩
theorem slL (s : Same W H) (h : (pList p).rep W v xs) : Sl K p H W v xs := let ⟨a, vs, e, h, r, l⟩ := h; ⟨a, vs, e, SqL.of (s _ _ h), r, l⟩
theorem slF (s : Same W H) (h : (pFro K p).rep W v xs) : Sl K p H W v xs := let ⟨a, vs, e, h, r, l⟩ := h; ⟨a, vs, e, s.seq h, r, l⟩
theorem slO (e : H a = some (.lst vs)) (r : AllR p W vs xs) (l : xs.length ≤ LIM) : Sl K p H W (.ref a) xs := ⟨a, vs, rfl, SqL.of e, r, l⟩
theorem stV (s : Same W H) (h : (pVt K p).rep W v xs) : St' K p H W v xs := let ⟨a, vs, e, h, r, l⟩ := h; ⟨a, vs, e, s.seqT h, r, l⟩
theorem sqL (s : Same W H) (h : (pList p).rep W v xs) : Sq K p H W v xs := (slL s h).sq
theorem sqF (s : Same W H) (h : (pFro K p).rep W v xs) : Sq K p H W v xs := (slF s h).sq
theorem sqO (e : H a = some (.lst vs)) (r : AllR p W vs xs) (l : xs.length ≤ LIM) : Sq K p H W (.ref a) xs := (slO e r l).sq
theorem sqV (s : Same W H) (h : (pVt K p).rep W v xs) : Sq K p H W v xs := (stV s h).sq
theorem sqQ (s : Same W H) (h : (pSeq K p).rep W v xs) : Sq K p H W v xs := let ⟨a, vs, e, h, r, l⟩ := h; ⟨a, vs, e, h.same s, r, l⟩
theorem Sq.up (s : Same W W') (h : Sq K p H W v xs) : Sq K p H W' v xs := let ⟨a, vs, e, h, r, l⟩ := h; ⟨a, vs, e, h, r.mono s, l⟩
/-- a kind seen as another -/
theorem lFro (h : (pList p).rep H v xs) : (pFro K p).rep H v xs := let ⟨a, vs, e, h, r, l⟩ := h; ⟨a, vs, e, SqL.of h, r, l⟩
theorem lSeq (h : (pList p).rep H v xs) : (pSeq K p).rep H v xs := let ⟨a, vs, e, h, r, l⟩ := h; ⟨a, vs, e, .inl (SqL.of h), r, l⟩
theorem fSeq (h : (pFro K p).rep H v xs) : (pSeq K p).rep H v xs := let ⟨a, vs, e, h, r, l⟩ := h; ⟨a, vs, e, .inl h, r, l⟩
theorem vSeq (h : (pVt K p).rep H v xs) : (pSeq K p).rep H v xs := let ⟨a, vs, e, h, r, l⟩ := h; ⟨a, vs, e, .inr h, r, l⟩
theorem oList (e : H a = some (.lst vs)) (r : AllR p H vs xs) (l : xs.length ≤ LIM) : (pList p).rep H (.ref a) xs := ⟨a, vs, rfl, e, r, l⟩
theorem pList_len (h : (pList p).rep H v xs) : xs.length ≤ LIM := let ⟨_, _, _, _, _, l⟩ := h; l
theorem pFro_len (h : (pFro K p).rep H v xs) : xs.length ≤ LIM := let ⟨_, _, _, _, _, l⟩ := h; l
theorem pVt_len (h : (pVt K p).rep H v xs) : xs.length ≤ LIM := let ⟨_, _, _, _, _, l⟩ := h; l
theorem pSeq_len (h : (pSeq K p).rep H v xs) : xs.length ≤ LIM := let ⟨_, _, _, _, _, l⟩ := h; l
/-! index, length, slices -/
theorem inB_at {i : Int} (h : inB xs i) [Inhabited α] : ∃ j, ixN xs.length i = some j ∧ xs[j]? = some (ixG xs i) := by
  unfold inB at h
  obtain ⟨j, hj, hlt⟩ : ∃ j, ixN xs.length i = some j ∧ j < xs.length := by
    unfold ixN
    by_cases c : 0 ≤ i
    · rw [if_pos c, if_pos h.2]
      exact ⟨_, rfl, by omega⟩
    · rw [if_neg c, if_pos h.1]
      exact ⟨_, rfl, by omega⟩
  refine ⟨j, hj, ?_⟩
  unfold ixG atI
  rw [hj]
  show xs[j]? = some ((xs[j]?).getD default)
  rw [List.getElem?_eq_getElem hlt]
  rfl
theorem at_rep {i : Int} [Inhabited α] (hr : AllR p W vs xs) (hi : inB xs i) : ∃ u, atI vs i = some u ∧ p.rep W u (ixG xs i) := by
  obtain ⟨j, hj, e⟩ := inB_at hi
  obtain ⟨u, hu, ru⟩ := hr.get e
  refine ⟨u, ?_, ru⟩
  unfold atI
  rw [hr.len, hj]
  exact hu
theorem rIxU_a {i : Int} {u : V} (hs : SqA K H a vs) (ha : atI vs i = some u) (h : Q u H) : rIxU K (.ref a) (.int i) H Q := hs.elim (fun z => rIxU_l z ha h) fun z => rIxU_t z ha h
theorem ixS {i : Int} [Inhabited α] (hq : Sq K p H W v xs) (hi : inB xs i) (h : ∀ u, p.rep W u (ixG xs i) → Q u H) : rIxU K v (.int i) H Q := by
  obtain ⟨a, vs, rfl, hs, hr, _⟩ := hq
  obtain ⟨u, hu, ru⟩ := at_rep hr hi
  exact rIxU_a hs hu (h u ru)
theorem ixI {f : α → V} {i : Int} [Inhabited α] (hq : Sq K (pI f) H W v xs) (hi : inB xs i) (h : Q (f (ixG xs i)) H) : rIxU K v (.int i) H Q :=
  ixS hq hi fun u hu => by rw [show u = f (ixG xs i) from hu]; exact h
theorem rLen_a (hs : SqA K H a vs) (h : Q (.int vs.length) H) : EL.rLen K [.ref a] H Q := hs.elim (fun z => rLen_l z h) fun z => rLen_t z h
theorem lenS (hq : Sq K p H W v xs) (h : Q (.int (xs.length : Int)) H) : EL.rLen K [v] H Q := by
  obtain ⟨a, vs, rfl, hs, hr, _⟩ := hq
  rw [← hr.len] at h
  exact rLen_a hs h
theorem cut_len (xs : List α) (lo hi : Option Int) : (cutG xs lo hi).length ≤ xs.length := by
  unfold cutG
  rw [List.length_take, List.length_drop]
  omega
theorem sliceS {lo hi : Option Int} (hq : Sl K p H W v xs) (h : ∀ q H', H q = none → Same H H' → ∀ us, H' q = some (.lst us) → AllR p W us (cutG xs lo hi) → (cutG xs lo hi).length ≤ LIM → Q (.ref q) H') : rSlL K v lo hi H Q := by
  obtain ⟨a, vs, rfl, hs, hr, hl⟩ := hq
  exact rSlL_i hs fun q H' n s e => h q H' n s _ e (hr.cut lo hi) (Nat.le_trans (cut_len xs lo hi) hl)
theorem listS (hq : Sq K p H W v xs) (h : ∀ q H', H q = none → Same H H' → ∀ us, H' q = some (.lst us) → AllR p W us xs → xs.length ≤ LIM → Q (.ref q) H') : rListOf K [v] H Q := by
  obtain ⟨a, vs, rfl, hs, hr, hl⟩ := hq
  rcases hs with z | z
  · exact rListOf_l z fun q H' n s e => h q H' n s _ e hr hl
  · exact rListOf_t z fun q H' n s e => h q H' n s _ e hr hl
theorem tupL (hq : Sl K p H W v xs) (h : ∀ q H', H q = none → Same H H' → ∀ us, H' q = some (.tup us) → AllR p W us xs → xs.length ≤ LIM → Q (.ref q) H') : rTupleOf K [v] H Q := by
  obtain ⟨a, vs, rfl, hs, hr, hl⟩ := hq
  exact rTupleOf_l hs fun q H' n s e => h q H' n s _ e hr hl
theorem sumS (ns : List Int) (hq : Sl K pInt H W v ns) (h : Q (.int ns.sum) H) : rSum K [v] H Q := by
  obtain ⟨a, vs, rfl, hs, hr, _⟩ := hq
  rw [hr.imm] at hs
  exact rSum_i ns hs h
theorem allS (bs : List Bool) (hq : Sl K pBl H W v bs) (h : Q (.bl (bs.all id)) H) : rAll K [v] H Q := by
  obtain ⟨a, vs, rfl, hs, hr, _⟩ := hq
  rw [hr.imm] at hs
  exact rAll_i bs hs h
theorem anyS (bs : List Bool) (hq : Sl K pBl H W v bs) (h : Q (.bl (bs.any id)) H) : rAny K [v] H Q := by
  obtain ⟨a, vs, rfl, hs, hr, _⟩ := hq
  rw [hr.imm] at hs
  exact ⟨a, bs, rfl, hs, h⟩
theorem inS {i : Int} {ns : List Int} {w : World} (hq : Sq K pInt H W v ns) (h : Q (.bl (decide (i ∈ ns))) H) : rInU K w false (.int i) v H Q := by
  obtain ⟨a, vs, rfl, hs, hr, _⟩ := hq
  rw [hr.imm] at hs
  exact .inl ⟨a, _, rfl, hs, rfl, flat_ints, by rw [inV_ints]; exact h⟩
theorem notInS {i : Int} {ns : List Int} {w : World} (hq : Sq K pInt H W v ns) (h : Q (.bl (decide (i ∉ ns))) H) : rInU K w true (.int i) v H Q := by
  obtain ⟨a, vs, rfl, hs, hr, _⟩ := hq
  rw [hr.imm] at hs
  exact .inl ⟨a, _, rfl, hs, rfl, flat_ints, by rw [inV_ints, ← decide_not]; exact h⟩
end
end EL

namespace EL
open PySem PySem.Spec PyProof.Rows L2 Px
/-! ### capture of what is wanted -/
section
variable {σ : L2.St} {H : Hp}
theorem capT {c : TT} {R : Bool → Hp → Prop} (M : Bool → Hp → Prop) (hR : ∀ b H', M b H' → R b H') (h : (∀ b H', M b H' → R b H') → c σ H R) : c σ H R := h hR
theorem capV {c : TE} {Q : VK} (M : V → Hp → Prop) (hR : ∀ v H', M v H' → Q v H') (h : (∀ v H', M v H' → Q v H') → c σ H Q) : c σ H Q := h hR
theorem Br_two {b : Bool} {A B A' B' : Prop} (hw : Br b A B) (h1 : b = true → A → A') (h2 : b = false → B → B') : Br b A' B' := by
  cases b
  · exact Br_f (h2 rfl (by simpa [Br] using hw))
  · exact Br_t (h1 rfl (by simpa [Br] using hw))
/-- both ways of a test meet -/
theorem andJ {b c : Bool} {A : Prop} {R : Bool → Hp → Prop} (h : R (b && c) H) (ha : b = true → R c H → A) : Br b A (R false H) := by
  cases b
  · exact Br_f h
  · exact Br_t (ha rfl h)
theorem orJ {b c : Bool} {A : Prop} {R : Bool → Hp → Prop} (h : R (b || c) H) (ha : b = false → R c H → A) : Br b (R true H) A := by
  cases b
  · exact Br_f (ha rfl h)
  · exact Br_t h
theorem andJV {b c : Bool} {A : Prop} {Q : VK} (h : Q (.bl (b && c)) H) (ha : b = true → Q (.bl c) H → A) : Br b A (Q (.bl false) H) := by
  cases b
  · exact Br_f h
  · exact Br_t (ha rfl h)
theorem orJV {b c : Bool} {A : Prop} {Q : VK} (h : Q (.bl (b || c)) H) (ha : b = false → Q (.bl c) H → A) : Br b (Q (.bl true) H) A := by
  cases b
  · exact Br_f (ha rfl h)
  · exact Br_t h
theorem ifJ {τ : Type} {f : τ → V} {b : Bool} {x y : τ} {A B : Prop} {Q : VK} (h : Q (f (cond b x y)) H) (ha : b = true → Q (f x) H → A) (hb : b = false → Q (f y) H → B) : Br b A B := by
  cases b
  · exact Br_f (hb rfl h)
  · exact Br_t (ha rfl h)
end
section
variable {σ : L2.St} {H : Hp}
theorem joinT {c : TT} {R : Bool → Hp → Prop} {f : (Bool → Prop) → Prop} {k : Bool → Prop} (hw : wJoin f k) (M : Hp → Prop) (hR : ∀ b H', M H' → k b → R b H') (h : f k → (∀ b H', M H' → k b → R b H') → c σ H R) : c σ H R := h hw hR
theorem joinV {τ : Type} {c : TE} {Q : VK} {f : (τ → Prop) → Prop} {k : τ → Prop} (hw : wJoin f k) (M : τ → V → Hp → Prop) (hR : ∀ d v H', M d v H' → k d → Q v H') (h : f k → (∀ d v H', M d v H' → k d → Q v H') → c σ H Q) : c σ H Q := h hw hR
/-! pure parts -/
theorem tAndP {b c : Bool} {c1 c2 : TT} {R : Bool → Hp → Prop} (h1 : ∀ R : Bool → Hp → Prop, R b H → c1 σ H R) (h2 : b = true → ∀ R : Bool → Hp → Prop, R c H → c2 σ H R) (h : R (b && c) H) : tAnd c1 c2 σ H R := by
  refine tAnd_i (h1 _ ?_)
  cases b
  · exact Br_f h
  · exact Br_t (h2 rfl _ h)
theorem tOrP {b c : Bool} {c1 c2 : TT} {R : Bool → Hp → Prop} (h1 : ∀ R : Bool → Hp → Prop, R b H → c1 σ H R) (h2 : b = false → ∀ R : Bool → Hp → Prop, R c H → c2 σ H R) (h : R (b || c) H) : tOr c1 c2 σ H R := by
  refine tOr_i (h1 _ ?_)
  cases b
  · exact Br_f (h2 rfl _ h)
  · exact Br_t h
theorem tAndVP {b c : Bool} {c1 c2 : TE} {Q : VK} (h1 : ∀ R : VK, R (.bl b) H → c1 σ H R) (h2 : b = true → ∀ R : VK, R (.bl c) H → c2 σ H R) (h : Q (.bl (b && c)) H) : tAndV c1 c2 σ H Q := by
  refine tAndV_i (h1 _ (IsBl_i ?_))
  cases b
  · exact Br_f h
  · exact Br_t (h2 rfl _ h)
theorem tOrVP {b c : Bool} {c1 c2 : TE} {Q : VK} (h1 : ∀ R : VK, R (.bl b) H → c1 σ H R) (h2 : b = false → ∀ R : VK, R (.bl c) H → c2 σ H R) (h : Q (.bl (b || c)) H) : tOrV c1 c2 σ H Q := by
  refine tOrV_i (h1 _ (IsBl_i ?_))
  cases b
  · exact Br_f (h2 rfl _ h)
  · exact Br_t h
theorem tIfP {τ : Type} {f : τ → V} {b : Bool} {x y : τ} {c : TT} {ta tb : TE} {Q : VK} (h0 : ∀ R : Bool → Hp → Prop, R b H → c σ H R) (h1 : b = true → ∀ R : VK, R (f x) H → ta σ H R) (h2 : b = false → ∀ R : VK, R (f y) H → tb σ H R) (h : Q (f (cond b x y)) H) : tIf c ta tb σ H Q := by
  refine tIf_i (h0 _ ?_)
  cases b
  · exact Br_f (h2 rfl _ h)
  · exact Br_t (h1 rfl _ h)
end
/-! ### names -/
section
variable {σ σ' : L2.St} {H W : Hp} {i : Nat} {v : V} {R : L2.St → Hp → Prop} {τ : Type} {p : PTy τ} {e : τ} {k : τ → Prop} {f : τ → V}
theorem gN (hs : σ.set i (some v) = σ') (h : R σ' H) : gName i v σ H R := by rw [← hs] at h; exact h
theorem asgI (hw : wLet e k) (h : ∀ x, k x → R (σ.set i (some (f x))) H) : gName i (f e) σ H R := h e hw
theorem asgR (hw : wLet e k) (hr : p.rep W v e) (h : ∀ x, p.rep W v x → k x → R (σ.set i (some v)) H) : gName i v σ H R := h e hr hw
theorem cutW {S : Type} {t u : TS} {N : L2.St → Hp → Prop} {Rt : VK} {Bk Ct : L2.St → Hp → Prop} {f : (S → Prop) → Prop} {k : S → Prop} (hw : wJoin f k) (RS : S → L2.St → Hp → Prop) (h1 : f k → t ⟨fun σ' H' => ∃ s, RS s σ' H' ∧ k s, Rt, Bk, Ct⟩ σ H) (h2 : ∀ s σ' H', RS s σ' H' → k s → u ⟨N, Rt, Bk, Ct⟩ σ' H') : tCut t u ⟨N, Rt, Bk, Ct⟩ σ H :=
  ⟨_, h1 hw, fun σ' H' ⟨s, hr, hk⟩ => h2 s σ' H' hr hk⟩
end
/-! ### for -/
section
variable {σ : L2.St} {H : Hp} {wi : TI} {g : TG} {tb : TS} {N : L2.St → Hp → Prop} {Rt : VK} {Bk Ct : L2.St → Hp → Prop} {J : It} {n : Nat} {ok : Hp → Prop} {itm : Nat → V → Hp → Hp → Prop} {α S : Type}
/-- what the turns of a for reach -/
def nxS (RS : S → L2.St → Hp → Prop) (nx : S → Prop) : L2.St → Hp → Prop := fun σ H => ∃ s, RS s σ H ∧ nx s
theorem forW (Sr : Src J n ok itm) {xs : List α} (hn : n = xs.length) {f : α → S → (S → Prop) → (S → Prop) → Prop} {k : S → Prop} {s0 : S} (hw : wFor xs s0 f k)
    (RS : S → L2.St → Hp → Prop) (I : α → V → Hp → Hp → Prop) (hI : ∀ i x H H' d, xs[i]? = some d → itm i x H H' → I d x H H') (h0 : RS s0 σ H) (hok : ∀ s σ H, RS s σ H → ok H)
    (hs : ∀ d s σ H x H' (nx : S → Prop), RS s σ H → I d x H H' → f d s nx k → g x σ H' fun σ2 H2 => tb ⟨nxS RS nx, Rt, N, nxS RS nx⟩ σ2 H2)
    (hd : ∀ s σ H, RS s σ H → k s → N σ H) : ForB g tb ⟨N, Rt, Bk, Ct⟩ σ J H := by
  refine ⟨fun i m σ H => m = n - i ∧ i ≤ n ∧ ∃ s, RS s σ H ∧ wFor (xs.drop i) s f k, ⟨n, by simp, Nat.zero_le _, s0, h0, by rw [List.drop_zero]; exact hw⟩, ?_⟩
  rintro i m σ H ⟨rfl, hi, s, hr, hw⟩
  have q := hok s σ H hr
  by_cases hlt : i < n
  · have hx : i < xs.length := by omega
    rw [List.drop_eq_getElem_cons hx] at hw
    refine .inr ⟨Sr.go i H q hlt, nxS RS fun s' => wFor (xs.drop (i + 1)) s' f k, fun σ' H' ⟨s', hr', hw'⟩ => ⟨n - (i + 1), by omega, rfl, hlt, s', hr', hw'⟩, fun x H' y => ?_⟩
    exact hs _ s σ H x H' _ hr (hI i x H H' _ (List.getElem?_eq_getElem hx) (Sr.yld i H x H' q hlt y)) hw
  · have e : xs.length ≤ i := by omega
    rw [List.drop_eq_nil_of_le e] at hw
    exact .inl ⟨Sr.stop i H q (by omega), hd s σ H hr hw⟩
end
section
variable {σ : L2.St} {H W : Hp} {g : TG} {tb : TS} {N : L2.St → Hp → Prop} {Rt : VK} {Bk Ct : L2.St → Hp → Prop} {α β S : Type} {K : PySem.W.Frag} {p : PTy α} {pb : PTy β} {te : TE} {f : α → S → (S → Prop) → (S → Prop) → Prop} {k : S → Prop} {s0 : S} {xs : List α} {a b : Addr} {vs us : List V}
/-- what an item of a list is: nothing is made -/
def ItS (p : PTy α) (W : Hp) : α → V → Hp → Hp → Prop := fun d x H H' => H' = H ∧ p.rep W x d
theorem itmS (hr : AllR p W vs xs) (i : Nat) (x : V) (H H' : Hp) (d : α) (e : xs[i]? = some d) (h : itmL vs i x H H') : ItS p W d x H H' := by
  obtain ⟨rfl, hx⟩ := h
  obtain ⟨u, hu, ru⟩ := hr.get e
  rw [hx] at hu
  cases hu
  exact ⟨rfl, ru⟩
/-- over a list: RS must keep the list as it stands -/
theorem forL (hw : wFor xs s0 f k) (hr : AllR p W vs xs) (RS : S → L2.St → Hp → Prop) (h0 : RS s0 σ H) (hok : ∀ s σ H, RS s σ H → SqL K H a vs)
    (hs : ∀ d s σ H x (nx : S → Prop), RS s σ H → p.rep W x d → f d s nx k → g x σ H fun σ2 H2 => tb ⟨nxS RS nx, Rt, N, nxS RS nx⟩ σ2 H2)
    (hd : ∀ s σ H, RS s σ H → k s → N σ H) : ForB g tb ⟨N, Rt, Bk, Ct⟩ σ (Itl K a) H :=
  forW (srcL (K := K) (a := a) (xs := vs)) hr.len hw RS (ItS p W) (itmS hr) h0 hok (fun d s σ H x H' nx r ⟨e, i⟩ h => by rw [e]; exact hs d s σ H x nx r i h) hd
theorem forT (hw : wFor xs s0 f k) (hr : AllR p W vs xs) (RS : S → L2.St → Hp → Prop) (h0 : RS s0 σ H) (hok : ∀ s σ H, RS s σ H → SqT K H a vs)
    (hs : ∀ d s σ H x (nx : S → Prop), RS s σ H → p.rep W x d → f d s nx k → g x σ H fun σ2 H2 => tb ⟨nxS RS nx, Rt, N, nxS RS nx⟩ σ2 H2)
    (hd : ∀ s σ H, RS s σ H → k s → N σ H) : ForB g tb ⟨N, Rt, Bk, Ct⟩ σ (Itt K a) H :=
  forW (srcT (K := K) (a := a) (xs := vs)) hr.len hw RS (ItS p W) (itmS hr) h0 hok (fun d s σ H x H' nx r ⟨e, i⟩ h => by rw [e]; exact hs d s σ H x nx r i h) hd
/-- over a list or a tuple -/
theorem forQ (hte : ∀ R : V → Hp → Prop, R (.ref a) H → te σ H R) (hq : SqA K H a vs) (hw : wFor xs s0 f k) (hr : AllR p W vs xs) (RS : S → L2.St → Hp → Prop) (h0 : RS s0 σ H) (hok : ∀ s σ H', RS s σ H' → Same W H')
    (hW : SqA K W a vs) (hs : ∀ d s σ H x (nx : S → Prop), RS s σ H → p.rep W x d → f d s nx k → g x σ H fun σ2 H2 => tb ⟨nxS RS nx, Rt, N, nxS RS nx⟩ σ2 H2)
    (hd : ∀ s σ H, RS s σ H → k s → N σ H) : tFor (iU K te) g tb ⟨N, Rt, Bk, Ct⟩ σ H := by
  refine tFor_i ?_
  rcases hW with z | z
  · refine .inl (hte _ (WL_i vs (hq.elim (fun z => z) fun z2 => ?_) (forL hw hr RS h0 (fun s σ H' r => (hok s σ H' r).seq z) hs hd)))
    exact (hok _ _ _ h0).seq z
  · refine .inr (hte _ (WT_i vs ((hok _ _ _ h0).seqT z) (forT hw hr RS h0 (fun s σ H' r => (hok s σ H' r).seqT z) hs hd)))
/-- over a range -/
theorem forR {lo hi : Int} {f : Int → S → (S → Prop) → (S → Prop) → Prop} (hw : wFor (rangeL lo hi) s0 f k) (RS : S → L2.St → Hp → Prop) (h0 : RS s0 σ H)
    (hs : ∀ d s σ H (nx : S → Prop), RS s σ H → f d s nx k → g (.int d) σ H fun σ2 H2 => tb ⟨nxS RS nx, Rt, N, nxS RS nx⟩ σ2 H2)
    (hd : ∀ s σ H, RS s σ H → k s → N σ H) : ForB g tb ⟨N, Rt, Bk, Ct⟩ σ (Itr lo (hi - lo).toNat) H := by
  refine forW srcR (rangeL_len (lo := lo) (hi := hi)).symm hw RS (fun d x H H' => H' = H ∧ x = .int d) (fun i x H H' d e h => ?_) h0 (fun _ _ _ _ => trivial) (fun d s σ H x H' nx r ⟨e, i⟩ h => by rw [e, i]; exact hs d s σ H nx r h) hd
  obtain ⟨rfl, rfl⟩ := h
  refine ⟨rfl, ?_⟩
  obtain ⟨hi, _⟩ := List.getElem?_eq_some_iff.mp e
  rw [rangeL_len] at hi
  rw [rangeL_get hi] at e
  cases e
  rfl
theorem forR0 {hi : Int} {f : Int → S → (S → Prop) → (S → Prop) → Prop} (hw : wFor (rangeL 0 hi) s0 f k) (RS : S → L2.St → Hp → Prop) (h0 : RS s0 σ H)
    (hs : ∀ d s σ H (nx : S → Prop), RS s σ H → f d s nx k → g (.int d) σ H fun σ2 H2 => tb ⟨nxS RS nx, Rt, N, nxS RS nx⟩ σ2 H2)
    (hd : ∀ s σ H, RS s σ H → k s → N σ H) : ForB g tb ⟨N, Rt, Bk, Ct⟩ σ (Itr 0 hi.toNat) H := by
  have := forR (Bk := Bk) (Ct := Ct) (lo := 0) (hi := hi) hw RS h0 hs hd
  rw [Int.sub_zero] at this
  exact this
/-- what a pair made by enumerate or zip is -/
def ItP (pa : PTy α) (pb : PTy β) (W : Hp) : α × β → V → Hp → Hp → Prop := fun d x H H' => ∃ q y z, x = .ref q ∧ H q = none ∧ Same H H' ∧ H' q = some (.tup [y, z]) ∧ pa.rep W y d.1 ∧ pb.rep W z d.2
theorem forE {f : Int × α → S → (S → Prop) → (S → Prop) → Prop} (hw : wFor (enumL xs) s0 f k) (hr : AllR p W vs xs) (RS : S → L2.St → Hp → Prop) (h0 : RS s0 σ H) (hok : ∀ s σ H, RS s σ H → SqL K H a vs)
    (hs : ∀ d s σ H x H' (nx : S → Prop), RS s σ H → ItP pInt p W d x H H' → f d s nx k → g x σ H' fun σ2 H2 => tb ⟨nxS RS nx, Rt, N, nxS RS nx⟩ σ2 H2)
    (hd : ∀ s σ H, RS s σ H → k s → N σ H) : ForB g tb ⟨N, Rt, Bk, Ct⟩ σ (Ite K a) H := by
  refine forW (srcE (K := K) (a := a) (xs := vs)) (by rw [enumL_len, hr.len]) hw RS (ItP pInt p W) (fun i x H H' d e h => ?_) h0 hok hs hd
  obtain ⟨q, y, rfl, n, s, e2, hy⟩ := h
  obtain ⟨d', hd', rd⟩ := hr.getV hy
  rw [enumL_get hd'] at e
  cases e
  exact ⟨q, _, y, rfl, n, s, e2, rfl, rd⟩
theorem forET {f : Int × α → S → (S → Prop) → (S → Prop) → Prop} (hw : wFor (enumL xs) s0 f k) (hr : AllR p W vs xs) (RS : S → L2.St → Hp → Prop) (h0 : RS s0 σ H) (hok : ∀ s σ H, RS s σ H → SqT K H a vs)
    (hs : ∀ d s σ H x H' (nx : S → Prop), RS s σ H → ItP pInt p W d x H H' → f d s nx k → g x σ H' fun σ2 H2 => tb ⟨nxS RS nx, Rt, N, nxS RS nx⟩ σ2 H2)
    (hd : ∀ s σ H, RS s σ H → k s → N σ H) : ForB g tb ⟨N, Rt, Bk, Ct⟩ σ (IteT K a) H := by
  refine forW (srcET (K := K) (a := a) (xs := vs)) (by rw [enumL_len, hr.len]) hw RS (ItP pInt p W) (fun i x H H' d e h => ?_) h0 hok hs hd
  obtain ⟨q, y, rfl, n, s, e2, hy⟩ := h
  obtain ⟨d', hd', rd⟩ := hr.getV hy
  rw [enumL_get hd'] at e
  cases e
  exact ⟨q, _, y, rfl, n, s, e2, rfl, rd⟩
theorem forZ {ys : List β} {f : α × β → S → (S → Prop) → (S → Prop) → Prop} (hw : wFor (xs.zip ys) s0 f k) (hr : AllR p W vs xs) (hr2 : AllR pb W us ys) (RS : S → L2.St → Hp → Prop) (h0 : RS s0 σ H) (hok : ∀ s σ H, RS s σ H → SqL K H a vs ∧ SqL K H b us)
    (hs : ∀ d s σ H x H' (nx : S → Prop), RS s σ H → ItP p pb W d x H H' → f d s nx k → g x σ H' fun σ2 H2 => tb ⟨nxS RS nx, Rt, N, nxS RS nx⟩ σ2 H2)
    (hd : ∀ s σ H, RS s σ H → k s → N σ H) : ForB g tb ⟨N, Rt, Bk, Ct⟩ σ (Itz K a b) H := by
  refine forW (srcZ (K := K) (a := a) (b := b) (xs := vs) (ys := us)) (by rw [List.length_zip, hr.len, hr2.len]) hw RS (ItP p pb W) (fun i x H H' d e h => ?_) h0 hok hs hd
  obtain ⟨q, y, z, rfl, n, s, e2, hy, hz⟩ := h
  obtain ⟨d1, hd1, rd1⟩ := hr.getV hy
  obtain ⟨d2, hd2, rd2⟩ := hr2.getV hz
  rw [Px.zip_get hd1 hd2] at e
  cases e
  exact ⟨q, y, z, rfl, n, s, e2, rd1, rd2⟩
end
/-! ### while -/
theorem whileW {S : Type} {σ : L2.St} {H : Hp} {N : L2.St → Hp → Prop} {Rt : VK} {Bk Ct : L2.St → Hp → Prop} {c : TT} {t : TS} {s0 : S} {f : S → (S → Prop) → (S → Prop) → Prop} {k : S → Prop} (hw : wWhile s0 f k) (RS : S → L2.St → Hp → Prop) (h0 : RS s0 σ H)
    (hs : ∀ s σ H (nx : S → Prop) (WB : L2.St → Hp → Prop), RS s σ H → f s nx k → (∀ σ H, t ⟨nxS RS nx, Rt, N, nxS RS nx⟩ σ H → WB σ H) → c σ H fun b H1 => Br b (WB σ H1) (N σ H1)) : tWhile c t ⟨N, Rt, Bk, Ct⟩ σ H := by
  obtain ⟨W, ⟨m, w⟩, hw⟩ := hw
  refine ⟨fun m σ H => ∃ s, RS s σ H ∧ W m s, ⟨m, s0, h0, w⟩, ?_⟩
  rintro m σ H ⟨s, hr, w⟩
  refine hs s σ H _ (fun σ H1 => ∃ N1 : L2.St → Hp → Prop, (∀ σ' H', N1 σ' H' → ∃ m', m' < m ∧ ∃ s, RS s σ' H' ∧ W m' s) ∧ t ⟨N1, Rt, N, N1⟩ σ H1) hr (hw m s w) (fun σ H1 h => ⟨_, ?_, h⟩)
  rintro σ' H' ⟨s', hr', m', hm, w'⟩
  exact ⟨m', hm, s', hr', w'⟩
/-! ### comprehensions -/
section
variable {σ : L2.St} {H W : Hp} {g : TG} {tt : TT} {te : TE} {vs : List Nat} {Q : VK} {J : It} {n : Nat} {ok : Hp → Prop} {itm : Nat → V → Hp → Hp → Prop} {α β : Type} {pb : PTy β} {ps : List Addr}
/-- the state between the turns: zs are made, the rest is asked -/
def LcR (pb : PTy β) (H0 : Hp) (ps : List Addr) (L : Addr) (zs : List β) (H1 : Hp) : Prop := Same H0 H1 ∧ ∃ acc, H1 L = some (.lst acc) ∧ AllR pb (dels H1 (L :: ps)) acc zs
theorem lcW (Sr : Src J n ok itm) {xs : List α} (hn : n = xs.length) (hlim : n ≤ LIM) {f : α → (Option β → Prop) → Prop} {k : List β → Prop} (hw : wComp xs f k) (hps : ∀ q ∈ ps, H q ≠ none)
    (I : α → V → Hp → Hp → Prop) (hI : ∀ i x H H' d, xs[i]? = some d → itm i x H H' → I d x H H') (hok : ∀ H', Same H H' → ok H')
    (hs : ∀ L d x H1 H2 (nx : Option β → Prop), H L = none → Same H H1 → (∃ acc, H1 L = some (.lst acc)) → I d x H1 H2 → f d nx →
      ∀ (Y : V → Hp → Prop) (N : Hp → Prop), (∀ r v H3, Same H1 H3 → pb.rep (dels H3 (L :: ps)) v r → nx (some r) → Y v H3) → (∀ H3, Same H1 H3 → nx none → N H3) →
      g x (wipe σ vs) H2 fun σ2 H2 => wipe σ2 vs = wipe σ vs ∧ tt σ2 H2 fun b H3 => Br b (te σ2 H3 Y) (N H3))
    (hd : ∀ L H1 acc zs, H L = none → Same H H1 → H1 L = some (.lst acc) → AllR pb (dels H1 (L :: ps)) acc zs → zs.length ≤ LIM → k zs → Q (.ref L) H1) : LcB g tt te vs σ Q J H := by
  intro L hL
  have hLps : L ∉ ps := fun z => hps L z hL
  refine ⟨fun i m H1 => m = n - i ∧ i ≤ n ∧ ∃ zs : List β, zs.length ≤ i ∧ LcR pb H ps L zs H1 ∧ wComp (xs.drop i) f (fun ys => k (zs ++ ys)), ⟨n, by simp, Nat.zero_le _, [], Nat.le_refl _, ⟨Same.new hL, [], upd_same, .nil⟩, by rw [List.drop_zero]; exact hw⟩, ?_⟩
  rintro i m H1 ⟨rfl, hi, zs, hz, ⟨s1, acc, e1, r1⟩, hw⟩
  have q := hok H1 s1
  by_cases hlt : i < n
  · have hx : i < xs.length := by omega
    rw [List.drop_eq_getElem_cons hx] at hw
    refine .inr ⟨Sr.go i H1 q hlt, fun H3 => ∃ zs : List β, zs.length ≤ i + 1 ∧ LcR pb H ps L zs H3 ∧ wComp (xs.drop (i + 1)) f (fun ys => k (zs ++ ys)), fun H3 h3 => ⟨n - (i + 1), by omega, rfl, hlt, h3⟩, fun x H2 y => ?_⟩
    refine hs L _ x H1 H2 _ hL s1 ⟨acc, e1⟩ (hI i x H1 H2 _ (List.getElem?_eq_getElem hx) (Sr.yld i H1 x H2 q hlt y)) hw _ _ (fun r v H3 s3 hr h => ?_) (fun H3 s3 h => ?_)
    · have e3 := s3 _ _ e1
      refine ⟨acc, e3, Nat.lt_of_lt_of_le (by rw [r1.len]; omega) hlim, zs ++ [r], by rw [List.length_append, List.length_singleton]; omega, ⟨?_, acc ++ [v], upd_same, ?_⟩, ?_⟩
      · exact Same.upd (s1.trans s3) hL
      · have ee : dels (L2.upd H3 L (.lst (acc ++ [v]))) (L :: ps) = dels H3 (L :: ps) := dels_ext fun b hb => upd_ne fun e => hb (by rw [e]; exact List.mem_cons_self ..)
        rw [ee]
        exact (r1.mono (Sd _ s3)).app (.one hr)
      · simpa [List.append_assoc] using h
    · have e3 := s3 _ _ e1
      refine ⟨zs, by omega, ⟨s1.trans s3, acc, e3, r1.mono (Sd _ s3)⟩, ?_⟩
      simpa using h
  · have e : xs.length ≤ i := by omega
    rw [List.drop_eq_nil_of_le e] at hw
    refine .inl ⟨Sr.stop i H1 q (by omega), hd L H1 acc zs hL s1 e1 r1 (by omega) ?_⟩
    have hw' : k (zs ++ []) := hw
    rwa [List.append_nil] at hw'
end
section
variable {σ : L2.St} {H W : Hp} {g : TG} {tt : TT} {te : TE} {vs : List Nat} {Q : VK} {α β γ : Type} {pb : PTy β} {p : PTy α} {pc : PTy γ} {ps : List Addr} {K : PySem.W.Frag} {xs : List α} {a b : Addr} {us ws : List V}
  {f : α → (Option β → Prop) → Prop} {k : List β → Prop}
/-- a turn of a comprehension whose items are made by nothing -/
def LcT (pb : PTy β) (H : Hp) (ps : List Addr) (g : TG) (tt : TT) (te : TE) (vs : List Nat) (σ : L2.St) (f : (Option β → Prop) → Prop) (L : Addr) (x : V) (H1 H2 : Hp) : Prop :=
  ∀ (nx : Option β → Prop), f nx → ∀ (Y : V → Hp → Prop) (N : Hp → Prop), (∀ r v H3, Same H1 H3 → pb.rep (dels H3 (L :: ps)) v r → nx (some r) → Y v H3) → (∀ H3, Same H1 H3 → nx none → N H3) →
      g x (wipe σ vs) H2 fun σ2 H2 => wipe σ2 vs = wipe σ vs ∧ tt σ2 H2 fun b H3 => Br b (te σ2 H3 Y) (N H3)
def LcD (pb : PTy β) (H : Hp) (ps : List Addr) (Q : VK) (k : List β → Prop) : Prop := ∀ L H1 acc zs, H L = none → Same H H1 → H1 L = some (.lst acc) → AllR pb (dels H1 (L :: ps)) acc zs → zs.length ≤ LIM → k zs → Q (.ref L) H1
theorem lcL (hw : wComp xs f k) (hq : SqL K H a us) (hr : AllR p W us xs) (hl : xs.length ≤ LIM) (hps : ∀ q ∈ ps, H q ≠ none)
    (hs : ∀ L d x H1, H L = none → Same H H1 → (∃ acc, H1 L = some (.lst acc)) → p.rep W x d → LcT pb H ps g tt te vs σ (f d) L x H1 H1) (hd : LcD pb H ps Q k) : LcB g tt te vs σ Q (Itl K a) H :=
  lcW (srcL (K := K) (a := a) (xs := us)) hr.len (by rw [hr.len]; exact hl) hw hps (ItS p W) (itmS hr) (fun H' s => s.seq hq) (fun L d x H1 H2 nx n s e ⟨e2, i⟩ h => by rw [e2]; exact hs L d x H1 n s e i nx h) hd
theorem lcT (hw : wComp xs f k) (hq : SqT K H a us) (hr : AllR p W us xs) (hl : xs.length ≤ LIM) (hps : ∀ q ∈ ps, H q ≠ none)
    (hs : ∀ L d x H1, H L = none → Same H H1 → (∃ acc, H1 L = some (.lst acc)) → p.rep W x d → LcT pb H ps g tt te vs σ (f d) L x H1 H1) (hd : LcD pb H ps Q k) : LcB g tt te vs σ Q (Itt K a) H :=
  lcW (srcT (K := K) (a := a) (xs := us)) hr.len (by rw [hr.len]; exact hl) hw hps (ItS p W) (itmS hr) (fun H' s => s.seqT hq) (fun L d x H1 H2 nx n s e ⟨e2, i⟩ h => by rw [e2]; exact hs L d x H1 n s e i nx h) hd
theorem lcQ (hte : ∀ R : V → Hp → Prop, R (.ref a) H → te σ H R) {te2 : TE} (hw : wComp xs f k) (hq : SqA K H a us) (hr : AllR p W us xs) (hl : xs.length ≤ LIM) (hps : ∀ q ∈ ps, H q ≠ none)
    (hs : ∀ L d x H1, H L = none → Same H H1 → (∃ acc, H1 L = some (.lst acc)) → p.rep W x d → LcT pb H ps g tt te2 vs σ (f d) L x H1 H1) (hd : LcD pb H ps Q k) : tLc (iU K te) g tt te2 vs σ H Q := by
  refine tLc_i ?_
  rcases hq with z | z
  · exact .inl (hte _ (WL_i us z (lcL hw z hr hl hps hs hd)))
  · exact .inr (hte _ (WT_i us z (lcT hw z hr hl hps hs hd)))
theorem lcR {lo hi : Int} {f : Int → (Option β → Prop) → Prop} (hw : wComp (rangeL lo hi) f k) (hl : (hi - lo).toNat ≤ LIM) (hps : ∀ q ∈ ps, H q ≠ none)
    (hs : ∀ L d H1, H L = none → Same H H1 → (∃ acc, H1 L = some (.lst acc)) → LcT pb H ps g tt te vs σ (f d) L (.int d) H1 H1) (hd : LcD pb H ps Q k) : LcB g tt te vs σ Q (Itr lo (hi - lo).toNat) H := by
  refine lcW srcR (rangeL_len (lo := lo) (hi := hi)).symm hl hw hps (fun d x H H' => H' = H ∧ x = .int d) (fun i x H H' d e h => ?_) (fun _ _ => trivial) (fun L d x H1 H2 nx n s e ⟨e2, i⟩ h => by rw [e2, i]; exact hs L d H1 n s e nx h) hd
  obtain ⟨rfl, rfl⟩ := h
  refine ⟨rfl, ?_⟩
  obtain ⟨hi, _⟩ := List.getElem?_eq_some_iff.mp e
  rw [rangeL_len] at hi
  rw [rangeL_get hi] at e
  cases e
  rfl
theorem lcR0 {hi : Int} {f : Int → (Option β → Prop) → Prop} (hw : wComp (rangeL 0 hi) f k) (hl : hi.toNat ≤ LIM) (hps : ∀ q ∈ ps, H q ≠ none)
    (hs : ∀ L d H1, H L = none → Same H H1 → (∃ acc, H1 L = some (.lst acc)) → LcT pb H ps g tt te vs σ (f d) L (.int d) H1 H1) (hd : LcD pb H ps Q k) : LcB g tt te vs σ Q (Itr 0 hi.toNat) H := by
  have := lcR (lo := 0) (hi := hi) hw (by rw [Int.sub_zero]; exact hl) hps hs hd
  rw [Int.sub_zero] at this
  exact this
theorem lcE {f : Int × α → (Option β → Prop) → Prop} (hw : wComp (enumL xs) f k) (hq : SqL K H a us) (hr : AllR p W us xs) (hl : xs.length ≤ LIM) (hps : ∀ q ∈ ps, H q ≠ none)
    (hs : ∀ L d x H1 H2, H L = none → Same H H1 → (∃ acc, H1 L = some (.lst acc)) → ItP pInt p W d x H1 H2 → LcT pb H ps g tt te vs σ (f d) L x H1 H2) (hd : LcD pb H ps Q k) : LcB g tt te vs σ Q (Ite K a) H := by
  refine lcW (srcE (K := K) (a := a) (xs := us)) (by rw [enumL_len, hr.len]) (by rw [hr.len]; exact hl) hw hps (ItP pInt p W) (fun i x H H' d e h => ?_) (fun H' s => s.seq hq) (fun L d x H1 H2 nx n s e i h => hs L d x H1 H2 n s e i nx h) hd
  obtain ⟨q, y, rfl, n, s, e2, hy⟩ := h
  obtain ⟨d', hd', rd⟩ := hr.getV hy
  rw [enumL_get hd'] at e
  cases e
  exact ⟨q, _, y, rfl, n, s, e2, rfl, rd⟩
theorem lcET {f : Int × α → (Option β → Prop) → Prop} (hw : wComp (enumL xs) f k) (hq : SqT K H a us) (hr : AllR p W us xs) (hl : xs.length ≤ LIM) (hps : ∀ q ∈ ps, H q ≠ none)
    (hs : ∀ L d x H1 H2, H L = none → Same H H1 → (∃ acc, H1 L = some (.lst acc)) → ItP pInt p W d x H1 H2 → LcT pb H ps g tt te vs σ (f d) L x H1 H2) (hd : LcD pb H ps Q k) : LcB g tt te vs σ Q (IteT K a) H := by
  refine lcW (srcET (K := K) (a := a) (xs := us)) (by rw [enumL_len, hr.len]) (by rw [hr.len]; exact hl) hw hps (ItP pInt p W) (fun i x H H' d e h => ?_) (fun H' s => s.seqT hq) (fun L d x H1 H2 nx n s e i h => hs L d x H1 H2 n s e i nx h) hd
  obtain ⟨q, y, rfl, n, s, e2, hy⟩ := h
  obtain ⟨d', hd', rd⟩ := hr.getV hy
  rw [enumL_get hd'] at e
  cases e
  exact ⟨q, _, y, rfl, n, s, e2, rfl, rd⟩
theorem lcZ {ys : List γ} {f : α × γ → (Option β → Prop) → Prop} (hw : wComp (xs.zip ys) f k) (hq : SqL K H a us) (hq2 : SqL K H b ws) (hr : AllR p W us xs) (hr2 : AllR pc W ws ys) (hl : xs.length ≤ LIM) (hps : ∀ q ∈ ps, H q ≠ none)
    (hs : ∀ L d x H1 H2, H L = none → Same H H1 → (∃ acc, H1 L = some (.lst acc)) → ItP p pc W d x H1 H2 → LcT pb H ps g tt te vs σ (f d) L x H1 H2) (hd : LcD pb H ps Q k) : LcB g tt te vs σ Q (Itz K a b) H := by
  refine lcW (srcZ (K := K) (a := a) (b := b) (xs := us) (ys := ws)) (by rw [List.length_zip, hr.len, hr2.len]) (by rw [hr.len]; omega) hw hps (ItP p pc W) (fun i x H H' d e h => ?_) (fun H' s => ⟨s.seq hq, s.seq hq2⟩) (fun L d x H1 H2 nx n s e i h => hs L d x H1 H2 n s e i nx h) hd
  obtain ⟨q, y, z, rfl, n, s, e2, hy, hz⟩ := h
  obtain ⟨d1, hd1, rd1⟩ := hr.getV hy
  obtain ⟨d2, hd2, rd2⟩ := hr2.getV hz
  rw [Px.zip_get hd1 hd2] at e
  cases e
  exact ⟨q, y, z, rfl, n, s, e2, rd1, rd2⟩
end
/-! two clauses -/
section
variable {σ : L2.St} {H W : Hp} {wi1 : TI} {g g1 : TG} {tt tt1 : TT} {te : TE} {vs vs1 : List Nat} {Q : VK} {J J1 : It} {n n1 : Nat} {ok ok1 : Hp → Prop} {itm itm1 : Nat → V → Hp → Hp → Prop} {α β γ : Type} {pb : PTy β} {p : PTy α} {pc : PTy γ} {ps : List Addr} {K : PySem.W.Frag} {xs : List α} {a b : Addr} {us ws : List V}
  {k : List β → Prop}
theorem LcR.up {H0 H1 H2 : Hp} {L : Addr} {zs : List β} (s : Same H1 H2) (h : LcR pb H0 ps L zs H1) : LcR pb H0 ps L zs H2 := let ⟨s1, acc, e, r⟩ := h; ⟨s1.trans s, acc, s _ _ e, r.mono (Sd _ s)⟩
/-- a turn of the outer clause -/
def LcT2 (pb : PTy β) (H : Hp) (ps : List Addr) (wi1 : TI) (g g1 : TG) (tt tt1 : TT) (te : TE) (vs vs1 : List Nat) (σ : L2.St) (f : List β → (List β → Prop) → Prop) (L : Addr) (x : V) (H1 H2 : Hp) : Prop :=
  ∀ (zs : List β) (nx : List β → Prop), LcR pb H ps L zs H1 → zs.length ≤ LIM → f zs nx → ∀ (N : Hp → Prop), (∀ zs' H3, LcR pb H ps L zs' H3 → zs'.length ≤ LIM → nx zs' → N H3) →
      g x (wipe σ vs) H2 fun σ2 H2 => wipe σ2 vs = wipe σ vs ∧ tt σ2 H2 fun b H3 => Br b (wi1 σ2 H3 (LcIn L N g1 tt1 te vs1 σ2)) (N H3)
theorem lc2W (Sr : Src J n ok itm) {xs : List α} (hn : n = xs.length) {f : α → List β → (List β → Prop) → Prop} {k : List β → Prop} (hw : wComp2 xs f [] k) (hps : ∀ q ∈ ps, H q ≠ none)
    (I : α → V → Hp → Hp → Prop) (hI : ∀ i x H H' d, xs[i]? = some d → itm i x H H' → I d x H H') (hok : ∀ H', Same H H' → ok H')
    (hs : ∀ L d x H1 H2, H L = none → Same H H1 → I d x H1 H2 → LcT2 pb H ps wi1 g g1 tt tt1 te vs vs1 σ (f d) L x H1 H2) (hd : LcD pb H ps Q k) : LcB2 g tt wi1 g1 tt1 te vs vs1 σ Q J H := by
  intro L hL
  refine ⟨fun i m H1 => m = n - i ∧ i ≤ n ∧ ∃ zs : List β, zs.length ≤ LIM ∧ LcR pb H ps L zs H1 ∧ wComp2 (xs.drop i) f zs k, ⟨n, by simp, Nat.zero_le _, [], Nat.zero_le _, ⟨Same.new hL, [], upd_same, .nil⟩, by rw [List.drop_zero]; exact hw⟩, ?_⟩
  rintro i m H1 ⟨rfl, hi, zs, hz, r, hw⟩
  have q := hok H1 r.1
  by_cases hlt : i < n
  · have hx : i < xs.length := by omega
    rw [List.drop_eq_getElem_cons hx] at hw
    refine .inr ⟨Sr.go i H1 q hlt, fun H3 => ∃ zs : List β, zs.length ≤ LIM ∧ LcR pb H ps L zs H3 ∧ wComp2 (xs.drop (i + 1)) f zs k, fun H3 h3 => ⟨n - (i + 1), by omega, rfl, hlt, h3⟩, fun x H2 y => ?_⟩
    exact hs L _ x H1 H2 hL r.1 (hI i x H1 H2 _ (List.getElem?_eq_getElem hx) (Sr.yld i H1 x H2 q hlt y)) zs _ r hz hw _ (fun zs' H3 r3 l3 h => ⟨zs', l3, r3, h⟩)
  · have e : xs.length ≤ i := by omega
    rw [List.drop_eq_nil_of_le e] at hw
    obtain ⟨s1, acc, e1, r1⟩ := r
    exact .inl ⟨Sr.stop i H1 q (by omega), hd L H1 acc zs hL s1 e1 r1 hz hw⟩
theorem lcInW (Sr : Src J1 n1 ok1 itm1) {H4 : Hp} {L : Addr} {N : Hp → Prop} {ys : List γ} (hn : n1 = ys.length) {f : γ → (Option β → Prop) → Prop} {zs : List β} (hw : wCompA ys f zs k) (hL : H L = none)
    (h0 : LcR pb H ps L zs H4) (hz : zs.length ≤ LIM) (I : γ → V → Hp → Hp → Prop) (hI : ∀ i x H H' d, ys[i]? = some d → itm1 i x H H' → I d x H H') (hok : ∀ H', Same (dels H4 (L :: ps)) H' → ok1 H')
    (hs : ∀ d x H1 H2, Same (dels H4 (L :: ps)) (dels H1 (L :: ps)) → Same H H1 → (∃ acc, H1 L = some (.lst acc)) → I d x H1 H2 → LcT pb H ps g1 tt1 te vs1 σ (f d) L x H1 H2)
    (hd : ∀ zs' H3, LcR pb H ps L zs' H3 → zs'.length ≤ LIM → k zs' → N H3) : LcIn L N g1 tt1 te vs1 σ J1 H4 := by
  refine ⟨fun i m H1 => m = n1 - i ∧ i ≤ n1 ∧ ∃ zs : List β, zs.length ≤ LIM ∧ LcR pb H ps L zs H1 ∧ Same (dels H4 (L :: ps)) (dels H1 (L :: ps)) ∧ wCompA (ys.drop i) f zs k, ⟨n1, by simp, Nat.zero_le _, zs, hz, h0, Same.refl _, by rw [List.drop_zero]; exact hw⟩, ?_⟩
  rintro i m H1 ⟨rfl, hi, zs, hz, ⟨s1, acc, e1, r1⟩, sw, hw⟩
  have q := hok H1 (sw.trans Su)
  by_cases hlt : i < n1
  · have hx : i < ys.length := by omega
    rw [List.drop_eq_getElem_cons hx] at hw
    refine .inr ⟨Sr.go i H1 q hlt, fun H3 => ∃ zs : List β, zs.length ≤ LIM ∧ LcR pb H ps L zs H3 ∧ Same (dels H4 (L :: ps)) (dels H3 (L :: ps)) ∧ wCompA (ys.drop (i + 1)) f zs k, fun H3 h3 => ⟨n1 - (i + 1), by omega, rfl, hlt, h3⟩, fun x H2 y => ?_⟩
    refine hs _ x H1 H2 sw s1 ⟨acc, e1⟩ (hI i x H1 H2 _ (List.getElem?_eq_getElem hx) (Sr.yld i H1 x H2 q hlt y)) _ hw _ _ (fun r v H3 s3 hr h => ?_) (fun H3 s3 h => ?_)
    · have e3 := s3 _ _ e1
      have hb : zs.length + 1 ≤ LIM := h.1
      have ee : dels (L2.upd H3 L (.lst (acc ++ [v]))) (L :: ps) = dels H3 (L :: ps) := dels_ext fun b hb => upd_ne fun e => hb (by rw [e]; exact List.mem_cons_self ..)
      refine ⟨acc, e3, by rw [r1.len]; exact hb, zs ++ [r], by rw [List.length_append, List.length_singleton]; exact hb, ⟨Same.upd (s1.trans s3) hL, acc ++ [v], upd_same, ?_⟩, ?_, h.2⟩
      · rw [ee]
        exact (r1.mono (Sd _ s3)).app (.one hr)
      · rw [ee]
        exact sw.trans (Sd _ s3)
    · have e3 := s3 _ _ e1
      refine ⟨zs, hz, ⟨s1.trans s3, acc, e3, r1.mono (Sd _ s3)⟩, sw.trans (Sd _ s3), ?_⟩
      have := h.2
      simpa using this
  · have e : ys.length ≤ i := by omega
    rw [List.drop_eq_nil_of_le e] at hw
    exact .inl ⟨Sr.stop i H1 q (by omega), hd zs H1 ⟨s1, acc, e1, r1⟩ hz hw⟩
theorem lc2L {f : α → List β → (List β → Prop) → Prop} (hw : wComp2 xs f [] k) (hq : SqL K H a us) (hr : AllR p W us xs) (hps : ∀ q ∈ ps, H q ≠ none)
    (hs : ∀ L d x H1, H L = none → Same H H1 → p.rep W x d → LcT2 pb H ps wi1 g g1 tt tt1 te vs vs1 σ (f d) L x H1 H1) (hd : LcD pb H ps Q k) : LcB2 g tt wi1 g1 tt1 te vs vs1 σ Q (Itl K a) H :=
  lc2W (srcL (K := K) (a := a) (xs := us)) hr.len hw hps (ItS p W) (itmS hr) (fun H' s => s.seq hq) (fun L d x H1 H2 n s ⟨e2, i⟩ => by rw [e2]; exact hs L d x H1 n s i) hd
theorem lc2T {f : α → List β → (List β → Prop) → Prop} (hw : wComp2 xs f [] k) (hq : SqT K H a us) (hr : AllR p W us xs) (hps : ∀ q ∈ ps, H q ≠ none)
    (hs : ∀ L d x H1, H L = none → Same H H1 → p.rep W x d → LcT2 pb H ps wi1 g g1 tt tt1 te vs vs1 σ (f d) L x H1 H1) (hd : LcD pb H ps Q k) : LcB2 g tt wi1 g1 tt1 te vs vs1 σ Q (Itt K a) H :=
  lc2W (srcT (K := K) (a := a) (xs := us)) hr.len hw hps (ItS p W) (itmS hr) (fun H' s => s.seqT hq) (fun L d x H1 H2 n s ⟨e2, i⟩ => by rw [e2]; exact hs L d x H1 n s i) hd
theorem lc2R {lo hi : Int} {f : Int → List β → (List β → Prop) → Prop} (hw : wComp2 (rangeL lo hi) f [] k) (hps : ∀ q ∈ ps, H q ≠ none)
    (hs : ∀ L d H1, H L = none → Same H H1 → LcT2 pb H ps wi1 g g1 tt tt1 te vs vs1 σ (f d) L (.int d) H1 H1) (hd : LcD pb H ps Q k) : LcB2 g tt wi1 g1 tt1 te vs vs1 σ Q (Itr lo (hi - lo).toNat) H := by
  refine lc2W srcR (rangeL_len (lo := lo) (hi := hi)).symm hw hps (fun d x H H' => H' = H ∧ x = .int d) (fun i x H H' d e h => ?_) (fun _ _ => trivial) (fun L d x H1 H2 n s ⟨e2, i⟩ => by rw [e2, i]; exact hs L d H1 n s) hd
  obtain ⟨rfl, rfl⟩ := h
  refine ⟨rfl, ?_⟩
  obtain ⟨hi, _⟩ := List.getElem?_eq_some_iff.mp e
  rw [rangeL_len] at hi
  rw [rangeL_get hi] at e
  cases e
  rfl
theorem lc2R0 {hi : Int} {f : Int → List β → (List β → Prop) → Prop} (hw : wComp2 (rangeL 0 hi) f [] k) (hps : ∀ q ∈ ps, H q ≠ none)
    (hs : ∀ L d H1, H L = none → Same H H1 → LcT2 pb H ps wi1 g g1 tt tt1 te vs vs1 σ (f d) L (.int d) H1 H1) (hd : LcD pb H ps Q k) : LcB2 g tt wi1 g1 tt1 te vs vs1 σ Q (Itr 0 hi.toNat) H := by
  have := lc2R (lo := 0) (hi := hi) hw hps hs hd
  rw [Int.sub_zero] at this
  exact this
theorem lcInL {ys : List γ} {f : γ → (Option β → Prop) → Prop} {H4 : Hp} {L : Addr} {N : Hp → Prop} {zs : List β} (hw : wCompA ys f zs k) (hL : H L = none) (h0 : LcR pb H ps L zs H4) (hz : zs.length ≤ LIM)
    (hq : SqL K (dels H4 (L :: ps)) a us) (hr : AllR pc W us ys)
    (hs : ∀ d x H1, Same (dels H4 (L :: ps)) (dels H1 (L :: ps)) → Same H H1 → (∃ acc, H1 L = some (.lst acc)) → pc.rep W x d → LcT pb H ps g1 tt1 te vs1 σ (f d) L x H1 H1)
    (hd : ∀ zs' H3, LcR pb H ps L zs' H3 → zs'.length ≤ LIM → k zs' → N H3) : LcIn L N g1 tt1 te vs1 σ (Itl K a) H4 :=
  lcInW (srcL (K := K) (a := a) (xs := us)) hr.len hw hL h0 hz (ItS pc W) (itmS hr) (fun H' s => s.seq hq) (fun d x H1 H2 s1 s2 e ⟨e2, i⟩ => by rw [e2]; exact hs d x H1 s1 s2 e i) hd
theorem lcInT {ys : List γ} {f : γ → (Option β → Prop) → Prop} {H4 : Hp} {L : Addr} {N : Hp → Prop} {zs : List β} (hw : wCompA ys f zs k) (hL : H L = none) (h0 : LcR pb H ps L zs H4) (hz : zs.length ≤ LIM)
    (hq : SqT K (dels H4 (L :: ps)) a us) (hr : AllR pc W us ys)
    (hs : ∀ d x H1, Same (dels H4 (L :: ps)) (dels H1 (L :: ps)) → Same H H1 → (∃ acc, H1 L = some (.lst acc)) → pc.rep W x d → LcT pb H ps g1 tt1 te vs1 σ (f d) L x H1 H1)
    (hd : ∀ zs' H3, LcR pb H ps L zs' H3 → zs'.length ≤ LIM → k zs' → N H3) : LcIn L N g1 tt1 te vs1 σ (Itt K a) H4 :=
  lcInW (srcT (K := K) (a := a) (xs := us)) hr.len hw hL h0 hz (ItS pc W) (itmS hr) (fun H' s => s.seqT hq) (fun d x H1 H2 s1 s2 e ⟨e2, i⟩ => by rw [e2]; exact hs d x H1 s1 s2 e i) hd
theorem lcInR {lo hi : Int} {f : Int → (Option β → Prop) → Prop} {H4 : Hp} {L : Addr} {N : Hp → Prop} {zs : List β} (hw : wCompA (rangeL lo hi) f zs k) (hL : H L = none) (h0 : LcR pb H ps L zs H4) (hz : zs.length ≤ LIM)
    (hs : ∀ d H1, Same (dels H4 (L :: ps)) (dels H1 (L :: ps)) → Same H H1 → (∃ acc, H1 L = some (.lst acc)) → LcT pb H ps g1 tt1 te vs1 σ (f d) L (.int d) H1 H1)
    (hd : ∀ zs' H3, LcR pb H ps L zs' H3 → zs'.length ≤ LIM → k zs' → N H3) : LcIn L N g1 tt1 te vs1 σ (Itr lo (hi - lo).toNat) H4 := by
  refine lcInW srcR (rangeL_len (lo := lo) (hi := hi)).symm hw hL h0 hz (fun d x H H' => H' = H ∧ x = .int d) (fun i x H H' d e h => ?_) (fun _ _ => trivial) (fun d x H1 H2 s1 s2 ea ⟨e2, i⟩ => by rw [e2, i]; exact hs d H1 s1 s2 ea) hd
  obtain ⟨rfl, rfl⟩ := h
  refine ⟨rfl, ?_⟩
  obtain ⟨hi, _⟩ := List.getElem?_eq_some_iff.mp e
  rw [rangeL_len] at hi
  rw [rangeL_get hi] at e
  cases e
  rfl
theorem lcInR0 {hi : Int} {f : Int → (Option β → Prop) → Prop} {H4 : Hp} {L : Addr} {N : Hp → Prop} {zs : List β} (hw : wCompA (rangeL 0 hi) f zs k) (hL : H L = none) (h0 : LcR pb H ps L zs H4) (hz : zs.length ≤ LIM)
    (hs : ∀ d H1, Same (dels H4 (L :: ps)) (dels H1 (L :: ps)) → Same H H1 → (∃ acc, H1 L = some (.lst acc)) → LcT pb H ps g1 tt1 te vs1 σ (f d) L (.int d) H1 H1)
    (hd : ∀ zs' H3, LcR pb H ps L zs' H3 → zs'.length ≤ LIM → k zs' → N H3) : LcIn L N g1 tt1 te vs1 σ (Itr 0 hi.toNat) H4 := by
  have := lcInR (lo := 0) (hi := hi) hw hL h0 hz hs hd
  rw [Int.sub_zero] at this
  exact this
end
end EL

namespace EL
open PySem PySem.Spec PyProof.Rows L2 Px
/-! ### own lists changed -/
section
variable {K : PySem.W.Frag} {α : Type} {p : PTy α} {H W : Hp} {q : Addr} {xs : List α} {vs : List V} {y : V} {d : α} {Q : VK}
theorem appO (e : H q = some (.lst vs)) (r : AllR p W vs xs) (hl : xs.length < LIM) (hy : p.rep W y d)
    (h : ∀ H', Off q H H' → ∀ us, H' q = some (.lst us) → AllR p W us (xs ++ [d]) → (xs ++ [d]).length ≤ LIM → Q .non H') : rAppend (.ref q) [y] H Q :=
  ⟨q, vs, y, rfl, rfl, e, by rw [r.len]; exact hl, h _ off_upd _ upd_same (r.app (.one hy)) (by rw [List.length_append, List.length_singleton]; exact hl)⟩
theorem ixN_lt {n : Nat} {i : Int} {j : Nat} (h : ixN n i = some j) : j < n := (ixN_seq h).2.1
theorem setG_len {i : Int} : (setG xs i d).length = xs.length := by
  unfold setG
  split
  · rw [List.length_set]
  · rfl
theorem setO [Inhabited α] {i : Int} {R : Hp → Prop} (e : H q = some (.lst vs)) (r : AllR p W vs xs) (hl : xs.length ≤ LIM) (hi : inB xs i) (hy : p.rep W y d)
    (h : ∀ H', Off q H H' → ∀ us, H' q = some (.lst us) → AllR p W us (setG xs i d) → (setG xs i d).length ≤ LIM → R H') : SubE rSetU (.ref q) (.int i) y H R := by
  obtain ⟨j, hj, _⟩ := inB_at hi
  refine .inl ⟨q, vs, i, j, rfl, rfl, e, by rw [r.len]; exact hj, h _ off_upd _ upd_same ?_ (by rw [setG_len]; exact hl)⟩
  unfold setG
  rw [hj]
  exact r.set hy j
theorem popO [Inhabited α] (e : H q = some (.lst vs)) (r : AllR p W vs xs) (hl : xs.length ≤ LIM) (hn : 0 < xs.length)
    (h : ∀ H' u, Off q H H' → p.rep W u (ixG xs (-1)) → ∀ us, H' q = some (.lst us) → AllR p W us xs.dropLast → xs.dropLast.length ≤ LIM → Q u H') : rPop (.ref q) [] H Q := by
  obtain ⟨j, hj, hx⟩ := inB_at (xs := xs) (i := -1) ⟨by omega, by omega⟩
  have hj2 : j = xs.length - 1 := by
    unfold ixN at hj
    rw [if_neg (by omega), if_pos (by omega)] at hj
    have := Option.some.inj hj
    omega
  obtain ⟨u, hu, ru⟩ := r.get hx
  refine ⟨q, vs, u, rfl, rfl, e, by rw [r.len, ← hj2]; exact hu, h _ u off_upd ru _ upd_same ?_ (by rw [List.length_dropLast]; omega)⟩
  rw [List.dropLast_eq_take, List.dropLast_eq_take, r.len]
  exact r.take _
theorem revO (e : H q = some (.lst vs)) (r : AllR p W vs xs) (hl : xs.length ≤ LIM)
    (h : ∀ H', Off q H H' → ∀ us, H' q = some (.lst us) → AllR p W us xs.reverse → xs.reverse.length ≤ LIM → Q .non H') : rReverse (.ref q) [] H Q :=
  ⟨q, vs, rfl, rfl, e, h _ off_upd _ upd_same r.rev (by rw [List.length_reverse]; exact hl)⟩
end
/-! ### by data: == -/
section
variable (K : PySem.W.Frag)
structure PDat {τ : Type} [DecidableEq τ] (p : PTy τ) where
  dat : τ → PyData
  n : Nat
  ok : τ → Prop
  dp : ∀ {H : Hp} {v : V} {d : τ}, p.rep H v d → Dp K H v (dat d)
  sh : ∀ {d : τ}, ok d → Sh n (dat d)
  inj : ∀ a b : τ, PyData.eqv (dat a) (dat b) = decide (a = b)
def datInt : PDat K pInt := ⟨.int, 0, fun _ => True, fun h => by cases h; exact .int _, fun _ => sh_int, fun a b => by
  show (a == b) = decide (a = b)
  rw [Bool.eq_iff_iff]
  simp⟩
def datBl : PDat K pBl := ⟨.bool, 0, fun _ => True, fun h => by cases h; exact .bl _, fun _ => sh_bool, fun a b => by cases a <;> cases b <;> decide +kernel⟩
def datStr : PDat K pStr := ⟨.str, 0, fun x => (PyData.str x).canLay0 = true, fun h => by cases h; exact .str _, fun h => sh_str h, fun a b => by
  show (a == b) = decide (a = b)
  rw [Bool.eq_iff_iff]
  simp⟩
def datNon : PDat K pNon := ⟨fun _ => .none, 0, fun _ => True, fun h => by cases h; exact .non, fun _ => sh_none, fun a b => by cases a; cases b; decide +kernel⟩
variable {K}
theorem dpAll_of {α : Type} [DecidableEq α] {p : PTy α} (D : PDat K p) {H : Hp} {vs : List V} {ds : List α} (h : AllR p H vs ds) : DpAll K H vs (ds.map D.dat) := by
  induction h with
  | nil => exact .nil
  | cons h _ ih => exact .cons (D.dp h) ih
theorem eqvAll_of {α : Type} [DecidableEq α] {p : PTy α} (D : PDat K p) : ∀ a b : List α, PyData.eqvAll (a.map D.dat) (b.map D.dat) = decide (a = b)
  | [], [] => rfl
  | [], _ :: _ => by simp [PyData.eqvAll]
  | _ :: _, [] => by simp [PyData.eqvAll]
  | x :: a, y :: b => by
    rw [List.map_cons, List.map_cons, PyData.eqvAll, eqvAll_of D a b, D.inj, Bool.eq_iff_iff]
    simp
variable (K)
def datList {α : Type} [DecidableEq α] {p : PTy α} (D : PDat K p) : PDat K (pList p) := ⟨fun ds => .list (ds.map D.dat), D.n + 1, fun ds => ∀ d ∈ ds, D.ok d, fun ⟨a, vs, e, h, r, _⟩ => by rw [e]; exact .lst (SqL.of h) (dpAll_of D r), fun h => sh_lst (shA_all fun d hd => by
    obtain ⟨x, hx, rfl⟩ := List.mem_map.mp hd
    exact D.sh (h x hx)), fun a b => eqvAll_of D a b⟩
def datFro {α : Type} [DecidableEq α] {p : PTy α} (D : PDat K p) : PDat K (pFro K p) := ⟨fun ds => .list (ds.map D.dat), D.n + 1, fun ds => ∀ d ∈ ds, D.ok d, fun ⟨a, vs, e, h, r, _⟩ => by rw [e]; exact .lst h (dpAll_of D r), fun h => sh_lst (shA_all fun d hd => by
    obtain ⟨x, hx, rfl⟩ := List.mem_map.mp hd
    exact D.sh (h x hx)), fun a b => eqvAll_of D a b⟩
def datVt {α : Type} [DecidableEq α] {p : PTy α} (D : PDat K p) : PDat K (pVt K p) := ⟨fun ds => .tuple (ds.map D.dat), D.n + 1, fun ds => ∀ d ∈ ds, D.ok d, fun ⟨a, vs, e, h, r, _⟩ => by rw [e]; exact .tup h (dpAll_of D r), fun h => sh_tup (shA_all fun d hd => by
    obtain ⟨x, hx, rfl⟩ := List.mem_map.mp hd
    exact D.sh (h x hx)), fun a b => eqvAll_of D a b⟩
structure RDat {τ : Type} [DecidableEq τ] (r : PRow τ) where
  dat : τ → List PyData
  n : Nat
  ok : τ → Prop
  dp : ∀ {H : Hp} {vs : List V} {d : τ}, r.rep H vs d → DpAll K H vs (dat d)
  sh : ∀ {d : τ}, ok d → ShA n (dat d)
  inj : ∀ a b : τ, PyData.eqvAll (dat a) (dat b) = decide (a = b)
def rdNil : RDat K rNil := ⟨fun _ => [], 0, fun _ => True, fun h => by cases h; exact .nil, fun _ => shA_nil, fun a b => by cases a; cases b; rfl⟩
def rdOne {α : Type} [DecidableEq α] {p : PTy α} (D : PDat K p) : RDat K (rOne p) := ⟨fun d => [D.dat d], D.n, D.ok, fun ⟨v, e, h⟩ => by rw [e]; exact .cons (D.dp h) .nil, fun h => shA_cons (D.sh h) shA_nil, fun a b => by
  show (PyData.eqv (D.dat a) (D.dat b) && true) = _
  rw [D.inj, Bool.and_true]⟩
theorem Sh.le {n m : Nat} {d : PyData} (h : Sh n d) (l : n ≤ m) : Sh m d := ⟨h.1, Nat.le_trans h.2 l⟩
theorem ShA.le {n m : Nat} {d : List PyData} (h : ShA n d) (l : n ≤ m) : ShA m d := ⟨h.1, Nat.le_trans h.2 l⟩
def rdCons {α β : Type} [DecidableEq α] [DecidableEq β] {p : PTy α} {r : PRow β} (D : PDat K p) (R : RDat K r) : RDat K (rCons p r) := ⟨fun d => D.dat d.1 :: R.dat d.2, max D.n R.n, fun d => D.ok d.1 ∧ R.ok d.2, fun ⟨v, w, e, h, h2⟩ => by rw [e]; exact .cons (D.dp h) (R.dp h2),
  fun h => shA_cons ((D.sh h.1).le (Nat.le_max_left ..)) ((R.sh h.2).le (Nat.le_max_right ..)), fun a b => by
  obtain ⟨a1, a2⟩ := a
  obtain ⟨b1, b2⟩ := b
  show (PyData.eqv (D.dat a1) (D.dat b1) && PyData.eqvAll (R.dat a2) (R.dat b2)) = _
  rw [D.inj, R.inj, Bool.eq_iff_iff]
  simp⟩
def datTup {τ : Type} [DecidableEq τ] {r : PRow τ} (R : RDat K r) : PDat K (pTup K r) := ⟨fun d => .tuple (R.dat d), R.n + 1, R.ok, fun ⟨a, vs, e, h, q⟩ => by rw [e]; exact .tup h (R.dp q), fun h => sh_tup (R.sh h), fun a b => R.inj a b⟩
variable {K}
theorem eqS {τ : Type} [DecidableEq τ] {p : PTy τ} (D : PDat K p) {H : Hp} {v u : V} {a b : τ} {Q : VK} (h1 : p.rep H v a) (h2 : p.rep H u b) (o1 : D.ok a) (o2 : D.ok b) (h : Q (.bl (decide (a = b))) H) (hn : D.n ≤ 64 := by exact Nat.le_of_ble_eq_true rfl) : rEqU K v u H Q :=
  eqD_i (D.dp h1) (D.dp h2) ((D.sh o1).shaped hn) ((D.sh o2).shaped hn) (by rw [D.inj]; exact h)
theorem neS {τ : Type} [DecidableEq τ] {p : PTy τ} (D : PDat K p) {H : Hp} {v u : V} {a b : τ} {Q : VK} (h1 : p.rep H v a) (h2 : p.rep H u b) (o1 : D.ok a) (o2 : D.ok b) (h : Q (.bl (!decide (a = b))) H) (hn : D.n ≤ 64 := by exact Nat.le_of_ble_eq_true rfl) : rNeU K v u H Q :=
  neD_i (D.dp h1) (D.dp h2) ((D.sh o1).shaped hn) ((D.sh o2).shaped hn) (by rw [D.inj]; exact h)
/-- a list or a tuple of other make: never equal -/
theorem eqX {τ ρ : Type} [DecidableEq τ] [DecidableEq ρ] {p : PTy τ} {q : PTy ρ} (D : PDat K p) (D2 : PDat K q) {H : Hp} {v u : V} {a : τ} {b : ρ} {Q : VK} (h1 : p.rep H v a) (h2 : q.rep H u b) (o1 : D.ok a) (o2 : D2.ok b) (h : Q (.bl (PyData.eqv (D.dat a) (D2.dat b))) H) (hn : D.n ≤ 64 := by exact Nat.le_of_ble_eq_true rfl) (hn2 : D2.n ≤ 64 := by exact Nat.le_of_ble_eq_true rfl) : rEqU K v u H Q :=
  eqD_i (D.dp h1) (D2.dp h2) ((D.sh o1).shaped hn) ((D2.sh o2).shaped hn2) h
theorem neX {τ ρ : Type} [DecidableEq τ] [DecidableEq ρ] {p : PTy τ} {q : PTy ρ} (D : PDat K p) (D2 : PDat K q) {H : Hp} {v u : V} {a : τ} {b : ρ} {Q : VK} (h1 : p.rep H v a) (h2 : q.rep H u b) (o1 : D.ok a) (o2 : D2.ok b) (h : Q (.bl (!PyData.eqv (D.dat a) (D2.dat b))) H) (hn : D.n ≤ 64 := by exact Nat.le_of_ble_eq_true rfl) (hn2 : D2.n ≤ 64 := by exact Nat.le_of_ble_eq_true rfl) : rNeU K v u H Q :=
  neD_i (D.dp h1) (D2.dp h2) ((D.sh o1).shaped hn) ((D2.sh o2).shaped hn2) h
end
/-! ### values at an operator -/
section
variable {K : PySem.W.Frag} {H : Hp} {Q : VK}
theorem rNeg_i {i : Int} (h : Q (.int (-i)) H) : rU (fun i => .int (-i)) (.int i) H Q := ⟨i, rfl, h⟩
theorem eq_non {x : V} (hx : scal x .non = true) (h : Q (.bl (decide (x = .non))) H) : rEqU K x .non H Q := .inl ⟨hx, h⟩
theorem optV_non {o : Option Int} : decide (optV o = V.non) = decide (o = none) := by cases o <;> rfl
end
end EL

namespace EL
open PySem PySem.Spec PyProof.Rows L2 Px
section
variable {σ σ' : L2.St} {H H' W W' : Hp} {i n : Nat} {v u : V} {R : L2.St → Hp → Prop} {τ S α β : Type} {p : PTy τ} {e : τ} {k : τ → Prop} {f : τ → V} {K : PySem.W.Frag} {Q : VK}
theorem nxS_i {RS : S → L2.St → Hp → Prop} {nx : S → Prop} {s : S} (h : RS s σ H) (hn : nx s) : nxS RS nx σ H := ⟨s, h, hn⟩
theorem asgIL {g : τ → L2.St} (hw : wLet e k) (hs : ∀ x, σ.set i (some (f x)) = g x) (h : ∀ x, k x → R (g x) H) : gName i (f e) σ H R := by
  have q := h e hw
  rw [← hs] at q
  exact q
theorem asgRL (hw : wLet e k) (hr : p.rep W v e) (hs : σ.set i (some v) = σ') (h : ∀ x, p.rep W v x → k x → R σ' H) : gName i v σ H R := by
  have q := h e hr hw
  rw [← hs] at q
  exact q
theorem letO {p : PTy α} {us : List V} {e : List α} {k : List α → Prop} (hw : wLet e k) (hr : AllR p W us e) (hl : e.length ≤ LIM) : ∃ x, AllR p W us x ∧ x.length ≤ LIM ∧ k x := ⟨e, hr, hl, hw⟩
theorem letR (hw : wLet e k) (hr : p.rep W v e) : ∃ x, p.rep W v x ∧ k x := ⟨e, hr, hw⟩
theorem letI' (hw : wLet e k) : ∃ x, x = e ∧ k x := ⟨e, rfl, hw⟩
/-! the steps, the ends as they stand -/
section
variable {N : L2.St → Hp → Prop} {Rt : VK} {Bk Ct : L2.St → Hp → Prop} {t u : TS} {te : TE} {c : TT} {g : TG} {wi : TI} {tb : TS}
theorem tSeq_j (h : t ⟨u ⟨N, Rt, Bk, Ct⟩, Rt, Bk, Ct⟩ σ H) : tSeq t u ⟨N, Rt, Bk, Ct⟩ σ H := h
theorem tNext_j (h : N σ H) : tNext ⟨N, Rt, Bk, Ct⟩ σ H := h
theorem tBreak_j (h : Bk σ H) : tBreak ⟨N, Rt, Bk, Ct⟩ σ H := h
theorem tCont_j (h : Ct σ H) : tCont ⟨N, Rt, Bk, Ct⟩ σ H := h
theorem tAsg_j (h : te σ H (fun x H1 => g x σ H1 N)) : tAsg te g ⟨N, Rt, Bk, Ct⟩ σ H := h
theorem tDrop_j (h : te σ H fun _ H1 => N σ H1) : tDrop te ⟨N, Rt, Bk, Ct⟩ σ H := h
theorem tRet_j (h : te σ H Rt) : tRet te ⟨N, Rt, Bk, Ct⟩ σ H := h
theorem tRetN_j (h : Rt .non H) : tRetN ⟨N, Rt, Bk, Ct⟩ σ H := h
theorem tIfS_j (h : c σ H fun b H1 => Br b (t ⟨N, Rt, Bk, Ct⟩ σ H1) (u ⟨N, Rt, Bk, Ct⟩ σ H1)) : tIfS c t u ⟨N, Rt, Bk, Ct⟩ σ H := h
theorem tFor_j (h : wi σ H (ForB g tb ⟨N, Rt, Bk, Ct⟩ σ)) : tFor wi g tb ⟨N, Rt, Bk, Ct⟩ σ H := h
end
/-! tuples -/
def RGet {τ α : Type} (r : PRow τ) (j : Nat) (p : PTy α) (g : τ → α) : Prop := ∀ (H : Hp) (vs : List V) (d : τ), r.rep H vs d → ∃ u, vs[j]? = some u ∧ p.rep H u (g d)
theorem rgOne {p : PTy α} : RGet (rOne p) 0 p (fun d => d) := fun H vs d ⟨v, e, h⟩ => ⟨v, by rw [e]; rfl, h⟩
theorem rgZ {p : PTy α} {r : PRow β} : RGet (rCons p r) 0 p (fun d => d.1) := fun H vs d ⟨v, ws, e, h, _⟩ => ⟨v, by rw [e]; rfl, h⟩
theorem rgS {γ : Type} {p : PTy α} {q : PTy γ} {r : PRow β} {j : Nat} {g : β → α} (h : RGet r j p g) : RGet (rCons q r) (j + 1) p (fun d => g d.2) := fun H vs d ⟨v, ws, e, _, t⟩ => by
  obtain ⟨u, hu, ru⟩ := h H ws d.2 t
  exact ⟨u, by rw [e]; exact hu, ru⟩
theorem ixT {r : PRow β} {d : β} {i : Int} {j : Nat} {p : PTy α} {g : β → α} (h : (pTup K r).rep W v d) (s : Same W H) (hg : RGet r j p g) (hi : i = (j : Int)) (k : ∀ u, p.rep W u (g d) → Q u H) : rIxU K v (.int i) H Q := by
  obtain ⟨a, vs, rfl, hs, hr⟩ := h
  obtain ⟨u, hu, ru⟩ := hg W vs d hr
  exact rIxU_t (s.seqT hs) (at_of hi hu) (k u ru)
theorem ixTI {r : PRow β} {d : β} {i : Int} {j : Nat} {f : α → V} {g : β → α} (h : (pTup K r).rep W v d) (s : Same W H) (hg : RGet r j (pI f) g) (hi : i = (j : Int)) (k : Q (f (g d)) H) : rIxU K v (.int i) H Q :=
  ixT h s hg hi fun u hu => by rw [show u = f (g d) from hu]; exact k
theorem row0 : rNil.rep H [] () := rfl
theorem rowO {p : PTy α} {a : α} (h : p.rep H v a) : (rOne p).rep H [v] a := ⟨v, rfl, h⟩
theorem rowC {p : PTy α} {r : PRow β} {a : α} {b : β} {ws : List V} (h : p.rep H v a) (t : r.rep H ws b) : (rCons p r).rep H (v :: ws) (a, b) := ⟨v, ws, rfl, h, t⟩
theorem rowCx {p : PTy α} {r : PRow β} {d : α × β} {vs : List V} (h : (rCons p r).rep H vs d) : ∃ v ws, vs = v :: ws ∧ p.rep H v d.1 ∧ r.rep H ws d.2 := h
theorem rowCi {f : α → V} {r : PRow β} {d : α × β} {vs : List V} (h : (rCons (pI f) r).rep H vs d) : ∃ ws, vs = f d.1 :: ws ∧ r.rep H ws d.2 := by
  obtain ⟨v, ws, e, h, t⟩ := h
  exact ⟨ws, by rw [e, show v = f d.1 from h], t⟩
theorem rowOx {p : PTy α} {d : α} {vs : List V} (h : (rOne p).rep H vs d) : ∃ v, vs = [v] ∧ p.rep H v d := h
theorem rowOi {f : α → V} {d : α} {vs : List V} (h : (rOne (pI f)).rep H vs d) : vs = [f d] := by
  obtain ⟨v, e, h⟩ := h
  rw [e, show v = f d from h]
theorem tupR {r : PRow β} {d : β} {q : Addr} {vs : List V} (e : H q = some (.tup vs)) (h : r.rep H vs d) : (pTup K r).rep H (.ref q) d := ⟨q, vs, rfl, SqT.of e, h⟩
theorem gTupS {r : PRow β} {d : β} {t : TGs} (h : (pTup K r).rep W v d) (s : Same W H) (k : ∀ vs, r.rep W vs d → vs.length = n ∧ t vs σ H R) : gTup K n t v σ H R := by
  obtain ⟨a, vs, rfl, hs, hr⟩ := h
  obtain ⟨h1, h2⟩ := k vs hr
  exact gTup_i (s.seqT hs) h1 h2
/-- a tuple of alikes -/
theorem vtR {p : PTy α} {xs : List α} {q : Addr} {vs : List V} (e : H q = some (.tup vs)) (h : AllR p H vs xs) (l : xs.length ≤ LIM) : (pVt K p).rep H (.ref q) xs := ⟨q, vs, rfl, SqT.of e, h, l⟩
def RAll {β α : Type} (r : PRow β) (p : PTy α) (g : β → List α) : Prop := ∀ (H : Hp) (vs : List V) (d : β), r.rep H vs d → AllR p H vs (g d)
theorem raNil {p : PTy α} : RAll rNil p (fun _ => []) := fun H vs d h => by cases h; exact .nil
theorem raOne {p : PTy α} : RAll (rOne p) p (fun d => [d]) := fun H vs d ⟨v, e, h⟩ => by rw [e]; exact .one h
theorem raCons {p : PTy α} {r : PRow β} {g : β → List α} (t : RAll r p g) : RAll (rCons p r) p (fun d => d.1 :: g d.2) := fun H vs d ⟨v, ws, e, h, q⟩ => by rw [e]; exact .cons h (t H ws d.2 q)
theorem tupVt {r : PRow β} {p : PTy α} {g : β → List α} {d : β} (h : (pTup K r).rep H v d) (a : RAll r p g) (l : (g d).length ≤ LIM) : (pVt K p).rep H v (g d) := by
  obtain ⟨q, vs, e, hs, hr⟩ := h
  exact ⟨q, vs, e, hs, a H vs d hr, l⟩
/-! lists as they stand -/
def Lw {α : Type} (p : PTy α) (H W : Hp) (v : V) (xs : List α) : Prop := ∃ a vs, v = .ref a ∧ H a = some (.lst vs) ∧ AllR p W vs xs ∧ xs.length ≤ LIM
theorem lwL {p : PTy α} {xs : List α} (s : Same W H) (h : (pList p).rep W v xs) : Lw p H W v xs := let ⟨a, vs, e, h, r, l⟩ := h; ⟨a, vs, e, s _ _ h, r, l⟩
theorem lwO {p : PTy α} {xs : List α} {a : Addr} {vs : List V} (e : H a = some (.lst vs)) (r : AllR p W vs xs) (l : xs.length ≤ LIM) : Lw p H W (.ref a) xs := ⟨a, vs, rfl, e, r, l⟩
theorem catS {p : PTy α} {xs ys : List α} (h1 : Lw p H W v xs) (h2 : Lw p H W u ys) (hl : xs.length + ys.length ≤ LIM) (k : ∀ q H', H q = none → Same H H' → ∀ us, H' q = some (.lst us) → AllR p W us (xs ++ ys) → (xs ++ ys).length ≤ LIM → Q (.ref q) H') : rAddU K v u H Q := by
  obtain ⟨a, vs, rfl, e1, r1, l1⟩ := h1
  obtain ⟨b, us, rfl, e2, r2, l2⟩ := h2
  exact rAddU_l e1 e2 (by rw [r1.len, r2.len]; exact hl) fun q H' n s e => k q H' n s _ e (r1.app r2) (by rw [List.length_append]; exact hl)
theorem repS {p : PTy α} {xs : List α} {m : Int} (h1 : Lw p H W v xs) (hc : -(2 ^ 63) ≤ m ∧ m < 2 ^ 63 ∧ xs.length * m.toNat ≤ LIM) (k : ∀ q H', H q = none → Same H H' → ∀ us, H' q = some (.lst us) → AllR p W us (repG xs m) → (repG xs m).length ≤ LIM → Q (.ref q) H') : rMulU v (.int m) H Q := by
  obtain ⟨a, vs, rfl, e1, r1, l1⟩ := h1
  refine .inr ⟨a, m, vs, rfl, rfl, e1, hc.1, hc.2.1, by rw [r1.len]; exact hc.2.2, fun q n => k q _ n (Same.new n) _ upd_same ?_ ?_⟩
  · exact AllR.flat (xs := []) r1
  · have : (repG xs m).length = xs.length * m.toNat := by
      unfold repG
      rw [List.length_flatten, List.map_replicate, List.sum_replicate_nat, Nat.mul_comm]
    rw [this]
    exact hc.2.2
def RevV (K : PySem.W.Frag) (x : V) (H1 : Hp) (Q : VK) : Prop := ∃ a xs, x = .ref a ∧ SqL K H1 a xs ∧ ∀ p, H1 p = none → Q (.ref p) (upd H1 p (.lst xs.reverse))
theorem tRevL_i {te : TE} (h : te σ H fun x H1 => RevV K x H1 Q) : tRevL K te σ H Q := h
theorem revS {p : PTy α} {xs : List α} (hq : Sl K p H W v xs) (k : ∀ q H', H q = none → Same H H' → ∀ us, H' q = some (.lst us) → AllR p W us xs.reverse → xs.reverse.length ≤ LIM → Q (.ref q) H') : RevV K v H Q := by
  obtain ⟨a, vs, rfl, hs, hr, hl⟩ := hq
  exact ⟨a, vs, rfl, hs, fun q n => k q _ n (Same.new n) _ upd_same hr.rev (by rw [List.length_reverse]; exact hl)⟩
theorem cntS {ns : List Int} {m : Int} (hq : Sl K pInt H W v ns) (h : Q (.int (ns.count m : Nat)) H) : rCntI K v [.int m] H Q := by
  obtain ⟨a, vs, rfl, hs, hr, _⟩ := hq
  rw [hr.imm] at hs
  exact ⟨a, ns, m, rfl, rfl, hs, h⟩
theorem tyS {p : PTy α} {xs : List α} {A : Prop} (hq : Sl K p H W v xs) (h : A) : tyV K "list" v H ∧ A := by
  obtain ⟨a, vs, rfl, hs, hr, _⟩ := hq
  exact tyL hs h
theorem isiL {p : PTy α} {xs : List α} (hq : Sl K p H W v xs) (h : Q (.bl true) H) : rIsiU K [v, .ty "list"] H Q := by
  obtain ⟨a, vs, rfl, hs, hr, _⟩ := hq
  exact isi_lstS hs h
theorem isN_o {o : Option Int} (h : Q (.bl (decide (o = none))) H) : rIsN (optV o) .non H Q := rIsN_i (by rw [optV_non]; exact h)
theorem notN_o {o : Option Int} (h : Q (.bl (!decide (o = none))) H) : rNotN (optV o) .non H Q := rNotN_i (by rw [optV_non]; exact h)
/-! sources -/
theorem WL_v {R : It → Hp → Prop} {a : Addr} (hv : v = .ref a) {xs : List V} (hS : SqL K H a xs) (h : R (Itl K a) H) : WL K R v H := by rw [hv]; exact WL_i xs hS h
theorem WT_v {R : It → Hp → Prop} {a : Addr} (hv : v = .ref a) {xs : List V} (hS : SqT K H a xs) (h : R (Itt K a) H) : WT K R v H := by rw [hv]; exact WT_i xs hS h
theorem WE_v {R : It → Hp → Prop} {a : Addr} (hv : v = .ref a) {xs : List V} (hS : SqL K H a xs) (h : R (Ite K a) H) : WE K R [v] H := by rw [hv]; exact WE_i xs hS h
theorem WZ_v {R : It → Hp → Prop} {a b : Addr} (hv : v = .ref a) (hu : u = .ref b) {xs ys : List V} (hS : SqL K H a xs) (hT : SqL K H b ys) (h : R (Itz K a b) H) : WZ K R [v, u] H := by rw [hv, hu]; exact WZ_i xs ys hS hT h
theorem rgW1 {j : Int} {R : It → Hp → Prop} (h1 : rgOk 0 j) (h : R (Itr 0 j.toNat) H) : W1 R [.int j] H := W1_i ⟨h1.2.2.1, h1.2.2.2⟩ h
theorem rgW2 {i j : Int} {R : It → Hp → Prop} (h1 : rgOk i j) (h : R (Itr i (j - i).toNat) H) : W2 R [.int i, .int j] H := W2_i h1 h
section
variable {g : TG} {tb : TS} {N : L2.St → Hp → Prop} {Rt : VK} {Bk Ct : L2.St → Hp → Prop} {te te2 : TE} {tt : TT} {vs : List Nat} {p : PTy α} {pb : PTy β} {xs : List α}
theorem forSeq {f : α → S → (S → Prop) → (S → Prop) → Prop} {k : S → Prop} {s0 : S} (h : (pSeq K p).rep W v xs) (hte : ∀ R : V → Hp → Prop, R v H → te σ H R) (hw : wFor xs s0 f k) (RS : S → L2.St → Hp → Prop) (h0 : RS s0 σ H) (hok : ∀ s σ H', RS s σ H' → Same W H')
    (hs : ∀ d s σ H x (nx : S → Prop), RS s σ H → p.rep W x d → f d s nx k → g x σ H fun σ2 H2 => tb ⟨nxS RS nx, Rt, N, nxS RS nx⟩ σ2 H2)
    (hd : ∀ s σ H, RS s σ H → k s → N σ H) : tFor (iU K te) g tb ⟨N, Rt, Bk, Ct⟩ σ H := by
  obtain ⟨a, vs, rfl, hq, hr, _⟩ := h
  exact forQ hte (hq.same (hok _ _ _ h0)) hw hr RS h0 hok hq hs hd
theorem lcSeq {f : α → (Option β → Prop) → Prop} {k : List β → Prop} {ps : List Addr} (h : (pSeq K p).rep W v xs) (s : Same W H) (hte : ∀ R : V → Hp → Prop, R v H → te σ H R) (hw : wComp xs f k) (hps : ∀ q ∈ ps, H q ≠ none)
    (hs : ∀ L d x H1, H L = none → Same H H1 → (∃ acc, H1 L = some (.lst acc)) → p.rep W x d → LcT pb H ps g tt te2 vs σ (f d) L x H1 H1) (hd : LcD pb H ps Q k) : tLc (iU K te) g tt te2 vs σ H Q := by
  obtain ⟨a, us, rfl, hq, hr, hl⟩ := h
  exact lcQ hte hw (hq.same s) hr hl hps hs hd
end
end
/-! two names at once -/
def SetP (i j : Nat) (v w : V) (σ : L2.St) (H : Hp) (R : L2.St → Hp → Prop) : Prop := R ((σ.set i (some v)).set j (some w)) H
theorem tParL {N : L2.St → Hp → Prop} {Rt : VK} {Bk Ct : L2.St → Hp → Prop} {j : Nat} {ts : TA} (h : ts σ H fun vs H1 => Par2 vs fun v w => SetP i j v w σ H1 N) : tPar i j ts ⟨N, Rt, Bk, Ct⟩ σ H := h
theorem setP {j : Nat} {w : V} (hs : (σ.set i (some v)).set j (some w) = σ') (h : R σ' H) : SetP i j v w σ H R := by
  unfold SetP
  rw [hs]
  exact h
theorem setPI {j : Nat} {a : α} {b : β} {fa : α → V} {fb : β → V} {k : α → β → Prop} {g : α → β → L2.St} (hw : wLet a fun x => wLet b fun y => k x y) (hs : ∀ x y, (σ.set i (some (fa x))).set j (some (fb y)) = g x y) (h : ∀ x y, k x y → R (g x y) H) : SetP i j (fa a) (fb b) σ H R := setP (hs a b) (h a b hw)
/-! draws -/
theorem drawK {K : PySem.W.Frag} {H W : Hp} {v u : V} {x y : Unit} (s : Same W H) (h : (pDraw K).rep W v x) (h2 : pCell.rep W u y) : ∃ c a, v = .ref c ∧ u = .ref a ∧ Draw K H c a := by
  obtain ⟨c, rfl, xs, hq, hl⟩ := h
  obtain ⟨a, rfl, ha⟩ := h2
  exact ⟨c, a, rfl, rfl, ⟨xs, s.seq hq, hl⟩, s _ _ ha⟩
end EL

namespace EL
open PySem PySem.Spec PyProof.Rows L2 Px
/-- M, c are the members of zs and their number -/
def SetIs (zs : List Int) (M : Int → Bool) (c : Nat) : Prop := (∀ i, M i = decide (i ∈ zs)) ∧ c = zs.eraseDups.length
theorem setIs_nil : SetIs [] noneS 0 := ⟨fun i => rfl, rfl⟩
theorem dedup_app (zs : List Int) (z : Int) : (zs ++ [z]).eraseDups = if z ∈ zs then zs.eraseDups else zs.eraseDups ++ [z] := by
  rw [List.eraseDups_append]
  by_cases h : z ∈ zs
  · rw [if_pos h]
    have e : [z].removeAll zs = [] := by simp [List.removeAll, h]
    rw [e]
    simp
  · rw [if_neg h]
    have e : [z].removeAll zs = [z] := by simp [List.removeAll, h]
    rw [e]
    simp [List.eraseDups_cons]
theorem setIs_put {zs : List Int} {M : Int → Bool} {c : Nat} (h : SetIs zs M c) (z : Int) : SetIs (zs ++ [z]) (putS M z) (if M z = true then c else c + 1) := by
  obtain ⟨h1, h2⟩ := h
  refine ⟨fun i => ?_, ?_⟩
  · unfold putS
    rw [h1, Bool.eq_iff_iff]
    simp
  · rw [dedup_app, h1 z]
    by_cases c : z ∈ zs
    · simp [c, h2]
    · simp [c, h2]
theorem dedup_len_aux : ∀ (n : Nat) (zs : List Int), zs.length ≤ n → zs.eraseDups.length ≤ zs.length
  | _, [], _ => by simp
  | 0, _ :: _, h => by simp at h
  | n + 1, a :: l, h => by
    rw [List.eraseDups_cons, List.length_cons, List.length_cons]
    have h1 : (l.filter fun b => !b == a).length ≤ l.length := List.length_filter_le ..
    have h2 : l.length ≤ n := by rw [List.length_cons] at h; omega
    have := dedup_len_aux n (l.filter fun b => !b == a) (by omega)
    omega
theorem dedup_len (zs : List Int) : zs.eraseDups.length ≤ zs.length := dedup_len_aux _ zs (Nat.le_refl _)
def pSet (w : World) : PTy (List Int) := ⟨fun H v zs => ∃ a M c, v = .ref a ∧ H a = some (SetO w a M c) ∧ SetIs zs M c, fun s ⟨a, M, c, e, h, r⟩ => ⟨a, M, c, e, s _ _ h, r⟩⟩
theorem lenSet {w : World} {W H : Hp} {v : V} {zs : List Int} {Q : VK} (s : Same W H) (h : (pSet w).rep W v zs) (hq : Q (.int (zs.eraseDups.length : Int)) H) : rLenI w [v] H Q := by
  obtain ⟨a, M, c, rfl, e, r1, rfl⟩ := h
  exact rLenI_i (s _ _ e) hq
theorem inSet {K : PySem.W.Frag} {w : World} {W H : Hp} {v : V} {i : Int} {zs : List Int} {Q : VK} (s : Same W H) (h : (pSet w).rep W v zs) (hq : Q (.bl (decide (i ∈ zs))) H) : rInU K w false (.int i) v H Q := by
  obtain ⟨a, M, c, rfl, e, r1, rfl⟩ := h
  exact inI_s (s _ _ e) (by rw [r1]; exact hq)
def ScD (w : World) (H : Hp) (Q : VK) (k : List Int → Prop) : Prop := ∀ L H1 M c zs, H L = none → Same H H1 → H1 L = some (SetO w L M c) → SetIs zs M c → k zs → Q (.ref L) H1
section
variable {w : World} {σ : L2.St} {H : Hp} {g : TG} {tt : TT} {te : TE} {vs : List Nat} {Q : VK} {J : It} {n : Nat} {ok : Hp → Prop} {itm : Nat → V → Hp → Hp → Prop} {α : Type} {ps : List Addr}
theorem scW (Sr : Src J n ok itm) {xs : List α} (hn : n = xs.length) (hlim : n + 1 < scanBound) {f : α → (Option Int → Prop) → Prop} {k : List Int → Prop} (hw : wComp xs f k) (hps : ∀ q ∈ ps, H q ≠ none)
    (I : α → V → Hp → Hp → Prop) (hI : ∀ i x H H' d, xs[i]? = some d → itm i x H H' → I d x H H') (hok : ∀ H', Same H H' → ok H')
    (hs : ∀ L d x H1 H2 (nx : Option Int → Prop), H L = none → Same H H1 → (∃ o, H1 L = some o) → I d x H1 H2 → f d nx →
      ∀ (Y : V → Hp → Prop) (N : Hp → Prop), (∀ r v H3, Same H1 H3 → pInt.rep (dels H3 (L :: ps)) v r → nx (some r) → Y v H3) → (∀ H3, Same H1 H3 → nx none → N H3) →
      g x (wipe σ vs) H2 fun σ2 H2 => wipe σ2 vs = wipe σ vs ∧ tt σ2 H2 fun b H3 => Br b (te σ2 H3 Y) (N H3))
    (hd : ScD w H Q k) : ScB w g tt te vs σ Q J H := by
  intro L hL
  refine ⟨fun i m H1 => m = n - i ∧ i ≤ n ∧ ∃ zs : List Int, zs.length ≤ i ∧ Same H H1 ∧ (∃ M c, H1 L = some (SetO w L M c) ∧ SetIs zs M c) ∧ wComp (xs.drop i) f (fun ys => k (zs ++ ys)), ⟨n, by simp, Nat.zero_le _, [], Nat.le_refl _, Same.new hL, ⟨noneS, 0, upd_same, setIs_nil⟩, by rw [List.drop_zero]; exact hw⟩, ?_⟩
  rintro i m H1 ⟨rfl, hi, zs, hz, s1, ⟨M, c, e1, r1⟩, hw⟩
  have q := hok H1 s1
  by_cases hlt : i < n
  · have hx : i < xs.length := by omega
    rw [List.drop_eq_getElem_cons hx] at hw
    refine .inr ⟨Sr.go i H1 q hlt, fun H3 => ∃ zs : List Int, zs.length ≤ i + 1 ∧ Same H H3 ∧ (∃ M c, H3 L = some (SetO w L M c) ∧ SetIs zs M c) ∧ wComp (xs.drop (i + 1)) f (fun ys => k (zs ++ ys)), fun H3 h3 => ⟨n - (i + 1), by omega, rfl, hlt, h3⟩, fun x H2 y => ?_⟩
    refine hs L _ x H1 H2 _ hL s1 ⟨_, e1⟩ (hI i x H1 H2 _ (List.getElem?_eq_getElem hx) (Sr.yld i H1 x H2 q hlt y)) hw _ _ (fun r v H3 s3 hr h => ?_) (fun H3 s3 h => ?_)
    · have e3 := s3 _ _ e1
      have hv : v = .int r := hr
      subst hv
      have hc : c ≤ zs.length := by rw [r1.2]; exact dedup_len zs
      refine ⟨L, r, M, c, rfl, rfl, e3, by omega, zs ++ [r], by rw [List.length_append, List.length_singleton]; omega, Same.upd (s1.trans s3) hL, ⟨_, _, upd_same, setIs_put r1 r⟩, ?_⟩
      simpa [List.append_assoc] using h
    · have e3 := s3 _ _ e1
      refine ⟨zs, by omega, s1.trans s3, ⟨M, c, e3, r1⟩, ?_⟩
      simpa using h
  · have e : xs.length ≤ i := by omega
    rw [List.drop_eq_nil_of_le e] at hw
    refine .inl ⟨Sr.stop i H1 q (by omega), hd L H1 M c zs hL s1 e1 r1 ?_⟩
    have hw' : k (zs ++ []) := hw
    rwa [List.append_nil] at hw'
end
section
variable {w : World} {σ : L2.St} {H W : Hp} {g : TG} {tt : TT} {te : TE} {vs : List Nat} {Q : VK} {α γ : Type} {p : PTy α} {pc : PTy γ} {ps : List Addr} {K : PySem.W.Frag} {xs : List α} {a b : Addr} {us ws : List V}
  {f : α → (Option Int → Prop) → Prop} {k : List Int → Prop}
theorem scL (hw : wComp xs f k) (hq : SqL K H a us) (hr : AllR p W us xs) (hl : xs.length + 1 < scanBound) (hps : ∀ q ∈ ps, H q ≠ none)
    (hs : ∀ L d x H1, H L = none → Same H H1 → (∃ o, H1 L = some o) → p.rep W x d → LcT pInt H ps g tt te vs σ (f d) L x H1 H1) (hd : ScD w H Q k) : ScB w g tt te vs σ Q (Itl K a) H :=
  scW (w := w) (srcL (K := K) (a := a) (xs := us)) hr.len (by rw [hr.len]; exact hl) hw hps (ItS p W) (itmS hr) (fun H' s => s.seq hq) (fun L d x H1 H2 nx n s e ⟨e2, i⟩ h => by rw [e2]; exact hs L d x H1 n s e i nx h) hd
theorem scT (hw : wComp xs f k) (hq : SqT K H a us) (hr : AllR p W us xs) (hl : xs.length + 1 < scanBound) (hps : ∀ q ∈ ps, H q ≠ none)
    (hs : ∀ L d x H1, H L = none → Same H H1 → (∃ o, H1 L = some o) → p.rep W x d → LcT pInt H ps g tt te vs σ (f d) L x H1 H1) (hd : ScD w H Q k) : ScB w g tt te vs σ Q (Itt K a) H :=
  scW (w := w) (srcT (K := K) (a := a) (xs := us)) hr.len (by rw [hr.len]; exact hl) hw hps (ItS p W) (itmS hr) (fun H' s => s.seqT hq) (fun L d x H1 H2 nx n s e ⟨e2, i⟩ h => by rw [e2]; exact hs L d x H1 n s e i nx h) hd
theorem scQ (hte : ∀ R : V → Hp → Prop, R (.ref a) H → te σ H R) {te2 : TE} (hw : wComp xs f k) (hq : SqA K H a us) (hr : AllR p W us xs) (hl : xs.length + 1 < scanBound) (hps : ∀ q ∈ ps, H q ≠ none)
    (hs : ∀ L d x H1, H L = none → Same H H1 → (∃ o, H1 L = some o) → p.rep W x d → LcT pInt H ps g tt te2 vs σ (f d) L x H1 H1) (hd : ScD w H Q k) : tScI w (iU K te) g tt te2 vs σ H Q := by
  refine tScI_i ?_
  rcases hq with z | z
  · exact .inl (hte _ (WL_i us z (scL hw z hr hl hps hs hd)))
  · exact .inr (hte _ (WT_i us z (scT hw z hr hl hps hs hd)))
theorem scR {lo hi : Int} {f : Int → (Option Int → Prop) → Prop} (hw : wComp (rangeL lo hi) f k) (hl : (hi - lo).toNat + 1 < scanBound) (hps : ∀ q ∈ ps, H q ≠ none)
    (hs : ∀ L d H1, H L = none → Same H H1 → (∃ o, H1 L = some o) → LcT pInt H ps g tt te vs σ (f d) L (.int d) H1 H1) (hd : ScD w H Q k) : ScB w g tt te vs σ Q (Itr lo (hi - lo).toNat) H := by
  refine scW (w := w) srcR (rangeL_len (lo := lo) (hi := hi)).symm hl hw hps (fun d x H H' => H' = H ∧ x = .int d) (fun i x H H' d e h => ?_) (fun _ _ => trivial) (fun L d x H1 H2 nx n s e ⟨e2, i⟩ h => by rw [e2, i]; exact hs L d H1 n s e nx h) hd
  obtain ⟨rfl, rfl⟩ := h
  refine ⟨rfl, ?_⟩
  obtain ⟨hi, _⟩ := List.getElem?_eq_some_iff.mp e
  rw [rangeL_len] at hi
  rw [rangeL_get hi] at e
  cases e
  rfl
theorem scR0 {hi : Int} {f : Int → (Option Int → Prop) → Prop} (hw : wComp (rangeL 0 hi) f k) (hl : hi.toNat + 1 < scanBound) (hps : ∀ q ∈ ps, H q ≠ none)
    (hs : ∀ L d H1, H L = none → Same H H1 → (∃ o, H1 L = some o) → LcT pInt H ps g tt te vs σ (f d) L (.int d) H1 H1) (hd : ScD w H Q k) : ScB w g tt te vs σ Q (Itr 0 hi.toNat) H := by
  have := scR (lo := 0) (hi := hi) hw (by rw [Int.sub_zero]; exact hl) hps hs hd
  rw [Int.sub_zero] at this
  exact this
theorem scE {f : Int × α → (Option Int → Prop) → Prop} (hw : wComp (enumL xs) f k) (hq : SqL K H a us) (hr : AllR p W us xs) (hl : xs.length + 1 < scanBound) (hps : ∀ q ∈ ps, H q ≠ none)
    (hs : ∀ L d x H1 H2, H L = none → Same H H1 → (∃ o, H1 L = some o) → ItP pInt p W d x H1 H2 → LcT pInt H ps g tt te vs σ (f d) L x H1 H2) (hd : ScD w H Q k) : ScB w g tt te vs σ Q (Ite K a) H := by
  refine scW (w := w) (srcE (K := K) (a := a) (xs := us)) (by rw [enumL_len, hr.len]) (by rw [hr.len]; exact hl) hw hps (ItP pInt p W) (fun i x H H' d e h => ?_) (fun H' s => s.seq hq) (fun L d x H1 H2 nx n s e i h => hs L d x H1 H2 n s e i nx h) hd
  obtain ⟨q, y, rfl, n, s, e2, hy⟩ := h
  obtain ⟨d', hd', rd⟩ := hr.getV hy
  rw [enumL_get hd'] at e
  cases e
  exact ⟨q, _, y, rfl, n, s, e2, rfl, rd⟩
theorem scET {f : Int × α → (Option Int → Prop) → Prop} (hw : wComp (enumL xs) f k) (hq : SqT K H a us) (hr : AllR p W us xs) (hl : xs.length + 1 < scanBound) (hps : ∀ q ∈ ps, H q ≠ none)
    (hs : ∀ L d x H1 H2, H L = none → Same H H1 → (∃ o, H1 L = some o) → ItP pInt p W d x H1 H2 → LcT pInt H ps g tt te vs σ (f d) L x H1 H2) (hd : ScD w H Q k) : ScB w g tt te vs σ Q (IteT K a) H := by
  refine scW (w := w) (srcET (K := K) (a := a) (xs := us)) (by rw [enumL_len, hr.len]) (by rw [hr.len]; exact hl) hw hps (ItP pInt p W) (fun i x H H' d e h => ?_) (fun H' s => s.seqT hq) (fun L d x H1 H2 nx n s e i h => hs L d x H1 H2 n s e i nx h) hd
  obtain ⟨q, y, rfl, n, s, e2, hy⟩ := h
  obtain ⟨d', hd', rd⟩ := hr.getV hy
  rw [enumL_get hd'] at e
  cases e
  exact ⟨q, _, y, rfl, n, s, e2, rfl, rd⟩
theorem scZ {ys : List γ} {f : α × γ → (Option Int → Prop) → Prop} (hw : wComp (xs.zip ys) f k) (hq : SqL K H a us) (hq2 : SqL K H b ws) (hr : AllR p W us xs) (hr2 : AllR pc W ws ys) (hl : xs.length + 1 < scanBound) (hps : ∀ q ∈ ps, H q ≠ none)
    (hs : ∀ L d x H1 H2, H L = none → Same H H1 → (∃ o, H1 L = some o) → ItP p pc W d x H1 H2 → LcT pInt H ps g tt te vs σ (f d) L x H1 H2) (hd : ScD w H Q k) : ScB w g tt te vs σ Q (Itz K a b) H := by
  refine scW (w := w) (srcZ (K := K) (a := a) (b := b) (xs := us) (ys := ws)) (by rw [List.length_zip, hr.len, hr2.len]) (by rw [hr.len]; omega) hw hps (ItP p pc W) (fun i x H H' d e h => ?_) (fun H' s => ⟨s.seq hq, s.seq hq2⟩) (fun L d x H1 H2 nx n s e i h => hs L d x H1 H2 n s e i nx h) hd
  obtain ⟨q, y, z, rfl, n, s, e2, hy, hz⟩ := h
  obtain ⟨d1, hd1, rd1⟩ := hr.getV hy
  obtain ⟨d2, hd2, rd2⟩ := hr2.getV hz
  rw [Px.zip_get hd1 hd2] at e
  cases e
  exact ⟨q, y, z, rfl, n, s, e2, rd1, rd2⟩

end
theorem WE_lv {K : PySem.W.Frag} {v : V} {H : Hp} {R : It → Hp → Prop} {a : Addr} (hv : v = .ref a) {xs : List V} (hS : SqL K H a xs) (h : R (Ite K a) H) : WE K R [v] H := by rw [hv]; exact WE_i xs hS h
theorem WEt_v {K : PySem.W.Frag} {v : V} {H : Hp} {R : It → Hp → Prop} {a : Addr} (hv : v = .ref a) {xs : List V} (hS : SqT K H a xs) (h : R (IteT K a) H) : WET K R [v] H := by rw [hv]; exact WET_i xs hS h
theorem AllR.immW {α : Type} {f : α → V} {H H' : Hp} {vs : List V} {ds : List α} (h : AllR (pI f) H vs ds) : AllR (pI f) H' vs ds := by
  rw [h.imm]
  exact AllR.ofImm ds
end EL

namespace EL
open PySem PySem.Spec PyProof.Rows L2 Px
/-! ### errors by kinds -/
section
variable {K : PySem.W.Frag} {H : Hp} {Q : VK} {σ : L2.St} {a D : Addr} {d : Option Addr}
theorem wasL {c cls : Value} {i : Nat} {ts : Addr → Value → Option Addr → TS} {Wout : WX} {N : L2.St → Hp → Prop} {Rt : VK} {Bk Ct : L2.St → Hp → Prop} {g : Addr → L2.St} (em : PySem.W.exmOne K cls c = some true) (hs : ∀ a, σ.set i (some (.ref a)) = g a)
    (h : ∀ a, H a = none → ts a cls d ⟨fun σ' H' => N (σ'.set i none) H', Rt, fun σ' H' => Bk (σ'.set i none) H', fun σ' H' => Ct (σ'.set i none) H'⟩ (g a) H) : L2.WE (wAs K c i ts Wout ⟨N, Rt, Bk, Ct⟩) σ cls d H :=
  was_i em fun a n => by rw [hs a]; exact h a n
theorem nxL {i : Nat} {N : L2.St → Hp → Prop} {σ' : L2.St} (hs : σ.set i none = σ') (h : N σ' H) : N (σ.set i none) H := by rw [hs]; exact h
theorem xfP {er : PErr} {f : Str} {n : Nat} {z : Int} (hz : er = ⟨n, [(f, .int z)]⟩) (X : XCls K D) (hx : XDict H d er.fs) (hn : PySem.W.findIn K (.ref D) f = some none) (h : Q (.int z) H) : XFv K a (.ref D) d f (.ref a) H Q := by
  subst hz
  rcases hx with ⟨_, z⟩ | ⟨dd, rfl, e⟩
  · cases z
  · exact xf1 X e hn h
theorem kAnyN {t : Value} : PySem.W.kitAny K t [] = some false := rfl
theorem kAnyC {t c : Value} {r : List Value} {b b2 : Bool} (h : PySem.W.kitOne K t c = some b) (h2 : PySem.W.kitAny K t r = some b2) : PySem.W.kitAny K t (c :: r) = some (b || b2) := by
  unfold PySem.W.kitAny
  rw [h]
  cases b
  · exact h2
  · rfl
theorem isX_n {q : Addr} {cs : List V} {us : List Value} {b : Bool} (X : XCls K D) (fs : List (Str × V)) (hd : XDict H d fs) (e : H q = some (.tup cs)) (k : Paired ClsV cs us) (ka : PySem.W.kitAny K (.ref D) us = some b) (h : Q (.bl b) H) : rIsX K a (.ref D) d [.ref a, .ref q] H Q :=
  ⟨D, fs, .ref q, b, rfl, rfl, X, hd, .inr ⟨q, cs, us, rfl, e, k, ka⟩, h⟩
end
/-! a whole number or a truth -/
inductive IB where
  | inl (i : Int)
  | inr (b : Bool)
  deriving DecidableEq, Inhabited
def ibV (x : IB) : V := match x with | .inl i => .int i | .inr b => .bl b
def ibI (x : IB) : Int := match x with | .inl i => i | .inr _ => 0
def isInl (x : IB) : Bool := match x with | .inl _ => true | .inr _ => false
abbrev pIB : PTy (IB) := pI ibV
section
variable {K : PySem.W.Frag} {H : Hp} {Q : VK} {x : IB} {j : Int}
theorem isi_ib_int (h : Q (.bl true) H) : rIsiU K [ibV x, .ty "int"] H Q := by
  cases x
  · exact isi_int_int h
  · exact isi_bool_int h
theorem isi_ib_bool (h : Q (.bl (!isInl x)) H) : rIsiU K [ibV x, .ty "bool"] H Q := by
  cases x
  · exact isi_int_bool h
  · exact isi_bool_bool h
theorem eqIB (hx : isInl x = true) (h : Q (.bl (decide (ibI x = j))) H) : rEqU K (ibV x) (.int j) H Q := by
  cases x
  · exact rEqU_i h
  · cases hx
theorem neIB (hx : isInl x = true) (h : Q (.bl (!decide (ibI x = j))) H) : rNeU K (ibV x) (.int j) H Q := by
  cases x
  · exact rNeU_i h
  · cases hx
end
/-! one kind seen as a wider one -/
section
variable {K : PySem.W.Frag} {α β γ δ : Type} {p : PTy α} {p' : PTy β} {g : α → β} {r : PRow γ} {r' : PRow δ} {f : γ → δ}
def Cv (p : PTy α) (p' : PTy β) (g : α → β) : Prop := ∀ (H : Hp) (v : V) (d : α), p.rep H v d → p'.rep H v (g d)
def RCv (r : PRow γ) (r' : PRow δ) (g : γ → δ) : Prop := ∀ (H : Hp) (v : List V) (d : γ), r.rep H v d → r'.rep H v (g d)
theorem cvId : Cv p p (fun d => d) := fun _ _ _ h => h
theorem cvII : Cv pInt pIB IB.inl := fun _ _ _ h => h
theorem cvBI : Cv pBl pIB IB.inr := fun _ _ _ h => h
theorem cvSome : Cv pInt pOptI some := fun _ _ _ h => h
theorem cvNone : Cv pNon pOptI (fun _ => none) := fun _ _ _ h => h
theorem AllR.cv {H : Hp} {vs : List V} {ds : List α} (c : Cv p p' g) (h : AllR p H vs ds) : AllR p' H vs (ds.map g) := by
  induction h with
  | nil => exact .nil
  | cons h _ ih => exact .cons (c _ _ _ h) ih
theorem cvList (c : Cv p p' g) : Cv (pList p) (pList p') (List.map g) := fun _ _ _ ⟨a, vs, e, h, q, l⟩ => ⟨a, vs, e, h, q.cv c, by rw [List.length_map]; exact l⟩
theorem cvFro (c : Cv p p' g) : Cv (pFro K p) (pFro K p') (List.map g) := fun _ _ _ ⟨a, vs, e, h, q, l⟩ => ⟨a, vs, e, h, q.cv c, by rw [List.length_map]; exact l⟩
theorem cvVt (c : Cv p p' g) : Cv (pVt K p) (pVt K p') (List.map g) := fun _ _ _ ⟨a, vs, e, h, q, l⟩ => ⟨a, vs, e, h, q.cv c, by rw [List.length_map]; exact l⟩
theorem rcvNil : RCv rNil rNil (fun d => d) := fun _ _ _ h => h
theorem rcvOne (c : Cv p p' g) : RCv (rOne p) (rOne p') g := fun _ _ _ ⟨v, e, h⟩ => ⟨v, e, c _ _ _ h⟩
theorem rcvCons (c : Cv p p' g) (t : RCv r r' f) : RCv (rCons p r) (rCons p' r') (fun d => (g d.1, f d.2)) := fun _ _ _ ⟨v, ws, e, h, q⟩ => ⟨v, ws, e, c _ _ _ h, t _ _ _ q⟩
theorem cvTup (t : RCv r r' f) : Cv (pTup K r) (pTup K r') f := fun _ _ _ ⟨a, vs, e, h, q⟩ => ⟨a, vs, e, h, t _ _ _ q⟩
end
end EL

namespace EL
open PySem PySem.Spec PyProof.Rows L2
/-! ### methods and new instances whose errors go out at the slots as they stand -/
section
variable {X : Cx} {CX : CXT} {k : Nat} {f C : Addr} {fd : FuncData} {ps ks : List Str} {sp : Sp} {W : L2.St → XK} {x m : Str} {p pos apos : Pos} {e o : Expr} {es : List Expr} {kws : List Keyword} {to : TE} {ta tk : TA}
def tMth (C : Addr) (m : Str) (sp : Sp) (W : L2.St → XK) (to : TE) (ta : TA) : TE := fun σ H Q =>
  to σ H fun y H1 => ∃ a dx fs, y = .ref a ∧ H1 a = some (.ins C dx fs) ∧ fs.lookup m = none ∧ ta σ H1 fun ys H2 => sp (y :: ys) H2 Q (W σ)
theorem pe_mth {pl : Sem Bool} (ho : PE X o to) (c : Cls X.K C) (hm : Meth X.K C m f) (F : FnOk X.prog X.w X.K X.mg X.base CX k f fd ps sp) (room : Room k X.A) (hb : Binds X.K fd ps []) (out : ∀ σ, PassesAt CX X σ (W σ)) (args : PA X (e :: es) ta)
    (h1 : starEach (e :: es) X.env = (false, eval e X.env) :: starEach es X.env := by rfl) (h2 : (backTo pos (starEach es X.env)).any (·.1) = false := by rfl)
    (h3 : eval (.Call (.Attribute o m apos) (e :: es) [] pos) X.env = (do
      let ov ← eval o X.env; standAt apos.atName; let (g, first) ← holding [ov] (getMethod ov m pl)
      callWith pos g first (backTo pos (starEach (e :: es) X.env)) (backToKw pos (keywordEach [] X.env))) := by rfl) : PE X (.Call (.Attribute o m apos) (e :: es) [] pos) (tMth C m sp W to ta) := by
  refine ⟨fun pins s σ H Q I0 q0 => ?_⟩
  refine PySem.W.methodCall_KW (pl := pl) (thn (ho.run pins s σ H _ I0 q0) fun ov s1 ⟨y, H1, I1, ry, a, dx, fs, ey, ea, no, q1⟩ => ?_) h3
  subst ey
  obtain rfl : ov = Value.ref a := ry
  refine getmeth_ok I1 ea c hm no (PySem.W.callWith_K (first := [.ref a]) (h₀ := X.base) I0.ok.mod.kin hm.kp (thn (args.run pos pins s1 σ H1 _ I1 q1) fun us s2 ⟨ys, H2, I2, rs, q2⟩ => ⟨I2.kIn, ?_⟩) h1 h2)
  exact run_fnS (us := .ref a :: us) (vs := .ref a :: ys) F room hb (out σ) I2 (.cons rfl rs) q2
theorem pe_mth0 {pl : Sem Bool} (ho : PE X o to) (c : Cls X.K C) (hm : Meth X.K C m f) (F : FnOk X.prog X.w X.K X.mg X.base CX k f fd ps sp) (room : Room k X.A) (hb : Binds X.K fd ps []) (out : ∀ σ, PassesAt CX X σ (W σ))
    (h3 : eval (.Call (.Attribute o m apos) [] [] pos) X.env = (do
      let ov ← eval o X.env; standAt apos.atName; let (g, first) ← holding [ov] (getMethod ov m pl)
      callWith pos g first (backTo pos (starEach [] X.env)) (backToKw pos (keywordEach [] X.env))) := by rfl) : PE X (.Call (.Attribute o m apos) [] [] pos) (tMth C m sp W to tNil) := by
  refine ⟨fun pins s σ H Q I0 q0 => ?_⟩
  refine PySem.W.methodCall_KW (pl := pl) (thn (ho.run pins s σ H _ I0 q0) fun ov s1 ⟨y, H1, I1, ry, a, dx, fs, ey, ea, no, q1⟩ => ?_) h3
  subst ey
  obtain rfl : ov = Value.ref a := ry
  exact getmeth_ok I1 ea c hm no (PySem.W.callWith_K0 (first := [.ref a]) I1.kIn hm.kp (run_fnS (us := [.ref a]) (vs := [.ref a]) F room hb (out σ) I1 (.cons rfl .nil) q1))
def tMak (C : Addr) (sp : Sp) (W : L2.St → XK) (ta : TA) : TE := fun σ H Q => ta σ H fun ys H1 => ∀ n dn, H1 n = none → H1 dn = none → dn ≠ n →
  sp (.ref n :: ys) (upd (upd H1 dn (.own n)) n (.ins C dn [])) (fun v H2 => v = .non ∧ Q (.ref n) H2) (W σ)
theorem run_mak {E : XK} {pins : List (Addr × Obj)} {σ : L2.St} {H : Hp} {s : Shared} {Q : VK} {us : List Value} {ys : List V} (M : L2.Mk X.K C f) (F : FnOk X.prog X.w X.K X.mg X.base CX k f fd ps sp) (room : Room (k + 1) X.A) (hb : Binds X.K fd ps []) (out : PassesAt CX X σ E) (I0 : Inv X pins σ H s) (rs : Vals ys us)
    (q0 : ∀ n dn, H n = none → H dn = none → dn ≠ n → sp (.ref n :: ys) (upd (upd H dn (.own n)) n (.ins C dn [])) (fun v H2 => v = .non ∧ Q (.ref n) H2) E) : wpAny (model X.prog X.w) X.A (call (.ref C) us) (EP X pins σ Q) X.xe s := by
  have want := q0 (s.heap.objs.size + 1) s.heap.objs.size (I0.hok.fresh (Nat.le_succ _)) (I0.hok.fresh (Nat.le_refl _)) (Nat.ne_of_lt (Nat.lt_succ_self _))
  have J := Inv.made (C := C) I0
  have rr : Vals (V.ref (s.heap.objs.size + 1) :: ys) (Value.ref (s.heap.objs.size + 1) :: us) := .cons rfl rs
  have len : (Value.ref (s.heap.objs.size + 1) :: us).length = ps.length := by rw [← rr.length]; exact F.len _ _ _ _ want
  have b := hb _ (Value.ref (s.heap.objs.size + 1) :: us) J.kIn (by rw [List.append_nil]; exact len)
  rw [List.append_nil] at b
  refine wpAny_call (make_map (f := f) I0.kIn M.makes M.init (beq_iff_eq.mp M.fn) (codeAny_mono (F.run _ X.stack _ _ ⟨Value.ref (s.heap.objs.size + 1) :: us, []⟩ _ _ _ E (room.make C us []) (J.env0.make C us []) b rr want) fun r t z => ?_))
  cases r with
  | error er => exact out pins _ _ er t J z
  | ok fl =>
    cases fl with
    | ret u => obtain ⟨v, H3, J3, rv, ev, q3⟩ := J.after z; subst ev; exact ⟨rv, ⟨V.ref (s.heap.objs.size + 1), H3, J3, rfl, q3⟩⟩
    | next => exact z.elim
    | brk => exact z.elim
    | cont => exact z.elim
theorem pe_mak (M : L2.Mk X.K C f) (F : FnOk X.prog X.w X.K X.mg X.base CX k f fd ps sp) (room : Room (k + 1) X.A) (hg : Gl X x) (hm : X.mg x = some (.ref C)) (hb : Binds X.K fd ps []) (out : ∀ σ, PassesAt CX X σ (W σ)) (args : PA X (e :: es) ta)
    (hd : (x == ("__debug__" : Str)) = false := by decide) (h1 : starEach (e :: es) X.env = (false, eval e X.env) :: starEach es X.env := by rfl) (h2 : (backTo pos (starEach es X.env)).any (·.1) = false := by rfl) : PE X (.Call (.Name x p) (e :: es) [] pos) (tMak C sp W ta) := by
  refine ⟨fun pins s σ H Q I0 q0 => wpAny_Call_Name_kw (ld_glob I0 hg hm (PySem.W.callWith_K (h₀ := X.base) I0.ok.mod.kin M.kp (thn (args.run pos pins s σ H _ I0 q0) fun us s1 ⟨ys, H1, I1, rs, q1⟩ => ⟨I1.kIn, ?_⟩) h1 h2) hd)⟩
  exact run_mak M F room hb (out σ) I1 rs q1
theorem pass0S {X : Cx} : ∀ σ : L2.St, PassesAt (L2.CX X.prog X.w) X σ ((fun _ => fun _ _ _ => False) σ) := fun σ pins H s er t I z => passLF (X := X) pins σ H s er t I z
end
/-! ### sum, max, min of a tuple -/
section
variable {prog : Program} {w : World} {A : Around} {E : Value → Shared → Prop} {s : Shared} {l : Addr} {xs : Array (Int × Tok)} {its : List Value} {ns : List Int}
theorem iter_ints {Q : Value → Shared → Prop} (hl : s.heap.IsTuple l (intItems xs))
    (h : ∀ t : Shared, t = { s with heap := s.heap.push { cls := .type "tuple_iterator", data := .fields #[.ref l, .int 0 0] } } → (t.heap.IsTupleIter s.heap.objs.size l 0 ∧ t.heap.IsTuple l (intItems xs)) → (∀ b ∈ [s.heap.objs.size, l], b < t.heap.objs.size) → l ≠ s.heap.objs.size → (∀ b o, s.heap.get? b = some o → b ∉ [s.heap.objs.size] ∧ t.heap.get? b = some o) → Q (.ref s.heap.objs.size) t) : wpAny (model prog w) A (pyIter (.ref l)) Q E s := by
  have below : l < s.heap.objs.size := by obtain ⟨_, e, _⟩ := hl; exact Heap.lt_size e
  refine wpAny_pyIter_tuple hl (h _ rfl ⟨⟨_, Heap.get?_push_size _ rfl, rfl, rfl⟩, hl.push _⟩ (fun b hb => ?_) (Nat.ne_of_lt below) fun b o e => ⟨fun z => ?_, Heap.get?_push_of_some _ e⟩)
  · show b < (s.heap.push _).objs.size
    rw [Heap.size_push]
    rcases List.mem_cons.mp hb with z | z
    · rw [z]; exact Nat.lt_succ_self _
    · rw [List.mem_singleton.mp z]; exact Nat.lt_succ_of_lt below
  · exact Nat.ne_of_lt (Heap.lt_size e) (List.mem_singleton.mp z)
theorem sum_tup {Q : Value → Shared → Prop} (hh : A.handled = none) (hl : s.heap.IsTuple l its.toArray) (hi : IntsAre its ns) (h : ∀ h' tk t', (∀ b o, s.heap.get? b = some o → h'.get? b = some o) → Q (.int ns.sum t') { s with heap := h', toks := tk }) : wpAny (model prog w) A (call (.builtin "sum") [.ref l]) Q E s := by
  obtain ⟨xs, e⟩ := hi.allInts.items
  have hn : numsOf (intItems xs).toList = ns := by rw [← e]; exact hi.numsOf
  rw [nums_intItems] at hn
  rw [e] at hl
  refine call_sum_walkG (iter_ints hl fun t et st below ne old => ?_)
  subst et
  refine ⟨_, _, _, _, _, _, numAt xs, rfl, Walks.tuple (A := A.in1) hh _ l ne (intItems xs), st, below, (fun _ _ => intItems_at), fun h' tk t' hk => ?_⟩
  have z := h h' tk t' fun b o eb => hk b o (old b o eb).1 (old b o eb).2
  have es : preSum (numAt xs) (intItems xs).size = ns.sum := by rw [← hn, show (intItems xs).size = xs.size by simp [intItems], preSum_eq, List.take_of_length_le (by simp)]
  rw [es]
  exact z
end
section
variable {X : Cx}
def rSumT (K : PySem.W.Frag) : List V → Hp → VK → Prop := fun vs H Q => ∃ (a : Addr) (ns : List Int), vs = [V.ref a] ∧ SqT K H a (ns.map V.int) ∧ Q (.int ns.sum) H
theorem cr_sumT (hc : X.calm = true) : CallR X (.builtin "sum") (rSumT X.K) := by
  rintro pins s σ H vs us Q I r ⟨a, ns, rfl, hs, q⟩
  obtain ⟨its, rv, hl, _⟩ := I.tuple hs
  rw [Vals.ref1 r]
  exact sum_tup (I.ok.hd hc) hl rv.ints fun h' tk t' hk => ⟨.int _, H, I.kept hk, ⟨_, rfl⟩, q⟩
def rSumU (K : PySem.W.Frag) : List V → Hp → VK → Prop := fun vs H Q => rSum K vs H Q ∨ rSumT K vs H Q
theorem cr_sumUK (K : PySem.W.Frag) (hc : X.calm = true) (h : X.K = K := by rfl) : CallR X (.builtin "sum") (rSumU K) := h ▸ CallR.or (cr_sum hc) (cr_sumT hc)
end
end EL
namespace EL
open PySem PySem.Spec PyProof.Rows L2
theorem ps_fldK {X : Cx} {o value : Expr} {f : Str} {pos pos' : Pos} {ta tv : TE} (K : PySem.W.Frag) (ha : PE X o ta) (hv : PE X value tv) (hs : swapsWith value (some (.Attribute o f pos')) pos.line X.env = pure false) (h : X.K = K := by rfl) : PS X (.Assign [.Attribute o f pos'] value pos) (sFld K ta tv f) := h ▸ ps_fld ha hv hs
end EL

namespace EL
open PySem PySem.Spec PyProof.Rows L2 Px
/-! ### instances of own classes -/
structure OwnC (K : PySem.W.Frag) (C : Addr) : Prop where
  cl : Cls K C
  ha : PySem.W.findIn K (.ref C) "__class__" = some (some (.builtin "object.__class__"))
  hn : PySem.W.specialIn K (.builtin "object.__class__") "__get__" = some (some (.builtin "getset_descriptor.__get__"))
  ht : PySem.W.takesIn K (.builtin "object.__class__") = some true
  hm : PySem.W.mroIn K C (.type "object") = some true
  self : PySem.W.kitOne K (.ref C) (.ref C) = some true
/-- its fields by name -/
def pIns (C : Addr) (names : List Str) {τ : Type} (r : PRow τ) : PTy τ :=
  ⟨fun H v d => ∃ (a dx : Addr) (fs : List (Str × V)), v = .ref a ∧ H a = some (.ins C dx fs) ∧ fs.map (fun z => z.1) = names ∧ r.rep H (fs.map (fun z => z.2)) d, fun {H H' v d} s h => by
    obtain ⟨a, dx, fs, e, h, n, q⟩ := h
    exact ⟨a, dx, fs, e, s _ _ h, n, r.mono s q⟩⟩
theorem lookup_at {f : Str} : ∀ {fs : List (Str × V)} {names : List Str} {j : Nat}, fs.map (·.1) = names → names.findIdx? (· == f) = some j → fs.lookup f = (fs.map (·.2))[j]?
  | [], _, j, h, hj => by
    subst h
    simp at hj
  | (g, x) :: r, _, j, h, hj => by
    subst h
    rw [List.map_cons, List.findIdx?_cons] at hj
    by_cases c : (g == f) = true
    · rw [if_pos c] at hj
      cases hj
      have c2 : (f == g) = true := by
        have := beq_iff_eq.mp c
        subst this
        exact beq_self_eq_true g
      rw [List.lookup_cons, c2]
      rfl
    · rw [if_neg c] at hj
      have c2 : (f == g) = false := by
        rw [Bool.eq_false_iff]
        intro z
        have := beq_iff_eq.mp z
        subst this
        exact c (beq_self_eq_true f)
      obtain ⟨i, hi, rfl⟩ := Option.map_eq_some_iff.mp hj
      rw [List.lookup_cons, c2, lookup_at rfl hi]
      rfl
theorem lookup_no {f : Str} : ∀ {fs : List (Str × V)} {names : List Str}, fs.map (·.1) = names → names.any (· == f) = false → fs.lookup f = none
  | [], _, _, _ => rfl
  | (g, x) :: r, _, h, hj => by
    subst h
    rw [List.map_cons, List.any_cons, Bool.or_eq_false_iff] at hj
    have c2 : (f == g) = false := by
      rw [Bool.eq_false_iff]
      intro z
      have := beq_iff_eq.mp z
      subst this
      rw [beq_self_eq_true] at hj
      cases hj.1
    rw [List.lookup_cons, c2]
    exact lookup_no rfl hj.2
def FldV (K : PySem.W.Frag) (f : Str) (x : V) (H1 : Hp) (Q : VK) : Prop := ∃ a C dx fs v, x = .ref a ∧ H1 a = some (.ins C dx fs) ∧ Cls K C ∧ NoAttr K C f ∧ fs.lookup f = some v ∧ Q v H1
def MthV (C : Addr) (m : Str) (y : V) (H1 : Hp) (A : Prop) : Prop := ∃ a dx fs, y = .ref a ∧ H1 a = some (.ins C dx fs) ∧ fs.lookup m = none ∧ A
def MakV (C : Addr) (sp : Sp) (E : XK) (ys : List V) (H1 : Hp) (Q : VK) : Prop := ∀ n dn, H1 n = none → H1 dn = none → dn ≠ n →
  sp (.ref n :: ys) (upd (upd H1 dn (.own n)) n (.ins C dn [])) (fun v H2 => v = .non ∧ Q (.ref n) H2) E
def SetF (K : PySem.W.Frag) (f : Str) (x y : V) (H2 : Hp) (R : Hp → Prop) : Prop := ∃ a C dx fs, x = .ref a ∧ H2 a = some (.ins C dx fs) ∧ Cls K C ∧ NoAttr K C f ∧ fs.length < 1000 ∧ R (upd H2 a (.ins C dx (putF f y fs)))
section
variable {K : PySem.W.Frag} {σ : L2.St} {H W : Hp} {Q : VK} {te tv : TE} {ts : TA} {C : Addr} {m f : Str} {sp : Sp} {We : L2.St → XK} {E : XK} {x y v : V} {names : List Str} {τ α : Type} {r : PRow τ} {d : τ} {p : PTy α} {g : τ → α} {j : Nat} {ys : List V}
theorem tFld_i (h : te σ H fun x H1 => FldV K f x H1 Q) : tFld K te f σ H Q := h
theorem tMth_i (h : te σ H fun y H1 => MthV C m y H1 (ts σ H1 fun ys H2 => sp (y :: ys) H2 Q (We σ))) : tMth C m sp We te ts σ H Q := by
  refine (congrFun (congrFun (congrFun (show tMth C m sp We te ts = fun σ H Q => te σ H fun y H1 => MthV C m y H1 (ts σ H1 fun ys H2 => sp (y :: ys) H2 Q (We σ)) from ?_) σ) H) Q).mpr h
  rfl
theorem tMak_i (h : ts σ H fun ys H1 => MakV C sp (We σ) ys H1 Q) : tMak C sp We ts σ H Q := h
theorem sFld_j {N : L2.St → Hp → Prop} {Rt : VK} {Bk Ct : L2.St → Hp → Prop} (h : tv σ H fun y H1 => te σ H1 fun x H2 => SetF K f x y H2 (N σ)) : sFld K te tv f ⟨N, Rt, Bk, Ct⟩ σ H := h
theorem fldS (h : (pIns C names r).rep W v d) (s : Same W H) (c : Cls K C) (n : NoAttr K C f) (hg : RGet r j p g) (hj : names.findIdx? (· == f) = some j) (k : ∀ u, p.rep W u (g d) → Q u H) : FldV K f v H Q := by
  obtain ⟨a, dx, fs, rfl, e, hn, hr⟩ := h
  obtain ⟨u, hu, ru⟩ := hg W _ d hr
  exact ⟨a, C, dx, fs, u, rfl, s _ _ e, c, n, (lookup_at hn hj).trans hu, k u ru⟩
theorem fldI {fv : α → V} (h : (pIns C names r).rep W v d) (s : Same W H) (c : Cls K C) (n : NoAttr K C f) (hg : RGet r j (pI fv) g) (hj : names.findIdx? (· == f) = some j) (k : Q (fv (g d)) H) : FldV K f v H Q :=
  fldS h s c n hg hj fun u hu => by rw [show u = fv (g d) from hu]; exact k
theorem mthS {A : Prop} (h : (pIns C names r).rep W v d) (s : Same W H) (hm : names.any (· == m) = false) (k : A) : MthV C m v H A := by
  obtain ⟨a, dx, fs, rfl, e, hn, _⟩ := h
  exact ⟨a, dx, fs, rfl, s _ _ e, lookup_no hn hm, k⟩
theorem makS (h : ∀ n dn H2, H n = none → Same H H2 → Same H (del H2 n) → H2 n = some (.ins C dn []) → sp (.ref n :: ys) H2 (fun v H3 => v = .non ∧ Q (.ref n) H3) E) : MakV C sp E ys H Q := fun n dn hn hd ne => by
  refine h n dn _ hn (Same.upd (Same.new hd) hn) (fun b u e => ?_) upd_same
  have hb : b ≠ n := ne_of_none e hn
  rw [del_ne hb, upd_ne hb, upd_ne (ne_of_none e hd)]
  exact e
theorem setF_i {a dx : Addr} {fs fs' : List (Str × V)} {R : Hp → Prop} (e : H a = some (.ins C dx fs)) (c : Cls K C) (n : NoAttr K C f) (hp : putF f y fs = fs') (hl : fs.length < 1000) (h : ∀ H', Off a H H' → H' a = some (.ins C dx fs') → R H') : SetF K f (.ref a) y H R :=
  ⟨a, C, dx, fs, rfl, e, c, n, hl, h _ off_upd (by rw [upd_same, hp])⟩
theorem isiC (h : (pIns C names r).rep W v d) (s : Same W H) (o : OwnC K C) (k : Q (.bl true) H) : rIsiU K [v, .ref C] H Q := by
  obtain ⟨a, dx, fs, rfl, e, _, _⟩ := h
  exact .inl ⟨_, _, _, _, true, rfl, .own C, .base (.ins (s _ _ e) o.cl o.ha o.hn o.ht o.hm), o.self, k⟩
/-- what a constructor gives -/
def RetF (ps : List Addr) (C : Addr) (dx n : Addr) (names : List Str) (r : PRow τ) (H : Hp) (Q : VK) (d : τ) : Prop := ∀ H' fs, Same (del H n) H' → H' n = some (.ins C dx fs) → fs.map (·.1) = names → r.rep (dels H' ps) (fs.map (·.2)) d → Q .non H'
end
/-! ### None or a thing -/
def optG {α : Type} [Inhabited α] (o : Option α) : α := o.getD default
section
variable {K : PySem.W.Frag} {H W : Hp} {Q : VK} {v : V} {α β : Type} {p : PTy α} {r : PRow β} {o : Option α} {d : α}
theorem optNone : (pOpt p).rep H .non none := rfl
theorem optSome (h : p.rep H v d) (n : v ≠ .non) : (pOpt p).rep H v (some d) := ⟨h, n⟩
theorem tupNe {d : β} (h : (pTup K r).rep H v d) : v ≠ .non := by obtain ⟨a, vs, rfl, _⟩ := h; exact fun z => nomatch z
theorem listNe {xs : List α} (h : (pList p).rep H v xs) : v ≠ .non := by obtain ⟨a, vs, rfl, _⟩ := h; exact fun z => nomatch z
theorem froNe {xs : List α} (h : (pFro K p).rep H v xs) : v ≠ .non := by obtain ⟨a, vs, rfl, _⟩ := h; exact fun z => nomatch z
theorem vtNe {xs : List α} (h : (pVt K p).rep H v xs) : v ≠ .non := by obtain ⟨a, vs, rfl, _⟩ := h; exact fun z => nomatch z
theorem insNe {C : Addr} {names : List Str} {d : β} (h : (pIns C names r).rep H v d) : v ≠ .non := by obtain ⟨a, dx, fs, rfl, _⟩ := h; exact fun z => nomatch z
theorem optGet [Inhabited α] (h : (pOpt p).rep W v o) (hc : o.isSome = true) : p.rep W v (optG o) := by
  cases o with
  | none => cases hc
  | some d => exact h.1
theorem optIs (h : (pOpt p).rep W v o) : decide (v = .non) = o.isNone := by
  cases o with
  | none => rw [show v = .non from h]; rfl
  | some d => exact decide_eq_false h.2
theorem isN_p (h : (pOpt p).rep W v o) (k : Q (.bl o.isNone) H) : rIsN v .non H Q := rIsN_i (by rw [optIs h]; exact k)
theorem notN_p (h : (pOpt p).rep W v o) (k : Q (.bl (!o.isNone)) H) : rNotN v .non H Q := rNotN_i (by rw [optIs h]; exact k)
theorem isiT {d : β} (s : Same W H) (h : (pTup K r).rep W v d) (k : Q (.bl true) H) : rIsiU K [v, .ty "tuple"] H Q := by
  obtain ⟨a, vs, rfl, hs, _⟩ := h
  exact isi_tupS (s.seqT hs) k
theorem isiVt {xs : List α} (s : Same W H) (h : (pVt K p).rep W v xs) (k : Q (.bl true) H) : rIsiU K [v, .ty "tuple"] H Q := by
  obtain ⟨a, vs, rfl, hs, _⟩ := h
  exact isi_tupS (s.seqT hs) k
theorem isi_non_tup (h : Q (.bl false) H) : rIsiU K [.non, .ty "tuple"] H Q := isi_ty (.base .non) (by decide +kernel) h
theorem isi_str_str {x : Str} (h : Q (.bl true) H) : rIsiU K [.str x, .ty "str"] H Q := isi_ty (.base (.str x)) (by decide +kernel) h
theorem isiOT {o : Option β} (s : Same W H) (h : (pOpt (pTup K r)).rep W v o) (k : Q (.bl o.isSome) H) : rIsiU K [v, .ty "tuple"] H Q := by
  cases o with
  | none => rw [show v = .non from h]; exact isi_non_tup k
  | some d => exact isiT s h.1 k
end
/-! ### lists unpacked; greatest, least, sums -/
theorem gLst_i {K : PySem.W.Frag} {σ : L2.St} {H W : Hp} {R : L2.St → Hp → Prop} {n : Nat} {t : TGs} {α : Type} {p : PTy α} {v : V} {xs : List α} (hq : Sl K p H W v xs) (k : ∀ vs, AllR p W vs xs → vs.length = n ∧ t vs σ H R) : gLst K n t v σ H R := by
  obtain ⟨a, vs, rfl, hs, hr, _⟩ := hq
  obtain ⟨h1, h2⟩ := k vs hr
  exact ⟨a, vs, rfl, hs, h1, h2⟩
def maxL (xs : List Int) : Int := xs.max?.getD 0
def minL (xs : List Int) : Int := xs.min?.getD 0
section
variable {K : PySem.W.Frag} {H W : Hp} {Q : VK} {v : V} {ns : List Int}
theorem maxS (hq : Sl K pInt H W v ns) (hn : 0 < ns.length) (h : Q (.int (maxL ns)) H) : rMax K [v] H Q := by
  obtain ⟨a, vs, rfl, hs, hr, _⟩ := hq
  rw [hr.imm] at hs
  refine ⟨a, ns, rfl, hs, hn, fun m hm ha => ?_⟩
  have e : ns.max? = some m := List.max?_eq_some_iff.mpr ⟨hm, ha⟩
  unfold maxL at h
  rw [e] at h
  exact h
theorem minS (hq : Sl K pInt H W v ns) (hn : 0 < ns.length) (h : Q (.int (minL ns)) H) : rMin K [v] H Q := by
  obtain ⟨a, vs, rfl, hs, hr, _⟩ := hq
  rw [hr.imm] at hs
  refine ⟨a, ns, rfl, hs, hn, fun m hm ha => ?_⟩
  have e : ns.min? = some m := List.min?_eq_some_iff.mpr ⟨hm, ha⟩
  unfold minL at h
  rw [e] at h
  exact h
theorem sumU (ns : List Int) (hq : Sl K pInt H W v ns) (h : Q (.int ns.sum) H) : rSumU K [v] H Q := .inl (sumS ns hq h)
theorem sumUT (ns : List Int) (hq : St' K pInt H W v ns) (h : Q (.int ns.sum) H) : rSumU K [v] H Q := by
  obtain ⟨a, vs, rfl, hs, hr, _⟩ := hq
  rw [hr.imm] at hs
  exact .inr ⟨a, ns, rfl, hs, h⟩
theorem rgS' {n : Int} (hn : 0 ≤ n ∧ n ≤ 1000000) (h : ∀ q H', H q = none → Same H H' → ∀ us, H' q = some (.lst us) → AllR pInt W us (rangeL 0 n) → (rangeL 0 n).length ≤ LIM → Q (.ref q) H') : Rg1v (.int n) H Q := by
  refine rg1_i hn fun q H' nq s e => ?_
  have e2 : rgV 0 n = (rangeL 0 n).map V.int := by unfold rgV rangeL; rw [List.map_map]; rfl
  rw [e2] at e
  refine h q H' nq s _ e (AllR.ofImm _) ?_
  rw [rangeL_len]
  exact Nat.le_trans (by omega : _ ≤ 1000000) (Nat.le_of_ble_eq_true rfl)
end
/-! ### a op b op c -/
section
variable {K : PySem.W.Frag} {σ : L2.St} {H : Hp} {Q : VK}
/-- the third part pure -/
theorem chainP {r1 r2 : R2} {ta tb tc : TE} {x y : V} {b c : Bool} (h1 : ∀ R : VK, R x H → ta σ H R) (h2 : ∀ R : VK, R y H → tb σ H R) (h3 : ∀ R : VK, R (.bl b) H → r1 x y H R)
    (h4 : b = true → ∀ R : VK, R (.bl c) H → tc σ H fun w H4 => r2 y w H4 R) (h : Q (.bl (b && c)) H) : tChain r1 r2 ta tb tc σ H Q := by
  refine tChain_i (h1 _ (h2 _ (h3 _ (IsBl_i ?_))))
  cases b
  · exact Br_f h
  · exact Br_t (h4 rfl _ h)
end
end EL

namespace Nm
/-! ### primes by trial -/
def noDiv : Nat → Nat → Nat → Bool
  | 0, _, _ => true
  | f + 1, d, n => if n < d * d then true else if n % d = 0 then false else noDiv f (d + 2) n
def isPN (n : Nat) : Bool := decide (3 ≤ n) && (decide (n % 2 = 1) && noDiv n 3 n)
def isP (n : Int) : Bool := isPN n.toNat
theorem noDiv_big {f d n : Nat} (h : n < d * d) : noDiv f d n = true := by
  cases f with
  | zero => rfl
  | succ f => unfold noDiv; rw [if_pos h]
theorem noDiv_hit {f d n : Nat} (h : d * d ≤ n) (h2 : n % d = 0) : noDiv (f + 1) d n = false := by
  unfold noDiv
  rw [if_neg (by omega), if_pos h2]
theorem noDiv_go {f d n : Nat} (h : d * d ≤ n) (h2 : n % d ≠ 0) : noDiv (f + 1) d n = noDiv f (d + 2) n := by
  rw [noDiv, if_neg (by omega), if_neg h2]
/-- no divisor from d on in steps of two, up to the root -/
theorem noDiv_all : ∀ {f d n : Nat}, noDiv f d n = true → n < d + 2 * f → ∀ k, (d + 2 * k) * (d + 2 * k) ≤ n → n % (d + 2 * k) ≠ 0
  | 0, d, n, _, hf, k, hk => by
    have : d + 2 * k ≤ (d + 2 * k) * (d + 2 * k) := Nat.le_mul_self _
    omega
  | f + 1, d, n, h, hf, k, hk => by
    by_cases hb : n < d * d
    · exfalso
      have : d * d ≤ (d + 2 * k) * (d + 2 * k) := Nat.mul_le_mul (by omega) (by omega)
      omega
    · by_cases hm : n % d = 0
      · rw [noDiv_hit (by omega) hm] at h
        cases h
      · rw [noDiv_go (by omega) hm] at h
        cases k with
        | zero => simpa using hm
        | succ k =>
          have e : d + 2 * (k + 1) = (d + 2) + 2 * k := by omega
          rw [e] at hk ⊢
          exact noDiv_all h (by omega) k hk
theorem mod_of_dvd_lt {n d : Nat} (h : n % d = 0) : d ∣ n := Nat.dvd_of_mod_eq_zero h
/-- a number that the trial lets has no divisor but 1 and itself -/
theorem isPN_prime {n : Nat} (h : isPN n = true) : 3 ≤ n ∧ n % 2 = 1 ∧ ∀ d, 1 < d → d < n → n % d ≠ 0 := by
  unfold isPN at h
  simp only [Bool.and_eq_true, decide_eq_true_eq] at h
  obtain ⟨h3, h2, hn⟩ := h
  refine ⟨h3, h2, ?_⟩
  -- no small divisor
  have small : ∀ d, 1 < d → d * d ≤ n → n % d ≠ 0 := by
    intro d hd hdd hm
    have hdv : d ∣ n := Nat.dvd_of_mod_eq_zero hm
    by_cases ho : d % 2 = 0
    · have : 2 ∣ n := Nat.dvd_trans (Nat.dvd_of_mod_eq_zero ho) hdv
      have := Nat.mod_eq_zero_of_dvd this
      omega
    · have e : d = 3 + 2 * ((d - 3) / 2) := by omega
      have q := noDiv_all hn (by omega) ((d - 3) / 2)
      rw [← e] at q
      exact q hdd hm
  intro d hd hlt hm
  have hdv : d ∣ n := Nat.dvd_of_mod_eq_zero hm
  obtain ⟨c, hc⟩ := hdv
  by_cases hdd : d * d ≤ n
  · exact small d hd hdd hm
  · have hcd : c < d := by
      apply Nat.lt_of_mul_lt_mul_left (a := d)
      omega
    have hc1 : 1 < c := by
      rcases Nat.lt_or_ge 1 c with z | z
      · exact z
      · exfalso
        have : c = 0 ∨ c = 1 := by omega
        rcases this with rfl | rfl
        · omega
        · omega
    have hcc : c * c ≤ n := by
      rw [hc]
      exact Nat.mul_le_mul_right c (by omega)
    refine small c hc1 hcc ?_
    rw [hc]
    exact Nat.mul_mod_left d c
end Nm

namespace Nm
/-! ### residues -/
theorem mul_mod_r (x y p : Int) : x * (y % p) % p = x * y % p := by rw [Int.mul_emod, Int.emod_emod, ← Int.mul_emod]
theorem mul_mod_l (x y p : Int) : (x % p) * y % p = x * y % p := by rw [Int.mul_emod, Int.emod_emod, ← Int.mul_emod]
theorem mod_of_eq {a b p k : Int} (h : a = b + p * k) : a % p = b % p := by rw [h, Int.add_mul_emod_self_left]
theorem eq_of_mod {a b p : Int} (h : a % p = b % p) : ∃ k, a = b + p * k := ⟨a / p - b / p, by
  have h1 := Int.mul_ediv_add_emod a p
  have h2 := Int.mul_ediv_add_emod b p
  grind⟩
theorem mod_self {a p : Int} (h : 0 ≤ a ∧ a < p) : a % p = a := Int.emod_eq_of_lt h.1 h.2
theorem inv_unique {p x y z : Int} (hy : 0 ≤ y ∧ y < p) (hz : 0 ≤ z ∧ z < p) (h1 : x * y % p = 1) (h2 : x * z % p = 1) : y = z := by
  have h3 : x * y % p = x * z % p := h1.trans h2.symm
  obtain ⟨a, ha⟩ := eq_of_mod h3
  have e := Int.mul_ediv_add_emod (x * y) p
  have q : y % p = z % p := by
    refine mod_of_eq (k := y * a - (x * y / p) * (y - z)) ?_
    rw [h1] at e
    grind
  rw [mod_self hy, mod_self hz] at q
  exact q
/-- the residue whose product with x is 1 (0 if there is none) -/
def inv (p x : Int) : Int := (((List.range p.toNat).find? fun (y : Nat) => decide (x * (y : Int) % p = 1)).getD 0 : Nat)
theorem inv_eq {p x y : Int} (hy : 0 ≤ y ∧ y < p) (h : x * y % p = 1) : inv p x = y := by
  unfold inv
  have hm : y.toNat ∈ List.range p.toNat := List.mem_range.mpr (by omega)
  cases e : (List.range p.toNat).find? fun (y : Nat) => decide (x * (y : Int) % p = 1) with
  | none =>
    have q := List.find?_eq_none.mp e _ hm
    rw [Int.toNat_of_nonneg hy.1] at q
    simp [h] at q
  | some z =>
    have q := List.find?_some e
    have q2 := List.mem_of_find?_eq_some e
    have hz := List.mem_range.mp q2
    simp only [decide_eq_true_eq] at q
    show ((z : Nat) : Int) = y
    exact inv_unique ⟨by omega, by omega⟩ hy q h
/-- a common divisor of an odd prime and a smaller number is 1 -/
theorem gcd_prime {p x : Nat} (h : isPN p = true) (h1 : 1 ≤ x) (h2 : x < p) : Nat.gcd x p = 1 := by
  have hp := (isPN_prime h).2.2 (Nat.gcd x p)
  have d1 : Nat.gcd x p ∣ x := Nat.gcd_dvd_left x p
  have d2 : Nat.gcd x p ∣ p := Nat.gcd_dvd_right x p
  have l1 : Nat.gcd x p ≤ x := Nat.le_of_dvd (by omega) d1
  have l2 : 0 < Nat.gcd x p := Nat.gcd_pos_of_pos_left _ (by omega)
  rcases Nat.lt_or_ge 1 (Nat.gcd x p) with z | z
  · exact absurd (Nat.mod_eq_zero_of_dvd d2) (hp z (by omega))
  · omega
theorem isP_nat {p : Int} (h : isP p = true) : isPN p.toNat = true ∧ 3 ≤ p := by
  have h' : isPN p.toNat = true := h
  have := (isPN_prime h').1
  exact ⟨h', by omega⟩
/-- the word of the loop that finds the inverse -/
structure InvAt (p x r o f l : Int) : Prop where
  r0 : 0 < r
  rb : r < p
  o0 : 0 ≤ o
  ob : o ≤ p
  g : Nat.gcd r.toNat o.toNat = 1
  hf : ∃ k, f * x = r + p * k
  hl : ∃ k, l * x = o + p * k
theorem invAt_start {p x : Int} (hp : isP p = true) (h1 : 1 ≤ x) (h2 : x ≤ p - 1) : InvAt p x x p 1 0 := by
  have hq := isP_nat hp
  exact ⟨by omega, by omega, by omega, by omega, gcd_prime hq.1 (by omega) (by omega), ⟨0, by grind⟩, ⟨-1, by grind⟩⟩
theorem invAt_step {p x r o f l : Int} (h : InvAt p x r o f l) (hr : 1 < r) : InvAt p x (o - o / r * r) r (l - o / r * f) f ∧ o - o / r * r < r ∧ 0 ≤ o / r ∧ o / r ≤ o := by
  have e : o - o / r * r = o % r := by
    have := Int.mul_ediv_add_emod o r
    grind
  have hm0 : 0 ≤ o % r := Int.emod_nonneg _ (by omega)
  have hm1 : o % r < r := Int.emod_lt_of_pos _ (by omega)
  have hg : Nat.gcd (o % r).toNat r.toNat = 1 := by
    have e2 : (o % r).toNat = o.toNat % r.toNat := Int.toNat_emod h.o0 (by omega)
    rw [e2]
    have q2 := h.g
    rw [Nat.gcd_rec] at q2
    exact q2
  have hpos : 0 < o % r := by
    rcases Int.lt_or_eq_of_le hm0 with z | z
    · exact z
    · exfalso
      rw [← z] at hg
      simp at hg
      omega
  obtain ⟨k1, h1⟩ := h.hf
  obtain ⟨k2, h2⟩ := h.hl
  refine ⟨⟨by rw [e]; exact hpos, by rw [e]; have := h.rb; omega, by omega, by have := h.rb; omega, by rw [e]; exact hg, ⟨k2 - o / r * k1, by grind⟩, ⟨k1, h1⟩⟩, by rw [e]; exact hm1, ?_, ?_⟩
  · exact Int.ediv_nonneg h.o0 (by omega)
  · exact Int.ediv_le_self _ h.o0
theorem invAt_end {p x r o f l : Int} (h : InvAt p x r o f l) (hr : ¬ 1 < r) : x * (f % p) % p = 1 ∧ 0 ≤ f % p ∧ f % p < p ∧ inv p x = f % p := by
  have h0 := h.r0
  have hb := h.rb
  have e : r = 1 := by omega
  obtain ⟨k, hk⟩ := h.hf
  have q : x * (f % p) % p = 1 := by
    rw [mul_mod_r, mod_of_eq (b := 1) (k := k) (by grind), Int.emod_eq_of_lt (by omega) (by omega)]
  have b0 : 0 ≤ f % p := Int.emod_nonneg _ (by omega)
  have b1 : f % p < p := Int.emod_lt_of_pos _ (by omega)
  exact ⟨q, b0, b1, inv_eq ⟨b0, b1⟩ q⟩
theorem inv_of_word {p x : Int} : ∀ (n : Nat) (r o f l : Int), InvAt p x r o f l → r.toNat ≤ n → x * inv p x % p = 1 ∧ 0 ≤ inv p x ∧ inv p x < p
  | 0, r, o, f, l, h, hn => by
    have := h.r0
    omega
  | n + 1, r, o, f, l, h, hn => by
    by_cases hr : 1 < r
    · obtain ⟨h2, hlt, _, _⟩ := invAt_step h hr
      exact inv_of_word n _ _ _ _ h2 (by have := h2.r0; omega)
    · obtain ⟨h1, h2, h3, h4⟩ := invAt_end h hr
      rw [h4]
      exact ⟨h1, h2, h3⟩
theorem inv_spec {p x : Int} (hp : isP p = true) (h1 : 1 ≤ x) (h2 : x ≤ p - 1) : x * inv p x % p = 1 ∧ 0 ≤ inv p x ∧ inv p x < p :=
  inv_of_word x.toNat _ _ _ _ (invAt_start hp h1 h2) (Nat.le_refl _)
/-- the one k with a k = b -/
theorem quot_hit {p a b : Int} (hp : isP p = true) (h1 : 1 ≤ a) (h2 : a ≤ p - 1) (hb : 0 ≤ b ∧ b < p) : a * (b * inv p a % p) % p = b := by
  have q := (inv_spec hp h1 h2).1
  rw [mul_mod_r]
  have e : a * (b * inv p a) = b * (a * inv p a) := by grind
  rw [e, Int.mul_emod, q, Int.mul_one, Int.emod_emod, mod_self hb]
theorem quot_unique {p a b k : Int} (hp : isP p = true) (h1 : 1 ≤ a) (h2 : a ≤ p - 1) (hk : 0 ≤ k ∧ k < p) (h : a * k % p = b) : k = b * inv p a % p := by
  have q := (inv_spec hp h1 h2).1
  rw [← h, mul_mod_l]
  have e : a * k * inv p a = k * (a * inv p a) := by grind
  rw [e, Int.mul_emod, q, Int.mul_one, Int.emod_emod, mod_self hk]
end Nm

namespace Nm
/-! ### lists over a range -/
theorem filt_succ {f : Nat → Int} {P : Int → Bool} {i : Nat} :
    ((List.range (i + 1)).map f).filter P = ((List.range i).map f).filter P ++ (if P (f i) = true then [f i] else []) := by
  rw [List.range_succ, List.map_append, List.filter_append]
  congr 1
  rw [List.map_singleton, List.filter_cons, List.filter_nil]
/-- the number of values below n that a list holds is at most its length -/
theorem pigeon : ∀ (n : Nat) (L : List Int), (∀ k : Nat, k < n → (k : Int) ∈ L) → n ≤ L.length
  | 0, _, _ => Nat.zero_le _
  | n + 1, L, h => by
    have q := pigeon n (L.erase (n : Int)) fun k hk => by
      refine (List.mem_erase_of_ne (by omega)).mpr (h k (by omega))
    have hm := h n (by omega)
    have e := List.length_erase_of_mem hm
    have : 0 < L.length := List.length_pos_of_mem hm
    omega
/-! ### primes -/
theorem noDiv_of {n : Nat} (h : ∀ d, 1 < d → d < n → n % d ≠ 0) : ∀ (f d : Nat), 1 < d → noDiv f d n = true
  | 0, _, _ => rfl
  | f + 1, d, hd => by
    by_cases c : n < d * d
    · exact noDiv_big c
    · have hlt : d < n := by
        rcases Nat.lt_or_ge d n with z | z
        · exact z
        · exfalso
          have : 2 * d ≤ d * d := Nat.mul_le_mul_right d hd
          omega
      rw [noDiv_go (by omega) (h d hd hlt)]
      exact noDiv_of h f (d + 2) (by omega)
theorem isPN_of {n : Nat} (h3 : 3 ≤ n) (ho : n % 2 = 1) (h : ∀ d, 1 < d → d < n → n % d ≠ 0) : isPN n = true := by
  unfold isPN
  rw [decide_eq_true h3, decide_eq_true ho, noDiv_of h _ _ (by omega)]
  rfl
/-- an odd number that is no prime has a prime divisor up to its root -/
theorem small_div {n : Nat} (h3 : 3 ≤ n) (ho : n % 2 = 1) (h : isPN n = false) : ∃ q, isPN q = true ∧ q * q ≤ n ∧ n % q = 0 := by
  -- some divisor, then the least
  have ex : ∃ d, 1 < d ∧ d < n ∧ n % d = 0 := by
    rcases Classical.em (∃ d, 1 < d ∧ d < n ∧ n % d = 0) with z | z
    · exact z
    · exfalso
      have := isPN_of h3 ho fun d h1 h2 h3 => z ⟨d, h1, h2, h3⟩
      rw [h] at this
      cases this
  have least : ∀ k, (∃ d, d ≤ k ∧ 1 < d ∧ d < n ∧ n % d = 0) → ∃ d, (1 < d ∧ d < n ∧ n % d = 0) ∧ ∀ e, 1 < e → e < d → n % e ≠ 0 := by
    intro k
    induction k with
    | zero =>
      rintro ⟨d, h1, h2, _⟩
      omega
    | succ k ih =>
      rintro ⟨d, h1, h2⟩
      rcases Classical.em (∃ d, d ≤ k ∧ 1 < d ∧ d < n ∧ n % d = 0) with z | z
      · exact ih z
      · refine ⟨d, h2, fun e he1 he2 hz => z ⟨e, by omega, he1, by omega, hz⟩⟩
  obtain ⟨d0, hd0⟩ := ex
  obtain ⟨d, ⟨d1, d2, d3⟩, dl⟩ := least d0 ⟨d0, Nat.le_refl _, hd0⟩
  have dv : d ∣ n := Nat.dvd_of_mod_eq_zero d3
  have dodd : d % 2 = 1 := by
    rcases Nat.mod_two_eq_zero_or_one d with z | z
    · exfalso
      have : 2 ∣ n := Nat.dvd_trans (Nat.dvd_of_mod_eq_zero z) dv
      have := Nat.mod_eq_zero_of_dvd this
      omega
    · exact z
  refine ⟨d, isPN_of (by omega) dodd fun e he1 he2 hz => ?_, ?_, d3⟩
  · exact dl e he1 he2 (Nat.mod_eq_zero_of_dvd (Nat.dvd_trans (Nat.dvd_of_mod_eq_zero hz) dv))
  · obtain ⟨c, hc⟩ := dv
    have c1 : 1 < c := by
      rcases Nat.lt_or_ge 1 c with z | z
      · exact z
      · exfalso
        have : c = 0 ∨ c = 1 := by omega
        rcases this with rfl | rfl <;> omega
    rcases Nat.lt_or_ge c d with z | z
    · exfalso
      exact dl c c1 z (by rw [hc]; exact Nat.mul_mod_left d c)
    · rw [hc]
      exact Nat.mul_le_mul_left d z
def primesTo (m : Int) : List Int := ((List.range (m - 2).toNat).map fun (i : Nat) => 3 + (i : Int)).filter isP
theorem mem_primes {m q : Int} : q ∈ primesTo m ↔ isP q = true ∧ q ≤ m := by
  unfold primesTo
  rw [List.mem_filter, List.mem_map]
  constructor
  · rintro ⟨⟨i, hi, rfl⟩, h⟩
    have := List.mem_range.mp hi
    exact ⟨h, by omega⟩
  · rintro ⟨h, hq⟩
    have := (isP_nat h).2
    exact ⟨⟨(q - 3).toNat, List.mem_range.mpr (by omega), by omega⟩, h⟩
theorem primes_up (m : Int) : (primesTo m).Pairwise (· < ·) := by
  unfold primesTo
  refine List.Pairwise.filter _ ?_
  rw [List.pairwise_map]
  exact List.pairwise_lt_range.imp fun h => by omega
theorem primes_len (m : Int) : (primesTo m).length ≤ (m - 2).toNat := by
  unfold primesTo
  refine Nat.le_trans (List.length_filter_le _ _) ?_
  rw [List.length_map, List.length_range]
  exact Nat.le_refl _
theorem primes_succ {i : Nat} : primesTo (2 + ((i + 1 : Nat) : Int)) = primesTo (2 + (i : Nat)) ++ (if isP (3 + (i : Int)) = true then [3 + (i : Int)] else []) := by
  unfold primesTo
  have e1 : (2 + ((i + 1 : Nat) : Int) - 2).toNat = i + 1 := by omega
  have e2 : (2 + (i : Int) - 2).toNat = i := by omega
  rw [e1, e2]
  exact filt_succ
theorem primes_cut {m n : Int} (h : m ≤ n) : (primesTo n).filter (fun q => decide (q ≤ m)) = primesTo m := by
  unfold primesTo
  rw [List.filter_filter]
  obtain ⟨d, hd⟩ : ∃ d, (n - 2).toNat = (m - 2).toNat + d := ⟨(n - 2).toNat - (m - 2).toNat, by omega⟩
  rw [hd, List.range_add, List.map_append, List.filter_append]
  have h2 : (List.map (fun i : Nat => 3 + (i : Int)) ((List.range d).map fun x => (m - 2).toNat + x)).filter (fun a => decide (a ≤ m) && isP a) = [] := by
    rw [List.filter_eq_nil_iff]
    intro a ha
    obtain ⟨i, hi, rfl⟩ := List.mem_map.mp ha
    obtain ⟨j, _, rfl⟩ := List.mem_map.mp hi
    simp only [Bool.and_eq_true, decide_eq_true_eq, not_and]
    intro h1 h2
    have := (isP_nat h2).2
    omega
  rw [h2, List.append_nil]
  refine List.filter_congr fun a ha => ?_
  obtain ⟨i, hi, rfl⟩ := List.mem_map.mp ha
  have := List.mem_range.mp hi
  rw [decide_eq_true (by omega : 3 + (i : Int) ≤ m)]
  rfl
/-- the sieve's word: the numbers of a cut of the primes below n do not divide it, the rest are too large -/
theorem sieve {n : Int} {j : Nat} (h3 : 3 ≤ n) (hb : ∀ i (q : Int), j ≤ i → (primesTo (n - 1))[i]? = some q → n < q * q) :
    isP n = (decide (n % 2 = 1) && ((primesTo (n - 1)).take j).all fun q => decide (n % q ≠ 0)) := by
  obtain ⟨N, rfl⟩ : ∃ N : Nat, n = (N : Int) := ⟨n.toNat, by omega⟩
  have eP : isP (N : Int) = isPN N := by unfold isP; rw [Int.toNat_natCast]
  rw [eP]
  by_cases ho : N % 2 = 1
  · rw [decide_eq_true (by omega : (N : Int) % 2 = 1), Bool.true_and]
    cases hp : isPN N with
    | true =>
      symm
      rw [List.all_eq_true]
      intro q hq
      have hq2 := mem_primes.mp (List.mem_of_mem_take hq)
      have h4 := isP_nat hq2.1
      have h5 := (isPN_prime hp).2.2 q.toNat (by omega) (by omega)
      refine decide_eq_true fun z => h5 ?_
      have : ((N % q.toNat : Nat) : Int) = (N : Int) % q := by
        rw [Int.natCast_emod, Int.toNat_of_nonneg (by omega)]
      omega
    | false =>
      symm
      rw [Bool.eq_false_iff]
      intro hall
      rw [List.all_eq_true] at hall
      obtain ⟨q, hq, hqq, hdv⟩ := small_div (by omega) ho hp
      have q3 := (isPN_prime hq).1
      have qlt : q < N := by
        have : 3 * q ≤ q * q := Nat.mul_le_mul_right q q3
        omega
      have hm : (q : Int) ∈ primesTo ((N : Int) - 1) := mem_primes.mpr ⟨by unfold isP; rw [Int.toNat_natCast]; exact hq, by omega⟩
      obtain ⟨i, hi⟩ := List.getElem?_of_mem hm
      have hij : i < j := by
        rcases Nat.lt_or_ge i j with z | z
        · exact z
        · exfalso
          have := hb i _ z hi
          have : ((q * q : Nat) : Int) = (q : Int) * q := Int.natCast_mul q q
          omega
      have ht : (q : Int) ∈ (primesTo ((N : Int) - 1)).take j := by
        refine List.mem_of_getElem? (i := i) ?_
        rw [List.getElem?_take, if_pos hij]
        exact hi
      have := of_decide_eq_true (hall _ ht)
      have e2 : ((N % q : Nat) : Int) = (N : Int) % q := Int.natCast_emod _ _
      omega
  · rw [decide_eq_false (by omega : ¬ (N : Int) % 2 = 1), Bool.false_and]
    unfold isPN
    rw [decide_eq_false ho]
    simp
/-! ### squares -/
def sqL (p : Int) : List Int := (List.range p.toNat).map fun (y : Nat) => (y : Int) * y % p
def isSq (p k : Int) : Bool := decide (k ∈ sqL p)
def lnsF (p : Int) : Nat → Int → Int
  | 0, n => n
  | f + 1, n => if isSq p n = true then lnsF p f (n + 1) else n
/-- the least number from 2 on that is no square -/
def lns (p : Int) : Int := lnsF p p.toNat 2
theorem sq_lt {p k : Int} (hp : 0 < p) (h : isSq p k = true) : 0 ≤ k ∧ k < p := by
  unfold isSq sqL at h
  obtain ⟨y, _, rfl⟩ := List.mem_map.mp (of_decide_eq_true h)
  exact ⟨Int.emod_nonneg _ (by omega), Int.emod_lt_of_pos _ hp⟩
theorem sq_mod {p y : Int} (hp : 0 < p) : isSq p (y * y % p) = true := by
  unfold isSq sqL
  refine decide_eq_true (List.mem_map.mpr ⟨(y % p).toNat, ?_, ?_⟩)
  · have := Int.emod_lt_of_pos y hp
    have := Int.emod_nonneg y (show p ≠ 0 by omega)
    exact List.mem_range.mpr (by omega)
  · have := Int.emod_nonneg y (show p ≠ 0 by omega)
    rw [Int.toNat_of_nonneg this, ← Int.mul_emod]
/-- half of the numbers give all squares -/
theorem sq_half {p k : Int} (hp : 0 < p) (h : isSq p k = true) : ∃ y : Nat, y ≤ p.toNat / 2 ∧ (y : Int) * y % p = k := by
  unfold isSq sqL at h
  obtain ⟨y, hy, rfl⟩ := List.mem_map.mp (of_decide_eq_true h)
  have hy := List.mem_range.mp hy
  by_cases c : y ≤ p.toNat / 2
  · exact ⟨y, c, rfl⟩
  · refine ⟨p.toNat - y, by omega, ?_⟩
    have e : ((p.toNat - y : Nat) : Int) = p - y := by omega
    rw [e]
    exact mod_of_eq (k := p - 2 * y) (by grind)
theorem has_nonsq {p : Int} (hp : isP p = true) : ∃ k : Int, 2 ≤ k ∧ k < p ∧ isSq p k = false := by
  have h3 := (isP_nat hp).2
  rcases Classical.em (∃ k : Int, 2 ≤ k ∧ k < p ∧ isSq p k = false) with z | z
  · exact z
  · exfalso
    have all : ∀ k : Nat, k < p.toNat → (k : Int) ∈ ((List.range (p.toNat / 2 + 1)).map fun (y : Nat) => (y : Int) * y % p) := by
      intro k hk
      have hs : isSq p k = true := by
        by_cases c : k < 2
        · have q := sq_mod (p := p) (y := k) (by omega)
          have e : (k : Int) * k % p = k := by
            have : k = 0 ∨ k = 1 := by omega
            rcases this with rfl | rfl
            · simp
            · exact Int.emod_eq_of_lt (by omega) (by omega)
          rw [e] at q
          exact q
        · cases e : isSq p k with
          | true => rfl
          | false => exact absurd ⟨(k : Int), by omega, by omega, e⟩ z
      obtain ⟨y, h1, h2⟩ := sq_half (by omega) hs
      exact List.mem_map.mpr ⟨y, List.mem_range.mpr (by omega), h2⟩
    have := pigeon _ _ all
    rw [List.length_map, List.length_range] at this
    omega
theorem lnsF_spec {p : Int} (hp : isP p = true) : ∀ (f : Nat) (n : Int), (∃ k : Int, n ≤ k ∧ k < p ∧ k ≤ n + f ∧ isSq p k = false) → 2 ≤ n → (∀ k, 2 ≤ k → k < n → isSq p k = true) →
    2 ≤ lnsF p f n ∧ lnsF p f n < p ∧ isSq p (lnsF p f n) = false ∧ ∀ k, 2 ≤ k → k < lnsF p f n → isSq p k = true
  | 0, n, ⟨k, h1, h2, h3, h4⟩, hn, hb => by
    have : k = n := by omega
    subst this
    exact ⟨hn, h2, h4, hb⟩
  | f + 1, n, ⟨k, h1, h2, h3, h4⟩, hn, hb => by
    unfold lnsF
    split
    · rename_i c
      refine lnsF_spec hp f (n + 1) ⟨k, ?_, h2, by omega, h4⟩ (by omega) fun j j1 j2 => ?_
      · rcases Int.lt_or_le n k with z | z
        · omega
        · have : k = n := by omega
          subst this
          rw [c] at h4
          cases h4
      · rcases Int.lt_or_le j n with z | z
        · exact hb j j1 z
        · have : j = n := by omega
          subst this
          exact c
    · rename_i c
      refine ⟨hn, by omega, by simpa using c, hb⟩
theorem lns_spec {p : Int} (hp : isP p = true) : 2 ≤ lns p ∧ lns p < p ∧ isSq p (lns p) = false ∧ ∀ k, 2 ≤ k → k < lns p → isSq p k = true := by
  obtain ⟨k, h1, h2, h3⟩ := has_nonsq hp
  exact lnsF_spec hp _ _ ⟨k, h1, h2, by omega, h3⟩ (by omega) fun j h1 h2 => by omega
/-! ### powers -/
def pwF (p : Int) : Nat → Int → Int → Int → Int
  | 0, r, _, _ => r
  | f + 1, r, s, l => if 0 < l then pwF p f (if l % 2 = 1 then r * s % p else r) (s * s % p) (l / 2) else r
def pw (p x e : Int) : Int := pwF p e.toNat 1 x e
theorem pwF_zero {p : Int} : ∀ (f : Nat) (r s l : Int), l ≤ 0 → pwF p f r s l = r
  | 0, _, _, _, _ => rfl
  | f + 1, r, s, l, h => by unfold pwF; rw [if_neg (by omega)]
theorem pwF_null {p : Int} : ∀ (f : Nat) (r l : Int), l.toNat ≤ f → 0 < l ∨ r = 0 → pwF p f r 0 l = 0
  | 0, r, l, h, h2 => by
    rcases h2 with z | z
    · omega
    · exact z
  | f + 1, r, l, h, h2 => by
    unfold pwF
    split
    · rename_i c
      have e : (0 : Int) * 0 % p = 0 := by simp
      rw [e]
      refine pwF_null f _ _ (by omega) ?_
      by_cases c2 : l % 2 = 1
      · rw [if_pos c2]
        exact .inr (by simp)
      · rw [if_neg c2]
        rcases h2 with z | z
        · exact .inl (by omega)
        · exact .inr z
    · rename_i c
      rcases h2 with z | z
      · omega
      · exact z
theorem pw_null {p e : Int} (h : 0 < e) : pw p 0 e = 0 := pwF_null _ _ _ (Nat.le_refl _) (.inl h)
theorem pw_two {p x : Int} : pw p x 2 = x * x % p := by
  show pwF p 2 1 x 2 = _
  simp only [pwF]
  simp
end Nm

namespace Nm
theorem find_at {P : Nat → Bool} : ∀ {n i : Nat}, i < n → P i = true → (∀ j, j < i → P j = false) → (List.range n).find? P = some i := by
  intro n i hi hp hb
  obtain ⟨d, rfl⟩ : ∃ d, n = i + (d + 1) := ⟨n - i - 1, by omega⟩
  rw [List.range_add, List.find?_append]
  have e : (List.range i).find? P = none := List.find?_eq_none.mpr fun x hx => by rw [hb x (List.mem_range.mp hx)]; simp
  rw [e, List.range_succ_eq_map, List.map_cons, List.find?_cons]
  simp [hp]
theorem find_no {P : Nat → Bool} {n : Nat} (h : ∀ j, j < n → P j = false) : (List.range n).find? P = none :=
  List.find?_eq_none.mpr fun x hx => by rw [h x (List.mem_range.mp hx)]; simp
def rtP (p x : Int) (y : Nat) : Bool := decide ((y : Int) * y % p = x)
def rt (p x : Int) : Option Nat := (List.range ((p + 1) / 2).toNat).find? (rtP p x)
theorem rt_all {p x : Int} (hp : isP p = true) : rt p x = (List.range p.toNat).find? (rtP p x) := by
  have h3 := (isP_nat hp).2
  have ho := (isPN_prime (isP_nat hp).1).2.1
  unfold rt
  obtain ⟨d, hd⟩ : ∃ d, p.toNat = ((p + 1) / 2).toNat + d := ⟨p.toNat - ((p + 1) / 2).toNat, by omega⟩
  have e0 := hd
  rw [hd, List.range_add, List.find?_append]
  cases e : (List.range ((p + 1) / 2).toNat).find? (rtP p x) with
  | some y => rfl
  | none =>
    symm
    rw [Option.none_or, List.find?_eq_none]
    intro z hz
    obtain ⟨j, hj, rfl⟩ := List.mem_map.mp hz
    have hj := List.mem_range.mp hj
    have q := List.find?_eq_none.mp e (p.toNat - (((p + 1) / 2).toNat + j)) (List.mem_range.mpr (by omega))
    intro c
    refine q ?_
    unfold rtP at c ⊢
    rw [← of_decide_eq_true c]
    refine decide_eq_true ?_
    have e1 : ((p.toNat - (((p + 1) / 2).toNat + j) : Nat) : Int) = p - ((((p + 1) / 2).toNat + j : Nat) : Int) := by omega
    rw [e1]
    refine mod_of_eq (k := p - 2 * ((((p + 1) / 2).toNat + j : Nat) : Int)) (by grind)
/-- the values y below p at which P holds, in the order -/
def ys (p : Int) (P : Nat → Bool) : List Int := ((List.range p.toNat).filter P).map fun (y : Nat) => (y : Int)
theorem ys_head {p : Int} {P : Nat → Bool} : (ys p P)[0]? = ((List.range p.toNat).find? P).map fun (y : Nat) => (y : Int) := by
  unfold ys
  rw [List.getElem?_map, ← List.head?_eq_getElem?, List.head?_filter]
theorem ys_succ {P : Nat → Bool} {i : Nat} : ((List.range (i + 1)).filter P).map (fun (y : Nat) => (y : Int)) = ((List.range i).filter P).map (fun (y : Nat) => (y : Int)) ++ (if P i = true then [(i : Int)] else []) := by
  rw [List.range_succ, List.filter_append, List.map_append]
  congr 1
  rw [List.filter_cons, List.filter_nil]
  split <;> rfl
def ivP (p x : Int) (y : Nat) : Bool := decide (x * y % p = 1)
theorem iv_head {p x : Int} (hp : isP p = true) (h1 : 1 ≤ x) (h2 : x ≤ p - 1) : (ys p (ivP p x))[0]? = some (inv p x) := by
  obtain ⟨q1, q2, q3⟩ := inv_spec hp h1 h2
  rw [ys_head]
  have hf : (List.range p.toNat).find? (ivP p x) = some (inv p x).toNat := by
    refine find_at (by omega) ?_ fun j hj => ?_
    · unfold ivP
      rw [Int.toNat_of_nonneg q2]
      exact decide_eq_true q1
    · unfold ivP
      refine decide_eq_false fun z => ?_
      have := inv_unique (p := p) (x := x) (y := j) (z := inv p x) ⟨by omega, by omega⟩ ⟨q2, q3⟩ z q1
      omega
  rw [hf]
  show some (((inv p x).toNat : Nat) : Int) = _
  rw [Int.toNat_of_nonneg q2]
/-! the least number that is no square, from 0 on -/
theorem lns_find {p : Int} (hp : isP p = true) : (List.range p.toNat).find? (fun (x : Nat) => !isSq p (x : Int)) = some (lns p).toNat := by
  obtain ⟨h1, h2, h3, h4⟩ := lns_spec hp
  refine find_at (by omega) ?_ fun j hj => ?_
  · rw [Int.toNat_of_nonneg (by omega), h3]
    rfl
  · have : isSq p (j : Int) = true := by
      by_cases c : 2 ≤ j
      · exact h4 j (by omega) (by omega)
      · have q := sq_mod (p := p) (y := (j : Int)) (by omega)
        have e : (j : Int) * j % p = j := by
          have : j = 0 ∨ j = 1 := by omega
          rcases this with rfl | rfl
          · simp
          · exact Int.emod_eq_of_lt (by omega) (by omega)
        rw [e] at q
        exact q
    rw [this]
    rfl
def pwL (p e : Int) : List Int := (List.range p.toNat).map fun (y : Nat) => pw p (y : Int) e
def roP (p e x : Int) (y : Nat) : Bool := decide (pw p (y : Int) e = x)
/-- the roots from 1 on are those from 0 on -/
theorem roots_all {p e x : Int} (hp : isP p = true) (he : 0 < e) (hx : x ≠ 0) :
    (((List.range (p - 1).toNat).map fun (i : Nat) => 1 + (i : Int)).filter fun r => decide (pw p r e = x)) = ys p (roP p e x) := by
  have h3 := (isP_nat hp).2
  unfold ys
  have hn : p.toNat = (p - 1).toNat + 1 := by omega
  rw [hn, List.range_succ_eq_map, List.filter_cons, if_neg (by unfold roP; rw [show (((0 : Nat) : Int)) = 0 from rfl, pw_null he]; simpa using fun z => hx z.symm)]
  rw [List.filter_map, List.filter_map, List.map_map]
  have hc : ∀ i : Nat, 1 + (i : Int) = ((i + 1 : Nat) : Int) := fun i => by omega
  congr 1
  · funext i
    exact hc i
  · refine List.filter_congr fun i _ => ?_
    show decide (pw p (1 + (i : Int)) e = x) = roP p e x (i + 1)
    rw [hc]
    rfl
theorem roots_two {p : Int} (hp : isP p = true) : ys p (roP p 2 (lns p)) = [] := by
  obtain ⟨h1, h2, h3, _⟩ := lns_spec hp
  unfold ys
  rw [List.map_eq_nil_iff, List.filter_eq_nil_iff]
  intro y hy hz
  unfold roP at hz
  have hz := of_decide_eq_true hz
  rw [pw_two] at hz
  have := sq_mod (p := p) (y := (y : Int)) (by omega)
  rw [hz, h3] at this
  cases this
end Nm

namespace Nm
/-! ### residues as Fin p, where grind knows the rings -/
section
variable {p : Nat} [NeZero p]
def fz (p : Nat) [NeZero p] (x : Int) : Fin p := Fin.ofNat p (x % (p : Int)).toNat
theorem p_pos : 0 < p := Nat.pos_of_ne_zero (NeZero.ne p)
theorem fz_val (x : Int) : ((fz p x).val : Int) = x % (p : Int) := by
  have h0 := p_pos (p := p)
  have h1 := Int.emod_nonneg x (show (p : Int) ≠ 0 by omega)
  have h2 := Int.emod_lt_of_pos x (show (0 : Int) < p by omega)
  unfold fz
  rw [Fin.val_ofNat, Nat.mod_eq_of_lt (by omega)]
  omega
theorem fz_eq {x y : Int} (h : x % (p : Int) = y % (p : Int)) : fz p x = fz p y := by
  unfold fz
  rw [h]
theorem fz_inj {x y : Int} (h : fz p x = fz p y) : x % (p : Int) = y % (p : Int) := by
  rw [← fz_val (p := p) x, ← fz_val (p := p) y, h]
theorem fz_mod (x : Int) : fz p (x % (p : Int)) = fz p x := fz_eq (Int.emod_emod _ _)
theorem fz_of_val {x : Int} {a : Fin p} (h : (a.val : Int) = x % (p : Int)) : fz p x = a := by
  apply Fin.ext
  have := fz_val (p := p) x
  omega
theorem fz_add (x y : Int) : fz p (x + y) = fz p x + fz p y := by
  refine fz_of_val ?_
  rw [Fin.val_add, Int.natCast_emod, Int.natCast_add, fz_val, fz_val, ← Int.add_emod]
theorem fz_mul (x y : Int) : fz p (x * y) = fz p x * fz p y := by
  refine fz_of_val ?_
  rw [Fin.val_mul, Int.natCast_emod, Int.natCast_mul, fz_val, fz_val, ← Int.mul_emod]
theorem fz_zero : fz p 0 = 0 := fz_of_val (by simp)
theorem fz_one : fz p 1 = 1 := fz_of_val (show (((1 % p : Nat)) : Int) = (1 : Int) % (p : Int) from Int.natCast_emod 1 p)
theorem fz_neg (x : Int) : fz p (-x) = - fz p x := by
  have e : fz p (-x) + fz p x = 0 := by
    rw [← fz_add, Int.add_left_neg, fz_zero]
  grind
theorem fz_sub (x y : Int) : fz p (x - y) = fz p x - fz p y := by
  rw [Int.sub_eq_add_neg, fz_add, fz_neg]
  grind
theorem fz_nat (n : Nat) (h : n < p) : fz p (n : Int) = ⟨n, h⟩ := by
  refine fz_of_val ?_
  rw [Int.emod_eq_of_lt (by omega) (by omega)]
theorem fz_null {x : Int} (h : fz p x = 0) : x % (p : Int) = 0 := by
  rw [← fz_zero (p := p)] at h
  rw [fz_inj h]
  simp
theorem fz_null_iff {x : Int} : x % (p : Int) = 0 ↔ fz p x = 0 :=
  ⟨fun h => by rw [← fz_zero]; exact fz_eq (by simpa using h), fz_null⟩
end
/-! no divisors of zero -/
theorem prime_dvd {p : Nat} (hp : isPN p = true) {a b : Nat} (h : p ∣ a * b) (ha : ¬ p ∣ a) : p ∣ b := by
  have hc : Nat.Coprime p a := by
    have h3 := isPN_prime hp
    have d1 : Nat.gcd p a ∣ p := Nat.gcd_dvd_left p a
    have d2 : Nat.gcd p a ∣ a := Nat.gcd_dvd_right p a
    have l1 : Nat.gcd p a ≤ p := Nat.le_of_dvd (by omega) d1
    have l0 : 0 < Nat.gcd p a := Nat.gcd_pos_of_pos_left _ (by omega)
    rcases Nat.lt_or_ge (Nat.gcd p a) 2 with z | z
    · show Nat.gcd p a = 1
      omega
    · rcases Nat.lt_or_ge (Nat.gcd p a) p with y | y
      · exact absurd (Nat.mod_eq_zero_of_dvd d1) (h3.2.2 _ (by omega) y)
      · exfalso
        have : Nat.gcd p a = p := by omega
        rw [this] at d2
        exact ha d2
  exact hc.dvd_of_dvd_mul_left h
theorem fin_dom {p : Nat} [NeZero p] (hp : isPN p = true) {a b : Fin p} (h : a * b = 0) : a = 0 ∨ b = 0 := by
  have h3 := (isPN_prime hp).1
  have e : (a.val * b.val) % p = 0 := by
    have := congrArg Fin.val h
    rw [Fin.val_mul] at this
    simpa using this
  have d := Nat.dvd_of_mod_eq_zero e
  by_cases ha : p ∣ a.val
  · refine .inl (Fin.ext ?_)
    have := Nat.eq_zero_of_dvd_of_lt ha a.isLt
    simpa using this
  · refine .inr (Fin.ext ?_)
    have := Nat.eq_zero_of_dvd_of_lt (prime_dvd hp d ha) b.isLt
    simpa using this
theorem fin_inv {p : Nat} [NeZero p] (hp : isPN p = true) {a : Fin p} (h : a ≠ 0) : ∃ b : Fin p, a * b = 1 := by
  have hP : isP (p : Int) = true := by
    unfold isP
    rw [Int.toNat_natCast]
    exact hp
  have ha : a.val ≠ 0 := fun z => h (Fin.ext (by simpa using z))
  have hl := a.isLt
  obtain ⟨q1, q2, q3⟩ := inv_spec hP (x := (a.val : Int)) (by omega) (by omega)
  refine ⟨fz p (inv p (a.val : Int)), ?_⟩
  have e : fz p (a.val : Int) = a := fz_nat _ hl
  rw [← e, ← fz_mul, ← fz_one (p := p)]
  refine fz_eq ?_
  rw [e] at *
  rw [q1]
  have h3 := (isPN_prime hp).1
  exact (Int.emod_eq_of_lt (by omega) (by omega)).symm
end Nm

namespace Nm
theorem sub_len {α : Type} [DecidableEq α] : ∀ {l m : List α}, l.Nodup → (∀ x, x ∈ l → x ∈ m) → l.length ≤ m.length
  | [], _, _, _ => Nat.zero_le _
  | a :: l, m, h, hs => by
    have hn := List.nodup_cons.mp h
    have ha := hs a (List.mem_cons_self ..)
    have q := sub_len (l := l) (m := m.erase a) hn.2 fun x hx => by
      refine (List.mem_erase_of_ne fun z => ?_).mpr (hs x (List.mem_cons_of_mem _ hx))
      rw [z] at hx
      exact hn.1 hx
    have e := List.length_erase_of_mem ha
    have : 0 < m.length := List.length_pos_of_mem ha
    rw [List.length_cons]
    omega
/-! ### the numbers of norm one -/
section
variable {R : Type} [Lean.Grind.CommRing R] [DecidableEq R]
def onesF (all : List R) (u : R) : List (R × R) := all.flatMap fun a => (all.filter fun b => decide (u * b * b = a * a - 1)).map fun b => (a, b)
variable {all : List R} {u : R}
theorem mem_ones (mem : ∀ a : R, a ∈ all) {a b : R} : (a, b) ∈ onesF all u ↔ u * b * b = a * a - 1 := by
  unfold onesF
  rw [List.mem_flatMap]
  constructor
  · rintro ⟨x, _, hx⟩
    obtain ⟨y, hy, e⟩ := List.mem_map.mp hx
    cases e
    exact of_decide_eq_true (List.mem_filter.mp hy).2
  · intro h
    exact ⟨a, mem a, List.mem_map.mpr ⟨b, List.mem_filter.mpr ⟨mem b, decide_eq_true h⟩, rfl⟩⟩
theorem ones_nodup (nd : all.Nodup) : (onesF all u).Nodup := by
  unfold onesF
  refine List.pairwise_flatMap.mpr ⟨fun a _ => ?_, ?_⟩
  · refine List.pairwise_map.mpr ?_
    refine (List.Pairwise.filter _ nd).imp fun {x y} h z => h ?_
    cases z
    rfl
  · refine List.Pairwise.imp (fun {a b} h x hx y hy z => h ?_) nd
    obtain ⟨_, _, rfl⟩ := List.mem_map.mp hx
    obtain ⟨_, _, rfl⟩ := List.mem_map.mp hy
    cases z
    rfl
theorem g_den {t s : R} (z : 1 - u * t * t = 0) (hs : t * s = 1) : s * s = u := by grind
theorem g_den0 (z : 1 - u * 0 * 0 = 0) : (1 : R) = 0 := by grind
theorem g_top {t w : R} (e : (1 - u * t * t) * w = 1) (z : 1 + (1 + u * t * t) * w = 0) : 2 * w = 0 := by grind
theorem g_top0 {d : R} (e : d * 0 = 1) : (1 : R) = 0 := by grind
theorem g_neg : (1 : R) + -1 = 0 := by grind
theorem g_inj {a b x y : R} (e1 : (1 - u * a * a) * x = 1) (e2 : (1 - u * b * b) * y = 1) (z1 : (1 + u * a * a) * x = (1 + u * b * b) * y) (z2 : 2 * a * x = 2 * b * y) :
    (a - b) * (1 + (1 + u * a * a) * x) = 0 := by grind
theorem g_eq {a b : R} (h : a - b = 0) : a = b := by grind
theorem g_ub {a b : R} (h : u * b * b = a * a - 1) (z : 1 + a = 0) : u * (b * b) = 0 := by grind
theorem g_m1 {a : R} (z : 1 + a = 0) : a = -1 := by grind
theorem g_fst {a b s w : R} (h : u * b * b = a * a - 1) (hs : (1 + a) * s = 1) (e : (1 - u * (b * s) * (b * s)) * w = 1) : (1 + u * (b * s) * (b * s)) * w = a := by grind
theorem g_snd {a b s w : R} (h : u * b * b = a * a - 1) (hs : (1 + a) * s = 1) (e : (1 - u * (b * s) * (b * s)) * w = 1) : 2 * (b * s) * w = b := by grind
theorem g_on0 : u * 0 * 0 = (-1 : R) * -1 - 1 := by grind
theorem g_on {t w : R} (e : (1 - u * t * t) * w = 1) : u * (2 * t * w) * (2 * t * w) = (1 + u * t * t) * w * ((1 + u * t * t) * w) - 1 := by grind
theorem norm_count (mem : ∀ a : R, a ∈ all) (nd : all.Nodup) (dom : ∀ a b : R, a * b = 0 → a = 0 ∨ b = 0) (inv : ∀ a : R, a ≠ 0 → ∃ b, a * b = 1) (one : (1 : R) ≠ 0) (two : (2 : R) ≠ 0) (u0 : u ≠ 0)
    (hu : ∀ y : R, y * y ≠ u) : (onesF all u).length = all.length + 1 := by
  have den : ∀ t : R, 1 - u * t * t ≠ 0 := by
    intro t z
    have t0 : t ≠ 0 := by
      intro e
      rw [e] at z
      exact one (g_den0 z)
    obtain ⟨s, hs⟩ := inv t t0
    exact hu s (g_den z hs)
  obtain ⟨w, hw⟩ : ∃ w : R → R, ∀ t, (1 - u * t * t) * w t = 1 := ⟨fun t => (inv _ (den t)).choose, fun t => (inv _ (den t)).choose_spec⟩
  obtain ⟨f, hf⟩ : ∃ f : R → R × R, ∀ t, f t = ((1 + u * t * t) * w t, 2 * t * w t) := ⟨_, fun t => rfl⟩
  have top : ∀ t, 1 + (1 + u * t * t) * w t ≠ 0 := by
    intro t z
    have e := hw t
    rcases dom _ _ (g_top e z) with q | q
    · exact two q
    · rw [q] at e
      exact one (g_top0 e)
  have fn : ((-1, 0) :: all.map f).Nodup := by
    refine List.nodup_cons.mpr ⟨fun z => ?_, ?_⟩
    · obtain ⟨t, _, e⟩ := List.mem_map.mp z
      have q := top t
      rw [hf] at e
      have e1 : (1 + u * t * t) * w t = -1 := congrArg Prod.fst e
      rw [e1] at q
      exact q g_neg
    · refine List.pairwise_map.mpr (List.Pairwise.imp (fun {a b} h z => h ?_) nd)
      rw [hf, hf] at z
      rcases dom _ _ (g_inj (hw a) (hw b) (congrArg Prod.fst z) (congrArg Prod.snd z)) with q | q
      · exact g_eq q
      · exact absurd q (top a)
  have l1 : (onesF all u).length ≤ ((-1, 0) :: all.map f).length := by
    refine sub_len (ones_nodup nd) fun x hx => ?_
    obtain ⟨a, b⟩ := x
    have hx := (mem_ones mem).mp hx
    by_cases ha : 1 + a = 0
    · have b0 : b = 0 := by
        rcases dom _ _ (g_ub hx ha) with q | q
        · exact absurd q u0
        · rcases dom _ _ q with q | q <;> exact q
      rw [b0, g_m1 ha]
      exact List.mem_cons_self ..
    · obtain ⟨s, hs⟩ := inv _ ha
      refine List.mem_cons_of_mem _ (List.mem_map.mpr ⟨b * s, mem _, ?_⟩)
      rw [hf, g_fst hx hs (hw (b * s)), g_snd hx hs (hw (b * s))]
  have l2 : ((-1, 0) :: all.map f).length ≤ (onesF all u).length := by
    refine sub_len fn fun x hx => ?_
    rcases List.mem_cons.mp hx with rfl | hx
    · exact (mem_ones mem).mpr g_on0
    · obtain ⟨t, _, rfl⟩ := List.mem_map.mp hx
      rw [hf]
      exact (mem_ones mem).mpr (g_on (hw t))
  have l3 : ((-1, 0) :: all.map f).length = all.length + 1 := by rw [List.length_cons, List.length_map]
  omega
end
section
variable {P : Nat} [NeZero P]
def fins (P : Nat) [NeZero P] : List (Fin P) := (List.range P).map fun (n : Nat) => fz P (n : Int)
theorem mem_fins (a : Fin P) : a ∈ fins P := List.mem_map.mpr ⟨a.val, List.mem_range.mpr a.isLt, by rw [fz_nat _ a.isLt]⟩
theorem fins_nodup : (fins P).Nodup := by
  unfold fins
  refine List.pairwise_map.mpr ?_
  refine List.Pairwise.imp_of_mem (fun {a b} ha hb hlt => ?_) List.pairwise_lt_range
  have ha := List.mem_range.mp ha
  have hb := List.mem_range.mp hb
  rw [fz_nat _ ha, fz_nat _ hb]
  intro z
  have := congrArg Fin.val z
  simp at this
  omega
theorem fin_one (hp : isPN P = true) : (1 : Fin P) ≠ 0 := by
  have h3 := (isPN_prime hp).1
  intro z
  rw [← fz_one (p := P)] at z
  have := fz_null z
  rw [Int.emod_eq_of_lt (by omega) (by omega)] at this
  omega
theorem fin_two (hp : isPN P = true) : (2 : Fin P) ≠ 0 := by
  have h3 := (isPN_prime hp).1
  intro z
  have e : fz P 2 = 0 := by
    have q : (2 : Int) = 1 + 1 := rfl
    rw [q, fz_add, fz_one]
    have q2 : (1 : Fin P) + 1 = 2 := by
      clear z
      grind
    rw [q2]
    exact z
  have := fz_null e
  rw [Int.emod_eq_of_lt (by omega) (by omega)] at this
  omega
theorem ones_count (hp : isPN P = true) {u : Fin P} (hu : ∀ y : Fin P, y * y ≠ u) : (onesF (fins P) u).length = P + 1 := by
  have z0 : (0 : Fin P) * 0 = 0 := by grind
  rw [norm_count mem_fins fins_nodup (fun a b => fin_dom hp) (fun a => fin_inv hp) (fin_one hp) (fin_two hp) (fun z => hu 0 (by rw [z, z0])) hu]
  unfold fins
  rw [List.length_map, List.length_range]
end
def bk (p u i : Int) (n : Nat) : List Int := ((List.range n).filter fun (b : Nat) => decide (u * (b : Int) * (b : Int) % p = i)).map fun (b : Nat) => (b : Int)
def onesL (p u : Int) (n : Nat) : List (Int × Int) := (List.range n).flatMap fun (a : Nat) => (bk p u (((a : Int) * (a : Int) - 1) % p) p.toNat).map fun b => ((a : Int), b)
theorem ones_len {p : Int} (hp : isP p = true) : (onesL p (lns p) p.toNat).length = p.toNat + 1 := by
  have hq := isP_nat hp
  obtain ⟨l1, l2, l3, _⟩ := lns_spec hp
  generalize hP : p.toNat = P at hq
  have : NeZero P := ⟨by omega⟩
  have ep : p = (P : Int) := by omega
  subst ep
  rw [← ones_count (P := P) hq.1 (u := fz P (lns (P : Int))) fun y z => ?_]
  · unfold onesL onesF fins bk
    rw [List.length_flatMap, List.flatMap_map, List.length_flatMap, hP]
    congr 1
    refine List.map_congr_left fun a ha => ?_
    rw [List.length_map, List.length_map, List.length_map, List.filter_map, List.length_map]
    congr 1
    refine List.filter_congr fun b _ => ?_
    refine decide_eq_decide.mpr ?_
    show _ ↔ fz P (lns (P : Int)) * fz P (b : Int) * fz P (b : Int) = fz P (a : Int) * fz P (a : Int) - 1
    rw [← fz_mul, ← fz_mul, ← fz_mul, ← fz_one (p := P), ← fz_sub]
    exact ⟨fun h => fz_eq h, fun h => fz_inj h⟩
  · have hy : fz P (y.val : Int) = y := fz_nat _ y.isLt
    rw [← hy, ← fz_mul] at z
    have := fz_inj z
    rw [Int.emod_eq_of_lt (by omega) (by omega : lns (P : Int) < P)] at this
    have q := sq_mod (p := (P : Int)) (y := (y.val : Int)) (by omega)
    rw [this, l3] at q
    cases q
end Nm

namespace Nm
/-! ### the laws of pairs of a table that tells a lot by its size alone -/
def pop (n x : Nat) : Nat := ((List.range n).map fun i => (x >>> i) % 2).sum
abbrev Tm := Int × Nat × Nat
def tmS (n one two : Nat) : Nat → List Tm × Int
  | 0 => ([], 1)
  | k + 1 => if ((one ^^^ two) >>> k) % 2 = 1 then
      ((tmS n one two k).1 ++ [((tmS n one two k).2, pop n (one ^^^ (1 <<< k)), pop n (two ^^^ (1 <<< k)))], -(tmS n one two k).2)
    else tmS n one two k
def tm (n one two : Nat) : List Tm := (tmS n one two n).1
def ev (c : Nat → Int) (T : List Tm) : Int := (T.map fun t => t.1 * c t.2.1 * c t.2.2).sum
theorem ev_app {c : Nat → Int} {T U : List Tm} : ev c (T ++ U) = ev c T + ev c U := by
  unfold ev
  rw [List.map_append, List.sum_append]
def oddT (T : List Tm) : Bool := T.all fun t => decide ((t.2.1 + t.2.2) % 2 = 1)
def evenT (n : Nat) (T : List Tm) : Bool := match T with
  | [] => true
  | t0 :: _ => (T.all fun t => decide (t.2.1 ≤ n) && (decide (t.2.2 ≤ n) && (decide (t.2.1 + t.2.2 = t0.2.1 + t0.2.2) && (decide (t.2.1 = t0.2.1) || (decide (t.2.1 = t0.2.1 + 2) || decide (t.2.1 + 2 = t0.2.1)))))) && decide ((T.map fun t => t.1).sum = 0)
def backOk : Bool := (List.range 6).all fun n => (List.range (2 ^ n)).all fun one => (List.range (2 ^ n)).all fun two => (oddT (tm n one two) && (tm n one two).all fun t => decide (t.2.1 ≤ n) && decide (t.2.2 ≤ n)) || evenT n (tm n one two)
theorem back_ok : backOk = true := by decide +kernel
/-- where one term stands alone: (i + 1, i), and where the rest is one product, s times -/
def restT (T : List Tm) (i j u v : Nat) (s : Int) : Bool := match T with
  | [] => false
  | t0 :: R => decide (t0 = (1, i, j)) && ((R.all fun t => decide (t.2 = (u, v))) && decide ((R.map fun t => t.1).sum = s))
def mask (lo hi : Nat) : Nat := 2 ^ (hi + 1) - 2 ^ lo
/-- the two lots: b lots of the second alone, m of both -/
def lotA (b m : Nat) : Nat := 1 + mask (b + 1) (b + m)
def lotB (b m : Nat) : Nat := mask 1 b + mask (b + 1) (b + m)
def fwdOk : Bool := (List.range 6).all fun n => ((List.range n).all fun i => restT (tm n (lotB 0 i) (lotA 0 i)) (i + 1) i 0 0 0) &&
  (((List.range n).all fun i => (List.range (n + 1)).all fun j => !(decide (i + 2 ≤ j) && decide ((i + j) % 2 = 1)) || restT (tm n (lotA (j - i - 1) i) (lotB (j - i - 1) i)) i j (i + 2) (j - 2) 0) &&
  ((List.range n).all fun k => (List.range n).all fun m => !(decide (k < m) && (decide (m + 2 ≤ n) && decide ((k + m) % 2 = 0))) || restT (tm n (lotA (m - k + 1) k) (lotB (m - k + 1) k)) k (m + 2) (k + 2) m (-1)))
theorem fwd_ok : fwdOk = true := by decide +kernel
def ltOk : Bool := (List.range 6).all fun n => ((List.range n).all fun i => decide (lotB 0 i < lotA 0 i) && decide (lotA 0 i < 2 ^ n)) &&
  ((List.range n).all fun i => (List.range n).all fun b => !(decide (1 ≤ b) && decide (1 + b + i ≤ n)) || (decide (lotA b i < lotB b i) && decide (lotB b i < 2 ^ n)))
theorem lt_ok : ltOk = true := by decide +kernel
theorem rest_ev {c : Nat → Int} {T : List Tm} {i j u v : Nat} {s : Int} (h : restT T i j u v s = true) : ev c T = c i * c j + s * (c u * c v) := by
  cases T with
  | nil => cases h
  | cons t0 R =>
    unfold restT at h
    simp only [Bool.and_eq_true, decide_eq_true_eq, List.all_eq_true] at h
    obtain ⟨rfl, h1, rfl⟩ := h
    have e : ev c ((1, i, j) :: R) = 1 * c i * c j + ev c R := rfl
    rw [e]
    have q : ∀ R : List Tm, (∀ t, t ∈ R → t.2 = (u, v)) → ev c R = (R.map fun t => t.1).sum * (c u * c v) := by
      intro R
      induction R with
      | nil => intro _; simp [ev]
      | cons t R ih =>
        intro hR
        have e1 := hR t (List.mem_cons_self ..)
        have e2 := ih fun x hx => hR x (List.mem_cons_of_mem _ hx)
        have e3 : ev c (t :: R) = t.1 * c t.2.1 * c t.2.2 + ev c R := rfl
        rw [e3, e2, e1, List.map_cons, List.sum_cons]
        grind
    rw [q R h1]
    grind
end Nm

namespace Nm
theorem dom_int {p x y : Int} (hp : isP p = true) (hx : 0 ≤ x ∧ x < p) (hy : 0 ≤ y ∧ y < p) (h : x * y % p = 0) : x = 0 ∨ y = 0 := by
  obtain ⟨P, rfl⟩ : ∃ P : Nat, p = (P : Int) := ⟨p.toNat, by omega⟩
  have hq := (isP_nat hp).1
  rw [Int.toNat_natCast] at hq
  have : NeZero P := ⟨by omega⟩
  have e := fz_null_iff (p := P).mp h
  rw [fz_mul] at e
  rcases fin_dom hq e with z | z
  · refine .inl ?_
    have := fz_null z
    rw [Int.emod_eq_of_lt hx.1 hx.2] at this
    exact this
  · refine .inr ?_
    have := fz_null z
    rw [Int.emod_eq_of_lt hy.1 hy.2] at this
    exact this
def MGI (n : Nat) (c : Nat → Int) (p : Int) : Prop := ∀ one two, one < two → two < 2 ^ n → ev c (tm n one two) % p = 0
def PAR (n : Nat) (c : Nat → Int) : Prop := ∀ i j, i ≤ n → j ≤ n → (i + j) % 2 = 1 → c i = 0 ∨ c j = 0
def CRS (n : Nat) (c : Nat → Int) (p : Int) : Prop := ∀ k m, k + 2 ≤ n → m + 2 ≤ n → (c k * c (m + 2) - c (k + 2) * c m) % p = 0
theorem ev_cong {c : Nat → Int} {p v : Int} : ∀ {T : List Tm}, (∀ t, t ∈ T → ∃ k, c t.2.1 * c t.2.2 = v + p * k) → ∃ k, ev c T = (T.map fun t => t.1).sum * v + p * k
  | [], _ => ⟨0, by simp [ev]⟩
  | t :: T, h => by
    obtain ⟨k1, h1⟩ := h t (List.mem_cons_self ..)
    obtain ⟨k2, h2⟩ := ev_cong (T := T) fun x hx => h x (List.mem_cons_of_mem _ hx)
    refine ⟨t.1 * k1 + k2, ?_⟩
    have e3 : ev c (t :: T) = t.1 * c t.2.1 * c t.2.2 + ev c T := rfl
    rw [e3, h2, List.map_cons, List.sum_cons]
    grind
theorem mgi_of {n : Nat} {c : Nat → Int} {p : Int} (hn : n < 6) (h1 : PAR n c) (h2 : CRS n c p) : MGI n c p := by
  intro one two hlt hb
  have q := back_ok
  unfold backOk at q
  have q := List.all_eq_true.mp (List.all_eq_true.mp (List.all_eq_true.mp q n (List.mem_range.mpr hn)) one (List.mem_range.mpr (by omega))) two (List.mem_range.mpr hb)
  generalize tm n one two = T at q
  rcases Bool.or_eq_true_iff.mp q with q | q
  · have q := Bool.and_eq_true_iff.mp q
    have a1 := List.all_eq_true.mp (show T.all _ = true from q.1)
    have a2 := List.all_eq_true.mp q.2
    obtain ⟨k, hk⟩ := ev_cong (c := c) (p := 0) (v := 0) (T := T) fun t ht => by
      have b1 := of_decide_eq_true (a1 t ht)
      have b2 := Bool.and_eq_true_iff.mp (a2 t ht)
      refine ⟨0, ?_⟩
      rcases h1 t.2.1 t.2.2 (of_decide_eq_true b2.1) (of_decide_eq_true b2.2) b1 with z | z <;> rw [z] <;> simp
    rw [hk]
    simp
  · cases T with
    | nil => simp [ev]
    | cons t0 R =>
      unfold evenT at q
      have q := Bool.and_eq_true_iff.mp q
      have a := List.all_eq_true.mp q.1
      have s := of_decide_eq_true q.2
      obtain ⟨k, hk⟩ := ev_cong (c := c) (p := p) (v := c t0.2.1 * c t0.2.2) (T := t0 :: R) fun t ht => by
        have b := a t ht
        have b0 := a t0 (List.mem_cons_self ..)
        simp only [Bool.and_eq_true, Bool.or_eq_true, decide_eq_true_eq] at b b0
        obtain ⟨l1, l2, es, e⟩ := b
        rcases e with e | e | e
        · have e2 : t.2.2 = t0.2.2 := by omega
          exact ⟨0, by rw [e, e2]; simp⟩
        · obtain ⟨k, hk⟩ := eq_of_mod (a := c t0.2.1 * c (t.2.2 + 2) - c (t0.2.1 + 2) * c t.2.2) (b := 0) (p := p) (by rw [h2 _ _ (by omega) (by omega)]; simp)
          have e2 : t0.2.2 = t.2.2 + 2 := by omega
          exact ⟨-k, by rw [e, e2]; grind⟩
        · obtain ⟨k, hk⟩ := eq_of_mod (a := c t.2.1 * c (t0.2.2 + 2) - c (t.2.1 + 2) * c t0.2.2) (b := 0) (p := p) (by rw [h2 _ _ (by omega) (by omega)]; simp)
          have e2 : t.2.2 = t0.2.2 + 2 := by omega
          have e3 : t0.2.1 = t.2.1 + 2 := by omega
          exact ⟨k, by rw [e2, e3]; grind⟩
      rw [hk, s, Int.zero_mul, Int.zero_add]
      exact Int.mul_emod_right _ _
theorem of_mgi {n : Nat} {c : Nat → Int} {p : Int} (hp : isP p = true) (hn : n < 6) (hc : ∀ i, i ≤ n → 0 ≤ c i ∧ c i < p) (h : MGI n c p) : PAR n c ∧ CRS n c p := by
  have f := fwd_ok
  unfold fwdOk at f
  have f := List.all_eq_true.mp f n (List.mem_range.mpr hn)
  have f := Bool.and_eq_true_iff.mp f
  have f1 := List.all_eq_true.mp f.1
  have f2 := Bool.and_eq_true_iff.mp f.2
  have f3 := List.all_eq_true.mp f2.1
  have f4 := List.all_eq_true.mp f2.2
  have l := lt_ok
  unfold ltOk at l
  have l := List.all_eq_true.mp l n (List.mem_range.mpr hn)
  have l := Bool.and_eq_true_iff.mp l
  have l1 := List.all_eq_true.mp l.1
  have l2 := List.all_eq_true.mp l.2
  have par : ∀ i j, i < j → j ≤ n → (i + j) % 2 = 1 → c i = 0 ∨ c j = 0 := by
    intro i j hij hj ho
    by_cases c1 : j = i + 1
    · subst c1
      have a := f1 i (List.mem_range.mpr (by omega))
      have b := l1 i (List.mem_range.mpr (by omega))
      simp only [Bool.and_eq_true, decide_eq_true_eq] at b
      have z := h _ _ b.1 b.2
      rw [rest_ev a] at z
      have z2 : c (i + 1) * c i % p = 0 := by simpa using z
      exact (dom_int hp (hc _ hj) (hc _ (by omega)) z2).symm
    · have a := List.all_eq_true.mp (f3 i (List.mem_range.mpr (by omega))) j (List.mem_range.mpr (by omega))
      rw [decide_eq_true (by omega : i + 2 ≤ j), decide_eq_true ho] at a
      have b := List.all_eq_true.mp (l2 i (List.mem_range.mpr (by omega))) (j - i - 1) (List.mem_range.mpr (by omega))
      rw [decide_eq_true (by omega : 1 ≤ j - i - 1), decide_eq_true (by omega : 1 + (j - i - 1) + i ≤ n)] at b
      have b : decide (lotA (j - i - 1) i < lotB (j - i - 1) i) = true ∧ decide (lotB (j - i - 1) i < 2 ^ n) = true := Bool.and_eq_true_iff.mp (by simpa using b)
      have z := h _ _ (of_decide_eq_true b.1) (of_decide_eq_true b.2)
      rw [rest_ev (i := i) (j := j) (u := i + 2) (v := j - 2) (s := 0) (by simpa using a)] at z
      have z2 : c i * c j % p = 0 := by simpa using z
      exact dom_int hp (hc _ (by omega)) (hc _ hj) z2
  have hpar : PAR n c := by
    intro i j hi hj ho
    rcases Nat.lt_trichotomy i j with z | z | z
    · exact par i j z hj ho
    · omega
    · exact (par j i z hi (by omega)).symm
  have crs : ∀ k m, k < m → m + 2 ≤ n → (k + m) % 2 = 0 → (c k * c (m + 2) - c (k + 2) * c m) % p = 0 := by
    intro k m hkm hm he
    have a := List.all_eq_true.mp (f4 k (List.mem_range.mpr (by omega))) m (List.mem_range.mpr (by omega))
    rw [decide_eq_true hkm, decide_eq_true hm, decide_eq_true he] at a
    have b := List.all_eq_true.mp (l2 k (List.mem_range.mpr (by omega))) (m - k + 1) (List.mem_range.mpr (by omega))
    rw [decide_eq_true (by omega : 1 ≤ m - k + 1), decide_eq_true (by omega : 1 + (m - k + 1) + k ≤ n)] at b
    have b : decide (lotA (m - k + 1) k < lotB (m - k + 1) k) = true ∧ decide (lotB (m - k + 1) k < 2 ^ n) = true := Bool.and_eq_true_iff.mp (by simpa using b)
    have z := h _ _ (of_decide_eq_true b.1) (of_decide_eq_true b.2)
    rw [rest_ev (i := k) (j := m + 2) (u := k + 2) (v := m) (s := -1) (by simpa using a)] at z
    have e : c k * c (m + 2) - c (k + 2) * c m = c k * c (m + 2) + -1 * (c (k + 2) * c m) := by grind
    rw [e]
    exact z
  refine ⟨hpar, fun k m hk hm => ?_⟩
  rcases Nat.mod_two_eq_zero_or_one (k + m) with e | e
  · rcases Nat.lt_trichotomy k m with z | z | z
    · exact crs k m z hm e
    · subst z
      have : c k * c (k + 2) - c (k + 2) * c k = 0 := by grind
      rw [this]
      simp
    · have q := crs m k z hk (by omega)
      obtain ⟨w, hw⟩ := eq_of_mod (a := c m * c (k + 2) - c (m + 2) * c k) (b := 0) (p := p) (by rw [q]; simp)
      have : c k * c (m + 2) - c (k + 2) * c m = p * -w := by grind
      rw [this]
      exact Int.mul_emod_right _ _
  · have a1 : c k * c (m + 2) = 0 := by
      rcases hpar k (m + 2) (by omega) hm (by omega) with z | z <;> rw [z] <;> simp
    have a2 : c (k + 2) * c m = 0 := by
      rcases hpar (k + 2) m hk (by omega) (by omega) with z | z <;> rw [z] <;> simp
    rw [a1, a2]
    simp
end Nm

namespace Nm
def CRSN (N : Nat) (c : Nat → Int) (p : Int) : Prop := ∀ k m, k < N → m < N → (c k * c (m + 2) - c (k + 2) * c m) % p = 0
section
variable {R : Type} [Lean.Grind.CommRing R]
theorem g_c1 {lo hi a b x y : R} (h1 : lo * b - hi * a = 0) (h2 : lo * y - hi * x = 0) : lo * (a * y - b * x) = 0 := by grind
theorem g_c2 {lo hi a b x y : R} (h1 : lo * b - hi * a = 0) (h2 : lo * y - hi * x = 0) : hi * (a * y - b * x) = 0 := by grind
theorem g_c3 {v a b x y : R} (h1 : a - v * b = 0) (h2 : x - v * y = 0) : a * y - b * x = 0 := by grind
theorem g_c4 {a b x y w : R} (h : a * y - b * x = 0) (hw : y * w = 1) : a - x * w * b = 0 := by grind
end
/-- one pair that is not (0, 0) leads all of them -/
theorem crs_of_lead {N : Nat} {c : Nat → Int} {p lo hi : Int} (hp : isP p = true) (h0 : (0 ≤ lo ∧ lo < p) ∧ (0 ≤ hi ∧ hi < p)) (hne : lo ≠ 0 ∨ hi ≠ 0) (h : ∀ k, k < N → (lo * c (k + 2) - hi * c k) % p = 0) : CRSN N c p := by
  obtain ⟨P, rfl⟩ : ∃ P : Nat, p = (P : Int) := ⟨p.toNat, by omega⟩
  have hq := (isP_nat hp).1
  rw [Int.toNat_natCast] at hq
  have : NeZero P := ⟨by omega⟩
  intro k m hk hm
  have a1 := fz_null_iff (p := P).mp (h k hk)
  have a2 := fz_null_iff (p := P).mp (h m hm)
  rw [fz_sub, fz_mul, fz_mul] at a1 a2
  refine fz_null_iff.mpr ?_
  rw [fz_sub, fz_mul, fz_mul]
  rcases hne with z | z
  · rcases fin_dom hq (g_c1 a1 a2) with q | q
    · have := fz_null q
      rw [Int.emod_eq_of_lt h0.1.1 h0.1.2] at this
      exact absurd this z
    · exact q
  · rcases fin_dom hq (g_c2 a1 a2) with q | q
    · have := fz_null q
      rw [Int.emod_eq_of_lt h0.2.1 h0.2.2] at this
      exact absurd this z
    · exact q
def fitsP (N : Nat) (c : Nat → Int) (p u v : Int) : Prop := ∀ k, k < N → (u * c k - v * c (k + 2)) % p = 0
theorem crs_of_fits {N : Nat} {c : Nat → Int} {p v : Int} (hp : 0 < p) (h : fitsP N c p 1 v) : CRSN N c p := by
  obtain ⟨P, rfl⟩ : ∃ P : Nat, p = (P : Int) := ⟨p.toNat, by omega⟩
  have : NeZero P := ⟨by omega⟩
  intro k m hk hm
  have a1 := fz_null_iff (p := P).mp (h k hk)
  have a2 := fz_null_iff (p := P).mp (h m hm)
  rw [Int.one_mul, fz_sub, fz_mul] at a1 a2
  refine fz_null_iff.mpr ?_
  rw [fz_sub, fz_mul, fz_mul]
  exact g_c3 a1 a2
theorem crs_of_fits0 {N : Nat} {c : Nat → Int} {p : Int} (h : fitsP N c p 0 1) : CRSN N c p := by
  intro k m hk hm
  have a1 := h k hk
  have a2 := h m hm
  rw [Int.zero_mul, Int.one_mul, Int.zero_sub] at a1 a2
  obtain ⟨x, hx⟩ := eq_of_mod (a := -c (k + 2)) (b := 0) (p := p) (by rw [a1]; simp)
  obtain ⟨y, hy⟩ := eq_of_mod (a := -c (m + 2)) (b := 0) (p := p) (by rw [a2]; simp)
  have : c k * c (m + 2) - c (k + 2) * c m = p * (-(c k * y) + x * c m) := by grind
  rw [this]
  exact Int.mul_emod_right _ _
theorem fits_of_crs {N : Nat} {c : Nat → Int} {p : Int} (hp : isP p = true) (hc : ∀ k, 0 ≤ c k ∧ c k < p) (h : CRSN N c p) : (∃ v : Nat, (v : Int) < p ∧ fitsP N c p 1 v) ∨ fitsP N c p 0 1 := by
  obtain ⟨P, rfl⟩ : ∃ P : Nat, p = (P : Int) := ⟨p.toNat, by have := (isP_nat hp).2; omega⟩
  have hq := (isP_nat hp).1
  have hp3 := (isP_nat hp).2
  rw [Int.toNat_natCast] at hq
  have : NeZero P := ⟨by omega⟩
  rcases Classical.em (∃ m, m < N ∧ c (m + 2) ≠ 0) with ⟨m, hm, hne⟩ | z
  · left
    have hy : fz P (c (m + 2)) ≠ 0 := fun z => by
      have := fz_null z
      rw [Int.emod_eq_of_lt (hc _).1 (hc _).2] at this
      exact hne this
    obtain ⟨w, hw⟩ := fin_inv hq hy
    refine ⟨(fz P (c m) * w).val, by have := (fz P (c m) * w).isLt; omega, fun k hk => ?_⟩
    refine fz_null_iff.mpr ?_
    have a := fz_null_iff (p := P).mp (h k m hk hm)
    rw [fz_sub, fz_mul, fz_mul] at a
    rw [Int.one_mul, fz_sub, fz_mul]
    have e : fz P (((fz P (c m) * w).val : Nat) : Int) = fz P (c m) * w := fz_nat _ _
    rw [e]
    exact g_c4 a hw
  · right
    intro k hk
    have e : c (k + 2) = 0 := by
      rcases Classical.em (c (k + 2) = 0) with y | y
      · exact y
      · exact absurd ⟨k, hk, y⟩ z
    rw [e]
    simp
/-! the row as a list -/
def cv (L : List Int) (i : Nat) : Int := (L[i]?).getD 0
theorem cv_at {L : List Int} {i : Nat} {x : Int} (h : L[i]? = some x) : cv L i = x := by
  unfold cv
  rw [h]
  rfl
theorem cv_out {L : List Int} {i : Nat} (h : L.length ≤ i) : cv L i = 0 := by
  unfold cv
  rw [List.getElem?_eq_none h]
  rfl
theorem cv_ok {L : List Int} {p : Int} (hp : 0 < p) (h : ∀ x, x ∈ L → 0 ≤ x ∧ x < p) (i : Nat) : 0 ≤ cv L i ∧ cv L i < p := by
  unfold cv
  cases e : L[i]? with
  | none => exact ⟨Int.le_refl _, hp⟩
  | some x => exact h x (List.mem_of_getElem? e)
def hasPar (L : List Int) (z : Nat) (n : Nat) : Bool := (List.range n).any fun i => decide (i % 2 = z) && decide (cv L i ≠ 0)
theorem hasPar_succ {L : List Int} {z n : Nat} : hasPar L z (n + 1) = (hasPar L z n || (decide (n % 2 = z) && decide (cv L n ≠ 0))) := by
  unfold hasPar
  rw [List.range_succ, List.any_append, List.any_cons, List.any_nil, Bool.or_false]
def mixed (L : List Int) : Bool := hasPar L 0 L.length && hasPar L 1 L.length
theorem par_iff {L : List Int} {n : Nat} (hn : L.length = n + 1) : PAR n (cv L) ↔ mixed L = false := by
  unfold mixed hasPar
  constructor
  · intro h
    rw [Bool.eq_false_iff]
    intro z
    have z := Bool.and_eq_true_iff.mp z
    obtain ⟨i, hi, ei⟩ := List.any_eq_true.mp z.1
    obtain ⟨j, hj, ej⟩ := List.any_eq_true.mp z.2
    have hi := List.mem_range.mp hi
    have hj := List.mem_range.mp hj
    simp only [Bool.and_eq_true, decide_eq_true_eq] at ei ej
    rcases h i j (by omega) (by omega) (by omega) with q | q
    · exact ei.2 q
    · exact ej.2 q
  · intro h i j hi hj ho
    rcases Classical.em (cv L i = 0 ∨ cv L j = 0) with z | z
    · exact z
    · exfalso
      have zi : cv L i ≠ 0 := fun q => z (.inl q)
      have zj : cv L j ≠ 0 := fun q => z (.inr q)
      have mk : ∀ a b, a < L.length → b < L.length → a % 2 = 0 → b % 2 = 1 → cv L a ≠ 0 → cv L b ≠ 0 → False := by
        intro a b ha hb a0 b1 ca cb
        have q1 : ((List.range L.length).any fun i => decide (i % 2 = 0) && decide (cv L i ≠ 0)) = true := List.any_eq_true.mpr ⟨a, List.mem_range.mpr ha, by simp [a0, ca]⟩
        have q2 : ((List.range L.length).any fun i => decide (i % 2 = 1) && decide (cv L i ≠ 0)) = true := List.any_eq_true.mpr ⟨b, List.mem_range.mpr hb, by simp [b1, cb]⟩
        rw [q1, q2] at h
        cases h
      rcases Nat.mod_two_eq_zero_or_one i with e | e
      · exact mk i j (by omega) (by omega) e (by omega) zi zj
      · exact mk j i (by omega) (by omega) (by omega) e zj zi
theorem crs_iff {L : List Int} {n : Nat} {p : Int} (hn : L.length = n + 1) : CRS n (cv L) p ↔ CRSN (L.length - 2) (cv L) p :=
  ⟨fun h k m hk hm => h k m (by omega) (by omega), fun h k m hk hm => h k m (by omega) (by omega)⟩
/-- the law's word on a row -/
def Told (p : Int) (L : List Int) : Prop := mixed L = false ∧ CRSN (L.length - 2) (cv L) p
end Nm

/-! ### plain words: how they are shown -/
namespace Px
open PySem L2 EL
section
variable {α β S : Type} {xs : List α} {f : α → (Option β → Prop) → Prop} {k : List β → Prop}
theorem Br_i {b : Bool} {A B : Prop} (h1 : b = true → A) (h2 : b = false → B) : Br b A B := Br_b h1 h2
theorem Br_y {b : Bool} {A B : Prop} (h : b = true) (h1 : A) : Br b A B := by rw [h]; exact Br_t h1
theorem Br_x {b : Bool} {A B : Prop} (h : b = false) (h1 : B) : Br b A B := by rw [h]; exact Br_f h1
theorem Br_p {P : Prop} [Decidable P] {A B : Prop} (h1 : P → A) (h2 : ¬ P → B) : Br (decide P) A B := Br_d h1 h2
theorem wLet_i {v : α} {k : α → Prop} (h : k v) : wLet v k := h
theorem wJoin_i {f : (α → Prop) → Prop} {k : α → Prop} (h : f k) : wJoin f k := h
/-- a part that may give any of the values that P names -/
theorem wJoin_o {f : (α → Prop) → Prop} {k : α → Prop} (P : α → Prop) (h : ∀ j : α → Prop, (∀ x, P x → j x) → f j) (hk : ∀ x, P x → k x) : wJoin f k := h k hk
theorem wComp_fm (h : α → Option β) (hf : ∀ x, x ∈ xs → ∀ nx : Option β → Prop, nx (h x) → f x nx) (hk : k (xs.filterMap h)) : wComp xs f k := by
  induction xs generalizing k with
  | nil => exact hk
  | cons x xs ih =>
    refine hf x (List.mem_cons_self ..) _ (ih (fun y hy => hf y (List.mem_cons_of_mem _ hy)) ?_)
    rw [List.filterMap_cons] at hk
    cases e : h x with
    | none => rw [e] at hk; simpa using hk
    | some y => rw [e] at hk; simpa using hk
theorem wComp_map (h : α → β) (hf : ∀ x, x ∈ xs → ∀ nx : Option β → Prop, nx (some (h x)) → f x nx) (hk : k (xs.map h)) : wComp xs f k :=
  wComp_fm (fun x => some (h x)) hf (by rwa [List.filterMap_eq_map'])
theorem wComp_flt {f : α → (Option α → Prop) → Prop} {k : List α → Prop} (h : α → Bool) (hf : ∀ x, x ∈ xs → ∀ nx : Option α → Prop, (h x = true → nx (some x)) → (h x = false → nx none) → f x nx) (hk : k (xs.filter h)) : wComp xs f k := by
  induction xs generalizing k with
  | nil => exact hk
  | cons x xs ih =>
    have ih' := fun (k : List α → Prop) => ih (k := k) (fun y hy => hf y (List.mem_cons_of_mem _ hy))
    refine hf x (List.mem_cons_self ..) _ (fun e => ?_) fun e => ?_
    · refine ih' _ ?_
      rw [List.filter_cons, if_pos e] at hk
      exact hk
    · refine ih' _ ?_
      rw [List.filter_cons, if_neg (by rw [e]; simp)] at hk
      exact hk
/-- any list of the right length whose members P knows -/
theorem wComp_all (P : β → Prop) (hf : ∀ x, x ∈ xs → ∀ nx : Option β → Prop, (∀ y, P y → nx (some y)) → f x nx) (hk : ∀ ys : List β, ys.length = xs.length → (∀ y, y ∈ ys → P y) → k ys) : wComp xs f k := by
  induction xs generalizing k with
  | nil => exact hk [] rfl (fun _ h => nomatch h)
  | cons x xs ih =>
    refine hf x (List.mem_cons_self ..) _ fun y hy => ih (fun z hz => hf z (List.mem_cons_of_mem _ hz)) fun ys hl hp => ?_
    refine hk (y :: ys) (by simp [hl]) fun z hz => ?_
    rcases List.mem_cons.mp hz with e | e
    · rw [e]; exact hy
    · exact hp z e
theorem wFor_inv {s : S} {f : α → S → (S → Prop) → (S → Prop) → Prop} {k : S → Prop} (I : List α → S → Prop) (h0 : I [] s)
    (hs : ∀ pre x post s (nx : S → Prop), xs = pre ++ x :: post → I pre s → (∀ s', I (pre ++ [x]) s' → nx s') → f x s nx k) (hd : ∀ s, I xs s → k s) : wFor xs s f k := by
  suffices h : ∀ post pre s, xs = pre ++ post → I pre s → wFor post s f k from h xs [] s rfl h0
  intro post
  induction post with
  | nil =>
    intro pre s e i
    rw [List.append_nil] at e
    subst e
    exact hd s i
  | cons x post ih =>
    intro pre s e i
    refine hs pre x post s _ e i fun s' i' => ih (pre ++ [x]) s' (by rw [e]; simp) i'
theorem wFor_unit {f : α → Unit → (Unit → Prop) → (Unit → Prop) → Prop} {k : Unit → Prop} (hs : ∀ x, x ∈ xs → ∀ nx : Unit → Prop, nx () → f x () nx k) (hd : k ()) : wFor xs () f k :=
  wFor_inv (fun _ _ => True) trivial (fun pre x post s nx e _ h => hs x (by rw [e]; simp) nx (h () trivial)) fun _ _ => hd
/-- over a range, by the number of the turn -/
theorem wFor_rng {lo hi : Int} {s : S} {f : Int → S → (S → Prop) → (S → Prop) → Prop} {k : S → Prop} (I : Int → S → Prop) (hlh : lo ≤ hi) (h0 : I lo s)
    (hs : ∀ i s (nx : S → Prop), lo ≤ i → i < hi → I i s → (∀ s', I (i + 1) s' → nx s') → f i s nx k) (hd : ∀ s, I hi s → k s) : wFor (rangeL lo hi) s f k := by
  suffices h : ∀ (n : Nat) (i : Int) s, i + n = hi → lo ≤ i → I i s → wFor ((List.range n).map fun (j : Nat) => i + (j : Int)) s f k by
    unfold rangeL
    exact h (hi - lo).toNat lo s (by omega) (by omega) h0
  intro n
  induction n with
  | zero =>
    intro i s e _ h
    have : i = hi := by omega
    subst this
    exact hd s h
  | succ n ih =>
    intro i s e hl h
    rw [List.range_succ_eq_map, List.map_cons, List.map_map]
    have e2 : ((fun (j : Nat) => i + (j : Int)) ∘ Nat.succ) = fun (j : Nat) => (i + 1) + (j : Int) := by
      funext j
      show i + ((j + 1 : Nat) : Int) = _
      omega
    have e3 : i + ((0 : Nat) : Int) = i := by omega
    rw [e2, e3]
    exact hs i s _ hl (by omega) h fun s' h' => ih (i + 1) s' (by omega) (by omega) h'
theorem wWhile_m {s : S} {f : S → (S → Prop) → (S → Prop) → Prop} {k : S → Prop} (I : S → Prop) (m : S → Nat) (h0 : I s) (hs : ∀ s (nx : S → Prop), I s → (∀ s', I s' → m s' < m s → nx s') → f s nx k) : wWhile s f k :=
  ⟨fun n s => I s ∧ m s = n, ⟨_, h0, rfl⟩, fun n s ⟨hi, hm⟩ => hs s _ hi fun s' i' l => ⟨m s', by omega, i', rfl⟩⟩
end
/-! lists -/
section
variable {α : Type} [Inhabited α] {xs : List α} {i : Int}
theorem inB_nat {n : Nat} (h : n < xs.length) : inB xs (n : Int) := ⟨by omega, by omega⟩
theorem inB_of (h0 : 0 ≤ i) (h : i < xs.length) : inB xs i := ⟨by omega, h⟩
theorem ixG_nat {n : Nat} : ixG xs (n : Int) = (xs[n]?).getD default := by
  unfold ixG atI ixN
  rw [if_pos (by omega)]
  by_cases c : (n : Int) < xs.length
  · rw [if_pos c]
    simp
  · rw [if_neg c, List.getElem?_eq_none (by omega)]
    rfl
theorem ixG_at {n : Nat} {x : α} (h : xs[n]? = some x) : ixG xs (n : Int) = x := by rw [ixG_nat, h]; rfl
theorem ixG_of {n : Nat} {x : α} (e : i = (n : Int)) (h : xs[n]? = some x) : ixG xs i = x := by rw [e]; exact ixG_at h
theorem ixG_mem (h0 : 0 ≤ i) (h : i < xs.length) : ixG xs i ∈ xs := by
  obtain ⟨n, rfl⟩ : ∃ n : Nat, i = n := ⟨i.toNat, by omega⟩
  have hn : n < xs.length := by omega
  rw [ixG_at (List.getElem?_eq_getElem hn)]
  exact List.getElem_mem hn
theorem setG_nat {n : Nat} {y : α} : setG xs (n : Int) y = xs.set n y := by
  unfold setG ixN
  rw [if_pos (by omega)]
  by_cases c : (n : Int) < xs.length
  · rw [if_pos c]
    simp
  · rw [if_neg c, List.set_eq_of_length_le (by omega)]
theorem setG_of {n : Nat} {y : α} (e : i = (n : Int)) : setG xs i y = xs.set n y := by rw [e]; exact setG_nat
theorem setG_mem {y z : α} (h : z ∈ setG xs i y) : z ∈ xs ∨ z = y := by
  unfold setG at h
  split at h
  · exact List.mem_or_eq_of_mem_set h
  · exact .inl h
end
theorem mem_rangeL {lo hi x : Int} : x ∈ rangeL lo hi ↔ lo ≤ x ∧ x < hi := by
  unfold rangeL
  rw [List.mem_map]
  constructor
  · rintro ⟨n, hn, rfl⟩
    have := List.mem_range.mp hn
    omega
  · intro h
    exact ⟨(x - lo).toNat, List.mem_range.mpr (by omega), by omega⟩
theorem lim_le {n : Nat} (h : n ≤ 1000000) : n ≤ LIM := Nat.le_trans h (Nat.le_of_ble_eq_true rfl)
theorem lim_lt {n : Nat} (h : n < 1000000) : n < LIM := Nat.lt_of_lt_of_le h (Nat.le_of_ble_eq_true rfl)
theorem rg_ok {lo hi : Int} (h : -1000000000 ≤ lo ∧ lo ≤ 1000000000 ∧ -1000000000 ≤ hi ∧ hi ≤ 1000000000) : rgOk lo hi := by unfold rgOk; omega
theorem cmul_l {i j : Int} (h : -1000000000 ≤ i ∧ i ≤ 1000000000) : CMul i j := .inl (by omega)
theorem cmul_r {i j : Int} (h : -1000000000 ≤ j ∧ j ≤ 1000000000) : CMul i j := .inr (by omega)
theorem scan_ok {n : Nat} (h : n ≤ 1000) : n + 1 < scanBound := Nat.lt_of_le_of_lt (Nat.succ_le_succ h) (Nat.lt_of_lt_of_le (Nat.lt_succ_self 1001) (Nat.le_of_ble_eq_true rfl))
/-! errors -/
def NumE (n : Int) : PErr := ⟨2, [("number", .int n)]⟩
def SizeE (n : Int) : PErr := ⟨1, [("count", .int n)]⟩
end Px

namespace Nm
open PySem
/-! ### bits -/
theorem band_nat (a b : Nat) : Builtin.bitAnd (a : Int) (b : Int) = ((a &&& b : Nat) : Int) := rfl
theorem xor_add : ∀ (n a b : Nat), a < n → (a ^^^ b) + 2 * (a &&& b) = a + b := by
  intro n
  induction n with
  | zero => intro a b h; omega
  | succ n ih =>
    intro a b h
    by_cases c : a = 0
    · subst c
      simp
    · have q := ih (a / 2) (b / 2) (by omega)
      have x1 : (a ^^^ b) / 2 = a / 2 ^^^ b / 2 := Nat.xor_div_two
      have x2 : (a &&& b) / 2 = a / 2 &&& b / 2 := Nat.and_div_two
      have y1 : (a ^^^ b) % 2 = 1 ↔ ¬ ((a % 2 = 1) ↔ (b % 2 = 1)) := Nat.xor_mod_two_eq_one
      have y2 : (a &&& b) % 2 = 1 ↔ a % 2 = 1 ∧ b % 2 = 1 := Nat.and_mod_two_eq_one
      rw [← x1, ← x2] at q
      omega
theorem bxor_nat (a b : Nat) : Builtin.bitXor (a : Int) (b : Int) = ((a ^^^ b : Nat) : Int) := by
  rw [PyProof.Rows.bitXor_and, band_nat]
  have := xor_add (a + 1) a b (by omega)
  omega
theorem bshr_nat (a n : Nat) : (a : Int) / (2 : Int) ^ n = ((a >>> n : Nat) : Int) := by
  rw [Nat.shiftRight_eq_div_pow, Int.natCast_ediv, Int.natCast_pow]
  rfl
theorem bshl_nat (n : Nat) : (1 : Int) * (2 : Int) ^ n = ((1 <<< n : Nat) : Int) := by
  rw [Nat.shiftLeft_eq, Int.natCast_mul, Int.natCast_pow]
  rfl
theorem band1_nat (a : Nat) : Builtin.bitAnd (a : Int) 1 = ((a % 2 : Nat) : Int) := by
  rw [show (1 : Int) = ((1 : Nat) : Int) from rfl, band_nat, Nat.and_one_is_mod]
theorem bit_at (a n : Nat) : Builtin.bitAnd ((a : Int) / (2 : Int) ^ n) 1 = (((a >>> n) % 2 : Nat) : Int) := by rw [bshr_nat, band1_nat]
theorem xor_lt {n a i : Nat} (h : a < 2 ^ n) (hi : i < n) : a ^^^ (1 <<< i) < 2 ^ n := by
  refine Nat.xor_lt_two_pow h ?_
  rw [Nat.shiftLeft_eq, Nat.one_mul]
  exact Nat.pow_lt_pow_right (by omega) hi
end Nm

namespace Nm
open PySem Px
/-! ### the bits of a lot -/
def bit (l k : Nat) : Bool := decide ((l >>> k) % 2 = 1)
def bits (n l : Nat) : List Nat := (List.range n).filter (bit l)
theorem bits_succ {n l : Nat} : bits (n + 1) l = bits n l ++ (if bit l n = true then [n] else []) := by
  unfold bits
  rw [List.range_succ, List.filter_append, List.filter_cons, List.filter_nil]
theorem mem_bits {n l k : Nat} : k ∈ bits n l ↔ k < n ∧ bit l k = true := by
  unfold bits
  rw [List.mem_filter, List.mem_range]
theorem shr_zero {l n : Nat} (h : l < 2 ^ n) : l >>> n = 0 := by rw [Nat.shiftRight_eq_div_pow]; exact Nat.div_eq_of_lt h
theorem bits_top {l t : Nat} : ∀ {n : Nat}, t ≤ n → l >>> t = 0 → bits n l = bits t l := by
  intro n
  induction n with
  | zero => intro h _; rw [show t = 0 by omega]
  | succ n ih =>
    intro h z
    by_cases c : t = n + 1
    · rw [c]
    · rw [bits_succ, ih (by omega) z]
      have : bit l n = false := by
        unfold bit
        have e : l >>> n = 0 := by
          rw [show n = t + (n - t) by omega, Nat.shiftRight_add, z, Nat.zero_shiftRight]
        rw [e]
        rfl
      rw [this]
      simp
theorem bit_test {m k : Nat} : bit m k = m.testBit k := by
  unfold bit
  rw [Nat.testBit_eq_decide_div_mod_eq, Nat.shiftRight_eq_div_pow]
theorem two_bits {m a b : Nat} (ha : bit m a = true) (hb : bit m b = true) (h : a < b) : 2 ^ a + 2 ^ b ≤ m := by
  have h1 : 2 ^ a ≤ m % 2 ^ b := Nat.ge_two_pow_of_testBit (by rw [Nat.testBit_mod_two_pow, decide_eq_true h, ← bit_test, ha]; rfl)
  have h2 : 1 ≤ m / 2 ^ b := by
    unfold bit at hb
    rw [Nat.shiftRight_eq_div_pow, decide_eq_true_eq] at hb
    generalize m / 2 ^ b = q at hb ⊢
    omega
  have h3 := Nat.div_add_mod m (2 ^ b)
  have h4 := Nat.mul_le_mul_left (2 ^ b) h2
  rw [Nat.mul_one] at h4
  generalize 2 ^ b * (m / 2 ^ b) = q at h3 h4
  generalize m % 2 ^ b = r at h1 h3
  generalize 2 ^ a = x at h1 ⊢
  generalize 2 ^ b = y at h4 ⊢
  omega
theorem bits_sorted {n m : Nat} : (bits n m).Pairwise (· < ·) := List.Pairwise.filter _ (List.pairwise_lt_range)
/-! ### polynomials, to be counted out -/
def evM (r : Nat → Int) : List Nat → Int
  | [] => 1
  | v :: m => r v * evM r m
def insV (v : Nat) : List Nat → List Nat
  | [] => [v]
  | w :: m => if v ≤ w then v :: w :: m else w :: insV v m
theorem evM_ins {r : Nat → Int} {v : Nat} : ∀ m, evM r (insV v m) = r v * evM r m
  | [] => rfl
  | w :: m => by
    unfold insV
    split
    · rfl
    · show r w * evM r (insV v m) = r v * (r w * evM r m)
      rw [evM_ins m, ← Int.mul_assoc, ← Int.mul_assoc, Int.mul_comm (r w)]
def mulM (a b : List Nat) : List Nat := a.foldr insV b
theorem evM_mul {r : Nat → Int} {b : List Nat} : ∀ a, evM r (mulM a b) = evM r a * evM r b
  | [] => by show evM r b = 1 * evM r b; rw [Int.one_mul]
  | v :: a => by
    show evM r (insV v (mulM a b)) = r v * evM r a * evM r b
    rw [evM_ins, evM_mul a, Int.mul_assoc]
abbrev Ply := List (Int × List Nat)
def evP (r : Nat → Int) : Ply → Int
  | [] => 0
  | t :: P => t.1 * evM r t.2 + evP r P
def addT (c : Int) (m : List Nat) : Ply → Ply
  | [] => [(c, m)]
  | t :: P => if t.2 = m then (t.1 + c, t.2) :: P else t :: addT c m P
theorem evP_addT {r : Nat → Int} {c : Int} {m : List Nat} : ∀ P, evP r (addT c m P) = c * evM r m + evP r P
  | [] => rfl
  | t :: P => by
    unfold addT
    split
    · rename_i h
      show (t.1 + c) * evM r t.2 + evP r P = _ + (t.1 * evM r t.2 + evP r P)
      rw [h, Int.add_mul]
      omega
    · show t.1 * evM r t.2 + evP r (addT c m P) = _ + (t.1 * evM r t.2 + evP r P)
      rw [evP_addT P]
      omega
def addP (P Q : Ply) : Ply := P.foldr (fun t a => addT t.1 t.2 a) Q
theorem evP_add {r : Nat → Int} {Q : Ply} : ∀ P, evP r (addP P Q) = evP r P + evP r Q
  | [] => by show evP r Q = 0 + evP r Q; omega
  | t :: P => by
    show evP r (addT t.1 t.2 (addP P Q)) = t.1 * evM r t.2 + evP r P + evP r Q
    rw [evP_addT, evP_add P]
    omega
def mulT (c : Int) (m : List Nat) (Q : Ply) : Ply := Q.map fun t => (c * t.1, mulM m t.2)
theorem evP_mulT {r : Nat → Int} {c : Int} {m : List Nat} : ∀ Q, evP r (mulT c m Q) = c * evM r m * evP r Q
  | [] => by show (0 : Int) = _ * 0; rw [Int.mul_zero]
  | t :: Q => by
    show c * t.1 * evM r (mulM m t.2) + evP r (mulT c m Q) = c * evM r m * (t.1 * evM r t.2 + evP r Q)
    rw [evP_mulT Q, evM_mul, Int.mul_add]
    congr 1
    grind
def mulP (P Q : Ply) : Ply := P.foldr (fun t a => addP (mulT t.1 t.2 Q) a) []
theorem evP_mul {r : Nat → Int} {Q : Ply} : ∀ P, evP r (mulP P Q) = evP r P * evP r Q
  | [] => by show (0 : Int) = 0 * _; rw [Int.zero_mul]
  | t :: P => by
    show evP r (addP (mulT t.1 t.2 Q) (mulP P Q)) = (t.1 * evM r t.2 + evP r P) * evP r Q
    rw [evP_add, evP_mulT, evP_mul P, Int.add_mul]
def isZ (P : Ply) : Bool := P.all fun t => decide (t.1 = 0)
theorem evP_z {r : Nat → Int} : ∀ {P : Ply}, isZ P = true → evP r P = 0
  | [], _ => rfl
  | t :: P, h => by
    unfold isZ at h
    rw [List.all_cons, Bool.and_eq_true, decide_eq_true_eq] at h
    show t.1 * evM r t.2 + evP r P = 0
    rw [h.1, evP_z (P := P) h.2]
    omega
/-! ### roots (Pfaffians) -/
def altS (g : Nat → Int) : Int → List Nat → Int
  | _, [] => 0
  | s, b :: r => s * g b + altS g (-s) r
def altP (g : Nat → Ply) : Int → List Nat → Ply
  | _, [] => []
  | s, b :: r => addP (mulT s [] (g b)) (altP g (-s) r)
theorem alt_ev {r : Nat → Int} {g : Nat → Ply} {h : Nat → Int} : ∀ (L : List Nat) (s : Int), (∀ b, b ∈ L → evP r (g b) = h b) → evP r (altP g s L) = altS h s L
  | [], s, _ => rfl
  | b :: L, s, e => by
    show evP r (addP (mulT s [] (g b)) (altP g (-s) L)) = s * h b + altS h (-s) L
    rw [evP_add, evP_mulT, alt_ev L (-s) (fun c hc => e c (List.mem_cons_of_mem _ hc)), e b (List.mem_cons_self ..)]
    show s * 1 * h b + _ = _
    rw [Int.mul_one]
def pfF (l : Nat → Nat → Int) : Nat → Nat → Int
  | 0, _ => 0
  | f + 1, m => match bits 6 m with
    | [] => 1
    | a :: r => altS (fun b => l a b * pfF l f (m - 2 ^ a - 2 ^ b)) 1 r
def pfP : Nat → Nat → Ply
  | 0, _ => []
  | f + 1, m => match bits 6 m with
    | [] => [(1, [])]
    | a :: r => altP (fun b => mulT 1 [6 * a + b] (pfP f (m - 2 ^ a - 2 ^ b))) 1 r
theorem pf_ev {l : Nat → Nat → Int} {r : Nat → Int} (hr : ∀ a b, a < 6 → b < 6 → r (6 * a + b) = l a b) : ∀ f m, evP r (pfP f m) = pfF l f m
  | 0, _ => rfl
  | f + 1, m => by
    unfold pfP pfF
    split
    · show 1 * 1 + 0 = (1 : Int)
      rfl
    · rename_i a L e
      refine alt_ev L 1 fun b hb => ?_
      have ha : a < 6 := (mem_bits.mp (show a ∈ bits 6 m by rw [e]; exact List.mem_cons_self ..)).1
      have hb : b < 6 := (mem_bits.mp (show b ∈ bits 6 m by rw [e]; exact List.mem_cons_of_mem _ hb)).1
      rw [evP_mulT, pf_ev hr f]
      show 1 * (r (6 * a + b) * 1) * _ = _
      rw [hr a b ha hb, Int.one_mul, Int.mul_one]
theorem altS_ext {g h : Nat → Int} : ∀ (L : List Nat) (s : Int), (∀ b, b ∈ L → g b = h b) → altS g s L = altS h s L
  | [], _, _ => rfl
  | b :: L, s, e => by
    show s * g b + altS g (-s) L = s * h b + altS h (-s) L
    rw [e b (List.mem_cons_self ..), altS_ext L (-s) fun c hc => e c (List.mem_cons_of_mem _ hc)]
/-- enough fuel is enough -/
theorem pf_fuel {l : Nat → Nat → Int} : ∀ (f g m : Nat), m < f → m < g → pfF l f m = pfF l g m
  | 0, _, _, h, _ => by omega
  | _ + 1, 0, _, _, h => by omega
  | f + 1, g + 1, m, h1, h2 => by
    unfold pfF
    split
    · rfl
    · rename_i a L e
      refine altS_ext L 1 fun b hb => ?_
      have sa := mem_bits.mp (show a ∈ bits 6 m by rw [e]; exact List.mem_cons_self ..)
      have hm : 1 ≤ m := by
        rcases Nat.eq_zero_or_pos m with z | z
        · rw [z] at sa
          have : bit 0 a = false := by unfold bit; rw [Nat.zero_shiftRight]; rfl
          rw [this] at sa
          cases sa.2
        · exact z
      have p1 := Nat.one_le_two_pow (n := a)
      have lt : m - 2 ^ a - 2 ^ b < m := by
        generalize 2 ^ a = u at p1 ⊢
        generalize 2 ^ b = v
        omega
      generalize m - 2 ^ a - 2 ^ b = q at lt ⊢
      rw [pf_fuel f g q (by omega) (by omega)]
def pf (l : Nat → Nat → Int) (m : Nat) : Int := pfF l (m + 1) m
def lawP (s t : Nat) : Ply := altP (fun k => mulP (pfP 33 (s ^^^ 1 <<< k)) (pfP 33 (t ^^^ 1 <<< k))) 1 (bits 6 (s ^^^ t))
theorem law_ok : ((List.range 32).all fun s => (List.range 32).all fun t => isZ (lawP s t)) = true := by decide +kernel
theorem pf_law {l : Nat → Nat → Int} {s t : Nat} (hs : s < 32) (ht : t < 32) : altS (fun k => pf l (s ^^^ 1 <<< k) * pf l (t ^^^ 1 <<< k)) 1 (bits 6 (s ^^^ t)) = 0 := by
  have z := List.all_eq_true.mp (List.all_eq_true.mp law_ok s (List.mem_range.mpr hs)) t (List.mem_range.mpr ht)
  have e := evP_z (r := fun v => l (v / 6) (v % 6)) z
  rw [← e]
  symm
  have hr : ∀ a b, a < 6 → b < 6 → (fun v => l (v / 6) (v % 6)) (6 * a + b) = l a b := fun a b _ hb => by
    show l ((6 * a + b) / 6) ((6 * a + b) % 6) = l a b
    rw [show (6 * a + b) / 6 = a by omega, show (6 * a + b) % 6 = b by omega]
  refine alt_ev _ 1 fun k hk => ?_
  have hd : s ^^^ t < 2 ^ 5 := Nat.xor_lt_two_pow hs ht
  have hk5 : k < 5 := by
    rw [bits_top (t := 5) (by omega) (shr_zero hd)] at hk
    exact (mem_bits.mp hk).1
  have x1 : s ^^^ 1 <<< k < 2 ^ 5 := xor_lt hs hk5
  have x2 : t ^^^ 1 <<< k < 2 ^ 5 := xor_lt ht hk5
  rw [evP_mul, pf_ev hr, pf_ev hr]
  unfold pf
  rw [pf_fuel 33 ((s ^^^ 1 <<< k) + 1) (s ^^^ 1 <<< k) (by omega) (by omega), pf_fuel 33 ((t ^^^ 1 <<< k) + 1) (t ^^^ 1 <<< k) (by omega) (by omega)]
end Nm

namespace Lw
open PySem L2 EL Px
def w_ulaw_draws (x_script : List Int) (x_count : Int) (k : Unit → Prop) (e : PErr → Prop) : Prop := (0 < x_count ∧ x_count ≤ 10000) ∧ x_script.length ≤ 63 ∧ k ()
def w_ulaw_next (x_dr x_at : Unit) (x_many : Int) (k : Int → Prop) (e : PErr → Prop) : Prop := 0 < x_many ∧ ∀ n : Int, 0 ≤ n → n < x_many → k n
def w_ulaw_prime (x_dr : Unit) (x_at : Unit) (k : Int → Prop) (e : PErr → Prop) : Prop :=
  (w_ulaw_next x_dr x_at (4 : Int) (fun (r1 : Int) => (Br (decide (r1 > (0 : Int))) (w_ulaw_next x_dr x_at (4 : Int) (fun (r24 : Int) => ((inB ([(3 : Int), (5 : Int), (7 : Int), (11 : Int)] : List Int) r24) ∧ (k (ixG ([(3 : Int), (5 : Int), (7 : Int), (11 : Int)] : List Int) r24)))) e) (w_ulaw_next x_dr x_at (995 : Int) (fun (r30 : Int) => (wLet ((3 : Int) + r30) fun (y36 : Int) => ((rgOk (0 : Int) (40 : Int)) ∧ (wFor (rangeL (0 : Int) (40 : Int)) (y36) (fun (d120 : Int) (s111 : Int) (nx118 bk119 : (Int) → Prop) => ((rgOk (2 : Int) (32 : Int)) ∧ ((Int.toNat ((32 : Int) - (2 : Int)) ≤ LIM) ∧ (wComp (rangeL (2 : Int) (32 : Int)) (fun (d132 : Int) (nx141 : Option Int → Prop) => (((decide (d132 < s111)) = true → (0 < d132)) ∧ (Br ((decide (d132 < s111)) && (decide ((s111 % d132) = (0 : Int)))) (nx141 (some d132)) (nx141 none)))) (fun (zs166 : List Int) => (Br (decide (zs166 = ([] : List Int))) (k s111) (wLet (s111 - (1 : Int)) fun (y198 : Int) => (nx118 (y198))))))))) (fun (s124 : Int) => (k (3 : Int))))))) e))) e)
def w_ulaw_residue (x_dr : Unit) (x_at : Unit) (x_p : Int) (k : Int → Prop) (e : PErr → Prop) : Prop :=
  (w_ulaw_next x_dr x_at (4 : Int) (fun (r1 : Int) => (Br (decide (r1 = (0 : Int))) (k (0 : Int)) (w_ulaw_next x_dr x_at x_p (fun (r8 : Int) => (k r8)) e))) e)
def w_ulaw_ends_left (x_way : Str) (x_n : Int) (k : Int → Prop) (e : PErr → Prop) : Prop :=
  (Br (decide (x_way = (Str.ofString "fixed"))) (k (x_n - (1 : Int))) (Br (decide (x_way = (Str.ofString "tied"))) (k (x_n - (2 : Int))) (k x_n)))
def w_ulaw_bit_row (x_n : Int) (x_mask : Int) (k : (List Int) → Prop) (e : PErr → Prop) : Prop :=
  ((rgOk (0 : Int) x_n) ∧ ((Int.toNat x_n ≤ LIM) ∧ (wComp (rangeL (0 : Int) x_n) (fun (d2 : Int) (nx11 : Option Int → Prop) => ((0 ≤ d2) ∧ (nx11 (some (PySem.Builtin.bitAnd (x_mask / 2 ^ Int.toNat d2) (1 : Int)))))) (fun (zs31 : List Int) => (k zs31)))))
def w_ulaw_lot_of (x_bits : (List Int)) (k : Int → Prop) (e : PErr → Prop) : Prop :=
  ((rgOk (0 : Int) (x_bits.length : Int)) ∧ ((Int.toNat (x_bits.length : Int) ≤ LIM) ∧ (wComp (rangeL (0 : Int) (x_bits.length : Int)) (fun (d2 : Int) (nx11 : Option Int → Prop) => ((inB x_bits d2) ∧ ((CPow (ixG x_bits d2) d2) ∧ (nx11 (some ((ixG x_bits d2) * 2 ^ Int.toNat d2)))))) (fun (zs31 : List Int) => (k zs31.sum)))))
def w_ulaw_old_lot (x_way : Str) (x_n : Int) (x_bits : (List Int)) (x_one : Int) (x_more : (List Int)) (k : Int → Prop) (e : PErr → Prop) : Prop :=
  (Br (decide (x_way = (Str.ofString "turned"))) ((rgOk (0 : Int) x_n) ∧ ((Int.toNat x_n ≤ LIM) ∧ (wComp (rangeL (0 : Int) x_n) (fun (d3 : Int) (nx12 : Option Int → Prop) => ((0 < x_n) ∧ ((inB x_bits ((d3 - x_one) % x_n)) ∧ (nx12 (some (ixG x_bits ((d3 - x_one) % x_n))))))) (fun (zs32 : List Int) => (w_ulaw_lot_of zs32 (fun (r47 : Int) => (k r47)) e))))) (Br (decide (x_way = (Str.ofString "mirrored"))) ((rgOk (0 : Int) x_n) ∧ ((Int.toNat x_n ≤ LIM) ∧ (wComp (rangeL (0 : Int) x_n) (fun (d55 : Int) (nx64 : Option Int → Prop) => ((inB x_bits ((x_n - (1 : Int)) - d55)) ∧ (nx64 (some (ixG x_bits ((x_n - (1 : Int)) - d55)))))) (fun (zs84 : List Int) => (w_ulaw_lot_of zs84 (fun (r99 : Int) => (k r99)) e))))) (Br (decide (x_way = (Str.ofString "flipped"))) ((rgOk (0 : Int) x_n) ∧ ((Int.toNat x_n ≤ LIM) ∧ (wComp (rangeL (0 : Int) x_n) (fun (d107 : Int) (nx116 : Option Int → Prop) => ((inB x_bits d107) ∧ ((0 ≤ d107) ∧ (nx116 (some (PySem.Builtin.bitXor (ixG x_bits d107) (PySem.Builtin.bitAnd (x_one / 2 ^ Int.toNat d107) (1 : Int)))))))) (fun (zs136 : List Int) => (w_ulaw_lot_of zs136 (fun (r151 : Int) => (k r151)) e))))) (Br (decide (x_way = (Str.ofString "weighted"))) (w_ulaw_lot_of x_bits (fun (r158 : Int) => (k r158)) e) (((cutG x_bits none (some x_one)).length + x_more.length ≤ LIM) ∧ ((((cutG x_bits none (some x_one)) ++ x_more).length + (cutG x_bits (some x_one) none).length ≤ LIM) ∧ (w_ulaw_lot_of (((cutG x_bits none (some x_one)) ++ x_more) ++ (cutG x_bits (some x_one) none)) (fun (r232 : Int) => (k r232)) e)))))))
def w_ulaw_reckoned (x_way : Str) (x_p : Int) (x_n : Int) (x_a : (List Int)) (x_one : Int) (x_two : Int) (k : (List Int) → Prop) (e : PErr → Prop) : Prop :=
  (wLet ([] : List Int) fun (y14 : List Int) => (w_ulaw_ends_left x_way x_n (fun (r17 : Int) => ((CPow (1 : Int) r17) ∧ ((rgOk (0 : Int) ((1 : Int) * 2 ^ Int.toNat r17)) ∧ (wFor (rangeL (0 : Int) ((1 : Int) * 2 ^ Int.toNat r17)) (y14) (fun (d403 : Int) (s387 : (List Int)) (nx401 bk402 : ((List Int)) → Prop) => (w_ulaw_bit_row r17 d403 (fun (r421 : (List Int)) => (Br (decide (x_way = (Str.ofString "fixed"))) (w_ulaw_old_lot x_way x_n r421 x_one ([x_two] : List Int) (fun (r458 : Int) => ((inB x_a r458) ∧ ((s387.length < LIM) ∧ (wLet (s387 ++ [(ixG x_a r458)]) fun (y474 : List Int) => (nx401 (y474)))))) e) (Br (decide (x_way = (Str.ofString "tied"))) (w_ulaw_old_lot x_way x_n r421 x_one ([(0 : Int), (0 : Int)] : List Int) (fun (r495 : Int) => ((inB x_a r495) ∧ (wLet (ixG x_a r495) fun (y502 : Int) => (w_ulaw_old_lot x_way x_n r421 x_one ([(1 : Int), (1 : Int)] : List Int) (fun (r520 : Int) => ((inB x_a r520) ∧ (wLet (ixG x_a r520) fun (y527 : Int) => ((CMul x_two y527) ∧ ((0 < x_p) ∧ ((s387.length < LIM) ∧ (wLet (s387 ++ [((y502 + (x_two * y527)) % x_p)]) fun (y537 : List Int) => (nx401 (y537))))))))) e)))) e) (((decide (x_way = (Str.ofString "weighted"))) = true → (inB r421 x_one)) ∧ (Br ((decide (x_way = (Str.ofString "weighted"))) && (decide ((ixG r421 x_one) = (1 : Int)))) ((inB x_a d403) ∧ ((CMul (ixG x_a d403) x_two) ∧ ((0 < x_p) ∧ ((s387.length < LIM) ∧ (wLet (s387 ++ [(((ixG x_a d403) * x_two) % x_p)]) fun (y552 : List Int) => (nx401 (y552))))))) (w_ulaw_old_lot x_way x_n r421 x_one ([] : List Int) (fun (r572 : Int) => ((inB x_a r572) ∧ ((s387.length < LIM) ∧ (wLet (s387 ++ [(ixG x_a r572)]) fun (y588 : List Int) => (nx401 (y588)))))) e)))))) e)) (fun (s407 : (List Int)) => (k s407)))))) e))
def w_check_number (x_number : Int) (x_low : Int) (x_high : Int) (k : Unit → Prop) (e : PErr → Prop) : Prop :=
  (Br ((decide (x_number < x_low)) || (decide (x_number > x_high))) (e ⟨2, [("number", (.int x_number))]⟩) (k ()))
def w_is_odd_prime (x_number : Int) (k : Bool → Prop) (e : PErr → Prop) : Prop :=
  (w_check_number x_number (0 : Int) (997 : Int) (fun (r1 : Unit) => (((decide (x_number < (3 : Int))) = false → (0 < (2 : Int))) ∧ (Br ((decide (x_number < (3 : Int))) || (decide ((x_number % (2 : Int)) = (0 : Int)))) (k false) (wWhile ((3 : Int)) (fun (s17 : Int) (nx23 bk24 : (Int) → Prop) => ((CMul s17 s17) ∧ (Br (decide ((s17 * s17) ≤ x_number)) ((0 < s17) ∧ (Br (decide ((x_number % s17) = (0 : Int))) (k false) (wLet (s17 + (2 : Int)) fun (y29 : Int) => (nx23 (y29))))) (bk24 s17)))) (fun (s17 : Int) => (k true)))))) e)
def w_look_prime (x_prime : Int) (k : Unit → Prop) (e : PErr → Prop) : Prop :=
  (w_is_odd_prime x_prime (fun (r1 : Bool) => (Br (!r1) (e ⟨2, [("number", (.int x_prime))]⟩) (k ()))) e)
def w_look_number (x_number : Int) (x_low : Int) (x_high : Int) (k : Unit → Prop) (e : PErr → Prop) : Prop :=
  (Br ((decide (x_number < x_low)) || (decide (x_number > x_high))) (e ⟨2, [("number", (.int x_number))]⟩) (k ()))
def w_look_list (x_items : (List Int)) (x_low : Int) (x_high : Int) (k : Unit → Prop) (e : PErr → Prop) : Prop :=
  (Br ((decide ((x_items.length : Int) < x_low)) || (decide ((x_items.length : Int) > x_high))) (e ⟨1, [("count", (.int (x_items.length : Int)))]⟩) (k ()))
def w_look_residue (x_prime : Int) (x_number : Int) (k : Unit → Prop) (e : PErr → Prop) : Prop :=
  (Br ((decide (x_number < (0 : Int))) || (decide (x_number ≥ x_prime))) (e ⟨2, [("number", (.int x_number))]⟩) (k ()))
def w_look_residues (x_prime : Int) (x_items : (List Int)) (x_count : Int) (k : Unit → Prop) (e : PErr → Prop) : Prop :=
  (w_look_list x_items x_count x_count (fun (r1 : Unit) => (wFor x_items (()) (fun (d34 : Int) (s25 : Unit) (nx32 bk33 : (Unit) → Prop) => (w_look_residue x_prime d34 (fun (r45 : Unit) => (nx32 (()))) e)) (fun (s38 : Unit) => (k ())))) e)
def w_Table_init (x_prime : Int) (x_ends : Int) (x_entries : (List Int)) (k : (Int × Int × (List Int)) → Prop) (e : PErr → Prop) : Prop :=
  (w_look_prime x_prime (fun (r1 : Unit) => (w_look_number x_ends (0 : Int) (6 : Int) (fun (r8 : Unit) => ((CPow (1 : Int) x_ends) ∧ (w_look_residues x_prime x_entries ((1 : Int) * 2 ^ Int.toNat x_ends) (fun (r15 : Unit) => (k (x_prime, x_ends, x_entries))) e))) e)) e)
def w_check_lot (x_count : Int) (x_lot : Int) (k : Unit → Prop) (e : PErr → Prop) : Prop :=
  (w_check_number x_count (0 : Int) (20 : Int) (fun (r1 : Unit) => ((CPow (1 : Int) x_count) ∧ (w_check_number x_lot (0 : Int) (((1 : Int) * 2 ^ Int.toNat x_count) - (1 : Int)) (fun (r7 : Unit) => (k ())) e))) e)
def w_has (x_lot : Int) (x_thing : Int) (k : Bool → Prop) (e : PErr → Prop) : Prop :=
  ((0 ≤ x_thing) ∧ ((0 < (2 : Int)) ∧ (k (decide (((x_lot / 2 ^ Int.toNat x_thing) % (2 : Int)) = (1 : Int))))))
def w_turned_lot (x_count : Int) (x_lot : Int) (x_by : Int) (k : Int → Prop) (e : PErr → Prop) : Prop :=
  (w_check_lot x_count x_lot (fun (r1 : Unit) => (w_check_number x_by (0 : Int) x_count (fun (r7 : Unit) => ((rgOk (0 : Int) x_count) ∧ (wFor (rangeL (0 : Int) x_count) ((0 : Int)) (fun (d36 : Int) (s27 : Int) (nx34 bk35 : (Int) → Prop) => ((0 < x_count) ∧ (w_has x_lot ((d36 + x_by) % x_count) (fun (r47 : Bool) => (Br r47 ((CPow (1 : Int) d36) ∧ (wLet (s27 + ((1 : Int) * 2 ^ Int.toNat d36)) fun (y54 : Int) => (nx34 (y54)))) (nx34 (s27)))) e))) (fun (s40 : Int) => (k s40))))) e)) e)
def w_turned (x_table : (Int × Int × (List Int))) (x_by : Int) (k : (Int × Int × (List Int)) → Prop) (e : PErr → Prop) : Prop :=
  (w_look_number x_by (0 : Int) x_table.2.1 (fun (r1 : Unit) => (wLet (x_table.2.1 - x_by) fun (y7 : Int) => ((CPow (1 : Int) x_table.2.1) ∧ ((rgOk (0 : Int) ((1 : Int) * 2 ^ Int.toNat x_table.2.1)) ∧ ((Int.toNat ((1 : Int) * 2 ^ Int.toNat x_table.2.1) ≤ LIM) ∧ (wComp (rangeL (0 : Int) ((1 : Int) * 2 ^ Int.toNat x_table.2.1)) (fun (d9 : Int) (nx18 : Option Int → Prop) => (w_turned_lot x_table.2.1 d9 y7 (fun (r47 : Int) => ((inB x_table.2.2 r47) ∧ (nx18 (some (ixG x_table.2.2 r47))))) (fun _ => False))) (fun (zs58 : List Int) => (w_Table_init x_table.1 x_table.2.1 zs58 (fun (r82 : (Int × Int × (List Int))) => (k r82)) e)))))))) e)
def w_mirrored_lot (x_count : Int) (x_lot : Int) (k : Int → Prop) (e : PErr → Prop) : Prop :=
  (w_check_lot x_count x_lot (fun (r1 : Unit) => ((rgOk (0 : Int) x_count) ∧ (wFor (rangeL (0 : Int) x_count) ((0 : Int)) (fun (d30 : Int) (s21 : Int) (nx28 bk29 : (Int) → Prop) => (w_has x_lot ((x_count - (1 : Int)) - d30) (fun (r41 : Bool) => (Br r41 ((CPow (1 : Int) d30) ∧ (wLet (s21 + ((1 : Int) * 2 ^ Int.toNat d30)) fun (y48 : Int) => (nx28 (y48)))) (nx28 (s21)))) e)) (fun (s34 : Int) => (k s34))))) e)
def w_mirrored_table (x_table : (Int × Int × (List Int))) (k : (Int × Int × (List Int)) → Prop) (e : PErr → Prop) : Prop :=
  ((CPow (1 : Int) x_table.2.1) ∧ ((rgOk (0 : Int) ((1 : Int) * 2 ^ Int.toNat x_table.2.1)) ∧ ((Int.toNat ((1 : Int) * 2 ^ Int.toNat x_table.2.1) ≤ LIM) ∧ (wComp (rangeL (0 : Int) ((1 : Int) * 2 ^ Int.toNat x_table.2.1)) (fun (d2 : Int) (nx11 : Option Int → Prop) => (w_mirrored_lot x_table.2.1 d2 (fun (r40 : Int) => ((inB x_table.2.2 r40) ∧ (nx11 (some (ixG x_table.2.2 r40))))) (fun _ => False))) (fun (zs51 : List Int) => (w_Table_init x_table.1 x_table.2.1 zs51 (fun (r75 : (Int × Int × (List Int))) => (k r75)) e))))))
def w_look_lot (x_count : Int) (x_lot : Int) (k : Unit → Prop) (e : PErr → Prop) : Prop :=
  ((CPow (1 : Int) x_count) ∧ (w_look_number x_lot (0 : Int) (((1 : Int) * 2 ^ Int.toNat x_count) - (1 : Int)) (fun (r1 : Unit) => (k ())) e))
def w_flipped (x_table : (Int × Int × (List Int))) (x_lot : Int) (k : (Int × Int × (List Int)) → Prop) (e : PErr → Prop) : Prop :=
  (w_look_lot x_table.2.1 x_lot (fun (r1 : Unit) => ((CPow (1 : Int) x_table.2.1) ∧ ((rgOk (0 : Int) ((1 : Int) * 2 ^ Int.toNat x_table.2.1)) ∧ ((Int.toNat ((1 : Int) * 2 ^ Int.toNat x_table.2.1) ≤ LIM) ∧ (wComp (rangeL (0 : Int) ((1 : Int) * 2 ^ Int.toNat x_table.2.1)) (fun (d8 : Int) (nx17 : Option Int → Prop) => ((inB x_table.2.2 (PySem.Builtin.bitXor d8 x_lot)) ∧ (nx17 (some (ixG x_table.2.2 (PySem.Builtin.bitXor d8 x_lot)))))) (fun (zs41 : List Int) => (w_Table_init x_table.1 x_table.2.1 zs41 (fun (r65 : (Int × Int × (List Int))) => (k r65)) e))))))) e)
def w_weighted (x_table : (Int × Int × (List Int))) (x_end : Int) (x_factor : Int) (k : (Int × Int × (List Int)) → Prop) (e : PErr → Prop) : Prop :=
  (w_look_number x_end (0 : Int) (x_table.2.1 - (1 : Int)) (fun (r1 : Unit) => (w_look_residue x_table.1 x_factor (fun (r7 : Unit) => (wLet ([] : List Int) fun (y26 : List Int) => (wFor (enumL x_table.2.2) (y26) (fun (d154 : (Int × Int)) (s140 : (List Int)) (nx152 bk153 : ((List Int)) → Prop) => ((0 ≤ x_end) ∧ ((0 < (2 : Int)) ∧ (Br (decide (((d154.1 / 2 ^ Int.toNat x_end) % (2 : Int)) = (1 : Int))) ((CMul d154.2 x_factor) ∧ ((0 < x_table.1) ∧ ((s140.length < LIM) ∧ (wLet (s140 ++ [((d154.2 * x_factor) % x_table.1)]) fun (y192 : List Int) => (nx152 (y192)))))) ((s140.length < LIM) ∧ (wLet (s140 ++ [d154.2]) fun (y204 : List Int) => (nx152 (y204)))))))) (fun (s158 : (List Int)) => (w_Table_init x_table.1 x_table.2.1 s158 (fun (r219 : (Int × Int × (List Int))) => (k r219)) e))))) e)) e)
def w_wider_lot (x_lot : Int) (x_end : Int) (x_count : Int) (k : Int → Prop) (e : PErr → Prop) : Prop :=
  ((CPow (1 : Int) x_end) ∧ ((0 < ((1 : Int) * 2 ^ Int.toNat x_end)) ∧ ((0 ≤ x_end) ∧ ((CPow (x_lot / 2 ^ Int.toNat x_end) (x_end + x_count)) ∧ (k ((x_lot % ((1 : Int) * 2 ^ Int.toNat x_end)) + ((x_lot / 2 ^ Int.toNat x_end) * 2 ^ Int.toNat (x_end + x_count))))))))
def w_fixed (x_table : (Int × Int × (List Int))) (x_end : Int) (x_bit : Int) (k : (Int × Int × (List Int)) → Prop) (e : PErr → Prop) : Prop :=
  (w_look_number x_end (0 : Int) (x_table.2.1 - (1 : Int)) (fun (r1 : Unit) => (w_look_number x_bit (0 : Int) (1 : Int) (fun (r7 : Unit) => ((CPow x_bit x_end) ∧ (wLet (x_bit * 2 ^ Int.toNat x_end) fun (y13 : Int) => ((CPow (1 : Int) (x_table.2.1 - (1 : Int))) ∧ ((rgOk (0 : Int) ((1 : Int) * 2 ^ Int.toNat (x_table.2.1 - (1 : Int)))) ∧ ((Int.toNat ((1 : Int) * 2 ^ Int.toNat (x_table.2.1 - (1 : Int))) ≤ LIM) ∧ (wComp (rangeL (0 : Int) ((1 : Int) * 2 ^ Int.toNat (x_table.2.1 - (1 : Int)))) (fun (d15 : Int) (nx24 : Option Int → Prop) => (w_wider_lot d15 x_end (1 : Int) (fun (r53 : Int) => ((inB x_table.2.2 (r53 + y13)) ∧ (nx24 (some (ixG x_table.2.2 (r53 + y13)))))) (fun _ => False))) (fun (zs64 : List Int) => (w_Table_init x_table.1 (x_table.2.1 - (1 : Int)) zs64 (fun (r88 : (Int × Int × (List Int))) => (k r88)) e))))))))) e)) e)
def w_tied_ends (x_table : (Int × Int × (List Int))) (x_end : Int) (x_weight : Int) (k : (Int × Int × (List Int)) → Prop) (e : PErr → Prop) : Prop :=
  (w_look_number x_end (0 : Int) (x_table.2.1 - (2 : Int)) (fun (r1 : Unit) => (w_look_residue x_table.1 x_weight (fun (r7 : Unit) => ((CPow (3 : Int) x_end) ∧ (wLet ((3 : Int) * 2 ^ Int.toNat x_end) fun (y13 : Int) => (wLet ([] : List Int) fun (y27 : List Int) => ((CPow (1 : Int) (x_table.2.1 - (2 : Int))) ∧ ((rgOk (0 : Int) ((1 : Int) * 2 ^ Int.toNat (x_table.2.1 - (2 : Int)))) ∧ (wFor (rangeL (0 : Int) ((1 : Int) * 2 ^ Int.toNat (x_table.2.1 - (2 : Int)))) (y27) (fun (d109 : Int) (s95 : (List Int)) (nx107 bk108 : ((List Int)) → Prop) => (w_wider_lot d109 x_end (2 : Int) (fun (r125 : Int) => ((inB x_table.2.2 r125) ∧ ((inB x_table.2.2 (r125 + y13)) ∧ ((CMul x_weight (ixG x_table.2.2 (r125 + y13))) ∧ ((0 < x_table.1) ∧ ((s95.length < LIM) ∧ (wLet (s95 ++ [(((ixG x_table.2.2 r125) + (x_weight * (ixG x_table.2.2 (r125 + y13)))) % x_table.1)]) fun (y145 : List Int) => (nx107 (y145))))))))) e)) (fun (s113 : (List Int)) => (w_Table_init x_table.1 (x_table.2.1 - (2 : Int)) s113 (fun (r160 : (Int × Int × (List Int))) => (k r160)) e))))))))) e)) e)
def w_ulaw_done (x_way : Str) (x_sheet : (Int × Int × (List Int))) (x_one : Int) (x_two : Int) (k : (Int × Int × (List Int)) → Prop) (e : PErr → Prop) : Prop :=
  (Br (decide (x_way = (Str.ofString "turned"))) (w_turned x_sheet x_one (fun (r2 : (Int × Int × (List Int))) => (k r2)) e) (Br (decide (x_way = (Str.ofString "mirrored"))) (w_mirrored_table x_sheet (fun (r11 : (Int × Int × (List Int))) => (k r11)) e) (Br (decide (x_way = (Str.ofString "flipped"))) (w_flipped x_sheet x_one (fun (r20 : (Int × Int × (List Int))) => (k r20)) e) (Br (decide (x_way = (Str.ofString "weighted"))) (w_weighted x_sheet x_one x_two (fun (r29 : (Int × Int × (List Int))) => (k r29)) e) (Br (decide (x_way = (Str.ofString "fixed"))) (w_fixed x_sheet x_one x_two (fun (r38 : (Int × Int × (List Int))) => (k r38)) e) (w_tied_ends x_sheet x_one x_two (fun (r46 : (Int × Int × (List Int))) => (k r46)) e))))))
def w_ulaw_whole (x_x : Int) (k : Bool → Prop) (e : PErr → Prop) : Prop :=
  (k (true && (!false)))
def w_ulaw_same (x_thing : (Int × Int × (List Int))) (x_p : Int) (x_n : Int) (x_cells : (List Int)) (k : Bool → Prop) (e : PErr → Prop) : Prop :=
  (Br ((!true) || (!true)) (k false) (wJoin (fun (j10 : Bool → Prop) => (w_ulaw_whole x_thing.1 (fun (r14 : Bool) => (Br (!r14) (j10 true) (w_ulaw_whole x_thing.2.1 (fun (r22 : Bool) => (j10 (!r22))) e))) e)) (fun (b11 : Bool) => (Br b11 (k false) (wComp x_thing.2.2 (fun (d40 : Int) (nx49 : Option Bool → Prop) => (w_ulaw_whole d40 (fun (r80 : Bool) => (nx49 (some r80))) (fun _ => False))) (fun (zs91 : List Bool) => (Br (!(zs91.all id)) (k false) (wJoin (fun (j117 : Bool → Prop) => (Br (decide (x_thing.1 = x_p)) (wJoin (fun (j132 : Bool → Prop) => (Br (decide (x_thing.2.1 = x_n)) (j132 (decide (x_thing.2.2 = x_cells))) (j132 false))) (fun (b133 : Bool) => (j117 b133))) (j117 false))) (fun (b118 : Bool) => (k b118))))))))))
def w_ulaw_right (x_way : Str) (x_p : Int) (x_n : Int) (x_a : (List Int)) (x_one : Int) (x_two : Int) (k : Bool → Prop) (e : PErr → Prop) : Prop :=
  (w_ulaw_reckoned x_way x_p x_n x_a x_one x_two (fun (r1 : (List Int)) => (w_ulaw_ends_left x_way x_n (fun (r19 : Int) => (w_Table_init x_p x_n x_a (fun (r51 : (Int × Int × (List Int))) => ((rgOk (0 : Int) (2 : Int)) ∧ (wFor (rangeL (0 : Int) (2 : Int)) (()) (fun (d102 : Int) (s92 : Unit) (nx100 bk101 : (Unit) → Prop) => (w_ulaw_done x_way r51 x_one x_two (fun (r114 : (Int × Int × (List Int))) => (w_ulaw_same r114 x_p r19 r1 (fun (r122 : Bool) => (Br (!r122) (k false) (w_ulaw_same r51 x_p x_n x_a (fun (r129 : Bool) => (Br (!r129) (k false) (nx100 (())))) e))) e)) e)) (fun (s106 : Unit) => (k true))))) e)) e)) e)
def w_ulaw_named (x_p : Int) (x_n : Int) (x_a : (List Int)) (x_spin : Int) (x_side : Int) (x_spot : Int) (x_worth : Int) (k : Bool → Prop) (e : PErr → Prop) : Prop :=
  (w_Table_init x_p x_n x_a (fun (r27 : (Int × Int × (List Int))) => (w_ulaw_reckoned (Str.ofString "turned") x_p x_n x_a x_spin (0 : Int) (fun (r39 : (List Int)) => (w_turned r27 x_spin (fun (r57 : (Int × Int × (List Int))) => (w_ulaw_same r57 x_p x_n r39 (fun (r65 : Bool) => (w_ulaw_reckoned (Str.ofString "flipped") x_p x_n x_a x_side (0 : Int) (fun (r71 : (List Int)) => (wJoin (fun (j89 : Bool → Prop) => (Br r65 (w_flipped r27 x_side (fun (r94 : (Int × Int × (List Int))) => (w_ulaw_same r94 x_p x_n r71 (fun (r103 : Bool) => (j89 r103)) e)) (fun _ => False)) (j89 false))) (fun (b90 : Bool) => (w_ulaw_reckoned (Str.ofString "mirrored") x_p x_n x_a (0 : Int) (0 : Int) (fun (r113 : (List Int)) => (wJoin (fun (j131 : Bool → Prop) => (Br b90 (w_mirrored_table r27 (fun (r136 : (Int × Int × (List Int))) => (w_ulaw_same r136 x_p x_n r113 (fun (r145 : Bool) => (j131 r145)) e)) (fun _ => False)) (j131 false))) (fun (b132 : Bool) => (wJoin (fun (j239 : Bool → Prop) => (Br (decide (x_n > (0 : Int))) (w_ulaw_reckoned (Str.ofString "weighted") x_p x_n x_a x_spot x_worth (fun (r249 : (List Int)) => (w_weighted r27 x_spot x_worth (fun (r267 : (Int × Int × (List Int))) => (wJoin (fun (j275 : Bool → Prop) => (Br b132 (w_ulaw_same r267 x_p x_n r249 (fun (r280 : Bool) => (j275 r280)) e) (j275 false))) (fun (b276 : Bool) => (w_ulaw_reckoned (Str.ofString "fixed") x_p x_n x_a x_spot (1 : Int) (fun (r290 : (List Int)) => (w_fixed r27 x_spot (1 : Int) (fun (r308 : (Int × Int × (List Int))) => (wJoin (fun (j316 : Bool → Prop) => (Br b276 (w_ulaw_same r308 x_p (x_n - (1 : Int)) r290 (fun (r321 : Bool) => (j316 r321)) e) (j316 false))) (fun (b317 : Bool) => (j239 b317)))) (fun _ => False))) e)))) (fun _ => False))) e) (j239 b132))) (fun (s238 : Bool) => (wJoin (fun (j374 : Bool → Prop) => (Br (decide (x_n > (1 : Int))) (w_ulaw_reckoned (Str.ofString "tied") x_p x_n x_a (x_n - (2 : Int)) x_worth (fun (r384 : (List Int)) => (w_tied_ends r27 (x_n - (2 : Int)) x_worth (fun (r402 : (Int × Int × (List Int))) => (wJoin (fun (j410 : Bool → Prop) => (Br s238 (w_ulaw_same r402 x_p (x_n - (2 : Int)) r384 (fun (r415 : Bool) => (j410 r415)) e) (j410 false))) (fun (b411 : Bool) => (j374 b411)))) (fun _ => False))) e) (j374 s238))) (fun (s373 : Bool) => (k s373)))))))) e)))) e)) e)) (fun _ => False))) e)) e)
def w_ulaw_names (x_e : PErr) (k : (List (Str × Int)) → Prop) (e : PErr → Prop) : Prop :=
  (wLet ([] : List (Str × Int)) fun (y14 : List (Str × Int)) => (wJoin (fun (j43 : ((List (Str × Int))) → Prop) => (Br (decide (x_e.cls = 2)) (∃ z55 : Int, x_e = (⟨2, [("number", .int z55)]⟩ : PErr) ∧ ((y14.length < LIM) ∧ (wLet (y14 ++ [((Str.ofString "number"), z55)]) fun (y76 : List (Str × Int)) => (j43 y76)))) (j43 y14))) (fun (s42 : (List (Str × Int))) => (wJoin (fun (j112 : ((List (Str × Int))) → Prop) => (Br ((decide (x_e.cls = 1)) || ((decide (x_e.cls = 8)) || ((decide (x_e.cls = 3)) || ((decide (x_e.cls = 6)) || ((decide (x_e.cls = 4)) || false))))) ((s42.length < LIM) ∧ (wLet (s42 ++ [((Str.ofString "other"), (0 : Int))]) fun (y152 : List (Str × Int)) => (j112 y152))) (j112 s42))) (fun (s111 : (List (Str × Int))) => (wJoin (fun (j179 : ((List (Str × Int))) → Prop) => (Br (!true) ((s111.length < LIM) ∧ (wLet (s111 ++ [((Str.ofString "other"), (0 : Int))]) fun (y210 : List (Str × Int)) => (j179 y210))) (j179 s111))) (fun (s178 : (List (Str × Int))) => (k s178))))))))
def w_ulaw_tried (x_way : Str) (x_sheet : (Int × Int × (List Int))) (x_one : Int) (x_two : Int) (k : (List (Str × Int)) → Prop) (e : PErr → Prop) : Prop :=
  (w_ulaw_done x_way x_sheet x_one x_two (fun (r1 : (Int × Int × (List Int))) => (k ([((Str.ofString "made"), r1.2.1)] : List (Str × Int)))) (fun (er4 : PErr) => (w_ulaw_names er4 (fun (r15 : (List (Str × Int))) => (k r15)) (fun _ => False))))
def w_ulaw_got (x_rows : (List (Str × Int))) (x_word : Str) (x_number : Int) (k : Bool → Prop) (e : PErr → Prop) : Prop :=
  (((!(decide ((x_rows.length : Int) = (1 : Int)))) = false → (inB x_rows (0 : Int))) ∧ (Br ((!(decide ((x_rows.length : Int) = (1 : Int)))) || (!(decide ((ixG x_rows (0 : Int)).1 = x_word)))) (k false) (wJoin (fun (j12 : Bool → Prop) => ((inB x_rows (0 : Int)) ∧ (w_ulaw_whole (ixG x_rows (0 : Int)).2 (fun (r18 : Bool) => (Br r18 ((inB x_rows (0 : Int)) ∧ (j12 (decide ((ixG x_rows (0 : Int)).2 = x_number)))) (j12 false))) e))) (fun (b13 : Bool) => (k b13)))))
def w_ulaw_refused (x_p : Int) (x_n : Int) (x_a : (List Int)) (x_odd : Int) (k : Bool → Prop) (e : PErr → Prop) : Prop :=
  (w_Table_init x_p x_n x_a (fun (r27 : (Int × Int × (List Int))) => (wFor ([(x_n + (1 : Int)), ((0 : Int) - (1 : Int)), ((x_n + (2 : Int)) + x_odd)] : List Int) (true) (fun (d174 : Int) (s165 : Bool) (nx172 bk173 : (Bool) → Prop) => (wJoin (fun (j185 : Bool → Prop) => (Br s165 (w_ulaw_tried (Str.ofString "turned") r27 d174 (0 : Int) (fun (r190 : (List (Str × Int))) => (w_ulaw_got r190 (Str.ofString "number") d174 (fun (r209 : Bool) => (j185 r209)) e)) e) (j185 false))) (fun (b186 : Bool) => (nx172 (b186))))) (fun (s178 : Bool) => ((CPow (1 : Int) x_n) ∧ ((CPow (1 : Int) x_n) ∧ (wFor ([((1 : Int) * 2 ^ Int.toNat x_n), ((0 : Int) - (1 : Int)), ((((1 : Int) * 2 ^ Int.toNat x_n) + (1 : Int)) + x_odd)] : List Int) (s178) (fun (d354 : Int) (s345 : Bool) (nx352 bk353 : (Bool) → Prop) => (wJoin (fun (j365 : Bool → Prop) => (Br s345 (w_ulaw_tried (Str.ofString "flipped") r27 d354 (0 : Int) (fun (r370 : (List (Str × Int))) => (w_ulaw_got r370 (Str.ofString "number") d354 (fun (r389 : Bool) => (j365 r389)) e)) e) (j365 false))) (fun (b366 : Bool) => (nx352 (b366))))) (fun (s358 : Bool) => (wFor ([x_n, ((0 : Int) - (1 : Int)), ((x_n + (1 : Int)) + x_odd)] : List Int) (s358) (fun (d751 : Int) (s740 : Bool) (nx749 bk750 : (Bool) → Prop) => (wFor ([(1 : Int), (x_p + (200 : Int))] : List Int) (s740) (fun (d933 : Int) (s923 : Bool) (nx931 bk932 : (Bool) → Prop) => (w_ulaw_tried (Str.ofString "weighted") r27 d751 d933 (fun (r945 : (List (Str × Int))) => (wJoin (fun (j963 : Bool → Prop) => (Br s923 (w_ulaw_got r945 (Str.ofString "number") d751 (fun (r968 : Bool) => (j963 r968)) e) (j963 false))) (fun (b964 : Bool) => (w_ulaw_tried (Str.ofString "fixed") r27 d751 d933 (fun (r978 : (List (Str × Int))) => (wJoin (fun (j996 : Bool → Prop) => (Br b964 (w_ulaw_got r978 (Str.ofString "number") d751 (fun (r1001 : Bool) => (j996 r1001)) e) (j996 false))) (fun (b997 : Bool) => (nx931 (b997))))) e)))) e)) (fun (s937 : Bool) => (nx749 (s937))))) (fun (s755 : Bool) => (wFor ([(x_n - (1 : Int)), x_n, ((0 : Int) - (1 : Int)), ((x_n + (1 : Int)) + x_odd)] : List Int) (s755) (fun (d1297 : Int) (s1286 : Bool) (nx1295 bk1296 : (Bool) → Prop) => (wFor ([(1 : Int), (x_p + (200 : Int))] : List Int) (s1286) (fun (d1446 : Int) (s1436 : Bool) (nx1444 bk1445 : (Bool) → Prop) => (w_ulaw_tried (Str.ofString "tied") r27 d1297 d1446 (fun (r1458 : (List (Str × Int))) => (wJoin (fun (j1476 : Bool → Prop) => (Br s1436 (w_ulaw_got r1458 (Str.ofString "number") d1297 (fun (r1481 : Bool) => (j1476 r1481)) e) (j1476 false))) (fun (b1477 : Bool) => (nx1444 (b1477))))) e)) (fun (s1450 : Bool) => (nx1295 (s1450))))) (fun (s1301 : Bool) => (wFor ([x_p, ((0 : Int) - (1 : Int)), ((x_p + (1 : Int)) + x_odd)] : List Int) (s1301) (fun (d1705 : Int) (s1695 : Bool) (nx1703 bk1704 : (Bool) → Prop) => (wJoin (fun (j1752 : Bool → Prop) => (Br (decide (x_n > (0 : Int))) (w_ulaw_tried (Str.ofString "weighted") r27 (x_n - (1 : Int)) d1705 (fun (r1761 : (List (Str × Int))) => (wJoin (fun (j1779 : Bool → Prop) => (Br s1695 (w_ulaw_got r1761 (Str.ofString "number") d1705 (fun (r1784 : Bool) => (j1779 r1784)) e) (j1779 false))) (fun (b1780 : Bool) => (j1752 b1780)))) e) (j1752 s1695))) (fun (s1751 : Bool) => (Br (decide (x_n > (1 : Int))) (w_ulaw_tried (Str.ofString "tied") r27 (x_n - (2 : Int)) d1705 (fun (r1795 : (List (Str × Int))) => (wJoin (fun (j1813 : Bool → Prop) => (Br s1751 (w_ulaw_got r1795 (Str.ofString "number") d1705 (fun (r1818 : Bool) => (j1813 r1818)) e) (j1813 false))) (fun (b1814 : Bool) => (nx1703 (b1814))))) e) (nx1703 (s1751)))))) (fun (s1709 : Bool) => (wFor ([(2 : Int), ((0 : Int) - (1 : Int)), ((3 : Int) + x_odd)] : List Int) (s1709) (fun (d1965 : Int) (s1955 : Bool) (nx1963 bk1964 : (Bool) → Prop) => (Br (decide (x_n > (0 : Int))) (w_ulaw_tried (Str.ofString "fixed") r27 (x_n - (1 : Int)) d1965 (fun (r1978 : (List (Str × Int))) => (wJoin (fun (j1996 : Bool → Prop) => (Br s1955 (w_ulaw_got r1978 (Str.ofString "number") d1965 (fun (r2001 : Bool) => (j1996 r2001)) e) (j1996 false))) (fun (b1997 : Bool) => (nx1963 (b1997))))) e) (nx1963 (s1955)))) (fun (s1969 : Bool) => (wJoin (fun (j2011 : Bool → Prop) => (Br s1969 (w_ulaw_same r27 x_p x_n x_a (fun (r2016 : Bool) => (j2011 r2016)) e) (j2011 false))) (fun (b2012 : Bool) => (k b2012)))))))))))))))))) e)
def w_law (x_script : (List Int)) (k : Bool → Prop) (e : PErr → Prop) : Prop :=
  (w_ulaw_draws x_script (160 : Int) (fun (r1 : Unit) => (w_ulaw_prime r1 () (fun (r18 : Int) => (w_ulaw_next r1 () (7 : Int) (fun (r24 : Int) => (w_ulaw_next r1 () (r24 + (1 : Int)) (fun (r30 : Int) => ((CPow (1 : Int) r24) ∧ (w_ulaw_next r1 () ((1 : Int) * 2 ^ Int.toNat r24) (fun (r36 : Int) => (w_ulaw_next r1 () (maxI (1 : Int) r24) (fun (r42 : Int) => (w_ulaw_next r1 () (maxI (1 : Int) (r24 - (1 : Int))) (fun (r48 : Int) => (w_ulaw_residue r1 () r18 (fun (r54 : Int) => (w_ulaw_next r1 () (90 : Int) (fun (r60 : Int) => ((CPow (1 : Int) r24) ∧ ((rgOk (0 : Int) ((1 : Int) * 2 ^ Int.toNat r24)) ∧ ((Int.toNat ((1 : Int) * 2 ^ Int.toNat r24) ≤ LIM) ∧ (wComp (rangeL (0 : Int) ((1 : Int) * 2 ^ Int.toNat r24)) (fun (d67 : Int) (nx76 : Option Int → Prop) => (w_ulaw_residue r1 () r18 (fun (r101 : Int) => (nx76 (some r101))) (fun _ => False))) (fun (zs112 : List Int) => ((0 ≤ (r24 + (1 : Int)) ∧ (r24 + (1 : Int)) ≤ 1000000) ∧ (wLet (rangeL (0 : Int) (r24 + (1 : Int))) fun (y144 : (List Int)) => ((0 ≤ r24 ∧ r24 ≤ 1000000) ∧ (wLet (rangeL (0 : Int) r24) fun (y163 : (List Int)) => ((0 ≤ (maxI (r24 - (1 : Int)) (0 : Int)) ∧ (maxI (r24 - (1 : Int)) (0 : Int)) ≤ 1000000) ∧ (wLet (rangeL (0 : Int) (maxI (r24 - (1 : Int)) (0 : Int))) fun (y182 : (List Int)) => (wJoin (fun (j240 : ((List Int) × (List Int) × (List Int)) → Prop) => (Br (decide (r24 > (4 : Int))) (wLet ([(0 : Int), r24, r30] : List Int) fun (y270 : (List Int)) => (wLet ([r42, (r24 - (1 : Int))] : List Int) fun (y288 : (List Int)) => (wLet ([r48, (r24 - (2 : Int))] : List Int) fun (y306 : (List Int)) => (j240 (y270, y288, y306))))) (j240 (y144, y163, y182)))) (fun (s239 : (List Int) × (List Int) × (List Int)) => (wComp s239.1 (fun (d334 : Int) (nx343 : Option (Str × Int × Int) → Prop) => (nx343 (some ((Str.ofString "turned"), d334, (0 : Int))))) (fun (zs391 : List (Str × Int × Int)) => ((([((Str.ofString "mirrored"), (0 : Int), (0 : Int))] : List (Str × Int × Int)).length + zs391.length ≤ LIM) ∧ (wLet (([((Str.ofString "mirrored"), (0 : Int), (0 : Int))] : List (Str × Int × Int)) ++ zs391) fun (y423 : (List (Str × Int × Int))) => ((CPow (1 : Int) r24) ∧ (wComp ([(0 : Int), (((1 : Int) * 2 ^ Int.toNat r24) - (1 : Int)), r36] : List Int) (fun (d474 : Int) (nx483 : Option (Str × Int × Int) → Prop) => (nx483 (some ((Str.ofString "flipped"), d474, (0 : Int))))) (fun (zs531 : List (Str × Int × Int)) => ((y423.length + zs531.length ≤ LIM) ∧ (wLet (y423 ++ zs531) fun (y563 : (List (Str × Int × Int))) => (wFor s239.2.1 (y563) (fun (d870 : Int) (s859 : (List (Str × Int × Int))) (nx868 bk869 : ((List (Str × Int × Int))) → Prop) => (wComp ([r54, (0 : Int)] : List Int) (fun (d932 : Int) (nx941 : Option (Str × Int × Int) → Prop) => (nx941 (some ((Str.ofString "weighted"), d870, d932)))) (fun (zs989 : List (Str × Int × Int)) => ((s859.length + zs989.length ≤ LIM) ∧ (wLet (s859 ++ zs989) fun (y1021 : (List (Str × Int × Int))) => (wComp ([(0 : Int), (1 : Int)] : List Int) (fun (d1072 : Int) (nx1081 : Option (Str × Int × Int) → Prop) => (nx1081 (some ((Str.ofString "fixed"), d870, d1072)))) (fun (zs1129 : List (Str × Int × Int)) => ((y1021.length + zs1129.length ≤ LIM) ∧ (wLet (y1021 ++ zs1129) fun (y1161 : (List (Str × Int × Int))) => (nx868 (y1161))))))))))) (fun (s874 : (List (Str × Int × Int))) => (wFor s239.2.2 (s874) (fun (d1328 : Int) (s1317 : (List (Str × Int × Int))) (nx1326 bk1327 : ((List (Str × Int × Int))) → Prop) => (wComp ([r54, (0 : Int), (r18 - (1 : Int))] : List Int) (fun (d1390 : Int) (nx1399 : Option (Str × Int × Int) → Prop) => (nx1399 (some ((Str.ofString "tied"), d1328, d1390)))) (fun (zs1447 : List (Str × Int × Int)) => ((s1317.length + zs1447.length ≤ LIM) ∧ (wLet (s1317 ++ zs1447) fun (y1479 : (List (Str × Int × Int))) => (nx1326 (y1479))))))) (fun (s1332 : (List (Str × Int × Int))) => (wFor s1332 (()) (fun (d1519 : (Str × Int × Int)) (s1508 : Unit) (nx1517 bk1518 : (Unit) → Prop) => (w_ulaw_right d1519.1 r18 r24 zs112 d1519.2.1 d1519.2.2 (fun (r1538 : Bool) => (Br (!r1538) (k false) (nx1517 (())))) e)) (fun (s1523 : Unit) => (w_ulaw_named r18 r24 zs112 r30 r36 r42 r54 (fun (r1545 : Bool) => (Br (!r1545) (k false) (w_ulaw_refused r18 r24 zs112 r60 (fun (r1552 : Bool) => (k r1552)) e))) e)))))))))))))))))))))))))))))) e)) e)) e)) e)) e))) e)) e)) e)) e)
end Lw
namespace Lw
open PySem L2 EL Nm Px
def okP (n : Int) : Prop := 0 ≤ n ∧ n ≤ 997 ∧ isP n = true
def firstBad (p : Int) : List Int → Option Int
  | [] => none
  | x :: r => if 0 ≤ x ∧ x < p then firstBad p r else some x
theorem firstBad_none {p : Int} {L : List Int} (h : firstBad p L = none) : ∀ x, x ∈ L → 0 ≤ x ∧ x < p := by
  induction L with
  | nil => intro x hx; cases hx
  | cons y r ih =>
    unfold firstBad at h
    split at h
    · rename_i c
      intro x hx
      rcases List.mem_cons.mp hx with z | z
      · rw [z]; exact c
      · exact ih h x z
    · cases h
theorem firstBad_ok {p : Int} {L : List Int} (h : ∀ x, x ∈ L → 0 ≤ x ∧ x < p) : firstBad p L = none := by
  induction L with
  | nil => rfl
  | cons y r ih =>
    unfold firstBad
    rw [if_pos (h y (List.mem_cons_self ..))]
    exact ih fun x hx => h x (List.mem_cons_of_mem _ hx)
theorem firstBad_app {p : Int} {L : List Int} {x : Int} {R : List Int} (h : ∀ x, x ∈ L → 0 ≤ x ∧ x < p) (hx : ¬ (0 ≤ x ∧ x < p)) : firstBad p (L ++ x :: R) = some x := by
  induction L with
  | nil =>
    show (if 0 ≤ x ∧ x < p then firstBad p R else some x) = some x
    rw [if_neg hx]
  | cons y r ih =>
    show (if 0 ≤ y ∧ y < p then firstBad p (r ++ x :: R) else some y) = some x
    rw [if_pos (h y (List.mem_cons_self ..))]
    exact ih fun x hx => h x (List.mem_cons_of_mem _ hx)
theorem p_check_number {n lo hi : Int} {k : Unit → Prop} {e : PErr → Prop} (h1 : lo ≤ n ∧ n ≤ hi → k ()) (h2 : ¬ (lo ≤ n ∧ n ≤ hi) → e (NumE n)) : w_check_number n lo hi k e := by
  unfold w_check_number
  refine Br_i (fun c => h2 ?_) fun c => h1 ?_
  · simp at c; omega
  · simp at c; omega
theorem p_look_number {n lo hi : Int} {k : Unit → Prop} {e : PErr → Prop} (h1 : lo ≤ n ∧ n ≤ hi → k ()) (h2 : ¬ (lo ≤ n ∧ n ≤ hi) → e (NumE n)) : w_look_number n lo hi k e := by
  unfold w_look_number
  refine Br_i (fun c => h2 ?_) fun c => h1 ?_
  · simp at c; omega
  · simp at c; omega
theorem p_is_odd_prime {n : Int} {k : Bool → Prop} {e : PErr → Prop} (h1 : 0 ≤ n ∧ n ≤ 997 → k (isP n)) (h2 : ¬ (0 ≤ n ∧ n ≤ 997) → e (NumE n)) : w_is_odd_prime n k e := by
  unfold w_is_odd_prime
  refine p_check_number (fun hn => ?_) h2
  have hk := h1 hn
  refine ⟨fun _ => by decide, ?_⟩
  obtain ⟨N, rfl⟩ : ∃ N : Nat, n = (N : Int) := ⟨n.toNat, by omega⟩
  have hN : isP (N : Int) = isPN N := by unfold isP; rw [Int.toNat_natCast]
  rw [hN] at hk
  refine Br_i (fun c => ?_) fun c => ?_
  · simp at c
    have z : isPN N = false := by
      unfold isPN
      rcases c with c | c
      · rw [decide_eq_false (by omega : ¬ 3 ≤ N)]; rfl
      · rw [decide_eq_false (by omega : ¬ N % 2 = 1)]; simp
    rw [z] at hk
    exact hk
  · simp at c
    have z : isPN N = noDiv N 3 N := by unfold isPN; rw [decide_eq_true (by omega : 3 ≤ N), decide_eq_true (by omega : N % 2 = 1)]; simp
    rw [z] at hk
    refine wWhile_m (fun s => ∃ f d : Nat, s = (d : Int) ∧ 3 ≤ d ∧ 2 * f + d = 2 * N + 3 ∧ noDiv N 3 N = noDiv f d N) (fun s => (2 * (N : Int) + 3 - s).toNat) ⟨N, 3, rfl, by omega, by omega, rfl⟩ ?_
    rintro s nx ⟨f, d, rfl, h3, hf, hd⟩ hnx
    have hc : ((d : Int) * (d : Int) ≤ (N : Int)) = (d * d ≤ N) := by rw [← Int.natCast_mul]; exact propext Int.ofNat_le
    have hl : d ≤ d * d := Nat.le_mul_self d
    refine ⟨cmul_l (by omega), Br_p (fun c4 => ?_) fun c4 => ?_⟩
    · rw [hc] at c4
      obtain ⟨f, rfl⟩ : ∃ f', f = f' + 1 := ⟨f - 1, by omega⟩
      refine ⟨by omega, Br_p (fun c5 => ?_) fun c5 => ?_⟩
      · rw [hd, noDiv_hit c4 (by omega)] at hk
        exact hk
      · refine hnx _ ⟨f, d + 2, rfl, by omega, by omega, ?_⟩ (by show (2 * (N : Int) + 3 - ((d : Int) + 2)).toNat < _; omega)
        rw [hd, noDiv_go c4 (by omega)]
    · rw [hc] at c4
      rw [hd, noDiv_big (by omega)] at hk
      exact hk
theorem p_look_prime {n : Int} {k : Unit → Prop} {e : PErr → Prop} (h1 : okP n → k ()) (h2 : ¬ okP n → e (NumE n)) : w_look_prime n k e := by
  unfold w_look_prime
  refine p_is_odd_prime (fun hn => ?_) fun hn => h2 fun z => hn ⟨z.1, z.2.1⟩
  refine Br_i (fun c => h2 fun z => ?_) fun c => h1 ⟨hn.1, hn.2, by simpa using c⟩
  rw [z.2.2] at c
  cases c
theorem p_look_residue {p n : Int} {k : Unit → Prop} {e : PErr → Prop} (h1 : 0 ≤ n ∧ n < p → k ()) (h2 : ¬ (0 ≤ n ∧ n < p) → e (NumE n)) : w_look_residue p n k e := by
  unfold w_look_residue
  refine Br_i (fun c => h2 ?_) fun c => h1 ?_
  · simp at c; omega
  · simp at c; omega
theorem p_look_list {L : List Int} {lo hi : Int} {k : Unit → Prop} {e : PErr → Prop} (h1 : lo ≤ L.length ∧ (L.length : Int) ≤ hi → k ()) (h2 : ¬ (lo ≤ L.length ∧ (L.length : Int) ≤ hi) → e (SizeE L.length)) : w_look_list L lo hi k e := by
  unfold w_look_list
  refine Br_i (fun c => h2 ?_) fun c => h1 ?_
  · simp at c; omega
  · simp at c; omega
theorem p_next {u v : Unit} {m : Int} {k : Int → Prop} {e : PErr → Prop} (hm : 0 < m) (h : ∀ n : Int, 0 ≤ n → n < m → k n) : w_ulaw_next u v m k e := ⟨hm, h⟩
theorem p_draws {L : List Int} {c : Int} {k : Unit → Prop} {e : PErr → Prop} (hc : 0 < c ∧ c ≤ 10000) (hl : L.length ≤ 63) (h : k ()) : w_ulaw_draws L c k e := ⟨hc, hl, h⟩
theorem p_ulaw_prime {u v : Unit} {k : Int → Prop} {e : PErr → Prop} (h : ∀ p, isP p = true → p ≤ 997 → k p) : w_ulaw_prime u v k e := by
  unfold w_ulaw_prime
  refine p_next (by decide) fun n n0 n1 => Br_p (fun c => ?_) fun c => ?_
  · refine p_next (by decide) fun m m0 m1 => ⟨inB_of m0 (by simpa using m1), ?_⟩
    have hm := ixG_mem (xs := ([(3 : Int), 5, 7, 11] : List Int)) m0 (by simpa using m1)
    have : ∀ x, x ∈ ([(3 : Int), 5, 7, 11] : List Int) → isP x = true ∧ x ≤ 997 := by decide +kernel
    have hx := this _ hm
    exact h _ hx.1 hx.2
  · refine p_next (by decide) fun m m0 m1 => ?_
    refine ⟨rg_ok (by omega), wFor_inv (fun _ s => 3 ≤ s ∧ s ≤ 997) (by omega) ?_ fun _ _ => h 3 (by decide +kernel) (by omega)⟩
    rintro pre x post s nx _ ⟨h3, h9⟩ hn
    refine ⟨rg_ok (by omega), lim_le (by decide), ?_⟩
    refine wComp_flt (fun d => decide (d < s) && decide (s % d = 0)) (fun d hd nx h1 h2 => ?_) ?_
    · have := mem_rangeL.mp hd
      exact ⟨fun _ => by omega, Br_i (fun c => h1 c) fun c => h2 c⟩
    · refine Br_p (fun c => ?_) fun c => ?_
      · refine h s ?_ h9
        rw [List.filter_eq_nil_iff] at c
        have hd : ∀ d : Int, 2 ≤ d → d < 32 → d < s → s % d ≠ 0 := fun d d0 d1 d2 z => by
          have := c d (mem_rangeL.mpr ⟨d0, d1⟩)
          simp [d2, z] at this
        obtain ⟨N, rfl⟩ : ∃ N : Nat, s = (N : Int) := ⟨s.toNat, by omega⟩
        have hN : isP (N : Int) = isPN N := by unfold isP; rw [Int.toNat_natCast]
        rw [hN]
        cases e : isPN N with
        | true => rfl
        | false =>
          exfalso
          have ho : N % 2 = 1 := by
            have := hd 2 (by omega) (by omega) (by omega)
            omega
          obtain ⟨q, hq, hqq, hz⟩ := small_div (by omega) ho e
          have hq3 := (isPN_prime hq).1
          have q31 : q < 32 := by
            rcases Nat.lt_or_ge q 32 with z | z
            · exact z
            · have := Nat.mul_le_mul z z
              omega
          have hlt : q < N := by
            have := Nat.mul_le_mul_right q hq3
            omega
          exact hd (q : Int) (by omega) (by omega) (by omega) (by omega)
      · refine hn _ ⟨?_, by omega⟩
        rcases Int.lt_or_le 3 s with z | z
        · omega
        · exfalso
          have : s = 3 := by omega
          subst this
          exact c (by decide +kernel)
theorem p_ulaw_residue {u v : Unit} {p : Int} {k : Int → Prop} {e : PErr → Prop} (hp : 0 < p) (h : ∀ n, 0 ≤ n ∧ n < p → k n) : w_ulaw_residue u v p k e := by
  unfold w_ulaw_residue
  exact p_next (by decide) fun n n0 n1 => Br_p (fun c => h 0 ⟨by omega, hp⟩) fun c => p_next hp fun m m0 m1 => h m ⟨m0, m1⟩
/-- a row of residues -/
def Rw (p n : Int) (L : List Int) : Prop := (L.length : Int) = n ∧ ∀ x, x ∈ L → 0 ≤ x ∧ x < p
theorem rw_set {p n i y : Int} {L : List Int} (h : Rw p n L) (hy : 0 ≤ y ∧ y < p) : Rw p n (setG L i y) :=
  ⟨by rw [setG_len]; exact h.1, fun x hx => (setG_mem hx).elim (h.2 x) fun z => by rw [z]; exact hy⟩
theorem zeros_len {n : Int} (hn : 0 ≤ n) : (((rangeL 0 n).map fun _ => (0 : Int)).length : Int) = n := by
  rw [List.length_map, rangeL_len]; omega
theorem rw_zero {p n : Int} (hp : 0 < p) (hn : 0 ≤ n) : Rw p n ((rangeL 0 n).map fun _ => (0 : Int)) :=
  ⟨zeros_len hn, fun x hx => by obtain ⟨_, _, rfl⟩ := List.mem_map.mp hx; omega⟩
theorem not_prod {a b : Int} (ha : 3 ≤ a) (hb : 3 ≤ b) : isP (a * b) = false := by
  rw [Bool.eq_false_iff]
  intro h
  have h2 := isPN_prime (isP_nat h).1
  have e : (a * b).toNat = a.toNat * b.toNat := by
    have : ((a.toNat * b.toNat : Nat) : Int) = a * b := by rw [Int.natCast_mul, Int.toNat_of_nonneg (by omega), Int.toNat_of_nonneg (by omega)]
    omega
  rw [e] at h2
  have hlt : a.toNat < a.toNat * b.toNat := by
    have := Nat.mul_le_mul_left a.toNat (show 2 ≤ b.toNat by omega)
    omega
  exact h2.2.2 a.toNat (by omega) hlt (Nat.mul_mod_right _ _)
theorem firstBad_set {p y : Int} {L : List Int} {n : Nat} (h : ∀ x, x ∈ L → 0 ≤ x ∧ x < p) (hn : n < L.length) (hy : ¬ (0 ≤ y ∧ y < p)) : firstBad p (L.set n y) = some y := by
  rw [List.set_eq_take_append_cons_drop, if_pos hn]
  exact firstBad_app (fun x hx => h x (List.mem_of_mem_take hx)) hy
theorem pow2 {n : Nat} (hn : n ≤ 6) : ∃ M : Nat, M = 2 ^ n ∧ 1 ≤ M ∧ M ≤ 64 ∧ (1 : Int) * (2 : Int) ^ Int.toNat (n : Int) = (M : Int) :=
  ⟨2 ^ n, rfl, Nat.one_le_two_pow, Nat.le_trans (Nat.pow_le_pow_right (by omega) hn) (by decide), by rw [Int.toNat_natCast, Int.one_mul, Int.natCast_pow]; rfl⟩
theorem cpow1 {i : Int} (h : 0 ≤ i ∧ i ≤ 1000) : CPow (1 : Int) i := ⟨h.1, by omega, by decide⟩
def av (A : List Int) (x : Nat) : Int := (A[x]?).getD 0
def step (A : List Int) (one two : Nat) (s : Int × Int) (k : Nat) : Int × Int := (s.1 + s.2 * av A (one ^^^ 1 <<< k) * av A (two ^^^ 1 <<< k), 0 - s.2)
def ssum (p : Int) (n : Nat) (A : List Int) (one two : Nat) : Int := ((bits n (one ^^^ two)).foldl (step A one two) (0, 1)).1 % p
/-- a table of n ends -/
def Tb (p : Int) (n : Nat) (A : List Int) : Prop := A.length = 2 ^ n ∧ ∀ x, x ∈ A → 0 ≤ x ∧ x < p
theorem tb_at {p : Int} {n : Nat} {A : List Int} (h : Tb p n A) {x : Nat} (hx : x < 2 ^ n) : inB A (x : Int) ∧ ixG A (x : Int) = av A x ∧ 0 ≤ av A x ∧ av A x < p := by
  have hl : x < A.length := by rw [h.1]; exact hx
  refine ⟨inB_nat hl, ixG_nat, ?_⟩
  unfold av
  rw [List.getElem?_eq_getElem hl]
  exact h.2 _ (List.getElem_mem hl)
/-- the sign -/
theorem step_sign {A : List Int} {one two : Nat} : ∀ (L : List Nat) (s : Int × Int), (s.2 = 1 ∨ s.2 = -1) → ((L.foldl (step A one two) s).2 = 1 ∨ (L.foldl (step A one two) s).2 = -1)
  | [], s, h => h
  | k :: L, s, h => step_sign L _ (by show 0 - s.2 = 1 ∨ 0 - s.2 = -1; omega)
def FirstIs (p : Int) (n : Nat) (A : List Int) (o : Option (Nat × Nat)) : Prop := match o with
  | none => ∀ a b : Nat, a < b → b < 2 ^ n → ssum p n A a b = 0
  | some q => q.1 < q.2 ∧ q.2 < 2 ^ n ∧ ssum p n A q.1 q.2 ≠ 0 ∧ ∀ a b : Nat, a < b → b < 2 ^ n → (a < q.1 ∨ (a = q.1 ∧ b < q.2)) → ssum p n A a b = 0
theorem first_one {p : Int} {n : Nat} {A : List Int} {o o' : Option (Nat × Nat)} (h : FirstIs p n A o) (h' : FirstIs p n A o') : o = o' := by
  cases o with
  | none =>
    cases o' with
    | none => rfl
    | some q => exact absurd (h q.1 q.2 h'.1 h'.2.1) h'.2.2.1
  | some q =>
    cases o' with
    | none => exact absurd (h' q.1 q.2 h.1 h.2.1) h.2.2.1
    | some r =>
      obtain ⟨a, b⟩ := q
      obtain ⟨c, d⟩ := r
      obtain ⟨h1, h2, h3, h4⟩ := h
      obtain ⟨g1, g2, g3, g4⟩ := h'
      simp only at h1 h2 h3 h4 g1 g2 g3 g4
      rcases Nat.lt_trichotomy a c with z | z | z
      · exact absurd (g4 a b h1 h2 (.inl z)) h3
      · subst z
        rcases Nat.lt_trichotomy b d with y | y | y
        · exact absurd (g4 a b h1 h2 (.inr ⟨rfl, y⟩)) h3
        · subst y; rfl
        · exact absurd (h4 a d g1 g2 (.inr ⟨rfl, y⟩)) g3
      · exact absurd (h4 c d g1 g2 (.inl z)) g3
def castP (o : Option (Nat × Nat)) : Option (Int × Int) := o.map fun q => ((q.1 : Int), (q.2 : Int))
def listP (o : Option (Nat × Nat)) : List Int := match o with | none => [] | some q => [(q.1 : Int), (q.2 : Int)]
/-- the two loops that seek the first pair -/
theorem seek {p : Int} {n : Nat} {A : List Int} {M : Nat} (hM : M = 2 ^ n) {k1 : Nat → Nat → Prop} {k0 : Prop} {f : Int → Unit → (Unit → Prop) → (Unit → Prop) → Prop} {k : Unit → Prop} (hk : k0 → k ())
    (hf : ∀ (one : Nat) (nx : Unit → Prop), one < M → ((∀ two : Nat, one < two → two < M → ssum p n A one two = 0) → nx ()) → (∀ two : Nat, one < two → two < M → ssum p n A one two ≠ 0 → (∀ t : Nat, one < t → t < two → ssum p n A one t = 0) → k1 one two) → f one () nx k)
    (h0 : (∀ a b : Nat, a < b → b < 2 ^ n → ssum p n A a b = 0) → k0) (h1 : ∀ a b : Nat, FirstIs p n A (some (a, b)) → k1 a b) : wFor (rangeL 0 (M : Int)) () f k := by
  refine wFor_rng (fun i _ => ∀ a b : Nat, (a : Int) < i → a < b → b < M → ssum p n A a b = 0) (by omega) (fun a b h => by omega) ?_ fun s i => hk (h0 fun a b h1 h2 => i a b (by omega) h1 (by omega))
  intro i s nx i0 i1 hi hn
  obtain ⟨one, rfl⟩ : ∃ j : Nat, i = (j : Int) := ⟨i.toNat, by omega⟩
  refine hf one nx (by omega) (fun z => hn () fun a b ha hab hb => ?_) fun two h1' h2' h3' h4' => h1 one two ⟨h1', by omega, h3', fun a b ha hb hc => ?_⟩
  · by_cases c : (a : Int) < one
    · exact hi a b c hab hb
    · have : a = one := by omega
      subst this
      exact z b hab hb
  · rcases hc with c | c
    · have c : a < one := c
      exact hi a b (by omega) ha (by omega)
    · have c1 : a = one := c.1
      have c2 : b < two := c.2
      subst c1
      exact h4' b ha c2
theorem seek2 {p : Int} {n : Nat} {A : List Int} {M one : Nat} {f : Int → Unit → (Unit → Prop) → (Unit → Prop) → Prop} {k : Unit → Prop} {k1 : Nat → Nat → Prop} (ho : one < M)
    (hk : (∀ two : Nat, one < two → two < M → ssum p n A one two = 0) → k ()) (h1 : ∀ two : Nat, one < two → two < M → ssum p n A one two ≠ 0 → (∀ t : Nat, one < t → t < two → ssum p n A one t = 0) → k1 one two)
    (hf : ∀ (two : Nat) (nx : Unit → Prop), one < two → two < M → (ssum p n A one two = 0 → nx ()) → (ssum p n A one two ≠ 0 → k1 one two) → f two () nx k) : wFor (rangeL ((one : Int) + 1) (M : Int)) () f k := by
  refine wFor_rng (fun j _ => ∀ t : Nat, one < t → (t : Int) < j → ssum p n A one t = 0) (by omega) (fun t h => by omega) ?_ fun s j => hk fun two h2 h3 => j two h2 (by omega)
  intro j s nx j0 j1 hj hn
  obtain ⟨two, rfl⟩ : ∃ j' : Nat, j = (j' : Int) := ⟨j.toNat, by omega⟩
  refine hf two nx (by omega) (by omega) (fun z => hn () fun t ht0 ht1 => ?_) fun z => h1 two (by omega) (by omega) z fun t ht0 ht1 => hj t ht0 (by omega)
  by_cases c : (t : Int) < two
  · exact hj t ht0 c
  · have : t = two := by omega
    subst this
    exact z
theorem p_look_residues {p c : Int} {L : List Int} {k : Unit → Prop} {e : PErr → Prop} (hl : (L.length : Int) = c) (hL : ∀ x, x ∈ L → 0 ≤ x ∧ x < p) (h : k ()) : w_look_residues p L c k e := by
  unfold w_look_residues
  refine p_look_list (fun _ => wFor_unit (fun x hx nx hn => p_look_residue (fun _ => hn) fun z => absurd (hL x hx) z) h) fun z => absurd ⟨by omega, by omega⟩ z
theorem p_Table_init {p : Int} {n : Nat} {A : List Int} {k : Int × Int × List Int → Prop} {e : PErr → Prop} (hp : isP p = true ∧ p ≤ 997) (hn : n ≤ 6) (hA : Tb p n A) (h : k (p, (n : Int), A)) : w_Table_init p n A k e := by
  unfold w_Table_init
  obtain ⟨M, hM, m1, m2, eM⟩ := pow2 hn
  have hp3 := (isP_nat hp.1).2
  refine p_look_prime (fun _ => p_look_number (fun _ => ⟨cpow1 (by omega), ?_⟩) fun z => absurd ⟨by omega, by omega⟩ z) fun z => absurd ⟨by omega, hp.2, hp.1⟩ z
  rw [eM]
  exact p_look_residues (by rw [hA.1, hM]) hA.2 h
theorem p_whole {x : Int} {k : Bool → Prop} {e : PErr → Prop} (h : k true) : w_ulaw_whole x k e := h
theorem p_same {p : Int} {n : Nat} {A : List Int} {k : Bool → Prop} {e : PErr → Prop} (h : k true) : w_ulaw_same (p, (n : Int), A) p n A k e := by
  unfold w_ulaw_same
  refine Br_x rfl (wJoin_i (p_whole (Br_x rfl (p_whole (Br_x rfl ?_)))))
  refine wComp_map (fun _ => true) (fun x _ nx hx => p_whole hx) ?_
  have ea : (A.map fun _ => true).all id = true := by rw [List.all_map]; exact List.all_eq_true.mpr fun _ _ => rfl
  show Br (!(A.map fun _ => true).all id) _ _
  rw [ea]
  refine Br_x rfl (wJoin_i (Br_y (decide_eq_true rfl) (wJoin_i (Br_y (decide_eq_true rfl) ?_))))
  show k (decide (A = A))
  rw [decide_eq_true rfl]
  exact h
theorem spot_ok : ∀ n : Nat, n < 7 → ∀ h : Nat, h < n → ∀ l : Nat, l < h → 0 ≤ (((l : Int) * (2 * (n : Int) - l - 1)) / 2 + h - l - 1) ∧ (((l : Int) * (2 * (n : Int) - l - 1)) / 2 + h - l - 1) < ((n : Int) * (n - 1)) / 2 := by decide +kernel
theorem own_eq {n m : Nat} : (rangeL 0 (n : Int)).filter (fun d => decide (PySem.Builtin.bitAnd ((m : Int) / 2 ^ Int.toNat d) 1 = 1)) = (bits n m).map fun (x : Nat) => (x : Int) := by
  unfold rangeL bits
  rw [show ((n : Int) - 0).toNat = n by omega, List.filter_map]
  have e : ((fun d : Int => decide (PySem.Builtin.bitAnd ((m : Int) / 2 ^ Int.toNat d) 1 = 1)) ∘ fun (i : Nat) => (0 : Int) + (i : Int)) = bit m := by
    funext i
    show decide (PySem.Builtin.bitAnd ((m : Int) / 2 ^ Int.toNat ((0 : Int) + (i : Int))) 1 = 1) = bit m i
    rw [Int.zero_add, Int.toNat_natCast, bit_at]
    unfold bit
    rw [Bool.eq_iff_iff, decide_eq_true_eq, decide_eq_true_eq]
    omega
  rw [e]
  congr 1
  funext i
  exact Int.zero_add _
theorem tb_of {p : Int} {n M : Nat} {A : List Int} (hM : M = 2 ^ n) (h : Rw p (M : Int) A) : Tb p n A := ⟨by rw [← hM]; have := h.1; omega, h.2⟩
theorem p_look_lot {n : Nat} {x : Int} {k : Unit → Prop} {e : PErr → Prop} (hn : n ≤ 6) (h1 : ∀ a : Nat, x = a → a < 2 ^ n → k ()) (h2 : ¬ (0 ≤ x ∧ x < 2 ^ n) → e (NumE x)) : w_look_lot n x k e := by
  unfold w_look_lot
  obtain ⟨M, hM, m1, m2, eM⟩ := pow2 hn
  have eI : ((2 : Int) ^ n) = (M : Int) := by rw [hM, Int.natCast_pow]; rfl
  rw [eM]
  rw [eI] at h2
  rw [← hM] at h1
  refine ⟨cpow1 (by omega), p_look_number (fun z => h1 x.toNat (by omega) (by omega)) fun z => h2 (by omega)⟩
theorem p_names_num {n : Int} {k : List (Str × Int) → Prop} {e : PErr → Prop} (h : k [(Str.ofString "number", n)]) : w_ulaw_names (NumE n) k e :=
  wLet_i (wJoin_i (Br_y rfl ⟨n, rfl, lim_lt (by decide), wLet_i (wJoin_i (Br_x rfl (wJoin_i (Br_x rfl h))))⟩))
theorem p_got {w : Str} {n : Int} {k : Bool → Prop} {e : PErr → Prop} (h : k true) : w_ulaw_got [(w, n)] w n k e := by
  unfold w_ulaw_got
  have b : inB ([(w, n)] : List (Str × Int)) 0 := inB_of (by omega) (by simp)
  have g : ixG ([(w, n)] : List (Str × Int)) 0 = (w, n) := ixG_at (n := 0) rfl
  rw [g]
  refine ⟨fun _ => b, Br_x (by simp) (wJoin_i ⟨b, p_whole (Br_y rfl ⟨b, ?_⟩)⟩)⟩
  show k (decide (n = n))
  rw [decide_eq_true rfl]
  exact h
theorem cpowS {i j : Int} (hi : -1000 ≤ i ∧ i ≤ 1000) (hj : 0 ≤ j ∧ j ≤ 1000) : CPow i j := ⟨hj.1, by omega, by omega⟩
def bitI (m j : Nat) : Int := (((m >>> j) % 2 : Nat) : Int)
theorem bitI_01 {m j : Nat} : bitI m j = 0 ∨ bitI m j = 1 := by unfold bitI; omega
theorem bitI_dec {m j : Nat} : decide (bitI m j = 1) = bit m j := by
  unfold bitI bit
  rw [decide_eq_decide]
  omega
def lotL : List Int → Int
  | [] => 0
  | b :: L => b + 2 * lotL L
theorem lotL_app : ∀ (L R : List Int), lotL (L ++ R) = lotL L + 2 ^ L.length * lotL R
  | [], R => by
    show lotL R = 0 + 2 ^ 0 * lotL R
    rw [Int.pow_zero, Int.one_mul, Int.zero_add]
  | b :: L, R => by
    show b + 2 * lotL (L ++ R) = b + 2 * lotL L + 2 ^ (L.length + 1) * lotL R
    rw [lotL_app L R, Int.pow_succ]
    grind
def rowI (n m : Nat) : List Int := (List.range n).map (bitI m)
theorem rowI_len {n m : Nat} : (rowI n m).length = n := by unfold rowI; rw [List.length_map, List.length_range]
def B01 (L : List Int) : Prop := ∀ x, x ∈ L → x = 0 ∨ x = 1
theorem rowI_01 {n m : Nat} : B01 (rowI n m) := fun x hx => by
  obtain ⟨j, _, rfl⟩ := List.mem_map.mp hx
  exact bitI_01
theorem lot_lt : ∀ (L : List Int), B01 L → ∃ a : Nat, lotL L = a ∧ a < 2 ^ L.length
  | [], _ => ⟨0, rfl, by decide⟩
  | b :: L, h => by
    obtain ⟨a, ea, la⟩ := lot_lt L fun x hx => h x (List.mem_cons_of_mem _ hx)
    have hb := h b (List.mem_cons_self ..)
    refine ⟨b.toNat + 2 * a, ?_, ?_⟩
    · show b + 2 * lotL L = _
      rw [ea]
      omega
    · rw [List.length_cons, Nat.pow_succ]
      omega
theorem rowI_succ {n m : Nat} : rowI (n + 1) m = bitI m 0 :: rowI n (m >>> 1) := by
  unfold rowI
  rw [List.range_succ_eq_map, List.map_cons, List.map_map]
  congr 1
  refine List.map_congr_left fun j _ => ?_
  show bitI m (j + 1) = bitI (m >>> 1) j
  unfold bitI
  rw [← Nat.shiftRight_add, Nat.add_comm 1 j]
theorem lot_row : ∀ (n m : Nat), lotL (rowI n m) = ((m % 2 ^ n : Nat) : Int)
  | 0, m => by
    rw [Nat.pow_zero, Nat.mod_one]
    rfl
  | n + 1, m => by
    rw [rowI_succ]
    show bitI m 0 + 2 * lotL (rowI n (m >>> 1)) = _
    rw [lot_row n (m >>> 1)]
    have e : m % 2 ^ (n + 1) = m % 2 + 2 * ((m >>> 1) % 2 ^ n) := by
      rw [Nat.shiftRight_eq_div_pow, Nat.pow_one, Nat.pow_succ, Nat.mul_comm, Nat.mod_mul]
    rw [e]
    unfold bitI
    rw [Nat.shiftRight_zero]
    omega
theorem row_take {n m t : Nat} (h : t ≤ n) : (rowI n m).take t = rowI t m := by
  unfold rowI
  rw [← List.map_take, List.take_range, Nat.min_eq_left h]
theorem row_drop : ∀ {t n m : Nat}, t ≤ n → (rowI n m).drop t = rowI (n - t) (m >>> t)
  | 0, n, m, _ => by
    rw [List.drop_zero, Nat.sub_zero, Nat.shiftRight_zero]
  | t + 1, 0, m, h => by omega
  | t + 1, n + 1, m, h => by
    rw [rowI_succ, List.drop_succ_cons, row_drop (by omega), ← Nat.shiftRight_add, Nat.add_comm 1 t, Nat.add_sub_add_right]
theorem sumL_of : ∀ (L : List Int) (c : Nat), ((List.range L.length).map fun i => (L[i]?).getD 0 * 2 ^ (i + c)).sum = 2 ^ c * lotL L
  | [], c => by
    show (0 : Int) = 2 ^ c * 0
    rw [Int.mul_zero]
  | b :: L, c => by
    rw [List.length_cons, List.range_succ_eq_map, List.map_cons, List.map_map, List.sum_cons]
    have e : (List.range L.length).map ((fun i => ((b :: L)[i]?).getD 0 * (2 : Int) ^ (i + c)) ∘ Nat.succ) = (List.range L.length).map fun i => (L[i]?).getD 0 * 2 ^ (i + (c + 1)) := by
      refine List.map_congr_left fun i _ => ?_
      show (((b :: L)[i + 1]?).getD 0) * (2 : Int) ^ (i + 1 + c) = _
      rw [List.getElem?_cons_succ, show i + 1 + c = i + (c + 1) by omega]
    rw [e, sumL_of L (c + 1)]
    show b * 2 ^ (0 + c) + 2 ^ (c + 1) * lotL L = 2 ^ c * (b + 2 * lotL L)
    rw [Nat.zero_add, Int.pow_succ]
    grind
theorem wFor_true {α : Type} {xs : List α} {f : α → Bool → (Bool → Prop) → (Bool → Prop) → Prop} {k : Bool → Prop} (hs : ∀ x, x ∈ xs → ∀ nx : Bool → Prop, nx true → f x true nx k) (hd : k true) : wFor xs true f k := by
  refine wFor_inv (fun _ s => s = true) rfl (fun pre x post s nx e i h => ?_) fun s i => by rw [i]; exact hd
  subst i
  exact hs x (by rw [e]; simp) nx (h true rfl)
/-- a table whose entries are told one by one -/
def rowG (M : Nat) (g : Nat → Int) : List Int := (List.range M).map g
theorem rowG_app {i : Nat} {g : Nat → Int} : rowG (i + 1) g = rowG i g ++ [g i] := by
  unfold rowG
  rw [List.range_succ, List.map_append]
  rfl
theorem rowG_len {M : Nat} {g : Nat → Int} : (rowG M g).length = M := by unfold rowG; rw [List.length_map, List.length_range]
theorem rowG_map {M : Nat} {g : Nat → Int} : (rangeL 0 (M : Int)).map (fun d => g d.toNat) = rowG M g := by
  unfold rangeL rowG
  rw [show ((M : Int) - 0).toNat = M by omega, List.map_map]
  refine List.map_congr_left fun i _ => ?_
  show g ((0 : Int) + (i : Int)).toNat = g i
  rw [Int.zero_add, Int.toNat_natCast]
theorem rowG_tb {p : Int} {n : Nat} {g : Nat → Int} (h : ∀ i, i < 2 ^ n → 0 ≤ g i ∧ g i < p) : Tb p n (rowG (2 ^ n) g) := ⟨rowG_len, fun x hx => by
  obtain ⟨i, hi, rfl⟩ := List.mem_map.mp hx
  exact h i (List.mem_range.mp hi)⟩
/-- the loop that appends what is told -/
theorem wFor_row {M : Nat} {g : Nat → Int} {f : Int → List Int → (List Int → Prop) → (List Int → Prop) → Prop} {k : List Int → Prop} (hM : M ≤ 1000)
    (hs : ∀ i : Nat, i < M → ∀ (s : List Int) (nx : List Int → Prop), s.length < LIM → nx (s ++ [g i]) → f i s nx k) (hd : k (rowG M g)) : wFor (rangeL 0 (M : Int)) [] f k := by
  refine wFor_rng (fun i s => s = rowG i.toNat g) (by omega) rfl (fun i s nx i0 i1 e hn => ?_) fun s e => by
    rw [e, Int.toNat_natCast]
    exact hd
  obtain ⟨j, rfl⟩ : ∃ j : Nat, i = (j : Int) := ⟨i.toNat, by omega⟩
  rw [Int.toNat_natCast] at e
  refine hs j (by omega) s nx (lim_lt (by rw [e, rowG_len]; omega)) (hn _ ?_)
  rw [show ((j : Int) + 1).toNat = j + 1 by omega, rowG_app, e]
/-- the lots of the old table -/
def tI (n m b : Nat) : Int := lotL ((List.range n).map fun i => bitI m ((i + b) % n))
def mI (n m : Nat) : Int := lotL ((List.range n).map fun i => bitI m (n - 1 - i))
def wideN (m t c : Nat) : Nat := m % 2 ^ t + (m / 2 ^ t) * 2 ^ (t + c)
theorem bits01 {n : Nat} {h : Nat → Nat} {m : Nat} : B01 ((List.range n).map fun i => bitI m (h i)) := fun x hx => by
  obtain ⟨j, _, rfl⟩ := List.mem_map.mp hx
  exact bitI_01
theorem tI_lt (n m b : Nat) : ∃ a : Nat, tI n m b = a ∧ a < 2 ^ n := by
  have := lot_lt _ (bits01 (n := n) (m := m) (h := fun i => (i + b) % n))
  rw [List.length_map, List.length_range] at this
  exact this
theorem mI_lt (n m : Nat) : ∃ a : Nat, mI n m = a ∧ a < 2 ^ n := by
  have := lot_lt _ (bits01 (n := n) (m := m) (h := fun i => n - 1 - i))
  rw [List.length_map, List.length_range] at this
  exact this
theorem wide_lt {n m t c x : Nat} (hc : 1 ≤ c) (hx : x < 2 ^ c) (ht : t + c ≤ n) (hm : m < 2 ^ (n - c)) : wideN m t c + x * 2 ^ t < 2 ^ n := by
  unfold wideN
  have h1 : m % 2 ^ t < 2 ^ t := Nat.mod_lt _ (Nat.two_pow_pos t)
  have h2 : m / 2 ^ t < 2 ^ (n - c - t) := by
    refine Nat.div_lt_of_lt_mul ?_
    rw [← Nat.pow_add, show t + (n - c - t) = n - c by omega]
    exact hm
  have e : (2 : Nat) ^ n = 2 ^ (n - c - t) * 2 ^ (t + c) := by rw [← Nat.pow_add]; congr 1; omega
  have e2 : (2 : Nat) ^ (t + c) = 2 ^ c * 2 ^ t := by rw [← Nat.pow_add, Nat.add_comm c t]
  have h3 : (m / 2 ^ t + 1) * 2 ^ (t + c) ≤ 2 ^ (n - c - t) * 2 ^ (t + c) := Nat.mul_le_mul_right _ h2
  have h4 : (x + 1) * 2 ^ t ≤ 2 ^ c * 2 ^ t := Nat.mul_le_mul_right _ hx
  rw [Nat.add_mul, Nat.one_mul] at h3 h4
  omega
/-- what each way makes -/
def gT (n : Nat) (A : List Int) (b m : Nat) : Int := av A (tI n m (n - b)).toNat
def gM (n : Nat) (A : List Int) (m : Nat) : Int := av A (mI n m).toNat
def gF (A : List Int) (x m : Nat) : Int := av A (m ^^^ x)
def gW (p : Int) (A : List Int) (t : Nat) (y : Int) (m : Nat) : Int := if bit m t = true then av A m * y % p else av A m
def gX (A : List Int) (t b m : Nat) : Int := av A (wideN m t 1 + b * 2 ^ t)
def gS (p : Int) (A : List Int) (t : Nat) (y : Int) (m : Nat) : Int := (av A (wideN m t 2) + y * av A (wideN m t 2 + 3 * 2 ^ t)) % p
theorem p_check_lot {n m : Nat} {k : Unit → Prop} {e : PErr → Prop} (hn : n ≤ 6) (hm : m < 2 ^ n) (h : k ()) : w_check_lot n m k e := by
  unfold w_check_lot
  obtain ⟨M, hM, m1, m2, eM⟩ := pow2 hn
  rw [eM]
  refine p_check_number (fun _ => ⟨cpow1 (by omega), p_check_number (fun _ => h) fun z => absurd ⟨by omega, by omega⟩ z⟩) fun z => absurd ⟨by omega, by omega⟩ z
theorem p_has {m t : Nat} {k : Bool → Prop} {e : PErr → Prop} (h : k (bit m t)) : w_has m t k e := by
  unfold w_has
  refine ⟨by omega, by decide, ?_⟩
  have e1 : decide ((m : Int) / 2 ^ Int.toNat (t : Int) % 2 = 1) = bit m t := by
    rw [Int.toNat_natCast, bshr_nat]
    unfold bit
    rw [decide_eq_decide]
    omega
  rw [e1]
  exact h
theorem p_turned_lot {n m b : Nat} {k : Int → Prop} {e : PErr → Prop} (hn : n ≤ 6) (hm : m < 2 ^ n) (hb : b ≤ n) (h : k (tI n m b)) : w_turned_lot n m b k e := by
  unfold w_turned_lot
  refine p_check_lot hn hm (p_check_number (fun _ => ⟨rg_ok (by omega), ?_⟩) fun z => absurd ⟨by omega, by omega⟩ z)
  refine wFor_rng (fun i s => s = lotL ((List.range i.toNat).map fun i => bitI m ((i + b) % n))) (by omega) rfl (fun i s nx i0 i1 e hn' => ?_) fun s e => ?_
  · obtain ⟨j, rfl⟩ : ∃ j : Nat, i = (j : Int) := ⟨i.toNat, by omega⟩
    have e2 : ((j : Int) + (b : Int)) % (n : Int) = (((j + b) % n : Nat) : Int) := by rw [Int.natCast_emod, Int.natCast_add]
    rw [e2]
    have e3 : lotL ((List.range ((j : Int) + 1).toNat).map fun i => bitI m ((i + b) % n)) = s + 2 ^ j * bitI m ((j + b) % n) := by
      rw [show ((j : Int) + 1).toNat = j + 1 by omega, List.range_succ, List.map_append, lotL_app, List.length_map, List.length_range, e, Int.toNat_natCast]
      show _ + 2 ^ j * (bitI m ((j + b) % n) + 2 * 0) = _
      rw [Int.mul_zero, Int.add_zero]
    refine ⟨by omega, p_has ?_⟩
    rw [← bitI_dec]
    refine Br_p (fun c => ⟨cpow1 (by omega), wLet_i (hn' _ ?_)⟩) fun c => hn' _ ?_
    · rw [e3, c, Int.one_mul, Int.mul_one, Int.toNat_natCast]
    · rw [e3]
      rcases bitI_01 (m := m) (j := (j + b) % n) with z | z
      · rw [z, Int.mul_zero, Int.add_zero]
      · exact absurd z c
  · rw [e, Int.toNat_natCast]
    exact h
theorem p_mirrored_lot {n m : Nat} {k : Int → Prop} {e : PErr → Prop} (hn : n ≤ 6) (hm : m < 2 ^ n) (h : k (mI n m)) : w_mirrored_lot n m k e := by
  unfold w_mirrored_lot
  refine p_check_lot hn hm ⟨rg_ok (by omega), ?_⟩
  refine wFor_rng (fun i s => s = lotL ((List.range i.toNat).map fun i => bitI m (n - 1 - i))) (by omega) rfl (fun i s nx i0 i1 e hn' => ?_) fun s e => ?_
  · obtain ⟨j, rfl⟩ : ∃ j : Nat, i = (j : Int) := ⟨i.toNat, by omega⟩
    have e2 : (n : Int) - 1 - (j : Int) = ((n - 1 - j : Nat) : Int) := by omega
    rw [e2]
    have e3 : lotL ((List.range ((j : Int) + 1).toNat).map fun i => bitI m (n - 1 - i)) = s + 2 ^ j * bitI m (n - 1 - j) := by
      rw [show ((j : Int) + 1).toNat = j + 1 by omega, List.range_succ, List.map_append, lotL_app, List.length_map, List.length_range, e, Int.toNat_natCast]
      show _ + 2 ^ j * (bitI m (n - 1 - j) + 2 * 0) = _
      rw [Int.mul_zero, Int.add_zero]
    refine p_has ?_
    rw [← bitI_dec]
    refine Br_p (fun c => ⟨cpow1 (by omega), wLet_i (hn' _ ?_)⟩) fun c => hn' _ ?_
    · rw [e3, c, Int.one_mul, Int.mul_one, Int.toNat_natCast]
    · rw [e3]
      rcases bitI_01 (m := m) (j := n - 1 - j) with z | z
      · rw [z, Int.mul_zero, Int.add_zero]
      · exact absurd z c
  · rw [e, Int.toNat_natCast]
    exact h
theorem p_turned {p x : Int} {n : Nat} {A : List Int} {k : Int × Int × List Int → Prop} {e : PErr → Prop} (hp : isP p = true ∧ p ≤ 997) (hn : n ≤ 6) (hA : Tb p n A) (h1 : ∀ b : Nat, x = b → b ≤ n → k (p, (n : Int), rowG (2 ^ n) (gT n A b))) (h2 : ¬ (0 ≤ x ∧ x ≤ n) → e (NumE x)) : w_turned (p, (n : Int), A) x k e := by
  unfold w_turned
  obtain ⟨M, hM, m1, m2, eM⟩ := pow2 hn
  rw [← hM] at h1
  refine p_look_number (fun z => ?_) fun z => h2 z
  obtain ⟨b, rfl⟩ : ∃ b : Nat, x = (b : Int) := ⟨x.toNat, by omega⟩
  simp only at z
  rw [eM]
  refine wLet_i ?_
  simp only
  refine ⟨cpow1 (by omega), rg_ok (by omega), lim_le (by omega), ?_⟩
  rw [show (n : Int) - (b : Int) = ((n - b : Nat) : Int) by omega]
  have bd : ∀ m : Nat, 0 ≤ gT n A b m ∧ gT n A b m < p := fun m => by
    obtain ⟨a, ea, la⟩ := tI_lt n m (n - b)
    have := tb_at hA la
    unfold gT
    rw [ea, Int.toNat_natCast]
    exact this.2.2
  refine wComp_map (fun d => gT n A b d.toNat) (fun d hd nx hx => ?_) ?_
  · have hd := mem_rangeL.mp hd
    obtain ⟨m, rfl⟩ : ∃ m : Nat, d = (m : Int) := ⟨d.toNat, by omega⟩
    refine p_turned_lot hn (by rw [← hM]; omega) (by omega) ?_
    obtain ⟨a, ea, la⟩ := tI_lt n m (n - b)
    have := tb_at hA la
    rw [Int.toNat_natCast] at hx
    unfold gT at hx
    rw [ea, Int.toNat_natCast, ← this.2.1] at hx
    rw [ea]
    exact ⟨this.1, hx⟩
  · rw [rowG_map]
    refine p_Table_init hp hn ?_ (h1 b rfl (by omega))
    rw [hM]
    exact rowG_tb fun i _ => bd i
theorem p_mirrored {p : Int} {n : Nat} {A : List Int} {k : Int × Int × List Int → Prop} {e : PErr → Prop} (hp : isP p = true ∧ p ≤ 997) (hn : n ≤ 6) (hA : Tb p n A) (h1 : k (p, (n : Int), rowG (2 ^ n) (gM n A))) : w_mirrored_table (p, (n : Int), A) k e := by
  unfold w_mirrored_table
  obtain ⟨M, hM, m1, m2, eM⟩ := pow2 hn
  rw [← hM] at h1
  simp only
  rw [eM]
  refine ⟨cpow1 (by omega), rg_ok (by omega), lim_le (by omega), ?_⟩
  have bd : ∀ m : Nat, 0 ≤ gM n A m ∧ gM n A m < p := fun m => by
    obtain ⟨a, ea, la⟩ := mI_lt n m
    have := tb_at hA la
    unfold gM
    rw [ea, Int.toNat_natCast]
    exact this.2.2
  refine wComp_map (fun d => gM n A d.toNat) (fun d hd nx hx => ?_) ?_
  · have hd := mem_rangeL.mp hd
    obtain ⟨m, rfl⟩ : ∃ m : Nat, d = (m : Int) := ⟨d.toNat, by omega⟩
    refine p_mirrored_lot hn (by rw [← hM]; omega) ?_
    obtain ⟨a, ea, la⟩ := mI_lt n m
    have := tb_at hA la
    rw [Int.toNat_natCast] at hx
    unfold gM at hx
    rw [ea, Int.toNat_natCast, ← this.2.1] at hx
    rw [ea]
    exact ⟨this.1, hx⟩
  · rw [rowG_map]
    refine p_Table_init hp hn ?_ h1
    rw [hM]
    exact rowG_tb fun i _ => bd i
theorem p_flipped {p x : Int} {n : Nat} {A : List Int} {k : Int × Int × List Int → Prop} {e : PErr → Prop} (hp : isP p = true ∧ p ≤ 997) (hn : n ≤ 6) (hA : Tb p n A) (h1 : ∀ b : Nat, x = b → b < 2 ^ n → k (p, (n : Int), rowG (2 ^ n) (gF A b))) (h2 : ¬ (0 ≤ x ∧ x < 2 ^ n) → e (NumE x)) : w_flipped (p, (n : Int), A) x k e := by
  unfold w_flipped
  obtain ⟨M, hM, m1, m2, eM⟩ := pow2 hn
  refine p_look_lot hn (fun b eb hb => ?_) h2
  replace h1 := h1 b eb hb
  rw [← hM] at h1
  subst eb
  simp only
  rw [eM]
  refine ⟨cpow1 (by omega), rg_ok (by omega), lim_le (by omega), ?_⟩
  have lt : ∀ m : Nat, m < 2 ^ n → m ^^^ b < 2 ^ n := fun m hm => Nat.xor_lt_two_pow hm hb
  refine wComp_map (fun d => gF A b d.toNat) (fun d hd nx hx => ?_) ?_
  · have hd := mem_rangeL.mp hd
    obtain ⟨m, rfl⟩ : ∃ m : Nat, d = (m : Int) := ⟨d.toNat, by omega⟩
    have := tb_at hA (lt m (by rw [← hM]; omega))
    rw [Int.toNat_natCast] at hx
    unfold gF at hx
    rw [← this.2.1] at hx
    rw [bxor_nat]
    exact ⟨this.1, hx⟩
  · rw [rowG_map]
    refine p_Table_init hp hn ?_ h1
    rw [hM]
    exact rowG_tb fun i hi => (tb_at hA (lt i hi)).2.2
theorem p_weighted {p x y : Int} {n : Nat} {A : List Int} {k : Int × Int × List Int → Prop} {e : PErr → Prop} (hp : isP p = true ∧ p ≤ 997) (hn : n ≤ 6) (hA : Tb p n A) (h1 : ∀ t : Nat, x = t → t < n → 0 ≤ y ∧ y < p → k (p, (n : Int), rowG (2 ^ n) (gW p A t y))) (h2 : ¬ (0 ≤ x ∧ x < n) → e (NumE x)) (h3 : (0 ≤ x ∧ x < n) → ¬ (0 ≤ y ∧ y < p) → e (NumE y)) : w_weighted (p, (n : Int), A) x y k e := by
  have hp3 := (isP_nat hp.1).2
  unfold w_weighted
  refine p_look_number (fun z => ?_) fun z => h2 (by simp only at z; omega)
  simp only at z
  refine p_look_residue (fun zy => ?_) fun zy => h3 (by omega) zy
  simp only at zy
  obtain ⟨t, rfl⟩ : ∃ t : Nat, x = (t : Int) := ⟨x.toNat, by omega⟩
  replace h1 := h1 t rfl (by omega) zy
  obtain ⟨M, hM, m1, m2, eM⟩ := pow2 hn
  have hAl : A.length = M := by rw [hM]; exact hA.1
  simp only
  refine wLet_i (wFor_inv (fun pre s => s = rowG pre.length (gW p A t y)) rfl (fun pre q post s nx e i hn' => ?_) fun s i => ?_)
  · have hl : pre.length < A.length := by
      have := congrArg List.length e
      rw [List.length_append, List.length_cons, enumL_len] at this
      omega
    have hq : q = ((pre.length : Int), av A pre.length) := by
      have g1 : (enumL A)[pre.length]? = some q := by rw [e, List.getElem?_append_right (Nat.le_refl _), Nat.sub_self]; rfl
      have g2 := enumL_get (List.getElem?_eq_getElem hl)
      rw [g1] at g2
      unfold av
      rw [List.getElem?_eq_getElem hl]
      exact Option.some.inj g2
    subst hq
    have lim : s.length < LIM := lim_lt (by rw [i, rowG_len]; omega)
    have eb : decide ((pre.length : Int) / 2 ^ Int.toNat (t : Int) % 2 = 1) = bit pre.length t := by
      rw [Int.toNat_natCast, bshr_nat]
      unfold bit
      rw [decide_eq_decide]
      omega
    have nxt : nx (s ++ [gW p A t y pre.length]) := hn' _ (by rw [List.length_append, List.length_singleton, rowG_app, i])
    unfold gW at nxt
    simp only
    rw [eb]
    refine ⟨by omega, by decide, Br_i (fun c => ?_) fun c => ?_⟩
    · rw [if_pos c] at nxt
      exact ⟨cmul_r (by omega), by omega, lim, wLet_i nxt⟩
    · rw [if_neg (by rw [c]; decide)] at nxt
      exact ⟨lim, wLet_i nxt⟩
  · rw [i, enumL_len, hA.1]
    refine p_Table_init hp hn (rowG_tb fun m hm => ?_) h1
    have := tb_at hA hm
    unfold gW
    split
    · exact ⟨Int.emod_nonneg _ (by omega), Int.emod_lt_of_pos _ (by omega)⟩
    · exact this.2.2
theorem p_wider {m t c : Nat} {k : Int → Prop} {e : PErr → Prop} (hm : m ≤ 64) (ht : t ≤ 6) (hc : c ≤ 6) (h : k (wideN m t c : Int)) : w_wider_lot m t c k e := by
  unfold w_wider_lot
  have e1 : (1 : Int) * (2 : Int) ^ Int.toNat (t : Int) = ((2 ^ t : Nat) : Int) := by rw [Int.toNat_natCast, Int.one_mul, Int.natCast_pow]; rfl
  have e2 : (2 : Int) ^ Int.toNat (t : Int) = ((2 ^ t : Nat) : Int) := by rw [Int.toNat_natCast, Int.natCast_pow]; rfl
  have e3 : (2 : Int) ^ Int.toNat ((t : Int) + (c : Int)) = ((2 ^ (t + c) : Nat) : Int) := by rw [show ((t : Int) + (c : Int)).toNat = t + c by omega, Int.natCast_pow]; rfl
  have pt := Nat.two_pow_pos t
  rw [e1, e2, e3, ← Int.natCast_emod, ← Int.natCast_ediv, ← Int.natCast_mul, ← Int.natCast_add]
  have := Nat.div_le_self m (2 ^ t)
  unfold wideN at h
  generalize m / 2 ^ t = q at this h ⊢
  exact ⟨cpow1 (by omega), by omega, by omega, cpowS (by omega) (by omega), h⟩
theorem p_fixed {p x y : Int} {n : Nat} {A : List Int} {k : Int × Int × List Int → Prop} {e : PErr → Prop} (hp : isP p = true ∧ p ≤ 997) (hn : n ≤ 6) (hA : Tb p n A) (h1 : ∀ t b : Nat, x = t → y = b → t < n → b ≤ 1 → k (p, ((n - 1 : Nat) : Int), rowG (2 ^ (n - 1)) (gX A t b))) (h2 : ¬ (0 ≤ x ∧ x < n) → e (NumE x)) (h3 : (0 ≤ x ∧ x < n) → ¬ (0 ≤ y ∧ y ≤ 1) → e (NumE y)) : w_fixed (p, (n : Int), A) x y k e := by
  unfold w_fixed
  refine p_look_number (fun z => ?_) fun z => h2 (by simp only at z; omega)
  simp only at z
  refine p_look_number (fun zy => ?_) fun zy => h3 (by omega) zy
  obtain ⟨t, rfl⟩ : ∃ t : Nat, x = (t : Int) := ⟨x.toNat, by omega⟩
  obtain ⟨b, rfl⟩ : ∃ b : Nat, y = (b : Int) := ⟨y.toNat, by omega⟩
  replace h1 := h1 t b rfl rfl (by omega) (by omega)
  obtain ⟨M, hM, m1, m2, eM⟩ := pow2 (n := n - 1) (by omega)
  rw [← hM] at h1
  simp only
  rw [show (n : Int) - 1 = ((n - 1 : Nat) : Int) by omega, eM]
  have e2 : (b : Int) * (2 : Int) ^ Int.toNat (t : Int) = ((b * 2 ^ t : Nat) : Int) := by rw [Int.toNat_natCast, Int.natCast_mul, Int.natCast_pow]; rfl
  rw [e2]
  refine ⟨cpowS (by omega) (by omega), wLet_i ⟨cpow1 (by omega), rg_ok (by omega), lim_le (by omega), ?_⟩⟩
  have lt : ∀ m : Nat, m < M → wideN m t 1 + b * 2 ^ t < 2 ^ n := fun m hm => wide_lt (by omega) (by omega) (by omega) (by rw [← hM]; exact hm)
  refine wComp_map (fun d => gX A t b d.toNat) (fun d hd nx hx => ?_) ?_
  · have hd := mem_rangeL.mp hd
    obtain ⟨m, rfl⟩ : ∃ m : Nat, d = (m : Int) := ⟨d.toNat, by omega⟩
    have := tb_at hA (lt m (by omega))
    rw [Int.toNat_natCast] at hx
    unfold gX at hx
    rw [← this.2.1] at hx
    refine p_wider (c := 1) (by omega) (by omega) (by omega) ?_
    rw [← Int.natCast_add]
    exact ⟨this.1, hx⟩
  · rw [rowG_map]
    refine p_Table_init hp (by omega) ?_ h1
    rw [hM]
    exact rowG_tb fun i hi => (tb_at hA (lt i (by omega))).2.2
theorem p_tied {p x y : Int} {n : Nat} {A : List Int} {k : Int × Int × List Int → Prop} {e : PErr → Prop} (hp : isP p = true ∧ p ≤ 997) (hn : n ≤ 6) (hA : Tb p n A) (h1 : ∀ t : Nat, x = t → t + 2 ≤ n → 0 ≤ y ∧ y < p → k (p, ((n - 2 : Nat) : Int), rowG (2 ^ (n - 2)) (gS p A t y))) (h2 : ¬ (0 ≤ x ∧ x ≤ (n : Int) - 2) → e (NumE x)) (h3 : (0 ≤ x ∧ x ≤ (n : Int) - 2) → ¬ (0 ≤ y ∧ y < p) → e (NumE y)) : w_tied_ends (p, (n : Int), A) x y k e := by
  have hp3 := (isP_nat hp.1).2
  unfold w_tied_ends
  refine p_look_number (fun z => ?_) fun z => h2 (by simp only at z; omega)
  simp only at z
  refine p_look_residue (fun zy => ?_) fun zy => h3 (by omega) zy
  simp only at zy
  obtain ⟨t, rfl⟩ : ∃ t : Nat, x = (t : Int) := ⟨x.toNat, by omega⟩
  replace h1 := h1 t rfl (by omega) zy
  obtain ⟨M, hM, m1, m2, eM⟩ := pow2 (n := n - 2) (by omega)
  rw [← hM] at h1
  simp only
  rw [show (n : Int) - 2 = ((n - 2 : Nat) : Int) by omega, eM]
  have e2 : (3 : Int) * (2 : Int) ^ Int.toNat (t : Int) = ((3 * 2 ^ t : Nat) : Int) := by rw [Int.toNat_natCast, Int.natCast_mul, Int.natCast_pow]; rfl
  rw [e2]
  have lt : ∀ m : Nat, m < M → wideN m t 2 + 3 * 2 ^ t < 2 ^ n := fun m hm => wide_lt (by omega) (by decide) (by omega) (by rw [← hM]; exact hm)
  refine ⟨cpowS (by omega) (by omega), wLet_i (wLet_i ⟨cpow1 (by omega), rg_ok (by omega), wFor_row (g := gS p A t y) (by omega) (fun m hm s nx hl hx => ?_) ?_⟩)⟩
  · refine p_wider (c := 2) (by omega) (by omega) (by omega) ?_
    have l2 := lt m hm
    have a1 := tb_at hA (x := wideN m t 2) (by omega)
    have a2 := tb_at hA l2
    rw [← Int.natCast_add]
    unfold gS at hx
    rw [← a1.2.1, ← a2.2.1] at hx
    exact ⟨a1.1, a2.1, cmul_l (by omega), by omega, hl, wLet_i hx⟩
  · refine p_Table_init hp (by omega) ?_ h1
    rw [hM]
    exact rowG_tb fun i _ => ⟨Int.emod_nonneg _ (by omega), Int.emod_lt_of_pos _ (by omega)⟩
theorem sp_ne {a b : String} (h : decide (Str.ofString a = Str.ofString b) = false) : ¬ Str.ofString a = Str.ofString b := of_decide_eq_false h
/-- the deeds that are asked -/
def Dd (p : Int) (n : Nat) (w : Str) (x y : Int) (q : Nat) (g : Nat → Int) (A : List Int) : Prop :=
  (w = Str.ofString "turned" ∧ q = n ∧ ∃ b : Nat, x = b ∧ b ≤ n ∧ g = gT n A b) ∨
  (w = Str.ofString "mirrored" ∧ q = n ∧ g = gM n A) ∨
  (w = Str.ofString "flipped" ∧ q = n ∧ ∃ b : Nat, x = b ∧ b < 2 ^ n ∧ g = gF A b) ∨
  (w = Str.ofString "weighted" ∧ q = n ∧ ∃ t : Nat, x = t ∧ t < n ∧ (0 ≤ y ∧ y < p) ∧ g = gW p A t y) ∨
  (w = Str.ofString "fixed" ∧ q = n - 1 ∧ ∃ t b : Nat, x = t ∧ t < n ∧ y = b ∧ b ≤ 1 ∧ g = gX A t b) ∨
  (w = Str.ofString "tied" ∧ q = n - 2 ∧ ∃ t : Nat, x = t ∧ t + 2 ≤ n ∧ (0 ≤ y ∧ y < p) ∧ g = gS p A t y)
theorem cutG_take {L : List Int} {t : Nat} (h : t ≤ L.length) : cutG L none (some (t : Int)) = L.take t := by
  unfold cutG
  rw [HT.sIx_none, HT.sIx_nat, List.drop_zero, Nat.sub_zero, Nat.min_eq_left h]
theorem cutG_drop {L : List Int} {t : Nat} (h : t ≤ L.length) : cutG L (some (t : Int)) none = L.drop t := by
  unfold cutG
  rw [HT.sIx_none, HT.sIx_nat, Nat.min_eq_left h]
  exact List.take_of_length_le (by rw [List.length_drop]; exact Nat.le_refl _)
theorem p_ends_left {p x y : Int} {n q : Nat} {w : Str} {g : Nat → Int} {A : List Int} {k : Int → Prop} {e : PErr → Prop} (hd : Dd p n w x y q g A) (h : k q) : w_ulaw_ends_left w n k e := by
  unfold w_ulaw_ends_left
  rcases hd with ⟨rfl, rfl, _⟩ | ⟨rfl, rfl, _⟩ | ⟨rfl, rfl, _⟩ | ⟨rfl, rfl, _⟩ | ⟨rfl, rfl, t, b, _, ht, _⟩ | ⟨rfl, rfl, t, _, ht, _⟩
  · exact Br_x (by decide) (Br_x (by decide) h)
  · exact Br_x (by decide) (Br_x (by decide) h)
  · exact Br_x (by decide) (Br_x (by decide) h)
  · exact Br_x (by decide) (Br_x (by decide) h)
  · rw [show ((n - 1 : Nat) : Int) = (n : Int) - 1 by omega] at h
    exact Br_y (by decide) h
  · rw [show ((n - 2 : Nat) : Int) = (n : Int) - 2 by omega] at h
    exact Br_x (by decide) (Br_y (by decide) h)
theorem p_done {p x y : Int} {n q : Nat} {w : Str} {g : Nat → Int} {A : List Int} {k : Int × Int × List Int → Prop} {e : PErr → Prop} (hp : isP p = true ∧ p ≤ 997) (hn : n ≤ 6) (hA : Tb p n A) (hd : Dd p n w x y q g A) (h : k (p, (q : Int), rowG (2 ^ q) g)) : w_ulaw_done w (p, (n : Int), A) x y k e := by
  unfold w_ulaw_done
  rcases hd with ⟨rfl, rfl, b, rfl, hb, rfl⟩ | ⟨rfl, rfl, rfl⟩ | ⟨rfl, rfl, b, rfl, hb, rfl⟩ | ⟨rfl, rfl, t, rfl, ht, hy, rfl⟩ | ⟨rfl, rfl, t, b, rfl, ht, rfl, hb, rfl⟩ | ⟨rfl, rfl, t, rfl, ht, hy, rfl⟩
  · refine Br_y (by decide) (p_turned hp hn hA (fun c ec hc => ?_) fun z => absurd ⟨by omega, by omega⟩ z)
    have : b = c := by omega
    subst this
    exact h
  · exact Br_x (by decide) (Br_y (by decide) (p_mirrored hp hn hA h))
  · refine Br_x (by decide) (Br_x (by decide) (Br_y (by decide) (p_flipped hp hn hA (fun c ec hc => ?_) fun z => absurd ⟨by omega, ?_⟩ z)))
    · have : b = c := by omega
      subst this
      exact h
    · have := Int.ofNat_lt.mpr hb
      rw [Int.natCast_pow] at this
      exact this
  · refine Br_x (by decide) (Br_x (by decide) (Br_x (by decide) (Br_y (by decide) (p_weighted hp hn hA (fun c ec hc _ => ?_) (fun z => absurd ⟨by omega, by omega⟩ z) fun _ z => absurd hy z))))
    have : t = c := by omega
    subst this
    exact h
  · refine Br_x (by decide) (Br_x (by decide) (Br_x (by decide) (Br_x (by decide) (Br_y (by decide) (p_fixed hp hn hA (fun c d ec ed _ _ => ?_) (fun z => absurd ⟨by omega, by omega⟩ z) fun _ z => absurd ⟨by omega, by omega⟩ z)))))
    have : t = c := by omega
    subst this
    have : b = d := by omega
    subst this
    exact h
  · refine Br_x (by decide) (Br_x (by decide) (Br_x (by decide) (Br_x (by decide) (Br_x (by decide) (p_tied hp hn hA (fun c ec hc _ => ?_) (fun z => absurd ⟨by omega, by omega⟩ z) fun _ z => absurd hy z)))))
    have : t = c := by omega
    subst this
    exact h
theorem p_bit_row {n m : Nat} {k : List Int → Prop} {e : PErr → Prop} (hn : n ≤ 64) (h : k (rowI n m)) : w_ulaw_bit_row n m k e := by
  unfold w_ulaw_bit_row
  refine ⟨rg_ok (by omega), lim_le (by omega), wComp_map (fun d => bitI m d.toNat) (fun d hd nx hx => ?_) ?_⟩
  · have hd := mem_rangeL.mp hd
    obtain ⟨j, rfl⟩ : ∃ j : Nat, d = (j : Int) := ⟨d.toNat, by omega⟩
    rw [Int.toNat_natCast, bit_at]
    rw [Int.toNat_natCast] at hx
    exact ⟨hd.1, hx⟩
  · have : rowG n (bitI m) = rowI n m := rfl
    rw [rowG_map, this]
    exact h
theorem p_lot_of {L : List Int} {k : Int → Prop} {e : PErr → Prop} (hl : L.length ≤ 64) (h01 : B01 L) (h : k (lotL L)) : w_ulaw_lot_of L k e := by
  unfold w_ulaw_lot_of
  refine ⟨rg_ok (by omega), lim_le (by omega), wComp_map (fun d => (fun i : Nat => (L[i]?).getD 0 * 2 ^ (i + 0)) d.toNat) (fun d hd nx hx => ?_) ?_⟩
  · have hd := mem_rangeL.mp hd
    obtain ⟨j, rfl⟩ : ∃ j : Nat, d = (j : Int) := ⟨d.toNat, by omega⟩
    have hb := h01 _ (ixG_mem (xs := L) (i := (j : Int)) (by omega) (by omega))
    simp only [Int.toNat_natCast, Nat.add_zero] at hx
    refine ⟨inB_of (by omega) (by omega), cpowS (by omega) (by omega), ?_⟩
    rw [ixG_nat, Int.toNat_natCast]
    exact hx
  · have e0 : ((rangeL 0 (L.length : Int)).map fun d => (fun i : Nat => (L[i]?).getD 0 * (2 : Int) ^ (i + 0)) d.toNat) = (List.range L.length).map fun i => (L[i]?).getD 0 * 2 ^ (i + 0) := rowG_map (M := L.length) (g := fun i : Nat => (L[i]?).getD 0 * (2 : Int) ^ (i + 0))
    rw [e0, sumL_of L 0, Int.pow_zero, Int.one_mul]
    exact h
theorem p_old {p x y : Int} {n q m : Nat} {w : Str} {g : Nat → Int} {A more : List Int} {k : Int → Prop} {e : PErr → Prop} (hn : n ≤ 6) (hd : Dd p n w x y q g A) (hm : m < 2 ^ q) (hmo : more.length ≤ 2 ∧ B01 more)
    (h1 : w = Str.ofString "turned" → ∀ b : Nat, x = b → b ≤ n → k (tI n m (n - b))) (h2 : w = Str.ofString "mirrored" → k (mI n m)) (h3 : w = Str.ofString "flipped" → ∀ b : Nat, x = b → b < 2 ^ n → k ((m ^^^ b : Nat) : Int)) (h4 : w = Str.ofString "weighted" → k (m : Int)) (h5 : w = Str.ofString "fixed" ∨ w = Str.ofString "tied" → ∀ t : Nat, x = t → t ≤ q → k (((m % 2 ^ t : Nat) : Int) + 2 ^ t * (lotL more + 2 ^ more.length * ((m / 2 ^ t : Nat) : Int)))) : w_ulaw_old_lot w n (rowI q m) x more k e := by
  unfold w_ulaw_old_lot
  have len : ∀ h : Nat → Int, ((List.range n).map h).length ≤ 64 := fun h => by rw [List.length_map, List.length_range]; omega
  have bd : ∀ j : Nat, j < q → inB (rowI q m) (j : Int) ∧ ixG (rowI q m) (j : Int) = bitI m j := fun j hj => by
    refine ⟨inB_of (by omega) (by rw [rowI_len]; omega), ixG_at ?_⟩
    unfold rowI
    rw [List.getElem?_map, List.getElem?_range hj]
    rfl
  have mp : ∀ h : Nat → Int, (rangeL 0 (n : Int)).map (fun d => h d.toNat) = (List.range n).map h := fun h => rowG_map
  have tail : ∀ t : Nat, x = t → t ≤ q → q ≤ n → (w = Str.ofString "fixed" ∨ w = Str.ofString "tied") → ((cutG (rowI q m) none (some x)).length + more.length ≤ LIM) ∧ ((((cutG (rowI q m) none (some x)) ++ more).length + (cutG (rowI q m) (some x) none).length ≤ LIM) ∧ (w_ulaw_lot_of (((cutG (rowI q m) none (some x)) ++ more) ++ (cutG (rowI q m) (some x) none)) (fun (r232 : Int) => (k r232)) e)) := by
    intro t ex ht hq hw
    subst ex
    have h5 := h5 hw t rfl ht
    rw [cutG_take (by rw [rowI_len]; omega), cutG_drop (by rw [rowI_len]; omega), row_take ht, row_drop ht]
    refine ⟨lim_le (by rw [rowI_len]; omega), lim_le (by rw [List.length_append, rowI_len, rowI_len]; omega), p_lot_of (by rw [List.length_append, List.length_append, rowI_len, rowI_len]; omega) (fun z hz => ?_) ?_⟩
    · rcases List.mem_append.mp hz with z1 | z1
      · rcases List.mem_append.mp z1 with z2 | z2
        · exact rowI_01 z z2
        · exact hmo.2 z z2
      · exact rowI_01 z z1
    · have e1 : (m >>> t) % 2 ^ (q - t) = m / 2 ^ t := by
        rw [Nat.shiftRight_eq_div_pow]
        refine Nat.mod_eq_of_lt (Nat.div_lt_of_lt_mul ?_)
        rw [← Nat.pow_add, show t + (q - t) = q by omega]
        exact hm
      rw [lotL_app, lotL_app, lot_row, lot_row, e1, List.length_append, rowI_len, Int.pow_add]
      have e2 : ((m % 2 ^ t : Nat) : Int) + 2 ^ t * lotL more + 2 ^ t * 2 ^ more.length * ((m / 2 ^ t : Nat) : Int) = ((m % 2 ^ t : Nat) : Int) + 2 ^ t * (lotL more + 2 ^ more.length * ((m / 2 ^ t : Nat) : Int)) := by
        rw [Int.mul_add, Int.mul_assoc, Int.add_assoc]
      rw [e2]
      exact h5
  rcases hd with ⟨rfl, rfl, b, rfl, hb, rfl⟩ | ⟨rfl, rfl, rfl⟩ | ⟨rfl, rfl, b, rfl, hb, rfl⟩ | ⟨rfl, rfl, t, rfl, ht, hy, rfl⟩ | ⟨rfl, rfl, t, b, rfl, ht, rfl, hb, rfl⟩ | ⟨rfl, rfl, t, rfl, ht, hy, rfl⟩
  · refine Br_y (by decide) ⟨rg_ok (by omega), lim_le (by omega), wComp_map (fun d => (fun i : Nat => bitI m ((i + (q - b)) % q)) d.toNat) (fun d hd nx hx => ?_) ?_⟩
    · have hd := mem_rangeL.mp hd
      obtain ⟨j, rfl⟩ : ∃ j : Nat, d = (j : Int) := ⟨d.toNat, by omega⟩
      have e1 : ((j : Int) - (b : Int)) % (q : Int) = (((j + (q - b)) % q : Nat) : Int) := by
        rw [Int.natCast_emod, show ((j + (q - b) : Nat) : Int) = (j : Int) - b + q by omega, Int.add_emod_right]
      have := bd ((j + (q - b)) % q) (Nat.mod_lt _ (by omega))
      rw [e1, this.2]
      simp only [Int.toNat_natCast] at hx
      exact ⟨by omega, this.1, hx⟩
    · rw [mp fun i : Nat => bitI m ((i + (q - b)) % q)]
      exact p_lot_of (len _) bits01 (h1 rfl b rfl hb)
  · refine Br_x (by decide) (Br_y (by decide) ⟨rg_ok (by omega), lim_le (by omega), wComp_map (fun d => (fun i : Nat => bitI m (q - 1 - i)) d.toNat) (fun d hd nx hx => ?_) ?_⟩)
    · have hd := mem_rangeL.mp hd
      obtain ⟨j, rfl⟩ : ∃ j : Nat, d = (j : Int) := ⟨d.toNat, by omega⟩
      have := bd (q - 1 - j) (by omega)
      rw [show (q : Int) - 1 - (j : Int) = ((q - 1 - j : Nat) : Int) by omega, this.2]
      simp only [Int.toNat_natCast] at hx
      exact ⟨this.1, hx⟩
    · rw [mp fun i : Nat => bitI m (q - 1 - i)]
      exact p_lot_of (len _) bits01 (h2 rfl)
  · refine Br_x (by decide) (Br_x (by decide) (Br_y (by decide) ⟨rg_ok (by omega), lim_le (by omega), wComp_map (fun d => bitI (m ^^^ b) d.toNat) (fun d hd nx hx => ?_) ?_⟩))
    · have hd := mem_rangeL.mp hd
      obtain ⟨j, rfl⟩ : ∃ j : Nat, d = (j : Int) := ⟨d.toNat, by omega⟩
      have := bd j (by omega)
      rw [this.2, Int.toNat_natCast, bit_at]
      rw [Int.toNat_natCast] at hx
      have e1 : PySem.Builtin.bitXor (bitI m j) ((((b >>> j) % 2 : Nat)) : Int) = bitI (m ^^^ b) j := by
        unfold bitI
        rw [bxor_nat, Nat.shiftRight_xor_distrib]
        have h1 : (m >>> j) % 2 = 0 ∨ (m >>> j) % 2 = 1 := by omega
        have h2 : (b >>> j) % 2 = 0 ∨ (b >>> j) % 2 = 1 := by omega
        have h3 : ((m >>> j) ^^^ (b >>> j)) % 2 = ((m >>> j) % 2) ^^^ ((b >>> j) % 2) := by
          have := Nat.xor_mod_two_pow (a := m >>> j) (b := b >>> j) (n := 1)
          rw [Nat.pow_one] at this
          exact this
        rw [h3]
      rw [e1]
      exact ⟨this.1, by omega, hx⟩
    · have e1 : (rangeL 0 (q : Int)).map (fun d => bitI (m ^^^ b) d.toNat) = rowI q (m ^^^ b) := mp _
      have hx : m ^^^ b < 2 ^ q := Nat.xor_lt_two_pow hm hb
      rw [e1]
      refine p_lot_of (by rw [rowI_len]; omega) rowI_01 ?_
      rw [lot_row, Nat.mod_eq_of_lt hx]
      exact h3 rfl b rfl hb
  · refine Br_x (by decide) (Br_x (by decide) (Br_x (by decide) (Br_y (by decide) (p_lot_of (by rw [rowI_len]; omega) rowI_01 ?_))))
    rw [lot_row, Nat.mod_eq_of_lt hm]
    exact h4 rfl
  · exact Br_x (by decide) (Br_x (by decide) (Br_x (by decide) (Br_x (by decide) (tail t rfl (by omega) (by omega) (Or.inl rfl)))))
  · exact Br_x (by decide) (Br_x (by decide) (Br_x (by decide) (Br_x (by decide) (tail t rfl (by omega) (by omega) (Or.inr rfl)))))
section
variable {p x y : Int} {n : Nat} {A : List Int}
theorem dT {b : Nat} (hb : b ≤ n) : Dd p n (Str.ofString "turned") b y n (gT n A b) A := .inl ⟨rfl, rfl, b, rfl, hb, rfl⟩
theorem dM : Dd p n (Str.ofString "mirrored") x y n (gM n A) A := .inr (.inl ⟨rfl, rfl, rfl⟩)
theorem dF {b : Nat} (hb : b < 2 ^ n) : Dd p n (Str.ofString "flipped") b y n (gF A b) A := .inr (.inr (.inl ⟨rfl, rfl, b, rfl, hb, rfl⟩))
theorem dW {t : Nat} (ht : t < n) (hy : 0 ≤ y ∧ y < p) : Dd p n (Str.ofString "weighted") t y n (gW p A t y) A := .inr (.inr (.inr (.inl ⟨rfl, rfl, t, rfl, ht, hy, rfl⟩)))
theorem dX {t b : Nat} (ht : t < n) (hb : b ≤ 1) : Dd p n (Str.ofString "fixed") t b (n - 1) (gX A t b) A := .inr (.inr (.inr (.inr (.inl ⟨rfl, rfl, t, b, rfl, ht, rfl, hb, rfl⟩))))
theorem dS {t : Nat} (ht : t + 2 ≤ n) (hy : 0 ≤ y ∧ y < p) : Dd p n (Str.ofString "tied") t y (n - 2) (gS p A t y) A := .inr (.inr (.inr (.inr (.inr ⟨rfl, rfl, t, rfl, ht, hy, rfl⟩))))
end
theorem p_reckoned {p x y : Int} {n q : Nat} {w : Str} {g : Nat → Int} {A : List Int} {k : List Int → Prop} {e : PErr → Prop} (hp : 0 < p ∧ p ≤ 997) (hn : n ≤ 6) (hA : Tb p n A) (hd : Dd p n w x y q g A) (h : k (rowG (2 ^ q) g)) : w_ulaw_reckoned w p n A x y k e := by
  unfold w_ulaw_reckoned
  have hqn : q ≤ n := by rcases hd with ⟨_, z, _⟩ | ⟨_, z, _⟩ | ⟨_, z, _⟩ | ⟨_, z, _⟩ | ⟨_, z, _⟩ | ⟨_, z, _⟩ <;> omega
  obtain ⟨M, hM, m1, m2, eM⟩ := pow2 (n := q) (by omega)
  rw [← hM] at h
  refine wLet_i (p_ends_left hd ?_)
  rw [eM]
  refine ⟨cpow1 (by omega), rg_ok (by omega), wFor_row (g := g) (by omega) (fun m hm s nx hl hx => ?_) h⟩
  have hm2 : m < 2 ^ q := by rw [← hM]; exact hm
  refine p_bit_row (by omega) ?_
  have old := fun {more : List Int} {k : Int → Prop} => @p_old p x y n q m w g A more k e hn hd hm2
  have at' : ∀ a : Nat, a < 2 ^ n → inB A (a : Int) ∧ ixG A (a : Int) = av A a := fun a ha => ⟨(tb_at hA ha).1, (tb_at hA ha).2.1⟩
  have ne := fun {a b : String} (h : decide (Str.ofString a = Str.ofString b) = false) => sp_ne h
  rcases hd with ⟨rfl, rfl, b, rfl, hb, rfl⟩ | ⟨rfl, rfl, rfl⟩ | ⟨rfl, rfl, b, rfl, hb, rfl⟩ | ⟨rfl, rfl, t, rfl, ht, hy, rfl⟩ | ⟨rfl, rfl, t, b, rfl, ht, rfl, hb, rfl⟩ | ⟨rfl, rfl, t, rfl, ht, hy, rfl⟩
  · refine Br_x (by decide) (Br_x (by decide) ⟨fun z => absurd (of_decide_eq_true z) (ne (by decide)), Br_x (Bool.and_eq_false_iff.mpr (Or.inl (by decide))) (old ⟨by decide, fun z hz => nomatch hz⟩ (fun _ c ec hc => ?_) (fun z => absurd z (ne (by decide))) (fun z => absurd z (ne (by decide))) (fun z => absurd z (ne (by decide))) fun z => ?_)⟩)
    · have : b = c := by omega
      subst this
      obtain ⟨a, ea, la⟩ := tI_lt q m (q - b)
      have := at' a la
      unfold gT at hx
      rw [ea, Int.toNat_natCast, ← this.2] at hx
      rw [ea]
      exact ⟨this.1, hl, wLet_i hx⟩
    · rcases z with z | z <;> exact absurd z (ne (by decide))
  · refine Br_x (by decide) (Br_x (by decide) ⟨fun z => absurd (of_decide_eq_true z) (ne (by decide)), Br_x (Bool.and_eq_false_iff.mpr (Or.inl (by decide))) (old ⟨by decide, fun z hz => nomatch hz⟩ (fun z => absurd z (ne (by decide))) (fun _ => ?_) (fun z => absurd z (ne (by decide))) (fun z => absurd z (ne (by decide))) fun z => ?_)⟩)
    · obtain ⟨a, ea, la⟩ := mI_lt q m
      have := at' a la
      unfold gM at hx
      rw [ea, Int.toNat_natCast, ← this.2] at hx
      rw [ea]
      exact ⟨this.1, hl, wLet_i hx⟩
    · rcases z with z | z <;> exact absurd z (ne (by decide))
  · refine Br_x (by decide) (Br_x (by decide) ⟨fun z => absurd (of_decide_eq_true z) (ne (by decide)), Br_x (Bool.and_eq_false_iff.mpr (Or.inl (by decide))) (old ⟨by decide, fun z hz => nomatch hz⟩ (fun z => absurd z (ne (by decide))) (fun z => absurd z (ne (by decide))) (fun _ c ec hc => ?_) (fun z => absurd z (ne (by decide))) fun z => ?_)⟩)
    · have : b = c := by omega
      subst this
      have := at' (m ^^^ b) (Nat.xor_lt_two_pow hm2 hb)
      unfold gF at hx
      rw [← this.2] at hx
      exact ⟨this.1, hl, wLet_i hx⟩
    · rcases z with z | z <;> exact absurd z (ne (by decide))
  · have er : ixG (rowI q m) (t : Int) = bitI m t := ixG_at (by
      unfold rowI
      rw [List.getElem?_map, List.getElem?_range ht]
      rfl)
    have a0 := tb_at hA hm2
    refine Br_x (by decide) (Br_x (by decide) ⟨fun _ => inB_of (by omega) (by rw [rowI_len]; omega), ?_⟩)
    rw [er, bitI_dec, show decide (Str.ofString "weighted" = Str.ofString "weighted") = true from decide_eq_true rfl, Bool.true_and]
    unfold gW at hx
    refine Br_i (fun c => ?_) fun c => ?_
    · rw [if_pos c, ← a0.2.1] at hx
      exact ⟨a0.1, cmul_r (by omega), hp.1, hl, wLet_i hx⟩
    · rw [if_neg (by rw [c]; decide), ← a0.2.1] at hx
      refine old ⟨by decide, fun z hz => nomatch hz⟩ (fun z => absurd z (ne (by decide))) (fun z => absurd z (ne (by decide))) (fun z => absurd z (ne (by decide))) (fun _ => ⟨a0.1, hl, wLet_i hx⟩) fun z => ?_
      rcases z with z | z <;> exact absurd z (ne (by decide))
  · refine Br_y (by decide) (old ⟨by simp, fun z hz => by rw [List.mem_singleton.mp hz]; omega⟩ (fun z => absurd z (ne (by decide))) (fun z => absurd z (ne (by decide))) (fun z => absurd z (ne (by decide))) (fun z => absurd z (ne (by decide))) fun _ c ec hc => ?_)
    have : t = c := by omega
    subst this
    have := at' _ (wide_lt (c := 1) (x := b) (t := t) (m := m) (by omega) (by omega) (by omega) hm2)
    have e2 : ((m % 2 ^ t : Nat) : Int) + 2 ^ t * (lotL [(b : Int)] + 2 ^ ([(b : Int)] : List Int).length * ((m / 2 ^ t : Nat) : Int)) = ((wideN m t 1 + b * 2 ^ t : Nat) : Int) := by
      show ((m % 2 ^ t : Nat) : Int) + 2 ^ t * (((b : Int) + 2 * 0) + 2 ^ 1 * ((m / 2 ^ t : Nat) : Int)) = _
      unfold wideN
      rw [Int.natCast_add, Int.natCast_add, Int.natCast_mul, Int.natCast_mul, Int.natCast_pow, Int.natCast_pow, Int.pow_add, Int.pow_one]
      grind
    rw [e2]
    unfold gX at hx
    rw [← this.2] at hx
    exact ⟨this.1, hl, wLet_i hx⟩
  · have ev : ∀ b : Nat, (b : Int) = 0 ∨ (b : Int) = 1 → ((m % 2 ^ t : Nat) : Int) + 2 ^ t * (lotL [(b : Int), (b : Int)] + 2 ^ ([(b : Int), (b : Int)] : List Int).length * ((m / 2 ^ t : Nat) : Int)) = ((wideN m t 2 + (3 * b) * 2 ^ t : Nat) : Int) := fun b _ => by
      show ((m % 2 ^ t : Nat) : Int) + 2 ^ t * (((b : Int) + 2 * ((b : Int) + 2 * 0)) + 2 ^ 2 * ((m / 2 ^ t : Nat) : Int)) = _
      unfold wideN
      rw [Int.natCast_add, Int.natCast_add, Int.natCast_mul, Int.natCast_mul, Int.natCast_mul, Int.natCast_pow, Int.natCast_pow, Int.pow_add]
      grind
    have l2 := wide_lt (c := 2) (x := 3) (t := t) (m := m) (n := n) (by omega) (by omega) (by omega) hm2
    have a1 := at' (wideN m t 2) (by omega)
    have a2 := at' _ l2
    have v2 := (tb_at hA l2).2.2
    refine Br_x (by decide) (Br_y (by decide) (old ⟨by decide, fun z hz => by simp only [List.mem_cons, List.not_mem_nil, or_false] at hz; omega⟩ (fun z => absurd z (ne (by decide))) (fun z => absurd z (ne (by decide))) (fun z => absurd z (ne (by decide))) (fun z => absurd z (ne (by decide))) fun _ c ec hc => ?_))
    have : t = c := by omega
    subst this
    have e0 := ev 0 (Or.inl rfl)
    rw [Nat.mul_zero, Nat.zero_mul, Nat.add_zero] at e0
    have e0' : ((m % 2 ^ t : Nat) : Int) + 2 ^ t * (lotL [(0 : Int), (0 : Int)] + 2 ^ ([(0 : Int), (0 : Int)] : List Int).length * ((m / 2 ^ t : Nat) : Int)) = ((wideN m t 2 : Nat) : Int) := e0
    rw [e0']
    refine ⟨a1.1, wLet_i (old ⟨by decide, fun z hz => by simp only [List.mem_cons, List.not_mem_nil, or_false] at hz; omega⟩ (fun z => absurd z (ne (by decide))) (fun z => absurd z (ne (by decide))) (fun z => absurd z (ne (by decide))) (fun z => absurd z (ne (by decide))) fun _ c ec hc => ?_)⟩
    have : t = c := by omega
    subst this
    have e1' : ((m % 2 ^ t : Nat) : Int) + 2 ^ t * (lotL [(1 : Int), (1 : Int)] + 2 ^ ([(1 : Int), (1 : Int)] : List Int).length * ((m / 2 ^ t : Nat) : Int)) = ((wideN m t 2 + 3 * 2 ^ t : Nat) : Int) := ev 1 (Or.inr rfl)
    rw [e1']
    unfold gS at hx
    rw [← a1.2, ← a2.2] at hx
    exact ⟨a2.1, wLet_i ⟨cmul_l (by omega), hp.1, hl, wLet_i hx⟩⟩
theorem p_right {p x y : Int} {n q : Nat} {w : Str} {g : Nat → Int} {A : List Int} {k : Bool → Prop} {e : PErr → Prop} (hp : isP p = true ∧ p ≤ 997) (hn : n ≤ 6) (hA : Tb p n A) (hd : Dd p n w x y q g A) (h : k true) : w_ulaw_right w p n A x y k e := by
  have hp3 := (isP_nat hp.1).2
  unfold w_ulaw_right
  refine p_reckoned (by omega) hn hA hd (p_ends_left hd (p_Table_init hp hn hA ⟨rg_ok (by omega), wFor_unit (fun _ _ nx hx => p_done hp hn hA hd ?_) h⟩))
  exact p_same (Br_x rfl (p_same (Br_x rfl hx)))
theorem p_named {p spin side spot worth : Int} {n : Nat} {A : List Int} {k : Bool → Prop} {e : PErr → Prop} (hp : isP p = true ∧ p ≤ 997) (hn : n ≤ 6) (hA : Tb p n A) (h1 : 0 ≤ spin ∧ spin ≤ n) (h2 : 0 ≤ side ∧ side < 2 ^ n) (h3 : 0 ≤ spot ∧ (0 < n → spot < n)) (hw : 0 ≤ worth ∧ worth < p) (h : k true) : w_ulaw_named p n A spin side spot worth k e := by
  have hp3 := (isP_nat hp.1).2
  have hpc : 0 < p ∧ p ≤ 997 := by omega
  unfold w_ulaw_named
  obtain ⟨a, rfl⟩ : ∃ a : Nat, spin = (a : Int) := ⟨spin.toNat, by omega⟩
  obtain ⟨b, rfl⟩ : ∃ a : Nat, side = (a : Int) := ⟨side.toNat, by omega⟩
  obtain ⟨t, rfl⟩ : ∃ a : Nat, spot = (a : Int) := ⟨spot.toNat, by omega⟩
  have hb : b < 2 ^ n := by
    have := h2.2
    rw [show ((2 : Int) ^ n) = ((2 ^ n : Nat) : Int) by rw [Int.natCast_pow]; rfl] at this
    omega
  refine p_Table_init hp hn hA (p_reckoned hpc hn hA (dT (by omega)) (p_turned hp hn hA (fun c ec hc => ?_) fun z => absurd ⟨by omega, by omega⟩ z))
  have : a = c := by omega
  subst this
  refine p_same (p_reckoned hpc hn hA (dF hb) (wJoin_i (Br_y rfl (p_flipped hp hn hA (fun c ec hc => ?_) fun z => absurd h2 z))))
  have : b = c := by omega
  subst this
  refine p_same (p_reckoned hpc hn hA dM (wJoin_i (Br_y rfl (p_mirrored hp hn hA (p_same (wJoin_i ?_))))))
  have last : wJoin (fun (j374 : Bool → Prop) => (Br (decide ((n : Int) > (1 : Int))) (w_ulaw_reckoned (Str.ofString "tied") p n A ((n : Int) - (2 : Int)) worth (fun (r384 : (List Int)) => (w_tied_ends (p, (n : Int), A) ((n : Int) - (2 : Int)) worth (fun (r402 : (Int × Int × (List Int))) => (wJoin (fun (j410 : Bool → Prop) => (Br true (w_ulaw_same r402 p ((n : Int) - (2 : Int)) r384 (fun (r415 : Bool) => (j410 r415)) e) (j410 false))) (fun (b411 : Bool) => (j374 b411)))) (fun _ => False))) e) (j374 true))) (fun (s373 : Bool) => (k s373)) := by
    refine wJoin_i (Br_p (fun c => ?_) fun _ => h)
    rw [show (n : Int) - 2 = ((n - 2 : Nat) : Int) by omega]
    refine p_reckoned hpc hn hA (dS (by omega) hw) (p_tied hp hn hA (fun c ec _ _ => ?_) (fun z => absurd ⟨by omega, by omega⟩ z) fun _ z => absurd hw z)
    have : n - 2 = c := by omega
    subst this
    exact wJoin_i (Br_y rfl (p_same h))
  refine Br_p (fun c => ?_) fun _ => last
  have ht : t < n := by have := h3.2 (by omega); omega
  refine p_reckoned hpc hn hA (dW ht hw) (p_weighted hp hn hA (fun c ec _ _ => ?_) (fun z => absurd ⟨by omega, by omega⟩ z) fun _ z => absurd hw z)
  have : t = c := by omega
  subst this
  refine wJoin_i (Br_y rfl (p_same (p_reckoned hpc hn hA (dX (b := 1) ht (by omega)) (p_fixed hp hn hA (fun c d ec ed _ _ => ?_) (fun z => absurd ⟨by omega, by omega⟩ z) fun _ z => absurd ⟨by omega, by omega⟩ z))))
  have : t = c := by omega
  subst this
  have : 1 = d := by omega
  subst this
  rw [show (n : Int) - 1 = ((n - 1 : Nat) : Int) by omega]
  exact wJoin_i (Br_y rfl (p_same last))
theorem p_tried {w : Str} {S : Int × Int × List Int} {x y z : Int} {k : List (Str × Int) → Prop} {e : PErr → Prop} (hd : ∀ (k : Int × Int × List Int → Prop) (e : PErr → Prop), e (NumE z) → w_ulaw_done w S x y k e) (h : k [(Str.ofString "number", z)]) : w_ulaw_tried w S x y k e := by
  unfold w_ulaw_tried
  exact hd _ _ (p_names_num h)
theorem p_refused {p odd : Int} {n : Nat} {A : List Int} {k : Bool → Prop} {e : PErr → Prop} (hp : isP p = true ∧ p ≤ 997) (hn : n ≤ 6) (hA : Tb p n A) (ho : 0 ≤ odd) (h : k true) : w_ulaw_refused p n A odd k e := by
  have hp3 := (isP_nat hp.1).2
  unfold w_ulaw_refused
  obtain ⟨M, hM, m1, m2, eM⟩ := pow2 hn
  have eI : ((2 : Int) ^ n) = (M : Int) := by rw [hM, Int.natCast_pow]; rfl
  have C := cpow1 (i := (n : Int)) (by omega)
  rw [eM]
  have bT : ∀ x : Int, ¬ (0 ≤ x ∧ x ≤ n) → ∀ (y : Int) (k : Int × Int × List Int → Prop) (e : PErr → Prop), e (NumE x) → w_ulaw_done (Str.ofString "turned") (p, (n : Int), A) x y k e := fun x hx y k e he => Br_y (by decide) (p_turned hp hn hA (fun b eb hb => absurd ⟨by omega, by omega⟩ hx) fun _ => he)
  have bF : ∀ x : Int, ¬ (0 ≤ x ∧ x < (M : Int)) → ∀ (y : Int) (k : Int × Int × List Int → Prop) (e : PErr → Prop), e (NumE x) → w_ulaw_done (Str.ofString "flipped") (p, (n : Int), A) x y k e := fun x hx y k e he => Br_x (by decide) (Br_x (by decide) (Br_y (by decide) (p_flipped hp hn hA (fun b eb hb => absurd ⟨by omega, by rw [← hM] at hb; omega⟩ hx) fun _ => he)))
  have bW : ∀ x y z : Int, (¬ (0 ≤ x ∧ x < n) ∧ z = x ∨ (0 ≤ x ∧ x < n) ∧ ¬ (0 ≤ y ∧ y < p) ∧ z = y) → ∀ (k : Int × Int × List Int → Prop) (e : PErr → Prop), e (NumE z) → w_ulaw_done (Str.ofString "weighted") (p, (n : Int), A) x y k e := fun x y z hx k e he => Br_x (by decide) (Br_x (by decide) (Br_x (by decide) (Br_y (by decide) (p_weighted hp hn hA (fun t et ht hy => by
    exfalso
    rcases hx with hx | hx
    · exact hx.1 ⟨by omega, by omega⟩
    · exact hx.2.1 hy) (fun q => by
    rcases hx with hx | hx
    · rw [← hx.2]; exact he
    · exact absurd hx.1 q) fun q q2 => by
    rcases hx with hx | hx
    · exact absurd q hx.1
    · rw [← hx.2.2]; exact he))))
  have bX : ∀ x y z : Int, (¬ (0 ≤ x ∧ x < n) ∧ z = x ∨ (0 ≤ x ∧ x < n) ∧ ¬ (0 ≤ y ∧ y ≤ 1) ∧ z = y) → ∀ (k : Int × Int × List Int → Prop) (e : PErr → Prop), e (NumE z) → w_ulaw_done (Str.ofString "fixed") (p, (n : Int), A) x y k e := fun x y z hx k e he => Br_x (by decide) (Br_x (by decide) (Br_x (by decide) (Br_x (by decide) (Br_y (by decide) (p_fixed hp hn hA (fun t b et eb ht hb => by
    exfalso
    rcases hx with hx | hx
    · exact hx.1 ⟨by omega, by omega⟩
    · exact hx.2.1 ⟨by omega, by omega⟩) (fun q => by
    rcases hx with hx | hx
    · rw [← hx.2]; exact he
    · exact absurd hx.1 q) fun q q2 => by
    rcases hx with hx | hx
    · exact absurd q hx.1
    · rw [← hx.2.2]; exact he)))))
  have bS : ∀ x y z : Int, (¬ (0 ≤ x ∧ x ≤ (n : Int) - 2) ∧ z = x ∨ (0 ≤ x ∧ x ≤ (n : Int) - 2) ∧ ¬ (0 ≤ y ∧ y < p) ∧ z = y) → ∀ (k : Int × Int × List Int → Prop) (e : PErr → Prop), e (NumE z) → w_ulaw_done (Str.ofString "tied") (p, (n : Int), A) x y k e := fun x y z hx k e he => Br_x (by decide) (Br_x (by decide) (Br_x (by decide) (Br_x (by decide) (Br_x (by decide) (p_tied hp hn hA (fun t et ht hy => by
    exfalso
    rcases hx with hx | hx
    · exact hx.1 ⟨by omega, by omega⟩
    · exact hx.2.1 hy) (fun q => by
    rcases hx with hx | hx
    · rw [← hx.2]; exact he
    · exact absurd hx.1 q) fun q q2 => by
    rcases hx with hx | hx
    · exact absurd q hx.1
    · rw [← hx.2.2]; exact he)))))
  refine p_Table_init hp hn hA (wFor_true (fun d hd nx hx => wJoin_i (Br_y rfl (p_tried (fun k e => bT d ?_ _ k e) (p_got hx)))) ⟨C, C, wFor_true (fun d hd nx hx => wJoin_i (Br_y rfl (p_tried (fun k e => bF d ?_ _ k e) (p_got hx)))) (wFor_true (fun d hd nx hx => wFor_true (fun c hc nx hx => ?_) hx) (wFor_true (fun d hd nx hx => wFor_true (fun c hc nx hx => ?_) hx) (wFor_true (fun c hc nx hx => ?_) (wFor_true (fun c hc nx hx => ?_) (wJoin_i (Br_y rfl (p_same h)))))))⟩)
  · simp only [List.mem_cons, List.not_mem_nil, or_false] at hd
    omega
  · simp only [List.mem_cons, List.not_mem_nil, or_false] at hd
    omega
  · simp only [List.mem_cons, List.not_mem_nil, or_false] at hd hc
    exact p_tried (bW d c d (Or.inl ⟨by omega, rfl⟩)) (wJoin_i (Br_y rfl (p_got (p_tried (bX d c d (Or.inl ⟨by omega, rfl⟩)) (wJoin_i (Br_y rfl (p_got hx)))))))
  · simp only [List.mem_cons, List.not_mem_nil, or_false] at hd hc
    exact p_tried (bS d c d (Or.inl ⟨by omega, rfl⟩)) (wJoin_i (Br_y rfl (p_got hx)))
  · simp only [List.mem_cons, List.not_mem_nil, or_false] at hc
    have two : Br (decide ((n : Int) > (1 : Int))) (w_ulaw_tried (Str.ofString "tied") (p, (n : Int), A) ((n : Int) - (2 : Int)) c (fun (r1795 : (List (Str × Int))) => (wJoin (fun (j1813 : Bool → Prop) => (Br true (w_ulaw_got r1795 (Str.ofString "number") c (fun (r1818 : Bool) => (j1813 r1818)) e) (j1813 false))) (fun (b1814 : Bool) => (nx (b1814))))) e) (nx true) :=
      Br_p (fun z => p_tried (bS _ c c (Or.inr ⟨by omega, by omega, rfl⟩)) (wJoin_i (Br_y rfl (p_got hx)))) fun _ => hx
    exact wJoin_i (Br_p (fun z => p_tried (bW _ c c (Or.inr ⟨by omega, by omega, rfl⟩)) (wJoin_i (Br_y rfl (p_got two)))) fun _ => two)
  · simp only [List.mem_cons, List.not_mem_nil, or_false] at hc
    exact Br_p (fun z => p_tried (bX _ c c (Or.inr ⟨by omega, by omega, rfl⟩)) (wJoin_i (Br_y rfl (p_got hx)))) fun _ => hx
theorem pure_law (ns : List Int) (hl : ns.length ≤ 63) : w_law ns (fun b => b = true) (fun _ => False) := by
  unfold w_law
  refine p_draws (by omega) hl (p_ulaw_prime fun p hp hp9 => ?_)
  have hp3 := (isP_nat hp).2
  have hpc : 0 < p ∧ p ≤ 997 := by omega
  refine p_next (by decide) fun n0 _ _ => ?_
  obtain ⟨n, rfl⟩ : ∃ a : Nat, n0 = (a : Int) := ⟨n0.toNat, by omega⟩
  have hn : n ≤ 6 := by omega
  obtain ⟨M, hM, m1, m2, eM⟩ := pow2 hn
  have eI : ((2 : Int) ^ n) = (M : Int) := by rw [hM, Int.natCast_pow]; rfl
  have C := cpow1 (i := (n : Int)) (by omega)
  have mx1 : maxI 1 (n : Int) ≤ 6 ∧ 1 ≤ maxI 1 (n : Int) ∧ (0 < n → maxI 1 (n : Int) = n) := by unfold maxI; split <;> omega
  have mx2 : maxI 1 ((n : Int) - 1) ≤ 6 ∧ 1 ≤ maxI 1 ((n : Int) - 1) ∧ (1 < n → maxI 1 ((n : Int) - 1) = n - 1) := by unfold maxI; split <;> omega
  have mx3 : 0 ≤ maxI ((n : Int) - 1) 0 ∧ maxI ((n : Int) - 1) 0 ≤ 6 ∧ ∀ x, x < maxI ((n : Int) - 1) 0 → 0 ≤ x → x ≤ (n : Int) - 2 := by
    unfold maxI
    split
    · exact ⟨by omega, by omega, fun x _ _ => by omega⟩
    · exact ⟨by omega, by omega, fun x _ _ => by omega⟩
  refine p_next (by omega) fun spin s0 s1 => ?_
  rw [eM]
  refine ⟨C, p_next (by omega) fun side d0 d1 => p_next (by omega) fun spot t0 t1 => p_next (by omega) fun low l0 l1 => p_ulaw_residue hpc.1 fun worth hw => p_next (by decide) fun odd o0 o1 => ⟨C, rg_ok (by omega), lim_le (by omega), wComp_all (fun y => 0 ≤ y ∧ y < p) (fun d _ nx hx => p_ulaw_residue hpc.1 fun y hy => hx y hy) fun A hA1 hA2 => ⟨by omega, wLet_i ⟨by omega, wLet_i ⟨by omega, wLet_i ?_⟩⟩⟩⟩⟩
  rw [rangeL_len] at hA1
  have hA : Tb p n A := ⟨by rw [hA1, ← hM]; omega, hA2⟩
  have rl : ∀ x : Int, (rangeL 0 x).length = x.toNat := fun x => by rw [rangeL_len, Int.sub_zero]
  refine wJoin_o (fun s => ((∀ x, x ∈ s.1 → 0 ≤ x ∧ x ≤ (n : Int)) ∧ s.1.length ≤ 10) ∧ ((∀ x, x ∈ s.2.1 → 0 ≤ x ∧ x < (n : Int)) ∧ s.2.1.length ≤ 10) ∧ ((∀ x, x ∈ s.2.2 → 0 ≤ x ∧ x ≤ (n : Int) - 2) ∧ s.2.2.length ≤ 10)) (fun j hj => Br_p (fun c => wLet_i (wLet_i (wLet_i (hj _ ⟨⟨fun x hx => ?_, by simp⟩, ⟨fun x hx => ?_, by simp⟩, fun x hx => ?_, by simp⟩)))) fun c => hj _ ⟨⟨fun x hx => ?_, ?_⟩, ⟨fun x hx => ?_, ?_⟩, fun x hx => ?_, ?_⟩) fun s hs => ?_
  · simp only [List.mem_cons, List.not_mem_nil, or_false] at hx
    omega
  · simp only [List.mem_cons, List.not_mem_nil, or_false] at hx
    omega
  · simp only [List.mem_cons, List.not_mem_nil, or_false] at hx
    omega
  · have := mem_rangeL.mp hx; omega
  · simp only [rl]; omega
  · have := mem_rangeL.mp hx; omega
  · simp only [rl]; omega
  · have := mem_rangeL.mp hx
    exact ⟨this.1, mx3.2.2 x this.2 this.1⟩
  · simp only [rl]; omega
  obtain ⟨⟨hs1, hl1⟩, ⟨hs2, hl2⟩, hs3, hl3⟩ := hs
  let OkT := fun q : Str × Int × Int => ∃ (n' : Nat) (g : Nat → Int), Dd p n q.1 q.2.1 q.2.2 n' g A
  have app : ∀ (R S : List (Str × Int × Int)), (∀ q, q ∈ R → OkT q) → (∀ q, q ∈ S → OkT q) → ∀ q, q ∈ R ++ S → OkT q := fun R S h1 h2 q hq => (List.mem_append.mp hq).elim (h1 q) (h2 q)
  have nn : ∀ x : Int, 0 ≤ x → ∃ a : Nat, x = (a : Int) := fun x hx => ⟨x.toNat, by omega⟩
  refine wComp_map (fun d => (Str.ofString "turned", d, 0)) (fun d _ nx hx => hx) ⟨lim_le (by rw [List.length_map]; simp only [List.length_singleton]; omega), wLet_i ⟨C, wComp_map (fun d => (Str.ofString "flipped", d, 0)) (fun d _ nx hx => hx) ⟨lim_le (by rw [List.length_append, List.length_map]; simp only [List.length_singleton, List.length_map, List.length_cons, List.length_nil]; omega), wLet_i ?_⟩⟩⟩
  refine wFor_inv (fun pre R => R.length ≤ 100 + 10 * pre.length ∧ ∀ q, q ∈ R → OkT q) ⟨?_, ?_⟩ (fun pre x post R nx e i hn' => ?_) fun R1 i1 => ?_
  · rw [List.length_append, List.length_append, List.length_map, List.length_map]; simp only [List.length_singleton, List.length_cons, List.length_nil]; omega
  · refine app _ _ (app _ _ (fun q hq => ?_) fun q hq => ?_) fun q hq => ?_
    · rw [List.mem_singleton.mp hq]
      exact ⟨n, _, dM⟩
    · obtain ⟨d, hd, rfl⟩ := List.mem_map.mp hq
      have := hs1 d hd
      obtain ⟨a, rfl⟩ := nn d this.1
      exact ⟨n, _, dT (by omega)⟩
    · obtain ⟨d, hd, rfl⟩ := List.mem_map.mp hq
      simp only [List.mem_cons, List.not_mem_nil, or_false] at hd
      obtain ⟨a, rfl⟩ := nn d (by omega)
      exact ⟨n, _, dF (by rw [← hM]; omega)⟩
  · have hpl : pre.length ≤ 10 := by
      have := congrArg List.length e
      rw [List.length_append] at this
      omega
    have hx := hs2 x (by rw [e]; simp)
    obtain ⟨t, rfl⟩ := nn x hx.1
    refine wComp_map (fun d => (Str.ofString "weighted", (t : Int), d)) (fun d _ nx hx => hx) ⟨lim_le (by rw [List.length_map]; simp only [List.length_cons, List.length_nil]; omega), wLet_i (wComp_map (fun d => (Str.ofString "fixed", (t : Int), d)) (fun d _ nx hx => hx) ⟨lim_le (by rw [List.length_append, List.length_map, List.length_map]; simp only [List.length_cons, List.length_nil]; omega), wLet_i (hn' _ ⟨?_, app _ _ (app _ _ i.2 fun q hq => ?_) fun q hq => ?_⟩)⟩)⟩
    · rw [List.length_append, List.length_append, List.length_append, List.length_map, List.length_map]; simp only [List.length_cons, List.length_nil]; omega
    · obtain ⟨d, hd, rfl⟩ := List.mem_map.mp hq
      simp only [List.mem_cons, List.not_mem_nil, or_false] at hd
      exact ⟨n, _, dW (by omega) (show 0 ≤ d ∧ d < p by omega)⟩
    · obtain ⟨d, hd, rfl⟩ := List.mem_map.mp hq
      simp only [List.mem_cons, List.not_mem_nil, or_false] at hd
      obtain ⟨b, rfl⟩ := nn d (by omega)
      exact ⟨n - 1, _, dX (by omega) (by omega)⟩
  · refine wFor_inv (fun pre R => R.length ≤ 200 + 10 * pre.length ∧ ∀ q, q ∈ R → OkT q) ⟨by have := i1.1; simp only [List.length_nil]; omega, i1.2⟩ (fun pre x post R nx e i hn' => ?_) fun R2 i2 => ?_
    · have hpl : pre.length ≤ 10 := by
        have := congrArg List.length e
        rw [List.length_append] at this
        omega
      have hx := hs3 x (by rw [e]; simp)
      obtain ⟨t, rfl⟩ := nn x hx.1
      refine wComp_map (fun d => (Str.ofString "tied", (t : Int), d)) (fun d _ nx hx => hx) ⟨lim_le (by rw [List.length_map]; simp only [List.length_cons, List.length_nil]; omega), wLet_i (hn' _ ⟨?_, app _ _ i.2 fun q hq => ?_⟩)⟩
      · rw [List.length_append, List.length_append, List.length_map]; simp only [List.length_cons, List.length_nil]; omega
      · obtain ⟨d, hd, rfl⟩ := List.mem_map.mp hq
        simp only [List.mem_cons, List.not_mem_nil, or_false] at hd
        exact ⟨n - 2, _, dS (by omega) (show 0 ≤ d ∧ d < p by omega)⟩
    · refine wFor_unit (fun q hq nx hx => ?_) (p_named ⟨hp, hp9⟩ hn hA (by omega) ⟨d0, by rw [eI]; exact d1⟩ ⟨t0, fun z => by have := mx1.2.2 z; omega⟩ hw (Br_x rfl (p_refused ⟨hp, hp9⟩ hn hA o0 rfl)))
      obtain ⟨n', g, hd⟩ := i2.2 q hq
      exact p_right ⟨hp, hp9⟩ hn hA hd (Br_x rfl hx)
end Lw
namespace Lw
open PySem PySem.Spec PyProof.Rows L2 EL Px
def topS (i : Nat) : Stmt := PySem.Challenge.pw_endsflat_k22_plain_ways.main.body.getD i (.Pass ⟨0, 0, 0, 0⟩)
abbrev s_SizeError_init : Stmt := inClass (topS 3) 0
abbrev s_NumberError_init : Stmt := inClass (topS 4) 0
abbrev s_TwinError_init : Stmt := inClass (topS 5) 0
abbrev s_NodeError_init : Stmt := inClass (topS 6) 0
abbrev s_LegError_init : Stmt := inClass (topS 7) 0
abbrev s_PrimeError_init : Stmt := inClass (topS 8) 0
abbrev s_TextError_init : Stmt := inClass (topS 9) 0
abbrev s_check_number : Stmt := topS 12
abbrev s_is_odd_prime : Stmt := topS 13
abbrev s_look_number : Stmt := topS 15
abbrev s_look_list : Stmt := topS 16
abbrev s_look_prime : Stmt := topS 17
abbrev s_look_residue : Stmt := topS 19
abbrev s_look_residues : Stmt := topS 20
abbrev s_look_lot : Stmt := topS 21
abbrev s_has : Stmt := topS 24
abbrev s_check_lot : Stmt := topS 25
abbrev s_turned_lot : Stmt := topS 26
abbrev s_mirrored_lot : Stmt := topS 27
abbrev s_Table_init : Stmt := inClass (topS 39) 0
abbrev s_turned : Stmt := topS 44
abbrev s_mirrored_table : Stmt := topS 45
abbrev s_flipped : Stmt := topS 46
abbrev s_weighted : Stmt := topS 47
abbrev s_wider_lot : Stmt := topS 48
abbrev s_fixed : Stmt := topS 49
abbrev s_tied_ends : Stmt := topS 50
abbrev s_ulaw_draws : Stmt := topS 52
abbrev s_ulaw_next : Stmt := topS 53
abbrev s_ulaw_prime : Stmt := topS 54
abbrev s_ulaw_residue : Stmt := topS 55
abbrev s_ulaw_whole : Stmt := topS 56
abbrev s_ulaw_got : Stmt := topS 57
abbrev s_ulaw_same : Stmt := topS 58
abbrev s_ulaw_bit_row : Stmt := topS 59
abbrev s_ulaw_lot_of : Stmt := topS 60
abbrev s_ulaw_names : Stmt := topS 61
abbrev s_ulaw_done : Stmt := topS 62
abbrev s_ulaw_tried : Stmt := topS 63
abbrev s_ulaw_ends_left : Stmt := topS 64
abbrev s_ulaw_old_lot : Stmt := topS 65
abbrev s_ulaw_reckoned : Stmt := topS 66
abbrev s_ulaw_right : Stmt := topS 67
abbrev s_ulaw_named : Stmt := topS 68
abbrev s_ulaw_refused : Stmt := topS 69
abbrev s_law : Stmt := topS 70
theorem sc_SizeError_init : FnScope ["self", "count"] ["self", "count"] (defScope s_SizeError_init) := ⟨rfl, rfl, rfl, by decide +kernel, rfl, by decide +kernel, by decide +kernel⟩
theorem sc_NumberError_init : FnScope ["self", "number"] ["self", "number"] (defScope s_NumberError_init) := ⟨rfl, rfl, rfl, by decide +kernel, rfl, by decide +kernel, by decide +kernel⟩
theorem sc_TwinError_init : FnScope ["self", "number"] ["self", "number"] (defScope s_TwinError_init) := ⟨rfl, rfl, rfl, by decide +kernel, rfl, by decide +kernel, by decide +kernel⟩
theorem sc_NodeError_init : FnScope ["self", "node"] ["self", "node"] (defScope s_NodeError_init) := ⟨rfl, rfl, rfl, by decide +kernel, rfl, by decide +kernel, by decide +kernel⟩
theorem sc_LegError_init : FnScope ["self", "leg"] ["self", "leg"] (defScope s_LegError_init) := ⟨rfl, rfl, rfl, by decide +kernel, rfl, by decide +kernel, by decide +kernel⟩
theorem sc_PrimeError_init : FnScope ["self", "prime"] ["self", "prime"] (defScope s_PrimeError_init) := ⟨rfl, rfl, rfl, by decide +kernel, rfl, by decide +kernel, by decide +kernel⟩
theorem sc_TextError_init : FnScope ["self", "line"] ["self", "line"] (defScope s_TextError_init) := ⟨rfl, rfl, rfl, by decide +kernel, rfl, by decide +kernel, by decide +kernel⟩
theorem sc_check_number : FnScope ["number", "low", "high"] ["number", "low", "high"] (defScope s_check_number) := ⟨rfl, rfl, rfl, by decide +kernel, rfl, by decide +kernel, by decide +kernel⟩
theorem sc_is_odd_prime : FnScope ["number", "divisor"] ["number"] (defScope s_is_odd_prime) := ⟨rfl, rfl, rfl, by decide +kernel, rfl, by decide +kernel, by decide +kernel⟩
theorem sc_look_number : FnScope ["number", "low", "high"] ["number", "low", "high"] (defScope s_look_number) := ⟨rfl, rfl, rfl, by decide +kernel, rfl, by decide +kernel, by decide +kernel⟩
theorem sc_look_list : FnScope ["items", "low", "high"] ["items", "low", "high"] (defScope s_look_list) := ⟨rfl, rfl, rfl, by decide +kernel, rfl, by decide +kernel, by decide +kernel⟩
theorem sc_look_prime : FnScope ["prime"] ["prime"] (defScope s_look_prime) := ⟨rfl, rfl, rfl, by decide +kernel, rfl, by decide +kernel, by decide +kernel⟩
theorem sc_look_residue : FnScope ["prime", "number"] ["prime", "number"] (defScope s_look_residue) := ⟨rfl, rfl, rfl, by decide +kernel, rfl, by decide +kernel, by decide +kernel⟩
theorem sc_look_residues : FnScope ["prime", "items", "count", "number"] ["prime", "items", "count"] (defScope s_look_residues) := ⟨rfl, rfl, rfl, by decide +kernel, rfl, by decide +kernel, by decide +kernel⟩
theorem sc_look_lot : FnScope ["count", "lot"] ["count", "lot"] (defScope s_look_lot) := ⟨rfl, rfl, rfl, by decide +kernel, rfl, by decide +kernel, by decide +kernel⟩
theorem sc_has : FnScope ["lot", "thing"] ["lot", "thing"] (defScope s_has) := ⟨rfl, rfl, rfl, by decide +kernel, rfl, by decide +kernel, by decide +kernel⟩
theorem sc_check_lot : FnScope ["count", "lot"] ["count", "lot"] (defScope s_check_lot) := ⟨rfl, rfl, rfl, by decide +kernel, rfl, by decide +kernel, by decide +kernel⟩
theorem sc_turned_lot : FnScope ["count", "lot", "by", "turned", "thing"] ["count", "lot", "by"] (defScope s_turned_lot) := ⟨rfl, rfl, rfl, by decide +kernel, rfl, by decide +kernel, by decide +kernel⟩
theorem sc_mirrored_lot : FnScope ["count", "lot", "mirrored", "thing"] ["count", "lot"] (defScope s_mirrored_lot) := ⟨rfl, rfl, rfl, by decide +kernel, rfl, by decide +kernel, by decide +kernel⟩
theorem sc_Table_init : FnScope ["self", "prime", "ends", "entries"] ["self", "prime", "ends", "entries"] (defScope s_Table_init) := ⟨rfl, rfl, rfl, by decide +kernel, rfl, by decide +kernel, by decide +kernel⟩
theorem sc_turned : FnScope ["table", "by", "back", "entries", "lot"] ["table", "by"] (defScope s_turned) := ⟨rfl, rfl, rfl, by decide +kernel, rfl, by decide +kernel, by decide +kernel⟩
theorem sc_mirrored_table : FnScope ["table", "entries", "lot"] ["table"] (defScope s_mirrored_table) := ⟨rfl, rfl, rfl, by decide +kernel, rfl, by decide +kernel, by decide +kernel⟩
theorem sc_flipped : FnScope ["table", "lot", "one"] ["table", "lot"] (defScope s_flipped) := ⟨rfl, rfl, rfl, by decide +kernel, rfl, by decide +kernel, by decide +kernel⟩
theorem sc_weighted : FnScope ["table", "end", "factor", "entries", "lot", "entry"] ["table", "end", "factor"] (defScope s_weighted) := ⟨rfl, rfl, rfl, by decide +kernel, rfl, by decide +kernel, by decide +kernel⟩
theorem sc_wider_lot : FnScope ["lot", "end", "count"] ["lot", "end", "count"] (defScope s_wider_lot) := ⟨rfl, rfl, rfl, by decide +kernel, rfl, by decide +kernel, by decide +kernel⟩
theorem sc_fixed : FnScope ["table", "end", "bit", "kept", "entries", "lot"] ["table", "end", "bit"] (defScope s_fixed) := ⟨rfl, rfl, rfl, by decide +kernel, rfl, by decide +kernel, by decide +kernel⟩
theorem sc_tied_ends : FnScope ["table", "end", "weight", "both", "entries", "lot", "wide"] ["table", "end", "weight"] (defScope s_tied_ends) := ⟨rfl, rfl, rfl, by decide +kernel, rfl, by decide +kernel, by decide +kernel⟩
theorem sc_ulaw_draws : FnScope ["script", "count", "digits", "k", "cell", "step", "mixed", "seed"] ["script", "count"] (defScope s_ulaw_draws) := ⟨rfl, rfl, rfl, by decide +kernel, rfl, by decide +kernel, by decide +kernel⟩
theorem sc_ulaw_next : FnScope ["dr", "at", "many"] ["dr", "at", "many"] (defScope s_ulaw_next) := ⟨rfl, rfl, rfl, by decide +kernel, rfl, by decide +kernel, by decide +kernel⟩
theorem sc_ulaw_prime : FnScope ["dr", "at", "most", "step", "d"] ["dr", "at"] (defScope s_ulaw_prime) := ⟨rfl, rfl, rfl, by decide +kernel, rfl, by decide +kernel, by decide +kernel⟩
theorem sc_ulaw_residue : FnScope ["dr", "at", "p"] ["dr", "at", "p"] (defScope s_ulaw_residue) := ⟨rfl, rfl, rfl, by decide +kernel, rfl, by decide +kernel, by decide +kernel⟩
theorem sc_ulaw_whole : FnScope ["x"] ["x"] (defScope s_ulaw_whole) := ⟨rfl, rfl, rfl, by decide +kernel, rfl, by decide +kernel, by decide +kernel⟩
theorem sc_ulaw_got : FnScope ["rows", "word", "number"] ["rows", "word", "number"] (defScope s_ulaw_got) := ⟨rfl, rfl, rfl, by decide +kernel, rfl, by decide +kernel, by decide +kernel⟩
theorem sc_ulaw_same : FnScope ["thing", "p", "n", "cells", "x"] ["thing", "p", "n", "cells"] (defScope s_ulaw_same) := ⟨rfl, rfl, rfl, by decide +kernel, rfl, by decide +kernel, by decide +kernel⟩
theorem sc_ulaw_bit_row : FnScope ["n", "mask", "j"] ["n", "mask"] (defScope s_ulaw_bit_row) := ⟨rfl, rfl, rfl, by decide +kernel, rfl, by decide +kernel, by decide +kernel⟩
theorem sc_ulaw_lot_of : FnScope ["bits", "j"] ["bits"] (defScope s_ulaw_lot_of) := ⟨rfl, rfl, rfl, by decide +kernel, rfl, by decide +kernel, by decide +kernel⟩
theorem sc_ulaw_names : FnScope ["e", "rows"] ["e"] (defScope s_ulaw_names) := ⟨rfl, rfl, rfl, by decide +kernel, rfl, by decide +kernel, by decide +kernel⟩
theorem sc_ulaw_done : FnScope ["way", "sheet", "one", "two"] ["way", "sheet", "one", "two"] (defScope s_ulaw_done) := ⟨rfl, rfl, rfl, by decide +kernel, rfl, by decide +kernel, by decide +kernel⟩
theorem sc_ulaw_tried : FnScope ["way", "sheet", "one", "two", "made", "e"] ["way", "sheet", "one", "two"] (defScope s_ulaw_tried) := ⟨rfl, rfl, rfl, by decide +kernel, rfl, by decide +kernel, by decide +kernel⟩
theorem sc_ulaw_ends_left : FnScope ["way", "n"] ["way", "n"] (defScope s_ulaw_ends_left) := ⟨rfl, rfl, rfl, by decide +kernel, rfl, by decide +kernel, by decide +kernel⟩
theorem sc_ulaw_old_lot : FnScope ["way", "n", "bits", "one", "more", "i"] ["way", "n", "bits", "one", "more"] (defScope s_ulaw_old_lot) := ⟨rfl, rfl, rfl, by decide +kernel, rfl, by decide +kernel, by decide +kernel⟩
theorem sc_ulaw_reckoned : FnScope ["way", "p", "n", "a", "one", "two", "row", "left", "mask", "bits", "none", "both"] ["way", "p", "n", "a", "one", "two"] (defScope s_ulaw_reckoned) := ⟨rfl, rfl, rfl, by decide +kernel, rfl, by decide +kernel, by decide +kernel⟩
theorem sc_ulaw_right : FnScope ["way", "p", "n", "a", "one", "two", "due", "left", "sheet", "step", "made"] ["way", "p", "n", "a", "one", "two"] (defScope s_ulaw_right) := ⟨rfl, rfl, rfl, by decide +kernel, rfl, by decide +kernel, by decide +kernel⟩
theorem sc_ulaw_named : FnScope ["p", "n", "a", "spin", "side", "spot", "worth", "sheet", "due", "fine", "made"] ["p", "n", "a", "spin", "side", "spot", "worth"] (defScope s_ulaw_named) := ⟨rfl, rfl, rfl, by decide +kernel, rfl, by decide +kernel, by decide +kernel⟩
theorem sc_ulaw_refused : FnScope ["p", "n", "a", "odd", "sheet", "fine", "far", "worth", "made"] ["p", "n", "a", "odd"] (defScope s_ulaw_refused) := ⟨rfl, rfl, rfl, by decide +kernel, rfl, by decide +kernel, by decide +kernel⟩
theorem sc_law : FnScope ["script", "dr", "at", "p", "n", "spin", "side", "spot", "low", "worth", "odd", "a", "spins", "spots", "lows", "tasks", "x", "way", "one", "two", "k", "y"] ["script"] (defScope s_law) := ⟨rfl, rfl, rfl, by decide +kernel, rfl, by decide +kernel, by decide +kernel⟩
def gk_turned_0_table_by {α : Type} (us ws : List α) : List α := match us, ws with
  | [], [w0, w1] => [w0, w1]
  | _, _ => []
def gk_weighted_0_table_end_factor {α : Type} (us ws : List α) : List α := match us, ws with
  | [], [w0, w1, w2] => [w0, w1, w2]
  | _, _ => []
def gk_fixed_0_table_end_bit {α : Type} (us ws : List α) : List α := match us, ws with
  | [], [w0, w1, w2] => [w0, w1, w2]
  | _, _ => []
def gk_tied_ends_0_table_end_weight {α : Type} (us ws : List α) : List α := match us, ws with
  | [], [w0, w1, w2] => [w0, w1, w2]
  | _, _ => []
def gk_flipped_0_table_lot {α : Type} (us ws : List α) : List α := match us, ws with
  | [], [w0, w1] => [w0, w1]
  | _, _ => []
def gk_mirrored_table_0_table {α : Type} (us ws : List α) : List α := match us, ws with
  | [], [w0] => [w0]
  | _, _ => []
structure Tab where
  a_SizeError_init : Addr
  fd_SizeError_init : FuncData
  a_NumberError_init : Addr
  fd_NumberError_init : FuncData
  a_TwinError_init : Addr
  fd_TwinError_init : FuncData
  a_NodeError_init : Addr
  fd_NodeError_init : FuncData
  a_LegError_init : Addr
  fd_LegError_init : FuncData
  a_PrimeError_init : Addr
  fd_PrimeError_init : FuncData
  a_TextError_init : Addr
  fd_TextError_init : FuncData
  a_check_number : Addr
  fd_check_number : FuncData
  a_is_odd_prime : Addr
  fd_is_odd_prime : FuncData
  a_look_number : Addr
  fd_look_number : FuncData
  a_look_list : Addr
  fd_look_list : FuncData
  a_look_prime : Addr
  fd_look_prime : FuncData
  a_look_residue : Addr
  fd_look_residue : FuncData
  a_look_residues : Addr
  fd_look_residues : FuncData
  a_look_lot : Addr
  fd_look_lot : FuncData
  a_has : Addr
  fd_has : FuncData
  a_check_lot : Addr
  fd_check_lot : FuncData
  a_turned_lot : Addr
  fd_turned_lot : FuncData
  a_mirrored_lot : Addr
  fd_mirrored_lot : FuncData
  a_Table_init : Addr
  fd_Table_init : FuncData
  a_turned : Addr
  fd_turned : FuncData
  a_mirrored_table : Addr
  fd_mirrored_table : FuncData
  a_flipped : Addr
  fd_flipped : FuncData
  a_weighted : Addr
  fd_weighted : FuncData
  a_wider_lot : Addr
  fd_wider_lot : FuncData
  a_fixed : Addr
  fd_fixed : FuncData
  a_tied_ends : Addr
  fd_tied_ends : FuncData
  a_ulaw_draws : Addr
  fd_ulaw_draws : FuncData
  a_ulaw_next : Addr
  fd_ulaw_next : FuncData
  a_ulaw_prime : Addr
  fd_ulaw_prime : FuncData
  a_ulaw_residue : Addr
  fd_ulaw_residue : FuncData
  a_ulaw_whole : Addr
  fd_ulaw_whole : FuncData
  a_ulaw_got : Addr
  fd_ulaw_got : FuncData
  a_ulaw_same : Addr
  fd_ulaw_same : FuncData
  a_ulaw_bit_row : Addr
  fd_ulaw_bit_row : FuncData
  a_ulaw_lot_of : Addr
  fd_ulaw_lot_of : FuncData
  a_ulaw_names : Addr
  fd_ulaw_names : FuncData
  a_ulaw_done : Addr
  fd_ulaw_done : FuncData
  a_ulaw_tried : Addr
  fd_ulaw_tried : FuncData
  a_ulaw_ends_left : Addr
  fd_ulaw_ends_left : FuncData
  a_ulaw_old_lot : Addr
  fd_ulaw_old_lot : FuncData
  a_ulaw_reckoned : Addr
  fd_ulaw_reckoned : FuncData
  a_ulaw_right : Addr
  fd_ulaw_right : FuncData
  a_ulaw_named : Addr
  fd_ulaw_named : FuncData
  a_ulaw_refused : Addr
  fd_ulaw_refused : FuncData
  a_law : Addr
  fd_law : FuncData
  c_EndsError : Addr
  c_SizeError : Addr
  c_NumberError : Addr
  c_TwinError : Addr
  c_NodeError : Addr
  c_LegError : Addr
  c_PrimeError : Addr
  c_TextError : Addr
  c_Table : Addr
  k_MOST : Tok
  k_THINGS : Tok
  k_MOST_ENDS : Tok
structure Txt (K : PySem.W.Frag) (mg : Str → Option Value) (t : Tab) : Prop where
  F_SizeError_init : Fun K "__init__" "SizeError.__init__" s_SizeError_init t.a_SizeError_init t.fd_SizeError_init
  b_SizeError_init : Binds K t.fd_SizeError_init ["self", "count"] []
  F_NumberError_init : Fun K "__init__" "NumberError.__init__" s_NumberError_init t.a_NumberError_init t.fd_NumberError_init
  b_NumberError_init : Binds K t.fd_NumberError_init ["self", "number"] []
  F_TwinError_init : Fun K "__init__" "TwinError.__init__" s_TwinError_init t.a_TwinError_init t.fd_TwinError_init
  b_TwinError_init : Binds K t.fd_TwinError_init ["self", "number"] []
  F_NodeError_init : Fun K "__init__" "NodeError.__init__" s_NodeError_init t.a_NodeError_init t.fd_NodeError_init
  b_NodeError_init : Binds K t.fd_NodeError_init ["self", "node"] []
  F_LegError_init : Fun K "__init__" "LegError.__init__" s_LegError_init t.a_LegError_init t.fd_LegError_init
  b_LegError_init : Binds K t.fd_LegError_init ["self", "leg"] []
  F_PrimeError_init : Fun K "__init__" "PrimeError.__init__" s_PrimeError_init t.a_PrimeError_init t.fd_PrimeError_init
  b_PrimeError_init : Binds K t.fd_PrimeError_init ["self", "prime"] []
  F_TextError_init : Fun K "__init__" "TextError.__init__" s_TextError_init t.a_TextError_init t.fd_TextError_init
  b_TextError_init : Binds K t.fd_TextError_init ["self", "line"] []
  g_check_number : mg "check_number" = some (.ref t.a_check_number)
  F_check_number : Fun K "check_number" "check_number" s_check_number t.a_check_number t.fd_check_number
  b_check_number : Binds K t.fd_check_number ["number", "low", "high"] []
  g_is_odd_prime : mg "is_odd_prime" = some (.ref t.a_is_odd_prime)
  F_is_odd_prime : Fun K "is_odd_prime" "is_odd_prime" s_is_odd_prime t.a_is_odd_prime t.fd_is_odd_prime
  b_is_odd_prime : Binds K t.fd_is_odd_prime ["number"] []
  g_look_number : mg "look_number" = some (.ref t.a_look_number)
  F_look_number : Fun K "look_number" "look_number" s_look_number t.a_look_number t.fd_look_number
  b_look_number : Binds K t.fd_look_number ["number", "low", "high"] []
  g_look_list : mg "look_list" = some (.ref t.a_look_list)
  F_look_list : Fun K "look_list" "look_list" s_look_list t.a_look_list t.fd_look_list
  b_look_list : Binds K t.fd_look_list ["items", "low", "high"] []
  g_look_prime : mg "look_prime" = some (.ref t.a_look_prime)
  F_look_prime : Fun K "look_prime" "look_prime" s_look_prime t.a_look_prime t.fd_look_prime
  b_look_prime : Binds K t.fd_look_prime ["prime"] []
  g_look_residue : mg "look_residue" = some (.ref t.a_look_residue)
  F_look_residue : Fun K "look_residue" "look_residue" s_look_residue t.a_look_residue t.fd_look_residue
  b_look_residue : Binds K t.fd_look_residue ["prime", "number"] []
  g_look_residues : mg "look_residues" = some (.ref t.a_look_residues)
  F_look_residues : Fun K "look_residues" "look_residues" s_look_residues t.a_look_residues t.fd_look_residues
  b_look_residues : Binds K t.fd_look_residues ["prime", "items", "count"] []
  g_look_lot : mg "look_lot" = some (.ref t.a_look_lot)
  F_look_lot : Fun K "look_lot" "look_lot" s_look_lot t.a_look_lot t.fd_look_lot
  b_look_lot : Binds K t.fd_look_lot ["count", "lot"] []
  g_has : mg "has" = some (.ref t.a_has)
  F_has : Fun K "has" "has" s_has t.a_has t.fd_has
  b_has : Binds K t.fd_has ["lot", "thing"] []
  g_check_lot : mg "check_lot" = some (.ref t.a_check_lot)
  F_check_lot : Fun K "check_lot" "check_lot" s_check_lot t.a_check_lot t.fd_check_lot
  b_check_lot : Binds K t.fd_check_lot ["count", "lot"] []
  g_turned_lot : mg "turned_lot" = some (.ref t.a_turned_lot)
  F_turned_lot : Fun K "turned_lot" "turned_lot" s_turned_lot t.a_turned_lot t.fd_turned_lot
  b_turned_lot : Binds K t.fd_turned_lot ["count", "lot", "by"] []
  g_mirrored_lot : mg "mirrored_lot" = some (.ref t.a_mirrored_lot)
  F_mirrored_lot : Fun K "mirrored_lot" "mirrored_lot" s_mirrored_lot t.a_mirrored_lot t.fd_mirrored_lot
  b_mirrored_lot : Binds K t.fd_mirrored_lot ["count", "lot"] []
  F_Table_init : Fun K "__init__" "Table.__init__" s_Table_init t.a_Table_init t.fd_Table_init
  b_Table_init : Binds K t.fd_Table_init ["self", "prime", "ends", "entries"] []
  g_turned : mg "turned" = some (.ref t.a_turned)
  F_turned : Fun K "turned" "turned" s_turned t.a_turned t.fd_turned
  b_turned : Binds K t.fd_turned ["table", "by"] []
  g_mirrored_table : mg "mirrored_table" = some (.ref t.a_mirrored_table)
  F_mirrored_table : Fun K "mirrored_table" "mirrored_table" s_mirrored_table t.a_mirrored_table t.fd_mirrored_table
  b_mirrored_table : Binds K t.fd_mirrored_table ["table"] []
  g_flipped : mg "flipped" = some (.ref t.a_flipped)
  F_flipped : Fun K "flipped" "flipped" s_flipped t.a_flipped t.fd_flipped
  b_flipped : Binds K t.fd_flipped ["table", "lot"] []
  g_weighted : mg "weighted" = some (.ref t.a_weighted)
  F_weighted : Fun K "weighted" "weighted" s_weighted t.a_weighted t.fd_weighted
  b_weighted : Binds K t.fd_weighted ["table", "end", "factor"] []
  g_wider_lot : mg "wider_lot" = some (.ref t.a_wider_lot)
  F_wider_lot : Fun K "wider_lot" "wider_lot" s_wider_lot t.a_wider_lot t.fd_wider_lot
  b_wider_lot : Binds K t.fd_wider_lot ["lot", "end", "count"] []
  g_fixed : mg "fixed" = some (.ref t.a_fixed)
  F_fixed : Fun K "fixed" "fixed" s_fixed t.a_fixed t.fd_fixed
  b_fixed : Binds K t.fd_fixed ["table", "end", "bit"] []
  g_tied_ends : mg "tied_ends" = some (.ref t.a_tied_ends)
  F_tied_ends : Fun K "tied_ends" "tied_ends" s_tied_ends t.a_tied_ends t.fd_tied_ends
  b_tied_ends : Binds K t.fd_tied_ends ["table", "end", "weight"] []
  g_ulaw_draws : mg "_law_draws" = some (.ref t.a_ulaw_draws)
  F_ulaw_draws : Fun K "_law_draws" "_law_draws" s_ulaw_draws t.a_ulaw_draws t.fd_ulaw_draws
  b_ulaw_draws : Binds K t.fd_ulaw_draws ["script", "count"] []
  g_ulaw_next : mg "_law_next" = some (.ref t.a_ulaw_next)
  F_ulaw_next : Fun K "_law_next" "_law_next" s_ulaw_next t.a_ulaw_next t.fd_ulaw_next
  b_ulaw_next : Binds K t.fd_ulaw_next ["dr", "at", "many"] []
  g_ulaw_prime : mg "_law_prime" = some (.ref t.a_ulaw_prime)
  F_ulaw_prime : Fun K "_law_prime" "_law_prime" s_ulaw_prime t.a_ulaw_prime t.fd_ulaw_prime
  b_ulaw_prime : Binds K t.fd_ulaw_prime ["dr", "at"] []
  g_ulaw_residue : mg "_law_residue" = some (.ref t.a_ulaw_residue)
  F_ulaw_residue : Fun K "_law_residue" "_law_residue" s_ulaw_residue t.a_ulaw_residue t.fd_ulaw_residue
  b_ulaw_residue : Binds K t.fd_ulaw_residue ["dr", "at", "p"] []
  g_ulaw_whole : mg "_law_whole" = some (.ref t.a_ulaw_whole)
  F_ulaw_whole : Fun K "_law_whole" "_law_whole" s_ulaw_whole t.a_ulaw_whole t.fd_ulaw_whole
  b_ulaw_whole : Binds K t.fd_ulaw_whole ["x"] []
  g_ulaw_got : mg "_law_got" = some (.ref t.a_ulaw_got)
  F_ulaw_got : Fun K "_law_got" "_law_got" s_ulaw_got t.a_ulaw_got t.fd_ulaw_got
  b_ulaw_got : Binds K t.fd_ulaw_got ["rows", "word", "number"] []
  g_ulaw_same : mg "_law_same" = some (.ref t.a_ulaw_same)
  F_ulaw_same : Fun K "_law_same" "_law_same" s_ulaw_same t.a_ulaw_same t.fd_ulaw_same
  b_ulaw_same : Binds K t.fd_ulaw_same ["thing", "p", "n", "cells"] []
  g_ulaw_bit_row : mg "_law_bit_row" = some (.ref t.a_ulaw_bit_row)
  F_ulaw_bit_row : Fun K "_law_bit_row" "_law_bit_row" s_ulaw_bit_row t.a_ulaw_bit_row t.fd_ulaw_bit_row
  b_ulaw_bit_row : Binds K t.fd_ulaw_bit_row ["n", "mask"] []
  g_ulaw_lot_of : mg "_law_lot_of" = some (.ref t.a_ulaw_lot_of)
  F_ulaw_lot_of : Fun K "_law_lot_of" "_law_lot_of" s_ulaw_lot_of t.a_ulaw_lot_of t.fd_ulaw_lot_of
  b_ulaw_lot_of : Binds K t.fd_ulaw_lot_of ["bits"] []
  g_ulaw_names : mg "_law_names" = some (.ref t.a_ulaw_names)
  F_ulaw_names : Fun K "_law_names" "_law_names" s_ulaw_names t.a_ulaw_names t.fd_ulaw_names
  b_ulaw_names : Binds K t.fd_ulaw_names ["e"] []
  g_ulaw_done : mg "_law_done" = some (.ref t.a_ulaw_done)
  F_ulaw_done : Fun K "_law_done" "_law_done" s_ulaw_done t.a_ulaw_done t.fd_ulaw_done
  b_ulaw_done : Binds K t.fd_ulaw_done ["way", "sheet", "one", "two"] []
  g_ulaw_tried : mg "_law_tried" = some (.ref t.a_ulaw_tried)
  F_ulaw_tried : Fun K "_law_tried" "_law_tried" s_ulaw_tried t.a_ulaw_tried t.fd_ulaw_tried
  b_ulaw_tried : Binds K t.fd_ulaw_tried ["way", "sheet", "one", "two"] []
  g_ulaw_ends_left : mg "_law_ends_left" = some (.ref t.a_ulaw_ends_left)
  F_ulaw_ends_left : Fun K "_law_ends_left" "_law_ends_left" s_ulaw_ends_left t.a_ulaw_ends_left t.fd_ulaw_ends_left
  b_ulaw_ends_left : Binds K t.fd_ulaw_ends_left ["way", "n"] []
  g_ulaw_old_lot : mg "_law_old_lot" = some (.ref t.a_ulaw_old_lot)
  F_ulaw_old_lot : Fun K "_law_old_lot" "_law_old_lot" s_ulaw_old_lot t.a_ulaw_old_lot t.fd_ulaw_old_lot
  b_ulaw_old_lot : Binds K t.fd_ulaw_old_lot ["way", "n", "bits", "one", "more"] []
  g_ulaw_reckoned : mg "_law_reckoned" = some (.ref t.a_ulaw_reckoned)
  F_ulaw_reckoned : Fun K "_law_reckoned" "_law_reckoned" s_ulaw_reckoned t.a_ulaw_reckoned t.fd_ulaw_reckoned
  b_ulaw_reckoned : Binds K t.fd_ulaw_reckoned ["way", "p", "n", "a", "one", "two"] []
  g_ulaw_right : mg "_law_right" = some (.ref t.a_ulaw_right)
  F_ulaw_right : Fun K "_law_right" "_law_right" s_ulaw_right t.a_ulaw_right t.fd_ulaw_right
  b_ulaw_right : Binds K t.fd_ulaw_right ["way", "p", "n", "a", "one", "two"] []
  g_ulaw_named : mg "_law_named" = some (.ref t.a_ulaw_named)
  F_ulaw_named : Fun K "_law_named" "_law_named" s_ulaw_named t.a_ulaw_named t.fd_ulaw_named
  b_ulaw_named : Binds K t.fd_ulaw_named ["p", "n", "a", "spin", "side", "spot", "worth"] []
  g_ulaw_refused : mg "_law_refused" = some (.ref t.a_ulaw_refused)
  F_ulaw_refused : Fun K "_law_refused" "_law_refused" s_ulaw_refused t.a_ulaw_refused t.fd_ulaw_refused
  b_ulaw_refused : Binds K t.fd_ulaw_refused ["p", "n", "a", "odd"] []
  g_law : mg "law" = some (.ref t.a_law)
  F_law : Fun K "law" "law" s_law t.a_law t.fd_law
  b_law : Binds K t.fd_law ["script"] []
  g_EndsError : mg "EndsError" = some (.ref t.c_EndsError)
  X_EndsError : XCls K t.c_EndsError
  x_EndsError : XOwn K t.c_EndsError
  g_SizeError : mg "SizeError" = some (.ref t.c_SizeError)
  X_SizeError : XCls K t.c_SizeError
  x_SizeError : OexC K t.c_SizeError
  xi_SizeError : PySem.W.findIn K (.ref t.c_SizeError) "__init__" = some (some (.ref t.a_SizeError_init))
  xt_SizeError : PySem.W.typeIn K (.ref t.a_SizeError_init) = some (.type "function")
  xn_SizeError_count : PySem.W.findIn K (.ref t.c_SizeError) "count" = some none
  g_NumberError : mg "NumberError" = some (.ref t.c_NumberError)
  X_NumberError : XCls K t.c_NumberError
  x_NumberError : OexC K t.c_NumberError
  xi_NumberError : PySem.W.findIn K (.ref t.c_NumberError) "__init__" = some (some (.ref t.a_NumberError_init))
  xt_NumberError : PySem.W.typeIn K (.ref t.a_NumberError_init) = some (.type "function")
  xn_NumberError_number : PySem.W.findIn K (.ref t.c_NumberError) "number" = some none
  g_TwinError : mg "TwinError" = some (.ref t.c_TwinError)
  X_TwinError : XCls K t.c_TwinError
  x_TwinError : OexC K t.c_TwinError
  xi_TwinError : PySem.W.findIn K (.ref t.c_TwinError) "__init__" = some (some (.ref t.a_TwinError_init))
  xt_TwinError : PySem.W.typeIn K (.ref t.a_TwinError_init) = some (.type "function")
  xn_TwinError_number : PySem.W.findIn K (.ref t.c_TwinError) "number" = some none
  g_NodeError : mg "NodeError" = some (.ref t.c_NodeError)
  X_NodeError : XCls K t.c_NodeError
  x_NodeError : OexC K t.c_NodeError
  xi_NodeError : PySem.W.findIn K (.ref t.c_NodeError) "__init__" = some (some (.ref t.a_NodeError_init))
  xt_NodeError : PySem.W.typeIn K (.ref t.a_NodeError_init) = some (.type "function")
  xn_NodeError_node : PySem.W.findIn K (.ref t.c_NodeError) "node" = some none
  g_LegError : mg "LegError" = some (.ref t.c_LegError)
  X_LegError : XCls K t.c_LegError
  x_LegError : OexC K t.c_LegError
  xi_LegError : PySem.W.findIn K (.ref t.c_LegError) "__init__" = some (some (.ref t.a_LegError_init))
  xt_LegError : PySem.W.typeIn K (.ref t.a_LegError_init) = some (.type "function")
  xn_LegError_leg : PySem.W.findIn K (.ref t.c_LegError) "leg" = some none
  g_PrimeError : mg "PrimeError" = some (.ref t.c_PrimeError)
  X_PrimeError : XCls K t.c_PrimeError
  x_PrimeError : OexC K t.c_PrimeError
  xi_PrimeError : PySem.W.findIn K (.ref t.c_PrimeError) "__init__" = some (some (.ref t.a_PrimeError_init))
  xt_PrimeError : PySem.W.typeIn K (.ref t.a_PrimeError_init) = some (.type "function")
  xn_PrimeError_prime : PySem.W.findIn K (.ref t.c_PrimeError) "prime" = some none
  g_TextError : mg "TextError" = some (.ref t.c_TextError)
  X_TextError : XCls K t.c_TextError
  x_TextError : OexC K t.c_TextError
  xi_TextError : PySem.W.findIn K (.ref t.c_TextError) "__init__" = some (some (.ref t.a_TextError_init))
  xt_TextError : PySem.W.typeIn K (.ref t.a_TextError_init) = some (.type "function")
  xn_TextError_line : PySem.W.findIn K (.ref t.c_TextError) "line" = some none
  g_Table : mg "Table" = some (.ref t.c_Table)
  own_Table : OwnC K t.c_Table
  mk_Table : L2.Mk K t.c_Table t.a_Table_init
  na_Table_prime : NoAttr K t.c_Table "prime"
  na_Table_ends : NoAttr K t.c_Table "ends"
  na_Table_entries : NoAttr K t.c_Table "entries"
  g_MOST : mg "MOST" = some (.int 997 t.k_MOST)
  g_THINGS : mg "THINGS" = some (.int 20 t.k_THINGS)
  g_MOST_ENDS : mg "MOST_ENDS" = some (.int 6 t.k_MOST_ENDS)
  n_ValueError : mg "ValueError" = none
  n_all : mg "all" = none
  n_bool : mg "bool" = none
  n_enumerate : mg "enumerate" = none
  n_int : mg "int" = none
  n_isinstance : mg "isinstance" = none
  n_len : mg "len" = none
  n_list : mg "list" = none
  n_max : mg "max" = none
  n_min : mg "min" = none
  n_range : mg "range" = none
  n_sum : mg "sum" = none
  n_tuple : mg "tuple" = none
  kt_SizeError_NumberError : PySem.W.kitOne K (.ref t.c_SizeError) (.ref t.c_NumberError) = some false
  kt_NumberError_NumberError : PySem.W.kitOne K (.ref t.c_NumberError) (.ref t.c_NumberError) = some true
  kt_SizeError_SizeError : PySem.W.kitOne K (.ref t.c_SizeError) (.ref t.c_SizeError) = some true
  kt_NumberError_SizeError : PySem.W.kitOne K (.ref t.c_NumberError) (.ref t.c_SizeError) = some false
  kt_SizeError_PrimeError : PySem.W.kitOne K (.ref t.c_SizeError) (.ref t.c_PrimeError) = some false
  kt_NumberError_PrimeError : PySem.W.kitOne K (.ref t.c_NumberError) (.ref t.c_PrimeError) = some false
  kt_SizeError_TwinError : PySem.W.kitOne K (.ref t.c_SizeError) (.ref t.c_TwinError) = some false
  kt_NumberError_TwinError : PySem.W.kitOne K (.ref t.c_NumberError) (.ref t.c_TwinError) = some false
  kt_SizeError_LegError : PySem.W.kitOne K (.ref t.c_SizeError) (.ref t.c_LegError) = some false
  kt_NumberError_LegError : PySem.W.kitOne K (.ref t.c_NumberError) (.ref t.c_LegError) = some false
  kt_SizeError_NodeError : PySem.W.kitOne K (.ref t.c_SizeError) (.ref t.c_NodeError) = some false
  kt_NumberError_NodeError : PySem.W.kitOne K (.ref t.c_NumberError) (.ref t.c_NodeError) = some false
  kt_SizeError_ValueError : PySem.W.kitOne K (.ref t.c_SizeError) (.type "ValueError") = some true
  kt_NumberError_ValueError : PySem.W.kitOne K (.ref t.c_NumberError) (.type "ValueError") = some true
  em_EndsError_EndsError : PySem.W.exmOne K (.ref t.c_EndsError) (.ref t.c_EndsError) = some true
  em_SizeError_EndsError : PySem.W.exmOne K (.ref t.c_SizeError) (.ref t.c_EndsError) = some true
  em_NumberError_EndsError : PySem.W.exmOne K (.ref t.c_NumberError) (.ref t.c_EndsError) = some true
  em_TwinError_EndsError : PySem.W.exmOne K (.ref t.c_TwinError) (.ref t.c_EndsError) = some true
  em_NodeError_EndsError : PySem.W.exmOne K (.ref t.c_NodeError) (.ref t.c_EndsError) = some true
  em_LegError_EndsError : PySem.W.exmOne K (.ref t.c_LegError) (.ref t.c_EndsError) = some true
  em_PrimeError_EndsError : PySem.W.exmOne K (.ref t.c_PrimeError) (.ref t.c_EndsError) = some true
  em_TextError_EndsError : PySem.W.exmOne K (.ref t.c_TextError) (.ref t.c_EndsError) = some true
  kb_turned_0_table_by : KBinds K t.fd_turned ["table", "by"] ["table", "by"] gk_turned_0_table_by gk_turned_0_table_by
  kb_weighted_0_table_end_factor : KBinds K t.fd_weighted ["table", "end", "factor"] ["table", "end", "factor"] gk_weighted_0_table_end_factor gk_weighted_0_table_end_factor
  kb_fixed_0_table_end_bit : KBinds K t.fd_fixed ["table", "end", "bit"] ["table", "end", "bit"] gk_fixed_0_table_end_bit gk_fixed_0_table_end_bit
  kb_tied_ends_0_table_end_weight : KBinds K t.fd_tied_ends ["table", "end", "weight"] ["table", "end", "weight"] gk_tied_ends_0_table_end_weight gk_tied_ends_0_table_end_weight
  kb_flipped_0_table_lot : KBinds K t.fd_flipped ["table", "lot"] ["table", "lot"] gk_flipped_0_table_lot gk_flipped_0_table_lot
  kb_mirrored_table_0_table : KBinds K t.fd_mirrored_table ["table"] ["table"] gk_mirrored_table_0_table gk_mirrored_table_0_table
def Tab.cl (t : Tab) : Nat → Addr
  | 1 => t.c_SizeError
  | 2 => t.c_NumberError
  | 3 => t.c_TwinError
  | 4 => t.c_NodeError
  | 6 => t.c_LegError
  | 8 => t.c_PrimeError
  | 35 => t.c_TextError
  | _ => t.c_EndsError
-- heap facts
local macro_rules | `(tactic| walk_at "hp") => `(tactic| first
  | assumption
  | with_reducible apply L2.Same.refl
  | ((with_reducible apply L2.SqL.of); assumption)
  | ((with_reducible apply L2.SqT.of); assumption)
  | ((with_reducible apply L2.Same.seq); assumption; walk_at "hp")
  | ((with_reducible apply L2.Same.seqT); assumption; walk_at "hp")
  | ((with_reducible apply L2.Same.dp); assumption; walk_at "hp")
  | ((with_reducible apply L2.Same.dpAll); assumption; walk_at "hp")
  | ((with_reducible apply L2.Same.draw); assumption; walk_at "hp")
  | ((with_reducible apply strans); assumption; walk_at "hp")
  | ((with_reducible apply same_at); assumption; walk_at "hp"))
local macro_rules | `(tactic| walk_at "side") => `(tactic| first | assumption | omega | decide | exact ⟨by omega, by omega⟩ | exact .inl ⟨by omega, by omega⟩ | exact .inr ⟨by omega, by omega⟩ | exact Nat.le_of_ble_eq_true rfl)
local macro_rules | `(tactic| walk_at "rd1") => `(tactic| first
  | with_reducible refine tSeq_i ?_
  | ((with_reducible refine' tVar_i ?h1 ?_); (case h1 => exact rfl))
  | with_reducible refine tOp_i ?_
  | with_reducible refine tC_i ?_
  | with_reducible refine tTest_i ?_
  | with_reducible refine IsBl_i ?_
  | with_reducible refine tIfS_i ?_
  | with_reducible refine tAsg_i ?_
  | with_reducible refine gName_i ?_
  | with_reducible refine rI0_i ?_
  | with_reducible refine rAddU_i ?_
  | with_reducible refine rEqU_i ?_
  | with_reducible refine rNeU_i ?_
  | ((with_reducible refine rMulU_i ?h1 ?_); (case h1 => walk_at "side"))
  | ((with_reducible refine rModP_i ?h1 ?_); (case h1 => walk_at "side"))
  | ((with_reducible refine rDivP_i ?h1 ?_); (case h1 => walk_at "side"))
  | with_reducible refine tDrop_i ?_
  | with_reducible refine tCallS_i ?_
  | with_reducible refine tCons_i ?_
  | with_reducible refine tNil_i ?_
  | with_reducible refine tRet_i ?_
  | with_reducible refine tNext_i ?_
  | with_reducible refine tOr_i ?_
  | with_reducible refine tAnd_i ?_
  | with_reducible refine tNot_i ?_
  | with_reducible refine Br_t ?_
  | with_reducible refine Br_f ?_
  | with_reducible refine Br_nt ?_
  | with_reducible refine Br_nf ?_
  | with_reducible refine Br_n ?_
  | with_reducible refine tCall_i ?_
  | with_reducible refine tCallK_i ?_
  | with_reducible refine tCallE_i ?_
  | with_reducible refine rEqU_b ?_
  | with_reducible refine rNeU_b ?_
  | with_reducible refine tCB_i ?_
  | with_reducible refine rInt1_i ?_
  | with_reducible refine tTup_i ?_
  | with_reducible refine tLst_i ?_
  | ((with_reducible refine new_i ?h1 ?_); (case h1 => walk_at "side"); intro _ _ _ _ _)
  | with_reducible refine tPar_i ?_
  | with_reducible refine Par2_i ?_
  | with_reducible refine tUn_i ?_
  | with_reducible refine rU_i ?_
  | ((with_reducible refine rI_i ?h1 ?_); (case h1 => walk_at "side"))
  | with_reducible refine tTruth_i ?_
  | with_reducible refine Tru_b ?_
  | with_reducible refine Tru_n ?_
  | with_reducible refine tIf_i ?_
  | with_reducible refine tAndV_i ?_
  | with_reducible refine tOrV_i ?_
  | with_reducible refine tNotV_i ?_
  | with_reducible refine tRetN_i ?_
  | with_reducible refine tBreak_i ?_
  | with_reducible refine tCont_i ?_
  | with_reducible refine tChain_i ?_
  | with_reducible refine rEqU_s ?_
  | with_reducible refine rNeU_s ?_
  | with_reducible refine rMin2_i ?_
  | with_reducible refine rMax2_i ?_
  | with_reducible refine rAbs_i ?_
  | with_reducible refine rIsN_i ?_
  | with_reducible refine rNotN_i ?_
  | ((with_reducible refine' rLen_l ?h1 ?_); (case h1 => walk_at "hp"))
  | ((with_reducible refine' rLen_t ?h1 ?_); (case h1 => walk_at "hp"))
  | ((with_reducible refine' rIxU_l ?h1 ?h2 ?_); (case h1 => walk_at "hp"); (case h2 => first | exact rfl | assumption))
  | ((with_reducible refine' rIxU_t ?h1 ?h2 ?_); (case h1 => walk_at "hp"); (case h2 => first | exact rfl | assumption))
  | with_reducible refine tBM_i ?_
  | ((with_reducible refine' tyL ?h1 ?_); (case h1 => walk_at "hp"))
  | with_reducible refine runS_cons ?_
  | with_reducible refine runS_nil ?_
  | ((with_reducible refine run_next ?h1 ?_); (case h1 => walk_at "hp"))
  | with_reducible refine tYes_i ?_
  | ((with_reducible refine wipe_i ?h1 ?_); (case h1 => exact rfl))
  | ((with_reducible refine' gTup_i ?h1 ?h2 ?_); (case h1 => walk_at "hp"); (case h2 => exact rfl))
  | with_reducible refine gCons_i ?_
  | with_reducible refine gNil_i ?_
  | with_reducible refine gSub_i ?_
  | with_reducible refine tXF_i ?_
  | ((with_reducible refine tCell_i ?_); intro _ _ _ _ _)
  | with_reducible refine tLstRg1_i ?_
  | with_reducible refine tSl_i ?_
  | with_reducible refine tNoPart_i ?_
  | with_reducible refine tPart_i ?_
  | with_reducible refine PartI_i ?_
  )
local macro_rules | `(tactic| walk_at "rd") => `(tactic| repeat walk_at "rd1")
local macro_rules | `(tactic| walk_at "br") => `(tactic| (refine Br_d (fun _ => ?_) (fun _ => ?_) <;> first | (exfalso; omega) | walk_at "rd"))

section
variable {P : Program} {w : World} {K : PySem.W.Frag} {mg : Str → Option Value} {base : Heap} {t : Tab}
def sp_SizeError_init (K : PySem.W.Frag) (t : Tab) : Sp := spI1 "count" K
theorem len_SizeError_init : ∀ vs H Q E, sp_SizeError_init K t vs H Q E → vs.length = ["self", "count"].length := fun _ _ _ _ h => spI1_len h
theorem ok_SizeError_init (T : Txt K mg t) : FnOk P w K mg base (L2.CX P w) 1 t.a_SizeError_init t.fd_SizeError_init ["self", "count"] (sp_SizeError_init K t) := by
  refine T.F_SizeError_init.okX sc_SizeError_init (len_SizeError_init) (fun cdv A outer s H vs Q E hr h => ?_)
  have nd := sc_SizeError_init.nd
  refine ⟨_, (pss_one (ps_ost (pv 0) (pv 1))), ?_⟩
  exact spI1_body h
def sp_NumberError_init (K : PySem.W.Frag) (t : Tab) : Sp := spI1 "number" K
theorem len_NumberError_init : ∀ vs H Q E, sp_NumberError_init K t vs H Q E → vs.length = ["self", "number"].length := fun _ _ _ _ h => spI1_len h
theorem ok_NumberError_init (T : Txt K mg t) : FnOk P w K mg base (L2.CX P w) 1 t.a_NumberError_init t.fd_NumberError_init ["self", "number"] (sp_NumberError_init K t) := by
  refine T.F_NumberError_init.okX sc_NumberError_init (len_NumberError_init) (fun cdv A outer s H vs Q E hr h => ?_)
  have nd := sc_NumberError_init.nd
  refine ⟨_, (pss_one (ps_ost (pv 0) (pv 1))), ?_⟩
  exact spI1_body h
def sp_TwinError_init (K : PySem.W.Frag) (t : Tab) : Sp := spI1 "number" K
theorem len_TwinError_init : ∀ vs H Q E, sp_TwinError_init K t vs H Q E → vs.length = ["self", "number"].length := fun _ _ _ _ h => spI1_len h
theorem ok_TwinError_init (T : Txt K mg t) : FnOk P w K mg base (L2.CX P w) 1 t.a_TwinError_init t.fd_TwinError_init ["self", "number"] (sp_TwinError_init K t) := by
  refine T.F_TwinError_init.okX sc_TwinError_init (len_TwinError_init) (fun cdv A outer s H vs Q E hr h => ?_)
  have nd := sc_TwinError_init.nd
  refine ⟨_, (pss_one (ps_ost (pv 0) (pv 1))), ?_⟩
  exact spI1_body h
def sp_NodeError_init (K : PySem.W.Frag) (t : Tab) : Sp := spI1 "node" K
theorem len_NodeError_init : ∀ vs H Q E, sp_NodeError_init K t vs H Q E → vs.length = ["self", "node"].length := fun _ _ _ _ h => spI1_len h
theorem ok_NodeError_init (T : Txt K mg t) : FnOk P w K mg base (L2.CX P w) 1 t.a_NodeError_init t.fd_NodeError_init ["self", "node"] (sp_NodeError_init K t) := by
  refine T.F_NodeError_init.okX sc_NodeError_init (len_NodeError_init) (fun cdv A outer s H vs Q E hr h => ?_)
  have nd := sc_NodeError_init.nd
  refine ⟨_, (pss_one (ps_ost (pv 0) (pv 1))), ?_⟩
  exact spI1_body h
def sp_LegError_init (K : PySem.W.Frag) (t : Tab) : Sp := spI1 "leg" K
theorem len_LegError_init : ∀ vs H Q E, sp_LegError_init K t vs H Q E → vs.length = ["self", "leg"].length := fun _ _ _ _ h => spI1_len h
theorem ok_LegError_init (T : Txt K mg t) : FnOk P w K mg base (L2.CX P w) 1 t.a_LegError_init t.fd_LegError_init ["self", "leg"] (sp_LegError_init K t) := by
  refine T.F_LegError_init.okX sc_LegError_init (len_LegError_init) (fun cdv A outer s H vs Q E hr h => ?_)
  have nd := sc_LegError_init.nd
  refine ⟨_, (pss_one (ps_ost (pv 0) (pv 1))), ?_⟩
  exact spI1_body h
def sp_PrimeError_init (K : PySem.W.Frag) (t : Tab) : Sp := spI1 "prime" K
theorem len_PrimeError_init : ∀ vs H Q E, sp_PrimeError_init K t vs H Q E → vs.length = ["self", "prime"].length := fun _ _ _ _ h => spI1_len h
theorem ok_PrimeError_init (T : Txt K mg t) : FnOk P w K mg base (L2.CX P w) 1 t.a_PrimeError_init t.fd_PrimeError_init ["self", "prime"] (sp_PrimeError_init K t) := by
  refine T.F_PrimeError_init.okX sc_PrimeError_init (len_PrimeError_init) (fun cdv A outer s H vs Q E hr h => ?_)
  have nd := sc_PrimeError_init.nd
  refine ⟨_, (pss_one (ps_ost (pv 0) (pv 1))), ?_⟩
  exact spI1_body h
def sp_TextError_init (K : PySem.W.Frag) (t : Tab) : Sp := spI1 "line" K
theorem len_TextError_init : ∀ vs H Q E, sp_TextError_init K t vs H Q E → vs.length = ["self", "line"].length := fun _ _ _ _ h => spI1_len h
theorem ok_TextError_init (T : Txt K mg t) : FnOk P w K mg base (L2.CX P w) 1 t.a_TextError_init t.fd_TextError_init ["self", "line"] (sp_TextError_init K t) := by
  refine T.F_TextError_init.okX sc_TextError_init (len_TextError_init) (fun cdv A outer s H vs Q E hr h => ?_)
  have nd := sc_TextError_init.nd
  refine ⟨_, (pss_one (ps_ost (pv 0) (pv 1))), ?_⟩
  exact spI1_body h
def sp_ulaw_draws (K : PySem.W.Frag) (t : Tab) : Sp := fun vs H Q E => ∃ (ps : List Addr) (x_script : (List Int)) (x_count : Int) (v_script : V), vs = [v_script, (.int x_count)] ∧ (∀ x ∈ ps, H x ≠ none) ∧ (pFro K pInt).rep (dels H ps) v_script x_script ∧ ∃ (k : Unit → Prop) (e : PErr → Prop), w_ulaw_draws x_script x_count k e ∧ (∀ r, k r → RetK ps (pDraw K) H Q r) ∧ (∀ er, er.cls ∈ ([] : List Nat) → e er → ErrK ps t.cl H E er)
theorem len_ulaw_draws : ∀ vs H Q E, sp_ulaw_draws K t vs H Q E → vs.length = (["script", "count"] : List Str).length := by
  rintro vs H Q E ⟨_, _, _, _, rfl, _⟩
  rfl
theorem ok_ulaw_draws (T : Txt K mg t) : FnOk P w K mg base (L2.CX P w) 1 t.a_ulaw_draws t.fd_ulaw_draws ["script", "count"] (sp_ulaw_draws K t) := by
  refine T.F_ulaw_draws.okX sc_ulaw_draws len_ulaw_draws (fun cdv A outer s H vs Q E hr h => ?_)
  have nd := sc_ulaw_draws.nd
  refine ⟨_, (pss_cons (ps_set (i := 2) nd rfl (Or.inl rfl) (pe_lst pa_nil))
    (pss_cons (ps_for (passes_of rfl) rfl (pi_range1 (by rfl) T.n_range (pa_cons (pe_callB (call_min2D rfl) (by rfl) T.n_min (by decide +kernel) (pa_cons (pe_callB (call_lenK K) (by rfl) T.n_len (by decide +kernel) (pa_cons (pv 0) pa_nil)) (pa_cons (pe_int) pa_nil))) pa_nil)) (pg_name (i := 3) nd rfl (Or.inl rfl))
    (pss_cons (ps_set (i := 4) nd rfl (Or.inl rfl) (pe_ix (ix_UK K) (pv 0) (pv 3) (fun _ _ => rfl)))
    (pss_one (ps_if (pt_cmpR op_ge (pv 4) (pe_op op_pow (pe_int) (pe_int)) (by first | exact nomark _ | rfl)) (pss_one (ps_for (passes_of rfl) rfl (pi_range1 (by rfl) T.n_range (pa_cons (pe_int) pa_nil)) (pg_name (i := 5) nd rfl (Or.inl rfl))
    (pss_one (ps_if (pt_cmpR op_gt (pv 4) (pe_int) (by first | exact nomark _ | rfl)) (pss_cons (ps_expr (pe_bmK K PySem.F.plainAttrs_list PySem.F.slot_list_append PySem.F.type_list_append mt_append (pv 2) (pa_cons (pe_op op_modP (pe_callTy call_int1D (by rfl) T.n_int (by decide +kernel) (pa_cons (pv 4) pa_nil)) (pe_int)) pa_nil)))
    (pss_one (ps_set (i := 4) nd rfl (Or.inl rfl) (pe_op op_fdivP (pv 4) (pe_int))))) pss_nil)))) (pss_cons (ps_set (i := 6) nd rfl (Or.inl rfl) (pe_op op_modP (pe_callTy call_int1D (by rfl) T.n_int (by decide +kernel) (pa_cons (pv 4) pa_nil)) (pe_int)))
    (pss_cons (ps_expr (pe_bmK K PySem.F.plainAttrs_list PySem.F.slot_list_append PySem.F.type_list_append mt_append (pv 2) (pa_cons (pe_op op_modP (pv 6) (pe_int)) pa_nil)))
    (pss_one (ps_expr (pe_bmK K PySem.F.plainAttrs_list PySem.F.slot_list_append PySem.F.type_list_append mt_append (pv 2) (pa_cons (pe_op op_modP (pe_op op_fdivP (pe_op op_modP (pe_callTy call_int1D (by rfl) T.n_int (by decide +kernel) (pa_cons (pe_op (op_addUK K) (pe_op op_mulU (pv 6) (pe_int)) (pe_op op_mulU (pe_int) (pv 3))) pa_nil)) (pe_int)) (pe_int)) (pe_int)) pa_nil))))))))))
    (pss_cons (ps_set (i := 7) nd rfl (Or.inl rfl) (pe_op op_modP (pe_callTy call_int1D (by rfl) T.n_int (by decide +kernel) (pa_cons (pe_op (op_addUK K) (pe_op (op_addUK K) (pe_op op_mulU (pe_callB (cr_sumUK K rfl) (by rfl) T.n_sum (by decide +kernel) (pa_cons (pv 2) pa_nil)) (pe_int)) (pe_op op_mulU (pe_int) (pe_callB (call_lenK K) (by rfl) T.n_len (by decide +kernel) (pa_cons (pv 2) pa_nil)))) (pe_int)) pa_nil)) (pe_int)))
    (pss_cons (ps_for (passes_of rfl) rfl (pi_range1 (by rfl) T.n_range (pa_cons (pv 1) pa_nil)) (pg_name (i := 5) nd rfl (Or.inl rfl))
    (pss_cons (ps_set (i := 7) nd rfl (Or.inl rfl) (pe_op op_modP (pe_callTy call_int1D (by rfl) T.n_int (by decide +kernel) (pa_cons (pe_op (op_addUK K) (pe_op op_mulU (pv 7) (pe_int)) (pe_int)) pa_nil)) (pe_int)))
    (pss_one (ps_expr (pe_bmK K PySem.F.plainAttrs_list PySem.F.slot_list_append PySem.F.type_list_append mt_append (pv 2) (pa_cons (pe_op op_modP (pe_op op_fdivP (pv 7) (pe_int)) (pe_int)) pa_nil))))))
    (pss_one (ps_ret (pe_slice (sl_listK K) (pv 2) po_none (po_some (pv 1))))))))), ?_⟩
  obtain ⟨ps, ns, c, v_s, rfl, P0, hS0, k0, e0, hw, hk, he⟩ := h
  obtain ⟨⟨hc0', hc1⟩, hlen, hw⟩ := hw
  have hc0 : 0 ≤ c := by omega
  obtain ⟨a, vs0, rfl, hS1, hr0, _⟩ := hS0
  rw [hr0.imm] at hS1
  have hS := Same.seq Su hS1
  have k : ∀ H' p (xs : List Int), Same H H' → H p = none → H' p = some (.lst (xs.map V.int)) → (xs.length : Int) = c → Dg xs → Q (.ref p) H' := fun H' p xs s n e hl hd => hk () hw H' _ s ⟨p, rfl, xs, SqL.of (dels_at e (nin_of n P0)), by omega⟩
  refine tSeq_i (tAsg_i (tLst_i (tNil_i (new_i (by walk_at "side") fun r H1 nr s1 hr => ?_))))
  walk_at "rd"
  refine tFor_i (w1 ?_)
  walk_at "rd"
  refine W1_i (by split <;> simp <;> omega) ?_
  have hmin : (if (63 : Int) < ((ns.map V.int).length : Nat) then (63 : Int) else ((ns.map V.int).length : Nat)).toNat = ns.length := by
    rw [List.length_map]
    split <;> omega
  rw [hmin]
  refine forS srcR (fun i σ H' => ∃ (R : List Int) (v3 v4 v5 v6 : Option V), σ = [some (.ref a), some (.int c), some (.ref r), v3, v4, v5, v6, none] ∧ Same H H' ∧ H' r = some (.lst (R.map V.int)) ∧ R.length ≤ 60 * i ∧ Dg R) ⟨[], none, none, none, none, rfl, s1, hr, by simp, dg_nil⟩ (fun _ _ _ _ _ => trivial) ?_ ?_
  · rintro i σ H2 x H3 hi ⟨R, v3, v4, v5, v6, rfl, s2, hr2, hl, hd⟩ ⟨rfl, rfl⟩
    have hget : (ns.map V.int)[i]? = some (.int ns[i]) := by rw [List.getElem?_map, List.getElem?_eq_getElem hi]; rfl
    walk_at "rd"
    refine rIxU_l (s2.seq hS) (at_of (j := i) (by omega) hget) ?_
    walk_at "rd"
    refine Br_d (fun c1 => ?_) (fun c1 => ?_)
    · walk_at "rd"
      refine tFor_i (w1 ?_)
      walk_at "rd"
      refine W1_i (by omega) ?_
      refine forS srcR (fun j σ H' => ∃ (R : List Int) (z : Int) (v5 : Option V), σ = [some (.ref a), some (.int c), some (.ref r), some (.int (0 + (i : Nat))), some (.int z), v5, v6, none] ∧ Same H H' ∧ H' r = some (.lst (R.map V.int)) ∧ R.length ≤ 60 * i + j ∧ Dg R) ⟨R, ns[i], v5, rfl, s2, hr2, by omega, hd⟩ (fun _ _ _ _ _ => trivial) ?_ ?_
      · rintro j σ H4 x H5 hj ⟨R, z, v5, rfl, s4, hr4, hl, hd⟩ ⟨rfl, rfl⟩
        have hj' : j < 60 := hj
        walk_at "rd"
        refine Br_d (fun c2 => ?_) (fun c2 => ?_)
        · walk_at "rd"
          refine append_ints hr4 (by omega) fun H5 ch e s5 => ?_
          walk_at "rd"
          exact ⟨_, _, _, rfl, s5 _ s4 nr, e, by rw [List.length_append, List.length_singleton]; omega, dg_app hd (by omega)⟩
        · walk_at "rd"
          exact ⟨R, z, _, rfl, s4, hr4, by omega, hd⟩
      · rintro σ H4 ⟨R, z, v5, rfl, s4, hr4, hl, hd⟩
        have hl' : R.length ≤ 60 * i + 60 := hl
        exact ⟨R, _, _, _, _, rfl, s4, hr4, by omega, hd⟩
    · walk_at "rd"
      refine append_ints hr2 (by omega) fun H5 ch e s5 => ?_
      walk_at "rd"
      refine append_ints e (by rw [List.length_append, List.length_singleton]; omega) fun H6 ch6 e6 s6 => ?_
      exact ⟨_, _, _, _, _, rfl, s6 _ (s5 _ s2 nr) nr, e6, by rw [List.length_append, List.length_append, List.length_singleton, List.length_singleton]; omega, dg_app (dg_app hd (by omega)) (by omega)⟩
  · rintro σ H2 ⟨R, v3, v4, v5, v6, rfl, s2, hr2, hl, hd⟩
    walk_at "rd"
    refine .inl (rSum_i R (SqL.of hr2) ?_)
    walk_at "rd"
    refine tFor_i (w1 ?_)
    walk_at "rd"
    refine W1_i (by omega) ?_
    refine forS srcR (fun j σ H' => ∃ (R' : List Int) (z : Int) (v3 v4 v5 v6 : Option V), σ = [some (.ref a), some (.int c), some (.ref r), v3, v4, v5, v6, some (.int z)] ∧ Same H H' ∧ H' r = some (.lst (R'.map V.int)) ∧ R'.length = R.length + j ∧ Dg R') ⟨R, _, _, _, _, _, rfl, s2, hr2, by omega, hd⟩ (fun _ _ _ _ _ => trivial) ?_ ?_
    · rintro j σ H4 x H5 hj ⟨R', z, v3, v4, v5, v6, rfl, s4, hr4, hl4, hd4⟩ ⟨rfl, rfl⟩
      walk_at "rd"
      refine append_ints hr4 (by omega) fun H5 ch e s5 => ?_
      exact ⟨_, _, _, _, _, _, rfl, s5 _ s4 nr, e, by rw [List.length_append, List.length_singleton]; omega, dg_app hd4 (by omega)⟩
    · rintro σ H4 ⟨R', z, v3, v4, v5, v6, rfl, s4, hr4, hl4, hd4⟩
      walk_at "rd"
      refine rSlL_i (SqL.of hr4) fun p H5 np s5 e5 => ?_
      rw [cut_take hc0 (by omega)] at e5
      exact k H5 p _ (s4.trans s5) (s4.free np) e5 (by rw [List.length_take]; omega) (dg_take hd4)
def sp_ulaw_next (K : PySem.W.Frag) (t : Tab) : Sp := fun vs H Q E => ∃ (ps : List Addr) (x_dr : Unit) (x_at : Unit) (x_many : Int) (v_dr : V) (v_at : V), vs = [v_dr, v_at, (.int x_many)] ∧ (∀ x ∈ ps, H x ≠ none) ∧ (pDraw K).rep (dels H ps) v_dr x_dr ∧ pCell.rep (dels H ps) v_at x_at ∧ ∃ (k : Int → Prop) (e : PErr → Prop), w_ulaw_next x_dr x_at x_many k e ∧ (∀ r, k r → RetI V.int H Q r) ∧ (∀ er, er.cls ∈ ([] : List Nat) → e er → ErrK ps t.cl H E er)
theorem len_ulaw_next : ∀ vs H Q E, sp_ulaw_next K t vs H Q E → vs.length = (["dr", "at", "many"] : List Str).length := by
  rintro vs H Q E ⟨_, _, _, _, _, _, rfl, _⟩
  rfl
theorem ok_ulaw_next (T : Txt K mg t) : FnOk P w K mg base (L2.CX P w) 1 t.a_ulaw_next t.fd_ulaw_next ["dr", "at", "many"] (sp_ulaw_next K t) := by
  refine T.F_ulaw_next.okX sc_ulaw_next len_ulaw_next (fun cdv A outer s H vs Q E hr h => ?_)
  have nd := sc_ulaw_next.nd
  refine ⟨_, (pss_cons (ps_asg (pe_op (op_addUK K) (pe_ix (ix_UK K) (pv 1) (pe_int) (fun _ _ => rfl)) (pe_int)) (pg_sub (pv 1) (pe_int) set_U))
    (pss_one (ps_ret (pe_op op_modP (pe_callTy call_int1D (by rfl) T.n_int (by decide +kernel) (pa_cons (pe_ix (ix_UK K) (pv 0) (pe_op op_modP (pe_op op_sub (pe_ix (ix_UK K) (pv 1) (pe_int) (fun _ _ => rfl)) (pe_int)) (pe_callB (call_lenK K) (by rfl) T.n_len (by decide +kernel) (pa_cons (pv 0) pa_nil))) (fun _ _ => rfl)) pa_nil)) (pv 2))))), ?_⟩
  obtain ⟨ps, x_dr, x_at, m, v_dr, v_at, rfl, P0, h_dr, h_at, k0, e, hw, hk, he⟩ := h
  obtain ⟨hm, hw⟩ := hw
  obtain ⟨c, a, rfl, rfl, ⟨⟨xs, h1, h2⟩, h3⟩⟩ := drawK Su h_dr h_at
  walk_at "rd"
  refine rIxU_c h3 fun n => ?_
  walk_at "rd"
  refine setC_i h3 ?_
  walk_at "rd"
  refine rIxU_c h3 fun n => ?_
  walk_at "rd"
  have hl : (0 : Int) < ((xs.map V.int).length : Nat) := by rw [List.length_map]; omega
  refine rModP_i hl ?_
  walk_at "rd"
  have b0 := Int.emod_nonneg (n - 1) (show (((xs.map V.int).length : Nat) : Int) ≠ 0 by omega)
  have b1 := Int.emod_lt_of_pos (n - 1) hl
  rw [List.length_map] at b0 b1 ⊢
  have hget : (xs.map V.int)[((n - 1) % (xs.length : Nat)).toNat]? = some (.int (xs[((n - 1) % (xs.length : Nat)).toNat]'(by omega))) := by
    rw [List.getElem?_map, List.getElem?_eq_getElem]; rfl
  refine rIxU_l h1 (at_of (by omega) hget) ?_
  walk_at "rd"
  exact hk _ (hw _ (Int.emod_nonneg _ (by omega)) (Int.emod_lt_of_pos _ hm)) _ (Same.refl _)
def sp_ulaw_prime (K : PySem.W.Frag) (t : Tab) : Sp := fun vs H Q E => ∃ (ps : List Addr) (x_dr : Unit) (x_at : Unit) (v_dr : V) (v_at : V), vs = [v_dr, v_at] ∧ (∀ x ∈ ps, H x ≠ none) ∧ (pDraw K).rep (dels H ps) v_dr x_dr ∧ pCell.rep (dels H ps) v_at x_at ∧ ∃ (k : Int → Prop) (e : PErr → Prop), w_ulaw_prime x_dr x_at k e ∧ (∀ r, k r → RetI V.int H Q r) ∧ (∀ er, er.cls ∈ ([] : List Nat) → e er → ErrK ps t.cl H E er)
theorem len_ulaw_prime : ∀ vs H Q E, sp_ulaw_prime K t vs H Q E → vs.length = (["dr", "at"] : List Str).length := by
  rintro vs H Q E ⟨_, _, _, _, _, rfl, _⟩
  rfl
theorem ok_ulaw_prime (T : Txt K mg t) : FnOk P w K mg base (L2.CX P w) 2 t.a_ulaw_prime t.fd_ulaw_prime ["dr", "at"] (sp_ulaw_prime K t) := by
  have G_ulaw_next := ok_ulaw_next (P := P) (w := w) (base := base) T
  refine T.F_ulaw_prime.okX sc_ulaw_prime len_ulaw_prime (fun cdv A outer s H vs Q E hr h => ?_)
  have nd := sc_ulaw_prime.nd
  refine ⟨_, (pss_cons (ps_if (pt_cmpR op_gt (pe_callS G_ulaw_next (hr.mono (by decide)) (by rfl) T.g_ulaw_next T.F_ulaw_next.kp T.b_ulaw_next (fun σ => passAt (takes_of rfl rfl rfl rfl) σ) (pa_cons (pv 0) (pa_cons (pv 1) (pa_cons (pe_int) pa_nil)))) (pe_int) (by first | exact nomark _ | rfl)) (pss_one (ps_ret (pe_ix (ix_UK K) (pe_lst (pa_cons (pe_int) (pa_cons (pe_int) (pa_cons (pe_int) (pa_cons (pe_int) pa_nil))))) (pe_callS G_ulaw_next (hr.mono (by decide)) (by rfl) T.g_ulaw_next T.F_ulaw_next.kp T.b_ulaw_next (fun σ => passAt (takes_of rfl rfl rfl rfl) σ) (pa_cons (pv 0) (pa_cons (pv 1) (pa_cons (pe_int) pa_nil)))) (fun _ _ => rfl)))) pss_nil)
    (pss_cons (ps_set (i := 2) nd rfl (Or.inr rfl) (pe_op (op_addUK K) (pe_int) (pe_callS G_ulaw_next (hr.mono (by decide)) (by rfl) T.g_ulaw_next T.F_ulaw_next.kp T.b_ulaw_next (fun σ => passAt (takes_of rfl rfl rfl rfl) σ) (pa_cons (pv 0) (pa_cons (pv 1) (pa_cons (pe_int) pa_nil))))))
    (pss_cons (ps_for (passes_of rfl) rfl (pi_range1 (by rfl) T.n_range (pa_cons (pe_int) pa_nil)) (pg_name (i := 3) nd rfl (Or.inl rfl))
    (pss_cons (ps_if (pt_cmpR (op_eqUK K hr) (pe_lc (own := [("d", 4)]) (g := gName 4) rfl nd (pi_range2 (by rfl) T.n_range (pa_cons (pe_int) (pa_cons (pe_int) pa_nil))) (blkOk_by (N := ["dr", "at", "most", "step", "d"]) (sc := defScope s_ulaw_prime) (by decide +kernel)) (fun _ _ _ _ _ => (pg_name (i := 4) nd rfl (Or.inl rfl))) (fun _ _ _ _ _ => (pts_one (PW.pt (pw_and (pt_cmpR op_lt (pv 4) (pv 2) (by first | exact nomark _ | rfl)) (pw_and1 (pt_cmpR (op_eqUK K hr) (pe_op op_modP (pe_callTy call_int1D (by rfl) T.n_int (by decide +kernel) (pa_cons (pv 2) pa_nil)) (pv 4)) (pe_int) (by first | exact nomark _ | rfl))))))) (fun _ _ _ _ _ => (pv 4))) (pe_lst pa_nil) (by first | exact nomark _ | rfl)) (pss_one (ps_ret (pv 2))) pss_nil)
    (pss_one (ps_set (i := 2) nd rfl (Or.inr rfl) (pe_op op_sub (pv 2) (pe_int))))))
    (pss_one (ps_ret (pe_int)))))), ?_⟩
  obtain ⟨ps, x_dr, x_at, v_dr, v_at, rfl, P0, h_dr, h_at, k, e, hw, hk, he⟩ := h
  unfold w_ulaw_prime at hw
  refine tSeq_j (tIfS_j (tTest_i (tOp_i (tCallS_i (tCons_i (tVar_i (v := v_dr) rfl (tCons_i (tVar_i (v := v_at) rfl (tCons_i (tC_i (tNil_i (?_))))))))))))
  refine ⟨ps, x_dr, x_at, (4 : Int), v_dr, v_at, rfl, P0, h_dr, h_at, _, _, hw, fun r1 hw H2 s3 => ?_, (fun er hc hw => errUp (Same.refl H) ss_refl (he er (absurd hc (List.not_mem_nil)) hw))⟩
  have P4 := dom_up s3 P0
  have T5 := Same.trans (Same.refl H) s3
  have S6 : Same (dels H ps) (dels H2 ps) := Sd ps s3
  refine tC_i (rI0_i (IsBl_i (?_)))
  refine Br_two hw (fun c7 hw => ?_) (fun c7 hw => ?_)
  · refine tRet_j (tOp_i (tLst_i (tCons_i (tC_i (tCons_i (tC_i (tCons_i (tC_i (tCons_i (tC_i (tNil_i (new_i (Nat.le_of_ble_eq_true rfl) (fun q8 H9 n10 s11 e12 => ?_)))))))))))))
    have r13 : AllR pInt (dels H2 ps) [(.int (3 : Int)), (.int (5 : Int)), (.int (7 : Int)), (.int (11 : Int))] ([(3 : Int), (5 : Int), (7 : Int), (11 : Int)] : List Int) := (.cons rfl (.cons rfl (.cons rfl (.cons rfl .nil))))
    have l14 : ([(3 : Int), (5 : Int), (7 : Int), (11 : Int)] : List Int).length ≤ LIM := (Nat.le_of_ble_eq_true rfl)
    have m15 := nin_of n10 P4
    have z16 := Same.free T5 n10
    have P17 := dom_up s11 P4
    have T18 := Same.trans T5 s11
    have P19 := dom_new e12 P17
    have S20 : Same (dels H2 ps) (dels H9 (q8 :: ps)) := Sn ps s11 n10
    have h21 : (pList pInt).rep (dels H9 ps) (.ref q8) ([(3 : Int), (5 : Int), (7 : Int), (11 : Int)] : List Int) := oFrzG e12 m15 (ss_skip ss_refl) (AllR.mono S20 r13) l14
    have P22 := dom_ss (ss_skip ss_refl) P19
    have S23 : Same (dels H9 (q8 :: ps)) (dels H9 ps) := Ss (ss_skip ss_refl)
    refine tCallS_i (tCons_i (tVar_i (v := v_dr) rfl (tCons_i (tVar_i (v := v_at) rfl (tCons_i (tC_i (tNil_i (?_))))))))
    refine ⟨ps, x_dr, x_at, (4 : Int), v_dr, v_at, rfl, P22, ((pDraw K).mono (S6.trans (S20.trans S23)) h_dr), (pCell.mono (S6.trans (S20.trans S23)) h_at), _, _, hw, fun r24 hw H25 s26 => ?_, (fun er hc hw => errUp T18 ss_refl (he er (absurd hc (List.not_mem_nil)) hw))⟩
    have P27 := dom_up s26 P22
    have T28 := Same.trans T18 s26
    have S29 : Same (dels H9 ps) (dels H25 ps) := Sd ps s26
    refine ixI (sqL (Same.trans S29 Su) h21) hw.1 (?_)
    exact hk _ hw.2 _ T28
  · refine tNext_j (tSeq_j (tAsg_j (tOp_i (tC_i (tCallS_i (tCons_i (tVar_i (v := v_dr) rfl (tCons_i (tVar_i (v := v_at) rfl (tCons_i (tC_i (tNil_i (?_)))))))))))))
    refine ⟨ps, x_dr, x_at, (995 : Int), v_dr, v_at, rfl, P4, ((pDraw K).mono S6 h_dr), (pCell.mono S6 h_at), _, _, hw, fun r30 hw H31 s32 => ?_, (fun er hc hw => errUp T5 ss_refl (he er (absurd hc (List.not_mem_nil)) hw))⟩
    have P33 := dom_up s32 P4
    have T34 := Same.trans T5 s32
    have S35 : Same (dels H2 ps) (dels H31 ps) := Sd ps s32
    refine rAddU_i (?_)
    refine asgIL (f := V.int) (e := ((3 : Int) + r30)) (g := fun y36 => [some v_dr, some v_at, some (.int y36), none, none]) hw (fun _ => rfl) (fun y36 hw => ?_)
    refine tSeq_j (tFor_j (w1 (tCons_i (tC_i (tNil_i (rgW1 hw.1 (?_)))))))
    refine forR0 (s0 := y36) hw.2 (fun (s111 : Int) (σ113 : L2.St) (H112 : Hp) => ∃ (j114 : Option V), σ113 = [some v_dr, some v_at, some (.int s111), j114, none] ∧ Same (dels H31 ps) (dels H112 ps) ∧ (∀ x ∈ ps, H112 x ≠ none) ∧ Same H H112 ∧ True) ⟨_, rfl, (Same.refl _), P33, T34, trivial⟩ (fun d120 s111 σ113 H112 nx118 hr hw => ?_) (fun s124 σ126 H125 hr hw => ?_)
    · obtain ⟨j114, rfl, S117, P115, T116, _⟩ := hr
      refine gN (σ' := [some v_dr, some v_at, some (.int s111), some (.int d120), none]) rfl (tSeq_j (tIfS_j (tTest_i (tOp_i (tLc_i (w2 (tCons_i (tC_i (tCons_i (tC_i (tNil_i (rgW2 hw.1 (?_)))))))))))))
      refine lcR (pb := pInt) (ps := ps) hw.2.2 hw.2.1 P115 (fun q131 d132 H134 n136 s137 ⟨acc138, e139⟩ nx141 hw Y142 N143 hY144 hN145 => ?_) (fun q163 H164 acc165 zs166 n167 s168 e169 r170 l171 hw => ?_)
      · have m154 := nin_of n136 P115
        have z155 := Same.free T116 n136
        have P156 := dom_up s137 P115
        have T157 := Same.trans T116 s137
        have P158 := dom_new e139 P156
        have S159 : Same (dels H112 ps) (dels H134 (q131 :: ps)) := Sn ps s137 n136
        refine gN (σ' := [some v_dr, some v_at, some (.int s111), some (.int d120), some (.int d132)]) rfl (wipe_i rfl (tAndP (b := (decide (d132 < s111))) (c := (decide ((s111 % d132) = (0 : Int)))) (fun R hR => tTest_i (tOp_i (tVar_i (v := (.int d132)) rfl (tVar_i (v := (.int s111)) rfl (rI0_i (IsBl_i (hR))))))) (fun g161 R hR => tTest_i (tOp_i (tOp_i (tCB_i (tCons_i (tVar_i (v := (.int s111)) rfl (tNil_i (rInt1_i (tVar_i (v := (.int d132)) rfl (rModP_i (hw.1 g161) (tC_i (rEqU_i (IsBl_i (hR)))))))))))))) (?_)))
        refine Br_two hw.2 (fun c162 hw => ?_) (fun c162 hw => ?_)
        · refine tVar_i (v := (.int d132)) rfl (?_)
          exact hY144 d132 _ _ (Same.refl H134) rfl hw
        · exact hN145 _ (Same.refl H134) hw
      have m172 := nin_of n167 P115
      have z173 := Same.free T116 n167
      have P174 := dom_up s168 P115
      have T175 := Same.trans T116 s168
      have P176 := dom_new e169 P174
      have S177 : Same (dels H112 ps) (dels H164 (q163 :: ps)) := Sn ps s168 n167
      have h178 : (pList pInt).rep (dels H164 ps) (.ref q163) zs166 := oFrzG e169 m172 (ss_skip ss_refl) r170 l171
      have P179 := dom_ss (ss_skip ss_refl) P176
      have S180 : Same (dels H164 (q163 :: ps)) (dels H164 ps) := Ss (ss_skip ss_refl)
      refine tLst_i (tNil_i (new_i (Nat.le_of_ble_eq_true rfl) (fun q181 H182 n183 s184 e185 => ?_)))
      have r186 : AllR pInt (dels H164 ps) [] ([] : List Int) := .nil
      have l187 : ([] : List Int).length ≤ LIM := (Nat.le_of_ble_eq_true rfl)
      have m188 := nin_of n183 P179
      have z189 := Same.free T175 n183
      have P190 := dom_up s184 P179
      have T191 := Same.trans T175 s184
      have P192 := dom_new e185 P190
      have S193 : Same (dels H164 ps) (dels H182 (q181 :: ps)) := Sn ps s184 n183
      have h194 : (pList pInt).rep (dels H182 ps) (.ref q181) ([] : List Int) := oFrzG e185 m188 (ss_skip ss_refl) (AllR.mono S193 r186) l187
      have P195 := dom_ss (ss_skip ss_refl) P192
      have S196 : Same (dels H182 (q181 :: ps)) (dels H182 ps) := Ss (ss_skip ss_refl)
      refine eqS (datList K (datInt K)) (((pList pInt)).mono Su ((pList pInt).mono (S193.trans S196) h178)) (((pList pInt)).mono Su h194) (fun _ _ => trivial) (fun _ _ => trivial) (IsBl_i (?_))
      refine Br_two hw (fun c197 hw => ?_) (fun c197 hw => ?_)
      · refine tRet_j (tVar_i (v := (.int s111)) rfl (?_))
        exact hk _ hw _ T191
      · refine tNext_j (tAsg_j (tOp_i (tVar_i (v := (.int s111)) rfl (tC_i (rI0_i (?_))))))
        refine asgIL (f := V.int) (e := (s111 - (1 : Int))) (g := fun y198 => [some v_dr, some v_at, some (.int y198), some (.int d120), none]) hw (fun _ => rfl) (fun y198 hw => ?_)
        exact nxS_i (s := (y198)) ⟨_, rfl, (S117.trans (S177.trans (S180.trans (S193.trans S196)))), P195, T191, trivial⟩ hw
    obtain ⟨j127, rfl, S130, P128, T129, _⟩ := hr
    refine tRet_j (tC_i (?_))
    exact hk _ hw _ T129
def sp_ulaw_residue (K : PySem.W.Frag) (t : Tab) : Sp := fun vs H Q E => ∃ (ps : List Addr) (x_dr : Unit) (x_at : Unit) (x_p : Int) (v_dr : V) (v_at : V), vs = [v_dr, v_at, (.int x_p)] ∧ (∀ x ∈ ps, H x ≠ none) ∧ (pDraw K).rep (dels H ps) v_dr x_dr ∧ pCell.rep (dels H ps) v_at x_at ∧ ∃ (k : Int → Prop) (e : PErr → Prop), w_ulaw_residue x_dr x_at x_p k e ∧ (∀ r, k r → RetI V.int H Q r) ∧ (∀ er, er.cls ∈ ([] : List Nat) → e er → ErrK ps t.cl H E er)
theorem len_ulaw_residue : ∀ vs H Q E, sp_ulaw_residue K t vs H Q E → vs.length = (["dr", "at", "p"] : List Str).length := by
  rintro vs H Q E ⟨_, _, _, _, _, _, rfl, _⟩
  rfl
theorem ok_ulaw_residue (T : Txt K mg t) : FnOk P w K mg base (L2.CX P w) 2 t.a_ulaw_residue t.fd_ulaw_residue ["dr", "at", "p"] (sp_ulaw_residue K t) := by
  have G_ulaw_next := ok_ulaw_next (P := P) (w := w) (base := base) T
  refine T.F_ulaw_residue.okX sc_ulaw_residue len_ulaw_residue (fun cdv A outer s H vs Q E hr h => ?_)
  have nd := sc_ulaw_residue.nd
  refine ⟨_, (pss_cons (ps_if (pt_cmpR (op_eqUK K hr) (pe_callS G_ulaw_next (hr.mono (by decide)) (by rfl) T.g_ulaw_next T.F_ulaw_next.kp T.b_ulaw_next (fun σ => passAt (takes_of rfl rfl rfl rfl) σ) (pa_cons (pv 0) (pa_cons (pv 1) (pa_cons (pe_int) pa_nil)))) (pe_int) (by first | exact nomark _ | rfl)) (pss_one (ps_ret (pe_int))) pss_nil)
    (pss_one (ps_ret (pe_callS G_ulaw_next (hr.mono (by decide)) (by rfl) T.g_ulaw_next T.F_ulaw_next.kp T.b_ulaw_next (fun σ => passAt (takes_of rfl rfl rfl rfl) σ) (pa_cons (pv 0) (pa_cons (pv 1) (pa_cons (pv 2) pa_nil))))))), ?_⟩
  obtain ⟨ps, x_dr, x_at, x_p, v_dr, v_at, rfl, P0, h_dr, h_at, k, e, hw, hk, he⟩ := h
  unfold w_ulaw_residue at hw
  refine tSeq_j (tIfS_j (tTest_i (tOp_i (tCallS_i (tCons_i (tVar_i (v := v_dr) rfl (tCons_i (tVar_i (v := v_at) rfl (tCons_i (tC_i (tNil_i (?_))))))))))))
  refine ⟨ps, x_dr, x_at, (4 : Int), v_dr, v_at, rfl, P0, h_dr, h_at, _, _, hw, fun r1 hw H2 s3 => ?_, (fun er hc hw => errUp (Same.refl H) ss_refl (he er (absurd hc (List.not_mem_nil)) hw))⟩
  have P4 := dom_up s3 P0
  have T5 := Same.trans (Same.refl H) s3
  have S6 : Same (dels H ps) (dels H2 ps) := Sd ps s3
  refine tC_i (rEqU_i (IsBl_i (?_)))
  refine Br_two hw (fun c7 hw => ?_) (fun c7 hw => ?_)
  · refine tRet_j (tC_i (?_))
    exact hk _ hw _ T5
  · refine tNext_j (tRet_j (tCallS_i (tCons_i (tVar_i (v := v_dr) rfl (tCons_i (tVar_i (v := v_at) rfl (tCons_i (tVar_i (v := (.int x_p)) rfl (tNil_i (?_))))))))))
    refine ⟨ps, x_dr, x_at, x_p, v_dr, v_at, rfl, P4, ((pDraw K).mono S6 h_dr), (pCell.mono S6 h_at), _, _, hw, fun r8 hw H9 s10 => ?_, (fun er hc hw => errUp T5 ss_refl (he er (absurd hc (List.not_mem_nil)) hw))⟩
    have P11 := dom_up s10 P4
    have T12 := Same.trans T5 s10
    have S13 : Same (dels H2 ps) (dels H9 ps) := Sd ps s10
    exact hk _ hw _ T12
def sp_ulaw_ends_left (K : PySem.W.Frag) (t : Tab) : Sp := fun vs H Q E => ∃ (ps : List Addr) (x_way : Str) (x_n : Int), vs = [(.str x_way), (.int x_n)] ∧ (∀ x ∈ ps, H x ≠ none) ∧ ∃ (k : Int → Prop) (e : PErr → Prop), w_ulaw_ends_left x_way x_n k e ∧ (∀ r, k r → RetI V.int H Q r) ∧ (∀ er, er.cls ∈ ([] : List Nat) → e er → ErrK ps t.cl H E er)
theorem len_ulaw_ends_left : ∀ vs H Q E, sp_ulaw_ends_left K t vs H Q E → vs.length = (["way", "n"] : List Str).length := by
  rintro vs H Q E ⟨_, _, _, rfl, _⟩
  rfl
theorem ok_ulaw_ends_left (T : Txt K mg t) : FnOk P w K mg base (L2.CX P w) 1 t.a_ulaw_ends_left t.fd_ulaw_ends_left ["way", "n"] (sp_ulaw_ends_left K t) := by
  refine T.F_ulaw_ends_left.okX sc_ulaw_ends_left len_ulaw_ends_left (fun cdv A outer s H vs Q E hr h => ?_)
  have nd := sc_ulaw_ends_left.nd
  refine ⟨_, (pss_cons (ps_if (pt_cmpR (op_eqUK K hr) (pv 0) (pe_str) (by first | exact nomark _ | rfl)) (pss_one (ps_ret (pe_op op_sub (pv 1) (pe_int)))) pss_nil)
    (pss_cons (ps_if (pt_cmpR (op_eqUK K hr) (pv 0) (pe_str) (by first | exact nomark _ | rfl)) (pss_one (ps_ret (pe_op op_sub (pv 1) (pe_int)))) pss_nil)
    (pss_one (ps_ret (pv 1))))), ?_⟩
  obtain ⟨ps, x_way, x_n, rfl, P0, k, e, hw, hk, he⟩ := h
  unfold w_ulaw_ends_left at hw
  refine tSeq_j (tIfS_j (tTest_i (tOp_i (tVar_i (v := (.str x_way)) rfl (tC_i (rEqU_s (IsBl_i (?_))))))))
  refine Br_two hw (fun c1 hw => ?_) (fun c1 hw => ?_)
  · refine tRet_j (tOp_i (tVar_i (v := (.int x_n)) rfl (tC_i (rI0_i (?_)))))
    exact hk _ hw _ (Same.refl H)
  · refine tNext_j (tSeq_j (tIfS_j (tTest_i (tOp_i (tVar_i (v := (.str x_way)) rfl (tC_i (rEqU_s (IsBl_i (?_)))))))))
    refine Br_two hw (fun c2 hw => ?_) (fun c2 hw => ?_)
    · refine tRet_j (tOp_i (tVar_i (v := (.int x_n)) rfl (tC_i (rI0_i (?_)))))
      exact hk _ hw _ (Same.refl H)
    · refine tNext_j (tRet_j (tVar_i (v := (.int x_n)) rfl (?_)))
      exact hk _ hw _ (Same.refl H)
def sp_ulaw_bit_row (K : PySem.W.Frag) (t : Tab) : Sp := fun vs H Q E => ∃ (ps : List Addr) (x_n : Int) (x_mask : Int), vs = [(.int x_n), (.int x_mask)] ∧ (∀ x ∈ ps, H x ≠ none) ∧ ∃ (k : (List Int) → Prop) (e : PErr → Prop), w_ulaw_bit_row x_n x_mask k e ∧ (∀ r, k r → RetO ps pInt H Q r) ∧ (∀ er, er.cls ∈ ([] : List Nat) → e er → ErrK ps t.cl H E er)
theorem len_ulaw_bit_row : ∀ vs H Q E, sp_ulaw_bit_row K t vs H Q E → vs.length = (["n", "mask"] : List Str).length := by
  rintro vs H Q E ⟨_, _, _, rfl, _⟩
  rfl
theorem ok_ulaw_bit_row (T : Txt K mg t) : FnOk P w K mg base (L2.CX P w) 1 t.a_ulaw_bit_row t.fd_ulaw_bit_row ["n", "mask"] (sp_ulaw_bit_row K t) := by
  refine T.F_ulaw_bit_row.okX sc_ulaw_bit_row len_ulaw_bit_row (fun cdv A outer s H vs Q E hr h => ?_)
  have nd := sc_ulaw_bit_row.nd
  refine ⟨_, (pss_one (ps_ret (pe_lc (own := [("j", 2)]) (g := gName 2) (tt := tYes) rfl nd (pi_range1 (by rfl) T.n_range (pa_cons (pv 0) pa_nil)) (blkOk_by (N := ["n", "mask", "j"]) (sc := defScope s_ulaw_bit_row) (by decide +kernel)) (fun _ _ _ _ _ => (pg_name (i := 2) nd rfl (Or.inl rfl))) (fun _ _ _ _ _ => pts_nil) (fun _ _ _ _ _ => (pe_op op_and (pe_op op_shr (pv 1) (pv 2)) (pe_int)))))), ?_⟩
  obtain ⟨ps, x_n, x_mask, rfl, P0, k, e, hw, hk, he⟩ := h
  unfold w_ulaw_bit_row at hw
  refine tRet_j (tLc_i (w1 (tCons_i (tVar_i (v := (.int x_n)) rfl (tNil_i (rgW1 hw.1 (?_)))))))
  refine lcR0 (pb := pInt) (ps := ps) hw.2.2 hw.2.1 P0 (fun q1 d2 H4 n6 s7 ⟨acc8, e9⟩ nx11 hw Y12 N13 hY14 hN15 => ?_) (fun q28 H29 acc30 zs31 n32 s33 e34 r35 l36 hw => ?_)
  · have m22 := nin_of n6 P0
    have z23 := Same.free (Same.refl H) n6
    have P24 := dom_up s7 P0
    have T25 := Same.trans (Same.refl H) s7
    have P26 := dom_new e9 P24
    have S27 : Same (dels H ps) (dels H4 (q1 :: ps)) := Sn ps s7 n6
    refine gN (σ' := [some (.int x_n), some (.int x_mask), some (.int d2)]) rfl (wipe_i rfl (tYes_i (Br_t (tOp_i (tOp_i (tVar_i (v := (.int x_mask)) rfl (tVar_i (v := (.int d2)) rfl (rI_i (C := fun _ j => 0 ≤ j) hw.1 (tC_i (rI0_i (?_)))))))))))
    exact hY14 (PySem.Builtin.bitAnd (x_mask / 2 ^ Int.toNat d2) (1 : Int)) _ _ (Same.refl H4) rfl hw.2
  have m37 := nin_of n32 P0
  have z38 := Same.free (Same.refl H) n32
  have P39 := dom_up s33 P0
  have T40 := Same.trans (Same.refl H) s33
  have P41 := dom_new e34 P39
  have S42 : Same (dels H ps) (dels H29 (q28 :: ps)) := Sn ps s33 n32
  exact hk _ hw _ _ _ T40 z38 e34 r35 l36
def sp_ulaw_lot_of (K : PySem.W.Frag) (t : Tab) : Sp := fun vs H Q E => ∃ (ps : List Addr) (x_bits : (List Int)) (v_bits : V), vs = [v_bits] ∧ (∀ x ∈ ps, H x ≠ none) ∧ (pList pInt).rep (dels H ps) v_bits x_bits ∧ ∃ (k : Int → Prop) (e : PErr → Prop), w_ulaw_lot_of x_bits k e ∧ (∀ r, k r → RetI V.int H Q r) ∧ (∀ er, er.cls ∈ ([] : List Nat) → e er → ErrK ps t.cl H E er)
theorem len_ulaw_lot_of : ∀ vs H Q E, sp_ulaw_lot_of K t vs H Q E → vs.length = (["bits"] : List Str).length := by
  rintro vs H Q E ⟨_, _, _, rfl, _⟩
  rfl
theorem ok_ulaw_lot_of (T : Txt K mg t) : FnOk P w K mg base (L2.CX P w) 1 t.a_ulaw_lot_of t.fd_ulaw_lot_of ["bits"] (sp_ulaw_lot_of K t) := by
  refine T.F_ulaw_lot_of.okX sc_ulaw_lot_of len_ulaw_lot_of (fun cdv A outer s H vs Q E hr h => ?_)
  have nd := sc_ulaw_lot_of.nd
  refine ⟨_, (pss_one (ps_ret (pe_callB (cr_sumUK K rfl) (by rfl) T.n_sum (by decide +kernel) (pa_cons (pe_lc (own := [("j", 1)]) (g := gName 1) (tt := tYes) rfl nd (pi_range1 (by rfl) T.n_range (pa_cons (pe_callB (call_lenK K) (by rfl) T.n_len (by decide +kernel) (pa_cons (pv 0) pa_nil)) pa_nil)) (blkOk_by (N := ["bits", "j"]) (sc := defScope s_ulaw_lot_of) (by decide +kernel)) (fun _ _ _ _ _ => (pg_name (i := 1) nd rfl (Or.inl rfl))) (fun _ _ _ _ _ => pts_nil) (fun _ _ _ _ _ => (pe_op op_shl (pe_ix (ix_UK K) (pv 0) (pv 1) (fun _ _ => rfl)) (pv 1)))) pa_nil)))), ?_⟩
  obtain ⟨ps, x_bits, v_bits, rfl, P0, h_bits, k, e, hw, hk, he⟩ := h
  unfold w_ulaw_lot_of at hw
  refine tRet_j (tCB_i (tCons_i (tLc_i (w1 (tCons_i (tCB_i (tCons_i (tVar_i (v := v_bits) rfl (tNil_i (lenS (sqL Su h_bits) (tNil_i (rgW1 hw.1 (?_)))))))))))))
  refine lcR0 (pb := pInt) (ps := ps) hw.2.2 hw.2.1 P0 (fun q1 d2 H4 n6 s7 ⟨acc8, e9⟩ nx11 hw Y12 N13 hY14 hN15 => ?_) (fun q28 H29 acc30 zs31 n32 s33 e34 r35 l36 hw => ?_)
  · have m22 := nin_of n6 P0
    have z23 := Same.free (Same.refl H) n6
    have P24 := dom_up s7 P0
    have T25 := Same.trans (Same.refl H) s7
    have P26 := dom_new e9 P24
    have S27 : Same (dels H ps) (dels H4 (q1 :: ps)) := Sn ps s7 n6
    refine gN (σ' := [some v_bits, some (.int d2)]) rfl (wipe_i rfl (tYes_i (Br_t (tOp_i (tOp_i (tVar_i (v := v_bits) rfl (tVar_i (v := (.int d2)) rfl (ixI (sqL (Same.trans S27 Su) h_bits) hw.1 (tVar_i (v := (.int d2)) rfl (rI_i hw.2.1 (?_)))))))))))
    exact hY14 ((ixG x_bits d2) * 2 ^ Int.toNat d2) _ _ (Same.refl H4) rfl hw.2.2
  have m37 := nin_of n32 P0
  have z38 := Same.free (Same.refl H) n32
  have P39 := dom_up s33 P0
  have T40 := Same.trans (Same.refl H) s33
  have P41 := dom_new e34 P39
  have S42 : Same (dels H ps) (dels H29 (q28 :: ps)) := Sn ps s33 n32
  have h43 : (pList pInt).rep (dels H29 ps) (.ref q28) zs31 := oFrzG e34 m37 (ss_skip ss_refl) r35 l36
  have P44 := dom_ss (ss_skip ss_refl) P41
  have S45 : Same (dels H29 (q28 :: ps)) (dels H29 ps) := Ss (ss_skip ss_refl)
  refine tNil_i (sumU zs31 (slL Su h43) (?_))
  exact hk _ hw _ T40
def sp_ulaw_old_lot (K : PySem.W.Frag) (t : Tab) : Sp := fun vs H Q E => ∃ (ps : List Addr) (x_way : Str) (x_n : Int) (x_bits : (List Int)) (x_one : Int) (x_more : (List Int)) (v_bits : V) (v_more : V), vs = [(.str x_way), (.int x_n), v_bits, (.int x_one), v_more] ∧ (∀ x ∈ ps, H x ≠ none) ∧ (pList pInt).rep (dels H ps) v_bits x_bits ∧ (pList pInt).rep (dels H ps) v_more x_more ∧ ∃ (k : Int → Prop) (e : PErr → Prop), w_ulaw_old_lot x_way x_n x_bits x_one x_more k e ∧ (∀ r, k r → RetI V.int H Q r) ∧ (∀ er, er.cls ∈ ([] : List Nat) → e er → ErrK ps t.cl H E er)
theorem len_ulaw_old_lot : ∀ vs H Q E, sp_ulaw_old_lot K t vs H Q E → vs.length = (["way", "n", "bits", "one", "more"] : List Str).length := by
  rintro vs H Q E ⟨_, _, _, _, _, _, _, _, rfl, _⟩
  rfl
theorem ok_ulaw_old_lot (T : Txt K mg t) : FnOk P w K mg base (L2.CX P w) 2 t.a_ulaw_old_lot t.fd_ulaw_old_lot ["way", "n", "bits", "one", "more"] (sp_ulaw_old_lot K t) := by
  have G_ulaw_lot_of := ok_ulaw_lot_of (P := P) (w := w) (base := base) T
  refine T.F_ulaw_old_lot.okX sc_ulaw_old_lot len_ulaw_old_lot (fun cdv A outer s H vs Q E hr h => ?_)
  have nd := sc_ulaw_old_lot.nd
  refine ⟨_, (pss_cons (ps_if (pt_cmpR (op_eqUK K hr) (pv 0) (pe_str) (by first | exact nomark _ | rfl)) (pss_one (ps_ret (pe_callS G_ulaw_lot_of (hr.mono (by decide)) (by rfl) T.g_ulaw_lot_of T.F_ulaw_lot_of.kp T.b_ulaw_lot_of (fun σ => passAt (takes_of rfl rfl rfl rfl) σ) (pa_cons (pe_lc (own := [("i", 5)]) (g := gName 5) (tt := tYes) rfl nd (pi_range1 (by rfl) T.n_range (pa_cons (pv 1) pa_nil)) (blkOk_by (N := ["way", "n", "bits", "one", "more", "i"]) (sc := defScope s_ulaw_old_lot) (by decide +kernel)) (fun _ _ _ _ _ => (pg_name (i := 5) nd rfl (Or.inl rfl))) (fun _ _ _ _ _ => pts_nil) (fun _ _ _ _ _ => (pe_ix (ix_UK K) (pv 2) (pe_op op_modP (pe_callTy call_int1D (by rfl) T.n_int (by decide +kernel) (pa_cons (pe_op op_sub (pv 5) (pv 3)) pa_nil)) (pv 1)) (fun _ _ => rfl)))) pa_nil)))) pss_nil)
    (pss_cons (ps_if (pt_cmpR (op_eqUK K hr) (pv 0) (pe_str) (by first | exact nomark _ | rfl)) (pss_one (ps_ret (pe_callS G_ulaw_lot_of (hr.mono (by decide)) (by rfl) T.g_ulaw_lot_of T.F_ulaw_lot_of.kp T.b_ulaw_lot_of (fun σ => passAt (takes_of rfl rfl rfl rfl) σ) (pa_cons (pe_lc (own := [("i", 5)]) (g := gName 5) (tt := tYes) rfl nd (pi_range1 (by rfl) T.n_range (pa_cons (pv 1) pa_nil)) (blkOk_by (N := ["way", "n", "bits", "one", "more", "i"]) (sc := defScope s_ulaw_old_lot) (by decide +kernel)) (fun _ _ _ _ _ => (pg_name (i := 5) nd rfl (Or.inl rfl))) (fun _ _ _ _ _ => pts_nil) (fun _ _ _ _ _ => (pe_ix (ix_UK K) (pv 2) (pe_op op_sub (pe_op op_sub (pv 1) (pe_int)) (pv 5)) (fun _ _ => rfl)))) pa_nil)))) pss_nil)
    (pss_cons (ps_if (pt_cmpR (op_eqUK K hr) (pv 0) (pe_str) (by first | exact nomark _ | rfl)) (pss_one (ps_ret (pe_callS G_ulaw_lot_of (hr.mono (by decide)) (by rfl) T.g_ulaw_lot_of T.F_ulaw_lot_of.kp T.b_ulaw_lot_of (fun σ => passAt (takes_of rfl rfl rfl rfl) σ) (pa_cons (pe_lc (own := [("i", 5)]) (g := gName 5) (tt := tYes) rfl nd (pi_range1 (by rfl) T.n_range (pa_cons (pv 1) pa_nil)) (blkOk_by (N := ["way", "n", "bits", "one", "more", "i"]) (sc := defScope s_ulaw_old_lot) (by decide +kernel)) (fun _ _ _ _ _ => (pg_name (i := 5) nd rfl (Or.inl rfl))) (fun _ _ _ _ _ => pts_nil) (fun _ _ _ _ _ => (pe_op op_xor (pe_ix (ix_UK K) (pv 2) (pv 5) (fun _ _ => rfl)) (pe_op op_and (pe_op op_shr (pv 3) (pv 5)) (pe_int))))) pa_nil)))) pss_nil)
    (pss_cons (ps_if (pt_cmpR (op_eqUK K hr) (pv 0) (pe_str) (by first | exact nomark _ | rfl)) (pss_one (ps_ret (pe_callS G_ulaw_lot_of (hr.mono (by decide)) (by rfl) T.g_ulaw_lot_of T.F_ulaw_lot_of.kp T.b_ulaw_lot_of (fun σ => passAt (takes_of rfl rfl rfl rfl) σ) (pa_cons (pv 2) pa_nil)))) pss_nil)
    (pss_one (ps_ret (pe_callS G_ulaw_lot_of (hr.mono (by decide)) (by rfl) T.g_ulaw_lot_of T.F_ulaw_lot_of.kp T.b_ulaw_lot_of (fun σ => passAt (takes_of rfl rfl rfl rfl) σ) (pa_cons (pe_op (op_addUK K) (pe_op (op_addUK K) (pe_slice (sl_listK K) (pv 2) po_none (po_some (pv 3))) (pv 4)) (pe_slice (sl_listK K) (pv 2) (po_some (pv 3)) po_none)) pa_nil)))))))), ?_⟩
  obtain ⟨ps, x_way, x_n, x_bits, x_one, x_more, v_bits, v_more, rfl, P0, h_bits, h_more, k, e, hw, hk, he⟩ := h
  unfold w_ulaw_old_lot at hw
  refine tSeq_j (tIfS_j (tTest_i (tOp_i (tVar_i (v := (.str x_way)) rfl (tC_i (rEqU_s (IsBl_i (?_))))))))
  refine Br_two hw (fun c1 hw => ?_) (fun c1 hw => ?_)
  · refine tRet_j (tCallS_i (tCons_i (tLc_i (w1 (tCons_i (tVar_i (v := (.int x_n)) rfl (tNil_i (rgW1 hw.1 (?_)))))))))
    refine lcR0 (pb := pInt) (ps := ps) hw.2.2 hw.2.1 P0 (fun q2 d3 H5 n7 s8 ⟨acc9, e10⟩ nx12 hw Y13 N14 hY15 hN16 => ?_) (fun q29 H30 acc31 zs32 n33 s34 e35 r36 l37 hw => ?_)
    · have m23 := nin_of n7 P0
      have z24 := Same.free (Same.refl H) n7
      have P25 := dom_up s8 P0
      have T26 := Same.trans (Same.refl H) s8
      have P27 := dom_new e10 P25
      have S28 : Same (dels H ps) (dels H5 (q2 :: ps)) := Sn ps s8 n7
      refine gN (σ' := [some (.str x_way), some (.int x_n), some v_bits, some (.int x_one), some v_more, some (.int d3)]) rfl (wipe_i rfl (tYes_i (Br_t (tOp_i (tVar_i (v := v_bits) rfl (tOp_i (tCB_i (tCons_i (tOp_i (tVar_i (v := (.int d3)) rfl (tVar_i (v := (.int x_one)) rfl (rI0_i (tNil_i (rInt1_i (tVar_i (v := (.int x_n)) rfl (rModP_i hw.1 (ixI (sqL (Same.trans S28 Su) h_bits) hw.2.1 (?_))))))))))))))))))
      exact hY15 (ixG x_bits ((d3 - x_one) % x_n)) _ _ (Same.refl H5) rfl hw.2.2
    have m38 := nin_of n33 P0
    have z39 := Same.free (Same.refl H) n33
    have P40 := dom_up s34 P0
    have T41 := Same.trans (Same.refl H) s34
    have P42 := dom_new e35 P40
    have S43 : Same (dels H ps) (dels H30 (q29 :: ps)) := Sn ps s34 n33
    have h44 : (pList pInt).rep (dels H30 ps) (.ref q29) zs32 := oFrzG e35 m38 (ss_skip ss_refl) r36 l37
    have P45 := dom_ss (ss_skip ss_refl) P42
    have S46 : Same (dels H30 (q29 :: ps)) (dels H30 ps) := Ss (ss_skip ss_refl)
    refine tNil_i (?_)
    refine ⟨ps, zs32, (.ref q29), rfl, P45, h44, _, _, hw, fun r47 hw H48 s49 => ?_, (fun er hc hw => errUp T41 ss_refl (he er (absurd hc (List.not_mem_nil)) hw))⟩
    have P50 := dom_up s49 P45
    have T51 := Same.trans T41 s49
    have S52 : Same (dels H30 ps) (dels H48 ps) := Sd ps s49
    exact hk _ hw _ T51
  · refine tNext_j (tSeq_j (tIfS_j (tTest_i (tOp_i (tVar_i (v := (.str x_way)) rfl (tC_i (rEqU_s (IsBl_i (?_)))))))))
    refine Br_two hw (fun c53 hw => ?_) (fun c53 hw => ?_)
    · refine tRet_j (tCallS_i (tCons_i (tLc_i (w1 (tCons_i (tVar_i (v := (.int x_n)) rfl (tNil_i (rgW1 hw.1 (?_)))))))))
      refine lcR0 (pb := pInt) (ps := ps) hw.2.2 hw.2.1 P0 (fun q54 d55 H57 n59 s60 ⟨acc61, e62⟩ nx64 hw Y65 N66 hY67 hN68 => ?_) (fun q81 H82 acc83 zs84 n85 s86 e87 r88 l89 hw => ?_)
      · have m75 := nin_of n59 P0
        have z76 := Same.free (Same.refl H) n59
        have P77 := dom_up s60 P0
        have T78 := Same.trans (Same.refl H) s60
        have P79 := dom_new e62 P77
        have S80 : Same (dels H ps) (dels H57 (q54 :: ps)) := Sn ps s60 n59
        refine gN (σ' := [some (.str x_way), some (.int x_n), some v_bits, some (.int x_one), some v_more, some (.int d55)]) rfl (wipe_i rfl (tYes_i (Br_t (tOp_i (tVar_i (v := v_bits) rfl (tOp_i (tOp_i (tVar_i (v := (.int x_n)) rfl (tC_i (rI0_i (tVar_i (v := (.int d55)) rfl (rI0_i (ixI (sqL (Same.trans S80 Su) h_bits) hw.1 (?_))))))))))))))
        exact hY67 (ixG x_bits ((x_n - (1 : Int)) - d55)) _ _ (Same.refl H57) rfl hw.2
      have m90 := nin_of n85 P0
      have z91 := Same.free (Same.refl H) n85
      have P92 := dom_up s86 P0
      have T93 := Same.trans (Same.refl H) s86
      have P94 := dom_new e87 P92
      have S95 : Same (dels H ps) (dels H82 (q81 :: ps)) := Sn ps s86 n85
      have h96 : (pList pInt).rep (dels H82 ps) (.ref q81) zs84 := oFrzG e87 m90 (ss_skip ss_refl) r88 l89
      have P97 := dom_ss (ss_skip ss_refl) P94
      have S98 : Same (dels H82 (q81 :: ps)) (dels H82 ps) := Ss (ss_skip ss_refl)
      refine tNil_i (?_)
      refine ⟨ps, zs84, (.ref q81), rfl, P97, h96, _, _, hw, fun r99 hw H100 s101 => ?_, (fun er hc hw => errUp T93 ss_refl (he er (absurd hc (List.not_mem_nil)) hw))⟩
      have P102 := dom_up s101 P97
      have T103 := Same.trans T93 s101
      have S104 : Same (dels H82 ps) (dels H100 ps) := Sd ps s101
      exact hk _ hw _ T103
    · refine tNext_j (tSeq_j (tIfS_j (tTest_i (tOp_i (tVar_i (v := (.str x_way)) rfl (tC_i (rEqU_s (IsBl_i (?_)))))))))
      refine Br_two hw (fun c105 hw => ?_) (fun c105 hw => ?_)
      · refine tRet_j (tCallS_i (tCons_i (tLc_i (w1 (tCons_i (tVar_i (v := (.int x_n)) rfl (tNil_i (rgW1 hw.1 (?_)))))))))
        refine lcR0 (pb := pInt) (ps := ps) hw.2.2 hw.2.1 P0 (fun q106 d107 H109 n111 s112 ⟨acc113, e114⟩ nx116 hw Y117 N118 hY119 hN120 => ?_) (fun q133 H134 acc135 zs136 n137 s138 e139 r140 l141 hw => ?_)
        · have m127 := nin_of n111 P0
          have z128 := Same.free (Same.refl H) n111
          have P129 := dom_up s112 P0
          have T130 := Same.trans (Same.refl H) s112
          have P131 := dom_new e114 P129
          have S132 : Same (dels H ps) (dels H109 (q106 :: ps)) := Sn ps s112 n111
          refine gN (σ' := [some (.str x_way), some (.int x_n), some v_bits, some (.int x_one), some v_more, some (.int d107)]) rfl (wipe_i rfl (tYes_i (Br_t (tOp_i (tOp_i (tVar_i (v := v_bits) rfl (tVar_i (v := (.int d107)) rfl (ixI (sqL (Same.trans S132 Su) h_bits) hw.1 (tOp_i (tOp_i (tVar_i (v := (.int x_one)) rfl (tVar_i (v := (.int d107)) rfl (rI_i (C := fun _ j => 0 ≤ j) hw.2.1 (tC_i (rI0_i (rI0_i (?_)))))))))))))))))
          exact hY119 (PySem.Builtin.bitXor (ixG x_bits d107) (PySem.Builtin.bitAnd (x_one / 2 ^ Int.toNat d107) (1 : Int))) _ _ (Same.refl H109) rfl hw.2.2
        have m142 := nin_of n137 P0
        have z143 := Same.free (Same.refl H) n137
        have P144 := dom_up s138 P0
        have T145 := Same.trans (Same.refl H) s138
        have P146 := dom_new e139 P144
        have S147 : Same (dels H ps) (dels H134 (q133 :: ps)) := Sn ps s138 n137
        have h148 : (pList pInt).rep (dels H134 ps) (.ref q133) zs136 := oFrzG e139 m142 (ss_skip ss_refl) r140 l141
        have P149 := dom_ss (ss_skip ss_refl) P146
        have S150 : Same (dels H134 (q133 :: ps)) (dels H134 ps) := Ss (ss_skip ss_refl)
        refine tNil_i (?_)
        refine ⟨ps, zs136, (.ref q133), rfl, P149, h148, _, _, hw, fun r151 hw H152 s153 => ?_, (fun er hc hw => errUp T145 ss_refl (he er (absurd hc (List.not_mem_nil)) hw))⟩
        have P154 := dom_up s153 P149
        have T155 := Same.trans T145 s153
        have S156 : Same (dels H134 ps) (dels H152 ps) := Sd ps s153
        exact hk _ hw _ T155
      · refine tNext_j (tSeq_j (tIfS_j (tTest_i (tOp_i (tVar_i (v := (.str x_way)) rfl (tC_i (rEqU_s (IsBl_i (?_)))))))))
        refine Br_two hw (fun c157 hw => ?_) (fun c157 hw => ?_)
        · refine tRet_j (tCallS_i (tCons_i (tVar_i (v := v_bits) rfl (tNil_i (?_)))))
          refine ⟨ps, x_bits, v_bits, rfl, P0, h_bits, _, _, hw, fun r158 hw H159 s160 => ?_, (fun er hc hw => errUp (Same.refl H) ss_refl (he er (absurd hc (List.not_mem_nil)) hw))⟩
          have P161 := dom_up s160 P0
          have T162 := Same.trans (Same.refl H) s160
          have S163 : Same (dels H ps) (dels H159 ps) := Sd ps s160
          exact hk _ hw _ T162
        · refine tNext_j (tRet_j (tCallS_i (tCons_i (tOp_i (tOp_i (tSl_i (tVar_i (v := v_bits) rfl (tNoPart_i (tPart_i (tVar_i (v := (.int x_one)) rfl (PartI_i (sliceS (slL Su h_bits) (fun q164 H165 n166 s167 us168 e169 r170 l171 => ?_)))))))))))))
          have m172 := nin_of n166 P0
          have z173 := Same.free (Same.refl H) n166
          have P174 := dom_up s167 P0
          have T175 := Same.trans (Same.refl H) s167
          have P176 := dom_new e169 P174
          have S177 : Same (dels H ps) (dels H165 (q164 :: ps)) := Sn ps s167 n166
          have h178 : (pList pInt).rep (dels H165 ps) (.ref q164) (cutG x_bits none (some x_one)) := oFrzG e169 m172 (ss_skip ss_refl) (AllR.mono S177 r170) l171
          have P179 := dom_ss (ss_skip ss_refl) P176
          have S180 : Same (dels H165 (q164 :: ps)) (dels H165 ps) := Ss (ss_skip ss_refl)
          refine tVar_i (v := v_more) rfl (catS (p := pInt) (lwL Su h178) (lwL Su ((pList pInt).mono (S177.trans S180) h_more)) hw.1 (fun q181 H182 n183 s184 us185 e186 r187 l188 => ?_))
          have m189 := nin_of n183 P179
          have z190 := Same.free T175 n183
          have P191 := dom_up s184 P179
          have T192 := Same.trans T175 s184
          have P193 := dom_new e186 P191
          have S194 : Same (dels H165 ps) (dels H182 (q181 :: ps)) := Sn ps s184 n183
          have h195 : (pList pInt).rep (dels H182 ps) (.ref q181) ((cutG x_bits none (some x_one)) ++ x_more) := oFrzG e186 m189 (ss_skip ss_refl) (AllR.mono S194 r187) l188
          have P196 := dom_ss (ss_skip ss_refl) P193
          have S197 : Same (dels H182 (q181 :: ps)) (dels H182 ps) := Ss (ss_skip ss_refl)
          refine tSl_i (tVar_i (v := v_bits) rfl (tPart_i (tVar_i (v := (.int x_one)) rfl (PartI_i (tNoPart_i (sliceS (slL (Same.trans (S177.trans (S180.trans (S194.trans S197))) Su) h_bits) (fun q198 H199 n200 s201 us202 e203 r204 l205 => ?_)))))))
          have m206 := nin_of n200 P196
          have z207 := Same.free T192 n200
          have P208 := dom_up s201 P196
          have T209 := Same.trans T192 s201
          have P210 := dom_new e203 P208
          have S211 : Same (dels H182 ps) (dels H199 (q198 :: ps)) := Sn ps s201 n200
          have h212 : (pList pInt).rep (dels H199 ps) (.ref q198) (cutG x_bits (some x_one) none) := oFrzG e203 m206 (ss_skip ss_refl) (AllR.mono (S177.trans (S180.trans (S194.trans (S197.trans S211)))) r204) l205
          have P213 := dom_ss (ss_skip ss_refl) P210
          have S214 : Same (dels H199 (q198 :: ps)) (dels H199 ps) := Ss (ss_skip ss_refl)
          refine catS (p := pInt) (lwL Su ((pList pInt).mono (S211.trans S214) h195)) (lwL Su h212) hw.2.1 (fun q215 H216 n217 s218 us219 e220 r221 l222 => ?_)
          have m223 := nin_of n217 P213
          have z224 := Same.free T209 n217
          have P225 := dom_up s218 P213
          have T226 := Same.trans T209 s218
          have P227 := dom_new e220 P225
          have S228 : Same (dels H199 ps) (dels H216 (q215 :: ps)) := Sn ps s218 n217
          have h229 : (pList pInt).rep (dels H216 ps) (.ref q215) (((cutG x_bits none (some x_one)) ++ x_more) ++ (cutG x_bits (some x_one) none)) := oFrzG e220 m223 (ss_skip ss_refl) (AllR.mono S228 r221) l222
          have P230 := dom_ss (ss_skip ss_refl) P227
          have S231 : Same (dels H216 (q215 :: ps)) (dels H216 ps) := Ss (ss_skip ss_refl)
          refine tNil_i (?_)
          refine ⟨ps, (((cutG x_bits none (some x_one)) ++ x_more) ++ (cutG x_bits (some x_one) none)), (.ref q215), rfl, P230, h229, _, _, hw.2.2, fun r232 hw H233 s234 => ?_, (fun er hc hw => errUp T226 ss_refl (he er (absurd hc (List.not_mem_nil)) hw))⟩
          have P235 := dom_up s234 P230
          have T236 := Same.trans T226 s234
          have S237 : Same (dels H216 ps) (dels H233 ps) := Sd ps s234
          exact hk _ hw _ T236
def sp_ulaw_reckoned (K : PySem.W.Frag) (t : Tab) : Sp := fun vs H Q E => ∃ (ps : List Addr) (x_way : Str) (x_p : Int) (x_n : Int) (x_a : (List Int)) (x_one : Int) (x_two : Int) (v_a : V), vs = [(.str x_way), (.int x_p), (.int x_n), v_a, (.int x_one), (.int x_two)] ∧ (∀ x ∈ ps, H x ≠ none) ∧ (pList pInt).rep (dels H ps) v_a x_a ∧ ∃ (k : (List Int) → Prop) (e : PErr → Prop), w_ulaw_reckoned x_way x_p x_n x_a x_one x_two k e ∧ (∀ r, k r → RetO ps pInt H Q r) ∧ (∀ er, er.cls ∈ ([] : List Nat) → e er → ErrK ps t.cl H E er)
theorem len_ulaw_reckoned : ∀ vs H Q E, sp_ulaw_reckoned K t vs H Q E → vs.length = (["way", "p", "n", "a", "one", "two"] : List Str).length := by
  rintro vs H Q E ⟨_, _, _, _, _, _, _, _, rfl, _⟩
  rfl
theorem ok_ulaw_reckoned (T : Txt K mg t) : FnOk P w K mg base (L2.CX P w) 3 t.a_ulaw_reckoned t.fd_ulaw_reckoned ["way", "p", "n", "a", "one", "two"] (sp_ulaw_reckoned K t) := by
  have G_ulaw_ends_left := ok_ulaw_ends_left (P := P) (w := w) (base := base) T
  have G_ulaw_bit_row := ok_ulaw_bit_row (P := P) (w := w) (base := base) T
  have G_ulaw_old_lot := ok_ulaw_old_lot (P := P) (w := w) (base := base) T
  refine T.F_ulaw_reckoned.okX sc_ulaw_reckoned len_ulaw_reckoned (fun cdv A outer s H vs Q E hr h => ?_)
  have nd := sc_ulaw_reckoned.nd
  refine ⟨_, (pss_cons (ps_set (i := 6) nd rfl (Or.inl rfl) (pe_lst pa_nil))
    (pss_cons (ps_set (i := 7) nd rfl (Or.inl rfl) (pe_callS G_ulaw_ends_left (hr.mono (by decide)) (by rfl) T.g_ulaw_ends_left T.F_ulaw_ends_left.kp T.b_ulaw_ends_left (fun σ => passAt (takes_of rfl rfl rfl rfl) σ) (pa_cons (pv 0) (pa_cons (pv 2) pa_nil))))
    (pss_cons (ps_for (passes_of rfl) rfl (pi_range1 (by rfl) T.n_range (pa_cons (pe_op op_shl (pe_int) (pv 7)) pa_nil)) (pg_name (i := 8) nd rfl (Or.inl rfl))
    (pss_cons (ps_set (i := 9) nd rfl (Or.inl rfl) (pe_callS G_ulaw_bit_row (hr.mono (by decide)) (by rfl) T.g_ulaw_bit_row T.F_ulaw_bit_row.kp T.b_ulaw_bit_row (fun σ => passAt (takes_of rfl rfl rfl rfl) σ) (pa_cons (pv 7) (pa_cons (pv 8) pa_nil))))
    (pss_one (ps_if (pt_cmpR (op_eqUK K hr) (pv 0) (pe_str) (by first | exact nomark _ | rfl)) (pss_one (ps_expr (pe_bmK K PySem.F.plainAttrs_list PySem.F.slot_list_append PySem.F.type_list_append mt_append (pv 6) (pa_cons (pe_ix (ix_UK K) (pv 3) (pe_callS G_ulaw_old_lot (hr.mono (by decide)) (by rfl) T.g_ulaw_old_lot T.F_ulaw_old_lot.kp T.b_ulaw_old_lot (fun σ => passAt (takes_of rfl rfl rfl rfl) σ) (pa_cons (pv 0) (pa_cons (pv 2) (pa_cons (pv 9) (pa_cons (pv 4) (pa_cons (pe_lst (pa_cons (pv 5) pa_nil)) pa_nil)))))) (fun _ _ => rfl)) pa_nil)))) (pss_one (ps_if (pt_cmpR (op_eqUK K hr) (pv 0) (pe_str) (by first | exact nomark _ | rfl)) (pss_cons (ps_set (i := 10) nd rfl (Or.inl rfl) (pe_ix (ix_UK K) (pv 3) (pe_callS G_ulaw_old_lot (hr.mono (by decide)) (by rfl) T.g_ulaw_old_lot T.F_ulaw_old_lot.kp T.b_ulaw_old_lot (fun σ => passAt (takes_of rfl rfl rfl rfl) σ) (pa_cons (pv 0) (pa_cons (pv 2) (pa_cons (pv 9) (pa_cons (pv 4) (pa_cons (pe_lst (pa_cons (pe_int) (pa_cons (pe_int) pa_nil))) pa_nil)))))) (fun _ _ => rfl)))
    (pss_cons (ps_set (i := 11) nd rfl (Or.inl rfl) (pe_ix (ix_UK K) (pv 3) (pe_callS G_ulaw_old_lot (hr.mono (by decide)) (by rfl) T.g_ulaw_old_lot T.F_ulaw_old_lot.kp T.b_ulaw_old_lot (fun σ => passAt (takes_of rfl rfl rfl rfl) σ) (pa_cons (pv 0) (pa_cons (pv 2) (pa_cons (pv 9) (pa_cons (pv 4) (pa_cons (pe_lst (pa_cons (pe_int) (pa_cons (pe_int) pa_nil))) pa_nil)))))) (fun _ _ => rfl)))
    (pss_one (ps_expr (pe_bmK K PySem.F.plainAttrs_list PySem.F.slot_list_append PySem.F.type_list_append mt_append (pv 6) (pa_cons (pe_op op_modP (pe_callTy call_int1D (by rfl) T.n_int (by decide +kernel) (pa_cons (pe_op (op_addUK K) (pv 10) (pe_op op_mulU (pv 5) (pv 11))) pa_nil)) (pv 1)) pa_nil)))))) (pss_one (ps_if (PW.pt (pw_and (pt_cmpR (op_eqUK K hr) (pv 0) (pe_str) (by first | exact nomark _ | rfl)) (pw_and1 (pt_cmpR (op_eqUK K hr) (pe_ix (ix_UK K) (pv 9) (pv 4) (fun _ _ => rfl)) (pe_int) (by first | exact nomark _ | rfl))))) (pss_one (ps_expr (pe_bmK K PySem.F.plainAttrs_list PySem.F.slot_list_append PySem.F.type_list_append mt_append (pv 6) (pa_cons (pe_op op_modP (pe_callTy call_int1D (by rfl) T.n_int (by decide +kernel) (pa_cons (pe_op op_mulU (pe_ix (ix_UK K) (pv 3) (pv 8) (fun _ _ => rfl)) (pv 5)) pa_nil)) (pv 1)) pa_nil)))) (pss_one (ps_expr (pe_bmK K PySem.F.plainAttrs_list PySem.F.slot_list_append PySem.F.type_list_append mt_append (pv 6) (pa_cons (pe_ix (ix_UK K) (pv 3) (pe_callS G_ulaw_old_lot (hr.mono (by decide)) (by rfl) T.g_ulaw_old_lot T.F_ulaw_old_lot.kp T.b_ulaw_old_lot (fun σ => passAt (takes_of rfl rfl rfl rfl) σ) (pa_cons (pv 0) (pa_cons (pv 2) (pa_cons (pv 9) (pa_cons (pv 4) (pa_cons (pe_lst pa_nil) pa_nil)))))) (fun _ _ => rfl)) pa_nil))))))))))))
    (pss_one (ps_ret (pv 6)))))), ?_⟩
  obtain ⟨ps, x_way, x_p, x_n, x_a, x_one, x_two, v_a, rfl, P0, h_a, k, e, hw, hk, he⟩ := h
  unfold w_ulaw_reckoned at hw
  refine tSeq_j (tAsg_j (tLst_i (tNil_i (new_i (Nat.le_of_ble_eq_true rfl) (fun q1 H2 n3 s4 e5 => ?_)))))
  have r6 : AllR pInt (dels H ps) [] ([] : List Int) := .nil
  have l7 : ([] : List Int).length ≤ LIM := (Nat.le_of_ble_eq_true rfl)
  have m8 := nin_of n3 P0
  have z9 := Same.free (Same.refl H) n3
  have P10 := dom_up s4 P0
  have T11 := Same.trans (Same.refl H) s4
  have P12 := dom_new e5 P10
  have S13 : Same (dels H ps) (dels H2 (q1 :: ps)) := Sn ps s4 n3
  refine gN (σ' := [some (.str x_way), some (.int x_p), some (.int x_n), some v_a, some (.int x_one), some (.int x_two), some (.ref q1), none, none, none, none, none]) rfl (?_)
  obtain ⟨y14, r15, l16, hw⟩ := letO hw r6 l7
  refine tSeq_j (tAsg_j (tCallS_i (tCons_i (tVar_i (v := (.str x_way)) rfl (tCons_i (tVar_i (v := (.int x_n)) rfl (tNil_i (?_))))))))
  refine ⟨(q1 :: ps), x_way, x_n, rfl, P12, _, _, hw, fun r17 hw H18 s19 => ?_, (fun er hc hw => errUp T11 (ss_skip ss_refl) (he er (absurd hc (List.not_mem_nil)) hw))⟩
  have P20 := dom_up s19 P12
  have T21 := Same.trans T11 s19
  have e22 := s19 _ _ e5
  have S23 : Same (dels H2 (q1 :: ps)) (dels H18 (q1 :: ps)) := Sd (q1 :: ps) s19
  refine gN (σ' := [some (.str x_way), some (.int x_p), some (.int x_n), some v_a, some (.int x_one), some (.int x_two), some (.ref q1), some (.int r17), none, none, none, none]) rfl (tSeq_j (tFor_j (w1 (tCons_i (tOp_i (tC_i (tVar_i (v := (.int r17)) rfl (rI_i hw.1 (tNil_i (rgW1 hw.2.1 (?_)))))))))))
  refine forR0 (s0 := y14) hw.2.2 (fun (s387 : (List Int)) (σ389 : L2.St) (H388 : Hp) => ∃ (j390 : Option V) (j391 : Option V) (j392 : Option V) (j393 : Option V) (us397 : List V), σ389 = [some (.str x_way), some (.int x_p), some (.int x_n), some v_a, some (.int x_one), some (.int x_two), some (.ref q1), some (.int r17), j390, j391, j392, j393] ∧ Same (dels H18 (q1 :: ps)) (dels H388 (q1 :: ps)) ∧ (∀ x ∈ (q1 :: ps), H388 x ≠ none) ∧ Same H H388 ∧ H388 q1 = some (.lst us397) ∧ AllR pInt (dels H388 (q1 :: ps)) us397 s387 ∧ (s387).length ≤ LIM ∧ True) ⟨_, _, _, _, [], rfl, (Same.refl _), P20, T21, e22, (AllR.mono (S13.trans S23) r15), l16, trivial⟩ (fun d403 s387 σ389 H388 nx401 hr hw => ?_) (fun s407 σ409 H408 hr hw => ?_)
  · obtain ⟨j390, j391, j392, j393, us397, rfl, S396, P394, T395, e398, r399, l400, _⟩ := hr
    refine gN (σ' := [some (.str x_way), some (.int x_p), some (.int x_n), some v_a, some (.int x_one), some (.int x_two), some (.ref q1), some (.int r17), some (.int d403), j391, j392, j393]) rfl (tSeq_j (tAsg_j (tCallS_i (tCons_i (tVar_i (v := (.int r17)) rfl (tCons_i (tVar_i (v := (.int d403)) rfl (tNil_i (?_)))))))))
    refine ⟨(q1 :: ps), r17, d403, rfl, P394, _, _, hw, fun r421 hw H422 q424 us425 s423 n426 e427 r428 l429 => ?_, (fun er hc hw => errUp T395 (ss_skip ss_refl) (he er (absurd hc (List.not_mem_nil)) hw))⟩
    have m430 := nin_of n426 P394
    have z431 := Same.free T395 n426
    have P432 := dom_up s423 P394
    have T433 := Same.trans T395 s423
    have e434 := s423 _ _ e398
    have P435 := dom_new e427 P432
    have S436 : Same (dels H388 (q1 :: ps)) (dels H422 (q424 :: q1 :: ps)) := Sn (q1 :: ps) s423 n426
    have h437 : (pList pInt).rep (dels H422 (q1 :: ps)) (.ref q424) r421 := oFrzG e427 m430 (ss_skip ss_refl) r428 l429
    have P438 := dom_ss (ss_skip ss_refl) P435
    have S439 : Same (dels H422 (q424 :: q1 :: ps)) (dels H422 (q1 :: ps)) := Ss (ss_skip ss_refl)
    refine gN (σ' := [some (.str x_way), some (.int x_p), some (.int x_n), some v_a, some (.int x_one), some (.int x_two), some (.ref q1), some (.int r17), some (.int d403), some (.ref q424), j392, j393]) rfl (tIfS_j (tTest_i (tOp_i (tVar_i (v := (.str x_way)) rfl (tC_i (rEqU_s (IsBl_i (?_))))))))
    refine Br_two hw (fun c440 hw => ?_) (fun c440 hw => ?_)
    · refine tDrop_j (tBM_i (tVar_i (v := (.ref q1)) rfl (tyL (SqL.of e434) (tCons_i (tOp_i (tVar_i (v := v_a) rfl (tCallS_i (tCons_i (tVar_i (v := (.str x_way)) rfl (tCons_i (tVar_i (v := (.int x_n)) rfl (tCons_i (tVar_i (v := (.ref q424)) rfl (tCons_i (tVar_i (v := (.int x_one)) rfl (tCons_i (tLst_i (tCons_i (tVar_i (v := (.int x_two)) rfl (tNil_i (new_i (Nat.le_of_ble_eq_true rfl) (fun q441 H442 n443 s444 e445 => ?_))))))))))))))))))))))
      have r446 : AllR pInt (dels H422 (q1 :: ps)) [(.int x_two)] ([x_two] : List Int) := (.cons rfl .nil)
      have l447 : ([x_two] : List Int).length ≤ LIM := (Nat.le_of_ble_eq_true rfl)
      have m448 := nin_of n443 P438
      have z449 := Same.free T433 n443
      have P450 := dom_up s444 P438
      have T451 := Same.trans T433 s444
      have e452 := s444 _ _ e434
      have P453 := dom_new e445 P450
      have S454 : Same (dels H422 (q1 :: ps)) (dels H442 (q441 :: q1 :: ps)) := Sn (q1 :: ps) s444 n443
      have h455 : (pList pInt).rep (dels H442 (q1 :: ps)) (.ref q441) ([x_two] : List Int) := oFrzG e445 m448 (ss_skip ss_refl) (AllR.mono S454 r446) l447
      have P456 := dom_ss (ss_skip ss_refl) P453
      have S457 : Same (dels H442 (q441 :: q1 :: ps)) (dels H442 (q1 :: ps)) := Ss (ss_skip ss_refl)
      refine tNil_i (?_)
      refine ⟨(q1 :: ps), x_way, x_n, r421, x_one, ([x_two] : List Int), (.ref q424), (.ref q441), rfl, P456, ((pList pInt).mono (S454.trans S457) h437), h455, _, _, hw, fun r458 hw H459 s460 => ?_, (fun er hc hw => errUp T451 (ss_skip ss_refl) (he er (absurd hc (List.not_mem_nil)) hw))⟩
      have P461 := dom_up s460 P456
      have T462 := Same.trans T451 s460
      have e463 := s460 _ _ e452
      have S464 : Same (dels H442 (q1 :: ps)) (dels H459 (q1 :: ps)) := Sd (q1 :: ps) s460
      refine ixI (sqL (Same.trans (S13.trans (S23.trans (S396.trans (S436.trans (S439.trans (S454.trans (S457.trans S464))))))) Su) h_a) hw.1 (tNil_i (appO (p := pInt) (d := (ixG x_a r458)) e463 (AllR.mono (S436.trans (S439.trans (S454.trans (S457.trans S464)))) r399) hw.2.1 rfl (fun H465 f466 us467 e468 r469 l470 => ?_)))
      have P471 := dom_off f466 e468 P461
      have T472 := st_off T462 f466 z9
      have S473 : Same (dels H459 (q1 :: ps)) (dels H465 (q1 :: ps)) := So (List.mem_cons_self ..) f466
      obtain ⟨y474, r475, l476, hw⟩ := letO hw.2.2 r469 l470
      exact nxS_i (s := (y474)) ⟨_, _, _, _, us467, rfl, (S396.trans (S436.trans (S439.trans (S454.trans (S457.trans (S464.trans S473)))))), P471, T472, e468, (AllR.mono S473 r475), l476, trivial⟩ hw
    · refine tIfS_j (tTest_i (tOp_i (tVar_i (v := (.str x_way)) rfl (tC_i (rEqU_s (IsBl_i (?_)))))))
      refine Br_two hw (fun c477 hw => ?_) (fun c477 hw => ?_)
      · refine tSeq_j (tAsg_j (tOp_i (tVar_i (v := v_a) rfl (tCallS_i (tCons_i (tVar_i (v := (.str x_way)) rfl (tCons_i (tVar_i (v := (.int x_n)) rfl (tCons_i (tVar_i (v := (.ref q424)) rfl (tCons_i (tVar_i (v := (.int x_one)) rfl (tCons_i (tLst_i (tCons_i (tC_i (tCons_i (tC_i (tNil_i (new_i (Nat.le_of_ble_eq_true rfl) (fun q478 H479 n480 s481 e482 => ?_)))))))))))))))))))))
        have r483 : AllR pInt (dels H422 (q1 :: ps)) [(.int (0 : Int)), (.int (0 : Int))] ([(0 : Int), (0 : Int)] : List Int) := (.cons rfl (.cons rfl .nil))
        have l484 : ([(0 : Int), (0 : Int)] : List Int).length ≤ LIM := (Nat.le_of_ble_eq_true rfl)
        have m485 := nin_of n480 P438
        have z486 := Same.free T433 n480
        have P487 := dom_up s481 P438
        have T488 := Same.trans T433 s481
        have e489 := s481 _ _ e434
        have P490 := dom_new e482 P487
        have S491 : Same (dels H422 (q1 :: ps)) (dels H479 (q478 :: q1 :: ps)) := Sn (q1 :: ps) s481 n480
        have h492 : (pList pInt).rep (dels H479 (q1 :: ps)) (.ref q478) ([(0 : Int), (0 : Int)] : List Int) := oFrzG e482 m485 (ss_skip ss_refl) (AllR.mono S491 r483) l484
        have P493 := dom_ss (ss_skip ss_refl) P490
        have S494 : Same (dels H479 (q478 :: q1 :: ps)) (dels H479 (q1 :: ps)) := Ss (ss_skip ss_refl)
        refine tNil_i (?_)
        refine ⟨(q1 :: ps), x_way, x_n, r421, x_one, ([(0 : Int), (0 : Int)] : List Int), (.ref q424), (.ref q478), rfl, P493, ((pList pInt).mono (S491.trans S494) h437), h492, _, _, hw, fun r495 hw H496 s497 => ?_, (fun er hc hw => errUp T488 (ss_skip ss_refl) (he er (absurd hc (List.not_mem_nil)) hw))⟩
        have P498 := dom_up s497 P493
        have T499 := Same.trans T488 s497
        have e500 := s497 _ _ e489
        have S501 : Same (dels H479 (q1 :: ps)) (dels H496 (q1 :: ps)) := Sd (q1 :: ps) s497
        refine ixI (sqL (Same.trans (S13.trans (S23.trans (S396.trans (S436.trans (S439.trans (S491.trans (S494.trans S501))))))) Su) h_a) hw.1 (?_)
        refine asgIL (f := V.int) (e := (ixG x_a r495)) (g := fun y502 => [some (.str x_way), some (.int x_p), some (.int x_n), some v_a, some (.int x_one), some (.int x_two), some (.ref q1), some (.int r17), some (.int d403), some (.ref q424), some (.int y502), j393]) hw.2 (fun _ => rfl) (fun y502 hw => ?_)
        refine tSeq_j (tAsg_j (tOp_i (tVar_i (v := v_a) rfl (tCallS_i (tCons_i (tVar_i (v := (.str x_way)) rfl (tCons_i (tVar_i (v := (.int x_n)) rfl (tCons_i (tVar_i (v := (.ref q424)) rfl (tCons_i (tVar_i (v := (.int x_one)) rfl (tCons_i (tLst_i (tCons_i (tC_i (tCons_i (tC_i (tNil_i (new_i (Nat.le_of_ble_eq_true rfl) (fun q503 H504 n505 s506 e507 => ?_)))))))))))))))))))))
        have r508 : AllR pInt (dels H496 (q1 :: ps)) [(.int (1 : Int)), (.int (1 : Int))] ([(1 : Int), (1 : Int)] : List Int) := (.cons rfl (.cons rfl .nil))
        have l509 : ([(1 : Int), (1 : Int)] : List Int).length ≤ LIM := (Nat.le_of_ble_eq_true rfl)
        have m510 := nin_of n505 P498
        have z511 := Same.free T499 n505
        have P512 := dom_up s506 P498
        have T513 := Same.trans T499 s506
        have e514 := s506 _ _ e500
        have P515 := dom_new e507 P512
        have S516 : Same (dels H496 (q1 :: ps)) (dels H504 (q503 :: q1 :: ps)) := Sn (q1 :: ps) s506 n505
        have h517 : (pList pInt).rep (dels H504 (q1 :: ps)) (.ref q503) ([(1 : Int), (1 : Int)] : List Int) := oFrzG e507 m510 (ss_skip ss_refl) (AllR.mono S516 r508) l509
        have P518 := dom_ss (ss_skip ss_refl) P515
        have S519 : Same (dels H504 (q503 :: q1 :: ps)) (dels H504 (q1 :: ps)) := Ss (ss_skip ss_refl)
        refine tNil_i (?_)
        refine ⟨(q1 :: ps), x_way, x_n, r421, x_one, ([(1 : Int), (1 : Int)] : List Int), (.ref q424), (.ref q503), rfl, P518, ((pList pInt).mono (S491.trans (S494.trans (S501.trans (S516.trans S519)))) h437), h517, _, _, hw, fun r520 hw H521 s522 => ?_, (fun er hc hw => errUp T513 (ss_skip ss_refl) (he er (absurd hc (List.not_mem_nil)) hw))⟩
        have P523 := dom_up s522 P518
        have T524 := Same.trans T513 s522
        have e525 := s522 _ _ e514
        have S526 : Same (dels H504 (q1 :: ps)) (dels H521 (q1 :: ps)) := Sd (q1 :: ps) s522
        refine ixI (sqL (Same.trans (S13.trans (S23.trans (S396.trans (S436.trans (S439.trans (S491.trans (S494.trans (S501.trans (S516.trans (S519.trans S526)))))))))) Su) h_a) hw.1 (?_)
        refine asgIL (f := V.int) (e := (ixG x_a r520)) (g := fun y527 => [some (.str x_way), some (.int x_p), some (.int x_n), some v_a, some (.int x_one), some (.int x_two), some (.ref q1), some (.int r17), some (.int d403), some (.ref q424), some (.int y502), some (.int y527)]) hw.2 (fun _ => rfl) (fun y527 hw => ?_)
        refine tDrop_j (tBM_i (tVar_i (v := (.ref q1)) rfl (tyL (SqL.of e525) (tCons_i (tOp_i (tCB_i (tCons_i (tOp_i (tVar_i (v := (.int y502)) rfl (tOp_i (tVar_i (v := (.int x_two)) rfl (tVar_i (v := (.int y527)) rfl (rMulU_i hw.1 (rAddU_i (tNil_i (rInt1_i (tVar_i (v := (.int x_p)) rfl (rModP_i hw.2.1 (tNil_i (appO (p := pInt) (d := ((y502 + (x_two * y527)) % x_p)) e525 (AllR.mono (S436.trans (S439.trans (S491.trans (S494.trans (S501.trans (S516.trans (S519.trans S526))))))) r399) hw.2.2.1 rfl (fun H528 f529 us530 e531 r532 l533 => ?_)))))))))))))))))))))
        have P534 := dom_off f529 e531 P523
        have T535 := st_off T524 f529 z9
        have S536 : Same (dels H521 (q1 :: ps)) (dels H528 (q1 :: ps)) := So (List.mem_cons_self ..) f529
        obtain ⟨y537, r538, l539, hw⟩ := letO hw.2.2.2 r532 l533
        exact nxS_i (s := (y537)) ⟨_, _, _, _, us530, rfl, (S396.trans (S436.trans (S439.trans (S491.trans (S494.trans (S501.trans (S516.trans (S519.trans (S526.trans S536))))))))), P534, T535, e531, (AllR.mono S536 r538), l539, trivial⟩ hw
      · refine tIfS_j (tAndP (b := (decide (x_way = (Str.ofString "weighted")))) (c := (decide ((ixG r421 x_one) = (1 : Int)))) (fun R hR => tTest_i (tOp_i (tVar_i (v := (.str x_way)) rfl (tC_i (rEqU_s (IsBl_i (hR))))))) (fun g541 R hR => tTest_i (tOp_i (tOp_i (tVar_i (v := (.ref q424)) rfl (tVar_i (v := (.int x_one)) rfl (ixI (sqL Su h437) (hw.1 g541) (tC_i (rEqU_i (IsBl_i (hR)))))))))) (?_))
        refine Br_two hw.2 (fun c542 hw => ?_) (fun c542 hw => ?_)
        · refine tDrop_j (tBM_i (tVar_i (v := (.ref q1)) rfl (tyL (SqL.of e434) (tCons_i (tOp_i (tCB_i (tCons_i (tOp_i (tOp_i (tVar_i (v := v_a) rfl (tVar_i (v := (.int d403)) rfl (ixI (sqL (Same.trans (S13.trans (S23.trans (S396.trans (S436.trans S439)))) Su) h_a) hw.1 (tVar_i (v := (.int x_two)) rfl (rMulU_i hw.2.1 (tNil_i (rInt1_i (tVar_i (v := (.int x_p)) rfl (rModP_i hw.2.2.1 (tNil_i (appO (p := pInt) (d := (((ixG x_a d403) * x_two) % x_p)) e434 (AllR.mono (S436.trans S439) r399) hw.2.2.2.1 rfl (fun H543 f544 us545 e546 r547 l548 => ?_)))))))))))))))))))))
          have P549 := dom_off f544 e546 P438
          have T550 := st_off T433 f544 z9
          have S551 : Same (dels H422 (q1 :: ps)) (dels H543 (q1 :: ps)) := So (List.mem_cons_self ..) f544
          obtain ⟨y552, r553, l554, hw⟩ := letO hw.2.2.2.2 r547 l548
          exact nxS_i (s := (y552)) ⟨_, _, _, _, us545, rfl, (S396.trans (S436.trans (S439.trans S551))), P549, T550, e546, (AllR.mono S551 r553), l554, trivial⟩ hw
        · refine tDrop_j (tBM_i (tVar_i (v := (.ref q1)) rfl (tyL (SqL.of e434) (tCons_i (tOp_i (tVar_i (v := v_a) rfl (tCallS_i (tCons_i (tVar_i (v := (.str x_way)) rfl (tCons_i (tVar_i (v := (.int x_n)) rfl (tCons_i (tVar_i (v := (.ref q424)) rfl (tCons_i (tVar_i (v := (.int x_one)) rfl (tCons_i (tLst_i (tNil_i (new_i (Nat.le_of_ble_eq_true rfl) (fun q555 H556 n557 s558 e559 => ?_))))))))))))))))))))
          have r560 : AllR pInt (dels H422 (q1 :: ps)) [] ([] : List Int) := .nil
          have l561 : ([] : List Int).length ≤ LIM := (Nat.le_of_ble_eq_true rfl)
          have m562 := nin_of n557 P438
          have z563 := Same.free T433 n557
          have P564 := dom_up s558 P438
          have T565 := Same.trans T433 s558
          have e566 := s558 _ _ e434
          have P567 := dom_new e559 P564
          have S568 : Same (dels H422 (q1 :: ps)) (dels H556 (q555 :: q1 :: ps)) := Sn (q1 :: ps) s558 n557
          have h569 : (pList pInt).rep (dels H556 (q1 :: ps)) (.ref q555) ([] : List Int) := oFrzG e559 m562 (ss_skip ss_refl) (AllR.mono S568 r560) l561
          have P570 := dom_ss (ss_skip ss_refl) P567
          have S571 : Same (dels H556 (q555 :: q1 :: ps)) (dels H556 (q1 :: ps)) := Ss (ss_skip ss_refl)
          refine tNil_i (?_)
          refine ⟨(q1 :: ps), x_way, x_n, r421, x_one, ([] : List Int), (.ref q424), (.ref q555), rfl, P570, ((pList pInt).mono (S568.trans S571) h437), h569, _, _, hw, fun r572 hw H573 s574 => ?_, (fun er hc hw => errUp T565 (ss_skip ss_refl) (he er (absurd hc (List.not_mem_nil)) hw))⟩
          have P575 := dom_up s574 P570
          have T576 := Same.trans T565 s574
          have e577 := s574 _ _ e566
          have S578 : Same (dels H556 (q1 :: ps)) (dels H573 (q1 :: ps)) := Sd (q1 :: ps) s574
          refine ixI (sqL (Same.trans (S13.trans (S23.trans (S396.trans (S436.trans (S439.trans (S568.trans (S571.trans S578))))))) Su) h_a) hw.1 (tNil_i (appO (p := pInt) (d := (ixG x_a r572)) e577 (AllR.mono (S436.trans (S439.trans (S568.trans (S571.trans S578)))) r399) hw.2.1 rfl (fun H579 f580 us581 e582 r583 l584 => ?_)))
          have P585 := dom_off f580 e582 P575
          have T586 := st_off T576 f580 z9
          have S587 : Same (dels H573 (q1 :: ps)) (dels H579 (q1 :: ps)) := So (List.mem_cons_self ..) f580
          obtain ⟨y588, r589, l590, hw⟩ := letO hw.2.2 r583 l584
          exact nxS_i (s := (y588)) ⟨_, _, _, _, us581, rfl, (S396.trans (S436.trans (S439.trans (S568.trans (S571.trans (S578.trans S587)))))), P585, T586, e582, (AllR.mono S587 r589), l590, trivial⟩ hw
  obtain ⟨j410, j411, j412, j413, us417, rfl, S416, P414, T415, e418, r419, l420, _⟩ := hr
  refine tRet_j (tVar_i (v := (.ref q1)) rfl (?_))
  exact hk _ hw _ _ _ T415 z9 e418 r419 l420
def sp_check_number (K : PySem.W.Frag) (t : Tab) : Sp := fun vs H Q E => ∃ (ps : List Addr) (x_number : Int) (x_low : Int) (x_high : Int), vs = [(.int x_number), (.int x_low), (.int x_high)] ∧ (∀ x ∈ ps, H x ≠ none) ∧ ∃ (k : Unit → Prop) (e : PErr → Prop), w_check_number x_number x_low x_high k e ∧ (∀ r, k r → RetI (fun _ => V.non) H Q r) ∧ (∀ er, er.cls ∈ ([2] : List Nat) → e er → ErrK ps t.cl H E er)
theorem len_check_number : ∀ vs H Q E, sp_check_number K t vs H Q E → vs.length = (["number", "low", "high"] : List Str).length := by
  rintro vs H Q E ⟨_, _, _, _, rfl, _⟩
  rfl
theorem ok_check_number (T : Txt K mg t) : FnOk P w K mg base (L2.CX P w) 3 t.a_check_number t.fd_check_number ["number", "low", "high"] (sp_check_number K t) := by
  have G_NumberError_init := ok_NumberError_init (P := P) (w := w) (base := base) T
  refine T.F_check_number.okX sc_check_number len_check_number (fun cdv A outer s H vs Q E hr h => ?_)
  have nd := sc_check_number.nd
  refine ⟨_, (pss_one (ps_if (PW.pt (pw_or (pt_cmpR op_lt (pv 0) (pv 1) (by first | exact nomark _ | rfl)) (pw_or1 (pt_cmpR op_gt (pv 0) (pv 2) (by first | exact nomark _ | rfl))))) (pss_one (ps_raise rfl (takes_of rfl rfl rfl rfl) (pmk_oex T.x_NumberError T.xi_NumberError T.xt_NumberError G_NumberError_init (hr.mono (by decide)) T.b_NumberError_init .nil passLF (by rfl) T.g_NumberError (pa_cons (pv 0) pa_nil)))) pss_nil)), ?_⟩
  obtain ⟨ps, x_number, x_low, x_high, rfl, P0, k, e, hw, hk, he⟩ := h
  unfold w_check_number at hw
  refine tIfS_j (tOrP (b := (decide (x_number < x_low))) (c := (decide (x_number > x_high))) (fun R hR => tTest_i (tOp_i (tVar_i (v := (.int x_number)) rfl (tVar_i (v := (.int x_low)) rfl (rI0_i (IsBl_i (hR))))))) (fun g2 R hR => tTest_i (tOp_i (tVar_i (v := (.int x_number)) rfl (tVar_i (v := (.int x_high)) rfl (rI0_i (IsBl_i (hR))))))) (?_))
  refine Br_two hw (fun c3 hw => ?_) (fun c3 hw => ?_)
  · refine tMkO_i (tCons_i (tVar_i (v := (.int x_number)) rfl (tNil_i (?_))))
    exact mkO1n T.x_NumberError T.xn_NumberError_number (raiseK (he _ (by simp) hw) (Same.refl H) P0)
  · refine tNext_j (?_)
    exact hk _ hw _ (Same.refl H)
def sp_is_odd_prime (K : PySem.W.Frag) (t : Tab) : Sp := fun vs H Q E => ∃ (ps : List Addr) (x_number : Int), vs = [(.int x_number)] ∧ (∀ x ∈ ps, H x ≠ none) ∧ ∃ (k : Bool → Prop) (e : PErr → Prop), w_is_odd_prime x_number k e ∧ (∀ r, k r → RetI V.bl H Q r) ∧ (∀ er, er.cls ∈ ([2] : List Nat) → e er → ErrK ps t.cl H E er)
theorem len_is_odd_prime : ∀ vs H Q E, sp_is_odd_prime K t vs H Q E → vs.length = (["number"] : List Str).length := by
  rintro vs H Q E ⟨_, _, rfl, _⟩
  rfl
theorem ok_is_odd_prime (T : Txt K mg t) : FnOk P w K mg base (L2.CX P w) 4 t.a_is_odd_prime t.fd_is_odd_prime ["number"] (sp_is_odd_prime K t) := by
  have G_check_number := ok_check_number (P := P) (w := w) (base := base) T
  refine T.F_is_odd_prime.okX sc_is_odd_prime len_is_odd_prime (fun cdv A outer s H vs Q E hr h => ?_)
  have nd := sc_is_odd_prime.nd
  refine ⟨_, (pss_cons (ps_expr (pe_callS G_check_number (hr.mono (by decide)) (by rfl) T.g_check_number T.F_check_number.kp T.b_check_number (fun σ => passAt (takes_of rfl rfl rfl rfl) σ) (pa_cons (pv 0) (pa_cons (pe_int) (pa_cons (pe_glob (v := .int 997) (by rfl) T.g_MOST ⟨_, rfl⟩) pa_nil)))))
    (pss_cons (ps_if (PW.pt (pw_or (pt_cmpR op_lt (pv 0) (pe_int) (by first | exact nomark _ | rfl)) (pw_or1 (pt_cmpR (op_eqUK K hr) (pe_op op_modP (pv 0) (pe_int)) (pe_int) (by first | exact nomark _ | rfl))))) (pss_one (ps_ret (pe_bl))) pss_nil)
    (pss_cons (ps_set (i := 1) nd rfl (Or.inl rfl) (pe_int))
    (pss_cons (ps_while (passes_of rfl) (pt_cmpR op_le (pe_op op_mulU (pv 1) (pv 1)) (pv 0) (by first | exact nomark _ | rfl)) (pss_cons (ps_if (pt_cmpR (op_eqUK K hr) (pe_op op_modP (pv 0) (pv 1)) (pe_int) (by first | exact nomark _ | rfl)) (pss_one (ps_ret (pe_bl))) pss_nil)
    (pss_one (ps_set (i := 1) nd rfl (Or.inl rfl) (pe_op (op_addUK K) (pv 1) (pe_int))))))
    (pss_one (ps_ret (pe_bl))))))), ?_⟩
  obtain ⟨ps, x_number, rfl, P0, k, e, hw, hk, he⟩ := h
  unfold w_is_odd_prime at hw
  refine tSeq_j (tDrop_j (tCallS_i (tCons_i (tVar_i (v := (.int x_number)) rfl (tCons_i (tC_i (tCons_i (tC_i (tNil_i (?_))))))))))
  refine ⟨ps, x_number, (0 : Int), (997 : Int), rfl, P0, _, _, hw, fun r1 hw H2 s3 => ?_, (fun er hc hw => errUp (Same.refl H) ss_refl (he er (by simp only [List.mem_cons, List.not_mem_nil, or_false] at hc ⊢; omega) hw))⟩
  have P4 := dom_up s3 P0
  have T5 := Same.trans (Same.refl H) s3
  have S6 : Same (dels H ps) (dels H2 ps) := Sd ps s3
  refine tSeq_j (tIfS_j (tOrP (b := (decide (x_number < (3 : Int)))) (c := (decide ((x_number % (2 : Int)) = (0 : Int)))) (fun R hR => tTest_i (tOp_i (tVar_i (v := (.int x_number)) rfl (tC_i (rI0_i (IsBl_i (hR))))))) (fun g8 R hR => tTest_i (tOp_i (tOp_i (tVar_i (v := (.int x_number)) rfl (tC_i (rModP_i (hw.1 g8) (tC_i (rEqU_i (IsBl_i (hR)))))))))) (?_)))
  refine Br_two hw.2 (fun c9 hw => ?_) (fun c9 hw => ?_)
  · refine tRet_j (tC_i (?_))
    exact hk _ hw _ T5
  · refine tNext_j (tSeq_j (tAsg_j (tC_i (gN (σ' := [some (.int x_number), some (.int (3 : Int))]) rfl (tSeq_j (?_))))))
    refine whileW (s0 := ((3 : Int))) hw (fun (s17 : Int) (σ19 : L2.St) (H18 : Hp) => σ19 = [some (.int x_number), some (.int s17)] ∧ Same (dels H2 ps) (dels H18 ps) ∧ (∀ x ∈ ps, H18 x ≠ none) ∧ Same H H18 ∧ True) ⟨rfl, (Same.refl _), P4, T5, trivial⟩ (fun s17 σ19 H18 nx23 WB25 hr hw hWB26 => ?_)
    obtain ⟨rfl, S22, P20, T21, _⟩ := hr
    refine tTest_i (tOp_i (tOp_i (tVar_i (v := (.int s17)) rfl (tVar_i (v := (.int s17)) rfl (rMulU_i hw.1 (tVar_i (v := (.int x_number)) rfl (rI0_i (IsBl_i (?_)))))))))
    refine Br_two hw.2 (fun c27 hw => hWB26 _ _ ?_) (fun c27 hw => ?_)
    · refine tSeq_j (tIfS_j (tTest_i (tOp_i (tOp_i (tVar_i (v := (.int x_number)) rfl (tVar_i (v := (.int s17)) rfl (rModP_i hw.1 (tC_i (rEqU_i (IsBl_i (?_)))))))))))
      refine Br_two hw.2 (fun c28 hw => ?_) (fun c28 hw => ?_)
      · refine tRet_j (tC_i (?_))
        exact hk _ hw _ T21
      · refine tNext_j (tAsg_j (tOp_i (tVar_i (v := (.int s17)) rfl (tC_i (rAddU_i (?_))))))
        refine asgIL (f := V.int) (e := (s17 + (2 : Int))) (g := fun y29 => [some (.int x_number), some (.int y29)]) hw (fun _ => rfl) (fun y29 hw => ?_)
        exact nxS_i (s := (y29)) ⟨rfl, S22, P20, T21, trivial⟩ hw
    refine tRet_j (tC_i (?_))
    exact hk _ hw _ T21
def sp_look_prime (K : PySem.W.Frag) (t : Tab) : Sp := fun vs H Q E => ∃ (ps : List Addr) (x_prime : Int), vs = [(.int x_prime)] ∧ (∀ x ∈ ps, H x ≠ none) ∧ ∃ (k : Unit → Prop) (e : PErr → Prop), w_look_prime x_prime k e ∧ (∀ r, k r → RetI (fun _ => V.non) H Q r) ∧ (∀ er, er.cls ∈ ([2] : List Nat) → e er → ErrK ps t.cl H E er)
theorem len_look_prime : ∀ vs H Q E, sp_look_prime K t vs H Q E → vs.length = (["prime"] : List Str).length := by
  rintro vs H Q E ⟨_, _, rfl, _⟩
  rfl
theorem ok_look_prime (T : Txt K mg t) : FnOk P w K mg base (L2.CX P w) 5 t.a_look_prime t.fd_look_prime ["prime"] (sp_look_prime K t) := by
  have G_is_odd_prime := ok_is_odd_prime (P := P) (w := w) (base := base) T
  have G_NumberError_init := ok_NumberError_init (P := P) (w := w) (base := base) T
  refine T.F_look_prime.okX sc_look_prime len_look_prime (fun cdv A outer s H vs Q E hr h => ?_)
  have nd := sc_look_prime.nd
  refine ⟨_, (pss_one (ps_if (pt_not (pt_truthK K (pe_callS G_is_odd_prime (hr.mono (by decide)) (by rfl) T.g_is_odd_prime T.F_is_odd_prime.kp T.b_is_odd_prime (fun σ => passAt (takes_of rfl rfl rfl rfl) σ) (pa_cons (pv 0) pa_nil)))) (pss_one (ps_raise rfl (takes_of rfl rfl rfl rfl) (pmk_oex T.x_NumberError T.xi_NumberError T.xt_NumberError G_NumberError_init (hr.mono (by decide)) T.b_NumberError_init .nil passLF (by rfl) T.g_NumberError (pa_cons (pv 0) pa_nil)))) pss_nil)), ?_⟩
  obtain ⟨ps, x_prime, rfl, P0, k, e, hw, hk, he⟩ := h
  unfold w_look_prime at hw
  refine tIfS_j (tNot_i (tTruth_i (tCallS_i (tCons_i (tVar_i (v := (.int x_prime)) rfl (tNil_i (?_)))))))
  refine ⟨ps, x_prime, rfl, P0, _, _, hw, fun r1 hw H2 s3 => ?_, (fun er hc hw => errUp (Same.refl H) ss_refl (he er (by simp only [List.mem_cons, List.not_mem_nil, or_false] at hc ⊢; omega) hw))⟩
  have P4 := dom_up s3 P0
  have T5 := Same.trans (Same.refl H) s3
  have S6 : Same (dels H ps) (dels H2 ps) := Sd ps s3
  refine Tru_b (?_)
  refine Br_two hw (fun c7 hw => ?_) (fun c7 hw => ?_)
  · refine tMkO_i (tCons_i (tVar_i (v := (.int x_prime)) rfl (tNil_i (?_))))
    exact mkO1n T.x_NumberError T.xn_NumberError_number (raiseK (he _ (by simp) hw) T5 P4)
  · refine tNext_j (?_)
    exact hk _ hw _ T5
def sp_look_number (K : PySem.W.Frag) (t : Tab) : Sp := fun vs H Q E => ∃ (ps : List Addr) (x_number : Int) (x_low : Int) (x_high : Int), vs = [(.int x_number), (.int x_low), (.int x_high)] ∧ (∀ x ∈ ps, H x ≠ none) ∧ ∃ (k : Unit → Prop) (e : PErr → Prop), w_look_number x_number x_low x_high k e ∧ (∀ r, k r → RetI (fun _ => V.non) H Q r) ∧ (∀ er, er.cls ∈ ([2] : List Nat) → e er → ErrK ps t.cl H E er)
theorem len_look_number : ∀ vs H Q E, sp_look_number K t vs H Q E → vs.length = (["number", "low", "high"] : List Str).length := by
  rintro vs H Q E ⟨_, _, _, _, rfl, _⟩
  rfl
theorem ok_look_number (T : Txt K mg t) : FnOk P w K mg base (L2.CX P w) 3 t.a_look_number t.fd_look_number ["number", "low", "high"] (sp_look_number K t) := by
  have G_NumberError_init := ok_NumberError_init (P := P) (w := w) (base := base) T
  refine T.F_look_number.okX sc_look_number len_look_number (fun cdv A outer s H vs Q E hr h => ?_)
  have nd := sc_look_number.nd
  refine ⟨_, (pss_one (ps_if (PW.pt (pw_or (pt_cmpR op_lt (pv 0) (pv 1) (by first | exact nomark _ | rfl)) (pw_or1 (pt_cmpR op_gt (pv 0) (pv 2) (by first | exact nomark _ | rfl))))) (pss_one (ps_raise rfl (takes_of rfl rfl rfl rfl) (pmk_oex T.x_NumberError T.xi_NumberError T.xt_NumberError G_NumberError_init (hr.mono (by decide)) T.b_NumberError_init .nil passLF (by rfl) T.g_NumberError (pa_cons (pv 0) pa_nil)))) pss_nil)), ?_⟩
  obtain ⟨ps, x_number, x_low, x_high, rfl, P0, k, e, hw, hk, he⟩ := h
  unfold w_look_number at hw
  refine tIfS_j (tOrP (b := (decide (x_number < x_low))) (c := (decide (x_number > x_high))) (fun R hR => tTest_i (tOp_i (tVar_i (v := (.int x_number)) rfl (tVar_i (v := (.int x_low)) rfl (rI0_i (IsBl_i (hR))))))) (fun g2 R hR => tTest_i (tOp_i (tVar_i (v := (.int x_number)) rfl (tVar_i (v := (.int x_high)) rfl (rI0_i (IsBl_i (hR))))))) (?_))
  refine Br_two hw (fun c3 hw => ?_) (fun c3 hw => ?_)
  · refine tMkO_i (tCons_i (tVar_i (v := (.int x_number)) rfl (tNil_i (?_))))
    exact mkO1n T.x_NumberError T.xn_NumberError_number (raiseK (he _ (by simp) hw) (Same.refl H) P0)
  · refine tNext_j (?_)
    exact hk _ hw _ (Same.refl H)
def sp_look_list (K : PySem.W.Frag) (t : Tab) : Sp := fun vs H Q E => ∃ (ps : List Addr) (x_items : (List Int)) (x_low : Int) (x_high : Int) (v_items : V), vs = [v_items, (.int x_low), (.int x_high)] ∧ (∀ x ∈ ps, H x ≠ none) ∧ (pList pInt).rep (dels H ps) v_items x_items ∧ ∃ (k : Unit → Prop) (e : PErr → Prop), w_look_list x_items x_low x_high k e ∧ (∀ r, k r → RetI (fun _ => V.non) H Q r) ∧ (∀ er, er.cls ∈ ([1] : List Nat) → e er → ErrK ps t.cl H E er)
theorem len_look_list : ∀ vs H Q E, sp_look_list K t vs H Q E → vs.length = (["items", "low", "high"] : List Str).length := by
  rintro vs H Q E ⟨_, _, _, _, _, rfl, _⟩
  rfl
theorem ok_look_list (T : Txt K mg t) : FnOk P w K mg base (L2.CX P w) 3 t.a_look_list t.fd_look_list ["items", "low", "high"] (sp_look_list K t) := by
  have G_SizeError_init := ok_SizeError_init (P := P) (w := w) (base := base) T
  refine T.F_look_list.okX sc_look_list len_look_list (fun cdv A outer s H vs Q E hr h => ?_)
  have nd := sc_look_list.nd
  refine ⟨_, (pss_one (ps_if (PW.pt (pw_or (pt_cmpR op_lt (pe_callB (call_lenK K) (by rfl) T.n_len (by decide +kernel) (pa_cons (pv 0) pa_nil)) (pv 1) (by first | exact nomark _ | rfl)) (pw_or1 (pt_cmpR op_gt (pe_callB (call_lenK K) (by rfl) T.n_len (by decide +kernel) (pa_cons (pv 0) pa_nil)) (pv 2) (by first | exact nomark _ | rfl))))) (pss_one (ps_raise rfl (takes_of rfl rfl rfl rfl) (pmk_oex T.x_SizeError T.xi_SizeError T.xt_SizeError G_SizeError_init (hr.mono (by decide)) T.b_SizeError_init .nil passLF (by rfl) T.g_SizeError (pa_cons (pe_callB (call_lenK K) (by rfl) T.n_len (by decide +kernel) (pa_cons (pv 0) pa_nil)) pa_nil)))) pss_nil)), ?_⟩
  obtain ⟨ps, x_items, x_low, x_high, v_items, rfl, P0, h_items, k, e, hw, hk, he⟩ := h
  unfold w_look_list at hw
  refine tIfS_j (tOrP (b := (decide ((x_items.length : Int) < x_low))) (c := (decide ((x_items.length : Int) > x_high))) (fun R hR => tTest_i (tOp_i (tCB_i (tCons_i (tVar_i (v := v_items) rfl (tNil_i (lenS (sqL Su h_items) (tVar_i (v := (.int x_low)) rfl (rI0_i (IsBl_i (hR))))))))))) (fun g2 R hR => tTest_i (tOp_i (tCB_i (tCons_i (tVar_i (v := v_items) rfl (tNil_i (lenS (sqL Su h_items) (tVar_i (v := (.int x_high)) rfl (rI0_i (IsBl_i (hR))))))))))) (?_))
  refine Br_two hw (fun c3 hw => ?_) (fun c3 hw => ?_)
  · refine tMkO_i (tCons_i (tCB_i (tCons_i (tVar_i (v := v_items) rfl (tNil_i (lenS (sqL Su h_items) (tNil_i (?_))))))))
    exact mkO1n T.x_SizeError T.xn_SizeError_count (raiseK (he _ (by simp) hw) (Same.refl H) P0)
  · refine tNext_j (?_)
    exact hk _ hw _ (Same.refl H)
def sp_look_residue (K : PySem.W.Frag) (t : Tab) : Sp := fun vs H Q E => ∃ (ps : List Addr) (x_prime : Int) (x_number : Int), vs = [(.int x_prime), (.int x_number)] ∧ (∀ x ∈ ps, H x ≠ none) ∧ ∃ (k : Unit → Prop) (e : PErr → Prop), w_look_residue x_prime x_number k e ∧ (∀ r, k r → RetI (fun _ => V.non) H Q r) ∧ (∀ er, er.cls ∈ ([2] : List Nat) → e er → ErrK ps t.cl H E er)
theorem len_look_residue : ∀ vs H Q E, sp_look_residue K t vs H Q E → vs.length = (["prime", "number"] : List Str).length := by
  rintro vs H Q E ⟨_, _, _, rfl, _⟩
  rfl
theorem ok_look_residue (T : Txt K mg t) : FnOk P w K mg base (L2.CX P w) 3 t.a_look_residue t.fd_look_residue ["prime", "number"] (sp_look_residue K t) := by
  have G_NumberError_init := ok_NumberError_init (P := P) (w := w) (base := base) T
  refine T.F_look_residue.okX sc_look_residue len_look_residue (fun cdv A outer s H vs Q E hr h => ?_)
  have nd := sc_look_residue.nd
  refine ⟨_, (pss_one (ps_if (PW.pt (pw_or (pt_cmpR op_lt (pv 1) (pe_int) (by first | exact nomark _ | rfl)) (pw_or1 (pt_cmpR op_ge (pv 1) (pv 0) (by first | exact nomark _ | rfl))))) (pss_one (ps_raise rfl (takes_of rfl rfl rfl rfl) (pmk_oex T.x_NumberError T.xi_NumberError T.xt_NumberError G_NumberError_init (hr.mono (by decide)) T.b_NumberError_init .nil passLF (by rfl) T.g_NumberError (pa_cons (pv 1) pa_nil)))) pss_nil)), ?_⟩
  obtain ⟨ps, x_prime, x_number, rfl, P0, k, e, hw, hk, he⟩ := h
  unfold w_look_residue at hw
  refine tIfS_j (tOrP (b := (decide (x_number < (0 : Int)))) (c := (decide (x_number ≥ x_prime))) (fun R hR => tTest_i (tOp_i (tVar_i (v := (.int x_number)) rfl (tC_i (rI0_i (IsBl_i (hR))))))) (fun g2 R hR => tTest_i (tOp_i (tVar_i (v := (.int x_number)) rfl (tVar_i (v := (.int x_prime)) rfl (rI0_i (IsBl_i (hR))))))) (?_))
  refine Br_two hw (fun c3 hw => ?_) (fun c3 hw => ?_)
  · refine tMkO_i (tCons_i (tVar_i (v := (.int x_number)) rfl (tNil_i (?_))))
    exact mkO1n T.x_NumberError T.xn_NumberError_number (raiseK (he _ (by simp) hw) (Same.refl H) P0)
  · refine tNext_j (?_)
    exact hk _ hw _ (Same.refl H)
def sp_look_residues (K : PySem.W.Frag) (t : Tab) : Sp := fun vs H Q E => ∃ (ps : List Addr) (x_prime : Int) (x_items : (List Int)) (x_count : Int) (v_items : V), vs = [(.int x_prime), v_items, (.int x_count)] ∧ (∀ x ∈ ps, H x ≠ none) ∧ (pList pInt).rep (dels H ps) v_items x_items ∧ ∃ (k : Unit → Prop) (e : PErr → Prop), w_look_residues x_prime x_items x_count k e ∧ (∀ r, k r → RetI (fun _ => V.non) H Q r) ∧ (∀ er, er.cls ∈ ([1, 2] : List Nat) → e er → ErrK ps t.cl H E er)
theorem len_look_residues : ∀ vs H Q E, sp_look_residues K t vs H Q E → vs.length = (["prime", "items", "count"] : List Str).length := by
  rintro vs H Q E ⟨_, _, _, _, _, rfl, _⟩
  rfl
theorem ok_look_residues (T : Txt K mg t) : FnOk P w K mg base (L2.CX P w) 4 t.a_look_residues t.fd_look_residues ["prime", "items", "count"] (sp_look_residues K t) := by
  have G_look_list := ok_look_list (P := P) (w := w) (base := base) T
  have G_look_residue := ok_look_residue (P := P) (w := w) (base := base) T
  refine T.F_look_residues.okX sc_look_residues len_look_residues (fun cdv A outer s H vs Q E hr h => ?_)
  have nd := sc_look_residues.nd
  refine ⟨_, (pss_cons (ps_expr (pe_callS G_look_list (hr.mono (by decide)) (by rfl) T.g_look_list T.F_look_list.kp T.b_look_list (fun σ => passAt (takes_of rfl rfl rfl rfl) σ) (pa_cons (pv 1) (pa_cons (pv 2) (pa_cons (pv 2) pa_nil)))))
    (pss_one (ps_for (passes_of rfl) rfl (pi_UK K (pv 1)) (pg_name (i := 3) nd rfl (Or.inl rfl))
    (pss_one (ps_expr (pe_callS G_look_residue (hr.mono (by decide)) (by rfl) T.g_look_residue T.F_look_residue.kp T.b_look_residue (fun σ => passAt (takes_of rfl rfl rfl rfl) σ) (pa_cons (pv 0) (pa_cons (pv 3) pa_nil)))))))), ?_⟩
  obtain ⟨ps, x_prime, x_items, x_count, v_items, rfl, P0, h_items, k, e, hw, hk, he⟩ := h
  unfold w_look_residues at hw
  refine tSeq_j (tDrop_j (tCallS_i (tCons_i (tVar_i (v := v_items) rfl (tCons_i (tVar_i (v := (.int x_count)) rfl (tCons_i (tVar_i (v := (.int x_count)) rfl (tNil_i (?_))))))))))
  refine ⟨ps, x_items, x_count, x_count, v_items, rfl, P0, h_items, _, _, hw, fun r1 hw H2 s3 => ?_, (fun er hc hw => errUp (Same.refl H) ss_refl (he er (by simp only [List.mem_cons, List.not_mem_nil, or_false] at hc ⊢; omega) hw))⟩
  have P4 := dom_up s3 P0
  have T5 := Same.trans (Same.refl H) s3
  have S6 : Same (dels H ps) (dels H2 ps) := Sd ps s3
  refine tFor_j (wL (tVar_i (v := v_items) rfl (?_)))
  obtain ⟨a19, us20, hv21, hS22, hr23, hl24⟩ := (lFro (K := K) ((pList pInt).mono S6 h_items))
  refine WL_v hv21 (Same.seq Su hS22) (forL (s0 := ()) hw hr23 (fun (s25 : Unit) (σ27 : L2.St) (H26 : Hp) => ∃ (j28 : Option V), σ27 = [some (.int x_prime), some v_items, some (.int x_count), j28] ∧ Same (dels H2 ps) (dels H26 ps) ∧ (∀ x ∈ ps, H26 x ≠ none) ∧ Same H H26 ∧ True) ⟨_, rfl, (Same.refl _), P4, T5, trivial⟩ (fun s25 σ27 H26 ⟨j28, _, S31, P29, T30, _⟩ => (Same.seq (Same.trans S31 Su) hS22)) (fun d34 s25 σ27 H26 x35 nx32 hr hi36 hw => ?_) (fun s38 σ40 H39 hr hw => ?_))
  · obtain ⟨j28, rfl, S31, P29, T30, _⟩ := hr
    obtain rfl : x35 = (.int d34) := hi36
    refine gN (σ' := [some (.int x_prime), some v_items, some (.int x_count), some (.int d34)]) rfl (tDrop_j (tCallS_i (tCons_i (tVar_i (v := (.int x_prime)) rfl (tCons_i (tVar_i (v := (.int d34)) rfl (tNil_i (?_))))))))
    refine ⟨ps, x_prime, d34, rfl, P29, _, _, hw, fun r45 hw H46 s47 => ?_, (fun er hc hw => errUp T30 ss_refl (he er (by simp only [List.mem_cons, List.not_mem_nil, or_false] at hc ⊢; omega) hw))⟩
    have P48 := dom_up s47 P29
    have T49 := Same.trans T30 s47
    have S50 : Same (dels H26 ps) (dels H46 ps) := Sd ps s47
    exact nxS_i (s := (())) ⟨_, rfl, (S31.trans S50), P48, T49, trivial⟩ hw
  obtain ⟨j41, rfl, S44, P42, T43, _⟩ := hr
  exact hk _ hw _ T43
def sp_Table_init (K : PySem.W.Frag) (t : Tab) : Sp := fun vs H Q E => ∃ (ps : List Addr) (x_prime : Int) (x_ends : Int) (x_entries : (List Int)) (n0 dx : Addr) (v_entries : V), vs = [.ref n0, (.int x_prime), (.int x_ends), v_entries] ∧ (∀ x ∈ ps, H x ≠ none) ∧ n0 ∈ ps ∧ H n0 = some (.ins t.c_Table dx []) ∧ (pList pInt).rep (dels H ps) v_entries x_entries ∧ ∃ (k : (Int × Int × (List Int)) → Prop) (e : PErr → Prop), w_Table_init x_prime x_ends x_entries k e ∧ (∀ r, k r → RetF ps t.c_Table dx n0 ["prime", "ends", "entries"] (rCons pInt (rCons pInt (rOne (pVt K pInt)))) H Q r) ∧ (∀ er, er.cls ∈ ([1, 2] : List Nat) → e er → ErrK ps t.cl (del H n0) E er)
theorem len_Table_init : ∀ vs H Q E, sp_Table_init K t vs H Q E → vs.length = (["self", "prime", "ends", "entries"] : List Str).length := by
  rintro vs H Q E ⟨_, _, _, _, _, _, _, rfl, _⟩
  rfl
theorem ok_Table_init (T : Txt K mg t) : FnOk P w K mg base (L2.CX P w) 6 t.a_Table_init t.fd_Table_init ["self", "prime", "ends", "entries"] (sp_Table_init K t) := by
  have G_look_prime := ok_look_prime (P := P) (w := w) (base := base) T
  have G_look_number := ok_look_number (P := P) (w := w) (base := base) T
  have G_look_residues := ok_look_residues (P := P) (w := w) (base := base) T
  refine T.F_Table_init.okX sc_Table_init len_Table_init (fun cdv A outer s H vs Q E hr h => ?_)
  have nd := sc_Table_init.nd
  refine ⟨_, (pss_cons (ps_expr (pe_callS G_look_prime (hr.mono (by decide)) (by rfl) T.g_look_prime T.F_look_prime.kp T.b_look_prime (fun σ => passAt (takes_of rfl rfl rfl rfl) σ) (pa_cons (pv 1) pa_nil)))
    (pss_cons (ps_expr (pe_callS G_look_number (hr.mono (by decide)) (by rfl) T.g_look_number T.F_look_number.kp T.b_look_number (fun σ => passAt (takes_of rfl rfl rfl rfl) σ) (pa_cons (pv 2) (pa_cons (pe_int) (pa_cons (pe_glob (v := .int 6) (by rfl) T.g_MOST_ENDS ⟨_, rfl⟩) pa_nil)))))
    (pss_cons (ps_expr (pe_callS G_look_residues (hr.mono (by decide)) (by rfl) T.g_look_residues T.F_look_residues.kp T.b_look_residues (fun σ => passAt (takes_of rfl rfl rfl rfl) σ) (pa_cons (pv 1) (pa_cons (pv 3) (pa_cons (pe_op op_shl (pe_int) (pv 2)) pa_nil)))))
    (pss_cons (ps_fldK K (pv 0) (pv 1) rfl)
    (pss_cons (ps_fldK K (pv 0) (pv 2) rfl)
    (pss_one (ps_fldK K (pv 0) (pe_callTy (call_tuple_ofK K) (by rfl) T.n_tuple (by decide +kernel) (pa_cons (pv 3) pa_nil)) rfl))))))), ?_⟩
  obtain ⟨ps, x_prime, x_ends, x_entries, n0, dx, v_entries, rfl, P0, hmem, e0, h_entries, k, e, hw, hk, he⟩ := h
  unfold w_Table_init at hw
  refine tSeq_j (tDrop_j (tCallS_i (tCons_i (tVar_i (v := (.int x_prime)) rfl (tNil_i (?_))))))
  refine ⟨ps, x_prime, rfl, P0, _, _, hw, fun r1 hw H2 s3 => ?_, (fun er hc hw => errUp (Same.undel (D := n0)) ss_refl (he er (by simp only [List.mem_cons, List.not_mem_nil, or_false] at hc ⊢; omega) hw))⟩
  have P4 := dom_up s3 P0
  have T5 := Same.trans (Same.undel (D := n0)) s3
  have e6 := s3 _ _ e0
  have S7 : Same (dels H ps) (dels H2 ps) := Sd ps s3
  refine tSeq_j (tDrop_j (tCallS_i (tCons_i (tVar_i (v := (.int x_ends)) rfl (tCons_i (tC_i (tCons_i (tC_i (tNil_i (?_))))))))))
  refine ⟨ps, x_ends, (0 : Int), (6 : Int), rfl, P4, _, _, hw, fun r8 hw H9 s10 => ?_, (fun er hc hw => errUp T5 ss_refl (he er (by simp only [List.mem_cons, List.not_mem_nil, or_false] at hc ⊢; omega) hw))⟩
  have P11 := dom_up s10 P4
  have T12 := Same.trans T5 s10
  have e13 := s10 _ _ e6
  have S14 : Same (dels H2 ps) (dels H9 ps) := Sd ps s10
  refine tSeq_j (tDrop_j (tCallS_i (tCons_i (tVar_i (v := (.int x_prime)) rfl (tCons_i (tVar_i (v := v_entries) rfl (tCons_i (tOp_i (tC_i (tVar_i (v := (.int x_ends)) rfl (rI_i hw.1 (tNil_i (?_)))))))))))))
  refine ⟨ps, x_prime, x_entries, ((1 : Int) * 2 ^ Int.toNat x_ends), v_entries, rfl, P11, ((pList pInt).mono (S7.trans S14) h_entries), _, _, hw.2, fun r15 hw H16 s17 => ?_, (fun er hc hw => errUp T12 ss_refl (he er (by simp only [List.mem_cons, List.not_mem_nil, or_false] at hc ⊢; omega) hw))⟩
  have P18 := dom_up s17 P11
  have T19 := Same.trans T12 s17
  have e20 := s17 _ _ e13
  have S21 : Same (dels H9 ps) (dels H16 ps) := Sd ps s17
  refine tSeq_j (sFld_j (tVar_i (v := (.int x_prime)) rfl (tVar_i (v := (.ref n0)) rfl (?_))))
  refine setF_i (fs' := [("prime", (.int x_prime))]) e20 T.own_Table.cl T.na_Table_prime (by first | rfl | simp [putF]) (Nat.lt_of_succ_le (Nat.le_of_ble_eq_true rfl)) (fun H22 f23 e24 => ?_)
  have P25 := dom_off f23 e24 P18
  have T26 := st_off T19 f23 del_same
  have S27 : Same (dels H16 ps) (dels H22 ps) := So hmem f23
  refine tSeq_j (sFld_j (tVar_i (v := (.int x_ends)) rfl (tVar_i (v := (.ref n0)) rfl (?_))))
  refine setF_i (fs' := [("prime", (.int x_prime)), ("ends", (.int x_ends))]) e24 T.own_Table.cl T.na_Table_ends (by first | rfl | simp [putF]) (Nat.lt_of_succ_le (Nat.le_of_ble_eq_true rfl)) (fun H28 f29 e30 => ?_)
  have P31 := dom_off f29 e30 P25
  have T32 := st_off T26 f29 del_same
  have S33 : Same (dels H22 ps) (dels H28 ps) := So hmem f29
  refine sFld_j (tCB_i (tCons_i (tVar_i (v := v_entries) rfl (tNil_i (tupL (slL (Same.trans (S7.trans (S14.trans (S21.trans (S27.trans S33)))) Su) h_entries) (fun q34 H35 n36 s37 us38 e39 r40 l41 => ?_))))))
  have P43 := dom_up s37 P31
  have T44 := Same.trans T32 s37
  have e45 := s37 _ _ e30
  have S46 : Same (dels H28 ps) (dels H35 ps) := Sd ps s37
  have h42 : (pVt K pInt).rep (dels H35 ps) (.ref q34) x_entries := vtR (dels_at e39 (nin_of n36 P31)) (AllR.mono (S7.trans (S14.trans (S21.trans (S27.trans (S33.trans S46))))) r40) l41
  refine tVar_i (v := (.ref n0)) rfl (?_)
  refine setF_i (fs' := [("prime", (.int x_prime)), ("ends", (.int x_ends)), ("entries", (.ref q34))]) e45 T.own_Table.cl T.na_Table_entries (by first | rfl | simp [putF]) (Nat.lt_of_succ_le (Nat.le_of_ble_eq_true rfl)) (fun H47 f48 e49 => ?_)
  have P50 := dom_off f48 e49 P43
  have T51 := st_off T44 f48 del_same
  have S52 : Same (dels H35 ps) (dels H47 ps) := So hmem f48
  exact hk _ hw _ _ T51 e49 rfl (rowC rfl (rowC rfl (rowO ((pVt K pInt).mono S52 h42))))
def sp_check_lot (K : PySem.W.Frag) (t : Tab) : Sp := fun vs H Q E => ∃ (ps : List Addr) (x_count : Int) (x_lot : Int), vs = [(.int x_count), (.int x_lot)] ∧ (∀ x ∈ ps, H x ≠ none) ∧ ∃ (k : Unit → Prop) (e : PErr → Prop), w_check_lot x_count x_lot k e ∧ (∀ r, k r → RetI (fun _ => V.non) H Q r) ∧ (∀ er, er.cls ∈ ([2] : List Nat) → e er → ErrK ps t.cl H E er)
theorem len_check_lot : ∀ vs H Q E, sp_check_lot K t vs H Q E → vs.length = (["count", "lot"] : List Str).length := by
  rintro vs H Q E ⟨_, _, _, rfl, _⟩
  rfl
theorem ok_check_lot (T : Txt K mg t) : FnOk P w K mg base (L2.CX P w) 4 t.a_check_lot t.fd_check_lot ["count", "lot"] (sp_check_lot K t) := by
  have G_check_number := ok_check_number (P := P) (w := w) (base := base) T
  refine T.F_check_lot.okX sc_check_lot len_check_lot (fun cdv A outer s H vs Q E hr h => ?_)
  have nd := sc_check_lot.nd
  refine ⟨_, (pss_cons (ps_expr (pe_callS G_check_number (hr.mono (by decide)) (by rfl) T.g_check_number T.F_check_number.kp T.b_check_number (fun σ => passAt (takes_of rfl rfl rfl rfl) σ) (pa_cons (pv 0) (pa_cons (pe_int) (pa_cons (pe_glob (v := .int 20) (by rfl) T.g_THINGS ⟨_, rfl⟩) pa_nil)))))
    (pss_one (ps_expr (pe_callS G_check_number (hr.mono (by decide)) (by rfl) T.g_check_number T.F_check_number.kp T.b_check_number (fun σ => passAt (takes_of rfl rfl rfl rfl) σ) (pa_cons (pv 1) (pa_cons (pe_int) (pa_cons (pe_op op_sub (pe_op op_shl (pe_int) (pv 0)) (pe_int)) pa_nil))))))), ?_⟩
  obtain ⟨ps, x_count, x_lot, rfl, P0, k, e, hw, hk, he⟩ := h
  unfold w_check_lot at hw
  refine tSeq_j (tDrop_j (tCallS_i (tCons_i (tVar_i (v := (.int x_count)) rfl (tCons_i (tC_i (tCons_i (tC_i (tNil_i (?_))))))))))
  refine ⟨ps, x_count, (0 : Int), (20 : Int), rfl, P0, _, _, hw, fun r1 hw H2 s3 => ?_, (fun er hc hw => errUp (Same.refl H) ss_refl (he er (by simp only [List.mem_cons, List.not_mem_nil, or_false] at hc ⊢; omega) hw))⟩
  have P4 := dom_up s3 P0
  have T5 := Same.trans (Same.refl H) s3
  have S6 : Same (dels H ps) (dels H2 ps) := Sd ps s3
  refine tDrop_j (tCallS_i (tCons_i (tVar_i (v := (.int x_lot)) rfl (tCons_i (tC_i (tCons_i (tOp_i (tOp_i (tC_i (tVar_i (v := (.int x_count)) rfl (rI_i hw.1 (tC_i (rI0_i (tNil_i (?_)))))))))))))))
  refine ⟨ps, x_lot, (0 : Int), (((1 : Int) * 2 ^ Int.toNat x_count) - (1 : Int)), rfl, P4, _, _, hw.2, fun r7 hw H8 s9 => ?_, (fun er hc hw => errUp T5 ss_refl (he er (by simp only [List.mem_cons, List.not_mem_nil, or_false] at hc ⊢; omega) hw))⟩
  have P10 := dom_up s9 P4
  have T11 := Same.trans T5 s9
  have S12 : Same (dels H2 ps) (dels H8 ps) := Sd ps s9
  exact hk _ hw _ T11
def sp_has (K : PySem.W.Frag) (t : Tab) : Sp := fun vs H Q E => ∃ (ps : List Addr) (x_lot : Int) (x_thing : Int), vs = [(.int x_lot), (.int x_thing)] ∧ (∀ x ∈ ps, H x ≠ none) ∧ ∃ (k : Bool → Prop) (e : PErr → Prop), w_has x_lot x_thing k e ∧ (∀ r, k r → RetI V.bl H Q r) ∧ (∀ er, er.cls ∈ ([] : List Nat) → e er → ErrK ps t.cl H E er)
theorem len_has : ∀ vs H Q E, sp_has K t vs H Q E → vs.length = (["lot", "thing"] : List Str).length := by
  rintro vs H Q E ⟨_, _, _, rfl, _⟩
  rfl
theorem ok_has (T : Txt K mg t) : FnOk P w K mg base (L2.CX P w) 1 t.a_has t.fd_has ["lot", "thing"] (sp_has K t) := by
  refine T.F_has.okX sc_has len_has (fun cdv A outer s H vs Q E hr h => ?_)
  have nd := sc_has.nd
  refine ⟨_, (pss_one (ps_ret (pe_cmpR (op_eqUK K hr) (pe_op op_modP (pe_op op_shr (pv 0) (pv 1)) (pe_int)) (pe_int) (by first | exact nomark _ | rfl)))), ?_⟩
  obtain ⟨ps, x_lot, x_thing, rfl, P0, k, e, hw, hk, he⟩ := h
  unfold w_has at hw
  refine tRet_j (tOp_i (tOp_i (tOp_i (tVar_i (v := (.int x_lot)) rfl (tVar_i (v := (.int x_thing)) rfl (rI_i (C := fun _ j => 0 ≤ j) hw.1 (tC_i (rModP_i hw.2.1 (tC_i (rEqU_i (?_)))))))))))
  exact hk _ hw.2.2 _ (Same.refl H)
def sp_turned_lot (K : PySem.W.Frag) (t : Tab) : Sp := fun vs H Q E => ∃ (ps : List Addr) (x_count : Int) (x_lot : Int) (x_by : Int), vs = [(.int x_count), (.int x_lot), (.int x_by)] ∧ (∀ x ∈ ps, H x ≠ none) ∧ ∃ (k : Int → Prop) (e : PErr → Prop), w_turned_lot x_count x_lot x_by k e ∧ (∀ r, k r → RetI V.int H Q r) ∧ (∀ er, er.cls ∈ ([2] : List Nat) → e er → ErrK ps t.cl H E er)
theorem len_turned_lot : ∀ vs H Q E, sp_turned_lot K t vs H Q E → vs.length = (["count", "lot", "by"] : List Str).length := by
  rintro vs H Q E ⟨_, _, _, _, rfl, _⟩
  rfl
theorem ok_turned_lot (T : Txt K mg t) : FnOk P w K mg base (L2.CX P w) 5 t.a_turned_lot t.fd_turned_lot ["count", "lot", "by"] (sp_turned_lot K t) := by
  have G_check_lot := ok_check_lot (P := P) (w := w) (base := base) T
  have G_check_number := ok_check_number (P := P) (w := w) (base := base) T
  have G_has := ok_has (P := P) (w := w) (base := base) T
  refine T.F_turned_lot.okX sc_turned_lot len_turned_lot (fun cdv A outer s H vs Q E hr h => ?_)
  have nd := sc_turned_lot.nd
  refine ⟨_, (pss_cons (ps_expr (pe_callS G_check_lot (hr.mono (by decide)) (by rfl) T.g_check_lot T.F_check_lot.kp T.b_check_lot (fun σ => passAt (takes_of rfl rfl rfl rfl) σ) (pa_cons (pv 0) (pa_cons (pv 1) pa_nil))))
    (pss_cons (ps_expr (pe_callS G_check_number (hr.mono (by decide)) (by rfl) T.g_check_number T.F_check_number.kp T.b_check_number (fun σ => passAt (takes_of rfl rfl rfl rfl) σ) (pa_cons (pv 2) (pa_cons (pe_int) (pa_cons (pv 0) pa_nil)))))
    (pss_cons (ps_set (i := 3) nd rfl (Or.inl rfl) (pe_int))
    (pss_cons (ps_for (passes_of rfl) rfl (pi_range1 (by rfl) T.n_range (pa_cons (pv 0) pa_nil)) (pg_name (i := 4) nd rfl (Or.inl rfl))
    (pss_one (ps_if (pt_truthK K (pe_callS G_has (hr.mono (by decide)) (by rfl) T.g_has T.F_has.kp T.b_has (fun σ => passAt (takes_of rfl rfl rfl rfl) σ) (pa_cons (pv 1) (pa_cons (pe_op op_modP (pe_op (op_addUK K) (pv 4) (pv 2)) (pv 0)) pa_nil)))) (pss_one (ps_set (i := 3) nd rfl (Or.inl rfl) (pe_op (op_addUK K) (pv 3) (pe_op op_shl (pe_int) (pv 4))))) pss_nil)))
    (pss_one (ps_ret (pv 3))))))), ?_⟩
  obtain ⟨ps, x_count, x_lot, x_by, rfl, P0, k, e, hw, hk, he⟩ := h
  unfold w_turned_lot at hw
  refine tSeq_j (tDrop_j (tCallS_i (tCons_i (tVar_i (v := (.int x_count)) rfl (tCons_i (tVar_i (v := (.int x_lot)) rfl (tNil_i (?_))))))))
  refine ⟨ps, x_count, x_lot, rfl, P0, _, _, hw, fun r1 hw H2 s3 => ?_, (fun er hc hw => errUp (Same.refl H) ss_refl (he er (by simp only [List.mem_cons, List.not_mem_nil, or_false] at hc ⊢; omega) hw))⟩
  have P4 := dom_up s3 P0
  have T5 := Same.trans (Same.refl H) s3
  have S6 : Same (dels H ps) (dels H2 ps) := Sd ps s3
  refine tSeq_j (tDrop_j (tCallS_i (tCons_i (tVar_i (v := (.int x_by)) rfl (tCons_i (tC_i (tCons_i (tVar_i (v := (.int x_count)) rfl (tNil_i (?_))))))))))
  refine ⟨ps, x_by, (0 : Int), x_count, rfl, P4, _, _, hw, fun r7 hw H8 s9 => ?_, (fun er hc hw => errUp T5 ss_refl (he er (by simp only [List.mem_cons, List.not_mem_nil, or_false] at hc ⊢; omega) hw))⟩
  have P10 := dom_up s9 P4
  have T11 := Same.trans T5 s9
  have S12 : Same (dels H2 ps) (dels H8 ps) := Sd ps s9
  refine tSeq_j (tAsg_j (tC_i (gN (σ' := [some (.int x_count), some (.int x_lot), some (.int x_by), some (.int (0 : Int)), none]) rfl (tSeq_j (tFor_j (w1 (tCons_i (tVar_i (v := (.int x_count)) rfl (tNil_i (rgW1 hw.1 (?_)))))))))))
  refine forR0 (s0 := (0 : Int)) hw.2 (fun (s27 : Int) (σ29 : L2.St) (H28 : Hp) => ∃ (j30 : Option V), σ29 = [some (.int x_count), some (.int x_lot), some (.int x_by), some (.int s27), j30] ∧ Same (dels H8 ps) (dels H28 ps) ∧ (∀ x ∈ ps, H28 x ≠ none) ∧ Same H H28 ∧ True) ⟨_, rfl, (Same.refl _), P10, T11, trivial⟩ (fun d36 s27 σ29 H28 nx34 hr hw => ?_) (fun s40 σ42 H41 hr hw => ?_)
  · obtain ⟨j30, rfl, S33, P31, T32, _⟩ := hr
    refine gN (σ' := [some (.int x_count), some (.int x_lot), some (.int x_by), some (.int s27), some (.int d36)]) rfl (tIfS_j (tTruth_i (tCallS_i (tCons_i (tVar_i (v := (.int x_lot)) rfl (tCons_i (tOp_i (tOp_i (tVar_i (v := (.int d36)) rfl (tVar_i (v := (.int x_by)) rfl (rAddU_i (tVar_i (v := (.int x_count)) rfl (rModP_i hw.1 (tNil_i (?_)))))))))))))))
    refine ⟨ps, x_lot, ((d36 + x_by) % x_count), rfl, P31, _, _, hw.2, fun r47 hw H48 s49 => ?_, (fun er hc hw => errUp T32 ss_refl (he er (absurd hc (List.not_mem_nil)) hw))⟩
    have P50 := dom_up s49 P31
    have T51 := Same.trans T32 s49
    have S52 : Same (dels H28 ps) (dels H48 ps) := Sd ps s49
    refine Tru_b (?_)
    refine Br_two hw (fun c53 hw => ?_) (fun c53 hw => ?_)
    · refine tAsg_j (tOp_i (tVar_i (v := (.int s27)) rfl (tOp_i (tC_i (tVar_i (v := (.int d36)) rfl (rI_i hw.1 (rAddU_i (?_))))))))
      refine asgIL (f := V.int) (e := (s27 + ((1 : Int) * 2 ^ Int.toNat d36))) (g := fun y54 => [some (.int x_count), some (.int x_lot), some (.int x_by), some (.int y54), some (.int d36)]) hw.2 (fun _ => rfl) (fun y54 hw => ?_)
      exact nxS_i (s := (y54)) ⟨_, rfl, (S33.trans S52), P50, T51, trivial⟩ hw
    · refine tNext_j (?_)
      exact nxS_i (s := (s27)) ⟨_, rfl, (S33.trans S52), P50, T51, trivial⟩ hw
  obtain ⟨j43, rfl, S46, P44, T45, _⟩ := hr
  refine tRet_j (tVar_i (v := (.int s40)) rfl (?_))
  exact hk _ hw _ T45
def sp_turned (K : PySem.W.Frag) (t : Tab) : Sp := fun vs H Q E => ∃ (ps : List Addr) (x_table : (Int × Int × (List Int))) (x_by : Int) (v_table : V), vs = [v_table, (.int x_by)] ∧ (∀ x ∈ ps, H x ≠ none) ∧ (pIns t.c_Table ["prime", "ends", "entries"] (rCons pInt (rCons pInt (rOne (pVt K pInt))))).rep (dels H ps) v_table x_table ∧ ∃ (k : (Int × Int × (List Int)) → Prop) (e : PErr → Prop), w_turned x_table x_by k e ∧ (∀ r, k r → RetK ps (pIns t.c_Table ["prime", "ends", "entries"] (rCons pInt (rCons pInt (rOne (pVt K pInt))))) H Q r) ∧ (∀ er, er.cls ∈ ([1, 2] : List Nat) → e er → ErrK ps t.cl H E er)
theorem len_turned : ∀ vs H Q E, sp_turned K t vs H Q E → vs.length = (["table", "by"] : List Str).length := by
  rintro vs H Q E ⟨_, _, _, _, rfl, _⟩
  rfl
theorem ok_turned (T : Txt K mg t) : FnOk P w K mg base (L2.CX P w) 8 t.a_turned t.fd_turned ["table", "by"] (sp_turned K t) := by
  have G_look_number := ok_look_number (P := P) (w := w) (base := base) T
  have G_turned_lot := ok_turned_lot (P := P) (w := w) (base := base) T
  have G_Table_init := ok_Table_init (P := P) (w := w) (base := base) T
  refine T.F_turned.okX sc_turned len_turned (fun cdv A outer s H vs Q E hr h => ?_)
  have nd := sc_turned.nd
  refine ⟨_, (pss_cons (ps_expr (pe_callS G_look_number (hr.mono (by decide)) (by rfl) T.g_look_number T.F_look_number.kp T.b_look_number (fun σ => passAt (takes_of rfl rfl rfl rfl) σ) (pa_cons (pv 1) (pa_cons (pe_int) (pa_cons (pe_fldK K (pv 0) rfl) pa_nil)))))
    (pss_cons (ps_set (i := 2) nd rfl (Or.inr rfl) (pe_op op_sub (pe_fldK K (pv 0) rfl) (pv 1)))
    (pss_cons (ps_setLc (i := 3) (own := [("lot", 4)]) (g := gName 4) (tt := tYes) rfl nd rfl rfl (sw_true rfl rfl rfl (by decide +kernel)) (pi_range1 (by rfl) T.n_range (pa_cons (pe_op op_shl (pe_int) (pe_fldK K (pv 0) rfl)) pa_nil)) (blkOk_by (N := ["table", "by", "back", "entries", "lot"]) (sc := defScope s_turned) (by decide +kernel)) (fun _ _ _ _ _ => (pg_name (i := 4) nd rfl (Or.inl rfl))) (fun _ _ _ _ _ => pts_nil) (fun _ _ _ _ _ => (pe_ix (ix_UK K) (pe_fldK K (pv 0) rfl) (pe_call G_turned_lot (hr.mono (by decide)) (by rfl) T.g_turned_lot T.F_turned_lot.kp T.b_turned_lot .nil passL (pa_cons (pe_fldK K (pv 0) rfl) (pa_cons (pv 4) (pa_cons (pv 2) pa_nil)))) (fun _ _ => rfl))))
    (pss_one (ps_ret (pe_mak T.mk_Table G_Table_init (hr.mono (by decide)) (by rfl) T.g_Table T.b_Table_init (fun σ => passAt (takes_of rfl rfl rfl rfl) σ) (pa_cons (pe_fldK K (pv 0) rfl) (pa_cons (pe_fldK K (pv 0) rfl) (pa_cons (pv 3) pa_nil))))))))), ?_⟩
  obtain ⟨ps, x_table, x_by, v_table, rfl, P0, h_table, k, e, hw, hk, he⟩ := h
  unfold w_turned at hw
  refine tSeq_j (tDrop_j (tCallS_i (tCons_i (tVar_i (v := (.int x_by)) rfl (tCons_i (tC_i (tCons_i (tFld_i (tVar_i (v := v_table) rfl (fldI (j := 1) h_table Su T.own_Table.cl T.na_Table_ends (rgS rgZ) rfl (tNil_i (?_))))))))))))
  refine ⟨ps, x_by, (0 : Int), x_table.2.1, rfl, P0, _, _, hw, fun r1 hw H2 s3 => ?_, (fun er hc hw => errUp (Same.refl H) ss_refl (he er (by simp only [List.mem_cons, List.not_mem_nil, or_false] at hc ⊢; omega) hw))⟩
  have P4 := dom_up s3 P0
  have T5 := Same.trans (Same.refl H) s3
  have S6 : Same (dels H ps) (dels H2 ps) := Sd ps s3
  refine tSeq_j (tAsg_j (tOp_i (tFld_i (tVar_i (v := v_table) rfl (fldI (j := 1) h_table (Same.trans S6 Su) T.own_Table.cl T.na_Table_ends (rgS rgZ) rfl (tVar_i (v := (.int x_by)) rfl (rI0_i (?_))))))))
  refine asgIL (f := V.int) (e := (x_table.2.1 - x_by)) (g := fun y7 => [some v_table, some (.int x_by), some (.int y7), none, none]) hw (fun _ => rfl) (fun y7 hw => ?_)
  refine tSeq_j (tAsg_j (tLc_i (w1 (tCons_i (tOp_i (tC_i (tFld_i (tVar_i (v := v_table) rfl (fldI (j := 1) h_table (Same.trans S6 Su) T.own_Table.cl T.na_Table_ends (rgS rgZ) rfl (rI_i hw.1 (tNil_i (rgW1 hw.2.1 (?_)))))))))))))
  refine lcR0 (pb := pInt) (ps := ps) hw.2.2.2 hw.2.2.1 P4 (fun q8 d9 H11 n13 s14 ⟨acc15, e16⟩ nx18 hw Y19 N20 hY21 hN22 => ?_) (fun q55 H56 acc57 zs58 n59 s60 e61 r62 l63 hw => ?_)
  · have m39 := nin_of n13 P4
    have z40 := Same.free T5 n13
    have P41 := dom_up s14 P4
    have T42 := Same.trans T5 s14
    have P43 := dom_new e16 P41
    have S44 : Same (dels H2 ps) (dels H11 (q8 :: ps)) := Sn ps s14 n13
    refine gN (σ' := [some v_table, some (.int x_by), some (.int y7), none, some (.int d9)]) rfl (wipe_i rfl (tYes_i (Br_t (tOp_i (tFld_i (tVar_i (v := v_table) rfl (fldS (j := 2) h_table (Same.trans (S6.trans S44) Su) T.own_Table.cl T.na_Table_entries (rgS (rgS rgOne)) rfl (fun u45 h46 => tCall_i (tCons_i (tFld_i (tVar_i (v := v_table) rfl (fldI (j := 1) h_table (Same.trans (S6.trans S44) Su) T.own_Table.cl T.na_Table_ends (rgS rgZ) rfl (tCons_i (tVar_i (v := (.int d9)) rfl (tCons_i (tVar_i (v := (.int y7)) rfl (tNil_i (?_))))))))))))))))))
    refine ⟨(q8 :: ps), x_table.2.1, d9, y7, rfl, P43, _, _, hw, fun r47 hw H48 s49 => ?_, (fun er _ hw => False.elim hw)⟩
    have P50 := dom_up s49 P43
    have T51 := Same.trans T42 s49
    have sc52 := Same.trans (Same.refl H11) s49
    have e53 := s49 _ _ e16
    have S54 : Same (dels H11 (q8 :: ps)) (dels H48 (q8 :: ps)) := Sd (q8 :: ps) s49
    refine ixI (sqV (Same.trans (S6.trans (S44.trans S54)) Su) h46) hw.1 (?_)
    exact hY21 (ixG x_table.2.2 r47) _ _ sc52 rfl hw.2
  have m64 := nin_of n59 P4
  have z65 := Same.free T5 n59
  have P66 := dom_up s60 P4
  have T67 := Same.trans T5 s60
  have P68 := dom_new e61 P66
  have S69 : Same (dels H2 ps) (dels H56 (q55 :: ps)) := Sn ps s60 n59
  have h70 : (pList pInt).rep (dels H56 ps) (.ref q55) zs58 := oFrzG e61 m64 (ss_skip ss_refl) r62 l63
  have P71 := dom_ss (ss_skip ss_refl) P68
  have S72 : Same (dels H56 (q55 :: ps)) (dels H56 ps) := Ss (ss_skip ss_refl)
  refine gN (σ' := [some v_table, some (.int x_by), some (.int y7), some (.ref q55), none]) rfl (tRet_j (tMak_i (tCons_i (tFld_i (tVar_i (v := v_table) rfl (fldI (j := 0) h_table (Same.trans (S6.trans (S69.trans S72)) Su) T.own_Table.cl T.na_Table_prime rgZ rfl (tCons_i (tFld_i (tVar_i (v := v_table) rfl (fldI (j := 1) h_table (Same.trans (S6.trans (S69.trans S72)) Su) T.own_Table.cl T.na_Table_ends (rgS rgZ) rfl (tCons_i (tVar_i (v := (.ref q55)) rfl (tNil_i (?_))))))))))))))
  refine makS (fun n73 dn74 H75 nn76 s77 s78 e79 => ?_)
  have S80 : Same (dels H56 ps) (dels H75 (n73 :: ps)) := Sn ps s77 nn76
  have P81 := dom_new e79 (dom_up s77 P71)
  refine ⟨(n73 :: ps), x_table.1, x_table.2.1, zs58, n73, dn74, (.ref q55), rfl, P81, (List.mem_cons_self ..), e79, ((pList pInt).mono S80 h70), _, _, hw, fun r82 hw H83 fs84 s85 e86 hn87 rr88 => ⟨rfl, ?_⟩, (fun er hc hw => errUp (Same.trans T67 s78) (ss_skip ss_refl) (he er (by simp only [List.mem_cons, List.not_mem_nil, or_false] at hc ⊢; omega) hw))⟩
  have s90 := Same.trans s78 s85
  have P91 := dom_up s90 P71
  have T92 := Same.trans T67 s90
  have S93 : Same (dels H56 ps) (dels H83 ps) := Sd ps s90
  have h89 : (pIns t.c_Table ["prime", "ends", "entries"] (rCons pInt (rCons pInt (rOne (pVt K pInt))))).rep (dels H83 ps) (.ref n73) r82 := ⟨_, _, fs84, rfl, dels_at e86 (nin_of nn76 P71), hn87, PRow.mono (rCons pInt (rCons pInt (rOne (pVt K pInt)))) (Ss (ss_skip ss_refl)) rr88⟩
  exact hk _ hw _ _ T92 h89
def sp_mirrored_lot (K : PySem.W.Frag) (t : Tab) : Sp := fun vs H Q E => ∃ (ps : List Addr) (x_count : Int) (x_lot : Int), vs = [(.int x_count), (.int x_lot)] ∧ (∀ x ∈ ps, H x ≠ none) ∧ ∃ (k : Int → Prop) (e : PErr → Prop), w_mirrored_lot x_count x_lot k e ∧ (∀ r, k r → RetI V.int H Q r) ∧ (∀ er, er.cls ∈ ([2] : List Nat) → e er → ErrK ps t.cl H E er)
theorem len_mirrored_lot : ∀ vs H Q E, sp_mirrored_lot K t vs H Q E → vs.length = (["count", "lot"] : List Str).length := by
  rintro vs H Q E ⟨_, _, _, rfl, _⟩
  rfl
theorem ok_mirrored_lot (T : Txt K mg t) : FnOk P w K mg base (L2.CX P w) 5 t.a_mirrored_lot t.fd_mirrored_lot ["count", "lot"] (sp_mirrored_lot K t) := by
  have G_check_lot := ok_check_lot (P := P) (w := w) (base := base) T
  have G_has := ok_has (P := P) (w := w) (base := base) T
  refine T.F_mirrored_lot.okX sc_mirrored_lot len_mirrored_lot (fun cdv A outer s H vs Q E hr h => ?_)
  have nd := sc_mirrored_lot.nd
  refine ⟨_, (pss_cons (ps_expr (pe_callS G_check_lot (hr.mono (by decide)) (by rfl) T.g_check_lot T.F_check_lot.kp T.b_check_lot (fun σ => passAt (takes_of rfl rfl rfl rfl) σ) (pa_cons (pv 0) (pa_cons (pv 1) pa_nil))))
    (pss_cons (ps_set (i := 2) nd rfl (Or.inl rfl) (pe_int))
    (pss_cons (ps_for (passes_of rfl) rfl (pi_range1 (by rfl) T.n_range (pa_cons (pv 0) pa_nil)) (pg_name (i := 3) nd rfl (Or.inl rfl))
    (pss_one (ps_if (pt_truthK K (pe_callS G_has (hr.mono (by decide)) (by rfl) T.g_has T.F_has.kp T.b_has (fun σ => passAt (takes_of rfl rfl rfl rfl) σ) (pa_cons (pv 1) (pa_cons (pe_op op_sub (pe_op op_sub (pv 0) (pe_int)) (pv 3)) pa_nil)))) (pss_one (ps_set (i := 2) nd rfl (Or.inl rfl) (pe_op (op_addUK K) (pv 2) (pe_op op_shl (pe_int) (pv 3))))) pss_nil)))
    (pss_one (ps_ret (pv 2)))))), ?_⟩
  obtain ⟨ps, x_count, x_lot, rfl, P0, k, e, hw, hk, he⟩ := h
  unfold w_mirrored_lot at hw
  refine tSeq_j (tDrop_j (tCallS_i (tCons_i (tVar_i (v := (.int x_count)) rfl (tCons_i (tVar_i (v := (.int x_lot)) rfl (tNil_i (?_))))))))
  refine ⟨ps, x_count, x_lot, rfl, P0, _, _, hw, fun r1 hw H2 s3 => ?_, (fun er hc hw => errUp (Same.refl H) ss_refl (he er (by simp only [List.mem_cons, List.not_mem_nil, or_false] at hc ⊢; omega) hw))⟩
  have P4 := dom_up s3 P0
  have T5 := Same.trans (Same.refl H) s3
  have S6 : Same (dels H ps) (dels H2 ps) := Sd ps s3
  refine tSeq_j (tAsg_j (tC_i (gN (σ' := [some (.int x_count), some (.int x_lot), some (.int (0 : Int)), none]) rfl (tSeq_j (tFor_j (w1 (tCons_i (tVar_i (v := (.int x_count)) rfl (tNil_i (rgW1 hw.1 (?_)))))))))))
  refine forR0 (s0 := (0 : Int)) hw.2 (fun (s21 : Int) (σ23 : L2.St) (H22 : Hp) => ∃ (j24 : Option V), σ23 = [some (.int x_count), some (.int x_lot), some (.int s21), j24] ∧ Same (dels H2 ps) (dels H22 ps) ∧ (∀ x ∈ ps, H22 x ≠ none) ∧ Same H H22 ∧ True) ⟨_, rfl, (Same.refl _), P4, T5, trivial⟩ (fun d30 s21 σ23 H22 nx28 hr hw => ?_) (fun s34 σ36 H35 hr hw => ?_)
  · obtain ⟨j24, rfl, S27, P25, T26, _⟩ := hr
    refine gN (σ' := [some (.int x_count), some (.int x_lot), some (.int s21), some (.int d30)]) rfl (tIfS_j (tTruth_i (tCallS_i (tCons_i (tVar_i (v := (.int x_lot)) rfl (tCons_i (tOp_i (tOp_i (tVar_i (v := (.int x_count)) rfl (tC_i (rI0_i (tVar_i (v := (.int d30)) rfl (rI0_i (tNil_i (?_)))))))))))))))
    refine ⟨ps, x_lot, ((x_count - (1 : Int)) - d30), rfl, P25, _, _, hw, fun r41 hw H42 s43 => ?_, (fun er hc hw => errUp T26 ss_refl (he er (absurd hc (List.not_mem_nil)) hw))⟩
    have P44 := dom_up s43 P25
    have T45 := Same.trans T26 s43
    have S46 : Same (dels H22 ps) (dels H42 ps) := Sd ps s43
    refine Tru_b (?_)
    refine Br_two hw (fun c47 hw => ?_) (fun c47 hw => ?_)
    · refine tAsg_j (tOp_i (tVar_i (v := (.int s21)) rfl (tOp_i (tC_i (tVar_i (v := (.int d30)) rfl (rI_i hw.1 (rAddU_i (?_))))))))
      refine asgIL (f := V.int) (e := (s21 + ((1 : Int) * 2 ^ Int.toNat d30))) (g := fun y48 => [some (.int x_count), some (.int x_lot), some (.int y48), some (.int d30)]) hw.2 (fun _ => rfl) (fun y48 hw => ?_)
      exact nxS_i (s := (y48)) ⟨_, rfl, (S27.trans S46), P44, T45, trivial⟩ hw
    · refine tNext_j (?_)
      exact nxS_i (s := (s21)) ⟨_, rfl, (S27.trans S46), P44, T45, trivial⟩ hw
  obtain ⟨j37, rfl, S40, P38, T39, _⟩ := hr
  refine tRet_j (tVar_i (v := (.int s34)) rfl (?_))
  exact hk _ hw _ T39
def sp_mirrored_table (K : PySem.W.Frag) (t : Tab) : Sp := fun vs H Q E => ∃ (ps : List Addr) (x_table : (Int × Int × (List Int))) (v_table : V), vs = [v_table] ∧ (∀ x ∈ ps, H x ≠ none) ∧ (pIns t.c_Table ["prime", "ends", "entries"] (rCons pInt (rCons pInt (rOne (pVt K pInt))))).rep (dels H ps) v_table x_table ∧ ∃ (k : (Int × Int × (List Int)) → Prop) (e : PErr → Prop), w_mirrored_table x_table k e ∧ (∀ r, k r → RetK ps (pIns t.c_Table ["prime", "ends", "entries"] (rCons pInt (rCons pInt (rOne (pVt K pInt))))) H Q r) ∧ (∀ er, er.cls ∈ ([1, 2] : List Nat) → e er → ErrK ps t.cl H E er)
theorem len_mirrored_table : ∀ vs H Q E, sp_mirrored_table K t vs H Q E → vs.length = (["table"] : List Str).length := by
  rintro vs H Q E ⟨_, _, _, rfl, _⟩
  rfl
theorem ok_mirrored_table (T : Txt K mg t) : FnOk P w K mg base (L2.CX P w) 8 t.a_mirrored_table t.fd_mirrored_table ["table"] (sp_mirrored_table K t) := by
  have G_mirrored_lot := ok_mirrored_lot (P := P) (w := w) (base := base) T
  have G_Table_init := ok_Table_init (P := P) (w := w) (base := base) T
  refine T.F_mirrored_table.okX sc_mirrored_table len_mirrored_table (fun cdv A outer s H vs Q E hr h => ?_)
  have nd := sc_mirrored_table.nd
  refine ⟨_, (pss_cons (ps_setLc (i := 1) (own := [("lot", 2)]) (g := gName 2) (tt := tYes) rfl nd rfl rfl (sw_true rfl rfl rfl (by decide +kernel)) (pi_range1 (by rfl) T.n_range (pa_cons (pe_op op_shl (pe_int) (pe_fldK K (pv 0) rfl)) pa_nil)) (blkOk_by (N := ["table", "entries", "lot"]) (sc := defScope s_mirrored_table) (by decide +kernel)) (fun _ _ _ _ _ => (pg_name (i := 2) nd rfl (Or.inl rfl))) (fun _ _ _ _ _ => pts_nil) (fun _ _ _ _ _ => (pe_ix (ix_UK K) (pe_fldK K (pv 0) rfl) (pe_call G_mirrored_lot (hr.mono (by decide)) (by rfl) T.g_mirrored_lot T.F_mirrored_lot.kp T.b_mirrored_lot .nil passL (pa_cons (pe_fldK K (pv 0) rfl) (pa_cons (pv 2) pa_nil))) (fun _ _ => rfl))))
    (pss_one (ps_ret (pe_mak T.mk_Table G_Table_init (hr.mono (by decide)) (by rfl) T.g_Table T.b_Table_init (fun σ => passAt (takes_of rfl rfl rfl rfl) σ) (pa_cons (pe_fldK K (pv 0) rfl) (pa_cons (pe_fldK K (pv 0) rfl) (pa_cons (pv 1) pa_nil))))))), ?_⟩
  obtain ⟨ps, x_table, v_table, rfl, P0, h_table, k, e, hw, hk, he⟩ := h
  unfold w_mirrored_table at hw
  refine tSeq_j (tAsg_j (tLc_i (w1 (tCons_i (tOp_i (tC_i (tFld_i (tVar_i (v := v_table) rfl (fldI (j := 1) h_table Su T.own_Table.cl T.na_Table_ends (rgS rgZ) rfl (rI_i hw.1 (tNil_i (rgW1 hw.2.1 (?_)))))))))))))
  refine lcR0 (pb := pInt) (ps := ps) hw.2.2.2 hw.2.2.1 P0 (fun q1 d2 H4 n6 s7 ⟨acc8, e9⟩ nx11 hw Y12 N13 hY14 hN15 => ?_) (fun q48 H49 acc50 zs51 n52 s53 e54 r55 l56 hw => ?_)
  · have m32 := nin_of n6 P0
    have z33 := Same.free (Same.refl H) n6
    have P34 := dom_up s7 P0
    have T35 := Same.trans (Same.refl H) s7
    have P36 := dom_new e9 P34
    have S37 : Same (dels H ps) (dels H4 (q1 :: ps)) := Sn ps s7 n6
    refine gN (σ' := [some v_table, none, some (.int d2)]) rfl (wipe_i rfl (tYes_i (Br_t (tOp_i (tFld_i (tVar_i (v := v_table) rfl (fldS (j := 2) h_table (Same.trans S37 Su) T.own_Table.cl T.na_Table_entries (rgS (rgS rgOne)) rfl (fun u38 h39 => tCall_i (tCons_i (tFld_i (tVar_i (v := v_table) rfl (fldI (j := 1) h_table (Same.trans S37 Su) T.own_Table.cl T.na_Table_ends (rgS rgZ) rfl (tCons_i (tVar_i (v := (.int d2)) rfl (tNil_i (?_))))))))))))))))
    refine ⟨(q1 :: ps), x_table.2.1, d2, rfl, P36, _, _, hw, fun r40 hw H41 s42 => ?_, (fun er _ hw => False.elim hw)⟩
    have P43 := dom_up s42 P36
    have T44 := Same.trans T35 s42
    have sc45 := Same.trans (Same.refl H4) s42
    have e46 := s42 _ _ e9
    have S47 : Same (dels H4 (q1 :: ps)) (dels H41 (q1 :: ps)) := Sd (q1 :: ps) s42
    refine ixI (sqV (Same.trans (S37.trans S47) Su) h39) hw.1 (?_)
    exact hY14 (ixG x_table.2.2 r40) _ _ sc45 rfl hw.2
  have m57 := nin_of n52 P0
  have z58 := Same.free (Same.refl H) n52
  have P59 := dom_up s53 P0
  have T60 := Same.trans (Same.refl H) s53
  have P61 := dom_new e54 P59
  have S62 : Same (dels H ps) (dels H49 (q48 :: ps)) := Sn ps s53 n52
  have h63 : (pList pInt).rep (dels H49 ps) (.ref q48) zs51 := oFrzG e54 m57 (ss_skip ss_refl) r55 l56
  have P64 := dom_ss (ss_skip ss_refl) P61
  have S65 : Same (dels H49 (q48 :: ps)) (dels H49 ps) := Ss (ss_skip ss_refl)
  refine gN (σ' := [some v_table, some (.ref q48), none]) rfl (tRet_j (tMak_i (tCons_i (tFld_i (tVar_i (v := v_table) rfl (fldI (j := 0) h_table (Same.trans (S62.trans S65) Su) T.own_Table.cl T.na_Table_prime rgZ rfl (tCons_i (tFld_i (tVar_i (v := v_table) rfl (fldI (j := 1) h_table (Same.trans (S62.trans S65) Su) T.own_Table.cl T.na_Table_ends (rgS rgZ) rfl (tCons_i (tVar_i (v := (.ref q48)) rfl (tNil_i (?_))))))))))))))
  refine makS (fun n66 dn67 H68 nn69 s70 s71 e72 => ?_)
  have S73 : Same (dels H49 ps) (dels H68 (n66 :: ps)) := Sn ps s70 nn69
  have P74 := dom_new e72 (dom_up s70 P64)
  refine ⟨(n66 :: ps), x_table.1, x_table.2.1, zs51, n66, dn67, (.ref q48), rfl, P74, (List.mem_cons_self ..), e72, ((pList pInt).mono S73 h63), _, _, hw, fun r75 hw H76 fs77 s78 e79 hn80 rr81 => ⟨rfl, ?_⟩, (fun er hc hw => errUp (Same.trans T60 s71) (ss_skip ss_refl) (he er (by simp only [List.mem_cons, List.not_mem_nil, or_false] at hc ⊢; omega) hw))⟩
  have s83 := Same.trans s71 s78
  have P84 := dom_up s83 P64
  have T85 := Same.trans T60 s83
  have S86 : Same (dels H49 ps) (dels H76 ps) := Sd ps s83
  have h82 : (pIns t.c_Table ["prime", "ends", "entries"] (rCons pInt (rCons pInt (rOne (pVt K pInt))))).rep (dels H76 ps) (.ref n66) r75 := ⟨_, _, fs77, rfl, dels_at e79 (nin_of nn69 P64), hn80, PRow.mono (rCons pInt (rCons pInt (rOne (pVt K pInt)))) (Ss (ss_skip ss_refl)) rr81⟩
  exact hk _ hw _ _ T85 h82
def sp_look_lot (K : PySem.W.Frag) (t : Tab) : Sp := fun vs H Q E => ∃ (ps : List Addr) (x_count : Int) (x_lot : Int), vs = [(.int x_count), (.int x_lot)] ∧ (∀ x ∈ ps, H x ≠ none) ∧ ∃ (k : Unit → Prop) (e : PErr → Prop), w_look_lot x_count x_lot k e ∧ (∀ r, k r → RetI (fun _ => V.non) H Q r) ∧ (∀ er, er.cls ∈ ([2] : List Nat) → e er → ErrK ps t.cl H E er)
theorem len_look_lot : ∀ vs H Q E, sp_look_lot K t vs H Q E → vs.length = (["count", "lot"] : List Str).length := by
  rintro vs H Q E ⟨_, _, _, rfl, _⟩
  rfl
theorem ok_look_lot (T : Txt K mg t) : FnOk P w K mg base (L2.CX P w) 4 t.a_look_lot t.fd_look_lot ["count", "lot"] (sp_look_lot K t) := by
  have G_look_number := ok_look_number (P := P) (w := w) (base := base) T
  refine T.F_look_lot.okX sc_look_lot len_look_lot (fun cdv A outer s H vs Q E hr h => ?_)
  have nd := sc_look_lot.nd
  refine ⟨_, (pss_one (ps_expr (pe_callS G_look_number (hr.mono (by decide)) (by rfl) T.g_look_number T.F_look_number.kp T.b_look_number (fun σ => passAt (takes_of rfl rfl rfl rfl) σ) (pa_cons (pv 1) (pa_cons (pe_int) (pa_cons (pe_op op_sub (pe_op op_shl (pe_int) (pv 0)) (pe_int)) pa_nil)))))), ?_⟩
  obtain ⟨ps, x_count, x_lot, rfl, P0, k, e, hw, hk, he⟩ := h
  unfold w_look_lot at hw
  refine tDrop_j (tCallS_i (tCons_i (tVar_i (v := (.int x_lot)) rfl (tCons_i (tC_i (tCons_i (tOp_i (tOp_i (tC_i (tVar_i (v := (.int x_count)) rfl (rI_i hw.1 (tC_i (rI0_i (tNil_i (?_)))))))))))))))
  refine ⟨ps, x_lot, (0 : Int), (((1 : Int) * 2 ^ Int.toNat x_count) - (1 : Int)), rfl, P0, _, _, hw.2, fun r1 hw H2 s3 => ?_, (fun er hc hw => errUp (Same.refl H) ss_refl (he er (by simp only [List.mem_cons, List.not_mem_nil, or_false] at hc ⊢; omega) hw))⟩
  have P4 := dom_up s3 P0
  have T5 := Same.trans (Same.refl H) s3
  have S6 : Same (dels H ps) (dels H2 ps) := Sd ps s3
  exact hk _ hw _ T5
def sp_flipped (K : PySem.W.Frag) (t : Tab) : Sp := fun vs H Q E => ∃ (ps : List Addr) (x_table : (Int × Int × (List Int))) (x_lot : Int) (v_table : V), vs = [v_table, (.int x_lot)] ∧ (∀ x ∈ ps, H x ≠ none) ∧ (pIns t.c_Table ["prime", "ends", "entries"] (rCons pInt (rCons pInt (rOne (pVt K pInt))))).rep (dels H ps) v_table x_table ∧ ∃ (k : (Int × Int × (List Int)) → Prop) (e : PErr → Prop), w_flipped x_table x_lot k e ∧ (∀ r, k r → RetK ps (pIns t.c_Table ["prime", "ends", "entries"] (rCons pInt (rCons pInt (rOne (pVt K pInt))))) H Q r) ∧ (∀ er, er.cls ∈ ([1, 2] : List Nat) → e er → ErrK ps t.cl H E er)
theorem len_flipped : ∀ vs H Q E, sp_flipped K t vs H Q E → vs.length = (["table", "lot"] : List Str).length := by
  rintro vs H Q E ⟨_, _, _, _, rfl, _⟩
  rfl
theorem ok_flipped (T : Txt K mg t) : FnOk P w K mg base (L2.CX P w) 8 t.a_flipped t.fd_flipped ["table", "lot"] (sp_flipped K t) := by
  have G_look_lot := ok_look_lot (P := P) (w := w) (base := base) T
  have G_Table_init := ok_Table_init (P := P) (w := w) (base := base) T
  refine T.F_flipped.okX sc_flipped len_flipped (fun cdv A outer s H vs Q E hr h => ?_)
  have nd := sc_flipped.nd
  refine ⟨_, (pss_cons (ps_expr (pe_callS G_look_lot (hr.mono (by decide)) (by rfl) T.g_look_lot T.F_look_lot.kp T.b_look_lot (fun σ => passAt (takes_of rfl rfl rfl rfl) σ) (pa_cons (pe_fldK K (pv 0) rfl) (pa_cons (pv 1) pa_nil))))
    (pss_one (ps_ret (pe_mak T.mk_Table G_Table_init (hr.mono (by decide)) (by rfl) T.g_Table T.b_Table_init (fun σ => passAt (takes_of rfl rfl rfl rfl) σ) (pa_cons (pe_fldK K (pv 0) rfl) (pa_cons (pe_fldK K (pv 0) rfl) (pa_cons (pe_lc (own := [("one", 2)]) (g := gName 2) (tt := tYes) rfl nd (pi_range1 (by rfl) T.n_range (pa_cons (pe_op op_shl (pe_int) (pe_fldK K (pv 0) rfl)) pa_nil)) (blkOk_by (N := ["table", "lot", "one"]) (sc := defScope s_flipped) (by decide +kernel)) (fun _ _ _ _ _ => (pg_name (i := 2) nd rfl (Or.inl rfl))) (fun _ _ _ _ _ => pts_nil) (fun _ _ _ _ _ => (pe_ix (ix_UK K) (pe_fldK K (pv 0) rfl) (pe_op op_xor (pv 2) (pv 1)) (fun _ _ => rfl)))) pa_nil))))))), ?_⟩
  obtain ⟨ps, x_table, x_lot, v_table, rfl, P0, h_table, k, e, hw, hk, he⟩ := h
  unfold w_flipped at hw
  refine tSeq_j (tDrop_j (tCallS_i (tCons_i (tFld_i (tVar_i (v := v_table) rfl (fldI (j := 1) h_table Su T.own_Table.cl T.na_Table_ends (rgS rgZ) rfl (tCons_i (tVar_i (v := (.int x_lot)) rfl (tNil_i (?_))))))))))
  refine ⟨ps, x_table.2.1, x_lot, rfl, P0, _, _, hw, fun r1 hw H2 s3 => ?_, (fun er hc hw => errUp (Same.refl H) ss_refl (he er (by simp only [List.mem_cons, List.not_mem_nil, or_false] at hc ⊢; omega) hw))⟩
  have P4 := dom_up s3 P0
  have T5 := Same.trans (Same.refl H) s3
  have S6 : Same (dels H ps) (dels H2 ps) := Sd ps s3
  refine tRet_j (tMak_i (tCons_i (tFld_i (tVar_i (v := v_table) rfl (fldI (j := 0) h_table (Same.trans S6 Su) T.own_Table.cl T.na_Table_prime rgZ rfl (tCons_i (tFld_i (tVar_i (v := v_table) rfl (fldI (j := 1) h_table (Same.trans S6 Su) T.own_Table.cl T.na_Table_ends (rgS rgZ) rfl (tCons_i (tLc_i (w1 (tCons_i (tOp_i (tC_i (tFld_i (tVar_i (v := v_table) rfl (fldI (j := 1) h_table (Same.trans S6 Su) T.own_Table.cl T.na_Table_ends (rgS rgZ) rfl (rI_i hw.1 (tNil_i (rgW1 hw.2.1 (?_))))))))))))))))))))))
  refine lcR0 (pb := pInt) (ps := ps) hw.2.2.2 hw.2.2.1 P4 (fun q7 d8 H10 n12 s13 ⟨acc14, e15⟩ nx17 hw Y18 N19 hY20 hN21 => ?_) (fun q38 H39 acc40 zs41 n42 s43 e44 r45 l46 hw => ?_)
  · have m30 := nin_of n12 P4
    have z31 := Same.free T5 n12
    have P32 := dom_up s13 P4
    have T33 := Same.trans T5 s13
    have P34 := dom_new e15 P32
    have S35 : Same (dels H2 ps) (dels H10 (q7 :: ps)) := Sn ps s13 n12
    refine gN (σ' := [some v_table, some (.int x_lot), some (.int d8)]) rfl (wipe_i rfl (tYes_i (Br_t (tOp_i (tFld_i (tVar_i (v := v_table) rfl (fldS (j := 2) h_table (Same.trans (S6.trans S35) Su) T.own_Table.cl T.na_Table_entries (rgS (rgS rgOne)) rfl (fun u36 h37 => tOp_i (tVar_i (v := (.int d8)) rfl (tVar_i (v := (.int x_lot)) rfl (rI0_i (ixI (sqV (Same.trans (S6.trans S35) Su) h37) hw.1 (?_)))))))))))))
    exact hY20 (ixG x_table.2.2 (PySem.Builtin.bitXor d8 x_lot)) _ _ (Same.refl H10) rfl hw.2
  have m47 := nin_of n42 P4
  have z48 := Same.free T5 n42
  have P49 := dom_up s43 P4
  have T50 := Same.trans T5 s43
  have P51 := dom_new e44 P49
  have S52 : Same (dels H2 ps) (dels H39 (q38 :: ps)) := Sn ps s43 n42
  have h53 : (pList pInt).rep (dels H39 ps) (.ref q38) zs41 := oFrzG e44 m47 (ss_skip ss_refl) r45 l46
  have P54 := dom_ss (ss_skip ss_refl) P51
  have S55 : Same (dels H39 (q38 :: ps)) (dels H39 ps) := Ss (ss_skip ss_refl)
  refine tNil_i (?_)
  refine makS (fun n56 dn57 H58 nn59 s60 s61 e62 => ?_)
  have S63 : Same (dels H39 ps) (dels H58 (n56 :: ps)) := Sn ps s60 nn59
  have P64 := dom_new e62 (dom_up s60 P54)
  refine ⟨(n56 :: ps), x_table.1, x_table.2.1, zs41, n56, dn57, (.ref q38), rfl, P64, (List.mem_cons_self ..), e62, ((pList pInt).mono S63 h53), _, _, hw, fun r65 hw H66 fs67 s68 e69 hn70 rr71 => ⟨rfl, ?_⟩, (fun er hc hw => errUp (Same.trans T50 s61) (ss_skip ss_refl) (he er (by simp only [List.mem_cons, List.not_mem_nil, or_false] at hc ⊢; omega) hw))⟩
  have s73 := Same.trans s61 s68
  have P74 := dom_up s73 P54
  have T75 := Same.trans T50 s73
  have S76 : Same (dels H39 ps) (dels H66 ps) := Sd ps s73
  have h72 : (pIns t.c_Table ["prime", "ends", "entries"] (rCons pInt (rCons pInt (rOne (pVt K pInt))))).rep (dels H66 ps) (.ref n56) r65 := ⟨_, _, fs67, rfl, dels_at e69 (nin_of nn59 P54), hn70, PRow.mono (rCons pInt (rCons pInt (rOne (pVt K pInt)))) (Ss (ss_skip ss_refl)) rr71⟩
  exact hk _ hw _ _ T75 h72
def sp_weighted (K : PySem.W.Frag) (t : Tab) : Sp := fun vs H Q E => ∃ (ps : List Addr) (x_table : (Int × Int × (List Int))) (x_end : Int) (x_factor : Int) (v_table : V), vs = [v_table, (.int x_end), (.int x_factor)] ∧ (∀ x ∈ ps, H x ≠ none) ∧ (pIns t.c_Table ["prime", "ends", "entries"] (rCons pInt (rCons pInt (rOne (pVt K pInt))))).rep (dels H ps) v_table x_table ∧ ∃ (k : (Int × Int × (List Int)) → Prop) (e : PErr → Prop), w_weighted x_table x_end x_factor k e ∧ (∀ r, k r → RetK ps (pIns t.c_Table ["prime", "ends", "entries"] (rCons pInt (rCons pInt (rOne (pVt K pInt))))) H Q r) ∧ (∀ er, er.cls ∈ ([1, 2] : List Nat) → e er → ErrK ps t.cl H E er)
theorem len_weighted : ∀ vs H Q E, sp_weighted K t vs H Q E → vs.length = (["table", "end", "factor"] : List Str).length := by
  rintro vs H Q E ⟨_, _, _, _, _, rfl, _⟩
  rfl
theorem ok_weighted (T : Txt K mg t) : FnOk P w K mg base (L2.CX P w) 8 t.a_weighted t.fd_weighted ["table", "end", "factor"] (sp_weighted K t) := by
  have G_look_number := ok_look_number (P := P) (w := w) (base := base) T
  have G_look_residue := ok_look_residue (P := P) (w := w) (base := base) T
  have G_Table_init := ok_Table_init (P := P) (w := w) (base := base) T
  refine T.F_weighted.okX sc_weighted len_weighted (fun cdv A outer s H vs Q E hr h => ?_)
  have nd := sc_weighted.nd
  refine ⟨_, (pss_cons (ps_expr (pe_callS G_look_number (hr.mono (by decide)) (by rfl) T.g_look_number T.F_look_number.kp T.b_look_number (fun σ => passAt (takes_of rfl rfl rfl rfl) σ) (pa_cons (pv 1) (pa_cons (pe_int) (pa_cons (pe_op op_sub (pe_fldK K (pv 0) rfl) (pe_int)) pa_nil)))))
    (pss_cons (ps_expr (pe_callS G_look_residue (hr.mono (by decide)) (by rfl) T.g_look_residue T.F_look_residue.kp T.b_look_residue (fun σ => passAt (takes_of rfl rfl rfl rfl) σ) (pa_cons (pe_fldK K (pv 0) rfl) (pa_cons (pv 2) pa_nil))))
    (pss_cons (ps_set (i := 3) nd rfl (Or.inl rfl) (pe_lst pa_nil))
    (pss_cons (ps_for (passes_of rfl) rfl (pi_enumU K (by rfl) T.n_enumerate (pa_cons (pe_fldK K (pv 0) rfl) pa_nil)) (pg_tupK K 2 rfl (pgs_cons (pg_name (i := 4) nd rfl (Or.inl rfl)) (pgs_cons (pg_name (i := 5) nd rfl (Or.inl rfl)) pgs_nil)))
    (pss_one (ps_if (pt_cmpR (op_eqUK K hr) (pe_op op_modP (pe_op op_shr (pv 4) (pv 1)) (pe_int)) (pe_int) (by first | exact nomark _ | rfl)) (pss_one (ps_expr (pe_bmK K PySem.F.plainAttrs_list PySem.F.slot_list_append PySem.F.type_list_append mt_append (pv 3) (pa_cons (pe_op op_modP (pe_op op_mulU (pv 5) (pv 2)) (pe_fldK K (pv 0) rfl)) pa_nil)))) (pss_one (ps_expr (pe_bmK K PySem.F.plainAttrs_list PySem.F.slot_list_append PySem.F.type_list_append mt_append (pv 3) (pa_cons (pv 5) pa_nil)))))))
    (pss_one (ps_ret (pe_mak T.mk_Table G_Table_init (hr.mono (by decide)) (by rfl) T.g_Table T.b_Table_init (fun σ => passAt (takes_of rfl rfl rfl rfl) σ) (pa_cons (pe_fldK K (pv 0) rfl) (pa_cons (pe_fldK K (pv 0) rfl) (pa_cons (pv 3) pa_nil)))))))))), ?_⟩
  obtain ⟨ps, x_table, x_end, x_factor, v_table, rfl, P0, h_table, k, e, hw, hk, he⟩ := h
  unfold w_weighted at hw
  refine tSeq_j (tDrop_j (tCallS_i (tCons_i (tVar_i (v := (.int x_end)) rfl (tCons_i (tC_i (tCons_i (tOp_i (tFld_i (tVar_i (v := v_table) rfl (fldI (j := 1) h_table Su T.own_Table.cl T.na_Table_ends (rgS rgZ) rfl (tC_i (rI0_i (tNil_i (?_)))))))))))))))
  refine ⟨ps, x_end, (0 : Int), (x_table.2.1 - (1 : Int)), rfl, P0, _, _, hw, fun r1 hw H2 s3 => ?_, (fun er hc hw => errUp (Same.refl H) ss_refl (he er (by simp only [List.mem_cons, List.not_mem_nil, or_false] at hc ⊢; omega) hw))⟩
  have P4 := dom_up s3 P0
  have T5 := Same.trans (Same.refl H) s3
  have S6 : Same (dels H ps) (dels H2 ps) := Sd ps s3
  refine tSeq_j (tDrop_j (tCallS_i (tCons_i (tFld_i (tVar_i (v := v_table) rfl (fldI (j := 0) h_table (Same.trans S6 Su) T.own_Table.cl T.na_Table_prime rgZ rfl (tCons_i (tVar_i (v := (.int x_factor)) rfl (tNil_i (?_))))))))))
  refine ⟨ps, x_table.1, x_factor, rfl, P4, _, _, hw, fun r7 hw H8 s9 => ?_, (fun er hc hw => errUp T5 ss_refl (he er (by simp only [List.mem_cons, List.not_mem_nil, or_false] at hc ⊢; omega) hw))⟩
  have P10 := dom_up s9 P4
  have T11 := Same.trans T5 s9
  have S12 : Same (dels H2 ps) (dels H8 ps) := Sd ps s9
  refine tSeq_j (tAsg_j (tLst_i (tNil_i (new_i (Nat.le_of_ble_eq_true rfl) (fun q13 H14 n15 s16 e17 => ?_)))))
  have r18 : AllR pInt (dels H8 ps) [] ([] : List Int) := .nil
  have l19 : ([] : List Int).length ≤ LIM := (Nat.le_of_ble_eq_true rfl)
  have m20 := nin_of n15 P10
  have z21 := Same.free T11 n15
  have P22 := dom_up s16 P10
  have T23 := Same.trans T11 s16
  have P24 := dom_new e17 P22
  have S25 : Same (dels H8 ps) (dels H14 (q13 :: ps)) := Sn ps s16 n15
  refine gN (σ' := [some v_table, some (.int x_end), some (.int x_factor), some (.ref q13), none, none]) rfl (?_)
  obtain ⟨y26, r27, l28, hw⟩ := letO hw r18 l19
  refine tSeq_j (tFor_j (wEt (tCons_i (tFld_i (tVar_i (v := v_table) rfl (fldS (j := 2) h_table (Same.trans (S6.trans (S12.trans S25)) Su) T.own_Table.cl T.na_Table_entries (rgS (rgS rgOne)) rfl (fun u132 h133 => tNil_i (?_))))))))
  obtain ⟨a134, us135, hv136, hS137, hr138, hl139⟩ := ((pVt K pInt).mono (S6.trans (S12.trans S25)) h133)
  refine WEt_v hv136 (Same.seqT Su hS137) (forET (s0 := y26) hw hr138 (fun (s140 : (List Int)) (σ142 : L2.St) (H141 : Hp) => ∃ (j143 : Option V) (j144 : Option V) (us148 : List V), σ142 = [some v_table, some (.int x_end), some (.int x_factor), some (.ref q13), j143, j144] ∧ Same (dels H14 (q13 :: ps)) (dels H141 (q13 :: ps)) ∧ (∀ x ∈ (q13 :: ps), H141 x ≠ none) ∧ Same H H141 ∧ H141 q13 = some (.lst us148) ∧ AllR pInt (dels H141 (q13 :: ps)) us148 s140 ∧ (s140).length ≤ LIM ∧ True) ⟨_, _, [], rfl, (Same.refl _), P24, T23, e17, (AllR.mono S25 r27), l28, trivial⟩ (fun s140 σ142 H141 ⟨j143, j144, us148, _, S147, P145, T146, e149, r150, l151, _⟩ => (Same.seqT (Same.trans S147 Su) hS137)) (fun d154 s140 σ142 H141 x155 H157 nx152 hr hi156 hw => ?_) (fun s158 σ160 H159 hr hw => ?_))
  · obtain ⟨j143, j144, us148, rfl, S147, P145, T146, e149, r150, l151, _⟩ := hr
    obtain ⟨q170, y171, z172, rfl, n173, s174, e175, hy176, hz177⟩ := hi156
    have P178 := dom_up s174 P145
    have T179 := Same.trans T146 s174
    have e180 := s174 _ _ e149
    have S181 : Same (dels H141 (q13 :: ps)) (dels H157 (q13 :: ps)) := Sd (q13 :: ps) s174
    refine gTup_i (SqT.of e175) rfl (gCons_i (?_))
    obtain rfl : y171 = (.int d154.1) := hy176
    refine gN (σ' := [some v_table, some (.int x_end), some (.int x_factor), some (.ref q13), some (.int d154.1), j144]) rfl (gCons_i (?_))
    obtain rfl : z172 = (.int d154.2) := hz177
    refine gN (σ' := [some v_table, some (.int x_end), some (.int x_factor), some (.ref q13), some (.int d154.1), some (.int d154.2)]) rfl (gNil_i (tIfS_j (tTest_i (tOp_i (tOp_i (tOp_i (tVar_i (v := (.int d154.1)) rfl (tVar_i (v := (.int x_end)) rfl (rI_i (C := fun _ j => 0 ≤ j) hw.1 (tC_i (rModP_i hw.2.1 (tC_i (rEqU_i (IsBl_i (?_)))))))))))))))
    refine Br_two hw.2.2 (fun c182 hw => ?_) (fun c182 hw => ?_)
    · refine tDrop_j (tBM_i (tVar_i (v := (.ref q13)) rfl (tyL (SqL.of e180) (tCons_i (tOp_i (tOp_i (tVar_i (v := (.int d154.2)) rfl (tVar_i (v := (.int x_factor)) rfl (rMulU_i hw.1 (tFld_i (tVar_i (v := v_table) rfl (fldI (j := 0) h_table (Same.trans (S6.trans (S12.trans (S25.trans (S147.trans S181)))) Su) T.own_Table.cl T.na_Table_prime rgZ rfl (rModP_i hw.2.1 (tNil_i (appO (p := pInt) (d := ((d154.2 * x_factor) % x_table.1)) e180 (AllR.mono S181 r150) hw.2.2.1 rfl (fun H183 f184 us185 e186 r187 l188 => ?_))))))))))))))))
      have P189 := dom_off f184 e186 P178
      have T190 := st_off T179 f184 z21
      have S191 : Same (dels H157 (q13 :: ps)) (dels H183 (q13 :: ps)) := So (List.mem_cons_self ..) f184
      obtain ⟨y192, r193, l194, hw⟩ := letO hw.2.2.2 r187 l188
      exact nxS_i (s := (y192)) ⟨_, _, us185, rfl, (S147.trans (S181.trans S191)), P189, T190, e186, (AllR.mono S191 r193), l194, trivial⟩ hw
    · refine tDrop_j (tBM_i (tVar_i (v := (.ref q13)) rfl (tyL (SqL.of e180) (tCons_i (tVar_i (v := (.int d154.2)) rfl (tNil_i (appO (p := pInt) (d := d154.2) e180 (AllR.mono S181 r150) hw.1 rfl (fun H195 f196 us197 e198 r199 l200 => ?_))))))))
      have P201 := dom_off f196 e198 P178
      have T202 := st_off T179 f196 z21
      have S203 : Same (dels H157 (q13 :: ps)) (dels H195 (q13 :: ps)) := So (List.mem_cons_self ..) f196
      obtain ⟨y204, r205, l206, hw⟩ := letO hw.2 r199 l200
      exact nxS_i (s := (y204)) ⟨_, _, us197, rfl, (S147.trans (S181.trans S203)), P201, T202, e198, (AllR.mono S203 r205), l206, trivial⟩ hw
  obtain ⟨j161, j162, us166, rfl, S165, P163, T164, e167, r168, l169, _⟩ := hr
  refine tRet_j (tMak_i (tCons_i (tFld_i (tVar_i (v := v_table) rfl (fldI (j := 0) h_table (Same.trans (S6.trans (S12.trans (S25.trans S165))) Su) T.own_Table.cl T.na_Table_prime rgZ rfl (tCons_i (tFld_i (tVar_i (v := v_table) rfl (fldI (j := 1) h_table (Same.trans (S6.trans (S12.trans (S25.trans S165))) Su) T.own_Table.cl T.na_Table_ends (rgS rgZ) rfl (tCons_i (tVar_i (v := (.ref q13)) rfl (tNil_i (?_)))))))))))))
  have h207 : (pList pInt).rep (dels H159 ps) (.ref q13) s158 := oFrzG e167 m20 (ss_skip ss_refl) r168 l169
  have P208 := dom_ss (ss_skip ss_refl) P163
  have S209 : Same (dels H159 (q13 :: ps)) (dels H159 ps) := Ss (ss_skip ss_refl)
  refine makS (fun n210 dn211 H212 nn213 s214 s215 e216 => ?_)
  have S217 : Same (dels H159 ps) (dels H212 (n210 :: ps)) := Sn ps s214 nn213
  have P218 := dom_new e216 (dom_up s214 P208)
  refine ⟨(n210 :: ps), x_table.1, x_table.2.1, s158, n210, dn211, (.ref q13), rfl, P218, (List.mem_cons_self ..), e216, ((pList pInt).mono S217 h207), _, _, hw, fun r219 hw H220 fs221 s222 e223 hn224 rr225 => ⟨rfl, ?_⟩, (fun er hc hw => errUp (Same.trans T164 s215) (ss_skip ss_refl) (he er (by simp only [List.mem_cons, List.not_mem_nil, or_false] at hc ⊢; omega) hw))⟩
  have s227 := Same.trans s215 s222
  have P228 := dom_up s227 P208
  have T229 := Same.trans T164 s227
  have S230 : Same (dels H159 ps) (dels H220 ps) := Sd ps s227
  have h226 : (pIns t.c_Table ["prime", "ends", "entries"] (rCons pInt (rCons pInt (rOne (pVt K pInt))))).rep (dels H220 ps) (.ref n210) r219 := ⟨_, _, fs221, rfl, dels_at e223 (nin_of nn213 P208), hn224, PRow.mono (rCons pInt (rCons pInt (rOne (pVt K pInt)))) (Ss (ss_skip ss_refl)) rr225⟩
  exact hk _ hw _ _ T229 h226
def sp_wider_lot (K : PySem.W.Frag) (t : Tab) : Sp := fun vs H Q E => ∃ (ps : List Addr) (x_lot : Int) (x_end : Int) (x_count : Int), vs = [(.int x_lot), (.int x_end), (.int x_count)] ∧ (∀ x ∈ ps, H x ≠ none) ∧ ∃ (k : Int → Prop) (e : PErr → Prop), w_wider_lot x_lot x_end x_count k e ∧ (∀ r, k r → RetI V.int H Q r) ∧ (∀ er, er.cls ∈ ([] : List Nat) → e er → ErrK ps t.cl H E er)
theorem len_wider_lot : ∀ vs H Q E, sp_wider_lot K t vs H Q E → vs.length = (["lot", "end", "count"] : List Str).length := by
  rintro vs H Q E ⟨_, _, _, _, rfl, _⟩
  rfl
theorem ok_wider_lot (T : Txt K mg t) : FnOk P w K mg base (L2.CX P w) 1 t.a_wider_lot t.fd_wider_lot ["lot", "end", "count"] (sp_wider_lot K t) := by
  refine T.F_wider_lot.okX sc_wider_lot len_wider_lot (fun cdv A outer s H vs Q E hr h => ?_)
  have nd := sc_wider_lot.nd
  refine ⟨_, (pss_one (ps_ret (pe_op (op_addUK K) (pe_op op_modP (pv 0) (pe_op op_shl (pe_int) (pv 1))) (pe_op op_shl (pe_op op_shr (pv 0) (pv 1)) (pe_op (op_addUK K) (pv 1) (pv 2)))))), ?_⟩
  obtain ⟨ps, x_lot, x_end, x_count, rfl, P0, k, e, hw, hk, he⟩ := h
  unfold w_wider_lot at hw
  refine tRet_j (tOp_i (tOp_i (tVar_i (v := (.int x_lot)) rfl (tOp_i (tC_i (tVar_i (v := (.int x_end)) rfl (rI_i hw.1 (rModP_i hw.2.1 (tOp_i (tOp_i (tVar_i (v := (.int x_lot)) rfl (tVar_i (v := (.int x_end)) rfl (rI_i (C := fun _ j => 0 ≤ j) hw.2.2.1 (tOp_i (tVar_i (v := (.int x_end)) rfl (tVar_i (v := (.int x_count)) rfl (rAddU_i (rI_i hw.2.2.2.1 (rAddU_i (?_))))))))))))))))))))
  exact hk _ hw.2.2.2.2 _ (Same.refl H)
def sp_fixed (K : PySem.W.Frag) (t : Tab) : Sp := fun vs H Q E => ∃ (ps : List Addr) (x_table : (Int × Int × (List Int))) (x_end : Int) (x_bit : Int) (v_table : V), vs = [v_table, (.int x_end), (.int x_bit)] ∧ (∀ x ∈ ps, H x ≠ none) ∧ (pIns t.c_Table ["prime", "ends", "entries"] (rCons pInt (rCons pInt (rOne (pVt K pInt))))).rep (dels H ps) v_table x_table ∧ ∃ (k : (Int × Int × (List Int)) → Prop) (e : PErr → Prop), w_fixed x_table x_end x_bit k e ∧ (∀ r, k r → RetK ps (pIns t.c_Table ["prime", "ends", "entries"] (rCons pInt (rCons pInt (rOne (pVt K pInt))))) H Q r) ∧ (∀ er, er.cls ∈ ([1, 2] : List Nat) → e er → ErrK ps t.cl H E er)
theorem len_fixed : ∀ vs H Q E, sp_fixed K t vs H Q E → vs.length = (["table", "end", "bit"] : List Str).length := by
  rintro vs H Q E ⟨_, _, _, _, _, rfl, _⟩
  rfl
theorem ok_fixed (T : Txt K mg t) : FnOk P w K mg base (L2.CX P w) 8 t.a_fixed t.fd_fixed ["table", "end", "bit"] (sp_fixed K t) := by
  have G_look_number := ok_look_number (P := P) (w := w) (base := base) T
  have G_wider_lot := ok_wider_lot (P := P) (w := w) (base := base) T
  have G_Table_init := ok_Table_init (P := P) (w := w) (base := base) T
  refine T.F_fixed.okX sc_fixed len_fixed (fun cdv A outer s H vs Q E hr h => ?_)
  have nd := sc_fixed.nd
  refine ⟨_, (pss_cons (ps_expr (pe_callS G_look_number (hr.mono (by decide)) (by rfl) T.g_look_number T.F_look_number.kp T.b_look_number (fun σ => passAt (takes_of rfl rfl rfl rfl) σ) (pa_cons (pv 1) (pa_cons (pe_int) (pa_cons (pe_op op_sub (pe_fldK K (pv 0) rfl) (pe_int)) pa_nil)))))
    (pss_cons (ps_expr (pe_callS G_look_number (hr.mono (by decide)) (by rfl) T.g_look_number T.F_look_number.kp T.b_look_number (fun σ => passAt (takes_of rfl rfl rfl rfl) σ) (pa_cons (pv 2) (pa_cons (pe_int) (pa_cons (pe_int) pa_nil)))))
    (pss_cons (ps_set (i := 3) nd rfl (Or.inr rfl) (pe_op op_shl (pv 2) (pv 1)))
    (pss_cons (ps_setLc (i := 4) (own := [("lot", 5)]) (g := gName 5) (tt := tYes) rfl nd rfl rfl (sw_true rfl rfl rfl (by decide +kernel)) (pi_range1 (by rfl) T.n_range (pa_cons (pe_op op_shl (pe_int) (pe_op op_sub (pe_fldK K (pv 0) rfl) (pe_int))) pa_nil)) (blkOk_by (N := ["table", "end", "bit", "kept", "entries", "lot"]) (sc := defScope s_fixed) (by decide +kernel)) (fun _ _ _ _ _ => (pg_name (i := 5) nd rfl (Or.inl rfl))) (fun _ _ _ _ _ => pts_nil) (fun _ _ _ _ _ => (pe_ix (ix_UK K) (pe_fldK K (pv 0) rfl) (pe_op (op_addUK K) (pe_call G_wider_lot (hr.mono (by decide)) (by rfl) T.g_wider_lot T.F_wider_lot.kp T.b_wider_lot .nil passL (pa_cons (pv 5) (pa_cons (pv 1) (pa_cons (pe_int) pa_nil)))) (pv 3)) (fun _ _ => rfl))))
    (pss_one (ps_ret (pe_mak T.mk_Table G_Table_init (hr.mono (by decide)) (by rfl) T.g_Table T.b_Table_init (fun σ => passAt (takes_of rfl rfl rfl rfl) σ) (pa_cons (pe_fldK K (pv 0) rfl) (pa_cons (pe_op op_sub (pe_fldK K (pv 0) rfl) (pe_int)) (pa_cons (pv 4) pa_nil)))))))))), ?_⟩
  obtain ⟨ps, x_table, x_end, x_bit, v_table, rfl, P0, h_table, k, e, hw, hk, he⟩ := h
  unfold w_fixed at hw
  refine tSeq_j (tDrop_j (tCallS_i (tCons_i (tVar_i (v := (.int x_end)) rfl (tCons_i (tC_i (tCons_i (tOp_i (tFld_i (tVar_i (v := v_table) rfl (fldI (j := 1) h_table Su T.own_Table.cl T.na_Table_ends (rgS rgZ) rfl (tC_i (rI0_i (tNil_i (?_)))))))))))))))
  refine ⟨ps, x_end, (0 : Int), (x_table.2.1 - (1 : Int)), rfl, P0, _, _, hw, fun r1 hw H2 s3 => ?_, (fun er hc hw => errUp (Same.refl H) ss_refl (he er (by simp only [List.mem_cons, List.not_mem_nil, or_false] at hc ⊢; omega) hw))⟩
  have P4 := dom_up s3 P0
  have T5 := Same.trans (Same.refl H) s3
  have S6 : Same (dels H ps) (dels H2 ps) := Sd ps s3
  refine tSeq_j (tDrop_j (tCallS_i (tCons_i (tVar_i (v := (.int x_bit)) rfl (tCons_i (tC_i (tCons_i (tC_i (tNil_i (?_))))))))))
  refine ⟨ps, x_bit, (0 : Int), (1 : Int), rfl, P4, _, _, hw, fun r7 hw H8 s9 => ?_, (fun er hc hw => errUp T5 ss_refl (he er (by simp only [List.mem_cons, List.not_mem_nil, or_false] at hc ⊢; omega) hw))⟩
  have P10 := dom_up s9 P4
  have T11 := Same.trans T5 s9
  have S12 : Same (dels H2 ps) (dels H8 ps) := Sd ps s9
  refine tSeq_j (tAsg_j (tOp_i (tVar_i (v := (.int x_bit)) rfl (tVar_i (v := (.int x_end)) rfl (rI_i hw.1 (?_))))))
  refine asgIL (f := V.int) (e := (x_bit * 2 ^ Int.toNat x_end)) (g := fun y13 => [some v_table, some (.int x_end), some (.int x_bit), some (.int y13), none, none]) hw.2 (fun _ => rfl) (fun y13 hw => ?_)
  refine tSeq_j (tAsg_j (tLc_i (w1 (tCons_i (tOp_i (tC_i (tOp_i (tFld_i (tVar_i (v := v_table) rfl (fldI (j := 1) h_table (Same.trans (S6.trans S12) Su) T.own_Table.cl T.na_Table_ends (rgS rgZ) rfl (tC_i (rI0_i (rI_i hw.1 (tNil_i (rgW1 hw.2.1 (?_))))))))))))))))
  refine lcR0 (pb := pInt) (ps := ps) hw.2.2.2 hw.2.2.1 P10 (fun q14 d15 H17 n19 s20 ⟨acc21, e22⟩ nx24 hw Y25 N26 hY27 hN28 => ?_) (fun q61 H62 acc63 zs64 n65 s66 e67 r68 l69 hw => ?_)
  · have m45 := nin_of n19 P10
    have z46 := Same.free T11 n19
    have P47 := dom_up s20 P10
    have T48 := Same.trans T11 s20
    have P49 := dom_new e22 P47
    have S50 : Same (dels H8 ps) (dels H17 (q14 :: ps)) := Sn ps s20 n19
    refine gN (σ' := [some v_table, some (.int x_end), some (.int x_bit), some (.int y13), none, some (.int d15)]) rfl (wipe_i rfl (tYes_i (Br_t (tOp_i (tFld_i (tVar_i (v := v_table) rfl (fldS (j := 2) h_table (Same.trans (S6.trans (S12.trans S50)) Su) T.own_Table.cl T.na_Table_entries (rgS (rgS rgOne)) rfl (fun u51 h52 => tOp_i (tCall_i (tCons_i (tVar_i (v := (.int d15)) rfl (tCons_i (tVar_i (v := (.int x_end)) rfl (tCons_i (tC_i (tNil_i (?_)))))))))))))))))
    refine ⟨(q14 :: ps), d15, x_end, (1 : Int), rfl, P49, _, _, hw, fun r53 hw H54 s55 => ?_, (fun er _ hw => False.elim hw)⟩
    have P56 := dom_up s55 P49
    have T57 := Same.trans T48 s55
    have sc58 := Same.trans (Same.refl H17) s55
    have e59 := s55 _ _ e22
    have S60 : Same (dels H17 (q14 :: ps)) (dels H54 (q14 :: ps)) := Sd (q14 :: ps) s55
    refine tVar_i (v := (.int y13)) rfl (rAddU_i (ixI (sqV (Same.trans (S6.trans (S12.trans (S50.trans S60))) Su) h52) hw.1 (?_)))
    exact hY27 (ixG x_table.2.2 (r53 + y13)) _ _ sc58 rfl hw.2
  have m70 := nin_of n65 P10
  have z71 := Same.free T11 n65
  have P72 := dom_up s66 P10
  have T73 := Same.trans T11 s66
  have P74 := dom_new e67 P72
  have S75 : Same (dels H8 ps) (dels H62 (q61 :: ps)) := Sn ps s66 n65
  have h76 : (pList pInt).rep (dels H62 ps) (.ref q61) zs64 := oFrzG e67 m70 (ss_skip ss_refl) r68 l69
  have P77 := dom_ss (ss_skip ss_refl) P74
  have S78 : Same (dels H62 (q61 :: ps)) (dels H62 ps) := Ss (ss_skip ss_refl)
  refine gN (σ' := [some v_table, some (.int x_end), some (.int x_bit), some (.int y13), some (.ref q61), none]) rfl (tRet_j (tMak_i (tCons_i (tFld_i (tVar_i (v := v_table) rfl (fldI (j := 0) h_table (Same.trans (S6.trans (S12.trans (S75.trans S78))) Su) T.own_Table.cl T.na_Table_prime rgZ rfl (tCons_i (tOp_i (tFld_i (tVar_i (v := v_table) rfl (fldI (j := 1) h_table (Same.trans (S6.trans (S12.trans (S75.trans S78))) Su) T.own_Table.cl T.na_Table_ends (rgS rgZ) rfl (tC_i (rI0_i (tCons_i (tVar_i (v := (.ref q61)) rfl (tNil_i (?_)))))))))))))))))
  refine makS (fun n79 dn80 H81 nn82 s83 s84 e85 => ?_)
  have S86 : Same (dels H62 ps) (dels H81 (n79 :: ps)) := Sn ps s83 nn82
  have P87 := dom_new e85 (dom_up s83 P77)
  refine ⟨(n79 :: ps), x_table.1, (x_table.2.1 - (1 : Int)), zs64, n79, dn80, (.ref q61), rfl, P87, (List.mem_cons_self ..), e85, ((pList pInt).mono S86 h76), _, _, hw, fun r88 hw H89 fs90 s91 e92 hn93 rr94 => ⟨rfl, ?_⟩, (fun er hc hw => errUp (Same.trans T73 s84) (ss_skip ss_refl) (he er (by simp only [List.mem_cons, List.not_mem_nil, or_false] at hc ⊢; omega) hw))⟩
  have s96 := Same.trans s84 s91
  have P97 := dom_up s96 P77
  have T98 := Same.trans T73 s96
  have S99 : Same (dels H62 ps) (dels H89 ps) := Sd ps s96
  have h95 : (pIns t.c_Table ["prime", "ends", "entries"] (rCons pInt (rCons pInt (rOne (pVt K pInt))))).rep (dels H89 ps) (.ref n79) r88 := ⟨_, _, fs90, rfl, dels_at e92 (nin_of nn82 P77), hn93, PRow.mono (rCons pInt (rCons pInt (rOne (pVt K pInt)))) (Ss (ss_skip ss_refl)) rr94⟩
  exact hk _ hw _ _ T98 h95
def sp_tied_ends (K : PySem.W.Frag) (t : Tab) : Sp := fun vs H Q E => ∃ (ps : List Addr) (x_table : (Int × Int × (List Int))) (x_end : Int) (x_weight : Int) (v_table : V), vs = [v_table, (.int x_end), (.int x_weight)] ∧ (∀ x ∈ ps, H x ≠ none) ∧ (pIns t.c_Table ["prime", "ends", "entries"] (rCons pInt (rCons pInt (rOne (pVt K pInt))))).rep (dels H ps) v_table x_table ∧ ∃ (k : (Int × Int × (List Int)) → Prop) (e : PErr → Prop), w_tied_ends x_table x_end x_weight k e ∧ (∀ r, k r → RetK ps (pIns t.c_Table ["prime", "ends", "entries"] (rCons pInt (rCons pInt (rOne (pVt K pInt))))) H Q r) ∧ (∀ er, er.cls ∈ ([1, 2] : List Nat) → e er → ErrK ps t.cl H E er)
theorem len_tied_ends : ∀ vs H Q E, sp_tied_ends K t vs H Q E → vs.length = (["table", "end", "weight"] : List Str).length := by
  rintro vs H Q E ⟨_, _, _, _, _, rfl, _⟩
  rfl
theorem ok_tied_ends (T : Txt K mg t) : FnOk P w K mg base (L2.CX P w) 8 t.a_tied_ends t.fd_tied_ends ["table", "end", "weight"] (sp_tied_ends K t) := by
  have G_look_number := ok_look_number (P := P) (w := w) (base := base) T
  have G_look_residue := ok_look_residue (P := P) (w := w) (base := base) T
  have G_wider_lot := ok_wider_lot (P := P) (w := w) (base := base) T
  have G_Table_init := ok_Table_init (P := P) (w := w) (base := base) T
  refine T.F_tied_ends.okX sc_tied_ends len_tied_ends (fun cdv A outer s H vs Q E hr h => ?_)
  have nd := sc_tied_ends.nd
  refine ⟨_, (pss_cons (ps_expr (pe_callS G_look_number (hr.mono (by decide)) (by rfl) T.g_look_number T.F_look_number.kp T.b_look_number (fun σ => passAt (takes_of rfl rfl rfl rfl) σ) (pa_cons (pv 1) (pa_cons (pe_int) (pa_cons (pe_op op_sub (pe_fldK K (pv 0) rfl) (pe_int)) pa_nil)))))
    (pss_cons (ps_expr (pe_callS G_look_residue (hr.mono (by decide)) (by rfl) T.g_look_residue T.F_look_residue.kp T.b_look_residue (fun σ => passAt (takes_of rfl rfl rfl rfl) σ) (pa_cons (pe_fldK K (pv 0) rfl) (pa_cons (pv 2) pa_nil))))
    (pss_cons (ps_set (i := 3) nd rfl (Or.inl rfl) (pe_op op_shl (pe_int) (pv 1)))
    (pss_cons (ps_set (i := 4) nd rfl (Or.inl rfl) (pe_lst pa_nil))
    (pss_cons (ps_for (passes_of rfl) rfl (pi_range1 (by rfl) T.n_range (pa_cons (pe_op op_shl (pe_int) (pe_op op_sub (pe_fldK K (pv 0) rfl) (pe_int))) pa_nil)) (pg_name (i := 5) nd rfl (Or.inl rfl))
    (pss_cons (ps_set (i := 6) nd rfl (Or.inl rfl) (pe_callS G_wider_lot (hr.mono (by decide)) (by rfl) T.g_wider_lot T.F_wider_lot.kp T.b_wider_lot (fun σ => passAt (takes_of rfl rfl rfl rfl) σ) (pa_cons (pv 5) (pa_cons (pv 1) (pa_cons (pe_int) pa_nil)))))
    (pss_one (ps_expr (pe_bmK K PySem.F.plainAttrs_list PySem.F.slot_list_append PySem.F.type_list_append mt_append (pv 4) (pa_cons (pe_op op_modP (pe_op (op_addUK K) (pe_ix (ix_UK K) (pe_fldK K (pv 0) rfl) (pv 6) (fun _ _ => rfl)) (pe_op op_mulU (pv 2) (pe_ix (ix_UK K) (pe_fldK K (pv 0) rfl) (pe_op (op_addUK K) (pv 6) (pv 3)) (fun _ _ => rfl)))) (pe_fldK K (pv 0) rfl)) pa_nil))))))
    (pss_one (ps_ret (pe_mak T.mk_Table G_Table_init (hr.mono (by decide)) (by rfl) T.g_Table T.b_Table_init (fun σ => passAt (takes_of rfl rfl rfl rfl) σ) (pa_cons (pe_fldK K (pv 0) rfl) (pa_cons (pe_op op_sub (pe_fldK K (pv 0) rfl) (pe_int)) (pa_cons (pv 4) pa_nil))))))))))), ?_⟩
  obtain ⟨ps, x_table, x_end, x_weight, v_table, rfl, P0, h_table, k, e, hw, hk, he⟩ := h
  unfold w_tied_ends at hw
  refine tSeq_j (tDrop_j (tCallS_i (tCons_i (tVar_i (v := (.int x_end)) rfl (tCons_i (tC_i (tCons_i (tOp_i (tFld_i (tVar_i (v := v_table) rfl (fldI (j := 1) h_table Su T.own_Table.cl T.na_Table_ends (rgS rgZ) rfl (tC_i (rI0_i (tNil_i (?_)))))))))))))))
  refine ⟨ps, x_end, (0 : Int), (x_table.2.1 - (2 : Int)), rfl, P0, _, _, hw, fun r1 hw H2 s3 => ?_, (fun er hc hw => errUp (Same.refl H) ss_refl (he er (by simp only [List.mem_cons, List.not_mem_nil, or_false] at hc ⊢; omega) hw))⟩
  have P4 := dom_up s3 P0
  have T5 := Same.trans (Same.refl H) s3
  have S6 : Same (dels H ps) (dels H2 ps) := Sd ps s3
  refine tSeq_j (tDrop_j (tCallS_i (tCons_i (tFld_i (tVar_i (v := v_table) rfl (fldI (j := 0) h_table (Same.trans S6 Su) T.own_Table.cl T.na_Table_prime rgZ rfl (tCons_i (tVar_i (v := (.int x_weight)) rfl (tNil_i (?_))))))))))
  refine ⟨ps, x_table.1, x_weight, rfl, P4, _, _, hw, fun r7 hw H8 s9 => ?_, (fun er hc hw => errUp T5 ss_refl (he er (by simp only [List.mem_cons, List.not_mem_nil, or_false] at hc ⊢; omega) hw))⟩
  have P10 := dom_up s9 P4
  have T11 := Same.trans T5 s9
  have S12 : Same (dels H2 ps) (dels H8 ps) := Sd ps s9
  refine tSeq_j (tAsg_j (tOp_i (tC_i (tVar_i (v := (.int x_end)) rfl (rI_i hw.1 (?_))))))
  refine asgIL (f := V.int) (e := ((3 : Int) * 2 ^ Int.toNat x_end)) (g := fun y13 => [some v_table, some (.int x_end), some (.int x_weight), some (.int y13), none, none, none]) hw.2 (fun _ => rfl) (fun y13 hw => ?_)
  refine tSeq_j (tAsg_j (tLst_i (tNil_i (new_i (Nat.le_of_ble_eq_true rfl) (fun q14 H15 n16 s17 e18 => ?_)))))
  have r19 : AllR pInt (dels H8 ps) [] ([] : List Int) := .nil
  have l20 : ([] : List Int).length ≤ LIM := (Nat.le_of_ble_eq_true rfl)
  have m21 := nin_of n16 P10
  have z22 := Same.free T11 n16
  have P23 := dom_up s17 P10
  have T24 := Same.trans T11 s17
  have P25 := dom_new e18 P23
  have S26 : Same (dels H8 ps) (dels H15 (q14 :: ps)) := Sn ps s17 n16
  refine gN (σ' := [some v_table, some (.int x_end), some (.int x_weight), some (.int y13), some (.ref q14), none, none]) rfl (?_)
  obtain ⟨y27, r28, l29, hw⟩ := letO hw r19 l20
  refine tSeq_j (tFor_j (w1 (tCons_i (tOp_i (tC_i (tOp_i (tFld_i (tVar_i (v := v_table) rfl (fldI (j := 1) h_table (Same.trans (S6.trans (S12.trans S26)) Su) T.own_Table.cl T.na_Table_ends (rgS rgZ) rfl (tC_i (rI0_i (rI_i hw.1 (tNil_i (rgW1 hw.2.1 (?_)))))))))))))))
  refine forR0 (s0 := y27) hw.2.2 (fun (s95 : (List Int)) (σ97 : L2.St) (H96 : Hp) => ∃ (j98 : Option V) (j99 : Option V) (us103 : List V), σ97 = [some v_table, some (.int x_end), some (.int x_weight), some (.int y13), some (.ref q14), j98, j99] ∧ Same (dels H15 (q14 :: ps)) (dels H96 (q14 :: ps)) ∧ (∀ x ∈ (q14 :: ps), H96 x ≠ none) ∧ Same H H96 ∧ H96 q14 = some (.lst us103) ∧ AllR pInt (dels H96 (q14 :: ps)) us103 s95 ∧ (s95).length ≤ LIM ∧ True) ⟨_, _, [], rfl, (Same.refl _), P25, T24, e18, (AllR.mono S26 r28), l29, trivial⟩ (fun d109 s95 σ97 H96 nx107 hr hw => ?_) (fun s113 σ115 H114 hr hw => ?_)
  · obtain ⟨j98, j99, us103, rfl, S102, P100, T101, e104, r105, l106, _⟩ := hr
    refine gN (σ' := [some v_table, some (.int x_end), some (.int x_weight), some (.int y13), some (.ref q14), some (.int d109), j99]) rfl (tSeq_j (tAsg_j (tCallS_i (tCons_i (tVar_i (v := (.int d109)) rfl (tCons_i (tVar_i (v := (.int x_end)) rfl (tCons_i (tC_i (tNil_i (?_)))))))))))
    refine ⟨(q14 :: ps), d109, x_end, (2 : Int), rfl, P100, _, _, hw, fun r125 hw H126 s127 => ?_, (fun er hc hw => errUp T101 (ss_skip ss_refl) (he er (absurd hc (List.not_mem_nil)) hw))⟩
    have P128 := dom_up s127 P100
    have T129 := Same.trans T101 s127
    have e130 := s127 _ _ e104
    have S131 : Same (dels H96 (q14 :: ps)) (dels H126 (q14 :: ps)) := Sd (q14 :: ps) s127
    refine gN (σ' := [some v_table, some (.int x_end), some (.int x_weight), some (.int y13), some (.ref q14), some (.int d109), some (.int r125)]) rfl (tDrop_j (tBM_i (tVar_i (v := (.ref q14)) rfl (tyL (SqL.of e130) (tCons_i (tOp_i (tOp_i (tOp_i (tFld_i (tVar_i (v := v_table) rfl (fldS (j := 2) h_table (Same.trans (S6.trans (S12.trans (S26.trans (S102.trans S131)))) Su) T.own_Table.cl T.na_Table_entries (rgS (rgS rgOne)) rfl (fun u132 h133 => tVar_i (v := (.int r125)) rfl (ixI (sqV (Same.trans (S6.trans (S12.trans (S26.trans (S102.trans S131)))) Su) h133) hw.1 (tOp_i (tVar_i (v := (.int x_weight)) rfl (tOp_i (tFld_i (tVar_i (v := v_table) rfl (fldS (j := 2) h_table (Same.trans (S6.trans (S12.trans (S26.trans (S102.trans S131)))) Su) T.own_Table.cl T.na_Table_entries (rgS (rgS rgOne)) rfl (fun u134 h135 => tOp_i (tVar_i (v := (.int r125)) rfl (tVar_i (v := (.int y13)) rfl (rAddU_i (ixI (sqV (Same.trans (S6.trans (S12.trans (S26.trans (S102.trans S131)))) Su) h135) hw.2.1 (rMulU_i hw.2.2.1 (rAddU_i (tFld_i (tVar_i (v := v_table) rfl (fldI (j := 0) h_table (Same.trans (S6.trans (S12.trans (S26.trans (S102.trans S131)))) Su) T.own_Table.cl T.na_Table_prime rgZ rfl (rModP_i hw.2.2.2.1 (tNil_i (appO (p := pInt) (d := (((ixG x_table.2.2 r125) + (x_weight * (ixG x_table.2.2 (r125 + y13)))) % x_table.1)) e130 (AllR.mono S131 r105) hw.2.2.2.2.1 rfl (fun H136 f137 us138 e139 r140 l141 => ?_)))))))))))))))))))))))))))))))))
    have P142 := dom_off f137 e139 P128
    have T143 := st_off T129 f137 z22
    have S144 : Same (dels H126 (q14 :: ps)) (dels H136 (q14 :: ps)) := So (List.mem_cons_self ..) f137
    obtain ⟨y145, r146, l147, hw⟩ := letO hw.2.2.2.2.2 r140 l141
    exact nxS_i (s := (y145)) ⟨_, _, us138, rfl, (S102.trans (S131.trans S144)), P142, T143, e139, (AllR.mono S144 r146), l147, trivial⟩ hw
  obtain ⟨j116, j117, us121, rfl, S120, P118, T119, e122, r123, l124, _⟩ := hr
  refine tRet_j (tMak_i (tCons_i (tFld_i (tVar_i (v := v_table) rfl (fldI (j := 0) h_table (Same.trans (S6.trans (S12.trans (S26.trans S120))) Su) T.own_Table.cl T.na_Table_prime rgZ rfl (tCons_i (tOp_i (tFld_i (tVar_i (v := v_table) rfl (fldI (j := 1) h_table (Same.trans (S6.trans (S12.trans (S26.trans S120))) Su) T.own_Table.cl T.na_Table_ends (rgS rgZ) rfl (tC_i (rI0_i (tCons_i (tVar_i (v := (.ref q14)) rfl (tNil_i (?_))))))))))))))))
  have h148 : (pList pInt).rep (dels H114 ps) (.ref q14) s113 := oFrzG e122 m21 (ss_skip ss_refl) r123 l124
  have P149 := dom_ss (ss_skip ss_refl) P118
  have S150 : Same (dels H114 (q14 :: ps)) (dels H114 ps) := Ss (ss_skip ss_refl)
  refine makS (fun n151 dn152 H153 nn154 s155 s156 e157 => ?_)
  have S158 : Same (dels H114 ps) (dels H153 (n151 :: ps)) := Sn ps s155 nn154
  have P159 := dom_new e157 (dom_up s155 P149)
  refine ⟨(n151 :: ps), x_table.1, (x_table.2.1 - (2 : Int)), s113, n151, dn152, (.ref q14), rfl, P159, (List.mem_cons_self ..), e157, ((pList pInt).mono S158 h148), _, _, hw, fun r160 hw H161 fs162 s163 e164 hn165 rr166 => ⟨rfl, ?_⟩, (fun er hc hw => errUp (Same.trans T119 s156) (ss_skip ss_refl) (he er (by simp only [List.mem_cons, List.not_mem_nil, or_false] at hc ⊢; omega) hw))⟩
  have s168 := Same.trans s156 s163
  have P169 := dom_up s168 P149
  have T170 := Same.trans T119 s168
  have S171 : Same (dels H114 ps) (dels H161 ps) := Sd ps s168
  have h167 : (pIns t.c_Table ["prime", "ends", "entries"] (rCons pInt (rCons pInt (rOne (pVt K pInt))))).rep (dels H161 ps) (.ref n151) r160 := ⟨_, _, fs162, rfl, dels_at e164 (nin_of nn154 P149), hn165, PRow.mono (rCons pInt (rCons pInt (rOne (pVt K pInt)))) (Ss (ss_skip ss_refl)) rr166⟩
  exact hk _ hw _ _ T170 h167
def sp_ulaw_done (K : PySem.W.Frag) (t : Tab) : Sp := fun vs H Q E => ∃ (ps : List Addr) (x_way : Str) (x_sheet : (Int × Int × (List Int))) (x_one : Int) (x_two : Int) (v_sheet : V), vs = [(.str x_way), v_sheet, (.int x_one), (.int x_two)] ∧ (∀ x ∈ ps, H x ≠ none) ∧ (pIns t.c_Table ["prime", "ends", "entries"] (rCons pInt (rCons pInt (rOne (pVt K pInt))))).rep (dels H ps) v_sheet x_sheet ∧ ∃ (k : (Int × Int × (List Int)) → Prop) (e : PErr → Prop), w_ulaw_done x_way x_sheet x_one x_two k e ∧ (∀ r, k r → RetK ps (pIns t.c_Table ["prime", "ends", "entries"] (rCons pInt (rCons pInt (rOne (pVt K pInt))))) H Q r) ∧ (∀ er, er.cls ∈ ([1, 2] : List Nat) → e er → ErrK ps t.cl H E er)
theorem len_ulaw_done : ∀ vs H Q E, sp_ulaw_done K t vs H Q E → vs.length = (["way", "sheet", "one", "two"] : List Str).length := by
  rintro vs H Q E ⟨_, _, _, _, _, _, rfl, _⟩
  rfl
theorem ok_ulaw_done (T : Txt K mg t) : FnOk P w K mg base (L2.CX P w) 9 t.a_ulaw_done t.fd_ulaw_done ["way", "sheet", "one", "two"] (sp_ulaw_done K t) := by
  have G_turned := ok_turned (P := P) (w := w) (base := base) T
  have G_mirrored_table := ok_mirrored_table (P := P) (w := w) (base := base) T
  have G_flipped := ok_flipped (P := P) (w := w) (base := base) T
  have G_weighted := ok_weighted (P := P) (w := w) (base := base) T
  have G_fixed := ok_fixed (P := P) (w := w) (base := base) T
  have G_tied_ends := ok_tied_ends (P := P) (w := w) (base := base) T
  refine T.F_ulaw_done.okX sc_ulaw_done len_ulaw_done (fun cdv A outer s H vs Q E hr h => ?_)
  have nd := sc_ulaw_done.nd
  refine ⟨_, (pss_cons (ps_if (pt_cmpR (op_eqUK K hr) (pv 0) (pe_str) (by first | exact nomark _ | rfl)) (pss_one (ps_ret (pe_callS G_turned (hr.mono (by decide)) (by rfl) T.g_turned T.F_turned.kp T.b_turned (fun σ => passAt (takes_of rfl rfl rfl rfl) σ) (pa_cons (pv 1) (pa_cons (pv 2) pa_nil))))) pss_nil)
    (pss_cons (ps_if (pt_cmpR (op_eqUK K hr) (pv 0) (pe_str) (by first | exact nomark _ | rfl)) (pss_one (ps_ret (pe_callS G_mirrored_table (hr.mono (by decide)) (by rfl) T.g_mirrored_table T.F_mirrored_table.kp T.b_mirrored_table (fun σ => passAt (takes_of rfl rfl rfl rfl) σ) (pa_cons (pv 1) pa_nil)))) pss_nil)
    (pss_cons (ps_if (pt_cmpR (op_eqUK K hr) (pv 0) (pe_str) (by first | exact nomark _ | rfl)) (pss_one (ps_ret (pe_callS G_flipped (hr.mono (by decide)) (by rfl) T.g_flipped T.F_flipped.kp T.b_flipped (fun σ => passAt (takes_of rfl rfl rfl rfl) σ) (pa_cons (pv 1) (pa_cons (pv 2) pa_nil))))) pss_nil)
    (pss_cons (ps_if (pt_cmpR (op_eqUK K hr) (pv 0) (pe_str) (by first | exact nomark _ | rfl)) (pss_one (ps_ret (pe_callS G_weighted (hr.mono (by decide)) (by rfl) T.g_weighted T.F_weighted.kp T.b_weighted (fun σ => passAt (takes_of rfl rfl rfl rfl) σ) (pa_cons (pv 1) (pa_cons (pv 2) (pa_cons (pv 3) pa_nil)))))) pss_nil)
    (pss_cons (ps_if (pt_cmpR (op_eqUK K hr) (pv 0) (pe_str) (by first | exact nomark _ | rfl)) (pss_one (ps_ret (pe_callS G_fixed (hr.mono (by decide)) (by rfl) T.g_fixed T.F_fixed.kp T.b_fixed (fun σ => passAt (takes_of rfl rfl rfl rfl) σ) (pa_cons (pv 1) (pa_cons (pv 2) (pa_cons (pv 3) pa_nil)))))) pss_nil)
    (pss_one (ps_ret (pe_callS G_tied_ends (hr.mono (by decide)) (by rfl) T.g_tied_ends T.F_tied_ends.kp T.b_tied_ends (fun σ => passAt (takes_of rfl rfl rfl rfl) σ) (pa_cons (pv 1) (pa_cons (pv 2) (pa_cons (pv 3) pa_nil))))))))))), ?_⟩
  obtain ⟨ps, x_way, x_sheet, x_one, x_two, v_sheet, rfl, P0, h_sheet, k, e, hw, hk, he⟩ := h
  unfold w_ulaw_done at hw
  refine tSeq_j (tIfS_j (tTest_i (tOp_i (tVar_i (v := (.str x_way)) rfl (tC_i (rEqU_s (IsBl_i (?_))))))))
  refine Br_two hw (fun c1 hw => ?_) (fun c1 hw => ?_)
  · refine tRet_j (tCallS_i (tCons_i (tVar_i (v := v_sheet) rfl (tCons_i (tVar_i (v := (.int x_one)) rfl (tNil_i (?_)))))))
    refine ⟨ps, x_sheet, x_one, v_sheet, rfl, P0, h_sheet, _, _, hw, fun r2 hw H3 v5 s4 h6 => ?_, (fun er hc hw => errUp (Same.refl H) ss_refl (he er (by simp only [List.mem_cons, List.not_mem_nil, or_false] at hc ⊢; omega) hw))⟩
    have P7 := dom_up s4 P0
    have T8 := Same.trans (Same.refl H) s4
    have S9 : Same (dels H ps) (dels H3 ps) := Sd ps s4
    exact hk _ hw _ _ T8 h6
  · refine tNext_j (tSeq_j (tIfS_j (tTest_i (tOp_i (tVar_i (v := (.str x_way)) rfl (tC_i (rEqU_s (IsBl_i (?_)))))))))
    refine Br_two hw (fun c10 hw => ?_) (fun c10 hw => ?_)
    · refine tRet_j (tCallS_i (tCons_i (tVar_i (v := v_sheet) rfl (tNil_i (?_)))))
      refine ⟨ps, x_sheet, v_sheet, rfl, P0, h_sheet, _, _, hw, fun r11 hw H12 v14 s13 h15 => ?_, (fun er hc hw => errUp (Same.refl H) ss_refl (he er (by simp only [List.mem_cons, List.not_mem_nil, or_false] at hc ⊢; omega) hw))⟩
      have P16 := dom_up s13 P0
      have T17 := Same.trans (Same.refl H) s13
      have S18 : Same (dels H ps) (dels H12 ps) := Sd ps s13
      exact hk _ hw _ _ T17 h15
    · refine tNext_j (tSeq_j (tIfS_j (tTest_i (tOp_i (tVar_i (v := (.str x_way)) rfl (tC_i (rEqU_s (IsBl_i (?_)))))))))
      refine Br_two hw (fun c19 hw => ?_) (fun c19 hw => ?_)
      · refine tRet_j (tCallS_i (tCons_i (tVar_i (v := v_sheet) rfl (tCons_i (tVar_i (v := (.int x_one)) rfl (tNil_i (?_)))))))
        refine ⟨ps, x_sheet, x_one, v_sheet, rfl, P0, h_sheet, _, _, hw, fun r20 hw H21 v23 s22 h24 => ?_, (fun er hc hw => errUp (Same.refl H) ss_refl (he er (by simp only [List.mem_cons, List.not_mem_nil, or_false] at hc ⊢; omega) hw))⟩
        have P25 := dom_up s22 P0
        have T26 := Same.trans (Same.refl H) s22
        have S27 : Same (dels H ps) (dels H21 ps) := Sd ps s22
        exact hk _ hw _ _ T26 h24
      · refine tNext_j (tSeq_j (tIfS_j (tTest_i (tOp_i (tVar_i (v := (.str x_way)) rfl (tC_i (rEqU_s (IsBl_i (?_)))))))))
        refine Br_two hw (fun c28 hw => ?_) (fun c28 hw => ?_)
        · refine tRet_j (tCallS_i (tCons_i (tVar_i (v := v_sheet) rfl (tCons_i (tVar_i (v := (.int x_one)) rfl (tCons_i (tVar_i (v := (.int x_two)) rfl (tNil_i (?_)))))))))
          refine ⟨ps, x_sheet, x_one, x_two, v_sheet, rfl, P0, h_sheet, _, _, hw, fun r29 hw H30 v32 s31 h33 => ?_, (fun er hc hw => errUp (Same.refl H) ss_refl (he er (by simp only [List.mem_cons, List.not_mem_nil, or_false] at hc ⊢; omega) hw))⟩
          have P34 := dom_up s31 P0
          have T35 := Same.trans (Same.refl H) s31
          have S36 : Same (dels H ps) (dels H30 ps) := Sd ps s31
          exact hk _ hw _ _ T35 h33
        · refine tNext_j (tSeq_j (tIfS_j (tTest_i (tOp_i (tVar_i (v := (.str x_way)) rfl (tC_i (rEqU_s (IsBl_i (?_)))))))))
          refine Br_two hw (fun c37 hw => ?_) (fun c37 hw => ?_)
          · refine tRet_j (tCallS_i (tCons_i (tVar_i (v := v_sheet) rfl (tCons_i (tVar_i (v := (.int x_one)) rfl (tCons_i (tVar_i (v := (.int x_two)) rfl (tNil_i (?_)))))))))
            refine ⟨ps, x_sheet, x_one, x_two, v_sheet, rfl, P0, h_sheet, _, _, hw, fun r38 hw H39 v41 s40 h42 => ?_, (fun er hc hw => errUp (Same.refl H) ss_refl (he er (by simp only [List.mem_cons, List.not_mem_nil, or_false] at hc ⊢; omega) hw))⟩
            have P43 := dom_up s40 P0
            have T44 := Same.trans (Same.refl H) s40
            have S45 : Same (dels H ps) (dels H39 ps) := Sd ps s40
            exact hk _ hw _ _ T44 h42
          · refine tNext_j (tRet_j (tCallS_i (tCons_i (tVar_i (v := v_sheet) rfl (tCons_i (tVar_i (v := (.int x_one)) rfl (tCons_i (tVar_i (v := (.int x_two)) rfl (tNil_i (?_))))))))))
            refine ⟨ps, x_sheet, x_one, x_two, v_sheet, rfl, P0, h_sheet, _, _, hw, fun r46 hw H47 v49 s48 h50 => ?_, (fun er hc hw => errUp (Same.refl H) ss_refl (he er (by simp only [List.mem_cons, List.not_mem_nil, or_false] at hc ⊢; omega) hw))⟩
            have P51 := dom_up s48 P0
            have T52 := Same.trans (Same.refl H) s48
            have S53 : Same (dels H ps) (dels H47 ps) := Sd ps s48
            exact hk _ hw _ _ T52 h50
def sp_ulaw_whole (K : PySem.W.Frag) (t : Tab) : Sp := fun vs H Q E => ∃ (ps : List Addr) (x_x : Int), vs = [(.int x_x)] ∧ (∀ x ∈ ps, H x ≠ none) ∧ ∃ (k : Bool → Prop) (e : PErr → Prop), w_ulaw_whole x_x k e ∧ (∀ r, k r → RetI V.bl H Q r) ∧ (∀ er, er.cls ∈ ([] : List Nat) → e er → ErrK ps t.cl H E er)
theorem len_ulaw_whole : ∀ vs H Q E, sp_ulaw_whole K t vs H Q E → vs.length = (["x"] : List Str).length := by
  rintro vs H Q E ⟨_, _, rfl, _⟩
  rfl
theorem ok_ulaw_whole (T : Txt K mg t) : FnOk P w K mg base (L2.CX P w) 1 t.a_ulaw_whole t.fd_ulaw_whole ["x"] (sp_ulaw_whole K t) := by
  refine T.F_ulaw_whole.okX sc_ulaw_whole len_ulaw_whole (fun cdv A outer s H vs Q E hr h => ?_)
  have nd := sc_ulaw_whole.nd
  refine ⟨_, (pss_one (ps_ret (pe_and (pe_callB (call_isiUK K) (by rfl) T.n_isinstance (by decide +kernel) (pa_cons (pv 0) (pa_cons (pe_bltn (v := .ty "int") (by rfl) T.n_int (by decide +kernel) rfl) pa_nil))) (pe_one (pe_not (pe_callB (call_isiUK K) (by rfl) T.n_isinstance (by decide +kernel) (pa_cons (pv 0) (pa_cons (pe_bltn (v := .ty "bool") (by rfl) T.n_bool (by decide +kernel) rfl) pa_nil)))))))), ?_⟩
  obtain ⟨ps, x_x, rfl, P0, k, e, hw, hk, he⟩ := h
  unfold w_ulaw_whole at hw
  refine tRet_j (tAndVP (b := true) (c := (!false)) (fun R hR => tCB_i (tCons_i (tVar_i (v := (.int x_x)) rfl (tCons_i (tC_i (tNil_i (isi_int_int (hR)))))))) (fun g2 R hR => tNotV_i (tCB_i (tCons_i (tVar_i (v := (.int x_x)) rfl (tCons_i (tC_i (tNil_i (isi_int_bool (IsBl_i (hR)))))))))) (?_))
  exact hk _ hw _ (Same.refl H)
def sp_ulaw_same (K : PySem.W.Frag) (t : Tab) : Sp := fun vs H Q E => ∃ (ps : List Addr) (x_thing : (Int × Int × (List Int))) (x_p : Int) (x_n : Int) (x_cells : (List Int)) (v_thing : V) (v_cells : V), vs = [v_thing, (.int x_p), (.int x_n), v_cells] ∧ (∀ x ∈ ps, H x ≠ none) ∧ (pIns t.c_Table ["prime", "ends", "entries"] (rCons pInt (rCons pInt (rOne (pVt K pInt))))).rep (dels H ps) v_thing x_thing ∧ (pList pInt).rep (dels H ps) v_cells x_cells ∧ ∃ (k : Bool → Prop) (e : PErr → Prop), w_ulaw_same x_thing x_p x_n x_cells k e ∧ (∀ r, k r → RetI V.bl H Q r) ∧ (∀ er, er.cls ∈ ([] : List Nat) → e er → ErrK ps t.cl H E er)
theorem len_ulaw_same : ∀ vs H Q E, sp_ulaw_same K t vs H Q E → vs.length = (["thing", "p", "n", "cells"] : List Str).length := by
  rintro vs H Q E ⟨_, _, _, _, _, _, _, rfl, _⟩
  rfl
theorem ok_ulaw_same (T : Txt K mg t) : FnOk P w K mg base (L2.CX P w) 2 t.a_ulaw_same t.fd_ulaw_same ["thing", "p", "n", "cells"] (sp_ulaw_same K t) := by
  have G_ulaw_whole := ok_ulaw_whole (P := P) (w := w) (base := base) T
  refine T.F_ulaw_same.okX sc_ulaw_same len_ulaw_same (fun cdv A outer s H vs Q E hr h => ?_)
  have nd := sc_ulaw_same.nd
  refine ⟨_, (pss_cons (ps_if (PW.pt (pw_or (pt_not (pt_truthK K (pe_callB (call_isiUK K) (by rfl) T.n_isinstance (by decide +kernel) (pa_cons (pv 0) (pa_cons (pe_glob (v := .ref t.c_Table) (by rfl) T.g_Table rfl) pa_nil))))) (pw_or1 (pt_not (pt_truthK K (pe_callB (call_isiUK K) (by rfl) T.n_isinstance (by decide +kernel) (pa_cons (pe_fldK K (pv 0) rfl) (pa_cons (pe_bltn (v := .ty "tuple") (by rfl) T.n_tuple (by decide +kernel) rfl) pa_nil)))))))) (pss_one (ps_ret (pe_bl))) pss_nil)
    (pss_cons (ps_if (PW.pt (pw_or (pt_not (pt_truthK K (pe_callS G_ulaw_whole (hr.mono (by decide)) (by rfl) T.g_ulaw_whole T.F_ulaw_whole.kp T.b_ulaw_whole (fun σ => passAt (takes_of rfl rfl rfl rfl) σ) (pa_cons (pe_fldK K (pv 0) rfl) pa_nil)))) (pw_or1 (pt_not (pt_truthK K (pe_callS G_ulaw_whole (hr.mono (by decide)) (by rfl) T.g_ulaw_whole T.F_ulaw_whole.kp T.b_ulaw_whole (fun σ => passAt (takes_of rfl rfl rfl rfl) σ) (pa_cons (pe_fldK K (pv 0) rfl) pa_nil))))))) (pss_one (ps_ret (pe_bl))) pss_nil)
    (pss_cons (ps_if (pt_not (pt_truthK K (pe_callB (cr_allK K rfl) (by rfl) T.n_all (by decide +kernel) (pa_cons (pe_lc (own := [("x", 4)]) (g := gName 4) (tt := tYes) rfl nd (pi_UK K (pe_fldK K (pv 0) rfl)) (blkOk_by (N := ["thing", "p", "n", "cells", "x"]) (sc := defScope s_ulaw_same) (by decide +kernel)) (fun _ _ _ _ _ => (pg_name (i := 4) nd rfl (Or.inl rfl))) (fun _ _ _ _ _ => pts_nil) (fun _ _ _ _ _ => (pe_call G_ulaw_whole (hr.mono (by decide)) (by rfl) T.g_ulaw_whole T.F_ulaw_whole.kp T.b_ulaw_whole .nil passL (pa_cons (pv 4) pa_nil)))) pa_nil)))) (pss_one (ps_ret (pe_bl))) pss_nil)
    (pss_one (ps_ret (pe_and (pe_cmpR (op_eqUK K hr) (pe_fldK K (pv 0) rfl) (pv 1) (by first | exact nomark _ | rfl)) (pe_and (pe_cmpR (op_eqUK K hr) (pe_fldK K (pv 0) rfl) (pv 2) (by first | exact nomark _ | rfl)) (pe_one (pe_cmpR (op_eqUK K hr) (pe_callTy (call_list_ofK K) (by rfl) T.n_list (by decide +kernel) (pa_cons (pe_fldK K (pv 0) rfl) pa_nil)) (pv 3) (by first | exact nomark _ | rfl)))))))))), ?_⟩
  obtain ⟨ps, x_thing, x_p, x_n, x_cells, v_thing, v_cells, rfl, P0, h_thing, h_cells, k, e, hw, hk, he⟩ := h
  unfold w_ulaw_same at hw
  refine tSeq_j (tIfS_j (tOrP (b := (!true)) (c := (!true)) (fun R hR => tNot_i (tTruth_i (tCB_i (tCons_i (tVar_i (v := v_thing) rfl (tCons_i (tC_i (tNil_i (isiC h_thing Su T.own_Table (Tru_b (hR))))))))))) (fun g6 R hR => tNot_i (tTruth_i (tCB_i (tCons_i (tFld_i (tVar_i (v := v_thing) rfl (fldS (j := 2) h_thing Su T.own_Table.cl T.na_Table_entries (rgS (rgS rgOne)) rfl (fun u7 h8 => tCons_i (tC_i (tNil_i (isiVt Su h8 (Tru_b (hR))))))))))))) (?_)))
  refine Br_two hw (fun c9 hw => ?_) (fun c9 hw => ?_)
  · refine tRet_j (tC_i (?_))
    exact hk _ hw _ (Same.refl H)
  · refine tNext_j (tSeq_j (tIfS_j (?_)))
    refine joinT hw (fun H' => Same H H') (fun b11 H12 s13 hw => ?_) (fun hw hR => ?_)
    rotate_left 1
    · refine tOr_i (tNot_i (tTruth_i (tCallS_i (tCons_i (tFld_i (tVar_i (v := v_thing) rfl (fldI (j := 0) h_thing Su T.own_Table.cl T.na_Table_prime rgZ rfl (tNil_i (?_)))))))))
      refine ⟨ps, x_thing.1, rfl, P0, _, _, hw, fun r14 hw H15 s16 => ?_, (fun er hc hw => errUp (Same.refl H) ss_refl (he er (absurd hc (List.not_mem_nil)) hw))⟩
      have P17 := dom_up s16 P0
      have T18 := Same.trans (Same.refl H) s16
      have sc19 := Same.trans (Same.refl H) s16
      have S20 : Same (dels H ps) (dels H15 ps) := Sd ps s16
      refine Tru_b (?_)
      refine Br_two hw (fun c21 hw => ?_) (fun c21 hw => ?_)
      · exact hR _ _ sc19 hw
      · refine tNot_i (tTruth_i (tCallS_i (tCons_i (tFld_i (tVar_i (v := v_thing) rfl (fldI (j := 1) h_thing (Same.trans S20 Su) T.own_Table.cl T.na_Table_ends (rgS rgZ) rfl (tNil_i (?_))))))))
        refine ⟨ps, x_thing.2.1, rfl, P17, _, _, hw, fun r22 hw H23 s24 => ?_, (fun er hc hw => errUp T18 ss_refl (he er (absurd hc (List.not_mem_nil)) hw))⟩
        have P25 := dom_up s24 P17
        have T26 := Same.trans T18 s24
        have sc27 := Same.trans sc19 s24
        have S28 : Same (dels H15 ps) (dels H23 ps) := Sd ps s24
        refine Tru_b (?_)
        exact hR _ _ sc27 hw
    have P29 := dom_up s13 P0
    have T30 := Same.trans (Same.refl H) s13
    have S31 : Same (dels H ps) (dels H12 ps) := Sd ps s13
    refine Br_two hw (fun c32 hw => ?_) (fun c32 hw => ?_)
    · refine tRet_j (tC_i (?_))
      exact hk _ hw _ T30
    · refine tNext_j (tSeq_j (tIfS_j (tNot_i (tTruth_i (tCB_i (tCons_i (tLc_i (wT (tFld_i (tVar_i (v := v_thing) rfl (fldS (j := 2) h_thing (Same.trans S31 Su) T.own_Table.cl T.na_Table_entries (rgS (rgS rgOne)) rfl (fun u37 h38 => ?_))))))))))))
      obtain ⟨a54, us55, hv56, hS57, hr58, hl59⟩ := ((pVt K pInt).mono S31 h38)
      refine WT_v hv56 (Same.seqT Su hS57) (lcT (pb := pBl) (ps := ps) hw (Same.seqT Su hS57) hr58 hl59 P29 (fun q39 d40 x41 H42 n44 s45 ⟨acc46, e47⟩ hi48 nx49 hw Y50 N51 hY52 hN53 => ?_) (fun q88 H89 acc90 zs91 n92 s93 e94 r95 l96 hw => ?_))
      · have m74 := nin_of n44 P29
        have z75 := Same.free T30 n44
        have P76 := dom_up s45 P29
        have T77 := Same.trans T30 s45
        have P78 := dom_new e47 P76
        have S79 : Same (dels H12 ps) (dels H42 (q39 :: ps)) := Sn ps s45 n44
        obtain rfl : x41 = (.int d40) := hi48
        refine gN (σ' := [some v_thing, some (.int x_p), some (.int x_n), some v_cells, some (.int d40)]) rfl (wipe_i rfl (tYes_i (Br_t (tCall_i (tCons_i (tVar_i (v := (.int d40)) rfl (tNil_i (?_))))))))
        refine ⟨(q39 :: ps), d40, rfl, P78, _, _, hw, fun r80 hw H81 s82 => ?_, (fun er _ hw => False.elim hw)⟩
        have P83 := dom_up s82 P78
        have T84 := Same.trans T77 s82
        have sc85 := Same.trans (Same.refl H42) s82
        have e86 := s82 _ _ e47
        have S87 : Same (dels H42 (q39 :: ps)) (dels H81 (q39 :: ps)) := Sd (q39 :: ps) s82
        exact hY52 r80 _ _ sc85 rfl hw
      have m97 := nin_of n92 P29
      have z98 := Same.free T30 n92
      have P99 := dom_up s93 P29
      have T100 := Same.trans T30 s93
      have P101 := dom_new e94 P99
      have S102 : Same (dels H12 ps) (dels H89 (q88 :: ps)) := Sn ps s93 n92
      have h103 : (pList pBl).rep (dels H89 ps) (.ref q88) zs91 := oFrzG e94 m97 (ss_skip ss_refl) r95 l96
      have P104 := dom_ss (ss_skip ss_refl) P101
      have S105 : Same (dels H89 (q88 :: ps)) (dels H89 ps) := Ss (ss_skip ss_refl)
      refine tNil_i (allS zs91 (slL Su h103) (Tru_b (?_)))
      refine Br_two hw (fun c106 hw => ?_) (fun c106 hw => ?_)
      · refine tRet_j (tC_i (?_))
        exact hk _ hw _ T100
      · refine tNext_j (tRet_j (?_))
        refine joinV hw (fun d v H' => v = V.bl d ∧ Same H89 H') (fun b118 v H119 hM hw => ?_) (fun hw hR => ?_)
        rotate_left 1
        · refine tAndV_i (tOp_i (tFld_i (tVar_i (v := v_thing) rfl (fldI (j := 0) h_thing (Same.trans (S31.trans (S102.trans S105)) Su) T.own_Table.cl T.na_Table_prime rgZ rfl (tVar_i (v := (.int x_p)) rfl (rEqU_i (IsBl_i (?_))))))))
          refine Br_two hw (fun c121 hw => ?_) (fun c121 hw => ?_)
          · refine joinV hw (fun d v H' => v = V.bl d ∧ Same H89 H') (fun b133 v H134 hM hw => ?_) (fun hw hR => ?_)
            rotate_left 1
            · refine tAndV_i (tOp_i (tFld_i (tVar_i (v := v_thing) rfl (fldI (j := 1) h_thing (Same.trans (S31.trans (S102.trans S105)) Su) T.own_Table.cl T.na_Table_ends (rgS rgZ) rfl (tVar_i (v := (.int x_n)) rfl (rEqU_i (IsBl_i (?_))))))))
              refine Br_two hw (fun c136 hw => ?_) (fun c136 hw => ?_)
              · refine tOp_i (tCB_i (tCons_i (tFld_i (tVar_i (v := v_thing) rfl (fldS (j := 2) h_thing (Same.trans (S31.trans (S102.trans S105)) Su) T.own_Table.cl T.na_Table_entries (rgS (rgS rgOne)) rfl (fun u137 h138 => tNil_i (listS (sqV (Same.trans (S31.trans (S102.trans S105)) Su) h138) (fun q139 H140 n141 s142 us143 e144 r145 l146 => ?_))))))))
                have m147 := nin_of n141 P104
                have z148 := Same.free T100 n141
                have P149 := dom_up s142 P104
                have T150 := Same.trans T100 s142
                have sc151 := Same.trans (Same.refl H89) s142
                have P152 := dom_new e144 P149
                have S153 : Same (dels H89 ps) (dels H140 (q139 :: ps)) := Sn ps s142 n141
                have h154 : (pList pInt).rep (dels H140 ps) (.ref q139) x_thing.2.2 := oFrzG e144 m147 (ss_skip ss_refl) (AllR.mono (S31.trans (S102.trans (S105.trans S153))) r145) l146
                have P155 := dom_ss (ss_skip ss_refl) P152
                have S156 : Same (dels H140 (q139 :: ps)) (dels H140 ps) := Ss (ss_skip ss_refl)
                refine tVar_i (v := v_cells) rfl (eqS (datList K (datInt K)) (((pList pInt)).mono Su h154) (((pList pInt)).mono Su ((pList pInt).mono (S31.trans (S102.trans (S105.trans (S153.trans S156)))) h_cells)) (fun _ _ => trivial) (fun _ _ => trivial) (?_))
                exact hR _ _ _ ⟨rfl, sc151⟩ hw
              · exact hR _ _ _ ⟨rfl, (Same.refl H89)⟩ hw
            obtain ⟨rfl, s135⟩ := hM
            have P157 := dom_up s135 P104
            have T158 := Same.trans T100 s135
            have sc159 := Same.trans (Same.refl H89) s135
            have S160 : Same (dels H89 ps) (dels H134 ps) := Sd ps s135
            exact hR _ _ _ ⟨rfl, sc159⟩ hw
          · exact hR _ _ _ ⟨rfl, (Same.refl H89)⟩ hw
        obtain ⟨rfl, s120⟩ := hM
        have P161 := dom_up s120 P104
        have T162 := Same.trans T100 s120
        have S163 : Same (dels H89 ps) (dels H119 ps) := Sd ps s120
        exact hk _ hw _ T162
def sp_ulaw_right (K : PySem.W.Frag) (t : Tab) : Sp := fun vs H Q E => ∃ (ps : List Addr) (x_way : Str) (x_p : Int) (x_n : Int) (x_a : (List Int)) (x_one : Int) (x_two : Int) (v_a : V), vs = [(.str x_way), (.int x_p), (.int x_n), v_a, (.int x_one), (.int x_two)] ∧ (∀ x ∈ ps, H x ≠ none) ∧ (pList pInt).rep (dels H ps) v_a x_a ∧ ∃ (k : Bool → Prop) (e : PErr → Prop), w_ulaw_right x_way x_p x_n x_a x_one x_two k e ∧ (∀ r, k r → RetI V.bl H Q r) ∧ (∀ er, er.cls ∈ ([1, 2] : List Nat) → e er → ErrK ps t.cl H E er)
theorem len_ulaw_right : ∀ vs H Q E, sp_ulaw_right K t vs H Q E → vs.length = (["way", "p", "n", "a", "one", "two"] : List Str).length := by
  rintro vs H Q E ⟨_, _, _, _, _, _, _, _, rfl, _⟩
  rfl
theorem ok_ulaw_right (T : Txt K mg t) : FnOk P w K mg base (L2.CX P w) 10 t.a_ulaw_right t.fd_ulaw_right ["way", "p", "n", "a", "one", "two"] (sp_ulaw_right K t) := by
  have G_ulaw_reckoned := ok_ulaw_reckoned (P := P) (w := w) (base := base) T
  have G_ulaw_ends_left := ok_ulaw_ends_left (P := P) (w := w) (base := base) T
  have G_Table_init := ok_Table_init (P := P) (w := w) (base := base) T
  have G_ulaw_done := ok_ulaw_done (P := P) (w := w) (base := base) T
  have G_ulaw_same := ok_ulaw_same (P := P) (w := w) (base := base) T
  refine T.F_ulaw_right.okX sc_ulaw_right len_ulaw_right (fun cdv A outer s H vs Q E hr h => ?_)
  have nd := sc_ulaw_right.nd
  refine ⟨_, (pss_cons (ps_set (i := 6) nd rfl (Or.inl rfl) (pe_callS G_ulaw_reckoned (hr.mono (by decide)) (by rfl) T.g_ulaw_reckoned T.F_ulaw_reckoned.kp T.b_ulaw_reckoned (fun σ => passAt (takes_of rfl rfl rfl rfl) σ) (pa_cons (pv 0) (pa_cons (pv 1) (pa_cons (pv 2) (pa_cons (pv 3) (pa_cons (pv 4) (pa_cons (pv 5) pa_nil))))))))
    (pss_cons (ps_set (i := 7) nd rfl (Or.inl rfl) (pe_callS G_ulaw_ends_left (hr.mono (by decide)) (by rfl) T.g_ulaw_ends_left T.F_ulaw_ends_left.kp T.b_ulaw_ends_left (fun σ => passAt (takes_of rfl rfl rfl rfl) σ) (pa_cons (pv 0) (pa_cons (pv 2) pa_nil))))
    (pss_cons (ps_set (i := 8) nd rfl (Or.inl rfl) (pe_mak T.mk_Table G_Table_init (hr.mono (by decide)) (by rfl) T.g_Table T.b_Table_init (fun σ => passAt (takes_of rfl rfl rfl rfl) σ) (pa_cons (pv 1) (pa_cons (pv 2) (pa_cons (pe_callTy (call_list_ofK K) (by rfl) T.n_list (by decide +kernel) (pa_cons (pv 3) pa_nil)) pa_nil)))))
    (pss_cons (ps_for (passes_of rfl) rfl (pi_range1 (by rfl) T.n_range (pa_cons (pe_int) pa_nil)) (pg_name (i := 9) nd rfl (Or.inl rfl))
    (pss_cons (ps_set (i := 10) nd rfl (Or.inl rfl) (pe_callS G_ulaw_done (hr.mono (by decide)) (by rfl) T.g_ulaw_done T.F_ulaw_done.kp T.b_ulaw_done (fun σ => passAt (takes_of rfl rfl rfl rfl) σ) (pa_cons (pv 0) (pa_cons (pv 8) (pa_cons (pv 4) (pa_cons (pv 5) pa_nil))))))
    (pss_cons (ps_if (pt_not (pt_truthK K (pe_callS G_ulaw_same (hr.mono (by decide)) (by rfl) T.g_ulaw_same T.F_ulaw_same.kp T.b_ulaw_same (fun σ => passAt (takes_of rfl rfl rfl rfl) σ) (pa_cons (pv 10) (pa_cons (pv 1) (pa_cons (pv 7) (pa_cons (pv 6) pa_nil))))))) (pss_one (ps_ret (pe_bl))) pss_nil)
    (pss_one (ps_if (pt_not (pt_truthK K (pe_callS G_ulaw_same (hr.mono (by decide)) (by rfl) T.g_ulaw_same T.F_ulaw_same.kp T.b_ulaw_same (fun σ => passAt (takes_of rfl rfl rfl rfl) σ) (pa_cons (pv 8) (pa_cons (pv 1) (pa_cons (pv 2) (pa_cons (pv 3) pa_nil))))))) (pss_one (ps_ret (pe_bl))) pss_nil)))))
    (pss_one (ps_ret (pe_bl))))))), ?_⟩
  obtain ⟨ps, x_way, x_p, x_n, x_a, x_one, x_two, v_a, rfl, P0, h_a, k, e, hw, hk, he⟩ := h
  unfold w_ulaw_right at hw
  refine tSeq_j (tAsg_j (tCallS_i (tCons_i (tVar_i (v := (.str x_way)) rfl (tCons_i (tVar_i (v := (.int x_p)) rfl (tCons_i (tVar_i (v := (.int x_n)) rfl (tCons_i (tVar_i (v := v_a) rfl (tCons_i (tVar_i (v := (.int x_one)) rfl (tCons_i (tVar_i (v := (.int x_two)) rfl (tNil_i (?_))))))))))))))))
  refine ⟨ps, x_way, x_p, x_n, x_a, x_one, x_two, v_a, rfl, P0, h_a, _, _, hw, fun r1 hw H2 q4 us5 s3 n6 e7 r8 l9 => ?_, (fun er hc hw => errUp (Same.refl H) ss_refl (he er (absurd hc (List.not_mem_nil)) hw))⟩
  have m10 := nin_of n6 P0
  have z11 := Same.free (Same.refl H) n6
  have P12 := dom_up s3 P0
  have T13 := Same.trans (Same.refl H) s3
  have P14 := dom_new e7 P12
  have S15 : Same (dels H ps) (dels H2 (q4 :: ps)) := Sn ps s3 n6
  have h16 : (pList pInt).rep (dels H2 ps) (.ref q4) r1 := oFrzG e7 m10 (ss_skip ss_refl) r8 l9
  have P17 := dom_ss (ss_skip ss_refl) P14
  have S18 : Same (dels H2 (q4 :: ps)) (dels H2 ps) := Ss (ss_skip ss_refl)
  refine gN (σ' := [some (.str x_way), some (.int x_p), some (.int x_n), some v_a, some (.int x_one), some (.int x_two), some (.ref q4), none, none, none, none]) rfl (tSeq_j (tAsg_j (tCallS_i (tCons_i (tVar_i (v := (.str x_way)) rfl (tCons_i (tVar_i (v := (.int x_n)) rfl (tNil_i (?_)))))))))
  refine ⟨ps, x_way, x_n, rfl, P17, _, _, hw, fun r19 hw H20 s21 => ?_, (fun er hc hw => errUp T13 ss_refl (he er (absurd hc (List.not_mem_nil)) hw))⟩
  have P22 := dom_up s21 P17
  have T23 := Same.trans T13 s21
  have S24 : Same (dels H2 ps) (dels H20 ps) := Sd ps s21
  refine gN (σ' := [some (.str x_way), some (.int x_p), some (.int x_n), some v_a, some (.int x_one), some (.int x_two), some (.ref q4), some (.int r19), none, none, none]) rfl (tSeq_j (tAsg_j (tMak_i (tCons_i (tVar_i (v := (.int x_p)) rfl (tCons_i (tVar_i (v := (.int x_n)) rfl (tCons_i (tCB_i (tCons_i (tVar_i (v := v_a) rfl (tNil_i (listS (sqL (Same.trans (S15.trans (S18.trans S24)) Su) h_a) (fun q25 H26 n27 s28 us29 e30 r31 l32 => ?_))))))))))))))
  have m33 := nin_of n27 P22
  have z34 := Same.free T23 n27
  have P35 := dom_up s28 P22
  have T36 := Same.trans T23 s28
  have P37 := dom_new e30 P35
  have S38 : Same (dels H20 ps) (dels H26 (q25 :: ps)) := Sn ps s28 n27
  have h39 : (pList pInt).rep (dels H26 ps) (.ref q25) x_a := oFrzG e30 m33 (ss_skip ss_refl) (AllR.mono (S15.trans (S18.trans (S24.trans S38))) r31) l32
  have P40 := dom_ss (ss_skip ss_refl) P37
  have S41 : Same (dels H26 (q25 :: ps)) (dels H26 ps) := Ss (ss_skip ss_refl)
  refine tNil_i (?_)
  refine makS (fun n42 dn43 H44 nn45 s46 s47 e48 => ?_)
  have S49 : Same (dels H26 ps) (dels H44 (n42 :: ps)) := Sn ps s46 nn45
  have P50 := dom_new e48 (dom_up s46 P40)
  refine ⟨(n42 :: ps), x_p, x_n, x_a, n42, dn43, (.ref q25), rfl, P50, (List.mem_cons_self ..), e48, ((pList pInt).mono S49 h39), _, _, hw, fun r51 hw H52 fs53 s54 e55 hn56 rr57 => ⟨rfl, ?_⟩, (fun er hc hw => errUp (Same.trans T36 s47) (ss_skip ss_refl) (he er (by simp only [List.mem_cons, List.not_mem_nil, or_false] at hc ⊢; omega) hw))⟩
  have s59 := Same.trans s47 s54
  have P60 := dom_up s59 P40
  have T61 := Same.trans T36 s59
  have S62 : Same (dels H26 ps) (dels H52 ps) := Sd ps s59
  have h58 : (pIns t.c_Table ["prime", "ends", "entries"] (rCons pInt (rCons pInt (rOne (pVt K pInt))))).rep (dels H52 ps) (.ref n42) r51 := ⟨_, _, fs53, rfl, dels_at e55 (nin_of nn45 P40), hn56, PRow.mono (rCons pInt (rCons pInt (rOne (pVt K pInt)))) (Ss (ss_skip ss_refl)) rr57⟩
  refine gN (σ' := [some (.str x_way), some (.int x_p), some (.int x_n), some v_a, some (.int x_one), some (.int x_two), some (.ref q4), some (.int r19), some (.ref n42), none, none]) rfl (tSeq_j (tFor_j (w1 (tCons_i (tC_i (tNil_i (rgW1 hw.1 (?_))))))))
  refine forR0 (s0 := ()) hw.2 (fun (s92 : Unit) (σ94 : L2.St) (H93 : Hp) => ∃ (j95 : Option V) (j96 : Option V), σ94 = [some (.str x_way), some (.int x_p), some (.int x_n), some v_a, some (.int x_one), some (.int x_two), some (.ref q4), some (.int r19), some (.ref n42), j95, j96] ∧ Same (dels H52 ps) (dels H93 ps) ∧ (∀ x ∈ ps, H93 x ≠ none) ∧ Same H H93 ∧ True) ⟨_, _, rfl, (Same.refl _), P60, T61, trivial⟩ (fun d102 s92 σ94 H93 nx100 hr hw => ?_) (fun s106 σ108 H107 hr hw => ?_)
  · obtain ⟨j95, j96, rfl, S99, P97, T98, _⟩ := hr
    refine gN (σ' := [some (.str x_way), some (.int x_p), some (.int x_n), some v_a, some (.int x_one), some (.int x_two), some (.ref q4), some (.int r19), some (.ref n42), some (.int d102), j96]) rfl (tSeq_j (tAsg_j (tCallS_i (tCons_i (tVar_i (v := (.str x_way)) rfl (tCons_i (tVar_i (v := (.ref n42)) rfl (tCons_i (tVar_i (v := (.int x_one)) rfl (tCons_i (tVar_i (v := (.int x_two)) rfl (tNil_i (?_)))))))))))))
    refine ⟨ps, x_way, r51, x_one, x_two, (.ref n42), rfl, P97, ((pIns t.c_Table ["prime", "ends", "entries"] (rCons pInt (rCons pInt (rOne (pVt K pInt))))).mono S99 h58), _, _, hw, fun r114 hw H115 v117 s116 h118 => ?_, (fun er hc hw => errUp T98 ss_refl (he er (by simp only [List.mem_cons, List.not_mem_nil, or_false] at hc ⊢; omega) hw))⟩
    have P119 := dom_up s116 P97
    have T120 := Same.trans T98 s116
    have S121 : Same (dels H93 ps) (dels H115 ps) := Sd ps s116
    refine gN (σ' := [some (.str x_way), some (.int x_p), some (.int x_n), some v_a, some (.int x_one), some (.int x_two), some (.ref q4), some (.int r19), some (.ref n42), some (.int d102), some v117]) rfl (tSeq_j (tIfS_j (tNot_i (tTruth_i (tCallS_i (tCons_i (tVar_i (v := v117) rfl (tCons_i (tVar_i (v := (.int x_p)) rfl (tCons_i (tVar_i (v := (.int r19)) rfl (tCons_i (tVar_i (v := (.ref q4)) rfl (tNil_i (?_)))))))))))))))
    refine ⟨ps, r114, x_p, r19, r1, v117, (.ref q4), rfl, P119, h118, ((pList pInt).mono (S24.trans (S38.trans (S41.trans (S62.trans (S99.trans S121))))) h16), _, _, hw, fun r122 hw H123 s124 => ?_, (fun er hc hw => errUp T120 ss_refl (he er (absurd hc (List.not_mem_nil)) hw))⟩
    have P125 := dom_up s124 P119
    have T126 := Same.trans T120 s124
    have S127 : Same (dels H115 ps) (dels H123 ps) := Sd ps s124
    refine Tru_b (?_)
    refine Br_two hw (fun c128 hw => ?_) (fun c128 hw => ?_)
    · refine tRet_j (tC_i (?_))
      exact hk _ hw _ T126
    · refine tNext_j (tIfS_j (tNot_i (tTruth_i (tCallS_i (tCons_i (tVar_i (v := (.ref n42)) rfl (tCons_i (tVar_i (v := (.int x_p)) rfl (tCons_i (tVar_i (v := (.int x_n)) rfl (tCons_i (tVar_i (v := v_a) rfl (tNil_i (?_))))))))))))))
      refine ⟨ps, r51, x_p, x_n, x_a, (.ref n42), v_a, rfl, P125, ((pIns t.c_Table ["prime", "ends", "entries"] (rCons pInt (rCons pInt (rOne (pVt K pInt))))).mono (S99.trans (S121.trans S127)) h58), ((pList pInt).mono (S15.trans (S18.trans (S24.trans (S38.trans (S41.trans (S62.trans (S99.trans (S121.trans S127)))))))) h_a), _, _, hw, fun r129 hw H130 s131 => ?_, (fun er hc hw => errUp T126 ss_refl (he er (absurd hc (List.not_mem_nil)) hw))⟩
      have P132 := dom_up s131 P125
      have T133 := Same.trans T126 s131
      have S134 : Same (dels H123 ps) (dels H130 ps) := Sd ps s131
      refine Tru_b (?_)
      refine Br_two hw (fun c135 hw => ?_) (fun c135 hw => ?_)
      · refine tRet_j (tC_i (?_))
        exact hk _ hw _ T133
      · refine tNext_j (?_)
        exact nxS_i (s := (())) ⟨_, _, rfl, (S99.trans (S121.trans (S127.trans S134))), P132, T133, trivial⟩ hw
  obtain ⟨j109, j110, rfl, S113, P111, T112, _⟩ := hr
  refine tRet_j (tC_i (?_))
  exact hk _ hw _ T112
def sp_ulaw_named (K : PySem.W.Frag) (t : Tab) : Sp := fun vs H Q E => ∃ (ps : List Addr) (x_p : Int) (x_n : Int) (x_a : (List Int)) (x_spin : Int) (x_side : Int) (x_spot : Int) (x_worth : Int) (v_a : V), vs = [(.int x_p), (.int x_n), v_a, (.int x_spin), (.int x_side), (.int x_spot), (.int x_worth)] ∧ (∀ x ∈ ps, H x ≠ none) ∧ (pList pInt).rep (dels H ps) v_a x_a ∧ ∃ (k : Bool → Prop) (e : PErr → Prop), w_ulaw_named x_p x_n x_a x_spin x_side x_spot x_worth k e ∧ (∀ r, k r → RetI V.bl H Q r) ∧ (∀ er, er.cls ∈ ([1, 2] : List Nat) → e er → ErrK ps t.cl H E er)
theorem len_ulaw_named : ∀ vs H Q E, sp_ulaw_named K t vs H Q E → vs.length = (["p", "n", "a", "spin", "side", "spot", "worth"] : List Str).length := by
  rintro vs H Q E ⟨_, _, _, _, _, _, _, _, _, rfl, _⟩
  rfl
theorem ok_ulaw_named (T : Txt K mg t) : FnOk P w K mg base (L2.CX P w) 9 t.a_ulaw_named t.fd_ulaw_named ["p", "n", "a", "spin", "side", "spot", "worth"] (sp_ulaw_named K t) := by
  have G_Table_init := ok_Table_init (P := P) (w := w) (base := base) T
  have G_ulaw_reckoned := ok_ulaw_reckoned (P := P) (w := w) (base := base) T
  have G_turned := ok_turned (P := P) (w := w) (base := base) T
  have G_ulaw_same := ok_ulaw_same (P := P) (w := w) (base := base) T
  have G_flipped := ok_flipped (P := P) (w := w) (base := base) T
  have G_mirrored_table := ok_mirrored_table (P := P) (w := w) (base := base) T
  have G_weighted := ok_weighted (P := P) (w := w) (base := base) T
  have G_fixed := ok_fixed (P := P) (w := w) (base := base) T
  have G_tied_ends := ok_tied_ends (P := P) (w := w) (base := base) T
  refine T.F_ulaw_named.okX sc_ulaw_named len_ulaw_named (fun cdv A outer s H vs Q E hr h => ?_)
  have nd := sc_ulaw_named.nd
  refine ⟨_, (pss_cons (ps_set (i := 7) nd rfl (Or.inl rfl) (pe_mak T.mk_Table G_Table_init (hr.mono (by decide)) (by rfl) T.g_Table T.b_Table_init (fun σ => passAt (takes_of rfl rfl rfl rfl) σ) (pa_cons (pv 0) (pa_cons (pv 1) (pa_cons (pe_callTy (call_list_ofK K) (by rfl) T.n_list (by decide +kernel) (pa_cons (pv 2) pa_nil)) pa_nil)))))
    (pss_cons (ps_set (i := 8) nd rfl (Or.inl rfl) (pe_callS G_ulaw_reckoned (hr.mono (by decide)) (by rfl) T.g_ulaw_reckoned T.F_ulaw_reckoned.kp T.b_ulaw_reckoned (fun σ => passAt (takes_of rfl rfl rfl rfl) σ) (pa_cons (pe_str) (pa_cons (pv 0) (pa_cons (pv 1) (pa_cons (pv 2) (pa_cons (pv 3) (pa_cons (pe_int) pa_nil))))))))
    (pss_cons (ps_set (i := 9) nd rfl (Or.inl rfl) (pe_callS G_ulaw_same (hr.mono (by decide)) (by rfl) T.g_ulaw_same T.F_ulaw_same.kp T.b_ulaw_same (fun σ => passAt (takes_of rfl rfl rfl rfl) σ) (pa_cons (pe_callK0 G_turned (hr.mono (by decide)) (by rfl) T.g_turned T.F_turned.kp T.kb_turned_0_table_by passL  (pk_cons (pv 7) (pk_cons (pv 3) pk_nil))) (pa_cons (pv 0) (pa_cons (pv 1) (pa_cons (pv 8) pa_nil))))))
    (pss_cons (ps_set (i := 8) nd rfl (Or.inl rfl) (pe_callS G_ulaw_reckoned (hr.mono (by decide)) (by rfl) T.g_ulaw_reckoned T.F_ulaw_reckoned.kp T.b_ulaw_reckoned (fun σ => passAt (takes_of rfl rfl rfl rfl) σ) (pa_cons (pe_str) (pa_cons (pv 0) (pa_cons (pv 1) (pa_cons (pv 2) (pa_cons (pv 4) (pa_cons (pe_int) pa_nil))))))))
    (pss_cons (ps_set (i := 9) nd rfl (Or.inl rfl) (pe_and (pv 9) (pe_one (pe_callS G_ulaw_same (hr.mono (by decide)) (by rfl) T.g_ulaw_same T.F_ulaw_same.kp T.b_ulaw_same (fun σ => passAt (takes_of rfl rfl rfl rfl) σ) (pa_cons (pe_callK0 G_flipped (hr.mono (by decide)) (by rfl) T.g_flipped T.F_flipped.kp T.kb_flipped_0_table_lot passL  (pk_cons (pv 7) (pk_cons (pv 4) pk_nil))) (pa_cons (pv 0) (pa_cons (pv 1) (pa_cons (pv 8) pa_nil))))))))
    (pss_cons (ps_set (i := 8) nd rfl (Or.inl rfl) (pe_callS G_ulaw_reckoned (hr.mono (by decide)) (by rfl) T.g_ulaw_reckoned T.F_ulaw_reckoned.kp T.b_ulaw_reckoned (fun σ => passAt (takes_of rfl rfl rfl rfl) σ) (pa_cons (pe_str) (pa_cons (pv 0) (pa_cons (pv 1) (pa_cons (pv 2) (pa_cons (pe_int) (pa_cons (pe_int) pa_nil))))))))
    (pss_cons (ps_set (i := 9) nd rfl (Or.inl rfl) (pe_and (pv 9) (pe_one (pe_callS G_ulaw_same (hr.mono (by decide)) (by rfl) T.g_ulaw_same T.F_ulaw_same.kp T.b_ulaw_same (fun σ => passAt (takes_of rfl rfl rfl rfl) σ) (pa_cons (pe_callK0 G_mirrored_table (hr.mono (by decide)) (by rfl) T.g_mirrored_table T.F_mirrored_table.kp T.kb_mirrored_table_0_table passL  (pk_cons (pv 7) pk_nil)) (pa_cons (pv 0) (pa_cons (pv 1) (pa_cons (pv 8) pa_nil))))))))
    (pss_cut (ps_if (pt_cmpR op_gt (pv 1) (pe_int) (by first | exact nomark _ | rfl)) (pss_cons (ps_set (i := 8) nd rfl (Or.inl rfl) (pe_callS G_ulaw_reckoned (hr.mono (by decide)) (by rfl) T.g_ulaw_reckoned T.F_ulaw_reckoned.kp T.b_ulaw_reckoned (fun σ => passAt (takes_of rfl rfl rfl rfl) σ) (pa_cons (pe_str) (pa_cons (pv 0) (pa_cons (pv 1) (pa_cons (pv 2) (pa_cons (pv 5) (pa_cons (pv 6) pa_nil))))))))
    (pss_cons (ps_set (i := 10) nd rfl (Or.inl rfl) (pe_callK0 G_weighted (hr.mono (by decide)) (by rfl) T.g_weighted T.F_weighted.kp T.kb_weighted_0_table_end_factor passL  (pk_cons (pv 7) (pk_cons (pv 5) (pk_cons (pv 6) pk_nil)))))
    (pss_cons (ps_set (i := 9) nd rfl (Or.inl rfl) (pe_and (pv 9) (pe_one (pe_callS G_ulaw_same (hr.mono (by decide)) (by rfl) T.g_ulaw_same T.F_ulaw_same.kp T.b_ulaw_same (fun σ => passAt (takes_of rfl rfl rfl rfl) σ) (pa_cons (pv 10) (pa_cons (pv 0) (pa_cons (pv 1) (pa_cons (pv 8) pa_nil))))))))
    (pss_cons (ps_set (i := 8) nd rfl (Or.inl rfl) (pe_callS G_ulaw_reckoned (hr.mono (by decide)) (by rfl) T.g_ulaw_reckoned T.F_ulaw_reckoned.kp T.b_ulaw_reckoned (fun σ => passAt (takes_of rfl rfl rfl rfl) σ) (pa_cons (pe_str) (pa_cons (pv 0) (pa_cons (pv 1) (pa_cons (pv 2) (pa_cons (pv 5) (pa_cons (pe_int) pa_nil))))))))
    (pss_cons (ps_set (i := 10) nd rfl (Or.inl rfl) (pe_callK0 G_fixed (hr.mono (by decide)) (by rfl) T.g_fixed T.F_fixed.kp T.kb_fixed_0_table_end_bit passL  (pk_cons (pv 7) (pk_cons (pv 5) (pk_cons (pe_int) pk_nil)))))
    (pss_one (ps_set (i := 9) nd rfl (Or.inl rfl) (pe_and (pv 9) (pe_one (pe_callS G_ulaw_same (hr.mono (by decide)) (by rfl) T.g_ulaw_same T.F_ulaw_same.kp T.b_ulaw_same (fun σ => passAt (takes_of rfl rfl rfl rfl) σ) (pa_cons (pv 10) (pa_cons (pv 0) (pa_cons (pe_op op_sub (pv 1) (pe_int)) (pa_cons (pv 8) pa_nil)))))))))))))) pss_nil)
    (pss_cut (ps_if (pt_cmpR op_gt (pv 1) (pe_int) (by first | exact nomark _ | rfl)) (pss_cons (ps_set (i := 8) nd rfl (Or.inl rfl) (pe_callS G_ulaw_reckoned (hr.mono (by decide)) (by rfl) T.g_ulaw_reckoned T.F_ulaw_reckoned.kp T.b_ulaw_reckoned (fun σ => passAt (takes_of rfl rfl rfl rfl) σ) (pa_cons (pe_str) (pa_cons (pv 0) (pa_cons (pv 1) (pa_cons (pv 2) (pa_cons (pe_op op_sub (pv 1) (pe_int)) (pa_cons (pv 6) pa_nil))))))))
    (pss_cons (ps_set (i := 10) nd rfl (Or.inl rfl) (pe_callK0 G_tied_ends (hr.mono (by decide)) (by rfl) T.g_tied_ends T.F_tied_ends.kp T.kb_tied_ends_0_table_end_weight passL  (pk_cons (pv 7) (pk_cons (pe_op op_sub (pv 1) (pe_int)) (pk_cons (pv 6) pk_nil)))))
    (pss_one (ps_set (i := 9) nd rfl (Or.inl rfl) (pe_and (pv 9) (pe_one (pe_callS G_ulaw_same (hr.mono (by decide)) (by rfl) T.g_ulaw_same T.F_ulaw_same.kp T.b_ulaw_same (fun σ => passAt (takes_of rfl rfl rfl rfl) σ) (pa_cons (pv 10) (pa_cons (pv 0) (pa_cons (pe_op op_sub (pv 1) (pe_int)) (pa_cons (pv 8) pa_nil))))))))))) pss_nil)
    (pss_one (ps_ret (pv 9)))))))))))), ?_⟩
  obtain ⟨ps, x_p, x_n, x_a, x_spin, x_side, x_spot, x_worth, v_a, rfl, P0, h_a, k, e, hw, hk, he⟩ := h
  unfold w_ulaw_named at hw
  refine tSeq_j (tAsg_j (tMak_i (tCons_i (tVar_i (v := (.int x_p)) rfl (tCons_i (tVar_i (v := (.int x_n)) rfl (tCons_i (tCB_i (tCons_i (tVar_i (v := v_a) rfl (tNil_i (listS (sqL Su h_a) (fun q1 H2 n3 s4 us5 e6 r7 l8 => ?_)))))))))))))
  have m9 := nin_of n3 P0
  have z10 := Same.free (Same.refl H) n3
  have P11 := dom_up s4 P0
  have T12 := Same.trans (Same.refl H) s4
  have P13 := dom_new e6 P11
  have S14 : Same (dels H ps) (dels H2 (q1 :: ps)) := Sn ps s4 n3
  have h15 : (pList pInt).rep (dels H2 ps) (.ref q1) x_a := oFrzG e6 m9 (ss_skip ss_refl) (AllR.mono S14 r7) l8
  have P16 := dom_ss (ss_skip ss_refl) P13
  have S17 : Same (dels H2 (q1 :: ps)) (dels H2 ps) := Ss (ss_skip ss_refl)
  refine tNil_i (?_)
  refine makS (fun n18 dn19 H20 nn21 s22 s23 e24 => ?_)
  have S25 : Same (dels H2 ps) (dels H20 (n18 :: ps)) := Sn ps s22 nn21
  have P26 := dom_new e24 (dom_up s22 P16)
  refine ⟨(n18 :: ps), x_p, x_n, x_a, n18, dn19, (.ref q1), rfl, P26, (List.mem_cons_self ..), e24, ((pList pInt).mono S25 h15), _, _, hw, fun r27 hw H28 fs29 s30 e31 hn32 rr33 => ⟨rfl, ?_⟩, (fun er hc hw => errUp (Same.trans T12 s23) (ss_skip ss_refl) (he er (by simp only [List.mem_cons, List.not_mem_nil, or_false] at hc ⊢; omega) hw))⟩
  have s35 := Same.trans s23 s30
  have P36 := dom_up s35 P16
  have T37 := Same.trans T12 s35
  have S38 : Same (dels H2 ps) (dels H28 ps) := Sd ps s35
  have h34 : (pIns t.c_Table ["prime", "ends", "entries"] (rCons pInt (rCons pInt (rOne (pVt K pInt))))).rep (dels H28 ps) (.ref n18) r27 := ⟨_, _, fs29, rfl, dels_at e31 (nin_of nn21 P16), hn32, PRow.mono (rCons pInt (rCons pInt (rOne (pVt K pInt)))) (Ss (ss_skip ss_refl)) rr33⟩
  refine gN (σ' := [some (.int x_p), some (.int x_n), some v_a, some (.int x_spin), some (.int x_side), some (.int x_spot), some (.int x_worth), some (.ref n18), none, none, none]) rfl (tSeq_j (tAsg_j (tCallS_i (tCons_i (tC_i (tCons_i (tVar_i (v := (.int x_p)) rfl (tCons_i (tVar_i (v := (.int x_n)) rfl (tCons_i (tVar_i (v := v_a) rfl (tCons_i (tVar_i (v := (.int x_spin)) rfl (tCons_i (tC_i (tNil_i (?_)))))))))))))))))
  refine ⟨ps, (Str.ofString "turned"), x_p, x_n, x_a, x_spin, (0 : Int), v_a, rfl, P36, ((pList pInt).mono (S14.trans (S17.trans S38)) h_a), _, _, hw, fun r39 hw H40 q42 us43 s41 n44 e45 r46 l47 => ?_, (fun er hc hw => errUp T37 ss_refl (he er (absurd hc (List.not_mem_nil)) hw))⟩
  have m48 := nin_of n44 P36
  have z49 := Same.free T37 n44
  have P50 := dom_up s41 P36
  have T51 := Same.trans T37 s41
  have P52 := dom_new e45 P50
  have S53 : Same (dels H28 ps) (dels H40 (q42 :: ps)) := Sn ps s41 n44
  have h54 : (pList pInt).rep (dels H40 ps) (.ref q42) r39 := oFrzG e45 m48 (ss_skip ss_refl) r46 l47
  have P55 := dom_ss (ss_skip ss_refl) P52
  have S56 : Same (dels H40 (q42 :: ps)) (dels H40 ps) := Ss (ss_skip ss_refl)
  refine gN (σ' := [some (.int x_p), some (.int x_n), some v_a, some (.int x_spin), some (.int x_side), some (.int x_spot), some (.int x_worth), some (.ref n18), some (.ref q42), none, none]) rfl (tSeq_j (tAsg_j (tCallS_i (tCons_i (tCallK_i (tNil_i (tCons_i (tVar_i (v := (.ref n18)) rfl (tCons_i (tVar_i (v := (.int x_spin)) rfl (tNil_i (?_))))))))))))
  refine ⟨ps, r27, x_spin, (.ref n18), rfl, P55, ((pIns t.c_Table ["prime", "ends", "entries"] (rCons pInt (rCons pInt (rOne (pVt K pInt))))).mono (S53.trans S56) h34), _, _, hw, fun r57 hw H58 v60 s59 h61 => ?_, (fun er _ hw => False.elim hw)⟩
  have P62 := dom_up s59 P55
  have T63 := Same.trans T51 s59
  have S64 : Same (dels H40 ps) (dels H58 ps) := Sd ps s59
  refine tCons_i (tVar_i (v := (.int x_p)) rfl (tCons_i (tVar_i (v := (.int x_n)) rfl (tCons_i (tVar_i (v := (.ref q42)) rfl (tNil_i (?_)))))))
  refine ⟨ps, r57, x_p, x_n, r39, v60, (.ref q42), rfl, P62, h61, ((pList pInt).mono S64 h54), _, _, hw, fun r65 hw H66 s67 => ?_, (fun er hc hw => errUp T63 ss_refl (he er (absurd hc (List.not_mem_nil)) hw))⟩
  have P68 := dom_up s67 P62
  have T69 := Same.trans T63 s67
  have S70 : Same (dels H58 ps) (dels H66 ps) := Sd ps s67
  refine gN (σ' := [some (.int x_p), some (.int x_n), some v_a, some (.int x_spin), some (.int x_side), some (.int x_spot), some (.int x_worth), some (.ref n18), some (.ref q42), some (.bl r65), none]) rfl (tSeq_j (tAsg_j (tCallS_i (tCons_i (tC_i (tCons_i (tVar_i (v := (.int x_p)) rfl (tCons_i (tVar_i (v := (.int x_n)) rfl (tCons_i (tVar_i (v := v_a) rfl (tCons_i (tVar_i (v := (.int x_side)) rfl (tCons_i (tC_i (tNil_i (?_)))))))))))))))))
  refine ⟨ps, (Str.ofString "flipped"), x_p, x_n, x_a, x_side, (0 : Int), v_a, rfl, P68, ((pList pInt).mono (S14.trans (S17.trans (S38.trans (S53.trans (S56.trans (S64.trans S70)))))) h_a), _, _, hw, fun r71 hw H72 q74 us75 s73 n76 e77 r78 l79 => ?_, (fun er hc hw => errUp T69 ss_refl (he er (absurd hc (List.not_mem_nil)) hw))⟩
  have m80 := nin_of n76 P68
  have z81 := Same.free T69 n76
  have P82 := dom_up s73 P68
  have T83 := Same.trans T69 s73
  have P84 := dom_new e77 P82
  have S85 : Same (dels H66 ps) (dels H72 (q74 :: ps)) := Sn ps s73 n76
  have h86 : (pList pInt).rep (dels H72 ps) (.ref q74) r71 := oFrzG e77 m80 (ss_skip ss_refl) r78 l79
  have P87 := dom_ss (ss_skip ss_refl) P84
  have S88 : Same (dels H72 (q74 :: ps)) (dels H72 ps) := Ss (ss_skip ss_refl)
  refine gN (σ' := [some (.int x_p), some (.int x_n), some v_a, some (.int x_spin), some (.int x_side), some (.int x_spot), some (.int x_worth), some (.ref n18), some (.ref q74), some (.bl r65), none]) rfl (tSeq_j (tAsg_j (?_)))
  refine joinV hw (fun d v H' => v = V.bl d ∧ Same H72 H') (fun b90 v H91 hM hw => ?_) (fun hw hR => ?_)
  rotate_left 1
  · refine tAndV_i (tVar_i (v := (.bl r65)) rfl (IsBl_i (?_)))
    refine Br_two hw (fun c93 hw => ?_) (fun c93 hw => ?_)
    · refine tCallS_i (tCons_i (tCallK_i (tNil_i (tCons_i (tVar_i (v := (.ref n18)) rfl (tCons_i (tVar_i (v := (.int x_side)) rfl (tNil_i (?_)))))))))
      refine ⟨ps, r27, x_side, (.ref n18), rfl, P87, ((pIns t.c_Table ["prime", "ends", "entries"] (rCons pInt (rCons pInt (rOne (pVt K pInt))))).mono (S53.trans (S56.trans (S64.trans (S70.trans (S85.trans S88))))) h34), _, _, hw, fun r94 hw H95 v97 s96 h98 => ?_, (fun er _ hw => False.elim hw)⟩
      have P99 := dom_up s96 P87
      have T100 := Same.trans T83 s96
      have sc101 := Same.trans (Same.refl H72) s96
      have S102 : Same (dels H72 ps) (dels H95 ps) := Sd ps s96
      refine tCons_i (tVar_i (v := (.int x_p)) rfl (tCons_i (tVar_i (v := (.int x_n)) rfl (tCons_i (tVar_i (v := (.ref q74)) rfl (tNil_i (?_)))))))
      refine ⟨ps, r94, x_p, x_n, r71, v97, (.ref q74), rfl, P99, h98, ((pList pInt).mono S102 h86), _, _, hw, fun r103 hw H104 s105 => ?_, (fun er hc hw => errUp T100 ss_refl (he er (absurd hc (List.not_mem_nil)) hw))⟩
      have P106 := dom_up s105 P99
      have T107 := Same.trans T100 s105
      have sc108 := Same.trans sc101 s105
      have S109 : Same (dels H95 ps) (dels H104 ps) := Sd ps s105
      exact hR _ _ _ ⟨rfl, sc108⟩ hw
    · exact hR _ _ _ ⟨rfl, (Same.refl H72)⟩ hw
  obtain ⟨rfl, s92⟩ := hM
  have P110 := dom_up s92 P87
  have T111 := Same.trans T83 s92
  have S112 : Same (dels H72 ps) (dels H91 ps) := Sd ps s92
  refine gN (σ' := [some (.int x_p), some (.int x_n), some v_a, some (.int x_spin), some (.int x_side), some (.int x_spot), some (.int x_worth), some (.ref n18), some (.ref q74), some (.bl b90), none]) rfl (tSeq_j (tAsg_j (tCallS_i (tCons_i (tC_i (tCons_i (tVar_i (v := (.int x_p)) rfl (tCons_i (tVar_i (v := (.int x_n)) rfl (tCons_i (tVar_i (v := v_a) rfl (tCons_i (tC_i (tCons_i (tC_i (tNil_i (?_)))))))))))))))))
  refine ⟨ps, (Str.ofString "mirrored"), x_p, x_n, x_a, (0 : Int), (0 : Int), v_a, rfl, P110, ((pList pInt).mono (S14.trans (S17.trans (S38.trans (S53.trans (S56.trans (S64.trans (S70.trans (S85.trans (S88.trans S112))))))))) h_a), _, _, hw, fun r113 hw H114 q116 us117 s115 n118 e119 r120 l121 => ?_, (fun er hc hw => errUp T111 ss_refl (he er (absurd hc (List.not_mem_nil)) hw))⟩
  have m122 := nin_of n118 P110
  have z123 := Same.free T111 n118
  have P124 := dom_up s115 P110
  have T125 := Same.trans T111 s115
  have P126 := dom_new e119 P124
  have S127 : Same (dels H91 ps) (dels H114 (q116 :: ps)) := Sn ps s115 n118
  have h128 : (pList pInt).rep (dels H114 ps) (.ref q116) r113 := oFrzG e119 m122 (ss_skip ss_refl) r120 l121
  have P129 := dom_ss (ss_skip ss_refl) P126
  have S130 : Same (dels H114 (q116 :: ps)) (dels H114 ps) := Ss (ss_skip ss_refl)
  refine gN (σ' := [some (.int x_p), some (.int x_n), some v_a, some (.int x_spin), some (.int x_side), some (.int x_spot), some (.int x_worth), some (.ref n18), some (.ref q116), some (.bl b90), none]) rfl (tSeq_j (tAsg_j (?_)))
  refine joinV hw (fun d v H' => v = V.bl d ∧ Same H114 H') (fun b132 v H133 hM hw => ?_) (fun hw hR => ?_)
  rotate_left 1
  · refine tAndV_i (tVar_i (v := (.bl b90)) rfl (IsBl_i (?_)))
    refine Br_two hw (fun c135 hw => ?_) (fun c135 hw => ?_)
    · refine tCallS_i (tCons_i (tCallK_i (tNil_i (tCons_i (tVar_i (v := (.ref n18)) rfl (tNil_i (?_)))))))
      refine ⟨ps, r27, (.ref n18), rfl, P129, ((pIns t.c_Table ["prime", "ends", "entries"] (rCons pInt (rCons pInt (rOne (pVt K pInt))))).mono (S53.trans (S56.trans (S64.trans (S70.trans (S85.trans (S88.trans (S112.trans (S127.trans S130)))))))) h34), _, _, hw, fun r136 hw H137 v139 s138 h140 => ?_, (fun er _ hw => False.elim hw)⟩
      have P141 := dom_up s138 P129
      have T142 := Same.trans T125 s138
      have sc143 := Same.trans (Same.refl H114) s138
      have S144 : Same (dels H114 ps) (dels H137 ps) := Sd ps s138
      refine tCons_i (tVar_i (v := (.int x_p)) rfl (tCons_i (tVar_i (v := (.int x_n)) rfl (tCons_i (tVar_i (v := (.ref q116)) rfl (tNil_i (?_)))))))
      refine ⟨ps, r136, x_p, x_n, r113, v139, (.ref q116), rfl, P141, h140, ((pList pInt).mono S144 h128), _, _, hw, fun r145 hw H146 s147 => ?_, (fun er hc hw => errUp T142 ss_refl (he er (absurd hc (List.not_mem_nil)) hw))⟩
      have P148 := dom_up s147 P141
      have T149 := Same.trans T142 s147
      have sc150 := Same.trans sc143 s147
      have S151 : Same (dels H137 ps) (dels H146 ps) := Sd ps s147
      exact hR _ _ _ ⟨rfl, sc150⟩ hw
    · exact hR _ _ _ ⟨rfl, (Same.refl H114)⟩ hw
  obtain ⟨rfl, s134⟩ := hM
  have P152 := dom_up s134 P129
  have T153 := Same.trans T125 s134
  have S154 : Same (dels H114 ps) (dels H133 ps) := Sd ps s134
  refine gN (σ' := [some (.int x_p), some (.int x_n), some v_a, some (.int x_spin), some (.int x_side), some (.int x_spot), some (.int x_worth), some (.ref n18), some (.ref q116), some (.bl b132), none]) rfl (?_)
  refine cutW (S := Bool) hw (fun (s238 : Bool) (σ241 : L2.St) (H240 : Hp) => ∃ (j242 : Option V) (j243 : Option V), σ241 = [some (.int x_p), some (.int x_n), some v_a, some (.int x_spin), some (.int x_side), some (.int x_spot), some (.int x_worth), some (.ref n18), j242, some (.bl s238), j243] ∧ Same (dels H133 ps) (dels H240 ps) ∧ (∀ x ∈ ps, H240 x ≠ none) ∧ Same H H240 ∧ True) (fun hw => ?_) (fun s238 σ241 H240 hr hw => ?_)
  · refine tIfS_j (tTest_i (tOp_i (tVar_i (v := (.int x_n)) rfl (tC_i (rI0_i (IsBl_i (?_)))))))
    refine Br_two hw (fun c248 hw => ?_) (fun c248 hw => ?_)
    · refine tSeq_j (tAsg_j (tCallS_i (tCons_i (tC_i (tCons_i (tVar_i (v := (.int x_p)) rfl (tCons_i (tVar_i (v := (.int x_n)) rfl (tCons_i (tVar_i (v := v_a) rfl (tCons_i (tVar_i (v := (.int x_spot)) rfl (tCons_i (tVar_i (v := (.int x_worth)) rfl (tNil_i (?_))))))))))))))))
      refine ⟨ps, (Str.ofString "weighted"), x_p, x_n, x_a, x_spot, x_worth, v_a, rfl, P152, ((pList pInt).mono (S14.trans (S17.trans (S38.trans (S53.trans (S56.trans (S64.trans (S70.trans (S85.trans (S88.trans (S112.trans (S127.trans (S130.trans S154)))))))))))) h_a), _, _, hw, fun r249 hw H250 q252 us253 s251 n254 e255 r256 l257 => ?_, (fun er hc hw => errUp T153 ss_refl (he er (absurd hc (List.not_mem_nil)) hw))⟩
      have m258 := nin_of n254 P152
      have z259 := Same.free T153 n254
      have P260 := dom_up s251 P152
      have T261 := Same.trans T153 s251
      have P262 := dom_new e255 P260
      have S263 : Same (dels H133 ps) (dels H250 (q252 :: ps)) := Sn ps s251 n254
      have h264 : (pList pInt).rep (dels H250 ps) (.ref q252) r249 := oFrzG e255 m258 (ss_skip ss_refl) r256 l257
      have P265 := dom_ss (ss_skip ss_refl) P262
      have S266 : Same (dels H250 (q252 :: ps)) (dels H250 ps) := Ss (ss_skip ss_refl)
      refine gN (σ' := [some (.int x_p), some (.int x_n), some v_a, some (.int x_spin), some (.int x_side), some (.int x_spot), some (.int x_worth), some (.ref n18), some (.ref q252), some (.bl b132), none]) rfl (tSeq_j (tAsg_j (tCallK_i (tNil_i (tCons_i (tVar_i (v := (.ref n18)) rfl (tCons_i (tVar_i (v := (.int x_spot)) rfl (tCons_i (tVar_i (v := (.int x_worth)) rfl (tNil_i (?_))))))))))))
      refine ⟨ps, r27, x_spot, x_worth, (.ref n18), rfl, P265, ((pIns t.c_Table ["prime", "ends", "entries"] (rCons pInt (rCons pInt (rOne (pVt K pInt))))).mono (S53.trans (S56.trans (S64.trans (S70.trans (S85.trans (S88.trans (S112.trans (S127.trans (S130.trans (S154.trans (S263.trans S266))))))))))) h34), _, _, hw, fun r267 hw H268 v270 s269 h271 => ?_, (fun er _ hw => False.elim hw)⟩
      have P272 := dom_up s269 P265
      have T273 := Same.trans T261 s269
      have S274 : Same (dels H250 ps) (dels H268 ps) := Sd ps s269
      refine gN (σ' := [some (.int x_p), some (.int x_n), some v_a, some (.int x_spin), some (.int x_side), some (.int x_spot), some (.int x_worth), some (.ref n18), some (.ref q252), some (.bl b132), some v270]) rfl (tSeq_j (tAsg_j (?_)))
      refine joinV hw (fun d v H' => v = V.bl d ∧ Same H268 H') (fun b276 v H277 hM hw => ?_) (fun hw hR => ?_)
      rotate_left 1
      · refine tAndV_i (tVar_i (v := (.bl b132)) rfl (IsBl_i (?_)))
        refine Br_two hw (fun c279 hw => ?_) (fun c279 hw => ?_)
        · refine tCallS_i (tCons_i (tVar_i (v := v270) rfl (tCons_i (tVar_i (v := (.int x_p)) rfl (tCons_i (tVar_i (v := (.int x_n)) rfl (tCons_i (tVar_i (v := (.ref q252)) rfl (tNil_i (?_))))))))))
          refine ⟨ps, r267, x_p, x_n, r249, v270, (.ref q252), rfl, P272, h271, ((pList pInt).mono S274 h264), _, _, hw, fun r280 hw H281 s282 => ?_, (fun er hc hw => errUp T273 ss_refl (he er (absurd hc (List.not_mem_nil)) hw))⟩
          have P283 := dom_up s282 P272
          have T284 := Same.trans T273 s282
          have sc285 := Same.trans (Same.refl H268) s282
          have S286 : Same (dels H268 ps) (dels H281 ps) := Sd ps s282
          exact hR _ _ _ ⟨rfl, sc285⟩ hw
        · exact hR _ _ _ ⟨rfl, (Same.refl H268)⟩ hw
      obtain ⟨rfl, s278⟩ := hM
      have P287 := dom_up s278 P272
      have T288 := Same.trans T273 s278
      have S289 : Same (dels H268 ps) (dels H277 ps) := Sd ps s278
      refine gN (σ' := [some (.int x_p), some (.int x_n), some v_a, some (.int x_spin), some (.int x_side), some (.int x_spot), some (.int x_worth), some (.ref n18), some (.ref q252), some (.bl b276), some v270]) rfl (tSeq_j (tAsg_j (tCallS_i (tCons_i (tC_i (tCons_i (tVar_i (v := (.int x_p)) rfl (tCons_i (tVar_i (v := (.int x_n)) rfl (tCons_i (tVar_i (v := v_a) rfl (tCons_i (tVar_i (v := (.int x_spot)) rfl (tCons_i (tC_i (tNil_i (?_)))))))))))))))))
      refine ⟨ps, (Str.ofString "fixed"), x_p, x_n, x_a, x_spot, (1 : Int), v_a, rfl, P287, ((pList pInt).mono (S14.trans (S17.trans (S38.trans (S53.trans (S56.trans (S64.trans (S70.trans (S85.trans (S88.trans (S112.trans (S127.trans (S130.trans (S154.trans (S263.trans (S266.trans (S274.trans S289)))))))))))))))) h_a), _, _, hw, fun r290 hw H291 q293 us294 s292 n295 e296 r297 l298 => ?_, (fun er hc hw => errUp T288 ss_refl (he er (absurd hc (List.not_mem_nil)) hw))⟩
      have m299 := nin_of n295 P287
      have z300 := Same.free T288 n295
      have P301 := dom_up s292 P287
      have T302 := Same.trans T288 s292
      have P303 := dom_new e296 P301
      have S304 : Same (dels H277 ps) (dels H291 (q293 :: ps)) := Sn ps s292 n295
      have h305 : (pList pInt).rep (dels H291 ps) (.ref q293) r290 := oFrzG e296 m299 (ss_skip ss_refl) r297 l298
      have P306 := dom_ss (ss_skip ss_refl) P303
      have S307 : Same (dels H291 (q293 :: ps)) (dels H291 ps) := Ss (ss_skip ss_refl)
      refine gN (σ' := [some (.int x_p), some (.int x_n), some v_a, some (.int x_spin), some (.int x_side), some (.int x_spot), some (.int x_worth), some (.ref n18), some (.ref q293), some (.bl b276), some v270]) rfl (tSeq_j (tAsg_j (tCallK_i (tNil_i (tCons_i (tVar_i (v := (.ref n18)) rfl (tCons_i (tVar_i (v := (.int x_spot)) rfl (tCons_i (tC_i (tNil_i (?_))))))))))))
      refine ⟨ps, r27, x_spot, (1 : Int), (.ref n18), rfl, P306, ((pIns t.c_Table ["prime", "ends", "entries"] (rCons pInt (rCons pInt (rOne (pVt K pInt))))).mono (S53.trans (S56.trans (S64.trans (S70.trans (S85.trans (S88.trans (S112.trans (S127.trans (S130.trans (S154.trans (S263.trans (S266.trans (S274.trans (S289.trans (S304.trans S307))))))))))))))) h34), _, _, hw, fun r308 hw H309 v311 s310 h312 => ?_, (fun er _ hw => False.elim hw)⟩
      have P313 := dom_up s310 P306
      have T314 := Same.trans T302 s310
      have S315 : Same (dels H291 ps) (dels H309 ps) := Sd ps s310
      refine gN (σ' := [some (.int x_p), some (.int x_n), some v_a, some (.int x_spin), some (.int x_side), some (.int x_spot), some (.int x_worth), some (.ref n18), some (.ref q293), some (.bl b276), some v311]) rfl (tAsg_j (?_))
      refine joinV hw (fun d v H' => v = V.bl d ∧ Same H309 H') (fun b317 v H318 hM hw => ?_) (fun hw hR => ?_)
      rotate_left 1
      · refine tAndV_i (tVar_i (v := (.bl b276)) rfl (IsBl_i (?_)))
        refine Br_two hw (fun c320 hw => ?_) (fun c320 hw => ?_)
        · refine tCallS_i (tCons_i (tVar_i (v := v311) rfl (tCons_i (tVar_i (v := (.int x_p)) rfl (tCons_i (tOp_i (tVar_i (v := (.int x_n)) rfl (tC_i (rI0_i (tCons_i (tVar_i (v := (.ref q293)) rfl (tNil_i (?_)))))))))))))
          refine ⟨ps, r308, x_p, (x_n - (1 : Int)), r290, v311, (.ref q293), rfl, P313, h312, ((pList pInt).mono S315 h305), _, _, hw, fun r321 hw H322 s323 => ?_, (fun er hc hw => errUp T314 ss_refl (he er (absurd hc (List.not_mem_nil)) hw))⟩
          have P324 := dom_up s323 P313
          have T325 := Same.trans T314 s323
          have sc326 := Same.trans (Same.refl H309) s323
          have S327 : Same (dels H309 ps) (dels H322 ps) := Sd ps s323
          exact hR _ _ _ ⟨rfl, sc326⟩ hw
        · exact hR _ _ _ ⟨rfl, (Same.refl H309)⟩ hw
      obtain ⟨rfl, s319⟩ := hM
      have P328 := dom_up s319 P313
      have T329 := Same.trans T314 s319
      have S330 : Same (dels H309 ps) (dels H318 ps) := Sd ps s319
      refine gN (σ' := [some (.int x_p), some (.int x_n), some v_a, some (.int x_spin), some (.int x_side), some (.int x_spot), some (.int x_worth), some (.ref n18), some (.ref q293), some (.bl b317), some v311]) rfl (?_)
      exact ⟨b317, ⟨_, _, rfl, (S263.trans (S266.trans (S274.trans (S289.trans (S304.trans (S307.trans (S315.trans S330))))))), P328, T329, trivial⟩, hw⟩
    · refine tNext_j (?_)
      exact ⟨b132, ⟨_, _, rfl, (Same.refl _), P152, T153, trivial⟩, hw⟩
  obtain ⟨j242, j243, rfl, S246, P244, T245, _⟩ := hr
  refine cutW (S := Bool) hw (fun (s373 : Bool) (σ376 : L2.St) (H375 : Hp) => ∃ (j377 : Option V) (j378 : Option V), σ376 = [some (.int x_p), some (.int x_n), some v_a, some (.int x_spin), some (.int x_side), some (.int x_spot), some (.int x_worth), some (.ref n18), j377, some (.bl s373), j378] ∧ Same (dels H240 ps) (dels H375 ps) ∧ (∀ x ∈ ps, H375 x ≠ none) ∧ Same H H375 ∧ True) (fun hw => ?_) (fun s373 σ376 H375 hr hw => ?_)
  · refine tIfS_j (tTest_i (tOp_i (tVar_i (v := (.int x_n)) rfl (tC_i (rI0_i (IsBl_i (?_)))))))
    refine Br_two hw (fun c383 hw => ?_) (fun c383 hw => ?_)
    · refine tSeq_j (tAsg_j (tCallS_i (tCons_i (tC_i (tCons_i (tVar_i (v := (.int x_p)) rfl (tCons_i (tVar_i (v := (.int x_n)) rfl (tCons_i (tVar_i (v := v_a) rfl (tCons_i (tOp_i (tVar_i (v := (.int x_n)) rfl (tC_i (rI0_i (tCons_i (tVar_i (v := (.int x_worth)) rfl (tNil_i (?_)))))))))))))))))))
      refine ⟨ps, (Str.ofString "tied"), x_p, x_n, x_a, (x_n - (2 : Int)), x_worth, v_a, rfl, P244, ((pList pInt).mono (S14.trans (S17.trans (S38.trans (S53.trans (S56.trans (S64.trans (S70.trans (S85.trans (S88.trans (S112.trans (S127.trans (S130.trans (S154.trans S246))))))))))))) h_a), _, _, hw, fun r384 hw H385 q387 us388 s386 n389 e390 r391 l392 => ?_, (fun er hc hw => errUp T245 ss_refl (he er (absurd hc (List.not_mem_nil)) hw))⟩
      have m393 := nin_of n389 P244
      have z394 := Same.free T245 n389
      have P395 := dom_up s386 P244
      have T396 := Same.trans T245 s386
      have P397 := dom_new e390 P395
      have S398 : Same (dels H240 ps) (dels H385 (q387 :: ps)) := Sn ps s386 n389
      have h399 : (pList pInt).rep (dels H385 ps) (.ref q387) r384 := oFrzG e390 m393 (ss_skip ss_refl) r391 l392
      have P400 := dom_ss (ss_skip ss_refl) P397
      have S401 : Same (dels H385 (q387 :: ps)) (dels H385 ps) := Ss (ss_skip ss_refl)
      refine gN (σ' := [some (.int x_p), some (.int x_n), some v_a, some (.int x_spin), some (.int x_side), some (.int x_spot), some (.int x_worth), some (.ref n18), some (.ref q387), some (.bl s238), j243]) rfl (tSeq_j (tAsg_j (tCallK_i (tNil_i (tCons_i (tVar_i (v := (.ref n18)) rfl (tCons_i (tOp_i (tVar_i (v := (.int x_n)) rfl (tC_i (rI0_i (tCons_i (tVar_i (v := (.int x_worth)) rfl (tNil_i (?_)))))))))))))))
      refine ⟨ps, r27, (x_n - (2 : Int)), x_worth, (.ref n18), rfl, P400, ((pIns t.c_Table ["prime", "ends", "entries"] (rCons pInt (rCons pInt (rOne (pVt K pInt))))).mono (S53.trans (S56.trans (S64.trans (S70.trans (S85.trans (S88.trans (S112.trans (S127.trans (S130.trans (S154.trans (S246.trans (S398.trans S401)))))))))))) h34), _, _, hw, fun r402 hw H403 v405 s404 h406 => ?_, (fun er _ hw => False.elim hw)⟩
      have P407 := dom_up s404 P400
      have T408 := Same.trans T396 s404
      have S409 : Same (dels H385 ps) (dels H403 ps) := Sd ps s404
      refine gN (σ' := [some (.int x_p), some (.int x_n), some v_a, some (.int x_spin), some (.int x_side), some (.int x_spot), some (.int x_worth), some (.ref n18), some (.ref q387), some (.bl s238), some v405]) rfl (tAsg_j (?_))
      refine joinV hw (fun d v H' => v = V.bl d ∧ Same H403 H') (fun b411 v H412 hM hw => ?_) (fun hw hR => ?_)
      rotate_left 1
      · refine tAndV_i (tVar_i (v := (.bl s238)) rfl (IsBl_i (?_)))
        refine Br_two hw (fun c414 hw => ?_) (fun c414 hw => ?_)
        · refine tCallS_i (tCons_i (tVar_i (v := v405) rfl (tCons_i (tVar_i (v := (.int x_p)) rfl (tCons_i (tOp_i (tVar_i (v := (.int x_n)) rfl (tC_i (rI0_i (tCons_i (tVar_i (v := (.ref q387)) rfl (tNil_i (?_)))))))))))))
          refine ⟨ps, r402, x_p, (x_n - (2 : Int)), r384, v405, (.ref q387), rfl, P407, h406, ((pList pInt).mono S409 h399), _, _, hw, fun r415 hw H416 s417 => ?_, (fun er hc hw => errUp T408 ss_refl (he er (absurd hc (List.not_mem_nil)) hw))⟩
          have P418 := dom_up s417 P407
          have T419 := Same.trans T408 s417
          have sc420 := Same.trans (Same.refl H403) s417
          have S421 : Same (dels H403 ps) (dels H416 ps) := Sd ps s417
          exact hR _ _ _ ⟨rfl, sc420⟩ hw
        · exact hR _ _ _ ⟨rfl, (Same.refl H403)⟩ hw
      obtain ⟨rfl, s413⟩ := hM
      have P422 := dom_up s413 P407
      have T423 := Same.trans T408 s413
      have S424 : Same (dels H403 ps) (dels H412 ps) := Sd ps s413
      refine gN (σ' := [some (.int x_p), some (.int x_n), some v_a, some (.int x_spin), some (.int x_side), some (.int x_spot), some (.int x_worth), some (.ref n18), some (.ref q387), some (.bl b411), some v405]) rfl (?_)
      exact ⟨b411, ⟨_, _, rfl, (S398.trans (S401.trans (S409.trans S424))), P422, T423, trivial⟩, hw⟩
    · refine tNext_j (?_)
      exact ⟨s238, ⟨_, _, rfl, (Same.refl _), P244, T245, trivial⟩, hw⟩
  obtain ⟨j377, j378, rfl, S381, P379, T380, _⟩ := hr
  refine tRet_j (tVar_i (v := (.bl s373)) rfl (?_))
  exact hk _ hw _ T380
def sp_ulaw_names (K : PySem.W.Frag) (t : Tab) : SpX := fun a cls d vs H Q E => ∃ (ps : List Addr) (x_e : PErr), vs = [.ref a] ∧ (∀ x ∈ ps, H x ≠ none) ∧ cls = .ref (t.cl x_e.cls) ∧ XDict (dels H ps) d x_e.fs ∧ x_e.cls ∈ ([1, 2] : List Nat) ∧ ∃ (k : (List (Str × Int)) → Prop) (e : PErr → Prop), w_ulaw_names x_e k e ∧ (∀ r, k r → RetO ps (pTup K (rCons pStr (rOne pInt))) H Q r) ∧ (∀ er, er.cls ∈ ([] : List Nat) → e er → ErrK ps t.cl H E er)
theorem len_ulaw_names : ∀ a cls d vs H Q E, sp_ulaw_names K t a cls d vs H Q E → vs.length = (["e"] : List Str).length := by
  rintro a cls d vs H Q E ⟨_, _, rfl, _⟩
  rfl
theorem ok_ulaw_names (T : Txt K mg t) : FnE P w K mg base 1 t.a_ulaw_names t.fd_ulaw_names ["e"] (sp_ulaw_names K t) := by
  refine Fun.okE T.F_ulaw_names sc_ulaw_names len_ulaw_names (fun cdv A outer s H vs Q a oe cls d hz hf hr h => ?_)
  have nd := sc_ulaw_names.nd
  have xp := xpin_def (P := P) (w := w) (K := K) (mg := mg) (base := base) (N := ["e", "rows"]) (qual := "_law_names") (scope := defScope s_ulaw_names) (f := t.a_ulaw_names) (cd := cdv) (A := A) (outer := outer) (s := s) (H := H) (a := a) hz hf
  refine ⟨_, (pss_cons (ps_set (i := 1) nd rfl (Or.inl rfl) (pe_lst pa_nil))
    (pss_cut (ps_if (pt_truthK K (pe_callB (call_isXK K xp) (by rfl) T.n_isinstance (by decide +kernel) (pa_cons (pv 0) (pa_cons (pe_glob (v := .ref t.c_NumberError) (by rfl) T.g_NumberError rfl) pa_nil)))) (pss_one (ps_expr (pe_bmK K PySem.F.plainAttrs_list PySem.F.slot_list_append PySem.F.type_list_append mt_append (pv 1) (pa_cons (pe_tup (pa_cons (pe_str) (pa_cons (pe_xFK K xp (pv 0)) pa_nil))) pa_nil)))) pss_nil)
    (pss_cut (ps_if (pt_truthK K (pe_callB (call_isXK K xp) (by rfl) T.n_isinstance (by decide +kernel) (pa_cons (pv 0) (pa_cons (pe_tup (pa_cons (pe_glob (v := .ref t.c_SizeError) (by rfl) T.g_SizeError rfl) (pa_cons (pe_glob (v := .ref t.c_PrimeError) (by rfl) T.g_PrimeError rfl) (pa_cons (pe_glob (v := .ref t.c_TwinError) (by rfl) T.g_TwinError rfl) (pa_cons (pe_glob (v := .ref t.c_LegError) (by rfl) T.g_LegError rfl) (pa_cons (pe_glob (v := .ref t.c_NodeError) (by rfl) T.g_NodeError rfl) pa_nil)))))) pa_nil)))) (pss_one (ps_expr (pe_bmK K PySem.F.plainAttrs_list PySem.F.slot_list_append PySem.F.type_list_append mt_append (pv 1) (pa_cons (pe_tup (pa_cons (pe_str) (pa_cons (pe_int) pa_nil))) pa_nil)))) pss_nil)
    (pss_cut (ps_if (pt_not (pt_truthK K (pe_callB (call_isXK K xp) (by rfl) T.n_isinstance (by decide +kernel) (pa_cons (pv 0) (pa_cons (pe_bltn (v := .ty "ValueError") (by rfl) T.n_ValueError (by decide +kernel) rfl) pa_nil))))) (pss_one (ps_expr (pe_bmK K PySem.F.plainAttrs_list PySem.F.slot_list_append PySem.F.type_list_append mt_append (pv 1) (pa_cons (pe_tup (pa_cons (pe_str) (pa_cons (pe_int) pa_nil))) pa_nil)))) pss_nil)
    (pss_one (ps_ret (pv 1))))))), ?_⟩
  obtain ⟨ps, x_e, rfl, P0, rfl, hX, hCR, k, e, hw, hk, he⟩ := h
  unfold w_ulaw_names at hw
  have XR : ∀ c, c ∈ ([1, 2] : List Nat) → XCls K (t.cl c) := by
    intro c hc
    simp only [List.mem_cons, List.not_mem_nil, or_false] at hc
    rcases hc with rfl | rfl
    · exact T.X_SizeError
    · exact T.X_NumberError
  have kt_NumberError : ∀ c, c ∈ ([1, 2] : List Nat) → PySem.W.kitOne K (.ref (t.cl c)) (.ref t.c_NumberError) = some (decide (c = 2)) := by
    intro c hc
    simp only [List.mem_cons, List.not_mem_nil, or_false] at hc
    rcases hc with rfl | rfl
    · exact T.kt_SizeError_NumberError
    · exact T.kt_NumberError_NumberError
  have kt_SizeError : ∀ c, c ∈ ([1, 2] : List Nat) → PySem.W.kitOne K (.ref (t.cl c)) (.ref t.c_SizeError) = some (decide (c = 1)) := by
    intro c hc
    simp only [List.mem_cons, List.not_mem_nil, or_false] at hc
    rcases hc with rfl | rfl
    · exact T.kt_SizeError_SizeError
    · exact T.kt_NumberError_SizeError
  have kt_PrimeError : ∀ c, c ∈ ([1, 2] : List Nat) → PySem.W.kitOne K (.ref (t.cl c)) (.ref t.c_PrimeError) = some (decide (c = 8)) := by
    intro c hc
    simp only [List.mem_cons, List.not_mem_nil, or_false] at hc
    rcases hc with rfl | rfl
    · exact T.kt_SizeError_PrimeError
    · exact T.kt_NumberError_PrimeError
  have kt_TwinError : ∀ c, c ∈ ([1, 2] : List Nat) → PySem.W.kitOne K (.ref (t.cl c)) (.ref t.c_TwinError) = some (decide (c = 3)) := by
    intro c hc
    simp only [List.mem_cons, List.not_mem_nil, or_false] at hc
    rcases hc with rfl | rfl
    · exact T.kt_SizeError_TwinError
    · exact T.kt_NumberError_TwinError
  have kt_LegError : ∀ c, c ∈ ([1, 2] : List Nat) → PySem.W.kitOne K (.ref (t.cl c)) (.ref t.c_LegError) = some (decide (c = 6)) := by
    intro c hc
    simp only [List.mem_cons, List.not_mem_nil, or_false] at hc
    rcases hc with rfl | rfl
    · exact T.kt_SizeError_LegError
    · exact T.kt_NumberError_LegError
  have kt_NodeError : ∀ c, c ∈ ([1, 2] : List Nat) → PySem.W.kitOne K (.ref (t.cl c)) (.ref t.c_NodeError) = some (decide (c = 4)) := by
    intro c hc
    simp only [List.mem_cons, List.not_mem_nil, or_false] at hc
    rcases hc with rfl | rfl
    · exact T.kt_SizeError_NodeError
    · exact T.kt_NumberError_NodeError
  have kt_ValueError : ∀ c, c ∈ ([1, 2] : List Nat) → PySem.W.kitOne K (.ref (t.cl c)) (.type "ValueError") = some (true) := by
    intro c hc
    simp only [List.mem_cons, List.not_mem_nil, or_false] at hc
    rcases hc with rfl | rfl
    · exact T.kt_SizeError_ValueError
    · exact T.kt_NumberError_ValueError
  refine tSeq_j (tAsg_j (tLst_i (tNil_i (new_i (Nat.le_of_ble_eq_true rfl) (fun q1 H2 n3 s4 e5 => ?_)))))
  have r6 : AllR (pTup K (rCons pStr (rOne pInt))) (dels H ps) [] ([] : List (Str × Int)) := .nil
  have l7 : ([] : List (Str × Int)).length ≤ LIM := (Nat.le_of_ble_eq_true rfl)
  have m8 := nin_of n3 P0
  have z9 := Same.free (Same.refl H) n3
  have P10 := dom_up s4 P0
  have T11 := Same.trans (Same.refl H) s4
  have P12 := dom_new e5 P10
  have S13 : Same (dels H ps) (dels H2 (q1 :: ps)) := Sn ps s4 n3
  refine gN (σ' := [some (.ref a), some (.ref q1)]) rfl (?_)
  obtain ⟨y14, r15, l16, hw⟩ := letO hw r6 l7
  refine cutW (S := (List (Str × Int))) hw (fun (s42 : (List (Str × Int))) (σ45 : L2.St) (H44 : Hp) => ∃ (us49 : List V), σ45 = [some (.ref a), some (.ref q1)] ∧ Same (dels H2 (q1 :: ps)) (dels H44 (q1 :: ps)) ∧ (∀ x ∈ (q1 :: ps), H44 x ≠ none) ∧ Same H H44 ∧ H44 q1 = some (.lst us49) ∧ AllR (pTup K (rCons pStr (rOne pInt))) (dels H44 (q1 :: ps)) us49 s42 ∧ (s42).length ≤ LIM ∧ True) (fun hw => ?_) (fun s42 σ45 H44 hr hw => ?_)
  · refine tIfS_j (tTruth_i (tCB_i (tCons_i (tVar_i (v := (.ref a)) rfl (tCons_i (tC_i (tNil_i (isX_c (b := (decide (x_e.cls = 2))) (XR _ hCR) x_e.fs (XDict.same (Same.trans S13 Su) hX) (kt_NumberError _ hCR) (Tru_b (?_))))))))))
    refine Br_two hw (fun c54 hw => ?_) (fun c54 hw => ?_)
    · refine tDrop_j (tBM_i (tVar_i (v := (.ref q1)) rfl (tyL (SqL.of e5) (tCons_i (tTup_i (tCons_i (tC_i (tCons_i (tXF_i (tVar_i (v := (.ref a)) rfl (?_)))))))))))
      obtain ⟨z55, hz56, hw⟩ := hw
      refine xfP hz56 (XR _ hCR) (XDict.same (Same.trans S13 Su) hX) (by rw [hz56]; exact T.xn_NumberError_number) (tNil_i (new_i (Nat.le_of_ble_eq_true rfl) (fun q57 H58 n59 s60 e61 => ?_)))
      have P63 := dom_up s60 P12
      have T64 := Same.trans T11 s60
      have e65 := s60 _ _ e5
      have S66 : Same (dels H2 (q1 :: ps)) (dels H58 (q1 :: ps)) := Sd (q1 :: ps) s60
      have h62 : (pTup K (rCons pStr (rOne pInt))).rep (dels H58 (q1 :: ps)) (.ref q57) ((Str.ofString "number"), z55) := tupR (dels_at e61 (nin_of n59 P12)) (rowC rfl (rowO rfl))
      refine tNil_i (appO (p := (pTup K (rCons pStr (rOne pInt)))) (d := ((Str.ofString "number"), z55)) e65 (AllR.mono (S13.trans S66) r15) hw.1 h62 (fun H67 f68 us69 e70 r71 l72 => ?_))
      have P73 := dom_off f68 e70 P63
      have T74 := st_off T64 f68 z9
      have S75 : Same (dels H58 (q1 :: ps)) (dels H67 (q1 :: ps)) := So (List.mem_cons_self ..) f68
      obtain ⟨y76, r77, l78, hw⟩ := letO hw.2 r71 l72
      exact ⟨y76, ⟨us69, rfl, (S66.trans S75), P73, T74, e70, (AllR.mono S75 r77), l78, trivial⟩, hw⟩
    · refine tNext_j (?_)
      exact ⟨y14, ⟨[], rfl, (Same.refl _), P12, T11, e5, (AllR.mono S13 r15), l16, trivial⟩, hw⟩
  obtain ⟨us49, rfl, S48, P46, T47, e50, r51, l52, _⟩ := hr
  refine cutW (S := (List (Str × Int))) hw (fun (s111 : (List (Str × Int))) (σ114 : L2.St) (H113 : Hp) => ∃ (us118 : List V), σ114 = [some (.ref a), some (.ref q1)] ∧ Same (dels H44 (q1 :: ps)) (dels H113 (q1 :: ps)) ∧ (∀ x ∈ (q1 :: ps), H113 x ≠ none) ∧ Same H H113 ∧ H113 q1 = some (.lst us118) ∧ AllR (pTup K (rCons pStr (rOne pInt))) (dels H113 (q1 :: ps)) us118 s111 ∧ (s111).length ≤ LIM ∧ True) (fun hw => ?_) (fun s111 σ114 H113 hr hw => ?_)
  · refine tIfS_j (tTruth_i (tCB_i (tCons_i (tVar_i (v := (.ref a)) rfl (tCons_i (tTup_i (tCons_i (tC_i (tCons_i (tC_i (tCons_i (tC_i (tCons_i (tC_i (tCons_i (tC_i (tNil_i (new_i (Nat.le_of_ble_eq_true rfl) (fun q123 H124 n125 s126 e127 => ?_)))))))))))))))))))
    have P128 := dom_up s126 P46
    have T129 := Same.trans T47 s126
    have e130 := s126 _ _ e50
    have S131 : Same (dels H44 (q1 :: ps)) (dels H124 (q1 :: ps)) := Sd (q1 :: ps) s126
    refine tNil_i (isX_n (b := ((decide (x_e.cls = 1)) || ((decide (x_e.cls = 8)) || ((decide (x_e.cls = 3)) || ((decide (x_e.cls = 6)) || ((decide (x_e.cls = 4)) || false)))))) (XR _ hCR) x_e.fs (XDict.same (Same.trans (S13.trans (S48.trans S131)) Su) hX) e127 (.cons (.own _) (.cons (.own _) (.cons (.own _) (.cons (.own _) (.cons (.own _) .nil))))) (kAnyC (kt_SizeError _ hCR) (kAnyC (kt_PrimeError _ hCR) (kAnyC (kt_TwinError _ hCR) (kAnyC (kt_LegError _ hCR) (kAnyC (kt_NodeError _ hCR) kAnyN))))) (Tru_b (?_)))
    refine Br_two hw (fun c132 hw => ?_) (fun c132 hw => ?_)
    · refine tDrop_j (tBM_i (tVar_i (v := (.ref q1)) rfl (tyL (SqL.of e130) (tCons_i (tTup_i (tCons_i (tC_i (tCons_i (tC_i (tNil_i (new_i (Nat.le_of_ble_eq_true rfl) (fun q133 H134 n135 s136 e137 => ?_))))))))))))
      have P139 := dom_up s136 P128
      have T140 := Same.trans T129 s136
      have e141 := s136 _ _ e130
      have S142 : Same (dels H124 (q1 :: ps)) (dels H134 (q1 :: ps)) := Sd (q1 :: ps) s136
      have h138 : (pTup K (rCons pStr (rOne pInt))).rep (dels H134 (q1 :: ps)) (.ref q133) ((Str.ofString "other"), (0 : Int)) := tupR (dels_at e137 (nin_of n135 P128)) (rowC rfl (rowO rfl))
      refine tNil_i (appO (p := (pTup K (rCons pStr (rOne pInt)))) (d := ((Str.ofString "other"), (0 : Int))) e141 (AllR.mono (S131.trans S142) r51) hw.1 h138 (fun H143 f144 us145 e146 r147 l148 => ?_))
      have P149 := dom_off f144 e146 P139
      have T150 := st_off T140 f144 z9
      have S151 : Same (dels H134 (q1 :: ps)) (dels H143 (q1 :: ps)) := So (List.mem_cons_self ..) f144
      obtain ⟨y152, r153, l154, hw⟩ := letO hw.2 r147 l148
      exact ⟨y152, ⟨us145, rfl, (S131.trans (S142.trans S151)), P149, T150, e146, (AllR.mono S151 r153), l154, trivial⟩, hw⟩
    · refine tNext_j (?_)
      exact ⟨s42, ⟨us49, rfl, S131, P128, T129, e130, (AllR.mono S131 r51), l52, trivial⟩, hw⟩
  obtain ⟨us118, rfl, S117, P115, T116, e119, r120, l121, _⟩ := hr
  refine cutW (S := (List (Str × Int))) hw (fun (s178 : (List (Str × Int))) (σ181 : L2.St) (H180 : Hp) => ∃ (us185 : List V), σ181 = [some (.ref a), some (.ref q1)] ∧ Same (dels H113 (q1 :: ps)) (dels H180 (q1 :: ps)) ∧ (∀ x ∈ (q1 :: ps), H180 x ≠ none) ∧ Same H H180 ∧ H180 q1 = some (.lst us185) ∧ AllR (pTup K (rCons pStr (rOne pInt))) (dels H180 (q1 :: ps)) us185 s178 ∧ (s178).length ≤ LIM ∧ True) (fun hw => ?_) (fun s178 σ181 H180 hr hw => ?_)
  · refine tIfS_j (tNot_i (tTruth_i (tCB_i (tCons_i (tVar_i (v := (.ref a)) rfl (tCons_i (tC_i (tNil_i (isX_t (b := true) (XR _ hCR) x_e.fs (XDict.same (Same.trans (S13.trans (S48.trans S117)) Su) hX) (kt_ValueError _ hCR) (Tru_b (?_)))))))))))
    refine Br_two hw (fun c190 hw => ?_) (fun c190 hw => ?_)
    · refine tDrop_j (tBM_i (tVar_i (v := (.ref q1)) rfl (tyL (SqL.of e119) (tCons_i (tTup_i (tCons_i (tC_i (tCons_i (tC_i (tNil_i (new_i (Nat.le_of_ble_eq_true rfl) (fun q191 H192 n193 s194 e195 => ?_))))))))))))
      have P197 := dom_up s194 P115
      have T198 := Same.trans T116 s194
      have e199 := s194 _ _ e119
      have S200 : Same (dels H113 (q1 :: ps)) (dels H192 (q1 :: ps)) := Sd (q1 :: ps) s194
      have h196 : (pTup K (rCons pStr (rOne pInt))).rep (dels H192 (q1 :: ps)) (.ref q191) ((Str.ofString "other"), (0 : Int)) := tupR (dels_at e195 (nin_of n193 P115)) (rowC rfl (rowO rfl))
      refine tNil_i (appO (p := (pTup K (rCons pStr (rOne pInt)))) (d := ((Str.ofString "other"), (0 : Int))) e199 (AllR.mono S200 r120) hw.1 h196 (fun H201 f202 us203 e204 r205 l206 => ?_))
      have P207 := dom_off f202 e204 P197
      have T208 := st_off T198 f202 z9
      have S209 : Same (dels H192 (q1 :: ps)) (dels H201 (q1 :: ps)) := So (List.mem_cons_self ..) f202
      obtain ⟨y210, r211, l212, hw⟩ := letO hw.2 r205 l206
      exact ⟨y210, ⟨us203, rfl, (S200.trans S209), P207, T208, e204, (AllR.mono S209 r211), l212, trivial⟩, hw⟩
    · refine tNext_j (?_)
      exact ⟨s111, ⟨us118, rfl, (Same.refl _), P115, T116, e119, r120, l121, trivial⟩, hw⟩
  obtain ⟨us185, rfl, S184, P182, T183, e186, r187, l188, _⟩ := hr
  refine tRet_j (tVar_i (v := (.ref q1)) rfl (?_))
  exact hk _ hw _ _ _ T183 z9 e186 r187 l188
def sp_ulaw_tried (K : PySem.W.Frag) (t : Tab) : Sp := fun vs H Q E => ∃ (ps : List Addr) (x_way : Str) (x_sheet : (Int × Int × (List Int))) (x_one : Int) (x_two : Int) (v_sheet : V), vs = [(.str x_way), v_sheet, (.int x_one), (.int x_two)] ∧ (∀ x ∈ ps, H x ≠ none) ∧ (pIns t.c_Table ["prime", "ends", "entries"] (rCons pInt (rCons pInt (rOne (pVt K pInt))))).rep (dels H ps) v_sheet x_sheet ∧ ∃ (k : (List (Str × Int)) → Prop) (e : PErr → Prop), w_ulaw_tried x_way x_sheet x_one x_two k e ∧ (∀ r, k r → RetO ps (pTup K (rCons pStr (rOne pInt))) H Q r) ∧ (∀ er, er.cls ∈ ([] : List Nat) → e er → ErrK ps t.cl H E er)
theorem len_ulaw_tried : ∀ vs H Q E, sp_ulaw_tried K t vs H Q E → vs.length = (["way", "sheet", "one", "two"] : List Str).length := by
  rintro vs H Q E ⟨_, _, _, _, _, _, rfl, _⟩
  rfl
theorem ok_ulaw_tried (T : Txt K mg t) : FnOk P w K mg base (L2.CX P w) 10 t.a_ulaw_tried t.fd_ulaw_tried ["way", "sheet", "one", "two"] (sp_ulaw_tried K t) := by
  have G_ulaw_done := ok_ulaw_done (P := P) (w := w) (base := base) T
  have GE_ulaw_names := ok_ulaw_names (P := P) (w := w) (base := base) T
  refine T.F_ulaw_tried.okX sc_ulaw_tried len_ulaw_tried (fun cdv A outer s H vs Q E hr h => ?_)
  have nd := sc_ulaw_tried.nd
  refine ⟨_, (pss_cons (ps_try_as (i := 5) rfl rfl nd rfl rfl ⟨rfl, by decide, .inl T.g_EndsError⟩ (takes_of rfl rfl rfl rfl) (fun W pn xe tk pw => (pss_one (ps_set (i := 4) nd rfl (Or.inl rfl) (pe_callS G_ulaw_done (hr.mono (by decide)) (by rfl) T.g_ulaw_done T.F_ulaw_done.kp T.b_ulaw_done (fun σ => passAt tk σ) (pa_cons (pv 0) (pa_cons (pv 1) (pa_cons (pv 2) (pa_cons (pv 3) pa_nil))))))))
    (fun a oe cls d pn hz hf => (pss_one (ps_ret (pe_callE GE_ulaw_names (roomH_suite (j := 1) hr (by decide)) (xpin_suite hz hf) (by rfl) T.g_ulaw_names T.F_ulaw_names.kp T.b_ulaw_names (pa_cons (pv 5) pa_nil))))))
    (pss_one (ps_ret (pe_lst (pa_cons (pe_tup (pa_cons (pe_str) (pa_cons (pe_fldK K (pv 4) rfl) pa_nil))) pa_nil))))), ?_⟩
  obtain ⟨ps, x_way, x_sheet, x_one, x_two, v_sheet, rfl, P0, h_sheet, k, e, hw, hk, he⟩ := h
  unfold w_ulaw_tried at hw
  refine tSeq_j (tAsg_j (tCallS_i (tCons_i (tVar_i (v := (.str x_way)) rfl (tCons_i (tVar_i (v := v_sheet) rfl (tCons_i (tVar_i (v := (.int x_one)) rfl (tCons_i (tVar_i (v := (.int x_two)) rfl (tNil_i (?_))))))))))))
  refine ⟨ps, x_way, x_sheet, x_one, x_two, v_sheet, rfl, P0, h_sheet, _, _, hw, fun r1 hw H2 v30 s3 h31 => ?_, fun er4 hc hw => ?_⟩
  rotate_left 1
  · have em11 : ∀ c, c ∈ ([1, 2] : List Nat) → PySem.W.exmOne K (.ref (t.cl c)) (.ref t.c_EndsError) = some true := by
      intro c hc
      simp only [List.mem_cons, List.not_mem_nil, or_false] at hc
      rcases hc with rfl | rfl
      · exact T.em_SizeError_EndsError
      · exact T.em_NumberError_EndsError
    have hCR := hc
    intro H5 d6 s7 hX8
    have P12 := dom_up s7 P0
    have T13 := Same.trans (Same.refl H) s7
    have S14 : Same (dels H ps) (dels H5 ps) := Sd ps s7
    refine wasL (g := fun a9 => [some (.str x_way), some v_sheet, some (.int x_one), some (.int x_two), none, some (.ref a9)]) (em11 _ hc) (fun _ => rfl) (fun a9 na10 => ?_)
    have XR : ∀ c, c ∈ ([1, 2] : List Nat) → XCls K (t.cl c) := by
      intro c hc
      simp only [List.mem_cons, List.not_mem_nil, or_false] at hc
      rcases hc with rfl | rfl
      · exact T.X_SizeError
      · exact T.X_NumberError
    refine tRet_j (tCallE_i (tCons_i (tVar_i (v := (.ref a9)) rfl (tNil_i (?_)))))
    refine ⟨ps, er4, rfl, P12, rfl, hX8, hCR, _, _, hw, fun r15 hw H16 q18 us19 s17 n20 e21 r22 l23 => ?_, (fun er _ hw => False.elim hw)⟩
    have m24 := nin_of n20 P12
    have z25 := Same.free T13 n20
    have P26 := dom_up s17 P12
    have T27 := Same.trans T13 s17
    have P28 := dom_new e21 P26
    have S29 : Same (dels H5 ps) (dels H16 (q18 :: ps)) := Sn ps s17 n20
    exact hk _ hw _ _ _ T27 z25 e21 r22 l23
  have P32 := dom_up s3 P0
  have T33 := Same.trans (Same.refl H) s3
  have S34 : Same (dels H ps) (dels H2 ps) := Sd ps s3
  refine gN (σ' := [some (.str x_way), some v_sheet, some (.int x_one), some (.int x_two), some v30, none]) rfl (tRet_j (tLst_i (tCons_i (tTup_i (tCons_i (tC_i (tCons_i (tFld_i (tVar_i (v := v30) rfl (fldI (j := 1) h31 Su T.own_Table.cl T.na_Table_ends (rgS rgZ) rfl (tNil_i (new_i (Nat.le_of_ble_eq_true rfl) (fun q35 H36 n37 s38 e39 => ?_)))))))))))))
  have P41 := dom_up s38 P32
  have T42 := Same.trans T33 s38
  have S43 : Same (dels H2 ps) (dels H36 ps) := Sd ps s38
  have h40 : (pTup K (rCons pStr (rOne pInt))).rep (dels H36 ps) (.ref q35) ((Str.ofString "made"), r1.2.1) := tupR (dels_at e39 (nin_of n37 P32)) (rowC rfl (rowO rfl))
  refine tNil_i (new_i (Nat.le_of_ble_eq_true rfl) (fun q44 H45 n46 s47 e48 => ?_))
  have r49 : AllR (pTup K (rCons pStr (rOne pInt))) (dels H36 ps) [(.ref q35)] ([((Str.ofString "made"), r1.2.1)] : List (Str × Int)) := (.cons h40 .nil)
  have l50 : ([((Str.ofString "made"), r1.2.1)] : List (Str × Int)).length ≤ LIM := (Nat.le_of_ble_eq_true rfl)
  have m51 := nin_of n46 P41
  have z52 := Same.free T42 n46
  have P53 := dom_up s47 P41
  have T54 := Same.trans T42 s47
  have P55 := dom_new e48 P53
  have S56 : Same (dels H36 ps) (dels H45 (q44 :: ps)) := Sn ps s47 n46
  exact hk _ hw _ _ _ T54 z52 e48 (AllR.mono S56 r49) l50
def sp_ulaw_got (K : PySem.W.Frag) (t : Tab) : Sp := fun vs H Q E => ∃ (ps : List Addr) (x_rows : (List (Str × Int))) (x_word : Str) (x_number : Int) (v_rows : V), vs = [v_rows, (.str x_word), (.int x_number)] ∧ (∀ x ∈ ps, H x ≠ none) ∧ (pList (pTup K (rCons pStr (rOne pInt)))).rep (dels H ps) v_rows x_rows ∧ ∃ (k : Bool → Prop) (e : PErr → Prop), w_ulaw_got x_rows x_word x_number k e ∧ (∀ r, k r → RetI V.bl H Q r) ∧ (∀ er, er.cls ∈ ([] : List Nat) → e er → ErrK ps t.cl H E er)
theorem len_ulaw_got : ∀ vs H Q E, sp_ulaw_got K t vs H Q E → vs.length = (["rows", "word", "number"] : List Str).length := by
  rintro vs H Q E ⟨_, _, _, _, _, rfl, _⟩
  rfl
theorem ok_ulaw_got (T : Txt K mg t) : FnOk P w K mg base (L2.CX P w) 2 t.a_ulaw_got t.fd_ulaw_got ["rows", "word", "number"] (sp_ulaw_got K t) := by
  have G_ulaw_whole := ok_ulaw_whole (P := P) (w := w) (base := base) T
  refine T.F_ulaw_got.okX sc_ulaw_got len_ulaw_got (fun cdv A outer s H vs Q E hr h => ?_)
  have nd := sc_ulaw_got.nd
  refine ⟨_, (pss_cons (ps_if (PW.pt (pw_or (pt_cmpR (op_neUK K hr) (pe_callB (call_lenK K) (by rfl) T.n_len (by decide +kernel) (pa_cons (pv 0) pa_nil)) (pe_int) (by first | exact nomark _ | rfl)) (pw_or1 (pt_cmpR (op_neUK K hr) (pe_ix (ix_UK K) (pe_ix (ix_UK K) (pv 0) (pe_int) (fun _ _ => rfl)) (pe_int) (fun _ _ => rfl)) (pv 1) (by first | exact nomark _ | rfl))))) (pss_one (ps_ret (pe_bl))) pss_nil)
    (pss_one (ps_ret (pe_and (pe_callS G_ulaw_whole (hr.mono (by decide)) (by rfl) T.g_ulaw_whole T.F_ulaw_whole.kp T.b_ulaw_whole (fun σ => passAt (takes_of rfl rfl rfl rfl) σ) (pa_cons (pe_ix (ix_UK K) (pe_ix (ix_UK K) (pv 0) (pe_int) (fun _ _ => rfl)) (pe_int) (fun _ _ => rfl)) pa_nil)) (pe_one (pe_cmpR (op_eqUK K hr) (pe_ix (ix_UK K) (pe_ix (ix_UK K) (pv 0) (pe_int) (fun _ _ => rfl)) (pe_int) (fun _ _ => rfl)) (pv 2) (by first | exact nomark _ | rfl))))))), ?_⟩
  obtain ⟨ps, x_rows, x_word, x_number, v_rows, rfl, P0, h_rows, k, e, hw, hk, he⟩ := h
  unfold w_ulaw_got at hw
  refine tSeq_j (tIfS_j (tOrP (b := (!(decide ((x_rows.length : Int) = (1 : Int))))) (c := (!(decide ((ixG x_rows (0 : Int)).1 = x_word)))) (fun R hR => tTest_i (tOp_i (tCB_i (tCons_i (tVar_i (v := v_rows) rfl (tNil_i (lenS (sqL Su h_rows) (tC_i (rNeU_i (IsBl_i (hR))))))))))) (fun g6 R hR => tTest_i (tOp_i (tOp_i (tOp_i (tVar_i (v := v_rows) rfl (tC_i (ixS (sqL Su h_rows) (hw.1 g6) (fun u7 h8 => tC_i (ixTI (j := 0) h8 Su rgZ rfl (tVar_i (v := (.str x_word)) rfl (rNeU_s (IsBl_i (hR))))))))))))) (?_)))
  refine Br_two hw.2 (fun c9 hw => ?_) (fun c9 hw => ?_)
  · refine tRet_j (tC_i (?_))
    exact hk _ hw _ (Same.refl H)
  · refine tNext_j (tRet_j (?_))
    refine joinV hw (fun d v H' => v = V.bl d ∧ Same H H') (fun b13 v H14 hM hw => ?_) (fun hw hR => ?_)
    rotate_left 1
    · refine tAndV_i (tCallS_i (tCons_i (tOp_i (tOp_i (tVar_i (v := v_rows) rfl (tC_i (ixS (sqL Su h_rows) hw.1 (fun u16 h17 => tC_i (ixTI (j := 1) h17 Su (rgS rgOne) rfl (tNil_i (?_)))))))))))
      refine ⟨ps, (ixG x_rows (0 : Int)).2, rfl, P0, _, _, hw.2, fun r18 hw H19 s20 => ?_, (fun er hc hw => errUp (Same.refl H) ss_refl (he er (absurd hc (List.not_mem_nil)) hw))⟩
      have P21 := dom_up s20 P0
      have T22 := Same.trans (Same.refl H) s20
      have sc23 := Same.trans (Same.refl H) s20
      have S24 : Same (dels H ps) (dels H19 ps) := Sd ps s20
      refine IsBl_i (?_)
      refine Br_two hw (fun c25 hw => ?_) (fun c25 hw => ?_)
      · refine tOp_i (tOp_i (tOp_i (tVar_i (v := v_rows) rfl (tC_i (ixS (sqL (Same.trans S24 Su) h_rows) hw.1 (fun u26 h27 => tC_i (ixTI (j := 1) h27 (Same.trans S24 Su) (rgS rgOne) rfl (tVar_i (v := (.int x_number)) rfl (rEqU_i (?_))))))))))
        exact hR _ _ _ ⟨rfl, sc23⟩ hw.2
      · exact hR _ _ _ ⟨rfl, sc23⟩ hw
    obtain ⟨rfl, s15⟩ := hM
    have P28 := dom_up s15 P0
    have T29 := Same.trans (Same.refl H) s15
    have S30 : Same (dels H ps) (dels H14 ps) := Sd ps s15
    exact hk _ hw _ T29
def sp_ulaw_refused (K : PySem.W.Frag) (t : Tab) : Sp := fun vs H Q E => ∃ (ps : List Addr) (x_p : Int) (x_n : Int) (x_a : (List Int)) (x_odd : Int) (v_a : V), vs = [(.int x_p), (.int x_n), v_a, (.int x_odd)] ∧ (∀ x ∈ ps, H x ≠ none) ∧ (pList pInt).rep (dels H ps) v_a x_a ∧ ∃ (k : Bool → Prop) (e : PErr → Prop), w_ulaw_refused x_p x_n x_a x_odd k e ∧ (∀ r, k r → RetI V.bl H Q r) ∧ (∀ er, er.cls ∈ ([1, 2] : List Nat) → e er → ErrK ps t.cl H E er)
theorem len_ulaw_refused : ∀ vs H Q E, sp_ulaw_refused K t vs H Q E → vs.length = (["p", "n", "a", "odd"] : List Str).length := by
  rintro vs H Q E ⟨_, _, _, _, _, _, rfl, _⟩
  rfl
theorem ok_ulaw_refused (T : Txt K mg t) : FnOk P w K mg base (L2.CX P w) 11 t.a_ulaw_refused t.fd_ulaw_refused ["p", "n", "a", "odd"] (sp_ulaw_refused K t) := by
  have G_Table_init := ok_Table_init (P := P) (w := w) (base := base) T
  have G_ulaw_tried := ok_ulaw_tried (P := P) (w := w) (base := base) T
  have G_ulaw_got := ok_ulaw_got (P := P) (w := w) (base := base) T
  have G_ulaw_same := ok_ulaw_same (P := P) (w := w) (base := base) T
  refine T.F_ulaw_refused.okX sc_ulaw_refused len_ulaw_refused (fun cdv A outer s H vs Q E hr h => ?_)
  have nd := sc_ulaw_refused.nd
  refine ⟨_, (pss_cons (ps_set (i := 4) nd rfl (Or.inl rfl) (pe_mak T.mk_Table G_Table_init (hr.mono (by decide)) (by rfl) T.g_Table T.b_Table_init (fun σ => passAt (takes_of rfl rfl rfl rfl) σ) (pa_cons (pv 0) (pa_cons (pv 1) (pa_cons (pe_callTy (call_list_ofK K) (by rfl) T.n_list (by decide +kernel) (pa_cons (pv 2) pa_nil)) pa_nil)))))
    (pss_cons (ps_set (i := 5) nd rfl (Or.inl rfl) (pe_bl))
    (pss_cons (ps_for (passes_of rfl) rfl (pi_UK K (pe_lst (pa_cons (pe_op (op_addUK K) (pv 1) (pe_int)) (pa_cons (pe_op op_sub (pe_int) (pe_int)) (pa_cons (pe_op (op_addUK K) (pe_op (op_addUK K) (pv 1) (pe_int)) (pv 3)) pa_nil))))) (pg_name (i := 6) nd rfl (Or.inl rfl))
    (pss_one (ps_set (i := 5) nd rfl (Or.inl rfl) (pe_and (pv 5) (pe_one (pe_callS G_ulaw_got (hr.mono (by decide)) (by rfl) T.g_ulaw_got T.F_ulaw_got.kp T.b_ulaw_got (fun σ => passAt (takes_of rfl rfl rfl rfl) σ) (pa_cons (pe_callS G_ulaw_tried (hr.mono (by decide)) (by rfl) T.g_ulaw_tried T.F_ulaw_tried.kp T.b_ulaw_tried (fun σ => passAt (takes_of rfl rfl rfl rfl) σ) (pa_cons (pe_str) (pa_cons (pv 4) (pa_cons (pv 6) (pa_cons (pe_int) pa_nil))))) (pa_cons (pe_str) (pa_cons (pv 6) pa_nil)))))))))
    (pss_cons (ps_for (passes_of rfl) rfl (pi_UK K (pe_lst (pa_cons (pe_op op_shl (pe_int) (pv 1)) (pa_cons (pe_op op_sub (pe_int) (pe_int)) (pa_cons (pe_op (op_addUK K) (pe_op (op_addUK K) (pe_op op_shl (pe_int) (pv 1)) (pe_int)) (pv 3)) pa_nil))))) (pg_name (i := 6) nd rfl (Or.inl rfl))
    (pss_one (ps_set (i := 5) nd rfl (Or.inl rfl) (pe_and (pv 5) (pe_one (pe_callS G_ulaw_got (hr.mono (by decide)) (by rfl) T.g_ulaw_got T.F_ulaw_got.kp T.b_ulaw_got (fun σ => passAt (takes_of rfl rfl rfl rfl) σ) (pa_cons (pe_callS G_ulaw_tried (hr.mono (by decide)) (by rfl) T.g_ulaw_tried T.F_ulaw_tried.kp T.b_ulaw_tried (fun σ => passAt (takes_of rfl rfl rfl rfl) σ) (pa_cons (pe_str) (pa_cons (pv 4) (pa_cons (pv 6) (pa_cons (pe_int) pa_nil))))) (pa_cons (pe_str) (pa_cons (pv 6) pa_nil)))))))))
    (pss_cons (ps_for (passes_of rfl) rfl (pi_UK K (pe_lst (pa_cons (pv 1) (pa_cons (pe_op op_sub (pe_int) (pe_int)) (pa_cons (pe_op (op_addUK K) (pe_op (op_addUK K) (pv 1) (pe_int)) (pv 3)) pa_nil))))) (pg_name (i := 6) nd rfl (Or.inl rfl))
    (pss_one (ps_for (passes_of rfl) rfl (pi_UK K (pe_lst (pa_cons (pe_int) (pa_cons (pe_op (op_addUK K) (pv 0) (pe_int)) pa_nil)))) (pg_name (i := 7) nd rfl (Or.inl rfl))
    (pss_cons (ps_set (i := 8) nd rfl (Or.inl rfl) (pe_callS G_ulaw_tried (hr.mono (by decide)) (by rfl) T.g_ulaw_tried T.F_ulaw_tried.kp T.b_ulaw_tried (fun σ => passAt (takes_of rfl rfl rfl rfl) σ) (pa_cons (pe_str) (pa_cons (pv 4) (pa_cons (pv 6) (pa_cons (pv 7) pa_nil))))))
    (pss_cons (ps_set (i := 5) nd rfl (Or.inl rfl) (pe_and (pv 5) (pe_one (pe_callS G_ulaw_got (hr.mono (by decide)) (by rfl) T.g_ulaw_got T.F_ulaw_got.kp T.b_ulaw_got (fun σ => passAt (takes_of rfl rfl rfl rfl) σ) (pa_cons (pv 8) (pa_cons (pe_str) (pa_cons (pv 6) pa_nil)))))))
    (pss_cons (ps_set (i := 8) nd rfl (Or.inl rfl) (pe_callS G_ulaw_tried (hr.mono (by decide)) (by rfl) T.g_ulaw_tried T.F_ulaw_tried.kp T.b_ulaw_tried (fun σ => passAt (takes_of rfl rfl rfl rfl) σ) (pa_cons (pe_str) (pa_cons (pv 4) (pa_cons (pv 6) (pa_cons (pv 7) pa_nil))))))
    (pss_one (ps_set (i := 5) nd rfl (Or.inl rfl) (pe_and (pv 5) (pe_one (pe_callS G_ulaw_got (hr.mono (by decide)) (by rfl) T.g_ulaw_got T.F_ulaw_got.kp T.b_ulaw_got (fun σ => passAt (takes_of rfl rfl rfl rfl) σ) (pa_cons (pv 8) (pa_cons (pe_str) (pa_cons (pv 6) pa_nil))))))))))))))
    (pss_cons (ps_for (passes_of rfl) rfl (pi_UK K (pe_lst (pa_cons (pe_op op_sub (pv 1) (pe_int)) (pa_cons (pv 1) (pa_cons (pe_op op_sub (pe_int) (pe_int)) (pa_cons (pe_op (op_addUK K) (pe_op (op_addUK K) (pv 1) (pe_int)) (pv 3)) pa_nil)))))) (pg_name (i := 6) nd rfl (Or.inl rfl))
    (pss_one (ps_for (passes_of rfl) rfl (pi_UK K (pe_lst (pa_cons (pe_int) (pa_cons (pe_op (op_addUK K) (pv 0) (pe_int)) pa_nil)))) (pg_name (i := 7) nd rfl (Or.inl rfl))
    (pss_cons (ps_set (i := 8) nd rfl (Or.inl rfl) (pe_callS G_ulaw_tried (hr.mono (by decide)) (by rfl) T.g_ulaw_tried T.F_ulaw_tried.kp T.b_ulaw_tried (fun σ => passAt (takes_of rfl rfl rfl rfl) σ) (pa_cons (pe_str) (pa_cons (pv 4) (pa_cons (pv 6) (pa_cons (pv 7) pa_nil))))))
    (pss_one (ps_set (i := 5) nd rfl (Or.inl rfl) (pe_and (pv 5) (pe_one (pe_callS G_ulaw_got (hr.mono (by decide)) (by rfl) T.g_ulaw_got T.F_ulaw_got.kp T.b_ulaw_got (fun σ => passAt (takes_of rfl rfl rfl rfl) σ) (pa_cons (pv 8) (pa_cons (pe_str) (pa_cons (pv 6) pa_nil))))))))))))
    (pss_cons (ps_for (passes_of rfl) rfl (pi_UK K (pe_lst (pa_cons (pv 0) (pa_cons (pe_op op_sub (pe_int) (pe_int)) (pa_cons (pe_op (op_addUK K) (pe_op (op_addUK K) (pv 0) (pe_int)) (pv 3)) pa_nil))))) (pg_name (i := 7) nd rfl (Or.inl rfl))
    (pss_cut (ps_if (pt_cmpR op_gt (pv 1) (pe_int) (by first | exact nomark _ | rfl)) (pss_cons (ps_set (i := 8) nd rfl (Or.inl rfl) (pe_callS G_ulaw_tried (hr.mono (by decide)) (by rfl) T.g_ulaw_tried T.F_ulaw_tried.kp T.b_ulaw_tried (fun σ => passAt (takes_of rfl rfl rfl rfl) σ) (pa_cons (pe_str) (pa_cons (pv 4) (pa_cons (pe_op op_sub (pv 1) (pe_int)) (pa_cons (pv 7) pa_nil))))))
    (pss_one (ps_set (i := 5) nd rfl (Or.inl rfl) (pe_and (pv 5) (pe_one (pe_callS G_ulaw_got (hr.mono (by decide)) (by rfl) T.g_ulaw_got T.F_ulaw_got.kp T.b_ulaw_got (fun σ => passAt (takes_of rfl rfl rfl rfl) σ) (pa_cons (pv 8) (pa_cons (pe_str) (pa_cons (pv 7) pa_nil))))))))) pss_nil)
    (pss_one (ps_if (pt_cmpR op_gt (pv 1) (pe_int) (by first | exact nomark _ | rfl)) (pss_cons (ps_set (i := 8) nd rfl (Or.inl rfl) (pe_callS G_ulaw_tried (hr.mono (by decide)) (by rfl) T.g_ulaw_tried T.F_ulaw_tried.kp T.b_ulaw_tried (fun σ => passAt (takes_of rfl rfl rfl rfl) σ) (pa_cons (pe_str) (pa_cons (pv 4) (pa_cons (pe_op op_sub (pv 1) (pe_int)) (pa_cons (pv 7) pa_nil))))))
    (pss_one (ps_set (i := 5) nd rfl (Or.inl rfl) (pe_and (pv 5) (pe_one (pe_callS G_ulaw_got (hr.mono (by decide)) (by rfl) T.g_ulaw_got T.F_ulaw_got.kp T.b_ulaw_got (fun σ => passAt (takes_of rfl rfl rfl rfl) σ) (pa_cons (pv 8) (pa_cons (pe_str) (pa_cons (pv 7) pa_nil))))))))) pss_nil))))
    (pss_cons (ps_for (passes_of rfl) rfl (pi_UK K (pe_lst (pa_cons (pe_int) (pa_cons (pe_op op_sub (pe_int) (pe_int)) (pa_cons (pe_op (op_addUK K) (pe_int) (pv 3)) pa_nil))))) (pg_name (i := 7) nd rfl (Or.inl rfl))
    (pss_one (ps_if (pt_cmpR op_gt (pv 1) (pe_int) (by first | exact nomark _ | rfl)) (pss_cons (ps_set (i := 8) nd rfl (Or.inl rfl) (pe_callS G_ulaw_tried (hr.mono (by decide)) (by rfl) T.g_ulaw_tried T.F_ulaw_tried.kp T.b_ulaw_tried (fun σ => passAt (takes_of rfl rfl rfl rfl) σ) (pa_cons (pe_str) (pa_cons (pv 4) (pa_cons (pe_op op_sub (pv 1) (pe_int)) (pa_cons (pv 7) pa_nil))))))
    (pss_one (ps_set (i := 5) nd rfl (Or.inl rfl) (pe_and (pv 5) (pe_one (pe_callS G_ulaw_got (hr.mono (by decide)) (by rfl) T.g_ulaw_got T.F_ulaw_got.kp T.b_ulaw_got (fun σ => passAt (takes_of rfl rfl rfl rfl) σ) (pa_cons (pv 8) (pa_cons (pe_str) (pa_cons (pv 7) pa_nil))))))))) pss_nil)))
    (pss_one (ps_ret (pe_and (pv 5) (pe_one (pe_callS G_ulaw_same (hr.mono (by decide)) (by rfl) T.g_ulaw_same T.F_ulaw_same.kp T.b_ulaw_same (fun σ => passAt (takes_of rfl rfl rfl rfl) σ) (pa_cons (pv 4) (pa_cons (pv 0) (pa_cons (pv 1) (pa_cons (pv 2) pa_nil))))))))))))))))), ?_⟩
  obtain ⟨ps, x_p, x_n, x_a, x_odd, v_a, rfl, P0, h_a, k, e, hw, hk, he⟩ := h
  unfold w_ulaw_refused at hw
  refine tSeq_j (tAsg_j (tMak_i (tCons_i (tVar_i (v := (.int x_p)) rfl (tCons_i (tVar_i (v := (.int x_n)) rfl (tCons_i (tCB_i (tCons_i (tVar_i (v := v_a) rfl (tNil_i (listS (sqL Su h_a) (fun q1 H2 n3 s4 us5 e6 r7 l8 => ?_)))))))))))))
  have m9 := nin_of n3 P0
  have z10 := Same.free (Same.refl H) n3
  have P11 := dom_up s4 P0
  have T12 := Same.trans (Same.refl H) s4
  have P13 := dom_new e6 P11
  have S14 : Same (dels H ps) (dels H2 (q1 :: ps)) := Sn ps s4 n3
  have h15 : (pList pInt).rep (dels H2 ps) (.ref q1) x_a := oFrzG e6 m9 (ss_skip ss_refl) (AllR.mono S14 r7) l8
  have P16 := dom_ss (ss_skip ss_refl) P13
  have S17 : Same (dels H2 (q1 :: ps)) (dels H2 ps) := Ss (ss_skip ss_refl)
  refine tNil_i (?_)
  refine makS (fun n18 dn19 H20 nn21 s22 s23 e24 => ?_)
  have S25 : Same (dels H2 ps) (dels H20 (n18 :: ps)) := Sn ps s22 nn21
  have P26 := dom_new e24 (dom_up s22 P16)
  refine ⟨(n18 :: ps), x_p, x_n, x_a, n18, dn19, (.ref q1), rfl, P26, (List.mem_cons_self ..), e24, ((pList pInt).mono S25 h15), _, _, hw, fun r27 hw H28 fs29 s30 e31 hn32 rr33 => ⟨rfl, ?_⟩, (fun er hc hw => errUp (Same.trans T12 s23) (ss_skip ss_refl) (he er (by simp only [List.mem_cons, List.not_mem_nil, or_false] at hc ⊢; omega) hw))⟩
  have s35 := Same.trans s23 s30
  have P36 := dom_up s35 P16
  have T37 := Same.trans T12 s35
  have S38 : Same (dels H2 ps) (dels H28 ps) := Sd ps s35
  have h34 : (pIns t.c_Table ["prime", "ends", "entries"] (rCons pInt (rCons pInt (rOne (pVt K pInt))))).rep (dels H28 ps) (.ref n18) r27 := ⟨_, _, fs29, rfl, dels_at e31 (nin_of nn21 P16), hn32, PRow.mono (rCons pInt (rCons pInt (rOne (pVt K pInt)))) (Ss (ss_skip ss_refl)) rr33⟩
  refine gN (σ' := [some (.int x_p), some (.int x_n), some v_a, some (.int x_odd), some (.ref n18), none, none, none, none]) rfl (tSeq_j (tAsg_j (tC_i (gN (σ' := [some (.int x_p), some (.int x_n), some v_a, some (.int x_odd), some (.ref n18), some (.bl true), none, none, none]) rfl (tSeq_j (tFor_j (wL (tLst_i (tCons_i (tOp_i (tVar_i (v := (.int x_n)) rfl (tC_i (rAddU_i (tCons_i (tOp_i (tC_i (tC_i (rI0_i (tCons_i (tOp_i (tOp_i (tVar_i (v := (.int x_n)) rfl (tC_i (rAddU_i (tVar_i (v := (.int x_odd)) rfl (rAddU_i (tNil_i (new_i (Nat.le_of_ble_eq_true rfl) (fun q143 H144 n145 s146 e147 => ?_)))))))))))))))))))))))))))))
  have r148 : AllR pInt (dels H28 ps) [(.int (x_n + (1 : Int))), (.int ((0 : Int) - (1 : Int))), (.int ((x_n + (2 : Int)) + x_odd))] ([(x_n + (1 : Int)), ((0 : Int) - (1 : Int)), ((x_n + (2 : Int)) + x_odd)] : List Int) := (.cons rfl (.cons rfl (.cons rfl .nil)))
  have l149 : ([(x_n + (1 : Int)), ((0 : Int) - (1 : Int)), ((x_n + (2 : Int)) + x_odd)] : List Int).length ≤ LIM := (Nat.le_of_ble_eq_true rfl)
  have m150 := nin_of n145 P36
  have z151 := Same.free T37 n145
  have P152 := dom_up s146 P36
  have T153 := Same.trans T37 s146
  have P154 := dom_new e147 P152
  have S155 : Same (dels H28 ps) (dels H144 (q143 :: ps)) := Sn ps s146 n145
  have h156 : (pList pInt).rep (dels H144 ps) (.ref q143) ([(x_n + (1 : Int)), ((0 : Int) - (1 : Int)), ((x_n + (2 : Int)) + x_odd)] : List Int) := oFrzG e147 m150 (ss_skip ss_refl) (AllR.mono S155 r148) l149
  have P157 := dom_ss (ss_skip ss_refl) P154
  have S158 : Same (dels H144 (q143 :: ps)) (dels H144 ps) := Ss (ss_skip ss_refl)
  obtain ⟨a159, us160, hv161, hS162, hr163, hl164⟩ := (lFro (K := K) h156)
  refine WL_v hv161 (Same.seq Su hS162) (forL (s0 := true) hw hr163 (fun (s165 : Bool) (σ167 : L2.St) (H166 : Hp) => ∃ (j168 : Option V), σ167 = [some (.int x_p), some (.int x_n), some v_a, some (.int x_odd), some (.ref n18), some (.bl s165), j168, none, none] ∧ Same (dels H144 ps) (dels H166 ps) ∧ (∀ x ∈ ps, H166 x ≠ none) ∧ Same H H166 ∧ True) ⟨_, rfl, (Same.refl _), P157, T153, trivial⟩ (fun s165 σ167 H166 ⟨j168, _, S171, P169, T170, _⟩ => (Same.seq (Same.trans S171 Su) hS162)) (fun d174 s165 σ167 H166 x175 nx172 hr hi176 hw => ?_) (fun s178 σ180 H179 hr hw => ?_))
  · obtain ⟨j168, rfl, S171, P169, T170, _⟩ := hr
    obtain rfl : x175 = (.int d174) := hi176
    refine gN (σ' := [some (.int x_p), some (.int x_n), some v_a, some (.int x_odd), some (.ref n18), some (.bl s165), some (.int d174), none, none]) rfl (tAsg_j (?_))
    refine joinV hw (fun d v H' => v = V.bl d ∧ Same H166 H') (fun b186 v H187 hM hw => ?_) (fun hw hR => ?_)
    rotate_left 1
    · refine tAndV_i (tVar_i (v := (.bl s165)) rfl (IsBl_i (?_)))
      refine Br_two hw (fun c189 hw => ?_) (fun c189 hw => ?_)
      · refine tCallS_i (tCons_i (tCallS_i (tCons_i (tC_i (tCons_i (tVar_i (v := (.ref n18)) rfl (tCons_i (tVar_i (v := (.int d174)) rfl (tCons_i (tC_i (tNil_i (?_))))))))))))
        refine ⟨ps, (Str.ofString "turned"), r27, d174, (0 : Int), (.ref n18), rfl, P169, ((pIns t.c_Table ["prime", "ends", "entries"] (rCons pInt (rCons pInt (rOne (pVt K pInt))))).mono (S155.trans (S158.trans S171)) h34), _, _, hw, fun r190 hw H191 q193 us194 s192 n195 e196 r197 l198 => ?_, (fun er hc hw => errUp T170 ss_refl (he er (absurd hc (List.not_mem_nil)) hw))⟩
        have m199 := nin_of n195 P169
        have z200 := Same.free T170 n195
        have P201 := dom_up s192 P169
        have T202 := Same.trans T170 s192
        have sc203 := Same.trans (Same.refl H166) s192
        have P204 := dom_new e196 P201
        have S205 : Same (dels H166 ps) (dels H191 (q193 :: ps)) := Sn ps s192 n195
        have h206 : (pList (pTup K (rCons pStr (rOne pInt)))).rep (dels H191 ps) (.ref q193) r190 := oFrzG e196 m199 (ss_skip ss_refl) r197 l198
        have P207 := dom_ss (ss_skip ss_refl) P204
        have S208 : Same (dels H191 (q193 :: ps)) (dels H191 ps) := Ss (ss_skip ss_refl)
        refine tCons_i (tC_i (tCons_i (tVar_i (v := (.int d174)) rfl (tNil_i (?_)))))
        refine ⟨ps, r190, (Str.ofString "number"), d174, (.ref q193), rfl, P207, h206, _, _, hw, fun r209 hw H210 s211 => ?_, (fun er hc hw => errUp T202 ss_refl (he er (absurd hc (List.not_mem_nil)) hw))⟩
        have P212 := dom_up s211 P207
        have T213 := Same.trans T202 s211
        have sc214 := Same.trans sc203 s211
        have S215 : Same (dels H191 ps) (dels H210 ps) := Sd ps s211
        exact hR _ _ _ ⟨rfl, sc214⟩ hw
      · exact hR _ _ _ ⟨rfl, (Same.refl H166)⟩ hw
    obtain ⟨rfl, s188⟩ := hM
    have P216 := dom_up s188 P169
    have T217 := Same.trans T170 s188
    have S218 : Same (dels H166 ps) (dels H187 ps) := Sd ps s188
    refine gN (σ' := [some (.int x_p), some (.int x_n), some v_a, some (.int x_odd), some (.ref n18), some (.bl b186), some (.int d174), none, none]) rfl (?_)
    exact nxS_i (s := (b186)) ⟨_, rfl, (S171.trans S218), P216, T217, trivial⟩ hw
  obtain ⟨j181, rfl, S184, P182, T183, _⟩ := hr
  refine tSeq_j (tFor_j (wL (tLst_i (tCons_i (tOp_i (tC_i (tVar_i (v := (.int x_n)) rfl (rI_i hw.1 (tCons_i (tOp_i (tC_i (tC_i (rI0_i (tCons_i (tOp_i (tOp_i (tOp_i (tC_i (tVar_i (v := (.int x_n)) rfl (rI_i hw.2.1 (tC_i (rAddU_i (tVar_i (v := (.int x_odd)) rfl (rAddU_i (tNil_i (new_i (Nat.le_of_ble_eq_true rfl) (fun q323 H324 n325 s326 e327 => ?_)))))))))))))))))))))))))))
  have r328 : AllR pInt (dels H179 ps) [(.int ((1 : Int) * 2 ^ Int.toNat x_n)), (.int ((0 : Int) - (1 : Int))), (.int ((((1 : Int) * 2 ^ Int.toNat x_n) + (1 : Int)) + x_odd))] ([((1 : Int) * 2 ^ Int.toNat x_n), ((0 : Int) - (1 : Int)), ((((1 : Int) * 2 ^ Int.toNat x_n) + (1 : Int)) + x_odd)] : List Int) := (.cons rfl (.cons rfl (.cons rfl .nil)))
  have l329 : ([((1 : Int) * 2 ^ Int.toNat x_n), ((0 : Int) - (1 : Int)), ((((1 : Int) * 2 ^ Int.toNat x_n) + (1 : Int)) + x_odd)] : List Int).length ≤ LIM := (Nat.le_of_ble_eq_true rfl)
  have m330 := nin_of n325 P182
  have z331 := Same.free T183 n325
  have P332 := dom_up s326 P182
  have T333 := Same.trans T183 s326
  have P334 := dom_new e327 P332
  have S335 : Same (dels H179 ps) (dels H324 (q323 :: ps)) := Sn ps s326 n325
  have h336 : (pList pInt).rep (dels H324 ps) (.ref q323) ([((1 : Int) * 2 ^ Int.toNat x_n), ((0 : Int) - (1 : Int)), ((((1 : Int) * 2 ^ Int.toNat x_n) + (1 : Int)) + x_odd)] : List Int) := oFrzG e327 m330 (ss_skip ss_refl) (AllR.mono S335 r328) l329
  have P337 := dom_ss (ss_skip ss_refl) P334
  have S338 : Same (dels H324 (q323 :: ps)) (dels H324 ps) := Ss (ss_skip ss_refl)
  obtain ⟨a339, us340, hv341, hS342, hr343, hl344⟩ := (lFro (K := K) h336)
  refine WL_v hv341 (Same.seq Su hS342) (forL (s0 := s178) hw.2.2 hr343 (fun (s345 : Bool) (σ347 : L2.St) (H346 : Hp) => ∃ (j348 : Option V), σ347 = [some (.int x_p), some (.int x_n), some v_a, some (.int x_odd), some (.ref n18), some (.bl s345), j348, none, none] ∧ Same (dels H324 ps) (dels H346 ps) ∧ (∀ x ∈ ps, H346 x ≠ none) ∧ Same H H346 ∧ True) ⟨_, rfl, (Same.refl _), P337, T333, trivial⟩ (fun s345 σ347 H346 ⟨j348, _, S351, P349, T350, _⟩ => (Same.seq (Same.trans S351 Su) hS342)) (fun d354 s345 σ347 H346 x355 nx352 hr hi356 hw => ?_) (fun s358 σ360 H359 hr hw => ?_))
  · obtain ⟨j348, rfl, S351, P349, T350, _⟩ := hr
    obtain rfl : x355 = (.int d354) := hi356
    refine gN (σ' := [some (.int x_p), some (.int x_n), some v_a, some (.int x_odd), some (.ref n18), some (.bl s345), some (.int d354), none, none]) rfl (tAsg_j (?_))
    refine joinV hw (fun d v H' => v = V.bl d ∧ Same H346 H') (fun b366 v H367 hM hw => ?_) (fun hw hR => ?_)
    rotate_left 1
    · refine tAndV_i (tVar_i (v := (.bl s345)) rfl (IsBl_i (?_)))
      refine Br_two hw (fun c369 hw => ?_) (fun c369 hw => ?_)
      · refine tCallS_i (tCons_i (tCallS_i (tCons_i (tC_i (tCons_i (tVar_i (v := (.ref n18)) rfl (tCons_i (tVar_i (v := (.int d354)) rfl (tCons_i (tC_i (tNil_i (?_))))))))))))
        refine ⟨ps, (Str.ofString "flipped"), r27, d354, (0 : Int), (.ref n18), rfl, P349, ((pIns t.c_Table ["prime", "ends", "entries"] (rCons pInt (rCons pInt (rOne (pVt K pInt))))).mono (S155.trans (S158.trans (S184.trans (S335.trans (S338.trans S351))))) h34), _, _, hw, fun r370 hw H371 q373 us374 s372 n375 e376 r377 l378 => ?_, (fun er hc hw => errUp T350 ss_refl (he er (absurd hc (List.not_mem_nil)) hw))⟩
        have m379 := nin_of n375 P349
        have z380 := Same.free T350 n375
        have P381 := dom_up s372 P349
        have T382 := Same.trans T350 s372
        have sc383 := Same.trans (Same.refl H346) s372
        have P384 := dom_new e376 P381
        have S385 : Same (dels H346 ps) (dels H371 (q373 :: ps)) := Sn ps s372 n375
        have h386 : (pList (pTup K (rCons pStr (rOne pInt)))).rep (dels H371 ps) (.ref q373) r370 := oFrzG e376 m379 (ss_skip ss_refl) r377 l378
        have P387 := dom_ss (ss_skip ss_refl) P384
        have S388 : Same (dels H371 (q373 :: ps)) (dels H371 ps) := Ss (ss_skip ss_refl)
        refine tCons_i (tC_i (tCons_i (tVar_i (v := (.int d354)) rfl (tNil_i (?_)))))
        refine ⟨ps, r370, (Str.ofString "number"), d354, (.ref q373), rfl, P387, h386, _, _, hw, fun r389 hw H390 s391 => ?_, (fun er hc hw => errUp T382 ss_refl (he er (absurd hc (List.not_mem_nil)) hw))⟩
        have P392 := dom_up s391 P387
        have T393 := Same.trans T382 s391
        have sc394 := Same.trans sc383 s391
        have S395 : Same (dels H371 ps) (dels H390 ps) := Sd ps s391
        exact hR _ _ _ ⟨rfl, sc394⟩ hw
      · exact hR _ _ _ ⟨rfl, (Same.refl H346)⟩ hw
    obtain ⟨rfl, s368⟩ := hM
    have P396 := dom_up s368 P349
    have T397 := Same.trans T350 s368
    have S398 : Same (dels H346 ps) (dels H367 ps) := Sd ps s368
    refine gN (σ' := [some (.int x_p), some (.int x_n), some v_a, some (.int x_odd), some (.ref n18), some (.bl b366), some (.int d354), none, none]) rfl (?_)
    exact nxS_i (s := (b366)) ⟨_, rfl, (S351.trans S398), P396, T397, trivial⟩ hw
  obtain ⟨j361, rfl, S364, P362, T363, _⟩ := hr
  refine tSeq_j (tFor_j (wL (tLst_i (tCons_i (tVar_i (v := (.int x_n)) rfl (tCons_i (tOp_i (tC_i (tC_i (rI0_i (tCons_i (tOp_i (tOp_i (tVar_i (v := (.int x_n)) rfl (tC_i (rAddU_i (tVar_i (v := (.int x_odd)) rfl (rAddU_i (tNil_i (new_i (Nat.le_of_ble_eq_true rfl) (fun q718 H719 n720 s721 e722 => ?_)))))))))))))))))))))
  have r723 : AllR pInt (dels H359 ps) [(.int x_n), (.int ((0 : Int) - (1 : Int))), (.int ((x_n + (1 : Int)) + x_odd))] ([x_n, ((0 : Int) - (1 : Int)), ((x_n + (1 : Int)) + x_odd)] : List Int) := (.cons rfl (.cons rfl (.cons rfl .nil)))
  have l724 : ([x_n, ((0 : Int) - (1 : Int)), ((x_n + (1 : Int)) + x_odd)] : List Int).length ≤ LIM := (Nat.le_of_ble_eq_true rfl)
  have m725 := nin_of n720 P362
  have z726 := Same.free T363 n720
  have P727 := dom_up s721 P362
  have T728 := Same.trans T363 s721
  have P729 := dom_new e722 P727
  have S730 : Same (dels H359 ps) (dels H719 (q718 :: ps)) := Sn ps s721 n720
  have h731 : (pList pInt).rep (dels H719 ps) (.ref q718) ([x_n, ((0 : Int) - (1 : Int)), ((x_n + (1 : Int)) + x_odd)] : List Int) := oFrzG e722 m725 (ss_skip ss_refl) (AllR.mono S730 r723) l724
  have P732 := dom_ss (ss_skip ss_refl) P729
  have S733 : Same (dels H719 (q718 :: ps)) (dels H719 ps) := Ss (ss_skip ss_refl)
  obtain ⟨a734, us735, hv736, hS737, hr738, hl739⟩ := (lFro (K := K) h731)
  refine WL_v hv736 (Same.seq Su hS737) (forL (s0 := s358) hw hr738 (fun (s740 : Bool) (σ742 : L2.St) (H741 : Hp) => ∃ (j743 : Option V) (j744 : Option V) (j745 : Option V), σ742 = [some (.int x_p), some (.int x_n), some v_a, some (.int x_odd), some (.ref n18), some (.bl s740), j743, j744, j745] ∧ Same (dels H719 ps) (dels H741 ps) ∧ (∀ x ∈ ps, H741 x ≠ none) ∧ Same H H741 ∧ True) ⟨_, _, _, rfl, (Same.refl _), P732, T728, trivial⟩ (fun s740 σ742 H741 ⟨j743, j744, j745, _, S748, P746, T747, _⟩ => (Same.seq (Same.trans S748 Su) hS737)) (fun d751 s740 σ742 H741 x752 nx749 hr hi753 hw => ?_) (fun s755 σ757 H756 hr hw => ?_))
  · obtain ⟨j743, j744, j745, rfl, S748, P746, T747, _⟩ := hr
    obtain rfl : x752 = (.int d751) := hi753
    refine gN (σ' := [some (.int x_p), some (.int x_n), some v_a, some (.int x_odd), some (.ref n18), some (.bl s740), some (.int d751), j744, j745]) rfl (tFor_j (wL (tLst_i (tCons_i (tC_i (tCons_i (tOp_i (tVar_i (v := (.int x_p)) rfl (tC_i (rAddU_i (tNil_i (new_i (Nat.le_of_ble_eq_true rfl) (fun q901 H902 n903 s904 e905 => ?_)))))))))))))
    have r906 : AllR pInt (dels H741 ps) [(.int (1 : Int)), (.int (x_p + (200 : Int)))] ([(1 : Int), (x_p + (200 : Int))] : List Int) := (.cons rfl (.cons rfl .nil))
    have l907 : ([(1 : Int), (x_p + (200 : Int))] : List Int).length ≤ LIM := (Nat.le_of_ble_eq_true rfl)
    have m908 := nin_of n903 P746
    have z909 := Same.free T747 n903
    have P910 := dom_up s904 P746
    have T911 := Same.trans T747 s904
    have P912 := dom_new e905 P910
    have S913 : Same (dels H741 ps) (dels H902 (q901 :: ps)) := Sn ps s904 n903
    have h914 : (pList pInt).rep (dels H902 ps) (.ref q901) ([(1 : Int), (x_p + (200 : Int))] : List Int) := oFrzG e905 m908 (ss_skip ss_refl) (AllR.mono S913 r906) l907
    have P915 := dom_ss (ss_skip ss_refl) P912
    have S916 : Same (dels H902 (q901 :: ps)) (dels H902 ps) := Ss (ss_skip ss_refl)
    obtain ⟨a917, us918, hv919, hS920, hr921, hl922⟩ := (lFro (K := K) h914)
    refine WL_v hv919 (Same.seq Su hS920) (forL (s0 := s740) hw hr921 (fun (s923 : Bool) (σ925 : L2.St) (H924 : Hp) => ∃ (j926 : Option V) (j927 : Option V), σ925 = [some (.int x_p), some (.int x_n), some v_a, some (.int x_odd), some (.ref n18), some (.bl s923), some (.int d751), j926, j927] ∧ Same (dels H902 ps) (dels H924 ps) ∧ (∀ x ∈ ps, H924 x ≠ none) ∧ Same H H924 ∧ True) ⟨_, _, rfl, (Same.refl _), P915, T911, trivial⟩ (fun s923 σ925 H924 ⟨j926, j927, _, S930, P928, T929, _⟩ => (Same.seq (Same.trans S930 Su) hS920)) (fun d933 s923 σ925 H924 x934 nx931 hr hi935 hw => ?_) (fun s937 σ939 H938 hr hw => ?_))
    · obtain ⟨j926, j927, rfl, S930, P928, T929, _⟩ := hr
      obtain rfl : x934 = (.int d933) := hi935
      refine gN (σ' := [some (.int x_p), some (.int x_n), some v_a, some (.int x_odd), some (.ref n18), some (.bl s923), some (.int d751), some (.int d933), j927]) rfl (tSeq_j (tAsg_j (tCallS_i (tCons_i (tC_i (tCons_i (tVar_i (v := (.ref n18)) rfl (tCons_i (tVar_i (v := (.int d751)) rfl (tCons_i (tVar_i (v := (.int d933)) rfl (tNil_i (?_)))))))))))))
      refine ⟨ps, (Str.ofString "weighted"), r27, d751, d933, (.ref n18), rfl, P928, ((pIns t.c_Table ["prime", "ends", "entries"] (rCons pInt (rCons pInt (rOne (pVt K pInt))))).mono (S155.trans (S158.trans (S184.trans (S335.trans (S338.trans (S364.trans (S730.trans (S733.trans (S748.trans (S913.trans (S916.trans S930))))))))))) h34), _, _, hw, fun r945 hw H946 q948 us949 s947 n950 e951 r952 l953 => ?_, (fun er hc hw => errUp T929 ss_refl (he er (absurd hc (List.not_mem_nil)) hw))⟩
      have m954 := nin_of n950 P928
      have z955 := Same.free T929 n950
      have P956 := dom_up s947 P928
      have T957 := Same.trans T929 s947
      have P958 := dom_new e951 P956
      have S959 : Same (dels H924 ps) (dels H946 (q948 :: ps)) := Sn ps s947 n950
      have h960 : (pList (pTup K (rCons pStr (rOne pInt)))).rep (dels H946 ps) (.ref q948) r945 := oFrzG e951 m954 (ss_skip ss_refl) r952 l953
      have P961 := dom_ss (ss_skip ss_refl) P958
      have S962 : Same (dels H946 (q948 :: ps)) (dels H946 ps) := Ss (ss_skip ss_refl)
      refine gN (σ' := [some (.int x_p), some (.int x_n), some v_a, some (.int x_odd), some (.ref n18), some (.bl s923), some (.int d751), some (.int d933), some (.ref q948)]) rfl (tSeq_j (tAsg_j (?_)))
      refine joinV hw (fun d v H' => v = V.bl d ∧ Same H946 H') (fun b964 v H965 hM hw => ?_) (fun hw hR => ?_)
      rotate_left 1
      · refine tAndV_i (tVar_i (v := (.bl s923)) rfl (IsBl_i (?_)))
        refine Br_two hw (fun c967 hw => ?_) (fun c967 hw => ?_)
        · refine tCallS_i (tCons_i (tVar_i (v := (.ref q948)) rfl (tCons_i (tC_i (tCons_i (tVar_i (v := (.int d751)) rfl (tNil_i (?_))))))))
          refine ⟨ps, r945, (Str.ofString "number"), d751, (.ref q948), rfl, P961, h960, _, _, hw, fun r968 hw H969 s970 => ?_, (fun er hc hw => errUp T957 ss_refl (he er (absurd hc (List.not_mem_nil)) hw))⟩
          have P971 := dom_up s970 P961
          have T972 := Same.trans T957 s970
          have sc973 := Same.trans (Same.refl H946) s970
          have S974 : Same (dels H946 ps) (dels H969 ps) := Sd ps s970
          exact hR _ _ _ ⟨rfl, sc973⟩ hw
        · exact hR _ _ _ ⟨rfl, (Same.refl H946)⟩ hw
      obtain ⟨rfl, s966⟩ := hM
      have P975 := dom_up s966 P961
      have T976 := Same.trans T957 s966
      have S977 : Same (dels H946 ps) (dels H965 ps) := Sd ps s966
      refine gN (σ' := [some (.int x_p), some (.int x_n), some v_a, some (.int x_odd), some (.ref n18), some (.bl b964), some (.int d751), some (.int d933), some (.ref q948)]) rfl (tSeq_j (tAsg_j (tCallS_i (tCons_i (tC_i (tCons_i (tVar_i (v := (.ref n18)) rfl (tCons_i (tVar_i (v := (.int d751)) rfl (tCons_i (tVar_i (v := (.int d933)) rfl (tNil_i (?_)))))))))))))
      refine ⟨ps, (Str.ofString "fixed"), r27, d751, d933, (.ref n18), rfl, P975, ((pIns t.c_Table ["prime", "ends", "entries"] (rCons pInt (rCons pInt (rOne (pVt K pInt))))).mono (S155.trans (S158.trans (S184.trans (S335.trans (S338.trans (S364.trans (S730.trans (S733.trans (S748.trans (S913.trans (S916.trans (S930.trans (S959.trans (S962.trans S977)))))))))))))) h34), _, _, hw, fun r978 hw H979 q981 us982 s980 n983 e984 r985 l986 => ?_, (fun er hc hw => errUp T976 ss_refl (he er (absurd hc (List.not_mem_nil)) hw))⟩
      have m987 := nin_of n983 P975
      have z988 := Same.free T976 n983
      have P989 := dom_up s980 P975
      have T990 := Same.trans T976 s980
      have P991 := dom_new e984 P989
      have S992 : Same (dels H965 ps) (dels H979 (q981 :: ps)) := Sn ps s980 n983
      have h993 : (pList (pTup K (rCons pStr (rOne pInt)))).rep (dels H979 ps) (.ref q981) r978 := oFrzG e984 m987 (ss_skip ss_refl) r985 l986
      have P994 := dom_ss (ss_skip ss_refl) P991
      have S995 : Same (dels H979 (q981 :: ps)) (dels H979 ps) := Ss (ss_skip ss_refl)
      refine gN (σ' := [some (.int x_p), some (.int x_n), some v_a, some (.int x_odd), some (.ref n18), some (.bl b964), some (.int d751), some (.int d933), some (.ref q981)]) rfl (tAsg_j (?_))
      refine joinV hw (fun d v H' => v = V.bl d ∧ Same H979 H') (fun b997 v H998 hM hw => ?_) (fun hw hR => ?_)
      rotate_left 1
      · refine tAndV_i (tVar_i (v := (.bl b964)) rfl (IsBl_i (?_)))
        refine Br_two hw (fun c1000 hw => ?_) (fun c1000 hw => ?_)
        · refine tCallS_i (tCons_i (tVar_i (v := (.ref q981)) rfl (tCons_i (tC_i (tCons_i (tVar_i (v := (.int d751)) rfl (tNil_i (?_))))))))
          refine ⟨ps, r978, (Str.ofString "number"), d751, (.ref q981), rfl, P994, h993, _, _, hw, fun r1001 hw H1002 s1003 => ?_, (fun er hc hw => errUp T990 ss_refl (he er (absurd hc (List.not_mem_nil)) hw))⟩
          have P1004 := dom_up s1003 P994
          have T1005 := Same.trans T990 s1003
          have sc1006 := Same.trans (Same.refl H979) s1003
          have S1007 : Same (dels H979 ps) (dels H1002 ps) := Sd ps s1003
          exact hR _ _ _ ⟨rfl, sc1006⟩ hw
        · exact hR _ _ _ ⟨rfl, (Same.refl H979)⟩ hw
      obtain ⟨rfl, s999⟩ := hM
      have P1008 := dom_up s999 P994
      have T1009 := Same.trans T990 s999
      have S1010 : Same (dels H979 ps) (dels H998 ps) := Sd ps s999
      refine gN (σ' := [some (.int x_p), some (.int x_n), some v_a, some (.int x_odd), some (.ref n18), some (.bl b997), some (.int d751), some (.int d933), some (.ref q981)]) rfl (?_)
      exact nxS_i (s := (b997)) ⟨_, _, rfl, (S930.trans (S959.trans (S962.trans (S977.trans (S992.trans (S995.trans S1010)))))), P1008, T1009, trivial⟩ hw
    obtain ⟨j940, j941, rfl, S944, P942, T943, _⟩ := hr
    exact nxS_i (s := (s937)) ⟨_, _, _, rfl, (S748.trans (S913.trans (S916.trans S944))), P942, T943, trivial⟩ hw
  obtain ⟨j758, j759, j760, rfl, S763, P761, T762, _⟩ := hr
  refine tSeq_j (tFor_j (wL (tLst_i (tCons_i (tOp_i (tVar_i (v := (.int x_n)) rfl (tC_i (rI0_i (tCons_i (tVar_i (v := (.int x_n)) rfl (tCons_i (tOp_i (tC_i (tC_i (rI0_i (tCons_i (tOp_i (tOp_i (tVar_i (v := (.int x_n)) rfl (tC_i (rAddU_i (tVar_i (v := (.int x_odd)) rfl (rAddU_i (tNil_i (new_i (Nat.le_of_ble_eq_true rfl) (fun q1264 H1265 n1266 s1267 e1268 => ?_))))))))))))))))))))))))))
  have r1269 : AllR pInt (dels H756 ps) [(.int (x_n - (1 : Int))), (.int x_n), (.int ((0 : Int) - (1 : Int))), (.int ((x_n + (1 : Int)) + x_odd))] ([(x_n - (1 : Int)), x_n, ((0 : Int) - (1 : Int)), ((x_n + (1 : Int)) + x_odd)] : List Int) := (.cons rfl (.cons rfl (.cons rfl (.cons rfl .nil))))
  have l1270 : ([(x_n - (1 : Int)), x_n, ((0 : Int) - (1 : Int)), ((x_n + (1 : Int)) + x_odd)] : List Int).length ≤ LIM := (Nat.le_of_ble_eq_true rfl)
  have m1271 := nin_of n1266 P761
  have z1272 := Same.free T762 n1266
  have P1273 := dom_up s1267 P761
  have T1274 := Same.trans T762 s1267
  have P1275 := dom_new e1268 P1273
  have S1276 : Same (dels H756 ps) (dels H1265 (q1264 :: ps)) := Sn ps s1267 n1266
  have h1277 : (pList pInt).rep (dels H1265 ps) (.ref q1264) ([(x_n - (1 : Int)), x_n, ((0 : Int) - (1 : Int)), ((x_n + (1 : Int)) + x_odd)] : List Int) := oFrzG e1268 m1271 (ss_skip ss_refl) (AllR.mono S1276 r1269) l1270
  have P1278 := dom_ss (ss_skip ss_refl) P1275
  have S1279 : Same (dels H1265 (q1264 :: ps)) (dels H1265 ps) := Ss (ss_skip ss_refl)
  obtain ⟨a1280, us1281, hv1282, hS1283, hr1284, hl1285⟩ := (lFro (K := K) h1277)
  refine WL_v hv1282 (Same.seq Su hS1283) (forL (s0 := s755) hw hr1284 (fun (s1286 : Bool) (σ1288 : L2.St) (H1287 : Hp) => ∃ (j1289 : Option V) (j1290 : Option V) (j1291 : Option V), σ1288 = [some (.int x_p), some (.int x_n), some v_a, some (.int x_odd), some (.ref n18), some (.bl s1286), j1289, j1290, j1291] ∧ Same (dels H1265 ps) (dels H1287 ps) ∧ (∀ x ∈ ps, H1287 x ≠ none) ∧ Same H H1287 ∧ True) ⟨_, _, _, rfl, (Same.refl _), P1278, T1274, trivial⟩ (fun s1286 σ1288 H1287 ⟨j1289, j1290, j1291, _, S1294, P1292, T1293, _⟩ => (Same.seq (Same.trans S1294 Su) hS1283)) (fun d1297 s1286 σ1288 H1287 x1298 nx1295 hr hi1299 hw => ?_) (fun s1301 σ1303 H1302 hr hw => ?_))
  · obtain ⟨j1289, j1290, j1291, rfl, S1294, P1292, T1293, _⟩ := hr
    obtain rfl : x1298 = (.int d1297) := hi1299
    refine gN (σ' := [some (.int x_p), some (.int x_n), some v_a, some (.int x_odd), some (.ref n18), some (.bl s1286), some (.int d1297), j1290, j1291]) rfl (tFor_j (wL (tLst_i (tCons_i (tC_i (tCons_i (tOp_i (tVar_i (v := (.int x_p)) rfl (tC_i (rAddU_i (tNil_i (new_i (Nat.le_of_ble_eq_true rfl) (fun q1414 H1415 n1416 s1417 e1418 => ?_)))))))))))))
    have r1419 : AllR pInt (dels H1287 ps) [(.int (1 : Int)), (.int (x_p + (200 : Int)))] ([(1 : Int), (x_p + (200 : Int))] : List Int) := (.cons rfl (.cons rfl .nil))
    have l1420 : ([(1 : Int), (x_p + (200 : Int))] : List Int).length ≤ LIM := (Nat.le_of_ble_eq_true rfl)
    have m1421 := nin_of n1416 P1292
    have z1422 := Same.free T1293 n1416
    have P1423 := dom_up s1417 P1292
    have T1424 := Same.trans T1293 s1417
    have P1425 := dom_new e1418 P1423
    have S1426 : Same (dels H1287 ps) (dels H1415 (q1414 :: ps)) := Sn ps s1417 n1416
    have h1427 : (pList pInt).rep (dels H1415 ps) (.ref q1414) ([(1 : Int), (x_p + (200 : Int))] : List Int) := oFrzG e1418 m1421 (ss_skip ss_refl) (AllR.mono S1426 r1419) l1420
    have P1428 := dom_ss (ss_skip ss_refl) P1425
    have S1429 : Same (dels H1415 (q1414 :: ps)) (dels H1415 ps) := Ss (ss_skip ss_refl)
    obtain ⟨a1430, us1431, hv1432, hS1433, hr1434, hl1435⟩ := (lFro (K := K) h1427)
    refine WL_v hv1432 (Same.seq Su hS1433) (forL (s0 := s1286) hw hr1434 (fun (s1436 : Bool) (σ1438 : L2.St) (H1437 : Hp) => ∃ (j1439 : Option V) (j1440 : Option V), σ1438 = [some (.int x_p), some (.int x_n), some v_a, some (.int x_odd), some (.ref n18), some (.bl s1436), some (.int d1297), j1439, j1440] ∧ Same (dels H1415 ps) (dels H1437 ps) ∧ (∀ x ∈ ps, H1437 x ≠ none) ∧ Same H H1437 ∧ True) ⟨_, _, rfl, (Same.refl _), P1428, T1424, trivial⟩ (fun s1436 σ1438 H1437 ⟨j1439, j1440, _, S1443, P1441, T1442, _⟩ => (Same.seq (Same.trans S1443 Su) hS1433)) (fun d1446 s1436 σ1438 H1437 x1447 nx1444 hr hi1448 hw => ?_) (fun s1450 σ1452 H1451 hr hw => ?_))
    · obtain ⟨j1439, j1440, rfl, S1443, P1441, T1442, _⟩ := hr
      obtain rfl : x1447 = (.int d1446) := hi1448
      refine gN (σ' := [some (.int x_p), some (.int x_n), some v_a, some (.int x_odd), some (.ref n18), some (.bl s1436), some (.int d1297), some (.int d1446), j1440]) rfl (tSeq_j (tAsg_j (tCallS_i (tCons_i (tC_i (tCons_i (tVar_i (v := (.ref n18)) rfl (tCons_i (tVar_i (v := (.int d1297)) rfl (tCons_i (tVar_i (v := (.int d1446)) rfl (tNil_i (?_)))))))))))))
      refine ⟨ps, (Str.ofString "tied"), r27, d1297, d1446, (.ref n18), rfl, P1441, ((pIns t.c_Table ["prime", "ends", "entries"] (rCons pInt (rCons pInt (rOne (pVt K pInt))))).mono (S155.trans (S158.trans (S184.trans (S335.trans (S338.trans (S364.trans (S730.trans (S733.trans (S763.trans (S1276.trans (S1279.trans (S1294.trans (S1426.trans (S1429.trans S1443)))))))))))))) h34), _, _, hw, fun r1458 hw H1459 q1461 us1462 s1460 n1463 e1464 r1465 l1466 => ?_, (fun er hc hw => errUp T1442 ss_refl (he er (absurd hc (List.not_mem_nil)) hw))⟩
      have m1467 := nin_of n1463 P1441
      have z1468 := Same.free T1442 n1463
      have P1469 := dom_up s1460 P1441
      have T1470 := Same.trans T1442 s1460
      have P1471 := dom_new e1464 P1469
      have S1472 : Same (dels H1437 ps) (dels H1459 (q1461 :: ps)) := Sn ps s1460 n1463
      have h1473 : (pList (pTup K (rCons pStr (rOne pInt)))).rep (dels H1459 ps) (.ref q1461) r1458 := oFrzG e1464 m1467 (ss_skip ss_refl) r1465 l1466
      have P1474 := dom_ss (ss_skip ss_refl) P1471
      have S1475 : Same (dels H1459 (q1461 :: ps)) (dels H1459 ps) := Ss (ss_skip ss_refl)
      refine gN (σ' := [some (.int x_p), some (.int x_n), some v_a, some (.int x_odd), some (.ref n18), some (.bl s1436), some (.int d1297), some (.int d1446), some (.ref q1461)]) rfl (tAsg_j (?_))
      refine joinV hw (fun d v H' => v = V.bl d ∧ Same H1459 H') (fun b1477 v H1478 hM hw => ?_) (fun hw hR => ?_)
      rotate_left 1
      · refine tAndV_i (tVar_i (v := (.bl s1436)) rfl (IsBl_i (?_)))
        refine Br_two hw (fun c1480 hw => ?_) (fun c1480 hw => ?_)
        · refine tCallS_i (tCons_i (tVar_i (v := (.ref q1461)) rfl (tCons_i (tC_i (tCons_i (tVar_i (v := (.int d1297)) rfl (tNil_i (?_))))))))
          refine ⟨ps, r1458, (Str.ofString "number"), d1297, (.ref q1461), rfl, P1474, h1473, _, _, hw, fun r1481 hw H1482 s1483 => ?_, (fun er hc hw => errUp T1470 ss_refl (he er (absurd hc (List.not_mem_nil)) hw))⟩
          have P1484 := dom_up s1483 P1474
          have T1485 := Same.trans T1470 s1483
          have sc1486 := Same.trans (Same.refl H1459) s1483
          have S1487 : Same (dels H1459 ps) (dels H1482 ps) := Sd ps s1483
          exact hR _ _ _ ⟨rfl, sc1486⟩ hw
        · exact hR _ _ _ ⟨rfl, (Same.refl H1459)⟩ hw
      obtain ⟨rfl, s1479⟩ := hM
      have P1488 := dom_up s1479 P1474
      have T1489 := Same.trans T1470 s1479
      have S1490 : Same (dels H1459 ps) (dels H1478 ps) := Sd ps s1479
      refine gN (σ' := [some (.int x_p), some (.int x_n), some v_a, some (.int x_odd), some (.ref n18), some (.bl b1477), some (.int d1297), some (.int d1446), some (.ref q1461)]) rfl (?_)
      exact nxS_i (s := (b1477)) ⟨_, _, rfl, (S1443.trans (S1472.trans (S1475.trans S1490))), P1488, T1489, trivial⟩ hw
    obtain ⟨j1453, j1454, rfl, S1457, P1455, T1456, _⟩ := hr
    exact nxS_i (s := (s1450)) ⟨_, _, _, rfl, (S1294.trans (S1426.trans (S1429.trans S1457))), P1455, T1456, trivial⟩ hw
  obtain ⟨j1304, j1305, j1306, rfl, S1309, P1307, T1308, _⟩ := hr
  refine tSeq_j (tFor_j (wL (tLst_i (tCons_i (tVar_i (v := (.int x_p)) rfl (tCons_i (tOp_i (tC_i (tC_i (rI0_i (tCons_i (tOp_i (tOp_i (tVar_i (v := (.int x_p)) rfl (tC_i (rAddU_i (tVar_i (v := (.int x_odd)) rfl (rAddU_i (tNil_i (new_i (Nat.le_of_ble_eq_true rfl) (fun q1673 H1674 n1675 s1676 e1677 => ?_)))))))))))))))))))))
  have r1678 : AllR pInt (dels H1302 ps) [(.int x_p), (.int ((0 : Int) - (1 : Int))), (.int ((x_p + (1 : Int)) + x_odd))] ([x_p, ((0 : Int) - (1 : Int)), ((x_p + (1 : Int)) + x_odd)] : List Int) := (.cons rfl (.cons rfl (.cons rfl .nil)))
  have l1679 : ([x_p, ((0 : Int) - (1 : Int)), ((x_p + (1 : Int)) + x_odd)] : List Int).length ≤ LIM := (Nat.le_of_ble_eq_true rfl)
  have m1680 := nin_of n1675 P1307
  have z1681 := Same.free T1308 n1675
  have P1682 := dom_up s1676 P1307
  have T1683 := Same.trans T1308 s1676
  have P1684 := dom_new e1677 P1682
  have S1685 : Same (dels H1302 ps) (dels H1674 (q1673 :: ps)) := Sn ps s1676 n1675
  have h1686 : (pList pInt).rep (dels H1674 ps) (.ref q1673) ([x_p, ((0 : Int) - (1 : Int)), ((x_p + (1 : Int)) + x_odd)] : List Int) := oFrzG e1677 m1680 (ss_skip ss_refl) (AllR.mono S1685 r1678) l1679
  have P1687 := dom_ss (ss_skip ss_refl) P1684
  have S1688 : Same (dels H1674 (q1673 :: ps)) (dels H1674 ps) := Ss (ss_skip ss_refl)
  obtain ⟨a1689, us1690, hv1691, hS1692, hr1693, hl1694⟩ := (lFro (K := K) h1686)
  refine WL_v hv1691 (Same.seq Su hS1692) (forL (s0 := s1301) hw hr1693 (fun (s1695 : Bool) (σ1697 : L2.St) (H1696 : Hp) => ∃ (j1698 : Option V) (j1699 : Option V), σ1697 = [some (.int x_p), some (.int x_n), some v_a, some (.int x_odd), some (.ref n18), some (.bl s1695), j1304, j1698, j1699] ∧ Same (dels H1674 ps) (dels H1696 ps) ∧ (∀ x ∈ ps, H1696 x ≠ none) ∧ Same H H1696 ∧ True) ⟨_, _, rfl, (Same.refl _), P1687, T1683, trivial⟩ (fun s1695 σ1697 H1696 ⟨j1698, j1699, _, S1702, P1700, T1701, _⟩ => (Same.seq (Same.trans S1702 Su) hS1692)) (fun d1705 s1695 σ1697 H1696 x1706 nx1703 hr hi1707 hw => ?_) (fun s1709 σ1711 H1710 hr hw => ?_))
  · obtain ⟨j1698, j1699, rfl, S1702, P1700, T1701, _⟩ := hr
    obtain rfl : x1706 = (.int d1705) := hi1707
    refine gN (σ' := [some (.int x_p), some (.int x_n), some v_a, some (.int x_odd), some (.ref n18), some (.bl s1695), j1304, some (.int d1705), j1699]) rfl (?_)
    refine cutW (S := Bool) hw (fun (s1751 : Bool) (σ1754 : L2.St) (H1753 : Hp) => ∃ (j1755 : Option V), σ1754 = [some (.int x_p), some (.int x_n), some v_a, some (.int x_odd), some (.ref n18), some (.bl s1751), j1304, some (.int d1705), j1755] ∧ Same (dels H1696 ps) (dels H1753 ps) ∧ (∀ x ∈ ps, H1753 x ≠ none) ∧ Same H H1753 ∧ True) (fun hw => ?_) (fun s1751 σ1754 H1753 hr hw => ?_)
    · refine tIfS_j (tTest_i (tOp_i (tVar_i (v := (.int x_n)) rfl (tC_i (rI0_i (IsBl_i (?_)))))))
      refine Br_two hw (fun c1760 hw => ?_) (fun c1760 hw => ?_)
      · refine tSeq_j (tAsg_j (tCallS_i (tCons_i (tC_i (tCons_i (tVar_i (v := (.ref n18)) rfl (tCons_i (tOp_i (tVar_i (v := (.int x_n)) rfl (tC_i (rI0_i (tCons_i (tVar_i (v := (.int d1705)) rfl (tNil_i (?_)))))))))))))))
        refine ⟨ps, (Str.ofString "weighted"), r27, (x_n - (1 : Int)), d1705, (.ref n18), rfl, P1700, ((pIns t.c_Table ["prime", "ends", "entries"] (rCons pInt (rCons pInt (rOne (pVt K pInt))))).mono (S155.trans (S158.trans (S184.trans (S335.trans (S338.trans (S364.trans (S730.trans (S733.trans (S763.trans (S1276.trans (S1279.trans (S1309.trans (S1685.trans (S1688.trans S1702)))))))))))))) h34), _, _, hw, fun r1761 hw H1762 q1764 us1765 s1763 n1766 e1767 r1768 l1769 => ?_, (fun er hc hw => errUp T1701 ss_refl (he er (absurd hc (List.not_mem_nil)) hw))⟩
        have m1770 := nin_of n1766 P1700
        have z1771 := Same.free T1701 n1766
        have P1772 := dom_up s1763 P1700
        have T1773 := Same.trans T1701 s1763
        have P1774 := dom_new e1767 P1772
        have S1775 : Same (dels H1696 ps) (dels H1762 (q1764 :: ps)) := Sn ps s1763 n1766
        have h1776 : (pList (pTup K (rCons pStr (rOne pInt)))).rep (dels H1762 ps) (.ref q1764) r1761 := oFrzG e1767 m1770 (ss_skip ss_refl) r1768 l1769
        have P1777 := dom_ss (ss_skip ss_refl) P1774
        have S1778 : Same (dels H1762 (q1764 :: ps)) (dels H1762 ps) := Ss (ss_skip ss_refl)
        refine gN (σ' := [some (.int x_p), some (.int x_n), some v_a, some (.int x_odd), some (.ref n18), some (.bl s1695), j1304, some (.int d1705), some (.ref q1764)]) rfl (tAsg_j (?_))
        refine joinV hw (fun d v H' => v = V.bl d ∧ Same H1762 H') (fun b1780 v H1781 hM hw => ?_) (fun hw hR => ?_)
        rotate_left 1
        · refine tAndV_i (tVar_i (v := (.bl s1695)) rfl (IsBl_i (?_)))
          refine Br_two hw (fun c1783 hw => ?_) (fun c1783 hw => ?_)
          · refine tCallS_i (tCons_i (tVar_i (v := (.ref q1764)) rfl (tCons_i (tC_i (tCons_i (tVar_i (v := (.int d1705)) rfl (tNil_i (?_))))))))
            refine ⟨ps, r1761, (Str.ofString "number"), d1705, (.ref q1764), rfl, P1777, h1776, _, _, hw, fun r1784 hw H1785 s1786 => ?_, (fun er hc hw => errUp T1773 ss_refl (he er (absurd hc (List.not_mem_nil)) hw))⟩
            have P1787 := dom_up s1786 P1777
            have T1788 := Same.trans T1773 s1786
            have sc1789 := Same.trans (Same.refl H1762) s1786
            have S1790 : Same (dels H1762 ps) (dels H1785 ps) := Sd ps s1786
            exact hR _ _ _ ⟨rfl, sc1789⟩ hw
          · exact hR _ _ _ ⟨rfl, (Same.refl H1762)⟩ hw
        obtain ⟨rfl, s1782⟩ := hM
        have P1791 := dom_up s1782 P1777
        have T1792 := Same.trans T1773 s1782
        have S1793 : Same (dels H1762 ps) (dels H1781 ps) := Sd ps s1782
        refine gN (σ' := [some (.int x_p), some (.int x_n), some v_a, some (.int x_odd), some (.ref n18), some (.bl b1780), j1304, some (.int d1705), some (.ref q1764)]) rfl (?_)
        exact ⟨b1780, ⟨_, rfl, (S1775.trans (S1778.trans S1793)), P1791, T1792, trivial⟩, hw⟩
      · refine tNext_j (?_)
        exact ⟨s1695, ⟨_, rfl, (Same.refl _), P1700, T1701, trivial⟩, hw⟩
    obtain ⟨j1755, rfl, S1758, P1756, T1757, _⟩ := hr
    refine tIfS_j (tTest_i (tOp_i (tVar_i (v := (.int x_n)) rfl (tC_i (rI0_i (IsBl_i (?_)))))))
    refine Br_two hw (fun c1794 hw => ?_) (fun c1794 hw => ?_)
    · refine tSeq_j (tAsg_j (tCallS_i (tCons_i (tC_i (tCons_i (tVar_i (v := (.ref n18)) rfl (tCons_i (tOp_i (tVar_i (v := (.int x_n)) rfl (tC_i (rI0_i (tCons_i (tVar_i (v := (.int d1705)) rfl (tNil_i (?_)))))))))))))))
      refine ⟨ps, (Str.ofString "tied"), r27, (x_n - (2 : Int)), d1705, (.ref n18), rfl, P1756, ((pIns t.c_Table ["prime", "ends", "entries"] (rCons pInt (rCons pInt (rOne (pVt K pInt))))).mono (S155.trans (S158.trans (S184.trans (S335.trans (S338.trans (S364.trans (S730.trans (S733.trans (S763.trans (S1276.trans (S1279.trans (S1309.trans (S1685.trans (S1688.trans (S1702.trans S1758))))))))))))))) h34), _, _, hw, fun r1795 hw H1796 q1798 us1799 s1797 n1800 e1801 r1802 l1803 => ?_, (fun er hc hw => errUp T1757 ss_refl (he er (absurd hc (List.not_mem_nil)) hw))⟩
      have m1804 := nin_of n1800 P1756
      have z1805 := Same.free T1757 n1800
      have P1806 := dom_up s1797 P1756
      have T1807 := Same.trans T1757 s1797
      have P1808 := dom_new e1801 P1806
      have S1809 : Same (dels H1753 ps) (dels H1796 (q1798 :: ps)) := Sn ps s1797 n1800
      have h1810 : (pList (pTup K (rCons pStr (rOne pInt)))).rep (dels H1796 ps) (.ref q1798) r1795 := oFrzG e1801 m1804 (ss_skip ss_refl) r1802 l1803
      have P1811 := dom_ss (ss_skip ss_refl) P1808
      have S1812 : Same (dels H1796 (q1798 :: ps)) (dels H1796 ps) := Ss (ss_skip ss_refl)
      refine gN (σ' := [some (.int x_p), some (.int x_n), some v_a, some (.int x_odd), some (.ref n18), some (.bl s1751), j1304, some (.int d1705), some (.ref q1798)]) rfl (tAsg_j (?_))
      refine joinV hw (fun d v H' => v = V.bl d ∧ Same H1796 H') (fun b1814 v H1815 hM hw => ?_) (fun hw hR => ?_)
      rotate_left 1
      · refine tAndV_i (tVar_i (v := (.bl s1751)) rfl (IsBl_i (?_)))
        refine Br_two hw (fun c1817 hw => ?_) (fun c1817 hw => ?_)
        · refine tCallS_i (tCons_i (tVar_i (v := (.ref q1798)) rfl (tCons_i (tC_i (tCons_i (tVar_i (v := (.int d1705)) rfl (tNil_i (?_))))))))
          refine ⟨ps, r1795, (Str.ofString "number"), d1705, (.ref q1798), rfl, P1811, h1810, _, _, hw, fun r1818 hw H1819 s1820 => ?_, (fun er hc hw => errUp T1807 ss_refl (he er (absurd hc (List.not_mem_nil)) hw))⟩
          have P1821 := dom_up s1820 P1811
          have T1822 := Same.trans T1807 s1820
          have sc1823 := Same.trans (Same.refl H1796) s1820
          have S1824 : Same (dels H1796 ps) (dels H1819 ps) := Sd ps s1820
          exact hR _ _ _ ⟨rfl, sc1823⟩ hw
        · exact hR _ _ _ ⟨rfl, (Same.refl H1796)⟩ hw
      obtain ⟨rfl, s1816⟩ := hM
      have P1825 := dom_up s1816 P1811
      have T1826 := Same.trans T1807 s1816
      have S1827 : Same (dels H1796 ps) (dels H1815 ps) := Sd ps s1816
      refine gN (σ' := [some (.int x_p), some (.int x_n), some v_a, some (.int x_odd), some (.ref n18), some (.bl b1814), j1304, some (.int d1705), some (.ref q1798)]) rfl (?_)
      exact nxS_i (s := (b1814)) ⟨_, _, rfl, (S1702.trans (S1758.trans (S1809.trans (S1812.trans S1827)))), P1825, T1826, trivial⟩ hw
    · refine tNext_j (?_)
      exact nxS_i (s := (s1751)) ⟨_, _, rfl, (S1702.trans S1758), P1756, T1757, trivial⟩ hw
  obtain ⟨j1712, j1713, rfl, S1716, P1714, T1715, _⟩ := hr
  refine tSeq_j (tFor_j (wL (tLst_i (tCons_i (tC_i (tCons_i (tOp_i (tC_i (tC_i (rI0_i (tCons_i (tOp_i (tC_i (tVar_i (v := (.int x_odd)) rfl (rAddU_i (tNil_i (new_i (Nat.le_of_ble_eq_true rfl) (fun q1933 H1934 n1935 s1936 e1937 => ?_))))))))))))))))))
  have r1938 : AllR pInt (dels H1710 ps) [(.int (2 : Int)), (.int ((0 : Int) - (1 : Int))), (.int ((3 : Int) + x_odd))] ([(2 : Int), ((0 : Int) - (1 : Int)), ((3 : Int) + x_odd)] : List Int) := (.cons rfl (.cons rfl (.cons rfl .nil)))
  have l1939 : ([(2 : Int), ((0 : Int) - (1 : Int)), ((3 : Int) + x_odd)] : List Int).length ≤ LIM := (Nat.le_of_ble_eq_true rfl)
  have m1940 := nin_of n1935 P1714
  have z1941 := Same.free T1715 n1935
  have P1942 := dom_up s1936 P1714
  have T1943 := Same.trans T1715 s1936
  have P1944 := dom_new e1937 P1942
  have S1945 : Same (dels H1710 ps) (dels H1934 (q1933 :: ps)) := Sn ps s1936 n1935
  have h1946 : (pList pInt).rep (dels H1934 ps) (.ref q1933) ([(2 : Int), ((0 : Int) - (1 : Int)), ((3 : Int) + x_odd)] : List Int) := oFrzG e1937 m1940 (ss_skip ss_refl) (AllR.mono S1945 r1938) l1939
  have P1947 := dom_ss (ss_skip ss_refl) P1944
  have S1948 : Same (dels H1934 (q1933 :: ps)) (dels H1934 ps) := Ss (ss_skip ss_refl)
  obtain ⟨a1949, us1950, hv1951, hS1952, hr1953, hl1954⟩ := (lFro (K := K) h1946)
  refine WL_v hv1951 (Same.seq Su hS1952) (forL (s0 := s1709) hw hr1953 (fun (s1955 : Bool) (σ1957 : L2.St) (H1956 : Hp) => ∃ (j1958 : Option V) (j1959 : Option V), σ1957 = [some (.int x_p), some (.int x_n), some v_a, some (.int x_odd), some (.ref n18), some (.bl s1955), j1304, j1958, j1959] ∧ Same (dels H1934 ps) (dels H1956 ps) ∧ (∀ x ∈ ps, H1956 x ≠ none) ∧ Same H H1956 ∧ True) ⟨_, _, rfl, (Same.refl _), P1947, T1943, trivial⟩ (fun s1955 σ1957 H1956 ⟨j1958, j1959, _, S1962, P1960, T1961, _⟩ => (Same.seq (Same.trans S1962 Su) hS1952)) (fun d1965 s1955 σ1957 H1956 x1966 nx1963 hr hi1967 hw => ?_) (fun s1969 σ1971 H1970 hr hw => ?_))
  · obtain ⟨j1958, j1959, rfl, S1962, P1960, T1961, _⟩ := hr
    obtain rfl : x1966 = (.int d1965) := hi1967
    refine gN (σ' := [some (.int x_p), some (.int x_n), some v_a, some (.int x_odd), some (.ref n18), some (.bl s1955), j1304, some (.int d1965), j1959]) rfl (tIfS_j (tTest_i (tOp_i (tVar_i (v := (.int x_n)) rfl (tC_i (rI0_i (IsBl_i (?_))))))))
    refine Br_two hw (fun c1977 hw => ?_) (fun c1977 hw => ?_)
    · refine tSeq_j (tAsg_j (tCallS_i (tCons_i (tC_i (tCons_i (tVar_i (v := (.ref n18)) rfl (tCons_i (tOp_i (tVar_i (v := (.int x_n)) rfl (tC_i (rI0_i (tCons_i (tVar_i (v := (.int d1965)) rfl (tNil_i (?_)))))))))))))))
      refine ⟨ps, (Str.ofString "fixed"), r27, (x_n - (1 : Int)), d1965, (.ref n18), rfl, P1960, ((pIns t.c_Table ["prime", "ends", "entries"] (rCons pInt (rCons pInt (rOne (pVt K pInt))))).mono (S155.trans (S158.trans (S184.trans (S335.trans (S338.trans (S364.trans (S730.trans (S733.trans (S763.trans (S1276.trans (S1279.trans (S1309.trans (S1685.trans (S1688.trans (S1716.trans (S1945.trans (S1948.trans S1962))))))))))))))))) h34), _, _, hw, fun r1978 hw H1979 q1981 us1982 s1980 n1983 e1984 r1985 l1986 => ?_, (fun er hc hw => errUp T1961 ss_refl (he er (absurd hc (List.not_mem_nil)) hw))⟩
      have m1987 := nin_of n1983 P1960
      have z1988 := Same.free T1961 n1983
      have P1989 := dom_up s1980 P1960
      have T1990 := Same.trans T1961 s1980
      have P1991 := dom_new e1984 P1989
      have S1992 : Same (dels H1956 ps) (dels H1979 (q1981 :: ps)) := Sn ps s1980 n1983
      have h1993 : (pList (pTup K (rCons pStr (rOne pInt)))).rep (dels H1979 ps) (.ref q1981) r1978 := oFrzG e1984 m1987 (ss_skip ss_refl) r1985 l1986
      have P1994 := dom_ss (ss_skip ss_refl) P1991
      have S1995 : Same (dels H1979 (q1981 :: ps)) (dels H1979 ps) := Ss (ss_skip ss_refl)
      refine gN (σ' := [some (.int x_p), some (.int x_n), some v_a, some (.int x_odd), some (.ref n18), some (.bl s1955), j1304, some (.int d1965), some (.ref q1981)]) rfl (tAsg_j (?_))
      refine joinV hw (fun d v H' => v = V.bl d ∧ Same H1979 H') (fun b1997 v H1998 hM hw => ?_) (fun hw hR => ?_)
      rotate_left 1
      · refine tAndV_i (tVar_i (v := (.bl s1955)) rfl (IsBl_i (?_)))
        refine Br_two hw (fun c2000 hw => ?_) (fun c2000 hw => ?_)
        · refine tCallS_i (tCons_i (tVar_i (v := (.ref q1981)) rfl (tCons_i (tC_i (tCons_i (tVar_i (v := (.int d1965)) rfl (tNil_i (?_))))))))
          refine ⟨ps, r1978, (Str.ofString "number"), d1965, (.ref q1981), rfl, P1994, h1993, _, _, hw, fun r2001 hw H2002 s2003 => ?_, (fun er hc hw => errUp T1990 ss_refl (he er (absurd hc (List.not_mem_nil)) hw))⟩
          have P2004 := dom_up s2003 P1994
          have T2005 := Same.trans T1990 s2003
          have sc2006 := Same.trans (Same.refl H1979) s2003
          have S2007 : Same (dels H1979 ps) (dels H2002 ps) := Sd ps s2003
          exact hR _ _ _ ⟨rfl, sc2006⟩ hw
        · exact hR _ _ _ ⟨rfl, (Same.refl H1979)⟩ hw
      obtain ⟨rfl, s1999⟩ := hM
      have P2008 := dom_up s1999 P1994
      have T2009 := Same.trans T1990 s1999
      have S2010 : Same (dels H1979 ps) (dels H1998 ps) := Sd ps s1999
      refine gN (σ' := [some (.int x_p), some (.int x_n), some v_a, some (.int x_odd), some (.ref n18), some (.bl b1997), j1304, some (.int d1965), some (.ref q1981)]) rfl (?_)
      exact nxS_i (s := (b1997)) ⟨_, _, rfl, (S1962.trans (S1992.trans (S1995.trans S2010))), P2008, T2009, trivial⟩ hw
    · refine tNext_j (?_)
      exact nxS_i (s := (s1955)) ⟨_, _, rfl, S1962, P1960, T1961, trivial⟩ hw
  obtain ⟨j1972, j1973, rfl, S1976, P1974, T1975, _⟩ := hr
  refine tRet_j (?_)
  refine joinV hw (fun d v H' => v = V.bl d ∧ Same H1970 H') (fun b2012 v H2013 hM hw => ?_) (fun hw hR => ?_)
  rotate_left 1
  · refine tAndV_i (tVar_i (v := (.bl s1969)) rfl (IsBl_i (?_)))
    refine Br_two hw (fun c2015 hw => ?_) (fun c2015 hw => ?_)
    · refine tCallS_i (tCons_i (tVar_i (v := (.ref n18)) rfl (tCons_i (tVar_i (v := (.int x_p)) rfl (tCons_i (tVar_i (v := (.int x_n)) rfl (tCons_i (tVar_i (v := v_a) rfl (tNil_i (?_))))))))))
      refine ⟨ps, r27, x_p, x_n, x_a, (.ref n18), v_a, rfl, P1974, ((pIns t.c_Table ["prime", "ends", "entries"] (rCons pInt (rCons pInt (rOne (pVt K pInt))))).mono (S155.trans (S158.trans (S184.trans (S335.trans (S338.trans (S364.trans (S730.trans (S733.trans (S763.trans (S1276.trans (S1279.trans (S1309.trans (S1685.trans (S1688.trans (S1716.trans (S1945.trans (S1948.trans S1976))))))))))))))))) h34), ((pList pInt).mono (S14.trans (S17.trans (S38.trans (S155.trans (S158.trans (S184.trans (S335.trans (S338.trans (S364.trans (S730.trans (S733.trans (S763.trans (S1276.trans (S1279.trans (S1309.trans (S1685.trans (S1688.trans (S1716.trans (S1945.trans (S1948.trans S1976)))))))))))))))))))) h_a), _, _, hw, fun r2016 hw H2017 s2018 => ?_, (fun er hc hw => errUp T1975 ss_refl (he er (absurd hc (List.not_mem_nil)) hw))⟩
      have P2019 := dom_up s2018 P1974
      have T2020 := Same.trans T1975 s2018
      have sc2021 := Same.trans (Same.refl H1970) s2018
      have S2022 : Same (dels H1970 ps) (dels H2017 ps) := Sd ps s2018
      exact hR _ _ _ ⟨rfl, sc2021⟩ hw
    · exact hR _ _ _ ⟨rfl, (Same.refl H1970)⟩ hw
  obtain ⟨rfl, s2014⟩ := hM
  have P2023 := dom_up s2014 P1974
  have T2024 := Same.trans T1975 s2014
  have S2025 : Same (dels H1970 ps) (dels H2013 ps) := Sd ps s2014
  exact hk _ hw _ T2024
def sp_law (K : PySem.W.Frag) (t : Tab) : Sp := fun vs H Q E => ∃ (ps : List Addr) (x_script : (List Int)) (v_script : V), vs = [v_script] ∧ (∀ x ∈ ps, H x ≠ none) ∧ (pFro K pInt).rep (dels H ps) v_script x_script ∧ ∃ (k : Bool → Prop) (e : PErr → Prop), w_law x_script k e ∧ (∀ r, k r → RetI V.bl H Q r) ∧ (∀ er, er.cls ∈ ([1, 2] : List Nat) → e er → ErrK ps t.cl H E er)
theorem len_law : ∀ vs H Q E, sp_law K t vs H Q E → vs.length = (["script"] : List Str).length := by
  rintro vs H Q E ⟨_, _, _, rfl, _⟩
  rfl
theorem ok_law (T : Txt K mg t) : FnOk P w K mg base (L2.CX P w) 12 t.a_law t.fd_law ["script"] (sp_law K t) := by
  have G_ulaw_draws := ok_ulaw_draws (P := P) (w := w) (base := base) T
  have G_ulaw_prime := ok_ulaw_prime (P := P) (w := w) (base := base) T
  have G_ulaw_next := ok_ulaw_next (P := P) (w := w) (base := base) T
  have G_ulaw_residue := ok_ulaw_residue (P := P) (w := w) (base := base) T
  have G_ulaw_right := ok_ulaw_right (P := P) (w := w) (base := base) T
  have G_ulaw_named := ok_ulaw_named (P := P) (w := w) (base := base) T
  have G_ulaw_refused := ok_ulaw_refused (P := P) (w := w) (base := base) T
  refine T.F_law.okX sc_law len_law (fun cdv A outer s H vs Q E hr h => ?_)
  have nd := sc_law.nd
  refine ⟨_, (pss_cons (ps_set (i := 1) nd rfl (Or.inr rfl) (pe_callS G_ulaw_draws (hr.mono (by decide)) (by rfl) T.g_ulaw_draws T.F_ulaw_draws.kp T.b_ulaw_draws (fun σ => passAt (takes_of rfl rfl rfl rfl) σ) (pa_cons (pv 0) (pa_cons (pe_int) pa_nil))))
    (pss_cons (ps_set (i := 2) nd rfl (Or.inr rfl) (pe_cell))
    (pss_cons (ps_set (i := 3) nd rfl (Or.inr rfl) (pe_callS G_ulaw_prime (hr.mono (by decide)) (by rfl) T.g_ulaw_prime T.F_ulaw_prime.kp T.b_ulaw_prime (fun σ => passAt (takes_of rfl rfl rfl rfl) σ) (pa_cons (pv 1) (pa_cons (pv 2) pa_nil))))
    (pss_cons (ps_set (i := 4) nd rfl (Or.inl rfl) (pe_callS G_ulaw_next (hr.mono (by decide)) (by rfl) T.g_ulaw_next T.F_ulaw_next.kp T.b_ulaw_next (fun σ => passAt (takes_of rfl rfl rfl rfl) σ) (pa_cons (pv 1) (pa_cons (pv 2) (pa_cons (pe_int) pa_nil)))))
    (pss_cons (ps_set (i := 5) nd rfl (Or.inl rfl) (pe_callS G_ulaw_next (hr.mono (by decide)) (by rfl) T.g_ulaw_next T.F_ulaw_next.kp T.b_ulaw_next (fun σ => passAt (takes_of rfl rfl rfl rfl) σ) (pa_cons (pv 1) (pa_cons (pv 2) (pa_cons (pe_op (op_addUK K) (pv 4) (pe_int)) pa_nil)))))
    (pss_cons (ps_set (i := 6) nd rfl (Or.inl rfl) (pe_callS G_ulaw_next (hr.mono (by decide)) (by rfl) T.g_ulaw_next T.F_ulaw_next.kp T.b_ulaw_next (fun σ => passAt (takes_of rfl rfl rfl rfl) σ) (pa_cons (pv 1) (pa_cons (pv 2) (pa_cons (pe_op op_shl (pe_int) (pv 4)) pa_nil)))))
    (pss_cons (ps_set (i := 7) nd rfl (Or.inl rfl) (pe_callS G_ulaw_next (hr.mono (by decide)) (by rfl) T.g_ulaw_next T.F_ulaw_next.kp T.b_ulaw_next (fun σ => passAt (takes_of rfl rfl rfl rfl) σ) (pa_cons (pv 1) (pa_cons (pv 2) (pa_cons (pe_callB (call_max2D rfl) (by rfl) T.n_max (by decide +kernel) (pa_cons (pe_int) (pa_cons (pv 4) pa_nil))) pa_nil)))))
    (pss_cons (ps_set (i := 8) nd rfl (Or.inl rfl) (pe_callS G_ulaw_next (hr.mono (by decide)) (by rfl) T.g_ulaw_next T.F_ulaw_next.kp T.b_ulaw_next (fun σ => passAt (takes_of rfl rfl rfl rfl) σ) (pa_cons (pv 1) (pa_cons (pv 2) (pa_cons (pe_callB (call_max2D rfl) (by rfl) T.n_max (by decide +kernel) (pa_cons (pe_int) (pa_cons (pe_op op_sub (pv 4) (pe_int)) pa_nil))) pa_nil)))))
    (pss_cons (ps_set (i := 9) nd rfl (Or.inl rfl) (pe_callS G_ulaw_residue (hr.mono (by decide)) (by rfl) T.g_ulaw_residue T.F_ulaw_residue.kp T.b_ulaw_residue (fun σ => passAt (takes_of rfl rfl rfl rfl) σ) (pa_cons (pv 1) (pa_cons (pv 2) (pa_cons (pv 3) pa_nil)))))
    (pss_cons (ps_set (i := 10) nd rfl (Or.inl rfl) (pe_callS G_ulaw_next (hr.mono (by decide)) (by rfl) T.g_ulaw_next T.F_ulaw_next.kp T.b_ulaw_next (fun σ => passAt (takes_of rfl rfl rfl rfl) σ) (pa_cons (pv 1) (pa_cons (pv 2) (pa_cons (pe_int) pa_nil)))))
    (pss_cons (ps_setLc (i := 11) (own := [("k", 20)]) (g := gName 20) (tt := tYes) rfl nd rfl rfl (sw_true rfl rfl rfl (by decide +kernel)) (pi_range1 (by rfl) T.n_range (pa_cons (pe_op op_shl (pe_int) (pv 4)) pa_nil)) (blkOk_by (N := ["script", "dr", "at", "p", "n", "spin", "side", "spot", "low", "worth", "odd", "a", "spins", "spots", "lows", "tasks", "x", "way", "one", "two", "k", "y"]) (sc := defScope s_law) (by decide +kernel)) (fun _ _ _ _ _ => (pg_name (i := 20) nd rfl (Or.inl rfl))) (fun _ _ _ _ _ => pts_nil) (fun _ _ _ _ _ => (pe_call G_ulaw_residue (hr.mono (by decide)) (by rfl) T.g_ulaw_residue T.F_ulaw_residue.kp T.b_ulaw_residue .nil passL (pa_cons (pv 1) (pa_cons (pv 2) (pa_cons (pv 3) pa_nil))))))
    (pss_cons (ps_set (i := 12) nd rfl (Or.inl rfl) (pe_listRg rfl (by rfl) T.n_list (prg_1 (by rfl) T.n_range (pe_op (op_addUK K) (pv 4) (pe_int)))))
    (pss_cons (ps_set (i := 13) nd rfl (Or.inl rfl) (pe_listRg rfl (by rfl) T.n_list (prg_1 (by rfl) T.n_range (pv 4))))
    (pss_cons (ps_set (i := 14) nd rfl (Or.inl rfl) (pe_listRg rfl (by rfl) T.n_list (prg_1 (by rfl) T.n_range (pe_callB (call_max2D rfl) (by rfl) T.n_max (by decide +kernel) (pa_cons (pe_op op_sub (pv 4) (pe_int)) (pa_cons (pe_int) pa_nil))))))
    (pss_cut (ps_if (pt_cmpR op_gt (pv 4) (pe_int) (by first | exact nomark _ | rfl)) (pss_cons (ps_set (i := 12) nd rfl (Or.inl rfl) (pe_lst (pa_cons (pe_int) (pa_cons (pv 4) (pa_cons (pv 5) pa_nil)))))
    (pss_cons (ps_set (i := 13) nd rfl (Or.inl rfl) (pe_lst (pa_cons (pv 7) (pa_cons (pe_op op_sub (pv 4) (pe_int)) pa_nil))))
    (pss_one (ps_set (i := 14) nd rfl (Or.inl rfl) (pe_lst (pa_cons (pv 8) (pa_cons (pe_op op_sub (pv 4) (pe_int)) pa_nil))))))) pss_nil)
    (pss_cons (ps_set (i := 15) nd rfl (Or.inl rfl) (pe_op (op_addUK K) (pe_lst (pa_cons (pe_tup (pa_cons (pe_str) (pa_cons (pe_int) (pa_cons (pe_int) pa_nil)))) pa_nil)) (pe_lc (own := [("x", 16)]) (g := gName 16) (tt := tYes) rfl nd (pi_UK K (pv 12)) (blkOk_by (N := ["script", "dr", "at", "p", "n", "spin", "side", "spot", "low", "worth", "odd", "a", "spins", "spots", "lows", "tasks", "x", "way", "one", "two", "k", "y"]) (sc := defScope s_law) (by decide +kernel)) (fun _ _ _ _ _ => (pg_name (i := 16) nd rfl (Or.inl rfl))) (fun _ _ _ _ _ => pts_nil) (fun _ _ _ _ _ => (pe_tup (pa_cons (pe_str) (pa_cons (pv 16) (pa_cons (pe_int) pa_nil))))))))
    (pss_cons (ps_set (i := 15) nd rfl (Or.inl rfl) (pe_op (op_addUK K) (pv 15) (pe_lc (own := [("x", 16)]) (g := gName 16) (tt := tYes) rfl nd (pi_UK K (pe_lst (pa_cons (pe_int) (pa_cons (pe_op op_sub (pe_op op_shl (pe_int) (pv 4)) (pe_int)) (pa_cons (pv 6) pa_nil))))) (blkOk_by (N := ["script", "dr", "at", "p", "n", "spin", "side", "spot", "low", "worth", "odd", "a", "spins", "spots", "lows", "tasks", "x", "way", "one", "two", "k", "y"]) (sc := defScope s_law) (by decide +kernel)) (fun _ _ _ _ _ => (pg_name (i := 16) nd rfl (Or.inl rfl))) (fun _ _ _ _ _ => pts_nil) (fun _ _ _ _ _ => (pe_tup (pa_cons (pe_str) (pa_cons (pv 16) (pa_cons (pe_int) pa_nil))))))))
    (pss_cons (ps_for (passes_of rfl) rfl (pi_UK K (pv 13)) (pg_name (i := 16) nd rfl (Or.inr rfl))
    (pss_cons (ps_set (i := 15) nd rfl (Or.inl rfl) (pe_op (op_addUK K) (pv 15) (pe_lc (own := [("y", 21)]) (g := gName 21) (tt := tYes) rfl nd (pi_UK K (pe_lst (pa_cons (pv 9) (pa_cons (pe_int) pa_nil)))) (blkOk_by (N := ["script", "dr", "at", "p", "n", "spin", "side", "spot", "low", "worth", "odd", "a", "spins", "spots", "lows", "tasks", "x", "way", "one", "two", "k", "y"]) (sc := defScope s_law) (by decide +kernel)) (fun _ _ _ _ _ => (pg_name (i := 21) nd rfl (Or.inl rfl))) (fun _ _ _ _ _ => pts_nil) (fun _ _ _ _ _ => (pe_tup (pa_cons (pe_str) (pa_cons (pv 16) (pa_cons (pv 21) pa_nil))))))))
    (pss_one (ps_set (i := 15) nd rfl (Or.inl rfl) (pe_op (op_addUK K) (pv 15) (pe_lc (own := [("y", 21)]) (g := gName 21) (tt := tYes) rfl nd (pi_UK K (pe_lst (pa_cons (pe_int) (pa_cons (pe_int) pa_nil)))) (blkOk_by (N := ["script", "dr", "at", "p", "n", "spin", "side", "spot", "low", "worth", "odd", "a", "spins", "spots", "lows", "tasks", "x", "way", "one", "two", "k", "y"]) (sc := defScope s_law) (by decide +kernel)) (fun _ _ _ _ _ => (pg_name (i := 21) nd rfl (Or.inl rfl))) (fun _ _ _ _ _ => pts_nil) (fun _ _ _ _ _ => (pe_tup (pa_cons (pe_str) (pa_cons (pv 16) (pa_cons (pv 21) pa_nil)))))))))))
    (pss_cons (ps_for (passes_of rfl) rfl (pi_UK K (pv 14)) (pg_name (i := 16) nd rfl (Or.inr rfl))
    (pss_one (ps_set (i := 15) nd rfl (Or.inl rfl) (pe_op (op_addUK K) (pv 15) (pe_lc (own := [("y", 21)]) (g := gName 21) (tt := tYes) rfl nd (pi_UK K (pe_lst (pa_cons (pv 9) (pa_cons (pe_int) (pa_cons (pe_op op_sub (pv 3) (pe_int)) pa_nil))))) (blkOk_by (N := ["script", "dr", "at", "p", "n", "spin", "side", "spot", "low", "worth", "odd", "a", "spins", "spots", "lows", "tasks", "x", "way", "one", "two", "k", "y"]) (sc := defScope s_law) (by decide +kernel)) (fun _ _ _ _ _ => (pg_name (i := 21) nd rfl (Or.inl rfl))) (fun _ _ _ _ _ => pts_nil) (fun _ _ _ _ _ => (pe_tup (pa_cons (pe_str) (pa_cons (pv 16) (pa_cons (pv 21) pa_nil))))))))))
    (pss_cons (ps_for (passes_of rfl) rfl (pi_UK K (pv 15)) (pg_tupK K 3 rfl (pgs_cons (pg_name (i := 17) nd rfl (Or.inl rfl)) (pgs_cons (pg_name (i := 18) nd rfl (Or.inl rfl)) (pgs_cons (pg_name (i := 19) nd rfl (Or.inl rfl)) pgs_nil))))
    (pss_one (ps_if (pt_not (pt_truthK K (pe_callS G_ulaw_right (hr.mono (by decide)) (by rfl) T.g_ulaw_right T.F_ulaw_right.kp T.b_ulaw_right (fun σ => passAt (takes_of rfl rfl rfl rfl) σ) (pa_cons (pv 17) (pa_cons (pv 3) (pa_cons (pv 4) (pa_cons (pv 11) (pa_cons (pv 18) (pa_cons (pv 19) pa_nil))))))))) (pss_one (ps_ret (pe_bl))) pss_nil)))
    (pss_cons (ps_if (pt_not (pt_truthK K (pe_callS G_ulaw_named (hr.mono (by decide)) (by rfl) T.g_ulaw_named T.F_ulaw_named.kp T.b_ulaw_named (fun σ => passAt (takes_of rfl rfl rfl rfl) σ) (pa_cons (pv 3) (pa_cons (pv 4) (pa_cons (pv 11) (pa_cons (pv 5) (pa_cons (pv 6) (pa_cons (pv 7) (pa_cons (pv 9) pa_nil)))))))))) (pss_one (ps_ret (pe_bl))) pss_nil)
    (pss_one (ps_ret (pe_callS G_ulaw_refused (hr.mono (by decide)) (by rfl) T.g_ulaw_refused T.F_ulaw_refused.kp T.b_ulaw_refused (fun σ => passAt (takes_of rfl rfl rfl rfl) σ) (pa_cons (pv 3) (pa_cons (pv 4) (pa_cons (pv 11) (pa_cons (pv 10) pa_nil)))))))))))))))))))))))))))), ?_⟩
  obtain ⟨ps, x_script, v_script, rfl, P0, h_script, k, e, hw, hk, he⟩ := h
  unfold w_law at hw
  refine tSeq_j (tAsg_j (tCallS_i (tCons_i (tVar_i (v := v_script) rfl (tCons_i (tC_i (tNil_i (?_))))))))
  refine ⟨ps, x_script, (160 : Int), v_script, rfl, P0, h_script, _, _, hw, fun r1 hw H2 v4 s3 h5 => ?_, (fun er hc hw => errUp (Same.refl H) ss_refl (he er (absurd hc (List.not_mem_nil)) hw))⟩
  have P6 := dom_up s3 P0
  have T7 := Same.trans (Same.refl H) s3
  have S8 : Same (dels H ps) (dels H2 ps) := Sd ps s3
  refine gN (σ' := [some v_script, some v4, none, none, none, none, none, none, none, none, none, none, none, none, none, none, none, none, none, none, none, none]) rfl (tSeq_j (tAsg_j (tCell_i (fun p9 H10 n11 s12 e13 => ?_))))
  have P15 := dom_up s12 P6
  have T16 := Same.trans T7 s12
  have S17 : Same (dels H2 ps) (dels H10 ps) := Sd ps s12
  have h14 : pCell.rep (dels H10 ps) (.ref p9) () := ⟨_, rfl, dels_at e13 (nin_of n11 P6)⟩
  refine gN (σ' := [some v_script, some v4, some (.ref p9), none, none, none, none, none, none, none, none, none, none, none, none, none, none, none, none, none, none, none]) rfl (tSeq_j (tAsg_j (tCallS_i (tCons_i (tVar_i (v := v4) rfl (tCons_i (tVar_i (v := (.ref p9)) rfl (tNil_i (?_)))))))))
  refine ⟨ps, r1, (), v4, (.ref p9), rfl, P15, ((pDraw K).mono S17 h5), h14, _, _, hw, fun r18 hw H19 s20 => ?_, (fun er hc hw => errUp T16 ss_refl (he er (absurd hc (List.not_mem_nil)) hw))⟩
  have P21 := dom_up s20 P15
  have T22 := Same.trans T16 s20
  have S23 : Same (dels H10 ps) (dels H19 ps) := Sd ps s20
  refine gN (σ' := [some v_script, some v4, some (.ref p9), some (.int r18), none, none, none, none, none, none, none, none, none, none, none, none, none, none, none, none, none, none]) rfl (tSeq_j (tAsg_j (tCallS_i (tCons_i (tVar_i (v := v4) rfl (tCons_i (tVar_i (v := (.ref p9)) rfl (tCons_i (tC_i (tNil_i (?_)))))))))))
  refine ⟨ps, r1, (), (7 : Int), v4, (.ref p9), rfl, P21, ((pDraw K).mono (S17.trans S23) h5), (pCell.mono S23 h14), _, _, hw, fun r24 hw H25 s26 => ?_, (fun er hc hw => errUp T22 ss_refl (he er (absurd hc (List.not_mem_nil)) hw))⟩
  have P27 := dom_up s26 P21
  have T28 := Same.trans T22 s26
  have S29 : Same (dels H19 ps) (dels H25 ps) := Sd ps s26
  refine gN (σ' := [some v_script, some v4, some (.ref p9), some (.int r18), some (.int r24), none, none, none, none, none, none, none, none, none, none, none, none, none, none, none, none, none]) rfl (tSeq_j (tAsg_j (tCallS_i (tCons_i (tVar_i (v := v4) rfl (tCons_i (tVar_i (v := (.ref p9)) rfl (tCons_i (tOp_i (tVar_i (v := (.int r24)) rfl (tC_i (rAddU_i (tNil_i (?_))))))))))))))
  refine ⟨ps, r1, (), (r24 + (1 : Int)), v4, (.ref p9), rfl, P27, ((pDraw K).mono (S17.trans (S23.trans S29)) h5), (pCell.mono (S23.trans S29) h14), _, _, hw, fun r30 hw H31 s32 => ?_, (fun er hc hw => errUp T28 ss_refl (he er (absurd hc (List.not_mem_nil)) hw))⟩
  have P33 := dom_up s32 P27
  have T34 := Same.trans T28 s32
  have S35 : Same (dels H25 ps) (dels H31 ps) := Sd ps s32
  refine gN (σ' := [some v_script, some v4, some (.ref p9), some (.int r18), some (.int r24), some (.int r30), none, none, none, none, none, none, none, none, none, none, none, none, none, none, none, none]) rfl (tSeq_j (tAsg_j (tCallS_i (tCons_i (tVar_i (v := v4) rfl (tCons_i (tVar_i (v := (.ref p9)) rfl (tCons_i (tOp_i (tC_i (tVar_i (v := (.int r24)) rfl (rI_i hw.1 (tNil_i (?_))))))))))))))
  refine ⟨ps, r1, (), ((1 : Int) * 2 ^ Int.toNat r24), v4, (.ref p9), rfl, P33, ((pDraw K).mono (S17.trans (S23.trans (S29.trans S35))) h5), (pCell.mono (S23.trans (S29.trans S35)) h14), _, _, hw.2, fun r36 hw H37 s38 => ?_, (fun er hc hw => errUp T34 ss_refl (he er (absurd hc (List.not_mem_nil)) hw))⟩
  have P39 := dom_up s38 P33
  have T40 := Same.trans T34 s38
  have S41 : Same (dels H31 ps) (dels H37 ps) := Sd ps s38
  refine gN (σ' := [some v_script, some v4, some (.ref p9), some (.int r18), some (.int r24), some (.int r30), some (.int r36), none, none, none, none, none, none, none, none, none, none, none, none, none, none, none]) rfl (tSeq_j (tAsg_j (tCallS_i (tCons_i (tVar_i (v := v4) rfl (tCons_i (tVar_i (v := (.ref p9)) rfl (tCons_i (tCB_i (tCons_i (tC_i (tCons_i (tVar_i (v := (.int r24)) rfl (tNil_i (rMax2_i (tNil_i (?_)))))))))))))))))
  refine ⟨ps, r1, (), (maxI (1 : Int) r24), v4, (.ref p9), rfl, P39, ((pDraw K).mono (S17.trans (S23.trans (S29.trans (S35.trans S41)))) h5), (pCell.mono (S23.trans (S29.trans (S35.trans S41))) h14), _, _, hw, fun r42 hw H43 s44 => ?_, (fun er hc hw => errUp T40 ss_refl (he er (absurd hc (List.not_mem_nil)) hw))⟩
  have P45 := dom_up s44 P39
  have T46 := Same.trans T40 s44
  have S47 : Same (dels H37 ps) (dels H43 ps) := Sd ps s44
  refine gN (σ' := [some v_script, some v4, some (.ref p9), some (.int r18), some (.int r24), some (.int r30), some (.int r36), some (.int r42), none, none, none, none, none, none, none, none, none, none, none, none, none, none]) rfl (tSeq_j (tAsg_j (tCallS_i (tCons_i (tVar_i (v := v4) rfl (tCons_i (tVar_i (v := (.ref p9)) rfl (tCons_i (tCB_i (tCons_i (tC_i (tCons_i (tOp_i (tVar_i (v := (.int r24)) rfl (tC_i (rI0_i (tNil_i (rMax2_i (tNil_i (?_))))))))))))))))))))
  refine ⟨ps, r1, (), (maxI (1 : Int) (r24 - (1 : Int))), v4, (.ref p9), rfl, P45, ((pDraw K).mono (S17.trans (S23.trans (S29.trans (S35.trans (S41.trans S47))))) h5), (pCell.mono (S23.trans (S29.trans (S35.trans (S41.trans S47)))) h14), _, _, hw, fun r48 hw H49 s50 => ?_, (fun er hc hw => errUp T46 ss_refl (he er (absurd hc (List.not_mem_nil)) hw))⟩
  have P51 := dom_up s50 P45
  have T52 := Same.trans T46 s50
  have S53 : Same (dels H43 ps) (dels H49 ps) := Sd ps s50
  refine gN (σ' := [some v_script, some v4, some (.ref p9), some (.int r18), some (.int r24), some (.int r30), some (.int r36), some (.int r42), some (.int r48), none, none, none, none, none, none, none, none, none, none, none, none, none]) rfl (tSeq_j (tAsg_j (tCallS_i (tCons_i (tVar_i (v := v4) rfl (tCons_i (tVar_i (v := (.ref p9)) rfl (tCons_i (tVar_i (v := (.int r18)) rfl (tNil_i (?_)))))))))))
  refine ⟨ps, r1, (), r18, v4, (.ref p9), rfl, P51, ((pDraw K).mono (S17.trans (S23.trans (S29.trans (S35.trans (S41.trans (S47.trans S53)))))) h5), (pCell.mono (S23.trans (S29.trans (S35.trans (S41.trans (S47.trans S53))))) h14), _, _, hw, fun r54 hw H55 s56 => ?_, (fun er hc hw => errUp T52 ss_refl (he er (absurd hc (List.not_mem_nil)) hw))⟩
  have P57 := dom_up s56 P51
  have T58 := Same.trans T52 s56
  have S59 : Same (dels H49 ps) (dels H55 ps) := Sd ps s56
  refine gN (σ' := [some v_script, some v4, some (.ref p9), some (.int r18), some (.int r24), some (.int r30), some (.int r36), some (.int r42), some (.int r48), some (.int r54), none, none, none, none, none, none, none, none, none, none, none, none]) rfl (tSeq_j (tAsg_j (tCallS_i (tCons_i (tVar_i (v := v4) rfl (tCons_i (tVar_i (v := (.ref p9)) rfl (tCons_i (tC_i (tNil_i (?_)))))))))))
  refine ⟨ps, r1, (), (90 : Int), v4, (.ref p9), rfl, P57, ((pDraw K).mono (S17.trans (S23.trans (S29.trans (S35.trans (S41.trans (S47.trans (S53.trans S59))))))) h5), (pCell.mono (S23.trans (S29.trans (S35.trans (S41.trans (S47.trans (S53.trans S59)))))) h14), _, _, hw, fun r60 hw H61 s62 => ?_, (fun er hc hw => errUp T58 ss_refl (he er (absurd hc (List.not_mem_nil)) hw))⟩
  have P63 := dom_up s62 P57
  have T64 := Same.trans T58 s62
  have S65 : Same (dels H55 ps) (dels H61 ps) := Sd ps s62
  refine gN (σ' := [some v_script, some v4, some (.ref p9), some (.int r18), some (.int r24), some (.int r30), some (.int r36), some (.int r42), some (.int r48), some (.int r54), some (.int r60), none, none, none, none, none, none, none, none, none, none, none]) rfl (tSeq_j (tAsg_j (tLc_i (w1 (tCons_i (tOp_i (tC_i (tVar_i (v := (.int r24)) rfl (rI_i hw.1 (tNil_i (rgW1 hw.2.1 (?_))))))))))))
  refine lcR0 (pb := pInt) (ps := ps) hw.2.2.2 hw.2.2.1 P63 (fun q66 d67 H69 n71 s72 ⟨acc73, e74⟩ nx76 hw Y77 N78 hY79 hN80 => ?_) (fun q109 H110 acc111 zs112 n113 s114 e115 r116 l117 hw => ?_)
  · have m95 := nin_of n71 P63
    have z96 := Same.free T64 n71
    have P97 := dom_up s72 P63
    have T98 := Same.trans T64 s72
    have P99 := dom_new e74 P97
    have S100 : Same (dels H61 ps) (dels H69 (q66 :: ps)) := Sn ps s72 n71
    refine gN (σ' := [some v_script, some v4, some (.ref p9), some (.int r18), some (.int r24), some (.int r30), some (.int r36), some (.int r42), some (.int r48), some (.int r54), some (.int r60), none, none, none, none, none, none, none, none, none, some (.int d67), none]) rfl (wipe_i rfl (tYes_i (Br_t (tCall_i (tCons_i (tVar_i (v := v4) rfl (tCons_i (tVar_i (v := (.ref p9)) rfl (tCons_i (tVar_i (v := (.int r18)) rfl (tNil_i (?_))))))))))))
    refine ⟨(q66 :: ps), r1, (), r18, v4, (.ref p9), rfl, P99, ((pDraw K).mono (S17.trans (S23.trans (S29.trans (S35.trans (S41.trans (S47.trans (S53.trans (S59.trans (S65.trans S100))))))))) h5), (pCell.mono (S23.trans (S29.trans (S35.trans (S41.trans (S47.trans (S53.trans (S59.trans (S65.trans S100)))))))) h14), _, _, hw, fun r101 hw H102 s103 => ?_, (fun er _ hw => False.elim hw)⟩
    have P104 := dom_up s103 P99
    have T105 := Same.trans T98 s103
    have sc106 := Same.trans (Same.refl H69) s103
    have e107 := s103 _ _ e74
    have S108 : Same (dels H69 (q66 :: ps)) (dels H102 (q66 :: ps)) := Sd (q66 :: ps) s103
    exact hY79 r101 _ _ sc106 rfl hw
  have m118 := nin_of n113 P63
  have z119 := Same.free T64 n113
  have P120 := dom_up s114 P63
  have T121 := Same.trans T64 s114
  have P122 := dom_new e115 P120
  have S123 : Same (dels H61 ps) (dels H110 (q109 :: ps)) := Sn ps s114 n113
  have h124 : (pList pInt).rep (dels H110 ps) (.ref q109) zs112 := oFrzG e115 m118 (ss_skip ss_refl) r116 l117
  have P125 := dom_ss (ss_skip ss_refl) P122
  have S126 : Same (dels H110 (q109 :: ps)) (dels H110 ps) := Ss (ss_skip ss_refl)
  refine gN (σ' := [some v_script, some v4, some (.ref p9), some (.int r18), some (.int r24), some (.int r30), some (.int r36), some (.int r42), some (.int r48), some (.int r54), some (.int r60), some (.ref q109), none, none, none, none, none, none, none, none, none, none]) rfl (tSeq_j (tAsg_j (tLstRg1_i (tOp_i (tVar_i (v := (.int r24)) rfl (tC_i (rAddU_i (rgS' (W := (dels H110 ps)) hw.1 (fun q127 H128 n129 s130 us131 e132 r133 l134 => ?_)))))))))
  have m135 := nin_of n129 P125
  have z136 := Same.free T121 n129
  have P137 := dom_up s130 P125
  have T138 := Same.trans T121 s130
  have P139 := dom_new e132 P137
  have S140 : Same (dels H110 ps) (dels H128 (q127 :: ps)) := Sn ps s130 n129
  have h141 : (pList pInt).rep (dels H128 ps) (.ref q127) (rangeL (0 : Int) (r24 + (1 : Int))) := oFrzG e132 m135 (ss_skip ss_refl) (AllR.mono S140 r133) l134
  have P142 := dom_ss (ss_skip ss_refl) P139
  have S143 : Same (dels H128 (q127 :: ps)) (dels H128 ps) := Ss (ss_skip ss_refl)
  refine asgRL (p := (pList pInt)) (e := (rangeL (0 : Int) (r24 + (1 : Int)))) (σ' := [some v_script, some v4, some (.ref p9), some (.int r18), some (.int r24), some (.int r30), some (.int r36), some (.int r42), some (.int r48), some (.int r54), some (.int r60), some (.ref q109), some (.ref q127), none, none, none, none, none, none, none, none, none]) hw.2 h141 rfl (fun y144 h145 hw => ?_)
  refine tSeq_j (tAsg_j (tLstRg1_i (tVar_i (v := (.int r24)) rfl (rgS' (W := (dels H128 ps)) hw.1 (fun q146 H147 n148 s149 us150 e151 r152 l153 => ?_)))))
  have m154 := nin_of n148 P142
  have z155 := Same.free T138 n148
  have P156 := dom_up s149 P142
  have T157 := Same.trans T138 s149
  have P158 := dom_new e151 P156
  have S159 : Same (dels H128 ps) (dels H147 (q146 :: ps)) := Sn ps s149 n148
  have h160 : (pList pInt).rep (dels H147 ps) (.ref q146) (rangeL (0 : Int) r24) := oFrzG e151 m154 (ss_skip ss_refl) (AllR.mono S159 r152) l153
  have P161 := dom_ss (ss_skip ss_refl) P158
  have S162 : Same (dels H147 (q146 :: ps)) (dels H147 ps) := Ss (ss_skip ss_refl)
  refine asgRL (p := (pList pInt)) (e := (rangeL (0 : Int) r24)) (σ' := [some v_script, some v4, some (.ref p9), some (.int r18), some (.int r24), some (.int r30), some (.int r36), some (.int r42), some (.int r48), some (.int r54), some (.int r60), some (.ref q109), some (.ref q127), some (.ref q146), none, none, none, none, none, none, none, none]) hw.2 h160 rfl (fun y163 h164 hw => ?_)
  refine tSeq_j (tAsg_j (tLstRg1_i (tCB_i (tCons_i (tOp_i (tVar_i (v := (.int r24)) rfl (tC_i (rI0_i (tCons_i (tC_i (tNil_i (rMax2_i (rgS' (W := (dels H147 ps)) hw.1 (fun q165 H166 n167 s168 us169 e170 r171 l172 => ?_))))))))))))))
  have m173 := nin_of n167 P161
  have z174 := Same.free T157 n167
  have P175 := dom_up s168 P161
  have T176 := Same.trans T157 s168
  have P177 := dom_new e170 P175
  have S178 : Same (dels H147 ps) (dels H166 (q165 :: ps)) := Sn ps s168 n167
  have h179 : (pList pInt).rep (dels H166 ps) (.ref q165) (rangeL (0 : Int) (maxI (r24 - (1 : Int)) (0 : Int))) := oFrzG e170 m173 (ss_skip ss_refl) (AllR.mono S178 r171) l172
  have P180 := dom_ss (ss_skip ss_refl) P177
  have S181 : Same (dels H166 (q165 :: ps)) (dels H166 ps) := Ss (ss_skip ss_refl)
  refine asgRL (p := (pList pInt)) (e := (rangeL (0 : Int) (maxI (r24 - (1 : Int)) (0 : Int)))) (σ' := [some v_script, some v4, some (.ref p9), some (.int r18), some (.int r24), some (.int r30), some (.int r36), some (.int r42), some (.int r48), some (.int r54), some (.int r60), some (.ref q109), some (.ref q127), some (.ref q146), some (.ref q165), none, none, none, none, none, none, none]) hw.2 h179 rfl (fun y182 h183 hw => ?_)
  refine cutW (S := (List Int) × (List Int) × (List Int)) hw (fun (s239 : (List Int) × (List Int) × (List Int)) (σ242 : L2.St) (H241 : Hp) => ∃ (v246 : V) (v248 : V) (v250 : V), σ242 = [some v_script, some v4, some (.ref p9), some (.int r18), some (.int r24), some (.int r30), some (.int r36), some (.int r42), some (.int r48), some (.int r54), some (.int r60), some (.ref q109), some v246, some v248, some v250, none, none, none, none, none, none, none] ∧ Same (dels H166 ps) (dels H241 ps) ∧ (∀ x ∈ ps, H241 x ≠ none) ∧ Same H H241 ∧ (pList pInt).rep (dels H241 ps) v246 s239.1 ∧ (pList pInt).rep (dels H241 ps) v248 s239.2.1 ∧ (pList pInt).rep (dels H241 ps) v250 s239.2.2 ∧ True) (fun hw => ?_) (fun s239 σ242 H241 hr hw => ?_)
  · refine tIfS_j (tTest_i (tOp_i (tVar_i (v := (.int r24)) rfl (tC_i (rI0_i (IsBl_i (?_)))))))
    refine Br_two hw (fun c253 hw => ?_) (fun c253 hw => ?_)
    · refine tSeq_j (tAsg_j (tLst_i (tCons_i (tC_i (tCons_i (tVar_i (v := (.int r24)) rfl (tCons_i (tVar_i (v := (.int r30)) rfl (tNil_i (new_i (Nat.le_of_ble_eq_true rfl) (fun q254 H255 n256 s257 e258 => ?_)))))))))))
      have r259 : AllR pInt (dels H166 ps) [(.int (0 : Int)), (.int r24), (.int r30)] ([(0 : Int), r24, r30] : List Int) := (.cons rfl (.cons rfl (.cons rfl .nil)))
      have l260 : ([(0 : Int), r24, r30] : List Int).length ≤ LIM := (Nat.le_of_ble_eq_true rfl)
      have m261 := nin_of n256 P180
      have z262 := Same.free T176 n256
      have P263 := dom_up s257 P180
      have T264 := Same.trans T176 s257
      have P265 := dom_new e258 P263
      have S266 : Same (dels H166 ps) (dels H255 (q254 :: ps)) := Sn ps s257 n256
      have h267 : (pList pInt).rep (dels H255 ps) (.ref q254) ([(0 : Int), r24, r30] : List Int) := oFrzG e258 m261 (ss_skip ss_refl) (AllR.mono S266 r259) l260
      have P268 := dom_ss (ss_skip ss_refl) P265
      have S269 : Same (dels H255 (q254 :: ps)) (dels H255 ps) := Ss (ss_skip ss_refl)
      refine asgRL (p := (pList pInt)) (e := ([(0 : Int), r24, r30] : List Int)) (σ' := [some v_script, some v4, some (.ref p9), some (.int r18), some (.int r24), some (.int r30), some (.int r36), some (.int r42), some (.int r48), some (.int r54), some (.int r60), some (.ref q109), some (.ref q254), some (.ref q146), some (.ref q165), none, none, none, none, none, none, none]) hw h267 rfl (fun y270 h271 hw => ?_)
      refine tSeq_j (tAsg_j (tLst_i (tCons_i (tVar_i (v := (.int r42)) rfl (tCons_i (tOp_i (tVar_i (v := (.int r24)) rfl (tC_i (rI0_i (tNil_i (new_i (Nat.le_of_ble_eq_true rfl) (fun q272 H273 n274 s275 e276 => ?_))))))))))))
      have r277 : AllR pInt (dels H255 ps) [(.int r42), (.int (r24 - (1 : Int)))] ([r42, (r24 - (1 : Int))] : List Int) := (.cons rfl (.cons rfl .nil))
      have l278 : ([r42, (r24 - (1 : Int))] : List Int).length ≤ LIM := (Nat.le_of_ble_eq_true rfl)
      have m279 := nin_of n274 P268
      have z280 := Same.free T264 n274
      have P281 := dom_up s275 P268
      have T282 := Same.trans T264 s275
      have P283 := dom_new e276 P281
      have S284 : Same (dels H255 ps) (dels H273 (q272 :: ps)) := Sn ps s275 n274
      have h285 : (pList pInt).rep (dels H273 ps) (.ref q272) ([r42, (r24 - (1 : Int))] : List Int) := oFrzG e276 m279 (ss_skip ss_refl) (AllR.mono S284 r277) l278
      have P286 := dom_ss (ss_skip ss_refl) P283
      have S287 : Same (dels H273 (q272 :: ps)) (dels H273 ps) := Ss (ss_skip ss_refl)
      refine asgRL (p := (pList pInt)) (e := ([r42, (r24 - (1 : Int))] : List Int)) (σ' := [some v_script, some v4, some (.ref p9), some (.int r18), some (.int r24), some (.int r30), some (.int r36), some (.int r42), some (.int r48), some (.int r54), some (.int r60), some (.ref q109), some (.ref q254), some (.ref q272), some (.ref q165), none, none, none, none, none, none, none]) hw h285 rfl (fun y288 h289 hw => ?_)
      refine tAsg_j (tLst_i (tCons_i (tVar_i (v := (.int r48)) rfl (tCons_i (tOp_i (tVar_i (v := (.int r24)) rfl (tC_i (rI0_i (tNil_i (new_i (Nat.le_of_ble_eq_true rfl) (fun q290 H291 n292 s293 e294 => ?_)))))))))))
      have r295 : AllR pInt (dels H273 ps) [(.int r48), (.int (r24 - (2 : Int)))] ([r48, (r24 - (2 : Int))] : List Int) := (.cons rfl (.cons rfl .nil))
      have l296 : ([r48, (r24 - (2 : Int))] : List Int).length ≤ LIM := (Nat.le_of_ble_eq_true rfl)
      have m297 := nin_of n292 P286
      have z298 := Same.free T282 n292
      have P299 := dom_up s293 P286
      have T300 := Same.trans T282 s293
      have P301 := dom_new e294 P299
      have S302 : Same (dels H273 ps) (dels H291 (q290 :: ps)) := Sn ps s293 n292
      have h303 : (pList pInt).rep (dels H291 ps) (.ref q290) ([r48, (r24 - (2 : Int))] : List Int) := oFrzG e294 m297 (ss_skip ss_refl) (AllR.mono S302 r295) l296
      have P304 := dom_ss (ss_skip ss_refl) P301
      have S305 : Same (dels H291 (q290 :: ps)) (dels H291 ps) := Ss (ss_skip ss_refl)
      refine asgRL (p := (pList pInt)) (e := ([r48, (r24 - (2 : Int))] : List Int)) (σ' := [some v_script, some v4, some (.ref p9), some (.int r18), some (.int r24), some (.int r30), some (.int r36), some (.int r42), some (.int r48), some (.int r54), some (.int r60), some (.ref q109), some (.ref q254), some (.ref q272), some (.ref q290), none, none, none, none, none, none, none]) hw h303 rfl (fun y306 h307 hw => ?_)
      exact ⟨(y270, y288, y306), ⟨(.ref q254), (.ref q272), (.ref q290), rfl, (S266.trans (S269.trans (S284.trans (S287.trans (S302.trans S305))))), P304, T300, ((pList pInt).mono (S284.trans (S287.trans (S302.trans S305))) h271), ((pList pInt).mono (S302.trans S305) h289), h307, trivial⟩, hw⟩
    · refine tNext_j (?_)
      exact ⟨(y144, y163, y182), ⟨(.ref q127), (.ref q146), (.ref q165), rfl, (Same.refl _), P180, T176, ((pList pInt).mono (S159.trans (S162.trans (S178.trans S181))) h145), ((pList pInt).mono (S178.trans S181) h164), h183, trivial⟩, hw⟩
  obtain ⟨v246, v248, v250, rfl, S245, P243, T244, h247, h249, h251, _⟩ := hr
  refine tSeq_j (tAsg_j (tOp_i (tLst_i (tCons_i (tTup_i (tCons_i (tC_i (tCons_i (tC_i (tCons_i (tC_i (tNil_i (new_i (Nat.le_of_ble_eq_true rfl) (fun q308 H309 n310 s311 e312 => ?_))))))))))))))
  have P314 := dom_up s311 P243
  have T315 := Same.trans T244 s311
  have S316 : Same (dels H241 ps) (dels H309 ps) := Sd ps s311
  have h313 : (pTup K (rCons pStr (rCons pInt (rOne pInt)))).rep (dels H309 ps) (.ref q308) ((Str.ofString "mirrored"), (0 : Int), (0 : Int)) := tupR (dels_at e312 (nin_of n310 P243)) (rowC rfl (rowC rfl (rowO rfl)))
  refine tNil_i (new_i (Nat.le_of_ble_eq_true rfl) (fun q317 H318 n319 s320 e321 => ?_))
  have r322 : AllR (pTup K (rCons pStr (rCons pInt (rOne pInt)))) (dels H309 ps) [(.ref q308)] ([((Str.ofString "mirrored"), (0 : Int), (0 : Int))] : List (Str × Int × Int)) := (.cons h313 .nil)
  have l323 : ([((Str.ofString "mirrored"), (0 : Int), (0 : Int))] : List (Str × Int × Int)).length ≤ LIM := (Nat.le_of_ble_eq_true rfl)
  have m324 := nin_of n319 P314
  have z325 := Same.free T315 n319
  have P326 := dom_up s320 P314
  have T327 := Same.trans T315 s320
  have P328 := dom_new e321 P326
  have S329 : Same (dels H309 ps) (dels H318 (q317 :: ps)) := Sn ps s320 n319
  have h330 : (pList (pTup K (rCons pStr (rCons pInt (rOne pInt))))).rep (dels H318 ps) (.ref q317) ([((Str.ofString "mirrored"), (0 : Int), (0 : Int))] : List (Str × Int × Int)) := oFrzG e321 m324 (ss_skip ss_refl) (AllR.mono S329 r322) l323
  have P331 := dom_ss (ss_skip ss_refl) P328
  have S332 : Same (dels H318 (q317 :: ps)) (dels H318 ps) := Ss (ss_skip ss_refl)
  refine tLc_i (wL (tVar_i (v := v246) rfl (?_)))
  obtain ⟨a348, us349, hv350, hS351, hr352, hl353⟩ := (lFro (K := K) ((pList pInt).mono (S316.trans (S329.trans S332)) h247))
  refine WL_v hv350 (Same.seq Su hS351) (lcL (pb := (pTup K (rCons pStr (rCons pInt (rOne pInt))))) (ps := ps) hw (Same.seq Su hS351) hr352 hl353 P331 (fun q333 d334 x335 H336 n338 s339 ⟨acc340, e341⟩ hi342 nx343 hw Y344 N345 hY346 hN347 => ?_) (fun q388 H389 acc390 zs391 n392 s393 e394 r395 l396 hw => ?_))
  · have m371 := nin_of n338 P331
    have z372 := Same.free T327 n338
    have P373 := dom_up s339 P331
    have T374 := Same.trans T327 s339
    have P375 := dom_new e341 P373
    have S376 : Same (dels H318 ps) (dels H336 (q333 :: ps)) := Sn ps s339 n338
    obtain rfl : x335 = (.int d334) := hi342
    refine gN (σ' := [some v_script, some v4, some (.ref p9), some (.int r18), some (.int r24), some (.int r30), some (.int r36), some (.int r42), some (.int r48), some (.int r54), some (.int r60), some (.ref q109), some v246, some v248, some v250, none, some (.int d334), none, none, none, none, none]) rfl (wipe_i rfl (tYes_i (Br_t (tTup_i (tCons_i (tC_i (tCons_i (tVar_i (v := (.int d334)) rfl (tCons_i (tC_i (tNil_i (new_i (Nat.le_of_ble_eq_true rfl) (fun q377 H378 n379 s380 e381 => ?_)))))))))))))
    have P383 := dom_up s380 P375
    have T384 := Same.trans T374 s380
    have sc385 := Same.trans (Same.refl H336) s380
    have e386 := s380 _ _ e341
    have S387 : Same (dels H336 (q333 :: ps)) (dels H378 (q333 :: ps)) := Sd (q333 :: ps) s380
    have h382 : (pTup K (rCons pStr (rCons pInt (rOne pInt)))).rep (dels H378 (q333 :: ps)) (.ref q377) ((Str.ofString "turned"), d334, (0 : Int)) := tupR (dels_at e381 (nin_of n379 P375)) (rowC rfl (rowC rfl (rowO rfl)))
    exact hY346 ((Str.ofString "turned"), d334, (0 : Int)) _ _ sc385 h382 hw
  have m397 := nin_of n392 P331
  have z398 := Same.free T327 n392
  have P399 := dom_up s393 P331
  have T400 := Same.trans T327 s393
  have P401 := dom_new e394 P399
  have S402 : Same (dels H318 ps) (dels H389 (q388 :: ps)) := Sn ps s393 n392
  have h403 : (pList (pTup K (rCons pStr (rCons pInt (rOne pInt))))).rep (dels H389 ps) (.ref q388) zs391 := oFrzG e394 m397 (ss_skip ss_refl) r395 l396
  have P404 := dom_ss (ss_skip ss_refl) P401
  have S405 : Same (dels H389 (q388 :: ps)) (dels H389 ps) := Ss (ss_skip ss_refl)
  refine catS (p := (pTup K (rCons pStr (rCons pInt (rOne pInt))))) (lwL Su ((pList (pTup K (rCons pStr (rCons pInt (rOne pInt))))).mono (S402.trans S405) h330)) (lwL Su h403) hw.1 (fun q406 H407 n408 s409 us410 e411 r412 l413 => ?_)
  have m414 := nin_of n408 P404
  have z415 := Same.free T400 n408
  have P416 := dom_up s409 P404
  have T417 := Same.trans T400 s409
  have P418 := dom_new e411 P416
  have S419 : Same (dels H389 ps) (dels H407 (q406 :: ps)) := Sn ps s409 n408
  have h420 : (pList (pTup K (rCons pStr (rCons pInt (rOne pInt))))).rep (dels H407 ps) (.ref q406) (([((Str.ofString "mirrored"), (0 : Int), (0 : Int))] : List (Str × Int × Int)) ++ zs391) := oFrzG e411 m414 (ss_skip ss_refl) (AllR.mono S419 r412) l413
  have P421 := dom_ss (ss_skip ss_refl) P418
  have S422 : Same (dels H407 (q406 :: ps)) (dels H407 ps) := Ss (ss_skip ss_refl)
  refine asgRL (p := (pList (pTup K (rCons pStr (rCons pInt (rOne pInt)))))) (e := (([((Str.ofString "mirrored"), (0 : Int), (0 : Int))] : List (Str × Int × Int)) ++ zs391)) (σ' := [some v_script, some v4, some (.ref p9), some (.int r18), some (.int r24), some (.int r30), some (.int r36), some (.int r42), some (.int r48), some (.int r54), some (.int r60), some (.ref q109), some v246, some v248, some v250, some (.ref q406), none, none, none, none, none, none]) hw.2 h420 rfl (fun y423 h424 hw => ?_)
  refine tSeq_j (tAsg_j (tOp_i (tVar_i (v := (.ref q406)) rfl (tLc_i (wL (tLst_i (tCons_i (tC_i (tCons_i (tOp_i (tOp_i (tC_i (tVar_i (v := (.int r24)) rfl (rI_i hw.1 (tC_i (rI0_i (tCons_i (tVar_i (v := (.int r36)) rfl (tNil_i (new_i (Nat.le_of_ble_eq_true rfl) (fun q457 H458 n459 s460 e461 => ?_)))))))))))))))))))))
  have r462 : AllR pInt (dels H407 ps) [(.int (0 : Int)), (.int (((1 : Int) * 2 ^ Int.toNat r24) - (1 : Int))), (.int r36)] ([(0 : Int), (((1 : Int) * 2 ^ Int.toNat r24) - (1 : Int)), r36] : List Int) := (.cons rfl (.cons rfl (.cons rfl .nil)))
  have l463 : ([(0 : Int), (((1 : Int) * 2 ^ Int.toNat r24) - (1 : Int)), r36] : List Int).length ≤ LIM := (Nat.le_of_ble_eq_true rfl)
  have m464 := nin_of n459 P421
  have z465 := Same.free T417 n459
  have P466 := dom_up s460 P421
  have T467 := Same.trans T417 s460
  have P468 := dom_new e461 P466
  have S469 : Same (dels H407 ps) (dels H458 (q457 :: ps)) := Sn ps s460 n459
  have h470 : (pList pInt).rep (dels H458 ps) (.ref q457) ([(0 : Int), (((1 : Int) * 2 ^ Int.toNat r24) - (1 : Int)), r36] : List Int) := oFrzG e461 m464 (ss_skip ss_refl) (AllR.mono S469 r462) l463
  have P471 := dom_ss (ss_skip ss_refl) P468
  have S472 : Same (dels H458 (q457 :: ps)) (dels H458 ps) := Ss (ss_skip ss_refl)
  obtain ⟨a488, us489, hv490, hS491, hr492, hl493⟩ := (lFro (K := K) h470)
  refine WL_v hv490 (Same.seq Su hS491) (lcL (pb := (pTup K (rCons pStr (rCons pInt (rOne pInt))))) (ps := ps) hw.2 (Same.seq Su hS491) hr492 hl493 P471 (fun q473 d474 x475 H476 n478 s479 ⟨acc480, e481⟩ hi482 nx483 hw Y484 N485 hY486 hN487 => ?_) (fun q528 H529 acc530 zs531 n532 s533 e534 r535 l536 hw => ?_))
  · have m511 := nin_of n478 P471
    have z512 := Same.free T467 n478
    have P513 := dom_up s479 P471
    have T514 := Same.trans T467 s479
    have P515 := dom_new e481 P513
    have S516 : Same (dels H458 ps) (dels H476 (q473 :: ps)) := Sn ps s479 n478
    obtain rfl : x475 = (.int d474) := hi482
    refine gN (σ' := [some v_script, some v4, some (.ref p9), some (.int r18), some (.int r24), some (.int r30), some (.int r36), some (.int r42), some (.int r48), some (.int r54), some (.int r60), some (.ref q109), some v246, some v248, some v250, some (.ref q406), some (.int d474), none, none, none, none, none]) rfl (wipe_i rfl (tYes_i (Br_t (tTup_i (tCons_i (tC_i (tCons_i (tVar_i (v := (.int d474)) rfl (tCons_i (tC_i (tNil_i (new_i (Nat.le_of_ble_eq_true rfl) (fun q517 H518 n519 s520 e521 => ?_)))))))))))))
    have P523 := dom_up s520 P515
    have T524 := Same.trans T514 s520
    have sc525 := Same.trans (Same.refl H476) s520
    have e526 := s520 _ _ e481
    have S527 : Same (dels H476 (q473 :: ps)) (dels H518 (q473 :: ps)) := Sd (q473 :: ps) s520
    have h522 : (pTup K (rCons pStr (rCons pInt (rOne pInt)))).rep (dels H518 (q473 :: ps)) (.ref q517) ((Str.ofString "flipped"), d474, (0 : Int)) := tupR (dels_at e521 (nin_of n519 P515)) (rowC rfl (rowC rfl (rowO rfl)))
    exact hY486 ((Str.ofString "flipped"), d474, (0 : Int)) _ _ sc525 h522 hw
  have m537 := nin_of n532 P471
  have z538 := Same.free T467 n532
  have P539 := dom_up s533 P471
  have T540 := Same.trans T467 s533
  have P541 := dom_new e534 P539
  have S542 : Same (dels H458 ps) (dels H529 (q528 :: ps)) := Sn ps s533 n532
  have h543 : (pList (pTup K (rCons pStr (rCons pInt (rOne pInt))))).rep (dels H529 ps) (.ref q528) zs531 := oFrzG e534 m537 (ss_skip ss_refl) r535 l536
  have P544 := dom_ss (ss_skip ss_refl) P541
  have S545 : Same (dels H529 (q528 :: ps)) (dels H529 ps) := Ss (ss_skip ss_refl)
  refine catS (p := (pTup K (rCons pStr (rCons pInt (rOne pInt))))) (lwL Su ((pList (pTup K (rCons pStr (rCons pInt (rOne pInt))))).mono (S469.trans (S472.trans (S542.trans S545))) h424)) (lwL Su h543) hw.1 (fun q546 H547 n548 s549 us550 e551 r552 l553 => ?_)
  have m554 := nin_of n548 P544
  have z555 := Same.free T540 n548
  have P556 := dom_up s549 P544
  have T557 := Same.trans T540 s549
  have P558 := dom_new e551 P556
  have S559 : Same (dels H529 ps) (dels H547 (q546 :: ps)) := Sn ps s549 n548
  have h560 : (pList (pTup K (rCons pStr (rCons pInt (rOne pInt))))).rep (dels H547 ps) (.ref q546) (y423 ++ zs531) := oFrzG e551 m554 (ss_skip ss_refl) (AllR.mono S559 r552) l553
  have P561 := dom_ss (ss_skip ss_refl) P558
  have S562 : Same (dels H547 (q546 :: ps)) (dels H547 ps) := Ss (ss_skip ss_refl)
  refine asgRL (p := (pList (pTup K (rCons pStr (rCons pInt (rOne pInt)))))) (e := (y423 ++ zs531)) (σ' := [some v_script, some v4, some (.ref p9), some (.int r18), some (.int r24), some (.int r30), some (.int r36), some (.int r42), some (.int r48), some (.int r54), some (.int r60), some (.ref q109), some v246, some v248, some v250, some (.ref q546), none, none, none, none, none, none]) hw.2 h560 rfl (fun y563 h564 hw => ?_)
  refine tSeq_j (tFor_j (wL (tVar_i (v := v248) rfl (?_))))
  obtain ⟨a853, us854, hv855, hS856, hr857, hl858⟩ := (lFro (K := K) ((pList pInt).mono (S316.trans (S329.trans (S332.trans (S402.trans (S405.trans (S419.trans (S422.trans (S469.trans (S472.trans (S542.trans (S545.trans (S559.trans S562)))))))))))) h249))
  refine WL_v hv855 (Same.seq Su hS856) (forL (s0 := y563) hw hr857 (fun (s859 : (List (Str × Int × Int))) (σ861 : L2.St) (H860 : Hp) => ∃ (j862 : Option V) (v866 : V), σ861 = [some v_script, some v4, some (.ref p9), some (.int r18), some (.int r24), some (.int r30), some (.int r36), some (.int r42), some (.int r48), some (.int r54), some (.int r60), some (.ref q109), some v246, some v248, some v250, some v866, j862, none, none, none, none, none] ∧ Same (dels H547 ps) (dels H860 ps) ∧ (∀ x ∈ ps, H860 x ≠ none) ∧ Same H H860 ∧ (pList (pTup K (rCons pStr (rCons pInt (rOne pInt))))).rep (dels H860 ps) v866 s859 ∧ True) ⟨_, (.ref q546), rfl, (Same.refl _), P561, T557, h564, trivial⟩ (fun s859 σ861 H860 ⟨j862, v866, _, S865, P863, T864, h867, _⟩ => (Same.seq (Same.trans S865 Su) hS856)) (fun d870 s859 σ861 H860 x871 nx868 hr hi872 hw => ?_) (fun s874 σ876 H875 hr hw => ?_))
  · obtain ⟨j862, v866, rfl, S865, P863, T864, h867, _⟩ := hr
    obtain rfl : x871 = (.int d870) := hi872
    refine gN (σ' := [some v_script, some v4, some (.ref p9), some (.int r18), some (.int r24), some (.int r30), some (.int r36), some (.int r42), some (.int r48), some (.int r54), some (.int r60), some (.ref q109), some v246, some v248, some v250, some v866, some (.int d870), none, none, none, none, none]) rfl (tSeq_j (tAsg_j (tOp_i (tVar_i (v := v866) rfl (tLc_i (wL (tLst_i (tCons_i (tVar_i (v := (.int r54)) rfl (tCons_i (tC_i (tNil_i (new_i (Nat.le_of_ble_eq_true rfl) (fun q915 H916 n917 s918 e919 => ?_))))))))))))))
    have r920 : AllR pInt (dels H860 ps) [(.int r54), (.int (0 : Int))] ([r54, (0 : Int)] : List Int) := (.cons rfl (.cons rfl .nil))
    have l921 : ([r54, (0 : Int)] : List Int).length ≤ LIM := (Nat.le_of_ble_eq_true rfl)
    have m922 := nin_of n917 P863
    have z923 := Same.free T864 n917
    have P924 := dom_up s918 P863
    have T925 := Same.trans T864 s918
    have P926 := dom_new e919 P924
    have S927 : Same (dels H860 ps) (dels H916 (q915 :: ps)) := Sn ps s918 n917
    have h928 : (pList pInt).rep (dels H916 ps) (.ref q915) ([r54, (0 : Int)] : List Int) := oFrzG e919 m922 (ss_skip ss_refl) (AllR.mono S927 r920) l921
    have P929 := dom_ss (ss_skip ss_refl) P926
    have S930 : Same (dels H916 (q915 :: ps)) (dels H916 ps) := Ss (ss_skip ss_refl)
    obtain ⟨a946, us947, hv948, hS949, hr950, hl951⟩ := (lFro (K := K) h928)
    refine WL_v hv948 (Same.seq Su hS949) (lcL (pb := (pTup K (rCons pStr (rCons pInt (rOne pInt))))) (ps := ps) hw (Same.seq Su hS949) hr950 hl951 P929 (fun q931 d932 x933 H934 n936 s937 ⟨acc938, e939⟩ hi940 nx941 hw Y942 N943 hY944 hN945 => ?_) (fun q986 H987 acc988 zs989 n990 s991 e992 r993 l994 hw => ?_))
    · have m969 := nin_of n936 P929
      have z970 := Same.free T925 n936
      have P971 := dom_up s937 P929
      have T972 := Same.trans T925 s937
      have P973 := dom_new e939 P971
      have S974 : Same (dels H916 ps) (dels H934 (q931 :: ps)) := Sn ps s937 n936
      obtain rfl : x933 = (.int d932) := hi940
      refine gN (σ' := [some v_script, some v4, some (.ref p9), some (.int r18), some (.int r24), some (.int r30), some (.int r36), some (.int r42), some (.int r48), some (.int r54), some (.int r60), some (.ref q109), some v246, some v248, some v250, some v866, some (.int d870), none, none, none, none, some (.int d932)]) rfl (wipe_i rfl (tYes_i (Br_t (tTup_i (tCons_i (tC_i (tCons_i (tVar_i (v := (.int d870)) rfl (tCons_i (tVar_i (v := (.int d932)) rfl (tNil_i (new_i (Nat.le_of_ble_eq_true rfl) (fun q975 H976 n977 s978 e979 => ?_)))))))))))))
      have P981 := dom_up s978 P973
      have T982 := Same.trans T972 s978
      have sc983 := Same.trans (Same.refl H934) s978
      have e984 := s978 _ _ e939
      have S985 : Same (dels H934 (q931 :: ps)) (dels H976 (q931 :: ps)) := Sd (q931 :: ps) s978
      have h980 : (pTup K (rCons pStr (rCons pInt (rOne pInt)))).rep (dels H976 (q931 :: ps)) (.ref q975) ((Str.ofString "weighted"), d870, d932) := tupR (dels_at e979 (nin_of n977 P973)) (rowC rfl (rowC rfl (rowO rfl)))
      exact hY944 ((Str.ofString "weighted"), d870, d932) _ _ sc983 h980 hw
    have m995 := nin_of n990 P929
    have z996 := Same.free T925 n990
    have P997 := dom_up s991 P929
    have T998 := Same.trans T925 s991
    have P999 := dom_new e992 P997
    have S1000 : Same (dels H916 ps) (dels H987 (q986 :: ps)) := Sn ps s991 n990
    have h1001 : (pList (pTup K (rCons pStr (rCons pInt (rOne pInt))))).rep (dels H987 ps) (.ref q986) zs989 := oFrzG e992 m995 (ss_skip ss_refl) r993 l994
    have P1002 := dom_ss (ss_skip ss_refl) P999
    have S1003 : Same (dels H987 (q986 :: ps)) (dels H987 ps) := Ss (ss_skip ss_refl)
    refine catS (p := (pTup K (rCons pStr (rCons pInt (rOne pInt))))) (lwL Su ((pList (pTup K (rCons pStr (rCons pInt (rOne pInt))))).mono (S927.trans (S930.trans (S1000.trans S1003))) h867)) (lwL Su h1001) hw.1 (fun q1004 H1005 n1006 s1007 us1008 e1009 r1010 l1011 => ?_)
    have m1012 := nin_of n1006 P1002
    have z1013 := Same.free T998 n1006
    have P1014 := dom_up s1007 P1002
    have T1015 := Same.trans T998 s1007
    have P1016 := dom_new e1009 P1014
    have S1017 : Same (dels H987 ps) (dels H1005 (q1004 :: ps)) := Sn ps s1007 n1006
    have h1018 : (pList (pTup K (rCons pStr (rCons pInt (rOne pInt))))).rep (dels H1005 ps) (.ref q1004) (s859 ++ zs989) := oFrzG e1009 m1012 (ss_skip ss_refl) (AllR.mono S1017 r1010) l1011
    have P1019 := dom_ss (ss_skip ss_refl) P1016
    have S1020 : Same (dels H1005 (q1004 :: ps)) (dels H1005 ps) := Ss (ss_skip ss_refl)
    refine asgRL (p := (pList (pTup K (rCons pStr (rCons pInt (rOne pInt)))))) (e := (s859 ++ zs989)) (σ' := [some v_script, some v4, some (.ref p9), some (.int r18), some (.int r24), some (.int r30), some (.int r36), some (.int r42), some (.int r48), some (.int r54), some (.int r60), some (.ref q109), some v246, some v248, some v250, some (.ref q1004), some (.int d870), none, none, none, none, none]) hw.2 h1018 rfl (fun y1021 h1022 hw => ?_)
    refine tAsg_j (tOp_i (tVar_i (v := (.ref q1004)) rfl (tLc_i (wL (tLst_i (tCons_i (tC_i (tCons_i (tC_i (tNil_i (new_i (Nat.le_of_ble_eq_true rfl) (fun q1055 H1056 n1057 s1058 e1059 => ?_))))))))))))
    have r1060 : AllR pInt (dels H1005 ps) [(.int (0 : Int)), (.int (1 : Int))] ([(0 : Int), (1 : Int)] : List Int) := (.cons rfl (.cons rfl .nil))
    have l1061 : ([(0 : Int), (1 : Int)] : List Int).length ≤ LIM := (Nat.le_of_ble_eq_true rfl)
    have m1062 := nin_of n1057 P1019
    have z1063 := Same.free T1015 n1057
    have P1064 := dom_up s1058 P1019
    have T1065 := Same.trans T1015 s1058
    have P1066 := dom_new e1059 P1064
    have S1067 : Same (dels H1005 ps) (dels H1056 (q1055 :: ps)) := Sn ps s1058 n1057
    have h1068 : (pList pInt).rep (dels H1056 ps) (.ref q1055) ([(0 : Int), (1 : Int)] : List Int) := oFrzG e1059 m1062 (ss_skip ss_refl) (AllR.mono S1067 r1060) l1061
    have P1069 := dom_ss (ss_skip ss_refl) P1066
    have S1070 : Same (dels H1056 (q1055 :: ps)) (dels H1056 ps) := Ss (ss_skip ss_refl)
    obtain ⟨a1086, us1087, hv1088, hS1089, hr1090, hl1091⟩ := (lFro (K := K) h1068)
    refine WL_v hv1088 (Same.seq Su hS1089) (lcL (pb := (pTup K (rCons pStr (rCons pInt (rOne pInt))))) (ps := ps) hw (Same.seq Su hS1089) hr1090 hl1091 P1069 (fun q1071 d1072 x1073 H1074 n1076 s1077 ⟨acc1078, e1079⟩ hi1080 nx1081 hw Y1082 N1083 hY1084 hN1085 => ?_) (fun q1126 H1127 acc1128 zs1129 n1130 s1131 e1132 r1133 l1134 hw => ?_))
    · have m1109 := nin_of n1076 P1069
      have z1110 := Same.free T1065 n1076
      have P1111 := dom_up s1077 P1069
      have T1112 := Same.trans T1065 s1077
      have P1113 := dom_new e1079 P1111
      have S1114 : Same (dels H1056 ps) (dels H1074 (q1071 :: ps)) := Sn ps s1077 n1076
      obtain rfl : x1073 = (.int d1072) := hi1080
      refine gN (σ' := [some v_script, some v4, some (.ref p9), some (.int r18), some (.int r24), some (.int r30), some (.int r36), some (.int r42), some (.int r48), some (.int r54), some (.int r60), some (.ref q109), some v246, some v248, some v250, some (.ref q1004), some (.int d870), none, none, none, none, some (.int d1072)]) rfl (wipe_i rfl (tYes_i (Br_t (tTup_i (tCons_i (tC_i (tCons_i (tVar_i (v := (.int d870)) rfl (tCons_i (tVar_i (v := (.int d1072)) rfl (tNil_i (new_i (Nat.le_of_ble_eq_true rfl) (fun q1115 H1116 n1117 s1118 e1119 => ?_)))))))))))))
      have P1121 := dom_up s1118 P1113
      have T1122 := Same.trans T1112 s1118
      have sc1123 := Same.trans (Same.refl H1074) s1118
      have e1124 := s1118 _ _ e1079
      have S1125 : Same (dels H1074 (q1071 :: ps)) (dels H1116 (q1071 :: ps)) := Sd (q1071 :: ps) s1118
      have h1120 : (pTup K (rCons pStr (rCons pInt (rOne pInt)))).rep (dels H1116 (q1071 :: ps)) (.ref q1115) ((Str.ofString "fixed"), d870, d1072) := tupR (dels_at e1119 (nin_of n1117 P1113)) (rowC rfl (rowC rfl (rowO rfl)))
      exact hY1084 ((Str.ofString "fixed"), d870, d1072) _ _ sc1123 h1120 hw
    have m1135 := nin_of n1130 P1069
    have z1136 := Same.free T1065 n1130
    have P1137 := dom_up s1131 P1069
    have T1138 := Same.trans T1065 s1131
    have P1139 := dom_new e1132 P1137
    have S1140 : Same (dels H1056 ps) (dels H1127 (q1126 :: ps)) := Sn ps s1131 n1130
    have h1141 : (pList (pTup K (rCons pStr (rCons pInt (rOne pInt))))).rep (dels H1127 ps) (.ref q1126) zs1129 := oFrzG e1132 m1135 (ss_skip ss_refl) r1133 l1134
    have P1142 := dom_ss (ss_skip ss_refl) P1139
    have S1143 : Same (dels H1127 (q1126 :: ps)) (dels H1127 ps) := Ss (ss_skip ss_refl)
    refine catS (p := (pTup K (rCons pStr (rCons pInt (rOne pInt))))) (lwL Su ((pList (pTup K (rCons pStr (rCons pInt (rOne pInt))))).mono (S1067.trans (S1070.trans (S1140.trans S1143))) h1022)) (lwL Su h1141) hw.1 (fun q1144 H1145 n1146 s1147 us1148 e1149 r1150 l1151 => ?_)
    have m1152 := nin_of n1146 P1142
    have z1153 := Same.free T1138 n1146
    have P1154 := dom_up s1147 P1142
    have T1155 := Same.trans T1138 s1147
    have P1156 := dom_new e1149 P1154
    have S1157 : Same (dels H1127 ps) (dels H1145 (q1144 :: ps)) := Sn ps s1147 n1146
    have h1158 : (pList (pTup K (rCons pStr (rCons pInt (rOne pInt))))).rep (dels H1145 ps) (.ref q1144) (y1021 ++ zs1129) := oFrzG e1149 m1152 (ss_skip ss_refl) (AllR.mono S1157 r1150) l1151
    have P1159 := dom_ss (ss_skip ss_refl) P1156
    have S1160 : Same (dels H1145 (q1144 :: ps)) (dels H1145 ps) := Ss (ss_skip ss_refl)
    refine asgRL (p := (pList (pTup K (rCons pStr (rCons pInt (rOne pInt)))))) (e := (y1021 ++ zs1129)) (σ' := [some v_script, some v4, some (.ref p9), some (.int r18), some (.int r24), some (.int r30), some (.int r36), some (.int r42), some (.int r48), some (.int r54), some (.int r60), some (.ref q109), some v246, some v248, some v250, some (.ref q1144), some (.int d870), none, none, none, none, none]) hw.2 h1158 rfl (fun y1161 h1162 hw => ?_)
    exact nxS_i (s := (y1161)) ⟨_, (.ref q1144), rfl, (S865.trans (S927.trans (S930.trans (S1000.trans (S1003.trans (S1017.trans (S1020.trans (S1067.trans (S1070.trans (S1140.trans (S1143.trans (S1157.trans S1160)))))))))))), P1159, T1155, h1162, trivial⟩ hw
  obtain ⟨j877, v881, rfl, S880, P878, T879, h882, _⟩ := hr
  refine tSeq_j (tFor_j (wL (tVar_i (v := v250) rfl (?_))))
  obtain ⟨a1311, us1312, hv1313, hS1314, hr1315, hl1316⟩ := (lFro (K := K) ((pList pInt).mono (S316.trans (S329.trans (S332.trans (S402.trans (S405.trans (S419.trans (S422.trans (S469.trans (S472.trans (S542.trans (S545.trans (S559.trans (S562.trans S880))))))))))))) h251))
  refine WL_v hv1313 (Same.seq Su hS1314) (forL (s0 := s874) hw hr1315 (fun (s1317 : (List (Str × Int × Int))) (σ1319 : L2.St) (H1318 : Hp) => ∃ (j1320 : Option V) (v1324 : V), σ1319 = [some v_script, some v4, some (.ref p9), some (.int r18), some (.int r24), some (.int r30), some (.int r36), some (.int r42), some (.int r48), some (.int r54), some (.int r60), some (.ref q109), some v246, some v248, some v250, some v1324, j1320, none, none, none, none, none] ∧ Same (dels H875 ps) (dels H1318 ps) ∧ (∀ x ∈ ps, H1318 x ≠ none) ∧ Same H H1318 ∧ (pList (pTup K (rCons pStr (rCons pInt (rOne pInt))))).rep (dels H1318 ps) v1324 s1317 ∧ True) ⟨_, v881, rfl, (Same.refl _), P878, T879, h882, trivial⟩ (fun s1317 σ1319 H1318 ⟨j1320, v1324, _, S1323, P1321, T1322, h1325, _⟩ => (Same.seq (Same.trans S1323 Su) hS1314)) (fun d1328 s1317 σ1319 H1318 x1329 nx1326 hr hi1330 hw => ?_) (fun s1332 σ1334 H1333 hr hw => ?_))
  · obtain ⟨j1320, v1324, rfl, S1323, P1321, T1322, h1325, _⟩ := hr
    obtain rfl : x1329 = (.int d1328) := hi1330
    refine gN (σ' := [some v_script, some v4, some (.ref p9), some (.int r18), some (.int r24), some (.int r30), some (.int r36), some (.int r42), some (.int r48), some (.int r54), some (.int r60), some (.ref q109), some v246, some v248, some v250, some v1324, some (.int d1328), none, none, none, none, none]) rfl (tAsg_j (tOp_i (tVar_i (v := v1324) rfl (tLc_i (wL (tLst_i (tCons_i (tVar_i (v := (.int r54)) rfl (tCons_i (tC_i (tCons_i (tOp_i (tVar_i (v := (.int r18)) rfl (tC_i (rI0_i (tNil_i (new_i (Nat.le_of_ble_eq_true rfl) (fun q1373 H1374 n1375 s1376 e1377 => ?_))))))))))))))))))
    have r1378 : AllR pInt (dels H1318 ps) [(.int r54), (.int (0 : Int)), (.int (r18 - (1 : Int)))] ([r54, (0 : Int), (r18 - (1 : Int))] : List Int) := (.cons rfl (.cons rfl (.cons rfl .nil)))
    have l1379 : ([r54, (0 : Int), (r18 - (1 : Int))] : List Int).length ≤ LIM := (Nat.le_of_ble_eq_true rfl)
    have m1380 := nin_of n1375 P1321
    have z1381 := Same.free T1322 n1375
    have P1382 := dom_up s1376 P1321
    have T1383 := Same.trans T1322 s1376
    have P1384 := dom_new e1377 P1382
    have S1385 : Same (dels H1318 ps) (dels H1374 (q1373 :: ps)) := Sn ps s1376 n1375
    have h1386 : (pList pInt).rep (dels H1374 ps) (.ref q1373) ([r54, (0 : Int), (r18 - (1 : Int))] : List Int) := oFrzG e1377 m1380 (ss_skip ss_refl) (AllR.mono S1385 r1378) l1379
    have P1387 := dom_ss (ss_skip ss_refl) P1384
    have S1388 : Same (dels H1374 (q1373 :: ps)) (dels H1374 ps) := Ss (ss_skip ss_refl)
    obtain ⟨a1404, us1405, hv1406, hS1407, hr1408, hl1409⟩ := (lFro (K := K) h1386)
    refine WL_v hv1406 (Same.seq Su hS1407) (lcL (pb := (pTup K (rCons pStr (rCons pInt (rOne pInt))))) (ps := ps) hw (Same.seq Su hS1407) hr1408 hl1409 P1387 (fun q1389 d1390 x1391 H1392 n1394 s1395 ⟨acc1396, e1397⟩ hi1398 nx1399 hw Y1400 N1401 hY1402 hN1403 => ?_) (fun q1444 H1445 acc1446 zs1447 n1448 s1449 e1450 r1451 l1452 hw => ?_))
    · have m1427 := nin_of n1394 P1387
      have z1428 := Same.free T1383 n1394
      have P1429 := dom_up s1395 P1387
      have T1430 := Same.trans T1383 s1395
      have P1431 := dom_new e1397 P1429
      have S1432 : Same (dels H1374 ps) (dels H1392 (q1389 :: ps)) := Sn ps s1395 n1394
      obtain rfl : x1391 = (.int d1390) := hi1398
      refine gN (σ' := [some v_script, some v4, some (.ref p9), some (.int r18), some (.int r24), some (.int r30), some (.int r36), some (.int r42), some (.int r48), some (.int r54), some (.int r60), some (.ref q109), some v246, some v248, some v250, some v1324, some (.int d1328), none, none, none, none, some (.int d1390)]) rfl (wipe_i rfl (tYes_i (Br_t (tTup_i (tCons_i (tC_i (tCons_i (tVar_i (v := (.int d1328)) rfl (tCons_i (tVar_i (v := (.int d1390)) rfl (tNil_i (new_i (Nat.le_of_ble_eq_true rfl) (fun q1433 H1434 n1435 s1436 e1437 => ?_)))))))))))))
      have P1439 := dom_up s1436 P1431
      have T1440 := Same.trans T1430 s1436
      have sc1441 := Same.trans (Same.refl H1392) s1436
      have e1442 := s1436 _ _ e1397
      have S1443 : Same (dels H1392 (q1389 :: ps)) (dels H1434 (q1389 :: ps)) := Sd (q1389 :: ps) s1436
      have h1438 : (pTup K (rCons pStr (rCons pInt (rOne pInt)))).rep (dels H1434 (q1389 :: ps)) (.ref q1433) ((Str.ofString "tied"), d1328, d1390) := tupR (dels_at e1437 (nin_of n1435 P1431)) (rowC rfl (rowC rfl (rowO rfl)))
      exact hY1402 ((Str.ofString "tied"), d1328, d1390) _ _ sc1441 h1438 hw
    have m1453 := nin_of n1448 P1387
    have z1454 := Same.free T1383 n1448
    have P1455 := dom_up s1449 P1387
    have T1456 := Same.trans T1383 s1449
    have P1457 := dom_new e1450 P1455
    have S1458 : Same (dels H1374 ps) (dels H1445 (q1444 :: ps)) := Sn ps s1449 n1448
    have h1459 : (pList (pTup K (rCons pStr (rCons pInt (rOne pInt))))).rep (dels H1445 ps) (.ref q1444) zs1447 := oFrzG e1450 m1453 (ss_skip ss_refl) r1451 l1452
    have P1460 := dom_ss (ss_skip ss_refl) P1457
    have S1461 : Same (dels H1445 (q1444 :: ps)) (dels H1445 ps) := Ss (ss_skip ss_refl)
    refine catS (p := (pTup K (rCons pStr (rCons pInt (rOne pInt))))) (lwL Su ((pList (pTup K (rCons pStr (rCons pInt (rOne pInt))))).mono (S1385.trans (S1388.trans (S1458.trans S1461))) h1325)) (lwL Su h1459) hw.1 (fun q1462 H1463 n1464 s1465 us1466 e1467 r1468 l1469 => ?_)
    have m1470 := nin_of n1464 P1460
    have z1471 := Same.free T1456 n1464
    have P1472 := dom_up s1465 P1460
    have T1473 := Same.trans T1456 s1465
    have P1474 := dom_new e1467 P1472
    have S1475 : Same (dels H1445 ps) (dels H1463 (q1462 :: ps)) := Sn ps s1465 n1464
    have h1476 : (pList (pTup K (rCons pStr (rCons pInt (rOne pInt))))).rep (dels H1463 ps) (.ref q1462) (s1317 ++ zs1447) := oFrzG e1467 m1470 (ss_skip ss_refl) (AllR.mono S1475 r1468) l1469
    have P1477 := dom_ss (ss_skip ss_refl) P1474
    have S1478 : Same (dels H1463 (q1462 :: ps)) (dels H1463 ps) := Ss (ss_skip ss_refl)
    refine asgRL (p := (pList (pTup K (rCons pStr (rCons pInt (rOne pInt)))))) (e := (s1317 ++ zs1447)) (σ' := [some v_script, some v4, some (.ref p9), some (.int r18), some (.int r24), some (.int r30), some (.int r36), some (.int r42), some (.int r48), some (.int r54), some (.int r60), some (.ref q109), some v246, some v248, some v250, some (.ref q1462), some (.int d1328), none, none, none, none, none]) hw.2 h1476 rfl (fun y1479 h1480 hw => ?_)
    exact nxS_i (s := (y1479)) ⟨_, (.ref q1462), rfl, (S1323.trans (S1385.trans (S1388.trans (S1458.trans (S1461.trans (S1475.trans S1478)))))), P1477, T1473, h1480, trivial⟩ hw
  obtain ⟨j1335, v1339, rfl, S1338, P1336, T1337, h1340, _⟩ := hr
  refine tSeq_j (tFor_j (wL (tVar_i (v := v1339) rfl (?_))))
  obtain ⟨a1502, us1503, hv1504, hS1505, hr1506, hl1507⟩ := (lFro (K := K) h1340)
  refine WL_v hv1504 (Same.seq Su hS1505) (forL (s0 := ()) hw hr1506 (fun (s1508 : Unit) (σ1510 : L2.St) (H1509 : Hp) => ∃ (j1511 : Option V) (j1512 : Option V) (j1513 : Option V), σ1510 = [some v_script, some v4, some (.ref p9), some (.int r18), some (.int r24), some (.int r30), some (.int r36), some (.int r42), some (.int r48), some (.int r54), some (.int r60), some (.ref q109), some v246, some v248, some v250, some v1339, j1335, j1511, j1512, j1513, none, none] ∧ Same (dels H1333 ps) (dels H1509 ps) ∧ (∀ x ∈ ps, H1509 x ≠ none) ∧ Same H H1509 ∧ True) ⟨_, _, _, rfl, (Same.refl _), P1336, T1337, trivial⟩ (fun s1508 σ1510 H1509 ⟨j1511, j1512, j1513, _, S1516, P1514, T1515, _⟩ => (Same.seq (Same.trans S1516 Su) hS1505)) (fun d1519 s1508 σ1510 H1509 x1520 nx1517 hr hi1521 hw => ?_) (fun s1523 σ1525 H1524 hr hw => ?_))
  · obtain ⟨j1511, j1512, j1513, rfl, S1516, P1514, T1515, _⟩ := hr
    refine gTupS hi1521 (Same.trans S1516 Su) (fun vs1532 hv1533 => ?_)
    obtain ⟨ws1535, rfl, hv1534⟩ := rowCi hv1533
    obtain ⟨ws1537, rfl, hv1536⟩ := rowCi hv1534
    obtain rfl := rowOi hv1536
    refine ⟨rfl, ?_⟩
    refine gCons_i (gN (σ' := [some v_script, some v4, some (.ref p9), some (.int r18), some (.int r24), some (.int r30), some (.int r36), some (.int r42), some (.int r48), some (.int r54), some (.int r60), some (.ref q109), some v246, some v248, some v250, some v1339, j1335, some (.str d1519.1), j1512, j1513, none, none]) rfl (gCons_i (gN (σ' := [some v_script, some v4, some (.ref p9), some (.int r18), some (.int r24), some (.int r30), some (.int r36), some (.int r42), some (.int r48), some (.int r54), some (.int r60), some (.ref q109), some v246, some v248, some v250, some v1339, j1335, some (.str d1519.1), some (.int d1519.2.1), j1513, none, none]) rfl (gCons_i (gN (σ' := [some v_script, some v4, some (.ref p9), some (.int r18), some (.int r24), some (.int r30), some (.int r36), some (.int r42), some (.int r48), some (.int r54), some (.int r60), some (.ref q109), some v246, some v248, some v250, some v1339, j1335, some (.str d1519.1), some (.int d1519.2.1), some (.int d1519.2.2), none, none]) rfl (gNil_i (tIfS_j (tNot_i (tTruth_i (tCallS_i (tCons_i (tVar_i (v := (.str d1519.1)) rfl (tCons_i (tVar_i (v := (.int r18)) rfl (tCons_i (tVar_i (v := (.int r24)) rfl (tCons_i (tVar_i (v := (.ref q109)) rfl (tCons_i (tVar_i (v := (.int d1519.2.1)) rfl (tCons_i (tVar_i (v := (.int d1519.2.2)) rfl (tNil_i (?_))))))))))))))))))))))))
    refine ⟨ps, d1519.1, r18, r24, zs112, d1519.2.1, d1519.2.2, (.ref q109), rfl, P1514, ((pList pInt).mono (S140.trans (S143.trans (S159.trans (S162.trans (S178.trans (S181.trans (S245.trans (S316.trans (S329.trans (S332.trans (S402.trans (S405.trans (S419.trans (S422.trans (S469.trans (S472.trans (S542.trans (S545.trans (S559.trans (S562.trans (S880.trans (S1338.trans S1516)))))))))))))))))))))) h124), _, _, hw, fun r1538 hw H1539 s1540 => ?_, (fun er hc hw => errUp T1515 ss_refl (he er (by simp only [List.mem_cons, List.not_mem_nil, or_false] at hc ⊢; omega) hw))⟩
    have P1541 := dom_up s1540 P1514
    have T1542 := Same.trans T1515 s1540
    have S1543 : Same (dels H1509 ps) (dels H1539 ps) := Sd ps s1540
    refine Tru_b (?_)
    refine Br_two hw (fun c1544 hw => ?_) (fun c1544 hw => ?_)
    · refine tRet_j (tC_i (?_))
      exact hk _ hw _ T1542
    · refine tNext_j (?_)
      exact nxS_i (s := (())) ⟨_, _, _, rfl, (S1516.trans S1543), P1541, T1542, trivial⟩ hw
  obtain ⟨j1526, j1527, j1528, rfl, S1531, P1529, T1530, _⟩ := hr
  refine tSeq_j (tIfS_j (tNot_i (tTruth_i (tCallS_i (tCons_i (tVar_i (v := (.int r18)) rfl (tCons_i (tVar_i (v := (.int r24)) rfl (tCons_i (tVar_i (v := (.ref q109)) rfl (tCons_i (tVar_i (v := (.int r30)) rfl (tCons_i (tVar_i (v := (.int r36)) rfl (tCons_i (tVar_i (v := (.int r42)) rfl (tCons_i (tVar_i (v := (.int r54)) rfl (tNil_i (?_))))))))))))))))))))
  refine ⟨ps, r18, r24, zs112, r30, r36, r42, r54, (.ref q109), rfl, P1529, ((pList pInt).mono (S140.trans (S143.trans (S159.trans (S162.trans (S178.trans (S181.trans (S245.trans (S316.trans (S329.trans (S332.trans (S402.trans (S405.trans (S419.trans (S422.trans (S469.trans (S472.trans (S542.trans (S545.trans (S559.trans (S562.trans (S880.trans (S1338.trans S1531)))))))))))))))))))))) h124), _, _, hw, fun r1545 hw H1546 s1547 => ?_, (fun er hc hw => errUp T1530 ss_refl (he er (by simp only [List.mem_cons, List.not_mem_nil, or_false] at hc ⊢; omega) hw))⟩
  have P1548 := dom_up s1547 P1529
  have T1549 := Same.trans T1530 s1547
  have S1550 : Same (dels H1524 ps) (dels H1546 ps) := Sd ps s1547
  refine Tru_b (?_)
  refine Br_two hw (fun c1551 hw => ?_) (fun c1551 hw => ?_)
  · refine tRet_j (tC_i (?_))
    exact hk _ hw _ T1549
  · refine tNext_j (tRet_j (tCallS_i (tCons_i (tVar_i (v := (.int r18)) rfl (tCons_i (tVar_i (v := (.int r24)) rfl (tCons_i (tVar_i (v := (.ref q109)) rfl (tCons_i (tVar_i (v := (.int r60)) rfl (tNil_i (?_))))))))))))
    refine ⟨ps, r18, r24, zs112, r60, (.ref q109), rfl, P1548, ((pList pInt).mono (S140.trans (S143.trans (S159.trans (S162.trans (S178.trans (S181.trans (S245.trans (S316.trans (S329.trans (S332.trans (S402.trans (S405.trans (S419.trans (S422.trans (S469.trans (S472.trans (S542.trans (S545.trans (S559.trans (S562.trans (S880.trans (S1338.trans (S1531.trans S1550))))))))))))))))))))))) h124), _, _, hw, fun r1552 hw H1553 s1554 => ?_, (fun er hc hw => errUp T1549 ss_refl (he er (by simp only [List.mem_cons, List.not_mem_nil, or_false] at hc ⊢; omega) hw))⟩
    have P1555 := dom_up s1554 P1548
    have T1556 := Same.trans T1549 s1554
    have S1557 : Same (dels H1546 ps) (dels H1553 ps) := Sd ps s1554
    exact hk _ hw _ T1556
end
theorem sp_weak {P : Program} {w : World} {K : PySem.W.Frag} {mg : Str → Option Value} {base : Heap} {CX : CXT} {n : Nat} {a : Addr} {fd : FuncData} {ps : List Str} {sp sp' : Sp} (h : FnOk P w K mg base CX n a fd ps sp) (hs : ∀ vs H Q E, sp' vs H Q E → sp vs H Q E) : FnOk P w K mg base CX n a fd ps sp' :=
  ⟨fun vs H Q E z => h.len vs H Q E (hs vs H Q E z), fun A outer s H args us vs Q E hr e0 hb r z => h.run A outer s H args us vs Q E hr e0 hb r (hs vs H Q E z)⟩
theorem law_ok {P : Program} {w : World} {K : PySem.W.Frag} {mg : Str → Option Value} {base : Heap} {t : Tab} (T : Txt K mg t) : FnOk P w K mg base (L2.CX P w) 12 t.a_law t.fd_law ["script"] (spLaw K) := by
  refine sp_weak (ok_law T) fun vs H Q E h => ?_
  obtain ⟨a, ns, rfl, hS, hl, hQ⟩ := h
  exact ⟨[], ns, .ref a, rfl, (fun x hx => nomatch hx), ⟨a, ns.map V.int, rfl, hS, AllR.ofImm ns, lim_le (by omega)⟩, fun b => b = true, fun _ => False, pure_law ns hl, (fun r hr H' s => by rw [show r = true from hr]; exact hQ H'), (fun er _ z => False.elim z)⟩

theorem kbind_turned_0_table_by {K : PySem.W.Frag} {a : Addr} {fd : FuncData} (F : Fun K "turned" "turned" s_turned a fd) : KBinds K fd ["table", "by"] ["table", "by"] gk_turned_0_table_by gk_turned_0_table_by := by
  obtain ⟨oc, od, kV, doc, pm, an, cdv, ct, osl, rfl, lk, hcd⟩ := F.ex
  refine ⟨fun s us ws _ hl => .of_eq ?_, fun {vs us zs ws} r rz => ?_⟩
  · revert hl
    unfold gk_turned_0_table_by
    split
    · intro hl
      rfl
    · intro hl
      cases hl
  · unfold gk_turned_0_table_by
    have hr := r.length
    have hz := rz.length
    split
    · match us, ws, r, rz with
      | _, _, .nil, .cons z0 (.cons z1 (.nil)) => exact .cons z0 (.cons z1 (.nil))
    · rename_i hn
      split
      · match vs, zs, r, rz with
        | _, _, .nil, .cons z0 (.cons z1 (.nil)) => exact (hn _ _ rfl rfl).elim
      · exact .nil
theorem kbind_weighted_0_table_end_factor {K : PySem.W.Frag} {a : Addr} {fd : FuncData} (F : Fun K "weighted" "weighted" s_weighted a fd) : KBinds K fd ["table", "end", "factor"] ["table", "end", "factor"] gk_weighted_0_table_end_factor gk_weighted_0_table_end_factor := by
  obtain ⟨oc, od, kV, doc, pm, an, cdv, ct, osl, rfl, lk, hcd⟩ := F.ex
  refine ⟨fun s us ws _ hl => .of_eq ?_, fun {vs us zs ws} r rz => ?_⟩
  · revert hl
    unfold gk_weighted_0_table_end_factor
    split
    · intro hl
      rfl
    · intro hl
      cases hl
  · unfold gk_weighted_0_table_end_factor
    have hr := r.length
    have hz := rz.length
    split
    · match us, ws, r, rz with
      | _, _, .nil, .cons z0 (.cons z1 (.cons z2 (.nil))) => exact .cons z0 (.cons z1 (.cons z2 (.nil)))
    · rename_i hn
      split
      · match vs, zs, r, rz with
        | _, _, .nil, .cons z0 (.cons z1 (.cons z2 (.nil))) => exact (hn _ _ _ rfl rfl).elim
      · exact .nil
theorem kbind_fixed_0_table_end_bit {K : PySem.W.Frag} {a : Addr} {fd : FuncData} (F : Fun K "fixed" "fixed" s_fixed a fd) : KBinds K fd ["table", "end", "bit"] ["table", "end", "bit"] gk_fixed_0_table_end_bit gk_fixed_0_table_end_bit := by
  obtain ⟨oc, od, kV, doc, pm, an, cdv, ct, osl, rfl, lk, hcd⟩ := F.ex
  refine ⟨fun s us ws _ hl => .of_eq ?_, fun {vs us zs ws} r rz => ?_⟩
  · revert hl
    unfold gk_fixed_0_table_end_bit
    split
    · intro hl
      rfl
    · intro hl
      cases hl
  · unfold gk_fixed_0_table_end_bit
    have hr := r.length
    have hz := rz.length
    split
    · match us, ws, r, rz with
      | _, _, .nil, .cons z0 (.cons z1 (.cons z2 (.nil))) => exact .cons z0 (.cons z1 (.cons z2 (.nil)))
    · rename_i hn
      split
      · match vs, zs, r, rz with
        | _, _, .nil, .cons z0 (.cons z1 (.cons z2 (.nil))) => exact (hn _ _ _ rfl rfl).elim
      · exact .nil
theorem kbind_tied_ends_0_table_end_weight {K : PySem.W.Frag} {a : Addr} {fd : FuncData} (F : Fun K "tied_ends" "tied_ends" s_tied_ends a fd) : KBinds K fd ["table", "end", "weight"] ["table", "end", "weight"] gk_tied_ends_0_table_end_weight gk_tied_ends_0_table_end_weight := by
  obtain ⟨oc, od, kV, doc, pm, an, cdv, ct, osl, rfl, lk, hcd⟩ := F.ex
  refine ⟨fun s us ws _ hl => .of_eq ?_, fun {vs us zs ws} r rz => ?_⟩
  · revert hl
    unfold gk_tied_ends_0_table_end_weight
    split
    · intro hl
      rfl
    · intro hl
      cases hl
  · unfold gk_tied_ends_0_table_end_weight
    have hr := r.length
    have hz := rz.length
    split
    · match us, ws, r, rz with
      | _, _, .nil, .cons z0 (.cons z1 (.cons z2 (.nil))) => exact .cons z0 (.cons z1 (.cons z2 (.nil)))
    · rename_i hn
      split
      · match vs, zs, r, rz with
        | _, _, .nil, .cons z0 (.cons z1 (.cons z2 (.nil))) => exact (hn _ _ _ rfl rfl).elim
      · exact .nil
theorem kbind_flipped_0_table_lot {K : PySem.W.Frag} {a : Addr} {fd : FuncData} (F : Fun K "flipped" "flipped" s_flipped a fd) : KBinds K fd ["table", "lot"] ["table", "lot"] gk_flipped_0_table_lot gk_flipped_0_table_lot := by
  obtain ⟨oc, od, kV, doc, pm, an, cdv, ct, osl, rfl, lk, hcd⟩ := F.ex
  refine ⟨fun s us ws _ hl => .of_eq ?_, fun {vs us zs ws} r rz => ?_⟩
  · revert hl
    unfold gk_flipped_0_table_lot
    split
    · intro hl
      rfl
    · intro hl
      cases hl
  · unfold gk_flipped_0_table_lot
    have hr := r.length
    have hz := rz.length
    split
    · match us, ws, r, rz with
      | _, _, .nil, .cons z0 (.cons z1 (.nil)) => exact .cons z0 (.cons z1 (.nil))
    · rename_i hn
      split
      · match vs, zs, r, rz with
        | _, _, .nil, .cons z0 (.cons z1 (.nil)) => exact (hn _ _ rfl rfl).elim
      · exact .nil
theorem kbind_mirrored_table_0_table {K : PySem.W.Frag} {a : Addr} {fd : FuncData} (F : Fun K "mirrored_table" "mirrored_table" s_mirrored_table a fd) : KBinds K fd ["table"] ["table"] gk_mirrored_table_0_table gk_mirrored_table_0_table := by
  obtain ⟨oc, od, kV, doc, pm, an, cdv, ct, osl, rfl, lk, hcd⟩ := F.ex
  refine ⟨fun s us ws _ hl => .of_eq ?_, fun {vs us zs ws} r rz => ?_⟩
  · revert hl
    unfold gk_mirrored_table_0_table
    split
    · intro hl
      rfl
    · intro hl
      cases hl
  · unfold gk_mirrored_table_0_table
    have hr := r.length
    have hz := rz.length
    split
    · match us, ws, r, rz with
      | _, _, .nil, .cons z0 (.nil) => exact .cons z0 (.nil)
    · rename_i hn
      split
      · match vs, zs, r, rz with
        | _, _, .nil, .cons z0 (.nil) => exact (hn _ rfl rfl).elim
      · exact .nil
theorem all_mk {l : PySem.W.OpenLaw} {w : World} {K : PySem.W.Frag} {h : Heap} {mg : Str → Option Value} {fa : Addr} (X : K.In h) (G : h.Ns mainGlobals mg) (hfa : mg "law" = some (.ref fa))
    {C_EndsError C_SizeError C_NumberError C_TwinError C_NodeError C_LegError C_PrimeError C_TextError C_Table f_SizeError_init f_NumberError_init f_TwinError_init f_NodeError_init f_LegError_init f_PrimeError_init f_TextError_init f_check_number f_is_odd_prime f_look_number f_look_list f_look_prime f_look_residue f_look_residues f_look_lot f_has f_check_lot f_turned_lot f_mirrored_lot f_Table_init f_turned f_mirrored_table f_flipped f_weighted f_wider_lot f_fixed f_tied_ends f_ulaw_draws f_ulaw_next f_ulaw_prime f_ulaw_residue f_ulaw_whole f_ulaw_got f_ulaw_same f_ulaw_bit_row f_ulaw_lot_of f_ulaw_names f_ulaw_done f_ulaw_tried f_ulaw_ends_left f_ulaw_old_lot f_ulaw_reckoned f_ulaw_right f_ulaw_named f_ulaw_refused f_law : Addr} {oc_SizeError_init kV_SizeError_init dc_SizeError_init pm_SizeError_init cd_SizeError_init ct_SizeError_init oc_NumberError_init kV_NumberError_init dc_NumberError_init pm_NumberError_init cd_NumberError_init ct_NumberError_init oc_TwinError_init kV_TwinError_init dc_TwinError_init pm_TwinError_init cd_TwinError_init ct_TwinError_init oc_NodeError_init kV_NodeError_init dc_NodeError_init pm_NodeError_init cd_NodeError_init ct_NodeError_init oc_LegError_init kV_LegError_init dc_LegError_init pm_LegError_init cd_LegError_init ct_LegError_init oc_PrimeError_init kV_PrimeError_init dc_PrimeError_init pm_PrimeError_init cd_PrimeError_init ct_PrimeError_init oc_TextError_init kV_TextError_init dc_TextError_init pm_TextError_init cd_TextError_init ct_TextError_init oc_check_number kV_check_number dc_check_number pm_check_number cd_check_number ct_check_number oc_is_odd_prime kV_is_odd_prime dc_is_odd_prime pm_is_odd_prime cd_is_odd_prime ct_is_odd_prime oc_look_number kV_look_number dc_look_number pm_look_number cd_look_number ct_look_number oc_look_list kV_look_list dc_look_list pm_look_list cd_look_list ct_look_list oc_look_prime kV_look_prime dc_look_prime pm_look_prime cd_look_prime ct_look_prime oc_look_residue kV_look_residue dc_look_residue pm_look_residue cd_look_residue ct_look_residue oc_look_residues kV_look_residues dc_look_residues pm_look_residues cd_look_residues ct_look_residues oc_look_lot kV_look_lot dc_look_lot pm_look_lot cd_look_lot ct_look_lot oc_has kV_has dc_has pm_has cd_has ct_has oc_check_lot kV_check_lot dc_check_lot pm_check_lot cd_check_lot ct_check_lot oc_turned_lot kV_turned_lot dc_turned_lot pm_turned_lot cd_turned_lot ct_turned_lot oc_mirrored_lot kV_mirrored_lot dc_mirrored_lot pm_mirrored_lot cd_mirrored_lot ct_mirrored_lot oc_Table_init kV_Table_init dc_Table_init pm_Table_init cd_Table_init ct_Table_init oc_turned kV_turned dc_turned pm_turned cd_turned ct_turned oc_mirrored_table kV_mirrored_table dc_mirrored_table pm_mirrored_table cd_mirrored_table ct_mirrored_table oc_flipped kV_flipped dc_flipped pm_flipped cd_flipped ct_flipped oc_weighted kV_weighted dc_weighted pm_weighted cd_weighted ct_weighted oc_wider_lot kV_wider_lot dc_wider_lot pm_wider_lot cd_wider_lot ct_wider_lot oc_fixed kV_fixed dc_fixed pm_fixed cd_fixed ct_fixed oc_tied_ends kV_tied_ends dc_tied_ends pm_tied_ends cd_tied_ends ct_tied_ends oc_ulaw_draws kV_ulaw_draws dc_ulaw_draws pm_ulaw_draws cd_ulaw_draws ct_ulaw_draws oc_ulaw_next kV_ulaw_next dc_ulaw_next pm_ulaw_next cd_ulaw_next ct_ulaw_next oc_ulaw_prime kV_ulaw_prime dc_ulaw_prime pm_ulaw_prime cd_ulaw_prime ct_ulaw_prime oc_ulaw_residue kV_ulaw_residue dc_ulaw_residue pm_ulaw_residue cd_ulaw_residue ct_ulaw_residue oc_ulaw_whole kV_ulaw_whole dc_ulaw_whole pm_ulaw_whole cd_ulaw_whole ct_ulaw_whole oc_ulaw_got kV_ulaw_got dc_ulaw_got pm_ulaw_got cd_ulaw_got ct_ulaw_got oc_ulaw_same kV_ulaw_same dc_ulaw_same pm_ulaw_same cd_ulaw_same ct_ulaw_same oc_ulaw_bit_row kV_ulaw_bit_row dc_ulaw_bit_row pm_ulaw_bit_row cd_ulaw_bit_row ct_ulaw_bit_row oc_ulaw_lot_of kV_ulaw_lot_of dc_ulaw_lot_of pm_ulaw_lot_of cd_ulaw_lot_of ct_ulaw_lot_of oc_ulaw_names kV_ulaw_names dc_ulaw_names pm_ulaw_names cd_ulaw_names ct_ulaw_names oc_ulaw_done kV_ulaw_done dc_ulaw_done pm_ulaw_done cd_ulaw_done ct_ulaw_done oc_ulaw_tried kV_ulaw_tried dc_ulaw_tried pm_ulaw_tried cd_ulaw_tried ct_ulaw_tried oc_ulaw_ends_left kV_ulaw_ends_left dc_ulaw_ends_left pm_ulaw_ends_left cd_ulaw_ends_left ct_ulaw_ends_left oc_ulaw_old_lot kV_ulaw_old_lot dc_ulaw_old_lot pm_ulaw_old_lot cd_ulaw_old_lot ct_ulaw_old_lot oc_ulaw_reckoned kV_ulaw_reckoned dc_ulaw_reckoned pm_ulaw_reckoned cd_ulaw_reckoned ct_ulaw_reckoned oc_ulaw_right kV_ulaw_right dc_ulaw_right pm_ulaw_right cd_ulaw_right ct_ulaw_right oc_ulaw_named kV_ulaw_named dc_ulaw_named pm_ulaw_named cd_ulaw_named ct_ulaw_named oc_ulaw_refused kV_ulaw_refused dc_ulaw_refused pm_ulaw_refused cd_ulaw_refused ct_ulaw_refused oc_law kV_law dc_law pm_law cd_law ct_law : Value} {od_SizeError_init an_SizeError_init od_NumberError_init an_NumberError_init od_TwinError_init an_TwinError_init od_NodeError_init an_NodeError_init od_LegError_init an_LegError_init od_PrimeError_init an_PrimeError_init od_TextError_init an_TextError_init od_check_number an_check_number od_is_odd_prime an_is_odd_prime od_look_number an_look_number od_look_list an_look_list od_look_prime an_look_prime od_look_residue an_look_residue od_look_residues an_look_residues od_look_lot an_look_lot od_has an_has od_check_lot an_check_lot od_turned_lot an_turned_lot od_mirrored_lot an_mirrored_lot od_Table_init an_Table_init od_turned an_turned od_mirrored_table an_mirrored_table od_flipped an_flipped od_weighted an_weighted od_wider_lot an_wider_lot od_fixed an_fixed od_tied_ends an_tied_ends od_ulaw_draws an_ulaw_draws od_ulaw_next an_ulaw_next od_ulaw_prime an_ulaw_prime od_ulaw_residue an_ulaw_residue od_ulaw_whole an_ulaw_whole od_ulaw_got an_ulaw_got od_ulaw_same an_ulaw_same od_ulaw_bit_row an_ulaw_bit_row od_ulaw_lot_of an_ulaw_lot_of od_ulaw_names an_ulaw_names od_ulaw_done an_ulaw_done od_ulaw_tried an_ulaw_tried od_ulaw_ends_left an_ulaw_ends_left od_ulaw_old_lot an_ulaw_old_lot od_ulaw_reckoned an_ulaw_reckoned od_ulaw_right an_ulaw_right od_ulaw_named an_ulaw_named od_ulaw_refused an_ulaw_refused od_law an_law : Option Addr} {sl_SizeError_init sl_NumberError_init sl_TwinError_init sl_NodeError_init sl_LegError_init sl_PrimeError_init sl_TextError_init sl_check_number sl_is_odd_prime sl_look_number sl_look_list sl_look_prime sl_look_residue sl_look_residues sl_look_lot sl_has sl_check_lot sl_turned_lot sl_mirrored_lot sl_Table_init sl_turned sl_mirrored_table sl_flipped sl_weighted sl_wider_lot sl_fixed sl_tied_ends sl_ulaw_draws sl_ulaw_next sl_ulaw_prime sl_ulaw_residue sl_ulaw_whole sl_ulaw_got sl_ulaw_same sl_ulaw_bit_row sl_ulaw_lot_of sl_ulaw_names sl_ulaw_done sl_ulaw_tried sl_ulaw_ends_left sl_ulaw_old_lot sl_ulaw_reckoned sl_ulaw_right sl_ulaw_named sl_ulaw_refused sl_law : Array (Option Value)} {k_MOST k_THINGS k_MOST_ENDS : Tok} {nm_SizeError q_SizeError : Str} {N_SizeError : Addr} {bs_SizeError bm_SizeError su_SizeError : List Value} {sn_SizeError : List Str} {ab_SizeError : Bool} {co_SizeError : Option Bool} {dd_SizeError : Option Addr} {k0_SizeError k1_SizeError k2_SizeError k3_SizeError k5_SizeError : Option Value} {nm_NumberError q_NumberError : Str} {N_NumberError : Addr} {bs_NumberError bm_NumberError su_NumberError : List Value} {sn_NumberError : List Str} {ab_NumberError : Bool} {co_NumberError : Option Bool} {dd_NumberError : Option Addr} {k0_NumberError k1_NumberError k2_NumberError k3_NumberError k5_NumberError : Option Value} {nm_TwinError q_TwinError : Str} {N_TwinError : Addr} {bs_TwinError bm_TwinError su_TwinError : List Value} {sn_TwinError : List Str} {ab_TwinError : Bool} {co_TwinError : Option Bool} {dd_TwinError : Option Addr} {k0_TwinError k1_TwinError k2_TwinError k3_TwinError k5_TwinError : Option Value} {nm_NodeError q_NodeError : Str} {N_NodeError : Addr} {bs_NodeError bm_NodeError su_NodeError : List Value} {sn_NodeError : List Str} {ab_NodeError : Bool} {co_NodeError : Option Bool} {dd_NodeError : Option Addr} {k0_NodeError k1_NodeError k2_NodeError k3_NodeError k5_NodeError : Option Value} {nm_LegError q_LegError : Str} {N_LegError : Addr} {bs_LegError bm_LegError su_LegError : List Value} {sn_LegError : List Str} {ab_LegError : Bool} {co_LegError : Option Bool} {dd_LegError : Option Addr} {k0_LegError k1_LegError k2_LegError k3_LegError k5_LegError : Option Value} {nm_PrimeError q_PrimeError : Str} {N_PrimeError : Addr} {bs_PrimeError bm_PrimeError su_PrimeError : List Value} {sn_PrimeError : List Str} {ab_PrimeError : Bool} {co_PrimeError : Option Bool} {dd_PrimeError : Option Addr} {k0_PrimeError k1_PrimeError k2_PrimeError k3_PrimeError k5_PrimeError : Option Value} {nm_TextError q_TextError : Str} {N_TextError : Addr} {bs_TextError bm_TextError su_TextError : List Value} {sn_TextError : List Str} {ab_TextError : Bool} {co_TextError : Option Bool} {dd_TextError : Option Addr} {k0_TextError k1_TextError k2_TextError k3_TextError k5_TextError : Option Value}
    (a_EndsError : PySem.W.nsIn K mainGlobals "EndsError" = some (some (.ref C_EndsError)))
    (hc_EndsError : PySem.W.isClsIn K C_EndsError = true)
    (hg_EndsError : PySem.W.findIn K (.ref C_EndsError) "__getattribute__" = some (some (.builtin "BaseException.__getattribute__")))
    (hk_EndsError : PySem.W.findIn K (.ref C_EndsError) "__getattr__" = some none)
    (hs_EndsError : PySem.W.subIn K (.ref C_EndsError) (.type "BaseException") = some true)
    (hd_EndsError : PySem.W.hasDictIn K C_EndsError = true)
    (ha_EndsError : PySem.W.findIn K (.ref C_EndsError) "__class__" = some (some (.builtin "object.__class__")))
    (hm_EndsError : PySem.W.mroIn K C_EndsError (.type "object") = some true)
    (ty_EndsError : PySem.W.typeIn K (.ref C_EndsError) = some (.type "type"))
    (kc_EndsError : PySem.W.keepIn K (.ref C_EndsError) = true)
    (ex_EndsError : PySem.W.excIn K C_EndsError [.type "ValueError", .type "Exception", .type "BaseException", .type "object"] "ValueError.__new__" = true)
    (a_SizeError : PySem.W.nsIn K mainGlobals "SizeError" = some (some (.ref C_SizeError)))
    (hc_SizeError : PySem.W.isClsIn K C_SizeError = true)
    (hg_SizeError : PySem.W.findIn K (.ref C_SizeError) "__getattribute__" = some (some (.builtin "BaseException.__getattribute__")))
    (hk_SizeError : PySem.W.findIn K (.ref C_SizeError) "__getattr__" = some none)
    (hs_SizeError : PySem.W.subIn K (.ref C_SizeError) (.type "BaseException") = some true)
    (hd_SizeError : PySem.W.hasDictIn K C_SizeError = true)
    (ha_SizeError : PySem.W.findIn K (.ref C_SizeError) "__class__" = some (some (.builtin "object.__class__")))
    (hm_SizeError : PySem.W.mroIn K C_SizeError (.type "object") = some true)
    (ty_SizeError : PySem.W.typeIn K (.ref C_SizeError) = some (.type "type"))
    (kc_SizeError : PySem.W.keepIn K (.ref C_SizeError) = true)
    (i_SizeError : PySem.W.findIn K (.ref C_SizeError) "__init__" = some (some (.ref f_SizeError_init)))
    (xl_SizeError : K.lookup C_SizeError = some (excClassObj nm_SizeError q_SizeError C_SizeError N_SizeError bs_SizeError bm_SizeError true sn_SizeError su_SizeError ab_SizeError co_SizeError dd_SizeError k0_SizeError k1_SizeError k2_SizeError k3_SizeError k5_SizeError "ValueError.__new__"))
    (xr_SizeError : PySem.HandSPX.refsVE bm_SizeError = true)
    (sa_SizeError : PySem.W.findIn K (.ref C_SizeError) "__setattr__" = some (some (.builtin "object.__setattr__")))
    (xn_SizeError_count : PySem.W.findIn K (.ref C_SizeError) "count" = some none)
    (a_NumberError : PySem.W.nsIn K mainGlobals "NumberError" = some (some (.ref C_NumberError)))
    (hc_NumberError : PySem.W.isClsIn K C_NumberError = true)
    (hg_NumberError : PySem.W.findIn K (.ref C_NumberError) "__getattribute__" = some (some (.builtin "BaseException.__getattribute__")))
    (hk_NumberError : PySem.W.findIn K (.ref C_NumberError) "__getattr__" = some none)
    (hs_NumberError : PySem.W.subIn K (.ref C_NumberError) (.type "BaseException") = some true)
    (hd_NumberError : PySem.W.hasDictIn K C_NumberError = true)
    (ha_NumberError : PySem.W.findIn K (.ref C_NumberError) "__class__" = some (some (.builtin "object.__class__")))
    (hm_NumberError : PySem.W.mroIn K C_NumberError (.type "object") = some true)
    (ty_NumberError : PySem.W.typeIn K (.ref C_NumberError) = some (.type "type"))
    (kc_NumberError : PySem.W.keepIn K (.ref C_NumberError) = true)
    (i_NumberError : PySem.W.findIn K (.ref C_NumberError) "__init__" = some (some (.ref f_NumberError_init)))
    (xl_NumberError : K.lookup C_NumberError = some (excClassObj nm_NumberError q_NumberError C_NumberError N_NumberError bs_NumberError bm_NumberError true sn_NumberError su_NumberError ab_NumberError co_NumberError dd_NumberError k0_NumberError k1_NumberError k2_NumberError k3_NumberError k5_NumberError "ValueError.__new__"))
    (xr_NumberError : PySem.HandSPX.refsVE bm_NumberError = true)
    (sa_NumberError : PySem.W.findIn K (.ref C_NumberError) "__setattr__" = some (some (.builtin "object.__setattr__")))
    (xn_NumberError_number : PySem.W.findIn K (.ref C_NumberError) "number" = some none)
    (a_TwinError : PySem.W.nsIn K mainGlobals "TwinError" = some (some (.ref C_TwinError)))
    (hc_TwinError : PySem.W.isClsIn K C_TwinError = true)
    (hg_TwinError : PySem.W.findIn K (.ref C_TwinError) "__getattribute__" = some (some (.builtin "BaseException.__getattribute__")))
    (hk_TwinError : PySem.W.findIn K (.ref C_TwinError) "__getattr__" = some none)
    (hs_TwinError : PySem.W.subIn K (.ref C_TwinError) (.type "BaseException") = some true)
    (hd_TwinError : PySem.W.hasDictIn K C_TwinError = true)
    (ha_TwinError : PySem.W.findIn K (.ref C_TwinError) "__class__" = some (some (.builtin "object.__class__")))
    (hm_TwinError : PySem.W.mroIn K C_TwinError (.type "object") = some true)
    (ty_TwinError : PySem.W.typeIn K (.ref C_TwinError) = some (.type "type"))
    (kc_TwinError : PySem.W.keepIn K (.ref C_TwinError) = true)
    (i_TwinError : PySem.W.findIn K (.ref C_TwinError) "__init__" = some (some (.ref f_TwinError_init)))
    (xl_TwinError : K.lookup C_TwinError = some (excClassObj nm_TwinError q_TwinError C_TwinError N_TwinError bs_TwinError bm_TwinError true sn_TwinError su_TwinError ab_TwinError co_TwinError dd_TwinError k0_TwinError k1_TwinError k2_TwinError k3_TwinError k5_TwinError "ValueError.__new__"))
    (xr_TwinError : PySem.HandSPX.refsVE bm_TwinError = true)
    (sa_TwinError : PySem.W.findIn K (.ref C_TwinError) "__setattr__" = some (some (.builtin "object.__setattr__")))
    (xn_TwinError_number : PySem.W.findIn K (.ref C_TwinError) "number" = some none)
    (a_NodeError : PySem.W.nsIn K mainGlobals "NodeError" = some (some (.ref C_NodeError)))
    (hc_NodeError : PySem.W.isClsIn K C_NodeError = true)
    (hg_NodeError : PySem.W.findIn K (.ref C_NodeError) "__getattribute__" = some (some (.builtin "BaseException.__getattribute__")))
    (hk_NodeError : PySem.W.findIn K (.ref C_NodeError) "__getattr__" = some none)
    (hs_NodeError : PySem.W.subIn K (.ref C_NodeError) (.type "BaseException") = some true)
    (hd_NodeError : PySem.W.hasDictIn K C_NodeError = true)
    (ha_NodeError : PySem.W.findIn K (.ref C_NodeError) "__class__" = some (some (.builtin "object.__class__")))
    (hm_NodeError : PySem.W.mroIn K C_NodeError (.type "object") = some true)
    (ty_NodeError : PySem.W.typeIn K (.ref C_NodeError) = some (.type "type"))
    (kc_NodeError : PySem.W.keepIn K (.ref C_NodeError) = true)
    (i_NodeError : PySem.W.findIn K (.ref C_NodeError) "__init__" = some (some (.ref f_NodeError_init)))
    (xl_NodeError : K.lookup C_NodeError = some (excClassObj nm_NodeError q_NodeError C_NodeError N_NodeError bs_NodeError bm_NodeError true sn_NodeError su_NodeError ab_NodeError co_NodeError dd_NodeError k0_NodeError k1_NodeError k2_NodeError k3_NodeError k5_NodeError "ValueError.__new__"))
    (xr_NodeError : PySem.HandSPX.refsVE bm_NodeError = true)
    (sa_NodeError : PySem.W.findIn K (.ref C_NodeError) "__setattr__" = some (some (.builtin "object.__setattr__")))
    (xn_NodeError_node : PySem.W.findIn K (.ref C_NodeError) "node" = some none)
    (a_LegError : PySem.W.nsIn K mainGlobals "LegError" = some (some (.ref C_LegError)))
    (hc_LegError : PySem.W.isClsIn K C_LegError = true)
    (hg_LegError : PySem.W.findIn K (.ref C_LegError) "__getattribute__" = some (some (.builtin "BaseException.__getattribute__")))
    (hk_LegError : PySem.W.findIn K (.ref C_LegError) "__getattr__" = some none)
    (hs_LegError : PySem.W.subIn K (.ref C_LegError) (.type "BaseException") = some true)
    (hd_LegError : PySem.W.hasDictIn K C_LegError = true)
    (ha_LegError : PySem.W.findIn K (.ref C_LegError) "__class__" = some (some (.builtin "object.__class__")))
    (hm_LegError : PySem.W.mroIn K C_LegError (.type "object") = some true)
    (ty_LegError : PySem.W.typeIn K (.ref C_LegError) = some (.type "type"))
    (kc_LegError : PySem.W.keepIn K (.ref C_LegError) = true)
    (i_LegError : PySem.W.findIn K (.ref C_LegError) "__init__" = some (some (.ref f_LegError_init)))
    (xl_LegError : K.lookup C_LegError = some (excClassObj nm_LegError q_LegError C_LegError N_LegError bs_LegError bm_LegError true sn_LegError su_LegError ab_LegError co_LegError dd_LegError k0_LegError k1_LegError k2_LegError k3_LegError k5_LegError "ValueError.__new__"))
    (xr_LegError : PySem.HandSPX.refsVE bm_LegError = true)
    (sa_LegError : PySem.W.findIn K (.ref C_LegError) "__setattr__" = some (some (.builtin "object.__setattr__")))
    (xn_LegError_leg : PySem.W.findIn K (.ref C_LegError) "leg" = some none)
    (a_PrimeError : PySem.W.nsIn K mainGlobals "PrimeError" = some (some (.ref C_PrimeError)))
    (hc_PrimeError : PySem.W.isClsIn K C_PrimeError = true)
    (hg_PrimeError : PySem.W.findIn K (.ref C_PrimeError) "__getattribute__" = some (some (.builtin "BaseException.__getattribute__")))
    (hk_PrimeError : PySem.W.findIn K (.ref C_PrimeError) "__getattr__" = some none)
    (hs_PrimeError : PySem.W.subIn K (.ref C_PrimeError) (.type "BaseException") = some true)
    (hd_PrimeError : PySem.W.hasDictIn K C_PrimeError = true)
    (ha_PrimeError : PySem.W.findIn K (.ref C_PrimeError) "__class__" = some (some (.builtin "object.__class__")))
    (hm_PrimeError : PySem.W.mroIn K C_PrimeError (.type "object") = some true)
    (ty_PrimeError : PySem.W.typeIn K (.ref C_PrimeError) = some (.type "type"))
    (kc_PrimeError : PySem.W.keepIn K (.ref C_PrimeError) = true)
    (i_PrimeError : PySem.W.findIn K (.ref C_PrimeError) "__init__" = some (some (.ref f_PrimeError_init)))
    (xl_PrimeError : K.lookup C_PrimeError = some (excClassObj nm_PrimeError q_PrimeError C_PrimeError N_PrimeError bs_PrimeError bm_PrimeError true sn_PrimeError su_PrimeError ab_PrimeError co_PrimeError dd_PrimeError k0_PrimeError k1_PrimeError k2_PrimeError k3_PrimeError k5_PrimeError "ValueError.__new__"))
    (xr_PrimeError : PySem.HandSPX.refsVE bm_PrimeError = true)
    (sa_PrimeError : PySem.W.findIn K (.ref C_PrimeError) "__setattr__" = some (some (.builtin "object.__setattr__")))
    (xn_PrimeError_prime : PySem.W.findIn K (.ref C_PrimeError) "prime" = some none)
    (a_TextError : PySem.W.nsIn K mainGlobals "TextError" = some (some (.ref C_TextError)))
    (hc_TextError : PySem.W.isClsIn K C_TextError = true)
    (hg_TextError : PySem.W.findIn K (.ref C_TextError) "__getattribute__" = some (some (.builtin "BaseException.__getattribute__")))
    (hk_TextError : PySem.W.findIn K (.ref C_TextError) "__getattr__" = some none)
    (hs_TextError : PySem.W.subIn K (.ref C_TextError) (.type "BaseException") = some true)
    (hd_TextError : PySem.W.hasDictIn K C_TextError = true)
    (ha_TextError : PySem.W.findIn K (.ref C_TextError) "__class__" = some (some (.builtin "object.__class__")))
    (hm_TextError : PySem.W.mroIn K C_TextError (.type "object") = some true)
    (ty_TextError : PySem.W.typeIn K (.ref C_TextError) = some (.type "type"))
    (kc_TextError : PySem.W.keepIn K (.ref C_TextError) = true)
    (i_TextError : PySem.W.findIn K (.ref C_TextError) "__init__" = some (some (.ref f_TextError_init)))
    (xl_TextError : K.lookup C_TextError = some (excClassObj nm_TextError q_TextError C_TextError N_TextError bs_TextError bm_TextError true sn_TextError su_TextError ab_TextError co_TextError dd_TextError k0_TextError k1_TextError k2_TextError k3_TextError k5_TextError "ValueError.__new__"))
    (xr_TextError : PySem.HandSPX.refsVE bm_TextError = true)
    (sa_TextError : PySem.W.findIn K (.ref C_TextError) "__setattr__" = some (some (.builtin "object.__setattr__")))
    (xn_TextError_line : PySem.W.findIn K (.ref C_TextError) "line" = some none)
    (a_Table : PySem.W.nsIn K mainGlobals "Table" = some (some (.ref C_Table)))
    (pg_Table : PySem.W.plainGet K C_Table Str.empty = true)
    (hd_Table : PySem.W.hasDictIn K C_Table = true)
    (po_Table : PySem.W.plainOver K C_Table = true)
    (sa_Table : PySem.W.findIn K (.ref C_Table) "__setattr__" = some (some (.builtin "object.__setattr__")))
    (mk_Table : PySem.W.makesIn K C_Table = true)
    (kc_Table : PySem.W.keepIn K (.ref C_Table) = true)
    (ha_Table : PySem.W.findIn K (.ref C_Table) "__class__" = some (some (.builtin "object.__class__")))
    (hm_Table : PySem.W.mroIn K C_Table (.type "object") = some true)
    (ks_Table : PySem.W.kitOne K (.ref C_Table) (.ref C_Table) = some true)
    (na_Table_prime : PySem.W.findIn K (.ref C_Table) "prime" = some none)
    (na_Table_ends : PySem.W.findIn K (.ref C_Table) "ends" = some none)
    (na_Table_entries : PySem.W.findIn K (.ref C_Table) "entries" = some none)
    (m_Table_init : PySem.W.findIn K (.ref C_Table) "__init__" = some (some (.ref f_Table_init)))
    (fn_Table_init : PySem.W.isFn K (.ref f_Table_init) = true)
    (hnD : PySem.W.specialIn K (.builtin "object.__class__") "__get__" = some (some (.builtin "getset_descriptor.__get__")))
    (htD : PySem.W.takesIn K (.builtin "object.__class__") = some true)
    (l_SizeError_init : K.lookup f_SizeError_init = some ⟨oc_SizeError_init, od_SizeError_init, .func (PySem.W.fnOf "__init__" "SizeError.__init__" (defArgs s_SizeError_init) (defBody s_SizeError_init) (defScope s_SizeError_init) .none kV_SizeError_init dc_SizeError_init pm_SizeError_init an_SizeError_init cd_SizeError_init ct_SizeError_init), sl_SizeError_init⟩)
    (c_SizeError_init : PySem.W.codeIn K cd_SizeError_init "SizeError.__init__" = true)
    (k_SizeError_init : PySem.W.keepIn K (.ref f_SizeError_init) = true)
    (t_SizeError_init : PySem.W.typeIn K (.ref f_SizeError_init) = some (.type "function"))
    (l_NumberError_init : K.lookup f_NumberError_init = some ⟨oc_NumberError_init, od_NumberError_init, .func (PySem.W.fnOf "__init__" "NumberError.__init__" (defArgs s_NumberError_init) (defBody s_NumberError_init) (defScope s_NumberError_init) .none kV_NumberError_init dc_NumberError_init pm_NumberError_init an_NumberError_init cd_NumberError_init ct_NumberError_init), sl_NumberError_init⟩)
    (c_NumberError_init : PySem.W.codeIn K cd_NumberError_init "NumberError.__init__" = true)
    (k_NumberError_init : PySem.W.keepIn K (.ref f_NumberError_init) = true)
    (t_NumberError_init : PySem.W.typeIn K (.ref f_NumberError_init) = some (.type "function"))
    (l_TwinError_init : K.lookup f_TwinError_init = some ⟨oc_TwinError_init, od_TwinError_init, .func (PySem.W.fnOf "__init__" "TwinError.__init__" (defArgs s_TwinError_init) (defBody s_TwinError_init) (defScope s_TwinError_init) .none kV_TwinError_init dc_TwinError_init pm_TwinError_init an_TwinError_init cd_TwinError_init ct_TwinError_init), sl_TwinError_init⟩)
    (c_TwinError_init : PySem.W.codeIn K cd_TwinError_init "TwinError.__init__" = true)
    (k_TwinError_init : PySem.W.keepIn K (.ref f_TwinError_init) = true)
    (t_TwinError_init : PySem.W.typeIn K (.ref f_TwinError_init) = some (.type "function"))
    (l_NodeError_init : K.lookup f_NodeError_init = some ⟨oc_NodeError_init, od_NodeError_init, .func (PySem.W.fnOf "__init__" "NodeError.__init__" (defArgs s_NodeError_init) (defBody s_NodeError_init) (defScope s_NodeError_init) .none kV_NodeError_init dc_NodeError_init pm_NodeError_init an_NodeError_init cd_NodeError_init ct_NodeError_init), sl_NodeError_init⟩)
    (c_NodeError_init : PySem.W.codeIn K cd_NodeError_init "NodeError.__init__" = true)
    (k_NodeError_init : PySem.W.keepIn K (.ref f_NodeError_init) = true)
    (t_NodeError_init : PySem.W.typeIn K (.ref f_NodeError_init) = some (.type "function"))
    (l_LegError_init : K.lookup f_LegError_init = some ⟨oc_LegError_init, od_LegError_init, .func (PySem.W.fnOf "__init__" "LegError.__init__" (defArgs s_LegError_init) (defBody s_LegError_init) (defScope s_LegError_init) .none kV_LegError_init dc_LegError_init pm_LegError_init an_LegError_init cd_LegError_init ct_LegError_init), sl_LegError_init⟩)
    (c_LegError_init : PySem.W.codeIn K cd_LegError_init "LegError.__init__" = true)
    (k_LegError_init : PySem.W.keepIn K (.ref f_LegError_init) = true)
    (t_LegError_init : PySem.W.typeIn K (.ref f_LegError_init) = some (.type "function"))
    (l_PrimeError_init : K.lookup f_PrimeError_init = some ⟨oc_PrimeError_init, od_PrimeError_init, .func (PySem.W.fnOf "__init__" "PrimeError.__init__" (defArgs s_PrimeError_init) (defBody s_PrimeError_init) (defScope s_PrimeError_init) .none kV_PrimeError_init dc_PrimeError_init pm_PrimeError_init an_PrimeError_init cd_PrimeError_init ct_PrimeError_init), sl_PrimeError_init⟩)
    (c_PrimeError_init : PySem.W.codeIn K cd_PrimeError_init "PrimeError.__init__" = true)
    (k_PrimeError_init : PySem.W.keepIn K (.ref f_PrimeError_init) = true)
    (t_PrimeError_init : PySem.W.typeIn K (.ref f_PrimeError_init) = some (.type "function"))
    (l_TextError_init : K.lookup f_TextError_init = some ⟨oc_TextError_init, od_TextError_init, .func (PySem.W.fnOf "__init__" "TextError.__init__" (defArgs s_TextError_init) (defBody s_TextError_init) (defScope s_TextError_init) .none kV_TextError_init dc_TextError_init pm_TextError_init an_TextError_init cd_TextError_init ct_TextError_init), sl_TextError_init⟩)
    (c_TextError_init : PySem.W.codeIn K cd_TextError_init "TextError.__init__" = true)
    (k_TextError_init : PySem.W.keepIn K (.ref f_TextError_init) = true)
    (t_TextError_init : PySem.W.typeIn K (.ref f_TextError_init) = some (.type "function"))
    (a_check_number : PySem.W.nsIn K mainGlobals "check_number" = some (some (.ref f_check_number)))
    (l_check_number : K.lookup f_check_number = some ⟨oc_check_number, od_check_number, .func (PySem.W.fnOf "check_number" "check_number" (defArgs s_check_number) (defBody s_check_number) (defScope s_check_number) .none kV_check_number dc_check_number pm_check_number an_check_number cd_check_number ct_check_number), sl_check_number⟩)
    (c_check_number : PySem.W.codeIn K cd_check_number "check_number" = true)
    (k_check_number : PySem.W.keepIn K (.ref f_check_number) = true)
    (a_is_odd_prime : PySem.W.nsIn K mainGlobals "is_odd_prime" = some (some (.ref f_is_odd_prime)))
    (l_is_odd_prime : K.lookup f_is_odd_prime = some ⟨oc_is_odd_prime, od_is_odd_prime, .func (PySem.W.fnOf "is_odd_prime" "is_odd_prime" (defArgs s_is_odd_prime) (defBody s_is_odd_prime) (defScope s_is_odd_prime) .none kV_is_odd_prime dc_is_odd_prime pm_is_odd_prime an_is_odd_prime cd_is_odd_prime ct_is_odd_prime), sl_is_odd_prime⟩)
    (c_is_odd_prime : PySem.W.codeIn K cd_is_odd_prime "is_odd_prime" = true)
    (k_is_odd_prime : PySem.W.keepIn K (.ref f_is_odd_prime) = true)
    (a_look_number : PySem.W.nsIn K mainGlobals "look_number" = some (some (.ref f_look_number)))
    (l_look_number : K.lookup f_look_number = some ⟨oc_look_number, od_look_number, .func (PySem.W.fnOf "look_number" "look_number" (defArgs s_look_number) (defBody s_look_number) (defScope s_look_number) .none kV_look_number dc_look_number pm_look_number an_look_number cd_look_number ct_look_number), sl_look_number⟩)
    (c_look_number : PySem.W.codeIn K cd_look_number "look_number" = true)
    (k_look_number : PySem.W.keepIn K (.ref f_look_number) = true)
    (a_look_list : PySem.W.nsIn K mainGlobals "look_list" = some (some (.ref f_look_list)))
    (l_look_list : K.lookup f_look_list = some ⟨oc_look_list, od_look_list, .func (PySem.W.fnOf "look_list" "look_list" (defArgs s_look_list) (defBody s_look_list) (defScope s_look_list) .none kV_look_list dc_look_list pm_look_list an_look_list cd_look_list ct_look_list), sl_look_list⟩)
    (c_look_list : PySem.W.codeIn K cd_look_list "look_list" = true)
    (k_look_list : PySem.W.keepIn K (.ref f_look_list) = true)
    (a_look_prime : PySem.W.nsIn K mainGlobals "look_prime" = some (some (.ref f_look_prime)))
    (l_look_prime : K.lookup f_look_prime = some ⟨oc_look_prime, od_look_prime, .func (PySem.W.fnOf "look_prime" "look_prime" (defArgs s_look_prime) (defBody s_look_prime) (defScope s_look_prime) .none kV_look_prime dc_look_prime pm_look_prime an_look_prime cd_look_prime ct_look_prime), sl_look_prime⟩)
    (c_look_prime : PySem.W.codeIn K cd_look_prime "look_prime" = true)
    (k_look_prime : PySem.W.keepIn K (.ref f_look_prime) = true)
    (a_look_residue : PySem.W.nsIn K mainGlobals "look_residue" = some (some (.ref f_look_residue)))
    (l_look_residue : K.lookup f_look_residue = some ⟨oc_look_residue, od_look_residue, .func (PySem.W.fnOf "look_residue" "look_residue" (defArgs s_look_residue) (defBody s_look_residue) (defScope s_look_residue) .none kV_look_residue dc_look_residue pm_look_residue an_look_residue cd_look_residue ct_look_residue), sl_look_residue⟩)
    (c_look_residue : PySem.W.codeIn K cd_look_residue "look_residue" = true)
    (k_look_residue : PySem.W.keepIn K (.ref f_look_residue) = true)
    (a_look_residues : PySem.W.nsIn K mainGlobals "look_residues" = some (some (.ref f_look_residues)))
    (l_look_residues : K.lookup f_look_residues = some ⟨oc_look_residues, od_look_residues, .func (PySem.W.fnOf "look_residues" "look_residues" (defArgs s_look_residues) (defBody s_look_residues) (defScope s_look_residues) .none kV_look_residues dc_look_residues pm_look_residues an_look_residues cd_look_residues ct_look_residues), sl_look_residues⟩)
    (c_look_residues : PySem.W.codeIn K cd_look_residues "look_residues" = true)
    (k_look_residues : PySem.W.keepIn K (.ref f_look_residues) = true)
    (a_look_lot : PySem.W.nsIn K mainGlobals "look_lot" = some (some (.ref f_look_lot)))
    (l_look_lot : K.lookup f_look_lot = some ⟨oc_look_lot, od_look_lot, .func (PySem.W.fnOf "look_lot" "look_lot" (defArgs s_look_lot) (defBody s_look_lot) (defScope s_look_lot) .none kV_look_lot dc_look_lot pm_look_lot an_look_lot cd_look_lot ct_look_lot), sl_look_lot⟩)
    (c_look_lot : PySem.W.codeIn K cd_look_lot "look_lot" = true)
    (k_look_lot : PySem.W.keepIn K (.ref f_look_lot) = true)
    (a_has : PySem.W.nsIn K mainGlobals "has" = some (some (.ref f_has)))
    (l_has : K.lookup f_has = some ⟨oc_has, od_has, .func (PySem.W.fnOf "has" "has" (defArgs s_has) (defBody s_has) (defScope s_has) .none kV_has dc_has pm_has an_has cd_has ct_has), sl_has⟩)
    (c_has : PySem.W.codeIn K cd_has "has" = true)
    (k_has : PySem.W.keepIn K (.ref f_has) = true)
    (a_check_lot : PySem.W.nsIn K mainGlobals "check_lot" = some (some (.ref f_check_lot)))
    (l_check_lot : K.lookup f_check_lot = some ⟨oc_check_lot, od_check_lot, .func (PySem.W.fnOf "check_lot" "check_lot" (defArgs s_check_lot) (defBody s_check_lot) (defScope s_check_lot) .none kV_check_lot dc_check_lot pm_check_lot an_check_lot cd_check_lot ct_check_lot), sl_check_lot⟩)
    (c_check_lot : PySem.W.codeIn K cd_check_lot "check_lot" = true)
    (k_check_lot : PySem.W.keepIn K (.ref f_check_lot) = true)
    (a_turned_lot : PySem.W.nsIn K mainGlobals "turned_lot" = some (some (.ref f_turned_lot)))
    (l_turned_lot : K.lookup f_turned_lot = some ⟨oc_turned_lot, od_turned_lot, .func (PySem.W.fnOf "turned_lot" "turned_lot" (defArgs s_turned_lot) (defBody s_turned_lot) (defScope s_turned_lot) .none kV_turned_lot dc_turned_lot pm_turned_lot an_turned_lot cd_turned_lot ct_turned_lot), sl_turned_lot⟩)
    (c_turned_lot : PySem.W.codeIn K cd_turned_lot "turned_lot" = true)
    (k_turned_lot : PySem.W.keepIn K (.ref f_turned_lot) = true)
    (a_mirrored_lot : PySem.W.nsIn K mainGlobals "mirrored_lot" = some (some (.ref f_mirrored_lot)))
    (l_mirrored_lot : K.lookup f_mirrored_lot = some ⟨oc_mirrored_lot, od_mirrored_lot, .func (PySem.W.fnOf "mirrored_lot" "mirrored_lot" (defArgs s_mirrored_lot) (defBody s_mirrored_lot) (defScope s_mirrored_lot) .none kV_mirrored_lot dc_mirrored_lot pm_mirrored_lot an_mirrored_lot cd_mirrored_lot ct_mirrored_lot), sl_mirrored_lot⟩)
    (c_mirrored_lot : PySem.W.codeIn K cd_mirrored_lot "mirrored_lot" = true)
    (k_mirrored_lot : PySem.W.keepIn K (.ref f_mirrored_lot) = true)
    (l_Table_init : K.lookup f_Table_init = some ⟨oc_Table_init, od_Table_init, .func (PySem.W.fnOf "__init__" "Table.__init__" (defArgs s_Table_init) (defBody s_Table_init) (defScope s_Table_init) .none kV_Table_init dc_Table_init pm_Table_init an_Table_init cd_Table_init ct_Table_init), sl_Table_init⟩)
    (c_Table_init : PySem.W.codeIn K cd_Table_init "Table.__init__" = true)
    (k_Table_init : PySem.W.keepIn K (.ref f_Table_init) = true)
    (a_turned : PySem.W.nsIn K mainGlobals "turned" = some (some (.ref f_turned)))
    (l_turned : K.lookup f_turned = some ⟨oc_turned, od_turned, .func (PySem.W.fnOf "turned" "turned" (defArgs s_turned) (defBody s_turned) (defScope s_turned) .none kV_turned dc_turned pm_turned an_turned cd_turned ct_turned), sl_turned⟩)
    (c_turned : PySem.W.codeIn K cd_turned "turned" = true)
    (k_turned : PySem.W.keepIn K (.ref f_turned) = true)
    (a_mirrored_table : PySem.W.nsIn K mainGlobals "mirrored_table" = some (some (.ref f_mirrored_table)))
    (l_mirrored_table : K.lookup f_mirrored_table = some ⟨oc_mirrored_table, od_mirrored_table, .func (PySem.W.fnOf "mirrored_table" "mirrored_table" (defArgs s_mirrored_table) (defBody s_mirrored_table) (defScope s_mirrored_table) .none kV_mirrored_table dc_mirrored_table pm_mirrored_table an_mirrored_table cd_mirrored_table ct_mirrored_table), sl_mirrored_table⟩)
    (c_mirrored_table : PySem.W.codeIn K cd_mirrored_table "mirrored_table" = true)
    (k_mirrored_table : PySem.W.keepIn K (.ref f_mirrored_table) = true)
    (a_flipped : PySem.W.nsIn K mainGlobals "flipped" = some (some (.ref f_flipped)))
    (l_flipped : K.lookup f_flipped = some ⟨oc_flipped, od_flipped, .func (PySem.W.fnOf "flipped" "flipped" (defArgs s_flipped) (defBody s_flipped) (defScope s_flipped) .none kV_flipped dc_flipped pm_flipped an_flipped cd_flipped ct_flipped), sl_flipped⟩)
    (c_flipped : PySem.W.codeIn K cd_flipped "flipped" = true)
    (k_flipped : PySem.W.keepIn K (.ref f_flipped) = true)
    (a_weighted : PySem.W.nsIn K mainGlobals "weighted" = some (some (.ref f_weighted)))
    (l_weighted : K.lookup f_weighted = some ⟨oc_weighted, od_weighted, .func (PySem.W.fnOf "weighted" "weighted" (defArgs s_weighted) (defBody s_weighted) (defScope s_weighted) .none kV_weighted dc_weighted pm_weighted an_weighted cd_weighted ct_weighted), sl_weighted⟩)
    (c_weighted : PySem.W.codeIn K cd_weighted "weighted" = true)
    (k_weighted : PySem.W.keepIn K (.ref f_weighted) = true)
    (a_wider_lot : PySem.W.nsIn K mainGlobals "wider_lot" = some (some (.ref f_wider_lot)))
    (l_wider_lot : K.lookup f_wider_lot = some ⟨oc_wider_lot, od_wider_lot, .func (PySem.W.fnOf "wider_lot" "wider_lot" (defArgs s_wider_lot) (defBody s_wider_lot) (defScope s_wider_lot) .none kV_wider_lot dc_wider_lot pm_wider_lot an_wider_lot cd_wider_lot ct_wider_lot), sl_wider_lot⟩)
    (c_wider_lot : PySem.W.codeIn K cd_wider_lot "wider_lot" = true)
    (k_wider_lot : PySem.W.keepIn K (.ref f_wider_lot) = true)
    (a_fixed : PySem.W.nsIn K mainGlobals "fixed" = some (some (.ref f_fixed)))
    (l_fixed : K.lookup f_fixed = some ⟨oc_fixed, od_fixed, .func (PySem.W.fnOf "fixed" "fixed" (defArgs s_fixed) (defBody s_fixed) (defScope s_fixed) .none kV_fixed dc_fixed pm_fixed an_fixed cd_fixed ct_fixed), sl_fixed⟩)
    (c_fixed : PySem.W.codeIn K cd_fixed "fixed" = true)
    (k_fixed : PySem.W.keepIn K (.ref f_fixed) = true)
    (a_tied_ends : PySem.W.nsIn K mainGlobals "tied_ends" = some (some (.ref f_tied_ends)))
    (l_tied_ends : K.lookup f_tied_ends = some ⟨oc_tied_ends, od_tied_ends, .func (PySem.W.fnOf "tied_ends" "tied_ends" (defArgs s_tied_ends) (defBody s_tied_ends) (defScope s_tied_ends) .none kV_tied_ends dc_tied_ends pm_tied_ends an_tied_ends cd_tied_ends ct_tied_ends), sl_tied_ends⟩)
    (c_tied_ends : PySem.W.codeIn K cd_tied_ends "tied_ends" = true)
    (k_tied_ends : PySem.W.keepIn K (.ref f_tied_ends) = true)
    (a_ulaw_draws : PySem.W.nsIn K mainGlobals "_law_draws" = some (some (.ref f_ulaw_draws)))
    (l_ulaw_draws : K.lookup f_ulaw_draws = some ⟨oc_ulaw_draws, od_ulaw_draws, .func (PySem.W.fnOf "_law_draws" "_law_draws" (defArgs s_ulaw_draws) (defBody s_ulaw_draws) (defScope s_ulaw_draws) .none kV_ulaw_draws dc_ulaw_draws pm_ulaw_draws an_ulaw_draws cd_ulaw_draws ct_ulaw_draws), sl_ulaw_draws⟩)
    (c_ulaw_draws : PySem.W.codeIn K cd_ulaw_draws "_law_draws" = true)
    (k_ulaw_draws : PySem.W.keepIn K (.ref f_ulaw_draws) = true)
    (a_ulaw_next : PySem.W.nsIn K mainGlobals "_law_next" = some (some (.ref f_ulaw_next)))
    (l_ulaw_next : K.lookup f_ulaw_next = some ⟨oc_ulaw_next, od_ulaw_next, .func (PySem.W.fnOf "_law_next" "_law_next" (defArgs s_ulaw_next) (defBody s_ulaw_next) (defScope s_ulaw_next) .none kV_ulaw_next dc_ulaw_next pm_ulaw_next an_ulaw_next cd_ulaw_next ct_ulaw_next), sl_ulaw_next⟩)
    (c_ulaw_next : PySem.W.codeIn K cd_ulaw_next "_law_next" = true)
    (k_ulaw_next : PySem.W.keepIn K (.ref f_ulaw_next) = true)
    (a_ulaw_prime : PySem.W.nsIn K mainGlobals "_law_prime" = some (some (.ref f_ulaw_prime)))
    (l_ulaw_prime : K.lookup f_ulaw_prime = some ⟨oc_ulaw_prime, od_ulaw_prime, .func (PySem.W.fnOf "_law_prime" "_law_prime" (defArgs s_ulaw_prime) (defBody s_ulaw_prime) (defScope s_ulaw_prime) .none kV_ulaw_prime dc_ulaw_prime pm_ulaw_prime an_ulaw_prime cd_ulaw_prime ct_ulaw_prime), sl_ulaw_prime⟩)
    (c_ulaw_prime : PySem.W.codeIn K cd_ulaw_prime "_law_prime" = true)
    (k_ulaw_prime : PySem.W.keepIn K (.ref f_ulaw_prime) = true)
    (a_ulaw_residue : PySem.W.nsIn K mainGlobals "_law_residue" = some (some (.ref f_ulaw_residue)))
    (l_ulaw_residue : K.lookup f_ulaw_residue = some ⟨oc_ulaw_residue, od_ulaw_residue, .func (PySem.W.fnOf "_law_residue" "_law_residue" (defArgs s_ulaw_residue) (defBody s_ulaw_residue) (defScope s_ulaw_residue) .none kV_ulaw_residue dc_ulaw_residue pm_ulaw_residue an_ulaw_residue cd_ulaw_residue ct_ulaw_residue), sl_ulaw_residue⟩)
    (c_ulaw_residue : PySem.W.codeIn K cd_ulaw_residue "_law_residue" = true)
    (k_ulaw_residue : PySem.W.keepIn K (.ref f_ulaw_residue) = true)
    (a_ulaw_whole : PySem.W.nsIn K mainGlobals "_law_whole" = some (some (.ref f_ulaw_whole)))
    (l_ulaw_whole : K.lookup f_ulaw_whole = some ⟨oc_ulaw_whole, od_ulaw_whole, .func (PySem.W.fnOf "_law_whole" "_law_whole" (defArgs s_ulaw_whole) (defBody s_ulaw_whole) (defScope s_ulaw_whole) .none kV_ulaw_whole dc_ulaw_whole pm_ulaw_whole an_ulaw_whole cd_ulaw_whole ct_ulaw_whole), sl_ulaw_whole⟩)
    (c_ulaw_whole : PySem.W.codeIn K cd_ulaw_whole "_law_whole" = true)
    (k_ulaw_whole : PySem.W.keepIn K (.ref f_ulaw_whole) = true)
    (a_ulaw_got : PySem.W.nsIn K mainGlobals "_law_got" = some (some (.ref f_ulaw_got)))
    (l_ulaw_got : K.lookup f_ulaw_got = some ⟨oc_ulaw_got, od_ulaw_got, .func (PySem.W.fnOf "_law_got" "_law_got" (defArgs s_ulaw_got) (defBody s_ulaw_got) (defScope s_ulaw_got) .none kV_ulaw_got dc_ulaw_got pm_ulaw_got an_ulaw_got cd_ulaw_got ct_ulaw_got), sl_ulaw_got⟩)
    (c_ulaw_got : PySem.W.codeIn K cd_ulaw_got "_law_got" = true)
    (k_ulaw_got : PySem.W.keepIn K (.ref f_ulaw_got) = true)
    (a_ulaw_same : PySem.W.nsIn K mainGlobals "_law_same" = some (some (.ref f_ulaw_same)))
    (l_ulaw_same : K.lookup f_ulaw_same = some ⟨oc_ulaw_same, od_ulaw_same, .func (PySem.W.fnOf "_law_same" "_law_same" (defArgs s_ulaw_same) (defBody s_ulaw_same) (defScope s_ulaw_same) .none kV_ulaw_same dc_ulaw_same pm_ulaw_same an_ulaw_same cd_ulaw_same ct_ulaw_same), sl_ulaw_same⟩)
    (c_ulaw_same : PySem.W.codeIn K cd_ulaw_same "_law_same" = true)
    (k_ulaw_same : PySem.W.keepIn K (.ref f_ulaw_same) = true)
    (a_ulaw_bit_row : PySem.W.nsIn K mainGlobals "_law_bit_row" = some (some (.ref f_ulaw_bit_row)))
    (l_ulaw_bit_row : K.lookup f_ulaw_bit_row = some ⟨oc_ulaw_bit_row, od_ulaw_bit_row, .func (PySem.W.fnOf "_law_bit_row" "_law_bit_row" (defArgs s_ulaw_bit_row) (defBody s_ulaw_bit_row) (defScope s_ulaw_bit_row) .none kV_ulaw_bit_row dc_ulaw_bit_row pm_ulaw_bit_row an_ulaw_bit_row cd_ulaw_bit_row ct_ulaw_bit_row), sl_ulaw_bit_row⟩)
    (c_ulaw_bit_row : PySem.W.codeIn K cd_ulaw_bit_row "_law_bit_row" = true)
    (k_ulaw_bit_row : PySem.W.keepIn K (.ref f_ulaw_bit_row) = true)
    (a_ulaw_lot_of : PySem.W.nsIn K mainGlobals "_law_lot_of" = some (some (.ref f_ulaw_lot_of)))
    (l_ulaw_lot_of : K.lookup f_ulaw_lot_of = some ⟨oc_ulaw_lot_of, od_ulaw_lot_of, .func (PySem.W.fnOf "_law_lot_of" "_law_lot_of" (defArgs s_ulaw_lot_of) (defBody s_ulaw_lot_of) (defScope s_ulaw_lot_of) .none kV_ulaw_lot_of dc_ulaw_lot_of pm_ulaw_lot_of an_ulaw_lot_of cd_ulaw_lot_of ct_ulaw_lot_of), sl_ulaw_lot_of⟩)
    (c_ulaw_lot_of : PySem.W.codeIn K cd_ulaw_lot_of "_law_lot_of" = true)
    (k_ulaw_lot_of : PySem.W.keepIn K (.ref f_ulaw_lot_of) = true)
    (a_ulaw_names : PySem.W.nsIn K mainGlobals "_law_names" = some (some (.ref f_ulaw_names)))
    (l_ulaw_names : K.lookup f_ulaw_names = some ⟨oc_ulaw_names, od_ulaw_names, .func (PySem.W.fnOf "_law_names" "_law_names" (defArgs s_ulaw_names) (defBody s_ulaw_names) (defScope s_ulaw_names) .none kV_ulaw_names dc_ulaw_names pm_ulaw_names an_ulaw_names cd_ulaw_names ct_ulaw_names), sl_ulaw_names⟩)
    (c_ulaw_names : PySem.W.codeIn K cd_ulaw_names "_law_names" = true)
    (k_ulaw_names : PySem.W.keepIn K (.ref f_ulaw_names) = true)
    (a_ulaw_done : PySem.W.nsIn K mainGlobals "_law_done" = some (some (.ref f_ulaw_done)))
    (l_ulaw_done : K.lookup f_ulaw_done = some ⟨oc_ulaw_done, od_ulaw_done, .func (PySem.W.fnOf "_law_done" "_law_done" (defArgs s_ulaw_done) (defBody s_ulaw_done) (defScope s_ulaw_done) .none kV_ulaw_done dc_ulaw_done pm_ulaw_done an_ulaw_done cd_ulaw_done ct_ulaw_done), sl_ulaw_done⟩)
    (c_ulaw_done : PySem.W.codeIn K cd_ulaw_done "_law_done" = true)
    (k_ulaw_done : PySem.W.keepIn K (.ref f_ulaw_done) = true)
    (a_ulaw_tried : PySem.W.nsIn K mainGlobals "_law_tried" = some (some (.ref f_ulaw_tried)))
    (l_ulaw_tried : K.lookup f_ulaw_tried = some ⟨oc_ulaw_tried, od_ulaw_tried, .func (PySem.W.fnOf "_law_tried" "_law_tried" (defArgs s_ulaw_tried) (defBody s_ulaw_tried) (defScope s_ulaw_tried) .none kV_ulaw_tried dc_ulaw_tried pm_ulaw_tried an_ulaw_tried cd_ulaw_tried ct_ulaw_tried), sl_ulaw_tried⟩)
    (c_ulaw_tried : PySem.W.codeIn K cd_ulaw_tried "_law_tried" = true)
    (k_ulaw_tried : PySem.W.keepIn K (.ref f_ulaw_tried) = true)
    (a_ulaw_ends_left : PySem.W.nsIn K mainGlobals "_law_ends_left" = some (some (.ref f_ulaw_ends_left)))
    (l_ulaw_ends_left : K.lookup f_ulaw_ends_left = some ⟨oc_ulaw_ends_left, od_ulaw_ends_left, .func (PySem.W.fnOf "_law_ends_left" "_law_ends_left" (defArgs s_ulaw_ends_left) (defBody s_ulaw_ends_left) (defScope s_ulaw_ends_left) .none kV_ulaw_ends_left dc_ulaw_ends_left pm_ulaw_ends_left an_ulaw_ends_left cd_ulaw_ends_left ct_ulaw_ends_left), sl_ulaw_ends_left⟩)
    (c_ulaw_ends_left : PySem.W.codeIn K cd_ulaw_ends_left "_law_ends_left" = true)
    (k_ulaw_ends_left : PySem.W.keepIn K (.ref f_ulaw_ends_left) = true)
    (a_ulaw_old_lot : PySem.W.nsIn K mainGlobals "_law_old_lot" = some (some (.ref f_ulaw_old_lot)))
    (l_ulaw_old_lot : K.lookup f_ulaw_old_lot = some ⟨oc_ulaw_old_lot, od_ulaw_old_lot, .func (PySem.W.fnOf "_law_old_lot" "_law_old_lot" (defArgs s_ulaw_old_lot) (defBody s_ulaw_old_lot) (defScope s_ulaw_old_lot) .none kV_ulaw_old_lot dc_ulaw_old_lot pm_ulaw_old_lot an_ulaw_old_lot cd_ulaw_old_lot ct_ulaw_old_lot), sl_ulaw_old_lot⟩)
    (c_ulaw_old_lot : PySem.W.codeIn K cd_ulaw_old_lot "_law_old_lot" = true)
    (k_ulaw_old_lot : PySem.W.keepIn K (.ref f_ulaw_old_lot) = true)
    (a_ulaw_reckoned : PySem.W.nsIn K mainGlobals "_law_reckoned" = some (some (.ref f_ulaw_reckoned)))
    (l_ulaw_reckoned : K.lookup f_ulaw_reckoned = some ⟨oc_ulaw_reckoned, od_ulaw_reckoned, .func (PySem.W.fnOf "_law_reckoned" "_law_reckoned" (defArgs s_ulaw_reckoned) (defBody s_ulaw_reckoned) (defScope s_ulaw_reckoned) .none kV_ulaw_reckoned dc_ulaw_reckoned pm_ulaw_reckoned an_ulaw_reckoned cd_ulaw_reckoned ct_ulaw_reckoned), sl_ulaw_reckoned⟩)
    (c_ulaw_reckoned : PySem.W.codeIn K cd_ulaw_reckoned "_law_reckoned" = true)
    (k_ulaw_reckoned : PySem.W.keepIn K (.ref f_ulaw_reckoned) = true)
    (a_ulaw_right : PySem.W.nsIn K mainGlobals "_law_right" = some (some (.ref f_ulaw_right)))
    (l_ulaw_right : K.lookup f_ulaw_right = some ⟨oc_ulaw_right, od_ulaw_right, .func (PySem.W.fnOf "_law_right" "_law_right" (defArgs s_ulaw_right) (defBody s_ulaw_right) (defScope s_ulaw_right) .none kV_ulaw_right dc_ulaw_right pm_ulaw_right an_ulaw_right cd_ulaw_right ct_ulaw_right), sl_ulaw_right⟩)
    (c_ulaw_right : PySem.W.codeIn K cd_ulaw_right "_law_right" = true)
    (k_ulaw_right : PySem.W.keepIn K (.ref f_ulaw_right) = true)
    (a_ulaw_named : PySem.W.nsIn K mainGlobals "_law_named" = some (some (.ref f_ulaw_named)))
    (l_ulaw_named : K.lookup f_ulaw_named = some ⟨oc_ulaw_named, od_ulaw_named, .func (PySem.W.fnOf "_law_named" "_law_named" (defArgs s_ulaw_named) (defBody s_ulaw_named) (defScope s_ulaw_named) .none kV_ulaw_named dc_ulaw_named pm_ulaw_named an_ulaw_named cd_ulaw_named ct_ulaw_named), sl_ulaw_named⟩)
    (c_ulaw_named : PySem.W.codeIn K cd_ulaw_named "_law_named" = true)
    (k_ulaw_named : PySem.W.keepIn K (.ref f_ulaw_named) = true)
    (a_ulaw_refused : PySem.W.nsIn K mainGlobals "_law_refused" = some (some (.ref f_ulaw_refused)))
    (l_ulaw_refused : K.lookup f_ulaw_refused = some ⟨oc_ulaw_refused, od_ulaw_refused, .func (PySem.W.fnOf "_law_refused" "_law_refused" (defArgs s_ulaw_refused) (defBody s_ulaw_refused) (defScope s_ulaw_refused) .none kV_ulaw_refused dc_ulaw_refused pm_ulaw_refused an_ulaw_refused cd_ulaw_refused ct_ulaw_refused), sl_ulaw_refused⟩)
    (c_ulaw_refused : PySem.W.codeIn K cd_ulaw_refused "_law_refused" = true)
    (k_ulaw_refused : PySem.W.keepIn K (.ref f_ulaw_refused) = true)
    (a_law : PySem.W.nsIn K mainGlobals "law" = some (some (.ref f_law)))
    (l_law : K.lookup f_law = some ⟨oc_law, od_law, .func (PySem.W.fnOf "law" "law" (defArgs s_law) (defBody s_law) (defScope s_law) .none kV_law dc_law pm_law an_law cd_law ct_law), sl_law⟩)
    (c_law : PySem.W.codeIn K cd_law "law" = true)
    (k_law : PySem.W.keepIn K (.ref f_law) = true)
    (a_MOST : PySem.W.nsIn K mainGlobals "MOST" = some (some (.int 997 k_MOST)))
    (a_THINGS : PySem.W.nsIn K mainGlobals "THINGS" = some (some (.int 20 k_THINGS)))
    (a_MOST_ENDS : PySem.W.nsIn K mainGlobals "MOST_ENDS" = some (some (.int 6 k_MOST_ENDS)))
    (z_ValueError : PySem.W.nsIn K mainGlobals "ValueError" = some none)
    (z_all : PySem.W.nsIn K mainGlobals "all" = some none)
    (z_bool : PySem.W.nsIn K mainGlobals "bool" = some none)
    (z_enumerate : PySem.W.nsIn K mainGlobals "enumerate" = some none)
    (z_int : PySem.W.nsIn K mainGlobals "int" = some none)
    (z_isinstance : PySem.W.nsIn K mainGlobals "isinstance" = some none)
    (z_len : PySem.W.nsIn K mainGlobals "len" = some none)
    (z_list : PySem.W.nsIn K mainGlobals "list" = some none)
    (z_max : PySem.W.nsIn K mainGlobals "max" = some none)
    (z_min : PySem.W.nsIn K mainGlobals "min" = some none)
    (z_range : PySem.W.nsIn K mainGlobals "range" = some none)
    (z_sum : PySem.W.nsIn K mainGlobals "sum" = some none)
    (z_tuple : PySem.W.nsIn K mainGlobals "tuple" = some none)
    (kt_SizeError_NumberError : PySem.W.kitOne K (.ref C_SizeError) (.ref C_NumberError) = some false)
    (kt_NumberError_NumberError : PySem.W.kitOne K (.ref C_NumberError) (.ref C_NumberError) = some true)
    (kt_SizeError_SizeError : PySem.W.kitOne K (.ref C_SizeError) (.ref C_SizeError) = some true)
    (kt_NumberError_SizeError : PySem.W.kitOne K (.ref C_NumberError) (.ref C_SizeError) = some false)
    (kt_SizeError_PrimeError : PySem.W.kitOne K (.ref C_SizeError) (.ref C_PrimeError) = some false)
    (kt_NumberError_PrimeError : PySem.W.kitOne K (.ref C_NumberError) (.ref C_PrimeError) = some false)
    (kt_SizeError_TwinError : PySem.W.kitOne K (.ref C_SizeError) (.ref C_TwinError) = some false)
    (kt_NumberError_TwinError : PySem.W.kitOne K (.ref C_NumberError) (.ref C_TwinError) = some false)
    (kt_SizeError_LegError : PySem.W.kitOne K (.ref C_SizeError) (.ref C_LegError) = some false)
    (kt_NumberError_LegError : PySem.W.kitOne K (.ref C_NumberError) (.ref C_LegError) = some false)
    (kt_SizeError_NodeError : PySem.W.kitOne K (.ref C_SizeError) (.ref C_NodeError) = some false)
    (kt_NumberError_NodeError : PySem.W.kitOne K (.ref C_NumberError) (.ref C_NodeError) = some false)
    (kt_SizeError_ValueError : PySem.W.kitOne K (.ref C_SizeError) (.type "ValueError") = some true)
    (kt_NumberError_ValueError : PySem.W.kitOne K (.ref C_NumberError) (.type "ValueError") = some true)
    (su_EndsError_EndsError : PySem.W.subIn K (.ref C_EndsError) (.ref C_EndsError) = some true)
    (su_SizeError_EndsError : PySem.W.subIn K (.ref C_SizeError) (.ref C_EndsError) = some true)
    (su_NumberError_EndsError : PySem.W.subIn K (.ref C_NumberError) (.ref C_EndsError) = some true)
    (su_TwinError_EndsError : PySem.W.subIn K (.ref C_TwinError) (.ref C_EndsError) = some true)
    (su_NodeError_EndsError : PySem.W.subIn K (.ref C_NodeError) (.ref C_EndsError) = some true)
    (su_LegError_EndsError : PySem.W.subIn K (.ref C_LegError) (.ref C_EndsError) = some true)
    (su_PrimeError_EndsError : PySem.W.subIn K (.ref C_PrimeError) (.ref C_EndsError) = some true)
    (su_TextError_EndsError : PySem.W.subIn K (.ref C_TextError) (.ref C_EndsError) = some true)
    : ∃ fd : FuncData, (∀ (s : Shared) (u : Value), BindsTo s fd ⟨[u], []⟩ [("script", u)]) ∧ ∀ base : Heap, K.In base → base.Ns mainGlobals mg → FnOk l.prog w K mg base (L2.CX l.prog w) 12 fa fd ["script"] (spLaw K) := by
  have e := hfa.symm.trans (PySem.W.mg_of X G a_law)
  have e2 : f_law = fa := by
    cases e
    rfl
  subst e2
  have F_SizeError_init := fun_mk (st := s_SizeError_init) l_SizeError_init c_SizeError_init k_SizeError_init
  have b_SizeError_init := F_SizeError_init.binds (ps := ["self", "count"]) fun _ _ _ _ _ _ us hl => match us, hl with | [_, _], _ => rfl
  have F_NumberError_init := fun_mk (st := s_NumberError_init) l_NumberError_init c_NumberError_init k_NumberError_init
  have b_NumberError_init := F_NumberError_init.binds (ps := ["self", "number"]) fun _ _ _ _ _ _ us hl => match us, hl with | [_, _], _ => rfl
  have F_TwinError_init := fun_mk (st := s_TwinError_init) l_TwinError_init c_TwinError_init k_TwinError_init
  have b_TwinError_init := F_TwinError_init.binds (ps := ["self", "number"]) fun _ _ _ _ _ _ us hl => match us, hl with | [_, _], _ => rfl
  have F_NodeError_init := fun_mk (st := s_NodeError_init) l_NodeError_init c_NodeError_init k_NodeError_init
  have b_NodeError_init := F_NodeError_init.binds (ps := ["self", "node"]) fun _ _ _ _ _ _ us hl => match us, hl with | [_, _], _ => rfl
  have F_LegError_init := fun_mk (st := s_LegError_init) l_LegError_init c_LegError_init k_LegError_init
  have b_LegError_init := F_LegError_init.binds (ps := ["self", "leg"]) fun _ _ _ _ _ _ us hl => match us, hl with | [_, _], _ => rfl
  have F_PrimeError_init := fun_mk (st := s_PrimeError_init) l_PrimeError_init c_PrimeError_init k_PrimeError_init
  have b_PrimeError_init := F_PrimeError_init.binds (ps := ["self", "prime"]) fun _ _ _ _ _ _ us hl => match us, hl with | [_, _], _ => rfl
  have F_TextError_init := fun_mk (st := s_TextError_init) l_TextError_init c_TextError_init k_TextError_init
  have b_TextError_init := F_TextError_init.binds (ps := ["self", "line"]) fun _ _ _ _ _ _ us hl => match us, hl with | [_, _], _ => rfl
  have F_check_number := fun_mk (st := s_check_number) l_check_number c_check_number k_check_number
  have b_check_number := F_check_number.binds (ps := ["number", "low", "high"]) fun _ _ _ _ _ _ us hl => match us, hl with | [_, _, _], _ => rfl
  have F_is_odd_prime := fun_mk (st := s_is_odd_prime) l_is_odd_prime c_is_odd_prime k_is_odd_prime
  have b_is_odd_prime := F_is_odd_prime.binds (ps := ["number"]) fun _ _ _ _ _ _ us hl => match us, hl with | [_], _ => rfl
  have F_look_number := fun_mk (st := s_look_number) l_look_number c_look_number k_look_number
  have b_look_number := F_look_number.binds (ps := ["number", "low", "high"]) fun _ _ _ _ _ _ us hl => match us, hl with | [_, _, _], _ => rfl
  have F_look_list := fun_mk (st := s_look_list) l_look_list c_look_list k_look_list
  have b_look_list := F_look_list.binds (ps := ["items", "low", "high"]) fun _ _ _ _ _ _ us hl => match us, hl with | [_, _, _], _ => rfl
  have F_look_prime := fun_mk (st := s_look_prime) l_look_prime c_look_prime k_look_prime
  have b_look_prime := F_look_prime.binds (ps := ["prime"]) fun _ _ _ _ _ _ us hl => match us, hl with | [_], _ => rfl
  have F_look_residue := fun_mk (st := s_look_residue) l_look_residue c_look_residue k_look_residue
  have b_look_residue := F_look_residue.binds (ps := ["prime", "number"]) fun _ _ _ _ _ _ us hl => match us, hl with | [_, _], _ => rfl
  have F_look_residues := fun_mk (st := s_look_residues) l_look_residues c_look_residues k_look_residues
  have b_look_residues := F_look_residues.binds (ps := ["prime", "items", "count"]) fun _ _ _ _ _ _ us hl => match us, hl with | [_, _, _], _ => rfl
  have F_look_lot := fun_mk (st := s_look_lot) l_look_lot c_look_lot k_look_lot
  have b_look_lot := F_look_lot.binds (ps := ["count", "lot"]) fun _ _ _ _ _ _ us hl => match us, hl with | [_, _], _ => rfl
  have F_has := fun_mk (st := s_has) l_has c_has k_has
  have b_has := F_has.binds (ps := ["lot", "thing"]) fun _ _ _ _ _ _ us hl => match us, hl with | [_, _], _ => rfl
  have F_check_lot := fun_mk (st := s_check_lot) l_check_lot c_check_lot k_check_lot
  have b_check_lot := F_check_lot.binds (ps := ["count", "lot"]) fun _ _ _ _ _ _ us hl => match us, hl with | [_, _], _ => rfl
  have F_turned_lot := fun_mk (st := s_turned_lot) l_turned_lot c_turned_lot k_turned_lot
  have b_turned_lot := F_turned_lot.binds (ps := ["count", "lot", "by"]) fun _ _ _ _ _ _ us hl => match us, hl with | [_, _, _], _ => rfl
  have F_mirrored_lot := fun_mk (st := s_mirrored_lot) l_mirrored_lot c_mirrored_lot k_mirrored_lot
  have b_mirrored_lot := F_mirrored_lot.binds (ps := ["count", "lot"]) fun _ _ _ _ _ _ us hl => match us, hl with | [_, _], _ => rfl
  have F_Table_init := fun_mk (st := s_Table_init) l_Table_init c_Table_init k_Table_init
  have b_Table_init := F_Table_init.binds (ps := ["self", "prime", "ends", "entries"]) fun _ _ _ _ _ _ us hl => match us, hl with | [_, _, _, _], _ => rfl
  have F_turned := fun_mk (st := s_turned) l_turned c_turned k_turned
  have b_turned := F_turned.binds (ps := ["table", "by"]) fun _ _ _ _ _ _ us hl => match us, hl with | [_, _], _ => rfl
  have F_mirrored_table := fun_mk (st := s_mirrored_table) l_mirrored_table c_mirrored_table k_mirrored_table
  have b_mirrored_table := F_mirrored_table.binds (ps := ["table"]) fun _ _ _ _ _ _ us hl => match us, hl with | [_], _ => rfl
  have F_flipped := fun_mk (st := s_flipped) l_flipped c_flipped k_flipped
  have b_flipped := F_flipped.binds (ps := ["table", "lot"]) fun _ _ _ _ _ _ us hl => match us, hl with | [_, _], _ => rfl
  have F_weighted := fun_mk (st := s_weighted) l_weighted c_weighted k_weighted
  have b_weighted := F_weighted.binds (ps := ["table", "end", "factor"]) fun _ _ _ _ _ _ us hl => match us, hl with | [_, _, _], _ => rfl
  have F_wider_lot := fun_mk (st := s_wider_lot) l_wider_lot c_wider_lot k_wider_lot
  have b_wider_lot := F_wider_lot.binds (ps := ["lot", "end", "count"]) fun _ _ _ _ _ _ us hl => match us, hl with | [_, _, _], _ => rfl
  have F_fixed := fun_mk (st := s_fixed) l_fixed c_fixed k_fixed
  have b_fixed := F_fixed.binds (ps := ["table", "end", "bit"]) fun _ _ _ _ _ _ us hl => match us, hl with | [_, _, _], _ => rfl
  have F_tied_ends := fun_mk (st := s_tied_ends) l_tied_ends c_tied_ends k_tied_ends
  have b_tied_ends := F_tied_ends.binds (ps := ["table", "end", "weight"]) fun _ _ _ _ _ _ us hl => match us, hl with | [_, _, _], _ => rfl
  have F_ulaw_draws := fun_mk (st := s_ulaw_draws) l_ulaw_draws c_ulaw_draws k_ulaw_draws
  have b_ulaw_draws := F_ulaw_draws.binds (ps := ["script", "count"]) fun _ _ _ _ _ _ us hl => match us, hl with | [_, _], _ => rfl
  have F_ulaw_next := fun_mk (st := s_ulaw_next) l_ulaw_next c_ulaw_next k_ulaw_next
  have b_ulaw_next := F_ulaw_next.binds (ps := ["dr", "at", "many"]) fun _ _ _ _ _ _ us hl => match us, hl with | [_, _, _], _ => rfl
  have F_ulaw_prime := fun_mk (st := s_ulaw_prime) l_ulaw_prime c_ulaw_prime k_ulaw_prime
  have b_ulaw_prime := F_ulaw_prime.binds (ps := ["dr", "at"]) fun _ _ _ _ _ _ us hl => match us, hl with | [_, _], _ => rfl
  have F_ulaw_residue := fun_mk (st := s_ulaw_residue) l_ulaw_residue c_ulaw_residue k_ulaw_residue
  have b_ulaw_residue := F_ulaw_residue.binds (ps := ["dr", "at", "p"]) fun _ _ _ _ _ _ us hl => match us, hl with | [_, _, _], _ => rfl
  have F_ulaw_whole := fun_mk (st := s_ulaw_whole) l_ulaw_whole c_ulaw_whole k_ulaw_whole
  have b_ulaw_whole := F_ulaw_whole.binds (ps := ["x"]) fun _ _ _ _ _ _ us hl => match us, hl with | [_], _ => rfl
  have F_ulaw_got := fun_mk (st := s_ulaw_got) l_ulaw_got c_ulaw_got k_ulaw_got
  have b_ulaw_got := F_ulaw_got.binds (ps := ["rows", "word", "number"]) fun _ _ _ _ _ _ us hl => match us, hl with | [_, _, _], _ => rfl
  have F_ulaw_same := fun_mk (st := s_ulaw_same) l_ulaw_same c_ulaw_same k_ulaw_same
  have b_ulaw_same := F_ulaw_same.binds (ps := ["thing", "p", "n", "cells"]) fun _ _ _ _ _ _ us hl => match us, hl with | [_, _, _, _], _ => rfl
  have F_ulaw_bit_row := fun_mk (st := s_ulaw_bit_row) l_ulaw_bit_row c_ulaw_bit_row k_ulaw_bit_row
  have b_ulaw_bit_row := F_ulaw_bit_row.binds (ps := ["n", "mask"]) fun _ _ _ _ _ _ us hl => match us, hl with | [_, _], _ => rfl
  have F_ulaw_lot_of := fun_mk (st := s_ulaw_lot_of) l_ulaw_lot_of c_ulaw_lot_of k_ulaw_lot_of
  have b_ulaw_lot_of := F_ulaw_lot_of.binds (ps := ["bits"]) fun _ _ _ _ _ _ us hl => match us, hl with | [_], _ => rfl
  have F_ulaw_names := fun_mk (st := s_ulaw_names) l_ulaw_names c_ulaw_names k_ulaw_names
  have b_ulaw_names := F_ulaw_names.binds (ps := ["e"]) fun _ _ _ _ _ _ us hl => match us, hl with | [_], _ => rfl
  have F_ulaw_done := fun_mk (st := s_ulaw_done) l_ulaw_done c_ulaw_done k_ulaw_done
  have b_ulaw_done := F_ulaw_done.binds (ps := ["way", "sheet", "one", "two"]) fun _ _ _ _ _ _ us hl => match us, hl with | [_, _, _, _], _ => rfl
  have F_ulaw_tried := fun_mk (st := s_ulaw_tried) l_ulaw_tried c_ulaw_tried k_ulaw_tried
  have b_ulaw_tried := F_ulaw_tried.binds (ps := ["way", "sheet", "one", "two"]) fun _ _ _ _ _ _ us hl => match us, hl with | [_, _, _, _], _ => rfl
  have F_ulaw_ends_left := fun_mk (st := s_ulaw_ends_left) l_ulaw_ends_left c_ulaw_ends_left k_ulaw_ends_left
  have b_ulaw_ends_left := F_ulaw_ends_left.binds (ps := ["way", "n"]) fun _ _ _ _ _ _ us hl => match us, hl with | [_, _], _ => rfl
  have F_ulaw_old_lot := fun_mk (st := s_ulaw_old_lot) l_ulaw_old_lot c_ulaw_old_lot k_ulaw_old_lot
  have b_ulaw_old_lot := F_ulaw_old_lot.binds (ps := ["way", "n", "bits", "one", "more"]) fun _ _ _ _ _ _ us hl => match us, hl with | [_, _, _, _, _], _ => rfl
  have F_ulaw_reckoned := fun_mk (st := s_ulaw_reckoned) l_ulaw_reckoned c_ulaw_reckoned k_ulaw_reckoned
  have b_ulaw_reckoned := F_ulaw_reckoned.binds (ps := ["way", "p", "n", "a", "one", "two"]) fun _ _ _ _ _ _ us hl => match us, hl with | [_, _, _, _, _, _], _ => rfl
  have F_ulaw_right := fun_mk (st := s_ulaw_right) l_ulaw_right c_ulaw_right k_ulaw_right
  have b_ulaw_right := F_ulaw_right.binds (ps := ["way", "p", "n", "a", "one", "two"]) fun _ _ _ _ _ _ us hl => match us, hl with | [_, _, _, _, _, _], _ => rfl
  have F_ulaw_named := fun_mk (st := s_ulaw_named) l_ulaw_named c_ulaw_named k_ulaw_named
  have b_ulaw_named := F_ulaw_named.binds (ps := ["p", "n", "a", "spin", "side", "spot", "worth"]) fun _ _ _ _ _ _ us hl => match us, hl with | [_, _, _, _, _, _, _], _ => rfl
  have F_ulaw_refused := fun_mk (st := s_ulaw_refused) l_ulaw_refused c_ulaw_refused k_ulaw_refused
  have b_ulaw_refused := F_ulaw_refused.binds (ps := ["p", "n", "a", "odd"]) fun _ _ _ _ _ _ us hl => match us, hl with | [_, _, _, _], _ => rfl
  have F_law := fun_mk (st := s_law) l_law c_law k_law
  have b_law := F_law.binds (ps := ["script"]) fun _ _ _ _ _ _ us hl => match us, hl with | [_], _ => rfl
  have T : Txt K mg { a_SizeError_init := f_SizeError_init, fd_SizeError_init := PySem.W.fnOf "__init__" "SizeError.__init__" (defArgs s_SizeError_init) (defBody s_SizeError_init) (defScope s_SizeError_init) .none kV_SizeError_init dc_SizeError_init pm_SizeError_init an_SizeError_init cd_SizeError_init ct_SizeError_init, a_NumberError_init := f_NumberError_init, fd_NumberError_init := PySem.W.fnOf "__init__" "NumberError.__init__" (defArgs s_NumberError_init) (defBody s_NumberError_init) (defScope s_NumberError_init) .none kV_NumberError_init dc_NumberError_init pm_NumberError_init an_NumberError_init cd_NumberError_init ct_NumberError_init, a_TwinError_init := f_TwinError_init, fd_TwinError_init := PySem.W.fnOf "__init__" "TwinError.__init__" (defArgs s_TwinError_init) (defBody s_TwinError_init) (defScope s_TwinError_init) .none kV_TwinError_init dc_TwinError_init pm_TwinError_init an_TwinError_init cd_TwinError_init ct_TwinError_init, a_NodeError_init := f_NodeError_init, fd_NodeError_init := PySem.W.fnOf "__init__" "NodeError.__init__" (defArgs s_NodeError_init) (defBody s_NodeError_init) (defScope s_NodeError_init) .none kV_NodeError_init dc_NodeError_init pm_NodeError_init an_NodeError_init cd_NodeError_init ct_NodeError_init, a_LegError_init := f_LegError_init, fd_LegError_init := PySem.W.fnOf "__init__" "LegError.__init__" (defArgs s_LegError_init) (defBody s_LegError_init) (defScope s_LegError_init) .none kV_LegError_init dc_LegError_init pm_LegError_init an_LegError_init cd_LegError_init ct_LegError_init, a_PrimeError_init := f_PrimeError_init, fd_PrimeError_init := PySem.W.fnOf "__init__" "PrimeError.__init__" (defArgs s_PrimeError_init) (defBody s_PrimeError_init) (defScope s_PrimeError_init) .none kV_PrimeError_init dc_PrimeError_init pm_PrimeError_init an_PrimeError_init cd_PrimeError_init ct_PrimeError_init, a_TextError_init := f_TextError_init, fd_TextError_init := PySem.W.fnOf "__init__" "TextError.__init__" (defArgs s_TextError_init) (defBody s_TextError_init) (defScope s_TextError_init) .none kV_TextError_init dc_TextError_init pm_TextError_init an_TextError_init cd_TextError_init ct_TextError_init, a_check_number := f_check_number, fd_check_number := PySem.W.fnOf "check_number" "check_number" (defArgs s_check_number) (defBody s_check_number) (defScope s_check_number) .none kV_check_number dc_check_number pm_check_number an_check_number cd_check_number ct_check_number, a_is_odd_prime := f_is_odd_prime, fd_is_odd_prime := PySem.W.fnOf "is_odd_prime" "is_odd_prime" (defArgs s_is_odd_prime) (defBody s_is_odd_prime) (defScope s_is_odd_prime) .none kV_is_odd_prime dc_is_odd_prime pm_is_odd_prime an_is_odd_prime cd_is_odd_prime ct_is_odd_prime, a_look_number := f_look_number, fd_look_number := PySem.W.fnOf "look_number" "look_number" (defArgs s_look_number) (defBody s_look_number) (defScope s_look_number) .none kV_look_number dc_look_number pm_look_number an_look_number cd_look_number ct_look_number, a_look_list := f_look_list, fd_look_list := PySem.W.fnOf "look_list" "look_list" (defArgs s_look_list) (defBody s_look_list) (defScope s_look_list) .none kV_look_list dc_look_list pm_look_list an_look_list cd_look_list ct_look_list, a_look_prime := f_look_prime, fd_look_prime := PySem.W.fnOf "look_prime" "look_prime" (defArgs s_look_prime) (defBody s_look_prime) (defScope s_look_prime) .none kV_look_prime dc_look_prime pm_look_prime an_look_prime cd_look_prime ct_look_prime, a_look_residue := f_look_residue, fd_look_residue := PySem.W.fnOf "look_residue" "look_residue" (defArgs s_look_residue) (defBody s_look_residue) (defScope s_look_residue) .none kV_look_residue dc_look_residue pm_look_residue an_look_residue cd_look_residue ct_look_residue, a_look_residues := f_look_residues, fd_look_residues := PySem.W.fnOf "look_residues" "look_residues" (defArgs s_look_residues) (defBody s_look_residues) (defScope s_look_residues) .none kV_look_residues dc_look_residues pm_look_residues an_look_residues cd_look_residues ct_look_residues, a_look_lot := f_look_lot, fd_look_lot := PySem.W.fnOf "look_lot" "look_lot" (defArgs s_look_lot) (defBody s_look_lot) (defScope s_look_lot) .none kV_look_lot dc_look_lot pm_look_lot an_look_lot cd_look_lot ct_look_lot, a_has := f_has, fd_has := PySem.W.fnOf "has" "has" (defArgs s_has) (defBody s_has) (defScope s_has) .none kV_has dc_has pm_has an_has cd_has ct_has, a_check_lot := f_check_lot, fd_check_lot := PySem.W.fnOf "check_lot" "check_lot" (defArgs s_check_lot) (defBody s_check_lot) (defScope s_check_lot) .none kV_check_lot dc_check_lot pm_check_lot an_check_lot cd_check_lot ct_check_lot, a_turned_lot := f_turned_lot, fd_turned_lot := PySem.W.fnOf "turned_lot" "turned_lot" (defArgs s_turned_lot) (defBody s_turned_lot) (defScope s_turned_lot) .none kV_turned_lot dc_turned_lot pm_turned_lot an_turned_lot cd_turned_lot ct_turned_lot, a_mirrored_lot := f_mirrored_lot, fd_mirrored_lot := PySem.W.fnOf "mirrored_lot" "mirrored_lot" (defArgs s_mirrored_lot) (defBody s_mirrored_lot) (defScope s_mirrored_lot) .none kV_mirrored_lot dc_mirrored_lot pm_mirrored_lot an_mirrored_lot cd_mirrored_lot ct_mirrored_lot, a_Table_init := f_Table_init, fd_Table_init := PySem.W.fnOf "__init__" "Table.__init__" (defArgs s_Table_init) (defBody s_Table_init) (defScope s_Table_init) .none kV_Table_init dc_Table_init pm_Table_init an_Table_init cd_Table_init ct_Table_init, a_turned := f_turned, fd_turned := PySem.W.fnOf "turned" "turned" (defArgs s_turned) (defBody s_turned) (defScope s_turned) .none kV_turned dc_turned pm_turned an_turned cd_turned ct_turned, a_mirrored_table := f_mirrored_table, fd_mirrored_table := PySem.W.fnOf "mirrored_table" "mirrored_table" (defArgs s_mirrored_table) (defBody s_mirrored_table) (defScope s_mirrored_table) .none kV_mirrored_table dc_mirrored_table pm_mirrored_table an_mirrored_table cd_mirrored_table ct_mirrored_table, a_flipped := f_flipped, fd_flipped := PySem.W.fnOf "flipped" "flipped" (defArgs s_flipped) (defBody s_flipped) (defScope s_flipped) .none kV_flipped dc_flipped pm_flipped an_flipped cd_flipped ct_flipped, a_weighted := f_weighted, fd_weighted := PySem.W.fnOf "weighted" "weighted" (defArgs s_weighted) (defBody s_weighted) (defScope s_weighted) .none kV_weighted dc_weighted pm_weighted an_weighted cd_weighted ct_weighted, a_wider_lot := f_wider_lot, fd_wider_lot := PySem.W.fnOf "wider_lot" "wider_lot" (defArgs s_wider_lot) (defBody s_wider_lot) (defScope s_wider_lot) .none kV_wider_lot dc_wider_lot pm_wider_lot an_wider_lot cd_wider_lot ct_wider_lot, a_fixed := f_fixed, fd_fixed := PySem.W.fnOf "fixed" "fixed" (defArgs s_fixed) (defBody s_fixed) (defScope s_fixed) .none kV_fixed dc_fixed pm_fixed an_fixed cd_fixed ct_fixed, a_tied_ends := f_tied_ends, fd_tied_ends := PySem.W.fnOf "tied_ends" "tied_ends" (defArgs s_tied_ends) (defBody s_tied_ends) (defScope s_tied_ends) .none kV_tied_ends dc_tied_ends pm_tied_ends an_tied_ends cd_tied_ends ct_tied_ends, a_ulaw_draws := f_ulaw_draws, fd_ulaw_draws := PySem.W.fnOf "_law_draws" "_law_draws" (defArgs s_ulaw_draws) (defBody s_ulaw_draws) (defScope s_ulaw_draws) .none kV_ulaw_draws dc_ulaw_draws pm_ulaw_draws an_ulaw_draws cd_ulaw_draws ct_ulaw_draws, a_ulaw_next := f_ulaw_next, fd_ulaw_next := PySem.W.fnOf "_law_next" "_law_next" (defArgs s_ulaw_next) (defBody s_ulaw_next) (defScope s_ulaw_next) .none kV_ulaw_next dc_ulaw_next pm_ulaw_next an_ulaw_next cd_ulaw_next ct_ulaw_next, a_ulaw_prime := f_ulaw_prime, fd_ulaw_prime := PySem.W.fnOf "_law_prime" "_law_prime" (defArgs s_ulaw_prime) (defBody s_ulaw_prime) (defScope s_ulaw_prime) .none kV_ulaw_prime dc_ulaw_prime pm_ulaw_prime an_ulaw_prime cd_ulaw_prime ct_ulaw_prime, a_ulaw_residue := f_ulaw_residue, fd_ulaw_residue := PySem.W.fnOf "_law_residue" "_law_residue" (defArgs s_ulaw_residue) (defBody s_ulaw_residue) (defScope s_ulaw_residue) .none kV_ulaw_residue dc_ulaw_residue pm_ulaw_residue an_ulaw_residue cd_ulaw_residue ct_ulaw_residue, a_ulaw_whole := f_ulaw_whole, fd_ulaw_whole := PySem.W.fnOf "_law_whole" "_law_whole" (defArgs s_ulaw_whole) (defBody s_ulaw_whole) (defScope s_ulaw_whole) .none kV_ulaw_whole dc_ulaw_whole pm_ulaw_whole an_ulaw_whole cd_ulaw_whole ct_ulaw_whole, a_ulaw_got := f_ulaw_got, fd_ulaw_got := PySem.W.fnOf "_law_got" "_law_got" (defArgs s_ulaw_got) (defBody s_ulaw_got) (defScope s_ulaw_got) .none kV_ulaw_got dc_ulaw_got pm_ulaw_got an_ulaw_got cd_ulaw_got ct_ulaw_got, a_ulaw_same := f_ulaw_same, fd_ulaw_same := PySem.W.fnOf "_law_same" "_law_same" (defArgs s_ulaw_same) (defBody s_ulaw_same) (defScope s_ulaw_same) .none kV_ulaw_same dc_ulaw_same pm_ulaw_same an_ulaw_same cd_ulaw_same ct_ulaw_same, a_ulaw_bit_row := f_ulaw_bit_row, fd_ulaw_bit_row := PySem.W.fnOf "_law_bit_row" "_law_bit_row" (defArgs s_ulaw_bit_row) (defBody s_ulaw_bit_row) (defScope s_ulaw_bit_row) .none kV_ulaw_bit_row dc_ulaw_bit_row pm_ulaw_bit_row an_ulaw_bit_row cd_ulaw_bit_row ct_ulaw_bit_row, a_ulaw_lot_of := f_ulaw_lot_of, fd_ulaw_lot_of := PySem.W.fnOf "_law_lot_of" "_law_lot_of" (defArgs s_ulaw_lot_of) (defBody s_ulaw_lot_of) (defScope s_ulaw_lot_of) .none kV_ulaw_lot_of dc_ulaw_lot_of pm_ulaw_lot_of an_ulaw_lot_of cd_ulaw_lot_of ct_ulaw_lot_of, a_ulaw_names := f_ulaw_names, fd_ulaw_names := PySem.W.fnOf "_law_names" "_law_names" (defArgs s_ulaw_names) (defBody s_ulaw_names) (defScope s_ulaw_names) .none kV_ulaw_names dc_ulaw_names pm_ulaw_names an_ulaw_names cd_ulaw_names ct_ulaw_names, a_ulaw_done := f_ulaw_done, fd_ulaw_done := PySem.W.fnOf "_law_done" "_law_done" (defArgs s_ulaw_done) (defBody s_ulaw_done) (defScope s_ulaw_done) .none kV_ulaw_done dc_ulaw_done pm_ulaw_done an_ulaw_done cd_ulaw_done ct_ulaw_done, a_ulaw_tried := f_ulaw_tried, fd_ulaw_tried := PySem.W.fnOf "_law_tried" "_law_tried" (defArgs s_ulaw_tried) (defBody s_ulaw_tried) (defScope s_ulaw_tried) .none kV_ulaw_tried dc_ulaw_tried pm_ulaw_tried an_ulaw_tried cd_ulaw_tried ct_ulaw_tried, a_ulaw_ends_left := f_ulaw_ends_left, fd_ulaw_ends_left := PySem.W.fnOf "_law_ends_left" "_law_ends_left" (defArgs s_ulaw_ends_left) (defBody s_ulaw_ends_left) (defScope s_ulaw_ends_left) .none kV_ulaw_ends_left dc_ulaw_ends_left pm_ulaw_ends_left an_ulaw_ends_left cd_ulaw_ends_left ct_ulaw_ends_left, a_ulaw_old_lot := f_ulaw_old_lot, fd_ulaw_old_lot := PySem.W.fnOf "_law_old_lot" "_law_old_lot" (defArgs s_ulaw_old_lot) (defBody s_ulaw_old_lot) (defScope s_ulaw_old_lot) .none kV_ulaw_old_lot dc_ulaw_old_lot pm_ulaw_old_lot an_ulaw_old_lot cd_ulaw_old_lot ct_ulaw_old_lot, a_ulaw_reckoned := f_ulaw_reckoned, fd_ulaw_reckoned := PySem.W.fnOf "_law_reckoned" "_law_reckoned" (defArgs s_ulaw_reckoned) (defBody s_ulaw_reckoned) (defScope s_ulaw_reckoned) .none kV_ulaw_reckoned dc_ulaw_reckoned pm_ulaw_reckoned an_ulaw_reckoned cd_ulaw_reckoned ct_ulaw_reckoned, a_ulaw_right := f_ulaw_right, fd_ulaw_right := PySem.W.fnOf "_law_right" "_law_right" (defArgs s_ulaw_right) (defBody s_ulaw_right) (defScope s_ulaw_right) .none kV_ulaw_right dc_ulaw_right pm_ulaw_right an_ulaw_right cd_ulaw_right ct_ulaw_right, a_ulaw_named := f_ulaw_named, fd_ulaw_named := PySem.W.fnOf "_law_named" "_law_named" (defArgs s_ulaw_named) (defBody s_ulaw_named) (defScope s_ulaw_named) .none kV_ulaw_named dc_ulaw_named pm_ulaw_named an_ulaw_named cd_ulaw_named ct_ulaw_named, a_ulaw_refused := f_ulaw_refused, fd_ulaw_refused := PySem.W.fnOf "_law_refused" "_law_refused" (defArgs s_ulaw_refused) (defBody s_ulaw_refused) (defScope s_ulaw_refused) .none kV_ulaw_refused dc_ulaw_refused pm_ulaw_refused an_ulaw_refused cd_ulaw_refused ct_ulaw_refused, a_law := f_law, fd_law := PySem.W.fnOf "law" "law" (defArgs s_law) (defBody s_law) (defScope s_law) .none kV_law dc_law pm_law an_law cd_law ct_law, c_EndsError := C_EndsError, c_SizeError := C_SizeError, c_NumberError := C_NumberError, c_TwinError := C_TwinError, c_NodeError := C_NodeError, c_LegError := C_LegError, c_PrimeError := C_PrimeError, c_TextError := C_TextError, c_Table := C_Table, k_MOST := k_MOST, k_THINGS := k_THINGS, k_MOST_ENDS := k_MOST_ENDS } :=
    { F_SizeError_init := F_SizeError_init,
      b_SizeError_init := b_SizeError_init,
      F_NumberError_init := F_NumberError_init,
      b_NumberError_init := b_NumberError_init,
      F_TwinError_init := F_TwinError_init,
      b_TwinError_init := b_TwinError_init,
      F_NodeError_init := F_NodeError_init,
      b_NodeError_init := b_NodeError_init,
      F_LegError_init := F_LegError_init,
      b_LegError_init := b_LegError_init,
      F_PrimeError_init := F_PrimeError_init,
      b_PrimeError_init := b_PrimeError_init,
      F_TextError_init := F_TextError_init,
      b_TextError_init := b_TextError_init,
      g_check_number := PySem.W.mg_of X G a_check_number,
      F_check_number := F_check_number,
      b_check_number := b_check_number,
      g_is_odd_prime := PySem.W.mg_of X G a_is_odd_prime,
      F_is_odd_prime := F_is_odd_prime,
      b_is_odd_prime := b_is_odd_prime,
      g_look_number := PySem.W.mg_of X G a_look_number,
      F_look_number := F_look_number,
      b_look_number := b_look_number,
      g_look_list := PySem.W.mg_of X G a_look_list,
      F_look_list := F_look_list,
      b_look_list := b_look_list,
      g_look_prime := PySem.W.mg_of X G a_look_prime,
      F_look_prime := F_look_prime,
      b_look_prime := b_look_prime,
      g_look_residue := PySem.W.mg_of X G a_look_residue,
      F_look_residue := F_look_residue,
      b_look_residue := b_look_residue,
      g_look_residues := PySem.W.mg_of X G a_look_residues,
      F_look_residues := F_look_residues,
      b_look_residues := b_look_residues,
      g_look_lot := PySem.W.mg_of X G a_look_lot,
      F_look_lot := F_look_lot,
      b_look_lot := b_look_lot,
      g_has := PySem.W.mg_of X G a_has,
      F_has := F_has,
      b_has := b_has,
      g_check_lot := PySem.W.mg_of X G a_check_lot,
      F_check_lot := F_check_lot,
      b_check_lot := b_check_lot,
      g_turned_lot := PySem.W.mg_of X G a_turned_lot,
      F_turned_lot := F_turned_lot,
      b_turned_lot := b_turned_lot,
      g_mirrored_lot := PySem.W.mg_of X G a_mirrored_lot,
      F_mirrored_lot := F_mirrored_lot,
      b_mirrored_lot := b_mirrored_lot,
      F_Table_init := F_Table_init,
      b_Table_init := b_Table_init,
      g_turned := PySem.W.mg_of X G a_turned,
      F_turned := F_turned,
      b_turned := b_turned,
      g_mirrored_table := PySem.W.mg_of X G a_mirrored_table,
      F_mirrored_table := F_mirrored_table,
      b_mirrored_table := b_mirrored_table,
      g_flipped := PySem.W.mg_of X G a_flipped,
      F_flipped := F_flipped,
      b_flipped := b_flipped,
      g_weighted := PySem.W.mg_of X G a_weighted,
      F_weighted := F_weighted,
      b_weighted := b_weighted,
      g_wider_lot := PySem.W.mg_of X G a_wider_lot,
      F_wider_lot := F_wider_lot,
      b_wider_lot := b_wider_lot,
      g_fixed := PySem.W.mg_of X G a_fixed,
      F_fixed := F_fixed,
      b_fixed := b_fixed,
      g_tied_ends := PySem.W.mg_of X G a_tied_ends,
      F_tied_ends := F_tied_ends,
      b_tied_ends := b_tied_ends,
      g_ulaw_draws := PySem.W.mg_of X G a_ulaw_draws,
      F_ulaw_draws := F_ulaw_draws,
      b_ulaw_draws := b_ulaw_draws,
      g_ulaw_next := PySem.W.mg_of X G a_ulaw_next,
      F_ulaw_next := F_ulaw_next,
      b_ulaw_next := b_ulaw_next,
      g_ulaw_prime := PySem.W.mg_of X G a_ulaw_prime,
      F_ulaw_prime := F_ulaw_prime,
      b_ulaw_prime := b_ulaw_prime,
      g_ulaw_residue := PySem.W.mg_of X G a_ulaw_residue,
      F_ulaw_residue := F_ulaw_residue,
      b_ulaw_residue := b_ulaw_residue,
      g_ulaw_whole := PySem.W.mg_of X G a_ulaw_whole,
      F_ulaw_whole := F_ulaw_whole,
      b_ulaw_whole := b_ulaw_whole,
      g_ulaw_got := PySem.W.mg_of X G a_ulaw_got,
      F_ulaw_got := F_ulaw_got,
      b_ulaw_got := b_ulaw_got,
      g_ulaw_same := PySem.W.mg_of X G a_ulaw_same,
      F_ulaw_same := F_ulaw_same,
      b_ulaw_same := b_ulaw_same,
      g_ulaw_bit_row := PySem.W.mg_of X G a_ulaw_bit_row,
      F_ulaw_bit_row := F_ulaw_bit_row,
      b_ulaw_bit_row := b_ulaw_bit_row,
      g_ulaw_lot_of := PySem.W.mg_of X G a_ulaw_lot_of,
      F_ulaw_lot_of := F_ulaw_lot_of,
      b_ulaw_lot_of := b_ulaw_lot_of,
      g_ulaw_names := PySem.W.mg_of X G a_ulaw_names,
      F_ulaw_names := F_ulaw_names,
      b_ulaw_names := b_ulaw_names,
      g_ulaw_done := PySem.W.mg_of X G a_ulaw_done,
      F_ulaw_done := F_ulaw_done,
      b_ulaw_done := b_ulaw_done,
      g_ulaw_tried := PySem.W.mg_of X G a_ulaw_tried,
      F_ulaw_tried := F_ulaw_tried,
      b_ulaw_tried := b_ulaw_tried,
      g_ulaw_ends_left := PySem.W.mg_of X G a_ulaw_ends_left,
      F_ulaw_ends_left := F_ulaw_ends_left,
      b_ulaw_ends_left := b_ulaw_ends_left,
      g_ulaw_old_lot := PySem.W.mg_of X G a_ulaw_old_lot,
      F_ulaw_old_lot := F_ulaw_old_lot,
      b_ulaw_old_lot := b_ulaw_old_lot,
      g_ulaw_reckoned := PySem.W.mg_of X G a_ulaw_reckoned,
      F_ulaw_reckoned := F_ulaw_reckoned,
      b_ulaw_reckoned := b_ulaw_reckoned,
      g_ulaw_right := PySem.W.mg_of X G a_ulaw_right,
      F_ulaw_right := F_ulaw_right,
      b_ulaw_right := b_ulaw_right,
      g_ulaw_named := PySem.W.mg_of X G a_ulaw_named,
      F_ulaw_named := F_ulaw_named,
      b_ulaw_named := b_ulaw_named,
      g_ulaw_refused := PySem.W.mg_of X G a_ulaw_refused,
      F_ulaw_refused := F_ulaw_refused,
      b_ulaw_refused := b_ulaw_refused,
      g_law := PySem.W.mg_of X G a_law,
      F_law := F_law,
      b_law := b_law,
      g_EndsError := PySem.W.mg_of X G a_EndsError,
      X_EndsError := ⟨hc_EndsError, hg_EndsError, hk_EndsError, hs_EndsError, hd_EndsError, ha_EndsError, hnD, htD, hm_EndsError⟩,
      x_EndsError := ⟨ex_EndsError, kc_EndsError, hs_EndsError, ty_EndsError⟩,
      g_SizeError := PySem.W.mg_of X G a_SizeError,
      X_SizeError := ⟨hc_SizeError, hg_SizeError, hk_SizeError, hs_SizeError, hd_SizeError, ha_SizeError, hnD, htD, hm_SizeError⟩,
      x_SizeError := ⟨⟨_, _, _, _, _, _, _, _, _, _, _, _, _, _, _, xl_SizeError, xr_SizeError⟩, sa_SizeError, hs_SizeError, ty_SizeError, kc_SizeError⟩,
      xi_SizeError := i_SizeError,
      xt_SizeError := t_SizeError_init,
      xn_SizeError_count := xn_SizeError_count,
      g_NumberError := PySem.W.mg_of X G a_NumberError,
      X_NumberError := ⟨hc_NumberError, hg_NumberError, hk_NumberError, hs_NumberError, hd_NumberError, ha_NumberError, hnD, htD, hm_NumberError⟩,
      x_NumberError := ⟨⟨_, _, _, _, _, _, _, _, _, _, _, _, _, _, _, xl_NumberError, xr_NumberError⟩, sa_NumberError, hs_NumberError, ty_NumberError, kc_NumberError⟩,
      xi_NumberError := i_NumberError,
      xt_NumberError := t_NumberError_init,
      xn_NumberError_number := xn_NumberError_number,
      g_TwinError := PySem.W.mg_of X G a_TwinError,
      X_TwinError := ⟨hc_TwinError, hg_TwinError, hk_TwinError, hs_TwinError, hd_TwinError, ha_TwinError, hnD, htD, hm_TwinError⟩,
      x_TwinError := ⟨⟨_, _, _, _, _, _, _, _, _, _, _, _, _, _, _, xl_TwinError, xr_TwinError⟩, sa_TwinError, hs_TwinError, ty_TwinError, kc_TwinError⟩,
      xi_TwinError := i_TwinError,
      xt_TwinError := t_TwinError_init,
      xn_TwinError_number := xn_TwinError_number,
      g_NodeError := PySem.W.mg_of X G a_NodeError,
      X_NodeError := ⟨hc_NodeError, hg_NodeError, hk_NodeError, hs_NodeError, hd_NodeError, ha_NodeError, hnD, htD, hm_NodeError⟩,
      x_NodeError := ⟨⟨_, _, _, _, _, _, _, _, _, _, _, _, _, _, _, xl_NodeError, xr_NodeError⟩, sa_NodeError, hs_NodeError, ty_NodeError, kc_NodeError⟩,
      xi_NodeError := i_NodeError,
      xt_NodeError := t_NodeError_init,
      xn_NodeError_node := xn_NodeError_node,
      g_LegError := PySem.W.mg_of X G a_LegError,
      X_LegError := ⟨hc_LegError, hg_LegError, hk_LegError, hs_LegError, hd_LegError, ha_LegError, hnD, htD, hm_LegError⟩,
      x_LegError := ⟨⟨_, _, _, _, _, _, _, _, _, _, _, _, _, _, _, xl_LegError, xr_LegError⟩, sa_LegError, hs_LegError, ty_LegError, kc_LegError⟩,
      xi_LegError := i_LegError,
      xt_LegError := t_LegError_init,
      xn_LegError_leg := xn_LegError_leg,
      g_PrimeError := PySem.W.mg_of X G a_PrimeError,
      X_PrimeError := ⟨hc_PrimeError, hg_PrimeError, hk_PrimeError, hs_PrimeError, hd_PrimeError, ha_PrimeError, hnD, htD, hm_PrimeError⟩,
      x_PrimeError := ⟨⟨_, _, _, _, _, _, _, _, _, _, _, _, _, _, _, xl_PrimeError, xr_PrimeError⟩, sa_PrimeError, hs_PrimeError, ty_PrimeError, kc_PrimeError⟩,
      xi_PrimeError := i_PrimeError,
      xt_PrimeError := t_PrimeError_init,
      xn_PrimeError_prime := xn_PrimeError_prime,
      g_TextError := PySem.W.mg_of X G a_TextError,
      X_TextError := ⟨hc_TextError, hg_TextError, hk_TextError, hs_TextError, hd_TextError, ha_TextError, hnD, htD, hm_TextError⟩,
      x_TextError := ⟨⟨_, _, _, _, _, _, _, _, _, _, _, _, _, _, _, xl_TextError, xr_TextError⟩, sa_TextError, hs_TextError, ty_TextError, kc_TextError⟩,
      xi_TextError := i_TextError,
      xt_TextError := t_TextError_init,
      xn_TextError_line := xn_TextError_line,
      g_Table := PySem.W.mg_of X G a_Table,
      own_Table := ⟨⟨pg_Table, hd_Table, po_Table, sa_Table⟩, ha_Table, hnD, htD, hm_Table, ks_Table⟩,
      mk_Table := ⟨mk_Table, m_Table_init, fn_Table_init, kc_Table⟩,
      na_Table_prime := na_Table_prime,
      na_Table_ends := na_Table_ends,
      na_Table_entries := na_Table_entries,
      g_MOST := PySem.W.mg_of X G a_MOST,
      g_THINGS := PySem.W.mg_of X G a_THINGS,
      g_MOST_ENDS := PySem.W.mg_of X G a_MOST_ENDS,
      n_ValueError := PySem.W.mg_none_of X G z_ValueError,
      n_all := PySem.W.mg_none_of X G z_all,
      n_bool := PySem.W.mg_none_of X G z_bool,
      n_enumerate := PySem.W.mg_none_of X G z_enumerate,
      n_int := PySem.W.mg_none_of X G z_int,
      n_isinstance := PySem.W.mg_none_of X G z_isinstance,
      n_len := PySem.W.mg_none_of X G z_len,
      n_list := PySem.W.mg_none_of X G z_list,
      n_max := PySem.W.mg_none_of X G z_max,
      n_min := PySem.W.mg_none_of X G z_min,
      n_range := PySem.W.mg_none_of X G z_range,
      n_sum := PySem.W.mg_none_of X G z_sum,
      n_tuple := PySem.W.mg_none_of X G z_tuple,
      kt_SizeError_NumberError := kt_SizeError_NumberError,
      kt_NumberError_NumberError := kt_NumberError_NumberError,
      kt_SizeError_SizeError := kt_SizeError_SizeError,
      kt_NumberError_SizeError := kt_NumberError_SizeError,
      kt_SizeError_PrimeError := kt_SizeError_PrimeError,
      kt_NumberError_PrimeError := kt_NumberError_PrimeError,
      kt_SizeError_TwinError := kt_SizeError_TwinError,
      kt_NumberError_TwinError := kt_NumberError_TwinError,
      kt_SizeError_LegError := kt_SizeError_LegError,
      kt_NumberError_LegError := kt_NumberError_LegError,
      kt_SizeError_NodeError := kt_SizeError_NodeError,
      kt_NumberError_NodeError := kt_NumberError_NodeError,
      kt_SizeError_ValueError := kt_SizeError_ValueError,
      kt_NumberError_ValueError := kt_NumberError_ValueError,
      em_EndsError_EndsError := PySem.W.exm_ref hs_EndsError hd_EndsError ty_EndsError su_EndsError_EndsError,
      em_SizeError_EndsError := PySem.W.exm_ref hs_EndsError hd_EndsError ty_EndsError su_SizeError_EndsError,
      em_NumberError_EndsError := PySem.W.exm_ref hs_EndsError hd_EndsError ty_EndsError su_NumberError_EndsError,
      em_TwinError_EndsError := PySem.W.exm_ref hs_EndsError hd_EndsError ty_EndsError su_TwinError_EndsError,
      em_NodeError_EndsError := PySem.W.exm_ref hs_EndsError hd_EndsError ty_EndsError su_NodeError_EndsError,
      em_LegError_EndsError := PySem.W.exm_ref hs_EndsError hd_EndsError ty_EndsError su_LegError_EndsError,
      em_PrimeError_EndsError := PySem.W.exm_ref hs_EndsError hd_EndsError ty_EndsError su_PrimeError_EndsError,
      em_TextError_EndsError := PySem.W.exm_ref hs_EndsError hd_EndsError ty_EndsError su_TextError_EndsError,
      kb_turned_0_table_by := kbind_turned_0_table_by F_turned,
      kb_weighted_0_table_end_factor := kbind_weighted_0_table_end_factor F_weighted,
      kb_fixed_0_table_end_bit := kbind_fixed_0_table_end_bit F_fixed,
      kb_tied_ends_0_table_end_weight := kbind_tied_ends_0_table_end_weight F_tied_ends,
      kb_flipped_0_table_lot := kbind_flipped_0_table_lot F_flipped,
      kb_mirrored_table_0_table := kbind_mirrored_table_0_table F_mirrored_table }
  exact ⟨_, fun s v => .of_eq rfl, fun base _ _ => law_ok T⟩
theorem walk {l : PySem.W.OpenLaw} {q : Program} {loose : List Str} {XP : (Str → Option Value) → Heap → Prop} {YP : World → Heap → Prop} {d : DefRec} {K : Params → PySem.W.Frag} (hn : l.most = some 63) (hdf : d.params.defaults = [])
    (hY : ∀ (w : World) (h : Heap), YP w h → (K w.params).In h)
    (F : ∀ (w : World) (mg : Str → Option Value) (fa : Addr) (h : Heap), (K w.params).In h → h.Ns mainGlobals mg → mg d.name = some (.ref fa) → ∃ fd : FuncData, (∀ (s : Shared) (u : Value), BindsTo s fd ⟨[u], []⟩ [("script", u)]) ∧
      ∀ base : Heap, (K w.params).In base → base.Ns mainGlobals mg → FnOk l.prog w (K w.params) mg base (L2.CX l.prog w) 12 fa fd ["script"] (spLaw (K w.params))) :
    PySem.W.WalkO q loose XP YP l.row.toRowW d [] (fun f vs => PySem.call f vs) :=
  L2.walk_of (n := 63) (k := 12) (x := "script") (CX := fun w => L2.CX l.prog w) (sp := fun w => spLaw (K w.params)) hn (by decide) hdf ⟨rfl, by decide, by decide⟩ hY F (fun _ _ a ns hl _ hS => ⟨a, ns, rfl, hS, hl, fun _ => rfl⟩) noX
end Lw
set_option pp.maxSteps 300 in
open PySem PySem.W PyProof.Rows in
set_option maxRecDepth 100000 in
set_option maxHeartbeats 0 in
theorem PySem.Challenge.cw_endsflat_k22_plain_ways_holds : PySem.Challenge.rw_endsflat_k22_plain_ways.Holds := by
  w_on; o_law; k_head; (case hw => w_witness2)
  k_fill
  refine Lw.walk (l := PySem.Challenge.rw_endsflat_k22_plain_ways) rfl rfl (fun w h Y => PySem.W.kIn_of Y) ?F
  case F =>
    intro w mg fa h KX G hmg
    refine' Lw.all_mk KX G hmg ?a_EndsError ?hc_EndsError ?hg_EndsError ?hk_EndsError ?hs_EndsError ?hd_EndsError ?ha_EndsError ?hm_EndsError ?ty_EndsError ?kc_EndsError ?ex_EndsError ?a_SizeError ?hc_SizeError ?hg_SizeError ?hk_SizeError ?hs_SizeError ?hd_SizeError ?ha_SizeError ?hm_SizeError ?ty_SizeError ?kc_SizeError ?i_SizeError ?xl_SizeError ?xr_SizeError ?sa_SizeError ?xn_SizeError_count ?a_NumberError ?hc_NumberError ?hg_NumberError ?hk_NumberError ?hs_NumberError ?hd_NumberError ?ha_NumberError ?hm_NumberError ?ty_NumberError ?kc_NumberError ?i_NumberError ?xl_NumberError ?xr_NumberError ?sa_NumberError ?xn_NumberError_number ?a_TwinError ?hc_TwinError ?hg_TwinError ?hk_TwinError ?hs_TwinError ?hd_TwinError ?ha_TwinError ?hm_TwinError ?ty_TwinError ?kc_TwinError ?i_TwinError ?xl_TwinError ?xr_TwinError ?sa_TwinError ?xn_TwinError_number ?a_NodeError ?hc_NodeError ?hg_NodeError ?hk_NodeError ?hs_NodeError ?hd_NodeError ?ha_NodeError ?hm_NodeError ?ty_NodeError ?kc_NodeError ?i_NodeError ?xl_NodeError ?xr_NodeError ?sa_NodeError ?xn_NodeError_node ?a_LegError ?hc_LegError ?hg_LegError ?hk_LegError ?hs_LegError ?hd_LegError ?ha_LegError ?hm_LegError ?ty_LegError ?kc_LegError ?i_LegError ?xl_LegError ?xr_LegError ?sa_LegError ?xn_LegError_leg ?a_PrimeError ?hc_PrimeError ?hg_PrimeError ?hk_PrimeError ?hs_PrimeError ?hd_PrimeError ?ha_PrimeError ?hm_PrimeError ?ty_PrimeError ?kc_PrimeError ?i_PrimeError ?xl_PrimeError ?xr_PrimeError ?sa_PrimeError ?xn_PrimeError_prime ?a_TextError ?hc_TextError ?hg_TextError ?hk_TextError ?hs_TextError ?hd_TextError ?ha_TextError ?hm_TextError ?ty_TextError ?kc_TextError ?i_TextError ?xl_TextError ?xr_TextError ?sa_TextError ?xn_TextError_line ?a_Table ?pg_Table ?hd_Table ?po_Table ?sa_Table ?mk_Table ?kc_Table ?ha_Table ?hm_Table ?ks_Table ?na_Table_prime ?na_Table_ends ?na_Table_entries ?m_Table_init ?fn_Table_init ?hnD ?htD ?l_SizeError_init ?c_SizeError_init ?k_SizeError_init ?t_SizeError_init ?l_NumberError_init ?c_NumberError_init ?k_NumberError_init ?t_NumberError_init ?l_TwinError_init ?c_TwinError_init ?k_TwinError_init ?t_TwinError_init ?l_NodeError_init ?c_NodeError_init ?k_NodeError_init ?t_NodeError_init ?l_LegError_init ?c_LegError_init ?k_LegError_init ?t_LegError_init ?l_PrimeError_init ?c_PrimeError_init ?k_PrimeError_init ?t_PrimeError_init ?l_TextError_init ?c_TextError_init ?k_TextError_init ?t_TextError_init ?a_check_number ?l_check_number ?c_check_number ?k_check_number ?a_is_odd_prime ?l_is_odd_prime ?c_is_odd_prime ?k_is_odd_prime ?a_look_number ?l_look_number ?c_look_number ?k_look_number ?a_look_list ?l_look_list ?c_look_list ?k_look_list ?a_look_prime ?l_look_prime ?c_look_prime ?k_look_prime ?a_look_residue ?l_look_residue ?c_look_residue ?k_look_residue ?a_look_residues ?l_look_residues ?c_look_residues ?k_look_residues ?a_look_lot ?l_look_lot ?c_look_lot ?k_look_lot ?a_has ?l_has ?c_has ?k_has ?a_check_lot ?l_check_lot ?c_check_lot ?k_check_lot ?a_turned_lot ?l_turned_lot ?c_turned_lot ?k_turned_lot ?a_mirrored_lot ?l_mirrored_lot ?c_mirrored_lot ?k_mirrored_lot ?l_Table_init ?c_Table_init ?k_Table_init ?a_turned ?l_turned ?c_turned ?k_turned ?a_mirrored_table ?l_mirrored_table ?c_mirrored_table ?k_mirrored_table ?a_flipped ?l_flipped ?c_flipped ?k_flipped ?a_weighted ?l_weighted ?c_weighted ?k_weighted ?a_wider_lot ?l_wider_lot ?c_wider_lot ?k_wider_lot ?a_fixed ?l_fixed ?c_fixed ?k_fixed ?a_tied_ends ?l_tied_ends ?c_tied_ends ?k_tied_ends ?a_ulaw_draws ?l_ulaw_draws ?c_ulaw_draws ?k_ulaw_draws ?a_ulaw_next ?l_ulaw_next ?c_ulaw_next ?k_ulaw_next ?a_ulaw_prime ?l_ulaw_prime ?c_ulaw_prime ?k_ulaw_prime ?a_ulaw_residue ?l_ulaw_residue ?c_ulaw_residue ?k_ulaw_residue ?a_ulaw_whole ?l_ulaw_whole ?c_ulaw_whole ?k_ulaw_whole ?a_ulaw_got ?l_ulaw_got ?c_ulaw_got ?k_ulaw_got ?a_ulaw_same ?l_ulaw_same ?c_ulaw_same ?k_ulaw_same ?a_ulaw_bit_row ?l_ulaw_bit_row ?c_ulaw_bit_row ?k_ulaw_bit_row ?a_ulaw_lot_of ?l_ulaw_lot_of ?c_ulaw_lot_of ?k_ulaw_lot_of ?a_ulaw_names ?l_ulaw_names ?c_ulaw_names ?k_ulaw_names ?a_ulaw_done ?l_ulaw_done ?c_ulaw_done ?k_ulaw_done ?a_ulaw_tried ?l_ulaw_tried ?c_ulaw_tried ?k_ulaw_tried ?a_ulaw_ends_left ?l_ulaw_ends_left ?c_ulaw_ends_left ?k_ulaw_ends_left ?a_ulaw_old_lot ?l_ulaw_old_lot ?c_ulaw_old_lot ?k_ulaw_old_lot ?a_ulaw_reckoned ?l_ulaw_reckoned ?c_ulaw_reckoned ?k_ulaw_reckoned ?a_ulaw_right ?l_ulaw_right ?c_ulaw_right ?k_ulaw_right ?a_ulaw_named ?l_ulaw_named ?c_ulaw_named ?k_ulaw_named ?a_ulaw_refused ?l_ulaw_refused ?c_ulaw_refused ?k_ulaw_refused ?a_law ?l_law ?c_law ?k_law ?a_MOST ?a_THINGS ?a_MOST_ENDS ?z_ValueError ?z_all ?z_bool ?z_enumerate ?z_int ?z_isinstance ?z_len ?z_list ?z_max ?z_min ?z_range ?z_sum ?z_tuple ?kt_SizeError_NumberError ?kt_NumberError_NumberError ?kt_SizeError_SizeError ?kt_NumberError_SizeError ?kt_SizeError_PrimeError ?kt_NumberError_PrimeError ?kt_SizeError_TwinError ?kt_NumberError_TwinError ?kt_SizeError_LegError ?kt_NumberError_LegError ?kt_SizeError_NodeError ?kt_NumberError_NodeError ?kt_SizeError_ValueError ?kt_NumberError_ValueError ?su_EndsError_EndsError ?su_SizeError_EndsError ?su_NumberError_EndsError ?su_TwinError_EndsError ?su_NodeError_EndsError ?su_LegError_EndsError ?su_PrimeError_EndsError ?su_TextError_EndsError
    (case a_EndsError => k_is)
    (case hc_EndsError => k_is)
    (case hg_EndsError => k_is)
    (case hk_EndsError => k_is)
    (case hs_EndsError => k_is)
    (case hd_EndsError => k_is)
    (case ha_EndsError => k_is)
    (case hm_EndsError => k_is)
    (case ty_EndsError => k_is)
    (case kc_EndsError => k_is)
    (case ex_EndsError => k_exc)
    (case a_SizeError => k_is)
    (case hc_SizeError => k_is)
    (case hg_SizeError => k_is)
    (case hk_SizeError => k_is)
    (case hs_SizeError => k_is)
    (case hd_SizeError => k_is)
    (case ha_SizeError => k_is)
    (case hm_SizeError => k_is)
    (case ty_SizeError => k_is)
    (case kc_SizeError => k_is)
    (case i_SizeError => k_is)
    (case xl_SizeError => k_is)
    (case xr_SizeError => decide +kernel)
    (case sa_SizeError => k_is)
    (case xn_SizeError_count => k_is)
    (case a_NumberError => k_is)
    (case hc_NumberError => k_is)
    (case hg_NumberError => k_is)
    (case hk_NumberError => k_is)
    (case hs_NumberError => k_is)
    (case hd_NumberError => k_is)
    (case ha_NumberError => k_is)
    (case hm_NumberError => k_is)
    (case ty_NumberError => k_is)
    (case kc_NumberError => k_is)
    (case i_NumberError => k_is)
    (case xl_NumberError => k_is)
    (case xr_NumberError => decide +kernel)
    (case sa_NumberError => k_is)
    (case xn_NumberError_number => k_is)
    (case a_TwinError => k_is)
    (case hc_TwinError => k_is)
    (case hg_TwinError => k_is)
    (case hk_TwinError => k_is)
    (case hs_TwinError => k_is)
    (case hd_TwinError => k_is)
    (case ha_TwinError => k_is)
    (case hm_TwinError => k_is)
    (case ty_TwinError => k_is)
    (case kc_TwinError => k_is)
    (case i_TwinError => k_is)
    (case xl_TwinError => k_is)
    (case xr_TwinError => decide +kernel)
    (case sa_TwinError => k_is)
    (case xn_TwinError_number => k_is)
    (case a_NodeError => k_is)
    (case hc_NodeError => k_is)
    (case hg_NodeError => k_is)
    (case hk_NodeError => k_is)
    (case hs_NodeError => k_is)
    (case hd_NodeError => k_is)
    (case ha_NodeError => k_is)
    (case hm_NodeError => k_is)
    (case ty_NodeError => k_is)
    (case kc_NodeError => k_is)
    (case i_NodeError => k_is)
    (case xl_NodeError => k_is)
    (case xr_NodeError => decide +kernel)
    (case sa_NodeError => k_is)
    (case xn_NodeError_node => k_is)
    (case a_LegError => k_is)
    (case hc_LegError => k_is)
    (case hg_LegError => k_is)
    (case hk_LegError => k_is)
    (case hs_LegError => k_is)
    (case hd_LegError => k_is)
    (case ha_LegError => k_is)
    (case hm_LegError => k_is)
    (case ty_LegError => k_is)
    (case kc_LegError => k_is)
    (case i_LegError => k_is)
    (case xl_LegError => k_is)
    (case xr_LegError => decide +kernel)
    (case sa_LegError => k_is)
    (case xn_LegError_leg => k_is)
    (case a_PrimeError => k_is)
    (case hc_PrimeError => k_is)
    (case hg_PrimeError => k_is)
    (case hk_PrimeError => k_is)
    (case hs_PrimeError => k_is)
    (case hd_PrimeError => k_is)
    (case ha_PrimeError => k_is)
    (case hm_PrimeError => k_is)
    (case ty_PrimeError => k_is)
    (case kc_PrimeError => k_is)
    (case i_PrimeError => k_is)
    (case xl_PrimeError => k_is)
    (case xr_PrimeError => decide +kernel)
    (case sa_PrimeError => k_is)
    (case xn_PrimeError_prime => k_is)
    (case a_TextError => k_is)
    (case hc_TextError => k_is)
    (case hg_TextError => k_is)
    (case hk_TextError => k_is)
    (case hs_TextError => k_is)
    (case hd_TextError => k_is)
    (case ha_TextError => k_is)
    (case hm_TextError => k_is)
    (case ty_TextError => k_is)
    (case kc_TextError => k_is)
    (case i_TextError => k_is)
    (case xl_TextError => k_is)
    (case xr_TextError => decide +kernel)
    (case sa_TextError => k_is)
    (case xn_TextError_line => k_is)
    (case a_Table => k_is)
    (case pg_Table => k_is)
    (case hd_Table => k_is)
    (case po_Table => k_is)
    (case sa_Table => k_is)
    (case mk_Table => k_is)
    (case kc_Table => k_is)
    (case ha_Table => k_is)
    (case hm_Table => k_is)
    (case ks_Table => first | rfl | k_is)
    (case na_Table_prime => k_is)
    (case na_Table_ends => k_is)
    (case na_Table_entries => k_is)
    (case m_Table_init => k_is)
    (case fn_Table_init => k_is)
    (case hnD => k_is)
    (case htD => k_is)
    (case l_SizeError_init => k_is)
    (case c_SizeError_init => k_is)
    (case k_SizeError_init => k_is)
    (case t_SizeError_init => k_is)
    (case l_NumberError_init => k_is)
    (case c_NumberError_init => k_is)
    (case k_NumberError_init => k_is)
    (case t_NumberError_init => k_is)
    (case l_TwinError_init => k_is)
    (case c_TwinError_init => k_is)
    (case k_TwinError_init => k_is)
    (case t_TwinError_init => k_is)
    (case l_NodeError_init => k_is)
    (case c_NodeError_init => k_is)
    (case k_NodeError_init => k_is)
    (case t_NodeError_init => k_is)
    (case l_LegError_init => k_is)
    (case c_LegError_init => k_is)
    (case k_LegError_init => k_is)
    (case t_LegError_init => k_is)
    (case l_PrimeError_init => k_is)
    (case c_PrimeError_init => k_is)
    (case k_PrimeError_init => k_is)
    (case t_PrimeError_init => k_is)
    (case l_TextError_init => k_is)
    (case c_TextError_init => k_is)
    (case k_TextError_init => k_is)
    (case t_TextError_init => k_is)
    (case a_check_number => k_is)
    (case l_check_number => k_is)
    (case c_check_number => k_is)
    (case k_check_number => k_is)
    (case a_is_odd_prime => k_is)
    (case l_is_odd_prime => k_is)
    (case c_is_odd_prime => k_is)
    (case k_is_odd_prime => k_is)
    (case a_look_number => k_is)
    (case l_look_number => k_is)
    (case c_look_number => k_is)
    (case k_look_number => k_is)
    (case a_look_list => k_is)
    (case l_look_list => k_is)
    (case c_look_list => k_is)
    (case k_look_list => k_is)
    (case a_look_prime => k_is)
    (case l_look_prime => k_is)
    (case c_look_prime => k_is)
    (case k_look_prime => k_is)
    (case a_look_residue => k_is)
    (case l_look_residue => k_is)
    (case c_look_residue => k_is)
    (case k_look_residue => k_is)
    (case a_look_residues => k_is)
    (case l_look_residues => k_is)
    (case c_look_residues => k_is)
    (case k_look_residues => k_is)
    (case a_look_lot => k_is)
    (case l_look_lot => k_is)
    (case c_look_lot => k_is)
    (case k_look_lot => k_is)
    (case a_has => k_is)
    (case l_has => k_is)
    (case c_has => k_is)
    (case k_has => k_is)
    (case a_check_lot => k_is)
    (case l_check_lot => k_is)
    (case c_check_lot => k_is)
    (case k_check_lot => k_is)
    (case a_turned_lot => k_is)
    (case l_turned_lot => k_is)
    (case c_turned_lot => k_is)
    (case k_turned_lot => k_is)
    (case a_mirrored_lot => k_is)
    (case l_mirrored_lot => k_is)
    (case c_mirrored_lot => k_is)
    (case k_mirrored_lot => k_is)
    (case l_Table_init => k_is)
    (case c_Table_init => k_is)
    (case k_Table_init => k_is)
    (case a_turned => k_is)
    (case l_turned => k_is)
    (case c_turned => k_is)
    (case k_turned => k_is)
    (case a_mirrored_table => k_is)
    (case l_mirrored_table => k_is)
    (case c_mirrored_table => k_is)
    (case k_mirrored_table => k_is)
    (case a_flipped => k_is)
    (case l_flipped => k_is)
    (case c_flipped => k_is)
    (case k_flipped => k_is)
    (case a_weighted => k_is)
    (case l_weighted => k_is)
    (case c_weighted => k_is)
    (case k_weighted => k_is)
    (case a_wider_lot => k_is)
    (case l_wider_lot => k_is)
    (case c_wider_lot => k_is)
    (case k_wider_lot => k_is)
    (case a_fixed => k_is)
    (case l_fixed => k_is)
    (case c_fixed => k_is)
    (case k_fixed => k_is)
    (case a_tied_ends => k_is)
    (case l_tied_ends => k_is)
    (case c_tied_ends => k_is)
    (case k_tied_ends => k_is)
    (case a_ulaw_draws => k_is)
    (case l_ulaw_draws => k_is)
    (case c_ulaw_draws => k_is)
    (case k_ulaw_draws => k_is)
    (case a_ulaw_next => k_is)
    (case l_ulaw_next => k_is)
    (case c_ulaw_next => k_is)
    (case k_ulaw_next => k_is)
    (case a_ulaw_prime => k_is)
    (case l_ulaw_prime => k_is)
    (case c_ulaw_prime => k_is)
    (case k_ulaw_prime => k_is)
    (case a_ulaw_residue => k_is)
    (case l_ulaw_residue => k_is)
    (case c_ulaw_residue => k_is)
    (case k_ulaw_residue => k_is)
    (case a_ulaw_whole => k_is)
    (case l_ulaw_whole => k_is)
    (case c_ulaw_whole => k_is)
    (case k_ulaw_whole => k_is)
    (case a_ulaw_got => k_is)
    (case l_ulaw_got => k_is)
    (case c_ulaw_got => k_is)
    (case k_ulaw_got => k_is)
    (case a_ulaw_same => k_is)
    (case l_ulaw_same => k_is)
    (case c_ulaw_same => k_is)
    (case k_ulaw_same => k_is)
    (case a_ulaw_bit_row => k_is)
    (case l_ulaw_bit_row => k_is)
    (case c_ulaw_bit_row => k_is)
    (case k_ulaw_bit_row => k_is)
    (case a_ulaw_lot_of => k_is)
    (case l_ulaw_lot_of => k_is)
    (case c_ulaw_lot_of => k_is)
    (case k_ulaw_lot_of => k_is)
    (case a_ulaw_names => k_is)
    (case l_ulaw_names => k_is)
    (case c_ulaw_names => k_is)
    (case k_ulaw_names => k_is)
    (case a_ulaw_done => k_is)
    (case l_ulaw_done => k_is)
    (case c_ulaw_done => k_is)
    (case k_ulaw_done => k_is)
    (case a_ulaw_tried => k_is)
    (case l_ulaw_tried => k_is)
    (case c_ulaw_tried => k_is)
    (case k_ulaw_tried => k_is)
    (case a_ulaw_ends_left => k_is)
    (case l_ulaw_ends_left => k_is)
    (case c_ulaw_ends_left => k_is)
    (case k_ulaw_ends_left => k_is)
    (case a_ulaw_old_lot => k_is)
    (case l_ulaw_old_lot => k_is)
    (case c_ulaw_old_lot => k_is)
    (case k_ulaw_old_lot => k_is)
    (case a_ulaw_reckoned => k_is)
    (case l_ulaw_reckoned => k_is)
    (case c_ulaw_reckoned => k_is)
    (case k_ulaw_reckoned => k_is)
    (case a_ulaw_right => k_is)
    (case l_ulaw_right => k_is)
    (case c_ulaw_right => k_is)
    (case k_ulaw_right => k_is)
    (case a_ulaw_named => k_is)
    (case l_ulaw_named => k_is)
    (case c_ulaw_named => k_is)
    (case k_ulaw_named => k_is)
    (case a_ulaw_refused => k_is)
    (case l_ulaw_refused => k_is)
    (case c_ulaw_refused => k_is)
    (case k_ulaw_refused => k_is)
    (case a_law => k_is)
    (case l_law => k_is)
    (case c_law => k_is)
    (case k_law => k_is)
    (case a_MOST => k_is)
    (case a_THINGS => k_is)
    (case a_MOST_ENDS => k_is)
    (case z_ValueError => k_is)
    (case z_all => k_is)
    (case z_bool => k_is)
    (case z_enumerate => k_is)
    (case z_int => k_is)
    (case z_isinstance => k_is)
    (case z_len => k_is)
    (case z_list => k_is)
    (case z_max => k_is)
    (case z_min => k_is)
    (case z_range => k_is)
    (case z_sum => k_is)
    (case z_tuple => k_is)
    (case kt_SizeError_NumberError => first | rfl | k_is)
    (case kt_NumberError_NumberError => first | rfl | k_is)
    (case kt_SizeError_SizeError => first | rfl | k_is)
    (case kt_NumberError_SizeError => first | rfl | k_is)
    (case kt_SizeError_PrimeError => first | rfl | k_is)
    (case kt_NumberError_PrimeError => first | rfl | k_is)
    (case kt_SizeError_TwinError => first | rfl | k_is)
    (case kt_NumberError_TwinError => first | rfl | k_is)
    (case kt_SizeError_LegError => first | rfl | k_is)
    (case kt_NumberError_LegError => first | rfl | k_is)
    (case kt_SizeError_NodeError => first | rfl | k_is)
    (case kt_NumberError_NodeError => first | rfl | k_is)
    (case kt_SizeError_ValueError => first | rfl | k_is)
    (case kt_NumberError_ValueError => first | rfl | k_is)
    (case su_EndsError_EndsError => first | rfl | k_is)
    (case su_SizeError_EndsError => first | rfl | k_is)
    (case su_NumberError_EndsError => first | rfl | k_is)
    (case su_TwinError_EndsError => first | rfl | k_is)
    (case su_NodeError_EndsError => first | rfl | k_is)
    (case su_LegError_EndsError => first | rfl | k_is)
    (case su_PrimeError_EndsError => first | rfl | k_is)
    (case su_TextError_EndsError => first | rfl | k_is)